import PyProof.Rows.All
import Wide.All
import OpenK.AllK
import Wide.FinOn
import HandS.ForMost
import HandS.IsInst
import HandS.WideBits
import HandS.Walk
import HandS.Zip
import HandS.Conv
import HandS.SortRule
import HandS.SortInts
import HandS.Deep
import HandS.Style
import HandS.Codes
import HandS.SetFor
import HandS.TupSets
import KE.GoesEnum
import HandS.ExcSuper
import KE.KSuper
import KE.RegKSuper
import HandS.ExcField
import HandS.WordsExc
import HandS.TryMany
import HandS.Lambda
import HandS.EndOwn
import PySem.Challenge.RW_keyrules_k03_rooms_with_modes_and_parts
set_option Elab.async false
set_option linter.all false
set_option maxRecDepth 100000
namespace Kb
open PySem PySem.Spec PyProof.Rows L2
/-! ### isinstance(x, (A, B)): the tuple of classes is laid, not tracked -/
def tIsP (K : PySem.W.Frag) (A B : String) (te : TE) : TE := fun σ H Q => te σ H fun x H1 => ∃ t b, TyX K H1 x t ∧ PySem.W.kitAny K t [.type A, .type B] = some b ∧ Q (.bl b) H1
theorem two_ty {A B : String} : ∀ {us : List Value}, Vals [V.ty A, V.ty B] us → us = [Value.type A, Value.type B]
  | _, .cons a (.cons b .nil) => by cases a; cases b; rfl
section
variable {X : Cx} {p pos tpos : Pos} {e : Expr} {es : List Expr} {te : TE} {A B : String}
theorem pe_isP {kk : Nat} (he : PE X e te) (hg : Gl X "isinstance") (hm : X.mg "isinstance" = none) (hes : PA X es (tCons (tC (.ty A)) (tCons (tC (.ty B)) tNil)))
    (q1 : starEach [e, .Tuple es kk tpos] X.env = (false, eval e X.env) :: starEach [.Tuple es kk tpos] X.env := by rfl)
    (q2 : starEach [.Tuple es kk tpos] X.env = (false, eval (.Tuple es kk tpos) X.env) :: starEach [] X.env := by rfl)
    (q3 : (backTo pos (starEach [.Tuple es kk tpos] X.env)).any (·.1) = false := by rfl) :
    PE X (.Call (.Name "isinstance" p) [e, .Tuple es kk tpos] [] pos) (tIsP X.K A B te) := by
  constructor
  intro pp s0 sg H Q I hh
  refine wpAny_Call_Name_kw (ld_blt I hg hm PyProof.Rows.boot_isinstance ?_ (by decide) (by decide))
  refine PyProof.Rows.callWith_builtin1 ?_ q1 q3
  rw [q1]
  show wpAny _ _ (spliced ((false, eval e X.env) :: backTo pos (starEach [.Tuple es kk tpos] X.env))) _ _ s0
  refine Calls.spliced_cons (thn (he.run pp s0 sg H _ I hh) ?_)
  rintro u s1 ⟨x, H1, I1, rx, t, b, ty, hk, hq⟩
  rw [q2]
  show wpAny _ _ (spliced ((false, eval (.Tuple es kk tpos) X.env) :: backTo pos (starEach [] X.env))) _ _ s1
  refine Calls.spliced_cons (wpAny_Tuple_spliced (thn (hes.run tpos pp s1 sg H1 (fun ys H' => ys = [.ty A, .ty B] ∧ H' = H1) I1 ⟨rfl, rfl⟩) ?_))
  rintro us s2 ⟨ys, H2, I2, r2, rfl, rfl⟩
  have eu := two_ty r2
  subst eu
  refine ⟨by show 2 ≤ sizeLine; rw [sizeLine_eq]; omega, ?_⟩
  have I3 := I2.kept (h' := s2.heap.push { cls := .type "tuple", data := .seq [Value.type A, Value.type B].toArray }) (t' := s2.toks) fun b o z => Heap.get?_push_of_some _ z
  obtain ⟨P, Z, pz, hx⟩ := kit_of I3 rx ty
  refine Calls.spliced_nil ?_
  exact PySem.W.kia_tup Z I3.kIn pz (Heap.get?_push_size _ rfl) hk hx fun tk => ⟨.bl b, H2, I3.tok tk, rfl, hq⟩
end
/-! ### enumerate of a tuple -/
theorem meets_enT (l : Addr) (items : Array Value) :
    Meets (Builtin.«enumerate.__new__» ⟨[.type "enumerate", .ref l], []⟩) (fun _ R s => s.heap.IsTuple l items ∧
      R (.ok (.ret (.ref (s.heap.push { cls := .type "tuple_iterator", data := .fields #[.ref l, .int 0 0] }).objs.size)))
        { s with heap := (s.heap.push { cls := .type "tuple_iterator", data := .fields #[.ref l, .int 0 0] }).push { cls := .type "enumerate", data := .fields #[.none, .bool false, .ref s.heap.objs.size, rawInt 0, .none, .none] } }) :=
  .of_wp fun prog w A R s h => by
    obtain ⟨hp, gg, dd, tk, os⟩ := s
    obtain ⟨hl, h⟩ := h
    have hsub := sub_enumerate
    have q1 : ∀ {A' : Around} {E : Value → Shared → Prop} {Q : Value → Shared → Prop}, Q (.ref hp.objs.size) ⟨hp.push { cls := .type "tuple_iterator", data := .fields #[.ref l, .int 0 0] }, gg, dd, tk, os⟩ → wpAny (model prog w) A' (pyIter (.ref l)) Q E ⟨hp, gg, dd, tk, os⟩ :=
      fun q => wpAny_pyIter_tuple hl q
    wp_walk using q1
    refine wpAny_stack_any fun st => wpAny_pure ?_
    split
    · rename_i c _ _ _ _ _
      cases (c == Value.type "enumerate")
      · wp_walk using q1
        exact ⟨_, rfl, h⟩
      · wp_walk using q1
        exact ⟨_, rfl, h⟩
    · wp_walk using q1
      exact ⟨_, rfl, h⟩
theorem call_enT {prog : Program} {w : World} {A : Around} {E : Value → Shared → Prop} {s : Shared} {l : Addr} {items : Array Value} {Q : Value → Shared → Prop} (hL : s.heap.IsTuple l items)
    (h : ∀ h', IsEnum h' (s.heap.objs.size + 1) s.heap.objs.size 0 .none → h'.IsTupleIter s.heap.objs.size l 0 → h'.objs.size = s.heap.objs.size + 2 →
      (∀ b o, s.heap.get? b = some o → h'.get? b = some o) → Q (.ref (s.heap.objs.size + 1)) { s with heap := h' }) :
    wpAny (model prog w) A (call (.type "enumerate") [.ref l]) Q E s := by
  refine callType_new F.called_enumerate (by decide) (F.typeCall_enumerate_1 _) (F.newCall_enumerate_1 _) (fun obj => F.args_object_init_2 obj _) F.entry_enumerate_new (meets_enT l items) ⟨hL, ?_⟩
  have hz : (s.heap.push { cls := .type "tuple_iterator", data := .fields #[.ref l, .int 0 0] }).objs.size = s.heap.objs.size + 1 := Heap.size_push ..
  show _ ∧ _
  rw [hz]
  have he := Heap.get?_push_size (s.heap.push { cls := .type "tuple_iterator", data := .fields #[.ref l, .int 0 0] })
      (o := { cls := .type "enumerate", data := .fields #[.none, .bool false, .ref s.heap.objs.size, rawInt 0, .none, .none] }) rfl
  rw [hz] at he
  exact ⟨⟨_, he, rfl⟩, h _ he ⟨_, Heap.get?_push_of_some _ (Heap.get?_push_size _ rfl), rfl, rfl⟩ (by rw [Heap.size_push, hz]) fun b o z => Heap.get?_push_of_some _ (Heap.get?_push_of_some _ z)⟩
/-- the tuple at a, item by item with its number, each time a new pair -/
def IteT (K : PySem.W.Frag) (a : Addr) : It :=
  ⟨fun i H => ∃ xs x, SqT K H a xs ∧ xs[i]? = some x, fun i H v H' => ∃ T x, v = .ref T ∧ H T = none ∧ H' = upd H T (.tup [.int (i : Nat), x]) ∧ ∀ xs, SqT K H a xs → xs[i]? = some x, fun i H => ∃ xs : List V, SqT K H a xs ∧ xs.length ≤ i⟩
theorem turn_enT {P : Program} {w : World} {K : PySem.W.Frag} {elts : List Expr} {kk : Nat} {tpos : Pos} (a e it : Addr) :
    Turn P w K (.Tuple elts kk tpos) (IteT K a) [e, it] e (fun i h => (∃ old, IsEnum h e it ((i : Nat) : Int) old) ∧ h.IsTupleIter it a i ∧ e ≠ it ∧ a ≠ it) where
  mem := List.mem_cons_self
  obj := by
    rintro i h ⟨⟨old, he⟩, ⟨o, ho, hc, hd⟩, _⟩ b hb
    rcases List.mem_cons.mp hb with z | z
    · rw [z]; exact ⟨_, he, fun v q => by cases q⟩
    · rw [List.mem_singleton.mp z]
      exact ⟨o, ho, fun v q => by rw [hd] at q; cases q⟩
  keep := by
    rintro i h h' ⟨⟨old, he⟩, hi, hne⟩ k
    exact ⟨⟨old, k e List.mem_cons_self _ he⟩, hi.at fun o q => k it (List.mem_cons_of_mem _ List.mem_cons_self) o q, hne⟩
  item := by
    intro X hP hw hK hc i pp s sg H E I hf st hg
    subst hP hw hK
    obtain ⟨⟨old, he⟩, hit, hne, hai⟩ := st
    obtain ⟨xs, x, hq, hx⟩ := hg
    obtain ⟨its, rv, tp, hz⟩ := I.tuple hq
    have hil : i < its.toArray.size := by
      have e1 := rv.length
      have e2 := (List.getElem?_eq_some_iff.mp hx).1
      rw [List.size_toArray]
      omega
    have hef : e ∉ [it, a] := by
      intro z
      rcases List.mem_cons.mp z with z | z
      · exact hne z
      · have z' := List.mem_singleton.mp z
        subst z'
        obtain ⟨o, ho, hc', _⟩ := tp
        rw [he] at ho
        cases ho
        injection hc' with hc2; exact absurd hc2 (by decide)
    have helt : e < s.heap.objs.size := Heap.lt_size he
    have hitl : it < s.heap.objs.size := by obtain ⟨_, q, _⟩ := hit; exact Heap.lt_size q
    refine wpAny_pyNext_enum_itemD (Draws.tuple (show X.A.in1.handled = none from I.ok.hd hc) it a hai its.toArray) he (show _ ∧ _ from ⟨hit, tp⟩) hil hne hef fun u h' tk hP ho hs' hT hsz hk => ?_
    refine ⟨_, rfl, wpAny_letOwnedTupleGo_enum (s := { s with heap := h', toks := tk + 1 }) ho fun h2 he2 sb => ?_⟩
    have hT2 : h2.get? s.heap.objs.size = some { cls := .type "tuple", data := .seq #[.int i tk, u] } := (sb.2 _ (Nat.ne_of_gt helt)).trans hT
    have hxu : RelV x u := by
      obtain ⟨u', e1, r1⟩ := rv.get hx
      have e2 : its.toArray[i]? = some u := hP
      rw [List.getElem?_toArray, e1] at e2
      cases e2
      exact r1
    have I1 : Inv X pp sg (upd H s.heap.objs.size (.tup [.int (i : Nat), x])) { s with heap := h2, toks := tk + 1 } :=
      I.turnedNew (ch := [e, it]) (fun b ob hb q => (sb.2 b (fun z => hb (by simp [z]))).trans (hk b ob (fun z => hb (by simp [z])) (fun z => hb (by simp [z])) q)) hf (Nat.le_refl _)
        ⟨by show 2 ≤ sizeLine; decide, [.int i tk, u], .cons ⟨_, rfl⟩ (.cons hxu .nil), ⟨_, hT2, rfl, _, rfl⟩⟩
    refine ⟨.ref s.heap.objs.size, _, I1, rfl, ⟨_, x, rfl, I.hok.fresh (Nat.le_refl _), rfl, fun ys hy => by rw [I.tuple_inj hy hq]; exact hx⟩, ⟨⟨u, ?_⟩, hs'.1.at fun o q => (sb.2 it (Ne.symm hne)).trans q, hne, hai⟩, fun b hb => ?_⟩
    · have e1 : ((i + 1 : Nat) : Int) = (i : Int) + 1 := by omega
      rw [e1]
      exact he2
    · have hb' : b < s.heap.objs.size := by
        rcases List.mem_cons.mp hb with z | z
        · rw [z]; exact helt
        · rw [List.mem_singleton.mp z]; exact hitl
      rw [upd_ne (Nat.ne_of_lt hb')]
      exact (hf b hb).1
  done := by
    intro X hP hw hK hc i pp s sg H E I hf st hg
    subst hP hw hK
    obtain ⟨⟨old, he⟩, hit, hne, hai⟩ := st
    obtain ⟨xs, hq, hx⟩ := hg
    obtain ⟨its, rv, tp, hz⟩ := I.tuple hq
    obtain ⟨f0, f1, f2, f3, f4, f5⟩ := hf it (List.mem_cons_of_mem _ List.mem_cons_self)
    have hl := rv.length
    have hT : s.TypeIs (.ref e) "enumerate" := ⟨_, he, rfl⟩
    unfold pyNext
    refine wpAny_bind (wpAny_attempt (wpAny_callSpecial?_slot (name := Str.ofString "__next__") hT F.slot_enumerate_next
      (wpAny_call_entry F.slot_enumerate_next hT F.entry_enumerate_next ?_ (F.args_enumerate_next_1 _))))
    show wpAny _ _ (field (.ref e) 2 >>= _) _ _ _
    refine wpAny_bind (wpAny_field he rfl (x := .ref it) rfl ?_)
    refine wpAny_bind (wpAny_nextOf_tuple_end (I.ok.hd hc) hit tp (by simp; omega) fun h' x1 he' hx' => ?_)
    obtain ⟨o, ho, hc1⟩ := hx'
    refine wpAny_bind (wpAny_isInstance (T := "StopIteration") (b := true) ⟨o, ho, hc1⟩ isSubtype_stop ?_)
    exact wpAny_pure ⟨rfl, I.turned (t' := s.toks) (fun b o hb q => he' b o hb q) f0 f1 f3 f4 f5⟩
  self := fun A i s Q E st h => let ⟨⟨_, he⟩, _⟩ := st; wpAny_pyIter_enum he h
/-- enumerate(v), v a list or a tuple -/
def iEnumA (K : PySem.W.Frag) (ta : TA) : TI := fun σ H R => ta σ H fun vs H1 => ∃ a xs, vs = [.ref a] ∧ ((SqL K H1 a xs ∧ R (Ite K a) H1) ∨ (SqT K H1 a xs ∧ R (IteT K a) H1))
theorem pi_enumA {X : Cx} {e : Expr} {ta : TA} {p pos tpos : Pos} {elts : List Expr} {kk : Nat} (hg : Gl X "enumerate") (hm : X.mg "enumerate" = none) (ha : PA X [e] ta) (hs : starEach [e] X.env = [(false, eval e X.env)] := by rfl) :
    PI X (.Tuple elts kk tpos) (.Call (.Name "enumerate" p) [e] [] pos) (iEnumA X.K ta) := by
  constructor
  intro pp s0 sg H R I hh
  refine Call_ (ld_blt I hg hm boot_enumerate (PyProof.Rows.callWith_type1 (thn (ha.run pos pp s0 sg H _ I hh) ?_) hs rfl))
  rintro us s1 ⟨vs, H1, I1, r1, a, xs, rfl, hq⟩
  have eu : us = [Value.ref a] := by
    cases r1 with
    | cons r rr =>
      cases rr
      cases r
      rfl
  subst eu
  have hmem : ∀ b ∈ [s1.heap.objs.size + 1, s1.heap.objs.size], s1.heap.objs.size ≤ b := by
    intro b hb
    rcases List.mem_cons.mp hb with z | z
    · rw [z]; exact Nat.le_succ _
    · rw [List.mem_singleton.mp z]; exact Nat.le_refl _
  rcases hq with ⟨hq, q⟩ | ⟨hq, q⟩
  · obtain ⟨its, rv, pl, hz⟩ := I1.list hq
    refine call_enumerate_list pl.isList fun h' he hit hsz hk => wpAny_pyIter_enum he ?_
    exact ⟨s1.heap.objs.size + 1, [s1.heap.objs.size + 1, s1.heap.objs.size], _, _, H1, rfl, I1.kept (t' := s1.toks) hk, turn_enum a (s1.heap.objs.size + 1) s1.heap.objs.size, ⟨⟨.none, he⟩, hit, Nat.succ_ne_self _⟩,
      fun b hb => I1.fpOk (hmem b hb) (I1.hok.fresh (hmem b hb)), q⟩
  · obtain ⟨its, rv, tp, hz⟩ := I1.tuple hq
    refine call_enT tp fun h' he hit hsz hk => wpAny_pyIter_enum he ?_
    exact ⟨s1.heap.objs.size + 1, [s1.heap.objs.size + 1, s1.heap.objs.size], _, _, H1, rfl, I1.kept (t' := s1.toks) hk, turn_enT a (s1.heap.objs.size + 1) s1.heap.objs.size,
      ⟨⟨.none, he⟩, hit, Nat.succ_ne_self _, Nat.ne_of_lt (by obtain ⟨o, ho, _⟩ := tp; exact Heap.lt_size ho)⟩, fun b hb => I1.fpOk (hmem b hb) (I1.hok.fresh (hmem b hb)), q⟩
/-- both kinds as one walk -/
theorem walk_enT {K : PySem.W.Frag} {a : Addr} {xs : List V} : Walk (IteT K a) xs.length (fun H => SqT K H a xs) (YPair (fun i => some (.int (i : Nat))) (fun i => xs[i]?)) := by
  refine ⟨fun i _ hi q => ⟨xs, xs[i], q, by simp [hi]⟩, fun _ q => ⟨xs, q, Nat.le_refl _⟩, ?_⟩
  rintro i H v H' _ q ⟨T, x, h1, h2, h3, h4⟩
  exact ⟨T, .int (i : Nat), x, h1, h2, h3, rfl, h4 xs q⟩
end Kb
namespace Kb
open PySem PySem.Spec PyProof.Rows L2
/-! ### heaps -/
theorem same_new {H : Hp} {p : Addr} {o : HO} (h : H p = none) : Same H (upd H p o) := fun b x e => by rw [upd_ne (ne_of_none e h)]; exact e
theorem Same.tup {K : PySem.W.Frag} {H H' : Hp} {a : Addr} {xs : List V} (e : Same H H') (h : SqT K H a xs) : SqT K H' a xs := by
  rcases h with (h | ⟨o, h⟩) | h
  · exact .inl (.inl (e _ _ h))
  · exact .inl (.inr ⟨o, e _ _ h⟩)
  · exact .inr h
/-- the heap without what stands at b -/
def hid (b : Addr) (H : Hp) : Hp := fun a => if a = b then none else H a
theorem hid_le (b : Addr) (H : Hp) : Same (hid b H) H := by
  intro a o h
  unfold hid at h
  split at h
  · cases h
  · exact h
theorem hid_mono {b : Addr} {H H' : Hp} (e : Same H H') : Same (hid b H) (hid b H') := by
  intro a o h
  unfold hid at h ⊢
  split at h
  · cases h
  · rename_i n
    rw [if_neg n]
    exact e _ _ h
theorem hid_at {b a : Addr} {H : Hp} {o : HO} (h : H a = some o) (n : a ≠ b) : hid b H a = some o := by
  unfold hid
  rw [if_neg n]
  exact h
theorem hid_free {b a : Addr} {H : Hp} (h : H a = none) : hid b H a = none := by
  unfold hid
  split
  · rfl
  · exact h
theorem Same.mk2 {H : Hp} {p q : Addr} {o u : HO} (h : H p = none) (h2 : (upd H p o) q = none) : Same H (upd (upd H p o) q u) := (same_new h).trans (same_new h2)
theorem back {H H' : Hp} {p : Addr} (e : Same H H') (h : H' p = none) : H p = none := e.free h
theorem hid_upd {b : Addr} {H : Hp} {o : HO} : hid b (upd H b o) = hid b H := by
  funext a
  unfold hid
  split
  · rfl
  · rename_i n
    rw [upd_ne n]
/-! ### natural numbers as values -/
abbrev nv (n : Nat) : V := .int (n : Int)
theorem cast1 {x : Nat} : ((1 : Int) = (x : Int)) = (1 = x) := by rw [eq_iff_iff]; omega
theorem cast0 {x : Nat} : ((0 : Int) = (x : Int)) = (0 = x) := by rw [eq_iff_iff]; omega
abbrev nvs (l : List Nat) : List V := l.map nv
section
variable {X : Cx}
theorem op_orU : OpR X (binaryOp .BitOr) (fun x y H Q => ∃ n m : Nat, x = nv n ∧ y = nv m ∧ Q (nv (n ||| m)) H) := by
  intro pp s sg H x y v u Q I rx ry h
  obtain ⟨n, m, rfl, rfl, q⟩ := h
  refine op_or pp s sg H _ _ v u Q I rx ry ⟨_, _, rfl, rfl, ?_⟩
  show Q (.int (Builtin.bitOr (n : Int) (m : Int))) H
  rw [bitOr_nn (Int.natCast_nonneg _) (Int.natCast_nonneg _), Int.toNat_natCast, Int.toNat_natCast]
  exact q
theorem bitAnd_nn {n m : Nat} : Builtin.bitAnd (n : Int) (m : Int) = ((n &&& m : Nat) : Int) := by
  unfold Builtin.bitAnd
  rw [decide_eq_true (Int.natCast_nonneg n), decide_eq_true (Int.natCast_nonneg m)]
  rfl
theorem op_andU : OpR X (binaryOp .BitAnd) (fun x y H Q => ∃ n m : Nat, x = nv n ∧ y = nv m ∧ Q (nv (n &&& m)) H) := by
  intro pp s sg H x y v u Q I rx ry h
  obtain ⟨n, m, rfl, rfl, q⟩ := h
  refine op_and pp s sg H _ _ v u Q I rx ry ⟨_, _, rfl, rfl, ?_⟩
  show Q (.int (Builtin.bitAnd (n : Int) (m : Int))) H
  rw [bitAnd_nn]
  exact q
theorem op_shrU : OpR X (binaryOp .RShift) (fun x y H Q => ∃ n k : Nat, x = nv n ∧ y = nv k ∧ Q (nv (n >>> k)) H) := by
  intro pp s sg H x y v u Q I rx ry h
  obtain ⟨n, k, rfl, rfl, q⟩ := h
  refine op_shrN pp s sg H _ _ v u Q I rx ry ⟨_, _, rfl, rfl, ?_⟩
  rw [Nat.shiftRight_eq_div_pow] at q
  have e : ((n : Int) / 2 ^ k) = ((n / 2 ^ k : Nat) : Int) := by
    rw [Int.natCast_ediv, Int.natCast_pow]
    rfl
  rw [e]
  exact q
theorem op_shlU : OpR X (binaryOp .LShift) (fun x y H Q => ∃ k : Nat, x = .int 1 ∧ y = nv k ∧ k ≤ 1000000 ∧ Q (nv (1 <<< k)) H) := by
  intro pp s sg H x y v u Q I rx ry h
  obtain ⟨k, rfl, rfl, hk, q⟩ := h
  refine op_oneShl pp s sg H _ _ v u Q I rx ry ⟨_, rfl, rfl, by omega, ?_⟩
  have e : (2 : Int) ^ k = ((1 <<< k : Nat) : Int) := by
    rw [Nat.shiftLeft_eq, Nat.one_mul, Int.natCast_pow]
    rfl
  rw [e]
  exact q
end
/-! ### what isn't a whole number -/
def NotInt (K : PySem.W.Frag) (H : Hp) (x : V) : Prop := ∃ t b1 b2, TyX K H x t ∧ PySem.W.kitOne K t (.type "int") = some b1 ∧ PySem.W.kitOne K t (.type "bool") = some b2 ∧ (b1 && !b2) = false
theorem kit_ii {K : PySem.W.Frag} : PySem.W.kitOne K (.type "int") (.type "int") = some true := kit_ty (by decide +kernel)
theorem kit_ib {K : PySem.W.Frag} : PySem.W.kitOne K (.type "int") (.type "bool") = some false := kit_ty (by decide +kernel)
theorem kit_lp {K : PySem.W.Frag} : PySem.W.kitAny K (.type "list") [.type "list", .type "tuple"] = some true :=
  kitAny_cons (b := true) (kit_ty (by decide +kernel)) (fun h => nomatch h) fun _ => rfl
theorem kit_tp {K : PySem.W.Frag} : PySem.W.kitAny K (.type "tuple") [.type "list", .type "tuple"] = some true :=
  kitAny_cons (b := false) (kit_ty (by decide +kernel)) (fun _ => kitAny_cons (b := true) (kit_ty (by decide +kernel)) (fun h => nomatch h) fun _ => rfl) fun h => nomatch h
theorem tyInt {K : PySem.W.Frag} {H : Hp} (i : Int) : TyX K H (.int i) (.type "int") := .base (.int i)
/-- a list or a tuple of these -/
def Seq (K : PySem.W.Frag) (H : Hp) (a : Addr) (xs : List V) : Prop := SqL K H a xs ∨ SqT K H a xs
theorem Same.sq {K : PySem.W.Frag} {H H' : Hp} {a : Addr} {xs : List V} (e : Same H H') (h : Seq K H a xs) : Seq K H' a xs := h.elim (fun h => .inl (Same.seq e h)) fun h => .inr (Kb.Same.tup e h)
theorem tyL {K : PySem.W.Frag} {H : Hp} {a : Addr} {xs : List V} (h : SqL K H a xs) : TyX K H (.ref a) (.type "list") := by
  rcases h with (h | ⟨o, h⟩) | ⟨o, its, n, hk, hc, _⟩
  · exact .base (.lst h)
  · exact .base (.frz h)
  · exact .kList hk hc
theorem tyT {K : PySem.W.Frag} {H : Hp} {a : Addr} {xs : List V} (h : SqT K H a xs) : TyX K H (.ref a) (.type "tuple") := by
  rcases h with (h | ⟨o, h⟩) | ⟨o, its, n, hk, hc, _⟩
  · exact .base (.tup h)
  · exact .fTuple h
  · exact .kTuple hk hc
/-! ### for over a list or a tuple -/
def iSeq (K : PySem.W.Frag) (tl : TE) : TI := fun σ H R => tl σ H fun x H1 => ∃ a, x = .ref a ∧ (((∃ xs, SqL K H1 a xs) ∧ R (Itl K a) H1) ∨ ((∃ xs, SqT K H1 a xs) ∧ R (Itt K a) H1))
theorem pi_seq {X : Cx} {tg l : Expr} {tl : TE} (hl : PE X l tl) : PI X tg l (iSeq X.K tl) := by
  constructor
  intro pp s0 sg H R I hh
  refine thn (hl.run pp s0 sg H _ I hh) ?_
  rintro v s1 ⟨x, H1, I1, r1, a, rfl, q⟩
  cases r1
  have new : ∀ b ∈ [s1.heap.objs.size], FpOk X pp H1 b := fun b hb => by
    rw [List.mem_singleton.mp hb]
    exact I1.fpOk (Nat.le_refl _) (I1.hok.fresh (Nat.le_refl _))
  rcases q with ⟨⟨xs, hq⟩, q⟩ | ⟨⟨xs, hq⟩, q⟩
  · obtain ⟨its, _, pl, _⟩ := I1.list hq
    exact wpAny_pyIter_list pl.isList ⟨_, _, _, _, H1, rfl, I1.kept (t' := s1.toks) fun b o z => Heap.get?_push_of_some _ z, turn_list a s1.heap.objs.size, ⟨_, Heap.get?_push_size _ rfl, rfl, rfl⟩, new, q⟩
  · obtain ⟨its, _, tp, _⟩ := I1.tuple hq
    exact wpAny_pyIter_tuple (show s1.heap.IsTuple a its.toArray from tp) ⟨_, _, _, _, H1, rfl, I1.kept (t' := s1.toks) fun b o z => Heap.get?_push_of_some _ z, turn_tuple a s1.heap.objs.size, ⟨_, Heap.get?_push_size _ rfl, rfl, rfl⟩, new, q⟩
end Kb
namespace SrtO
open PySem PyProof.Rows Srt
/-! ### sorted of a tuple; of tuples of ints of any lengths -/
section
variable {prog : Program} {w : World} {A : Around} {E : Value → Shared → Prop} {s : Shared}
theorem collect_tup {l : Addr} {vs : List Value} {Q : List Value → Shared → Prop} (hl : s.heap.IsTuple l vs.toArray)
    (h : Q vs { s with heap := (s.heap.push (seqObj "list" #[] 0)).update s.heap.objs.size (Obj.mapSeq (· ++ vs.toArray)) }) (hsz : vs.length ≤ sizeLine) :
    wpAny (model prog w) A (collect (.ref l)) Q E s := by
  obtain ⟨o, ho, hc, n, hd⟩ := id hl
  unfold collect
  refine wpAny_bind (wpAny_runValue (codeAny_builtin entry_proto_collect' ?_))
  show wpAny _ _ (do again (.builtin "list.__iadd__" ⟨[← newList [], .ref l], []⟩)) _ _ s
  refine wpAny_bind (wpAny_newList (wpAny_pure ⟨Code.quiet_builtin _ (by decide +kernel), codeAny_builtin entry_list_iadd' ?_⟩) (Nat.zero_le _))
  show wpAny _ _ (Builtin.List.listExtendWith (.ref s.heap.objs.size) (.ref l) (.ref s.heap.objs.size)) _ _ { s with heap := s.heap.push (seqObj "list" #[] 0) }
  unfold Builtin.List.listExtendWith
  have ho' : (s.heap.push (seqObj "list" #[] 0)).get? l = some o := Heap.get?_push_of_some _ ho
  refine wpAny_bind (wpAny_typeOf (T := "tuple") ⟨o, ho', hc⟩ ?_)
  have ht : (Value.type "tuple" == Value.type "tuple") = true := by rfl
  rw [if_pos (by rw [ht]; simp)]
  refine wpAny_bind (listItems_at ho' hd ?_)
  refine wpAny_bind (listItems_at (xs := #[]) (n := 0) (Heap.get?_push_size _ rfl) rfl ?_)
  rw [if_neg (by simp)]
  refine wpAny_bind (listUpdate_at (xs := #[]) (n := 0) (Heap.get?_push_size _ rfl) rfl ?_ (Nat.zero_le _) (by show (#[] ++ vs.toArray).size ≤ sizeLine + 1; simp only [Array.size_append, List.size_toArray, List.length_nil]; omega))
  refine wpAny_pure ?_
  show wpAny (model prog w) A (do
      let o ← load s.heap.objs.size
      match o.data with
      | .seq xs _ => pure xs.toList
      | _ => unsupported "internal:collect") Q E { s with heap := (s.heap.push (seqObj "list" #[] 0)).update s.heap.objs.size (Obj.mapSeq (· ++ vs.toArray)) }
  refine wpAny_bind (wpAny_load (get?_update_seq (Heap.get?_push_size _ rfl) _) ?_)
  show wpAny _ _ (pure ((#[] : Array Value) ++ vs.toArray).toList) Q E _
  rw [show ((#[] : Array Value) ++ vs.toArray).toList = vs by simp]
  exact wpAny_pure h
/-- as sorted_ord, of a list or a tuple -/
theorem sorted_ordA {l : Addr} {vs : List Value} {ltv : Value → Value → Bool} {Q : Value → Shared → Prop} (O : Swo ltv) (hl : s.heap.IsList l vs.toArray ∨ s.heap.IsTuple l vs.toArray) (hz : vs.length ≤ sizeLine)
    (hS : 2 ≤ vs.length → ∀ (h₁ : Heap) (a : Addr), h₁.get? a = some (seqObj "list" vs.toArray 0) → (∀ b o, s.heap.get? b = some o → b ≠ a ∧ h₁.get? b = some o) → SortableO prog w A.in1.in1 { s with heap := h₁ } a vs ltv)
    (h : ∀ out : List Value, Srtd ltv out → Stb ltv out vs → Q (.ref (s.heap.objs.size + 1)) { s with heap := sortedAll s.heap vs out.toArray }) :
    wpAny (model prog w) A (call (.builtin "sorted") [.ref l]) Q E s := by
  rcases hl with hl | hl
  · exact sorted_ord O hl hz hS h
  refine Calls.call_function_entry kind_sorted plain_sorted entry_sorted (args_sorted1 _) ?_
  unfold Builtin.«sorted»
  refine wpAny_bind (m := checkCount "sorted" 1 1 _) (wpAny_pure ?_)
  refine wpAny_bind (collect_tup hl ?_ hz)
  refine wpAny_bind (wpAny_newList ?_ hz)
  have hsz : ((s.heap.push (seqObj "list" #[] 0)).update s.heap.objs.size (Obj.mapSeq (· ++ vs.toArray))).objs.size = s.heap.objs.size + 1 := by
    rw [Heap.size_update, size_push']
  have hoL : (((s.heap.push (seqObj "list" #[] 0)).update s.heap.objs.size (Obj.mapSeq (· ++ vs.toArray))).push (seqObj "list" vs.toArray 0)).get? (s.heap.objs.size + 1) = some (seqObj "list" vs.toArray 0) := by
    rw [← hsz]; exact Heap.get?_push_size _ rfl
  have keep : ∀ b o, s.heap.get? b = some o → b ≠ s.heap.objs.size + 1 ∧ (((s.heap.push (seqObj "list" #[] 0)).update s.heap.objs.size (Obj.mapSeq (· ++ vs.toArray))).push (seqObj "list" vs.toArray 0)).get? b = some o := fun b o q => by
    have hlt : b < s.heap.objs.size := Heap.lt_size q
    refine ⟨Nat.ne_of_lt (Nat.lt_succ_of_lt hlt), Heap.get?_push_of_some _ ?_⟩
    rw [Heap.get?_update_ne _ _ _ _ (Nat.ne_of_lt hlt)]
    exact Heap.get?_push_of_some _ q
  show wpAny _ _ _ _ _ { s with heap := ((s.heap.push (seqObj "list" #[] 0)).update s.heap.objs.size (Obj.mapSeq (· ++ vs.toArray))).push (seqObj "list" vs.toArray 0) }
  rw [hsz]
  refine wpAny_bind (wpAny_holding (wpAny_call_entry slot_list_sort ⟨_, hoL, rfl⟩ entry_list_sort (list_sort_ord O hoL hz (fun h2 => hS h2 _ _ hoL keep) fun out hs hb => ⟨_, rfl, ?_⟩) (args_list_sort _)))
  exact wpAny_pure ⟨_, rfl, h out hs hb⟩
/-- a tuple of these ints, not empty -/
def IsTupI (h : Heap) (v : Value) (ns : List Int) : Prop := ns ≠ [] ∧ ∃ a o xs n, v = .ref a ∧ h.get? a = some o ∧ o.cls = .type "tuple" ∧ o.data = .seq xs n ∧ IntsAre xs.toList ns
theorem lexLt_asym : ∀ (a b : List Int), HT.lexLt a b = true → HT.lexLt b a = false
  | [], [], h => by cases h
  | [], _ :: _, _ => rfl
  | _ :: _, [], h => by cases h
  | x :: xs, y :: ys, h => by
    rw [HT.lexLt_cons] at h ⊢
    by_cases e : x = y
    · rw [if_pos e] at h
      rw [if_pos e.symm]
      exact lexLt_asym xs ys h
    · rw [if_neg e] at h
      rw [if_neg (Ne.symm e)]
      have := of_decide_eq_true h
      exact decide_eq_false (by omega)
theorem lexLt_tr : ∀ (a b c : List Int), HT.lexLt b a = false → HT.lexLt c b = false → HT.lexLt c a = false
  | [], _, [], _, _ => rfl
  | [], [], _ :: _, _, _ => rfl
  | [], _ :: _, _ :: _, _, _ => rfl
  | _ :: _, [], _, h, _ => by cases h
  | _ :: _, _ :: _, [], _, h => by cases h
  | x :: xs, y :: ys, z :: zs, h1, h2 => by
    rw [HT.lexLt_cons] at h1 h2 ⊢
    by_cases e1 : y = x
    · rw [if_pos e1] at h1
      by_cases e2 : z = y
      · rw [if_pos e2] at h2
        rw [if_pos (e2.trans e1)]
        exact lexLt_tr xs ys zs h1 h2
      · rw [if_neg e2] at h2
        rw [if_neg (fun q => e2 (q.trans e1.symm))]
        have := of_decide_eq_false h2
        exact decide_eq_false (by omega)
    · rw [if_neg e1] at h1
      have a1 := of_decide_eq_false h1
      by_cases e2 : z = y
      · rw [if_neg (fun q => e1 (e2.symm.trans q))]
        exact decide_eq_false (by omega)
      · rw [if_neg e2] at h2
        have a2 := of_decide_eq_false h2
        rw [if_neg (by omega)]
        exact decide_eq_false (by omega)
theorem lexLt_irr : ∀ a : List Int, HT.lexLt a a = false
  | [] => rfl
  | x :: xs => by rw [HT.lexLt_cons, if_pos rfl]; exact lexLt_irr xs
/-- neither is below the other: they are one -/
theorem lexLt_eq : ∀ {a b : List Int}, HT.lexLt a b = false → HT.lexLt b a = false → a = b
  | [], [], _, _ => rfl
  | [], _ :: _, h, _ => by cases h
  | _ :: _, [], _, h => by cases h
  | x :: xs, y :: ys, h1, h2 => by
    rw [HT.lexLt_cons] at h1 h2
    by_cases e : x = y
    · rw [if_pos e] at h1
      rw [if_pos e.symm] at h2
      rw [e, lexLt_eq h1 h2]
    · rw [if_neg e] at h1
      rw [if_neg (Ne.symm e)] at h2
      have := of_decide_eq_false h1
      have := of_decide_eq_false h2
      omega
theorem swo_lexI {α : Type} (k : α → List Int) : Swo fun v u => HT.lexLt (k v) (k u) := ⟨fun x y h => lexLt_asym _ _ h, fun x y z h1 h2 => lexLt_tr _ _ _ h1 h2⟩
theorem kat_ints {Q : Bool → Shared → Prop} {X Y : Nat} : ∀ {vs ws : List Value} {ns ms : List Int} {i : Nat}, IntsAre vs ns → IntsAre ws ms → ns.length + Y = ms.length + X → Q (HT.lexLt ns ms) s →
    PySem.W.KatLex prog w A true (decide (X < Y)) Q (vs.zip ws) i s
  | [], [], _, _, i, .nil, .nil, hl, q => by
    rw [List.zip_nil_left]
    refine PySem.W.kat_nil ?_
    rw [decide_eq_false (by simp only [List.length_nil] at hl; omega)]
    exact q
  | [], _ :: _, _, _, i, .nil, .cons c u r, hl, q => by
    rw [List.zip_nil_left]
    refine PySem.W.kat_nil ?_
    rw [decide_eq_true (by simp only [List.length_nil, List.length_cons] at hl; omega)]
    exact q
  | _ :: _, [], _, _, i, .cons c u r, .nil, hl, q => by
    rw [List.zip_nil_right]
    refine PySem.W.kat_nil ?_
    rw [decide_eq_false (by simp only [List.length_nil, List.length_cons] at hl; omega)]
    exact q
  | _ :: vs, _ :: ws, _, _, i, .cons x t r1, .cons y u r2, hl, q => by
    rw [List.zip_cons_cons]
    refine PySem.W.kat_cons (SeqAt.EqAt.int_int x t y u prog w _ _ ?_)
    rw [HT.lexLt_cons] at q
    refine PySem.W.kat_go (fun e => ?_) fun e => ?_
    · have ex : x = y := by simpa using e
      rw [if_pos ex] at q
      exact PySem.W.kat_yes (kat_ints r1 r2 (by simp only [List.length_cons] at hl; omega) q)
    · have ex : ¬ x = y := by simpa using e
      rw [if_neg ex] at q
      refine PySem.W.kat_no ?_
      cases i with
      | zero => exact oneLt_int q
      | succ j => exact PySem.W.kat_one _ _ (PyProof.Rows.lt_int q)
theorem tupI_cmp {vs : List Value} {k : Value → List Int} (hp : ∀ v ∈ vs, IsTupI s.heap v (k v)) : Cmp prog w A s (tuples' true) (fun p => p.1 ∈ vs) (lt2 fun v u => HT.lexLt (k v) (k u)) := by
  intro p q hm hm'
  obtain ⟨_, a, o, xs, n, e, ho, hc, hd, hi⟩ := hp _ hm
  obtain ⟨_, a', o', xs', n', e', ho', hc', hd', hi'⟩ := hp _ hm'
  show wpAny (model prog w) A (keyLt' (tuples' true) p.1 q.1) (fun r s' => s' = s ∧ r = HT.lexLt (k p.1) (k q.1)) (fun _ _ => False) s
  rw [e] at hi
  rw [e'] at hi'
  rw [e, e']
  refine PySem.W.kat_lt ho hd ho' hd' ?_
  have l1 := hi.length
  have l2 := hi'.length
  rw [Array.length_toList] at l1 l2
  exact kat_ints hi hi' (by omega) ⟨rfl, rfl⟩
theorem tupI_firsts {h : Heap} {k : Value → List Int} : ∀ {vs : List Value}, (∀ v ∈ vs, IsTupI h v (k v)) → ∃ fs, PySem.W.KatTups h vs fs ∧ fs.length = vs.length ∧ ∀ f ∈ fs, ∃ x t, f = Value.int x t
  | [], _ => ⟨[], trivial, rfl, fun f hf => nomatch hf⟩
  | v :: vs, hp => by
    obtain ⟨fs, h1, h2, h3⟩ := tupI_firsts (vs := vs) fun u hu => hp u (List.mem_cons_of_mem _ hu)
    obtain ⟨ne, a, o, xs, n, e, ho, hc, hd, hi⟩ := hp v List.mem_cons_self
    cases hk : k v with
    | nil => exact absurd hk ne
    | cons x r =>
      rw [hk] at hi
      generalize hxl : xs.toList = xl at hi
      cases hi with
      | cons _ t hr =>
        refine ⟨.int x t :: fs, ⟨⟨a, o, xs, n, e, ho, hc, hd, by rw [← Array.getElem?_toList, hxl]; rfl⟩, h1⟩, by rw [List.length_cons, List.length_cons, h2], fun f hf => ?_⟩
        rcases List.mem_cons.mp hf with e | hf
        · exact ⟨x, t, e⟩
        · exact h3 f hf
theorem tupI_sortable {a : Addr} {vs : List Value} {k : Value → List Int} (h0 : 0 < vs.length) (hp : ∀ v ∈ vs, IsTupI s.heap v (k v)) (ha : ∀ o, s.heap.get? a = some o → o.cls ≠ .type "tuple") : SortableO prog w A s a vs fun v u => HT.lexLt (k v) (k u) := by
  intro h' keep
  have hp' : ∀ v ∈ vs, IsTupI h' v (k v) := fun v hm => by
    obtain ⟨ne, b, o, xs, n, e, ho, hc, hd, hi⟩ := hp v hm
    exact ⟨ne, b, o, xs, n, e, keep b o (fun z => by subst z; exact ha o ho hc) ho, hc, hd, hi⟩
  obtain ⟨fs, h1, h2, h3⟩ := tupI_firsts hp'
  refine ⟨tuples' true, fun Q E hq => ?_, tupI_cmp hp'⟩
  refine PySem.W.kat_kind (T := .type "int") h1 (by omega) (fun f hm => ?_) (by rfl) ?_
  · obtain ⟨x, t, rfl⟩ := h3 f hm
    exact PySem.W.Looks.now
  · have e : (Value.type "int" != Value.type "tuple") = true := by first | decide +kernel | rfl | decide
    rw [e]
    exact hq
end
end SrtO
namespace Kb
open PySem PySem.Spec PyProof.Rows L2
/-- sorted(xs) of a list or a tuple of ints -/
def rSortedIA (K : PySem.W.Frag) : List V → Hp → VK → Prop := fun vs H Q => ∃ (a : Addr) (ns : List Int), vs = [V.ref a] ∧ Seq K H a (ns.map V.int) ∧ ∀ (ns' : List Int) (p : Addr), ns'.Perm ns → ns'.Pairwise (· ≤ ·) → H p = none → Q (.ref p) (upd H p (.lst (ns'.map V.int)))
/-- sorted(xs) of a list or a tuple of tuples of ints, none empty -/
def rSortedTA (K : PySem.W.Frag) : List V → Hp → VK → Prop := fun vs H Q => ∃ (a : Addr) (xs : List V) (k : V → List Int), vs = [V.ref a] ∧ Seq K H a xs ∧ (∀ x ∈ xs, k x ≠ [] ∧ ∃ t, x = .ref t ∧ SqT K H t ((k x).map V.int)) ∧
  ∀ ys p, SrtO.Srtd (fun x y => HT.lexLt (k x) (k y)) ys → SrtO.Stb (fun x y => HT.lexLt (k x) (k y)) ys xs → H p = none → Q (.ref p) (upd H p (.lst ys))
section
variable {X : Cx} {K : PySem.W.Frag}
theorem sorted_in {pins : List (Addr × Obj)} {σ : L2.St} {H : Hp} {s : Shared} {a : Addr} {xs : List V} (I : Inv X pins σ H s) (h : Seq X.K H a xs) : ∃ its : List Value, Vals xs its ∧ (s.heap.IsList a its.toArray ∨ s.heap.IsTuple a its.toArray) ∧ its.length ≤ sizeLine := by
  rcases h with h | h
  · obtain ⟨its, rv, hl, hz⟩ := I.list h
    exact ⟨its, rv, .inl hl.isList, by rw [← rv.length]; exact hz⟩
  · obtain ⟨its, rv, hl, hz⟩ := I.tuple h
    exact ⟨its, rv, .inr hl, by rw [← rv.length]; exact hz⟩
theorem sortIA (hK : X.K = K) : CallR X (.builtin "sorted") (rSortedIA K) := by
  subst hK
  intro pins s σ H vs us Q I r h
  obtain ⟨a, ns, rfl, hs, q⟩ := h
  obtain ⟨its, rv, hl, hz⟩ := sorted_in I hs
  rw [Vals.ref1 r]
  have hi := rv.ints
  refine SrtO.sorted_ordA SrtO.swo_int hl hz (fun h2 h₁ a' _ _ => SrtO.ints_sortable hi h2) fun out h1 h2 => ?_
  obtain ⟨k1, k2, k3⟩ := SrtO.ints_out hi h1 h2
  obtain ⟨ep, he'⟩ := PyProof.Rows.sortedAll_at s.heap its out.toArray
  have hlen : ((out.map SrtO.iv).map V.int).length ≤ sizeLine := by
    have e := rv.length
    rw [List.length_map] at e
    rw [List.length_map, k2.length_eq]
    omega
  exact ⟨.ref _, upd H (s.heap.objs.size + 1) (.lst ((out.map SrtO.iv).map V.int)), I.laid (t' := s.toks) (fun _ _ => PyProof.Rows.sortedAll_old) (Nat.le_succ _) ⟨hlen, out, ep, vals_of_ints k1, he'⟩, rfl, q _ _ k2 k3 (I.hok.fresh (Nat.le_succ _))⟩
theorem sortTA (hK : X.K = K) : CallR X (.builtin "sorted") (rSortedTA K) := by
  subst hK
  intro pins s σ H vs us Q I r h
  obtain ⟨a, xs, k, rfl, hs, hx, q⟩ := h
  obtain ⟨its, rv, hl, hz⟩ := sorted_in I hs
  rw [Vals.ref1 r]
  obtain ⟨e1, e2⟩ := bkV_refs rv fun x m => by
    obtain ⟨_, t, e, _⟩ := hx x m
    exact ⟨t, e⟩
  have hp : ∀ v ∈ its, SrtO.IsTupI s.heap v (k (bkV v)) := fun v hv => by
    obtain ⟨t, rfl⟩ := e2 v hv
    have hm : V.ref t ∈ xs := by
      rw [e1]
      exact List.mem_map.mpr ⟨_, hv, rfl⟩
    obtain ⟨ne, t', e, ht⟩ := hx _ hm
    cases e
    obtain ⟨its2, r2, hT, _⟩ := I.tuple ht
    obtain ⟨o, ho, hc, n, hd⟩ := hT
    exact ⟨ne, t, o, _, n, rfl, ho, hc, hd, by rw [List.toList_toArray]; exact r2.ints⟩
  refine SrtO.sorted_ordA (SrtO.swo_lexI fun v => k (bkV v)) hl hz (fun h2 h₁ a' ha kk => ?_) fun out h1 h2 => ?_
  · refine SrtO.tupI_sortable (s := { s with heap := h₁ }) (by omega) (fun v hm => ?_) fun o e => ?_
    · obtain ⟨ne, b, o, xs, n, e, ho, hc, hd, hi⟩ := hp v hm
      exact ⟨ne, b, o, xs, n, e, (kk b o ho).2, hc, hd, hi⟩
    · have e' : some o = some (seqObj "list" its.toArray 0) := e.symm.trans ha
      cases e'
      intro c
      exact absurd (Value.type.inj c) (by decide)
  · obtain ⟨ep, he'⟩ := PyProof.Rows.sortedAll_at s.heap its out.toArray
    have h3 : ∀ u ∈ out, ∃ a, u = Value.ref a := fun u hu => e2 u (h2.perm.mem_iff.mp hu)
    have hb : SrtO.Stb (fun x y => HT.lexLt (k x) (k y)) (out.map bkV) xs := by
      rw [e1]
      exact SrtO.Stb.map (SrtO.swo_lexI k) bkV h2
    refine ⟨.ref _, upd H (s.heap.objs.size + 1) (.lst (out.map bkV)), I.laid (t' := s.toks) (fun _ _ => PyProof.Rows.sortedAll_old) (Nat.le_succ _) ⟨?_, out, ep, bkV_vals h3, he'⟩, rfl, q _ _ (SrtO.srtd_map h1) hb (I.hok.fresh (Nat.le_succ _))⟩
    rw [hb.len, rv.length]
    exact hz
end
end Kb
namespace Kb
open PySem PySem.Spec PyProof.Rows L2
/-! ### the rules with the written part told by its name -/
section
variable {X : Cx} {K : PySem.W.Frag} {a b c e o : Expr} {es : List Expr} {ta tb te to tl : TE} {t : TA} {pos apos cpos p tpos : Pos} {tg : Expr} {elts : List Expr} {kk : Nat}
theorem pe_globI {x : Str} {n : Int} (hg : Gl X x) (hm : ∃ t, X.mg x = some (.int n t)) (hd : (x == ("__debug__" : Str)) = false := by decide) : PE X (.Name x pos) (tC (.int n)) := by
  obtain ⟨t, e⟩ := hm
  exact pe_glob hg e ⟨_, rfl⟩ hd
theorem truthK (hK : X.K = K) (ha : PE X a ta) (he : ∀ whole, isTrue a X.env whole = (do let v ← whole; standAt a.pos; holding [v] (truthy v))) :
    PT X a (fun σ H Q => ta σ H fun x H' => ∃ k, TruV K x H' k ∧ Q k H') := by subst hK; exact pt_truth ha he
theorem ixL (hK : X.K = K) : IxR X (rIxL K) := by subst hK; exact ix_list
theorem ixT (hK : X.K = K) : IxR X (rIxT K) := by subst hK; exact ix_tup
/-- of a list or a tuple -/
def rIxA (K : PySem.W.Frag) : R2 := fun x y H Q => ∃ p xs i v, x = .ref p ∧ y = .int i ∧ Seq K H p xs ∧ atI xs i = some v ∧ Q v H
theorem ixA (hK : X.K = K) : IxR X (rIxA K) := by
  subst hK
  intro value slice pp s sg H x y v u Q I rx ry h hs
  obtain ⟨q, xs, i, z, rfl, rfl, hq, hz, k⟩ := h
  rcases hq with hq | hq
  · exact ix_list value slice pp s sg H _ _ v u Q I rx ry ⟨q, xs, i, z, rfl, rfl, hq, hz, k⟩ hs
  · exact ix_tup value slice pp s sg H _ _ v u Q I rx ry ⟨q, xs, i, z, rfl, rfl, hq, hz, k⟩ hs
def rLenA (K : PySem.W.Frag) : List V → Hp → VK → Prop := fun xs H Q => ∃ q ys, xs = [.ref q] ∧ Seq K H q ys ∧ Q (.int (ys.length : Nat)) H
theorem lenK (hK : X.K = K) : CallR X (.builtin "len") (rLenA K) := by subst hK; exact call_len_seq
def rListOf (K : PySem.W.Frag) : List V → Hp → VK → Prop := fun xs H Q => ∃ q ys, xs = [.ref q] ∧ Seq K H q ys ∧ ∀ l, H l = none → Q (.ref l) (upd H l (.lst ys))
theorem listOfK (hK : X.K = K) : CallR X (.type "list") (rListOf K) := by subst hK; exact call_list_of
def rTupOf (K : PySem.W.Frag) : List V → Hp → VK → Prop := fun xs H Q => ∃ q ys, xs = [.ref q] ∧ ((SqL K H q ys ∧ ∀ l, H l = none → Q (.ref l) (upd H l (.tup ys))) ∨ (SqT K H q ys ∧ Q (.ref q) H))
theorem tupOfK (hK : X.K = K) : CallR X (.type "tuple") (rTupOf K) := by subst hK; exact call_tuple_of
theorem isiK (hK : X.K = K) : CallR X (.builtin "isinstance") (rIsi K) := by subst hK; exact call_isi
theorem inK (hK : X.K = K) : OpR X (compareOp .In) (rIn K false) := by subst hK; exact op_in_seq
theorem notInK (hK : X.K = K) : OpR X (compareOp .NotIn) (rIn K true) := by subst hK; exact op_notIn_seq
theorem eqDK (hK : X.K = K) (hu : X.A.units + 64 < cLine) : OpR X (compareOp .Eq) (rEqD K) := by subst hK; exact op_eqD hu
theorem neDK (hK : X.K = K) (hu : X.A.units + 64 < cLine) : OpR X (compareOp .NotEq) (rNeD K) := by subst hK; exact op_neD hu
theorem inDK (hK : X.K = K) (hu : X.A.units + 65 < cLine) : OpR X (compareOp .In) (rInD K) := by subst hK; exact op_inD hu
theorem notInDK (hK : X.K = K) (hu : X.A.units + 65 < cLine) : OpR X (compareOp .NotIn) (rNotInD K) := by subst hK; exact op_notInD hu
theorem slL (hK : X.K = K) : SlR X (rSlL K) := by subst hK; exact sl_list
theorem slT (hK : X.K = K) : SlR X (rSlT K) := by subst hK; exact sl_tup
theorem catTK (hK : X.K = K) : OpR X (binaryOp .Add) (rCatT K) := by subst hK; exact op_catT
theorem fldK {f : Str} (hK : X.K = K) (he : PE X e ta) (hb : attributeBase e f X.env (eval e X.env) = eval e X.env) : PE X (.Attribute e f pos) (tFld K ta f) := by subst hK; exact pe_fld he hb
theorem sortIK (hK : X.K = K) : CallR X (.builtin "sorted") (rSortedI K) := by subst hK; exact cr_sortedI
theorem sortPK (hK : X.K = K) : CallR X (.builtin "sorted") (rSortedPO K) := by subst hK; exact cr_sortedPO
theorem sumK (hK : X.K = K) (hc : X.calm = true) : CallR X (.builtin "sum") (rSum K) := by subst hK; exact cr_sum hc
theorem plistK (hK : X.K = K) (h : PE X a tl) : PI X tg a (iList K tl) := by subst hK; exact pi_list h
theorem ptupK (hK : X.K = K) (h : PE X a tl) : PI X tg a (iTup K tl) := by subst hK; exact pi_tup h
theorem pseqK (hK : X.K = K) (h : PE X a tl) : PI X tg a (iSeq K tl) := by subst hK; exact pi_seq h
theorem penumK (hK : X.K = K) (hg : Gl X "enumerate") (hm : X.mg "enumerate" = none) (ha : PA X [e] t) (hs : starEach [e] X.env = [(false, eval e X.env)] := by rfl) :
    PI X (.Tuple elts kk tpos) (.Call (.Name "enumerate" p) [e] [] pos) (iEnumA K t) := by subst hK; exact pi_enumA hg hm ha hs
theorem pzipK {e2 : Expr} (hK : X.K = K) (hg : Gl X "zip") (hm : X.mg "zip" = none) (ha : PA X [e, e2] t) (hs : starEach [e, e2] X.env = (false, eval e X.env) :: starEach [e2] X.env := by rfl)
    (hpl : (backTo pos (starEach [e2] X.env)).any (·.1) = false := by rfl) : PI X (.Tuple elts kk tpos) (.Call (.Name "zip" p) [e, e2] [] pos) (RZ.iZipA K t) := by subst hK; exact RZ.pi_zipA hg hm ha hs hpl
theorem gtupK {u : TGs} {n : Nat} (hK : X.K = K) (hc : X.calm = true) (h : PGs X es u) (hn : (assignEach es X.env).length = n := by rfl) (hst : (assignEach es X.env).findIdx? (·.1) = none := by rfl) :
    PG X (.Tuple es kk pos) (gTup K n u) := by subst hK; exact pg_tup hc h hn hst
theorem isPK {A B : String} (hK : X.K = K) (he : PE X e te) (hg : Gl X "isinstance") (hm : X.mg "isinstance" = none) (hes : PA X es (tCons (tC (.ty A)) (tCons (tC (.ty B)) tNil)))
    (q1 : starEach [e, .Tuple es kk tpos] X.env = (false, eval e X.env) :: starEach [.Tuple es kk tpos] X.env := by rfl)
    (q2 : starEach [.Tuple es kk tpos] X.env = (false, eval (.Tuple es kk tpos) X.env) :: starEach [] X.env := by rfl)
    (q3 : (backTo pos (starEach [.Tuple es kk tpos] X.env)).any (·.1) = false := by rfl) :
    PE X (.Call (.Name "isinstance" p) [e, .Tuple es kk tpos] [] pos) (tIsP K A B te) := by subst hK; exact pe_isP he hg hm hes q1 q2 q3
theorem bmK {name : Str} {T id : String} {r : V → List V → Hp → VK → Prop} (hK : X.K = K) (pa : PlainAttrs T) (slot : Slot T name id) (hty : typeOf (.builtin id) = pure (.type "method_descriptor")) (hm : MtR X id r) (ho : PE X o to) (ha : PA X (e :: es) t)
    (q1 : attributeBase o name X.env (eval o X.env) = eval o X.env := by rfl)
    (q2 : ((backTo cpos (starEach (e :: es) X.env)).all (fun x => !x.1) && (backToKw cpos (keywordEach [] X.env)).all (fun x => x.1.isSome)
      && decide ((e :: es).length + ([] : List Keyword).length + (if ([] : List Keyword).isEmpty then 0 else 1) < 30)) = true := by rfl)
    (q3 : (apos.endLine == cpos.line) = true := by rfl) (q4 : starEach (e :: es) X.env = (false, eval e X.env) :: starEach es X.env := by rfl) (q5 : (backTo cpos (starEach es X.env)).any (·.1) = false := by rfl) :
    PE X (.Call (.Attribute o name apos) (e :: es) [] cpos) (tBM K T r to t) := by subst hK; exact pe_bm pa slot hty hm ho ha q1 q2 q3 q4 q5
theorem bm0K {name : Str} {T id : String} {r : V → List V → Hp → VK → Prop} (hK : X.K = K) (pa : PlainAttrs T) (slot : Slot T name id) (hty : typeOf (.builtin id) = pure (.type "method_descriptor")) (hm : MtR X id r) (ho : PE X o to)
    (q1 : attributeBase o name X.env (eval o X.env) = eval o X.env := by rfl) (q3 : (apos.endLine == cpos.line) = true := by rfl) :
    PE X (.Call (.Attribute o name apos) [] [] cpos) (tBM0 K T r to) := by subst hK; exact pe_bm0 pa slot hty hm ho q1 q3
theorem ty_lst {H : Hp} {q : Addr} {xs : List V} (h : SqL K H q xs) : tyV K "list" (.ref q) H := .inl ⟨rfl, _, h⟩
end
/-! ### comprehensions whose element and test leave the heap as it is -/
section
variable {K : PySem.W.Frag} {σ : L2.St} {H : Hp} {Q : VK} {D : Ends} {tt : TT} {te tl : TE} {ta : TA} {j : Nat} {tb : TS}
theorem set_wipe {σ : L2.St} {j : Nat} {x : Option V} : (σ.set j none).set j x = σ.set j x := List.set_set ..
theorem lcR1 (n : Nat) (p : Nat → Bool) (f : Nat → V) (h : ∀ R : List V → Hp → Prop, R [nv n] H → ta σ H R) (hn : n < 100000)
    (hs : ∀ (i : Nat) (H' : Hp) (Q1 : VK) (Q2 : Hp → Prop), i < n → Same H H' → (p i = true → Q1 (f i) H') → (p i = false → Q2 H') → tt (σ.set j (some (nv i))) H' fun b H3 => if b = true then te (σ.set j (some (nv i))) H3 Q1 else Q2 H3)
    (hd : ∀ L, H L = none → Q (.ref L) (upd H L (.lst (((List.range n).filter p).map f)))) : tLc (iRng1 ta) (gName j) tt te [j] σ H Q := by
  refine h _ ⟨(n : Int), rfl, by omega, by omega, fun L hL => ?_⟩
  have take_s : ∀ i : Nat, (List.range (i + 1)).filter p = (List.range i).filter p ++ (if p i = true then [i] else []) := by
    intro i
    rw [List.range_succ, List.filter_append, List.filter_cons, List.filter_nil]
  have e0 : (n : Int).toNat = n := Int.toNat_natCast n
  rw [e0]
  refine lc_range (lo := 0) (n := n) (fun i H' => H' = upd H L (.lst (((List.range i).filter p).map f))) rfl (fun i H' hi e => ?_) (fun H' e => ?_)
  · subst e
    have e1 : (0 : Int) + (i : Int) = (i : Int) := Int.zero_add _
    rw [e1]
    have ew : (wipe σ [j]).set j (some (nv i)) = σ.set j (some (nv i)) := set_wipe
    show wipe ((wipe σ [j]).set j (some (nv i))) [j] = wipe σ [j] ∧ tt ((wipe σ [j]).set j (some (nv i))) _ _
    rw [ew]
    refine ⟨List.set_set .., hs i _ _ _ hi (same_new hL) (fun hp => ?_) (fun hp => ?_)⟩
    · refine ⟨_, upd_same, ?_, ?_⟩
      · have := List.length_filter_le p (List.range i)
        rw [List.length_range] at this
        rw [List.length_map, sizeLine_eq]
        omega
      · rw [upd_upd, take_s, hp, if_pos rfl, List.map_append]
        rfl
    · rw [take_s, hp, if_neg Bool.false_ne_true, List.append_nil]
  · subst e
    exact hd L hL
/-- over a list or a tuple -/
theorem lcS (a : Addr) (xs : List V) (p : V → Bool) (f : V → V) (h : ∀ R : V → Hp → Prop, R (.ref a) H → tl σ H R) (hx : Seq K H a xs) (hn : xs.length < 100000)
    (hs : ∀ (x : V) (H' : Hp) (Q1 : VK) (Q2 : Hp → Prop), x ∈ xs → Same H H' → (p x = true → Q1 (f x) H') → (p x = false → Q2 H') → tt (σ.set j (some x)) H' fun b H3 => if b = true then te (σ.set j (some x)) H3 Q1 else Q2 H3)
    (hd : ∀ L, H L = none → Q (.ref L) (upd H L (.lst ((xs.filter p).map f)))) : tLc (iSeq K tl) (gName j) tt te [j] σ H Q := by
  have take_s : ∀ (i : Nat) (x : V), xs[i]? = some x → (xs.take (i + 1)).filter p = (xs.take i).filter p ++ (if p x = true then [x] else []) := by
    intro i x e
    rw [List.take_add_one, e, List.filter_append]
    show _ ++ [x].filter p = _
    rw [List.filter_cons, List.filter_nil]
  have step : ∀ (L : Addr), H L = none → ∀ (i : Nat) (x : V) (H' : Hp), xs[i]? = some x → H' = upd H L (.lst (((xs.take i).filter p).map f)) →
      gName j x (wipe σ [j]) H' fun σ2 H2 => wipe σ2 [j] = wipe σ [j] ∧ tt σ2 H2 fun b H3 => if b = true then te σ2 H3 fun y H4 => ∃ acc, H4 L = some (.lst acc) ∧ acc.length < sizeLine ∧ upd H4 L (.lst (acc ++ [y])) = upd H L (.lst (((xs.take (i + 1)).filter p).map f)) else H3 = upd H L (.lst (((xs.take (i + 1)).filter p).map f)) := by
    intro L hL i x H' hi e
    subst e
    have ew : (wipe σ [j]).set j (some x) = σ.set j (some x) := set_wipe
    show wipe ((wipe σ [j]).set j (some x)) [j] = wipe σ [j] ∧ tt ((wipe σ [j]).set j (some x)) _ _
    rw [ew]
    refine ⟨List.set_set .., hs x _ _ _ (List.mem_of_getElem? hi) (same_new hL) (fun hp => ?_) (fun hp => ?_)⟩
    · refine ⟨_, upd_same, ?_, ?_⟩
      · have h1 := List.length_filter_le p (xs.take i)
        have h2 := List.length_take_le i xs
        rw [List.length_map, sizeLine_eq]
        have := List.length_take_le' i xs
        omega
      · rw [upd_upd, take_s i x hi, hp, if_pos rfl, List.map_append]
        rfl
    · rw [take_s i x hi, hp, if_neg Bool.false_ne_true, List.append_nil]
  have fin : ∀ L, H L = none → ∀ H', H' = upd H L (.lst (((xs.take xs.length).filter p).map f)) → Q (.ref L) H' := by
    intro L hL H' e
    rw [List.take_length] at e
    subst e
    exact hd L hL
  rcases hx with hx | hx
  · exact h _ ⟨a, rfl, .inl ⟨⟨xs, hx⟩, fun L hL => lc_list (xs := xs) (fun i H' => H' = upd H L (.lst (((xs.take i).filter p).map f))) rfl (fun i H' _ e => by subst e; exact Same.seq (same_new hL) hx) (fun i x H' hi e => step L hL i x H' hi e) (fin L hL)⟩⟩
  · exact h _ ⟨a, rfl, .inr ⟨⟨xs, hx⟩, fun L hL => lc_tup (xs := xs) (fun i H' => H' = upd H L (.lst (((xs.take i).filter p).map f))) rfl (fun i H' _ e => by subst e; exact Kb.Same.tup (same_new hL) hx) (fun i x H' hi e => step L hL i x H' hi e) (fin L hL)⟩⟩
/-- over a range, whatever the element and the test do: Pv of the turn, the heap and the list so far -/
theorem lcR1G (n : Nat) (Pv : Addr → Nat → Hp → List V → Prop) (h : ∀ R : List V → Hp → Prop, R [nv n] H → ta σ H R) (hn : n < 100000) (h0 : ∀ L, H L = none → Pv L 0 (upd H L (.lst [])) [])
    (hs : ∀ (L : Addr) (i : Nat) (H' : Hp) (acc : List V), H L = none → i < n → H' L = some (.lst acc) → Pv L i H' acc → tt (σ.set j (some (nv i))) H' fun b H3 =>
      if b = true then te (σ.set j (some (nv i))) H3 fun y H4 => H4 L = some (.lst acc) ∧ Pv L (i + 1) (upd H4 L (.lst (acc ++ [y]))) (acc ++ [y]) else H3 L = some (.lst acc) ∧ Pv L (i + 1) H3 acc)
    (mt : ∀ σ H (Q1 Q2 : Bool → Hp → Prop), (∀ b H', Q1 b H' → Q2 b H') → tt σ H Q1 → tt σ H Q2) (me : ∀ σ H (Q1 Q2 : VK), (∀ v H', Q1 v H' → Q2 v H') → te σ H Q1 → te σ H Q2)
    (hd : ∀ (L : Addr) (H' : Hp) (acc : List V), H L = none → H' L = some (.lst acc) → Pv L n H' acc → Q (.ref L) H') : tLc (iRng1 ta) (gName j) tt te [j] σ H Q := by
  refine h _ ⟨(n : Int), rfl, by omega, by omega, fun L hL => ?_⟩
  have e0 : (n : Int).toNat = n := Int.toNat_natCast n
  rw [e0]
  refine lc_range (lo := 0) (n := n) (fun i H' => ∃ acc, H' L = some (.lst acc) ∧ acc.length ≤ i ∧ Pv L i H' acc) ⟨[], upd_same, Nat.zero_le _, h0 L hL⟩ ?_ ?_
  · rintro i H' hi ⟨acc, e1, e2, p⟩
    have e3 : (0 : Int) + (i : Int) = (i : Int) := Int.zero_add _
    rw [e3]
    have ew : (wipe σ [j]).set j (some (nv i)) = σ.set j (some (nv i)) := set_wipe
    show wipe ((wipe σ [j]).set j (some (nv i))) [j] = wipe σ [j] ∧ tt ((wipe σ [j]).set j (some (nv i))) _ _
    rw [ew]
    refine ⟨List.set_set .., mt _ _ _ _ (fun b H3 q => ?_) (hs L i H' acc hL hi e1 p)⟩
    cases b with
    | true =>
      refine me _ _ _ _ (fun y H4 q => ?_) q
      obtain ⟨q1, q2⟩ := q
      exact ⟨acc, q1, by rw [sizeLine_eq]; omega, _, upd_same, by rw [List.length_append]; exact Nat.add_le_add e2 (Nat.le_refl 1), q2⟩
    | false =>
      obtain ⟨q1, q2⟩ := q
      exact ⟨acc, q1, Nat.le_succ_of_le e2, q2⟩
  · rintro H' ⟨acc, e1, _, p⟩
    exact hd L H' acc hL e1 p
/-! ### loops -/
theorem forR1 (n : Nat) (Pv : Nat → L2.St → Hp → Prop) (h : ∀ R : List V → Hp → Prop, R [nv n] H → ta σ H R) (hn : n < 100000) (h0 : Pv 0 σ H)
    (hs : ∀ (i : Nat) (σ' : L2.St) (H' : Hp), i < n → Pv i σ' H' → tb { D with nx := Pv (i + 1), ct := Pv (i + 1), bk := D.nx } (σ'.set j (some (nv i))) H') (hd : ∀ σ' H', Pv n σ' H' → D.nx σ' H') : tFor (iRng1 ta) (gName j) tb D σ H := by
  refine h _ ⟨(n : Int), rfl, by omega, by omega, ?_⟩
  have e0 : (n : Int).toNat = n := Int.toNat_natCast n
  rw [e0]
  refine for_range (lo := 0) (n := n) Pv h0 (fun i σ' H' hi e => ?_) hd
  have e1 : (0 : Int) + (i : Int) = (i : Int) := Int.zero_add _
  rw [e1]
  exact hs i σ' H' hi e
theorem forR2 (lo n : Nat) (Pv : Nat → L2.St → Hp → Prop) (h : ∀ R : List V → Hp → Prop, R [nv lo, nv n] H → ta σ H R) (hn : lo < 100000 ∧ n < 100000) (h0 : Pv 0 σ H)
    (hs : ∀ (i : Nat) (σ' : L2.St) (H' : Hp), lo + i < n → Pv i σ' H' → tb { D with nx := Pv (i + 1), ct := Pv (i + 1), bk := D.nx } (σ'.set j (some (nv (lo + i)))) H') (hd : ∀ σ' H', Pv (n - lo) σ' H' → D.nx σ' H') : tFor (iRng2 ta) (gName j) tb D σ H := by
  refine h _ ⟨(lo : Int), (n : Int), rfl, ⟨by omega, by omega, by omega, by omega⟩, ?_⟩
  have e0 : ((n : Int) - (lo : Int)).toNat = n - lo := by omega
  rw [e0]
  refine for_range (lo := (lo : Int)) (n := n - lo) Pv h0 (fun i σ' H' hi e => ?_) hd
  have e1 : (lo : Int) + (i : Int) = ((lo + i : Nat) : Int) := (Int.natCast_add ..).symm
  rw [e1]
  exact hs i σ' H' (by omega) e
/-- what a loop over a list or a tuple wants: the heap G that it stands in is kept -/
def LoopOk (K : PySem.W.Frag) (g : TG) (tb : TS) (D : Ends) (σ : L2.St) (x : V) (H : Hp) : Prop := ∃ (a : Addr) (xs : List V) (Pv : Nat → L2.St → Hp → Prop) (G : Hp), x = .ref a ∧ Pv 0 σ H ∧ Seq K G a xs ∧ (∀ i σ' H', Pv i σ' H' → Same G H') ∧
  (∀ (i : Nat) (x : V) (σ' : L2.St) (H' : Hp), xs[i]? = some x → Pv i σ' H' → g x σ' H' fun σ2 H2 => tb { D with nx := Pv (i + 1), ct := Pv (i + 1), bk := D.nx } σ2 H2) ∧ (∀ σ' H', Pv xs.length σ' H' → D.nx σ' H')
theorem LoopOk.go {g : TG} {x : V} (h : LoopOk K g tb D σ x H) : ∃ a, x = .ref a ∧ (((∃ xs, SqL K H a xs) ∧ (fun J H1 => ∃ W : Nat → Nat → L2.St → Hp → Prop, (∃ m, W 0 m σ H1) ∧ ∀ i m σ H, W i m σ H →
  (It.stop J i H ∧ D.nx σ H) ∨ (J.go i H ∧ ∃ N : L2.St → Hp → Prop, (∀ σ' H', N σ' H' → ∃ m', m' < m ∧ W (i + 1) m' σ' H') ∧ ∀ x H', J.yld i H x H' → g x σ H' fun σ2 H2 => tb { D with nx := N, ct := N, bk := D.nx } σ2 H2)) (Itl K a) H) ∨
  ((∃ xs, SqT K H a xs) ∧ (fun J H1 => ∃ W : Nat → Nat → L2.St → Hp → Prop, (∃ m, W 0 m σ H1) ∧ ∀ i m σ H, W i m σ H →
  (It.stop J i H ∧ D.nx σ H) ∨ (J.go i H ∧ ∃ N : L2.St → Hp → Prop, (∀ σ' H', N σ' H' → ∃ m', m' < m ∧ W (i + 1) m' σ' H') ∧ ∀ x H', J.yld i H x H' → g x σ H' fun σ2 H2 => tb { D with nx := N, ct := N, bk := D.nx } σ2 H2)) (Itt K a) H)) := by
  obtain ⟨a, xs, Pv, G, rfl, h0, hx, hl, hs, hd⟩ := h
  rcases hx with hx | hx
  · exact ⟨a, rfl, .inl ⟨⟨xs, Same.seq (hl 0 _ _ h0) hx⟩, for_list Pv h0 (fun i σ' H' _ p => Same.seq (hl i σ' H' p) hx) hs hd⟩⟩
  · exact ⟨a, rfl, .inr ⟨⟨xs, Kb.Same.tup (hl 0 _ _ h0) hx⟩, for_tup Pv h0 (fun i σ' H' _ p => Kb.Same.tup (hl i σ' H' p) hx) hs hd⟩⟩
/-- over a list or a tuple that stays, the body leaving all that was tracked but b as it was -/
theorem forS {g : TG} (a : Addr) (xs : List V) (Pv : Nat → L2.St → Hp → Prop) (h : ∀ R : V → Hp → Prop, R (.ref a) H → tl σ H R) (h0 : Pv 0 σ H) (G : Hp) (hx : Seq K G a xs) (hl : ∀ i σ' H', Pv i σ' H' → Same G H')
    (hs : ∀ (i : Nat) (x : V) (σ' : L2.St) (H' : Hp), xs[i]? = some x → Pv i σ' H' → g x σ' H' fun σ2 H2 => tb { D with nx := Pv (i + 1), ct := Pv (i + 1), bk := D.nx } σ2 H2) (hd : ∀ σ' H', Pv xs.length σ' H' → D.nx σ' H') : tFor (iSeq K tl) g tb D σ H :=
  h _ (LoopOk.go ⟨a, xs, Pv, G, rfl, h0, hx, hl, hs, hd⟩)
/-- a promise that asks no more of what follows than what it says -/
def Mono (sp : Sp) : Prop := ∀ vs H (Q Q' : VK) E, (∀ v H', Q v H' → Q' v H') → sp vs H Q E → sp vs H Q' E
/-- for x in f(..) -/
theorem forC {g : TG} {sp : Sp} {dvs : List V} {E : XK} (vs : List V) (h : ∀ R : List V → Hp → Prop, R vs H → ta σ H R) (m : Mono sp) (q : sp (vs ++ dvs) H (fun x H1 => LoopOk K g tb D σ x H1) E) : tFor (iSeq K (tCall sp dvs E ta)) g tb D σ H :=
  h _ (m _ _ _ _ _ (fun _ _ => LoopOk.go) q)
/-- over the numbers and items of a list or a tuple that stays -/
theorem forE {i1 i2 : Nat} (a : Addr) (xs : List V) (Pv : Nat → L2.St → Hp → Prop) (h : ∀ R : List V → Hp → Prop, R [.ref a] H → ta σ H R) (h0 : Pv 0 σ H) (G : Hp) (hx : Seq K G a xs) (hl : ∀ i σ' H', Pv i σ' H' → Same G H')
    (hs : ∀ (i : Nat) (x : V) (σ' : L2.St) (H' : Hp) (T : Addr), xs[i]? = some x → Pv i σ' H' → H' T = none →
      tb { D with nx := Pv (i + 1), ct := Pv (i + 1), bk := D.nx } ((σ'.set i1 (some (nv i))).set i2 (some x)) (upd H' T (.tup [nv i, x]))) (hd : ∀ σ' H', Pv xs.length σ' H' → D.nx σ' H') :
    tFor (iEnumA K ta) (gTup K 2 (gCons (gName i1) (gCons (gName i2) gNil))) tb D σ H := by
  have go : ∀ (i : Nat) (v : V) (σ' : L2.St) (H1 H2 : Hp), Pv i σ' H1 → YPair (fun i => some (.int (i : Nat))) (fun i => xs[i]?) i H1 v H2 →
      gTup K 2 (gCons (gName i1) (gCons (gName i2) gNil)) v σ' H2 fun σ2 H2 => tb { D with nx := Pv (i + 1), ct := Pv (i + 1), bk := D.nx } σ2 H2 := by
    rintro i v σ' H1 H2 hp ⟨T, x, y, rfl, hT, rfl, e1, e2⟩
    cases e1
    exact ⟨T, _, rfl, .of upd_same, rfl, _, _, rfl, _, _, rfl, rfl, hs i y σ' H1 T e2 hp hT⟩
  rcases hx with hx | hx
  · exact h _ ⟨a, xs, rfl, .inl ⟨Same.seq (hl 0 _ _ h0) hx, for_it walk_enum Pv h0 (fun i σ' H' _ p => Same.seq (hl i σ' H' p) hx) (fun i x σ' H1 H2 _ p y => go i x σ' H1 H2 p y) hd⟩⟩
  · exact h _ ⟨a, xs, rfl, .inr ⟨Kb.Same.tup (hl 0 _ _ h0) hx, for_it walk_enT Pv h0 (fun i σ' H' _ p => Kb.Same.tup (hl i σ' H' p) hx) (fun i x σ' H1 H2 _ p y => go i x σ' H1 H2 p y) hd⟩⟩
end
end Kb
namespace Kb
open PySem PySem.Spec PyProof.Rows L2
/-! ### is True, is False -/
def rIsV : R2 := fun x y H Q => ∃ b, y = .bl b ∧ Q (.bl (decide (x = .bl b))) H
theorem op_isBv {X : Cx} : OpR X (compareOp .Is) rIsV := by
  intro pins s σ H x y v u Q I rx ry h
  obtain ⟨b, rfl, q⟩ := h
  cases (show u = Value.bool b from ry)
  have no : x ≠ .bl b → plainIs v (.bool b) = true → v ≠ .bool b → wpAny (model X.prog X.w) X.A (compareOp .Is v (.bool b)) (EP X pins σ Q) X.xe s := fun n p e =>
    wpAny_is_other p e (fin_bl I q (decide_eq_false n))
  cases x with
  | bl a =>
    cases (show v = Value.bool a from rx)
    by_cases e : a = b
    · subst e
      exact wpAny_is_self rfl (fin_bl I q (decide_eq_true rfl))
    · exact no (fun z => e (V.bl.inj z)) rfl fun z => e (Value.bool.inj z)
  | non => cases rx; exact no (fun z => nomatch z) rfl fun z => nomatch z
  | ref a => cases rx; exact no (fun z => nomatch z) rfl fun z => nomatch z
  | ty a => cases rx; exact no (fun z => nomatch z) rfl fun z => nomatch z
  | int a => obtain ⟨t, rfl⟩ := rx; exact no (fun z => nomatch z) rfl fun z => nomatch z
  | str a => obtain ⟨t, rfl⟩ := rx; exact no (fun z => nomatch z) rfl fun z => nomatch z
  | byt a => obtain ⟨t, rfl⟩ := rx; exact no (fun z => nomatch z) rfl fun z => nomatch z
  | flt a => obtain ⟨t, rfl⟩ := rx; exact no (fun z => nomatch z) rfl fun z => nomatch z
theorem hu65 {A : Around} {k : Nat} (hr : Room k A) : A.units + 65 < cLine := by
  have := hr.un
  omega
/-! ### sorted(set(l)) of a list of ints -/
abbrev nSet (w : World) : Obj := { cls := .type "set", dict := none, data := .set #[] 0 (.fresh 0 0 (!w.params.followText "set-order")) }
/-- the state behind the new set -/
abbrev sSet (w : World) (s : Shared) : Shared := { s with heap := s.heap.push (nSet w) }
section
variable {P : Program} {w : World} {A : Around} {E : Value → Shared → Prop} {s : Shared}
set_option maxHeartbeats 4000000 in
theorem set_of_list {l : Addr} {its : Array Value} (ns : List Int) {Q : Value → Shared → Prop} (nh : A.handled = none) (hl : s.heap.IsList l its) (hi : IntsAre its.toList ns) (hb : ns.length + 1 < scanBound)
    (h : ∀ (h' : Heap) (tk c : Nat), SetR w h' s.heap.objs.size (fun j => decide (j ∈ ns)) c → c ≤ ns.length → (∀ b o, s.heap.get? b = some o → h'.get? b = some o) → Q (.ref s.heap.objs.size) { s with heap := h', toks := tk }) :
    wpAny (model P w) A (call (.type "set") [.ref l]) Q E s := by
  have sz : its.size = ns.length := (Array.length_toList (xs := its)).symm.trans (IntsAre.length hi)
  obtain ⟨c, tl, mro⟩ := F.called_set.mro
  have m1 := F.called_set.made
  have m2 := F.called_set.sub
  refine wpAny_call (codeAny_of_tree ?_)
  show wpAny _ _ (callAny (.type "set") _) _ _ _
  refine wpAny_pure ⟨Code.quiet_builtin _ (by decide +kernel), codeAny_builtin F.entry_type_call ?_⟩
  rw [Around.under_plain (weight_type_call_type "set" [.ref l] []) rfl]
  have m3 := F.called_set.notType
  have m4 := F.called_set.canCreate
  have m5 := F.typeCall_set_1 (.ref l)
  repeat (any_goals (first | assumption | wp_step))
  refine codeAny_mono (code_set_led1 (.ref l) (E := E) (Q₁ := fun y z => y = .ref s.heap.objs.size ∧ z = sSet w s) ⟨rfl, rfl⟩) fun r z hr => ?_
  cases r with
  | error e => exact hr
  | ok fl =>
    cases fl with
    | ret y =>
      obtain ⟨rfl, rfl⟩ := hr
      have gS : (s.heap.push (nSet w)).get? s.heap.objs.size = some (nSet w) := Heap.get?_push_size _ rfl
      have tS : Shared.TypeIs (sSet w s) (.ref s.heap.objs.size) "set" := ⟨_, gS, rfl⟩
      have i1 := F.called_set.init.lookup
      have i2 := F.called_set.init.bind (.ref s.heap.objs.size)
      repeat (any_goals (first | assumption | wp_step))
      refine codeAny_mono (codeAny_call_builtin (R := wants (fun r z => r = .none ∧ ∃ h' tk c, z = { s with heap := h', toks := tk } ∧ SetR w h' s.heap.objs.size (fun j => decide (j ∈ ns)) c ∧ c ≤ ns.length ∧
          (∀ b o, s.heap.get? b = some o → h'.get? b = some o)) E) F.called_set.init.plain F.entry_set_init (check_set_init_1 tS ?_)) fun r z hr => ?_
      · obtain ⟨ol, gl, cl, n, dl⟩ := hl
        obtain ⟨oc, od, oo, os⟩ := ol
        simp only at cl dl
        subst cl; subst dl
        have gl' : (s.heap.push (nSet w)).get? l = some { cls := .type "list", dict := od, data := .seq its n, slots := os } := Heap.get?_push_of_some _ gl
        have b1 := F.sub_list_set
        have b2 := F.sub_list_frozenset
        have b3 : (Value.type "list" == Value.type "dict") = false := by decide
        have l1 : (s.heap.push (nSet w)).IsList l its := ⟨_, gl', rfl, n, rfl⟩
        unfold Builtin.«set.__init__» noKeywords Builtin.Frozenset.updateFrom
        generalize hPI : pyIter = PI
        wp_walk
        subst hPI
        refine wpAny_pyIter_list l1 (wpAny_bind (wpAny_runValue ?_))
        have lt : l < s.heap.objs.size := Heap.lt_size gl
        have n3 : A.in1.in1.in1.handled = none := by simp [nh]
        have s1 : (s.heap.push (nSet w)).objs.size = s.heap.objs.size + 1 := Heap.size_push ..
        have ne : l ≠ (s.heap.push (nSet w)).objs.size := by rw [s1]; exact Nat.ne_of_lt (Nat.lt_succ_of_lt lt)
        have nf : s.heap.objs.size ∉ [(s.heap.push (nSet w)).objs.size, l] := by
          rw [s1]
          simp only [List.mem_cons, List.not_mem_nil, or_false, not_or]
          exact ⟨Nat.ne_of_lt (Nat.lt_succ_self _), Nat.ne_of_gt lt⟩
        refine set_update_ints ((Walks.list n3 _ l ne its).toS) s.heap.objs.size nf ns sz hb (fun i v hv => ?_) (its.size - 0) 0 _ (by omega) (Nat.zero_le _)
          ⟨⟨_, Heap.get?_push_size _ rfl, rfl, rfl⟩, (l1.push _)⟩ ⟨0, Nat.le_refl 0, setR_new_at (Heap.get?_push_of_some _ gS)⟩ ?_
        · have hi2 : i < ns.length := by rw [← sz]; exact (Array.getElem?_eq_some_iff.mp hv).1
          obtain ⟨t, e⟩ := IntsAre.int_at hi i v (by rw [Array.getElem?_toList]; exact hv)
          exact ⟨ns[i], t, List.getElem?_eq_getElem hi2, by rw [e, List.getD_eq_getElem?_getD, List.getElem?_eq_getElem hi2] <;> rfl⟩
        · intro z c2 hm hc hR
          obtain ⟨h', g2, d2, tk, o2⟩ := z
          have e1 : g2 = s.gens := hm.gens
          have e2 : d2 = s.drawn := hm.drawn
          have e3 : o2 = s.os := hm.os
          subst e1; subst e2; subst e3
          show wpAny _ _ _ _ _ _
          refine wpAny_pure ?_
          show wpAny _ _ (ret Value.none) _ _ _
          rw [sz] at hc
          refine wpAny_pure ⟨rfl, h', tk, c2, rfl, hR, hc, fun b o e => ?_⟩
          have lb : b < s.heap.objs.size := Heap.lt_size e
          refine hm.heap b o (fun z => ?_) (Heap.get?_push_of_some _ (Heap.get?_push_of_some _ e))
          simp only [List.mem_cons, List.not_mem_nil, or_false] at z
          rcases z with z | z
          · exact Nat.ne_of_lt lb z
          · exact Nat.ne_of_lt (Nat.lt_succ_of_lt lb) (z.trans s1)
      · cases r with
        | error e => exact hr
        | ok fl =>
          cases fl with
          | ret y =>
            obtain ⟨rfl, h', tk, c2, rfl, hS, hc, hk⟩ := hr
            repeat (any_goals (first | assumption | wp_step))
            exact h _ _ _ hS hc hk
          | _ => exact hr.elim
    | _ => exact hr.elim
end
/-- sorted(set(e)), e a list of few ints -/
def tSSet (K : PySem.W.Frag) (ta : TA) : TE := fun σ H Q => ta σ H fun vs H1 => ∃ (a : Addr) (ns : List Int), vs = [.ref a] ∧ SqL K H1 a (ns.map V.int) ∧ ns.length < 64 ∧
  ∀ (out : List Int) (p : Addr), out.Pairwise (· < ·) → (∀ k, k ∈ out ↔ k ∈ ns) → H1 p = none → Q (.ref p) (upd H1 p (.lst (out.map V.int)))
theorem pe_sset {X : Cx} {K : PySem.W.Frag} {e : Expr} {ta : TA} {p1 p2 q1 q2 : Pos} (hK : X.K = K) (hc : X.calm = true) (g1 : Gl X "sorted") (m1 : X.mg "sorted" = none) (g2 : Gl X "set") (m2 : X.mg "set" = none) (ha : PA X [e] ta)
    (he : starEach [e] X.env = [(false, eval e X.env)] := by rfl) (he2 : starEach [.Call (.Name "set" p2) [e] [] q2] X.env = [(false, eval (.Call (.Name "set" p2) [e] [] q2) X.env)] := by rfl) :
    PE X (.Call (.Name "sorted" p1) [.Call (.Name "set" p2) [e] [] q2] [] q1) (tSSet K ta) := by
  subst hK
  refine ⟨fun pins s σ H Q I h => ?_⟩
  refine wpAny_Call_Name_kw (ld_blt I g1 m1 (u := .builtin "sorted") (by decide +kernel) ?_)
  refine PyProof.Rows.callWith_builtin1 ?_ he2 rfl
  rw [he2]
  refine Calls.spliced_cons ?_
  refine wpAny_Call_Name_kw (ld_blt I g2 m2 PyProof.Rows.boot_set ?_)
  refine PyProof.Rows.callWith_type1 (thn (ha.run q2 pins s σ H _ I h) fun us s1 ⟨vs, H1, I1, r1, h1⟩ => ?_) he rfl
  obtain ⟨a, ns, rfl, hs, hl, q⟩ := h1
  rw [Vals.ref1 r1]
  obtain ⟨its, rv, ht, hz⟩ := I1.list hs
  have hi : IntsAre its.toArray.toList ns := rv.ints
  have hd := I1.ok.hd hc
  refine set_of_list ns hd ht.isList hi (by unfold scanBound; omega) fun h' tk c R hcn k => ?_
  refine Calls.spliced_nil ?_
  refine sorted_set R hd (by omega) fun s2 p out n ks k2 g2 o2 hp hg hI hw hm hn => ?_
  have kall : ∀ b u, s1.heap.get? b = some u → s2.heap.get? b = some u := fun b u e => k2 b u (k b u e)
  have ge : s1.heap.objs.size ≤ p := by
    obtain ⟨o, es, ep, t, ho, _⟩ := R
    exact Nat.le_trans (Nat.le_of_lt (Heap.lt_size ho)) hp
  have hlen : (ks.map V.int).length ≤ sizeLine := by rw [List.length_map, hn, sizeLine_eq]; omega
  exact ⟨.ref p, upd H1 p (.lst (ks.map V.int)), I1.call' (ch := []) o2 (Un.laid kall ge (I1.hok.fresh ge)) (I1.hok.laid kall ge ⟨hlen, out.toList, n, vals_of_ints hI, hg⟩) (by rw [g2]; exact I1.bare) (fun _ z => nomatch z), rfl,
    q ks p hw (fun j => by rw [hm j, decide_eq_true_eq]) (I1.hok.fresh ge)⟩
end Kb
namespace Kb
open PySem PySem.Spec PyProof.Rows L2
/-! ### int(x) of a number, int(x) of a bool, abs -/
def rIntI : List V → Hp → VK → Prop := fun xs H Q => ∃ i, xs = [.int i] ∧ Q (.int i) H
def rIntB : List V → Hp → VK → Prop := fun xs H Q => ∃ k, xs = [.bl k] ∧ Q (.int (if k = true then 1 else 0)) H
def rAbsN : List V → Hp → VK → Prop := fun xs H Q => ∃ i, xs = [.int i] ∧ Q (.int (i.natAbs : Int)) H
section
variable {X : Cx}
theorem callIntI : CallR X (.type "int") rIntI := fun pins s σ H xs us Q I r h => call_int1 pins s σ H xs us Q I r (.inl h)
theorem callIntB : CallR X (.type "int") rIntB := fun pins s σ H xs us Q I r h => call_int1 pins s σ H xs us Q I r (.inr h)
theorem callAbsN : CallR X (.builtin "abs") rAbsN := fun pins s σ H xs us Q I r h => by
  obtain ⟨i, e, q⟩ := h
  refine call_abs pins s σ H xs us Q I r ⟨i, e, ?_⟩
  rw [show (if i < 0 then -i else i) = (i.natAbs : Int) by split <;> omega]
  exact q
end
theorem or_xor_and : ∀ n m : Nat, n ||| m = (n ^^^ m) + (n &&& m) := by
  intro n
  induction n using Nat.strongRecOn with
  | _ n ih =>
    intro m
    by_cases h0 : n = 0
    · subst h0
      simp
    · have h := ih (n / 2) (by omega) (m / 2)
      rw [← Nat.or_div_two, ← Nat.xor_div_two, ← Nat.and_div_two] at h
      have a := Nat.or_mod_two_eq_one (a := n) (b := m)
      have b := Nat.xor_mod_two_eq_one (a := n) (b := m)
      have c := Nat.and_mod_two_eq_one (a := n) (b := m)
      omega
theorem bitXor_nn {n m : Nat} : Builtin.bitXor (n : Int) (m : Int) = ((n ^^^ m : Nat) : Int) := by
  unfold Builtin.bitXor
  rw [bitOr_nn (Int.natCast_nonneg _) (Int.natCast_nonneg _), Int.toNat_natCast, Int.toNat_natCast, bitAnd_nn, or_xor_and n m]
  omega
theorem op_xorU {X : Cx} : OpR X (binaryOp .BitXor) (fun x y H Q => ∃ n m : Nat, x = nv n ∧ y = nv m ∧ Q (nv (n ^^^ m)) H) := by
  intro pp s sg H x y v u Q I rx ry h
  obtain ⟨n, m, rfl, rfl, q⟩ := h
  refine op_xor pp s sg H _ _ v u Q I rx ry ⟨_, _, rfl, rfl, ?_⟩
  show Q (.int (Builtin.bitXor (n : Int) (m : Int))) H
  rw [bitXor_nn]
  exact q
theorem mulL {i j : Int} (h0 : 0 ≤ i) (h1 : i < 2 ^ 64) : CMul i j := .inl ⟨by omega, h1⟩
theorem mulR {i j : Int} (h0 : 0 ≤ j) (h1 : j < 2 ^ 64) : CMul i j := .inr ⟨by omega, h1⟩
section
variable {K : PySem.W.Frag} {σ : L2.St} {H : Hp} {Q : VK} {tt : TT} {te : TE} {ta : TA} {j : Nat}
/-- over a range, the element and the test making what is new -/
theorem lcR1S (n : Nat) (p : Nat → Bool) (f : Nat → V) (h : ∀ R : List V → Hp → Prop, R [nv n] H → ta σ H R) (hn : n < 100000)
    (hs : ∀ (i : Nat) (H' : Hp) (Q1 : VK) (Q2 : Hp → Prop), i < n → Same H H' → (∀ H3, Same H' H3 → p i = true → Q1 (f i) H3) → (∀ H3, Same H' H3 → p i = false → Q2 H3) → tt (σ.set j (some (nv i))) H' fun b H3 => if b = true then te (σ.set j (some (nv i))) H3 Q1 else Q2 H3)
    (hd : ∀ L H', H L = none → Same H H' → H' L = some (.lst (((List.range n).filter p).map f)) → Q (.ref L) H') : tLc (iRng1 ta) (gName j) tt te [j] σ H Q := by
  refine h _ ⟨(n : Int), rfl, by omega, by omega, fun L hL => ?_⟩
  rw [Int.toNat_natCast]
  refine lc_range (lo := 0) (n := n) (fun i H' => Same H H' ∧ H' L = some (.lst (((List.range i).filter p).map f))) ⟨same_new hL, upd_same⟩ (fun i H' hi e => ?_) (fun H' e => hd L H' hL e.1 e.2)
  obtain ⟨s1, e1⟩ := e
  rw [show (0 : Int) + (i : Int) = (i : Int) from Int.zero_add _]
  have ew : (wipe σ [j]).set j (some (nv i)) = σ.set j (some (nv i)) := set_wipe
  show wipe ((wipe σ [j]).set j (some (nv i))) [j] = wipe σ [j] ∧ tt ((wipe σ [j]).set j (some (nv i))) _ _
  rw [ew]
  refine ⟨List.set_set .., hs i _ _ _ hi s1 (fun H3 s3 hp => ?_) fun H3 s3 hp => ?_⟩
  · refine ⟨_, s3 _ _ e1, ?_, fun b o hb => ?_, ?_⟩
    · have := List.length_filter_le p (List.range i)
      rw [List.length_range] at this
      rw [List.length_map, sizeLine_eq]
      omega
    · rw [upd_ne (ne_of_none hb hL)]
      exact s3 _ _ (s1 _ _ hb)
    · rw [upd_same, List.range_succ, List.filter_append, List.filter_cons, List.filter_nil, if_pos hp, List.map_append]
      rfl
  · refine ⟨s1.trans s3, ?_⟩
    rw [List.range_succ, List.filter_append, List.filter_cons, List.filter_nil, if_neg (by rw [hp]; exact Bool.false_ne_true), List.append_nil]
    exact s3 _ _ e1
end
end Kb
namespace Kb
open PySem PySem.Spec PyProof.Rows L2
section
variable {K : PySem.W.Frag} {σ : L2.St} {H : Hp} {Q : VK} {tt : TT} {te tl : TE} {j : Nat}
/-- over a list or a tuple that stays, whatever the element and the test do: Pv of the turn, the heap and the list so far -/
theorem lcSG (a : Addr) (xs : List V) (Pv : Addr → Nat → Hp → List V → Prop) (h : ∀ R : V → Hp → Prop, R (.ref a) H → tl σ H R) (hx : Seq K H a xs) (hn : xs.length < 100000) (h0 : ∀ L, H L = none → Pv L 0 (upd H L (.lst [])) [])
    (hl : ∀ L i H' acc, H L = none → Pv L i H' acc → Same H H')
    (hs : ∀ (L : Addr) (i : Nat) (x : V) (H' : Hp) (acc : List V), H L = none → xs[i]? = some x → H' L = some (.lst acc) → Pv L i H' acc → tt (σ.set j (some x)) H' fun b H3 =>
      if b = true then te (σ.set j (some x)) H3 fun y H4 => H4 L = some (.lst acc) ∧ Pv L (i + 1) (upd H4 L (.lst (acc ++ [y]))) (acc ++ [y]) else H3 L = some (.lst acc) ∧ Pv L (i + 1) H3 acc)
    (mt : ∀ σ H (Q1 Q2 : Bool → Hp → Prop), (∀ b H', Q1 b H' → Q2 b H') → tt σ H Q1 → tt σ H Q2) (me : ∀ σ H (Q1 Q2 : VK), (∀ v H', Q1 v H' → Q2 v H') → te σ H Q1 → te σ H Q2)
    (hd : ∀ (L : Addr) (H' : Hp) (acc : List V), H L = none → H' L = some (.lst acc) → Pv L xs.length H' acc → Q (.ref L) H') : tLc (iSeq K tl) (gName j) tt te [j] σ H Q := by
  have step : ∀ (L : Addr), H L = none → ∀ (i : Nat) (x : V) (H' : Hp), xs[i]? = some x → (∃ acc, H' L = some (.lst acc) ∧ acc.length ≤ i ∧ Pv L i H' acc) →
      gName j x (wipe σ [j]) H' fun σ2 H2 => wipe σ2 [j] = wipe σ [j] ∧ tt σ2 H2 fun b H3 => if b = true then te σ2 H3 fun y H4 => ∃ acc, H4 L = some (.lst acc) ∧ acc.length < sizeLine ∧ (∃ acc2, (upd H4 L (.lst (acc ++ [y]))) L = some (.lst acc2) ∧ acc2.length ≤ i + 1 ∧ Pv L (i + 1) (upd H4 L (.lst (acc ++ [y]))) acc2)
        else ∃ acc, H3 L = some (.lst acc) ∧ acc.length ≤ i + 1 ∧ Pv L (i + 1) H3 acc := by
    rintro L hL i x H' hi ⟨acc, e1, e2, p⟩
    have lt : i < xs.length := (List.getElem?_eq_some_iff.mp hi).1
    have ew : (wipe σ [j]).set j (some x) = σ.set j (some x) := set_wipe
    show wipe ((wipe σ [j]).set j (some x)) [j] = wipe σ [j] ∧ tt ((wipe σ [j]).set j (some x)) _ _
    rw [ew]
    refine ⟨List.set_set .., mt _ _ _ _ (fun b H3 q => ?_) (hs L i x H' acc hL hi e1 p)⟩
    cases b with
    | true =>
      refine me _ _ _ _ (fun y H4 q => ?_) q
      obtain ⟨q1, q2⟩ := q
      exact ⟨acc, q1, by rw [sizeLine_eq]; omega, _, upd_same, by rw [List.length_append]; exact Nat.add_le_add e2 (Nat.le_refl 1), q2⟩
    | false =>
      obtain ⟨q1, q2⟩ := q
      exact ⟨acc, q1, Nat.le_succ_of_le e2, q2⟩
  have fin : ∀ (L : Addr), H L = none → ∀ H', (∃ acc, H' L = some (.lst acc) ∧ acc.length ≤ xs.length ∧ Pv L xs.length H' acc) → Q (.ref L) H' := by
    rintro L hL H' ⟨acc, e1, _, p⟩
    exact hd L H' acc hL e1 p
  rcases hx with hx | hx
  · exact h _ ⟨a, rfl, .inl ⟨⟨xs, hx⟩, fun L hL => lc_list (xs := xs) (fun i H' => ∃ acc, H' L = some (.lst acc) ∧ acc.length ≤ i ∧ Pv L i H' acc) ⟨[], upd_same, Nat.zero_le _, h0 L hL⟩ (fun i H' _ e => by obtain ⟨acc, _, _, p⟩ := e; exact Same.seq (hl L i H' acc hL p) hx) (step L hL) (fin L hL)⟩⟩
  · exact h _ ⟨a, rfl, .inr ⟨⟨xs, hx⟩, fun L hL => lc_tup (xs := xs) (fun i H' => ∃ acc, H' L = some (.lst acc) ∧ acc.length ≤ i ∧ Pv L i H' acc) ⟨[], upd_same, Nat.zero_le _, h0 L hL⟩ (fun i H' _ e => by obtain ⟨acc, _, _, p⟩ := e; exact Kb.Same.tup (hl L i H' acc hL p) hx) (step L hL) (fin L hL)⟩⟩
/-- over a sequence that the loop's head makes: F tells what it makes -/
theorem forSF {D : Ends} {g : TG} {tb : TS} (F : Hp → Addr → Prop) (h : ∀ R : V → Hp → Prop, (∀ H1 p, F H1 p → R (.ref p) H1) → tl σ H R) (q : ∀ H1 p, F H1 p → LoopOk K g tb D σ (.ref p) H1) : tFor (iSeq K tl) g tb D σ H :=
  h _ fun H1 p f => LoopOk.go (q H1 p f)
end
end Kb
namespace Kb
open PySem PySem.Spec PyProof.Rows L2
/-! ### comprehensions over pairs -/
section
variable {K : PySem.W.Frag} {σ : L2.St} {H : Hp} {Q : VK} {tt : TT} {te tl : TE} {ta : TA} {j i1 i2 : Nat} {vs vs1 : List Nat}
/-- x is a tuple of two ints -/
def Pr2 (H : Hp) (x : V) (p : Nat × Nat) : Prop := ∃ a, x = .ref a ∧ H a = some (.tup [nv p.1, nv p.2])
theorem paired_at' {α : Type} {R : V → α → Prop} : ∀ {xs : List V} {os : List α} {i : Nat} {x : V}, Paired R xs os → xs[i]? = some x → ∃ o, os[i]? = some o ∧ R x o
  | _, _, _, _, .nil, e => by simp at e
  | _, _, 0, _, .cons h _, e => by cases e; exact ⟨_, rfl, h⟩
  | _, _, i + 1, _, .cons _ t, e => paired_at' (i := i) t e
/-- the reading of a comprehension over what J walks -/
def LcR (g : TG) (tt : TT) (te : TE) (vs : List Nat) (σ : L2.St) (Q : VK) : It → Hp → Prop := fun J H1 => ∀ D, H1 D = none → ∃ W : Nat → Nat → Hp → Prop, (∃ m, W 0 m (upd H1 D (.lst []))) ∧ ∀ i m H, W i m H →
  (J.stop i H ∧ Q (.ref D) H) ∨ (J.go i H ∧ ∃ Nx : Hp → Prop, (∀ H', Nx H' → ∃ m', m' < m ∧ W (i + 1) m' H') ∧ ∀ x H', J.yld i H x H' →
    g x (wipe σ vs) H' fun σ2 H2 => wipe σ2 vs = wipe σ vs ∧ tt σ2 H2 fun b H3 => if b = true then te σ2 H3 fun y H4 => ∃ acc, H4 D = some (.lst acc) ∧ acc.length < sizeLine ∧ Nx (upd H4 D (.lst (acc ++ [y]))) else Nx H3)
/-- the reading of its second clause -/
def LcI (g1 : TG) (te : TE) (vs1 : List Nat) (σ2 : L2.St) (D : Addr) (Nx : Hp → Prop) : It → Hp → Prop := fun J1 H4 => ∃ W1 : Nat → Nat → Hp → Prop, (∃ m, W1 0 m H4) ∧ ∀ j k H, W1 j k H →
  (J1.stop j H ∧ Nx H) ∨ (J1.go j H ∧ ∃ Nx1 : Hp → Prop, (∀ H', Nx1 H' → ∃ k', k' < k ∧ W1 (j + 1) k' H') ∧ ∀ x H', J1.yld j H x H' →
    g1 x (wipe σ2 vs1) H' fun σ3 H5 => wipe σ3 vs1 = wipe σ2 vs1 ∧ tYes σ3 H5 fun b H6 => if b = true then te σ3 H6 fun y H7 => ∃ acc, H7 D = some (.lst acc) ∧ acc.length < sizeLine ∧ Nx1 (upd H7 D (.lst (acc ++ [y]))) else Nx1 H6)
/-- what a walked sequence asks and gives -/
theorem seq_walk (R : It → Hp → Prop) {H0 : Hp} {a : Addr} {xs : List V} (hx : Seq K H0 a xs) (s : Same H0 H)
    (h : ∀ (J : It) (S : Hp → Prop), L2.Walk J xs.length S (L2.YAt xs) → (∀ H', Same H0 H' → S H') → R J H) : ∃ b, V.ref a = .ref b ∧ (((∃ xs, SqL K H b xs) ∧ R (Itl K b) H) ∨ ((∃ xs, SqT K H b xs) ∧ R (Itt K b) H)) := by
  rcases hx with hx | hx
  · exact ⟨a, rfl, .inl ⟨⟨xs, Same.seq s hx⟩, h _ _ L2.walk_list fun H' s => Same.seq s hx⟩⟩
  · exact ⟨a, rfl, .inr ⟨⟨xs, Kb.Same.tup s hx⟩, h _ _ L2.walk_tup fun H' s => Kb.Same.tup s hx⟩⟩
/-- [.. for one, other in pairs] -/
theorem lcPG (a : Addr) (xs : List V) (ps : List (Nat × Nat)) (Pv : Addr → Nat → Hp → List V → Prop) (h : ∀ R : V → Hp → Prop, R (.ref a) H → tl σ H R) (hx : Seq K H a xs) (hp : Paired (Pr2 H) xs ps) (hn : ps.length < 100000)
    (hw : ∀ x y : V, wipe (((wipe σ vs).set i1 (some x)).set i2 (some y)) vs = wipe σ vs) (h0 : ∀ L, H L = none → Pv L 0 (upd H L (.lst [])) [])
    (hl : ∀ L i H' acc, H L = none → Pv L i H' acc → Same H H')
    (hs : ∀ (L : Addr) (i : Nat) (p : Nat × Nat) (H' : Hp) (acc : List V), H L = none → ps[i]? = some p → H' L = some (.lst acc) → Pv L i H' acc → tt (((wipe σ vs).set i1 (some (nv p.1))).set i2 (some (nv p.2))) H' fun b H3 =>
      if b = true then te (((wipe σ vs).set i1 (some (nv p.1))).set i2 (some (nv p.2))) H3 fun y H4 => H4 L = some (.lst acc) ∧ Pv L (i + 1) (upd H4 L (.lst (acc ++ [y]))) (acc ++ [y]) else H3 L = some (.lst acc) ∧ Pv L (i + 1) H3 acc)
    (mt : ∀ σ H (Q1 Q2 : Bool → Hp → Prop), (∀ b H', Q1 b H' → Q2 b H') → tt σ H Q1 → tt σ H Q2) (me : ∀ σ H (Q1 Q2 : VK), (∀ v H', Q1 v H' → Q2 v H') → te σ H Q1 → te σ H Q2)
    (hd : ∀ (L : Addr) (H' : Hp) (acc : List V), H L = none → H' L = some (.lst acc) → Pv L ps.length H' acc → Q (.ref L) H') : tLc (iSeq K tl) (gTup K 2 (gCons (gName i1) (gCons (gName i2) gNil))) tt te vs σ H Q := by
  refine h _ (seq_walk (LcR _ tt te vs σ Q) hx (Same.refl _) fun J S w hS L hL => ?_)
  have ln := hp.length
  refine ⟨fun i m H' => m = xs.length - i ∧ i ≤ xs.length ∧ ∃ acc, H' L = some (.lst acc) ∧ acc.length ≤ i ∧ Pv L i H' acc, ⟨_, rfl, Nat.zero_le _, [], upd_same, Nat.zero_le _, h0 L hL⟩, ?_⟩
  rintro i m H' ⟨rfl, hi, acc, e1, e2, p⟩
  have sm := hl L i H' acc hL p
  have hS' := hS H' sm
  by_cases lt : i < xs.length
  · refine .inr ⟨w.goes i H' lt hS', fun H3 => ∃ acc, H3 L = some (.lst acc) ∧ acc.length ≤ i + 1 ∧ Pv L (i + 1) H3 acc, fun H3 ⟨acc3, a1, a2, a3⟩ => ⟨xs.length - (i + 1), by omega, rfl, lt, acc3, a1, a2, a3⟩, fun x H2 yl => ?_⟩
    obtain ⟨rfl, hxi⟩ := w.yields i H' x H2 lt hS' yl
    obtain ⟨o, ho, b, rfl, eb⟩ := paired_at' hp hxi
    refine ⟨b, _, rfl, .of (sm _ _ eb), rfl, _, _, rfl, _, _, rfl, rfl, hw _ _, ?_⟩
    refine mt _ _ _ _ (fun c H3 q => ?_) (hs L i o H2 acc hL ho e1 p)
    cases c with
    | true =>
      refine me _ _ _ _ (fun y H4 q => ?_) q
      obtain ⟨q1, q2⟩ := q
      exact ⟨acc, q1, by rw [sizeLine_eq]; omega, _, upd_same, by rw [List.length_append]; exact Nat.add_le_add e2 (Nat.le_refl 1), q2⟩
    | false =>
      obtain ⟨q1, q2⟩ := q
      exact ⟨acc, q1, Nat.le_succ_of_le e2, q2⟩
  · have e : i = xs.length := by omega
    subst e
    refine .inl ⟨w.stops H' hS', hd L H' acc hL e1 ?_⟩
    rw [ln] at p
    exact p
/-- [.. for x in range(n) for one, other in pairs] -/
theorem lc2RP (n : Nat) (a : Addr) (xs : List V) (ps : List (Nat × Nat)) (Pv : Addr → Nat → Nat → Hp → List V → Prop) (h : ∀ R : List V → Hp → Prop, R [nv n] H → ta σ H R) (hn : n < 1000) (hx : Seq K H a xs) (hp : Paired (Pr2 H) xs ps) (hps : ps.length < 1000)
    (hw : ∀ x : V, wipe ((wipe σ vs).set j (some x)) vs = wipe σ vs)
    (hw1 : ∀ x y z : V, wipe (((wipe ((wipe σ vs).set j (some z)) vs1).set i1 (some x)).set i2 (some y)) vs1 = wipe ((wipe σ vs).set j (some z)) vs1)
    (h1 : ∀ (i : Nat) (H' : Hp) (R : V → Hp → Prop), i < n → R (.ref a) H' → tl ((wipe σ vs).set j (some (nv i))) H' R)
    (h0 : ∀ L, H L = none → Pv L 0 0 (upd H L (.lst [])) []) (hl : ∀ L i k H' acc, H L = none → Pv L i k H' acc → Same H H')
    (hs : ∀ (L : Addr) (i k : Nat) (p : Nat × Nat) (H' : Hp) (acc : List V), H L = none → i < n → ps[k]? = some p → H' L = some (.lst acc) → Pv L i k H' acc →
      te (((wipe ((wipe σ vs).set j (some (nv i))) vs1).set i1 (some (nv p.1))).set i2 (some (nv p.2))) H' fun y H4 => H4 L = some (.lst acc) ∧ Pv L i (k + 1) (upd H4 L (.lst (acc ++ [y]))) (acc ++ [y]))
    (hr : ∀ L i H' acc, H L = none → Pv L i ps.length H' acc → Pv L (i + 1) 0 H' acc) (me : ∀ σ H (Q1 Q2 : VK), (∀ v H', Q1 v H' → Q2 v H') → te σ H Q1 → te σ H Q2)
    (hd : ∀ (L : Addr) (H' : Hp) (acc : List V), H L = none → H' L = some (.lst acc) → Pv L n 0 H' acc → Q (.ref L) H') : tLc2 (iRng1 ta) (gName j) tYes (iSeq K tl) (gTup K 2 (gCons (gName i1) (gCons (gName i2) gNil))) tYes te vs vs1 σ H Q := by
  refine h _ ⟨(n : Int), rfl, by omega, by omega, fun L hL => ?_⟩
  rw [Int.toNat_natCast]
  have ln := hp.length
  have big : n * ps.length ≤ 1000000 := by
    have := Nat.mul_le_mul (Nat.le_of_lt hn) (Nat.le_of_lt hps)
    omega
  refine ⟨fun i m H' => m = n - i ∧ i ≤ n ∧ ∃ acc, H' L = some (.lst acc) ∧ acc.length ≤ i * ps.length ∧ Pv L i 0 H' acc, ⟨_, rfl, Nat.zero_le _, [], upd_same, by simp, h0 L hL⟩, ?_⟩
  rintro i m H' ⟨rfl, hi, acc, e1, e2, p⟩
  by_cases lt : i < n
  · refine .inr ⟨lt, fun H3 => ∃ acc, H3 L = some (.lst acc) ∧ acc.length ≤ (i + 1) * ps.length ∧ Pv L (i + 1) 0 H3 acc, fun H3 ⟨acc3, a1, a2, a3⟩ => ⟨n - (i + 1), by omega, rfl, lt, acc3, a1, a2, a3⟩, ?_⟩
    rintro x H2 ⟨rfl, rfl⟩
    rw [show (0 : Int) + (i : Int) = (i : Int) from Int.zero_add _]
    refine ⟨hw (nv i), ?_⟩
    unfold tYes
    dsimp only
    rw [if_pos rfl]
    have sm := hl L i 0 H2 acc hL p
    refine h1 i H2 _ lt (seq_walk (LcI _ te vs1 ((wipe σ vs).set j (some (nv i))) L _) hx sm fun J S w hS => ?_)
    have row : i * ps.length + ps.length = (i + 1) * ps.length := by rw [Nat.add_mul, Nat.one_mul]
    have row2 : (i + 1) * ps.length ≤ 1000000 := Nat.le_trans (Nat.mul_le_mul_right _ lt) big
    refine ⟨fun k m H5 => m = xs.length - k ∧ k ≤ xs.length ∧ ∃ acc, H5 L = some (.lst acc) ∧ acc.length ≤ i * ps.length + k ∧ Pv L i k H5 acc, ⟨_, rfl, Nat.zero_le _, acc, e1, e2, p⟩, ?_⟩
    rintro k m H5 ⟨rfl, hk, acc5, f1, f2, f3⟩
    have sm5 := hl L i k H5 acc5 hL f3
    have hS5 := hS H5 sm5
    by_cases lk : k < xs.length
    · refine .inr ⟨w.goes k H5 lk hS5, fun H6 => ∃ acc, H6 L = some (.lst acc) ∧ acc.length ≤ i * ps.length + (k + 1) ∧ Pv L i (k + 1) H6 acc, fun H6 ⟨acc6, a1, a2, a3⟩ => ⟨xs.length - (k + 1), by omega, rfl, lk, acc6, a1, a2, a3⟩, fun x H6 yl => ?_⟩
      obtain ⟨rfl, hxi⟩ := w.yields k H5 x H6 lk hS5 yl
      obtain ⟨o, ho, b, rfl, eb⟩ := paired_at' hp hxi
      refine ⟨b, _, rfl, .of (sm5 _ _ eb), rfl, _, _, rfl, _, _, rfl, rfl, hw1 _ _ _, ?_⟩
      unfold tYes
      dsimp only
      rw [if_pos rfl]
      refine me _ _ _ _ (fun y H7 q => ?_) (hs L i k o H6 acc5 hL lt ho f1 f3)
      obtain ⟨q1, q2⟩ := q
      exact ⟨acc5, q1, by rw [sizeLine_eq]; omega, _, upd_same, by rw [List.length_append]; exact Nat.le_trans (Nat.add_le_add_right f2 1) (Nat.le_refl _), q2⟩
    · have e : k = xs.length := by omega
      subst e
      rw [ln] at f2 f3
      exact .inl ⟨w.stops H5 hS5, acc5, f1, by omega, hr L i H5 acc5 hL f3⟩
  · have e : i = n := by omega
    subst e
    exact .inl ⟨Nat.le_refl _, hd L H' acc hL e1 p⟩
end
end Kb
namespace Kx
open PySem PySem.W PySem.Calls PyProof.Rows PySem.HandSPX
/-! ### an own error below a class of one's own below Exception: __init__ says super().__init__(text), then self.at = at -/
abbrev exEnd : List Value := [.type "Exception", .type "BaseException", .type "object"]
abbrev line (rs : List Addr) : List Value := rs.map Value.ref ++ exEnd
theorem line_has (X : String) (rs : List Addr) : (line rs).contains (.type X) = exEnd.contains (.type X) := by
  induction rs with
  | nil => rfl
  | cons r t ih =>
    rw [show line (r :: t) = Value.ref r :: line t from rfl, List.contains_cons, ih]
    rfl
theorem line_pass (self : Value) (rs : List Addr) : refuseLoop self "__setattr__" (line rs) = pure () := by
  induction rs with
  | nil => exact F.store_Exception.passes self
  | cons r t ih => exact (refuseLoop_ref self "__setattr__" r (line t)).trans ih
theorem line_ne (rs : List Addr) : (line rs).isEmpty = false := by cases rs <;> rfl
section
open Builtin Builtin.ObjectAttr
variable {prog : Program} {w : World} {A : Around} {R : Result → Shared → Prop} {hp : Heap} {g : Array GenState} {d : Drawn} {t : Nat} {os : OsState}
set_option maxHeartbeats 4000000 in
/-- self.name = v, the object without a dict so far -/
theorem err_set {K : Frag} {name : Str} {tk : Tok} {v : Value} {x C : Addr} {fv : Array Value} {cd : ClassData} {rs : List Addr}
    (X : K.In hp) (hx : hp.get? x = some { cls := .ref C, data := .fields fv }) (hcd : clsIn K C = some cd) (hm : cd.mro = line rs) (hh : cd.hasDict = true) (ha : findIn K (.ref C) name = some none)
    (hq : ∀ h' tk' dx, (∀ b o, b ≠ x → hp.get? b = some o → h'.get? b = some o) → hp.objs.size ≤ dx → dx ≠ x → h'.get? x = some { cls := .ref C, dict := some dx, data := .fields fv } →
      h'.Ns1 dx (fun y => if y = name then some v else none) → R (.ok (.ret .none)) ⟨h', g, d, tk', os⟩) :
    codeAny (model prog w) A (.call (.builtin "object.__setattr__") ⟨[.ref x, .str name tk, v], []⟩) R ⟨hp, g, d, t, os⟩ := by
  have at_x : InstAt hp x { cls := .ref C, data := .fields fv } C none := ⟨hx, rfl, rfl, trivial⟩
  have SF := F.store_object
  have fresh : x ≠ hp.objs.size := Nat.ne_of_lt (Heap.lt_size hx)
  have isO : Looks (model prog w) hp (isInstance (.ref x) (.type "object")) true := at_x.type.andThen (looks_mroIn X (by
    unfold mroIn
    rw [hcd, Option.bind_some, hm, if_neg (by rw [line_ne]; decide), line_has]
    rfl))
  refine codeAny_call_builtin SF.slot.plain SF.entry (@check_slot (model prog w) A.in1 _ ⟨hp, g, d, t, os⟩ "object.__setattr__" "object" "__setattr__"
    (.ref x) [.str name tk, v] [] _ SF.kind SF.split isO (SF.args (.ref x) (.str name tk) v) ?_)
  have mro : Looks (model prog w) hp (mroOf (.ref C)) cd.mro := (looks_clsIn X hcd).andThen .now
  have no : Looks (model prog w) hp (storeTaker? none) none := .now
  have cls : Looks (model prog w) hp (classData C) cd := looks_clsIn X hcd
  rw [osa_eq, refuse_eq]
  refine wpAny_bind (wpAny_bind (at_x.type.at (wpAny_bind (mro.at ?_))))
  rw [show refuseLoop (.ref x) "__setattr__" cd.mro = pure () by rw [hm]; exact line_pass _ _]
  refine wpAny_pure (wpAny_bind (at_x.type.at (wpAny_bind ((looks_findIn X ha).at (wpAny_bind (no.at ?_))))))
  show wpAny _ _ (storeInOwnDict (.ref x) (.ref C) (.str name tk) name v false) _ _ _
  obtain ⟨c1, c2, c3, c4, c5, c6, c7, c8, c9, c10, c11⟩ := cd
  dsimp only at hh
  subst hh
  unfold storeInOwnDict ownDictForStores
  repeat (first | with_reducible refine store_in_new ?_ ?_ | with_reducible refine wpAny_loadPart_at hx ?_ | with_reducible refine cls.at ?_ | wp_step)
  · exact ⟨_, #[], _, (Heap.get?_update_ne _ _ _ _ fresh.symm).trans (Heap.get?_push_at rfl rfl), rfl, fun e he => absurd he (by simp), fun _ => rfl⟩
  · intro h' tk' ns' sb
    have hx1 : (hp.push { cls := .type "dict", data := .dict #[] }).get? x = some { cls := .ref C, data := .fields fv } := Heap.get?_push_of_some _ hx
    refine hq h' tk' hp.objs.size (fun b o hb ho => ?_) (Nat.le_refl _) fresh.symm ?_ ns'
    · exact (sb.2 b (Nat.ne_of_lt (Heap.lt_size ho))).trans ((Heap.get?_update_ne _ _ _ _ hb).trans (Heap.get?_push_of_some _ ho))
    · exact (sb.2 x fresh).trans (Heap.get?_update_self _ hx1 rfl)
end
/-! ### the text of __init__ -/
def iA (fld : Str) (p1 p2 : Pos) : Arguments := { posonlyargs := [], args := [{ arg := "self", annotation := none, pos := p1 }, { arg := fld, annotation := none, pos := p2 }], vararg := none, kwonlyargs := [], kw_defaults := [], kwarg := none, defaults := [] }
def iB (fld txt : Str) (q1 q2 q3 q4 q5 q6 r1 r2 r3 r4 : Pos) : List Stmt :=
  [.Expr (.Call (.Attribute (.Call (.Name "super" q1) [] [] q2) "__init__" q3) [.Constant (.str txt) 0 q4] [] q5) q6, .Assign [.Attribute (.Name "self" r1) fld r2] (.Name fld r3) r4]
def iS (fld : Str) : Scope := { kind := .function, names := [(PySem.Str.ofString "self", .local), (fld, .local), (PySem.Str.ofString "__class__", .free), (PySem.Str.ofString "super", .globalImplicit)], isGenerator := false, isCoroutine := false, more := [] }
/-- the statement is such an __init__ -/
def IsInit (fld : Str) (st : Stmt) : Prop := ∃ p1 p2 txt q1 q2 q3 q4 q5 q6 r1 r2 r3 r4, L2.defArgs st = iA fld p1 p2 ∧ L2.defBody st = iB fld txt q1 q2 q3 q4 q5 q6 r1 r2 r3 r4 ∧ L2.defScope st = iS fld ∧
  ∀ env : Env, ∃ pl : Sem Bool, eval (.Call (.Attribute (.Call (.Name "super" q1) [] [] q2) "__init__" q3) [.Constant (.str txt) 0 q4] [] q5) env = (do
    let ov ← attributeBase (.Call (.Name "super" q1) [] [] q2) "__init__" env (eval (.Call (.Name "super" q1) [] [] q2) env)
    standAt q3.atName
    let (f, first) ← holding [ov] (getMethod ov "__init__" pl)
    callWith q5 f first (backTo q5 (starEach [.Constant (.str txt) 0 q4] env)) [])
/-- what the written part says of an error's class at C and of its __init__ at f -/
structure ErrTxt (prog : Program) (K : Frag) (C f : Addr) (st : Stmt) (fld : Str) : Prop where
  hf : fld = PySem.Str.ofString "at" ∨ fld = PySem.Str.ofString "word"
  tx : IsInit fld st
  cls : ∃ nm q N bs rs sn sub ab col dd k0 k1 k2 k3 k5, K.lookup C = some (excClassObj nm q C N bs (line rs) true sn sub ab col dd k0 k1 k2 k3 k5 "Exception.__new__") ∧ alongIn K "__init__" (line rs) = some (some (.builtin "Exception.__init__"))
  sa : findIn K (.ref C) "__setattr__" = some (some (.builtin "object.__setattr__"))
  noN : findIn K (.ref C) fld = some none
  iC : findIn K (.ref C) "__init__" = some (some (.ref f))
  tC : typeIn K (.ref f) = some (.type "function")
  kC : keepIn K (.ref C) = true
  exC : subIn K (.ref C) (.type "BaseException") = some true
  exE : subIn K (.ref C) (.type "Exception") = some true
  self : mroIn K C (.ref C) = some true
  tyC : typeIn K (.ref C) = some (.type "type")
  tp : nsIn K cStatics "thirdparty.any" = some none
  fn : ∃ oc od doc pm an cda ct cc osl qual kV, K.lookup f = some ⟨oc, od, .func (ksFn "__init__" qual (L2.defArgs st) (L2.defBody st) (L2.defScope st) .none kV doc pm an (.ref cda) ct cc), osl⟩ ∧ codeIn K (.ref cda) qual = true ∧
    (∃ cl cld csl, K.lookup cc = some ⟨cl, cld, .cell (some (.ref C)), csl⟩) ∧ ∃ ccl cdd vs ccs file tf, K.lookup cda = some ⟨ccl, cdd, .fields vs, ccs⟩ ∧ vs[2]? = some (.str file tf) ∧ ((prog.main.file : Str) == file) = true
  top : (prog.main.scope.names.lookup ("super" : Str)).isSome = false
/-- what __init__ leaves of a new error at x -/
structure InitEnd (fld : Str) (h h' : Heap) (x C dx : Addr) (v : Value) : Prop where
  keep : ∀ b o, b ≠ x → h.get? b = some o → h'.get? b = some o
  obj : ∃ t1, h'.get? x = some { cls := .ref C, dict := some dx, data := .fields #[.ref t1, .none, .none, .none, .bool false, .none] }
  dbig : h.objs.size ≤ dx
  dne : dx ≠ x
  ns : h'.Ns1 dx (fun y => if y = fld then some v else none)
/-- a made error -/
structure Made (fld : Str) (h h' : Heap) (e C d : Addr) (v : Value) : Prop where
  keep : ∀ b o, h.get? b = some o → h'.get? b = some o
  new : h.objs.size ≤ e
  obj : ∃ oe vs, h'.get? e = some oe ∧ oe.cls = .ref C ∧ oe.dict = some d ∧ oe.data = .fields vs ∧ vs[1]? = some .none
  dbig : h.objs.size ≤ d
  dne : d ≠ e
  ns : h'.Ns1 d (fun y => if y = fld then some v else none)
section
variable {prog : Program} {w : World} {A : Around} {E : Value → Shared → Prop} {R : Result → Shared → Prop} {s : Shared} {K : Frag} {mg mb : Str → Option Value} {C f : Addr} {st : Stmt} {fld : Str}
theorem one_size (v : Value) : [v].length ≤ sizeLine := by
  rw [sizeLine_eq]
  exact (by decide : 1 ≤ 16777216)
set_option maxHeartbeats 4000000 in
theorem err_init_at (T : ErrTxt prog K C f st (PySem.Str.ofString "at")) {x t0 : Addr} {v : Value} (X : K.In s.heap) (hlim : s.heap.NoLimit) (G : s.heap.Ns mainGlobals mg) (hs : mg "super" = none) (B : s.heap.Ns builtinsNs mb) (hb : mb "super" = bootBuiltins "super")
    (hx : s.heap.get? x = some (excO C t0)) (hnx : K.lookup x = none) (hroom : A.depth < recursionLimit)
    (hq : ∀ h' tk dx, InitEnd (PySem.Str.ofString "at") s.heap h' x C dx v → R (.ok (.ret .none)) { s with heap := h', toks := tk }) :
    codeAny (model prog w) A (.call (.ref f) ⟨[.ref x, v], []⟩) R s := by
  obtain ⟨oc, od, doc, pm, an, cda, ct, cc, osl, qual, kV, ho, hcd, ⟨cl, cld, csl, hcell⟩, ccl, cdd, vs, ccs, file, tf, hcode, hvs, hfile⟩ := T.fn
  obtain ⟨nm, q, N, bs, rs, sn, sub, ab, col, dd, k0, k1, k2, k3, k5, hC, hal⟩ := T.cls
  obtain ⟨p1, p2, txt, q1, q2, q3, q4, q5, q6, r1, r2, r3, r4, e1, e2, e3, he⟩ := T.tx
  rw [e1, e2, e3] at ho
  have hcl : clsIn K C = some { name := nm, bases := bs, mro := line (C :: rs), ns := N, qualname := q, hasDict := true, slotNames := sn, subclasses := sub, abstract := ab, collection := col, hasDel := false } := by unfold clsIn; rw [hC] <;> rfl
  have loc : ∀ y ∈ [(PySem.Str.ofString "self", Value.ref x), (PySem.Str.ofString "at", v)], (iS (PySem.Str.ofString "at")).names.lookup y.1 = some .local := fun y hy => by
    rcases List.mem_cons.mp hy with rfl | hy
    · rfl
    · rw [List.mem_singleton.mp hy]
      rfl
  obtain ⟨hp, g, d, tk, os⟩ := s
  refine ks_codeAny_call_defAt (binds := [("self", .ref x), ("at", v)]) hroom (X _ _ ho) rfl hlim (codeRec_of X hcd) rfl (BindsTo.of_eq rfl) (show ∀ y ∈ (iS (PySem.Str.ofString "at")).names, y.2 ≠ .cell by decide) loc (fun h1 ns k => ?_) rfl rfl rfl
  have X1 : K.In h1 := X.keeps k
  have hx1 := k _ _ hx
  have nx : x ≠ C := fun z => by rw [z, hC] at hnx; cases hnx
  have hC1 := X1 _ _ hC
  have I1 : InstAt h1 x (excO C t0) C none := ⟨hx1, rfl, rfl, trivial⟩
  obtain ⟨pl, he⟩ := he (callEnv (ksFn "__init__" qual (iA (PySem.Str.ofString "at") p1 p2) (iB (PySem.Str.ofString "at") txt q1 q2 q3 q4 q5 q6 r1 r2 r3 r4) (iS (PySem.Str.ofString "at")) .none kV doc pm an (.ref cda) ct cc) hp.objs.size f)
  refine ks_wpAt_execs_cons (ks_wpAt_Expr_any (ks_wpAt_MethodCall (pl := pl) (he := he) (ks_wpAt_super_base rfl rfl rfl rfl (X1 _ _ ho) rfl rfl rfl (X1 _ _ hcode) rfl hvs hfile T.top ?_)))
  refine ks_loadName_global rfl rfl (loadGlobal_builtin (G.keeps k) hs (B.keeps k) (hb.trans (by decide +kernel)) ⟨rfl, ?_⟩)
  refine wpAny_loadName_free rfl rfl rfl ⟨_, X1 _ _ hcell, rfl⟩ ?_
  refine wpAny_loadName_local rfl rfl ns rfl ?_
  refine ks_wpAny_isType_cls hC1 rfl ⟨rfl, ?_⟩
  refine ks_wpAny_call_super hC1 rfl hx1 rfl (fun c e => nomatch e) (looks_mroIn X1 T.self) fun h2 es k2 => ?_
  have X2 : K.In h2 := X1.keeps k2
  have I2 : InstAt h2 x (excO C t0) C none := ⟨k2 _ _ hx1, rfl, rfl, trivial⟩
  refine ESX.getMethod_super es (looks_opaque X2 T.tp) ((looks_clsIn X2 hcl).andThen .now) (ESX.drop_own C (line rs)) X2 hal nx rfl (I2.type.andThen (looks_subIn X2 T.exE)) ?_
  have X3 : K.In (h2.push (ESX.bw x)) := X2.keeps fun b o e => Heap.get?_push_of_some _ e
  refine ESX.callWith_bound (x := x) (e := .Constant (.str txt) 0 q4) (rest := []) ?_ rfl rfl
  show wpAny _ _ (spliced [(false, eval (.Constant (.str txt) 0 q4) _)]) _ _ _
  refine Calls.spliced_cons (Calls.Constant_str (k := 0) (pos := q4) (Calls.spliced_nil ⟨Heap.get?_push_size _ rfl, ?_⟩))
  refine ESX.call_bw (X3 _ _ hC) (Heap.get?_push_of_some _ (k2 _ _ hx1)) (Heap.get?_push_size _ rfl) (one_size _) fun h4 t1 k4 e4 => ?_
  have up : ∀ b o, b ≠ x → hp.get? b = some o → h4.get? b = some o := fun b o hb e => k4 b o hb (Heap.get?_push_of_some _ (k2 _ _ (k _ _ e)))
  have X4 : K.In h4 := fun a o e => k4 a o (fun z => by rw [z, hnx] at e; cases e) (X3 a o e)
  have hL : hp.objs.size ≠ x := Nat.ne_of_gt (Heap.lt_size hx)
  have ns4 := ns.at (h' := h4) fun o e => k4 _ o hL (Heap.get?_push_of_some _ (k2 _ _ e))
  show PySem.wpAt _ _ _ (execs [.Assign [.Attribute (.Name "self" r1) "at" r2] (.Name "at" r3) r4] (callEnv (ksFn "__init__" qual (iA (PySem.Str.ofString "at") p1 p2) (iB (PySem.Str.ofString "at") txt q1 q2 q3 q4 q5 q6 r1 r2 r3 r4) (iS (PySem.Str.ofString "at")) .none kV doc pm an (.ref cda) ct cc) hp.objs.size f)) _ _ _
  refine ks_wpAt_execs_cons (ks_wpAt_Assign_Attr (o := .Name "self" r1) (attr := "at") (value := .Name "at" r3) (wpAt_of_wpAny ?_) rfl)
  refine ESX.ldL (s := ⟨h4, g, d, _, os⟩) (env := callEnv (ksFn "__init__" qual (iA (PySem.Str.ofString "at") p1 p2) (iB (PySem.Str.ofString "at") txt q1 q2 q3 q4 q5 q6 r1 r2 r3 r4) (iS (PySem.Str.ofString "at")) .none kV doc pm an (.ref cda) ct cc) hp.objs.size f) (m := fun y => List.lookup y [(PySem.Str.ofString "self", Value.ref x), (PySem.Str.ofString "at", v)].reverse) (x := "at") (v := v) ns4 rfl ?_
  refine ESX.ldL (s := ⟨h4, g, d, _, os⟩) (env := callEnv (ksFn "__init__" qual (iA (PySem.Str.ofString "at") p1 p2) (iB (PySem.Str.ofString "at") txt q1 q2 q3 q4 q5 q6 r1 r2 r3 r4) (iS (PySem.Str.ofString "at")) .none kV doc pm an (.ref cda) ct cc) hp.objs.size f) (m := fun y => List.lookup y [(PySem.Str.ofString "self", Value.ref x), (PySem.Str.ofString "at", v)].reverse) (x := "self") (v := .ref x) ns4 rfl ?_
  refine set_plain X4 (ox := excO C t1) (od := none) ⟨e4, rfl, rfl, trivial⟩ T.sa ?_
  refine err_set X4 e4 hcl rfl rfl T.noN fun h5 tk5 dx k5 dn dne hx5 n5 => ?_
  show PySem.wpAt _ _ _ (execs _ _) _ _ _
  refine wpAt_of_wpAny (wpAny_execs_nil ?_)
  have sz : hp.objs.size < h4.objs.size := ns4.lt
  exact hq h5 tk5 dx ⟨fun b o hb e => k5 b o hb (up b o hb e), ⟨t1, hx5⟩, Nat.le_of_lt (Nat.lt_of_lt_of_le sz dn), dne, n5⟩
set_option maxHeartbeats 4000000 in
theorem err_init_word (T : ErrTxt prog K C f st (PySem.Str.ofString "word")) {x t0 : Addr} {v : Value} (X : K.In s.heap) (hlim : s.heap.NoLimit) (G : s.heap.Ns mainGlobals mg) (hs : mg "super" = none) (B : s.heap.Ns builtinsNs mb) (hb : mb "super" = bootBuiltins "super")
    (hx : s.heap.get? x = some (excO C t0)) (hnx : K.lookup x = none) (hroom : A.depth < recursionLimit)
    (hq : ∀ h' tk dx, InitEnd (PySem.Str.ofString "word") s.heap h' x C dx v → R (.ok (.ret .none)) { s with heap := h', toks := tk }) :
    codeAny (model prog w) A (.call (.ref f) ⟨[.ref x, v], []⟩) R s := by
  obtain ⟨oc, od, doc, pm, an, cda, ct, cc, osl, qual, kV, ho, hcd, ⟨cl, cld, csl, hcell⟩, ccl, cdd, vs, ccs, file, tf, hcode, hvs, hfile⟩ := T.fn
  obtain ⟨nm, q, N, bs, rs, sn, sub, ab, col, dd, k0, k1, k2, k3, k5, hC, hal⟩ := T.cls
  obtain ⟨p1, p2, txt, q1, q2, q3, q4, q5, q6, r1, r2, r3, r4, e1, e2, e3, he⟩ := T.tx
  rw [e1, e2, e3] at ho
  have hcl : clsIn K C = some { name := nm, bases := bs, mro := line (C :: rs), ns := N, qualname := q, hasDict := true, slotNames := sn, subclasses := sub, abstract := ab, collection := col, hasDel := false } := by unfold clsIn; rw [hC] <;> rfl
  have loc : ∀ y ∈ [(PySem.Str.ofString "self", Value.ref x), (PySem.Str.ofString "word", v)], (iS (PySem.Str.ofString "word")).names.lookup y.1 = some .local := fun y hy => by
    rcases List.mem_cons.mp hy with rfl | hy
    · rfl
    · rw [List.mem_singleton.mp hy]
      rfl
  obtain ⟨hp, g, d, tk, os⟩ := s
  refine ks_codeAny_call_defAt (binds := [("self", .ref x), ("word", v)]) hroom (X _ _ ho) rfl hlim (codeRec_of X hcd) rfl (BindsTo.of_eq rfl) (show ∀ y ∈ (iS (PySem.Str.ofString "word")).names, y.2 ≠ .cell by decide) loc (fun h1 ns k => ?_) rfl rfl rfl
  have X1 : K.In h1 := X.keeps k
  have hx1 := k _ _ hx
  have nx : x ≠ C := fun z => by rw [z, hC] at hnx; cases hnx
  have hC1 := X1 _ _ hC
  have I1 : InstAt h1 x (excO C t0) C none := ⟨hx1, rfl, rfl, trivial⟩
  obtain ⟨pl, he⟩ := he (callEnv (ksFn "__init__" qual (iA (PySem.Str.ofString "word") p1 p2) (iB (PySem.Str.ofString "word") txt q1 q2 q3 q4 q5 q6 r1 r2 r3 r4) (iS (PySem.Str.ofString "word")) .none kV doc pm an (.ref cda) ct cc) hp.objs.size f)
  refine ks_wpAt_execs_cons (ks_wpAt_Expr_any (ks_wpAt_MethodCall (pl := pl) (he := he) (ks_wpAt_super_base rfl rfl rfl rfl (X1 _ _ ho) rfl rfl rfl (X1 _ _ hcode) rfl hvs hfile T.top ?_)))
  refine ks_loadName_global rfl rfl (loadGlobal_builtin (G.keeps k) hs (B.keeps k) (hb.trans (by decide +kernel)) ⟨rfl, ?_⟩)
  refine wpAny_loadName_free rfl rfl rfl ⟨_, X1 _ _ hcell, rfl⟩ ?_
  refine wpAny_loadName_local rfl rfl ns rfl ?_
  refine ks_wpAny_isType_cls hC1 rfl ⟨rfl, ?_⟩
  refine ks_wpAny_call_super hC1 rfl hx1 rfl (fun c e => nomatch e) (looks_mroIn X1 T.self) fun h2 es k2 => ?_
  have X2 : K.In h2 := X1.keeps k2
  have I2 : InstAt h2 x (excO C t0) C none := ⟨k2 _ _ hx1, rfl, rfl, trivial⟩
  refine ESX.getMethod_super es (looks_opaque X2 T.tp) ((looks_clsIn X2 hcl).andThen .now) (ESX.drop_own C (line rs)) X2 hal nx rfl (I2.type.andThen (looks_subIn X2 T.exE)) ?_
  have X3 : K.In (h2.push (ESX.bw x)) := X2.keeps fun b o e => Heap.get?_push_of_some _ e
  refine ESX.callWith_bound (x := x) (e := .Constant (.str txt) 0 q4) (rest := []) ?_ rfl rfl
  show wpAny _ _ (spliced [(false, eval (.Constant (.str txt) 0 q4) _)]) _ _ _
  refine Calls.spliced_cons (Calls.Constant_str (k := 0) (pos := q4) (Calls.spliced_nil ⟨Heap.get?_push_size _ rfl, ?_⟩))
  refine ESX.call_bw (X3 _ _ hC) (Heap.get?_push_of_some _ (k2 _ _ hx1)) (Heap.get?_push_size _ rfl) (one_size _) fun h4 t1 k4 e4 => ?_
  have up : ∀ b o, b ≠ x → hp.get? b = some o → h4.get? b = some o := fun b o hb e => k4 b o hb (Heap.get?_push_of_some _ (k2 _ _ (k _ _ e)))
  have X4 : K.In h4 := fun a o e => k4 a o (fun z => by rw [z, hnx] at e; cases e) (X3 a o e)
  have hL : hp.objs.size ≠ x := Nat.ne_of_gt (Heap.lt_size hx)
  have ns4 := ns.at (h' := h4) fun o e => k4 _ o hL (Heap.get?_push_of_some _ (k2 _ _ e))
  show PySem.wpAt _ _ _ (execs [.Assign [.Attribute (.Name "self" r1) "word" r2] (.Name "word" r3) r4] (callEnv (ksFn "__init__" qual (iA (PySem.Str.ofString "word") p1 p2) (iB (PySem.Str.ofString "word") txt q1 q2 q3 q4 q5 q6 r1 r2 r3 r4) (iS (PySem.Str.ofString "word")) .none kV doc pm an (.ref cda) ct cc) hp.objs.size f)) _ _ _
  refine ks_wpAt_execs_cons (ks_wpAt_Assign_Attr (o := .Name "self" r1) (attr := "word") (value := .Name "word" r3) (wpAt_of_wpAny ?_) rfl)
  refine ESX.ldL (s := ⟨h4, g, d, _, os⟩) (env := callEnv (ksFn "__init__" qual (iA (PySem.Str.ofString "word") p1 p2) (iB (PySem.Str.ofString "word") txt q1 q2 q3 q4 q5 q6 r1 r2 r3 r4) (iS (PySem.Str.ofString "word")) .none kV doc pm an (.ref cda) ct cc) hp.objs.size f) (m := fun y => List.lookup y [(PySem.Str.ofString "self", Value.ref x), (PySem.Str.ofString "word", v)].reverse) (x := "word") (v := v) ns4 rfl ?_
  refine ESX.ldL (s := ⟨h4, g, d, _, os⟩) (env := callEnv (ksFn "__init__" qual (iA (PySem.Str.ofString "word") p1 p2) (iB (PySem.Str.ofString "word") txt q1 q2 q3 q4 q5 q6 r1 r2 r3 r4) (iS (PySem.Str.ofString "word")) .none kV doc pm an (.ref cda) ct cc) hp.objs.size f) (m := fun y => List.lookup y [(PySem.Str.ofString "self", Value.ref x), (PySem.Str.ofString "word", v)].reverse) (x := "self") (v := .ref x) ns4 rfl ?_
  refine set_plain X4 (ox := excO C t1) (od := none) ⟨e4, rfl, rfl, trivial⟩ T.sa ?_
  refine err_set X4 e4 hcl rfl rfl T.noN fun h5 tk5 dx k5 dn dne hx5 n5 => ?_
  show PySem.wpAt _ _ _ (execs _ _) _ _ _
  refine wpAt_of_wpAny (wpAny_execs_nil ?_)
  have sz : hp.objs.size < h4.objs.size := ns4.lt
  exact hq h5 tk5 dx ⟨fun b o hb e => k5 b o hb (up b o hb e), ⟨t1, hx5⟩, Nat.le_of_lt (Nat.lt_of_lt_of_le sz dn), dne, n5⟩
theorem err_init (T : ErrTxt prog K C f st fld) {x t0 : Addr} {v : Value} (X : K.In s.heap) (hlim : s.heap.NoLimit) (G : s.heap.Ns mainGlobals mg) (hs : mg "super" = none) (B : s.heap.Ns builtinsNs mb) (hb : mb "super" = bootBuiltins "super")
    (hx : s.heap.get? x = some (excO C t0)) (hnx : K.lookup x = none) (hroom : A.depth < recursionLimit)
    (hq : ∀ h' tk dx, InitEnd fld s.heap h' x C dx v → R (.ok (.ret .none)) { s with heap := h', toks := tk }) :
    codeAny (model prog w) A (.call (.ref f) ⟨[.ref x, v], []⟩) R s := by
  rcases T.hf with h | h
  · subst h
    exact err_init_at T X hlim G hs B hb hx hnx hroom hq
  · subst h
    exact err_init_word T X hlim G hs B hb hx hnx hroom hq
set_option maxHeartbeats 4000000 in
theorem err_made (T : ErrTxt prog K C f st fld) {v : Value} (X : K.In s.heap) (hlim : s.heap.NoLimit) (G : s.heap.Ns mainGlobals mg) (hs : mg "super" = none) (B : s.heap.Ns builtinsNs mb) (hb : mb "super" = bootBuiltins "super") (hroom : A.depth + 1 < recursionLimit)
    (hq : ∀ h' tk e d, Made fld s.heap h' e C d v → R (.ok (.ret (.ref e))) { s with heap := h', toks := tk }) :
    codeAny (model prog w) A (.call (.ref C) ⟨[v], []⟩) R s := by
  obtain ⟨nm, q, N, bs, rs, sn, sub, ab, col, dd, k0, k1, k2, k3, k5, hC, hal⟩ := T.cls
  obtain ⟨hp, g, dr, tk, os⟩ := s
  have k : ∀ b o, hp.get? b = some o → ((hp.push (kdv_tup [v])).push (excO C hp.objs.size)).get? b = some o := fun b o e => Heap.get?_push_of_some _ (Heap.get?_push_of_some _ e)
  have at_e : ((hp.push (kdv_tup [v])).push (excO C hp.objs.size)).get? (hp.objs.size + 1) = some (excO C hp.objs.size) := by heap_get
  have no_e : K.lookup (hp.objs.size + 1) = none := by
    cases e : K.lookup (hp.objs.size + 1) with
    | none => rfl
    | some o =>
      have z : hp.get? (hp.objs.size + 1) = some o := X _ _ e
      exact absurd (Nat.lt_of_succ_lt (Heap.lt_size z)) (Nat.lt_irrefl _)
  refine call_own F.excBase_Exception (fun Y => line_has Y rs) (X _ _ hC) (looks_findIn X T.iC) (fun self => bind_fn X self T.tC) (one_size v) ?_
  refine err_init (s := ⟨(hp.push (kdv_tup [v])).push (excO C hp.objs.size), g, dr, tk, os⟩) T (X.keeps k) (hlim.keeps k) (G.keeps k) hs (B.keeps k) hb at_e no_e hroom fun h' tk' dx M => ?_
  have old : ∀ b o, hp.get? b = some o → h'.get? b = some o := fun b o e => M.keep b o (Nat.ne_of_lt (Nat.lt_succ_of_lt (Heap.lt_size e))) (k b o e)
  have big : hp.objs.size + 1 + 1 ≤ dx := by
    have z := M.dbig
    simp only [Heap.size_push] at z
    exact z
  obtain ⟨t1, hx⟩ := M.obj
  exact ⟨rfl, hq h' tk' (hp.objs.size + 1) dx ⟨old, Nat.le_succ _, ⟨_, _, hx, rfl, rfl, rfl, rfl⟩, Nat.le_trans (Nat.le_trans (Nat.le_succ _) (Nat.le_succ _)) big, M.dne, M.ns⟩⟩
end
end Kx
namespace Kb
open PySem PySem.Spec PyProof.Rows L2
/-! ### raise C(v), C an error of the program's own -/
theorem relO_at {v : V} {u : Value} (r : RelV v u) {fld : Str} (f : Str) : RelO (List.lookup f [(fld, v)]) (if f = fld then some u else none) := by
  by_cases e : f = fld
  · rw [e, if_pos rfl, show List.lookup fld [(fld, v)] = some v by simp [List.lookup]]
    exact r
  · have e2 : (f == fld) = false := beq_eq_false_iff_ne.mpr e
    rw [if_neg e, show List.lookup f [(fld, v)] = none by simp [List.lookup, e2]]
    trivial
/-- C(e) -/
def tErr (C : Addr) (fld : Str) (ta : TA) : L2.St → Hp → XK → Prop := fun σ H Q => ta σ H fun vs H1 => ∃ v, vs = [v] ∧ ∀ d, H1 d = none → Q (.ref C) (some d) (upd H1 d (.xd [(fld, v)]))
section
variable {X : Cx} {P : Program} {K : PySem.W.Frag} {C f : Addr} {st : Stmt} {fld : Str}
theorem pmk_err {a : Expr} {ta : TA} {x : Str} {p pos : Pos} {k : Nat} (hP : X.prog = P) (hK : X.K = K) (T : Kx.ErrTxt P K C f st fld) (hr : Room k X.A) (gC : X.mg x = some (.ref C)) (hs : X.mg "super" = none) (ha : PA X [a] ta) (hg : Gl X x) (hd : (x == ("__debug__" : Str)) = false := by decide)
    (he : starEach (a :: []) X.env = (false, eval a X.env) :: starEach [] X.env := by rfl) (hpl : (backTo pos (starEach [] X.env)).any (·.1) = false := by rfl) :
    PMk X (.Call (.Name x p) [a] [] pos) (tErr C fld ta) := by
  subst hP hK
  intro pins s σ H Q I h
  refine wpAny_Call_Name_kw (ld_glob I hg gC ?_ hd)
  refine PySem.W.callWith_K (h₀ := X.base) I.ok.mod.kin T.kC (thn (ha.run pos pins s σ H _ I h) fun us s1 hh => ?_) he hpl
  obtain ⟨vs, H1, I1, r1, v, ev, q1⟩ := hh
  subst ev
  refine ⟨I1.kIn, ?_⟩
  cases r1 with
  | cons rv rn =>
    rename_i u us
    cases rn
    show wpAny _ _ (call (.ref C) [u]) _ _ _
    obtain ⟨mb, hb1, hb2⟩ := I1.mod.blt
    obtain ⟨hp, g, dr, tk, os⟩ := s1
    refine wpAny_call (Kx.err_made T I1.kIn I1.nolimit (I1.mod.glob.keeps I1.bk) hs (hb1.keeps I1.bk) (hb2 _ (by decide)) (by have := hr.dp; omega) fun h' tk' e d M => ?_)
    show MkP X pins σ Q (.ref e) ⟨h', g, dr, tk', os⟩
    obtain ⟨oe, fv, hoe, hc, hd2, hdat, h1⟩ := M.obj
    obtain ⟨G, g1, g2⟩ := restrict h' fun b => decide (b ≠ e)
    have gk : ∀ b, b ≠ e → G.get? b = h'.get? b := fun b hb => g1 b (decide_eq_true hb)
    have ge : G.get? e = none := g2 e (by simp)
    have old : ∀ b o, hp.get? b = some o → G.get? b = some o := fun b o q => (gk b (Nat.ne_of_lt (Nat.lt_of_lt_of_le (Heap.lt_size q) M.new))).trans (M.keep b o q)
    have ob : ObjOk X.prog X.w (upd H1 d (.xd [(fld, v)])) G d (.xd [(fld, v)]) := ⟨_, M.ns.at (fun o q => (gk d M.dne).trans q), fun f => relO_at rv f⟩
    have J : Inv X pins σ (upd H1 d (.xd [(fld, v)])) ⟨G, g, dr, tk', os⟩ := I1.laid (t' := tk') old M.dbig ob
    refine ⟨e, oe, fv, ⟨G, g, dr, tk', os⟩, _, .ref C, some d, rfl, J, fun b o q => ?_, ge, hoe, ⟨hc, hd2⟩, hdat, h1, ?_, rfl, I1.bare, raises_own T.exC T.tyC, q1 d (I1.hok.fresh M.dbig)⟩
    · by_cases hb : b = e
      · have q2 : G.get? b = some o := q
        rw [hb, ge] at q2
        cases q2
      · exact (gk b hb).symm.trans q
    · rw [upd_ne (Ne.symm M.dne)]
      exact I1.hok.fresh M.new
/-- raise C(e) -/
def tRaise (C : Addr) (fld : Str) (W : WX) (ta : TA) : TS := fun _ σ H => tErr C fld ta σ H fun cls d H' => W cls d σ H'
theorem ps_raiseE {a : Expr} {ta : TA} {W : WX} {x : Str} {p pos pos2 : Pos} {k : Nat} (hc : X.calm = true) (hP : X.prog = P) (hK : X.K = K) (T : Kx.ErrTxt P K C f st fld) (hr : Room k X.A) (gC : X.mg x = some (.ref C)) (hs : X.mg "super" = none) (tk : Takes X W) (ha : PA X [a] ta) (hg : Gl X x)
    (hd : (x == ("__debug__" : Str)) = false := by decide) (he : starEach (a :: []) X.env = (false, eval a X.env) :: starEach [] X.env := by rfl) (hpl : (backTo pos (starEach [] X.env)).any (·.1) = false := by rfl) :
    PS X (.Raise (some (.Call (.Name x p) [a] [] pos)) none pos2) (tRaise C fld W ta) := ps_raise hc tk (pmk_err hP hK T hr gC hs ha hg hd he hpl)
end
end Kb
namespace Kb
open PySem PySem.Spec PyProof.Rows L2
/-! ### try: .. except C1 as e: .. except C2 as e: .. -/
/-- the ends of a suite behind which the name in slot i is gone -/
def gone (i : Nat) (D : Ends) : Ends := { nx := fun σ H => D.nx (σ.set i none) H, rt := D.rt, bk := fun σ H => D.bk (σ.set i none) H, ct := fun σ H => D.ct (σ.set i none) H }
abbrev Clause := Value × (Addr → Value → Option Addr → TS)
/-- what the clauses wish of an exception, one after the other -/
def wClauses (K : PySem.W.Frag) (i : Nat) (Wout : WX) (D : Ends) : List Clause → WX
  | [] => Wout
  | (c, ts) :: r => fun cls d σ H => ∃ b, PySem.W.exmOne K cls c = some b ∧ (b = true → ∀ a, H a = none → ts a cls d (gone i D) (σ.set i (some (.ref a))) H) ∧ (b = false → wClauses K i Wout D r cls d σ H)
inductive ClOk (X : Cx) (n : Str) : List ExceptHandler → List Clause → Prop
  | nil : ClOk X n [] []
  | cons {x : Str} {c : Value} {ts : Addr → Value → Option Addr → TS} {st : Stmt} {sts : List Stmt} {q1 q2 : Pos} {hs : List ExceptHandler} {l : List Clause} (nm : Names X x c)
      (su : ∀ (a : Addr) (oe : Obj) (cls : Value) (d : Option Addr) (pn : List (Addr × Obj)), Zc cls d oe → (∃ vs, oe.data = .fields vs) → PSs (X.suite a ((a, oe) :: pn)) (st :: sts) (ts a cls d)) (r : ClOk X n hs l) :
      ClOk X n (.ExceptHandler (some (.Name x q1)) (some n) (st :: sts) q2 :: hs) ((c, ts) :: l)
section
variable {X : Cx} {n : Str} {i : Nat} {body : List Stmt} {h0 : ExceptHandler} {hs : List ExceptHandler} {l : List Clause} {pos : Pos} {tb : WX → TS} {Wout : WX}
theorem ps_try_clauses (hst : X.stack = X.env :: X.outer) (hf : X.env.frame = some X.env.locals) (hN : X.N.Nodup) (hi : X.N[i]? = some n) (hl : X.env.kindOf n = some .local) (tk : Takes X Wout)
    (hb : ∀ (W : WX) (pn : List (Addr × Obj)) (xe : Value → Shared → Prop), Takes (X.tr pn xe) W → PassesOwn (model X.prog X.w) X.A X.env xe → PSs (X.tr pn xe) body (tb W))
    (hc : ClOk X n (h0 :: hs) l) : PS X (.Try body (h0 :: hs) [] [] pos) (fun D σ H => tb (wClauses X.K i Wout D l) D σ H) := by
  constructor
  intro pp s0 sg H D I hw
  have ok := I.ok
  have frames : X.A.frames = some (X.env :: X.outer) := by rw [ok.frames, hst]
  refine wpAny_Try_except ?_
  refine wpAny_mono ((hb (wClauses X.K i Wout D l) (X.pn ++ pp) (fun e z => wpAny (model X.prog X.w) X.A (noteFrame e X.env) (fun _ z => wpAny (model X.prog X.w) X.A (setFlight e none) (fun _ z =>
    wpAny (model X.prog X.w) X.A (handleBy e X.env (h0 :: hs)) (SP X pp D) X.xe z) X.xe z) X.xe z) (fun u z xx => ?_) PassesOwn.looking).run [] s0 sg H D (I.toTry _) hw) (fun f z hsp => ?_) (fun _ _ he => he)
  · obtain ⟨a, B, sI, pp', sg', H', cls, d, rfl, J', nb, up, sky, na, eos, ag, w⟩ := xx
    have J : Inv X pp sg' H' sI := J'.ofTry ok
    have sky2 : Sky B (X.env :: X.outer) a (Zc cls d) X.env.locals z.heap := by rw [← hst]; exact sky
    show wpAny (model X.prog X.w) X.A (noteFrame (.ref a) X.env) _ _ _
    refine Sky.land Zc.steady frames hf sky2 fun h3 fl3 up3 => ?_
    have J3 : Inv X pp sg' H' { z with heap := h3 } := J.landed nb fl3.1 (up.trans up3) eos ag
    obtain ⟨oe3, vs3, e3, z3, d3⟩ := fl3.there
    have away : a ∉ frs (X.env :: X.outer) := fun hm => by
      obtain ⟨_, o', e', hnf⟩ := fl3.2.2.1.mem hm
      rw [e3] at e'
      cases e'
      exact hnf _ d3
    have nL : a ≠ X.env.locals := fun y => away (List.mem_filterMap.mpr ⟨X.env, List.mem_cons_self, by rw [hf, y]⟩)
    have nF : a ∉ X.fs := fun hm => by
      obtain ⟨e, he, q⟩ := List.mem_filterMap.mp hm
      exact away (List.mem_filterMap.mpr ⟨e, List.mem_cons_of_mem _ he, q⟩)
    have S3 := J3.suite e3 d3 na nL nF
    have go : ∀ {hs' : List ExceptHandler} {l' : List Clause}, ClOk X n hs' l' → wClauses X.K i Wout D l' cls d sg' H' → wpAny (model X.prog X.w) X.A (handleBy (.ref a) X.env hs') (SP X pp D) X.xe { z with heap := h3 } := by
      intro hs' l' hk
      induction hk with
      | nil =>
        intro w
        refine wpAny_handleBy_nil ?_
        obtain ⟨k1, k2, k3, oe, vs, T, oT, ts', he, hz, hd, h1, hr⟩ := id fl3
        unfold PySem.passOn
        refine wpAny_bind (wpAny_field he hd h1 ?_)
        rw [if_neg (by simp)]
        have fin : wpAny (model X.prog X.w) X.A (setFlight (.ref a) X.env.frame) (fun _ y => wpAny (model X.prog X.w) X.A (throw (.ref a) : Sem Flow) (SP X pp D) X.xe y) X.xe { z with heap := h3 } := by
          rw [hf]
          refine HandSPX.setFlight_upZ fl3 fun h4 hh4 up4 => wpAny_throw (tk _ _ ?_)
          exact ⟨a, B, sI, pp, sg', H', cls, d, rfl, J, nb, (up.trans up3).trans up4, .inr (.inr (by rw [hst]; exact hh4)), na, eos, ag, w⟩
        first
          | exact wpAny_bind (wpAny_pure (wpAny_bind fin))
          | exact wpAny_bind fin
      | @cons x c ts st sts q1 q2 hs2 l2 nm su r ih =>
        intro w
        obtain ⟨b, hb1, yes, no⟩ := w
        refine wpAny_handleBy_cons (codeAny_handlers_test ?_) (by intro q; cases q)
        have lt : PySem.W.Looks (model X.prog X.w) h3 (typeOf (.ref a)) cls := fun A Q E s k q => wpAny_typeOf_ref (k _ _ e3) (by rw [z3.1]; exact q)
        have lm := PySem.W.exm_one (M := model X.prog X.w) J3.kIn lt hb1
        have test : ∀ {Q : Value → Shared → Prop} {E : Value → Shared → Prop}, Q c { z with heap := h3 } → wpAny (model X.prog X.w) (X.A.mark (some (.ref a))) (eval (.Name x q1) X.env) Q E { z with heap := h3 } := fun {Q E} q => by
          obtain ⟨hg, hdbg, hm | ⟨hm, hv, hnn⟩⟩ := nm
          · exact ld_glob (X := X.suite a ((a, oe3) :: (X.pn ++ pp))) S3 hg hm q hdbg
          · exact ld_blt (X := X.suite a ((a, oe3) :: (X.pn ++ pp))) S3 hg hm hv q hnn hdbg
        refine test (lm.here ?_)
        cases b with
        | true =>
          refine codeAny_handlers_suite_as ?_
          refine HandSPX.lands_againZ fl3 fun h4 fl4 up4 => ?_
          have J4 : Inv X pp sg' H' { z with heap := h4 } := J.landed nb fl4.1 ((up.trans up3).trans up4) eos ag
          obtain ⟨oe4, vs4, e4, z4, d4⟩ := fl4.there
          have S4 := J4.suite e4 d4 na nL nF
          refine store_ok (X := X.suite a ((a, oe4) :: (X.pn ++ pp))) (v := .ref a) S4 hN hi (.inl hl) rfl (fun s5 S5 => ?_) (.inr hl)
          refine wpAny_mono ((su a oe4 cls d (X.pn ++ pp) z4 ⟨_, d4⟩).run [] s5 _ H' _ S5 (yes rfl a na)) (fun f s6 hsp => ?_) (fun _ _ y => False.elim y)
          have bye : ∀ {σ6 : L2.St} {H6 : Hp} {Q : Shared → Prop}, Inv (X.suite a ((a, oe4) :: (X.pn ++ pp))) [] σ6 H6 s6 → (∀ s7, Inv X pp (σ6.set i none) H6 s7 → Q s7) →
              wpAny (model X.prog X.w) X.A (do bindName X.env n .none; unbindBehindTheSuite X.env n q2) (fun _ s7 => Q s7) X.xe s6 := fun S6 hq => gone_ok (S6.unsuite ok) hN hi hl hq
          cases f with
          | ret u =>
            obtain ⟨v6, σ6, H6, S6, r6, q6⟩ := hsp
            exact bye S6 fun s7 J7 => ⟨_, _, _, J7, r6, q6⟩
          | _ =>
            obtain ⟨σ6, H6, S6, q6⟩ := hsp
            exact bye S6 fun s7 J7 => ⟨_, _, J7, q6⟩
        | false =>
          show wpAny _ X.A (handleBy (.ref a) X.env hs2) _ _ _
          exact ih (no rfl)
    exact go hc w
  · cases f with
    | next =>
      obtain ⟨σ', H', J', q⟩ := hsp
      exact wpAny_execs_nil ⟨σ', H', J'.ofTry ok, q⟩
    | ret u =>
      obtain ⟨v, σ', H', J', r, q⟩ := hsp
      exact ⟨v, σ', H', J'.ofTry ok, r, q⟩
    | _ =>
      obtain ⟨σ', H', J', q⟩ := hsp
      exact ⟨σ', H', J'.ofTry ok, q⟩
end
end Kb
namespace Kb
open PySem PySem.Spec PyProof.Rows L2
/-! ### what a handed lambda's call may raise, told by the clauses of the def that calls it -/
theorem takes_len {X : Cx} {W : WX} (tk : Takes X W) : Takes X (fun cls d σ H => σ.length = X.N.length → W cls d σ H) := fun u s' ⟨a, B, sI, pins, σ, H, cls, d, e, I, nb, up, sky, na, os, ag, w⟩ =>
  tk u s' ⟨a, B, sI, pins, σ, H, cls, d, e, I, nb, up, sky, na, os, ag, w I.len⟩
/-- the answers of «except C as e: return (name, e.at)», one after the other -/
def wErrs (K : PySem.W.Frag) (Q : VK) : List (Addr × Str × Str) → XK
  | [] => fun _ _ _ => False
  | (C, nm, fld) :: r => fun cls d H => ∃ b, PySem.W.exmOne K cls (.ref C) = some b ∧ (b = true → cls = .ref C ∧ ∃ dd fs v, d = some dd ∧ H dd = some (.xd fs) ∧ List.lookup fld fs = some v ∧ ∀ p, H p = none → Q (.ref p) (upd H p (.tup [.str nm, v]))) ∧
    (b = false → wErrs K Q r cls d H)
/-- try: call() / except ..: .. / return ("told",) -/
def TTe (K : PySem.W.Frag) (l : List (Addr × Str × Str)) : (XK → Hp → VK → Prop) → Hp → VK → Prop := fun tl H Q => tl (wErrs K Q l) H fun _ H1 => [V.str (Str.ofString "told")].length ≤ sizeLine ∧ ∀ p, H1 p = none → Q (.ref p) (upd H1 p (.tup [.str (Str.ofString "told")]))
/-- what a class's clause wants of the written part -/
structure Told (K : PySem.W.Frag) (mg : Str → Option Value) (C : Addr) (x fld : Str) : Prop where
  xf : XfC K C
  no : PySem.W.findIn K (.ref C) fld = some none
  g : mg x = some (.ref C)
/-- the reading of a clause -/
def tsErr (C : Addr) (i : Nat) (nm fld : Str) : Addr → Value → Option Addr → TS := fun a cls d => tRet (tTup (tCons (tC (.str nm)) (tCons (tXf a cls d C fld (tVar i)) tNil)))
def clauses (i : Nat) (l : List (Addr × Str × Str)) : List Clause := l.map fun c => (Value.ref c.1, tsErr c.1 i c.2.1 c.2.2)
theorem wErrs_clauses {K : PySem.W.Frag} {i : Nat} {D : Ends} {Q : VK} (hQ : D.rt = Q) : ∀ {l : List (Addr × Str × Str)} {cls : Value} {d : Option Addr} {H : Hp} {σ : L2.St}, i < σ.length → wErrs K Q l cls d H → wClauses K i (fun _ _ _ _ => False) D (clauses i l) cls d σ H
  | [], _, _, _, _, _, h => h
  | (C, nm, fld) :: r, cls, d, H, σ, hi, h => by
    obtain ⟨b, e, y, n⟩ := h
    refine ⟨b, e, fun hb a ha => ?_, fun hb => wErrs_clauses hQ hi (n hb)⟩
    obtain ⟨rfl, dd, fs, v, rfl, e1, e2, q⟩ := y hb
    have ei : (σ.set i (some (V.ref a)))[i]? = some (some (V.ref a)) := by rw [List.getElem?_set_self hi]
    show tRet (tTup _) (gone i D) _ H
    refine ⟨_, ei, rfl, rfl, dd, fs, v, rfl, e1, e2, ?_⟩
    refine ⟨(by rw [sizeLine_eq]; decide : 2 ≤ sizeLine), fun p hp => ?_⟩
    show D.rt _ _
    rw [hQ]
    exact q p hp
theorem err_gives {X : Cx} {a x e q : Str} {sg : Scope} {g : Addr} {cdg : Value} {l : List (Addr × Str × Str)} {hds : List ExceptHandler} {h0 : ExceptHandler} {j k : Nat} {p1 p2 p3 p4 p5 p6 p7 : Pos} (nd : ([a, e] : List Str).Nodup) (hl : sg.names.lookup e = some .local)
    (hc : ∀ (s : Shared) (H : Hp), ClOk (cxOf C8.CX0 X.prog X.w X.K X.mg X.base [a, e] x sg g cdg X.A X.stack s H C8.E0).nox e (h0 :: hds) (clauses 1 l)) :
    LamX.GivesTo X [a, e] x sg g cdg [.Try [.Expr (.Call (.Name a p1) [] [] p2) p3] (h0 :: hds) [] [] p4, .Return (some (.Tuple [.Constant (.str (Str.ofString "told")) j p5] k p6)) p7] a q (TTe X.K l) := by
  intro f c' s H Q tl act hc' h
  refine ⟨_, pss_cons (ps_try_clauses (X := (cxOf C8.CX0 X.prog X.w X.K X.mg X.base [a, e] x sg g cdg X.A X.stack s H C8.E0).nox) (i := 1) (n := e) (l := clauses 1 l) (Wout := fun _ _ _ _ => False)
      (tb := fun W D σ H => ∃ Ech : XK, (∀ cls d σ' H', σ'.length = 2 → Ech cls d H' → W cls d σ' H') ∧ σ[0]? = some (some (.ref f)) ∧ H c' = some (LamX.CodeO c' q) ∧ tl Ech H (fun _ H1 => D.nx σ H1))
      rfl rfl nd rfl hl LamX.takes0 (fun W pn xe tk _ => ?_) (hc s H)) (pss_one (ps_ret (pe_tup (pa_cons pe_str pa_nil)))), ?_⟩
  · refine ⟨fun pins s' σ H' D I h' => ?_⟩
    obtain ⟨Ech, hW, h1, h2, h3⟩ := h'
    have hp := act (fun cls d σ H => σ.length = 2 → W cls d σ H) pn xe Ech p1 p2 (takes_len tk) fun cls d σ' H' ec hl => hW cls d σ' H' hl ec
    exact (pss_one (ps_expr (pos := p3) hp)).run pins s' σ H' D I ⟨h1, h2, h3⟩
  · exact ⟨wErrs X.K Q l, fun cls d σ' H' hl ec => wErrs_clauses rfl (by rw [hl]; decide) ec, rfl, hc', h⟩
end Kb
namespace Kr
open PySem PySem.Spec PyProof.Rows L2 Kb
def topS (i : Nat) : Stmt := PySem.Challenge.pw_keyrules_k03_rooms_with_modes_and_parts.main.body.getD i (.Pass ⟨0, 0, 0, 0⟩)
abbrev s_InvalidClashes___init__ : Stmt := inClass (topS 3) 0
abbrev s_InvalidSize___init__ : Stmt := inClass (topS 6) 0
abbrev s_is_integer : Stmt := topS 8
abbrev s_is_below : Stmt := topS 9
abbrev s_is_between : Stmt := topS 10
abbrev s_is_sequence : Stmt := topS 11
abbrev s_is_row : Stmt := topS 12
abbrev s_lot_of : Stmt := topS 13
abbrev s_Keys___init__ : Stmt := inClass (topS 16) 0
abbrev s_need_count : Stmt := topS 17
abbrev s_told_clashes : Stmt := topS 18
abbrev s_need_keys : Stmt := topS 19
abbrev s_need_key : Stmt := topS 20
abbrev s_near_masks : Stmt := topS 21
abbrev s_near_of : Stmt := topS 22
abbrev s_clash : Stmt := topS 23
abbrev s_roomed : Stmt := topS 24
abbrev s_part_of : Stmt := topS 25
abbrev s_room_parts : Stmt := topS 26
abbrev s__law_box : Stmt := topS 28
abbrev s__law_take : Stmt := topS 29
abbrev s__law_mixed : Stmt := topS 30
abbrev s__law_is : Stmt := topS 31
abbrev s__law_error : Stmt := topS 32
abbrev s__law_mask : Stmt := topS 33
abbrev s__law_near : Stmt := topS 34
abbrev s__law_graph : Stmt := topS 35
abbrev s__law_joined : Stmt := topS 36
abbrev s_law : Stmt := topS 37
theorem sc_is_integer : FnScope ["value"] ["value"] (defScope s_is_integer) := ⟨rfl, rfl, rfl, by decide +kernel, rfl, by decide +kernel, by decide +kernel⟩
theorem sc_is_below : FnScope ["value", "limit"] ["value", "limit"] (defScope s_is_below) := ⟨rfl, rfl, rfl, by decide +kernel, rfl, by decide +kernel, by decide +kernel⟩
theorem sc_is_between : FnScope ["value", "least", "greatest"] ["value", "least", "greatest"] (defScope s_is_between) := ⟨rfl, rfl, rfl, by decide +kernel, rfl, by decide +kernel, by decide +kernel⟩
theorem sc_is_sequence : FnScope ["value"] ["value"] (defScope s_is_sequence) := ⟨rfl, rfl, rfl, by decide +kernel, rfl, by decide +kernel, by decide +kernel⟩
theorem sc_is_row : FnScope ["value", "many"] ["value", "many"] (defScope s_is_row) := ⟨rfl, rfl, rfl, by decide +kernel, rfl, by decide +kernel, by decide +kernel⟩
theorem sc_lot_of : FnScope ["mask", "key"] ["mask"] (defScope s_lot_of) := ⟨rfl, rfl, rfl, by decide +kernel, rfl, by decide +kernel, by decide +kernel⟩
theorem sc_Keys___init__ : FnScope ["self", "many", "clashes"] ["self", "many", "clashes"] (defScope s_Keys___init__) := ⟨rfl, rfl, rfl, by decide +kernel, rfl, by decide +kernel, by decide +kernel⟩
theorem sc_need_count : FnScope ["value", "least", "greatest"] ["value", "least", "greatest"] (defScope s_need_count) := ⟨rfl, rfl, rfl, by decide +kernel, rfl, by decide +kernel, by decide +kernel⟩
theorem sc_told_clashes : FnScope ["value", "many", "seen", "at", "pair"] ["value", "many"] (defScope s_told_clashes) := ⟨rfl, rfl, rfl, by decide +kernel, rfl, by decide +kernel, by decide +kernel⟩
theorem sc_need_keys : FnScope ["value"] ["value"] (defScope s_need_keys) := ⟨rfl, rfl, rfl, by decide +kernel, rfl, by decide +kernel, by decide +kernel⟩
theorem sc_need_key : FnScope ["value", "many"] ["value", "many"] (defScope s_need_key) := ⟨rfl, rfl, rfl, by decide +kernel, rfl, by decide +kernel, by decide +kernel⟩
theorem sc_near_masks : FnScope ["keys", "near", "_", "one", "other"] ["keys"] (defScope s_near_masks) := ⟨rfl, rfl, rfl, by decide +kernel, rfl, by decide +kernel, by decide +kernel⟩
theorem sc_near_of : FnScope ["near", "mask", "found", "key"] ["near", "mask"] (defScope s_near_of) := ⟨rfl, rfl, rfl, by decide +kernel, rfl, by decide +kernel, by decide +kernel⟩
theorem sc_clash : FnScope ["keys", "first", "second"] ["keys", "first", "second"] (defScope s_clash) := ⟨rfl, rfl, rfl, by decide +kernel, rfl, by decide +kernel, by decide +kernel⟩
theorem sc_roomed : FnScope ["rooms", "modes", "clashes", "pairs", "spread", "room", "one", "other"] ["rooms", "modes", "clashes"] (defScope s_roomed) := ⟨rfl, rfl, rfl, by decide +kernel, rfl, by decide +kernel, by decide +kernel⟩
theorem sc_part_of : FnScope ["near", "key", "part", "more"] ["near", "key"] (defScope s_part_of) := ⟨rfl, rfl, rfl, by decide +kernel, rfl, by decide +kernel, by decide +kernel⟩
theorem sc_room_parts : FnScope ["keys", "near", "parts", "key"] ["keys"] (defScope s_room_parts) := ⟨rfl, rfl, rfl, by decide +kernel, rfl, by decide +kernel, by decide +kernel⟩
theorem sc__law_box : FnScope ["script", "rest", "state", "k", "cell", "size"] ["script"] (defScope s__law_box) := ⟨rfl, rfl, rfl, by decide +kernel, rfl, by decide +kernel, by decide +kernel⟩
theorem sc__law_take : FnScope ["box", "many", "cell"] ["box", "many"] (defScope s__law_take) := ⟨rfl, rfl, rfl, by decide +kernel, rfl, by decide +kernel, by decide +kernel⟩
theorem sc__law_mixed : FnScope ["box", "row", "left", "told", "turn", "at"] ["box", "row"] (defScope s__law_mixed) := ⟨rfl, rfl, rfl, by decide +kernel, rfl, by decide +kernel, by decide +kernel⟩
theorem sc__law_is : FnScope ["told", "due", "one", "other"] ["told", "due"] (defScope s__law_is) := ⟨rfl, rfl, rfl, by decide +kernel, rfl, by decide +kernel, by decide +kernel⟩
theorem sc__law_error : FnScope ["call", "e"] ["call"] (defScope s__law_error) := ⟨rfl, rfl, rfl, by decide +kernel, rfl, by decide +kernel, by decide +kernel⟩
theorem sc__law_mask : FnScope ["lot", "mask", "key"] ["lot"] (defScope s__law_mask) := ⟨rfl, rfl, rfl, by decide +kernel, rfl, by decide +kernel, by decide +kernel⟩
theorem sc__law_near : FnScope ["many", "pairs", "near", "key", "one", "other"] ["many", "pairs"] (defScope s__law_near) := ⟨rfl, rfl, rfl, by decide +kernel, rfl, by decide +kernel, by decide +kernel⟩
theorem sc__law_graph : FnScope ["box", "many", "side", "told", "one", "other", "chance", "hit"] ["box", "many"] (defScope s__law_graph) := ⟨rfl, rfl, rfl, by decide +kernel, rfl, by decide +kernel, by decide +kernel⟩
theorem sc__law_joined : FnScope ["near", "part", "seen", "order", "turn", "key"] ["near", "part"] (defScope s__law_joined) := ⟨rfl, rfl, rfl, by decide +kernel, rfl, by decide +kernel, by decide +kernel⟩
theorem sc_law : FnScope ["script", "box", "turn", "rooms", "modes", "pairs", "keys", "due", "room", "one", "other", "far", "many", "some", "parts", "near", "part", "whole", "key"] ["script"] (defScope s_law) := ⟨rfl, rfl, rfl, by decide +kernel, rfl, by decide +kernel, by decide +kernel⟩
structure Tx (P : Program) (K : PySem.W.Frag) (mg : Str → Option Value) where
  a_InvalidClashes___init__ : Addr
  a_InvalidSize___init__ : Addr
  a_is_integer : Addr
  d_is_integer : FuncData
  F_is_integer : Fun K "is_integer" "is_integer" s_is_integer a_is_integer d_is_integer
  g_is_integer : mg "is_integer" = some (.ref a_is_integer)
  b_is_integer : Binds K d_is_integer ["value"] []
  a_is_below : Addr
  d_is_below : FuncData
  F_is_below : Fun K "is_below" "is_below" s_is_below a_is_below d_is_below
  g_is_below : mg "is_below" = some (.ref a_is_below)
  b_is_below : Binds K d_is_below ["value", "limit"] []
  a_is_between : Addr
  d_is_between : FuncData
  F_is_between : Fun K "is_between" "is_between" s_is_between a_is_between d_is_between
  g_is_between : mg "is_between" = some (.ref a_is_between)
  b_is_between : Binds K d_is_between ["value", "least", "greatest"] []
  a_is_sequence : Addr
  d_is_sequence : FuncData
  F_is_sequence : Fun K "is_sequence" "is_sequence" s_is_sequence a_is_sequence d_is_sequence
  g_is_sequence : mg "is_sequence" = some (.ref a_is_sequence)
  b_is_sequence : Binds K d_is_sequence ["value"] []
  a_is_row : Addr
  d_is_row : FuncData
  F_is_row : Fun K "is_row" "is_row" s_is_row a_is_row d_is_row
  g_is_row : mg "is_row" = some (.ref a_is_row)
  b_is_row : Binds K d_is_row ["value", "many"] []
  a_lot_of : Addr
  d_lot_of : FuncData
  F_lot_of : Fun K "lot_of" "lot_of" s_lot_of a_lot_of d_lot_of
  g_lot_of : mg "lot_of" = some (.ref a_lot_of)
  b_lot_of : Binds K d_lot_of ["mask"] []
  a_Keys___init__ : Addr
  d_Keys___init__ : FuncData
  F_Keys___init__ : Fun K "__init__" "Keys.__init__" s_Keys___init__ a_Keys___init__ d_Keys___init__
  b_Keys___init__ : Binds K d_Keys___init__ ["self", "many", "clashes"] []
  a_need_count : Addr
  d_need_count : FuncData
  F_need_count : Fun K "need_count" "need_count" s_need_count a_need_count d_need_count
  g_need_count : mg "need_count" = some (.ref a_need_count)
  b_need_count : Binds K d_need_count ["value", "least", "greatest"] []
  a_told_clashes : Addr
  d_told_clashes : FuncData
  F_told_clashes : Fun K "told_clashes" "told_clashes" s_told_clashes a_told_clashes d_told_clashes
  g_told_clashes : mg "told_clashes" = some (.ref a_told_clashes)
  b_told_clashes : Binds K d_told_clashes ["value", "many"] []
  a_need_keys : Addr
  d_need_keys : FuncData
  F_need_keys : Fun K "need_keys" "need_keys" s_need_keys a_need_keys d_need_keys
  g_need_keys : mg "need_keys" = some (.ref a_need_keys)
  b_need_keys : Binds K d_need_keys ["value"] []
  a_need_key : Addr
  d_need_key : FuncData
  F_need_key : Fun K "need_key" "need_key" s_need_key a_need_key d_need_key
  g_need_key : mg "need_key" = some (.ref a_need_key)
  b_need_key : Binds K d_need_key ["value", "many"] []
  a_near_masks : Addr
  d_near_masks : FuncData
  F_near_masks : Fun K "near_masks" "near_masks" s_near_masks a_near_masks d_near_masks
  g_near_masks : mg "near_masks" = some (.ref a_near_masks)
  b_near_masks : Binds K d_near_masks ["keys"] []
  a_near_of : Addr
  d_near_of : FuncData
  F_near_of : Fun K "near_of" "near_of" s_near_of a_near_of d_near_of
  g_near_of : mg "near_of" = some (.ref a_near_of)
  b_near_of : Binds K d_near_of ["near", "mask"] []
  a_clash : Addr
  d_clash : FuncData
  F_clash : Fun K "clash" "clash" s_clash a_clash d_clash
  g_clash : mg "clash" = some (.ref a_clash)
  b_clash : Binds K d_clash ["keys", "first", "second"] []
  a_roomed : Addr
  d_roomed : FuncData
  F_roomed : Fun K "roomed" "roomed" s_roomed a_roomed d_roomed
  g_roomed : mg "roomed" = some (.ref a_roomed)
  b_roomed : Binds K d_roomed ["rooms", "modes", "clashes"] []
  a_part_of : Addr
  d_part_of : FuncData
  F_part_of : Fun K "part_of" "part_of" s_part_of a_part_of d_part_of
  g_part_of : mg "part_of" = some (.ref a_part_of)
  b_part_of : Binds K d_part_of ["near", "key"] []
  a_room_parts : Addr
  d_room_parts : FuncData
  F_room_parts : Fun K "room_parts" "room_parts" s_room_parts a_room_parts d_room_parts
  g_room_parts : mg "room_parts" = some (.ref a_room_parts)
  b_room_parts : Binds K d_room_parts ["keys"] []
  a__law_box : Addr
  d__law_box : FuncData
  F__law_box : Fun K "_law_box" "_law_box" s__law_box a__law_box d__law_box
  g__law_box : mg "_law_box" = some (.ref a__law_box)
  b__law_box : Binds K d__law_box ["script"] []
  a__law_take : Addr
  d__law_take : FuncData
  F__law_take : Fun K "_law_take" "_law_take" s__law_take a__law_take d__law_take
  g__law_take : mg "_law_take" = some (.ref a__law_take)
  b__law_take : Binds K d__law_take ["box", "many"] []
  a__law_mixed : Addr
  d__law_mixed : FuncData
  F__law_mixed : Fun K "_law_mixed" "_law_mixed" s__law_mixed a__law_mixed d__law_mixed
  g__law_mixed : mg "_law_mixed" = some (.ref a__law_mixed)
  b__law_mixed : Binds K d__law_mixed ["box", "row"] []
  a__law_is : Addr
  d__law_is : FuncData
  F__law_is : Fun K "_law_is" "_law_is" s__law_is a__law_is d__law_is
  g__law_is : mg "_law_is" = some (.ref a__law_is)
  b__law_is : Binds K d__law_is ["told", "due"] []
  a__law_error : Addr
  d__law_error : FuncData
  F__law_error : Fun K "_law_error" "_law_error" s__law_error a__law_error d__law_error
  g__law_error : mg "_law_error" = some (.ref a__law_error)
  b__law_error : Binds K d__law_error ["call"] []
  a__law_mask : Addr
  d__law_mask : FuncData
  F__law_mask : Fun K "_law_mask" "_law_mask" s__law_mask a__law_mask d__law_mask
  g__law_mask : mg "_law_mask" = some (.ref a__law_mask)
  b__law_mask : Binds K d__law_mask ["lot"] []
  a__law_near : Addr
  d__law_near : FuncData
  F__law_near : Fun K "_law_near" "_law_near" s__law_near a__law_near d__law_near
  g__law_near : mg "_law_near" = some (.ref a__law_near)
  b__law_near : Binds K d__law_near ["many", "pairs"] []
  a__law_graph : Addr
  d__law_graph : FuncData
  F__law_graph : Fun K "_law_graph" "_law_graph" s__law_graph a__law_graph d__law_graph
  g__law_graph : mg "_law_graph" = some (.ref a__law_graph)
  b__law_graph : Binds K d__law_graph ["box", "many"] []
  a__law_joined : Addr
  d__law_joined : FuncData
  F__law_joined : Fun K "_law_joined" "_law_joined" s__law_joined a__law_joined d__law_joined
  g__law_joined : mg "_law_joined" = some (.ref a__law_joined)
  b__law_joined : Binds K d__law_joined ["near", "part"] []
  a_law : Addr
  d_law : FuncData
  F_law : Fun K "law" "law" s_law a_law d_law
  g_law : mg "law" = some (.ref a_law)
  b_law : Binds K d_law ["script"] []
  c_InvalidClashes : Addr
  g_InvalidClashes : mg "InvalidClashes" = some (.ref c_InvalidClashes)
  c_InvalidSize : Addr
  g_InvalidSize : mg "InvalidSize" = some (.ref c_InvalidSize)
  c_Keys : Addr
  g_Keys : mg "Keys" = some (.ref c_Keys)
  m_Keys : Mk K c_Keys a_Keys___init__
  cl_Keys : Cls K c_Keys
  na_many : NoAttr K c_Keys "many"
  na_clashes : NoAttr K c_Keys "clashes"
  ic_Keys : C8.InsC K c_Keys
  ex_SC : PySem.W.exmOne K (.ref c_InvalidSize) (.ref c_InvalidClashes) = some false
  ex_SS : PySem.W.exmOne K (.ref c_InvalidSize) (.ref c_InvalidSize) = some true
  ex_CC : PySem.W.exmOne K (.ref c_InvalidClashes) (.ref c_InvalidClashes) = some true
  x_InvalidClashes : Told K mg c_InvalidClashes "InvalidClashes" (Str.ofString "at")
  x_InvalidSize : Told K mg c_InvalidSize "InvalidSize" (Str.ofString "word")
  e_InvalidClashes : Kx.ErrTxt P K c_InvalidClashes a_InvalidClashes___init__ s_InvalidClashes___init__ (Str.ofString "at")
  e_InvalidSize : Kx.ErrTxt P K c_InvalidSize a_InvalidSize___init__ s_InvalidSize___init__ (Str.ofString "word")
  g_MOST_KEYS : ∃ t, mg "MOST_KEYS" = some (.int 12 t)
  n_abs : mg "abs" = none
  n_bool : mg "bool" = none
  n_enumerate : mg "enumerate" = none
  n_int : mg "int" = none
  n_isinstance : mg "isinstance" = none
  n_len : mg "len" = none
  n_list : mg "list" = none
  n_range : mg "range" = none
  n_sorted : mg "sorted" = none
  n_str : mg "str" = none
  n_super : mg "super" = none
  n_tuple : mg "tuple" = none
  n_zip : mg "zip" = none
end Kr
namespace Kr
open PySem PySem.Spec PyProof.Rows L2 Kb
section
variable {P : Program} {w : World} {K : PySem.W.Frag} {mg : Str → Option Value} {base : Heap}
/-! ### the law's own box of numbers -/
abbrev ivs (l : List Int) : List V := l.map V.int
/-- the first thing in a list, if that is an object -/
def rest : Option HO → Option Addr
  | some (.lst (.ref r :: _)) => some r
  | _ => none
/-- the heap without the box at b and without its rest -/
def hbx (b : Addr) (H : Hp) : Hp := fun a => if a = b ∨ rest (H b) = some a then none else H a
/-- the box at b: its rest and its state -/
def Bx (b : Addr) (H : Hp) : Prop := ∃ r cs st, H b = some (.lst [.ref r, .int st]) ∧ r ≠ b ∧ H r = some (.lst (ivs cs)) ∧ (∀ c ∈ cs, 0 ≤ c) ∧ cs.length ≤ 63 ∧ 0 ≤ st ∧ st < 2147483647
theorem hbx_of {b a : Addr} {H : Hp} {o : HO} (h : hbx b H a = some o) : a ≠ b ∧ rest (H b) ≠ some a ∧ H a = some o := by
  unfold hbx at h
  split at h
  · cases h
  · rename_i n
    exact ⟨fun e => n (.inl e), fun e => n (.inr e), h⟩
theorem hbx_le (b : Addr) (H : Hp) : Same (hbx b H) H := fun a o h => (hbx_of h).2.2
theorem hbx_at {b a : Addr} {H : Hp} {o : HO} (h : H a = some o) (n : a ≠ b) (m : rest (H b) ≠ some a) : hbx b H a = some o := by
  unfold hbx
  rw [if_neg fun z => z.elim n m]
  exact h
theorem hbx_mono {b : Addr} {H H' : Hp} {o : HO} (e : Same H H') (hb : H b = some o) : Same (hbx b H) (hbx b H') := fun a u h => by
  obtain ⟨h1, h2, h3⟩ := hbx_of h
  exact hbx_at (e _ _ h3) h1 (by rw [e _ _ hb, ← hb]; exact h2)
theorem hbx_free {b a : Addr} {H : Hp} (h : H a = none) : hbx b H a = none := by
  unfold hbx
  split
  · rfl
  · exact h
theorem Bx.is {b : Addr} {H : Hp} (h : Bx b H) : ∃ o, H b = some o := by
  obtain ⟨r, cs, st, h1, _⟩ := h
  exact ⟨_, h1⟩
theorem Bx.same {b : Addr} {H H' : Hp} (h : Bx b H) (e : Same H H') : Bx b H' := by
  obtain ⟨r, cs, st, h1, h2, h3, h4⟩ := h
  exact ⟨r, cs, st, e _ _ h1, h2, e _ _ h3, h4⟩
theorem Bx.mono {b : Addr} {H H' : Hp} (h : Bx b H) (e : Same H H') : Same (hbx b H) (hbx b H') := by
  obtain ⟨o, ho⟩ := h.is
  exact hbx_mono e ho
/-- what is new stands apart from the box -/
theorem Bx.new {b p : Addr} {H H' : Hp} {o : HO} (h : Bx b H) (e : Same H H') (hp : H p = none) (hp2 : H' p = some o) : hbx b H' p = some o := by
  obtain ⟨r, cs, st, h1, h2, h3, h4⟩ := h
  refine hbx_at hp2 (Ne.symm (ne_of_none h1 hp)) ?_
  rw [e _ _ h1]
  exact fun z => ne_of_none h3 hp (Option.some.inj z)
theorem cut_to {xs : List V} {k : Nat} (h : k ≤ xs.length) : cutV xs none (some (k : Int)) = xs.take k := by
  unfold cutV
  rw [HT.sIx_none, HT.sIx_nat, List.drop_zero, Nat.min_eq_left h, Nat.sub_zero]
theorem cut_from {xs : List V} {k : Nat} : cutV xs (some (k : Int)) none = xs.drop k := by
  unfold cutV
  rw [HT.sIx_none, HT.sIx_nat]
  by_cases h : k ≤ xs.length
  · rw [Nat.min_eq_left h, List.take_of_length_le (by rw [List.length_drop]; omega)]
  · rw [List.drop_of_length_le (by omega), List.drop_of_length_le (by omega), List.take_nil]
/-- what is no list stands apart from the box -/
theorem Bx.non {b a : Addr} {H : Hp} {o : HO} (h : Bx b H) (e : H a = some o) (n : ∀ xs, o ≠ .lst xs) : hbx b H a = some o := by
  obtain ⟨r, cs, st, h1, h2, h3, h4⟩ := h
  refine hbx_at e (fun z => ?_) fun z => ?_
  · rw [z, h1] at e
    exact n _ (Option.some.inj e).symm
  · rw [h1] at z
    rw [← (Option.some.inj z : r = a), h3] at e
    exact n _ (Option.some.inj e).symm
/-- an object apart from the box is written -/
theorem hbx_put {b p : Addr} {H : Hp} {o u : HO} (h : hbx b H p = some o) : hbx b (upd H p u) = upd (hbx b H) p u := by
  obtain ⟨h1, h2, h3⟩ := hbx_of h
  funext a
  unfold hbx
  rw [upd_ne (Ne.symm h1)]
  by_cases e : a = p
  · subst e
    rw [if_neg fun z => z.elim h1 h2, upd_same, upd_same]
  · rw [upd_ne e, upd_ne e]
theorem Bx.put {b p : Addr} {H : Hp} {o u : HO} (h : Bx b H) (hp : hbx b H p = some o) : Bx b (upd H p u) := by
  obtain ⟨r, cs, st, h1, h2, h3, h4⟩ := h
  obtain ⟨g1, g2, g3⟩ := hbx_of hp
  refine ⟨r, cs, st, by rw [upd_ne (Ne.symm g1)]; exact h1, h2, ?_, h4⟩
  rw [upd_ne fun e => g2 (by rw [h1, ← e]; rfl)]
  exact h3
/-- over the numbers and items of a list that is made for the loop -/
theorem forEN {σ : L2.St} {H : Hp} {D : Ends} {ta : TA} {tb : TS} {i1 i2 : Nat} (xs : List V) (Pv : Addr → Nat → L2.St → Hp → Prop) (h : ∀ R : List V → Hp → Prop, (∀ p, H p = none → R [.ref p] (upd H p (.lst xs))) → ta σ H R)
    (h0 : ∀ p, H p = none → Pv p 0 σ (upd H p (.lst xs))) (hl : ∀ p i σ' H', H p = none → Pv p i σ' H' → H' p = some (.lst xs))
    (hs : ∀ (p : Addr) (i : Nat) (x : V) (σ' : L2.St) (H' : Hp) (T : Addr), H p = none → xs[i]? = some x → Pv p i σ' H' → H' T = none →
      tb { D with nx := Pv p (i + 1), ct := Pv p (i + 1), bk := D.nx } ((σ'.set i1 (some (nv i))).set i2 (some x)) (upd H' T (.tup [nv i, x]))) (hd : ∀ p σ' H', H p = none → Pv p xs.length σ' H' → D.nx σ' H') :
    tFor (iEnumA K ta) (gTup K 2 (gCons (gName i1) (gCons (gName i2) gNil))) tb D σ H := by
  refine h _ fun p hp => ⟨p, xs, rfl, .inl ⟨.of upd_same, for_it walk_enum (Pv p) (h0 p hp) (fun i σ' H' _ z => .of (hl p i σ' H' hp z)) (fun i v σ' H1 H2 _ z y => ?_) fun σ' H' z => hd p σ' H' hp z⟩⟩
  obtain ⟨T, x, y, rfl, hT, rfl, e1, e2⟩ := y
  cases e1
  exact ⟨T, _, rfl, .of upd_same, rfl, _, _, rfl, _, _, rfl, rfl, hs p i y σ' H1 T hp e2 z hT⟩
theorem cut63 {xs : List V} (h : xs.length ≤ 63) : cutV xs none (some 63) = xs := by
  unfold cutV
  rw [show HT.sIx xs.length 0 none = 0 from rfl, List.drop_zero, show HT.sIx xs.length xs.length (some 63) = min 63 xs.length from HT.sIx_nat _ _ 63, List.take_of_length_le (by omega)]
def sp_law_box (K : PySem.W.Frag) : Sp := fun vs H Q _ => ∃ a ns, vs = [.ref a] ∧ SqL K H a (ivs ns) ∧ ns.length ≤ 63 ∧ ∀ H' b, Same H (hbx b H') → H b = none → Bx b H' → Q (.ref b) H'
theorem ok__law_box (T : Tx P K mg) : FnOk P w K mg base CX0 1 T.a__law_box T.d__law_box ["script"] (sp_law_box K) := by
  refine T.F__law_box.ok sc__law_box (fun vs H Q E h => ?_) (fun cdv A outer s H vs Q E hr h => ?_)
  · obtain ⟨a, ns, rfl, _⟩ := h
    rfl
  · obtain ⟨a, ns, rfl, hs, hn, q⟩ := h
    refine ⟨_, (pss_cons (ps_par (i := 1) (j := 2) (by rfl) sc__law_box.nd rfl rfl (by decide) rfl rfl (pa_cons (pe_lst pa_nil) (pa_cons pe_int pa_nil)) (by rfl))
      (pss_cons (ps_for PassesOwn.never rfl (penumK (K := K) rfl (by rfl) T.n_enumerate (pa_cons (pe_slice (slL (K := K) rfl) (pv 0) po_none (po_some pe_int)) pa_nil)) (gtupK (K := K) (n := 2) rfl (by rfl) (pgs_cons (pg_name (i := 3) sc__law_box.nd rfl (Or.inl rfl)) (pgs_cons (pg_name (i := 4) sc__law_box.nd rfl (Or.inl rfl)) pgs_nil))) (pss_cons (ps_set (i := 5) sc__law_box.nd rfl (Or.inl rfl) (pe_op op_add (pe_op op_mul (pe_callB callAbsN (by rfl) T.n_abs (by decide +kernel) (pa_cons (pv 4) pa_nil)) pe_int) (pe_callTy callIntB (by rfl) T.n_int (by decide +kernel) (pa_cons (pe_cmpR op_lt (pv 4) pe_int (nomark _)) pa_nil))))
      (pss_cons (ps_if (pt_cmpR op_ge (pe_callB callAbsN (by rfl) T.n_abs (by decide +kernel) (pa_cons (pv 4) pa_nil)) (pe_op op_pow pe_int pe_int) (nomark _)) (pss_one (ps_expr (bmK (K := K) rfl PySem.F.plainAttrs_list PySem.F.slot_list_append PySem.F.type_list_append mt_append (pv 1) (pa_cons (pe_callB callAbsN (by rfl) T.n_abs (by decide +kernel) (pa_cons (pv 4) pa_nil)) pa_nil)))) pss_nil)
      (pss_one (ps_set (i := 2) sc__law_box.nd rfl (Or.inl rfl) (pe_op op_add (pe_op op_mod (pe_callTy callIntI (by rfl) T.n_int (by decide +kernel) (pa_cons (pe_op op_add (pe_op op_add (pe_op op_mul (pv 2) pe_int) (pe_op op_mul (pe_op op_mod (pe_callTy callIntI (by rfl) T.n_int (by decide +kernel) (pa_cons (pv 5) pa_nil)) pe_int) (pe_op op_add (pe_op op_mul pe_int (pv 3)) pe_int))) pe_int) pa_nil)) pe_int) pe_int))))))
      (pss_one (ps_ret (pe_lst (pa_cons (pv 1) (pa_cons (pv 2) pa_nil))))))), ?_⟩
    rw [show L2.start ["script", "rest", "state", "k", "cell", "size"] [.ref a] = [some (.ref a), none, none, none, none, none] from rfl]
    generalize hF1 : tFor _ _ _ = F1
    (try simp only [tVar, tC, tOp, tUn, rI, rI0, rU, rEq, rNe, scal, tTest, tB, tAnd, tOr, tNot, tAndV, tOrV, tNotV, tIf, tChain, tNil, tCons, tCB, tCall, tTup, tLst, tRet, tRetN, tDrop, tSeq, tNext, tIfS, tAsg, gName, tPar, tPar3, gNil, gCons, gTup, gSub, tAug, tSl, tNoPart, tPart, tBM, tBM0, tYes, tIsP, iSeq, iEnumA, RZ.iZipA, iRng1, iRng2, iList, iTup, rIsi, rIsB, rIxL, rIxT, rIxA, rLenA, rListOf, rTupOf, rSetL, rSlL, rCat, rAppend, tFld, sFld, tMake, tBits, Int.ofNat_inj, cast1, cast0, TruV, cxOf, Cx.nox, Cx.wish, tNever, tBreak, tCont, ipI, tDIn, tDNotIn, sDPut, tDNewT, tDNewK, tDGet, rSortedPO, rSortedI, rIn, rEqD, rNeD, rInD, rNotInD, tSSet, rIsV, rIntI, rIntB, rAbsN, tLstRg, tRg1, tRg2, List.append_nil, List.nil_append, List.cons_append, Option.some.injEq, exists_eq_left', exists_eq_left, exists_eq_right, exists_eq_right', List.getElem?_cons_zero, List.getElem?_cons_succ, List.set_cons_zero, List.set_cons_succ, List.cons.injEq, and_true, true_and, exists_and_left, exists_and_right, and_assoc, V.int.injEq, V.bl.injEq, V.ref.injEq, V.str.injEq, reduceCtorEq, decide_true, decide_false, Bool.not_true, Bool.not_false, Bool.false_eq_true, if_false, if_true, ite_true, ite_false, List.length_cons, List.length_nil, tRaise, tErr, LamX.tLam, TTe, rSortedIA, rSortedTA, tDisp, tPairs])
    refine ⟨by decide, fun r hr0 => ?_⟩
    subst hF1
    refine forEN (ivs ns) (fun p i σ' H' => ∃ st y3 y4 y5 cs, σ' = [some (.ref a), some (.ref r), some (.int st), y3, y4, y5] ∧ Same H H' ∧ H' p = some (.lst (ivs ns)) ∧ H' r = some (.lst (ivs cs)) ∧ p ≠ r ∧ (∀ c ∈ cs, 0 ≤ c) ∧ cs.length ≤ i ∧ 0 ≤ st ∧ st < 2147483647) (fun R h => ?_) (fun p hp => ?_) (fun p i σ' H' hp z => ?_) ?_ ?_
    · (try simp only [tVar, tC, tOp, tUn, rI, rI0, rU, rEq, rNe, scal, tTest, tB, tAnd, tOr, tNot, tAndV, tOrV, tNotV, tIf, tChain, tNil, tCons, tCB, tCall, tTup, tLst, tRet, tRetN, tDrop, tSeq, tNext, tIfS, tAsg, gName, tPar, tPar3, gNil, gCons, gTup, gSub, tAug, tSl, tNoPart, tPart, tBM, tBM0, tYes, tIsP, iSeq, iEnumA, RZ.iZipA, iRng1, iRng2, iList, iTup, rIsi, rIsB, rIxL, rIxT, rIxA, rLenA, rListOf, rTupOf, rSetL, rSlL, rCat, rAppend, tFld, sFld, tMake, tBits, Int.ofNat_inj, cast1, cast0, TruV, cxOf, Cx.nox, Cx.wish, tNever, tBreak, tCont, ipI, tDIn, tDNotIn, sDPut, tDNewT, tDNewK, tDGet, rSortedPO, rSortedI, rIn, rEqD, rNeD, rInD, rNotInD, tSSet, rIsV, rIntI, rIntB, rAbsN, tLstRg, tRg1, tRg2, List.append_nil, List.nil_append, List.cons_append, Option.some.injEq, exists_eq_left', exists_eq_left, exists_eq_right, exists_eq_right', List.getElem?_cons_zero, List.getElem?_cons_succ, List.set_cons_zero, List.set_cons_succ, List.cons.injEq, and_true, true_and, exists_and_left, exists_and_right, and_assoc, V.int.injEq, V.bl.injEq, V.ref.injEq, V.str.injEq, reduceCtorEq, decide_true, decide_false, Bool.not_true, Bool.not_false, Bool.false_eq_true, if_false, if_true, ite_true, ite_false, List.length_cons, List.length_nil, tRaise, tErr, LamX.tLam, TTe, rSortedIA, rSortedTA, tDisp, tPairs])
      refine ⟨ivs ns, Same.seq (same_new hr0) hs, ?_⟩
      rw [cut63 (by rw [List.length_map]; exact hn)]
      exact h
    · have hne : p ≠ r := fun e => by rw [e, upd_same] at hp; cases hp
      exact ⟨40503, _, _, _, [], rfl, (same_new hr0).trans (same_new hp), upd_same, by rw [upd_ne (Ne.symm hne)]; exact upd_same, hne, fun c hc => (nomatch hc), Nat.le_refl _, by decide, by decide⟩
    · obtain ⟨_, _, _, _, _, _, _, z, _⟩ := z
      exact z
    · rintro p i x σ' H' t hp hx ⟨st, y3, y4, y5, cs, rfl, sm, ep, er, ne, hc, hl, s0, s1⟩ ht
      have lt : i < 63 := by have := (List.getElem?_eq_some_iff.mp hx).1; rw [List.length_map] at this; omega
      rw [List.getElem?_map] at hx
      obtain ⟨c, _, rfl⟩ := Option.map_eq_some_iff.mp hx
      (try simp only [tVar, tC, tOp, tUn, rI, rI0, rU, rEq, rNe, scal, tTest, tB, tAnd, tOr, tNot, tAndV, tOrV, tNotV, tIf, tChain, tNil, tCons, tCB, tCall, tTup, tLst, tRet, tRetN, tDrop, tSeq, tNext, tIfS, tAsg, gName, tPar, tPar3, gNil, gCons, gTup, gSub, tAug, tSl, tNoPart, tPart, tBM, tBM0, tYes, tIsP, iSeq, iEnumA, RZ.iZipA, iRng1, iRng2, iList, iTup, rIsi, rIsB, rIxL, rIxT, rIxA, rLenA, rListOf, rTupOf, rSetL, rSlL, rCat, rAppend, tFld, sFld, tMake, tBits, Int.ofNat_inj, cast1, cast0, TruV, cxOf, Cx.nox, Cx.wish, tNever, tBreak, tCont, ipI, tDIn, tDNotIn, sDPut, tDNewT, tDNewK, tDGet, rSortedPO, rSortedI, rIn, rEqD, rNeD, rInD, rNotInD, tSSet, rIsV, rIntI, rIntB, rAbsN, tLstRg, tRg1, tRg2, List.append_nil, List.nil_append, List.cons_append, Option.some.injEq, exists_eq_left', exists_eq_left, exists_eq_right, exists_eq_right', List.getElem?_cons_zero, List.getElem?_cons_succ, List.set_cons_zero, List.set_cons_succ, List.cons.injEq, and_true, true_and, exists_and_left, exists_and_right, and_assoc, V.int.injEq, V.bl.injEq, V.ref.injEq, V.str.injEq, reduceCtorEq, decide_true, decide_false, Bool.not_true, Bool.not_false, Bool.false_eq_true, if_false, if_true, ite_true, ite_false, List.length_cons, List.length_nil, tRaise, tErr, LamX.tLam, TTe, rSortedIA, rSortedTA, tDisp, tPairs])
      have md : ∀ z : Int, 0 ≤ z % 2147483629 ∧ z % 2147483629 < 2147483629 := fun z => ⟨Int.emod_nonneg z (by decide), Int.emod_lt_of_pos z (by decide)⟩
      have m1 := md ((c.natAbs : Int) * 2 + if decide (c < 0) = true then 1 else 0)
      have m2 := md (st * 48271 + ((c.natAbs : Int) * 2 + if decide (c < 0) = true then 1 else 0) % 2147483629 * (2 * (i : Int) + 69621) + 11)
      have ct : CMul st 48271 ∧ (0 : Int) < 2147483629 ∧ CMul 2 (i : Int) ∧ CMul (((c.natAbs : Int) * 2 + if decide (c < 0) = true then 1 else 0) % 2147483629) (2 * (i : Int) + 69621) :=
        ⟨mulR (by decide) (by decide), (show (0 : Int) < 2147483629 by decide), mulL (by decide) (by decide), mulL m1.1 (by omega)⟩
      have nt : r ≠ t := fun e => by rw [e, ht] at er; cases er
      have np : p ≠ t := fun e => by rw [e, ht] at ep; cases ep
      have sm1 : Same H (upd H' t (.tup [nv i, V.int c])) := sm.trans (same_new ht)
      refine ⟨mulR (by decide) (by decide), ⟨by decide, by decide, by decide⟩, ?_⟩
      split
      · refine ⟨ty_lst (.of (by rw [upd_ne nt]; exact er)), ivs cs, by rw [upd_ne nt]; exact er, by rw [List.length_map, sizeLine_eq]; omega, ct.1, ct.2.1, ct.2.2.1, ct.2.2.2, by decide, fun b o hb => ?_, ?_, cs ++ [(c.natAbs : Int)], ?_, ne, fun d hd => ?_, ?_, by omega, by omega⟩
        · rw [upd_ne (ne_of_none hb hr0)]
          exact sm1 _ _ hb
        · rw [upd_ne ne, upd_ne np]
          exact ep
        · rw [upd_same]
          show _ = some (HO.lst ((cs ++ [(c.natAbs : Int)]).map V.int))
          rw [List.map_append]
          rfl
        · rcases List.mem_append.mp hd with hd | hd
          · exact hc d hd
          · rw [List.mem_singleton.mp hd]
            exact Int.natCast_nonneg _
        · rw [List.length_append]
          exact Nat.add_le_add hl (Nat.le_refl 1)
      · exact ⟨ct.1, ct.2.1, ct.2.2.1, ct.2.2.2, by decide, sm1, by rw [upd_ne np]; exact ep, cs, by rw [upd_ne nt]; exact er, ne, hc, by omega, by omega, by omega⟩
    · rintro p σ' H' hp ⟨st, y3, y4, y5, cs, rfl, sm, ep, er, ne, hc, hl, s0, s1⟩
      (try simp only [tVar, tC, tOp, tUn, rI, rI0, rU, rEq, rNe, scal, tTest, tB, tAnd, tOr, tNot, tAndV, tOrV, tNotV, tIf, tChain, tNil, tCons, tCB, tCall, tTup, tLst, tRet, tRetN, tDrop, tSeq, tNext, tIfS, tAsg, gName, tPar, tPar3, gNil, gCons, gTup, gSub, tAug, tSl, tNoPart, tPart, tBM, tBM0, tYes, tIsP, iSeq, iEnumA, RZ.iZipA, iRng1, iRng2, iList, iTup, rIsi, rIsB, rIxL, rIxT, rIxA, rLenA, rListOf, rTupOf, rSetL, rSlL, rCat, rAppend, tFld, sFld, tMake, tBits, Int.ofNat_inj, cast1, cast0, TruV, cxOf, Cx.nox, Cx.wish, tNever, tBreak, tCont, ipI, tDIn, tDNotIn, sDPut, tDNewT, tDNewK, tDGet, rSortedPO, rSortedI, rIn, rEqD, rNeD, rInD, rNotInD, tSSet, rIsV, rIntI, rIntB, rAbsN, tLstRg, tRg1, tRg2, List.append_nil, List.nil_append, List.cons_append, Option.some.injEq, exists_eq_left', exists_eq_left, exists_eq_right, exists_eq_right', List.getElem?_cons_zero, List.getElem?_cons_succ, List.set_cons_zero, List.set_cons_succ, List.cons.injEq, and_true, true_and, exists_and_left, exists_and_right, and_assoc, V.int.injEq, V.bl.injEq, V.ref.injEq, V.str.injEq, reduceCtorEq, decide_true, decide_false, Bool.not_true, Bool.not_false, Bool.false_eq_true, if_false, if_true, ite_true, ite_false, List.length_cons, List.length_nil, tRaise, tErr, LamX.tLam, TTe, rSortedIA, rSortedTA, tDisp, tPairs])
      refine ⟨by decide, fun b hb => ?_⟩
      have hb0 := back sm hb
      refine q _ b (fun d o hd => ?_) hb0 ⟨r, cs, st, upd_same, ne_of_none er hb, same_new hb _ _ er, hc, by rw [List.length_map] at hl; omega, s0, s1⟩
      refine hbx_at (same_new hb _ _ (sm _ _ hd)) (ne_of_none hd hb0) ?_
      rw [upd_same]
      exact fun e => ne_of_none hd hr0 (Option.some.inj e).symm
theorem dp_ints (cs : List Int) {H : Hp} : DpAll K H (ivs cs) (cs.map PyData.int) := by
  induction cs with
  | nil => exact .nil
  | cons c r ih => exact .cons (.int c) ih
theorem hbx_take {b r p : Addr} {st st' : Int} {H H4 : Hp} (hb : H b = some (.lst [.ref r, .int st])) (s : Same H H4) (hp : p = r ∨ H p = none) : Same (hbx b H) (hbx b (upd H4 b (.lst [.ref p, .int st']))) := fun a o h => by
  obtain ⟨h1, h2, h3⟩ := hbx_of h
  refine hbx_at ?_ h1 ?_
  · rw [upd_ne h1]
    exact s _ _ h3
  · rw [upd_same]
    intro e
    have e2 : p = a := Option.some.inj e
    subst e2
    rcases hp with hp | hp
    · exact h2 (by rw [hb, hp]; rfl)
    · rw [hp] at h3
      cases h3
theorem cut1 (x : V) (xs : List V) : cutV (x :: xs) (some 1) none = xs := by
  unfold cutV
  rw [show HT.sIx (x :: xs).length 0 (some 1) = min 1 (x :: xs).length from HT.sIx_nat _ _ 1, HT.sIx_none, List.length_cons, show min 1 (xs.length + 1) = 1 by omega, List.drop_succ_cons, List.drop_zero, List.take_of_length_le (by omega)]
def sp_law_take (K : PySem.W.Frag) : Sp := fun vs H Q _ => ∃ b, ∃ m : Nat, vs = [.ref b, nv m] ∧ (1 ≤ m ∧ m < 1000000) ∧ Bx b H ∧ ∀ H' k, Same (hbx b H) (hbx b H') → Bx b H' → k < m → Q (nv k) H'
theorem ok__law_take (T : Tx P K mg) : FnOk P w K mg base CX0 1 T.a__law_take T.d__law_take ["box", "many"] (sp_law_take K) := by
  refine T.F__law_take.ok sc__law_take (fun vs H Q E h => ?_) (fun cdv A outer s H vs Q E hr h => ?_)
  · obtain ⟨b, m, rfl, _⟩ := h
    rfl
  · obtain ⟨b, m, rfl, ⟨m1, m2⟩, ⟨r, cs, st, eb, nr, er, hc, hl, s0, s1⟩, q⟩ := h
    refine ⟨_, (pss_cons (ps_if (pt_cmpR (neDK (K := K) rfl hr.units) (pe_ix (ixL (K := K) rfl) (pv 0) pe_int (fun _ _ => rfl)) (pe_lst pa_nil) (nomark _)) (pss_cons (ps_set (i := 2) sc__law_take.nd rfl (Or.inl rfl) (pe_ix (ixL (K := K) rfl) (pe_ix (ixL (K := K) rfl) (pv 0) pe_int (fun _ _ => rfl)) pe_int (fun _ _ => rfl)))
      (pss_cons (ps_asg (pe_op op_cat (pe_ifExp (pt_cmpR op_ge (pv 2) (pv 1) (nomark _)) (pe_lst (pa_cons (pe_op op_fdiv (pv 2) (pv 1)) pa_nil)) (pe_lst pa_nil)) (pe_slice (slL (K := K) rfl) (pe_ix (ixL (K := K) rfl) (pv 0) pe_int (fun _ _ => rfl)) (po_some pe_int) po_none)) (pg_sub (pv 0) pe_int set_list))
      (pss_one (ps_ret (pe_op op_mod (pe_callTy callIntI (by rfl) T.n_int (by decide +kernel) (pa_cons (pv 2) pa_nil)) (pv 1)))))) pss_nil)
      (pss_cons (ps_asg (pe_op op_mod (pe_callTy callIntI (by rfl) T.n_int (by decide +kernel) (pa_cons (pe_op op_mul (pe_ix (ixL (K := K) rfl) (pv 0) pe_int (fun _ _ => rfl)) pe_int) pa_nil)) pe_int) (pg_sub (pv 0) pe_int set_list))
      (pss_one (ps_ret (pe_op op_mod (pe_callTy callIntI (by rfl) T.n_int (by decide +kernel) (pa_cons (pe_op op_fdiv (pe_op op_add (pe_op op_mul (pe_ix (ixL (K := K) rfl) (pv 0) pe_int (fun _ _ => rfl)) pe_int) pe_int) pe_int) pa_nil)) (pv 1)))))), ?_⟩
    rw [show L2.start ["box", "many", "cell"] [.ref b, nv m] = [some (.ref b), some (nv m), none] from rfl]
    (try simp only [tVar, tC, tOp, tUn, rI, rI0, rU, rEq, rNe, scal, tTest, tB, tAnd, tOr, tNot, tAndV, tOrV, tNotV, tIf, tChain, tNil, tCons, tCB, tCall, tTup, tLst, tRet, tRetN, tDrop, tSeq, tNext, tIfS, tAsg, gName, tPar, tPar3, gNil, gCons, gTup, gSub, tAug, tSl, tNoPart, tPart, tBM, tBM0, tYes, tIsP, iSeq, iEnumA, RZ.iZipA, iRng1, iRng2, iList, iTup, rIsi, rIsB, rIxL, rIxT, rIxA, rLenA, rListOf, rTupOf, rSetL, rSlL, rCat, rAppend, tFld, sFld, tMake, tBits, Int.ofNat_inj, cast1, cast0, TruV, cxOf, Cx.nox, Cx.wish, tNever, tBreak, tCont, ipI, tDIn, tDNotIn, sDPut, tDNewT, tDNewK, tDGet, rSortedPO, rSortedI, rIn, rEqD, rNeD, rInD, rNotInD, tSSet, rIsV, rIntI, rIntB, rAbsN, tLstRg, tRg1, tRg2, List.append_nil, List.nil_append, List.cons_append, Option.some.injEq, exists_eq_left', exists_eq_left, exists_eq_right, exists_eq_right', List.getElem?_cons_zero, List.getElem?_cons_succ, List.set_cons_zero, List.set_cons_succ, List.cons.injEq, and_true, true_and, exists_and_left, exists_and_right, and_assoc, V.int.injEq, V.bl.injEq, V.ref.injEq, V.str.injEq, reduceCtorEq, decide_true, decide_false, Bool.not_true, Bool.not_false, Bool.false_eq_true, if_false, if_true, ite_true, ite_false, List.length_cons, List.length_nil, tRaise, tErr, LamX.tLam, TTe, rSortedIA, rSortedTA, tDisp, tPairs])
    refine ⟨_, .of eb, _, rfl, by decide, fun p hp => ⟨_, .lst (.of (same_new hp _ _ er)) (dp_ints cs), _, .lst (.of upd_same) .nil, PySem.W.shaped_ints cs, by decide, ?_⟩⟩
    have bp : b ≠ p := ne_of_none eb hp
    have eb1 : (upd H p (.lst [])) b = some (.lst [.ref r, .int st]) := by rw [upd_ne bp]; exact eb
    have m0 : (0 : Int) < (m : Int) := by omega
    have md : ∀ z : Int, ∃ k : Nat, z % (m : Int) = (k : Int) ∧ k < m := fun z => by
      have h1 := Int.emod_nonneg z (Int.ne_of_gt m0)
      have h2 := Int.emod_lt_of_pos z m0
      exact ⟨(z % (m : Int)).toNat, by omega, by omega⟩
    cases cs with
    | nil =>
      refine iteF ?_
      refine ⟨_, .of eb1, _, rfl, st, rfl, mulR (by decide) (by decide), (show (0 : Int) < 2147483647 by decide), _, eb1, 1, rfl, _, .of upd_same, _, rfl, _, rfl, mulR (by decide) (by decide), ⟨by decide, by decide⟩, m0, ?_⟩
      obtain ⟨k, e, hk⟩ := md ((st * 48271 % 2147483647 * 69621 + 7) / 1013)
      rw [e]
      have h1 := Int.emod_nonneg (st * 48271) (show (2147483647 : Int) ≠ 0 by decide)
      have h2 := Int.emod_lt_of_pos (st * 48271) (show (0 : Int) < 2147483647 by decide)
      refine q _ k (hbx_take eb (same_new hp) (.inl rfl)) ⟨r, [], _, upd_same, nr, ?_, hc, hl, h1, h2⟩ hk
      rw [upd_ne nr]
      exact same_new hp _ _ er
    | cons c t =>
      refine iteT ?_
      have c0 : 0 ≤ c := hc c List.mem_cons_self
      have er1 : (upd H p (.lst [])) r = some (.lst (ivs (c :: t))) := same_new hp _ _ er
      have fin : ∀ (hs : List Int) (H4 : Hp) (p4 : Addr), Same H H4 → H4 p4 = some (.lst (ivs hs ++ ivs t)) → H p4 = none → hs.length ≤ 1 → (∀ c ∈ hs, 0 ≤ c) → Q (.int (c % (m : Int))) (upd H4 b (.lst [.ref p4, .int st])) := by
        intro hs H4 p4 s4 e4 n4 l4 c4
        obtain ⟨k, e, hk⟩ := md c
        rw [e]
        have nb : p4 ≠ b := Ne.symm (ne_of_none eb n4)
        refine q _ k (hbx_take eb s4 (.inr n4)) ⟨p4, hs ++ t, st, upd_same, nb, ?_, fun d hd => ?_, ?_, s0, s1⟩ hk
        · rw [upd_ne nb, e4]
          show _ = some (HO.lst ((hs ++ t).map V.int))
          rw [List.map_append]
        · rcases List.mem_append.mp hd with hd | hd
          · exact c4 d hd
          · exact hc d (List.mem_cons_of_mem _ hd)
        · rw [List.length_append]
          rw [List.length_cons] at hl
          omega
      refine ⟨_, .of eb1, _, rfl, r, rfl, _, .of er1, _, atI_nat (j := 0) rfl, c, rfl, ?_⟩
      have lt : (ivs t).length ≤ 63 := by rw [List.length_map]; rw [List.length_cons] at hl; omega
      split
      · refine ⟨c, rfl, ⟨m0, by omega⟩, by decide, fun p2 h2 => ?_⟩
        have s2 := same_new (o := .lst [.int (c / (m : Int))]) h2
        refine ⟨_, .of (s2 _ _ eb1), _, rfl, r, rfl, _, .of (s2 _ _ er1), fun p3 h3 => ?_⟩
        rw [show cutV (ivs (c :: t)) (some 1) none = ivs t from cut1 _ _]
        have s3 := same_new (o := .lst (ivs t)) h3
        refine ⟨_, s3 _ _ upd_same, _, upd_same, by rw [sizeLine_eq]; show 0 + 1 + _ ≤ _; omega, fun p4 h4 => ?_⟩
        have s4 := same_new (o := .lst ([.int (c / (m : Int))] ++ ivs t)) h4
        have eb4 := s4 _ _ (s3 _ _ (s2 _ _ eb1))
        refine ⟨_, eb4, 0, rfl, c, rfl, m0, ?_⟩
        refine fin [c / (m : Int)] _ p4 ((((same_new hp).trans s2).trans s3).trans s4) upd_same (back (((same_new hp).trans s2).trans s3) h4) (Nat.le_refl _) fun d hd => ?_
        rw [List.mem_singleton.mp hd]
        exact Int.ediv_nonneg c0 (Int.le_of_lt m0)
      · refine ⟨by decide, fun p2 h2 => ?_⟩
        have s2 := same_new (o := .lst []) h2
        refine ⟨_, .of (s2 _ _ eb1), _, rfl, r, rfl, _, .of (s2 _ _ er1), fun p3 h3 => ?_⟩
        rw [show cutV (ivs (c :: t)) (some 1) none = ivs t from cut1 _ _]
        have s3 := same_new (o := .lst (ivs t)) h3
        refine ⟨_, s3 _ _ upd_same, _, upd_same, by rw [sizeLine_eq]; show 0 + _ ≤ _; omega, fun p4 h4 => ?_⟩
        have s4 := same_new (o := .lst ([] ++ ivs t)) h4
        have eb4 := s4 _ _ (s3 _ _ (s2 _ _ eb1))
        refine ⟨_, eb4, 0, rfl, c, rfl, m0, ?_⟩
        refine fin [] _ p4 ((((same_new hp).trans s2).trans s3).trans s4) upd_same (back (((same_new hp).trans s2).trans s3) h4) (Nat.zero_le _) fun d hd => nomatch hd
def sp_law_mixed (K : PySem.W.Frag) : Sp := fun vs H Q _ => ∃ b a xs, vs = [.ref b, .ref a] ∧ Bx b H ∧ Seq K H a xs ∧ xs.length ≤ 1000 ∧
  ∀ H' p ys, Same (hbx b H) (hbx b H') → Bx b H' → H p = none → hbx b H' p = some (.lst ys) → ys.Perm xs → Q (.ref p) H'
theorem ok__law_mixed (T : Tx P K mg) : FnOk P w K mg base CX0 2 T.a__law_mixed T.d__law_mixed ["box", "row"] (sp_law_mixed K) := by
  refine T.F__law_mixed.ok sc__law_mixed (fun vs H Q E h => ?_) (fun cdv A outer s H vs Q E hr h => ?_)
  · obtain ⟨b, a, xs, rfl, _⟩ := h
    rfl
  · obtain ⟨b, a, xs, rfl, hb, hs, hn, q⟩ := h
    refine ⟨_, (pss_cons (ps_par (i := 2) (j := 3) (by rfl) sc__law_mixed.nd rfl rfl (by decide) rfl rfl (pa_cons (pe_callTy (listOfK (K := K) rfl) (by rfl) T.n_list (by decide +kernel) (pa_cons (pv 1) pa_nil)) (pa_cons (pe_lst pa_nil) pa_nil)) (by rfl))
      (pss_cons (ps_for PassesOwn.never rfl (pi_range1 (by rfl) T.n_range (pa_cons (pe_callB (lenK (K := K) rfl) (by rfl) T.n_len PySem.boot_len (pa_cons (pv 1) pa_nil)) pa_nil)) (pg_name (i := 4) sc__law_mixed.nd rfl (Or.inl rfl)) (pss_cons (ps_set (i := 5) sc__law_mixed.nd rfl (Or.inl rfl) (pe_call (ok__law_take T) (hr.mono (by decide)) (by rfl) T.g__law_take T.F__law_take.kp T.b__law_take .nil pass0 (pa_cons (pv 0) (pa_cons (pe_callB (lenK (K := K) rfl) (by rfl) T.n_len PySem.boot_len (pa_cons (pv 2) pa_nil)) pa_nil))))
      (pss_cons (ps_expr (bmK (K := K) rfl PySem.F.plainAttrs_list PySem.F.slot_list_append PySem.F.type_list_append mt_append (pv 3) (pa_cons (pe_ix (ixL (K := K) rfl) (pv 2) (pv 5) (fun _ _ => rfl)) pa_nil)))
      (pss_one (ps_set (i := 2) sc__law_mixed.nd rfl (Or.inl rfl) (pe_op op_cat (pe_slice (slL (K := K) rfl) (pv 2) po_none (po_some (pv 5))) (pe_slice (slL (K := K) rfl) (pv 2) (po_some (pe_op op_add (pv 5) pe_int)) po_none)))))))
      (pss_one (ps_ret (pv 3))))), ?_⟩
    rw [show L2.start ["box", "row", "left", "told", "turn", "at"] [.ref b, .ref a] = [some (.ref b), some (.ref a), none, none, none, none] from rfl]
    generalize hF1 : tFor _ _ _ = F1
    (try simp only [tVar, tC, tOp, tUn, rI, rI0, rU, rEq, rNe, scal, tTest, tB, tAnd, tOr, tNot, tAndV, tOrV, tNotV, tIf, tChain, tNil, tCons, tCB, tCall, tTup, tLst, tRet, tRetN, tDrop, tSeq, tNext, tIfS, tAsg, gName, tPar, tPar3, gNil, gCons, gTup, gSub, tAug, tSl, tNoPart, tPart, tBM, tBM0, tYes, tIsP, iSeq, iEnumA, RZ.iZipA, iRng1, iRng2, iList, iTup, rIsi, rIsB, rIxL, rIxT, rIxA, rLenA, rListOf, rTupOf, rSetL, rSlL, rCat, rAppend, tFld, sFld, tMake, tBits, Int.ofNat_inj, cast1, cast0, TruV, cxOf, Cx.nox, Cx.wish, tNever, tBreak, tCont, ipI, tDIn, tDNotIn, sDPut, tDNewT, tDNewK, tDGet, rSortedPO, rSortedI, rIn, rEqD, rNeD, rInD, rNotInD, tSSet, rIsV, rIntI, rIntB, rAbsN, tLstRg, tRg1, tRg2, List.append_nil, List.nil_append, List.cons_append, Option.some.injEq, exists_eq_left', exists_eq_left, exists_eq_right, exists_eq_right', List.getElem?_cons_zero, List.getElem?_cons_succ, List.set_cons_zero, List.set_cons_succ, List.cons.injEq, and_true, true_and, exists_and_left, exists_and_right, and_assoc, V.int.injEq, V.bl.injEq, V.ref.injEq, V.str.injEq, reduceCtorEq, decide_true, decide_false, Bool.not_true, Bool.not_false, Bool.false_eq_true, if_false, if_true, ite_true, ite_false, List.length_cons, List.length_nil, tRaise, tErr, LamX.tLam, TTe, rSortedIA, rSortedTA, tDisp, tPairs])
    refine ⟨xs, hs, fun l0 hl0 => ⟨by decide, fun t ht => ?_⟩⟩
    subst hF1
    have t0 : H t = none := back (same_new hl0) ht
    have nlt : l0 ≠ t := fun e => by rw [← e, upd_same] at ht; cases ht
    have sm1 : Same H (upd (upd H l0 (.lst xs)) t (.lst [])) := (same_new hl0).trans (same_new ht)
    obtain ⟨ob, eb⟩ := hb.is
    have hbl : b ≠ l0 := ne_of_none eb hl0
    have hbt : b ≠ t := ne_of_none eb t0
    refine forR1 xs.length (fun i σ' H' => ∃ L y4 y5 ls ts, σ' = [some (.ref b), some (.ref a), some (.ref L), some (.ref t), y4, y5] ∧ Same (hbx b H) (hbx b H') ∧ Bx b H' ∧ hbx b H' L = some (.lst ls) ∧ hbx b H' t = some (.lst ts) ∧ L ≠ t ∧ (ts ++ ls).Perm xs ∧ ts.length = i) (fun R h => ?_) (by omega) ?_ ?_ ?_
    · (try simp only [tVar, tC, tOp, tUn, rI, rI0, rU, rEq, rNe, scal, tTest, tB, tAnd, tOr, tNot, tAndV, tOrV, tNotV, tIf, tChain, tNil, tCons, tCB, tCall, tTup, tLst, tRet, tRetN, tDrop, tSeq, tNext, tIfS, tAsg, gName, tPar, tPar3, gNil, gCons, gTup, gSub, tAug, tSl, tNoPart, tPart, tBM, tBM0, tYes, tIsP, iSeq, iEnumA, RZ.iZipA, iRng1, iRng2, iList, iTup, rIsi, rIsB, rIxL, rIxT, rIxA, rLenA, rListOf, rTupOf, rSetL, rSlL, rCat, rAppend, tFld, sFld, tMake, tBits, Int.ofNat_inj, cast1, cast0, TruV, cxOf, Cx.nox, Cx.wish, tNever, tBreak, tCont, ipI, tDIn, tDNotIn, sDPut, tDNewT, tDNewK, tDGet, rSortedPO, rSortedI, rIn, rEqD, rNeD, rInD, rNotInD, tSSet, rIsV, rIntI, rIntB, rAbsN, tLstRg, tRg1, tRg2, List.append_nil, List.nil_append, List.cons_append, Option.some.injEq, exists_eq_left', exists_eq_left, exists_eq_right, exists_eq_right', List.getElem?_cons_zero, List.getElem?_cons_succ, List.set_cons_zero, List.set_cons_succ, List.cons.injEq, and_true, true_and, exists_and_left, exists_and_right, and_assoc, V.int.injEq, V.bl.injEq, V.ref.injEq, V.str.injEq, reduceCtorEq, decide_true, decide_false, Bool.not_true, Bool.not_false, Bool.false_eq_true, if_false, if_true, ite_true, ite_false, List.length_cons, List.length_nil, tRaise, tErr, LamX.tLam, TTe, rSortedIA, rSortedTA, tDisp, tPairs])
      exact ⟨xs, Same.sq sm1 hs, h⟩
    · refine ⟨l0, _, _, xs, [], rfl, hb.mono sm1, hb.same sm1, ?_, ?_, nlt, .refl _, rfl⟩
      · exact hb.new sm1 hl0 (same_new ht _ _ upd_same)
      · exact hb.new sm1 t0 upd_same
    · rintro i σ' H' hi ⟨L, y4, y5, ls, ts, rfl, sm, hb2, eL, et, ne, pm, ln⟩
      (try simp only [tVar, tC, tOp, tUn, rI, rI0, rU, rEq, rNe, scal, tTest, tB, tAnd, tOr, tNot, tAndV, tOrV, tNotV, tIf, tChain, tNil, tCons, tCB, tCall, tTup, tLst, tRet, tRetN, tDrop, tSeq, tNext, tIfS, tAsg, gName, tPar, tPar3, gNil, gCons, gTup, gSub, tAug, tSl, tNoPart, tPart, tBM, tBM0, tYes, tIsP, iSeq, iEnumA, RZ.iZipA, iRng1, iRng2, iList, iTup, rIsi, rIsB, rIxL, rIxT, rIxA, rLenA, rListOf, rTupOf, rSetL, rSlL, rCat, rAppend, tFld, sFld, tMake, tBits, Int.ofNat_inj, cast1, cast0, TruV, cxOf, Cx.nox, Cx.wish, tNever, tBreak, tCont, ipI, tDIn, tDNotIn, sDPut, tDNewT, tDNewK, tDGet, rSortedPO, rSortedI, rIn, rEqD, rNeD, rInD, rNotInD, tSSet, rIsV, rIntI, rIntB, rAbsN, tLstRg, tRg1, tRg2, List.append_nil, List.nil_append, List.cons_append, Option.some.injEq, exists_eq_left', exists_eq_left, exists_eq_right, exists_eq_right', List.getElem?_cons_zero, List.getElem?_cons_succ, List.set_cons_zero, List.set_cons_succ, List.cons.injEq, and_true, true_and, exists_and_left, exists_and_right, and_assoc, V.int.injEq, V.bl.injEq, V.ref.injEq, V.str.injEq, reduceCtorEq, decide_true, decide_false, Bool.not_true, Bool.not_false, Bool.false_eq_true, if_false, if_true, ite_true, ite_false, List.length_cons, List.length_nil, tRaise, tErr, LamX.tLam, TTe, rSortedIA, rSortedTA, tDisp, tPairs])
      have lls : ls.length = xs.length - i := by
        have := pm.length_eq
        rw [List.length_append] at this
        omega
      refine ⟨ls, .inl (.of (hbx_le _ _ _ _ eL)), b, ls.length, rfl, ⟨by omega, by omega⟩, hb2, fun H1 k s1 hb3 hk => ?_⟩
      (try simp only [tVar, tC, tOp, tUn, rI, rI0, rU, rEq, rNe, scal, tTest, tB, tAnd, tOr, tNot, tAndV, tOrV, tNotV, tIf, tChain, tNil, tCons, tCB, tCall, tTup, tLst, tRet, tRetN, tDrop, tSeq, tNext, tIfS, tAsg, gName, tPar, tPar3, gNil, gCons, gTup, gSub, tAug, tSl, tNoPart, tPart, tBM, tBM0, tYes, tIsP, iSeq, iEnumA, RZ.iZipA, iRng1, iRng2, iList, iTup, rIsi, rIsB, rIxL, rIxT, rIxA, rLenA, rListOf, rTupOf, rSetL, rSlL, rCat, rAppend, tFld, sFld, tMake, tBits, Int.ofNat_inj, cast1, cast0, TruV, cxOf, Cx.nox, Cx.wish, tNever, tBreak, tCont, ipI, tDIn, tDNotIn, sDPut, tDNewT, tDNewK, tDGet, rSortedPO, rSortedI, rIn, rEqD, rNeD, rInD, rNotInD, tSSet, rIsV, rIntI, rIntB, rAbsN, tLstRg, tRg1, tRg2, List.append_nil, List.nil_append, List.cons_append, Option.some.injEq, exists_eq_left', exists_eq_left, exists_eq_right, exists_eq_right', List.getElem?_cons_zero, List.getElem?_cons_succ, List.set_cons_zero, List.set_cons_succ, List.cons.injEq, and_true, true_and, exists_and_left, exists_and_right, and_assoc, V.int.injEq, V.bl.injEq, V.ref.injEq, V.str.injEq, reduceCtorEq, decide_true, decide_false, Bool.not_true, Bool.not_false, Bool.false_eq_true, if_false, if_true, ite_true, ite_false, List.length_cons, List.length_nil, tRaise, tErr, LamX.tLam, TTe, rSortedIA, rSortedTA, tDisp, tPairs])
      have eL1 := hbx_le _ _ _ _ (s1 _ _ eL)
      have et1 := s1 _ _ et
      have hx : ls[k]? = some ls[k] := List.getElem?_eq_getElem hk
      refine ⟨ty_lst (.of (hbx_le _ _ _ _ et1)), ls, .of eL1, _, atI_nat hx, ts, hbx_le _ _ _ _ et1, by rw [sizeLine_eq]; omega, ?_⟩
      have hb4 : Bx b (upd H1 t (.lst (ts ++ [ls[k]]))) := hb3.put et1
      have eL4 : (upd H1 t (.lst (ts ++ [ls[k]]))) L = some (.lst ls) := by rw [upd_ne ne]; exact eL1
      have s4 : Same (hbx b H) (hbx b (upd H1 t (.lst (ts ++ [ls[k]])))) := fun a o h => by
        rw [hbx_put et1, upd_ne (fun e => ?_)]
        · exact s1 _ _ (sm _ _ h)
        · rw [e, hbx_free t0] at h
          cases h
      have et4 : hbx b (upd H1 t (.lst (ts ++ [ls[k]]))) t = some (.lst (ts ++ [ls[k]])) := by rw [hbx_put et1, upd_same]
      refine ⟨ls, .of eL4, fun p1 hp1 => ⟨ls, .of (same_new hp1 _ _ eL4), fun p2 hp2 => ⟨_, same_new hp2 _ _ upd_same, _, upd_same, ?_, fun p3 hp3 => ?_⟩⟩⟩
      · have l1 := cutV_length ls none (some (k : Int))
        have l2 := cutV_length ls (some ((k : Int) + 1)) none
        rw [sizeLine_eq]
        omega
      · have e5 := ((same_new (o := .lst (cutV ls none (some (k : Int)))) hp1).trans (same_new (o := .lst (cutV ls (some ((k : Int) + 1)) none)) hp2)).trans (same_new (o := .lst (cutV ls none (some (k : Int)) ++ cutV ls (some ((k : Int) + 1)) none)) hp3)
        have f3 := back ((same_new (o := .lst (cutV ls none (some (k : Int)))) hp1).trans (same_new (o := .lst (cutV ls (some ((k : Int) + 1)) none)) hp2)) hp3
        refine ⟨s4.trans (hb4.mono e5), hb4.same e5, _, hb4.new e5 f3 upd_same, _, hb4.mono e5 _ _ et4, ?_, ?_, ?_⟩
        · exact Ne.symm (ne_of_none (hbx_le _ _ _ _ et4) f3)
        · rw [cut_to (by omega), show (k : Int) + 1 = ((k + 1 : Nat) : Int) from rfl, cut_from]
          refine List.Perm.trans ?_ pm
          rw [List.append_assoc]
          refine List.Perm.append_left _ ?_
          have : ls = ls.take k ++ ls[k] :: ls.drop (k + 1) := by
            rw [← List.drop_eq_getElem_cons hk, List.take_append_drop]
          exact ((List.perm_middle (l₁ := ls.take k) (a := ls[k]) (l₂ := ls.drop (k + 1))).symm).trans (List.Perm.of_eq this.symm)
        · rw [List.length_append, ln]
          rfl
    · rintro σ' H' ⟨L, y4, y5, ls, ts, rfl, sm, hb2, eL, et, ne, pm, ln⟩
      (try simp only [tVar, tC, tOp, tUn, rI, rI0, rU, rEq, rNe, scal, tTest, tB, tAnd, tOr, tNot, tAndV, tOrV, tNotV, tIf, tChain, tNil, tCons, tCB, tCall, tTup, tLst, tRet, tRetN, tDrop, tSeq, tNext, tIfS, tAsg, gName, tPar, tPar3, gNil, gCons, gTup, gSub, tAug, tSl, tNoPart, tPart, tBM, tBM0, tYes, tIsP, iSeq, iEnumA, RZ.iZipA, iRng1, iRng2, iList, iTup, rIsi, rIsB, rIxL, rIxT, rIxA, rLenA, rListOf, rTupOf, rSetL, rSlL, rCat, rAppend, tFld, sFld, tMake, tBits, Int.ofNat_inj, cast1, cast0, TruV, cxOf, Cx.nox, Cx.wish, tNever, tBreak, tCont, ipI, tDIn, tDNotIn, sDPut, tDNewT, tDNewK, tDGet, rSortedPO, rSortedI, rIn, rEqD, rNeD, rInD, rNotInD, tSSet, rIsV, rIntI, rIntB, rAbsN, tLstRg, tRg1, tRg2, List.append_nil, List.nil_append, List.cons_append, Option.some.injEq, exists_eq_left', exists_eq_left, exists_eq_right, exists_eq_right', List.getElem?_cons_zero, List.getElem?_cons_succ, List.set_cons_zero, List.set_cons_succ, List.cons.injEq, and_true, true_and, exists_and_left, exists_and_right, and_assoc, V.int.injEq, V.bl.injEq, V.ref.injEq, V.str.injEq, reduceCtorEq, decide_true, decide_false, Bool.not_true, Bool.not_false, Bool.false_eq_true, if_false, if_true, ite_true, ite_false, List.length_cons, List.length_nil, tRaise, tErr, LamX.tLam, TTe, rSortedIA, rSortedTA, tDisp, tPairs])
      have l0 : ls = [] := by
        have := pm.length_eq
        rw [List.length_append] at this
        exact List.length_eq_zero_iff.mp (by omega)
      rw [l0, List.append_nil] at pm
      exact q H' t ts sm hb2 t0 et pm
end
end Kr
namespace Kr
open PySem PySem.Spec PyProof.Rows L2 Kb
section
variable {P : Program} {w : World} {K : PySem.W.Frag} {mg : Str → Option Value} {base : Heap}
/-! ### the law's own comparison -/
/-- two values that are one datum of less depth than n, of None, bools, ints, texts and tuples -/
inductive TD (K : PySem.W.Frag) (H : Hp) : Nat → V → V → Prop
  | non (n : Nat) : TD K H (n + 1) .non .non
  | bl (n : Nat) (b : Bool) : TD K H (n + 1) (.bl b) (.bl b)
  | int (n : Nat) (i : Int) : TD K H (n + 1) (.int i) (.int i)
  | str (n : Nat) (t : Str) : TD K H (n + 1) (.str t) (.str t)
  | tup {n : Nat} {a b : Addr} {xs ys : List V} : SqT K H a xs → SqT K H b ys → xs.length = ys.length → (∀ (i : Nat) (x y : V), xs[i]? = some x → ys[i]? = some y → TD K H n x y) → TD K H (n + 1) (.ref a) (.ref b)
theorem TD.same {H H' : Hp} {n : Nat} {x y : V} (e : Same H H') (h : TD K H n x y) : TD K H' n x y := by
  induction h with
  | non n => exact .non n
  | bl n b => exact .bl n b
  | int n i => exact .int n i
  | str n t => exact .str n t
  | tup h1 h2 h3 _ ih => exact .tup (Kb.Same.tup e h1) (Kb.Same.tup e h2) h3 ih
theorem TD.ints {H : Hp} {n : Nat} {a b : Addr} {l : List Nat} (h1 : H a = some (.tup (nvs l))) (h2 : H b = some (.tup (nvs l))) : TD K H (n + 2) (.ref a) (.ref b) := by
  refine .tup (.inl (.inl h1)) (.inl (.inl h2)) rfl fun i x y e1 e2 => ?_
  rw [e1] at e2
  cases e2
  rw [List.getElem?_map] at e1
  obtain ⟨c, _, rfl⟩ := Option.map_eq_some_iff.mp e1
  exact .int n _
/-- over the pairs of two tuples of one length, the test never holding -/
theorem lcZ0 {σ : L2.St} {H : Hp} {Q : VK} {ta : TA} {tt : TT} {te : TE} {i1 i2 : Nat} (a b : Addr) (xs ys : List V) (hi : i1 ≠ i2) (h : ∀ R : List V → Hp → Prop, R [.ref a, .ref b] H → ta σ H R) (hx : SqT K H a xs) (hy : SqT K H b ys) (hl : xs.length = ys.length)
    (hs : ∀ (i : Nat) (x y : V) (H' : Hp) (Q1 : VK) (Q2 : Hp → Prop), xs[i]? = some x → ys[i]? = some y → Same H H' → (∀ H3, Same H' H3 → Q2 H3) → tt ((σ.set i1 (some x)).set i2 (some y)) H' fun c H3 => if c = true then te ((σ.set i1 (some x)).set i2 (some y)) H3 Q1 else Q2 H3)
    (hd : ∀ (L : Addr) (H' : Hp), H L = none → Same H H' → H' L = some (.lst []) → Q (.ref L) H') : tLc (RZ.iZipA K ta) (gTup K 2 (gCons (gName i1) (gCons (gName i2) gNil))) tt te [i1, i2] σ H Q := by
  refine h _ ⟨a, b, xs, ys, rfl, .inr ⟨hx, hy, fun L hL => ?_⟩⟩
  have sL : Same H (upd H L (.lst [])) := same_new hL
  refine ⟨fun i m H' => m = xs.length - i ∧ i ≤ xs.length ∧ Same (upd H L (.lst [])) H', ⟨xs.length, rfl, Nat.zero_le _, Same.refl _⟩, ?_⟩
  rintro i m H' ⟨rfl, hi2, s⟩
  have s2 := sL.trans s
  have qx := Kb.Same.tup s2 hx
  have qy := Kb.Same.tup s2 hy
  by_cases lt : i < xs.length
  · have ex : xs[i]? = some xs[i] := List.getElem?_eq_getElem lt
    have lt2 : i < ys.length := by omega
    have ey : ys[i]? = some ys[i] := List.getElem?_eq_getElem lt2
    refine .inr ⟨⟨xs, ys, _, _, qx, qy, ex, ey⟩, fun H3 => Same (upd H L (.lst [])) H3, fun H3 p => ⟨xs.length - (i + 1), by omega, rfl, lt, p⟩, fun v H3 yl => ?_⟩
    obtain ⟨t, x, y, rfl, ht, rfl, f1, f2⟩ := yl
    have e1 := f1 xs qx
    have e2 := f2 ys qy
    have st := same_new (o := .tup [x, y]) ht
    refine ⟨t, _, rfl, .of upd_same, rfl, _, _, rfl, _, _, rfl, rfl, ?_⟩
    have ew : ((wipe σ [i1, i2]).set i1 (some x)).set i2 (some y) = (σ.set i1 (some x)).set i2 (some y) := by
      show (((σ.set i2 none).set i1 none).set i1 (some x)).set i2 (some y) = _
      rw [List.set_set, List.set_comm _ _ hi, List.set_set, List.set_comm _ _ hi.symm]
    show wipe (((wipe σ [i1, i2]).set i1 (some x)).set i2 (some y)) [i1, i2] = wipe σ [i1, i2] ∧ tt (((wipe σ [i1, i2]).set i1 (some x)).set i2 (some y)) _ _
    rw [ew]
    refine ⟨?_, hs i x y _ _ _ e1 e2 (s2.trans st) fun H4 s4 => (s.trans st).trans s4⟩
    show ((((σ.set i1 (some x)).set i2 (some y)).set i2 none).set i1 none) = ((σ.set i2 none).set i1 none)
    rw [List.set_set, List.set_comm _ _ hi, List.set_set, List.set_comm _ _ hi.symm]
  · have e : i = xs.length := by omega
    exact .inl ⟨⟨xs, ys, qx, qy, .inl (by omega)⟩, hd L H' hL s2 (s _ _ upd_same)⟩
def sp_law_is (K : PySem.W.Frag) (n : Nat) : Sp := fun vs H Q _ => ∃ x y, vs = [x, y] ∧ TD K H n x y ∧ ∀ H', Same H H' → Q (.bl true) H'
theorem ok_law_is_n (T : Tx P K mg) : ∀ n, FnOk P w K mg base CX0 (n + 1) T.a__law_is T.d__law_is ["told", "due"] (sp_law_is K n) := by
  intro n
  induction n with
  | zero =>
    refine T.F__law_is.ok sc__law_is (fun vs H Q E h => ?_) (fun cdv A outer s H vs Q E hr h => ?_)
    all_goals
      obtain ⟨x, y, _, h, _⟩ := h
      cases h
  | succ n ih =>
    refine T.F__law_is.ok sc__law_is (fun vs H Q E h => by obtain ⟨x, y, rfl, _⟩ := h; rfl) (fun cdv A outer s H vs Q E hr h => ?_)
    obtain ⟨x, y, rfl, td, q⟩ := h
    refine ⟨_, (pss_cons (ps_if (pt_val (pe_callB (isiK (K := K) rfl) (by rfl) T.n_isinstance (by decide +kernel) (pa_cons (pv 1) (pa_cons (pe_bltn (v := .ty "tuple") (by rfl) T.n_tuple (by decide +kernel) rfl) pa_nil)))) (pss_cons (ps_if (PW.pt (pw_or (pt_not (pt_val (pe_callB (isiK (K := K) rfl) (by rfl) T.n_isinstance (by decide +kernel) (pa_cons (pv 0) (pa_cons (pe_bltn (v := .ty "tuple") (by rfl) T.n_tuple (by decide +kernel) rfl) pa_nil))))) (pw_or1 (pt_cmpR op_ne (pe_callB (lenK (K := K) rfl) (by rfl) T.n_len PySem.boot_len (pa_cons (pv 0) pa_nil)) (pe_callB (lenK (K := K) rfl) (by rfl) T.n_len PySem.boot_len (pa_cons (pv 1) pa_nil)) (nomark _))))) (pss_one (ps_ret pe_bl)) pss_nil)
      (pss_one (ps_ret (pe_cmpR (eqDK (K := K) rfl hr.units) (pe_lc (own := [("one", 2), ("other", 3)]) (by rfl) sc__law_is.nd (pzipK (K := K) rfl (by rfl) T.n_zip (pa_cons (pv 0) (pa_cons (pv 1) pa_nil))) (blkOk_by (own := [("one", 2), ("other", 3)]) (N := ["told", "due", "one", "other"]) (sc := defScope s__law_is) (by decide +kernel)) (fun _ _ _ _ _ => (gtupK (K := K) (n := 2) rfl (by rfl) (pgs_cons (pg_name (i := 2) sc__law_is.nd rfl (by first | exact Or.inl rfl | exact Or.inr rfl)) (pgs_cons (pg_name (i := 3) sc__law_is.nd rfl (by first | exact Or.inl rfl | exact Or.inr rfl)) pgs_nil)))) (fun _ _ _ _ _ => (pts_one (pt_not (pt_val (pe_call ih (hr.mono (by omega)) (by rfl) T.g__law_is T.F__law_is.kp T.b__law_is .nil pass0 (pa_cons (pv 2) (pa_cons (pv 3) pa_nil))))))) (fun _ _ _ _ _ => pe_int)) (pe_lst pa_nil) (nomark _))))) pss_nil)
      (pss_cons (ps_if (PW.pt (pw_or (pt_cmpR op_isN (pv 1) pe_non (nomark _)) (pw_or (pt_cmpR op_isBv (pv 1) pe_bl (nomark _)) (pw_or1 (pt_cmpR op_isBv (pv 1) pe_bl (nomark _)))))) (pss_one (ps_ret (pe_ifExp (pt_cmpR op_isN (pv 1) pe_non (nomark _)) (pe_cmpR op_isN (pv 0) pe_non (nomark _)) (pe_ifExp (pt_cmpR op_isBv (pv 1) pe_bl (nomark _)) (pe_cmpR op_isBv (pv 0) pe_bl (nomark _)) (pe_cmpR op_isBv (pv 0) pe_bl (nomark _)))))) pss_nil)
      (pss_cons (ps_if (pt_val (pe_callB (isiK (K := K) rfl) (by rfl) T.n_isinstance (by decide +kernel) (pa_cons (pv 1) (pa_cons (pe_bltn (v := .ty "int") (by rfl) T.n_int (by decide +kernel) rfl) pa_nil)))) (pss_one (ps_ret (pe_and (pe_callB (isiK (K := K) rfl) (by rfl) T.n_isinstance (by decide +kernel) (pa_cons (pv 0) (pa_cons (pe_bltn (v := .ty "int") (by rfl) T.n_int (by decide +kernel) rfl) pa_nil))) (pe_and (pe_not (pe_callB (isiK (K := K) rfl) (by rfl) T.n_isinstance (by decide +kernel) (pa_cons (pv 0) (pa_cons (pe_bltn (v := .ty "bool") (by rfl) T.n_bool (by decide +kernel) rfl) pa_nil)))) (pe_one (pe_cmpR op_eq (pv 0) (pv 1) (nomark _))))))) pss_nil)
      (pss_one (ps_ret (pe_and (pe_callB (isiK (K := K) rfl) (by rfl) T.n_isinstance (by decide +kernel) (pa_cons (pv 1) (pa_cons (pe_bltn (v := .ty "str") (by rfl) T.n_str (by decide +kernel) rfl) pa_nil))) (pe_and (pe_callB (isiK (K := K) rfl) (by rfl) T.n_isinstance (by decide +kernel) (pa_cons (pv 0) (pa_cons (pe_bltn (v := .ty "str") (by rfl) T.n_str (by decide +kernel) rfl) pa_nil))) (pe_one (pe_cmpR op_eq (pv 0) (pv 1) (nomark _)))))))))), ?_⟩
    rw [show L2.start ["told", "due", "one", "other"] [x, y] = [some (x), some (y), none, none] from rfl]
    cases td with
    | non =>
      (try simp only [tVar, tC, tOp, tUn, rI, rI0, rU, rEq, rNe, scal, tTest, tB, tAnd, tOr, tNot, tAndV, tOrV, tNotV, tIf, tChain, tNil, tCons, tCB, tCall, tTup, tLst, tRet, tRetN, tDrop, tSeq, tNext, tIfS, tAsg, gName, tPar, tPar3, gNil, gCons, gTup, gSub, tAug, tSl, tNoPart, tPart, tBM, tBM0, tYes, tIsP, iSeq, iEnumA, RZ.iZipA, iRng1, iRng2, iList, iTup, rIsi, rIsB, rIxL, rIxT, rIxA, rLenA, rListOf, rTupOf, rSetL, rSlL, rCat, rAppend, tFld, sFld, tMake, tBits, Int.ofNat_inj, cast1, cast0, TruV, cxOf, Cx.nox, Cx.wish, tNever, tBreak, tCont, ipI, tDIn, tDNotIn, sDPut, tDNewT, tDNewK, tDGet, rSortedPO, rSortedI, rIn, rEqD, rNeD, rInD, rNotInD, tSSet, rIsV, rIntI, rIntB, rAbsN, tLstRg, tRg1, tRg2, List.append_nil, List.nil_append, List.cons_append, Option.some.injEq, exists_eq_left', exists_eq_left, exists_eq_right, exists_eq_right', List.getElem?_cons_zero, List.getElem?_cons_succ, List.set_cons_zero, List.set_cons_succ, List.cons.injEq, and_true, true_and, exists_and_left, exists_and_right, and_assoc, V.int.injEq, V.bl.injEq, V.ref.injEq, V.str.injEq, reduceCtorEq, decide_true, decide_false, Bool.not_true, Bool.not_false, Bool.false_eq_true, if_false, if_true, ite_true, ite_false, List.length_cons, List.length_nil, tRaise, tErr, LamX.tLam, TTe, rSortedIA, rSortedTA, tDisp, tPairs])
      refine ⟨_, _, .ty "tuple", .base .non, false, kit_ty (by decide +kernel), iteF ?_⟩
      exact q _ (Same.refl _)
    | bl _ b =>
      (try simp only [tVar, tC, tOp, tUn, rI, rI0, rU, rEq, rNe, scal, tTest, tB, tAnd, tOr, tNot, tAndV, tOrV, tNotV, tIf, tChain, tNil, tCons, tCB, tCall, tTup, tLst, tRet, tRetN, tDrop, tSeq, tNext, tIfS, tAsg, gName, tPar, tPar3, gNil, gCons, gTup, gSub, tAug, tSl, tNoPart, tPart, tBM, tBM0, tYes, tIsP, iSeq, iEnumA, RZ.iZipA, iRng1, iRng2, iList, iTup, rIsi, rIsB, rIxL, rIxT, rIxA, rLenA, rListOf, rTupOf, rSetL, rSlL, rCat, rAppend, tFld, sFld, tMake, tBits, Int.ofNat_inj, cast1, cast0, TruV, cxOf, Cx.nox, Cx.wish, tNever, tBreak, tCont, ipI, tDIn, tDNotIn, sDPut, tDNewT, tDNewK, tDGet, rSortedPO, rSortedI, rIn, rEqD, rNeD, rInD, rNotInD, tSSet, rIsV, rIntI, rIntB, rAbsN, tLstRg, tRg1, tRg2, List.append_nil, List.nil_append, List.cons_append, Option.some.injEq, exists_eq_left', exists_eq_left, exists_eq_right, exists_eq_right', List.getElem?_cons_zero, List.getElem?_cons_succ, List.set_cons_zero, List.set_cons_succ, List.cons.injEq, and_true, true_and, exists_and_left, exists_and_right, and_assoc, V.int.injEq, V.bl.injEq, V.ref.injEq, V.str.injEq, reduceCtorEq, decide_true, decide_false, Bool.not_true, Bool.not_false, Bool.false_eq_true, if_false, if_true, ite_true, ite_false, List.length_cons, List.length_nil, tRaise, tErr, LamX.tLam, TTe, rSortedIA, rSortedTA, tDisp, tPairs])
      refine ⟨_, _, .ty "tuple", .base (.bl b), false, kit_ty (by decide +kernel), iteF ?_⟩
      cases b
      · exact iteF (iteT (iteF (q _ (Same.refl _))))
      · exact iteT (iteT (q _ (Same.refl _)))
    | int _ i =>
      (try simp only [tVar, tC, tOp, tUn, rI, rI0, rU, rEq, rNe, scal, tTest, tB, tAnd, tOr, tNot, tAndV, tOrV, tNotV, tIf, tChain, tNil, tCons, tCB, tCall, tTup, tLst, tRet, tRetN, tDrop, tSeq, tNext, tIfS, tAsg, gName, tPar, tPar3, gNil, gCons, gTup, gSub, tAug, tSl, tNoPart, tPart, tBM, tBM0, tYes, tIsP, iSeq, iEnumA, RZ.iZipA, iRng1, iRng2, iList, iTup, rIsi, rIsB, rIxL, rIxT, rIxA, rLenA, rListOf, rTupOf, rSetL, rSlL, rCat, rAppend, tFld, sFld, tMake, tBits, Int.ofNat_inj, cast1, cast0, TruV, cxOf, Cx.nox, Cx.wish, tNever, tBreak, tCont, ipI, tDIn, tDNotIn, sDPut, tDNewT, tDNewK, tDGet, rSortedPO, rSortedI, rIn, rEqD, rNeD, rInD, rNotInD, tSSet, rIsV, rIntI, rIntB, rAbsN, tLstRg, tRg1, tRg2, List.append_nil, List.nil_append, List.cons_append, Option.some.injEq, exists_eq_left', exists_eq_left, exists_eq_right, exists_eq_right', List.getElem?_cons_zero, List.getElem?_cons_succ, List.set_cons_zero, List.set_cons_succ, List.cons.injEq, and_true, true_and, exists_and_left, exists_and_right, and_assoc, V.int.injEq, V.bl.injEq, V.ref.injEq, V.str.injEq, reduceCtorEq, decide_true, decide_false, Bool.not_true, Bool.not_false, Bool.false_eq_true, if_false, if_true, ite_true, ite_false, List.length_cons, List.length_nil, tRaise, tErr, LamX.tLam, TTe, rSortedIA, rSortedTA, tDisp, tPairs])
      refine ⟨_, _, .ty "tuple", .base (.int i), false, kit_ty (by decide +kernel), iteF ?_⟩
      refine ⟨_, _, .ty "int", .base (.int i), true, kit_ty (by decide +kernel), iteT ?_⟩
      refine ⟨_, _, .ty "int", .base (.int i), true, kit_ty (by decide +kernel), iteT ?_⟩
      exact ⟨_, _, .ty "bool", .base (.int i), false, kit_ty (by decide +kernel), iteT (q _ (Same.refl _))⟩
    | str _ t =>
      (try simp only [tVar, tC, tOp, tUn, rI, rI0, rU, rEq, rNe, scal, tTest, tB, tAnd, tOr, tNot, tAndV, tOrV, tNotV, tIf, tChain, tNil, tCons, tCB, tCall, tTup, tLst, tRet, tRetN, tDrop, tSeq, tNext, tIfS, tAsg, gName, tPar, tPar3, gNil, gCons, gTup, gSub, tAug, tSl, tNoPart, tPart, tBM, tBM0, tYes, tIsP, iSeq, iEnumA, RZ.iZipA, iRng1, iRng2, iList, iTup, rIsi, rIsB, rIxL, rIxT, rIxA, rLenA, rListOf, rTupOf, rSetL, rSlL, rCat, rAppend, tFld, sFld, tMake, tBits, Int.ofNat_inj, cast1, cast0, TruV, cxOf, Cx.nox, Cx.wish, tNever, tBreak, tCont, ipI, tDIn, tDNotIn, sDPut, tDNewT, tDNewK, tDGet, rSortedPO, rSortedI, rIn, rEqD, rNeD, rInD, rNotInD, tSSet, rIsV, rIntI, rIntB, rAbsN, tLstRg, tRg1, tRg2, List.append_nil, List.nil_append, List.cons_append, Option.some.injEq, exists_eq_left', exists_eq_left, exists_eq_right, exists_eq_right', List.getElem?_cons_zero, List.getElem?_cons_succ, List.set_cons_zero, List.set_cons_succ, List.cons.injEq, and_true, true_and, exists_and_left, exists_and_right, and_assoc, V.int.injEq, V.bl.injEq, V.ref.injEq, V.str.injEq, reduceCtorEq, decide_true, decide_false, Bool.not_true, Bool.not_false, Bool.false_eq_true, if_false, if_true, ite_true, ite_false, List.length_cons, List.length_nil, tRaise, tErr, LamX.tLam, TTe, rSortedIA, rSortedTA, tDisp, tPairs])
      refine ⟨_, _, .ty "tuple", .base (.str t), false, kit_ty (by decide +kernel), iteF ?_⟩
      refine ⟨_, _, .ty "int", .base (.str t), false, kit_ty (by decide +kernel), iteF ?_⟩
      refine ⟨_, _, .ty "str", .base (.str t), true, kit_ty (by decide +kernel), iteT ?_⟩
      refine ⟨_, _, .ty "str", .base (.str t), true, kit_ty (by decide +kernel), iteT ?_⟩
      exact q _ (Same.refl _)
    | @tup _ a b xs ys h1 h2 hl hs =>
      generalize hL1 : tLc _ _ _ _ _ = L1
      (try simp only [tVar, tC, tOp, tUn, rI, rI0, rU, rEq, rNe, scal, tTest, tB, tAnd, tOr, tNot, tAndV, tOrV, tNotV, tIf, tChain, tNil, tCons, tCB, tCall, tTup, tLst, tRet, tRetN, tDrop, tSeq, tNext, tIfS, tAsg, gName, tPar, tPar3, gNil, gCons, gTup, gSub, tAug, tSl, tNoPart, tPart, tBM, tBM0, tYes, tIsP, iSeq, iEnumA, RZ.iZipA, iRng1, iRng2, iList, iTup, rIsi, rIsB, rIxL, rIxT, rIxA, rLenA, rListOf, rTupOf, rSetL, rSlL, rCat, rAppend, tFld, sFld, tMake, tBits, Int.ofNat_inj, cast1, cast0, TruV, cxOf, Cx.nox, Cx.wish, tNever, tBreak, tCont, ipI, tDIn, tDNotIn, sDPut, tDNewT, tDNewK, tDGet, rSortedPO, rSortedI, rIn, rEqD, rNeD, rInD, rNotInD, tSSet, rIsV, rIntI, rIntB, rAbsN, tLstRg, tRg1, tRg2, List.append_nil, List.nil_append, List.cons_append, Option.some.injEq, exists_eq_left', exists_eq_left, exists_eq_right, exists_eq_right', List.getElem?_cons_zero, List.getElem?_cons_succ, List.set_cons_zero, List.set_cons_succ, List.cons.injEq, and_true, true_and, exists_and_left, exists_and_right, and_assoc, V.int.injEq, V.bl.injEq, V.ref.injEq, V.str.injEq, reduceCtorEq, decide_true, decide_false, Bool.not_true, Bool.not_false, Bool.false_eq_true, if_false, if_true, ite_true, ite_false, List.length_cons, List.length_nil, tRaise, tErr, LamX.tLam, TTe, rSortedIA, rSortedTA, tDisp, tPairs])
      refine ⟨_, _, .ty "tuple", tyT h2, true, kit_ty (by decide +kernel), iteT ?_⟩
      refine ⟨_, _, .ty "tuple", tyT h1, true, kit_ty (by decide +kernel), iteF ⟨_, .inr h1, _, .inr h2, ?_⟩⟩
      rw [if_neg (by rw [hl]; simp)]
      subst hL1
      refine lcZ0 a b xs ys (by decide) (fun R h => ?_) h1 h2 hl (fun i x y H' Q1 Q2 e1 e2 s1 q2 => ?_) fun L H' hL s1 eL => ?_
      · (try simp only [tVar, tC, tOp, tUn, rI, rI0, rU, rEq, rNe, scal, tTest, tB, tAnd, tOr, tNot, tAndV, tOrV, tNotV, tIf, tChain, tNil, tCons, tCB, tCall, tTup, tLst, tRet, tRetN, tDrop, tSeq, tNext, tIfS, tAsg, gName, tPar, tPar3, gNil, gCons, gTup, gSub, tAug, tSl, tNoPart, tPart, tBM, tBM0, tYes, tIsP, iSeq, iEnumA, RZ.iZipA, iRng1, iRng2, iList, iTup, rIsi, rIsB, rIxL, rIxT, rIxA, rLenA, rListOf, rTupOf, rSetL, rSlL, rCat, rAppend, tFld, sFld, tMake, tBits, Int.ofNat_inj, cast1, cast0, TruV, cxOf, Cx.nox, Cx.wish, tNever, tBreak, tCont, ipI, tDIn, tDNotIn, sDPut, tDNewT, tDNewK, tDGet, rSortedPO, rSortedI, rIn, rEqD, rNeD, rInD, rNotInD, tSSet, rIsV, rIntI, rIntB, rAbsN, tLstRg, tRg1, tRg2, List.append_nil, List.nil_append, List.cons_append, Option.some.injEq, exists_eq_left', exists_eq_left, exists_eq_right, exists_eq_right', List.getElem?_cons_zero, List.getElem?_cons_succ, List.set_cons_zero, List.set_cons_succ, List.cons.injEq, and_true, true_and, exists_and_left, exists_and_right, and_assoc, V.int.injEq, V.bl.injEq, V.ref.injEq, V.str.injEq, reduceCtorEq, decide_true, decide_false, Bool.not_true, Bool.not_false, Bool.false_eq_true, if_false, if_true, ite_true, ite_false, List.length_cons, List.length_nil, tRaise, tErr, LamX.tLam, TTe, rSortedIA, rSortedTA, tDisp, tPairs])
        exact h
      · (try simp only [tVar, tC, tOp, tUn, rI, rI0, rU, rEq, rNe, scal, tTest, tB, tAnd, tOr, tNot, tAndV, tOrV, tNotV, tIf, tChain, tNil, tCons, tCB, tCall, tTup, tLst, tRet, tRetN, tDrop, tSeq, tNext, tIfS, tAsg, gName, tPar, tPar3, gNil, gCons, gTup, gSub, tAug, tSl, tNoPart, tPart, tBM, tBM0, tYes, tIsP, iSeq, iEnumA, RZ.iZipA, iRng1, iRng2, iList, iTup, rIsi, rIsB, rIxL, rIxT, rIxA, rLenA, rListOf, rTupOf, rSetL, rSlL, rCat, rAppend, tFld, sFld, tMake, tBits, Int.ofNat_inj, cast1, cast0, TruV, cxOf, Cx.nox, Cx.wish, tNever, tBreak, tCont, ipI, tDIn, tDNotIn, sDPut, tDNewT, tDNewK, tDGet, rSortedPO, rSortedI, rIn, rEqD, rNeD, rInD, rNotInD, tSSet, rIsV, rIntI, rIntB, rAbsN, tLstRg, tRg1, tRg2, List.append_nil, List.nil_append, List.cons_append, Option.some.injEq, exists_eq_left', exists_eq_left, exists_eq_right, exists_eq_right', List.getElem?_cons_zero, List.getElem?_cons_succ, List.set_cons_zero, List.set_cons_succ, List.cons.injEq, and_true, true_and, exists_and_left, exists_and_right, and_assoc, V.int.injEq, V.bl.injEq, V.ref.injEq, V.str.injEq, reduceCtorEq, decide_true, decide_false, Bool.not_true, Bool.not_false, Bool.false_eq_true, if_false, if_true, ite_true, ite_false, List.length_cons, List.length_nil, tRaise, tErr, LamX.tLam, TTe, rSortedIA, rSortedTA, tDisp, tPairs])
        refine ⟨x, y, rfl, (hs i x y e1 e2).same s1, fun H3 s3 => ?_⟩
        (try simp only [tVar, tC, tOp, tUn, rI, rI0, rU, rEq, rNe, scal, tTest, tB, tAnd, tOr, tNot, tAndV, tOrV, tNotV, tIf, tChain, tNil, tCons, tCB, tCall, tTup, tLst, tRet, tRetN, tDrop, tSeq, tNext, tIfS, tAsg, gName, tPar, tPar3, gNil, gCons, gTup, gSub, tAug, tSl, tNoPart, tPart, tBM, tBM0, tYes, tIsP, iSeq, iEnumA, RZ.iZipA, iRng1, iRng2, iList, iTup, rIsi, rIsB, rIxL, rIxT, rIxA, rLenA, rListOf, rTupOf, rSetL, rSlL, rCat, rAppend, tFld, sFld, tMake, tBits, Int.ofNat_inj, cast1, cast0, TruV, cxOf, Cx.nox, Cx.wish, tNever, tBreak, tCont, ipI, tDIn, tDNotIn, sDPut, tDNewT, tDNewK, tDGet, rSortedPO, rSortedI, rIn, rEqD, rNeD, rInD, rNotInD, tSSet, rIsV, rIntI, rIntB, rAbsN, tLstRg, tRg1, tRg2, List.append_nil, List.nil_append, List.cons_append, Option.some.injEq, exists_eq_left', exists_eq_left, exists_eq_right, exists_eq_right', List.getElem?_cons_zero, List.getElem?_cons_succ, List.set_cons_zero, List.set_cons_succ, List.cons.injEq, and_true, true_and, exists_and_left, exists_and_right, and_assoc, V.int.injEq, V.bl.injEq, V.ref.injEq, V.str.injEq, reduceCtorEq, decide_true, decide_false, Bool.not_true, Bool.not_false, Bool.false_eq_true, if_false, if_true, ite_true, ite_false, List.length_cons, List.length_nil, tRaise, tErr, LamX.tLam, TTe, rSortedIA, rSortedTA, tDisp, tPairs])
        exact q2 _ s3
      · (try simp only [tVar, tC, tOp, tUn, rI, rI0, rU, rEq, rNe, scal, tTest, tB, tAnd, tOr, tNot, tAndV, tOrV, tNotV, tIf, tChain, tNil, tCons, tCB, tCall, tTup, tLst, tRet, tRetN, tDrop, tSeq, tNext, tIfS, tAsg, gName, tPar, tPar3, gNil, gCons, gTup, gSub, tAug, tSl, tNoPart, tPart, tBM, tBM0, tYes, tIsP, iSeq, iEnumA, RZ.iZipA, iRng1, iRng2, iList, iTup, rIsi, rIsB, rIxL, rIxT, rIxA, rLenA, rListOf, rTupOf, rSetL, rSlL, rCat, rAppend, tFld, sFld, tMake, tBits, Int.ofNat_inj, cast1, cast0, TruV, cxOf, Cx.nox, Cx.wish, tNever, tBreak, tCont, ipI, tDIn, tDNotIn, sDPut, tDNewT, tDNewK, tDGet, rSortedPO, rSortedI, rIn, rEqD, rNeD, rInD, rNotInD, tSSet, rIsV, rIntI, rIntB, rAbsN, tLstRg, tRg1, tRg2, List.append_nil, List.nil_append, List.cons_append, Option.some.injEq, exists_eq_left', exists_eq_left, exists_eq_right, exists_eq_right', List.getElem?_cons_zero, List.getElem?_cons_succ, List.set_cons_zero, List.set_cons_succ, List.cons.injEq, and_true, true_and, exists_and_left, exists_and_right, and_assoc, V.int.injEq, V.bl.injEq, V.ref.injEq, V.str.injEq, reduceCtorEq, decide_true, decide_false, Bool.not_true, Bool.not_false, Bool.false_eq_true, if_false, if_true, ite_true, ite_false, List.length_cons, List.length_nil, tRaise, tErr, LamX.tLam, TTe, rSortedIA, rSortedTA, tDisp, tPairs])
        refine ⟨by decide, fun p hp => ⟨_, .lst (.of (same_new hp _ _ eL)) .nil, _, .lst (.of upd_same) .nil, by decide, by decide, ?_⟩⟩
        exact q _ (s1.trans (same_new hp))
theorem ok__law_is (T : Tx P K mg) : FnOk P w K mg base CX0 6 T.a__law_is T.d__law_is ["told", "due"] (sp_law_is K 5) := ok_law_is_n T 5
end
end Kr
namespace Kr
open PySem PySem.Spec PyProof.Rows L2 Kb
section
variable {P : Program} {w : World} {K : PySem.W.Frag} {mg : Str → Option Value} {base : Heap}
/-! ### words -/
def sp_is_integer (K : PySem.W.Frag) : Sp := fun vs H Q _ => ∃ x t b1 b2, vs = [x] ∧ TyX K H x t ∧ PySem.W.kitOne K t (.type "int") = some b1 ∧ PySem.W.kitOne K t (.type "bool") = some b2 ∧ Q (.bl (b1 && !b2)) H
theorem ok_is_integer (T : Tx P K mg) : FnOk P w K mg base CX0 1 T.a_is_integer T.d_is_integer ["value"] (sp_is_integer K) := by
  refine T.F_is_integer.ok sc_is_integer (fun vs H Q E h => ?_) (fun cdv A outer s H vs Q E hr h => ?_)
  · obtain ⟨x, t, b1, b2, rfl, _⟩ := h
    rfl
  · obtain ⟨x, t, b1, b2, rfl, ht, h1, h2, q⟩ := h
    refine ⟨_, (pss_one (ps_ret (pe_and (pe_callB (isiK (K := K) rfl) (by rfl) T.n_isinstance (by decide +kernel) (pa_cons (pv 0) (pa_cons (pe_bltn (v := .ty "int") (by rfl) T.n_int (by decide +kernel) rfl) pa_nil))) (pe_one (pe_not (pe_callB (isiK (K := K) rfl) (by rfl) T.n_isinstance (by decide +kernel) (pa_cons (pv 0) (pa_cons (pe_bltn (v := .ty "bool") (by rfl) T.n_bool (by decide +kernel) rfl) pa_nil)))))))), ?_⟩
    refine ⟨x, rfl, x, _, t, _, b1, rfl, .ty "int", ht, h1, b1, rfl, ?_⟩
    cases b1
    · exact iteF q
    · exact iteT ⟨x, rfl, x, _, t, _, b2, rfl, .ty "bool", ht, h2, b2, rfl, q⟩
theorem is_int {H : Hp} {Q : VK} {E : XK} {i : Int} (q : Q (.bl true) H) : sp_is_integer K [.int i] H Q E := ⟨_, _, _, _, rfl, tyInt i, kit_ii, kit_ib, q⟩
theorem is_notInt {H : Hp} {Q : VK} {E : XK} {x : V} (n : NotInt K H x) (q : Q (.bl false) H) : sp_is_integer K [x] H Q E := by
  obtain ⟨t, b1, b2, h0, h1, h2, e⟩ := n
  exact ⟨_, _, _, _, rfl, h0, h1, h2, e ▸ q⟩
/-- what a value is, as a whole number -/
def AsInt (K : PySem.W.Frag) (H : Hp) (x : V) : Option Int → Prop
  | some i => x = .int i
  | none => NotInt K H x
def below (l : Int) : Option Int → Bool
  | some i => decide (0 ≤ i) && decide (i < l)
  | none => false
def between (l m : Int) : Option Int → Bool
  | some i => decide (l ≤ i) && decide (i ≤ m)
  | none => false
def sp_is_below (K : PySem.W.Frag) : Sp := fun vs H Q _ => ∃ x o l, vs = [x, .int l] ∧ AsInt K H x o ∧ Q (.bl (below l o)) H
theorem ok_is_below (T : Tx P K mg) : FnOk P w K mg base CX0 2 T.a_is_below T.d_is_below ["value", "limit"] (sp_is_below K) := by
  refine T.F_is_below.ok sc_is_below (fun vs H Q E h => ?_) (fun cdv A outer s H vs Q E hr h => ?_)
  · obtain ⟨x, o, l, rfl, _⟩ := h
    rfl
  · obtain ⟨x, o, l, rfl, ho, q⟩ := h
    refine ⟨_, (pss_one (ps_ret (pe_and (pe_call (ok_is_integer T) (hr.mono (by decide)) (by rfl) T.g_is_integer T.F_is_integer.kp T.b_is_integer .nil pass0 (pa_cons (pv 0) pa_nil)) (pe_one (pe_chain op_le op_lt pe_int (pv 0) (pv 1)))))), ?_⟩
    rw [show L2.start ["value", "limit"] [x, .int l] = [some (x), some (.int l)] from rfl]
    (try simp only [tVar, tC, tOp, tUn, rI, rI0, rU, rEq, rNe, scal, tTest, tB, tAnd, tOr, tNot, tAndV, tOrV, tNotV, tIf, tChain, tNil, tCons, tCB, tCall, tTup, tLst, tRet, tRetN, tDrop, tSeq, tNext, tIfS, tAsg, gName, tPar, tPar3, gNil, gCons, gTup, gSub, tAug, tSl, tNoPart, tPart, tBM, tBM0, tYes, tIsP, iSeq, iEnumA, RZ.iZipA, iRng1, iRng2, iList, iTup, rIsi, rIsB, rIxL, rIxT, rIxA, rLenA, rListOf, rTupOf, rSetL, rSlL, rCat, rAppend, tFld, sFld, tMake, tBits, Int.ofNat_inj, cast1, cast0, TruV, cxOf, Cx.nox, Cx.wish, tNever, tBreak, tCont, ipI, tDIn, tDNotIn, sDPut, tDNewT, tDNewK, tDGet, rSortedPO, rSortedI, rIn, rEqD, rNeD, rInD, rNotInD, tSSet, rIsV, rIntI, rIntB, rAbsN, tLstRg, tRg1, tRg2, List.append_nil, List.nil_append, List.cons_append, Option.some.injEq, exists_eq_left', exists_eq_left, exists_eq_right, exists_eq_right', List.getElem?_cons_zero, List.getElem?_cons_succ, List.set_cons_zero, List.set_cons_succ, List.cons.injEq, and_true, true_and, exists_and_left, exists_and_right, and_assoc, V.int.injEq, V.bl.injEq, V.ref.injEq, V.str.injEq, reduceCtorEq, decide_true, decide_false, Bool.not_true, Bool.not_false, Bool.false_eq_true, if_false, if_true, ite_true, ite_false, List.length_cons, List.length_nil, tRaise, tErr, LamX.tLam, TTe, rSortedIA, rSortedTA, tDisp, tPairs])
    cases o with
    | none => exact is_notInt ho (by simpa [below] using q)
    | some i =>
      cases ho
      refine is_int ?_
      (try simp only [tVar, tC, tOp, tUn, rI, rI0, rU, rEq, rNe, scal, tTest, tB, tAnd, tOr, tNot, tAndV, tOrV, tNotV, tIf, tChain, tNil, tCons, tCB, tCall, tTup, tLst, tRet, tRetN, tDrop, tSeq, tNext, tIfS, tAsg, gName, tPar, tPar3, gNil, gCons, gTup, gSub, tAug, tSl, tNoPart, tPart, tBM, tBM0, tYes, tIsP, iSeq, iEnumA, RZ.iZipA, iRng1, iRng2, iList, iTup, rIsi, rIsB, rIxL, rIxT, rIxA, rLenA, rListOf, rTupOf, rSetL, rSlL, rCat, rAppend, tFld, sFld, tMake, tBits, Int.ofNat_inj, cast1, cast0, TruV, cxOf, Cx.nox, Cx.wish, tNever, tBreak, tCont, ipI, tDIn, tDNotIn, sDPut, tDNewT, tDNewK, tDGet, rSortedPO, rSortedI, rIn, rEqD, rNeD, rInD, rNotInD, tSSet, rIsV, rIntI, rIntB, rAbsN, tLstRg, tRg1, tRg2, List.append_nil, List.nil_append, List.cons_append, Option.some.injEq, exists_eq_left', exists_eq_left, exists_eq_right, exists_eq_right', List.getElem?_cons_zero, List.getElem?_cons_succ, List.set_cons_zero, List.set_cons_succ, List.cons.injEq, and_true, true_and, exists_and_left, exists_and_right, and_assoc, V.int.injEq, V.bl.injEq, V.ref.injEq, V.str.injEq, reduceCtorEq, decide_true, decide_false, Bool.not_true, Bool.not_false, Bool.false_eq_true, if_false, if_true, ite_true, ite_false, List.length_cons, List.length_nil, tRaise, tErr, LamX.tLam, TTe, rSortedIA, rSortedTA, tDisp, tPairs])
      unfold below at q
      split <;> simp_all
theorem below_i {i l : Int} {H : Hp} {Q : VK} {E : XK} (q : Q (.bl (decide (0 ≤ i) && decide (i < l))) H) : sp_is_below K [.int i, .int l] H Q E := ⟨_, some i, _, rfl, rfl, q⟩
theorem below_n {k n : Nat} {H : Hp} {Q : VK} {E : XK} (h : k < n) (q : Q (.bl true) H) : sp_is_below K [nv k, nv n] H Q E := by
  refine below_i ?_
  rw [decide_eq_true (Int.natCast_nonneg k), decide_eq_true (Int.ofNat_lt.mpr h)]
  exact q
def sp_is_between (K : PySem.W.Frag) : Sp := fun vs H Q _ => ∃ x o l m, vs = [x, .int l, .int m] ∧ AsInt K H x o ∧ Q (.bl (between l m o)) H
theorem ok_is_between (T : Tx P K mg) : FnOk P w K mg base CX0 2 T.a_is_between T.d_is_between ["value", "least", "greatest"] (sp_is_between K) := by
  refine T.F_is_between.ok sc_is_between (fun vs H Q E h => ?_) (fun cdv A outer s H vs Q E hr h => ?_)
  · obtain ⟨x, o, l, m, rfl, _⟩ := h
    rfl
  · obtain ⟨x, o, l, m, rfl, ho, q⟩ := h
    refine ⟨_, (pss_one (ps_ret (pe_and (pe_call (ok_is_integer T) (hr.mono (by decide)) (by rfl) T.g_is_integer T.F_is_integer.kp T.b_is_integer .nil pass0 (pa_cons (pv 0) pa_nil)) (pe_one (pe_chain op_le op_le (pv 1) (pv 0) (pv 2)))))), ?_⟩
    rw [show L2.start ["value", "least", "greatest"] [x, .int l, .int m] = [some (x), some (.int l), some (.int m)] from rfl]
    (try simp only [tVar, tC, tOp, tUn, rI, rI0, rU, rEq, rNe, scal, tTest, tB, tAnd, tOr, tNot, tAndV, tOrV, tNotV, tIf, tChain, tNil, tCons, tCB, tCall, tTup, tLst, tRet, tRetN, tDrop, tSeq, tNext, tIfS, tAsg, gName, tPar, tPar3, gNil, gCons, gTup, gSub, tAug, tSl, tNoPart, tPart, tBM, tBM0, tYes, tIsP, iSeq, iEnumA, RZ.iZipA, iRng1, iRng2, iList, iTup, rIsi, rIsB, rIxL, rIxT, rIxA, rLenA, rListOf, rTupOf, rSetL, rSlL, rCat, rAppend, tFld, sFld, tMake, tBits, Int.ofNat_inj, cast1, cast0, TruV, cxOf, Cx.nox, Cx.wish, tNever, tBreak, tCont, ipI, tDIn, tDNotIn, sDPut, tDNewT, tDNewK, tDGet, rSortedPO, rSortedI, rIn, rEqD, rNeD, rInD, rNotInD, tSSet, rIsV, rIntI, rIntB, rAbsN, tLstRg, tRg1, tRg2, List.append_nil, List.nil_append, List.cons_append, Option.some.injEq, exists_eq_left', exists_eq_left, exists_eq_right, exists_eq_right', List.getElem?_cons_zero, List.getElem?_cons_succ, List.set_cons_zero, List.set_cons_succ, List.cons.injEq, and_true, true_and, exists_and_left, exists_and_right, and_assoc, V.int.injEq, V.bl.injEq, V.ref.injEq, V.str.injEq, reduceCtorEq, decide_true, decide_false, Bool.not_true, Bool.not_false, Bool.false_eq_true, if_false, if_true, ite_true, ite_false, List.length_cons, List.length_nil, tRaise, tErr, LamX.tLam, TTe, rSortedIA, rSortedTA, tDisp, tPairs])
    cases o with
    | none => exact is_notInt ho (by simpa [between] using q)
    | some i =>
      cases ho
      refine is_int ?_
      (try simp only [tVar, tC, tOp, tUn, rI, rI0, rU, rEq, rNe, scal, tTest, tB, tAnd, tOr, tNot, tAndV, tOrV, tNotV, tIf, tChain, tNil, tCons, tCB, tCall, tTup, tLst, tRet, tRetN, tDrop, tSeq, tNext, tIfS, tAsg, gName, tPar, tPar3, gNil, gCons, gTup, gSub, tAug, tSl, tNoPart, tPart, tBM, tBM0, tYes, tIsP, iSeq, iEnumA, RZ.iZipA, iRng1, iRng2, iList, iTup, rIsi, rIsB, rIxL, rIxT, rIxA, rLenA, rListOf, rTupOf, rSetL, rSlL, rCat, rAppend, tFld, sFld, tMake, tBits, Int.ofNat_inj, cast1, cast0, TruV, cxOf, Cx.nox, Cx.wish, tNever, tBreak, tCont, ipI, tDIn, tDNotIn, sDPut, tDNewT, tDNewK, tDGet, rSortedPO, rSortedI, rIn, rEqD, rNeD, rInD, rNotInD, tSSet, rIsV, rIntI, rIntB, rAbsN, tLstRg, tRg1, tRg2, List.append_nil, List.nil_append, List.cons_append, Option.some.injEq, exists_eq_left', exists_eq_left, exists_eq_right, exists_eq_right', List.getElem?_cons_zero, List.getElem?_cons_succ, List.set_cons_zero, List.set_cons_succ, List.cons.injEq, and_true, true_and, exists_and_left, exists_and_right, and_assoc, V.int.injEq, V.bl.injEq, V.ref.injEq, V.str.injEq, reduceCtorEq, decide_true, decide_false, Bool.not_true, Bool.not_false, Bool.false_eq_true, if_false, if_true, ite_true, ite_false, List.length_cons, List.length_nil, tRaise, tErr, LamX.tLam, TTe, rSortedIA, rSortedTA, tDisp, tPairs])
      unfold between at q
      split <;> simp_all
theorem between_i {i l m : Int} {H : Hp} {Q : VK} {E : XK} (q : Q (.bl (decide (l ≤ i) && decide (i ≤ m))) H) : sp_is_between K [.int i, .int l, .int m] H Q E := ⟨_, some i, _, _, rfl, rfl, q⟩
def sp_is_sequence (K : PySem.W.Frag) : Sp := fun vs H Q _ => ∃ x t b, vs = [x] ∧ TyX K H x t ∧ PySem.W.kitAny K t [.type "list", .type "tuple"] = some b ∧ Q (.bl b) H
theorem ok_is_sequence (T : Tx P K mg) : FnOk P w K mg base CX0 1 T.a_is_sequence T.d_is_sequence ["value"] (sp_is_sequence K) := by
  refine T.F_is_sequence.ok sc_is_sequence (fun vs H Q E h => ?_) (fun cdv A outer s H vs Q E hr h => ?_)
  · obtain ⟨x, t, b, rfl, _⟩ := h
    rfl
  · obtain ⟨x, t, b, rfl, ht, hb, q⟩ := h
    refine ⟨_, (pss_one (ps_ret (isPK (K := K) (A := "list") (B := "tuple") rfl (pv 0) (by rfl) T.n_isinstance (pa_cons (pe_bltn (v := .ty "list") (by rfl) T.n_list (by decide +kernel) rfl) (pa_cons (pe_bltn (v := .ty "tuple") (by rfl) T.n_tuple (by decide +kernel) rfl) pa_nil))))), ?_⟩
    exact ⟨x, rfl, t, b, ht, hb, q⟩
theorem is_seq {H : Hp} {Q : VK} {E : XK} {a : Addr} {xs : List V} (s : Seq K H a xs) (q : Q (.bl true) H) : sp_is_sequence K [.ref a] H Q E := by
  rcases s with s | s
  · exact ⟨_, _, _, rfl, tyL s, kit_lp, q⟩
  · exact ⟨_, _, _, rfl, tyT s, kit_tp, q⟩
def sp_is_row (K : PySem.W.Frag) : Sp := fun vs H Q _ => ∃ x t b l, vs = [x, .int l] ∧ TyX K H x t ∧ PySem.W.kitAny K t [.type "list", .type "tuple"] = some b ∧ (b = false → Q (.bl false) H) ∧
  (b = true → ∃ a xs, x = .ref a ∧ Seq K H a xs ∧ Q (.bl (decide ((xs.length : Int) = l))) H)
theorem ok_is_row (T : Tx P K mg) : FnOk P w K mg base CX0 2 T.a_is_row T.d_is_row ["value", "many"] (sp_is_row K) := by
  refine T.F_is_row.ok sc_is_row (fun vs H Q E h => ?_) (fun cdv A outer s H vs Q E hr h => ?_)
  · obtain ⟨x, t, b, l, rfl, _⟩ := h
    rfl
  · obtain ⟨x, t, b, l, rfl, ht, hb, q0, q1⟩ := h
    refine ⟨_, (pss_one (ps_ret (pe_and (pe_call (ok_is_sequence T) (hr.mono (by decide)) (by rfl) T.g_is_sequence T.F_is_sequence.kp T.b_is_sequence .nil pass0 (pa_cons (pv 0) pa_nil)) (pe_one (pe_cmpR op_eq (pe_callB (lenK (K := K) rfl) (by rfl) T.n_len PySem.boot_len (pa_cons (pv 0) pa_nil)) (pv 1) (nomark _)))))), ?_⟩
    rw [show L2.start ["value", "many"] [x, .int l] = [some (x), some (.int l)] from rfl]
    (try simp only [tVar, tC, tOp, tUn, rI, rI0, rU, rEq, rNe, scal, tTest, tB, tAnd, tOr, tNot, tAndV, tOrV, tNotV, tIf, tChain, tNil, tCons, tCB, tCall, tTup, tLst, tRet, tRetN, tDrop, tSeq, tNext, tIfS, tAsg, gName, tPar, tPar3, gNil, gCons, gTup, gSub, tAug, tSl, tNoPart, tPart, tBM, tBM0, tYes, tIsP, iSeq, iEnumA, RZ.iZipA, iRng1, iRng2, iList, iTup, rIsi, rIsB, rIxL, rIxT, rIxA, rLenA, rListOf, rTupOf, rSetL, rSlL, rCat, rAppend, tFld, sFld, tMake, tBits, Int.ofNat_inj, cast1, cast0, TruV, cxOf, Cx.nox, Cx.wish, tNever, tBreak, tCont, ipI, tDIn, tDNotIn, sDPut, tDNewT, tDNewK, tDGet, rSortedPO, rSortedI, rIn, rEqD, rNeD, rInD, rNotInD, tSSet, rIsV, rIntI, rIntB, rAbsN, tLstRg, tRg1, tRg2, List.append_nil, List.nil_append, List.cons_append, Option.some.injEq, exists_eq_left', exists_eq_left, exists_eq_right, exists_eq_right', List.getElem?_cons_zero, List.getElem?_cons_succ, List.set_cons_zero, List.set_cons_succ, List.cons.injEq, and_true, true_and, exists_and_left, exists_and_right, and_assoc, V.int.injEq, V.bl.injEq, V.ref.injEq, V.str.injEq, reduceCtorEq, decide_true, decide_false, Bool.not_true, Bool.not_false, Bool.false_eq_true, if_false, if_true, ite_true, ite_false, List.length_cons, List.length_nil, tRaise, tErr, LamX.tLam, TTe, rSortedIA, rSortedTA, tDisp, tPairs])
    refine ⟨_, _, _, rfl, ht, hb, ?_⟩
    cases b with
    | false => exact ⟨false, rfl, iteF (q0 rfl)⟩
    | true =>
      obtain ⟨a, xs, rfl, hs, q⟩ := q1 rfl
      refine ⟨true, rfl, iteT ?_⟩
      (try simp only [tVar, tC, tOp, tUn, rI, rI0, rU, rEq, rNe, scal, tTest, tB, tAnd, tOr, tNot, tAndV, tOrV, tNotV, tIf, tChain, tNil, tCons, tCB, tCall, tTup, tLst, tRet, tRetN, tDrop, tSeq, tNext, tIfS, tAsg, gName, tPar, tPar3, gNil, gCons, gTup, gSub, tAug, tSl, tNoPart, tPart, tBM, tBM0, tYes, tIsP, iSeq, iEnumA, RZ.iZipA, iRng1, iRng2, iList, iTup, rIsi, rIsB, rIxL, rIxT, rIxA, rLenA, rListOf, rTupOf, rSetL, rSlL, rCat, rAppend, tFld, sFld, tMake, tBits, Int.ofNat_inj, cast1, cast0, TruV, cxOf, Cx.nox, Cx.wish, tNever, tBreak, tCont, ipI, tDIn, tDNotIn, sDPut, tDNewT, tDNewK, tDGet, rSortedPO, rSortedI, rIn, rEqD, rNeD, rInD, rNotInD, tSSet, rIsV, rIntI, rIntB, rAbsN, tLstRg, tRg1, tRg2, List.append_nil, List.nil_append, List.cons_append, Option.some.injEq, exists_eq_left', exists_eq_left, exists_eq_right, exists_eq_right', List.getElem?_cons_zero, List.getElem?_cons_succ, List.set_cons_zero, List.set_cons_succ, List.cons.injEq, and_true, true_and, exists_and_left, exists_and_right, and_assoc, V.int.injEq, V.bl.injEq, V.ref.injEq, V.str.injEq, reduceCtorEq, decide_true, decide_false, Bool.not_true, Bool.not_false, Bool.false_eq_true, if_false, if_true, ite_true, ite_false, List.length_cons, List.length_nil, tRaise, tErr, LamX.tLam, TTe, rSortedIA, rSortedTA, tDisp, tPairs])
      exact ⟨xs, hs, q⟩
theorem row_i {a : Addr} {xs : List V} {l : Int} {H : Hp} {Q : VK} {E : XK} (h : Seq K H a xs) (q : Q (.bl (decide ((xs.length : Int) = l))) H) : sp_is_row K [.ref a, .int l] H Q E := by
  rcases h with h | h
  · exact ⟨_, _, _, _, rfl, tyL h, kit_lp, (fun z => nomatch z), fun _ => ⟨_, _, rfl, .inl h, q⟩⟩
  · exact ⟨_, _, _, _, rfl, tyT h, kit_tp, (fun z => nomatch z), fun _ => ⟨_, _, rfl, .inr h, q⟩⟩
/-! ### masks -/
/-- the numbers of the bits, ascending -/
def bits (m : Nat) : List Nat := (List.range (Builtin.Int.intBits (m : Int))).filter m.testBit
theorem mem_bits {m k : Nat} (hm : m < 2 ^ 62) : k ∈ bits m ↔ m.testBit k = true := by
  unfold bits
  rw [List.mem_filter, List.mem_range]
  refine ⟨fun h => h.2, fun h => ⟨?_, h⟩⟩
  have e : Builtin.Int.intBits (m : Int) = if m = 0 then 0 else m.log2 + 1 := by
    unfold Builtin.Int.intBits
    simp
  rw [e]
  have hm0 : m ≠ 0 := fun z => by rw [z, Nat.zero_testBit] at h; cases h
  rw [if_neg hm0]
  have := Nat.ge_two_pow_of_testBit h
  have := (Nat.le_log2 hm0).mpr this
  omega
theorem bits_below {m n k : Nat} (hm : m < 2 ^ n) (h : k ∈ bits m) : k < n := by
  unfold bits at h
  have hb := (List.mem_filter.mp h).2
  have := Nat.ge_two_pow_of_testBit hb
  exact (Nat.pow_lt_pow_iff_right (by decide : 1 < 2)).mp (Nat.lt_of_le_of_lt this hm)
theorem odd_test (m k : Nat) : (((m >>> k &&& 1 : Nat) : Int) != 0) = m.testBit k := by
  unfold Nat.testBit
  rw [Nat.and_comm, Bool.eq_iff_iff]
  simp only [bne_iff_ne, ne_eq]
  omega
theorem bits_lt {m : Nat} (h : m < 2 ^ 62) : Builtin.Int.intBits (m : Int) ≤ 62 := by
  have : Builtin.Int.intBits (m : Int) = if m = 0 then 0 else m.log2 + 1 := by
    unfold Builtin.Int.intBits
    simp
  rw [this]
  split
  · omega
  · rename_i hm
    have := (Nat.log2_lt hm).mpr h
    omega
def maskOf (l : List Nat) : Nat := l.foldl (fun m k => m ||| 1 <<< k) 0
theorem maskOf_take {l : List Nat} {i k : Nat} (h : l[i]? = some k) : maskOf (l.take (i + 1)) = maskOf (l.take i) ||| 1 <<< k := by
  unfold maskOf
  rw [List.take_add_one, h, List.foldl_append]
  rfl
theorem nvs_at {l : List Nat} {i : Nat} {x : V} (h : (nvs l)[i]? = some x) : ∃ k, l[i]? = some k ∧ x = nv k := by
  rw [List.getElem?_map] at h
  cases e : l[i]? with
  | none => rw [e] at h; cases h
  | some k => rw [e] at h; exact ⟨k, rfl, (Option.some.inj h).symm⟩
def sp_lot_of (K : PySem.W.Frag) : Sp := fun vs H Q _ => ∃ m : Nat, vs = [nv m] ∧ m < 2 ^ 62 ∧ ∀ H' p, Same H H' → H p = none → H' p = some (.tup (nvs (bits m))) → Q (.ref p) H'
theorem ok_lot_of (T : Tx P K mg) : FnOk P w K mg base CX0 1 T.a_lot_of T.d_lot_of ["mask"] (sp_lot_of K) := by
  refine T.F_lot_of.ok sc_lot_of (fun vs H Q E h => ?_) (fun cdv A outer s H vs Q E hr h => ?_)
  · obtain ⟨m, rfl, _⟩ := h
    rfl
  · obtain ⟨m, rfl, hm, q⟩ := h
    refine ⟨_, (pss_one (ps_ret (pe_callTy (tupOfK (K := K) rfl) (by rfl) T.n_tuple (by decide +kernel) (pa_cons (pe_lc (own := [("key", 1)]) (by rfl) sc_lot_of.nd (pi_range1 (by rfl) T.n_range (pa_cons (pe_bits (pv 0)) pa_nil)) (blkOk_by (own := [("key", 1)]) (N := ["mask", "key"]) (sc := defScope s_lot_of) (by decide +kernel)) (fun _ _ _ _ _ => (pg_name (i := 1) sc_lot_of.nd rfl (by first | exact Or.inl rfl | exact Or.inr rfl))) (fun _ _ _ _ _ => (pts_one (truthK (K := K) rfl (pe_op op_andU (pe_op op_shrU (pv 0) (pv 1)) pe_int) (by intro _; rfl)))) (fun _ _ _ _ _ => (pv 1))) pa_nil)))), ?_⟩
    rw [show L2.start ["mask", "key"] [nv m] = [some (nv m), none] from rfl]
    generalize hL1 : tLc _ _ _ _ _ = L1
    (try simp only [tVar, tC, tOp, tUn, rI, rI0, rU, rEq, rNe, scal, tTest, tB, tAnd, tOr, tNot, tAndV, tOrV, tNotV, tIf, tChain, tNil, tCons, tCB, tCall, tTup, tLst, tRet, tRetN, tDrop, tSeq, tNext, tIfS, tAsg, gName, tPar, tPar3, gNil, gCons, gTup, gSub, tAug, tSl, tNoPart, tPart, tBM, tBM0, tYes, tIsP, iSeq, iEnumA, RZ.iZipA, iRng1, iRng2, iList, iTup, rIsi, rIsB, rIxL, rIxT, rIxA, rLenA, rListOf, rTupOf, rSetL, rSlL, rCat, rAppend, tFld, sFld, tMake, tBits, Int.ofNat_inj, cast1, cast0, TruV, cxOf, Cx.nox, Cx.wish, tNever, tBreak, tCont, ipI, tDIn, tDNotIn, sDPut, tDNewT, tDNewK, tDGet, rSortedPO, rSortedI, rIn, rEqD, rNeD, rInD, rNotInD, tSSet, rIsV, rIntI, rIntB, rAbsN, tLstRg, tRg1, tRg2, List.append_nil, List.nil_append, List.cons_append, Option.some.injEq, exists_eq_left', exists_eq_left, exists_eq_right, exists_eq_right', List.getElem?_cons_zero, List.getElem?_cons_succ, List.set_cons_zero, List.set_cons_succ, List.cons.injEq, and_true, true_and, exists_and_left, exists_and_right, and_assoc, V.int.injEq, V.bl.injEq, V.ref.injEq, V.str.injEq, reduceCtorEq, decide_true, decide_false, Bool.not_true, Bool.not_false, Bool.false_eq_true, if_false, if_true, ite_true, ite_false, List.length_cons, List.length_nil, tRaise, tErr, LamX.tLam, TTe, rSortedIA, rSortedTA, tDisp, tPairs])
    subst hL1
    refine lcR1 (Builtin.Int.intBits (m : Int)) m.testBit nv (fun R h => ?_) ?_ (fun i H' Q1 Q2 hi e q1 q2 => ?_) fun L hL => ?_
    · (try simp only [tVar, tC, tOp, tUn, rI, rI0, rU, rEq, rNe, scal, tTest, tB, tAnd, tOr, tNot, tAndV, tOrV, tNotV, tIf, tChain, tNil, tCons, tCB, tCall, tTup, tLst, tRet, tRetN, tDrop, tSeq, tNext, tIfS, tAsg, gName, tPar, tPar3, gNil, gCons, gTup, gSub, tAug, tSl, tNoPart, tPart, tBM, tBM0, tYes, tIsP, iSeq, iEnumA, RZ.iZipA, iRng1, iRng2, iList, iTup, rIsi, rIsB, rIxL, rIxT, rIxA, rLenA, rListOf, rTupOf, rSetL, rSlL, rCat, rAppend, tFld, sFld, tMake, tBits, Int.ofNat_inj, cast1, cast0, TruV, cxOf, Cx.nox, Cx.wish, tNever, tBreak, tCont, ipI, tDIn, tDNotIn, sDPut, tDNewT, tDNewK, tDGet, rSortedPO, rSortedI, rIn, rEqD, rNeD, rInD, rNotInD, tSSet, rIsV, rIntI, rIntB, rAbsN, tLstRg, tRg1, tRg2, List.append_nil, List.nil_append, List.cons_append, Option.some.injEq, exists_eq_left', exists_eq_left, exists_eq_right, exists_eq_right', List.getElem?_cons_zero, List.getElem?_cons_succ, List.set_cons_zero, List.set_cons_succ, List.cons.injEq, and_true, true_and, exists_and_left, exists_and_right, and_assoc, V.int.injEq, V.bl.injEq, V.ref.injEq, V.str.injEq, reduceCtorEq, decide_true, decide_false, Bool.not_true, Bool.not_false, Bool.false_eq_true, if_false, if_true, ite_true, ite_false, List.length_cons, List.length_nil, tRaise, tErr, LamX.tLam, TTe, rSortedIA, rSortedTA, tDisp, tPairs])
      exact h
    · have := bits_lt hm
      omega
    · (try simp only [tVar, tC, tOp, tUn, rI, rI0, rU, rEq, rNe, scal, tTest, tB, tAnd, tOr, tNot, tAndV, tOrV, tNotV, tIf, tChain, tNil, tCons, tCB, tCall, tTup, tLst, tRet, tRetN, tDrop, tSeq, tNext, tIfS, tAsg, gName, tPar, tPar3, gNil, gCons, gTup, gSub, tAug, tSl, tNoPart, tPart, tBM, tBM0, tYes, tIsP, iSeq, iEnumA, RZ.iZipA, iRng1, iRng2, iList, iTup, rIsi, rIsB, rIxL, rIxT, rIxA, rLenA, rListOf, rTupOf, rSetL, rSlL, rCat, rAppend, tFld, sFld, tMake, tBits, Int.ofNat_inj, cast1, cast0, TruV, cxOf, Cx.nox, Cx.wish, tNever, tBreak, tCont, ipI, tDIn, tDNotIn, sDPut, tDNewT, tDNewK, tDGet, rSortedPO, rSortedI, rIn, rEqD, rNeD, rInD, rNotInD, tSSet, rIsV, rIntI, rIntB, rAbsN, tLstRg, tRg1, tRg2, List.append_nil, List.nil_append, List.cons_append, Option.some.injEq, exists_eq_left', exists_eq_left, exists_eq_right, exists_eq_right', List.getElem?_cons_zero, List.getElem?_cons_succ, List.set_cons_zero, List.set_cons_succ, List.cons.injEq, and_true, true_and, exists_and_left, exists_and_right, and_assoc, V.int.injEq, V.bl.injEq, V.ref.injEq, V.str.injEq, reduceCtorEq, decide_true, decide_false, Bool.not_true, Bool.not_false, Bool.false_eq_true, if_false, if_true, ite_true, ite_false, List.length_cons, List.length_nil, tRaise, tErr, LamX.tLam, TTe, rSortedIA, rSortedTA, tDisp, tPairs])
      rw [odd_test]
      cases ht : m.testBit i
      · exact q2 ht
      · exact q1 ht
    · (try simp only [tVar, tC, tOp, tUn, rI, rI0, rU, rEq, rNe, scal, tTest, tB, tAnd, tOr, tNot, tAndV, tOrV, tNotV, tIf, tChain, tNil, tCons, tCB, tCall, tTup, tLst, tRet, tRetN, tDrop, tSeq, tNext, tIfS, tAsg, gName, tPar, tPar3, gNil, gCons, gTup, gSub, tAug, tSl, tNoPart, tPart, tBM, tBM0, tYes, tIsP, iSeq, iEnumA, RZ.iZipA, iRng1, iRng2, iList, iTup, rIsi, rIsB, rIxL, rIxT, rIxA, rLenA, rListOf, rTupOf, rSetL, rSlL, rCat, rAppend, tFld, sFld, tMake, tBits, Int.ofNat_inj, cast1, cast0, TruV, cxOf, Cx.nox, Cx.wish, tNever, tBreak, tCont, ipI, tDIn, tDNotIn, sDPut, tDNewT, tDNewK, tDGet, rSortedPO, rSortedI, rIn, rEqD, rNeD, rInD, rNotInD, tSSet, rIsV, rIntI, rIntB, rAbsN, tLstRg, tRg1, tRg2, List.append_nil, List.nil_append, List.cons_append, Option.some.injEq, exists_eq_left', exists_eq_left, exists_eq_right, exists_eq_right', List.getElem?_cons_zero, List.getElem?_cons_succ, List.set_cons_zero, List.set_cons_succ, List.cons.injEq, and_true, true_and, exists_and_left, exists_and_right, and_assoc, V.int.injEq, V.bl.injEq, V.ref.injEq, V.str.injEq, reduceCtorEq, decide_true, decide_false, Bool.not_true, Bool.not_false, Bool.false_eq_true, if_false, if_true, ite_true, ite_false, List.length_cons, List.length_nil, tRaise, tErr, LamX.tLam, TTe, rSortedIA, rSortedTA, tDisp, tPairs])
      exact ⟨_, .inl ⟨.of upd_same, fun l hl => q _ l (Same.mk2 hL hl) (back (same_new hL) hl) upd_same⟩⟩
def sp_mask_of (K : PySem.W.Frag) : Sp := fun vs H Q _ => ∃ a ns, vs = [.ref a] ∧ Seq K H a (nvs ns) ∧ (∀ n ∈ ns, n < 64) ∧ Q (nv (maskOf ns)) H
end
end Kr
namespace Kr
open PySem PySem.Spec PyProof.Rows L2 Kb
section
variable {P : Program} {w : World} {K : PySem.W.Frag} {mg : Str → Option Value} {base : Heap}
/-! ### keys -/
def sp_need_count (K : PySem.W.Frag) : Sp := fun vs H Q _ => ∃ i l m, vs = [.int i, .int l, .int m] ∧ (l ≤ i ∧ i ≤ m) ∧ Q .non H
theorem ok_need_count (T : Tx P K mg) : FnOk P w K mg base CX0 3 T.a_need_count T.d_need_count ["value", "least", "greatest"] (sp_need_count K) := by
  refine T.F_need_count.ok sc_need_count (fun vs H Q E h => ?_) (fun cdv A outer s H vs Q E hr h => ?_)
  · obtain ⟨i, l, m, rfl, _⟩ := h
    rfl
  · obtain ⟨i, l, m, rfl, ⟨h1, h2⟩, q⟩ := h
    refine ⟨_, (pss_one (ps_if (pt_not (pt_val (pe_call (ok_is_between T) (hr.mono (by decide)) (by rfl) T.g_is_between T.F_is_between.kp T.b_is_between .nil pass0 (pa_cons (pv 0) (pa_cons (pv 1) (pa_cons (pv 2) pa_nil)))))) (pss_one ps_never) pss_nil)), ?_⟩
    rw [show L2.start ["value", "least", "greatest"] [.int i, .int l, .int m] = [some (.int i), some (.int l), some (.int m)] from rfl]
    (try simp only [tVar, tC, tOp, tUn, rI, rI0, rU, rEq, rNe, scal, tTest, tB, tAnd, tOr, tNot, tAndV, tOrV, tNotV, tIf, tChain, tNil, tCons, tCB, tCall, tTup, tLst, tRet, tRetN, tDrop, tSeq, tNext, tIfS, tAsg, gName, tPar, tPar3, gNil, gCons, gTup, gSub, tAug, tSl, tNoPart, tPart, tBM, tBM0, tYes, tIsP, iSeq, iEnumA, RZ.iZipA, iRng1, iRng2, iList, iTup, rIsi, rIsB, rIxL, rIxT, rIxA, rLenA, rListOf, rTupOf, rSetL, rSlL, rCat, rAppend, tFld, sFld, tMake, tBits, Int.ofNat_inj, cast1, cast0, TruV, cxOf, Cx.nox, Cx.wish, tNever, tBreak, tCont, ipI, tDIn, tDNotIn, sDPut, tDNewT, tDNewK, tDGet, rSortedPO, rSortedI, rIn, rEqD, rNeD, rInD, rNotInD, tSSet, rIsV, rIntI, rIntB, rAbsN, tLstRg, tRg1, tRg2, List.append_nil, List.nil_append, List.cons_append, Option.some.injEq, exists_eq_left', exists_eq_left, exists_eq_right, exists_eq_right', List.getElem?_cons_zero, List.getElem?_cons_succ, List.set_cons_zero, List.set_cons_succ, List.cons.injEq, and_true, true_and, exists_and_left, exists_and_right, and_assoc, V.int.injEq, V.bl.injEq, V.ref.injEq, V.str.injEq, reduceCtorEq, decide_true, decide_false, Bool.not_true, Bool.not_false, Bool.false_eq_true, if_false, if_true, ite_true, ite_false, List.length_cons, List.length_nil, tRaise, tErr, LamX.tLam, TTe, rSortedIA, rSortedTA, tDisp, tPairs])
    refine between_i ?_
    rw [decide_eq_true h1, decide_eq_true h2]
    (try simp only [tVar, tC, tOp, tUn, rI, rI0, rU, rEq, rNe, scal, tTest, tB, tAnd, tOr, tNot, tAndV, tOrV, tNotV, tIf, tChain, tNil, tCons, tCB, tCall, tTup, tLst, tRet, tRetN, tDrop, tSeq, tNext, tIfS, tAsg, gName, tPar, tPar3, gNil, gCons, gTup, gSub, tAug, tSl, tNoPart, tPart, tBM, tBM0, tYes, tIsP, iSeq, iEnumA, RZ.iZipA, iRng1, iRng2, iList, iTup, rIsi, rIsB, rIxL, rIxT, rIxA, rLenA, rListOf, rTupOf, rSetL, rSlL, rCat, rAppend, tFld, sFld, tMake, tBits, Int.ofNat_inj, cast1, cast0, TruV, cxOf, Cx.nox, Cx.wish, tNever, tBreak, tCont, ipI, tDIn, tDNotIn, sDPut, tDNewT, tDNewK, tDGet, rSortedPO, rSortedI, rIn, rEqD, rNeD, rInD, rNotInD, tSSet, rIsV, rIntI, rIntB, rAbsN, tLstRg, tRg1, tRg2, List.append_nil, List.nil_append, List.cons_append, Option.some.injEq, exists_eq_left', exists_eq_left, exists_eq_right, exists_eq_right', List.getElem?_cons_zero, List.getElem?_cons_succ, List.set_cons_zero, List.set_cons_succ, List.cons.injEq, and_true, true_and, exists_and_left, exists_and_right, and_assoc, V.int.injEq, V.bl.injEq, V.ref.injEq, V.str.injEq, reduceCtorEq, decide_true, decide_false, Bool.not_true, Bool.not_false, Bool.false_eq_true, if_false, if_true, ite_true, ite_false, List.length_cons, List.length_nil, tRaise, tErr, LamX.tLam, TTe, rSortedIA, rSortedTA, tDisp, tPairs])
    exact q
abbrev NP := Nat × Nat
/-- these pairs, each a tuple of its own -/
def Prs (H : Hp) (xs : List V) (ps : List NP) : Prop := Paired (fun (x : V) (p : NP) => ∃ a, x = .ref a ∧ H a = some (.tup [nv p.1, nv p.2])) xs ps
theorem Prs.same {H H' : Hp} {xs : List V} {ps : List NP} (e : Same H H') (h : Prs H xs ps) : Prs H' xs ps := Paired.mapP h fun _ _ ⟨a, e1, e2⟩ => ⟨a, e1, e _ _ e2⟩
theorem Prs.len {H : Hp} {xs : List V} {ps : List NP} (h : Prs H xs ps) : xs.length = ps.length := Paired.length h
theorem Prs.at {H : Hp} : ∀ {xs : List V} {ps : List NP} {i : Nat} {x : V}, Prs H xs ps → xs[i]? = some x → ∃ p a, ps[i]? = some p ∧ x = .ref a ∧ H a = some (.tup [nv p.1, nv p.2])
  | _, _, _, _, .nil, e => by simp at e
  | _, _, 0, _, .cons ⟨a, e1, e2⟩ _, e => by
    have z := Option.some.inj e
    exact ⟨_, a, rfl, z ▸ e1, e2⟩
  | _, _, i + 1, _, .cons _ t, e => Prs.at (i := i) t e
def kof (p : NP) : List Key := [.inl (p.1 : Int), .inl (p.2 : Int)]
theorem kof_inj {p q : NP} (h : kof p = kof q) : p = q := by
  unfold kof at h
  injection h with h1 h2
  injection h2 with h2 _
  injection h1 with h1
  injection h2 with h2
  obtain ⟨a, b⟩ := p
  obtain ⟨c, d⟩ := q
  simp only [Prod.mk.injEq]
  omega
def ent (p : NP) : List Key × V := (kof p, .bl true)
theorem val_none {ps : List NP} {p : NP} (h : p ∉ ps) : valV (ps.map ent) (kof p) = none := by
  induction ps with
  | nil => rfl
  | cons q r ih =>
    rw [List.map_cons, valV_neg (fun e => h (by rw [kof_inj e]; exact List.mem_cons_self))]
    exact ih fun m => h (List.mem_cons_of_mem _ m)
theorem put_new {ps : List NP} {p : NP} (h : p ∉ ps) : putK (ps.map ent) (kof p) (.bl true) = (ps ++ [p]).map ent := by
  unfold putK
  rw [valV_any, val_none h, List.map_append]
  rfl
def enK (k : Nat) : Key × V := (.inl (k : Int), .bl true)
theorem valk_none {ns : List Nat} {k : Nat} (h : k ∉ ns) : valV (ns.map enK) (.inl (k : Int)) = none := by
  induction ns with
  | nil => rfl
  | cons q r ih =>
    rw [List.map_cons, valV_neg (fun e => h (by injection e with e; rw [show k = q by omega]; exact List.mem_cons_self))]
    exact ih fun m => h (List.mem_cons_of_mem _ m)
theorem putk_new {ns : List Nat} {k : Nat} (h : k ∉ ns) : putK (ns.map enK) (.inl (k : Int)) (.bl true) = (ns ++ [k]).map enK := by
  unfold putK
  rw [valV_any, valk_none h, List.map_append]
  rfl
theorem not_in_take {α : Type} {l : List α} {i : Nat} {x : α} (nd : l.Nodup) (h : l[i]? = some x) : x ∉ l.take i := fun m => by
  obtain ⟨j, hj, e⟩ := List.mem_iff_getElem.mp m
  rw [List.length_take] at hj
  rw [List.getElem_take] at e
  have hj2 : l[j]? = some x := by rw [List.getElem?_eq_getElem (by omega), e]
  have := nd_ix nd hj2 h
  omega
/-- the pairs in their order -/
def lexle (p q : NP) : Prop := p.1 < q.1 ∨ (p.1 = q.1 ∧ p.2 ≤ q.2)
theorem prs_keys {H : Hp} : ∀ {ps : List NP} {bs : List Addr}, IsKeys H (ps.map ent) bs → Prs H (bs.map V.ref) ps
  | [], [], .nil => .nil
  | _ :: _, b :: _, .cons h t => .cons ⟨b, rfl, h⟩ (prs_keys t)
/-- a pair, out of the heap -/
def dec (H : Hp) (x : V) : Int × Int := match x with
  | .ref t => match H t with
    | some (.tup [.int a, .int b]) => (a, b)
    | _ => (0, 0)
  | _ => (0, 0)
theorem dec_of {H : Hp} {t : Addr} {a b : Int} (h : H t = some (.tup [.int a, .int b])) : dec H (.ref t) = (a, b) := by
  unfold dec
  simp only [h]
def decN (H : Hp) (x : V) : NP := ((dec H x).1.toNat, (dec H x).2.toNat)
def decs (H : Hp) (ys : List V) : List NP := ys.map (decN H)
theorem decN_of {H : Hp} {t : Addr} {p : NP} (h : H t = some (.tup [nv p.1, nv p.2])) : decN H (.ref t) = p := by
  unfold decN
  rw [dec_of h]
  exact Prod.ext (Int.toNat_natCast _) (Int.toNat_natCast _)
theorem Prs.decs {H : Hp} : ∀ {xs : List V} {ps : List NP}, Prs H xs ps → decs H xs = ps
  | _, _, .nil => rfl
  | _, _, .cons ⟨t, e1, e2⟩ r => by
    subst e1
    show decN H (.ref t) :: Kr.decs H _ = _
    rw [decN_of e2, Prs.decs r]
theorem prs_self {H : Hp} : ∀ {ys : List V}, (∀ y ∈ ys, ∃ t p, y = .ref t ∧ H t = some (.tup [nv p.1, nv (p : NP).2])) → Prs H ys (decs H ys)
  | [], _ => .nil
  | y :: r, h => by
    obtain ⟨t, p, rfl, e⟩ := h y List.mem_cons_self
    refine .cons ⟨t, rfl, ?_⟩ (prs_self fun z hz => h z (List.mem_cons_of_mem _ hz))
    rw [decN_of e]
    exact e
theorem sort_prs {H : Hp} {xs ys : List V} {ps : List NP} (h : Prs H xs ps) (hp : ys.Perm xs) : Prs H ys (decs H ys) ∧ (decs H ys).Perm ps := by
  refine ⟨prs_self fun y hy => ?_, ?_⟩
  · obtain ⟨i, hi⟩ := List.mem_iff_getElem?.mp (hp.mem_iff.mp hy)
    obtain ⟨p, b, _, rfl, eb⟩ := Prs.at h hi
    exact ⟨b, p, rfl, eb⟩
  · have := hp.map (decN H)
    rw [show xs.map (decN H) = ps from h.decs] at this
    exact this
theorem sort_lex {H : Hp} {ys : List V} (h : Prs H ys (decs H ys)) (hs : SrtO.Srtd (ltP (dec H)) ys) : (decs H ys).Pairwise lexle := by
  have key : ∀ y ∈ ys, dec H y = (((decN H y).1 : Int), ((decN H y).2 : Int)) := by
    intro y hy
    obtain ⟨i, hi⟩ := List.mem_iff_getElem?.mp hy
    obtain ⟨p, b, _, rfl, eb⟩ := Prs.at h hi
    rw [decN_of eb, dec_of eb]
  refine List.pairwise_map.mpr (hs.imp_of_mem fun {a b} ha hb hab => ?_)
  have e := SrtO.lexB_no.mp hab
  rw [key a ha, key b hb] at e
  unfold lexle
  simp only at e
  omega
def GoodPairs (n : Nat) (ps : List NP) : Prop := ps.Nodup ∧ ∀ p ∈ ps, p.1 ≤ p.2 ∧ p.2 < n
def sp_told_clashes (K : PySem.W.Frag) : Sp := fun vs H Q _ => ∃ a xs ps n, vs = [.ref a, nv n] ∧ Seq K H a xs ∧ Prs H xs ps ∧ GoodPairs n ps ∧ ps.length ≤ 1000 ∧
  ∀ H' p ys qs, Same H H' → H p = none → H' p = some (.tup ys) → Prs H' ys qs → qs.Perm ps → qs.Pairwise lexle → Q (.ref p) H'
theorem ok_told_clashes (T : Tx P K mg) : FnOk P w K mg base CX0 3 T.a_told_clashes T.d_told_clashes ["value", "many"] (sp_told_clashes K) := by
  refine T.F_told_clashes.ok sc_told_clashes (fun vs H Q E h => ?_) (fun cdv A outer s H vs Q E hr h => ?_)
  · obtain ⟨a, xs, ps, n, rfl, _⟩ := h
    rfl
  · obtain ⟨a, xs, ps, n, rfl, hs, hp, ⟨nd, hg⟩, hz, q⟩ := h
    refine ⟨_, (pss_cons (ps_if (pt_not (pt_val (pe_call (ok_is_sequence T) (hr.mono (by decide)) (by rfl) T.g_is_sequence T.F_is_sequence.kp T.b_is_sequence .nil pass0 (pa_cons (pv 0) pa_nil)))) (pss_one ps_never) pss_nil)
      (pss_cons (ps_set (i := 2) sc_told_clashes.nd rfl (Or.inl rfl) pe_dnewT)
      (pss_cons (ps_for PassesOwn.never rfl (penumK (K := K) rfl (by rfl) T.n_enumerate (pa_cons (pv 0) pa_nil)) (gtupK (K := K) (n := 2) rfl (by rfl) (pgs_cons (pg_name (i := 3) sc_told_clashes.nd rfl (Or.inl rfl)) (pgs_cons (pg_name (i := 4) sc_told_clashes.nd rfl (Or.inl rfl)) pgs_nil))) (pss_cons (ps_if (PW.pt (pw_or (pt_not (pt_val (pe_call (ok_is_row T) (hr.mono (by decide)) (by rfl) T.g_is_row T.F_is_row.kp T.b_is_row .nil pass0 (pa_cons (pv 4) (pa_cons pe_int pa_nil))))) (pw_or (pt_not (pt_val (pe_call (ok_is_below T) (hr.mono (by decide)) (by rfl) T.g_is_below T.F_is_below.kp T.b_is_below .nil pass0 (pa_cons (pe_ix (ixA (K := K) rfl) (pv 4) pe_int (fun _ _ => rfl)) (pa_cons (pv 1) pa_nil))))) (pw_or1 (pt_not (pt_val (pe_call (ok_is_below T) (hr.mono (by decide)) (by rfl) T.g_is_below T.F_is_below.kp T.b_is_below .nil pass0 (pa_cons (pe_ix (ixA (K := K) rfl) (pv 4) pe_int (fun _ _ => rfl)) (pa_cons (pv 1) pa_nil))))))))) (pss_one ps_never) pss_nil)
      (pss_cons (ps_if (PW.pt (pw_or (pt_cmpR op_gt (pe_ix (ixA (K := K) rfl) (pv 4) pe_int (fun _ _ => rfl)) (pe_ix (ixA (K := K) rfl) (pv 4) pe_int (fun _ _ => rfl)) (nomark _)) (pw_or1 (pt_cmp (pc_din (hu_of hr) (pe_tup (pa_cons (pe_ix (ixA (K := K) rfl) (pv 4) pe_int (fun _ _ => rfl)) (pa_cons (pe_ix (ixA (K := K) rfl) (pv 4) pe_int (fun _ _ => rfl)) pa_nil))) (pv 2)))))) (pss_one ps_never) pss_nil)
      (pss_one (ps_dput (hu_of hr) (pv 2) (pe_tup (pa_cons (pe_ix (ixA (K := K) rfl) (pv 4) pe_int (fun _ _ => rfl)) (pa_cons (pe_ix (ixA (K := K) rfl) (pv 4) pe_int (fun _ _ => rfl)) pa_nil))) pe_bl rfl)))))
      (pss_one (ps_ret (pe_callTy (tupOfK (K := K) rfl) (by rfl) T.n_tuple (by decide +kernel) (pa_cons (pe_callB (sortPK (K := K) rfl) (by rfl) T.n_sorted (by decide +kernel) (pa_cons (pe_callTy (call_list_dT rfl) (by rfl) T.n_list (by decide +kernel) (pa_cons (pv 2) pa_nil)) pa_nil)) pa_nil))))))), ?_⟩
    rw [show L2.start ["value", "many", "seen", "at", "pair"] [.ref a, nv n] = [some (.ref a), some (nv n), none, none, none] from rfl]
    generalize hF1 : tFor _ _ _ = F1
    (try simp only [tVar, tC, tOp, tUn, rI, rI0, rU, rEq, rNe, scal, tTest, tB, tAnd, tOr, tNot, tAndV, tOrV, tNotV, tIf, tChain, tNil, tCons, tCB, tCall, tTup, tLst, tRet, tRetN, tDrop, tSeq, tNext, tIfS, tAsg, gName, tPar, tPar3, gNil, gCons, gTup, gSub, tAug, tSl, tNoPart, tPart, tBM, tBM0, tYes, tIsP, iSeq, iEnumA, RZ.iZipA, iRng1, iRng2, iList, iTup, rIsi, rIsB, rIxL, rIxT, rIxA, rLenA, rListOf, rTupOf, rSetL, rSlL, rCat, rAppend, tFld, sFld, tMake, tBits, Int.ofNat_inj, cast1, cast0, TruV, cxOf, Cx.nox, Cx.wish, tNever, tBreak, tCont, ipI, tDIn, tDNotIn, sDPut, tDNewT, tDNewK, tDGet, rSortedPO, rSortedI, rIn, rEqD, rNeD, rInD, rNotInD, tSSet, rIsV, rIntI, rIntB, rAbsN, tLstRg, tRg1, tRg2, List.append_nil, List.nil_append, List.cons_append, Option.some.injEq, exists_eq_left', exists_eq_left, exists_eq_right, exists_eq_right', List.getElem?_cons_zero, List.getElem?_cons_succ, List.set_cons_zero, List.set_cons_succ, List.cons.injEq, and_true, true_and, exists_and_left, exists_and_right, and_assoc, V.int.injEq, V.bl.injEq, V.ref.injEq, V.str.injEq, reduceCtorEq, decide_true, decide_false, Bool.not_true, Bool.not_false, Bool.false_eq_true, if_false, if_true, ite_true, ite_false, List.length_cons, List.length_nil, tRaise, tErr, LamX.tLam, TTe, rSortedIA, rSortedTA, tDisp, tPairs])
    refine is_seq hs ?_
    (try simp only [tVar, tC, tOp, tUn, rI, rI0, rU, rEq, rNe, scal, tTest, tB, tAnd, tOr, tNot, tAndV, tOrV, tNotV, tIf, tChain, tNil, tCons, tCB, tCall, tTup, tLst, tRet, tRetN, tDrop, tSeq, tNext, tIfS, tAsg, gName, tPar, tPar3, gNil, gCons, gTup, gSub, tAug, tSl, tNoPart, tPart, tBM, tBM0, tYes, tIsP, iSeq, iEnumA, RZ.iZipA, iRng1, iRng2, iList, iTup, rIsi, rIsB, rIxL, rIxT, rIxA, rLenA, rListOf, rTupOf, rSetL, rSlL, rCat, rAppend, tFld, sFld, tMake, tBits, Int.ofNat_inj, cast1, cast0, TruV, cxOf, Cx.nox, Cx.wish, tNever, tBreak, tCont, ipI, tDIn, tDNotIn, sDPut, tDNewT, tDNewK, tDGet, rSortedPO, rSortedI, rIn, rEqD, rNeD, rInD, rNotInD, tSSet, rIsV, rIntI, rIntB, rAbsN, tLstRg, tRg1, tRg2, List.append_nil, List.nil_append, List.cons_append, Option.some.injEq, exists_eq_left', exists_eq_left, exists_eq_right, exists_eq_right', List.getElem?_cons_zero, List.getElem?_cons_succ, List.set_cons_zero, List.set_cons_succ, List.cons.injEq, and_true, true_and, exists_and_left, exists_and_right, and_assoc, V.int.injEq, V.bl.injEq, V.ref.injEq, V.str.injEq, reduceCtorEq, decide_true, decide_false, Bool.not_true, Bool.not_false, Bool.false_eq_true, if_false, if_true, ite_true, ite_false, List.length_cons, List.length_nil, tRaise, tErr, LamX.tLam, TTe, rSortedIA, rSortedTA, tDisp, tPairs])
    intro d hd
    subst hF1
    refine forE a xs (fun i σ' H' => ∃ y3 y4, σ' = [some (.ref a), some (nv n), some (.ref d), y3, y4] ∧ Same H H' ∧ H' d = some (.dT ((ps.take i).map ent))) (fun R h => ?_) ⟨_, _, rfl, same_new hd, upd_same⟩ H hs (fun i σ' H' h => by obtain ⟨_, _, _, h, _⟩ := h; exact h) ?_ ?_
    · (try simp only [tVar, tC, tOp, tUn, rI, rI0, rU, rEq, rNe, scal, tTest, tB, tAnd, tOr, tNot, tAndV, tOrV, tNotV, tIf, tChain, tNil, tCons, tCB, tCall, tTup, tLst, tRet, tRetN, tDrop, tSeq, tNext, tIfS, tAsg, gName, tPar, tPar3, gNil, gCons, gTup, gSub, tAug, tSl, tNoPart, tPart, tBM, tBM0, tYes, tIsP, iSeq, iEnumA, RZ.iZipA, iRng1, iRng2, iList, iTup, rIsi, rIsB, rIxL, rIxT, rIxA, rLenA, rListOf, rTupOf, rSetL, rSlL, rCat, rAppend, tFld, sFld, tMake, tBits, Int.ofNat_inj, cast1, cast0, TruV, cxOf, Cx.nox, Cx.wish, tNever, tBreak, tCont, ipI, tDIn, tDNotIn, sDPut, tDNewT, tDNewK, tDGet, rSortedPO, rSortedI, rIn, rEqD, rNeD, rInD, rNotInD, tSSet, rIsV, rIntI, rIntB, rAbsN, tLstRg, tRg1, tRg2, List.append_nil, List.nil_append, List.cons_append, Option.some.injEq, exists_eq_left', exists_eq_left, exists_eq_right, exists_eq_right', List.getElem?_cons_zero, List.getElem?_cons_succ, List.set_cons_zero, List.set_cons_succ, List.cons.injEq, and_true, true_and, exists_and_left, exists_and_right, and_assoc, V.int.injEq, V.bl.injEq, V.ref.injEq, V.str.injEq, reduceCtorEq, decide_true, decide_false, Bool.not_true, Bool.not_false, Bool.false_eq_true, if_false, if_true, ite_true, ite_false, List.length_cons, List.length_nil, tRaise, tErr, LamX.tLam, TTe, rSortedIA, rSortedTA, tDisp, tPairs])
      exact h
    · rintro i x σ' H' T hx ⟨y3, y4, rfl, sm, ed⟩ hT
      obtain ⟨p, b, hpi, rfl, eb⟩ := Prs.at hp hx
      have gp := hg p (List.mem_of_getElem? hpi)
      have e1 : (upd H' T (.tup [nv i, .ref b])) b = some (.tup [nv p.1, nv p.2]) := same_new hT _ _ (sm _ _ eb)
      have sb : Seq K (upd H' T (.tup [nv i, .ref b])) b [nv p.1, nv p.2] := .inr (.of e1)
      have ed1 : (upd H' T (.tup [nv i, .ref b])) d = some (.dT ((ps.take i).map ent)) := same_new hT _ _ ed
      (try simp only [tVar, tC, tOp, tUn, rI, rI0, rU, rEq, rNe, scal, tTest, tB, tAnd, tOr, tNot, tAndV, tOrV, tNotV, tIf, tChain, tNil, tCons, tCB, tCall, tTup, tLst, tRet, tRetN, tDrop, tSeq, tNext, tIfS, tAsg, gName, tPar, tPar3, gNil, gCons, gTup, gSub, tAug, tSl, tNoPart, tPart, tBM, tBM0, tYes, tIsP, iSeq, iEnumA, RZ.iZipA, iRng1, iRng2, iList, iTup, rIsi, rIsB, rIxL, rIxT, rIxA, rLenA, rListOf, rTupOf, rSetL, rSlL, rCat, rAppend, tFld, sFld, tMake, tBits, Int.ofNat_inj, cast1, cast0, TruV, cxOf, Cx.nox, Cx.wish, tNever, tBreak, tCont, ipI, tDIn, tDNotIn, sDPut, tDNewT, tDNewK, tDGet, rSortedPO, rSortedI, rIn, rEqD, rNeD, rInD, rNotInD, tSSet, rIsV, rIntI, rIntB, rAbsN, tLstRg, tRg1, tRg2, List.append_nil, List.nil_append, List.cons_append, Option.some.injEq, exists_eq_left', exists_eq_left, exists_eq_right, exists_eq_right', List.getElem?_cons_zero, List.getElem?_cons_succ, List.set_cons_zero, List.set_cons_succ, List.cons.injEq, and_true, true_and, exists_and_left, exists_and_right, and_assoc, V.int.injEq, V.bl.injEq, V.ref.injEq, V.str.injEq, reduceCtorEq, decide_true, decide_false, Bool.not_true, Bool.not_false, Bool.false_eq_true, if_false, if_true, ite_true, ite_false, List.length_cons, List.length_nil, tRaise, tErr, LamX.tLam, TTe, rSortedIA, rSortedTA, tDisp, tPairs])
      refine row_i sb ?_
      (try simp only [tVar, tC, tOp, tUn, rI, rI0, rU, rEq, rNe, scal, tTest, tB, tAnd, tOr, tNot, tAndV, tOrV, tNotV, tIf, tChain, tNil, tCons, tCB, tCall, tTup, tLst, tRet, tRetN, tDrop, tSeq, tNext, tIfS, tAsg, gName, tPar, tPar3, gNil, gCons, gTup, gSub, tAug, tSl, tNoPart, tPart, tBM, tBM0, tYes, tIsP, iSeq, iEnumA, RZ.iZipA, iRng1, iRng2, iList, iTup, rIsi, rIsB, rIxL, rIxT, rIxA, rLenA, rListOf, rTupOf, rSetL, rSlL, rCat, rAppend, tFld, sFld, tMake, tBits, Int.ofNat_inj, cast1, cast0, TruV, cxOf, Cx.nox, Cx.wish, tNever, tBreak, tCont, ipI, tDIn, tDNotIn, sDPut, tDNewT, tDNewK, tDGet, rSortedPO, rSortedI, rIn, rEqD, rNeD, rInD, rNotInD, tSSet, rIsV, rIntI, rIntB, rAbsN, tLstRg, tRg1, tRg2, List.append_nil, List.nil_append, List.cons_append, Option.some.injEq, exists_eq_left', exists_eq_left, exists_eq_right, exists_eq_right', List.getElem?_cons_zero, List.getElem?_cons_succ, List.set_cons_zero, List.set_cons_succ, List.cons.injEq, and_true, true_and, exists_and_left, exists_and_right, and_assoc, V.int.injEq, V.bl.injEq, V.ref.injEq, V.str.injEq, reduceCtorEq, decide_true, decide_false, Bool.not_true, Bool.not_false, Bool.false_eq_true, if_false, if_true, ite_true, ite_false, List.length_cons, List.length_nil, tRaise, tErr, LamX.tLam, TTe, rSortedIA, rSortedTA, tDisp, tPairs])
      refine ⟨_, sb, _, rfl, below_n (by omega) ?_⟩
      (try simp only [tVar, tC, tOp, tUn, rI, rI0, rU, rEq, rNe, scal, tTest, tB, tAnd, tOr, tNot, tAndV, tOrV, tNotV, tIf, tChain, tNil, tCons, tCB, tCall, tTup, tLst, tRet, tRetN, tDrop, tSeq, tNext, tIfS, tAsg, gName, tPar, tPar3, gNil, gCons, gTup, gSub, tAug, tSl, tNoPart, tPart, tBM, tBM0, tYes, tIsP, iSeq, iEnumA, RZ.iZipA, iRng1, iRng2, iList, iTup, rIsi, rIsB, rIxL, rIxT, rIxA, rLenA, rListOf, rTupOf, rSetL, rSlL, rCat, rAppend, tFld, sFld, tMake, tBits, Int.ofNat_inj, cast1, cast0, TruV, cxOf, Cx.nox, Cx.wish, tNever, tBreak, tCont, ipI, tDIn, tDNotIn, sDPut, tDNewT, tDNewK, tDGet, rSortedPO, rSortedI, rIn, rEqD, rNeD, rInD, rNotInD, tSSet, rIsV, rIntI, rIntB, rAbsN, tLstRg, tRg1, tRg2, List.append_nil, List.nil_append, List.cons_append, Option.some.injEq, exists_eq_left', exists_eq_left, exists_eq_right, exists_eq_right', List.getElem?_cons_zero, List.getElem?_cons_succ, List.set_cons_zero, List.set_cons_succ, List.cons.injEq, and_true, true_and, exists_and_left, exists_and_right, and_assoc, V.int.injEq, V.bl.injEq, V.ref.injEq, V.str.injEq, reduceCtorEq, decide_true, decide_false, Bool.not_true, Bool.not_false, Bool.false_eq_true, if_false, if_true, ite_true, ite_false, List.length_cons, List.length_nil, tRaise, tErr, LamX.tLam, TTe, rSortedIA, rSortedTA, tDisp, tPairs])
      refine ⟨_, sb, _, rfl, below_n gp.2 ?_⟩
      (try simp only [tVar, tC, tOp, tUn, rI, rI0, rU, rEq, rNe, scal, tTest, tB, tAnd, tOr, tNot, tAndV, tOrV, tNotV, tIf, tChain, tNil, tCons, tCB, tCall, tTup, tLst, tRet, tRetN, tDrop, tSeq, tNext, tIfS, tAsg, gName, tPar, tPar3, gNil, gCons, gTup, gSub, tAug, tSl, tNoPart, tPart, tBM, tBM0, tYes, tIsP, iSeq, iEnumA, RZ.iZipA, iRng1, iRng2, iList, iTup, rIsi, rIsB, rIxL, rIxT, rIxA, rLenA, rListOf, rTupOf, rSetL, rSlL, rCat, rAppend, tFld, sFld, tMake, tBits, Int.ofNat_inj, cast1, cast0, TruV, cxOf, Cx.nox, Cx.wish, tNever, tBreak, tCont, ipI, tDIn, tDNotIn, sDPut, tDNewT, tDNewK, tDGet, rSortedPO, rSortedI, rIn, rEqD, rNeD, rInD, rNotInD, tSSet, rIsV, rIntI, rIntB, rAbsN, tLstRg, tRg1, tRg2, List.append_nil, List.nil_append, List.cons_append, Option.some.injEq, exists_eq_left', exists_eq_left, exists_eq_right, exists_eq_right', List.getElem?_cons_zero, List.getElem?_cons_succ, List.set_cons_zero, List.set_cons_succ, List.cons.injEq, and_true, true_and, exists_and_left, exists_and_right, and_assoc, V.int.injEq, V.bl.injEq, V.ref.injEq, V.str.injEq, reduceCtorEq, decide_true, decide_false, Bool.not_true, Bool.not_false, Bool.false_eq_true, if_false, if_true, ite_true, ite_false, List.length_cons, List.length_nil, tRaise, tErr, LamX.tLam, TTe, rSortedIA, rSortedTA, tDisp, tPairs])
      refine ⟨_, sb, _, rfl, _, sb, _, rfl, _, rfl, _, rfl, ?_⟩
      rw [decide_eq_false (by omega)]
      (try simp only [tVar, tC, tOp, tUn, rI, rI0, rU, rEq, rNe, scal, tTest, tB, tAnd, tOr, tNot, tAndV, tOrV, tNotV, tIf, tChain, tNil, tCons, tCB, tCall, tTup, tLst, tRet, tRetN, tDrop, tSeq, tNext, tIfS, tAsg, gName, tPar, tPar3, gNil, gCons, gTup, gSub, tAug, tSl, tNoPart, tPart, tBM, tBM0, tYes, tIsP, iSeq, iEnumA, RZ.iZipA, iRng1, iRng2, iList, iTup, rIsi, rIsB, rIxL, rIxT, rIxA, rLenA, rListOf, rTupOf, rSetL, rSlL, rCat, rAppend, tFld, sFld, tMake, tBits, Int.ofNat_inj, cast1, cast0, TruV, cxOf, Cx.nox, Cx.wish, tNever, tBreak, tCont, ipI, tDIn, tDNotIn, sDPut, tDNewT, tDNewK, tDGet, rSortedPO, rSortedI, rIn, rEqD, rNeD, rInD, rNotInD, tSSet, rIsV, rIntI, rIntB, rAbsN, tLstRg, tRg1, tRg2, List.append_nil, List.nil_append, List.cons_append, Option.some.injEq, exists_eq_left', exists_eq_left, exists_eq_right, exists_eq_right', List.getElem?_cons_zero, List.getElem?_cons_succ, List.set_cons_zero, List.set_cons_succ, List.cons.injEq, and_true, true_and, exists_and_left, exists_and_right, and_assoc, V.int.injEq, V.bl.injEq, V.ref.injEq, V.str.injEq, reduceCtorEq, decide_true, decide_false, Bool.not_true, Bool.not_false, Bool.false_eq_true, if_false, if_true, ite_true, ite_false, List.length_cons, List.length_nil, tRaise, tErr, LamX.tLam, TTe, rSortedIA, rSortedTA, tDisp, tPairs])
      refine ⟨_, sb, _, rfl, _, sb, _, rfl, by rw [sizeLine_eq]; decide, fun t ht => ?_⟩
      have np : p ∉ ps.take i := fun m => by
        obtain ⟨j, hj, e⟩ := List.mem_iff_getElem.mp m
        rw [List.length_take] at hj
        rw [List.getElem_take] at e
        have hj2 : ps[j]? = some p := by rw [List.getElem?_eq_getElem (by omega), e]
        have := nd_ix nd hj2 hpi
        omega
      refine ⟨none, ?_, ?_⟩
      · rw [← val_none np]
        exact DGet.t (same_new ht _ _ ed1) upd_same
      · refine iteF ?_
        refine ⟨_, Same.sq (same_new ht) sb, _, rfl, _, Same.sq (same_new ht) sb, _, rfl, by rw [sizeLine_eq]; decide, fun t2 ht2 => ?_⟩
        refine ⟨_, .inr ⟨_, kof p, t2, same_new ht2 _ _ (same_new ht _ _ ed1), rfl, upd_same, by rw [List.length_map, List.length_take, sizeLine_eq]; omega, rfl⟩, ?_, ?_⟩
        · intro c o hc
          have hne : c ≠ d := ne_of_none hc hd
          rw [upd_ne hne]
          exact same_new ht2 _ _ (same_new ht _ _ (same_new hT _ _ (sm _ _ hc)))
        · rw [upd_same, put_new np, List.take_add_one, hpi]
          rfl
    · rintro σ' H' ⟨y3, y4, rfl, sm, ed⟩
      rw [Prs.len hp, List.take_length] at ed
      (try simp only [tVar, tC, tOp, tUn, rI, rI0, rU, rEq, rNe, scal, tTest, tB, tAnd, tOr, tNot, tAndV, tOrV, tNotV, tIf, tChain, tNil, tCons, tCB, tCall, tTup, tLst, tRet, tRetN, tDrop, tSeq, tNext, tIfS, tAsg, gName, tPar, tPar3, gNil, gCons, gTup, gSub, tAug, tSl, tNoPart, tPart, tBM, tBM0, tYes, tIsP, iSeq, iEnumA, RZ.iZipA, iRng1, iRng2, iList, iTup, rIsi, rIsB, rIxL, rIxT, rIxA, rLenA, rListOf, rTupOf, rSetL, rSlL, rCat, rAppend, tFld, sFld, tMake, tBits, Int.ofNat_inj, cast1, cast0, TruV, cxOf, Cx.nox, Cx.wish, tNever, tBreak, tCont, ipI, tDIn, tDNotIn, sDPut, tDNewT, tDNewK, tDGet, rSortedPO, rSortedI, rIn, rEqD, rNeD, rInD, rNotInD, tSSet, rIsV, rIntI, rIntB, rAbsN, tLstRg, tRg1, tRg2, List.append_nil, List.nil_append, List.cons_append, Option.some.injEq, exists_eq_left', exists_eq_left, exists_eq_right, exists_eq_right', List.getElem?_cons_zero, List.getElem?_cons_succ, List.set_cons_zero, List.set_cons_succ, List.cons.injEq, and_true, true_and, exists_and_left, exists_and_right, and_assoc, V.int.injEq, V.bl.injEq, V.ref.injEq, V.str.injEq, reduceCtorEq, decide_true, decide_false, Bool.not_true, Bool.not_false, Bool.false_eq_true, if_false, if_true, ite_true, ite_false, List.length_cons, List.length_nil, tRaise, tErr, LamX.tLam, TTe, rSortedIA, rSortedTA, tDisp, tPairs])
      refine ⟨_, .inl ed, fun l bs hl hk => ?_⟩
      have hp2 := prs_keys hk
      have sl : Same H' (upd H' l (.lst (bs.map .ref))) := same_new hl
      refine ⟨_, .of upd_same, dec (upd H' l (.lst (bs.map .ref))), fun y hy => ?_, fun ys t hsrt hstb ht => ?_⟩
      · obtain ⟨i, hi⟩ := List.mem_iff_getElem?.mp hy
        obtain ⟨p, b, _, rfl, eb⟩ := Prs.at hp2 hi
        refine ⟨b, rfl, ?_⟩
        rw [dec_of (sl _ _ eb)]
        exact sl _ _ eb
      · have hq2 := sort_prs (hp2.same sl) hstb.perm
        refine ⟨_, .inl ⟨.of upd_same, fun r hr => q _ r ys (decs (upd H' l (.lst (bs.map .ref))) ys) ?_ ?_ upd_same ?_ hq2.2 ?_⟩⟩
        · exact ((sm.trans sl).trans (same_new ht)).trans (same_new hr)
        · exact ((sm.trans sl).trans (same_new ht)).free hr
        · exact (hq2.1.same (same_new ht)).same (same_new hr)
        · exact sort_lex hq2.1 hsrt
end
end Kr
namespace Kr
open PySem PySem.Spec PyProof.Rows L2 Kb
section
variable {P : Program} {w : World} {K : PySem.W.Frag} {mg : Str → Option Value} {base : Heap}
theorem Prs.upd {H : Hp} {xs : List V} {ps : List NP} {k : Addr} {o : HO} (h : Prs H xs ps) (hk : ∀ ys, H k ≠ some (.tup ys)) : Prs (upd H k o) xs ps :=
  Paired.mapP h fun _ _ ⟨a, e1, e2⟩ => ⟨a, e1, by rw [upd_ne (fun z => hk _ (z ▸ e2))]; exact e2⟩
theorem Prs.snoc {H : Hp} : ∀ {xs : List V} {ps : List NP} {y : V} {p : NP}, Prs H xs ps → (∃ a, y = .ref a ∧ H a = some (.tup [nv p.1, nv p.2])) → Prs H (xs ++ [y]) (ps ++ [p])
  | _, _, _, _, .nil, h => .cons h .nil
  | _, _, _, _, .cons a t, h => .cons a (Prs.snoc t h)
/-- the Keys at k -/
def KeysAt (C : Addr) (H : Hp) (k : Addr) (n : Nat) (qs : List NP) : Prop := ∃ dx t ys, H k = some (.ins C dx [("many", nv n), ("clashes", .ref t)]) ∧ H t = some (.tup ys) ∧ Prs H ys qs
theorem KeysAt.same {C : Addr} {H H' : Hp} {k : Addr} {n : Nat} {qs : List NP} (e : Same H H') (h : KeysAt C H k n qs) : KeysAt C H' k n qs := by
  obtain ⟨dx, t, ys, h1, h2, h3⟩ := h
  exact ⟨dx, t, ys, e _ _ h1, e _ _ h2, h3.same e⟩
def sp_Keys_init (C : Addr) (K : PySem.W.Frag) : Sp := fun vs H Q _ => ∃ k dx a xs ps n, vs = [.ref k, nv n, .ref a] ∧ H k = some (.ins C dx []) ∧ (1 ≤ n ∧ n ≤ 12) ∧ Seq K H a xs ∧ Prs H xs ps ∧ GoodPairs n ps ∧ ps.length ≤ 1000 ∧
  ∀ H' qs, (∀ b o, b ≠ k → H b = some o → H' b = some o) → KeysAt C H' k n qs → qs.Perm ps → qs.Pairwise lexle → Q .non H'
theorem ok_Keys___init__ (T : Tx P K mg) : FnOk P w K mg base CX0 4 T.a_Keys___init__ T.d_Keys___init__ ["self", "many", "clashes"] (sp_Keys_init T.c_Keys K) := by
  refine T.F_Keys___init__.ok sc_Keys___init__ (fun vs H Q E h => ?_) (fun cdv A outer s H vs Q E hr h => ?_)
  · obtain ⟨k, dx, a, xs, ps, n, rfl, _⟩ := h
    rfl
  · obtain ⟨k, dx, a, xs, ps, n, rfl, hk, ⟨n1, n2⟩, hs, hp, hg, hz, q⟩ := h
    refine ⟨_, (pss_cons (ps_expr (pe_call (ok_need_count T) (hr.mono (by decide)) (by rfl) T.g_need_count T.F_need_count.kp T.b_need_count .nil pass0 (pa_cons (pv 1) (pa_cons pe_int (pa_cons (pe_globI rfl T.g_MOST_KEYS) pa_nil)))))
      (pss_cons (ps_fld (pv 0) (pv 1) rfl)
      (pss_one (ps_fld (pv 0) (pe_call (ok_told_clashes T) (hr.mono (by decide)) (by rfl) T.g_told_clashes T.F_told_clashes.kp T.b_told_clashes .nil pass0 (pa_cons (pv 2) (pa_cons (pv 1) pa_nil))) rfl)))), ?_⟩
    rw [show L2.start ["self", "many", "clashes"] [.ref k, nv n, .ref a] = [some (.ref k), some (nv n), some (.ref a)] from rfl]
    (try simp only [tVar, tC, tOp, tUn, rI, rI0, rU, rEq, rNe, scal, tTest, tB, tAnd, tOr, tNot, tAndV, tOrV, tNotV, tIf, tChain, tNil, tCons, tCB, tCall, tTup, tLst, tRet, tRetN, tDrop, tSeq, tNext, tIfS, tAsg, gName, tPar, tPar3, gNil, gCons, gTup, gSub, tAug, tSl, tNoPart, tPart, tBM, tBM0, tYes, tIsP, iSeq, iEnumA, RZ.iZipA, iRng1, iRng2, iList, iTup, rIsi, rIsB, rIxL, rIxT, rIxA, rLenA, rListOf, rTupOf, rSetL, rSlL, rCat, rAppend, tFld, sFld, tMake, tBits, Int.ofNat_inj, cast1, cast0, TruV, cxOf, Cx.nox, Cx.wish, tNever, tBreak, tCont, ipI, tDIn, tDNotIn, sDPut, tDNewT, tDNewK, tDGet, rSortedPO, rSortedI, rIn, rEqD, rNeD, rInD, rNotInD, tSSet, rIsV, rIntI, rIntB, rAbsN, tLstRg, tRg1, tRg2, List.append_nil, List.nil_append, List.cons_append, Option.some.injEq, exists_eq_left', exists_eq_left, exists_eq_right, exists_eq_right', List.getElem?_cons_zero, List.getElem?_cons_succ, List.set_cons_zero, List.set_cons_succ, List.cons.injEq, and_true, true_and, exists_and_left, exists_and_right, and_assoc, V.int.injEq, V.bl.injEq, V.ref.injEq, V.str.injEq, reduceCtorEq, decide_true, decide_false, Bool.not_true, Bool.not_false, Bool.false_eq_true, if_false, if_true, ite_true, ite_false, List.length_cons, List.length_nil, tRaise, tErr, LamX.tLam, TTe, rSortedIA, rSortedTA, tDisp, tPairs])
    refine ⟨_, _, _, rfl, ⟨by omega, by omega⟩, ?_⟩
    (try simp only [tVar, tC, tOp, tUn, rI, rI0, rU, rEq, rNe, scal, tTest, tB, tAnd, tOr, tNot, tAndV, tOrV, tNotV, tIf, tChain, tNil, tCons, tCB, tCall, tTup, tLst, tRet, tRetN, tDrop, tSeq, tNext, tIfS, tAsg, gName, tPar, tPar3, gNil, gCons, gTup, gSub, tAug, tSl, tNoPart, tPart, tBM, tBM0, tYes, tIsP, iSeq, iEnumA, RZ.iZipA, iRng1, iRng2, iList, iTup, rIsi, rIsB, rIxL, rIxT, rIxA, rLenA, rListOf, rTupOf, rSetL, rSlL, rCat, rAppend, tFld, sFld, tMake, tBits, Int.ofNat_inj, cast1, cast0, TruV, cxOf, Cx.nox, Cx.wish, tNever, tBreak, tCont, ipI, tDIn, tDNotIn, sDPut, tDNewT, tDNewK, tDGet, rSortedPO, rSortedI, rIn, rEqD, rNeD, rInD, rNotInD, tSSet, rIsV, rIntI, rIntB, rAbsN, tLstRg, tRg1, tRg2, List.append_nil, List.nil_append, List.cons_append, Option.some.injEq, exists_eq_left', exists_eq_left, exists_eq_right, exists_eq_right', List.getElem?_cons_zero, List.getElem?_cons_succ, List.set_cons_zero, List.set_cons_succ, List.cons.injEq, and_true, true_and, exists_and_left, exists_and_right, and_assoc, V.int.injEq, V.bl.injEq, V.ref.injEq, V.str.injEq, reduceCtorEq, decide_true, decide_false, Bool.not_true, Bool.not_false, Bool.false_eq_true, if_false, if_true, ite_true, ite_false, List.length_cons, List.length_nil, tRaise, tErr, LamX.tLam, TTe, rSortedIA, rSortedTA, tDisp, tPairs])
    refine ⟨_, _, _, hk, T.cl_Keys, T.na_many, by decide, ?_⟩
    (try simp only [tVar, tC, tOp, tUn, rI, rI0, rU, rEq, rNe, scal, tTest, tB, tAnd, tOr, tNot, tAndV, tOrV, tNotV, tIf, tChain, tNil, tCons, tCB, tCall, tTup, tLst, tRet, tRetN, tDrop, tSeq, tNext, tIfS, tAsg, gName, tPar, tPar3, gNil, gCons, gTup, gSub, tAug, tSl, tNoPart, tPart, tBM, tBM0, tYes, tIsP, iSeq, iEnumA, RZ.iZipA, iRng1, iRng2, iList, iTup, rIsi, rIsB, rIxL, rIxT, rIxA, rLenA, rListOf, rTupOf, rSetL, rSlL, rCat, rAppend, tFld, sFld, tMake, tBits, Int.ofNat_inj, cast1, cast0, TruV, cxOf, Cx.nox, Cx.wish, tNever, tBreak, tCont, ipI, tDIn, tDNotIn, sDPut, tDNewT, tDNewK, tDGet, rSortedPO, rSortedI, rIn, rEqD, rNeD, rInD, rNotInD, tSSet, rIsV, rIntI, rIntB, rAbsN, tLstRg, tRg1, tRg2, List.append_nil, List.nil_append, List.cons_append, Option.some.injEq, exists_eq_left', exists_eq_left, exists_eq_right, exists_eq_right', List.getElem?_cons_zero, List.getElem?_cons_succ, List.set_cons_zero, List.set_cons_succ, List.cons.injEq, and_true, true_and, exists_and_left, exists_and_right, and_assoc, V.int.injEq, V.bl.injEq, V.ref.injEq, V.str.injEq, reduceCtorEq, decide_true, decide_false, Bool.not_true, Bool.not_false, Bool.false_eq_true, if_false, if_true, ite_true, ite_false, List.length_cons, List.length_nil, tRaise, tErr, LamX.tLam, TTe, rSortedIA, rSortedTA, tDisp, tPairs])
    have ne : ∀ ys, H k ≠ some (.tup ys) := fun ys e => by rw [hk] at e; cases e
    have hs1 : Seq K (upd H k (.ins T.c_Keys dx (putF "many" (nv n) []))) a xs := by
      rcases hs with hs | hs
      · refine .inl ?_
        rcases hs with (hs | ⟨o, hs⟩) | hs
        · exact .inl (.inl (by rw [upd_ne (fun z => by rw [z, hk] at hs; cases hs)]; exact hs))
        · exact .inl (.inr ⟨o, by rw [upd_ne (fun z => by rw [z, hk] at hs; cases hs)]; exact hs⟩)
        · exact .inr hs
      · refine .inr ?_
        rcases hs with (hs | ⟨o, hs⟩) | hs
        · exact .inl (.inl (by rw [upd_ne (fun z => by rw [z, hk] at hs; cases hs)]; exact hs))
        · exact .inl (.inr ⟨o, by rw [upd_ne (fun z => by rw [z, hk] at hs; cases hs)]; exact hs⟩)
        · exact .inr hs
    refine ⟨_, _, _, _, rfl, hs1, hp.upd ne, hg, hz, fun H' t ys qs sm ht et hq hperm hsrt => ?_⟩
    have hk2 := sm _ _ (upd_same (H := H) (a := k) (o := .ins T.c_Keys dx (putF "many" (nv n) [])))
    refine ⟨_, _, _, hk2, T.cl_Keys, T.na_clashes, (show (1 : Nat) < 1000 by decide), ?_⟩
    refine q _ qs (fun b o hb e => ?_) ⟨dx, t, ys, upd_same, ?_, ?_⟩ hperm hsrt
    · rw [upd_ne hb]
      exact sm _ _ (by rw [upd_ne hb]; exact e)
    · rw [upd_ne (fun z => by rw [z, hk2] at et; cases et)]
      exact et
    · exact hq.upd fun ys e => by rw [hk2] at e; cases e
def sp_need_keys (C : Addr) : Sp := fun vs H Q _ => ∃ k dx fs, vs = [.ref k] ∧ H k = some (.ins C dx fs) ∧ Q .non H
theorem ok_need_keys (T : Tx P K mg) : FnOk P w K mg base CX0 1 T.a_need_keys T.d_need_keys ["value"] (sp_need_keys T.c_Keys) := by
  refine T.F_need_keys.ok sc_need_keys (fun vs H Q E h => ?_) (fun cdv A outer s H vs Q E hr h => ?_)
  · obtain ⟨k, dx, fs, rfl, _⟩ := h
    rfl
  · obtain ⟨k, dx, fs, rfl, hk, q⟩ := h
    refine ⟨_, (pss_one (ps_if (pt_not (pt_val (pe_callB (C8.call_isC T.ic_Keys) (by rfl) T.n_isinstance (by decide +kernel) (pa_cons (pv 0) (pa_cons (pe_glob (v := .ref T.c_Keys) rfl T.g_Keys rfl) pa_nil))))) (pss_one ps_never) pss_nil)), ?_⟩
    rw [show L2.start ["value"] [.ref k] = [some (.ref k)] from rfl]
    (try simp only [tVar, tC, tOp, tUn, rI, rI0, rU, rEq, rNe, scal, tTest, tB, tAnd, tOr, tNot, tAndV, tOrV, tNotV, tIf, tChain, tNil, tCons, tCB, tCall, tTup, tLst, tRet, tRetN, tDrop, tSeq, tNext, tIfS, tAsg, gName, tPar, tPar3, gNil, gCons, gTup, gSub, tAug, tSl, tNoPart, tPart, tBM, tBM0, tYes, tIsP, iSeq, iEnumA, RZ.iZipA, iRng1, iRng2, iList, iTup, rIsi, rIsB, rIxL, rIxT, rIxA, rLenA, rListOf, rTupOf, rSetL, rSlL, rCat, rAppend, tFld, sFld, tMake, tBits, Int.ofNat_inj, cast1, cast0, TruV, cxOf, Cx.nox, Cx.wish, tNever, tBreak, tCont, ipI, tDIn, tDNotIn, sDPut, tDNewT, tDNewK, tDGet, rSortedPO, rSortedI, rIn, rEqD, rNeD, rInD, rNotInD, tSSet, rIsV, rIntI, rIntB, rAbsN, tLstRg, tRg1, tRg2, List.append_nil, List.nil_append, List.cons_append, Option.some.injEq, exists_eq_left', exists_eq_left, exists_eq_right, exists_eq_right', List.getElem?_cons_zero, List.getElem?_cons_succ, List.set_cons_zero, List.set_cons_succ, List.cons.injEq, and_true, true_and, exists_and_left, exists_and_right, and_assoc, V.int.injEq, V.bl.injEq, V.ref.injEq, V.str.injEq, reduceCtorEq, decide_true, decide_false, Bool.not_true, Bool.not_false, Bool.false_eq_true, if_false, if_true, ite_true, ite_false, List.length_cons, List.length_nil, tRaise, tErr, LamX.tLam, TTe, rSortedIA, rSortedTA, tDisp, tPairs])
    exact ⟨⟨_, _, hk⟩, q⟩
def sp_need_key (K : PySem.W.Frag) : Sp := fun vs H Q _ => ∃ k n : Nat, vs = [nv k, nv n] ∧ k < n ∧ Q .non H
theorem ok_need_key (T : Tx P K mg) : FnOk P w K mg base CX0 3 T.a_need_key T.d_need_key ["value", "many"] (sp_need_key K) := by
  refine T.F_need_key.ok sc_need_key (fun vs H Q E h => ?_) (fun cdv A outer s H vs Q E hr h => ?_)
  · obtain ⟨k, n, rfl, _⟩ := h
    rfl
  · obtain ⟨k, n, rfl, hk, q⟩ := h
    refine ⟨_, (pss_one (ps_if (pt_not (pt_val (pe_call (ok_is_below T) (hr.mono (by decide)) (by rfl) T.g_is_below T.F_is_below.kp T.b_is_below .nil pass0 (pa_cons (pv 0) (pa_cons (pv 1) pa_nil))))) (pss_one ps_never) pss_nil)), ?_⟩
    rw [show L2.start ["value", "many"] [nv k, nv n] = [some (nv k), some (nv n)] from rfl]
    (try simp only [tVar, tC, tOp, tUn, rI, rI0, rU, rEq, rNe, scal, tTest, tB, tAnd, tOr, tNot, tAndV, tOrV, tNotV, tIf, tChain, tNil, tCons, tCB, tCall, tTup, tLst, tRet, tRetN, tDrop, tSeq, tNext, tIfS, tAsg, gName, tPar, tPar3, gNil, gCons, gTup, gSub, tAug, tSl, tNoPart, tPart, tBM, tBM0, tYes, tIsP, iSeq, iEnumA, RZ.iZipA, iRng1, iRng2, iList, iTup, rIsi, rIsB, rIxL, rIxT, rIxA, rLenA, rListOf, rTupOf, rSetL, rSlL, rCat, rAppend, tFld, sFld, tMake, tBits, Int.ofNat_inj, cast1, cast0, TruV, cxOf, Cx.nox, Cx.wish, tNever, tBreak, tCont, ipI, tDIn, tDNotIn, sDPut, tDNewT, tDNewK, tDGet, rSortedPO, rSortedI, rIn, rEqD, rNeD, rInD, rNotInD, tSSet, rIsV, rIntI, rIntB, rAbsN, tLstRg, tRg1, tRg2, List.append_nil, List.nil_append, List.cons_append, Option.some.injEq, exists_eq_left', exists_eq_left, exists_eq_right, exists_eq_right', List.getElem?_cons_zero, List.getElem?_cons_succ, List.set_cons_zero, List.set_cons_succ, List.cons.injEq, and_true, true_and, exists_and_left, exists_and_right, and_assoc, V.int.injEq, V.bl.injEq, V.ref.injEq, V.str.injEq, reduceCtorEq, decide_true, decide_false, Bool.not_true, Bool.not_false, Bool.false_eq_true, if_false, if_true, ite_true, ite_false, List.length_cons, List.length_nil, tRaise, tErr, LamX.tLam, TTe, rSortedIA, rSortedTA, tDisp, tPairs])
    refine below_n hk ?_
    (try simp only [tVar, tC, tOp, tUn, rI, rI0, rU, rEq, rNe, scal, tTest, tB, tAnd, tOr, tNot, tAndV, tOrV, tNotV, tIf, tChain, tNil, tCons, tCB, tCall, tTup, tLst, tRet, tRetN, tDrop, tSeq, tNext, tIfS, tAsg, gName, tPar, tPar3, gNil, gCons, gTup, gSub, tAug, tSl, tNoPart, tPart, tBM, tBM0, tYes, tIsP, iSeq, iEnumA, RZ.iZipA, iRng1, iRng2, iList, iTup, rIsi, rIsB, rIxL, rIxT, rIxA, rLenA, rListOf, rTupOf, rSetL, rSlL, rCat, rAppend, tFld, sFld, tMake, tBits, Int.ofNat_inj, cast1, cast0, TruV, cxOf, Cx.nox, Cx.wish, tNever, tBreak, tCont, ipI, tDIn, tDNotIn, sDPut, tDNewT, tDNewK, tDGet, rSortedPO, rSortedI, rIn, rEqD, rNeD, rInD, rNotInD, tSSet, rIsV, rIntI, rIntB, rAbsN, tLstRg, tRg1, tRg2, List.append_nil, List.nil_append, List.cons_append, Option.some.injEq, exists_eq_left', exists_eq_left, exists_eq_right, exists_eq_right', List.getElem?_cons_zero, List.getElem?_cons_succ, List.set_cons_zero, List.set_cons_succ, List.cons.injEq, and_true, true_and, exists_and_left, exists_and_right, and_assoc, V.int.injEq, V.bl.injEq, V.ref.injEq, V.str.injEq, reduceCtorEq, decide_true, decide_false, Bool.not_true, Bool.not_false, Bool.false_eq_true, if_false, if_true, ite_true, ite_false, List.length_cons, List.length_nil, tRaise, tErr, LamX.tLam, TTe, rSortedIA, rSortedTA, tDisp, tPairs])
    exact q
def sp_lot_wrong (K : PySem.W.Frag) : Sp := fun vs H Q _ => ∃ a ns n, vs = [.ref a, nv n] ∧ Seq K H a (nvs ns) ∧ (ns.Nodup ∧ ∀ k ∈ ns, k < n) ∧ ns.length ≤ 1000 ∧ ∀ H', Same H H' → Q (.int (-1)) H'
def sp_need_lot (K : PySem.W.Frag) : Sp := fun vs H Q _ => ∃ a ns n, vs = [.ref a, nv n] ∧ Seq K H a (nvs ns) ∧ (ns.Nodup ∧ ∀ k ∈ ns, k < n) ∧ ns.length ≤ 1000 ∧ n ≤ 64 ∧ ∀ H', Same H H' → Q (nv (maskOf ns)) H'
/-! ### what is near -/
def nstep (l : List Nat) (p : NP) : List Nat := (l.set p.1 (l.getD p.1 0 ||| 1 <<< p.2)).set p.2 ((l.set p.1 (l.getD p.1 0 ||| 1 <<< p.2)).getD p.2 0 ||| 1 <<< p.1)
def nearM (n : Nat) (qs : List NP) : List Nat := qs.foldl nstep (List.replicate n 0)
theorem nstep_len (l : List Nat) (p : NP) : (nstep l p).length = l.length := by
  unfold nstep
  rw [List.length_set, List.length_set]
theorem near_len (n : Nat) (qs : List NP) : (nearM n qs).length = n := by
  have : ∀ (qs : List NP) (l : List Nat), (qs.foldl nstep l).length = l.length := by
    intro qs
    induction qs with
    | nil => intro l; rfl
    | cons q r ih => intro l; rw [List.foldl_cons, ih, nstep_len]
  unfold nearM
  rw [this, List.length_replicate]
theorem near_take {n : Nat} {qs : List NP} {i : Nat} {p : NP} (h : qs[i]? = some p) : nearM n (qs.take (i + 1)) = nstep (nearM n (qs.take i)) p := by
  unfold nearM
  rw [List.take_add_one, h, List.foldl_append]
  rfl
theorem nvs_ix {l : List Nat} {k : Nat} (h : k < l.length) : atI (nvs l) (k : Int) = some (nv (l.getD k 0)) := by
  refine atI_nat ?_
  rw [List.getElem?_map, List.getElem?_eq_getElem h, List.getD_eq_getElem?_getD, List.getElem?_eq_getElem h]
  rfl
theorem ix_n {l : List Nat} {k : Nat} (h : k < l.length) : ixN (nvs l).length (k : Int) = some k := by
  unfold ixN
  rw [List.length_map, if_pos (Int.natCast_nonneg k), if_pos (Int.ofNat_lt.mpr h), Int.toNat_natCast]
theorem nvs_set (l : List Nat) (k v : Nat) : (nvs l).set k (nv v) = nvs (l.set k v) := (List.map_set ..).symm
def sp_near_masks (C : Addr) : Sp := fun vs H Q _ => ∃ k n qs, vs = [.ref k] ∧ KeysAt C H k n qs ∧ n ≤ 12 ∧ (∀ p ∈ qs, p.1 ≤ p.2 ∧ p.2 < n) ∧ ∀ H' p, Same H H' → H p = none → H' p = some (.lst (nvs (nearM n qs))) → Q (.ref p) H'
theorem mono_near_masks {C : Addr} : Mono (sp_near_masks C) := by
  rintro vs H Q Q' E m ⟨k, n, qs, h1, h2, h3, h4, q⟩
  exact ⟨k, n, qs, h1, h2, h3, h4, fun H' p a b c => m _ _ (q H' p a b c)⟩
theorem ok_near_masks (T : Tx P K mg) : FnOk P w K mg base CX0 1 T.a_near_masks T.d_near_masks ["keys"] (sp_near_masks T.c_Keys) := by
  refine T.F_near_masks.ok sc_near_masks (fun vs H Q E h => ?_) (fun cdv A outer s H vs Q E hr h => ?_)
  · obtain ⟨k, n, qs, rfl, _⟩ := h
    rfl
  · obtain ⟨k, n, qs, rfl, hk, h12, hg, q⟩ := h
    refine ⟨_, (pss_cons (ps_setLc (i := 1) (own := [("_", 2)]) rfl sc_near_masks.nd rfl rfl (sw_true rfl rfl rfl (by decide +kernel)) (pi_range1 (by rfl) T.n_range (pa_cons (fldK (K := K) rfl (pv 0) rfl) pa_nil)) (blkOk_by (own := [("_", 2)]) (N := ["keys", "near", "_", "one", "other"]) (sc := defScope s_near_masks) (by decide +kernel)) (fun _ _ _ _ _ => (pg_name (i := 2) sc_near_masks.nd rfl (by first | exact Or.inl rfl | exact Or.inr rfl))) (fun _ _ _ _ _ => pts_nil) (fun _ _ _ _ _ => pe_int))
      (pss_cons (ps_for PassesOwn.never rfl (pseqK (K := K) rfl (fldK (K := K) rfl (pv 0) rfl)) (gtupK (K := K) (n := 2) rfl (by rfl) (pgs_cons (pg_name (i := 3) sc_near_masks.nd rfl (Or.inl rfl)) (pgs_cons (pg_name (i := 4) sc_near_masks.nd rfl (Or.inl rfl)) pgs_nil))) (pss_cons (ps_asg (pe_op op_orU (pe_ix (ixL (K := K) rfl) (pv 1) (pv 3) (fun _ _ => rfl)) (pe_op op_shlU pe_int (pv 4))) (pg_sub (pv 1) (pv 3) set_list))
      (pss_one (ps_asg (pe_op op_orU (pe_ix (ixL (K := K) rfl) (pv 1) (pv 4) (fun _ _ => rfl)) (pe_op op_shlU pe_int (pv 3))) (pg_sub (pv 1) (pv 4) set_list)))))
      (pss_one (ps_ret (pv 1))))), ?_⟩
    rw [show L2.start ["keys", "near", "_", "one", "other"] [.ref k] = [some (.ref k), none, none, none, none] from rfl]
    generalize hL1 : tLc _ _ _ _ _ = L1
    generalize hF1 : tFor _ _ _ = F1
    (try simp only [tVar, tC, tOp, tUn, rI, rI0, rU, rEq, rNe, scal, tTest, tB, tAnd, tOr, tNot, tAndV, tOrV, tNotV, tIf, tChain, tNil, tCons, tCB, tCall, tTup, tLst, tRet, tRetN, tDrop, tSeq, tNext, tIfS, tAsg, gName, tPar, tPar3, gNil, gCons, gTup, gSub, tAug, tSl, tNoPart, tPart, tBM, tBM0, tYes, tIsP, iSeq, iEnumA, RZ.iZipA, iRng1, iRng2, iList, iTup, rIsi, rIsB, rIxL, rIxT, rIxA, rLenA, rListOf, rTupOf, rSetL, rSlL, rCat, rAppend, tFld, sFld, tMake, tBits, Int.ofNat_inj, cast1, cast0, TruV, cxOf, Cx.nox, Cx.wish, tNever, tBreak, tCont, ipI, tDIn, tDNotIn, sDPut, tDNewT, tDNewK, tDGet, rSortedPO, rSortedI, rIn, rEqD, rNeD, rInD, rNotInD, tSSet, rIsV, rIntI, rIntB, rAbsN, tLstRg, tRg1, tRg2, List.append_nil, List.nil_append, List.cons_append, Option.some.injEq, exists_eq_left', exists_eq_left, exists_eq_right, exists_eq_right', List.getElem?_cons_zero, List.getElem?_cons_succ, List.set_cons_zero, List.set_cons_succ, List.cons.injEq, and_true, true_and, exists_and_left, exists_and_right, and_assoc, V.int.injEq, V.bl.injEq, V.ref.injEq, V.str.injEq, reduceCtorEq, decide_true, decide_false, Bool.not_true, Bool.not_false, Bool.false_eq_true, if_false, if_true, ite_true, ite_false, List.length_cons, List.length_nil, tRaise, tErr, LamX.tLam, TTe, rSortedIA, rSortedTA, tDisp, tPairs])
    subst hL1
    obtain ⟨dx, t, ys, ek, et, hp⟩ := id hk
    refine lcR1 n (fun _ => true) (fun _ => nv 0) (fun R h => ?_) (by omega) (fun i H' Q1 Q2 hi e q1 q2 => ?_) fun L hL => ?_
    · (try simp only [tVar, tC, tOp, tUn, rI, rI0, rU, rEq, rNe, scal, tTest, tB, tAnd, tOr, tNot, tAndV, tOrV, tNotV, tIf, tChain, tNil, tCons, tCB, tCall, tTup, tLst, tRet, tRetN, tDrop, tSeq, tNext, tIfS, tAsg, gName, tPar, tPar3, gNil, gCons, gTup, gSub, tAug, tSl, tNoPart, tPart, tBM, tBM0, tYes, tIsP, iSeq, iEnumA, RZ.iZipA, iRng1, iRng2, iList, iTup, rIsi, rIsB, rIxL, rIxT, rIxA, rLenA, rListOf, rTupOf, rSetL, rSlL, rCat, rAppend, tFld, sFld, tMake, tBits, Int.ofNat_inj, cast1, cast0, TruV, cxOf, Cx.nox, Cx.wish, tNever, tBreak, tCont, ipI, tDIn, tDNotIn, sDPut, tDNewT, tDNewK, tDGet, rSortedPO, rSortedI, rIn, rEqD, rNeD, rInD, rNotInD, tSSet, rIsV, rIntI, rIntB, rAbsN, tLstRg, tRg1, tRg2, List.append_nil, List.nil_append, List.cons_append, Option.some.injEq, exists_eq_left', exists_eq_left, exists_eq_right, exists_eq_right', List.getElem?_cons_zero, List.getElem?_cons_succ, List.set_cons_zero, List.set_cons_succ, List.cons.injEq, and_true, true_and, exists_and_left, exists_and_right, and_assoc, V.int.injEq, V.bl.injEq, V.ref.injEq, V.str.injEq, reduceCtorEq, decide_true, decide_false, Bool.not_true, Bool.not_false, Bool.false_eq_true, if_false, if_true, ite_true, ite_false, List.length_cons, List.length_nil, tRaise, tErr, LamX.tLam, TTe, rSortedIA, rSortedTA, tDisp, tPairs])
      exact ⟨_, _, _, ek, T.cl_Keys, T.na_many, _, rfl, h⟩
    · (try simp only [tVar, tC, tOp, tUn, rI, rI0, rU, rEq, rNe, scal, tTest, tB, tAnd, tOr, tNot, tAndV, tOrV, tNotV, tIf, tChain, tNil, tCons, tCB, tCall, tTup, tLst, tRet, tRetN, tDrop, tSeq, tNext, tIfS, tAsg, gName, tPar, tPar3, gNil, gCons, gTup, gSub, tAug, tSl, tNoPart, tPart, tBM, tBM0, tYes, tIsP, iSeq, iEnumA, RZ.iZipA, iRng1, iRng2, iList, iTup, rIsi, rIsB, rIxL, rIxT, rIxA, rLenA, rListOf, rTupOf, rSetL, rSlL, rCat, rAppend, tFld, sFld, tMake, tBits, Int.ofNat_inj, cast1, cast0, TruV, cxOf, Cx.nox, Cx.wish, tNever, tBreak, tCont, ipI, tDIn, tDNotIn, sDPut, tDNewT, tDNewK, tDGet, rSortedPO, rSortedI, rIn, rEqD, rNeD, rInD, rNotInD, tSSet, rIsV, rIntI, rIntB, rAbsN, tLstRg, tRg1, tRg2, List.append_nil, List.nil_append, List.cons_append, Option.some.injEq, exists_eq_left', exists_eq_left, exists_eq_right, exists_eq_right', List.getElem?_cons_zero, List.getElem?_cons_succ, List.set_cons_zero, List.set_cons_succ, List.cons.injEq, and_true, true_and, exists_and_left, exists_and_right, and_assoc, V.int.injEq, V.bl.injEq, V.ref.injEq, V.str.injEq, reduceCtorEq, decide_true, decide_false, Bool.not_true, Bool.not_false, Bool.false_eq_true, if_false, if_true, ite_true, ite_false, List.length_cons, List.length_nil, tRaise, tErr, LamX.tLam, TTe, rSortedIA, rSortedTA, tDisp, tPairs])
      exact q1 rfl
    · (try simp only [tVar, tC, tOp, tUn, rI, rI0, rU, rEq, rNe, scal, tTest, tB, tAnd, tOr, tNot, tAndV, tOrV, tNotV, tIf, tChain, tNil, tCons, tCB, tCall, tTup, tLst, tRet, tRetN, tDrop, tSeq, tNext, tIfS, tAsg, gName, tPar, tPar3, gNil, gCons, gTup, gSub, tAug, tSl, tNoPart, tPart, tBM, tBM0, tYes, tIsP, iSeq, iEnumA, RZ.iZipA, iRng1, iRng2, iList, iTup, rIsi, rIsB, rIxL, rIxT, rIxA, rLenA, rListOf, rTupOf, rSetL, rSlL, rCat, rAppend, tFld, sFld, tMake, tBits, Int.ofNat_inj, cast1, cast0, TruV, cxOf, Cx.nox, Cx.wish, tNever, tBreak, tCont, ipI, tDIn, tDNotIn, sDPut, tDNewT, tDNewK, tDGet, rSortedPO, rSortedI, rIn, rEqD, rNeD, rInD, rNotInD, tSSet, rIsV, rIntI, rIntB, rAbsN, tLstRg, tRg1, tRg2, List.append_nil, List.nil_append, List.cons_append, Option.some.injEq, exists_eq_left', exists_eq_left, exists_eq_right, exists_eq_right', List.getElem?_cons_zero, List.getElem?_cons_succ, List.set_cons_zero, List.set_cons_succ, List.cons.injEq, and_true, true_and, exists_and_left, exists_and_right, and_assoc, V.int.injEq, V.bl.injEq, V.ref.injEq, V.str.injEq, reduceCtorEq, decide_true, decide_false, Bool.not_true, Bool.not_false, Bool.false_eq_true, if_false, if_true, ite_true, ite_false, List.length_cons, List.length_nil, tRaise, tErr, LamX.tLam, TTe, rSortedIA, rSortedTA, tDisp, tPairs])
      have sL : Same H (upd H L (.lst (((List.range n).filter fun _ => true).map fun _ => nv 0))) := same_new hL
      have e0 : ((List.range n).filter fun _ => true).map (fun _ => nv 0) = nvs (nearM n []) := by
        rw [List.filter_eq_self.mpr fun _ _ => rfl]
        unfold nearM
        rw [List.foldl_nil, List.map_const', List.length_range]
        exact (List.map_replicate ..).symm
      rw [e0] at sL ⊢
      subst hF1
      refine forS t ys (fun i σ' H' => ∃ y2 y3 y4, σ' = [some (.ref k), some (.ref L), y2, y3, y4] ∧ Same H H' ∧ H' L = some (.lst (nvs (nearM n (qs.take i))))) (fun R h => ?_) ⟨_, _, _, rfl, sL, upd_same⟩ H (.inr (.of et)) (fun i σ' H' h => by obtain ⟨_, _, _, _, h, _⟩ := h; exact h) ?_ ?_
      · (try simp only [tVar, tC, tOp, tUn, rI, rI0, rU, rEq, rNe, scal, tTest, tB, tAnd, tOr, tNot, tAndV, tOrV, tNotV, tIf, tChain, tNil, tCons, tCB, tCall, tTup, tLst, tRet, tRetN, tDrop, tSeq, tNext, tIfS, tAsg, gName, tPar, tPar3, gNil, gCons, gTup, gSub, tAug, tSl, tNoPart, tPart, tBM, tBM0, tYes, tIsP, iSeq, iEnumA, RZ.iZipA, iRng1, iRng2, iList, iTup, rIsi, rIsB, rIxL, rIxT, rIxA, rLenA, rListOf, rTupOf, rSetL, rSlL, rCat, rAppend, tFld, sFld, tMake, tBits, Int.ofNat_inj, cast1, cast0, TruV, cxOf, Cx.nox, Cx.wish, tNever, tBreak, tCont, ipI, tDIn, tDNotIn, sDPut, tDNewT, tDNewK, tDGet, rSortedPO, rSortedI, rIn, rEqD, rNeD, rInD, rNotInD, tSSet, rIsV, rIntI, rIntB, rAbsN, tLstRg, tRg1, tRg2, List.append_nil, List.nil_append, List.cons_append, Option.some.injEq, exists_eq_left', exists_eq_left, exists_eq_right, exists_eq_right', List.getElem?_cons_zero, List.getElem?_cons_succ, List.set_cons_zero, List.set_cons_succ, List.cons.injEq, and_true, true_and, exists_and_left, exists_and_right, and_assoc, V.int.injEq, V.bl.injEq, V.ref.injEq, V.str.injEq, reduceCtorEq, decide_true, decide_false, Bool.not_true, Bool.not_false, Bool.false_eq_true, if_false, if_true, ite_true, ite_false, List.length_cons, List.length_nil, tRaise, tErr, LamX.tLam, TTe, rSortedIA, rSortedTA, tDisp, tPairs])
        exact ⟨_, _, _, sL _ _ ek, T.cl_Keys, T.na_clashes, _, rfl, h⟩
      · rintro i x σ' H' hx ⟨y2, y3, y4, rfl, sm, eL⟩
        obtain ⟨p, b, hpi, rfl, eb⟩ := Prs.at hp hx
        have gp := hg p (List.mem_of_getElem? hpi)
        have ln := near_len n (qs.take i)
        (try simp only [tVar, tC, tOp, tUn, rI, rI0, rU, rEq, rNe, scal, tTest, tB, tAnd, tOr, tNot, tAndV, tOrV, tNotV, tIf, tChain, tNil, tCons, tCB, tCall, tTup, tLst, tRet, tRetN, tDrop, tSeq, tNext, tIfS, tAsg, gName, tPar, tPar3, gNil, gCons, gTup, gSub, tAug, tSl, tNoPart, tPart, tBM, tBM0, tYes, tIsP, iSeq, iEnumA, RZ.iZipA, iRng1, iRng2, iList, iTup, rIsi, rIsB, rIxL, rIxT, rIxA, rLenA, rListOf, rTupOf, rSetL, rSlL, rCat, rAppend, tFld, sFld, tMake, tBits, Int.ofNat_inj, cast1, cast0, TruV, cxOf, Cx.nox, Cx.wish, tNever, tBreak, tCont, ipI, tDIn, tDNotIn, sDPut, tDNewT, tDNewK, tDGet, rSortedPO, rSortedI, rIn, rEqD, rNeD, rInD, rNotInD, tSSet, rIsV, rIntI, rIntB, rAbsN, tLstRg, tRg1, tRg2, List.append_nil, List.nil_append, List.cons_append, Option.some.injEq, exists_eq_left', exists_eq_left, exists_eq_right, exists_eq_right', List.getElem?_cons_zero, List.getElem?_cons_succ, List.set_cons_zero, List.set_cons_succ, List.cons.injEq, and_true, true_and, exists_and_left, exists_and_right, and_assoc, V.int.injEq, V.bl.injEq, V.ref.injEq, V.str.injEq, reduceCtorEq, decide_true, decide_false, Bool.not_true, Bool.not_false, Bool.false_eq_true, if_false, if_true, ite_true, ite_false, List.length_cons, List.length_nil, tRaise, tErr, LamX.tLam, TTe, rSortedIA, rSortedTA, tDisp, tPairs])
        refine ⟨_, .of (sm _ _ eb), ?_⟩
        (try simp only [tVar, tC, tOp, tUn, rI, rI0, rU, rEq, rNe, scal, tTest, tB, tAnd, tOr, tNot, tAndV, tOrV, tNotV, tIf, tChain, tNil, tCons, tCB, tCall, tTup, tLst, tRet, tRetN, tDrop, tSeq, tNext, tIfS, tAsg, gName, tPar, tPar3, gNil, gCons, gTup, gSub, tAug, tSl, tNoPart, tPart, tBM, tBM0, tYes, tIsP, iSeq, iEnumA, RZ.iZipA, iRng1, iRng2, iList, iTup, rIsi, rIsB, rIxL, rIxT, rIxA, rLenA, rListOf, rTupOf, rSetL, rSlL, rCat, rAppend, tFld, sFld, tMake, tBits, Int.ofNat_inj, cast1, cast0, TruV, cxOf, Cx.nox, Cx.wish, tNever, tBreak, tCont, ipI, tDIn, tDNotIn, sDPut, tDNewT, tDNewK, tDGet, rSortedPO, rSortedI, rIn, rEqD, rNeD, rInD, rNotInD, tSSet, rIsV, rIntI, rIntB, rAbsN, tLstRg, tRg1, tRg2, List.append_nil, List.nil_append, List.cons_append, Option.some.injEq, exists_eq_left', exists_eq_left, exists_eq_right, exists_eq_right', List.getElem?_cons_zero, List.getElem?_cons_succ, List.set_cons_zero, List.set_cons_succ, List.cons.injEq, and_true, true_and, exists_and_left, exists_and_right, and_assoc, V.int.injEq, V.bl.injEq, V.ref.injEq, V.str.injEq, reduceCtorEq, decide_true, decide_false, Bool.not_true, Bool.not_false, Bool.false_eq_true, if_false, if_true, ite_true, ite_false, List.length_cons, List.length_nil, tRaise, tErr, LamX.tLam, TTe, rSortedIA, rSortedTA, tDisp, tPairs])
        have h1 : p.1 < (nearM n (qs.take i)).length := by omega
        refine ⟨_, .of eL, _, nvs_ix h1, by omega, _, rfl, _, eL, _, ix_n h1, ?_⟩
        rw [nvs_set]
        have h2 : p.2 < ((nearM n (qs.take i)).set p.1 ((nearM n (qs.take i)).getD p.1 0 ||| 1 <<< p.2)).length := by rw [List.length_set]; omega
        refine ⟨_, .of upd_same, _, nvs_ix h2, by omega, _, rfl, _, upd_same, _, ix_n h2, ?_⟩
        rw [nvs_set, upd_upd, near_take hpi]
        refine ⟨fun b o hb => ?_, upd_same⟩
        rw [upd_ne (ne_of_none hb hL)]
        exact sm _ _ hb
      · rintro σ' H' ⟨y2, y3, y4, rfl, sm, eL⟩
        (try simp only [tVar, tC, tOp, tUn, rI, rI0, rU, rEq, rNe, scal, tTest, tB, tAnd, tOr, tNot, tAndV, tOrV, tNotV, tIf, tChain, tNil, tCons, tCB, tCall, tTup, tLst, tRet, tRetN, tDrop, tSeq, tNext, tIfS, tAsg, gName, tPar, tPar3, gNil, gCons, gTup, gSub, tAug, tSl, tNoPart, tPart, tBM, tBM0, tYes, tIsP, iSeq, iEnumA, RZ.iZipA, iRng1, iRng2, iList, iTup, rIsi, rIsB, rIxL, rIxT, rIxA, rLenA, rListOf, rTupOf, rSetL, rSlL, rCat, rAppend, tFld, sFld, tMake, tBits, Int.ofNat_inj, cast1, cast0, TruV, cxOf, Cx.nox, Cx.wish, tNever, tBreak, tCont, ipI, tDIn, tDNotIn, sDPut, tDNewT, tDNewK, tDGet, rSortedPO, rSortedI, rIn, rEqD, rNeD, rInD, rNotInD, tSSet, rIsV, rIntI, rIntB, rAbsN, tLstRg, tRg1, tRg2, List.append_nil, List.nil_append, List.cons_append, Option.some.injEq, exists_eq_left', exists_eq_left, exists_eq_right, exists_eq_right', List.getElem?_cons_zero, List.getElem?_cons_succ, List.set_cons_zero, List.set_cons_succ, List.cons.injEq, and_true, true_and, exists_and_left, exists_and_right, and_assoc, V.int.injEq, V.bl.injEq, V.ref.injEq, V.str.injEq, reduceCtorEq, decide_true, decide_false, Bool.not_true, Bool.not_false, Bool.false_eq_true, if_false, if_true, ite_true, ite_false, List.length_cons, List.length_nil, tRaise, tErr, LamX.tLam, TTe, rSortedIA, rSortedTA, tDisp, tPairs])
        rw [hp.len, List.take_length] at eL
        exact q H' L sm hL eL
/-- what is near some key of the mask -/
def nearOf (near : List Nat) (m : Nat) : Nat := (bits m).foldl (fun f k => f ||| near.getD k 0) 0
theorem mono_lot_of : Mono (sp_lot_of K) := by
  rintro vs H Q Q' E m ⟨k, h1, h2, q⟩
  exact ⟨k, h1, h2, fun H' p a b c => m _ _ (q H' p a b c)⟩
def sp_near_of (K : PySem.W.Frag) : Sp := fun vs H Q _ => ∃ a near m, vs = [.ref a, nv m] ∧ SqL K H a (nvs near) ∧ near.length ≤ 62 ∧ m < 2 ^ near.length ∧ ∀ H', Same H H' → Q (nv (nearOf near m)) H'
theorem ok_near_of (T : Tx P K mg) : FnOk P w K mg base CX0 2 T.a_near_of T.d_near_of ["near", "mask"] (sp_near_of K) := by
  refine T.F_near_of.ok sc_near_of (fun vs H Q E h => ?_) (fun cdv A outer s H vs Q E hr h => ?_)
  · obtain ⟨a, near, m, rfl, _⟩ := h
    rfl
  · obtain ⟨a, near, m, rfl, hs, h62, hm, q⟩ := h
    refine ⟨_, (pss_cons (ps_set (i := 2) sc_near_of.nd rfl (Or.inl rfl) pe_int)
      (pss_cons (ps_for PassesOwn.never rfl (pseqK (K := K) rfl (pe_call (ok_lot_of T) (hr.mono (by decide)) (by rfl) T.g_lot_of T.F_lot_of.kp T.b_lot_of .nil pass0 (pa_cons (pv 1) pa_nil))) (pg_name (i := 3) sc_near_of.nd rfl (Or.inl rfl)) (pss_one (ps_set (i := 2) sc_near_of.nd rfl (Or.inl rfl) (pe_op op_orU (pv 2) (pe_ix (ixL (K := K) rfl) (pv 0) (pv 3) (fun _ _ => rfl))))))
      (pss_one (ps_ret (pv 2))))), ?_⟩
    rw [show L2.start ["near", "mask", "found", "key"] [.ref a, nv m] = [some (.ref a), some (nv m), none, none] from rfl]
    generalize hF1 : tFor _ _ _ = F1
    (try simp only [tVar, tC, tOp, tUn, rI, rI0, rU, rEq, rNe, scal, tTest, tB, tAnd, tOr, tNot, tAndV, tOrV, tNotV, tIf, tChain, tNil, tCons, tCB, tCall, tTup, tLst, tRet, tRetN, tDrop, tSeq, tNext, tIfS, tAsg, gName, tPar, tPar3, gNil, gCons, gTup, gSub, tAug, tSl, tNoPart, tPart, tBM, tBM0, tYes, tIsP, iSeq, iEnumA, RZ.iZipA, iRng1, iRng2, iList, iTup, rIsi, rIsB, rIxL, rIxT, rIxA, rLenA, rListOf, rTupOf, rSetL, rSlL, rCat, rAppend, tFld, sFld, tMake, tBits, Int.ofNat_inj, cast1, cast0, TruV, cxOf, Cx.nox, Cx.wish, tNever, tBreak, tCont, ipI, tDIn, tDNotIn, sDPut, tDNewT, tDNewK, tDGet, rSortedPO, rSortedI, rIn, rEqD, rNeD, rInD, rNotInD, tSSet, rIsV, rIntI, rIntB, rAbsN, tLstRg, tRg1, tRg2, List.append_nil, List.nil_append, List.cons_append, Option.some.injEq, exists_eq_left', exists_eq_left, exists_eq_right, exists_eq_right', List.getElem?_cons_zero, List.getElem?_cons_succ, List.set_cons_zero, List.set_cons_succ, List.cons.injEq, and_true, true_and, exists_and_left, exists_and_right, and_assoc, V.int.injEq, V.bl.injEq, V.ref.injEq, V.str.injEq, reduceCtorEq, decide_true, decide_false, Bool.not_true, Bool.not_false, Bool.false_eq_true, if_false, if_true, ite_true, ite_false, List.length_cons, List.length_nil, tRaise, tErr, LamX.tLam, TTe, rSortedIA, rSortedTA, tDisp, tPairs])
    subst hF1
    have hm2 : m < 2 ^ 62 := Nat.lt_of_lt_of_le hm (Nat.pow_le_pow_right (by decide) h62)
    refine forC [nv m] (fun R h => ?_) mono_lot_of ⟨m, rfl, hm2, fun H1 p s1 hp ep => ?_⟩
    · (try simp only [tVar, tC, tOp, tUn, rI, rI0, rU, rEq, rNe, scal, tTest, tB, tAnd, tOr, tNot, tAndV, tOrV, tNotV, tIf, tChain, tNil, tCons, tCB, tCall, tTup, tLst, tRet, tRetN, tDrop, tSeq, tNext, tIfS, tAsg, gName, tPar, tPar3, gNil, gCons, gTup, gSub, tAug, tSl, tNoPart, tPart, tBM, tBM0, tYes, tIsP, iSeq, iEnumA, RZ.iZipA, iRng1, iRng2, iList, iTup, rIsi, rIsB, rIxL, rIxT, rIxA, rLenA, rListOf, rTupOf, rSetL, rSlL, rCat, rAppend, tFld, sFld, tMake, tBits, Int.ofNat_inj, cast1, cast0, TruV, cxOf, Cx.nox, Cx.wish, tNever, tBreak, tCont, ipI, tDIn, tDNotIn, sDPut, tDNewT, tDNewK, tDGet, rSortedPO, rSortedI, rIn, rEqD, rNeD, rInD, rNotInD, tSSet, rIsV, rIntI, rIntB, rAbsN, tLstRg, tRg1, tRg2, List.append_nil, List.nil_append, List.cons_append, Option.some.injEq, exists_eq_left', exists_eq_left, exists_eq_right, exists_eq_right', List.getElem?_cons_zero, List.getElem?_cons_succ, List.set_cons_zero, List.set_cons_succ, List.cons.injEq, and_true, true_and, exists_and_left, exists_and_right, and_assoc, V.int.injEq, V.bl.injEq, V.ref.injEq, V.str.injEq, reduceCtorEq, decide_true, decide_false, Bool.not_true, Bool.not_false, Bool.false_eq_true, if_false, if_true, ite_true, ite_false, List.length_cons, List.length_nil, tRaise, tErr, LamX.tLam, TTe, rSortedIA, rSortedTA, tDisp, tPairs])
      exact h
    · refine ⟨p, nvs (bits m), fun i σ' H' => ∃ y3, σ' = [some (.ref a), some (nv m), some (nv (((bits m).take i).foldl (fun f k => f ||| near.getD k 0) 0)), y3] ∧ H' = H1, H1, rfl, ⟨_, rfl, rfl⟩, .inr (.of ep), fun i σ' H' h => by obtain ⟨_, _, rfl⟩ := h; exact Same.refl _, ?_, ?_⟩
      · rintro i x σ' H' hx ⟨y3, rfl, rfl⟩
        obtain ⟨k, hk, rfl⟩ := nvs_at hx
        have kl : k < near.length := bits_below hm (List.mem_of_getElem? hk)
        (try simp only [tVar, tC, tOp, tUn, rI, rI0, rU, rEq, rNe, scal, tTest, tB, tAnd, tOr, tNot, tAndV, tOrV, tNotV, tIf, tChain, tNil, tCons, tCB, tCall, tTup, tLst, tRet, tRetN, tDrop, tSeq, tNext, tIfS, tAsg, gName, tPar, tPar3, gNil, gCons, gTup, gSub, tAug, tSl, tNoPart, tPart, tBM, tBM0, tYes, tIsP, iSeq, iEnumA, RZ.iZipA, iRng1, iRng2, iList, iTup, rIsi, rIsB, rIxL, rIxT, rIxA, rLenA, rListOf, rTupOf, rSetL, rSlL, rCat, rAppend, tFld, sFld, tMake, tBits, Int.ofNat_inj, cast1, cast0, TruV, cxOf, Cx.nox, Cx.wish, tNever, tBreak, tCont, ipI, tDIn, tDNotIn, sDPut, tDNewT, tDNewK, tDGet, rSortedPO, rSortedI, rIn, rEqD, rNeD, rInD, rNotInD, tSSet, rIsV, rIntI, rIntB, rAbsN, tLstRg, tRg1, tRg2, List.append_nil, List.nil_append, List.cons_append, Option.some.injEq, exists_eq_left', exists_eq_left, exists_eq_right, exists_eq_right', List.getElem?_cons_zero, List.getElem?_cons_succ, List.set_cons_zero, List.set_cons_succ, List.cons.injEq, and_true, true_and, exists_and_left, exists_and_right, and_assoc, V.int.injEq, V.bl.injEq, V.ref.injEq, V.str.injEq, reduceCtorEq, decide_true, decide_false, Bool.not_true, Bool.not_false, Bool.false_eq_true, if_false, if_true, ite_true, ite_false, List.length_cons, List.length_nil, tRaise, tErr, LamX.tLam, TTe, rSortedIA, rSortedTA, tDisp, tPairs])
        refine ⟨_, Same.seq s1 hs, _, nvs_ix kl, _, rfl, ?_⟩
        rw [List.take_add_one, hk, List.foldl_append]
        rfl
      · rintro σ' H' ⟨y3, rfl, rfl⟩
        (try simp only [tVar, tC, tOp, tUn, rI, rI0, rU, rEq, rNe, scal, tTest, tB, tAnd, tOr, tNot, tAndV, tOrV, tNotV, tIf, tChain, tNil, tCons, tCB, tCall, tTup, tLst, tRet, tRetN, tDrop, tSeq, tNext, tIfS, tAsg, gName, tPar, tPar3, gNil, gCons, gTup, gSub, tAug, tSl, tNoPart, tPart, tBM, tBM0, tYes, tIsP, iSeq, iEnumA, RZ.iZipA, iRng1, iRng2, iList, iTup, rIsi, rIsB, rIxL, rIxT, rIxA, rLenA, rListOf, rTupOf, rSetL, rSlL, rCat, rAppend, tFld, sFld, tMake, tBits, Int.ofNat_inj, cast1, cast0, TruV, cxOf, Cx.nox, Cx.wish, tNever, tBreak, tCont, ipI, tDIn, tDNotIn, sDPut, tDNewT, tDNewK, tDGet, rSortedPO, rSortedI, rIn, rEqD, rNeD, rInD, rNotInD, tSSet, rIsV, rIntI, rIntB, rAbsN, tLstRg, tRg1, tRg2, List.append_nil, List.nil_append, List.cons_append, Option.some.injEq, exists_eq_left', exists_eq_left, exists_eq_right, exists_eq_right', List.getElem?_cons_zero, List.getElem?_cons_succ, List.set_cons_zero, List.set_cons_succ, List.cons.injEq, and_true, true_and, exists_and_left, exists_and_right, and_assoc, V.int.injEq, V.bl.injEq, V.ref.injEq, V.str.injEq, reduceCtorEq, decide_true, decide_false, Bool.not_true, Bool.not_false, Bool.false_eq_true, if_false, if_true, ite_true, ite_false, List.length_cons, List.length_nil, tRaise, tErr, LamX.tLam, TTe, rSortedIA, rSortedTA, tDisp, tPairs])
        rw [List.length_map, List.take_length]
        exact q _ s1
def sp_plain_keys (C : Addr) : Sp := fun vs H Q _ => ∃ n : Nat, vs = [nv n] ∧ (1 ≤ n ∧ n ≤ 12) ∧ ∀ H' k qs, Same H H' → KeysAt C H' k n qs → qs.Perm ((List.range n).map fun i => (i, i)) → Q (.ref k) H'
end
end Kr
namespace Kr
open PySem PySem.Spec PyProof.Rows L2 Kb
/-! ### what the masks say -/
theorem nd_len {ns : List Nat} {n : Nat} (nd : ns.Nodup) (h : ∀ k ∈ ns, k < n) : ns.length ≤ n := by
  have := List.Nodup.length_le_of_subset nd (l₂ := List.range n) fun k hk => List.mem_range.mpr (h k hk)
  rwa [List.length_range] at this
theorem maskOf_test (l : List Nat) (k : Nat) : (maskOf l).testBit k = decide (k ∈ l) := by
  have : ∀ (l : List Nat) (m : Nat), (l.foldl (fun m k => m ||| 1 <<< k) m).testBit k = (m.testBit k || decide (k ∈ l)) := by
    intro l
    induction l with
    | nil => intro m; simp
    | cons a r ih =>
      intro m
      rw [List.foldl_cons, ih, Nat.testBit_or, Nat.shiftLeft_eq, Nat.one_mul, Nat.testBit_two_pow, Bool.or_assoc]
      congr 1
      rw [Bool.eq_iff_iff]
      simp only [Bool.or_eq_true, decide_eq_true_eq, List.mem_cons]
      exact or_congr_left eq_comm
  unfold maskOf
  rw [this, Nat.zero_testBit, Bool.false_or]
theorem maskOf_lt {l : List Nat} {n : Nat} (h : ∀ k ∈ l, k < n) : maskOf l < 2 ^ n := by
  refine Nat.lt_pow_two_of_testBit _ fun i hi => ?_
  rw [maskOf_test]
  exact decide_eq_false fun m => by have := h i m; omega
/-- near by the pairs -/
def nearP (qs : List NP) (i j : Nat) : Prop := (i, j) ∈ qs ∨ (j, i) ∈ qs
theorem nstep_test {l : List Nat} {p : NP} (h1 : p.1 < l.length) (h2 : p.2 < l.length) (i j : Nat) : ((nstep l p).getD i 0).testBit j = ((l.getD i 0).testBit j || decide (p = (i, j)) || decide (p = (j, i))) := by
  obtain ⟨a, b⟩ := p
  unfold nstep
  simp only [List.getD_eq_getElem?_getD, List.getElem?_set, List.length_set, Prod.mk.injEq] at *
  by_cases ha : a = i <;> by_cases hb : b = i <;> by_cases hab : b = a <;> simp_all [Nat.testBit_or, Nat.shiftLeft_eq, Nat.testBit_two_pow]
theorem near_test {n : Nat} : ∀ {qs : List NP}, (∀ p ∈ qs, p.1 ≤ p.2 ∧ p.2 < n) → ∀ i j, ((nearM n qs).getD i 0).testBit j = true ↔ nearP qs i j := by
  intro qs
  unfold nearM
  have : ∀ (qs : List NP) (l : List Nat), l.length = n → (∀ p ∈ qs, p.1 ≤ p.2 ∧ p.2 < n) → ∀ i j, ((qs.foldl nstep l).getD i 0).testBit j = true ↔ (l.getD i 0).testBit j = true ∨ nearP qs i j := by
    intro qs
    induction qs with
    | nil => intro l _ _ i j; simp [nearP]
    | cons p r ih =>
      intro l hl h i j
      have hp := h p List.mem_cons_self
      rw [List.foldl_cons, ih _ (by rw [nstep_len, hl]) (fun q hq => h q (List.mem_cons_of_mem _ hq)), nstep_test (by omega) (by omega)]
      unfold nearP
      simp only [Bool.or_eq_true, decide_eq_true_eq, List.mem_cons, eq_comm (a := p)]
      constructor
      · rintro (((h | h) | h) | (h | h)) <;> simp_all
      · rintro (h | (h | h) | (h | h)) <;> simp_all
  intro h i j
  rw [this qs _ (List.length_replicate ..) h i j]
  constructor
  · rintro (h | h)
    · rw [List.getD_eq_getElem?_getD, List.getElem?_replicate] at h
      split at h <;> simp at h
    · exact h
  · exact .inr
theorem or_fold_test (f : Nat → Nat) (l : List Nat) (j : Nat) : ∀ m, (l.foldl (fun s k => s ||| f k) m).testBit j = true ↔ m.testBit j = true ∨ ∃ k ∈ l, (f k).testBit j = true := by
  induction l with
  | nil => intro m; simp
  | cons a r ih =>
    intro m
    rw [List.foldl_cons, ih, Nat.testBit_or, Bool.or_eq_true, or_assoc]
    simp
def GoodQ (n : Nat) (qs : List NP) : Prop := n ≤ 12 ∧ ∀ p ∈ qs, p.1 ≤ p.2 ∧ p.2 < n
theorem nearOf_test (near : List Nat) (m j : Nat) : (nearOf near m).testBit j = true ↔ ∃ k ∈ bits m, (near.getD k 0).testBit j = true := by
  unfold nearOf
  rw [or_fold_test (fun k => near.getD k 0)]
  simp
theorem nearOf_lt {n : Nat} {qs : List NP} {m : Nat} (hg : GoodQ n qs) : nearOf (nearM n qs) m < 2 ^ n := by
  refine Nat.lt_pow_two_of_testBit _ fun j hj => ?_
  rw [Bool.eq_false_iff]
  intro h
  obtain ⟨k, _, hk⟩ := (nearOf_test _ _ _).mp h
  rcases (near_test hg.2 k j).mp hk with h | h
  · have := hg.2 _ h
    simp only at this
    omega
  · have := hg.2 _ h
    simp only at this
    omega
end Kr
namespace Kr
open PySem PySem.Spec PyProof.Rows L2 Kb
section
variable {P : Program} {w : World} {K : PySem.W.Frag} {mg : Str → Option Value} {base : Heap}
theorem odd_is (m k : Nat) : decide (((m >>> k &&& 1 : Nat) : Int) = 1) = m.testBit k := by
  unfold Nat.testBit
  rw [Nat.and_comm, Bool.eq_iff_iff]
  simp only [decide_eq_true_eq, bne_iff_ne, ne_eq]
  have : 1 &&& m >>> k < 2 := by rw [Nat.one_and_eq_mod_two]; exact Nat.mod_lt _ (by decide)
  omega
def sp_clash (C : Addr) : Sp := fun vs H Q _ => ∃ k n qs, ∃ f s : Nat, vs = [.ref k, nv f, nv s] ∧ KeysAt C H k n qs ∧ GoodQ n qs ∧ (f < n ∧ s < n) ∧ ∀ H', Same H H' → Q (.bl (((nearM n qs).getD f 0).testBit s)) H'
theorem ok_clash (T : Tx P K mg) : FnOk P w K mg base CX0 4 T.a_clash T.d_clash ["keys", "first", "second"] (sp_clash T.c_Keys) := by
  refine T.F_clash.ok sc_clash (fun vs H Q E h => ?_) (fun cdv A outer s H vs Q E hr h => ?_)
  · obtain ⟨k, n, qs, f, s, rfl, _⟩ := h
    rfl
  · obtain ⟨k, n, qs, f, s, rfl, hk, hg, ⟨hf, hs⟩, q⟩ := h
    refine ⟨_, (pss_cons (ps_expr (pe_call (ok_need_keys T) (hr.mono (by decide)) (by rfl) T.g_need_keys T.F_need_keys.kp T.b_need_keys .nil pass0 (pa_cons (pv 0) pa_nil)))
      (pss_cons (ps_expr (pe_call (ok_need_key T) (hr.mono (by decide)) (by rfl) T.g_need_key T.F_need_key.kp T.b_need_key .nil pass0 (pa_cons (pv 1) (pa_cons (fldK (K := K) rfl (pv 0) rfl) pa_nil))))
      (pss_cons (ps_expr (pe_call (ok_need_key T) (hr.mono (by decide)) (by rfl) T.g_need_key T.F_need_key.kp T.b_need_key .nil pass0 (pa_cons (pv 2) (pa_cons (fldK (K := K) rfl (pv 0) rfl) pa_nil))))
      (pss_one (ps_ret (pe_cmpR op_eq (pe_op op_andU (pe_op op_shrU (pe_ix (ixL (K := K) rfl) (pe_call (ok_near_masks T) (hr.mono (by decide)) (by rfl) T.g_near_masks T.F_near_masks.kp T.b_near_masks .nil pass0 (pa_cons (pv 0) pa_nil)) (pv 1) (fun _ _ => rfl)) (pv 2)) pe_int) pe_int (nomark _))))))), ?_⟩
    rw [show L2.start ["keys", "first", "second"] [.ref k, nv f, nv s] = [some (.ref k), some (nv f), some (nv s)] from rfl]
    (try simp only [tVar, tC, tOp, tUn, rI, rI0, rU, rEq, rNe, scal, tTest, tB, tAnd, tOr, tNot, tAndV, tOrV, tNotV, tIf, tChain, tNil, tCons, tCB, tCall, tTup, tLst, tRet, tRetN, tDrop, tSeq, tNext, tIfS, tAsg, gName, tPar, tPar3, gNil, gCons, gTup, gSub, tAug, tSl, tNoPart, tPart, tBM, tBM0, tYes, tIsP, iSeq, iEnumA, RZ.iZipA, iRng1, iRng2, iList, iTup, rIsi, rIsB, rIxL, rIxT, rIxA, rLenA, rListOf, rTupOf, rSetL, rSlL, rCat, rAppend, tFld, sFld, tMake, tBits, Int.ofNat_inj, cast1, cast0, TruV, cxOf, Cx.nox, Cx.wish, tNever, tBreak, tCont, ipI, tDIn, tDNotIn, sDPut, tDNewT, tDNewK, tDGet, rSortedPO, rSortedI, rIn, rEqD, rNeD, rInD, rNotInD, tSSet, rIsV, rIntI, rIntB, rAbsN, tLstRg, tRg1, tRg2, List.append_nil, List.nil_append, List.cons_append, Option.some.injEq, exists_eq_left', exists_eq_left, exists_eq_right, exists_eq_right', List.getElem?_cons_zero, List.getElem?_cons_succ, List.set_cons_zero, List.set_cons_succ, List.cons.injEq, and_true, true_and, exists_and_left, exists_and_right, and_assoc, V.int.injEq, V.bl.injEq, V.ref.injEq, V.str.injEq, reduceCtorEq, decide_true, decide_false, Bool.not_true, Bool.not_false, Bool.false_eq_true, if_false, if_true, ite_true, ite_false, List.length_cons, List.length_nil, tRaise, tErr, LamX.tLam, TTe, rSortedIA, rSortedTA, tDisp, tPairs])
    obtain ⟨dx, t, ys, ek, et, hp⟩ := id hk
    refine ⟨k, dx, _, rfl, ek, ?_⟩
    (try simp only [tVar, tC, tOp, tUn, rI, rI0, rU, rEq, rNe, scal, tTest, tB, tAnd, tOr, tNot, tAndV, tOrV, tNotV, tIf, tChain, tNil, tCons, tCB, tCall, tTup, tLst, tRet, tRetN, tDrop, tSeq, tNext, tIfS, tAsg, gName, tPar, tPar3, gNil, gCons, gTup, gSub, tAug, tSl, tNoPart, tPart, tBM, tBM0, tYes, tIsP, iSeq, iEnumA, RZ.iZipA, iRng1, iRng2, iList, iTup, rIsi, rIsB, rIxL, rIxT, rIxA, rLenA, rListOf, rTupOf, rSetL, rSlL, rCat, rAppend, tFld, sFld, tMake, tBits, Int.ofNat_inj, cast1, cast0, TruV, cxOf, Cx.nox, Cx.wish, tNever, tBreak, tCont, ipI, tDIn, tDNotIn, sDPut, tDNewT, tDNewK, tDGet, rSortedPO, rSortedI, rIn, rEqD, rNeD, rInD, rNotInD, tSSet, rIsV, rIntI, rIntB, rAbsN, tLstRg, tRg1, tRg2, List.append_nil, List.nil_append, List.cons_append, Option.some.injEq, exists_eq_left', exists_eq_left, exists_eq_right, exists_eq_right', List.getElem?_cons_zero, List.getElem?_cons_succ, List.set_cons_zero, List.set_cons_succ, List.cons.injEq, and_true, true_and, exists_and_left, exists_and_right, and_assoc, V.int.injEq, V.bl.injEq, V.ref.injEq, V.str.injEq, reduceCtorEq, decide_true, decide_false, Bool.not_true, Bool.not_false, Bool.false_eq_true, if_false, if_true, ite_true, ite_false, List.length_cons, List.length_nil, tRaise, tErr, LamX.tLam, TTe, rSortedIA, rSortedTA, tDisp, tPairs])
    refine ⟨_, _, _, ek, T.cl_Keys, T.na_many, _, rfl, ?_⟩
    (try simp only [tVar, tC, tOp, tUn, rI, rI0, rU, rEq, rNe, scal, tTest, tB, tAnd, tOr, tNot, tAndV, tOrV, tNotV, tIf, tChain, tNil, tCons, tCB, tCall, tTup, tLst, tRet, tRetN, tDrop, tSeq, tNext, tIfS, tAsg, gName, tPar, tPar3, gNil, gCons, gTup, gSub, tAug, tSl, tNoPart, tPart, tBM, tBM0, tYes, tIsP, iSeq, iEnumA, RZ.iZipA, iRng1, iRng2, iList, iTup, rIsi, rIsB, rIxL, rIxT, rIxA, rLenA, rListOf, rTupOf, rSetL, rSlL, rCat, rAppend, tFld, sFld, tMake, tBits, Int.ofNat_inj, cast1, cast0, TruV, cxOf, Cx.nox, Cx.wish, tNever, tBreak, tCont, ipI, tDIn, tDNotIn, sDPut, tDNewT, tDNewK, tDGet, rSortedPO, rSortedI, rIn, rEqD, rNeD, rInD, rNotInD, tSSet, rIsV, rIntI, rIntB, rAbsN, tLstRg, tRg1, tRg2, List.append_nil, List.nil_append, List.cons_append, Option.some.injEq, exists_eq_left', exists_eq_left, exists_eq_right, exists_eq_right', List.getElem?_cons_zero, List.getElem?_cons_succ, List.set_cons_zero, List.set_cons_succ, List.cons.injEq, and_true, true_and, exists_and_left, exists_and_right, and_assoc, V.int.injEq, V.bl.injEq, V.ref.injEq, V.str.injEq, reduceCtorEq, decide_true, decide_false, Bool.not_true, Bool.not_false, Bool.false_eq_true, if_false, if_true, ite_true, ite_false, List.length_cons, List.length_nil, tRaise, tErr, LamX.tLam, TTe, rSortedIA, rSortedTA, tDisp, tPairs])
    refine ⟨_, _, rfl, hf, ?_⟩
    (try simp only [tVar, tC, tOp, tUn, rI, rI0, rU, rEq, rNe, scal, tTest, tB, tAnd, tOr, tNot, tAndV, tOrV, tNotV, tIf, tChain, tNil, tCons, tCB, tCall, tTup, tLst, tRet, tRetN, tDrop, tSeq, tNext, tIfS, tAsg, gName, tPar, tPar3, gNil, gCons, gTup, gSub, tAug, tSl, tNoPart, tPart, tBM, tBM0, tYes, tIsP, iSeq, iEnumA, RZ.iZipA, iRng1, iRng2, iList, iTup, rIsi, rIsB, rIxL, rIxT, rIxA, rLenA, rListOf, rTupOf, rSetL, rSlL, rCat, rAppend, tFld, sFld, tMake, tBits, Int.ofNat_inj, cast1, cast0, TruV, cxOf, Cx.nox, Cx.wish, tNever, tBreak, tCont, ipI, tDIn, tDNotIn, sDPut, tDNewT, tDNewK, tDGet, rSortedPO, rSortedI, rIn, rEqD, rNeD, rInD, rNotInD, tSSet, rIsV, rIntI, rIntB, rAbsN, tLstRg, tRg1, tRg2, List.append_nil, List.nil_append, List.cons_append, Option.some.injEq, exists_eq_left', exists_eq_left, exists_eq_right, exists_eq_right', List.getElem?_cons_zero, List.getElem?_cons_succ, List.set_cons_zero, List.set_cons_succ, List.cons.injEq, and_true, true_and, exists_and_left, exists_and_right, and_assoc, V.int.injEq, V.bl.injEq, V.ref.injEq, V.str.injEq, reduceCtorEq, decide_true, decide_false, Bool.not_true, Bool.not_false, Bool.false_eq_true, if_false, if_true, ite_true, ite_false, List.length_cons, List.length_nil, tRaise, tErr, LamX.tLam, TTe, rSortedIA, rSortedTA, tDisp, tPairs])
    refine ⟨_, _, _, ek, T.cl_Keys, T.na_many, _, rfl, ?_⟩
    (try simp only [tVar, tC, tOp, tUn, rI, rI0, rU, rEq, rNe, scal, tTest, tB, tAnd, tOr, tNot, tAndV, tOrV, tNotV, tIf, tChain, tNil, tCons, tCB, tCall, tTup, tLst, tRet, tRetN, tDrop, tSeq, tNext, tIfS, tAsg, gName, tPar, tPar3, gNil, gCons, gTup, gSub, tAug, tSl, tNoPart, tPart, tBM, tBM0, tYes, tIsP, iSeq, iEnumA, RZ.iZipA, iRng1, iRng2, iList, iTup, rIsi, rIsB, rIxL, rIxT, rIxA, rLenA, rListOf, rTupOf, rSetL, rSlL, rCat, rAppend, tFld, sFld, tMake, tBits, Int.ofNat_inj, cast1, cast0, TruV, cxOf, Cx.nox, Cx.wish, tNever, tBreak, tCont, ipI, tDIn, tDNotIn, sDPut, tDNewT, tDNewK, tDGet, rSortedPO, rSortedI, rIn, rEqD, rNeD, rInD, rNotInD, tSSet, rIsV, rIntI, rIntB, rAbsN, tLstRg, tRg1, tRg2, List.append_nil, List.nil_append, List.cons_append, Option.some.injEq, exists_eq_left', exists_eq_left, exists_eq_right, exists_eq_right', List.getElem?_cons_zero, List.getElem?_cons_succ, List.set_cons_zero, List.set_cons_succ, List.cons.injEq, and_true, true_and, exists_and_left, exists_and_right, and_assoc, V.int.injEq, V.bl.injEq, V.ref.injEq, V.str.injEq, reduceCtorEq, decide_true, decide_false, Bool.not_true, Bool.not_false, Bool.false_eq_true, if_false, if_true, ite_true, ite_false, List.length_cons, List.length_nil, tRaise, tErr, LamX.tLam, TTe, rSortedIA, rSortedTA, tDisp, tPairs])
    refine ⟨_, _, rfl, hs, ?_⟩
    (try simp only [tVar, tC, tOp, tUn, rI, rI0, rU, rEq, rNe, scal, tTest, tB, tAnd, tOr, tNot, tAndV, tOrV, tNotV, tIf, tChain, tNil, tCons, tCB, tCall, tTup, tLst, tRet, tRetN, tDrop, tSeq, tNext, tIfS, tAsg, gName, tPar, tPar3, gNil, gCons, gTup, gSub, tAug, tSl, tNoPart, tPart, tBM, tBM0, tYes, tIsP, iSeq, iEnumA, RZ.iZipA, iRng1, iRng2, iList, iTup, rIsi, rIsB, rIxL, rIxT, rIxA, rLenA, rListOf, rTupOf, rSetL, rSlL, rCat, rAppend, tFld, sFld, tMake, tBits, Int.ofNat_inj, cast1, cast0, TruV, cxOf, Cx.nox, Cx.wish, tNever, tBreak, tCont, ipI, tDIn, tDNotIn, sDPut, tDNewT, tDNewK, tDGet, rSortedPO, rSortedI, rIn, rEqD, rNeD, rInD, rNotInD, tSSet, rIsV, rIntI, rIntB, rAbsN, tLstRg, tRg1, tRg2, List.append_nil, List.nil_append, List.cons_append, Option.some.injEq, exists_eq_left', exists_eq_left, exists_eq_right, exists_eq_right', List.getElem?_cons_zero, List.getElem?_cons_succ, List.set_cons_zero, List.set_cons_succ, List.cons.injEq, and_true, true_and, exists_and_left, exists_and_right, and_assoc, V.int.injEq, V.bl.injEq, V.ref.injEq, V.str.injEq, reduceCtorEq, decide_true, decide_false, Bool.not_true, Bool.not_false, Bool.false_eq_true, if_false, if_true, ite_true, ite_false, List.length_cons, List.length_nil, tRaise, tErr, LamX.tLam, TTe, rSortedIA, rSortedTA, tDisp, tPairs])
    refine ⟨_, _, _, rfl, hk, hg.1, hg.2, fun H' p sm hp1 ep => ?_⟩
    (try simp only [tVar, tC, tOp, tUn, rI, rI0, rU, rEq, rNe, scal, tTest, tB, tAnd, tOr, tNot, tAndV, tOrV, tNotV, tIf, tChain, tNil, tCons, tCB, tCall, tTup, tLst, tRet, tRetN, tDrop, tSeq, tNext, tIfS, tAsg, gName, tPar, tPar3, gNil, gCons, gTup, gSub, tAug, tSl, tNoPart, tPart, tBM, tBM0, tYes, tIsP, iSeq, iEnumA, RZ.iZipA, iRng1, iRng2, iList, iTup, rIsi, rIsB, rIxL, rIxT, rIxA, rLenA, rListOf, rTupOf, rSetL, rSlL, rCat, rAppend, tFld, sFld, tMake, tBits, Int.ofNat_inj, cast1, cast0, TruV, cxOf, Cx.nox, Cx.wish, tNever, tBreak, tCont, ipI, tDIn, tDNotIn, sDPut, tDNewT, tDNewK, tDGet, rSortedPO, rSortedI, rIn, rEqD, rNeD, rInD, rNotInD, tSSet, rIsV, rIntI, rIntB, rAbsN, tLstRg, tRg1, tRg2, List.append_nil, List.nil_append, List.cons_append, Option.some.injEq, exists_eq_left', exists_eq_left, exists_eq_right, exists_eq_right', List.getElem?_cons_zero, List.getElem?_cons_succ, List.set_cons_zero, List.set_cons_succ, List.cons.injEq, and_true, true_and, exists_and_left, exists_and_right, and_assoc, V.int.injEq, V.bl.injEq, V.ref.injEq, V.str.injEq, reduceCtorEq, decide_true, decide_false, Bool.not_true, Bool.not_false, Bool.false_eq_true, if_false, if_true, ite_true, ite_false, List.length_cons, List.length_nil, tRaise, tErr, LamX.tLam, TTe, rSortedIA, rSortedTA, tDisp, tPairs])
    refine ⟨_, .inl (.of ep), _, nvs_ix (by rw [near_len]; exact hf), ?_⟩
    (try simp only [tVar, tC, tOp, tUn, rI, rI0, rU, rEq, rNe, scal, tTest, tB, tAnd, tOr, tNot, tAndV, tOrV, tNotV, tIf, tChain, tNil, tCons, tCB, tCall, tTup, tLst, tRet, tRetN, tDrop, tSeq, tNext, tIfS, tAsg, gName, tPar, tPar3, gNil, gCons, gTup, gSub, tAug, tSl, tNoPart, tPart, tBM, tBM0, tYes, tIsP, iSeq, iEnumA, RZ.iZipA, iRng1, iRng2, iList, iTup, rIsi, rIsB, rIxL, rIxT, rIxA, rLenA, rListOf, rTupOf, rSetL, rSlL, rCat, rAppend, tFld, sFld, tMake, tBits, Int.ofNat_inj, cast1, cast0, TruV, cxOf, Cx.nox, Cx.wish, tNever, tBreak, tCont, ipI, tDIn, tDNotIn, sDPut, tDNewT, tDNewK, tDGet, rSortedPO, rSortedI, rIn, rEqD, rNeD, rInD, rNotInD, tSSet, rIsV, rIntI, rIntB, rAbsN, tLstRg, tRg1, tRg2, List.append_nil, List.nil_append, List.cons_append, Option.some.injEq, exists_eq_left', exists_eq_left, exists_eq_right, exists_eq_right', List.getElem?_cons_zero, List.getElem?_cons_succ, List.set_cons_zero, List.set_cons_succ, List.cons.injEq, and_true, true_and, exists_and_left, exists_and_right, and_assoc, V.int.injEq, V.bl.injEq, V.ref.injEq, V.str.injEq, reduceCtorEq, decide_true, decide_false, Bool.not_true, Bool.not_false, Bool.false_eq_true, if_false, if_true, ite_true, ite_false, List.length_cons, List.length_nil, tRaise, tErr, LamX.tLam, TTe, rSortedIA, rSortedTA, tDisp, tPairs])
    rw [odd_is]
    exact q H' sm
def sp_clashing (C : Addr) (K : PySem.W.Frag) : Sp := fun vs H Q _ => ∃ k n qs a ns, vs = [.ref k, .ref a] ∧ KeysAt C H k n qs ∧ GoodQ n qs ∧ Seq K H a (nvs ns) ∧ (ns.Nodup ∧ ∀ k ∈ ns, k < n) ∧
  ∀ H' p, Same H H' → H p = none → H' p = some (.tup (nvs (bits (nearOf (nearM n qs) (maskOf ns))))) → Q (.ref p) H'
def sp_bare_keys (C : Addr) : Sp := fun vs H Q _ => ∃ k n qs, vs = [.ref k] ∧ KeysAt C H k n qs ∧ GoodQ n qs ∧
  ∀ H' p, Same H H' → H p = none → H' p = some (.tup (nvs ((List.range n).filter fun i => (nearM n qs).getD i 0 == 0))) → Q (.ref p) H'
end
end Kr
namespace Kr
open PySem PySem.Spec PyProof.Rows L2 Kb
section
variable {P : Program} {w : World} {K : PySem.W.Frag} {mg : Str → Option Value} {base : Heap}
theorem filter_range {p : Nat → Bool} {a b : Nat} (ha : ∀ k, p k = true → k < a) (hb : ∀ k, p k = true → k < b) : (List.range a).filter p = (List.range b).filter p := by
  have go : ∀ d a, (∀ k, p k = true → k < a) → (List.range (a + d)).filter p = (List.range a).filter p := by
    intro d
    induction d with
    | zero => intro a _; rfl
    | succ d ih =>
      intro a h
      rw [← Nat.add_assoc, List.range_succ, List.filter_append, ih a h, List.filter_cons, List.filter_nil, if_neg (fun e => by have := h _ e; omega), List.append_nil]
  rcases Nat.le_total a b with h | h
  · rw [← go (b - a) a ha, show a + (b - a) = b by omega]
  · rw [← go (a - b) b hb, show b + (a - b) = a by omega]
theorem bits_range {m n : Nat} (h : m < 2 ^ n) (h2 : m < 2 ^ 62) : (List.range n).filter m.testBit = bits m := by
  refine filter_range (fun k e => ?_) (fun k e => ?_)
  · exact bits_below h ((mem_bits h2).mpr e)
  · have := (mem_bits h2).mpr e
    unfold bits at this
    exact List.mem_range.mp (List.mem_filter.mp this).1
def sp_law_lot (K : PySem.W.Frag) : Sp := fun vs H Q _ => ∃ m : Nat, vs = [nv m] ∧ m < 2 ^ 12 ∧ ∀ H' p, Same H H' → H p = none → H' p = some (.tup (nvs (bits m))) → Q (.ref p) H'
def sp_law_mask (K : PySem.W.Frag) : Sp := fun vs H Q _ => ∃ a ns, vs = [.ref a] ∧ Seq K H a (nvs ns) ∧ (∀ n ∈ ns, n < 64) ∧ Q (nv (maskOf ns)) H
theorem ok__law_mask (T : Tx P K mg) : FnOk P w K mg base CX0 1 T.a__law_mask T.d__law_mask ["lot"] (sp_law_mask K) := by
  refine T.F__law_mask.ok sc__law_mask (fun vs H Q E h => ?_) (fun cdv A outer s H vs Q E hr h => ?_)
  · obtain ⟨a, ns, rfl, _⟩ := h
    rfl
  · obtain ⟨a, ns, rfl, hs, hn, q⟩ := h
    refine ⟨_, (pss_cons (ps_set (i := 1) sc__law_mask.nd rfl (Or.inl rfl) pe_int)
      (pss_cons (ps_for PassesOwn.never rfl (pseqK (K := K) rfl (pv 0)) (pg_name (i := 2) sc__law_mask.nd rfl (Or.inl rfl)) (pss_one (ps_set (i := 1) sc__law_mask.nd rfl (Or.inl rfl) (pe_op op_orU (pv 1) (pe_op op_shlU pe_int (pv 2))))))
      (pss_one (ps_ret (pv 1))))), ?_⟩
    rw [show L2.start ["lot", "mask", "key"] [.ref a] = [some (.ref a), none, none] from rfl]
    generalize hF1 : tFor _ _ _ = F1
    (try simp only [tVar, tC, tOp, tUn, rI, rI0, rU, rEq, rNe, scal, tTest, tB, tAnd, tOr, tNot, tAndV, tOrV, tNotV, tIf, tChain, tNil, tCons, tCB, tCall, tTup, tLst, tRet, tRetN, tDrop, tSeq, tNext, tIfS, tAsg, gName, tPar, tPar3, gNil, gCons, gTup, gSub, tAug, tSl, tNoPart, tPart, tBM, tBM0, tYes, tIsP, iSeq, iEnumA, RZ.iZipA, iRng1, iRng2, iList, iTup, rIsi, rIsB, rIxL, rIxT, rIxA, rLenA, rListOf, rTupOf, rSetL, rSlL, rCat, rAppend, tFld, sFld, tMake, tBits, Int.ofNat_inj, cast1, cast0, TruV, cxOf, Cx.nox, Cx.wish, tNever, tBreak, tCont, ipI, tDIn, tDNotIn, sDPut, tDNewT, tDNewK, tDGet, rSortedPO, rSortedI, rIn, rEqD, rNeD, rInD, rNotInD, tSSet, rIsV, rIntI, rIntB, rAbsN, tLstRg, tRg1, tRg2, List.append_nil, List.nil_append, List.cons_append, Option.some.injEq, exists_eq_left', exists_eq_left, exists_eq_right, exists_eq_right', List.getElem?_cons_zero, List.getElem?_cons_succ, List.set_cons_zero, List.set_cons_succ, List.cons.injEq, and_true, true_and, exists_and_left, exists_and_right, and_assoc, V.int.injEq, V.bl.injEq, V.ref.injEq, V.str.injEq, reduceCtorEq, decide_true, decide_false, Bool.not_true, Bool.not_false, Bool.false_eq_true, if_false, if_true, ite_true, ite_false, List.length_cons, List.length_nil, tRaise, tErr, LamX.tLam, TTe, rSortedIA, rSortedTA, tDisp, tPairs])
    subst hF1
    refine forS a (nvs ns) (fun i σ' H' => ∃ y, σ' = [some (.ref a), some (nv (maskOf (ns.take i))), y] ∧ H' = H) (fun R h => ?_) ⟨_, rfl, rfl⟩ H hs (fun i σ' H' h => by obtain ⟨_, _, rfl⟩ := h; exact Same.refl _) ?_ (fun σ' H' h => ?_)
    · (try simp only [tVar, tC, tOp, tUn, rI, rI0, rU, rEq, rNe, scal, tTest, tB, tAnd, tOr, tNot, tAndV, tOrV, tNotV, tIf, tChain, tNil, tCons, tCB, tCall, tTup, tLst, tRet, tRetN, tDrop, tSeq, tNext, tIfS, tAsg, gName, tPar, tPar3, gNil, gCons, gTup, gSub, tAug, tSl, tNoPart, tPart, tBM, tBM0, tYes, tIsP, iSeq, iEnumA, RZ.iZipA, iRng1, iRng2, iList, iTup, rIsi, rIsB, rIxL, rIxT, rIxA, rLenA, rListOf, rTupOf, rSetL, rSlL, rCat, rAppend, tFld, sFld, tMake, tBits, Int.ofNat_inj, cast1, cast0, TruV, cxOf, Cx.nox, Cx.wish, tNever, tBreak, tCont, ipI, tDIn, tDNotIn, sDPut, tDNewT, tDNewK, tDGet, rSortedPO, rSortedI, rIn, rEqD, rNeD, rInD, rNotInD, tSSet, rIsV, rIntI, rIntB, rAbsN, tLstRg, tRg1, tRg2, List.append_nil, List.nil_append, List.cons_append, Option.some.injEq, exists_eq_left', exists_eq_left, exists_eq_right, exists_eq_right', List.getElem?_cons_zero, List.getElem?_cons_succ, List.set_cons_zero, List.set_cons_succ, List.cons.injEq, and_true, true_and, exists_and_left, exists_and_right, and_assoc, V.int.injEq, V.bl.injEq, V.ref.injEq, V.str.injEq, reduceCtorEq, decide_true, decide_false, Bool.not_true, Bool.not_false, Bool.false_eq_true, if_false, if_true, ite_true, ite_false, List.length_cons, List.length_nil, tRaise, tErr, LamX.tLam, TTe, rSortedIA, rSortedTA, tDisp, tPairs])
      exact h
    · rintro i x σ' H' hx ⟨y, rfl, rfl⟩
      obtain ⟨k, hk, rfl⟩ := nvs_at hx
      (try simp only [tVar, tC, tOp, tUn, rI, rI0, rU, rEq, rNe, scal, tTest, tB, tAnd, tOr, tNot, tAndV, tOrV, tNotV, tIf, tChain, tNil, tCons, tCB, tCall, tTup, tLst, tRet, tRetN, tDrop, tSeq, tNext, tIfS, tAsg, gName, tPar, tPar3, gNil, gCons, gTup, gSub, tAug, tSl, tNoPart, tPart, tBM, tBM0, tYes, tIsP, iSeq, iEnumA, RZ.iZipA, iRng1, iRng2, iList, iTup, rIsi, rIsB, rIxL, rIxT, rIxA, rLenA, rListOf, rTupOf, rSetL, rSlL, rCat, rAppend, tFld, sFld, tMake, tBits, Int.ofNat_inj, cast1, cast0, TruV, cxOf, Cx.nox, Cx.wish, tNever, tBreak, tCont, ipI, tDIn, tDNotIn, sDPut, tDNewT, tDNewK, tDGet, rSortedPO, rSortedI, rIn, rEqD, rNeD, rInD, rNotInD, tSSet, rIsV, rIntI, rIntB, rAbsN, tLstRg, tRg1, tRg2, List.append_nil, List.nil_append, List.cons_append, Option.some.injEq, exists_eq_left', exists_eq_left, exists_eq_right, exists_eq_right', List.getElem?_cons_zero, List.getElem?_cons_succ, List.set_cons_zero, List.set_cons_succ, List.cons.injEq, and_true, true_and, exists_and_left, exists_and_right, and_assoc, V.int.injEq, V.bl.injEq, V.ref.injEq, V.str.injEq, reduceCtorEq, decide_true, decide_false, Bool.not_true, Bool.not_false, Bool.false_eq_true, if_false, if_true, ite_true, ite_false, List.length_cons, List.length_nil, tRaise, tErr, LamX.tLam, TTe, rSortedIA, rSortedTA, tDisp, tPairs])
      refine ⟨by have := hn k (List.mem_of_getElem? hk); omega, ?_⟩
      rw [maskOf_take hk]
    · obtain ⟨y, rfl, rfl⟩ := h
      (try simp only [tVar, tC, tOp, tUn, rI, rI0, rU, rEq, rNe, scal, tTest, tB, tAnd, tOr, tNot, tAndV, tOrV, tNotV, tIf, tChain, tNil, tCons, tCB, tCall, tTup, tLst, tRet, tRetN, tDrop, tSeq, tNext, tIfS, tAsg, gName, tPar, tPar3, gNil, gCons, gTup, gSub, tAug, tSl, tNoPart, tPart, tBM, tBM0, tYes, tIsP, iSeq, iEnumA, RZ.iZipA, iRng1, iRng2, iList, iTup, rIsi, rIsB, rIxL, rIxT, rIxA, rLenA, rListOf, rTupOf, rSetL, rSlL, rCat, rAppend, tFld, sFld, tMake, tBits, Int.ofNat_inj, cast1, cast0, TruV, cxOf, Cx.nox, Cx.wish, tNever, tBreak, tCont, ipI, tDIn, tDNotIn, sDPut, tDNewT, tDNewK, tDGet, rSortedPO, rSortedI, rIn, rEqD, rNeD, rInD, rNotInD, tSSet, rIsV, rIntI, rIntB, rAbsN, tLstRg, tRg1, tRg2, List.append_nil, List.nil_append, List.cons_append, Option.some.injEq, exists_eq_left', exists_eq_left, exists_eq_right, exists_eq_right', List.getElem?_cons_zero, List.getElem?_cons_succ, List.set_cons_zero, List.set_cons_succ, List.cons.injEq, and_true, true_and, exists_and_left, exists_and_right, and_assoc, V.int.injEq, V.bl.injEq, V.ref.injEq, V.str.injEq, reduceCtorEq, decide_true, decide_false, Bool.not_true, Bool.not_false, Bool.false_eq_true, if_false, if_true, ite_true, ite_false, List.length_cons, List.length_nil, tRaise, tErr, LamX.tLam, TTe, rSortedIA, rSortedTA, tDisp, tPairs])
      rw [List.length_map, List.take_length]
      exact q
def sp_law_near (K : PySem.W.Frag) : Sp := fun vs H Q _ => ∃ n a ys qs, vs = [nv n, .ref a] ∧ Seq K H a ys ∧ Prs H ys qs ∧ n ≤ 12 ∧ (∀ p ∈ qs, p.1 ≤ p.2 ∧ p.2 < n) ∧ ∀ H' p, Same H H' → H p = none → H' p = some (.lst (nvs (nearM n qs))) → Q (.ref p) H'
theorem ok__law_near (T : Tx P K mg) : FnOk P w K mg base CX0 1 T.a__law_near T.d__law_near ["many", "pairs"] (sp_law_near K) := by
  refine T.F__law_near.ok sc__law_near (fun vs H Q E h => ?_) (fun cdv A outer s H vs Q E hr h => ?_)
  · obtain ⟨n, a, ys, qs, rfl, _⟩ := h
    rfl
  · obtain ⟨n, a, ys, qs, rfl, ha, hp, h12, hg, q⟩ := h
    refine ⟨_, (pss_cons (ps_setLc (i := 2) (own := [("key", 3)]) rfl sc__law_near.nd rfl rfl (sw_true rfl rfl rfl (by decide +kernel)) (pi_range1 (by rfl) T.n_range (pa_cons (pv 0) pa_nil)) (blkOk_by (own := [("key", 3)]) (N := ["many", "pairs", "near", "key", "one", "other"]) (sc := defScope s__law_near) (by decide +kernel)) (fun _ _ _ _ _ => (pg_name (i := 3) sc__law_near.nd rfl (by first | exact Or.inl rfl | exact Or.inr rfl))) (fun _ _ _ _ _ => pts_nil) (fun _ _ _ _ _ => pe_int))
      (pss_cons (ps_for PassesOwn.never rfl (pseqK (K := K) rfl (pv 1)) (gtupK (K := K) (n := 2) rfl (by rfl) (pgs_cons (pg_name (i := 4) sc__law_near.nd rfl (Or.inl rfl)) (pgs_cons (pg_name (i := 5) sc__law_near.nd rfl (Or.inl rfl)) pgs_nil))) (pss_cons (ps_asg (pe_op op_orU (pe_ix (ixL (K := K) rfl) (pv 2) (pv 4) (fun _ _ => rfl)) (pe_op op_shlU pe_int (pv 5))) (pg_sub (pv 2) (pv 4) set_list))
      (pss_one (ps_asg (pe_op op_orU (pe_ix (ixL (K := K) rfl) (pv 2) (pv 5) (fun _ _ => rfl)) (pe_op op_shlU pe_int (pv 4))) (pg_sub (pv 2) (pv 5) set_list)))))
      (pss_one (ps_ret (pv 2))))), ?_⟩
    rw [show L2.start ["many", "pairs", "near", "key", "one", "other"] [nv n, .ref a] = [some (nv n), some (.ref a), none, none, none, none] from rfl]
    generalize hL1 : tLc _ _ _ _ _ = L1
    generalize hF1 : tFor _ _ _ = F1
    (try simp only [tVar, tC, tOp, tUn, rI, rI0, rU, rEq, rNe, scal, tTest, tB, tAnd, tOr, tNot, tAndV, tOrV, tNotV, tIf, tChain, tNil, tCons, tCB, tCall, tTup, tLst, tRet, tRetN, tDrop, tSeq, tNext, tIfS, tAsg, gName, tPar, tPar3, gNil, gCons, gTup, gSub, tAug, tSl, tNoPart, tPart, tBM, tBM0, tYes, tIsP, iSeq, iEnumA, RZ.iZipA, iRng1, iRng2, iList, iTup, rIsi, rIsB, rIxL, rIxT, rIxA, rLenA, rListOf, rTupOf, rSetL, rSlL, rCat, rAppend, tFld, sFld, tMake, tBits, Int.ofNat_inj, cast1, cast0, TruV, cxOf, Cx.nox, Cx.wish, tNever, tBreak, tCont, ipI, tDIn, tDNotIn, sDPut, tDNewT, tDNewK, tDGet, rSortedPO, rSortedI, rIn, rEqD, rNeD, rInD, rNotInD, tSSet, rIsV, rIntI, rIntB, rAbsN, tLstRg, tRg1, tRg2, List.append_nil, List.nil_append, List.cons_append, Option.some.injEq, exists_eq_left', exists_eq_left, exists_eq_right, exists_eq_right', List.getElem?_cons_zero, List.getElem?_cons_succ, List.set_cons_zero, List.set_cons_succ, List.cons.injEq, and_true, true_and, exists_and_left, exists_and_right, and_assoc, V.int.injEq, V.bl.injEq, V.ref.injEq, V.str.injEq, reduceCtorEq, decide_true, decide_false, Bool.not_true, Bool.not_false, Bool.false_eq_true, if_false, if_true, ite_true, ite_false, List.length_cons, List.length_nil, tRaise, tErr, LamX.tLam, TTe, rSortedIA, rSortedTA, tDisp, tPairs])
    subst hL1
    refine lcR1 n (fun _ => true) (fun _ => nv 0) (fun R h => ?_) (by omega) (fun i H' Q1 Q2 hi e q1 q2 => ?_) fun L hL => ?_
    · (try simp only [tVar, tC, tOp, tUn, rI, rI0, rU, rEq, rNe, scal, tTest, tB, tAnd, tOr, tNot, tAndV, tOrV, tNotV, tIf, tChain, tNil, tCons, tCB, tCall, tTup, tLst, tRet, tRetN, tDrop, tSeq, tNext, tIfS, tAsg, gName, tPar, tPar3, gNil, gCons, gTup, gSub, tAug, tSl, tNoPart, tPart, tBM, tBM0, tYes, tIsP, iSeq, iEnumA, RZ.iZipA, iRng1, iRng2, iList, iTup, rIsi, rIsB, rIxL, rIxT, rIxA, rLenA, rListOf, rTupOf, rSetL, rSlL, rCat, rAppend, tFld, sFld, tMake, tBits, Int.ofNat_inj, cast1, cast0, TruV, cxOf, Cx.nox, Cx.wish, tNever, tBreak, tCont, ipI, tDIn, tDNotIn, sDPut, tDNewT, tDNewK, tDGet, rSortedPO, rSortedI, rIn, rEqD, rNeD, rInD, rNotInD, tSSet, rIsV, rIntI, rIntB, rAbsN, tLstRg, tRg1, tRg2, List.append_nil, List.nil_append, List.cons_append, Option.some.injEq, exists_eq_left', exists_eq_left, exists_eq_right, exists_eq_right', List.getElem?_cons_zero, List.getElem?_cons_succ, List.set_cons_zero, List.set_cons_succ, List.cons.injEq, and_true, true_and, exists_and_left, exists_and_right, and_assoc, V.int.injEq, V.bl.injEq, V.ref.injEq, V.str.injEq, reduceCtorEq, decide_true, decide_false, Bool.not_true, Bool.not_false, Bool.false_eq_true, if_false, if_true, ite_true, ite_false, List.length_cons, List.length_nil, tRaise, tErr, LamX.tLam, TTe, rSortedIA, rSortedTA, tDisp, tPairs])
      exact h
    · (try simp only [tVar, tC, tOp, tUn, rI, rI0, rU, rEq, rNe, scal, tTest, tB, tAnd, tOr, tNot, tAndV, tOrV, tNotV, tIf, tChain, tNil, tCons, tCB, tCall, tTup, tLst, tRet, tRetN, tDrop, tSeq, tNext, tIfS, tAsg, gName, tPar, tPar3, gNil, gCons, gTup, gSub, tAug, tSl, tNoPart, tPart, tBM, tBM0, tYes, tIsP, iSeq, iEnumA, RZ.iZipA, iRng1, iRng2, iList, iTup, rIsi, rIsB, rIxL, rIxT, rIxA, rLenA, rListOf, rTupOf, rSetL, rSlL, rCat, rAppend, tFld, sFld, tMake, tBits, Int.ofNat_inj, cast1, cast0, TruV, cxOf, Cx.nox, Cx.wish, tNever, tBreak, tCont, ipI, tDIn, tDNotIn, sDPut, tDNewT, tDNewK, tDGet, rSortedPO, rSortedI, rIn, rEqD, rNeD, rInD, rNotInD, tSSet, rIsV, rIntI, rIntB, rAbsN, tLstRg, tRg1, tRg2, List.append_nil, List.nil_append, List.cons_append, Option.some.injEq, exists_eq_left', exists_eq_left, exists_eq_right, exists_eq_right', List.getElem?_cons_zero, List.getElem?_cons_succ, List.set_cons_zero, List.set_cons_succ, List.cons.injEq, and_true, true_and, exists_and_left, exists_and_right, and_assoc, V.int.injEq, V.bl.injEq, V.ref.injEq, V.str.injEq, reduceCtorEq, decide_true, decide_false, Bool.not_true, Bool.not_false, Bool.false_eq_true, if_false, if_true, ite_true, ite_false, List.length_cons, List.length_nil, tRaise, tErr, LamX.tLam, TTe, rSortedIA, rSortedTA, tDisp, tPairs])
      exact q1 rfl
    · (try simp only [tVar, tC, tOp, tUn, rI, rI0, rU, rEq, rNe, scal, tTest, tB, tAnd, tOr, tNot, tAndV, tOrV, tNotV, tIf, tChain, tNil, tCons, tCB, tCall, tTup, tLst, tRet, tRetN, tDrop, tSeq, tNext, tIfS, tAsg, gName, tPar, tPar3, gNil, gCons, gTup, gSub, tAug, tSl, tNoPart, tPart, tBM, tBM0, tYes, tIsP, iSeq, iEnumA, RZ.iZipA, iRng1, iRng2, iList, iTup, rIsi, rIsB, rIxL, rIxT, rIxA, rLenA, rListOf, rTupOf, rSetL, rSlL, rCat, rAppend, tFld, sFld, tMake, tBits, Int.ofNat_inj, cast1, cast0, TruV, cxOf, Cx.nox, Cx.wish, tNever, tBreak, tCont, ipI, tDIn, tDNotIn, sDPut, tDNewT, tDNewK, tDGet, rSortedPO, rSortedI, rIn, rEqD, rNeD, rInD, rNotInD, tSSet, rIsV, rIntI, rIntB, rAbsN, tLstRg, tRg1, tRg2, List.append_nil, List.nil_append, List.cons_append, Option.some.injEq, exists_eq_left', exists_eq_left, exists_eq_right, exists_eq_right', List.getElem?_cons_zero, List.getElem?_cons_succ, List.set_cons_zero, List.set_cons_succ, List.cons.injEq, and_true, true_and, exists_and_left, exists_and_right, and_assoc, V.int.injEq, V.bl.injEq, V.ref.injEq, V.str.injEq, reduceCtorEq, decide_true, decide_false, Bool.not_true, Bool.not_false, Bool.false_eq_true, if_false, if_true, ite_true, ite_false, List.length_cons, List.length_nil, tRaise, tErr, LamX.tLam, TTe, rSortedIA, rSortedTA, tDisp, tPairs])
      have sL : Same H (upd H L (.lst (((List.range n).filter fun _ => true).map fun _ => nv 0))) := same_new hL
      have e0 : ((List.range n).filter fun _ => true).map (fun _ => nv 0) = nvs (nearM n []) := by
        rw [List.filter_eq_self.mpr fun _ _ => rfl]
        unfold nearM
        rw [List.foldl_nil, List.map_const', List.length_range]
        exact (List.map_replicate ..).symm
      rw [e0] at sL ⊢
      subst hF1
      refine forS a ys (fun i σ' H' => ∃ y3 y4 y5, σ' = [some (nv n), some (.ref a), some (.ref L), y3, y4, y5] ∧ Same H H' ∧ H' L = some (.lst (nvs (nearM n (qs.take i))))) (fun R h => ?_) ⟨_, _, _, rfl, sL, upd_same⟩ H ha (fun i σ' H' h => by obtain ⟨_, _, _, _, h, _⟩ := h; exact h) ?_ ?_
      · (try simp only [tVar, tC, tOp, tUn, rI, rI0, rU, rEq, rNe, scal, tTest, tB, tAnd, tOr, tNot, tAndV, tOrV, tNotV, tIf, tChain, tNil, tCons, tCB, tCall, tTup, tLst, tRet, tRetN, tDrop, tSeq, tNext, tIfS, tAsg, gName, tPar, tPar3, gNil, gCons, gTup, gSub, tAug, tSl, tNoPart, tPart, tBM, tBM0, tYes, tIsP, iSeq, iEnumA, RZ.iZipA, iRng1, iRng2, iList, iTup, rIsi, rIsB, rIxL, rIxT, rIxA, rLenA, rListOf, rTupOf, rSetL, rSlL, rCat, rAppend, tFld, sFld, tMake, tBits, Int.ofNat_inj, cast1, cast0, TruV, cxOf, Cx.nox, Cx.wish, tNever, tBreak, tCont, ipI, tDIn, tDNotIn, sDPut, tDNewT, tDNewK, tDGet, rSortedPO, rSortedI, rIn, rEqD, rNeD, rInD, rNotInD, tSSet, rIsV, rIntI, rIntB, rAbsN, tLstRg, tRg1, tRg2, List.append_nil, List.nil_append, List.cons_append, Option.some.injEq, exists_eq_left', exists_eq_left, exists_eq_right, exists_eq_right', List.getElem?_cons_zero, List.getElem?_cons_succ, List.set_cons_zero, List.set_cons_succ, List.cons.injEq, and_true, true_and, exists_and_left, exists_and_right, and_assoc, V.int.injEq, V.bl.injEq, V.ref.injEq, V.str.injEq, reduceCtorEq, decide_true, decide_false, Bool.not_true, Bool.not_false, Bool.false_eq_true, if_false, if_true, ite_true, ite_false, List.length_cons, List.length_nil, tRaise, tErr, LamX.tLam, TTe, rSortedIA, rSortedTA, tDisp, tPairs])
        exact h
      · rintro i x σ' H' hx ⟨y2, y3, y4, rfl, sm, eL⟩
        obtain ⟨p, b, hpi, rfl, eb⟩ := Prs.at hp hx
        have gp := hg p (List.mem_of_getElem? hpi)
        have ln := near_len n (qs.take i)
        (try simp only [tVar, tC, tOp, tUn, rI, rI0, rU, rEq, rNe, scal, tTest, tB, tAnd, tOr, tNot, tAndV, tOrV, tNotV, tIf, tChain, tNil, tCons, tCB, tCall, tTup, tLst, tRet, tRetN, tDrop, tSeq, tNext, tIfS, tAsg, gName, tPar, tPar3, gNil, gCons, gTup, gSub, tAug, tSl, tNoPart, tPart, tBM, tBM0, tYes, tIsP, iSeq, iEnumA, RZ.iZipA, iRng1, iRng2, iList, iTup, rIsi, rIsB, rIxL, rIxT, rIxA, rLenA, rListOf, rTupOf, rSetL, rSlL, rCat, rAppend, tFld, sFld, tMake, tBits, Int.ofNat_inj, cast1, cast0, TruV, cxOf, Cx.nox, Cx.wish, tNever, tBreak, tCont, ipI, tDIn, tDNotIn, sDPut, tDNewT, tDNewK, tDGet, rSortedPO, rSortedI, rIn, rEqD, rNeD, rInD, rNotInD, tSSet, rIsV, rIntI, rIntB, rAbsN, tLstRg, tRg1, tRg2, List.append_nil, List.nil_append, List.cons_append, Option.some.injEq, exists_eq_left', exists_eq_left, exists_eq_right, exists_eq_right', List.getElem?_cons_zero, List.getElem?_cons_succ, List.set_cons_zero, List.set_cons_succ, List.cons.injEq, and_true, true_and, exists_and_left, exists_and_right, and_assoc, V.int.injEq, V.bl.injEq, V.ref.injEq, V.str.injEq, reduceCtorEq, decide_true, decide_false, Bool.not_true, Bool.not_false, Bool.false_eq_true, if_false, if_true, ite_true, ite_false, List.length_cons, List.length_nil, tRaise, tErr, LamX.tLam, TTe, rSortedIA, rSortedTA, tDisp, tPairs])
        refine ⟨_, .of (sm _ _ eb), ?_⟩
        (try simp only [tVar, tC, tOp, tUn, rI, rI0, rU, rEq, rNe, scal, tTest, tB, tAnd, tOr, tNot, tAndV, tOrV, tNotV, tIf, tChain, tNil, tCons, tCB, tCall, tTup, tLst, tRet, tRetN, tDrop, tSeq, tNext, tIfS, tAsg, gName, tPar, tPar3, gNil, gCons, gTup, gSub, tAug, tSl, tNoPart, tPart, tBM, tBM0, tYes, tIsP, iSeq, iEnumA, RZ.iZipA, iRng1, iRng2, iList, iTup, rIsi, rIsB, rIxL, rIxT, rIxA, rLenA, rListOf, rTupOf, rSetL, rSlL, rCat, rAppend, tFld, sFld, tMake, tBits, Int.ofNat_inj, cast1, cast0, TruV, cxOf, Cx.nox, Cx.wish, tNever, tBreak, tCont, ipI, tDIn, tDNotIn, sDPut, tDNewT, tDNewK, tDGet, rSortedPO, rSortedI, rIn, rEqD, rNeD, rInD, rNotInD, tSSet, rIsV, rIntI, rIntB, rAbsN, tLstRg, tRg1, tRg2, List.append_nil, List.nil_append, List.cons_append, Option.some.injEq, exists_eq_left', exists_eq_left, exists_eq_right, exists_eq_right', List.getElem?_cons_zero, List.getElem?_cons_succ, List.set_cons_zero, List.set_cons_succ, List.cons.injEq, and_true, true_and, exists_and_left, exists_and_right, and_assoc, V.int.injEq, V.bl.injEq, V.ref.injEq, V.str.injEq, reduceCtorEq, decide_true, decide_false, Bool.not_true, Bool.not_false, Bool.false_eq_true, if_false, if_true, ite_true, ite_false, List.length_cons, List.length_nil, tRaise, tErr, LamX.tLam, TTe, rSortedIA, rSortedTA, tDisp, tPairs])
        have h1 : p.1 < (nearM n (qs.take i)).length := by omega
        refine ⟨_, .of eL, _, nvs_ix h1, by omega, _, rfl, _, eL, _, ix_n h1, ?_⟩
        rw [nvs_set]
        have h2 : p.2 < ((nearM n (qs.take i)).set p.1 ((nearM n (qs.take i)).getD p.1 0 ||| 1 <<< p.2)).length := by rw [List.length_set]; omega
        refine ⟨_, .of upd_same, _, nvs_ix h2, by omega, _, rfl, _, upd_same, _, ix_n h2, ?_⟩
        rw [nvs_set, upd_upd, near_take hpi]
        refine ⟨fun b o hb => ?_, upd_same⟩
        rw [upd_ne (ne_of_none hb hL)]
        exact sm _ _ hb
      · rintro σ' H' ⟨y2, y3, y4, rfl, sm, eL⟩
        (try simp only [tVar, tC, tOp, tUn, rI, rI0, rU, rEq, rNe, scal, tTest, tB, tAnd, tOr, tNot, tAndV, tOrV, tNotV, tIf, tChain, tNil, tCons, tCB, tCall, tTup, tLst, tRet, tRetN, tDrop, tSeq, tNext, tIfS, tAsg, gName, tPar, tPar3, gNil, gCons, gTup, gSub, tAug, tSl, tNoPart, tPart, tBM, tBM0, tYes, tIsP, iSeq, iEnumA, RZ.iZipA, iRng1, iRng2, iList, iTup, rIsi, rIsB, rIxL, rIxT, rIxA, rLenA, rListOf, rTupOf, rSetL, rSlL, rCat, rAppend, tFld, sFld, tMake, tBits, Int.ofNat_inj, cast1, cast0, TruV, cxOf, Cx.nox, Cx.wish, tNever, tBreak, tCont, ipI, tDIn, tDNotIn, sDPut, tDNewT, tDNewK, tDGet, rSortedPO, rSortedI, rIn, rEqD, rNeD, rInD, rNotInD, tSSet, rIsV, rIntI, rIntB, rAbsN, tLstRg, tRg1, tRg2, List.append_nil, List.nil_append, List.cons_append, Option.some.injEq, exists_eq_left', exists_eq_left, exists_eq_right, exists_eq_right', List.getElem?_cons_zero, List.getElem?_cons_succ, List.set_cons_zero, List.set_cons_succ, List.cons.injEq, and_true, true_and, exists_and_left, exists_and_right, and_assoc, V.int.injEq, V.bl.injEq, V.ref.injEq, V.str.injEq, reduceCtorEq, decide_true, decide_false, Bool.not_true, Bool.not_false, Bool.false_eq_true, if_false, if_true, ite_true, ite_false, List.length_cons, List.length_nil, tRaise, tErr, LamX.tLam, TTe, rSortedIA, rSortedTA, tDisp, tPairs])
        rw [hp.len, List.take_length] at eL
        exact q H' L sm hL eL
def sp_law_close (K : PySem.W.Frag) : Sp := fun vs H Q _ => ∃ a near m, vs = [.ref a, nv m] ∧ SqL K H a (nvs near) ∧ near.length ≤ 62 ∧ m < 2 ^ near.length ∧ ∀ H', Same H H' → Q (nv (nearOf near m)) H'
end
end Kr
namespace Kr
open PySem PySem.Spec PyProof.Rows L2 Kb
section
variable {P : Program} {w : World} {K : PySem.W.Frag} {mg : Str → Option Value} {base : Heap}
/-- the pairs that come ahead of (a, b) -/
def plt (p q : NP) : Prop := p.1 < q.1 ∨ (p.1 = q.1 ∧ p.2 < q.2)
theorem plt_nd {ps : List NP} (h : ps.Pairwise plt) : ps.Nodup := h.imp fun {a b} z e => by
  rw [e] at z
  unfold plt at z
  omega
def Ahead (a b : Nat) (ps : List NP) : Prop := ps.Pairwise plt ∧ ∀ p ∈ ps, p.1 ≤ p.2 ∧ (p.1 < a ∨ (p.1 = a ∧ p.2 < b))
theorem Ahead.mono {a b b' : Nat} {ps : List NP} (h : Ahead a b ps) (e : b ≤ b') : Ahead a b' ps := ⟨h.1, fun p hp => by
  obtain ⟨h1, h2⟩ := h.2 p hp
  exact ⟨h1, by omega⟩⟩
theorem Ahead.row {a b : Nat} {ps : List NP} (h : Ahead a b ps) : Ahead (a + 1) 0 ps := ⟨h.1, fun p hp => by
  obtain ⟨h1, h2⟩ := h.2 p hp
  exact ⟨h1, by omega⟩⟩
theorem Ahead.snoc {a b : Nat} {ps : List NP} (h : Ahead a b ps) (e : a ≤ b) : Ahead a (b + 1) (ps ++ [(a, b)]) := by
  refine ⟨List.pairwise_append.mpr ⟨h.1, List.pairwise_singleton _ _, fun p hp q hq => ?_⟩, fun p hp => ?_⟩
  · rw [List.mem_singleton.mp hq]
    obtain ⟨_, h2⟩ := h.2 p hp
    unfold plt
    simp only
    omega
  · rcases List.mem_append.mp hp with hp | hp
    · obtain ⟨h1, h2⟩ := h.2 p hp
      exact ⟨h1, by omega⟩
    · rw [List.mem_singleton.mp hp]
      exact ⟨e, .inr ⟨rfl, Nat.lt_succ_self b⟩⟩
theorem iteB {c : Prop} [Decidable c] {p q : Prop} (h1 : p) (h2 : q) : if c then p else q := by
  split
  · exact h1
  · exact h2
def sp_law_graph (K : PySem.W.Frag) : Sp := fun vs H Q _ => ∃ b, ∃ n : Nat, vs = [.ref b, nv n] ∧ (1 ≤ n ∧ n ≤ 12) ∧ Bx b H ∧
  ∀ H' t xs ps, Same (hbx b H) (hbx b H') → Bx b H' → hbx b H t = none → hbx b H' t = some (.lst xs) → Prs (hbx b H') xs ps → GoodPairs n ps → (ps.length ≤ 144 ∧ ps.Pairwise plt) → Q (.ref t) H'
theorem ok__law_graph (T : Tx P K mg) : FnOk P w K mg base CX0 2 T.a__law_graph T.d__law_graph ["box", "many"] (sp_law_graph K) := by
  refine T.F__law_graph.ok sc__law_graph (fun vs H Q E h => ?_) (fun cdv A outer s H vs Q E hr h => ?_)
  · obtain ⟨b, n, rfl, _⟩ := h
    rfl
  · obtain ⟨b, n, rfl, ⟨n1, n2⟩, hb, q⟩ := h
    refine ⟨_, (pss_cons (ps_par (i := 2) (j := 3) (by rfl) sc__law_graph.nd rfl rfl (by decide) rfl rfl (pa_cons (pe_call (ok__law_take T) (hr.mono (by decide)) (by rfl) T.g__law_take T.F__law_take.kp T.b__law_take .nil pass0 (pa_cons (pv 0) (pa_cons pe_int pa_nil))) (pa_cons (pe_lst pa_nil) pa_nil)) (by rfl))
      (pss_cons (ps_for PassesOwn.never rfl (pi_range1 (by rfl) T.n_range (pa_cons (pv 1) pa_nil)) (pg_name (i := 4) sc__law_graph.nd rfl (Or.inl rfl)) (pss_one (ps_for PassesOwn.never rfl (pi_range2 (by rfl) T.n_range (pa_cons (pv 4) (pa_cons (pv 1) pa_nil))) (pg_name (i := 5) sc__law_graph.nd rfl (Or.inl rfl)) (pss_cons (ps_set (i := 6) sc__law_graph.nd rfl (Or.inl rfl) (pe_call (ok__law_take T) (hr.mono (by decide)) (by rfl) T.g__law_take T.F__law_take.kp T.b__law_take .nil pass0 (pa_cons (pv 0) (pa_cons pe_int pa_nil))))
      (pss_cons (ps_set (i := 7) sc__law_graph.nd rfl (Or.inl rfl) (pe_ifExp (pt_cmpR op_lt (pv 2) pe_int (nomark _)) (pe_cmpR op_eq (pv 4) (pv 5) (nomark _)) (pe_cmpR op_lt (pv 6) pe_int (nomark _))))
      (pss_cons (ps_if (pt_cmpR op_eq (pv 2) pe_int (nomark _)) (pss_one (ps_set (i := 7) sc__law_graph.nd rfl (Or.inl rfl) (pe_or (pv 7) (pe_one (pe_cmpR op_eq (pv 6) pe_int (nomark _)))))) pss_nil)
      (pss_cons (ps_if (pt_cmpR op_eq (pv 2) pe_int (nomark _)) (pss_one (ps_set (i := 7) sc__law_graph.nd rfl (Or.inl rfl) (pe_and (pe_cmpR op_eq (pe_op op_fdiv (pv 4) pe_int) (pe_op op_fdiv (pv 5) pe_int) (nomark _)) (pe_one (pe_or (pe_cmpR op_eq (pe_op op_mod (pv 4) pe_int) pe_int (nomark _)) (pe_one (pe_cmpR op_eq (pe_op op_mod (pv 5) pe_int) pe_int (nomark _)))))))) pss_nil)
      (pss_cons (ps_if (pt_cmpR op_eq (pv 2) pe_int (nomark _)) (pss_one (ps_set (i := 7) sc__law_graph.nd rfl (Or.inl rfl) (pe_cmpR op_lt (pv 6) pe_int (nomark _)))) pss_nil)
      (pss_one (ps_if (pt_val (pv 7)) (pss_one (ps_expr (bmK (K := K) rfl PySem.F.plainAttrs_list PySem.F.slot_list_append PySem.F.type_list_append mt_append (pv 3) (pa_cons (pe_tup (pa_cons (pv 4) (pa_cons (pv 5) pa_nil))) pa_nil)))) pss_nil))))))))))
      (pss_one (ps_ret (pv 3))))), ?_⟩
    rw [show L2.start ["box", "many", "side", "told", "one", "other", "chance", "hit"] [.ref b, nv n] = [some (.ref b), some (nv n), none, none, none, none, none, none] from rfl]
    generalize hF1 : tFor _ _ _ = F1
    (try simp only [tVar, tC, tOp, tUn, rI, rI0, rU, rEq, rNe, scal, tTest, tB, tAnd, tOr, tNot, tAndV, tOrV, tNotV, tIf, tChain, tNil, tCons, tCB, tCall, tTup, tLst, tRet, tRetN, tDrop, tSeq, tNext, tIfS, tAsg, gName, tPar, tPar3, gNil, gCons, gTup, gSub, tAug, tSl, tNoPart, tPart, tBM, tBM0, tYes, tIsP, iSeq, iEnumA, RZ.iZipA, iRng1, iRng2, iList, iTup, rIsi, rIsB, rIxL, rIxT, rIxA, rLenA, rListOf, rTupOf, rSetL, rSlL, rCat, rAppend, tFld, sFld, tMake, tBits, Int.ofNat_inj, cast1, cast0, TruV, cxOf, Cx.nox, Cx.wish, tNever, tBreak, tCont, ipI, tDIn, tDNotIn, sDPut, tDNewT, tDNewK, tDGet, rSortedPO, rSortedI, rIn, rEqD, rNeD, rInD, rNotInD, tSSet, rIsV, rIntI, rIntB, rAbsN, tLstRg, tRg1, tRg2, List.append_nil, List.nil_append, List.cons_append, Option.some.injEq, exists_eq_left', exists_eq_left, exists_eq_right, exists_eq_right', List.getElem?_cons_zero, List.getElem?_cons_succ, List.set_cons_zero, List.set_cons_succ, List.cons.injEq, and_true, true_and, exists_and_left, exists_and_right, and_assoc, V.int.injEq, V.bl.injEq, V.ref.injEq, V.str.injEq, reduceCtorEq, decide_true, decide_false, Bool.not_true, Bool.not_false, Bool.false_eq_true, if_false, if_true, ite_true, ite_false, List.length_cons, List.length_nil, tRaise, tErr, LamX.tLam, TTe, rSortedIA, rSortedTA, tDisp, tPairs])
    refine ⟨b, 5, rfl, by decide, hb, fun H1 side s1 hb1 hs => ?_⟩
    (try simp only [tVar, tC, tOp, tUn, rI, rI0, rU, rEq, rNe, scal, tTest, tB, tAnd, tOr, tNot, tAndV, tOrV, tNotV, tIf, tChain, tNil, tCons, tCB, tCall, tTup, tLst, tRet, tRetN, tDrop, tSeq, tNext, tIfS, tAsg, gName, tPar, tPar3, gNil, gCons, gTup, gSub, tAug, tSl, tNoPart, tPart, tBM, tBM0, tYes, tIsP, iSeq, iEnumA, RZ.iZipA, iRng1, iRng2, iList, iTup, rIsi, rIsB, rIxL, rIxT, rIxA, rLenA, rListOf, rTupOf, rSetL, rSlL, rCat, rAppend, tFld, sFld, tMake, tBits, Int.ofNat_inj, cast1, cast0, TruV, cxOf, Cx.nox, Cx.wish, tNever, tBreak, tCont, ipI, tDIn, tDNotIn, sDPut, tDNewT, tDNewK, tDGet, rSortedPO, rSortedI, rIn, rEqD, rNeD, rInD, rNotInD, tSSet, rIsV, rIntI, rIntB, rAbsN, tLstRg, tRg1, tRg2, List.append_nil, List.nil_append, List.cons_append, Option.some.injEq, exists_eq_left', exists_eq_left, exists_eq_right, exists_eq_right', List.getElem?_cons_zero, List.getElem?_cons_succ, List.set_cons_zero, List.set_cons_succ, List.cons.injEq, and_true, true_and, exists_and_left, exists_and_right, and_assoc, V.int.injEq, V.bl.injEq, V.ref.injEq, V.str.injEq, reduceCtorEq, decide_true, decide_false, Bool.not_true, Bool.not_false, Bool.false_eq_true, if_false, if_true, ite_true, ite_false, List.length_cons, List.length_nil, tRaise, tErr, LamX.tLam, TTe, rSortedIA, rSortedTA, tDisp, tPairs])
    refine ⟨by decide, fun t ht => ?_⟩
    have tG : ∀ o, hbx b H t ≠ some o := fun o e => by
      have := s1 _ _ e
      rw [hbx_free ht] at this
      cases this
    subst hF1
    refine forR1 n (fun i σ' H' => ∃ y4 y5 y6 y7 xs ps, σ' = [some (.ref b), some (nv n), some (nv side), some (.ref t), y4, y5, y6, y7] ∧ Same (hbx b H) (hbx b H') ∧ Bx b H' ∧ hbx b H' t = some (.lst xs) ∧ Prs (hbx b H') xs ps ∧ Ahead i 0 ps ∧ (∀ p ∈ ps, p.2 < n) ∧ ps.length ≤ 12 * i) (fun R h => ?_) (by omega) ?_ ?_ ?_
    · (try simp only [tVar, tC, tOp, tUn, rI, rI0, rU, rEq, rNe, scal, tTest, tB, tAnd, tOr, tNot, tAndV, tOrV, tNotV, tIf, tChain, tNil, tCons, tCB, tCall, tTup, tLst, tRet, tRetN, tDrop, tSeq, tNext, tIfS, tAsg, gName, tPar, tPar3, gNil, gCons, gTup, gSub, tAug, tSl, tNoPart, tPart, tBM, tBM0, tYes, tIsP, iSeq, iEnumA, RZ.iZipA, iRng1, iRng2, iList, iTup, rIsi, rIsB, rIxL, rIxT, rIxA, rLenA, rListOf, rTupOf, rSetL, rSlL, rCat, rAppend, tFld, sFld, tMake, tBits, Int.ofNat_inj, cast1, cast0, TruV, cxOf, Cx.nox, Cx.wish, tNever, tBreak, tCont, ipI, tDIn, tDNotIn, sDPut, tDNewT, tDNewK, tDGet, rSortedPO, rSortedI, rIn, rEqD, rNeD, rInD, rNotInD, tSSet, rIsV, rIntI, rIntB, rAbsN, tLstRg, tRg1, tRg2, List.append_nil, List.nil_append, List.cons_append, Option.some.injEq, exists_eq_left', exists_eq_left, exists_eq_right, exists_eq_right', List.getElem?_cons_zero, List.getElem?_cons_succ, List.set_cons_zero, List.set_cons_succ, List.cons.injEq, and_true, true_and, exists_and_left, exists_and_right, and_assoc, V.int.injEq, V.bl.injEq, V.ref.injEq, V.str.injEq, reduceCtorEq, decide_true, decide_false, Bool.not_true, Bool.not_false, Bool.false_eq_true, if_false, if_true, ite_true, ite_false, List.length_cons, List.length_nil, tRaise, tErr, LamX.tLam, TTe, rSortedIA, rSortedTA, tDisp, tPairs])
      exact h
    · exact ⟨_, _, _, _, [], [], rfl, s1.trans (hb1.mono (same_new ht)), hb1.same (same_new ht), hb1.new (same_new ht) ht upd_same, .nil, ⟨List.Pairwise.nil, fun p hp => absurd hp List.not_mem_nil⟩, fun p hp => absurd hp List.not_mem_nil, Nat.le_refl _⟩
    · rintro i σ' H' hi ⟨y4, y5, y6, y7, xs, ps, rfl, sm, hb2, et, hp0, ah, hn, hl⟩
      generalize hF2 : tFor _ _ _ = F2
      (try simp only [tVar, tC, tOp, tUn, rI, rI0, rU, rEq, rNe, scal, tTest, tB, tAnd, tOr, tNot, tAndV, tOrV, tNotV, tIf, tChain, tNil, tCons, tCB, tCall, tTup, tLst, tRet, tRetN, tDrop, tSeq, tNext, tIfS, tAsg, gName, tPar, tPar3, gNil, gCons, gTup, gSub, tAug, tSl, tNoPart, tPart, tBM, tBM0, tYes, tIsP, iSeq, iEnumA, RZ.iZipA, iRng1, iRng2, iList, iTup, rIsi, rIsB, rIxL, rIxT, rIxA, rLenA, rListOf, rTupOf, rSetL, rSlL, rCat, rAppend, tFld, sFld, tMake, tBits, Int.ofNat_inj, cast1, cast0, TruV, cxOf, Cx.nox, Cx.wish, tNever, tBreak, tCont, ipI, tDIn, tDNotIn, sDPut, tDNewT, tDNewK, tDGet, rSortedPO, rSortedI, rIn, rEqD, rNeD, rInD, rNotInD, tSSet, rIsV, rIntI, rIntB, rAbsN, tLstRg, tRg1, tRg2, List.append_nil, List.nil_append, List.cons_append, Option.some.injEq, exists_eq_left', exists_eq_left, exists_eq_right, exists_eq_right', List.getElem?_cons_zero, List.getElem?_cons_succ, List.set_cons_zero, List.set_cons_succ, List.cons.injEq, and_true, true_and, exists_and_left, exists_and_right, and_assoc, V.int.injEq, V.bl.injEq, V.ref.injEq, V.str.injEq, reduceCtorEq, decide_true, decide_false, Bool.not_true, Bool.not_false, Bool.false_eq_true, if_false, if_true, ite_true, ite_false, List.length_cons, List.length_nil, tRaise, tErr, LamX.tLam, TTe, rSortedIA, rSortedTA, tDisp, tPairs])
      subst hF2
      refine forR2 i n (fun j σ' H' => ∃ y5 y6 y7 xs ps, σ' = [some (.ref b), some (nv n), some (nv side), some (.ref t), some (nv i), y5, y6, y7] ∧ Same (hbx b H) (hbx b H') ∧ Bx b H' ∧ hbx b H' t = some (.lst xs) ∧ Prs (hbx b H') xs ps ∧ Ahead i (i + j) ps ∧ (∀ p ∈ ps, p.2 < n) ∧ ps.length ≤ 12 * i + j) (fun R h => ?_) (by omega) ?_ ?_ ?_
      · (try simp only [tVar, tC, tOp, tUn, rI, rI0, rU, rEq, rNe, scal, tTest, tB, tAnd, tOr, tNot, tAndV, tOrV, tNotV, tIf, tChain, tNil, tCons, tCB, tCall, tTup, tLst, tRet, tRetN, tDrop, tSeq, tNext, tIfS, tAsg, gName, tPar, tPar3, gNil, gCons, gTup, gSub, tAug, tSl, tNoPart, tPart, tBM, tBM0, tYes, tIsP, iSeq, iEnumA, RZ.iZipA, iRng1, iRng2, iList, iTup, rIsi, rIsB, rIxL, rIxT, rIxA, rLenA, rListOf, rTupOf, rSetL, rSlL, rCat, rAppend, tFld, sFld, tMake, tBits, Int.ofNat_inj, cast1, cast0, TruV, cxOf, Cx.nox, Cx.wish, tNever, tBreak, tCont, ipI, tDIn, tDNotIn, sDPut, tDNewT, tDNewK, tDGet, rSortedPO, rSortedI, rIn, rEqD, rNeD, rInD, rNotInD, tSSet, rIsV, rIntI, rIntB, rAbsN, tLstRg, tRg1, tRg2, List.append_nil, List.nil_append, List.cons_append, Option.some.injEq, exists_eq_left', exists_eq_left, exists_eq_right, exists_eq_right', List.getElem?_cons_zero, List.getElem?_cons_succ, List.set_cons_zero, List.set_cons_succ, List.cons.injEq, and_true, true_and, exists_and_left, exists_and_right, and_assoc, V.int.injEq, V.bl.injEq, V.ref.injEq, V.str.injEq, reduceCtorEq, decide_true, decide_false, Bool.not_true, Bool.not_false, Bool.false_eq_true, if_false, if_true, ite_true, ite_false, List.length_cons, List.length_nil, tRaise, tErr, LamX.tLam, TTe, rSortedIA, rSortedTA, tDisp, tPairs])
        exact h
      · exact ⟨_, _, _, xs, ps, rfl, sm, hb2, et, hp0, ah.mono (Nat.zero_le _), hn, hl⟩
      · rintro j σ' H' hj ⟨y5, y6, y7, xs, ps, rfl, sm, hb2, et, hp0, ah, hn, hl⟩
        generalize hS : tIfS (tB (tVar 7)) _ _ = S7
        (try simp only [tVar, tC, tOp, tUn, rI, rI0, rU, rEq, rNe, scal, tTest, tB, tAnd, tOr, tNot, tAndV, tOrV, tNotV, tIf, tChain, tNil, tCons, tCB, tCall, tTup, tLst, tRet, tRetN, tDrop, tSeq, tNext, tIfS, tAsg, gName, tPar, tPar3, gNil, gCons, gTup, gSub, tAug, tSl, tNoPart, tPart, tBM, tBM0, tYes, tIsP, iSeq, iEnumA, RZ.iZipA, iRng1, iRng2, iList, iTup, rIsi, rIsB, rIxL, rIxT, rIxA, rLenA, rListOf, rTupOf, rSetL, rSlL, rCat, rAppend, tFld, sFld, tMake, tBits, Int.ofNat_inj, cast1, cast0, TruV, cxOf, Cx.nox, Cx.wish, tNever, tBreak, tCont, ipI, tDIn, tDNotIn, sDPut, tDNewT, tDNewK, tDGet, rSortedPO, rSortedI, rIn, rEqD, rNeD, rInD, rNotInD, tSSet, rIsV, rIntI, rIntB, rAbsN, tLstRg, tRg1, tRg2, List.append_nil, List.nil_append, List.cons_append, Option.some.injEq, exists_eq_left', exists_eq_left, exists_eq_right, exists_eq_right', List.getElem?_cons_zero, List.getElem?_cons_succ, List.set_cons_zero, List.set_cons_succ, List.cons.injEq, and_true, true_and, exists_and_left, exists_and_right, and_assoc, V.int.injEq, V.bl.injEq, V.ref.injEq, V.str.injEq, reduceCtorEq, decide_true, decide_false, Bool.not_true, Bool.not_false, Bool.false_eq_true, if_false, if_true, ite_true, ite_false, List.length_cons, List.length_nil, tRaise, tErr, LamX.tLam, TTe, rSortedIA, rSortedTA, tDisp, tPairs])
        refine ⟨b, 6, rfl, by decide, hb2, fun H3 ch s3 hb3 hc => ?_⟩
        have et3 := s3 _ _ et
        have fin : ∀ (D : Ends) (v : Bool), D.nx [some (.ref b), some (nv n), some (nv side), some (.ref t), some (nv i), some (nv (i + j)), some (nv ch), some (.bl v)] H3 →
            (∀ p, H3 p = none → D.nx [some (.ref b), some (nv n), some (nv side), some (.ref t), some (nv i), some (nv (i + j)), some (nv ch), some (.bl v)] (upd (upd H3 p (.tup [nv i, nv (i + j)])) t (.lst (xs ++ [.ref p])))) →
            S7 D [some (.ref b), some (nv n), some (nv side), some (.ref t), some (nv i), some (nv (i + j)), some (nv ch), some (.bl v)] H3 := by
          intro D v e1 e2
          subst hS
          (try simp only [tVar, tC, tOp, tUn, rI, rI0, rU, rEq, rNe, scal, tTest, tB, tAnd, tOr, tNot, tAndV, tOrV, tNotV, tIf, tChain, tNil, tCons, tCB, tCall, tTup, tLst, tRet, tRetN, tDrop, tSeq, tNext, tIfS, tAsg, gName, tPar, tPar3, gNil, gCons, gTup, gSub, tAug, tSl, tNoPart, tPart, tBM, tBM0, tYes, tIsP, iSeq, iEnumA, RZ.iZipA, iRng1, iRng2, iList, iTup, rIsi, rIsB, rIxL, rIxT, rIxA, rLenA, rListOf, rTupOf, rSetL, rSlL, rCat, rAppend, tFld, sFld, tMake, tBits, Int.ofNat_inj, cast1, cast0, TruV, cxOf, Cx.nox, Cx.wish, tNever, tBreak, tCont, ipI, tDIn, tDNotIn, sDPut, tDNewT, tDNewK, tDGet, rSortedPO, rSortedI, rIn, rEqD, rNeD, rInD, rNotInD, tSSet, rIsV, rIntI, rIntB, rAbsN, tLstRg, tRg1, tRg2, List.append_nil, List.nil_append, List.cons_append, Option.some.injEq, exists_eq_left', exists_eq_left, exists_eq_right, exists_eq_right', List.getElem?_cons_zero, List.getElem?_cons_succ, List.set_cons_zero, List.set_cons_succ, List.cons.injEq, and_true, true_and, exists_and_left, exists_and_right, and_assoc, V.int.injEq, V.bl.injEq, V.ref.injEq, V.str.injEq, reduceCtorEq, decide_true, decide_false, Bool.not_true, Bool.not_false, Bool.false_eq_true, if_false, if_true, ite_true, ite_false, List.length_cons, List.length_nil, tRaise, tErr, LamX.tLam, TTe, rSortedIA, rSortedTA, tDisp, tPairs])
          cases v
          · exact iteF e1
          · refine iteT ⟨ty_lst (.of (hbx_le _ _ _ _ et3)), by decide, fun p hp => ⟨_, same_new hp _ _ (hbx_le _ _ _ _ et3), ?_, e2 p hp⟩⟩
            rw [hp0.len, sizeLine_eq]
            omega
        have no : ∃ xs ps, hbx b H3 t = some (.lst xs) ∧ Prs (hbx b H3) xs ps ∧ Ahead i (i + (j + 1)) ps ∧ (∀ p ∈ ps, p.2 < n) ∧ ps.length ≤ 12 * i + (j + 1) :=
          ⟨xs, ps, et3, hp0.same s3, ah.mono (by omega), hn, by omega⟩
        have yes : ∀ p, H3 p = none → Same (hbx b H) (hbx b (upd (upd H3 p (.tup [nv i, nv (i + j)])) t (.lst (xs ++ [.ref p])))) ∧ Bx b (upd (upd H3 p (.tup [nv i, nv (i + j)])) t (.lst (xs ++ [.ref p]))) ∧
            ∃ xs' ps', hbx b (upd (upd H3 p (.tup [nv i, nv (i + j)])) t (.lst (xs ++ [.ref p]))) t = some (.lst xs') ∧ Prs (hbx b (upd (upd H3 p (.tup [nv i, nv (i + j)])) t (.lst (xs ++ [.ref p])))) xs' ps' ∧ Ahead i (i + (j + 1)) ps' ∧ (∀ p ∈ ps', p.2 < n) ∧ ps'.length ≤ 12 * i + (j + 1) := by
          intro p hp
          have s4 := same_new (o := .tup [nv i, nv (i + j)]) hp
          have g4 := hb3.mono s4
          have et4 := g4 _ _ et3
          have ep : hbx b (upd H3 p (.tup [nv i, nv (i + j)])) p = some (.tup [nv i, nv (i + j)]) := hb3.new s4 hp upd_same
          refine ⟨fun a o ha => ?_, (hb3.same s4).put et4, xs ++ [.ref p], ps ++ [(i, i + j)], by rw [hbx_put et4, upd_same], ?_, ah.snoc (Nat.le_add_right i j), fun z hz => ?_, by rw [List.length_append, List.length_singleton]; omega⟩
          · rw [hbx_put et4, upd_ne (fun e => tG o (by rw [← e]; exact ha))]
            exact g4 _ _ (s3 _ _ (sm _ _ ha))
          · rw [hbx_put et4]
            exact (((hp0.same s3).same g4).snoc ⟨p, rfl, ep⟩).upd fun ys e => by rw [et4] at e; cases e
          · rcases List.mem_append.mp hz with hz | hz
            · exact hn z hz
            · rw [List.mem_singleton.mp hz]
              exact hj
        (try simp only [tVar, tC, tOp, tUn, rI, rI0, rU, rEq, rNe, scal, tTest, tB, tAnd, tOr, tNot, tAndV, tOrV, tNotV, tIf, tChain, tNil, tCons, tCB, tCall, tTup, tLst, tRet, tRetN, tDrop, tSeq, tNext, tIfS, tAsg, gName, tPar, tPar3, gNil, gCons, gTup, gSub, tAug, tSl, tNoPart, tPart, tBM, tBM0, tYes, tIsP, iSeq, iEnumA, RZ.iZipA, iRng1, iRng2, iList, iTup, rIsi, rIsB, rIxL, rIxT, rIxA, rLenA, rListOf, rTupOf, rSetL, rSlL, rCat, rAppend, tFld, sFld, tMake, tBits, Int.ofNat_inj, cast1, cast0, TruV, cxOf, Cx.nox, Cx.wish, tNever, tBreak, tCont, ipI, tDIn, tDNotIn, sDPut, tDNewT, tDNewK, tDGet, rSortedPO, rSortedI, rIn, rEqD, rNeD, rInD, rNotInD, tSSet, rIsV, rIntI, rIntB, rAbsN, tLstRg, tRg1, tRg2, List.append_nil, List.nil_append, List.cons_append, Option.some.injEq, exists_eq_left', exists_eq_left, exists_eq_right, exists_eq_right', List.getElem?_cons_zero, List.getElem?_cons_succ, List.set_cons_zero, List.set_cons_succ, List.cons.injEq, and_true, true_and, exists_and_left, exists_and_right, and_assoc, V.int.injEq, V.bl.injEq, V.ref.injEq, V.str.injEq, reduceCtorEq, decide_true, decide_false, Bool.not_true, Bool.not_false, Bool.false_eq_true, if_false, if_true, ite_true, ite_false, List.length_cons, List.length_nil, tRaise, tErr, LamX.tLam, TTe, rSortedIA, rSortedTA, tDisp, tPairs])
        repeat' (first | refine iteB ?_ ?_ | refine ⟨by decide, ?_⟩ | refine ⟨⟨by decide, by decide⟩, ?_⟩ | fail)
        all_goals
          refine fin _ _ ?_ fun p hp => ?_
          · obtain ⟨xs', ps', z⟩ := no
            exact ⟨⟨_, _, _, rfl⟩, sm.trans s3, hb3, xs', z.1, ps', z.2⟩
          · obtain ⟨z1, z2, xs', ps', z⟩ := yes p hp
            exact ⟨⟨_, _, _, rfl⟩, z1, z2, xs', z.1, ps', z.2⟩
      · rintro σ' H' ⟨y5, y6, y7, xs, ps, rfl, sm, hb2, et, hp0, ah, hn, hl⟩
        (try simp only [tVar, tC, tOp, tUn, rI, rI0, rU, rEq, rNe, scal, tTest, tB, tAnd, tOr, tNot, tAndV, tOrV, tNotV, tIf, tChain, tNil, tCons, tCB, tCall, tTup, tLst, tRet, tRetN, tDrop, tSeq, tNext, tIfS, tAsg, gName, tPar, tPar3, gNil, gCons, gTup, gSub, tAug, tSl, tNoPart, tPart, tBM, tBM0, tYes, tIsP, iSeq, iEnumA, RZ.iZipA, iRng1, iRng2, iList, iTup, rIsi, rIsB, rIxL, rIxT, rIxA, rLenA, rListOf, rTupOf, rSetL, rSlL, rCat, rAppend, tFld, sFld, tMake, tBits, Int.ofNat_inj, cast1, cast0, TruV, cxOf, Cx.nox, Cx.wish, tNever, tBreak, tCont, ipI, tDIn, tDNotIn, sDPut, tDNewT, tDNewK, tDGet, rSortedPO, rSortedI, rIn, rEqD, rNeD, rInD, rNotInD, tSSet, rIsV, rIntI, rIntB, rAbsN, tLstRg, tRg1, tRg2, List.append_nil, List.nil_append, List.cons_append, Option.some.injEq, exists_eq_left', exists_eq_left, exists_eq_right, exists_eq_right', List.getElem?_cons_zero, List.getElem?_cons_succ, List.set_cons_zero, List.set_cons_succ, List.cons.injEq, and_true, true_and, exists_and_left, exists_and_right, and_assoc, V.int.injEq, V.bl.injEq, V.ref.injEq, V.str.injEq, reduceCtorEq, decide_true, decide_false, Bool.not_true, Bool.not_false, Bool.false_eq_true, if_false, if_true, ite_true, ite_false, List.length_cons, List.length_nil, tRaise, tErr, LamX.tLam, TTe, rSortedIA, rSortedTA, tDisp, tPairs])
        exact ⟨⟨_, rfl⟩, sm, hb2, xs, et, ps, hp0, ah.row, hn, by omega⟩
    · rintro σ' H' ⟨y4, y5, y6, y7, xs, ps, rfl, sm, hb2, et, hp0, ah, hn, hl⟩
      (try simp only [tVar, tC, tOp, tUn, rI, rI0, rU, rEq, rNe, scal, tTest, tB, tAnd, tOr, tNot, tAndV, tOrV, tNotV, tIf, tChain, tNil, tCons, tCB, tCall, tTup, tLst, tRet, tRetN, tDrop, tSeq, tNext, tIfS, tAsg, gName, tPar, tPar3, gNil, gCons, gTup, gSub, tAug, tSl, tNoPart, tPart, tBM, tBM0, tYes, tIsP, iSeq, iEnumA, RZ.iZipA, iRng1, iRng2, iList, iTup, rIsi, rIsB, rIxL, rIxT, rIxA, rLenA, rListOf, rTupOf, rSetL, rSlL, rCat, rAppend, tFld, sFld, tMake, tBits, Int.ofNat_inj, cast1, cast0, TruV, cxOf, Cx.nox, Cx.wish, tNever, tBreak, tCont, ipI, tDIn, tDNotIn, sDPut, tDNewT, tDNewK, tDGet, rSortedPO, rSortedI, rIn, rEqD, rNeD, rInD, rNotInD, tSSet, rIsV, rIntI, rIntB, rAbsN, tLstRg, tRg1, tRg2, List.append_nil, List.nil_append, List.cons_append, Option.some.injEq, exists_eq_left', exists_eq_left, exists_eq_right, exists_eq_right', List.getElem?_cons_zero, List.getElem?_cons_succ, List.set_cons_zero, List.set_cons_succ, List.cons.injEq, and_true, true_and, exists_and_left, exists_and_right, and_assoc, V.int.injEq, V.bl.injEq, V.ref.injEq, V.str.injEq, reduceCtorEq, decide_true, decide_false, Bool.not_true, Bool.not_false, Bool.false_eq_true, if_false, if_true, ite_true, ite_false, List.length_cons, List.length_nil, tRaise, tErr, LamX.tLam, TTe, rSortedIA, rSortedTA, tDisp, tPairs])
      exact q H' t xs ps sm hb2 (Option.eq_none_iff_forall_ne_some.mpr tG) et hp0 ⟨plt_nd ah.1, fun p hp => ⟨(ah.2 p hp).1, hn p hp⟩⟩ ⟨by omega, ah.1⟩
end
end Kr
namespace Kr
open PySem PySem.Spec PyProof.Rows L2 Kb
/-! ### the plain law -/
theorem inc_ext : ∀ {a b : List Nat}, a.Pairwise (· < ·) → b.Pairwise (· < ·) → (∀ k, k ∈ a ↔ k ∈ b) → a = b
  | [], [], _, _, _ => rfl
  | [], y :: b, _, _, h => absurd ((h y).mpr List.mem_cons_self) List.not_mem_nil
  | x :: a, [], _, _, h => absurd ((h x).mp List.mem_cons_self) List.not_mem_nil
  | x :: a, y :: b, ha, hb, h => by
    obtain ⟨a1, a2⟩ := List.pairwise_cons.mp ha
    obtain ⟨b1, b2⟩ := List.pairwise_cons.mp hb
    have e : x = y := by
      have h1 := (h x).mp List.mem_cons_self
      have h2 := (h y).mpr List.mem_cons_self
      rcases List.mem_cons.mp h1 with h1 | h1
      · exact h1
      · rcases List.mem_cons.mp h2 with h2 | h2
        · exact h2.symm
        · have := a1 y h2
          have := b1 x h1
          omega
    subst e
    refine congrArg _ (inc_ext a2 b2 fun k => ⟨fun hk => ?_, fun hk => ?_⟩)
    · rcases List.mem_cons.mp ((h k).mp (List.mem_cons_of_mem _ hk)) with z | z
      · have := a1 k hk
        omega
      · exact z
    · rcases List.mem_cons.mp ((h k).mpr (List.mem_cons_of_mem _ hk)) with z | z
      · have := b1 k hk
        omega
      · exact z
theorem range_inc (n : Nat) : (List.range n).Pairwise (· < ·) := List.pairwise_lt_range
theorem filter_inc {n : Nat} (p : Nat → Bool) : ((List.range n).filter p).Pairwise (· < ·) := List.Pairwise.sublist List.filter_sublist (range_inc n)
theorem bits_inc (m : Nat) : (bits m).Pairwise (· < ·) := filter_inc _
theorem bits_is {m n : Nat} (hm : m < 2 ^ n) (h62 : n ≤ 62) {l : List Nat} (hl : l.Pairwise (· < ·)) (h : ∀ j, j ∈ l ↔ m.testBit j = true) : bits m = l :=
  inc_ext (bits_inc m) hl fun j => (mem_bits (Nat.lt_of_lt_of_le hm (Nat.pow_le_pow_right (by decide) h62))).trans (h j).symm
theorem nearP_perm {ps qs : List NP} (h : qs.Perm ps) {i j : Nat} : nearP qs i j ↔ nearP ps i j := by
  unfold nearP
  rw [h.mem_iff, h.mem_iff]
theorem GoodQ.perm {n : Nat} {ps qs : List NP} (h : qs.Perm ps) (g : GoodQ n ps) : GoodQ n qs := ⟨g.1, fun p hp => g.2 p (h.mem_iff.mp hp)⟩
theorem near_perm {n : Nat} {ps qs : List NP} (h : qs.Perm ps) (g : GoodQ n ps) : nearM n qs = nearM n ps := by
  refine List.ext_getElem (by rw [near_len, near_len]) fun i h1 h2 => ?_
  have e : ∀ (qs : List NP) (h : i < (nearM n qs).length), (nearM n qs)[i] = (nearM n qs).getD i 0 := fun qs h => by rw [List.getD_eq_getElem?_getD, List.getElem?_eq_getElem h]; rfl
  rw [e, e]
  refine Nat.eq_of_testBit_eq fun j => ?_
  rw [Bool.eq_iff_iff, near_test (g.perm h).2, near_test g.2]
  exact nearP_perm h
/-- near some key of the lot -/
theorem nearOf_is {n : Nat} {ps : List NP} (g : GoodQ n ps) {l : List Nat} (hl : ∀ k ∈ l, k < n) (j : Nat) : (nearOf (nearM n ps) (maskOf l)).testBit j = true ↔ ∃ k ∈ l, nearP ps k j := by
  rw [nearOf_test]
  have h12 := g.1
  have hm : maskOf l < 2 ^ 62 := Nat.lt_of_lt_of_le (maskOf_lt hl) (Nat.pow_le_pow_right (by decide) (by omega))
  constructor
  · rintro ⟨k, hk, h⟩
    rw [mem_bits hm, maskOf_test, decide_eq_true_eq] at hk
    exact ⟨k, hk, (near_test g.2 k j).mp h⟩
  · rintro ⟨k, hk, h⟩
    exact ⟨k, by rw [mem_bits hm, maskOf_test, decide_eq_true_eq]; exact hk, (near_test g.2 k j).mpr h⟩
theorem near_zero {n : Nat} {ps : List NP} (g : GoodQ n ps) (i : Nat) : (nearM n ps).getD i 0 = 0 ↔ ∀ j, j < n → ¬ nearP ps i j := by
  constructor
  · intro h j _ hj
    have := (near_test g.2 i j).mpr hj
    rw [h, Nat.zero_testBit] at this
    cases this
  · intro h
    refine Nat.eq_of_testBit_eq fun j => ?_
    rw [Nat.zero_testBit, Bool.eq_false_iff]
    intro hj
    have hp := (near_test g.2 i j).mp hj
    refine h j ?_ hp
    rcases hp with hp | hp
    · exact (g.2 _ hp).2
    · have := g.2 _ hp
      simp only at this
      omega
/-- whether the pairs tell that i and j clash -/
def nearB (ps : List NP) (i j : Nat) : Bool := decide ((i, j) ∈ ps) || decide ((j, i) ∈ ps)
theorem nearB_is {ps : List NP} {i j : Nat} : nearB ps i j = true ↔ nearP ps i j := by
  unfold nearB nearP
  rw [Bool.or_eq_true, decide_eq_true_eq, decide_eq_true_eq]
theorem near_lt {n : Nat} {ps : List NP} (g : GoodQ n ps) {i j : Nat} (h : nearP ps i j) : i < n ∧ j < n := by
  rcases h with h | h
  · have := g.2 _ h
    simp only at this
    omega
  · have := g.2 _ h
    simp only at this
    omega
theorem one_is {n i : Nat} {ps qs : List NP} (h : qs.Perm ps) (g : GoodQ n ps) (hi : i < n) : bits (nearOf (nearM n qs) (maskOf [i])) = (List.range n).filter (nearB ps i) := by
  have g2 := g.perm h
  have h12 := g.1
  refine bits_is (nearOf_lt g2) (by omega) (filter_inc _) fun j => ?_
  rw [nearOf_is g2 (fun k hk => by rw [List.mem_singleton.mp hk]; exact hi), List.mem_filter, List.mem_range, nearB_is]
  constructor
  · rintro ⟨_, hj⟩
    exact ⟨i, List.mem_singleton_self i, (nearP_perm h).mpr hj⟩
  · rintro ⟨k, hk, hj⟩
    rw [List.mem_singleton.mp hk] at hj
    have := (nearP_perm h).mp hj
    exact ⟨(near_lt g this).2, this⟩
/-- the numbers of values -/
def vn : V → Nat
  | .int i => i.toNat
  | _ => 0
theorem of_nvs {ys : List V} {l : List Nat} (h : ∀ y ∈ ys, y ∈ nvs l) : ys = nvs (ys.map vn) := by
  rw [show nvs (ys.map vn) = (ys.map vn).map nv from rfl, List.map_map]
  refine (List.map_id ys).symm.trans (List.map_congr_left fun y hy => ?_)
  obtain ⟨k, _, rfl⟩ := List.mem_map.mp (h y hy)
  show V.int (k : Int) = V.int (((k : Int).toNat : Nat) : Int)
  rw [Int.toNat_natCast]
theorem perm_nvs {ys : List V} {l : List Nat} (h : ys.Perm (nvs l)) : ∃ zs : List Nat, ys = nvs zs ∧ zs.Perm l := by
  refine ⟨ys.map vn, of_nvs fun y hy => h.mem_iff.mp hy, ?_⟩
  have := h.map vn
  rw [List.map_map] at this
  rw [show l.map (vn ∘ nv) = l from (List.map_congr_left fun k _ => (Int.toNat_natCast k)).trans (List.map_id l)] at this
  exact this
theorem nvs_ivs (l : List Nat) : nvs l = (l.map Int.ofNat).map V.int := by rw [List.map_map]; rfl
/-- ascending ints that are natural numbers -/
theorem asc_nat {out : List Int} {l : List Nat} (h1 : out.Pairwise (· < ·)) (h2 : ∀ k, k ∈ out ↔ k ∈ l.map Int.ofNat) : ∃ us : List Nat, out.map V.int = nvs us ∧ us.Pairwise (· < ·) ∧ ∀ k, k ∈ us ↔ k ∈ l := by
  have nn : ∀ k ∈ out, ∃ m : Nat, k = (m : Int) ∧ m ∈ l := fun k hk => by
    obtain ⟨m, hm, rfl⟩ := List.mem_map.mp ((h2 k).mp hk)
    exact ⟨m, rfl, hm⟩
  refine ⟨out.map Int.toNat, ?_, ?_, fun k => ?_⟩
  · rw [show nvs (out.map Int.toNat) = (out.map Int.toNat).map nv from rfl, List.map_map]
    refine List.map_congr_left fun k hk => ?_
    obtain ⟨m, rfl, _⟩ := nn k hk
    show V.int (m : Int) = V.int (((m : Int).toNat : Nat) : Int)
    rw [Int.toNat_natCast]
  · rw [List.pairwise_map]
    refine List.Pairwise.imp_of_mem (fun {a b} ha hb h => ?_) h1
    obtain ⟨m, rfl, _⟩ := nn a ha
    obtain ⟨m2, rfl, _⟩ := nn b hb
    omega
  · constructor
    · intro h
      obtain ⟨a, ha, rfl⟩ := List.mem_map.mp h
      obtain ⟨m, rfl, hm⟩ := nn a ha
      rw [Int.toNat_natCast]
      exact hm
    · intro h
      exact List.mem_map.mpr ⟨(k : Int), (h2 _).mpr (List.mem_map.mpr ⟨k, h, rfl⟩), Int.toNat_natCast k⟩
theorem both_is {n : Nat} {qs : List NP} (g : GoodQ n qs) {l m us vs : List Nat} (hl : ∀ k ∈ l, k < n) (hm : ∀ k ∈ m, k < n) (hu : ∀ k, k ∈ us ↔ k ∈ l ++ m) (hv : vs.Pairwise (· < ·))
    (hv2 : ∀ k, k ∈ vs ↔ k ∈ bits (nearOf (nearM n qs) (maskOf l)) ++ bits (nearOf (nearM n qs) (maskOf m))) : bits (nearOf (nearM n qs) (maskOf us)) = vs := by
  have h12 := g.1
  have h62 : ∀ l : List Nat, nearOf (nearM n qs) (maskOf l) < 2 ^ 62 := fun l => Nat.lt_of_lt_of_le (nearOf_lt g) (Nat.pow_le_pow_right (by decide) (by omega))
  refine bits_is (nearOf_lt g) (by omega) hv fun j => ?_
  rw [hv2, List.mem_append, mem_bits (h62 l), mem_bits (h62 m), nearOf_is g hl, nearOf_is g hm, nearOf_is g (fun k hk => ?_)]
  · constructor
    · rintro (⟨k, hk, h⟩ | ⟨k, hk, h⟩)
      · exact ⟨k, (hu k).mpr (List.mem_append_left _ hk), h⟩
      · exact ⟨k, (hu k).mpr (List.mem_append_right _ hk), h⟩
    · rintro ⟨k, hk, h⟩
      rcases List.mem_append.mp ((hu k).mp hk) with hk | hk
      · exact .inl ⟨k, hk, h⟩
      · exact .inr ⟨k, hk, h⟩
  · rcases List.mem_append.mp ((hu k).mp hk) with hk | hk
    · exact hl k hk
    · exact hm k hk
theorem plain_good {n : Nat} (h : n ≤ 12) : GoodQ n ((List.range n).map fun i => (i, i)) := ⟨h, fun p hp => by
  obtain ⟨i, hi, rfl⟩ := List.mem_map.mp hp
  exact ⟨Nat.le_refl _, List.mem_range.mp hi⟩⟩
theorem plain_is {n : Nat} {qs : List NP} (h12 : n ≤ 12) (h : qs.Perm ((List.range n).map fun i => (i, i))) {l vs : List Nat} (hl : ∀ k ∈ l, k < n) (hv : vs.Pairwise (· < ·)) (hv2 : ∀ k, k ∈ vs ↔ k ∈ l) : bits (nearOf (nearM n qs) (maskOf l)) = vs := by
  have g := (plain_good h12).perm h
  refine bits_is (nearOf_lt g) (by omega) hv fun j => ?_
  rw [hv2, nearOf_is g hl]
  have np : ∀ k, nearP qs k j ↔ k < n ∧ k = j := fun k => by
    rw [nearP_perm h]
    unfold nearP
    simp only [List.mem_map, List.mem_range, Prod.mk.injEq]
    constructor
    · rintro (⟨a, b, c, d⟩ | ⟨a, b, c, d⟩) <;> omega
    · rintro ⟨a, rfl⟩
      exact .inl ⟨k, a, rfl, rfl⟩
  constructor
  · intro hj
    exact ⟨j, hj, (np j).mpr ⟨hl j hj, rfl⟩⟩
  · rintro ⟨k, hk, h⟩
    rw [← ((np k).mp h).2]
    exact hk
theorem rgV_nvs (n : Nat) : rgV 0 (n : Int) = nvs (List.range n) := by
  unfold rgV
  rw [Int.sub_zero, Int.toNat_natCast]
  exact List.map_congr_left fun i _ => congrArg V.int (Int.zero_add _)
theorem cut_nvs {l : List Nat} {k : Nat} (h : k ≤ l.length) : cutV (nvs l) none (some (k : Int)) = nvs (l.take k) := by
  rw [cut_to (by rw [List.length_map]; exact h)]
  exact (List.map_take ..).symm
/-- a lot of drawn keys -/
theorem lot_ok {zs : List Nat} {n : Nat} (h : zs.Perm (List.range n)) (k : Nat) : (zs.take k).Nodup ∧ (∀ j ∈ zs.take k, j < n) ∧ (zs.take k).length ≤ n := by
  have h1 : zs.Nodup := h.nodup_iff.mpr List.nodup_range
  refine ⟨List.Nodup.sublist (List.take_sublist _ _) h1, fun j hj => List.mem_range.mp (h.mem_iff.mp (List.mem_of_mem_take hj)), ?_⟩
  have := h.length_eq
  rw [List.length_range] at this
  rw [List.length_take]
  omega
theorem cat_nvs (a b : List Nat) : nvs a ++ nvs b = ((a ++ b).map Int.ofNat).map V.int := by
  rw [← nvs_ivs]
  exact (List.map_append ..).symm
theorem bits_len {m n : Nat} (h : m < 2 ^ n) : (bits m).length ≤ n := nd_len ((bits_inc m).imp fun h => Nat.ne_of_lt h) fun k hk => bits_below h hk
end Kr
namespace Kr
open PySem PySem.Spec PyProof.Rows L2 Kb
section
variable {P : Program} {w : World} {K : PySem.W.Frag} {mg : Str → Option Value} {base : Heap}
/-! ### what hangs together -/
inductive Rch (R : Nat → Nat → Prop) (a : Nat) : Nat → Prop
  | refl : Rch R a a
  | step {b c : Nat} : Rch R a b → R b c → Rch R a c
theorem Rch.trans {R : Nat → Nat → Prop} {a b c : Nat} (h : Rch R a b) (h2 : Rch R b c) : Rch R a c := by
  induction h2 with
  | refl => exact h
  | step _ r ih => exact ih.step r
theorem Rch.symm {R : Nat → Nat → Prop} (s : ∀ a b, R a b → R b a) {a b : Nat} (h : Rch R a b) : Rch R b a := by
  induction h with
  | refl => exact .refl
  | step _ r ih => exact (Rch.step .refl (s _ _ r)).trans ih
theorem nearP_symm (qs : List NP) : ∀ a b, nearP qs a b → nearP qs b a := fun _ _ h => h.symm
theorem rch_lt {n : Nat} {qs : List NP} (g : GoodQ n qs) {a b : Nat} (ha : a < n) (h : Rch (nearP qs) a b) : b < n := by
  cases h with
  | refl => exact ha
  | step _ r => exact (near_lt g r).2
/-- the test of a bit one key -/
theorem one_bit (k j : Nat) : (1 <<< k).testBit j = decide (k = j) := by
  rw [Nat.shiftLeft_eq, Nat.one_mul, Nat.testBit_two_pow]
/-- the measure of a loop: how much is left below 2^n -/
def leftN (n i : Nat) (σ : L2.St) : Nat := match σ[i]? with
  | some (some (.int z)) => 2 ^ n - z.toNat
  | _ => 0
def sp_part_of (K : PySem.W.Frag) : Sp := fun vs H Q _ => ∃ a qs n, ∃ key : Nat, vs = [.ref a, nv key] ∧ SqL K H a (nvs (nearM n qs)) ∧ GoodQ n qs ∧ key < n ∧ ∀ (H' : Hp) (m : Nat), Same H H' → m < 2 ^ n → (∀ j, m.testBit j = true ↔ Rch (nearP qs) key j) → Q (nv m) H'
theorem ok_part_of (T : Tx P K mg) : FnOk P w K mg base CX0 3 T.a_part_of T.d_part_of ["near", "key"] (sp_part_of K) := by
  refine T.F_part_of.ok sc_part_of (fun vs H Q E h => ?_) (fun cdv A outer s H vs Q E hr h => ?_)
  · obtain ⟨a, qs, n, key, rfl, _⟩ := h
    rfl
  · obtain ⟨a, qs, n, key, rfl, hs, hg, hk, q⟩ := h
    refine ⟨_, (pss_cons (ps_set (i := 2) sc_part_of.nd rfl (Or.inl rfl) (pe_op op_shlU pe_int (pv 1)))
      (pss_cons (ps_set (i := 3) sc_part_of.nd rfl (Or.inl rfl) (pe_op op_orU (pv 2) (pe_call (ok_near_of T) (hr.mono (by decide)) (by rfl) T.g_near_of T.F_near_of.kp T.b_near_of .nil pass0 (pa_cons (pv 0) (pa_cons (pv 2) pa_nil)))))
      (pss_cons (ps_while PassesOwn.never (pt_cmpR op_ne (pv 3) (pv 2) (nomark _)) (pss_cons (ps_set (i := 2) sc_part_of.nd rfl (Or.inl rfl) (pv 3))
      (pss_one (ps_set (i := 3) sc_part_of.nd rfl (Or.inl rfl) (pe_op op_orU (pv 2) (pe_call (ok_near_of T) (hr.mono (by decide)) (by rfl) T.g_near_of T.F_near_of.kp T.b_near_of .nil pass0 (pa_cons (pv 0) (pa_cons (pv 2) pa_nil))))))))
      (pss_one (ps_ret (pv 2)))))), ?_⟩
    rw [show L2.start ["near", "key", "part", "more"] [.ref a, nv key] = [some (.ref a), some (nv key), none, none] from rfl]
    generalize hW : tWhile _ _ = W
    (try simp only [tVar, tC, tOp, tUn, rI, rI0, rU, rEq, rNe, scal, tTest, tB, tAnd, tOr, tNot, tAndV, tOrV, tNotV, tIf, tChain, tNil, tCons, tCB, tCall, tTup, tLst, tRet, tRetN, tDrop, tSeq, tNext, tIfS, tAsg, gName, tPar, tPar3, gNil, gCons, gTup, gSub, tAug, tSl, tNoPart, tPart, tBM, tBM0, tYes, tIsP, iSeq, iEnumA, RZ.iZipA, iRng1, iRng2, iList, iTup, rIsi, rIsB, rIxL, rIxT, rIxA, rLenA, rListOf, rTupOf, rSetL, rSlL, rCat, rAppend, tFld, sFld, tMake, tBits, Int.ofNat_inj, cast1, cast0, TruV, cxOf, Cx.nox, Cx.wish, tNever, tBreak, tCont, ipI, tDIn, tDNotIn, sDPut, tDNewT, tDNewK, tDGet, rSortedPO, rSortedI, rIn, rEqD, rNeD, rInD, rNotInD, tSSet, rIsV, rIntI, rIntB, rAbsN, tLstRg, tRg1, tRg2, List.append_nil, List.nil_append, List.cons_append, Option.some.injEq, exists_eq_left', exists_eq_left, exists_eq_right, exists_eq_right', List.getElem?_cons_zero, List.getElem?_cons_succ, List.set_cons_zero, List.set_cons_succ, List.cons.injEq, and_true, true_and, exists_and_left, exists_and_right, and_assoc, V.int.injEq, V.bl.injEq, V.ref.injEq, V.str.injEq, reduceCtorEq, decide_true, decide_false, Bool.not_true, Bool.not_false, Bool.false_eq_true, if_false, if_true, ite_true, ite_false, List.length_cons, List.length_nil, tRaise, tErr, LamX.tLam, TTe, rSortedIA, rSortedTA, tDisp, tPairs])
    have h12 := hg.1
    have nl := near_len n qs
    have one_lt : 1 <<< key < 2 ^ n := by
      rw [Nat.shiftLeft_eq, Nat.one_mul]
      exact Nat.pow_lt_pow_right (by decide) hk
    refine ⟨by omega, a, nearM n qs, 1 <<< key, rfl, hs, by omega, by rw [nl]; exact one_lt, fun H1 s1 => ?_⟩
    (try simp only [tVar, tC, tOp, tUn, rI, rI0, rU, rEq, rNe, scal, tTest, tB, tAnd, tOr, tNot, tAndV, tOrV, tNotV, tIf, tChain, tNil, tCons, tCB, tCall, tTup, tLst, tRet, tRetN, tDrop, tSeq, tNext, tIfS, tAsg, gName, tPar, tPar3, gNil, gCons, gTup, gSub, tAug, tSl, tNoPart, tPart, tBM, tBM0, tYes, tIsP, iSeq, iEnumA, RZ.iZipA, iRng1, iRng2, iList, iTup, rIsi, rIsB, rIxL, rIxT, rIxA, rLenA, rListOf, rTupOf, rSetL, rSlL, rCat, rAppend, tFld, sFld, tMake, tBits, Int.ofNat_inj, cast1, cast0, TruV, cxOf, Cx.nox, Cx.wish, tNever, tBreak, tCont, ipI, tDIn, tDNotIn, sDPut, tDNewT, tDNewK, tDGet, rSortedPO, rSortedI, rIn, rEqD, rNeD, rInD, rNotInD, tSSet, rIsV, rIntI, rIntB, rAbsN, tLstRg, tRg1, tRg2, List.append_nil, List.nil_append, List.cons_append, Option.some.injEq, exists_eq_left', exists_eq_left, exists_eq_right, exists_eq_right', List.getElem?_cons_zero, List.getElem?_cons_succ, List.set_cons_zero, List.set_cons_succ, List.cons.injEq, and_true, true_and, exists_and_left, exists_and_right, and_assoc, V.int.injEq, V.bl.injEq, V.ref.injEq, V.str.injEq, reduceCtorEq, decide_true, decide_false, Bool.not_true, Bool.not_false, Bool.false_eq_true, if_false, if_true, ite_true, ite_false, List.length_cons, List.length_nil, tRaise, tErr, LamX.tLam, TTe, rSortedIA, rSortedTA, tDisp, tPairs])
    subst hW
    refine while_by (fun σ' H' => ∃ p : Nat, σ' = [some (.ref a), some (nv key), some (nv p), some (nv (p ||| nearOf (nearM n qs) p))] ∧ Same H H' ∧ p < 2 ^ n ∧ p.testBit key = true ∧ ∀ j, p.testBit j = true → Rch (nearP qs) key j) (fun σ' _ => leftN n 2 σ') ⟨_, rfl, s1, one_lt, by rw [one_bit]; simp, fun j hj => ?_⟩ ?_ (fun σ H Q Q' m h => ?_)
    · rw [one_bit] at hj
      rw [← of_decide_eq_true hj]
      exact .refl
    · rintro σ' H' ⟨p, rfl, sm, hp, hpk, hpr⟩
      have hmem : ∀ k, k ∈ bits p ↔ p.testBit k = true := fun k => mem_bits (Nat.lt_of_lt_of_le hp (Nat.pow_le_pow_right (by decide) (by omega)))
      have hnt : ∀ j, (nearOf (nearM n qs) p).testBit j = true ↔ ∃ k, p.testBit k = true ∧ nearP qs k j := fun j => by
        rw [nearOf_test]
        exact ⟨fun ⟨k, h1, h2⟩ => ⟨k, (hmem k).mp h1, (near_test hg.2 k j).mp h2⟩, fun ⟨k, h1, h2⟩ => ⟨k, (hmem k).mpr h1, (near_test hg.2 k j).mpr h2⟩⟩
      have hlt : p ||| nearOf (nearM n qs) p < 2 ^ n := Nat.or_lt_two_pow hp (nearOf_lt hg)
      (try simp only [tVar, tC, tOp, tUn, rI, rI0, rU, rEq, rNe, scal, tTest, tB, tAnd, tOr, tNot, tAndV, tOrV, tNotV, tIf, tChain, tNil, tCons, tCB, tCall, tTup, tLst, tRet, tRetN, tDrop, tSeq, tNext, tIfS, tAsg, gName, tPar, tPar3, gNil, gCons, gTup, gSub, tAug, tSl, tNoPart, tPart, tBM, tBM0, tYes, tIsP, iSeq, iEnumA, RZ.iZipA, iRng1, iRng2, iList, iTup, rIsi, rIsB, rIxL, rIxT, rIxA, rLenA, rListOf, rTupOf, rSetL, rSlL, rCat, rAppend, tFld, sFld, tMake, tBits, Int.ofNat_inj, cast1, cast0, TruV, cxOf, Cx.nox, Cx.wish, tNever, tBreak, tCont, ipI, tDIn, tDNotIn, sDPut, tDNewT, tDNewK, tDGet, rSortedPO, rSortedI, rIn, rEqD, rNeD, rInD, rNotInD, tSSet, rIsV, rIntI, rIntB, rAbsN, tLstRg, tRg1, tRg2, List.append_nil, List.nil_append, List.cons_append, Option.some.injEq, exists_eq_left', exists_eq_left, exists_eq_right, exists_eq_right', List.getElem?_cons_zero, List.getElem?_cons_succ, List.set_cons_zero, List.set_cons_succ, List.cons.injEq, and_true, true_and, exists_and_left, exists_and_right, and_assoc, V.int.injEq, V.bl.injEq, V.ref.injEq, V.str.injEq, reduceCtorEq, decide_true, decide_false, Bool.not_true, Bool.not_false, Bool.false_eq_true, if_false, if_true, ite_true, ite_false, List.length_cons, List.length_nil, tRaise, tErr, LamX.tLam, TTe, rSortedIA, rSortedTA, tDisp, tPairs])
      by_cases e : p ||| nearOf (nearM n qs) p = p
      · rw [e, decide_eq_true rfl]
        refine iteF ?_
        refine q H' p sm hp fun j => ⟨hpr j, fun h => ?_⟩
        induction h with
        | refl => exact hpk
        | @step b c _ r ih =>
          have h1 : (p ||| nearOf (nearM n qs) p).testBit c = true := by
            rw [Nat.testBit_or, Bool.or_eq_true]
            exact .inr ((hnt c).mpr ⟨b, ih, r⟩)
          rw [e] at h1
          exact h1
      · rw [decide_eq_false (by omega)]
        refine iteT ?_
        refine ⟨a, nearM n qs, p ||| nearOf (nearM n qs) p, rfl, Same.seq sm hs, by omega, by rw [nl]; exact hlt, fun H2 s2 => ?_⟩
        (try simp only [tVar, tC, tOp, tUn, rI, rI0, rU, rEq, rNe, scal, tTest, tB, tAnd, tOr, tNot, tAndV, tOrV, tNotV, tIf, tChain, tNil, tCons, tCB, tCall, tTup, tLst, tRet, tRetN, tDrop, tSeq, tNext, tIfS, tAsg, gName, tPar, tPar3, gNil, gCons, gTup, gSub, tAug, tSl, tNoPart, tPart, tBM, tBM0, tYes, tIsP, iSeq, iEnumA, RZ.iZipA, iRng1, iRng2, iList, iTup, rIsi, rIsB, rIxL, rIxT, rIxA, rLenA, rListOf, rTupOf, rSetL, rSlL, rCat, rAppend, tFld, sFld, tMake, tBits, Int.ofNat_inj, cast1, cast0, TruV, cxOf, Cx.nox, Cx.wish, tNever, tBreak, tCont, ipI, tDIn, tDNotIn, sDPut, tDNewT, tDNewK, tDGet, rSortedPO, rSortedI, rIn, rEqD, rNeD, rInD, rNotInD, tSSet, rIsV, rIntI, rIntB, rAbsN, tLstRg, tRg1, tRg2, List.append_nil, List.nil_append, List.cons_append, Option.some.injEq, exists_eq_left', exists_eq_left, exists_eq_right, exists_eq_right', List.getElem?_cons_zero, List.getElem?_cons_succ, List.set_cons_zero, List.set_cons_succ, List.cons.injEq, and_true, true_and, exists_and_left, exists_and_right, and_assoc, V.int.injEq, V.bl.injEq, V.ref.injEq, V.str.injEq, reduceCtorEq, decide_true, decide_false, Bool.not_true, Bool.not_false, Bool.false_eq_true, if_false, if_true, ite_true, ite_false, List.length_cons, List.length_nil, tRaise, tErr, LamX.tLam, TTe, rSortedIA, rSortedTA, tDisp, tPairs])
        refine ⟨sm.trans s2, hlt, ?_, fun j hj => ?_, ?_⟩
        · rw [Nat.testBit_or, hpk, Bool.true_or]
        · rw [Nat.testBit_or, Bool.or_eq_true] at hj
          rcases hj with hj | hj
          · exact hpr j hj
          · obtain ⟨k, h1, h2⟩ := (hnt j).mp hj
            exact (hpr k h1).step h2
        · have ge : p ≤ p ||| nearOf (nearM n qs) p := Nat.left_le_or
          show 2 ^ n - (Int.toNat _) < 2 ^ n - (Int.toNat _)
          rw [Int.toNat_natCast, Int.toNat_natCast]
          omega
    · revert h
      (try simp only [tVar, tC, tOp, tUn, rI, rI0, rU, rEq, rNe, scal, tTest, tB, tAnd, tOr, tNot, tAndV, tOrV, tNotV, tIf, tChain, tNil, tCons, tCB, tCall, tTup, tLst, tRet, tRetN, tDrop, tSeq, tNext, tIfS, tAsg, gName, tPar, tPar3, gNil, gCons, gTup, gSub, tAug, tSl, tNoPart, tPart, tBM, tBM0, tYes, tIsP, iSeq, iEnumA, RZ.iZipA, iRng1, iRng2, iList, iTup, rIsi, rIsB, rIxL, rIxT, rIxA, rLenA, rListOf, rTupOf, rSetL, rSlL, rCat, rAppend, tFld, sFld, tMake, tBits, Int.ofNat_inj, cast1, cast0, TruV, cxOf, Cx.nox, Cx.wish, tNever, tBreak, tCont, ipI, tDIn, tDNotIn, sDPut, tDNewT, tDNewK, tDGet, rSortedPO, rSortedI, rIn, rEqD, rNeD, rInD, rNotInD, tSSet, rIsV, rIntI, rIntB, rAbsN, tLstRg, tRg1, tRg2, List.append_nil, List.nil_append, List.cons_append, Option.some.injEq, exists_eq_left', exists_eq_left, exists_eq_right, exists_eq_right', List.getElem?_cons_zero, List.getElem?_cons_succ, List.set_cons_zero, List.set_cons_succ, List.cons.injEq, and_true, true_and, exists_and_left, exists_and_right, and_assoc, V.int.injEq, V.bl.injEq, V.ref.injEq, V.str.injEq, reduceCtorEq, decide_true, decide_false, Bool.not_true, Bool.not_false, Bool.false_eq_true, if_false, if_true, ite_true, ite_false, List.length_cons, List.length_nil, tRaise, tErr, LamX.tLam, TTe, rSortedIA, rSortedTA, tDisp, tPairs])
      rintro ⟨v, e1, v1, e2, z, g⟩
      exact ⟨v, e1, v1, e2, z, m _ _ g⟩
/-! ### the parts -/
def IsPart (qs : List NP) (n : Nat) (l : List Nat) : Prop := l.Pairwise (· < ·) ∧ ∃ key, key < n ∧ ∀ j, j ∈ l ↔ Rch (nearP qs) key j
theorem IsPart.lt {qs : List NP} {n : Nat} {l : List Nat} (g : GoodQ n qs) (h : IsPart qs n l) : ∀ j ∈ l, j < n := by
  obtain ⟨_, key, hk, hl⟩ := h
  exact fun j hj => rch_lt g hk ((hl j).mp hj)
theorem IsPart.rch {qs : List NP} {n : Nat} {l : List Nat} (h : IsPart qs n l) {i : Nat} (hi : i ∈ l) (j : Nat) : j ∈ l ↔ Rch (nearP qs) i j := by
  obtain ⟨_, key, hk, hl⟩ := h
  have h1 := ((hl i).mp hi)
  exact ⟨fun hj => (h1.symm (nearP_symm qs)).trans ((hl j).mp hj), fun hj => (hl j).mpr (h1.trans hj)⟩
theorem IsPart.eq {qs : List NP} {n : Nat} {l m : List Nat} (h1 : IsPart qs n l) (h2 : IsPart qs n m) {i : Nat} (hi : i ∈ l) (hj : i ∈ m) : l = m :=
  inc_ext h1.1 h2.1 fun k => (h1.rch hi k).trans (h2.rch hj k).symm
theorem IsPart.ne {qs : List NP} {n : Nat} {l : List Nat} (h : IsPart qs n l) : l ≠ [] := by
  obtain ⟨_, key, hk, hl⟩ := h
  intro e
  have := (hl key).mpr .refl
  rw [e] at this
  cases this
theorem IsPart.len {qs : List NP} {n : Nat} {l : List Nat} (g : GoodQ n qs) (h : IsPart qs n l) : l.length ≤ n := nd_len (h.1.imp fun h => Nat.ne_of_lt h) (h.lt g)
/-- a part as a dict's key -/
def kL (l : List Nat) : List Key := l.map fun k : Nat => Sum.inl (k : Int)
theorem kL_inj {l m : List Nat} (h : kL l = kL m) : l = m := by
  unfold kL at h
  induction l generalizing m with
  | nil => cases m with
    | nil => rfl
    | cons => cases h
  | cons a r ih =>
    cases m with
    | nil => cases h
    | cons b s =>
      rw [List.map_cons, List.map_cons] at h
      injection h with h1 h2
      injection h1 with h1
      rw [ih h2, show a = b by omega]
theorem kL_V (l : List Nat) : (kL l).map kV = nvs l := by
  unfold kL
  rw [List.map_map]
  rfl
def entL (l : List Nat) : List Key × V := (kL l, .bl true)
theorem valL_none {ls : List (List Nat)} {l : List Nat} (h : l ∉ ls) : valV (ls.map entL) (kL l) = none := by
  induction ls with
  | nil => rfl
  | cons q r ih =>
    rw [List.map_cons, valV_neg (fun e => h (by rw [kL_inj e]; exact List.mem_cons_self))]
    exact ih fun m => h (List.mem_cons_of_mem _ m)
theorem valL_some {ls : List (List Nat)} {l : List Nat} (h : l ∈ ls) : valV (ls.map entL) (kL l) = some (.bl true) := by
  induction ls with
  | nil => cases h
  | cons q r ih =>
    rw [List.map_cons]
    by_cases e : kL q = kL l
    · rw [valV_pos e]
      rfl
    · rw [valV_neg e]
      rcases List.mem_cons.mp h with h | h
      · exact absurd (by rw [h]) e
      · exact ih h
theorem putL_new {ls : List (List Nat)} {l : List Nat} (h : l ∉ ls) : putK (ls.map entL) (kL l) (.bl true) = (ls ++ [l]).map entL := by
  unfold putK
  rw [valV_any, valL_none h, List.map_append]
  rfl
theorem putL_old {ls : List (List Nat)} {l : List Nat} (h : l ∈ ls) : putK (ls.map entL) (kL l) (.bl true) = ls.map entL := by
  unfold putK
  rw [valV_any, valL_some h]
  show List.map _ _ = _
  rw [List.map_map]
  refine List.map_congr_left fun m _ => ?_
  show (if _ then _ else _) = _
  split
  · rename_i e
    have e2 : kL m = kL l := by simpa [entL] using e
    rw [kL_inj e2]
    rfl
  · rfl
/-- these lists, each a tuple of its own -/
def Lts (H : Hp) (xs : List V) (ls : List (List Nat)) : Prop := Paired (fun (x : V) (l : List Nat) => ∃ a, x = .ref a ∧ H a = some (.tup (nvs l))) xs ls
theorem Lts.same {H H' : Hp} {xs : List V} {ls : List (List Nat)} (e : Same H H') (h : Lts H xs ls) : Lts H' xs ls := Paired.mapP h fun _ _ ⟨a, e1, e2⟩ => ⟨a, e1, e _ _ e2⟩
theorem lts_keys {H : Hp} : ∀ {ls : List (List Nat)} {bs : List Addr}, IsKeys H (ls.map entL) bs → Lts H (bs.map V.ref) ls
  | [], [], .nil => .nil
  | l :: _, b :: _, .cons h t => by
    refine .cons ⟨b, rfl, ?_⟩ (lts_keys t)
    rw [← kL_V]
    exact h
def deI : V → Int
  | .int i => i
  | _ => 0
/-- the ints of the tuple that x is -/
def decI (H : Hp) (x : V) : List Int := match x with
  | .ref t => match H t with
    | some (.tup vs) => vs.map deI
    | _ => []
  | _ => []
theorem deI_nvs (l : List Nat) : (nvs l).map deI = l.map Int.ofNat := by
  rw [List.map_map]
  rfl
theorem decI_of {H : Hp} {t : Addr} {l : List Nat} (h : H t = some (.tup (nvs l))) : decI H (.ref t) = l.map Int.ofNat := by
  unfold decI
  simp only [h]
  exact deI_nvs l
theorem ofNat_inj_list {l m : List Nat} (h : l.map Int.ofNat = m.map Int.ofNat) : l = m := by
  have e : (l.map Int.ofNat).map Int.toNat = (m.map Int.ofNat).map Int.toNat := by rw [h]
  rw [List.map_map, List.map_map] at e
  have i : (Int.toNat ∘ Int.ofNat) = id := rfl
  rw [i, List.map_id, List.map_id] at e
  exact e
theorem Lts.dec {H : Hp} {xs : List V} {ls : List (List Nat)} (h : Lts H xs ls) : xs.map (decI H) = ls.map fun l => l.map Int.ofNat := by
  induction h with
  | nil => rfl
  | cons h _ ih =>
    obtain ⟨a, rfl, e⟩ := h
    rw [List.map_cons, List.map_cons, ih, decI_of e]
/-- a permutation of such a list is such a list -/
theorem Lts.perm {H : Hp} {xs ys : List V} {ls : List (List Nat)} (h : Lts H xs ls) (p : ys.Perm xs) : ∃ ms, Lts H ys ms ∧ ms.Perm ls := by
  refine ⟨ys.map fun y => (decI H y).map Int.toNat, ?_, ?_⟩
  · have key : ∀ (zs : List V), (∀ z ∈ zs, z ∈ xs) → Lts H zs (zs.map fun y => (decI H y).map Int.toNat) := by
      intro zs
      induction zs with
      | nil => intro _; exact .nil
      | cons z r ih =>
        intro hz
        obtain ⟨i, hi⟩ := List.mem_iff_getElem?.mp (hz z List.mem_cons_self)
        obtain ⟨l, _, a, rfl, e⟩ := paired_at' h hi
        refine .cons ⟨a, rfl, ?_⟩ (ih fun y hy => hz y (List.mem_cons_of_mem _ hy))
        dsimp only
        rw [decI_of e, List.map_map, show (Int.toNat ∘ Int.ofNat) = id from rfl, List.map_id]
        exact e
    exact key ys fun z hz => p.mem_iff.mp hz
  · have e := p.map fun y => (decI H y).map Int.toNat
    refine e.trans (.of_eq ?_)
    have d : (xs.map (decI H)).map (List.map Int.toNat) = ls := by
      rw [h.dec, List.map_map]
      conv => rhs; rw [← List.map_id ls]
      refine List.map_congr_left fun l _ => ?_
      show (l.map Int.ofNat).map Int.toNat = l
      rw [List.map_map, show (Int.toNat ∘ Int.ofNat) = id from rfl, List.map_id]
    rw [← d, List.map_map]
    rfl
def PartsOk (qs : List NP) (n : Nat) (ls : List (List Nat)) : Prop := (∀ l ∈ ls, IsPart qs n l) ∧ ls.Nodup ∧ (∀ k, k < n → ∃ l ∈ ls, k ∈ l)
theorem PartsOk.perm {qs : List NP} {n : Nat} {ls ms : List (List Nat)} (p : ms.Perm ls) (h : PartsOk qs n ls) : PartsOk qs n ms :=
  ⟨fun l hl => h.1 l (p.mem_iff.mp hl), p.nodup_iff.mpr h.2.1, fun k hk => by obtain ⟨l, h1, h2⟩ := h.2.2 k hk; exact ⟨l, p.mem_iff.mpr h1, h2⟩⟩
theorem PartsOk.flat {qs : List NP} {n : Nat} {ls : List (List Nat)} (g : GoodQ n qs) (h : PartsOk qs n ls) : ls.flatten.Perm (List.range n) := by
  have nd : ls.flatten.Nodup := by
    unfold List.Nodup
    rw [List.pairwise_flatten]
    refine ⟨fun l hl => (h.1 l hl).1.imp fun h => Nat.ne_of_lt h, ?_⟩
    refine h.2.1.imp_of_mem fun {a b} ha hb ne => ?_
    intro k hk k2 hk2 e
    exact ne ((h.1 a ha).eq (h.1 b hb) hk (e ▸ hk2))
  refine (List.perm_ext_iff_of_nodup nd List.nodup_range).mpr fun k => ?_
  rw [List.mem_flatten, List.mem_range]
  constructor
  · rintro ⟨l, hl, hk⟩
    exact (h.1 l hl).lt g k hk
  · intro hk
    exact h.2.2 k hk
end
end Kr
namespace Kr
open PySem PySem.Spec PyProof.Rows L2 Kb
section
variable {P : Program} {w : World} {K : PySem.W.Frag} {mg : Str → Option Value} {base : Heap}
abbrev lexO (H : Hp) : V → V → Bool := fun x y => HT.lexLt (decI H x) (decI H y)
theorem decI_same {H H' : Hp} {xs : List V} {ls : List (List Nat)} (e : Same H H') (h : Lts H xs ls) : ∀ x ∈ xs, decI H' x = decI H x := by
  intro x hx
  obtain ⟨i, hi⟩ := List.mem_iff_getElem?.mp hx
  obtain ⟨l, _, a, rfl, ea⟩ := paired_at' h hi
  rw [decI_of ea, decI_of (e _ _ ea)]
theorem srtd_same {H H' : Hp} {xs : List V} {ls : List (List Nat)} (e : Same H H') (h : Lts H xs ls) (s : SrtO.Srtd (lexO H) xs) : SrtO.Srtd (lexO H') xs := by
  refine List.Pairwise.imp_of_mem (fun {a b} ha hb z => ?_) s
  show HT.lexLt (decI H' b) (decI H' a) = false
  rw [decI_same e h a ha, decI_same e h b hb]
  exact z
def sp_room_parts (C : Addr) (K : PySem.W.Frag) : Sp := fun vs H Q _ => ∃ k n qs, vs = [.ref k] ∧ KeysAt C H k n qs ∧ GoodQ n qs ∧
  ∀ H' p ys ls, Same H H' → H' p = some (.tup ys) → Lts H' ys ls → PartsOk qs n ls → SrtO.Srtd (lexO H') ys → Q (.ref p) H'
theorem ok_room_parts (T : Tx P K mg) : FnOk P w K mg base CX0 4 T.a_room_parts T.d_room_parts ["keys"] (sp_room_parts T.c_Keys K) := by
  refine T.F_room_parts.ok sc_room_parts (fun vs H Q E h => ?_) (fun cdv A outer s H vs Q E hr h => ?_)
  · obtain ⟨k, n, qs, rfl, _⟩ := h
    rfl
  · obtain ⟨k, n, qs, rfl, hk, hg, q⟩ := h
    refine ⟨_, (pss_cons (ps_expr (pe_call (ok_need_keys T) (hr.mono (by decide)) (by rfl) T.g_need_keys T.F_need_keys.kp T.b_need_keys .nil pass0 (pa_cons (pv 0) pa_nil)))
      (pss_cons (ps_set (i := 1) sc_room_parts.nd rfl (Or.inl rfl) (pe_call (ok_near_masks T) (hr.mono (by decide)) (by rfl) T.g_near_masks T.F_near_masks.kp T.b_near_masks .nil pass0 (pa_cons (pv 0) pa_nil)))
      (pss_cons (ps_set (i := 2) sc_room_parts.nd rfl (Or.inl rfl) pe_dnewT)
      (pss_cons (ps_for PassesOwn.never rfl (pi_range1 (by rfl) T.n_range (pa_cons (fldK (K := K) rfl (pv 0) rfl) pa_nil)) (pg_name (i := 3) sc_room_parts.nd rfl (Or.inl rfl)) (pss_one (ps_dput (hu_of hr) (pv 2) (pe_call (ok_lot_of T) (hr.mono (by decide)) (by rfl) T.g_lot_of T.F_lot_of.kp T.b_lot_of .nil pass0 (pa_cons (pe_call (ok_part_of T) (hr.mono (by decide)) (by rfl) T.g_part_of T.F_part_of.kp T.b_part_of .nil pass0 (pa_cons (pv 1) (pa_cons (pv 3) pa_nil))) pa_nil)) pe_bl rfl)))
      (pss_one (ps_ret (pe_callTy (tupOfK (K := K) rfl) (by rfl) T.n_tuple (by decide +kernel) (pa_cons (pe_callB (sortTA (K := K) rfl) (by rfl) T.n_sorted (by decide +kernel) (pa_cons (pe_callTy (call_list_dT rfl) (by rfl) T.n_list (by decide +kernel) (pa_cons (pv 2) pa_nil)) pa_nil)) pa_nil)))))))), ?_⟩
    rw [show L2.start ["keys", "near", "parts", "key"] [.ref k] = [some (.ref k), none, none, none] from rfl]
    generalize hF1 : tFor _ _ _ = F1
    (try simp only [tVar, tC, tOp, tUn, rI, rI0, rU, rEq, rNe, scal, tTest, tB, tAnd, tOr, tNot, tAndV, tOrV, tNotV, tIf, tChain, tNil, tCons, tCB, tCall, tTup, tLst, tRet, tRetN, tDrop, tSeq, tNext, tIfS, tAsg, gName, tPar, tPar3, gNil, gCons, gTup, gSub, tAug, tSl, tNoPart, tPart, tBM, tBM0, tYes, tIsP, iSeq, iEnumA, RZ.iZipA, iRng1, iRng2, iList, iTup, rIsi, rIsB, rIxL, rIxT, rIxA, rLenA, rListOf, rTupOf, rSetL, rSlL, rCat, rAppend, tFld, sFld, tMake, tBits, Int.ofNat_inj, cast1, cast0, TruV, cxOf, Cx.nox, Cx.wish, tNever, tBreak, tCont, ipI, tDIn, tDNotIn, sDPut, tDNewT, tDNewK, tDGet, rSortedPO, rSortedI, rIn, rEqD, rNeD, rInD, rNotInD, tSSet, rIsV, rIntI, rIntB, rAbsN, tLstRg, tRg1, tRg2, List.append_nil, List.nil_append, List.cons_append, Option.some.injEq, exists_eq_left', exists_eq_left, exists_eq_right, exists_eq_right', List.getElem?_cons_zero, List.getElem?_cons_succ, List.set_cons_zero, List.set_cons_succ, List.cons.injEq, and_true, true_and, exists_and_left, exists_and_right, and_assoc, V.int.injEq, V.bl.injEq, V.ref.injEq, V.str.injEq, reduceCtorEq, decide_true, decide_false, Bool.not_true, Bool.not_false, Bool.false_eq_true, if_false, if_true, ite_true, ite_false, List.length_cons, List.length_nil, tRaise, tErr, LamX.tLam, TTe, rSortedIA, rSortedTA, tDisp, tPairs])
    obtain ⟨dx, t, ys, ek, et, hp⟩ := id hk
    have h12 := hg.1
    refine ⟨k, dx, _, rfl, ek, ?_⟩
    (try simp only [tVar, tC, tOp, tUn, rI, rI0, rU, rEq, rNe, scal, tTest, tB, tAnd, tOr, tNot, tAndV, tOrV, tNotV, tIf, tChain, tNil, tCons, tCB, tCall, tTup, tLst, tRet, tRetN, tDrop, tSeq, tNext, tIfS, tAsg, gName, tPar, tPar3, gNil, gCons, gTup, gSub, tAug, tSl, tNoPart, tPart, tBM, tBM0, tYes, tIsP, iSeq, iEnumA, RZ.iZipA, iRng1, iRng2, iList, iTup, rIsi, rIsB, rIxL, rIxT, rIxA, rLenA, rListOf, rTupOf, rSetL, rSlL, rCat, rAppend, tFld, sFld, tMake, tBits, Int.ofNat_inj, cast1, cast0, TruV, cxOf, Cx.nox, Cx.wish, tNever, tBreak, tCont, ipI, tDIn, tDNotIn, sDPut, tDNewT, tDNewK, tDGet, rSortedPO, rSortedI, rIn, rEqD, rNeD, rInD, rNotInD, tSSet, rIsV, rIntI, rIntB, rAbsN, tLstRg, tRg1, tRg2, List.append_nil, List.nil_append, List.cons_append, Option.some.injEq, exists_eq_left', exists_eq_left, exists_eq_right, exists_eq_right', List.getElem?_cons_zero, List.getElem?_cons_succ, List.set_cons_zero, List.set_cons_succ, List.cons.injEq, and_true, true_and, exists_and_left, exists_and_right, and_assoc, V.int.injEq, V.bl.injEq, V.ref.injEq, V.str.injEq, reduceCtorEq, decide_true, decide_false, Bool.not_true, Bool.not_false, Bool.false_eq_true, if_false, if_true, ite_true, ite_false, List.length_cons, List.length_nil, tRaise, tErr, LamX.tLam, TTe, rSortedIA, rSortedTA, tDisp, tPairs])
    refine ⟨k, n, qs, rfl, hk, hg.1, hg.2, fun H1 nm s1 hn1 en => ?_⟩
    (try simp only [tVar, tC, tOp, tUn, rI, rI0, rU, rEq, rNe, scal, tTest, tB, tAnd, tOr, tNot, tAndV, tOrV, tNotV, tIf, tChain, tNil, tCons, tCB, tCall, tTup, tLst, tRet, tRetN, tDrop, tSeq, tNext, tIfS, tAsg, gName, tPar, tPar3, gNil, gCons, gTup, gSub, tAug, tSl, tNoPart, tPart, tBM, tBM0, tYes, tIsP, iSeq, iEnumA, RZ.iZipA, iRng1, iRng2, iList, iTup, rIsi, rIsB, rIxL, rIxT, rIxA, rLenA, rListOf, rTupOf, rSetL, rSlL, rCat, rAppend, tFld, sFld, tMake, tBits, Int.ofNat_inj, cast1, cast0, TruV, cxOf, Cx.nox, Cx.wish, tNever, tBreak, tCont, ipI, tDIn, tDNotIn, sDPut, tDNewT, tDNewK, tDGet, rSortedPO, rSortedI, rIn, rEqD, rNeD, rInD, rNotInD, tSSet, rIsV, rIntI, rIntB, rAbsN, tLstRg, tRg1, tRg2, List.append_nil, List.nil_append, List.cons_append, Option.some.injEq, exists_eq_left', exists_eq_left, exists_eq_right, exists_eq_right', List.getElem?_cons_zero, List.getElem?_cons_succ, List.set_cons_zero, List.set_cons_succ, List.cons.injEq, and_true, true_and, exists_and_left, exists_and_right, and_assoc, V.int.injEq, V.bl.injEq, V.ref.injEq, V.str.injEq, reduceCtorEq, decide_true, decide_false, Bool.not_true, Bool.not_false, Bool.false_eq_true, if_false, if_true, ite_true, ite_false, List.length_cons, List.length_nil, tRaise, tErr, LamX.tLam, TTe, rSortedIA, rSortedTA, tDisp, tPairs])
    intro d hd
    subst hF1
    have sd := same_new (o := .dT []) hd
    refine forR1 n (fun i σ' H' => ∃ y3, σ' = [some (.ref k), some (.ref nm), some (.ref d), y3] ∧ Same H1 H' ∧ ∃ ls : List (List Nat), H' d = some (.dT (ls.map entL)) ∧ (∀ l ∈ ls, IsPart qs n l) ∧ ls.Nodup ∧ (∀ k, k < i → ∃ l ∈ ls, k ∈ l) ∧ ls.length ≤ i) (fun R h => ?_) (by omega) ⟨_, rfl, sd, [], upd_same, fun l hl => (nomatch hl), List.nodup_nil, fun k hk => absurd hk (Nat.not_lt_zero k), Nat.zero_le _⟩ ?_ ?_
    · (try simp only [tVar, tC, tOp, tUn, rI, rI0, rU, rEq, rNe, scal, tTest, tB, tAnd, tOr, tNot, tAndV, tOrV, tNotV, tIf, tChain, tNil, tCons, tCB, tCall, tTup, tLst, tRet, tRetN, tDrop, tSeq, tNext, tIfS, tAsg, gName, tPar, tPar3, gNil, gCons, gTup, gSub, tAug, tSl, tNoPart, tPart, tBM, tBM0, tYes, tIsP, iSeq, iEnumA, RZ.iZipA, iRng1, iRng2, iList, iTup, rIsi, rIsB, rIxL, rIxT, rIxA, rLenA, rListOf, rTupOf, rSetL, rSlL, rCat, rAppend, tFld, sFld, tMake, tBits, Int.ofNat_inj, cast1, cast0, TruV, cxOf, Cx.nox, Cx.wish, tNever, tBreak, tCont, ipI, tDIn, tDNotIn, sDPut, tDNewT, tDNewK, tDGet, rSortedPO, rSortedI, rIn, rEqD, rNeD, rInD, rNotInD, tSSet, rIsV, rIntI, rIntB, rAbsN, tLstRg, tRg1, tRg2, List.append_nil, List.nil_append, List.cons_append, Option.some.injEq, exists_eq_left', exists_eq_left, exists_eq_right, exists_eq_right', List.getElem?_cons_zero, List.getElem?_cons_succ, List.set_cons_zero, List.set_cons_succ, List.cons.injEq, and_true, true_and, exists_and_left, exists_and_right, and_assoc, V.int.injEq, V.bl.injEq, V.ref.injEq, V.str.injEq, reduceCtorEq, decide_true, decide_false, Bool.not_true, Bool.not_false, Bool.false_eq_true, if_false, if_true, ite_true, ite_false, List.length_cons, List.length_nil, tRaise, tErr, LamX.tLam, TTe, rSortedIA, rSortedTA, tDisp, tPairs])
      exact ⟨_, _, _, sd _ _ (s1 _ _ ek), T.cl_Keys, T.na_many, _, rfl, h⟩
    · rintro i σ' H' hi ⟨y3, rfl, sm, ls, ed, hpt, hnd, hcv, hln⟩
      (try simp only [tVar, tC, tOp, tUn, rI, rI0, rU, rEq, rNe, scal, tTest, tB, tAnd, tOr, tNot, tAndV, tOrV, tNotV, tIf, tChain, tNil, tCons, tCB, tCall, tTup, tLst, tRet, tRetN, tDrop, tSeq, tNext, tIfS, tAsg, gName, tPar, tPar3, gNil, gCons, gTup, gSub, tAug, tSl, tNoPart, tPart, tBM, tBM0, tYes, tIsP, iSeq, iEnumA, RZ.iZipA, iRng1, iRng2, iList, iTup, rIsi, rIsB, rIxL, rIxT, rIxA, rLenA, rListOf, rTupOf, rSetL, rSlL, rCat, rAppend, tFld, sFld, tMake, tBits, Int.ofNat_inj, cast1, cast0, TruV, cxOf, Cx.nox, Cx.wish, tNever, tBreak, tCont, ipI, tDIn, tDNotIn, sDPut, tDNewT, tDNewK, tDGet, rSortedPO, rSortedI, rIn, rEqD, rNeD, rInD, rNotInD, tSSet, rIsV, rIntI, rIntB, rAbsN, tLstRg, tRg1, tRg2, List.append_nil, List.nil_append, List.cons_append, Option.some.injEq, exists_eq_left', exists_eq_left, exists_eq_right, exists_eq_right', List.getElem?_cons_zero, List.getElem?_cons_succ, List.set_cons_zero, List.set_cons_succ, List.cons.injEq, and_true, true_and, exists_and_left, exists_and_right, and_assoc, V.int.injEq, V.bl.injEq, V.ref.injEq, V.str.injEq, reduceCtorEq, decide_true, decide_false, Bool.not_true, Bool.not_false, Bool.false_eq_true, if_false, if_true, ite_true, ite_false, List.length_cons, List.length_nil, tRaise, tErr, LamX.tLam, TTe, rSortedIA, rSortedTA, tDisp, tPairs])
      refine ⟨nm, qs, n, i, rfl, .of (sm _ _ en), hg, hi, fun H2 m s2 hm hmt => ?_⟩
      (try simp only [tVar, tC, tOp, tUn, rI, rI0, rU, rEq, rNe, scal, tTest, tB, tAnd, tOr, tNot, tAndV, tOrV, tNotV, tIf, tChain, tNil, tCons, tCB, tCall, tTup, tLst, tRet, tRetN, tDrop, tSeq, tNext, tIfS, tAsg, gName, tPar, tPar3, gNil, gCons, gTup, gSub, tAug, tSl, tNoPart, tPart, tBM, tBM0, tYes, tIsP, iSeq, iEnumA, RZ.iZipA, iRng1, iRng2, iList, iTup, rIsi, rIsB, rIxL, rIxT, rIxA, rLenA, rListOf, rTupOf, rSetL, rSlL, rCat, rAppend, tFld, sFld, tMake, tBits, Int.ofNat_inj, cast1, cast0, TruV, cxOf, Cx.nox, Cx.wish, tNever, tBreak, tCont, ipI, tDIn, tDNotIn, sDPut, tDNewT, tDNewK, tDGet, rSortedPO, rSortedI, rIn, rEqD, rNeD, rInD, rNotInD, tSSet, rIsV, rIntI, rIntB, rAbsN, tLstRg, tRg1, tRg2, List.append_nil, List.nil_append, List.cons_append, Option.some.injEq, exists_eq_left', exists_eq_left, exists_eq_right, exists_eq_right', List.getElem?_cons_zero, List.getElem?_cons_succ, List.set_cons_zero, List.set_cons_succ, List.cons.injEq, and_true, true_and, exists_and_left, exists_and_right, and_assoc, V.int.injEq, V.bl.injEq, V.ref.injEq, V.str.injEq, reduceCtorEq, decide_true, decide_false, Bool.not_true, Bool.not_false, Bool.false_eq_true, if_false, if_true, ite_true, ite_false, List.length_cons, List.length_nil, tRaise, tErr, LamX.tLam, TTe, rSortedIA, rSortedTA, tDisp, tPairs])
      refine ⟨m, rfl, Nat.lt_of_lt_of_le hm (Nat.pow_le_pow_right (by decide) (by omega)), fun H3 t3 s3 ht3 et3 => ?_⟩
      (try simp only [tVar, tC, tOp, tUn, rI, rI0, rU, rEq, rNe, scal, tTest, tB, tAnd, tOr, tNot, tAndV, tOrV, tNotV, tIf, tChain, tNil, tCons, tCB, tCall, tTup, tLst, tRet, tRetN, tDrop, tSeq, tNext, tIfS, tAsg, gName, tPar, tPar3, gNil, gCons, gTup, gSub, tAug, tSl, tNoPart, tPart, tBM, tBM0, tYes, tIsP, iSeq, iEnumA, RZ.iZipA, iRng1, iRng2, iList, iTup, rIsi, rIsB, rIxL, rIxT, rIxA, rLenA, rListOf, rTupOf, rSetL, rSlL, rCat, rAppend, tFld, sFld, tMake, tBits, Int.ofNat_inj, cast1, cast0, TruV, cxOf, Cx.nox, Cx.wish, tNever, tBreak, tCont, ipI, tDIn, tDNotIn, sDPut, tDNewT, tDNewK, tDGet, rSortedPO, rSortedI, rIn, rEqD, rNeD, rInD, rNotInD, tSSet, rIsV, rIntI, rIntB, rAbsN, tLstRg, tRg1, tRg2, List.append_nil, List.nil_append, List.cons_append, Option.some.injEq, exists_eq_left', exists_eq_left, exists_eq_right, exists_eq_right', List.getElem?_cons_zero, List.getElem?_cons_succ, List.set_cons_zero, List.set_cons_succ, List.cons.injEq, and_true, true_and, exists_and_left, exists_and_right, and_assoc, V.int.injEq, V.bl.injEq, V.ref.injEq, V.str.injEq, reduceCtorEq, decide_true, decide_false, Bool.not_true, Bool.not_false, Bool.false_eq_true, if_false, if_true, ite_true, ite_false, List.length_cons, List.length_nil, tRaise, tErr, LamX.tLam, TTe, rSortedIA, rSortedTA, tDisp, tPairs])
      have hmb : ∀ j, j ∈ bits m ↔ Rch (nearP qs) i j := fun j => (mem_bits (Nat.lt_of_lt_of_le hm (Nat.pow_le_pow_right (by decide) (by omega)))).trans (hmt j)
      have ip : IsPart qs n (bits m) := ⟨bits_inc m, i, hi, hmb⟩
      have ed3 : H3 d = some (.dT (ls.map entL)) := s3 _ _ (s2 _ _ ed)
      have sm3 := (sm.trans s2).trans s3
      refine ⟨_, .inr ⟨_, kL (bits m), t3, ed3, rfl, by rw [kL_V]; exact et3, by rw [List.length_map, sizeLine_eq]; omega, rfl⟩, ?_⟩
      have keep : Same H1 (upd H3 d (.dT (putK (ls.map entL) (kL (bits m)) (.bl true)))) := fun c o hc => by
        rw [upd_ne (ne_of_none hc hd)]
        exact sm3 _ _ hc
      have hin : i ∈ bits m := (hmb i).mpr .refl
      refine ⟨keep, ?_⟩
      by_cases hmem : bits m ∈ ls
      · refine ⟨ls, by rw [upd_same, putL_old hmem], hpt, hnd, fun k2 hk2 => ?_, by omega⟩
        rcases Nat.lt_succ_iff_lt_or_eq.mp hk2 with h | h
        · exact hcv k2 h
        · exact ⟨_, hmem, h ▸ hin⟩
      · refine ⟨ls ++ [bits m], by rw [upd_same, putL_new hmem], fun l hl => ?_, ?_, fun k2 hk2 => ?_, by rw [List.length_append, List.length_singleton]; omega⟩
        · rcases List.mem_append.mp hl with hl | hl
          · exact hpt l hl
          · rw [List.mem_singleton.mp hl]
            exact ip
        · refine List.nodup_append.mpr ⟨hnd, List.pairwise_singleton _ _, fun a ha b hb e => ?_⟩
          rw [List.mem_singleton.mp hb] at e
          exact hmem (e ▸ ha)
        · rcases Nat.lt_succ_iff_lt_or_eq.mp hk2 with h | h
          · obtain ⟨l, h1, h2⟩ := hcv k2 h
            exact ⟨l, List.mem_append_left _ h1, h2⟩
          · exact ⟨_, List.mem_append_right _ (List.mem_singleton_self _), h ▸ hin⟩
    · rintro σ' H' ⟨y3, rfl, sm, ls, ed, hpt, hnd, hcv, hln⟩
      (try simp only [tVar, tC, tOp, tUn, rI, rI0, rU, rEq, rNe, scal, tTest, tB, tAnd, tOr, tNot, tAndV, tOrV, tNotV, tIf, tChain, tNil, tCons, tCB, tCall, tTup, tLst, tRet, tRetN, tDrop, tSeq, tNext, tIfS, tAsg, gName, tPar, tPar3, gNil, gCons, gTup, gSub, tAug, tSl, tNoPart, tPart, tBM, tBM0, tYes, tIsP, iSeq, iEnumA, RZ.iZipA, iRng1, iRng2, iList, iTup, rIsi, rIsB, rIxL, rIxT, rIxA, rLenA, rListOf, rTupOf, rSetL, rSlL, rCat, rAppend, tFld, sFld, tMake, tBits, Int.ofNat_inj, cast1, cast0, TruV, cxOf, Cx.nox, Cx.wish, tNever, tBreak, tCont, ipI, tDIn, tDNotIn, sDPut, tDNewT, tDNewK, tDGet, rSortedPO, rSortedI, rIn, rEqD, rNeD, rInD, rNotInD, tSSet, rIsV, rIntI, rIntB, rAbsN, tLstRg, tRg1, tRg2, List.append_nil, List.nil_append, List.cons_append, Option.some.injEq, exists_eq_left', exists_eq_left, exists_eq_right, exists_eq_right', List.getElem?_cons_zero, List.getElem?_cons_succ, List.set_cons_zero, List.set_cons_succ, List.cons.injEq, and_true, true_and, exists_and_left, exists_and_right, and_assoc, V.int.injEq, V.bl.injEq, V.ref.injEq, V.str.injEq, reduceCtorEq, decide_true, decide_false, Bool.not_true, Bool.not_false, Bool.false_eq_true, if_false, if_true, ite_true, ite_false, List.length_cons, List.length_nil, tRaise, tErr, LamX.tLam, TTe, rSortedIA, rSortedTA, tDisp, tPairs])
      refine ⟨_, .inl ed, fun l bs hl hk2 => ?_⟩
      have sl : Same H' (upd H' l (.lst (bs.map .ref))) := same_new hl
      have lt := (lts_keys hk2).same sl
      refine ⟨_, .inl (.of upd_same), decI (upd H' l (.lst (bs.map .ref))), fun x hx => ?_, fun zs p hsrt hstb hp => ?_⟩
      · obtain ⟨j, hj⟩ := List.mem_iff_getElem?.mp hx
        obtain ⟨l2, hl2, a2, rfl, e2⟩ := paired_at' lt hj
        have ip := hpt l2 (List.mem_of_getElem? hl2)
        refine ⟨?_, a2, rfl, .of ?_⟩
        · rw [decI_of e2]
          exact fun z => ip.ne (List.map_eq_nil_iff.mp z)
        · rw [decI_of e2, ← nvs_ivs]
          exact e2
      · obtain ⟨ms, hms, pm⟩ := lt.perm hstb.perm
        refine ⟨_, .inl ⟨.of upd_same, fun r hr => ?_⟩⟩
        have sp := same_new (o := .lst zs) hp
        have sr := same_new (o := .tup zs) hr
        have s2 := sp.trans sr
        exact q _ r zs ms ((((s1.trans sm).trans sl).trans sp).trans sr) upd_same (hms.same s2) (PartsOk.perm pm ⟨hpt, hnd, hcv⟩) (srtd_same s2 hms hsrt)
/-! ### a part hangs together -/
def sp_law_joined (K : PySem.W.Frag) : Sp := fun vs H Q _ => ∃ a t qs n l, vs = [.ref a, .ref t] ∧ SqL K H a (nvs (nearM n qs)) ∧ GoodQ n qs ∧ SqT K H t (nvs l) ∧ IsPart qs n l ∧ ∀ H', Same H H' → Q (.bl true) H'
theorem flat_enK {ns : List Nat} {k : Nat} (h : k ∈ ns) : valV (ns.map enK) (.inl (k : Int)) = some (.bl true) := by
  induction ns with
  | nil => cases h
  | cons q r ih =>
    rw [List.map_cons]
    by_cases e : (Sum.inl (q : Int) : Key) = .inl (k : Int)
    · unfold enK
      rw [valV_pos e]
    · unfold enK
      rw [valV_neg e]
      rcases List.mem_cons.mp h with h | h
      · exact absurd (by rw [h]) e
      · exact ih h
theorem ok__law_joined (T : Tx P K mg) : FnOk P w K mg base CX0 1 T.a__law_joined T.d__law_joined ["near", "part"] (sp_law_joined K) := by
  refine T.F__law_joined.ok sc__law_joined (fun vs H Q E h => ?_) (fun cdv A outer s H vs Q E hr h => ?_)
  · obtain ⟨a, t, qs, n, l, rfl, _⟩ := h
    rfl
  · obtain ⟨a, t, qs, n, l, rfl, hs, hg, ht, hl, q⟩ := h
    refine ⟨_, (pss_cons (ps_par (i := 2) (j := 3) (by rfl) sc__law_joined.nd rfl rfl (by decide) rfl rfl (pa_cons (pe_disp (pps_cons (pe_ix (ixT (K := K) rfl) (pv 1) pe_int (fun _ _ => rfl)) pe_bl pps_nil) (by rfl) (by rfl) (fun z => by cases z) (by decide)) (pa_cons (pe_lst (pa_cons (pe_ix (ixT (K := K) rfl) (pv 1) pe_int (fun _ _ => rfl)) pa_nil)) pa_nil)) (by rfl))
      (pss_cons (ps_for PassesOwn.never rfl (pi_range1 (by rfl) T.n_range (pa_cons (pe_callB (lenK (K := K) rfl) (by rfl) T.n_len PySem.boot_len (pa_cons (pv 1) pa_nil)) pa_nil)) (pg_name (i := 4) sc__law_joined.nd rfl (Or.inl rfl)) (pss_one (ps_if (pt_cmpR op_lt (pv 4) (pe_callB (lenK (K := K) rfl) (by rfl) T.n_len PySem.boot_len (pa_cons (pv 3) pa_nil)) (nomark _)) (pss_one (ps_for PassesOwn.never rfl (pseqK (K := K) rfl (pv 1)) (pg_name (i := 5) sc__law_joined.nd rfl (Or.inl rfl)) (pss_one (ps_if (PW.pt (pw_and (truthK (K := K) rfl (pe_op op_andU (pe_op op_shrU (pe_ix (ixL (K := K) rfl) (pv 0) (pe_ix (ixL (K := K) rfl) (pv 3) (pv 4) (fun _ _ => rfl)) (fun _ _ => rfl)) (pv 5)) pe_int) (by intro _; rfl)) (pw_and1 (pt_cmp (pc_dnotin (hu_of hr) (pv 5) (pv 2)))))) (pss_cons (ps_dput (hu_of hr) (pv 2) (pv 5) pe_bl rfl)
      (pss_one (ps_expr (bmK (K := K) rfl PySem.F.plainAttrs_list PySem.F.slot_list_append PySem.F.type_list_append mt_append (pv 3) (pa_cons (pv 5) pa_nil))))) pss_nil)))) pss_nil)))
      (pss_one (ps_ret (pe_cmpR op_eq (pe_callB (lenK (K := K) rfl) (by rfl) T.n_len PySem.boot_len (pa_cons (pv 3) pa_nil)) (pe_callB (lenK (K := K) rfl) (by rfl) T.n_len PySem.boot_len (pa_cons (pv 1) pa_nil)) (nomark _)))))), ?_⟩
    rw [show L2.start ["near", "part", "seen", "order", "turn", "key"] [.ref a, .ref t] = [some (.ref a), some (.ref t), none, none, none, none] from rfl]
    generalize hF1 : tFor _ _ _ = F1
    (try simp only [tVar, tC, tOp, tUn, rI, rI0, rU, rEq, rNe, scal, tTest, tB, tAnd, tOr, tNot, tAndV, tOrV, tNotV, tIf, tChain, tNil, tCons, tCB, tCall, tTup, tLst, tRet, tRetN, tDrop, tSeq, tNext, tIfS, tAsg, gName, tPar, tPar3, gNil, gCons, gTup, gSub, tAug, tSl, tNoPart, tPart, tBM, tBM0, tYes, tIsP, iSeq, iEnumA, RZ.iZipA, iRng1, iRng2, iList, iTup, rIsi, rIsB, rIxL, rIxT, rIxA, rLenA, rListOf, rTupOf, rSetL, rSlL, rCat, rAppend, tFld, sFld, tMake, tBits, Int.ofNat_inj, cast1, cast0, TruV, cxOf, Cx.nox, Cx.wish, tNever, tBreak, tCont, ipI, tDIn, tDNotIn, sDPut, tDNewT, tDNewK, tDGet, rSortedPO, rSortedI, rIn, rEqD, rNeD, rInD, rNotInD, tSSet, rIsV, rIntI, rIntB, rAbsN, tLstRg, tRg1, tRg2, List.append_nil, List.nil_append, List.cons_append, Option.some.injEq, exists_eq_left', exists_eq_left, exists_eq_right, exists_eq_right', List.getElem?_cons_zero, List.getElem?_cons_succ, List.set_cons_zero, List.set_cons_succ, List.cons.injEq, and_true, true_and, exists_and_left, exists_and_right, and_assoc, V.int.injEq, V.bl.injEq, V.ref.injEq, V.str.injEq, reduceCtorEq, decide_true, decide_false, Bool.not_true, Bool.not_false, Bool.false_eq_true, if_false, if_true, ite_true, ite_false, List.length_cons, List.length_nil, tRaise, tErr, LamX.tLam, TTe, rSortedIA, rSortedTA, tDisp, tPairs])
    intro d hd
    have h12 := hg.1
    have hln := hl.len hg
    cases l with
    | nil => exact absurd rfl hl.ne
    | cons l0 r =>
      generalize hL : l0 :: r = l at *
      have at0 : atI (nvs l) 0 = some (nv l0) := by
        rw [← hL]
        exact atI_nat (j := 0) rfl
      have l0m : l0 ∈ l := by
        rw [← hL]
        exact List.mem_cons_self
      simp only [upd_upd]
      have e0 : mergeK [] [((.inl (l0 : Int) : Key), V.bl true)] = [l0].map enK := rfl
      refine ⟨nvs l, Kb.Same.tup (same_new hd) ht, nv l0, at0, upd_same, [(.inl (l0 : Int), .bl true)], rfl, by simp, nvs l, Kb.Same.tup (same_new hd) ht, nv l0, at0, by decide, fun o ho => ?_⟩
      rw [e0] at ho ⊢
      have sd := same_new (o := .dK ([l0].map enK)) hd
      have so := same_new (o := .lst [nv l0]) ho
      have ndo : d ≠ o := fun e => by rw [← e, upd_same] at ho; cases ho
      have ho0 := back sd ho
      subst hF1
      have mem_app : ∀ {k : Nat} {x y : List Nat}, k ∈ x → k ∈ x ++ y := fun h => List.mem_append_left _ h
      obtain ⟨Pv, hPv⟩ : ∃ Pv : Nat → L2.St → Hp → Prop, ∀ i σ' H', Pv i σ' H' = (∃ od y4 y5, σ' = [some (.ref a), some (.ref t), some (.ref d), some (.ref o), y4, y5] ∧ Same H H' ∧ H' d = some (.dK (od.map enK)) ∧ H' o = some (.lst (nvs od)) ∧ od.Nodup ∧ (∀ k ∈ od, k ∈ l) ∧ od[0]? = some l0 ∧
          (∀ s u, s < i → od[s]? = some u → ∀ k ∈ l, nearP qs u k → k ∈ od)) := ⟨_, fun _ _ _ => rfl⟩
      refine forR1 l.length Pv (fun R h => ?_) (by omega) (by rw [hPv]; exact ⟨[l0], _, _, rfl, sd.trans so, so _ _ upd_same, upd_same, List.pairwise_singleton _ _, fun k hk => by rw [List.mem_singleton.mp hk]; exact l0m, rfl, fun s u hs => absurd hs (Nat.not_lt_zero s)⟩) ?_ ?_
      · (try simp only [tVar, tC, tOp, tUn, rI, rI0, rU, rEq, rNe, scal, tTest, tB, tAnd, tOr, tNot, tAndV, tOrV, tNotV, tIf, tChain, tNil, tCons, tCB, tCall, tTup, tLst, tRet, tRetN, tDrop, tSeq, tNext, tIfS, tAsg, gName, tPar, tPar3, gNil, gCons, gTup, gSub, tAug, tSl, tNoPart, tPart, tBM, tBM0, tYes, tIsP, iSeq, iEnumA, RZ.iZipA, iRng1, iRng2, iList, iTup, rIsi, rIsB, rIxL, rIxT, rIxA, rLenA, rListOf, rTupOf, rSetL, rSlL, rCat, rAppend, tFld, sFld, tMake, tBits, Int.ofNat_inj, cast1, cast0, TruV, cxOf, Cx.nox, Cx.wish, tNever, tBreak, tCont, ipI, tDIn, tDNotIn, sDPut, tDNewT, tDNewK, tDGet, rSortedPO, rSortedI, rIn, rEqD, rNeD, rInD, rNotInD, tSSet, rIsV, rIntI, rIntB, rAbsN, tLstRg, tRg1, tRg2, List.append_nil, List.nil_append, List.cons_append, Option.some.injEq, exists_eq_left', exists_eq_left, exists_eq_right, exists_eq_right', List.getElem?_cons_zero, List.getElem?_cons_succ, List.set_cons_zero, List.set_cons_succ, List.cons.injEq, and_true, true_and, exists_and_left, exists_and_right, and_assoc, V.int.injEq, V.bl.injEq, V.ref.injEq, V.str.injEq, reduceCtorEq, decide_true, decide_false, Bool.not_true, Bool.not_false, Bool.false_eq_true, if_false, if_true, ite_true, ite_false, List.length_cons, List.length_nil, tRaise, tErr, LamX.tLam, TTe, rSortedIA, rSortedTA, tDisp, tPairs])
        refine ⟨nvs l, .inr (Kb.Same.tup (sd.trans so) ht), ?_⟩
        rw [List.length_map]
        exact h
      · intro i σ' H' hi hh
        rw [hPv] at hh
        obtain ⟨od, y4, y5, rfl, sm, ed, eo, nd, hod, hz, hcl⟩ := hh
        generalize hF2 : tFor _ _ _ = F2
        (try simp only [tVar, tC, tOp, tUn, rI, rI0, rU, rEq, rNe, scal, tTest, tB, tAnd, tOr, tNot, tAndV, tOrV, tNotV, tIf, tChain, tNil, tCons, tCB, tCall, tTup, tLst, tRet, tRetN, tDrop, tSeq, tNext, tIfS, tAsg, gName, tPar, tPar3, gNil, gCons, gTup, gSub, tAug, tSl, tNoPart, tPart, tBM, tBM0, tYes, tIsP, iSeq, iEnumA, RZ.iZipA, iRng1, iRng2, iList, iTup, rIsi, rIsB, rIxL, rIxT, rIxA, rLenA, rListOf, rTupOf, rSetL, rSlL, rCat, rAppend, tFld, sFld, tMake, tBits, Int.ofNat_inj, cast1, cast0, TruV, cxOf, Cx.nox, Cx.wish, tNever, tBreak, tCont, ipI, tDIn, tDNotIn, sDPut, tDNewT, tDNewK, tDGet, rSortedPO, rSortedI, rIn, rEqD, rNeD, rInD, rNotInD, tSSet, rIsV, rIntI, rIntB, rAbsN, tLstRg, tRg1, tRg2, List.append_nil, List.nil_append, List.cons_append, Option.some.injEq, exists_eq_left', exists_eq_left, exists_eq_right, exists_eq_right', List.getElem?_cons_zero, List.getElem?_cons_succ, List.set_cons_zero, List.set_cons_succ, List.cons.injEq, and_true, true_and, exists_and_left, exists_and_right, and_assoc, V.int.injEq, V.bl.injEq, V.ref.injEq, V.str.injEq, reduceCtorEq, decide_true, decide_false, Bool.not_true, Bool.not_false, Bool.false_eq_true, if_false, if_true, ite_true, ite_false, List.length_cons, List.length_nil, tRaise, tErr, LamX.tLam, TTe, rSortedIA, rSortedTA, tDisp, tPairs])
        refine ⟨nvs od, .inl (.of eo), ?_⟩
        rw [List.length_map]
        have lod : od.length ≤ l.length := List.Nodup.length_le_of_subset nd hod
        by_cases hlt : i < od.length
        · rw [decide_eq_true (by omega)]
          refine iteT ?_
          have hu : od[i]? = some od[i] := List.getElem?_eq_getElem hlt
          have hum : od[i] ∈ l := hod _ (List.getElem_mem hlt)
          generalize od[i] = u at hu hum
          have hun : u < n := hl.lt hg u hum
          subst hF2
          obtain ⟨Pw, hPw⟩ : ∃ Pw : Nat → L2.St → Hp → Prop, ∀ m σ' H', Pw m σ' H' = (∃ ext y5, σ' = [some (.ref a), some (.ref t), some (.ref d), some (.ref o), some (nv i), y5] ∧ Same H H' ∧ H' d = some (.dK ((od ++ ext).map enK)) ∧ H' o = some (.lst (nvs (od ++ ext))) ∧ (od ++ ext).Nodup ∧ (∀ k ∈ od ++ ext, k ∈ l) ∧
            (∀ key ∈ l.take m, nearP qs u key → key ∈ od ++ ext)) := ⟨_, fun _ _ _ => rfl⟩
          refine forS t (nvs l) Pw (fun R h => ?_) (by rw [hPw]; exact ⟨[], _, rfl, sm, by rw [List.append_nil]; exact ed, by rw [List.append_nil]; exact eo, by rw [List.append_nil]; exact nd, by rw [List.append_nil]; exact hod, fun key hk => by rw [List.take_zero] at hk; cases hk⟩) H (.inr ht) (fun m σ' H' h => by rw [hPw] at h; obtain ⟨_, _, _, h, _⟩ := h; exact h) ?_ ?_
          · (try simp only [tVar, tC, tOp, tUn, rI, rI0, rU, rEq, rNe, scal, tTest, tB, tAnd, tOr, tNot, tAndV, tOrV, tNotV, tIf, tChain, tNil, tCons, tCB, tCall, tTup, tLst, tRet, tRetN, tDrop, tSeq, tNext, tIfS, tAsg, gName, tPar, tPar3, gNil, gCons, gTup, gSub, tAug, tSl, tNoPart, tPart, tBM, tBM0, tYes, tIsP, iSeq, iEnumA, RZ.iZipA, iRng1, iRng2, iList, iTup, rIsi, rIsB, rIxL, rIxT, rIxA, rLenA, rListOf, rTupOf, rSetL, rSlL, rCat, rAppend, tFld, sFld, tMake, tBits, Int.ofNat_inj, cast1, cast0, TruV, cxOf, Cx.nox, Cx.wish, tNever, tBreak, tCont, ipI, tDIn, tDNotIn, sDPut, tDNewT, tDNewK, tDGet, rSortedPO, rSortedI, rIn, rEqD, rNeD, rInD, rNotInD, tSSet, rIsV, rIntI, rIntB, rAbsN, tLstRg, tRg1, tRg2, List.append_nil, List.nil_append, List.cons_append, Option.some.injEq, exists_eq_left', exists_eq_left, exists_eq_right, exists_eq_right', List.getElem?_cons_zero, List.getElem?_cons_succ, List.set_cons_zero, List.set_cons_succ, List.cons.injEq, and_true, true_and, exists_and_left, exists_and_right, and_assoc, V.int.injEq, V.bl.injEq, V.ref.injEq, V.str.injEq, reduceCtorEq, decide_true, decide_false, Bool.not_true, Bool.not_false, Bool.false_eq_true, if_false, if_true, ite_true, ite_false, List.length_cons, List.length_nil, tRaise, tErr, LamX.tLam, TTe, rSortedIA, rSortedTA, tDisp, tPairs])
            exact h
          · intro m x σ' H2 hx hh
            rw [hPw] at hh
            obtain ⟨ext, y5, rfl, sm2, ed2, eo2, nd2, hod2, hc2⟩ := hh
            obtain ⟨k, hk, rfl⟩ := nvs_at hx
            have km : k ∈ l := List.mem_of_getElem? hk
            have lod2 : (od ++ ext).length ≤ l.length := List.Nodup.length_le_of_subset nd2 hod2
            have hu2 : (od ++ ext)[i]? = some u := by rw [List.getElem?_append_left hlt]; exact hu
            have no : ¬ (nearP qs u k ∧ k ∉ od ++ ext) → ∀ key ∈ l.take (m + 1), nearP qs u key → key ∈ od ++ ext := fun hno key hkey hn => by
              rw [List.take_add_one, hk] at hkey
              rcases List.mem_append.mp hkey with h | h
              · exact hc2 key h hn
              · have ek : key = k := List.mem_singleton.mp h
                rw [ek] at hn ⊢
                exact Classical.byContradiction fun z => hno ⟨hn, z⟩
            (try simp only [tVar, tC, tOp, tUn, rI, rI0, rU, rEq, rNe, scal, tTest, tB, tAnd, tOr, tNot, tAndV, tOrV, tNotV, tIf, tChain, tNil, tCons, tCB, tCall, tTup, tLst, tRet, tRetN, tDrop, tSeq, tNext, tIfS, tAsg, gName, tPar, tPar3, gNil, gCons, gTup, gSub, tAug, tSl, tNoPart, tPart, tBM, tBM0, tYes, tIsP, iSeq, iEnumA, RZ.iZipA, iRng1, iRng2, iList, iTup, rIsi, rIsB, rIxL, rIxT, rIxA, rLenA, rListOf, rTupOf, rSetL, rSlL, rCat, rAppend, tFld, sFld, tMake, tBits, Int.ofNat_inj, cast1, cast0, TruV, cxOf, Cx.nox, Cx.wish, tNever, tBreak, tCont, ipI, tDIn, tDNotIn, sDPut, tDNewT, tDNewK, tDGet, rSortedPO, rSortedI, rIn, rEqD, rNeD, rInD, rNotInD, tSSet, rIsV, rIntI, rIntB, rAbsN, tLstRg, tRg1, tRg2, List.append_nil, List.nil_append, List.cons_append, Option.some.injEq, exists_eq_left', exists_eq_left, exists_eq_right, exists_eq_right', List.getElem?_cons_zero, List.getElem?_cons_succ, List.set_cons_zero, List.set_cons_succ, List.cons.injEq, and_true, true_and, exists_and_left, exists_and_right, and_assoc, V.int.injEq, V.bl.injEq, V.ref.injEq, V.str.injEq, reduceCtorEq, decide_true, decide_false, Bool.not_true, Bool.not_false, Bool.false_eq_true, if_false, if_true, ite_true, ite_false, List.length_cons, List.length_nil, tRaise, tErr, LamX.tLam, TTe, rSortedIA, rSortedTA, tDisp, tPairs])
            refine ⟨nvs (od ++ ext), .of eo2, nv u, atI_nat (by rw [List.getElem?_map, hu2]; rfl), _, _, rfl, Same.seq sm2 hs, _, nvs_ix (by rw [near_len]; exact hun), _, rfl, ?_⟩
            rw [odd_test]
            have hnt := near_test hg.2 u k
            cases hb : ((nearM n qs).getD u 0).testBit k with
            | false =>
              refine iteF ?_
              rw [hPw]
              exact ⟨ext, _, rfl, sm2, ed2, eo2, nd2, hod2, no fun z => by rw [hnt.mpr z.1] at hb; cases hb⟩
            | true =>
              refine iteT ?_
              by_cases hin : k ∈ od ++ ext
              · refine ⟨some (.bl true), by rw [← flat_enK hin]; exact DGet.k (k := .inl (k : Int)) ed2, iteF ?_⟩
                rw [hPw]
                exact ⟨ext, _, rfl, sm2, ed2, eo2, nd2, hod2, no fun z => z.2 hin⟩
              · have sz : (od ++ ext).length < 16777216 := by omega
                refine ⟨none, by rw [← valk_none hin]; exact DGet.k (k := .inl (k : Int)) ed2, iteT ⟨_, DPut.k (k := .inl (k : Int)) ed2 (by rw [List.length_map, sizeLine_eq]; exact sz), ?_⟩⟩
                rw [putk_new hin]
                have eo3 : (upd H2 d (.dK ((od ++ ext ++ [k]).map enK))) o = some (.lst (nvs (od ++ ext))) := by rw [upd_ne (Ne.symm ndo)]; exact eo2
                refine ⟨ty_lst (.of eo3), _, eo3, by rw [List.length_map, sizeLine_eq]; exact sz, ?_⟩
                rw [hPw]
                refine ⟨ext ++ [k], _, rfl, fun c z hc => ?_, ?_, ?_, ?_, fun j hj => ?_, fun key hkey hn => ?_⟩
                · rw [upd_ne (ne_of_none hc ho0), upd_ne (ne_of_none hc hd)]
                  exact sm2 _ _ hc
                · rw [upd_ne ndo, upd_same, List.append_assoc]
                · rw [upd_same, ← List.append_assoc]
                  show _ = some (HO.lst ((od ++ ext ++ [k]).map nv))
                  rw [List.map_append]
                  rfl
                · rw [← List.append_assoc]
                  refine List.nodup_append.mpr ⟨nd2, List.pairwise_singleton _ _, fun x hx y hy e => ?_⟩
                  rw [List.mem_singleton.mp hy] at e
                  exact hin (e ▸ hx)
                · rw [← List.append_assoc] at hj
                  rcases List.mem_append.mp hj with h | h
                  · exact hod2 j h
                  · rw [List.mem_singleton.mp h]
                    exact km
                · rw [← List.append_assoc]
                  rw [List.take_add_one, hk] at hkey
                  rcases List.mem_append.mp hkey with h | h
                  · exact mem_app (hc2 key h hn)
                  · rw [List.mem_singleton.mp h]
                    exact List.mem_append_right _ (List.mem_singleton_self _)
          · intro σ' H2 hh
            rw [hPw] at hh
            obtain ⟨ext, y5, rfl, sm2, ed2, eo2, nd2, hod2, hc2⟩ := hh
            rw [List.length_map, List.take_length] at hc2
            show Pv (i + 1) _ _
            rw [hPv]
            refine ⟨od ++ ext, _, _, rfl, sm2, ed2, eo2, nd2, hod2, ?_, fun s u2 hs2 hu2 k hk hn => ?_⟩
            · cases od with
              | nil => cases hz
              | cons => exact hz
            · rcases Nat.lt_succ_iff_lt_or_eq.mp hs2 with h | h
              · rw [List.getElem?_append_left (by omega)] at hu2
                exact mem_app (hcl s u2 h hu2 k hk hn)
              · subst h
                rw [List.getElem?_append_left hlt, hu] at hu2
                cases hu2
                exact hc2 k hk hn
        · rw [decide_eq_false (by omega)]
          refine iteF ?_
          rw [hPv]
          refine ⟨od, _, _, rfl, sm, ed, eo, nd, hod, hz, fun s u hs2 hu k hk hn => ?_⟩
          rcases Nat.lt_succ_iff_lt_or_eq.mp hs2 with h | h
          · exact hcl s u h hu k hk hn
          · rw [h] at hu
            have := (List.getElem?_eq_some_iff.mp hu).1
            omega
      · intro σ' H' hh
        rw [hPv] at hh
        obtain ⟨od, y4, y5, rfl, sm, ed, eo, nd, hod, hz, hcl⟩ := hh
        (try simp only [tVar, tC, tOp, tUn, rI, rI0, rU, rEq, rNe, scal, tTest, tB, tAnd, tOr, tNot, tAndV, tOrV, tNotV, tIf, tChain, tNil, tCons, tCB, tCall, tTup, tLst, tRet, tRetN, tDrop, tSeq, tNext, tIfS, tAsg, gName, tPar, tPar3, gNil, gCons, gTup, gSub, tAug, tSl, tNoPart, tPart, tBM, tBM0, tYes, tIsP, iSeq, iEnumA, RZ.iZipA, iRng1, iRng2, iList, iTup, rIsi, rIsB, rIxL, rIxT, rIxA, rLenA, rListOf, rTupOf, rSetL, rSlL, rCat, rAppend, tFld, sFld, tMake, tBits, Int.ofNat_inj, cast1, cast0, TruV, cxOf, Cx.nox, Cx.wish, tNever, tBreak, tCont, ipI, tDIn, tDNotIn, sDPut, tDNewT, tDNewK, tDGet, rSortedPO, rSortedI, rIn, rEqD, rNeD, rInD, rNotInD, tSSet, rIsV, rIntI, rIntB, rAbsN, tLstRg, tRg1, tRg2, List.append_nil, List.nil_append, List.cons_append, Option.some.injEq, exists_eq_left', exists_eq_left, exists_eq_right, exists_eq_right', List.getElem?_cons_zero, List.getElem?_cons_succ, List.set_cons_zero, List.set_cons_succ, List.cons.injEq, and_true, true_and, exists_and_left, exists_and_right, and_assoc, V.int.injEq, V.bl.injEq, V.ref.injEq, V.str.injEq, reduceCtorEq, decide_true, decide_false, Bool.not_true, Bool.not_false, Bool.false_eq_true, if_false, if_true, ite_true, ite_false, List.length_cons, List.length_nil, tRaise, tErr, LamX.tLam, TTe, rSortedIA, rSortedTA, tDisp, tPairs])
        refine ⟨nvs od, .inl (.of eo), nvs l, .inr (Kb.Same.tup sm ht), ?_⟩
        rw [List.length_map, List.length_map]
        have lod : od.length ≤ l.length := List.Nodup.length_le_of_subset nd hod
        have sub : ∀ k ∈ l, k ∈ od := by
          intro k hk
          have hr := (hl.rch l0m k).mp hk
          have h0 : l0 ∈ od := List.mem_of_getElem? hz
          clear hk
          induction hr with
          | refl => exact h0
          | @step b c hb r ih =>
            obtain ⟨s, hs2⟩ := List.mem_iff_getElem?.mp ih
            have := (List.getElem?_eq_some_iff.mp hs2).1
            exact hcl s b (by omega) hs2 c ((hl.rch l0m c).mpr (hb.step r)) r
        have ge : l.length ≤ od.length := List.Nodup.length_le_of_subset (hl.1.imp fun h => Nat.ne_of_lt h) sub
        rw [decide_eq_true (by omega)]
        exact q _ sm
end
end Kr
namespace Kr
open PySem PySem.Spec PyProof.Rows L2 Kb
section
variable {P : Program} {w : World} {K : PySem.W.Frag} {mg : Str → Option Value} {base : Heap}
def sp_told_clashesX (CE : Addr) (K : PySem.W.Frag) : Sp := fun vs H Q E => ∃ a xs ps n, vs = [.ref a, nv n] ∧ GoodPairs n ps ∧ ps.length ≤ 1000 ∧ Prs H xs ps ∧
  ((Seq K H a xs ∧ ∀ H' p ys qs, Same H H' → H p = none → H' p = some (.tup ys) → Prs H' ys qs → qs.Perm ps → qs.Pairwise lexle → Q (.ref p) H') ∨
   ∃ t, Seq K H a (xs ++ [.ref t]) ∧ H t = some (.tup [nv n, nv n]) ∧ ∀ H' d, Same H H' → H' d = none → E (.ref CE) (some d) (upd H' d (.xd [(("at" : Str), nv ps.length)])))
theorem okx_told_clashes (T : Tx P K mg) : FnOk P w K mg base (L2.CX P w) 3 T.a_told_clashes T.d_told_clashes ["value", "many"] (sp_told_clashesX T.c_InvalidClashes K) := by
  refine T.F_told_clashes.okX sc_told_clashes (fun vs H Q E h => ?_) (fun cdv A outer s H vs Q E hr h => ?_)
  · obtain ⟨a, xs, ps, n, rfl, _⟩ := h
    rfl
  · obtain ⟨a, xs, ps, n, rfl, ⟨nd, hg⟩, hz, hp, hh⟩ := h
    refine ⟨_, (pss_cons (ps_if (pt_not (pt_val (pe_call (ok_is_sequence T) (hr.mono (by decide)) (by rfl) T.g_is_sequence T.F_is_sequence.kp T.b_is_sequence .nil pass0 (pa_cons (pv 0) pa_nil)))) (pss_one (ps_raiseE (P := P) (K := K) rfl rfl rfl T.e_InvalidClashes hr T.g_InvalidClashes T.n_super (takes_of rfl rfl rfl rfl) (pa_cons (pe_un un_neg pe_int) pa_nil) (by rfl))) pss_nil)
      (pss_cons (ps_set (i := 2) sc_told_clashes.nd rfl (Or.inl rfl) pe_dnewT)
      (pss_cons (ps_for (passes_of rfl) rfl (penumK (K := K) rfl (by rfl) T.n_enumerate (pa_cons (pv 0) pa_nil)) (gtupK (K := K) (n := 2) rfl (by rfl) (pgs_cons (pg_name (i := 3) sc_told_clashes.nd rfl (Or.inl rfl)) (pgs_cons (pg_name (i := 4) sc_told_clashes.nd rfl (Or.inl rfl)) pgs_nil))) (pss_cons (ps_if (PW.pt (pw_or (pt_not (pt_val (pe_call (ok_is_row T) (hr.mono (by decide)) (by rfl) T.g_is_row T.F_is_row.kp T.b_is_row .nil pass0 (pa_cons (pv 4) (pa_cons pe_int pa_nil))))) (pw_or (pt_not (pt_val (pe_call (ok_is_below T) (hr.mono (by decide)) (by rfl) T.g_is_below T.F_is_below.kp T.b_is_below .nil pass0 (pa_cons (pe_ix (ixA (K := K) rfl) (pv 4) pe_int (fun _ _ => rfl)) (pa_cons (pv 1) pa_nil))))) (pw_or1 (pt_not (pt_val (pe_call (ok_is_below T) (hr.mono (by decide)) (by rfl) T.g_is_below T.F_is_below.kp T.b_is_below .nil pass0 (pa_cons (pe_ix (ixA (K := K) rfl) (pv 4) pe_int (fun _ _ => rfl)) (pa_cons (pv 1) pa_nil))))))))) (pss_one (ps_raiseE (P := P) (K := K) rfl rfl rfl T.e_InvalidClashes hr T.g_InvalidClashes T.n_super (takes_of rfl rfl rfl rfl) (pa_cons (pv 3) pa_nil) (by rfl))) pss_nil)
      (pss_cons (ps_if (PW.pt (pw_or (pt_cmpR op_gt (pe_ix (ixA (K := K) rfl) (pv 4) pe_int (fun _ _ => rfl)) (pe_ix (ixA (K := K) rfl) (pv 4) pe_int (fun _ _ => rfl)) (nomark _)) (pw_or1 (pt_cmp (pc_din (hu_of hr) (pe_tup (pa_cons (pe_ix (ixA (K := K) rfl) (pv 4) pe_int (fun _ _ => rfl)) (pa_cons (pe_ix (ixA (K := K) rfl) (pv 4) pe_int (fun _ _ => rfl)) pa_nil))) (pv 2)))))) (pss_one (ps_raiseE (P := P) (K := K) rfl rfl rfl T.e_InvalidClashes hr T.g_InvalidClashes T.n_super (takes_of rfl rfl rfl rfl) (pa_cons (pv 3) pa_nil) (by rfl))) pss_nil)
      (pss_one (ps_dput (hu_of hr) (pv 2) (pe_tup (pa_cons (pe_ix (ixA (K := K) rfl) (pv 4) pe_int (fun _ _ => rfl)) (pa_cons (pe_ix (ixA (K := K) rfl) (pv 4) pe_int (fun _ _ => rfl)) pa_nil))) pe_bl rfl)))))
      (pss_one (ps_ret (pe_callTy (tupOfK (K := K) rfl) (by rfl) T.n_tuple (by decide +kernel) (pa_cons (pe_callB (sortPK (K := K) rfl) (by rfl) T.n_sorted (by decide +kernel) (pa_cons (pe_callTy (call_list_dT rfl) (by rfl) T.n_list (by decide +kernel) (pa_cons (pv 2) pa_nil)) pa_nil)) pa_nil))))))), ?_⟩
    rw [show L2.start ["value", "many", "seen", "at", "pair"] [.ref a, nv n] = [some (.ref a), some (nv n), none, none, none] from rfl]
    generalize hF1 : tFor _ _ _ = F1
    (try simp only [tVar, tC, tOp, tUn, rI, rI0, rU, rEq, rNe, scal, tTest, tB, tAnd, tOr, tNot, tAndV, tOrV, tNotV, tIf, tChain, tNil, tCons, tCB, tCall, tTup, tLst, tRet, tRetN, tDrop, tSeq, tNext, tIfS, tAsg, gName, tPar, tPar3, gNil, gCons, gTup, gSub, tAug, tSl, tNoPart, tPart, tBM, tBM0, tYes, tIsP, iSeq, iEnumA, RZ.iZipA, iRng1, iRng2, iList, iTup, rIsi, rIsB, rIxL, rIxT, rIxA, rLenA, rListOf, rTupOf, rSetL, rSlL, rCat, rAppend, tFld, sFld, tMake, tBits, Int.ofNat_inj, cast1, cast0, TruV, cxOf, Cx.nox, Cx.wish, tNever, tBreak, tCont, ipI, tDIn, tDNotIn, sDPut, tDNewT, tDNewK, tDGet, rSortedPO, rSortedI, rIn, rEqD, rNeD, rInD, rNotInD, tSSet, rIsV, rIntI, rIntB, rAbsN, tLstRg, tRg1, tRg2, List.append_nil, List.nil_append, List.cons_append, Option.some.injEq, exists_eq_left', exists_eq_left, exists_eq_right, exists_eq_right', List.getElem?_cons_zero, List.getElem?_cons_succ, List.set_cons_zero, List.set_cons_succ, List.cons.injEq, and_true, true_and, exists_and_left, exists_and_right, and_assoc, V.int.injEq, V.bl.injEq, V.ref.injEq, V.str.injEq, reduceCtorEq, decide_true, decide_false, Bool.not_true, Bool.not_false, Bool.false_eq_true, if_false, if_true, ite_true, ite_false, List.length_cons, List.length_nil, tRaise, tErr, LamX.tLam, TTe, rSortedIA, rSortedTA, tDisp, tPairs])
    obtain ⟨zs, hzs, hz2⟩ : ∃ zs, Seq K H a zs ∧ ((zs = xs ∧ ∀ H' p ys qs, Same H H' → H p = none → H' p = some (.tup ys) → Prs H' ys qs → qs.Perm ps → qs.Pairwise lexle → Q (.ref p) H') ∨
        ∃ t, zs = xs ++ [.ref t] ∧ H t = some (.tup [nv n, nv n]) ∧ ∀ H' d, Same H H' → H' d = none → E (.ref T.c_InvalidClashes) (some d) (upd H' d (.xd [(("at" : Str), nv ps.length)]))) := by
      rcases hh with ⟨hs, q⟩ | ⟨t, hs, q⟩
      · exact ⟨_, hs, .inl ⟨rfl, q⟩⟩
      · exact ⟨_, hs, .inr ⟨t, rfl, q⟩⟩
    have hzx : ∀ i, i < ps.length → zs[i]? = xs[i]? := fun i hi => by
      rcases hz2 with ⟨e, _⟩ | ⟨t, e, _⟩
      · rw [e]
      · rw [e]
        exact List.getElem?_append_left (by rw [hp.len]; exact hi)
    refine is_seq hzs ?_
    (try simp only [tVar, tC, tOp, tUn, rI, rI0, rU, rEq, rNe, scal, tTest, tB, tAnd, tOr, tNot, tAndV, tOrV, tNotV, tIf, tChain, tNil, tCons, tCB, tCall, tTup, tLst, tRet, tRetN, tDrop, tSeq, tNext, tIfS, tAsg, gName, tPar, tPar3, gNil, gCons, gTup, gSub, tAug, tSl, tNoPart, tPart, tBM, tBM0, tYes, tIsP, iSeq, iEnumA, RZ.iZipA, iRng1, iRng2, iList, iTup, rIsi, rIsB, rIxL, rIxT, rIxA, rLenA, rListOf, rTupOf, rSetL, rSlL, rCat, rAppend, tFld, sFld, tMake, tBits, Int.ofNat_inj, cast1, cast0, TruV, cxOf, Cx.nox, Cx.wish, tNever, tBreak, tCont, ipI, tDIn, tDNotIn, sDPut, tDNewT, tDNewK, tDGet, rSortedPO, rSortedI, rIn, rEqD, rNeD, rInD, rNotInD, tSSet, rIsV, rIntI, rIntB, rAbsN, tLstRg, tRg1, tRg2, List.append_nil, List.nil_append, List.cons_append, Option.some.injEq, exists_eq_left', exists_eq_left, exists_eq_right, exists_eq_right', List.getElem?_cons_zero, List.getElem?_cons_succ, List.set_cons_zero, List.set_cons_succ, List.cons.injEq, and_true, true_and, exists_and_left, exists_and_right, and_assoc, V.int.injEq, V.bl.injEq, V.ref.injEq, V.str.injEq, reduceCtorEq, decide_true, decide_false, Bool.not_true, Bool.not_false, Bool.false_eq_true, if_false, if_true, ite_true, ite_false, List.length_cons, List.length_nil, tRaise, tErr, LamX.tLam, TTe, rSortedIA, rSortedTA, tDisp, tPairs])
    intro d hd
    subst hF1
    obtain ⟨Pv, hPv⟩ : ∃ Pv : Nat → L2.St → Hp → Prop, ∀ i σ' H', Pv i σ' H' = (∃ y3 y4, σ' = [some (.ref a), some (nv n), some (.ref d), y3, y4] ∧ Same H H' ∧ H' d = some (.dT ((ps.take i).map ent)) ∧ i ≤ ps.length) := ⟨_, fun _ _ _ => rfl⟩
    have upto : ∀ {i : Nat} {x : V}, zs[i]? = some x → i < ps.length → ∃ p b, ps[i]? = some p ∧ x = .ref b ∧ H b = some (.tup [nv p.1, nv p.2]) := fun hx hi => by
      rw [hzx _ hi] at hx
      exact Prs.at hp hx
    refine forE a zs Pv (fun R h => ?_) (by rw [hPv]; exact ⟨_, _, rfl, same_new hd, upd_same, Nat.zero_le _⟩) H hzs (fun i σ' H' h => by rw [hPv] at h; obtain ⟨_, _, _, h, _⟩ := h; exact h) ?_ ?_
    · (try simp only [tVar, tC, tOp, tUn, rI, rI0, rU, rEq, rNe, scal, tTest, tB, tAnd, tOr, tNot, tAndV, tOrV, tNotV, tIf, tChain, tNil, tCons, tCB, tCall, tTup, tLst, tRet, tRetN, tDrop, tSeq, tNext, tIfS, tAsg, gName, tPar, tPar3, gNil, gCons, gTup, gSub, tAug, tSl, tNoPart, tPart, tBM, tBM0, tYes, tIsP, iSeq, iEnumA, RZ.iZipA, iRng1, iRng2, iList, iTup, rIsi, rIsB, rIxL, rIxT, rIxA, rLenA, rListOf, rTupOf, rSetL, rSlL, rCat, rAppend, tFld, sFld, tMake, tBits, Int.ofNat_inj, cast1, cast0, TruV, cxOf, Cx.nox, Cx.wish, tNever, tBreak, tCont, ipI, tDIn, tDNotIn, sDPut, tDNewT, tDNewK, tDGet, rSortedPO, rSortedI, rIn, rEqD, rNeD, rInD, rNotInD, tSSet, rIsV, rIntI, rIntB, rAbsN, tLstRg, tRg1, tRg2, List.append_nil, List.nil_append, List.cons_append, Option.some.injEq, exists_eq_left', exists_eq_left, exists_eq_right, exists_eq_right', List.getElem?_cons_zero, List.getElem?_cons_succ, List.set_cons_zero, List.set_cons_succ, List.cons.injEq, and_true, true_and, exists_and_left, exists_and_right, and_assoc, V.int.injEq, V.bl.injEq, V.ref.injEq, V.str.injEq, reduceCtorEq, decide_true, decide_false, Bool.not_true, Bool.not_false, Bool.false_eq_true, if_false, if_true, ite_true, ite_false, List.length_cons, List.length_nil, tRaise, tErr, LamX.tLam, TTe, rSortedIA, rSortedTA, tDisp, tPairs])
      exact h
    · intro i x σ' H' T2 hx hh2 hT
      rw [hPv] at hh2
      obtain ⟨y3, y4, rfl, sm, ed, hile⟩ := hh2
      by_cases hi : i < ps.length
      · obtain ⟨p, b, hpi, rfl, eb⟩ := upto hx hi
        have gp := hg p (List.mem_of_getElem? hpi)
        have e1 : (upd H' T2 (.tup [nv i, .ref b])) b = some (.tup [nv p.1, nv p.2]) := same_new hT _ _ (sm _ _ eb)
        have sb : Seq K (upd H' T2 (.tup [nv i, .ref b])) b [nv p.1, nv p.2] := .inr (.of e1)
        have ed1 : (upd H' T2 (.tup [nv i, .ref b])) d = some (.dT ((ps.take i).map ent)) := same_new hT _ _ ed
        (try simp only [tVar, tC, tOp, tUn, rI, rI0, rU, rEq, rNe, scal, tTest, tB, tAnd, tOr, tNot, tAndV, tOrV, tNotV, tIf, tChain, tNil, tCons, tCB, tCall, tTup, tLst, tRet, tRetN, tDrop, tSeq, tNext, tIfS, tAsg, gName, tPar, tPar3, gNil, gCons, gTup, gSub, tAug, tSl, tNoPart, tPart, tBM, tBM0, tYes, tIsP, iSeq, iEnumA, RZ.iZipA, iRng1, iRng2, iList, iTup, rIsi, rIsB, rIxL, rIxT, rIxA, rLenA, rListOf, rTupOf, rSetL, rSlL, rCat, rAppend, tFld, sFld, tMake, tBits, Int.ofNat_inj, cast1, cast0, TruV, cxOf, Cx.nox, Cx.wish, tNever, tBreak, tCont, ipI, tDIn, tDNotIn, sDPut, tDNewT, tDNewK, tDGet, rSortedPO, rSortedI, rIn, rEqD, rNeD, rInD, rNotInD, tSSet, rIsV, rIntI, rIntB, rAbsN, tLstRg, tRg1, tRg2, List.append_nil, List.nil_append, List.cons_append, Option.some.injEq, exists_eq_left', exists_eq_left, exists_eq_right, exists_eq_right', List.getElem?_cons_zero, List.getElem?_cons_succ, List.set_cons_zero, List.set_cons_succ, List.cons.injEq, and_true, true_and, exists_and_left, exists_and_right, and_assoc, V.int.injEq, V.bl.injEq, V.ref.injEq, V.str.injEq, reduceCtorEq, decide_true, decide_false, Bool.not_true, Bool.not_false, Bool.false_eq_true, if_false, if_true, ite_true, ite_false, List.length_cons, List.length_nil, tRaise, tErr, LamX.tLam, TTe, rSortedIA, rSortedTA, tDisp, tPairs])
        refine row_i sb ⟨true, rfl, iteF ?_⟩
        refine ⟨_, sb, _, atI_nat (j := 0) rfl, below_n (by omega) ⟨true, rfl, iteF ?_⟩⟩
        refine ⟨_, sb, _, atI_nat (j := 1) rfl, below_n gp.2 ⟨true, rfl, iteF ?_⟩⟩
        have i1 : (.int i : V) = .int i := rfl
        refine ⟨_, sb, _, atI_nat (j := 0) rfl, _, sb, _, atI_nat (j := 1) rfl, _, rfl, _, rfl, ?_⟩
        rw [decide_eq_false (by omega)]
        refine iteF ⟨_, sb, _, atI_nat (j := 0) rfl, _, sb, _, atI_nat (j := 1) rfl, by decide, fun t ht => ?_⟩
        have np : p ∉ ps.take i := fun m => by
          obtain ⟨j, hj, e⟩ := List.mem_iff_getElem.mp m
          rw [List.length_take] at hj
          rw [List.getElem_take] at e
          have hj2 : ps[j]? = some p := by rw [List.getElem?_eq_getElem (by omega), e]
          have := nd_ix nd hj2 hpi
          omega
        refine ⟨none, ?_, iteF ?_⟩
        · rw [← val_none np]
          exact DGet.t (same_new ht _ _ ed1) upd_same
        · have sb2 := Same.sq (same_new (o := .tup [nv p.1, nv p.2]) ht) sb
          refine ⟨_, sb2, _, atI_nat (j := 0) rfl, _, sb2, _, atI_nat (j := 1) rfl, by decide, fun t2 ht2 => ?_⟩
          refine ⟨_, .inr ⟨_, kof p, t2, same_new ht2 _ _ (same_new ht _ _ ed1), rfl, upd_same, by rw [List.length_map, List.length_take, sizeLine_eq]; omega, rfl⟩, ?_⟩
          rw [hPv]
          refine ⟨_, _, rfl, fun c o hc => ?_, ?_, hi⟩
          · rw [upd_ne (ne_of_none hc hd)]
            exact same_new ht2 _ _ (same_new ht _ _ (same_new hT _ _ (sm _ _ hc)))
          · rw [upd_same, put_new np, List.take_add_one, hpi]
            rfl
      · rcases hz2 with ⟨e, _⟩ | ⟨t, e, ht, q⟩
        · rw [e] at hx
          have := (List.getElem?_eq_some_iff.mp hx).1
          rw [hp.len] at this
          omega
        · rw [e] at hx
          have li := (List.getElem?_eq_some_iff.mp hx).1
          rw [List.length_append, List.length_singleton, hp.len] at li
          have ei : i = xs.length := by rw [hp.len]; omega
          subst ei
          rw [List.getElem?_append_right (Nat.le_refl _), Nat.sub_self] at hx
          cases hx
          have s2 := sm.trans (same_new (o := .tup [nv xs.length, .ref t]) hT)
          have sb : Seq K (upd H' T2 (.tup [nv xs.length, .ref t])) t [nv n, nv n] := .inr (.of (s2 _ _ ht))
          (try simp only [tVar, tC, tOp, tUn, rI, rI0, rU, rEq, rNe, scal, tTest, tB, tAnd, tOr, tNot, tAndV, tOrV, tNotV, tIf, tChain, tNil, tCons, tCB, tCall, tTup, tLst, tRet, tRetN, tDrop, tSeq, tNext, tIfS, tAsg, gName, tPar, tPar3, gNil, gCons, gTup, gSub, tAug, tSl, tNoPart, tPart, tBM, tBM0, tYes, tIsP, iSeq, iEnumA, RZ.iZipA, iRng1, iRng2, iList, iTup, rIsi, rIsB, rIxL, rIxT, rIxA, rLenA, rListOf, rTupOf, rSetL, rSlL, rCat, rAppend, tFld, sFld, tMake, tBits, Int.ofNat_inj, cast1, cast0, TruV, cxOf, Cx.nox, Cx.wish, tNever, tBreak, tCont, ipI, tDIn, tDNotIn, sDPut, tDNewT, tDNewK, tDGet, rSortedPO, rSortedI, rIn, rEqD, rNeD, rInD, rNotInD, tSSet, rIsV, rIntI, rIntB, rAbsN, tLstRg, tRg1, tRg2, List.append_nil, List.nil_append, List.cons_append, Option.some.injEq, exists_eq_left', exists_eq_left, exists_eq_right, exists_eq_right', List.getElem?_cons_zero, List.getElem?_cons_succ, List.set_cons_zero, List.set_cons_succ, List.cons.injEq, and_true, true_and, exists_and_left, exists_and_right, and_assoc, V.int.injEq, V.bl.injEq, V.ref.injEq, V.str.injEq, reduceCtorEq, decide_true, decide_false, Bool.not_true, Bool.not_false, Bool.false_eq_true, if_false, if_true, ite_true, ite_false, List.length_cons, List.length_nil, tRaise, tErr, LamX.tLam, TTe, rSortedIA, rSortedTA, tDisp, tPairs])
          refine row_i sb ⟨true, rfl, iteF ?_⟩
          refine ⟨_, sb, _, atI_nat (j := 0) rfl, below_i ?_⟩
          rw [show (decide (0 ≤ (n : Int)) && decide ((n : Int) < (n : Int))) = false by simp]
          refine ⟨false, rfl, iteT fun dd hdd => ?_⟩
          rw [hp.len]
          rw [hp.len] at s2 hdd
          exact q _ dd s2 hdd
    · intro σ' H' hh2
      rw [hPv] at hh2
      obtain ⟨y3, y4, rfl, sm, ed, hile⟩ := hh2
      rcases hz2 with ⟨e, q⟩ | ⟨t, e, ht, q⟩
      · rw [e, Prs.len hp, List.take_length] at ed
        (try simp only [tVar, tC, tOp, tUn, rI, rI0, rU, rEq, rNe, scal, tTest, tB, tAnd, tOr, tNot, tAndV, tOrV, tNotV, tIf, tChain, tNil, tCons, tCB, tCall, tTup, tLst, tRet, tRetN, tDrop, tSeq, tNext, tIfS, tAsg, gName, tPar, tPar3, gNil, gCons, gTup, gSub, tAug, tSl, tNoPart, tPart, tBM, tBM0, tYes, tIsP, iSeq, iEnumA, RZ.iZipA, iRng1, iRng2, iList, iTup, rIsi, rIsB, rIxL, rIxT, rIxA, rLenA, rListOf, rTupOf, rSetL, rSlL, rCat, rAppend, tFld, sFld, tMake, tBits, Int.ofNat_inj, cast1, cast0, TruV, cxOf, Cx.nox, Cx.wish, tNever, tBreak, tCont, ipI, tDIn, tDNotIn, sDPut, tDNewT, tDNewK, tDGet, rSortedPO, rSortedI, rIn, rEqD, rNeD, rInD, rNotInD, tSSet, rIsV, rIntI, rIntB, rAbsN, tLstRg, tRg1, tRg2, List.append_nil, List.nil_append, List.cons_append, Option.some.injEq, exists_eq_left', exists_eq_left, exists_eq_right, exists_eq_right', List.getElem?_cons_zero, List.getElem?_cons_succ, List.set_cons_zero, List.set_cons_succ, List.cons.injEq, and_true, true_and, exists_and_left, exists_and_right, and_assoc, V.int.injEq, V.bl.injEq, V.ref.injEq, V.str.injEq, reduceCtorEq, decide_true, decide_false, Bool.not_true, Bool.not_false, Bool.false_eq_true, if_false, if_true, ite_true, ite_false, List.length_cons, List.length_nil, tRaise, tErr, LamX.tLam, TTe, rSortedIA, rSortedTA, tDisp, tPairs])
        refine ⟨_, .inl ed, fun l bs hl hk => ?_⟩
        have hp2 := prs_keys hk
        have sl : Same H' (upd H' l (.lst (bs.map .ref))) := same_new hl
        refine ⟨_, .of upd_same, dec (upd H' l (.lst (bs.map .ref))), fun y hy => ?_, fun ys t hsrt hstb ht => ?_⟩
        · obtain ⟨i, hi⟩ := List.mem_iff_getElem?.mp hy
          obtain ⟨p, b, _, rfl, eb⟩ := Prs.at hp2 hi
          refine ⟨b, rfl, ?_⟩
          rw [dec_of (sl _ _ eb)]
          exact sl _ _ eb
        · have hq2 := sort_prs (hp2.same sl) hstb.perm
          refine ⟨_, .inl ⟨.of upd_same, fun r hr => q _ r ys (decs (upd H' l (.lst (bs.map .ref))) ys) ?_ ?_ upd_same ?_ hq2.2 ?_⟩⟩
          · exact ((sm.trans sl).trans (same_new ht)).trans (same_new hr)
          · exact ((sm.trans sl).trans (same_new ht)).free hr
          · exact (hq2.1.same (same_new ht)).same (same_new hr)
          · exact sort_lex hq2.1 hsrt
      · rw [e, List.length_append, List.length_singleton, hp.len] at hile
        omega
end
end Kr
namespace Kr
open PySem PySem.Spec PyProof.Rows L2 Kb
section
variable {P : Program} {w : World} {K : PySem.W.Frag} {mg : Str → Option Value} {base : Heap}
/-! ### rooms -/
def inRoom (m i : Nat) (p : NP) : NP := (i * m + p.1, i * m + p.2)
def spread (r m : Nat) (ps : List NP) : List NP := (List.range r).flatMap fun i => ps.map (inRoom m i)
theorem spread_succ (r m : Nat) (ps : List NP) : spread (r + 1) m ps = spread r m ps ++ ps.map (inRoom m r) := by
  unfold spread
  rw [List.range_succ, List.flatMap_append]
  simp
theorem spread_len (r m : Nat) (ps : List NP) : (spread r m ps).length = r * ps.length := by
  induction r with
  | zero => simp [spread]
  | succ r ih => rw [spread_succ, List.length_append, List.length_map, ih, Nat.add_mul, Nat.one_mul]
theorem mem_spread {r m : Nat} {ps : List NP} {q : NP} : q ∈ spread r m ps ↔ ∃ i p, i < r ∧ p ∈ ps ∧ q = inRoom m i p := by
  unfold spread
  rw [List.mem_flatMap]
  constructor
  · rintro ⟨i, hi, h⟩
    obtain ⟨p, hp, rfl⟩ := List.mem_map.mp h
    exact ⟨i, p, List.mem_range.mp hi, hp, rfl⟩
  · rintro ⟨i, p, hi, hp, rfl⟩
    exact ⟨i, List.mem_range.mpr hi, List.mem_map.mpr ⟨p, hp, rfl⟩⟩
theorem spread_perm {r m : Nat} {ps qs : List NP} (h : ps.Perm qs) : (spread r m ps).Perm (spread r m qs) := by
  induction r with
  | zero => exact .refl _
  | succ r ih =>
    rw [spread_succ, spread_succ]
    exact ih.append (h.map _)
theorem room_lt {i r m a : Nat} (hi : i < r) (ha : a < m) : i * m + a < r * m := by
  have h1 : (i + 1) * m ≤ r * m := Nat.mul_le_mul_right m hi
  rw [Nat.add_mul, Nat.one_mul] at h1
  omega
theorem spread_plt {m : Nat} {ps : List NP} (h : ps.Pairwise plt) (g : ∀ p ∈ ps, p.1 ≤ p.2 ∧ p.2 < m) : ∀ r, (spread r m ps).Pairwise plt := by
  intro r
  induction r with
  | zero => exact List.Pairwise.nil
  | succ r ih =>
    rw [spread_succ]
    refine List.pairwise_append.mpr ⟨ih, List.pairwise_map.mpr (h.imp fun {a b} z => ?_), fun x hx y hy => ?_⟩
    · unfold plt inRoom at *
      simp only
      omega
    · obtain ⟨i, p, hi, hp, rfl⟩ := mem_spread.mp hx
      obtain ⟨q, hq, rfl⟩ := List.mem_map.mp hy
      have g1 := g p hp
      have h1 := room_lt hi (show p.1 < m by omega)
      unfold plt inRoom
      simp only
      omega
theorem spread_in {r m : Nat} {ps : List NP} (g : ∀ p ∈ ps, p.1 ≤ p.2 ∧ p.2 < m) : ∀ q ∈ spread r m ps, q.1 ≤ q.2 ∧ q.2 < r * m := by
  intro q hq
  obtain ⟨i, p, hi, hp, rfl⟩ := mem_spread.mp hq
  have g1 := g p hp
  have h1 := room_lt hi g1.2
  unfold inRoom
  simp only
  omega
theorem lexle_of {ps : List NP} (h : ps.Pairwise plt) : ps.Pairwise lexle := h.imp fun {a b} z => by
  unfold plt at z
  unfold lexle
  omega
theorem plt_of {ps : List NP} (h : ps.Pairwise lexle) (nd : ps.Nodup) : ps.Pairwise plt := (h.and nd).imp fun {a b} z => by
  obtain ⟨z1, z2⟩ := z
  unfold lexle at z1
  unfold plt
  have : ¬ (a.1 = b.1 ∧ a.2 = b.2) := fun e => z2 (Prod.ext e.1 e.2)
  omega
theorem sort_uniq : ∀ {l m : List NP}, l.Pairwise lexle → m.Pairwise lexle → l.Perm m → l = m
  | [], m, _, _, h => (List.Perm.eq_nil h.symm).symm
  | x :: l, [], _, _, h => absurd h.length_eq (by simp)
  | x :: l, y :: m, hl, hm, h => by
    have h1 : lexle y x ∨ x = y := by
      rcases List.mem_cons.mp (h.mem_iff.mp List.mem_cons_self) with e | hx
      · exact .inr e
      · exact .inl ((List.pairwise_cons.mp hm).1 x hx)
    have h2 : lexle x y ∨ x = y := by
      rcases List.mem_cons.mp (h.mem_iff.mpr List.mem_cons_self) with e | hy
      · exact .inr e.symm
      · exact .inl ((List.pairwise_cons.mp hl).1 y hy)
    have e : x = y := by
      rcases h1 with h1 | e
      · rcases h2 with h2 | e
        · unfold lexle at h1 h2
          exact Prod.ext (by omega) (by omega)
        · exact e
      · exact e
    subst e
    rw [sort_uniq (List.pairwise_cons.mp hl).2 (List.pairwise_cons.mp hm).2 h.cons_inv]
theorem spread_good {r m : Nat} {ps : List NP} (g : GoodPairs m ps) : GoodPairs (r * m) (spread r m ps) := by
  refine ⟨?_, spread_in g.2⟩
  induction r with
  | zero => exact List.nodup_nil
  | succ r ih =>
    rw [spread_succ]
    refine List.nodup_append.mpr ⟨ih, ?_, fun x hx y hy e => ?_⟩
    · refine List.pairwise_map.mpr (g.1.imp fun {a b} ne e => ne ?_)
      have e1 := congrArg Prod.fst e
      have e2 := congrArg Prod.snd e
      unfold inRoom at e1 e2
      simp only at e1 e2
      exact Prod.ext (by omega) (by omega)
    · obtain ⟨i, p, hi, hp, rfl⟩ := mem_spread.mp hx
      obtain ⟨q, hq, rfl⟩ := List.mem_map.mp hy
      have g1 := g.2 p hp
      have h1 := room_lt hi g1.2
      have e2 := congrArg Prod.snd e
      unfold inRoom at e2
      simp only at e2
      omega
theorem good_len {m : Nat} {ps : List NP} (g : GoodPairs m ps) : ps.length ≤ m * m := by
  have nd : (ps.map fun p => m * p.1 + p.2).Nodup := by
    refine List.pairwise_map.mpr (g.1.imp_of_mem fun {a b} ha hb ne e => ne ?_)
    have ga := g.2 a ha
    have gb := g.2 b hb
    have mp : 0 < m := by omega
    have e1 := congrArg (· / m) e
    have e2 := congrArg (· % m) e
    simp only [Nat.mul_add_div mp, Nat.mul_add_mod, Nat.div_eq_of_lt ga.2, Nat.div_eq_of_lt gb.2, Nat.mod_eq_of_lt ga.2, Nat.mod_eq_of_lt gb.2] at e1 e2
    exact Prod.ext (by omega) e2
  have h := nd_len (n := m * m) nd fun k hk => by
    obtain ⟨p, hp, rfl⟩ := List.mem_map.mp hk
    have gp := g.2 p hp
    have h1 := room_lt (show p.1 < m by omega) gp.2
    rw [Nat.mul_comm m p.1]
    exact h1
  rw [List.length_map] at h
  exact h
theorem prs_pr2 {H : Hp} {xs : List V} {ps : List NP} (h : Prs H xs ps) : Paired (Pr2 H) xs ps := Paired.mapP h fun _ _ z => z
/-- the reading of the keys' spread -/
theorem mul_nn {i m : Nat} : ((i : Int) * (m : Int)) = ((i * m : Nat) : Int) := (Int.natCast_mul ..).symm
def sp_roomed (C : Addr) (K : PySem.W.Frag) : Sp := fun vs H Q _ => ∃ r m a xs ps, vs = [nv r, nv m, .ref a] ∧ (1 ≤ r ∧ r ≤ 12 ∧ 1 ≤ m ∧ m ≤ 12 ∧ r * m ≤ 12) ∧ Seq K H a xs ∧ Prs H xs ps ∧ GoodPairs m ps ∧ ps.length ≤ 144 ∧
  ∀ H' k qs, Same H H' → KeysAt C H' k (r * m) qs → qs.Perm (spread r m ps) → qs.Pairwise lexle → Q (.ref k) H'
theorem ok_roomed (T : Tx P K mg) : FnOk P w K mg base CX0 6 T.a_roomed T.d_roomed ["rooms", "modes", "clashes"] (sp_roomed T.c_Keys K) := by
  refine T.F_roomed.ok sc_roomed (fun vs H Q E h => ?_) (fun cdv A outer s H vs Q E hr h => ?_)
  · obtain ⟨r, m, a, xs, ps, rfl, _⟩ := h
    rfl
  · obtain ⟨r, m, a, xs, ps, rfl, ⟨r1, r2, m1, m2, rm⟩, hs, hp, hg, hz, q⟩ := h
    refine ⟨_, (pss_cons (ps_expr (pe_call (ok_need_count T) (hr.mono (by decide)) (by rfl) T.g_need_count T.F_need_count.kp T.b_need_count .nil pass0 (pa_cons (pv 0) (pa_cons pe_int (pa_cons (pe_globI rfl T.g_MOST_KEYS) pa_nil)))))
      (pss_cons (ps_expr (pe_call (ok_need_count T) (hr.mono (by decide)) (by rfl) T.g_need_count T.F_need_count.kp T.b_need_count .nil pass0 (pa_cons (pv 1) (pa_cons pe_int (pa_cons (pe_globI rfl T.g_MOST_KEYS) pa_nil)))))
      (pss_cons (ps_set (i := 3) sc_roomed.nd rfl (Or.inr rfl) (pe_call (ok_told_clashes T) (hr.mono (by decide)) (by rfl) T.g_told_clashes T.F_told_clashes.kp T.b_told_clashes .nil pass0 (pa_cons (pv 2) (pa_cons (pv 1) pa_nil))))
      (pss_cons (ps_if (pt_cmpR op_gt (pe_op op_mul (pv 0) (pv 1)) (pe_globI rfl T.g_MOST_KEYS) (nomark _)) (pss_one ps_never) pss_nil)
      (pss_cons (ps_setLc2 (i := 4) (own := [("room", 5), ("one", 6), ("other", 7)]) (vs1 := [6, 7]) rfl sc_roomed.nd rfl rfl (sw_true rfl rfl rfl (by decide +kernel)) (pi_range1 (by rfl) T.n_range (pa_cons (pv 0) pa_nil)) (blkOk_by (own := [("room", 5), ("one", 6), ("other", 7)]) (N := ["rooms", "modes", "clashes", "pairs", "spread", "room", "one", "other"]) (sc := defScope s_roomed) (by decide +kernel)) (by decide) (fun _ _ _ _ _ => (pg_name (i := 5) sc_roomed.nd rfl (by first | exact Or.inl rfl | exact Or.inr rfl))) (fun _ _ _ _ _ => pts_nil) (fun _ _ _ _ _ => (pseqK (K := K) rfl (pv 3))) (fun _ _ _ _ _ => (gtupK (K := K) (n := 2) rfl (by rfl) (pgs_cons (pg_name (i := 6) sc_roomed.nd rfl (by first | exact Or.inl rfl | exact Or.inr rfl)) (pgs_cons (pg_name (i := 7) sc_roomed.nd rfl (by first | exact Or.inl rfl | exact Or.inr rfl)) pgs_nil)))) (fun _ _ _ _ _ => pts_nil) (fun _ _ _ _ _ => (pe_tup (pa_cons (pe_op op_add (pe_op op_mul (pv 5) (pv 1)) (pv 6)) (pa_cons (pe_op op_add (pe_op op_mul (pv 5) (pv 1)) (pv 7)) pa_nil)))))
      (pss_one (ps_ret (pe_make T.m_Keys (ok_Keys___init__ T) (hr.mono (by decide)) (by rfl) T.g_Keys T.b_Keys___init__ .nil pass0 (pa_cons (pe_op op_mul (pv 0) (pv 1)) (pa_cons (pv 4) pa_nil)))))))))), ?_⟩
    rw [show L2.start ["rooms", "modes", "clashes", "pairs", "spread", "room", "one", "other"] [nv r, nv m, .ref a] = [some (nv r), some (nv m), some (.ref a), none, none, none, none, none] from rfl]
    generalize hL1 : tLc2 _ _ _ _ _ _ _ _ _ = L1
    (try simp only [tVar, tC, tOp, tUn, rI, rI0, rU, rEq, rNe, scal, tTest, tB, tAnd, tOr, tNot, tAndV, tOrV, tNotV, tIf, tChain, tNil, tCons, tCB, tCall, tTup, tLst, tRet, tRetN, tDrop, tSeq, tNext, tIfS, tAsg, gName, tPar, tPar3, gNil, gCons, gTup, gSub, tAug, tSl, tNoPart, tPart, tBM, tBM0, tYes, tIsP, iSeq, iEnumA, RZ.iZipA, iRng1, iRng2, iList, iTup, rIsi, rIsB, rIxL, rIxT, rIxA, rLenA, rListOf, rTupOf, rSetL, rSlL, rCat, rAppend, tFld, sFld, tMake, tBits, Int.ofNat_inj, cast1, cast0, TruV, cxOf, Cx.nox, Cx.wish, tNever, tBreak, tCont, ipI, tDIn, tDNotIn, sDPut, tDNewT, tDNewK, tDGet, rSortedPO, rSortedI, rIn, rEqD, rNeD, rInD, rNotInD, tSSet, rIsV, rIntI, rIntB, rAbsN, tLstRg, tRg1, tRg2, List.append_nil, List.nil_append, List.cons_append, Option.some.injEq, exists_eq_left', exists_eq_left, exists_eq_right, exists_eq_right', List.getElem?_cons_zero, List.getElem?_cons_succ, List.set_cons_zero, List.set_cons_succ, List.cons.injEq, and_true, true_and, exists_and_left, exists_and_right, and_assoc, V.int.injEq, V.bl.injEq, V.ref.injEq, V.str.injEq, reduceCtorEq, decide_true, decide_false, Bool.not_true, Bool.not_false, Bool.false_eq_true, if_false, if_true, ite_true, ite_false, List.length_cons, List.length_nil, tRaise, tErr, LamX.tLam, TTe, rSortedIA, rSortedTA, tDisp, tPairs])
    refine ⟨_, _, _, rfl, ⟨by omega, by omega⟩, ?_⟩
    (try simp only [tVar, tC, tOp, tUn, rI, rI0, rU, rEq, rNe, scal, tTest, tB, tAnd, tOr, tNot, tAndV, tOrV, tNotV, tIf, tChain, tNil, tCons, tCB, tCall, tTup, tLst, tRet, tRetN, tDrop, tSeq, tNext, tIfS, tAsg, gName, tPar, tPar3, gNil, gCons, gTup, gSub, tAug, tSl, tNoPart, tPart, tBM, tBM0, tYes, tIsP, iSeq, iEnumA, RZ.iZipA, iRng1, iRng2, iList, iTup, rIsi, rIsB, rIxL, rIxT, rIxA, rLenA, rListOf, rTupOf, rSetL, rSlL, rCat, rAppend, tFld, sFld, tMake, tBits, Int.ofNat_inj, cast1, cast0, TruV, cxOf, Cx.nox, Cx.wish, tNever, tBreak, tCont, ipI, tDIn, tDNotIn, sDPut, tDNewT, tDNewK, tDGet, rSortedPO, rSortedI, rIn, rEqD, rNeD, rInD, rNotInD, tSSet, rIsV, rIntI, rIntB, rAbsN, tLstRg, tRg1, tRg2, List.append_nil, List.nil_append, List.cons_append, Option.some.injEq, exists_eq_left', exists_eq_left, exists_eq_right, exists_eq_right', List.getElem?_cons_zero, List.getElem?_cons_succ, List.set_cons_zero, List.set_cons_succ, List.cons.injEq, and_true, true_and, exists_and_left, exists_and_right, and_assoc, V.int.injEq, V.bl.injEq, V.ref.injEq, V.str.injEq, reduceCtorEq, decide_true, decide_false, Bool.not_true, Bool.not_false, Bool.false_eq_true, if_false, if_true, ite_true, ite_false, List.length_cons, List.length_nil, tRaise, tErr, LamX.tLam, TTe, rSortedIA, rSortedTA, tDisp, tPairs])
    refine ⟨_, _, _, rfl, ⟨by omega, by omega⟩, ?_⟩
    (try simp only [tVar, tC, tOp, tUn, rI, rI0, rU, rEq, rNe, scal, tTest, tB, tAnd, tOr, tNot, tAndV, tOrV, tNotV, tIf, tChain, tNil, tCons, tCB, tCall, tTup, tLst, tRet, tRetN, tDrop, tSeq, tNext, tIfS, tAsg, gName, tPar, tPar3, gNil, gCons, gTup, gSub, tAug, tSl, tNoPart, tPart, tBM, tBM0, tYes, tIsP, iSeq, iEnumA, RZ.iZipA, iRng1, iRng2, iList, iTup, rIsi, rIsB, rIxL, rIxT, rIxA, rLenA, rListOf, rTupOf, rSetL, rSlL, rCat, rAppend, tFld, sFld, tMake, tBits, Int.ofNat_inj, cast1, cast0, TruV, cxOf, Cx.nox, Cx.wish, tNever, tBreak, tCont, ipI, tDIn, tDNotIn, sDPut, tDNewT, tDNewK, tDGet, rSortedPO, rSortedI, rIn, rEqD, rNeD, rInD, rNotInD, tSSet, rIsV, rIntI, rIntB, rAbsN, tLstRg, tRg1, tRg2, List.append_nil, List.nil_append, List.cons_append, Option.some.injEq, exists_eq_left', exists_eq_left, exists_eq_right, exists_eq_right', List.getElem?_cons_zero, List.getElem?_cons_succ, List.set_cons_zero, List.set_cons_succ, List.cons.injEq, and_true, true_and, exists_and_left, exists_and_right, and_assoc, V.int.injEq, V.bl.injEq, V.ref.injEq, V.str.injEq, reduceCtorEq, decide_true, decide_false, Bool.not_true, Bool.not_false, Bool.false_eq_true, if_false, if_true, ite_true, ite_false, List.length_cons, List.length_nil, tRaise, tErr, LamX.tLam, TTe, rSortedIA, rSortedTA, tDisp, tPairs])
    refine ⟨a, xs, ps, m, rfl, hs, hp, hg, by omega, fun H1 p ys qs s1 hp1 ep hq hperm hsrt => ?_⟩
    (try simp only [tVar, tC, tOp, tUn, rI, rI0, rU, rEq, rNe, scal, tTest, tB, tAnd, tOr, tNot, tAndV, tOrV, tNotV, tIf, tChain, tNil, tCons, tCB, tCall, tTup, tLst, tRet, tRetN, tDrop, tSeq, tNext, tIfS, tAsg, gName, tPar, tPar3, gNil, gCons, gTup, gSub, tAug, tSl, tNoPart, tPart, tBM, tBM0, tYes, tIsP, iSeq, iEnumA, RZ.iZipA, iRng1, iRng2, iList, iTup, rIsi, rIsB, rIxL, rIxT, rIxA, rLenA, rListOf, rTupOf, rSetL, rSlL, rCat, rAppend, tFld, sFld, tMake, tBits, Int.ofNat_inj, cast1, cast0, TruV, cxOf, Cx.nox, Cx.wish, tNever, tBreak, tCont, ipI, tDIn, tDNotIn, sDPut, tDNewT, tDNewK, tDGet, rSortedPO, rSortedI, rIn, rEqD, rNeD, rInD, rNotInD, tSSet, rIsV, rIntI, rIntB, rAbsN, tLstRg, tRg1, tRg2, List.append_nil, List.nil_append, List.cons_append, Option.some.injEq, exists_eq_left', exists_eq_left, exists_eq_right, exists_eq_right', List.getElem?_cons_zero, List.getElem?_cons_succ, List.set_cons_zero, List.set_cons_succ, List.cons.injEq, and_true, true_and, exists_and_left, exists_and_right, and_assoc, V.int.injEq, V.bl.injEq, V.ref.injEq, V.str.injEq, reduceCtorEq, decide_true, decide_false, Bool.not_true, Bool.not_false, Bool.false_eq_true, if_false, if_true, ite_true, ite_false, List.length_cons, List.length_nil, tRaise, tErr, LamX.tLam, TTe, rSortedIA, rSortedTA, tDisp, tPairs])
    have cm : ∀ i j : Nat, i ≤ 1000 → CMul (i : Int) (j : Int) := fun i j hi => mulL (by omega) (by omega)
    refine ⟨cm _ _ (by omega), ?_⟩
    simp only [mul_nn]
    rw [decide_eq_false (by omega)]
    refine iteF ?_
    have hlen : qs.length = ps.length := hperm.length_eq
    have hgq : ∀ p ∈ qs, p.1 ≤ p.2 ∧ p.2 < m := fun p hp => hg.2 p (hperm.mem_iff.mp hp)
    subst hL1
    refine lc2RP r p ys qs (fun L i k H' acc => Same H1 H' ∧ Prs H' acc (spread i m qs ++ (qs.take k).map (inRoom m i)) ∧ k ≤ qs.length) (fun R h => ?_) (by omega) (.inr (.of ep)) (prs_pr2 hq) (by omega) (fun x => rfl) (fun x y z => rfl) (fun i H' R hi h => ?_) (fun L hL => ⟨same_new hL, .nil, Nat.zero_le _⟩) (fun L i k H' acc _ h => h.1)
      (fun L i k p2 H' acc hL hi hk eL h => ?_) (fun L i H' acc hL h => ?_) (fun σ H Q1 Q2 m h => ?_) (fun L H' acc hL eL h => ?_)
    · (try simp only [tVar, tC, tOp, tUn, rI, rI0, rU, rEq, rNe, scal, tTest, tB, tAnd, tOr, tNot, tAndV, tOrV, tNotV, tIf, tChain, tNil, tCons, tCB, tCall, tTup, tLst, tRet, tRetN, tDrop, tSeq, tNext, tIfS, tAsg, gName, tPar, tPar3, gNil, gCons, gTup, gSub, tAug, tSl, tNoPart, tPart, tBM, tBM0, tYes, tIsP, iSeq, iEnumA, RZ.iZipA, iRng1, iRng2, iList, iTup, rIsi, rIsB, rIxL, rIxT, rIxA, rLenA, rListOf, rTupOf, rSetL, rSlL, rCat, rAppend, tFld, sFld, tMake, tBits, Int.ofNat_inj, cast1, cast0, TruV, cxOf, Cx.nox, Cx.wish, tNever, tBreak, tCont, ipI, tDIn, tDNotIn, sDPut, tDNewT, tDNewK, tDGet, rSortedPO, rSortedI, rIn, rEqD, rNeD, rInD, rNotInD, tSSet, rIsV, rIntI, rIntB, rAbsN, tLstRg, tRg1, tRg2, List.append_nil, List.nil_append, List.cons_append, Option.some.injEq, exists_eq_left', exists_eq_left, exists_eq_right, exists_eq_right', List.getElem?_cons_zero, List.getElem?_cons_succ, List.set_cons_zero, List.set_cons_succ, List.cons.injEq, and_true, true_and, exists_and_left, exists_and_right, and_assoc, V.int.injEq, V.bl.injEq, V.ref.injEq, V.str.injEq, reduceCtorEq, decide_true, decide_false, Bool.not_true, Bool.not_false, Bool.false_eq_true, if_false, if_true, ite_true, ite_false, List.length_cons, List.length_nil, tRaise, tErr, LamX.tLam, TTe, rSortedIA, rSortedTA, tDisp, tPairs])
      exact h
    · (try simp only [tVar, tC, tOp, tUn, rI, rI0, rU, rEq, rNe, scal, tTest, tB, tAnd, tOr, tNot, tAndV, tOrV, tNotV, tIf, tChain, tNil, tCons, tCB, tCall, tTup, tLst, tRet, tRetN, tDrop, tSeq, tNext, tIfS, tAsg, gName, tPar, tPar3, gNil, gCons, gTup, gSub, tAug, tSl, tNoPart, tPart, tBM, tBM0, tYes, tIsP, iSeq, iEnumA, RZ.iZipA, iRng1, iRng2, iList, iTup, rIsi, rIsB, rIxL, rIxT, rIxA, rLenA, rListOf, rTupOf, rSetL, rSlL, rCat, rAppend, tFld, sFld, tMake, tBits, Int.ofNat_inj, cast1, cast0, TruV, cxOf, Cx.nox, Cx.wish, tNever, tBreak, tCont, ipI, tDIn, tDNotIn, sDPut, tDNewT, tDNewK, tDGet, rSortedPO, rSortedI, rIn, rEqD, rNeD, rInD, rNotInD, tSSet, rIsV, rIntI, rIntB, rAbsN, tLstRg, tRg1, tRg2, List.append_nil, List.nil_append, List.cons_append, Option.some.injEq, exists_eq_left', exists_eq_left, exists_eq_right, exists_eq_right', List.getElem?_cons_zero, List.getElem?_cons_succ, List.set_cons_zero, List.set_cons_succ, List.cons.injEq, and_true, true_and, exists_and_left, exists_and_right, and_assoc, V.int.injEq, V.bl.injEq, V.ref.injEq, V.str.injEq, reduceCtorEq, decide_true, decide_false, Bool.not_true, Bool.not_false, Bool.false_eq_true, if_false, if_true, ite_true, ite_false, List.length_cons, List.length_nil, tRaise, tErr, LamX.tLam, TTe, rSortedIA, rSortedTA, tDisp, tPairs, wipe, List.map_cons, List.map_nil, List.foldl_cons, List.foldl_nil, List.foldr_cons, List.foldr_nil])
      exact h
    · obtain ⟨sm, pr, hkl⟩ := h
      have kl := (List.getElem?_eq_some_iff.mp hk).1
      (try simp only [tVar, tC, tOp, tUn, rI, rI0, rU, rEq, rNe, scal, tTest, tB, tAnd, tOr, tNot, tAndV, tOrV, tNotV, tIf, tChain, tNil, tCons, tCB, tCall, tTup, tLst, tRet, tRetN, tDrop, tSeq, tNext, tIfS, tAsg, gName, tPar, tPar3, gNil, gCons, gTup, gSub, tAug, tSl, tNoPart, tPart, tBM, tBM0, tYes, tIsP, iSeq, iEnumA, RZ.iZipA, iRng1, iRng2, iList, iTup, rIsi, rIsB, rIxL, rIxT, rIxA, rLenA, rListOf, rTupOf, rSetL, rSlL, rCat, rAppend, tFld, sFld, tMake, tBits, Int.ofNat_inj, cast1, cast0, TruV, cxOf, Cx.nox, Cx.wish, tNever, tBreak, tCont, ipI, tDIn, tDNotIn, sDPut, tDNewT, tDNewK, tDGet, rSortedPO, rSortedI, rIn, rEqD, rNeD, rInD, rNotInD, tSSet, rIsV, rIntI, rIntB, rAbsN, tLstRg, tRg1, tRg2, List.append_nil, List.nil_append, List.cons_append, Option.some.injEq, exists_eq_left', exists_eq_left, exists_eq_right, exists_eq_right', List.getElem?_cons_zero, List.getElem?_cons_succ, List.set_cons_zero, List.set_cons_succ, List.cons.injEq, and_true, true_and, exists_and_left, exists_and_right, and_assoc, V.int.injEq, V.bl.injEq, V.ref.injEq, V.str.injEq, reduceCtorEq, decide_true, decide_false, Bool.not_true, Bool.not_false, Bool.false_eq_true, if_false, if_true, ite_true, ite_false, List.length_cons, List.length_nil, tRaise, tErr, LamX.tLam, TTe, rSortedIA, rSortedTA, tDisp, tPairs, wipe, List.map_cons, List.map_nil, List.foldl_cons, List.foldl_nil, List.foldr_cons, List.foldr_nil])
      refine ⟨cm _ _ (by omega), cm _ _ (by omega), by decide, fun x hx => ⟨same_new hx _ _ eL, fun b o hb => ?_, ?_, by omega⟩⟩
      · rw [upd_ne (ne_of_none hb hL)]
        exact same_new hx _ _ (sm _ _ hb)
      · rw [List.take_add_one, hk]
        show Prs _ _ (spread i m qs ++ ((qs.take k ++ [p2]).map (inRoom m i)))
        rw [List.map_append, ← List.append_assoc]
        have sx := same_new (o := .tup [.int ((i : Int) * (m : Int) + (p2.1 : Int)), .int ((i : Int) * (m : Int) + (p2.2 : Int))]) hx
        refine Prs.upd ((pr.same sx).snoc ⟨x, rfl, ?_⟩) fun ys z => ?_
        · rw [upd_same]
          rfl
        · rw [sx _ _ eL] at z
          cases z
    · obtain ⟨sm, pr, _⟩ := h
      refine ⟨sm, ?_, Nat.zero_le _⟩
      rw [List.take_zero, List.map_nil, List.append_nil, spread_succ]
      rw [List.take_length] at pr
      exact pr
    · revert h
      (try simp only [tVar, tC, tOp, tUn, rI, rI0, rU, rEq, rNe, scal, tTest, tB, tAnd, tOr, tNot, tAndV, tOrV, tNotV, tIf, tChain, tNil, tCons, tCB, tCall, tTup, tLst, tRet, tRetN, tDrop, tSeq, tNext, tIfS, tAsg, gName, tPar, tPar3, gNil, gCons, gTup, gSub, tAug, tSl, tNoPart, tPart, tBM, tBM0, tYes, tIsP, iSeq, iEnumA, RZ.iZipA, iRng1, iRng2, iList, iTup, rIsi, rIsB, rIxL, rIxT, rIxA, rLenA, rListOf, rTupOf, rSetL, rSlL, rCat, rAppend, tFld, sFld, tMake, tBits, Int.ofNat_inj, cast1, cast0, TruV, cxOf, Cx.nox, Cx.wish, tNever, tBreak, tCont, ipI, tDIn, tDNotIn, sDPut, tDNewT, tDNewK, tDGet, rSortedPO, rSortedI, rIn, rEqD, rNeD, rInD, rNotInD, tSSet, rIsV, rIntI, rIntB, rAbsN, tLstRg, tRg1, tRg2, List.append_nil, List.nil_append, List.cons_append, Option.some.injEq, exists_eq_left', exists_eq_left, exists_eq_right, exists_eq_right', List.getElem?_cons_zero, List.getElem?_cons_succ, List.set_cons_zero, List.set_cons_succ, List.cons.injEq, and_true, true_and, exists_and_left, exists_and_right, and_assoc, V.int.injEq, V.bl.injEq, V.ref.injEq, V.str.injEq, reduceCtorEq, decide_true, decide_false, Bool.not_true, Bool.not_false, Bool.false_eq_true, if_false, if_true, ite_true, ite_false, List.length_cons, List.length_nil, tRaise, tErr, LamX.tLam, TTe, rSortedIA, rSortedTA, tDisp, tPairs])
      rintro ⟨v, a1, v1, a2, i, a3, x, a4, a5, v2, a6, x1, a7, v3, a8, v4, a9, i1, b1, x2, b2, b3, v5, b4, x3, b5, b6, g⟩
      exact ⟨v, a1, v1, a2, i, a3, x, a4, a5, v2, a6, x1, a7, v3, a8, v4, a9, i1, b1, x2, b2, b3, v5, b4, x3, b5, b6, fun p hp => m _ _ (g p hp)⟩
    · obtain ⟨sm, pr, _⟩ := h
      rw [List.take_zero, List.map_nil, List.append_nil] at pr
      (try simp only [tVar, tC, tOp, tUn, rI, rI0, rU, rEq, rNe, scal, tTest, tB, tAnd, tOr, tNot, tAndV, tOrV, tNotV, tIf, tChain, tNil, tCons, tCB, tCall, tTup, tLst, tRet, tRetN, tDrop, tSeq, tNext, tIfS, tAsg, gName, tPar, tPar3, gNil, gCons, gTup, gSub, tAug, tSl, tNoPart, tPart, tBM, tBM0, tYes, tIsP, iSeq, iEnumA, RZ.iZipA, iRng1, iRng2, iList, iTup, rIsi, rIsB, rIxL, rIxT, rIxA, rLenA, rListOf, rTupOf, rSetL, rSlL, rCat, rAppend, tFld, sFld, tMake, tBits, Int.ofNat_inj, cast1, cast0, TruV, cxOf, Cx.nox, Cx.wish, tNever, tBreak, tCont, ipI, tDIn, tDNotIn, sDPut, tDNewT, tDNewK, tDGet, rSortedPO, rSortedI, rIn, rEqD, rNeD, rInD, rNotInD, tSSet, rIsV, rIntI, rIntB, rAbsN, tLstRg, tRg1, tRg2, List.append_nil, List.nil_append, List.cons_append, Option.some.injEq, exists_eq_left', exists_eq_left, exists_eq_right, exists_eq_right', List.getElem?_cons_zero, List.getElem?_cons_succ, List.set_cons_zero, List.set_cons_succ, List.cons.injEq, and_true, true_and, exists_and_left, exists_and_right, and_assoc, V.int.injEq, V.bl.injEq, V.ref.injEq, V.str.injEq, reduceCtorEq, decide_true, decide_false, Bool.not_true, Bool.not_false, Bool.false_eq_true, if_false, if_true, ite_true, ite_false, List.length_cons, List.length_nil, tRaise, tErr, LamX.tLam, TTe, rSortedIA, rSortedTA, tDisp, tPairs])
      refine ⟨cm _ _ (by omega), fun k dx hk hdx hne => ?_⟩
      have e2 : Same H' (upd (upd H' dx (.own k)) k (.ins T.c_Keys dx [])) := (same_new hdx).trans (same_new (by rw [upd_ne (Ne.symm hne)]; exact hk))
      have gs : GoodPairs (r * m) (spread r m qs) := spread_good ⟨hperm.nodup_iff.mpr hg.1, hgq⟩
      have big : r * qs.length ≤ 144 := by
        have h1 : qs.length ≤ m * m := good_len ⟨hperm.nodup_iff.mpr hg.1, hgq⟩
        have h2 := Nat.mul_le_mul_left r h1
        have h3 : r * (m * m) = r * m * m := (Nat.mul_assoc ..).symm
        have h4 := Nat.mul_le_mul rm m2
        omega
      refine ⟨k, dx, L, acc, _, r * m, rfl, upd_same, ⟨Nat.mul_pos r1 m1, rm⟩, .inl (.inl (.inl (e2 _ _ eL))), pr.same e2, gs, ?_, fun H5 qs2 kp ka pe ss => ⟨rfl, ?_⟩⟩
      · rw [spread_len]
        omega
      · exact q H5 k qs2 (fun b o hb => kp b o (ne_of_none (sm _ _ (s1 _ _ hb)) hk) (e2 _ _ (sm _ _ (s1 _ _ hb)))) ka (pe.trans (spread_perm hperm)) ss
/-! ### rooms refused -/
def sp_roomedX (CE CS : Addr) (K : PySem.W.Frag) : Sp := fun vs H Q E => ∃ r m a xs ps, vs = [nv r, nv m, .ref a] ∧ (1 ≤ r ∧ r ≤ 12 ∧ 1 ≤ m ∧ m ≤ 12 ∧ 12 < r * m) ∧ Prs H xs ps ∧ GoodPairs m ps ∧
  ((Seq K H a xs ∧ ∀ H' d, Same H H' → H' d = none → E (.ref CS) (some d) (upd H' d (.xd [(("word" : Str), .str (Str.ofString "keys"))]))) ∨
   ∃ t, Seq K H a (xs ++ [.ref t]) ∧ H t = some (.tup [nv m, nv m]) ∧ ∀ H' d, Same H H' → H' d = none → E (.ref CE) (some d) (upd H' d (.xd [(("at" : Str), nv ps.length)])))
theorem okx_roomed (T : Tx P K mg) : FnOk P w K mg base (L2.CX P w) 6 T.a_roomed T.d_roomed ["rooms", "modes", "clashes"] (sp_roomedX T.c_InvalidClashes T.c_InvalidSize K) := by
  refine T.F_roomed.okX sc_roomed (fun vs H Q E h => ?_) (fun cdv A outer s H vs Q E hr h => ?_)
  · obtain ⟨r, m, a, xs, ps, rfl, _⟩ := h
    rfl
  · obtain ⟨r, m, a, xs, ps, rfl, ⟨r1, r2, m1, m2, rm⟩, hp, hg, hh⟩ := h
    refine ⟨_, (pss_cons (ps_expr (pe_call (ok_need_count T) (hr.mono (by decide)) (by rfl) T.g_need_count T.F_need_count.kp T.b_need_count .nil pass0 (pa_cons (pv 0) (pa_cons pe_int (pa_cons (pe_globI rfl T.g_MOST_KEYS) pa_nil)))))
      (pss_cons (ps_expr (pe_call (ok_need_count T) (hr.mono (by decide)) (by rfl) T.g_need_count T.F_need_count.kp T.b_need_count .nil pass0 (pa_cons (pv 1) (pa_cons pe_int (pa_cons (pe_globI rfl T.g_MOST_KEYS) pa_nil)))))
      (pss_cons (ps_set (i := 3) sc_roomed.nd rfl (Or.inr rfl) (pe_call (okx_told_clashes T) (hr.mono (by decide)) (by rfl) T.g_told_clashes T.F_told_clashes.kp T.b_told_clashes .nil (passes_call (takes_of rfl rfl rfl rfl) fun _ _ _ _ h => h) (pa_cons (pv 2) (pa_cons (pv 1) pa_nil))))
      (pss_cons (ps_if (pt_cmpR op_gt (pe_op op_mul (pv 0) (pv 1)) (pe_globI rfl T.g_MOST_KEYS) (nomark _)) (pss_one (ps_raiseE (P := P) (K := K) rfl rfl rfl T.e_InvalidSize hr T.g_InvalidSize T.n_super (takes_of rfl rfl rfl rfl) (pa_cons pe_str pa_nil) (by rfl))) pss_nil)
      (pss_cons (ps_setLc2 (i := 4) (own := [("room", 5), ("one", 6), ("other", 7)]) (vs1 := [6, 7]) rfl sc_roomed.nd rfl rfl (sw_true rfl rfl rfl (by decide +kernel)) (pi_range1 (by rfl) T.n_range (pa_cons (pv 0) pa_nil)) (blkOk_by (own := [("room", 5), ("one", 6), ("other", 7)]) (N := ["rooms", "modes", "clashes", "pairs", "spread", "room", "one", "other"]) (sc := defScope s_roomed) (by decide +kernel)) (by decide) (fun _ _ _ _ _ => (pg_name (i := 5) sc_roomed.nd rfl (by first | exact Or.inl rfl | exact Or.inr rfl))) (fun _ _ _ _ _ => pts_nil) (fun _ _ _ _ _ => (pseqK (K := K) rfl (pv 3))) (fun _ _ _ _ _ => (gtupK (K := K) (n := 2) rfl (by rfl) (pgs_cons (pg_name (i := 6) sc_roomed.nd rfl (by first | exact Or.inl rfl | exact Or.inr rfl)) (pgs_cons (pg_name (i := 7) sc_roomed.nd rfl (by first | exact Or.inl rfl | exact Or.inr rfl)) pgs_nil)))) (fun _ _ _ _ _ => pts_nil) (fun _ _ _ _ _ => (pe_tup (pa_cons (pe_op op_add (pe_op op_mul (pv 5) (pv 1)) (pv 6)) (pa_cons (pe_op op_add (pe_op op_mul (pv 5) (pv 1)) (pv 7)) pa_nil)))))
      (pss_one (ps_ret (pe_make T.m_Keys (ok_Keys___init__ T) (hr.mono (by decide)) (by rfl) T.g_Keys T.b_Keys___init__ .nil pass0 (pa_cons (pe_op op_mul (pv 0) (pv 1)) (pa_cons (pv 4) pa_nil)))))))))), ?_⟩
    rw [show L2.start ["rooms", "modes", "clashes", "pairs", "spread", "room", "one", "other"] [nv r, nv m, .ref a] = [some (nv r), some (nv m), some (.ref a), none, none, none, none, none] from rfl]
    generalize hL1 : tLc2 _ _ _ _ _ _ _ _ _ = L1
    (try simp only [tVar, tC, tOp, tUn, rI, rI0, rU, rEq, rNe, scal, tTest, tB, tAnd, tOr, tNot, tAndV, tOrV, tNotV, tIf, tChain, tNil, tCons, tCB, tCall, tTup, tLst, tRet, tRetN, tDrop, tSeq, tNext, tIfS, tAsg, gName, tPar, tPar3, gNil, gCons, gTup, gSub, tAug, tSl, tNoPart, tPart, tBM, tBM0, tYes, tIsP, iSeq, iEnumA, RZ.iZipA, iRng1, iRng2, iList, iTup, rIsi, rIsB, rIxL, rIxT, rIxA, rLenA, rListOf, rTupOf, rSetL, rSlL, rCat, rAppend, tFld, sFld, tMake, tBits, Int.ofNat_inj, cast1, cast0, TruV, cxOf, Cx.nox, Cx.wish, tNever, tBreak, tCont, ipI, tDIn, tDNotIn, sDPut, tDNewT, tDNewK, tDGet, rSortedPO, rSortedI, rIn, rEqD, rNeD, rInD, rNotInD, tSSet, rIsV, rIntI, rIntB, rAbsN, tLstRg, tRg1, tRg2, List.append_nil, List.nil_append, List.cons_append, Option.some.injEq, exists_eq_left', exists_eq_left, exists_eq_right, exists_eq_right', List.getElem?_cons_zero, List.getElem?_cons_succ, List.set_cons_zero, List.set_cons_succ, List.cons.injEq, and_true, true_and, exists_and_left, exists_and_right, and_assoc, V.int.injEq, V.bl.injEq, V.ref.injEq, V.str.injEq, reduceCtorEq, decide_true, decide_false, Bool.not_true, Bool.not_false, Bool.false_eq_true, if_false, if_true, ite_true, ite_false, List.length_cons, List.length_nil, tRaise, tErr, LamX.tLam, TTe, rSortedIA, rSortedTA, tDisp, tPairs])
    have lp : ps.length ≤ 1000 := by
      have h1 := good_len hg
      have h2 := Nat.mul_le_mul m2 m2
      omega
    refine ⟨_, _, _, rfl, ⟨by omega, by omega⟩, ?_⟩
    (try simp only [tVar, tC, tOp, tUn, rI, rI0, rU, rEq, rNe, scal, tTest, tB, tAnd, tOr, tNot, tAndV, tOrV, tNotV, tIf, tChain, tNil, tCons, tCB, tCall, tTup, tLst, tRet, tRetN, tDrop, tSeq, tNext, tIfS, tAsg, gName, tPar, tPar3, gNil, gCons, gTup, gSub, tAug, tSl, tNoPart, tPart, tBM, tBM0, tYes, tIsP, iSeq, iEnumA, RZ.iZipA, iRng1, iRng2, iList, iTup, rIsi, rIsB, rIxL, rIxT, rIxA, rLenA, rListOf, rTupOf, rSetL, rSlL, rCat, rAppend, tFld, sFld, tMake, tBits, Int.ofNat_inj, cast1, cast0, TruV, cxOf, Cx.nox, Cx.wish, tNever, tBreak, tCont, ipI, tDIn, tDNotIn, sDPut, tDNewT, tDNewK, tDGet, rSortedPO, rSortedI, rIn, rEqD, rNeD, rInD, rNotInD, tSSet, rIsV, rIntI, rIntB, rAbsN, tLstRg, tRg1, tRg2, List.append_nil, List.nil_append, List.cons_append, Option.some.injEq, exists_eq_left', exists_eq_left, exists_eq_right, exists_eq_right', List.getElem?_cons_zero, List.getElem?_cons_succ, List.set_cons_zero, List.set_cons_succ, List.cons.injEq, and_true, true_and, exists_and_left, exists_and_right, and_assoc, V.int.injEq, V.bl.injEq, V.ref.injEq, V.str.injEq, reduceCtorEq, decide_true, decide_false, Bool.not_true, Bool.not_false, Bool.false_eq_true, if_false, if_true, ite_true, ite_false, List.length_cons, List.length_nil, tRaise, tErr, LamX.tLam, TTe, rSortedIA, rSortedTA, tDisp, tPairs])
    refine ⟨_, _, _, rfl, ⟨by omega, by omega⟩, ?_⟩
    (try simp only [tVar, tC, tOp, tUn, rI, rI0, rU, rEq, rNe, scal, tTest, tB, tAnd, tOr, tNot, tAndV, tOrV, tNotV, tIf, tChain, tNil, tCons, tCB, tCall, tTup, tLst, tRet, tRetN, tDrop, tSeq, tNext, tIfS, tAsg, gName, tPar, tPar3, gNil, gCons, gTup, gSub, tAug, tSl, tNoPart, tPart, tBM, tBM0, tYes, tIsP, iSeq, iEnumA, RZ.iZipA, iRng1, iRng2, iList, iTup, rIsi, rIsB, rIxL, rIxT, rIxA, rLenA, rListOf, rTupOf, rSetL, rSlL, rCat, rAppend, tFld, sFld, tMake, tBits, Int.ofNat_inj, cast1, cast0, TruV, cxOf, Cx.nox, Cx.wish, tNever, tBreak, tCont, ipI, tDIn, tDNotIn, sDPut, tDNewT, tDNewK, tDGet, rSortedPO, rSortedI, rIn, rEqD, rNeD, rInD, rNotInD, tSSet, rIsV, rIntI, rIntB, rAbsN, tLstRg, tRg1, tRg2, List.append_nil, List.nil_append, List.cons_append, Option.some.injEq, exists_eq_left', exists_eq_left, exists_eq_right, exists_eq_right', List.getElem?_cons_zero, List.getElem?_cons_succ, List.set_cons_zero, List.set_cons_succ, List.cons.injEq, and_true, true_and, exists_and_left, exists_and_right, and_assoc, V.int.injEq, V.bl.injEq, V.ref.injEq, V.str.injEq, reduceCtorEq, decide_true, decide_false, Bool.not_true, Bool.not_false, Bool.false_eq_true, if_false, if_true, ite_true, ite_false, List.length_cons, List.length_nil, tRaise, tErr, LamX.tLam, TTe, rSortedIA, rSortedTA, tDisp, tPairs])
    rcases hh with ⟨hs, q⟩ | ⟨t, hs, ht, q⟩
    · refine ⟨a, xs, ps, m, rfl, hg, lp, hp, .inl ⟨hs, fun H1 p ys qs s1 hp1 ep hq hperm hsrt => ?_⟩⟩
      (try simp only [tVar, tC, tOp, tUn, rI, rI0, rU, rEq, rNe, scal, tTest, tB, tAnd, tOr, tNot, tAndV, tOrV, tNotV, tIf, tChain, tNil, tCons, tCB, tCall, tTup, tLst, tRet, tRetN, tDrop, tSeq, tNext, tIfS, tAsg, gName, tPar, tPar3, gNil, gCons, gTup, gSub, tAug, tSl, tNoPart, tPart, tBM, tBM0, tYes, tIsP, iSeq, iEnumA, RZ.iZipA, iRng1, iRng2, iList, iTup, rIsi, rIsB, rIxL, rIxT, rIxA, rLenA, rListOf, rTupOf, rSetL, rSlL, rCat, rAppend, tFld, sFld, tMake, tBits, Int.ofNat_inj, cast1, cast0, TruV, cxOf, Cx.nox, Cx.wish, tNever, tBreak, tCont, ipI, tDIn, tDNotIn, sDPut, tDNewT, tDNewK, tDGet, rSortedPO, rSortedI, rIn, rEqD, rNeD, rInD, rNotInD, tSSet, rIsV, rIntI, rIntB, rAbsN, tLstRg, tRg1, tRg2, List.append_nil, List.nil_append, List.cons_append, Option.some.injEq, exists_eq_left', exists_eq_left, exists_eq_right, exists_eq_right', List.getElem?_cons_zero, List.getElem?_cons_succ, List.set_cons_zero, List.set_cons_succ, List.cons.injEq, and_true, true_and, exists_and_left, exists_and_right, and_assoc, V.int.injEq, V.bl.injEq, V.ref.injEq, V.str.injEq, reduceCtorEq, decide_true, decide_false, Bool.not_true, Bool.not_false, Bool.false_eq_true, if_false, if_true, ite_true, ite_false, List.length_cons, List.length_nil, tRaise, tErr, LamX.tLam, TTe, rSortedIA, rSortedTA, tDisp, tPairs])
      have cm : CMul (r : Int) (m : Int) := mulL (by omega) (by omega)
      refine ⟨cm, ?_⟩
      simp only [mul_nn]
      rw [decide_eq_true (by omega)]
      exact iteT fun d hd => q _ d s1 hd
    · exact ⟨a, xs, ps, m, rfl, hg, lp, hp, .inr ⟨t, hs, ht, q⟩⟩
end
end Kr
namespace Kr
open PySem PySem.Spec PyProof.Rows L2 Kb
section
variable {P : Program} {w : World} {K : PySem.W.Frag} {mg : Str → Option Value} {base : Heap}
/-- the errors that the law's own error def tells apart -/
abbrev told4 (T : Tx P K mg) : List (Addr × Str × Str) := [(T.c_InvalidClashes, Str.ofString "clashes", Str.ofString "at"), (T.c_InvalidSize, Str.ofString "size", Str.ofString "word")]
theorem gives__law_error (T : Tx P K mg) {X : Cx} (hP : X.prog = P) (hK : X.K = K) (hm : X.mg = mg) (q : Str) (cdg : Value) :
    LamX.GivesTo X ["call", "e"] "_law_error" (defScope s__law_error) T.a__law_error cdg (defBody s__law_error) "call" q (TTe K (told4 T)) := by
  subst hP hK hm
  exact err_gives sc__law_error.nd rfl fun s H => .cons ⟨rfl, rfl, .inl T.g_InvalidClashes⟩ (fun a oe cls d pn hz hf => pss_one (ps_ret (pe_tup (pa_cons pe_str (pa_cons (pe_xf T.x_InvalidClashes.xf T.x_InvalidClashes.no hz hf (pv 1)) pa_nil)))))
    (.cons ⟨rfl, rfl, .inl T.g_InvalidSize⟩ (fun a oe cls d pn hz hf => pss_one (ps_ret (pe_tup (pa_cons pe_str (pa_cons (pe_xf T.x_InvalidSize.xf T.x_InvalidSize.no hz hf (pv 1)) pa_nil))))) .nil)
theorem ans_clashes (T : Tx P K mg) {Q : VK} {v : V} {H : Hp} {d : Addr} (hd : H d = none) (q : ∀ H' p, Same H H' → H' p = some (.tup [.str (Str.ofString "clashes"), v]) → Q (.ref p) H') : wErrs K Q (told4 T) (.ref T.c_InvalidClashes) (some d) (upd H d (.xd [(("at" : Str), v)])) :=
  ⟨true, T.ex_CC, fun _ => ⟨rfl, d, _, v, rfl, upd_same, by simp [List.lookup], fun p hp => q _ p ((same_new hd).trans (same_new hp)) upd_same⟩, fun z => (nomatch z)⟩
theorem ans_size (T : Tx P K mg) {Q : VK} {v : V} {H : Hp} {d : Addr} (hd : H d = none) (q : ∀ H' p, Same H H' → H' p = some (.tup [.str (Str.ofString "size"), v]) → Q (.ref p) H') : wErrs K Q (told4 T) (.ref T.c_InvalidSize) (some d) (upd H d (.xd [(("word" : Str), v)])) :=
  ⟨false, T.ex_SC, fun z => (nomatch z), fun _ => ⟨true, T.ex_SS, fun _ => ⟨rfl, d, _, v, rfl, upd_same, by simp [List.lookup], fun p hp => q _ p ((same_new hd).trans (same_new hp)) upd_same⟩, fun z => (nomatch z)⟩⟩
end
end Kr
namespace Kr
open PySem PySem.Spec PyProof.Rows L2 Kb
section
variable {P : Program} {w : World} {K : PySem.W.Frag} {mg : Str → Option Value} {base : Heap}
/-- _law_error(lambda: body) -/
theorem pe_lamE (T : Tx P K mg) {X : Cx} {TT : List (Addr × Str)} {c Pt : Addr} {k : Nat} {params : Arguments} {body : Expr} {scope : Scope} {t : XK → TE} {p lpos pos : Pos} (hP : X.prog = P) (hK : X.K = K) (hm : X.mg = mg) (hg : Gl X "_law_error")
    (TB : LamX.TabB X.base X.mg c Pt) (hcode : X.env.code = .ref c) (hmT : (Pt, X.env.qual ++ "<lambda>") ∈ TT) (hu : ∀ p ∈ TT, p.1 = Pt → p.2 = X.env.qual ++ "<lambda>") (hr : Room (k + 2) X.A) (L : LamX.LamS X.env.scope scope) (hdef : defaultsOf params X.env = ([], []))
    (hbind : ∀ (q : Str) (cl : List (Str × Addr)) (pm cv ctv : Value), bindArgs (PySem.W.kla_fn "<lambda>" q params body scope cl pm cv ctv) ⟨[], []⟩ = pure [])
    (hbody : ∀ (A : Around) (outer : List Env) (s : Shared) (H : Hp) (E : XK) (f c' : Addr), Room k (A.deeper (LamX.lamEnv X scope s.heap.objs.size f c')) → PE (LamX.lamCx X A outer s H E scope f c') body (t E)) :
    PE X (.Call (.Name "_law_error" p) [.Lambda params body scope lpos] [] pos) (LamX.tLam TT (TTe K (told4 T)) t) := by
  subst hP hK hm
  obtain ⟨oc, od, kV, doc, pm, an, cdv, ct, osl, e, lk, hcd⟩ := T.F__law_error.ex
  have hb := T.b__law_error
  rw [e] at hb lk
  exact LamX.pe_lamcall (x := "_law_error") (a := "call") hg T.g__law_error T.F__law_error.kp lk hcd hb sc__law_error rfl (.inl rfl) (gives__law_error T rfl rfl rfl _ _) TB hcode hmT hu hr L hdef hbind hbody
/-- as Fun.ok, the def's own code object known -/
theorem ok_code {x qual : Str} {st : Stmt} {f c : Addr} {N ps : List Str} {k : Nat} {sp : Sp} {oc : Value} {od an : Option Addr} {kV doc pm ct : Value} {osl : Array (Option Value)}
    (lk : K.lookup f = some ⟨oc, od, .func (PySem.W.fnOf x qual (defArgs st) (defBody st) (defScope st) .none kV doc pm an (.ref c) ct), osl⟩) (hcd : PySem.W.codeIn K (.ref c) qual = true) (S : FnScope N ps (defScope st)) (len : ∀ vs H Q E, sp vs H Q E → vs.length = ps.length)
    (hbody : ∀ (A : Around) (outer : List Env) (s : Shared) (H : Hp) (vs : List V) (Q : VK) (E : XK), Room k (A.deeper (envOfC qual (defScope st) s.heap.objs.size f (.ref c))) → sp vs H Q E →
      ∃ t, PSs (cxOf CX0 P w K mg base N qual (defScope st) f (.ref c) A outer s H E).nox (defBody st) t ∧ t { nx := fun _ H' => Q .non H', rt := Q } (L2.start N vs) H) :
    FnOk P w K mg base CX0 (k + 1) f (PySem.W.fnOf x qual (defArgs st) (defBody st) (defScope st) .none kV doc pm an (.ref c) ct) ps sp :=
  fn_of lk hcd S len fun A outer s H vs Q E hr hsp => by
    obtain ⟨t, h1, h2⟩ := hbody A outer s H vs Q E hr hsp
    exact ⟨t, h1.nox, h2⟩
end
end Kr
namespace Kr
open PySem PySem.Spec PyProof.Rows L2 Kb
section
variable {K : PySem.W.Frag}
/-- the heap without the tables of code objects -/
def nt (H : Hp) : Hp := fun a => match H a with
  | some (.tbl _) => none
  | x => x
theorem nt_of {H : Hp} {a : Addr} {o : HO} (h : nt H a = some o) : H a = some o ∧ ∀ ps, o ≠ .tbl ps := by
  unfold nt at h
  split at h
  · cases h
  · rename_i n
    exact ⟨h, fun ps e => n ps (by rw [h, e])⟩
theorem nt_at {H : Hp} {a : Addr} {o : HO} (h : H a = some o) (n : ∀ ps, o ≠ .tbl ps) : nt H a = some o := by
  unfold nt
  split
  · rename_i ps e
    rw [h] at e
    exact absurd (Option.some.inj e) (n ps)
  · exact h
theorem nt_le (H : Hp) : Same (nt H) H := fun a o h => (nt_of h).1
theorem nt_ext {H H' : Hp} (e : LamX.ExtN H H') : Same (nt H) (nt H') := fun a o h => by
  obtain ⟨h1, h2⟩ := nt_of h
  exact nt_at (e a o h1 h2) h2
theorem nt_mono {H H' : Hp} (e : Same H H') : Same (nt H) (nt H') := nt_ext (LamX.ExtN.of e)
theorem nt_free {H : Hp} {a : Addr} (h : H a = none) : nt H a = none := by
  cases e : nt H a with
  | none => rfl
  | some o => rw [(nt_of e).1] at h; cases h
theorem Bx.ntB {b : Addr} {H : Hp} (h : Bx b H) : Bx b (nt H) := by
  obtain ⟨r, cs, st, h1, h2, h3, h4⟩ := h
  exact ⟨r, cs, st, nt_at h1 (fun ps z => nomatch z), h2, nt_at h3 (fun ps z => nomatch z), h4⟩
theorem Bx.ext {b : Addr} {H H' : Hp} (h : Bx b H) (e : LamX.ExtN H H') : Bx b H' := by
  obtain ⟨r, cs, st, h1, h2, h3, h4⟩ := h
  exact ⟨r, cs, st, e _ _ h1 (fun ps z => nomatch z), h2, e _ _ h3 (fun ps z => nomatch z), h4⟩
/-- the heap without the box, its rest and the tables -/
def vis (b : Addr) (H : Hp) : Hp := nt (hbx b H)
theorem vis_le (b : Addr) (H : Hp) : Same (vis b H) H := (nt_le _).trans (hbx_le b H)
theorem vis_bx {b : Addr} {H H' : Hp} (e : Same (hbx b H) (hbx b H')) : Same (vis b H) (vis b H') := nt_mono e
theorem Bx.visE {b : Addr} {H H' : Hp} (h : Bx b H) (e : LamX.ExtN H H') : Same (vis b H) (vis b H') := nt_ext fun a o ha n => by
  obtain ⟨h1, h2, h3⟩ := hbx_of ha
  obtain ⟨r, cs, st, eb, _⟩ := h
  refine hbx_at (e a o h3 n) h1 ?_
  rw [e _ _ eb (fun ps z => nomatch z), ← eb]
  exact h2
theorem Bx.visM {b : Addr} {H H' : Hp} (h : Bx b H) (e : Same H H') : Same (vis b H) (vis b H') := vis_bx (h.mono e)
/-- what is no list and no table stands apart -/
theorem Bx.visN {b a : Addr} {H : Hp} {o : HO} (h : Bx b H) (e : H a = some o) (n : ∀ xs, o ≠ .lst xs) (m : ∀ ps, o ≠ .tbl ps) : vis b H a = some o := nt_at (h.non e n) m
theorem Bx.vis_new {b p : Addr} {H H' : Hp} {o : HO} (h : Bx b H) (e : Same H H') (hp : H p = none) (hp2 : H' p = some o) (m : ∀ ps, o ≠ .tbl ps) : vis b H' p = some o := nt_at (h.new e hp hp2) m
theorem vis_free {b a : Addr} {H : Hp} (h : H a = none) : vis b H a = none := nt_free (hbx_free h)
theorem vis_hbx {b p : Addr} {H : Hp} {o : HO} (h : vis b H p = some o) : hbx b H p = some o := (nt_of h).1
theorem vis_put {b p : Addr} {H : Hp} {o u : HO} (h : vis b H p = some o) (m : ∀ ps, u ≠ .tbl ps) : vis b (upd H p u) = upd (vis b H) p u := by
  unfold vis
  rw [hbx_put (vis_hbx h)]
  funext a
  by_cases e : a = p
  · subst e
    rw [upd_same, nt_at upd_same m]
  · rw [upd_ne e]
    unfold nt
    rw [upd_ne e]
theorem KeysAt.vis {C b : Addr} {H : Hp} {k : Addr} {n : Nat} {qs : List NP} (hb : Bx b H) (h : KeysAt C H k n qs) : KeysAt C (vis b H) k n qs := by
  obtain ⟨dx, t, ys, h1, h2, h3⟩ := h
  exact ⟨dx, t, ys, hb.visN h1 (fun xs z => nomatch z) (fun ps z => nomatch z), hb.visN h2 (fun xs z => nomatch z) (fun ps z => nomatch z),
    Paired.mapP h3 fun _ _ ⟨a, e1, e2⟩ => ⟨a, e1, hb.visN e2 (fun xs z => nomatch z) (fun ps z => nomatch z)⟩⟩
theorem paired_at {α : Type} {R : V → α → Prop} : ∀ {xs : List V} {os : List α} {i : Nat} {x : V} {o : α}, Paired R xs os → xs[i]? = some x → os[i]? = some o → R x o
  | _, _, _, _, _, .nil, e, _ => by simp at e
  | _, _, 0, _, _, .cons h _, e, f => by cases e; cases f; exact h
  | _, _, i + 1, _, _, .cons _ t, e, f => paired_at (i := i) t e f
theorem paired_snoc {α : Type} {R : V → α → Prop} : ∀ {xs : List V} {os : List α} {x : V} {o : α}, Paired R xs os → R x o → Paired R (xs ++ [x]) (os ++ [o])
  | _, _, _, _, .nil, h => .cons h .nil
  | _, _, _, _, .cons h t, h2 => .cons h (paired_snoc t h2)
theorem paired_app {α : Type} {R : V → α → Prop} : ∀ {xs ys : List V} {os ps : List α}, Paired R xs os → Paired R ys ps → Paired R (xs ++ ys) (os ++ ps)
  | _, _, _, _, .nil, h => h
  | _, _, _, _, .cons h t, h2 => .cons h (paired_app t h2)
theorem paired_map {α β : Type} {R : V → β → Prop} {f : α → β} : ∀ {xs : List V} {os : List α}, Paired (fun x o => R x (f o)) xs os → Paired R xs (os.map f)
  | _, _, .nil => .nil
  | _, _, .cons h t => .cons h (paired_map t)
theorem tabs_put {TT : List (Addr × Str)} {H : Hp} {L : Addr} {xs : List V} {u : HO} (t : LamX.Tabs TT H) (h : H L = some (.lst xs)) : LamX.Tabs TT (upd H L u) := fun p hp => by
  obtain ⟨ps, h1, h2, h3⟩ := t p hp
  refine ⟨ps, by rw [upd_ne (fun z => by rw [z, h] at h1; cases h1)]; exact h1, h2, fun pos cv hc => ?_⟩
  obtain ⟨c, e1, e2⟩ := h3 pos cv hc
  have ne : c ≠ L := fun z => by
    rw [z, h] at e2
    exact absurd (Option.some.inj e2) (by unfold LamX.CodeO; exact fun w => nomatch w)
  exact ⟨c, e1, by rw [upd_ne ne]; exact e2⟩
theorem KeysAt.put {C : Addr} {H : Hp} {k L : Addr} {n : Nat} {qs : List NP} {xs : List V} {u : HO} (h : KeysAt C H k n qs) (e : H L = some (.lst xs)) : KeysAt C (upd H L u) k n qs := by
  obtain ⟨dx, t, ys, h1, h2, h3⟩ := h
  exact ⟨dx, t, ys, by rw [upd_ne (fun z => by rw [z, e] at h1; cases h1)]; exact h1, by rw [upd_ne (fun z => by rw [z, e] at h2; cases h2)]; exact h2, h3.upd fun ys z => by rw [e] at z; cases z⟩
theorem Bx.tabs {TT : List (Addr × Str)} {b : Addr} {H H' : Hp} (hb : Bx b H) (t : LamX.Tabs TT H) (s : Same (hbx b H) (hbx b H')) : LamX.Tabs TT H' := by
  have t1 : LamX.Tabs TT (hbx b H) := fun p hp => by
    obtain ⟨ps, h1, h2, h3⟩ := t p hp
    refine ⟨ps, hb.non h1 (fun xs z => nomatch z), h2, fun pos cv hc => ?_⟩
    obtain ⟨c, e1, e2⟩ := h3 pos cv hc
    exact ⟨c, e1, hb.non e2 (by unfold LamX.CodeO; exact fun xs z => nomatch z)⟩
  exact t1.ext (s.trans (hbx_le b H'))
theorem TD.strint {H : Hp} {a b : Addr} {z : Str} {v : Int} {n : Nat} (h1 : H a = some (.tup [.str z, .int v])) (h2 : H b = some (.tup [.str z, .int v])) : TD K H (n + 2) (.ref a) (.ref b) := by
  refine .tup (.inl (.inl h1)) (.inl (.inl h2)) rfl fun i x y e1 e2 => ?_
  rw [e1] at e2
  cases e2
  match i, e1 with
  | 0, e1 => cases e1; exact .str _ _
  | 1, e1 => cases e1; exact .int _ _
/-- the name of law's lambdas -/
abbrev lamQ : Str := (Str.ofString "law" ++ Str.ofString ".<locals>.") ++ Str.ofString "<lambda>"
def sp_lawT (K : PySem.W.Frag) (Pt : Addr) : Sp := fun vs H Q _ => ∃ a ns, vs = [.ref a] ∧ SqL K H a (ivs ns) ∧ ns.length ≤ 63 ∧ H Pt = some (.tbl #[]) ∧ ∀ H', Q (.bl true) H'
end
end Kr
namespace Kr
open PySem PySem.Spec PyProof.Rows L2 Kb
section
variable {P : Program} {w : World} {K : PySem.W.Frag} {mg : Str → Option Value} {base : Heap}
theorem TD.prs {H : Hp} {n : Nat} {a b : Addr} {xs ys : List V} {ps : List NP} (h1 : H a = some (.tup xs)) (h2 : H b = some (.tup ys)) (p1 : Prs H xs ps) (p2 : Prs H ys ps) : TD K H (n + 3) (.ref a) (.ref b) := by
  refine .tup (.inl (.inl h1)) (.inl (.inl h2)) (p1.len.trans p2.len.symm) fun i x y e1 e2 => ?_
  obtain ⟨p, c, hp, rfl, ec⟩ := p1.at e1
  obtain ⟨q, d, hq, rfl, ed⟩ := p2.at e2
  rw [hp] at hq
  cases hq
  refine .tup (.inl (.inl ec)) (.inl (.inl ed)) rfl fun j x y f1 f2 => ?_
  match j, f1, f2 with
  | 0, f1, f2 => cases f1; cases f2; exact .int _ _
  | 1, f1, f2 => cases f1; cases f2; exact .int _ _
theorem int_uniq : ∀ {l m : List Int}, l.Pairwise (· ≤ ·) → m.Pairwise (· ≤ ·) → l.Perm m → l = m
  | [], m, _, _, h => (List.Perm.eq_nil h.symm).symm
  | x :: l, [], _, _, h => absurd h.length_eq (by simp)
  | x :: l, y :: m, hl, hm, h => by
    have h1 : y ≤ x := by
      rcases List.mem_cons.mp (h.mem_iff.mp List.mem_cons_self) with e | hx
      · omega
      · exact (List.pairwise_cons.mp hm).1 x hx
    have h2 : x ≤ y := by
      rcases List.mem_cons.mp (h.mem_iff.mpr List.mem_cons_self) with e | hy
      · omega
      · exact (List.pairwise_cons.mp hl).1 y hy
    have e : x = y := by omega
    subst e
    rw [int_uniq (List.pairwise_cons.mp hl).2 (List.pairwise_cons.mp hm).2 h.cons_inv]
theorem asc_ofNat {l : List Nat} (h : l.Pairwise (· < ·)) : (l.map Int.ofNat).Pairwise (· ≤ ·) := List.pairwise_map.mpr (h.imp fun {a b} z => by
  show (a : Int) ≤ (b : Int)
  omega)
theorem near_out {qs : List NP} {n : Nat} {l : List Nat} (g : GoodQ n qs) (h : IsPart qs n l) {k : Nat} (hk : k ∈ l) : (nearM n qs).getD k 0 &&& (4095 ^^^ maskOf l) = 0 := by
  refine Nat.eq_of_testBit_eq fun j => ?_
  rw [Nat.testBit_and, Nat.testBit_xor, maskOf_test, Nat.zero_testBit]
  cases hb : ((nearM n qs).getD k 0).testBit j with
  | false => rfl
  | true =>
    have hn := (near_test g.2 k j).mp hb
    have hj : j ∈ l := (h.rch hk j).mpr (.step .refl hn)
    have hlt := h.lt g j hj
    have h12 := g.1
    rw [decide_eq_true hj, (by decide : ∀ j < 12, (4095 : Nat).testBit j = true) j (by omega)]
    rfl
def dL (l : List Nat) : PyData := .tuple ((l.map Int.ofNat).map PyData.int)
theorem dp_lts {H : Hp} : ∀ {xs : List V} {ls : List (List Nat)}, Lts H xs ls → DpAll K H xs (ls.map dL)
  | _, _, .nil => .nil
  | _, _, .cons ⟨a, e1, e2⟩ t => by
    subst e1
    rw [nvs_ivs] at e2
    exact .cons (.tup (.of e2) (dp_ints _)) (dp_lts t)
theorem lay_ints (l : List Int) : PyData.canLayAll0 (l.map PyData.int) = true ∧ PyData.depthAll (l.map PyData.int) ≤ 2 := by
  induction l with
  | nil => simp [PyData.canLayAll0, PyData.depthAll]
  | cons p r ih =>
    obtain ⟨i1, i2⟩ := ih
    rw [List.map_cons]
    refine ⟨by simp [PyData.canLayAll0, i1, PyData.canLay0], ?_⟩
    simp [PyData.depthAll, PyData.depth]
    omega
theorem sh_lts (ls : List (List Nat)) : SeqAt.shaped (.tuple (ls.map dL)) = true := by
  have h1 : PyData.canLayAll0 (ls.map dL) = true ∧ PyData.depthAll (ls.map dL) ≤ 5 := by
    induction ls with
    | nil => simp [PyData.canLayAll0, PyData.depthAll]
    | cons p r ih =>
      obtain ⟨i1, i2⟩ := ih
      obtain ⟨j1, j2⟩ := lay_ints (p.map Int.ofNat)
      rw [List.map_cons]
      refine ⟨?_, ?_⟩
      · simp only [PyData.canLayAll0, i1, dL, PyData.canLay0, j1, Bool.and_self]
      · simp only [PyData.depthAll, dL, PyData.depth]
        omega
  simp [SeqAt.shaped, PyData.canLay0, PyData.depth, h1.1]
  omega
theorem refl_shaped {d : PyData} (h : SeqAt.shaped d = true) : PyData.eqv d d = true := SeqAt.eqv_refl d (by
  unfold SeqAt.shaped at h
  exact (Bool.and_eq_true_iff.mp h).1)
theorem TD.strs {H : Hp} {a b : Addr} {z v : Str} {n : Nat} (h1 : H a = some (.tup [.str z, .str v])) (h2 : H b = some (.tup [.str z, .str v])) : TD K H (n + 2) (.ref a) (.ref b) := by
  refine .tup (.inl (.inl h1)) (.inl (.inl h2)) rfl fun i x y e1 e2 => ?_
  rw [e1] at e2
  cases e2
  match i, e1 with
  | 0, e1 => cases e1; exact .str _ _
  | 1, e1 => cases e1; exact .str _ _
set_option maxHeartbeats 8000000 in
theorem ok_law (T : Tx P K mg) {c Pt : Addr} {oc : Value} {od an : Option Addr} {kV doc pm ct : Value} {osl : Array (Option Value)}
    (lk : K.lookup T.a_law = some ⟨oc, od, .func (PySem.W.fnOf "law" "law" (defArgs s_law) (defBody s_law) (defScope s_law) .none kV doc pm an (.ref c) ct), osl⟩) (hcd : PySem.W.codeIn K (.ref c) "law" = true) (TB : LamX.TabB base mg c Pt) :
    FnOk P w K mg base CX0 (10) T.a_law (PySem.W.fnOf "law" "law" (defArgs s_law) (defBody s_law) (defScope s_law) .none kV doc pm an (.ref c) ct) ["script"] (sp_lawT K Pt) := by
  refine ok_code lk hcd sc_law (fun vs H Q E h => ?_) (fun A outer s H vs Q E hr h => ?_)
  · obtain ⟨a, ns, rfl, _⟩ := h
    rfl
  · obtain ⟨a, ns, rfl, hs, hn, hP, q⟩ := h
    have hmT : (Pt, lamQ) ∈ [(Pt, lamQ)] := List.mem_singleton_self _
    have hu : ∀ p ∈ [(Pt, lamQ)], p.1 = Pt → p.2 = lamQ := fun p hp _ => by rw [List.mem_singleton.mp hp]
    refine ⟨_, (pss_cons (ps_set (i := 1) sc_law.nd rfl (Or.inl rfl) (pe_call (ok__law_box T) (hr.mono (by decide)) (by rfl) T.g__law_box T.F__law_box.kp T.b__law_box .nil pass0 (pa_cons (pv 0) pa_nil)))
      (pss_cons (ps_for PassesOwn.never rfl (pi_range1 (by rfl) T.n_range (pa_cons pe_int pa_nil)) (pg_name (i := 2) sc_law.nd rfl (Or.inl rfl)) (pss_cons (ps_set (i := 3) sc_law.nd rfl (Or.inl rfl) (pe_op op_add pe_int (pe_call (ok__law_take T) (hr.mono (by decide)) (by rfl) T.g__law_take T.F__law_take.kp T.b__law_take .nil pass0 (pa_cons (pv 1) (pa_cons pe_int pa_nil)))))
      (pss_cons (ps_set (i := 4) sc_law.nd rfl (Or.inr rfl) (pe_op op_add pe_int (pe_call (ok__law_take T) (hr.mono (by decide)) (by rfl) T.g__law_take T.F__law_take.kp T.b__law_take .nil pass0 (pa_cons (pv 1) (pa_cons (pe_op op_fdiv pe_int (pv 3)) pa_nil)))))
      (pss_cons (ps_set (i := 5) sc_law.nd rfl (Or.inr rfl) (pe_call (ok__law_graph T) (hr.mono (by decide)) (by rfl) T.g__law_graph T.F__law_graph.kp T.b__law_graph .nil pass0 (pa_cons (pv 1) (pa_cons (pv 4) pa_nil))))
      (pss_cons (ps_set (i := 6) sc_law.nd rfl (Or.inl rfl) (pe_call (ok_roomed T) (hr.mono (by decide)) (by rfl) T.g_roomed T.F_roomed.kp T.b_roomed .nil pass0 (pa_cons (pv 3) (pa_cons (pv 4) (pa_cons (pe_call (ok__law_mixed T) (hr.mono (by decide)) (by rfl) T.g__law_mixed T.F__law_mixed.kp T.b__law_mixed .nil pass0 (pa_cons (pv 1) (pa_cons (pv 5) pa_nil))) pa_nil)))))
      (pss_cons (ps_if (PW.pt (pw_or (pt_not (pt_val (pe_callB (C8.call_isC T.ic_Keys) (by rfl) T.n_isinstance (by decide +kernel) (pa_cons (pv 6) (pa_cons (pe_glob (v := .ref T.c_Keys) rfl T.g_Keys rfl) pa_nil))))) (pw_or1 (pt_not (pt_val (pe_call (ok__law_is T) (hr.mono (by decide)) (by rfl) T.g__law_is T.F__law_is.kp T.b__law_is .nil pass0 (pa_cons (fldK (K := K) rfl (pv 6) rfl) (pa_cons (pe_op op_mul (pv 3) (pv 4)) pa_nil)))))))) (pss_one (ps_ret pe_bl)) pss_nil)
      (pss_cons (ps_set (i := 7) sc_law.nd rfl (Or.inl rfl) (pe_lst pa_nil))
      (pss_cons (ps_for PassesOwn.never rfl (pi_range1 (by rfl) T.n_range (pa_cons (pv 3) pa_nil)) (pg_name (i := 8) sc_law.nd rfl (Or.inr rfl)) (pss_one (ps_expr (bmK (K := K) rfl PySem.F.plainAttrs_list PySem.F.slot_list_extend PySem.F.type_list_extend mt_extend (pv 7) (pa_cons (pe_lc (own := [("one", 9), ("other", 10)]) (by rfl) sc_law.nd (pseqK (K := K) rfl (pv 5)) (blkOk_by (own := [("one", 9), ("other", 10)]) (N := ["script", "box", "turn", "rooms", "modes", "pairs", "keys", "due", "room", "one", "other", "far", "many", "some", "parts", "near", "part", "whole", "key"]) (sc := defScope s_law) (by decide +kernel)) (fun _ _ _ _ _ => (gtupK (K := K) (n := 2) rfl (by rfl) (pgs_cons (pg_name (i := 9) sc_law.nd rfl (by first | exact Or.inl rfl | exact Or.inr rfl)) (pgs_cons (pg_name (i := 10) sc_law.nd rfl (by first | exact Or.inl rfl | exact Or.inr rfl)) pgs_nil)))) (fun _ _ _ _ _ => pts_nil) (fun _ _ _ _ _ => (pe_tup (pa_cons (pe_op op_add (pe_op op_mul (pv 8) (pv 4)) (pv 9)) (pa_cons (pe_op op_add (pe_op op_mul (pv 8) (pv 4)) (pv 10)) pa_nil))))) pa_nil)))))
      (pss_cons (ps_if (pt_not (pt_val (pe_call (ok__law_is T) (hr.mono (by decide)) (by rfl) T.g__law_is T.F__law_is.kp T.b__law_is .nil pass0 (pa_cons (fldK (K := K) rfl (pv 6) rfl) (pa_cons (pe_callTy (tupOfK (K := K) rfl) (by rfl) T.n_tuple (by decide +kernel) (pa_cons (pv 7) pa_nil)) pa_nil))))) (pss_one (ps_ret pe_bl)) pss_nil)
      (pss_cons (ps_if (PW.pt (pw_and (pt_val (pe_call (ok_clash T) (hr.mono (by decide)) (by rfl) T.g_clash T.F_clash.kp T.b_clash .nil pass0 (pa_cons (pv 6) (pa_cons pe_int (pa_cons (pe_op op_sub (pe_op op_mul (pv 3) (pv 4)) pe_int) pa_nil))))) (pw_and1 (pt_cmpR op_gt (pv 3) pe_int (nomark _))))) (pss_one (ps_ret pe_bl)) pss_nil)
      (pss_cons (ps_set (i := 11) sc_law.nd rfl (Or.inr rfl) (pe_op op_add (pe_op op_fdiv pe_int (pv 4)) pe_int))
      (pss_cons (ps_if (PW.pt (pw_and (pt_cmpR op_le (pv 11) pe_int (nomark _)) (pw_and1 (pt_not (pt_val (pe_call (ok__law_is T) (hr.mono (by decide)) (by rfl) T.g__law_is T.F__law_is.kp T.b__law_is .nil pass0 (pa_cons (pe_lamE (k := 7) T rfl rfl rfl (by rfl) TB rfl hmT hu (hr.mono (by decide)) (LamX.lamS_by (by show LamX.lamSB (defScope s_law) _ = true; decide +kernel)) rfl (fun _ _ _ _ _ => rfl) (fun A outer s H E f c' hr => (pe_call (okx_roomed T) (hr.mono (by decide)) (by rfl) T.g_roomed T.F_roomed.kp T.b_roomed .nil (passes_call (takes_of rfl rfl rfl rfl) fun _ _ _ _ h => h) (pa_cons (pv 11) (pa_cons (pv 4) (pa_cons (pv 5) pa_nil)))))) (pa_cons (pe_tup (pa_cons pe_str (pa_cons pe_str pa_nil))) pa_nil)))))))) (pss_one (ps_ret pe_bl)) pss_nil)
      (pss_cons (ps_if (PW.pt (pw_and (pt_cmpR op_le (pv 11) pe_int (nomark _)) (pw_and1 (pt_not (pt_val (pe_call (ok__law_is T) (hr.mono (by decide)) (by rfl) T.g__law_is T.F__law_is.kp T.b__law_is .nil pass0 (pa_cons (pe_lamE (k := 7) T rfl rfl rfl (by rfl) TB rfl hmT hu (hr.mono (by decide)) (LamX.lamS_by (by show LamX.lamSB (defScope s_law) _ = true; decide +kernel)) rfl (fun _ _ _ _ _ => rfl) (fun A outer s H E f c' hr => (pe_call (okx_roomed T) (hr.mono (by decide)) (by rfl) T.g_roomed T.F_roomed.kp T.b_roomed .nil (passes_call (takes_of rfl rfl rfl rfl) fun _ _ _ _ h => h) (pa_cons (pv 11) (pa_cons (pv 4) (pa_cons (pe_op op_cat (pv 5) (pe_lst (pa_cons (pe_tup (pa_cons (pv 4) (pa_cons (pv 4) pa_nil))) pa_nil))) pa_nil)))))) (pa_cons (pe_tup (pa_cons pe_str (pa_cons (pe_callB (lenK (K := K) rfl) (by rfl) T.n_len PySem.boot_len (pa_cons (pv 5) pa_nil)) pa_nil))) pa_nil)))))))) (pss_one (ps_ret pe_bl)) pss_nil)
      (pss_cons (ps_set (i := 12) sc_law.nd rfl (Or.inl rfl) (pe_op op_add pe_int (pe_call (ok__law_take T) (hr.mono (by decide)) (by rfl) T.g__law_take T.F__law_take.kp T.b__law_take .nil pass0 (pa_cons (pv 1) (pa_cons pe_int pa_nil)))))
      (pss_one (ps_for PassesOwn.never rfl (pseqK (K := K) rfl (pe_lst (pa_cons (pv 6) (pa_cons (pe_make T.m_Keys (ok_Keys___init__ T) (hr.mono (by decide)) (by rfl) T.g_Keys T.b_Keys___init__ .nil pass0 (pa_cons (pv 12) (pa_cons (pe_call (ok__law_graph T) (hr.mono (by decide)) (by rfl) T.g__law_graph T.F__law_graph.kp T.b__law_graph .nil pass0 (pa_cons (pv 1) (pa_cons (pv 12) pa_nil))) pa_nil))) pa_nil)))) (pg_name (i := 13) sc_law.nd rfl (Or.inl rfl)) (pss_cons (ps_asg (pe_tup (pa_cons (pe_call (ok_room_parts T) (hr.mono (by decide)) (by rfl) T.g_room_parts T.F_room_parts.kp T.b_room_parts .nil pass0 (pa_cons (pv 13) pa_nil)) (pa_cons (pe_call (ok__law_near T) (hr.mono (by decide)) (by rfl) T.g__law_near T.F__law_near.kp T.b__law_near .nil pass0 (pa_cons (fldK (K := K) rfl (pv 13) rfl) (pa_cons (fldK (K := K) rfl (pv 13) rfl) pa_nil))) pa_nil))) (gtupK (K := K) (n := 2) rfl (by rfl) (pgs_cons (pg_name (i := 14) sc_law.nd rfl (Or.inl rfl)) (pgs_cons (pg_name (i := 15) sc_law.nd rfl (Or.inr rfl)) pgs_nil))))
      (pss_cons (ps_if (PW.pt (pw_or (pt_not (pt_val (pe_callB (isiK (K := K) rfl) (by rfl) T.n_isinstance (by decide +kernel) (pa_cons (pv 14) (pa_cons (pe_bltn (v := .ty "tuple") (by rfl) T.n_tuple (by decide +kernel) rfl) pa_nil))))) (pw_or1 (pt_cmpR op_eq (pe_ix (ixL (K := K) rfl) (pe_callB (sortIA (K := K) rfl) (by rfl) T.n_sorted (by decide +kernel) (pa_cons (pe_lc (own := [("part", 16)]) (by rfl) sc_law.nd (pseqK (K := K) rfl (pv 14)) (blkOk_by (own := [("part", 16)]) (N := ["script", "box", "turn", "rooms", "modes", "pairs", "keys", "due", "room", "one", "other", "far", "many", "some", "parts", "near", "part", "whole", "key"]) (sc := defScope s_law) (by decide +kernel)) (fun _ _ _ _ _ => (pg_name (i := 16) sc_law.nd rfl (by first | exact Or.inl rfl | exact Or.inr rfl))) (fun _ _ _ _ _ => pts_nil) (fun _ _ _ _ _ => (pe_callB (lenK (K := K) rfl) (by rfl) T.n_len PySem.boot_len (pa_cons (pv 16) pa_nil)))) pa_nil)) pe_int (fun _ _ => rfl)) pe_int (nomark _))))) (pss_one (ps_ret pe_bl)) pss_nil)
      (pss_cons (ps_set (i := 17) sc_law.nd rfl (Or.inl rfl) (pe_lst pa_nil))
      (pss_cons (ps_for PassesOwn.never rfl (pseqK (K := K) rfl (pv 14)) (pg_name (i := 16) sc_law.nd rfl (Or.inr rfl)) (pss_cons (ps_expr (bmK (K := K) rfl PySem.F.plainAttrs_list PySem.F.slot_list_extend PySem.F.type_list_extend mt_extend (pv 17) (pa_cons (pe_callTy (listOfK (K := K) rfl) (by rfl) T.n_list (by decide +kernel) (pa_cons (pv 16) pa_nil)) pa_nil)))
      (pss_cons (ps_if (PW.pt (pw_or (pt_not (pt_val (pe_call (ok__law_is T) (hr.mono (by decide)) (by rfl) T.g__law_is T.F__law_is.kp T.b__law_is .nil pass0 (pa_cons (pv 16) (pa_cons (pe_callTy (tupOfK (K := K) rfl) (by rfl) T.n_tuple (by decide +kernel) (pa_cons (pe_callB (sortIA (K := K) rfl) (by rfl) T.n_sorted (by decide +kernel) (pa_cons (pv 16) pa_nil)) pa_nil)) pa_nil))))) (pw_or1 (pt_not (pt_val (pe_call (ok__law_joined T) (hr.mono (by decide)) (by rfl) T.g__law_joined T.F__law_joined.kp T.b__law_joined .nil pass0 (pa_cons (pv 15) (pa_cons (pv 16) pa_nil)))))))) (pss_one (ps_ret pe_bl)) pss_nil)
      (pss_one (ps_if (pt_cmpR (neDK (K := K) rfl hr.units) (pe_lc (own := [("key", 18)]) (by rfl) sc_law.nd (pseqK (K := K) rfl (pv 16)) (blkOk_by (own := [("key", 18)]) (N := ["script", "box", "turn", "rooms", "modes", "pairs", "keys", "due", "room", "one", "other", "far", "many", "some", "parts", "near", "part", "whole", "key"]) (sc := defScope s_law) (by decide +kernel)) (fun _ _ _ _ _ => (pg_name (i := 18) sc_law.nd rfl (by first | exact Or.inl rfl | exact Or.inr rfl))) (fun _ _ _ _ _ => (pts_one (truthK (K := K) rfl (pe_op op_andU (pe_ix (ixL (K := K) rfl) (pv 15) (pv 18) (fun _ _ => rfl)) (pe_op op_xorU pe_int (pe_call (ok__law_mask T) (hr.mono (by decide)) (by rfl) T.g__law_mask T.F__law_mask.kp T.b__law_mask .nil pass0 (pa_cons (pv 16) pa_nil)))) (by intro _; rfl)))) (fun _ _ _ _ _ => (pv 18))) (pe_lst pa_nil) (nomark _)) (pss_one (ps_ret pe_bl)) pss_nil)))))
      (pss_one (ps_if (PW.pt (pw_or (pt_cmpR (neDK (K := K) rfl hr.units) (pe_callB (sortIA (K := K) rfl) (by rfl) T.n_sorted (by decide +kernel) (pa_cons (pv 17) pa_nil)) (pe_listRg rfl (by rfl) T.n_list (prg_1 (by rfl) T.n_range (fldK (K := K) rfl (pv 13) rfl))) (nomark _)) (pw_or1 (pt_cmpR (neDK (K := K) rfl hr.units) (pv 14) (pe_callTy (tupOfK (K := K) rfl) (by rfl) T.n_tuple (by decide +kernel) (pa_cons (pe_callB (sortTA (K := K) rfl) (by rfl) T.n_sorted (by decide +kernel) (pa_cons (pv 14) pa_nil)) pa_nil)) (nomark _))))) (pss_one (ps_ret pe_bl)) pss_nil))))))))))))))))))))))
      (pss_one (ps_ret pe_bl)))), ?_⟩
    rw [show L2.start ["script", "box", "turn", "rooms", "modes", "pairs", "keys", "due", "room", "one", "other", "far", "many", "some", "parts", "near", "part", "whole", "key"] [.ref a] = [some (.ref a), none, none, none, none, none, none, none, none, none, none, none, none, none, none, none, none, none, none] from rfl]
    generalize hF1 : tFor _ _ _ = F1
    (try simp only [tVar, tC, tOp, tUn, rI, rI0, rU, rEq, rNe, scal, tTest, tB, tAnd, tOr, tNot, tAndV, tOrV, tNotV, tIf, tChain, tNil, tCons, tCB, tCall, tTup, tLst, tRet, tRetN, tDrop, tSeq, tNext, tIfS, tAsg, gName, tPar, tPar3, gNil, gCons, gTup, gSub, tAug, tSl, tNoPart, tPart, tBM, tBM0, tYes, tIsP, iSeq, iEnumA, RZ.iZipA, iRng1, iRng2, iList, iTup, rIsi, rIsB, rIxL, rIxT, rIxA, rLenA, rListOf, rTupOf, rSetL, rSlL, rCat, rAppend, tFld, sFld, tMake, tBits, Int.ofNat_inj, cast1, cast0, TruV, cxOf, Cx.nox, Cx.wish, tNever, tBreak, tCont, ipI, tDIn, tDNotIn, sDPut, tDNewT, tDNewK, tDGet, rSortedPO, rSortedI, rIn, rEqD, rNeD, rInD, rNotInD, tSSet, rIsV, rIntI, rIntB, rAbsN, tLstRg, tRg1, tRg2, List.append_nil, List.nil_append, List.cons_append, Option.some.injEq, exists_eq_left', exists_eq_left, exists_eq_right, exists_eq_right', List.getElem?_cons_zero, List.getElem?_cons_succ, List.set_cons_zero, List.set_cons_succ, List.cons.injEq, and_true, true_and, exists_and_left, exists_and_right, and_assoc, V.int.injEq, V.bl.injEq, V.ref.injEq, V.str.injEq, reduceCtorEq, decide_true, decide_false, Bool.not_true, Bool.not_false, Bool.false_eq_true, if_false, if_true, ite_true, ite_false, List.length_cons, List.length_nil, tRaise, tErr, LamX.tLam, TTe, rSortedIA, rSortedTA, tDisp, tPairs])
    refine ⟨a, ns, rfl, hs, hn, fun H1 b s1 hb0 hb1 => ?_⟩
    have tb0 : LamX.Tabs [(Pt, lamQ)] H := fun p hp => by
      rw [List.mem_singleton.mp hp]
      exact LamX.TabS.nil hP
    have tb1 := tb0.ext (s1.trans (hbx_le b H1))
    subst hF1
    obtain ⟨Pv, hPv⟩ : ∃ Pv : Nat → L2.St → Hp → Prop, ∀ i σ' H', Pv i σ' H' = ((∃ y2 y3 y4 y5 y6 y7 y8 y9 y10 y11 y12 y13 y14 y15 y16 y17 y18, σ' = [some (V.ref a), some (.ref b), y2, y3, y4, y5, y6, y7, y8, y9, y10, y11, y12, y13, y14, y15, y16, y17, y18]) ∧ Bx b H' ∧ LamX.Tabs [(Pt, lamQ)] H') := ⟨_, fun _ _ _ => rfl⟩
    refine forR1 6 Pv (fun R h => ?_) (by decide) (by rw [hPv]; exact ⟨⟨_, _, _, _, _, _, _, _, _, _, _, _, _, _, _, _, _, rfl⟩, hb1, tb1⟩) ?_ ?_
    · (try simp only [tVar, tC, tOp, tUn, rI, rI0, rU, rEq, rNe, scal, tTest, tB, tAnd, tOr, tNot, tAndV, tOrV, tNotV, tIf, tChain, tNil, tCons, tCB, tCall, tTup, tLst, tRet, tRetN, tDrop, tSeq, tNext, tIfS, tAsg, gName, tPar, tPar3, gNil, gCons, gTup, gSub, tAug, tSl, tNoPart, tPart, tBM, tBM0, tYes, tIsP, iSeq, iEnumA, RZ.iZipA, iRng1, iRng2, iList, iTup, rIsi, rIsB, rIxL, rIxT, rIxA, rLenA, rListOf, rTupOf, rSetL, rSlL, rCat, rAppend, tFld, sFld, tMake, tBits, Int.ofNat_inj, cast1, cast0, TruV, cxOf, Cx.nox, Cx.wish, tNever, tBreak, tCont, ipI, tDIn, tDNotIn, sDPut, tDNewT, tDNewK, tDGet, rSortedPO, rSortedI, rIn, rEqD, rNeD, rInD, rNotInD, tSSet, rIsV, rIntI, rIntB, rAbsN, tLstRg, tRg1, tRg2, List.append_nil, List.nil_append, List.cons_append, Option.some.injEq, exists_eq_left', exists_eq_left, exists_eq_right, exists_eq_right', List.getElem?_cons_zero, List.getElem?_cons_succ, List.set_cons_zero, List.set_cons_succ, List.cons.injEq, and_true, true_and, exists_and_left, exists_and_right, and_assoc, V.int.injEq, V.bl.injEq, V.ref.injEq, V.str.injEq, reduceCtorEq, decide_true, decide_false, Bool.not_true, Bool.not_false, Bool.false_eq_true, if_false, if_true, ite_true, ite_false, List.length_cons, List.length_nil, tRaise, tErr, LamX.tLam, TTe, rSortedIA, rSortedTA, tDisp, tPairs])
      exact h
    · intro i σ' H2 hi hh
      rw [hPv] at hh
      obtain ⟨⟨y2, y3, y4, y5, y6, y7, y8, y9, y10, y11, y12, y13, y14, y15, y16, y17, y18, rfl⟩, hb2, tb2⟩ := hh
      generalize hS1 : tSeq (tIfS (tOr _ _) _ _) _ = S1
      have p1 : ∀ (D : Ends) (H6 : Hp) (R M : Nat) (k t : Addr) (xs : List V) (ps : List NP) (z7 z8 z9 z10 z11 z12 z13 z14 z15 z16 z17 z18 : Option V), 1 ≤ R → R ≤ 12 → 1 ≤ M → M ≤ 12 → R * M ≤ 12 → Bx b H6 → LamX.Tabs [(Pt, lamQ)] H6 → KeysAt T.c_Keys (vis b H6) k (R * M) (spread R M ps) → vis b H6 t = some (.lst xs) → Prs (vis b H6) xs ps → GoodPairs M ps → ps.Pairwise plt → D.rt = Q →
          (∀ (H' : Hp) (z3 z4 z5 z6 z7 z8 z9 z10 z11 z12 z13 z14 z15 z16 z17 z18 : Option V), Bx b H' → LamX.Tabs [(Pt, lamQ)] H' → D.nx [some (V.ref a), some (.ref b), some (nv i), z3, z4, z5, z6, z7, z8, z9, z10, z11, z12, z13, z14, z15, z16, z17, z18] H') → S1 D [some (V.ref a), some (.ref b), some (nv i), some (nv R), some (nv M), some (V.ref t), some (V.ref k), z7, z8, z9, z10, z11, z12, z13, z14, z15, z16, z17, z18] H6 := by
        intro D H6 R M k t xs ps z7 z8 z9 z10 z11 z12 z13 z14 z15 z16 z17 z18 R1 R2 M1 M2 RM hb6 tb6 hk6 et6 hp6 hg hplt hQ hD
        subst hS1
        generalize hF3 : tFor _ (gName 8) _ = F3
        generalize hS4 : tSeq (tIfS (tNot (tB (tCall (sp_law_is K 5) _ _ (tCons _ (tCons (tCB (rTupOf K) _) _))))) _ _) _ = S4
        (try simp only [tVar, tC, tOp, tUn, rI, rI0, rU, rEq, rNe, scal, tTest, tB, tAnd, tOr, tNot, tAndV, tOrV, tNotV, tIf, tChain, tNil, tCons, tCB, tCall, tTup, tLst, tRet, tRetN, tDrop, tSeq, tNext, tIfS, tAsg, gName, tPar, tPar3, gNil, gCons, gTup, gSub, tAug, tSl, tNoPart, tPart, tBM, tBM0, tYes, tIsP, iSeq, iEnumA, RZ.iZipA, iRng1, iRng2, iList, iTup, rIsi, rIsB, rIxL, rIxT, rIxA, rLenA, rListOf, rTupOf, rSetL, rSlL, rCat, rAppend, tFld, sFld, tMake, tBits, Int.ofNat_inj, cast1, cast0, TruV, cxOf, Cx.nox, Cx.wish, tNever, tBreak, tCont, ipI, tDIn, tDNotIn, sDPut, tDNewT, tDNewK, tDGet, rSortedPO, rSortedI, rIn, rEqD, rNeD, rInD, rNotInD, tSSet, rIsV, rIntI, rIntB, rAbsN, tLstRg, tRg1, tRg2, List.append_nil, List.nil_append, List.cons_append, Option.some.injEq, exists_eq_left', exists_eq_left, exists_eq_right, exists_eq_right', List.getElem?_cons_zero, List.getElem?_cons_succ, List.set_cons_zero, List.set_cons_succ, List.cons.injEq, and_true, true_and, exists_and_left, exists_and_right, and_assoc, V.int.injEq, V.bl.injEq, V.ref.injEq, V.str.injEq, reduceCtorEq, decide_true, decide_false, Bool.not_true, Bool.not_false, Bool.false_eq_true, if_false, if_true, ite_true, ite_false, List.length_cons, List.length_nil, tRaise, tErr, LamX.tLam, TTe, rSortedIA, rSortedTA, tDisp, tPairs])
        obtain ⟨dx, tt, yk, ek, et, hpk⟩ := id (hk6.same (vis_le b H6))
        have cm : ∀ i j : Nat, i ≤ 1000 → CMul (i : Int) (j : Int) := fun i j hi => mulL (by omega) (by omega)
        refine ⟨⟨_, _, ek⟩, _, _, _, ek, T.cl_Keys, T.na_many, _, rfl, cm _ _ (by omega), _, _, rfl, ?_, fun H7 s7 => ?_⟩
        · rw [mul_nn]
          exact .int _ _
        (try simp only [tVar, tC, tOp, tUn, rI, rI0, rU, rEq, rNe, scal, tTest, tB, tAnd, tOr, tNot, tAndV, tOrV, tNotV, tIf, tChain, tNil, tCons, tCB, tCall, tTup, tLst, tRet, tRetN, tDrop, tSeq, tNext, tIfS, tAsg, gName, tPar, tPar3, gNil, gCons, gTup, gSub, tAug, tSl, tNoPart, tPart, tBM, tBM0, tYes, tIsP, iSeq, iEnumA, RZ.iZipA, iRng1, iRng2, iList, iTup, rIsi, rIsB, rIxL, rIxT, rIxA, rLenA, rListOf, rTupOf, rSetL, rSlL, rCat, rAppend, tFld, sFld, tMake, tBits, Int.ofNat_inj, cast1, cast0, TruV, cxOf, Cx.nox, Cx.wish, tNever, tBreak, tCont, ipI, tDIn, tDNotIn, sDPut, tDNewT, tDNewK, tDGet, rSortedPO, rSortedI, rIn, rEqD, rNeD, rInD, rNotInD, tSSet, rIsV, rIntI, rIntB, rAbsN, tLstRg, tRg1, tRg2, List.append_nil, List.nil_append, List.cons_append, Option.some.injEq, exists_eq_left', exists_eq_left, exists_eq_right, exists_eq_right', List.getElem?_cons_zero, List.getElem?_cons_succ, List.set_cons_zero, List.set_cons_succ, List.cons.injEq, and_true, true_and, exists_and_left, exists_and_right, and_assoc, V.int.injEq, V.bl.injEq, V.ref.injEq, V.str.injEq, reduceCtorEq, decide_true, decide_false, Bool.not_true, Bool.not_false, Bool.false_eq_true, if_false, if_true, ite_true, ite_false, List.length_cons, List.length_nil, tRaise, tErr, LamX.tLam, TTe, rSortedIA, rSortedTA, tDisp, tPairs])
        refine ⟨Nat.zero_le _, fun du hdu => ?_⟩
        have p4 : ∀ (H8 : Hp) (acc : List V) (z8 z9 z10 z11 z12 z13 z14 z15 z16 z17 z18 : Option V), Same H6 H8 → H8 du = some (.lst acc) → Prs H8 acc (spread R M ps) → S4 D [some (V.ref a), some (.ref b), some (nv i), some (nv R), some (nv M), some (V.ref t), some (V.ref k), some (V.ref du), z8, z9, z10, z11, z12, z13, z14, z15, z16, z17, z18] H8 := by
          intro H8 acc z8 z9 z10 z11 z12 z13 z14 z15 z16 z17 z18 s8 edu pacc
          subst hS4
          generalize hS5 : tSeq (tIfS (tAnd _ _) _ _) _ = S5
          have rm0 : 0 < R * M := Nat.mul_pos R1 M1
          have gq : GoodQ (R * M) (spread R M ps) := ⟨RM, spread_in hg.2⟩
          have p5 : ∀ (H9 : Hp), Same H6 H9 → S5 D [some (V.ref a), some (.ref b), some (nv i), some (nv R), some (nv M), some (V.ref t), some (V.ref k), some (V.ref du), z8, z9, z10, z11, z12, z13, z14, z15, z16, z17, z18] H9 := by
            intro H9 s9
            subst hS5
            generalize hS6 : tSeq (tAsg _ (gName 11)) _ = S6
            have p6 : ∀ (H10 : Hp), Same H6 H10 → S6 D [some (V.ref a), some (.ref b), some (nv i), some (nv R), some (nv M), some (V.ref t), some (V.ref k), some (V.ref du), z8, z9, z10, z11, z12, z13, z14, z15, z16, z17, z18] H10 := by
              intro H10 s10
              subst hS6
              generalize hS8 : tSeq (tAsg _ (gName 12)) _ = S8
              have p8 : ∀ (H11 : Hp) (z11 : Option V), LamX.ExtN H6 H11 → LamX.Tabs [(Pt, lamQ)] H11 → S8 D [some (V.ref a), some (.ref b), some (nv i), some (nv R), some (nv M), some (V.ref t), some (V.ref k), some (V.ref du), z8, z9, z10, z11, z12, z13, z14, z15, z16, z17, z18] H11 := by
                intro H11 z11 x11 tb11
                subst hS8
                have hb11 := hb6.ext x11
                have v11 := hb6.visE x11
                generalize hFo : tFor _ (gName 13) _ = Fo
                (try simp only [tVar, tC, tOp, tUn, rI, rI0, rU, rEq, rNe, scal, tTest, tB, tAnd, tOr, tNot, tAndV, tOrV, tNotV, tIf, tChain, tNil, tCons, tCB, tCall, tTup, tLst, tRet, tRetN, tDrop, tSeq, tNext, tIfS, tAsg, gName, tPar, tPar3, gNil, gCons, gTup, gSub, tAug, tSl, tNoPart, tPart, tBM, tBM0, tYes, tIsP, iSeq, iEnumA, RZ.iZipA, iRng1, iRng2, iList, iTup, rIsi, rIsB, rIxL, rIxT, rIxA, rLenA, rListOf, rTupOf, rSetL, rSlL, rCat, rAppend, tFld, sFld, tMake, tBits, Int.ofNat_inj, cast1, cast0, TruV, cxOf, Cx.nox, Cx.wish, tNever, tBreak, tCont, ipI, tDIn, tDNotIn, sDPut, tDNewT, tDNewK, tDGet, rSortedPO, rSortedI, rIn, rEqD, rNeD, rInD, rNotInD, tSSet, rIsV, rIntI, rIntB, rAbsN, tLstRg, tRg1, tRg2, List.append_nil, List.nil_append, List.cons_append, Option.some.injEq, exists_eq_left', exists_eq_left, exists_eq_right, exists_eq_right', List.getElem?_cons_zero, List.getElem?_cons_succ, List.set_cons_zero, List.set_cons_succ, List.cons.injEq, and_true, true_and, exists_and_left, exists_and_right, and_assoc, V.int.injEq, V.bl.injEq, V.ref.injEq, V.str.injEq, reduceCtorEq, decide_true, decide_false, Bool.not_true, Bool.not_false, Bool.false_eq_true, if_false, if_true, ite_true, ite_false, List.length_cons, List.length_nil, tRaise, tErr, LamX.tLam, TTe, rSortedIA, rSortedTA, tDisp, tPairs])
                refine ⟨b, 12, rfl, by decide, hb11, fun H12 n0 s12 hb12 hn0 => ?_⟩
                (try simp only [tVar, tC, tOp, tUn, rI, rI0, rU, rEq, rNe, scal, tTest, tB, tAnd, tOr, tNot, tAndV, tOrV, tNotV, tIf, tChain, tNil, tCons, tCB, tCall, tTup, tLst, tRet, tRetN, tDrop, tSeq, tNext, tIfS, tAsg, gName, tPar, tPar3, gNil, gCons, gTup, gSub, tAug, tSl, tNoPart, tPart, tBM, tBM0, tYes, tIsP, iSeq, iEnumA, RZ.iZipA, iRng1, iRng2, iList, iTup, rIsi, rIsB, rIxL, rIxT, rIxA, rLenA, rListOf, rTupOf, rSetL, rSlL, rCat, rAppend, tFld, sFld, tMake, tBits, Int.ofNat_inj, cast1, cast0, TruV, cxOf, Cx.nox, Cx.wish, tNever, tBreak, tCont, ipI, tDIn, tDNotIn, sDPut, tDNewT, tDNewK, tDGet, rSortedPO, rSortedI, rIn, rEqD, rNeD, rInD, rNotInD, tSSet, rIsV, rIntI, rIntB, rAbsN, tLstRg, tRg1, tRg2, List.append_nil, List.nil_append, List.cons_append, Option.some.injEq, exists_eq_left', exists_eq_left, exists_eq_right, exists_eq_right', List.getElem?_cons_zero, List.getElem?_cons_succ, List.set_cons_zero, List.set_cons_succ, List.cons.injEq, and_true, true_and, exists_and_left, exists_and_right, and_assoc, V.int.injEq, V.bl.injEq, V.ref.injEq, V.str.injEq, reduceCtorEq, decide_true, decide_false, Bool.not_true, Bool.not_false, Bool.false_eq_true, if_false, if_true, ite_true, ite_false, List.length_cons, List.length_nil, tRaise, tErr, LamX.tLam, TTe, rSortedIA, rSortedTA, tDisp, tPairs])
                have eN : (1 : Int) + (n0 : Int) = ((n0 + 1 : Nat) : Int) := by omega
                simp only [eN]
                have tb12 := hb11.tabs tb11 s12
                have v12 := v11.trans (vis_bx s12)
                subst hFo
                refine forSF (fun H1 p => ∃ k2 qs2, Bx b H1 ∧ LamX.Tabs [(Pt, lamQ)] H1 ∧ H1 p = some (.lst [.ref k, .ref k2]) ∧ KeysAt T.c_Keys H1 k (R * M) (spread R M ps) ∧ KeysAt T.c_Keys H1 k2 (n0 + 1) qs2 ∧ GoodQ (n0 + 1) qs2) (fun Rr h => ?_) fun H1 p ⟨k2, qs2, hb1, tb1, ep, hk1, hk2, hg2⟩ => ?_
                · (try simp only [tVar, tC, tOp, tUn, rI, rI0, rU, rEq, rNe, scal, tTest, tB, tAnd, tOr, tNot, tAndV, tOrV, tNotV, tIf, tChain, tNil, tCons, tCB, tCall, tTup, tLst, tRet, tRetN, tDrop, tSeq, tNext, tIfS, tAsg, gName, tPar, tPar3, gNil, gCons, gTup, gSub, tAug, tSl, tNoPart, tPart, tBM, tBM0, tYes, tIsP, iSeq, iEnumA, RZ.iZipA, iRng1, iRng2, iList, iTup, rIsi, rIsB, rIxL, rIxT, rIxA, rLenA, rListOf, rTupOf, rSetL, rSlL, rCat, rAppend, tFld, sFld, tMake, tBits, Int.ofNat_inj, cast1, cast0, TruV, cxOf, Cx.nox, Cx.wish, tNever, tBreak, tCont, ipI, tDIn, tDNotIn, sDPut, tDNewT, tDNewK, tDGet, rSortedPO, rSortedI, rIn, rEqD, rNeD, rInD, rNotInD, tSSet, rIsV, rIntI, rIntB, rAbsN, tLstRg, tRg1, tRg2, List.append_nil, List.nil_append, List.cons_append, Option.some.injEq, exists_eq_left', exists_eq_left, exists_eq_right, exists_eq_right', List.getElem?_cons_zero, List.getElem?_cons_succ, List.set_cons_zero, List.set_cons_succ, List.cons.injEq, and_true, true_and, exists_and_left, exists_and_right, and_assoc, V.int.injEq, V.bl.injEq, V.ref.injEq, V.str.injEq, reduceCtorEq, decide_true, decide_false, Bool.not_true, Bool.not_false, Bool.false_eq_true, if_false, if_true, ite_true, ite_false, List.length_cons, List.length_nil, tRaise, tErr, LamX.tLam, TTe, rSortedIA, rSortedTA, tDisp, tPairs])
                  refine ⟨b, n0 + 1, rfl, ⟨by omega, by omega⟩, hb12, fun H13 t13 xs13 ps13 s13 hb13 ht0 ht hps hgp hln x dx hx hdx hne => ?_⟩
                  (try simp only [tVar, tC, tOp, tUn, rI, rI0, rU, rEq, rNe, scal, tTest, tB, tAnd, tOr, tNot, tAndV, tOrV, tNotV, tIf, tChain, tNil, tCons, tCB, tCall, tTup, tLst, tRet, tRetN, tDrop, tSeq, tNext, tIfS, tAsg, gName, tPar, tPar3, gNil, gCons, gTup, gSub, tAug, tSl, tNoPart, tPart, tBM, tBM0, tYes, tIsP, iSeq, iEnumA, RZ.iZipA, iRng1, iRng2, iList, iTup, rIsi, rIsB, rIxL, rIxT, rIxA, rLenA, rListOf, rTupOf, rSetL, rSlL, rCat, rAppend, tFld, sFld, tMake, tBits, Int.ofNat_inj, cast1, cast0, TruV, cxOf, Cx.nox, Cx.wish, tNever, tBreak, tCont, ipI, tDIn, tDNotIn, sDPut, tDNewT, tDNewK, tDGet, rSortedPO, rSortedI, rIn, rEqD, rNeD, rInD, rNotInD, tSSet, rIsV, rIntI, rIntB, rAbsN, tLstRg, tRg1, tRg2, List.append_nil, List.nil_append, List.cons_append, Option.some.injEq, exists_eq_left', exists_eq_left, exists_eq_right, exists_eq_right', List.getElem?_cons_zero, List.getElem?_cons_succ, List.set_cons_zero, List.set_cons_succ, List.cons.injEq, and_true, true_and, exists_and_left, exists_and_right, and_assoc, V.int.injEq, V.bl.injEq, V.ref.injEq, V.str.injEq, reduceCtorEq, decide_true, decide_false, Bool.not_true, Bool.not_false, Bool.false_eq_true, if_false, if_true, ite_true, ite_false, List.length_cons, List.length_nil, tRaise, tErr, LamX.tLam, TTe, rSortedIA, rSortedTA, tDisp, tPairs])
                  have e2 : Same H13 (upd (upd H13 dx (.own x)) x (.ins T.c_Keys dx [])) := (same_new hdx).trans (same_new (by rw [upd_ne (Ne.symm hne)]; exact hx))
                  refine ⟨x, dx, t13, xs13, ps13, n0 + 1, rfl, upd_same, ⟨by omega, by omega⟩, .inl (.inl (.inl (e2 _ _ (hbx_le _ _ _ _ ht)))), (hps.same (hbx_le b H13)).same e2, hgp, by omega, fun H14 qs kp ka pe _ => ⟨rfl, ?_⟩⟩
                  have s14 : Same H13 H14 := fun a o h => kp a o (ne_of_none h hx) (e2 _ _ h)
                  refine ⟨by decide, fun p hp => ?_⟩
                  have sp := same_new (o := .lst [.ref k, .ref x]) hp
                  have v14 := (v12.trans (vis_bx s13)).trans (hb13.visM (s14.trans sp))
                  exact h _ p ⟨x, qs, (hb13.same s14).same sp, ((hb12.tabs tb12 s13).ext s14).ext sp, upd_same, (hk6.same v14).same (vis_le b _), ka.same sp, ⟨by omega, fun p hp => hgp.2 p (pe.mem_iff.mp hp)⟩⟩
                · obtain ⟨Ps, hPs⟩ : ∃ Ps : Nat → L2.St → Hp → Prop, ∀ i2 σ' H', Ps i2 σ' H' = ((∃ z13 z14 z15 z16 z17 z18, σ' = [some (V.ref a), some (.ref b), some (nv i), some (nv R), some (nv M), some (V.ref t), some (V.ref k), some (V.ref du), z8, z9, z10, z11, some (nv (n0 + 1)), z13, z14, z15, z16, z17, z18]) ∧ Same H1 H') := ⟨_, fun _ _ _ => rfl⟩
                  refine ⟨p, _, Ps, H1, rfl, by rw [hPs]; exact ⟨⟨_, _, _, _, _, _, rfl⟩, Same.refl _⟩, .inl (.of ep), fun i2 σ' H' h => by rw [hPs] at h; exact h.2, ?_, ?_⟩
                  · intro i2 v σ' H' hv hh
                    rw [hPs] at hh
                    obtain ⟨⟨z13, z14, z15, z16, z17, z18, rfl⟩, sm⟩ := hh
                    have hsome : ∃ s n qs, v = .ref s ∧ KeysAt T.c_Keys H' s n qs ∧ GoodQ n qs ∧ 1 ≤ n := by
                      have lt : i2 < 2 := (List.getElem?_eq_some_iff.mp hv).1
                      match i2, lt, hv with
                      | 0, _, e => cases e; exact ⟨k, _, _, rfl, hk1.same sm, gq, rm0⟩
                      | 1, _, e => cases e; exact ⟨k2, _, _, rfl, hk2.same sm, hg2, Nat.succ_pos _⟩
                    obtain ⟨s, n, qs, rfl, hks, hgs, hn1⟩ := hsome
                    generalize hFp : tFor _ (gName 16) _ = Fp
                    generalize hSl : tIfS (tOr (tTest (tOp (rNeD K) (tCB (rSortedIA K) _) _)) _) _ _ = Sl
                    generalize hC16 : tLc _ _ _ _ _ = C16
                    (try simp only [tVar, tC, tOp, tUn, rI, rI0, rU, rEq, rNe, scal, tTest, tB, tAnd, tOr, tNot, tAndV, tOrV, tNotV, tIf, tChain, tNil, tCons, tCB, tCall, tTup, tLst, tRet, tRetN, tDrop, tSeq, tNext, tIfS, tAsg, gName, tPar, tPar3, gNil, gCons, gTup, gSub, tAug, tSl, tNoPart, tPart, tBM, tBM0, tYes, tIsP, iSeq, iEnumA, RZ.iZipA, iRng1, iRng2, iList, iTup, rIsi, rIsB, rIxL, rIxT, rIxA, rLenA, rListOf, rTupOf, rSetL, rSlL, rCat, rAppend, tFld, sFld, tMake, tBits, Int.ofNat_inj, cast1, cast0, TruV, cxOf, Cx.nox, Cx.wish, tNever, tBreak, tCont, ipI, tDIn, tDNotIn, sDPut, tDNewT, tDNewK, tDGet, rSortedPO, rSortedI, rIn, rEqD, rNeD, rInD, rNotInD, tSSet, rIsV, rIntI, rIntB, rAbsN, tLstRg, tRg1, tRg2, List.append_nil, List.nil_append, List.cons_append, Option.some.injEq, exists_eq_left', exists_eq_left, exists_eq_right, exists_eq_right', List.getElem?_cons_zero, List.getElem?_cons_succ, List.set_cons_zero, List.set_cons_succ, List.cons.injEq, and_true, true_and, exists_and_left, exists_and_right, and_assoc, V.int.injEq, V.bl.injEq, V.ref.injEq, V.str.injEq, reduceCtorEq, decide_true, decide_false, Bool.not_true, Bool.not_false, Bool.false_eq_true, if_false, if_true, ite_true, ite_false, List.length_cons, List.length_nil, tRaise, tErr, LamX.tLam, TTe, rSortedIA, rSortedTA, tDisp, tPairs])
                    refine ⟨s, n, qs, rfl, hks, hgs, fun H20 pp ys ls s20 epp hls hok hsrt => ?_⟩
                    obtain ⟨dxs, ts, yks, eks, ets, hpks⟩ := id (hks.same s20)
                    refine ⟨_, _, _, eks, T.cl_Keys, T.na_many, _, rfl, _, _, _, eks, T.cl_Keys, T.na_clashes, _, rfl, ?_⟩
                    refine ⟨n, ts, yks, qs, rfl, .inr (.of ets), hpks, hgs.1, hgs.2, fun H21 nm s21 _ enm => ?_⟩
                    refine ⟨by decide, fun pt hpt => ⟨_, .of upd_same, rfl, _, _, rfl, _, _, rfl, rfl, ?_⟩⟩
                    (try simp only [tVar, tC, tOp, tUn, rI, rI0, rU, rEq, rNe, scal, tTest, tB, tAnd, tOr, tNot, tAndV, tOrV, tNotV, tIf, tChain, tNil, tCons, tCB, tCall, tTup, tLst, tRet, tRetN, tDrop, tSeq, tNext, tIfS, tAsg, gName, tPar, tPar3, gNil, gCons, gTup, gSub, tAug, tSl, tNoPart, tPart, tBM, tBM0, tYes, tIsP, iSeq, iEnumA, RZ.iZipA, iRng1, iRng2, iList, iTup, rIsi, rIsB, rIxL, rIxT, rIxA, rLenA, rListOf, rTupOf, rSetL, rSlL, rCat, rAppend, tFld, sFld, tMake, tBits, Int.ofNat_inj, cast1, cast0, TruV, cxOf, Cx.nox, Cx.wish, tNever, tBreak, tCont, ipI, tDIn, tDNotIn, sDPut, tDNewT, tDNewK, tDGet, rSortedPO, rSortedI, rIn, rEqD, rNeD, rInD, rNotInD, tSSet, rIsV, rIntI, rIntB, rAbsN, tLstRg, tRg1, tRg2, List.append_nil, List.nil_append, List.cons_append, Option.some.injEq, exists_eq_left', exists_eq_left, exists_eq_right, exists_eq_right', List.getElem?_cons_zero, List.getElem?_cons_succ, List.set_cons_zero, List.set_cons_succ, List.cons.injEq, and_true, true_and, exists_and_left, exists_and_right, and_assoc, V.int.injEq, V.bl.injEq, V.ref.injEq, V.str.injEq, reduceCtorEq, decide_true, decide_false, Bool.not_true, Bool.not_false, Bool.false_eq_true, if_false, if_true, ite_true, ite_false, List.length_cons, List.length_nil, tRaise, tErr, LamX.tLam, TTe, rSortedIA, rSortedTA, tDisp, tPairs])
                    generalize hH22 : upd H21 pt (.tup [.ref pp, .ref nm]) = H22
                    have s22 : Same H20 H22 := by
                      rw [← hH22]
                      exact s21.trans (same_new hpt)
                    have s02 := s20.trans s22
                    have enm2 : H22 nm = some (.lst (nvs (nearM n qs))) := by
                      rw [← hH22]
                      exact same_new hpt _ _ enm
                    have epp2 := s22 _ _ epp
                    have hls2 := hls.same s22
                    have hsrt2 := srtd_same s22 hls hsrt
                    have lls : ls.length ≤ n := by
                      have h1 := (hok.flat hgs).length_eq
                      rw [List.length_range] at h1
                      have h2 : ∀ (zs : List (List Nat)), (∀ l ∈ zs, l ≠ []) → zs.length ≤ zs.flatten.length := by
                        intro zs
                        induction zs with
                        | nil => intro _; exact Nat.le_refl _
                        | cons l r ih =>
                          intro hz
                          have := ih fun l hl => hz l (List.mem_cons_of_mem _ hl)
                          have h3 : 1 ≤ l.length := List.length_pos_iff.mpr (hz l List.mem_cons_self)
                          rw [List.flatten_cons, List.length_append, List.length_cons]
                          omega
                      have := h2 ls fun l hl => (hok.1 l hl).ne
                      omega
                    have hn12 := hgs.1
                    refine ⟨_, _, .ty "tuple", tyT (.inl (.inl epp2)), true, kit_ty (by decide +kernel), iteF ?_⟩
                    subst hC16
                    refine lcS pp ys (fun _ => true) (fun x => .int ((decI H22 x).length : Int)) (fun Rr h => ?_) (.inr (.of epp2)) (by rw [hls2.length]; omega) (fun x H23 Q1 Q2 hx s23 q1 q2 => ?_) (fun L hL => ?_)
                    · (try simp only [tVar, tC, tOp, tUn, rI, rI0, rU, rEq, rNe, scal, tTest, tB, tAnd, tOr, tNot, tAndV, tOrV, tNotV, tIf, tChain, tNil, tCons, tCB, tCall, tTup, tLst, tRet, tRetN, tDrop, tSeq, tNext, tIfS, tAsg, gName, tPar, tPar3, gNil, gCons, gTup, gSub, tAug, tSl, tNoPart, tPart, tBM, tBM0, tYes, tIsP, iSeq, iEnumA, RZ.iZipA, iRng1, iRng2, iList, iTup, rIsi, rIsB, rIxL, rIxT, rIxA, rLenA, rListOf, rTupOf, rSetL, rSlL, rCat, rAppend, tFld, sFld, tMake, tBits, Int.ofNat_inj, cast1, cast0, TruV, cxOf, Cx.nox, Cx.wish, tNever, tBreak, tCont, ipI, tDIn, tDNotIn, sDPut, tDNewT, tDNewK, tDGet, rSortedPO, rSortedI, rIn, rEqD, rNeD, rInD, rNotInD, tSSet, rIsV, rIntI, rIntB, rAbsN, tLstRg, tRg1, tRg2, List.append_nil, List.nil_append, List.cons_append, Option.some.injEq, exists_eq_left', exists_eq_left, exists_eq_right, exists_eq_right', List.getElem?_cons_zero, List.getElem?_cons_succ, List.set_cons_zero, List.set_cons_succ, List.cons.injEq, and_true, true_and, exists_and_left, exists_and_right, and_assoc, V.int.injEq, V.bl.injEq, V.ref.injEq, V.str.injEq, reduceCtorEq, decide_true, decide_false, Bool.not_true, Bool.not_false, Bool.false_eq_true, if_false, if_true, ite_true, ite_false, List.length_cons, List.length_nil, tRaise, tErr, LamX.tLam, TTe, rSortedIA, rSortedTA, tDisp, tPairs])
                      exact h
                    · obtain ⟨j, hj⟩ := List.mem_iff_getElem?.mp hx
                      obtain ⟨l, hl, b2, rfl, eb⟩ := paired_at' hls2 hj
                      (try simp only [tVar, tC, tOp, tUn, rI, rI0, rU, rEq, rNe, scal, tTest, tB, tAnd, tOr, tNot, tAndV, tOrV, tNotV, tIf, tChain, tNil, tCons, tCB, tCall, tTup, tLst, tRet, tRetN, tDrop, tSeq, tNext, tIfS, tAsg, gName, tPar, tPar3, gNil, gCons, gTup, gSub, tAug, tSl, tNoPart, tPart, tBM, tBM0, tYes, tIsP, iSeq, iEnumA, RZ.iZipA, iRng1, iRng2, iList, iTup, rIsi, rIsB, rIxL, rIxT, rIxA, rLenA, rListOf, rTupOf, rSetL, rSlL, rCat, rAppend, tFld, sFld, tMake, tBits, Int.ofNat_inj, cast1, cast0, TruV, cxOf, Cx.nox, Cx.wish, tNever, tBreak, tCont, ipI, tDIn, tDNotIn, sDPut, tDNewT, tDNewK, tDGet, rSortedPO, rSortedI, rIn, rEqD, rNeD, rInD, rNotInD, tSSet, rIsV, rIntI, rIntB, rAbsN, tLstRg, tRg1, tRg2, List.append_nil, List.nil_append, List.cons_append, Option.some.injEq, exists_eq_left', exists_eq_left, exists_eq_right, exists_eq_right', List.getElem?_cons_zero, List.getElem?_cons_succ, List.set_cons_zero, List.set_cons_succ, List.cons.injEq, and_true, true_and, exists_and_left, exists_and_right, and_assoc, V.int.injEq, V.bl.injEq, V.ref.injEq, V.str.injEq, reduceCtorEq, decide_true, decide_false, Bool.not_true, Bool.not_false, Bool.false_eq_true, if_false, if_true, ite_true, ite_false, List.length_cons, List.length_nil, tRaise, tErr, LamX.tLam, TTe, rSortedIA, rSortedTA, tDisp, tPairs])
                      refine ⟨_, .inr (.of (s23 _ _ eb)), ?_⟩
                      have q3 := q1 rfl
                      rw [decI_of eb, List.length_map] at q3
                      rw [List.length_map]
                      exact q3
                    · rw [List.filter_eq_self.mpr fun _ _ => rfl]
                      have elen : ys.map (fun x => V.int ((decI H22 x).length : Int)) = (ls.map fun l => (l.length : Int)).map V.int := by
                        have e := congrArg (List.map fun l : List Int => V.int (l.length : Int)) hls2.dec
                        rw [List.map_map, List.map_map] at e
                        rw [List.map_map]
                        refine e.trans (List.map_congr_left fun l _ => ?_)
                        show V.int (((l.map Int.ofNat).length : Nat) : Int) = _
                        rw [List.length_map]
                        rfl
                      rw [elen]
                      have sL := same_new (o := .lst ((ls.map fun l => (l.length : Int)).map V.int)) hL
                      refine ⟨_, rfl, _, .inl (.of upd_same), fun ns' pl pm hsn hpl => ?_⟩
                      have sp := same_new (o := .lst (ns'.map V.int)) hpl
                      cases ns' with
                      | nil =>
                        obtain ⟨l, hl, _⟩ := hok.2.2 0 hn1
                        have := pm.length_eq
                        rw [List.length_map] at this
                        have h3 : 0 < ls.length := List.length_pos_of_mem hl
                        simp at this
                        omega
                      | cons x0 rest =>
                        refine ⟨_, .of upd_same, _, atI_nat (j := 0) rfl, rfl, ?_⟩
                        have hx0 : x0 ≠ 0 := by
                          have hm := pm.mem_iff.mp (List.mem_cons_self (a := x0) (l := rest))
                          obtain ⟨l, hl, rfl⟩ := List.mem_map.mp hm
                          have h3 : 1 ≤ l.length := List.length_pos_iff.mpr ((hok.1 l hl).ne)
                          omega
                        rw [decide_eq_false (fun e => hx0 (by injection e))]
                        refine iteF ⟨Nat.zero_le _, fun wh hwh => ?_⟩
                        have swh := same_new (o := .lst []) hwh
                        have sLp := sL.trans sp
                        subst hFp
                        obtain ⟨Pf, hPf⟩ : ∃ Pf : Nat → L2.St → Hp → Prop, ∀ m σ' H', Pf m σ' H' = ((∃ z16 z18, σ' = [some (V.ref a), some (.ref b), some (nv i), some (nv R), some (nv M), some (V.ref t), some (V.ref k), some (V.ref du), z8, z9, z10, z11, some (nv (n0 + 1)), some (V.ref s), some (V.ref pp), some (V.ref nm), z16, some (V.ref wh), z18]) ∧ Same H22 H' ∧ H' wh = some (.lst (nvs (ls.take m).flatten))) := ⟨_, fun _ _ _ => rfl⟩
                        have hwh22 := back sLp hwh
                        refine forS pp ys Pf (fun Rr h => ?_) (by rw [hPf]; exact ⟨⟨_, _, rfl⟩, sLp.trans swh, upd_same⟩) H22 (.inr (.of epp2)) (fun m σ' H' h => by rw [hPf] at h; exact h.2.1) ?_ ?_
                        · (try simp only [tVar, tC, tOp, tUn, rI, rI0, rU, rEq, rNe, scal, tTest, tB, tAnd, tOr, tNot, tAndV, tOrV, tNotV, tIf, tChain, tNil, tCons, tCB, tCall, tTup, tLst, tRet, tRetN, tDrop, tSeq, tNext, tIfS, tAsg, gName, tPar, tPar3, gNil, gCons, gTup, gSub, tAug, tSl, tNoPart, tPart, tBM, tBM0, tYes, tIsP, iSeq, iEnumA, RZ.iZipA, iRng1, iRng2, iList, iTup, rIsi, rIsB, rIxL, rIxT, rIxA, rLenA, rListOf, rTupOf, rSetL, rSlL, rCat, rAppend, tFld, sFld, tMake, tBits, Int.ofNat_inj, cast1, cast0, TruV, cxOf, Cx.nox, Cx.wish, tNever, tBreak, tCont, ipI, tDIn, tDNotIn, sDPut, tDNewT, tDNewK, tDGet, rSortedPO, rSortedI, rIn, rEqD, rNeD, rInD, rNotInD, tSSet, rIsV, rIntI, rIntB, rAbsN, tLstRg, tRg1, tRg2, List.append_nil, List.nil_append, List.cons_append, Option.some.injEq, exists_eq_left', exists_eq_left, exists_eq_right, exists_eq_right', List.getElem?_cons_zero, List.getElem?_cons_succ, List.set_cons_zero, List.set_cons_succ, List.cons.injEq, and_true, true_and, exists_and_left, exists_and_right, and_assoc, V.int.injEq, V.bl.injEq, V.ref.injEq, V.str.injEq, reduceCtorEq, decide_true, decide_false, Bool.not_true, Bool.not_false, Bool.false_eq_true, if_false, if_true, ite_true, ite_false, List.length_cons, List.length_nil, tRaise, tErr, LamX.tLam, TTe, rSortedIA, rSortedTA, tDisp, tPairs])
                          exact h
                        · intro m x σ' H24 hx hh
                          rw [hPf] at hh
                          obtain ⟨⟨z16, z18, rfl⟩, s24, ewh⟩ := hh
                          obtain ⟨l, hl, b2, rfl, eb⟩ := paired_at' hls2 hx
                          have ip := hok.1 l (List.mem_of_getElem? hl)
                          generalize hC18 : tLc _ _ _ _ _ = C18
                          (try simp only [tVar, tC, tOp, tUn, rI, rI0, rU, rEq, rNe, scal, tTest, tB, tAnd, tOr, tNot, tAndV, tOrV, tNotV, tIf, tChain, tNil, tCons, tCB, tCall, tTup, tLst, tRet, tRetN, tDrop, tSeq, tNext, tIfS, tAsg, gName, tPar, tPar3, gNil, gCons, gTup, gSub, tAug, tSl, tNoPart, tPart, tBM, tBM0, tYes, tIsP, iSeq, iEnumA, RZ.iZipA, iRng1, iRng2, iList, iTup, rIsi, rIsB, rIxL, rIxT, rIxA, rLenA, rListOf, rTupOf, rSetL, rSlL, rCat, rAppend, tFld, sFld, tMake, tBits, Int.ofNat_inj, cast1, cast0, TruV, cxOf, Cx.nox, Cx.wish, tNever, tBreak, tCont, ipI, tDIn, tDNotIn, sDPut, tDNewT, tDNewK, tDGet, rSortedPO, rSortedI, rIn, rEqD, rNeD, rInD, rNotInD, tSSet, rIsV, rIntI, rIntB, rAbsN, tLstRg, tRg1, tRg2, List.append_nil, List.nil_append, List.cons_append, Option.some.injEq, exists_eq_left', exists_eq_left, exists_eq_right, exists_eq_right', List.getElem?_cons_zero, List.getElem?_cons_succ, List.set_cons_zero, List.set_cons_succ, List.cons.injEq, and_true, true_and, exists_and_left, exists_and_right, and_assoc, V.int.injEq, V.bl.injEq, V.ref.injEq, V.str.injEq, reduceCtorEq, decide_true, decide_false, Bool.not_true, Bool.not_false, Bool.false_eq_true, if_false, if_true, ite_true, ite_false, List.length_cons, List.length_nil, tRaise, tErr, LamX.tLam, TTe, rSortedIA, rSortedTA, tDisp, tPairs])
                          have lfl : (ls.take m).flatten.length ≤ n := by
                            have h1 := (hok.flat hgs).length_eq
                            rw [List.length_range] at h1
                            have h2 : ls.flatten = (ls.take m).flatten ++ (ls.drop m).flatten := by rw [← List.flatten_append, List.take_append_drop]
                            rw [h2, List.length_append] at h1
                            omega
                          have lln := ip.len hgs
                          refine ⟨ty_lst (.of ewh), nvs l, .inr (.of (s24 _ _ eb)), fun l4 hl4 => ⟨wh, l4, _, _, rfl, rfl, same_new hl4 _ _ ewh, upd_same, by rw [List.length_map, List.length_map, sizeLine_eq]; omega, ?_⟩⟩
                          have s25 : Same H22 (upd (upd H24 l4 (.lst (nvs l))) wh (.lst (nvs (ls.take m).flatten ++ nvs l))) := fun c o hc => by
                            rw [upd_ne (ne_of_none hc hwh22)]
                            exact same_new hl4 _ _ (s24 _ _ hc)
                          have ewh5 : (upd (upd H24 l4 (.lst (nvs l))) wh (.lst (nvs (ls.take m).flatten ++ nvs l))) wh = some (.lst (nvs (ls.take (m + 1)).flatten)) := by
                            rw [upd_same, List.take_add_one, hl]
                            show _ = some (HO.lst (((ls.take m ++ [l]).flatten).map nv))
                            rw [List.flatten_append, List.map_append]
                            simp
                          generalize upd (upd H24 l4 (.lst (nvs l))) wh (.lst (nvs (ls.take m).flatten ++ nvs l)) = H25 at s25 ewh5
                          have eb5 := s25 _ _ eb
                          refine ⟨l.map Int.ofNat, .inr (.of (by rw [← nvs_ivs]; exact eb5)), fun ns2 p5 pm2 hs2 hp5 => ?_⟩
                          have en2 : ns2 = l.map Int.ofNat := int_uniq hs2 (asc_ofNat ip.1) pm2
                          subst en2
                          rw [← nvs_ivs]
                          have s5 := same_new (o := .lst (nvs l)) hp5
                          refine ⟨_, .inl ⟨.of upd_same, fun l6 hl6 => ?_⟩⟩
                          have s6 := same_new (o := .tup (nvs l)) hl6
                          have s56 := s5.trans s6
                          refine ⟨_, _, rfl, TD.ints (s56 _ _ eb5) upd_same, fun H26 s26 => ?_⟩
                          (try simp only [tVar, tC, tOp, tUn, rI, rI0, rU, rEq, rNe, scal, tTest, tB, tAnd, tOr, tNot, tAndV, tOrV, tNotV, tIf, tChain, tNil, tCons, tCB, tCall, tTup, tLst, tRet, tRetN, tDrop, tSeq, tNext, tIfS, tAsg, gName, tPar, tPar3, gNil, gCons, gTup, gSub, tAug, tSl, tNoPart, tPart, tBM, tBM0, tYes, tIsP, iSeq, iEnumA, RZ.iZipA, iRng1, iRng2, iList, iTup, rIsi, rIsB, rIxL, rIxT, rIxA, rLenA, rListOf, rTupOf, rSetL, rSlL, rCat, rAppend, tFld, sFld, tMake, tBits, Int.ofNat_inj, cast1, cast0, TruV, cxOf, Cx.nox, Cx.wish, tNever, tBreak, tCont, ipI, tDIn, tDNotIn, sDPut, tDNewT, tDNewK, tDGet, rSortedPO, rSortedI, rIn, rEqD, rNeD, rInD, rNotInD, tSSet, rIsV, rIntI, rIntB, rAbsN, tLstRg, tRg1, tRg2, List.append_nil, List.nil_append, List.cons_append, Option.some.injEq, exists_eq_left', exists_eq_left, exists_eq_right, exists_eq_right', List.getElem?_cons_zero, List.getElem?_cons_succ, List.set_cons_zero, List.set_cons_succ, List.cons.injEq, and_true, true_and, exists_and_left, exists_and_right, and_assoc, V.int.injEq, V.bl.injEq, V.ref.injEq, V.str.injEq, reduceCtorEq, decide_true, decide_false, Bool.not_true, Bool.not_false, Bool.false_eq_true, if_false, if_true, ite_true, ite_false, List.length_cons, List.length_nil, tRaise, tErr, LamX.tLam, TTe, rSortedIA, rSortedTA, tDisp, tPairs])
                          have s526 := s56.trans s26
                          refine ⟨nm, b2, qs, n, l, rfl, .of (s526 _ _ (s25 _ _ enm2)), hgs, .of (s526 _ _ eb5), ip, fun H27 s27 => ?_⟩
                          (try simp only [tVar, tC, tOp, tUn, rI, rI0, rU, rEq, rNe, scal, tTest, tB, tAnd, tOr, tNot, tAndV, tOrV, tNotV, tIf, tChain, tNil, tCons, tCB, tCall, tTup, tLst, tRet, tRetN, tDrop, tSeq, tNext, tIfS, tAsg, gName, tPar, tPar3, gNil, gCons, gTup, gSub, tAug, tSl, tNoPart, tPart, tBM, tBM0, tYes, tIsP, iSeq, iEnumA, RZ.iZipA, iRng1, iRng2, iList, iTup, rIsi, rIsB, rIxL, rIxT, rIxA, rLenA, rListOf, rTupOf, rSetL, rSlL, rCat, rAppend, tFld, sFld, tMake, tBits, Int.ofNat_inj, cast1, cast0, TruV, cxOf, Cx.nox, Cx.wish, tNever, tBreak, tCont, ipI, tDIn, tDNotIn, sDPut, tDNewT, tDNewK, tDGet, rSortedPO, rSortedI, rIn, rEqD, rNeD, rInD, rNotInD, tSSet, rIsV, rIntI, rIntB, rAbsN, tLstRg, tRg1, tRg2, List.append_nil, List.nil_append, List.cons_append, Option.some.injEq, exists_eq_left', exists_eq_left, exists_eq_right, exists_eq_right', List.getElem?_cons_zero, List.getElem?_cons_succ, List.set_cons_zero, List.set_cons_succ, List.cons.injEq, and_true, true_and, exists_and_left, exists_and_right, and_assoc, V.int.injEq, V.bl.injEq, V.ref.injEq, V.str.injEq, reduceCtorEq, decide_true, decide_false, Bool.not_true, Bool.not_false, Bool.false_eq_true, if_false, if_true, ite_true, ite_false, List.length_cons, List.length_nil, tRaise, tErr, LamX.tLam, TTe, rSortedIA, rSortedTA, tDisp, tPairs])
                          have s527 := s526.trans s27
                          subst hC18
                          refine lcS b2 (nvs l) (fun _ => false) (fun x => x) (fun Rr h => ?_) (.inr (.of (s527 _ _ eb5))) (by rw [List.length_map]; omega) (fun x H28 Q1 Q2 hx2 s28 q1 q2 => ?_) (fun L2' hL2 => ?_)
                          · (try simp only [tVar, tC, tOp, tUn, rI, rI0, rU, rEq, rNe, scal, tTest, tB, tAnd, tOr, tNot, tAndV, tOrV, tNotV, tIf, tChain, tNil, tCons, tCB, tCall, tTup, tLst, tRet, tRetN, tDrop, tSeq, tNext, tIfS, tAsg, gName, tPar, tPar3, gNil, gCons, gTup, gSub, tAug, tSl, tNoPart, tPart, tBM, tBM0, tYes, tIsP, iSeq, iEnumA, RZ.iZipA, iRng1, iRng2, iList, iTup, rIsi, rIsB, rIxL, rIxT, rIxA, rLenA, rListOf, rTupOf, rSetL, rSlL, rCat, rAppend, tFld, sFld, tMake, tBits, Int.ofNat_inj, cast1, cast0, TruV, cxOf, Cx.nox, Cx.wish, tNever, tBreak, tCont, ipI, tDIn, tDNotIn, sDPut, tDNewT, tDNewK, tDGet, rSortedPO, rSortedI, rIn, rEqD, rNeD, rInD, rNotInD, tSSet, rIsV, rIntI, rIntB, rAbsN, tLstRg, tRg1, tRg2, List.append_nil, List.nil_append, List.cons_append, Option.some.injEq, exists_eq_left', exists_eq_left, exists_eq_right, exists_eq_right', List.getElem?_cons_zero, List.getElem?_cons_succ, List.set_cons_zero, List.set_cons_succ, List.cons.injEq, and_true, true_and, exists_and_left, exists_and_right, and_assoc, V.int.injEq, V.bl.injEq, V.ref.injEq, V.str.injEq, reduceCtorEq, decide_true, decide_false, Bool.not_true, Bool.not_false, Bool.false_eq_true, if_false, if_true, ite_true, ite_false, List.length_cons, List.length_nil, tRaise, tErr, LamX.tLam, TTe, rSortedIA, rSortedTA, tDisp, tPairs])
                            exact h
                          · obtain ⟨j2, hj2⟩ := List.mem_iff_getElem?.mp hx2
                            obtain ⟨k4, hk4, rfl⟩ := nvs_at hj2
                            have hkm := List.mem_of_getElem? hk4
                            (try simp only [tVar, tC, tOp, tUn, rI, rI0, rU, rEq, rNe, scal, tTest, tB, tAnd, tOr, tNot, tAndV, tOrV, tNotV, tIf, tChain, tNil, tCons, tCB, tCall, tTup, tLst, tRet, tRetN, tDrop, tSeq, tNext, tIfS, tAsg, gName, tPar, tPar3, gNil, gCons, gTup, gSub, tAug, tSl, tNoPart, tPart, tBM, tBM0, tYes, tIsP, iSeq, iEnumA, RZ.iZipA, iRng1, iRng2, iList, iTup, rIsi, rIsB, rIxL, rIxT, rIxA, rLenA, rListOf, rTupOf, rSetL, rSlL, rCat, rAppend, tFld, sFld, tMake, tBits, Int.ofNat_inj, cast1, cast0, TruV, cxOf, Cx.nox, Cx.wish, tNever, tBreak, tCont, ipI, tDIn, tDNotIn, sDPut, tDNewT, tDNewK, tDGet, rSortedPO, rSortedI, rIn, rEqD, rNeD, rInD, rNotInD, tSSet, rIsV, rIntI, rIntB, rAbsN, tLstRg, tRg1, tRg2, List.append_nil, List.nil_append, List.cons_append, Option.some.injEq, exists_eq_left', exists_eq_left, exists_eq_right, exists_eq_right', List.getElem?_cons_zero, List.getElem?_cons_succ, List.set_cons_zero, List.set_cons_succ, List.cons.injEq, and_true, true_and, exists_and_left, exists_and_right, and_assoc, V.int.injEq, V.bl.injEq, V.ref.injEq, V.str.injEq, reduceCtorEq, decide_true, decide_false, Bool.not_true, Bool.not_false, Bool.false_eq_true, if_false, if_true, ite_true, ite_false, List.length_cons, List.length_nil, tRaise, tErr, LamX.tLam, TTe, rSortedIA, rSortedTA, tDisp, tPairs])
                            have s2528 := s527.trans s28
                            refine ⟨_, .of (s2528 _ _ (s25 _ _ enm2)), _, nvs_ix (by rw [near_len]; exact ip.lt hgs k4 hkm), b2, l, rfl, .inr (.of (s2528 _ _ eb5)), fun z hz => by have := ip.lt hgs z hz; omega, ?_⟩
                            refine ⟨4095, rfl, _, rfl, _, rfl, ?_⟩
                            rw [near_out hgs ip hkm]
                            exact q2 rfl
                          · rw [List.filter_eq_nil_iff.mpr (fun _ _ => Bool.false_ne_true)]
                            refine ⟨Nat.zero_le _, fun p6 hp6 => ⟨_, .lst (.of (same_new hp6 _ _ upd_same)) .nil, _, .lst (.of upd_same) .nil, by decide, by decide, iteF ?_⟩⟩
                            rw [hPf]
                            have s7 := s527.trans ((same_new hL2).trans (same_new (o := .lst []) hp6))
                            exact ⟨⟨_, _, rfl⟩, s25.trans s7, s7 _ _ ewh5⟩
                        · intro σ' H24 hh
                          rw [hPf] at hh
                          obtain ⟨⟨z16, z18, rfl⟩, s24, ewh⟩ := hh
                          rw [hls2.length, List.take_length] at ewh
                          subst hSl
                          (try simp only [tVar, tC, tOp, tUn, rI, rI0, rU, rEq, rNe, scal, tTest, tB, tAnd, tOr, tNot, tAndV, tOrV, tNotV, tIf, tChain, tNil, tCons, tCB, tCall, tTup, tLst, tRet, tRetN, tDrop, tSeq, tNext, tIfS, tAsg, gName, tPar, tPar3, gNil, gCons, gTup, gSub, tAug, tSl, tNoPart, tPart, tBM, tBM0, tYes, tIsP, iSeq, iEnumA, RZ.iZipA, iRng1, iRng2, iList, iTup, rIsi, rIsB, rIxL, rIxT, rIxA, rLenA, rListOf, rTupOf, rSetL, rSlL, rCat, rAppend, tFld, sFld, tMake, tBits, Int.ofNat_inj, cast1, cast0, TruV, cxOf, Cx.nox, Cx.wish, tNever, tBreak, tCont, ipI, tDIn, tDNotIn, sDPut, tDNewT, tDNewK, tDGet, rSortedPO, rSortedI, rIn, rEqD, rNeD, rInD, rNotInD, tSSet, rIsV, rIntI, rIntB, rAbsN, tLstRg, tRg1, tRg2, List.append_nil, List.nil_append, List.cons_append, Option.some.injEq, exists_eq_left', exists_eq_left, exists_eq_right, exists_eq_right', List.getElem?_cons_zero, List.getElem?_cons_succ, List.set_cons_zero, List.set_cons_succ, List.cons.injEq, and_true, true_and, exists_and_left, exists_and_right, and_assoc, V.int.injEq, V.bl.injEq, V.ref.injEq, V.str.injEq, reduceCtorEq, decide_true, decide_false, Bool.not_true, Bool.not_false, Bool.false_eq_true, if_false, if_true, ite_true, ite_false, List.length_cons, List.length_nil, tRaise, tErr, LamX.tLam, TTe, rSortedIA, rSortedTA, tDisp, tPairs])
                          have hfl := hok.flat hgs
                          have s024 := s02.trans s24
                          refine ⟨ls.flatten.map Int.ofNat, .inl (.of (by rw [← nvs_ivs]; exact ewh)), fun ns2 p5 pm2 hs2 hp5 => ?_⟩
                          have en2 : ns2 = (List.range n).map Int.ofNat := int_uniq hs2 (asc_ofNat List.pairwise_lt_range) (pm2.trans (hfl.map _))
                          subst en2
                          have s5 := same_new (o := .lst (((List.range n).map Int.ofNat).map V.int)) hp5
                          have eks5 := s5 _ _ (s24 _ _ (s22 _ _ eks))
                          refine ⟨_, _, _, eks5, T.cl_Keys, T.na_many, _, rfl, (n : Int), rfl, RgOk.of_le (by decide) (by omega) (by decide) (by omega), fun q2 hq2 => ?_⟩
                          have s6 := same_new (o := .lst (rgV 0 (n : Int))) hq2
                          refine ⟨_, .lst (.of (s6 _ _ upd_same)) (dp_ints _), _, .lst (.of (by rw [upd_same, rgV_nvs, nvs_ivs])) (dp_ints ((List.range n).map Int.ofNat)), PySem.W.shaped_ints _, PySem.W.shaped_ints _, ?_⟩
                          rw [refl_shaped (PySem.W.shaped_ints _)]
                          refine iteF ?_
                          have s56 := s5.trans s6
                          refine ⟨ys, .inr (.of (s56 _ _ (s24 _ _ epp2))), decI H22, fun x hx => ?_, fun zs p6 hsrt3 hstb hp6 => ?_⟩
                          · obtain ⟨j, hj⟩ := List.mem_iff_getElem?.mp hx
                            obtain ⟨l, hl, b2, rfl, eb⟩ := paired_at' hls2 hj
                            refine ⟨?_, b2, rfl, .of ?_⟩
                            · rw [decI_of eb]
                              exact fun z => (hok.1 l (List.mem_of_getElem? hl)).ne (List.map_eq_nil_iff.mp z)
                            · rw [decI_of eb, ← nvs_ivs l]
                              exact s56 _ _ (s24 _ _ eb)
                          · have ezs : zs = ys := SrtO.stb_uniq (SrtO.swo_lexI (decI H22)) hsrt3 hsrt2 hstb
                            subst ezs
                            have s7 := same_new (o := .lst zs) hp6
                            refine ⟨_, .inl ⟨.of upd_same, fun l8 hl8 => ?_⟩⟩
                            have s8 := same_new (o := .tup zs) hl8
                            have s58 := (s56.trans s7).trans s8
                            have dp := dp_lts (K := K) (hls2.same (s24.trans s58))
                            refine ⟨_, .tup (.of (s58 _ _ (s24 _ _ epp2))) dp, _, .tup (.of upd_same) dp, sh_lts _, sh_lts _, ?_⟩
                            rw [refl_shaped (sh_lts _)]
                            refine iteF ?_
                            rw [hPs]
                            exact ⟨⟨_, _, _, _, _, _, rfl⟩, sm.trans (s024.trans s58)⟩
                  · intro σ' H' hh
                    rw [hPs] at hh
                    obtain ⟨⟨z13, z14, z15, z16, z17, z18, rfl⟩, sm⟩ := hh
                    exact hD H' _ _ _ _ _ _ _ _ _ _ _ _ _ _ _ _ (hb1.same sm) (tb1.ext sm)
              generalize hS7 : tSeq (tIfS (tAnd _ (tNot (tB (tCall (sp_law_is K 5) _ _ (tCons _ (tCons (tTup (tCons _ (tCons (tCB _ _) _))) _)))))) _ _) _ = S7
              (try simp only [tVar, tC, tOp, tUn, rI, rI0, rU, rEq, rNe, scal, tTest, tB, tAnd, tOr, tNot, tAndV, tOrV, tNotV, tIf, tChain, tNil, tCons, tCB, tCall, tTup, tLst, tRet, tRetN, tDrop, tSeq, tNext, tIfS, tAsg, gName, tPar, tPar3, gNil, gCons, gTup, gSub, tAug, tSl, tNoPart, tPart, tBM, tBM0, tYes, tIsP, iSeq, iEnumA, RZ.iZipA, iRng1, iRng2, iList, iTup, rIsi, rIsB, rIxL, rIxT, rIxA, rLenA, rListOf, rTupOf, rSetL, rSlL, rCat, rAppend, tFld, sFld, tMake, tBits, Int.ofNat_inj, cast1, cast0, TruV, cxOf, Cx.nox, Cx.wish, tNever, tBreak, tCont, ipI, tDIn, tDNotIn, sDPut, tDNewT, tDNewK, tDGet, rSortedPO, rSortedI, rIn, rEqD, rNeD, rInD, rNotInD, tSSet, rIsV, rIntI, rIntB, rAbsN, tLstRg, tRg1, tRg2, List.append_nil, List.nil_append, List.cons_append, Option.some.injEq, exists_eq_left', exists_eq_left, exists_eq_right, exists_eq_right', List.getElem?_cons_zero, List.getElem?_cons_succ, List.set_cons_zero, List.set_cons_succ, List.cons.injEq, and_true, true_and, exists_and_left, exists_and_right, and_assoc, V.int.injEq, V.bl.injEq, V.ref.injEq, V.str.injEq, reduceCtorEq, decide_true, decide_false, Bool.not_true, Bool.not_false, Bool.false_eq_true, if_false, if_true, ite_true, ite_false, List.length_cons, List.length_nil, tRaise, tErr, LamX.tLam, TTe, rSortedIA, rSortedTA, tDisp, tPairs])
              have eF : ((12 : Int) / (M : Int)) = ((12 / M : Nat) : Int) := by
                rw [Int.natCast_ediv]
                rfl
              have eF1 : ((12 / M : Nat) : Int) + 1 = ((12 / M + 1 : Nat) : Int) := by omega
              simp only [eF, eF1]
              have big : 12 < (12 / M + 1) * M := by
                have h1 := Nat.lt_mul_div_succ 12 M1
                rw [Nat.mul_comm]
                exact h1
              have F1 : 1 ≤ 12 / M + 1 := Nat.le_add_left 1 _
              generalize 12 / M + 1 = F at big F1
              have lps : ps.length ≤ 144 := by
                have h1 := good_len hg
                have h2 := Nat.mul_le_mul M2 M2
                omega
              have p7 : ∀ (H11 : Hp), LamX.ExtN H6 H11 → LamX.Tabs [(Pt, lamQ)] H11 → S7 D [some (V.ref a), some (.ref b), some (nv i), some (nv R), some (nv M), some (V.ref t), some (V.ref k), some (V.ref du), z8, z9, z10, some (nv F), z12, z13, z14, z15, z16, z17, z18] H11 := by
                intro H11 x11 tb11
                subst hS7
                (try simp only [tVar, tC, tOp, tUn, rI, rI0, rU, rEq, rNe, scal, tTest, tB, tAnd, tOr, tNot, tAndV, tOrV, tNotV, tIf, tChain, tNil, tCons, tCB, tCall, tTup, tLst, tRet, tRetN, tDrop, tSeq, tNext, tIfS, tAsg, gName, tPar, tPar3, gNil, gCons, gTup, gSub, tAug, tSl, tNoPart, tPart, tBM, tBM0, tYes, tIsP, iSeq, iEnumA, RZ.iZipA, iRng1, iRng2, iList, iTup, rIsi, rIsB, rIxL, rIxT, rIxA, rLenA, rListOf, rTupOf, rSetL, rSlL, rCat, rAppend, tFld, sFld, tMake, tBits, Int.ofNat_inj, cast1, cast0, TruV, cxOf, Cx.nox, Cx.wish, tNever, tBreak, tCont, ipI, tDIn, tDNotIn, sDPut, tDNewT, tDNewK, tDGet, rSortedPO, rSortedI, rIn, rEqD, rNeD, rInD, rNotInD, tSSet, rIsV, rIntI, rIntB, rAbsN, tLstRg, tRg1, tRg2, List.append_nil, List.nil_append, List.cons_append, Option.some.injEq, exists_eq_left', exists_eq_left, exists_eq_right, exists_eq_right', List.getElem?_cons_zero, List.getElem?_cons_succ, List.set_cons_zero, List.set_cons_succ, List.cons.injEq, and_true, true_and, exists_and_left, exists_and_right, and_assoc, V.int.injEq, V.bl.injEq, V.ref.injEq, V.str.injEq, reduceCtorEq, decide_true, decide_false, Bool.not_true, Bool.not_false, Bool.false_eq_true, if_false, if_true, ite_true, ite_false, List.length_cons, List.length_nil, tRaise, tErr, LamX.tLam, TTe, rSortedIA, rSortedTA, tDisp, tPairs])
                split
                · rename_i hF
                  have hF12 : F ≤ 12 := by
                    have := of_decide_eq_true hF
                    omega
                  refine ⟨tb11, fun H12 x12 tb12 => ?_⟩
                  have x612 := x11.trans x12
                  have v12 := hb6.visE x612
                  have et12 := vis_le _ _ _ _ (v12 _ _ et6)
                  refine ⟨by decide, fun t2 ht2 => ⟨by decide, fun l2 hl2 => ?_⟩⟩
                  have c1 := same_new (o := .tup [nv M, nv M]) ht2
                  have c2 := same_new (o := .lst [.ref t2]) hl2
                  have c12 := c1.trans c2
                  refine ⟨xs, c12 _ _ et12, _, upd_same, by rw [hp6.len, List.length_singleton, sizeLine_eq]; omega, fun l3 hl3 => ?_⟩
                  have c3 := same_new (o := .lst (xs ++ [.ref t2])) hl3
                  have c13 := c12.trans c3
                  have pr12 := (hp6.same (v12.trans (vis_le b H12))).same c13
                  refine ⟨F, M, l3, xs, ps, rfl, ⟨by omega, hF12, M1, M2, big⟩, pr12, hg, .inr ⟨t2, .inl (.of upd_same), c3 _ _ (c2 _ _ upd_same), fun H13 d s13 hd => ?_⟩⟩
                  refine ans_clashes T hd fun H14 q8 s14 e8 => ?_
                  have s1214 := (c13.trans s13).trans s14
                  refine ⟨xs, .inl (.of (s1214 _ _ et12)), by decide, fun p9 hp9 => ?_⟩
                  have s9 := same_new (o := .tup [.str (Str.ofString "clashes"), nv xs.length]) hp9
                  have e9 := s9 _ _ e8
                  rw [← hp6.len] at e9
                  refine ⟨_, _, rfl, TD.strint e9 upd_same, fun H19 s19 => ?_⟩
                  (try simp only [tVar, tC, tOp, tUn, rI, rI0, rU, rEq, rNe, scal, tTest, tB, tAnd, tOr, tNot, tAndV, tOrV, tNotV, tIf, tChain, tNil, tCons, tCB, tCall, tTup, tLst, tRet, tRetN, tDrop, tSeq, tNext, tIfS, tAsg, gName, tPar, tPar3, gNil, gCons, gTup, gSub, tAug, tSl, tNoPart, tPart, tBM, tBM0, tYes, tIsP, iSeq, iEnumA, RZ.iZipA, iRng1, iRng2, iList, iTup, rIsi, rIsB, rIxL, rIxT, rIxA, rLenA, rListOf, rTupOf, rSetL, rSlL, rCat, rAppend, tFld, sFld, tMake, tBits, Int.ofNat_inj, cast1, cast0, TruV, cxOf, Cx.nox, Cx.wish, tNever, tBreak, tCont, ipI, tDIn, tDNotIn, sDPut, tDNewT, tDNewK, tDGet, rSortedPO, rSortedI, rIn, rEqD, rNeD, rInD, rNotInD, tSSet, rIsV, rIntI, rIntB, rAbsN, tLstRg, tRg1, tRg2, List.append_nil, List.nil_append, List.cons_append, Option.some.injEq, exists_eq_left', exists_eq_left, exists_eq_right, exists_eq_right', List.getElem?_cons_zero, List.getElem?_cons_succ, List.set_cons_zero, List.set_cons_succ, List.cons.injEq, and_true, true_and, exists_and_left, exists_and_right, and_assoc, V.int.injEq, V.bl.injEq, V.ref.injEq, V.str.injEq, reduceCtorEq, decide_true, decide_false, Bool.not_true, Bool.not_false, Bool.false_eq_true, if_false, if_true, ite_true, ite_false, List.length_cons, List.length_nil, tRaise, tErr, LamX.tLam, TTe, rSortedIA, rSortedTA, tDisp, tPairs])
                  have s59 := (s1214.trans s9).trans s19
                  exact p8 H19 _ (x612.trans (.of s59)) (tb12.ext s59)
                · exact p8 H11 _ x11 tb11
              have tb10 := tb6.ext s10
              refine ⟨⟨by omega, by omega⟩, ?_⟩
              split
              · rename_i hF
                have hF12 : F ≤ 12 := by
                  have := of_decide_eq_true hF
                  omega
                refine ⟨tb10, fun H12 x12 tb12 => ?_⟩
                have x612 := (LamX.ExtN.of s10).trans x12
                have v12 := hb6.visE x612
                have et12 := vis_le _ _ _ _ (v12 _ _ et6)
                refine ⟨F, M, t, xs, ps, rfl, ⟨by omega, hF12, M1, M2, big⟩, hp6.same (v12.trans (vis_le b H12)), hg, .inl ⟨.inl (.of et12), fun H13 d s13 hd => ?_⟩⟩
                refine ans_size T hd fun H14 q8 s14 e8 => ⟨by decide, fun p9 hp9 => ?_⟩
                have s9 := same_new (o := .tup [.str (Str.ofString "size"), .str (Str.ofString "keys")]) hp9
                refine ⟨_, _, rfl, TD.strs (s9 _ _ e8) upd_same, fun H19 s19 => ?_⟩
                (try simp only [tVar, tC, tOp, tUn, rI, rI0, rU, rEq, rNe, scal, tTest, tB, tAnd, tOr, tNot, tAndV, tOrV, tNotV, tIf, tChain, tNil, tCons, tCB, tCall, tTup, tLst, tRet, tRetN, tDrop, tSeq, tNext, tIfS, tAsg, gName, tPar, tPar3, gNil, gCons, gTup, gSub, tAug, tSl, tNoPart, tPart, tBM, tBM0, tYes, tIsP, iSeq, iEnumA, RZ.iZipA, iRng1, iRng2, iList, iTup, rIsi, rIsB, rIxL, rIxT, rIxA, rLenA, rListOf, rTupOf, rSetL, rSlL, rCat, rAppend, tFld, sFld, tMake, tBits, Int.ofNat_inj, cast1, cast0, TruV, cxOf, Cx.nox, Cx.wish, tNever, tBreak, tCont, ipI, tDIn, tDNotIn, sDPut, tDNewT, tDNewK, tDGet, rSortedPO, rSortedI, rIn, rEqD, rNeD, rInD, rNotInD, tSSet, rIsV, rIntI, rIntB, rAbsN, tLstRg, tRg1, tRg2, List.append_nil, List.nil_append, List.cons_append, Option.some.injEq, exists_eq_left', exists_eq_left, exists_eq_right, exists_eq_right', List.getElem?_cons_zero, List.getElem?_cons_succ, List.set_cons_zero, List.set_cons_succ, List.cons.injEq, and_true, true_and, exists_and_left, exists_and_right, and_assoc, V.int.injEq, V.bl.injEq, V.ref.injEq, V.str.injEq, reduceCtorEq, decide_true, decide_false, Bool.not_true, Bool.not_false, Bool.false_eq_true, if_false, if_true, ite_true, ite_false, List.length_cons, List.length_nil, tRaise, tErr, LamX.tLam, TTe, rSortedIA, rSortedTA, tDisp, tPairs])
                have s59 := ((s13.trans s14).trans s9).trans s19
                exact p7 H19 (x612.trans (.of s59)) (tb12.ext s59)
              · exact p7 H10 (.of s10) tb10
            (try simp only [tVar, tC, tOp, tUn, rI, rI0, rU, rEq, rNe, scal, tTest, tB, tAnd, tOr, tNot, tAndV, tOrV, tNotV, tIf, tChain, tNil, tCons, tCB, tCall, tTup, tLst, tRet, tRetN, tDrop, tSeq, tNext, tIfS, tAsg, gName, tPar, tPar3, gNil, gCons, gTup, gSub, tAug, tSl, tNoPart, tPart, tBM, tBM0, tYes, tIsP, iSeq, iEnumA, RZ.iZipA, iRng1, iRng2, iList, iTup, rIsi, rIsB, rIxL, rIxT, rIxA, rLenA, rListOf, rTupOf, rSetL, rSlL, rCat, rAppend, tFld, sFld, tMake, tBits, Int.ofNat_inj, cast1, cast0, TruV, cxOf, Cx.nox, Cx.wish, tNever, tBreak, tCont, ipI, tDIn, tDNotIn, sDPut, tDNewT, tDNewK, tDGet, rSortedPO, rSortedI, rIn, rEqD, rNeD, rInD, rNotInD, tSSet, rIsV, rIntI, rIntB, rAbsN, tLstRg, tRg1, tRg2, List.append_nil, List.nil_append, List.cons_append, Option.some.injEq, exists_eq_left', exists_eq_left, exists_eq_right, exists_eq_right', List.getElem?_cons_zero, List.getElem?_cons_succ, List.set_cons_zero, List.set_cons_succ, List.cons.injEq, and_true, true_and, exists_and_left, exists_and_right, and_assoc, V.int.injEq, V.bl.injEq, V.ref.injEq, V.str.injEq, reduceCtorEq, decide_true, decide_false, Bool.not_true, Bool.not_false, Bool.false_eq_true, if_false, if_true, ite_true, ite_false, List.length_cons, List.length_nil, tRaise, tErr, LamX.tLam, TTe, rSortedIA, rSortedTA, tDisp, tPairs])
            have hk9 := (hk6.same (vis_le b H6)).same s9
            obtain ⟨dx9, tt9, yk9, ek9, et9, hpk9⟩ := id hk9
            have eL : ((R * M : Nat) : Int) - 1 = ((R * M - 1 : Nat) : Int) := by omega
            simp only [mul_nn, eL]
            refine ⟨cm _ _ (by omega), k, R * M, _, 0, R * M - 1, rfl, hk9, gq, ⟨by omega, by omega⟩, fun H10 s10 => ?_⟩
            (try simp only [tVar, tC, tOp, tUn, rI, rI0, rU, rEq, rNe, scal, tTest, tB, tAnd, tOr, tNot, tAndV, tOrV, tNotV, tIf, tChain, tNil, tCons, tCB, tCall, tTup, tLst, tRet, tRetN, tDrop, tSeq, tNext, tIfS, tAsg, gName, tPar, tPar3, gNil, gCons, gTup, gSub, tAug, tSl, tNoPart, tPart, tBM, tBM0, tYes, tIsP, iSeq, iEnumA, RZ.iZipA, iRng1, iRng2, iList, iTup, rIsi, rIsB, rIxL, rIxT, rIxA, rLenA, rListOf, rTupOf, rSetL, rSlL, rCat, rAppend, tFld, sFld, tMake, tBits, Int.ofNat_inj, cast1, cast0, TruV, cxOf, Cx.nox, Cx.wish, tNever, tBreak, tCont, ipI, tDIn, tDNotIn, sDPut, tDNewT, tDNewK, tDGet, rSortedPO, rSortedI, rIn, rEqD, rNeD, rInD, rNotInD, tSSet, rIsV, rIntI, rIntB, rAbsN, tLstRg, tRg1, tRg2, List.append_nil, List.nil_append, List.cons_append, Option.some.injEq, exists_eq_left', exists_eq_left, exists_eq_right, exists_eq_right', List.getElem?_cons_zero, List.getElem?_cons_succ, List.set_cons_zero, List.set_cons_succ, List.cons.injEq, and_true, true_and, exists_and_left, exists_and_right, and_assoc, V.int.injEq, V.bl.injEq, V.ref.injEq, V.str.injEq, reduceCtorEq, decide_true, decide_false, Bool.not_true, Bool.not_false, Bool.false_eq_true, if_false, if_true, ite_true, ite_false, List.length_cons, List.length_nil, tRaise, tErr, LamX.tLam, TTe, rSortedIA, rSortedTA, tDisp, tPairs])
            cases hb : ((nearM (R * M) (spread R M ps)).getD 0 0).testBit (R * M - 1) with
            | false => exact iteF (p6 H10 (s9.trans s10))
            | true =>
              refine iteT ?_
              have hn := (near_test gq.2 0 (R * M - 1)).mp hb
              have hR : R = 1 := Classical.byContradiction fun hne => by
                have h2 : 2 * M ≤ R * M := Nat.mul_le_mul_right M (by omega)
                rcases hn with hn | hn
                · obtain ⟨j, p, hj, hp, e⟩ := mem_spread.mp hn
                  have g1 := hg.2 p hp
                  have e1 := congrArg Prod.fst e
                  have e2 := congrArg Prod.snd e
                  unfold inRoom at e1 e2
                  simp only at e1 e2
                  have : j * M = 0 := by omega
                  omega
                · have := (spread_in hg.2 _ hn).1
                  simp only at this
                  omega
              rw [decide_eq_false (by omega)]
              exact iteF (p6 H10 (s9.trans s10))
          (try simp only [tVar, tC, tOp, tUn, rI, rI0, rU, rEq, rNe, scal, tTest, tB, tAnd, tOr, tNot, tAndV, tOrV, tNotV, tIf, tChain, tNil, tCons, tCB, tCall, tTup, tLst, tRet, tRetN, tDrop, tSeq, tNext, tIfS, tAsg, gName, tPar, tPar3, gNil, gCons, gTup, gSub, tAug, tSl, tNoPart, tPart, tBM, tBM0, tYes, tIsP, iSeq, iEnumA, RZ.iZipA, iRng1, iRng2, iList, iTup, rIsi, rIsB, rIxL, rIxT, rIxA, rLenA, rListOf, rTupOf, rSetL, rSlL, rCat, rAppend, tFld, sFld, tMake, tBits, Int.ofNat_inj, cast1, cast0, TruV, cxOf, Cx.nox, Cx.wish, tNever, tBreak, tCont, ipI, tDIn, tDNotIn, sDPut, tDNewT, tDNewK, tDGet, rSortedPO, rSortedI, rIn, rEqD, rNeD, rInD, rNotInD, tSSet, rIsV, rIntI, rIntB, rAbsN, tLstRg, tRg1, tRg2, List.append_nil, List.nil_append, List.cons_append, Option.some.injEq, exists_eq_left', exists_eq_left, exists_eq_right, exists_eq_right', List.getElem?_cons_zero, List.getElem?_cons_succ, List.set_cons_zero, List.set_cons_succ, List.cons.injEq, and_true, true_and, exists_and_left, exists_and_right, and_assoc, V.int.injEq, V.bl.injEq, V.ref.injEq, V.str.injEq, reduceCtorEq, decide_true, decide_false, Bool.not_true, Bool.not_false, Bool.false_eq_true, if_false, if_true, ite_true, ite_false, List.length_cons, List.length_nil, tRaise, tErr, LamX.tLam, TTe, rSortedIA, rSortedTA, tDisp, tPairs])
          have s8' := s8
          obtain ⟨dx8, tt8, yk8, ek8, et8, hpk8⟩ := id ((hk6.same (vis_le b H6)).same s8)
          refine ⟨_, _, _, ek8, T.cl_Keys, T.na_clashes, _, rfl, _, .inl ⟨.of edu, fun l hl => ?_⟩⟩
          have sl := same_new (o := .tup acc) hl
          refine ⟨_, _, rfl, TD.prs (sl _ _ et8) upd_same (hpk8.same sl) (pacc.same sl), fun H9 s9 => ?_⟩
          (try simp only [tVar, tC, tOp, tUn, rI, rI0, rU, rEq, rNe, scal, tTest, tB, tAnd, tOr, tNot, tAndV, tOrV, tNotV, tIf, tChain, tNil, tCons, tCB, tCall, tTup, tLst, tRet, tRetN, tDrop, tSeq, tNext, tIfS, tAsg, gName, tPar, tPar3, gNil, gCons, gTup, gSub, tAug, tSl, tNoPart, tPart, tBM, tBM0, tYes, tIsP, iSeq, iEnumA, RZ.iZipA, iRng1, iRng2, iList, iTup, rIsi, rIsB, rIxL, rIxT, rIxA, rLenA, rListOf, rTupOf, rSetL, rSlL, rCat, rAppend, tFld, sFld, tMake, tBits, Int.ofNat_inj, cast1, cast0, TruV, cxOf, Cx.nox, Cx.wish, tNever, tBreak, tCont, ipI, tDIn, tDNotIn, sDPut, tDNewT, tDNewK, tDGet, rSortedPO, rSortedI, rIn, rEqD, rNeD, rInD, rNotInD, tSSet, rIsV, rIntI, rIntB, rAbsN, tLstRg, tRg1, tRg2, List.append_nil, List.nil_append, List.cons_append, Option.some.injEq, exists_eq_left', exists_eq_left, exists_eq_right, exists_eq_right', List.getElem?_cons_zero, List.getElem?_cons_succ, List.set_cons_zero, List.set_cons_succ, List.cons.injEq, and_true, true_and, exists_and_left, exists_and_right, and_assoc, V.int.injEq, V.bl.injEq, V.ref.injEq, V.str.injEq, reduceCtorEq, decide_true, decide_false, Bool.not_true, Bool.not_false, Bool.false_eq_true, if_false, if_true, ite_true, ite_false, List.length_cons, List.length_nil, tRaise, tErr, LamX.tLam, TTe, rSortedIA, rSortedTA, tDisp, tPairs])
          exact p5 H9 ((s8.trans sl).trans s9)
        have sdu := same_new (o := .lst []) hdu
        subst hF3
        obtain ⟨Pd, hPd⟩ : ∃ Pd : Nat → L2.St → Hp → Prop, ∀ j σ' H', Pd j σ' H' = (∃ acc z8 z9 z10 z11 z12 z13 z14 z15 z16 z17 z18, σ' = [some (V.ref a), some (.ref b), some (nv i), some (nv R), some (nv M), some (V.ref t), some (V.ref k), some (V.ref du), z8, z9, z10, z11, z12, z13, z14, z15, z16, z17, z18] ∧ Same H7 H' ∧ H' du = some (.lst acc) ∧ Prs H' acc (spread j M ps)) := ⟨_, fun _ _ _ => rfl⟩
        have big : ps.length ≤ 144 := by
          have h1 := good_len hg
          have h2 := Nat.mul_le_mul M2 M2
          omega
        refine forR1 R Pd (fun Rr h => ?_) (by omega) (by rw [hPd]; exact ⟨[], _, _, _, _, _, _, _, _, _, _, _, rfl, sdu, upd_same, .nil⟩) ?_ ?_
        · (try simp only [tVar, tC, tOp, tUn, rI, rI0, rU, rEq, rNe, scal, tTest, tB, tAnd, tOr, tNot, tAndV, tOrV, tNotV, tIf, tChain, tNil, tCons, tCB, tCall, tTup, tLst, tRet, tRetN, tDrop, tSeq, tNext, tIfS, tAsg, gName, tPar, tPar3, gNil, gCons, gTup, gSub, tAug, tSl, tNoPart, tPart, tBM, tBM0, tYes, tIsP, iSeq, iEnumA, RZ.iZipA, iRng1, iRng2, iList, iTup, rIsi, rIsB, rIxL, rIxT, rIxA, rLenA, rListOf, rTupOf, rSetL, rSlL, rCat, rAppend, tFld, sFld, tMake, tBits, Int.ofNat_inj, cast1, cast0, TruV, cxOf, Cx.nox, Cx.wish, tNever, tBreak, tCont, ipI, tDIn, tDNotIn, sDPut, tDNewT, tDNewK, tDGet, rSortedPO, rSortedI, rIn, rEqD, rNeD, rInD, rNotInD, tSSet, rIsV, rIntI, rIntB, rAbsN, tLstRg, tRg1, tRg2, List.append_nil, List.nil_append, List.cons_append, Option.some.injEq, exists_eq_left', exists_eq_left, exists_eq_right, exists_eq_right', List.getElem?_cons_zero, List.getElem?_cons_succ, List.set_cons_zero, List.set_cons_succ, List.cons.injEq, and_true, true_and, exists_and_left, exists_and_right, and_assoc, V.int.injEq, V.bl.injEq, V.ref.injEq, V.str.injEq, reduceCtorEq, decide_true, decide_false, Bool.not_true, Bool.not_false, Bool.false_eq_true, if_false, if_true, ite_true, ite_false, List.length_cons, List.length_nil, tRaise, tErr, LamX.tLam, TTe, rSortedIA, rSortedTA, tDisp, tPairs])
          exact h
        · intro j σ' H' hj hh
          rw [hPd] at hh
          obtain ⟨acc, z8, z9, z10, z11, z12, z13, z14, z15, z16, z17, z18, rfl, sm, edu, pacc⟩ := hh
          generalize hC1 : tLc _ _ _ _ _ = C1
          (try simp only [tVar, tC, tOp, tUn, rI, rI0, rU, rEq, rNe, scal, tTest, tB, tAnd, tOr, tNot, tAndV, tOrV, tNotV, tIf, tChain, tNil, tCons, tCB, tCall, tTup, tLst, tRet, tRetN, tDrop, tSeq, tNext, tIfS, tAsg, gName, tPar, tPar3, gNil, gCons, gTup, gSub, tAug, tSl, tNoPart, tPart, tBM, tBM0, tYes, tIsP, iSeq, iEnumA, RZ.iZipA, iRng1, iRng2, iList, iTup, rIsi, rIsB, rIxL, rIxT, rIxA, rLenA, rListOf, rTupOf, rSetL, rSlL, rCat, rAppend, tFld, sFld, tMake, tBits, Int.ofNat_inj, cast1, cast0, TruV, cxOf, Cx.nox, Cx.wish, tNever, tBreak, tCont, ipI, tDIn, tDNotIn, sDPut, tDNewT, tDNewK, tDGet, rSortedPO, rSortedI, rIn, rEqD, rNeD, rInD, rNotInD, tSSet, rIsV, rIntI, rIntB, rAbsN, tLstRg, tRg1, tRg2, List.append_nil, List.nil_append, List.cons_append, Option.some.injEq, exists_eq_left', exists_eq_left, exists_eq_right, exists_eq_right', List.getElem?_cons_zero, List.getElem?_cons_succ, List.set_cons_zero, List.set_cons_succ, List.cons.injEq, and_true, true_and, exists_and_left, exists_and_right, and_assoc, V.int.injEq, V.bl.injEq, V.ref.injEq, V.str.injEq, reduceCtorEq, decide_true, decide_false, Bool.not_true, Bool.not_false, Bool.false_eq_true, if_false, if_true, ite_true, ite_false, List.length_cons, List.length_nil, tRaise, tErr, LamX.tLam, TTe, rSortedIA, rSortedTA, tDisp, tPairs])
          refine ⟨ty_lst (.of edu), ?_⟩
          subst hC1
          have s67 := s7.trans sm
          have et' := s67 _ _ (vis_le _ _ _ _ et6)
          have hp' := (hp6.same (vis_le b H6)).same s67
          refine lcPG t xs ps (fun L m H9 bcc => Same H' H9 ∧ Prs H9 bcc ((ps.take m).map (inRoom M j))) (fun Rr h => ?_) (.inl (.of et')) (prs_pr2 hp') (by omega) (fun x y => rfl) (fun L hL => ⟨same_new hL, .nil⟩) (fun L m H9 bcc hL h => h.1) (fun L m p2 H9 bcc hL hm eL h => ?_) (fun σ H Q1 Q2 m h => m _ _ h) (fun σ H Q1 Q2 m h => ?_) (fun L H9 bcc hL eL h => ?_)
          · (try simp only [tVar, tC, tOp, tUn, rI, rI0, rU, rEq, rNe, scal, tTest, tB, tAnd, tOr, tNot, tAndV, tOrV, tNotV, tIf, tChain, tNil, tCons, tCB, tCall, tTup, tLst, tRet, tRetN, tDrop, tSeq, tNext, tIfS, tAsg, gName, tPar, tPar3, gNil, gCons, gTup, gSub, tAug, tSl, tNoPart, tPart, tBM, tBM0, tYes, tIsP, iSeq, iEnumA, RZ.iZipA, iRng1, iRng2, iList, iTup, rIsi, rIsB, rIxL, rIxT, rIxA, rLenA, rListOf, rTupOf, rSetL, rSlL, rCat, rAppend, tFld, sFld, tMake, tBits, Int.ofNat_inj, cast1, cast0, TruV, cxOf, Cx.nox, Cx.wish, tNever, tBreak, tCont, ipI, tDIn, tDNotIn, sDPut, tDNewT, tDNewK, tDGet, rSortedPO, rSortedI, rIn, rEqD, rNeD, rInD, rNotInD, tSSet, rIsV, rIntI, rIntB, rAbsN, tLstRg, tRg1, tRg2, List.append_nil, List.nil_append, List.cons_append, Option.some.injEq, exists_eq_left', exists_eq_left, exists_eq_right, exists_eq_right', List.getElem?_cons_zero, List.getElem?_cons_succ, List.set_cons_zero, List.set_cons_succ, List.cons.injEq, and_true, true_and, exists_and_left, exists_and_right, and_assoc, V.int.injEq, V.bl.injEq, V.ref.injEq, V.str.injEq, reduceCtorEq, decide_true, decide_false, Bool.not_true, Bool.not_false, Bool.false_eq_true, if_false, if_true, ite_true, ite_false, List.length_cons, List.length_nil, tRaise, tErr, LamX.tLam, TTe, rSortedIA, rSortedTA, tDisp, tPairs, wipe, List.map_cons, List.map_nil])
            exact h
          · obtain ⟨sm9, pr⟩ := h
            (try simp only [tVar, tC, tOp, tUn, rI, rI0, rU, rEq, rNe, scal, tTest, tB, tAnd, tOr, tNot, tAndV, tOrV, tNotV, tIf, tChain, tNil, tCons, tCB, tCall, tTup, tLst, tRet, tRetN, tDrop, tSeq, tNext, tIfS, tAsg, gName, tPar, tPar3, gNil, gCons, gTup, gSub, tAug, tSl, tNoPart, tPart, tBM, tBM0, tYes, tIsP, iSeq, iEnumA, RZ.iZipA, iRng1, iRng2, iList, iTup, rIsi, rIsB, rIxL, rIxT, rIxA, rLenA, rListOf, rTupOf, rSetL, rSlL, rCat, rAppend, tFld, sFld, tMake, tBits, Int.ofNat_inj, cast1, cast0, TruV, cxOf, Cx.nox, Cx.wish, tNever, tBreak, tCont, ipI, tDIn, tDNotIn, sDPut, tDNewT, tDNewK, tDGet, rSortedPO, rSortedI, rIn, rEqD, rNeD, rInD, rNotInD, tSSet, rIsV, rIntI, rIntB, rAbsN, tLstRg, tRg1, tRg2, List.append_nil, List.nil_append, List.cons_append, Option.some.injEq, exists_eq_left', exists_eq_left, exists_eq_right, exists_eq_right', List.getElem?_cons_zero, List.getElem?_cons_succ, List.set_cons_zero, List.set_cons_succ, List.cons.injEq, and_true, true_and, exists_and_left, exists_and_right, and_assoc, V.int.injEq, V.bl.injEq, V.ref.injEq, V.str.injEq, reduceCtorEq, decide_true, decide_false, Bool.not_true, Bool.not_false, Bool.false_eq_true, if_false, if_true, ite_true, ite_false, List.length_cons, List.length_nil, tRaise, tErr, LamX.tLam, TTe, rSortedIA, rSortedTA, tDisp, tPairs, wipe, List.map_cons, List.map_nil])
            refine ⟨cm _ _ (by omega), cm _ _ (by omega), by decide, fun x hx => ⟨same_new hx _ _ eL, fun b o hb => ?_, ?_⟩⟩
            · rw [upd_ne (ne_of_none hb hL)]
              exact same_new hx _ _ (sm9 _ _ hb)
            · have sx := same_new (o := .tup [.int ((j : Int) * (M : Int) + (p2.1 : Int)), .int ((j : Int) * (M : Int) + (p2.2 : Int))]) hx
              rw [List.take_add_one, hm]
              show Prs _ _ ((ps.take m ++ [p2]).map (inRoom M j))
              rw [List.map_append]
              refine Prs.upd ((pr.same sx).snoc ⟨x, rfl, ?_⟩) fun ys z => ?_
              · rw [upd_same]
                rfl
              · rw [sx _ _ eL] at z
                cases z
          · revert h
            (try simp only [tVar, tC, tOp, tUn, rI, rI0, rU, rEq, rNe, scal, tTest, tB, tAnd, tOr, tNot, tAndV, tOrV, tNotV, tIf, tChain, tNil, tCons, tCB, tCall, tTup, tLst, tRet, tRetN, tDrop, tSeq, tNext, tIfS, tAsg, gName, tPar, tPar3, gNil, gCons, gTup, gSub, tAug, tSl, tNoPart, tPart, tBM, tBM0, tYes, tIsP, iSeq, iEnumA, RZ.iZipA, iRng1, iRng2, iList, iTup, rIsi, rIsB, rIxL, rIxT, rIxA, rLenA, rListOf, rTupOf, rSetL, rSlL, rCat, rAppend, tFld, sFld, tMake, tBits, Int.ofNat_inj, cast1, cast0, TruV, cxOf, Cx.nox, Cx.wish, tNever, tBreak, tCont, ipI, tDIn, tDNotIn, sDPut, tDNewT, tDNewK, tDGet, rSortedPO, rSortedI, rIn, rEqD, rNeD, rInD, rNotInD, tSSet, rIsV, rIntI, rIntB, rAbsN, tLstRg, tRg1, tRg2, List.append_nil, List.nil_append, List.cons_append, Option.some.injEq, exists_eq_left', exists_eq_left, exists_eq_right, exists_eq_right', List.getElem?_cons_zero, List.getElem?_cons_succ, List.set_cons_zero, List.set_cons_succ, List.cons.injEq, and_true, true_and, exists_and_left, exists_and_right, and_assoc, V.int.injEq, V.bl.injEq, V.ref.injEq, V.str.injEq, reduceCtorEq, decide_true, decide_false, Bool.not_true, Bool.not_false, Bool.false_eq_true, if_false, if_true, ite_true, ite_false, List.length_cons, List.length_nil, tRaise, tErr, LamX.tLam, TTe, rSortedIA, rSortedTA, tDisp, tPairs])
            rintro ⟨v, a1, v1, a2, i, a3, x, a4, a5, v2, a6, x1, a7, v3, a8, v4, a9, i1, b1, x2, b2, b3, v5, b4, x3, b5, b6, g⟩
            exact ⟨v, a1, v1, a2, i, a3, x, a4, a5, v2, a6, x1, a7, v3, a8, v4, a9, i1, b1, x2, b2, b3, v5, b4, x3, b5, b6, fun p hp => m _ _ (g p hp)⟩
          · obtain ⟨sm9, pr⟩ := h
            rw [List.take_length] at pr
            have edu9 := sm9 _ _ edu
            have la : acc.length ≤ 12 * 144 := by
              rw [pacc.len, spread_len]
              exact Nat.mul_le_mul (by omega) big
            refine ⟨du, L, _, _, rfl, rfl, edu9, eL, by rw [pr.len, List.length_map, sizeLine_eq]; omega, ?_⟩
            show Pd (j + 1) _ _
            rw [hPd]
            refine ⟨acc ++ bcc, _, _, _, _, _, _, _, _, _, _, _, rfl, fun c o hc => ?_, upd_same, ?_⟩
            · rw [upd_ne (ne_of_none hc hdu)]
              exact sm9 _ _ (sm _ _ hc)
            · rw [spread_succ]
              exact Prs.upd (paired_app (pacc.same sm9) pr) fun ys z => by rw [edu9] at z; cases z
        · intro σ' H' hh
          rw [hPd] at hh
          obtain ⟨acc, z8, z9, z10, z11, z12, z13, z14, z15, z16, z17, z18, rfl, sm, edu, pacc⟩ := hh
          exact p4 H' acc z8 z9 z10 z11 z12 z13 z14 z15 z16 z17 z18 (s7.trans sm) edu pacc
      (try simp only [tVar, tC, tOp, tUn, rI, rI0, rU, rEq, rNe, scal, tTest, tB, tAnd, tOr, tNot, tAndV, tOrV, tNotV, tIf, tChain, tNil, tCons, tCB, tCall, tTup, tLst, tRet, tRetN, tDrop, tSeq, tNext, tIfS, tAsg, gName, tPar, tPar3, gNil, gCons, gTup, gSub, tAug, tSl, tNoPart, tPart, tBM, tBM0, tYes, tIsP, iSeq, iEnumA, RZ.iZipA, iRng1, iRng2, iList, iTup, rIsi, rIsB, rIxL, rIxT, rIxA, rLenA, rListOf, rTupOf, rSetL, rSlL, rCat, rAppend, tFld, sFld, tMake, tBits, Int.ofNat_inj, cast1, cast0, TruV, cxOf, Cx.nox, Cx.wish, tNever, tBreak, tCont, ipI, tDIn, tDNotIn, sDPut, tDNewT, tDNewK, tDGet, rSortedPO, rSortedI, rIn, rEqD, rNeD, rInD, rNotInD, tSSet, rIsV, rIntI, rIntB, rAbsN, tLstRg, tRg1, tRg2, List.append_nil, List.nil_append, List.cons_append, Option.some.injEq, exists_eq_left', exists_eq_left, exists_eq_right, exists_eq_right', List.getElem?_cons_zero, List.getElem?_cons_succ, List.set_cons_zero, List.set_cons_succ, List.cons.injEq, and_true, true_and, exists_and_left, exists_and_right, and_assoc, V.int.injEq, V.bl.injEq, V.ref.injEq, V.str.injEq, reduceCtorEq, decide_true, decide_false, Bool.not_true, Bool.not_false, Bool.false_eq_true, if_false, if_true, ite_true, ite_false, List.length_cons, List.length_nil, tRaise, tErr, LamX.tLam, TTe, rSortedIA, rSortedTA, tDisp, tPairs])
      refine ⟨b, 12, rfl, by decide, hb2, fun H3 r0 s3 hb3 hr0 => ?_⟩
      (try simp only [tVar, tC, tOp, tUn, rI, rI0, rU, rEq, rNe, scal, tTest, tB, tAnd, tOr, tNot, tAndV, tOrV, tNotV, tIf, tChain, tNil, tCons, tCB, tCall, tTup, tLst, tRet, tRetN, tDrop, tSeq, tNext, tIfS, tAsg, gName, tPar, tPar3, gNil, gCons, gTup, gSub, tAug, tSl, tNoPart, tPart, tBM, tBM0, tYes, tIsP, iSeq, iEnumA, RZ.iZipA, iRng1, iRng2, iList, iTup, rIsi, rIsB, rIxL, rIxT, rIxA, rLenA, rListOf, rTupOf, rSetL, rSlL, rCat, rAppend, tFld, sFld, tMake, tBits, Int.ofNat_inj, cast1, cast0, TruV, cxOf, Cx.nox, Cx.wish, tNever, tBreak, tCont, ipI, tDIn, tDNotIn, sDPut, tDNewT, tDNewK, tDGet, rSortedPO, rSortedI, rIn, rEqD, rNeD, rInD, rNotInD, tSSet, rIsV, rIntI, rIntB, rAbsN, tLstRg, tRg1, tRg2, List.append_nil, List.nil_append, List.cons_append, Option.some.injEq, exists_eq_left', exists_eq_left, exists_eq_right, exists_eq_right', List.getElem?_cons_zero, List.getElem?_cons_succ, List.set_cons_zero, List.set_cons_succ, List.cons.injEq, and_true, true_and, exists_and_left, exists_and_right, and_assoc, V.int.injEq, V.bl.injEq, V.ref.injEq, V.str.injEq, reduceCtorEq, decide_true, decide_false, Bool.not_true, Bool.not_false, Bool.false_eq_true, if_false, if_true, ite_true, ite_false, List.length_cons, List.length_nil, tRaise, tErr, LamX.tLam, TTe, rSortedIA, rSortedTA, tDisp, tPairs])
      refine ⟨⟨by omega, by omega⟩, ?_⟩
      have eR : (1 : Int) + (r0 : Int) = ((r0 + 1 : Nat) : Int) := by omega
      have eD : (12 : Int) / (((r0 + 1 : Nat) : Int)) = ((12 / (r0 + 1) : Nat) : Int) := by
        rw [Int.natCast_ediv]
        rfl
      simp only [eR, eD]
      have hd1 : 1 ≤ 12 / (r0 + 1) := (Nat.le_div_iff_mul_le (by omega)).mpr (by omega)
      have hd2 : 12 / (r0 + 1) ≤ 12 := Nat.div_le_self _ _
      refine ⟨b, 12 / (r0 + 1), rfl, ⟨hd1, by omega⟩, hb3, fun H4 m0 s4 hb4 hm0 => ?_⟩
      (try simp only [tVar, tC, tOp, tUn, rI, rI0, rU, rEq, rNe, scal, tTest, tB, tAnd, tOr, tNot, tAndV, tOrV, tNotV, tIf, tChain, tNil, tCons, tCB, tCall, tTup, tLst, tRet, tRetN, tDrop, tSeq, tNext, tIfS, tAsg, gName, tPar, tPar3, gNil, gCons, gTup, gSub, tAug, tSl, tNoPart, tPart, tBM, tBM0, tYes, tIsP, iSeq, iEnumA, RZ.iZipA, iRng1, iRng2, iList, iTup, rIsi, rIsB, rIxL, rIxT, rIxA, rLenA, rListOf, rTupOf, rSetL, rSlL, rCat, rAppend, tFld, sFld, tMake, tBits, Int.ofNat_inj, cast1, cast0, TruV, cxOf, Cx.nox, Cx.wish, tNever, tBreak, tCont, ipI, tDIn, tDNotIn, sDPut, tDNewT, tDNewK, tDGet, rSortedPO, rSortedI, rIn, rEqD, rNeD, rInD, rNotInD, tSSet, rIsV, rIntI, rIntB, rAbsN, tLstRg, tRg1, tRg2, List.append_nil, List.nil_append, List.cons_append, Option.some.injEq, exists_eq_left', exists_eq_left, exists_eq_right, exists_eq_right', List.getElem?_cons_zero, List.getElem?_cons_succ, List.set_cons_zero, List.set_cons_succ, List.cons.injEq, and_true, true_and, exists_and_left, exists_and_right, and_assoc, V.int.injEq, V.bl.injEq, V.ref.injEq, V.str.injEq, reduceCtorEq, decide_true, decide_false, Bool.not_true, Bool.not_false, Bool.false_eq_true, if_false, if_true, ite_true, ite_false, List.length_cons, List.length_nil, tRaise, tErr, LamX.tLam, TTe, rSortedIA, rSortedTA, tDisp, tPairs])
      have eM : (1 : Int) + (m0 : Int) = ((m0 + 1 : Nat) : Int) := by omega
      simp only [eM]
      have RM : (r0 + 1) * (m0 + 1) ≤ 12 := by
        have h1 : (r0 + 1) * (m0 + 1) ≤ (r0 + 1) * (12 / (r0 + 1)) := Nat.mul_le_mul_left (r0 + 1) hm0
        have h2 := Nat.mul_div_le 12 (r0 + 1)
        omega
      refine ⟨b, m0 + 1, rfl, ⟨by omega, by omega⟩, hb4, fun H5 t xs ps s5 hb5 ht0 ht hps hgp hln => ?_⟩
      (try simp only [tVar, tC, tOp, tUn, rI, rI0, rU, rEq, rNe, scal, tTest, tB, tAnd, tOr, tNot, tAndV, tOrV, tNotV, tIf, tChain, tNil, tCons, tCB, tCall, tTup, tLst, tRet, tRetN, tDrop, tSeq, tNext, tIfS, tAsg, gName, tPar, tPar3, gNil, gCons, gTup, gSub, tAug, tSl, tNoPart, tPart, tBM, tBM0, tYes, tIsP, iSeq, iEnumA, RZ.iZipA, iRng1, iRng2, iList, iTup, rIsi, rIsB, rIxL, rIxT, rIxA, rLenA, rListOf, rTupOf, rSetL, rSlL, rCat, rAppend, tFld, sFld, tMake, tBits, Int.ofNat_inj, cast1, cast0, TruV, cxOf, Cx.nox, Cx.wish, tNever, tBreak, tCont, ipI, tDIn, tDNotIn, sDPut, tDNewT, tDNewK, tDGet, rSortedPO, rSortedI, rIn, rEqD, rNeD, rInD, rNotInD, tSSet, rIsV, rIntI, rIntB, rAbsN, tLstRg, tRg1, tRg2, List.append_nil, List.nil_append, List.cons_append, Option.some.injEq, exists_eq_left', exists_eq_left, exists_eq_right, exists_eq_right', List.getElem?_cons_zero, List.getElem?_cons_succ, List.set_cons_zero, List.set_cons_succ, List.cons.injEq, and_true, true_and, exists_and_left, exists_and_right, and_assoc, V.int.injEq, V.bl.injEq, V.ref.injEq, V.str.injEq, reduceCtorEq, decide_true, decide_false, Bool.not_true, Bool.not_false, Bool.false_eq_true, if_false, if_true, ite_true, ite_false, List.length_cons, List.length_nil, tRaise, tErr, LamX.tLam, TTe, rSortedIA, rSortedTA, tDisp, tPairs])
      refine ⟨b, t, xs, rfl, hb5, .inl (.of (hbx_le _ _ _ _ ht)), by rw [hps.len]; omega, fun H6 p ys s6 hb6 hp0 ep pm => ?_⟩
      (try simp only [tVar, tC, tOp, tUn, rI, rI0, rU, rEq, rNe, scal, tTest, tB, tAnd, tOr, tNot, tAndV, tOrV, tNotV, tIf, tChain, tNil, tCons, tCB, tCall, tTup, tLst, tRet, tRetN, tDrop, tSeq, tNext, tIfS, tAsg, gName, tPar, tPar3, gNil, gCons, gTup, gSub, tAug, tSl, tNoPart, tPart, tBM, tBM0, tYes, tIsP, iSeq, iEnumA, RZ.iZipA, iRng1, iRng2, iList, iTup, rIsi, rIsB, rIxL, rIxT, rIxA, rLenA, rListOf, rTupOf, rSetL, rSlL, rCat, rAppend, tFld, sFld, tMake, tBits, Int.ofNat_inj, cast1, cast0, TruV, cxOf, Cx.nox, Cx.wish, tNever, tBreak, tCont, ipI, tDIn, tDNotIn, sDPut, tDNewT, tDNewK, tDGet, rSortedPO, rSortedI, rIn, rEqD, rNeD, rInD, rNotInD, tSSet, rIsV, rIntI, rIntB, rAbsN, tLstRg, tRg1, tRg2, List.append_nil, List.nil_append, List.cons_append, Option.some.injEq, exists_eq_left', exists_eq_left, exists_eq_right, exists_eq_right', List.getElem?_cons_zero, List.getElem?_cons_succ, List.set_cons_zero, List.set_cons_succ, List.cons.injEq, and_true, true_and, exists_and_left, exists_and_right, and_assoc, V.int.injEq, V.bl.injEq, V.ref.injEq, V.str.injEq, reduceCtorEq, decide_true, decide_false, Bool.not_true, Bool.not_false, Bool.false_eq_true, if_false, if_true, ite_true, ite_false, List.length_cons, List.length_nil, tRaise, tErr, LamX.tLam, TTe, rSortedIA, rSortedTA, tDisp, tPairs])
      obtain ⟨hys, pm2⟩ := sort_prs (hps.same s6) pm
      have g2 : GoodPairs (m0 + 1) (decs (hbx b H6) ys) := ⟨pm2.nodup_iff.mpr hgp.1, fun p hp => hgp.2 p (pm2.mem_iff.mp hp)⟩
      refine ⟨r0 + 1, m0 + 1, p, ys, _, rfl, ⟨by omega, by omega, by omega, by omega, RM⟩, .inl (.of (hbx_le _ _ _ _ ep)), hys.same (hbx_le b H6), g2, by rw [pm2.length_eq]; omega, fun H7 k qs s7 hk hpm hsrt => ?_⟩
      have eqs : qs = spread (r0 + 1) (m0 + 1) ps := sort_uniq hsrt (lexle_of (spread_plt hln.2 hgp.2 _)) (hpm.trans (spread_perm pm2))
      subst eqs
      have tb7 : LamX.Tabs [(Pt, lamQ)] H7 := (hb5.tabs (hb4.tabs (hb3.tabs (hb2.tabs tb2 s3) s4) s5) s6).ext s7
      have v57 : Same (vis b H5) (vis b H7) := (vis_bx s6).trans (hb6.visM s7)
      have ht5 : vis b H5 t = some (.lst xs) := nt_at ht fun ps z => nomatch z
      have hps5 : Prs (vis b H5) xs ps := Paired.mapP hps fun _ _ ⟨a, e1, e2⟩ => ⟨a, e1, nt_at e2 fun ps z => nomatch z⟩
      refine p1 _ H7 (r0 + 1) (m0 + 1) k t xs ps _ _ _ _ _ _ _ _ _ _ _ _ (by omega) (by omega) (by omega) (by omega) RM (hb6.same s7) tb7 (hk.vis (hb6.same s7)) (v57 _ _ ht5) (hps5.same v57) hgp hln.2 rfl fun H' z3 z4 z5 z6 z7 z8 z9 z10 z11 z12 z13 z14 z15 z16 z17 z18 hb' tb' => ?_
      show Pv (i + 1) _ _
      rw [hPv]
      exact ⟨⟨_, _, _, _, _, _, _, _, _, _, _, _, _, _, _, _, _, rfl⟩, hb', tb'⟩
    · intro σ' H2 hh
      rw [hPv] at hh
      (try simp only [tVar, tC, tOp, tUn, rI, rI0, rU, rEq, rNe, scal, tTest, tB, tAnd, tOr, tNot, tAndV, tOrV, tNotV, tIf, tChain, tNil, tCons, tCB, tCall, tTup, tLst, tRet, tRetN, tDrop, tSeq, tNext, tIfS, tAsg, gName, tPar, tPar3, gNil, gCons, gTup, gSub, tAug, tSl, tNoPart, tPart, tBM, tBM0, tYes, tIsP, iSeq, iEnumA, RZ.iZipA, iRng1, iRng2, iList, iTup, rIsi, rIsB, rIxL, rIxT, rIxA, rLenA, rListOf, rTupOf, rSetL, rSlL, rCat, rAppend, tFld, sFld, tMake, tBits, Int.ofNat_inj, cast1, cast0, TruV, cxOf, Cx.nox, Cx.wish, tNever, tBreak, tCont, ipI, tDIn, tDNotIn, sDPut, tDNewT, tDNewK, tDGet, rSortedPO, rSortedI, rIn, rEqD, rNeD, rInD, rNotInD, tSSet, rIsV, rIntI, rIntB, rAbsN, tLstRg, tRg1, tRg2, List.append_nil, List.nil_append, List.cons_append, Option.some.injEq, exists_eq_left', exists_eq_left, exists_eq_right, exists_eq_right', List.getElem?_cons_zero, List.getElem?_cons_succ, List.set_cons_zero, List.set_cons_succ, List.cons.injEq, and_true, true_and, exists_and_left, exists_and_right, and_assoc, V.int.injEq, V.bl.injEq, V.ref.injEq, V.str.injEq, reduceCtorEq, decide_true, decide_false, Bool.not_true, Bool.not_false, Bool.false_eq_true, if_false, if_true, ite_true, ite_false, List.length_cons, List.length_nil, tRaise, tErr, LamX.tLam, TTe, rSortedIA, rSortedTA, tDisp, tPairs])
      exact q _
end
end Kr
namespace Kr
open PySem PySem.Spec PyProof.Rows L2 Kb
theorem along_of {K : PySem.W.Frag} {C : Addr} {oc : Value} {od : Option Addr} {cd : ClassData} {sl : Array (Option Value)} {l : List Value} {name : Str} {r : Option Value} (h1 : K.lookup C = some ⟨oc, od, .cls cd, sl⟩) (h2 : cd.mro = l) (h3 : PySem.W.findIn K (.ref C) name = some r) : PySem.W.alongIn K name l = some r := by
  unfold PySem.W.findIn at h3
  simp only [h1] at h3
  rw [← h2]
  exact h3
theorem init_InvalidClashes : Kx.IsInit (Str.ofString "at") s_InvalidClashes___init__ := ⟨_, _, _, _, _, _, _, _, _, _, _, _, _, rfl, rfl, rfl, fun env => ⟨_, rfl⟩⟩
theorem init_InvalidSize : Kx.IsInit (Str.ofString "word") s_InvalidSize___init__ := ⟨_, _, _, _, _, _, _, _, _, _, _, _, _, rfl, rfl, rfl, fun env => ⟨_, rfl⟩⟩
theorem all_mk {P : Program} {w : World} {K : PySem.W.Frag} {h : Heap} {mg : Str → Option Value} {fa : Addr} (X : K.In h) (G : h.Ns mainGlobals mg) (hfa : mg "law" = some (.ref fa)) (own : LamX.OwnTab K fa h)
    {c_RuleError : Addr}
    {c_Keys : Addr}
    {c_InvalidSize : Addr}
    {c_InvalidClashes : Addr}
    {f1 : Addr} {od1 an1 : Option Addr} {sl1 : Array (Option Value)} {oc1 kV1 dc1 pm1 ct1 : Value}
    {f2 : Addr} {od2 an2 : Option Addr} {sl2 : Array (Option Value)} {oc2 kV2 dc2 pm2 ct2 : Value}
    {f3 : Addr} {od3 an3 : Option Addr} {sl3 : Array (Option Value)} {oc3 kV3 dc3 pm3 cd3 ct3 : Value}
    {f4 : Addr} {od4 an4 : Option Addr} {sl4 : Array (Option Value)} {oc4 kV4 dc4 pm4 cd4 ct4 : Value}
    {f5 : Addr} {od5 an5 : Option Addr} {sl5 : Array (Option Value)} {oc5 kV5 dc5 pm5 cd5 ct5 : Value}
    {f6 : Addr} {od6 an6 : Option Addr} {sl6 : Array (Option Value)} {oc6 kV6 dc6 pm6 cd6 ct6 : Value}
    {f7 : Addr} {od7 an7 : Option Addr} {sl7 : Array (Option Value)} {oc7 kV7 dc7 pm7 cd7 ct7 : Value}
    {f8 : Addr} {od8 an8 : Option Addr} {sl8 : Array (Option Value)} {oc8 kV8 dc8 pm8 cd8 ct8 : Value}
    {f9 : Addr} {od9 an9 : Option Addr} {sl9 : Array (Option Value)} {oc9 kV9 dc9 pm9 cd9 ct9 : Value}
    {f10 : Addr} {od10 an10 : Option Addr} {sl10 : Array (Option Value)} {oc10 kV10 dc10 pm10 cd10 ct10 : Value}
    {f11 : Addr} {od11 an11 : Option Addr} {sl11 : Array (Option Value)} {oc11 kV11 dc11 pm11 cd11 ct11 : Value}
    {f12 : Addr} {od12 an12 : Option Addr} {sl12 : Array (Option Value)} {oc12 kV12 dc12 pm12 cd12 ct12 : Value}
    {f13 : Addr} {od13 an13 : Option Addr} {sl13 : Array (Option Value)} {oc13 kV13 dc13 pm13 cd13 ct13 : Value}
    {f14 : Addr} {od14 an14 : Option Addr} {sl14 : Array (Option Value)} {oc14 kV14 dc14 pm14 cd14 ct14 : Value}
    {f15 : Addr} {od15 an15 : Option Addr} {sl15 : Array (Option Value)} {oc15 kV15 dc15 pm15 cd15 ct15 : Value}
    {f16 : Addr} {od16 an16 : Option Addr} {sl16 : Array (Option Value)} {oc16 kV16 dc16 pm16 cd16 ct16 : Value}
    {f17 : Addr} {od17 an17 : Option Addr} {sl17 : Array (Option Value)} {oc17 kV17 dc17 pm17 cd17 ct17 : Value}
    {f18 : Addr} {od18 an18 : Option Addr} {sl18 : Array (Option Value)} {oc18 kV18 dc18 pm18 cd18 ct18 : Value}
    {f19 : Addr} {od19 an19 : Option Addr} {sl19 : Array (Option Value)} {oc19 kV19 dc19 pm19 cd19 ct19 : Value}
    {f20 : Addr} {od20 an20 : Option Addr} {sl20 : Array (Option Value)} {oc20 kV20 dc20 pm20 cd20 ct20 : Value}
    {f21 : Addr} {od21 an21 : Option Addr} {sl21 : Array (Option Value)} {oc21 kV21 dc21 pm21 cd21 ct21 : Value}
    {f22 : Addr} {od22 an22 : Option Addr} {sl22 : Array (Option Value)} {oc22 kV22 dc22 pm22 cd22 ct22 : Value}
    {f23 : Addr} {od23 an23 : Option Addr} {sl23 : Array (Option Value)} {oc23 kV23 dc23 pm23 cd23 ct23 : Value}
    {f24 : Addr} {od24 an24 : Option Addr} {sl24 : Array (Option Value)} {oc24 kV24 dc24 pm24 cd24 ct24 : Value}
    {f25 : Addr} {od25 an25 : Option Addr} {sl25 : Array (Option Value)} {oc25 kV25 dc25 pm25 cd25 ct25 : Value}
    {f26 : Addr} {od26 an26 : Option Addr} {sl26 : Array (Option Value)} {oc26 kV26 dc26 pm26 cd26 ct26 : Value}
    {f27 : Addr} {od27 an27 : Option Addr} {sl27 : Array (Option Value)} {oc27 kV27 dc27 pm27 cd27 ct27 : Value}
    {f28 : Addr} {od28 an28 : Option Addr} {sl28 : Array (Option Value)} {oc28 kV28 dc28 pm28 cd28 ct28 : Value}
    {f29 : Addr} {od29 an29 : Option Addr} {sl29 : Array (Option Value)} {oc29 kV29 dc29 pm29 ct29 : Value}
    {cdL PtL : Addr} {eL : Value} {ddL : Option Addr} {vsL : Array Value} {slL : Array (Option Value)}
    {ne_InvalidClashes qe_InvalidClashes : Str} {Ne_InvalidClashes : Addr} {be_InvalidClashes : List Value} {sn_InvalidClashes : List Str} {su_InvalidClashes : List Value} {ab_InvalidClashes : Bool} {co_InvalidClashes : Option Bool} {dd_InvalidClashes : Option Addr} {m0_InvalidClashes m1_InvalidClashes m2_InvalidClashes m3_InvalidClashes m5_InvalidClashes : Option Value}
    {cda_InvalidClashes cc_InvalidClashes : Addr} {cl_InvalidClashes ccl_InvalidClashes : Value} {cld_InvalidClashes cdd_InvalidClashes : Option Addr} {csl_InvalidClashes ccs_InvalidClashes : Array (Option Value)} {vs_InvalidClashes : Array Value} {fi_InvalidClashes : Str} {tf_InvalidClashes : Tok}
    {ocB_RuleError : Value} {odB_RuleError : Option Addr} {cdB_RuleError : ClassData} {slB_RuleError : Array (Option Value)}
    {ne_InvalidSize qe_InvalidSize : Str} {Ne_InvalidSize : Addr} {be_InvalidSize : List Value} {sn_InvalidSize : List Str} {su_InvalidSize : List Value} {ab_InvalidSize : Bool} {co_InvalidSize : Option Bool} {dd_InvalidSize : Option Addr} {m0_InvalidSize m1_InvalidSize m2_InvalidSize m3_InvalidSize m5_InvalidSize : Option Value}
    {cda_InvalidSize cc_InvalidSize : Addr} {cl_InvalidSize ccl_InvalidSize : Value} {cld_InvalidSize cdd_InvalidSize : Option Addr} {csl_InvalidSize ccs_InvalidSize : Array (Option Value)} {vs_InvalidSize : Array Value} {fi_InvalidSize : Str} {tf_InvalidSize : Tok}
    {t_MOST_KEYS : Tok}
    (aC_RuleError : PySem.W.nsIn K mainGlobals "RuleError" = some (some (.ref c_RuleError)))
    (aC_Keys : PySem.W.nsIn K mainGlobals "Keys" = some (some (.ref c_Keys)))
    (aC_InvalidSize : PySem.W.nsIn K mainGlobals "InvalidSize" = some (some (.ref c_InvalidSize)))
    (aC_InvalidClashes : PySem.W.nsIn K mainGlobals "InvalidClashes" = some (some (.ref c_InvalidClashes)))
    (a1 : PySem.W.findIn K (.ref c_InvalidClashes) "__init__" = some (some (.ref f1)))
    (i1 : PySem.W.isFn K (.ref f1) = true)
    (l1 : K.lookup f1 = some ⟨oc1, od1, .func (PySem.W.ksFn "__init__" "InvalidClashes.__init__" (L2.defArgs s_InvalidClashes___init__) (L2.defBody s_InvalidClashes___init__) (L2.defScope s_InvalidClashes___init__) .none kV1 dc1 pm1 an1 (.ref cda_InvalidClashes) ct1 cc_InvalidClashes), sl1⟩)
    (c1 : PySem.W.codeIn K (.ref cda_InvalidClashes) "InvalidClashes.__init__" = true)
    (a2 : PySem.W.findIn K (.ref c_InvalidSize) "__init__" = some (some (.ref f2)))
    (i2 : PySem.W.isFn K (.ref f2) = true)
    (l2 : K.lookup f2 = some ⟨oc2, od2, .func (PySem.W.ksFn "__init__" "InvalidSize.__init__" (L2.defArgs s_InvalidSize___init__) (L2.defBody s_InvalidSize___init__) (L2.defScope s_InvalidSize___init__) .none kV2 dc2 pm2 an2 (.ref cda_InvalidSize) ct2 cc_InvalidSize), sl2⟩)
    (c2 : PySem.W.codeIn K (.ref cda_InvalidSize) "InvalidSize.__init__" = true)
    (a3 : PySem.W.nsIn K mainGlobals "is_integer" = some (some (.ref f3)))
    (l3 : K.lookup f3 = some ⟨oc3, od3, .func (PySem.W.fnOf "is_integer" "is_integer" (defArgs s_is_integer) (defBody s_is_integer) (defScope s_is_integer) .none kV3 dc3 pm3 an3 cd3 ct3), sl3⟩)
    (c3 : PySem.W.codeIn K cd3 "is_integer" = true)
    (k3 : PySem.W.keepIn K (.ref f3) = true)
    (a4 : PySem.W.nsIn K mainGlobals "is_below" = some (some (.ref f4)))
    (l4 : K.lookup f4 = some ⟨oc4, od4, .func (PySem.W.fnOf "is_below" "is_below" (defArgs s_is_below) (defBody s_is_below) (defScope s_is_below) .none kV4 dc4 pm4 an4 cd4 ct4), sl4⟩)
    (c4 : PySem.W.codeIn K cd4 "is_below" = true)
    (k4 : PySem.W.keepIn K (.ref f4) = true)
    (a5 : PySem.W.nsIn K mainGlobals "is_between" = some (some (.ref f5)))
    (l5 : K.lookup f5 = some ⟨oc5, od5, .func (PySem.W.fnOf "is_between" "is_between" (defArgs s_is_between) (defBody s_is_between) (defScope s_is_between) .none kV5 dc5 pm5 an5 cd5 ct5), sl5⟩)
    (c5 : PySem.W.codeIn K cd5 "is_between" = true)
    (k5 : PySem.W.keepIn K (.ref f5) = true)
    (a6 : PySem.W.nsIn K mainGlobals "is_sequence" = some (some (.ref f6)))
    (l6 : K.lookup f6 = some ⟨oc6, od6, .func (PySem.W.fnOf "is_sequence" "is_sequence" (defArgs s_is_sequence) (defBody s_is_sequence) (defScope s_is_sequence) .none kV6 dc6 pm6 an6 cd6 ct6), sl6⟩)
    (c6 : PySem.W.codeIn K cd6 "is_sequence" = true)
    (k6 : PySem.W.keepIn K (.ref f6) = true)
    (a7 : PySem.W.nsIn K mainGlobals "is_row" = some (some (.ref f7)))
    (l7 : K.lookup f7 = some ⟨oc7, od7, .func (PySem.W.fnOf "is_row" "is_row" (defArgs s_is_row) (defBody s_is_row) (defScope s_is_row) .none kV7 dc7 pm7 an7 cd7 ct7), sl7⟩)
    (c7 : PySem.W.codeIn K cd7 "is_row" = true)
    (k7 : PySem.W.keepIn K (.ref f7) = true)
    (a8 : PySem.W.nsIn K mainGlobals "lot_of" = some (some (.ref f8)))
    (l8 : K.lookup f8 = some ⟨oc8, od8, .func (PySem.W.fnOf "lot_of" "lot_of" (defArgs s_lot_of) (defBody s_lot_of) (defScope s_lot_of) .none kV8 dc8 pm8 an8 cd8 ct8), sl8⟩)
    (c8 : PySem.W.codeIn K cd8 "lot_of" = true)
    (k8 : PySem.W.keepIn K (.ref f8) = true)
    (a9 : PySem.W.findIn K (.ref c_Keys) "__init__" = some (some (.ref f9)))
    (i9 : PySem.W.isFn K (.ref f9) = true)
    (l9 : K.lookup f9 = some ⟨oc9, od9, .func (PySem.W.fnOf "__init__" "Keys.__init__" (defArgs s_Keys___init__) (defBody s_Keys___init__) (defScope s_Keys___init__) .none kV9 dc9 pm9 an9 cd9 ct9), sl9⟩)
    (c9 : PySem.W.codeIn K cd9 "Keys.__init__" = true)
    (k9 : PySem.W.keepIn K (.ref f9) = true)
    (a10 : PySem.W.nsIn K mainGlobals "need_count" = some (some (.ref f10)))
    (l10 : K.lookup f10 = some ⟨oc10, od10, .func (PySem.W.fnOf "need_count" "need_count" (defArgs s_need_count) (defBody s_need_count) (defScope s_need_count) .none kV10 dc10 pm10 an10 cd10 ct10), sl10⟩)
    (c10 : PySem.W.codeIn K cd10 "need_count" = true)
    (k10 : PySem.W.keepIn K (.ref f10) = true)
    (a11 : PySem.W.nsIn K mainGlobals "told_clashes" = some (some (.ref f11)))
    (l11 : K.lookup f11 = some ⟨oc11, od11, .func (PySem.W.fnOf "told_clashes" "told_clashes" (defArgs s_told_clashes) (defBody s_told_clashes) (defScope s_told_clashes) .none kV11 dc11 pm11 an11 cd11 ct11), sl11⟩)
    (c11 : PySem.W.codeIn K cd11 "told_clashes" = true)
    (k11 : PySem.W.keepIn K (.ref f11) = true)
    (a12 : PySem.W.nsIn K mainGlobals "need_keys" = some (some (.ref f12)))
    (l12 : K.lookup f12 = some ⟨oc12, od12, .func (PySem.W.fnOf "need_keys" "need_keys" (defArgs s_need_keys) (defBody s_need_keys) (defScope s_need_keys) .none kV12 dc12 pm12 an12 cd12 ct12), sl12⟩)
    (c12 : PySem.W.codeIn K cd12 "need_keys" = true)
    (k12 : PySem.W.keepIn K (.ref f12) = true)
    (a13 : PySem.W.nsIn K mainGlobals "need_key" = some (some (.ref f13)))
    (l13 : K.lookup f13 = some ⟨oc13, od13, .func (PySem.W.fnOf "need_key" "need_key" (defArgs s_need_key) (defBody s_need_key) (defScope s_need_key) .none kV13 dc13 pm13 an13 cd13 ct13), sl13⟩)
    (c13 : PySem.W.codeIn K cd13 "need_key" = true)
    (k13 : PySem.W.keepIn K (.ref f13) = true)
    (a14 : PySem.W.nsIn K mainGlobals "near_masks" = some (some (.ref f14)))
    (l14 : K.lookup f14 = some ⟨oc14, od14, .func (PySem.W.fnOf "near_masks" "near_masks" (defArgs s_near_masks) (defBody s_near_masks) (defScope s_near_masks) .none kV14 dc14 pm14 an14 cd14 ct14), sl14⟩)
    (c14 : PySem.W.codeIn K cd14 "near_masks" = true)
    (k14 : PySem.W.keepIn K (.ref f14) = true)
    (a15 : PySem.W.nsIn K mainGlobals "near_of" = some (some (.ref f15)))
    (l15 : K.lookup f15 = some ⟨oc15, od15, .func (PySem.W.fnOf "near_of" "near_of" (defArgs s_near_of) (defBody s_near_of) (defScope s_near_of) .none kV15 dc15 pm15 an15 cd15 ct15), sl15⟩)
    (c15 : PySem.W.codeIn K cd15 "near_of" = true)
    (k15 : PySem.W.keepIn K (.ref f15) = true)
    (a16 : PySem.W.nsIn K mainGlobals "clash" = some (some (.ref f16)))
    (l16 : K.lookup f16 = some ⟨oc16, od16, .func (PySem.W.fnOf "clash" "clash" (defArgs s_clash) (defBody s_clash) (defScope s_clash) .none kV16 dc16 pm16 an16 cd16 ct16), sl16⟩)
    (c16 : PySem.W.codeIn K cd16 "clash" = true)
    (k16 : PySem.W.keepIn K (.ref f16) = true)
    (a17 : PySem.W.nsIn K mainGlobals "roomed" = some (some (.ref f17)))
    (l17 : K.lookup f17 = some ⟨oc17, od17, .func (PySem.W.fnOf "roomed" "roomed" (defArgs s_roomed) (defBody s_roomed) (defScope s_roomed) .none kV17 dc17 pm17 an17 cd17 ct17), sl17⟩)
    (c17 : PySem.W.codeIn K cd17 "roomed" = true)
    (k17 : PySem.W.keepIn K (.ref f17) = true)
    (a18 : PySem.W.nsIn K mainGlobals "part_of" = some (some (.ref f18)))
    (l18 : K.lookup f18 = some ⟨oc18, od18, .func (PySem.W.fnOf "part_of" "part_of" (defArgs s_part_of) (defBody s_part_of) (defScope s_part_of) .none kV18 dc18 pm18 an18 cd18 ct18), sl18⟩)
    (c18 : PySem.W.codeIn K cd18 "part_of" = true)
    (k18 : PySem.W.keepIn K (.ref f18) = true)
    (a19 : PySem.W.nsIn K mainGlobals "room_parts" = some (some (.ref f19)))
    (l19 : K.lookup f19 = some ⟨oc19, od19, .func (PySem.W.fnOf "room_parts" "room_parts" (defArgs s_room_parts) (defBody s_room_parts) (defScope s_room_parts) .none kV19 dc19 pm19 an19 cd19 ct19), sl19⟩)
    (c19 : PySem.W.codeIn K cd19 "room_parts" = true)
    (k19 : PySem.W.keepIn K (.ref f19) = true)
    (a20 : PySem.W.nsIn K mainGlobals "_law_box" = some (some (.ref f20)))
    (l20 : K.lookup f20 = some ⟨oc20, od20, .func (PySem.W.fnOf "_law_box" "_law_box" (defArgs s__law_box) (defBody s__law_box) (defScope s__law_box) .none kV20 dc20 pm20 an20 cd20 ct20), sl20⟩)
    (c20 : PySem.W.codeIn K cd20 "_law_box" = true)
    (k20 : PySem.W.keepIn K (.ref f20) = true)
    (a21 : PySem.W.nsIn K mainGlobals "_law_take" = some (some (.ref f21)))
    (l21 : K.lookup f21 = some ⟨oc21, od21, .func (PySem.W.fnOf "_law_take" "_law_take" (defArgs s__law_take) (defBody s__law_take) (defScope s__law_take) .none kV21 dc21 pm21 an21 cd21 ct21), sl21⟩)
    (c21 : PySem.W.codeIn K cd21 "_law_take" = true)
    (k21 : PySem.W.keepIn K (.ref f21) = true)
    (a22 : PySem.W.nsIn K mainGlobals "_law_mixed" = some (some (.ref f22)))
    (l22 : K.lookup f22 = some ⟨oc22, od22, .func (PySem.W.fnOf "_law_mixed" "_law_mixed" (defArgs s__law_mixed) (defBody s__law_mixed) (defScope s__law_mixed) .none kV22 dc22 pm22 an22 cd22 ct22), sl22⟩)
    (c22 : PySem.W.codeIn K cd22 "_law_mixed" = true)
    (k22 : PySem.W.keepIn K (.ref f22) = true)
    (a23 : PySem.W.nsIn K mainGlobals "_law_is" = some (some (.ref f23)))
    (l23 : K.lookup f23 = some ⟨oc23, od23, .func (PySem.W.fnOf "_law_is" "_law_is" (defArgs s__law_is) (defBody s__law_is) (defScope s__law_is) .none kV23 dc23 pm23 an23 cd23 ct23), sl23⟩)
    (c23 : PySem.W.codeIn K cd23 "_law_is" = true)
    (k23 : PySem.W.keepIn K (.ref f23) = true)
    (a24 : PySem.W.nsIn K mainGlobals "_law_error" = some (some (.ref f24)))
    (l24 : K.lookup f24 = some ⟨oc24, od24, .func (PySem.W.fnOf "_law_error" "_law_error" (defArgs s__law_error) (defBody s__law_error) (defScope s__law_error) .none kV24 dc24 pm24 an24 cd24 ct24), sl24⟩)
    (c24 : PySem.W.codeIn K cd24 "_law_error" = true)
    (k24 : PySem.W.keepIn K (.ref f24) = true)
    (a25 : PySem.W.nsIn K mainGlobals "_law_mask" = some (some (.ref f25)))
    (l25 : K.lookup f25 = some ⟨oc25, od25, .func (PySem.W.fnOf "_law_mask" "_law_mask" (defArgs s__law_mask) (defBody s__law_mask) (defScope s__law_mask) .none kV25 dc25 pm25 an25 cd25 ct25), sl25⟩)
    (c25 : PySem.W.codeIn K cd25 "_law_mask" = true)
    (k25 : PySem.W.keepIn K (.ref f25) = true)
    (a26 : PySem.W.nsIn K mainGlobals "_law_near" = some (some (.ref f26)))
    (l26 : K.lookup f26 = some ⟨oc26, od26, .func (PySem.W.fnOf "_law_near" "_law_near" (defArgs s__law_near) (defBody s__law_near) (defScope s__law_near) .none kV26 dc26 pm26 an26 cd26 ct26), sl26⟩)
    (c26 : PySem.W.codeIn K cd26 "_law_near" = true)
    (k26 : PySem.W.keepIn K (.ref f26) = true)
    (a27 : PySem.W.nsIn K mainGlobals "_law_graph" = some (some (.ref f27)))
    (l27 : K.lookup f27 = some ⟨oc27, od27, .func (PySem.W.fnOf "_law_graph" "_law_graph" (defArgs s__law_graph) (defBody s__law_graph) (defScope s__law_graph) .none kV27 dc27 pm27 an27 cd27 ct27), sl27⟩)
    (c27 : PySem.W.codeIn K cd27 "_law_graph" = true)
    (k27 : PySem.W.keepIn K (.ref f27) = true)
    (a28 : PySem.W.nsIn K mainGlobals "_law_joined" = some (some (.ref f28)))
    (l28 : K.lookup f28 = some ⟨oc28, od28, .func (PySem.W.fnOf "_law_joined" "_law_joined" (defArgs s__law_joined) (defBody s__law_joined) (defScope s__law_joined) .none kV28 dc28 pm28 an28 cd28 ct28), sl28⟩)
    (c28 : PySem.W.codeIn K cd28 "_law_joined" = true)
    (k28 : PySem.W.keepIn K (.ref f28) = true)
    (a29 : PySem.W.nsIn K mainGlobals "law" = some (some (.ref f29)))
    (l29 : K.lookup f29 = some ⟨oc29, od29, .func (PySem.W.fnOf "law" "law" (defArgs s_law) (defBody s_law) (defScope s_law) .none kV29 dc29 pm29 an29 (.ref cdL) ct29), sl29⟩)
    (c29 : PySem.W.codeIn K (.ref cdL) "law" = true)
    (k29 : PySem.W.keepIn K (.ref f29) = true)
    (lcL : K.lookup cdL = some ⟨eL, ddL, .fields vsL, slL⟩)
    (vL : vsL[11]? = some (.ref PtL))
    (nL : K.lookup PtL = none)
    (hdL : PySem.W.codeHdIn K cdL PtL = true)
    (mk_Keys : PySem.W.makesIn K c_Keys = true)
    (kc_Keys : PySem.W.keepIn K (.ref c_Keys) = true)
    (pg_Keys : PySem.W.plainGet K c_Keys Str.empty = true)
    (hd_Keys : PySem.W.hasDictIn K c_Keys = true)
    (po_Keys : PySem.W.plainOver K c_Keys = true)
    (sa_Keys : PySem.W.findIn K (.ref c_Keys) "__setattr__" = some (some (.builtin "object.__setattr__")))
    (hna_many_Keys : PySem.W.findIn K (.ref c_Keys) "many" = some none)
    (hna_clashes_Keys : PySem.W.findIn K (.ref c_Keys) "clashes" = some none)
    (ha_Keys : PySem.W.findIn K (.ref c_Keys) "__class__" = some (some (.builtin "object.__class__")))
    (hn_Keys : PySem.W.specialIn K (.builtin "object.__class__") "__get__" = some (some (.builtin "getset_descriptor.__get__")))
    (ht_Keys : PySem.W.takesIn K (.builtin "object.__class__") = some true)
    (hm_Keys : PySem.W.mroIn K c_Keys (.type "object") = some true)
    (me_Keys : PySem.W.kitOne K (.ref c_Keys) (.ref c_Keys) = some true)
    (u_ex_SC : PySem.W.exmOne K (.ref c_InvalidSize) (.ref c_InvalidClashes) = some false)
    (u_ex_SS : PySem.W.exmOne K (.ref c_InvalidSize) (.ref c_InvalidSize) = some true)
    (u_ex_CC : PySem.W.exmOne K (.ref c_InvalidClashes) (.ref c_InvalidClashes) = some true)
    (noN_InvalidClashes : PySem.W.findIn K (.ref c_InvalidClashes) "at" = some none)
    (xga_InvalidClashes : PySem.W.findIn K (.ref c_InvalidClashes) "__getattribute__" = some (some (.builtin "BaseException.__getattribute__")))
    (xgg_InvalidClashes : PySem.W.findIn K (.ref c_InvalidClashes) "__getattr__" = some none)
    (xex_InvalidClashes : PySem.W.subIn K (.ref c_InvalidClashes) (.type "BaseException") = some true)
    (xhd_InvalidClashes : PySem.W.hasDictIn K c_InvalidClashes = true)
    (noN_InvalidSize : PySem.W.findIn K (.ref c_InvalidSize) "word" = some none)
    (xga_InvalidSize : PySem.W.findIn K (.ref c_InvalidSize) "__getattribute__" = some (some (.builtin "BaseException.__getattribute__")))
    (xgg_InvalidSize : PySem.W.findIn K (.ref c_InvalidSize) "__getattr__" = some none)
    (xex_InvalidSize : PySem.W.subIn K (.ref c_InvalidSize) (.type "BaseException") = some true)
    (xhd_InvalidSize : PySem.W.hasDictIn K c_InvalidSize = true)
    (ex_InvalidClashes : K.lookup c_InvalidClashes = some (excClassObj ne_InvalidClashes qe_InvalidClashes c_InvalidClashes Ne_InvalidClashes be_InvalidClashes [.ref c_RuleError, .type "Exception", .type "BaseException", .type "object"] true sn_InvalidClashes su_InvalidClashes ab_InvalidClashes co_InvalidClashes dd_InvalidClashes m0_InvalidClashes m1_InvalidClashes m2_InvalidClashes m3_InvalidClashes m5_InvalidClashes "Exception.__new__"))
    (exB_RuleError : K.lookup c_RuleError = some ⟨ocB_RuleError, odB_RuleError, .cls cdB_RuleError, slB_RuleError⟩)
    (mrB_RuleError : cdB_RuleError.mro = [.ref c_RuleError, .type "Exception", .type "BaseException", .type "object"])
    (fiB_RuleError : PySem.W.findIn K (.ref c_RuleError) "__init__" = some (some (.builtin "Exception.__init__")))
    (sa_InvalidClashes : PySem.W.findIn K (.ref c_InvalidClashes) "__setattr__" = some (some (.builtin "object.__setattr__")))
    (etc_InvalidClashes : PySem.W.typeIn K (.ref f1) = some (.type "function"))
    (kc_InvalidClashes : PySem.W.keepIn K (.ref c_InvalidClashes) = true)
    (exe_InvalidClashes : PySem.W.subIn K (.ref c_InvalidClashes) (.type "Exception") = some true)
    (esl_InvalidClashes : PySem.W.mroIn K c_InvalidClashes (.ref c_InvalidClashes) = some true)
    (ety_InvalidClashes : PySem.W.typeIn K (.ref c_InvalidClashes) = some (.type "type"))
    (etp : PySem.W.nsIn K cStatics "thirdparty.any" = some none)
    (ecc_InvalidClashes : K.lookup cc_InvalidClashes = some ⟨cl_InvalidClashes, cld_InvalidClashes, .cell (some (.ref c_InvalidClashes)), csl_InvalidClashes⟩)
    (ecd_InvalidClashes : K.lookup cda_InvalidClashes = some ⟨ccl_InvalidClashes, cdd_InvalidClashes, .fields vs_InvalidClashes, ccs_InvalidClashes⟩)
    (evs_InvalidClashes : vs_InvalidClashes[2]? = some (.str fi_InvalidClashes tf_InvalidClashes))
    (efi_InvalidClashes : ((P.main.file : Str) == fi_InvalidClashes) = true)
    (etop : (P.main.scope.names.lookup ("super" : Str)).isSome = false)
    (ex_InvalidSize : K.lookup c_InvalidSize = some (excClassObj ne_InvalidSize qe_InvalidSize c_InvalidSize Ne_InvalidSize be_InvalidSize [.ref c_RuleError, .type "Exception", .type "BaseException", .type "object"] true sn_InvalidSize su_InvalidSize ab_InvalidSize co_InvalidSize dd_InvalidSize m0_InvalidSize m1_InvalidSize m2_InvalidSize m3_InvalidSize m5_InvalidSize "Exception.__new__"))
    (sa_InvalidSize : PySem.W.findIn K (.ref c_InvalidSize) "__setattr__" = some (some (.builtin "object.__setattr__")))
    (etc_InvalidSize : PySem.W.typeIn K (.ref f2) = some (.type "function"))
    (kc_InvalidSize : PySem.W.keepIn K (.ref c_InvalidSize) = true)
    (exe_InvalidSize : PySem.W.subIn K (.ref c_InvalidSize) (.type "Exception") = some true)
    (esl_InvalidSize : PySem.W.mroIn K c_InvalidSize (.ref c_InvalidSize) = some true)
    (ety_InvalidSize : PySem.W.typeIn K (.ref c_InvalidSize) = some (.type "type"))
    (ecc_InvalidSize : K.lookup cc_InvalidSize = some ⟨cl_InvalidSize, cld_InvalidSize, .cell (some (.ref c_InvalidSize)), csl_InvalidSize⟩)
    (ecd_InvalidSize : K.lookup cda_InvalidSize = some ⟨ccl_InvalidSize, cdd_InvalidSize, .fields vs_InvalidSize, ccs_InvalidSize⟩)
    (evs_InvalidSize : vs_InvalidSize[2]? = some (.str fi_InvalidSize tf_InvalidSize))
    (efi_InvalidSize : ((P.main.file : Str) == fi_InvalidSize) = true)
    (q_MOST_KEYS : PySem.W.nsIn K mainGlobals "MOST_KEYS" = some (some (.int 12 t_MOST_KEYS)))
    (z_abs : PySem.W.nsIn K mainGlobals "abs" = some none)
    (z_bool : PySem.W.nsIn K mainGlobals "bool" = some none)
    (z_enumerate : PySem.W.nsIn K mainGlobals "enumerate" = some none)
    (z_int : PySem.W.nsIn K mainGlobals "int" = some none)
    (z_isinstance : PySem.W.nsIn K mainGlobals "isinstance" = some none)
    (z_len : PySem.W.nsIn K mainGlobals "len" = some none)
    (z_list : PySem.W.nsIn K mainGlobals "list" = some none)
    (z_range : PySem.W.nsIn K mainGlobals "range" = some none)
    (z_sorted : PySem.W.nsIn K mainGlobals "sorted" = some none)
    (z_str : PySem.W.nsIn K mainGlobals "str" = some none)
    (z_super : PySem.W.nsIn K mainGlobals "super" = some none)
    (z_tuple : PySem.W.nsIn K mainGlobals "tuple" = some none)
    (z_zip : PySem.W.nsIn K mainGlobals "zip" = some none) :
    ∃ (fd : FuncData) (c Pt : Addr), h.get? Pt = some { cls := .none, data := .fields #[] } ∧ K.lookup Pt = none ∧ PySem.W.CodeHd h c Pt ∧ (∀ (s : Shared) (v : Value), BindsTo s fd ⟨[v], []⟩ [("script", v)]) ∧ ∀ base : Heap, K.In base → base.Ns mainGlobals mg → LamX.TabB base mg c Pt → FnOk P w K mg base CX0 10 fa fd ["script"] (sp_lawT K Pt) := by
  have e := hfa.symm.trans (PySem.W.mg_of X G a29)
  cases e
  have F3 := fun_mk (st := s_is_integer) l3 c3 k3
  have b3 := F3.binds (ps := ["value"]) fun _ _ _ _ _ _ us hl => match us, hl with | [_], _ => rfl
  have F4 := fun_mk (st := s_is_below) l4 c4 k4
  have b4 := F4.binds (ps := ["value", "limit"]) fun _ _ _ _ _ _ us hl => match us, hl with | [_, _], _ => rfl
  have F5 := fun_mk (st := s_is_between) l5 c5 k5
  have b5 := F5.binds (ps := ["value", "least", "greatest"]) fun _ _ _ _ _ _ us hl => match us, hl with | [_, _, _], _ => rfl
  have F6 := fun_mk (st := s_is_sequence) l6 c6 k6
  have b6 := F6.binds (ps := ["value"]) fun _ _ _ _ _ _ us hl => match us, hl with | [_], _ => rfl
  have F7 := fun_mk (st := s_is_row) l7 c7 k7
  have b7 := F7.binds (ps := ["value", "many"]) fun _ _ _ _ _ _ us hl => match us, hl with | [_, _], _ => rfl
  have F8 := fun_mk (st := s_lot_of) l8 c8 k8
  have b8 := F8.binds (ps := ["mask"]) fun _ _ _ _ _ _ us hl => match us, hl with | [_], _ => rfl
  have F9 := fun_mk (st := s_Keys___init__) l9 c9 k9
  have b9 := F9.binds (ps := ["self", "many", "clashes"]) fun _ _ _ _ _ _ us hl => match us, hl with | [_, _, _], _ => rfl
  have F10 := fun_mk (st := s_need_count) l10 c10 k10
  have b10 := F10.binds (ps := ["value", "least", "greatest"]) fun _ _ _ _ _ _ us hl => match us, hl with | [_, _, _], _ => rfl
  have F11 := fun_mk (st := s_told_clashes) l11 c11 k11
  have b11 := F11.binds (ps := ["value", "many"]) fun _ _ _ _ _ _ us hl => match us, hl with | [_, _], _ => rfl
  have F12 := fun_mk (st := s_need_keys) l12 c12 k12
  have b12 := F12.binds (ps := ["value"]) fun _ _ _ _ _ _ us hl => match us, hl with | [_], _ => rfl
  have F13 := fun_mk (st := s_need_key) l13 c13 k13
  have b13 := F13.binds (ps := ["value", "many"]) fun _ _ _ _ _ _ us hl => match us, hl with | [_, _], _ => rfl
  have F14 := fun_mk (st := s_near_masks) l14 c14 k14
  have b14 := F14.binds (ps := ["keys"]) fun _ _ _ _ _ _ us hl => match us, hl with | [_], _ => rfl
  have F15 := fun_mk (st := s_near_of) l15 c15 k15
  have b15 := F15.binds (ps := ["near", "mask"]) fun _ _ _ _ _ _ us hl => match us, hl with | [_, _], _ => rfl
  have F16 := fun_mk (st := s_clash) l16 c16 k16
  have b16 := F16.binds (ps := ["keys", "first", "second"]) fun _ _ _ _ _ _ us hl => match us, hl with | [_, _, _], _ => rfl
  have F17 := fun_mk (st := s_roomed) l17 c17 k17
  have b17 := F17.binds (ps := ["rooms", "modes", "clashes"]) fun _ _ _ _ _ _ us hl => match us, hl with | [_, _, _], _ => rfl
  have F18 := fun_mk (st := s_part_of) l18 c18 k18
  have b18 := F18.binds (ps := ["near", "key"]) fun _ _ _ _ _ _ us hl => match us, hl with | [_, _], _ => rfl
  have F19 := fun_mk (st := s_room_parts) l19 c19 k19
  have b19 := F19.binds (ps := ["keys"]) fun _ _ _ _ _ _ us hl => match us, hl with | [_], _ => rfl
  have F20 := fun_mk (st := s__law_box) l20 c20 k20
  have b20 := F20.binds (ps := ["script"]) fun _ _ _ _ _ _ us hl => match us, hl with | [_], _ => rfl
  have F21 := fun_mk (st := s__law_take) l21 c21 k21
  have b21 := F21.binds (ps := ["box", "many"]) fun _ _ _ _ _ _ us hl => match us, hl with | [_, _], _ => rfl
  have F22 := fun_mk (st := s__law_mixed) l22 c22 k22
  have b22 := F22.binds (ps := ["box", "row"]) fun _ _ _ _ _ _ us hl => match us, hl with | [_, _], _ => rfl
  have F23 := fun_mk (st := s__law_is) l23 c23 k23
  have b23 := F23.binds (ps := ["told", "due"]) fun _ _ _ _ _ _ us hl => match us, hl with | [_, _], _ => rfl
  have F24 := fun_mk (st := s__law_error) l24 c24 k24
  have b24 := F24.binds (ps := ["call"]) fun _ _ _ _ _ _ us hl => match us, hl with | [_], _ => rfl
  have F25 := fun_mk (st := s__law_mask) l25 c25 k25
  have b25 := F25.binds (ps := ["lot"]) fun _ _ _ _ _ _ us hl => match us, hl with | [_], _ => rfl
  have F26 := fun_mk (st := s__law_near) l26 c26 k26
  have b26 := F26.binds (ps := ["many", "pairs"]) fun _ _ _ _ _ _ us hl => match us, hl with | [_, _], _ => rfl
  have F27 := fun_mk (st := s__law_graph) l27 c27 k27
  have b27 := F27.binds (ps := ["box", "many"]) fun _ _ _ _ _ _ us hl => match us, hl with | [_, _], _ => rfl
  have F28 := fun_mk (st := s__law_joined) l28 c28 k28
  have b28 := F28.binds (ps := ["near", "part"]) fun _ _ _ _ _ _ us hl => match us, hl with | [_, _], _ => rfl
  have F29 := fun_mk (st := s_law) l29 c29 k29
  have b29 := F29.binds (ps := ["script"]) fun _ _ _ _ _ _ us hl => match us, hl with | [_], _ => rfl
  let T : Tx P K mg := { a_InvalidClashes___init__ := f1, a_InvalidSize___init__ := f2, a_is_integer := f3, d_is_integer := _, F_is_integer := F3, b_is_integer := b3, g_is_integer := PySem.W.mg_of X G a3, a_is_below := f4, d_is_below := _, F_is_below := F4, b_is_below := b4, g_is_below := PySem.W.mg_of X G a4, a_is_between := f5, d_is_between := _, F_is_between := F5, b_is_between := b5, g_is_between := PySem.W.mg_of X G a5, a_is_sequence := f6, d_is_sequence := _, F_is_sequence := F6, b_is_sequence := b6, g_is_sequence := PySem.W.mg_of X G a6, a_is_row := f7, d_is_row := _, F_is_row := F7, b_is_row := b7, g_is_row := PySem.W.mg_of X G a7, a_lot_of := f8, d_lot_of := _, F_lot_of := F8, b_lot_of := b8, g_lot_of := PySem.W.mg_of X G a8, a_Keys___init__ := f9, d_Keys___init__ := _, F_Keys___init__ := F9, b_Keys___init__ := b9, a_need_count := f10, d_need_count := _, F_need_count := F10, b_need_count := b10, g_need_count := PySem.W.mg_of X G a10, a_told_clashes := f11, d_told_clashes := _, F_told_clashes := F11, b_told_clashes := b11, g_told_clashes := PySem.W.mg_of X G a11, a_need_keys := f12, d_need_keys := _, F_need_keys := F12, b_need_keys := b12, g_need_keys := PySem.W.mg_of X G a12, a_need_key := f13, d_need_key := _, F_need_key := F13, b_need_key := b13, g_need_key := PySem.W.mg_of X G a13, a_near_masks := f14, d_near_masks := _, F_near_masks := F14, b_near_masks := b14, g_near_masks := PySem.W.mg_of X G a14, a_near_of := f15, d_near_of := _, F_near_of := F15, b_near_of := b15, g_near_of := PySem.W.mg_of X G a15, a_clash := f16, d_clash := _, F_clash := F16, b_clash := b16, g_clash := PySem.W.mg_of X G a16, a_roomed := f17, d_roomed := _, F_roomed := F17, b_roomed := b17, g_roomed := PySem.W.mg_of X G a17, a_part_of := f18, d_part_of := _, F_part_of := F18, b_part_of := b18, g_part_of := PySem.W.mg_of X G a18, a_room_parts := f19, d_room_parts := _, F_room_parts := F19, b_room_parts := b19, g_room_parts := PySem.W.mg_of X G a19, a__law_box := f20, d__law_box := _, F__law_box := F20, b__law_box := b20, g__law_box := PySem.W.mg_of X G a20, a__law_take := f21, d__law_take := _, F__law_take := F21, b__law_take := b21, g__law_take := PySem.W.mg_of X G a21, a__law_mixed := f22, d__law_mixed := _, F__law_mixed := F22, b__law_mixed := b22, g__law_mixed := PySem.W.mg_of X G a22, a__law_is := f23, d__law_is := _, F__law_is := F23, b__law_is := b23, g__law_is := PySem.W.mg_of X G a23, a__law_error := f24, d__law_error := _, F__law_error := F24, b__law_error := b24, g__law_error := PySem.W.mg_of X G a24, a__law_mask := f25, d__law_mask := _, F__law_mask := F25, b__law_mask := b25, g__law_mask := PySem.W.mg_of X G a25, a__law_near := f26, d__law_near := _, F__law_near := F26, b__law_near := b26, g__law_near := PySem.W.mg_of X G a26, a__law_graph := f27, d__law_graph := _, F__law_graph := F27, b__law_graph := b27, g__law_graph := PySem.W.mg_of X G a27, a__law_joined := f28, d__law_joined := _, F__law_joined := F28, b__law_joined := b28, g__law_joined := PySem.W.mg_of X G a28, a_law := fa, d_law := _, F_law := F29, b_law := b29, g_law := PySem.W.mg_of X G a29, c_InvalidClashes := c_InvalidClashes, g_InvalidClashes := PySem.W.mg_of X G aC_InvalidClashes, c_InvalidSize := c_InvalidSize, g_InvalidSize := PySem.W.mg_of X G aC_InvalidSize, c_Keys := c_Keys, g_Keys := PySem.W.mg_of X G aC_Keys, m_Keys := ⟨mk_Keys, a9, i9, kc_Keys⟩, cl_Keys := ⟨pg_Keys, hd_Keys, po_Keys, sa_Keys⟩, na_many := hna_many_Keys, na_clashes := hna_clashes_Keys, ic_Keys := ⟨⟨pg_Keys, hd_Keys, po_Keys, sa_Keys⟩, ha_Keys, hn_Keys, ht_Keys, hm_Keys, me_Keys⟩, ex_SC := u_ex_SC, ex_SS := u_ex_SS, ex_CC := u_ex_CC, x_InvalidClashes := ⟨⟨xga_InvalidClashes, xgg_InvalidClashes, xex_InvalidClashes, xhd_InvalidClashes⟩, noN_InvalidClashes, PySem.W.mg_of X G aC_InvalidClashes⟩, x_InvalidSize := ⟨⟨xga_InvalidSize, xgg_InvalidSize, xex_InvalidSize, xhd_InvalidSize⟩, noN_InvalidSize, PySem.W.mg_of X G aC_InvalidSize⟩, e_InvalidClashes := { hf := Or.inl rfl, tx := init_InvalidClashes, cls := ⟨_, _, _, _, [c_RuleError], _, _, _, _, _, _, _, _, _, _, ex_InvalidClashes, along_of exB_RuleError mrB_RuleError fiB_RuleError⟩, sa := sa_InvalidClashes, noN := noN_InvalidClashes, iC := a1, tC := etc_InvalidClashes, kC := kc_InvalidClashes, exC := xex_InvalidClashes, exE := exe_InvalidClashes, self := esl_InvalidClashes, tyC := ety_InvalidClashes, tp := etp, fn := ⟨_, _, _, _, _, _, _, _, _, _, _, l1, c1, ⟨_, _, _, ecc_InvalidClashes⟩, _, _, _, _, _, _, ecd_InvalidClashes, evs_InvalidClashes, efi_InvalidClashes⟩, top := etop }, e_InvalidSize := { hf := Or.inr rfl, tx := init_InvalidSize, cls := ⟨_, _, _, _, [c_RuleError], _, _, _, _, _, _, _, _, _, _, ex_InvalidSize, along_of exB_RuleError mrB_RuleError fiB_RuleError⟩, sa := sa_InvalidSize, noN := noN_InvalidSize, iC := a2, tC := etc_InvalidSize, kC := kc_InvalidSize, exC := xex_InvalidSize, exE := exe_InvalidSize, self := esl_InvalidSize, tyC := ety_InvalidSize, tp := etp, fn := ⟨_, _, _, _, _, _, _, _, _, _, _, l2, c2, ⟨_, _, _, ecc_InvalidSize⟩, _, _, _, _, _, _, ecd_InvalidSize, evs_InvalidSize, efi_InvalidSize⟩, top := etop }, g_MOST_KEYS := ⟨_, PySem.W.mg_of X G q_MOST_KEYS⟩, n_abs := PySem.W.mg_none_of X G z_abs, n_bool := PySem.W.mg_none_of X G z_bool, n_enumerate := PySem.W.mg_none_of X G z_enumerate, n_int := PySem.W.mg_none_of X G z_int, n_isinstance := PySem.W.mg_none_of X G z_isinstance, n_len := PySem.W.mg_none_of X G z_len, n_list := PySem.W.mg_none_of X G z_list, n_range := PySem.W.mg_none_of X G z_range, n_sorted := PySem.W.mg_none_of X G z_sorted, n_str := PySem.W.mg_none_of X G z_str, n_super := PySem.W.mg_none_of X G z_super, n_tuple := PySem.W.mg_none_of X G z_tuple, n_zip := PySem.W.mg_none_of X G z_zip }
  exact ⟨PySem.W.fnOf "law" "law" (defArgs s_law) (defBody s_law) (defScope s_law) .none kV29 dc29 pm29 an29 (.ref cdL) ct29, cdL, PtL, own _ _ _ _ _ _ _ _ l29 rfl rfl lcL vL, nL, PySem.W.codeHd_of_K X hdL, fun s v => .of_eq rfl, fun base _ _ TB => ok_law T l29 c29 TB⟩
end Kr
open PySem PySem.W PyProof.Rows
set_option maxHeartbeats 0 in
theorem PySem.Challenge.cw_keyrules_k03_rooms_with_modes_and_parts_holds : PySem.Challenge.rw_keyrules_k03_rooms_with_modes_and_parts.Holds := by
  w_on; o_law; k_head; (case hw => w_witness2)
  k_fill
  refine LamX.walk_ofOwn (l := PySem.Challenge.rw_keyrules_k03_rooms_with_modes_and_parts) (n := 63) (k := 10) (x := "script") (CX := fun _ => L2.CX0) rfl (by decide) rfl ⟨rfl, by decide, by decide⟩ (by decide +kernel) (fun w h Y => PySem.W.km_in_of Y) ?F (fun _ _ _ _ _ h => h)
  case F =>
    intro w mg fa h Y KX G hmg hown
    have hm2 : mg "law" = some (.ref fa) := hmg
    clear hmg
    have fin : ∀ {K : PySem.W.Frag}, (∃ (fd : FuncData) (c Pt : Addr), h.get? Pt = some { cls := .none, data := .fields #[] } ∧ K.lookup Pt = none ∧ PySem.W.CodeHd h c Pt ∧ (∀ (s : Shared) (v : Value), PySem.BindsTo s fd ⟨[v], []⟩ [("script", v)]) ∧ ∀ base : Heap, K.In base → base.Ns mainGlobals mg → LamX.TabB base mg c Pt → L2.FnOk PySem.Challenge.rw_keyrules_k03_rooms_with_modes_and_parts.prog w K mg base L2.CX0 10 fa fd ["script"] (Kr.sp_lawT K Pt)) → LamX.LawAtS PySem.Challenge.rw_keyrules_k03_rooms_with_modes_and_parts w K L2.CX0 10 63 "script" mg fa h := by
      rintro K ⟨fd, c, Pt, h1, h2, h3, h4, h5⟩
      exact ⟨fd, [(c, Pt)], Kr.sp_lawT K Pt, fun p hp => by rw [List.mem_singleton.mp hp]; exact h1, fun p hp => by rw [List.mem_singleton.mp hp]; exact h2, fun p hp => by rw [List.mem_singleton.mp hp]; exact h3, h4,
        fun H a ns hl _ hT hS => ⟨a, ns, rfl, hS, hl, hT (c, Pt) (List.mem_singleton_self _), fun _ => rfl⟩, fun base hb hn hT => h5 base hb hn (hT (c, Pt) (List.mem_singleton_self _))⟩
    refine fin ?_
    refine' Kr.all_mk KX G hm2 hown ?aC_RuleError ?aC_Keys ?aC_InvalidSize ?aC_InvalidClashes ?a1 ?i1 ?l1 ?c1 ?a2 ?i2 ?l2 ?c2 ?a3 ?l3 ?c3 ?k3 ?a4 ?l4 ?c4 ?k4 ?a5 ?l5 ?c5 ?k5 ?a6 ?l6 ?c6 ?k6 ?a7 ?l7 ?c7 ?k7 ?a8 ?l8 ?c8 ?k8 ?a9 ?i9 ?l9 ?c9 ?k9 ?a10 ?l10 ?c10 ?k10 ?a11 ?l11 ?c11 ?k11 ?a12 ?l12 ?c12 ?k12 ?a13 ?l13 ?c13 ?k13 ?a14 ?l14 ?c14 ?k14 ?a15 ?l15 ?c15 ?k15 ?a16 ?l16 ?c16 ?k16 ?a17 ?l17 ?c17 ?k17 ?a18 ?l18 ?c18 ?k18 ?a19 ?l19 ?c19 ?k19 ?a20 ?l20 ?c20 ?k20 ?a21 ?l21 ?c21 ?k21 ?a22 ?l22 ?c22 ?k22 ?a23 ?l23 ?c23 ?k23 ?a24 ?l24 ?c24 ?k24 ?a25 ?l25 ?c25 ?k25 ?a26 ?l26 ?c26 ?k26 ?a27 ?l27 ?c27 ?k27 ?a28 ?l28 ?c28 ?k28 ?a29 ?l29 ?c29 ?k29 ?lcL ?vL ?nL ?hdL ?mk_Keys ?kc_Keys ?pg_Keys ?hd_Keys ?po_Keys ?sa_Keys ?hna_many_Keys ?hna_clashes_Keys ?ha_Keys ?hn_Keys ?ht_Keys ?hm_Keys ?me_Keys ?u_ex_SC ?u_ex_SS ?u_ex_CC ?noN_InvalidClashes ?xga_InvalidClashes ?xgg_InvalidClashes ?xex_InvalidClashes ?xhd_InvalidClashes ?noN_InvalidSize ?xga_InvalidSize ?xgg_InvalidSize ?xex_InvalidSize ?xhd_InvalidSize ?ex_InvalidClashes ?exB_RuleError ?mrB_RuleError ?fiB_RuleError ?sa_InvalidClashes ?etc_InvalidClashes ?kc_InvalidClashes ?exe_InvalidClashes ?esl_InvalidClashes ?ety_InvalidClashes ?etp ?ecc_InvalidClashes ?ecd_InvalidClashes ?evs_InvalidClashes ?efi_InvalidClashes ?etop ?ex_InvalidSize ?sa_InvalidSize ?etc_InvalidSize ?kc_InvalidSize ?exe_InvalidSize ?esl_InvalidSize ?ety_InvalidSize ?ecc_InvalidSize ?ecd_InvalidSize ?evs_InvalidSize ?efi_InvalidSize ?q_MOST_KEYS ?z_abs ?z_bool ?z_enumerate ?z_int ?z_isinstance ?z_len ?z_list ?z_range ?z_sorted ?z_str ?z_super ?z_tuple ?z_zip
    (case aC_RuleError => k_is)
    (case aC_Keys => k_is)
    (case aC_InvalidSize => k_is)
    (case aC_InvalidClashes => k_is)
    (case a1 => k_is)
    (case i1 => k_is)
    (case l1 => k_is)
    (case c1 => k_is)
    (case a2 => k_is)
    (case i2 => k_is)
    (case l2 => k_is)
    (case c2 => k_is)
    (case a3 => k_is)
    (case l3 => k_is)
    (case c3 => k_is)
    (case k3 => k_is)
    (case a4 => k_is)
    (case l4 => k_is)
    (case c4 => k_is)
    (case k4 => k_is)
    (case a5 => k_is)
    (case l5 => k_is)
    (case c5 => k_is)
    (case k5 => k_is)
    (case a6 => k_is)
    (case l6 => k_is)
    (case c6 => k_is)
    (case k6 => k_is)
    (case a7 => k_is)
    (case l7 => k_is)
    (case c7 => k_is)
    (case k7 => k_is)
    (case a8 => k_is)
    (case l8 => k_is)
    (case c8 => k_is)
    (case k8 => k_is)
    (case a9 => k_is)
    (case i9 => k_is)
    (case l9 => k_is)
    (case c9 => k_is)
    (case k9 => k_is)
    (case a10 => k_is)
    (case l10 => k_is)
    (case c10 => k_is)
    (case k10 => k_is)
    (case a11 => k_is)
    (case l11 => k_is)
    (case c11 => k_is)
    (case k11 => k_is)
    (case a12 => k_is)
    (case l12 => k_is)
    (case c12 => k_is)
    (case k12 => k_is)
    (case a13 => k_is)
    (case l13 => k_is)
    (case c13 => k_is)
    (case k13 => k_is)
    (case a14 => k_is)
    (case l14 => k_is)
    (case c14 => k_is)
    (case k14 => k_is)
    (case a15 => k_is)
    (case l15 => k_is)
    (case c15 => k_is)
    (case k15 => k_is)
    (case a16 => k_is)
    (case l16 => k_is)
    (case c16 => k_is)
    (case k16 => k_is)
    (case a17 => k_is)
    (case l17 => k_is)
    (case c17 => k_is)
    (case k17 => k_is)
    (case a18 => k_is)
    (case l18 => k_is)
    (case c18 => k_is)
    (case k18 => k_is)
    (case a19 => k_is)
    (case l19 => k_is)
    (case c19 => k_is)
    (case k19 => k_is)
    (case a20 => k_is)
    (case l20 => k_is)
    (case c20 => k_is)
    (case k20 => k_is)
    (case a21 => k_is)
    (case l21 => k_is)
    (case c21 => k_is)
    (case k21 => k_is)
    (case a22 => k_is)
    (case l22 => k_is)
    (case c22 => k_is)
    (case k22 => k_is)
    (case a23 => k_is)
    (case l23 => k_is)
    (case c23 => k_is)
    (case k23 => k_is)
    (case a24 => k_is)
    (case l24 => k_is)
    (case c24 => k_is)
    (case k24 => k_is)
    (case a25 => k_is)
    (case l25 => k_is)
    (case c25 => k_is)
    (case k25 => k_is)
    (case a26 => k_is)
    (case l26 => k_is)
    (case c26 => k_is)
    (case k26 => k_is)
    (case a27 => k_is)
    (case l27 => k_is)
    (case c27 => k_is)
    (case k27 => k_is)
    (case a28 => k_is)
    (case l28 => k_is)
    (case c28 => k_is)
    (case k28 => k_is)
    (case a29 => k_is)
    (case l29 => k_is)
    (case c29 => k_is)
    (case k29 => k_is)
    (case lcL => k_is)
    (case vL => first | rfl | k_is)
    (case nL => first | rfl | k_is)
    (case hdL => first | rfl | k_is)
    (case mk_Keys => k_is)
    (case kc_Keys => k_is)
    (case pg_Keys => k_is)
    (case hd_Keys => k_is)
    (case po_Keys => k_is)
    (case sa_Keys => k_is)
    (case hna_many_Keys => k_is)
    (case hna_clashes_Keys => k_is)
    (case ha_Keys => k_is)
    (case hn_Keys => k_is)
    (case ht_Keys => k_is)
    (case hm_Keys => k_is)
    (case me_Keys => first | rfl | k_is)
    (case u_ex_SC => first | rfl | k_is)
    (case u_ex_SS => first | rfl | k_is)
    (case u_ex_CC => first | rfl | k_is)
    (case noN_InvalidClashes => k_is)
    (case xga_InvalidClashes => k_is)
    (case xgg_InvalidClashes => k_is)
    (case xex_InvalidClashes => k_is)
    (case xhd_InvalidClashes => k_is)
    (case noN_InvalidSize => k_is)
    (case xga_InvalidSize => k_is)
    (case xgg_InvalidSize => k_is)
    (case xex_InvalidSize => k_is)
    (case xhd_InvalidSize => k_is)
    (case ex_InvalidClashes => k_is)
    (case exB_RuleError => k_is)
    (case mrB_RuleError => first | rfl | k_is)
    (case fiB_RuleError => k_is)
    (case sa_InvalidClashes => k_is)
    (case etc_InvalidClashes => k_is)
    (case kc_InvalidClashes => k_is)
    (case exe_InvalidClashes => k_is)
    (case esl_InvalidClashes => first | rfl | k_is)
    (case ety_InvalidClashes => k_is)
    (case etp => k_is)
    (case ecc_InvalidClashes => k_is)
    (case ecd_InvalidClashes => k_is)
    (case evs_InvalidClashes => first | rfl | k_is)
    (case efi_InvalidClashes => first | rfl | k_is)
    (case etop => first | rfl | k_is)
    (case ex_InvalidSize => k_is)
    (case sa_InvalidSize => k_is)
    (case etc_InvalidSize => k_is)
    (case kc_InvalidSize => k_is)
    (case exe_InvalidSize => k_is)
    (case esl_InvalidSize => first | rfl | k_is)
    (case ety_InvalidSize => k_is)
    (case ecc_InvalidSize => k_is)
    (case ecd_InvalidSize => k_is)
    (case evs_InvalidSize => first | rfl | k_is)
    (case efi_InvalidSize => first | rfl | k_is)
    (case q_MOST_KEYS => k_is)
    (case z_abs => k_is)
    (case z_bool => k_is)
    (case z_enumerate => k_is)
    (case z_int => k_is)
    (case z_isinstance => k_is)
    (case z_len => k_is)
    (case z_list => k_is)
    (case z_range => k_is)
    (case z_sorted => k_is)
    (case z_str => k_is)
    (case z_super => k_is)
    (case z_tuple => k_is)
    (case z_zip => k_is)
