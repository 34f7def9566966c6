import PyProof.Rows.All
import Wide.All
import OpenK.AllK
import Wide.FinOn
import HandS.ForMost
import HandS.IsInst
import HandS.WideBits
import HandS.Walk
import HandS.Zip
import HandS.Conv
import HandS.SortRule
import HandS.SortInts
import HandS.Deep
import HandS.Style
import HandS.Codes
import HandS.SetFor
import KE.GoesEnum
import PySem.Challenge.RW_keyrules_k02_what_clashes_with_what
set_option Elab.async false
set_option linter.all false
set_option maxRecDepth 100000
namespace Kb
open PySem PySem.Spec PyProof.Rows L2
/-! ### isinstance(x, (A, B)): the tuple of classes is laid, not tracked -/
def tIsP (K : PySem.W.Frag) (A B : String) (te : TE) : TE := fun σ H Q => te σ H fun x H1 => ∃ t b, TyX K H1 x t ∧ PySem.W.kitAny K t [.type A, .type B] = some b ∧ Q (.bl b) H1
theorem two_ty {A B : String} : ∀ {us : List Value}, Vals [V.ty A, V.ty B] us → us = [Value.type A, Value.type B]
  | _, .cons a (.cons b .nil) => by cases a; cases b; rfl
section
variable {X : Cx} {p pos tpos : Pos} {e : Expr} {es : List Expr} {te : TE} {A B : String}
theorem pe_isP {kk : Nat} (he : PE X e te) (hg : Gl X "isinstance") (hm : X.mg "isinstance" = none) (hes : PA X es (tCons (tC (.ty A)) (tCons (tC (.ty B)) tNil)))
    (q1 : starEach [e, .Tuple es kk tpos] X.env = (false, eval e X.env) :: starEach [.Tuple es kk tpos] X.env := by rfl)
    (q2 : starEach [.Tuple es kk tpos] X.env = (false, eval (.Tuple es kk tpos) X.env) :: starEach [] X.env := by rfl)
    (q3 : (backTo pos (starEach [.Tuple es kk tpos] X.env)).any (·.1) = false := by rfl) :
    PE X (.Call (.Name "isinstance" p) [e, .Tuple es kk tpos] [] pos) (tIsP X.K A B te) := by
  constructor
  intro pp s0 sg H Q I hh
  refine wpAny_Call_Name_kw (ld_blt I hg hm PyProof.Rows.boot_isinstance ?_ (by decide) (by decide))
  refine PyProof.Rows.callWith_builtin1 ?_ q1 q3
  rw [q1]
  show wpAny _ _ (spliced ((false, eval e X.env) :: backTo pos (starEach [.Tuple es kk tpos] X.env))) _ _ s0
  refine Calls.spliced_cons (thn (he.run pp s0 sg H _ I hh) ?_)
  rintro u s1 ⟨x, H1, I1, rx, t, b, ty, hk, hq⟩
  rw [q2]
  show wpAny _ _ (spliced ((false, eval (.Tuple es kk tpos) X.env) :: backTo pos (starEach [] X.env))) _ _ s1
  refine Calls.spliced_cons (wpAny_Tuple_spliced (thn (hes.run tpos pp s1 sg H1 (fun ys H' => ys = [.ty A, .ty B] ∧ H' = H1) I1 ⟨rfl, rfl⟩) ?_))
  rintro us s2 ⟨ys, H2, I2, r2, rfl, rfl⟩
  have eu := two_ty r2
  subst eu
  refine ⟨by show 2 ≤ sizeLine; rw [sizeLine_eq]; omega, ?_⟩
  have I3 := I2.kept (h' := s2.heap.push { cls := .type "tuple", data := .seq [Value.type A, Value.type B].toArray }) (t' := s2.toks) fun b o z => Heap.get?_push_of_some _ z
  obtain ⟨P, Z, pz, hx⟩ := kit_of I3 rx ty
  refine Calls.spliced_nil ?_
  exact PySem.W.kia_tup Z I3.kIn pz (Heap.get?_push_size _ rfl) hk hx fun tk => ⟨.bl b, H2, I3.tok tk, rfl, hq⟩
end
/-! ### enumerate of a tuple -/
theorem meets_enT (l : Addr) (items : Array Value) :
    Meets (Builtin.«enumerate.__new__» ⟨[.type "enumerate", .ref l], []⟩) (fun _ R s => s.heap.IsTuple l items ∧
      R (.ok (.ret (.ref (s.heap.push { cls := .type "tuple_iterator", data := .fields #[.ref l, .int 0 0] }).objs.size)))
        { s with heap := (s.heap.push { cls := .type "tuple_iterator", data := .fields #[.ref l, .int 0 0] }).push { cls := .type "enumerate", data := .fields #[.none, .bool false, .ref s.heap.objs.size, rawInt 0, .none, .none] } }) :=
  .of_wp fun prog w A R s h => by
    obtain ⟨hp, gg, dd, tk, os⟩ := s
    obtain ⟨hl, h⟩ := h
    have hsub := sub_enumerate
    have q1 : ∀ {A' : Around} {E : Value → Shared → Prop} {Q : Value → Shared → Prop}, Q (.ref hp.objs.size) ⟨hp.push { cls := .type "tuple_iterator", data := .fields #[.ref l, .int 0 0] }, gg, dd, tk, os⟩ → wpAny (model prog w) A' (pyIter (.ref l)) Q E ⟨hp, gg, dd, tk, os⟩ :=
      fun q => wpAny_pyIter_tuple hl q
    wp_walk using q1
    refine wpAny_stack_any fun st => wpAny_pure ?_
    split
    · rename_i c _ _ _ _ _
      cases (c == Value.type "enumerate")
      · wp_walk using q1
        exact ⟨_, rfl, h⟩
      · wp_walk using q1
        exact ⟨_, rfl, h⟩
    · wp_walk using q1
      exact ⟨_, rfl, h⟩
theorem call_enT {prog : Program} {w : World} {A : Around} {E : Value → Shared → Prop} {s : Shared} {l : Addr} {items : Array Value} {Q : Value → Shared → Prop} (hL : s.heap.IsTuple l items)
    (h : ∀ h', IsEnum h' (s.heap.objs.size + 1) s.heap.objs.size 0 .none → h'.IsTupleIter s.heap.objs.size l 0 → h'.objs.size = s.heap.objs.size + 2 →
      (∀ b o, s.heap.get? b = some o → h'.get? b = some o) → Q (.ref (s.heap.objs.size + 1)) { s with heap := h' }) :
    wpAny (model prog w) A (call (.type "enumerate") [.ref l]) Q E s := by
  refine callType_new F.called_enumerate (by decide) (F.typeCall_enumerate_1 _) (F.newCall_enumerate_1 _) (fun obj => F.args_object_init_2 obj _) F.entry_enumerate_new (meets_enT l items) ⟨hL, ?_⟩
  have hz : (s.heap.push { cls := .type "tuple_iterator", data := .fields #[.ref l, .int 0 0] }).objs.size = s.heap.objs.size + 1 := Heap.size_push ..
  show _ ∧ _
  rw [hz]
  have he := Heap.get?_push_size (s.heap.push { cls := .type "tuple_iterator", data := .fields #[.ref l, .int 0 0] })
      (o := { cls := .type "enumerate", data := .fields #[.none, .bool false, .ref s.heap.objs.size, rawInt 0, .none, .none] }) rfl
  rw [hz] at he
  exact ⟨⟨_, he, rfl⟩, h _ he ⟨_, Heap.get?_push_of_some _ (Heap.get?_push_size _ rfl), rfl, rfl⟩ (by rw [Heap.size_push, hz]) fun b o z => Heap.get?_push_of_some _ (Heap.get?_push_of_some _ z)⟩
/-- the tuple at a, item by item with its number, each time a new pair -/
def IteT (K : PySem.W.Frag) (a : Addr) : It :=
  ⟨fun i H => ∃ xs x, SqT K H a xs ∧ xs[i]? = some x, fun i H v H' => ∃ T x, v = .ref T ∧ H T = none ∧ H' = upd H T (.tup [.int (i : Nat), x]) ∧ ∀ xs, SqT K H a xs → xs[i]? = some x, fun i H => ∃ xs : List V, SqT K H a xs ∧ xs.length ≤ i⟩
theorem turn_enT {P : Program} {w : World} {K : PySem.W.Frag} {elts : List Expr} {kk : Nat} {tpos : Pos} (a e it : Addr) :
    Turn P w K (.Tuple elts kk tpos) (IteT K a) [e, it] e (fun i h => (∃ old, IsEnum h e it ((i : Nat) : Int) old) ∧ h.IsTupleIter it a i ∧ e ≠ it ∧ a ≠ it) where
  mem := List.mem_cons_self
  obj := by
    rintro i h ⟨⟨old, he⟩, ⟨o, ho, hc, hd⟩, _⟩ b hb
    rcases List.mem_cons.mp hb with z | z
    · rw [z]; exact ⟨_, he, fun v q => by cases q⟩
    · rw [List.mem_singleton.mp z]
      exact ⟨o, ho, fun v q => by rw [hd] at q; cases q⟩
  keep := by
    rintro i h h' ⟨⟨old, he⟩, hi, hne⟩ k
    exact ⟨⟨old, k e List.mem_cons_self _ he⟩, hi.at fun o q => k it (List.mem_cons_of_mem _ List.mem_cons_self) o q, hne⟩
  item := by
    intro X hP hw hK hc i pp s sg H E I hf st hg
    subst hP hw hK
    obtain ⟨⟨old, he⟩, hit, hne, hai⟩ := st
    obtain ⟨xs, x, hq, hx⟩ := hg
    obtain ⟨its, rv, tp, hz⟩ := I.tuple hq
    have hil : i < its.toArray.size := by
      have e1 := rv.length
      have e2 := (List.getElem?_eq_some_iff.mp hx).1
      rw [List.size_toArray]
      omega
    have hef : e ∉ [it, a] := by
      intro z
      rcases List.mem_cons.mp z with z | z
      · exact hne z
      · have z' := List.mem_singleton.mp z
        subst z'
        obtain ⟨o, ho, hc', _⟩ := tp
        rw [he] at ho
        cases ho
        injection hc' with hc2; exact absurd hc2 (by decide)
    have helt : e < s.heap.objs.size := Heap.lt_size he
    have hitl : it < s.heap.objs.size := by obtain ⟨_, q, _⟩ := hit; exact Heap.lt_size q
    refine wpAny_pyNext_enum_itemD (Draws.tuple (show X.A.in1.handled = none from I.ok.hd hc) it a hai its.toArray) he (show _ ∧ _ from ⟨hit, tp⟩) hil hne hef fun u h' tk hP ho hs' hT hsz hk => ?_
    refine ⟨_, rfl, wpAny_letOwnedTupleGo_enum (s := { s with heap := h', toks := tk + 1 }) ho fun h2 he2 sb => ?_⟩
    have hT2 : h2.get? s.heap.objs.size = some { cls := .type "tuple", data := .seq #[.int i tk, u] } := (sb.2 _ (Nat.ne_of_gt helt)).trans hT
    have hxu : RelV x u := by
      obtain ⟨u', e1, r1⟩ := rv.get hx
      have e2 : its.toArray[i]? = some u := hP
      rw [List.getElem?_toArray, e1] at e2
      cases e2
      exact r1
    have I1 : Inv X pp sg (upd H s.heap.objs.size (.tup [.int (i : Nat), x])) { s with heap := h2, toks := tk + 1 } :=
      I.turnedNew (ch := [e, it]) (fun b ob hb q => (sb.2 b (fun z => hb (by simp [z]))).trans (hk b ob (fun z => hb (by simp [z])) (fun z => hb (by simp [z])) q)) hf (Nat.le_refl _)
        ⟨by show 2 ≤ sizeLine; decide, [.int i tk, u], .cons ⟨_, rfl⟩ (.cons hxu .nil), ⟨_, hT2, rfl, _, rfl⟩⟩
    refine ⟨.ref s.heap.objs.size, _, I1, rfl, ⟨_, x, rfl, I.hok.fresh (Nat.le_refl _), rfl, fun ys hy => by rw [I.tuple_inj hy hq]; exact hx⟩, ⟨⟨u, ?_⟩, hs'.1.at fun o q => (sb.2 it (Ne.symm hne)).trans q, hne, hai⟩, fun b hb => ?_⟩
    · have e1 : ((i + 1 : Nat) : Int) = (i : Int) + 1 := by omega
      rw [e1]
      exact he2
    · have hb' : b < s.heap.objs.size := by
        rcases List.mem_cons.mp hb with z | z
        · rw [z]; exact helt
        · rw [List.mem_singleton.mp z]; exact hitl
      rw [upd_ne (Nat.ne_of_lt hb')]
      exact (hf b hb).1
  done := by
    intro X hP hw hK hc i pp s sg H E I hf st hg
    subst hP hw hK
    obtain ⟨⟨old, he⟩, hit, hne, hai⟩ := st
    obtain ⟨xs, hq, hx⟩ := hg
    obtain ⟨its, rv, tp, hz⟩ := I.tuple hq
    obtain ⟨f0, f1, f2, f3, f4, f5⟩ := hf it (List.mem_cons_of_mem _ List.mem_cons_self)
    have hl := rv.length
    have hT : s.TypeIs (.ref e) "enumerate" := ⟨_, he, rfl⟩
    unfold pyNext
    refine wpAny_bind (wpAny_attempt (wpAny_callSpecial?_slot (name := Str.ofString "__next__") hT F.slot_enumerate_next
      (wpAny_call_entry F.slot_enumerate_next hT F.entry_enumerate_next ?_ (F.args_enumerate_next_1 _))))
    show wpAny _ _ (field (.ref e) 2 >>= _) _ _ _
    refine wpAny_bind (wpAny_field he rfl (x := .ref it) rfl ?_)
    refine wpAny_bind (wpAny_nextOf_tuple_end (I.ok.hd hc) hit tp (by simp; omega) fun h' x1 he' hx' => ?_)
    obtain ⟨o, ho, hc1⟩ := hx'
    refine wpAny_bind (wpAny_isInstance (T := "StopIteration") (b := true) ⟨o, ho, hc1⟩ isSubtype_stop ?_)
    exact wpAny_pure ⟨rfl, I.turned (t' := s.toks) (fun b o hb q => he' b o hb q) f0 f1 f3 f4 f5⟩
  self := fun A i s Q E st h => let ⟨⟨_, he⟩, _⟩ := st; wpAny_pyIter_enum he h
/-- enumerate(v), v a list or a tuple -/
def iEnumA (K : PySem.W.Frag) (ta : TA) : TI := fun σ H R => ta σ H fun vs H1 => ∃ a xs, vs = [.ref a] ∧ ((SqL K H1 a xs ∧ R (Ite K a) H1) ∨ (SqT K H1 a xs ∧ R (IteT K a) H1))
theorem pi_enumA {X : Cx} {e : Expr} {ta : TA} {p pos tpos : Pos} {elts : List Expr} {kk : Nat} (hg : Gl X "enumerate") (hm : X.mg "enumerate" = none) (ha : PA X [e] ta) (hs : starEach [e] X.env = [(false, eval e X.env)] := by rfl) :
    PI X (.Tuple elts kk tpos) (.Call (.Name "enumerate" p) [e] [] pos) (iEnumA X.K ta) := by
  constructor
  intro pp s0 sg H R I hh
  refine Call_ (ld_blt I hg hm boot_enumerate (PyProof.Rows.callWith_type1 (thn (ha.run pos pp s0 sg H _ I hh) ?_) hs rfl))
  rintro us s1 ⟨vs, H1, I1, r1, a, xs, rfl, hq⟩
  have eu : us = [Value.ref a] := by
    cases r1 with
    | cons r rr =>
      cases rr
      cases r
      rfl
  subst eu
  have hmem : ∀ b ∈ [s1.heap.objs.size + 1, s1.heap.objs.size], s1.heap.objs.size ≤ b := by
    intro b hb
    rcases List.mem_cons.mp hb with z | z
    · rw [z]; exact Nat.le_succ _
    · rw [List.mem_singleton.mp z]; exact Nat.le_refl _
  rcases hq with ⟨hq, q⟩ | ⟨hq, q⟩
  · obtain ⟨its, rv, pl, hz⟩ := I1.list hq
    refine call_enumerate_list pl.isList fun h' he hit hsz hk => wpAny_pyIter_enum he ?_
    exact ⟨s1.heap.objs.size + 1, [s1.heap.objs.size + 1, s1.heap.objs.size], _, _, H1, rfl, I1.kept (t' := s1.toks) hk, turn_enum a (s1.heap.objs.size + 1) s1.heap.objs.size, ⟨⟨.none, he⟩, hit, Nat.succ_ne_self _⟩,
      fun b hb => I1.fpOk (hmem b hb) (I1.hok.fresh (hmem b hb)), q⟩
  · obtain ⟨its, rv, tp, hz⟩ := I1.tuple hq
    refine call_enT tp fun h' he hit hsz hk => wpAny_pyIter_enum he ?_
    exact ⟨s1.heap.objs.size + 1, [s1.heap.objs.size + 1, s1.heap.objs.size], _, _, H1, rfl, I1.kept (t' := s1.toks) hk, turn_enT a (s1.heap.objs.size + 1) s1.heap.objs.size,
      ⟨⟨.none, he⟩, hit, Nat.succ_ne_self _, Nat.ne_of_lt (by obtain ⟨o, ho, _⟩ := tp; exact Heap.lt_size ho)⟩, fun b hb => I1.fpOk (hmem b hb) (I1.hok.fresh (hmem b hb)), q⟩
/-- both kinds as one walk -/
theorem walk_enT {K : PySem.W.Frag} {a : Addr} {xs : List V} : Walk (IteT K a) xs.length (fun H => SqT K H a xs) (YPair (fun i => some (.int (i : Nat))) (fun i => xs[i]?)) := by
  refine ⟨fun i _ hi q => ⟨xs, xs[i], q, by simp [hi]⟩, fun _ q => ⟨xs, q, Nat.le_refl _⟩, ?_⟩
  rintro i H v H' _ q ⟨T, x, h1, h2, h3, h4⟩
  exact ⟨T, .int (i : Nat), x, h1, h2, h3, rfl, h4 xs q⟩
end Kb
namespace Kb
open PySem PySem.Spec PyProof.Rows L2
/-! ### heaps -/
theorem same_new {H : Hp} {p : Addr} {o : HO} (h : H p = none) : Same H (upd H p o) := fun b x e => by rw [upd_ne (ne_of_none e h)]; exact e
theorem Same.tup {K : PySem.W.Frag} {H H' : Hp} {a : Addr} {xs : List V} (e : Same H H') (h : SqT K H a xs) : SqT K H' a xs := by
  rcases h with (h | ⟨o, h⟩) | h
  · exact .inl (.inl (e _ _ h))
  · exact .inl (.inr ⟨o, e _ _ h⟩)
  · exact .inr h
/-- the heap without what stands at b -/
def hid (b : Addr) (H : Hp) : Hp := fun a => if a = b then none else H a
theorem hid_le (b : Addr) (H : Hp) : Same (hid b H) H := by
  intro a o h
  unfold hid at h
  split at h
  · cases h
  · exact h
theorem hid_mono {b : Addr} {H H' : Hp} (e : Same H H') : Same (hid b H) (hid b H') := by
  intro a o h
  unfold hid at h ⊢
  split at h
  · cases h
  · rename_i n
    rw [if_neg n]
    exact e _ _ h
theorem hid_at {b a : Addr} {H : Hp} {o : HO} (h : H a = some o) (n : a ≠ b) : hid b H a = some o := by
  unfold hid
  rw [if_neg n]
  exact h
theorem hid_free {b a : Addr} {H : Hp} (h : H a = none) : hid b H a = none := by
  unfold hid
  split
  · rfl
  · exact h
theorem Same.mk2 {H : Hp} {p q : Addr} {o u : HO} (h : H p = none) (h2 : (upd H p o) q = none) : Same H (upd (upd H p o) q u) := (same_new h).trans (same_new h2)
theorem back {H H' : Hp} {p : Addr} (e : Same H H') (h : H' p = none) : H p = none := e.free h
theorem hid_upd {b : Addr} {H : Hp} {o : HO} : hid b (upd H b o) = hid b H := by
  funext a
  unfold hid
  split
  · rfl
  · rename_i n
    rw [upd_ne n]
/-! ### natural numbers as values -/
abbrev nv (n : Nat) : V := .int (n : Int)
theorem cast1 {x : Nat} : ((1 : Int) = (x : Int)) = (1 = x) := by rw [eq_iff_iff]; omega
theorem cast0 {x : Nat} : ((0 : Int) = (x : Int)) = (0 = x) := by rw [eq_iff_iff]; omega
abbrev nvs (l : List Nat) : List V := l.map nv
section
variable {X : Cx}
theorem op_orU : OpR X (binaryOp .BitOr) (fun x y H Q => ∃ n m : Nat, x = nv n ∧ y = nv m ∧ Q (nv (n ||| m)) H) := by
  intro pp s sg H x y v u Q I rx ry h
  obtain ⟨n, m, rfl, rfl, q⟩ := h
  refine op_or pp s sg H _ _ v u Q I rx ry ⟨_, _, rfl, rfl, ?_⟩
  show Q (.int (Builtin.bitOr (n : Int) (m : Int))) H
  rw [bitOr_nn (Int.natCast_nonneg _) (Int.natCast_nonneg _), Int.toNat_natCast, Int.toNat_natCast]
  exact q
theorem bitAnd_nn {n m : Nat} : Builtin.bitAnd (n : Int) (m : Int) = ((n &&& m : Nat) : Int) := by
  unfold Builtin.bitAnd
  rw [decide_eq_true (Int.natCast_nonneg n), decide_eq_true (Int.natCast_nonneg m)]
  rfl
theorem op_andU : OpR X (binaryOp .BitAnd) (fun x y H Q => ∃ n m : Nat, x = nv n ∧ y = nv m ∧ Q (nv (n &&& m)) H) := by
  intro pp s sg H x y v u Q I rx ry h
  obtain ⟨n, m, rfl, rfl, q⟩ := h
  refine op_and pp s sg H _ _ v u Q I rx ry ⟨_, _, rfl, rfl, ?_⟩
  show Q (.int (Builtin.bitAnd (n : Int) (m : Int))) H
  rw [bitAnd_nn]
  exact q
theorem op_shrU : OpR X (binaryOp .RShift) (fun x y H Q => ∃ n k : Nat, x = nv n ∧ y = nv k ∧ Q (nv (n >>> k)) H) := by
  intro pp s sg H x y v u Q I rx ry h
  obtain ⟨n, k, rfl, rfl, q⟩ := h
  refine op_shrN pp s sg H _ _ v u Q I rx ry ⟨_, _, rfl, rfl, ?_⟩
  rw [Nat.shiftRight_eq_div_pow] at q
  have e : ((n : Int) / 2 ^ k) = ((n / 2 ^ k : Nat) : Int) := by
    rw [Int.natCast_ediv, Int.natCast_pow]
    rfl
  rw [e]
  exact q
theorem op_shlU : OpR X (binaryOp .LShift) (fun x y H Q => ∃ k : Nat, x = .int 1 ∧ y = nv k ∧ k ≤ 1000000 ∧ Q (nv (1 <<< k)) H) := by
  intro pp s sg H x y v u Q I rx ry h
  obtain ⟨k, rfl, rfl, hk, q⟩ := h
  refine op_oneShl pp s sg H _ _ v u Q I rx ry ⟨_, rfl, rfl, by omega, ?_⟩
  have e : (2 : Int) ^ k = ((1 <<< k : Nat) : Int) := by
    rw [Nat.shiftLeft_eq, Nat.one_mul, Int.natCast_pow]
    rfl
  rw [e]
  exact q
end
/-! ### what isn't a whole number -/
def NotInt (K : PySem.W.Frag) (H : Hp) (x : V) : Prop := ∃ t b1 b2, TyX K H x t ∧ PySem.W.kitOne K t (.type "int") = some b1 ∧ PySem.W.kitOne K t (.type "bool") = some b2 ∧ (b1 && !b2) = false
theorem kit_ii {K : PySem.W.Frag} : PySem.W.kitOne K (.type "int") (.type "int") = some true := kit_ty (by decide +kernel)
theorem kit_ib {K : PySem.W.Frag} : PySem.W.kitOne K (.type "int") (.type "bool") = some false := kit_ty (by decide +kernel)
theorem kit_lp {K : PySem.W.Frag} : PySem.W.kitAny K (.type "list") [.type "list", .type "tuple"] = some true :=
  kitAny_cons (b := true) (kit_ty (by decide +kernel)) (fun h => nomatch h) fun _ => rfl
theorem kit_tp {K : PySem.W.Frag} : PySem.W.kitAny K (.type "tuple") [.type "list", .type "tuple"] = some true :=
  kitAny_cons (b := false) (kit_ty (by decide +kernel)) (fun _ => kitAny_cons (b := true) (kit_ty (by decide +kernel)) (fun h => nomatch h) fun _ => rfl) fun h => nomatch h
theorem tyInt {K : PySem.W.Frag} {H : Hp} (i : Int) : TyX K H (.int i) (.type "int") := .base (.int i)
/-- a list or a tuple of these -/
def Seq (K : PySem.W.Frag) (H : Hp) (a : Addr) (xs : List V) : Prop := SqL K H a xs ∨ SqT K H a xs
theorem Same.sq {K : PySem.W.Frag} {H H' : Hp} {a : Addr} {xs : List V} (e : Same H H') (h : Seq K H a xs) : Seq K H' a xs := h.elim (fun h => .inl (Same.seq e h)) fun h => .inr (Kb.Same.tup e h)
theorem tyL {K : PySem.W.Frag} {H : Hp} {a : Addr} {xs : List V} (h : SqL K H a xs) : TyX K H (.ref a) (.type "list") := by
  rcases h with (h | ⟨o, h⟩) | ⟨o, its, n, hk, hc, _⟩
  · exact .base (.lst h)
  · exact .base (.frz h)
  · exact .kList hk hc
theorem tyT {K : PySem.W.Frag} {H : Hp} {a : Addr} {xs : List V} (h : SqT K H a xs) : TyX K H (.ref a) (.type "tuple") := by
  rcases h with (h | ⟨o, h⟩) | ⟨o, its, n, hk, hc, _⟩
  · exact .base (.tup h)
  · exact .fTuple h
  · exact .kTuple hk hc
/-! ### for over a list or a tuple -/
def iSeq (K : PySem.W.Frag) (tl : TE) : TI := fun σ H R => tl σ H fun x H1 => ∃ a, x = .ref a ∧ (((∃ xs, SqL K H1 a xs) ∧ R (Itl K a) H1) ∨ ((∃ xs, SqT K H1 a xs) ∧ R (Itt K a) H1))
theorem pi_seq {X : Cx} {tg l : Expr} {tl : TE} (hl : PE X l tl) : PI X tg l (iSeq X.K tl) := by
  constructor
  intro pp s0 sg H R I hh
  refine thn (hl.run pp s0 sg H _ I hh) ?_
  rintro v s1 ⟨x, H1, I1, r1, a, rfl, q⟩
  cases r1
  have new : ∀ b ∈ [s1.heap.objs.size], FpOk X pp H1 b := fun b hb => by
    rw [List.mem_singleton.mp hb]
    exact I1.fpOk (Nat.le_refl _) (I1.hok.fresh (Nat.le_refl _))
  rcases q with ⟨⟨xs, hq⟩, q⟩ | ⟨⟨xs, hq⟩, q⟩
  · obtain ⟨its, _, pl, _⟩ := I1.list hq
    exact wpAny_pyIter_list pl.isList ⟨_, _, _, _, H1, rfl, I1.kept (t' := s1.toks) fun b o z => Heap.get?_push_of_some _ z, turn_list a s1.heap.objs.size, ⟨_, Heap.get?_push_size _ rfl, rfl, rfl⟩, new, q⟩
  · obtain ⟨its, _, tp, _⟩ := I1.tuple hq
    exact wpAny_pyIter_tuple (show s1.heap.IsTuple a its.toArray from tp) ⟨_, _, _, _, H1, rfl, I1.kept (t' := s1.toks) fun b o z => Heap.get?_push_of_some _ z, turn_tuple a s1.heap.objs.size, ⟨_, Heap.get?_push_size _ rfl, rfl, rfl⟩, new, q⟩
end Kb
namespace Kb
open PySem PySem.Spec PyProof.Rows L2
/-! ### the rules with the written part told by its name -/
section
variable {X : Cx} {K : PySem.W.Frag} {a b c e o : Expr} {es : List Expr} {ta tb te to tl : TE} {t : TA} {pos apos cpos p tpos : Pos} {tg : Expr} {elts : List Expr} {kk : Nat}
theorem pe_globI {x : Str} {n : Int} (hg : Gl X x) (hm : ∃ t, X.mg x = some (.int n t)) (hd : (x == ("__debug__" : Str)) = false := by decide) : PE X (.Name x pos) (tC (.int n)) := by
  obtain ⟨t, e⟩ := hm
  exact pe_glob hg e ⟨_, rfl⟩ hd
theorem truthK (hK : X.K = K) (ha : PE X a ta) (he : ∀ whole, isTrue a X.env whole = (do let v ← whole; standAt a.pos; holding [v] (truthy v))) :
    PT X a (fun σ H Q => ta σ H fun x H' => ∃ k, TruV K x H' k ∧ Q k H') := by subst hK; exact pt_truth ha he
theorem ixL (hK : X.K = K) : IxR X (rIxL K) := by subst hK; exact ix_list
theorem ixT (hK : X.K = K) : IxR X (rIxT K) := by subst hK; exact ix_tup
/-- of a list or a tuple -/
def rIxA (K : PySem.W.Frag) : R2 := fun x y H Q => ∃ p xs i v, x = .ref p ∧ y = .int i ∧ Seq K H p xs ∧ atI xs i = some v ∧ Q v H
theorem ixA (hK : X.K = K) : IxR X (rIxA K) := by
  subst hK
  intro value slice pp s sg H x y v u Q I rx ry h hs
  obtain ⟨q, xs, i, z, rfl, rfl, hq, hz, k⟩ := h
  rcases hq with hq | hq
  · exact ix_list value slice pp s sg H _ _ v u Q I rx ry ⟨q, xs, i, z, rfl, rfl, hq, hz, k⟩ hs
  · exact ix_tup value slice pp s sg H _ _ v u Q I rx ry ⟨q, xs, i, z, rfl, rfl, hq, hz, k⟩ hs
def rLenA (K : PySem.W.Frag) : List V → Hp → VK → Prop := fun xs H Q => ∃ q ys, xs = [.ref q] ∧ Seq K H q ys ∧ Q (.int (ys.length : Nat)) H
theorem lenK (hK : X.K = K) : CallR X (.builtin "len") (rLenA K) := by subst hK; exact call_len_seq
def rListOf (K : PySem.W.Frag) : List V → Hp → VK → Prop := fun xs H Q => ∃ q ys, xs = [.ref q] ∧ Seq K H q ys ∧ ∀ l, H l = none → Q (.ref l) (upd H l (.lst ys))
theorem listOfK (hK : X.K = K) : CallR X (.type "list") (rListOf K) := by subst hK; exact call_list_of
def rTupOf (K : PySem.W.Frag) : List V → Hp → VK → Prop := fun xs H Q => ∃ q ys, xs = [.ref q] ∧ ((SqL K H q ys ∧ ∀ l, H l = none → Q (.ref l) (upd H l (.tup ys))) ∨ (SqT K H q ys ∧ Q (.ref q) H))
theorem tupOfK (hK : X.K = K) : CallR X (.type "tuple") (rTupOf K) := by subst hK; exact call_tuple_of
theorem isiK (hK : X.K = K) : CallR X (.builtin "isinstance") (rIsi K) := by subst hK; exact call_isi
theorem inK (hK : X.K = K) : OpR X (compareOp .In) (rIn K false) := by subst hK; exact op_in_seq
theorem notInK (hK : X.K = K) : OpR X (compareOp .NotIn) (rIn K true) := by subst hK; exact op_notIn_seq
theorem eqDK (hK : X.K = K) (hu : X.A.units + 64 < cLine) : OpR X (compareOp .Eq) (rEqD K) := by subst hK; exact op_eqD hu
theorem neDK (hK : X.K = K) (hu : X.A.units + 64 < cLine) : OpR X (compareOp .NotEq) (rNeD K) := by subst hK; exact op_neD hu
theorem inDK (hK : X.K = K) (hu : X.A.units + 65 < cLine) : OpR X (compareOp .In) (rInD K) := by subst hK; exact op_inD hu
theorem notInDK (hK : X.K = K) (hu : X.A.units + 65 < cLine) : OpR X (compareOp .NotIn) (rNotInD K) := by subst hK; exact op_notInD hu
theorem slL (hK : X.K = K) : SlR X (rSlL K) := by subst hK; exact sl_list
theorem slT (hK : X.K = K) : SlR X (rSlT K) := by subst hK; exact sl_tup
theorem catTK (hK : X.K = K) : OpR X (binaryOp .Add) (rCatT K) := by subst hK; exact op_catT
theorem fldK {f : Str} (hK : X.K = K) (he : PE X e ta) (hb : attributeBase e f X.env (eval e X.env) = eval e X.env) : PE X (.Attribute e f pos) (tFld K ta f) := by subst hK; exact pe_fld he hb
theorem sortIK (hK : X.K = K) : CallR X (.builtin "sorted") (rSortedI K) := by subst hK; exact cr_sortedI
theorem sortPK (hK : X.K = K) : CallR X (.builtin "sorted") (rSortedPO K) := by subst hK; exact cr_sortedPO
theorem sumK (hK : X.K = K) (hc : X.calm = true) : CallR X (.builtin "sum") (rSum K) := by subst hK; exact cr_sum hc
theorem plistK (hK : X.K = K) (h : PE X a tl) : PI X tg a (iList K tl) := by subst hK; exact pi_list h
theorem ptupK (hK : X.K = K) (h : PE X a tl) : PI X tg a (iTup K tl) := by subst hK; exact pi_tup h
theorem pseqK (hK : X.K = K) (h : PE X a tl) : PI X tg a (iSeq K tl) := by subst hK; exact pi_seq h
theorem penumK (hK : X.K = K) (hg : Gl X "enumerate") (hm : X.mg "enumerate" = none) (ha : PA X [e] t) (hs : starEach [e] X.env = [(false, eval e X.env)] := by rfl) :
    PI X (.Tuple elts kk tpos) (.Call (.Name "enumerate" p) [e] [] pos) (iEnumA K t) := by subst hK; exact pi_enumA hg hm ha hs
theorem pzipK {e2 : Expr} (hK : X.K = K) (hg : Gl X "zip") (hm : X.mg "zip" = none) (ha : PA X [e, e2] t) (hs : starEach [e, e2] X.env = (false, eval e X.env) :: starEach [e2] X.env := by rfl)
    (hpl : (backTo pos (starEach [e2] X.env)).any (·.1) = false := by rfl) : PI X (.Tuple elts kk tpos) (.Call (.Name "zip" p) [e, e2] [] pos) (RZ.iZipA K t) := by subst hK; exact RZ.pi_zipA hg hm ha hs hpl
theorem gtupK {u : TGs} {n : Nat} (hK : X.K = K) (hc : X.calm = true) (h : PGs X es u) (hn : (assignEach es X.env).length = n := by rfl) (hst : (assignEach es X.env).findIdx? (·.1) = none := by rfl) :
    PG X (.Tuple es kk pos) (gTup K n u) := by subst hK; exact pg_tup hc h hn hst
theorem isPK {A B : String} (hK : X.K = K) (he : PE X e te) (hg : Gl X "isinstance") (hm : X.mg "isinstance" = none) (hes : PA X es (tCons (tC (.ty A)) (tCons (tC (.ty B)) tNil)))
    (q1 : starEach [e, .Tuple es kk tpos] X.env = (false, eval e X.env) :: starEach [.Tuple es kk tpos] X.env := by rfl)
    (q2 : starEach [.Tuple es kk tpos] X.env = (false, eval (.Tuple es kk tpos) X.env) :: starEach [] X.env := by rfl)
    (q3 : (backTo pos (starEach [.Tuple es kk tpos] X.env)).any (·.1) = false := by rfl) :
    PE X (.Call (.Name "isinstance" p) [e, .Tuple es kk tpos] [] pos) (tIsP K A B te) := by subst hK; exact pe_isP he hg hm hes q1 q2 q3
theorem bmK {name : Str} {T id : String} {r : V → List V → Hp → VK → Prop} (hK : X.K = K) (pa : PlainAttrs T) (slot : Slot T name id) (hty : typeOf (.builtin id) = pure (.type "method_descriptor")) (hm : MtR X id r) (ho : PE X o to) (ha : PA X (e :: es) t)
    (q1 : attributeBase o name X.env (eval o X.env) = eval o X.env := by rfl)
    (q2 : ((backTo cpos (starEach (e :: es) X.env)).all (fun x => !x.1) && (backToKw cpos (keywordEach [] X.env)).all (fun x => x.1.isSome)
      && decide ((e :: es).length + ([] : List Keyword).length + (if ([] : List Keyword).isEmpty then 0 else 1) < 30)) = true := by rfl)
    (q3 : (apos.endLine == cpos.line) = true := by rfl) (q4 : starEach (e :: es) X.env = (false, eval e X.env) :: starEach es X.env := by rfl) (q5 : (backTo cpos (starEach es X.env)).any (·.1) = false := by rfl) :
    PE X (.Call (.Attribute o name apos) (e :: es) [] cpos) (tBM K T r to t) := by subst hK; exact pe_bm pa slot hty hm ho ha q1 q2 q3 q4 q5
theorem bm0K {name : Str} {T id : String} {r : V → List V → Hp → VK → Prop} (hK : X.K = K) (pa : PlainAttrs T) (slot : Slot T name id) (hty : typeOf (.builtin id) = pure (.type "method_descriptor")) (hm : MtR X id r) (ho : PE X o to)
    (q1 : attributeBase o name X.env (eval o X.env) = eval o X.env := by rfl) (q3 : (apos.endLine == cpos.line) = true := by rfl) :
    PE X (.Call (.Attribute o name apos) [] [] cpos) (tBM0 K T r to) := by subst hK; exact pe_bm0 pa slot hty hm ho q1 q3
theorem ty_lst {H : Hp} {q : Addr} {xs : List V} (h : SqL K H q xs) : tyV K "list" (.ref q) H := .inl ⟨rfl, _, h⟩
end
/-! ### comprehensions whose element and test leave the heap as it is -/
section
variable {K : PySem.W.Frag} {σ : L2.St} {H : Hp} {Q : VK} {D : Ends} {tt : TT} {te tl : TE} {ta : TA} {j : Nat} {tb : TS}
theorem set_wipe {σ : L2.St} {j : Nat} {x : Option V} : (σ.set j none).set j x = σ.set j x := List.set_set ..
theorem lcR1 (n : Nat) (p : Nat → Bool) (f : Nat → V) (h : ∀ R : List V → Hp → Prop, R [nv n] H → ta σ H R) (hn : n < 100000)
    (hs : ∀ (i : Nat) (H' : Hp) (Q1 : VK) (Q2 : Hp → Prop), i < n → Same H H' → (p i = true → Q1 (f i) H') → (p i = false → Q2 H') → tt (σ.set j (some (nv i))) H' fun b H3 => if b = true then te (σ.set j (some (nv i))) H3 Q1 else Q2 H3)
    (hd : ∀ L, H L = none → Q (.ref L) (upd H L (.lst (((List.range n).filter p).map f)))) : tLc (iRng1 ta) (gName j) tt te [j] σ H Q := by
  refine h _ ⟨(n : Int), rfl, by omega, by omega, fun L hL => ?_⟩
  have take_s : ∀ i : Nat, (List.range (i + 1)).filter p = (List.range i).filter p ++ (if p i = true then [i] else []) := by
    intro i
    rw [List.range_succ, List.filter_append, List.filter_cons, List.filter_nil]
  have e0 : (n : Int).toNat = n := Int.toNat_natCast n
  rw [e0]
  refine lc_range (lo := 0) (n := n) (fun i H' => H' = upd H L (.lst (((List.range i).filter p).map f))) rfl (fun i H' hi e => ?_) (fun H' e => ?_)
  · subst e
    have e1 : (0 : Int) + (i : Int) = (i : Int) := Int.zero_add _
    rw [e1]
    have ew : (wipe σ [j]).set j (some (nv i)) = σ.set j (some (nv i)) := set_wipe
    show wipe ((wipe σ [j]).set j (some (nv i))) [j] = wipe σ [j] ∧ tt ((wipe σ [j]).set j (some (nv i))) _ _
    rw [ew]
    refine ⟨List.set_set .., hs i _ _ _ hi (same_new hL) (fun hp => ?_) (fun hp => ?_)⟩
    · refine ⟨_, upd_same, ?_, ?_⟩
      · have := List.length_filter_le p (List.range i)
        rw [List.length_range] at this
        rw [List.length_map, sizeLine_eq]
        omega
      · rw [upd_upd, take_s, hp, if_pos rfl, List.map_append]
        rfl
    · rw [take_s, hp, if_neg Bool.false_ne_true, List.append_nil]
  · subst e
    exact hd L hL
/-- over a list or a tuple -/
theorem lcS (a : Addr) (xs : List V) (p : V → Bool) (f : V → V) (h : ∀ R : V → Hp → Prop, R (.ref a) H → tl σ H R) (hx : Seq K H a xs) (hn : xs.length < 100000)
    (hs : ∀ (x : V) (H' : Hp) (Q1 : VK) (Q2 : Hp → Prop), x ∈ xs → Same H H' → (p x = true → Q1 (f x) H') → (p x = false → Q2 H') → tt (σ.set j (some x)) H' fun b H3 => if b = true then te (σ.set j (some x)) H3 Q1 else Q2 H3)
    (hd : ∀ L, H L = none → Q (.ref L) (upd H L (.lst ((xs.filter p).map f)))) : tLc (iSeq K tl) (gName j) tt te [j] σ H Q := by
  have take_s : ∀ (i : Nat) (x : V), xs[i]? = some x → (xs.take (i + 1)).filter p = (xs.take i).filter p ++ (if p x = true then [x] else []) := by
    intro i x e
    rw [List.take_add_one, e, List.filter_append]
    show _ ++ [x].filter p = _
    rw [List.filter_cons, List.filter_nil]
  have step : ∀ (L : Addr), H L = none → ∀ (i : Nat) (x : V) (H' : Hp), xs[i]? = some x → H' = upd H L (.lst (((xs.take i).filter p).map f)) →
      gName j x (wipe σ [j]) H' fun σ2 H2 => wipe σ2 [j] = wipe σ [j] ∧ tt σ2 H2 fun b H3 => if b = true then te σ2 H3 fun y H4 => ∃ acc, H4 L = some (.lst acc) ∧ acc.length < sizeLine ∧ upd H4 L (.lst (acc ++ [y])) = upd H L (.lst (((xs.take (i + 1)).filter p).map f)) else H3 = upd H L (.lst (((xs.take (i + 1)).filter p).map f)) := by
    intro L hL i x H' hi e
    subst e
    have ew : (wipe σ [j]).set j (some x) = σ.set j (some x) := set_wipe
    show wipe ((wipe σ [j]).set j (some x)) [j] = wipe σ [j] ∧ tt ((wipe σ [j]).set j (some x)) _ _
    rw [ew]
    refine ⟨List.set_set .., hs x _ _ _ (List.mem_of_getElem? hi) (same_new hL) (fun hp => ?_) (fun hp => ?_)⟩
    · refine ⟨_, upd_same, ?_, ?_⟩
      · have h1 := List.length_filter_le p (xs.take i)
        have h2 := List.length_take_le i xs
        rw [List.length_map, sizeLine_eq]
        have := List.length_take_le' i xs
        omega
      · rw [upd_upd, take_s i x hi, hp, if_pos rfl, List.map_append]
        rfl
    · rw [take_s i x hi, hp, if_neg Bool.false_ne_true, List.append_nil]
  have fin : ∀ L, H L = none → ∀ H', H' = upd H L (.lst (((xs.take xs.length).filter p).map f)) → Q (.ref L) H' := by
    intro L hL H' e
    rw [List.take_length] at e
    subst e
    exact hd L hL
  rcases hx with hx | hx
  · exact h _ ⟨a, rfl, .inl ⟨⟨xs, hx⟩, fun L hL => lc_list (xs := xs) (fun i H' => H' = upd H L (.lst (((xs.take i).filter p).map f))) rfl (fun i H' _ e => by subst e; exact Same.seq (same_new hL) hx) (fun i x H' hi e => step L hL i x H' hi e) (fin L hL)⟩⟩
  · exact h _ ⟨a, rfl, .inr ⟨⟨xs, hx⟩, fun L hL => lc_tup (xs := xs) (fun i H' => H' = upd H L (.lst (((xs.take i).filter p).map f))) rfl (fun i H' _ e => by subst e; exact Kb.Same.tup (same_new hL) hx) (fun i x H' hi e => step L hL i x H' hi e) (fin L hL)⟩⟩
/-- over a range, whatever the element and the test do: Pv of the turn, the heap and the list so far -/
theorem lcR1G (n : Nat) (Pv : Addr → Nat → Hp → List V → Prop) (h : ∀ R : List V → Hp → Prop, R [nv n] H → ta σ H R) (hn : n < 100000) (h0 : ∀ L, H L = none → Pv L 0 (upd H L (.lst [])) [])
    (hs : ∀ (L : Addr) (i : Nat) (H' : Hp) (acc : List V), H L = none → i < n → H' L = some (.lst acc) → Pv L i H' acc → tt (σ.set j (some (nv i))) H' fun b H3 =>
      if b = true then te (σ.set j (some (nv i))) H3 fun y H4 => H4 L = some (.lst acc) ∧ Pv L (i + 1) (upd H4 L (.lst (acc ++ [y]))) (acc ++ [y]) else H3 L = some (.lst acc) ∧ Pv L (i + 1) H3 acc)
    (mt : ∀ σ H (Q1 Q2 : Bool → Hp → Prop), (∀ b H', Q1 b H' → Q2 b H') → tt σ H Q1 → tt σ H Q2) (me : ∀ σ H (Q1 Q2 : VK), (∀ v H', Q1 v H' → Q2 v H') → te σ H Q1 → te σ H Q2)
    (hd : ∀ (L : Addr) (H' : Hp) (acc : List V), H L = none → H' L = some (.lst acc) → Pv L n H' acc → Q (.ref L) H') : tLc (iRng1 ta) (gName j) tt te [j] σ H Q := by
  refine h _ ⟨(n : Int), rfl, by omega, by omega, fun L hL => ?_⟩
  have e0 : (n : Int).toNat = n := Int.toNat_natCast n
  rw [e0]
  refine lc_range (lo := 0) (n := n) (fun i H' => ∃ acc, H' L = some (.lst acc) ∧ acc.length ≤ i ∧ Pv L i H' acc) ⟨[], upd_same, Nat.zero_le _, h0 L hL⟩ ?_ ?_
  · rintro i H' hi ⟨acc, e1, e2, p⟩
    have e3 : (0 : Int) + (i : Int) = (i : Int) := Int.zero_add _
    rw [e3]
    have ew : (wipe σ [j]).set j (some (nv i)) = σ.set j (some (nv i)) := set_wipe
    show wipe ((wipe σ [j]).set j (some (nv i))) [j] = wipe σ [j] ∧ tt ((wipe σ [j]).set j (some (nv i))) _ _
    rw [ew]
    refine ⟨List.set_set .., mt _ _ _ _ (fun b H3 q => ?_) (hs L i H' acc hL hi e1 p)⟩
    cases b with
    | true =>
      refine me _ _ _ _ (fun y H4 q => ?_) q
      obtain ⟨q1, q2⟩ := q
      exact ⟨acc, q1, by rw [sizeLine_eq]; omega, _, upd_same, by rw [List.length_append]; exact Nat.add_le_add e2 (Nat.le_refl 1), q2⟩
    | false =>
      obtain ⟨q1, q2⟩ := q
      exact ⟨acc, q1, Nat.le_succ_of_le e2, q2⟩
  · rintro H' ⟨acc, e1, _, p⟩
    exact hd L H' acc hL e1 p
/-! ### loops -/
theorem forR1 (n : Nat) (Pv : Nat → L2.St → Hp → Prop) (h : ∀ R : List V → Hp → Prop, R [nv n] H → ta σ H R) (hn : n < 100000) (h0 : Pv 0 σ H)
    (hs : ∀ (i : Nat) (σ' : L2.St) (H' : Hp), i < n → Pv i σ' H' → tb { D with nx := Pv (i + 1), ct := Pv (i + 1), bk := D.nx } (σ'.set j (some (nv i))) H') (hd : ∀ σ' H', Pv n σ' H' → D.nx σ' H') : tFor (iRng1 ta) (gName j) tb D σ H := by
  refine h _ ⟨(n : Int), rfl, by omega, by omega, ?_⟩
  have e0 : (n : Int).toNat = n := Int.toNat_natCast n
  rw [e0]
  refine for_range (lo := 0) (n := n) Pv h0 (fun i σ' H' hi e => ?_) hd
  have e1 : (0 : Int) + (i : Int) = (i : Int) := Int.zero_add _
  rw [e1]
  exact hs i σ' H' hi e
theorem forR2 (lo n : Nat) (Pv : Nat → L2.St → Hp → Prop) (h : ∀ R : List V → Hp → Prop, R [nv lo, nv n] H → ta σ H R) (hn : lo < 100000 ∧ n < 100000) (h0 : Pv 0 σ H)
    (hs : ∀ (i : Nat) (σ' : L2.St) (H' : Hp), lo + i < n → Pv i σ' H' → tb { D with nx := Pv (i + 1), ct := Pv (i + 1), bk := D.nx } (σ'.set j (some (nv (lo + i)))) H') (hd : ∀ σ' H', Pv (n - lo) σ' H' → D.nx σ' H') : tFor (iRng2 ta) (gName j) tb D σ H := by
  refine h _ ⟨(lo : Int), (n : Int), rfl, ⟨by omega, by omega, by omega, by omega⟩, ?_⟩
  have e0 : ((n : Int) - (lo : Int)).toNat = n - lo := by omega
  rw [e0]
  refine for_range (lo := (lo : Int)) (n := n - lo) Pv h0 (fun i σ' H' hi e => ?_) hd
  have e1 : (lo : Int) + (i : Int) = ((lo + i : Nat) : Int) := (Int.natCast_add ..).symm
  rw [e1]
  exact hs i σ' H' (by omega) e
/-- what a loop over a list or a tuple wants: the heap G that it stands in is kept -/
def LoopOk (K : PySem.W.Frag) (g : TG) (tb : TS) (D : Ends) (σ : L2.St) (x : V) (H : Hp) : Prop := ∃ (a : Addr) (xs : List V) (Pv : Nat → L2.St → Hp → Prop) (G : Hp), x = .ref a ∧ Pv 0 σ H ∧ Seq K G a xs ∧ (∀ i σ' H', Pv i σ' H' → Same G H') ∧
  (∀ (i : Nat) (x : V) (σ' : L2.St) (H' : Hp), xs[i]? = some x → Pv i σ' H' → g x σ' H' fun σ2 H2 => tb { D with nx := Pv (i + 1), ct := Pv (i + 1), bk := D.nx } σ2 H2) ∧ (∀ σ' H', Pv xs.length σ' H' → D.nx σ' H')
theorem LoopOk.go {g : TG} {x : V} (h : LoopOk K g tb D σ x H) : ∃ a, x = .ref a ∧ (((∃ xs, SqL K H a xs) ∧ (fun J H1 => ∃ W : Nat → Nat → L2.St → Hp → Prop, (∃ m, W 0 m σ H1) ∧ ∀ i m σ H, W i m σ H →
  (It.stop J i H ∧ D.nx σ H) ∨ (J.go i H ∧ ∃ N : L2.St → Hp → Prop, (∀ σ' H', N σ' H' → ∃ m', m' < m ∧ W (i + 1) m' σ' H') ∧ ∀ x H', J.yld i H x H' → g x σ H' fun σ2 H2 => tb { D with nx := N, ct := N, bk := D.nx } σ2 H2)) (Itl K a) H) ∨
  ((∃ xs, SqT K H a xs) ∧ (fun J H1 => ∃ W : Nat → Nat → L2.St → Hp → Prop, (∃ m, W 0 m σ H1) ∧ ∀ i m σ H, W i m σ H →
  (It.stop J i H ∧ D.nx σ H) ∨ (J.go i H ∧ ∃ N : L2.St → Hp → Prop, (∀ σ' H', N σ' H' → ∃ m', m' < m ∧ W (i + 1) m' σ' H') ∧ ∀ x H', J.yld i H x H' → g x σ H' fun σ2 H2 => tb { D with nx := N, ct := N, bk := D.nx } σ2 H2)) (Itt K a) H)) := by
  obtain ⟨a, xs, Pv, G, rfl, h0, hx, hl, hs, hd⟩ := h
  rcases hx with hx | hx
  · exact ⟨a, rfl, .inl ⟨⟨xs, Same.seq (hl 0 _ _ h0) hx⟩, for_list Pv h0 (fun i σ' H' _ p => Same.seq (hl i σ' H' p) hx) hs hd⟩⟩
  · exact ⟨a, rfl, .inr ⟨⟨xs, Kb.Same.tup (hl 0 _ _ h0) hx⟩, for_tup Pv h0 (fun i σ' H' _ p => Kb.Same.tup (hl i σ' H' p) hx) hs hd⟩⟩
/-- over a list or a tuple that stays, the body leaving all that was tracked but b as it was -/
theorem forS {g : TG} (a : Addr) (xs : List V) (Pv : Nat → L2.St → Hp → Prop) (h : ∀ R : V → Hp → Prop, R (.ref a) H → tl σ H R) (h0 : Pv 0 σ H) (G : Hp) (hx : Seq K G a xs) (hl : ∀ i σ' H', Pv i σ' H' → Same G H')
    (hs : ∀ (i : Nat) (x : V) (σ' : L2.St) (H' : Hp), xs[i]? = some x → Pv i σ' H' → g x σ' H' fun σ2 H2 => tb { D with nx := Pv (i + 1), ct := Pv (i + 1), bk := D.nx } σ2 H2) (hd : ∀ σ' H', Pv xs.length σ' H' → D.nx σ' H') : tFor (iSeq K tl) g tb D σ H :=
  h _ (LoopOk.go ⟨a, xs, Pv, G, rfl, h0, hx, hl, hs, hd⟩)
/-- a promise that asks no more of what follows than what it says -/
def Mono (sp : Sp) : Prop := ∀ vs H (Q Q' : VK) E, (∀ v H', Q v H' → Q' v H') → sp vs H Q E → sp vs H Q' E
/-- for x in f(..) -/
theorem forC {g : TG} {sp : Sp} {dvs : List V} {E : XK} (vs : List V) (h : ∀ R : List V → Hp → Prop, R vs H → ta σ H R) (m : Mono sp) (q : sp (vs ++ dvs) H (fun x H1 => LoopOk K g tb D σ x H1) E) : tFor (iSeq K (tCall sp dvs E ta)) g tb D σ H :=
  h _ (m _ _ _ _ _ (fun _ _ => LoopOk.go) q)
/-- over the numbers and items of a list or a tuple that stays -/
theorem forE {i1 i2 : Nat} (a : Addr) (xs : List V) (Pv : Nat → L2.St → Hp → Prop) (h : ∀ R : List V → Hp → Prop, R [.ref a] H → ta σ H R) (h0 : Pv 0 σ H) (G : Hp) (hx : Seq K G a xs) (hl : ∀ i σ' H', Pv i σ' H' → Same G H')
    (hs : ∀ (i : Nat) (x : V) (σ' : L2.St) (H' : Hp) (T : Addr), xs[i]? = some x → Pv i σ' H' → H' T = none →
      tb { D with nx := Pv (i + 1), ct := Pv (i + 1), bk := D.nx } ((σ'.set i1 (some (nv i))).set i2 (some x)) (upd H' T (.tup [nv i, x]))) (hd : ∀ σ' H', Pv xs.length σ' H' → D.nx σ' H') :
    tFor (iEnumA K ta) (gTup K 2 (gCons (gName i1) (gCons (gName i2) gNil))) tb D σ H := by
  have go : ∀ (i : Nat) (v : V) (σ' : L2.St) (H1 H2 : Hp), Pv i σ' H1 → YPair (fun i => some (.int (i : Nat))) (fun i => xs[i]?) i H1 v H2 →
      gTup K 2 (gCons (gName i1) (gCons (gName i2) gNil)) v σ' H2 fun σ2 H2 => tb { D with nx := Pv (i + 1), ct := Pv (i + 1), bk := D.nx } σ2 H2 := by
    rintro i v σ' H1 H2 hp ⟨T, x, y, rfl, hT, rfl, e1, e2⟩
    cases e1
    exact ⟨T, _, rfl, .of upd_same, rfl, _, _, rfl, _, _, rfl, rfl, hs i y σ' H1 T e2 hp hT⟩
  rcases hx with hx | hx
  · exact h _ ⟨a, xs, rfl, .inl ⟨Same.seq (hl 0 _ _ h0) hx, for_it walk_enum Pv h0 (fun i σ' H' _ p => Same.seq (hl i σ' H' p) hx) (fun i x σ' H1 H2 _ p y => go i x σ' H1 H2 p y) hd⟩⟩
  · exact h _ ⟨a, xs, rfl, .inr ⟨Kb.Same.tup (hl 0 _ _ h0) hx, for_it walk_enT Pv h0 (fun i σ' H' _ p => Kb.Same.tup (hl i σ' H' p) hx) (fun i x σ' H1 H2 _ p y => go i x σ' H1 H2 p y) hd⟩⟩
end
end Kb
namespace Kb
open PySem PySem.Spec PyProof.Rows L2
/-! ### is True, is False -/
def rIsV : R2 := fun x y H Q => ∃ b, y = .bl b ∧ Q (.bl (decide (x = .bl b))) H
theorem op_isBv {X : Cx} : OpR X (compareOp .Is) rIsV := by
  intro pins s σ H x y v u Q I rx ry h
  obtain ⟨b, rfl, q⟩ := h
  cases (show u = Value.bool b from ry)
  have no : x ≠ .bl b → plainIs v (.bool b) = true → v ≠ .bool b → wpAny (model X.prog X.w) X.A (compareOp .Is v (.bool b)) (EP X pins σ Q) X.xe s := fun n p e =>
    wpAny_is_other p e (fin_bl I q (decide_eq_false n))
  cases x with
  | bl a =>
    cases (show v = Value.bool a from rx)
    by_cases e : a = b
    · subst e
      exact wpAny_is_self rfl (fin_bl I q (decide_eq_true rfl))
    · exact no (fun z => e (V.bl.inj z)) rfl fun z => e (Value.bool.inj z)
  | non => cases rx; exact no (fun z => nomatch z) rfl fun z => nomatch z
  | ref a => cases rx; exact no (fun z => nomatch z) rfl fun z => nomatch z
  | ty a => cases rx; exact no (fun z => nomatch z) rfl fun z => nomatch z
  | int a => obtain ⟨t, rfl⟩ := rx; exact no (fun z => nomatch z) rfl fun z => nomatch z
  | str a => obtain ⟨t, rfl⟩ := rx; exact no (fun z => nomatch z) rfl fun z => nomatch z
  | byt a => obtain ⟨t, rfl⟩ := rx; exact no (fun z => nomatch z) rfl fun z => nomatch z
  | flt a => obtain ⟨t, rfl⟩ := rx; exact no (fun z => nomatch z) rfl fun z => nomatch z
theorem hu65 {A : Around} {k : Nat} (hr : Room k A) : A.units + 65 < cLine := by
  have := hr.un
  omega
/-! ### sorted(set(l)) of a list of ints -/
abbrev nSet (w : World) : Obj := { cls := .type "set", dict := none, data := .set #[] 0 (.fresh 0 0 (!w.params.followText "set-order")) }
/-- the state behind the new set -/
abbrev sSet (w : World) (s : Shared) : Shared := { s with heap := s.heap.push (nSet w) }
section
variable {P : Program} {w : World} {A : Around} {E : Value → Shared → Prop} {s : Shared}
set_option maxHeartbeats 4000000 in
theorem set_of_list {l : Addr} {its : Array Value} (ns : List Int) {Q : Value → Shared → Prop} (nh : A.handled = none) (hl : s.heap.IsList l its) (hi : IntsAre its.toList ns) (hb : ns.length + 1 < scanBound)
    (h : ∀ (h' : Heap) (tk c : Nat), SetR w h' s.heap.objs.size (fun j => decide (j ∈ ns)) c → c ≤ ns.length → (∀ b o, s.heap.get? b = some o → h'.get? b = some o) → Q (.ref s.heap.objs.size) { s with heap := h', toks := tk }) :
    wpAny (model P w) A (call (.type "set") [.ref l]) Q E s := by
  have sz : its.size = ns.length := (Array.length_toList (xs := its)).symm.trans (IntsAre.length hi)
  obtain ⟨c, tl, mro⟩ := F.called_set.mro
  have m1 := F.called_set.made
  have m2 := F.called_set.sub
  refine wpAny_call (codeAny_of_tree ?_)
  show wpAny _ _ (callAny (.type "set") _) _ _ _
  refine wpAny_pure ⟨Code.quiet_builtin _ (by decide +kernel), codeAny_builtin F.entry_type_call ?_⟩
  rw [Around.under_plain (weight_type_call_type "set" [.ref l] []) rfl]
  have m3 := F.called_set.notType
  have m4 := F.called_set.canCreate
  have m5 := F.typeCall_set_1 (.ref l)
  repeat (any_goals (first | assumption | wp_step))
  refine codeAny_mono (code_set_led1 (.ref l) (E := E) (Q₁ := fun y z => y = .ref s.heap.objs.size ∧ z = sSet w s) ⟨rfl, rfl⟩) fun r z hr => ?_
  cases r with
  | error e => exact hr
  | ok fl =>
    cases fl with
    | ret y =>
      obtain ⟨rfl, rfl⟩ := hr
      have gS : (s.heap.push (nSet w)).get? s.heap.objs.size = some (nSet w) := Heap.get?_push_size _ rfl
      have tS : Shared.TypeIs (sSet w s) (.ref s.heap.objs.size) "set" := ⟨_, gS, rfl⟩
      have i1 := F.called_set.init.lookup
      have i2 := F.called_set.init.bind (.ref s.heap.objs.size)
      repeat (any_goals (first | assumption | wp_step))
      refine codeAny_mono (codeAny_call_builtin (R := wants (fun r z => r = .none ∧ ∃ h' tk c, z = { s with heap := h', toks := tk } ∧ SetR w h' s.heap.objs.size (fun j => decide (j ∈ ns)) c ∧ c ≤ ns.length ∧
          (∀ b o, s.heap.get? b = some o → h'.get? b = some o)) E) F.called_set.init.plain F.entry_set_init (check_set_init_1 tS ?_)) fun r z hr => ?_
      · obtain ⟨ol, gl, cl, n, dl⟩ := hl
        obtain ⟨oc, od, oo, os⟩ := ol
        simp only at cl dl
        subst cl; subst dl
        have gl' : (s.heap.push (nSet w)).get? l = some { cls := .type "list", dict := od, data := .seq its n, slots := os } := Heap.get?_push_of_some _ gl
        have b1 := F.sub_list_set
        have b2 := F.sub_list_frozenset
        have b3 : (Value.type "list" == Value.type "dict") = false := by decide
        have l1 : (s.heap.push (nSet w)).IsList l its := ⟨_, gl', rfl, n, rfl⟩
        unfold Builtin.«set.__init__» noKeywords Builtin.Frozenset.updateFrom
        generalize hPI : pyIter = PI
        wp_walk
        subst hPI
        refine wpAny_pyIter_list l1 (wpAny_bind (wpAny_runValue ?_))
        have lt : l < s.heap.objs.size := Heap.lt_size gl
        have n3 : A.in1.in1.in1.handled = none := by simp [nh]
        have s1 : (s.heap.push (nSet w)).objs.size = s.heap.objs.size + 1 := Heap.size_push ..
        have ne : l ≠ (s.heap.push (nSet w)).objs.size := by rw [s1]; exact Nat.ne_of_lt (Nat.lt_succ_of_lt lt)
        have nf : s.heap.objs.size ∉ [(s.heap.push (nSet w)).objs.size, l] := by
          rw [s1]
          simp only [List.mem_cons, List.not_mem_nil, or_false, not_or]
          exact ⟨Nat.ne_of_lt (Nat.lt_succ_self _), Nat.ne_of_gt lt⟩
        refine set_update_ints ((Walks.list n3 _ l ne its).toS) s.heap.objs.size nf ns sz hb (fun i v hv => ?_) (its.size - 0) 0 _ (by omega) (Nat.zero_le _)
          ⟨⟨_, Heap.get?_push_size _ rfl, rfl, rfl⟩, (l1.push _)⟩ ⟨0, Nat.le_refl 0, setR_new_at (Heap.get?_push_of_some _ gS)⟩ ?_
        · have hi2 : i < ns.length := by rw [← sz]; exact (Array.getElem?_eq_some_iff.mp hv).1
          obtain ⟨t, e⟩ := IntsAre.int_at hi i v (by rw [Array.getElem?_toList]; exact hv)
          exact ⟨ns[i], t, List.getElem?_eq_getElem hi2, by rw [e, List.getD_eq_getElem?_getD, List.getElem?_eq_getElem hi2] <;> rfl⟩
        · intro z c2 hm hc hR
          obtain ⟨h', g2, d2, tk, o2⟩ := z
          have e1 : g2 = s.gens := hm.gens
          have e2 : d2 = s.drawn := hm.drawn
          have e3 : o2 = s.os := hm.os
          subst e1; subst e2; subst e3
          show wpAny _ _ _ _ _ _
          refine wpAny_pure ?_
          show wpAny _ _ (ret Value.none) _ _ _
          rw [sz] at hc
          refine wpAny_pure ⟨rfl, h', tk, c2, rfl, hR, hc, fun b o e => ?_⟩
          have lb : b < s.heap.objs.size := Heap.lt_size e
          refine hm.heap b o (fun z => ?_) (Heap.get?_push_of_some _ (Heap.get?_push_of_some _ e))
          simp only [List.mem_cons, List.not_mem_nil, or_false] at z
          rcases z with z | z
          · exact Nat.ne_of_lt lb z
          · exact Nat.ne_of_lt (Nat.lt_succ_of_lt lb) (z.trans s1)
      · cases r with
        | error e => exact hr
        | ok fl =>
          cases fl with
          | ret y =>
            obtain ⟨rfl, h', tk, c2, rfl, hS, hc, hk⟩ := hr
            repeat (any_goals (first | assumption | wp_step))
            exact h _ _ _ hS hc hk
          | _ => exact hr.elim
    | _ => exact hr.elim
end
/-- sorted(set(e)), e a list of few ints -/
def tSSet (K : PySem.W.Frag) (ta : TA) : TE := fun σ H Q => ta σ H fun vs H1 => ∃ (a : Addr) (ns : List Int), vs = [.ref a] ∧ SqL K H1 a (ns.map V.int) ∧ ns.length < 64 ∧
  ∀ (out : List Int) (p : Addr), out.Pairwise (· < ·) → (∀ k, k ∈ out ↔ k ∈ ns) → H1 p = none → Q (.ref p) (upd H1 p (.lst (out.map V.int)))
theorem pe_sset {X : Cx} {K : PySem.W.Frag} {e : Expr} {ta : TA} {p1 p2 q1 q2 : Pos} (hK : X.K = K) (hc : X.calm = true) (g1 : Gl X "sorted") (m1 : X.mg "sorted" = none) (g2 : Gl X "set") (m2 : X.mg "set" = none) (ha : PA X [e] ta)
    (he : starEach [e] X.env = [(false, eval e X.env)] := by rfl) (he2 : starEach [.Call (.Name "set" p2) [e] [] q2] X.env = [(false, eval (.Call (.Name "set" p2) [e] [] q2) X.env)] := by rfl) :
    PE X (.Call (.Name "sorted" p1) [.Call (.Name "set" p2) [e] [] q2] [] q1) (tSSet K ta) := by
  subst hK
  refine ⟨fun pins s σ H Q I h => ?_⟩
  refine wpAny_Call_Name_kw (ld_blt I g1 m1 (u := .builtin "sorted") (by decide +kernel) ?_)
  refine PyProof.Rows.callWith_builtin1 ?_ he2 rfl
  rw [he2]
  refine Calls.spliced_cons ?_
  refine wpAny_Call_Name_kw (ld_blt I g2 m2 PyProof.Rows.boot_set ?_)
  refine PyProof.Rows.callWith_type1 (thn (ha.run q2 pins s σ H _ I h) fun us s1 ⟨vs, H1, I1, r1, h1⟩ => ?_) he rfl
  obtain ⟨a, ns, rfl, hs, hl, q⟩ := h1
  rw [Vals.ref1 r1]
  obtain ⟨its, rv, ht, hz⟩ := I1.list hs
  have hi : IntsAre its.toArray.toList ns := rv.ints
  have hd := I1.ok.hd hc
  refine set_of_list ns hd ht.isList hi (by unfold scanBound; omega) fun h' tk c R hcn k => ?_
  refine Calls.spliced_nil ?_
  refine sorted_set R hd (by omega) fun s2 p out n ks k2 g2 o2 hp hg hI hw hm hn => ?_
  have kall : ∀ b u, s1.heap.get? b = some u → s2.heap.get? b = some u := fun b u e => k2 b u (k b u e)
  have ge : s1.heap.objs.size ≤ p := by
    obtain ⟨o, es, ep, t, ho, _⟩ := R
    exact Nat.le_trans (Nat.le_of_lt (Heap.lt_size ho)) hp
  have hlen : (ks.map V.int).length ≤ sizeLine := by rw [List.length_map, hn, sizeLine_eq]; omega
  exact ⟨.ref p, upd H1 p (.lst (ks.map V.int)), I1.call' (ch := []) o2 (Un.laid kall ge (I1.hok.fresh ge)) (I1.hok.laid kall ge ⟨hlen, out.toList, n, vals_of_ints hI, hg⟩) (by rw [g2]; exact I1.bare) (fun _ z => nomatch z), rfl,
    q ks p hw (fun j => by rw [hm j, decide_eq_true_eq]) (I1.hok.fresh ge)⟩
end Kb
namespace Kb
open PySem PySem.Spec PyProof.Rows L2
/-! ### int(x) of a number, int(x) of a bool, abs -/
def rIntI : List V → Hp → VK → Prop := fun xs H Q => ∃ i, xs = [.int i] ∧ Q (.int i) H
def rIntB : List V → Hp → VK → Prop := fun xs H Q => ∃ k, xs = [.bl k] ∧ Q (.int (if k = true then 1 else 0)) H
def rAbsN : List V → Hp → VK → Prop := fun xs H Q => ∃ i, xs = [.int i] ∧ Q (.int (i.natAbs : Int)) H
section
variable {X : Cx}
theorem callIntI : CallR X (.type "int") rIntI := fun pins s σ H xs us Q I r h => call_int1 pins s σ H xs us Q I r (.inl h)
theorem callIntB : CallR X (.type "int") rIntB := fun pins s σ H xs us Q I r h => call_int1 pins s σ H xs us Q I r (.inr h)
theorem callAbsN : CallR X (.builtin "abs") rAbsN := fun pins s σ H xs us Q I r h => by
  obtain ⟨i, e, q⟩ := h
  refine call_abs pins s σ H xs us Q I r ⟨i, e, ?_⟩
  rw [show (if i < 0 then -i else i) = (i.natAbs : Int) by split <;> omega]
  exact q
end
theorem mulL {i j : Int} (h0 : 0 ≤ i) (h1 : i < 2 ^ 64) : CMul i j := .inl ⟨by omega, h1⟩
theorem mulR {i j : Int} (h0 : 0 ≤ j) (h1 : j < 2 ^ 64) : CMul i j := .inr ⟨by omega, h1⟩
section
variable {K : PySem.W.Frag} {σ : L2.St} {H : Hp} {Q : VK} {tt : TT} {te : TE} {ta : TA} {j : Nat}
/-- over a range, the element and the test making what is new -/
theorem lcR1S (n : Nat) (p : Nat → Bool) (f : Nat → V) (h : ∀ R : List V → Hp → Prop, R [nv n] H → ta σ H R) (hn : n < 100000)
    (hs : ∀ (i : Nat) (H' : Hp) (Q1 : VK) (Q2 : Hp → Prop), i < n → Same H H' → (∀ H3, Same H' H3 → p i = true → Q1 (f i) H3) → (∀ H3, Same H' H3 → p i = false → Q2 H3) → tt (σ.set j (some (nv i))) H' fun b H3 => if b = true then te (σ.set j (some (nv i))) H3 Q1 else Q2 H3)
    (hd : ∀ L H', H L = none → Same H H' → H' L = some (.lst (((List.range n).filter p).map f)) → Q (.ref L) H') : tLc (iRng1 ta) (gName j) tt te [j] σ H Q := by
  refine h _ ⟨(n : Int), rfl, by omega, by omega, fun L hL => ?_⟩
  rw [Int.toNat_natCast]
  refine lc_range (lo := 0) (n := n) (fun i H' => Same H H' ∧ H' L = some (.lst (((List.range i).filter p).map f))) ⟨same_new hL, upd_same⟩ (fun i H' hi e => ?_) (fun H' e => hd L H' hL e.1 e.2)
  obtain ⟨s1, e1⟩ := e
  rw [show (0 : Int) + (i : Int) = (i : Int) from Int.zero_add _]
  have ew : (wipe σ [j]).set j (some (nv i)) = σ.set j (some (nv i)) := set_wipe
  show wipe ((wipe σ [j]).set j (some (nv i))) [j] = wipe σ [j] ∧ tt ((wipe σ [j]).set j (some (nv i))) _ _
  rw [ew]
  refine ⟨List.set_set .., hs i _ _ _ hi s1 (fun H3 s3 hp => ?_) fun H3 s3 hp => ?_⟩
  · refine ⟨_, s3 _ _ e1, ?_, fun b o hb => ?_, ?_⟩
    · have := List.length_filter_le p (List.range i)
      rw [List.length_range] at this
      rw [List.length_map, sizeLine_eq]
      omega
    · rw [upd_ne (ne_of_none hb hL)]
      exact s3 _ _ (s1 _ _ hb)
    · rw [upd_same, List.range_succ, List.filter_append, List.filter_cons, List.filter_nil, if_pos hp, List.map_append]
      rfl
  · refine ⟨s1.trans s3, ?_⟩
    rw [List.range_succ, List.filter_append, List.filter_cons, List.filter_nil, if_neg (by rw [hp]; exact Bool.false_ne_true), List.append_nil]
    exact s3 _ _ e1
end
end Kb
namespace Kr
open PySem PySem.Spec PyProof.Rows L2 Kb
def topS (i : Nat) : Stmt := PySem.Challenge.pw_keyrules_k02_what_clashes_with_what.main.body.getD i (.Pass ⟨0, 0, 0, 0⟩)
abbrev s_is_integer : Stmt := topS 8
abbrev s_is_below : Stmt := topS 9
abbrev s_is_between : Stmt := topS 10
abbrev s_is_sequence : Stmt := topS 11
abbrev s_is_row : Stmt := topS 12
abbrev s_lot_wrong : Stmt := topS 13
abbrev s_lot_of : Stmt := topS 14
abbrev s_mask_of : Stmt := topS 15
abbrev s_Keys___init__ : Stmt := inClass (topS 18) 0
abbrev s_need_count : Stmt := topS 19
abbrev s_told_clashes : Stmt := topS 20
abbrev s_need_keys : Stmt := topS 21
abbrev s_need_key : Stmt := topS 22
abbrev s_need_lot : Stmt := topS 23
abbrev s_near_masks : Stmt := topS 24
abbrev s_near_of : Stmt := topS 25
abbrev s_plain_keys : Stmt := topS 26
abbrev s_clash : Stmt := topS 27
abbrev s_clashing : Stmt := topS 28
abbrev s_bare_keys : Stmt := topS 29
abbrev s__law_box : Stmt := topS 31
abbrev s__law_take : Stmt := topS 32
abbrev s__law_mixed : Stmt := topS 33
abbrev s__law_is : Stmt := topS 34
abbrev s__law_lot : Stmt := topS 35
abbrev s__law_mask : Stmt := topS 36
abbrev s__law_near : Stmt := topS 37
abbrev s__law_close : Stmt := topS 38
abbrev s__law_graph : Stmt := topS 39
abbrev s_law : Stmt := topS 40
theorem sc_is_integer : FnScope ["value"] ["value"] (defScope s_is_integer) := ⟨rfl, rfl, rfl, by decide +kernel, rfl, by decide +kernel, by decide +kernel⟩
theorem sc_is_below : FnScope ["value", "limit"] ["value", "limit"] (defScope s_is_below) := ⟨rfl, rfl, rfl, by decide +kernel, rfl, by decide +kernel, by decide +kernel⟩
theorem sc_is_between : FnScope ["value", "least", "greatest"] ["value", "least", "greatest"] (defScope s_is_between) := ⟨rfl, rfl, rfl, by decide +kernel, rfl, by decide +kernel, by decide +kernel⟩
theorem sc_is_sequence : FnScope ["value"] ["value"] (defScope s_is_sequence) := ⟨rfl, rfl, rfl, by decide +kernel, rfl, by decide +kernel, by decide +kernel⟩
theorem sc_is_row : FnScope ["value", "many"] ["value", "many"] (defScope s_is_row) := ⟨rfl, rfl, rfl, by decide +kernel, rfl, by decide +kernel, by decide +kernel⟩
theorem sc_lot_wrong : FnScope ["value", "limit", "seen", "at", "part"] ["value", "limit"] (defScope s_lot_wrong) := ⟨rfl, rfl, rfl, by decide +kernel, rfl, by decide +kernel, by decide +kernel⟩
theorem sc_lot_of : FnScope ["mask", "key"] ["mask"] (defScope s_lot_of) := ⟨rfl, rfl, rfl, by decide +kernel, rfl, by decide +kernel, by decide +kernel⟩
theorem sc_mask_of : FnScope ["lot", "mask", "key"] ["lot"] (defScope s_mask_of) := ⟨rfl, rfl, rfl, by decide +kernel, rfl, by decide +kernel, by decide +kernel⟩
theorem sc_Keys___init__ : FnScope ["self", "many", "clashes"] ["self", "many", "clashes"] (defScope s_Keys___init__) := ⟨rfl, rfl, rfl, by decide +kernel, rfl, by decide +kernel, by decide +kernel⟩
theorem sc_need_count : FnScope ["value", "least", "greatest"] ["value", "least", "greatest"] (defScope s_need_count) := ⟨rfl, rfl, rfl, by decide +kernel, rfl, by decide +kernel, by decide +kernel⟩
theorem sc_told_clashes : FnScope ["value", "many", "seen", "at", "pair"] ["value", "many"] (defScope s_told_clashes) := ⟨rfl, rfl, rfl, by decide +kernel, rfl, by decide +kernel, by decide +kernel⟩
theorem sc_need_keys : FnScope ["value"] ["value"] (defScope s_need_keys) := ⟨rfl, rfl, rfl, by decide +kernel, rfl, by decide +kernel, by decide +kernel⟩
theorem sc_need_key : FnScope ["value", "many"] ["value", "many"] (defScope s_need_key) := ⟨rfl, rfl, rfl, by decide +kernel, rfl, by decide +kernel, by decide +kernel⟩
theorem sc_need_lot : FnScope ["value", "many", "wrong"] ["value", "many"] (defScope s_need_lot) := ⟨rfl, rfl, rfl, by decide +kernel, rfl, by decide +kernel, by decide +kernel⟩
theorem sc_near_masks : FnScope ["keys", "near", "_", "one", "other"] ["keys"] (defScope s_near_masks) := ⟨rfl, rfl, rfl, by decide +kernel, rfl, by decide +kernel, by decide +kernel⟩
theorem sc_near_of : FnScope ["near", "mask", "found", "key"] ["near", "mask"] (defScope s_near_of) := ⟨rfl, rfl, rfl, by decide +kernel, rfl, by decide +kernel, by decide +kernel⟩
theorem sc_plain_keys : FnScope ["many", "key"] ["many"] (defScope s_plain_keys) := ⟨rfl, rfl, rfl, by decide +kernel, rfl, by decide +kernel, by decide +kernel⟩
theorem sc_clash : FnScope ["keys", "first", "second"] ["keys", "first", "second"] (defScope s_clash) := ⟨rfl, rfl, rfl, by decide +kernel, rfl, by decide +kernel, by decide +kernel⟩
theorem sc_clashing : FnScope ["keys", "lot", "mask"] ["keys", "lot"] (defScope s_clashing) := ⟨rfl, rfl, rfl, by decide +kernel, rfl, by decide +kernel, by decide +kernel⟩
theorem sc_bare_keys : FnScope ["keys", "near", "key"] ["keys"] (defScope s_bare_keys) := ⟨rfl, rfl, rfl, by decide +kernel, rfl, by decide +kernel, by decide +kernel⟩
theorem sc__law_box : FnScope ["script", "rest", "state", "k", "cell", "size"] ["script"] (defScope s__law_box) := ⟨rfl, rfl, rfl, by decide +kernel, rfl, by decide +kernel, by decide +kernel⟩
theorem sc__law_take : FnScope ["box", "many", "cell"] ["box", "many"] (defScope s__law_take) := ⟨rfl, rfl, rfl, by decide +kernel, rfl, by decide +kernel, by decide +kernel⟩
theorem sc__law_mixed : FnScope ["box", "row", "left", "told", "turn", "at"] ["box", "row"] (defScope s__law_mixed) := ⟨rfl, rfl, rfl, by decide +kernel, rfl, by decide +kernel, by decide +kernel⟩
theorem sc__law_is : FnScope ["told", "due", "one", "other"] ["told", "due"] (defScope s__law_is) := ⟨rfl, rfl, rfl, by decide +kernel, rfl, by decide +kernel, by decide +kernel⟩
theorem sc__law_lot : FnScope ["mask", "key"] ["mask"] (defScope s__law_lot) := ⟨rfl, rfl, rfl, by decide +kernel, rfl, by decide +kernel, by decide +kernel⟩
theorem sc__law_mask : FnScope ["lot", "mask", "key"] ["lot"] (defScope s__law_mask) := ⟨rfl, rfl, rfl, by decide +kernel, rfl, by decide +kernel, by decide +kernel⟩
theorem sc__law_near : FnScope ["many", "pairs", "near", "key", "one", "other"] ["many", "pairs"] (defScope s__law_near) := ⟨rfl, rfl, rfl, by decide +kernel, rfl, by decide +kernel, by decide +kernel⟩
theorem sc__law_close : FnScope ["near", "mask", "found", "key", "more"] ["near", "mask"] (defScope s__law_close) := ⟨rfl, rfl, rfl, by decide +kernel, rfl, by decide +kernel, by decide +kernel⟩
theorem sc__law_graph : FnScope ["box", "many", "side", "told", "one", "other", "chance", "hit"] ["box", "many"] (defScope s__law_graph) := ⟨rfl, rfl, rfl, by decide +kernel, rfl, by decide +kernel, by decide +kernel⟩
theorem sc_law : FnScope ["script", "box", "turn", "many", "pairs", "keys", "one", "close", "other", "near", "key", "ask", "lot", "more", "told", "both"] ["script"] (defScope s_law) := ⟨rfl, rfl, rfl, by decide +kernel, rfl, by decide +kernel, by decide +kernel⟩
structure Tx (K : PySem.W.Frag) (mg : Str → Option Value) where
  a_is_integer : Addr
  d_is_integer : FuncData
  F_is_integer : Fun K "is_integer" "is_integer" s_is_integer a_is_integer d_is_integer
  g_is_integer : mg "is_integer" = some (.ref a_is_integer)
  b_is_integer : Binds K d_is_integer ["value"] []
  a_is_below : Addr
  d_is_below : FuncData
  F_is_below : Fun K "is_below" "is_below" s_is_below a_is_below d_is_below
  g_is_below : mg "is_below" = some (.ref a_is_below)
  b_is_below : Binds K d_is_below ["value", "limit"] []
  a_is_between : Addr
  d_is_between : FuncData
  F_is_between : Fun K "is_between" "is_between" s_is_between a_is_between d_is_between
  g_is_between : mg "is_between" = some (.ref a_is_between)
  b_is_between : Binds K d_is_between ["value", "least", "greatest"] []
  a_is_sequence : Addr
  d_is_sequence : FuncData
  F_is_sequence : Fun K "is_sequence" "is_sequence" s_is_sequence a_is_sequence d_is_sequence
  g_is_sequence : mg "is_sequence" = some (.ref a_is_sequence)
  b_is_sequence : Binds K d_is_sequence ["value"] []
  a_is_row : Addr
  d_is_row : FuncData
  F_is_row : Fun K "is_row" "is_row" s_is_row a_is_row d_is_row
  g_is_row : mg "is_row" = some (.ref a_is_row)
  b_is_row : Binds K d_is_row ["value", "many"] []
  a_lot_wrong : Addr
  d_lot_wrong : FuncData
  F_lot_wrong : Fun K "lot_wrong" "lot_wrong" s_lot_wrong a_lot_wrong d_lot_wrong
  g_lot_wrong : mg "lot_wrong" = some (.ref a_lot_wrong)
  b_lot_wrong : Binds K d_lot_wrong ["value", "limit"] []
  a_lot_of : Addr
  d_lot_of : FuncData
  F_lot_of : Fun K "lot_of" "lot_of" s_lot_of a_lot_of d_lot_of
  g_lot_of : mg "lot_of" = some (.ref a_lot_of)
  b_lot_of : Binds K d_lot_of ["mask"] []
  a_mask_of : Addr
  d_mask_of : FuncData
  F_mask_of : Fun K "mask_of" "mask_of" s_mask_of a_mask_of d_mask_of
  g_mask_of : mg "mask_of" = some (.ref a_mask_of)
  b_mask_of : Binds K d_mask_of ["lot"] []
  a_Keys___init__ : Addr
  d_Keys___init__ : FuncData
  F_Keys___init__ : Fun K "__init__" "Keys.__init__" s_Keys___init__ a_Keys___init__ d_Keys___init__
  b_Keys___init__ : Binds K d_Keys___init__ ["self", "many", "clashes"] []
  a_need_count : Addr
  d_need_count : FuncData
  F_need_count : Fun K "need_count" "need_count" s_need_count a_need_count d_need_count
  g_need_count : mg "need_count" = some (.ref a_need_count)
  b_need_count : Binds K d_need_count ["value", "least", "greatest"] []
  a_told_clashes : Addr
  d_told_clashes : FuncData
  F_told_clashes : Fun K "told_clashes" "told_clashes" s_told_clashes a_told_clashes d_told_clashes
  g_told_clashes : mg "told_clashes" = some (.ref a_told_clashes)
  b_told_clashes : Binds K d_told_clashes ["value", "many"] []
  a_need_keys : Addr
  d_need_keys : FuncData
  F_need_keys : Fun K "need_keys" "need_keys" s_need_keys a_need_keys d_need_keys
  g_need_keys : mg "need_keys" = some (.ref a_need_keys)
  b_need_keys : Binds K d_need_keys ["value"] []
  a_need_key : Addr
  d_need_key : FuncData
  F_need_key : Fun K "need_key" "need_key" s_need_key a_need_key d_need_key
  g_need_key : mg "need_key" = some (.ref a_need_key)
  b_need_key : Binds K d_need_key ["value", "many"] []
  a_need_lot : Addr
  d_need_lot : FuncData
  F_need_lot : Fun K "need_lot" "need_lot" s_need_lot a_need_lot d_need_lot
  g_need_lot : mg "need_lot" = some (.ref a_need_lot)
  b_need_lot : Binds K d_need_lot ["value", "many"] []
  a_near_masks : Addr
  d_near_masks : FuncData
  F_near_masks : Fun K "near_masks" "near_masks" s_near_masks a_near_masks d_near_masks
  g_near_masks : mg "near_masks" = some (.ref a_near_masks)
  b_near_masks : Binds K d_near_masks ["keys"] []
  a_near_of : Addr
  d_near_of : FuncData
  F_near_of : Fun K "near_of" "near_of" s_near_of a_near_of d_near_of
  g_near_of : mg "near_of" = some (.ref a_near_of)
  b_near_of : Binds K d_near_of ["near", "mask"] []
  a_plain_keys : Addr
  d_plain_keys : FuncData
  F_plain_keys : Fun K "plain_keys" "plain_keys" s_plain_keys a_plain_keys d_plain_keys
  g_plain_keys : mg "plain_keys" = some (.ref a_plain_keys)
  b_plain_keys : Binds K d_plain_keys ["many"] []
  a_clash : Addr
  d_clash : FuncData
  F_clash : Fun K "clash" "clash" s_clash a_clash d_clash
  g_clash : mg "clash" = some (.ref a_clash)
  b_clash : Binds K d_clash ["keys", "first", "second"] []
  a_clashing : Addr
  d_clashing : FuncData
  F_clashing : Fun K "clashing" "clashing" s_clashing a_clashing d_clashing
  g_clashing : mg "clashing" = some (.ref a_clashing)
  b_clashing : Binds K d_clashing ["keys", "lot"] []
  a_bare_keys : Addr
  d_bare_keys : FuncData
  F_bare_keys : Fun K "bare_keys" "bare_keys" s_bare_keys a_bare_keys d_bare_keys
  g_bare_keys : mg "bare_keys" = some (.ref a_bare_keys)
  b_bare_keys : Binds K d_bare_keys ["keys"] []
  a__law_box : Addr
  d__law_box : FuncData
  F__law_box : Fun K "_law_box" "_law_box" s__law_box a__law_box d__law_box
  g__law_box : mg "_law_box" = some (.ref a__law_box)
  b__law_box : Binds K d__law_box ["script"] []
  a__law_take : Addr
  d__law_take : FuncData
  F__law_take : Fun K "_law_take" "_law_take" s__law_take a__law_take d__law_take
  g__law_take : mg "_law_take" = some (.ref a__law_take)
  b__law_take : Binds K d__law_take ["box", "many"] []
  a__law_mixed : Addr
  d__law_mixed : FuncData
  F__law_mixed : Fun K "_law_mixed" "_law_mixed" s__law_mixed a__law_mixed d__law_mixed
  g__law_mixed : mg "_law_mixed" = some (.ref a__law_mixed)
  b__law_mixed : Binds K d__law_mixed ["box", "row"] []
  a__law_is : Addr
  d__law_is : FuncData
  F__law_is : Fun K "_law_is" "_law_is" s__law_is a__law_is d__law_is
  g__law_is : mg "_law_is" = some (.ref a__law_is)
  b__law_is : Binds K d__law_is ["told", "due"] []
  a__law_lot : Addr
  d__law_lot : FuncData
  F__law_lot : Fun K "_law_lot" "_law_lot" s__law_lot a__law_lot d__law_lot
  g__law_lot : mg "_law_lot" = some (.ref a__law_lot)
  b__law_lot : Binds K d__law_lot ["mask"] []
  a__law_mask : Addr
  d__law_mask : FuncData
  F__law_mask : Fun K "_law_mask" "_law_mask" s__law_mask a__law_mask d__law_mask
  g__law_mask : mg "_law_mask" = some (.ref a__law_mask)
  b__law_mask : Binds K d__law_mask ["lot"] []
  a__law_near : Addr
  d__law_near : FuncData
  F__law_near : Fun K "_law_near" "_law_near" s__law_near a__law_near d__law_near
  g__law_near : mg "_law_near" = some (.ref a__law_near)
  b__law_near : Binds K d__law_near ["many", "pairs"] []
  a__law_close : Addr
  d__law_close : FuncData
  F__law_close : Fun K "_law_close" "_law_close" s__law_close a__law_close d__law_close
  g__law_close : mg "_law_close" = some (.ref a__law_close)
  b__law_close : Binds K d__law_close ["near", "mask"] []
  a__law_graph : Addr
  d__law_graph : FuncData
  F__law_graph : Fun K "_law_graph" "_law_graph" s__law_graph a__law_graph d__law_graph
  g__law_graph : mg "_law_graph" = some (.ref a__law_graph)
  b__law_graph : Binds K d__law_graph ["box", "many"] []
  a_law : Addr
  d_law : FuncData
  F_law : Fun K "law" "law" s_law a_law d_law
  g_law : mg "law" = some (.ref a_law)
  b_law : Binds K d_law ["script"] []
  c_Keys : Addr
  g_Keys : mg "Keys" = some (.ref c_Keys)
  m_Keys : Mk K c_Keys a_Keys___init__
  cl_Keys : Cls K c_Keys
  na_many : NoAttr K c_Keys "many"
  na_clashes : NoAttr K c_Keys "clashes"
  ic_Keys : C8.InsC K c_Keys
  g_MOST_KEYS : ∃ t, mg "MOST_KEYS" = some (.int 12 t)
  n_abs : mg "abs" = none
  n_bool : mg "bool" = none
  n_enumerate : mg "enumerate" = none
  n_int : mg "int" = none
  n_isinstance : mg "isinstance" = none
  n_len : mg "len" = none
  n_list : mg "list" = none
  n_range : mg "range" = none
  n_set : mg "set" = none
  n_sorted : mg "sorted" = none
  n_str : mg "str" = none
  n_tuple : mg "tuple" = none
  n_zip : mg "zip" = none
end Kr
namespace Kr
open PySem PySem.Spec PyProof.Rows L2 Kb
section
variable {P : Program} {w : World} {K : PySem.W.Frag} {mg : Str → Option Value} {base : Heap}
/-! ### the law's own box of numbers -/
abbrev ivs (l : List Int) : List V := l.map V.int
/-- the first thing in a list, if that is an object -/
def rest : Option HO → Option Addr
  | some (.lst (.ref r :: _)) => some r
  | _ => none
/-- the heap without the box at b and without its rest -/
def hbx (b : Addr) (H : Hp) : Hp := fun a => if a = b ∨ rest (H b) = some a then none else H a
/-- the box at b: its rest and its state -/
def Bx (b : Addr) (H : Hp) : Prop := ∃ r cs st, H b = some (.lst [.ref r, .int st]) ∧ r ≠ b ∧ H r = some (.lst (ivs cs)) ∧ (∀ c ∈ cs, 0 ≤ c) ∧ cs.length ≤ 63 ∧ 0 ≤ st ∧ st < 2147483647
theorem hbx_of {b a : Addr} {H : Hp} {o : HO} (h : hbx b H a = some o) : a ≠ b ∧ rest (H b) ≠ some a ∧ H a = some o := by
  unfold hbx at h
  split at h
  · cases h
  · rename_i n
    exact ⟨fun e => n (.inl e), fun e => n (.inr e), h⟩
theorem hbx_le (b : Addr) (H : Hp) : Same (hbx b H) H := fun a o h => (hbx_of h).2.2
theorem hbx_at {b a : Addr} {H : Hp} {o : HO} (h : H a = some o) (n : a ≠ b) (m : rest (H b) ≠ some a) : hbx b H a = some o := by
  unfold hbx
  rw [if_neg fun z => z.elim n m]
  exact h
theorem hbx_mono {b : Addr} {H H' : Hp} {o : HO} (e : Same H H') (hb : H b = some o) : Same (hbx b H) (hbx b H') := fun a u h => by
  obtain ⟨h1, h2, h3⟩ := hbx_of h
  exact hbx_at (e _ _ h3) h1 (by rw [e _ _ hb, ← hb]; exact h2)
theorem hbx_free {b a : Addr} {H : Hp} (h : H a = none) : hbx b H a = none := by
  unfold hbx
  split
  · rfl
  · exact h
theorem Bx.is {b : Addr} {H : Hp} (h : Bx b H) : ∃ o, H b = some o := by
  obtain ⟨r, cs, st, h1, _⟩ := h
  exact ⟨_, h1⟩
theorem Bx.same {b : Addr} {H H' : Hp} (h : Bx b H) (e : Same H H') : Bx b H' := by
  obtain ⟨r, cs, st, h1, h2, h3, h4⟩ := h
  exact ⟨r, cs, st, e _ _ h1, h2, e _ _ h3, h4⟩
theorem Bx.mono {b : Addr} {H H' : Hp} (h : Bx b H) (e : Same H H') : Same (hbx b H) (hbx b H') := by
  obtain ⟨o, ho⟩ := h.is
  exact hbx_mono e ho
/-- what is new stands apart from the box -/
theorem Bx.new {b p : Addr} {H H' : Hp} {o : HO} (h : Bx b H) (e : Same H H') (hp : H p = none) (hp2 : H' p = some o) : hbx b H' p = some o := by
  obtain ⟨r, cs, st, h1, h2, h3, h4⟩ := h
  refine hbx_at hp2 (Ne.symm (ne_of_none h1 hp)) ?_
  rw [e _ _ h1]
  exact fun z => ne_of_none h3 hp (Option.some.inj z)
theorem cut_to {xs : List V} {k : Nat} (h : k ≤ xs.length) : cutV xs none (some (k : Int)) = xs.take k := by
  unfold cutV
  rw [HT.sIx_none, HT.sIx_nat, List.drop_zero, Nat.min_eq_left h, Nat.sub_zero]
theorem cut_from {xs : List V} {k : Nat} : cutV xs (some (k : Int)) none = xs.drop k := by
  unfold cutV
  rw [HT.sIx_none, HT.sIx_nat]
  by_cases h : k ≤ xs.length
  · rw [Nat.min_eq_left h, List.take_of_length_le (by rw [List.length_drop]; omega)]
  · rw [List.drop_of_length_le (by omega), List.drop_of_length_le (by omega), List.take_nil]
/-- what is no list stands apart from the box -/
theorem Bx.non {b a : Addr} {H : Hp} {o : HO} (h : Bx b H) (e : H a = some o) (n : ∀ xs, o ≠ .lst xs) : hbx b H a = some o := by
  obtain ⟨r, cs, st, h1, h2, h3, h4⟩ := h
  refine hbx_at e (fun z => ?_) fun z => ?_
  · rw [z, h1] at e
    exact n _ (Option.some.inj e).symm
  · rw [h1] at z
    rw [← (Option.some.inj z : r = a), h3] at e
    exact n _ (Option.some.inj e).symm
/-- an object apart from the box is written -/
theorem hbx_put {b p : Addr} {H : Hp} {o u : HO} (h : hbx b H p = some o) : hbx b (upd H p u) = upd (hbx b H) p u := by
  obtain ⟨h1, h2, h3⟩ := hbx_of h
  funext a
  unfold hbx
  rw [upd_ne (Ne.symm h1)]
  by_cases e : a = p
  · subst e
    rw [if_neg fun z => z.elim h1 h2, upd_same, upd_same]
  · rw [upd_ne e, upd_ne e]
theorem Bx.put {b p : Addr} {H : Hp} {o u : HO} (h : Bx b H) (hp : hbx b H p = some o) : Bx b (upd H p u) := by
  obtain ⟨r, cs, st, h1, h2, h3, h4⟩ := h
  obtain ⟨g1, g2, g3⟩ := hbx_of hp
  refine ⟨r, cs, st, by rw [upd_ne (Ne.symm g1)]; exact h1, h2, ?_, h4⟩
  rw [upd_ne fun e => g2 (by rw [h1, ← e]; rfl)]
  exact h3
/-- over the numbers and items of a list that is made for the loop -/
theorem forEN {σ : L2.St} {H : Hp} {D : Ends} {ta : TA} {tb : TS} {i1 i2 : Nat} (xs : List V) (Pv : Addr → Nat → L2.St → Hp → Prop) (h : ∀ R : List V → Hp → Prop, (∀ p, H p = none → R [.ref p] (upd H p (.lst xs))) → ta σ H R)
    (h0 : ∀ p, H p = none → Pv p 0 σ (upd H p (.lst xs))) (hl : ∀ p i σ' H', H p = none → Pv p i σ' H' → H' p = some (.lst xs))
    (hs : ∀ (p : Addr) (i : Nat) (x : V) (σ' : L2.St) (H' : Hp) (T : Addr), H p = none → xs[i]? = some x → Pv p i σ' H' → H' T = none →
      tb { D with nx := Pv p (i + 1), ct := Pv p (i + 1), bk := D.nx } ((σ'.set i1 (some (nv i))).set i2 (some x)) (upd H' T (.tup [nv i, x]))) (hd : ∀ p σ' H', H p = none → Pv p xs.length σ' H' → D.nx σ' H') :
    tFor (iEnumA K ta) (gTup K 2 (gCons (gName i1) (gCons (gName i2) gNil))) tb D σ H := by
  refine h _ fun p hp => ⟨p, xs, rfl, .inl ⟨.of upd_same, for_it walk_enum (Pv p) (h0 p hp) (fun i σ' H' _ z => .of (hl p i σ' H' hp z)) (fun i v σ' H1 H2 _ z y => ?_) fun σ' H' z => hd p σ' H' hp z⟩⟩
  obtain ⟨T, x, y, rfl, hT, rfl, e1, e2⟩ := y
  cases e1
  exact ⟨T, _, rfl, .of upd_same, rfl, _, _, rfl, _, _, rfl, rfl, hs p i y σ' H1 T hp e2 z hT⟩
theorem cut63 {xs : List V} (h : xs.length ≤ 63) : cutV xs none (some 63) = xs := by
  unfold cutV
  rw [show HT.sIx xs.length 0 none = 0 from rfl, List.drop_zero, show HT.sIx xs.length xs.length (some 63) = min 63 xs.length from HT.sIx_nat _ _ 63, List.take_of_length_le (by omega)]
def sp_law_box (K : PySem.W.Frag) : Sp := fun vs H Q _ => ∃ a ns, vs = [.ref a] ∧ SqL K H a (ivs ns) ∧ ns.length ≤ 63 ∧ ∀ H' b, Same H (hbx b H') → H b = none → Bx b H' → Q (.ref b) H'
theorem ok__law_box (T : Tx K mg) : FnOk P w K mg base CX0 1 T.a__law_box T.d__law_box ["script"] (sp_law_box K) := by
  refine T.F__law_box.ok sc__law_box (fun vs H Q E h => ?_) (fun cdv A outer s H vs Q E hr h => ?_)
  · obtain ⟨a, ns, rfl, _⟩ := h
    rfl
  · obtain ⟨a, ns, rfl, hs, hn, q⟩ := h
    refine ⟨_, (pss_cons (ps_par (i := 1) (j := 2) (by rfl) sc__law_box.nd rfl rfl (by decide) rfl rfl (pa_cons (pe_lst pa_nil) (pa_cons pe_int pa_nil)) (by rfl))
      (pss_cons (ps_for PassesOwn.never rfl (penumK (K := K) rfl (by rfl) T.n_enumerate (pa_cons (pe_slice (slL (K := K) rfl) (pv 0) po_none (po_some pe_int)) pa_nil)) (gtupK (K := K) (n := 2) rfl (by rfl) (pgs_cons (pg_name (i := 3) sc__law_box.nd rfl (Or.inl rfl)) (pgs_cons (pg_name (i := 4) sc__law_box.nd rfl (Or.inl rfl)) pgs_nil))) (pss_cons (ps_set (i := 5) sc__law_box.nd rfl (Or.inl rfl) (pe_op op_add (pe_op op_mul (pe_callB callAbsN (by rfl) T.n_abs (by decide +kernel) (pa_cons (pv 4) pa_nil)) pe_int) (pe_callTy callIntB (by rfl) T.n_int (by decide +kernel) (pa_cons (pe_cmpR op_lt (pv 4) pe_int (nomark _)) pa_nil))))
      (pss_cons (ps_if (pt_cmpR op_ge (pe_callB callAbsN (by rfl) T.n_abs (by decide +kernel) (pa_cons (pv 4) pa_nil)) (pe_op op_pow pe_int pe_int) (nomark _)) (pss_one (ps_expr (bmK (K := K) rfl PySem.F.plainAttrs_list PySem.F.slot_list_append PySem.F.type_list_append mt_append (pv 1) (pa_cons (pe_callB callAbsN (by rfl) T.n_abs (by decide +kernel) (pa_cons (pv 4) pa_nil)) pa_nil)))) pss_nil)
      (pss_one (ps_set (i := 2) sc__law_box.nd rfl (Or.inl rfl) (pe_op op_add (pe_op op_mod (pe_callTy callIntI (by rfl) T.n_int (by decide +kernel) (pa_cons (pe_op op_add (pe_op op_add (pe_op op_mul (pv 2) pe_int) (pe_op op_mul (pe_op op_mod (pe_callTy callIntI (by rfl) T.n_int (by decide +kernel) (pa_cons (pv 5) pa_nil)) pe_int) (pe_op op_add (pe_op op_mul pe_int (pv 3)) pe_int))) pe_int) pa_nil)) pe_int) pe_int))))))
      (pss_one (ps_ret (pe_lst (pa_cons (pv 1) (pa_cons (pv 2) pa_nil))))))), ?_⟩
    rw [show L2.start ["script", "rest", "state", "k", "cell", "size"] [.ref a] = [some (.ref a), none, none, none, none, none] from rfl]
    generalize hF1 : tFor _ _ _ = F1
    (try simp only [tVar, tC, tOp, tUn, rI, rI0, rU, rEq, rNe, scal, tTest, tB, tAnd, tOr, tNot, tAndV, tOrV, tNotV, tIf, tChain, tNil, tCons, tCB, tCall, tTup, tLst, tRet, tRetN, tDrop, tSeq, tNext, tIfS, tAsg, gName, tPar, tPar3, gNil, gCons, gTup, gSub, tAug, tSl, tNoPart, tPart, tBM, tBM0, tYes, tIsP, iSeq, iEnumA, RZ.iZipA, iRng1, iRng2, iList, iTup, rIsi, rIsB, rIxL, rIxT, rIxA, rLenA, rListOf, rTupOf, rSetL, rSlL, rCat, rAppend, tFld, sFld, tMake, tBits, Int.ofNat_inj, cast1, cast0, TruV, cxOf, Cx.nox, Cx.wish, tNever, tBreak, tCont, ipI, tDIn, tDNotIn, sDPut, tDNewT, tDNewK, tDGet, rSortedPO, rSortedI, rIn, rEqD, rNeD, rInD, rNotInD, tSSet, rIsV, rIntI, rIntB, rAbsN, tLstRg, tRg1, tRg2, List.append_nil, List.nil_append, List.cons_append, Option.some.injEq, exists_eq_left', exists_eq_left, exists_eq_right, exists_eq_right', List.getElem?_cons_zero, List.getElem?_cons_succ, List.set_cons_zero, List.set_cons_succ, List.cons.injEq, and_true, true_and, exists_and_left, exists_and_right, and_assoc, V.int.injEq, V.bl.injEq, V.ref.injEq, V.str.injEq, reduceCtorEq, decide_true, decide_false, Bool.not_true, Bool.not_false, Bool.false_eq_true, if_false, if_true, ite_true, ite_false, List.length_cons, List.length_nil])
    refine ⟨by decide, fun r hr0 => ?_⟩
    subst hF1
    refine forEN (ivs ns) (fun p i σ' H' => ∃ st y3 y4 y5 cs, σ' = [some (.ref a), some (.ref r), some (.int st), y3, y4, y5] ∧ Same H H' ∧ H' p = some (.lst (ivs ns)) ∧ H' r = some (.lst (ivs cs)) ∧ p ≠ r ∧ (∀ c ∈ cs, 0 ≤ c) ∧ cs.length ≤ i ∧ 0 ≤ st ∧ st < 2147483647) (fun R h => ?_) (fun p hp => ?_) (fun p i σ' H' hp z => ?_) ?_ ?_
    · (try simp only [tVar, tC, tOp, tUn, rI, rI0, rU, rEq, rNe, scal, tTest, tB, tAnd, tOr, tNot, tAndV, tOrV, tNotV, tIf, tChain, tNil, tCons, tCB, tCall, tTup, tLst, tRet, tRetN, tDrop, tSeq, tNext, tIfS, tAsg, gName, tPar, tPar3, gNil, gCons, gTup, gSub, tAug, tSl, tNoPart, tPart, tBM, tBM0, tYes, tIsP, iSeq, iEnumA, RZ.iZipA, iRng1, iRng2, iList, iTup, rIsi, rIsB, rIxL, rIxT, rIxA, rLenA, rListOf, rTupOf, rSetL, rSlL, rCat, rAppend, tFld, sFld, tMake, tBits, Int.ofNat_inj, cast1, cast0, TruV, cxOf, Cx.nox, Cx.wish, tNever, tBreak, tCont, ipI, tDIn, tDNotIn, sDPut, tDNewT, tDNewK, tDGet, rSortedPO, rSortedI, rIn, rEqD, rNeD, rInD, rNotInD, tSSet, rIsV, rIntI, rIntB, rAbsN, tLstRg, tRg1, tRg2, List.append_nil, List.nil_append, List.cons_append, Option.some.injEq, exists_eq_left', exists_eq_left, exists_eq_right, exists_eq_right', List.getElem?_cons_zero, List.getElem?_cons_succ, List.set_cons_zero, List.set_cons_succ, List.cons.injEq, and_true, true_and, exists_and_left, exists_and_right, and_assoc, V.int.injEq, V.bl.injEq, V.ref.injEq, V.str.injEq, reduceCtorEq, decide_true, decide_false, Bool.not_true, Bool.not_false, Bool.false_eq_true, if_false, if_true, ite_true, ite_false, List.length_cons, List.length_nil])
      refine ⟨ivs ns, Same.seq (same_new hr0) hs, ?_⟩
      rw [cut63 (by rw [List.length_map]; exact hn)]
      exact h
    · have hne : p ≠ r := fun e => by rw [e, upd_same] at hp; cases hp
      exact ⟨40503, _, _, _, [], rfl, (same_new hr0).trans (same_new hp), upd_same, by rw [upd_ne (Ne.symm hne)]; exact upd_same, hne, fun c hc => (nomatch hc), Nat.le_refl _, by decide, by decide⟩
    · obtain ⟨_, _, _, _, _, _, _, z, _⟩ := z
      exact z
    · rintro p i x σ' H' t hp hx ⟨st, y3, y4, y5, cs, rfl, sm, ep, er, ne, hc, hl, s0, s1⟩ ht
      have lt : i < 63 := by have := (List.getElem?_eq_some_iff.mp hx).1; rw [List.length_map] at this; omega
      rw [List.getElem?_map] at hx
      obtain ⟨c, _, rfl⟩ := Option.map_eq_some_iff.mp hx
      (try simp only [tVar, tC, tOp, tUn, rI, rI0, rU, rEq, rNe, scal, tTest, tB, tAnd, tOr, tNot, tAndV, tOrV, tNotV, tIf, tChain, tNil, tCons, tCB, tCall, tTup, tLst, tRet, tRetN, tDrop, tSeq, tNext, tIfS, tAsg, gName, tPar, tPar3, gNil, gCons, gTup, gSub, tAug, tSl, tNoPart, tPart, tBM, tBM0, tYes, tIsP, iSeq, iEnumA, RZ.iZipA, iRng1, iRng2, iList, iTup, rIsi, rIsB, rIxL, rIxT, rIxA, rLenA, rListOf, rTupOf, rSetL, rSlL, rCat, rAppend, tFld, sFld, tMake, tBits, Int.ofNat_inj, cast1, cast0, TruV, cxOf, Cx.nox, Cx.wish, tNever, tBreak, tCont, ipI, tDIn, tDNotIn, sDPut, tDNewT, tDNewK, tDGet, rSortedPO, rSortedI, rIn, rEqD, rNeD, rInD, rNotInD, tSSet, rIsV, rIntI, rIntB, rAbsN, tLstRg, tRg1, tRg2, List.append_nil, List.nil_append, List.cons_append, Option.some.injEq, exists_eq_left', exists_eq_left, exists_eq_right, exists_eq_right', List.getElem?_cons_zero, List.getElem?_cons_succ, List.set_cons_zero, List.set_cons_succ, List.cons.injEq, and_true, true_and, exists_and_left, exists_and_right, and_assoc, V.int.injEq, V.bl.injEq, V.ref.injEq, V.str.injEq, reduceCtorEq, decide_true, decide_false, Bool.not_true, Bool.not_false, Bool.false_eq_true, if_false, if_true, ite_true, ite_false, List.length_cons, List.length_nil])
      have md : ∀ z : Int, 0 ≤ z % 2147483629 ∧ z % 2147483629 < 2147483629 := fun z => ⟨Int.emod_nonneg z (by decide), Int.emod_lt_of_pos z (by decide)⟩
      have m1 := md ((c.natAbs : Int) * 2 + if decide (c < 0) = true then 1 else 0)
      have m2 := md (st * 48271 + ((c.natAbs : Int) * 2 + if decide (c < 0) = true then 1 else 0) % 2147483629 * (2 * (i : Int) + 69621) + 11)
      have ct : CMul st 48271 ∧ (0 : Int) < 2147483629 ∧ CMul 2 (i : Int) ∧ CMul (((c.natAbs : Int) * 2 + if decide (c < 0) = true then 1 else 0) % 2147483629) (2 * (i : Int) + 69621) :=
        ⟨mulR (by decide) (by decide), (show (0 : Int) < 2147483629 by decide), mulL (by decide) (by decide), mulL m1.1 (by omega)⟩
      have nt : r ≠ t := fun e => by rw [e, ht] at er; cases er
      have np : p ≠ t := fun e => by rw [e, ht] at ep; cases ep
      have sm1 : Same H (upd H' t (.tup [nv i, V.int c])) := sm.trans (same_new ht)
      refine ⟨mulR (by decide) (by decide), ⟨by decide, by decide, by decide⟩, ?_⟩
      split
      · refine ⟨ty_lst (.of (by rw [upd_ne nt]; exact er)), ivs cs, by rw [upd_ne nt]; exact er, by rw [List.length_map, sizeLine_eq]; omega, ct.1, ct.2.1, ct.2.2.1, ct.2.2.2, by decide, fun b o hb => ?_, ?_, cs ++ [(c.natAbs : Int)], ?_, ne, fun d hd => ?_, ?_, by omega, by omega⟩
        · rw [upd_ne (ne_of_none hb hr0)]
          exact sm1 _ _ hb
        · rw [upd_ne ne, upd_ne np]
          exact ep
        · rw [upd_same]
          show _ = some (HO.lst ((cs ++ [(c.natAbs : Int)]).map V.int))
          rw [List.map_append]
          rfl
        · rcases List.mem_append.mp hd with hd | hd
          · exact hc d hd
          · rw [List.mem_singleton.mp hd]
            exact Int.natCast_nonneg _
        · rw [List.length_append]
          exact Nat.add_le_add hl (Nat.le_refl 1)
      · exact ⟨ct.1, ct.2.1, ct.2.2.1, ct.2.2.2, by decide, sm1, by rw [upd_ne np]; exact ep, cs, by rw [upd_ne nt]; exact er, ne, hc, by omega, by omega, by omega⟩
    · rintro p σ' H' hp ⟨st, y3, y4, y5, cs, rfl, sm, ep, er, ne, hc, hl, s0, s1⟩
      (try simp only [tVar, tC, tOp, tUn, rI, rI0, rU, rEq, rNe, scal, tTest, tB, tAnd, tOr, tNot, tAndV, tOrV, tNotV, tIf, tChain, tNil, tCons, tCB, tCall, tTup, tLst, tRet, tRetN, tDrop, tSeq, tNext, tIfS, tAsg, gName, tPar, tPar3, gNil, gCons, gTup, gSub, tAug, tSl, tNoPart, tPart, tBM, tBM0, tYes, tIsP, iSeq, iEnumA, RZ.iZipA, iRng1, iRng2, iList, iTup, rIsi, rIsB, rIxL, rIxT, rIxA, rLenA, rListOf, rTupOf, rSetL, rSlL, rCat, rAppend, tFld, sFld, tMake, tBits, Int.ofNat_inj, cast1, cast0, TruV, cxOf, Cx.nox, Cx.wish, tNever, tBreak, tCont, ipI, tDIn, tDNotIn, sDPut, tDNewT, tDNewK, tDGet, rSortedPO, rSortedI, rIn, rEqD, rNeD, rInD, rNotInD, tSSet, rIsV, rIntI, rIntB, rAbsN, tLstRg, tRg1, tRg2, List.append_nil, List.nil_append, List.cons_append, Option.some.injEq, exists_eq_left', exists_eq_left, exists_eq_right, exists_eq_right', List.getElem?_cons_zero, List.getElem?_cons_succ, List.set_cons_zero, List.set_cons_succ, List.cons.injEq, and_true, true_and, exists_and_left, exists_and_right, and_assoc, V.int.injEq, V.bl.injEq, V.ref.injEq, V.str.injEq, reduceCtorEq, decide_true, decide_false, Bool.not_true, Bool.not_false, Bool.false_eq_true, if_false, if_true, ite_true, ite_false, List.length_cons, List.length_nil])
      refine ⟨by decide, fun b hb => ?_⟩
      have hb0 := back sm hb
      refine q _ b (fun d o hd => ?_) hb0 ⟨r, cs, st, upd_same, ne_of_none er hb, same_new hb _ _ er, hc, by rw [List.length_map] at hl; omega, s0, s1⟩
      refine hbx_at (same_new hb _ _ (sm _ _ hd)) (ne_of_none hd hb0) ?_
      rw [upd_same]
      exact fun e => ne_of_none hd hr0 (Option.some.inj e).symm
theorem dp_ints (cs : List Int) {H : Hp} : DpAll K H (ivs cs) (cs.map PyData.int) := by
  induction cs with
  | nil => exact .nil
  | cons c r ih => exact .cons (.int c) ih
theorem hbx_take {b r p : Addr} {st st' : Int} {H H4 : Hp} (hb : H b = some (.lst [.ref r, .int st])) (s : Same H H4) (hp : p = r ∨ H p = none) : Same (hbx b H) (hbx b (upd H4 b (.lst [.ref p, .int st']))) := fun a o h => by
  obtain ⟨h1, h2, h3⟩ := hbx_of h
  refine hbx_at ?_ h1 ?_
  · rw [upd_ne h1]
    exact s _ _ h3
  · rw [upd_same]
    intro e
    have e2 : p = a := Option.some.inj e
    subst e2
    rcases hp with hp | hp
    · exact h2 (by rw [hb, hp]; rfl)
    · rw [hp] at h3
      cases h3
theorem cut1 (x : V) (xs : List V) : cutV (x :: xs) (some 1) none = xs := by
  unfold cutV
  rw [show HT.sIx (x :: xs).length 0 (some 1) = min 1 (x :: xs).length from HT.sIx_nat _ _ 1, HT.sIx_none, List.length_cons, show min 1 (xs.length + 1) = 1 by omega, List.drop_succ_cons, List.drop_zero, List.take_of_length_le (by omega)]
def sp_law_take (K : PySem.W.Frag) : Sp := fun vs H Q _ => ∃ b, ∃ m : Nat, vs = [.ref b, nv m] ∧ (1 ≤ m ∧ m < 1000000) ∧ Bx b H ∧ ∀ H' k, Same (hbx b H) (hbx b H') → Bx b H' → k < m → Q (nv k) H'
theorem ok__law_take (T : Tx K mg) : FnOk P w K mg base CX0 1 T.a__law_take T.d__law_take ["box", "many"] (sp_law_take K) := by
  refine T.F__law_take.ok sc__law_take (fun vs H Q E h => ?_) (fun cdv A outer s H vs Q E hr h => ?_)
  · obtain ⟨b, m, rfl, _⟩ := h
    rfl
  · obtain ⟨b, m, rfl, ⟨m1, m2⟩, ⟨r, cs, st, eb, nr, er, hc, hl, s0, s1⟩, q⟩ := h
    refine ⟨_, (pss_cons (ps_if (pt_cmpR (neDK (K := K) rfl hr.units) (pe_ix (ixL (K := K) rfl) (pv 0) pe_int (fun _ _ => rfl)) (pe_lst pa_nil) (nomark _)) (pss_cons (ps_set (i := 2) sc__law_take.nd rfl (Or.inl rfl) (pe_ix (ixL (K := K) rfl) (pe_ix (ixL (K := K) rfl) (pv 0) pe_int (fun _ _ => rfl)) pe_int (fun _ _ => rfl)))
      (pss_cons (ps_asg (pe_op op_cat (pe_ifExp (pt_cmpR op_ge (pv 2) (pv 1) (nomark _)) (pe_lst (pa_cons (pe_op op_fdiv (pv 2) (pv 1)) pa_nil)) (pe_lst pa_nil)) (pe_slice (slL (K := K) rfl) (pe_ix (ixL (K := K) rfl) (pv 0) pe_int (fun _ _ => rfl)) (po_some pe_int) po_none)) (pg_sub (pv 0) pe_int set_list))
      (pss_one (ps_ret (pe_op op_mod (pe_callTy callIntI (by rfl) T.n_int (by decide +kernel) (pa_cons (pv 2) pa_nil)) (pv 1)))))) pss_nil)
      (pss_cons (ps_asg (pe_op op_mod (pe_callTy callIntI (by rfl) T.n_int (by decide +kernel) (pa_cons (pe_op op_mul (pe_ix (ixL (K := K) rfl) (pv 0) pe_int (fun _ _ => rfl)) pe_int) pa_nil)) pe_int) (pg_sub (pv 0) pe_int set_list))
      (pss_one (ps_ret (pe_op op_mod (pe_callTy callIntI (by rfl) T.n_int (by decide +kernel) (pa_cons (pe_op op_fdiv (pe_op op_add (pe_op op_mul (pe_ix (ixL (K := K) rfl) (pv 0) pe_int (fun _ _ => rfl)) pe_int) pe_int) pe_int) pa_nil)) (pv 1)))))), ?_⟩
    rw [show L2.start ["box", "many", "cell"] [.ref b, nv m] = [some (.ref b), some (nv m), none] from rfl]
    (try simp only [tVar, tC, tOp, tUn, rI, rI0, rU, rEq, rNe, scal, tTest, tB, tAnd, tOr, tNot, tAndV, tOrV, tNotV, tIf, tChain, tNil, tCons, tCB, tCall, tTup, tLst, tRet, tRetN, tDrop, tSeq, tNext, tIfS, tAsg, gName, tPar, tPar3, gNil, gCons, gTup, gSub, tAug, tSl, tNoPart, tPart, tBM, tBM0, tYes, tIsP, iSeq, iEnumA, RZ.iZipA, iRng1, iRng2, iList, iTup, rIsi, rIsB, rIxL, rIxT, rIxA, rLenA, rListOf, rTupOf, rSetL, rSlL, rCat, rAppend, tFld, sFld, tMake, tBits, Int.ofNat_inj, cast1, cast0, TruV, cxOf, Cx.nox, Cx.wish, tNever, tBreak, tCont, ipI, tDIn, tDNotIn, sDPut, tDNewT, tDNewK, tDGet, rSortedPO, rSortedI, rIn, rEqD, rNeD, rInD, rNotInD, tSSet, rIsV, rIntI, rIntB, rAbsN, tLstRg, tRg1, tRg2, List.append_nil, List.nil_append, List.cons_append, Option.some.injEq, exists_eq_left', exists_eq_left, exists_eq_right, exists_eq_right', List.getElem?_cons_zero, List.getElem?_cons_succ, List.set_cons_zero, List.set_cons_succ, List.cons.injEq, and_true, true_and, exists_and_left, exists_and_right, and_assoc, V.int.injEq, V.bl.injEq, V.ref.injEq, V.str.injEq, reduceCtorEq, decide_true, decide_false, Bool.not_true, Bool.not_false, Bool.false_eq_true, if_false, if_true, ite_true, ite_false, List.length_cons, List.length_nil])
    refine ⟨_, .of eb, _, rfl, by decide, fun p hp => ⟨_, .lst (.of (same_new hp _ _ er)) (dp_ints cs), _, .lst (.of upd_same) .nil, PySem.W.shaped_ints cs, by decide, ?_⟩⟩
    have bp : b ≠ p := ne_of_none eb hp
    have eb1 : (upd H p (.lst [])) b = some (.lst [.ref r, .int st]) := by rw [upd_ne bp]; exact eb
    have m0 : (0 : Int) < (m : Int) := by omega
    have md : ∀ z : Int, ∃ k : Nat, z % (m : Int) = (k : Int) ∧ k < m := fun z => by
      have h1 := Int.emod_nonneg z (Int.ne_of_gt m0)
      have h2 := Int.emod_lt_of_pos z m0
      exact ⟨(z % (m : Int)).toNat, by omega, by omega⟩
    cases cs with
    | nil =>
      refine iteF ?_
      refine ⟨_, .of eb1, _, rfl, st, rfl, mulR (by decide) (by decide), (show (0 : Int) < 2147483647 by decide), _, eb1, 1, rfl, _, .of upd_same, _, rfl, _, rfl, mulR (by decide) (by decide), ⟨by decide, by decide⟩, m0, ?_⟩
      obtain ⟨k, e, hk⟩ := md ((st * 48271 % 2147483647 * 69621 + 7) / 1013)
      rw [e]
      have h1 := Int.emod_nonneg (st * 48271) (show (2147483647 : Int) ≠ 0 by decide)
      have h2 := Int.emod_lt_of_pos (st * 48271) (show (0 : Int) < 2147483647 by decide)
      refine q _ k (hbx_take eb (same_new hp) (.inl rfl)) ⟨r, [], _, upd_same, nr, ?_, hc, hl, h1, h2⟩ hk
      rw [upd_ne nr]
      exact same_new hp _ _ er
    | cons c t =>
      refine iteT ?_
      have c0 : 0 ≤ c := hc c List.mem_cons_self
      have er1 : (upd H p (.lst [])) r = some (.lst (ivs (c :: t))) := same_new hp _ _ er
      have fin : ∀ (hs : List Int) (H4 : Hp) (p4 : Addr), Same H H4 → H4 p4 = some (.lst (ivs hs ++ ivs t)) → H p4 = none → hs.length ≤ 1 → (∀ c ∈ hs, 0 ≤ c) → Q (.int (c % (m : Int))) (upd H4 b (.lst [.ref p4, .int st])) := by
        intro hs H4 p4 s4 e4 n4 l4 c4
        obtain ⟨k, e, hk⟩ := md c
        rw [e]
        have nb : p4 ≠ b := Ne.symm (ne_of_none eb n4)
        refine q _ k (hbx_take eb s4 (.inr n4)) ⟨p4, hs ++ t, st, upd_same, nb, ?_, fun d hd => ?_, ?_, s0, s1⟩ hk
        · rw [upd_ne nb, e4]
          show _ = some (HO.lst ((hs ++ t).map V.int))
          rw [List.map_append]
        · rcases List.mem_append.mp hd with hd | hd
          · exact c4 d hd
          · exact hc d (List.mem_cons_of_mem _ hd)
        · rw [List.length_append]
          rw [List.length_cons] at hl
          omega
      refine ⟨_, .of eb1, _, rfl, r, rfl, _, .of er1, _, atI_nat (j := 0) rfl, c, rfl, ?_⟩
      have lt : (ivs t).length ≤ 63 := by rw [List.length_map]; rw [List.length_cons] at hl; omega
      split
      · refine ⟨c, rfl, ⟨m0, by omega⟩, by decide, fun p2 h2 => ?_⟩
        have s2 := same_new (o := .lst [.int (c / (m : Int))]) h2
        refine ⟨_, .of (s2 _ _ eb1), _, rfl, r, rfl, _, .of (s2 _ _ er1), fun p3 h3 => ?_⟩
        rw [show cutV (ivs (c :: t)) (some 1) none = ivs t from cut1 _ _]
        have s3 := same_new (o := .lst (ivs t)) h3
        refine ⟨_, s3 _ _ upd_same, _, upd_same, by rw [sizeLine_eq]; show 0 + 1 + _ ≤ _; omega, fun p4 h4 => ?_⟩
        have s4 := same_new (o := .lst ([.int (c / (m : Int))] ++ ivs t)) h4
        have eb4 := s4 _ _ (s3 _ _ (s2 _ _ eb1))
        refine ⟨_, eb4, 0, rfl, c, rfl, m0, ?_⟩
        refine fin [c / (m : Int)] _ p4 ((((same_new hp).trans s2).trans s3).trans s4) upd_same (back (((same_new hp).trans s2).trans s3) h4) (Nat.le_refl _) fun d hd => ?_
        rw [List.mem_singleton.mp hd]
        exact Int.ediv_nonneg c0 (Int.le_of_lt m0)
      · refine ⟨by decide, fun p2 h2 => ?_⟩
        have s2 := same_new (o := .lst []) h2
        refine ⟨_, .of (s2 _ _ eb1), _, rfl, r, rfl, _, .of (s2 _ _ er1), fun p3 h3 => ?_⟩
        rw [show cutV (ivs (c :: t)) (some 1) none = ivs t from cut1 _ _]
        have s3 := same_new (o := .lst (ivs t)) h3
        refine ⟨_, s3 _ _ upd_same, _, upd_same, by rw [sizeLine_eq]; show 0 + _ ≤ _; omega, fun p4 h4 => ?_⟩
        have s4 := same_new (o := .lst ([] ++ ivs t)) h4
        have eb4 := s4 _ _ (s3 _ _ (s2 _ _ eb1))
        refine ⟨_, eb4, 0, rfl, c, rfl, m0, ?_⟩
        refine fin [] _ p4 ((((same_new hp).trans s2).trans s3).trans s4) upd_same (back (((same_new hp).trans s2).trans s3) h4) (Nat.zero_le _) fun d hd => nomatch hd
def sp_law_mixed (K : PySem.W.Frag) : Sp := fun vs H Q _ => ∃ b a xs, vs = [.ref b, .ref a] ∧ Bx b H ∧ Seq K H a xs ∧ xs.length ≤ 1000 ∧
  ∀ H' p ys, Same (hbx b H) (hbx b H') → Bx b H' → H p = none → hbx b H' p = some (.lst ys) → ys.Perm xs → Q (.ref p) H'
theorem ok__law_mixed (T : Tx K mg) : FnOk P w K mg base CX0 2 T.a__law_mixed T.d__law_mixed ["box", "row"] (sp_law_mixed K) := by
  refine T.F__law_mixed.ok sc__law_mixed (fun vs H Q E h => ?_) (fun cdv A outer s H vs Q E hr h => ?_)
  · obtain ⟨b, a, xs, rfl, _⟩ := h
    rfl
  · obtain ⟨b, a, xs, rfl, hb, hs, hn, q⟩ := h
    refine ⟨_, (pss_cons (ps_par (i := 2) (j := 3) (by rfl) sc__law_mixed.nd rfl rfl (by decide) rfl rfl (pa_cons (pe_callTy (listOfK (K := K) rfl) (by rfl) T.n_list (by decide +kernel) (pa_cons (pv 1) pa_nil)) (pa_cons (pe_lst pa_nil) pa_nil)) (by rfl))
      (pss_cons (ps_for PassesOwn.never rfl (pi_range1 (by rfl) T.n_range (pa_cons (pe_callB (lenK (K := K) rfl) (by rfl) T.n_len PySem.boot_len (pa_cons (pv 1) pa_nil)) pa_nil)) (pg_name (i := 4) sc__law_mixed.nd rfl (Or.inl rfl)) (pss_cons (ps_set (i := 5) sc__law_mixed.nd rfl (Or.inl rfl) (pe_call (ok__law_take T) (hr.mono (by decide)) (by rfl) T.g__law_take T.F__law_take.kp T.b__law_take .nil pass0 (pa_cons (pv 0) (pa_cons (pe_callB (lenK (K := K) rfl) (by rfl) T.n_len PySem.boot_len (pa_cons (pv 2) pa_nil)) pa_nil))))
      (pss_cons (ps_expr (bmK (K := K) rfl PySem.F.plainAttrs_list PySem.F.slot_list_append PySem.F.type_list_append mt_append (pv 3) (pa_cons (pe_ix (ixL (K := K) rfl) (pv 2) (pv 5) (fun _ _ => rfl)) pa_nil)))
      (pss_one (ps_set (i := 2) sc__law_mixed.nd rfl (Or.inl rfl) (pe_op op_cat (pe_slice (slL (K := K) rfl) (pv 2) po_none (po_some (pv 5))) (pe_slice (slL (K := K) rfl) (pv 2) (po_some (pe_op op_add (pv 5) pe_int)) po_none)))))))
      (pss_one (ps_ret (pv 3))))), ?_⟩
    rw [show L2.start ["box", "row", "left", "told", "turn", "at"] [.ref b, .ref a] = [some (.ref b), some (.ref a), none, none, none, none] from rfl]
    generalize hF1 : tFor _ _ _ = F1
    (try simp only [tVar, tC, tOp, tUn, rI, rI0, rU, rEq, rNe, scal, tTest, tB, tAnd, tOr, tNot, tAndV, tOrV, tNotV, tIf, tChain, tNil, tCons, tCB, tCall, tTup, tLst, tRet, tRetN, tDrop, tSeq, tNext, tIfS, tAsg, gName, tPar, tPar3, gNil, gCons, gTup, gSub, tAug, tSl, tNoPart, tPart, tBM, tBM0, tYes, tIsP, iSeq, iEnumA, RZ.iZipA, iRng1, iRng2, iList, iTup, rIsi, rIsB, rIxL, rIxT, rIxA, rLenA, rListOf, rTupOf, rSetL, rSlL, rCat, rAppend, tFld, sFld, tMake, tBits, Int.ofNat_inj, cast1, cast0, TruV, cxOf, Cx.nox, Cx.wish, tNever, tBreak, tCont, ipI, tDIn, tDNotIn, sDPut, tDNewT, tDNewK, tDGet, rSortedPO, rSortedI, rIn, rEqD, rNeD, rInD, rNotInD, tSSet, rIsV, rIntI, rIntB, rAbsN, tLstRg, tRg1, tRg2, List.append_nil, List.nil_append, List.cons_append, Option.some.injEq, exists_eq_left', exists_eq_left, exists_eq_right, exists_eq_right', List.getElem?_cons_zero, List.getElem?_cons_succ, List.set_cons_zero, List.set_cons_succ, List.cons.injEq, and_true, true_and, exists_and_left, exists_and_right, and_assoc, V.int.injEq, V.bl.injEq, V.ref.injEq, V.str.injEq, reduceCtorEq, decide_true, decide_false, Bool.not_true, Bool.not_false, Bool.false_eq_true, if_false, if_true, ite_true, ite_false, List.length_cons, List.length_nil])
    refine ⟨xs, hs, fun l0 hl0 => ⟨by decide, fun t ht => ?_⟩⟩
    subst hF1
    have t0 : H t = none := back (same_new hl0) ht
    have nlt : l0 ≠ t := fun e => by rw [← e, upd_same] at ht; cases ht
    have sm1 : Same H (upd (upd H l0 (.lst xs)) t (.lst [])) := (same_new hl0).trans (same_new ht)
    obtain ⟨ob, eb⟩ := hb.is
    have hbl : b ≠ l0 := ne_of_none eb hl0
    have hbt : b ≠ t := ne_of_none eb t0
    refine forR1 xs.length (fun i σ' H' => ∃ L y4 y5 ls ts, σ' = [some (.ref b), some (.ref a), some (.ref L), some (.ref t), y4, y5] ∧ Same (hbx b H) (hbx b H') ∧ Bx b H' ∧ hbx b H' L = some (.lst ls) ∧ hbx b H' t = some (.lst ts) ∧ L ≠ t ∧ (ts ++ ls).Perm xs ∧ ts.length = i) (fun R h => ?_) (by omega) ?_ ?_ ?_
    · (try simp only [tVar, tC, tOp, tUn, rI, rI0, rU, rEq, rNe, scal, tTest, tB, tAnd, tOr, tNot, tAndV, tOrV, tNotV, tIf, tChain, tNil, tCons, tCB, tCall, tTup, tLst, tRet, tRetN, tDrop, tSeq, tNext, tIfS, tAsg, gName, tPar, tPar3, gNil, gCons, gTup, gSub, tAug, tSl, tNoPart, tPart, tBM, tBM0, tYes, tIsP, iSeq, iEnumA, RZ.iZipA, iRng1, iRng2, iList, iTup, rIsi, rIsB, rIxL, rIxT, rIxA, rLenA, rListOf, rTupOf, rSetL, rSlL, rCat, rAppend, tFld, sFld, tMake, tBits, Int.ofNat_inj, cast1, cast0, TruV, cxOf, Cx.nox, Cx.wish, tNever, tBreak, tCont, ipI, tDIn, tDNotIn, sDPut, tDNewT, tDNewK, tDGet, rSortedPO, rSortedI, rIn, rEqD, rNeD, rInD, rNotInD, tSSet, rIsV, rIntI, rIntB, rAbsN, tLstRg, tRg1, tRg2, List.append_nil, List.nil_append, List.cons_append, Option.some.injEq, exists_eq_left', exists_eq_left, exists_eq_right, exists_eq_right', List.getElem?_cons_zero, List.getElem?_cons_succ, List.set_cons_zero, List.set_cons_succ, List.cons.injEq, and_true, true_and, exists_and_left, exists_and_right, and_assoc, V.int.injEq, V.bl.injEq, V.ref.injEq, V.str.injEq, reduceCtorEq, decide_true, decide_false, Bool.not_true, Bool.not_false, Bool.false_eq_true, if_false, if_true, ite_true, ite_false, List.length_cons, List.length_nil])
      exact ⟨xs, Same.sq sm1 hs, h⟩
    · refine ⟨l0, _, _, xs, [], rfl, hb.mono sm1, hb.same sm1, ?_, ?_, nlt, .refl _, rfl⟩
      · exact hb.new sm1 hl0 (same_new ht _ _ upd_same)
      · exact hb.new sm1 t0 upd_same
    · rintro i σ' H' hi ⟨L, y4, y5, ls, ts, rfl, sm, hb2, eL, et, ne, pm, ln⟩
      (try simp only [tVar, tC, tOp, tUn, rI, rI0, rU, rEq, rNe, scal, tTest, tB, tAnd, tOr, tNot, tAndV, tOrV, tNotV, tIf, tChain, tNil, tCons, tCB, tCall, tTup, tLst, tRet, tRetN, tDrop, tSeq, tNext, tIfS, tAsg, gName, tPar, tPar3, gNil, gCons, gTup, gSub, tAug, tSl, tNoPart, tPart, tBM, tBM0, tYes, tIsP, iSeq, iEnumA, RZ.iZipA, iRng1, iRng2, iList, iTup, rIsi, rIsB, rIxL, rIxT, rIxA, rLenA, rListOf, rTupOf, rSetL, rSlL, rCat, rAppend, tFld, sFld, tMake, tBits, Int.ofNat_inj, cast1, cast0, TruV, cxOf, Cx.nox, Cx.wish, tNever, tBreak, tCont, ipI, tDIn, tDNotIn, sDPut, tDNewT, tDNewK, tDGet, rSortedPO, rSortedI, rIn, rEqD, rNeD, rInD, rNotInD, tSSet, rIsV, rIntI, rIntB, rAbsN, tLstRg, tRg1, tRg2, List.append_nil, List.nil_append, List.cons_append, Option.some.injEq, exists_eq_left', exists_eq_left, exists_eq_right, exists_eq_right', List.getElem?_cons_zero, List.getElem?_cons_succ, List.set_cons_zero, List.set_cons_succ, List.cons.injEq, and_true, true_and, exists_and_left, exists_and_right, and_assoc, V.int.injEq, V.bl.injEq, V.ref.injEq, V.str.injEq, reduceCtorEq, decide_true, decide_false, Bool.not_true, Bool.not_false, Bool.false_eq_true, if_false, if_true, ite_true, ite_false, List.length_cons, List.length_nil])
      have lls : ls.length = xs.length - i := by
        have := pm.length_eq
        rw [List.length_append] at this
        omega
      refine ⟨ls, .inl (.of (hbx_le _ _ _ _ eL)), b, ls.length, rfl, ⟨by omega, by omega⟩, hb2, fun H1 k s1 hb3 hk => ?_⟩
      (try simp only [tVar, tC, tOp, tUn, rI, rI0, rU, rEq, rNe, scal, tTest, tB, tAnd, tOr, tNot, tAndV, tOrV, tNotV, tIf, tChain, tNil, tCons, tCB, tCall, tTup, tLst, tRet, tRetN, tDrop, tSeq, tNext, tIfS, tAsg, gName, tPar, tPar3, gNil, gCons, gTup, gSub, tAug, tSl, tNoPart, tPart, tBM, tBM0, tYes, tIsP, iSeq, iEnumA, RZ.iZipA, iRng1, iRng2, iList, iTup, rIsi, rIsB, rIxL, rIxT, rIxA, rLenA, rListOf, rTupOf, rSetL, rSlL, rCat, rAppend, tFld, sFld, tMake, tBits, Int.ofNat_inj, cast1, cast0, TruV, cxOf, Cx.nox, Cx.wish, tNever, tBreak, tCont, ipI, tDIn, tDNotIn, sDPut, tDNewT, tDNewK, tDGet, rSortedPO, rSortedI, rIn, rEqD, rNeD, rInD, rNotInD, tSSet, rIsV, rIntI, rIntB, rAbsN, tLstRg, tRg1, tRg2, List.append_nil, List.nil_append, List.cons_append, Option.some.injEq, exists_eq_left', exists_eq_left, exists_eq_right, exists_eq_right', List.getElem?_cons_zero, List.getElem?_cons_succ, List.set_cons_zero, List.set_cons_succ, List.cons.injEq, and_true, true_and, exists_and_left, exists_and_right, and_assoc, V.int.injEq, V.bl.injEq, V.ref.injEq, V.str.injEq, reduceCtorEq, decide_true, decide_false, Bool.not_true, Bool.not_false, Bool.false_eq_true, if_false, if_true, ite_true, ite_false, List.length_cons, List.length_nil])
      have eL1 := hbx_le _ _ _ _ (s1 _ _ eL)
      have et1 := s1 _ _ et
      have hx : ls[k]? = some ls[k] := List.getElem?_eq_getElem hk
      refine ⟨ty_lst (.of (hbx_le _ _ _ _ et1)), ls, .of eL1, _, atI_nat hx, ts, hbx_le _ _ _ _ et1, by rw [sizeLine_eq]; omega, ?_⟩
      have hb4 : Bx b (upd H1 t (.lst (ts ++ [ls[k]]))) := hb3.put et1
      have eL4 : (upd H1 t (.lst (ts ++ [ls[k]]))) L = some (.lst ls) := by rw [upd_ne ne]; exact eL1
      have s4 : Same (hbx b H) (hbx b (upd H1 t (.lst (ts ++ [ls[k]])))) := fun a o h => by
        rw [hbx_put et1, upd_ne (fun e => ?_)]
        · exact s1 _ _ (sm _ _ h)
        · rw [e, hbx_free t0] at h
          cases h
      have et4 : hbx b (upd H1 t (.lst (ts ++ [ls[k]]))) t = some (.lst (ts ++ [ls[k]])) := by rw [hbx_put et1, upd_same]
      refine ⟨ls, .of eL4, fun p1 hp1 => ⟨ls, .of (same_new hp1 _ _ eL4), fun p2 hp2 => ⟨_, same_new hp2 _ _ upd_same, _, upd_same, ?_, fun p3 hp3 => ?_⟩⟩⟩
      · have l1 := cutV_length ls none (some (k : Int))
        have l2 := cutV_length ls (some ((k : Int) + 1)) none
        rw [sizeLine_eq]
        omega
      · have e5 := ((same_new (o := .lst (cutV ls none (some (k : Int)))) hp1).trans (same_new (o := .lst (cutV ls (some ((k : Int) + 1)) none)) hp2)).trans (same_new (o := .lst (cutV ls none (some (k : Int)) ++ cutV ls (some ((k : Int) + 1)) none)) hp3)
        have f3 := back ((same_new (o := .lst (cutV ls none (some (k : Int)))) hp1).trans (same_new (o := .lst (cutV ls (some ((k : Int) + 1)) none)) hp2)) hp3
        refine ⟨s4.trans (hb4.mono e5), hb4.same e5, _, hb4.new e5 f3 upd_same, _, hb4.mono e5 _ _ et4, ?_, ?_, ?_⟩
        · exact Ne.symm (ne_of_none (hbx_le _ _ _ _ et4) f3)
        · rw [cut_to (by omega), show (k : Int) + 1 = ((k + 1 : Nat) : Int) from rfl, cut_from]
          refine List.Perm.trans ?_ pm
          rw [List.append_assoc]
          refine List.Perm.append_left _ ?_
          have : ls = ls.take k ++ ls[k] :: ls.drop (k + 1) := by
            rw [← List.drop_eq_getElem_cons hk, List.take_append_drop]
          exact ((List.perm_middle (l₁ := ls.take k) (a := ls[k]) (l₂ := ls.drop (k + 1))).symm).trans (List.Perm.of_eq this.symm)
        · rw [List.length_append, ln]
          rfl
    · rintro σ' H' ⟨L, y4, y5, ls, ts, rfl, sm, hb2, eL, et, ne, pm, ln⟩
      (try simp only [tVar, tC, tOp, tUn, rI, rI0, rU, rEq, rNe, scal, tTest, tB, tAnd, tOr, tNot, tAndV, tOrV, tNotV, tIf, tChain, tNil, tCons, tCB, tCall, tTup, tLst, tRet, tRetN, tDrop, tSeq, tNext, tIfS, tAsg, gName, tPar, tPar3, gNil, gCons, gTup, gSub, tAug, tSl, tNoPart, tPart, tBM, tBM0, tYes, tIsP, iSeq, iEnumA, RZ.iZipA, iRng1, iRng2, iList, iTup, rIsi, rIsB, rIxL, rIxT, rIxA, rLenA, rListOf, rTupOf, rSetL, rSlL, rCat, rAppend, tFld, sFld, tMake, tBits, Int.ofNat_inj, cast1, cast0, TruV, cxOf, Cx.nox, Cx.wish, tNever, tBreak, tCont, ipI, tDIn, tDNotIn, sDPut, tDNewT, tDNewK, tDGet, rSortedPO, rSortedI, rIn, rEqD, rNeD, rInD, rNotInD, tSSet, rIsV, rIntI, rIntB, rAbsN, tLstRg, tRg1, tRg2, List.append_nil, List.nil_append, List.cons_append, Option.some.injEq, exists_eq_left', exists_eq_left, exists_eq_right, exists_eq_right', List.getElem?_cons_zero, List.getElem?_cons_succ, List.set_cons_zero, List.set_cons_succ, List.cons.injEq, and_true, true_and, exists_and_left, exists_and_right, and_assoc, V.int.injEq, V.bl.injEq, V.ref.injEq, V.str.injEq, reduceCtorEq, decide_true, decide_false, Bool.not_true, Bool.not_false, Bool.false_eq_true, if_false, if_true, ite_true, ite_false, List.length_cons, List.length_nil])
      have l0 : ls = [] := by
        have := pm.length_eq
        rw [List.length_append] at this
        exact List.length_eq_zero_iff.mp (by omega)
      rw [l0, List.append_nil] at pm
      exact q H' t ts sm hb2 t0 et pm
end
end Kr
namespace Kr
open PySem PySem.Spec PyProof.Rows L2 Kb
section
variable {P : Program} {w : World} {K : PySem.W.Frag} {mg : Str → Option Value} {base : Heap}
/-! ### the law's own comparison -/
/-- two values that are one datum of less depth than n, of None, bools, ints, texts and tuples -/
inductive TD (K : PySem.W.Frag) (H : Hp) : Nat → V → V → Prop
  | non (n : Nat) : TD K H (n + 1) .non .non
  | bl (n : Nat) (b : Bool) : TD K H (n + 1) (.bl b) (.bl b)
  | int (n : Nat) (i : Int) : TD K H (n + 1) (.int i) (.int i)
  | str (n : Nat) (t : Str) : TD K H (n + 1) (.str t) (.str t)
  | tup {n : Nat} {a b : Addr} {xs ys : List V} : SqT K H a xs → SqT K H b ys → xs.length = ys.length → (∀ (i : Nat) (x y : V), xs[i]? = some x → ys[i]? = some y → TD K H n x y) → TD K H (n + 1) (.ref a) (.ref b)
theorem TD.same {H H' : Hp} {n : Nat} {x y : V} (e : Same H H') (h : TD K H n x y) : TD K H' n x y := by
  induction h with
  | non n => exact .non n
  | bl n b => exact .bl n b
  | int n i => exact .int n i
  | str n t => exact .str n t
  | tup h1 h2 h3 _ ih => exact .tup (Kb.Same.tup e h1) (Kb.Same.tup e h2) h3 ih
theorem TD.ints {H : Hp} {n : Nat} {a b : Addr} {l : List Nat} (h1 : H a = some (.tup (nvs l))) (h2 : H b = some (.tup (nvs l))) : TD K H (n + 2) (.ref a) (.ref b) := by
  refine .tup (.inl (.inl h1)) (.inl (.inl h2)) rfl fun i x y e1 e2 => ?_
  rw [e1] at e2
  cases e2
  rw [List.getElem?_map] at e1
  obtain ⟨c, _, rfl⟩ := Option.map_eq_some_iff.mp e1
  exact .int n _
/-- over the pairs of two tuples of one length, the test never holding -/
theorem lcZ0 {σ : L2.St} {H : Hp} {Q : VK} {ta : TA} {tt : TT} {te : TE} {i1 i2 : Nat} (a b : Addr) (xs ys : List V) (hi : i1 ≠ i2) (h : ∀ R : List V → Hp → Prop, R [.ref a, .ref b] H → ta σ H R) (hx : SqT K H a xs) (hy : SqT K H b ys) (hl : xs.length = ys.length)
    (hs : ∀ (i : Nat) (x y : V) (H' : Hp) (Q1 : VK) (Q2 : Hp → Prop), xs[i]? = some x → ys[i]? = some y → Same H H' → (∀ H3, Same H' H3 → Q2 H3) → tt ((σ.set i1 (some x)).set i2 (some y)) H' fun c H3 => if c = true then te ((σ.set i1 (some x)).set i2 (some y)) H3 Q1 else Q2 H3)
    (hd : ∀ (L : Addr) (H' : Hp), H L = none → Same H H' → H' L = some (.lst []) → Q (.ref L) H') : tLc (RZ.iZipA K ta) (gTup K 2 (gCons (gName i1) (gCons (gName i2) gNil))) tt te [i1, i2] σ H Q := by
  refine h _ ⟨a, b, xs, ys, rfl, .inr ⟨hx, hy, fun L hL => ?_⟩⟩
  have sL : Same H (upd H L (.lst [])) := same_new hL
  refine ⟨fun i m H' => m = xs.length - i ∧ i ≤ xs.length ∧ Same (upd H L (.lst [])) H', ⟨xs.length, rfl, Nat.zero_le _, Same.refl _⟩, ?_⟩
  rintro i m H' ⟨rfl, hi2, s⟩
  have s2 := sL.trans s
  have qx := Kb.Same.tup s2 hx
  have qy := Kb.Same.tup s2 hy
  by_cases lt : i < xs.length
  · have ex : xs[i]? = some xs[i] := List.getElem?_eq_getElem lt
    have lt2 : i < ys.length := by omega
    have ey : ys[i]? = some ys[i] := List.getElem?_eq_getElem lt2
    refine .inr ⟨⟨xs, ys, _, _, qx, qy, ex, ey⟩, fun H3 => Same (upd H L (.lst [])) H3, fun H3 p => ⟨xs.length - (i + 1), by omega, rfl, lt, p⟩, fun v H3 yl => ?_⟩
    obtain ⟨t, x, y, rfl, ht, rfl, f1, f2⟩ := yl
    have e1 := f1 xs qx
    have e2 := f2 ys qy
    have st := same_new (o := .tup [x, y]) ht
    refine ⟨t, _, rfl, .of upd_same, rfl, _, _, rfl, _, _, rfl, rfl, ?_⟩
    have ew : ((wipe σ [i1, i2]).set i1 (some x)).set i2 (some y) = (σ.set i1 (some x)).set i2 (some y) := by
      show (((σ.set i2 none).set i1 none).set i1 (some x)).set i2 (some y) = _
      rw [List.set_set, List.set_comm _ _ hi, List.set_set, List.set_comm _ _ hi.symm]
    show wipe (((wipe σ [i1, i2]).set i1 (some x)).set i2 (some y)) [i1, i2] = wipe σ [i1, i2] ∧ tt (((wipe σ [i1, i2]).set i1 (some x)).set i2 (some y)) _ _
    rw [ew]
    refine ⟨?_, hs i x y _ _ _ e1 e2 (s2.trans st) fun H4 s4 => (s.trans st).trans s4⟩
    show ((((σ.set i1 (some x)).set i2 (some y)).set i2 none).set i1 none) = ((σ.set i2 none).set i1 none)
    rw [List.set_set, List.set_comm _ _ hi, List.set_set, List.set_comm _ _ hi.symm]
  · have e : i = xs.length := by omega
    exact .inl ⟨⟨xs, ys, qx, qy, .inl (by omega)⟩, hd L H' hL s2 (s _ _ upd_same)⟩
def sp_law_is (K : PySem.W.Frag) (n : Nat) : Sp := fun vs H Q _ => ∃ x y, vs = [x, y] ∧ TD K H n x y ∧ ∀ H', Same H H' → Q (.bl true) H'
theorem ok_law_is_n (T : Tx K mg) : ∀ n, FnOk P w K mg base CX0 (n + 1) T.a__law_is T.d__law_is ["told", "due"] (sp_law_is K n) := by
  intro n
  induction n with
  | zero =>
    refine T.F__law_is.ok sc__law_is (fun vs H Q E h => ?_) (fun cdv A outer s H vs Q E hr h => ?_)
    all_goals
      obtain ⟨x, y, _, h, _⟩ := h
      cases h
  | succ n ih =>
    refine T.F__law_is.ok sc__law_is (fun vs H Q E h => by obtain ⟨x, y, rfl, _⟩ := h; rfl) (fun cdv A outer s H vs Q E hr h => ?_)
    obtain ⟨x, y, rfl, td, q⟩ := h
    refine ⟨_, (pss_cons (ps_if (pt_val (pe_callB (isiK (K := K) rfl) (by rfl) T.n_isinstance (by decide +kernel) (pa_cons (pv 1) (pa_cons (pe_bltn (v := .ty "tuple") (by rfl) T.n_tuple (by decide +kernel) rfl) pa_nil)))) (pss_cons (ps_if (PW.pt (pw_or (pt_not (pt_val (pe_callB (isiK (K := K) rfl) (by rfl) T.n_isinstance (by decide +kernel) (pa_cons (pv 0) (pa_cons (pe_bltn (v := .ty "tuple") (by rfl) T.n_tuple (by decide +kernel) rfl) pa_nil))))) (pw_or1 (pt_cmpR op_ne (pe_callB (lenK (K := K) rfl) (by rfl) T.n_len PySem.boot_len (pa_cons (pv 0) pa_nil)) (pe_callB (lenK (K := K) rfl) (by rfl) T.n_len PySem.boot_len (pa_cons (pv 1) pa_nil)) (nomark _))))) (pss_one (ps_ret pe_bl)) pss_nil)
      (pss_one (ps_ret (pe_cmpR (eqDK (K := K) rfl hr.units) (pe_lc (own := [("one", 2), ("other", 3)]) (by rfl) sc__law_is.nd (pzipK (K := K) rfl (by rfl) T.n_zip (pa_cons (pv 0) (pa_cons (pv 1) pa_nil))) (blkOk_by (own := [("one", 2), ("other", 3)]) (N := ["told", "due", "one", "other"]) (sc := defScope s__law_is) (by decide +kernel)) (fun _ _ _ _ _ => (gtupK (K := K) (n := 2) rfl (by rfl) (pgs_cons (pg_name (i := 2) sc__law_is.nd rfl (by first | exact Or.inl rfl | exact Or.inr rfl)) (pgs_cons (pg_name (i := 3) sc__law_is.nd rfl (by first | exact Or.inl rfl | exact Or.inr rfl)) pgs_nil)))) (fun _ _ _ _ _ => (pts_one (pt_not (pt_val (pe_call ih (hr.mono (by omega)) (by rfl) T.g__law_is T.F__law_is.kp T.b__law_is .nil pass0 (pa_cons (pv 2) (pa_cons (pv 3) pa_nil))))))) (fun _ _ _ _ _ => pe_int)) (pe_lst pa_nil) (nomark _))))) pss_nil)
      (pss_cons (ps_if (PW.pt (pw_or (pt_cmpR op_isN (pv 1) pe_non (nomark _)) (pw_or (pt_cmpR op_isBv (pv 1) pe_bl (nomark _)) (pw_or1 (pt_cmpR op_isBv (pv 1) pe_bl (nomark _)))))) (pss_one (ps_ret (pe_ifExp (pt_cmpR op_isN (pv 1) pe_non (nomark _)) (pe_cmpR op_isN (pv 0) pe_non (nomark _)) (pe_ifExp (pt_cmpR op_isBv (pv 1) pe_bl (nomark _)) (pe_cmpR op_isBv (pv 0) pe_bl (nomark _)) (pe_cmpR op_isBv (pv 0) pe_bl (nomark _)))))) pss_nil)
      (pss_cons (ps_if (pt_val (pe_callB (isiK (K := K) rfl) (by rfl) T.n_isinstance (by decide +kernel) (pa_cons (pv 1) (pa_cons (pe_bltn (v := .ty "int") (by rfl) T.n_int (by decide +kernel) rfl) pa_nil)))) (pss_one (ps_ret (pe_and (pe_callB (isiK (K := K) rfl) (by rfl) T.n_isinstance (by decide +kernel) (pa_cons (pv 0) (pa_cons (pe_bltn (v := .ty "int") (by rfl) T.n_int (by decide +kernel) rfl) pa_nil))) (pe_and (pe_not (pe_callB (isiK (K := K) rfl) (by rfl) T.n_isinstance (by decide +kernel) (pa_cons (pv 0) (pa_cons (pe_bltn (v := .ty "bool") (by rfl) T.n_bool (by decide +kernel) rfl) pa_nil)))) (pe_one (pe_cmpR op_eq (pv 0) (pv 1) (nomark _))))))) pss_nil)
      (pss_one (ps_ret (pe_and (pe_callB (isiK (K := K) rfl) (by rfl) T.n_isinstance (by decide +kernel) (pa_cons (pv 1) (pa_cons (pe_bltn (v := .ty "str") (by rfl) T.n_str (by decide +kernel) rfl) pa_nil))) (pe_and (pe_callB (isiK (K := K) rfl) (by rfl) T.n_isinstance (by decide +kernel) (pa_cons (pv 0) (pa_cons (pe_bltn (v := .ty "str") (by rfl) T.n_str (by decide +kernel) rfl) pa_nil))) (pe_one (pe_cmpR op_eq (pv 0) (pv 1) (nomark _)))))))))), ?_⟩
    rw [show L2.start ["told", "due", "one", "other"] [x, y] = [some (x), some (y), none, none] from rfl]
    cases td with
    | non =>
      (try simp only [tVar, tC, tOp, tUn, rI, rI0, rU, rEq, rNe, scal, tTest, tB, tAnd, tOr, tNot, tAndV, tOrV, tNotV, tIf, tChain, tNil, tCons, tCB, tCall, tTup, tLst, tRet, tRetN, tDrop, tSeq, tNext, tIfS, tAsg, gName, tPar, tPar3, gNil, gCons, gTup, gSub, tAug, tSl, tNoPart, tPart, tBM, tBM0, tYes, tIsP, iSeq, iEnumA, RZ.iZipA, iRng1, iRng2, iList, iTup, rIsi, rIsB, rIxL, rIxT, rIxA, rLenA, rListOf, rTupOf, rSetL, rSlL, rCat, rAppend, tFld, sFld, tMake, tBits, Int.ofNat_inj, cast1, cast0, TruV, cxOf, Cx.nox, Cx.wish, tNever, tBreak, tCont, ipI, tDIn, tDNotIn, sDPut, tDNewT, tDNewK, tDGet, rSortedPO, rSortedI, rIn, rEqD, rNeD, rInD, rNotInD, tSSet, rIsV, rIntI, rIntB, rAbsN, tLstRg, tRg1, tRg2, List.append_nil, List.nil_append, List.cons_append, Option.some.injEq, exists_eq_left', exists_eq_left, exists_eq_right, exists_eq_right', List.getElem?_cons_zero, List.getElem?_cons_succ, List.set_cons_zero, List.set_cons_succ, List.cons.injEq, and_true, true_and, exists_and_left, exists_and_right, and_assoc, V.int.injEq, V.bl.injEq, V.ref.injEq, V.str.injEq, reduceCtorEq, decide_true, decide_false, Bool.not_true, Bool.not_false, Bool.false_eq_true, if_false, if_true, ite_true, ite_false, List.length_cons, List.length_nil])
      refine ⟨_, _, .ty "tuple", .base .non, false, kit_ty (by decide +kernel), iteF ?_⟩
      exact q _ (Same.refl _)
    | bl _ b =>
      (try simp only [tVar, tC, tOp, tUn, rI, rI0, rU, rEq, rNe, scal, tTest, tB, tAnd, tOr, tNot, tAndV, tOrV, tNotV, tIf, tChain, tNil, tCons, tCB, tCall, tTup, tLst, tRet, tRetN, tDrop, tSeq, tNext, tIfS, tAsg, gName, tPar, tPar3, gNil, gCons, gTup, gSub, tAug, tSl, tNoPart, tPart, tBM, tBM0, tYes, tIsP, iSeq, iEnumA, RZ.iZipA, iRng1, iRng2, iList, iTup, rIsi, rIsB, rIxL, rIxT, rIxA, rLenA, rListOf, rTupOf, rSetL, rSlL, rCat, rAppend, tFld, sFld, tMake, tBits, Int.ofNat_inj, cast1, cast0, TruV, cxOf, Cx.nox, Cx.wish, tNever, tBreak, tCont, ipI, tDIn, tDNotIn, sDPut, tDNewT, tDNewK, tDGet, rSortedPO, rSortedI, rIn, rEqD, rNeD, rInD, rNotInD, tSSet, rIsV, rIntI, rIntB, rAbsN, tLstRg, tRg1, tRg2, List.append_nil, List.nil_append, List.cons_append, Option.some.injEq, exists_eq_left', exists_eq_left, exists_eq_right, exists_eq_right', List.getElem?_cons_zero, List.getElem?_cons_succ, List.set_cons_zero, List.set_cons_succ, List.cons.injEq, and_true, true_and, exists_and_left, exists_and_right, and_assoc, V.int.injEq, V.bl.injEq, V.ref.injEq, V.str.injEq, reduceCtorEq, decide_true, decide_false, Bool.not_true, Bool.not_false, Bool.false_eq_true, if_false, if_true, ite_true, ite_false, List.length_cons, List.length_nil])
      refine ⟨_, _, .ty "tuple", .base (.bl b), false, kit_ty (by decide +kernel), iteF ?_⟩
      cases b
      · exact iteF (iteT (iteF (q _ (Same.refl _))))
      · exact iteT (iteT (q _ (Same.refl _)))
    | int _ i =>
      (try simp only [tVar, tC, tOp, tUn, rI, rI0, rU, rEq, rNe, scal, tTest, tB, tAnd, tOr, tNot, tAndV, tOrV, tNotV, tIf, tChain, tNil, tCons, tCB, tCall, tTup, tLst, tRet, tRetN, tDrop, tSeq, tNext, tIfS, tAsg, gName, tPar, tPar3, gNil, gCons, gTup, gSub, tAug, tSl, tNoPart, tPart, tBM, tBM0, tYes, tIsP, iSeq, iEnumA, RZ.iZipA, iRng1, iRng2, iList, iTup, rIsi, rIsB, rIxL, rIxT, rIxA, rLenA, rListOf, rTupOf, rSetL, rSlL, rCat, rAppend, tFld, sFld, tMake, tBits, Int.ofNat_inj, cast1, cast0, TruV, cxOf, Cx.nox, Cx.wish, tNever, tBreak, tCont, ipI, tDIn, tDNotIn, sDPut, tDNewT, tDNewK, tDGet, rSortedPO, rSortedI, rIn, rEqD, rNeD, rInD, rNotInD, tSSet, rIsV, rIntI, rIntB, rAbsN, tLstRg, tRg1, tRg2, List.append_nil, List.nil_append, List.cons_append, Option.some.injEq, exists_eq_left', exists_eq_left, exists_eq_right, exists_eq_right', List.getElem?_cons_zero, List.getElem?_cons_succ, List.set_cons_zero, List.set_cons_succ, List.cons.injEq, and_true, true_and, exists_and_left, exists_and_right, and_assoc, V.int.injEq, V.bl.injEq, V.ref.injEq, V.str.injEq, reduceCtorEq, decide_true, decide_false, Bool.not_true, Bool.not_false, Bool.false_eq_true, if_false, if_true, ite_true, ite_false, List.length_cons, List.length_nil])
      refine ⟨_, _, .ty "tuple", .base (.int i), false, kit_ty (by decide +kernel), iteF ?_⟩
      refine ⟨_, _, .ty "int", .base (.int i), true, kit_ty (by decide +kernel), iteT ?_⟩
      refine ⟨_, _, .ty "int", .base (.int i), true, kit_ty (by decide +kernel), iteT ?_⟩
      exact ⟨_, _, .ty "bool", .base (.int i), false, kit_ty (by decide +kernel), iteT (q _ (Same.refl _))⟩
    | str _ t =>
      (try simp only [tVar, tC, tOp, tUn, rI, rI0, rU, rEq, rNe, scal, tTest, tB, tAnd, tOr, tNot, tAndV, tOrV, tNotV, tIf, tChain, tNil, tCons, tCB, tCall, tTup, tLst, tRet, tRetN, tDrop, tSeq, tNext, tIfS, tAsg, gName, tPar, tPar3, gNil, gCons, gTup, gSub, tAug, tSl, tNoPart, tPart, tBM, tBM0, tYes, tIsP, iSeq, iEnumA, RZ.iZipA, iRng1, iRng2, iList, iTup, rIsi, rIsB, rIxL, rIxT, rIxA, rLenA, rListOf, rTupOf, rSetL, rSlL, rCat, rAppend, tFld, sFld, tMake, tBits, Int.ofNat_inj, cast1, cast0, TruV, cxOf, Cx.nox, Cx.wish, tNever, tBreak, tCont, ipI, tDIn, tDNotIn, sDPut, tDNewT, tDNewK, tDGet, rSortedPO, rSortedI, rIn, rEqD, rNeD, rInD, rNotInD, tSSet, rIsV, rIntI, rIntB, rAbsN, tLstRg, tRg1, tRg2, List.append_nil, List.nil_append, List.cons_append, Option.some.injEq, exists_eq_left', exists_eq_left, exists_eq_right, exists_eq_right', List.getElem?_cons_zero, List.getElem?_cons_succ, List.set_cons_zero, List.set_cons_succ, List.cons.injEq, and_true, true_and, exists_and_left, exists_and_right, and_assoc, V.int.injEq, V.bl.injEq, V.ref.injEq, V.str.injEq, reduceCtorEq, decide_true, decide_false, Bool.not_true, Bool.not_false, Bool.false_eq_true, if_false, if_true, ite_true, ite_false, List.length_cons, List.length_nil])
      refine ⟨_, _, .ty "tuple", .base (.str t), false, kit_ty (by decide +kernel), iteF ?_⟩
      refine ⟨_, _, .ty "int", .base (.str t), false, kit_ty (by decide +kernel), iteF ?_⟩
      refine ⟨_, _, .ty "str", .base (.str t), true, kit_ty (by decide +kernel), iteT ?_⟩
      refine ⟨_, _, .ty "str", .base (.str t), true, kit_ty (by decide +kernel), iteT ?_⟩
      exact q _ (Same.refl _)
    | @tup _ a b xs ys h1 h2 hl hs =>
      generalize hL1 : tLc _ _ _ _ _ = L1
      (try simp only [tVar, tC, tOp, tUn, rI, rI0, rU, rEq, rNe, scal, tTest, tB, tAnd, tOr, tNot, tAndV, tOrV, tNotV, tIf, tChain, tNil, tCons, tCB, tCall, tTup, tLst, tRet, tRetN, tDrop, tSeq, tNext, tIfS, tAsg, gName, tPar, tPar3, gNil, gCons, gTup, gSub, tAug, tSl, tNoPart, tPart, tBM, tBM0, tYes, tIsP, iSeq, iEnumA, RZ.iZipA, iRng1, iRng2, iList, iTup, rIsi, rIsB, rIxL, rIxT, rIxA, rLenA, rListOf, rTupOf, rSetL, rSlL, rCat, rAppend, tFld, sFld, tMake, tBits, Int.ofNat_inj, cast1, cast0, TruV, cxOf, Cx.nox, Cx.wish, tNever, tBreak, tCont, ipI, tDIn, tDNotIn, sDPut, tDNewT, tDNewK, tDGet, rSortedPO, rSortedI, rIn, rEqD, rNeD, rInD, rNotInD, tSSet, rIsV, rIntI, rIntB, rAbsN, tLstRg, tRg1, tRg2, List.append_nil, List.nil_append, List.cons_append, Option.some.injEq, exists_eq_left', exists_eq_left, exists_eq_right, exists_eq_right', List.getElem?_cons_zero, List.getElem?_cons_succ, List.set_cons_zero, List.set_cons_succ, List.cons.injEq, and_true, true_and, exists_and_left, exists_and_right, and_assoc, V.int.injEq, V.bl.injEq, V.ref.injEq, V.str.injEq, reduceCtorEq, decide_true, decide_false, Bool.not_true, Bool.not_false, Bool.false_eq_true, if_false, if_true, ite_true, ite_false, List.length_cons, List.length_nil])
      refine ⟨_, _, .ty "tuple", tyT h2, true, kit_ty (by decide +kernel), iteT ?_⟩
      refine ⟨_, _, .ty "tuple", tyT h1, true, kit_ty (by decide +kernel), iteF ⟨_, .inr h1, _, .inr h2, ?_⟩⟩
      rw [if_neg (by rw [hl]; simp)]
      subst hL1
      refine lcZ0 a b xs ys (by decide) (fun R h => ?_) h1 h2 hl (fun i x y H' Q1 Q2 e1 e2 s1 q2 => ?_) fun L H' hL s1 eL => ?_
      · (try simp only [tVar, tC, tOp, tUn, rI, rI0, rU, rEq, rNe, scal, tTest, tB, tAnd, tOr, tNot, tAndV, tOrV, tNotV, tIf, tChain, tNil, tCons, tCB, tCall, tTup, tLst, tRet, tRetN, tDrop, tSeq, tNext, tIfS, tAsg, gName, tPar, tPar3, gNil, gCons, gTup, gSub, tAug, tSl, tNoPart, tPart, tBM, tBM0, tYes, tIsP, iSeq, iEnumA, RZ.iZipA, iRng1, iRng2, iList, iTup, rIsi, rIsB, rIxL, rIxT, rIxA, rLenA, rListOf, rTupOf, rSetL, rSlL, rCat, rAppend, tFld, sFld, tMake, tBits, Int.ofNat_inj, cast1, cast0, TruV, cxOf, Cx.nox, Cx.wish, tNever, tBreak, tCont, ipI, tDIn, tDNotIn, sDPut, tDNewT, tDNewK, tDGet, rSortedPO, rSortedI, rIn, rEqD, rNeD, rInD, rNotInD, tSSet, rIsV, rIntI, rIntB, rAbsN, tLstRg, tRg1, tRg2, List.append_nil, List.nil_append, List.cons_append, Option.some.injEq, exists_eq_left', exists_eq_left, exists_eq_right, exists_eq_right', List.getElem?_cons_zero, List.getElem?_cons_succ, List.set_cons_zero, List.set_cons_succ, List.cons.injEq, and_true, true_and, exists_and_left, exists_and_right, and_assoc, V.int.injEq, V.bl.injEq, V.ref.injEq, V.str.injEq, reduceCtorEq, decide_true, decide_false, Bool.not_true, Bool.not_false, Bool.false_eq_true, if_false, if_true, ite_true, ite_false, List.length_cons, List.length_nil])
        exact h
      · (try simp only [tVar, tC, tOp, tUn, rI, rI0, rU, rEq, rNe, scal, tTest, tB, tAnd, tOr, tNot, tAndV, tOrV, tNotV, tIf, tChain, tNil, tCons, tCB, tCall, tTup, tLst, tRet, tRetN, tDrop, tSeq, tNext, tIfS, tAsg, gName, tPar, tPar3, gNil, gCons, gTup, gSub, tAug, tSl, tNoPart, tPart, tBM, tBM0, tYes, tIsP, iSeq, iEnumA, RZ.iZipA, iRng1, iRng2, iList, iTup, rIsi, rIsB, rIxL, rIxT, rIxA, rLenA, rListOf, rTupOf, rSetL, rSlL, rCat, rAppend, tFld, sFld, tMake, tBits, Int.ofNat_inj, cast1, cast0, TruV, cxOf, Cx.nox, Cx.wish, tNever, tBreak, tCont, ipI, tDIn, tDNotIn, sDPut, tDNewT, tDNewK, tDGet, rSortedPO, rSortedI, rIn, rEqD, rNeD, rInD, rNotInD, tSSet, rIsV, rIntI, rIntB, rAbsN, tLstRg, tRg1, tRg2, List.append_nil, List.nil_append, List.cons_append, Option.some.injEq, exists_eq_left', exists_eq_left, exists_eq_right, exists_eq_right', List.getElem?_cons_zero, List.getElem?_cons_succ, List.set_cons_zero, List.set_cons_succ, List.cons.injEq, and_true, true_and, exists_and_left, exists_and_right, and_assoc, V.int.injEq, V.bl.injEq, V.ref.injEq, V.str.injEq, reduceCtorEq, decide_true, decide_false, Bool.not_true, Bool.not_false, Bool.false_eq_true, if_false, if_true, ite_true, ite_false, List.length_cons, List.length_nil])
        refine ⟨x, y, rfl, (hs i x y e1 e2).same s1, fun H3 s3 => ?_⟩
        (try simp only [tVar, tC, tOp, tUn, rI, rI0, rU, rEq, rNe, scal, tTest, tB, tAnd, tOr, tNot, tAndV, tOrV, tNotV, tIf, tChain, tNil, tCons, tCB, tCall, tTup, tLst, tRet, tRetN, tDrop, tSeq, tNext, tIfS, tAsg, gName, tPar, tPar3, gNil, gCons, gTup, gSub, tAug, tSl, tNoPart, tPart, tBM, tBM0, tYes, tIsP, iSeq, iEnumA, RZ.iZipA, iRng1, iRng2, iList, iTup, rIsi, rIsB, rIxL, rIxT, rIxA, rLenA, rListOf, rTupOf, rSetL, rSlL, rCat, rAppend, tFld, sFld, tMake, tBits, Int.ofNat_inj, cast1, cast0, TruV, cxOf, Cx.nox, Cx.wish, tNever, tBreak, tCont, ipI, tDIn, tDNotIn, sDPut, tDNewT, tDNewK, tDGet, rSortedPO, rSortedI, rIn, rEqD, rNeD, rInD, rNotInD, tSSet, rIsV, rIntI, rIntB, rAbsN, tLstRg, tRg1, tRg2, List.append_nil, List.nil_append, List.cons_append, Option.some.injEq, exists_eq_left', exists_eq_left, exists_eq_right, exists_eq_right', List.getElem?_cons_zero, List.getElem?_cons_succ, List.set_cons_zero, List.set_cons_succ, List.cons.injEq, and_true, true_and, exists_and_left, exists_and_right, and_assoc, V.int.injEq, V.bl.injEq, V.ref.injEq, V.str.injEq, reduceCtorEq, decide_true, decide_false, Bool.not_true, Bool.not_false, Bool.false_eq_true, if_false, if_true, ite_true, ite_false, List.length_cons, List.length_nil])
        exact q2 _ s3
      · (try simp only [tVar, tC, tOp, tUn, rI, rI0, rU, rEq, rNe, scal, tTest, tB, tAnd, tOr, tNot, tAndV, tOrV, tNotV, tIf, tChain, tNil, tCons, tCB, tCall, tTup, tLst, tRet, tRetN, tDrop, tSeq, tNext, tIfS, tAsg, gName, tPar, tPar3, gNil, gCons, gTup, gSub, tAug, tSl, tNoPart, tPart, tBM, tBM0, tYes, tIsP, iSeq, iEnumA, RZ.iZipA, iRng1, iRng2, iList, iTup, rIsi, rIsB, rIxL, rIxT, rIxA, rLenA, rListOf, rTupOf, rSetL, rSlL, rCat, rAppend, tFld, sFld, tMake, tBits, Int.ofNat_inj, cast1, cast0, TruV, cxOf, Cx.nox, Cx.wish, tNever, tBreak, tCont, ipI, tDIn, tDNotIn, sDPut, tDNewT, tDNewK, tDGet, rSortedPO, rSortedI, rIn, rEqD, rNeD, rInD, rNotInD, tSSet, rIsV, rIntI, rIntB, rAbsN, tLstRg, tRg1, tRg2, List.append_nil, List.nil_append, List.cons_append, Option.some.injEq, exists_eq_left', exists_eq_left, exists_eq_right, exists_eq_right', List.getElem?_cons_zero, List.getElem?_cons_succ, List.set_cons_zero, List.set_cons_succ, List.cons.injEq, and_true, true_and, exists_and_left, exists_and_right, and_assoc, V.int.injEq, V.bl.injEq, V.ref.injEq, V.str.injEq, reduceCtorEq, decide_true, decide_false, Bool.not_true, Bool.not_false, Bool.false_eq_true, if_false, if_true, ite_true, ite_false, List.length_cons, List.length_nil])
        refine ⟨by decide, fun p hp => ⟨_, .lst (.of (same_new hp _ _ eL)) .nil, _, .lst (.of upd_same) .nil, by decide, by decide, ?_⟩⟩
        exact q _ (s1.trans (same_new hp))
theorem ok__law_is (T : Tx K mg) : FnOk P w K mg base CX0 6 T.a__law_is T.d__law_is ["told", "due"] (sp_law_is K 5) := ok_law_is_n T 5
end
end Kr
namespace Kr
open PySem PySem.Spec PyProof.Rows L2 Kb
section
variable {P : Program} {w : World} {K : PySem.W.Frag} {mg : Str → Option Value} {base : Heap}
/-! ### words -/
def sp_is_integer (K : PySem.W.Frag) : Sp := fun vs H Q _ => ∃ x t b1 b2, vs = [x] ∧ TyX K H x t ∧ PySem.W.kitOne K t (.type "int") = some b1 ∧ PySem.W.kitOne K t (.type "bool") = some b2 ∧ Q (.bl (b1 && !b2)) H
theorem ok_is_integer (T : Tx K mg) : FnOk P w K mg base CX0 1 T.a_is_integer T.d_is_integer ["value"] (sp_is_integer K) := by
  refine T.F_is_integer.ok sc_is_integer (fun vs H Q E h => ?_) (fun cdv A outer s H vs Q E hr h => ?_)
  · obtain ⟨x, t, b1, b2, rfl, _⟩ := h
    rfl
  · obtain ⟨x, t, b1, b2, rfl, ht, h1, h2, q⟩ := h
    refine ⟨_, (pss_one (ps_ret (pe_and (pe_callB (isiK (K := K) rfl) (by rfl) T.n_isinstance (by decide +kernel) (pa_cons (pv 0) (pa_cons (pe_bltn (v := .ty "int") (by rfl) T.n_int (by decide +kernel) rfl) pa_nil))) (pe_one (pe_not (pe_callB (isiK (K := K) rfl) (by rfl) T.n_isinstance (by decide +kernel) (pa_cons (pv 0) (pa_cons (pe_bltn (v := .ty "bool") (by rfl) T.n_bool (by decide +kernel) rfl) pa_nil)))))))), ?_⟩
    refine ⟨x, rfl, x, _, t, _, b1, rfl, .ty "int", ht, h1, b1, rfl, ?_⟩
    cases b1
    · exact iteF q
    · exact iteT ⟨x, rfl, x, _, t, _, b2, rfl, .ty "bool", ht, h2, b2, rfl, q⟩
theorem is_int {H : Hp} {Q : VK} {E : XK} {i : Int} (q : Q (.bl true) H) : sp_is_integer K [.int i] H Q E := ⟨_, _, _, _, rfl, tyInt i, kit_ii, kit_ib, q⟩
theorem is_notInt {H : Hp} {Q : VK} {E : XK} {x : V} (n : NotInt K H x) (q : Q (.bl false) H) : sp_is_integer K [x] H Q E := by
  obtain ⟨t, b1, b2, h0, h1, h2, e⟩ := n
  exact ⟨_, _, _, _, rfl, h0, h1, h2, e ▸ q⟩
/-- what a value is, as a whole number -/
def AsInt (K : PySem.W.Frag) (H : Hp) (x : V) : Option Int → Prop
  | some i => x = .int i
  | none => NotInt K H x
def below (l : Int) : Option Int → Bool
  | some i => decide (0 ≤ i) && decide (i < l)
  | none => false
def between (l m : Int) : Option Int → Bool
  | some i => decide (l ≤ i) && decide (i ≤ m)
  | none => false
def sp_is_below (K : PySem.W.Frag) : Sp := fun vs H Q _ => ∃ x o l, vs = [x, .int l] ∧ AsInt K H x o ∧ Q (.bl (below l o)) H
theorem ok_is_below (T : Tx K mg) : FnOk P w K mg base CX0 2 T.a_is_below T.d_is_below ["value", "limit"] (sp_is_below K) := by
  refine T.F_is_below.ok sc_is_below (fun vs H Q E h => ?_) (fun cdv A outer s H vs Q E hr h => ?_)
  · obtain ⟨x, o, l, rfl, _⟩ := h
    rfl
  · obtain ⟨x, o, l, rfl, ho, q⟩ := h
    refine ⟨_, (pss_one (ps_ret (pe_and (pe_call (ok_is_integer T) (hr.mono (by decide)) (by rfl) T.g_is_integer T.F_is_integer.kp T.b_is_integer .nil pass0 (pa_cons (pv 0) pa_nil)) (pe_one (pe_chain op_le op_lt pe_int (pv 0) (pv 1)))))), ?_⟩
    rw [show L2.start ["value", "limit"] [x, .int l] = [some (x), some (.int l)] from rfl]
    (try simp only [tVar, tC, tOp, tUn, rI, rI0, rU, rEq, rNe, scal, tTest, tB, tAnd, tOr, tNot, tAndV, tOrV, tNotV, tIf, tChain, tNil, tCons, tCB, tCall, tTup, tLst, tRet, tRetN, tDrop, tSeq, tNext, tIfS, tAsg, gName, tPar, tPar3, gNil, gCons, gTup, gSub, tAug, tSl, tNoPart, tPart, tBM, tBM0, tYes, tIsP, iSeq, iEnumA, RZ.iZipA, iRng1, iRng2, iList, iTup, rIsi, rIsB, rIxL, rIxT, rIxA, rLenA, rListOf, rTupOf, rSetL, rSlL, rCat, rAppend, tFld, sFld, tMake, tBits, Int.ofNat_inj, cast1, cast0, TruV, cxOf, Cx.nox, Cx.wish, tNever, tBreak, tCont, ipI, tDIn, tDNotIn, sDPut, tDNewT, tDNewK, tDGet, rSortedPO, rSortedI, rIn, rEqD, rNeD, rInD, rNotInD, tSSet, rIsV, rIntI, rIntB, rAbsN, tLstRg, tRg1, tRg2, List.append_nil, List.nil_append, List.cons_append, Option.some.injEq, exists_eq_left', exists_eq_left, exists_eq_right, exists_eq_right', List.getElem?_cons_zero, List.getElem?_cons_succ, List.set_cons_zero, List.set_cons_succ, List.cons.injEq, and_true, true_and, exists_and_left, exists_and_right, and_assoc, V.int.injEq, V.bl.injEq, V.ref.injEq, V.str.injEq, reduceCtorEq, decide_true, decide_false, Bool.not_true, Bool.not_false, Bool.false_eq_true, if_false, if_true, ite_true, ite_false, List.length_cons, List.length_nil])
    cases o with
    | none => exact is_notInt ho (by simpa [below] using q)
    | some i =>
      cases ho
      refine is_int ?_
      (try simp only [tVar, tC, tOp, tUn, rI, rI0, rU, rEq, rNe, scal, tTest, tB, tAnd, tOr, tNot, tAndV, tOrV, tNotV, tIf, tChain, tNil, tCons, tCB, tCall, tTup, tLst, tRet, tRetN, tDrop, tSeq, tNext, tIfS, tAsg, gName, tPar, tPar3, gNil, gCons, gTup, gSub, tAug, tSl, tNoPart, tPart, tBM, tBM0, tYes, tIsP, iSeq, iEnumA, RZ.iZipA, iRng1, iRng2, iList, iTup, rIsi, rIsB, rIxL, rIxT, rIxA, rLenA, rListOf, rTupOf, rSetL, rSlL, rCat, rAppend, tFld, sFld, tMake, tBits, Int.ofNat_inj, cast1, cast0, TruV, cxOf, Cx.nox, Cx.wish, tNever, tBreak, tCont, ipI, tDIn, tDNotIn, sDPut, tDNewT, tDNewK, tDGet, rSortedPO, rSortedI, rIn, rEqD, rNeD, rInD, rNotInD, tSSet, rIsV, rIntI, rIntB, rAbsN, tLstRg, tRg1, tRg2, List.append_nil, List.nil_append, List.cons_append, Option.some.injEq, exists_eq_left', exists_eq_left, exists_eq_right, exists_eq_right', List.getElem?_cons_zero, List.getElem?_cons_succ, List.set_cons_zero, List.set_cons_succ, List.cons.injEq, and_true, true_and, exists_and_left, exists_and_right, and_assoc, V.int.injEq, V.bl.injEq, V.ref.injEq, V.str.injEq, reduceCtorEq, decide_true, decide_false, Bool.not_true, Bool.not_false, Bool.false_eq_true, if_false, if_true, ite_true, ite_false, List.length_cons, List.length_nil])
      unfold below at q
      split <;> simp_all
theorem below_i {i l : Int} {H : Hp} {Q : VK} {E : XK} (q : Q (.bl (decide (0 ≤ i) && decide (i < l))) H) : sp_is_below K [.int i, .int l] H Q E := ⟨_, some i, _, rfl, rfl, q⟩
theorem below_n {k n : Nat} {H : Hp} {Q : VK} {E : XK} (h : k < n) (q : Q (.bl true) H) : sp_is_below K [nv k, nv n] H Q E := by
  refine below_i ?_
  rw [decide_eq_true (Int.natCast_nonneg k), decide_eq_true (Int.ofNat_lt.mpr h)]
  exact q
def sp_is_between (K : PySem.W.Frag) : Sp := fun vs H Q _ => ∃ x o l m, vs = [x, .int l, .int m] ∧ AsInt K H x o ∧ Q (.bl (between l m o)) H
theorem ok_is_between (T : Tx K mg) : FnOk P w K mg base CX0 2 T.a_is_between T.d_is_between ["value", "least", "greatest"] (sp_is_between K) := by
  refine T.F_is_between.ok sc_is_between (fun vs H Q E h => ?_) (fun cdv A outer s H vs Q E hr h => ?_)
  · obtain ⟨x, o, l, m, rfl, _⟩ := h
    rfl
  · obtain ⟨x, o, l, m, rfl, ho, q⟩ := h
    refine ⟨_, (pss_one (ps_ret (pe_and (pe_call (ok_is_integer T) (hr.mono (by decide)) (by rfl) T.g_is_integer T.F_is_integer.kp T.b_is_integer .nil pass0 (pa_cons (pv 0) pa_nil)) (pe_one (pe_chain op_le op_le (pv 1) (pv 0) (pv 2)))))), ?_⟩
    rw [show L2.start ["value", "least", "greatest"] [x, .int l, .int m] = [some (x), some (.int l), some (.int m)] from rfl]
    (try simp only [tVar, tC, tOp, tUn, rI, rI0, rU, rEq, rNe, scal, tTest, tB, tAnd, tOr, tNot, tAndV, tOrV, tNotV, tIf, tChain, tNil, tCons, tCB, tCall, tTup, tLst, tRet, tRetN, tDrop, tSeq, tNext, tIfS, tAsg, gName, tPar, tPar3, gNil, gCons, gTup, gSub, tAug, tSl, tNoPart, tPart, tBM, tBM0, tYes, tIsP, iSeq, iEnumA, RZ.iZipA, iRng1, iRng2, iList, iTup, rIsi, rIsB, rIxL, rIxT, rIxA, rLenA, rListOf, rTupOf, rSetL, rSlL, rCat, rAppend, tFld, sFld, tMake, tBits, Int.ofNat_inj, cast1, cast0, TruV, cxOf, Cx.nox, Cx.wish, tNever, tBreak, tCont, ipI, tDIn, tDNotIn, sDPut, tDNewT, tDNewK, tDGet, rSortedPO, rSortedI, rIn, rEqD, rNeD, rInD, rNotInD, tSSet, rIsV, rIntI, rIntB, rAbsN, tLstRg, tRg1, tRg2, List.append_nil, List.nil_append, List.cons_append, Option.some.injEq, exists_eq_left', exists_eq_left, exists_eq_right, exists_eq_right', List.getElem?_cons_zero, List.getElem?_cons_succ, List.set_cons_zero, List.set_cons_succ, List.cons.injEq, and_true, true_and, exists_and_left, exists_and_right, and_assoc, V.int.injEq, V.bl.injEq, V.ref.injEq, V.str.injEq, reduceCtorEq, decide_true, decide_false, Bool.not_true, Bool.not_false, Bool.false_eq_true, if_false, if_true, ite_true, ite_false, List.length_cons, List.length_nil])
    cases o with
    | none => exact is_notInt ho (by simpa [between] using q)
    | some i =>
      cases ho
      refine is_int ?_
      (try simp only [tVar, tC, tOp, tUn, rI, rI0, rU, rEq, rNe, scal, tTest, tB, tAnd, tOr, tNot, tAndV, tOrV, tNotV, tIf, tChain, tNil, tCons, tCB, tCall, tTup, tLst, tRet, tRetN, tDrop, tSeq, tNext, tIfS, tAsg, gName, tPar, tPar3, gNil, gCons, gTup, gSub, tAug, tSl, tNoPart, tPart, tBM, tBM0, tYes, tIsP, iSeq, iEnumA, RZ.iZipA, iRng1, iRng2, iList, iTup, rIsi, rIsB, rIxL, rIxT, rIxA, rLenA, rListOf, rTupOf, rSetL, rSlL, rCat, rAppend, tFld, sFld, tMake, tBits, Int.ofNat_inj, cast1, cast0, TruV, cxOf, Cx.nox, Cx.wish, tNever, tBreak, tCont, ipI, tDIn, tDNotIn, sDPut, tDNewT, tDNewK, tDGet, rSortedPO, rSortedI, rIn, rEqD, rNeD, rInD, rNotInD, tSSet, rIsV, rIntI, rIntB, rAbsN, tLstRg, tRg1, tRg2, List.append_nil, List.nil_append, List.cons_append, Option.some.injEq, exists_eq_left', exists_eq_left, exists_eq_right, exists_eq_right', List.getElem?_cons_zero, List.getElem?_cons_succ, List.set_cons_zero, List.set_cons_succ, List.cons.injEq, and_true, true_and, exists_and_left, exists_and_right, and_assoc, V.int.injEq, V.bl.injEq, V.ref.injEq, V.str.injEq, reduceCtorEq, decide_true, decide_false, Bool.not_true, Bool.not_false, Bool.false_eq_true, if_false, if_true, ite_true, ite_false, List.length_cons, List.length_nil])
      unfold between at q
      split <;> simp_all
theorem between_i {i l m : Int} {H : Hp} {Q : VK} {E : XK} (q : Q (.bl (decide (l ≤ i) && decide (i ≤ m))) H) : sp_is_between K [.int i, .int l, .int m] H Q E := ⟨_, some i, _, _, rfl, rfl, q⟩
def sp_is_sequence (K : PySem.W.Frag) : Sp := fun vs H Q _ => ∃ x t b, vs = [x] ∧ TyX K H x t ∧ PySem.W.kitAny K t [.type "list", .type "tuple"] = some b ∧ Q (.bl b) H
theorem ok_is_sequence (T : Tx K mg) : FnOk P w K mg base CX0 1 T.a_is_sequence T.d_is_sequence ["value"] (sp_is_sequence K) := by
  refine T.F_is_sequence.ok sc_is_sequence (fun vs H Q E h => ?_) (fun cdv A outer s H vs Q E hr h => ?_)
  · obtain ⟨x, t, b, rfl, _⟩ := h
    rfl
  · obtain ⟨x, t, b, rfl, ht, hb, q⟩ := h
    refine ⟨_, (pss_one (ps_ret (isPK (K := K) (A := "list") (B := "tuple") rfl (pv 0) (by rfl) T.n_isinstance (pa_cons (pe_bltn (v := .ty "list") (by rfl) T.n_list (by decide +kernel) rfl) (pa_cons (pe_bltn (v := .ty "tuple") (by rfl) T.n_tuple (by decide +kernel) rfl) pa_nil))))), ?_⟩
    exact ⟨x, rfl, t, b, ht, hb, q⟩
theorem is_seq {H : Hp} {Q : VK} {E : XK} {a : Addr} {xs : List V} (s : Seq K H a xs) (q : Q (.bl true) H) : sp_is_sequence K [.ref a] H Q E := by
  rcases s with s | s
  · exact ⟨_, _, _, rfl, tyL s, kit_lp, q⟩
  · exact ⟨_, _, _, rfl, tyT s, kit_tp, q⟩
def sp_is_row (K : PySem.W.Frag) : Sp := fun vs H Q _ => ∃ a xs l, vs = [.ref a, .int l] ∧ Seq K H a xs ∧ Q (.bl (decide ((xs.length : Int) = l))) H
theorem ok_is_row (T : Tx K mg) : FnOk P w K mg base CX0 2 T.a_is_row T.d_is_row ["value", "many"] (sp_is_row K) := by
  refine T.F_is_row.ok sc_is_row (fun vs H Q E h => ?_) (fun cdv A outer s H vs Q E hr h => ?_)
  · obtain ⟨a, xs, l, rfl, _⟩ := h
    rfl
  · obtain ⟨a, xs, l, rfl, hs, q⟩ := h
    refine ⟨_, (pss_one (ps_ret (pe_and (pe_call (ok_is_sequence T) (hr.mono (by decide)) (by rfl) T.g_is_sequence T.F_is_sequence.kp T.b_is_sequence .nil pass0 (pa_cons (pv 0) pa_nil)) (pe_one (pe_cmpR op_eq (pe_callB (lenK (K := K) rfl) (by rfl) T.n_len PySem.boot_len (pa_cons (pv 0) pa_nil)) (pv 1) (nomark _)))))), ?_⟩
    rw [show L2.start ["value", "many"] [.ref a, .int l] = [some (.ref a), some (.int l)] from rfl]
    (try simp only [tVar, tC, tOp, tUn, rI, rI0, rU, rEq, rNe, scal, tTest, tB, tAnd, tOr, tNot, tAndV, tOrV, tNotV, tIf, tChain, tNil, tCons, tCB, tCall, tTup, tLst, tRet, tRetN, tDrop, tSeq, tNext, tIfS, tAsg, gName, tPar, tPar3, gNil, gCons, gTup, gSub, tAug, tSl, tNoPart, tPart, tBM, tBM0, tYes, tIsP, iSeq, iEnumA, RZ.iZipA, iRng1, iRng2, iList, iTup, rIsi, rIsB, rIxL, rIxT, rIxA, rLenA, rListOf, rTupOf, rSetL, rSlL, rCat, rAppend, tFld, sFld, tMake, tBits, Int.ofNat_inj, cast1, cast0, TruV, cxOf, Cx.nox, Cx.wish, tNever, tBreak, tCont, ipI, tDIn, tDNotIn, sDPut, tDNewT, tDNewK, tDGet, rSortedPO, rSortedI, rIn, rEqD, rNeD, rInD, rNotInD, tSSet, rIsV, rIntI, rIntB, rAbsN, tLstRg, tRg1, tRg2, List.append_nil, List.nil_append, List.cons_append, Option.some.injEq, exists_eq_left', exists_eq_left, exists_eq_right, exists_eq_right', List.getElem?_cons_zero, List.getElem?_cons_succ, List.set_cons_zero, List.set_cons_succ, List.cons.injEq, and_true, true_and, exists_and_left, exists_and_right, and_assoc, V.int.injEq, V.bl.injEq, V.ref.injEq, V.str.injEq, reduceCtorEq, decide_true, decide_false, Bool.not_true, Bool.not_false, Bool.false_eq_true, if_false, if_true, ite_true, ite_false, List.length_cons, List.length_nil])
    refine is_seq hs ?_
    (try simp only [tVar, tC, tOp, tUn, rI, rI0, rU, rEq, rNe, scal, tTest, tB, tAnd, tOr, tNot, tAndV, tOrV, tNotV, tIf, tChain, tNil, tCons, tCB, tCall, tTup, tLst, tRet, tRetN, tDrop, tSeq, tNext, tIfS, tAsg, gName, tPar, tPar3, gNil, gCons, gTup, gSub, tAug, tSl, tNoPart, tPart, tBM, tBM0, tYes, tIsP, iSeq, iEnumA, RZ.iZipA, iRng1, iRng2, iList, iTup, rIsi, rIsB, rIxL, rIxT, rIxA, rLenA, rListOf, rTupOf, rSetL, rSlL, rCat, rAppend, tFld, sFld, tMake, tBits, Int.ofNat_inj, cast1, cast0, TruV, cxOf, Cx.nox, Cx.wish, tNever, tBreak, tCont, ipI, tDIn, tDNotIn, sDPut, tDNewT, tDNewK, tDGet, rSortedPO, rSortedI, rIn, rEqD, rNeD, rInD, rNotInD, tSSet, rIsV, rIntI, rIntB, rAbsN, tLstRg, tRg1, tRg2, List.append_nil, List.nil_append, List.cons_append, Option.some.injEq, exists_eq_left', exists_eq_left, exists_eq_right, exists_eq_right', List.getElem?_cons_zero, List.getElem?_cons_succ, List.set_cons_zero, List.set_cons_succ, List.cons.injEq, and_true, true_and, exists_and_left, exists_and_right, and_assoc, V.int.injEq, V.bl.injEq, V.ref.injEq, V.str.injEq, reduceCtorEq, decide_true, decide_false, Bool.not_true, Bool.not_false, Bool.false_eq_true, if_false, if_true, ite_true, ite_false, List.length_cons, List.length_nil])
    exact ⟨xs, hs, q⟩
theorem row_i {a : Addr} {xs : List V} {l : Int} {H : Hp} {Q : VK} {E : XK} (h : Seq K H a xs) (q : Q (.bl (decide ((xs.length : Int) = l))) H) : sp_is_row K [.ref a, .int l] H Q E := ⟨_, _, _, rfl, h, q⟩
/-! ### masks -/
/-- the numbers of the bits, ascending -/
def bits (m : Nat) : List Nat := (List.range (Builtin.Int.intBits (m : Int))).filter m.testBit
theorem mem_bits {m k : Nat} (hm : m < 2 ^ 62) : k ∈ bits m ↔ m.testBit k = true := by
  unfold bits
  rw [List.mem_filter, List.mem_range]
  refine ⟨fun h => h.2, fun h => ⟨?_, h⟩⟩
  have e : Builtin.Int.intBits (m : Int) = if m = 0 then 0 else m.log2 + 1 := by
    unfold Builtin.Int.intBits
    simp
  rw [e]
  have hm0 : m ≠ 0 := fun z => by rw [z, Nat.zero_testBit] at h; cases h
  rw [if_neg hm0]
  have := Nat.ge_two_pow_of_testBit h
  have := (Nat.le_log2 hm0).mpr this
  omega
theorem bits_below {m n k : Nat} (hm : m < 2 ^ n) (h : k ∈ bits m) : k < n := by
  unfold bits at h
  have hb := (List.mem_filter.mp h).2
  have := Nat.ge_two_pow_of_testBit hb
  exact (Nat.pow_lt_pow_iff_right (by decide : 1 < 2)).mp (Nat.lt_of_le_of_lt this hm)
theorem odd_test (m k : Nat) : (((m >>> k &&& 1 : Nat) : Int) != 0) = m.testBit k := by
  unfold Nat.testBit
  rw [Nat.and_comm, Bool.eq_iff_iff]
  simp only [bne_iff_ne, ne_eq]
  omega
theorem bits_lt {m : Nat} (h : m < 2 ^ 62) : Builtin.Int.intBits (m : Int) ≤ 62 := by
  have : Builtin.Int.intBits (m : Int) = if m = 0 then 0 else m.log2 + 1 := by
    unfold Builtin.Int.intBits
    simp
  rw [this]
  split
  · omega
  · rename_i hm
    have := (Nat.log2_lt hm).mpr h
    omega
def maskOf (l : List Nat) : Nat := l.foldl (fun m k => m ||| 1 <<< k) 0
theorem maskOf_take {l : List Nat} {i k : Nat} (h : l[i]? = some k) : maskOf (l.take (i + 1)) = maskOf (l.take i) ||| 1 <<< k := by
  unfold maskOf
  rw [List.take_add_one, h, List.foldl_append]
  rfl
theorem nvs_at {l : List Nat} {i : Nat} {x : V} (h : (nvs l)[i]? = some x) : ∃ k, l[i]? = some k ∧ x = nv k := by
  rw [List.getElem?_map] at h
  cases e : l[i]? with
  | none => rw [e] at h; cases h
  | some k => rw [e] at h; exact ⟨k, rfl, (Option.some.inj h).symm⟩
def sp_lot_of (K : PySem.W.Frag) : Sp := fun vs H Q _ => ∃ m : Nat, vs = [nv m] ∧ m < 2 ^ 62 ∧ ∀ H' p, Same H H' → H p = none → H' p = some (.tup (nvs (bits m))) → Q (.ref p) H'
theorem ok_lot_of (T : Tx K mg) : FnOk P w K mg base CX0 1 T.a_lot_of T.d_lot_of ["mask"] (sp_lot_of K) := by
  refine T.F_lot_of.ok sc_lot_of (fun vs H Q E h => ?_) (fun cdv A outer s H vs Q E hr h => ?_)
  · obtain ⟨m, rfl, _⟩ := h
    rfl
  · obtain ⟨m, rfl, hm, q⟩ := h
    refine ⟨_, (pss_one (ps_ret (pe_callTy (tupOfK (K := K) rfl) (by rfl) T.n_tuple (by decide +kernel) (pa_cons (pe_lc (own := [("key", 1)]) (by rfl) sc_lot_of.nd (pi_range1 (by rfl) T.n_range (pa_cons (pe_bits (pv 0)) pa_nil)) (blkOk_by (own := [("key", 1)]) (N := ["mask", "key"]) (sc := defScope s_lot_of) (by decide +kernel)) (fun _ _ _ _ _ => (pg_name (i := 1) sc_lot_of.nd rfl (by first | exact Or.inl rfl | exact Or.inr rfl))) (fun _ _ _ _ _ => (pts_one (truthK (K := K) rfl (pe_op op_andU (pe_op op_shrU (pv 0) (pv 1)) pe_int) (by intro _; rfl)))) (fun _ _ _ _ _ => (pv 1))) pa_nil)))), ?_⟩
    rw [show L2.start ["mask", "key"] [nv m] = [some (nv m), none] from rfl]
    generalize hL1 : tLc _ _ _ _ _ = L1
    (try simp only [tVar, tC, tOp, tUn, rI, rI0, rU, rEq, rNe, scal, tTest, tB, tAnd, tOr, tNot, tAndV, tOrV, tNotV, tIf, tChain, tNil, tCons, tCB, tCall, tTup, tLst, tRet, tRetN, tDrop, tSeq, tNext, tIfS, tAsg, gName, tPar, tPar3, gNil, gCons, gTup, gSub, tAug, tSl, tNoPart, tPart, tBM, tBM0, tYes, tIsP, iSeq, iEnumA, RZ.iZipA, iRng1, iRng2, iList, iTup, rIsi, rIsB, rIxL, rIxT, rIxA, rLenA, rListOf, rTupOf, rSetL, rSlL, rCat, rAppend, tFld, sFld, tMake, tBits, Int.ofNat_inj, cast1, cast0, TruV, cxOf, Cx.nox, Cx.wish, tNever, tBreak, tCont, ipI, tDIn, tDNotIn, sDPut, tDNewT, tDNewK, tDGet, rSortedPO, rSortedI, rIn, rEqD, rNeD, rInD, rNotInD, tSSet, rIsV, rIntI, rIntB, rAbsN, tLstRg, tRg1, tRg2, List.append_nil, List.nil_append, List.cons_append, Option.some.injEq, exists_eq_left', exists_eq_left, exists_eq_right, exists_eq_right', List.getElem?_cons_zero, List.getElem?_cons_succ, List.set_cons_zero, List.set_cons_succ, List.cons.injEq, and_true, true_and, exists_and_left, exists_and_right, and_assoc, V.int.injEq, V.bl.injEq, V.ref.injEq, V.str.injEq, reduceCtorEq, decide_true, decide_false, Bool.not_true, Bool.not_false, Bool.false_eq_true, if_false, if_true, ite_true, ite_false, List.length_cons, List.length_nil])
    subst hL1
    refine lcR1 (Builtin.Int.intBits (m : Int)) m.testBit nv (fun R h => ?_) ?_ (fun i H' Q1 Q2 hi e q1 q2 => ?_) fun L hL => ?_
    · (try simp only [tVar, tC, tOp, tUn, rI, rI0, rU, rEq, rNe, scal, tTest, tB, tAnd, tOr, tNot, tAndV, tOrV, tNotV, tIf, tChain, tNil, tCons, tCB, tCall, tTup, tLst, tRet, tRetN, tDrop, tSeq, tNext, tIfS, tAsg, gName, tPar, tPar3, gNil, gCons, gTup, gSub, tAug, tSl, tNoPart, tPart, tBM, tBM0, tYes, tIsP, iSeq, iEnumA, RZ.iZipA, iRng1, iRng2, iList, iTup, rIsi, rIsB, rIxL, rIxT, rIxA, rLenA, rListOf, rTupOf, rSetL, rSlL, rCat, rAppend, tFld, sFld, tMake, tBits, Int.ofNat_inj, cast1, cast0, TruV, cxOf, Cx.nox, Cx.wish, tNever, tBreak, tCont, ipI, tDIn, tDNotIn, sDPut, tDNewT, tDNewK, tDGet, rSortedPO, rSortedI, rIn, rEqD, rNeD, rInD, rNotInD, tSSet, rIsV, rIntI, rIntB, rAbsN, tLstRg, tRg1, tRg2, List.append_nil, List.nil_append, List.cons_append, Option.some.injEq, exists_eq_left', exists_eq_left, exists_eq_right, exists_eq_right', List.getElem?_cons_zero, List.getElem?_cons_succ, List.set_cons_zero, List.set_cons_succ, List.cons.injEq, and_true, true_and, exists_and_left, exists_and_right, and_assoc, V.int.injEq, V.bl.injEq, V.ref.injEq, V.str.injEq, reduceCtorEq, decide_true, decide_false, Bool.not_true, Bool.not_false, Bool.false_eq_true, if_false, if_true, ite_true, ite_false, List.length_cons, List.length_nil])
      exact h
    · have := bits_lt hm
      omega
    · (try simp only [tVar, tC, tOp, tUn, rI, rI0, rU, rEq, rNe, scal, tTest, tB, tAnd, tOr, tNot, tAndV, tOrV, tNotV, tIf, tChain, tNil, tCons, tCB, tCall, tTup, tLst, tRet, tRetN, tDrop, tSeq, tNext, tIfS, tAsg, gName, tPar, tPar3, gNil, gCons, gTup, gSub, tAug, tSl, tNoPart, tPart, tBM, tBM0, tYes, tIsP, iSeq, iEnumA, RZ.iZipA, iRng1, iRng2, iList, iTup, rIsi, rIsB, rIxL, rIxT, rIxA, rLenA, rListOf, rTupOf, rSetL, rSlL, rCat, rAppend, tFld, sFld, tMake, tBits, Int.ofNat_inj, cast1, cast0, TruV, cxOf, Cx.nox, Cx.wish, tNever, tBreak, tCont, ipI, tDIn, tDNotIn, sDPut, tDNewT, tDNewK, tDGet, rSortedPO, rSortedI, rIn, rEqD, rNeD, rInD, rNotInD, tSSet, rIsV, rIntI, rIntB, rAbsN, tLstRg, tRg1, tRg2, List.append_nil, List.nil_append, List.cons_append, Option.some.injEq, exists_eq_left', exists_eq_left, exists_eq_right, exists_eq_right', List.getElem?_cons_zero, List.getElem?_cons_succ, List.set_cons_zero, List.set_cons_succ, List.cons.injEq, and_true, true_and, exists_and_left, exists_and_right, and_assoc, V.int.injEq, V.bl.injEq, V.ref.injEq, V.str.injEq, reduceCtorEq, decide_true, decide_false, Bool.not_true, Bool.not_false, Bool.false_eq_true, if_false, if_true, ite_true, ite_false, List.length_cons, List.length_nil])
      rw [odd_test]
      cases ht : m.testBit i
      · exact q2 ht
      · exact q1 ht
    · (try simp only [tVar, tC, tOp, tUn, rI, rI0, rU, rEq, rNe, scal, tTest, tB, tAnd, tOr, tNot, tAndV, tOrV, tNotV, tIf, tChain, tNil, tCons, tCB, tCall, tTup, tLst, tRet, tRetN, tDrop, tSeq, tNext, tIfS, tAsg, gName, tPar, tPar3, gNil, gCons, gTup, gSub, tAug, tSl, tNoPart, tPart, tBM, tBM0, tYes, tIsP, iSeq, iEnumA, RZ.iZipA, iRng1, iRng2, iList, iTup, rIsi, rIsB, rIxL, rIxT, rIxA, rLenA, rListOf, rTupOf, rSetL, rSlL, rCat, rAppend, tFld, sFld, tMake, tBits, Int.ofNat_inj, cast1, cast0, TruV, cxOf, Cx.nox, Cx.wish, tNever, tBreak, tCont, ipI, tDIn, tDNotIn, sDPut, tDNewT, tDNewK, tDGet, rSortedPO, rSortedI, rIn, rEqD, rNeD, rInD, rNotInD, tSSet, rIsV, rIntI, rIntB, rAbsN, tLstRg, tRg1, tRg2, List.append_nil, List.nil_append, List.cons_append, Option.some.injEq, exists_eq_left', exists_eq_left, exists_eq_right, exists_eq_right', List.getElem?_cons_zero, List.getElem?_cons_succ, List.set_cons_zero, List.set_cons_succ, List.cons.injEq, and_true, true_and, exists_and_left, exists_and_right, and_assoc, V.int.injEq, V.bl.injEq, V.ref.injEq, V.str.injEq, reduceCtorEq, decide_true, decide_false, Bool.not_true, Bool.not_false, Bool.false_eq_true, if_false, if_true, ite_true, ite_false, List.length_cons, List.length_nil])
      exact ⟨_, .inl ⟨.of upd_same, fun l hl => q _ l (Same.mk2 hL hl) (back (same_new hL) hl) upd_same⟩⟩
def sp_mask_of (K : PySem.W.Frag) : Sp := fun vs H Q _ => ∃ a ns, vs = [.ref a] ∧ Seq K H a (nvs ns) ∧ (∀ n ∈ ns, n < 64) ∧ Q (nv (maskOf ns)) H
theorem ok_mask_of (T : Tx K mg) : FnOk P w K mg base CX0 1 T.a_mask_of T.d_mask_of ["lot"] (sp_mask_of K) := by
  refine T.F_mask_of.ok sc_mask_of (fun vs H Q E h => ?_) (fun cdv A outer s H vs Q E hr h => ?_)
  · obtain ⟨a, ns, rfl, _⟩ := h
    rfl
  · obtain ⟨a, ns, rfl, hs, hn, q⟩ := h
    refine ⟨_, (pss_cons (ps_set (i := 1) sc_mask_of.nd rfl (Or.inl rfl) pe_int)
      (pss_cons (ps_for PassesOwn.never rfl (pseqK (K := K) rfl (pv 0)) (pg_name (i := 2) sc_mask_of.nd rfl (Or.inl rfl)) (pss_one (ps_set (i := 1) sc_mask_of.nd rfl (Or.inl rfl) (pe_op op_orU (pv 1) (pe_op op_shlU pe_int (pv 2))))))
      (pss_one (ps_ret (pv 1))))), ?_⟩
    rw [show L2.start ["lot", "mask", "key"] [.ref a] = [some (.ref a), none, none] from rfl]
    generalize hF1 : tFor _ _ _ = F1
    (try simp only [tVar, tC, tOp, tUn, rI, rI0, rU, rEq, rNe, scal, tTest, tB, tAnd, tOr, tNot, tAndV, tOrV, tNotV, tIf, tChain, tNil, tCons, tCB, tCall, tTup, tLst, tRet, tRetN, tDrop, tSeq, tNext, tIfS, tAsg, gName, tPar, tPar3, gNil, gCons, gTup, gSub, tAug, tSl, tNoPart, tPart, tBM, tBM0, tYes, tIsP, iSeq, iEnumA, RZ.iZipA, iRng1, iRng2, iList, iTup, rIsi, rIsB, rIxL, rIxT, rIxA, rLenA, rListOf, rTupOf, rSetL, rSlL, rCat, rAppend, tFld, sFld, tMake, tBits, Int.ofNat_inj, cast1, cast0, TruV, cxOf, Cx.nox, Cx.wish, tNever, tBreak, tCont, ipI, tDIn, tDNotIn, sDPut, tDNewT, tDNewK, tDGet, rSortedPO, rSortedI, rIn, rEqD, rNeD, rInD, rNotInD, tSSet, rIsV, rIntI, rIntB, rAbsN, tLstRg, tRg1, tRg2, List.append_nil, List.nil_append, List.cons_append, Option.some.injEq, exists_eq_left', exists_eq_left, exists_eq_right, exists_eq_right', List.getElem?_cons_zero, List.getElem?_cons_succ, List.set_cons_zero, List.set_cons_succ, List.cons.injEq, and_true, true_and, exists_and_left, exists_and_right, and_assoc, V.int.injEq, V.bl.injEq, V.ref.injEq, V.str.injEq, reduceCtorEq, decide_true, decide_false, Bool.not_true, Bool.not_false, Bool.false_eq_true, if_false, if_true, ite_true, ite_false, List.length_cons, List.length_nil])
    subst hF1
    refine forS a (nvs ns) (fun i σ' H' => ∃ y, σ' = [some (.ref a), some (nv (maskOf (ns.take i))), y] ∧ H' = H) (fun R h => ?_) ⟨_, rfl, rfl⟩ H hs (fun i σ' H' h => by obtain ⟨_, _, rfl⟩ := h; exact Same.refl _) ?_ (fun σ' H' h => ?_)
    · (try simp only [tVar, tC, tOp, tUn, rI, rI0, rU, rEq, rNe, scal, tTest, tB, tAnd, tOr, tNot, tAndV, tOrV, tNotV, tIf, tChain, tNil, tCons, tCB, tCall, tTup, tLst, tRet, tRetN, tDrop, tSeq, tNext, tIfS, tAsg, gName, tPar, tPar3, gNil, gCons, gTup, gSub, tAug, tSl, tNoPart, tPart, tBM, tBM0, tYes, tIsP, iSeq, iEnumA, RZ.iZipA, iRng1, iRng2, iList, iTup, rIsi, rIsB, rIxL, rIxT, rIxA, rLenA, rListOf, rTupOf, rSetL, rSlL, rCat, rAppend, tFld, sFld, tMake, tBits, Int.ofNat_inj, cast1, cast0, TruV, cxOf, Cx.nox, Cx.wish, tNever, tBreak, tCont, ipI, tDIn, tDNotIn, sDPut, tDNewT, tDNewK, tDGet, rSortedPO, rSortedI, rIn, rEqD, rNeD, rInD, rNotInD, tSSet, rIsV, rIntI, rIntB, rAbsN, tLstRg, tRg1, tRg2, List.append_nil, List.nil_append, List.cons_append, Option.some.injEq, exists_eq_left', exists_eq_left, exists_eq_right, exists_eq_right', List.getElem?_cons_zero, List.getElem?_cons_succ, List.set_cons_zero, List.set_cons_succ, List.cons.injEq, and_true, true_and, exists_and_left, exists_and_right, and_assoc, V.int.injEq, V.bl.injEq, V.ref.injEq, V.str.injEq, reduceCtorEq, decide_true, decide_false, Bool.not_true, Bool.not_false, Bool.false_eq_true, if_false, if_true, ite_true, ite_false, List.length_cons, List.length_nil])
      exact h
    · rintro i x σ' H' hx ⟨y, rfl, rfl⟩
      obtain ⟨k, hk, rfl⟩ := nvs_at hx
      (try simp only [tVar, tC, tOp, tUn, rI, rI0, rU, rEq, rNe, scal, tTest, tB, tAnd, tOr, tNot, tAndV, tOrV, tNotV, tIf, tChain, tNil, tCons, tCB, tCall, tTup, tLst, tRet, tRetN, tDrop, tSeq, tNext, tIfS, tAsg, gName, tPar, tPar3, gNil, gCons, gTup, gSub, tAug, tSl, tNoPart, tPart, tBM, tBM0, tYes, tIsP, iSeq, iEnumA, RZ.iZipA, iRng1, iRng2, iList, iTup, rIsi, rIsB, rIxL, rIxT, rIxA, rLenA, rListOf, rTupOf, rSetL, rSlL, rCat, rAppend, tFld, sFld, tMake, tBits, Int.ofNat_inj, cast1, cast0, TruV, cxOf, Cx.nox, Cx.wish, tNever, tBreak, tCont, ipI, tDIn, tDNotIn, sDPut, tDNewT, tDNewK, tDGet, rSortedPO, rSortedI, rIn, rEqD, rNeD, rInD, rNotInD, tSSet, rIsV, rIntI, rIntB, rAbsN, tLstRg, tRg1, tRg2, List.append_nil, List.nil_append, List.cons_append, Option.some.injEq, exists_eq_left', exists_eq_left, exists_eq_right, exists_eq_right', List.getElem?_cons_zero, List.getElem?_cons_succ, List.set_cons_zero, List.set_cons_succ, List.cons.injEq, and_true, true_and, exists_and_left, exists_and_right, and_assoc, V.int.injEq, V.bl.injEq, V.ref.injEq, V.str.injEq, reduceCtorEq, decide_true, decide_false, Bool.not_true, Bool.not_false, Bool.false_eq_true, if_false, if_true, ite_true, ite_false, List.length_cons, List.length_nil])
      refine ⟨by have := hn k (List.mem_of_getElem? hk); omega, ?_⟩
      rw [maskOf_take hk]
    · obtain ⟨y, rfl, rfl⟩ := h
      (try simp only [tVar, tC, tOp, tUn, rI, rI0, rU, rEq, rNe, scal, tTest, tB, tAnd, tOr, tNot, tAndV, tOrV, tNotV, tIf, tChain, tNil, tCons, tCB, tCall, tTup, tLst, tRet, tRetN, tDrop, tSeq, tNext, tIfS, tAsg, gName, tPar, tPar3, gNil, gCons, gTup, gSub, tAug, tSl, tNoPart, tPart, tBM, tBM0, tYes, tIsP, iSeq, iEnumA, RZ.iZipA, iRng1, iRng2, iList, iTup, rIsi, rIsB, rIxL, rIxT, rIxA, rLenA, rListOf, rTupOf, rSetL, rSlL, rCat, rAppend, tFld, sFld, tMake, tBits, Int.ofNat_inj, cast1, cast0, TruV, cxOf, Cx.nox, Cx.wish, tNever, tBreak, tCont, ipI, tDIn, tDNotIn, sDPut, tDNewT, tDNewK, tDGet, rSortedPO, rSortedI, rIn, rEqD, rNeD, rInD, rNotInD, tSSet, rIsV, rIntI, rIntB, rAbsN, tLstRg, tRg1, tRg2, List.append_nil, List.nil_append, List.cons_append, Option.some.injEq, exists_eq_left', exists_eq_left, exists_eq_right, exists_eq_right', List.getElem?_cons_zero, List.getElem?_cons_succ, List.set_cons_zero, List.set_cons_succ, List.cons.injEq, and_true, true_and, exists_and_left, exists_and_right, and_assoc, V.int.injEq, V.bl.injEq, V.ref.injEq, V.str.injEq, reduceCtorEq, decide_true, decide_false, Bool.not_true, Bool.not_false, Bool.false_eq_true, if_false, if_true, ite_true, ite_false, List.length_cons, List.length_nil])
      rw [List.length_map, List.take_length]
      exact q
end
end Kr
namespace Kr
open PySem PySem.Spec PyProof.Rows L2 Kb
section
variable {P : Program} {w : World} {K : PySem.W.Frag} {mg : Str → Option Value} {base : Heap}
/-! ### keys -/
def sp_need_count (K : PySem.W.Frag) : Sp := fun vs H Q _ => ∃ i l m, vs = [.int i, .int l, .int m] ∧ (l ≤ i ∧ i ≤ m) ∧ Q .non H
theorem ok_need_count (T : Tx K mg) : FnOk P w K mg base CX0 3 T.a_need_count T.d_need_count ["value", "least", "greatest"] (sp_need_count K) := by
  refine T.F_need_count.ok sc_need_count (fun vs H Q E h => ?_) (fun cdv A outer s H vs Q E hr h => ?_)
  · obtain ⟨i, l, m, rfl, _⟩ := h
    rfl
  · obtain ⟨i, l, m, rfl, ⟨h1, h2⟩, q⟩ := h
    refine ⟨_, (pss_one (ps_if (pt_not (pt_val (pe_call (ok_is_between T) (hr.mono (by decide)) (by rfl) T.g_is_between T.F_is_between.kp T.b_is_between .nil pass0 (pa_cons (pv 0) (pa_cons (pv 1) (pa_cons (pv 2) pa_nil)))))) (pss_one ps_never) pss_nil)), ?_⟩
    rw [show L2.start ["value", "least", "greatest"] [.int i, .int l, .int m] = [some (.int i), some (.int l), some (.int m)] from rfl]
    (try simp only [tVar, tC, tOp, tUn, rI, rI0, rU, rEq, rNe, scal, tTest, tB, tAnd, tOr, tNot, tAndV, tOrV, tNotV, tIf, tChain, tNil, tCons, tCB, tCall, tTup, tLst, tRet, tRetN, tDrop, tSeq, tNext, tIfS, tAsg, gName, tPar, tPar3, gNil, gCons, gTup, gSub, tAug, tSl, tNoPart, tPart, tBM, tBM0, tYes, tIsP, iSeq, iEnumA, RZ.iZipA, iRng1, iRng2, iList, iTup, rIsi, rIsB, rIxL, rIxT, rIxA, rLenA, rListOf, rTupOf, rSetL, rSlL, rCat, rAppend, tFld, sFld, tMake, tBits, Int.ofNat_inj, cast1, cast0, TruV, cxOf, Cx.nox, Cx.wish, tNever, tBreak, tCont, ipI, tDIn, tDNotIn, sDPut, tDNewT, tDNewK, tDGet, rSortedPO, rSortedI, rIn, rEqD, rNeD, rInD, rNotInD, tSSet, rIsV, rIntI, rIntB, rAbsN, tLstRg, tRg1, tRg2, List.append_nil, List.nil_append, List.cons_append, Option.some.injEq, exists_eq_left', exists_eq_left, exists_eq_right, exists_eq_right', List.getElem?_cons_zero, List.getElem?_cons_succ, List.set_cons_zero, List.set_cons_succ, List.cons.injEq, and_true, true_and, exists_and_left, exists_and_right, and_assoc, V.int.injEq, V.bl.injEq, V.ref.injEq, V.str.injEq, reduceCtorEq, decide_true, decide_false, Bool.not_true, Bool.not_false, Bool.false_eq_true, if_false, if_true, ite_true, ite_false, List.length_cons, List.length_nil])
    refine between_i ?_
    rw [decide_eq_true h1, decide_eq_true h2]
    (try simp only [tVar, tC, tOp, tUn, rI, rI0, rU, rEq, rNe, scal, tTest, tB, tAnd, tOr, tNot, tAndV, tOrV, tNotV, tIf, tChain, tNil, tCons, tCB, tCall, tTup, tLst, tRet, tRetN, tDrop, tSeq, tNext, tIfS, tAsg, gName, tPar, tPar3, gNil, gCons, gTup, gSub, tAug, tSl, tNoPart, tPart, tBM, tBM0, tYes, tIsP, iSeq, iEnumA, RZ.iZipA, iRng1, iRng2, iList, iTup, rIsi, rIsB, rIxL, rIxT, rIxA, rLenA, rListOf, rTupOf, rSetL, rSlL, rCat, rAppend, tFld, sFld, tMake, tBits, Int.ofNat_inj, cast1, cast0, TruV, cxOf, Cx.nox, Cx.wish, tNever, tBreak, tCont, ipI, tDIn, tDNotIn, sDPut, tDNewT, tDNewK, tDGet, rSortedPO, rSortedI, rIn, rEqD, rNeD, rInD, rNotInD, tSSet, rIsV, rIntI, rIntB, rAbsN, tLstRg, tRg1, tRg2, List.append_nil, List.nil_append, List.cons_append, Option.some.injEq, exists_eq_left', exists_eq_left, exists_eq_right, exists_eq_right', List.getElem?_cons_zero, List.getElem?_cons_succ, List.set_cons_zero, List.set_cons_succ, List.cons.injEq, and_true, true_and, exists_and_left, exists_and_right, and_assoc, V.int.injEq, V.bl.injEq, V.ref.injEq, V.str.injEq, reduceCtorEq, decide_true, decide_false, Bool.not_true, Bool.not_false, Bool.false_eq_true, if_false, if_true, ite_true, ite_false, List.length_cons, List.length_nil])
    exact q
abbrev NP := Nat × Nat
/-- these pairs, each a tuple of its own -/
def Prs (H : Hp) (xs : List V) (ps : List NP) : Prop := Paired (fun (x : V) (p : NP) => ∃ a, x = .ref a ∧ H a = some (.tup [nv p.1, nv p.2])) xs ps
theorem Prs.same {H H' : Hp} {xs : List V} {ps : List NP} (e : Same H H') (h : Prs H xs ps) : Prs H' xs ps := Paired.mapP h fun _ _ ⟨a, e1, e2⟩ => ⟨a, e1, e _ _ e2⟩
theorem Prs.len {H : Hp} {xs : List V} {ps : List NP} (h : Prs H xs ps) : xs.length = ps.length := Paired.length h
theorem Prs.at {H : Hp} : ∀ {xs : List V} {ps : List NP} {i : Nat} {x : V}, Prs H xs ps → xs[i]? = some x → ∃ p a, ps[i]? = some p ∧ x = .ref a ∧ H a = some (.tup [nv p.1, nv p.2])
  | _, _, _, _, .nil, e => by simp at e
  | _, _, 0, _, .cons ⟨a, e1, e2⟩ _, e => by
    have z := Option.some.inj e
    exact ⟨_, a, rfl, z ▸ e1, e2⟩
  | _, _, i + 1, _, .cons _ t, e => Prs.at (i := i) t e
def kof (p : NP) : List Key := [.inl (p.1 : Int), .inl (p.2 : Int)]
theorem kof_inj {p q : NP} (h : kof p = kof q) : p = q := by
  unfold kof at h
  injection h with h1 h2
  injection h2 with h2 _
  injection h1 with h1
  injection h2 with h2
  obtain ⟨a, b⟩ := p
  obtain ⟨c, d⟩ := q
  simp only [Prod.mk.injEq]
  omega
def ent (p : NP) : List Key × V := (kof p, .bl true)
theorem val_none {ps : List NP} {p : NP} (h : p ∉ ps) : valV (ps.map ent) (kof p) = none := by
  induction ps with
  | nil => rfl
  | cons q r ih =>
    rw [List.map_cons, valV_neg (fun e => h (by rw [kof_inj e]; exact List.mem_cons_self))]
    exact ih fun m => h (List.mem_cons_of_mem _ m)
theorem put_new {ps : List NP} {p : NP} (h : p ∉ ps) : putK (ps.map ent) (kof p) (.bl true) = (ps ++ [p]).map ent := by
  unfold putK
  rw [valV_any, val_none h, List.map_append]
  rfl
def enK (k : Nat) : Key × V := (.inl (k : Int), .bl true)
theorem valk_none {ns : List Nat} {k : Nat} (h : k ∉ ns) : valV (ns.map enK) (.inl (k : Int)) = none := by
  induction ns with
  | nil => rfl
  | cons q r ih =>
    rw [List.map_cons, valV_neg (fun e => h (by injection e with e; rw [show k = q by omega]; exact List.mem_cons_self))]
    exact ih fun m => h (List.mem_cons_of_mem _ m)
theorem putk_new {ns : List Nat} {k : Nat} (h : k ∉ ns) : putK (ns.map enK) (.inl (k : Int)) (.bl true) = (ns ++ [k]).map enK := by
  unfold putK
  rw [valV_any, valk_none h, List.map_append]
  rfl
theorem not_in_take {α : Type} {l : List α} {i : Nat} {x : α} (nd : l.Nodup) (h : l[i]? = some x) : x ∉ l.take i := fun m => by
  obtain ⟨j, hj, e⟩ := List.mem_iff_getElem.mp m
  rw [List.length_take] at hj
  rw [List.getElem_take] at e
  have hj2 : l[j]? = some x := by rw [List.getElem?_eq_getElem (by omega), e]
  have := nd_ix nd hj2 h
  omega
/-- the pairs in their order -/
def lexle (p q : NP) : Prop := p.1 < q.1 ∨ (p.1 = q.1 ∧ p.2 ≤ q.2)
theorem prs_keys {H : Hp} : ∀ {ps : List NP} {bs : List Addr}, IsKeys H (ps.map ent) bs → Prs H (bs.map V.ref) ps
  | [], [], .nil => .nil
  | _ :: _, b :: _, .cons h t => .cons ⟨b, rfl, h⟩ (prs_keys t)
/-- a pair, out of the heap -/
def dec (H : Hp) (x : V) : Int × Int := match x with
  | .ref t => match H t with
    | some (.tup [.int a, .int b]) => (a, b)
    | _ => (0, 0)
  | _ => (0, 0)
theorem dec_of {H : Hp} {t : Addr} {a b : Int} (h : H t = some (.tup [.int a, .int b])) : dec H (.ref t) = (a, b) := by
  unfold dec
  simp only [h]
def decN (H : Hp) (x : V) : NP := ((dec H x).1.toNat, (dec H x).2.toNat)
def decs (H : Hp) (ys : List V) : List NP := ys.map (decN H)
theorem decN_of {H : Hp} {t : Addr} {p : NP} (h : H t = some (.tup [nv p.1, nv p.2])) : decN H (.ref t) = p := by
  unfold decN
  rw [dec_of h]
  exact Prod.ext (Int.toNat_natCast _) (Int.toNat_natCast _)
theorem Prs.decs {H : Hp} : ∀ {xs : List V} {ps : List NP}, Prs H xs ps → decs H xs = ps
  | _, _, .nil => rfl
  | _, _, .cons ⟨t, e1, e2⟩ r => by
    subst e1
    show decN H (.ref t) :: Kr.decs H _ = _
    rw [decN_of e2, Prs.decs r]
theorem prs_self {H : Hp} : ∀ {ys : List V}, (∀ y ∈ ys, ∃ t p, y = .ref t ∧ H t = some (.tup [nv p.1, nv (p : NP).2])) → Prs H ys (decs H ys)
  | [], _ => .nil
  | y :: r, h => by
    obtain ⟨t, p, rfl, e⟩ := h y List.mem_cons_self
    refine .cons ⟨t, rfl, ?_⟩ (prs_self fun z hz => h z (List.mem_cons_of_mem _ hz))
    rw [decN_of e]
    exact e
theorem sort_prs {H : Hp} {xs ys : List V} {ps : List NP} (h : Prs H xs ps) (hp : ys.Perm xs) : Prs H ys (decs H ys) ∧ (decs H ys).Perm ps := by
  refine ⟨prs_self fun y hy => ?_, ?_⟩
  · obtain ⟨i, hi⟩ := List.mem_iff_getElem?.mp (hp.mem_iff.mp hy)
    obtain ⟨p, b, _, rfl, eb⟩ := Prs.at h hi
    exact ⟨b, p, rfl, eb⟩
  · have := hp.map (decN H)
    rw [show xs.map (decN H) = ps from h.decs] at this
    exact this
theorem sort_lex {H : Hp} {ys : List V} (h : Prs H ys (decs H ys)) (hs : SrtO.Srtd (ltP (dec H)) ys) : (decs H ys).Pairwise lexle := by
  have key : ∀ y ∈ ys, dec H y = (((decN H y).1 : Int), ((decN H y).2 : Int)) := by
    intro y hy
    obtain ⟨i, hi⟩ := List.mem_iff_getElem?.mp hy
    obtain ⟨p, b, _, rfl, eb⟩ := Prs.at h hi
    rw [decN_of eb, dec_of eb]
  refine List.pairwise_map.mpr (hs.imp_of_mem fun {a b} ha hb hab => ?_)
  have e := SrtO.lexB_no.mp hab
  rw [key a ha, key b hb] at e
  unfold lexle
  simp only at e
  omega
def GoodPairs (n : Nat) (ps : List NP) : Prop := ps.Nodup ∧ ∀ p ∈ ps, p.1 ≤ p.2 ∧ p.2 < n
def sp_told_clashes (K : PySem.W.Frag) : Sp := fun vs H Q _ => ∃ a xs ps n, vs = [.ref a, nv n] ∧ Seq K H a xs ∧ Prs H xs ps ∧ GoodPairs n ps ∧ ps.length ≤ 1000 ∧
  ∀ H' p ys qs, Same H H' → H p = none → H' p = some (.tup ys) → Prs H' ys qs → qs.Perm ps → qs.Pairwise lexle → Q (.ref p) H'
theorem ok_told_clashes (T : Tx K mg) : FnOk P w K mg base CX0 3 T.a_told_clashes T.d_told_clashes ["value", "many"] (sp_told_clashes K) := by
  refine T.F_told_clashes.ok sc_told_clashes (fun vs H Q E h => ?_) (fun cdv A outer s H vs Q E hr h => ?_)
  · obtain ⟨a, xs, ps, n, rfl, _⟩ := h
    rfl
  · obtain ⟨a, xs, ps, n, rfl, hs, hp, ⟨nd, hg⟩, hz, q⟩ := h
    refine ⟨_, (pss_cons (ps_if (pt_not (pt_val (pe_call (ok_is_sequence T) (hr.mono (by decide)) (by rfl) T.g_is_sequence T.F_is_sequence.kp T.b_is_sequence .nil pass0 (pa_cons (pv 0) pa_nil)))) (pss_one ps_never) pss_nil)
      (pss_cons (ps_set (i := 2) sc_told_clashes.nd rfl (Or.inl rfl) pe_dnewT)
      (pss_cons (ps_for PassesOwn.never rfl (penumK (K := K) rfl (by rfl) T.n_enumerate (pa_cons (pv 0) pa_nil)) (gtupK (K := K) (n := 2) rfl (by rfl) (pgs_cons (pg_name (i := 3) sc_told_clashes.nd rfl (Or.inl rfl)) (pgs_cons (pg_name (i := 4) sc_told_clashes.nd rfl (Or.inl rfl)) pgs_nil))) (pss_cons (ps_if (PW.pt (pw_or (pt_not (pt_val (pe_call (ok_is_row T) (hr.mono (by decide)) (by rfl) T.g_is_row T.F_is_row.kp T.b_is_row .nil pass0 (pa_cons (pv 4) (pa_cons pe_int pa_nil))))) (pw_or (pt_not (pt_val (pe_call (ok_is_below T) (hr.mono (by decide)) (by rfl) T.g_is_below T.F_is_below.kp T.b_is_below .nil pass0 (pa_cons (pe_ix (ixA (K := K) rfl) (pv 4) pe_int (fun _ _ => rfl)) (pa_cons (pv 1) pa_nil))))) (pw_or1 (pt_not (pt_val (pe_call (ok_is_below T) (hr.mono (by decide)) (by rfl) T.g_is_below T.F_is_below.kp T.b_is_below .nil pass0 (pa_cons (pe_ix (ixA (K := K) rfl) (pv 4) pe_int (fun _ _ => rfl)) (pa_cons (pv 1) pa_nil))))))))) (pss_one ps_never) pss_nil)
      (pss_cons (ps_if (PW.pt (pw_or (pt_cmpR op_gt (pe_ix (ixA (K := K) rfl) (pv 4) pe_int (fun _ _ => rfl)) (pe_ix (ixA (K := K) rfl) (pv 4) pe_int (fun _ _ => rfl)) (nomark _)) (pw_or1 (pt_cmp (pc_din (hu_of hr) (pe_tup (pa_cons (pe_ix (ixA (K := K) rfl) (pv 4) pe_int (fun _ _ => rfl)) (pa_cons (pe_ix (ixA (K := K) rfl) (pv 4) pe_int (fun _ _ => rfl)) pa_nil))) (pv 2)))))) (pss_one ps_never) pss_nil)
      (pss_one (ps_dput (hu_of hr) (pv 2) (pe_tup (pa_cons (pe_ix (ixA (K := K) rfl) (pv 4) pe_int (fun _ _ => rfl)) (pa_cons (pe_ix (ixA (K := K) rfl) (pv 4) pe_int (fun _ _ => rfl)) pa_nil))) pe_bl rfl)))))
      (pss_one (ps_ret (pe_callTy (tupOfK (K := K) rfl) (by rfl) T.n_tuple (by decide +kernel) (pa_cons (pe_callB (sortPK (K := K) rfl) (by rfl) T.n_sorted (by decide +kernel) (pa_cons (pe_callTy (call_list_dT rfl) (by rfl) T.n_list (by decide +kernel) (pa_cons (pv 2) pa_nil)) pa_nil)) pa_nil))))))), ?_⟩
    rw [show L2.start ["value", "many", "seen", "at", "pair"] [.ref a, nv n] = [some (.ref a), some (nv n), none, none, none] from rfl]
    generalize hF1 : tFor _ _ _ = F1
    (try simp only [tVar, tC, tOp, tUn, rI, rI0, rU, rEq, rNe, scal, tTest, tB, tAnd, tOr, tNot, tAndV, tOrV, tNotV, tIf, tChain, tNil, tCons, tCB, tCall, tTup, tLst, tRet, tRetN, tDrop, tSeq, tNext, tIfS, tAsg, gName, tPar, tPar3, gNil, gCons, gTup, gSub, tAug, tSl, tNoPart, tPart, tBM, tBM0, tYes, tIsP, iSeq, iEnumA, RZ.iZipA, iRng1, iRng2, iList, iTup, rIsi, rIsB, rIxL, rIxT, rIxA, rLenA, rListOf, rTupOf, rSetL, rSlL, rCat, rAppend, tFld, sFld, tMake, tBits, Int.ofNat_inj, cast1, cast0, TruV, cxOf, Cx.nox, Cx.wish, tNever, tBreak, tCont, ipI, tDIn, tDNotIn, sDPut, tDNewT, tDNewK, tDGet, rSortedPO, rSortedI, rIn, rEqD, rNeD, rInD, rNotInD, tSSet, rIsV, rIntI, rIntB, rAbsN, tLstRg, tRg1, tRg2, List.append_nil, List.nil_append, List.cons_append, Option.some.injEq, exists_eq_left', exists_eq_left, exists_eq_right, exists_eq_right', List.getElem?_cons_zero, List.getElem?_cons_succ, List.set_cons_zero, List.set_cons_succ, List.cons.injEq, and_true, true_and, exists_and_left, exists_and_right, and_assoc, V.int.injEq, V.bl.injEq, V.ref.injEq, V.str.injEq, reduceCtorEq, decide_true, decide_false, Bool.not_true, Bool.not_false, Bool.false_eq_true, if_false, if_true, ite_true, ite_false, List.length_cons, List.length_nil])
    refine is_seq hs ?_
    (try simp only [tVar, tC, tOp, tUn, rI, rI0, rU, rEq, rNe, scal, tTest, tB, tAnd, tOr, tNot, tAndV, tOrV, tNotV, tIf, tChain, tNil, tCons, tCB, tCall, tTup, tLst, tRet, tRetN, tDrop, tSeq, tNext, tIfS, tAsg, gName, tPar, tPar3, gNil, gCons, gTup, gSub, tAug, tSl, tNoPart, tPart, tBM, tBM0, tYes, tIsP, iSeq, iEnumA, RZ.iZipA, iRng1, iRng2, iList, iTup, rIsi, rIsB, rIxL, rIxT, rIxA, rLenA, rListOf, rTupOf, rSetL, rSlL, rCat, rAppend, tFld, sFld, tMake, tBits, Int.ofNat_inj, cast1, cast0, TruV, cxOf, Cx.nox, Cx.wish, tNever, tBreak, tCont, ipI, tDIn, tDNotIn, sDPut, tDNewT, tDNewK, tDGet, rSortedPO, rSortedI, rIn, rEqD, rNeD, rInD, rNotInD, tSSet, rIsV, rIntI, rIntB, rAbsN, tLstRg, tRg1, tRg2, List.append_nil, List.nil_append, List.cons_append, Option.some.injEq, exists_eq_left', exists_eq_left, exists_eq_right, exists_eq_right', List.getElem?_cons_zero, List.getElem?_cons_succ, List.set_cons_zero, List.set_cons_succ, List.cons.injEq, and_true, true_and, exists_and_left, exists_and_right, and_assoc, V.int.injEq, V.bl.injEq, V.ref.injEq, V.str.injEq, reduceCtorEq, decide_true, decide_false, Bool.not_true, Bool.not_false, Bool.false_eq_true, if_false, if_true, ite_true, ite_false, List.length_cons, List.length_nil])
    intro d hd
    subst hF1
    refine forE a xs (fun i σ' H' => ∃ y3 y4, σ' = [some (.ref a), some (nv n), some (.ref d), y3, y4] ∧ Same H H' ∧ H' d = some (.dT ((ps.take i).map ent))) (fun R h => ?_) ⟨_, _, rfl, same_new hd, upd_same⟩ H hs (fun i σ' H' h => by obtain ⟨_, _, _, h, _⟩ := h; exact h) ?_ ?_
    · (try simp only [tVar, tC, tOp, tUn, rI, rI0, rU, rEq, rNe, scal, tTest, tB, tAnd, tOr, tNot, tAndV, tOrV, tNotV, tIf, tChain, tNil, tCons, tCB, tCall, tTup, tLst, tRet, tRetN, tDrop, tSeq, tNext, tIfS, tAsg, gName, tPar, tPar3, gNil, gCons, gTup, gSub, tAug, tSl, tNoPart, tPart, tBM, tBM0, tYes, tIsP, iSeq, iEnumA, RZ.iZipA, iRng1, iRng2, iList, iTup, rIsi, rIsB, rIxL, rIxT, rIxA, rLenA, rListOf, rTupOf, rSetL, rSlL, rCat, rAppend, tFld, sFld, tMake, tBits, Int.ofNat_inj, cast1, cast0, TruV, cxOf, Cx.nox, Cx.wish, tNever, tBreak, tCont, ipI, tDIn, tDNotIn, sDPut, tDNewT, tDNewK, tDGet, rSortedPO, rSortedI, rIn, rEqD, rNeD, rInD, rNotInD, tSSet, rIsV, rIntI, rIntB, rAbsN, tLstRg, tRg1, tRg2, List.append_nil, List.nil_append, List.cons_append, Option.some.injEq, exists_eq_left', exists_eq_left, exists_eq_right, exists_eq_right', List.getElem?_cons_zero, List.getElem?_cons_succ, List.set_cons_zero, List.set_cons_succ, List.cons.injEq, and_true, true_and, exists_and_left, exists_and_right, and_assoc, V.int.injEq, V.bl.injEq, V.ref.injEq, V.str.injEq, reduceCtorEq, decide_true, decide_false, Bool.not_true, Bool.not_false, Bool.false_eq_true, if_false, if_true, ite_true, ite_false, List.length_cons, List.length_nil])
      exact h
    · rintro i x σ' H' T hx ⟨y3, y4, rfl, sm, ed⟩ hT
      obtain ⟨p, b, hpi, rfl, eb⟩ := Prs.at hp hx
      have gp := hg p (List.mem_of_getElem? hpi)
      have e1 : (upd H' T (.tup [nv i, .ref b])) b = some (.tup [nv p.1, nv p.2]) := same_new hT _ _ (sm _ _ eb)
      have sb : Seq K (upd H' T (.tup [nv i, .ref b])) b [nv p.1, nv p.2] := .inr (.of e1)
      have ed1 : (upd H' T (.tup [nv i, .ref b])) d = some (.dT ((ps.take i).map ent)) := same_new hT _ _ ed
      (try simp only [tVar, tC, tOp, tUn, rI, rI0, rU, rEq, rNe, scal, tTest, tB, tAnd, tOr, tNot, tAndV, tOrV, tNotV, tIf, tChain, tNil, tCons, tCB, tCall, tTup, tLst, tRet, tRetN, tDrop, tSeq, tNext, tIfS, tAsg, gName, tPar, tPar3, gNil, gCons, gTup, gSub, tAug, tSl, tNoPart, tPart, tBM, tBM0, tYes, tIsP, iSeq, iEnumA, RZ.iZipA, iRng1, iRng2, iList, iTup, rIsi, rIsB, rIxL, rIxT, rIxA, rLenA, rListOf, rTupOf, rSetL, rSlL, rCat, rAppend, tFld, sFld, tMake, tBits, Int.ofNat_inj, cast1, cast0, TruV, cxOf, Cx.nox, Cx.wish, tNever, tBreak, tCont, ipI, tDIn, tDNotIn, sDPut, tDNewT, tDNewK, tDGet, rSortedPO, rSortedI, rIn, rEqD, rNeD, rInD, rNotInD, tSSet, rIsV, rIntI, rIntB, rAbsN, tLstRg, tRg1, tRg2, List.append_nil, List.nil_append, List.cons_append, Option.some.injEq, exists_eq_left', exists_eq_left, exists_eq_right, exists_eq_right', List.getElem?_cons_zero, List.getElem?_cons_succ, List.set_cons_zero, List.set_cons_succ, List.cons.injEq, and_true, true_and, exists_and_left, exists_and_right, and_assoc, V.int.injEq, V.bl.injEq, V.ref.injEq, V.str.injEq, reduceCtorEq, decide_true, decide_false, Bool.not_true, Bool.not_false, Bool.false_eq_true, if_false, if_true, ite_true, ite_false, List.length_cons, List.length_nil])
      refine row_i sb ?_
      (try simp only [tVar, tC, tOp, tUn, rI, rI0, rU, rEq, rNe, scal, tTest, tB, tAnd, tOr, tNot, tAndV, tOrV, tNotV, tIf, tChain, tNil, tCons, tCB, tCall, tTup, tLst, tRet, tRetN, tDrop, tSeq, tNext, tIfS, tAsg, gName, tPar, tPar3, gNil, gCons, gTup, gSub, tAug, tSl, tNoPart, tPart, tBM, tBM0, tYes, tIsP, iSeq, iEnumA, RZ.iZipA, iRng1, iRng2, iList, iTup, rIsi, rIsB, rIxL, rIxT, rIxA, rLenA, rListOf, rTupOf, rSetL, rSlL, rCat, rAppend, tFld, sFld, tMake, tBits, Int.ofNat_inj, cast1, cast0, TruV, cxOf, Cx.nox, Cx.wish, tNever, tBreak, tCont, ipI, tDIn, tDNotIn, sDPut, tDNewT, tDNewK, tDGet, rSortedPO, rSortedI, rIn, rEqD, rNeD, rInD, rNotInD, tSSet, rIsV, rIntI, rIntB, rAbsN, tLstRg, tRg1, tRg2, List.append_nil, List.nil_append, List.cons_append, Option.some.injEq, exists_eq_left', exists_eq_left, exists_eq_right, exists_eq_right', List.getElem?_cons_zero, List.getElem?_cons_succ, List.set_cons_zero, List.set_cons_succ, List.cons.injEq, and_true, true_and, exists_and_left, exists_and_right, and_assoc, V.int.injEq, V.bl.injEq, V.ref.injEq, V.str.injEq, reduceCtorEq, decide_true, decide_false, Bool.not_true, Bool.not_false, Bool.false_eq_true, if_false, if_true, ite_true, ite_false, List.length_cons, List.length_nil])
      refine ⟨_, sb, _, rfl, below_n (by omega) ?_⟩
      (try simp only [tVar, tC, tOp, tUn, rI, rI0, rU, rEq, rNe, scal, tTest, tB, tAnd, tOr, tNot, tAndV, tOrV, tNotV, tIf, tChain, tNil, tCons, tCB, tCall, tTup, tLst, tRet, tRetN, tDrop, tSeq, tNext, tIfS, tAsg, gName, tPar, tPar3, gNil, gCons, gTup, gSub, tAug, tSl, tNoPart, tPart, tBM, tBM0, tYes, tIsP, iSeq, iEnumA, RZ.iZipA, iRng1, iRng2, iList, iTup, rIsi, rIsB, rIxL, rIxT, rIxA, rLenA, rListOf, rTupOf, rSetL, rSlL, rCat, rAppend, tFld, sFld, tMake, tBits, Int.ofNat_inj, cast1, cast0, TruV, cxOf, Cx.nox, Cx.wish, tNever, tBreak, tCont, ipI, tDIn, tDNotIn, sDPut, tDNewT, tDNewK, tDGet, rSortedPO, rSortedI, rIn, rEqD, rNeD, rInD, rNotInD, tSSet, rIsV, rIntI, rIntB, rAbsN, tLstRg, tRg1, tRg2, List.append_nil, List.nil_append, List.cons_append, Option.some.injEq, exists_eq_left', exists_eq_left, exists_eq_right, exists_eq_right', List.getElem?_cons_zero, List.getElem?_cons_succ, List.set_cons_zero, List.set_cons_succ, List.cons.injEq, and_true, true_and, exists_and_left, exists_and_right, and_assoc, V.int.injEq, V.bl.injEq, V.ref.injEq, V.str.injEq, reduceCtorEq, decide_true, decide_false, Bool.not_true, Bool.not_false, Bool.false_eq_true, if_false, if_true, ite_true, ite_false, List.length_cons, List.length_nil])
      refine ⟨_, sb, _, rfl, below_n gp.2 ?_⟩
      (try simp only [tVar, tC, tOp, tUn, rI, rI0, rU, rEq, rNe, scal, tTest, tB, tAnd, tOr, tNot, tAndV, tOrV, tNotV, tIf, tChain, tNil, tCons, tCB, tCall, tTup, tLst, tRet, tRetN, tDrop, tSeq, tNext, tIfS, tAsg, gName, tPar, tPar3, gNil, gCons, gTup, gSub, tAug, tSl, tNoPart, tPart, tBM, tBM0, tYes, tIsP, iSeq, iEnumA, RZ.iZipA, iRng1, iRng2, iList, iTup, rIsi, rIsB, rIxL, rIxT, rIxA, rLenA, rListOf, rTupOf, rSetL, rSlL, rCat, rAppend, tFld, sFld, tMake, tBits, Int.ofNat_inj, cast1, cast0, TruV, cxOf, Cx.nox, Cx.wish, tNever, tBreak, tCont, ipI, tDIn, tDNotIn, sDPut, tDNewT, tDNewK, tDGet, rSortedPO, rSortedI, rIn, rEqD, rNeD, rInD, rNotInD, tSSet, rIsV, rIntI, rIntB, rAbsN, tLstRg, tRg1, tRg2, List.append_nil, List.nil_append, List.cons_append, Option.some.injEq, exists_eq_left', exists_eq_left, exists_eq_right, exists_eq_right', List.getElem?_cons_zero, List.getElem?_cons_succ, List.set_cons_zero, List.set_cons_succ, List.cons.injEq, and_true, true_and, exists_and_left, exists_and_right, and_assoc, V.int.injEq, V.bl.injEq, V.ref.injEq, V.str.injEq, reduceCtorEq, decide_true, decide_false, Bool.not_true, Bool.not_false, Bool.false_eq_true, if_false, if_true, ite_true, ite_false, List.length_cons, List.length_nil])
      refine ⟨_, sb, _, rfl, _, sb, _, rfl, _, rfl, _, rfl, ?_⟩
      rw [decide_eq_false (by omega)]
      (try simp only [tVar, tC, tOp, tUn, rI, rI0, rU, rEq, rNe, scal, tTest, tB, tAnd, tOr, tNot, tAndV, tOrV, tNotV, tIf, tChain, tNil, tCons, tCB, tCall, tTup, tLst, tRet, tRetN, tDrop, tSeq, tNext, tIfS, tAsg, gName, tPar, tPar3, gNil, gCons, gTup, gSub, tAug, tSl, tNoPart, tPart, tBM, tBM0, tYes, tIsP, iSeq, iEnumA, RZ.iZipA, iRng1, iRng2, iList, iTup, rIsi, rIsB, rIxL, rIxT, rIxA, rLenA, rListOf, rTupOf, rSetL, rSlL, rCat, rAppend, tFld, sFld, tMake, tBits, Int.ofNat_inj, cast1, cast0, TruV, cxOf, Cx.nox, Cx.wish, tNever, tBreak, tCont, ipI, tDIn, tDNotIn, sDPut, tDNewT, tDNewK, tDGet, rSortedPO, rSortedI, rIn, rEqD, rNeD, rInD, rNotInD, tSSet, rIsV, rIntI, rIntB, rAbsN, tLstRg, tRg1, tRg2, List.append_nil, List.nil_append, List.cons_append, Option.some.injEq, exists_eq_left', exists_eq_left, exists_eq_right, exists_eq_right', List.getElem?_cons_zero, List.getElem?_cons_succ, List.set_cons_zero, List.set_cons_succ, List.cons.injEq, and_true, true_and, exists_and_left, exists_and_right, and_assoc, V.int.injEq, V.bl.injEq, V.ref.injEq, V.str.injEq, reduceCtorEq, decide_true, decide_false, Bool.not_true, Bool.not_false, Bool.false_eq_true, if_false, if_true, ite_true, ite_false, List.length_cons, List.length_nil])
      refine ⟨_, sb, _, rfl, _, sb, _, rfl, by rw [sizeLine_eq]; decide, fun t ht => ?_⟩
      have np : p ∉ ps.take i := fun m => by
        obtain ⟨j, hj, e⟩ := List.mem_iff_getElem.mp m
        rw [List.length_take] at hj
        rw [List.getElem_take] at e
        have hj2 : ps[j]? = some p := by rw [List.getElem?_eq_getElem (by omega), e]
        have := nd_ix nd hj2 hpi
        omega
      refine ⟨none, ?_, ?_⟩
      · rw [← val_none np]
        exact DGet.t (same_new ht _ _ ed1) upd_same
      · refine iteF ?_
        refine ⟨_, Same.sq (same_new ht) sb, _, rfl, _, Same.sq (same_new ht) sb, _, rfl, by rw [sizeLine_eq]; decide, fun t2 ht2 => ?_⟩
        refine ⟨_, .inr ⟨_, kof p, t2, same_new ht2 _ _ (same_new ht _ _ ed1), rfl, upd_same, by rw [List.length_map, List.length_take, sizeLine_eq]; omega, rfl⟩, ?_, ?_⟩
        · intro c o hc
          have hne : c ≠ d := ne_of_none hc hd
          rw [upd_ne hne]
          exact same_new ht2 _ _ (same_new ht _ _ (same_new hT _ _ (sm _ _ hc)))
        · rw [upd_same, put_new np, List.take_add_one, hpi]
          rfl
    · rintro σ' H' ⟨y3, y4, rfl, sm, ed⟩
      rw [Prs.len hp, List.take_length] at ed
      (try simp only [tVar, tC, tOp, tUn, rI, rI0, rU, rEq, rNe, scal, tTest, tB, tAnd, tOr, tNot, tAndV, tOrV, tNotV, tIf, tChain, tNil, tCons, tCB, tCall, tTup, tLst, tRet, tRetN, tDrop, tSeq, tNext, tIfS, tAsg, gName, tPar, tPar3, gNil, gCons, gTup, gSub, tAug, tSl, tNoPart, tPart, tBM, tBM0, tYes, tIsP, iSeq, iEnumA, RZ.iZipA, iRng1, iRng2, iList, iTup, rIsi, rIsB, rIxL, rIxT, rIxA, rLenA, rListOf, rTupOf, rSetL, rSlL, rCat, rAppend, tFld, sFld, tMake, tBits, Int.ofNat_inj, cast1, cast0, TruV, cxOf, Cx.nox, Cx.wish, tNever, tBreak, tCont, ipI, tDIn, tDNotIn, sDPut, tDNewT, tDNewK, tDGet, rSortedPO, rSortedI, rIn, rEqD, rNeD, rInD, rNotInD, tSSet, rIsV, rIntI, rIntB, rAbsN, tLstRg, tRg1, tRg2, List.append_nil, List.nil_append, List.cons_append, Option.some.injEq, exists_eq_left', exists_eq_left, exists_eq_right, exists_eq_right', List.getElem?_cons_zero, List.getElem?_cons_succ, List.set_cons_zero, List.set_cons_succ, List.cons.injEq, and_true, true_and, exists_and_left, exists_and_right, and_assoc, V.int.injEq, V.bl.injEq, V.ref.injEq, V.str.injEq, reduceCtorEq, decide_true, decide_false, Bool.not_true, Bool.not_false, Bool.false_eq_true, if_false, if_true, ite_true, ite_false, List.length_cons, List.length_nil])
      refine ⟨_, .inl ed, fun l bs hl hk => ?_⟩
      have hp2 := prs_keys hk
      have sl : Same H' (upd H' l (.lst (bs.map .ref))) := same_new hl
      refine ⟨_, .of upd_same, dec (upd H' l (.lst (bs.map .ref))), fun y hy => ?_, fun ys t hsrt hstb ht => ?_⟩
      · obtain ⟨i, hi⟩ := List.mem_iff_getElem?.mp hy
        obtain ⟨p, b, _, rfl, eb⟩ := Prs.at hp2 hi
        refine ⟨b, rfl, ?_⟩
        rw [dec_of (sl _ _ eb)]
        exact sl _ _ eb
      · have hq2 := sort_prs (hp2.same sl) hstb.perm
        refine ⟨_, .inl ⟨.of upd_same, fun r hr => q _ r ys (decs (upd H' l (.lst (bs.map .ref))) ys) ?_ ?_ upd_same ?_ hq2.2 ?_⟩⟩
        · exact ((sm.trans sl).trans (same_new ht)).trans (same_new hr)
        · exact ((sm.trans sl).trans (same_new ht)).free hr
        · exact (hq2.1.same (same_new ht)).same (same_new hr)
        · exact sort_lex hq2.1 hsrt
end
end Kr
namespace Kr
open PySem PySem.Spec PyProof.Rows L2 Kb
section
variable {P : Program} {w : World} {K : PySem.W.Frag} {mg : Str → Option Value} {base : Heap}
theorem Prs.upd {H : Hp} {xs : List V} {ps : List NP} {k : Addr} {o : HO} (h : Prs H xs ps) (hk : ∀ ys, H k ≠ some (.tup ys)) : Prs (upd H k o) xs ps :=
  Paired.mapP h fun _ _ ⟨a, e1, e2⟩ => ⟨a, e1, by rw [upd_ne (fun z => hk _ (z ▸ e2))]; exact e2⟩
theorem Prs.snoc {H : Hp} : ∀ {xs : List V} {ps : List NP} {y : V} {p : NP}, Prs H xs ps → (∃ a, y = .ref a ∧ H a = some (.tup [nv p.1, nv p.2])) → Prs H (xs ++ [y]) (ps ++ [p])
  | _, _, _, _, .nil, h => .cons h .nil
  | _, _, _, _, .cons a t, h => .cons a (Prs.snoc t h)
/-- the Keys at k -/
def KeysAt (C : Addr) (H : Hp) (k : Addr) (n : Nat) (qs : List NP) : Prop := ∃ dx t ys, H k = some (.ins C dx [("many", nv n), ("clashes", .ref t)]) ∧ H t = some (.tup ys) ∧ Prs H ys qs
theorem KeysAt.same {C : Addr} {H H' : Hp} {k : Addr} {n : Nat} {qs : List NP} (e : Same H H') (h : KeysAt C H k n qs) : KeysAt C H' k n qs := by
  obtain ⟨dx, t, ys, h1, h2, h3⟩ := h
  exact ⟨dx, t, ys, e _ _ h1, e _ _ h2, h3.same e⟩
def sp_Keys_init (C : Addr) (K : PySem.W.Frag) : Sp := fun vs H Q _ => ∃ k dx a xs ps n, vs = [.ref k, nv n, .ref a] ∧ H k = some (.ins C dx []) ∧ (1 ≤ n ∧ n ≤ 12) ∧ Seq K H a xs ∧ Prs H xs ps ∧ GoodPairs n ps ∧ ps.length ≤ 1000 ∧
  ∀ H' qs, (∀ b o, b ≠ k → H b = some o → H' b = some o) → KeysAt C H' k n qs → qs.Perm ps → qs.Pairwise lexle → Q .non H'
theorem ok_Keys___init__ (T : Tx K mg) : FnOk P w K mg base CX0 4 T.a_Keys___init__ T.d_Keys___init__ ["self", "many", "clashes"] (sp_Keys_init T.c_Keys K) := by
  refine T.F_Keys___init__.ok sc_Keys___init__ (fun vs H Q E h => ?_) (fun cdv A outer s H vs Q E hr h => ?_)
  · obtain ⟨k, dx, a, xs, ps, n, rfl, _⟩ := h
    rfl
  · obtain ⟨k, dx, a, xs, ps, n, rfl, hk, ⟨n1, n2⟩, hs, hp, hg, hz, q⟩ := h
    refine ⟨_, (pss_cons (ps_expr (pe_call (ok_need_count T) (hr.mono (by decide)) (by rfl) T.g_need_count T.F_need_count.kp T.b_need_count .nil pass0 (pa_cons (pv 1) (pa_cons pe_int (pa_cons (pe_globI rfl T.g_MOST_KEYS) pa_nil)))))
      (pss_cons (ps_fld (pv 0) (pv 1) rfl)
      (pss_one (ps_fld (pv 0) (pe_call (ok_told_clashes T) (hr.mono (by decide)) (by rfl) T.g_told_clashes T.F_told_clashes.kp T.b_told_clashes .nil pass0 (pa_cons (pv 2) (pa_cons (pv 1) pa_nil))) rfl)))), ?_⟩
    rw [show L2.start ["self", "many", "clashes"] [.ref k, nv n, .ref a] = [some (.ref k), some (nv n), some (.ref a)] from rfl]
    (try simp only [tVar, tC, tOp, tUn, rI, rI0, rU, rEq, rNe, scal, tTest, tB, tAnd, tOr, tNot, tAndV, tOrV, tNotV, tIf, tChain, tNil, tCons, tCB, tCall, tTup, tLst, tRet, tRetN, tDrop, tSeq, tNext, tIfS, tAsg, gName, tPar, tPar3, gNil, gCons, gTup, gSub, tAug, tSl, tNoPart, tPart, tBM, tBM0, tYes, tIsP, iSeq, iEnumA, RZ.iZipA, iRng1, iRng2, iList, iTup, rIsi, rIsB, rIxL, rIxT, rIxA, rLenA, rListOf, rTupOf, rSetL, rSlL, rCat, rAppend, tFld, sFld, tMake, tBits, Int.ofNat_inj, cast1, cast0, TruV, cxOf, Cx.nox, Cx.wish, tNever, tBreak, tCont, ipI, tDIn, tDNotIn, sDPut, tDNewT, tDNewK, tDGet, rSortedPO, rSortedI, rIn, rEqD, rNeD, rInD, rNotInD, tSSet, rIsV, rIntI, rIntB, rAbsN, tLstRg, tRg1, tRg2, List.append_nil, List.nil_append, List.cons_append, Option.some.injEq, exists_eq_left', exists_eq_left, exists_eq_right, exists_eq_right', List.getElem?_cons_zero, List.getElem?_cons_succ, List.set_cons_zero, List.set_cons_succ, List.cons.injEq, and_true, true_and, exists_and_left, exists_and_right, and_assoc, V.int.injEq, V.bl.injEq, V.ref.injEq, V.str.injEq, reduceCtorEq, decide_true, decide_false, Bool.not_true, Bool.not_false, Bool.false_eq_true, if_false, if_true, ite_true, ite_false, List.length_cons, List.length_nil])
    refine ⟨_, _, _, rfl, ⟨by omega, by omega⟩, ?_⟩
    (try simp only [tVar, tC, tOp, tUn, rI, rI0, rU, rEq, rNe, scal, tTest, tB, tAnd, tOr, tNot, tAndV, tOrV, tNotV, tIf, tChain, tNil, tCons, tCB, tCall, tTup, tLst, tRet, tRetN, tDrop, tSeq, tNext, tIfS, tAsg, gName, tPar, tPar3, gNil, gCons, gTup, gSub, tAug, tSl, tNoPart, tPart, tBM, tBM0, tYes, tIsP, iSeq, iEnumA, RZ.iZipA, iRng1, iRng2, iList, iTup, rIsi, rIsB, rIxL, rIxT, rIxA, rLenA, rListOf, rTupOf, rSetL, rSlL, rCat, rAppend, tFld, sFld, tMake, tBits, Int.ofNat_inj, cast1, cast0, TruV, cxOf, Cx.nox, Cx.wish, tNever, tBreak, tCont, ipI, tDIn, tDNotIn, sDPut, tDNewT, tDNewK, tDGet, rSortedPO, rSortedI, rIn, rEqD, rNeD, rInD, rNotInD, tSSet, rIsV, rIntI, rIntB, rAbsN, tLstRg, tRg1, tRg2, List.append_nil, List.nil_append, List.cons_append, Option.some.injEq, exists_eq_left', exists_eq_left, exists_eq_right, exists_eq_right', List.getElem?_cons_zero, List.getElem?_cons_succ, List.set_cons_zero, List.set_cons_succ, List.cons.injEq, and_true, true_and, exists_and_left, exists_and_right, and_assoc, V.int.injEq, V.bl.injEq, V.ref.injEq, V.str.injEq, reduceCtorEq, decide_true, decide_false, Bool.not_true, Bool.not_false, Bool.false_eq_true, if_false, if_true, ite_true, ite_false, List.length_cons, List.length_nil])
    refine ⟨_, _, _, hk, T.cl_Keys, T.na_many, by decide, ?_⟩
    (try simp only [tVar, tC, tOp, tUn, rI, rI0, rU, rEq, rNe, scal, tTest, tB, tAnd, tOr, tNot, tAndV, tOrV, tNotV, tIf, tChain, tNil, tCons, tCB, tCall, tTup, tLst, tRet, tRetN, tDrop, tSeq, tNext, tIfS, tAsg, gName, tPar, tPar3, gNil, gCons, gTup, gSub, tAug, tSl, tNoPart, tPart, tBM, tBM0, tYes, tIsP, iSeq, iEnumA, RZ.iZipA, iRng1, iRng2, iList, iTup, rIsi, rIsB, rIxL, rIxT, rIxA, rLenA, rListOf, rTupOf, rSetL, rSlL, rCat, rAppend, tFld, sFld, tMake, tBits, Int.ofNat_inj, cast1, cast0, TruV, cxOf, Cx.nox, Cx.wish, tNever, tBreak, tCont, ipI, tDIn, tDNotIn, sDPut, tDNewT, tDNewK, tDGet, rSortedPO, rSortedI, rIn, rEqD, rNeD, rInD, rNotInD, tSSet, rIsV, rIntI, rIntB, rAbsN, tLstRg, tRg1, tRg2, List.append_nil, List.nil_append, List.cons_append, Option.some.injEq, exists_eq_left', exists_eq_left, exists_eq_right, exists_eq_right', List.getElem?_cons_zero, List.getElem?_cons_succ, List.set_cons_zero, List.set_cons_succ, List.cons.injEq, and_true, true_and, exists_and_left, exists_and_right, and_assoc, V.int.injEq, V.bl.injEq, V.ref.injEq, V.str.injEq, reduceCtorEq, decide_true, decide_false, Bool.not_true, Bool.not_false, Bool.false_eq_true, if_false, if_true, ite_true, ite_false, List.length_cons, List.length_nil])
    have ne : ∀ ys, H k ≠ some (.tup ys) := fun ys e => by rw [hk] at e; cases e
    have hs1 : Seq K (upd H k (.ins T.c_Keys dx (putF "many" (nv n) []))) a xs := by
      rcases hs with hs | hs
      · refine .inl ?_
        rcases hs with (hs | ⟨o, hs⟩) | hs
        · exact .inl (.inl (by rw [upd_ne (fun z => by rw [z, hk] at hs; cases hs)]; exact hs))
        · exact .inl (.inr ⟨o, by rw [upd_ne (fun z => by rw [z, hk] at hs; cases hs)]; exact hs⟩)
        · exact .inr hs
      · refine .inr ?_
        rcases hs with (hs | ⟨o, hs⟩) | hs
        · exact .inl (.inl (by rw [upd_ne (fun z => by rw [z, hk] at hs; cases hs)]; exact hs))
        · exact .inl (.inr ⟨o, by rw [upd_ne (fun z => by rw [z, hk] at hs; cases hs)]; exact hs⟩)
        · exact .inr hs
    refine ⟨_, _, _, _, rfl, hs1, hp.upd ne, hg, hz, fun H' t ys qs sm ht et hq hperm hsrt => ?_⟩
    have hk2 := sm _ _ (upd_same (H := H) (a := k) (o := .ins T.c_Keys dx (putF "many" (nv n) [])))
    refine ⟨_, _, _, hk2, T.cl_Keys, T.na_clashes, (show (1 : Nat) < 1000 by decide), ?_⟩
    refine q _ qs (fun b o hb e => ?_) ⟨dx, t, ys, upd_same, ?_, ?_⟩ hperm hsrt
    · rw [upd_ne hb]
      exact sm _ _ (by rw [upd_ne hb]; exact e)
    · rw [upd_ne (fun z => by rw [z, hk2] at et; cases et)]
      exact et
    · exact hq.upd fun ys e => by rw [hk2] at e; cases e
def sp_need_keys (C : Addr) : Sp := fun vs H Q _ => ∃ k dx fs, vs = [.ref k] ∧ H k = some (.ins C dx fs) ∧ Q .non H
theorem ok_need_keys (T : Tx K mg) : FnOk P w K mg base CX0 1 T.a_need_keys T.d_need_keys ["value"] (sp_need_keys T.c_Keys) := by
  refine T.F_need_keys.ok sc_need_keys (fun vs H Q E h => ?_) (fun cdv A outer s H vs Q E hr h => ?_)
  · obtain ⟨k, dx, fs, rfl, _⟩ := h
    rfl
  · obtain ⟨k, dx, fs, rfl, hk, q⟩ := h
    refine ⟨_, (pss_one (ps_if (pt_not (pt_val (pe_callB (C8.call_isC T.ic_Keys) (by rfl) T.n_isinstance (by decide +kernel) (pa_cons (pv 0) (pa_cons (pe_glob (v := .ref T.c_Keys) rfl T.g_Keys rfl) pa_nil))))) (pss_one ps_never) pss_nil)), ?_⟩
    rw [show L2.start ["value"] [.ref k] = [some (.ref k)] from rfl]
    (try simp only [tVar, tC, tOp, tUn, rI, rI0, rU, rEq, rNe, scal, tTest, tB, tAnd, tOr, tNot, tAndV, tOrV, tNotV, tIf, tChain, tNil, tCons, tCB, tCall, tTup, tLst, tRet, tRetN, tDrop, tSeq, tNext, tIfS, tAsg, gName, tPar, tPar3, gNil, gCons, gTup, gSub, tAug, tSl, tNoPart, tPart, tBM, tBM0, tYes, tIsP, iSeq, iEnumA, RZ.iZipA, iRng1, iRng2, iList, iTup, rIsi, rIsB, rIxL, rIxT, rIxA, rLenA, rListOf, rTupOf, rSetL, rSlL, rCat, rAppend, tFld, sFld, tMake, tBits, Int.ofNat_inj, cast1, cast0, TruV, cxOf, Cx.nox, Cx.wish, tNever, tBreak, tCont, ipI, tDIn, tDNotIn, sDPut, tDNewT, tDNewK, tDGet, rSortedPO, rSortedI, rIn, rEqD, rNeD, rInD, rNotInD, tSSet, rIsV, rIntI, rIntB, rAbsN, tLstRg, tRg1, tRg2, List.append_nil, List.nil_append, List.cons_append, Option.some.injEq, exists_eq_left', exists_eq_left, exists_eq_right, exists_eq_right', List.getElem?_cons_zero, List.getElem?_cons_succ, List.set_cons_zero, List.set_cons_succ, List.cons.injEq, and_true, true_and, exists_and_left, exists_and_right, and_assoc, V.int.injEq, V.bl.injEq, V.ref.injEq, V.str.injEq, reduceCtorEq, decide_true, decide_false, Bool.not_true, Bool.not_false, Bool.false_eq_true, if_false, if_true, ite_true, ite_false, List.length_cons, List.length_nil])
    exact ⟨⟨_, _, hk⟩, q⟩
def sp_need_key (K : PySem.W.Frag) : Sp := fun vs H Q _ => ∃ k n : Nat, vs = [nv k, nv n] ∧ k < n ∧ Q .non H
theorem ok_need_key (T : Tx K mg) : FnOk P w K mg base CX0 3 T.a_need_key T.d_need_key ["value", "many"] (sp_need_key K) := by
  refine T.F_need_key.ok sc_need_key (fun vs H Q E h => ?_) (fun cdv A outer s H vs Q E hr h => ?_)
  · obtain ⟨k, n, rfl, _⟩ := h
    rfl
  · obtain ⟨k, n, rfl, hk, q⟩ := h
    refine ⟨_, (pss_one (ps_if (pt_not (pt_val (pe_call (ok_is_below T) (hr.mono (by decide)) (by rfl) T.g_is_below T.F_is_below.kp T.b_is_below .nil pass0 (pa_cons (pv 0) (pa_cons (pv 1) pa_nil))))) (pss_one ps_never) pss_nil)), ?_⟩
    rw [show L2.start ["value", "many"] [nv k, nv n] = [some (nv k), some (nv n)] from rfl]
    (try simp only [tVar, tC, tOp, tUn, rI, rI0, rU, rEq, rNe, scal, tTest, tB, tAnd, tOr, tNot, tAndV, tOrV, tNotV, tIf, tChain, tNil, tCons, tCB, tCall, tTup, tLst, tRet, tRetN, tDrop, tSeq, tNext, tIfS, tAsg, gName, tPar, tPar3, gNil, gCons, gTup, gSub, tAug, tSl, tNoPart, tPart, tBM, tBM0, tYes, tIsP, iSeq, iEnumA, RZ.iZipA, iRng1, iRng2, iList, iTup, rIsi, rIsB, rIxL, rIxT, rIxA, rLenA, rListOf, rTupOf, rSetL, rSlL, rCat, rAppend, tFld, sFld, tMake, tBits, Int.ofNat_inj, cast1, cast0, TruV, cxOf, Cx.nox, Cx.wish, tNever, tBreak, tCont, ipI, tDIn, tDNotIn, sDPut, tDNewT, tDNewK, tDGet, rSortedPO, rSortedI, rIn, rEqD, rNeD, rInD, rNotInD, tSSet, rIsV, rIntI, rIntB, rAbsN, tLstRg, tRg1, tRg2, List.append_nil, List.nil_append, List.cons_append, Option.some.injEq, exists_eq_left', exists_eq_left, exists_eq_right, exists_eq_right', List.getElem?_cons_zero, List.getElem?_cons_succ, List.set_cons_zero, List.set_cons_succ, List.cons.injEq, and_true, true_and, exists_and_left, exists_and_right, and_assoc, V.int.injEq, V.bl.injEq, V.ref.injEq, V.str.injEq, reduceCtorEq, decide_true, decide_false, Bool.not_true, Bool.not_false, Bool.false_eq_true, if_false, if_true, ite_true, ite_false, List.length_cons, List.length_nil])
    refine below_n hk ?_
    (try simp only [tVar, tC, tOp, tUn, rI, rI0, rU, rEq, rNe, scal, tTest, tB, tAnd, tOr, tNot, tAndV, tOrV, tNotV, tIf, tChain, tNil, tCons, tCB, tCall, tTup, tLst, tRet, tRetN, tDrop, tSeq, tNext, tIfS, tAsg, gName, tPar, tPar3, gNil, gCons, gTup, gSub, tAug, tSl, tNoPart, tPart, tBM, tBM0, tYes, tIsP, iSeq, iEnumA, RZ.iZipA, iRng1, iRng2, iList, iTup, rIsi, rIsB, rIxL, rIxT, rIxA, rLenA, rListOf, rTupOf, rSetL, rSlL, rCat, rAppend, tFld, sFld, tMake, tBits, Int.ofNat_inj, cast1, cast0, TruV, cxOf, Cx.nox, Cx.wish, tNever, tBreak, tCont, ipI, tDIn, tDNotIn, sDPut, tDNewT, tDNewK, tDGet, rSortedPO, rSortedI, rIn, rEqD, rNeD, rInD, rNotInD, tSSet, rIsV, rIntI, rIntB, rAbsN, tLstRg, tRg1, tRg2, List.append_nil, List.nil_append, List.cons_append, Option.some.injEq, exists_eq_left', exists_eq_left, exists_eq_right, exists_eq_right', List.getElem?_cons_zero, List.getElem?_cons_succ, List.set_cons_zero, List.set_cons_succ, List.cons.injEq, and_true, true_and, exists_and_left, exists_and_right, and_assoc, V.int.injEq, V.bl.injEq, V.ref.injEq, V.str.injEq, reduceCtorEq, decide_true, decide_false, Bool.not_true, Bool.not_false, Bool.false_eq_true, if_false, if_true, ite_true, ite_false, List.length_cons, List.length_nil])
    exact q
def sp_lot_wrong (K : PySem.W.Frag) : Sp := fun vs H Q _ => ∃ a ns n, vs = [.ref a, nv n] ∧ Seq K H a (nvs ns) ∧ (ns.Nodup ∧ ∀ k ∈ ns, k < n) ∧ ns.length ≤ 1000 ∧ ∀ H', Same H H' → Q (.int (-1)) H'
theorem ok_lot_wrong (T : Tx K mg) : FnOk P w K mg base CX0 3 T.a_lot_wrong T.d_lot_wrong ["value", "limit"] (sp_lot_wrong K) := by
  refine T.F_lot_wrong.ok sc_lot_wrong (fun vs H Q E h => ?_) (fun cdv A outer s H vs Q E hr h => ?_)
  · obtain ⟨a, ns, n, rfl, _⟩ := h
    rfl
  · obtain ⟨a, ns, n, rfl, hs, ⟨nd, hn⟩, hz, q⟩ := h
    refine ⟨_, (pss_cons (ps_set (i := 2) sc_lot_wrong.nd rfl (Or.inl rfl) pe_dnewK)
      (pss_cons (ps_for PassesOwn.never rfl (penumK (K := K) rfl (by rfl) T.n_enumerate (pa_cons (pv 0) pa_nil)) (gtupK (K := K) (n := 2) rfl (by rfl) (pgs_cons (pg_name (i := 3) sc_lot_wrong.nd rfl (Or.inl rfl)) (pgs_cons (pg_name (i := 4) sc_lot_wrong.nd rfl (Or.inl rfl)) pgs_nil))) (pss_cons (ps_if (PW.pt (pw_or (pt_not (pt_val (pe_call (ok_is_below T) (hr.mono (by decide)) (by rfl) T.g_is_below T.F_is_below.kp T.b_is_below .nil pass0 (pa_cons (pv 4) (pa_cons (pv 1) pa_nil))))) (pw_or1 (pt_cmp (pc_din (hu_of hr) (pv 4) (pv 2)))))) (pss_one (ps_ret (pv 3))) pss_nil)
      (pss_one (ps_dput (hu_of hr) (pv 2) (pv 4) pe_bl rfl))))
      (pss_one (ps_ret (pe_un un_neg pe_int))))), ?_⟩
    rw [show L2.start ["value", "limit", "seen", "at", "part"] [.ref a, nv n] = [some (.ref a), some (nv n), none, none, none] from rfl]
    generalize hF1 : tFor _ _ _ = F1
    (try simp only [tVar, tC, tOp, tUn, rI, rI0, rU, rEq, rNe, scal, tTest, tB, tAnd, tOr, tNot, tAndV, tOrV, tNotV, tIf, tChain, tNil, tCons, tCB, tCall, tTup, tLst, tRet, tRetN, tDrop, tSeq, tNext, tIfS, tAsg, gName, tPar, tPar3, gNil, gCons, gTup, gSub, tAug, tSl, tNoPart, tPart, tBM, tBM0, tYes, tIsP, iSeq, iEnumA, RZ.iZipA, iRng1, iRng2, iList, iTup, rIsi, rIsB, rIxL, rIxT, rIxA, rLenA, rListOf, rTupOf, rSetL, rSlL, rCat, rAppend, tFld, sFld, tMake, tBits, Int.ofNat_inj, cast1, cast0, TruV, cxOf, Cx.nox, Cx.wish, tNever, tBreak, tCont, ipI, tDIn, tDNotIn, sDPut, tDNewT, tDNewK, tDGet, rSortedPO, rSortedI, rIn, rEqD, rNeD, rInD, rNotInD, tSSet, rIsV, rIntI, rIntB, rAbsN, tLstRg, tRg1, tRg2, List.append_nil, List.nil_append, List.cons_append, Option.some.injEq, exists_eq_left', exists_eq_left, exists_eq_right, exists_eq_right', List.getElem?_cons_zero, List.getElem?_cons_succ, List.set_cons_zero, List.set_cons_succ, List.cons.injEq, and_true, true_and, exists_and_left, exists_and_right, and_assoc, V.int.injEq, V.bl.injEq, V.ref.injEq, V.str.injEq, reduceCtorEq, decide_true, decide_false, Bool.not_true, Bool.not_false, Bool.false_eq_true, if_false, if_true, ite_true, ite_false, List.length_cons, List.length_nil])
    intro d hd
    subst hF1
    refine forE a (nvs ns) (fun i σ' H' => ∃ y3 y4, σ' = [some (.ref a), some (nv n), some (.ref d), y3, y4] ∧ Same H H' ∧ H' d = some (.dK ((ns.take i).map enK))) (fun R h => ?_) ⟨_, _, rfl, same_new hd, upd_same⟩ H hs (fun i σ' H' h => by obtain ⟨_, _, _, h, _⟩ := h; exact h) ?_ ?_
    · (try simp only [tVar, tC, tOp, tUn, rI, rI0, rU, rEq, rNe, scal, tTest, tB, tAnd, tOr, tNot, tAndV, tOrV, tNotV, tIf, tChain, tNil, tCons, tCB, tCall, tTup, tLst, tRet, tRetN, tDrop, tSeq, tNext, tIfS, tAsg, gName, tPar, tPar3, gNil, gCons, gTup, gSub, tAug, tSl, tNoPart, tPart, tBM, tBM0, tYes, tIsP, iSeq, iEnumA, RZ.iZipA, iRng1, iRng2, iList, iTup, rIsi, rIsB, rIxL, rIxT, rIxA, rLenA, rListOf, rTupOf, rSetL, rSlL, rCat, rAppend, tFld, sFld, tMake, tBits, Int.ofNat_inj, cast1, cast0, TruV, cxOf, Cx.nox, Cx.wish, tNever, tBreak, tCont, ipI, tDIn, tDNotIn, sDPut, tDNewT, tDNewK, tDGet, rSortedPO, rSortedI, rIn, rEqD, rNeD, rInD, rNotInD, tSSet, rIsV, rIntI, rIntB, rAbsN, tLstRg, tRg1, tRg2, List.append_nil, List.nil_append, List.cons_append, Option.some.injEq, exists_eq_left', exists_eq_left, exists_eq_right, exists_eq_right', List.getElem?_cons_zero, List.getElem?_cons_succ, List.set_cons_zero, List.set_cons_succ, List.cons.injEq, and_true, true_and, exists_and_left, exists_and_right, and_assoc, V.int.injEq, V.bl.injEq, V.ref.injEq, V.str.injEq, reduceCtorEq, decide_true, decide_false, Bool.not_true, Bool.not_false, Bool.false_eq_true, if_false, if_true, ite_true, ite_false, List.length_cons, List.length_nil])
      exact h
    · rintro i x σ' H' T hx ⟨y3, y4, rfl, sm, ed⟩ hT
      obtain ⟨k, hk, rfl⟩ := nvs_at hx
      have ed1 : (upd H' T (.tup [nv i, nv k])) d = some (.dK ((ns.take i).map enK)) := same_new hT _ _ ed
      (try simp only [tVar, tC, tOp, tUn, rI, rI0, rU, rEq, rNe, scal, tTest, tB, tAnd, tOr, tNot, tAndV, tOrV, tNotV, tIf, tChain, tNil, tCons, tCB, tCall, tTup, tLst, tRet, tRetN, tDrop, tSeq, tNext, tIfS, tAsg, gName, tPar, tPar3, gNil, gCons, gTup, gSub, tAug, tSl, tNoPart, tPart, tBM, tBM0, tYes, tIsP, iSeq, iEnumA, RZ.iZipA, iRng1, iRng2, iList, iTup, rIsi, rIsB, rIxL, rIxT, rIxA, rLenA, rListOf, rTupOf, rSetL, rSlL, rCat, rAppend, tFld, sFld, tMake, tBits, Int.ofNat_inj, cast1, cast0, TruV, cxOf, Cx.nox, Cx.wish, tNever, tBreak, tCont, ipI, tDIn, tDNotIn, sDPut, tDNewT, tDNewK, tDGet, rSortedPO, rSortedI, rIn, rEqD, rNeD, rInD, rNotInD, tSSet, rIsV, rIntI, rIntB, rAbsN, tLstRg, tRg1, tRg2, List.append_nil, List.nil_append, List.cons_append, Option.some.injEq, exists_eq_left', exists_eq_left, exists_eq_right, exists_eq_right', List.getElem?_cons_zero, List.getElem?_cons_succ, List.set_cons_zero, List.set_cons_succ, List.cons.injEq, and_true, true_and, exists_and_left, exists_and_right, and_assoc, V.int.injEq, V.bl.injEq, V.ref.injEq, V.str.injEq, reduceCtorEq, decide_true, decide_false, Bool.not_true, Bool.not_false, Bool.false_eq_true, if_false, if_true, ite_true, ite_false, List.length_cons, List.length_nil])
      refine below_n (hn k (List.mem_of_getElem? hk)) ?_
      (try simp only [tVar, tC, tOp, tUn, rI, rI0, rU, rEq, rNe, scal, tTest, tB, tAnd, tOr, tNot, tAndV, tOrV, tNotV, tIf, tChain, tNil, tCons, tCB, tCall, tTup, tLst, tRet, tRetN, tDrop, tSeq, tNext, tIfS, tAsg, gName, tPar, tPar3, gNil, gCons, gTup, gSub, tAug, tSl, tNoPart, tPart, tBM, tBM0, tYes, tIsP, iSeq, iEnumA, RZ.iZipA, iRng1, iRng2, iList, iTup, rIsi, rIsB, rIxL, rIxT, rIxA, rLenA, rListOf, rTupOf, rSetL, rSlL, rCat, rAppend, tFld, sFld, tMake, tBits, Int.ofNat_inj, cast1, cast0, TruV, cxOf, Cx.nox, Cx.wish, tNever, tBreak, tCont, ipI, tDIn, tDNotIn, sDPut, tDNewT, tDNewK, tDGet, rSortedPO, rSortedI, rIn, rEqD, rNeD, rInD, rNotInD, tSSet, rIsV, rIntI, rIntB, rAbsN, tLstRg, tRg1, tRg2, List.append_nil, List.nil_append, List.cons_append, Option.some.injEq, exists_eq_left', exists_eq_left, exists_eq_right, exists_eq_right', List.getElem?_cons_zero, List.getElem?_cons_succ, List.set_cons_zero, List.set_cons_succ, List.cons.injEq, and_true, true_and, exists_and_left, exists_and_right, and_assoc, V.int.injEq, V.bl.injEq, V.ref.injEq, V.str.injEq, reduceCtorEq, decide_true, decide_false, Bool.not_true, Bool.not_false, Bool.false_eq_true, if_false, if_true, ite_true, ite_false, List.length_cons, List.length_nil])
      have np := not_in_take nd hk
      refine ⟨none, ?_, iteF ?_⟩
      · rw [← valk_none np]
        exact DGet.k (k := .inl (k : Int)) ed1
      · refine ⟨_, DPut.k (k := .inl (k : Int)) ed1 (by rw [List.length_map, List.length_take, sizeLine_eq]; omega), ?_, ?_⟩
        · intro c o hc
          rw [upd_ne (ne_of_none hc hd)]
          exact same_new hT _ _ (sm _ _ hc)
        · rw [upd_same, putk_new np, List.take_add_one, hk]
          rfl
    · rintro σ' H' ⟨y3, y4, rfl, sm, ed⟩
      (try simp only [tVar, tC, tOp, tUn, rI, rI0, rU, rEq, rNe, scal, tTest, tB, tAnd, tOr, tNot, tAndV, tOrV, tNotV, tIf, tChain, tNil, tCons, tCB, tCall, tTup, tLst, tRet, tRetN, tDrop, tSeq, tNext, tIfS, tAsg, gName, tPar, tPar3, gNil, gCons, gTup, gSub, tAug, tSl, tNoPart, tPart, tBM, tBM0, tYes, tIsP, iSeq, iEnumA, RZ.iZipA, iRng1, iRng2, iList, iTup, rIsi, rIsB, rIxL, rIxT, rIxA, rLenA, rListOf, rTupOf, rSetL, rSlL, rCat, rAppend, tFld, sFld, tMake, tBits, Int.ofNat_inj, cast1, cast0, TruV, cxOf, Cx.nox, Cx.wish, tNever, tBreak, tCont, ipI, tDIn, tDNotIn, sDPut, tDNewT, tDNewK, tDGet, rSortedPO, rSortedI, rIn, rEqD, rNeD, rInD, rNotInD, tSSet, rIsV, rIntI, rIntB, rAbsN, tLstRg, tRg1, tRg2, List.append_nil, List.nil_append, List.cons_append, Option.some.injEq, exists_eq_left', exists_eq_left, exists_eq_right, exists_eq_right', List.getElem?_cons_zero, List.getElem?_cons_succ, List.set_cons_zero, List.set_cons_succ, List.cons.injEq, and_true, true_and, exists_and_left, exists_and_right, and_assoc, V.int.injEq, V.bl.injEq, V.ref.injEq, V.str.injEq, reduceCtorEq, decide_true, decide_false, Bool.not_true, Bool.not_false, Bool.false_eq_true, if_false, if_true, ite_true, ite_false, List.length_cons, List.length_nil])
      exact q H' sm
def sp_need_lot (K : PySem.W.Frag) : Sp := fun vs H Q _ => ∃ a ns n, vs = [.ref a, nv n] ∧ Seq K H a (nvs ns) ∧ (ns.Nodup ∧ ∀ k ∈ ns, k < n) ∧ ns.length ≤ 1000 ∧ n ≤ 64 ∧ ∀ H', Same H H' → Q (nv (maskOf ns)) H'
theorem ok_need_lot (T : Tx K mg) : FnOk P w K mg base CX0 4 T.a_need_lot T.d_need_lot ["value", "many"] (sp_need_lot K) := by
  refine T.F_need_lot.ok sc_need_lot (fun vs H Q E h => ?_) (fun cdv A outer s H vs Q E hr h => ?_)
  · obtain ⟨a, ns, n, rfl, _⟩ := h
    rfl
  · obtain ⟨a, ns, n, rfl, hs, hn, hz, h64, q⟩ := h
    refine ⟨_, (pss_cons (ps_if (pt_not (pt_val (pe_call (ok_is_sequence T) (hr.mono (by decide)) (by rfl) T.g_is_sequence T.F_is_sequence.kp T.b_is_sequence .nil pass0 (pa_cons (pv 0) pa_nil)))) (pss_one ps_never) pss_nil)
      (pss_cons (ps_set (i := 2) sc_need_lot.nd rfl (Or.inl rfl) (pe_call (ok_lot_wrong T) (hr.mono (by decide)) (by rfl) T.g_lot_wrong T.F_lot_wrong.kp T.b_lot_wrong .nil pass0 (pa_cons (pv 0) (pa_cons (pv 1) pa_nil))))
      (pss_cons (ps_if (pt_cmpR op_ne (pv 2) (pe_un un_neg pe_int) (nomark _)) (pss_one ps_never) pss_nil)
      (pss_one (ps_ret (pe_call (ok_mask_of T) (hr.mono (by decide)) (by rfl) T.g_mask_of T.F_mask_of.kp T.b_mask_of .nil pass0 (pa_cons (pv 0) pa_nil))))))), ?_⟩
    rw [show L2.start ["value", "many", "wrong"] [.ref a, nv n] = [some (.ref a), some (nv n), none] from rfl]
    (try simp only [tVar, tC, tOp, tUn, rI, rI0, rU, rEq, rNe, scal, tTest, tB, tAnd, tOr, tNot, tAndV, tOrV, tNotV, tIf, tChain, tNil, tCons, tCB, tCall, tTup, tLst, tRet, tRetN, tDrop, tSeq, tNext, tIfS, tAsg, gName, tPar, tPar3, gNil, gCons, gTup, gSub, tAug, tSl, tNoPart, tPart, tBM, tBM0, tYes, tIsP, iSeq, iEnumA, RZ.iZipA, iRng1, iRng2, iList, iTup, rIsi, rIsB, rIxL, rIxT, rIxA, rLenA, rListOf, rTupOf, rSetL, rSlL, rCat, rAppend, tFld, sFld, tMake, tBits, Int.ofNat_inj, cast1, cast0, TruV, cxOf, Cx.nox, Cx.wish, tNever, tBreak, tCont, ipI, tDIn, tDNotIn, sDPut, tDNewT, tDNewK, tDGet, rSortedPO, rSortedI, rIn, rEqD, rNeD, rInD, rNotInD, tSSet, rIsV, rIntI, rIntB, rAbsN, tLstRg, tRg1, tRg2, List.append_nil, List.nil_append, List.cons_append, Option.some.injEq, exists_eq_left', exists_eq_left, exists_eq_right, exists_eq_right', List.getElem?_cons_zero, List.getElem?_cons_succ, List.set_cons_zero, List.set_cons_succ, List.cons.injEq, and_true, true_and, exists_and_left, exists_and_right, and_assoc, V.int.injEq, V.bl.injEq, V.ref.injEq, V.str.injEq, reduceCtorEq, decide_true, decide_false, Bool.not_true, Bool.not_false, Bool.false_eq_true, if_false, if_true, ite_true, ite_false, List.length_cons, List.length_nil])
    refine is_seq hs ?_
    (try simp only [tVar, tC, tOp, tUn, rI, rI0, rU, rEq, rNe, scal, tTest, tB, tAnd, tOr, tNot, tAndV, tOrV, tNotV, tIf, tChain, tNil, tCons, tCB, tCall, tTup, tLst, tRet, tRetN, tDrop, tSeq, tNext, tIfS, tAsg, gName, tPar, tPar3, gNil, gCons, gTup, gSub, tAug, tSl, tNoPart, tPart, tBM, tBM0, tYes, tIsP, iSeq, iEnumA, RZ.iZipA, iRng1, iRng2, iList, iTup, rIsi, rIsB, rIxL, rIxT, rIxA, rLenA, rListOf, rTupOf, rSetL, rSlL, rCat, rAppend, tFld, sFld, tMake, tBits, Int.ofNat_inj, cast1, cast0, TruV, cxOf, Cx.nox, Cx.wish, tNever, tBreak, tCont, ipI, tDIn, tDNotIn, sDPut, tDNewT, tDNewK, tDGet, rSortedPO, rSortedI, rIn, rEqD, rNeD, rInD, rNotInD, tSSet, rIsV, rIntI, rIntB, rAbsN, tLstRg, tRg1, tRg2, List.append_nil, List.nil_append, List.cons_append, Option.some.injEq, exists_eq_left', exists_eq_left, exists_eq_right, exists_eq_right', List.getElem?_cons_zero, List.getElem?_cons_succ, List.set_cons_zero, List.set_cons_succ, List.cons.injEq, and_true, true_and, exists_and_left, exists_and_right, and_assoc, V.int.injEq, V.bl.injEq, V.ref.injEq, V.str.injEq, reduceCtorEq, decide_true, decide_false, Bool.not_true, Bool.not_false, Bool.false_eq_true, if_false, if_true, ite_true, ite_false, List.length_cons, List.length_nil])
    refine ⟨_, _, _, rfl, hs, hn, hz, fun H' sm => ?_⟩
    (try simp only [tVar, tC, tOp, tUn, rI, rI0, rU, rEq, rNe, scal, tTest, tB, tAnd, tOr, tNot, tAndV, tOrV, tNotV, tIf, tChain, tNil, tCons, tCB, tCall, tTup, tLst, tRet, tRetN, tDrop, tSeq, tNext, tIfS, tAsg, gName, tPar, tPar3, gNil, gCons, gTup, gSub, tAug, tSl, tNoPart, tPart, tBM, tBM0, tYes, tIsP, iSeq, iEnumA, RZ.iZipA, iRng1, iRng2, iList, iTup, rIsi, rIsB, rIxL, rIxT, rIxA, rLenA, rListOf, rTupOf, rSetL, rSlL, rCat, rAppend, tFld, sFld, tMake, tBits, Int.ofNat_inj, cast1, cast0, TruV, cxOf, Cx.nox, Cx.wish, tNever, tBreak, tCont, ipI, tDIn, tDNotIn, sDPut, tDNewT, tDNewK, tDGet, rSortedPO, rSortedI, rIn, rEqD, rNeD, rInD, rNotInD, tSSet, rIsV, rIntI, rIntB, rAbsN, tLstRg, tRg1, tRg2, List.append_nil, List.nil_append, List.cons_append, Option.some.injEq, exists_eq_left', exists_eq_left, exists_eq_right, exists_eq_right', List.getElem?_cons_zero, List.getElem?_cons_succ, List.set_cons_zero, List.set_cons_succ, List.cons.injEq, and_true, true_and, exists_and_left, exists_and_right, and_assoc, V.int.injEq, V.bl.injEq, V.ref.injEq, V.str.injEq, reduceCtorEq, decide_true, decide_false, Bool.not_true, Bool.not_false, Bool.false_eq_true, if_false, if_true, ite_true, ite_false, List.length_cons, List.length_nil])
    exact ⟨_, _, rfl, Same.sq sm hs, fun k hk => by have := hn.2 k hk; omega, q H' sm⟩
/-! ### what is near -/
def nstep (l : List Nat) (p : NP) : List Nat := (l.set p.1 (l.getD p.1 0 ||| 1 <<< p.2)).set p.2 ((l.set p.1 (l.getD p.1 0 ||| 1 <<< p.2)).getD p.2 0 ||| 1 <<< p.1)
def nearM (n : Nat) (qs : List NP) : List Nat := qs.foldl nstep (List.replicate n 0)
theorem nstep_len (l : List Nat) (p : NP) : (nstep l p).length = l.length := by
  unfold nstep
  rw [List.length_set, List.length_set]
theorem near_len (n : Nat) (qs : List NP) : (nearM n qs).length = n := by
  have : ∀ (qs : List NP) (l : List Nat), (qs.foldl nstep l).length = l.length := by
    intro qs
    induction qs with
    | nil => intro l; rfl
    | cons q r ih => intro l; rw [List.foldl_cons, ih, nstep_len]
  unfold nearM
  rw [this, List.length_replicate]
theorem near_take {n : Nat} {qs : List NP} {i : Nat} {p : NP} (h : qs[i]? = some p) : nearM n (qs.take (i + 1)) = nstep (nearM n (qs.take i)) p := by
  unfold nearM
  rw [List.take_add_one, h, List.foldl_append]
  rfl
theorem nvs_ix {l : List Nat} {k : Nat} (h : k < l.length) : atI (nvs l) (k : Int) = some (nv (l.getD k 0)) := by
  refine atI_nat ?_
  rw [List.getElem?_map, List.getElem?_eq_getElem h, List.getD_eq_getElem?_getD, List.getElem?_eq_getElem h]
  rfl
theorem ix_n {l : List Nat} {k : Nat} (h : k < l.length) : ixN (nvs l).length (k : Int) = some k := by
  unfold ixN
  rw [List.length_map, if_pos (Int.natCast_nonneg k), if_pos (Int.ofNat_lt.mpr h), Int.toNat_natCast]
theorem nvs_set (l : List Nat) (k v : Nat) : (nvs l).set k (nv v) = nvs (l.set k v) := (List.map_set ..).symm
def sp_near_masks (C : Addr) : Sp := fun vs H Q _ => ∃ k n qs, vs = [.ref k] ∧ KeysAt C H k n qs ∧ n ≤ 12 ∧ (∀ p ∈ qs, p.1 ≤ p.2 ∧ p.2 < n) ∧ ∀ H' p, Same H H' → H p = none → H' p = some (.lst (nvs (nearM n qs))) → Q (.ref p) H'
theorem mono_near_masks {C : Addr} : Mono (sp_near_masks C) := by
  rintro vs H Q Q' E m ⟨k, n, qs, h1, h2, h3, h4, q⟩
  exact ⟨k, n, qs, h1, h2, h3, h4, fun H' p a b c => m _ _ (q H' p a b c)⟩
theorem ok_near_masks (T : Tx K mg) : FnOk P w K mg base CX0 1 T.a_near_masks T.d_near_masks ["keys"] (sp_near_masks T.c_Keys) := by
  refine T.F_near_masks.ok sc_near_masks (fun vs H Q E h => ?_) (fun cdv A outer s H vs Q E hr h => ?_)
  · obtain ⟨k, n, qs, rfl, _⟩ := h
    rfl
  · obtain ⟨k, n, qs, rfl, hk, h12, hg, q⟩ := h
    refine ⟨_, (pss_cons (ps_setLc (i := 1) (own := [("_", 2)]) rfl sc_near_masks.nd rfl rfl (sw_true rfl rfl rfl (by decide +kernel)) (pi_range1 (by rfl) T.n_range (pa_cons (fldK (K := K) rfl (pv 0) rfl) pa_nil)) (blkOk_by (own := [("_", 2)]) (N := ["keys", "near", "_", "one", "other"]) (sc := defScope s_near_masks) (by decide +kernel)) (fun _ _ _ _ _ => (pg_name (i := 2) sc_near_masks.nd rfl (by first | exact Or.inl rfl | exact Or.inr rfl))) (fun _ _ _ _ _ => pts_nil) (fun _ _ _ _ _ => pe_int))
      (pss_cons (ps_for PassesOwn.never rfl (pseqK (K := K) rfl (fldK (K := K) rfl (pv 0) rfl)) (gtupK (K := K) (n := 2) rfl (by rfl) (pgs_cons (pg_name (i := 3) sc_near_masks.nd rfl (Or.inl rfl)) (pgs_cons (pg_name (i := 4) sc_near_masks.nd rfl (Or.inl rfl)) pgs_nil))) (pss_cons (ps_asg (pe_op op_orU (pe_ix (ixL (K := K) rfl) (pv 1) (pv 3) (fun _ _ => rfl)) (pe_op op_shlU pe_int (pv 4))) (pg_sub (pv 1) (pv 3) set_list))
      (pss_one (ps_asg (pe_op op_orU (pe_ix (ixL (K := K) rfl) (pv 1) (pv 4) (fun _ _ => rfl)) (pe_op op_shlU pe_int (pv 3))) (pg_sub (pv 1) (pv 4) set_list)))))
      (pss_one (ps_ret (pv 1))))), ?_⟩
    rw [show L2.start ["keys", "near", "_", "one", "other"] [.ref k] = [some (.ref k), none, none, none, none] from rfl]
    generalize hL1 : tLc _ _ _ _ _ = L1
    generalize hF1 : tFor _ _ _ = F1
    (try simp only [tVar, tC, tOp, tUn, rI, rI0, rU, rEq, rNe, scal, tTest, tB, tAnd, tOr, tNot, tAndV, tOrV, tNotV, tIf, tChain, tNil, tCons, tCB, tCall, tTup, tLst, tRet, tRetN, tDrop, tSeq, tNext, tIfS, tAsg, gName, tPar, tPar3, gNil, gCons, gTup, gSub, tAug, tSl, tNoPart, tPart, tBM, tBM0, tYes, tIsP, iSeq, iEnumA, RZ.iZipA, iRng1, iRng2, iList, iTup, rIsi, rIsB, rIxL, rIxT, rIxA, rLenA, rListOf, rTupOf, rSetL, rSlL, rCat, rAppend, tFld, sFld, tMake, tBits, Int.ofNat_inj, cast1, cast0, TruV, cxOf, Cx.nox, Cx.wish, tNever, tBreak, tCont, ipI, tDIn, tDNotIn, sDPut, tDNewT, tDNewK, tDGet, rSortedPO, rSortedI, rIn, rEqD, rNeD, rInD, rNotInD, tSSet, rIsV, rIntI, rIntB, rAbsN, tLstRg, tRg1, tRg2, List.append_nil, List.nil_append, List.cons_append, Option.some.injEq, exists_eq_left', exists_eq_left, exists_eq_right, exists_eq_right', List.getElem?_cons_zero, List.getElem?_cons_succ, List.set_cons_zero, List.set_cons_succ, List.cons.injEq, and_true, true_and, exists_and_left, exists_and_right, and_assoc, V.int.injEq, V.bl.injEq, V.ref.injEq, V.str.injEq, reduceCtorEq, decide_true, decide_false, Bool.not_true, Bool.not_false, Bool.false_eq_true, if_false, if_true, ite_true, ite_false, List.length_cons, List.length_nil])
    subst hL1
    obtain ⟨dx, t, ys, ek, et, hp⟩ := id hk
    refine lcR1 n (fun _ => true) (fun _ => nv 0) (fun R h => ?_) (by omega) (fun i H' Q1 Q2 hi e q1 q2 => ?_) fun L hL => ?_
    · (try simp only [tVar, tC, tOp, tUn, rI, rI0, rU, rEq, rNe, scal, tTest, tB, tAnd, tOr, tNot, tAndV, tOrV, tNotV, tIf, tChain, tNil, tCons, tCB, tCall, tTup, tLst, tRet, tRetN, tDrop, tSeq, tNext, tIfS, tAsg, gName, tPar, tPar3, gNil, gCons, gTup, gSub, tAug, tSl, tNoPart, tPart, tBM, tBM0, tYes, tIsP, iSeq, iEnumA, RZ.iZipA, iRng1, iRng2, iList, iTup, rIsi, rIsB, rIxL, rIxT, rIxA, rLenA, rListOf, rTupOf, rSetL, rSlL, rCat, rAppend, tFld, sFld, tMake, tBits, Int.ofNat_inj, cast1, cast0, TruV, cxOf, Cx.nox, Cx.wish, tNever, tBreak, tCont, ipI, tDIn, tDNotIn, sDPut, tDNewT, tDNewK, tDGet, rSortedPO, rSortedI, rIn, rEqD, rNeD, rInD, rNotInD, tSSet, rIsV, rIntI, rIntB, rAbsN, tLstRg, tRg1, tRg2, List.append_nil, List.nil_append, List.cons_append, Option.some.injEq, exists_eq_left', exists_eq_left, exists_eq_right, exists_eq_right', List.getElem?_cons_zero, List.getElem?_cons_succ, List.set_cons_zero, List.set_cons_succ, List.cons.injEq, and_true, true_and, exists_and_left, exists_and_right, and_assoc, V.int.injEq, V.bl.injEq, V.ref.injEq, V.str.injEq, reduceCtorEq, decide_true, decide_false, Bool.not_true, Bool.not_false, Bool.false_eq_true, if_false, if_true, ite_true, ite_false, List.length_cons, List.length_nil])
      exact ⟨_, _, _, ek, T.cl_Keys, T.na_many, _, rfl, h⟩
    · (try simp only [tVar, tC, tOp, tUn, rI, rI0, rU, rEq, rNe, scal, tTest, tB, tAnd, tOr, tNot, tAndV, tOrV, tNotV, tIf, tChain, tNil, tCons, tCB, tCall, tTup, tLst, tRet, tRetN, tDrop, tSeq, tNext, tIfS, tAsg, gName, tPar, tPar3, gNil, gCons, gTup, gSub, tAug, tSl, tNoPart, tPart, tBM, tBM0, tYes, tIsP, iSeq, iEnumA, RZ.iZipA, iRng1, iRng2, iList, iTup, rIsi, rIsB, rIxL, rIxT, rIxA, rLenA, rListOf, rTupOf, rSetL, rSlL, rCat, rAppend, tFld, sFld, tMake, tBits, Int.ofNat_inj, cast1, cast0, TruV, cxOf, Cx.nox, Cx.wish, tNever, tBreak, tCont, ipI, tDIn, tDNotIn, sDPut, tDNewT, tDNewK, tDGet, rSortedPO, rSortedI, rIn, rEqD, rNeD, rInD, rNotInD, tSSet, rIsV, rIntI, rIntB, rAbsN, tLstRg, tRg1, tRg2, List.append_nil, List.nil_append, List.cons_append, Option.some.injEq, exists_eq_left', exists_eq_left, exists_eq_right, exists_eq_right', List.getElem?_cons_zero, List.getElem?_cons_succ, List.set_cons_zero, List.set_cons_succ, List.cons.injEq, and_true, true_and, exists_and_left, exists_and_right, and_assoc, V.int.injEq, V.bl.injEq, V.ref.injEq, V.str.injEq, reduceCtorEq, decide_true, decide_false, Bool.not_true, Bool.not_false, Bool.false_eq_true, if_false, if_true, ite_true, ite_false, List.length_cons, List.length_nil])
      exact q1 rfl
    · (try simp only [tVar, tC, tOp, tUn, rI, rI0, rU, rEq, rNe, scal, tTest, tB, tAnd, tOr, tNot, tAndV, tOrV, tNotV, tIf, tChain, tNil, tCons, tCB, tCall, tTup, tLst, tRet, tRetN, tDrop, tSeq, tNext, tIfS, tAsg, gName, tPar, tPar3, gNil, gCons, gTup, gSub, tAug, tSl, tNoPart, tPart, tBM, tBM0, tYes, tIsP, iSeq, iEnumA, RZ.iZipA, iRng1, iRng2, iList, iTup, rIsi, rIsB, rIxL, rIxT, rIxA, rLenA, rListOf, rTupOf, rSetL, rSlL, rCat, rAppend, tFld, sFld, tMake, tBits, Int.ofNat_inj, cast1, cast0, TruV, cxOf, Cx.nox, Cx.wish, tNever, tBreak, tCont, ipI, tDIn, tDNotIn, sDPut, tDNewT, tDNewK, tDGet, rSortedPO, rSortedI, rIn, rEqD, rNeD, rInD, rNotInD, tSSet, rIsV, rIntI, rIntB, rAbsN, tLstRg, tRg1, tRg2, List.append_nil, List.nil_append, List.cons_append, Option.some.injEq, exists_eq_left', exists_eq_left, exists_eq_right, exists_eq_right', List.getElem?_cons_zero, List.getElem?_cons_succ, List.set_cons_zero, List.set_cons_succ, List.cons.injEq, and_true, true_and, exists_and_left, exists_and_right, and_assoc, V.int.injEq, V.bl.injEq, V.ref.injEq, V.str.injEq, reduceCtorEq, decide_true, decide_false, Bool.not_true, Bool.not_false, Bool.false_eq_true, if_false, if_true, ite_true, ite_false, List.length_cons, List.length_nil])
      have sL : Same H (upd H L (.lst (((List.range n).filter fun _ => true).map fun _ => nv 0))) := same_new hL
      have e0 : ((List.range n).filter fun _ => true).map (fun _ => nv 0) = nvs (nearM n []) := by
        rw [List.filter_eq_self.mpr fun _ _ => rfl]
        unfold nearM
        rw [List.foldl_nil, List.map_const', List.length_range]
        exact (List.map_replicate ..).symm
      rw [e0] at sL ⊢
      subst hF1
      refine forS t ys (fun i σ' H' => ∃ y2 y3 y4, σ' = [some (.ref k), some (.ref L), y2, y3, y4] ∧ Same H H' ∧ H' L = some (.lst (nvs (nearM n (qs.take i))))) (fun R h => ?_) ⟨_, _, _, rfl, sL, upd_same⟩ H (.inr (.of et)) (fun i σ' H' h => by obtain ⟨_, _, _, _, h, _⟩ := h; exact h) ?_ ?_
      · (try simp only [tVar, tC, tOp, tUn, rI, rI0, rU, rEq, rNe, scal, tTest, tB, tAnd, tOr, tNot, tAndV, tOrV, tNotV, tIf, tChain, tNil, tCons, tCB, tCall, tTup, tLst, tRet, tRetN, tDrop, tSeq, tNext, tIfS, tAsg, gName, tPar, tPar3, gNil, gCons, gTup, gSub, tAug, tSl, tNoPart, tPart, tBM, tBM0, tYes, tIsP, iSeq, iEnumA, RZ.iZipA, iRng1, iRng2, iList, iTup, rIsi, rIsB, rIxL, rIxT, rIxA, rLenA, rListOf, rTupOf, rSetL, rSlL, rCat, rAppend, tFld, sFld, tMake, tBits, Int.ofNat_inj, cast1, cast0, TruV, cxOf, Cx.nox, Cx.wish, tNever, tBreak, tCont, ipI, tDIn, tDNotIn, sDPut, tDNewT, tDNewK, tDGet, rSortedPO, rSortedI, rIn, rEqD, rNeD, rInD, rNotInD, tSSet, rIsV, rIntI, rIntB, rAbsN, tLstRg, tRg1, tRg2, List.append_nil, List.nil_append, List.cons_append, Option.some.injEq, exists_eq_left', exists_eq_left, exists_eq_right, exists_eq_right', List.getElem?_cons_zero, List.getElem?_cons_succ, List.set_cons_zero, List.set_cons_succ, List.cons.injEq, and_true, true_and, exists_and_left, exists_and_right, and_assoc, V.int.injEq, V.bl.injEq, V.ref.injEq, V.str.injEq, reduceCtorEq, decide_true, decide_false, Bool.not_true, Bool.not_false, Bool.false_eq_true, if_false, if_true, ite_true, ite_false, List.length_cons, List.length_nil])
        exact ⟨_, _, _, sL _ _ ek, T.cl_Keys, T.na_clashes, _, rfl, h⟩
      · rintro i x σ' H' hx ⟨y2, y3, y4, rfl, sm, eL⟩
        obtain ⟨p, b, hpi, rfl, eb⟩ := Prs.at hp hx
        have gp := hg p (List.mem_of_getElem? hpi)
        have ln := near_len n (qs.take i)
        (try simp only [tVar, tC, tOp, tUn, rI, rI0, rU, rEq, rNe, scal, tTest, tB, tAnd, tOr, tNot, tAndV, tOrV, tNotV, tIf, tChain, tNil, tCons, tCB, tCall, tTup, tLst, tRet, tRetN, tDrop, tSeq, tNext, tIfS, tAsg, gName, tPar, tPar3, gNil, gCons, gTup, gSub, tAug, tSl, tNoPart, tPart, tBM, tBM0, tYes, tIsP, iSeq, iEnumA, RZ.iZipA, iRng1, iRng2, iList, iTup, rIsi, rIsB, rIxL, rIxT, rIxA, rLenA, rListOf, rTupOf, rSetL, rSlL, rCat, rAppend, tFld, sFld, tMake, tBits, Int.ofNat_inj, cast1, cast0, TruV, cxOf, Cx.nox, Cx.wish, tNever, tBreak, tCont, ipI, tDIn, tDNotIn, sDPut, tDNewT, tDNewK, tDGet, rSortedPO, rSortedI, rIn, rEqD, rNeD, rInD, rNotInD, tSSet, rIsV, rIntI, rIntB, rAbsN, tLstRg, tRg1, tRg2, List.append_nil, List.nil_append, List.cons_append, Option.some.injEq, exists_eq_left', exists_eq_left, exists_eq_right, exists_eq_right', List.getElem?_cons_zero, List.getElem?_cons_succ, List.set_cons_zero, List.set_cons_succ, List.cons.injEq, and_true, true_and, exists_and_left, exists_and_right, and_assoc, V.int.injEq, V.bl.injEq, V.ref.injEq, V.str.injEq, reduceCtorEq, decide_true, decide_false, Bool.not_true, Bool.not_false, Bool.false_eq_true, if_false, if_true, ite_true, ite_false, List.length_cons, List.length_nil])
        refine ⟨_, .of (sm _ _ eb), ?_⟩
        (try simp only [tVar, tC, tOp, tUn, rI, rI0, rU, rEq, rNe, scal, tTest, tB, tAnd, tOr, tNot, tAndV, tOrV, tNotV, tIf, tChain, tNil, tCons, tCB, tCall, tTup, tLst, tRet, tRetN, tDrop, tSeq, tNext, tIfS, tAsg, gName, tPar, tPar3, gNil, gCons, gTup, gSub, tAug, tSl, tNoPart, tPart, tBM, tBM0, tYes, tIsP, iSeq, iEnumA, RZ.iZipA, iRng1, iRng2, iList, iTup, rIsi, rIsB, rIxL, rIxT, rIxA, rLenA, rListOf, rTupOf, rSetL, rSlL, rCat, rAppend, tFld, sFld, tMake, tBits, Int.ofNat_inj, cast1, cast0, TruV, cxOf, Cx.nox, Cx.wish, tNever, tBreak, tCont, ipI, tDIn, tDNotIn, sDPut, tDNewT, tDNewK, tDGet, rSortedPO, rSortedI, rIn, rEqD, rNeD, rInD, rNotInD, tSSet, rIsV, rIntI, rIntB, rAbsN, tLstRg, tRg1, tRg2, List.append_nil, List.nil_append, List.cons_append, Option.some.injEq, exists_eq_left', exists_eq_left, exists_eq_right, exists_eq_right', List.getElem?_cons_zero, List.getElem?_cons_succ, List.set_cons_zero, List.set_cons_succ, List.cons.injEq, and_true, true_and, exists_and_left, exists_and_right, and_assoc, V.int.injEq, V.bl.injEq, V.ref.injEq, V.str.injEq, reduceCtorEq, decide_true, decide_false, Bool.not_true, Bool.not_false, Bool.false_eq_true, if_false, if_true, ite_true, ite_false, List.length_cons, List.length_nil])
        have h1 : p.1 < (nearM n (qs.take i)).length := by omega
        refine ⟨_, .of eL, _, nvs_ix h1, by omega, _, rfl, _, eL, _, ix_n h1, ?_⟩
        rw [nvs_set]
        have h2 : p.2 < ((nearM n (qs.take i)).set p.1 ((nearM n (qs.take i)).getD p.1 0 ||| 1 <<< p.2)).length := by rw [List.length_set]; omega
        refine ⟨_, .of upd_same, _, nvs_ix h2, by omega, _, rfl, _, upd_same, _, ix_n h2, ?_⟩
        rw [nvs_set, upd_upd, near_take hpi]
        refine ⟨fun b o hb => ?_, upd_same⟩
        rw [upd_ne (ne_of_none hb hL)]
        exact sm _ _ hb
      · rintro σ' H' ⟨y2, y3, y4, rfl, sm, eL⟩
        (try simp only [tVar, tC, tOp, tUn, rI, rI0, rU, rEq, rNe, scal, tTest, tB, tAnd, tOr, tNot, tAndV, tOrV, tNotV, tIf, tChain, tNil, tCons, tCB, tCall, tTup, tLst, tRet, tRetN, tDrop, tSeq, tNext, tIfS, tAsg, gName, tPar, tPar3, gNil, gCons, gTup, gSub, tAug, tSl, tNoPart, tPart, tBM, tBM0, tYes, tIsP, iSeq, iEnumA, RZ.iZipA, iRng1, iRng2, iList, iTup, rIsi, rIsB, rIxL, rIxT, rIxA, rLenA, rListOf, rTupOf, rSetL, rSlL, rCat, rAppend, tFld, sFld, tMake, tBits, Int.ofNat_inj, cast1, cast0, TruV, cxOf, Cx.nox, Cx.wish, tNever, tBreak, tCont, ipI, tDIn, tDNotIn, sDPut, tDNewT, tDNewK, tDGet, rSortedPO, rSortedI, rIn, rEqD, rNeD, rInD, rNotInD, tSSet, rIsV, rIntI, rIntB, rAbsN, tLstRg, tRg1, tRg2, List.append_nil, List.nil_append, List.cons_append, Option.some.injEq, exists_eq_left', exists_eq_left, exists_eq_right, exists_eq_right', List.getElem?_cons_zero, List.getElem?_cons_succ, List.set_cons_zero, List.set_cons_succ, List.cons.injEq, and_true, true_and, exists_and_left, exists_and_right, and_assoc, V.int.injEq, V.bl.injEq, V.ref.injEq, V.str.injEq, reduceCtorEq, decide_true, decide_false, Bool.not_true, Bool.not_false, Bool.false_eq_true, if_false, if_true, ite_true, ite_false, List.length_cons, List.length_nil])
        rw [hp.len, List.take_length] at eL
        exact q H' L sm hL eL
/-- what is near some key of the mask -/
def nearOf (near : List Nat) (m : Nat) : Nat := (bits m).foldl (fun f k => f ||| near.getD k 0) 0
theorem mono_lot_of : Mono (sp_lot_of K) := by
  rintro vs H Q Q' E m ⟨k, h1, h2, q⟩
  exact ⟨k, h1, h2, fun H' p a b c => m _ _ (q H' p a b c)⟩
def sp_near_of (K : PySem.W.Frag) : Sp := fun vs H Q _ => ∃ a near m, vs = [.ref a, nv m] ∧ SqL K H a (nvs near) ∧ near.length ≤ 62 ∧ m < 2 ^ near.length ∧ ∀ H', Same H H' → Q (nv (nearOf near m)) H'
theorem ok_near_of (T : Tx K mg) : FnOk P w K mg base CX0 2 T.a_near_of T.d_near_of ["near", "mask"] (sp_near_of K) := by
  refine T.F_near_of.ok sc_near_of (fun vs H Q E h => ?_) (fun cdv A outer s H vs Q E hr h => ?_)
  · obtain ⟨a, near, m, rfl, _⟩ := h
    rfl
  · obtain ⟨a, near, m, rfl, hs, h62, hm, q⟩ := h
    refine ⟨_, (pss_cons (ps_set (i := 2) sc_near_of.nd rfl (Or.inl rfl) pe_int)
      (pss_cons (ps_for PassesOwn.never rfl (pseqK (K := K) rfl (pe_call (ok_lot_of T) (hr.mono (by decide)) (by rfl) T.g_lot_of T.F_lot_of.kp T.b_lot_of .nil pass0 (pa_cons (pv 1) pa_nil))) (pg_name (i := 3) sc_near_of.nd rfl (Or.inl rfl)) (pss_one (ps_set (i := 2) sc_near_of.nd rfl (Or.inl rfl) (pe_op op_orU (pv 2) (pe_ix (ixL (K := K) rfl) (pv 0) (pv 3) (fun _ _ => rfl))))))
      (pss_one (ps_ret (pv 2))))), ?_⟩
    rw [show L2.start ["near", "mask", "found", "key"] [.ref a, nv m] = [some (.ref a), some (nv m), none, none] from rfl]
    generalize hF1 : tFor _ _ _ = F1
    (try simp only [tVar, tC, tOp, tUn, rI, rI0, rU, rEq, rNe, scal, tTest, tB, tAnd, tOr, tNot, tAndV, tOrV, tNotV, tIf, tChain, tNil, tCons, tCB, tCall, tTup, tLst, tRet, tRetN, tDrop, tSeq, tNext, tIfS, tAsg, gName, tPar, tPar3, gNil, gCons, gTup, gSub, tAug, tSl, tNoPart, tPart, tBM, tBM0, tYes, tIsP, iSeq, iEnumA, RZ.iZipA, iRng1, iRng2, iList, iTup, rIsi, rIsB, rIxL, rIxT, rIxA, rLenA, rListOf, rTupOf, rSetL, rSlL, rCat, rAppend, tFld, sFld, tMake, tBits, Int.ofNat_inj, cast1, cast0, TruV, cxOf, Cx.nox, Cx.wish, tNever, tBreak, tCont, ipI, tDIn, tDNotIn, sDPut, tDNewT, tDNewK, tDGet, rSortedPO, rSortedI, rIn, rEqD, rNeD, rInD, rNotInD, tSSet, rIsV, rIntI, rIntB, rAbsN, tLstRg, tRg1, tRg2, List.append_nil, List.nil_append, List.cons_append, Option.some.injEq, exists_eq_left', exists_eq_left, exists_eq_right, exists_eq_right', List.getElem?_cons_zero, List.getElem?_cons_succ, List.set_cons_zero, List.set_cons_succ, List.cons.injEq, and_true, true_and, exists_and_left, exists_and_right, and_assoc, V.int.injEq, V.bl.injEq, V.ref.injEq, V.str.injEq, reduceCtorEq, decide_true, decide_false, Bool.not_true, Bool.not_false, Bool.false_eq_true, if_false, if_true, ite_true, ite_false, List.length_cons, List.length_nil])
    subst hF1
    have hm2 : m < 2 ^ 62 := Nat.lt_of_lt_of_le hm (Nat.pow_le_pow_right (by decide) h62)
    refine forC [nv m] (fun R h => ?_) mono_lot_of ⟨m, rfl, hm2, fun H1 p s1 hp ep => ?_⟩
    · (try simp only [tVar, tC, tOp, tUn, rI, rI0, rU, rEq, rNe, scal, tTest, tB, tAnd, tOr, tNot, tAndV, tOrV, tNotV, tIf, tChain, tNil, tCons, tCB, tCall, tTup, tLst, tRet, tRetN, tDrop, tSeq, tNext, tIfS, tAsg, gName, tPar, tPar3, gNil, gCons, gTup, gSub, tAug, tSl, tNoPart, tPart, tBM, tBM0, tYes, tIsP, iSeq, iEnumA, RZ.iZipA, iRng1, iRng2, iList, iTup, rIsi, rIsB, rIxL, rIxT, rIxA, rLenA, rListOf, rTupOf, rSetL, rSlL, rCat, rAppend, tFld, sFld, tMake, tBits, Int.ofNat_inj, cast1, cast0, TruV, cxOf, Cx.nox, Cx.wish, tNever, tBreak, tCont, ipI, tDIn, tDNotIn, sDPut, tDNewT, tDNewK, tDGet, rSortedPO, rSortedI, rIn, rEqD, rNeD, rInD, rNotInD, tSSet, rIsV, rIntI, rIntB, rAbsN, tLstRg, tRg1, tRg2, List.append_nil, List.nil_append, List.cons_append, Option.some.injEq, exists_eq_left', exists_eq_left, exists_eq_right, exists_eq_right', List.getElem?_cons_zero, List.getElem?_cons_succ, List.set_cons_zero, List.set_cons_succ, List.cons.injEq, and_true, true_and, exists_and_left, exists_and_right, and_assoc, V.int.injEq, V.bl.injEq, V.ref.injEq, V.str.injEq, reduceCtorEq, decide_true, decide_false, Bool.not_true, Bool.not_false, Bool.false_eq_true, if_false, if_true, ite_true, ite_false, List.length_cons, List.length_nil])
      exact h
    · refine ⟨p, nvs (bits m), fun i σ' H' => ∃ y3, σ' = [some (.ref a), some (nv m), some (nv (((bits m).take i).foldl (fun f k => f ||| near.getD k 0) 0)), y3] ∧ H' = H1, H1, rfl, ⟨_, rfl, rfl⟩, .inr (.of ep), fun i σ' H' h => by obtain ⟨_, _, rfl⟩ := h; exact Same.refl _, ?_, ?_⟩
      · rintro i x σ' H' hx ⟨y3, rfl, rfl⟩
        obtain ⟨k, hk, rfl⟩ := nvs_at hx
        have kl : k < near.length := bits_below hm (List.mem_of_getElem? hk)
        (try simp only [tVar, tC, tOp, tUn, rI, rI0, rU, rEq, rNe, scal, tTest, tB, tAnd, tOr, tNot, tAndV, tOrV, tNotV, tIf, tChain, tNil, tCons, tCB, tCall, tTup, tLst, tRet, tRetN, tDrop, tSeq, tNext, tIfS, tAsg, gName, tPar, tPar3, gNil, gCons, gTup, gSub, tAug, tSl, tNoPart, tPart, tBM, tBM0, tYes, tIsP, iSeq, iEnumA, RZ.iZipA, iRng1, iRng2, iList, iTup, rIsi, rIsB, rIxL, rIxT, rIxA, rLenA, rListOf, rTupOf, rSetL, rSlL, rCat, rAppend, tFld, sFld, tMake, tBits, Int.ofNat_inj, cast1, cast0, TruV, cxOf, Cx.nox, Cx.wish, tNever, tBreak, tCont, ipI, tDIn, tDNotIn, sDPut, tDNewT, tDNewK, tDGet, rSortedPO, rSortedI, rIn, rEqD, rNeD, rInD, rNotInD, tSSet, rIsV, rIntI, rIntB, rAbsN, tLstRg, tRg1, tRg2, List.append_nil, List.nil_append, List.cons_append, Option.some.injEq, exists_eq_left', exists_eq_left, exists_eq_right, exists_eq_right', List.getElem?_cons_zero, List.getElem?_cons_succ, List.set_cons_zero, List.set_cons_succ, List.cons.injEq, and_true, true_and, exists_and_left, exists_and_right, and_assoc, V.int.injEq, V.bl.injEq, V.ref.injEq, V.str.injEq, reduceCtorEq, decide_true, decide_false, Bool.not_true, Bool.not_false, Bool.false_eq_true, if_false, if_true, ite_true, ite_false, List.length_cons, List.length_nil])
        refine ⟨_, Same.seq s1 hs, _, nvs_ix kl, _, rfl, ?_⟩
        rw [List.take_add_one, hk, List.foldl_append]
        rfl
      · rintro σ' H' ⟨y3, rfl, rfl⟩
        (try simp only [tVar, tC, tOp, tUn, rI, rI0, rU, rEq, rNe, scal, tTest, tB, tAnd, tOr, tNot, tAndV, tOrV, tNotV, tIf, tChain, tNil, tCons, tCB, tCall, tTup, tLst, tRet, tRetN, tDrop, tSeq, tNext, tIfS, tAsg, gName, tPar, tPar3, gNil, gCons, gTup, gSub, tAug, tSl, tNoPart, tPart, tBM, tBM0, tYes, tIsP, iSeq, iEnumA, RZ.iZipA, iRng1, iRng2, iList, iTup, rIsi, rIsB, rIxL, rIxT, rIxA, rLenA, rListOf, rTupOf, rSetL, rSlL, rCat, rAppend, tFld, sFld, tMake, tBits, Int.ofNat_inj, cast1, cast0, TruV, cxOf, Cx.nox, Cx.wish, tNever, tBreak, tCont, ipI, tDIn, tDNotIn, sDPut, tDNewT, tDNewK, tDGet, rSortedPO, rSortedI, rIn, rEqD, rNeD, rInD, rNotInD, tSSet, rIsV, rIntI, rIntB, rAbsN, tLstRg, tRg1, tRg2, List.append_nil, List.nil_append, List.cons_append, Option.some.injEq, exists_eq_left', exists_eq_left, exists_eq_right, exists_eq_right', List.getElem?_cons_zero, List.getElem?_cons_succ, List.set_cons_zero, List.set_cons_succ, List.cons.injEq, and_true, true_and, exists_and_left, exists_and_right, and_assoc, V.int.injEq, V.bl.injEq, V.ref.injEq, V.str.injEq, reduceCtorEq, decide_true, decide_false, Bool.not_true, Bool.not_false, Bool.false_eq_true, if_false, if_true, ite_true, ite_false, List.length_cons, List.length_nil])
        rw [List.length_map, List.take_length]
        exact q _ s1
def sp_plain_keys (C : Addr) : Sp := fun vs H Q _ => ∃ n : Nat, vs = [nv n] ∧ (1 ≤ n ∧ n ≤ 12) ∧ ∀ H' k qs, Same H H' → KeysAt C H' k n qs → qs.Perm ((List.range n).map fun i => (i, i)) → Q (.ref k) H'
theorem ok_plain_keys (T : Tx K mg) : FnOk P w K mg base CX0 6 T.a_plain_keys T.d_plain_keys ["many"] (sp_plain_keys T.c_Keys) := by
  refine T.F_plain_keys.ok sc_plain_keys (fun vs H Q E h => ?_) (fun cdv A outer s H vs Q E hr h => ?_)
  · obtain ⟨n, rfl, _⟩ := h
    rfl
  · obtain ⟨n, rfl, ⟨n1, n2⟩, q⟩ := h
    refine ⟨_, (pss_cons (ps_expr (pe_call (ok_need_count T) (hr.mono (by decide)) (by rfl) T.g_need_count T.F_need_count.kp T.b_need_count .nil pass0 (pa_cons (pv 0) (pa_cons pe_int (pa_cons (pe_globI rfl T.g_MOST_KEYS) pa_nil)))))
      (pss_one (ps_ret (pe_make T.m_Keys (ok_Keys___init__ T) (hr.mono (by decide)) (by rfl) T.g_Keys T.b_Keys___init__ .nil pass0 (pa_cons (pv 0) (pa_cons (pe_lc (own := [("key", 1)]) (by rfl) sc_plain_keys.nd (pi_range1 (by rfl) T.n_range (pa_cons (pv 0) pa_nil)) (blkOk_by (own := [("key", 1)]) (N := ["many", "key"]) (sc := defScope s_plain_keys) (by decide +kernel)) (fun _ _ _ _ _ => (pg_name (i := 1) sc_plain_keys.nd rfl (by first | exact Or.inl rfl | exact Or.inr rfl))) (fun _ _ _ _ _ => pts_nil) (fun _ _ _ _ _ => (pe_tup (pa_cons (pv 1) (pa_cons (pv 1) pa_nil))))) pa_nil)))))), ?_⟩
    rw [show L2.start ["many", "key"] [nv n] = [some (nv n), none] from rfl]
    generalize hL1 : tLc _ _ _ _ _ = L1
    (try simp only [tVar, tC, tOp, tUn, rI, rI0, rU, rEq, rNe, scal, tTest, tB, tAnd, tOr, tNot, tAndV, tOrV, tNotV, tIf, tChain, tNil, tCons, tCB, tCall, tTup, tLst, tRet, tRetN, tDrop, tSeq, tNext, tIfS, tAsg, gName, tPar, tPar3, gNil, gCons, gTup, gSub, tAug, tSl, tNoPart, tPart, tBM, tBM0, tYes, tIsP, iSeq, iEnumA, RZ.iZipA, iRng1, iRng2, iList, iTup, rIsi, rIsB, rIxL, rIxT, rIxA, rLenA, rListOf, rTupOf, rSetL, rSlL, rCat, rAppend, tFld, sFld, tMake, tBits, Int.ofNat_inj, cast1, cast0, TruV, cxOf, Cx.nox, Cx.wish, tNever, tBreak, tCont, ipI, tDIn, tDNotIn, sDPut, tDNewT, tDNewK, tDGet, rSortedPO, rSortedI, rIn, rEqD, rNeD, rInD, rNotInD, tSSet, rIsV, rIntI, rIntB, rAbsN, tLstRg, tRg1, tRg2, List.append_nil, List.nil_append, List.cons_append, Option.some.injEq, exists_eq_left', exists_eq_left, exists_eq_right, exists_eq_right', List.getElem?_cons_zero, List.getElem?_cons_succ, List.set_cons_zero, List.set_cons_succ, List.cons.injEq, and_true, true_and, exists_and_left, exists_and_right, and_assoc, V.int.injEq, V.bl.injEq, V.ref.injEq, V.str.injEq, reduceCtorEq, decide_true, decide_false, Bool.not_true, Bool.not_false, Bool.false_eq_true, if_false, if_true, ite_true, ite_false, List.length_cons, List.length_nil])
    refine ⟨_, _, _, rfl, ⟨by omega, by omega⟩, ?_⟩
    (try simp only [tVar, tC, tOp, tUn, rI, rI0, rU, rEq, rNe, scal, tTest, tB, tAnd, tOr, tNot, tAndV, tOrV, tNotV, tIf, tChain, tNil, tCons, tCB, tCall, tTup, tLst, tRet, tRetN, tDrop, tSeq, tNext, tIfS, tAsg, gName, tPar, tPar3, gNil, gCons, gTup, gSub, tAug, tSl, tNoPart, tPart, tBM, tBM0, tYes, tIsP, iSeq, iEnumA, RZ.iZipA, iRng1, iRng2, iList, iTup, rIsi, rIsB, rIxL, rIxT, rIxA, rLenA, rListOf, rTupOf, rSetL, rSlL, rCat, rAppend, tFld, sFld, tMake, tBits, Int.ofNat_inj, cast1, cast0, TruV, cxOf, Cx.nox, Cx.wish, tNever, tBreak, tCont, ipI, tDIn, tDNotIn, sDPut, tDNewT, tDNewK, tDGet, rSortedPO, rSortedI, rIn, rEqD, rNeD, rInD, rNotInD, tSSet, rIsV, rIntI, rIntB, rAbsN, tLstRg, tRg1, tRg2, List.append_nil, List.nil_append, List.cons_append, Option.some.injEq, exists_eq_left', exists_eq_left, exists_eq_right, exists_eq_right', List.getElem?_cons_zero, List.getElem?_cons_succ, List.set_cons_zero, List.set_cons_succ, List.cons.injEq, and_true, true_and, exists_and_left, exists_and_right, and_assoc, V.int.injEq, V.bl.injEq, V.ref.injEq, V.str.injEq, reduceCtorEq, decide_true, decide_false, Bool.not_true, Bool.not_false, Bool.false_eq_true, if_false, if_true, ite_true, ite_false, List.length_cons, List.length_nil])
    subst hL1
    refine lcR1G n (fun L i H' acc => Same H H' ∧ Prs H' acc ((List.range i).map fun i => (i, i))) (fun R h => ?_) (by omega) (fun L hL => ⟨same_new hL, .nil⟩) ?_ (fun σ H Q1 Q2 m h => m _ _ h) (fun σ H Q1 Q2 m h => ?_) ?_
    · (try simp only [tVar, tC, tOp, tUn, rI, rI0, rU, rEq, rNe, scal, tTest, tB, tAnd, tOr, tNot, tAndV, tOrV, tNotV, tIf, tChain, tNil, tCons, tCB, tCall, tTup, tLst, tRet, tRetN, tDrop, tSeq, tNext, tIfS, tAsg, gName, tPar, tPar3, gNil, gCons, gTup, gSub, tAug, tSl, tNoPart, tPart, tBM, tBM0, tYes, tIsP, iSeq, iEnumA, RZ.iZipA, iRng1, iRng2, iList, iTup, rIsi, rIsB, rIxL, rIxT, rIxA, rLenA, rListOf, rTupOf, rSetL, rSlL, rCat, rAppend, tFld, sFld, tMake, tBits, Int.ofNat_inj, cast1, cast0, TruV, cxOf, Cx.nox, Cx.wish, tNever, tBreak, tCont, ipI, tDIn, tDNotIn, sDPut, tDNewT, tDNewK, tDGet, rSortedPO, rSortedI, rIn, rEqD, rNeD, rInD, rNotInD, tSSet, rIsV, rIntI, rIntB, rAbsN, tLstRg, tRg1, tRg2, List.append_nil, List.nil_append, List.cons_append, Option.some.injEq, exists_eq_left', exists_eq_left, exists_eq_right, exists_eq_right', List.getElem?_cons_zero, List.getElem?_cons_succ, List.set_cons_zero, List.set_cons_succ, List.cons.injEq, and_true, true_and, exists_and_left, exists_and_right, and_assoc, V.int.injEq, V.bl.injEq, V.ref.injEq, V.str.injEq, reduceCtorEq, decide_true, decide_false, Bool.not_true, Bool.not_false, Bool.false_eq_true, if_false, if_true, ite_true, ite_false, List.length_cons, List.length_nil])
      exact h
    · rintro L i H' acc hL hi eL ⟨sm, hp⟩
      (try simp only [tVar, tC, tOp, tUn, rI, rI0, rU, rEq, rNe, scal, tTest, tB, tAnd, tOr, tNot, tAndV, tOrV, tNotV, tIf, tChain, tNil, tCons, tCB, tCall, tTup, tLst, tRet, tRetN, tDrop, tSeq, tNext, tIfS, tAsg, gName, tPar, tPar3, gNil, gCons, gTup, gSub, tAug, tSl, tNoPart, tPart, tBM, tBM0, tYes, tIsP, iSeq, iEnumA, RZ.iZipA, iRng1, iRng2, iList, iTup, rIsi, rIsB, rIxL, rIxT, rIxA, rLenA, rListOf, rTupOf, rSetL, rSlL, rCat, rAppend, tFld, sFld, tMake, tBits, Int.ofNat_inj, cast1, cast0, TruV, cxOf, Cx.nox, Cx.wish, tNever, tBreak, tCont, ipI, tDIn, tDNotIn, sDPut, tDNewT, tDNewK, tDGet, rSortedPO, rSortedI, rIn, rEqD, rNeD, rInD, rNotInD, tSSet, rIsV, rIntI, rIntB, rAbsN, tLstRg, tRg1, tRg2, List.append_nil, List.nil_append, List.cons_append, Option.some.injEq, exists_eq_left', exists_eq_left, exists_eq_right, exists_eq_right', List.getElem?_cons_zero, List.getElem?_cons_succ, List.set_cons_zero, List.set_cons_succ, List.cons.injEq, and_true, true_and, exists_and_left, exists_and_right, and_assoc, V.int.injEq, V.bl.injEq, V.ref.injEq, V.str.injEq, reduceCtorEq, decide_true, decide_false, Bool.not_true, Bool.not_false, Bool.false_eq_true, if_false, if_true, ite_true, ite_false, List.length_cons, List.length_nil])
      refine ⟨by rw [sizeLine_eq]; decide, fun p hp2 => ⟨same_new hp2 _ _ eL, ?_, ?_⟩⟩
      · intro b o hb
        rw [upd_ne (ne_of_none hb hL)]
        exact same_new hp2 _ _ (sm _ _ hb)
      · rw [List.range_succ, List.map_append]
        have eL2 := same_new hp2 (o := .tup [nv i, nv i]) _ _ eL
        refine Prs.upd ((hp.same (same_new hp2)).snoc ⟨p, rfl, upd_same⟩) fun ys z => ?_
        rw [eL2] at z
        cases z
    · revert h
      (try simp only [tVar, tC, tOp, tUn, rI, rI0, rU, rEq, rNe, scal, tTest, tB, tAnd, tOr, tNot, tAndV, tOrV, tNotV, tIf, tChain, tNil, tCons, tCB, tCall, tTup, tLst, tRet, tRetN, tDrop, tSeq, tNext, tIfS, tAsg, gName, tPar, tPar3, gNil, gCons, gTup, gSub, tAug, tSl, tNoPart, tPart, tBM, tBM0, tYes, tIsP, iSeq, iEnumA, RZ.iZipA, iRng1, iRng2, iList, iTup, rIsi, rIsB, rIxL, rIxT, rIxA, rLenA, rListOf, rTupOf, rSetL, rSlL, rCat, rAppend, tFld, sFld, tMake, tBits, Int.ofNat_inj, cast1, cast0, TruV, cxOf, Cx.nox, Cx.wish, tNever, tBreak, tCont, ipI, tDIn, tDNotIn, sDPut, tDNewT, tDNewK, tDGet, rSortedPO, rSortedI, rIn, rEqD, rNeD, rInD, rNotInD, tSSet, rIsV, rIntI, rIntB, rAbsN, tLstRg, tRg1, tRg2, List.append_nil, List.nil_append, List.cons_append, Option.some.injEq, exists_eq_left', exists_eq_left, exists_eq_right, exists_eq_right', List.getElem?_cons_zero, List.getElem?_cons_succ, List.set_cons_zero, List.set_cons_succ, List.cons.injEq, and_true, true_and, exists_and_left, exists_and_right, and_assoc, V.int.injEq, V.bl.injEq, V.ref.injEq, V.str.injEq, reduceCtorEq, decide_true, decide_false, Bool.not_true, Bool.not_false, Bool.false_eq_true, if_false, if_true, ite_true, ite_false, List.length_cons, List.length_nil])
      rintro ⟨v, e1, v1, e2, z, g⟩
      exact ⟨v, e1, v1, e2, z, fun p hp => m _ _ (g p hp)⟩
    · rintro L H' acc hL eL ⟨sm, hp⟩ x dx hx hdx hne
      have e2 : Same H' (upd (upd H' dx (.own x)) x (.ins T.c_Keys dx [])) := (same_new hdx).trans (same_new (by rw [upd_ne (Ne.symm hne)]; exact hx))
      refine ⟨x, dx, L, acc, _, n, rfl, upd_same, ⟨n1, n2⟩, .inl (.inl (.inl (e2 _ _ eL))), hp.same e2, ⟨?_, ?_⟩, by rw [List.length_map, List.length_range]; omega, fun H2 qs kp ka pe _ => ⟨rfl, q H2 x qs ?_ ka pe⟩⟩
      · exact List.pairwise_map.mpr (List.nodup_range.imp fun h e => h (Prod.mk.inj e).1)
      · intro p hp3
        obtain ⟨i, hi, rfl⟩ := List.mem_map.mp hp3
        have := List.mem_range.mp hi
        exact ⟨Nat.le_refl _, this⟩
      · intro b o hb
        have h1 := e2 _ _ (sm _ _ hb)
        exact kp b o (ne_of_none (sm _ _ hb) hx) h1
end
end Kr
namespace Kr
open PySem PySem.Spec PyProof.Rows L2 Kb
/-! ### what the masks say -/
theorem nd_len {ns : List Nat} {n : Nat} (nd : ns.Nodup) (h : ∀ k ∈ ns, k < n) : ns.length ≤ n := by
  have := List.Nodup.length_le_of_subset nd (l₂ := List.range n) fun k hk => List.mem_range.mpr (h k hk)
  rwa [List.length_range] at this
theorem maskOf_test (l : List Nat) (k : Nat) : (maskOf l).testBit k = decide (k ∈ l) := by
  have : ∀ (l : List Nat) (m : Nat), (l.foldl (fun m k => m ||| 1 <<< k) m).testBit k = (m.testBit k || decide (k ∈ l)) := by
    intro l
    induction l with
    | nil => intro m; simp
    | cons a r ih =>
      intro m
      rw [List.foldl_cons, ih, Nat.testBit_or, Nat.shiftLeft_eq, Nat.one_mul, Nat.testBit_two_pow, Bool.or_assoc]
      congr 1
      rw [Bool.eq_iff_iff]
      simp only [Bool.or_eq_true, decide_eq_true_eq, List.mem_cons]
      exact or_congr_left eq_comm
  unfold maskOf
  rw [this, Nat.zero_testBit, Bool.false_or]
theorem maskOf_lt {l : List Nat} {n : Nat} (h : ∀ k ∈ l, k < n) : maskOf l < 2 ^ n := by
  refine Nat.lt_pow_two_of_testBit _ fun i hi => ?_
  rw [maskOf_test]
  exact decide_eq_false fun m => by have := h i m; omega
/-- near by the pairs -/
def nearP (qs : List NP) (i j : Nat) : Prop := (i, j) ∈ qs ∨ (j, i) ∈ qs
theorem nstep_test {l : List Nat} {p : NP} (h1 : p.1 < l.length) (h2 : p.2 < l.length) (i j : Nat) : ((nstep l p).getD i 0).testBit j = ((l.getD i 0).testBit j || decide (p = (i, j)) || decide (p = (j, i))) := by
  obtain ⟨a, b⟩ := p
  unfold nstep
  simp only [List.getD_eq_getElem?_getD, List.getElem?_set, List.length_set, Prod.mk.injEq] at *
  by_cases ha : a = i <;> by_cases hb : b = i <;> by_cases hab : b = a <;> simp_all [Nat.testBit_or, Nat.shiftLeft_eq, Nat.testBit_two_pow]
theorem near_test {n : Nat} : ∀ {qs : List NP}, (∀ p ∈ qs, p.1 ≤ p.2 ∧ p.2 < n) → ∀ i j, ((nearM n qs).getD i 0).testBit j = true ↔ nearP qs i j := by
  intro qs
  unfold nearM
  have : ∀ (qs : List NP) (l : List Nat), l.length = n → (∀ p ∈ qs, p.1 ≤ p.2 ∧ p.2 < n) → ∀ i j, ((qs.foldl nstep l).getD i 0).testBit j = true ↔ (l.getD i 0).testBit j = true ∨ nearP qs i j := by
    intro qs
    induction qs with
    | nil => intro l _ _ i j; simp [nearP]
    | cons p r ih =>
      intro l hl h i j
      have hp := h p List.mem_cons_self
      rw [List.foldl_cons, ih _ (by rw [nstep_len, hl]) (fun q hq => h q (List.mem_cons_of_mem _ hq)), nstep_test (by omega) (by omega)]
      unfold nearP
      simp only [Bool.or_eq_true, decide_eq_true_eq, List.mem_cons, eq_comm (a := p)]
      constructor
      · rintro (((h | h) | h) | (h | h)) <;> simp_all
      · rintro (h | (h | h) | (h | h)) <;> simp_all
  intro h i j
  rw [this qs _ (List.length_replicate ..) h i j]
  constructor
  · rintro (h | h)
    · rw [List.getD_eq_getElem?_getD, List.getElem?_replicate] at h
      split at h <;> simp at h
    · exact h
  · exact .inr
theorem or_fold_test (f : Nat → Nat) (l : List Nat) (j : Nat) : ∀ m, (l.foldl (fun s k => s ||| f k) m).testBit j = true ↔ m.testBit j = true ∨ ∃ k ∈ l, (f k).testBit j = true := by
  induction l with
  | nil => intro m; simp
  | cons a r ih =>
    intro m
    rw [List.foldl_cons, ih, Nat.testBit_or, Bool.or_eq_true, or_assoc]
    simp
def GoodQ (n : Nat) (qs : List NP) : Prop := n ≤ 12 ∧ ∀ p ∈ qs, p.1 ≤ p.2 ∧ p.2 < n
theorem nearOf_test (near : List Nat) (m j : Nat) : (nearOf near m).testBit j = true ↔ ∃ k ∈ bits m, (near.getD k 0).testBit j = true := by
  unfold nearOf
  rw [or_fold_test (fun k => near.getD k 0)]
  simp
theorem nearOf_lt {n : Nat} {qs : List NP} {m : Nat} (hg : GoodQ n qs) : nearOf (nearM n qs) m < 2 ^ n := by
  refine Nat.lt_pow_two_of_testBit _ fun j hj => ?_
  rw [Bool.eq_false_iff]
  intro h
  obtain ⟨k, _, hk⟩ := (nearOf_test _ _ _).mp h
  rcases (near_test hg.2 k j).mp hk with h | h
  · have := hg.2 _ h
    simp only at this
    omega
  · have := hg.2 _ h
    simp only at this
    omega
end Kr
namespace Kr
open PySem PySem.Spec PyProof.Rows L2 Kb
section
variable {P : Program} {w : World} {K : PySem.W.Frag} {mg : Str → Option Value} {base : Heap}
theorem odd_is (m k : Nat) : decide (((m >>> k &&& 1 : Nat) : Int) = 1) = m.testBit k := by
  unfold Nat.testBit
  rw [Nat.and_comm, Bool.eq_iff_iff]
  simp only [decide_eq_true_eq, bne_iff_ne, ne_eq]
  have : 1 &&& m >>> k < 2 := by rw [Nat.one_and_eq_mod_two]; exact Nat.mod_lt _ (by decide)
  omega
def sp_clash (C : Addr) : Sp := fun vs H Q _ => ∃ k n qs, ∃ f s : Nat, vs = [.ref k, nv f, nv s] ∧ KeysAt C H k n qs ∧ GoodQ n qs ∧ (f < n ∧ s < n) ∧ ∀ H', Same H H' → Q (.bl (((nearM n qs).getD f 0).testBit s)) H'
theorem ok_clash (T : Tx K mg) : FnOk P w K mg base CX0 4 T.a_clash T.d_clash ["keys", "first", "second"] (sp_clash T.c_Keys) := by
  refine T.F_clash.ok sc_clash (fun vs H Q E h => ?_) (fun cdv A outer s H vs Q E hr h => ?_)
  · obtain ⟨k, n, qs, f, s, rfl, _⟩ := h
    rfl
  · obtain ⟨k, n, qs, f, s, rfl, hk, hg, ⟨hf, hs⟩, q⟩ := h
    refine ⟨_, (pss_cons (ps_expr (pe_call (ok_need_keys T) (hr.mono (by decide)) (by rfl) T.g_need_keys T.F_need_keys.kp T.b_need_keys .nil pass0 (pa_cons (pv 0) pa_nil)))
      (pss_cons (ps_expr (pe_call (ok_need_key T) (hr.mono (by decide)) (by rfl) T.g_need_key T.F_need_key.kp T.b_need_key .nil pass0 (pa_cons (pv 1) (pa_cons (fldK (K := K) rfl (pv 0) rfl) pa_nil))))
      (pss_cons (ps_expr (pe_call (ok_need_key T) (hr.mono (by decide)) (by rfl) T.g_need_key T.F_need_key.kp T.b_need_key .nil pass0 (pa_cons (pv 2) (pa_cons (fldK (K := K) rfl (pv 0) rfl) pa_nil))))
      (pss_one (ps_ret (pe_cmpR op_eq (pe_op op_andU (pe_op op_shrU (pe_ix (ixL (K := K) rfl) (pe_call (ok_near_masks T) (hr.mono (by decide)) (by rfl) T.g_near_masks T.F_near_masks.kp T.b_near_masks .nil pass0 (pa_cons (pv 0) pa_nil)) (pv 1) (fun _ _ => rfl)) (pv 2)) pe_int) pe_int (nomark _))))))), ?_⟩
    rw [show L2.start ["keys", "first", "second"] [.ref k, nv f, nv s] = [some (.ref k), some (nv f), some (nv s)] from rfl]
    (try simp only [tVar, tC, tOp, tUn, rI, rI0, rU, rEq, rNe, scal, tTest, tB, tAnd, tOr, tNot, tAndV, tOrV, tNotV, tIf, tChain, tNil, tCons, tCB, tCall, tTup, tLst, tRet, tRetN, tDrop, tSeq, tNext, tIfS, tAsg, gName, tPar, tPar3, gNil, gCons, gTup, gSub, tAug, tSl, tNoPart, tPart, tBM, tBM0, tYes, tIsP, iSeq, iEnumA, RZ.iZipA, iRng1, iRng2, iList, iTup, rIsi, rIsB, rIxL, rIxT, rIxA, rLenA, rListOf, rTupOf, rSetL, rSlL, rCat, rAppend, tFld, sFld, tMake, tBits, Int.ofNat_inj, cast1, cast0, TruV, cxOf, Cx.nox, Cx.wish, tNever, tBreak, tCont, ipI, tDIn, tDNotIn, sDPut, tDNewT, tDNewK, tDGet, rSortedPO, rSortedI, rIn, rEqD, rNeD, rInD, rNotInD, tSSet, rIsV, rIntI, rIntB, rAbsN, tLstRg, tRg1, tRg2, List.append_nil, List.nil_append, List.cons_append, Option.some.injEq, exists_eq_left', exists_eq_left, exists_eq_right, exists_eq_right', List.getElem?_cons_zero, List.getElem?_cons_succ, List.set_cons_zero, List.set_cons_succ, List.cons.injEq, and_true, true_and, exists_and_left, exists_and_right, and_assoc, V.int.injEq, V.bl.injEq, V.ref.injEq, V.str.injEq, reduceCtorEq, decide_true, decide_false, Bool.not_true, Bool.not_false, Bool.false_eq_true, if_false, if_true, ite_true, ite_false, List.length_cons, List.length_nil])
    obtain ⟨dx, t, ys, ek, et, hp⟩ := id hk
    refine ⟨k, dx, _, rfl, ek, ?_⟩
    (try simp only [tVar, tC, tOp, tUn, rI, rI0, rU, rEq, rNe, scal, tTest, tB, tAnd, tOr, tNot, tAndV, tOrV, tNotV, tIf, tChain, tNil, tCons, tCB, tCall, tTup, tLst, tRet, tRetN, tDrop, tSeq, tNext, tIfS, tAsg, gName, tPar, tPar3, gNil, gCons, gTup, gSub, tAug, tSl, tNoPart, tPart, tBM, tBM0, tYes, tIsP, iSeq, iEnumA, RZ.iZipA, iRng1, iRng2, iList, iTup, rIsi, rIsB, rIxL, rIxT, rIxA, rLenA, rListOf, rTupOf, rSetL, rSlL, rCat, rAppend, tFld, sFld, tMake, tBits, Int.ofNat_inj, cast1, cast0, TruV, cxOf, Cx.nox, Cx.wish, tNever, tBreak, tCont, ipI, tDIn, tDNotIn, sDPut, tDNewT, tDNewK, tDGet, rSortedPO, rSortedI, rIn, rEqD, rNeD, rInD, rNotInD, tSSet, rIsV, rIntI, rIntB, rAbsN, tLstRg, tRg1, tRg2, List.append_nil, List.nil_append, List.cons_append, Option.some.injEq, exists_eq_left', exists_eq_left, exists_eq_right, exists_eq_right', List.getElem?_cons_zero, List.getElem?_cons_succ, List.set_cons_zero, List.set_cons_succ, List.cons.injEq, and_true, true_and, exists_and_left, exists_and_right, and_assoc, V.int.injEq, V.bl.injEq, V.ref.injEq, V.str.injEq, reduceCtorEq, decide_true, decide_false, Bool.not_true, Bool.not_false, Bool.false_eq_true, if_false, if_true, ite_true, ite_false, List.length_cons, List.length_nil])
    refine ⟨_, _, _, ek, T.cl_Keys, T.na_many, _, rfl, ?_⟩
    (try simp only [tVar, tC, tOp, tUn, rI, rI0, rU, rEq, rNe, scal, tTest, tB, tAnd, tOr, tNot, tAndV, tOrV, tNotV, tIf, tChain, tNil, tCons, tCB, tCall, tTup, tLst, tRet, tRetN, tDrop, tSeq, tNext, tIfS, tAsg, gName, tPar, tPar3, gNil, gCons, gTup, gSub, tAug, tSl, tNoPart, tPart, tBM, tBM0, tYes, tIsP, iSeq, iEnumA, RZ.iZipA, iRng1, iRng2, iList, iTup, rIsi, rIsB, rIxL, rIxT, rIxA, rLenA, rListOf, rTupOf, rSetL, rSlL, rCat, rAppend, tFld, sFld, tMake, tBits, Int.ofNat_inj, cast1, cast0, TruV, cxOf, Cx.nox, Cx.wish, tNever, tBreak, tCont, ipI, tDIn, tDNotIn, sDPut, tDNewT, tDNewK, tDGet, rSortedPO, rSortedI, rIn, rEqD, rNeD, rInD, rNotInD, tSSet, rIsV, rIntI, rIntB, rAbsN, tLstRg, tRg1, tRg2, List.append_nil, List.nil_append, List.cons_append, Option.some.injEq, exists_eq_left', exists_eq_left, exists_eq_right, exists_eq_right', List.getElem?_cons_zero, List.getElem?_cons_succ, List.set_cons_zero, List.set_cons_succ, List.cons.injEq, and_true, true_and, exists_and_left, exists_and_right, and_assoc, V.int.injEq, V.bl.injEq, V.ref.injEq, V.str.injEq, reduceCtorEq, decide_true, decide_false, Bool.not_true, Bool.not_false, Bool.false_eq_true, if_false, if_true, ite_true, ite_false, List.length_cons, List.length_nil])
    refine ⟨_, _, rfl, hf, ?_⟩
    (try simp only [tVar, tC, tOp, tUn, rI, rI0, rU, rEq, rNe, scal, tTest, tB, tAnd, tOr, tNot, tAndV, tOrV, tNotV, tIf, tChain, tNil, tCons, tCB, tCall, tTup, tLst, tRet, tRetN, tDrop, tSeq, tNext, tIfS, tAsg, gName, tPar, tPar3, gNil, gCons, gTup, gSub, tAug, tSl, tNoPart, tPart, tBM, tBM0, tYes, tIsP, iSeq, iEnumA, RZ.iZipA, iRng1, iRng2, iList, iTup, rIsi, rIsB, rIxL, rIxT, rIxA, rLenA, rListOf, rTupOf, rSetL, rSlL, rCat, rAppend, tFld, sFld, tMake, tBits, Int.ofNat_inj, cast1, cast0, TruV, cxOf, Cx.nox, Cx.wish, tNever, tBreak, tCont, ipI, tDIn, tDNotIn, sDPut, tDNewT, tDNewK, tDGet, rSortedPO, rSortedI, rIn, rEqD, rNeD, rInD, rNotInD, tSSet, rIsV, rIntI, rIntB, rAbsN, tLstRg, tRg1, tRg2, List.append_nil, List.nil_append, List.cons_append, Option.some.injEq, exists_eq_left', exists_eq_left, exists_eq_right, exists_eq_right', List.getElem?_cons_zero, List.getElem?_cons_succ, List.set_cons_zero, List.set_cons_succ, List.cons.injEq, and_true, true_and, exists_and_left, exists_and_right, and_assoc, V.int.injEq, V.bl.injEq, V.ref.injEq, V.str.injEq, reduceCtorEq, decide_true, decide_false, Bool.not_true, Bool.not_false, Bool.false_eq_true, if_false, if_true, ite_true, ite_false, List.length_cons, List.length_nil])
    refine ⟨_, _, _, ek, T.cl_Keys, T.na_many, _, rfl, ?_⟩
    (try simp only [tVar, tC, tOp, tUn, rI, rI0, rU, rEq, rNe, scal, tTest, tB, tAnd, tOr, tNot, tAndV, tOrV, tNotV, tIf, tChain, tNil, tCons, tCB, tCall, tTup, tLst, tRet, tRetN, tDrop, tSeq, tNext, tIfS, tAsg, gName, tPar, tPar3, gNil, gCons, gTup, gSub, tAug, tSl, tNoPart, tPart, tBM, tBM0, tYes, tIsP, iSeq, iEnumA, RZ.iZipA, iRng1, iRng2, iList, iTup, rIsi, rIsB, rIxL, rIxT, rIxA, rLenA, rListOf, rTupOf, rSetL, rSlL, rCat, rAppend, tFld, sFld, tMake, tBits, Int.ofNat_inj, cast1, cast0, TruV, cxOf, Cx.nox, Cx.wish, tNever, tBreak, tCont, ipI, tDIn, tDNotIn, sDPut, tDNewT, tDNewK, tDGet, rSortedPO, rSortedI, rIn, rEqD, rNeD, rInD, rNotInD, tSSet, rIsV, rIntI, rIntB, rAbsN, tLstRg, tRg1, tRg2, List.append_nil, List.nil_append, List.cons_append, Option.some.injEq, exists_eq_left', exists_eq_left, exists_eq_right, exists_eq_right', List.getElem?_cons_zero, List.getElem?_cons_succ, List.set_cons_zero, List.set_cons_succ, List.cons.injEq, and_true, true_and, exists_and_left, exists_and_right, and_assoc, V.int.injEq, V.bl.injEq, V.ref.injEq, V.str.injEq, reduceCtorEq, decide_true, decide_false, Bool.not_true, Bool.not_false, Bool.false_eq_true, if_false, if_true, ite_true, ite_false, List.length_cons, List.length_nil])
    refine ⟨_, _, rfl, hs, ?_⟩
    (try simp only [tVar, tC, tOp, tUn, rI, rI0, rU, rEq, rNe, scal, tTest, tB, tAnd, tOr, tNot, tAndV, tOrV, tNotV, tIf, tChain, tNil, tCons, tCB, tCall, tTup, tLst, tRet, tRetN, tDrop, tSeq, tNext, tIfS, tAsg, gName, tPar, tPar3, gNil, gCons, gTup, gSub, tAug, tSl, tNoPart, tPart, tBM, tBM0, tYes, tIsP, iSeq, iEnumA, RZ.iZipA, iRng1, iRng2, iList, iTup, rIsi, rIsB, rIxL, rIxT, rIxA, rLenA, rListOf, rTupOf, rSetL, rSlL, rCat, rAppend, tFld, sFld, tMake, tBits, Int.ofNat_inj, cast1, cast0, TruV, cxOf, Cx.nox, Cx.wish, tNever, tBreak, tCont, ipI, tDIn, tDNotIn, sDPut, tDNewT, tDNewK, tDGet, rSortedPO, rSortedI, rIn, rEqD, rNeD, rInD, rNotInD, tSSet, rIsV, rIntI, rIntB, rAbsN, tLstRg, tRg1, tRg2, List.append_nil, List.nil_append, List.cons_append, Option.some.injEq, exists_eq_left', exists_eq_left, exists_eq_right, exists_eq_right', List.getElem?_cons_zero, List.getElem?_cons_succ, List.set_cons_zero, List.set_cons_succ, List.cons.injEq, and_true, true_and, exists_and_left, exists_and_right, and_assoc, V.int.injEq, V.bl.injEq, V.ref.injEq, V.str.injEq, reduceCtorEq, decide_true, decide_false, Bool.not_true, Bool.not_false, Bool.false_eq_true, if_false, if_true, ite_true, ite_false, List.length_cons, List.length_nil])
    refine ⟨_, _, _, rfl, hk, hg.1, hg.2, fun H' p sm hp1 ep => ?_⟩
    (try simp only [tVar, tC, tOp, tUn, rI, rI0, rU, rEq, rNe, scal, tTest, tB, tAnd, tOr, tNot, tAndV, tOrV, tNotV, tIf, tChain, tNil, tCons, tCB, tCall, tTup, tLst, tRet, tRetN, tDrop, tSeq, tNext, tIfS, tAsg, gName, tPar, tPar3, gNil, gCons, gTup, gSub, tAug, tSl, tNoPart, tPart, tBM, tBM0, tYes, tIsP, iSeq, iEnumA, RZ.iZipA, iRng1, iRng2, iList, iTup, rIsi, rIsB, rIxL, rIxT, rIxA, rLenA, rListOf, rTupOf, rSetL, rSlL, rCat, rAppend, tFld, sFld, tMake, tBits, Int.ofNat_inj, cast1, cast0, TruV, cxOf, Cx.nox, Cx.wish, tNever, tBreak, tCont, ipI, tDIn, tDNotIn, sDPut, tDNewT, tDNewK, tDGet, rSortedPO, rSortedI, rIn, rEqD, rNeD, rInD, rNotInD, tSSet, rIsV, rIntI, rIntB, rAbsN, tLstRg, tRg1, tRg2, List.append_nil, List.nil_append, List.cons_append, Option.some.injEq, exists_eq_left', exists_eq_left, exists_eq_right, exists_eq_right', List.getElem?_cons_zero, List.getElem?_cons_succ, List.set_cons_zero, List.set_cons_succ, List.cons.injEq, and_true, true_and, exists_and_left, exists_and_right, and_assoc, V.int.injEq, V.bl.injEq, V.ref.injEq, V.str.injEq, reduceCtorEq, decide_true, decide_false, Bool.not_true, Bool.not_false, Bool.false_eq_true, if_false, if_true, ite_true, ite_false, List.length_cons, List.length_nil])
    refine ⟨_, .inl (.of ep), _, nvs_ix (by rw [near_len]; exact hf), ?_⟩
    (try simp only [tVar, tC, tOp, tUn, rI, rI0, rU, rEq, rNe, scal, tTest, tB, tAnd, tOr, tNot, tAndV, tOrV, tNotV, tIf, tChain, tNil, tCons, tCB, tCall, tTup, tLst, tRet, tRetN, tDrop, tSeq, tNext, tIfS, tAsg, gName, tPar, tPar3, gNil, gCons, gTup, gSub, tAug, tSl, tNoPart, tPart, tBM, tBM0, tYes, tIsP, iSeq, iEnumA, RZ.iZipA, iRng1, iRng2, iList, iTup, rIsi, rIsB, rIxL, rIxT, rIxA, rLenA, rListOf, rTupOf, rSetL, rSlL, rCat, rAppend, tFld, sFld, tMake, tBits, Int.ofNat_inj, cast1, cast0, TruV, cxOf, Cx.nox, Cx.wish, tNever, tBreak, tCont, ipI, tDIn, tDNotIn, sDPut, tDNewT, tDNewK, tDGet, rSortedPO, rSortedI, rIn, rEqD, rNeD, rInD, rNotInD, tSSet, rIsV, rIntI, rIntB, rAbsN, tLstRg, tRg1, tRg2, List.append_nil, List.nil_append, List.cons_append, Option.some.injEq, exists_eq_left', exists_eq_left, exists_eq_right, exists_eq_right', List.getElem?_cons_zero, List.getElem?_cons_succ, List.set_cons_zero, List.set_cons_succ, List.cons.injEq, and_true, true_and, exists_and_left, exists_and_right, and_assoc, V.int.injEq, V.bl.injEq, V.ref.injEq, V.str.injEq, reduceCtorEq, decide_true, decide_false, Bool.not_true, Bool.not_false, Bool.false_eq_true, if_false, if_true, ite_true, ite_false, List.length_cons, List.length_nil])
    rw [odd_is]
    exact q H' sm
def sp_clashing (C : Addr) (K : PySem.W.Frag) : Sp := fun vs H Q _ => ∃ k n qs a ns, vs = [.ref k, .ref a] ∧ KeysAt C H k n qs ∧ GoodQ n qs ∧ Seq K H a (nvs ns) ∧ (ns.Nodup ∧ ∀ k ∈ ns, k < n) ∧
  ∀ H' p, Same H H' → H p = none → H' p = some (.tup (nvs (bits (nearOf (nearM n qs) (maskOf ns))))) → Q (.ref p) H'
theorem ok_clashing (T : Tx K mg) : FnOk P w K mg base CX0 5 T.a_clashing T.d_clashing ["keys", "lot"] (sp_clashing T.c_Keys K) := by
  refine T.F_clashing.ok sc_clashing (fun vs H Q E h => ?_) (fun cdv A outer s H vs Q E hr h => ?_)
  · obtain ⟨k, n, qs, a, ns, rfl, _⟩ := h
    rfl
  · obtain ⟨k, n, qs, a, ns, rfl, hk, hg, hs, hn, q⟩ := h
    refine ⟨_, (pss_cons (ps_expr (pe_call (ok_need_keys T) (hr.mono (by decide)) (by rfl) T.g_need_keys T.F_need_keys.kp T.b_need_keys .nil pass0 (pa_cons (pv 0) pa_nil)))
      (pss_cons (ps_set (i := 2) sc_clashing.nd rfl (Or.inl rfl) (pe_call (ok_need_lot T) (hr.mono (by decide)) (by rfl) T.g_need_lot T.F_need_lot.kp T.b_need_lot .nil pass0 (pa_cons (pv 1) (pa_cons (fldK (K := K) rfl (pv 0) rfl) pa_nil))))
      (pss_one (ps_ret (pe_call (ok_lot_of T) (hr.mono (by decide)) (by rfl) T.g_lot_of T.F_lot_of.kp T.b_lot_of .nil pass0 (pa_cons (pe_call (ok_near_of T) (hr.mono (by decide)) (by rfl) T.g_near_of T.F_near_of.kp T.b_near_of .nil pass0 (pa_cons (pe_call (ok_near_masks T) (hr.mono (by decide)) (by rfl) T.g_near_masks T.F_near_masks.kp T.b_near_masks .nil pass0 (pa_cons (pv 0) pa_nil)) (pa_cons (pv 2) pa_nil))) pa_nil)))))), ?_⟩
    rw [show L2.start ["keys", "lot", "mask"] [.ref k, .ref a] = [some (.ref k), some (.ref a), none] from rfl]
    (try simp only [tVar, tC, tOp, tUn, rI, rI0, rU, rEq, rNe, scal, tTest, tB, tAnd, tOr, tNot, tAndV, tOrV, tNotV, tIf, tChain, tNil, tCons, tCB, tCall, tTup, tLst, tRet, tRetN, tDrop, tSeq, tNext, tIfS, tAsg, gName, tPar, tPar3, gNil, gCons, gTup, gSub, tAug, tSl, tNoPart, tPart, tBM, tBM0, tYes, tIsP, iSeq, iEnumA, RZ.iZipA, iRng1, iRng2, iList, iTup, rIsi, rIsB, rIxL, rIxT, rIxA, rLenA, rListOf, rTupOf, rSetL, rSlL, rCat, rAppend, tFld, sFld, tMake, tBits, Int.ofNat_inj, cast1, cast0, TruV, cxOf, Cx.nox, Cx.wish, tNever, tBreak, tCont, ipI, tDIn, tDNotIn, sDPut, tDNewT, tDNewK, tDGet, rSortedPO, rSortedI, rIn, rEqD, rNeD, rInD, rNotInD, tSSet, rIsV, rIntI, rIntB, rAbsN, tLstRg, tRg1, tRg2, List.append_nil, List.nil_append, List.cons_append, Option.some.injEq, exists_eq_left', exists_eq_left, exists_eq_right, exists_eq_right', List.getElem?_cons_zero, List.getElem?_cons_succ, List.set_cons_zero, List.set_cons_succ, List.cons.injEq, and_true, true_and, exists_and_left, exists_and_right, and_assoc, V.int.injEq, V.bl.injEq, V.ref.injEq, V.str.injEq, reduceCtorEq, decide_true, decide_false, Bool.not_true, Bool.not_false, Bool.false_eq_true, if_false, if_true, ite_true, ite_false, List.length_cons, List.length_nil])
    obtain ⟨dx, t, ys, ek, et, hp⟩ := id hk
    refine ⟨k, dx, _, rfl, ek, ?_⟩
    (try simp only [tVar, tC, tOp, tUn, rI, rI0, rU, rEq, rNe, scal, tTest, tB, tAnd, tOr, tNot, tAndV, tOrV, tNotV, tIf, tChain, tNil, tCons, tCB, tCall, tTup, tLst, tRet, tRetN, tDrop, tSeq, tNext, tIfS, tAsg, gName, tPar, tPar3, gNil, gCons, gTup, gSub, tAug, tSl, tNoPart, tPart, tBM, tBM0, tYes, tIsP, iSeq, iEnumA, RZ.iZipA, iRng1, iRng2, iList, iTup, rIsi, rIsB, rIxL, rIxT, rIxA, rLenA, rListOf, rTupOf, rSetL, rSlL, rCat, rAppend, tFld, sFld, tMake, tBits, Int.ofNat_inj, cast1, cast0, TruV, cxOf, Cx.nox, Cx.wish, tNever, tBreak, tCont, ipI, tDIn, tDNotIn, sDPut, tDNewT, tDNewK, tDGet, rSortedPO, rSortedI, rIn, rEqD, rNeD, rInD, rNotInD, tSSet, rIsV, rIntI, rIntB, rAbsN, tLstRg, tRg1, tRg2, List.append_nil, List.nil_append, List.cons_append, Option.some.injEq, exists_eq_left', exists_eq_left, exists_eq_right, exists_eq_right', List.getElem?_cons_zero, List.getElem?_cons_succ, List.set_cons_zero, List.set_cons_succ, List.cons.injEq, and_true, true_and, exists_and_left, exists_and_right, and_assoc, V.int.injEq, V.bl.injEq, V.ref.injEq, V.str.injEq, reduceCtorEq, decide_true, decide_false, Bool.not_true, Bool.not_false, Bool.false_eq_true, if_false, if_true, ite_true, ite_false, List.length_cons, List.length_nil])
    refine ⟨_, _, _, ek, T.cl_Keys, T.na_many, _, rfl, ?_⟩
    (try simp only [tVar, tC, tOp, tUn, rI, rI0, rU, rEq, rNe, scal, tTest, tB, tAnd, tOr, tNot, tAndV, tOrV, tNotV, tIf, tChain, tNil, tCons, tCB, tCall, tTup, tLst, tRet, tRetN, tDrop, tSeq, tNext, tIfS, tAsg, gName, tPar, tPar3, gNil, gCons, gTup, gSub, tAug, tSl, tNoPart, tPart, tBM, tBM0, tYes, tIsP, iSeq, iEnumA, RZ.iZipA, iRng1, iRng2, iList, iTup, rIsi, rIsB, rIxL, rIxT, rIxA, rLenA, rListOf, rTupOf, rSetL, rSlL, rCat, rAppend, tFld, sFld, tMake, tBits, Int.ofNat_inj, cast1, cast0, TruV, cxOf, Cx.nox, Cx.wish, tNever, tBreak, tCont, ipI, tDIn, tDNotIn, sDPut, tDNewT, tDNewK, tDGet, rSortedPO, rSortedI, rIn, rEqD, rNeD, rInD, rNotInD, tSSet, rIsV, rIntI, rIntB, rAbsN, tLstRg, tRg1, tRg2, List.append_nil, List.nil_append, List.cons_append, Option.some.injEq, exists_eq_left', exists_eq_left, exists_eq_right, exists_eq_right', List.getElem?_cons_zero, List.getElem?_cons_succ, List.set_cons_zero, List.set_cons_succ, List.cons.injEq, and_true, true_and, exists_and_left, exists_and_right, and_assoc, V.int.injEq, V.bl.injEq, V.ref.injEq, V.str.injEq, reduceCtorEq, decide_true, decide_false, Bool.not_true, Bool.not_false, Bool.false_eq_true, if_false, if_true, ite_true, ite_false, List.length_cons, List.length_nil])
    have ln : ns.length ≤ n := nd_len hn.1 hn.2
    have h12 := hg.1
    refine ⟨_, _, _, rfl, hs, hn, by omega, by omega, fun H1 s1 => ?_⟩
    (try simp only [tVar, tC, tOp, tUn, rI, rI0, rU, rEq, rNe, scal, tTest, tB, tAnd, tOr, tNot, tAndV, tOrV, tNotV, tIf, tChain, tNil, tCons, tCB, tCall, tTup, tLst, tRet, tRetN, tDrop, tSeq, tNext, tIfS, tAsg, gName, tPar, tPar3, gNil, gCons, gTup, gSub, tAug, tSl, tNoPart, tPart, tBM, tBM0, tYes, tIsP, iSeq, iEnumA, RZ.iZipA, iRng1, iRng2, iList, iTup, rIsi, rIsB, rIxL, rIxT, rIxA, rLenA, rListOf, rTupOf, rSetL, rSlL, rCat, rAppend, tFld, sFld, tMake, tBits, Int.ofNat_inj, cast1, cast0, TruV, cxOf, Cx.nox, Cx.wish, tNever, tBreak, tCont, ipI, tDIn, tDNotIn, sDPut, tDNewT, tDNewK, tDGet, rSortedPO, rSortedI, rIn, rEqD, rNeD, rInD, rNotInD, tSSet, rIsV, rIntI, rIntB, rAbsN, tLstRg, tRg1, tRg2, List.append_nil, List.nil_append, List.cons_append, Option.some.injEq, exists_eq_left', exists_eq_left, exists_eq_right, exists_eq_right', List.getElem?_cons_zero, List.getElem?_cons_succ, List.set_cons_zero, List.set_cons_succ, List.cons.injEq, and_true, true_and, exists_and_left, exists_and_right, and_assoc, V.int.injEq, V.bl.injEq, V.ref.injEq, V.str.injEq, reduceCtorEq, decide_true, decide_false, Bool.not_true, Bool.not_false, Bool.false_eq_true, if_false, if_true, ite_true, ite_false, List.length_cons, List.length_nil])
    refine ⟨_, _, _, rfl, hk.same s1, hg.1, hg.2, fun H2 p s2 hp2 ep => ?_⟩
    (try simp only [tVar, tC, tOp, tUn, rI, rI0, rU, rEq, rNe, scal, tTest, tB, tAnd, tOr, tNot, tAndV, tOrV, tNotV, tIf, tChain, tNil, tCons, tCB, tCall, tTup, tLst, tRet, tRetN, tDrop, tSeq, tNext, tIfS, tAsg, gName, tPar, tPar3, gNil, gCons, gTup, gSub, tAug, tSl, tNoPart, tPart, tBM, tBM0, tYes, tIsP, iSeq, iEnumA, RZ.iZipA, iRng1, iRng2, iList, iTup, rIsi, rIsB, rIxL, rIxT, rIxA, rLenA, rListOf, rTupOf, rSetL, rSlL, rCat, rAppend, tFld, sFld, tMake, tBits, Int.ofNat_inj, cast1, cast0, TruV, cxOf, Cx.nox, Cx.wish, tNever, tBreak, tCont, ipI, tDIn, tDNotIn, sDPut, tDNewT, tDNewK, tDGet, rSortedPO, rSortedI, rIn, rEqD, rNeD, rInD, rNotInD, tSSet, rIsV, rIntI, rIntB, rAbsN, tLstRg, tRg1, tRg2, List.append_nil, List.nil_append, List.cons_append, Option.some.injEq, exists_eq_left', exists_eq_left, exists_eq_right, exists_eq_right', List.getElem?_cons_zero, List.getElem?_cons_succ, List.set_cons_zero, List.set_cons_succ, List.cons.injEq, and_true, true_and, exists_and_left, exists_and_right, and_assoc, V.int.injEq, V.bl.injEq, V.ref.injEq, V.str.injEq, reduceCtorEq, decide_true, decide_false, Bool.not_true, Bool.not_false, Bool.false_eq_true, if_false, if_true, ite_true, ite_false, List.length_cons, List.length_nil])
    have hm := maskOf_lt hn.2
    refine ⟨_, _, _, rfl, .of ep, by rw [near_len]; omega, by rw [near_len]; exact hm, fun H3 s3 => ?_⟩
    (try simp only [tVar, tC, tOp, tUn, rI, rI0, rU, rEq, rNe, scal, tTest, tB, tAnd, tOr, tNot, tAndV, tOrV, tNotV, tIf, tChain, tNil, tCons, tCB, tCall, tTup, tLst, tRet, tRetN, tDrop, tSeq, tNext, tIfS, tAsg, gName, tPar, tPar3, gNil, gCons, gTup, gSub, tAug, tSl, tNoPart, tPart, tBM, tBM0, tYes, tIsP, iSeq, iEnumA, RZ.iZipA, iRng1, iRng2, iList, iTup, rIsi, rIsB, rIxL, rIxT, rIxA, rLenA, rListOf, rTupOf, rSetL, rSlL, rCat, rAppend, tFld, sFld, tMake, tBits, Int.ofNat_inj, cast1, cast0, TruV, cxOf, Cx.nox, Cx.wish, tNever, tBreak, tCont, ipI, tDIn, tDNotIn, sDPut, tDNewT, tDNewK, tDGet, rSortedPO, rSortedI, rIn, rEqD, rNeD, rInD, rNotInD, tSSet, rIsV, rIntI, rIntB, rAbsN, tLstRg, tRg1, tRg2, List.append_nil, List.nil_append, List.cons_append, Option.some.injEq, exists_eq_left', exists_eq_left, exists_eq_right, exists_eq_right', List.getElem?_cons_zero, List.getElem?_cons_succ, List.set_cons_zero, List.set_cons_succ, List.cons.injEq, and_true, true_and, exists_and_left, exists_and_right, and_assoc, V.int.injEq, V.bl.injEq, V.ref.injEq, V.str.injEq, reduceCtorEq, decide_true, decide_false, Bool.not_true, Bool.not_false, Bool.false_eq_true, if_false, if_true, ite_true, ite_false, List.length_cons, List.length_nil])
    refine ⟨_, rfl, Nat.lt_of_lt_of_le (nearOf_lt hg) (Nat.pow_le_pow_right (by decide) (by omega)), fun H4 r s4 hr4 er => ?_⟩
    exact q _ r (((s1.trans s2).trans s3).trans s4) (back ((s1.trans s2).trans s3) hr4) er
def sp_bare_keys (C : Addr) : Sp := fun vs H Q _ => ∃ k n qs, vs = [.ref k] ∧ KeysAt C H k n qs ∧ GoodQ n qs ∧
  ∀ H' p, Same H H' → H p = none → H' p = some (.tup (nvs ((List.range n).filter fun i => (nearM n qs).getD i 0 == 0))) → Q (.ref p) H'
theorem ok_bare_keys (T : Tx K mg) : FnOk P w K mg base CX0 2 T.a_bare_keys T.d_bare_keys ["keys"] (sp_bare_keys T.c_Keys) := by
  refine T.F_bare_keys.ok sc_bare_keys (fun vs H Q E h => ?_) (fun cdv A outer s H vs Q E hr h => ?_)
  · obtain ⟨k, n, qs, rfl, _⟩ := h
    rfl
  · obtain ⟨k, n, qs, rfl, hk, hg, q⟩ := h
    refine ⟨_, (pss_cons (ps_expr (pe_call (ok_need_keys T) (hr.mono (by decide)) (by rfl) T.g_need_keys T.F_need_keys.kp T.b_need_keys .nil pass0 (pa_cons (pv 0) pa_nil)))
      (pss_cons (ps_set (i := 1) sc_bare_keys.nd rfl (Or.inr rfl) (pe_call (ok_near_masks T) (hr.mono (by decide)) (by rfl) T.g_near_masks T.F_near_masks.kp T.b_near_masks .nil pass0 (pa_cons (pv 0) pa_nil)))
      (pss_one (ps_ret (pe_callTy (tupOfK (K := K) rfl) (by rfl) T.n_tuple (by decide +kernel) (pa_cons (pe_lc (own := [("key", 2)]) (by rfl) sc_bare_keys.nd (pi_range1 (by rfl) T.n_range (pa_cons (fldK (K := K) rfl (pv 0) rfl) pa_nil)) (blkOk_by (own := [("key", 2)]) (N := ["keys", "near", "key"]) (sc := defScope s_bare_keys) (by decide +kernel)) (fun _ _ _ _ _ => (pg_name (i := 2) sc_bare_keys.nd rfl (by first | exact Or.inl rfl | exact Or.inr rfl))) (fun _ _ _ _ _ => (pts_one (pt_cmpR op_eq (pe_ix (ixL (K := K) rfl) (pv 1) (pv 2) (fun _ _ => rfl)) pe_int (nomark _)))) (fun _ _ _ _ _ => (pv 2))) pa_nil)))))), ?_⟩
    rw [show L2.start ["keys", "near", "key"] [.ref k] = [some (.ref k), none, none] from rfl]
    generalize hL1 : tLc _ _ _ _ _ = L1
    (try simp only [tVar, tC, tOp, tUn, rI, rI0, rU, rEq, rNe, scal, tTest, tB, tAnd, tOr, tNot, tAndV, tOrV, tNotV, tIf, tChain, tNil, tCons, tCB, tCall, tTup, tLst, tRet, tRetN, tDrop, tSeq, tNext, tIfS, tAsg, gName, tPar, tPar3, gNil, gCons, gTup, gSub, tAug, tSl, tNoPart, tPart, tBM, tBM0, tYes, tIsP, iSeq, iEnumA, RZ.iZipA, iRng1, iRng2, iList, iTup, rIsi, rIsB, rIxL, rIxT, rIxA, rLenA, rListOf, rTupOf, rSetL, rSlL, rCat, rAppend, tFld, sFld, tMake, tBits, Int.ofNat_inj, cast1, cast0, TruV, cxOf, Cx.nox, Cx.wish, tNever, tBreak, tCont, ipI, tDIn, tDNotIn, sDPut, tDNewT, tDNewK, tDGet, rSortedPO, rSortedI, rIn, rEqD, rNeD, rInD, rNotInD, tSSet, rIsV, rIntI, rIntB, rAbsN, tLstRg, tRg1, tRg2, List.append_nil, List.nil_append, List.cons_append, Option.some.injEq, exists_eq_left', exists_eq_left, exists_eq_right, exists_eq_right', List.getElem?_cons_zero, List.getElem?_cons_succ, List.set_cons_zero, List.set_cons_succ, List.cons.injEq, and_true, true_and, exists_and_left, exists_and_right, and_assoc, V.int.injEq, V.bl.injEq, V.ref.injEq, V.str.injEq, reduceCtorEq, decide_true, decide_false, Bool.not_true, Bool.not_false, Bool.false_eq_true, if_false, if_true, ite_true, ite_false, List.length_cons, List.length_nil])
    obtain ⟨dx, t, ys, ek, et, hp⟩ := id hk
    refine ⟨k, dx, _, rfl, ek, ?_⟩
    (try simp only [tVar, tC, tOp, tUn, rI, rI0, rU, rEq, rNe, scal, tTest, tB, tAnd, tOr, tNot, tAndV, tOrV, tNotV, tIf, tChain, tNil, tCons, tCB, tCall, tTup, tLst, tRet, tRetN, tDrop, tSeq, tNext, tIfS, tAsg, gName, tPar, tPar3, gNil, gCons, gTup, gSub, tAug, tSl, tNoPart, tPart, tBM, tBM0, tYes, tIsP, iSeq, iEnumA, RZ.iZipA, iRng1, iRng2, iList, iTup, rIsi, rIsB, rIxL, rIxT, rIxA, rLenA, rListOf, rTupOf, rSetL, rSlL, rCat, rAppend, tFld, sFld, tMake, tBits, Int.ofNat_inj, cast1, cast0, TruV, cxOf, Cx.nox, Cx.wish, tNever, tBreak, tCont, ipI, tDIn, tDNotIn, sDPut, tDNewT, tDNewK, tDGet, rSortedPO, rSortedI, rIn, rEqD, rNeD, rInD, rNotInD, tSSet, rIsV, rIntI, rIntB, rAbsN, tLstRg, tRg1, tRg2, List.append_nil, List.nil_append, List.cons_append, Option.some.injEq, exists_eq_left', exists_eq_left, exists_eq_right, exists_eq_right', List.getElem?_cons_zero, List.getElem?_cons_succ, List.set_cons_zero, List.set_cons_succ, List.cons.injEq, and_true, true_and, exists_and_left, exists_and_right, and_assoc, V.int.injEq, V.bl.injEq, V.ref.injEq, V.str.injEq, reduceCtorEq, decide_true, decide_false, Bool.not_true, Bool.not_false, Bool.false_eq_true, if_false, if_true, ite_true, ite_false, List.length_cons, List.length_nil])
    refine ⟨_, _, _, rfl, hk, hg.1, hg.2, fun H2 p s2 hp2 ep => ?_⟩
    (try simp only [tVar, tC, tOp, tUn, rI, rI0, rU, rEq, rNe, scal, tTest, tB, tAnd, tOr, tNot, tAndV, tOrV, tNotV, tIf, tChain, tNil, tCons, tCB, tCall, tTup, tLst, tRet, tRetN, tDrop, tSeq, tNext, tIfS, tAsg, gName, tPar, tPar3, gNil, gCons, gTup, gSub, tAug, tSl, tNoPart, tPart, tBM, tBM0, tYes, tIsP, iSeq, iEnumA, RZ.iZipA, iRng1, iRng2, iList, iTup, rIsi, rIsB, rIxL, rIxT, rIxA, rLenA, rListOf, rTupOf, rSetL, rSlL, rCat, rAppend, tFld, sFld, tMake, tBits, Int.ofNat_inj, cast1, cast0, TruV, cxOf, Cx.nox, Cx.wish, tNever, tBreak, tCont, ipI, tDIn, tDNotIn, sDPut, tDNewT, tDNewK, tDGet, rSortedPO, rSortedI, rIn, rEqD, rNeD, rInD, rNotInD, tSSet, rIsV, rIntI, rIntB, rAbsN, tLstRg, tRg1, tRg2, List.append_nil, List.nil_append, List.cons_append, Option.some.injEq, exists_eq_left', exists_eq_left, exists_eq_right, exists_eq_right', List.getElem?_cons_zero, List.getElem?_cons_succ, List.set_cons_zero, List.set_cons_succ, List.cons.injEq, and_true, true_and, exists_and_left, exists_and_right, and_assoc, V.int.injEq, V.bl.injEq, V.ref.injEq, V.str.injEq, reduceCtorEq, decide_true, decide_false, Bool.not_true, Bool.not_false, Bool.false_eq_true, if_false, if_true, ite_true, ite_false, List.length_cons, List.length_nil])
    subst hL1
    have h12 := hg.1
    refine lcR1 n (fun i => (nearM n qs).getD i 0 == 0) nv (fun R h => ?_) (by omega) (fun i H' Q1 Q2 hi e q1 q2 => ?_) fun L hL => ?_
    · (try simp only [tVar, tC, tOp, tUn, rI, rI0, rU, rEq, rNe, scal, tTest, tB, tAnd, tOr, tNot, tAndV, tOrV, tNotV, tIf, tChain, tNil, tCons, tCB, tCall, tTup, tLst, tRet, tRetN, tDrop, tSeq, tNext, tIfS, tAsg, gName, tPar, tPar3, gNil, gCons, gTup, gSub, tAug, tSl, tNoPart, tPart, tBM, tBM0, tYes, tIsP, iSeq, iEnumA, RZ.iZipA, iRng1, iRng2, iList, iTup, rIsi, rIsB, rIxL, rIxT, rIxA, rLenA, rListOf, rTupOf, rSetL, rSlL, rCat, rAppend, tFld, sFld, tMake, tBits, Int.ofNat_inj, cast1, cast0, TruV, cxOf, Cx.nox, Cx.wish, tNever, tBreak, tCont, ipI, tDIn, tDNotIn, sDPut, tDNewT, tDNewK, tDGet, rSortedPO, rSortedI, rIn, rEqD, rNeD, rInD, rNotInD, tSSet, rIsV, rIntI, rIntB, rAbsN, tLstRg, tRg1, tRg2, List.append_nil, List.nil_append, List.cons_append, Option.some.injEq, exists_eq_left', exists_eq_left, exists_eq_right, exists_eq_right', List.getElem?_cons_zero, List.getElem?_cons_succ, List.set_cons_zero, List.set_cons_succ, List.cons.injEq, and_true, true_and, exists_and_left, exists_and_right, and_assoc, V.int.injEq, V.bl.injEq, V.ref.injEq, V.str.injEq, reduceCtorEq, decide_true, decide_false, Bool.not_true, Bool.not_false, Bool.false_eq_true, if_false, if_true, ite_true, ite_false, List.length_cons, List.length_nil])
      exact ⟨_, _, _, s2 _ _ ek, T.cl_Keys, T.na_many, _, rfl, h⟩
    · (try simp only [tVar, tC, tOp, tUn, rI, rI0, rU, rEq, rNe, scal, tTest, tB, tAnd, tOr, tNot, tAndV, tOrV, tNotV, tIf, tChain, tNil, tCons, tCB, tCall, tTup, tLst, tRet, tRetN, tDrop, tSeq, tNext, tIfS, tAsg, gName, tPar, tPar3, gNil, gCons, gTup, gSub, tAug, tSl, tNoPart, tPart, tBM, tBM0, tYes, tIsP, iSeq, iEnumA, RZ.iZipA, iRng1, iRng2, iList, iTup, rIsi, rIsB, rIxL, rIxT, rIxA, rLenA, rListOf, rTupOf, rSetL, rSlL, rCat, rAppend, tFld, sFld, tMake, tBits, Int.ofNat_inj, cast1, cast0, TruV, cxOf, Cx.nox, Cx.wish, tNever, tBreak, tCont, ipI, tDIn, tDNotIn, sDPut, tDNewT, tDNewK, tDGet, rSortedPO, rSortedI, rIn, rEqD, rNeD, rInD, rNotInD, tSSet, rIsV, rIntI, rIntB, rAbsN, tLstRg, tRg1, tRg2, List.append_nil, List.nil_append, List.cons_append, Option.some.injEq, exists_eq_left', exists_eq_left, exists_eq_right, exists_eq_right', List.getElem?_cons_zero, List.getElem?_cons_succ, List.set_cons_zero, List.set_cons_succ, List.cons.injEq, and_true, true_and, exists_and_left, exists_and_right, and_assoc, V.int.injEq, V.bl.injEq, V.ref.injEq, V.str.injEq, reduceCtorEq, decide_true, decide_false, Bool.not_true, Bool.not_false, Bool.false_eq_true, if_false, if_true, ite_true, ite_false, List.length_cons, List.length_nil])
      refine ⟨_, .inl (.of (e _ _ ep)), _, nvs_ix (by rw [near_len]; exact hi), ?_⟩
      (try simp only [tVar, tC, tOp, tUn, rI, rI0, rU, rEq, rNe, scal, tTest, tB, tAnd, tOr, tNot, tAndV, tOrV, tNotV, tIf, tChain, tNil, tCons, tCB, tCall, tTup, tLst, tRet, tRetN, tDrop, tSeq, tNext, tIfS, tAsg, gName, tPar, tPar3, gNil, gCons, gTup, gSub, tAug, tSl, tNoPart, tPart, tBM, tBM0, tYes, tIsP, iSeq, iEnumA, RZ.iZipA, iRng1, iRng2, iList, iTup, rIsi, rIsB, rIxL, rIxT, rIxA, rLenA, rListOf, rTupOf, rSetL, rSlL, rCat, rAppend, tFld, sFld, tMake, tBits, Int.ofNat_inj, cast1, cast0, TruV, cxOf, Cx.nox, Cx.wish, tNever, tBreak, tCont, ipI, tDIn, tDNotIn, sDPut, tDNewT, tDNewK, tDGet, rSortedPO, rSortedI, rIn, rEqD, rNeD, rInD, rNotInD, tSSet, rIsV, rIntI, rIntB, rAbsN, tLstRg, tRg1, tRg2, List.append_nil, List.nil_append, List.cons_append, Option.some.injEq, exists_eq_left', exists_eq_left, exists_eq_right, exists_eq_right', List.getElem?_cons_zero, List.getElem?_cons_succ, List.set_cons_zero, List.set_cons_succ, List.cons.injEq, and_true, true_and, exists_and_left, exists_and_right, and_assoc, V.int.injEq, V.bl.injEq, V.ref.injEq, V.str.injEq, reduceCtorEq, decide_true, decide_false, Bool.not_true, Bool.not_false, Bool.false_eq_true, if_false, if_true, ite_true, ite_false, List.length_cons, List.length_nil])
      rw [show decide (((nearM n qs).getD i 0 : Int) = 0) = ((nearM n qs).getD i 0 == 0) by rw [Bool.eq_iff_iff, decide_eq_true_eq, beq_iff_eq]; omega]
      cases ht : (nearM n qs).getD i 0 == 0
      · exact q2 ht
      · exact q1 ht
    · (try simp only [tVar, tC, tOp, tUn, rI, rI0, rU, rEq, rNe, scal, tTest, tB, tAnd, tOr, tNot, tAndV, tOrV, tNotV, tIf, tChain, tNil, tCons, tCB, tCall, tTup, tLst, tRet, tRetN, tDrop, tSeq, tNext, tIfS, tAsg, gName, tPar, tPar3, gNil, gCons, gTup, gSub, tAug, tSl, tNoPart, tPart, tBM, tBM0, tYes, tIsP, iSeq, iEnumA, RZ.iZipA, iRng1, iRng2, iList, iTup, rIsi, rIsB, rIxL, rIxT, rIxA, rLenA, rListOf, rTupOf, rSetL, rSlL, rCat, rAppend, tFld, sFld, tMake, tBits, Int.ofNat_inj, cast1, cast0, TruV, cxOf, Cx.nox, Cx.wish, tNever, tBreak, tCont, ipI, tDIn, tDNotIn, sDPut, tDNewT, tDNewK, tDGet, rSortedPO, rSortedI, rIn, rEqD, rNeD, rInD, rNotInD, tSSet, rIsV, rIntI, rIntB, rAbsN, tLstRg, tRg1, tRg2, List.append_nil, List.nil_append, List.cons_append, Option.some.injEq, exists_eq_left', exists_eq_left, exists_eq_right, exists_eq_right', List.getElem?_cons_zero, List.getElem?_cons_succ, List.set_cons_zero, List.set_cons_succ, List.cons.injEq, and_true, true_and, exists_and_left, exists_and_right, and_assoc, V.int.injEq, V.bl.injEq, V.ref.injEq, V.str.injEq, reduceCtorEq, decide_true, decide_false, Bool.not_true, Bool.not_false, Bool.false_eq_true, if_false, if_true, ite_true, ite_false, List.length_cons, List.length_nil])
      exact ⟨_, .inl ⟨.of upd_same, fun l hl => q _ l (s2.trans (Same.mk2 hL hl)) (back (s2.trans (same_new hL)) hl) upd_same⟩⟩
end
end Kr
namespace Kr
open PySem PySem.Spec PyProof.Rows L2 Kb
section
variable {P : Program} {w : World} {K : PySem.W.Frag} {mg : Str → Option Value} {base : Heap}
theorem filter_range {p : Nat → Bool} {a b : Nat} (ha : ∀ k, p k = true → k < a) (hb : ∀ k, p k = true → k < b) : (List.range a).filter p = (List.range b).filter p := by
  have go : ∀ d a, (∀ k, p k = true → k < a) → (List.range (a + d)).filter p = (List.range a).filter p := by
    intro d
    induction d with
    | zero => intro a _; rfl
    | succ d ih =>
      intro a h
      rw [← Nat.add_assoc, List.range_succ, List.filter_append, ih a h, List.filter_cons, List.filter_nil, if_neg (fun e => by have := h _ e; omega), List.append_nil]
  rcases Nat.le_total a b with h | h
  · rw [← go (b - a) a ha, show a + (b - a) = b by omega]
  · rw [← go (a - b) b hb, show b + (a - b) = a by omega]
theorem bits_range {m n : Nat} (h : m < 2 ^ n) (h2 : m < 2 ^ 62) : (List.range n).filter m.testBit = bits m := by
  refine filter_range (fun k e => ?_) (fun k e => ?_)
  · exact bits_below h ((mem_bits h2).mpr e)
  · have := (mem_bits h2).mpr e
    unfold bits at this
    exact List.mem_range.mp (List.mem_filter.mp this).1
def sp_law_lot (K : PySem.W.Frag) : Sp := fun vs H Q _ => ∃ m : Nat, vs = [nv m] ∧ m < 2 ^ 12 ∧ ∀ H' p, Same H H' → H p = none → H' p = some (.tup (nvs (bits m))) → Q (.ref p) H'
theorem ok__law_lot (T : Tx K mg) : FnOk P w K mg base CX0 1 T.a__law_lot T.d__law_lot ["mask"] (sp_law_lot K) := by
  refine T.F__law_lot.ok sc__law_lot (fun vs H Q E h => ?_) (fun cdv A outer s H vs Q E hr h => ?_)
  · obtain ⟨m, rfl, _⟩ := h
    rfl
  · obtain ⟨m, rfl, hm, q⟩ := h
    refine ⟨_, (pss_one (ps_ret (pe_callTy (tupOfK (K := K) rfl) (by rfl) T.n_tuple (by decide +kernel) (pa_cons (pe_lc (own := [("key", 1)]) (by rfl) sc__law_lot.nd (pi_range1 (by rfl) T.n_range (pa_cons pe_int pa_nil)) (blkOk_by (own := [("key", 1)]) (N := ["mask", "key"]) (sc := defScope s__law_lot) (by decide +kernel)) (fun _ _ _ _ _ => (pg_name (i := 1) sc__law_lot.nd rfl (by first | exact Or.inl rfl | exact Or.inr rfl))) (fun _ _ _ _ _ => (pts_one (truthK (K := K) rfl (pe_op op_andU (pe_op op_shrU (pv 0) (pv 1)) pe_int) (by intro _; rfl)))) (fun _ _ _ _ _ => (pv 1))) pa_nil)))), ?_⟩
    rw [show L2.start ["mask", "key"] [nv m] = [some (nv m), none] from rfl]
    generalize hL1 : tLc _ _ _ _ _ = L1
    (try simp only [tVar, tC, tOp, tUn, rI, rI0, rU, rEq, rNe, scal, tTest, tB, tAnd, tOr, tNot, tAndV, tOrV, tNotV, tIf, tChain, tNil, tCons, tCB, tCall, tTup, tLst, tRet, tRetN, tDrop, tSeq, tNext, tIfS, tAsg, gName, tPar, tPar3, gNil, gCons, gTup, gSub, tAug, tSl, tNoPart, tPart, tBM, tBM0, tYes, tIsP, iSeq, iEnumA, RZ.iZipA, iRng1, iRng2, iList, iTup, rIsi, rIsB, rIxL, rIxT, rIxA, rLenA, rListOf, rTupOf, rSetL, rSlL, rCat, rAppend, tFld, sFld, tMake, tBits, Int.ofNat_inj, cast1, cast0, TruV, cxOf, Cx.nox, Cx.wish, tNever, tBreak, tCont, ipI, tDIn, tDNotIn, sDPut, tDNewT, tDNewK, tDGet, rSortedPO, rSortedI, rIn, rEqD, rNeD, rInD, rNotInD, tSSet, rIsV, rIntI, rIntB, rAbsN, tLstRg, tRg1, tRg2, List.append_nil, List.nil_append, List.cons_append, Option.some.injEq, exists_eq_left', exists_eq_left, exists_eq_right, exists_eq_right', List.getElem?_cons_zero, List.getElem?_cons_succ, List.set_cons_zero, List.set_cons_succ, List.cons.injEq, and_true, true_and, exists_and_left, exists_and_right, and_assoc, V.int.injEq, V.bl.injEq, V.ref.injEq, V.str.injEq, reduceCtorEq, decide_true, decide_false, Bool.not_true, Bool.not_false, Bool.false_eq_true, if_false, if_true, ite_true, ite_false, List.length_cons, List.length_nil])
    subst hL1
    refine lcR1 12 m.testBit nv (fun R h => ?_) (by decide) (fun i H' Q1 Q2 hi e q1 q2 => ?_) fun L hL => ?_
    · (try simp only [tVar, tC, tOp, tUn, rI, rI0, rU, rEq, rNe, scal, tTest, tB, tAnd, tOr, tNot, tAndV, tOrV, tNotV, tIf, tChain, tNil, tCons, tCB, tCall, tTup, tLst, tRet, tRetN, tDrop, tSeq, tNext, tIfS, tAsg, gName, tPar, tPar3, gNil, gCons, gTup, gSub, tAug, tSl, tNoPart, tPart, tBM, tBM0, tYes, tIsP, iSeq, iEnumA, RZ.iZipA, iRng1, iRng2, iList, iTup, rIsi, rIsB, rIxL, rIxT, rIxA, rLenA, rListOf, rTupOf, rSetL, rSlL, rCat, rAppend, tFld, sFld, tMake, tBits, Int.ofNat_inj, cast1, cast0, TruV, cxOf, Cx.nox, Cx.wish, tNever, tBreak, tCont, ipI, tDIn, tDNotIn, sDPut, tDNewT, tDNewK, tDGet, rSortedPO, rSortedI, rIn, rEqD, rNeD, rInD, rNotInD, tSSet, rIsV, rIntI, rIntB, rAbsN, tLstRg, tRg1, tRg2, List.append_nil, List.nil_append, List.cons_append, Option.some.injEq, exists_eq_left', exists_eq_left, exists_eq_right, exists_eq_right', List.getElem?_cons_zero, List.getElem?_cons_succ, List.set_cons_zero, List.set_cons_succ, List.cons.injEq, and_true, true_and, exists_and_left, exists_and_right, and_assoc, V.int.injEq, V.bl.injEq, V.ref.injEq, V.str.injEq, reduceCtorEq, decide_true, decide_false, Bool.not_true, Bool.not_false, Bool.false_eq_true, if_false, if_true, ite_true, ite_false, List.length_cons, List.length_nil])
      exact h
    · (try simp only [tVar, tC, tOp, tUn, rI, rI0, rU, rEq, rNe, scal, tTest, tB, tAnd, tOr, tNot, tAndV, tOrV, tNotV, tIf, tChain, tNil, tCons, tCB, tCall, tTup, tLst, tRet, tRetN, tDrop, tSeq, tNext, tIfS, tAsg, gName, tPar, tPar3, gNil, gCons, gTup, gSub, tAug, tSl, tNoPart, tPart, tBM, tBM0, tYes, tIsP, iSeq, iEnumA, RZ.iZipA, iRng1, iRng2, iList, iTup, rIsi, rIsB, rIxL, rIxT, rIxA, rLenA, rListOf, rTupOf, rSetL, rSlL, rCat, rAppend, tFld, sFld, tMake, tBits, Int.ofNat_inj, cast1, cast0, TruV, cxOf, Cx.nox, Cx.wish, tNever, tBreak, tCont, ipI, tDIn, tDNotIn, sDPut, tDNewT, tDNewK, tDGet, rSortedPO, rSortedI, rIn, rEqD, rNeD, rInD, rNotInD, tSSet, rIsV, rIntI, rIntB, rAbsN, tLstRg, tRg1, tRg2, List.append_nil, List.nil_append, List.cons_append, Option.some.injEq, exists_eq_left', exists_eq_left, exists_eq_right, exists_eq_right', List.getElem?_cons_zero, List.getElem?_cons_succ, List.set_cons_zero, List.set_cons_succ, List.cons.injEq, and_true, true_and, exists_and_left, exists_and_right, and_assoc, V.int.injEq, V.bl.injEq, V.ref.injEq, V.str.injEq, reduceCtorEq, decide_true, decide_false, Bool.not_true, Bool.not_false, Bool.false_eq_true, if_false, if_true, ite_true, ite_false, List.length_cons, List.length_nil])
      rw [odd_test]
      cases ht : m.testBit i
      · exact q2 ht
      · exact q1 ht
    · (try simp only [tVar, tC, tOp, tUn, rI, rI0, rU, rEq, rNe, scal, tTest, tB, tAnd, tOr, tNot, tAndV, tOrV, tNotV, tIf, tChain, tNil, tCons, tCB, tCall, tTup, tLst, tRet, tRetN, tDrop, tSeq, tNext, tIfS, tAsg, gName, tPar, tPar3, gNil, gCons, gTup, gSub, tAug, tSl, tNoPart, tPart, tBM, tBM0, tYes, tIsP, iSeq, iEnumA, RZ.iZipA, iRng1, iRng2, iList, iTup, rIsi, rIsB, rIxL, rIxT, rIxA, rLenA, rListOf, rTupOf, rSetL, rSlL, rCat, rAppend, tFld, sFld, tMake, tBits, Int.ofNat_inj, cast1, cast0, TruV, cxOf, Cx.nox, Cx.wish, tNever, tBreak, tCont, ipI, tDIn, tDNotIn, sDPut, tDNewT, tDNewK, tDGet, rSortedPO, rSortedI, rIn, rEqD, rNeD, rInD, rNotInD, tSSet, rIsV, rIntI, rIntB, rAbsN, tLstRg, tRg1, tRg2, List.append_nil, List.nil_append, List.cons_append, Option.some.injEq, exists_eq_left', exists_eq_left, exists_eq_right, exists_eq_right', List.getElem?_cons_zero, List.getElem?_cons_succ, List.set_cons_zero, List.set_cons_succ, List.cons.injEq, and_true, true_and, exists_and_left, exists_and_right, and_assoc, V.int.injEq, V.bl.injEq, V.ref.injEq, V.str.injEq, reduceCtorEq, decide_true, decide_false, Bool.not_true, Bool.not_false, Bool.false_eq_true, if_false, if_true, ite_true, ite_false, List.length_cons, List.length_nil])
      rw [bits_range hm (Nat.lt_trans hm (by decide))]
      exact ⟨_, .inl ⟨.of upd_same, fun l hl => q _ l (Same.mk2 hL hl) (back (same_new hL) hl) upd_same⟩⟩
def sp_law_mask (K : PySem.W.Frag) : Sp := fun vs H Q _ => ∃ a ns, vs = [.ref a] ∧ Seq K H a (nvs ns) ∧ (∀ n ∈ ns, n < 64) ∧ Q (nv (maskOf ns)) H
theorem ok__law_mask (T : Tx K mg) : FnOk P w K mg base CX0 1 T.a__law_mask T.d__law_mask ["lot"] (sp_law_mask K) := by
  refine T.F__law_mask.ok sc__law_mask (fun vs H Q E h => ?_) (fun cdv A outer s H vs Q E hr h => ?_)
  · obtain ⟨a, ns, rfl, _⟩ := h
    rfl
  · obtain ⟨a, ns, rfl, hs, hn, q⟩ := h
    refine ⟨_, (pss_cons (ps_set (i := 1) sc__law_mask.nd rfl (Or.inl rfl) pe_int)
      (pss_cons (ps_for PassesOwn.never rfl (pseqK (K := K) rfl (pv 0)) (pg_name (i := 2) sc__law_mask.nd rfl (Or.inl rfl)) (pss_one (ps_set (i := 1) sc__law_mask.nd rfl (Or.inl rfl) (pe_op op_orU (pv 1) (pe_op op_shlU pe_int (pv 2))))))
      (pss_one (ps_ret (pv 1))))), ?_⟩
    rw [show L2.start ["lot", "mask", "key"] [.ref a] = [some (.ref a), none, none] from rfl]
    generalize hF1 : tFor _ _ _ = F1
    (try simp only [tVar, tC, tOp, tUn, rI, rI0, rU, rEq, rNe, scal, tTest, tB, tAnd, tOr, tNot, tAndV, tOrV, tNotV, tIf, tChain, tNil, tCons, tCB, tCall, tTup, tLst, tRet, tRetN, tDrop, tSeq, tNext, tIfS, tAsg, gName, tPar, tPar3, gNil, gCons, gTup, gSub, tAug, tSl, tNoPart, tPart, tBM, tBM0, tYes, tIsP, iSeq, iEnumA, RZ.iZipA, iRng1, iRng2, iList, iTup, rIsi, rIsB, rIxL, rIxT, rIxA, rLenA, rListOf, rTupOf, rSetL, rSlL, rCat, rAppend, tFld, sFld, tMake, tBits, Int.ofNat_inj, cast1, cast0, TruV, cxOf, Cx.nox, Cx.wish, tNever, tBreak, tCont, ipI, tDIn, tDNotIn, sDPut, tDNewT, tDNewK, tDGet, rSortedPO, rSortedI, rIn, rEqD, rNeD, rInD, rNotInD, tSSet, rIsV, rIntI, rIntB, rAbsN, tLstRg, tRg1, tRg2, List.append_nil, List.nil_append, List.cons_append, Option.some.injEq, exists_eq_left', exists_eq_left, exists_eq_right, exists_eq_right', List.getElem?_cons_zero, List.getElem?_cons_succ, List.set_cons_zero, List.set_cons_succ, List.cons.injEq, and_true, true_and, exists_and_left, exists_and_right, and_assoc, V.int.injEq, V.bl.injEq, V.ref.injEq, V.str.injEq, reduceCtorEq, decide_true, decide_false, Bool.not_true, Bool.not_false, Bool.false_eq_true, if_false, if_true, ite_true, ite_false, List.length_cons, List.length_nil])
    subst hF1
    refine forS a (nvs ns) (fun i σ' H' => ∃ y, σ' = [some (.ref a), some (nv (maskOf (ns.take i))), y] ∧ H' = H) (fun R h => ?_) ⟨_, rfl, rfl⟩ H hs (fun i σ' H' h => by obtain ⟨_, _, rfl⟩ := h; exact Same.refl _) ?_ (fun σ' H' h => ?_)
    · (try simp only [tVar, tC, tOp, tUn, rI, rI0, rU, rEq, rNe, scal, tTest, tB, tAnd, tOr, tNot, tAndV, tOrV, tNotV, tIf, tChain, tNil, tCons, tCB, tCall, tTup, tLst, tRet, tRetN, tDrop, tSeq, tNext, tIfS, tAsg, gName, tPar, tPar3, gNil, gCons, gTup, gSub, tAug, tSl, tNoPart, tPart, tBM, tBM0, tYes, tIsP, iSeq, iEnumA, RZ.iZipA, iRng1, iRng2, iList, iTup, rIsi, rIsB, rIxL, rIxT, rIxA, rLenA, rListOf, rTupOf, rSetL, rSlL, rCat, rAppend, tFld, sFld, tMake, tBits, Int.ofNat_inj, cast1, cast0, TruV, cxOf, Cx.nox, Cx.wish, tNever, tBreak, tCont, ipI, tDIn, tDNotIn, sDPut, tDNewT, tDNewK, tDGet, rSortedPO, rSortedI, rIn, rEqD, rNeD, rInD, rNotInD, tSSet, rIsV, rIntI, rIntB, rAbsN, tLstRg, tRg1, tRg2, List.append_nil, List.nil_append, List.cons_append, Option.some.injEq, exists_eq_left', exists_eq_left, exists_eq_right, exists_eq_right', List.getElem?_cons_zero, List.getElem?_cons_succ, List.set_cons_zero, List.set_cons_succ, List.cons.injEq, and_true, true_and, exists_and_left, exists_and_right, and_assoc, V.int.injEq, V.bl.injEq, V.ref.injEq, V.str.injEq, reduceCtorEq, decide_true, decide_false, Bool.not_true, Bool.not_false, Bool.false_eq_true, if_false, if_true, ite_true, ite_false, List.length_cons, List.length_nil])
      exact h
    · rintro i x σ' H' hx ⟨y, rfl, rfl⟩
      obtain ⟨k, hk, rfl⟩ := nvs_at hx
      (try simp only [tVar, tC, tOp, tUn, rI, rI0, rU, rEq, rNe, scal, tTest, tB, tAnd, tOr, tNot, tAndV, tOrV, tNotV, tIf, tChain, tNil, tCons, tCB, tCall, tTup, tLst, tRet, tRetN, tDrop, tSeq, tNext, tIfS, tAsg, gName, tPar, tPar3, gNil, gCons, gTup, gSub, tAug, tSl, tNoPart, tPart, tBM, tBM0, tYes, tIsP, iSeq, iEnumA, RZ.iZipA, iRng1, iRng2, iList, iTup, rIsi, rIsB, rIxL, rIxT, rIxA, rLenA, rListOf, rTupOf, rSetL, rSlL, rCat, rAppend, tFld, sFld, tMake, tBits, Int.ofNat_inj, cast1, cast0, TruV, cxOf, Cx.nox, Cx.wish, tNever, tBreak, tCont, ipI, tDIn, tDNotIn, sDPut, tDNewT, tDNewK, tDGet, rSortedPO, rSortedI, rIn, rEqD, rNeD, rInD, rNotInD, tSSet, rIsV, rIntI, rIntB, rAbsN, tLstRg, tRg1, tRg2, List.append_nil, List.nil_append, List.cons_append, Option.some.injEq, exists_eq_left', exists_eq_left, exists_eq_right, exists_eq_right', List.getElem?_cons_zero, List.getElem?_cons_succ, List.set_cons_zero, List.set_cons_succ, List.cons.injEq, and_true, true_and, exists_and_left, exists_and_right, and_assoc, V.int.injEq, V.bl.injEq, V.ref.injEq, V.str.injEq, reduceCtorEq, decide_true, decide_false, Bool.not_true, Bool.not_false, Bool.false_eq_true, if_false, if_true, ite_true, ite_false, List.length_cons, List.length_nil])
      refine ⟨by have := hn k (List.mem_of_getElem? hk); omega, ?_⟩
      rw [maskOf_take hk]
    · obtain ⟨y, rfl, rfl⟩ := h
      (try simp only [tVar, tC, tOp, tUn, rI, rI0, rU, rEq, rNe, scal, tTest, tB, tAnd, tOr, tNot, tAndV, tOrV, tNotV, tIf, tChain, tNil, tCons, tCB, tCall, tTup, tLst, tRet, tRetN, tDrop, tSeq, tNext, tIfS, tAsg, gName, tPar, tPar3, gNil, gCons, gTup, gSub, tAug, tSl, tNoPart, tPart, tBM, tBM0, tYes, tIsP, iSeq, iEnumA, RZ.iZipA, iRng1, iRng2, iList, iTup, rIsi, rIsB, rIxL, rIxT, rIxA, rLenA, rListOf, rTupOf, rSetL, rSlL, rCat, rAppend, tFld, sFld, tMake, tBits, Int.ofNat_inj, cast1, cast0, TruV, cxOf, Cx.nox, Cx.wish, tNever, tBreak, tCont, ipI, tDIn, tDNotIn, sDPut, tDNewT, tDNewK, tDGet, rSortedPO, rSortedI, rIn, rEqD, rNeD, rInD, rNotInD, tSSet, rIsV, rIntI, rIntB, rAbsN, tLstRg, tRg1, tRg2, List.append_nil, List.nil_append, List.cons_append, Option.some.injEq, exists_eq_left', exists_eq_left, exists_eq_right, exists_eq_right', List.getElem?_cons_zero, List.getElem?_cons_succ, List.set_cons_zero, List.set_cons_succ, List.cons.injEq, and_true, true_and, exists_and_left, exists_and_right, and_assoc, V.int.injEq, V.bl.injEq, V.ref.injEq, V.str.injEq, reduceCtorEq, decide_true, decide_false, Bool.not_true, Bool.not_false, Bool.false_eq_true, if_false, if_true, ite_true, ite_false, List.length_cons, List.length_nil])
      rw [List.length_map, List.take_length]
      exact q
def sp_law_near (K : PySem.W.Frag) : Sp := fun vs H Q _ => ∃ n a ys qs, vs = [nv n, .ref a] ∧ SqL K H a ys ∧ Prs H ys qs ∧ n ≤ 12 ∧ (∀ p ∈ qs, p.1 ≤ p.2 ∧ p.2 < n) ∧ ∀ H' p, Same H H' → H p = none → H' p = some (.lst (nvs (nearM n qs))) → Q (.ref p) H'
theorem ok__law_near (T : Tx K mg) : FnOk P w K mg base CX0 1 T.a__law_near T.d__law_near ["many", "pairs"] (sp_law_near K) := by
  refine T.F__law_near.ok sc__law_near (fun vs H Q E h => ?_) (fun cdv A outer s H vs Q E hr h => ?_)
  · obtain ⟨n, a, ys, qs, rfl, _⟩ := h
    rfl
  · obtain ⟨n, a, ys, qs, rfl, ha, hp, h12, hg, q⟩ := h
    refine ⟨_, (pss_cons (ps_setLc (i := 2) (own := [("key", 3)]) rfl sc__law_near.nd rfl rfl (sw_true rfl rfl rfl (by decide +kernel)) (pi_range1 (by rfl) T.n_range (pa_cons (pv 0) pa_nil)) (blkOk_by (own := [("key", 3)]) (N := ["many", "pairs", "near", "key", "one", "other"]) (sc := defScope s__law_near) (by decide +kernel)) (fun _ _ _ _ _ => (pg_name (i := 3) sc__law_near.nd rfl (by first | exact Or.inl rfl | exact Or.inr rfl))) (fun _ _ _ _ _ => pts_nil) (fun _ _ _ _ _ => pe_int))
      (pss_cons (ps_for PassesOwn.never rfl (pseqK (K := K) rfl (pv 1)) (gtupK (K := K) (n := 2) rfl (by rfl) (pgs_cons (pg_name (i := 4) sc__law_near.nd rfl (Or.inl rfl)) (pgs_cons (pg_name (i := 5) sc__law_near.nd rfl (Or.inl rfl)) pgs_nil))) (pss_cons (ps_asg (pe_op op_orU (pe_ix (ixL (K := K) rfl) (pv 2) (pv 4) (fun _ _ => rfl)) (pe_op op_shlU pe_int (pv 5))) (pg_sub (pv 2) (pv 4) set_list))
      (pss_one (ps_asg (pe_op op_orU (pe_ix (ixL (K := K) rfl) (pv 2) (pv 5) (fun _ _ => rfl)) (pe_op op_shlU pe_int (pv 4))) (pg_sub (pv 2) (pv 5) set_list)))))
      (pss_one (ps_ret (pv 2))))), ?_⟩
    rw [show L2.start ["many", "pairs", "near", "key", "one", "other"] [nv n, .ref a] = [some (nv n), some (.ref a), none, none, none, none] from rfl]
    generalize hL1 : tLc _ _ _ _ _ = L1
    generalize hF1 : tFor _ _ _ = F1
    (try simp only [tVar, tC, tOp, tUn, rI, rI0, rU, rEq, rNe, scal, tTest, tB, tAnd, tOr, tNot, tAndV, tOrV, tNotV, tIf, tChain, tNil, tCons, tCB, tCall, tTup, tLst, tRet, tRetN, tDrop, tSeq, tNext, tIfS, tAsg, gName, tPar, tPar3, gNil, gCons, gTup, gSub, tAug, tSl, tNoPart, tPart, tBM, tBM0, tYes, tIsP, iSeq, iEnumA, RZ.iZipA, iRng1, iRng2, iList, iTup, rIsi, rIsB, rIxL, rIxT, rIxA, rLenA, rListOf, rTupOf, rSetL, rSlL, rCat, rAppend, tFld, sFld, tMake, tBits, Int.ofNat_inj, cast1, cast0, TruV, cxOf, Cx.nox, Cx.wish, tNever, tBreak, tCont, ipI, tDIn, tDNotIn, sDPut, tDNewT, tDNewK, tDGet, rSortedPO, rSortedI, rIn, rEqD, rNeD, rInD, rNotInD, tSSet, rIsV, rIntI, rIntB, rAbsN, tLstRg, tRg1, tRg2, List.append_nil, List.nil_append, List.cons_append, Option.some.injEq, exists_eq_left', exists_eq_left, exists_eq_right, exists_eq_right', List.getElem?_cons_zero, List.getElem?_cons_succ, List.set_cons_zero, List.set_cons_succ, List.cons.injEq, and_true, true_and, exists_and_left, exists_and_right, and_assoc, V.int.injEq, V.bl.injEq, V.ref.injEq, V.str.injEq, reduceCtorEq, decide_true, decide_false, Bool.not_true, Bool.not_false, Bool.false_eq_true, if_false, if_true, ite_true, ite_false, List.length_cons, List.length_nil])
    subst hL1
    refine lcR1 n (fun _ => true) (fun _ => nv 0) (fun R h => ?_) (by omega) (fun i H' Q1 Q2 hi e q1 q2 => ?_) fun L hL => ?_
    · (try simp only [tVar, tC, tOp, tUn, rI, rI0, rU, rEq, rNe, scal, tTest, tB, tAnd, tOr, tNot, tAndV, tOrV, tNotV, tIf, tChain, tNil, tCons, tCB, tCall, tTup, tLst, tRet, tRetN, tDrop, tSeq, tNext, tIfS, tAsg, gName, tPar, tPar3, gNil, gCons, gTup, gSub, tAug, tSl, tNoPart, tPart, tBM, tBM0, tYes, tIsP, iSeq, iEnumA, RZ.iZipA, iRng1, iRng2, iList, iTup, rIsi, rIsB, rIxL, rIxT, rIxA, rLenA, rListOf, rTupOf, rSetL, rSlL, rCat, rAppend, tFld, sFld, tMake, tBits, Int.ofNat_inj, cast1, cast0, TruV, cxOf, Cx.nox, Cx.wish, tNever, tBreak, tCont, ipI, tDIn, tDNotIn, sDPut, tDNewT, tDNewK, tDGet, rSortedPO, rSortedI, rIn, rEqD, rNeD, rInD, rNotInD, tSSet, rIsV, rIntI, rIntB, rAbsN, tLstRg, tRg1, tRg2, List.append_nil, List.nil_append, List.cons_append, Option.some.injEq, exists_eq_left', exists_eq_left, exists_eq_right, exists_eq_right', List.getElem?_cons_zero, List.getElem?_cons_succ, List.set_cons_zero, List.set_cons_succ, List.cons.injEq, and_true, true_and, exists_and_left, exists_and_right, and_assoc, V.int.injEq, V.bl.injEq, V.ref.injEq, V.str.injEq, reduceCtorEq, decide_true, decide_false, Bool.not_true, Bool.not_false, Bool.false_eq_true, if_false, if_true, ite_true, ite_false, List.length_cons, List.length_nil])
      exact h
    · (try simp only [tVar, tC, tOp, tUn, rI, rI0, rU, rEq, rNe, scal, tTest, tB, tAnd, tOr, tNot, tAndV, tOrV, tNotV, tIf, tChain, tNil, tCons, tCB, tCall, tTup, tLst, tRet, tRetN, tDrop, tSeq, tNext, tIfS, tAsg, gName, tPar, tPar3, gNil, gCons, gTup, gSub, tAug, tSl, tNoPart, tPart, tBM, tBM0, tYes, tIsP, iSeq, iEnumA, RZ.iZipA, iRng1, iRng2, iList, iTup, rIsi, rIsB, rIxL, rIxT, rIxA, rLenA, rListOf, rTupOf, rSetL, rSlL, rCat, rAppend, tFld, sFld, tMake, tBits, Int.ofNat_inj, cast1, cast0, TruV, cxOf, Cx.nox, Cx.wish, tNever, tBreak, tCont, ipI, tDIn, tDNotIn, sDPut, tDNewT, tDNewK, tDGet, rSortedPO, rSortedI, rIn, rEqD, rNeD, rInD, rNotInD, tSSet, rIsV, rIntI, rIntB, rAbsN, tLstRg, tRg1, tRg2, List.append_nil, List.nil_append, List.cons_append, Option.some.injEq, exists_eq_left', exists_eq_left, exists_eq_right, exists_eq_right', List.getElem?_cons_zero, List.getElem?_cons_succ, List.set_cons_zero, List.set_cons_succ, List.cons.injEq, and_true, true_and, exists_and_left, exists_and_right, and_assoc, V.int.injEq, V.bl.injEq, V.ref.injEq, V.str.injEq, reduceCtorEq, decide_true, decide_false, Bool.not_true, Bool.not_false, Bool.false_eq_true, if_false, if_true, ite_true, ite_false, List.length_cons, List.length_nil])
      exact q1 rfl
    · (try simp only [tVar, tC, tOp, tUn, rI, rI0, rU, rEq, rNe, scal, tTest, tB, tAnd, tOr, tNot, tAndV, tOrV, tNotV, tIf, tChain, tNil, tCons, tCB, tCall, tTup, tLst, tRet, tRetN, tDrop, tSeq, tNext, tIfS, tAsg, gName, tPar, tPar3, gNil, gCons, gTup, gSub, tAug, tSl, tNoPart, tPart, tBM, tBM0, tYes, tIsP, iSeq, iEnumA, RZ.iZipA, iRng1, iRng2, iList, iTup, rIsi, rIsB, rIxL, rIxT, rIxA, rLenA, rListOf, rTupOf, rSetL, rSlL, rCat, rAppend, tFld, sFld, tMake, tBits, Int.ofNat_inj, cast1, cast0, TruV, cxOf, Cx.nox, Cx.wish, tNever, tBreak, tCont, ipI, tDIn, tDNotIn, sDPut, tDNewT, tDNewK, tDGet, rSortedPO, rSortedI, rIn, rEqD, rNeD, rInD, rNotInD, tSSet, rIsV, rIntI, rIntB, rAbsN, tLstRg, tRg1, tRg2, List.append_nil, List.nil_append, List.cons_append, Option.some.injEq, exists_eq_left', exists_eq_left, exists_eq_right, exists_eq_right', List.getElem?_cons_zero, List.getElem?_cons_succ, List.set_cons_zero, List.set_cons_succ, List.cons.injEq, and_true, true_and, exists_and_left, exists_and_right, and_assoc, V.int.injEq, V.bl.injEq, V.ref.injEq, V.str.injEq, reduceCtorEq, decide_true, decide_false, Bool.not_true, Bool.not_false, Bool.false_eq_true, if_false, if_true, ite_true, ite_false, List.length_cons, List.length_nil])
      have sL : Same H (upd H L (.lst (((List.range n).filter fun _ => true).map fun _ => nv 0))) := same_new hL
      have e0 : ((List.range n).filter fun _ => true).map (fun _ => nv 0) = nvs (nearM n []) := by
        rw [List.filter_eq_self.mpr fun _ _ => rfl]
        unfold nearM
        rw [List.foldl_nil, List.map_const', List.length_range]
        exact (List.map_replicate ..).symm
      rw [e0] at sL ⊢
      subst hF1
      refine forS a ys (fun i σ' H' => ∃ y3 y4 y5, σ' = [some (nv n), some (.ref a), some (.ref L), y3, y4, y5] ∧ Same H H' ∧ H' L = some (.lst (nvs (nearM n (qs.take i))))) (fun R h => ?_) ⟨_, _, _, rfl, sL, upd_same⟩ H (.inl ha) (fun i σ' H' h => by obtain ⟨_, _, _, _, h, _⟩ := h; exact h) ?_ ?_
      · (try simp only [tVar, tC, tOp, tUn, rI, rI0, rU, rEq, rNe, scal, tTest, tB, tAnd, tOr, tNot, tAndV, tOrV, tNotV, tIf, tChain, tNil, tCons, tCB, tCall, tTup, tLst, tRet, tRetN, tDrop, tSeq, tNext, tIfS, tAsg, gName, tPar, tPar3, gNil, gCons, gTup, gSub, tAug, tSl, tNoPart, tPart, tBM, tBM0, tYes, tIsP, iSeq, iEnumA, RZ.iZipA, iRng1, iRng2, iList, iTup, rIsi, rIsB, rIxL, rIxT, rIxA, rLenA, rListOf, rTupOf, rSetL, rSlL, rCat, rAppend, tFld, sFld, tMake, tBits, Int.ofNat_inj, cast1, cast0, TruV, cxOf, Cx.nox, Cx.wish, tNever, tBreak, tCont, ipI, tDIn, tDNotIn, sDPut, tDNewT, tDNewK, tDGet, rSortedPO, rSortedI, rIn, rEqD, rNeD, rInD, rNotInD, tSSet, rIsV, rIntI, rIntB, rAbsN, tLstRg, tRg1, tRg2, List.append_nil, List.nil_append, List.cons_append, Option.some.injEq, exists_eq_left', exists_eq_left, exists_eq_right, exists_eq_right', List.getElem?_cons_zero, List.getElem?_cons_succ, List.set_cons_zero, List.set_cons_succ, List.cons.injEq, and_true, true_and, exists_and_left, exists_and_right, and_assoc, V.int.injEq, V.bl.injEq, V.ref.injEq, V.str.injEq, reduceCtorEq, decide_true, decide_false, Bool.not_true, Bool.not_false, Bool.false_eq_true, if_false, if_true, ite_true, ite_false, List.length_cons, List.length_nil])
        exact h
      · rintro i x σ' H' hx ⟨y2, y3, y4, rfl, sm, eL⟩
        obtain ⟨p, b, hpi, rfl, eb⟩ := Prs.at hp hx
        have gp := hg p (List.mem_of_getElem? hpi)
        have ln := near_len n (qs.take i)
        (try simp only [tVar, tC, tOp, tUn, rI, rI0, rU, rEq, rNe, scal, tTest, tB, tAnd, tOr, tNot, tAndV, tOrV, tNotV, tIf, tChain, tNil, tCons, tCB, tCall, tTup, tLst, tRet, tRetN, tDrop, tSeq, tNext, tIfS, tAsg, gName, tPar, tPar3, gNil, gCons, gTup, gSub, tAug, tSl, tNoPart, tPart, tBM, tBM0, tYes, tIsP, iSeq, iEnumA, RZ.iZipA, iRng1, iRng2, iList, iTup, rIsi, rIsB, rIxL, rIxT, rIxA, rLenA, rListOf, rTupOf, rSetL, rSlL, rCat, rAppend, tFld, sFld, tMake, tBits, Int.ofNat_inj, cast1, cast0, TruV, cxOf, Cx.nox, Cx.wish, tNever, tBreak, tCont, ipI, tDIn, tDNotIn, sDPut, tDNewT, tDNewK, tDGet, rSortedPO, rSortedI, rIn, rEqD, rNeD, rInD, rNotInD, tSSet, rIsV, rIntI, rIntB, rAbsN, tLstRg, tRg1, tRg2, List.append_nil, List.nil_append, List.cons_append, Option.some.injEq, exists_eq_left', exists_eq_left, exists_eq_right, exists_eq_right', List.getElem?_cons_zero, List.getElem?_cons_succ, List.set_cons_zero, List.set_cons_succ, List.cons.injEq, and_true, true_and, exists_and_left, exists_and_right, and_assoc, V.int.injEq, V.bl.injEq, V.ref.injEq, V.str.injEq, reduceCtorEq, decide_true, decide_false, Bool.not_true, Bool.not_false, Bool.false_eq_true, if_false, if_true, ite_true, ite_false, List.length_cons, List.length_nil])
        refine ⟨_, .of (sm _ _ eb), ?_⟩
        (try simp only [tVar, tC, tOp, tUn, rI, rI0, rU, rEq, rNe, scal, tTest, tB, tAnd, tOr, tNot, tAndV, tOrV, tNotV, tIf, tChain, tNil, tCons, tCB, tCall, tTup, tLst, tRet, tRetN, tDrop, tSeq, tNext, tIfS, tAsg, gName, tPar, tPar3, gNil, gCons, gTup, gSub, tAug, tSl, tNoPart, tPart, tBM, tBM0, tYes, tIsP, iSeq, iEnumA, RZ.iZipA, iRng1, iRng2, iList, iTup, rIsi, rIsB, rIxL, rIxT, rIxA, rLenA, rListOf, rTupOf, rSetL, rSlL, rCat, rAppend, tFld, sFld, tMake, tBits, Int.ofNat_inj, cast1, cast0, TruV, cxOf, Cx.nox, Cx.wish, tNever, tBreak, tCont, ipI, tDIn, tDNotIn, sDPut, tDNewT, tDNewK, tDGet, rSortedPO, rSortedI, rIn, rEqD, rNeD, rInD, rNotInD, tSSet, rIsV, rIntI, rIntB, rAbsN, tLstRg, tRg1, tRg2, List.append_nil, List.nil_append, List.cons_append, Option.some.injEq, exists_eq_left', exists_eq_left, exists_eq_right, exists_eq_right', List.getElem?_cons_zero, List.getElem?_cons_succ, List.set_cons_zero, List.set_cons_succ, List.cons.injEq, and_true, true_and, exists_and_left, exists_and_right, and_assoc, V.int.injEq, V.bl.injEq, V.ref.injEq, V.str.injEq, reduceCtorEq, decide_true, decide_false, Bool.not_true, Bool.not_false, Bool.false_eq_true, if_false, if_true, ite_true, ite_false, List.length_cons, List.length_nil])
        have h1 : p.1 < (nearM n (qs.take i)).length := by omega
        refine ⟨_, .of eL, _, nvs_ix h1, by omega, _, rfl, _, eL, _, ix_n h1, ?_⟩
        rw [nvs_set]
        have h2 : p.2 < ((nearM n (qs.take i)).set p.1 ((nearM n (qs.take i)).getD p.1 0 ||| 1 <<< p.2)).length := by rw [List.length_set]; omega
        refine ⟨_, .of upd_same, _, nvs_ix h2, by omega, _, rfl, _, upd_same, _, ix_n h2, ?_⟩
        rw [nvs_set, upd_upd, near_take hpi]
        refine ⟨fun b o hb => ?_, upd_same⟩
        rw [upd_ne (ne_of_none hb hL)]
        exact sm _ _ hb
      · rintro σ' H' ⟨y2, y3, y4, rfl, sm, eL⟩
        (try simp only [tVar, tC, tOp, tUn, rI, rI0, rU, rEq, rNe, scal, tTest, tB, tAnd, tOr, tNot, tAndV, tOrV, tNotV, tIf, tChain, tNil, tCons, tCB, tCall, tTup, tLst, tRet, tRetN, tDrop, tSeq, tNext, tIfS, tAsg, gName, tPar, tPar3, gNil, gCons, gTup, gSub, tAug, tSl, tNoPart, tPart, tBM, tBM0, tYes, tIsP, iSeq, iEnumA, RZ.iZipA, iRng1, iRng2, iList, iTup, rIsi, rIsB, rIxL, rIxT, rIxA, rLenA, rListOf, rTupOf, rSetL, rSlL, rCat, rAppend, tFld, sFld, tMake, tBits, Int.ofNat_inj, cast1, cast0, TruV, cxOf, Cx.nox, Cx.wish, tNever, tBreak, tCont, ipI, tDIn, tDNotIn, sDPut, tDNewT, tDNewK, tDGet, rSortedPO, rSortedI, rIn, rEqD, rNeD, rInD, rNotInD, tSSet, rIsV, rIntI, rIntB, rAbsN, tLstRg, tRg1, tRg2, List.append_nil, List.nil_append, List.cons_append, Option.some.injEq, exists_eq_left', exists_eq_left, exists_eq_right, exists_eq_right', List.getElem?_cons_zero, List.getElem?_cons_succ, List.set_cons_zero, List.set_cons_succ, List.cons.injEq, and_true, true_and, exists_and_left, exists_and_right, and_assoc, V.int.injEq, V.bl.injEq, V.ref.injEq, V.str.injEq, reduceCtorEq, decide_true, decide_false, Bool.not_true, Bool.not_false, Bool.false_eq_true, if_false, if_true, ite_true, ite_false, List.length_cons, List.length_nil])
        rw [hp.len, List.take_length] at eL
        exact q H' L sm hL eL
def sp_law_close (K : PySem.W.Frag) : Sp := fun vs H Q _ => ∃ a near m, vs = [.ref a, nv m] ∧ SqL K H a (nvs near) ∧ near.length ≤ 62 ∧ m < 2 ^ near.length ∧ ∀ H', Same H H' → Q (nv (nearOf near m)) H'
theorem ok__law_close (T : Tx K mg) : FnOk P w K mg base CX0 1 T.a__law_close T.d__law_close ["near", "mask"] (sp_law_close K) := by
  refine T.F__law_close.ok sc__law_close (fun vs H Q E h => ?_) (fun cdv A outer s H vs Q E hr h => ?_)
  · obtain ⟨a, near, m, rfl, _⟩ := h
    rfl
  · obtain ⟨a, near, m, rfl, hs, h62, hm, q⟩ := h
    refine ⟨_, (pss_cons (ps_set (i := 2) sc__law_close.nd rfl (Or.inl rfl) pe_int)
      (pss_cons (ps_for PassesOwn.never rfl (penumK (K := K) rfl (by rfl) T.n_enumerate (pa_cons (pv 0) pa_nil)) (gtupK (K := K) (n := 2) rfl (by rfl) (pgs_cons (pg_name (i := 3) sc__law_close.nd rfl (Or.inl rfl)) (pgs_cons (pg_name (i := 4) sc__law_close.nd rfl (Or.inl rfl)) pgs_nil))) (pss_one (ps_if (truthK (K := K) rfl (pe_op op_andU (pe_op op_shrU (pv 1) (pv 3)) pe_int) (by intro _; rfl)) (pss_one (ps_set (i := 2) sc__law_close.nd rfl (Or.inl rfl) (pe_op op_orU (pv 2) (pv 4)))) pss_nil)))
      (pss_one (ps_ret (pv 2))))), ?_⟩
    rw [show L2.start ["near", "mask", "found", "key", "more"] [.ref a, nv m] = [some (.ref a), some (nv m), none, none, none] from rfl]
    generalize hF1 : tFor _ _ _ = F1
    (try simp only [tVar, tC, tOp, tUn, rI, rI0, rU, rEq, rNe, scal, tTest, tB, tAnd, tOr, tNot, tAndV, tOrV, tNotV, tIf, tChain, tNil, tCons, tCB, tCall, tTup, tLst, tRet, tRetN, tDrop, tSeq, tNext, tIfS, tAsg, gName, tPar, tPar3, gNil, gCons, gTup, gSub, tAug, tSl, tNoPart, tPart, tBM, tBM0, tYes, tIsP, iSeq, iEnumA, RZ.iZipA, iRng1, iRng2, iList, iTup, rIsi, rIsB, rIxL, rIxT, rIxA, rLenA, rListOf, rTupOf, rSetL, rSlL, rCat, rAppend, tFld, sFld, tMake, tBits, Int.ofNat_inj, cast1, cast0, TruV, cxOf, Cx.nox, Cx.wish, tNever, tBreak, tCont, ipI, tDIn, tDNotIn, sDPut, tDNewT, tDNewK, tDGet, rSortedPO, rSortedI, rIn, rEqD, rNeD, rInD, rNotInD, tSSet, rIsV, rIntI, rIntB, rAbsN, tLstRg, tRg1, tRg2, List.append_nil, List.nil_append, List.cons_append, Option.some.injEq, exists_eq_left', exists_eq_left, exists_eq_right, exists_eq_right', List.getElem?_cons_zero, List.getElem?_cons_succ, List.set_cons_zero, List.set_cons_succ, List.cons.injEq, and_true, true_and, exists_and_left, exists_and_right, and_assoc, V.int.injEq, V.bl.injEq, V.ref.injEq, V.str.injEq, reduceCtorEq, decide_true, decide_false, Bool.not_true, Bool.not_false, Bool.false_eq_true, if_false, if_true, ite_true, ite_false, List.length_cons, List.length_nil])
    subst hF1
    refine forE a (nvs near) (fun i σ' H' => ∃ y3 y4, σ' = [some (.ref a), some (nv m), some (nv (((List.range i).filter m.testBit).foldl (fun f k => f ||| near.getD k 0) 0)), y3, y4] ∧ Same H H') (fun R h => ?_) ⟨_, _, rfl, Same.refl _⟩ H (.inl hs) (fun i σ' H' h => by obtain ⟨_, _, _, h⟩ := h; exact h) ?_ ?_
    · (try simp only [tVar, tC, tOp, tUn, rI, rI0, rU, rEq, rNe, scal, tTest, tB, tAnd, tOr, tNot, tAndV, tOrV, tNotV, tIf, tChain, tNil, tCons, tCB, tCall, tTup, tLst, tRet, tRetN, tDrop, tSeq, tNext, tIfS, tAsg, gName, tPar, tPar3, gNil, gCons, gTup, gSub, tAug, tSl, tNoPart, tPart, tBM, tBM0, tYes, tIsP, iSeq, iEnumA, RZ.iZipA, iRng1, iRng2, iList, iTup, rIsi, rIsB, rIxL, rIxT, rIxA, rLenA, rListOf, rTupOf, rSetL, rSlL, rCat, rAppend, tFld, sFld, tMake, tBits, Int.ofNat_inj, cast1, cast0, TruV, cxOf, Cx.nox, Cx.wish, tNever, tBreak, tCont, ipI, tDIn, tDNotIn, sDPut, tDNewT, tDNewK, tDGet, rSortedPO, rSortedI, rIn, rEqD, rNeD, rInD, rNotInD, tSSet, rIsV, rIntI, rIntB, rAbsN, tLstRg, tRg1, tRg2, List.append_nil, List.nil_append, List.cons_append, Option.some.injEq, exists_eq_left', exists_eq_left, exists_eq_right, exists_eq_right', List.getElem?_cons_zero, List.getElem?_cons_succ, List.set_cons_zero, List.set_cons_succ, List.cons.injEq, and_true, true_and, exists_and_left, exists_and_right, and_assoc, V.int.injEq, V.bl.injEq, V.ref.injEq, V.str.injEq, reduceCtorEq, decide_true, decide_false, Bool.not_true, Bool.not_false, Bool.false_eq_true, if_false, if_true, ite_true, ite_false, List.length_cons, List.length_nil])
      exact h
    · rintro i x σ' H' t hx ⟨y3, y4, rfl, sm⟩ ht
      obtain ⟨k, hk, rfl⟩ := nvs_at hx
      (try simp only [tVar, tC, tOp, tUn, rI, rI0, rU, rEq, rNe, scal, tTest, tB, tAnd, tOr, tNot, tAndV, tOrV, tNotV, tIf, tChain, tNil, tCons, tCB, tCall, tTup, tLst, tRet, tRetN, tDrop, tSeq, tNext, tIfS, tAsg, gName, tPar, tPar3, gNil, gCons, gTup, gSub, tAug, tSl, tNoPart, tPart, tBM, tBM0, tYes, tIsP, iSeq, iEnumA, RZ.iZipA, iRng1, iRng2, iList, iTup, rIsi, rIsB, rIxL, rIxT, rIxA, rLenA, rListOf, rTupOf, rSetL, rSlL, rCat, rAppend, tFld, sFld, tMake, tBits, Int.ofNat_inj, cast1, cast0, TruV, cxOf, Cx.nox, Cx.wish, tNever, tBreak, tCont, ipI, tDIn, tDNotIn, sDPut, tDNewT, tDNewK, tDGet, rSortedPO, rSortedI, rIn, rEqD, rNeD, rInD, rNotInD, tSSet, rIsV, rIntI, rIntB, rAbsN, tLstRg, tRg1, tRg2, List.append_nil, List.nil_append, List.cons_append, Option.some.injEq, exists_eq_left', exists_eq_left, exists_eq_right, exists_eq_right', List.getElem?_cons_zero, List.getElem?_cons_succ, List.set_cons_zero, List.set_cons_succ, List.cons.injEq, and_true, true_and, exists_and_left, exists_and_right, and_assoc, V.int.injEq, V.bl.injEq, V.ref.injEq, V.str.injEq, reduceCtorEq, decide_true, decide_false, Bool.not_true, Bool.not_false, Bool.false_eq_true, if_false, if_true, ite_true, ite_false, List.length_cons, List.length_nil])
      rw [odd_test, List.range_succ, List.filter_append, List.foldl_append, List.filter_cons, List.filter_nil]
      have ek : near.getD i 0 = k := by rw [List.getD_eq_getElem?_getD, hk]; rfl
      cases hb : m.testBit i
      · exact ⟨rfl, sm.trans (same_new ht)⟩
      · rw [← ek]
        exact ⟨rfl, sm.trans (same_new ht)⟩
    · rintro σ' H' ⟨y3, y4, rfl, sm⟩
      (try simp only [tVar, tC, tOp, tUn, rI, rI0, rU, rEq, rNe, scal, tTest, tB, tAnd, tOr, tNot, tAndV, tOrV, tNotV, tIf, tChain, tNil, tCons, tCB, tCall, tTup, tLst, tRet, tRetN, tDrop, tSeq, tNext, tIfS, tAsg, gName, tPar, tPar3, gNil, gCons, gTup, gSub, tAug, tSl, tNoPart, tPart, tBM, tBM0, tYes, tIsP, iSeq, iEnumA, RZ.iZipA, iRng1, iRng2, iList, iTup, rIsi, rIsB, rIxL, rIxT, rIxA, rLenA, rListOf, rTupOf, rSetL, rSlL, rCat, rAppend, tFld, sFld, tMake, tBits, Int.ofNat_inj, cast1, cast0, TruV, cxOf, Cx.nox, Cx.wish, tNever, tBreak, tCont, ipI, tDIn, tDNotIn, sDPut, tDNewT, tDNewK, tDGet, rSortedPO, rSortedI, rIn, rEqD, rNeD, rInD, rNotInD, tSSet, rIsV, rIntI, rIntB, rAbsN, tLstRg, tRg1, tRg2, List.append_nil, List.nil_append, List.cons_append, Option.some.injEq, exists_eq_left', exists_eq_left, exists_eq_right, exists_eq_right', List.getElem?_cons_zero, List.getElem?_cons_succ, List.set_cons_zero, List.set_cons_succ, List.cons.injEq, and_true, true_and, exists_and_left, exists_and_right, and_assoc, V.int.injEq, V.bl.injEq, V.ref.injEq, V.str.injEq, reduceCtorEq, decide_true, decide_false, Bool.not_true, Bool.not_false, Bool.false_eq_true, if_false, if_true, ite_true, ite_false, List.length_cons, List.length_nil])
      rw [List.length_map, bits_range hm (Nat.lt_of_lt_of_le hm (Nat.pow_le_pow_right (by decide) h62))]
      exact q H' sm
end
end Kr
namespace Kr
open PySem PySem.Spec PyProof.Rows L2 Kb
section
variable {P : Program} {w : World} {K : PySem.W.Frag} {mg : Str → Option Value} {base : Heap}
/-- the pairs that come ahead of (a, b) -/
def Ahead (a b : Nat) (ps : List NP) : Prop := ps.Nodup ∧ ∀ p ∈ ps, p.1 ≤ p.2 ∧ (p.1 < a ∨ (p.1 = a ∧ p.2 < b))
theorem Ahead.mono {a b b' : Nat} {ps : List NP} (h : Ahead a b ps) (e : b ≤ b') : Ahead a b' ps := ⟨h.1, fun p hp => by
  obtain ⟨h1, h2⟩ := h.2 p hp
  exact ⟨h1, by omega⟩⟩
theorem Ahead.row {a b : Nat} {ps : List NP} (h : Ahead a b ps) : Ahead (a + 1) 0 ps := ⟨h.1, fun p hp => by
  obtain ⟨h1, h2⟩ := h.2 p hp
  exact ⟨h1, by omega⟩⟩
theorem Ahead.snoc {a b : Nat} {ps : List NP} (h : Ahead a b ps) (e : a ≤ b) : Ahead a (b + 1) (ps ++ [(a, b)]) := by
  refine ⟨List.nodup_append.mpr ⟨h.1, List.pairwise_singleton _ _, fun p hp q hq z => ?_⟩, fun p hp => ?_⟩
  · rw [List.mem_singleton.mp hq] at z
    obtain ⟨_, h2⟩ := h.2 p hp
    rw [z] at h2
    simp only at h2
    omega
  · rcases List.mem_append.mp hp with hp | hp
    · obtain ⟨h1, h2⟩ := h.2 p hp
      exact ⟨h1, by omega⟩
    · rw [List.mem_singleton.mp hp]
      exact ⟨e, .inr ⟨rfl, Nat.lt_succ_self b⟩⟩
theorem iteB {c : Prop} [Decidable c] {p q : Prop} (h1 : p) (h2 : q) : if c then p else q := by
  split
  · exact h1
  · exact h2
def sp_law_graph (K : PySem.W.Frag) : Sp := fun vs H Q _ => ∃ b, ∃ n : Nat, vs = [.ref b, nv n] ∧ (1 ≤ n ∧ n ≤ 12) ∧ Bx b H ∧
  ∀ H' t xs ps, Same (hbx b H) (hbx b H') → Bx b H' → hbx b H t = none → hbx b H' t = some (.lst xs) → Prs (hbx b H') xs ps → GoodPairs n ps → ps.length ≤ 144 → Q (.ref t) H'
theorem ok__law_graph (T : Tx K mg) : FnOk P w K mg base CX0 2 T.a__law_graph T.d__law_graph ["box", "many"] (sp_law_graph K) := by
  refine T.F__law_graph.ok sc__law_graph (fun vs H Q E h => ?_) (fun cdv A outer s H vs Q E hr h => ?_)
  · obtain ⟨b, n, rfl, _⟩ := h
    rfl
  · obtain ⟨b, n, rfl, ⟨n1, n2⟩, hb, q⟩ := h
    refine ⟨_, (pss_cons (ps_par (i := 2) (j := 3) (by rfl) sc__law_graph.nd rfl rfl (by decide) rfl rfl (pa_cons (pe_call (ok__law_take T) (hr.mono (by decide)) (by rfl) T.g__law_take T.F__law_take.kp T.b__law_take .nil pass0 (pa_cons (pv 0) (pa_cons pe_int pa_nil))) (pa_cons (pe_lst pa_nil) pa_nil)) (by rfl))
      (pss_cons (ps_for PassesOwn.never rfl (pi_range1 (by rfl) T.n_range (pa_cons (pv 1) pa_nil)) (pg_name (i := 4) sc__law_graph.nd rfl (Or.inl rfl)) (pss_one (ps_for PassesOwn.never rfl (pi_range2 (by rfl) T.n_range (pa_cons (pv 4) (pa_cons (pv 1) pa_nil))) (pg_name (i := 5) sc__law_graph.nd rfl (Or.inl rfl)) (pss_cons (ps_set (i := 6) sc__law_graph.nd rfl (Or.inl rfl) (pe_call (ok__law_take T) (hr.mono (by decide)) (by rfl) T.g__law_take T.F__law_take.kp T.b__law_take .nil pass0 (pa_cons (pv 0) (pa_cons pe_int pa_nil))))
      (pss_cons (ps_set (i := 7) sc__law_graph.nd rfl (Or.inl rfl) (pe_ifExp (pt_cmpR op_lt (pv 2) pe_int (nomark _)) (pe_cmpR op_eq (pv 4) (pv 5) (nomark _)) (pe_cmpR op_lt (pv 6) pe_int (nomark _))))
      (pss_cons (ps_if (pt_cmpR op_eq (pv 2) pe_int (nomark _)) (pss_one (ps_set (i := 7) sc__law_graph.nd rfl (Or.inl rfl) (pe_or (pv 7) (pe_one (pe_cmpR op_eq (pv 6) pe_int (nomark _)))))) pss_nil)
      (pss_cons (ps_if (pt_cmpR op_eq (pv 2) pe_int (nomark _)) (pss_one (ps_set (i := 7) sc__law_graph.nd rfl (Or.inl rfl) (pe_and (pe_cmpR op_eq (pe_op op_fdiv (pv 4) pe_int) (pe_op op_fdiv (pv 5) pe_int) (nomark _)) (pe_one (pe_or (pe_cmpR op_eq (pe_op op_mod (pv 4) pe_int) pe_int (nomark _)) (pe_one (pe_cmpR op_eq (pe_op op_mod (pv 5) pe_int) pe_int (nomark _)))))))) pss_nil)
      (pss_cons (ps_if (pt_cmpR op_eq (pv 2) pe_int (nomark _)) (pss_one (ps_set (i := 7) sc__law_graph.nd rfl (Or.inl rfl) (pe_cmpR op_lt (pv 6) pe_int (nomark _)))) pss_nil)
      (pss_one (ps_if (pt_val (pv 7)) (pss_one (ps_expr (bmK (K := K) rfl PySem.F.plainAttrs_list PySem.F.slot_list_append PySem.F.type_list_append mt_append (pv 3) (pa_cons (pe_tup (pa_cons (pv 4) (pa_cons (pv 5) pa_nil))) pa_nil)))) pss_nil))))))))))
      (pss_one (ps_ret (pv 3))))), ?_⟩
    rw [show L2.start ["box", "many", "side", "told", "one", "other", "chance", "hit"] [.ref b, nv n] = [some (.ref b), some (nv n), none, none, none, none, none, none] from rfl]
    generalize hF1 : tFor _ _ _ = F1
    (try simp only [tVar, tC, tOp, tUn, rI, rI0, rU, rEq, rNe, scal, tTest, tB, tAnd, tOr, tNot, tAndV, tOrV, tNotV, tIf, tChain, tNil, tCons, tCB, tCall, tTup, tLst, tRet, tRetN, tDrop, tSeq, tNext, tIfS, tAsg, gName, tPar, tPar3, gNil, gCons, gTup, gSub, tAug, tSl, tNoPart, tPart, tBM, tBM0, tYes, tIsP, iSeq, iEnumA, RZ.iZipA, iRng1, iRng2, iList, iTup, rIsi, rIsB, rIxL, rIxT, rIxA, rLenA, rListOf, rTupOf, rSetL, rSlL, rCat, rAppend, tFld, sFld, tMake, tBits, Int.ofNat_inj, cast1, cast0, TruV, cxOf, Cx.nox, Cx.wish, tNever, tBreak, tCont, ipI, tDIn, tDNotIn, sDPut, tDNewT, tDNewK, tDGet, rSortedPO, rSortedI, rIn, rEqD, rNeD, rInD, rNotInD, tSSet, rIsV, rIntI, rIntB, rAbsN, tLstRg, tRg1, tRg2, List.append_nil, List.nil_append, List.cons_append, Option.some.injEq, exists_eq_left', exists_eq_left, exists_eq_right, exists_eq_right', List.getElem?_cons_zero, List.getElem?_cons_succ, List.set_cons_zero, List.set_cons_succ, List.cons.injEq, and_true, true_and, exists_and_left, exists_and_right, and_assoc, V.int.injEq, V.bl.injEq, V.ref.injEq, V.str.injEq, reduceCtorEq, decide_true, decide_false, Bool.not_true, Bool.not_false, Bool.false_eq_true, if_false, if_true, ite_true, ite_false, List.length_cons, List.length_nil])
    refine ⟨b, 5, rfl, by decide, hb, fun H1 side s1 hb1 hs => ?_⟩
    (try simp only [tVar, tC, tOp, tUn, rI, rI0, rU, rEq, rNe, scal, tTest, tB, tAnd, tOr, tNot, tAndV, tOrV, tNotV, tIf, tChain, tNil, tCons, tCB, tCall, tTup, tLst, tRet, tRetN, tDrop, tSeq, tNext, tIfS, tAsg, gName, tPar, tPar3, gNil, gCons, gTup, gSub, tAug, tSl, tNoPart, tPart, tBM, tBM0, tYes, tIsP, iSeq, iEnumA, RZ.iZipA, iRng1, iRng2, iList, iTup, rIsi, rIsB, rIxL, rIxT, rIxA, rLenA, rListOf, rTupOf, rSetL, rSlL, rCat, rAppend, tFld, sFld, tMake, tBits, Int.ofNat_inj, cast1, cast0, TruV, cxOf, Cx.nox, Cx.wish, tNever, tBreak, tCont, ipI, tDIn, tDNotIn, sDPut, tDNewT, tDNewK, tDGet, rSortedPO, rSortedI, rIn, rEqD, rNeD, rInD, rNotInD, tSSet, rIsV, rIntI, rIntB, rAbsN, tLstRg, tRg1, tRg2, List.append_nil, List.nil_append, List.cons_append, Option.some.injEq, exists_eq_left', exists_eq_left, exists_eq_right, exists_eq_right', List.getElem?_cons_zero, List.getElem?_cons_succ, List.set_cons_zero, List.set_cons_succ, List.cons.injEq, and_true, true_and, exists_and_left, exists_and_right, and_assoc, V.int.injEq, V.bl.injEq, V.ref.injEq, V.str.injEq, reduceCtorEq, decide_true, decide_false, Bool.not_true, Bool.not_false, Bool.false_eq_true, if_false, if_true, ite_true, ite_false, List.length_cons, List.length_nil])
    refine ⟨by decide, fun t ht => ?_⟩
    have tG : ∀ o, hbx b H t ≠ some o := fun o e => by
      have := s1 _ _ e
      rw [hbx_free ht] at this
      cases this
    subst hF1
    refine forR1 n (fun i σ' H' => ∃ y4 y5 y6 y7 xs ps, σ' = [some (.ref b), some (nv n), some (nv side), some (.ref t), y4, y5, y6, y7] ∧ Same (hbx b H) (hbx b H') ∧ Bx b H' ∧ hbx b H' t = some (.lst xs) ∧ Prs (hbx b H') xs ps ∧ Ahead i 0 ps ∧ (∀ p ∈ ps, p.2 < n) ∧ ps.length ≤ 12 * i) (fun R h => ?_) (by omega) ?_ ?_ ?_
    · (try simp only [tVar, tC, tOp, tUn, rI, rI0, rU, rEq, rNe, scal, tTest, tB, tAnd, tOr, tNot, tAndV, tOrV, tNotV, tIf, tChain, tNil, tCons, tCB, tCall, tTup, tLst, tRet, tRetN, tDrop, tSeq, tNext, tIfS, tAsg, gName, tPar, tPar3, gNil, gCons, gTup, gSub, tAug, tSl, tNoPart, tPart, tBM, tBM0, tYes, tIsP, iSeq, iEnumA, RZ.iZipA, iRng1, iRng2, iList, iTup, rIsi, rIsB, rIxL, rIxT, rIxA, rLenA, rListOf, rTupOf, rSetL, rSlL, rCat, rAppend, tFld, sFld, tMake, tBits, Int.ofNat_inj, cast1, cast0, TruV, cxOf, Cx.nox, Cx.wish, tNever, tBreak, tCont, ipI, tDIn, tDNotIn, sDPut, tDNewT, tDNewK, tDGet, rSortedPO, rSortedI, rIn, rEqD, rNeD, rInD, rNotInD, tSSet, rIsV, rIntI, rIntB, rAbsN, tLstRg, tRg1, tRg2, List.append_nil, List.nil_append, List.cons_append, Option.some.injEq, exists_eq_left', exists_eq_left, exists_eq_right, exists_eq_right', List.getElem?_cons_zero, List.getElem?_cons_succ, List.set_cons_zero, List.set_cons_succ, List.cons.injEq, and_true, true_and, exists_and_left, exists_and_right, and_assoc, V.int.injEq, V.bl.injEq, V.ref.injEq, V.str.injEq, reduceCtorEq, decide_true, decide_false, Bool.not_true, Bool.not_false, Bool.false_eq_true, if_false, if_true, ite_true, ite_false, List.length_cons, List.length_nil])
      exact h
    · exact ⟨_, _, _, _, [], [], rfl, s1.trans (hb1.mono (same_new ht)), hb1.same (same_new ht), hb1.new (same_new ht) ht upd_same, .nil, ⟨List.nodup_nil, fun p hp => absurd hp List.not_mem_nil⟩, fun p hp => absurd hp List.not_mem_nil, Nat.le_refl _⟩
    · rintro i σ' H' hi ⟨y4, y5, y6, y7, xs, ps, rfl, sm, hb2, et, hp0, ah, hn, hl⟩
      generalize hF2 : tFor _ _ _ = F2
      (try simp only [tVar, tC, tOp, tUn, rI, rI0, rU, rEq, rNe, scal, tTest, tB, tAnd, tOr, tNot, tAndV, tOrV, tNotV, tIf, tChain, tNil, tCons, tCB, tCall, tTup, tLst, tRet, tRetN, tDrop, tSeq, tNext, tIfS, tAsg, gName, tPar, tPar3, gNil, gCons, gTup, gSub, tAug, tSl, tNoPart, tPart, tBM, tBM0, tYes, tIsP, iSeq, iEnumA, RZ.iZipA, iRng1, iRng2, iList, iTup, rIsi, rIsB, rIxL, rIxT, rIxA, rLenA, rListOf, rTupOf, rSetL, rSlL, rCat, rAppend, tFld, sFld, tMake, tBits, Int.ofNat_inj, cast1, cast0, TruV, cxOf, Cx.nox, Cx.wish, tNever, tBreak, tCont, ipI, tDIn, tDNotIn, sDPut, tDNewT, tDNewK, tDGet, rSortedPO, rSortedI, rIn, rEqD, rNeD, rInD, rNotInD, tSSet, rIsV, rIntI, rIntB, rAbsN, tLstRg, tRg1, tRg2, List.append_nil, List.nil_append, List.cons_append, Option.some.injEq, exists_eq_left', exists_eq_left, exists_eq_right, exists_eq_right', List.getElem?_cons_zero, List.getElem?_cons_succ, List.set_cons_zero, List.set_cons_succ, List.cons.injEq, and_true, true_and, exists_and_left, exists_and_right, and_assoc, V.int.injEq, V.bl.injEq, V.ref.injEq, V.str.injEq, reduceCtorEq, decide_true, decide_false, Bool.not_true, Bool.not_false, Bool.false_eq_true, if_false, if_true, ite_true, ite_false, List.length_cons, List.length_nil])
      subst hF2
      refine forR2 i n (fun j σ' H' => ∃ y5 y6 y7 xs ps, σ' = [some (.ref b), some (nv n), some (nv side), some (.ref t), some (nv i), y5, y6, y7] ∧ Same (hbx b H) (hbx b H') ∧ Bx b H' ∧ hbx b H' t = some (.lst xs) ∧ Prs (hbx b H') xs ps ∧ Ahead i (i + j) ps ∧ (∀ p ∈ ps, p.2 < n) ∧ ps.length ≤ 12 * i + j) (fun R h => ?_) (by omega) ?_ ?_ ?_
      · (try simp only [tVar, tC, tOp, tUn, rI, rI0, rU, rEq, rNe, scal, tTest, tB, tAnd, tOr, tNot, tAndV, tOrV, tNotV, tIf, tChain, tNil, tCons, tCB, tCall, tTup, tLst, tRet, tRetN, tDrop, tSeq, tNext, tIfS, tAsg, gName, tPar, tPar3, gNil, gCons, gTup, gSub, tAug, tSl, tNoPart, tPart, tBM, tBM0, tYes, tIsP, iSeq, iEnumA, RZ.iZipA, iRng1, iRng2, iList, iTup, rIsi, rIsB, rIxL, rIxT, rIxA, rLenA, rListOf, rTupOf, rSetL, rSlL, rCat, rAppend, tFld, sFld, tMake, tBits, Int.ofNat_inj, cast1, cast0, TruV, cxOf, Cx.nox, Cx.wish, tNever, tBreak, tCont, ipI, tDIn, tDNotIn, sDPut, tDNewT, tDNewK, tDGet, rSortedPO, rSortedI, rIn, rEqD, rNeD, rInD, rNotInD, tSSet, rIsV, rIntI, rIntB, rAbsN, tLstRg, tRg1, tRg2, List.append_nil, List.nil_append, List.cons_append, Option.some.injEq, exists_eq_left', exists_eq_left, exists_eq_right, exists_eq_right', List.getElem?_cons_zero, List.getElem?_cons_succ, List.set_cons_zero, List.set_cons_succ, List.cons.injEq, and_true, true_and, exists_and_left, exists_and_right, and_assoc, V.int.injEq, V.bl.injEq, V.ref.injEq, V.str.injEq, reduceCtorEq, decide_true, decide_false, Bool.not_true, Bool.not_false, Bool.false_eq_true, if_false, if_true, ite_true, ite_false, List.length_cons, List.length_nil])
        exact h
      · exact ⟨_, _, _, xs, ps, rfl, sm, hb2, et, hp0, ah.mono (Nat.zero_le _), hn, hl⟩
      · rintro j σ' H' hj ⟨y5, y6, y7, xs, ps, rfl, sm, hb2, et, hp0, ah, hn, hl⟩
        generalize hS : tIfS (tB (tVar 7)) _ _ = S7
        (try simp only [tVar, tC, tOp, tUn, rI, rI0, rU, rEq, rNe, scal, tTest, tB, tAnd, tOr, tNot, tAndV, tOrV, tNotV, tIf, tChain, tNil, tCons, tCB, tCall, tTup, tLst, tRet, tRetN, tDrop, tSeq, tNext, tIfS, tAsg, gName, tPar, tPar3, gNil, gCons, gTup, gSub, tAug, tSl, tNoPart, tPart, tBM, tBM0, tYes, tIsP, iSeq, iEnumA, RZ.iZipA, iRng1, iRng2, iList, iTup, rIsi, rIsB, rIxL, rIxT, rIxA, rLenA, rListOf, rTupOf, rSetL, rSlL, rCat, rAppend, tFld, sFld, tMake, tBits, Int.ofNat_inj, cast1, cast0, TruV, cxOf, Cx.nox, Cx.wish, tNever, tBreak, tCont, ipI, tDIn, tDNotIn, sDPut, tDNewT, tDNewK, tDGet, rSortedPO, rSortedI, rIn, rEqD, rNeD, rInD, rNotInD, tSSet, rIsV, rIntI, rIntB, rAbsN, tLstRg, tRg1, tRg2, List.append_nil, List.nil_append, List.cons_append, Option.some.injEq, exists_eq_left', exists_eq_left, exists_eq_right, exists_eq_right', List.getElem?_cons_zero, List.getElem?_cons_succ, List.set_cons_zero, List.set_cons_succ, List.cons.injEq, and_true, true_and, exists_and_left, exists_and_right, and_assoc, V.int.injEq, V.bl.injEq, V.ref.injEq, V.str.injEq, reduceCtorEq, decide_true, decide_false, Bool.not_true, Bool.not_false, Bool.false_eq_true, if_false, if_true, ite_true, ite_false, List.length_cons, List.length_nil])
        refine ⟨b, 6, rfl, by decide, hb2, fun H3 ch s3 hb3 hc => ?_⟩
        have et3 := s3 _ _ et
        have fin : ∀ (D : Ends) (v : Bool), D.nx [some (.ref b), some (nv n), some (nv side), some (.ref t), some (nv i), some (nv (i + j)), some (nv ch), some (.bl v)] H3 →
            (∀ p, H3 p = none → D.nx [some (.ref b), some (nv n), some (nv side), some (.ref t), some (nv i), some (nv (i + j)), some (nv ch), some (.bl v)] (upd (upd H3 p (.tup [nv i, nv (i + j)])) t (.lst (xs ++ [.ref p])))) →
            S7 D [some (.ref b), some (nv n), some (nv side), some (.ref t), some (nv i), some (nv (i + j)), some (nv ch), some (.bl v)] H3 := by
          intro D v e1 e2
          subst hS
          (try simp only [tVar, tC, tOp, tUn, rI, rI0, rU, rEq, rNe, scal, tTest, tB, tAnd, tOr, tNot, tAndV, tOrV, tNotV, tIf, tChain, tNil, tCons, tCB, tCall, tTup, tLst, tRet, tRetN, tDrop, tSeq, tNext, tIfS, tAsg, gName, tPar, tPar3, gNil, gCons, gTup, gSub, tAug, tSl, tNoPart, tPart, tBM, tBM0, tYes, tIsP, iSeq, iEnumA, RZ.iZipA, iRng1, iRng2, iList, iTup, rIsi, rIsB, rIxL, rIxT, rIxA, rLenA, rListOf, rTupOf, rSetL, rSlL, rCat, rAppend, tFld, sFld, tMake, tBits, Int.ofNat_inj, cast1, cast0, TruV, cxOf, Cx.nox, Cx.wish, tNever, tBreak, tCont, ipI, tDIn, tDNotIn, sDPut, tDNewT, tDNewK, tDGet, rSortedPO, rSortedI, rIn, rEqD, rNeD, rInD, rNotInD, tSSet, rIsV, rIntI, rIntB, rAbsN, tLstRg, tRg1, tRg2, List.append_nil, List.nil_append, List.cons_append, Option.some.injEq, exists_eq_left', exists_eq_left, exists_eq_right, exists_eq_right', List.getElem?_cons_zero, List.getElem?_cons_succ, List.set_cons_zero, List.set_cons_succ, List.cons.injEq, and_true, true_and, exists_and_left, exists_and_right, and_assoc, V.int.injEq, V.bl.injEq, V.ref.injEq, V.str.injEq, reduceCtorEq, decide_true, decide_false, Bool.not_true, Bool.not_false, Bool.false_eq_true, if_false, if_true, ite_true, ite_false, List.length_cons, List.length_nil])
          cases v
          · exact iteF e1
          · refine iteT ⟨ty_lst (.of (hbx_le _ _ _ _ et3)), by decide, fun p hp => ⟨_, same_new hp _ _ (hbx_le _ _ _ _ et3), ?_, e2 p hp⟩⟩
            rw [hp0.len, sizeLine_eq]
            omega
        have no : ∃ xs ps, hbx b H3 t = some (.lst xs) ∧ Prs (hbx b H3) xs ps ∧ Ahead i (i + (j + 1)) ps ∧ (∀ p ∈ ps, p.2 < n) ∧ ps.length ≤ 12 * i + (j + 1) :=
          ⟨xs, ps, et3, hp0.same s3, ah.mono (by omega), hn, by omega⟩
        have yes : ∀ p, H3 p = none → Same (hbx b H) (hbx b (upd (upd H3 p (.tup [nv i, nv (i + j)])) t (.lst (xs ++ [.ref p])))) ∧ Bx b (upd (upd H3 p (.tup [nv i, nv (i + j)])) t (.lst (xs ++ [.ref p]))) ∧
            ∃ xs' ps', hbx b (upd (upd H3 p (.tup [nv i, nv (i + j)])) t (.lst (xs ++ [.ref p]))) t = some (.lst xs') ∧ Prs (hbx b (upd (upd H3 p (.tup [nv i, nv (i + j)])) t (.lst (xs ++ [.ref p])))) xs' ps' ∧ Ahead i (i + (j + 1)) ps' ∧ (∀ p ∈ ps', p.2 < n) ∧ ps'.length ≤ 12 * i + (j + 1) := by
          intro p hp
          have s4 := same_new (o := .tup [nv i, nv (i + j)]) hp
          have g4 := hb3.mono s4
          have et4 := g4 _ _ et3
          have ep : hbx b (upd H3 p (.tup [nv i, nv (i + j)])) p = some (.tup [nv i, nv (i + j)]) := hb3.new s4 hp upd_same
          refine ⟨fun a o ha => ?_, (hb3.same s4).put et4, xs ++ [.ref p], ps ++ [(i, i + j)], by rw [hbx_put et4, upd_same], ?_, ah.snoc (Nat.le_add_right i j), fun z hz => ?_, by rw [List.length_append, List.length_singleton]; omega⟩
          · rw [hbx_put et4, upd_ne (fun e => tG o (by rw [← e]; exact ha))]
            exact g4 _ _ (s3 _ _ (sm _ _ ha))
          · rw [hbx_put et4]
            exact (((hp0.same s3).same g4).snoc ⟨p, rfl, ep⟩).upd fun ys e => by rw [et4] at e; cases e
          · rcases List.mem_append.mp hz with hz | hz
            · exact hn z hz
            · rw [List.mem_singleton.mp hz]
              exact hj
        (try simp only [tVar, tC, tOp, tUn, rI, rI0, rU, rEq, rNe, scal, tTest, tB, tAnd, tOr, tNot, tAndV, tOrV, tNotV, tIf, tChain, tNil, tCons, tCB, tCall, tTup, tLst, tRet, tRetN, tDrop, tSeq, tNext, tIfS, tAsg, gName, tPar, tPar3, gNil, gCons, gTup, gSub, tAug, tSl, tNoPart, tPart, tBM, tBM0, tYes, tIsP, iSeq, iEnumA, RZ.iZipA, iRng1, iRng2, iList, iTup, rIsi, rIsB, rIxL, rIxT, rIxA, rLenA, rListOf, rTupOf, rSetL, rSlL, rCat, rAppend, tFld, sFld, tMake, tBits, Int.ofNat_inj, cast1, cast0, TruV, cxOf, Cx.nox, Cx.wish, tNever, tBreak, tCont, ipI, tDIn, tDNotIn, sDPut, tDNewT, tDNewK, tDGet, rSortedPO, rSortedI, rIn, rEqD, rNeD, rInD, rNotInD, tSSet, rIsV, rIntI, rIntB, rAbsN, tLstRg, tRg1, tRg2, List.append_nil, List.nil_append, List.cons_append, Option.some.injEq, exists_eq_left', exists_eq_left, exists_eq_right, exists_eq_right', List.getElem?_cons_zero, List.getElem?_cons_succ, List.set_cons_zero, List.set_cons_succ, List.cons.injEq, and_true, true_and, exists_and_left, exists_and_right, and_assoc, V.int.injEq, V.bl.injEq, V.ref.injEq, V.str.injEq, reduceCtorEq, decide_true, decide_false, Bool.not_true, Bool.not_false, Bool.false_eq_true, if_false, if_true, ite_true, ite_false, List.length_cons, List.length_nil])
        repeat' (first | refine iteB ?_ ?_ | refine ⟨by decide, ?_⟩ | refine ⟨⟨by decide, by decide⟩, ?_⟩ | fail)
        all_goals
          refine fin _ _ ?_ fun p hp => ?_
          · obtain ⟨xs', ps', z⟩ := no
            exact ⟨⟨_, _, _, rfl⟩, sm.trans s3, hb3, xs', z.1, ps', z.2⟩
          · obtain ⟨z1, z2, xs', ps', z⟩ := yes p hp
            exact ⟨⟨_, _, _, rfl⟩, z1, z2, xs', z.1, ps', z.2⟩
      · rintro σ' H' ⟨y5, y6, y7, xs, ps, rfl, sm, hb2, et, hp0, ah, hn, hl⟩
        (try simp only [tVar, tC, tOp, tUn, rI, rI0, rU, rEq, rNe, scal, tTest, tB, tAnd, tOr, tNot, tAndV, tOrV, tNotV, tIf, tChain, tNil, tCons, tCB, tCall, tTup, tLst, tRet, tRetN, tDrop, tSeq, tNext, tIfS, tAsg, gName, tPar, tPar3, gNil, gCons, gTup, gSub, tAug, tSl, tNoPart, tPart, tBM, tBM0, tYes, tIsP, iSeq, iEnumA, RZ.iZipA, iRng1, iRng2, iList, iTup, rIsi, rIsB, rIxL, rIxT, rIxA, rLenA, rListOf, rTupOf, rSetL, rSlL, rCat, rAppend, tFld, sFld, tMake, tBits, Int.ofNat_inj, cast1, cast0, TruV, cxOf, Cx.nox, Cx.wish, tNever, tBreak, tCont, ipI, tDIn, tDNotIn, sDPut, tDNewT, tDNewK, tDGet, rSortedPO, rSortedI, rIn, rEqD, rNeD, rInD, rNotInD, tSSet, rIsV, rIntI, rIntB, rAbsN, tLstRg, tRg1, tRg2, List.append_nil, List.nil_append, List.cons_append, Option.some.injEq, exists_eq_left', exists_eq_left, exists_eq_right, exists_eq_right', List.getElem?_cons_zero, List.getElem?_cons_succ, List.set_cons_zero, List.set_cons_succ, List.cons.injEq, and_true, true_and, exists_and_left, exists_and_right, and_assoc, V.int.injEq, V.bl.injEq, V.ref.injEq, V.str.injEq, reduceCtorEq, decide_true, decide_false, Bool.not_true, Bool.not_false, Bool.false_eq_true, if_false, if_true, ite_true, ite_false, List.length_cons, List.length_nil])
        exact ⟨⟨_, rfl⟩, sm, hb2, xs, et, ps, hp0, ah.row, hn, by omega⟩
    · rintro σ' H' ⟨y4, y5, y6, y7, xs, ps, rfl, sm, hb2, et, hp0, ah, hn, hl⟩
      (try simp only [tVar, tC, tOp, tUn, rI, rI0, rU, rEq, rNe, scal, tTest, tB, tAnd, tOr, tNot, tAndV, tOrV, tNotV, tIf, tChain, tNil, tCons, tCB, tCall, tTup, tLst, tRet, tRetN, tDrop, tSeq, tNext, tIfS, tAsg, gName, tPar, tPar3, gNil, gCons, gTup, gSub, tAug, tSl, tNoPart, tPart, tBM, tBM0, tYes, tIsP, iSeq, iEnumA, RZ.iZipA, iRng1, iRng2, iList, iTup, rIsi, rIsB, rIxL, rIxT, rIxA, rLenA, rListOf, rTupOf, rSetL, rSlL, rCat, rAppend, tFld, sFld, tMake, tBits, Int.ofNat_inj, cast1, cast0, TruV, cxOf, Cx.nox, Cx.wish, tNever, tBreak, tCont, ipI, tDIn, tDNotIn, sDPut, tDNewT, tDNewK, tDGet, rSortedPO, rSortedI, rIn, rEqD, rNeD, rInD, rNotInD, tSSet, rIsV, rIntI, rIntB, rAbsN, tLstRg, tRg1, tRg2, List.append_nil, List.nil_append, List.cons_append, Option.some.injEq, exists_eq_left', exists_eq_left, exists_eq_right, exists_eq_right', List.getElem?_cons_zero, List.getElem?_cons_succ, List.set_cons_zero, List.set_cons_succ, List.cons.injEq, and_true, true_and, exists_and_left, exists_and_right, and_assoc, V.int.injEq, V.bl.injEq, V.ref.injEq, V.str.injEq, reduceCtorEq, decide_true, decide_false, Bool.not_true, Bool.not_false, Bool.false_eq_true, if_false, if_true, ite_true, ite_false, List.length_cons, List.length_nil])
      exact q H' t xs ps sm hb2 (Option.eq_none_iff_forall_ne_some.mpr tG) et hp0 ⟨ah.1, fun p hp => ⟨(ah.2 p hp).1, hn p hp⟩⟩ (by omega)
end
end Kr
namespace Kr
open PySem PySem.Spec PyProof.Rows L2 Kb
/-! ### the plain law -/
theorem inc_ext : ∀ {a b : List Nat}, a.Pairwise (· < ·) → b.Pairwise (· < ·) → (∀ k, k ∈ a ↔ k ∈ b) → a = b
  | [], [], _, _, _ => rfl
  | [], y :: b, _, _, h => absurd ((h y).mpr List.mem_cons_self) List.not_mem_nil
  | x :: a, [], _, _, h => absurd ((h x).mp List.mem_cons_self) List.not_mem_nil
  | x :: a, y :: b, ha, hb, h => by
    obtain ⟨a1, a2⟩ := List.pairwise_cons.mp ha
    obtain ⟨b1, b2⟩ := List.pairwise_cons.mp hb
    have e : x = y := by
      have h1 := (h x).mp List.mem_cons_self
      have h2 := (h y).mpr List.mem_cons_self
      rcases List.mem_cons.mp h1 with h1 | h1
      · exact h1
      · rcases List.mem_cons.mp h2 with h2 | h2
        · exact h2.symm
        · have := a1 y h2
          have := b1 x h1
          omega
    subst e
    refine congrArg _ (inc_ext a2 b2 fun k => ⟨fun hk => ?_, fun hk => ?_⟩)
    · rcases List.mem_cons.mp ((h k).mp (List.mem_cons_of_mem _ hk)) with z | z
      · have := a1 k hk
        omega
      · exact z
    · rcases List.mem_cons.mp ((h k).mpr (List.mem_cons_of_mem _ hk)) with z | z
      · have := b1 k hk
        omega
      · exact z
theorem range_inc (n : Nat) : (List.range n).Pairwise (· < ·) := List.pairwise_lt_range
theorem filter_inc {n : Nat} (p : Nat → Bool) : ((List.range n).filter p).Pairwise (· < ·) := List.Pairwise.sublist List.filter_sublist (range_inc n)
theorem bits_inc (m : Nat) : (bits m).Pairwise (· < ·) := filter_inc _
theorem bits_is {m n : Nat} (hm : m < 2 ^ n) (h62 : n ≤ 62) {l : List Nat} (hl : l.Pairwise (· < ·)) (h : ∀ j, j ∈ l ↔ m.testBit j = true) : bits m = l :=
  inc_ext (bits_inc m) hl fun j => (mem_bits (Nat.lt_of_lt_of_le hm (Nat.pow_le_pow_right (by decide) h62))).trans (h j).symm
theorem nearP_perm {ps qs : List NP} (h : qs.Perm ps) {i j : Nat} : nearP qs i j ↔ nearP ps i j := by
  unfold nearP
  rw [h.mem_iff, h.mem_iff]
theorem GoodQ.perm {n : Nat} {ps qs : List NP} (h : qs.Perm ps) (g : GoodQ n ps) : GoodQ n qs := ⟨g.1, fun p hp => g.2 p (h.mem_iff.mp hp)⟩
theorem near_perm {n : Nat} {ps qs : List NP} (h : qs.Perm ps) (g : GoodQ n ps) : nearM n qs = nearM n ps := by
  refine List.ext_getElem (by rw [near_len, near_len]) fun i h1 h2 => ?_
  have e : ∀ (qs : List NP) (h : i < (nearM n qs).length), (nearM n qs)[i] = (nearM n qs).getD i 0 := fun qs h => by rw [List.getD_eq_getElem?_getD, List.getElem?_eq_getElem h]; rfl
  rw [e, e]
  refine Nat.eq_of_testBit_eq fun j => ?_
  rw [Bool.eq_iff_iff, near_test (g.perm h).2, near_test g.2]
  exact nearP_perm h
/-- near some key of the lot -/
theorem nearOf_is {n : Nat} {ps : List NP} (g : GoodQ n ps) {l : List Nat} (hl : ∀ k ∈ l, k < n) (j : Nat) : (nearOf (nearM n ps) (maskOf l)).testBit j = true ↔ ∃ k ∈ l, nearP ps k j := by
  rw [nearOf_test]
  have h12 := g.1
  have hm : maskOf l < 2 ^ 62 := Nat.lt_of_lt_of_le (maskOf_lt hl) (Nat.pow_le_pow_right (by decide) (by omega))
  constructor
  · rintro ⟨k, hk, h⟩
    rw [mem_bits hm, maskOf_test, decide_eq_true_eq] at hk
    exact ⟨k, hk, (near_test g.2 k j).mp h⟩
  · rintro ⟨k, hk, h⟩
    exact ⟨k, by rw [mem_bits hm, maskOf_test, decide_eq_true_eq]; exact hk, (near_test g.2 k j).mpr h⟩
theorem near_zero {n : Nat} {ps : List NP} (g : GoodQ n ps) (i : Nat) : (nearM n ps).getD i 0 = 0 ↔ ∀ j, j < n → ¬ nearP ps i j := by
  constructor
  · intro h j _ hj
    have := (near_test g.2 i j).mpr hj
    rw [h, Nat.zero_testBit] at this
    cases this
  · intro h
    refine Nat.eq_of_testBit_eq fun j => ?_
    rw [Nat.zero_testBit, Bool.eq_false_iff]
    intro hj
    have hp := (near_test g.2 i j).mp hj
    refine h j ?_ hp
    rcases hp with hp | hp
    · exact (g.2 _ hp).2
    · have := g.2 _ hp
      simp only at this
      omega
/-- whether the pairs tell that i and j clash -/
def nearB (ps : List NP) (i j : Nat) : Bool := decide ((i, j) ∈ ps) || decide ((j, i) ∈ ps)
theorem nearB_is {ps : List NP} {i j : Nat} : nearB ps i j = true ↔ nearP ps i j := by
  unfold nearB nearP
  rw [Bool.or_eq_true, decide_eq_true_eq, decide_eq_true_eq]
theorem near_lt {n : Nat} {ps : List NP} (g : GoodQ n ps) {i j : Nat} (h : nearP ps i j) : i < n ∧ j < n := by
  rcases h with h | h
  · have := g.2 _ h
    simp only at this
    omega
  · have := g.2 _ h
    simp only at this
    omega
theorem one_is {n i : Nat} {ps qs : List NP} (h : qs.Perm ps) (g : GoodQ n ps) (hi : i < n) : bits (nearOf (nearM n qs) (maskOf [i])) = (List.range n).filter (nearB ps i) := by
  have g2 := g.perm h
  have h12 := g.1
  refine bits_is (nearOf_lt g2) (by omega) (filter_inc _) fun j => ?_
  rw [nearOf_is g2 (fun k hk => by rw [List.mem_singleton.mp hk]; exact hi), List.mem_filter, List.mem_range, nearB_is]
  constructor
  · rintro ⟨_, hj⟩
    exact ⟨i, List.mem_singleton_self i, (nearP_perm h).mpr hj⟩
  · rintro ⟨k, hk, hj⟩
    rw [List.mem_singleton.mp hk] at hj
    have := (nearP_perm h).mp hj
    exact ⟨(near_lt g this).2, this⟩
/-- the numbers of values -/
def vn : V → Nat
  | .int i => i.toNat
  | _ => 0
theorem of_nvs {ys : List V} {l : List Nat} (h : ∀ y ∈ ys, y ∈ nvs l) : ys = nvs (ys.map vn) := by
  rw [show nvs (ys.map vn) = (ys.map vn).map nv from rfl, List.map_map]
  refine (List.map_id ys).symm.trans (List.map_congr_left fun y hy => ?_)
  obtain ⟨k, _, rfl⟩ := List.mem_map.mp (h y hy)
  show V.int (k : Int) = V.int (((k : Int).toNat : Nat) : Int)
  rw [Int.toNat_natCast]
theorem perm_nvs {ys : List V} {l : List Nat} (h : ys.Perm (nvs l)) : ∃ zs : List Nat, ys = nvs zs ∧ zs.Perm l := by
  refine ⟨ys.map vn, of_nvs fun y hy => h.mem_iff.mp hy, ?_⟩
  have := h.map vn
  rw [List.map_map] at this
  rw [show l.map (vn ∘ nv) = l from (List.map_congr_left fun k _ => (Int.toNat_natCast k)).trans (List.map_id l)] at this
  exact this
theorem nvs_ivs (l : List Nat) : nvs l = (l.map Int.ofNat).map V.int := by rw [List.map_map]; rfl
/-- ascending ints that are natural numbers -/
theorem asc_nat {out : List Int} {l : List Nat} (h1 : out.Pairwise (· < ·)) (h2 : ∀ k, k ∈ out ↔ k ∈ l.map Int.ofNat) : ∃ us : List Nat, out.map V.int = nvs us ∧ us.Pairwise (· < ·) ∧ ∀ k, k ∈ us ↔ k ∈ l := by
  have nn : ∀ k ∈ out, ∃ m : Nat, k = (m : Int) ∧ m ∈ l := fun k hk => by
    obtain ⟨m, hm, rfl⟩ := List.mem_map.mp ((h2 k).mp hk)
    exact ⟨m, rfl, hm⟩
  refine ⟨out.map Int.toNat, ?_, ?_, fun k => ?_⟩
  · rw [show nvs (out.map Int.toNat) = (out.map Int.toNat).map nv from rfl, List.map_map]
    refine List.map_congr_left fun k hk => ?_
    obtain ⟨m, rfl, _⟩ := nn k hk
    show V.int (m : Int) = V.int (((m : Int).toNat : Nat) : Int)
    rw [Int.toNat_natCast]
  · rw [List.pairwise_map]
    refine List.Pairwise.imp_of_mem (fun {a b} ha hb h => ?_) h1
    obtain ⟨m, rfl, _⟩ := nn a ha
    obtain ⟨m2, rfl, _⟩ := nn b hb
    omega
  · constructor
    · intro h
      obtain ⟨a, ha, rfl⟩ := List.mem_map.mp h
      obtain ⟨m, rfl, hm⟩ := nn a ha
      rw [Int.toNat_natCast]
      exact hm
    · intro h
      exact List.mem_map.mpr ⟨(k : Int), (h2 _).mpr (List.mem_map.mpr ⟨k, h, rfl⟩), Int.toNat_natCast k⟩
theorem both_is {n : Nat} {qs : List NP} (g : GoodQ n qs) {l m us vs : List Nat} (hl : ∀ k ∈ l, k < n) (hm : ∀ k ∈ m, k < n) (hu : ∀ k, k ∈ us ↔ k ∈ l ++ m) (hv : vs.Pairwise (· < ·))
    (hv2 : ∀ k, k ∈ vs ↔ k ∈ bits (nearOf (nearM n qs) (maskOf l)) ++ bits (nearOf (nearM n qs) (maskOf m))) : bits (nearOf (nearM n qs) (maskOf us)) = vs := by
  have h12 := g.1
  have h62 : ∀ l : List Nat, nearOf (nearM n qs) (maskOf l) < 2 ^ 62 := fun l => Nat.lt_of_lt_of_le (nearOf_lt g) (Nat.pow_le_pow_right (by decide) (by omega))
  refine bits_is (nearOf_lt g) (by omega) hv fun j => ?_
  rw [hv2, List.mem_append, mem_bits (h62 l), mem_bits (h62 m), nearOf_is g hl, nearOf_is g hm, nearOf_is g (fun k hk => ?_)]
  · constructor
    · rintro (⟨k, hk, h⟩ | ⟨k, hk, h⟩)
      · exact ⟨k, (hu k).mpr (List.mem_append_left _ hk), h⟩
      · exact ⟨k, (hu k).mpr (List.mem_append_right _ hk), h⟩
    · rintro ⟨k, hk, h⟩
      rcases List.mem_append.mp ((hu k).mp hk) with hk | hk
      · exact .inl ⟨k, hk, h⟩
      · exact .inr ⟨k, hk, h⟩
  · rcases List.mem_append.mp ((hu k).mp hk) with hk | hk
    · exact hl k hk
    · exact hm k hk
theorem plain_good {n : Nat} (h : n ≤ 12) : GoodQ n ((List.range n).map fun i => (i, i)) := ⟨h, fun p hp => by
  obtain ⟨i, hi, rfl⟩ := List.mem_map.mp hp
  exact ⟨Nat.le_refl _, List.mem_range.mp hi⟩⟩
theorem plain_is {n : Nat} {qs : List NP} (h12 : n ≤ 12) (h : qs.Perm ((List.range n).map fun i => (i, i))) {l vs : List Nat} (hl : ∀ k ∈ l, k < n) (hv : vs.Pairwise (· < ·)) (hv2 : ∀ k, k ∈ vs ↔ k ∈ l) : bits (nearOf (nearM n qs) (maskOf l)) = vs := by
  have g := (plain_good h12).perm h
  refine bits_is (nearOf_lt g) (by omega) hv fun j => ?_
  rw [hv2, nearOf_is g hl]
  have np : ∀ k, nearP qs k j ↔ k < n ∧ k = j := fun k => by
    rw [nearP_perm h]
    unfold nearP
    simp only [List.mem_map, List.mem_range, Prod.mk.injEq]
    constructor
    · rintro (⟨a, b, c, d⟩ | ⟨a, b, c, d⟩) <;> omega
    · rintro ⟨a, rfl⟩
      exact .inl ⟨k, a, rfl, rfl⟩
  constructor
  · intro hj
    exact ⟨j, hj, (np j).mpr ⟨hl j hj, rfl⟩⟩
  · rintro ⟨k, hk, h⟩
    rw [← ((np k).mp h).2]
    exact hk
theorem rgV_nvs (n : Nat) : rgV 0 (n : Int) = nvs (List.range n) := by
  unfold rgV
  rw [Int.sub_zero, Int.toNat_natCast]
  exact List.map_congr_left fun i _ => congrArg V.int (Int.zero_add _)
theorem cut_nvs {l : List Nat} {k : Nat} (h : k ≤ l.length) : cutV (nvs l) none (some (k : Int)) = nvs (l.take k) := by
  rw [cut_to (by rw [List.length_map]; exact h)]
  exact (List.map_take ..).symm
/-- a lot of drawn keys -/
theorem lot_ok {zs : List Nat} {n : Nat} (h : zs.Perm (List.range n)) (k : Nat) : (zs.take k).Nodup ∧ (∀ j ∈ zs.take k, j < n) ∧ (zs.take k).length ≤ n := by
  have h1 : zs.Nodup := h.nodup_iff.mpr List.nodup_range
  refine ⟨List.Nodup.sublist (List.take_sublist _ _) h1, fun j hj => List.mem_range.mp (h.mem_iff.mp (List.mem_of_mem_take hj)), ?_⟩
  have := h.length_eq
  rw [List.length_range] at this
  rw [List.length_take]
  omega
theorem cat_nvs (a b : List Nat) : nvs a ++ nvs b = ((a ++ b).map Int.ofNat).map V.int := by
  rw [← nvs_ivs]
  exact (List.map_append ..).symm
theorem bits_len {m n : Nat} (h : m < 2 ^ n) : (bits m).length ≤ n := nd_len ((bits_inc m).imp fun h => Nat.ne_of_lt h) fun k hk => bits_below h hk
end Kr
namespace Kr
open PySem PySem.Spec PyProof.Rows L2 Kb
section
variable {P : Program} {w : World} {K : PySem.W.Frag} {mg : Str → Option Value} {base : Heap}
theorem KeysAt.apart {C b : Addr} {H : Hp} {k : Addr} {n : Nat} {qs : List NP} (hb : Bx b H) (h : KeysAt C H k n qs) : KeysAt C (hbx b H) k n qs := by
  obtain ⟨dx, t, ys, h1, h2, h3⟩ := h
  exact ⟨dx, t, ys, hb.non h1 (fun xs z => nomatch z), hb.non h2 (fun xs z => nomatch z), Paired.mapP h3 fun _ _ ⟨a, e1, e2⟩ => ⟨a, e1, hb.non e2 fun xs z => nomatch z⟩⟩
theorem Prs.apart {b : Addr} {H : Hp} {xs : List V} {ps : List NP} (hb : Bx b H) (h : Prs H xs ps) : Prs (hbx b H) xs ps := Paired.mapP h fun _ _ ⟨a, e1, e2⟩ => ⟨a, e1, hb.non e2 fun xs z => nomatch z⟩
/-- a pair, lists of pairs, as data -/
def pD (p : NP) : PyData := .tuple [.int p.1, .int p.2]
theorem dp_pair {H : Hp} {a : Addr} {p : NP} (h : H a = some (.tup [nv p.1, nv p.2])) : Dp K H (.ref a) (pD p) := .tup (.inl (.inl h)) (.cons (.int _) (.cons (.int _) .nil))
theorem dp_all {H : Hp} : ∀ {xs : List V} {ps : List NP}, Prs H xs ps → DpAll K H xs (ps.map pD)
  | _, _, .nil => .nil
  | _, _, .cons ⟨a, e1, e2⟩ t => by
    subst e1
    exact .cons (dp_pair e2) (dp_all t)
theorem dp_prs {H : Hp} {t : Addr} {xs : List V} {ps : List NP} (h : SqL K H t xs) (hp : Prs H xs ps) : Dp K H (.ref t) (.list (ps.map pD)) := .lst h (dp_all hp)
theorem sh_pair (p : NP) : SeqAt.shaped (pD p) = true := by
  simp [SeqAt.shaped, pD, PyData.canLay0, PyData.canLayAll0, PyData.depth, PyData.depthAll]
theorem sh_prs (ps : List NP) : SeqAt.shaped (.list (ps.map pD)) = true := by
  have h1 : PyData.canLayAll0 (ps.map pD) = true ∧ PyData.depthAll (ps.map pD) ≤ 3 := by
    induction ps with
    | nil => simp [PyData.canLayAll0, PyData.depthAll]
    | cons p r ih =>
      obtain ⟨i1, i2⟩ := ih
      rw [List.map_cons]
      refine ⟨?_, ?_⟩
      · simp [PyData.canLayAll0, i1, pD, PyData.canLay0]
      · simp [PyData.depthAll, pD, PyData.depth]
        omega
  simp [SeqAt.shaped, PyData.canLay0, PyData.depth, h1.1]
  omega
theorem any_prs (ps : List NP) (a b : Nat) : ((ps.map pD).any fun z => PyData.eqv z (pD (a, b))) = decide ((a, b) ∈ ps) := by
  rw [Bool.eq_iff_iff, List.any_eq_true, decide_eq_true_eq]
  constructor
  · rintro ⟨z, hz, e⟩
    obtain ⟨p, hp, rfl⟩ := List.mem_map.mp hz
    simp [pD, PyData.eqv, PyData.eqvAll] at e
    rw [show (a, b) = p from Prod.ext (by show a = p.1; omega) (by show b = p.2; omega)]
    exact hp
  · intro h
    exact ⟨pD (a, b), List.mem_map.mpr ⟨_, h, rfl⟩, by simp [pD, PyData.eqv, PyData.eqvAll]⟩
theorem flat_nvs (l : List Nat) : (nvs l).all flatV = true := by
  rw [List.all_eq_true]
  intro x hx
  obtain ⟨k, _, rfl⟩ := List.mem_map.mp hx
  rfl
theorem in_nvs (k : Nat) (l : List Nat) : inV (nv k) (nvs l) = decide (k ∈ l) := by
  unfold inV
  rw [Bool.eq_iff_iff, List.any_eq_true, decide_eq_true_eq]
  constructor
  · rintro ⟨y, hy, e⟩
    obtain ⟨m, hm, rfl⟩ := List.mem_map.mp hy
    have e2 : (m : Int) = (k : Int) := by simpa [eqV] using e
    rw [show k = m by omega]
    exact hm
  · intro h
    exact ⟨nv k, List.mem_map.mpr ⟨k, h, rfl⟩, by simp [eqV]⟩
theorem dp_nvs {H : Hp} {a : Addr} {l : List Nat} (h : SqL K H a (nvs l)) : Dp K H (.ref a) (.list ((l.map Int.ofNat).map PyData.int)) := by
  rw [nvs_ivs] at h
  exact .lst h (dp_ints _)
theorem eqv_nil (l : List Nat) : PyData.eqv (.list ((l.map Int.ofNat).map PyData.int)) (.list []) = decide (l = []) := by
  cases l with
  | nil => rfl
  | cons a r => rfl
def sp_law (K : PySem.W.Frag) : Sp := fun vs H Q _ => ∃ a ns, vs = [.ref a] ∧ SqL K H a (ivs ns) ∧ ns.length ≤ 63 ∧ ∀ H', Q (.bl true) H'
theorem ok_law (T : Tx K mg) : FnOk P w K mg base CX0 7 T.a_law T.d_law ["script"] (sp_law K) := by
  refine T.F_law.ok sc_law (fun vs H Q E h => ?_) (fun cdv A outer s H vs Q E hr h => ?_)
  · obtain ⟨a, ns, rfl, _⟩ := h
    rfl
  · obtain ⟨a, ns, rfl, hs, hn, q⟩ := h
    refine ⟨_, (pss_cons (ps_set (i := 1) sc_law.nd rfl (Or.inl rfl) (pe_call (ok__law_box T) (hr.mono (by decide)) (by rfl) T.g__law_box T.F__law_box.kp T.b__law_box .nil pass0 (pa_cons (pv 0) pa_nil)))
      (pss_cons (ps_for PassesOwn.never rfl (pi_range1 (by rfl) T.n_range (pa_cons pe_int pa_nil)) (pg_name (i := 2) sc_law.nd rfl (Or.inl rfl)) (pss_cons (ps_set (i := 3) sc_law.nd rfl (Or.inl rfl) (pe_ifExp (pt_cmpR op_eq (pv 2) pe_int (nomark _)) pe_int (pe_op op_add pe_int (pe_call (ok__law_take T) (hr.mono (by decide)) (by rfl) T.g__law_take T.F__law_take.kp T.b__law_take .nil pass0 (pa_cons (pv 1) (pa_cons pe_int pa_nil))))))
      (pss_cons (ps_set (i := 4) sc_law.nd rfl (Or.inr rfl) (pe_call (ok__law_graph T) (hr.mono (by decide)) (by rfl) T.g__law_graph T.F__law_graph.kp T.b__law_graph .nil pass0 (pa_cons (pv 1) (pa_cons (pv 3) pa_nil))))
      (pss_cons (ps_set (i := 5) sc_law.nd rfl (Or.inl rfl) (pe_make T.m_Keys (ok_Keys___init__ T) (hr.mono (by decide)) (by rfl) T.g_Keys T.b_Keys___init__ .nil pass0 (pa_cons (pv 3) (pa_cons (pv 4) pa_nil))))
      (pss_cons (ps_for PassesOwn.never rfl (pi_range1 (by rfl) T.n_range (pa_cons (pv 3) pa_nil)) (pg_name (i := 6) sc_law.nd rfl (Or.inr rfl)) (pss_cons (ps_setLc (i := 7) (own := [("other", 8)]) rfl sc_law.nd rfl rfl (sw_true rfl rfl rfl (by decide +kernel)) (pi_range1 (by rfl) T.n_range (pa_cons (pv 3) pa_nil)) (blkOk_by (own := [("other", 8)]) (N := ["script", "box", "turn", "many", "pairs", "keys", "one", "close", "other", "near", "key", "ask", "lot", "more", "told", "both"]) (sc := defScope s_law) (by decide +kernel)) (fun _ _ _ _ _ => (pg_name (i := 8) sc_law.nd rfl (by first | exact Or.inl rfl | exact Or.inr rfl))) (fun _ _ _ _ _ => (pts_one (PW.pt (pw_or (pt_cmpR (inDK (K := K) rfl (hu65 hr)) (pe_tup (pa_cons (pv 6) (pa_cons (pv 8) pa_nil))) (pv 4) (by rfl)) (pw_or1 (pt_cmpR (inDK (K := K) rfl (hu65 hr)) (pe_tup (pa_cons (pv 8) (pa_cons (pv 6) pa_nil))) (pv 4) (by rfl))))))) (fun _ _ _ _ _ => (pv 8)))
      (pss_cons (ps_for PassesOwn.never rfl (pi_range1 (by rfl) T.n_range (pa_cons (pv 3) pa_nil)) (pg_name (i := 8) sc_law.nd rfl (Or.inl rfl)) (pss_one (ps_if (pt_not (pt_val (pe_call (ok__law_is T) (hr.mono (by decide)) (by rfl) T.g__law_is T.F__law_is.kp T.b__law_is .nil pass0 (pa_cons (pe_call (ok_clash T) (hr.mono (by decide)) (by rfl) T.g_clash T.F_clash.kp T.b_clash .nil pass0 (pa_cons (pv 5) (pa_cons (pv 6) (pa_cons (pv 8) pa_nil)))) (pa_cons (pe_cmpR (inK (K := K) rfl) (pv 8) (pv 7) (by rfl)) pa_nil))))) (pss_one (ps_ret pe_bl)) pss_nil)))
      (pss_one (ps_if (PW.pt (pw_or (pt_not (pt_val (pe_call (ok__law_is T) (hr.mono (by decide)) (by rfl) T.g__law_is T.F__law_is.kp T.b__law_is .nil pass0 (pa_cons (pe_call (ok_clashing T) (hr.mono (by decide)) (by rfl) T.g_clashing T.F_clashing.kp T.b_clashing .nil pass0 (pa_cons (pv 5) (pa_cons (pe_lst (pa_cons (pv 6) pa_nil)) pa_nil))) (pa_cons (pe_callTy (tupOfK (K := K) rfl) (by rfl) T.n_tuple (by decide +kernel) (pa_cons (pv 7) pa_nil)) pa_nil))))) (pw_or1 (pt_cmpR op_ne (pe_cmpR (eqDK (K := K) rfl hr.units) (pv 7) (pe_lst pa_nil) (nomark _)) (pe_cmpR (inK (K := K) rfl) (pv 6) (pe_call (ok_bare_keys T) (hr.mono (by decide)) (by rfl) T.g_bare_keys T.F_bare_keys.kp T.b_bare_keys .nil pass0 (pa_cons (pv 5) pa_nil)) (by rfl)) (nomark _))))) (pss_one (ps_ret pe_bl)) pss_nil)))))
      (pss_cons (ps_set (i := 9) sc_law.nd rfl (Or.inr rfl) (pe_call (ok__law_near T) (hr.mono (by decide)) (by rfl) T.g__law_near T.F__law_near.kp T.b__law_near .nil pass0 (pa_cons (pv 3) (pa_cons (pv 4) pa_nil))))
      (pss_cons (ps_if (pt_not (pt_val (pe_call (ok__law_is T) (hr.mono (by decide)) (by rfl) T.g__law_is T.F__law_is.kp T.b__law_is .nil pass0 (pa_cons (pe_call (ok_bare_keys T) (hr.mono (by decide)) (by rfl) T.g_bare_keys T.F_bare_keys.kp T.b_bare_keys .nil pass0 (pa_cons (pv 5) pa_nil)) (pa_cons (pe_callTy (tupOfK (K := K) rfl) (by rfl) T.n_tuple (by decide +kernel) (pa_cons (pe_lc (own := [("key", 10)]) (by rfl) sc_law.nd (pi_range1 (by rfl) T.n_range (pa_cons (pv 3) pa_nil)) (blkOk_by (own := [("key", 10)]) (N := ["script", "box", "turn", "many", "pairs", "keys", "one", "close", "other", "near", "key", "ask", "lot", "more", "told", "both"]) (sc := defScope s_law) (by decide +kernel)) (fun _ _ _ _ _ => (pg_name (i := 10) sc_law.nd rfl (by first | exact Or.inl rfl | exact Or.inr rfl))) (fun _ _ _ _ _ => (pts_one (pt_cmpR op_eq (pe_ix (ixL (K := K) rfl) (pv 9) (pv 10) (fun _ _ => rfl)) pe_int (nomark _)))) (fun _ _ _ _ _ => (pv 10))) pa_nil)) pa_nil))))) (pss_one (ps_ret pe_bl)) pss_nil)
      (pss_one (ps_for PassesOwn.never rfl (pi_range1 (by rfl) T.n_range (pa_cons pe_int pa_nil)) (pg_name (i := 11) sc_law.nd rfl (Or.inl rfl)) (pss_cons (ps_set (i := 12) sc_law.nd rfl (Or.inl rfl) (pe_slice (slL (K := K) rfl) (pe_call (ok__law_mixed T) (hr.mono (by decide)) (by rfl) T.g__law_mixed T.F__law_mixed.kp T.b__law_mixed .nil pass0 (pa_cons (pv 1) (pa_cons (pe_listRg rfl (by rfl) T.n_list (prg_1 (by rfl) T.n_range (pv 3))) pa_nil))) po_none (po_some (pe_call (ok__law_take T) (hr.mono (by decide)) (by rfl) T.g__law_take T.F__law_take.kp T.b__law_take .nil pass0 (pa_cons (pv 1) (pa_cons (pe_op op_add (pv 3) pe_int) pa_nil))))))
      (pss_cons (ps_set (i := 13) sc_law.nd rfl (Or.inl rfl) (pe_slice (slL (K := K) rfl) (pe_call (ok__law_mixed T) (hr.mono (by decide)) (by rfl) T.g__law_mixed T.F__law_mixed.kp T.b__law_mixed .nil pass0 (pa_cons (pv 1) (pa_cons (pe_listRg rfl (by rfl) T.n_list (prg_1 (by rfl) T.n_range (pv 3))) pa_nil))) po_none (po_some (pe_call (ok__law_take T) (hr.mono (by decide)) (by rfl) T.g__law_take T.F__law_take.kp T.b__law_take .nil pass0 (pa_cons (pv 1) (pa_cons (pe_op op_add (pv 3) pe_int) pa_nil))))))
      (pss_cons (ps_par (i := 14) (j := 8) (by rfl) sc_law.nd rfl rfl (by decide) rfl rfl (pa_cons (pe_call (ok_clashing T) (hr.mono (by decide)) (by rfl) T.g_clashing T.F_clashing.kp T.b_clashing .nil pass0 (pa_cons (pv 5) (pa_cons (pv 12) pa_nil))) (pa_cons (pe_call (ok_clashing T) (hr.mono (by decide)) (by rfl) T.g_clashing T.F_clashing.kp T.b_clashing .nil pass0 (pa_cons (pv 5) (pa_cons (pe_callTy (tupOfK (K := K) rfl) (by rfl) T.n_tuple (by decide +kernel) (pa_cons (pv 13) pa_nil)) pa_nil))) pa_nil)) (by rfl))
      (pss_cons (ps_if (pt_not (pt_val (pe_call (ok__law_is T) (hr.mono (by decide)) (by rfl) T.g__law_is T.F__law_is.kp T.b__law_is .nil pass0 (pa_cons (pv 14) (pa_cons (pe_call (ok__law_lot T) (hr.mono (by decide)) (by rfl) T.g__law_lot T.F__law_lot.kp T.b__law_lot .nil pass0 (pa_cons (pe_call (ok__law_close T) (hr.mono (by decide)) (by rfl) T.g__law_close T.F__law_close.kp T.b__law_close .nil pass0 (pa_cons (pv 9) (pa_cons (pe_call (ok__law_mask T) (hr.mono (by decide)) (by rfl) T.g__law_mask T.F__law_mask.kp T.b__law_mask .nil pass0 (pa_cons (pv 12) pa_nil)) pa_nil))) pa_nil)) pa_nil))))) (pss_one (ps_ret pe_bl)) pss_nil)
      (pss_cons (ps_set (i := 15) sc_law.nd rfl (Or.inl rfl) (pe_sset (K := K) rfl rfl (by rfl) T.n_sorted (by rfl) T.n_set (pa_cons (pe_op op_cat (pv 12) (pv 13)) pa_nil)))
      (pss_cons (ps_if (pt_not (pt_val (pe_call (ok__law_is T) (hr.mono (by decide)) (by rfl) T.g__law_is T.F__law_is.kp T.b__law_is .nil pass0 (pa_cons (pe_call (ok_clashing T) (hr.mono (by decide)) (by rfl) T.g_clashing T.F_clashing.kp T.b_clashing .nil pass0 (pa_cons (pv 5) (pa_cons (pv 15) pa_nil))) (pa_cons (pe_callTy (tupOfK (K := K) rfl) (by rfl) T.n_tuple (by decide +kernel) (pa_cons (pe_sset (K := K) rfl rfl (by rfl) T.n_sorted (by rfl) T.n_set (pa_cons (pe_op op_cat (pe_callTy (listOfK (K := K) rfl) (by rfl) T.n_list (by decide +kernel) (pa_cons (pv 14) pa_nil)) (pe_callTy (listOfK (K := K) rfl) (by rfl) T.n_list (by decide +kernel) (pa_cons (pv 8) pa_nil))) pa_nil)) pa_nil)) pa_nil))))) (pss_one (ps_ret pe_bl)) pss_nil)
      (pss_one (ps_if (pt_not (pt_val (pe_call (ok__law_is T) (hr.mono (by decide)) (by rfl) T.g__law_is T.F__law_is.kp T.b__law_is .nil pass0 (pa_cons (pe_call (ok_clashing T) (hr.mono (by decide)) (by rfl) T.g_clashing T.F_clashing.kp T.b_clashing .nil pass0 (pa_cons (pe_call (ok_plain_keys T) (hr.mono (by decide)) (by rfl) T.g_plain_keys T.F_plain_keys.kp T.b_plain_keys .nil pass0 (pa_cons (pv 3) pa_nil)) (pa_cons (pv 12) pa_nil))) (pa_cons (pe_callTy (tupOfK (K := K) rfl) (by rfl) T.n_tuple (by decide +kernel) (pa_cons (pe_callB (sortIK (K := K) rfl) (by rfl) T.n_sorted (by decide +kernel) (pa_cons (pv 12) pa_nil)) pa_nil)) pa_nil))))) (pss_one (ps_ret pe_bl)) pss_nil)))))))))))))))))
      (pss_one (ps_ret pe_bl)))), ?_⟩
    rw [show L2.start ["script", "box", "turn", "many", "pairs", "keys", "one", "close", "other", "near", "key", "ask", "lot", "more", "told", "both"] [.ref a] = [some (.ref a), none, none, none, none, none, none, none, none, none, none, none, none, none, none, none] from rfl]
    generalize hF1 : tFor _ _ _ = F1
    (try simp only [tVar, tC, tOp, tUn, rI, rI0, rU, rEq, rNe, scal, tTest, tB, tAnd, tOr, tNot, tAndV, tOrV, tNotV, tIf, tChain, tNil, tCons, tCB, tCall, tTup, tLst, tRet, tRetN, tDrop, tSeq, tNext, tIfS, tAsg, gName, tPar, tPar3, gNil, gCons, gTup, gSub, tAug, tSl, tNoPart, tPart, tBM, tBM0, tYes, tIsP, iSeq, iEnumA, RZ.iZipA, iRng1, iRng2, iList, iTup, rIsi, rIsB, rIxL, rIxT, rIxA, rLenA, rListOf, rTupOf, rSetL, rSlL, rCat, rAppend, tFld, sFld, tMake, tBits, Int.ofNat_inj, cast1, cast0, TruV, cxOf, Cx.nox, Cx.wish, tNever, tBreak, tCont, ipI, tDIn, tDNotIn, sDPut, tDNewT, tDNewK, tDGet, rSortedPO, rSortedI, rIn, rEqD, rNeD, rInD, rNotInD, tSSet, rIsV, rIntI, rIntB, rAbsN, tLstRg, tRg1, tRg2, List.append_nil, List.nil_append, List.cons_append, Option.some.injEq, exists_eq_left', exists_eq_left, exists_eq_right, exists_eq_right', List.getElem?_cons_zero, List.getElem?_cons_succ, List.set_cons_zero, List.set_cons_succ, List.cons.injEq, and_true, true_and, exists_and_left, exists_and_right, and_assoc, V.int.injEq, V.bl.injEq, V.ref.injEq, V.str.injEq, reduceCtorEq, decide_true, decide_false, Bool.not_true, Bool.not_false, Bool.false_eq_true, if_false, if_true, ite_true, ite_false, List.length_cons, List.length_nil])
    refine ⟨a, ns, rfl, hs, hn, fun H1 b s1 hb0 hb1 => ?_⟩
    (try simp only [tVar, tC, tOp, tUn, rI, rI0, rU, rEq, rNe, scal, tTest, tB, tAnd, tOr, tNot, tAndV, tOrV, tNotV, tIf, tChain, tNil, tCons, tCB, tCall, tTup, tLst, tRet, tRetN, tDrop, tSeq, tNext, tIfS, tAsg, gName, tPar, tPar3, gNil, gCons, gTup, gSub, tAug, tSl, tNoPart, tPart, tBM, tBM0, tYes, tIsP, iSeq, iEnumA, RZ.iZipA, iRng1, iRng2, iList, iTup, rIsi, rIsB, rIxL, rIxT, rIxA, rLenA, rListOf, rTupOf, rSetL, rSlL, rCat, rAppend, tFld, sFld, tMake, tBits, Int.ofNat_inj, cast1, cast0, TruV, cxOf, Cx.nox, Cx.wish, tNever, tBreak, tCont, ipI, tDIn, tDNotIn, sDPut, tDNewT, tDNewK, tDGet, rSortedPO, rSortedI, rIn, rEqD, rNeD, rInD, rNotInD, tSSet, rIsV, rIntI, rIntB, rAbsN, tLstRg, tRg1, tRg2, List.append_nil, List.nil_append, List.cons_append, Option.some.injEq, exists_eq_left', exists_eq_left, exists_eq_right, exists_eq_right', List.getElem?_cons_zero, List.getElem?_cons_succ, List.set_cons_zero, List.set_cons_succ, List.cons.injEq, and_true, true_and, exists_and_left, exists_and_right, and_assoc, V.int.injEq, V.bl.injEq, V.ref.injEq, V.str.injEq, reduceCtorEq, decide_true, decide_false, Bool.not_true, Bool.not_false, Bool.false_eq_true, if_false, if_true, ite_true, ite_false, List.length_cons, List.length_nil])
    subst hF1
    refine forR1 6 (fun i σ' H' => ∃ y2 y3 y4 y5 y6 y7 y8 y9 y10 y11 y12 y13 y14 y15, σ' = [some (.ref a), some (.ref b), y2, y3, y4, y5, y6, y7, y8, y9, y10, y11, y12, y13, y14, y15] ∧ Bx b H') (fun R h => ?_) (by decide) ⟨_, _, _, _, _, _, _, _, _, _, _, _, _, _, rfl, hb1⟩ ?_ ?_
    · (try simp only [tVar, tC, tOp, tUn, rI, rI0, rU, rEq, rNe, scal, tTest, tB, tAnd, tOr, tNot, tAndV, tOrV, tNotV, tIf, tChain, tNil, tCons, tCB, tCall, tTup, tLst, tRet, tRetN, tDrop, tSeq, tNext, tIfS, tAsg, gName, tPar, tPar3, gNil, gCons, gTup, gSub, tAug, tSl, tNoPart, tPart, tBM, tBM0, tYes, tIsP, iSeq, iEnumA, RZ.iZipA, iRng1, iRng2, iList, iTup, rIsi, rIsB, rIxL, rIxT, rIxA, rLenA, rListOf, rTupOf, rSetL, rSlL, rCat, rAppend, tFld, sFld, tMake, tBits, Int.ofNat_inj, cast1, cast0, TruV, cxOf, Cx.nox, Cx.wish, tNever, tBreak, tCont, ipI, tDIn, tDNotIn, sDPut, tDNewT, tDNewK, tDGet, rSortedPO, rSortedI, rIn, rEqD, rNeD, rInD, rNotInD, tSSet, rIsV, rIntI, rIntB, rAbsN, tLstRg, tRg1, tRg2, List.append_nil, List.nil_append, List.cons_append, Option.some.injEq, exists_eq_left', exists_eq_left, exists_eq_right, exists_eq_right', List.getElem?_cons_zero, List.getElem?_cons_succ, List.set_cons_zero, List.set_cons_succ, List.cons.injEq, and_true, true_and, exists_and_left, exists_and_right, and_assoc, V.int.injEq, V.bl.injEq, V.ref.injEq, V.str.injEq, reduceCtorEq, decide_true, decide_false, Bool.not_true, Bool.not_false, Bool.false_eq_true, if_false, if_true, ite_true, ite_false, List.length_cons, List.length_nil])
      exact h
    · rintro turn σ' H2 _ ⟨y2, y3, y4, y5, y6, y7, y8, y9, y10, y11, y12, y13, y14, y15, rfl, hb2⟩
      generalize hF2 : tFor _ _ _ = F2
      generalize hS : tSeq (tAsg (tCall (sp_law_near K) _ _ _) _) _ = S2
      have p1 : ∀ (D : Ends) (n : Nat) (t k : Addr) (xs : List V) (ps qs : List NP) (H3 : Hp) (y6 y7 y8 : Option V), 1 ≤ n → SqL K H3 t xs → Prs H3 xs ps → GoodQ n ps → qs.Perm ps → KeysAt T.c_Keys H3 k n qs →
          (∀ H' y6 y7 y8, Same H3 H' → D.nx [some (.ref a), some (.ref b), some (nv turn), some (nv n), some (.ref t), some (.ref k), y6, y7, y8, y9, y10, y11, y12, y13, y14, y15] H') →
          F2 D [some (.ref a), some (.ref b), some (nv turn), some (nv n), some (.ref t), some (.ref k), y6, y7, y8, y9, y10, y11, y12, y13, y14, y15] H3 := by
        intro D n t k xs ps qs H3 y6 y7 y8 n1 ht hp0 hg hpm hk hq
        subst hF2
        have h12 := hg.1
        refine forR1 n (fun i σ' H' => ∃ y6 y7 y8, σ' = [some (.ref a), some (.ref b), some (nv turn), some (nv n), some (.ref t), some (.ref k), y6, y7, y8, y9, y10, y11, y12, y13, y14, y15] ∧ Same H3 H') (fun R h => ?_) (by omega) ⟨_, _, _, rfl, Same.refl _⟩ ?_ ?_
        · (try simp only [tVar, tC, tOp, tUn, rI, rI0, rU, rEq, rNe, scal, tTest, tB, tAnd, tOr, tNot, tAndV, tOrV, tNotV, tIf, tChain, tNil, tCons, tCB, tCall, tTup, tLst, tRet, tRetN, tDrop, tSeq, tNext, tIfS, tAsg, gName, tPar, tPar3, gNil, gCons, gTup, gSub, tAug, tSl, tNoPart, tPart, tBM, tBM0, tYes, tIsP, iSeq, iEnumA, RZ.iZipA, iRng1, iRng2, iList, iTup, rIsi, rIsB, rIxL, rIxT, rIxA, rLenA, rListOf, rTupOf, rSetL, rSlL, rCat, rAppend, tFld, sFld, tMake, tBits, Int.ofNat_inj, cast1, cast0, TruV, cxOf, Cx.nox, Cx.wish, tNever, tBreak, tCont, ipI, tDIn, tDNotIn, sDPut, tDNewT, tDNewK, tDGet, rSortedPO, rSortedI, rIn, rEqD, rNeD, rInD, rNotInD, tSSet, rIsV, rIntI, rIntB, rAbsN, tLstRg, tRg1, tRg2, List.append_nil, List.nil_append, List.cons_append, Option.some.injEq, exists_eq_left', exists_eq_left, exists_eq_right, exists_eq_right', List.getElem?_cons_zero, List.getElem?_cons_succ, List.set_cons_zero, List.set_cons_succ, List.cons.injEq, and_true, true_and, exists_and_left, exists_and_right, and_assoc, V.int.injEq, V.bl.injEq, V.ref.injEq, V.str.injEq, reduceCtorEq, decide_true, decide_false, Bool.not_true, Bool.not_false, Bool.false_eq_true, if_false, if_true, ite_true, ite_false, List.length_cons, List.length_nil])
          exact h
        · rintro i σ' H' hi ⟨y6, y7, y8, rfl, sm⟩
          generalize hL1 : tLc _ _ _ _ _ = L1
          generalize hF3 : tFor _ _ _ = F3
          (try simp only [tVar, tC, tOp, tUn, rI, rI0, rU, rEq, rNe, scal, tTest, tB, tAnd, tOr, tNot, tAndV, tOrV, tNotV, tIf, tChain, tNil, tCons, tCB, tCall, tTup, tLst, tRet, tRetN, tDrop, tSeq, tNext, tIfS, tAsg, gName, tPar, tPar3, gNil, gCons, gTup, gSub, tAug, tSl, tNoPart, tPart, tBM, tBM0, tYes, tIsP, iSeq, iEnumA, RZ.iZipA, iRng1, iRng2, iList, iTup, rIsi, rIsB, rIxL, rIxT, rIxA, rLenA, rListOf, rTupOf, rSetL, rSlL, rCat, rAppend, tFld, sFld, tMake, tBits, Int.ofNat_inj, cast1, cast0, TruV, cxOf, Cx.nox, Cx.wish, tNever, tBreak, tCont, ipI, tDIn, tDNotIn, sDPut, tDNewT, tDNewK, tDGet, rSortedPO, rSortedI, rIn, rEqD, rNeD, rInD, rNotInD, tSSet, rIsV, rIntI, rIntB, rAbsN, tLstRg, tRg1, tRg2, List.append_nil, List.nil_append, List.cons_append, Option.some.injEq, exists_eq_left', exists_eq_left, exists_eq_right, exists_eq_right', List.getElem?_cons_zero, List.getElem?_cons_succ, List.set_cons_zero, List.set_cons_succ, List.cons.injEq, and_true, true_and, exists_and_left, exists_and_right, and_assoc, V.int.injEq, V.bl.injEq, V.ref.injEq, V.str.injEq, reduceCtorEq, decide_true, decide_false, Bool.not_true, Bool.not_false, Bool.false_eq_true, if_false, if_true, ite_true, ite_false, List.length_cons, List.length_nil])
          subst hL1
          have gi : ∀ p ∈ ps, p.1 ≤ p.2 ∧ p.2 < n := hg.2
          refine lcR1S n (nearB ps i) nv (fun R h => ?_) (by omega) (fun j H4 Q1 Q2 hj s4 q1 q2 => ?_) fun L H5 hL s5 eL => ?_
          · (try simp only [tVar, tC, tOp, tUn, rI, rI0, rU, rEq, rNe, scal, tTest, tB, tAnd, tOr, tNot, tAndV, tOrV, tNotV, tIf, tChain, tNil, tCons, tCB, tCall, tTup, tLst, tRet, tRetN, tDrop, tSeq, tNext, tIfS, tAsg, gName, tPar, tPar3, gNil, gCons, gTup, gSub, tAug, tSl, tNoPart, tPart, tBM, tBM0, tYes, tIsP, iSeq, iEnumA, RZ.iZipA, iRng1, iRng2, iList, iTup, rIsi, rIsB, rIxL, rIxT, rIxA, rLenA, rListOf, rTupOf, rSetL, rSlL, rCat, rAppend, tFld, sFld, tMake, tBits, Int.ofNat_inj, cast1, cast0, TruV, cxOf, Cx.nox, Cx.wish, tNever, tBreak, tCont, ipI, tDIn, tDNotIn, sDPut, tDNewT, tDNewK, tDGet, rSortedPO, rSortedI, rIn, rEqD, rNeD, rInD, rNotInD, tSSet, rIsV, rIntI, rIntB, rAbsN, tLstRg, tRg1, tRg2, List.append_nil, List.nil_append, List.cons_append, Option.some.injEq, exists_eq_left', exists_eq_left, exists_eq_right, exists_eq_right', List.getElem?_cons_zero, List.getElem?_cons_succ, List.set_cons_zero, List.set_cons_succ, List.cons.injEq, and_true, true_and, exists_and_left, exists_and_right, and_assoc, V.int.injEq, V.bl.injEq, V.ref.injEq, V.str.injEq, reduceCtorEq, decide_true, decide_false, Bool.not_true, Bool.not_false, Bool.false_eq_true, if_false, if_true, ite_true, ite_false, List.length_cons, List.length_nil])
            exact h
          · (try simp only [tVar, tC, tOp, tUn, rI, rI0, rU, rEq, rNe, scal, tTest, tB, tAnd, tOr, tNot, tAndV, tOrV, tNotV, tIf, tChain, tNil, tCons, tCB, tCall, tTup, tLst, tRet, tRetN, tDrop, tSeq, tNext, tIfS, tAsg, gName, tPar, tPar3, gNil, gCons, gTup, gSub, tAug, tSl, tNoPart, tPart, tBM, tBM0, tYes, tIsP, iSeq, iEnumA, RZ.iZipA, iRng1, iRng2, iList, iTup, rIsi, rIsB, rIxL, rIxT, rIxA, rLenA, rListOf, rTupOf, rSetL, rSlL, rCat, rAppend, tFld, sFld, tMake, tBits, Int.ofNat_inj, cast1, cast0, TruV, cxOf, Cx.nox, Cx.wish, tNever, tBreak, tCont, ipI, tDIn, tDNotIn, sDPut, tDNewT, tDNewK, tDGet, rSortedPO, rSortedI, rIn, rEqD, rNeD, rInD, rNotInD, tSSet, rIsV, rIntI, rIntB, rAbsN, tLstRg, tRg1, tRg2, List.append_nil, List.nil_append, List.cons_append, Option.some.injEq, exists_eq_left', exists_eq_left, exists_eq_right, exists_eq_right', List.getElem?_cons_zero, List.getElem?_cons_succ, List.set_cons_zero, List.set_cons_succ, List.cons.injEq, and_true, true_and, exists_and_left, exists_and_right, and_assoc, V.int.injEq, V.bl.injEq, V.ref.injEq, V.str.injEq, reduceCtorEq, decide_true, decide_false, Bool.not_true, Bool.not_false, Bool.false_eq_true, if_false, if_true, ite_true, ite_false, List.length_cons, List.length_nil])
            have s3t := sm.trans s4
            refine ⟨by decide, fun p hp => ?_⟩
            have s5 := same_new (o := .tup [nv i, nv j]) hp
            have s35 := s3t.trans s5
            refine ⟨_, dp_pair (p := (i, j)) upd_same, _, dp_prs (Same.seq s35 ht) (hp0.same s35), sh_pair _, sh_prs _, ?_⟩
            rw [any_prs]
            by_cases e1 : (i, j) ∈ ps
            · rw [if_pos (decide_eq_true e1)]
              exact q1 _ s5 (by unfold nearB; rw [decide_eq_true e1]; rfl)
            · rw [if_neg (by rw [decide_eq_true_eq]; exact e1)]
              refine ⟨by decide, fun p2 hp2 => ?_⟩
              have s6 := same_new (o := .tup [nv j, nv i]) hp2
              have s36 := s35.trans s6
              refine ⟨_, dp_pair (p := (j, i)) upd_same, _, dp_prs (Same.seq s36 ht) (hp0.same s36), sh_pair _, sh_prs _, ?_⟩
              rw [any_prs]
              by_cases e2 : (j, i) ∈ ps
              · rw [if_pos (decide_eq_true e2)]
                exact q1 _ (s5.trans s6) (by unfold nearB; rw [decide_eq_true e2, Bool.or_true])
              · rw [if_neg (by rw [decide_eq_true_eq]; exact e2)]
                exact q2 _ (s5.trans s6) (by unfold nearB; rw [decide_eq_false e1, decide_eq_false e2]; rfl)
          · subst hF3
            have s35 : Same H3 H5 := sm.trans s5
            have dl : ((List.range n).filter (nearB ps i)).length ≤ n := by
              have := List.length_filter_le (nearB ps i) (List.range n)
              rw [List.length_range] at this
              exact this
            refine forR1 n (fun j σ' H' => ∃ y8, σ' = [some (.ref a), some (.ref b), some (nv turn), some (nv n), some (.ref t), some (.ref k), some (nv i), some (.ref L), y8, y9, y10, y11, y12, y13, y14, y15] ∧ Same H5 H') (fun R h => ?_) (by omega) ⟨_, rfl, Same.refl _⟩ ?_ ?_
            · (try simp only [tVar, tC, tOp, tUn, rI, rI0, rU, rEq, rNe, scal, tTest, tB, tAnd, tOr, tNot, tAndV, tOrV, tNotV, tIf, tChain, tNil, tCons, tCB, tCall, tTup, tLst, tRet, tRetN, tDrop, tSeq, tNext, tIfS, tAsg, gName, tPar, tPar3, gNil, gCons, gTup, gSub, tAug, tSl, tNoPart, tPart, tBM, tBM0, tYes, tIsP, iSeq, iEnumA, RZ.iZipA, iRng1, iRng2, iList, iTup, rIsi, rIsB, rIxL, rIxT, rIxA, rLenA, rListOf, rTupOf, rSetL, rSlL, rCat, rAppend, tFld, sFld, tMake, tBits, Int.ofNat_inj, cast1, cast0, TruV, cxOf, Cx.nox, Cx.wish, tNever, tBreak, tCont, ipI, tDIn, tDNotIn, sDPut, tDNewT, tDNewK, tDGet, rSortedPO, rSortedI, rIn, rEqD, rNeD, rInD, rNotInD, tSSet, rIsV, rIntI, rIntB, rAbsN, tLstRg, tRg1, tRg2, List.append_nil, List.nil_append, List.cons_append, Option.some.injEq, exists_eq_left', exists_eq_left, exists_eq_right, exists_eq_right', List.getElem?_cons_zero, List.getElem?_cons_succ, List.set_cons_zero, List.set_cons_succ, List.cons.injEq, and_true, true_and, exists_and_left, exists_and_right, and_assoc, V.int.injEq, V.bl.injEq, V.ref.injEq, V.str.injEq, reduceCtorEq, decide_true, decide_false, Bool.not_true, Bool.not_false, Bool.false_eq_true, if_false, if_true, ite_true, ite_false, List.length_cons, List.length_nil])
              exact h
            · rintro j σ' H6 hj ⟨y8, rfl, s6⟩
              (try simp only [tVar, tC, tOp, tUn, rI, rI0, rU, rEq, rNe, scal, tTest, tB, tAnd, tOr, tNot, tAndV, tOrV, tNotV, tIf, tChain, tNil, tCons, tCB, tCall, tTup, tLst, tRet, tRetN, tDrop, tSeq, tNext, tIfS, tAsg, gName, tPar, tPar3, gNil, gCons, gTup, gSub, tAug, tSl, tNoPart, tPart, tBM, tBM0, tYes, tIsP, iSeq, iEnumA, RZ.iZipA, iRng1, iRng2, iList, iTup, rIsi, rIsB, rIxL, rIxT, rIxA, rLenA, rListOf, rTupOf, rSetL, rSlL, rCat, rAppend, tFld, sFld, tMake, tBits, Int.ofNat_inj, cast1, cast0, TruV, cxOf, Cx.nox, Cx.wish, tNever, tBreak, tCont, ipI, tDIn, tDNotIn, sDPut, tDNewT, tDNewK, tDGet, rSortedPO, rSortedI, rIn, rEqD, rNeD, rInD, rNotInD, tSSet, rIsV, rIntI, rIntB, rAbsN, tLstRg, tRg1, tRg2, List.append_nil, List.nil_append, List.cons_append, Option.some.injEq, exists_eq_left', exists_eq_left, exists_eq_right, exists_eq_right', List.getElem?_cons_zero, List.getElem?_cons_succ, List.set_cons_zero, List.set_cons_succ, List.cons.injEq, and_true, true_and, exists_and_left, exists_and_right, and_assoc, V.int.injEq, V.bl.injEq, V.ref.injEq, V.str.injEq, reduceCtorEq, decide_true, decide_false, Bool.not_true, Bool.not_false, Bool.false_eq_true, if_false, if_true, ite_true, ite_false, List.length_cons, List.length_nil])
              refine ⟨k, n, qs, i, j, rfl, hk.same (s35.trans s6), hg.perm hpm, ⟨hi, hj⟩, fun H7 s7 => ?_⟩
              (try simp only [tVar, tC, tOp, tUn, rI, rI0, rU, rEq, rNe, scal, tTest, tB, tAnd, tOr, tNot, tAndV, tOrV, tNotV, tIf, tChain, tNil, tCons, tCB, tCall, tTup, tLst, tRet, tRetN, tDrop, tSeq, tNext, tIfS, tAsg, gName, tPar, tPar3, gNil, gCons, gTup, gSub, tAug, tSl, tNoPart, tPart, tBM, tBM0, tYes, tIsP, iSeq, iEnumA, RZ.iZipA, iRng1, iRng2, iList, iTup, rIsi, rIsB, rIxL, rIxT, rIxA, rLenA, rListOf, rTupOf, rSetL, rSlL, rCat, rAppend, tFld, sFld, tMake, tBits, Int.ofNat_inj, cast1, cast0, TruV, cxOf, Cx.nox, Cx.wish, tNever, tBreak, tCont, ipI, tDIn, tDNotIn, sDPut, tDNewT, tDNewK, tDGet, rSortedPO, rSortedI, rIn, rEqD, rNeD, rInD, rNotInD, tSSet, rIsV, rIntI, rIntB, rAbsN, tLstRg, tRg1, tRg2, List.append_nil, List.nil_append, List.cons_append, Option.some.injEq, exists_eq_left', exists_eq_left, exists_eq_right, exists_eq_right', List.getElem?_cons_zero, List.getElem?_cons_succ, List.set_cons_zero, List.set_cons_succ, List.cons.injEq, and_true, true_and, exists_and_left, exists_and_right, and_assoc, V.int.injEq, V.bl.injEq, V.ref.injEq, V.str.injEq, reduceCtorEq, decide_true, decide_false, Bool.not_true, Bool.not_false, Bool.false_eq_true, if_false, if_true, ite_true, ite_false, List.length_cons, List.length_nil])
              refine ⟨_, .inl (.of (s7 _ _ (s6 _ _ eL))), rfl, flat_nvs _, ?_⟩
              rw [in_nvs, show ((nearM n qs).getD i 0).testBit j = decide (j ∈ (List.range n).filter (nearB ps i)) by
                rw [Bool.eq_iff_iff, near_test (hg.perm hpm).2, nearP_perm hpm, decide_eq_true_eq, List.mem_filter, List.mem_range, nearB_is]
                exact ⟨fun h => ⟨hj, h⟩, fun h => h.2⟩]
              refine ⟨_, _, rfl, .bl _ _, fun H8 s8 => ?_⟩
              (try simp only [tVar, tC, tOp, tUn, rI, rI0, rU, rEq, rNe, scal, tTest, tB, tAnd, tOr, tNot, tAndV, tOrV, tNotV, tIf, tChain, tNil, tCons, tCB, tCall, tTup, tLst, tRet, tRetN, tDrop, tSeq, tNext, tIfS, tAsg, gName, tPar, tPar3, gNil, gCons, gTup, gSub, tAug, tSl, tNoPart, tPart, tBM, tBM0, tYes, tIsP, iSeq, iEnumA, RZ.iZipA, iRng1, iRng2, iList, iTup, rIsi, rIsB, rIxL, rIxT, rIxA, rLenA, rListOf, rTupOf, rSetL, rSlL, rCat, rAppend, tFld, sFld, tMake, tBits, Int.ofNat_inj, cast1, cast0, TruV, cxOf, Cx.nox, Cx.wish, tNever, tBreak, tCont, ipI, tDIn, tDNotIn, sDPut, tDNewT, tDNewK, tDGet, rSortedPO, rSortedI, rIn, rEqD, rNeD, rInD, rNotInD, tSSet, rIsV, rIntI, rIntB, rAbsN, tLstRg, tRg1, tRg2, List.append_nil, List.nil_append, List.cons_append, Option.some.injEq, exists_eq_left', exists_eq_left, exists_eq_right, exists_eq_right', List.getElem?_cons_zero, List.getElem?_cons_succ, List.set_cons_zero, List.set_cons_succ, List.cons.injEq, and_true, true_and, exists_and_left, exists_and_right, and_assoc, V.int.injEq, V.bl.injEq, V.ref.injEq, V.str.injEq, reduceCtorEq, decide_true, decide_false, Bool.not_true, Bool.not_false, Bool.false_eq_true, if_false, if_true, ite_true, ite_false, List.length_cons, List.length_nil])
              exact (s6.trans s7).trans s8
            · rintro σ' H6 ⟨y8, rfl, s6⟩
              (try simp only [tVar, tC, tOp, tUn, rI, rI0, rU, rEq, rNe, scal, tTest, tB, tAnd, tOr, tNot, tAndV, tOrV, tNotV, tIf, tChain, tNil, tCons, tCB, tCall, tTup, tLst, tRet, tRetN, tDrop, tSeq, tNext, tIfS, tAsg, gName, tPar, tPar3, gNil, gCons, gTup, gSub, tAug, tSl, tNoPart, tPart, tBM, tBM0, tYes, tIsP, iSeq, iEnumA, RZ.iZipA, iRng1, iRng2, iList, iTup, rIsi, rIsB, rIxL, rIxT, rIxA, rLenA, rListOf, rTupOf, rSetL, rSlL, rCat, rAppend, tFld, sFld, tMake, tBits, Int.ofNat_inj, cast1, cast0, TruV, cxOf, Cx.nox, Cx.wish, tNever, tBreak, tCont, ipI, tDIn, tDNotIn, sDPut, tDNewT, tDNewK, tDGet, rSortedPO, rSortedI, rIn, rEqD, rNeD, rInD, rNotInD, tSSet, rIsV, rIntI, rIntB, rAbsN, tLstRg, tRg1, tRg2, List.append_nil, List.nil_append, List.cons_append, Option.some.injEq, exists_eq_left', exists_eq_left, exists_eq_right, exists_eq_right', List.getElem?_cons_zero, List.getElem?_cons_succ, List.set_cons_zero, List.set_cons_succ, List.cons.injEq, and_true, true_and, exists_and_left, exists_and_right, and_assoc, V.int.injEq, V.bl.injEq, V.ref.injEq, V.str.injEq, reduceCtorEq, decide_true, decide_false, Bool.not_true, Bool.not_false, Bool.false_eq_true, if_false, if_true, ite_true, ite_false, List.length_cons, List.length_nil])
              refine ⟨by decide, fun p hp => ?_⟩
              have s7 := same_new (o := .lst [nv i]) hp
              have s37 := (s35.trans s6).trans s7
              refine ⟨k, n, qs, p, [i], rfl, hk.same s37, hg.perm hpm, .inl (.of upd_same), ⟨List.pairwise_singleton _ _, fun z hz => by rw [List.mem_singleton.mp hz]; exact hi⟩, fun H8 r s8 hr er => ?_⟩
              rw [one_is hpm hg hi] at er
              (try simp only [tVar, tC, tOp, tUn, rI, rI0, rU, rEq, rNe, scal, tTest, tB, tAnd, tOr, tNot, tAndV, tOrV, tNotV, tIf, tChain, tNil, tCons, tCB, tCall, tTup, tLst, tRet, tRetN, tDrop, tSeq, tNext, tIfS, tAsg, gName, tPar, tPar3, gNil, gCons, gTup, gSub, tAug, tSl, tNoPart, tPart, tBM, tBM0, tYes, tIsP, iSeq, iEnumA, RZ.iZipA, iRng1, iRng2, iList, iTup, rIsi, rIsB, rIxL, rIxT, rIxA, rLenA, rListOf, rTupOf, rSetL, rSlL, rCat, rAppend, tFld, sFld, tMake, tBits, Int.ofNat_inj, cast1, cast0, TruV, cxOf, Cx.nox, Cx.wish, tNever, tBreak, tCont, ipI, tDIn, tDNotIn, sDPut, tDNewT, tDNewK, tDGet, rSortedPO, rSortedI, rIn, rEqD, rNeD, rInD, rNotInD, tSSet, rIsV, rIntI, rIntB, rAbsN, tLstRg, tRg1, tRg2, List.append_nil, List.nil_append, List.cons_append, Option.some.injEq, exists_eq_left', exists_eq_left, exists_eq_right, exists_eq_right', List.getElem?_cons_zero, List.getElem?_cons_succ, List.set_cons_zero, List.set_cons_succ, List.cons.injEq, and_true, true_and, exists_and_left, exists_and_right, and_assoc, V.int.injEq, V.bl.injEq, V.ref.injEq, V.str.injEq, reduceCtorEq, decide_true, decide_false, Bool.not_true, Bool.not_false, Bool.false_eq_true, if_false, if_true, ite_true, ite_false, List.length_cons, List.length_nil])
              have eL8 := s8 _ _ (s7 _ _ (s6 _ _ eL))
              refine ⟨_, .inl ⟨.of eL8, fun l hl => ?_⟩⟩
              have s9 := same_new (o := .tup (nvs ((List.range n).filter (nearB ps i)))) hl
              refine ⟨_, _, rfl, .ints (s9 _ _ er) upd_same, fun H10 s10 => ?_⟩
              (try simp only [tVar, tC, tOp, tUn, rI, rI0, rU, rEq, rNe, scal, tTest, tB, tAnd, tOr, tNot, tAndV, tOrV, tNotV, tIf, tChain, tNil, tCons, tCB, tCall, tTup, tLst, tRet, tRetN, tDrop, tSeq, tNext, tIfS, tAsg, gName, tPar, tPar3, gNil, gCons, gTup, gSub, tAug, tSl, tNoPart, tPart, tBM, tBM0, tYes, tIsP, iSeq, iEnumA, RZ.iZipA, iRng1, iRng2, iList, iTup, rIsi, rIsB, rIxL, rIxT, rIxA, rLenA, rListOf, rTupOf, rSetL, rSlL, rCat, rAppend, tFld, sFld, tMake, tBits, Int.ofNat_inj, cast1, cast0, TruV, cxOf, Cx.nox, Cx.wish, tNever, tBreak, tCont, ipI, tDIn, tDNotIn, sDPut, tDNewT, tDNewK, tDGet, rSortedPO, rSortedI, rIn, rEqD, rNeD, rInD, rNotInD, tSSet, rIsV, rIntI, rIntB, rAbsN, tLstRg, tRg1, tRg2, List.append_nil, List.nil_append, List.cons_append, Option.some.injEq, exists_eq_left', exists_eq_left, exists_eq_right, exists_eq_right', List.getElem?_cons_zero, List.getElem?_cons_succ, List.set_cons_zero, List.set_cons_succ, List.cons.injEq, and_true, true_and, exists_and_left, exists_and_right, and_assoc, V.int.injEq, V.bl.injEq, V.ref.injEq, V.str.injEq, reduceCtorEq, decide_true, decide_false, Bool.not_true, Bool.not_false, Bool.false_eq_true, if_false, if_true, ite_true, ite_false, List.length_cons, List.length_nil])
              refine ⟨by decide, fun z hz => ?_⟩
              have s11 := same_new (o := .lst []) hz
              have eL11 := s11 _ _ (s10 _ _ (s9 _ _ eL8))
              have s311 := (((s37.trans s8).trans s9).trans s10).trans s11
              refine ⟨_, dp_nvs (.of eL11), _, .lst (.of upd_same) .nil, PySem.W.shaped_ints _, by decide, k, n, qs, rfl, hk.same s311, hg.perm hpm, fun H12 u s12 hu eu => ?_⟩
              (try simp only [tVar, tC, tOp, tUn, rI, rI0, rU, rEq, rNe, scal, tTest, tB, tAnd, tOr, tNot, tAndV, tOrV, tNotV, tIf, tChain, tNil, tCons, tCB, tCall, tTup, tLst, tRet, tRetN, tDrop, tSeq, tNext, tIfS, tAsg, gName, tPar, tPar3, gNil, gCons, gTup, gSub, tAug, tSl, tNoPart, tPart, tBM, tBM0, tYes, tIsP, iSeq, iEnumA, RZ.iZipA, iRng1, iRng2, iList, iTup, rIsi, rIsB, rIxL, rIxT, rIxA, rLenA, rListOf, rTupOf, rSetL, rSlL, rCat, rAppend, tFld, sFld, tMake, tBits, Int.ofNat_inj, cast1, cast0, TruV, cxOf, Cx.nox, Cx.wish, tNever, tBreak, tCont, ipI, tDIn, tDNotIn, sDPut, tDNewT, tDNewK, tDGet, rSortedPO, rSortedI, rIn, rEqD, rNeD, rInD, rNotInD, tSSet, rIsV, rIntI, rIntB, rAbsN, tLstRg, tRg1, tRg2, List.append_nil, List.nil_append, List.cons_append, Option.some.injEq, exists_eq_left', exists_eq_left, exists_eq_right, exists_eq_right', List.getElem?_cons_zero, List.getElem?_cons_succ, List.set_cons_zero, List.set_cons_succ, List.cons.injEq, and_true, true_and, exists_and_left, exists_and_right, and_assoc, V.int.injEq, V.bl.injEq, V.ref.injEq, V.str.injEq, reduceCtorEq, decide_true, decide_false, Bool.not_true, Bool.not_false, Bool.false_eq_true, if_false, if_true, ite_true, ite_false, List.length_cons, List.length_nil])
              refine ⟨_, .inr (.inl (.inl eu)), rfl, flat_nvs _, ?_⟩
              rw [eqv_nil, in_nvs, show decide ((List.range n).filter (nearB ps i) = []) = decide (i ∈ (List.range n).filter fun i => (nearM n qs).getD i 0 == 0) by
                rw [decide_eq_decide, List.mem_filter, List.mem_range, List.filter_eq_nil_iff, beq_iff_eq, near_perm hpm hg, near_zero hg]
                constructor
                · exact fun h => ⟨hi, fun j hj hn => h j (List.mem_range.mpr hj) (nearB_is.mpr hn)⟩
                · exact fun h j hj hn => h.2 j (List.mem_range.mp hj) (nearB_is.mp hn)]
              (try simp only [tVar, tC, tOp, tUn, rI, rI0, rU, rEq, rNe, scal, tTest, tB, tAnd, tOr, tNot, tAndV, tOrV, tNotV, tIf, tChain, tNil, tCons, tCB, tCall, tTup, tLst, tRet, tRetN, tDrop, tSeq, tNext, tIfS, tAsg, gName, tPar, tPar3, gNil, gCons, gTup, gSub, tAug, tSl, tNoPart, tPart, tBM, tBM0, tYes, tIsP, iSeq, iEnumA, RZ.iZipA, iRng1, iRng2, iList, iTup, rIsi, rIsB, rIxL, rIxT, rIxA, rLenA, rListOf, rTupOf, rSetL, rSlL, rCat, rAppend, tFld, sFld, tMake, tBits, Int.ofNat_inj, cast1, cast0, TruV, cxOf, Cx.nox, Cx.wish, tNever, tBreak, tCont, ipI, tDIn, tDNotIn, sDPut, tDNewT, tDNewK, tDGet, rSortedPO, rSortedI, rIn, rEqD, rNeD, rInD, rNotInD, tSSet, rIsV, rIntI, rIntB, rAbsN, tLstRg, tRg1, tRg2, List.append_nil, List.nil_append, List.cons_append, Option.some.injEq, exists_eq_left', exists_eq_left, exists_eq_right, exists_eq_right', List.getElem?_cons_zero, List.getElem?_cons_succ, List.set_cons_zero, List.set_cons_succ, List.cons.injEq, and_true, true_and, exists_and_left, exists_and_right, and_assoc, V.int.injEq, V.bl.injEq, V.ref.injEq, V.str.injEq, reduceCtorEq, decide_true, decide_false, Bool.not_true, Bool.not_false, Bool.false_eq_true, if_false, if_true, ite_true, ite_false, List.length_cons, List.length_nil])
              exact ⟨⟨_, rfl⟩, s311.trans s12⟩
        · rintro σ' H' ⟨y6, y7, y8, rfl, sm⟩
          (try simp only [tVar, tC, tOp, tUn, rI, rI0, rU, rEq, rNe, scal, tTest, tB, tAnd, tOr, tNot, tAndV, tOrV, tNotV, tIf, tChain, tNil, tCons, tCB, tCall, tTup, tLst, tRet, tRetN, tDrop, tSeq, tNext, tIfS, tAsg, gName, tPar, tPar3, gNil, gCons, gTup, gSub, tAug, tSl, tNoPart, tPart, tBM, tBM0, tYes, tIsP, iSeq, iEnumA, RZ.iZipA, iRng1, iRng2, iList, iTup, rIsi, rIsB, rIxL, rIxT, rIxA, rLenA, rListOf, rTupOf, rSetL, rSlL, rCat, rAppend, tFld, sFld, tMake, tBits, Int.ofNat_inj, cast1, cast0, TruV, cxOf, Cx.nox, Cx.wish, tNever, tBreak, tCont, ipI, tDIn, tDNotIn, sDPut, tDNewT, tDNewK, tDGet, rSortedPO, rSortedI, rIn, rEqD, rNeD, rInD, rNotInD, tSSet, rIsV, rIntI, rIntB, rAbsN, tLstRg, tRg1, tRg2, List.append_nil, List.nil_append, List.cons_append, Option.some.injEq, exists_eq_left', exists_eq_left, exists_eq_right, exists_eq_right', List.getElem?_cons_zero, List.getElem?_cons_succ, List.set_cons_zero, List.set_cons_succ, List.cons.injEq, and_true, true_and, exists_and_left, exists_and_right, and_assoc, V.int.injEq, V.bl.injEq, V.ref.injEq, V.str.injEq, reduceCtorEq, decide_true, decide_false, Bool.not_true, Bool.not_false, Bool.false_eq_true, if_false, if_true, ite_true, ite_false, List.length_cons, List.length_nil])
          exact hq _ _ _ _ sm
      have p2 : ∀ (D : Ends) (n : Nat) (t k : Addr) (xs : List V) (ps qs : List NP) (H3 : Hp) (y6 y7 y8 : Option V), 1 ≤ n → Bx b H3 → hbx b H3 t = some (.lst xs) → Prs H3 xs ps → GoodQ n ps → qs.Perm ps → KeysAt T.c_Keys H3 k n qs →
          (∀ H' y2 y3 y4 y5 y6 y7 y8 y9 y10 y11 y12 y13 y14 y15, Bx b H' → D.nx [some (.ref a), some (.ref b), y2, y3, y4, y5, y6, y7, y8, y9, y10, y11, y12, y13, y14, y15] H') →
          S2 D [some (.ref a), some (.ref b), some (nv turn), some (nv n), some (.ref t), some (.ref k), y6, y7, y8, y9, y10, y11, y12, y13, y14, y15] H3 := by
        intro D n t k xs ps qs H3 y6 y7 y8 n1 hb3 ht hp0 hg hpm hk hq
        have h12 := hg.1
        subst hS
        generalize hL1 : tLc _ _ _ _ _ = L1
        generalize hF3 : tFor _ _ _ = F3
        (try simp only [tVar, tC, tOp, tUn, rI, rI0, rU, rEq, rNe, scal, tTest, tB, tAnd, tOr, tNot, tAndV, tOrV, tNotV, tIf, tChain, tNil, tCons, tCB, tCall, tTup, tLst, tRet, tRetN, tDrop, tSeq, tNext, tIfS, tAsg, gName, tPar, tPar3, gNil, gCons, gTup, gSub, tAug, tSl, tNoPart, tPart, tBM, tBM0, tYes, tIsP, iSeq, iEnumA, RZ.iZipA, iRng1, iRng2, iList, iTup, rIsi, rIsB, rIxL, rIxT, rIxA, rLenA, rListOf, rTupOf, rSetL, rSlL, rCat, rAppend, tFld, sFld, tMake, tBits, Int.ofNat_inj, cast1, cast0, TruV, cxOf, Cx.nox, Cx.wish, tNever, tBreak, tCont, ipI, tDIn, tDNotIn, sDPut, tDNewT, tDNewK, tDGet, rSortedPO, rSortedI, rIn, rEqD, rNeD, rInD, rNotInD, tSSet, rIsV, rIntI, rIntB, rAbsN, tLstRg, tRg1, tRg2, List.append_nil, List.nil_append, List.cons_append, Option.some.injEq, exists_eq_left', exists_eq_left, exists_eq_right, exists_eq_right', List.getElem?_cons_zero, List.getElem?_cons_succ, List.set_cons_zero, List.set_cons_succ, List.cons.injEq, and_true, true_and, exists_and_left, exists_and_right, and_assoc, V.int.injEq, V.bl.injEq, V.ref.injEq, V.str.injEq, reduceCtorEq, decide_true, decide_false, Bool.not_true, Bool.not_false, Bool.false_eq_true, if_false, if_true, ite_true, ite_false, List.length_cons, List.length_nil])
        refine ⟨n, t, xs, ps, rfl, .of (hbx_le _ _ _ _ ht), hp0, hg.1, hg.2, fun H4 r s4 hr er => ?_⟩
        (try simp only [tVar, tC, tOp, tUn, rI, rI0, rU, rEq, rNe, scal, tTest, tB, tAnd, tOr, tNot, tAndV, tOrV, tNotV, tIf, tChain, tNil, tCons, tCB, tCall, tTup, tLst, tRet, tRetN, tDrop, tSeq, tNext, tIfS, tAsg, gName, tPar, tPar3, gNil, gCons, gTup, gSub, tAug, tSl, tNoPart, tPart, tBM, tBM0, tYes, tIsP, iSeq, iEnumA, RZ.iZipA, iRng1, iRng2, iList, iTup, rIsi, rIsB, rIxL, rIxT, rIxA, rLenA, rListOf, rTupOf, rSetL, rSlL, rCat, rAppend, tFld, sFld, tMake, tBits, Int.ofNat_inj, cast1, cast0, TruV, cxOf, Cx.nox, Cx.wish, tNever, tBreak, tCont, ipI, tDIn, tDNotIn, sDPut, tDNewT, tDNewK, tDGet, rSortedPO, rSortedI, rIn, rEqD, rNeD, rInD, rNotInD, tSSet, rIsV, rIntI, rIntB, rAbsN, tLstRg, tRg1, tRg2, List.append_nil, List.nil_append, List.cons_append, Option.some.injEq, exists_eq_left', exists_eq_left, exists_eq_right, exists_eq_right', List.getElem?_cons_zero, List.getElem?_cons_succ, List.set_cons_zero, List.set_cons_succ, List.cons.injEq, and_true, true_and, exists_and_left, exists_and_right, and_assoc, V.int.injEq, V.bl.injEq, V.ref.injEq, V.str.injEq, reduceCtorEq, decide_true, decide_false, Bool.not_true, Bool.not_false, Bool.false_eq_true, if_false, if_true, ite_true, ite_false, List.length_cons, List.length_nil])
        refine ⟨k, n, qs, rfl, hk.same s4, hg.perm hpm, fun H5 u s5 hu eu => ?_⟩
        (try simp only [tVar, tC, tOp, tUn, rI, rI0, rU, rEq, rNe, scal, tTest, tB, tAnd, tOr, tNot, tAndV, tOrV, tNotV, tIf, tChain, tNil, tCons, tCB, tCall, tTup, tLst, tRet, tRetN, tDrop, tSeq, tNext, tIfS, tAsg, gName, tPar, tPar3, gNil, gCons, gTup, gSub, tAug, tSl, tNoPart, tPart, tBM, tBM0, tYes, tIsP, iSeq, iEnumA, RZ.iZipA, iRng1, iRng2, iList, iTup, rIsi, rIsB, rIxL, rIxT, rIxA, rLenA, rListOf, rTupOf, rSetL, rSlL, rCat, rAppend, tFld, sFld, tMake, tBits, Int.ofNat_inj, cast1, cast0, TruV, cxOf, Cx.nox, Cx.wish, tNever, tBreak, tCont, ipI, tDIn, tDNotIn, sDPut, tDNewT, tDNewK, tDGet, rSortedPO, rSortedI, rIn, rEqD, rNeD, rInD, rNotInD, tSSet, rIsV, rIntI, rIntB, rAbsN, tLstRg, tRg1, tRg2, List.append_nil, List.nil_append, List.cons_append, Option.some.injEq, exists_eq_left', exists_eq_left, exists_eq_right, exists_eq_right', List.getElem?_cons_zero, List.getElem?_cons_succ, List.set_cons_zero, List.set_cons_succ, List.cons.injEq, and_true, true_and, exists_and_left, exists_and_right, and_assoc, V.int.injEq, V.bl.injEq, V.ref.injEq, V.str.injEq, reduceCtorEq, decide_true, decide_false, Bool.not_true, Bool.not_false, Bool.false_eq_true, if_false, if_true, ite_true, ite_false, List.length_cons, List.length_nil])
        subst hL1
        have s35 := s4.trans s5
        refine lcR1 n (fun i => (nearM n ps).getD i 0 == 0) nv (fun R h => ?_) (by omega) (fun i H' Q1 Q2 hi e q1 q2 => ?_) fun L hL => ?_
        · (try simp only [tVar, tC, tOp, tUn, rI, rI0, rU, rEq, rNe, scal, tTest, tB, tAnd, tOr, tNot, tAndV, tOrV, tNotV, tIf, tChain, tNil, tCons, tCB, tCall, tTup, tLst, tRet, tRetN, tDrop, tSeq, tNext, tIfS, tAsg, gName, tPar, tPar3, gNil, gCons, gTup, gSub, tAug, tSl, tNoPart, tPart, tBM, tBM0, tYes, tIsP, iSeq, iEnumA, RZ.iZipA, iRng1, iRng2, iList, iTup, rIsi, rIsB, rIxL, rIxT, rIxA, rLenA, rListOf, rTupOf, rSetL, rSlL, rCat, rAppend, tFld, sFld, tMake, tBits, Int.ofNat_inj, cast1, cast0, TruV, cxOf, Cx.nox, Cx.wish, tNever, tBreak, tCont, ipI, tDIn, tDNotIn, sDPut, tDNewT, tDNewK, tDGet, rSortedPO, rSortedI, rIn, rEqD, rNeD, rInD, rNotInD, tSSet, rIsV, rIntI, rIntB, rAbsN, tLstRg, tRg1, tRg2, List.append_nil, List.nil_append, List.cons_append, Option.some.injEq, exists_eq_left', exists_eq_left, exists_eq_right, exists_eq_right', List.getElem?_cons_zero, List.getElem?_cons_succ, List.set_cons_zero, List.set_cons_succ, List.cons.injEq, and_true, true_and, exists_and_left, exists_and_right, and_assoc, V.int.injEq, V.bl.injEq, V.ref.injEq, V.str.injEq, reduceCtorEq, decide_true, decide_false, Bool.not_true, Bool.not_false, Bool.false_eq_true, if_false, if_true, ite_true, ite_false, List.length_cons, List.length_nil])
          exact h
        · (try simp only [tVar, tC, tOp, tUn, rI, rI0, rU, rEq, rNe, scal, tTest, tB, tAnd, tOr, tNot, tAndV, tOrV, tNotV, tIf, tChain, tNil, tCons, tCB, tCall, tTup, tLst, tRet, tRetN, tDrop, tSeq, tNext, tIfS, tAsg, gName, tPar, tPar3, gNil, gCons, gTup, gSub, tAug, tSl, tNoPart, tPart, tBM, tBM0, tYes, tIsP, iSeq, iEnumA, RZ.iZipA, iRng1, iRng2, iList, iTup, rIsi, rIsB, rIxL, rIxT, rIxA, rLenA, rListOf, rTupOf, rSetL, rSlL, rCat, rAppend, tFld, sFld, tMake, tBits, Int.ofNat_inj, cast1, cast0, TruV, cxOf, Cx.nox, Cx.wish, tNever, tBreak, tCont, ipI, tDIn, tDNotIn, sDPut, tDNewT, tDNewK, tDGet, rSortedPO, rSortedI, rIn, rEqD, rNeD, rInD, rNotInD, tSSet, rIsV, rIntI, rIntB, rAbsN, tLstRg, tRg1, tRg2, List.append_nil, List.nil_append, List.cons_append, Option.some.injEq, exists_eq_left', exists_eq_left, exists_eq_right, exists_eq_right', List.getElem?_cons_zero, List.getElem?_cons_succ, List.set_cons_zero, List.set_cons_succ, List.cons.injEq, and_true, true_and, exists_and_left, exists_and_right, and_assoc, V.int.injEq, V.bl.injEq, V.ref.injEq, V.str.injEq, reduceCtorEq, decide_true, decide_false, Bool.not_true, Bool.not_false, Bool.false_eq_true, if_false, if_true, ite_true, ite_false, List.length_cons, List.length_nil])
          refine ⟨_, .of (e _ _ (s5 _ _ er)), _, nvs_ix (by rw [near_len]; exact hi), ?_⟩
          (try simp only [tVar, tC, tOp, tUn, rI, rI0, rU, rEq, rNe, scal, tTest, tB, tAnd, tOr, tNot, tAndV, tOrV, tNotV, tIf, tChain, tNil, tCons, tCB, tCall, tTup, tLst, tRet, tRetN, tDrop, tSeq, tNext, tIfS, tAsg, gName, tPar, tPar3, gNil, gCons, gTup, gSub, tAug, tSl, tNoPart, tPart, tBM, tBM0, tYes, tIsP, iSeq, iEnumA, RZ.iZipA, iRng1, iRng2, iList, iTup, rIsi, rIsB, rIxL, rIxT, rIxA, rLenA, rListOf, rTupOf, rSetL, rSlL, rCat, rAppend, tFld, sFld, tMake, tBits, Int.ofNat_inj, cast1, cast0, TruV, cxOf, Cx.nox, Cx.wish, tNever, tBreak, tCont, ipI, tDIn, tDNotIn, sDPut, tDNewT, tDNewK, tDGet, rSortedPO, rSortedI, rIn, rEqD, rNeD, rInD, rNotInD, tSSet, rIsV, rIntI, rIntB, rAbsN, tLstRg, tRg1, tRg2, List.append_nil, List.nil_append, List.cons_append, Option.some.injEq, exists_eq_left', exists_eq_left, exists_eq_right, exists_eq_right', List.getElem?_cons_zero, List.getElem?_cons_succ, List.set_cons_zero, List.set_cons_succ, List.cons.injEq, and_true, true_and, exists_and_left, exists_and_right, and_assoc, V.int.injEq, V.bl.injEq, V.ref.injEq, V.str.injEq, reduceCtorEq, decide_true, decide_false, Bool.not_true, Bool.not_false, Bool.false_eq_true, if_false, if_true, ite_true, ite_false, List.length_cons, List.length_nil])
          rw [show decide (((nearM n ps).getD i 0 : Int) = 0) = ((nearM n ps).getD i 0 == 0) by rw [Bool.eq_iff_iff, decide_eq_true_eq, beq_iff_eq]; omega]
          cases hb : (nearM n ps).getD i 0 == 0
          · exact q2 hb
          · exact q1 hb
        · (try simp only [tVar, tC, tOp, tUn, rI, rI0, rU, rEq, rNe, scal, tTest, tB, tAnd, tOr, tNot, tAndV, tOrV, tNotV, tIf, tChain, tNil, tCons, tCB, tCall, tTup, tLst, tRet, tRetN, tDrop, tSeq, tNext, tIfS, tAsg, gName, tPar, tPar3, gNil, gCons, gTup, gSub, tAug, tSl, tNoPart, tPart, tBM, tBM0, tYes, tIsP, iSeq, iEnumA, RZ.iZipA, iRng1, iRng2, iList, iTup, rIsi, rIsB, rIxL, rIxT, rIxA, rLenA, rListOf, rTupOf, rSetL, rSlL, rCat, rAppend, tFld, sFld, tMake, tBits, Int.ofNat_inj, cast1, cast0, TruV, cxOf, Cx.nox, Cx.wish, tNever, tBreak, tCont, ipI, tDIn, tDNotIn, sDPut, tDNewT, tDNewK, tDGet, rSortedPO, rSortedI, rIn, rEqD, rNeD, rInD, rNotInD, tSSet, rIsV, rIntI, rIntB, rAbsN, tLstRg, tRg1, tRg2, List.append_nil, List.nil_append, List.cons_append, Option.some.injEq, exists_eq_left', exists_eq_left, exists_eq_right, exists_eq_right', List.getElem?_cons_zero, List.getElem?_cons_succ, List.set_cons_zero, List.set_cons_succ, List.cons.injEq, and_true, true_and, exists_and_left, exists_and_right, and_assoc, V.int.injEq, V.bl.injEq, V.ref.injEq, V.str.injEq, reduceCtorEq, decide_true, decide_false, Bool.not_true, Bool.not_false, Bool.false_eq_true, if_false, if_true, ite_true, ite_false, List.length_cons, List.length_nil])
          have s6 := same_new (o := .lst (nvs ((List.range n).filter fun i => (nearM n ps).getD i 0 == 0))) hL
          refine ⟨_, .inl ⟨.of upd_same, fun l hl => ?_⟩⟩
          have s7 := same_new (o := .tup (nvs ((List.range n).filter fun i => (nearM n ps).getD i 0 == 0))) hl
          rw [near_perm hpm hg] at eu
          refine ⟨_, _, rfl, .ints (s7 _ _ (s6 _ _ eu)) upd_same, fun H8 s8 => ?_⟩
          (try simp only [tVar, tC, tOp, tUn, rI, rI0, rU, rEq, rNe, scal, tTest, tB, tAnd, tOr, tNot, tAndV, tOrV, tNotV, tIf, tChain, tNil, tCons, tCB, tCall, tTup, tLst, tRet, tRetN, tDrop, tSeq, tNext, tIfS, tAsg, gName, tPar, tPar3, gNil, gCons, gTup, gSub, tAug, tSl, tNoPart, tPart, tBM, tBM0, tYes, tIsP, iSeq, iEnumA, RZ.iZipA, iRng1, iRng2, iList, iTup, rIsi, rIsB, rIxL, rIxT, rIxA, rLenA, rListOf, rTupOf, rSetL, rSlL, rCat, rAppend, tFld, sFld, tMake, tBits, Int.ofNat_inj, cast1, cast0, TruV, cxOf, Cx.nox, Cx.wish, tNever, tBreak, tCont, ipI, tDIn, tDNotIn, sDPut, tDNewT, tDNewK, tDGet, rSortedPO, rSortedI, rIn, rEqD, rNeD, rInD, rNotInD, tSSet, rIsV, rIntI, rIntB, rAbsN, tLstRg, tRg1, tRg2, List.append_nil, List.nil_append, List.cons_append, Option.some.injEq, exists_eq_left', exists_eq_left, exists_eq_right, exists_eq_right', List.getElem?_cons_zero, List.getElem?_cons_succ, List.set_cons_zero, List.set_cons_succ, List.cons.injEq, and_true, true_and, exists_and_left, exists_and_right, and_assoc, V.int.injEq, V.bl.injEq, V.ref.injEq, V.str.injEq, reduceCtorEq, decide_true, decide_false, Bool.not_true, Bool.not_false, Bool.false_eq_true, if_false, if_true, ite_true, ite_false, List.length_cons, List.length_nil])
          have s38 := ((s35.trans s6).trans s7).trans s8
          have hb8 := hb3.same s38
          have ek8 : KeysAt T.c_Keys (hbx b H8) k n qs := (hk.same s38).apart hb8
          have er8 : hbx b H8 r = some (.lst (nvs (nearM n ps))) := hb3.new s38 hr (s8 _ _ (s7 _ _ (s6 _ _ (s5 _ _ er))))
          subst hF3
          refine forR1 4 (fun i σ' H' => ∃ y8 y10 y11 y12 y13 y14 y15, σ' = [some (.ref a), some (.ref b), some (nv turn), some (nv n), some (.ref t), some (.ref k), y6, y7, y8, some (.ref r), y10, y11, y12, y13, y14, y15] ∧ Same (hbx b H8) (hbx b H') ∧ Bx b H') (fun R h => ?_) (by decide) ⟨_, _, _, _, _, _, _, rfl, Same.refl _, hb8⟩ ?_ ?_
          · (try simp only [tVar, tC, tOp, tUn, rI, rI0, rU, rEq, rNe, scal, tTest, tB, tAnd, tOr, tNot, tAndV, tOrV, tNotV, tIf, tChain, tNil, tCons, tCB, tCall, tTup, tLst, tRet, tRetN, tDrop, tSeq, tNext, tIfS, tAsg, gName, tPar, tPar3, gNil, gCons, gTup, gSub, tAug, tSl, tNoPart, tPart, tBM, tBM0, tYes, tIsP, iSeq, iEnumA, RZ.iZipA, iRng1, iRng2, iList, iTup, rIsi, rIsB, rIxL, rIxT, rIxA, rLenA, rListOf, rTupOf, rSetL, rSlL, rCat, rAppend, tFld, sFld, tMake, tBits, Int.ofNat_inj, cast1, cast0, TruV, cxOf, Cx.nox, Cx.wish, tNever, tBreak, tCont, ipI, tDIn, tDNotIn, sDPut, tDNewT, tDNewK, tDGet, rSortedPO, rSortedI, rIn, rEqD, rNeD, rInD, rNotInD, tSSet, rIsV, rIntI, rIntB, rAbsN, tLstRg, tRg1, tRg2, List.append_nil, List.nil_append, List.cons_append, Option.some.injEq, exists_eq_left', exists_eq_left, exists_eq_right, exists_eq_right', List.getElem?_cons_zero, List.getElem?_cons_succ, List.set_cons_zero, List.set_cons_succ, List.cons.injEq, and_true, true_and, exists_and_left, exists_and_right, and_assoc, V.int.injEq, V.bl.injEq, V.ref.injEq, V.str.injEq, reduceCtorEq, decide_true, decide_false, Bool.not_true, Bool.not_false, Bool.false_eq_true, if_false, if_true, ite_true, ite_false, List.length_cons, List.length_nil])
            exact h
          · rintro i σ' H9 hi ⟨y8, y10, y11, y12, y13, y14, y15, rfl, s9, hb9⟩
            (try simp only [tVar, tC, tOp, tUn, rI, rI0, rU, rEq, rNe, scal, tTest, tB, tAnd, tOr, tNot, tAndV, tOrV, tNotV, tIf, tChain, tNil, tCons, tCB, tCall, tTup, tLst, tRet, tRetN, tDrop, tSeq, tNext, tIfS, tAsg, gName, tPar, tPar3, gNil, gCons, gTup, gSub, tAug, tSl, tNoPart, tPart, tBM, tBM0, tYes, tIsP, iSeq, iEnumA, RZ.iZipA, iRng1, iRng2, iList, iTup, rIsi, rIsB, rIxL, rIxT, rIxA, rLenA, rListOf, rTupOf, rSetL, rSlL, rCat, rAppend, tFld, sFld, tMake, tBits, Int.ofNat_inj, cast1, cast0, TruV, cxOf, Cx.nox, Cx.wish, tNever, tBreak, tCont, ipI, tDIn, tDNotIn, sDPut, tDNewT, tDNewK, tDGet, rSortedPO, rSortedI, rIn, rEqD, rNeD, rInD, rNotInD, tSSet, rIsV, rIntI, rIntB, rAbsN, tLstRg, tRg1, tRg2, List.append_nil, List.nil_append, List.cons_append, Option.some.injEq, exists_eq_left', exists_eq_left, exists_eq_right, exists_eq_right', List.getElem?_cons_zero, List.getElem?_cons_succ, List.set_cons_zero, List.set_cons_succ, List.cons.injEq, and_true, true_and, exists_and_left, exists_and_right, and_assoc, V.int.injEq, V.bl.injEq, V.ref.injEq, V.str.injEq, reduceCtorEq, decide_true, decide_false, Bool.not_true, Bool.not_false, Bool.false_eq_true, if_false, if_true, ite_true, ite_false, List.length_cons, List.length_nil])
            have ln : (List.range n).length = n := List.length_range
            refine ⟨RgOk.of_le (by decide) (by omega) (by decide) (by omega), fun q1 hq1 => ?_⟩
            rw [rgV_nvs]
            have sA := same_new (o := .lst (nvs (List.range n))) hq1
            refine ⟨b, q1, nvs (List.range n), rfl, hb9.same sA, .inl (.of upd_same), by rw [List.length_map, ln]; omega, fun H10 m1 ys1 s10 hb10 _ em1 pm1 => ?_⟩
            obtain ⟨zs1, rfl, pz1⟩ := perm_nvs pm1
            have lz1 : zs1.length = n := pz1.length_eq.trans ln
            refine ⟨b, n + 1, rfl, ⟨by omega, by omega⟩, hb10, fun H11 c1 s11 hb11 hc1 => ?_⟩
            (try simp only [tVar, tC, tOp, tUn, rI, rI0, rU, rEq, rNe, scal, tTest, tB, tAnd, tOr, tNot, tAndV, tOrV, tNotV, tIf, tChain, tNil, tCons, tCB, tCall, tTup, tLst, tRet, tRetN, tDrop, tSeq, tNext, tIfS, tAsg, gName, tPar, tPar3, gNil, gCons, gTup, gSub, tAug, tSl, tNoPart, tPart, tBM, tBM0, tYes, tIsP, iSeq, iEnumA, RZ.iZipA, iRng1, iRng2, iList, iTup, rIsi, rIsB, rIxL, rIxT, rIxA, rLenA, rListOf, rTupOf, rSetL, rSlL, rCat, rAppend, tFld, sFld, tMake, tBits, Int.ofNat_inj, cast1, cast0, TruV, cxOf, Cx.nox, Cx.wish, tNever, tBreak, tCont, ipI, tDIn, tDNotIn, sDPut, tDNewT, tDNewK, tDGet, rSortedPO, rSortedI, rIn, rEqD, rNeD, rInD, rNotInD, tSSet, rIsV, rIntI, rIntB, rAbsN, tLstRg, tRg1, tRg2, List.append_nil, List.nil_append, List.cons_append, Option.some.injEq, exists_eq_left', exists_eq_left, exists_eq_right, exists_eq_right', List.getElem?_cons_zero, List.getElem?_cons_succ, List.set_cons_zero, List.set_cons_succ, List.cons.injEq, and_true, true_and, exists_and_left, exists_and_right, and_assoc, V.int.injEq, V.bl.injEq, V.ref.injEq, V.str.injEq, reduceCtorEq, decide_true, decide_false, Bool.not_true, Bool.not_false, Bool.false_eq_true, if_false, if_true, ite_true, ite_false, List.length_cons, List.length_nil])
            have em1b := s11 _ _ em1
            refine ⟨_, .of (hbx_le _ _ _ _ em1b), fun p1 hp1 => ?_⟩
            rw [cut_nvs (by omega)]
            obtain ⟨nd1, lt1, le1⟩ := lot_ok pz1 c1
            have sB := same_new (o := .lst (nvs (zs1.take c1))) hp1
            have hb12 := hb11.same sB
            have g12 : Same (hbx b H8) (hbx b (upd H11 p1 (.lst (nvs (zs1.take c1))))) := (((s9.trans (hb9.mono sA)).trans s10).trans s11).trans (hb11.mono sB)
            have ep1 : hbx b (upd H11 p1 (.lst (nvs (zs1.take c1)))) p1 = some (.lst (nvs (zs1.take c1))) := hb11.new sB hp1 upd_same
            revert hb12 g12 ep1
            generalize upd H11 p1 (.lst (nvs (zs1.take c1))) = H12
            intro hb12 g12 ep1
            refine ⟨RgOk.of_le (by decide) (by omega) (by decide) (by omega), fun q2 hq2 => ?_⟩
            have sC := same_new (o := .lst (nvs (List.range n))) hq2
            refine ⟨b, q2, nvs (List.range n), rfl, hb12.same sC, .inl (.of upd_same), by rw [List.length_map, ln]; omega, fun H13 m2 ys2 s13 hb13 _ em2 pm2 => ?_⟩
            obtain ⟨zs2, rfl, pz2⟩ := perm_nvs pm2
            have lz2 : zs2.length = n := pz2.length_eq.trans ln
            refine ⟨b, n + 1, rfl, ⟨by omega, by omega⟩, hb13, fun H14 c2 s14 hb14 hc2 => ?_⟩
            (try simp only [tVar, tC, tOp, tUn, rI, rI0, rU, rEq, rNe, scal, tTest, tB, tAnd, tOr, tNot, tAndV, tOrV, tNotV, tIf, tChain, tNil, tCons, tCB, tCall, tTup, tLst, tRet, tRetN, tDrop, tSeq, tNext, tIfS, tAsg, gName, tPar, tPar3, gNil, gCons, gTup, gSub, tAug, tSl, tNoPart, tPart, tBM, tBM0, tYes, tIsP, iSeq, iEnumA, RZ.iZipA, iRng1, iRng2, iList, iTup, rIsi, rIsB, rIxL, rIxT, rIxA, rLenA, rListOf, rTupOf, rSetL, rSlL, rCat, rAppend, tFld, sFld, tMake, tBits, Int.ofNat_inj, cast1, cast0, TruV, cxOf, Cx.nox, Cx.wish, tNever, tBreak, tCont, ipI, tDIn, tDNotIn, sDPut, tDNewT, tDNewK, tDGet, rSortedPO, rSortedI, rIn, rEqD, rNeD, rInD, rNotInD, tSSet, rIsV, rIntI, rIntB, rAbsN, tLstRg, tRg1, tRg2, List.append_nil, List.nil_append, List.cons_append, Option.some.injEq, exists_eq_left', exists_eq_left, exists_eq_right, exists_eq_right', List.getElem?_cons_zero, List.getElem?_cons_succ, List.set_cons_zero, List.set_cons_succ, List.cons.injEq, and_true, true_and, exists_and_left, exists_and_right, and_assoc, V.int.injEq, V.bl.injEq, V.ref.injEq, V.str.injEq, reduceCtorEq, decide_true, decide_false, Bool.not_true, Bool.not_false, Bool.false_eq_true, if_false, if_true, ite_true, ite_false, List.length_cons, List.length_nil])
            have em2b := s14 _ _ em2
            refine ⟨_, .of (hbx_le _ _ _ _ em2b), fun p2 hp2 => ?_⟩
            rw [cut_nvs (by omega)]
            obtain ⟨nd2, lt2, le2⟩ := lot_ok pz2 c2
            have sD := same_new (o := .lst (nvs (zs2.take c2))) hp2
            have hbB := hb14.same sD
            have gB1 := (((hb12.mono sC).trans s13).trans s14).trans (hb14.mono sD)
            have gB := g12.trans gB1
            have ep1B := hbx_le _ _ _ _ (gB1 _ _ ep1)
            have ep2B : (upd H14 p2 (.lst (nvs (zs2.take c2)))) p2 = some (.lst (nvs (zs2.take c2))) := upd_same
            have kB := (ek8.same gB).same (hbx_le b _)
            have rB := hbx_le _ _ _ _ (gB _ _ er8)
            clear em2b em2 em1b em1 gB1 sC sD s13 s14 hp2 ep1 g12 hb12
            revert hbB gB ep1B ep2B kB rB
            generalize upd H14 p2 (.lst (nvs (zs2.take c2))) = B
            intro hbB gB ep1B ep2B kB rB
            have gq := hg.perm hpm
            refine ⟨k, n, qs, p1, zs1.take c1, rfl, kB, gq, .inl (.of ep1B), ⟨nd1, lt1⟩, fun B1 u1 t1 hu1 eu1 => ?_⟩
            (try simp only [tVar, tC, tOp, tUn, rI, rI0, rU, rEq, rNe, scal, tTest, tB, tAnd, tOr, tNot, tAndV, tOrV, tNotV, tIf, tChain, tNil, tCons, tCB, tCall, tTup, tLst, tRet, tRetN, tDrop, tSeq, tNext, tIfS, tAsg, gName, tPar, tPar3, gNil, gCons, gTup, gSub, tAug, tSl, tNoPart, tPart, tBM, tBM0, tYes, tIsP, iSeq, iEnumA, RZ.iZipA, iRng1, iRng2, iList, iTup, rIsi, rIsB, rIxL, rIxT, rIxA, rLenA, rListOf, rTupOf, rSetL, rSlL, rCat, rAppend, tFld, sFld, tMake, tBits, Int.ofNat_inj, cast1, cast0, TruV, cxOf, Cx.nox, Cx.wish, tNever, tBreak, tCont, ipI, tDIn, tDNotIn, sDPut, tDNewT, tDNewK, tDGet, rSortedPO, rSortedI, rIn, rEqD, rNeD, rInD, rNotInD, tSSet, rIsV, rIntI, rIntB, rAbsN, tLstRg, tRg1, tRg2, List.append_nil, List.nil_append, List.cons_append, Option.some.injEq, exists_eq_left', exists_eq_left, exists_eq_right, exists_eq_right', List.getElem?_cons_zero, List.getElem?_cons_succ, List.set_cons_zero, List.set_cons_succ, List.cons.injEq, and_true, true_and, exists_and_left, exists_and_right, and_assoc, V.int.injEq, V.bl.injEq, V.ref.injEq, V.str.injEq, reduceCtorEq, decide_true, decide_false, Bool.not_true, Bool.not_false, Bool.false_eq_true, if_false, if_true, ite_true, ite_false, List.length_cons, List.length_nil])
            refine ⟨_, .inl ⟨.of (t1 _ _ ep2B), fun l hl => ?_⟩⟩
            have t2 := same_new (o := .tup (nvs (zs2.take c2))) hl
            have t12 := t1.trans t2
            refine ⟨k, n, qs, l, zs2.take c2, rfl, kB.same t12, gq, .inr (.inl (.inl upd_same)), ⟨nd2, lt2⟩, fun B3 u2 t3 hu2 eu2 => ?_⟩
            (try simp only [tVar, tC, tOp, tUn, rI, rI0, rU, rEq, rNe, scal, tTest, tB, tAnd, tOr, tNot, tAndV, tOrV, tNotV, tIf, tChain, tNil, tCons, tCB, tCall, tTup, tLst, tRet, tRetN, tDrop, tSeq, tNext, tIfS, tAsg, gName, tPar, tPar3, gNil, gCons, gTup, gSub, tAug, tSl, tNoPart, tPart, tBM, tBM0, tYes, tIsP, iSeq, iEnumA, RZ.iZipA, iRng1, iRng2, iList, iTup, rIsi, rIsB, rIxL, rIxT, rIxA, rLenA, rListOf, rTupOf, rSetL, rSlL, rCat, rAppend, tFld, sFld, tMake, tBits, Int.ofNat_inj, cast1, cast0, TruV, cxOf, Cx.nox, Cx.wish, tNever, tBreak, tCont, ipI, tDIn, tDNotIn, sDPut, tDNewT, tDNewK, tDGet, rSortedPO, rSortedI, rIn, rEqD, rNeD, rInD, rNotInD, tSSet, rIsV, rIntI, rIntB, rAbsN, tLstRg, tRg1, tRg2, List.append_nil, List.nil_append, List.cons_append, Option.some.injEq, exists_eq_left', exists_eq_left, exists_eq_right, exists_eq_right', List.getElem?_cons_zero, List.getElem?_cons_succ, List.set_cons_zero, List.set_cons_succ, List.cons.injEq, and_true, true_and, exists_and_left, exists_and_right, and_assoc, V.int.injEq, V.bl.injEq, V.ref.injEq, V.str.injEq, reduceCtorEq, decide_true, decide_false, Bool.not_true, Bool.not_false, Bool.false_eq_true, if_false, if_true, ite_true, ite_false, List.length_cons, List.length_nil])
            have t13 := t12.trans t3
            refine ⟨p1, zs1.take c1, rfl, .inl (.of (t13 _ _ ep1B)), fun z hz => by have := lt1 z hz; omega, ?_⟩
            refine ⟨r, nearM n ps, maskOf (zs1.take c1), rfl, .of (t13 _ _ rB), by rw [near_len]; omega, by rw [near_len]; exact maskOf_lt lt1, fun B4 t4 => ?_⟩
            refine ⟨_, rfl, Nat.lt_of_lt_of_le (nearOf_lt hg) (Nat.pow_le_pow_right (by decide) h12), fun B5 v1 t5 hv1 ev1 => ?_⟩
            have eu15 := t5 _ _ (t4 _ _ (t3 _ _ (t2 _ _ eu1)))
            rw [near_perm hpm hg] at eu15
            refine ⟨_, _, rfl, .ints eu15 ev1, fun B6 t6 => ?_⟩
            (try simp only [tVar, tC, tOp, tUn, rI, rI0, rU, rEq, rNe, scal, tTest, tB, tAnd, tOr, tNot, tAndV, tOrV, tNotV, tIf, tChain, tNil, tCons, tCB, tCall, tTup, tLst, tRet, tRetN, tDrop, tSeq, tNext, tIfS, tAsg, gName, tPar, tPar3, gNil, gCons, gTup, gSub, tAug, tSl, tNoPart, tPart, tBM, tBM0, tYes, tIsP, iSeq, iEnumA, RZ.iZipA, iRng1, iRng2, iList, iTup, rIsi, rIsB, rIxL, rIxT, rIxA, rLenA, rListOf, rTupOf, rSetL, rSlL, rCat, rAppend, tFld, sFld, tMake, tBits, Int.ofNat_inj, cast1, cast0, TruV, cxOf, Cx.nox, Cx.wish, tNever, tBreak, tCont, ipI, tDIn, tDNotIn, sDPut, tDNewT, tDNewK, tDGet, rSortedPO, rSortedI, rIn, rEqD, rNeD, rInD, rNotInD, tSSet, rIsV, rIntI, rIntB, rAbsN, tLstRg, tRg1, tRg2, List.append_nil, List.nil_append, List.cons_append, Option.some.injEq, exists_eq_left', exists_eq_left, exists_eq_right, exists_eq_right', List.getElem?_cons_zero, List.getElem?_cons_succ, List.set_cons_zero, List.set_cons_succ, List.cons.injEq, and_true, true_and, exists_and_left, exists_and_right, and_assoc, V.int.injEq, V.bl.injEq, V.ref.injEq, V.str.injEq, reduceCtorEq, decide_true, decide_false, Bool.not_true, Bool.not_false, Bool.false_eq_true, if_false, if_true, ite_true, ite_false, List.length_cons, List.length_nil])
            have t16 := ((t13.trans t4).trans t5).trans t6
            have t26 := ((t3.trans t4).trans t5).trans t6
            have t36 := (t4.trans t5).trans t6
            refine ⟨_, t16 _ _ ep1B, _, t16 _ _ ep2B, by rw [List.length_map, List.length_map, sizeLine_eq]; omega, fun w1 hw1 => ?_⟩
            have t7 := same_new (o := .lst (nvs (zs1.take c1) ++ nvs (zs2.take c2))) hw1
            refine ⟨(zs1.take c1 ++ zs2.take c2).map Int.ofNat, .of (by rw [upd_same, cat_nvs]), by rw [List.length_map, List.length_append]; omega, fun out w2 asc mem hw2 => ?_⟩
            obtain ⟨us, eus, ascu, memu⟩ := asc_nat asc mem
            rw [eus]
            have t8 := same_new (o := .lst (nvs us)) hw2
            have t18 := (t16.trans t7).trans t8
            refine ⟨k, n, qs, w2, us, rfl, kB.same t18, gq, .inl (.of upd_same), ⟨ascu.imp fun h => Nat.ne_of_lt h, fun z hz => ?_⟩, fun B9 u3 t9 hu3 eu3 => ?_⟩
            · rcases List.mem_append.mp ((memu z).mp hz) with h | h
              · exact lt1 z h
              · exact lt2 z h
            (try simp only [tVar, tC, tOp, tUn, rI, rI0, rU, rEq, rNe, scal, tTest, tB, tAnd, tOr, tNot, tAndV, tOrV, tNotV, tIf, tChain, tNil, tCons, tCB, tCall, tTup, tLst, tRet, tRetN, tDrop, tSeq, tNext, tIfS, tAsg, gName, tPar, tPar3, gNil, gCons, gTup, gSub, tAug, tSl, tNoPart, tPart, tBM, tBM0, tYes, tIsP, iSeq, iEnumA, RZ.iZipA, iRng1, iRng2, iList, iTup, rIsi, rIsB, rIxL, rIxT, rIxA, rLenA, rListOf, rTupOf, rSetL, rSlL, rCat, rAppend, tFld, sFld, tMake, tBits, Int.ofNat_inj, cast1, cast0, TruV, cxOf, Cx.nox, Cx.wish, tNever, tBreak, tCont, ipI, tDIn, tDNotIn, sDPut, tDNewT, tDNewK, tDGet, rSortedPO, rSortedI, rIn, rEqD, rNeD, rInD, rNotInD, tSSet, rIsV, rIntI, rIntB, rAbsN, tLstRg, tRg1, tRg2, List.append_nil, List.nil_append, List.cons_append, Option.some.injEq, exists_eq_left', exists_eq_left, exists_eq_right, exists_eq_right', List.getElem?_cons_zero, List.getElem?_cons_succ, List.set_cons_zero, List.set_cons_succ, List.cons.injEq, and_true, true_and, exists_and_left, exists_and_right, and_assoc, V.int.injEq, V.bl.injEq, V.ref.injEq, V.str.injEq, reduceCtorEq, decide_true, decide_false, Bool.not_true, Bool.not_false, Bool.false_eq_true, if_false, if_true, ite_true, ite_false, List.length_cons, List.length_nil])
            have t69 := (t7.trans t8).trans t9
            have eu1B := t69 _ _ (t26 _ _ (t2 _ _ eu1))
            have eu2B := t69 _ _ (t36 _ _ eu2)
            have b1 := bits_len (nearOf_lt gq (m := maskOf (zs1.take c1)))
            have b2 := bits_len (nearOf_lt gq (m := maskOf (zs2.take c2)))
            refine ⟨_, .inr (.inl (.inl eu1B)), fun l1 hl1 => ?_⟩
            have r1 := same_new (o := .lst (nvs (bits (nearOf (nearM n qs) (maskOf (zs1.take c1)))))) hl1
            refine ⟨_, .inr (.inl (.inl (r1 _ _ eu2B))), fun l2 hl2 => ?_⟩
            have r2 := same_new (o := .lst (nvs (bits (nearOf (nearM n qs) (maskOf (zs2.take c2)))))) hl2
            refine ⟨_, r2 _ _ upd_same, _, upd_same, by rw [List.length_map, List.length_map, sizeLine_eq]; omega, fun w3 hw3 => ?_⟩
            have r3 := same_new (o := .lst (nvs (bits (nearOf (nearM n qs) (maskOf (zs1.take c1)))) ++ nvs (bits (nearOf (nearM n qs) (maskOf (zs2.take c2)))))) hw3
            refine ⟨(bits (nearOf (nearM n qs) (maskOf (zs1.take c1))) ++ bits (nearOf (nearM n qs) (maskOf (zs2.take c2)))).map Int.ofNat, .of (by rw [upd_same, cat_nvs]), by rw [List.length_map, List.length_append]; omega, fun out2 w4 asc2 mem2 hw4 => ?_⟩
            obtain ⟨vs, evs, ascv, memv⟩ := asc_nat asc2 mem2
            rw [evs]
            have r4 := same_new (o := .lst (nvs vs)) hw4
            rw [both_is gq lt1 lt2 memu ascv memv] at eu3
            refine ⟨_, .inl ⟨.of upd_same, fun l3 hl3 => ?_⟩⟩
            have r5 := same_new (o := .tup (nvs vs)) hl3
            have r15 := (((r1.trans r2).trans r3).trans r4).trans r5
            refine ⟨_, _, rfl, .ints (r15 _ _ eu3) upd_same, fun B10 t10 => ?_⟩
            (try simp only [tVar, tC, tOp, tUn, rI, rI0, rU, rEq, rNe, scal, tTest, tB, tAnd, tOr, tNot, tAndV, tOrV, tNotV, tIf, tChain, tNil, tCons, tCB, tCall, tTup, tLst, tRet, tRetN, tDrop, tSeq, tNext, tIfS, tAsg, gName, tPar, tPar3, gNil, gCons, gTup, gSub, tAug, tSl, tNoPart, tPart, tBM, tBM0, tYes, tIsP, iSeq, iEnumA, RZ.iZipA, iRng1, iRng2, iList, iTup, rIsi, rIsB, rIxL, rIxT, rIxA, rLenA, rListOf, rTupOf, rSetL, rSlL, rCat, rAppend, tFld, sFld, tMake, tBits, Int.ofNat_inj, cast1, cast0, TruV, cxOf, Cx.nox, Cx.wish, tNever, tBreak, tCont, ipI, tDIn, tDNotIn, sDPut, tDNewT, tDNewK, tDGet, rSortedPO, rSortedI, rIn, rEqD, rNeD, rInD, rNotInD, tSSet, rIsV, rIntI, rIntB, rAbsN, tLstRg, tRg1, tRg2, List.append_nil, List.nil_append, List.cons_append, Option.some.injEq, exists_eq_left', exists_eq_left, exists_eq_right, exists_eq_right', List.getElem?_cons_zero, List.getElem?_cons_succ, List.set_cons_zero, List.set_cons_succ, List.cons.injEq, and_true, true_and, exists_and_left, exists_and_right, and_assoc, V.int.injEq, V.bl.injEq, V.ref.injEq, V.str.injEq, reduceCtorEq, decide_true, decide_false, Bool.not_true, Bool.not_false, Bool.false_eq_true, if_false, if_true, ite_true, ite_false, List.length_cons, List.length_nil])
            have t110 := ((t18.trans t9).trans r15).trans t10
            refine ⟨n, rfl, ⟨n1, h12⟩, fun B11 k2 qs2 t11 hk2 pm3 => ?_⟩
            (try simp only [tVar, tC, tOp, tUn, rI, rI0, rU, rEq, rNe, scal, tTest, tB, tAnd, tOr, tNot, tAndV, tOrV, tNotV, tIf, tChain, tNil, tCons, tCB, tCall, tTup, tLst, tRet, tRetN, tDrop, tSeq, tNext, tIfS, tAsg, gName, tPar, tPar3, gNil, gCons, gTup, gSub, tAug, tSl, tNoPart, tPart, tBM, tBM0, tYes, tIsP, iSeq, iEnumA, RZ.iZipA, iRng1, iRng2, iList, iTup, rIsi, rIsB, rIxL, rIxT, rIxA, rLenA, rListOf, rTupOf, rSetL, rSlL, rCat, rAppend, tFld, sFld, tMake, tBits, Int.ofNat_inj, cast1, cast0, TruV, cxOf, Cx.nox, Cx.wish, tNever, tBreak, tCont, ipI, tDIn, tDNotIn, sDPut, tDNewT, tDNewK, tDGet, rSortedPO, rSortedI, rIn, rEqD, rNeD, rInD, rNotInD, tSSet, rIsV, rIntI, rIntB, rAbsN, tLstRg, tRg1, tRg2, List.append_nil, List.nil_append, List.cons_append, Option.some.injEq, exists_eq_left', exists_eq_left, exists_eq_right, exists_eq_right', List.getElem?_cons_zero, List.getElem?_cons_succ, List.set_cons_zero, List.set_cons_succ, List.cons.injEq, and_true, true_and, exists_and_left, exists_and_right, and_assoc, V.int.injEq, V.bl.injEq, V.ref.injEq, V.str.injEq, reduceCtorEq, decide_true, decide_false, Bool.not_true, Bool.not_false, Bool.false_eq_true, if_false, if_true, ite_true, ite_false, List.length_cons, List.length_nil])
            have t111 := t110.trans t11
            refine ⟨k2, n, qs2, p1, zs1.take c1, rfl, hk2, (plain_good h12).perm pm3, .inl (.of (t111 _ _ ep1B)), ⟨nd1, lt1⟩, fun B12 u4 t12 hu4 eu4 => ?_⟩
            (try simp only [tVar, tC, tOp, tUn, rI, rI0, rU, rEq, rNe, scal, tTest, tB, tAnd, tOr, tNot, tAndV, tOrV, tNotV, tIf, tChain, tNil, tCons, tCB, tCall, tTup, tLst, tRet, tRetN, tDrop, tSeq, tNext, tIfS, tAsg, gName, tPar, tPar3, gNil, gCons, gTup, gSub, tAug, tSl, tNoPart, tPart, tBM, tBM0, tYes, tIsP, iSeq, iEnumA, RZ.iZipA, iRng1, iRng2, iList, iTup, rIsi, rIsB, rIxL, rIxT, rIxA, rLenA, rListOf, rTupOf, rSetL, rSlL, rCat, rAppend, tFld, sFld, tMake, tBits, Int.ofNat_inj, cast1, cast0, TruV, cxOf, Cx.nox, Cx.wish, tNever, tBreak, tCont, ipI, tDIn, tDNotIn, sDPut, tDNewT, tDNewK, tDGet, rSortedPO, rSortedI, rIn, rEqD, rNeD, rInD, rNotInD, tSSet, rIsV, rIntI, rIntB, rAbsN, tLstRg, tRg1, tRg2, List.append_nil, List.nil_append, List.cons_append, Option.some.injEq, exists_eq_left', exists_eq_left, exists_eq_right, exists_eq_right', List.getElem?_cons_zero, List.getElem?_cons_succ, List.set_cons_zero, List.set_cons_succ, List.cons.injEq, and_true, true_and, exists_and_left, exists_and_right, and_assoc, V.int.injEq, V.bl.injEq, V.ref.injEq, V.str.injEq, reduceCtorEq, decide_true, decide_false, Bool.not_true, Bool.not_false, Bool.false_eq_true, if_false, if_true, ite_true, ite_false, List.length_cons, List.length_nil])
            refine ⟨(zs1.take c1).map Int.ofNat, .of (by rw [t12 _ _ (t111 _ _ ep1B), nvs_ivs]), fun ks w5 pk le5 hw5 => ?_⟩
            have ndk : ((zs1.take c1).map Int.ofNat).Nodup := List.pairwise_map.mpr (nd1.imp fun h e => h (Int.ofNat.inj e))
            obtain ⟨vs2, evs2, ascv2, memv2⟩ := asc_nat (lt_of_le_nodup ks le5 (pk.nodup_iff.mpr ndk)) fun k => pk.mem_iff
            rw [evs2]
            have r6 := same_new (o := .lst (nvs vs2)) hw5
            rw [plain_is h12 pm3 lt1 ascv2 memv2] at eu4
            refine ⟨_, .inl ⟨.of upd_same, fun l4 hl4 => ?_⟩⟩
            have r7 := same_new (o := .tup (nvs vs2)) hl4
            refine ⟨_, _, rfl, .ints (r7 _ _ (r6 _ _ eu4)) upd_same, fun B13 t13' => ?_⟩
            (try simp only [tVar, tC, tOp, tUn, rI, rI0, rU, rEq, rNe, scal, tTest, tB, tAnd, tOr, tNot, tAndV, tOrV, tNotV, tIf, tChain, tNil, tCons, tCB, tCall, tTup, tLst, tRet, tRetN, tDrop, tSeq, tNext, tIfS, tAsg, gName, tPar, tPar3, gNil, gCons, gTup, gSub, tAug, tSl, tNoPart, tPart, tBM, tBM0, tYes, tIsP, iSeq, iEnumA, RZ.iZipA, iRng1, iRng2, iList, iTup, rIsi, rIsB, rIxL, rIxT, rIxA, rLenA, rListOf, rTupOf, rSetL, rSlL, rCat, rAppend, tFld, sFld, tMake, tBits, Int.ofNat_inj, cast1, cast0, TruV, cxOf, Cx.nox, Cx.wish, tNever, tBreak, tCont, ipI, tDIn, tDNotIn, sDPut, tDNewT, tDNewK, tDGet, rSortedPO, rSortedI, rIn, rEqD, rNeD, rInD, rNotInD, tSSet, rIsV, rIntI, rIntB, rAbsN, tLstRg, tRg1, tRg2, List.append_nil, List.nil_append, List.cons_append, Option.some.injEq, exists_eq_left', exists_eq_left, exists_eq_right, exists_eq_right', List.getElem?_cons_zero, List.getElem?_cons_succ, List.set_cons_zero, List.set_cons_succ, List.cons.injEq, and_true, true_and, exists_and_left, exists_and_right, and_assoc, V.int.injEq, V.bl.injEq, V.ref.injEq, V.str.injEq, reduceCtorEq, decide_true, decide_false, Bool.not_true, Bool.not_false, Bool.false_eq_true, if_false, if_true, ite_true, ite_false, List.length_cons, List.length_nil])
            have tEnd := (((t111.trans t12).trans r6).trans r7).trans t13'
            exact ⟨gB.trans (hbB.mono tEnd), hbB.same tEnd⟩
          · rintro σ' H9 ⟨y8, y10, y11, y12, y13, y14, y15, rfl, s9, hb9⟩
            (try simp only [tVar, tC, tOp, tUn, rI, rI0, rU, rEq, rNe, scal, tTest, tB, tAnd, tOr, tNot, tAndV, tOrV, tNotV, tIf, tChain, tNil, tCons, tCB, tCall, tTup, tLst, tRet, tRetN, tDrop, tSeq, tNext, tIfS, tAsg, gName, tPar, tPar3, gNil, gCons, gTup, gSub, tAug, tSl, tNoPart, tPart, tBM, tBM0, tYes, tIsP, iSeq, iEnumA, RZ.iZipA, iRng1, iRng2, iList, iTup, rIsi, rIsB, rIxL, rIxT, rIxA, rLenA, rListOf, rTupOf, rSetL, rSlL, rCat, rAppend, tFld, sFld, tMake, tBits, Int.ofNat_inj, cast1, cast0, TruV, cxOf, Cx.nox, Cx.wish, tNever, tBreak, tCont, ipI, tDIn, tDNotIn, sDPut, tDNewT, tDNewK, tDGet, rSortedPO, rSortedI, rIn, rEqD, rNeD, rInD, rNotInD, tSSet, rIsV, rIntI, rIntB, rAbsN, tLstRg, tRg1, tRg2, List.append_nil, List.nil_append, List.cons_append, Option.some.injEq, exists_eq_left', exists_eq_left, exists_eq_right, exists_eq_right', List.getElem?_cons_zero, List.getElem?_cons_succ, List.set_cons_zero, List.set_cons_succ, List.cons.injEq, and_true, true_and, exists_and_left, exists_and_right, and_assoc, V.int.injEq, V.bl.injEq, V.ref.injEq, V.str.injEq, reduceCtorEq, decide_true, decide_false, Bool.not_true, Bool.not_false, Bool.false_eq_true, if_false, if_true, ite_true, ite_false, List.length_cons, List.length_nil])
            exact hq _ _ _ _ _ _ _ _ _ _ _ _ _ _ _ hb9
      have p3 : ∀ (D : Ends) (n : Nat) (H3 : Hp), 1 ≤ n ∧ n ≤ 12 → Bx b H3 → (∀ H' y2 y3 y4 y5 y6 y7 y8 y9 y10 y11 y12 y13 y14 y15, Bx b H' → D.nx [some (.ref a), some (.ref b), y2, y3, y4, y5, y6, y7, y8, y9, y10, y11, y12, y13, y14, y15] H') →
          sp_law_graph K [.ref b, nv n] H3 (fun x H1 => ∀ (x_1 dx : Addr), H1 x_1 = none → H1 dx = none → dx ≠ x_1 → sp_Keys_init T.c_Keys K [.ref x_1, nv n, x] (upd (upd H1 dx (.own x_1)) x_1 (.ins T.c_Keys dx []))
            (fun v H2 => v = .non ∧ F2 { D with nx := S2 D } [some (.ref a), some (.ref b), some (nv turn), some (nv n), some x, some (.ref x_1), y6, y7, y8, y9, y10, y11, y12, y13, y14, y15] H2) E0) E0 := by
        intro D n H3 hn3 hb3 hq
        refine ⟨b, n, rfl, hn3, hb3, fun H4 t xs ps s4 hb4 _ et hp hg hl => ?_⟩
        intro k dx hk hdx hne
        have e1 := same_new (o := .own k) hdx
        have hk2 : (upd H4 dx (.own k)) k = none := by rw [upd_ne (Ne.symm hne)]; exact hk
        have e2 := e1.trans (same_new (o := .ins T.c_Keys dx []) hk2)
        have hp4 : Prs H4 xs ps := hp.same (hbx_le _ _)
        refine ⟨k, dx, t, xs, ps, n, rfl, upd_same, hn3, .inl (.of (e2 _ _ (hbx_le _ _ _ _ et))), hp4.same e2, hg, by omega, fun H5 qs kp ka pm _ => ⟨rfl, ?_⟩⟩
        have s45 : Same H4 H5 := fun c o hc => kp c o (ne_of_none hc hk) (e2 _ _ hc)
        have hb5 := hb4.same s45
        have gq : GoodQ n ps := ⟨hn3.2, hg.2⟩
        refine p1 _ n t k xs ps qs H5 _ _ _ hn3.1 (.of (s45 _ _ (hbx_le _ _ _ _ et))) (hp4.same s45) gq pm ka fun H6 z6 z7 z8 s6 => ?_
        exact p2 D n t k xs ps qs H6 z6 z7 z8 hn3.1 (hb5.same s6) (hb5.mono s6 _ _ (hb4.mono s45 _ _ et)) ((hp4.same s45).same s6) gq pm (ka.same s6) hq
      (try simp only [tVar, tC, tOp, tUn, rI, rI0, rU, rEq, rNe, scal, tTest, tB, tAnd, tOr, tNot, tAndV, tOrV, tNotV, tIf, tChain, tNil, tCons, tCB, tCall, tTup, tLst, tRet, tRetN, tDrop, tSeq, tNext, tIfS, tAsg, gName, tPar, tPar3, gNil, gCons, gTup, gSub, tAug, tSl, tNoPart, tPart, tBM, tBM0, tYes, tIsP, iSeq, iEnumA, RZ.iZipA, iRng1, iRng2, iList, iTup, rIsi, rIsB, rIxL, rIxT, rIxA, rLenA, rListOf, rTupOf, rSetL, rSlL, rCat, rAppend, tFld, sFld, tMake, tBits, Int.ofNat_inj, cast1, cast0, TruV, cxOf, Cx.nox, Cx.wish, tNever, tBreak, tCont, ipI, tDIn, tDNotIn, sDPut, tDNewT, tDNewK, tDGet, rSortedPO, rSortedI, rIn, rEqD, rNeD, rInD, rNotInD, tSSet, rIsV, rIntI, rIntB, rAbsN, tLstRg, tRg1, tRg2, List.append_nil, List.nil_append, List.cons_append, Option.some.injEq, exists_eq_left', exists_eq_left, exists_eq_right, exists_eq_right', List.getElem?_cons_zero, List.getElem?_cons_succ, List.set_cons_zero, List.set_cons_succ, List.cons.injEq, and_true, true_and, exists_and_left, exists_and_right, and_assoc, V.int.injEq, V.bl.injEq, V.ref.injEq, V.str.injEq, reduceCtorEq, decide_true, decide_false, Bool.not_true, Bool.not_false, Bool.false_eq_true, if_false, if_true, ite_true, ite_false, List.length_cons, List.length_nil])
      split
      · exact p3 _ 12 H2 (by decide) hb2 fun H' z2 z3 z4 z5 z6 z7 z8 z9 z10 z11 z12 z13 z14 z15 hz => ⟨⟨_, _, _, _, _, _, _, _, _, _, _, _, _, _, rfl⟩, hz⟩
      · refine ⟨b, 12, rfl, by decide, hb2, fun H3 k s3 hb3 hk => ?_⟩
        refine ⟨k, rfl, ?_⟩
        rw [show (1 : Int) + (k : Int) = ((1 + k : Nat) : Int) from (Int.natCast_add 1 k).symm]
        exact p3 _ (1 + k) H3 (by omega) hb3 fun H' z2 z3 z4 z5 z6 z7 z8 z9 z10 z11 z12 z13 z14 z15 hz => ⟨⟨_, _, _, _, _, _, _, _, _, _, _, _, _, _, rfl⟩, hz⟩
    · rintro σ' H' _
      (try simp only [tVar, tC, tOp, tUn, rI, rI0, rU, rEq, rNe, scal, tTest, tB, tAnd, tOr, tNot, tAndV, tOrV, tNotV, tIf, tChain, tNil, tCons, tCB, tCall, tTup, tLst, tRet, tRetN, tDrop, tSeq, tNext, tIfS, tAsg, gName, tPar, tPar3, gNil, gCons, gTup, gSub, tAug, tSl, tNoPart, tPart, tBM, tBM0, tYes, tIsP, iSeq, iEnumA, RZ.iZipA, iRng1, iRng2, iList, iTup, rIsi, rIsB, rIxL, rIxT, rIxA, rLenA, rListOf, rTupOf, rSetL, rSlL, rCat, rAppend, tFld, sFld, tMake, tBits, Int.ofNat_inj, cast1, cast0, TruV, cxOf, Cx.nox, Cx.wish, tNever, tBreak, tCont, ipI, tDIn, tDNotIn, sDPut, tDNewT, tDNewK, tDGet, rSortedPO, rSortedI, rIn, rEqD, rNeD, rInD, rNotInD, tSSet, rIsV, rIntI, rIntB, rAbsN, tLstRg, tRg1, tRg2, List.append_nil, List.nil_append, List.cons_append, Option.some.injEq, exists_eq_left', exists_eq_left, exists_eq_right, exists_eq_right', List.getElem?_cons_zero, List.getElem?_cons_succ, List.set_cons_zero, List.set_cons_succ, List.cons.injEq, and_true, true_and, exists_and_left, exists_and_right, and_assoc, V.int.injEq, V.bl.injEq, V.ref.injEq, V.str.injEq, reduceCtorEq, decide_true, decide_false, Bool.not_true, Bool.not_false, Bool.false_eq_true, if_false, if_true, ite_true, ite_false, List.length_cons, List.length_nil])
      exact q _
end
end Kr
namespace Kr
open PySem PySem.Spec PyProof.Rows L2 Kb
theorem all_mk {P : Program} {w : World} {K : PySem.W.Frag} {h : Heap} {mg : Str → Option Value} {fa : Addr} (X : K.In h) (G : h.Ns mainGlobals mg) (hfa : mg "law" = some (.ref fa))
    {c_Keys : Addr}
    {f1 : Addr} {od1 an1 : Option Addr} {sl1 : Array (Option Value)} {oc1 kV1 dc1 pm1 cd1 ct1 : Value}
    {f2 : Addr} {od2 an2 : Option Addr} {sl2 : Array (Option Value)} {oc2 kV2 dc2 pm2 cd2 ct2 : Value}
    {f3 : Addr} {od3 an3 : Option Addr} {sl3 : Array (Option Value)} {oc3 kV3 dc3 pm3 cd3 ct3 : Value}
    {f4 : Addr} {od4 an4 : Option Addr} {sl4 : Array (Option Value)} {oc4 kV4 dc4 pm4 cd4 ct4 : Value}
    {f5 : Addr} {od5 an5 : Option Addr} {sl5 : Array (Option Value)} {oc5 kV5 dc5 pm5 cd5 ct5 : Value}
    {f6 : Addr} {od6 an6 : Option Addr} {sl6 : Array (Option Value)} {oc6 kV6 dc6 pm6 cd6 ct6 : Value}
    {f7 : Addr} {od7 an7 : Option Addr} {sl7 : Array (Option Value)} {oc7 kV7 dc7 pm7 cd7 ct7 : Value}
    {f8 : Addr} {od8 an8 : Option Addr} {sl8 : Array (Option Value)} {oc8 kV8 dc8 pm8 cd8 ct8 : Value}
    {f9 : Addr} {od9 an9 : Option Addr} {sl9 : Array (Option Value)} {oc9 kV9 dc9 pm9 cd9 ct9 : Value}
    {f10 : Addr} {od10 an10 : Option Addr} {sl10 : Array (Option Value)} {oc10 kV10 dc10 pm10 cd10 ct10 : Value}
    {f11 : Addr} {od11 an11 : Option Addr} {sl11 : Array (Option Value)} {oc11 kV11 dc11 pm11 cd11 ct11 : Value}
    {f12 : Addr} {od12 an12 : Option Addr} {sl12 : Array (Option Value)} {oc12 kV12 dc12 pm12 cd12 ct12 : Value}
    {f13 : Addr} {od13 an13 : Option Addr} {sl13 : Array (Option Value)} {oc13 kV13 dc13 pm13 cd13 ct13 : Value}
    {f14 : Addr} {od14 an14 : Option Addr} {sl14 : Array (Option Value)} {oc14 kV14 dc14 pm14 cd14 ct14 : Value}
    {f15 : Addr} {od15 an15 : Option Addr} {sl15 : Array (Option Value)} {oc15 kV15 dc15 pm15 cd15 ct15 : Value}
    {f16 : Addr} {od16 an16 : Option Addr} {sl16 : Array (Option Value)} {oc16 kV16 dc16 pm16 cd16 ct16 : Value}
    {f17 : Addr} {od17 an17 : Option Addr} {sl17 : Array (Option Value)} {oc17 kV17 dc17 pm17 cd17 ct17 : Value}
    {f18 : Addr} {od18 an18 : Option Addr} {sl18 : Array (Option Value)} {oc18 kV18 dc18 pm18 cd18 ct18 : Value}
    {f19 : Addr} {od19 an19 : Option Addr} {sl19 : Array (Option Value)} {oc19 kV19 dc19 pm19 cd19 ct19 : Value}
    {f20 : Addr} {od20 an20 : Option Addr} {sl20 : Array (Option Value)} {oc20 kV20 dc20 pm20 cd20 ct20 : Value}
    {f21 : Addr} {od21 an21 : Option Addr} {sl21 : Array (Option Value)} {oc21 kV21 dc21 pm21 cd21 ct21 : Value}
    {f22 : Addr} {od22 an22 : Option Addr} {sl22 : Array (Option Value)} {oc22 kV22 dc22 pm22 cd22 ct22 : Value}
    {f23 : Addr} {od23 an23 : Option Addr} {sl23 : Array (Option Value)} {oc23 kV23 dc23 pm23 cd23 ct23 : Value}
    {f24 : Addr} {od24 an24 : Option Addr} {sl24 : Array (Option Value)} {oc24 kV24 dc24 pm24 cd24 ct24 : Value}
    {f25 : Addr} {od25 an25 : Option Addr} {sl25 : Array (Option Value)} {oc25 kV25 dc25 pm25 cd25 ct25 : Value}
    {f26 : Addr} {od26 an26 : Option Addr} {sl26 : Array (Option Value)} {oc26 kV26 dc26 pm26 cd26 ct26 : Value}
    {f27 : Addr} {od27 an27 : Option Addr} {sl27 : Array (Option Value)} {oc27 kV27 dc27 pm27 cd27 ct27 : Value}
    {f28 : Addr} {od28 an28 : Option Addr} {sl28 : Array (Option Value)} {oc28 kV28 dc28 pm28 cd28 ct28 : Value}
    {f29 : Addr} {od29 an29 : Option Addr} {sl29 : Array (Option Value)} {oc29 kV29 dc29 pm29 cd29 ct29 : Value}
    {f30 : Addr} {od30 an30 : Option Addr} {sl30 : Array (Option Value)} {oc30 kV30 dc30 pm30 cd30 ct30 : Value}
    {t_MOST_KEYS : Tok}
    (aC_Keys : PySem.W.nsIn K mainGlobals "Keys" = some (some (.ref c_Keys)))
    (a1 : PySem.W.nsIn K mainGlobals "is_integer" = some (some (.ref f1)))
    (l1 : K.lookup f1 = some ⟨oc1, od1, .func (PySem.W.fnOf "is_integer" "is_integer" (defArgs s_is_integer) (defBody s_is_integer) (defScope s_is_integer) .none kV1 dc1 pm1 an1 cd1 ct1), sl1⟩)
    (c1 : PySem.W.codeIn K cd1 "is_integer" = true)
    (k1 : PySem.W.keepIn K (.ref f1) = true)
    (a2 : PySem.W.nsIn K mainGlobals "is_below" = some (some (.ref f2)))
    (l2 : K.lookup f2 = some ⟨oc2, od2, .func (PySem.W.fnOf "is_below" "is_below" (defArgs s_is_below) (defBody s_is_below) (defScope s_is_below) .none kV2 dc2 pm2 an2 cd2 ct2), sl2⟩)
    (c2 : PySem.W.codeIn K cd2 "is_below" = true)
    (k2 : PySem.W.keepIn K (.ref f2) = true)
    (a3 : PySem.W.nsIn K mainGlobals "is_between" = some (some (.ref f3)))
    (l3 : K.lookup f3 = some ⟨oc3, od3, .func (PySem.W.fnOf "is_between" "is_between" (defArgs s_is_between) (defBody s_is_between) (defScope s_is_between) .none kV3 dc3 pm3 an3 cd3 ct3), sl3⟩)
    (c3 : PySem.W.codeIn K cd3 "is_between" = true)
    (k3 : PySem.W.keepIn K (.ref f3) = true)
    (a4 : PySem.W.nsIn K mainGlobals "is_sequence" = some (some (.ref f4)))
    (l4 : K.lookup f4 = some ⟨oc4, od4, .func (PySem.W.fnOf "is_sequence" "is_sequence" (defArgs s_is_sequence) (defBody s_is_sequence) (defScope s_is_sequence) .none kV4 dc4 pm4 an4 cd4 ct4), sl4⟩)
    (c4 : PySem.W.codeIn K cd4 "is_sequence" = true)
    (k4 : PySem.W.keepIn K (.ref f4) = true)
    (a5 : PySem.W.nsIn K mainGlobals "is_row" = some (some (.ref f5)))
    (l5 : K.lookup f5 = some ⟨oc5, od5, .func (PySem.W.fnOf "is_row" "is_row" (defArgs s_is_row) (defBody s_is_row) (defScope s_is_row) .none kV5 dc5 pm5 an5 cd5 ct5), sl5⟩)
    (c5 : PySem.W.codeIn K cd5 "is_row" = true)
    (k5 : PySem.W.keepIn K (.ref f5) = true)
    (a6 : PySem.W.nsIn K mainGlobals "lot_wrong" = some (some (.ref f6)))
    (l6 : K.lookup f6 = some ⟨oc6, od6, .func (PySem.W.fnOf "lot_wrong" "lot_wrong" (defArgs s_lot_wrong) (defBody s_lot_wrong) (defScope s_lot_wrong) .none kV6 dc6 pm6 an6 cd6 ct6), sl6⟩)
    (c6 : PySem.W.codeIn K cd6 "lot_wrong" = true)
    (k6 : PySem.W.keepIn K (.ref f6) = true)
    (a7 : PySem.W.nsIn K mainGlobals "lot_of" = some (some (.ref f7)))
    (l7 : K.lookup f7 = some ⟨oc7, od7, .func (PySem.W.fnOf "lot_of" "lot_of" (defArgs s_lot_of) (defBody s_lot_of) (defScope s_lot_of) .none kV7 dc7 pm7 an7 cd7 ct7), sl7⟩)
    (c7 : PySem.W.codeIn K cd7 "lot_of" = true)
    (k7 : PySem.W.keepIn K (.ref f7) = true)
    (a8 : PySem.W.nsIn K mainGlobals "mask_of" = some (some (.ref f8)))
    (l8 : K.lookup f8 = some ⟨oc8, od8, .func (PySem.W.fnOf "mask_of" "mask_of" (defArgs s_mask_of) (defBody s_mask_of) (defScope s_mask_of) .none kV8 dc8 pm8 an8 cd8 ct8), sl8⟩)
    (c8 : PySem.W.codeIn K cd8 "mask_of" = true)
    (k8 : PySem.W.keepIn K (.ref f8) = true)
    (a9 : PySem.W.findIn K (.ref c_Keys) "__init__" = some (some (.ref f9)))
    (i9 : PySem.W.isFn K (.ref f9) = true)
    (l9 : K.lookup f9 = some ⟨oc9, od9, .func (PySem.W.fnOf "__init__" "Keys.__init__" (defArgs s_Keys___init__) (defBody s_Keys___init__) (defScope s_Keys___init__) .none kV9 dc9 pm9 an9 cd9 ct9), sl9⟩)
    (c9 : PySem.W.codeIn K cd9 "Keys.__init__" = true)
    (k9 : PySem.W.keepIn K (.ref f9) = true)
    (a10 : PySem.W.nsIn K mainGlobals "need_count" = some (some (.ref f10)))
    (l10 : K.lookup f10 = some ⟨oc10, od10, .func (PySem.W.fnOf "need_count" "need_count" (defArgs s_need_count) (defBody s_need_count) (defScope s_need_count) .none kV10 dc10 pm10 an10 cd10 ct10), sl10⟩)
    (c10 : PySem.W.codeIn K cd10 "need_count" = true)
    (k10 : PySem.W.keepIn K (.ref f10) = true)
    (a11 : PySem.W.nsIn K mainGlobals "told_clashes" = some (some (.ref f11)))
    (l11 : K.lookup f11 = some ⟨oc11, od11, .func (PySem.W.fnOf "told_clashes" "told_clashes" (defArgs s_told_clashes) (defBody s_told_clashes) (defScope s_told_clashes) .none kV11 dc11 pm11 an11 cd11 ct11), sl11⟩)
    (c11 : PySem.W.codeIn K cd11 "told_clashes" = true)
    (k11 : PySem.W.keepIn K (.ref f11) = true)
    (a12 : PySem.W.nsIn K mainGlobals "need_keys" = some (some (.ref f12)))
    (l12 : K.lookup f12 = some ⟨oc12, od12, .func (PySem.W.fnOf "need_keys" "need_keys" (defArgs s_need_keys) (defBody s_need_keys) (defScope s_need_keys) .none kV12 dc12 pm12 an12 cd12 ct12), sl12⟩)
    (c12 : PySem.W.codeIn K cd12 "need_keys" = true)
    (k12 : PySem.W.keepIn K (.ref f12) = true)
    (a13 : PySem.W.nsIn K mainGlobals "need_key" = some (some (.ref f13)))
    (l13 : K.lookup f13 = some ⟨oc13, od13, .func (PySem.W.fnOf "need_key" "need_key" (defArgs s_need_key) (defBody s_need_key) (defScope s_need_key) .none kV13 dc13 pm13 an13 cd13 ct13), sl13⟩)
    (c13 : PySem.W.codeIn K cd13 "need_key" = true)
    (k13 : PySem.W.keepIn K (.ref f13) = true)
    (a14 : PySem.W.nsIn K mainGlobals "need_lot" = some (some (.ref f14)))
    (l14 : K.lookup f14 = some ⟨oc14, od14, .func (PySem.W.fnOf "need_lot" "need_lot" (defArgs s_need_lot) (defBody s_need_lot) (defScope s_need_lot) .none kV14 dc14 pm14 an14 cd14 ct14), sl14⟩)
    (c14 : PySem.W.codeIn K cd14 "need_lot" = true)
    (k14 : PySem.W.keepIn K (.ref f14) = true)
    (a15 : PySem.W.nsIn K mainGlobals "near_masks" = some (some (.ref f15)))
    (l15 : K.lookup f15 = some ⟨oc15, od15, .func (PySem.W.fnOf "near_masks" "near_masks" (defArgs s_near_masks) (defBody s_near_masks) (defScope s_near_masks) .none kV15 dc15 pm15 an15 cd15 ct15), sl15⟩)
    (c15 : PySem.W.codeIn K cd15 "near_masks" = true)
    (k15 : PySem.W.keepIn K (.ref f15) = true)
    (a16 : PySem.W.nsIn K mainGlobals "near_of" = some (some (.ref f16)))
    (l16 : K.lookup f16 = some ⟨oc16, od16, .func (PySem.W.fnOf "near_of" "near_of" (defArgs s_near_of) (defBody s_near_of) (defScope s_near_of) .none kV16 dc16 pm16 an16 cd16 ct16), sl16⟩)
    (c16 : PySem.W.codeIn K cd16 "near_of" = true)
    (k16 : PySem.W.keepIn K (.ref f16) = true)
    (a17 : PySem.W.nsIn K mainGlobals "plain_keys" = some (some (.ref f17)))
    (l17 : K.lookup f17 = some ⟨oc17, od17, .func (PySem.W.fnOf "plain_keys" "plain_keys" (defArgs s_plain_keys) (defBody s_plain_keys) (defScope s_plain_keys) .none kV17 dc17 pm17 an17 cd17 ct17), sl17⟩)
    (c17 : PySem.W.codeIn K cd17 "plain_keys" = true)
    (k17 : PySem.W.keepIn K (.ref f17) = true)
    (a18 : PySem.W.nsIn K mainGlobals "clash" = some (some (.ref f18)))
    (l18 : K.lookup f18 = some ⟨oc18, od18, .func (PySem.W.fnOf "clash" "clash" (defArgs s_clash) (defBody s_clash) (defScope s_clash) .none kV18 dc18 pm18 an18 cd18 ct18), sl18⟩)
    (c18 : PySem.W.codeIn K cd18 "clash" = true)
    (k18 : PySem.W.keepIn K (.ref f18) = true)
    (a19 : PySem.W.nsIn K mainGlobals "clashing" = some (some (.ref f19)))
    (l19 : K.lookup f19 = some ⟨oc19, od19, .func (PySem.W.fnOf "clashing" "clashing" (defArgs s_clashing) (defBody s_clashing) (defScope s_clashing) .none kV19 dc19 pm19 an19 cd19 ct19), sl19⟩)
    (c19 : PySem.W.codeIn K cd19 "clashing" = true)
    (k19 : PySem.W.keepIn K (.ref f19) = true)
    (a20 : PySem.W.nsIn K mainGlobals "bare_keys" = some (some (.ref f20)))
    (l20 : K.lookup f20 = some ⟨oc20, od20, .func (PySem.W.fnOf "bare_keys" "bare_keys" (defArgs s_bare_keys) (defBody s_bare_keys) (defScope s_bare_keys) .none kV20 dc20 pm20 an20 cd20 ct20), sl20⟩)
    (c20 : PySem.W.codeIn K cd20 "bare_keys" = true)
    (k20 : PySem.W.keepIn K (.ref f20) = true)
    (a21 : PySem.W.nsIn K mainGlobals "_law_box" = some (some (.ref f21)))
    (l21 : K.lookup f21 = some ⟨oc21, od21, .func (PySem.W.fnOf "_law_box" "_law_box" (defArgs s__law_box) (defBody s__law_box) (defScope s__law_box) .none kV21 dc21 pm21 an21 cd21 ct21), sl21⟩)
    (c21 : PySem.W.codeIn K cd21 "_law_box" = true)
    (k21 : PySem.W.keepIn K (.ref f21) = true)
    (a22 : PySem.W.nsIn K mainGlobals "_law_take" = some (some (.ref f22)))
    (l22 : K.lookup f22 = some ⟨oc22, od22, .func (PySem.W.fnOf "_law_take" "_law_take" (defArgs s__law_take) (defBody s__law_take) (defScope s__law_take) .none kV22 dc22 pm22 an22 cd22 ct22), sl22⟩)
    (c22 : PySem.W.codeIn K cd22 "_law_take" = true)
    (k22 : PySem.W.keepIn K (.ref f22) = true)
    (a23 : PySem.W.nsIn K mainGlobals "_law_mixed" = some (some (.ref f23)))
    (l23 : K.lookup f23 = some ⟨oc23, od23, .func (PySem.W.fnOf "_law_mixed" "_law_mixed" (defArgs s__law_mixed) (defBody s__law_mixed) (defScope s__law_mixed) .none kV23 dc23 pm23 an23 cd23 ct23), sl23⟩)
    (c23 : PySem.W.codeIn K cd23 "_law_mixed" = true)
    (k23 : PySem.W.keepIn K (.ref f23) = true)
    (a24 : PySem.W.nsIn K mainGlobals "_law_is" = some (some (.ref f24)))
    (l24 : K.lookup f24 = some ⟨oc24, od24, .func (PySem.W.fnOf "_law_is" "_law_is" (defArgs s__law_is) (defBody s__law_is) (defScope s__law_is) .none kV24 dc24 pm24 an24 cd24 ct24), sl24⟩)
    (c24 : PySem.W.codeIn K cd24 "_law_is" = true)
    (k24 : PySem.W.keepIn K (.ref f24) = true)
    (a25 : PySem.W.nsIn K mainGlobals "_law_lot" = some (some (.ref f25)))
    (l25 : K.lookup f25 = some ⟨oc25, od25, .func (PySem.W.fnOf "_law_lot" "_law_lot" (defArgs s__law_lot) (defBody s__law_lot) (defScope s__law_lot) .none kV25 dc25 pm25 an25 cd25 ct25), sl25⟩)
    (c25 : PySem.W.codeIn K cd25 "_law_lot" = true)
    (k25 : PySem.W.keepIn K (.ref f25) = true)
    (a26 : PySem.W.nsIn K mainGlobals "_law_mask" = some (some (.ref f26)))
    (l26 : K.lookup f26 = some ⟨oc26, od26, .func (PySem.W.fnOf "_law_mask" "_law_mask" (defArgs s__law_mask) (defBody s__law_mask) (defScope s__law_mask) .none kV26 dc26 pm26 an26 cd26 ct26), sl26⟩)
    (c26 : PySem.W.codeIn K cd26 "_law_mask" = true)
    (k26 : PySem.W.keepIn K (.ref f26) = true)
    (a27 : PySem.W.nsIn K mainGlobals "_law_near" = some (some (.ref f27)))
    (l27 : K.lookup f27 = some ⟨oc27, od27, .func (PySem.W.fnOf "_law_near" "_law_near" (defArgs s__law_near) (defBody s__law_near) (defScope s__law_near) .none kV27 dc27 pm27 an27 cd27 ct27), sl27⟩)
    (c27 : PySem.W.codeIn K cd27 "_law_near" = true)
    (k27 : PySem.W.keepIn K (.ref f27) = true)
    (a28 : PySem.W.nsIn K mainGlobals "_law_close" = some (some (.ref f28)))
    (l28 : K.lookup f28 = some ⟨oc28, od28, .func (PySem.W.fnOf "_law_close" "_law_close" (defArgs s__law_close) (defBody s__law_close) (defScope s__law_close) .none kV28 dc28 pm28 an28 cd28 ct28), sl28⟩)
    (c28 : PySem.W.codeIn K cd28 "_law_close" = true)
    (k28 : PySem.W.keepIn K (.ref f28) = true)
    (a29 : PySem.W.nsIn K mainGlobals "_law_graph" = some (some (.ref f29)))
    (l29 : K.lookup f29 = some ⟨oc29, od29, .func (PySem.W.fnOf "_law_graph" "_law_graph" (defArgs s__law_graph) (defBody s__law_graph) (defScope s__law_graph) .none kV29 dc29 pm29 an29 cd29 ct29), sl29⟩)
    (c29 : PySem.W.codeIn K cd29 "_law_graph" = true)
    (k29 : PySem.W.keepIn K (.ref f29) = true)
    (a30 : PySem.W.nsIn K mainGlobals "law" = some (some (.ref f30)))
    (l30 : K.lookup f30 = some ⟨oc30, od30, .func (PySem.W.fnOf "law" "law" (defArgs s_law) (defBody s_law) (defScope s_law) .none kV30 dc30 pm30 an30 cd30 ct30), sl30⟩)
    (c30 : PySem.W.codeIn K cd30 "law" = true)
    (k30 : PySem.W.keepIn K (.ref f30) = true)
    (mk_Keys : PySem.W.makesIn K c_Keys = true)
    (kc_Keys : PySem.W.keepIn K (.ref c_Keys) = true)
    (pg_Keys : PySem.W.plainGet K c_Keys Str.empty = true)
    (hd_Keys : PySem.W.hasDictIn K c_Keys = true)
    (po_Keys : PySem.W.plainOver K c_Keys = true)
    (sa_Keys : PySem.W.findIn K (.ref c_Keys) "__setattr__" = some (some (.builtin "object.__setattr__")))
    (hna_many_Keys : PySem.W.findIn K (.ref c_Keys) "many" = some none)
    (hna_clashes_Keys : PySem.W.findIn K (.ref c_Keys) "clashes" = some none)
    (ha_Keys : PySem.W.findIn K (.ref c_Keys) "__class__" = some (some (.builtin "object.__class__")))
    (hn_Keys : PySem.W.specialIn K (.builtin "object.__class__") "__get__" = some (some (.builtin "getset_descriptor.__get__")))
    (ht_Keys : PySem.W.takesIn K (.builtin "object.__class__") = some true)
    (hm_Keys : PySem.W.mroIn K c_Keys (.type "object") = some true)
    (me_Keys : PySem.W.kitOne K (.ref c_Keys) (.ref c_Keys) = some true)
    (q_MOST_KEYS : PySem.W.nsIn K mainGlobals "MOST_KEYS" = some (some (.int 12 t_MOST_KEYS)))
    (z_abs : PySem.W.nsIn K mainGlobals "abs" = some none)
    (z_bool : PySem.W.nsIn K mainGlobals "bool" = some none)
    (z_enumerate : PySem.W.nsIn K mainGlobals "enumerate" = some none)
    (z_int : PySem.W.nsIn K mainGlobals "int" = some none)
    (z_isinstance : PySem.W.nsIn K mainGlobals "isinstance" = some none)
    (z_len : PySem.W.nsIn K mainGlobals "len" = some none)
    (z_list : PySem.W.nsIn K mainGlobals "list" = some none)
    (z_range : PySem.W.nsIn K mainGlobals "range" = some none)
    (z_set : PySem.W.nsIn K mainGlobals "set" = some none)
    (z_sorted : PySem.W.nsIn K mainGlobals "sorted" = some none)
    (z_str : PySem.W.nsIn K mainGlobals "str" = some none)
    (z_tuple : PySem.W.nsIn K mainGlobals "tuple" = some none)
    (z_zip : PySem.W.nsIn K mainGlobals "zip" = some none) :
    ∃ fd : FuncData, (∀ (s : Shared) (v : Value), BindsTo s fd ⟨[v], []⟩ [("script", v)]) ∧ ∀ base : Heap, K.In base → base.Ns mainGlobals mg → FnOk P w K mg base CX0 7 fa fd ["script"] (sp_law K) := by
  have e := hfa.symm.trans (PySem.W.mg_of X G a30)
  cases e
  have F1 := fun_mk (st := s_is_integer) l1 c1 k1
  have b1 := F1.binds (ps := ["value"]) fun _ _ _ _ _ _ us hl => match us, hl with | [_], _ => rfl
  have F2 := fun_mk (st := s_is_below) l2 c2 k2
  have b2 := F2.binds (ps := ["value", "limit"]) fun _ _ _ _ _ _ us hl => match us, hl with | [_, _], _ => rfl
  have F3 := fun_mk (st := s_is_between) l3 c3 k3
  have b3 := F3.binds (ps := ["value", "least", "greatest"]) fun _ _ _ _ _ _ us hl => match us, hl with | [_, _, _], _ => rfl
  have F4 := fun_mk (st := s_is_sequence) l4 c4 k4
  have b4 := F4.binds (ps := ["value"]) fun _ _ _ _ _ _ us hl => match us, hl with | [_], _ => rfl
  have F5 := fun_mk (st := s_is_row) l5 c5 k5
  have b5 := F5.binds (ps := ["value", "many"]) fun _ _ _ _ _ _ us hl => match us, hl with | [_, _], _ => rfl
  have F6 := fun_mk (st := s_lot_wrong) l6 c6 k6
  have b6 := F6.binds (ps := ["value", "limit"]) fun _ _ _ _ _ _ us hl => match us, hl with | [_, _], _ => rfl
  have F7 := fun_mk (st := s_lot_of) l7 c7 k7
  have b7 := F7.binds (ps := ["mask"]) fun _ _ _ _ _ _ us hl => match us, hl with | [_], _ => rfl
  have F8 := fun_mk (st := s_mask_of) l8 c8 k8
  have b8 := F8.binds (ps := ["lot"]) fun _ _ _ _ _ _ us hl => match us, hl with | [_], _ => rfl
  have F9 := fun_mk (st := s_Keys___init__) l9 c9 k9
  have b9 := F9.binds (ps := ["self", "many", "clashes"]) fun _ _ _ _ _ _ us hl => match us, hl with | [_, _, _], _ => rfl
  have F10 := fun_mk (st := s_need_count) l10 c10 k10
  have b10 := F10.binds (ps := ["value", "least", "greatest"]) fun _ _ _ _ _ _ us hl => match us, hl with | [_, _, _], _ => rfl
  have F11 := fun_mk (st := s_told_clashes) l11 c11 k11
  have b11 := F11.binds (ps := ["value", "many"]) fun _ _ _ _ _ _ us hl => match us, hl with | [_, _], _ => rfl
  have F12 := fun_mk (st := s_need_keys) l12 c12 k12
  have b12 := F12.binds (ps := ["value"]) fun _ _ _ _ _ _ us hl => match us, hl with | [_], _ => rfl
  have F13 := fun_mk (st := s_need_key) l13 c13 k13
  have b13 := F13.binds (ps := ["value", "many"]) fun _ _ _ _ _ _ us hl => match us, hl with | [_, _], _ => rfl
  have F14 := fun_mk (st := s_need_lot) l14 c14 k14
  have b14 := F14.binds (ps := ["value", "many"]) fun _ _ _ _ _ _ us hl => match us, hl with | [_, _], _ => rfl
  have F15 := fun_mk (st := s_near_masks) l15 c15 k15
  have b15 := F15.binds (ps := ["keys"]) fun _ _ _ _ _ _ us hl => match us, hl with | [_], _ => rfl
  have F16 := fun_mk (st := s_near_of) l16 c16 k16
  have b16 := F16.binds (ps := ["near", "mask"]) fun _ _ _ _ _ _ us hl => match us, hl with | [_, _], _ => rfl
  have F17 := fun_mk (st := s_plain_keys) l17 c17 k17
  have b17 := F17.binds (ps := ["many"]) fun _ _ _ _ _ _ us hl => match us, hl with | [_], _ => rfl
  have F18 := fun_mk (st := s_clash) l18 c18 k18
  have b18 := F18.binds (ps := ["keys", "first", "second"]) fun _ _ _ _ _ _ us hl => match us, hl with | [_, _, _], _ => rfl
  have F19 := fun_mk (st := s_clashing) l19 c19 k19
  have b19 := F19.binds (ps := ["keys", "lot"]) fun _ _ _ _ _ _ us hl => match us, hl with | [_, _], _ => rfl
  have F20 := fun_mk (st := s_bare_keys) l20 c20 k20
  have b20 := F20.binds (ps := ["keys"]) fun _ _ _ _ _ _ us hl => match us, hl with | [_], _ => rfl
  have F21 := fun_mk (st := s__law_box) l21 c21 k21
  have b21 := F21.binds (ps := ["script"]) fun _ _ _ _ _ _ us hl => match us, hl with | [_], _ => rfl
  have F22 := fun_mk (st := s__law_take) l22 c22 k22
  have b22 := F22.binds (ps := ["box", "many"]) fun _ _ _ _ _ _ us hl => match us, hl with | [_, _], _ => rfl
  have F23 := fun_mk (st := s__law_mixed) l23 c23 k23
  have b23 := F23.binds (ps := ["box", "row"]) fun _ _ _ _ _ _ us hl => match us, hl with | [_, _], _ => rfl
  have F24 := fun_mk (st := s__law_is) l24 c24 k24
  have b24 := F24.binds (ps := ["told", "due"]) fun _ _ _ _ _ _ us hl => match us, hl with | [_, _], _ => rfl
  have F25 := fun_mk (st := s__law_lot) l25 c25 k25
  have b25 := F25.binds (ps := ["mask"]) fun _ _ _ _ _ _ us hl => match us, hl with | [_], _ => rfl
  have F26 := fun_mk (st := s__law_mask) l26 c26 k26
  have b26 := F26.binds (ps := ["lot"]) fun _ _ _ _ _ _ us hl => match us, hl with | [_], _ => rfl
  have F27 := fun_mk (st := s__law_near) l27 c27 k27
  have b27 := F27.binds (ps := ["many", "pairs"]) fun _ _ _ _ _ _ us hl => match us, hl with | [_, _], _ => rfl
  have F28 := fun_mk (st := s__law_close) l28 c28 k28
  have b28 := F28.binds (ps := ["near", "mask"]) fun _ _ _ _ _ _ us hl => match us, hl with | [_, _], _ => rfl
  have F29 := fun_mk (st := s__law_graph) l29 c29 k29
  have b29 := F29.binds (ps := ["box", "many"]) fun _ _ _ _ _ _ us hl => match us, hl with | [_, _], _ => rfl
  have F30 := fun_mk (st := s_law) l30 c30 k30
  have b30 := F30.binds (ps := ["script"]) fun _ _ _ _ _ _ us hl => match us, hl with | [_], _ => rfl
  let T : Tx K mg := { a_is_integer := f1, d_is_integer := _, F_is_integer := F1, b_is_integer := b1, g_is_integer := PySem.W.mg_of X G a1, a_is_below := f2, d_is_below := _, F_is_below := F2, b_is_below := b2, g_is_below := PySem.W.mg_of X G a2, a_is_between := f3, d_is_between := _, F_is_between := F3, b_is_between := b3, g_is_between := PySem.W.mg_of X G a3, a_is_sequence := f4, d_is_sequence := _, F_is_sequence := F4, b_is_sequence := b4, g_is_sequence := PySem.W.mg_of X G a4, a_is_row := f5, d_is_row := _, F_is_row := F5, b_is_row := b5, g_is_row := PySem.W.mg_of X G a5, a_lot_wrong := f6, d_lot_wrong := _, F_lot_wrong := F6, b_lot_wrong := b6, g_lot_wrong := PySem.W.mg_of X G a6, a_lot_of := f7, d_lot_of := _, F_lot_of := F7, b_lot_of := b7, g_lot_of := PySem.W.mg_of X G a7, a_mask_of := f8, d_mask_of := _, F_mask_of := F8, b_mask_of := b8, g_mask_of := PySem.W.mg_of X G a8, a_Keys___init__ := f9, d_Keys___init__ := _, F_Keys___init__ := F9, b_Keys___init__ := b9, a_need_count := f10, d_need_count := _, F_need_count := F10, b_need_count := b10, g_need_count := PySem.W.mg_of X G a10, a_told_clashes := f11, d_told_clashes := _, F_told_clashes := F11, b_told_clashes := b11, g_told_clashes := PySem.W.mg_of X G a11, a_need_keys := f12, d_need_keys := _, F_need_keys := F12, b_need_keys := b12, g_need_keys := PySem.W.mg_of X G a12, a_need_key := f13, d_need_key := _, F_need_key := F13, b_need_key := b13, g_need_key := PySem.W.mg_of X G a13, a_need_lot := f14, d_need_lot := _, F_need_lot := F14, b_need_lot := b14, g_need_lot := PySem.W.mg_of X G a14, a_near_masks := f15, d_near_masks := _, F_near_masks := F15, b_near_masks := b15, g_near_masks := PySem.W.mg_of X G a15, a_near_of := f16, d_near_of := _, F_near_of := F16, b_near_of := b16, g_near_of := PySem.W.mg_of X G a16, a_plain_keys := f17, d_plain_keys := _, F_plain_keys := F17, b_plain_keys := b17, g_plain_keys := PySem.W.mg_of X G a17, a_clash := f18, d_clash := _, F_clash := F18, b_clash := b18, g_clash := PySem.W.mg_of X G a18, a_clashing := f19, d_clashing := _, F_clashing := F19, b_clashing := b19, g_clashing := PySem.W.mg_of X G a19, a_bare_keys := f20, d_bare_keys := _, F_bare_keys := F20, b_bare_keys := b20, g_bare_keys := PySem.W.mg_of X G a20, a__law_box := f21, d__law_box := _, F__law_box := F21, b__law_box := b21, g__law_box := PySem.W.mg_of X G a21, a__law_take := f22, d__law_take := _, F__law_take := F22, b__law_take := b22, g__law_take := PySem.W.mg_of X G a22, a__law_mixed := f23, d__law_mixed := _, F__law_mixed := F23, b__law_mixed := b23, g__law_mixed := PySem.W.mg_of X G a23, a__law_is := f24, d__law_is := _, F__law_is := F24, b__law_is := b24, g__law_is := PySem.W.mg_of X G a24, a__law_lot := f25, d__law_lot := _, F__law_lot := F25, b__law_lot := b25, g__law_lot := PySem.W.mg_of X G a25, a__law_mask := f26, d__law_mask := _, F__law_mask := F26, b__law_mask := b26, g__law_mask := PySem.W.mg_of X G a26, a__law_near := f27, d__law_near := _, F__law_near := F27, b__law_near := b27, g__law_near := PySem.W.mg_of X G a27, a__law_close := f28, d__law_close := _, F__law_close := F28, b__law_close := b28, g__law_close := PySem.W.mg_of X G a28, a__law_graph := f29, d__law_graph := _, F__law_graph := F29, b__law_graph := b29, g__law_graph := PySem.W.mg_of X G a29, a_law := fa, d_law := _, F_law := F30, b_law := b30, g_law := PySem.W.mg_of X G a30, c_Keys := c_Keys, g_Keys := PySem.W.mg_of X G aC_Keys, m_Keys := ⟨mk_Keys, a9, i9, kc_Keys⟩, cl_Keys := ⟨pg_Keys, hd_Keys, po_Keys, sa_Keys⟩, na_many := hna_many_Keys, na_clashes := hna_clashes_Keys, ic_Keys := ⟨⟨pg_Keys, hd_Keys, po_Keys, sa_Keys⟩, ha_Keys, hn_Keys, ht_Keys, hm_Keys, me_Keys⟩, g_MOST_KEYS := ⟨_, PySem.W.mg_of X G q_MOST_KEYS⟩, n_abs := PySem.W.mg_none_of X G z_abs, n_bool := PySem.W.mg_none_of X G z_bool, n_enumerate := PySem.W.mg_none_of X G z_enumerate, n_int := PySem.W.mg_none_of X G z_int, n_isinstance := PySem.W.mg_none_of X G z_isinstance, n_len := PySem.W.mg_none_of X G z_len, n_list := PySem.W.mg_none_of X G z_list, n_range := PySem.W.mg_none_of X G z_range, n_set := PySem.W.mg_none_of X G z_set, n_sorted := PySem.W.mg_none_of X G z_sorted, n_str := PySem.W.mg_none_of X G z_str, n_tuple := PySem.W.mg_none_of X G z_tuple, n_zip := PySem.W.mg_none_of X G z_zip }
  exact ⟨PySem.W.fnOf "law" "law" (defArgs s_law) (defBody s_law) (defScope s_law) .none kV30 dc30 pm30 an30 cd30 ct30, fun s v => .of_eq rfl, fun base _ _ => ok_law T⟩
end Kr
open PySem PySem.W PyProof.Rows
set_option maxHeartbeats 0 in
theorem PySem.Challenge.cw_keyrules_k02_what_clashes_with_what_holds : PySem.Challenge.rw_keyrules_k02_what_clashes_with_what.Holds := by
  w_on; o_law; k_head; (case hw => w_witness2)
  k_fill
  refine L2.walk_of (l := PySem.Challenge.rw_keyrules_k02_what_clashes_with_what) (n := 63) (k := 7) (x := "script") (CX := fun _ => L2.CX0) (sp := fun w => Kr.sp_law _) rfl (by decide) rfl ⟨rfl, by decide, by decide⟩ (fun w h Y => PySem.W.kIn_of Y) ?F (fun _ _ a ns hl _ hS => ⟨a, ns, rfl, hS, hl, fun _ => rfl⟩) (fun _ _ _ _ _ h => h)
  case F =>
    intro w mg fa h KX G hmg
    have hm2 : mg "law" = some (.ref fa) := hmg
    clear hmg
    refine' Kr.all_mk KX G hm2 ?aC_Keys ?a1 ?l1 ?c1 ?k1 ?a2 ?l2 ?c2 ?k2 ?a3 ?l3 ?c3 ?k3 ?a4 ?l4 ?c4 ?k4 ?a5 ?l5 ?c5 ?k5 ?a6 ?l6 ?c6 ?k6 ?a7 ?l7 ?c7 ?k7 ?a8 ?l8 ?c8 ?k8 ?a9 ?i9 ?l9 ?c9 ?k9 ?a10 ?l10 ?c10 ?k10 ?a11 ?l11 ?c11 ?k11 ?a12 ?l12 ?c12 ?k12 ?a13 ?l13 ?c13 ?k13 ?a14 ?l14 ?c14 ?k14 ?a15 ?l15 ?c15 ?k15 ?a16 ?l16 ?c16 ?k16 ?a17 ?l17 ?c17 ?k17 ?a18 ?l18 ?c18 ?k18 ?a19 ?l19 ?c19 ?k19 ?a20 ?l20 ?c20 ?k20 ?a21 ?l21 ?c21 ?k21 ?a22 ?l22 ?c22 ?k22 ?a23 ?l23 ?c23 ?k23 ?a24 ?l24 ?c24 ?k24 ?a25 ?l25 ?c25 ?k25 ?a26 ?l26 ?c26 ?k26 ?a27 ?l27 ?c27 ?k27 ?a28 ?l28 ?c28 ?k28 ?a29 ?l29 ?c29 ?k29 ?a30 ?l30 ?c30 ?k30 ?mk_Keys ?kc_Keys ?pg_Keys ?hd_Keys ?po_Keys ?sa_Keys ?hna_many_Keys ?hna_clashes_Keys ?ha_Keys ?hn_Keys ?ht_Keys ?hm_Keys ?me_Keys ?q_MOST_KEYS ?z_abs ?z_bool ?z_enumerate ?z_int ?z_isinstance ?z_len ?z_list ?z_range ?z_set ?z_sorted ?z_str ?z_tuple ?z_zip
    (case aC_Keys => k_is)
    (case a1 => k_is)
    (case l1 => k_is)
    (case c1 => k_is)
    (case k1 => k_is)
    (case a2 => k_is)
    (case l2 => k_is)
    (case c2 => k_is)
    (case k2 => k_is)
    (case a3 => k_is)
    (case l3 => k_is)
    (case c3 => k_is)
    (case k3 => k_is)
    (case a4 => k_is)
    (case l4 => k_is)
    (case c4 => k_is)
    (case k4 => k_is)
    (case a5 => k_is)
    (case l5 => k_is)
    (case c5 => k_is)
    (case k5 => k_is)
    (case a6 => k_is)
    (case l6 => k_is)
    (case c6 => k_is)
    (case k6 => k_is)
    (case a7 => k_is)
    (case l7 => k_is)
    (case c7 => k_is)
    (case k7 => k_is)
    (case a8 => k_is)
    (case l8 => k_is)
    (case c8 => k_is)
    (case k8 => k_is)
    (case a9 => k_is)
    (case i9 => k_is)
    (case l9 => k_is)
    (case c9 => k_is)
    (case k9 => k_is)
    (case a10 => k_is)
    (case l10 => k_is)
    (case c10 => k_is)
    (case k10 => k_is)
    (case a11 => k_is)
    (case l11 => k_is)
    (case c11 => k_is)
    (case k11 => k_is)
    (case a12 => k_is)
    (case l12 => k_is)
    (case c12 => k_is)
    (case k12 => k_is)
    (case a13 => k_is)
    (case l13 => k_is)
    (case c13 => k_is)
    (case k13 => k_is)
    (case a14 => k_is)
    (case l14 => k_is)
    (case c14 => k_is)
    (case k14 => k_is)
    (case a15 => k_is)
    (case l15 => k_is)
    (case c15 => k_is)
    (case k15 => k_is)
    (case a16 => k_is)
    (case l16 => k_is)
    (case c16 => k_is)
    (case k16 => k_is)
    (case a17 => k_is)
    (case l17 => k_is)
    (case c17 => k_is)
    (case k17 => k_is)
    (case a18 => k_is)
    (case l18 => k_is)
    (case c18 => k_is)
    (case k18 => k_is)
    (case a19 => k_is)
    (case l19 => k_is)
    (case c19 => k_is)
    (case k19 => k_is)
    (case a20 => k_is)
    (case l20 => k_is)
    (case c20 => k_is)
    (case k20 => k_is)
    (case a21 => k_is)
    (case l21 => k_is)
    (case c21 => k_is)
    (case k21 => k_is)
    (case a22 => k_is)
    (case l22 => k_is)
    (case c22 => k_is)
    (case k22 => k_is)
    (case a23 => k_is)
    (case l23 => k_is)
    (case c23 => k_is)
    (case k23 => k_is)
    (case a24 => k_is)
    (case l24 => k_is)
    (case c24 => k_is)
    (case k24 => k_is)
    (case a25 => k_is)
    (case l25 => k_is)
    (case c25 => k_is)
    (case k25 => k_is)
    (case a26 => k_is)
    (case l26 => k_is)
    (case c26 => k_is)
    (case k26 => k_is)
    (case a27 => k_is)
    (case l27 => k_is)
    (case c27 => k_is)
    (case k27 => k_is)
    (case a28 => k_is)
    (case l28 => k_is)
    (case c28 => k_is)
    (case k28 => k_is)
    (case a29 => k_is)
    (case l29 => k_is)
    (case c29 => k_is)
    (case k29 => k_is)
    (case a30 => k_is)
    (case l30 => k_is)
    (case c30 => k_is)
    (case k30 => k_is)
    (case mk_Keys => k_is)
    (case kc_Keys => k_is)
    (case pg_Keys => k_is)
    (case hd_Keys => k_is)
    (case po_Keys => k_is)
    (case sa_Keys => k_is)
    (case hna_many_Keys => k_is)
    (case hna_clashes_Keys => k_is)
    (case ha_Keys => k_is)
    (case hn_Keys => k_is)
    (case ht_Keys => k_is)
    (case hm_Keys => k_is)
    (case me_Keys => first | rfl | k_is)
    (case q_MOST_KEYS => k_is)
    (case z_abs => k_is)
    (case z_bool => k_is)
    (case z_enumerate => k_is)
    (case z_int => k_is)
    (case z_isinstance => k_is)
    (case z_len => k_is)
    (case z_list => k_is)
    (case z_range => k_is)
    (case z_set => k_is)
    (case z_sorted => k_is)
    (case z_str => k_is)
    (case z_tuple => k_is)
    (case z_zip => k_is)
