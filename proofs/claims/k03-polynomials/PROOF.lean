import PyProof.Rows.All
import Wide.All
import OpenK.AllK
import Wide.FinOn
import HandS.ForMost
import HandS.ForExc
import HandS.Wide
import HandS.Gcd
import HandS.Defaults
import HandS.TupAny
import HandS.TupMul
import HandS.Rev
import HandS.Zip
import HandS.IsInst
import HandS.ExcIs
import HandS.TryMany
import HandS.Walk
import HandS.Evl
import KE.GoesEnum
import KE.GoesMore
import PySem.Challenge.RW_steelyard_k03_polynomial_division_and_gc
set_option Elab.async false
set_option linter.all false
set_option maxRecDepth 100000
set_option maxHeartbeats 4000000
/-! own additions to the hand layer, law by law the same -/
namespace Ly
open PySem PySem.Spec PyProof.Rows L2

/-! ### a walk over a list or a tuple -/
def iSeqA (K : PySem.W.Frag) (tl : TE) : TI := fun σ H R => tl σ H fun x H1 => ∃ (a : Addr) (xs : List V), x = .ref a ∧ ((SqL K H1 a xs ∧ R (Itl K a) H1) ∨ (SqT K H1 a xs ∧ R (Itt K a) H1))
theorem pi_seqA {X : Cx} {tg l : Expr} {tl : TE} (hl : PE X l tl) : PI X tg l (iSeqA X.K tl) := by
  refine ⟨fun pins s σ H R I h => ?_⟩
  refine thn (hl.run pins s σ H _ I h) fun v s1 hh => ?_
  obtain ⟨x, H1, I1, r1, a, xs, e, q⟩ := hh
  subst e
  cases r1
  rcases q with ⟨hq, q⟩ | ⟨hq, q⟩
  · obtain ⟨its, rv, p, hz⟩ := I1.list hq
    exact wpAny_pyIter_list p.isList (pi_one (tk := s1.toks) I1 _ (turn_list a _) ⟨_, Heap.get?_push_size _ rfl, rfl, rfl⟩ q)
  · obtain ⟨its, rv, p, hz⟩ := I1.tuple hq
    exact wpAny_pyIter_tuple (show s1.heap.IsTuple a its.toArray from p) (pi_one (tk := s1.toks) I1 _ (turn_tuple a _) ⟨_, Heap.get?_push_size _ rfl, rfl, rfl⟩ q)

/-! ### enumerate of a tuple -/
def IteT (K : PySem.W.Frag) (a : Addr) : It :=
  ⟨fun i H => ∃ (xs : List V) (x : V), SqT K H a xs ∧ xs[i]? = some x,
   fun i H v H' => ∃ T x, v = .ref T ∧ H T = none ∧ H' = upd H T (.tup [.int (i : Nat), x]) ∧ ∀ xs, SqT K H a xs → xs[i]? = some x,
   fun i H => ∃ xs : List V, SqT K H a xs ∧ xs.length ≤ i⟩
theorem tup_ne_iter {h : Heap} {a it t : Addr} {i : Nat} {its : Array Value} (p : IsTup h a its) (q : h.IsTupleIter it t i) : a ≠ it := by
  rintro rfl
  obtain ⟨o, e, c, _⟩ := p
  obtain ⟨o', e', c', _⟩ := q
  rw [e] at e'; cases e'
  rw [c] at c'
  exact absurd c' (by decide +kernel)
theorem turn_enumT {P : Program} {w : World} {K : PySem.W.Frag} {elts : List Expr} {kk : Nat} {tpos : Pos} (a e it : Addr) :
    Turn P w K (.Tuple elts kk tpos) (IteT K a) [e, it] e (fun i h => (∃ old, IsEnum h e it ((i : Nat) : Int) old) ∧ h.IsTupleIter it a i ∧ e ≠ it) where
  mem := by simp
  obj := fun i h st b hb => by
    obtain ⟨⟨old, he⟩, ⟨o, ho, _, hd⟩, _⟩ := st
    rcases (show b = e ∨ b = it by simpa using hb) with z | z
    · rw [z]; exact ⟨_, he, fun v q => nomatch q⟩
    · rw [z]; exact ⟨o, ho, fun v q => by rw [hd] at q; cases q⟩
  keep := fun i h h' st k => by
    obtain ⟨⟨old, he⟩, hi, hne⟩ := st
    exact ⟨⟨old, k e (by simp) _ he⟩, hi.at fun o q => k it (by simp) o q, hne⟩
  item := by
    intro X hP hw hK hc i pins s σ H E I hf st hg
    subst hP hw hK
    obtain ⟨⟨old, he⟩, hit, hne⟩ := st
    obtain ⟨xs, x, hq, hx⟩ := hg
    obtain ⟨its, rv, p, hz⟩ := I.tuple hq
    obtain ⟨u, hu, ru⟩ := rv.get hx
    have hel : e < s.heap.objs.size := Heap.lt_size he
    have hil : it < s.heap.objs.size := by obtain ⟨_, q, _⟩ := hit; exact Heap.lt_size q
    have hai : a ≠ it := tup_ne_iter p hit
    have hae : e ≠ a := by
      rintro rfl
      obtain ⟨o, e1, c, _⟩ := p
      rw [he] at e1; cases e1
      exact absurd (show Value.type "enumerate" = Value.type "tuple" from c) (by decide +kernel)
    have hlt : i < its.toArray.size := by
      have := (List.getElem?_eq_some_iff.mp hu).1
      simpa using this
    have D := Draws.tuple (prog := X.prog) (w := X.w) (A := X.A.in1) (show X.A.in1.handled = none from I.ok.hd hc) it a hai its.toArray
    refine wpAny_pyNext_enum_itemD D he ⟨hit, p⟩ hlt hne (by simp [hne, hae]) fun x' h' tk hx' ho hst' hT hsz hk => ?_
    obtain ⟨hit', -⟩ := hst'
    have ex : x' = u := by
      have h1 : its.toArray[i]? = some x' := hx'
      have h2 : its.toArray[i]? = some u := by simpa using hu
      rw [h1] at h2
      exact Option.some.inj h2
    subst ex
    refine ⟨_, rfl, wpAny_letOwnedTupleGo_enum (s := { s with heap := h', toks := tk + 1 }) ho fun h'' he' sb => ?_⟩
    have hT2 : h''.get? s.heap.objs.size = some { cls := .type "tuple", data := .seq #[.int i tk, x'] } := (sb.2 _ (Nat.ne_of_gt hel)).trans hT
    have new : ObjOk X.prog X.w (upd H s.heap.objs.size (.tup [.int (i : Nat), x])) h'' s.heap.objs.size (.tup [.int (i : Nat), x]) :=
      ⟨by show 2 ≤ sizeLine; decide, [.int i tk, x'], .cons ⟨_, rfl⟩ (.cons ru .nil), ⟨_, hT2, rfl, _, rfl⟩⟩
    have I1 : Inv X pins σ (upd H s.heap.objs.size (.tup [.int (i : Nat), x])) { s with heap := h'', toks := tk + 1 } :=
      I.turnedNew (ch := [e, it]) (fun b ob hb q => (sb.2 b (fun z => hb (by simp [z]))).trans (hk b ob (fun z => hb (by simp [z])) (fun z => hb (by simp [z])) q)) hf (Nat.le_refl _) new
    refine ⟨.ref s.heap.objs.size, _, I1, rfl, ⟨_, x, rfl, I.hok.fresh (Nat.le_refl _), rfl, fun ys hy => by rw [I.tuple_inj hy hq]; exact hx⟩, ⟨⟨x', ?_⟩, hit'.at fun o q => (sb.2 it (Ne.symm hne)).trans q, hne⟩, fun b hb => ?_⟩
    · rw [show ((i + 1 : Nat) : Int) = (i : Int) + 1 by omega]
      exact he'
    · have hb' : b < s.heap.objs.size := by
        rcases (show b = e ∨ b = it by simpa using hb) with z | z
        · rw [z]; exact hel
        · rw [z]; exact hil
      rw [upd_ne (Nat.ne_of_lt hb')]
      exact (hf b hb).1
  done := by
    intro X hP hw hK hc i pins s σ H E I hf st hg
    subst hP hw hK
    obtain ⟨⟨old, he⟩, hit, hne⟩ := st
    obtain ⟨xs, hq, hx⟩ := hg
    obtain ⟨its, rv, p, hz⟩ := I.tuple hq
    obtain ⟨f0, f1, f2, f3, f4, f5⟩ := hf it (by simp)
    have hl := rv.length
    have hai : a ≠ it := tup_ne_iter p hit
    have D : Draws X.prog X.w X.A.in1 it [it, a] i (fun _ _ => False) (fun j h => j = i ∧ h.IsTupleIter it a j ∧ h.IsTuple a its.toArray) :=
      { live := fun _ _ st => by
          obtain ⟨_, ⟨o, ho, _⟩, _⟩ := st
          exact ⟨o, ho⟩
        frame := fun _ _ _ st hk => ⟨st.1, st.2.1.at fun o e => hk it (by simp) o e, st.2.2.at fun o e => hk a (by simp) o e⟩
        item := fun j s Q E hj st hQ => absurd st.1 (Nat.ne_of_lt hj)
        done := fun s Q E st hE => wpAny_nextOf_tuple_end (show X.A.in1.handled = none from I.ok.hd hc) st.2.1 st.2.2 (by simp; omega) hE }
    exact wpAny_pyNext_enum_endD D he ⟨rfl, hit, p⟩ fun h' eb => ⟨rfl, I.turned (t' := s.toks) (fun b o hb q => eb b o hb q) f0 f1 f3 f4 f5⟩
  self := fun A i s Q E st h => by
    obtain ⟨⟨_, he⟩, _⟩ := st
    exact wpAny_pyIter_enum he h
/-! ### enumerate(list or tuple) -/
theorem typeIs_enum1 (t : Addr) (items : Array Value) (n : Nat) (dct : Option Addr) (sl : Array (Option Value)) :
    Meets (Builtin.«enumerate.__new__» ⟨[.type "enumerate", .ref t], []⟩) (fun _ R s => s.heap.get? t = some { cls := .type "tuple", dict := dct, data := .seq items n, slots := sl } ∧
      R (.ok (.ret (.ref (s.heap.push { cls := .type "tuple_iterator", data := .fields #[.ref t, .int 0 0] }).objs.size)))
        { s with heap := (s.heap.push { cls := .type "tuple_iterator", data := .fields #[.ref t, .int 0 0] }).push { cls := .type "enumerate", data := .fields #[.none, .bool false, .ref s.heap.objs.size, rawInt 0, .none, .none] } }) :=
  .of_wp fun prog w A R s h => by
    obtain ⟨hp, g, d, tk, os⟩ := s; obtain ⟨hl, h⟩ := h
    have hsub := sub_enumerate
    have hT : (Shared.heap ⟨hp, g, d, tk, os⟩).IsTuple t items := ⟨_, hl, rfl, n, rfl⟩
    have q1 : ∀ {A' : Around} {E : Value → Shared → Prop} {Q : Value → Shared → Prop}, Q (.ref hp.objs.size) ⟨hp.push { cls := .type "tuple_iterator", data := .fields #[.ref t, .int 0 0] }, g, d, tk, os⟩ → wpAny (model prog w) A' (pyIter (.ref t)) Q E ⟨hp, g, d, tk, os⟩ :=
      fun q => wpAny_pyIter_tuple hT q
    wp_walk using q1
    refine wpAny_stack_any fun st => wpAny_pure ?_
    split
    · rename_i c _ _ _ _ _
      cases (c == Value.type "enumerate")
      · wp_walk using q1
        exact ⟨_, rfl, h⟩
      · wp_walk using q1
        exact ⟨_, rfl, h⟩
    · wp_walk using q1
      exact ⟨_, rfl, h⟩
theorem call_enumT {prog : Program} {w : World} {A : Around} {E : Value → Shared → Prop} {s : Shared} {t : Addr} {items : Array Value} {Q : Value → Shared → Prop} (hT : s.heap.IsTuple t items)
    (h : ∀ h', IsEnum h' (s.heap.objs.size + 1) s.heap.objs.size 0 .none → h'.IsTupleIter s.heap.objs.size t 0 →
      (∀ b o, s.heap.get? b = some o → h'.get? b = some o) → Q (.ref (s.heap.objs.size + 1)) { s with heap := h' }) :
    wpAny (model prog w) A (call (.type "enumerate") [.ref t]) Q E s := by
  obtain ⟨⟨c, dct, dt, sl⟩, hl, hc, n, hd⟩ := hT
  replace hc : c = .type "tuple" := hc
  replace hd : dt = .seq items n := hd
  subst hc hd
  refine callType_new F.called_enumerate (by decide) (F.typeCall_enumerate_1 _) (F.newCall_enumerate_1 _) (fun obj => F.args_object_init_2 obj _) F.entry_enumerate_new
    (typeIs_enum1 t items n dct sl) ⟨hl, ?_⟩
  have hz : (s.heap.push { cls := .type "tuple_iterator", data := .fields #[.ref t, .int 0 0] }).objs.size = s.heap.objs.size + 1 := Heap.size_push ..
  show _ ∧ _
  rw [hz]
  have he : IsEnum ((s.heap.push { cls := .type "tuple_iterator", data := .fields #[.ref t, .int 0 0] }).push
      { cls := .type "enumerate", data := .fields #[.none, .bool false, .ref s.heap.objs.size, rawInt 0, .none, .none] }) (s.heap.objs.size + 1) s.heap.objs.size 0 .none := by
    have := Heap.get?_push_size (s.heap.push { cls := .type "tuple_iterator", data := .fields #[.ref t, .int 0 0] }) (o := { cls := .type "enumerate", data := .fields #[.none, .bool false, .ref s.heap.objs.size, rawInt 0, .none, .none] }) rfl
    rw [hz] at this; exact this
  exact ⟨⟨_, he, rfl⟩, h _ he ⟨_, Heap.get?_push_of_some _ (Heap.get?_push_size _ rfl), rfl, rfl⟩ fun b o x => Heap.get?_push_of_some _ (Heap.get?_push_of_some _ x)⟩
def iEnumA (K : PySem.W.Frag) (ta : TA) : TI := fun σ H R => ta σ H fun vs H1 => ∃ (a : Addr) (xs : List V), vs = [.ref a] ∧ ((SqL K H1 a xs ∧ R (Ite K a) H1) ∨ (SqT K H1 a xs ∧ R (IteT K a) H1))
theorem pi_enumA {X : Cx} {e : Expr} {ta : TA} {p pos tpos : Pos} {elts : List Expr} {kk : Nat} (hg : Gl X "enumerate") (hm : X.mg "enumerate" = none) (ha : PA X [e] ta) (hs : starEach [e] X.env = [(false, eval e X.env)] := by rfl) :
    PI X (.Tuple elts kk tpos) (.Call (.Name "enumerate" p) [e] [] pos) (iEnumA X.K ta) := by
  refine ⟨fun pins s σ H R I h => ?_⟩
  refine Call_ (ld_blt I hg hm boot_enumerate (PyProof.Rows.callWith_type1 (thn (ha.run pos pins s σ H _ I h) fun us s1 hh => ?_) hs rfl))
  obtain ⟨vs, H1, I1, r1, a, xs, ex, q⟩ := hh
  subst ex
  obtain ⟨u, rfl, ru⟩ := vals1 r1
  cases ru
  have fresh2 : ∀ b ∈ [s1.heap.objs.size + 1, s1.heap.objs.size], FpOk X pins H1 b := fun b hb => by
    have hle : s1.heap.objs.size ≤ b := by
      rcases (show b = s1.heap.objs.size + 1 ∨ b = s1.heap.objs.size by simpa using hb) with z | z <;> omega
    exact I1.fpOk hle (I1.hok.fresh hle)
  rcases q with ⟨hq, q⟩ | ⟨hq, q⟩
  · obtain ⟨its, rv, p', hz⟩ := I1.list hq
    refine call_enumerate_list p'.isList fun h' he hit hsz hk => wpAny_pyIter_enum he ?_
    exact ⟨s1.heap.objs.size + 1, [s1.heap.objs.size + 1, s1.heap.objs.size], _, _, H1, rfl, I1.kept (t' := s1.toks) hk, turn_enum a _ _, ⟨⟨.none, he⟩, hit, Nat.succ_ne_self _⟩, fresh2, q⟩
  · obtain ⟨its, rv, p', hz⟩ := I1.tuple hq
    refine call_enumT (show s1.heap.IsTuple a its.toArray from p') fun h' he hit hk => wpAny_pyIter_enum he ?_
    exact ⟨s1.heap.objs.size + 1, [s1.heap.objs.size + 1, s1.heap.objs.size], _, _, H1, rfl, I1.kept (t' := s1.toks) hk, turn_enumT a _ _, ⟨⟨.none, he⟩, hit, Nat.succ_ne_self _⟩, fresh2, q⟩
/-- the tuple's walk -/
theorem walk_enumT {K : PySem.W.Frag} {a : Addr} {xs : List V} : Walk (IteT K a) xs.length (fun H => SqT K H a xs) (YPair (fun i => some (.int (i : Nat))) (fun i => xs[i]?)) := by
  refine ⟨fun i _ hi q => ⟨xs, xs[i], q, by simp [hi]⟩, fun _ q => ⟨xs, q, Nat.le_refl _⟩, fun i H v H' _ q y => ?_⟩
  obtain ⟨T, x, h1, h2, h3, h4⟩ := y
  exact ⟨T, .int (i : Nat), x, h1, h2, h3, rfl, h4 xs q⟩
theorem walk_revT {K : PySem.W.Frag} {a : Addr} {xs : List V} : Walk (RT.ItvT K a xs.length) xs.length (fun H => SqT K H a xs) (fun i H x H' => H' = H ∧ xs[xs.length - 1 - i]? = some x) :=
  ⟨fun i _ hi q => ⟨hi, xs, xs[xs.length - 1 - i]'(by omega), q, by simp [show xs.length - 1 - i < xs.length by omega]⟩, fun _ _ => Nat.le_refl _, fun _ _ _ _ _ q y => ⟨y.1, y.2 xs q⟩⟩

/-! ### a list or a tuple, whichever -/
def Sq (K : PySem.W.Frag) (H : Hp) (a : Addr) (xs : List V) : Prop := SqL K H a xs ∨ SqT K H a xs
/-- what stands at a stays -/
def Kept (H H' : Hp) (a : Addr) : Prop := ∀ o, H a = some o → H' a = some o
theorem Kept.rd {H H' : Hp} {a : Addr} {u : HO} (k : Kept H H' a) (h : Rd H a u) : Rd H' a u := by
  rcases h with h | ⟨o, h⟩
  · exact .inl (k _ h)
  · exact .inr ⟨o, k _ h⟩
theorem Kept.l {K : PySem.W.Frag} {H H' : Hp} {a : Addr} {xs : List V} (k : Kept H H' a) (h : SqL K H a xs) : SqL K H' a xs := h.elim (fun h => .inl (k.rd h)) .inr
theorem Kept.t {K : PySem.W.Frag} {H H' : Hp} {a : Addr} {xs : List V} (k : Kept H H' a) (h : SqT K H a xs) : SqT K H' a xs := h.elim (fun h => .inl (k.rd h)) .inr
theorem Kept.sq {K : PySem.W.Frag} {H H' : Hp} {a : Addr} {xs : List V} (k : Kept H H' a) (h : Sq K H a xs) : Sq K H' a xs := h.elim (fun h => .inl (k.l h)) fun h => .inr (k.t h)
theorem seqA_go {K : PySem.W.Frag} {H : Hp} {a : Addr} {xs : List V} {R : It → Hp → Prop} (h : Sq K H a xs)
    (k : ∀ (J : It) (G : Hp → Prop), (∀ H', Kept H H' a → G H') → Walk J xs.length G (YAt xs) → R J H) :
    ∃ (a' : Addr) (ys : List V), V.ref a = .ref a' ∧ ((SqL K H a' ys ∧ R (Itl K a') H) ∨ (SqT K H a' ys ∧ R (Itt K a') H)) := by
  rcases h with h | h
  · exact ⟨a, xs, rfl, .inl ⟨h, k _ _ (fun H' q => q.l h) walk_list⟩⟩
  · exact ⟨a, xs, rfl, .inr ⟨h, k _ _ (fun H' q => q.t h) walk_tup⟩⟩
theorem enumA_go {K : PySem.W.Frag} {H : Hp} {a : Addr} {xs : List V} {R : It → Hp → Prop} (h : Sq K H a xs)
    (k : ∀ (J : It) (G : Hp → Prop), (∀ H', Kept H H' a → G H') → Walk J xs.length G (YPair (fun i => some (.int (i : Nat))) (fun i => xs[i]?)) → R J H) :
    ∃ (a' : Addr) (ys : List V), [V.ref a] = [.ref a'] ∧ ((SqL K H a' ys ∧ R (Ite K a') H) ∨ (SqT K H a' ys ∧ R (IteT K a') H)) := by
  rcases h with h | h
  · exact ⟨a, xs, rfl, .inl ⟨h, k _ _ (fun H' q => q.l h) walk_enum⟩⟩
  · exact ⟨a, xs, rfl, .inr ⟨h, k _ _ (fun H' q => q.t h) walk_enumT⟩⟩
theorem revA_go {K : PySem.W.Frag} {H : Hp} {a : Addr} {xs : List V} {R : It → Hp → Prop} (h : Sq K H a xs)
    (k : ∀ (J : It) (G : Hp → Prop), (∀ H', Kept H H' a → G H') → Walk J xs.length G (fun i H x H' => H' = H ∧ xs[xs.length - 1 - i]? = some x) → R J H) :
    ∃ (a' : Addr) (ys : List V), V.ref a = .ref a' ∧ ((SqL K H a' ys ∧ R (Itv K a' ys.length) H) ∨ (SqT K H a' ys ∧ R (RT.ItvT K a' ys.length) H)) := by
  rcases h with h | h
  · exact ⟨a, xs, rfl, .inl ⟨h, k _ _ (fun H' q => q.l h) walk_rev⟩⟩
  · exact ⟨a, xs, rfl, .inr ⟨h, k _ _ (fun H' q => q.t h) walk_revT⟩⟩

/-! ### operators over several kinds -/
section
variable {X : Cx}
def rAddU (K : PySem.W.Frag) : R2 := fun x y H Q => ((rI0 fun i j => .int (i + j)) x y H Q ∨ ∃ i j, x = .str i ∧ y = .str j ∧ i.length + j.length ≤ sizeLine ∧ Q (.str (i ++ j)) H) ∨ (rCat x y H Q ∨ rCatA K x y H Q)
theorem op_addU : OpR X (binaryOp .Add) (rAddU X.K) :=
  (op_add.or op_add_str).or (op_cat.or op_catA)
/-- * of two ints of n and m bits, together below 134,000,000 -/
def CMulB (i j : Int) : Prop := ∃ n m : Nat, i.natAbs < 2 ^ n ∧ j.natAbs < 2 ^ m ∧ n + m ≤ 134000000
theorem bits_of {x : Int} {n : Nat} (hx : x.natAbs < 2 ^ n) : Builtin.Int.intBits x ≤ n + 1 := by
  unfold Builtin.Int.intBits
  split
  · omega
  · rcases Nat.eq_zero_or_pos n with e | e
    · subst e
      have : x.natAbs = 0 := by simpa using hx
      have h2 : x.natAbs.log2 = 0 := by rw [this]; decide
      omega
    · have := PySem.Flt.log2_lt_of e hx
      omega
theorem op_mulB : OpR X (binaryOp .Mult) (rI CMulB fun i j => .int (i * j)) := opI fun i j _ _ _ _ _ hc q => by
  refine mul_int q ?_
  obtain ⟨n, m, h1, h2, h3⟩ := hc
  have b1 := bits_of h1
  have b2 := bits_of h2
  have e : bitsLine = 134217728 := by decide
  unfold IntMulOk
  intro z
  rw [Bool.and_eq_true] at z
  have z2 := z.2
  unfold Builtin.Int.intTooBig at z2
  have z3 := of_decide_eq_true z2
  rw [e] at z3
  omega
/-- tuple * 1, tuple * 0 or less -/
theorem tuple_mul1 (l : Addr) (items : Array Value) (n : Nat) (dd : Option Addr) (sl : Array (Option Value)) (x : Int) (u : Tok) (hx : x = 1) :
    Meets (Builtin.«tuple.__mul__» ⟨[.ref l, .int x u], []⟩) (fun _ R s => s.heap.get? l = some { cls := .type "tuple", dict := dd, data := .seq items n, slots := sl } ∧ R (.ok (.ret (.ref l))) s) :=
  .of_wp fun prog w A R s h => by
    obtain ⟨hp, g, d, tk, os⟩ := s
    obtain ⟨hl, h⟩ := h
    subst hx
    have f1 := AutoSeq1.idx_int
    wp_walk using AutoSeq1.wpAny_loadPart' hl
    repeat (first
      | (refine wpAny_ite_true (by simp) ?_; wp_walk using AutoSeq1.wpAny_loadPart' hl)
      | (refine wpAny_ite_false (by simp) ?_; wp_walk using AutoSeq1.wpAny_loadPart' hl))
    exact ⟨_, rfl, h⟩
theorem tuple_mul0 (l : Addr) (items : Array Value) (n : Nat) (dd : Option Addr) (sl : Array (Option Value)) (x : Int) (u : Tok) (hx : x ≤ 0) (hx2 : -1000000 ≤ x) (hi : items.isEmpty = false) :
    Meets (Builtin.«tuple.__mul__» ⟨[.ref l, .int x u], []⟩) (fun _ R s => s.heap.get? l = some { cls := .type "tuple", dict := dd, data := .seq items n, slots := sl } ∧
      R (.ok (.ret (Value.ref s.heap.objs.size))) { s with heap := s.heap.push { cls := Value.type "tuple", data := Data.seq #[] } }) :=
  .of_wp fun prog w A R s h => by
    obtain ⟨hp, g, d, tk, os⟩ := s
    obtain ⟨hl, h⟩ := h
    have f1 := AutoSeq1.idx_int
    have c0 : (decide (x < -(2 ^ 63)) || decide (x ≥ 2 ^ 63)) = false := by
      rw [decide_eq_false (by omega), decide_eq_false (by omega)] <;> rfl
    have c1 : (items.isEmpty || x == 1) = false := by
      rw [hi, Bool.false_or]
      exact beq_eq_false_iff_ne.mpr (by omega)
    have c2 : (decide (x ≤ 0) || items.isEmpty) = true := by rw [decide_eq_true hx, Bool.true_or]
    wp_walk using AutoSeq1.wpAny_loadPart' hl
    repeat (first
      | (refine wpAny_ite_false (decide_eq_false (by rw [c0]; exact Bool.false_ne_true)) ?_; wp_walk using AutoSeq1.wpAny_loadPart' hl)
      | (refine wpAny_ite_false (decide_eq_false (by rw [c1]; exact Bool.false_ne_true)) ?_; wp_walk using AutoSeq1.wpAny_loadPart' hl)
      | (refine wpAny_ite_true (decide_eq_true (by rw [c2])) ?_; wp_walk using AutoSeq1.wpAny_loadPart' hl))
    exact ⟨_, rfl, h⟩
/-- tuple * int, the tuple not empty -/
def rRepA (K : PySem.W.Frag) : R2 := fun x y H Q => ∃ l k xs, x = .ref l ∧ y = .int k ∧ SqT K H l xs ∧ xs ≠ [] ∧ (-1000000 ≤ k ∧ k ≤ 1000) ∧ xs.length ≤ 1000 ∧
  (k = 1 → Q (.ref l) H) ∧ (k ≠ 1 → ∀ p, H p = none → Q (.ref p) (upd H p (.tup (List.replicate k.toNat xs).flatten)))
theorem op_repA : OpR X (binaryOp .Mult) (rRepA X.K) := by
  intro pins s σ H x y v u Q I rx ry h
  obtain ⟨l, k, xs, rfl, rfl, hT, hne, ⟨h1, h2⟩, hz, q1, q2⟩ := h
  by_cases hk : 2 ≤ k
  · exact op_repT pins s σ H _ _ v u Q I rx ry ⟨l, k, xs, rfl, rfl, hT, hne, hk, h2, hz, q2 (by omega)⟩
  cases rx
  obtain ⟨t, rfl⟩ := ry
  obtain ⟨its, r, ⟨⟨cls, dd, data, sl⟩, ho, hc, n, hd⟩, hs⟩ := I.tuple hT
  simp only at hc hd
  subst hc hd
  have hi : its.toArray.isEmpty = false := by
    cases r with
    | nil => exact absurd rfl hne
    | cons a b => rfl
  by_cases h3 : k = 1
  · refine wpAny_binaryOp_repeat_ref (T := "tuple") (U := "int") (by decide) ⟨_, ho, rfl⟩ (fun s' => typeIs_int s' k t) noFill_tuple_mul F.fills_int_mul F.slot_int_rmul repeat_tuple F.slot_int_index.lookup
      (call_meets F.slot_int_rmul (typeIs_int s k t) F.entry_int_rmul (F.args_int_rmul_2 _ _) (int_rmul_tuple k t l its.toArray n dd sl)
        ⟨ho, rfl, ⟨_, ho, rfl⟩, call_meets F.slot_tuple_mul ⟨_, ho, rfl⟩ F.entry_tuple_mul (F.args_tuple_mul_2 _ _) (tuple_mul1 l its.toArray n dd sl k t h3) ⟨ho, ?_⟩⟩)
    exact ⟨.ref l, H, I, rfl, q1 h3⟩
  · refine wpAny_binaryOp_repeat_ref (T := "tuple") (U := "int") (by decide) ⟨_, ho, rfl⟩ (fun s' => typeIs_int s' k t) noFill_tuple_mul F.fills_int_mul F.slot_int_rmul repeat_tuple F.slot_int_index.lookup
      (call_meets F.slot_int_rmul (typeIs_int s k t) F.entry_int_rmul (F.args_int_rmul_2 _ _) (int_rmul_tuple k t l its.toArray n dd sl)
        ⟨ho, rfl, ⟨_, ho, rfl⟩, call_meets F.slot_tuple_mul ⟨_, ho, rfl⟩ F.entry_tuple_mul (F.args_tuple_mul_2 _ _) (tuple_mul0 l its.toArray n dd sl k t (by omega) h1 hi) ⟨ho, ?_⟩⟩)
    have e : (List.replicate k.toNat xs).flatten = [] := by
      rw [show k.toNat = 0 by omega]; rfl
    have q := q2 h3
    rw [e] at q
    exact ⟨.ref s.heap.objs.size, _, I.laid (t' := s.toks) (o := .tup []) (fun b ob z => Heap.get?_push_of_some _ z) (Nat.le_refl _) ⟨by show 0 ≤ sizeLine; exact Nat.zero_le _, [], .nil, ⟨_, Heap.get?_push_size _ rfl, rfl, _, rfl⟩⟩, rfl, q _ (I.hok.fresh (Nat.le_refl _))⟩
theorem op_mulAB : OpR X (binaryOp .Mult) (rI (fun i j => CMul i j ∨ CMulB i j) fun i j => .int (i * j)) := by
  intro pins s σ H x y v u Q I rx ry h
  obtain ⟨i, j, h1, h2, hc, q⟩ := h
  rcases hc with hc | hc
  · exact op_mul pins s σ H x y v u Q I rx ry ⟨i, j, h1, h2, hc, q⟩
  · exact op_mulB pins s σ H x y v u Q I rx ry ⟨i, j, h1, h2, hc, q⟩
def rMulU (K : PySem.W.Frag) : R2 := fun x y H Q => (rI (fun i j => CMul i j ∨ CMulB i j) fun i j => .int (i * j)) x y H Q ∨ rRepA K x y H Q
theorem op_mulU : OpR X (binaryOp .Mult) (rMulU X.K) := op_mulAB.or op_repA

/-! ### // of any size: room for _pylong's road -/
def rFdU : R2 := rI (fun _ j => j ≠ 0) fun i j => .int (i.fdiv j)
def rMoU : R2 := rI (fun _ j => j ≠ 0) fun i j => .int (i.fmod j)
theorem op_modU : OpR X (binaryOp .Mod) rMoU := op_modN
theorem op_fdivP {k : Nat} (hs : X.base.NoSeer) (hr : Room k X.A) (hk : 33 ≤ k := by decide) (ht : X.prog.given.tree = none := by rfl)
    (he : ∃ (env : Env) (l : List Env), X.stack = env :: l ∧ env.scope.isGenerator = false ∧ env.scope.isCoroutine = false ∧ env.builtins = builtinsNs ∧ env.globals = mainGlobals := by exact ⟨_, _, rfl, rfl, rfl, rfl, rfl⟩) :
    OpR X (binaryOp .FloorDiv) rFdU := by
  intro pins s σ H x y v u Q I rx ry h
  obtain ⟨i, j, rfl, rfl, hc, q⟩ := h
  obtain ⟨t, rfl⟩ := rx
  obtain ⟨t', rfl⟩ := ry
  obtain ⟨env, l, e1, e2, e3, e4, e5⟩ := he
  have hfr : X.A.frames = some (env :: l) := by rw [I.ok.frames, e1]
  have hd : X.A.depth + Builtin.pylongFrames < recursionLimit := by
    have := hr.dp
    have e : Builtin.pylongFrames = 100 := rfl
    omega
  exact floordiv_int hc ⟨.int _, H, I.tok _, ⟨_, rfl⟩, q⟩ (.inr (PylongRoom.of I.nolimit hd (SeerAt.of (hs.keeps I.bk) ht hfr e2 e3 e4 e5)))

/-! ### an own exception without arguments; try .. except X as n with further clauses that are not met -/
theorem pmk_own0 {C : Addr} {bmB : List Value} {B newId initId : String} {x : Str} {p pos : Pos} (F : ExcBaseFacts B newId initId bmB) (q : PySem.W.excIn X.K C bmB newId = true) (gC : X.mg x = some (.ref C)) (kC : PySem.W.keepIn X.K (.ref C) = true)
    (r : Raises X (.ref C)) (hg : Gl X x) (hdb : (x == ("__debug__" : Str)) = false := by decide) : PMk X (.Call (.Name x p) [] [] pos) (fun _ H Q => Q (.ref C) none H) := by
  intro pins s σ H Q I h
  refine wpAny_Call_Name_kw (ld_glob I hg gC ?_ hdb)
  refine PySem.W.callWith_K0 I.kIn kC ?_
  obtain ⟨bm, N, nm, qn, bs, hdct, sn, sub, ab, col, dd, k0, k1, k2, k3, k5, mN, hC, hN, hni, T⟩ := exc_obj I.kIn q
  exact wpAny_call_exc_subT F T hC hN hni (fun h' e hm => mk_of I hm r h (I.hok.gone hm.new)) (Nat.zero_le _)
/-- what the first clause wishes: it is its class -/
def wAs1 (K : PySem.W.Frag) (c : Value) (i : Nat) (ts : Addr → Value → Option Addr → TS) (D : Ends) : WX := fun cls d σ H =>
  PySem.W.exmOne K cls c = some true ∧ ∀ a, H a = none → ts a cls d { nx := fun σ' H' => D.nx (σ'.set i none) H', rt := D.rt, bk := fun σ' H' => D.bk (σ'.set i none) H', ct := fun σ' H' => D.ct (σ'.set i none) H' } (σ.set i (some (.ref a))) H
theorem ps_try_asM {x n : Str} {c : Value} {i : Nat} {body suite : List Stmt} {b₀ : Stmt} {np pos pos' : Pos} {hds : List ExceptHandler} {tb : WX → TS} {ts : Addr → Value → Option Addr → TS}
    (hs : X.stack = X.env :: X.outer) (hf : X.env.frame = some X.env.locals) (hN : X.N.Nodup) (hi : X.N[i]? = some n) (hln : X.env.kindOf n = some .local) (hc : Names X x c)
    (hb : ∀ (W : WX) (pn : List (Addr × Obj)) (xe : Value → Shared → Prop), Takes (X.tr pn xe) W → PassesOwn (model X.prog X.w) X.A X.env xe → PSs (X.tr pn xe) body (tb W))
    (hsu : ∀ (a : Addr) (oe : Obj) (cls : Value) (d : Option Addr) (pn : List (Addr × Obj)), Zc cls d oe → (∃ vs, oe.data = .fields vs) → PSs (X.suite a ((a, oe) :: pn)) (b₀ :: suite) (ts a cls d)) :
    PS X (.Try body (.ExceptHandler (some (.Name x np)) (some n) (b₀ :: suite) pos' :: hds) [] [] pos) (fun D σ H => tb (wAs1 X.K c i ts D) D σ H) := by
  refine ⟨fun pins s σ H D I h => ?_⟩
  have ok := I.ok
  have hfr : X.A.frames = some (X.env :: X.outer) := by rw [ok.frames, hs]
  refine wpAny_Try_except (wpAny_mono ((hb (wAs1 X.K c i ts D) (X.pn ++ pins) _ (fun u s' xx => ?_) PassesOwn.looking).run [] s σ H D (I.toTry _) h) (fun f s1 hsp => ?_) (fun e s1 he => he))
  · obtain ⟨a, B, sI, pins', σ', H', cls, d, rfl, J', nb, up, sky, na, os, ag, hm, hyes⟩ := xx
    have J : Inv X pins σ' H' sI := J'.ofTry ok
    rw [hs] at sky
    show wpAny (model X.prog X.w) X.A (noteFrame (.ref a) X.env) _ _ _
    refine Sky.land Zc.steady hfr hf sky fun h3 fl3 up3 => ?_
    have J3 : Inv X pins σ' H' { s' with heap := h3 } := J.landed nb fl3.1 (up.trans up3) os ag
    obtain ⟨oe3, vs3, he3, hz3, hd3⟩ := fl3.there
    have nfr : a ∉ frs (X.env :: X.outer) := fun hmm => by
      obtain ⟨_, o', e', hnf⟩ := fl3.2.2.1.mem hmm
      rw [he3] at e'; cases e'
      exact hnf _ hd3
    have nL : a ≠ X.env.locals := fun z => nfr (List.mem_filterMap.mpr ⟨X.env, List.mem_cons_self, by rw [hf, z]⟩)
    have nF : a ∉ X.fs := fun hmm => by
      obtain ⟨e, he, q⟩ := List.mem_filterMap.mp hmm
      exact nfr (List.mem_filterMap.mpr ⟨e, List.mem_cons_of_mem _ he, q⟩)
    have S3 := J3.suite he3 hd3 na nL nF
    refine wpAny_handleBy_cons (codeAny_handlers_test ?_) (by intro q; cases q)
    have LT : PySem.W.Looks (model X.prog X.w) h3 (typeOf (.ref a)) cls := fun A Q E s k q => wpAny_typeOf_ref (k _ _ he3) (by rw [hz3.1]; exact q)
    have LM := PySem.W.exm_one (M := model X.prog X.w) (J3.kIn) LT hm
    have test : ∀ {Q E : Value → Shared → Prop}, Q c { s' with heap := h3 } → wpAny (model X.prog X.w) (X.A.mark (some (.ref a))) (eval (.Name x np) X.env) Q E { s' with heap := h3 } := fun {Q E} q => by
      rcases hc with ⟨hg, hdbg, hmg | ⟨hmg, hv, hnn⟩⟩
      · exact ld_glob (X := X.suite a ((a, oe3) :: (X.pn ++ pins))) S3 hg hmg q hdbg
      · exact ld_blt (X := X.suite a ((a, oe3) :: (X.pn ++ pins))) S3 hg hmg hv q hnn hdbg
    refine test (LM.here (codeAny_handlers_suite_as (HandSPX.lands_againZ fl3 fun h4 fl4 up4 => ?_)))
    have J4 : Inv X pins σ' H' { s' with heap := h4 } := J.landed nb fl4.1 ((up.trans up3).trans up4) os ag
    obtain ⟨oe4, vs4, he4, hz4, hd4⟩ := fl4.there
    have S4 := J4.suite he4 hd4 na nL nF
    refine store_ok (X := X.suite a ((a, oe4) :: (X.pn ++ pins))) (v := .ref a) S4 hN hi (.inl hln) rfl (fun s5 S5 => ?_) (.inr hln)
    refine wpAny_mono ((hsu a oe4 cls d (X.pn ++ pins) hz4 ⟨_, hd4⟩).run [] s5 _ H' _ S5 (hyes a na)) (fun f s6 hsp => ?_) (fun _ _ z => False.elim z)
    have fin : ∀ {σ6 : L2.St} {H6 : Hp} {Q : Shared → Prop}, Inv (X.suite a ((a, oe4) :: (X.pn ++ pins))) [] σ6 H6 s6 → (∀ s7, Inv X pins (σ6.set i none) H6 s7 → Q s7) →
        wpAny (model X.prog X.w) X.A (do bindName X.env n .none; unbindBehindTheSuite X.env n pos') (fun _ s7 => Q s7) X.xe s6 := fun {σ6 H6 Q} S6 hq => gone_ok (S6.unsuite ok) hN hi hln hq
    cases f with
    | ret u =>
      obtain ⟨v6, σ6, H6, S6, r6, q6⟩ := hsp
      exact fin S6 fun s7 J7 => ⟨_, _, _, J7, r6, q6⟩
    | next => obtain ⟨σ6, H6, S6, q6⟩ := hsp; exact fin S6 fun s7 J7 => ⟨_, _, J7, q6⟩
    | brk => obtain ⟨σ6, H6, S6, q6⟩ := hsp; exact fin S6 fun s7 J7 => ⟨_, _, J7, q6⟩
    | cont => obtain ⟨σ6, H6, S6, q6⟩ := hsp; exact fin S6 fun s7 J7 => ⟨_, _, J7, q6⟩
  · cases f with
    | ret u =>
      obtain ⟨v, σ', H', J', r, q⟩ := hsp
      exact ⟨v, σ', H', J'.ofTry ok, r, q⟩
    | next => obtain ⟨σ', H', J', q⟩ := hsp; exact wpAny_execs_nil ⟨σ', H', J'.ofTry ok, q⟩
    | brk => obtain ⟨σ', H', J', q⟩ := hsp; exact ⟨σ', H', J'.ofTry ok, q⟩
    | cont => obtain ⟨σ', H', J', q⟩ := hsp; exact ⟨σ', H', J'.ofTry ok, q⟩

/-! ### len, int, slices of whatever kind -/
def rLenU (K : PySem.W.Frag) : List V → Hp → VK → Prop := fun xs H Q => (∃ p ys, xs = [.ref p] ∧ Sq K H p ys ∧ Q (.int ys.length) H) ∨ ∃ z, xs = [.str z] ∧ z.length ≤ sizeLine ∧ Q (.int z.length) H
theorem call_lenU : CallR X (.builtin "len") (rLenU X.K) := by
  intro pins s σ H xs us Q I r h
  rcases h with h | h
  · exact call_len_seq pins s σ H xs us Q I r h
  · exact call_len_str pins s σ H xs us Q I r h
def rEqU (K : PySem.W.Frag) : R2 := fun x y H Q => rEq x y H Q ∨ rEqD K x y H Q
def rNeU (K : PySem.W.Frag) : R2 := fun x y H Q => rNe x y H Q ∨ rNeD K x y H Q
theorem op_eqU (hu : X.A.units + 64 < cLine) : OpR X (compareOp .Eq) (rEqU X.K) := op_eq.or (op_eqD hu)
theorem op_neU (hu : X.A.units + 64 < cLine) : OpR X (compareOp .NotEq) (rNeU X.K) := op_ne.or (op_neD hu)
def rIntU : List V → Hp → VK → Prop := fun xs H Q => ((∃ i, xs = [.int i] ∧ Q (.int i) H) ∨ ∃ k, xs = [.bl k] ∧ Q (.int (if k then 1 else 0)) H) ∨
    ∃ a n, xs = [.str a] ∧ PySem.intText? a = some n ∧ a.length ≤ 640 ∧ Q (.int n) H
theorem call_intU : CallR X (.type "int") rIntU := by
  intro pins s σ H xs us Q I r h
  rcases h with h | h
  · exact call_int1 pins s σ H xs us Q I r h
  · exact call_int_str pins s σ H xs us Q I r h
def rAbs : List V → Hp → VK → Prop := fun xs H Q => ∃ i, xs = [.int i] ∧ Q (.int (if i < 0 then -i else i)) H
theorem call_absU : CallR X (.builtin "abs") rAbs := call_abs
def rMax2 : List V → Hp → VK → Prop := fun xs H Q => ∃ i j, xs = [.int i, .int j] ∧ Q (.int (if j > i then j else i)) H
theorem call_maxU (hc : X.calm = true) : CallR X (.builtin "max") rMax2 := call_max2 hc
def rMin2 : List V → Hp → VK → Prop := fun xs H Q => ∃ i j, xs = [.int i, .int j] ∧ Q (.int (if j < i then j else i)) H
theorem call_minU (hc : X.calm = true) : CallR X (.builtin "min") rMin2 := call_min2 hc
def rListU (K : PySem.W.Frag) : List V → Hp → VK → Prop := fun xs H Q => ∃ p ys, xs = [.ref p] ∧ Sq K H p ys ∧ ∀ l, H l = none → Q (.ref l) (upd H l (.lst ys))
theorem call_listU : CallR X (.type "list") (rListU X.K) := call_list_of
def rTupleU (K : PySem.W.Frag) : List V → Hp → VK → Prop := fun xs H Q => ∃ p ys, xs = [.ref p] ∧ ((SqL K H p ys ∧ ∀ l, H l = none → Q (.ref l) (upd H l (.tup ys))) ∨ (SqT K H p ys ∧ Q (.ref p) H))
theorem call_tupleU : CallR X (.type "tuple") (rTupleU X.K) := call_tuple_of
def rSlU (K : PySem.W.Frag) : V → Option Int → Option Int → Hp → VK → Prop := fun x lo hi H Q => rSlL K x lo hi H Q ∨ rSlA K x lo hi H Q
theorem sl_U : SlR X (rSlU X.K) := by
  intro pins s σ H x v vl vu lo hi sl Q I rx hs pl pu h
  rcases h with h | h
  · exact sl_list pins s σ H x v vl vu lo hi sl Q I rx hs pl pu h
  · exact sl_tupA pins s σ H x v vl vu lo hi sl Q I rx hs pl pu h
/-- a value's truth as a test -/
def tTruth (K : PySem.W.Frag) (ta : TE) : TT := fun σ H Q => ta σ H fun x H' => ∃ k, TruV K x H' k ∧ Q k H'
theorem pt_truthU {a : Expr} {ta : TE} (ha : PE X a ta) (he : ∀ whole, isTrue a X.env whole = (do let v ← whole; standAt a.pos; holding [v] (truthy v))) : PT X a (tTruth X.K ta) := pt_truth ha he
end

/-! ### the end of a law's row, the base known to be without a seer of _pylong -/
theorem law_callS {P : Program} {w : World} {K : PySem.W.Frag} {mg mb : Str → Option Value} {k : Nat} {fa a : Addr} {fd : FuncData} {x : Str} {sp : Sp} {s₁ : Shared} {vs : List Value} {ns : List Int}
    (KX : K.In s₁.heap) (hns : s₁.heap.Ns mainGlobals mg) (hb : s₁.heap.Ns builtinsNs mb) (hbb : ∀ x : Str, x ≠ "__name__" → mb x = bootBuiltins x) (hlim : s₁.heap.NoLimit) (hseer : s₁.heap.NoSeer) (hg : s₁.gens = #[])
    (ha : s₁.heap.get? a = some { cls := .type "list", data := .seq vs.toArray }) (hi : IntsAre vs ns) (hl : ns.length ≤ sizeLine) (hr : Room k callerA)
    (F : ∀ base : Heap, K.In base → base.Ns mainGlobals mg → base.NoSeer → FnOk P w K mg base CX0 k fa fd [x] sp) (hbind : ∀ (s : Shared) (u : Value), BindsTo s fd ⟨[u], []⟩ [(x, u)])
    (hsp : ∀ H : Hp, Only H → SqL K H a (ns.map V.int) → sp [.ref a] H (fun v _ => v = .bl true) fun _ _ _ => False) :
    codeAny (model P w) callerA (.call (.ref fa) ⟨[.ref a], []⟩) (fun r s' => r = .ok (.ret (.bool true)) ∧ OldK s₁.heap s'.heap ∧ s'.os = s₁.os ∧ AllBare s'.gens) s₁ := by
  have rv := vals_ints hi
  have lenV := hi.length
  -- H tracks nothing but the script, and that not where K has it
  have main : ∀ H : Hp, Only H → SqL K H a (ns.map V.int) → HOk P w H s₁.heap → (∀ b, H b ≠ none → b = a ∧ K.lookup a = none) →
      codeAny (model P w) callerA (.call (.ref fa) ⟨[.ref a], []⟩) (fun r s' => r = .ok (.ret (.bool true)) ∧ OldK s₁.heap s'.heap ∧ s'.os = s₁.os ∧ AllBare s'.gens) s₁ := by
    intro H hO hS hok hA
    -- what is no list is not tracked
    have away : ∀ {b : Addr} {o : Obj}, s₁.heap.get? b = some o → o.cls ≠ .type "list" → (hidT s₁.heap H).get? b = some o := fun {b o} e hc => by
      refine hidT_get e ?_
      cases q : H b with
      | none => rfl
      | some u =>
        have e' := (hA b (by rw [q]; simp)).1
        rw [e', ha] at e; cases e
        exact absurd rfl hc
    have nsOf : ∀ {b : Addr} {m : Str → Option Value}, s₁.heap.Ns b m → (hidT s₁.heap H).Ns b m := fun {b m} q => by
      obtain ⟨o, es, ep, e, d, r⟩ := q
      refine ⟨o, es, ep, hidT_get e ?_, d, r⟩
      cases z : H b with
      | none => rfl
      | some u =>
        have e' := (hA b (by rw [z]; simp)).1
        rw [e', ha] at e; cases e
        have d' : Data.seq vs.toArray _ = Data.dict es ep := d
        cases d'
    have hKb : K.In (hidT s₁.heap H) := fun b o e => hidT_get (KX b o e) (by
      cases q : H b with
      | none => rfl
      | some u =>
        obtain ⟨e', z⟩ := hA b (by rw [q]; simp)
        rw [e', z] at e; cases e)
    have hM : Mod K mg (hidT s₁.heap H) := ⟨hKb, nsOf hns, ⟨mb, nsOf hb, hbb⟩, let ⟨mc, h1, h2⟩ := hlim; ⟨mc, nsOf h1, h2⟩⟩
    have hSb : (hidT s₁.heap H).NoSeer := by
      refine ⟨?_, ?_, ?_, ?_⟩
      · obtain ⟨mc, h1, h2⟩ := hseer.statics; exact ⟨mc, nsOf h1, h2⟩
      · obtain ⟨mc, h1, h2⟩ := hseer.mods; exact ⟨mc, nsOf h1, h2⟩
      · obtain ⟨mc, h1, h2⟩ := hseer.imp; exact ⟨mc, nsOf h1, h2⟩
      · obtain ⟨m, bm, ob, h1, h2, h3, h4, h5⟩ := hseer.main
        exact ⟨m, bm, ob, nsOf h1, h2, away h3 (by rw [h4]; decide +kernel), h4, h5⟩
    have e0 : Env0 P w K mg (hidT s₁.heap H) callerA [] s₁ H := ⟨rfl, hM, fun b o e => of_hidT e, Nat.le_of_eq (hidT_size _ _), trivial, fun b hb => absurd (show b ∈ ([] : List Addr) from hb) (by simp), hok, .of_eq hg⟩
    refine codeAny_mono ((F _ hKb (nsOf hns) hSb).run callerA [] s₁ H ⟨[.ref a], []⟩ [.ref a] [.ref a] _ _ hr e0 (hbind s₁ (.ref a)) (.cons rfl .nil) (hsp H hO hS)) fun r s' h => ?_
    cases r with
    | error e => exact h.elim
    | ok fl =>
      cases fl with
      | next => exact False.elim h
      | brk => exact False.elim h
      | cont => exact False.elim h
      | ret u =>
        obtain ⟨v, H', os, bare, un, hok', r', q⟩ := h
        obtain rfl : v = .bl true := q
        obtain rfl : u = Value.bool true := r'
        refine ⟨rfl, OldK.of_keep fun b o e => ?_, os, bare⟩
        rcases hO b with z | ⟨ob, xs, z⟩
        · exact un.keep b o e z (by intro q; exact absurd (show b ∈ ([] : List Addr) from q) (by simp)) (by simp)
        · obtain ⟨e1, _⟩ := hok b _ z
          obtain ⟨e2, _⟩ := hok' b _ (un.frzs b ob _ z)
          rw [e] at e1; cases e1
          exact e2
  cases hk : K.lookup a with
  | some o =>
    have e := KX a o hk
    rw [ha] at e; cases e
    refine main (fun _ => none) (fun _ => .inl rfl) (.inr ⟨_, vs.toArray, _, hk, rfl, rfl, rfl, by rw [List.size_toArray, lenV]; exact hl, by simpa using rv⟩) (fun b u z => by cases (show (none : Option HO) = some u from z)) fun b z => absurd rfl z
  | none =>
    refine main (fun b => if b = a then some (.frz { cls := .type "list", data := .seq vs.toArray } (.lst (ns.map V.int))) else none) (fun b => ?_) (.inl (.inr ⟨{ cls := .type "list", data := .seq vs.toArray }, if_pos rfl⟩)) (fun b u z => ?_) (fun b z => ?_)
    · by_cases hb : b = a
      · exact .inr ⟨_, _, if_pos hb⟩
      · exact .inl (if_neg hb)
    · by_cases hb : b = a
      · have z' := (if_pos hb).symm.trans z
        cases z'
        subst hb
        exact ⟨ha, by rw [List.length_map]; exact hl, vs, _, rv, ha⟩
      · have z' := (if_neg hb).symm.trans z
        cases z'
    · by_cases hb : b = a
      · exact ⟨hb, hk⟩
      · exact absurd (if_neg hb) z
theorem walk_ofS {l : PySem.W.OpenLaw} {n k : Nat} {q : Program} {loose : List Str} {XP : (Str → Option Value) → Heap → Prop} {YP : World → Heap → Prop} {d : DefRec} {K : Params → PySem.W.Frag} {sp : PySem.W.Frag → Sp} {x : Str}
    (hn : l.most = some n) (hn2 : n ≤ sizeLine) (hdf : d.params.defaults = []) (hr : Room k callerA) (hq : importsNone q = true)
    (hY : ∀ (w : World) (h : Heap), YP w h → (K w.params).In h)
    (F : ∀ (w : World) (mg : Str → Option Value) (fa : Addr) (h : Heap), (K w.params).In h → h.Ns mainGlobals mg → mg d.name = some (.ref fa) →
      ∃ fd : FuncData, (∀ (s : Shared) (u : Value), BindsTo s fd ⟨[u], []⟩ [(x, u)]) ∧
        ∀ base : Heap, (K w.params).In base → base.Ns mainGlobals mg → base.NoSeer → FnOk l.prog w (K w.params) mg base CX0 k fa fd [x] (sp (K w.params)))
    (hsp : ∀ (K : PySem.W.Frag) (H : Hp) (a : Addr) (ns : List Int), ns.length ≤ n → Only H → SqL K H a (ns.map V.int) → sp K [.ref a] H (fun v _ => v = .bl true) fun _ _ _ => False) :
    PySem.W.WalkO q loose XP YP l.row.toRowW d [] (fun f vs => PySem.call f vs) := by
  refine Att.attach_call hn hdf fun w s₀ s₁ mg mb fa o pm cd doc a vs ns G Y ho hd hcd hmg hobj hints hlen hg => ?_
  have KX := hY w _ Y
  obtain ⟨fd, hb, hF⟩ := F w mg fa _ KX G.T.g hmg
  exact law_callS KX G.T.g G.T.b G.T.builtins G.T.nolimit (G.T.seer hq) hg hobj hints (Nat.le_trans hlen hn2) hr hF hb fun H hO hS => hsp _ H a ns hlen hO hS
end Ly

set_option maxHeartbeats 4000000
/-! steps through a reading, heap relations, fractions -/
namespace Ly
open PySem PySem.Spec PyProof.Rows L2

/-! ### steps -/
section
variable {D : Ends} {σ : L2.St} {H : Hp} {t u : TS} {te ta tb : TE} {g : TG} {c d : TT} {i : Nat} {v x y : V} {Q : VK} {K : PySem.W.Frag}
theorem st_seq (h : t { D with nx := u D } σ H) : tSeq t u D σ H := h
theorem st_asg (h : te σ H fun x H1 => g x σ H1 D.nx) : tAsg te g D σ H := h
theorem st_name {P : L2.St → Hp → Prop} (h : P (σ.set i (some v)) H) : gName i v σ H P := h
theorem st_ifs (h : c σ H fun b H1 => if b = true then t D σ H1 else u D σ H1) : tIfS c t u D σ H := h
theorem st_ret (h : te σ H D.rt) : tRet te D σ H := h
theorem st_drop (h : te σ H fun _ H1 => D.nx σ H1) : tDrop te D σ H := h
theorem st_nextS (h : D.nx σ H) : tNext D σ H := h
theorem st_nx {a : L2.St → Hp → Prop} {r : VK} {b k : L2.St → Hp → Prop} (h : a σ H) : Ends.nx ⟨a, r, b, k⟩ σ H := h
theorem st_rt {a : L2.St → Hp → Prop} {r : VK} {b k : L2.St → Hp → Prop} (h : r v H) : Ends.rt ⟨a, r, b, k⟩ v H := h
theorem st_var (e : σ[i]? = some (some v)) (h : Q v H) : tVar i σ H Q := ⟨v, e, h⟩
theorem st_c (h : Q v H) : tC v σ H Q := h
theorem st_op {r : R2} (h : ta σ H fun x H1 => tb σ H1 fun y H2 => r x y H2 Q) : tOp r ta tb σ H Q := h
theorem st_un {r : V → Hp → VK → Prop} (h : ta σ H fun x H1 => r x H1 Q) : tUn r ta σ H Q := h
theorem st_neg {n : Int} (h : Q (.int (-n)) H) : rU (fun i => .int (-i)) (.int n) H Q := ⟨n, rfl, h⟩
theorem st_test {P : Bool → Hp → Prop} (h : te σ H fun x H' => ∃ k, x = .bl k ∧ P k H') : tTest te σ H P := h
theorem st_ex {b : Bool} {P : Bool → Prop} (h : P b) : ∃ k, V.bl b = .bl k ∧ P k := ⟨b, rfl, h⟩
theorem st_truth {P : Bool → Hp → Prop} (h : te σ H fun x H' => ∃ k, TruV K x H' k ∧ P k H') : tTruth K te σ H P := h
theorem st_not {P : Bool → Hp → Prop} (h : c σ H fun b H1 => P (!b) H1) : tNot c σ H P := h
theorem st_and {P : Bool → Hp → Prop} (h : c σ H fun b H1 => if b = true then d σ H1 P else P false H1) : tAnd c d σ H P := h
theorem st_or {P : Bool → Hp → Prop} (h : c σ H fun b H1 => if b = true then P true H1 else d σ H1 P) : tOr c d σ H P := h
theorem st_andV (h : ta σ H fun x H1 => ∃ c, x = .bl c ∧ if c = true then tb σ H1 Q else Q (.bl false) H1) : tAndV ta tb σ H Q := h
theorem st_orV (h : ta σ H fun x H1 => ∃ c, x = .bl c ∧ if c = true then Q (.bl true) H1 else tb σ H1 Q) : tOrV ta tb σ H Q := h
theorem st_notV (h : ta σ H fun x H1 => ∃ c, x = .bl c ∧ Q (.bl (!c)) H1) : tNotV ta σ H Q := h
theorem st_ifE (h : c σ H fun b H1 => if b = true then ta σ H1 Q else tb σ H1 Q) : tIf c ta tb σ H Q := h
theorem st_cons {ta : TE} {tr : TA} {P : List V → Hp → Prop} (h : ta σ H fun x H1 => tr σ H1 fun xs H2 => P (x :: xs) H2) : tCons ta tr σ H P := h
theorem st_nil {P : List V → Hp → Prop} (h : P [] H) : tNil σ H P := h
theorem st_call {sp : Sp} {dvs : List V} {E : XK} {ta : TA} (h : ta σ H fun vs H1 => sp (vs ++ dvs) H1 Q E) : tCall sp dvs E ta σ H Q := h
theorem st_callS {sp : Sp} {E : L2.St → XK} {ta : TA} (h : ta σ H fun vs H1 => sp vs H1 Q (E σ)) : tCallS sp E ta σ H Q := h
theorem st_cb {r : List V → Hp → VK → Prop} {ta : TA} (h : ta σ H fun vs H1 => r vs H1 Q) : tCB r ta σ H Q := h
theorem st_tup {ta : TA} (h : ta σ H fun xs H1 => xs.length ≤ sizeLine ∧ ∀ p, H1 p = none → Q (.ref p) (upd H1 p (.tup xs))) : tTup ta σ H Q := h
theorem st_lst {ta : TA} (h : ta σ H fun xs H1 => xs.length ≤ sizeLine ∧ ∀ p, H1 p = none → Q (.ref p) (upd H1 p (.lst xs))) : tLst ta σ H Q := h
theorem st_par {i j : Nat} {ta : TA} (h : ta σ H fun vs H1 => ∃ v w, vs = [v, w] ∧ D.nx ((σ.set i (some v)).set j (some w)) H1) : tPar i j ta D σ H := h
theorem st_sub {to ti : TE} {w : TSet} {P : L2.St → Hp → Prop} (h : to σ H fun o H1 => ti σ H1 fun i H2 => w o i v H2 fun H3 => P σ H3) : gSub to ti w v σ H P := h
theorem st_sl {r : V → Option Int → Option Int → Hp → VK → Prop} {tl th : TO} (h : te σ H fun x H1 => tl σ H1 fun l H2 => th σ H2 fun u H3 => r x l u H3 Q) : tSl r te tl th σ H Q := h
theorem st_nopart {P : Option Int → Hp → Prop} (h : P none H) : tNoPart σ H P := h
theorem st_part {P : Option Int → Hp → Prop} (h : te σ H fun x H1 => ∃ i, x = .int i ∧ P (some i) H1) : tPart te σ H P := h
theorem st_exI {n : Int} {P : Int → Prop} (h : P n) : ∃ i, V.int n = .int i ∧ P i := ⟨n, rfl, h⟩
theorem st_ex2 {x y : V} {P : V → V → Prop} (h : P x y) : ∃ v w, [x, y] = [v, w] ∧ P v w := ⟨x, y, rfl, h⟩

/-! ### operations by values -/
theorem u_add {i j : Int} (h : Q (.int (i + j)) H) : rAddU K (.int i) (.int j) H Q := .inl (.inl ⟨i, j, rfl, rfl, h⟩)
theorem u_rI0 {f : Int → Int → V} {i j : Int} (h : Q (f i j) H) : rI0 f (.int i) (.int j) H Q := ⟨i, j, rfl, rfl, h⟩
theorem u_rI {C : Int → Int → Prop} {f : Int → Int → V} {i j : Int} (c : C i j) (h : Q (f i j) H) : rI C f (.int i) (.int j) H Q := ⟨i, j, rfl, rfl, c, h⟩
theorem u_mul {i j : Int} (c : CMul i j ∨ CMulB i j) (h : Q (.int (i * j)) H) : rMulU K (.int i) (.int j) H Q := .inl ⟨i, j, rfl, rfl, c, h⟩
theorem u_fd {i j : Int} (c : j ≠ 0) (h : Q (.int (i.fdiv j)) H) : rFdU (.int i) (.int j) H Q := ⟨i, j, rfl, rfl, c, h⟩
theorem u_mo {i j : Int} (c : j ≠ 0) (h : Q (.int (i.fmod j)) H) : rMoU (.int i) (.int j) H Q := ⟨i, j, rfl, rfl, c, h⟩
theorem u_ix {p : Addr} {xs : List V} {k : Int} (h : Sq K H p xs) (ha : atI xs k = some v) (q : Q v H) : rIx K (.ref p) (.int k) H Q := by
  rcases h with h | h
  · exact .inl ⟨p, xs, k, v, rfl, rfl, h, ha, q⟩
  · exact .inr (.inl ⟨p, xs, k, v, rfl, rfl, h, ha, q⟩)
theorem u_eq {i j : Int} (h : Q (.bl (decide (i = j))) H) : rEqU K (.int i) (.int j) H Q := .inl ⟨rfl, by rw [show decide (V.int i = V.int j) = decide (i = j) by simp]; exact h⟩
theorem u_ne {i j : Int} (h : Q (.bl (!decide (i = j))) H) : rNeU K (.int i) (.int j) H Q := .inl ⟨rfl, by rw [show decide (V.int i = V.int j) = decide (i = j) by simp]; exact h⟩
theorem u_ite {b : Prop} [Decidable b] {A B : Prop} (h1 : b → A) (h2 : ¬ b → B) : if decide b = true then A else B := by
  by_cases h : b
  · rw [if_pos (decide_eq_true h)]; exact h1 h
  · rw [if_neg (by simp [h])]; exact h2 h
theorem u_iteN {b : Prop} [Decidable b] {A B : Prop} (h1 : ¬ b → A) (h2 : b → B) : if (!decide b) = true then A else B := by
  by_cases h : b
  · rw [if_neg (by simp [h])]; exact h2 h
  · rw [if_pos (by simp [h])]; exact h1 h
theorem u_iteB {b : Bool} {A B : Prop} (h1 : b = true → A) (h2 : b = false → B) : if b = true then A else B := by
  cases b with
  | true => rw [if_pos rfl]; exact h1 rfl
  | false => rw [if_neg Bool.false_ne_true]; exact h2 rfl
theorem u_len {p : Addr} {ys : List V} (h : Sq K H p ys) (q : Q (.int ys.length) H) : rLenU K [.ref p] H Q := .inl ⟨p, ys, rfl, h, q⟩
theorem u_int {n : Int} (q : Q (.int n) H) : rIntU [.int n] H Q := .inl (.inl ⟨n, rfl, q⟩)
theorem u_intB {b : Bool} (q : Q (.int (if b then 1 else 0)) H) : rIntU [.bl b] H Q := .inl (.inr ⟨b, rfl, q⟩)
theorem u_abs {n : Int} (q : Q (.int (if n < 0 then -n else n)) H) : rAbs [.int n] H Q := ⟨n, rfl, q⟩
theorem u_max {i j : Int} (q : Q (.int (if j > i then j else i)) H) : rMax2 [.int i, .int j] H Q := ⟨i, j, rfl, q⟩
theorem u_list {p : Addr} {ys : List V} (h : Sq K H p ys) (q : ∀ l, H l = none → Q (.ref l) (upd H l (.lst ys))) : rListU K [.ref p] H Q := ⟨p, ys, rfl, h, q⟩
theorem u_tupleL {p : Addr} {ys : List V} (h : H p = some (.lst ys)) (q : ∀ l, H l = none → Q (.ref l) (upd H l (.tup ys))) : rTupleU K [.ref p] H Q := ⟨p, ys, rfl, .inl ⟨SqL.of h, q⟩⟩
theorem u_tru {n : Int} {P : Bool → Prop} (h : P (n != 0)) : ∃ k, TruV K (.int n) H k ∧ P k := ⟨_, rfl, h⟩
theorem u_truB {b : Bool} {P : Bool → Prop} (h : P b) : ∃ k, TruV K (.bl b) H k ∧ P k := ⟨_, rfl, h⟩
theorem u_setL {p : Addr} {xs : List V} {k : Int} {j : Nat} {P : Hp → Prop} (h : H p = some (.lst xs)) (e : ixN xs.length k = some j) (q : P (upd H p (.lst (xs.set j v)))) : rSetL (.ref p) (.int k) v H P := ⟨p, xs, k, j, rfl, rfl, h, e, q⟩
end

/-! ### heaps that grow -/
/-- all but what stands at b stays -/
def SameX (b : Addr) (H H' : Hp) : Prop := ∀ a o, a ≠ b → H a = some o → H' a = some o
theorem SameX.refl {b : Addr} (H : Hp) : SameX b H H := fun _ _ _ h => h
theorem SameX.trans {b : Addr} {H H1 H2 : Hp} (p : SameX b H H1) (q : SameX b H1 H2) : SameX b H H2 := fun a o n h => q a o n (p a o n h)
theorem _root_.L2.Same.x {b : Addr} {H H' : Hp} (p : Same H H') : SameX b H H' := fun a o _ h => p a o h
theorem same_new {H : Hp} {p : Addr} {o : HO} (h : H p = none) : Same H (upd H p o) := fun a u e => by
  rw [upd_ne (ne_of_none e h)]
  exact e
theorem samex_upd {H : Hp} {p : Addr} {o : HO} : SameX p H (upd H p o) := fun a u n e => by
  rw [upd_ne n]
  exact e
theorem _root_.L2.Same.kept {H H' : Hp} (e : Same H H') (a : Addr) : Kept H H' a := fun o h => e a o h
theorem _root_.L2.Same.t {K : PySem.W.Frag} {H H' : Hp} {a : Addr} {xs : List V} (e : Same H H') (h : SqT K H a xs) : SqT K H' a xs := (e.kept a).t h
theorem _root_.L2.Same.sq {K : PySem.W.Frag} {H H' : Hp} {a : Addr} {xs : List V} (e : Same H H') (h : Sq K H a xs) : Sq K H' a xs := (e.kept a).sq h
/-- an object that the old heap does not know may change -/
theorem _root_.L2.Same.mut {H H' : Hp} {p : Addr} {o : HO} (e : Same H H') (h : H p = none) : Same H (upd H' p o) := fun a u ha => by
  rw [upd_ne (ne_of_none ha h)]
  exact e a u ha
theorem _root_.L2.Same.mutX {H H' H'' : Hp} {p : Addr} (e : Same H H') (h : H p = none) (x : SameX p H' H'') : Same H H'' := fun a u ha => x a u (ne_of_none ha h) (e a u ha)

/-! ### a fraction: a tuple of its two numbers -/
def FrT (q : Rat) : List V := [.int q.num, .int (q.den : Int)]
def Fr (K : PySem.W.Frag) (H : Hp) (v : V) (q : Rat) : Prop := ∃ a, v = .ref a ∧ SqT K H a (FrT q)
theorem Fr.same {K : PySem.W.Frag} {H H' : Hp} {v : V} {q : Rat} (h : Fr K H v q) (e : Same H H') : Fr K H' v q := by
  obtain ⟨a, rfl, h⟩ := h
  exact ⟨a, rfl, e.t h⟩
theorem u_fr0 {K : PySem.W.Frag} {H : Hp} {p : Addr} {q : Rat} {Q : VK} (h : SqT K H p (FrT q)) (k : Q (.int q.num) H) : rIx K (.ref p) (.int 0) H Q := u_ix (.inr h) rfl k
theorem u_fr1 {K : PySem.W.Frag} {H : Hp} {p : Addr} {q : Rat} {Q : VK} (h : SqT K H p (FrT q)) (k : Q (.int (q.den : Int)) H) : rIx K (.ref p) (.int 1) H Q := u_ix (.inr h) rfl k
/-- a fraction is handed back -/
def RetFr (K : PySem.W.Frag) (q : Rat) (H : Hp) (Q : VK) : Prop := ∀ v H', Same H H' → Fr K H' v q → Q v H'
theorem RetFr.at {K : PySem.W.Frag} {q r : Rat} {H H' : Hp} {Q : VK} (k : RetFr K q H Q) (e : Same H H') (hr : r = q) : RetFr K r H' Q := fun v H2 e2 h => k v H2 (e.trans e2) (hr ▸ h)
theorem u_tupFr {K : PySem.W.Frag} {H : Hp} {Q : VK} {n d : Int} {q : Rat} (k : RetFr K q H Q) (h1 : n = q.num) (h2 : d = (q.den : Int)) :
    [V.int n, V.int d].length ≤ sizeLine ∧ ∀ p, H p = none → Q (.ref p) (upd H p (.tup [.int n, .int d])) := by
  subst h1 h2
  exact ⟨by show 2 ≤ sizeLine; decide, fun p hp => k (.ref p) _ (same_new hp) ⟨p, rfl, SqT.of upd_same⟩⟩
/-- what is read alone (a tuple) stays where a list changes -/
def Imm (H H' : Hp) : Prop := ∀ a o, ((∃ xs, o = .tup xs) ∨ (∃ ob u, o = .frz ob u)) → H a = some o → H' a = some o
theorem Imm.refl (H : Hp) : Imm H H := fun _ _ _ h => h
theorem Imm.trans {H H1 H2 : Hp} (p : Imm H H1) (q : Imm H1 H2) : Imm H H2 := fun a o c h => q a o c (p a o c h)
theorem _root_.L2.Same.imm {H H' : Hp} (e : Same H H') : Imm H H' := fun a o _ h => e a o h
theorem SameX.imm {b : Addr} {H H' : Hp} {xs : List V} (e : SameX b H H') (hb : H b = some (.lst xs)) : Imm H H' := fun a o c h => e a o (by
  rintro rfl
  rw [hb] at h
  rcases c with ⟨ys, rfl⟩ | ⟨ob, u, rfl⟩
  · cases h
  · cases h) h
theorem Imm.upd {H : Hp} {b : Addr} {xs : List V} {o : HO} (hb : H b = some (.lst xs)) : Imm H (upd H b o) := samex_upd.imm hb
theorem Imm.t {K : PySem.W.Frag} {H H' : Hp} {a : Addr} {xs : List V} (e : Imm H H') (h : SqT K H a xs) : SqT K H' a xs := by
  rcases h with (h | ⟨o, h⟩) | h
  · exact .inl (.inl (e a _ (.inl ⟨_, rfl⟩) h))
  · exact .inl (.inr ⟨o, e a _ (.inr ⟨_, _, rfl⟩) h⟩)
  · exact .inr h
theorem Fr.imm {K : PySem.W.Frag} {H H' : Hp} {v : V} {q : Rat} (h : Fr K H v q) (e : Imm H H') : Fr K H' v q := by
  obtain ⟨a, rfl, h⟩ := h
  exact ⟨a, rfl, e.t h⟩

/-! ### bits -/
/-- below 2^n in size -/
def Bz (n : Nat) (z : Int) : Prop := z.natAbs < 2 ^ n
def Bq (n : Nat) (q : Rat) : Prop := Bz n q.num ∧ Bz n (q.den : Int)
theorem Bz.mono {n m : Nat} {z : Int} (h : Bz n z) (l : n ≤ m) : Bz m z := Nat.lt_of_lt_of_le h (Nat.pow_le_pow_right (by decide) l)
theorem Bz.mul {n m : Nat} {z w : Int} (h : Bz n z) (k : Bz m w) : Bz (n + m) (z * w) := by
  unfold Bz at *
  rw [Int.natAbs_mul, Nat.pow_add]
  exact Nat.mul_lt_mul'' h k
theorem Bz.add {n m : Nat} {z w : Int} (h : Bz n z) (k : Bz n w) (l : n < m) : Bz m (z + w) := by
  unfold Bz at *
  have a := Int.natAbs_add_le z w
  have b : 2 ^ (n + 1) ≤ 2 ^ m := Nat.pow_le_pow_right (by decide) l
  rw [Nat.pow_succ] at b
  omega
theorem Bz.neg {n : Nat} {z : Int} (h : Bz n z) : Bz n (-z) := by
  unfold Bz at *
  rw [Int.natAbs_neg]
  exact h
theorem Bz.sub {n m : Nat} {z w : Int} (h : Bz n z) (k : Bz n w) (l : n < m) : Bz m (z - w) := by
  rw [Int.sub_eq_add_neg]
  exact h.add k.neg l
theorem Bz.cmul {n m : Nat} {z w : Int} (h : Bz n z) (k : Bz m w) (l : n + m ≤ 134000000) : CMul z w ∨ CMulB z w := .inr ⟨n, m, h, k, l⟩
theorem Bq.mono {n m : Nat} {q : Rat} (h : Bq n q) (l : n ≤ m) : Bq m q := ⟨h.1.mono l, h.2.mono l⟩
/-- lowest terms are not greater -/
theorem Bq.of_div {n : Nat} {a b : Int} (ha : Bz n a) (hb : Bz n b) (h0 : 0 < n) : Bq n (Rat.divInt a b) := by
  unfold Bq Bz at *
  rw [Rat.num_divInt, Rat.den_divInt]
  constructor
  · have h1 : (b.sign * a / (b.gcd a : Int)).natAbs ≤ (b.sign * a).natAbs := by
      rw [Int.natAbs_ediv_of_dvd]
      · exact Nat.div_le_self _ _
      · exact Int.dvd_trans (Int.gcd_dvd_right ..) (Int.dvd_mul_left ..)
    have h2 : (b.sign * a).natAbs ≤ a.natAbs := by
      rw [Int.natAbs_mul]
      have : b.sign.natAbs ≤ 1 := by
        rcases Int.lt_trichotomy b 0 with c | c | c
        · rw [Int.sign_eq_neg_one_of_neg c]; decide
        · rw [c]; decide
        · rw [Int.sign_eq_one_of_pos c]; decide
      calc b.sign.natAbs * a.natAbs ≤ 1 * a.natAbs := Nat.mul_le_mul_right _ this
        _ = a.natAbs := Nat.one_mul _
    omega
  · by_cases h : b = 0
    · rw [if_pos h]
      have : 2 ^ 1 ≤ 2 ^ n := Nat.pow_le_pow_right (by decide) h0
      simp only [Int.natAbs_natCast]
      omega
    · rw [if_neg h]
      have := Nat.div_le_self b.natAbs (b.gcd a)
      simp only [Int.natAbs_natCast]
      omega
end Ly

set_option maxHeartbeats 4000000
/-! fractions: the core's Rat -/
namespace Ly
open PySem PySem.Spec PyProof.Rows L2

theorem low_eq {a u g : Int} (h : u ≠ 0) (hg : g = (Nat.gcd a.natAbs u.natAbs : Int) * u.sign) : g ≠ 0 ∧ a.fdiv g = (Rat.divInt a u).num ∧ u.fdiv g = ((Rat.divInt a u).den : Int) := by
  have e0 : u.gcd a = Nat.gcd a.natAbs u.natAbs := by rw [Int.gcd_comm]; rfl
  rw [Rat.num_divInt, Rat.den_divInt, if_neg h, e0]
  generalize hd : Nat.gcd a.natAbs u.natAbs = d at hg ⊢
  have hd0 : d ≠ 0 := by
    rw [← hd]
    intro z
    have := Nat.eq_zero_of_gcd_eq_zero_right z
    omega
  have hdi : (d : Int) ≠ 0 := by omega
  have h1 : (d : Int) ∣ a := by
    rw [← hd]; exact Int.ofNat_dvd_left.mpr (Nat.gcd_dvd_left _ _)
  have h2 : (d : Int) ∣ u := by
    rw [← hd]; exact Int.ofNat_dvd_left.mpr (Nat.gcd_dvd_right _ _)
  obtain ⟨x, rfl⟩ := h1
  obtain ⟨y, rfl⟩ := h2
  have hy : y ≠ 0 := fun z => h (by rw [z, Int.mul_zero])
  have hs : ((d : Int) * y).sign = y.sign := by
    rw [Int.sign_mul, Int.sign_eq_one_of_pos (by omega), Int.one_mul]
  rw [hs] at hg ⊢
  have hss : y.sign * y.sign = 1 := by
    rcases Int.lt_trichotomy y 0 with c | c | c
    · rw [Int.sign_eq_neg_one_of_neg c]; decide
    · exact absurd c hy
    · rw [Int.sign_eq_one_of_pos c]; decide
  have hsy : y.sign * y = (y.natAbs : Int) := by
    rcases Int.lt_trichotomy y 0 with c | c | c
    · rw [Int.sign_eq_neg_one_of_neg c]; omega
    · exact absurd c hy
    · rw [Int.sign_eq_one_of_pos c]; omega
  have hg0 : g ≠ 0 := by
    rw [hg]
    refine Int.mul_ne_zero hdi ?_
    intro z
    rw [z] at hss
    exact absurd hss (by decide)
  refine ⟨hg0, ?_, ?_⟩
  · have e1 : (d : Int) * x = g * (y.sign * x) := by
      rw [hg, Int.mul_assoc, ← Int.mul_assoc y.sign, hss, Int.one_mul]
    have e2 : y.sign * ((d : Int) * x) = (d : Int) * (y.sign * x) := by
      rw [← Int.mul_assoc, Int.mul_comm y.sign, Int.mul_assoc]
    rw [e2, Int.mul_ediv_cancel_left _ hdi, e1, Int.mul_fdiv_cancel_left _ hg0]
  · have e1 : (d : Int) * y = g * (y.sign * y) := by
      rw [hg, Int.mul_assoc, ← Int.mul_assoc y.sign, hss, Int.one_mul]
    have e2 : ((d : Int) * y).natAbs / d = y.natAbs := by rw [Int.natAbs_mul, Int.natAbs_natCast, Nat.mul_div_cancel_left _ (by omega)]
    rw [e2, e1, Int.mul_fdiv_cancel_left _ hg0, hsy]
theorem add_div (p q : Rat) : Rat.divInt (p.num * (q.den : Int) + q.num * (p.den : Int)) ((p.den : Int) * (q.den : Int)) = p + q := by
  rw [← Rat.divInt_add_divInt _ _ (by have := p.den_nz; omega) (by have := q.den_nz; omega), Rat.num_divInt_den, Rat.num_divInt_den]
theorem divInt_den (p : Rat) : (p.num : Rat) / (p.den : Rat) = p := by
  have h := Rat.divInt_eq_div p.num (p.den : Int)
  rw [Rat.num_divInt_den] at h
  exact h.symm
theorem den_ne (p : Rat) : (p.den : Rat) ≠ 0 := by
  have := p.den_nz
  intro h
  exact this (by exact_mod_cast h)
theorem sub_div (p q : Rat) : Rat.divInt (p.num * (q.den : Int) - q.num * (p.den : Int)) ((p.den : Int) * (q.den : Int)) = p - q := by
  rw [Rat.divInt_eq_div]
  have h1 := divInt_den p
  have h2 := divInt_den q
  have d1 := den_ne p
  have d2 := den_ne q
  push_cast
  grind
theorem mul_div (p q : Rat) : Rat.divInt (p.num * q.num) ((p.den : Int) * (q.den : Int)) = p * q := by
  rw [Rat.divInt_eq_div]
  have h1 := divInt_den p
  have h2 := divInt_den q
  have d1 := den_ne p
  have d2 := den_ne q
  push_cast
  grind
theorem div_div (p q : Rat) (h : q ≠ 0) : Rat.divInt (p.num * (q.den : Int)) ((p.den : Int) * q.num) = p / q := by
  rw [Rat.divInt_eq_div]
  have h1 := divInt_den p
  have h2 := divInt_den q
  have d1 := den_ne p
  have d2 := den_ne q
  have d3 : (q.num : Rat) ≠ 0 := by
    intro z
    rw [z] at h2
    exact h (by rw [← h2]; grind)
  push_cast
  grind
theorem num_ne {q : Rat} : q.num ≠ 0 ↔ q ≠ 0 := by
  constructor
  · rintro h rfl
    exact h rfl
  · intro h z
    exact h (Rat.num_eq_zero.mp z)
end Ly

set_option maxHeartbeats 4000000
/-! loops and comprehensions, by an invariant; lists that are told by what their items stand for -/
namespace Ly
open PySem PySem.Spec PyProof.Rows L2
section
variable {D : Ends} {σ : L2.St} {H : Hp} {te ta tl : TE} {g : TG} {tb : TS} {Q : VK} {K : PySem.W.Frag} {wi : TI} {tt : TT} {vs : List Nat}
theorem u_moP {i j : Int} (c : 0 < j) (h : Q (.int (i % j)) H) : rMoU (.int i) (.int j) H Q := by
  refine ⟨i, j, rfl, rfl, by omega, ?_⟩
  show Q (.int (i.fmod j)) H
  rw [Int.fmod_eq_emod_of_nonneg i (by omega)]
  exact h
theorem u_fdPos {i j : Int} (c : 0 < j) (h : Q (.int (i / j)) H) : rFdU (.int i) (.int j) H Q := by
  refine ⟨i, j, rfl, rfl, by omega, ?_⟩
  show Q (.int (i.fdiv j)) H
  rw [Int.fdiv_eq_ediv_of_nonneg i (by omega)]
  exact h
theorem u_pow {i j : Int} (c : 0 ≤ j ∧ j ≤ 1000000 ∧ i.natAbs < 2 ^ 64) (h : Q (.int (i ^ j.toNat)) H) : (rI CPow fun i j => .int (i ^ j.toNat)) (.int i) (.int j) H Q := ⟨i, j, rfl, rfl, c, h⟩
theorem u_ixL {p : Addr} {xs : List V} {k : Int} {v : V} (h : H p = some (.lst xs)) (ha : atI xs k = some v) (q : Q v H) : rIx K (.ref p) (.int k) H Q := u_ix (.inl (SqL.of h)) ha q

/-! ### for -/
def ForK (g : TG) (tb : TS) (D : Ends) (σ : L2.St) : It → Hp → Prop := fun J H1 => ∃ W : Nat → Nat → L2.St → Hp → Prop, (∃ m, W 0 m σ H1) ∧ ∀ i m σ H, W i m σ H →
  (J.stop i H ∧ D.nx σ H) ∨ (J.go i H ∧ ∃ N : L2.St → Hp → Prop, (∀ σ' H', N σ' H' → ∃ m', m' < m ∧ W (i + 1) m' σ' H') ∧ ∀ x H', J.yld i H x H' → g x σ H' fun σ2 H2 => tb { D with nx := N, ct := N, bk := D.nx } σ2 H2)
theorem st_for (h : wi σ H (ForK g tb D σ)) : tFor wi g tb D σ H := h
theorem forK {J : It} {n : Nat} {G : Hp → Prop} {Y : Nat → Hp → V → Hp → Prop} (w : Walk J n G Y) (Pv : Nat → L2.St → Hp → Prop) (h0 : Pv 0 σ H) (hG : ∀ i σ H, i ≤ n → Pv i σ H → G H)
    (hs : ∀ i x σ H H', i < n → Pv i σ H → Y i H x H' → g x σ H' fun σ2 H2 => tb { D with nx := Pv (i + 1), ct := Pv (i + 1), bk := D.nx } σ2 H2) (hd : ∀ σ H, Pv n σ H → D.nx σ H) : ForK g tb D σ J H := for_it w Pv h0 hG hs hd
/-! ### comprehensions (no test) -/
def LcK (g : TG) (tt : TT) (te : TE) (vs : List Nat) (σ : L2.St) (Q : VK) : It → Hp → Prop := fun J H1 => ∀ D, H1 D = none → ∃ W : Nat → Nat → Hp → Prop, (∃ m, W 0 m (upd H1 D (.lst []))) ∧ ∀ i m H, W i m H →
  (J.stop i H ∧ Q (.ref D) H) ∨ (J.go i H ∧ ∃ Nx : Hp → Prop, (∀ H', Nx H' → ∃ m', m' < m ∧ W (i + 1) m' H') ∧ ∀ x H', J.yld i H x H' → g x (wipe σ vs) H' fun σ2 H2 => wipe σ2 vs = wipe σ vs ∧ tt σ2 H2 fun b H3 =>
    if b = true then te σ2 H3 fun y H4 => ∃ acc, H4 D = some (.lst acc) ∧ acc.length < sizeLine ∧ Nx (upd H4 D (.lst (acc ++ [y]))) else Nx H3)
theorem st_lc (h : wi σ H (LcK g tt te vs σ Q)) : tLc wi g tt te vs σ H Q := h
/-- behind an item of a comprehension -/
def LcN (D : Addr) (P : List V → Hp → Prop) : VK := fun y H4 => ∃ acc, H4 D = some (.lst acc) ∧ acc.length < sizeLine ∧ ∃ acc', P acc' (upd H4 D (.lst (acc ++ [y])))
theorem lcN {A : Addr} {P : List V → Hp → Prop} {y : V} {acc : List V} (h1 : H A = some (.lst acc)) (h2 : acc.length < sizeLine) (p : P (acc ++ [y]) (upd H A (.lst (acc ++ [y])))) : LcN A P y H := ⟨acc, h1, h2, _, p⟩
/-- every item is kept: Pv by the turn, what is made so far, the heap -/
theorem lcK {J : It} {n : Nat} {G : Hp → Prop} {Y : Nat → Hp → V → Hp → Prop} (w : Walk J n G Y) (Pv : Addr → Nat → List V → Hp → Prop)
    (h0 : ∀ D, H D = none → Pv D 0 [] (upd H D (.lst []))) (hG : ∀ D i acc H1, H D = none → i ≤ n → Pv D i acc H1 → G H1)
    (hs : ∀ D i acc x H1 H', H D = none → i < n → Pv D i acc H1 → Y i H1 x H' → g x (wipe σ vs) H' fun σ2 H2 => wipe σ2 vs = wipe σ vs ∧ te σ2 H2 (LcN D (Pv D (i + 1))))
    (hd : ∀ D acc H1, H D = none → Pv D n acc H1 → Q (.ref D) H1) : LcK g tYes te vs σ Q J H := by
  intro D hD
  exact lc_it w (fun i H1 => ∃ acc, Pv D i acc H1) ⟨[], h0 D hD⟩ (fun i H1 hi p => p.elim fun acc p => hG D i acc H1 hD hi p) (fun i x H1 H' hi p y => p.elim fun acc p => hs D i acc x H1 H' hD hi p y) (fun H1 p => p.elim fun acc p => hd D acc H1 hD p)

/-! ### what walks -/
theorem st_iSeq {R : It → Hp → Prop} (h : tl σ H fun x H1 => ∃ (a : Addr) (xs : List V), x = .ref a ∧ ((SqL K H1 a xs ∧ R (Itl K a) H1) ∨ (SqT K H1 a xs ∧ R (Itt K a) H1))) : iSeqA K tl σ H R := h
theorem st_iEnum {ta : TA} {R : It → Hp → Prop} (h : ta σ H fun vs H1 => ∃ (a : Addr) (xs : List V), vs = [.ref a] ∧ ((SqL K H1 a xs ∧ R (Ite K a) H1) ∨ (SqT K H1 a xs ∧ R (IteT K a) H1))) : iEnumA K ta σ H R := h
theorem st_iRev {R : It → Hp → Prop} (h : tl σ H fun v H1 => ∃ (a : Addr) (xs : List V), v = .ref a ∧ ((SqL K H1 a xs ∧ R (Itv K a xs.length) H1) ∨ (SqT K H1 a xs ∧ R (RT.ItvT K a xs.length) H1))) : RT.iRevA K tl σ H R := h
theorem st_iRng1 {ta : TA} {R : It → Hp → Prop} (h : ta σ H fun vs H1 => ∃ j : Int, vs = [.int j] ∧ -(2 ^ 62) ≤ j ∧ j < 2 ^ 62 ∧ R (Itr 0 j.toNat) H1) : iRng1 ta σ H R := h
theorem st_iRng2 {ta : TA} {R : It → Hp → Prop} (h : ta σ H fun vs H1 => ∃ i j : Int, vs = [.int i, .int j] ∧ (-(2 ^ 62) ≤ i ∧ i < 2 ^ 62 ∧ -(2 ^ 62) ≤ j ∧ j < 2 ^ 62) ∧ R (Itr i (j - i).toNat) H1) : iRng2 ta σ H R := h
theorem u_rng1 {n : Int} {P : Int → Prop} (c : -1000000 ≤ n ∧ n ≤ 1000000) (h : P n) : ∃ j : Int, [V.int n] = [.int j] ∧ -(2 ^ 62) ≤ j ∧ j < 2 ^ 62 ∧ P j := ⟨n, rfl, by omega, by omega, h⟩
theorem u_rng2 {n m : Int} {P : Int → Int → Prop} (c : -1000000 ≤ n ∧ n ≤ 1000000 ∧ -1000000 ≤ m ∧ m ≤ 1000000) (h : P n m) : ∃ i j : Int, [V.int n, V.int m] = [.int i, .int j] ∧ (-(2 ^ 62) ≤ i ∧ i < 2 ^ 62 ∧ -(2 ^ 62) ≤ j ∧ j < 2 ^ 62) ∧ P i j := ⟨n, m, rfl, by omega, h⟩

/-! ### the law's bag: a list of three ints -/
def BagAt (H : Hp) (b : Addr) (n : Nat) : Prop := ∃ r s c : Int, H b = some (.lst [.int r, .int s, .int c]) ∧ 0 ≤ c ∧ c ≤ n
theorem BagAt.mono {b : Addr} {n m : Nat} (h : BagAt H b n) (l : n ≤ m) : BagAt H b m := by
  obtain ⟨r, s, c, h, h1, h2⟩ := h
  exact ⟨r, s, c, h, h1, by omega⟩
theorem BagAt.same {b : Addr} {n : Nat} {H' : Hp} (h : BagAt H b n) (e : Same H H') : BagAt H' b n := by
  obtain ⟨r, s, c, h, h1, h2⟩ := h
  exact ⟨r, s, c, e b _ h, h1, h2⟩
/-- what is no list of three ints is not the bag -/
theorem BagAt.ne {b a : Addr} {n : Nat} {o : HO} (h : BagAt H b n) (e : H a = some o) (d : ∀ r s c : Int, o ≠ .lst [.int r, .int s, .int c]) : a ≠ b := by
  rintro rfl
  obtain ⟨r, s, c, h, _, _⟩ := h
  rw [h] at e
  exact d r s c (Option.some.inj e).symm
theorem BagAt.imm {b : Addr} {n : Nat} {H' : Hp} (h : BagAt H b n) (e : SameX b H H') : Imm H H' := by
  obtain ⟨r, s, c, h, _, _⟩ := h
  exact e.imm h
end

/-! ### lists of fractions -/
def Fs (K : PySem.W.Frag) (H : Hp) : List V → List Rat → Prop
  | [], [] => True
  | v :: vs, q :: qs => Fr K H v q ∧ Fs K H vs qs
  | _, _ => False
section
variable {K : PySem.W.Frag} {H H' : Hp}
theorem Fs.imm (e : Imm H H') : ∀ {vs : List V} {qs : List Rat}, Fs K H vs qs → Fs K H' vs qs
  | [], [], _ => trivial
  | _ :: _, _ :: _, h => ⟨h.1.imm e, Fs.imm e h.2⟩
  | [], _ :: _, h => h.elim
  | _ :: _, [], h => h.elim
theorem Fs.same {vs : List V} {qs : List Rat} (h : Fs K H vs qs) (e : Same H H') : Fs K H' vs qs := h.imm e.imm
theorem Fs.len : ∀ {vs : List V} {qs : List Rat}, Fs K H vs qs → vs.length = qs.length
  | [], [], _ => rfl
  | _ :: _, _ :: _, h => congrArg Nat.succ (Fs.len h.2)
  | [], _ :: _, h => h.elim
  | _ :: _, [], h => h.elim
theorem Fs.get : ∀ {vs : List V} {qs : List Rat} {i : Nat} {v : V}, Fs K H vs qs → vs[i]? = some v → ∃ q, qs[i]? = some q ∧ Fr K H v q
  | _ :: _, q :: _, 0, _, h, e => ⟨q, rfl, by cases e; exact h.1⟩
  | _ :: vs, _ :: qs, i + 1, v, h, e => by
    obtain ⟨q, h1, h2⟩ := Fs.get (i := i) (v := v) h.2 (by simpa using e)
    exact ⟨q, by simpa using h1, h2⟩
  | [], [], _, _, _, e => by simp at e
  | [], _ :: _, _, _, h, _ => h.elim
  | _ :: _, [], _, _, h, _ => h.elim
theorem Fs.getQ : ∀ {vs : List V} {qs : List Rat} {i : Nat} {q : Rat}, Fs K H vs qs → qs[i]? = some q → ∃ v, vs[i]? = some v ∧ Fr K H v q
  | v :: _, _ :: _, 0, _, h, e => ⟨v, rfl, by cases e; exact h.1⟩
  | _ :: vs, _ :: qs, i + 1, v, h, e => by
    obtain ⟨q, h1, h2⟩ := Fs.getQ (i := i) (q := v) h.2 (by simpa using e)
    exact ⟨q, by simpa using h1, h2⟩
  | [], [], _, _, _, e => by simp at e
  | [], _ :: _, _, _, h, _ => h.elim
  | _ :: _, [], _, _, h, _ => h.elim
theorem Fs.append : ∀ {vs ws : List V} {qs rs : List Rat}, Fs K H vs qs → Fs K H ws rs → Fs K H (vs ++ ws) (qs ++ rs)
  | [], _, [], _, _, k => k
  | _ :: _, _, _ :: _, _, h, k => ⟨h.1, Fs.append h.2 k⟩
  | [], _, _ :: _, _, h, _ => h.elim
  | _ :: _, _, [], _, h, _ => h.elim
theorem Fs.snoc {vs : List V} {qs : List Rat} {v : V} {q : Rat} (h : Fs K H vs qs) (k : Fr K H v q) : Fs K H (vs ++ [v]) (qs ++ [q]) := h.append ⟨k, trivial⟩
theorem Fs.take : ∀ {vs : List V} {qs : List Rat} (n : Nat), Fs K H vs qs → Fs K H (vs.take n) (qs.take n)
  | [], [], n, _ => by rw [List.take_nil, List.take_nil]; trivial
  | _ :: _, _ :: _, 0, _ => trivial
  | _ :: _, _ :: _, n + 1, h => ⟨h.1, Fs.take n h.2⟩
  | [], _ :: _, _, h => h.elim
  | _ :: _, [], _, h => h.elim
theorem Fs.drop : ∀ {vs : List V} {qs : List Rat} (n : Nat), Fs K H vs qs → Fs K H (vs.drop n) (qs.drop n)
  | [], [], n, _ => by rw [List.drop_nil, List.drop_nil]; trivial
  | _ :: _, _ :: _, 0, h => h
  | _ :: _, _ :: _, n + 1, h => Fs.drop n h.2
  | [], _ :: _, _, h => h.elim
  | _ :: _, [], _, h => h.elim
theorem Fs.set : ∀ {vs : List V} {qs : List Rat} {v : V} {q : Rat} (i : Nat), Fs K H vs qs → Fr K H v q → Fs K H (vs.set i v) (qs.set i q)
  | [], [], _, _, _, _, _ => trivial
  | _ :: _, _ :: _, _, _, 0, h, k => ⟨k, h.2⟩
  | _ :: _, _ :: _, _, _, i + 1, h, k => ⟨h.1, Fs.set i h.2 k⟩
  | [], _ :: _, _, _, _, h, _ => h.elim
  | _ :: _, [], _, _, _, h, _ => h.elim
theorem Fs.rep {v : V} {q : Rat} (h : Fr K H v q) : ∀ n : Nat, Fs K H (List.replicate n v) (List.replicate n q)
  | 0 => trivial
  | n + 1 => ⟨h, Fs.rep h n⟩
/-- a list or a tuple of fractions; a list of one's own; a tuple -/
def Row (K : PySem.W.Frag) (H : Hp) (v : V) (qs : List Rat) : Prop := ∃ a xs, v = .ref a ∧ Sq K H a xs ∧ Fs K H xs qs
def RowL (K : PySem.W.Frag) (H : Hp) (v : V) (qs : List Rat) : Prop := ∃ a xs, v = .ref a ∧ H a = some (.lst xs) ∧ Fs K H xs qs
def RowT (K : PySem.W.Frag) (H : Hp) (v : V) (qs : List Rat) : Prop := ∃ a xs, v = .ref a ∧ SqT K H a xs ∧ Fs K H xs qs
theorem RowL.row {v : V} {qs : List Rat} (h : RowL K H v qs) : Row K H v qs := let ⟨a, xs, e, h1, h2⟩ := h; ⟨a, xs, e, .inl (SqL.of h1), h2⟩
theorem RowT.row {v : V} {qs : List Rat} (h : RowT K H v qs) : Row K H v qs := let ⟨a, xs, e, h1, h2⟩ := h; ⟨a, xs, e, .inr h1, h2⟩
theorem Row.same {v : V} {qs : List Rat} (h : Row K H v qs) (e : Same H H') : Row K H' v qs := let ⟨a, xs, z, h1, h2⟩ := h; ⟨a, xs, z, e.sq h1, h2.same e⟩
theorem RowL.same {v : V} {qs : List Rat} (h : RowL K H v qs) (e : Same H H') : RowL K H' v qs := let ⟨a, xs, z, h1, h2⟩ := h; ⟨a, xs, z, e _ _ h1, h2.same e⟩
theorem RowT.same {v : V} {qs : List Rat} (h : RowT K H v qs) (e : Same H H') : RowT K H' v qs := let ⟨a, xs, z, h1, h2⟩ := h; ⟨a, xs, z, e.t h1, h2.same e⟩
theorem RowT.imm {v : V} {qs : List Rat} (h : RowT K H v qs) (e : Imm H H') : RowT K H' v qs := let ⟨a, xs, z, h1, h2⟩ := h; ⟨a, xs, z, e.t h1, h2.imm e⟩
theorem fs_ne {xs : List V} {qs : List Rat} (h : Fs K H xs qs) (r s c : Int) : HO.lst xs ≠ .lst [.int r, .int s, .int c] := by
  intro e
  injection e with e
  subst e
  match qs, h with
  | _ :: _, h =>
    obtain ⟨⟨_, e, _⟩, _⟩ := h
    cases e
/-- the bag's change leaves rows as they are -/
theorem Row.bag {b : Addr} {n : Nat} {v : V} {qs : List Rat} (h : Row K H v qs) (hb : BagAt H b n) (e : SameX b H H') : Row K H' v qs := by
  obtain ⟨a, xs, rfl, h1, h2⟩ := h
  refine ⟨a, xs, rfl, ?_, h2.imm (hb.imm e)⟩
  rcases h1 with ((h1 | ⟨o, h1⟩) | h1) | h1
  · exact .inl (.inl (.inl (e a _ (hb.ne h1 fun r s c => fs_ne h2 r s c) h1)))
  · exact .inl (.inl (.inr ⟨o, e a _ (hb.ne h1 fun _ _ _ z => nomatch z) h1⟩))
  · exact .inl (.inr h1)
  · exact .inr ((hb.imm e).t h1)
theorem RowL.bag {b : Addr} {n : Nat} {v : V} {qs : List Rat} (h : RowL K H v qs) (hb : BagAt H b n) (e : SameX b H H') : RowL K H' v qs := by
  obtain ⟨a, xs, rfl, h1, h2⟩ := h
  exact ⟨a, xs, rfl, e a _ (hb.ne h1 fun r s c => fs_ne h2 r s c) h1, h2.imm (hb.imm e)⟩
theorem Fr.bag {b : Addr} {n : Nat} {v : V} {q : Rat} (h : Fr K H v q) (hb : BagAt H b n) (e : SameX b H H') : Fr K H' v q := h.imm (hb.imm e)
end

theorem cutV_to {xs : List V} (n : Nat) : cutV xs none (some (n : Int)) = xs.take n := by
  unfold cutV
  rw [HT.sIx_none, HT.sIx_nat, List.drop_zero, Nat.sub_zero]
  rcases Nat.le_total n xs.length with h | h
  · rw [Nat.min_eq_left h]
  · rw [Nat.min_eq_right h, List.take_of_length_le h, List.take_of_length_le (Nat.le_refl _)]
theorem u_cut {t u : TS} {D : Ends} {σ : L2.St} {H : Hp} (M : L2.St → Hp → Prop) (h1 : t { D with nx := M } σ H) (h2 : ∀ σ' H', M σ' H' → u D σ' H') : Evl.tCut t u D σ H := ⟨M, h1, h2⟩
/-- a list's cut -/
theorem u_slL {K : PySem.W.Frag} {H : Hp} {Q : VK} {p : Addr} {xs : List V} {lo hi : Option Int} (h : SqL K H p xs) (q : ∀ l, H l = none → Q (.ref l) (upd H l (.lst (cutV xs lo hi)))) : rSlU K (.ref p) lo hi H Q := .inl ⟨p, xs, rfl, h, q⟩
theorem u_sum {K : PySem.W.Frag} {H : Hp} {Q : VK} {p : Addr} {ns : List Int} (h : SqL K H p (ns.map V.int)) (q : Q (.int ns.sum) H) : rSum K [.ref p] H Q := ⟨p, ns, rfl, h, q⟩
theorem take_more {α : Type} : ∀ {l : List α} {i : Nat} {x : α}, l[i]? = some x → l.take i ++ [x] = l.take (i + 1)
  | [], _, _, h => by simp at h
  | _ :: _, 0, _, h => by cases h; rfl
  | a :: l, i + 1, x, h => by
    show a :: (l.take i ++ [x]) = a :: l.take (i + 1)
    rw [take_more (l := l) (i := i) (x := x) h]
theorem walk_range0 {n : Nat} : Walk (Itr 0 n) n (fun _ => True) (fun i H v H' => H' = H ∧ v = .int (i : Nat)) :=
  ⟨fun _ _ hi _ => hi, fun _ _ => Nat.le_refl _, fun i H x H' _ _ y => by
    obtain ⟨y1, y2⟩ := y
    exact ⟨y1, by rw [y2, Int.zero_add]⟩⟩
end Ly

set_option maxHeartbeats 4000000
/-! the entries that the law draws; sizes of lists of fractions by a common denominator -/
namespace Ly
open PySem PySem.Spec PyProof.Rows L2
/-- a small entry: over 420 -/
def Sm (q : Rat) : Prop := ∃ k : Int, q = (k : Rat) / 420 ∧ k.natAbs ≤ 3780
def En (large : Bool) (q : Rat) : Prop := Bq 31 q ∧ (large = false → Sm q)
theorem num_int (n : Int) : ((n : Rat)).num = n ∧ ((n : Rat)).den = 1 := ⟨rfl, rfl⟩
theorem en_int {large : Bool} {n : Int} (h1 : -9 ≤ n) (h2 : n ≤ 9) : En large (n : Rat) := by
  refine ⟨⟨?_, ?_⟩, fun _ => ⟨n * 420, ?_, by omega⟩⟩
  · show n.natAbs < 2 ^ 31; omega
  · show ((1 : Nat) : Int).natAbs < 2 ^ 31; decide
  · push_cast
    grind
theorem en_low {large : Bool} {a u : Int} (h1 : -9 ≤ a) (h2 : a ≤ 9) (h3 : 1 ≤ u) (h4 : u ≤ 7) : En large (Rat.divInt a u) := by
  refine ⟨Bq.of_div (by show a.natAbs < 2 ^ 31; omega) (by show u.natAbs < 2 ^ 31; omega) (by decide), fun _ => ?_⟩
  have hc : u = 1 ∨ u = 2 ∨ u = 3 ∨ u = 4 ∨ u = 5 ∨ u = 6 ∨ u = 7 := by omega
  rw [Rat.divInt_eq_div]
  rcases hc with rfl | rfl | rfl | rfl | rfl | rfl | rfl
  · exact ⟨a * 420, by push_cast; grind, by omega⟩
  · exact ⟨a * 210, by push_cast; grind, by omega⟩
  · exact ⟨a * 140, by push_cast; grind, by omega⟩
  · exact ⟨a * 105, by push_cast; grind, by omega⟩
  · exact ⟨a * 84, by push_cast; grind, by omega⟩
  · exact ⟨a * 70, by push_cast; grind, by omega⟩
  · exact ⟨a * 60, by push_cast; grind, by omega⟩
theorem en_large {a u : Int} (h1 : -9 ≤ a) (h2 : a ≤ 9) (h3 : 1 ≤ u) (h4 : u ≤ 7) : En true (Rat.divInt (a * 111111110 + 1) (u * 142857142 + 1)) :=
  ⟨Bq.of_div (by show Int.natAbs _ < 2 ^ 31; omega) (by show Int.natAbs _ < 2 ^ 31; omega) (by decide), fun z => nomatch z⟩

/-! ### sizes by a common denominator: below 2^s -/
def Sz (s : Nat) (p : List Rat) : Prop := ∃ D : Nat, 0 < D ∧ D < 2 ^ s ∧ ∀ q ∈ p, ∃ k : Int, q = (k : Rat) / (D : Rat) ∧ k.natAbs < 2 ^ s
theorem Sz.mono {s t : Nat} {p : List Rat} (h : Sz s p) (l : s ≤ t) : Sz t p := by
  obtain ⟨D, h0, h1, h2⟩ := h
  have e : 2 ^ s ≤ 2 ^ t := Nat.pow_le_pow_right (by decide) l
  exact ⟨D, h0, by omega, fun q hq => let ⟨k, e1, e2⟩ := h2 q hq; ⟨k, e1, by omega⟩⟩
theorem Sz.sub {s : Nat} {p r : List Rat} (h : Sz s p) (l : ∀ q ∈ r, q ∈ p ∨ q = 0) : Sz s r := by
  obtain ⟨D, h0, h1, h2⟩ := h
  refine ⟨D, h0, h1, fun q hq => ?_⟩
  rcases l q hq with z | z
  · exact h2 q z
  · subst z
    exact ⟨0, by rw [show ((0 : Int) : Rat) = 0 from rfl]; grind, by simp; exact Nat.pos_of_ne_zero (by simp)⟩
theorem Sz.bq {s : Nat} {p : List Rat} {q : Rat} (h : Sz s p) (hq : q ∈ p) (h0 : 0 < s) : Bq s q := by
  obtain ⟨D, d0, d1, h2⟩ := h
  obtain ⟨k, rfl, hk⟩ := h2 q hq
  have e := Rat.divInt_eq_div k (D : Int)
  rw [show ((D : Int) : Rat) = (D : Rat) from rfl] at e
  rw [← e]
  exact Bq.of_div hk (by show (D : Int).natAbs < 2 ^ s; omega) h0
theorem sz_small {p : List Rat} (h : ∀ q ∈ p, Sm q) : Sz 12 p := ⟨420, by decide, by decide, fun q hq => by
  obtain ⟨k, e, hk⟩ := h q hq
  exact ⟨k, e, by omega⟩⟩
/-- the product of the denominators -/
theorem sz_large : ∀ {p : List Rat}, (∀ q ∈ p, Bq 31 q) → Sz (31 * (p.length + 1)) p
  | [], _ => ⟨1, by decide, by decide, fun q hq => nomatch hq⟩
  | q :: p, h => by
    obtain ⟨D, h0, h1, h2⟩ := sz_large (p := p) fun r hr => h r (List.mem_cons_of_mem _ hr)
    obtain ⟨b1, b2⟩ := h q List.mem_cons_self
    have b2' : q.den < 2 ^ 31 := by
      have : ((q.den : Int)).natAbs < 2 ^ 31 := b2
      omega
    have e : 31 * ((q :: p).length + 1) = 31 * (p.length + 1) + 31 := by simp; omega
    have hD : D * q.den < 2 ^ (31 * ((q :: p).length + 1)) := by
      rw [e, Nat.pow_add]
      exact Nat.mul_lt_mul'' h1 b2'
    refine ⟨D * q.den, Nat.mul_pos h0 q.den_pos, hD, fun r hr => ?_⟩
    have dn := den_ne q
    have Dn : (D : Rat) ≠ 0 := by
      intro z
      have : D = 0 := by exact_mod_cast z
      omega
    rcases List.mem_cons.mp hr with rfl | hr
    · refine ⟨r.num * D, ?_, ?_⟩
      · have := divInt_den r
        push_cast
        grind
      · rw [Int.natAbs_mul, e, Nat.pow_add, Nat.mul_comm]
        exact Nat.mul_lt_mul'' (by simpa using h1) b1
    · obtain ⟨k, e1, e2⟩ := h2 r hr
      refine ⟨k * q.den, ?_, ?_⟩
      · rw [e1]
        push_cast
        grind
      · rw [Int.natAbs_mul, e, Nat.pow_add]
        exact Nat.mul_lt_mul'' e2 (by simpa using b2')
end Ly

set_option maxHeartbeats 4000000
/-! polynomials as lists of fractions: plain mathematics -/
namespace Ly
/-! ### coefficients, the trimmed form -/
def cf (p : List Rat) (i : Nat) : Rat := p.getD i 0
theorem cf_get {p : List Rat} {i : Nat} {q : Rat} (h : p[i]? = some q) : cf p i = q := by unfold cf; rw [List.getD_eq_getElem?_getD, h]; rfl
theorem cf_out {p : List Rat} {i : Nat} (h : p.length ≤ i) : cf p i = 0 := by unfold cf; rw [List.getD_eq_getElem?_getD, List.getElem?_eq_none h]; rfl
theorem cf_in {p : List Rat} {i : Nat} (h : i < p.length) : p[i]? = some (cf p i) := by
  unfold cf; rw [List.getD_eq_getElem?_getD, List.getElem?_eq_getElem h]; rfl
theorem cf_mem {p : List Rat} {i : Nat} (h : i < p.length) : cf p i ∈ p := List.mem_of_getElem? (cf_in h)
theorem cf_ext {p q : List Rat} (hl : p.length = q.length) (h : ∀ i, i < p.length → cf p i = cf q i) : p = q := by
  refine List.ext_getElem? fun i => ?_
  by_cases hi : i < p.length
  · rw [cf_in hi, cf_in (hl ▸ hi), h i hi]
  · rw [List.getElem?_eq_none (by omega), List.getElem?_eq_none (by omega)]
theorem cf_take {p : List Rat} {n i : Nat} : cf (p.take n) i = if i < n then cf p i else 0 := by
  unfold cf
  rw [List.getD_eq_getElem?_getD, List.getD_eq_getElem?_getD, List.getElem?_take]
  split <;> rfl
theorem cf_map {n i : Nat} {f : Nat → Rat} : cf ((List.range n).map f) i = if i < n then f i else 0 := by
  unfold cf
  rw [List.getD_eq_getElem?_getD, List.getElem?_map]
  by_cases h : i < n
  · rw [List.getElem?_range h, if_pos h]; rfl
  · rw [List.getElem?_eq_none (by simpa using h), if_neg h]; rfl
theorem cf_set {p : List Rat} {j i : Nat} {q : Rat} (h : j < p.length) : cf (p.set j q) i = if i = j then q else cf p i := by
  unfold cf
  rw [List.getD_eq_getElem?_getD, List.getD_eq_getElem?_getD, List.getElem?_set]
  by_cases e : i = j
  · subst e; simp [h]
  · rw [if_neg (Ne.symm e), if_neg e]
theorem cf_append {p q : List Rat} {i : Nat} : cf (p ++ q) i = if i < p.length then cf p i else cf q (i - p.length) := by
  unfold cf
  rw [List.getD_eq_getElem?_getD, List.getD_eq_getElem?_getD, List.getD_eq_getElem?_getD]
  split
  · rw [List.getElem?_append_left (by assumption)]
  · rw [List.getElem?_append_right (by omega)]
theorem cf_rep {n i : Nat} : cf (List.replicate n 0) i = 0 := by
  unfold cf
  rw [List.getD_eq_getElem?_getD, List.getElem?_replicate]
  split <;> rfl
/-- how much of p is left when the zeros at the end are taken off -/
def tlen : List Rat → Nat
  | [] => 0
  | q :: r => if tlen r = 0 then (if q = 0 then 0 else 1) else tlen r + 1
theorem tlen_le : ∀ p, tlen p ≤ p.length
  | [] => Nat.le_refl _
  | q :: r => by
    have := tlen_le r
    unfold tlen
    split
    · split <;> simp
    · simp; omega
theorem tlen_out : ∀ {p : List Rat} {i : Nat}, tlen p ≤ i → cf p i = 0
  | [], i, _ => rfl
  | q :: r, 0, h => by
    unfold tlen at h
    split at h
    · split at h
      · assumption
      · omega
    · omega
  | q :: r, i + 1, h => by
    show cf r i = 0
    refine tlen_out ?_
    unfold tlen at h
    split at h
    · omega
    · omega
theorem tlen_top : ∀ {p : List Rat}, 0 < tlen p → cf p (tlen p - 1) ≠ 0
  | [], h => absurd h (Nat.lt_irrefl _)
  | q :: r, h => by
    unfold tlen at h ⊢
    by_cases e : tlen r = 0
    · rw [if_pos e] at h ⊢
      by_cases z : q = 0
      · rw [if_pos z] at h; omega
      · rw [if_neg z]; exact z
    · rw [if_neg e]
      show cf (q :: r) (tlen r) ≠ 0
      have := tlen_top (p := r) (by omega)
      rw [show tlen r = (tlen r - 1) + 1 by omega]
      exact this
theorem tlen_is {p : List Rat} {m : Nat} (h1 : ∀ i, m ≤ i → cf p i = 0) (h2 : 0 < m → cf p (m - 1) ≠ 0) : m = tlen p := by
  rcases Nat.lt_trichotomy m (tlen p) with h | h | h
  · exact absurd (h1 (tlen p - 1) (by omega)) (tlen_top (by omega))
  · exact h
  · exact absurd (tlen_out (p := p) (i := m - 1) (by omega)) (h2 (by omega))
def trim (p : List Rat) : List Rat := p.take (tlen p)
theorem trim_len (p : List Rat) : (trim p).length = tlen p := by unfold trim; rw [List.length_take]; have := tlen_le p; omega
theorem cf_trim (p : List Rat) (i : Nat) : cf (trim p) i = cf p i := by
  unfold trim
  rw [cf_take]
  split
  · rfl
  · exact (tlen_out (by omega)).symm
def IsT (p : List Rat) : Prop := 0 < p.length → cf p (p.length - 1) ≠ 0
theorem trim_isT (p : List Rat) : IsT (trim p) := fun h => by
  rw [trim_len] at h ⊢
  rw [cf_trim]
  exact tlen_top h
theorem IsT.tlen {p : List Rat} (h : IsT p) : tlen p = p.length := (tlen_is (fun i hi => cf_out hi) h).symm
theorem IsT.eq {p : List Rat} (h : IsT p) : trim p = p := by unfold trim; rw [h.tlen, List.take_length]
theorem isT_ext {p q : List Rat} (hp : IsT p) (hq : IsT q) (h : ∀ i, cf p i = cf q i) : p = q := by
  have e : p.length = q.length := by
    rw [← hp.tlen, ← hq.tlen]
    refine tlen_is (fun i hi => by rw [← h]; exact tlen_out hi) fun h0 => by rw [← h]; exact tlen_top h0
  exact cf_ext e fun i _ => h i
theorem trim_ext {p q : List Rat} (h : ∀ i, cf p i = cf q i) : trim p = trim q := isT_ext (trim_isT p) (trim_isT q) fun i => by rw [cf_trim, cf_trim, h]
theorem isT_trim {p q : List Rat} (hp : IsT p) (h : ∀ i, cf p i = cf q i) : trim q = p := by
  rw [← hp.eq]; exact (trim_ext h).symm
theorem trim_mem {p : List Rat} {q : Rat} (h : q ∈ trim p) : q ∈ p := List.mem_of_mem_take h
theorem isT_nil : IsT [] := fun h => absurd h (by decide)

/-! ### sums, products -/
def sumTo : Nat → (Nat → Rat) → Rat
  | 0, _ => 0
  | n + 1, f => sumTo n f + f n
theorem sumTo_congr {n : Nat} {f g : Nat → Rat} (h : ∀ i, i < n → f i = g i) : sumTo n f = sumTo n g := by
  induction n with
  | zero => rfl
  | succ n ih => unfold sumTo; rw [ih fun i hi => h i (by omega), h n (by omega)]
theorem sumTo_zero {n : Nat} {f : Nat → Rat} (h : ∀ i, i < n → f i = 0) : sumTo n f = 0 := by
  induction n with
  | zero => rfl
  | succ n ih => unfold sumTo; rw [ih fun i hi => h i (by omega), h n (by omega)]; grind
theorem sumTo_add {n : Nat} {f g : Nat → Rat} : sumTo n (fun i => f i + g i) = sumTo n f + sumTo n g := by
  induction n with
  | zero => show (0 : Rat) = 0 + 0; grind
  | succ n ih => unfold sumTo; rw [ih]; grind
theorem sumTo_more {n m : Nat} {f : Nat → Rat} (h : ∀ i, n ≤ i → f i = 0) (l : n ≤ m) : sumTo m f = sumTo n f := by
  induction m with
  | zero => rw [show n = 0 by omega]
  | succ m ih =>
    by_cases e : n = m + 1
    · rw [e]
    · show sumTo m f + f m = _
      rw [ih (by omega), h m (by omega)]
      grind
/-- one term alone -/
theorem sumTo_one {n k : Nat} {f : Nat → Rat} (hk : k < n) (h : ∀ i, i < n → i ≠ k → f i = 0) : sumTo n f = f k := by
  induction n with
  | zero => omega
  | succ n ih =>
    unfold sumTo
    by_cases e : k = n
    · subst e
      rw [sumTo_zero fun i hi => h i (by omega) (by omega)]; grind
    · rw [ih (by omega) fun i hi hne => h i (by omega) hne, h n (by omega) (by omega)]; grind
/-- the terms of the product that come from the first J coefficients of p -/
def pc (p q : List Rat) (J i : Nat) : Rat := sumTo J fun j => if j ≤ i then cf p j * cf q (i - j) else 0
def cv (p q : List Rat) (i : Nat) : Rat := pc p q p.length i
theorem pc_succ (p q : List Rat) (J i : Nat) : pc p q (J + 1) i = pc p q J i + (if J ≤ i then cf p J * cf q (i - J) else 0) := rfl
theorem cv_ge {p q : List Rat} {J i : Nat} (h : p.length ≤ J) : pc p q J i = cv p q i := sumTo_more (fun j hj => by rw [cf_out hj]; split <;> grind) h
theorem cv_out {p q : List Rat} {i : Nat} (h : p.length + q.length ≤ i + 1) : cv p q i = 0 := sumTo_zero fun j hj => by
  split
  · rw [cf_out (p := q) (by omega)]; grind
  · rfl
def pmul (p q : List Rat) : List Rat := trim ((List.range (p.length + q.length)).map (cv p q))
theorem cf_pmul (p q : List Rat) (i : Nat) : cf (pmul p q) i = cv p q i := by
  unfold pmul
  rw [cf_trim, cf_map]
  split
  · rfl
  · exact (cv_out (by omega)).symm
def padd (p q : List Rat) : List Rat := trim ((List.range (max p.length q.length)).map fun i => cf p i + cf q i)
theorem cf_padd (p q : List Rat) (i : Nat) : cf (padd p q) i = cf p i + cf q i := by
  unfold padd
  rw [cf_trim, cf_map]
  split
  · rfl
  · rw [cf_out (p := p) (by omega), cf_out (p := q) (by omega)]; grind

/-! ### division: from the top down -/
/-- one step: the coefficient at a + m - 1 goes -/
def rs (u : List Rat) (a : Nat) (c : Nat → Rat) : Nat → Rat := fun i => c i - c (a + u.length - 1) / cf u (u.length - 1) * (if a ≤ i then cf u (i - a) else 0)
def rdn (u : List Rat) : Nat → (Nat → Rat) → Nat → Rat
  | 0, c => c
  | n + 1, c => rdn u n (rs u n c)
theorem rs_skip {u : List Rat} {a : Nat} {c : Nat → Rat} (h : c (a + u.length - 1) = 0) : rs u a c = c := by
  funext i
  unfold rs
  rw [h]
  grind
theorem rs_top {u : List Rat} {a : Nat} {c : Nat → Rat} (hu : 0 < u.length) (ht : cf u (u.length - 1) ≠ 0) : rs u a c (a + u.length - 1) = 0 := by
  unfold rs
  rw [if_pos (by omega), show a + u.length - 1 - a = u.length - 1 by omega]
  grind
theorem rs_above {u : List Rat} {a i : Nat} {c : Nat → Rat} (h : a + u.length ≤ i) : rs u a c i = c i := by
  unfold rs
  rw [cf_out (p := u) (show u.length ≤ i - a by omega)]
  split <;> grind
theorem rdn_skip {u : List Rat} {c : Nat → Rat} {n m : Nat} (hu : 0 < u.length) (h : ∀ i, m + u.length - 1 ≤ i → c i = 0) (l : m ≤ n) : rdn u n c = rdn u m c := by
  induction n with
  | zero => rw [show m = 0 by omega]
  | succ n ih =>
    by_cases e : m = n + 1
    · rw [e]
    · show rdn u n (rs u n c) = _
      rw [rs_skip (h _ (by omega)), ih (by omega)]
/-- the remainder's coefficients -/
def remC (p u : List Rat) : Nat → Rat := rdn u (p.length + 1 - u.length) (cf p)
theorem rdn_above {u : List Rat} (hu : 0 < u.length) (ht : cf u (u.length - 1) ≠ 0) : ∀ {n : Nat} {c : Nat → Rat} {i : Nat}, (∀ j, n + u.length - 1 ≤ j → c j = 0) → u.length - 1 ≤ i → rdn u n c i = 0
  | 0, c, i, h, hi => h i (by omega)
  | n + 1, c, i, h, hi => by
    unfold rdn
    refine rdn_above hu ht (fun j hj => ?_) hi
    by_cases e : j = n + u.length - 1
    · rw [e]; exact rs_top hu ht
    · rw [rs_above (by omega)]; exact h j (by omega)
theorem remC_out {p u : List Rat} {i : Nat} (hu : 0 < u.length) (ht : IsT u) (hi : u.length - 1 ≤ i) : remC p u i = 0 := by
  unfold remC
  refine rdn_above hu (ht hu) (fun j hj => ?_) hi
  exact cf_out (by omega)
def prem (p u : List Rat) : List Rat := trim ((List.range (u.length - 1)).map (remC p u))
theorem cf_prem {p u : List Rat} (hu : 0 < u.length) (ht : IsT u) (i : Nat) : cf (prem p u) i = remC p u i := by
  unfold prem
  rw [cf_trim, cf_map]
  split
  · rfl
  · exact (remC_out hu ht (by omega)).symm
theorem prem_lt {p u : List Rat} (hu : 0 < u.length) : (prem p u).length < u.length := by
  unfold prem
  rw [trim_len]
  have := tlen_le ((List.range (u.length - 1)).map (remC p u))
  rw [List.length_map, List.length_range] at this
  omega
/-- the quotient's new coefficient, told by the product -/
theorem cv_set {p u : List Rat} {a i : Nat} {f : Rat} (ha : a < p.length) (h0 : cf p a = 0) : cv (p.set a f) u i = cv p u i + f * (if a ≤ i then cf u (i - a) else 0) := by
  unfold cv
  rw [List.length_set]
  have e : ∀ j, (if j ≤ i then cf (p.set a f) j * cf u (i - j) else 0) = (if j ≤ i then cf p j * cf u (i - j) else 0) + (if j = a then (if a ≤ i then f * cf u (i - a) else 0) else 0) := fun j => by
    rw [cf_set ha]
    by_cases z : j = a
    · subst z
      rw [if_pos rfl, if_pos rfl, h0]
      split <;> grind
    · rw [if_neg z, if_neg z]; grind
  unfold pc
  rw [sumTo_congr fun j _ => e j, sumTo_add, sumTo_one (k := a) (f := fun j => if j = a then (if a ≤ i then f * cf u (i - a) else 0) else 0) ha (fun j _ hj => if_neg hj), if_pos rfl]
  split <;> grind

/-! ### the greatest common divisor -/
def monic (p : List Rat) : List Rat := p.map fun q => q / cf p (p.length - 1)
theorem monic_len (p : List Rat) : (monic p).length = p.length := by unfold monic; rw [List.length_map]
def gcdN : Nat → List Rat → List Rat → List Rat
  | 0, a, _ => a
  | n + 1, a, b => if b.length = 0 then a else gcdN n b (monic (prem a b))
theorem gcdN_more {n : Nat} : ∀ {m : Nat} {a b : List Rat}, b.length ≤ n → b.length ≤ m → gcdN n a b = gcdN m a b := by
  induction n with
  | zero =>
    intro m a b h _
    cases m with
    | zero => rfl
    | succ m => unfold gcdN; rw [if_pos (by omega)]
  | succ n ih =>
    intro m a b h k
    by_cases e : b.length = 0
    · cases m with
      | zero => unfold gcdN; rw [if_pos e]
      | succ m => unfold gcdN; rw [if_pos e, if_pos e]
    · cases m with
      | zero => omega
      | succ m =>
        unfold gcdN
        rw [if_neg e, if_neg e]
        have := prem_lt (p := a) (u := b) (by omega)
        exact ih (by rw [monic_len]; omega) (by rw [monic_len]; omega)
theorem monic_isT {p : List Rat} (h : IsT p) : IsT (monic p) := fun h0 => by
  rw [monic_len] at h0 ⊢
  have ht := h h0
  have e : (monic p)[p.length - 1]? = some (cf p (p.length - 1) / cf p (p.length - 1)) := by
    unfold monic
    rw [List.getElem?_map, cf_in (by omega)]
    rfl
  rw [cf_get e]
  grind
end Ly
namespace Ly
theorem tlen_take_succ {p : List Rat} {i : Nat} (h : i < p.length) : tlen (p.take (i + 1)) = if cf p i = 0 then tlen (p.take i) else i + 1 := by
  have e : ∀ j, cf (p.take (i + 1)) j = if j < i + 1 then cf p j else 0 := fun j => cf_take
  symm
  refine tlen_is (fun j hj => ?_) fun h0 => ?_
  · rw [e]
    split at hj
    · rename_i z
      split
      · by_cases c : j = i
        · rw [c]; exact z
        · have := tlen_out (p := p.take i) hj
          rw [cf_take, if_pos (by omega)] at this
          exact this
      · rfl
    · rw [if_neg (by omega)]
  · rw [e]
    split at h0
    · rename_i z
      rw [if_pos z]
      have l1 := tlen_le (p.take i)
      rw [List.length_take] at l1
      rw [if_pos (by omega)]
      have := tlen_top h0
      rw [cf_take, if_pos (by omega)] at this
      exact this
    · rename_i z
      rw [if_neg z, if_pos (by omega)]
      exact z
/-- all of n bits -/
def BqL (n : Nat) (p : List Rat) : Prop := ∀ q ∈ p, Bq n q
theorem Bq.zero {n : Nat} (h : 0 < n) : Bq n 0 := by
  have e : 2 ^ 1 ≤ 2 ^ n := Nat.pow_le_pow_right (by decide) h
  refine ⟨?_, ?_⟩
  · show Int.natAbs 0 < 2 ^ n
    simp only [Int.natAbs_zero]
    omega
  · show ((1 : Nat) : Int).natAbs < 2 ^ n
    simp only [Int.natAbs_natCast]
    omega
theorem Bq.one {n : Nat} (h : 0 < n) : Bq n 1 := by
  have e : 2 ^ 1 ≤ 2 ^ n := Nat.pow_le_pow_right (by decide) h
  refine ⟨?_, ?_⟩ <;> (show Int.natAbs 1 < 2 ^ n; simp only [Int.natAbs_one]; omega)
theorem BqL.cf {n : Nat} {p : List Rat} (h : BqL n p) (h0 : 0 < n) (i : Nat) : Bq n (Ly.cf p i) := by
  by_cases hi : i < p.length
  · exact h _ (cf_mem hi)
  · rw [cf_out (by omega)]; exact Bq.zero h0
theorem BqL.mono {n m : Nat} {p : List Rat} (h : BqL n p) (l : n ≤ m) : BqL m p := fun q hq => (h q hq).mono l
theorem Bq.addQ {n m : Nat} {p q : Rat} (h : Bq n p) (k : Bq m q) : Bq (n + m + 1) (p + q) := by
  rw [← add_div]
  refine Bq.of_div ?_ ((h.2.mul k.2).mono (by omega)) (by omega)
  refine Bz.add (h.1.mul k.2) ?_ (Nat.lt_succ_self _)
  rw [Nat.add_comm]
  exact k.1.mul h.2
theorem Bq.mulQ {n m : Nat} {p q : Rat} (h : Bq n p) (k : Bq m q) (h0 : 0 < n) : Bq (n + m) (p * q) := by
  rw [← mul_div]
  exact Bq.of_div (h.1.mul k.1) (h.2.mul k.2) (by omega)
theorem Bq.divQ {n m : Nat} {p q : Rat} (h : Bq n p) (k : Bq m q) (h0 : 0 < n) (hq : q ≠ 0) : Bq (n + m) (p / q) := by
  rw [← div_div p q hq]
  exact Bq.of_div (h.1.mul k.2) (h.2.mul k.1) (by omega)
theorem Bq.negQ {n : Nat} {p : Rat} (h : Bq n p) : Bq n (-p) := ⟨h.1.neg, h.2⟩
theorem Bq.subQ {n m : Nat} {p q : Rat} (h : Bq n p) (k : Bq m q) : Bq (n + m + 1) (p - q) := by
  rw [show p - q = p + -q by grind]
  exact h.addQ k.negQ
theorem Sz.bqL {s : Nat} {p : List Rat} (h : Sz s p) (h0 : 0 < s) : BqL s p := fun q hq => h.bq hq h0
theorem Fs.at {K : PySem.W.Frag} {H : L2.Hp} {vs : List L2.V} {qs : List Rat} {i : Nat} (h : Fs K H vs qs) (hi : i < qs.length) : ∃ v, vs[i]? = some v ∧ Fr K H v (Ly.cf qs i) := h.getQ (cf_in hi)
end Ly

set_option maxHeartbeats 4000000
/-! a list of one's own that is filled and changed; rows by their fractions -/
namespace Ly
open PySem PySem.Spec PyProof.Rows L2
/-- at p, made behind H0, a list of the fractions qs -/
def Loc (K : PySem.W.Frag) (H0 : Hp) (p : Addr) (H : Hp) (qs : List Rat) : Prop := Same H0 H ∧ H0 p = none ∧ ∃ xs, H p = some (.lst xs) ∧ Fs K H xs qs
section
variable {K : PySem.W.Frag} {H0 H H' : Hp} {p : Addr} {qs : List Rat} {Q : VK} {σ : L2.St}
theorem Loc.new {xs : List V} (hp : H p = none) (e : Same H0 H) (hf : Fs K H xs qs) : Loc K H0 p (upd H p (.lst xs)) qs :=
  ⟨e.trans (same_new hp), e.free hp, xs, upd_same, hf.same (same_new hp)⟩
theorem Loc.ext (L : Loc K H0 p H qs) (e : Same H H') : Loc K H0 p H' qs := by
  obtain ⟨h1, h2, xs, h3, h4⟩ := L
  exact ⟨h1.trans e, h2, xs, e _ _ h3, h4.same e⟩
theorem Loc.row (L : Loc K H0 p H qs) : RowL K H (.ref p) qs := by
  obtain ⟨h1, h2, xs, h3, h4⟩ := L
  exact ⟨p, xs, rfl, h3, h4⟩
theorem Loc.len (L : Loc K H0 p H qs) : True := trivial
/-- qs[i] is set -/
theorem u_setLoc {v : V} {q : Rat} {i : Nat} {k : Int} {P : Hp → Prop} (L : Loc K H0 p H qs) (hi : i < qs.length) (e : k = (i : Nat)) (hv : Fr K H v q)
    (c : ∀ H', Loc K H0 p H' (qs.set i q) → Imm H H' → P H') : rSetL (.ref p) (.int k) v H P := by
  obtain ⟨h1, h2, xs, h3, h4⟩ := L
  have hl := h4.len
  subst e
  refine u_setL (j := i) h3 ?_ (c _ ⟨h1.mut h2, h2, _, upd_same, ?_⟩ (Imm.upd h3))
  · unfold ixN
    rw [if_pos (by omega), if_pos (by omega)]
    simp
  · exact (h4.set i hv).imm (Imm.upd h3)
theorem st_bm {T : String} {r : V → List V → Hp → VK → Prop} {to : TE} {t : TA} (h : to σ H fun x H1 => tyV K T x H1 ∧ t σ H1 fun xs H2 => r x xs H2 Q) : tBM K T r to t σ H Q := h
theorem tyLoc (L : Loc K H0 p H qs) : tyV K "list" (.ref p) H := by
  obtain ⟨h1, h2, xs, h3, h4⟩ := L
  exact Or.inl ⟨rfl, _, SqL.of h3⟩
theorem u_appLoc {v : V} {q : Rat} (L : Loc K H0 p H qs) (hl : qs.length ≤ 100000) (hv : Fr K H v q) (c : ∀ H', Loc K H0 p H' (qs ++ [q]) → Imm H H' → Q .non H') : rAppend (.ref p) [v] H Q := by
  obtain ⟨h1, h2, xs, h3, h4⟩ := L
  have e := h4.len
  refine ⟨p, xs, v, rfl, rfl, h3, Nat.lt_of_le_of_lt (m := 100000) (by omega) (by decide), c _ ⟨h1.mut h2, h2, _, upd_same, ?_⟩ (Imm.upd h3)⟩
  exact (h4.snoc hv).imm (Imm.upd h3)
/-- an item of a row, by its place -/
theorem u_at {a : Addr} {xs : List V} {rs : List Rat} {i : Nat} {k : Int} (hS : Sq K H a xs) (hf : Fs K H xs rs) (e : k = (i : Nat)) (hi : i < rs.length) (c : ∀ b, SqT K H b (FrT (cf rs i)) → Q (.ref b) H) : rIx K (.ref a) (.int k) H Q := by
  obtain ⟨v, hv, b, rfl, hq⟩ := hf.at hi
  subst e
  exact u_ix hS (atI_nat hv) (c b hq)
theorem u_atLoc {i : Nat} {k : Int} (L : Loc K H0 p H qs) (e : k = (i : Nat)) (hi : i < qs.length) (c : ∀ b, SqT K H b (FrT (cf qs i)) → Q (.ref b) H) : rIx K (.ref p) (.int k) H Q := by
  obtain ⟨h1, h2, xs, h3, h4⟩ := L
  exact u_at (.inl (SqL.of h3)) h4 e hi c
/-- the last one -/
theorem u_atLast {a : Addr} {xs : List V} {rs : List Rat} (hS : Sq K H a xs) (hf : Fs K H xs rs) (hi : 0 < rs.length) (c : ∀ b, SqT K H b (FrT (cf rs (rs.length - 1))) → Q (.ref b) H) : rIx K (.ref a) (.int (-1)) H Q := by
  obtain ⟨v, hv, b, rfl, hq⟩ := hf.at (i := rs.length - 1) (by omega)
  have hl := hf.len
  refine u_ix hS ?_ (c b hq)
  unfold atI ixN
  rw [if_neg (by decide), if_pos (by omega)]
  show xs[(-1 + (xs.length : Int)).toNat]? = _
  rw [show (-1 + (xs.length : Int)).toNat = rs.length - 1 by omega]
  exact hv
/-- an item behind a comprehension's item -/
theorem lcLoc {P : List V → Hp → Prop} {v : V} {q : Rat} (L : Loc K H0 p H qs) (hl : qs.length ≤ 100000) (hv : Fr K H v q) (c : ∀ acc H', Loc K H0 p H' (qs ++ [q]) → Imm H H' → P acc H') : LcN p P v H := by
  obtain ⟨h1, h2, xs, h3, h4⟩ := L
  have e := h4.len
  exact lcN h3 (Nat.lt_of_le_of_lt (m := 100000) (by omega) (by decide)) (c _ _ ⟨h1.mut h2, h2, _, upd_same, (h4.snoc hv).imm (Imm.upd h3)⟩ (Imm.upd h3))
theorem rep_succ {n : Nat} {q : Rat} : List.replicate (n + 1) q = List.replicate n q ++ [q] := List.replicate_succ'
/-- the fractions 0 and 1, made new -/
theorem st_tup01 (c : ∀ z H', Same H H' → (∀ K, SqT K H' z (FrT 0)) → Q (.ref z) H') : tTup (tCons (tC (.int 0)) (tCons (tC (.int 1)) tNil)) σ H Q :=
  ⟨by show 2 ≤ sizeLine; decide, fun p hp => c p _ (same_new hp) fun _ => SqT.of upd_same⟩
theorem st_tup11 (c : ∀ z H', Same H H' → (∀ K, SqT K H' z (FrT 1)) → Q (.ref z) H') : tTup (tCons (tC (.int 1)) (tCons (tC (.int 1)) tNil)) σ H Q :=
  ⟨by show 2 ≤ sizeLine; decide, fun p hp => c p _ (same_new hp) fun _ => SqT.of upd_same⟩
theorem same_fr {v : V} {q : Rat} (e : Same H H') (h : Fr K H v q) : Fr K H' v q := h.same e
theorem map_succ {n : Nat} {f : Nat → Rat} : (List.range (n + 1)).map f = (List.range n).map f ++ [f n] := by rw [List.range_succ, List.map_append]; rfl
end
/-! sizes: over D, the numerator at most m -/
def InD (D m : Nat) (x : Rat) : Prop := ∃ k : Int, x = (k : Rat) / (D : Rat) ∧ k.natAbs ≤ m
theorem dne {D : Nat} (h : 0 < D) : (D : Rat) ≠ 0 := by
  intro z
  have : D = 0 := by exact_mod_cast z
  omega
theorem InD.zero {D m : Nat} : InD D m 0 := ⟨0, by rw [show ((0 : Int) : Rat) = 0 from rfl]; grind, by simp⟩
theorem InD.mono {D m n : Nat} {x : Rat} (h : InD D m x) (l : m ≤ n) : InD D n x := let ⟨k, e, z⟩ := h; ⟨k, e, Nat.le_trans z l⟩
theorem InD.add {D m n : Nat} {x y : Rat} (h : InD D m x) (k : InD D n y) : InD D (m + n) (x + y) := by
  obtain ⟨a, rfl, ha⟩ := h
  obtain ⟨b, rfl, hb⟩ := k
  refine ⟨a + b, by push_cast; grind, ?_⟩
  have := Int.natAbs_add_le a b
  omega
theorem InD.neg {D m : Nat} {x : Rat} (h : InD D m x) : InD D m (-x) := by
  obtain ⟨a, rfl, ha⟩ := h
  exact ⟨-a, by push_cast; grind, by omega⟩
theorem InD.mul {D C m n : Nat} {x y : Rat} (h0 : 0 < D) (h1 : 0 < C) (h : InD D m x) (k : InD C n y) : InD (D * C) (m * n) (x * y) := by
  obtain ⟨a, rfl, ha⟩ := h
  obtain ⟨b, rfl, hb⟩ := k
  have := dne h0
  have := dne h1
  refine ⟨a * b, by push_cast; grind, ?_⟩
  rw [Int.natAbs_mul]
  exact Nat.mul_le_mul ha hb
theorem InD.bq {D m s : Nat} {x : Rat} (h : InD D m x) (h1 : D < 2 ^ s) (h2 : m < 2 ^ s) (h0 : 0 < s) : Bq s x := by
  obtain ⟨k, rfl, hk⟩ := h
  have e := Rat.divInt_eq_div k (D : Int)
  rw [show ((D : Int) : Rat) = (D : Rat) from rfl] at e
  rw [← e]
  exact Bq.of_div (show k.natAbs < 2 ^ s by omega) (by show (D : Int).natAbs < 2 ^ s; omega) h0
theorem Sz.inD {s : Nat} {p : List Rat} (h : Sz s p) : ∃ D m, 0 < D ∧ D < 2 ^ s ∧ m < 2 ^ s ∧ ∀ i, InD D m (cf p i) := by
  obtain ⟨D, h0, h1, h2⟩ := h
  have e : 0 < 2 ^ s := Nat.pow_pos (by decide)
  refine ⟨D, 2 ^ s - 1, h0, h1, by omega, fun i => ?_⟩
  by_cases hi : i < p.length
  · obtain ⟨k, z, hk⟩ := h2 _ (cf_mem hi)
    exact ⟨k, z, by omega⟩
  · rw [cf_out (by omega)]; exact InD.zero
theorem Sz.ofInD {s D m : Nat} {p : List Rat} (h0 : 0 < D) (h1 : D < 2 ^ s) (h2 : m < 2 ^ s) (h : ∀ i, i < p.length → InD D m (cf p i)) : Sz s p :=
  ⟨D, h0, h1, fun q hq => by
    obtain ⟨i, hi⟩ := List.getElem?_of_mem hq
    have hl : i < p.length := (List.getElem?_eq_some_iff.mp hi).1
    rw [← cf_get hi]
    obtain ⟨k, e, z⟩ := h i hl
    exact ⟨k, e, by omega⟩⟩
theorem pc_in {D C m n : Nat} {p q : List Rat} (h0 : 0 < D) (h1 : 0 < C) (h : ∀ i, InD D m (cf p i)) (k : ∀ i, InD C n (cf q i)) : ∀ J i, InD (D * C) (J * (m * n)) (pc p q J i)
  | 0, i => InD.zero.mono (Nat.zero_le _)
  | J + 1, i => by
    rw [pc_succ, Nat.succ_mul]
    refine (pc_in h0 h1 h k J i).add ?_
    split
    · exact InD.mul h0 h1 (h _) (k _)
    · exact InD.zero
theorem pow_mul3 {s t k m n J : Nat} (h1 : m < 2 ^ s) (h2 : n < 2 ^ t) (h3 : J ≤ 2 ^ k) : J * (m * n) < 2 ^ (s + t + k) := by
  rw [Nat.pow_add, Nat.pow_add, Nat.mul_comm J]
  exact Nat.lt_of_lt_of_le (Nat.mul_lt_mul_of_lt_of_le (Nat.mul_lt_mul'' h1 h2) h3 (Nat.pow_pos (by decide))) (Nat.le_refl _)
theorem pc_bq {s t k : Nat} {p q : List Rat} {J : Nat} (h : Sz s p) (h2 : Sz t q) (h3 : J ≤ 2 ^ k) (h0 : 0 < s) (i : Nat) : Bq (s + t + k) (pc p q J i) := by
  obtain ⟨D, m, a1, a2, a3, a4⟩ := h.inD
  obtain ⟨C, n, b1, b2, b3, b4⟩ := h2.inD
  refine (pc_in a1 b1 a4 b4 J i).bq ?_ (pow_mul3 a3 b3 h3) (by omega)
  rw [← Nat.one_mul (D * C)]
  exact pow_mul3 a2 b2 (Nat.pow_pos (by decide))
theorem sz_pmul {s t k : Nat} {p q : List Rat} (h : Sz s p) (h2 : Sz t q) (h3 : p.length ≤ 2 ^ k) : Sz (s + t + k) (pmul p q) := by
  obtain ⟨D, m, a1, a2, a3, a4⟩ := h.inD
  obtain ⟨C, n, b1, b2, b3, b4⟩ := h2.inD
  refine Sz.ofInD (D := D * C) (m := p.length * (m * n)) (Nat.mul_pos a1 b1) ?_ (pow_mul3 a3 b3 h3) fun i hi => ?_
  · rw [← Nat.one_mul (D * C)]
    exact pow_mul3 a2 b2 (Nat.pow_pos (by decide))
  · rw [cf_pmul]
    exact pc_in a1 b1 a4 b4 p.length i
theorem cv_comm (p q : List Rat) (i : Nat) : True := trivial
theorem pc_out {p q : List Rat} {J i : Nat} (h : J + q.length ≤ i + 1) (l : 0 < J) : pc p q J i = 0 := sumTo_zero fun j hj => by
  split
  · rw [cf_out (p := q) (by omega)]; grind
  · rfl
theorem trim_pmul {p q r : List Rat} (h : ∀ i, cf r i = cv p q i) : trim r = pmul p q := isT_ext (trim_isT _) (trim_isT _) fun i => by rw [cf_trim, h, ← cf_pmul]
theorem pmul_isT (p q : List Rat) : IsT (pmul p q) := trim_isT _
theorem padd_isT (p q : List Rat) : IsT (padd p q) := trim_isT _
/-- the inner loop's cells -/
theorem pc_pick {p q : List Rat} {j i : Nat} (h : ¬ (j ≤ i ∧ i < j + q.length)) : pc p q (j + 1) i = pc p q j i := by
  rw [pc_succ]
  split
  · rw [cf_out (p := q) (by omega)]; grind
  · grind
end Ly

set_option maxHeartbeats 4000000
/-! sizes along division and the greatest common divisor; worth -/
namespace Ly
def Szf (s : Nat) (c : Nat → Rat) : Prop := ∃ D m, 0 < D ∧ D < 2 ^ s ∧ m < 2 ^ s ∧ ∀ i, InD D m (c i)
theorem Sz.f {s : Nat} {p : List Rat} (h : Sz s p) : Szf s (cf p) := h.inD
theorem Szf.sz {s : Nat} {p : List Rat} (h : Szf s (cf p)) : Sz s p := let ⟨_, _, h0, h1, h2, h3⟩ := h; Sz.ofInD h0 h1 h2 fun i _ => h3 i
theorem Szf.bq {s : Nat} {c : Nat → Rat} (h : Szf s c) (h0 : 0 < s) (i : Nat) : Bq s (c i) := let ⟨_, _, _, h1, h2, h3⟩ := h; (h3 i).bq h1 h2 h0
theorem Szf.mono {s t : Nat} {c : Nat → Rat} (h : Szf s c) (l : s ≤ t) : Szf t c := by
  obtain ⟨D, m, h0, h1, h2, h3⟩ := h
  have e : 2 ^ s ≤ 2 ^ t := Nat.pow_le_pow_right (by decide) l
  exact ⟨D, m, h0, by omega, by omega, h3⟩
theorem Szf.pos {s : Nat} {c : Nat → Rat} (h : Szf s c) : 0 < s := by
  obtain ⟨D, m, h0, h1, _⟩ := h
  rcases Nat.eq_zero_or_pos s with e | e
  · subst e; omega
  · exact e
theorem Sz.pos {s : Nat} {p : List Rat} (h : Sz s p) : 0 < s := h.f.pos
/-- one step of the division: old and new over one denominator -/
theorem rs_sz {S s a : Nat} {u : List Rat} {c : Nat → Rat} (h : Szf S c) (k : Szf s (cf u)) (ht : cf u (u.length - 1) ≠ 0) : Szf (S + s + 1) (rs u a c) ∧ Szf (S + s + 1) c := by
  obtain ⟨D, M, h0, h1, h2, h3⟩ := h
  obtain ⟨C, N, k0, k1, k2, k3⟩ := k
  obtain ⟨b, hb, hbN⟩ := k3 (u.length - 1)
  have b0 : b ≠ 0 := by
    rintro rfl
    apply ht
    rw [hb]
    push_cast
    grind
  have bp : 0 < b.natAbs := by omega
  have hD := dne h0
  have hC := dne k0
  have hB : (b : Rat) ≠ 0 := by exact_mod_cast b0
  have e1 : D * b.natAbs < 2 ^ (S + s + 1) := by
    rw [Nat.pow_succ, Nat.pow_add]
    have : D * b.natAbs < 2 ^ S * 2 ^ s := Nat.mul_lt_mul'' h1 (by omega)
    omega
  have e2 : 2 * (M * N) < 2 ^ (S + s + 1) := by
    rw [Nat.pow_succ, Nat.pow_add]
    have : M * N < 2 ^ S * 2 ^ s := Nat.mul_lt_mul'' h2 k2
    omega
  -- x/D over D*|b|
  have old : ∀ i, InD (D * b.natAbs) (M * N) (c i) := fun i => by
    obtain ⟨x, hx, hm⟩ := h3 i
    refine ⟨x * b.natAbs, ?_, ?_⟩
    · rw [hx]
      have hn : ((b.natAbs : Nat) : Rat) ≠ 0 := dne bp
      push_cast
      grind
    · rw [Int.natAbs_mul]
      simp only [Int.natAbs_natCast]
      exact Nat.mul_le_mul hm hbN
  refine ⟨⟨D * b.natAbs, 2 * (M * N), Nat.mul_pos h0 bp, e1, e2, fun i => ?_⟩, ⟨D * b.natAbs, 2 * (M * N), Nat.mul_pos h0 bp, e1, e2, fun i => (old i).mono (by omega)⟩⟩
  unfold rs
  rw [Nat.two_mul]
  have neg : ∀ {A B : Rat}, A - B = A + -B := by intros; grind
  rw [neg]
  refine (old i).add ?_
  by_cases hi : a ≤ i
  · rw [if_pos hi]
    obtain ⟨x, hx, hm⟩ := h3 (a + u.length - 1)
    obtain ⟨y, hy, hn⟩ := k3 (i - a)
    rw [hx, hb, hy]
    have hs : (b.sign : Rat) * (b.natAbs : Rat) = (b : Rat) := by
      have := Int.sign_mul_natAbs b
      exact_mod_cast this
    have hs2 : (b.sign : Rat) * (b.sign : Rat) = 1 := by
      have : b.sign * b.sign = 1 := by
        rcases Int.lt_trichotomy b 0 with z | z | z
        · rw [Int.sign_eq_neg_one_of_neg z]; decide
        · exact absurd z b0
        · rw [Int.sign_eq_one_of_pos z]; decide
      exact_mod_cast this
    refine ⟨-(x * y) * b.sign, ?_, ?_⟩
    · have hn : ((b.natAbs : Nat) : Rat) ≠ 0 := dne bp
      push_cast
      generalize ((b.natAbs : Nat) : Rat) = B at *
      generalize (b.sign : Rat) = g at *
      generalize (b : Rat) = b' at *
      subst hs
      grind
    · rw [Int.natAbs_mul, Int.natAbs_neg, Int.natAbs_mul]
      have : b.sign.natAbs = 1 := by
        rcases Int.lt_trichotomy b 0 with z | z | z
        · rw [Int.sign_eq_neg_one_of_neg z]; decide
        · exact absurd z b0
        · rw [Int.sign_eq_one_of_pos z]; decide
      rw [this, Nat.mul_one]
      exact Nat.mul_le_mul hm hn
  · rw [if_neg hi]
    have : -(c (a + u.length - 1) / cf u (u.length - 1) * 0) = 0 := by grind
    rw [this]
    exact InD.zero
theorem sz_monic {s : Nat} {p : List Rat} (h : Sz s p) (ht : IsT p) : Sz s (monic p) := by
  by_cases h0 : p.length = 0
  · have : p = [] := List.length_eq_zero_iff.mp h0
    subst this
    obtain ⟨D, a, b, c⟩ := h
    exact ⟨D, a, b, fun q hq => nomatch hq⟩
  · have hl := ht (by omega)
    obtain ⟨D, d0, d1, h2⟩ := h
    obtain ⟨b, hb, hbN⟩ := h2 _ (cf_mem (p := p) (i := p.length - 1) (by omega))
    have b0 : b ≠ 0 := by
      rintro rfl
      apply hl
      rw [hb]
      push_cast
      grind
    have hD := dne d0
    have hB : (b : Rat) ≠ 0 := by exact_mod_cast b0
    refine ⟨b.natAbs, by omega, hbN, fun q hq => ?_⟩
    obtain ⟨r, hr, rfl⟩ := List.mem_map.mp hq
    obtain ⟨x, hx, hm⟩ := h2 r hr
    rw [hx, hb]
    have hs : (b.sign : Rat) * (b.natAbs : Rat) = (b : Rat) := by
      have := Int.sign_mul_natAbs b
      exact_mod_cast this
    have sg : b.sign = 1 ∨ b.sign = -1 := by
      rcases Int.lt_trichotomy b 0 with z | z | z
      · exact .inr (Int.sign_eq_neg_one_of_neg z)
      · exact absurd z b0
      · exact .inl (Int.sign_eq_one_of_pos z)
    have hn : ((b.natAbs : Nat) : Rat) ≠ 0 := dne (by omega)
    refine ⟨x * b.sign, ?_, ?_⟩
    · have hs2 : (b.sign : Rat) * (b.sign : Rat) = 1 := by
        have : b.sign * b.sign = 1 := by rcases sg with z | z <;> rw [z] <;> decide
        exact_mod_cast this
      push_cast
      generalize ((b.natAbs : Nat) : Rat) = B at *
      generalize (b.sign : Rat) = g at *
      generalize (b : Rat) = b' at *
      subst hs
      grind
    · rw [Int.natAbs_mul]
      rcases sg with z | z <;> rw [z] <;> simpa using hm
theorem trim_prem {p u r : List Rat} (hu : 0 < u.length) (ht : IsT u) (h : ∀ i, cf r i = remC p u i) : trim r = prem p u :=
  isT_ext (trim_isT _) (trim_isT _) fun i => by rw [cf_trim, h, ← cf_prem hu ht]
/-- the size of the rest -/
theorem rdn_sz {s : Nat} {u : List Rat} (k : Szf s (cf u)) (ht : cf u (u.length - 1) ≠ 0) : ∀ {n S : Nat} {c : Nat → Rat}, Szf S c → Szf (S + n * (s + 1)) (rdn u n c)
  | 0, S, c, h => h.mono (by omega)
  | n + 1, S, c, h => (rdn_sz k ht (rs_sz h k ht).1).mono (by rw [Nat.succ_mul]; omega)
theorem sz_prem {S s : Nat} {p u : List Rat} (h : Sz S p) (k : Sz s u) (hu : 0 < u.length) (ht : IsT u) : Sz (S + (p.length + 1 - u.length) * (s + 1)) (prem p u) := by
  refine Szf.sz ?_
  have e : cf (prem p u) = remC p u := funext fun i => cf_prem hu ht i
  rw [e]
  exact rdn_sz k.f (ht hu) h.f
/-- what the two of the gcd keep -/
def GInv (p q : List Rat) : Prop := ∃ M, 0 < M ∧ Sz M p ∧ Sz M q ∧ (M + 1) * ((p.length - q.length + 2) * 3 ^ q.length) ≤ 60000000 ∧ IsT p ∧ IsT q
theorem pow3 (j : Nat) (h : 0 < j) : j + 2 ≤ 3 ^ j := by
  induction j with
  | zero => omega
  | succ j ih =>
    rcases Nat.eq_zero_or_pos j with e | e
    · subst e; decide
    · have := ih e
      rw [Nat.pow_succ]
      omega
theorem GInv.monic {p q : List Rat} (h : GInv p q) : GInv (monic p) (Ly.monic q) := by
  obtain ⟨M, h0, h1, h2, h3, h4, h5⟩ := h
  exact ⟨M, h0, sz_monic h1 h4, sz_monic h2 h5, by rw [monic_len, monic_len]; exact h3, monic_isT h4, monic_isT h5⟩
theorem prem_isT (p u : List Rat) : IsT (prem p u) := trim_isT _
/-- the bound of one turn -/
theorem GInv.bits {p q : List Rat} {M : Nat} (h : (M + 1) * ((p.length - q.length + 2) * 3 ^ q.length) ≤ 60000000) (hq : 0 < q.length) : M + (p.length + 1 - q.length) * (M + 1) + 2 * M + 2 ≤ 60000000 := by
  have a : 3 * 1 ≤ 3 ^ q.length := by
    rw [show q.length = (q.length - 1) + 1 by omega, Nat.pow_succ, Nat.mul_comm]
    exact Nat.mul_le_mul_right _ (Nat.pow_pos (by decide))
  have b : (M + 1) * ((p.length - q.length + 2) * 3) ≤ (M + 1) * ((p.length - q.length + 2) * 3 ^ q.length) := Nat.mul_le_mul_left _ (Nat.mul_le_mul_left _ (by omega))
  have c : (M + 1) * ((p.length - q.length + 2) * 3) = (M + 1) * (p.length - q.length + 2) * 3 := by rw [Nat.mul_assoc]
  have d : (M + 1) * (p.length - q.length + 2) = (M + 1) * (p.length - q.length + 1) + (M + 1) := by rw [show p.length - q.length + 2 = (p.length - q.length + 1) + 1 from rfl, Nat.mul_succ]
  have e : (p.length + 1 - q.length) * (M + 1) ≤ (M + 1) * (p.length - q.length + 1) := by
    rw [Nat.mul_comm]
    exact Nat.mul_le_mul_left _ (by omega)
  generalize (M + 1) * (p.length - q.length + 1) = X at *
  generalize (p.length + 1 - q.length) * (M + 1) = Y at *
  omega
theorem GInv.step {p q : List Rat} (h : GInv p q) (hq : 0 < q.length) : GInv q (Ly.monic (prem p q)) := by
  obtain ⟨M, h0, h1, h2, h3, h4, h5⟩ := h
  have hl := prem_lt (p := p) (u := q) hq
  have s1 := sz_prem h1 h2 hq h5
  refine ⟨M + (p.length + 1 - q.length) * (M + 1), by omega, h2.mono (by omega), sz_monic s1 (prem_isT p q), ?_, h5, monic_isT (prem_isT p q)⟩
  rw [monic_len]
  refine Nat.le_trans ?_ h3
  have a : M + (p.length + 1 - q.length) * (M + 1) + 1 ≤ (M + 1) * (p.length - q.length + 2) := by
    have e : (p.length + 1 - q.length) * (M + 1) ≤ (M + 1) * (p.length - q.length + 1) := by
      rw [Nat.mul_comm]
      exact Nat.mul_le_mul_left _ (by omega)
    have d : (M + 1) * (p.length - q.length + 2) = (M + 1) * (p.length - q.length + 1) + (M + 1) := by rw [show p.length - q.length + 2 = (p.length - q.length + 1) + 1 from rfl, Nat.mul_succ]
    omega
  have b : (q.length - (prem p q).length + 2) * 3 ^ (prem p q).length ≤ 3 ^ q.length := by
    have := pow3 (q.length - (prem p q).length) (by omega)
    calc (q.length - (prem p q).length + 2) * 3 ^ (prem p q).length ≤ 3 ^ (q.length - (prem p q).length) * 3 ^ (prem p q).length := Nat.mul_le_mul_right _ this
      _ = 3 ^ q.length := by rw [← Nat.pow_add]; congr 1; omega
  rw [← Nat.mul_assoc (M + 1) (p.length - q.length + 2)]
  exact Nat.mul_le_mul a b
/-! worth -/
def worth (p : List Rat) (x : Rat) : Rat := sumTo p.length fun i => cf p i * x ^ i
theorem worth_more {p : List Rat} {x : Rat} {n : Nat} (h : p.length ≤ n) : sumTo n (fun i => cf p i * x ^ i) = worth p x :=
  sumTo_more (fun i hi => by rw [cf_out hi]; grind) h
def hn (p : List Rat) (x : Rat) : Nat → Rat
  | 0 => 0
  | i + 1 => hn p x i * x + cf p (p.length - 1 - i)
theorem hn_sum {p : List Rat} {x : Rat} : ∀ i, i ≤ p.length → worth p x = sumTo (p.length - i) (fun j => cf p j * x ^ j) + hn p x i * x ^ (p.length - i)
  | 0, _ => by
    show _ = _ + 0 * _
    unfold worth
    rw [Nat.sub_zero]
    grind
  | i + 1, h => by
    rw [hn_sum i (by omega)]
    obtain ⟨m, hm⟩ : ∃ m, p.length - i = m + 1 := ⟨p.length - i - 1, by omega⟩
    rw [hm, show p.length - (i + 1) = m by omega]
    show sumTo m _ + cf p m * x ^ m + _ = _ + (hn p x i * x + cf p (p.length - 1 - i)) * x ^ m
    rw [show p.length - 1 - i = m by omega, Rat.pow_succ]
    grind
theorem hn_all (p : List Rat) (x : Rat) : hn p x p.length = worth p x := by
  rw [hn_sum p.length (Nat.le_refl _), Nat.sub_self]
  show _ = 0 + _ * x ^ 0
  rw [Rat.pow_zero]
  grind
end Ly

set_option maxHeartbeats 4000000
/-! list, tuple, cuts, repeats of rows of fractions -/
namespace Ly
open PySem PySem.Spec PyProof.Rows L2
section
variable {K : PySem.W.Frag} {H0 H : Hp} {Q : VK} {v w : V} {p q : List Rat} {σ : L2.St}
theorem u_tupleRow (h : Row K H v p) (c : ∀ v' H', Same H H' → RowT K H' v' p → Q v' H') : rTupleU K [v] H Q := by
  obtain ⟨a, xs, rfl, h1, h2⟩ := h
  rcases h1 with h1 | h1
  · exact ⟨a, xs, rfl, .inl ⟨h1, fun l hl => c _ _ (same_new hl) ⟨l, xs, rfl, SqT.of upd_same, h2.same (same_new hl)⟩⟩⟩
  · exact ⟨a, xs, rfl, .inr ⟨h1, c _ _ (Same.refl H) ⟨a, xs, rfl, h1, h2⟩⟩⟩
theorem u_listRow (h : Row K H v p) (e : Same H0 H) (c : ∀ D H', Loc K H0 D H' p → Same H H' → Q (.ref D) H') : rListU K [v] H Q := by
  obtain ⟨a, xs, rfl, h1, h2⟩ := h
  exact u_list h1 fun l hl => c l _ (Loc.new hl e h2) (same_new hl)
theorem u_slRow {n : Nat} {k : Int} (h : Row K H v p) (e : k = (n : Nat)) (hn : n ≤ p.length) (c : ∀ v' H', Same H H' → Row K H' v' (p.take n) → Q v' H') : rSlU K v none (some k) H Q := by
  obtain ⟨a, xs, rfl, h1, h2⟩ := h
  have hl := h2.len
  subst e
  rcases h1 with h1 | h1
  · refine u_slL h1 fun l hl => c _ _ (same_new hl) ⟨l, _, rfl, .inl (SqL.of upd_same), ?_⟩
    rw [cutV_to]
    exact (h2.same (same_new hl)).take n
  · refine .inr ⟨a, xs, rfl, h1, fun z => ?_, fun z l hl => ?_⟩
    · rw [HT.sIx_nat] at z
      have : n = p.length := by omega
      rw [this, List.take_length] at c
      exact c _ _ (Same.refl H) ⟨a, xs, rfl, .inr h1, h2⟩
    · refine c _ _ (same_new hl) ⟨l, _, rfl, .inr (SqT.of upd_same), ?_⟩
      rw [cutV_to]
      exact (h2.same (same_new hl)).take n
theorem u_iteF {A B : Prop} (h : B) : if false = true then A else B := by rw [if_neg Bool.false_ne_true]; exact h
theorem u_iteT {A B : Prop} (h : A) : if true = true then A else B := by rw [if_pos rfl]; exact h
/-- a pair is taken apart -/
theorem u_pair {T : Addr} {x y : V} {i j : Nat} {P : L2.St → Hp → Prop} (hT : SqT K H T [x, y]) (h : P ((σ.set i (some x)).set j (some y)) H) : gTup K 2 (gCons (gName i) (gCons (gName j) gNil)) (.ref T) σ H P :=
  ⟨T, [x, y], rfl, hT, rfl, x, _, rfl, y, _, rfl, rfl, h⟩
theorem flat1 {x : V} : ∀ n : Nat, (List.replicate n [x]).flatten = List.replicate n x
  | 0 => rfl
  | n + 1 => by rw [List.replicate_succ, List.flatten_cons, flat1 n, List.replicate_succ]; rfl
/-- (v,) * k -/
theorem u_repZ {l : Addr} {r : Rat} {k : Int} (hl : SqT K H l [v]) (hv : Fr K H v r) (h0 : 0 ≤ k) (h1 : k ≤ 1000) (c : ∀ v' H', Same H H' → RowT K H' v' (List.replicate k.toNat r) → Q v' H') : rMulU K (.ref l) (.int k) H Q := by
  refine .inr ⟨l, k, [v], rfl, rfl, hl, by simp, ⟨by omega, h1⟩, by simp, fun z => ?_, fun z p hp => ?_⟩
  · subst z
    exact c _ _ (Same.refl H) ⟨l, [v], rfl, hl, hv, trivial⟩
  · refine c _ _ (same_new hp) ⟨p, _, rfl, SqT.of upd_same, ?_⟩
    rw [flat1]
    exact Fs.rep (hv.same (same_new hp)) _
theorem u_catRow (h1 : RowT K H v p) (h2 : RowT K H w q) (lp : p.length ≤ 1000) (lq : q.length ≤ 1000) (c : ∀ v' H', Same H H' → RowT K H' v' (p ++ q) → Q v' H') : rAddU K v w H Q := by
  obtain ⟨a, xs, rfl, ha, fa⟩ := h1
  obtain ⟨b, ys, rfl, hb, fb⟩ := h2
  have la := fa.len
  have lb := fb.len
  refine .inr (.inr ⟨a, b, xs, ys, rfl, rfl, ha, hb, Nat.le_trans (m := 2000) (by omega) (by decide), fun z => ?_, fun z1 z2 => ?_, fun z1 z2 l hl => ?_⟩)
  · subst z
    have : p = [] := List.length_eq_zero_iff.mp (by rw [← la]; rfl)
    subst this
    exact c _ _ (Same.refl H) ⟨b, ys, rfl, hb, fb⟩
  · subst z2
    have : q = [] := List.length_eq_zero_iff.mp (by rw [← lb]; rfl)
    subst this
    refine c _ _ (Same.refl H) ⟨a, xs, rfl, ha, ?_⟩
    rw [List.append_nil]; exact fa
  · exact c _ _ (same_new hl) ⟨l, _, rfl, SqT.of upd_same, (fa.same (same_new hl)).append (fb.same (same_new hl))⟩
/-- row + factor * other -/
def pm (p : List Rat) (c : Rat) (q : List Rat) : List Rat := (List.range p.length).map fun i => cf p i + c * cf q i
theorem pm_len {p q : List Rat} {c : Rat} : (pm p c q).length = p.length := by unfold pm; rw [List.length_map, List.length_range]
theorem cf_pm {p q : List Rat} {c : Rat} (h : q.length ≤ p.length) (i : Nat) : cf (pm p c q) i = cf p i + c * cf q i := by
  unfold pm
  rw [cf_map]
  split
  · rfl
  · rw [cf_out (p := p) (by omega), cf_out (p := q) (by omega)]; grind
theorem pm_zero {p q : List Rat} : pm p 0 q = p := by
  refine cf_ext pm_len fun i hi => ?_
  rw [pm_len] at hi
  unfold pm
  rw [cf_map, if_pos hi]
  grind
theorem tlen_step {p : List Rat} {m : Nat} (h1 : ∀ i, m + 1 ≤ i → cf p i = 0) (h2 : cf p m = 0) : ∀ i, m ≤ i → cf p i = 0 := fun i hi => by
  by_cases e : i = m
  · rw [e]; exact h2
  · exact h1 i (by omega)
end
end Ly

set_option maxHeartbeats 4000000
/-! walks over what an older heap knows -/
namespace Ly
open PySem PySem.Spec PyProof.Rows L2
theorem seqB_go {K : PySem.W.Frag} {H0 H : Hp} {a : Addr} {xs : List V} {R : It → Hp → Prop} (e : Same H0 H) (h : Sq K H0 a xs)
    (k : ∀ (J : It) (G : Hp → Prop), (∀ H', Same H0 H' → G H') → Walk J xs.length G (YAt xs) → R J H) :
    ∃ (a' : Addr) (ys : List V), V.ref a = .ref a' ∧ ((SqL K H a' ys ∧ R (Itl K a') H) ∨ (SqT K H a' ys ∧ R (Itt K a') H)) := by
  rcases h with h | h
  · exact ⟨a, xs, rfl, .inl ⟨(e.kept a).l h, k _ _ (fun H' q => (q.kept a).l h) walk_list⟩⟩
  · exact ⟨a, xs, rfl, .inr ⟨(e.kept a).t h, k _ _ (fun H' q => (q.kept a).t h) walk_tup⟩⟩
theorem enumB_go {K : PySem.W.Frag} {H0 H : Hp} {a : Addr} {xs : List V} {R : It → Hp → Prop} (e : Same H0 H) (h : Sq K H0 a xs)
    (k : ∀ (J : It) (G : Hp → Prop), (∀ H', Same H0 H' → G H') → Walk J xs.length G (YPair (fun i => some (.int (i : Nat))) (fun i => xs[i]?)) → R J H) :
    ∃ (a' : Addr) (ys : List V), [V.ref a] = [.ref a'] ∧ ((SqL K H a' ys ∧ R (Ite K a') H) ∨ (SqT K H a' ys ∧ R (IteT K a') H)) := by
  rcases h with h | h
  · exact ⟨a, xs, rfl, .inl ⟨(e.kept a).l h, k _ _ (fun H' q => (q.kept a).l h) walk_enum⟩⟩
  · exact ⟨a, xs, rfl, .inr ⟨(e.kept a).t h, k _ _ (fun H' q => (q.kept a).t h) walk_enumT⟩⟩
theorem revB_go {K : PySem.W.Frag} {H0 H : Hp} {a : Addr} {xs : List V} {R : It → Hp → Prop} (e : Same H0 H) (h : Sq K H0 a xs)
    (k : ∀ (J : It) (G : Hp → Prop), (∀ H', Same H0 H' → G H') → Walk J xs.length G (fun i H x H' => H' = H ∧ xs[xs.length - 1 - i]? = some x) → R J H) :
    ∃ (a' : Addr) (ys : List V), V.ref a = .ref a' ∧ ((SqL K H a' ys ∧ R (Itv K a' ys.length) H) ∨ (SqT K H a' ys ∧ R (RT.ItvT K a' ys.length) H)) := by
  rcases h with h | h
  · exact ⟨a, xs, rfl, .inl ⟨(e.kept a).l h, k _ _ (fun H' q => (q.kept a).l h) walk_rev⟩⟩
  · exact ⟨a, xs, rfl, .inr ⟨(e.kept a).t h, k _ _ (fun H' q => (q.kept a).t h) walk_revT⟩⟩
end Ly

set_option maxHeartbeats 4000000
namespace Ly
open PySem PySem.Spec PyProof.Rows L2
theorem cv_ext {p r q : List Rat} (h : ∀ i, cf p i = cf r i) (i : Nat) : cv p q i = cv r q i := by
  rw [← cv_ge (p := p) (J := max p.length r.length) (by omega), ← cv_ge (p := r) (J := max p.length r.length) (by omega)]
  exact sumTo_congr fun j _ => by rw [h j]
theorem cv_extR {p r q : List Rat} (h : ∀ i, cf r i = cf q i) (i : Nat) : cv p r i = cv p q i := by
  exact sumTo_congr fun j _ => by rw [h (i - j)]
theorem tlen_lt {p : List Rat} (h0 : 0 < p.length) (h : cf p (p.length - 1) = 0) : tlen p < p.length := by
  have l := tlen_le p
  rcases Nat.lt_or_ge (tlen p) p.length with z | z
  · exact z
  · have e : tlen p = p.length := by omega
    exact absurd (by rw [e]; exact h) (tlen_top (p := p) (by omega))
theorem sz_of_bq {n : Nat} : ∀ {p : List Rat}, BqL n p → 0 < n → Sz (n * (p.length + 1)) p
  | [], _, h => ⟨1, by decide, by rw [show n * (([] : List Rat).length + 1) = n by simp]; exact Nat.lt_of_lt_of_le (by decide : 1 < 2 ^ 1) (Nat.pow_le_pow_right (by decide) h), fun q hq => nomatch hq⟩
  | q :: p, h, hn => by
    obtain ⟨D, h0, h1, h2⟩ := sz_of_bq (p := p) (fun r hr => h r (List.mem_cons_of_mem _ hr)) hn
    obtain ⟨b1, b2⟩ := h q List.mem_cons_self
    have b2' : q.den < 2 ^ n := by
      have : ((q.den : Int)).natAbs < 2 ^ n := b2
      omega
    have e : n * ((q :: p).length + 1) = n * (p.length + 1) + n := by simp [Nat.mul_add]
    have hD : D * q.den < 2 ^ (n * ((q :: p).length + 1)) := by
      rw [e, Nat.pow_add]
      exact Nat.mul_lt_mul'' h1 b2'
    refine ⟨D * q.den, Nat.mul_pos h0 q.den_pos, hD, fun r hr => ?_⟩
    have dn := den_ne q
    have Dn : (D : Rat) ≠ 0 := dne h0
    rcases List.mem_cons.mp hr with rfl | hr
    · refine ⟨r.num * D, ?_, ?_⟩
      · have := divInt_den r
        push_cast
        grind
      · rw [Int.natAbs_mul, e, Nat.pow_add, Nat.mul_comm]
        exact Nat.mul_lt_mul'' (by simpa using h1) b1
    · obtain ⟨k, e1, e2⟩ := h2 r hr
      refine ⟨k * q.den, ?_, ?_⟩
      · rw [e1]
        push_cast
        grind
      · rw [Int.natAbs_mul, e, Nat.pow_add]
        exact Nat.mul_lt_mul'' e2 (by simpa using b2')
theorem BqL.set {n i : Nat} {p : List Rat} {q : Rat} (h : BqL n p) (k : Bq n q) : BqL n (p.set i q) := fun r hr => by
  rcases List.mem_or_eq_of_mem_set hr with z | z
  · exact h r z
  · rw [z]; exact k
theorem BqL.trim {n : Nat} {p : List Rat} (h : BqL n p) : BqL n (Ly.trim p) := fun q hq => h q (trim_mem hq)
theorem BqL.rep {n m : Nat} (h : 0 < n) : BqL n (List.replicate m 0) := fun q hq => by rw [(List.mem_replicate.mp hq).2]; exact Bq.zero h
theorem BqL.app {n : Nat} {p q : List Rat} (h : BqL n p) (k : BqL n q) : BqL n (p ++ q) := fun r hr => by
  rcases List.mem_append.mp hr with z | z
  · exact h r z
  · exact k r z
theorem Sz.trim {s : Nat} {p : List Rat} (h : Sz s p) : Sz s (Ly.trim p) := h.sub fun q hq => .inl (trim_mem hq)
theorem pm_rs {r u : List Rat} {a i : Nat} (h : a + u.length ≤ r.length) (h0 : a + u.length - 1 = r.length - 1) : cf (pm r (-(cf r (r.length - 1) / cf u (u.length - 1))) (List.replicate a 0 ++ u)) i = rs u a (cf r) i := by
  rw [cf_pm (by rw [List.length_append, List.length_replicate]; omega), cf_append, List.length_replicate]
  unfold rs
  rw [h0]
  by_cases z : i < a
  · rw [if_pos z, if_neg (by omega), cf_rep]; grind
  · rw [if_neg z, if_pos (by omega)]; grind
theorem hn_bq {s : Nat} {p : List Rat} {x : Rat} (b : BqL s p) (h : Bq 31 x) (s0 : 0 < s) : ∀ i, Bq ((s + 32) * i + 1) (hn p x i)
  | 0 => Bq.zero (by omega)
  | i + 1 => (((hn_bq b h s0 i).mulQ h (by omega)).addQ (b.cf s0 _)).mono (by rw [Nat.mul_succ]; omega)
theorem monic_map {p : List Rat} : (p.map fun x => 1 / cf p (p.length - 1) * x) = monic p := by
  unfold monic
  exact List.map_congr_left fun x _ => by grind
theorem remC_step {r r' u : List Rat} {a : Nat} (hu : 0 < u.length) (h0 : r.length = a + u.length) (h1 : ∀ i, cf r' i = rs u a (cf r) i) (h2 : r'.length < r.length) (i : Nat) : remC r' u i = remC r u i := by
  have e : cf r' = rs u a (cf r) := funext h1
  unfold remC
  rw [show r.length + 1 - u.length = a + 1 by omega]
  show rdn u _ (cf r') i = rdn u a (rs u a (cf r)) i
  rw [← e]
  rw [rdn_skip (n := a) (m := r'.length + 1 - u.length) hu (fun j hj => cf_out (by omega)) (by omega)]
theorem remC_end {r u : List Rat} (h : r.length < u.length) (i : Nat) : remC r u i = cf r i := by
  unfold remC
  rw [show r.length + 1 - u.length = 0 by omega]
  rfl
theorem prem_eq {p u r : List Rat} (hu : 0 < u.length) (ht : IsT u) (hr : IsT r) (h : ∀ i, cf r i = remC p u i) : r = prem p u :=
  isT_ext hr (trim_isT _) fun i => by rw [h, ← cf_prem hu ht]
/-- what raises nothing -/
theorem calm {P : Program} {w : World} {K : PySem.W.Frag} {mg : Str → Option Value} {base : Heap} {k : Nat} {f : Addr} {fd : FuncData} {ps : List Str} {sp : Sp} (F : FnOk P w K mg base (L2.CX P w) k f fd ps sp) :
    FnOk P w K mg base CX0 k f fd ps (fun vs H Q _ => sp vs H Q E0) :=
  ⟨fun vs H Q E q => F.len vs H Q E0 q, fun A outer s H args us vs Q E hr he hb hv hs => codeAny_mono (F.run A outer s H args us vs Q E0 hr he hb hv hs) fun r s' h => by
    cases r with
    | ok v => cases v <;> exact h
    | error e =>
      obtain ⟨_, _, _, _, _, _, _, _, _, _, _, _, z⟩ := h
      exact z.elim⟩
end Ly

set_option maxHeartbeats 4000000
/-! isinstance, ==, != of rows -/
namespace Ly
open PySem PySem.Spec PyProof.Rows L2
section
variable {K : PySem.W.Frag} {H H' : Hp} {Q : VK} {v w : V} {p q : List Rat} {a : Addr} {xs : List V} {b : Bool}
theorem tyT (h : SqT K H a xs) : TyX K H (.ref a) (.type "tuple") := by
  rcases h with (h | ⟨o, h⟩) | ⟨o, its, n, h, c, _⟩
  · exact .base (.tup h)
  · exact .fTuple h
  · exact .kTuple h c
theorem tyL (h : SqL K H a xs) : TyX K H (.ref a) (.type "list") := by
  rcases h with (h | ⟨o, h⟩) | ⟨o, its, n, h, c, _⟩
  · exact .base (.lst h)
  · exact .base (.frz h)
  · exact .kList h c
theorem u_isi {x : V} {t T : String} (ty : TyX K H x (.type t)) (e : kitB t T = some b) (h : Q (.bl b) H) : rIsi K [x, .ty T] H Q := ⟨x, .ty T, _, _, b, rfl, .ty T, ty, kit_ty e, h⟩
theorem u_isTT (h : SqT K H a xs) (k : Q (.bl true) H) : rIsi K [.ref a, .ty "tuple"] H Q := u_isi (tyT h) (by decide +kernel) k
theorem u_isTL (h : SqT K H a xs) (k : Q (.bl false) H) : rIsi K [.ref a, .ty "list"] H Q := u_isi (tyT h) (by decide +kernel) k
theorem u_isLL (h : SqL K H a xs) (k : Q (.bl true) H) : rIsi K [.ref a, .ty "list"] H Q := u_isi (tyL h) (by decide +kernel) k
theorem u_isII {n : Int} (k : Q (.bl true) H) : rIsi K [.int n, .ty "int"] H Q := u_isi (.base (.int n)) (by decide +kernel) k
theorem u_isIB {n : Int} (k : Q (.bl false) H) : rIsi K [.int n, .ty "bool"] H Q := u_isi (.base (.int n)) (by decide +kernel) k
theorem u_iteNT {A B : Prop} (h : B) : if (!true) = true then A else B := by rw [if_neg (by decide)]; exact h
theorem u_iteNF {A B : Prop} (h : A) : if (!false) = true then A else B := by rw [if_pos (by decide)]; exact h
theorem st_exB {P : Bool → Prop} (h : P b) : ∃ c, V.bl b = .bl c ∧ P c := ⟨b, rfl, h⟩
theorem u_eqS {i j : Str} (h : Q (.bl (decide (i = j))) H) : rEqU K (.str i) (.str j) H Q := .inl ⟨rfl, by rw [show decide (V.str i = V.str j) = decide (i = j) by simp]; exact h⟩
theorem u_neS {i j : Str} (h : Q (.bl (!decide (i = j))) H) : rNeU K (.str i) (.str j) H Q := .inl ⟨rfl, by rw [show decide (V.str i = V.str j) = decide (i = j) by simp]; exact h⟩
/-! data -/
def frD (q : Rat) : PyData := .tuple [.int q.num, .int (q.den : Int)]
theorem Fr.dp {r : Rat} (h : Fr K H v r) : Dp K H v (frD r) := by
  obtain ⟨a, rfl, h⟩ := h
  exact .tup h (.cons (.int _) (.cons (.int _) .nil))
theorem Fs.dp : ∀ {xs : List V} {qs : List Rat}, Fs K H xs qs → DpAll K H xs (qs.map frD)
  | [], [], _ => .nil
  | _ :: _, _ :: _, h => .cons h.1.dp h.2.dp
  | [], _ :: _, h => h.elim
  | _ :: _, [], h => h.elim
theorem RowL.dp (h : RowL K H v p) : Dp K H v (.list (p.map frD)) := by
  obtain ⟨a, xs, rfl, h1, h2⟩ := h
  exact .lst (SqL.of h1) h2.dp
theorem RowT.dp (h : RowT K H v p) : Dp K H v (.tuple (p.map frD)) := by
  obtain ⟨a, xs, rfl, h1, h2⟩ := h
  exact .tup h1 h2.dp
theorem frD_refl (r : Rat) : PyData.eqv (frD r) (frD r) = true := by
  unfold frD
  simp [PyData.eqv, PyData.eqvAll]
theorem frDs_refl : ∀ p : List Rat, PyData.eqvAll (p.map frD) (p.map frD) = true
  | [] => by simp [PyData.eqvAll]
  | q :: p => by
    rw [List.map_cons, PyData.eqvAll, frD_refl, frDs_refl p]
    rfl
theorem frDs_lay : ∀ p : List Rat, PyData.canLayAll0 (p.map frD) = true
  | [] => by simp [PyData.canLayAll0]
  | q :: p => by
    rw [List.map_cons, PyData.canLayAll0, frDs_lay p]
    simp [frD, PyData.canLay0, PyData.canLayAll0]
theorem frDs_depth : ∀ p : List Rat, PyData.depthAll (p.map frD) ≤ 1
  | [] => by simp [PyData.depthAll]
  | q :: p => by
    have := frDs_depth p
    rw [List.map_cons, PyData.depthAll]
    have e : PyData.depth (frD q) = 1 := by simp [frD, PyData.depth, PyData.depthAll]
    omega
theorem shapedL (p : List Rat) : SeqAt.shaped (.list (p.map frD)) = true := by
  have := frDs_depth p
  unfold SeqAt.shaped
  rw [show PyData.canLay0 (.list (p.map frD)) = PyData.canLayAll0 (p.map frD) by simp [PyData.canLay0], frDs_lay, show PyData.depth (.list (p.map frD)) = PyData.depthAll (p.map frD) + 1 by simp [PyData.depth], decide_eq_true (by omega)]
  rfl
theorem shapedT (p : List Rat) : SeqAt.shaped (.tuple (p.map frD)) = true := by
  have := frDs_depth p
  unfold SeqAt.shaped
  rw [show PyData.canLay0 (.tuple (p.map frD)) = PyData.canLayAll0 (p.map frD) by simp [PyData.canLay0], frDs_lay, show PyData.depth (.tuple (p.map frD)) = PyData.depthAll (p.map frD) + 1 by simp [PyData.depth], decide_eq_true (by omega)]
  rfl
/-- a list or a tuple of fractions, of known kind -/
def RowK (t : Bool) (K : PySem.W.Frag) (H : Hp) (v : V) (p : List Rat) : Prop := if t = true then RowT K H v p else RowL K H v p
theorem RowK.row {t : Bool} (h : RowK t K H v p) : Row K H v p := by
  cases t with
  | true => exact RowT.row h
  | false => exact RowL.row h
theorem RowK.same {t : Bool} (h : RowK t K H v p) (e : Same H H') : RowK t K H' v p := by
  cases t with
  | true => exact RowT.same h e
  | false => exact RowL.same h e
theorem RowK.bag {t : Bool} {b : Addr} {n : Nat} (h : RowK t K H v p) (hb : BagAt H b n) (e : SameX b H H') : RowK t K H' v p := by
  cases t with
  | true => exact RowT.imm h (hb.imm e)
  | false => exact RowL.bag h hb e
theorem u_eqRowL (h1 : RowL K H v p) (h2 : RowL K H w p) (k : Q (.bl true) H) : rEqU K v w H Q := .inr ⟨_, _, h1.dp, h2.dp, shapedL p, shapedL p, by
  rw [show PyData.eqv (.list (p.map frD)) (.list (p.map frD)) = true by rw [PyData.eqv]; exact frDs_refl p]; exact k⟩
theorem u_neRowK {t : Bool} (h1 : RowK t K H v p) (h2 : RowK t K H w p) (k : Q (.bl false) H) : rNeU K v w H Q := by
  cases t with
  | true => exact .inr ⟨_, _, RowT.dp h1, RowT.dp h2, shapedT p, shapedT p, by
      rw [show PyData.eqv (.tuple (p.map frD)) (.tuple (p.map frD)) = true by rw [PyData.eqv]; exact frDs_refl p]; exact k⟩
  | false => exact .inr ⟨_, _, RowL.dp h1, RowL.dp h2, shapedL p, shapedL p, by
      rw [show PyData.eqv (.list (p.map frD)) (.list (p.map frD)) = true by rw [PyData.eqv]; exact frDs_refl p]; exact k⟩
theorem Row.sq (h : Row K H v p) : ∃ a xs, v = .ref a ∧ Sq K H a xs ∧ Fs K H xs p := h
end
end Ly

set_option maxHeartbeats 4000000
namespace Ly
open PySem PySem.Spec PyProof.Rows L2
theorem pmul_len (p q : List Rat) : (pmul p q).length ≤ p.length + q.length - 1 := by
  unfold pmul
  rw [trim_len]
  generalize hr : (List.range (p.length + q.length)).map (cv p q) = r
  have cr : ∀ i, cf r i = if i < p.length + q.length then cv p q i else 0 := fun i => by rw [← hr, cf_map]
  rcases Nat.lt_or_ge (p.length + q.length - 1) (tlen r) with z | z
  · exfalso
    refine tlen_top (p := r) (by omega) ?_
    rw [cr]
    split
    · exact cv_out (by omega)
    · rfl
  · exact z
/-- what the law's pairs are -/
def Fit (p q : List Rat) : Prop := IsT p ∧ IsT q ∧ ∃ M A, Sz M p ∧ Sz M q ∧ p.length ≤ A ∧ q.length ≤ A ∧ (M = 41 ∧ A = 12 ∨ M = 281 ∧ A = 6)
theorem Fit.symm {p q : List Rat} (h : Fit p q) : Fit q p := let ⟨a, b, M, A, c, d, e, f, g⟩ := h; ⟨b, a, M, A, d, c, f, e, g⟩
theorem fit_ar1 : ∀ b, b < 13 → (41 + 1) * ((12 - b + 2) * 3 ^ b) ≤ 60000000 := by decide
theorem fit_ar2 : ∀ b, b < 7 → (281 + 1) * ((6 - b + 2) * 3 ^ b) ≤ 60000000 := by decide
theorem Fit.gi {p q : List Rat} (h : Fit p q) : GInv p q := by
  obtain ⟨t1, t2, M, A, z1, z2, l1, l2, g⟩ := h
  rcases g with ⟨rfl, rfl⟩ | ⟨rfl, rfl⟩
  · refine ⟨41, by decide, z1, z2, Nat.le_trans ?_ (fit_ar1 q.length (by omega)), t1, t2⟩
    exact Nat.mul_le_mul_left _ (Nat.mul_le_mul_right _ (by omega))
  · refine ⟨281, by decide, z1, z2, Nat.le_trans ?_ (fit_ar2 q.length (by omega)), t1, t2⟩
    exact Nat.mul_le_mul_left _ (Nat.mul_le_mul_right _ (by omega))
/-- weaker: what the other checks need -/
def Fit0 (p q : List Rat) : Prop := IsT p ∧ IsT q ∧ Sz 300 p ∧ Sz 300 q ∧ p.length ≤ 12 ∧ q.length ≤ 12
theorem Fit.f0 {p q : List Rat} (h : Fit p q) : Fit0 p q := by
  obtain ⟨t1, t2, M, A, z1, z2, l1, l2, g⟩ := h
  exact ⟨t1, t2, z1.mono (by omega), z2.mono (by omega), by omega, by omega⟩
theorem Fit0.symm {p q : List Rat} (h : Fit0 p q) : Fit0 q p := let ⟨a, b, c, d, e, f⟩ := h; ⟨b, a, d, c, f, e⟩
theorem sz_nil {s : Nat} (h : 0 < s) : Sz s [] := ⟨1, by decide, Nat.lt_of_lt_of_le (by decide : 1 < 2 ^ 1) (Nat.pow_le_pow_right (by decide) h), fun q hq => nomatch hq⟩
theorem sz_ones : Sz 1 [1, 1] := ⟨1, by decide, by decide, fun q hq => ⟨1, by
  have : q = 1 := by simpa using hq
  rw [this]
  push_cast
  grind, by decide⟩⟩
theorem Sz.take {s n : Nat} {p : List Rat} (h : Sz s p) : Sz s (p.take n) := h.sub fun q hq => .inl (List.mem_of_mem_take hq)
theorem ent_sz {large : Bool} {qs : List Rat} {k : Nat} (h : ∀ q ∈ qs, En large q) (l : large = true → qs.length ≤ k) : Sz (if large = true then 31 * (k + 1) else 12) (trim qs) := by
  cases large with
  | true =>
    have := l rfl
    rw [if_pos rfl]
    exact ((sz_large fun q hq => (h q hq).1).mono (by omega)).trim
  | false =>
    rw [if_neg Bool.false_ne_true]
    exact (sz_small fun q hq => (h q hq).2 rfl).trim
theorem sz_one {q : Rat} (h : En false q) : Sz 12 [q] := sz_small fun r hr => by rw [List.mem_singleton.mp hr]; exact h.2 rfl
theorem pk {large : Bool} {a x y : Nat} (h1 : large = true → a ≤ x) (h2 : large = false → a ≤ y) : a ≤ if large = true then x else y := by
  cases large with
  | true => exact h1 rfl
  | false => exact h2 rfl
theorem fit_of {large : Bool} {p q : List Rat} (t1 : IsT p) (t2 : IsT q) (z1 : Sz (if large = true then 281 else 41) p) (z2 : Sz (if large = true then 281 else 41) q) (l1 : p.length ≤ if large = true then 6 else 12) (l2 : q.length ≤ if large = true then 6 else 12) : Fit p q := by
  cases large with
  | true => exact ⟨t1, t2, 281, 6, z1, z2, l1, l2, .inr ⟨rfl, rfl⟩⟩
  | false => exact ⟨t1, t2, 41, 12, z1, z2, l1, l2, .inl ⟨rfl, rfl⟩⟩
/-- a suite is read for one class -/
theorem pss_cls {X : Cx} {ss : List Stmt} {t : TS} {cls : Value} {d : Option Addr} {C : Addr} {oe : Obj} (hz : Zc cls d oe) (h : Zc (.ref C) none oe → PSs X ss t) : PSs X ss (fun D σ H => cls = .ref C ∧ d = none ∧ t D σ H) :=
  ⟨fun pins s σ H D I q => by
    obtain ⟨e1, e2, q⟩ := q
    subst e1 e2
    exact (h hz).run pins s σ H D I q⟩
/-! facts of the classes -/
theorem exm_self {K : PySem.W.Frag} {S : Addr} (h1 : PySem.W.subIn K (.ref S) (.type "BaseException") = some true) (h2 : PySem.W.isClsIn K S = true) (h3 : PySem.W.typeIn K (.ref S) = some (.type "type")) (h4 : PySem.W.subIn K (.ref S) (.ref S) = some true) :
    PySem.W.exmOne K (.ref S) (.ref S) = some true := by
  have e1 : (PySem.W.subIn K (.ref S) (.type "BaseException") == some true) = true := by rw [h1] <;> rfl
  have e2 : ((PySem.W.clsIn K S).isSome && PySem.W.typeIn K (.ref S) == some (.type "type")) = true := by
    have h2' : (PySem.W.clsIn K S).isSome = true := h2
    rw [h2', h3] <;> rfl
  show (if (PySem.W.subIn K (.ref S) (.type "BaseException") == some true) = true then (if ((PySem.W.clsIn K S).isSome && PySem.W.typeIn K (.ref S) == some (.type "type")) = true then PySem.W.subIn K (.ref S) (.ref S) else none) else none) = some true
  rw [if_pos e1, if_pos e2]
  exact h4
theorem kit_ref {K : PySem.W.Frag} {a C : Addr} {b : Bool} (h2 : PySem.W.isClsIn K C = true) (h3 : PySem.W.typeIn K (.ref C) = some (.type "type")) (h4 : PySem.W.subIn K (.ref a) (.ref C) = some b) (h5 : PySem.W.subIn K (.ref a) (.ref a) = some true) : PySem.W.kitOne K (.ref a) (.ref C) = some b := by
  unfold PySem.W.kitOne
  by_cases h : a = C
  · subst h
    rw [h5] at h4
    cases h4
    exact if_pos (by simp)
  · rw [if_neg (by simpa using h)]
    unfold PySem.W.kitCls
    have h2' : (PySem.W.clsIn K C).isSome = true := h2
    show (if ((PySem.W.clsIn K C).isSome && PySem.W.typeIn K (.ref C) == some (.type "type")) = true then PySem.W.subIn K (.ref a) (.ref C) else none) = some b
    rw [if_pos (by rw [h2', h3] <;> rfl)]
    exact h4
theorem kit_typ {K : PySem.W.Frag} {a : Addr} {T : String} {b : Bool} (hm : PySem.W.kitMeta T = true) (h4 : PySem.W.subIn K (.ref a) (.type T) = some b) : PySem.W.kitOne K (.ref a) (.type T) = some b := by
  unfold PySem.W.kitOne
  rw [if_neg (by simp)]
  show (if PySem.W.kitMeta T = true then PySem.W.subIn K (.ref a) (.type T) else none) = some b
  rw [if_pos hm]
  exact h4
end Ly

set_option maxHeartbeats 4000000

namespace K03
open PySem PySem.Spec PyProof.Rows L2 Ly
abbrev PP : Program := PySem.Challenge.pw_steelyard_k03_polynomial_division_and_gc
def top (i : Nat) : Stmt := PySem.Challenge.pw_steelyard_k03_polynomial_division_and_gc.main.body.getD i (.Pass ⟨0, 0, 0, 0⟩)
abbrev s_ratio : Stmt := top 9
abbrev n_ratio : List Str := ["above", "below", "common"]
theorem sc_ratio : FnScope n_ratio ["above", "below"] (defScope s_ratio) := ⟨rfl, rfl, rfl, by decide +kernel, rfl, by decide +kernel, by decide +kernel⟩
abbrev s_add : Stmt := top 10
abbrev n_add : List Str := ["p", "q"]
theorem sc_add : FnScope n_add ["p", "q"] (defScope s_add) := ⟨rfl, rfl, rfl, by decide +kernel, rfl, by decide +kernel, by decide +kernel⟩
abbrev s_multiply : Stmt := top 11
abbrev n_multiply : List Str := ["p", "q"]
theorem sc_multiply : FnScope n_multiply ["p", "q"] (defScope s_multiply) := ⟨rfl, rfl, rfl, by decide +kernel, rfl, by decide +kernel, by decide +kernel⟩
abbrev s_divide : Stmt := top 12
abbrev n_divide : List Str := ["p", "q"]
theorem sc_divide : FnScope n_divide ["p", "q"] (defScope s_divide) := ⟨rfl, rfl, rfl, by decide +kernel, rfl, by decide +kernel, by decide +kernel⟩
abbrev s_negate : Stmt := top 13
abbrev n_negate : List Str := ["p"]
theorem sc_negate : FnScope n_negate ["p"] (defScope s_negate) := ⟨rfl, rfl, rfl, by decide +kernel, rfl, by decide +kernel, by decide +kernel⟩
abbrev s_plus_multiple : Stmt := top 15
abbrev n_plus_multiple : List Str := ["row", "factor", "other", "found", "at", "q"]
theorem sc_plus_multiple : FnScope n_plus_multiple ["row", "factor", "other"] (defScope s_plus_multiple) := ⟨rfl, rfl, rfl, by decide +kernel, rfl, by decide +kernel, by decide +kernel⟩
abbrev s_multiple : Stmt := top 16
abbrev n_multiple : List Str := ["factor", "row", "p"]
theorem sc_multiple : FnScope n_multiple ["factor", "row"] (defScope s_multiple) := ⟨rfl, rfl, rfl, by decide +kernel, rfl, by decide +kernel, by decide +kernel⟩
abbrev s_trimmed : Stmt := top 18
abbrev n_trimmed : List Str := ["row", "many"]
theorem sc_trimmed : FnScope n_trimmed ["row"] (defScope s_trimmed) := ⟨rfl, rfl, rfl, by decide +kernel, rfl, by decide +kernel, by decide +kernel⟩
abbrev s_add_poly : Stmt := top 19
abbrev n_add_poly : List Str := ["left", "right"]
theorem sc_add_poly : FnScope n_add_poly ["left", "right"] (defScope s_add_poly) := ⟨rfl, rfl, rfl, by decide +kernel, rfl, by decide +kernel, by decide +kernel⟩
abbrev s_multiply_poly : Stmt := top 20
abbrev n_multiply_poly : List Str := ["left", "right", "found", "i", "p", "j", "q"]
theorem sc_multiply_poly : FnScope n_multiply_poly ["left", "right"] (defScope s_multiply_poly) := ⟨rfl, rfl, rfl, by decide +kernel, rfl, by decide +kernel, by decide +kernel⟩
abbrev s_divide_poly : Stmt := top 21
abbrev n_divide_poly : List Str := ["left", "right", "under", "rest", "found", "at", "factor"]
theorem sc_divide_poly : FnScope n_divide_poly ["left", "right"] (defScope s_divide_poly) := ⟨rfl, rfl, rfl, by decide +kernel, rfl, by decide +kernel, by decide +kernel⟩
abbrev s__with_last_one : Stmt := top 22
abbrev n__with_last_one : List Str := ["row", "found"]
theorem sc__with_last_one : FnScope n__with_last_one ["row"] (defScope s__with_last_one) := ⟨rfl, rfl, rfl, by decide +kernel, rfl, by decide +kernel, by decide +kernel⟩
abbrev s_gcd_poly : Stmt := top 23
abbrev n_gcd_poly : List Str := ["left", "right", "first", "second", "_", "rest"]
theorem sc_gcd_poly : FnScope n_gcd_poly ["left", "right"] (defScope s_gcd_poly) := ⟨rfl, rfl, rfl, by decide +kernel, rfl, by decide +kernel, by decide +kernel⟩
abbrev s_value_at : Stmt := top 24
abbrev n_value_at : List Str := ["polynomial", "x", "found", "p"]
theorem sc_value_at : FnScope n_value_at ["polynomial", "x"] (defScope s_value_at) := ⟨rfl, rfl, rfl, by decide +kernel, rfl, by decide +kernel, by decide +kernel⟩
abbrev s__law_bag : Stmt := top 26
abbrev n__law_bag : List Str := ["script", "place", "cell", "rest", "told", "one"]
theorem sc__law_bag : FnScope n__law_bag ["script", "place"] (defScope s__law_bag) := ⟨rfl, rfl, rfl, by decide +kernel, rfl, by decide +kernel, by decide +kernel⟩
abbrev s__law_draw : Stmt := top 27
abbrev n__law_draw : List Str := ["bag", "size", "digit", "one", "two"]
theorem sc__law_draw : FnScope n__law_draw ["bag", "size"] (defScope s__law_draw) := ⟨rfl, rfl, rfl, by decide +kernel, rfl, by decide +kernel, by decide +kernel⟩
abbrev s__law_common : Stmt := top 28
abbrev n__law_common : List Str := ["one", "two", "left"]
theorem sc__law_common : FnScope n__law_common ["one", "two"] (defScope s__law_common) := ⟨rfl, rfl, rfl, by decide +kernel, rfl, by decide +kernel, by decide +kernel⟩
abbrev s__law_low : Stmt := top 29
abbrev n__law_low : List Str := ["above", "under", "share"]
theorem sc__law_low : FnScope n__law_low ["above", "under"] (defScope s__law_low) := ⟨rfl, rfl, rfl, by decide +kernel, rfl, by decide +kernel, by decide +kernel⟩
abbrev s__law_plus : Stmt := top 30
abbrev n__law_plus : List Str := ["p", "q"]
theorem sc__law_plus : FnScope n__law_plus ["p", "q"] (defScope s__law_plus) := ⟨rfl, rfl, rfl, by decide +kernel, rfl, by decide +kernel, by decide +kernel⟩
abbrev s__law_minus : Stmt := top 31
abbrev n__law_minus : List Str := ["p", "q"]
theorem sc__law_minus : FnScope n__law_minus ["p", "q"] (defScope s__law_minus) := ⟨rfl, rfl, rfl, by decide +kernel, rfl, by decide +kernel, by decide +kernel⟩
abbrev s__law_times : Stmt := top 32
abbrev n__law_times : List Str := ["p", "q"]
theorem sc__law_times : FnScope n__law_times ["p", "q"] (defScope s__law_times) := ⟨rfl, rfl, rfl, by decide +kernel, rfl, by decide +kernel, by decide +kernel⟩
abbrev s__law_over : Stmt := top 33
abbrev n__law_over : List Str := ["p", "q"]
theorem sc__law_over : FnScope n__law_over ["p", "q"] (defScope s__law_over) := ⟨rfl, rfl, rfl, by decide +kernel, rfl, by decide +kernel, by decide +kernel⟩
abbrev s__law_entry : Stmt := top 34
abbrev n__law_entry : List Str := ["bag", "large", "code", "above", "under"]
theorem sc__law_entry : FnScope n__law_entry ["bag", "large"] (defScope s__law_entry) := ⟨rfl, rfl, rfl, by decide +kernel, rfl, by decide +kernel, by decide +kernel⟩
abbrev s__law_is_low : Stmt := top 35
abbrev n__law_is_low : List Str := ["actual", "part"]
theorem sc__law_is_low : FnScope n__law_is_low ["actual"] (defScope s__law_is_low) := ⟨rfl, rfl, rfl, by decide +kernel, rfl, by decide +kernel, by decide +kernel⟩
abbrev s__law_equal : Stmt := top 36
abbrev n__law_equal : List Str := ["actual", "due"]
theorem sc__law_equal : FnScope n__law_equal ["actual", "due"] (defScope s__law_equal) := ⟨rfl, rfl, rfl, by decide +kernel, rfl, by decide +kernel, by decide +kernel⟩
abbrev s__law_trim : Stmt := top 37
abbrev n__law_trim : List Str := ["row", "size", "k"]
theorem sc__law_trim : FnScope n__law_trim ["row"] (defScope s__law_trim) := ⟨rfl, rfl, rfl, by decide +kernel, rfl, by decide +kernel, by decide +kernel⟩
abbrev s__law_sum : Stmt := top 38
abbrev n__law_sum : List Str := ["left", "right", "found", "k", "part"]
theorem sc__law_sum : FnScope n__law_sum ["left", "right"] (defScope s__law_sum) := ⟨rfl, rfl, rfl, by decide +kernel, rfl, by decide +kernel, by decide +kernel⟩
abbrev s__law_product : Stmt := top 39
abbrev n__law_product : List Str := ["left", "right", "found", "j", "k"]
theorem sc__law_product : FnScope n__law_product ["left", "right"] (defScope s__law_product) := ⟨rfl, rfl, rfl, by decide +kernel, rfl, by decide +kernel, by decide +kernel⟩
abbrev s__law_rest : Stmt := top 40
abbrev n__law_rest : List Str := ["left", "right", "rest", "many", "step", "at", "factor", "k"]
theorem sc__law_rest : FnScope n__law_rest ["left", "right"] (defScope s__law_rest) := ⟨rfl, rfl, rfl, by decide +kernel, rfl, by decide +kernel, by decide +kernel⟩
abbrev s__law_monic : Stmt := top 41
abbrev n__law_monic : List Str := ["row", "lead", "p"]
theorem sc__law_monic : FnScope n__law_monic ["row"] (defScope s__law_monic) := ⟨rfl, rfl, rfl, by decide +kernel, rfl, by decide +kernel, by decide +kernel⟩
abbrev s__law_greatest : Stmt := top 42
abbrev n__law_greatest : List Str := ["left", "right", "one", "two", "step", "rest"]
theorem sc__law_greatest : FnScope n__law_greatest ["left", "right"] (defScope s__law_greatest) := ⟨rfl, rfl, rfl, by decide +kernel, rfl, by decide +kernel, by decide +kernel⟩
abbrev s__law_worth : Stmt := top 43
abbrev n__law_worth : List Str := ["row", "x", "found", "factor", "part"]
theorem sc__law_worth : FnScope n__law_worth ["row", "x"] (defScope s__law_worth) := ⟨rfl, rfl, rfl, by decide +kernel, rfl, by decide +kernel, by decide +kernel⟩
abbrev s__law_poly_equal : Stmt := top 44
abbrev n__law_poly_equal : List Str := ["actual", "due", "k"]
theorem sc__law_poly_equal : FnScope n__law_poly_equal ["actual", "due"] (defScope s__law_poly_equal) := ⟨rfl, rfl, rfl, by decide +kernel, rfl, by decide +kernel, by decide +kernel⟩
abbrev s__law_is_poly : Stmt := top 45
abbrev n__law_is_poly : List Str := ["actual", "part"]
theorem sc__law_is_poly : FnScope n__law_is_poly ["actual"] (defScope s__law_is_poly) := ⟨rfl, rfl, rfl, by decide +kernel, rfl, by decide +kernel, by decide +kernel⟩
abbrev s__law_given : Stmt := top 46
abbrev n__law_given : List Str := ["bag", "row", "padded", "k"]
theorem sc__law_given : FnScope n__law_given ["bag", "row"] (defScope s__law_given) := ⟨rfl, rfl, rfl, by decide +kernel, rfl, by decide +kernel, by decide +kernel⟩
abbrev s__law_copied : Stmt := top 47
abbrev n__law_copied : List Str := ["given"]
theorem sc__law_copied : FnScope n__law_copied ["given"] (defScope s__law_copied) := ⟨rfl, rfl, rfl, by decide +kernel, rfl, by decide +kernel, by decide +kernel⟩
abbrev s__law_poly : Stmt := top 48
abbrev n__law_poly : List Str := ["bag", "size", "large", "k"]
theorem sc__law_poly : FnScope n__law_poly ["bag", "size", "large"] (defScope s__law_poly) := ⟨rfl, rfl, rfl, by decide +kernel, rfl, by decide +kernel, by decide +kernel⟩
abbrev s__law_pair : Stmt := top 49
abbrev n__law_pair : List Str := ["bag", "large", "way", "more", "left", "right", "shared"]
theorem sc__law_pair : FnScope n__law_pair ["bag", "large"] (defScope s__law_pair) := ⟨rfl, rfl, rfl, by decide +kernel, rfl, by decide +kernel, by decide +kernel⟩
abbrev s__law_divided : Stmt := top 50
abbrev n__law_divided : List Str := ["left", "right", "told", "raised", "near"]
theorem sc__law_divided : FnScope n__law_divided ["left", "right"] (defScope s__law_divided) := ⟨rfl, rfl, rfl, by decide +kernel, rfl, by decide +kernel, by decide +kernel⟩
abbrev s__law_division_right : Stmt := top 51
abbrev n__law_division_right : List Str := ["bag", "left", "right", "one", "two", "one_before", "two_before", "outcome", "quotient", "rest"]
theorem sc__law_division_right : FnScope n__law_division_right ["bag", "left", "right"] (defScope s__law_division_right) := ⟨rfl, rfl, rfl, by decide +kernel, rfl, by decide +kernel, by decide +kernel⟩
abbrev s__law_common_right : Stmt := top 52
abbrev n__law_common_right : List Str := ["bag", "left", "right", "one", "two", "one_before", "two_before", "told"]
theorem sc__law_common_right : FnScope n__law_common_right ["bag", "left", "right"] (defScope s__law_common_right) := ⟨rfl, rfl, rfl, by decide +kernel, rfl, by decide +kernel, by decide +kernel⟩
abbrev s__law_made_right : Stmt := top 53
abbrev n__law_made_right : List Str := ["bag", "left", "right", "one", "two", "one_before", "two_before", "x", "told"]
theorem sc__law_made_right : FnScope n__law_made_right ["bag", "left", "right"] (defScope s__law_made_right) := ⟨rfl, rfl, rfl, by decide +kernel, rfl, by decide +kernel, by decide +kernel⟩
abbrev s_law : Stmt := top 54
abbrev n_law : List Str := ["script", "place", "bag", "pair", "left", "right", "minus", "p"]
theorem sc_law : FnScope n_law ["script"] (defScope s_law) := ⟨rfl, rfl, rfl, by decide +kernel, rfl, by decide +kernel, by decide +kernel⟩
/-- what the top has left -/
structure Tx (K : PySem.W.Frag) (mg : Str → Option Value) where
  a_ratio : Addr
  d_ratio : FuncData
  F_ratio : FunD K "ratio" "ratio" (defArgs s_ratio) (defBody s_ratio) (defScope s_ratio) [.int 1] [] a_ratio d_ratio
  g_ratio : mg "ratio" = some (.ref a_ratio)
  k_ratio : PySem.W.keepIn K (.ref a_ratio) = true
  b_ratio : Binds K d_ratio ["above", "below"] []
  a_add : Addr
  d_add : FuncData
  F_add : Fun K "add" "add" s_add a_add d_add
  g_add : mg "add" = some (.ref a_add)
  k_add : PySem.W.keepIn K (.ref a_add) = true
  b_add : Binds K d_add ["p", "q"] []
  a_multiply : Addr
  d_multiply : FuncData
  F_multiply : Fun K "multiply" "multiply" s_multiply a_multiply d_multiply
  g_multiply : mg "multiply" = some (.ref a_multiply)
  k_multiply : PySem.W.keepIn K (.ref a_multiply) = true
  b_multiply : Binds K d_multiply ["p", "q"] []
  a_divide : Addr
  d_divide : FuncData
  F_divide : Fun K "divide" "divide" s_divide a_divide d_divide
  g_divide : mg "divide" = some (.ref a_divide)
  k_divide : PySem.W.keepIn K (.ref a_divide) = true
  b_divide : Binds K d_divide ["p", "q"] []
  a_negate : Addr
  d_negate : FuncData
  F_negate : Fun K "negate" "negate" s_negate a_negate d_negate
  g_negate : mg "negate" = some (.ref a_negate)
  k_negate : PySem.W.keepIn K (.ref a_negate) = true
  b_negate : Binds K d_negate ["p"] []
  a_plus_multiple : Addr
  d_plus_multiple : FuncData
  F_plus_multiple : Fun K "plus_multiple" "plus_multiple" s_plus_multiple a_plus_multiple d_plus_multiple
  g_plus_multiple : mg "plus_multiple" = some (.ref a_plus_multiple)
  k_plus_multiple : PySem.W.keepIn K (.ref a_plus_multiple) = true
  b_plus_multiple : Binds K d_plus_multiple ["row", "factor", "other"] []
  a_multiple : Addr
  d_multiple : FuncData
  F_multiple : Fun K "multiple" "multiple" s_multiple a_multiple d_multiple
  g_multiple : mg "multiple" = some (.ref a_multiple)
  k_multiple : PySem.W.keepIn K (.ref a_multiple) = true
  b_multiple : Binds K d_multiple ["factor", "row"] []
  a_trimmed : Addr
  d_trimmed : FuncData
  F_trimmed : Fun K "trimmed" "trimmed" s_trimmed a_trimmed d_trimmed
  g_trimmed : mg "trimmed" = some (.ref a_trimmed)
  k_trimmed : PySem.W.keepIn K (.ref a_trimmed) = true
  b_trimmed : Binds K d_trimmed ["row"] []
  a_add_poly : Addr
  d_add_poly : FuncData
  F_add_poly : Fun K "add_poly" "add_poly" s_add_poly a_add_poly d_add_poly
  g_add_poly : mg "add_poly" = some (.ref a_add_poly)
  k_add_poly : PySem.W.keepIn K (.ref a_add_poly) = true
  b_add_poly : Binds K d_add_poly ["left", "right"] []
  a_multiply_poly : Addr
  d_multiply_poly : FuncData
  F_multiply_poly : Fun K "multiply_poly" "multiply_poly" s_multiply_poly a_multiply_poly d_multiply_poly
  g_multiply_poly : mg "multiply_poly" = some (.ref a_multiply_poly)
  k_multiply_poly : PySem.W.keepIn K (.ref a_multiply_poly) = true
  b_multiply_poly : Binds K d_multiply_poly ["left", "right"] []
  a_divide_poly : Addr
  d_divide_poly : FuncData
  F_divide_poly : Fun K "divide_poly" "divide_poly" s_divide_poly a_divide_poly d_divide_poly
  g_divide_poly : mg "divide_poly" = some (.ref a_divide_poly)
  k_divide_poly : PySem.W.keepIn K (.ref a_divide_poly) = true
  b_divide_poly : Binds K d_divide_poly ["left", "right"] []
  a__with_last_one : Addr
  d__with_last_one : FuncData
  F__with_last_one : Fun K "_with_last_one" "_with_last_one" s__with_last_one a__with_last_one d__with_last_one
  g__with_last_one : mg "_with_last_one" = some (.ref a__with_last_one)
  k__with_last_one : PySem.W.keepIn K (.ref a__with_last_one) = true
  b__with_last_one : Binds K d__with_last_one ["row"] []
  a_gcd_poly : Addr
  d_gcd_poly : FuncData
  F_gcd_poly : Fun K "gcd_poly" "gcd_poly" s_gcd_poly a_gcd_poly d_gcd_poly
  g_gcd_poly : mg "gcd_poly" = some (.ref a_gcd_poly)
  k_gcd_poly : PySem.W.keepIn K (.ref a_gcd_poly) = true
  b_gcd_poly : Binds K d_gcd_poly ["left", "right"] []
  a_value_at : Addr
  d_value_at : FuncData
  F_value_at : Fun K "value_at" "value_at" s_value_at a_value_at d_value_at
  g_value_at : mg "value_at" = some (.ref a_value_at)
  k_value_at : PySem.W.keepIn K (.ref a_value_at) = true
  b_value_at : Binds K d_value_at ["polynomial", "x"] []
  a__law_bag : Addr
  d__law_bag : FuncData
  F__law_bag : Fun K "_law_bag" "_law_bag" s__law_bag a__law_bag d__law_bag
  g__law_bag : mg "_law_bag" = some (.ref a__law_bag)
  k__law_bag : PySem.W.keepIn K (.ref a__law_bag) = true
  b__law_bag : Binds K d__law_bag ["script", "place"] []
  a__law_draw : Addr
  d__law_draw : FuncData
  F__law_draw : Fun K "_law_draw" "_law_draw" s__law_draw a__law_draw d__law_draw
  g__law_draw : mg "_law_draw" = some (.ref a__law_draw)
  k__law_draw : PySem.W.keepIn K (.ref a__law_draw) = true
  b__law_draw : Binds K d__law_draw ["bag", "size"] []
  a__law_common : Addr
  d__law_common : FuncData
  F__law_common : Fun K "_law_common" "_law_common" s__law_common a__law_common d__law_common
  g__law_common : mg "_law_common" = some (.ref a__law_common)
  k__law_common : PySem.W.keepIn K (.ref a__law_common) = true
  b__law_common : Binds K d__law_common ["one", "two"] []
  a__law_low : Addr
  d__law_low : FuncData
  F__law_low : Fun K "_law_low" "_law_low" s__law_low a__law_low d__law_low
  g__law_low : mg "_law_low" = some (.ref a__law_low)
  k__law_low : PySem.W.keepIn K (.ref a__law_low) = true
  b__law_low : Binds K d__law_low ["above", "under"] []
  a__law_plus : Addr
  d__law_plus : FuncData
  F__law_plus : Fun K "_law_plus" "_law_plus" s__law_plus a__law_plus d__law_plus
  g__law_plus : mg "_law_plus" = some (.ref a__law_plus)
  k__law_plus : PySem.W.keepIn K (.ref a__law_plus) = true
  b__law_plus : Binds K d__law_plus ["p", "q"] []
  a__law_minus : Addr
  d__law_minus : FuncData
  F__law_minus : Fun K "_law_minus" "_law_minus" s__law_minus a__law_minus d__law_minus
  g__law_minus : mg "_law_minus" = some (.ref a__law_minus)
  k__law_minus : PySem.W.keepIn K (.ref a__law_minus) = true
  b__law_minus : Binds K d__law_minus ["p", "q"] []
  a__law_times : Addr
  d__law_times : FuncData
  F__law_times : Fun K "_law_times" "_law_times" s__law_times a__law_times d__law_times
  g__law_times : mg "_law_times" = some (.ref a__law_times)
  k__law_times : PySem.W.keepIn K (.ref a__law_times) = true
  b__law_times : Binds K d__law_times ["p", "q"] []
  a__law_over : Addr
  d__law_over : FuncData
  F__law_over : Fun K "_law_over" "_law_over" s__law_over a__law_over d__law_over
  g__law_over : mg "_law_over" = some (.ref a__law_over)
  k__law_over : PySem.W.keepIn K (.ref a__law_over) = true
  b__law_over : Binds K d__law_over ["p", "q"] []
  a__law_entry : Addr
  d__law_entry : FuncData
  F__law_entry : Fun K "_law_entry" "_law_entry" s__law_entry a__law_entry d__law_entry
  g__law_entry : mg "_law_entry" = some (.ref a__law_entry)
  k__law_entry : PySem.W.keepIn K (.ref a__law_entry) = true
  b__law_entry : Binds K d__law_entry ["bag", "large"] []
  a__law_is_low : Addr
  d__law_is_low : FuncData
  F__law_is_low : Fun K "_law_is_low" "_law_is_low" s__law_is_low a__law_is_low d__law_is_low
  g__law_is_low : mg "_law_is_low" = some (.ref a__law_is_low)
  k__law_is_low : PySem.W.keepIn K (.ref a__law_is_low) = true
  b__law_is_low : Binds K d__law_is_low ["actual"] []
  a__law_equal : Addr
  d__law_equal : FuncData
  F__law_equal : Fun K "_law_equal" "_law_equal" s__law_equal a__law_equal d__law_equal
  g__law_equal : mg "_law_equal" = some (.ref a__law_equal)
  k__law_equal : PySem.W.keepIn K (.ref a__law_equal) = true
  b__law_equal : Binds K d__law_equal ["actual", "due"] []
  a__law_trim : Addr
  d__law_trim : FuncData
  F__law_trim : Fun K "_law_trim" "_law_trim" s__law_trim a__law_trim d__law_trim
  g__law_trim : mg "_law_trim" = some (.ref a__law_trim)
  k__law_trim : PySem.W.keepIn K (.ref a__law_trim) = true
  b__law_trim : Binds K d__law_trim ["row"] []
  a__law_sum : Addr
  d__law_sum : FuncData
  F__law_sum : Fun K "_law_sum" "_law_sum" s__law_sum a__law_sum d__law_sum
  g__law_sum : mg "_law_sum" = some (.ref a__law_sum)
  k__law_sum : PySem.W.keepIn K (.ref a__law_sum) = true
  b__law_sum : Binds K d__law_sum ["left", "right"] []
  a__law_product : Addr
  d__law_product : FuncData
  F__law_product : Fun K "_law_product" "_law_product" s__law_product a__law_product d__law_product
  g__law_product : mg "_law_product" = some (.ref a__law_product)
  k__law_product : PySem.W.keepIn K (.ref a__law_product) = true
  b__law_product : Binds K d__law_product ["left", "right"] []
  a__law_rest : Addr
  d__law_rest : FuncData
  F__law_rest : Fun K "_law_rest" "_law_rest" s__law_rest a__law_rest d__law_rest
  g__law_rest : mg "_law_rest" = some (.ref a__law_rest)
  k__law_rest : PySem.W.keepIn K (.ref a__law_rest) = true
  b__law_rest : Binds K d__law_rest ["left", "right"] []
  a__law_monic : Addr
  d__law_monic : FuncData
  F__law_monic : Fun K "_law_monic" "_law_monic" s__law_monic a__law_monic d__law_monic
  g__law_monic : mg "_law_monic" = some (.ref a__law_monic)
  k__law_monic : PySem.W.keepIn K (.ref a__law_monic) = true
  b__law_monic : Binds K d__law_monic ["row"] []
  a__law_greatest : Addr
  d__law_greatest : FuncData
  F__law_greatest : Fun K "_law_greatest" "_law_greatest" s__law_greatest a__law_greatest d__law_greatest
  g__law_greatest : mg "_law_greatest" = some (.ref a__law_greatest)
  k__law_greatest : PySem.W.keepIn K (.ref a__law_greatest) = true
  b__law_greatest : Binds K d__law_greatest ["left", "right"] []
  a__law_worth : Addr
  d__law_worth : FuncData
  F__law_worth : Fun K "_law_worth" "_law_worth" s__law_worth a__law_worth d__law_worth
  g__law_worth : mg "_law_worth" = some (.ref a__law_worth)
  k__law_worth : PySem.W.keepIn K (.ref a__law_worth) = true
  b__law_worth : Binds K d__law_worth ["row", "x"] []
  a__law_poly_equal : Addr
  d__law_poly_equal : FuncData
  F__law_poly_equal : Fun K "_law_poly_equal" "_law_poly_equal" s__law_poly_equal a__law_poly_equal d__law_poly_equal
  g__law_poly_equal : mg "_law_poly_equal" = some (.ref a__law_poly_equal)
  k__law_poly_equal : PySem.W.keepIn K (.ref a__law_poly_equal) = true
  b__law_poly_equal : Binds K d__law_poly_equal ["actual", "due"] []
  a__law_is_poly : Addr
  d__law_is_poly : FuncData
  F__law_is_poly : Fun K "_law_is_poly" "_law_is_poly" s__law_is_poly a__law_is_poly d__law_is_poly
  g__law_is_poly : mg "_law_is_poly" = some (.ref a__law_is_poly)
  k__law_is_poly : PySem.W.keepIn K (.ref a__law_is_poly) = true
  b__law_is_poly : Binds K d__law_is_poly ["actual"] []
  a__law_given : Addr
  d__law_given : FuncData
  F__law_given : Fun K "_law_given" "_law_given" s__law_given a__law_given d__law_given
  g__law_given : mg "_law_given" = some (.ref a__law_given)
  k__law_given : PySem.W.keepIn K (.ref a__law_given) = true
  b__law_given : Binds K d__law_given ["bag", "row"] []
  a__law_copied : Addr
  d__law_copied : FuncData
  F__law_copied : Fun K "_law_copied" "_law_copied" s__law_copied a__law_copied d__law_copied
  g__law_copied : mg "_law_copied" = some (.ref a__law_copied)
  k__law_copied : PySem.W.keepIn K (.ref a__law_copied) = true
  b__law_copied : Binds K d__law_copied ["given"] []
  a__law_poly : Addr
  d__law_poly : FuncData
  F__law_poly : Fun K "_law_poly" "_law_poly" s__law_poly a__law_poly d__law_poly
  g__law_poly : mg "_law_poly" = some (.ref a__law_poly)
  k__law_poly : PySem.W.keepIn K (.ref a__law_poly) = true
  b__law_poly : Binds K d__law_poly ["bag", "size", "large"] []
  a__law_pair : Addr
  d__law_pair : FuncData
  F__law_pair : Fun K "_law_pair" "_law_pair" s__law_pair a__law_pair d__law_pair
  g__law_pair : mg "_law_pair" = some (.ref a__law_pair)
  k__law_pair : PySem.W.keepIn K (.ref a__law_pair) = true
  b__law_pair : Binds K d__law_pair ["bag", "large"] []
  a__law_divided : Addr
  d__law_divided : FuncData
  F__law_divided : Fun K "_law_divided" "_law_divided" s__law_divided a__law_divided d__law_divided
  g__law_divided : mg "_law_divided" = some (.ref a__law_divided)
  k__law_divided : PySem.W.keepIn K (.ref a__law_divided) = true
  b__law_divided : Binds K d__law_divided ["left", "right"] []
  a__law_division_right : Addr
  d__law_division_right : FuncData
  F__law_division_right : Fun K "_law_division_right" "_law_division_right" s__law_division_right a__law_division_right d__law_division_right
  g__law_division_right : mg "_law_division_right" = some (.ref a__law_division_right)
  k__law_division_right : PySem.W.keepIn K (.ref a__law_division_right) = true
  b__law_division_right : Binds K d__law_division_right ["bag", "left", "right"] []
  a__law_common_right : Addr
  d__law_common_right : FuncData
  F__law_common_right : Fun K "_law_common_right" "_law_common_right" s__law_common_right a__law_common_right d__law_common_right
  g__law_common_right : mg "_law_common_right" = some (.ref a__law_common_right)
  k__law_common_right : PySem.W.keepIn K (.ref a__law_common_right) = true
  b__law_common_right : Binds K d__law_common_right ["bag", "left", "right"] []
  a__law_made_right : Addr
  d__law_made_right : FuncData
  F__law_made_right : Fun K "_law_made_right" "_law_made_right" s__law_made_right a__law_made_right d__law_made_right
  g__law_made_right : mg "_law_made_right" = some (.ref a__law_made_right)
  k__law_made_right : PySem.W.keepIn K (.ref a__law_made_right) = true
  b__law_made_right : Binds K d__law_made_right ["bag", "left", "right"] []
  a_law : Addr
  d_law : FuncData
  F_law : Fun K "law" "law" s_law a_law d_law
  g_law : mg "law" = some (.ref a_law)
  k_law : PySem.W.keepIn K (.ref a_law) = true
  b_law : Binds K d_law ["script"] []
  n_len : mg "len" = none
  n_abs : mg "abs" = none
  n_sum : mg "sum" = none
  n_max : mg "max" = none
  n_isinstance : mg "isinstance" = none
  n_int : mg "int" = none
  n_list : mg "list" = none
  n_tuple : mg "tuple" = none
  n_bool : mg "bool" = none
  n_range : mg "range" = none
  n_enumerate : mg "enumerate" = none
  n_reversed : mg "reversed" = none
  n_ValueError : mg "ValueError" = none
  g_gcd : mg "gcd" = some (.builtin "math.gcd")
  a_ZERO : Addr
  g_ZERO : mg "ZERO" = some (.ref a_ZERO)
  z_ZERO : ∀ H : Hp, SqT K H a_ZERO [.int 0, .int 1]
  a_ONE : Addr
  g_ONE : mg "ONE" = some (.ref a_ONE)
  z_ONE : ∀ H : Hp, SqT K H a_ONE [.int 1, .int 1]
  a_SteelyardError : Addr
  g_SteelyardError : mg "SteelyardError" = some (.ref a_SteelyardError)
  k_SteelyardError : PySem.W.keepIn K (.ref a_SteelyardError) = true
  a_LimitError : Addr
  g_LimitError : mg "LimitError" = some (.ref a_LimitError)
  k_LimitError : PySem.W.keepIn K (.ref a_LimitError) = true
  a_ZeroBelow : Addr
  g_ZeroBelow : mg "ZeroBelow" = some (.ref a_ZeroBelow)
  k_ZeroBelow : PySem.W.keepIn K (.ref a_ZeroBelow) = true
  x_ZeroBelow : PySem.W.excIn K a_ZeroBelow [.type "ValueError", .type "Exception", .type "BaseException", .type "object"] "ValueError.__new__" = true
  bs_ZeroBelow : PySem.W.subIn K (.ref a_ZeroBelow) (.type "BaseException") = some true
  ty_ZeroBelow : PySem.W.typeIn K (.ref a_ZeroBelow) = some (.type "type")
  xc_ZeroBelow : ExcC K a_ZeroBelow
  em_ZeroBelow : PySem.W.exmOne K (.ref a_ZeroBelow) (.ref a_ZeroBelow) = some true
  a_WrongWidth : Addr
  g_WrongWidth : mg "WrongWidth" = some (.ref a_WrongWidth)
  k_WrongWidth : PySem.W.keepIn K (.ref a_WrongWidth) = true
  q_ZeroBelow_LimitError : PySem.W.kitOne K (.ref a_ZeroBelow) (.ref a_LimitError) = some false
  q_ZeroBelow_WrongWidth : PySem.W.kitOne K (.ref a_ZeroBelow) (.ref a_WrongWidth) = some false
  q_ZeroBelow_SteelyardError : PySem.W.kitOne K (.ref a_ZeroBelow) (.ref a_SteelyardError) = some true
  q_ZeroBelow_ValueError : PySem.W.kitOne K (.ref a_ZeroBelow) (.type "ValueError") = some true
end K03


local macro_rules | `(tactic| walk_at "bits") => `(tactic| first
  | exact Or.inl (Or.inl ⟨by omega, by omega⟩) | exact Or.inl (Or.inr ⟨by omega, by omega⟩)
  | exact Ly.Bz.cmul (by assumption) (by assumption) (by omega)
  | exact Or.inr ⟨400, 400, by decide +kernel, by decide +kernel, by decide⟩)
local macro_rules | `(tactic| walk_at "sq") => `(tactic| first
  | assumption
  | ((with_reducible apply L2.Same.t); (focus assumption); walk_at "sq")
  | ((with_reducible apply L2.Same.sq); (focus assumption); walk_at "sq")
  | ((with_reducible apply Ly.same_fr); (focus assumption); walk_at "sq"))
local macro_rules | `(tactic| walk_at "st1") => `(tactic| first
  | with_reducible refine Ly.st_seq ?_
  | with_reducible refine Ly.st_asg ?_
  | with_reducible refine Ly.st_nx ?_
  | with_reducible refine Ly.st_rt ?_
  | ((with_reducible show L2.tVar _ _ _ _); refine Ly.st_var rfl ?_)
  | with_reducible refine Ly.st_c ?_
  | with_reducible refine Ly.st_op ?_
  | with_reducible refine Ly.st_name ?_
  | with_reducible refine Ly.st_ifs ?_
  | with_reducible refine Ly.st_ret ?_
  | with_reducible refine Ly.st_cons ?_
  | with_reducible refine Ly.st_nil ?_
  | with_reducible refine Ly.st_cb ?_
  | with_reducible refine Ly.st_bm ?_
  | with_reducible refine Ly.st_call ?_
  | with_reducible refine Ly.st_test ?_
  | with_reducible refine Ly.st_ex ?_
  | with_reducible refine Ly.st_truth ?_
  | with_reducible refine Ly.st_un ?_
  | with_reducible refine Ly.st_neg ?_
  | with_reducible refine Ly.st_nextS ?_
  | with_reducible refine Ly.st_drop ?_
  | with_reducible refine Ly.st_not ?_
  | with_reducible refine Ly.st_and ?_
  | with_reducible refine Ly.st_or ?_
  | with_reducible refine Ly.st_andV ?_
  | with_reducible refine Ly.st_orV ?_
  | with_reducible refine Ly.st_notV ?_
  | with_reducible refine Ly.st_ifE ?_
  | with_reducible refine Ly.st_callS ?_
  | with_reducible refine Ly.u_iteF ?_
  | with_reducible refine Ly.u_iteT ?_
  | with_reducible refine Ly.u_iteNT ?_
  | with_reducible refine Ly.u_iteNF ?_
  | with_reducible refine Ly.st_exB ?_
  | with_reducible refine Ly.u_isII ?_
  | with_reducible refine Ly.u_isIB ?_
  | with_reducible refine Ly.st_tup01 ?_
  | with_reducible refine Ly.st_tup11 ?_
  | with_reducible refine Ly.st_tup ?_
  | with_reducible refine Ly.st_lst ?_
  | with_reducible refine Ly.st_par ?_
  | with_reducible refine Ly.st_sub ?_
  | with_reducible refine Ly.st_sl ?_
  | with_reducible refine Ly.st_nopart ?_
  | with_reducible refine Ly.st_part ?_
  | with_reducible refine Ly.st_exI ?_
  | with_reducible refine Ly.st_ex2 ?_
  | with_reducible refine Ly.u_add ?_
  | with_reducible refine Ly.u_rI0 ?_
  | with_reducible refine Ly.u_eq ?_
  | with_reducible refine Ly.u_ne ?_
  | with_reducible refine Ly.u_truB ?_
  | with_reducible refine Ly.u_int ?_
  | with_reducible refine Ly.u_intB ?_
  | with_reducible refine Ly.u_abs ?_
  | ((with_reducible show Ly.rLenU _ _ _ _); refine Ly.u_len (by walk_at "sq") ?_)
  | with_reducible refine Ly.u_max ?_
  | with_reducible refine Ly.u_tru ?_
  | (with_reducible refine Ly.u_fr0 (by walk_at "sq") ?_)
  | (with_reducible refine Ly.u_fr1 (by walk_at "sq") ?_)
  | ((with_reducible refine Ly.u_mul ?c ?_); (case c => walk_at "bits"))
  | with_reducible refine Ly.st_for ?_
  | with_reducible refine Ly.st_lc ?_
  | with_reducible refine Ly.st_iSeq ?_
  | with_reducible refine Ly.st_iEnum ?_
  | with_reducible refine Ly.st_iRev ?_
  | with_reducible refine Ly.st_iRng1 ?_
  | with_reducible refine Ly.st_iRng2 ?_
  | ((with_reducible refine Ly.u_pow ?c ?_); (case c => exact ⟨by decide, by decide, by decide⟩))
  | ((with_reducible show L2.rIx _ _ _ _ _); refine Ly.u_ixL (by assumption) rfl ?_)
  | ((with_reducible refine Ly.u_moP ?c ?_); (case c => first | assumption | omega | decide))
  | ((with_reducible refine Ly.u_fdPos ?c ?_); (case c => first | assumption | omega | decide))
  | ((with_reducible refine Ly.u_mo ?c ?_); (case c => first | assumption | omega))
  | ((with_reducible refine Ly.u_fd ?c ?_); (case c => first | assumption | omega)))
local macro_rules | `(tactic| walk_at "st") => `(tactic| repeat walk_at "st1")
local macro_rules | `(tactic| walk_at "go") => `(tactic| ((try dsimp only [L2.cxOf]); walk_at "st"))

set_option maxHeartbeats 4000000
namespace K03
open PySem PySem.Spec PyProof.Rows L2 Ly

local macro_rules | `(tactic| walk_at "bits") => `(tactic| first
  | exact Or.inl (Or.inl ⟨by omega, by omega⟩) | exact Or.inl (Or.inr ⟨by omega, by omega⟩)
  | exact Ly.Bz.cmul (by assumption) (by assumption) (by omega)
  | exact Or.inr ⟨400, 400, by decide +kernel, by decide +kernel, by decide⟩)
local macro_rules | `(tactic| walk_at "sq") => `(tactic| first
  | assumption
  | ((with_reducible apply L2.Same.t); (focus assumption); walk_at "sq")
  | ((with_reducible apply L2.Same.sq); (focus assumption); walk_at "sq")
  | ((with_reducible apply Ly.same_fr); (focus assumption); walk_at "sq"))
local macro_rules | `(tactic| walk_at "st1") => `(tactic| first
  | with_reducible refine Ly.st_seq ?_
  | with_reducible refine Ly.st_asg ?_
  | with_reducible refine Ly.st_nx ?_
  | with_reducible refine Ly.st_rt ?_
  | ((with_reducible show L2.tVar _ _ _ _); refine Ly.st_var rfl ?_)
  | with_reducible refine Ly.st_c ?_
  | with_reducible refine Ly.st_op ?_
  | with_reducible refine Ly.st_name ?_
  | with_reducible refine Ly.st_ifs ?_
  | with_reducible refine Ly.st_ret ?_
  | with_reducible refine Ly.st_cons ?_
  | with_reducible refine Ly.st_nil ?_
  | with_reducible refine Ly.st_cb ?_
  | with_reducible refine Ly.st_bm ?_
  | with_reducible refine Ly.st_call ?_
  | with_reducible refine Ly.st_test ?_
  | with_reducible refine Ly.st_ex ?_
  | with_reducible refine Ly.st_truth ?_
  | with_reducible refine Ly.st_un ?_
  | with_reducible refine Ly.st_neg ?_
  | with_reducible refine Ly.st_nextS ?_
  | with_reducible refine Ly.st_drop ?_
  | with_reducible refine Ly.st_not ?_
  | with_reducible refine Ly.st_and ?_
  | with_reducible refine Ly.st_or ?_
  | with_reducible refine Ly.st_andV ?_
  | with_reducible refine Ly.st_orV ?_
  | with_reducible refine Ly.st_notV ?_
  | with_reducible refine Ly.st_ifE ?_
  | with_reducible refine Ly.st_callS ?_
  | with_reducible refine Ly.u_iteF ?_
  | with_reducible refine Ly.u_iteT ?_
  | with_reducible refine Ly.st_tup01 ?_
  | with_reducible refine Ly.st_tup11 ?_
  | with_reducible refine Ly.st_tup ?_
  | with_reducible refine Ly.st_lst ?_
  | with_reducible refine Ly.st_par ?_
  | with_reducible refine Ly.st_sub ?_
  | with_reducible refine Ly.st_sl ?_
  | with_reducible refine Ly.st_nopart ?_
  | with_reducible refine Ly.st_part ?_
  | with_reducible refine Ly.st_exI ?_
  | with_reducible refine Ly.st_ex2 ?_
  | with_reducible refine Ly.u_add ?_
  | with_reducible refine Ly.u_rI0 ?_
  | with_reducible refine Ly.u_eq ?_
  | with_reducible refine Ly.u_ne ?_
  | with_reducible refine Ly.u_truB ?_
  | with_reducible refine Ly.u_int ?_
  | with_reducible refine Ly.u_intB ?_
  | with_reducible refine Ly.u_abs ?_
  | ((with_reducible show Ly.rLenU _ _ _ _); refine Ly.u_len (by walk_at "sq") ?_)
  | with_reducible refine Ly.u_max ?_
  | with_reducible refine Ly.u_tru ?_
  | (with_reducible refine Ly.u_fr0 (by walk_at "sq") ?_)
  | (with_reducible refine Ly.u_fr1 (by walk_at "sq") ?_)
  | ((with_reducible refine Ly.u_mul ?c ?_); (case c => walk_at "bits"))
  | with_reducible refine Ly.st_for ?_
  | with_reducible refine Ly.st_lc ?_
  | with_reducible refine Ly.st_iSeq ?_
  | with_reducible refine Ly.st_iEnum ?_
  | with_reducible refine Ly.st_iRev ?_
  | with_reducible refine Ly.st_iRng1 ?_
  | with_reducible refine Ly.st_iRng2 ?_
  | ((with_reducible refine Ly.u_pow ?c ?_); (case c => exact ⟨by decide, by decide, by decide⟩))
  | ((with_reducible show L2.rIx _ _ _ _ _); refine Ly.u_ixL (by assumption) rfl ?_)
  | ((with_reducible refine Ly.u_moP ?c ?_); (case c => first | assumption | omega | decide))
  | ((with_reducible refine Ly.u_fdPos ?c ?_); (case c => first | assumption | omega | decide))
  | ((with_reducible refine Ly.u_mo ?c ?_); (case c => first | assumption | omega))
  | ((with_reducible refine Ly.u_fd ?c ?_); (case c => first | assumption | omega)))
local macro_rules | `(tactic| walk_at "st") => `(tactic| repeat walk_at "st1")
local macro_rules | `(tactic| walk_at "go") => `(tactic| ((try dsimp only [L2.cxOf]); walk_at "st"))

section
variable {w : World} {K : PySem.W.Frag} {mg : Str → Option Value} {base : Heap}
/-- _law_common(one, two): the greatest common divisor -/
def sp_common : Sp := fun vs H Q _ => ∃ a b : Int, vs = [.int a, .int b] ∧ Q (.int (Nat.gcd a.natAbs b.natAbs : Nat)) H
theorem ok__law_common (T : Tx K mg) (hseer : base.NoSeer) : FnOk PP w K mg base CX0 36 T.a__law_common T.d__law_common ["one", "two"] sp_common := by
  refine T.F__law_common.ok sc__law_common (fun vs H Q E h => ?_) (fun cdv A outer s H vs Q E hr h => ?_)
  · obtain ⟨a, b, rfl, _⟩ := h; rfl
  · obtain ⟨a, b, rfl, k⟩ := h
    refine ⟨_, (pss_cons (ps_set (i := 0) (sc__law_common).nd rfl (by first | exact Or.inl rfl | exact Or.inr rfl) (pe_callB call_absU (by rfl) T.n_abs (by decide +kernel) (pa_cons (pv 0) pa_nil)))
  (pss_cons (ps_set (i := 1) (sc__law_common).nd rfl (by first | exact Or.inl rfl | exact Or.inr rfl) (pe_callB call_absU (by rfl) T.n_abs (by decide +kernel) (pa_cons (pv 1) pa_nil)))
  (pss_cons (ps_while PassesOwn.never (pt_cmpR (op_neU hr.units) (pv 1) pe_int (nomark _))
   (pss_cons (ps_set (i := 2) (sc__law_common).nd rfl (by first | exact Or.inl rfl | exact Or.inr rfl) (pe_op op_modU (pe_callTy call_intU (by rfl) T.n_int (by decide +kernel) (pa_cons (pv 0) pa_nil)) (pv 1)))
  (pss_cons (ps_set (i := 0) (sc__law_common).nd rfl (by first | exact Or.inl rfl | exact Or.inr rfl) (pv 1))
  (pss_one (ps_set (i := 1) (sc__law_common).nd rfl (by first | exact Or.inl rfl | exact Or.inr rfl) (pv 2))))))
  (pss_one (ps_ret (pv 0)))))), ?_⟩
    walk_at "go"
    refine ⟨fun m σ H' => H' = H ∧ ∃ (x y : Int) (l : Option V), σ = [some (.int x), some (.int y), l] ∧ 0 ≤ x ∧ 0 ≤ y ∧ Nat.gcd x.natAbs y.natAbs = Nat.gcd a.natAbs b.natAbs ∧ m = y.toNat,
      ⟨_, rfl, _, _, _, rfl, by split <;> omega, by split <;> omega, by congr 1 <;> (split <;> omega), rfl⟩, ?_⟩
    rintro m σ H' ⟨rfl, x, y, l, rfl, h1, h2, h3, rfl⟩
    walk_at "st"
    refine u_iteN (fun h => ⟨_, fun _ _ q => q, ?_⟩) (fun h => ?_)
    · walk_at "st"
      refine ⟨_, ?_, rfl, _, _, _, rfl, h2, ?_, ?_, rfl⟩
      · have := Int.emod_lt_of_pos x (show 0 < y by omega)
        omega
      · exact Int.emod_nonneg _ h
      · rw [← h3, Nat.gcd_comm x.natAbs, Nat.gcd_rec y.natAbs x.natAbs, Nat.gcd_comm]
        congr 1
        rw [Int.natAbs_emod_of_nonneg h1]
    · subst h
      walk_at "st"
      have e : x = ((Nat.gcd a.natAbs b.natAbs : Nat) : Int) := by
        rw [← h3]
        simp
        omega
      rw [e]
      exact k
/-- _law_low(above, under) -/
def sp_low (K : PySem.W.Frag) : Sp := fun vs H Q _ => ∃ a u : Int, vs = [.int a, .int u] ∧ u ≠ 0 ∧ RetFr K (Rat.divInt a u) H Q
theorem sign_if {a u : Int} (h : u ≠ 0) (c : u < 0) : 0 - ((Nat.gcd a.natAbs u.natAbs : Nat) : Int) = (Nat.gcd a.natAbs u.natAbs : Int) * u.sign := by
  rw [Int.sign_eq_neg_one_of_neg c]; omega
theorem sign_ifN {a u : Int} (h : u ≠ 0) (c : ¬ u < 0) : ((Nat.gcd a.natAbs u.natAbs : Nat) : Int) = (Nat.gcd a.natAbs u.natAbs : Int) * u.sign := by
  rw [Int.sign_eq_one_of_pos (by omega)]; omega
theorem ok__law_low (T : Tx K mg) (hseer : base.NoSeer) : FnOk PP w K mg base CX0 37 T.a__law_low T.d__law_low ["above", "under"] (sp_low K) := by
  refine T.F__law_low.ok sc__law_low (fun vs H Q E h => ?_) (fun cdv A outer s H vs Q E hr h => ?_)
  · obtain ⟨a, b, rfl, _⟩ := h; rfl
  · obtain ⟨a, u, rfl, hu, k⟩ := h
    refine ⟨_, (pss_cons (ps_set (i := 2) (sc__law_low).nd rfl (by first | exact Or.inl rfl | exact Or.inr rfl) (pe_call (ok__law_common T hseer) (hr.mono (by decide)) rfl T.g__law_common T.k__law_common T.b__law_common .nil pass0 (pa_cons (pv 0) (pa_cons (pv 1) pa_nil))))
  (pss_cons (ps_if (pt_cmpR op_lt (pv 1) pe_int (nomark _))
   (pss_one (ps_set (i := 2) (sc__law_low).nd rfl (by first | exact Or.inl rfl | exact Or.inr rfl) (pe_op op_sub pe_int (pv 2))))
   pss_nil)
  (pss_one (ps_ret (pe_tup (pa_cons (pe_op (op_fdivP hseer hr) (pv 0) (pv 2)) (pa_cons (pe_op (op_fdivP hseer hr) (pv 1) (pv 2)) pa_nil))))))), ?_⟩
    walk_at "go"
    refine ⟨_, _, rfl, ?_⟩
    walk_at "st"
    refine u_ite (fun h => ?_) (fun h => ?_)
    · obtain ⟨g0, g1, g2⟩ := low_eq hu (sign_if (a := a) hu h)
      walk_at "st"
      exact u_tupFr k g1 g2
    · obtain ⟨g0, g1, g2⟩ := low_eq hu (sign_ifN (a := a) hu h)
      rw [Int.fdiv_eq_ediv_of_nonneg _ (by omega)] at g1 g2
      walk_at "st"
      exact u_tupFr k g1 g2
theorem ok_ratio (T : Tx K mg) (hseer : base.NoSeer) : FnOk PP w K mg base CX0 36 T.a_ratio T.d_ratio ["above", "below"] (sp_low K) := by
  refine T.F_ratio.ok sc_ratio (fun vs H Q E h => ?_) (fun cdv A outer s H vs Q E hr h => ?_)
  · obtain ⟨a, b, rfl, _⟩ := h; rfl
  · obtain ⟨a, u, rfl, hu, k⟩ := h
    refine ⟨_, (pss_cons (ps_if (pt_cmpR (op_eqU hr.units) (pv 1) pe_int (nomark _))
   (pss_one (ps_ret (pe_tup (pa_cons (pv 0) (pa_cons pe_int pa_nil)))))
   pss_nil)
  (pss_cons (ps_if (pt_cmpR (op_eqU hr.units) (pv 1) pe_int (nomark _))
   (pss_one ps_never)
   pss_nil)
  (pss_cons (ps_set (i := 2) (sc_ratio).nd rfl (by first | exact Or.inl rfl | exact Or.inr rfl) (pe_callBfun cr_gcd rfl T.g_gcd (pa_cons (pv 0) (pa_cons (pv 1) pa_nil))))
  (pss_cons (ps_if (pt_cmpR op_lt (pv 1) pe_int (nomark _))
   (pss_one (ps_set (i := 2) (sc_ratio).nd rfl (by first | exact Or.inl rfl | exact Or.inr rfl) (pe_un un_neg (pv 2))))
   pss_nil)
  (pss_one (ps_ret (pe_tup (pa_cons (pe_op (op_fdivP hseer hr) (pv 0) (pv 2)) (pa_cons (pe_op (op_fdivP hseer hr) (pv 1) (pv 2)) pa_nil))))))))), ?_⟩
    walk_at "go"
    refine u_ite (fun h => ?_) (fun h => ?_)
    · subst h
      walk_at "st"
      refine u_tupFr k ?_ ?_
      · rw [Rat.num_divInt]; simp
      · rw [Rat.den_divInt]; simp
    walk_at "st"
    refine u_ite (fun h => absurd h hu) (fun _ => ?_)
    walk_at "st"
    refine ⟨_, _, rfl, ?_⟩
    walk_at "st"
    refine u_ite (fun h => ?_) (fun h => ?_)
    · have e := sign_if (a := a) hu h
      rw [Int.zero_sub] at e
      obtain ⟨g0, g1, g2⟩ := low_eq hu e
      walk_at "st"
      exact u_tupFr k g1 g2
    · obtain ⟨g0, g1, g2⟩ := low_eq hu (sign_ifN (a := a) hu h)
      rw [Int.fdiv_eq_ediv_of_nonneg _ (by omega)] at g1 g2
      walk_at "st"
      exact u_tupFr k g1 g2
/-- two fractions of n bits -/
def sp_two (K : PySem.W.Frag) (f : Rat → Rat → Rat) : Sp := fun vs H Q _ => ∃ (v w : V) (p q : Rat) (n : Nat), vs = [v, w] ∧ Fr K H v p ∧ Fr K H w q ∧ Bq n p ∧ Bq n q ∧ n ≤ 60000000 ∧ RetFr K (f p q) H Q
theorem dd_ne (p q : Rat) : (p.den : Int) * (q.den : Int) ≠ 0 := by
  have := p.den_nz
  have := q.den_nz
  exact Int.mul_ne_zero (by omega) (by omega)
theorem ok_add (T : Tx K mg) (hseer : base.NoSeer) : FnOk PP w K mg base CX0 37 T.a_add T.d_add ["p", "q"] (sp_two K fun p q => p + q) := by
  refine T.F_add.ok sc_add (fun vs H Q E h => ?_) (fun cdv A outer s H vs Q E hr h => ?_)
  · obtain ⟨_, _, _, _, _, rfl, _⟩ := h; rfl
  · obtain ⟨v, w, p, q, n, rfl, ⟨a, rfl, hp⟩, ⟨b, rfl, hq⟩, ⟨p1, p2⟩, ⟨q1, q2⟩, hn, k⟩ := h
    have dp := p.den_nz
    have dq := q.den_nz
    refine ⟨_, (pss_cons (ps_if (pt_cmpR (op_eqU hr.units) (pe_ix ix_seq (pv 0) pe_int (fun _ _ => rfl)) pe_int (nomark _))
   (pss_one (ps_ret (pv 1)))
   pss_nil)
  (pss_cons (ps_if (pt_cmpR (op_eqU hr.units) (pe_ix ix_seq (pv 0) pe_int (fun _ _ => rfl)) (pe_ix ix_seq (pv 1) pe_int (fun _ _ => rfl)) (nomark _))
   (pss_one (ps_ret (pe_call (ok_ratio T hseer) (hr.mono (by decide)) rfl T.g_ratio T.k_ratio T.b_ratio .nil pass0 (pa_cons (pe_op op_addU (pe_ix ix_seq (pv 0) pe_int (fun _ _ => rfl)) (pe_ix ix_seq (pv 1) pe_int (fun _ _ => rfl))) (pa_cons (pe_ix ix_seq (pv 0) pe_int (fun _ _ => rfl)) pa_nil)))))
   pss_nil)
  (pss_one (ps_ret (pe_call (ok_ratio T hseer) (hr.mono (by decide)) rfl T.g_ratio T.k_ratio T.b_ratio .nil pass0 (pa_cons (pe_op op_addU (pe_op op_mulU (pe_ix ix_seq (pv 0) pe_int (fun _ _ => rfl)) (pe_ix ix_seq (pv 1) pe_int (fun _ _ => rfl))) (pe_op op_mulU (pe_ix ix_seq (pv 1) pe_int (fun _ _ => rfl)) (pe_ix ix_seq (pv 0) pe_int (fun _ _ => rfl)))) (pa_cons (pe_op op_mulU (pe_ix ix_seq (pv 0) pe_int (fun _ _ => rfl)) (pe_ix ix_seq (pv 1) pe_int (fun _ _ => rfl))) pa_nil))))))), ?_⟩
    walk_at "go"
    refine u_ite (fun h => ?_) (fun h => ?_)
    · walk_at "st"
      have e : q = p + q := by
        have : p = 0 := Rat.num_eq_zero.mp h
        rw [this, Rat.zero_add]
      exact (k.at (Same.refl H) e) _ _ (Same.refl H) ⟨b, rfl, hq⟩
    walk_at "st"
    refine u_ite (fun h2 => ?_) (fun h2 => ?_)
    · walk_at "st"
      refine ⟨_, _, rfl, by omega, k.at (Same.refl H) ?_⟩
      show _ = p + q
      rw [← add_div, h2, ← Int.add_mul]
      rw [Rat.divInt_mul_right (by omega)]
    · walk_at "st"
      exact ⟨_, _, rfl, dd_ne p q, k.at (Same.refl H) (add_div p q)⟩
theorem ok_multiply (T : Tx K mg) (hseer : base.NoSeer) : FnOk PP w K mg base CX0 37 T.a_multiply T.d_multiply ["p", "q"] (sp_two K fun p q => p * q) := by
  refine T.F_multiply.ok sc_multiply (fun vs H Q E h => ?_) (fun cdv A outer s H vs Q E hr h => ?_)
  · obtain ⟨_, _, _, _, _, rfl, _⟩ := h; rfl
  · obtain ⟨v, w, p, q, n, rfl, ⟨a, rfl, hp⟩, ⟨b, rfl, hq⟩, ⟨p1, p2⟩, ⟨q1, q2⟩, hn, k⟩ := h
    have dp := p.den_nz
    have dq := q.den_nz
    refine ⟨_, (pss_one (ps_ret (pe_call (ok_ratio T hseer) (hr.mono (by decide)) rfl T.g_ratio T.k_ratio T.b_ratio .nil pass0 (pa_cons (pe_op op_mulU (pe_ix ix_seq (pv 0) pe_int (fun _ _ => rfl)) (pe_ix ix_seq (pv 1) pe_int (fun _ _ => rfl))) (pa_cons (pe_op op_mulU (pe_ix ix_seq (pv 0) pe_int (fun _ _ => rfl)) (pe_ix ix_seq (pv 1) pe_int (fun _ _ => rfl))) pa_nil))))), ?_⟩
    walk_at "go"
    exact ⟨_, _, rfl, dd_ne p q, k.at (Same.refl H) (mul_div p q)⟩
theorem ok__law_plus (T : Tx K mg) (hseer : base.NoSeer) : FnOk PP w K mg base CX0 38 T.a__law_plus T.d__law_plus ["p", "q"] (sp_two K fun p q => p + q) := by
  refine T.F__law_plus.ok sc__law_plus (fun vs H Q E h => ?_) (fun cdv A outer s H vs Q E hr h => ?_)
  · obtain ⟨_, _, _, _, _, rfl, _⟩ := h; rfl
  · obtain ⟨v, w, p, q, n, rfl, ⟨a, rfl, hp⟩, ⟨b, rfl, hq⟩, ⟨p1, p2⟩, ⟨q1, q2⟩, hn, k⟩ := h
    have dp := p.den_nz
    have dq := q.den_nz
    refine ⟨_, (pss_one (ps_ret (pe_call (ok__law_low T hseer) (hr.mono (by decide)) rfl T.g__law_low T.k__law_low T.b__law_low .nil pass0 (pa_cons (pe_op op_addU (pe_op op_mulU (pe_ix ix_seq (pv 0) pe_int (fun _ _ => rfl)) (pe_ix ix_seq (pv 1) pe_int (fun _ _ => rfl))) (pe_op op_mulU (pe_ix ix_seq (pv 1) pe_int (fun _ _ => rfl)) (pe_ix ix_seq (pv 0) pe_int (fun _ _ => rfl)))) (pa_cons (pe_op op_mulU (pe_ix ix_seq (pv 0) pe_int (fun _ _ => rfl)) (pe_ix ix_seq (pv 1) pe_int (fun _ _ => rfl))) pa_nil))))), ?_⟩
    walk_at "go"
    exact ⟨_, _, rfl, dd_ne p q, k.at (Same.refl H) (add_div p q)⟩
theorem ok__law_minus (T : Tx K mg) (hseer : base.NoSeer) : FnOk PP w K mg base CX0 38 T.a__law_minus T.d__law_minus ["p", "q"] (sp_two K fun p q => p - q) := by
  refine T.F__law_minus.ok sc__law_minus (fun vs H Q E h => ?_) (fun cdv A outer s H vs Q E hr h => ?_)
  · obtain ⟨_, _, _, _, _, rfl, _⟩ := h; rfl
  · obtain ⟨v, w, p, q, n, rfl, ⟨a, rfl, hp⟩, ⟨b, rfl, hq⟩, ⟨p1, p2⟩, ⟨q1, q2⟩, hn, k⟩ := h
    have dp := p.den_nz
    have dq := q.den_nz
    refine ⟨_, (pss_one (ps_ret (pe_call (ok__law_low T hseer) (hr.mono (by decide)) rfl T.g__law_low T.k__law_low T.b__law_low .nil pass0 (pa_cons (pe_op op_sub (pe_op op_mulU (pe_ix ix_seq (pv 0) pe_int (fun _ _ => rfl)) (pe_ix ix_seq (pv 1) pe_int (fun _ _ => rfl))) (pe_op op_mulU (pe_ix ix_seq (pv 1) pe_int (fun _ _ => rfl)) (pe_ix ix_seq (pv 0) pe_int (fun _ _ => rfl)))) (pa_cons (pe_op op_mulU (pe_ix ix_seq (pv 0) pe_int (fun _ _ => rfl)) (pe_ix ix_seq (pv 1) pe_int (fun _ _ => rfl))) pa_nil))))), ?_⟩
    walk_at "go"
    exact ⟨_, _, rfl, dd_ne p q, k.at (Same.refl H) (sub_div p q)⟩
theorem ok__law_times (T : Tx K mg) (hseer : base.NoSeer) : FnOk PP w K mg base CX0 38 T.a__law_times T.d__law_times ["p", "q"] (sp_two K fun p q => p * q) := by
  refine T.F__law_times.ok sc__law_times (fun vs H Q E h => ?_) (fun cdv A outer s H vs Q E hr h => ?_)
  · obtain ⟨_, _, _, _, _, rfl, _⟩ := h; rfl
  · obtain ⟨v, w, p, q, n, rfl, ⟨a, rfl, hp⟩, ⟨b, rfl, hq⟩, ⟨p1, p2⟩, ⟨q1, q2⟩, hn, k⟩ := h
    have dp := p.den_nz
    have dq := q.den_nz
    refine ⟨_, (pss_one (ps_ret (pe_call (ok__law_low T hseer) (hr.mono (by decide)) rfl T.g__law_low T.k__law_low T.b__law_low .nil pass0 (pa_cons (pe_op op_mulU (pe_ix ix_seq (pv 0) pe_int (fun _ _ => rfl)) (pe_ix ix_seq (pv 1) pe_int (fun _ _ => rfl))) (pa_cons (pe_op op_mulU (pe_ix ix_seq (pv 0) pe_int (fun _ _ => rfl)) (pe_ix ix_seq (pv 1) pe_int (fun _ _ => rfl))) pa_nil))))), ?_⟩
    walk_at "go"
    exact ⟨_, _, rfl, dd_ne p q, k.at (Same.refl H) (mul_div p q)⟩
/-- the second one not zero -/
def sp_quo (K : PySem.W.Frag) : Sp := fun vs H Q _ => ∃ (v w : V) (p q : Rat) (n : Nat), vs = [v, w] ∧ Fr K H v p ∧ Fr K H w q ∧ Bq n p ∧ Bq n q ∧ n ≤ 60000000 ∧ q ≠ 0 ∧ RetFr K (p / q) H Q
theorem dn_ne (p : Rat) {q : Rat} (h : q ≠ 0) : (p.den : Int) * q.num ≠ 0 := by
  have := p.den_nz
  exact Int.mul_ne_zero (by omega) (num_ne.mpr h)
theorem ok_divide (T : Tx K mg) (hseer : base.NoSeer) : FnOk PP w K mg base CX0 37 T.a_divide T.d_divide ["p", "q"] (sp_quo K) := by
  refine T.F_divide.ok sc_divide (fun vs H Q E h => ?_) (fun cdv A outer s H vs Q E hr h => ?_)
  · obtain ⟨_, _, _, _, _, rfl, _⟩ := h; rfl
  · obtain ⟨v, w, p, q, n, rfl, ⟨a, rfl, hp⟩, ⟨b, rfl, hq⟩, ⟨p1, p2⟩, ⟨q1, q2⟩, hn, h0, k⟩ := h
    have dp := p.den_nz
    have dq := q.den_nz
    refine ⟨_, (pss_one (ps_ret (pe_call (ok_ratio T hseer) (hr.mono (by decide)) rfl T.g_ratio T.k_ratio T.b_ratio .nil pass0 (pa_cons (pe_op op_mulU (pe_ix ix_seq (pv 0) pe_int (fun _ _ => rfl)) (pe_ix ix_seq (pv 1) pe_int (fun _ _ => rfl))) (pa_cons (pe_op op_mulU (pe_ix ix_seq (pv 0) pe_int (fun _ _ => rfl)) (pe_ix ix_seq (pv 1) pe_int (fun _ _ => rfl))) pa_nil))))), ?_⟩
    walk_at "go"
    exact ⟨_, _, rfl, dn_ne p h0, k.at (Same.refl H) (div_div p q h0)⟩
theorem ok__law_over (T : Tx K mg) (hseer : base.NoSeer) : FnOk PP w K mg base CX0 38 T.a__law_over T.d__law_over ["p", "q"] (sp_quo K) := by
  refine T.F__law_over.ok sc__law_over (fun vs H Q E h => ?_) (fun cdv A outer s H vs Q E hr h => ?_)
  · obtain ⟨_, _, _, _, _, rfl, _⟩ := h; rfl
  · obtain ⟨v, w, p, q, n, rfl, ⟨a, rfl, hp⟩, ⟨b, rfl, hq⟩, ⟨p1, p2⟩, ⟨q1, q2⟩, hn, h0, k⟩ := h
    have dp := p.den_nz
    have dq := q.den_nz
    refine ⟨_, (pss_one (ps_ret (pe_call (ok__law_low T hseer) (hr.mono (by decide)) rfl T.g__law_low T.k__law_low T.b__law_low .nil pass0 (pa_cons (pe_op op_mulU (pe_ix ix_seq (pv 0) pe_int (fun _ _ => rfl)) (pe_ix ix_seq (pv 1) pe_int (fun _ _ => rfl))) (pa_cons (pe_op op_mulU (pe_ix ix_seq (pv 0) pe_int (fun _ _ => rfl)) (pe_ix ix_seq (pv 1) pe_int (fun _ _ => rfl))) pa_nil))))), ?_⟩
    walk_at "go"
    exact ⟨_, _, rfl, dn_ne p h0, k.at (Same.refl H) (div_div p q h0)⟩
def sp_neg (K : PySem.W.Frag) : Sp := fun vs H Q _ => ∃ (v : V) (p : Rat), vs = [v] ∧ Fr K H v p ∧ RetFr K (-p) H Q
theorem ok_negate (T : Tx K mg) (hseer : base.NoSeer) : FnOk PP w K mg base CX0 36 T.a_negate T.d_negate ["p"] (sp_neg K) := by
  refine T.F_negate.ok sc_negate (fun vs H Q E h => ?_) (fun cdv A outer s H vs Q E hr h => ?_)
  · obtain ⟨_, _, rfl, _⟩ := h; rfl
  · obtain ⟨v, p, rfl, ⟨a, rfl, hp⟩, k⟩ := h
    refine ⟨_, (pss_one (ps_ret (pe_tup (pa_cons (pe_un un_neg (pe_ix ix_seq (pv 0) pe_int (fun _ _ => rfl))) (pa_cons (pe_ix ix_seq (pv 0) pe_int (fun _ _ => rfl)) pa_nil))))), ?_⟩
    walk_at "go"
    exact u_tupFr k rfl rfl
end
end K03

set_option maxHeartbeats 4000000
namespace K03
open PySem PySem.Spec PyProof.Rows L2 Ly

local macro_rules | `(tactic| walk_at "bits") => `(tactic| first
  | exact Or.inl (Or.inl ⟨by omega, by omega⟩) | exact Or.inl (Or.inr ⟨by omega, by omega⟩)
  | exact Ly.Bz.cmul (by assumption) (by assumption) (by omega)
  | exact Or.inr ⟨400, 400, by decide +kernel, by decide +kernel, by decide⟩)
local macro_rules | `(tactic| walk_at "sq") => `(tactic| first
  | assumption
  | ((with_reducible apply L2.Same.t); (focus assumption); walk_at "sq")
  | ((with_reducible apply L2.Same.sq); (focus assumption); walk_at "sq")
  | ((with_reducible apply Ly.same_fr); (focus assumption); walk_at "sq"))
local macro_rules | `(tactic| walk_at "st1") => `(tactic| first
  | with_reducible refine Ly.st_seq ?_
  | with_reducible refine Ly.st_asg ?_
  | with_reducible refine Ly.st_nx ?_
  | with_reducible refine Ly.st_rt ?_
  | ((with_reducible show L2.tVar _ _ _ _); refine Ly.st_var rfl ?_)
  | with_reducible refine Ly.st_c ?_
  | with_reducible refine Ly.st_op ?_
  | with_reducible refine Ly.st_name ?_
  | with_reducible refine Ly.st_ifs ?_
  | with_reducible refine Ly.st_ret ?_
  | with_reducible refine Ly.st_cons ?_
  | with_reducible refine Ly.st_nil ?_
  | with_reducible refine Ly.st_cb ?_
  | with_reducible refine Ly.st_bm ?_
  | with_reducible refine Ly.st_call ?_
  | with_reducible refine Ly.st_test ?_
  | with_reducible refine Ly.st_ex ?_
  | with_reducible refine Ly.st_truth ?_
  | with_reducible refine Ly.st_un ?_
  | with_reducible refine Ly.st_neg ?_
  | with_reducible refine Ly.st_nextS ?_
  | with_reducible refine Ly.st_drop ?_
  | with_reducible refine Ly.st_not ?_
  | with_reducible refine Ly.st_and ?_
  | with_reducible refine Ly.st_or ?_
  | with_reducible refine Ly.st_andV ?_
  | with_reducible refine Ly.st_orV ?_
  | with_reducible refine Ly.st_notV ?_
  | with_reducible refine Ly.st_ifE ?_
  | with_reducible refine Ly.st_callS ?_
  | with_reducible refine Ly.u_iteF ?_
  | with_reducible refine Ly.u_iteT ?_
  | with_reducible refine Ly.st_tup01 ?_
  | with_reducible refine Ly.st_tup11 ?_
  | with_reducible refine Ly.st_tup ?_
  | with_reducible refine Ly.st_lst ?_
  | with_reducible refine Ly.st_par ?_
  | with_reducible refine Ly.st_sub ?_
  | with_reducible refine Ly.st_sl ?_
  | with_reducible refine Ly.st_nopart ?_
  | with_reducible refine Ly.st_part ?_
  | with_reducible refine Ly.st_exI ?_
  | with_reducible refine Ly.st_ex2 ?_
  | with_reducible refine Ly.u_add ?_
  | with_reducible refine Ly.u_rI0 ?_
  | with_reducible refine Ly.u_eq ?_
  | with_reducible refine Ly.u_ne ?_
  | with_reducible refine Ly.u_truB ?_
  | with_reducible refine Ly.u_int ?_
  | with_reducible refine Ly.u_intB ?_
  | with_reducible refine Ly.u_abs ?_
  | ((with_reducible show Ly.rLenU _ _ _ _); refine Ly.u_len (by walk_at "sq") ?_)
  | with_reducible refine Ly.u_max ?_
  | with_reducible refine Ly.u_tru ?_
  | (with_reducible refine Ly.u_fr0 (by walk_at "sq") ?_)
  | (with_reducible refine Ly.u_fr1 (by walk_at "sq") ?_)
  | ((with_reducible refine Ly.u_mul ?c ?_); (case c => walk_at "bits"))
  | with_reducible refine Ly.st_for ?_
  | with_reducible refine Ly.st_lc ?_
  | with_reducible refine Ly.st_iSeq ?_
  | with_reducible refine Ly.st_iEnum ?_
  | with_reducible refine Ly.st_iRev ?_
  | with_reducible refine Ly.st_iRng1 ?_
  | with_reducible refine Ly.st_iRng2 ?_
  | ((with_reducible refine Ly.u_pow ?c ?_); (case c => exact ⟨by decide, by decide, by decide⟩))
  | ((with_reducible show L2.rIx _ _ _ _ _); refine Ly.u_ixL (by assumption) rfl ?_)
  | ((with_reducible refine Ly.u_moP ?c ?_); (case c => first | assumption | omega | decide))
  | ((with_reducible refine Ly.u_fdPos ?c ?_); (case c => first | assumption | omega | decide))
  | ((with_reducible refine Ly.u_mo ?c ?_); (case c => first | assumption | omega))
  | ((with_reducible refine Ly.u_fd ?c ?_); (case c => first | assumption | omega)))
local macro_rules | `(tactic| walk_at "st") => `(tactic| repeat walk_at "st1")
local macro_rules | `(tactic| walk_at "go") => `(tactic| ((try dsimp only [L2.cxOf]); walk_at "st"))

section
variable {w : World} {K : PySem.W.Frag} {mg : Str → Option Value} {base : Heap}
/-- _law_draw(bag, size): some number below size; the bag alone changes -/
def sp_draw : Sp := fun vs H Q _ => ∃ (b : Addr) (size : Int) (n : Nat), vs = [.ref b, .int size] ∧ 1 ≤ size ∧ BagAt H b n ∧ n ≤ 1000000 ∧
  ∀ (d : Int) H', 0 ≤ d → d < size → BagAt H' b (n + 1) → SameX b H H' → Q (.int d) H'
theorem ok__law_draw (T : Tx K mg) (hseer : base.NoSeer) : FnOk PP w K mg base CX0 36 T.a__law_draw T.d__law_draw ["bag", "size"] sp_draw := by
  refine T.F__law_draw.ok sc__law_draw (fun vs H Q E h => ?_) (fun cdv A outer s H vs Q E hr h => ?_)
  · obtain ⟨_, _, _, rfl, _⟩ := h; rfl
  · obtain ⟨b, size, n, rfl, hs, ⟨r, s', c, hb, hc, hn⟩, hn2, k⟩ := h
    refine ⟨_, (pss_cons (ps_if (pt_cmpR op_gt (pe_ix ix_seq (pv 0) pe_int (fun _ _ => rfl)) pe_int (nomark _))
   (pss_cons (ps_set (i := 2) (sc__law_draw).nd rfl (by first | exact Or.inl rfl | exact Or.inr rfl) (pe_op op_modU (pe_callTy call_intU (by rfl) T.n_int (by decide +kernel) (pa_cons (pe_ix ix_seq (pv 0) pe_int (fun _ _ => rfl)) pa_nil)) (pv 1)))
  (pss_cons (ps_asg (pe_op (op_fdivP hseer hr) (pe_callTy call_intU (by rfl) T.n_int (by decide +kernel) (pa_cons (pe_ix ix_seq (pv 0) pe_int (fun _ _ => rfl)) pa_nil)) (pv 1)) (pg_sub (pv 0) pe_int set_list))
  (pss_one (ps_ret (pv 2)))))
   pss_nil)
  (pss_cons (ps_asg (pe_op op_addU (pe_ix ix_seq (pv 0) pe_int (fun _ _ => rfl)) pe_int) (pg_sub (pv 0) pe_int set_list))
  (pss_cons (ps_set (i := 3) (sc__law_draw).nd rfl (by first | exact Or.inl rfl | exact Or.inr rfl) (pe_op op_modU (pe_callTy call_intU (by rfl) T.n_int (by decide +kernel) (pa_cons (pe_op op_mulU (pe_op op_addU (pe_ix ix_seq (pv 0) pe_int (fun _ _ => rfl)) (pe_op op_mulU (pe_ix ix_seq (pv 0) pe_int (fun _ _ => rfl)) pe_int)) pe_int) pa_nil)) pe_int))
  (pss_cons (ps_set (i := 4) (sc__law_draw).nd rfl (by first | exact Or.inl rfl | exact Or.inr rfl) (pe_op op_modU (pe_callTy call_intU (by rfl) T.n_int (by decide +kernel) (pa_cons (pe_op op_addU (pe_op op_addU (pe_op op_mulU (pe_ix ix_seq (pv 0) pe_int (fun _ _ => rfl)) pe_int) (pe_op op_mulU (pe_op op_mulU (pe_ix ix_seq (pv 0) pe_int (fun _ _ => rfl)) (pe_ix ix_seq (pv 0) pe_int (fun _ _ => rfl))) pe_int)) pe_int) pa_nil)) pe_int))
  (pss_one (ps_ret (pe_op op_modU (pe_callTy call_intU (by rfl) T.n_int (by decide +kernel) (pa_cons (pe_op (op_fdivP hseer hr) (pe_op op_modU (pe_callTy call_intU (by rfl) T.n_int (by decide +kernel) (pa_cons (pe_op op_mulU (pv 3) (pe_op op_addU (pv 4) pe_int)) pa_nil)) pe_int) pe_int) pa_nil)) (pv 1)))))))), ?_⟩
    walk_at "go"
    refine u_ite (fun h => ?_) (fun h => ?_)
    · walk_at "st"
      refine u_setL hb (by rfl) ?_
      walk_at "st"
      exact k _ _ (Int.emod_nonneg _ (by omega)) (Int.emod_lt_of_pos _ (by omega)) ⟨_, _, _, upd_same, hc, by omega⟩ samex_upd
    · walk_at "st"
      refine u_setL hb (by rfl) ?_
      have hb' : (upd H b (.lst ([V.int r, .int s', .int c].set 2 (.int (c + 1))))) b = some (.lst [.int r, .int s', .int (c + 1)]) := upd_same
      walk_at "st"
      exact k _ _ (Int.emod_nonneg _ (by omega)) (Int.emod_lt_of_pos _ (by omega)) ⟨_, _, _, upd_same, by omega, by omega⟩ samex_upd
/-- a new bag -/
def sp_bag (K : PySem.W.Frag) : Sp := fun vs H Q _ => ∃ (a : Addr) (ns : List Int) (place : Int), vs = [.ref a, .int place] ∧ SqL K H a (ns.map V.int) ∧ ns.length ≤ 63 ∧ 0 ≤ place ∧ place ≤ 63 ∧
  ∀ b H', H b = none → Same H H' → BagAt H' b 0 → Q (.ref b) H'
theorem ok__law_bag (T : Tx K mg) (hseer : base.NoSeer) : FnOk PP w K mg base CX0 36 T.a__law_bag T.d__law_bag ["script", "place"] (sp_bag K) := by
  refine T.F__law_bag.ok sc__law_bag (fun vs H Q E h => ?_) (fun cdv A outer s H vs Q E hr h => ?_)
  · obtain ⟨_, _, _, rfl, _⟩ := h; rfl
  · obtain ⟨a, ns, place, rfl, hS, hl, h0, h1, k⟩ := h
    have hSq : Sq K H a (ns.map V.int) := .inl hS
    refine ⟨_, (pss_cons (ps_set (i := 2) (sc__law_bag).nd rfl (by first | exact Or.inl rfl | exact Or.inr rfl) pe_int)
  (Evl.pss_cut (ps_if (pt_cmpR op_lt (pv 1) (pe_callB call_lenU (by rfl) T.n_len (by decide +kernel) (pa_cons (pv 0) pa_nil)) (nomark _))
   (pss_one (ps_set (i := 2) (sc__law_bag).nd rfl (by first | exact Or.inl rfl | exact Or.inr rfl) (pe_callTy call_intU (by rfl) T.n_int (by decide +kernel) (pa_cons (pe_ix ix_seq (pv 0) (pv 1) (fun _ _ => rfl)) pa_nil))))
   pss_nil)
  (Evl.pss_cut (ps_if (pt_cmpR op_lt (pv 2) pe_int (nomark _))
   (pss_one (ps_set (i := 2) (sc__law_bag).nd rfl (by first | exact Or.inl rfl | exact Or.inr rfl) (pe_op op_sub pe_int (pv 2))))
   pss_nil)
  (pss_cons (ps_set (i := 3) (sc__law_bag).nd rfl (by first | exact Or.inl rfl | exact Or.inr rfl) pe_int)
  (Evl.pss_cut (ps_if (pt_cmpR op_ge (pv 2) (pe_op op_pow pe_int pe_int) (nomark _))
   (pss_one (ps_set (i := 3) (sc__law_bag).nd rfl (by first | exact Or.inl rfl | exact Or.inr rfl) (pe_op op_modU (pv 2) (pe_op op_mulU (pe_op op_mulU (pe_op op_pow pe_int pe_int) (pe_op op_pow pe_int pe_int)) (pe_op op_pow pe_int pe_int)))))
   pss_nil)
  (pss_cons (ps_set (i := 4) (sc__law_bag).nd rfl (by first | exact Or.inl rfl | exact Or.inr rfl) (pe_op op_modU (pe_callTy call_intU (by rfl) T.n_int (by decide +kernel) (pa_cons (pe_callB (cr_sum rfl) (by rfl) T.n_sum (by decide +kernel) (pa_cons (pe_lc (own := [("one", 5)]) rfl (sc__law_bag).nd (pi_seqA (pe_slice sl_U (pv 0) po_none (po_some pe_int))) (blkOk_by (own := [("one", 5)]) (N := n__law_bag) (sc := defScope s__law_bag) (by decide +kernel)) (fun _ _ _ _ _ => (pg_name (i := 5) (sc__law_bag).nd rfl (by first | exact Or.inl rfl | exact Or.inr rfl))) (fun _ _ _ _ _ => pts_nil) (fun _ _ _ _ _ => (pe_callTy call_intU (by rfl) T.n_int (by decide +kernel) (pa_cons (pv 5) pa_nil)))) pa_nil)) pa_nil)) pe_int))
  (pss_one (ps_ret (pe_lst (pa_cons (pv 3) (pa_cons (pe_op op_modU (pe_callTy call_intU (by rfl) T.n_int (by decide +kernel) (pa_cons (pe_op op_addU (pe_op op_addU (pe_op op_addU (pe_op op_mulU (pv 2) pe_int) (pe_op op_mulU (pv 4) pe_int)) (pe_op op_mulU (pv 1) pe_int)) pe_int) pa_nil)) pe_int) (pa_cons pe_int pa_nil)))))))))))), ?_⟩
    walk_at "go"
    refine u_cut (fun σ' H' => H' = H ∧ ∃ cell : Int, σ' = [some (.ref a), some (.int place), some (.int cell), none, none, none]) ?_ ?_
    · walk_at "st"
      refine u_ite (fun h => ?_) (fun h => ?_)
      · walk_at "st"
        have hx : (ns.map V.int)[place.toNat]? = some (.int (ns[place.toNat]'(by simp at h; omega))) := by simp
        have e : (place.toNat : Int) = place := by omega
        refine u_ix hSq (by rw [← e]; exact atI_nat hx) ?_
        walk_at "st"
        exact ⟨rfl, _, rfl⟩
      · walk_at "st"
        exact ⟨rfl, _, rfl⟩
    rintro σ' H' ⟨rfl, cell, rfl⟩
    refine u_cut (fun σ' H'' => H'' = H' ∧ ∃ cell : Int, σ' = [some (.ref a), some (.int place), some (.int cell), none, none, none]) ?_ ?_
    · walk_at "st"
      refine u_ite (fun h => ?_) (fun h => ?_)
      · walk_at "st"
        exact ⟨rfl, _, rfl⟩
      · walk_at "st"
        exact ⟨rfl, _, rfl⟩
    rintro σ' H'' ⟨rfl, cell, rfl⟩
    walk_at "st"
    refine u_cut (fun σ' H3 => H3 = H'' ∧ ∃ rest : Int, σ' = [some (.ref a), some (.int place), some (.int cell), some (.int rest), none, none]) ?_ ?_
    · walk_at "st"
      refine u_ite (fun h => ?_) (fun h => ?_)
      · walk_at "st"
        exact ⟨rfl, _, rfl⟩
      · walk_at "st"
        exact ⟨rfl, _, rfl⟩
    rintro σ' H3 ⟨rfl, rest, rfl⟩
    walk_at "st"
    refine u_slL hS fun p hp => ?_
    walk_at "st"
    have hp1 : SqL K (upd H3 p (.lst (cutV (ns.map V.int) none (some 60)))) p ((ns.take 60).map V.int) := by
      have e : cutV (ns.map V.int) none (some 60) = (ns.take 60).map V.int := by rw [show (60 : Int) = ((60 : Nat) : Int) from rfl, cutV_to, List.map_take]
      rw [e]
      exact SqL.of upd_same
    refine seqA_go (.inl hp1) fun J G hG hw => ?_
    refine lcK hw (fun D i acc H4 => Same (upd H3 p (.lst (cutV (ns.map V.int) none (some 60)))) H4 ∧ H4 D = some (.lst acc) ∧ acc = ((ns.take 60).map V.int).take i) (fun D hD => ⟨same_new hD, upd_same, rfl⟩)
      (fun D i acc H4 hD hi q => hG _ (q.1.kept _)) (fun D i acc x H4 H5 hD hi q y => ?_) (fun D acc H4 hD q => ?_)
    · obtain ⟨q1, q2, q3⟩ := q
      obtain ⟨rfl, y2⟩ := y
      have hx : ∃ z, x = V.int z := by
        rw [List.getElem?_map] at y2
        cases e : (ns.take 60)[i]? with
        | none => rw [e] at y2; cases y2
        | some z => rw [e] at y2; exact ⟨z, (Option.some.inj y2).symm⟩
      obtain ⟨z, rfl⟩ := hx
      walk_at "st"
      refine ⟨rfl, ?_⟩
      walk_at "st"
      have hlen : acc.length < sizeLine := Nat.lt_of_le_of_lt (m := 60) (by rw [q3, List.length_take, List.length_map, List.length_take]; omega) (by decide)
      refine lcN q2 hlen ⟨q1.mut hD, upd_same, ?_⟩
      rw [q3, take_more y2]
    · obtain ⟨q1, q2, q3⟩ := q
      rw [List.take_length] at q3
      subst q3
      walk_at "st"
      refine u_sum (SqL.of q2) ?_
      walk_at "st"
      refine ⟨by show 3 ≤ sizeLine; decide, fun b hb => ?_⟩
      have e1 : Same H3 H4 := (same_new hp).trans q1
      exact k b _ (e1.free hb) (e1.trans (same_new hb)) ⟨_, _, _, upd_same, by decide, by decide⟩
/-- _law_entry(bag, large) -/
def sp_entry (K : PySem.W.Frag) : Sp := fun vs H Q _ => ∃ (b : Addr) (large : Bool) (n : Nat), vs = [.ref b, .bl large] ∧ BagAt H b n ∧ n ≤ 1000000 ∧
  ∀ v q H', Fr K H' v q → En large q → BagAt H' b (n + 1) → SameX b H H' → Q v H'
theorem ok__law_entry (T : Tx K mg) (hseer : base.NoSeer) : FnOk PP w K mg base CX0 38 T.a__law_entry T.d__law_entry ["bag", "large"] (sp_entry K) := by
  refine T.F__law_entry.ok sc__law_entry (fun vs H Q E h => ?_) (fun cdv A outer s H vs Q E hr h => ?_)
  · obtain ⟨_, _, _, rfl, _⟩ := h; rfl
  · obtain ⟨b, large, n, rfl, hb, hn, k⟩ := h
    refine ⟨_, (pss_cons (ps_set (i := 2) (sc__law_entry).nd rfl (by first | exact Or.inl rfl | exact Or.inr rfl) (pe_call (ok__law_draw T hseer) (hr.mono (by decide)) rfl T.g__law_draw T.k__law_draw T.b__law_draw .nil pass0 (pa_cons (pv 0) (pa_cons pe_int pa_nil))))
  (pss_cons (ps_set (i := 3) (sc__law_entry).nd rfl (by first | exact Or.inl rfl | exact Or.inr rfl) (pe_op op_sub (pe_op op_modU (pe_callTy call_intU (by rfl) T.n_int (by decide +kernel) (pa_cons (pe_op (op_fdivP hseer hr) (pv 2) pe_int) pa_nil)) pe_int) pe_int))
  (pss_cons (ps_set (i := 4) (sc__law_entry).nd rfl (by first | exact Or.inl rfl | exact Or.inr rfl) (pe_op op_addU pe_int (pe_op (op_fdivP hseer hr) (pv 2) pe_int)))
  (pss_cons (ps_if (pt_cmpR (op_eqU hr.units) (pe_op op_modU (pe_callTy call_intU (by rfl) T.n_int (by decide +kernel) (pa_cons (pv 2) pa_nil)) pe_int) pe_int (nomark _))
   (pss_one (ps_ret (pe_tup (pa_cons pe_int (pa_cons pe_int pa_nil)))))
   pss_nil)
  (pss_cons (ps_if (pt_cmpR (op_eqU hr.units) (pe_op op_modU (pe_callTy call_intU (by rfl) T.n_int (by decide +kernel) (pa_cons (pv 2) pa_nil)) pe_int) pe_int (nomark _))
   (pss_one (ps_ret (pe_tup (pa_cons (pv 3) (pa_cons pe_int pa_nil)))))
   pss_nil)
  (pss_cons (ps_if (pt_truthU (pv 1) (fun _ => rfl))
   (pss_one (ps_ret (pe_call (ok__law_low T hseer) (hr.mono (by decide)) rfl T.g__law_low T.k__law_low T.b__law_low .nil pass0 (pa_cons (pe_op op_addU (pe_op op_mulU (pv 3) pe_int) pe_int) (pa_cons (pe_op op_addU (pe_op op_mulU (pv 4) pe_int) pe_int) pa_nil)))))
   pss_nil)
  (pss_one (ps_ret (pe_call (ok__law_low T hseer) (hr.mono (by decide)) rfl T.g__law_low T.k__law_low T.b__law_low .nil pass0 (pa_cons (pv 3) (pa_cons (pv 4) pa_nil))))))))))), ?_⟩
    walk_at "go"
    refine ⟨b, _, n, rfl, by decide, hb, hn, fun d H1 h0 h1 hb1 e1 => ?_⟩
    have kk : ∀ v q H', Same H1 H' → Fr K H' v q → En large q → Q v H' := fun v q H' e2 hf he => k v q H' hf he (hb1.same e2) (e1.trans e2.x)
    walk_at "st"
    refine u_ite (fun h => ?_) (fun h => ?_)
    · walk_at "st"
      exact fun z H' e hf => kk _ ((0 : Int) : Rat) H' e ⟨z, rfl, hf K⟩ (en_int (by decide) (by decide))
    walk_at "st"
    refine u_ite (fun h => ?_) (fun h => ?_)
    · walk_at "st"
      exact u_tupFr (q := ((d / 4 % 19 - 9 : Int) : Rat)) (fun v H' e hf => kk v _ H' e hf (en_int (by omega) (by omega))) rfl rfl
    walk_at "st"
    refine u_iteB (fun h => ?_) (fun h => ?_)
    · subst h
      walk_at "st"
      exact ⟨_, _, rfl, by omega, fun v H' e hf => kk v _ H' e hf (en_large (by omega) (by omega) (by omega) (by omega))⟩
    · walk_at "st"
      exact ⟨_, _, rfl, by omega, fun v H' e hf => kk v _ H' e hf (en_low (by omega) (by omega) (by omega) (by omega))⟩
/-- _law_trim(row), a list -/
def sp_trim (K : PySem.W.Frag) : Sp := fun vs H Q _ => ∃ (v : V) (qs : List Rat), vs = [v] ∧ RowL K H v qs ∧ qs.length ≤ 100000 ∧ ∀ v' H', Same H H' → RowL K H' v' (trim qs) → Q v' H'
theorem ok__law_trim (T : Tx K mg) (hseer : base.NoSeer) : FnOk PP w K mg base CX0 36 T.a__law_trim T.d__law_trim ["row"] (sp_trim K) := by
  refine T.F__law_trim.ok sc__law_trim (fun vs H Q E h => ?_) (fun cdv A outer s H vs Q E hr h => ?_)
  · obtain ⟨_, _, rfl, _⟩ := h; rfl
  · obtain ⟨_, qs, rfl, ⟨a, xs, rfl, ha, hf⟩, hlen, k⟩ := h
    have hSq : Sq K H a xs := .inl (SqL.of ha)
    have hl := hf.len
    refine ⟨_, (pss_cons (ps_set (i := 1) (sc__law_trim).nd rfl (by first | exact Or.inl rfl | exact Or.inr rfl) pe_int)
  (pss_cons (ps_for PassesOwn.never rfl (pi_range1 rfl T.n_range (pa_cons (pe_callB call_lenU (by rfl) T.n_len (by decide +kernel) (pa_cons (pv 0) pa_nil)) pa_nil)) (pg_name (i := 2) (sc__law_trim).nd rfl (by first | exact Or.inl rfl | exact Or.inr rfl))
   (pss_one (ps_if (pt_cmpR (op_neU hr.units) (pe_ix ix_seq (pe_ix ix_seq (pv 0) (pv 2) (fun _ _ => rfl)) pe_int (fun _ _ => rfl)) pe_int (nomark _))
   (pss_one (ps_set (i := 1) (sc__law_trim).nd rfl (by first | exact Or.inl rfl | exact Or.inr rfl) (pe_op op_addU (pv 2) pe_int)))
   pss_nil)))
  (pss_one (ps_ret (pe_slice sl_U (pv 0) po_none (po_some (pv 1))))))), ?_⟩
    walk_at "go"
    refine u_rng1 (by omega) ?_
    refine forK walk_range0 (fun i σ H' => H' = H ∧ ∃ l : Option V, σ = [some (.ref a), some (.int (tlen (qs.take i) : Nat)), l]) ⟨rfl, _, rfl⟩ (fun _ _ _ _ _ => trivial) ?_ ?_
    · rintro i x σ H1 H' hi ⟨rfl, l, rfl⟩ ⟨rfl, rfl⟩
      have hi' : i < qs.length := by omega
      obtain ⟨v, hv, b, rfl, hq⟩ := hf.at hi'
      have step := tlen_take_succ hi'
      walk_at "st"
      refine u_ix hSq (atI_nat hv) ?_
      walk_at "st"
      refine u_iteN (fun h => ?_) (fun h => ?_)
      · rw [if_neg (fun z => h (by rw [z]; rfl))] at step
        walk_at "st"
        exact ⟨rfl, _, by rw [step]; rfl⟩
      · rw [if_pos (Rat.num_eq_zero.mp h)] at step
        walk_at "st"
        exact ⟨rfl, _, by rw [step]; rfl⟩
    · rintro σ H' ⟨rfl, l, rfl⟩
      walk_at "st"
      refine u_slL (SqL.of ha) fun p hp => ?_
      walk_at "st"
      rw [show ((xs.length : Int)).toNat = qs.length by omega, List.take_length, cutV_to]
      exact k _ _ (same_new hp) ⟨p, _, rfl, upd_same, (hf.same (same_new hp)).take _⟩
/-- _law_poly(bag, size, large) -/
def sp_poly (K : PySem.W.Frag) : Sp := fun vs H Q _ => ∃ (b : Addr) (size : Int) (large : Bool) (n : Nat), vs = [.ref b, .int size, .bl large] ∧ BagAt H b n ∧ n ≤ 100000 ∧ 0 ≤ size ∧ size ≤ 100 ∧
  ∀ v qs H', RowL K H' v (trim qs) → (qs.length : Int) = size → (∀ q ∈ qs, En large q) → BagAt H' b (n + 100) → SameX b H H' → Q v H'
theorem ok__law_poly (T : Tx K mg) (hseer : base.NoSeer) : FnOk PP w K mg base CX0 39 T.a__law_poly T.d__law_poly ["bag", "size", "large"] (sp_poly K) := by
  refine T.F__law_poly.ok sc__law_poly (fun vs H Q E h => ?_) (fun cdv A outer s H vs Q E hr h => ?_)
  · obtain ⟨_, _, _, _, rfl, _⟩ := h; rfl
  · obtain ⟨b, size, large, n, rfl, hb, hn, h0, h1, k⟩ := h
    refine ⟨_, (pss_one (ps_ret (pe_call (ok__law_trim T hseer) (hr.mono (by decide)) rfl T.g__law_trim T.k__law_trim T.b__law_trim .nil pass0 (pa_cons (pe_lc (own := [("k", 3)]) rfl (sc__law_poly).nd (pi_range1 rfl T.n_range (pa_cons (pv 1) pa_nil)) (blkOk_by (own := [("k", 3)]) (N := n__law_poly) (sc := defScope s__law_poly) (by decide +kernel)) (fun _ _ _ _ _ => (pg_name (i := 3) (sc__law_poly).nd rfl (by first | exact Or.inl rfl | exact Or.inr rfl))) (fun _ _ _ _ _ => pts_nil) (fun _ _ _ _ _ => (pe_call (ok__law_entry T hseer) (hr.mono (by decide)) rfl T.g__law_entry T.k__law_entry T.b__law_entry .nil pass0 (pa_cons (pv 0) (pa_cons (pv 2) pa_nil))))) pa_nil)))), ?_⟩
    walk_at "go"
    refine u_rng1 (by omega) ?_
    refine lcK walk_range0 (fun D i acc H' => BagAt H' b (n + i) ∧ SameX b H H' ∧ H' D = some (.lst acc) ∧ ∃ qs, Fs K H' acc qs ∧ qs.length = i ∧ ∀ q ∈ qs, En large q) (fun D hD => ⟨hb.same (same_new hD), (same_new hD).x, upd_same, [], trivial, rfl, fun q hq => nomatch hq⟩) (fun _ _ _ _ _ _ _ => trivial) ?_ ?_
    · rintro D i acc x H1 H' hD hi ⟨q1, q2, q3, qs, q4, q5, q6⟩ ⟨rfl, rfl⟩
      walk_at "st"
      refine ⟨rfl, ?_⟩
      walk_at "st"
      refine ⟨b, large, n + i, rfl, q1, by omega, fun v q H2 f2 en2 b2 e2 => ?_⟩
      have hDb : D ≠ b := q1.ne q3 (by
        intro r s c z
        injection z with z
        have hz := q4.len
        rw [z] at q4
        exact fs_ne q4 r s c rfl)
      have q3' := e2 D _ hDb q3
      have f4 := (q4.imm (q1.imm e2)).snoc f2
      have em : Imm H2 (upd H2 D (.lst (acc ++ [v]))) := Imm.upd q3'
      have hla := q4.len
      refine lcN q3' (Nat.lt_of_le_of_lt (m := 100) (by omega) (by decide)) ⟨?_, ?_, upd_same, qs ++ [q], f4.imm em, by simp [q5], ?_⟩
      · obtain ⟨r, s', c, z1, z2, z3⟩ := b2
        exact ⟨r, s', c, by rw [upd_ne (Ne.symm hDb)]; exact z1, z2, by omega⟩
      · intro a' o ha ho
        have := e2 a' o ha (q2 a' o ha ho)
        rw [upd_ne (ne_of_none ho hD)]
        exact this
      · intro r hr
        rcases List.mem_append.mp hr with z | z
        · exact q6 r z
        · rw [List.mem_singleton.mp z]; exact en2
    · rintro D acc H1 hD ⟨q1, q2, q3, qs, q4, q5, q6⟩
      walk_at "st"
      exact ⟨_, qs, rfl, ⟨D, acc, rfl, q3, q4⟩, by omega, fun v H2 e2 f2 => k v qs H2 f2 (by omega) q6 ((q1.same e2).mono (by omega)) (q2.trans e2.x)⟩
end
end K03

set_option maxHeartbeats 4000000
namespace K03
open PySem PySem.Spec PyProof.Rows L2 Ly

local macro_rules | `(tactic| walk_at "bits") => `(tactic| first
  | exact Or.inl (Or.inl ⟨by omega, by omega⟩) | exact Or.inl (Or.inr ⟨by omega, by omega⟩)
  | exact Ly.Bz.cmul (by assumption) (by assumption) (by omega)
  | exact Or.inr ⟨400, 400, by decide +kernel, by decide +kernel, by decide⟩)
local macro_rules | `(tactic| walk_at "sq") => `(tactic| first
  | assumption
  | ((with_reducible apply L2.Same.t); (focus assumption); walk_at "sq")
  | ((with_reducible apply L2.Same.sq); (focus assumption); walk_at "sq")
  | ((with_reducible apply Ly.same_fr); (focus assumption); walk_at "sq"))
local macro_rules | `(tactic| walk_at "st1") => `(tactic| first
  | with_reducible refine Ly.st_seq ?_
  | with_reducible refine Ly.st_asg ?_
  | with_reducible refine Ly.st_nx ?_
  | with_reducible refine Ly.st_rt ?_
  | ((with_reducible show L2.tVar _ _ _ _); refine Ly.st_var rfl ?_)
  | with_reducible refine Ly.st_c ?_
  | with_reducible refine Ly.st_op ?_
  | with_reducible refine Ly.st_name ?_
  | with_reducible refine Ly.st_ifs ?_
  | with_reducible refine Ly.st_ret ?_
  | with_reducible refine Ly.st_cons ?_
  | with_reducible refine Ly.st_nil ?_
  | with_reducible refine Ly.st_cb ?_
  | with_reducible refine Ly.st_bm ?_
  | with_reducible refine Ly.st_call ?_
  | with_reducible refine Ly.st_test ?_
  | with_reducible refine Ly.st_ex ?_
  | with_reducible refine Ly.st_truth ?_
  | with_reducible refine Ly.st_un ?_
  | with_reducible refine Ly.st_neg ?_
  | with_reducible refine Ly.st_nextS ?_
  | with_reducible refine Ly.st_drop ?_
  | with_reducible refine Ly.st_not ?_
  | with_reducible refine Ly.st_and ?_
  | with_reducible refine Ly.st_or ?_
  | with_reducible refine Ly.st_andV ?_
  | with_reducible refine Ly.st_orV ?_
  | with_reducible refine Ly.st_notV ?_
  | with_reducible refine Ly.st_ifE ?_
  | with_reducible refine Ly.st_callS ?_
  | with_reducible refine Ly.u_iteF ?_
  | with_reducible refine Ly.u_iteT ?_
  | with_reducible refine Ly.st_tup01 ?_
  | with_reducible refine Ly.st_tup11 ?_
  | with_reducible refine Ly.st_tup ?_
  | with_reducible refine Ly.st_lst ?_
  | with_reducible refine Ly.st_par ?_
  | with_reducible refine Ly.st_sub ?_
  | with_reducible refine Ly.st_sl ?_
  | with_reducible refine Ly.st_nopart ?_
  | with_reducible refine Ly.st_part ?_
  | with_reducible refine Ly.st_exI ?_
  | with_reducible refine Ly.st_ex2 ?_
  | with_reducible refine Ly.u_add ?_
  | with_reducible refine Ly.u_rI0 ?_
  | with_reducible refine Ly.u_eq ?_
  | with_reducible refine Ly.u_ne ?_
  | with_reducible refine Ly.u_truB ?_
  | with_reducible refine Ly.u_int ?_
  | with_reducible refine Ly.u_intB ?_
  | with_reducible refine Ly.u_abs ?_
  | ((with_reducible show Ly.rLenU _ _ _ _); refine Ly.u_len (by walk_at "sq") ?_)
  | with_reducible refine Ly.u_max ?_
  | with_reducible refine Ly.u_tru ?_
  | (with_reducible refine Ly.u_fr0 (by walk_at "sq") ?_)
  | (with_reducible refine Ly.u_fr1 (by walk_at "sq") ?_)
  | ((with_reducible refine Ly.u_mul ?c ?_); (case c => walk_at "bits"))
  | with_reducible refine Ly.st_for ?_
  | with_reducible refine Ly.st_lc ?_
  | with_reducible refine Ly.st_iSeq ?_
  | with_reducible refine Ly.st_iEnum ?_
  | with_reducible refine Ly.st_iRev ?_
  | with_reducible refine Ly.st_iRng1 ?_
  | with_reducible refine Ly.st_iRng2 ?_
  | ((with_reducible refine Ly.u_pow ?c ?_); (case c => exact ⟨by decide, by decide, by decide⟩))
  | ((with_reducible show L2.rIx _ _ _ _ _); refine Ly.u_ixL (by assumption) rfl ?_)
  | ((with_reducible refine Ly.u_moP ?c ?_); (case c => first | assumption | omega | decide))
  | ((with_reducible refine Ly.u_fdPos ?c ?_); (case c => first | assumption | omega | decide))
  | ((with_reducible refine Ly.u_mo ?c ?_); (case c => first | assumption | omega))
  | ((with_reducible refine Ly.u_fd ?c ?_); (case c => first | assumption | omega)))
local macro_rules | `(tactic| walk_at "st") => `(tactic| repeat walk_at "st1")
local macro_rules | `(tactic| walk_at "go") => `(tactic| ((try dsimp only [L2.cxOf]); walk_at "st"))

section
variable {w : World} {K : PySem.W.Frag} {mg : Str → Option Value} {base : Heap}
/-- two rows of n bits -/
def sp_rows (K : PySem.W.Frag) (f : List Rat → List Rat → List Rat) : Sp := fun vs H Q _ => ∃ (v w : V) (p q : List Rat) (n : Nat), vs = [v, w] ∧ Row K H v p ∧ Row K H w q ∧ BqL n p ∧ BqL n q ∧ 0 < n ∧ n ≤ 60000000 ∧ p.length ≤ 1000 ∧ q.length ≤ 1000 ∧
  ∀ v' H', Same H H' → RowL K H' v' (f p q) → Q v' H'
theorem ok__law_sum (T : Tx K mg) (hseer : base.NoSeer) : FnOk PP w K mg base CX0 39 T.a__law_sum T.d__law_sum ["left", "right"] (sp_rows K padd) := by
  refine T.F__law_sum.ok sc__law_sum (fun vs H Q E h => ?_) (fun cdv A outer s H vs Q E hr h => ?_)
  · obtain ⟨_, _, _, _, _, rfl, _⟩ := h; rfl
  · obtain ⟨_, _, p, q, n, rfl, ⟨a, xs, rfl, ha, fa⟩, ⟨b, ys, rfl, hb, fb⟩, bp, bq, n0, n1, lp, lq, k⟩ := h
    have la := fa.len
    have lb := fb.len
    refine ⟨_, (pss_cons (ps_set (i := 2) (sc__law_sum).nd rfl (by first | exact Or.inl rfl | exact Or.inr rfl) (pe_lst pa_nil))
  (pss_cons (ps_for PassesOwn.never rfl (pi_range1 rfl T.n_range (pa_cons (pe_callB (call_maxU rfl) (by rfl) T.n_max (by decide +kernel) (pa_cons (pe_callB call_lenU (by rfl) T.n_len (by decide +kernel) (pa_cons (pv 0) pa_nil)) (pa_cons (pe_callB call_lenU (by rfl) T.n_len (by decide +kernel) (pa_cons (pv 1) pa_nil)) pa_nil))) pa_nil)) (pg_name (i := 3) (sc__law_sum).nd rfl (by first | exact Or.inl rfl | exact Or.inr rfl))
   (pss_cons (ps_set (i := 4) (sc__law_sum).nd rfl (by first | exact Or.inl rfl | exact Or.inr rfl) (pe_tup (pa_cons pe_int (pa_cons pe_int pa_nil))))
  (Evl.pss_cut (ps_if (pt_cmpR op_lt (pv 3) (pe_callB call_lenU (by rfl) T.n_len (by decide +kernel) (pa_cons (pv 0) pa_nil)) (nomark _))
   (pss_one (ps_set (i := 4) (sc__law_sum).nd rfl (by first | exact Or.inl rfl | exact Or.inr rfl) (pe_ix ix_seq (pv 0) (pv 3) (fun _ _ => rfl))))
   pss_nil)
  (Evl.pss_cut (ps_if (pt_cmpR op_lt (pv 3) (pe_callB call_lenU (by rfl) T.n_len (by decide +kernel) (pa_cons (pv 1) pa_nil)) (nomark _))
   (pss_one (ps_set (i := 4) (sc__law_sum).nd rfl (by first | exact Or.inl rfl | exact Or.inr rfl) (pe_call (ok__law_plus T hseer) (hr.mono (by decide)) rfl T.g__law_plus T.k__law_plus T.b__law_plus .nil pass0 (pa_cons (pv 4) (pa_cons (pe_ix ix_seq (pv 1) (pv 3) (fun _ _ => rfl)) pa_nil)))))
   pss_nil)
  (pss_one (ps_expr (pe_bm PySem.F.plainAttrs_list PySem.F.slot_list_append PySem.F.type_list_append mt_append (pv 2) (pa_cons (pv 4) pa_nil))))))))
  (pss_one (ps_ret (pe_call (ok__law_trim T hseer) (hr.mono (by decide)) rfl T.g__law_trim T.k__law_trim T.b__law_trim .nil pass0 (pa_cons (pv 2) pa_nil)))))), ?_⟩
    walk_at "go"
    refine ⟨by show 0 ≤ sizeLine; decide, fun D hD => ?_⟩
    have L0 : Loc K H D (upd H D (.lst [])) ((List.range 0).map fun i => cf p i + cf q i) := Loc.new hD (Same.refl H) trivial
    have e0 : Same H (upd H D (.lst [])) := L0.1
    walk_at "st"
    have hm : (if (ys.length : Int) > xs.length then (ys.length : Int) else xs.length) = (max p.length q.length : Nat) := by
      rw [la, lb]; split <;> omega
    rw [hm]
    refine u_rng1 (by omega) ?_
    refine forK walk_range0 (fun i σ H' => Loc K H D H' ((List.range i).map fun i => cf p i + cf q i) ∧ ∃ l1 l2 : Option V, σ = [some (.ref a), some (.ref b), some (.ref D), l1, l2]) ⟨L0, _, _, rfl⟩ (fun _ _ _ _ _ => trivial) ?_ ?_
    · rintro i x σ H1 H' hi ⟨L, l1, l2, rfl⟩ ⟨rfl, rfl⟩
      have e := L.1
      walk_at "st"
      intro z H2 e2 f2
      have L2' := L.ext e2
      have e := L2'.1
      clear e2
      walk_at "st"
      refine u_cut (fun σ' H3 => H3 = H2 ∧ ∃ z, σ' = [some (.ref a), some (.ref b), some (.ref D), some (.int i), some (.ref z)] ∧ SqT K H2 z (FrT (cf p i))) ?_ ?_
      · walk_at "st"
        refine u_ite (fun h => ?_) (fun h => ?_)
        · walk_at "st"
          refine u_at (e.sq ha) (fa.same e) rfl (by omega) fun z hz => ?_
          walk_at "st"
          exact ⟨rfl, z, rfl, hz⟩
        · walk_at "st"
          refine ⟨rfl, z, rfl, ?_⟩
          rw [cf_out (by omega)]; exact f2 K
      rintro σ' H3 ⟨rfl, z, rfl, hz⟩
      refine u_cut (fun σ' H' => Same H3 H' ∧ ∃ v, σ' = [some (.ref a), some (.ref b), some (.ref D), some (.int i), some v] ∧ Fr K H' v (cf p i + cf q i)) ?_ ?_
      · walk_at "st"
        refine u_ite (fun h => ?_) (fun h => ?_)
        · walk_at "st"
          refine u_at (e.sq hb) (fb.same e) rfl (by omega) fun z2 hz2 => ?_
          walk_at "st"
          refine ⟨_, _, _, _, n, rfl, ⟨z, rfl, hz⟩, ⟨z2, rfl, hz2⟩, bp.cf n0 i, bq.cf n0 i, n1, fun v H3 e3 f3 => ?_⟩
          walk_at "st"
          exact ⟨e3, v, rfl, f3⟩
        · walk_at "st"
          refine ⟨Same.refl _, .ref z, rfl, ?_⟩
          rw [cf_out (p := q) (by omega), Rat.add_zero]; exact ⟨z, rfl, hz⟩
      rintro σ' H3 ⟨e3, v, rfl, f3⟩
      have L3 := L2'.ext e3
      walk_at "st"
      refine ⟨tyLoc L3, ?_⟩
      walk_at "st"
      refine u_appLoc L3 (by rw [List.length_map, List.length_range]; omega) f3 fun H4 L4 _ => ?_
      walk_at "st"
      refine ⟨?_, _, _, rfl⟩
      rw [map_succ]; exact L4
    · rintro σ H1 ⟨L, l1, l2, rfl⟩
      walk_at "st"
      refine ⟨_, _, rfl, L.row, by rw [List.length_map, List.length_range]; omega, fun v' H' e f => k v' H' (L.1.trans e) f⟩
/-- the product of two rows below 2^s1, 2^s2 -/
def sp_mul (K : PySem.W.Frag) : Sp := fun vs H Q _ => ∃ (v w : V) (p q : List Rat) (s t : Nat), vs = [v, w] ∧ Row K H v p ∧ Row K H w q ∧ Sz s p ∧ Sz t q ∧ 0 < s ∧ s + t + 10 ≤ 60000000 ∧ p.length ≤ 1000 ∧ q.length ≤ 1000 ∧
  ∀ v' H', Same H H' → RowL K H' v' (pmul p q) → Q v' H'
theorem ok__law_product (T : Tx K mg) (hseer : base.NoSeer) : FnOk PP w K mg base CX0 39 T.a__law_product T.d__law_product ["left", "right"] (sp_mul K) := by
  refine T.F__law_product.ok sc__law_product (fun vs H Q E h => ?_) (fun cdv A outer s H vs Q E hr h => ?_)
  · obtain ⟨_, _, _, _, _, _, rfl, _⟩ := h; rfl
  · obtain ⟨_, _, p, q, sp, sq, rfl, ⟨a, xs, rfl, ha, fa⟩, ⟨b, ys, rfl, hb, fb⟩, zp, zq, n0, n1, lp, lq, k⟩ := h
    have la := fa.len
    have lb := fb.len
    have bp : BqL (sp + sq + 10) p := (zp.bqL n0).mono (by omega)
    have bq : BqL (sp + sq + 10) q := (zq.mono (t := sp + sq + 10) (by omega)).bqL (by omega)
    refine ⟨_, (pss_cons (ps_setLc (i := 2) (own := [("k", 4)]) (by rfl) (sc__law_product).nd rfl rfl (sw_true rfl rfl rfl (by decide +kernel)) (pi_range1 rfl T.n_range (pa_cons (pe_callB (call_maxU rfl) (by rfl) T.n_max (by decide +kernel) (pa_cons pe_int (pa_cons (pe_op op_sub (pe_op op_addU (pe_callB call_lenU (by rfl) T.n_len (by decide +kernel) (pa_cons (pv 0) pa_nil)) (pe_callB call_lenU (by rfl) T.n_len (by decide +kernel) (pa_cons (pv 1) pa_nil))) pe_int) pa_nil))) pa_nil)) (blkOk_by (own := [("k", 4)]) (N := n__law_product) (sc := defScope s__law_product) (by decide +kernel)) (fun _ _ _ _ _ => (pg_name (i := 4) (sc__law_product).nd rfl (by first | exact Or.inl rfl | exact Or.inr rfl))) (fun _ _ _ _ _ => pts_nil) (fun _ _ _ _ _ => (pe_tup (pa_cons pe_int (pa_cons pe_int pa_nil)))))
  (pss_cons (ps_for PassesOwn.never rfl (pi_range1 rfl T.n_range (pa_cons (pe_callB call_lenU (by rfl) T.n_len (by decide +kernel) (pa_cons (pv 0) pa_nil)) pa_nil)) (pg_name (i := 3) (sc__law_product).nd rfl (by first | exact Or.inl rfl | exact Or.inr rfl))
   (pss_one (ps_if (pt_cmpR (op_neU hr.units) (pe_ix ix_seq (pe_ix ix_seq (pv 0) (pv 3) (fun _ _ => rfl)) pe_int (fun _ _ => rfl)) pe_int (nomark _))
   (pss_one (ps_for PassesOwn.never rfl (pi_range1 rfl T.n_range (pa_cons (pe_callB call_lenU (by rfl) T.n_len (by decide +kernel) (pa_cons (pv 1) pa_nil)) pa_nil)) (pg_name (i := 4) (sc__law_product).nd rfl (by first | exact Or.inl rfl | exact Or.inr rfl))
   (pss_one (ps_asg (pe_call (ok__law_plus T hseer) (hr.mono (by decide)) rfl T.g__law_plus T.k__law_plus T.b__law_plus .nil pass0 (pa_cons (pe_ix ix_seq (pv 2) (pe_op op_addU (pv 3) (pv 4)) (fun _ _ => rfl)) (pa_cons (pe_call (ok__law_times T hseer) (hr.mono (by decide)) rfl T.g__law_times T.k__law_times T.b__law_times .nil pass0 (pa_cons (pe_ix ix_seq (pv 0) (pv 3) (fun _ _ => rfl)) (pa_cons (pe_ix ix_seq (pv 1) (pv 4) (fun _ _ => rfl)) pa_nil))) pa_nil))) (pg_sub (pv 2) (pe_op op_addU (pv 3) (pv 4)) set_list)))))
   pss_nil)))
  (pss_one (ps_ret (pe_call (ok__law_trim T hseer) (hr.mono (by decide)) rfl T.g__law_trim T.k__law_trim T.b__law_trim .nil pass0 (pa_cons (pv 2) pa_nil)))))), ?_⟩
    walk_at "go"
    obtain ⟨N, hN⟩ : ∃ N : Nat, (if (xs.length : Int) + ys.length - 1 > 0 then (xs.length : Int) + ys.length - 1 else 0) = N := ⟨xs.length + ys.length - 1, by split <;> omega⟩
    have hN2 : N = p.length + q.length - 1 := by rw [← la, ← lb]; split at hN <;> omega
    rw [hN]
    refine u_rng1 (by omega) ?_
    refine lcK walk_range0 (fun D i acc H' => Loc K H D H' (List.replicate i 0)) (fun D hD => Loc.new hD (Same.refl H) trivial) (fun _ _ _ _ _ _ _ => trivial) ?_ ?_
    · rintro D i acc x H1 H' hD hi L ⟨rfl, rfl⟩
      walk_at "st"
      refine ⟨rfl, ?_⟩
      walk_at "st"
      intro z H2 e2 f2
      refine lcLoc (L.ext e2) (by rw [List.length_replicate]; omega) ⟨z, rfl, f2 K⟩ fun acc H3 L3 _ => ?_
      rw [rep_succ]; exact L3
    rintro D acc H1 hD L
    have e := L.1
    walk_at "st"
    refine u_rng1 (by omega) ?_
    refine forK walk_range0 (fun j σ H' => (∃ r, Loc K H D H' r ∧ r.length = N ∧ ∀ i, i < N → cf r i = pc p q j i) ∧ ∃ l1 l2 : Option V, σ = [some (.ref a), some (.ref b), some (.ref D), l1, l2]) ⟨⟨_, L, by rw [List.length_replicate]; omega, fun i _ => by rw [cf_rep]; rfl⟩, _, _, rfl⟩ (fun _ _ _ _ _ => trivial) ?_ ?_
    · rintro j x σ H1 H' hj ⟨⟨r, L, hrl, hr2⟩, l1, l2, rfl⟩ ⟨rfl, rfl⟩
      have e := L.1
      have hj' : j < p.length := by omega
      walk_at "st"
      refine u_at (e.sq ha) (fa.same e) rfl hj' fun z hz => ?_
      walk_at "st"
      refine u_iteN (fun h => ?_) (fun h => ?_)
      · walk_at "st"
        refine u_rng1 (by omega) ?_
        refine forK walk_range0 (fun kk σ H' => (∃ r, Loc K H D H' r ∧ r.length = N ∧ ∀ i, i < N → cf r i = pc p q (if j ≤ i ∧ i < j + kk then j + 1 else j) i) ∧ ∃ l2 : Option V, σ = [some (.ref a), some (.ref b), some (.ref D), some (.int j), l2]) ⟨⟨r, L, hrl, fun i hi => by rw [if_neg (by omega)]; exact hr2 i hi⟩, _, rfl⟩ (fun _ _ _ _ _ => trivial) ?_ ?_
        · rintro kk x σ H2 H3 hkk ⟨⟨r, L, hrl, hr2⟩, l2, rfl⟩ ⟨rfl, rfl⟩
          have e := L.1
          have hk' : kk < q.length := by omega
          have c1 : pc p q j (j + kk) = cf r (j + kk) := by rw [hr2 _ (by omega), if_neg (by omega)]
          have c2 : pc p q (j + 1) (j + kk) = cf r (j + kk) + cf p j * cf q kk := by rw [pc_succ, c1, if_pos (by omega), show j + kk - j = kk by omega]
          have q1 : Bq (sp + sq + 10) (cf r (j + kk)) := by rw [← c1]; exact pc_bq zp zq (by omega) n0 _
          have q2 : Bq (sp + sq + 10) (cf p j * cf q kk) := by
            by_cases h0 : 0 < sq
            · exact (((zp.bqL n0).cf n0 j).mulQ ((zq.bqL h0).cf h0 kk) n0).mono (by omega)
            · exact (((zp.bqL n0).cf n0 j).mulQ (((zq.mono (t := 1) (by omega)).bqL (by decide)).cf (by decide) kk) n0).mono (by omega)
          walk_at "st"
          refine u_atLoc (i := j + kk) L (by omega) (by omega) fun z1 hz1 => ?_
          walk_at "st"
          refine u_at (e.sq ha) (fa.same e) rfl hj' fun z2 hz2 => ?_
          walk_at "st"
          refine u_at (e.sq hb) (fb.same e) rfl hk' fun z3 hz3 => ?_
          walk_at "st"
          refine ⟨_, _, _, _, _, rfl, ⟨z2, rfl, hz2⟩, ⟨z3, rfl, hz3⟩, bp.cf (by omega) j, bq.cf (by omega) kk, n1, fun v H4 e4 f4 => ?_⟩
          walk_at "st"
          refine ⟨_, _, _, _, _, rfl, ⟨z1, rfl, e4.t hz1⟩, f4, q1, q2, n1, fun v5 H5 e5 f5 => ?_⟩
          walk_at "st"
          refine u_setLoc (i := j + kk) ((L.ext e4).ext e5) (by omega) (by omega) f5 fun H6 L6 _ => ?_
          walk_at "st"
          refine ⟨⟨_, L6, by rw [List.length_set]; exact hrl, fun i hi => ?_⟩, _, rfl⟩
          rw [cf_set (by omega)]
          split
          · rename_i z; subst z; rw [if_pos (by omega), c2]
          · rename_i z; rw [hr2 i hi]
            by_cases c : j ≤ i ∧ i < j + kk
            · rw [if_pos c, if_pos (by omega)]
            · rw [if_neg c, if_neg (by omega)]
        · rintro σ H2 ⟨⟨r, L, hrl, hr2⟩, l2, rfl⟩
          walk_at "st"
          refine ⟨⟨r, L, hrl, fun i hi => ?_⟩, _, _, rfl⟩
          rw [hr2 i hi]
          split
          · rfl
          · rename_i z; exact (pc_pick (by omega)).symm
      · walk_at "st"
        refine ⟨⟨r, L, hrl, fun i hi => ?_⟩, _, _, rfl⟩
        rw [hr2 i hi, pc_succ, Rat.num_eq_zero.mp h]
        split <;> grind
    · rintro σ H2 ⟨⟨r, L, hrl, hr2⟩, l1, l2, rfl⟩
      walk_at "st"
      refine ⟨_, _, rfl, L.row, by omega, fun v' H' e f => k v' H' (L.1.trans e) ?_⟩
      have z : trim r = pmul p q := trim_pmul fun i => by
        by_cases hi : i < N
        · rw [hr2 i hi]; exact cv_ge (by omega)
        · rw [cf_out (by omega), cv_out (by omega)]
      rw [← z]; exact f
end
end K03

set_option maxHeartbeats 4000000
namespace K03
open PySem PySem.Spec PyProof.Rows L2 Ly

local macro_rules | `(tactic| walk_at "bits") => `(tactic| first
  | exact Or.inl (Or.inl ⟨by omega, by omega⟩) | exact Or.inl (Or.inr ⟨by omega, by omega⟩)
  | exact Ly.Bz.cmul (by assumption) (by assumption) (by omega)
  | exact Or.inr ⟨400, 400, by decide +kernel, by decide +kernel, by decide⟩)
local macro_rules | `(tactic| walk_at "sq") => `(tactic| first
  | assumption
  | ((with_reducible apply L2.Same.t); (focus assumption); walk_at "sq")
  | ((with_reducible apply L2.Same.sq); (focus assumption); walk_at "sq")
  | ((with_reducible apply Ly.same_fr); (focus assumption); walk_at "sq"))
local macro_rules | `(tactic| walk_at "st1") => `(tactic| first
  | with_reducible refine Ly.st_seq ?_
  | with_reducible refine Ly.st_asg ?_
  | with_reducible refine Ly.st_nx ?_
  | with_reducible refine Ly.st_rt ?_
  | ((with_reducible show L2.tVar _ _ _ _); refine Ly.st_var rfl ?_)
  | with_reducible refine Ly.st_c ?_
  | with_reducible refine Ly.st_op ?_
  | with_reducible refine Ly.st_name ?_
  | with_reducible refine Ly.st_ifs ?_
  | with_reducible refine Ly.st_ret ?_
  | with_reducible refine Ly.st_cons ?_
  | with_reducible refine Ly.st_nil ?_
  | with_reducible refine Ly.st_cb ?_
  | with_reducible refine Ly.st_bm ?_
  | with_reducible refine Ly.st_call ?_
  | with_reducible refine Ly.st_test ?_
  | with_reducible refine Ly.st_ex ?_
  | with_reducible refine Ly.st_truth ?_
  | with_reducible refine Ly.st_un ?_
  | with_reducible refine Ly.st_neg ?_
  | with_reducible refine Ly.st_nextS ?_
  | with_reducible refine Ly.st_drop ?_
  | with_reducible refine Ly.st_not ?_
  | with_reducible refine Ly.st_and ?_
  | with_reducible refine Ly.st_or ?_
  | with_reducible refine Ly.st_andV ?_
  | with_reducible refine Ly.st_orV ?_
  | with_reducible refine Ly.st_notV ?_
  | with_reducible refine Ly.st_ifE ?_
  | with_reducible refine Ly.st_callS ?_
  | with_reducible refine Ly.u_iteF ?_
  | with_reducible refine Ly.u_iteT ?_
  | with_reducible refine Ly.st_tup01 ?_
  | with_reducible refine Ly.st_tup11 ?_
  | with_reducible refine Ly.st_tup ?_
  | with_reducible refine Ly.st_lst ?_
  | with_reducible refine Ly.st_par ?_
  | with_reducible refine Ly.st_sub ?_
  | with_reducible refine Ly.st_sl ?_
  | with_reducible refine Ly.st_nopart ?_
  | with_reducible refine Ly.st_part ?_
  | with_reducible refine Ly.st_exI ?_
  | with_reducible refine Ly.st_ex2 ?_
  | with_reducible refine Ly.u_add ?_
  | with_reducible refine Ly.u_rI0 ?_
  | with_reducible refine Ly.u_eq ?_
  | with_reducible refine Ly.u_ne ?_
  | with_reducible refine Ly.u_truB ?_
  | with_reducible refine Ly.u_int ?_
  | with_reducible refine Ly.u_intB ?_
  | with_reducible refine Ly.u_abs ?_
  | ((with_reducible show Ly.rLenU _ _ _ _); refine Ly.u_len (by walk_at "sq") ?_)
  | with_reducible refine Ly.u_max ?_
  | with_reducible refine Ly.u_tru ?_
  | (with_reducible refine Ly.u_fr0 (by walk_at "sq") ?_)
  | (with_reducible refine Ly.u_fr1 (by walk_at "sq") ?_)
  | ((with_reducible refine Ly.u_mul ?c ?_); (case c => walk_at "bits"))
  | with_reducible refine Ly.st_for ?_
  | with_reducible refine Ly.st_lc ?_
  | with_reducible refine Ly.st_iSeq ?_
  | with_reducible refine Ly.st_iEnum ?_
  | with_reducible refine Ly.st_iRev ?_
  | with_reducible refine Ly.st_iRng1 ?_
  | with_reducible refine Ly.st_iRng2 ?_
  | ((with_reducible refine Ly.u_pow ?c ?_); (case c => exact ⟨by decide, by decide, by decide⟩))
  | ((with_reducible show L2.rIx _ _ _ _ _); refine Ly.u_ixL (by assumption) rfl ?_)
  | ((with_reducible refine Ly.u_moP ?c ?_); (case c => first | assumption | omega | decide))
  | ((with_reducible refine Ly.u_fdPos ?c ?_); (case c => first | assumption | omega | decide))
  | ((with_reducible refine Ly.u_mo ?c ?_); (case c => first | assumption | omega))
  | ((with_reducible refine Ly.u_fd ?c ?_); (case c => first | assumption | omega)))
local macro_rules | `(tactic| walk_at "st") => `(tactic| repeat walk_at "st1")
local macro_rules | `(tactic| walk_at "go") => `(tactic| ((try dsimp only [L2.cxOf]); walk_at "st"))

section
variable {w : World} {K : PySem.W.Frag} {mg : Str → Option Value} {base : Heap}
/-- the rest of a division -/
def sp_rest (K : PySem.W.Frag) : Sp := fun vs H Q _ => ∃ (v w : V) (p u : List Rat) (S s : Nat), vs = [v, w] ∧ Row K H v p ∧ Row K H w u ∧ Sz S p ∧ Sz s u ∧ 0 < u.length ∧ IsT u ∧ S + (p.length + 1 - u.length) * (s + 1) + 2 * s + 2 ≤ 60000000 ∧ p.length ≤ 1000 ∧ u.length ≤ 1000 ∧
  ∀ v' H', Same H H' → RowL K H' v' (prem p u) → Q v' H'
theorem ok__law_rest (T : Tx K mg) (hseer : base.NoSeer) : FnOk PP w K mg base CX0 39 T.a__law_rest T.d__law_rest ["left", "right"] (sp_rest K) := by
  refine T.F__law_rest.ok sc__law_rest (fun vs H Q E h => ?_) (fun cdv A outer s H vs Q E hr h => ?_)
  · obtain ⟨_, _, _, _, _, _, rfl, _⟩ := h; rfl
  · obtain ⟨_, _, p, u, S, t, rfl, ⟨a, xs, rfl, ha, fa⟩, ⟨b, ys, rfl, hb, fb⟩, zp, zu, hu, ht, nn, lp, lq, k⟩ := h
    have la := fa.len
    have lb := fb.len
    have tp : 0 < t := zu.pos
    obtain ⟨n, hn⟩ : ∃ n, n = S + (p.length + 1 - u.length) * (t + 1) + 2 * t + 2 := ⟨_, rfl⟩
    have bu : BqL n u := (zu.bqL tp).mono (by omega)
    have tb : t ≤ n := by omega
    refine ⟨_, (pss_cons (ps_set (i := 2) (sc__law_rest).nd rfl (by first | exact Or.inl rfl | exact Or.inr rfl) (pe_callTy call_listU (by rfl) T.n_list (by decide +kernel) (pa_cons (pv 0) pa_nil)))
  (pss_cons (ps_set (i := 3) (sc__law_rest).nd rfl (by first | exact Or.inl rfl | exact Or.inr rfl) (pe_callB (call_maxU rfl) (by rfl) T.n_max (by decide +kernel) (pa_cons pe_int (pa_cons (pe_op op_addU (pe_op op_sub (pe_callB call_lenU (by rfl) T.n_len (by decide +kernel) (pa_cons (pv 0) pa_nil)) (pe_callB call_lenU (by rfl) T.n_len (by decide +kernel) (pa_cons (pv 1) pa_nil))) pe_int) pa_nil))))
  (pss_cons (ps_for PassesOwn.never rfl (pi_range1 rfl T.n_range (pa_cons (pv 3) pa_nil)) (pg_name (i := 4) (sc__law_rest).nd rfl (by first | exact Or.inl rfl | exact Or.inr rfl))
   (pss_cons (ps_set (i := 5) (sc__law_rest).nd rfl (by first | exact Or.inl rfl | exact Or.inr rfl) (pe_op op_sub (pe_op op_sub (pv 3) pe_int) (pv 4)))
  (pss_cons (ps_set (i := 6) (sc__law_rest).nd rfl (by first | exact Or.inl rfl | exact Or.inr rfl) (pe_call (ok__law_over T hseer) (hr.mono (by decide)) rfl T.g__law_over T.k__law_over T.b__law_over .nil pass0 (pa_cons (pe_ix ix_seq (pv 2) (pe_op op_sub (pe_op op_addU (pv 5) (pe_callB call_lenU (by rfl) T.n_len (by decide +kernel) (pa_cons (pv 1) pa_nil))) pe_int) (fun _ _ => rfl)) (pa_cons (pe_ix ix_seq (pv 1) (pe_op op_sub (pe_callB call_lenU (by rfl) T.n_len (by decide +kernel) (pa_cons (pv 1) pa_nil)) pe_int) (fun _ _ => rfl)) pa_nil))))
  (pss_one (ps_for PassesOwn.never rfl (pi_range1 rfl T.n_range (pa_cons (pe_callB call_lenU (by rfl) T.n_len (by decide +kernel) (pa_cons (pv 1) pa_nil)) pa_nil)) (pg_name (i := 7) (sc__law_rest).nd rfl (by first | exact Or.inl rfl | exact Or.inr rfl))
   (pss_one (ps_asg (pe_call (ok__law_minus T hseer) (hr.mono (by decide)) rfl T.g__law_minus T.k__law_minus T.b__law_minus .nil pass0 (pa_cons (pe_ix ix_seq (pv 2) (pe_op op_addU (pv 5) (pv 7)) (fun _ _ => rfl)) (pa_cons (pe_call (ok__law_times T hseer) (hr.mono (by decide)) rfl T.g__law_times T.k__law_times T.b__law_times .nil pass0 (pa_cons (pv 6) (pa_cons (pe_ix ix_seq (pv 1) (pv 7) (fun _ _ => rfl)) pa_nil))) pa_nil))) (pg_sub (pv 2) (pe_op op_addU (pv 5) (pv 7)) set_list))))))))
  (pss_one (ps_ret (pe_call (ok__law_trim T hseer) (hr.mono (by decide)) rfl T.g__law_trim T.k__law_trim T.b__law_trim .nil pass0 (pa_cons (pv 2) pa_nil))))))), ?_⟩
    walk_at "go"
    refine u_list ha fun D hD => ?_
    have L0 : Loc K H D (upd H D (.lst xs)) p := Loc.new hD (Same.refl H) fa
    have e := L0.1
    walk_at "st"
    obtain ⟨N, hN⟩ : ∃ N : Nat, (if (xs.length : Int) - ys.length + 1 > 0 then (xs.length : Int) - ys.length + 1 else 0) = N := ⟨xs.length + 1 - ys.length, by split <;> omega⟩
    have hN2 : N = p.length + 1 - u.length := by rw [← la, ← lb]; split at hN <;> omega
    rw [hN]
    refine u_rng1 (by omega) ?_
    refine forK walk_range0 (fun j σ H' => (∃ r, Loc K H D H' r ∧ r.length = p.length ∧ rdn u (N - j) (cf r) = remC p u ∧ Szf (S + j * (t + 1)) (cf r)) ∧ ∃ l1 l2 l3 l4 : Option V, σ = [some (.ref a), some (.ref b), some (.ref D), some (.int N), l1, l2, l3, l4]) ⟨⟨_, L0, rfl, by rw [hN2]; rfl, by rw [Nat.zero_mul]; exact zp.f⟩, _, _, _, _, rfl⟩ (fun _ _ _ _ _ => trivial) ?_ ?_
    · rintro j x σ H1 H' hj ⟨⟨r, L, hrl, hr2, hr3⟩, l1, l2, l3, l4, rfl⟩ ⟨rfl, rfl⟩
      have e := L.1
      obtain ⟨at', hat⟩ : ∃ at' : Nat, at' = N - 1 - j := ⟨_, rfl⟩
      have hz := rs_sz (a := at') hr3 zu.f (ht hu)
      have hm : (j + 1) * (t + 1) ≤ N * (t + 1) := Nat.mul_le_mul_right _ (by omega)
      rw [Nat.succ_mul] at hm
      have hb1 : S + j * (t + 1) + 2 * t + 1 ≤ n := by rw [hn, ← hN2]; omega
      have br : ∀ i, Bq n (cf r i) := fun i => (hr3.bq hr3.pos i).mono (by omega)
      have bf : Bq (S + j * (t + 1) + t) (cf r (at' + u.length - 1) / cf u (u.length - 1)) := (hr3.bq hr3.pos _).divQ ((zu.bqL tp).cf tp _) hr3.pos (ht hu)
      walk_at "st"
      refine u_atLoc (i := at' + u.length - 1) L (by omega) (by omega) fun z1 hz1 => ?_
      walk_at "st"
      refine u_at (i := u.length - 1) (e.sq hb) (fb.same e) (by omega) (by omega) fun z2 hz2 => ?_
      walk_at "st"
      refine ⟨_, _, _, _, n, rfl, ⟨z1, rfl, hz1⟩, ⟨z2, rfl, hz2⟩, br _, bu.cf (by omega) _, by omega, ht hu, fun vf Hf ef ff => ?_⟩
      have Lf := L.ext ef
      have e := Lf.1
      walk_at "st"
      refine u_rng1 (by omega) ?_
      refine forK walk_range0 (fun kk σ H' => Imm Hf H' ∧ (∃ r', Loc K H D H' r' ∧ r'.length = p.length ∧ ∀ i, cf r' i = if at' ≤ i ∧ i < at' + kk then rs u at' (cf r) i else cf r i) ∧ ∃ l2 : Option V, σ = [some (.ref a), some (.ref b), some (.ref D), some (.int N), some (.int j), some (.int at'), some vf, l2]) ⟨Imm.refl _, ⟨r, Lf, hrl, fun i => by rw [if_neg (by omega)]⟩, _, by rw [show (N : Int) - 1 - (j : Int) = (at' : Int) by omega]; rfl⟩ (fun _ _ _ _ _ => trivial) ?_ ?_
      · rintro kk x σ H2 H3 hkk ⟨im, ⟨r', L2, hrl2, hr4⟩, l5, rfl⟩ ⟨rfl, rfl⟩
        have e := L2.1
        have hk' : kk < u.length := by omega
        have c1 : cf r' (at' + kk) = cf r (at' + kk) := by rw [hr4, if_neg (by omega)]
        have c2 : rs u at' (cf r) (at' + kk) = cf r' (at' + kk) - cf r (at' + u.length - 1) / cf u (u.length - 1) * cf u kk := by
          unfold rs
          rw [c1, if_pos (by omega), show at' + kk - at' = kk by omega]
        walk_at "st"
        refine u_atLoc (i := at' + kk) L2 (by omega) (by omega) fun z3 hz3 => ?_
        walk_at "st"
        refine u_at (e.sq hb) (fb.same e) rfl hk' fun z4 hz4 => ?_
        walk_at "st"
        refine ⟨_, _, _, _, n, rfl, ff.imm im, ⟨z4, rfl, hz4⟩, bf.mono (by omega), bu.cf (by omega) _, by omega, fun v4 H4 e4 f4 => ?_⟩
        walk_at "st"
        refine ⟨_, _, _, _, n, rfl, ⟨z3, rfl, e4.t hz3⟩, f4, by rw [c1]; exact br _, (bf.mulQ ((zu.bqL tp).cf tp _) (by omega)).mono (by omega), by omega, fun v5 H5 e5 f5 => ?_⟩
        walk_at "st"
        refine u_setLoc (i := at' + kk) ((L2.ext e4).ext e5) (by omega) (by omega) f5 fun H6 L6 i6 => ?_
        walk_at "st"
        refine ⟨((im.trans e4.imm).trans e5.imm).trans i6, ⟨_, L6, by rw [List.length_set]; exact hrl2, fun i => ?_⟩, _, rfl⟩
        rw [cf_set (by omega)]
        split
        · rename_i z; subst z; rw [if_pos (by omega), c2]
        · rename_i z; rw [hr4 i]
          by_cases c : at' ≤ i ∧ i < at' + kk
          · rw [if_pos c, if_pos (by omega)]
          · rw [if_neg c, if_neg (by omega)]
      · rintro σ H2 ⟨im, ⟨r', L2, hrl2, hr4⟩, l5, rfl⟩
        walk_at "st"
        have z : cf r' = rs u at' (cf r) := funext fun i => by
          rw [hr4 i]
          split
          · rfl
          · rename_i z
            unfold rs
            split
            · rw [cf_out (p := u) (i := i - at') (by omega)]; grind
            · grind
        refine ⟨⟨r', L2, hrl2, ?_, ?_⟩, _, _, _, _, rfl⟩
        · rw [z, ← hr2, show N - j = (N - (j + 1)) + 1 by omega, show at' = N - (j + 1) by omega]; rfl
        · rw [z]
          exact hz.1.mono (by rw [Nat.succ_mul]; omega)
    · rintro σ H2 ⟨⟨r, L, hrl, hr2, hr3⟩, l1, l2, l3, l4, rfl⟩
      walk_at "st"
      refine ⟨_, _, rfl, L.row, by omega, fun v' H' e f => k v' H' (L.1.trans e) ?_⟩
      rw [show N - (N : Int).toNat = 0 by omega] at hr2
      rw [← trim_prem hu ht (r := r) fun i => by rw [← hr2]; rfl]
      exact f
/-- by the last one -/
def sp_monic (K : PySem.W.Frag) : Sp := fun vs H Q _ => ∃ (v : V) (p : List Rat) (n : Nat), vs = [v] ∧ Row K H v p ∧ BqL n p ∧ 0 < n ∧ n ≤ 60000000 ∧ IsT p ∧ p.length ≤ 1000 ∧ ∀ v' H', Same H H' → RowL K H' v' (monic p) → Q v' H'
theorem ok__law_monic (T : Tx K mg) (hseer : base.NoSeer) : FnOk PP w K mg base CX0 39 T.a__law_monic T.d__law_monic ["row"] (sp_monic K) := by
  refine T.F__law_monic.ok sc__law_monic (fun vs H Q E h => ?_) (fun cdv A outer s H vs Q E hr h => ?_)
  · obtain ⟨_, _, _, rfl, _⟩ := h; rfl
  · obtain ⟨_, p, n, rfl, ⟨a, xs, rfl, ha, fa⟩, bp, n0, n1, ht, lp, k⟩ := h
    have la := fa.len
    refine ⟨_, (pss_cons (ps_if (pt_cmpR (op_eqU hr.units) (pe_callB call_lenU (by rfl) T.n_len (by decide +kernel) (pa_cons (pv 0) pa_nil)) pe_int (nomark _))
   (pss_one (ps_ret (pe_lst pa_nil)))
   pss_nil)
  (pss_cons (ps_set (i := 1) (sc__law_monic).nd rfl (by first | exact Or.inl rfl | exact Or.inr rfl) (pe_ix ix_seq (pv 0) (pe_op op_sub (pe_callB call_lenU (by rfl) T.n_len (by decide +kernel) (pa_cons (pv 0) pa_nil)) pe_int) (fun _ _ => rfl)))
  (pss_one (ps_ret (pe_lc (own := [("p", 2)]) rfl (sc__law_monic).nd (pi_seqA (pv 0)) (blkOk_by (own := [("p", 2)]) (N := n__law_monic) (sc := defScope s__law_monic) (by decide +kernel)) (fun _ _ _ _ _ => (pg_name (i := 2) (sc__law_monic).nd rfl (by first | exact Or.inl rfl | exact Or.inr rfl))) (fun _ _ _ _ _ => pts_nil) (fun _ _ _ _ _ => (pe_call (ok__law_over T hseer) (hr.mono (by decide)) rfl T.g__law_over T.k__law_over T.b__law_over .nil pass0 (pa_cons (pv 2) (pa_cons (pv 1) pa_nil))))))))), ?_⟩
    walk_at "go"
    refine u_ite (fun h => ?_) (fun h => ?_)
    · have : p = [] := List.length_eq_zero_iff.mp (by omega)
      subst this
      walk_at "st"
      exact ⟨by show 0 ≤ sizeLine; decide, fun D hD => k _ _ (same_new hD) ⟨D, [], rfl, upd_same, trivial⟩⟩
    have hl := ht (by omega)
    walk_at "st"
    refine u_at (i := p.length - 1) ha fa (by omega) (by omega) fun z hz => ?_
    walk_at "st"
    refine seqA_go ha fun J G hG hw => ?_
    refine lcK hw (fun D i acc H' => Loc K H D H' ((monic p).take i)) (fun D hD => Loc.new hD (Same.refl H) trivial) (fun D i acc H4 hD hi q => hG _ (q.1.kept _)) (fun D i acc x H4 H5 hD hi L y => ?_) (fun D acc H4 hD L => ?_)
    · obtain ⟨rfl, y2⟩ := y
      have e := L.1
      walk_at "st"
      refine ⟨rfl, ?_⟩
      obtain ⟨v, hv, fv⟩ := fa.at (i := i) (by omega)
      rw [hv] at y2
      cases y2
      walk_at "st"
      refine ⟨_, _, _, _, n, rfl, fv.same e, ⟨z, rfl, e.t hz⟩, bp.cf n0 _, bp.cf n0 _, n1, hl, fun v5 H5 e5 f5 => ?_⟩
      have hi' : i < p.length := by omega
      refine lcLoc (L.ext e5) (by rw [List.length_take]; omega) f5 fun acc H6 L6 _ => ?_
      have : (monic p)[i]? = some (cf p i / cf p (p.length - 1)) := by
        unfold monic
        rw [List.getElem?_map, cf_in hi']
        rfl
      rw [← take_more this]
      exact L6
    · rw [List.take_of_length_le (by rw [monic_len]; omega)] at L
      exact k _ _ L.1 L.row
end
end K03

set_option maxHeartbeats 4000000
namespace K03
open PySem PySem.Spec PyProof.Rows L2 Ly

local macro_rules | `(tactic| walk_at "bits") => `(tactic| first
  | exact Or.inl (Or.inl ⟨by omega, by omega⟩) | exact Or.inl (Or.inr ⟨by omega, by omega⟩)
  | exact Ly.Bz.cmul (by assumption) (by assumption) (by omega)
  | exact Or.inr ⟨400, 400, by decide +kernel, by decide +kernel, by decide⟩)
local macro_rules | `(tactic| walk_at "sq") => `(tactic| first
  | assumption
  | ((with_reducible apply L2.Same.t); (focus assumption); walk_at "sq")
  | ((with_reducible apply L2.Same.sq); (focus assumption); walk_at "sq")
  | ((with_reducible apply Ly.same_fr); (focus assumption); walk_at "sq"))
local macro_rules | `(tactic| walk_at "st1") => `(tactic| first
  | with_reducible refine Ly.st_seq ?_
  | with_reducible refine Ly.st_asg ?_
  | with_reducible refine Ly.st_nx ?_
  | with_reducible refine Ly.st_rt ?_
  | ((with_reducible show L2.tVar _ _ _ _); refine Ly.st_var rfl ?_)
  | with_reducible refine Ly.st_c ?_
  | with_reducible refine Ly.st_op ?_
  | with_reducible refine Ly.st_name ?_
  | with_reducible refine Ly.st_ifs ?_
  | with_reducible refine Ly.st_ret ?_
  | with_reducible refine Ly.st_cons ?_
  | with_reducible refine Ly.st_nil ?_
  | with_reducible refine Ly.st_cb ?_
  | with_reducible refine Ly.st_bm ?_
  | with_reducible refine Ly.st_call ?_
  | with_reducible refine Ly.st_test ?_
  | with_reducible refine Ly.st_ex ?_
  | with_reducible refine Ly.st_truth ?_
  | with_reducible refine Ly.st_un ?_
  | with_reducible refine Ly.st_neg ?_
  | with_reducible refine Ly.st_nextS ?_
  | with_reducible refine Ly.st_drop ?_
  | with_reducible refine Ly.st_not ?_
  | with_reducible refine Ly.st_and ?_
  | with_reducible refine Ly.st_or ?_
  | with_reducible refine Ly.st_andV ?_
  | with_reducible refine Ly.st_orV ?_
  | with_reducible refine Ly.st_notV ?_
  | with_reducible refine Ly.st_ifE ?_
  | with_reducible refine Ly.st_callS ?_
  | with_reducible refine Ly.u_iteF ?_
  | with_reducible refine Ly.u_iteT ?_
  | with_reducible refine Ly.st_tup01 ?_
  | with_reducible refine Ly.st_tup11 ?_
  | with_reducible refine Ly.st_tup ?_
  | with_reducible refine Ly.st_lst ?_
  | with_reducible refine Ly.st_par ?_
  | with_reducible refine Ly.st_sub ?_
  | with_reducible refine Ly.st_sl ?_
  | with_reducible refine Ly.st_nopart ?_
  | with_reducible refine Ly.st_part ?_
  | with_reducible refine Ly.st_exI ?_
  | with_reducible refine Ly.st_ex2 ?_
  | with_reducible refine Ly.u_add ?_
  | with_reducible refine Ly.u_rI0 ?_
  | with_reducible refine Ly.u_eq ?_
  | with_reducible refine Ly.u_ne ?_
  | with_reducible refine Ly.u_truB ?_
  | with_reducible refine Ly.u_int ?_
  | with_reducible refine Ly.u_intB ?_
  | with_reducible refine Ly.u_abs ?_
  | ((with_reducible show Ly.rLenU _ _ _ _); refine Ly.u_len (by walk_at "sq") ?_)
  | with_reducible refine Ly.u_max ?_
  | with_reducible refine Ly.u_tru ?_
  | (with_reducible refine Ly.u_fr0 (by walk_at "sq") ?_)
  | (with_reducible refine Ly.u_fr1 (by walk_at "sq") ?_)
  | ((with_reducible refine Ly.u_mul ?c ?_); (case c => walk_at "bits"))
  | with_reducible refine Ly.st_for ?_
  | with_reducible refine Ly.st_lc ?_
  | with_reducible refine Ly.st_iSeq ?_
  | with_reducible refine Ly.st_iEnum ?_
  | with_reducible refine Ly.st_iRev ?_
  | with_reducible refine Ly.st_iRng1 ?_
  | with_reducible refine Ly.st_iRng2 ?_
  | ((with_reducible refine Ly.u_pow ?c ?_); (case c => exact ⟨by decide, by decide, by decide⟩))
  | ((with_reducible show L2.rIx _ _ _ _ _); refine Ly.u_ixL (by assumption) rfl ?_)
  | ((with_reducible refine Ly.u_moP ?c ?_); (case c => first | assumption | omega | decide))
  | ((with_reducible refine Ly.u_fdPos ?c ?_); (case c => first | assumption | omega | decide))
  | ((with_reducible refine Ly.u_mo ?c ?_); (case c => first | assumption | omega))
  | ((with_reducible refine Ly.u_fd ?c ?_); (case c => first | assumption | omega)))
local macro_rules | `(tactic| walk_at "st") => `(tactic| repeat walk_at "st1")
local macro_rules | `(tactic| walk_at "go") => `(tactic| ((try dsimp only [L2.cxOf]); walk_at "st"))

section
variable {w : World} {K : PySem.W.Frag} {mg : Str → Option Value} {base : Heap}
def pgcd (p q : List Rat) : List Rat := gcdN q.length (monic p) (monic q)
theorem gcd_turn {p q : List Rat} (h : 0 < q.length) : gcdN q.length p q = gcdN (monic (prem p q)).length q (monic (prem p q)) := by
  obtain ⟨m, hm⟩ : ∃ m, q.length = m + 1 := ⟨q.length - 1, by omega⟩
  have := prem_lt (p := p) (u := q) h
  have l := monic_len (prem p q)
  rw [hm]
  show (if q.length = 0 then p else gcdN m q (monic (prem p q))) = _
  rw [if_neg (by omega)]
  exact gcdN_more (by omega) (Nat.le_refl _)
/-- the greatest common divisor -/
def sp_gcd (K : PySem.W.Frag) : Sp := fun vs H Q _ => ∃ (v w : V) (p q : List Rat), vs = [v, w] ∧ Row K H v p ∧ Row K H w q ∧ GInv p q ∧ p.length ≤ 1000 ∧ q.length ≤ 1000 ∧
  ∀ v' H', Same H H' → RowL K H' v' (pgcd p q) → Q v' H'
theorem ok__law_greatest (T : Tx K mg) (hseer : base.NoSeer) : FnOk PP w K mg base CX0 40 T.a__law_greatest T.d__law_greatest ["left", "right"] (sp_gcd K) := by
  refine T.F__law_greatest.ok sc__law_greatest (fun vs H Q E h => ?_) (fun cdv A outer s H vs Q E hr h => ?_)
  · obtain ⟨_, _, _, _, rfl, _⟩ := h; rfl
  · obtain ⟨_, _, p, q, rfl, ⟨a, xs, rfl, ha, fa⟩, ⟨b, ys, rfl, hb, fb⟩, gi, lp, lq, k⟩ := h
    have la := fa.len
    have lb := fb.len
    refine ⟨_, (pss_cons (ps_set (i := 2) (sc__law_greatest).nd rfl (by first | exact Or.inl rfl | exact Or.inr rfl) (pe_call (ok__law_monic T hseer) (hr.mono (by decide)) rfl T.g__law_monic T.k__law_monic T.b__law_monic .nil pass0 (pa_cons (pv 0) pa_nil)))
  (pss_cons (ps_set (i := 3) (sc__law_greatest).nd rfl (by first | exact Or.inl rfl | exact Or.inr rfl) (pe_call (ok__law_monic T hseer) (hr.mono (by decide)) rfl T.g__law_monic T.k__law_monic T.b__law_monic .nil pass0 (pa_cons (pv 1) pa_nil)))
  (pss_cons (ps_for PassesOwn.never rfl (pi_range1 rfl T.n_range (pa_cons (pe_op op_addU (pe_op op_addU (pe_callB call_lenU (by rfl) T.n_len (by decide +kernel) (pa_cons (pv 0) pa_nil)) (pe_callB call_lenU (by rfl) T.n_len (by decide +kernel) (pa_cons (pv 1) pa_nil))) pe_int) pa_nil)) (pg_name (i := 4) (sc__law_greatest).nd rfl (by first | exact Or.inl rfl | exact Or.inr rfl))
   (pss_cons (ps_if (pt_cmpR (op_eqU hr.units) (pe_callB call_lenU (by rfl) T.n_len (by decide +kernel) (pa_cons (pv 3) pa_nil)) pe_int (nomark _))
   (pss_one (ps_ret (pv 2)))
   pss_nil)
  (pss_cons (ps_set (i := 5) (sc__law_greatest).nd rfl (by first | exact Or.inl rfl | exact Or.inr rfl) (pe_call (ok__law_monic T hseer) (hr.mono (by decide)) rfl T.g__law_monic T.k__law_monic T.b__law_monic .nil pass0 (pa_cons (pe_call (ok__law_rest T hseer) (hr.mono (by decide)) rfl T.g__law_rest T.k__law_rest T.b__law_rest .nil pass0 (pa_cons (pv 2) (pa_cons (pv 3) pa_nil))) pa_nil)))
  (pss_cons (ps_set (i := 2) (sc__law_greatest).nd rfl (by first | exact Or.inl rfl | exact Or.inr rfl) (pv 3))
  (pss_one (ps_set (i := 3) (sc__law_greatest).nd rfl (by first | exact Or.inl rfl | exact Or.inr rfl) (pv 5)))))))
  (pss_one (ps_ret (pv 2)))))), ?_⟩
    obtain ⟨M, M0, z1, z2, M1, t1, t2⟩ := id gi
    have M2 : M ≤ 60000000 := by
      have : (M + 1) * 1 ≤ (M + 1) * ((p.length - q.length + 2) * 3 ^ q.length) := Nat.mul_le_mul_left _ (Nat.mul_pos (by omega) (Nat.pow_pos (by decide)))
      omega
    walk_at "go"
    refine ⟨_, p, M, rfl, ⟨a, xs, rfl, ha, fa⟩, z1.bqL M0, M0, M2, t1, lp, fun v1 H1 e1 r1 => ?_⟩
    walk_at "st"
    refine ⟨_, q, M, rfl, Row.same ⟨b, ys, rfl, hb, fb⟩ e1, z2.bqL M0, M0, M2, t2, lq, fun v2 H2 e2 r2 => ?_⟩
    have e : Same H H2 := e1.trans e2
    walk_at "st"
    refine u_rng1 (by omega) ?_
    refine forK walk_range0 (fun j σ H' => Same H H' ∧ (∃ p1 p2 v1 v2, (RowL K H' v1 p1 ∧ RowL K H' v2 p2) ∧ GInv p1 p2 ∧ p1.length ≤ 1000 ∧ p2.length ≤ 1000 ∧ p2.length + j ≤ q.length ∧ gcdN p2.length p1 p2 = pgcd p q ∧ ∃ l1 l2 : Option V, σ = [some (.ref a), some (.ref b), some v1, some v2, l1, l2])) ⟨e, _, _, v1, v2, ⟨r1.same e2, r2⟩, gi.monic, by rw [monic_len]; exact lp, by rw [monic_len]; exact lq, by rw [monic_len]; omega, by rw [monic_len]; rfl, _, _, rfl⟩ (fun _ _ _ _ _ => trivial) ?_ ?_
    · rintro j x σ H3 H' hj ⟨e, p1, p2, v1, v2, ⟨r1, r2⟩, gi, lp1, lp2, hl, hg, l1, l2, rfl⟩ ⟨rfl, rfl⟩
      obtain ⟨a2, xs2, rfl, ha2, fa2⟩ := id r2
      have la2 := fa2.len
      walk_at "st"
      refine u_len (.inl (SqL.of ha2)) ?_
      walk_at "st"
      refine u_ite (fun h => ?_) (fun h => ?_)
      · walk_at "st"
        have : p2.length = 0 := by omega
        rw [this] at hg
        exact k _ _ e (by rw [← hg]; exact r1)
      · have hq : 0 < p2.length := by omega
        obtain ⟨M, M0, z1, z2, M1, t1, t2⟩ := id gi
        have bits := GInv.bits M1 hq
        have zp := sz_prem z1 z2 hq t2
        have hlt := prem_lt (p := p1) (u := p2) hq
        walk_at "st"
        refine ⟨_, _, p1, p2, M, M, rfl, r1.row, r2.row, z1, z2, hq, t2, bits, lp1, lp2, fun v3 H3 e3 r3 => ?_⟩
        walk_at "st"
        refine ⟨_, prem p1 p2, _, rfl, r3.row, zp.bqL (by omega), by omega, by omega, prem_isT _ _, by omega, fun v4 H4 e4 r4 => ?_⟩
        walk_at "st"
        refine ⟨(e.trans e3).trans e4, p2, _, _, v4, ⟨(r2.same e3).same e4, r4⟩, gi.step hq, lp2, by rw [monic_len]; omega, by rw [monic_len]; omega, by rw [← gcd_turn hq]; exact hg, _, _, rfl⟩
    · rintro σ H3 ⟨e, p1, p2, v1, v2, ⟨r1, r2⟩, gi, lp1, lp2, hl, hg, l1, l2, rfl⟩
      omega
/-- the value at x -/
def sp_worth (K : PySem.W.Frag) : Sp := fun vs H Q _ => ∃ (v w : V) (p : List Rat) (x : Rat) (s : Nat), vs = [v, w] ∧ Row K H v p ∧ Fr K H w x ∧ BqL s p ∧ Bq 31 x ∧ 0 < s ∧ s ≤ 100000 ∧ p.length ≤ 100 ∧ RetFr K (worth p x) H Q
theorem pow_bq {x : Rat} (h : Bq 31 x) : ∀ i, Bq (31 * i + 1) (x ^ i)
  | 0 => by rw [Rat.pow_zero]; exact Bq.one (by decide)
  | i + 1 => by rw [Rat.pow_succ]; exact ((pow_bq h i).mulQ h (by omega)).mono (by omega)
theorem sum_bq {s : Nat} {p : List Rat} {x : Rat} (b : BqL s p) (h : Bq 31 x) (s0 : 0 < s) : ∀ i, i ≤ 100 → Bq ((s + 3200) * i + 1) (sumTo i fun j => cf p j * x ^ j)
  | 0, _ => Bq.zero (by omega)
  | i + 1, l => ((sum_bq b h s0 i (by omega)).addQ ((b.cf s0 i).mulQ (pow_bq h i) s0)).mono (by rw [Nat.mul_succ]; omega)
theorem ok__law_worth (T : Tx K mg) (hseer : base.NoSeer) : FnOk PP w K mg base CX0 39 T.a__law_worth T.d__law_worth ["row", "x"] (sp_worth K) := by
  refine T.F__law_worth.ok sc__law_worth (fun vs H Q E h => ?_) (fun cdv A outer s H vs Q E hr h => ?_)
  · obtain ⟨_, _, _, _, _, rfl, _⟩ := h; rfl
  · obtain ⟨_, _, p, x, n, rfl, ⟨a, xs, rfl, ha, fa⟩, ⟨b, rfl, hb⟩, bp, bx, n0, n1, lp, k⟩ := h
    have la := fa.len
    refine ⟨_, (pss_cons (ps_set (i := 2) (sc__law_worth).nd rfl (by first | exact Or.inl rfl | exact Or.inr rfl) (pe_tup (pa_cons pe_int (pa_cons pe_int pa_nil))))
  (pss_cons (ps_set (i := 3) (sc__law_worth).nd rfl (by first | exact Or.inl rfl | exact Or.inr rfl) (pe_tup (pa_cons pe_int (pa_cons pe_int pa_nil))))
  (pss_cons (ps_for PassesOwn.never rfl (pi_seqA (pv 0)) (pg_name (i := 4) (sc__law_worth).nd rfl (by first | exact Or.inl rfl | exact Or.inr rfl))
   (pss_cons (ps_set (i := 2) (sc__law_worth).nd rfl (by first | exact Or.inl rfl | exact Or.inr rfl) (pe_call (ok__law_plus T hseer) (hr.mono (by decide)) rfl T.g__law_plus T.k__law_plus T.b__law_plus .nil pass0 (pa_cons (pv 2) (pa_cons (pe_call (ok__law_times T hseer) (hr.mono (by decide)) rfl T.g__law_times T.k__law_times T.b__law_times .nil pass0 (pa_cons (pv 4) (pa_cons (pv 3) pa_nil))) pa_nil))))
  (pss_one (ps_set (i := 3) (sc__law_worth).nd rfl (by first | exact Or.inl rfl | exact Or.inr rfl) (pe_call (ok__law_times T hseer) (hr.mono (by decide)) rfl T.g__law_times T.k__law_times T.b__law_times .nil pass0 (pa_cons (pv 3) (pa_cons (pv 1) pa_nil)))))))
  (pss_one (ps_ret (pv 2)))))), ?_⟩
    walk_at "go"
    intro z1 H1 e1 f1
    walk_at "st"
    intro z2 H2 e2 f2
    have e : Same H H2 := e1.trans e2
    walk_at "st"
    refine seqA_go (e.sq ha) fun J G hG hw => ?_
    refine forK hw (fun i σ H' => Same H2 H' ∧ ∃ v1 v2 l, σ = [some (.ref a), some (.ref b), some v1, some v2, l] ∧ Fr K H' v1 (sumTo i fun j => cf p j * x ^ j) ∧ Fr K H' v2 (x ^ i)) ⟨Same.refl _, _, _, _, rfl, ⟨z1, rfl, e2.t (f1 K)⟩, ⟨z2, rfl, by rw [Rat.pow_zero]; exact f2 K⟩⟩ (fun i σ H' hi q => hG _ (q.1.kept _)) ?_ ?_
    · rintro i y σ H3 H' hi ⟨e3, v1, v2, l, rfl, q1, q2⟩ ⟨rfl, hy⟩
      obtain ⟨v, hv, fv⟩ := fa.at (i := i) (by omega)
      rw [hv] at hy
      cases hy
      have ee : Same H H' := e.trans e3
      have bs : (n + 3200) * i + 1 ≤ 60000000 := by
        have : (n + 3200) * i ≤ 103200 * 100 := Nat.mul_le_mul (by omega) (by omega)
        omega
      walk_at "st"
      refine ⟨_, _, _, _, 60000000, rfl, fv.same ee, q2, (bp.cf n0 i).mono (by omega), (pow_bq bx i).mono (by omega), Nat.le_refl _, fun v4 H4 e4 f4 => ?_⟩
      walk_at "st"
      refine ⟨_, _, _, _, 60000000, rfl, q1.same e4, f4, (sum_bq bp bx n0 i (by omega)).mono bs, ((bp.cf n0 i).mulQ (pow_bq bx i) n0).mono (by omega), Nat.le_refl _, fun v5 H5 e5 f5 => ?_⟩
      walk_at "st"
      refine ⟨_, _, _, _, 60000000, rfl, (q2.same e4).same e5, ⟨b, rfl, e5.t (e4.t (ee.t hb))⟩, (pow_bq bx i).mono (by omega), bx.mono (by omega), Nat.le_refl _, fun v6 H6 e6 f6 => ?_⟩
      walk_at "st"
      exact ⟨((e3.trans e4).trans e5).trans e6, _, _, _, rfl, f5.same e6, by rw [Rat.pow_succ]; exact f6⟩
    · rintro σ H3 ⟨e3, v1, v2, l, rfl, q1, q2⟩
      walk_at "st"
      refine k _ _ (e.trans e3) ?_
      rw [la] at q1
      exact q1
end
end K03

set_option maxHeartbeats 4000000
namespace K03
open PySem PySem.Spec PyProof.Rows L2 Ly

local macro_rules | `(tactic| walk_at "bits") => `(tactic| first
  | exact Or.inl (Or.inl ⟨by omega, by omega⟩) | exact Or.inl (Or.inr ⟨by omega, by omega⟩)
  | exact Ly.Bz.cmul (by assumption) (by assumption) (by omega)
  | exact Or.inr ⟨400, 400, by decide +kernel, by decide +kernel, by decide⟩)
local macro_rules | `(tactic| walk_at "sq") => `(tactic| first
  | assumption
  | ((with_reducible apply L2.Same.t); (focus assumption); walk_at "sq")
  | ((with_reducible apply L2.Same.sq); (focus assumption); walk_at "sq")
  | ((with_reducible apply Ly.same_fr); (focus assumption); walk_at "sq"))
local macro_rules | `(tactic| walk_at "st1") => `(tactic| first
  | with_reducible refine Ly.st_seq ?_
  | with_reducible refine Ly.st_asg ?_
  | with_reducible refine Ly.st_nx ?_
  | with_reducible refine Ly.st_rt ?_
  | ((with_reducible show L2.tVar _ _ _ _); refine Ly.st_var rfl ?_)
  | with_reducible refine Ly.st_c ?_
  | with_reducible refine Ly.st_op ?_
  | with_reducible refine Ly.st_name ?_
  | with_reducible refine Ly.st_ifs ?_
  | with_reducible refine Ly.st_ret ?_
  | with_reducible refine Ly.st_cons ?_
  | with_reducible refine Ly.st_nil ?_
  | with_reducible refine Ly.st_cb ?_
  | with_reducible refine Ly.st_bm ?_
  | with_reducible refine Ly.st_call ?_
  | with_reducible refine Ly.st_test ?_
  | with_reducible refine Ly.st_ex ?_
  | with_reducible refine Ly.st_truth ?_
  | with_reducible refine Ly.st_un ?_
  | with_reducible refine Ly.st_neg ?_
  | with_reducible refine Ly.st_nextS ?_
  | with_reducible refine Ly.st_drop ?_
  | with_reducible refine Ly.st_not ?_
  | with_reducible refine Ly.st_and ?_
  | with_reducible refine Ly.st_or ?_
  | with_reducible refine Ly.st_andV ?_
  | with_reducible refine Ly.st_orV ?_
  | with_reducible refine Ly.st_notV ?_
  | with_reducible refine Ly.st_ifE ?_
  | with_reducible refine Ly.st_callS ?_
  | with_reducible refine Ly.u_iteF ?_
  | with_reducible refine Ly.u_iteT ?_
  | with_reducible refine Ly.st_tup01 ?_
  | with_reducible refine Ly.st_tup11 ?_
  | with_reducible refine Ly.st_tup ?_
  | with_reducible refine Ly.st_lst ?_
  | with_reducible refine Ly.st_par ?_
  | with_reducible refine Ly.st_sub ?_
  | with_reducible refine Ly.st_sl ?_
  | with_reducible refine Ly.st_nopart ?_
  | with_reducible refine Ly.st_part ?_
  | with_reducible refine Ly.st_exI ?_
  | with_reducible refine Ly.st_ex2 ?_
  | with_reducible refine Ly.u_add ?_
  | with_reducible refine Ly.u_rI0 ?_
  | with_reducible refine Ly.u_eq ?_
  | with_reducible refine Ly.u_ne ?_
  | with_reducible refine Ly.u_truB ?_
  | with_reducible refine Ly.u_int ?_
  | with_reducible refine Ly.u_intB ?_
  | with_reducible refine Ly.u_abs ?_
  | ((with_reducible show Ly.rLenU _ _ _ _); refine Ly.u_len (by walk_at "sq") ?_)
  | with_reducible refine Ly.u_max ?_
  | with_reducible refine Ly.u_tru ?_
  | (with_reducible refine Ly.u_fr0 (by walk_at "sq") ?_)
  | (with_reducible refine Ly.u_fr1 (by walk_at "sq") ?_)
  | ((with_reducible refine Ly.u_mul ?c ?_); (case c => walk_at "bits"))
  | with_reducible refine Ly.st_for ?_
  | with_reducible refine Ly.st_lc ?_
  | with_reducible refine Ly.st_iSeq ?_
  | with_reducible refine Ly.st_iEnum ?_
  | with_reducible refine Ly.st_iRev ?_
  | with_reducible refine Ly.st_iRng1 ?_
  | with_reducible refine Ly.st_iRng2 ?_
  | ((with_reducible refine Ly.u_pow ?c ?_); (case c => exact ⟨by decide, by decide, by decide⟩))
  | ((with_reducible show L2.rIx _ _ _ _ _); refine Ly.u_ixL (by assumption) rfl ?_)
  | ((with_reducible refine Ly.u_moP ?c ?_); (case c => first | assumption | omega | decide))
  | ((with_reducible refine Ly.u_fdPos ?c ?_); (case c => first | assumption | omega | decide))
  | ((with_reducible refine Ly.u_mo ?c ?_); (case c => first | assumption | omega))
  | ((with_reducible refine Ly.u_fd ?c ?_); (case c => first | assumption | omega)))
local macro_rules | `(tactic| walk_at "st") => `(tactic| repeat walk_at "st1")
local macro_rules | `(tactic| walk_at "go") => `(tactic| ((try dsimp only [L2.cxOf]); walk_at "st"))

section
variable {w : World} {K : PySem.W.Frag} {mg : Str → Option Value} {base : Heap}
def sp_pm (K : PySem.W.Frag) : Sp := fun vs H Q _ => ∃ (v f w : V) (p q : List Rat) (c : Rat) (n m l : Nat), vs = [v, f, w] ∧ Row K H v p ∧ Fr K H f c ∧ Row K H w q ∧ BqL n p ∧ Bq m c ∧ BqL l q ∧ 0 < n ∧ 0 < m ∧ 0 < l ∧ n ≤ 60000000 ∧ m + l ≤ 60000000 ∧ q.length ≤ p.length ∧ p.length ≤ 1000 ∧
  ∀ v' H', Same H H' → RowT K H' v' (pm p c q) → Q v' H'
theorem ok_plus_multiple (T : Tx K mg) (hseer : base.NoSeer) : FnOk PP w K mg base CX0 38 T.a_plus_multiple T.d_plus_multiple ["row", "factor", "other"] (sp_pm K) := by
  refine T.F_plus_multiple.ok sc_plus_multiple (fun vs H Q E h => ?_) (fun cdv A outer s H vs Q E hr h => ?_)
  · obtain ⟨_, _, _, _, _, _, _, _, _, rfl, _⟩ := h; rfl
  · obtain ⟨_, _, _, p, q, c, n, m, l, rfl, ⟨a, xs, rfl, ha, fa⟩, ⟨f, rfl, hf⟩, ⟨b, ys, rfl, hb, fb⟩, bp, bc, bq, n0, m0, l0, n1, ml, lqp, lp, k⟩ := h
    have la := fa.len
    have lb := fb.len
    refine ⟨_, (pss_cons (ps_if (pt_cmpR (op_eqU hr.units) (pe_ix ix_seq (pv 1) pe_int (fun _ _ => rfl)) pe_int (nomark _))
   (pss_one (ps_ret (pe_callTy call_tupleU (by rfl) T.n_tuple (by decide +kernel) (pa_cons (pv 0) pa_nil))))
   pss_nil)
  (pss_cons (ps_set (i := 3) (sc_plus_multiple).nd rfl (by first | exact Or.inl rfl | exact Or.inr rfl) (pe_callTy call_listU (by rfl) T.n_list (by decide +kernel) (pa_cons (pv 0) pa_nil)))
  (pss_cons (ps_for PassesOwn.never rfl (pi_enumA rfl T.n_enumerate (pa_cons (pv 2) pa_nil)) (pg_tup rfl (pgs_cons (pg_name (i := 4) (sc_plus_multiple).nd rfl (by first | exact Or.inl rfl | exact Or.inr rfl)) (pgs_cons (pg_name (i := 5) (sc_plus_multiple).nd rfl (by first | exact Or.inl rfl | exact Or.inr rfl)) pgs_nil)))
   (pss_one (ps_if (pt_truthU (pe_ix ix_seq (pv 5) pe_int (fun _ _ => rfl)) (fun _ => rfl))
   (pss_one (ps_asg (pe_call (ok_add T hseer) (hr.mono (by decide)) rfl T.g_add T.k_add T.b_add .nil pass0 (pa_cons (pe_ix ix_seq (pv 3) (pv 4) (fun _ _ => rfl)) (pa_cons (pe_call (ok_multiply T hseer) (hr.mono (by decide)) rfl T.g_multiply T.k_multiply T.b_multiply .nil pass0 (pa_cons (pv 1) (pa_cons (pv 5) pa_nil))) pa_nil))) (pg_sub (pv 3) (pv 4) set_list)))
   pss_nil)))
  (pss_one (ps_ret (pe_callTy call_tupleU (by rfl) T.n_tuple (by decide +kernel) (pa_cons (pv 3) pa_nil))))))), ?_⟩
    walk_at "go"
    refine u_ite (fun h => ?_) (fun h => ?_)
    · walk_at "st"
      refine u_tupleRow ⟨a, xs, rfl, ha, fa⟩ fun v' H' e r => k v' H' e ?_
      rw [Rat.num_eq_zero.mp h, pm_zero]; exact r
    walk_at "st"
    refine u_listRow ⟨a, xs, rfl, ha, fa⟩ (Same.refl H) fun D H1 L e => ?_
    walk_at "st"
    refine enumB_go e hb fun J G hG hw => ?_
    refine forK hw (fun i σ H' => (∃ r, Loc K H D H' r ∧ r.length = p.length ∧ ∀ j, cf r j = if j < i then cf p j + c * cf q j else cf p j) ∧ ∃ l1 l2 : Option V, σ = [some (.ref a), some (.ref f), some (.ref b), some (.ref D), l1, l2])
      ⟨⟨p, L, rfl, fun j => by rw [if_neg (by omega)]⟩, _, _, rfl⟩ (fun i σ H' hi ⟨⟨r, L, _⟩, _⟩ => hG _ L.1) ?_ ?_
    · rintro i x σ H2 H3 hi ⟨⟨r, L, hrl, hr⟩, l1, l2, rfl⟩ ⟨t, x1, x2, rfl, ht, rfl, h1, h2⟩
      cases h1
      obtain ⟨v, hv, z, rfl, hz⟩ := fb.at (i := i) (by omega)
      have h2 : ys[i]? = some x2 := h2
      rw [hv] at h2
      cases h2
      have L := L.ext (same_new (o := .tup [V.int i, V.ref z]) ht)
      have hT : SqT K (upd H2 t (.tup [V.int i, V.ref z])) t [V.int i, V.ref z] := SqT.of upd_same
      generalize upd H2 t (.tup [V.int i, V.ref z]) = H3 at L hT ⊢
      have e := L.1
      have hz3 := e.t hz
      have hf3 := e.t hf
      refine u_pair hT ?_
      walk_at "st"
      refine u_iteB (fun h => ?_) (fun h => ?_)
      · walk_at "st"
        refine u_atLoc (i := i) L rfl (by omega) fun z1 hz1 => ?_
        walk_at "st"
        refine ⟨_, _, _, _, _, rfl, ⟨f, rfl, hf3⟩, ⟨z, rfl, hz3⟩, bc.mono (Nat.le_add_right m l), (bq.cf l0 i).mono (Nat.le_add_left l m), ml, fun v4 H4 e4 f4 => ?_⟩
        walk_at "st"
        have c1 : cf r i = cf p i := by rw [hr, if_neg (by omega)]
        refine ⟨_, _, _, _, 60000000, rfl, ⟨z1, rfl, e4.t hz1⟩, f4, by rw [c1]; exact (bp.cf n0 i).mono n1, (bc.mulQ (bq.cf l0 i) m0).mono ml, Nat.le_refl _, fun v5 H5 e5 f5 => ?_⟩
        walk_at "st"
        refine u_setLoc (i := i) ((L.ext e4).ext e5) (by omega) rfl f5 fun H6 L6 _ => ?_
        walk_at "st"
        refine ⟨⟨_, L6, by rw [List.length_set]; exact hrl, fun j => ?_⟩, _, _, rfl⟩
        rw [cf_set (by omega)]
        split
        · rename_i z; subst z; rw [if_pos (by omega), c1]
        · rename_i z; rw [hr j]
          by_cases c : j < i
          · rw [if_pos c, if_pos (by omega)]
          · rw [if_neg c, if_neg (by omega)]
      · walk_at "st"
        refine ⟨⟨r, L, hrl, fun j => ?_⟩, _, _, rfl⟩
        rw [hr j]
        by_cases z : j = i
        · subst z
          have : cf q j = 0 := Rat.num_eq_zero.mp (by simpa using h)
          rw [if_neg (by omega), if_pos (by omega), this]; grind
        · by_cases c : j < i
          · rw [if_pos c, if_pos (by omega)]
          · rw [if_neg c, if_neg (by omega)]
    · rintro σ H2 ⟨⟨r, L, hrl, hr⟩, l1, l2, rfl⟩
      walk_at "st"
      have e : r = pm p c q := cf_ext (by rw [pm_len, hrl]) fun j hj => by
        rw [hr j, cf_pm lqp]
        split
        · rfl
        · rw [cf_out (p := q) (by omega)]; grind
      subst e
      exact u_tupleRow L.row.row fun v' H' e r => k v' H' (L.1.trans e) r
def sp_mult (K : PySem.W.Frag) : Sp := fun vs H Q _ => ∃ (f w : V) (q : List Rat) (c : Rat) (n : Nat), vs = [f, w] ∧ Fr K H f c ∧ Row K H w q ∧ Bq n c ∧ BqL n q ∧ 0 < n ∧ n ≤ 60000000 ∧ q.length ≤ 1000 ∧
  ∀ v' H', Same H H' → RowT K H' v' (q.map fun x => c * x) → Q v' H'
theorem ok_multiple (T : Tx K mg) (hseer : base.NoSeer) : FnOk PP w K mg base CX0 38 T.a_multiple T.d_multiple ["factor", "row"] (sp_mult K) := by
  refine T.F_multiple.ok sc_multiple (fun vs H Q E h => ?_) (fun cdv A outer s H vs Q E hr h => ?_)
  · obtain ⟨_, _, _, _, _, rfl, _⟩ := h; rfl
  · obtain ⟨_, _, q, c, n, rfl, ⟨f, rfl, hf⟩, ⟨b, ys, rfl, hb, fb⟩, bc, bq, n0, n1, lq, k⟩ := h
    have lb := fb.len
    refine ⟨_, (pss_one (ps_ret (pe_callTy call_tupleU (by rfl) T.n_tuple (by decide +kernel) (pa_cons (pe_lc (own := [("p", 2)]) rfl (sc_multiple).nd (pi_seqA (pv 1)) (blkOk_by (own := [("p", 2)]) (N := n_multiple) (sc := defScope s_multiple) (by decide +kernel)) (fun _ _ _ _ _ => (pg_name (i := 2) (sc_multiple).nd rfl (by first | exact Or.inl rfl | exact Or.inr rfl))) (fun _ _ _ _ _ => pts_nil) (fun _ _ _ _ _ => (pe_call (ok_multiply T hseer) (hr.mono (by decide)) rfl T.g_multiply T.k_multiply T.b_multiply .nil pass0 (pa_cons (pv 0) (pa_cons (pv 2) pa_nil))))) pa_nil)))), ?_⟩
    walk_at "go"
    refine seqB_go (Same.refl H) hb fun J G hG hw => ?_
    refine lcK hw (fun D i acc H' => Loc K H D H' ((q.map fun x => c * x).take i)) (fun D hD => Loc.new hD (Same.refl H) trivial) (fun D i acc H4 hD hi L => hG _ L.1) (fun D i acc x H4 H5 hD hi L y => ?_) (fun D acc H4 hD L => ?_)
    · obtain ⟨rfl, y2⟩ := y
      have e := L.1
      walk_at "st"
      refine ⟨rfl, ?_⟩
      obtain ⟨v, hv, fv⟩ := fb.at (i := i) (by omega)
      rw [hv] at y2
      cases y2
      walk_at "st"
      refine ⟨_, _, _, _, n, rfl, ⟨f, rfl, e.t hf⟩, fv.same e, bc, bq.cf n0 _, n1, fun v5 H5 e5 f5 => ?_⟩
      refine lcLoc (L.ext e5) (by rw [List.length_take]; omega) f5 fun acc H6 L6 _ => ?_
      have : (q.map fun x => c * x)[i]? = some (c * cf q i) := by
        rw [List.getElem?_map, cf_in (by omega)]
        rfl
      rw [← take_more this]
      exact L6
    · rw [List.take_of_length_le (by rw [List.length_map]; omega)] at L
      walk_at "st"
      exact u_tupleRow L.row.row fun v' H' e r => k v' H' (L.1.trans e) r
/-- trimmed(row) -/
def sp_trimT (K : PySem.W.Frag) : Sp := fun vs H Q _ => ∃ (v : V) (qs : List Rat), vs = [v] ∧ Row K H v qs ∧ qs.length ≤ 100000 ∧ ∀ v' H', Same H H' → RowT K H' v' (trim qs) → Q v' H'
theorem ok_trimmed (T : Tx K mg) (hseer : base.NoSeer) : FnOk PP w K mg base CX0 36 T.a_trimmed T.d_trimmed ["row"] (sp_trimT K) := by
  refine T.F_trimmed.ok sc_trimmed (fun vs H Q E h => ?_) (fun cdv A outer s H vs Q E hr h => ?_)
  · obtain ⟨_, _, rfl, _⟩ := h; rfl
  · obtain ⟨_, qs, rfl, ⟨a, xs, rfl, ha, hf⟩, hlen, k⟩ := h
    have hl := hf.len
    refine ⟨_, (pss_cons (ps_set (i := 1) (sc_trimmed).nd rfl (by first | exact Or.inl rfl | exact Or.inr rfl) (pe_callB call_lenU (by rfl) T.n_len (by decide +kernel) (pa_cons (pv 0) pa_nil)))
  (pss_cons (ps_while PassesOwn.never (PW.pt (pw_and (pt_cmpR op_gt (pv 1) pe_int (nomark _)) (pw_and1 (pt_cmpR (op_eqU hr.units) (pe_ix ix_seq (pe_ix ix_seq (pv 0) (pe_op op_sub (pv 1) pe_int) (fun _ _ => rfl)) pe_int (fun _ _ => rfl)) pe_int (nomark _)))))
   (pss_one (ps_set (i := 1) (sc_trimmed).nd rfl (by first | exact Or.inl rfl | exact Or.inr rfl) (pe_op op_sub (pv 1) pe_int))))
  (pss_one (ps_ret (pe_callTy call_tupleU (by rfl) T.n_tuple (by decide +kernel) (pa_cons (pe_slice sl_U (pv 0) po_none (po_some (pv 1))) pa_nil)))))), ?_⟩
    walk_at "go"
    refine ⟨fun m σ H' => H' = H ∧ σ = [some (.ref a), some (.int (m : Nat))] ∧ m ≤ qs.length ∧ ∀ i, m ≤ i → cf qs i = 0, ⟨qs.length, rfl, by rw [hl]; rfl, Nat.le_refl _, fun i hi => cf_out hi⟩, ?_⟩
    rintro m σ H' ⟨rfl, rfl, hm, hz⟩
    have fin : (0 < m → cf qs (m - 1) ≠ 0) → ∀ v' H2, Same H' H2 → Row K H2 v' (qs.take m) → rTupleU K [v'] H2 Q := fun h v' H2 e r => by
      refine u_tupleRow r fun v3 H3 e3 r3 => k v3 H3 (e.trans e3) ?_
      have : m = tlen qs := tlen_is hz h
      unfold trim
      rw [← this]; exact r3
    walk_at "st"
    refine u_ite (fun h => ?_) (fun h => ?_)
    · walk_at "st"
      refine u_at (i := m - 1) ha hf (by omega) (by omega) fun z hz2 => ?_
      walk_at "st"
      refine u_ite (fun h2 => ?_) (fun h2 => ?_)
      · refine ⟨_, fun _ _ q => q, ?_⟩
        walk_at "st"
        refine ⟨m - 1, by omega, rfl, by rw [show (m : Int) - 1 = ((m - 1 : Nat) : Int) by omega]; rfl, by omega, tlen_step (by rw [show m - 1 + 1 = m by omega]; exact hz) (Rat.num_eq_zero.mp h2)⟩
      · walk_at "st"
        exact u_slRow ⟨a, xs, rfl, ha, hf⟩ rfl hm (fin fun _ z => h2 (by rw [z]; rfl))
    · walk_at "st"
      exact u_slRow ⟨a, xs, rfl, ha, hf⟩ rfl hm (fin fun z => absurd z (by omega))
end
end K03

set_option maxHeartbeats 4000000
namespace K03
open PySem PySem.Spec PyProof.Rows L2 Ly

local macro_rules | `(tactic| walk_at "bits") => `(tactic| first
  | exact Or.inl (Or.inl ⟨by omega, by omega⟩) | exact Or.inl (Or.inr ⟨by omega, by omega⟩)
  | exact Ly.Bz.cmul (by assumption) (by assumption) (by omega)
  | exact Or.inr ⟨400, 400, by decide +kernel, by decide +kernel, by decide⟩)
local macro_rules | `(tactic| walk_at "sq") => `(tactic| first
  | assumption
  | ((with_reducible apply L2.Same.t); (focus assumption); walk_at "sq")
  | ((with_reducible apply L2.Same.sq); (focus assumption); walk_at "sq")
  | ((with_reducible apply Ly.same_fr); (focus assumption); walk_at "sq"))
local macro_rules | `(tactic| walk_at "st1") => `(tactic| first
  | with_reducible refine Ly.st_seq ?_
  | with_reducible refine Ly.st_asg ?_
  | with_reducible refine Ly.st_nx ?_
  | with_reducible refine Ly.st_rt ?_
  | ((with_reducible show L2.tVar _ _ _ _); refine Ly.st_var rfl ?_)
  | with_reducible refine Ly.st_c ?_
  | with_reducible refine Ly.st_op ?_
  | with_reducible refine Ly.st_name ?_
  | with_reducible refine Ly.st_ifs ?_
  | with_reducible refine Ly.st_ret ?_
  | with_reducible refine Ly.st_cons ?_
  | with_reducible refine Ly.st_nil ?_
  | with_reducible refine Ly.st_cb ?_
  | with_reducible refine Ly.st_bm ?_
  | with_reducible refine Ly.st_call ?_
  | with_reducible refine Ly.st_test ?_
  | with_reducible refine Ly.st_ex ?_
  | with_reducible refine Ly.st_truth ?_
  | with_reducible refine Ly.st_un ?_
  | with_reducible refine Ly.st_neg ?_
  | with_reducible refine Ly.st_nextS ?_
  | with_reducible refine Ly.st_drop ?_
  | with_reducible refine Ly.st_not ?_
  | with_reducible refine Ly.st_and ?_
  | with_reducible refine Ly.st_or ?_
  | with_reducible refine Ly.st_andV ?_
  | with_reducible refine Ly.st_orV ?_
  | with_reducible refine Ly.st_notV ?_
  | with_reducible refine Ly.st_ifE ?_
  | with_reducible refine Ly.st_callS ?_
  | with_reducible refine Ly.u_iteF ?_
  | with_reducible refine Ly.u_iteT ?_
  | with_reducible refine Ly.st_tup01 ?_
  | with_reducible refine Ly.st_tup11 ?_
  | with_reducible refine Ly.st_tup ?_
  | with_reducible refine Ly.st_lst ?_
  | with_reducible refine Ly.st_par ?_
  | with_reducible refine Ly.st_sub ?_
  | with_reducible refine Ly.st_sl ?_
  | with_reducible refine Ly.st_nopart ?_
  | with_reducible refine Ly.st_part ?_
  | with_reducible refine Ly.st_exI ?_
  | with_reducible refine Ly.st_ex2 ?_
  | with_reducible refine Ly.u_add ?_
  | with_reducible refine Ly.u_rI0 ?_
  | with_reducible refine Ly.u_eq ?_
  | with_reducible refine Ly.u_ne ?_
  | with_reducible refine Ly.u_truB ?_
  | with_reducible refine Ly.u_int ?_
  | with_reducible refine Ly.u_intB ?_
  | with_reducible refine Ly.u_abs ?_
  | ((with_reducible show Ly.rLenU _ _ _ _); refine Ly.u_len (by walk_at "sq") ?_)
  | with_reducible refine Ly.u_max ?_
  | with_reducible refine Ly.u_tru ?_
  | (with_reducible refine Ly.u_fr0 (by walk_at "sq") ?_)
  | (with_reducible refine Ly.u_fr1 (by walk_at "sq") ?_)
  | ((with_reducible refine Ly.u_mul ?c ?_); (case c => walk_at "bits"))
  | with_reducible refine Ly.st_for ?_
  | with_reducible refine Ly.st_lc ?_
  | with_reducible refine Ly.st_iSeq ?_
  | with_reducible refine Ly.st_iEnum ?_
  | with_reducible refine Ly.st_iRev ?_
  | with_reducible refine Ly.st_iRng1 ?_
  | with_reducible refine Ly.st_iRng2 ?_
  | ((with_reducible refine Ly.u_pow ?c ?_); (case c => exact ⟨by decide, by decide, by decide⟩))
  | ((with_reducible show L2.rIx _ _ _ _ _); refine Ly.u_ixL (by assumption) rfl ?_)
  | ((with_reducible refine Ly.u_moP ?c ?_); (case c => first | assumption | omega | decide))
  | ((with_reducible refine Ly.u_fdPos ?c ?_); (case c => first | assumption | omega | decide))
  | ((with_reducible refine Ly.u_mo ?c ?_); (case c => first | assumption | omega))
  | ((with_reducible refine Ly.u_fd ?c ?_); (case c => first | assumption | omega)))
local macro_rules | `(tactic| walk_at "st") => `(tactic| repeat walk_at "st1")
local macro_rules | `(tactic| walk_at "go") => `(tactic| ((try dsimp only [L2.cxOf]); walk_at "st"))

section
variable {w : World} {K : PySem.W.Frag} {mg : Str → Option Value} {base : Heap}
theorem oneF (T : Tx K mg) (H : Hp) : Fr K H (.ref T.a_ONE) 1 := ⟨_, rfl, T.z_ONE H⟩
theorem zeroF (T : Tx K mg) (H : Hp) : Fr K H (.ref T.a_ZERO) 0 := ⟨_, rfl, T.z_ZERO H⟩
def sp_addp (K : PySem.W.Frag) : Sp := fun vs H Q _ => ∃ (v w : V) (p q : List Rat) (n : Nat), vs = [v, w] ∧ Row K H v p ∧ Row K H w q ∧ BqL n p ∧ BqL n q ∧ 0 < n ∧ n + 1 ≤ 60000000 ∧ p.length ≤ 1000 ∧ q.length ≤ 1000 ∧
  ∀ v' H', Same H H' → RowT K H' v' (padd p q) → Q v' H'
theorem ok_add_poly (T : Tx K mg) (hseer : base.NoSeer) : FnOk PP w K mg base CX0 39 T.a_add_poly T.d_add_poly ["left", "right"] (sp_addp K) := by
  refine T.F_add_poly.ok sc_add_poly (fun vs H Q E h => ?_) (fun cdv A outer s H vs Q E hr h => ?_)
  · obtain ⟨_, _, _, _, _, rfl, _⟩ := h; rfl
  · obtain ⟨_, _, p, q, n, rfl, ⟨a, xs, rfl, ha, fa⟩, ⟨b, ys, rfl, hb, fb⟩, bp, bq, n0, n1, lp, lq, k⟩ := h
    have la := fa.len
    have lb := fb.len
    refine ⟨_, (pss_cons (ps_if (pt_cmpR op_lt (pe_callB call_lenU (by rfl) T.n_len (by decide +kernel) (pa_cons (pv 0) pa_nil)) (pe_callB call_lenU (by rfl) T.n_len (by decide +kernel) (pa_cons (pv 1) pa_nil)) (nomark _))
   (pss_one (ps_ret (pe_call (ok_trimmed T hseer) (hr.mono (by decide)) rfl T.g_trimmed T.k_trimmed T.b_trimmed .nil pass0 (pa_cons (pe_call (ok_plus_multiple T hseer) (hr.mono (by decide)) rfl T.g_plus_multiple T.k_plus_multiple T.b_plus_multiple .nil pass0 (pa_cons (pv 1) (pa_cons (pe_glob (v := V.ref T.a_ONE) rfl T.g_ONE rfl) (pa_cons (pv 0) pa_nil)))) pa_nil))))
   pss_nil)
  (pss_one (ps_ret (pe_call (ok_trimmed T hseer) (hr.mono (by decide)) rfl T.g_trimmed T.k_trimmed T.b_trimmed .nil pass0 (pa_cons (pe_call (ok_plus_multiple T hseer) (hr.mono (by decide)) rfl T.g_plus_multiple T.k_plus_multiple T.b_plus_multiple .nil pass0 (pa_cons (pv 0) (pa_cons (pe_glob (v := V.ref T.a_ONE) rfl T.g_ONE rfl) (pa_cons (pv 1) pa_nil)))) pa_nil))))), ?_⟩
    walk_at "go"
    refine u_ite (fun h => ?_) (fun h => ?_)
    · walk_at "st"
      refine ⟨_, _, _, q, p, 1, n, 1, n, rfl, ⟨b, ys, rfl, hb, fb⟩, oneF T _, ⟨a, xs, rfl, ha, fa⟩, bq, Bq.one (by decide), bp, n0, by decide, n0, by omega, by omega, by omega, lq, fun v1 H1 e1 r1 => ?_⟩
      walk_at "st"
      refine ⟨_, _, rfl, r1.row, by rw [pm_len]; omega, fun v2 H2 e2 r2 => k v2 H2 (e1.trans e2) ?_⟩
      have z : trim (pm q 1 p) = padd p q := isT_ext (trim_isT _) (padd_isT _ _) fun i => by rw [cf_trim, cf_pm (by omega), cf_padd]; grind
      rw [← z]; exact r2
    · walk_at "st"
      refine ⟨_, _, _, p, q, 1, n, 1, n, rfl, ⟨a, xs, rfl, ha, fa⟩, oneF T _, ⟨b, ys, rfl, hb, fb⟩, bp, Bq.one (by decide), bq, n0, by decide, n0, by omega, by omega, by omega, lp, fun v1 H1 e1 r1 => ?_⟩
      walk_at "st"
      refine ⟨_, _, rfl, r1.row, by rw [pm_len]; omega, fun v2 H2 e2 r2 => k v2 H2 (e1.trans e2) ?_⟩
      have z : trim (pm p 1 q) = padd p q := isT_ext (trim_isT _) (padd_isT _ _) fun i => by rw [cf_trim, cf_pm (by omega), cf_padd]; grind
      rw [← z]; exact r2
def sp_mulT (K : PySem.W.Frag) : Sp := fun vs H Q _ => ∃ (v w : V) (p q : List Rat) (s t : Nat), vs = [v, w] ∧ Row K H v p ∧ Row K H w q ∧ Sz s p ∧ Sz t q ∧ s + t + 10 ≤ 60000000 ∧ p.length ≤ 100 ∧ q.length ≤ 100 ∧
  ∀ v' H', Same H H' → RowT K H' v' (pmul p q) → Q v' H'
theorem ok_multiply_poly (T : Tx K mg) (hseer : base.NoSeer) : FnOk PP w K mg base CX0 38 T.a_multiply_poly T.d_multiply_poly ["left", "right"] (sp_mulT K) := by
  refine T.F_multiply_poly.ok sc_multiply_poly (fun vs H Q E h => ?_) (fun cdv A outer s H vs Q E hr h => ?_)
  · obtain ⟨_, _, _, _, _, _, rfl, _⟩ := h; rfl
  · obtain ⟨_, _, p, q, sp, sq, rfl, ⟨a, xs, rfl, ha, fa⟩, ⟨b, ys, rfl, hb, fb⟩, zp, zq, n1, lp, lq, k⟩ := h
    have la := fa.len
    have lb := fb.len
    have s0 := zp.pos
    have t0 := zq.pos
    have bp : BqL (sp + sq + 10) p := (zp.bqL s0).mono (by omega)
    have bq : BqL (sp + sq + 10) q := (zq.bqL t0).mono (by omega)
    refine ⟨_, (pss_cons (ps_set (i := 2) (sc_multiply_poly).nd rfl (by first | exact Or.inl rfl | exact Or.inr rfl) (pe_callTy call_listU (by rfl) T.n_list (by decide +kernel) (pa_cons (pe_op op_mulU (pe_tup (pa_cons (pe_glob (v := V.ref T.a_ZERO) rfl T.g_ZERO rfl) pa_nil)) (pe_op op_addU (pe_callB call_lenU (by rfl) T.n_len (by decide +kernel) (pa_cons (pv 0) pa_nil)) (pe_callB call_lenU (by rfl) T.n_len (by decide +kernel) (pa_cons (pv 1) pa_nil)))) pa_nil)))
  (pss_cons (ps_for PassesOwn.never rfl (pi_enumA rfl T.n_enumerate (pa_cons (pv 0) pa_nil)) (pg_tup rfl (pgs_cons (pg_name (i := 3) (sc_multiply_poly).nd rfl (by first | exact Or.inl rfl | exact Or.inr rfl)) (pgs_cons (pg_name (i := 4) (sc_multiply_poly).nd rfl (by first | exact Or.inl rfl | exact Or.inr rfl)) pgs_nil)))
   (pss_one (ps_if (pt_truthU (pe_ix ix_seq (pv 4) pe_int (fun _ _ => rfl)) (fun _ => rfl))
   (pss_one (ps_for PassesOwn.never rfl (pi_enumA rfl T.n_enumerate (pa_cons (pv 1) pa_nil)) (pg_tup rfl (pgs_cons (pg_name (i := 5) (sc_multiply_poly).nd rfl (by first | exact Or.inl rfl | exact Or.inr rfl)) (pgs_cons (pg_name (i := 6) (sc_multiply_poly).nd rfl (by first | exact Or.inl rfl | exact Or.inr rfl)) pgs_nil)))
   (pss_one (ps_if (pt_truthU (pe_ix ix_seq (pv 6) pe_int (fun _ _ => rfl)) (fun _ => rfl))
   (pss_one (ps_asg (pe_call (ok_add T hseer) (hr.mono (by decide)) rfl T.g_add T.k_add T.b_add .nil pass0 (pa_cons (pe_ix ix_seq (pv 2) (pe_op op_addU (pv 3) (pv 5)) (fun _ _ => rfl)) (pa_cons (pe_call (ok_multiply T hseer) (hr.mono (by decide)) rfl T.g_multiply T.k_multiply T.b_multiply .nil pass0 (pa_cons (pv 4) (pa_cons (pv 6) pa_nil))) pa_nil))) (pg_sub (pv 2) (pe_op op_addU (pv 3) (pv 5)) set_list)))
   pss_nil))))
   pss_nil)))
  (pss_one (ps_ret (pe_call (ok_trimmed T hseer) (hr.mono (by decide)) rfl T.g_trimmed T.k_trimmed T.b_trimmed .nil pass0 (pa_cons (pv 2) pa_nil)))))), ?_⟩
    walk_at "go"
    refine ⟨by show 1 ≤ sizeLine; decide, fun z0 hz0 => ?_⟩
    have e := same_new (H := H) (o := .tup [V.ref T.a_ZERO]) hz0
    have hzT : SqT K (upd H z0 (.tup [V.ref T.a_ZERO])) z0 [V.ref T.a_ZERO] := SqT.of upd_same
    generalize upd H z0 (.tup [V.ref T.a_ZERO]) = H1 at e hzT ⊢
    walk_at "st"
    refine u_repZ hzT (zeroF T _) (by omega) (by omega) fun v2 H2 e2 r2 => ?_
    walk_at "st"
    refine u_listRow r2.row (e.trans e2) fun D H3 L _ => ?_
    obtain ⟨N, hN⟩ : ∃ N, N = p.length + q.length := ⟨_, rfl⟩
    rw [show (xs.length + ys.length : Int).toNat = N by omega] at L
    have e := L.1
    walk_at "st"
    refine enumB_go e ha fun J G hG hw => ?_
    refine forK hw (fun j σ H' => (∃ r, Loc K H D H' r ∧ r.length = N ∧ ∀ i, i < N → cf r i = pc p q j i) ∧ ∃ l1 l2 l3 l4 : Option V, σ = [some (.ref a), some (.ref b), some (.ref D), l1, l2, l3, l4])
      ⟨⟨_, L, by rw [List.length_replicate], fun i _ => by rw [cf_rep]; rfl⟩, _, _, _, _, rfl⟩ (fun i σ H' hi ⟨⟨r, L, _⟩, _⟩ => hG _ L.1) ?_ ?_
    · rintro j x σ H1 H4 hj ⟨⟨r, L, hrl, hr2⟩, l1, l2, l3, l4, rfl⟩ ⟨t, x1, x2, rfl, ht, rfl, h1, h2⟩
      cases h1
      have hj' : j < p.length := by omega
      obtain ⟨v, hv, z, rfl, hz⟩ := fa.at hj'
      have h2 : xs[j]? = some x2 := h2
      rw [hv] at h2
      cases h2
      have L := L.ext (same_new (o := .tup [V.int j, V.ref z]) ht)
      have hT : SqT K (upd H1 t (.tup [V.int j, V.ref z])) t [V.int j, V.ref z] := SqT.of upd_same
      generalize upd H1 t (.tup [V.int j, V.ref z]) = H4 at L hT ⊢
      have e := L.1
      have hz3 := e.t hz
      refine u_pair hT ?_
      walk_at "st"
      refine u_iteB (fun h => ?_) (fun h => ?_)
      · walk_at "st"
        refine enumB_go e hb fun J2 G2 hG2 hw2 => ?_
        refine forK hw2 (fun kk σ H' => (∃ r, Loc K H D H' r ∧ r.length = N ∧ ∀ i, i < N → cf r i = pc p q (if j ≤ i ∧ i < j + kk then j + 1 else j) i) ∧ ∃ l3 l4 : Option V, σ = [some (.ref a), some (.ref b), some (.ref D), some (.int j), some (.ref z), l3, l4])
          ⟨⟨r, L, hrl, fun i hi => by rw [if_neg (by omega)]; exact hr2 i hi⟩, _, _, rfl⟩ (fun i σ H' hi ⟨⟨r, L, _⟩, _⟩ => hG2 _ L.1) ?_ ?_
        · rintro kk x σ H2 H3 hkk ⟨⟨r, L, hrl, hr2⟩, l5, l6, rfl⟩ ⟨t2, x1, x2, rfl, ht2, rfl, h1, h2⟩
          cases h1
          have hk' : kk < q.length := by omega
          obtain ⟨v, hv, z2, rfl, hz2⟩ := fb.at hk'
          have h2 : ys[kk]? = some x2 := h2
          rw [hv] at h2
          cases h2
          have L := L.ext (same_new (o := .tup [V.int kk, V.ref z2]) ht2)
          have hT : SqT K (upd H2 t2 (.tup [V.int kk, V.ref z2])) t2 [V.int kk, V.ref z2] := SqT.of upd_same
          generalize upd H2 t2 (.tup [V.int kk, V.ref z2]) = H3 at L hT ⊢
          have e := L.1
          have hz4 := e.t hz
          have hz5 := e.t hz2
          have c1 : pc p q j (j + kk) = cf r (j + kk) := by rw [hr2 _ (by omega), if_neg (by omega)]
          have c2 : pc p q (j + 1) (j + kk) = cf r (j + kk) + cf p j * cf q kk := by rw [pc_succ, c1, if_pos (by omega), show j + kk - j = kk by omega]
          have q1 : Bq (sp + sq + 10) (cf r (j + kk)) := by rw [← c1]; exact pc_bq zp zq (by omega) s0 _
          have q2 : Bq (sp + sq + 10) (cf p j * cf q kk) := (((zp.bqL s0).cf s0 j).mulQ ((zq.bqL t0).cf t0 kk) s0).mono (by omega)
          have next : ∀ r', r'.length = N → (∀ i, cf r' i = if i = j + kk then cf r (j + kk) + cf p j * cf q kk else cf r i) → ∀ i, i < N → cf r' i = pc p q (if j ≤ i ∧ i < j + (kk + 1) then j + 1 else j) i := fun r' hr' h i hi => by
            rw [h]
            split
            · rename_i z; subst z; rw [if_pos (by omega), c2]
            · rename_i z; rw [hr2 i hi]
              by_cases c : j ≤ i ∧ i < j + kk
              · rw [if_pos c, if_pos (by omega)]
              · rw [if_neg c, if_neg (by omega)]
          refine u_pair hT ?_
          walk_at "st"
          refine u_iteB (fun h => ?_) (fun h => ?_)
          · walk_at "st"
            refine u_atLoc (i := j + kk) L (by omega) (by omega) fun z1 hz1 => ?_
            walk_at "st"
            refine ⟨_, _, _, _, _, rfl, ⟨z, rfl, hz4⟩, ⟨z2, rfl, hz5⟩, bp.cf (by omega) j, bq.cf (by omega) kk, n1, fun v4 H4 e4 f4 => ?_⟩
            walk_at "st"
            refine ⟨_, _, _, _, _, rfl, ⟨z1, rfl, e4.t hz1⟩, f4, q1, q2, n1, fun v5 H5 e5 f5 => ?_⟩
            walk_at "st"
            refine u_setLoc (i := j + kk) ((L.ext e4).ext e5) (by omega) (by omega) f5 fun H6 L6 _ => ?_
            walk_at "st"
            exact ⟨⟨_, L6, by rw [List.length_set]; exact hrl, next _ (by rw [List.length_set]; exact hrl) fun i => cf_set (by omega)⟩, _, _, rfl⟩
          · walk_at "st"
            refine ⟨⟨r, L, hrl, next _ hrl fun i => ?_⟩, _, _, rfl⟩
            have : cf q kk = 0 := Rat.num_eq_zero.mp (by simpa using h)
            split
            · rename_i z; rw [z, this]; grind
            · rfl
        · rintro σ H2 ⟨⟨r, L, hrl, hr2⟩, l5, l6, rfl⟩
          walk_at "st"
          refine ⟨⟨r, L, hrl, fun i hi => ?_⟩, _, _, _, _, rfl⟩
          rw [hr2 i hi]
          split
          · rfl
          · rename_i z; exact (pc_pick (by omega)).symm
      · walk_at "st"
        refine ⟨⟨r, L, hrl, fun i hi => ?_⟩, _, _, _, _, rfl⟩
        have : cf p j = 0 := Rat.num_eq_zero.mp (by simpa using h)
        rw [hr2 i hi, pc_succ, this]
        split <;> grind
    · rintro σ H2 ⟨⟨r, L, hrl, hr2⟩, l1, l2, l3, l4, rfl⟩
      walk_at "st"
      refine ⟨_, _, rfl, L.row.row, by omega, fun v' H' e f => k v' H' (L.1.trans e) ?_⟩
      have z : trim r = pmul p q := trim_pmul fun i => by
        by_cases hi : i < N
        · rw [hr2 i hi]; exact cv_ge (by omega)
        · rw [cf_out (by omega), cv_out (by omega)]
      rw [← z]; exact f
end
end K03

set_option maxHeartbeats 4000000
namespace K03
open PySem PySem.Spec PyProof.Rows L2 Ly

local macro_rules | `(tactic| walk_at "bits") => `(tactic| first
  | exact Or.inl (Or.inl ⟨by omega, by omega⟩) | exact Or.inl (Or.inr ⟨by omega, by omega⟩)
  | exact Ly.Bz.cmul (by assumption) (by assumption) (by omega)
  | exact Or.inr ⟨400, 400, by decide +kernel, by decide +kernel, by decide⟩)
local macro_rules | `(tactic| walk_at "sq") => `(tactic| first
  | assumption
  | ((with_reducible apply L2.Same.t); (focus assumption); walk_at "sq")
  | ((with_reducible apply L2.Same.sq); (focus assumption); walk_at "sq")
  | ((with_reducible apply Ly.same_fr); (focus assumption); walk_at "sq"))
local macro_rules | `(tactic| walk_at "st1") => `(tactic| first
  | with_reducible refine Ly.st_seq ?_
  | with_reducible refine Ly.st_asg ?_
  | with_reducible refine Ly.st_nx ?_
  | with_reducible refine Ly.st_rt ?_
  | ((with_reducible show L2.tVar _ _ _ _); refine Ly.st_var rfl ?_)
  | with_reducible refine Ly.st_c ?_
  | with_reducible refine Ly.st_op ?_
  | with_reducible refine Ly.st_name ?_
  | with_reducible refine Ly.st_ifs ?_
  | with_reducible refine Ly.st_ret ?_
  | with_reducible refine Ly.st_cons ?_
  | with_reducible refine Ly.st_nil ?_
  | with_reducible refine Ly.st_cb ?_
  | with_reducible refine Ly.st_bm ?_
  | with_reducible refine Ly.st_call ?_
  | with_reducible refine Ly.st_test ?_
  | with_reducible refine Ly.st_ex ?_
  | with_reducible refine Ly.st_truth ?_
  | with_reducible refine Ly.st_un ?_
  | with_reducible refine Ly.st_neg ?_
  | with_reducible refine Ly.st_nextS ?_
  | with_reducible refine Ly.st_drop ?_
  | with_reducible refine Ly.st_not ?_
  | with_reducible refine Ly.st_and ?_
  | with_reducible refine Ly.st_or ?_
  | with_reducible refine Ly.st_andV ?_
  | with_reducible refine Ly.st_orV ?_
  | with_reducible refine Ly.st_notV ?_
  | with_reducible refine Ly.st_ifE ?_
  | with_reducible refine Ly.st_callS ?_
  | with_reducible refine Ly.u_iteF ?_
  | with_reducible refine Ly.u_iteT ?_
  | with_reducible refine Ly.st_tup01 ?_
  | with_reducible refine Ly.st_tup11 ?_
  | with_reducible refine Ly.st_tup ?_
  | with_reducible refine Ly.st_lst ?_
  | with_reducible refine Ly.st_par ?_
  | with_reducible refine Ly.st_sub ?_
  | with_reducible refine Ly.st_sl ?_
  | with_reducible refine Ly.st_nopart ?_
  | with_reducible refine Ly.st_part ?_
  | with_reducible refine Ly.st_exI ?_
  | with_reducible refine Ly.st_ex2 ?_
  | with_reducible refine Ly.u_add ?_
  | with_reducible refine Ly.u_rI0 ?_
  | with_reducible refine Ly.u_eq ?_
  | with_reducible refine Ly.u_ne ?_
  | with_reducible refine Ly.u_truB ?_
  | with_reducible refine Ly.u_int ?_
  | with_reducible refine Ly.u_intB ?_
  | with_reducible refine Ly.u_abs ?_
  | ((with_reducible show Ly.rLenU _ _ _ _); refine Ly.u_len (by walk_at "sq") ?_)
  | with_reducible refine Ly.u_max ?_
  | with_reducible refine Ly.u_tru ?_
  | (with_reducible refine Ly.u_fr0 (by walk_at "sq") ?_)
  | (with_reducible refine Ly.u_fr1 (by walk_at "sq") ?_)
  | ((with_reducible refine Ly.u_mul ?c ?_); (case c => walk_at "bits"))
  | with_reducible refine Ly.st_for ?_
  | with_reducible refine Ly.st_lc ?_
  | with_reducible refine Ly.st_iSeq ?_
  | with_reducible refine Ly.st_iEnum ?_
  | with_reducible refine Ly.st_iRev ?_
  | with_reducible refine Ly.st_iRng1 ?_
  | with_reducible refine Ly.st_iRng2 ?_
  | ((with_reducible refine Ly.u_pow ?c ?_); (case c => exact ⟨by decide, by decide, by decide⟩))
  | ((with_reducible show L2.rIx _ _ _ _ _); refine Ly.u_ixL (by assumption) rfl ?_)
  | ((with_reducible refine Ly.u_moP ?c ?_); (case c => first | assumption | omega | decide))
  | ((with_reducible refine Ly.u_fdPos ?c ?_); (case c => first | assumption | omega | decide))
  | ((with_reducible refine Ly.u_mo ?c ?_); (case c => first | assumption | omega))
  | ((with_reducible refine Ly.u_fd ?c ?_); (case c => first | assumption | omega)))
local macro_rules | `(tactic| walk_at "st") => `(tactic| repeat walk_at "st1")
local macro_rules | `(tactic| walk_at "go") => `(tactic| ((try dsimp only [L2.cxOf]); walk_at "st"))

section
variable {w : World} {K : PySem.W.Frag} {mg : Str → Option Value} {base : Heap}
def sp_div (T : Tx K mg) : Sp := fun vs H Q E => ∃ (v w : V) (p0 u0 : List Rat), vs = [v, w] ∧ Row K H v p0 ∧ Row K H w u0 ∧ p0.length ≤ 500 ∧ u0.length ≤ 500 ∧
  ((trim u0).length = 0 → ∀ H', Same H H' → E (.ref T.a_ZeroBelow) none H') ∧
  (0 < (trim u0).length → ∃ S s, Sz S (trim p0) ∧ Sz s (trim u0) ∧ S + ((trim p0).length + 1 - (trim u0).length) * (s + 1) + 2 * s + 2 ≤ 60000000 ∧
    ∀ z v1 v2 quo H', Same H H' → SqT K H' z [v1, v2] → RowT K H' v1 quo → RowT K H' v2 (prem (trim p0) (trim u0)) → IsT quo → quo.length ≤ (trim p0).length → BqL (S + ((trim p0).length + 1 - (trim u0).length) * (s + 1) + s) quo →
      (∀ i, cf (trim p0) i = cv quo (trim u0) i + cf (prem (trim p0) (trim u0)) i) → Q (.ref z) H')
theorem okX_divide_poly (T : Tx K mg) (hseer : base.NoSeer) : FnOk PP w K mg base (L2.CX PP w) 39 T.a_divide_poly T.d_divide_poly ["left", "right"] (sp_div T) := by
  refine T.F_divide_poly.okX sc_divide_poly (fun vs H Q E h => ?_) (fun cdv A outer s H vs Q E hr h => ?_)
  · obtain ⟨_, _, _, _, rfl, _⟩ := h; rfl
  · obtain ⟨_, _, p0, u0, rfl, ⟨a, xs, rfl, ha, fa⟩, ⟨b, ys, rfl, hb, fb⟩, lp, lq, kE, kQ⟩ := h
    have lu := trim_len u0
    have lu2 := tlen_le u0
    have lpp := trim_len p0
    have lp2 := tlen_le p0
    refine ⟨_, (pss_cons (ps_set (i := 2) (sc_divide_poly).nd rfl (by first | exact Or.inl rfl | exact Or.inr rfl) (pe_call (ok_trimmed T hseer) (hr.mono (by decide)) rfl T.g_trimmed T.k_trimmed T.b_trimmed .nil pass0 (pa_cons (pv 1) pa_nil)))
  (pss_cons (ps_if (pt_cmpR (op_eqU hr.units) (pe_callB call_lenU (by rfl) T.n_len (by decide +kernel) (pa_cons (pv 2) pa_nil)) pe_int (nomark _))
   (pss_one (ps_raise rfl (takes_of rfl rfl rfl rfl) (pmk_own0 PySem.F.excBase_ValueError T.x_ZeroBelow T.g_ZeroBelow T.k_ZeroBelow (raises_own T.bs_ZeroBelow T.ty_ZeroBelow) rfl)))
   pss_nil)
  (PSs.nox (pss_cons (ps_set (i := 3) (sc_divide_poly).nd rfl (by first | exact Or.inl rfl | exact Or.inr rfl) (pe_call (ok_trimmed T hseer) (hr.mono (by decide)) rfl T.g_trimmed T.k_trimmed T.b_trimmed .nil pass0 (pa_cons (pv 0) pa_nil)))
  (pss_cons (ps_set (i := 4) (sc_divide_poly).nd rfl (by first | exact Or.inl rfl | exact Or.inr rfl) (pe_callTy call_listU (by rfl) T.n_list (by decide +kernel) (pa_cons (pe_op op_mulU (pe_tup (pa_cons (pe_glob (v := V.ref T.a_ZERO) rfl T.g_ZERO rfl) pa_nil)) (pe_callB call_lenU (by rfl) T.n_len (by decide +kernel) (pa_cons (pv 3) pa_nil))) pa_nil)))
  (pss_cons (ps_while PassesOwn.never (pt_cmpR op_ge (pe_callB call_lenU (by rfl) T.n_len (by decide +kernel) (pa_cons (pv 3) pa_nil)) (pe_callB call_lenU (by rfl) T.n_len (by decide +kernel) (pa_cons (pv 2) pa_nil)) (nomark _))
   (pss_cons (ps_set (i := 5) (sc_divide_poly).nd rfl (by first | exact Or.inl rfl | exact Or.inr rfl) (pe_op op_sub (pe_callB call_lenU (by rfl) T.n_len (by decide +kernel) (pa_cons (pv 3) pa_nil)) (pe_callB call_lenU (by rfl) T.n_len (by decide +kernel) (pa_cons (pv 2) pa_nil))))
  (pss_cons (ps_set (i := 6) (sc_divide_poly).nd rfl (by first | exact Or.inl rfl | exact Or.inr rfl) (pe_call (ok_divide T hseer) (hr.mono (by decide)) rfl T.g_divide T.k_divide T.b_divide .nil pass0 (pa_cons (pe_ix ix_seq (pv 3) (pe_un un_neg pe_int) (fun _ _ => rfl)) (pa_cons (pe_ix ix_seq (pv 2) (pe_un un_neg pe_int) (fun _ _ => rfl)) pa_nil))))
  (pss_cons (ps_asg (pv 6) (pg_sub (pv 4) (pv 5) set_list))
  (pss_one (ps_set (i := 3) (sc_divide_poly).nd rfl (by first | exact Or.inl rfl | exact Or.inr rfl) (pe_call (ok_trimmed T hseer) (hr.mono (by decide)) rfl T.g_trimmed T.k_trimmed T.b_trimmed .nil pass0 (pa_cons (pe_call (ok_plus_multiple T hseer) (hr.mono (by decide)) rfl T.g_plus_multiple T.k_plus_multiple T.b_plus_multiple .nil pass0 (pa_cons (pv 3) (pa_cons (pe_call (ok_negate T hseer) (hr.mono (by decide)) rfl T.g_negate T.k_negate T.b_negate .nil pass0 (pa_cons (pv 6) pa_nil)) (pa_cons (pe_op op_addU (pe_op op_mulU (pe_tup (pa_cons (pe_glob (v := V.ref T.a_ZERO) rfl T.g_ZERO rfl) pa_nil)) (pv 5)) (pv 2)) pa_nil)))) pa_nil))))))))
  (pss_one (ps_ret (pe_tup (pa_cons (pe_call (ok_trimmed T hseer) (hr.mono (by decide)) rfl T.g_trimmed T.k_trimmed T.b_trimmed .nil pass0 (pa_cons (pv 4) pa_nil)) (pa_cons (pv 3) pa_nil))))))))))), ?_⟩
    walk_at "go"
    refine ⟨_, u0, rfl, ⟨b, ys, rfl, hb, fb⟩, by omega, fun v1 H1 e1 r1 => ?_⟩
    obtain ⟨ua, us, rfl, hua, fua⟩ := id r1
    have lus := fua.len
    walk_at "st"
    refine u_len (.inr hua) ?_
    walk_at "st"
    refine u_ite (fun h => ?_) (fun h => ?_)
    · exact kE (by omega) H1 e1
    have hu : 0 < (trim u0).length := by omega
    obtain ⟨S, t, zp, zu, nn, k⟩ := kQ hu
    have htu := trim_isT u0
    walk_at "st"
    refine ⟨_, p0, rfl, Row.same ⟨a, xs, rfl, ha, fa⟩ e1, by omega, fun v2 H2 e2 r2 => ?_⟩
    generalize hpp : trim p0 = p at *
    generalize huu : trim u0 = u at *
    obtain ⟨ra, rs', rfl, hra, fra⟩ := id r2
    have lrs := fra.len
    have e : Same H H2 := e1.trans e2
    have tp : 0 < t := zu.pos
    walk_at "st"
    refine ⟨by show 1 ≤ sizeLine; decide, fun z0 hz0 => ?_⟩
    have e' := same_new (H := H2) (o := .tup [V.ref T.a_ZERO]) hz0
    have hzT : SqT K (upd H2 z0 (.tup [V.ref T.a_ZERO])) z0 [V.ref T.a_ZERO] := SqT.of upd_same
    generalize upd H2 z0 (.tup [V.ref T.a_ZERO]) = H3 at e' hzT ⊢
    walk_at "st"
    refine u_len (.inr (e'.t hra)) ?_
    walk_at "st"
    refine u_repZ hzT (zeroF T _) (by omega) (by omega) fun v2 H4 e4 r4 => ?_
    walk_at "st"
    refine u_listRow r4.row ((e.trans e').trans e4) fun D H5 L e5 => ?_
    rw [show ((rs'.length : Int)).toNat = p.length by omega] at L
    obtain ⟨n, hn⟩ : ∃ n, n = S + (p.length + 1 - u.length) * (t + 1) + t := ⟨_, rfl⟩
    rw [← hn] at k
    have bu : BqL t u := zu.bqL tp
    walk_at "st"
    have r2' := (((r2.same e').same e4).same e5)
    have r1' := ((((r1.same e2).same e').same e4).same e5)
    refine ⟨fun m σ H' => ∃ (r qf : List Rat) (vr : V), Loc K H D H' qf ∧ RowT K H' vr r ∧ RowT K H' (.ref ua) u ∧ IsT r ∧ r.length = m ∧ r.length ≤ p.length ∧ qf.length = p.length ∧ BqL n qf ∧
      (∀ i, cf p i = cv qf u i + cf r i) ∧ (∀ i, remC r u i = remC p u i) ∧ Szf (S + (p.length - r.length) * (t + 1)) (cf r) ∧ (∀ i, i + u.length ≤ r.length → cf qf i = 0) ∧
      ∃ l1 l2 : Option V, σ = [some (.ref a), some (.ref b), some (.ref ua), some vr, some (.ref D), l1, l2], ⟨p.length, p, _, _, L, r2', r1', by rw [← hpp]; exact trim_isT _, rfl, Nat.le_refl _, List.length_replicate, BqL.rep (by omega), fun i => ?_, fun i => rfl, by rw [Nat.sub_self, Nat.zero_mul]; exact zp.f, fun i _ => cf_rep, _, _, rfl⟩, ?_⟩
    · have : cv (List.replicate p.length 0) u i = 0 := sumTo_zero fun j _ => by rw [cf_rep]; split <;> grind
      rw [this]; grind
    rintro m σ H6 ⟨r, qf, vr, L, rr, ru, tr, rfl, hrl, hqf, bqf, i1, i2, i3, i4, l1, l2, rfl⟩
    obtain ⟨ra2, rs2, rfl, hra2, fra2⟩ := id rr
    obtain ⟨_, us2, eq, hua2, fua2⟩ := id ru
    cases eq
    have lrs2 := fra2.len
    have lus2 := fua2.len
    have e := L.1
    walk_at "st"
    refine u_len (.inr hra2) ?_
    walk_at "st"
    refine u_len (.inr hua2) ?_
    walk_at "st"
    refine u_ite (fun h => ?_) (fun h => ?_)
    · refine ⟨_, fun _ _ q => q, ?_⟩
      obtain ⟨at', hat⟩ : ∃ at', r.length = at' + u.length := ⟨r.length - u.length, by omega⟩
      have hM : (p.length - r.length + 1) * (t + 1) ≤ (p.length + 1 - u.length) * (t + 1) := Nat.mul_le_mul_right _ (by omega)
      rw [Nat.succ_mul] at hM
      obtain ⟨B, hB⟩ : ∃ B, B = S + (p.length - r.length) * (t + 1) := ⟨_, rfl⟩
      rw [← hB] at i3
      have B0 := i3.pos
      have br : BqL B r := fun q hq => by
        obtain ⟨i, hi⟩ := List.getElem?_of_mem hq
        rw [← cf_get hi]
        exact i3.bq B0 i
      walk_at "st"
      refine u_len (.inr hra2) ?_
      walk_at "st"
      refine u_len (.inr hua2) ?_
      walk_at "st"
      rw [show (rs2.length : Int) - us2.length = (at' : Int) by omega]
      refine u_atLast (.inr hra2) fra2 (by omega) fun z1 hz1 => ?_
      walk_at "st"
      refine u_atLast (.inr hua2) fua2 (by omega) fun z2 hz2 => ?_
      walk_at "st"
      have bf : Bq (B + t) (cf r (r.length - 1) / cf u (u.length - 1)) := (i3.bq B0 _).divQ (bu.cf tp _) B0 (htu hu)
      refine ⟨_, _, _, _, B + t, rfl, ⟨z1, rfl, hz1⟩, ⟨z2, rfl, hz2⟩, (i3.bq B0 _).mono (by omega), (bu.cf tp _).mono (by omega), by omega, htu hu, fun vf H7 e7 ff => ?_⟩
      walk_at "st"
      refine u_setLoc (i := at') (L.ext e7) (by omega) rfl ff fun H8 L8 im8 => ?_
      have rr8 : RowT K H8 (.ref ra2) r := (rr.same e7).imm im8
      have ru8 : RowT K H8 (.ref ua) u := (ru.same e7).imm im8
      have ff8 := ff.imm im8
      walk_at "st"
      refine ⟨_, _, rfl, ff8, fun vn H9 e9 fn => ?_⟩
      walk_at "st"
      refine ⟨by show 1 ≤ sizeLine; decide, fun z0 hz0 => ?_⟩
      have e10 := same_new (H := H9) (o := .tup [V.ref T.a_ZERO]) hz0
      have hzT : SqT K (upd H9 z0 (.tup [V.ref T.a_ZERO])) z0 [V.ref T.a_ZERO] := SqT.of upd_same
      generalize upd H9 z0 (.tup [V.ref T.a_ZERO]) = H10 at e10 hzT ⊢
      walk_at "st"
      refine u_repZ hzT (zeroF T _) (by omega) (by omega) fun v11 H11 e11 r11 => ?_
      rw [show ((at' : Int)).toNat = at' by omega] at r11
      walk_at "st"
      refine u_catRow r11 (((ru8.same e9).same e10).same e11) (by rw [List.length_replicate]; omega) (by omega) fun v12 H12 e12 r12 => ?_
      walk_at "st"
      have lens : (List.replicate at' (0 : Rat) ++ u).length = r.length := by rw [List.length_append, List.length_replicate]; omega
      refine ⟨_, _, _, r, _, _, B, B + t, t, rfl, ((((rr8.same e9).same e10).same e11).same e12).row, ((fn.same e10).same e11).same e12, r12.row, br, bf.negQ, (BqL.rep tp).app bu, B0, by omega, tp, by omega, by omega, by rw [lens]; exact Nat.le_refl _, by omega, fun v13 H13 e13 r13 => ?_⟩
      walk_at "st"
      refine ⟨_, _, rfl, r13.row, by rw [pm_len]; omega, fun v14 H14 e14 r14 => ?_⟩
      walk_at "st"
      have e9to : Same H8 H14 := ((((e9.trans e10).trans e11).trans e12).trans e13).trans e14
      have cr : ∀ i, cf (pm r (-(cf r (r.length - 1) / cf u (u.length - 1))) (List.replicate at' 0 ++ u)) i = rs u at' (cf r) i := fun i => pm_rs (by omega) (by omega)
      generalize hR : pm r (-(cf r (r.length - 1) / cf u (u.length - 1))) (List.replicate at' 0 ++ u) = R at r14 cr
      have lR : R.length = r.length := by rw [← hR, pm_len]
      have cr2 : ∀ i, cf (trim R) i = rs u at' (cf r) i := fun i => by rw [cf_trim, cr]
      have top0 : cf R (R.length - 1) = 0 := by rw [cr, lR, show r.length - 1 = at' + u.length - 1 by omega]; exact rs_top hu (htu hu)
      have lt : (trim R).length < r.length := by rw [trim_len]; have := tlen_lt (p := R) (by omega) top0; omega
      refine ⟨(trim R).length, lt, trim R, qf.set at' (cf r (r.length - 1) / cf u (u.length - 1)), v14, L8.ext e9to, r14, ru8.same e9to, trim_isT _, rfl, by omega, by rw [List.length_set]; exact hqf, bqf.set (bf.mono (by omega)), fun i => ?_, fun i => ?_, ?_, fun i hi => ?_, _, _, rfl⟩
      · rw [cv_set (by omega) (i4 at' (by omega)), cr2]
        unfold rs
        rw [i1 i, show at' + u.length - 1 = r.length - 1 by omega]
        grind
      · rw [remC_step hu hat cr2 lt]; exact i2 i
      · have z : cf (trim R) = rs u at' (cf r) := funext cr2
        rw [z]
        refine (rs_sz i3 zu.f (htu hu)).1.mono ?_
        have : (p.length - r.length + 1) * (t + 1) ≤ (p.length - (trim R).length) * (t + 1) := Nat.mul_le_mul_right _ (by omega)
        rw [Nat.succ_mul] at this
        omega
      · rw [cf_set (by omega), if_neg (by omega)]
        exact i4 i (by omega)
    · walk_at "st"
      have er : r = prem p u := prem_eq hu htu tr fun i => by rw [← i2, remC_end (by omega)]
      refine ⟨_, _, rfl, L.row.row, by omega, fun v7 H7 e7 r7 => ?_⟩
      walk_at "st"
      refine ⟨by show 2 ≤ sizeLine; decide, fun z hz => ?_⟩
      have e8 := same_new (H := H7) (o := .tup [v7, V.ref ra2]) hz
      refine k z v7 (.ref ra2) (trim qf) _ ((L.1.trans e7).trans e8) (SqT.of upd_same) (r7.same e8) (by rw [← er]; exact (rr.same e7).same e8) (trim_isT _) (by rw [trim_len]; have := tlen_le qf; omega) bqf.trim fun i => ?_
      rw [← er, i1 i, cv_ext fun i => (cf_trim qf i).symm]
def sp_div0 (T : Tx K mg) : Sp := fun vs H Q _ => sp_div T vs H Q E0
theorem ok_divide_poly (T : Tx K mg) (hseer : base.NoSeer) : FnOk PP w K mg base CX0 39 T.a_divide_poly T.d_divide_poly ["left", "right"] (sp_div0 T) := calm (okX_divide_poly T hseer)
end
end K03

set_option maxHeartbeats 4000000
namespace K03
open PySem PySem.Spec PyProof.Rows L2 Ly

local macro_rules | `(tactic| walk_at "bits") => `(tactic| first
  | exact Or.inl (Or.inl ⟨by omega, by omega⟩) | exact Or.inl (Or.inr ⟨by omega, by omega⟩)
  | exact Ly.Bz.cmul (by assumption) (by assumption) (by omega)
  | exact Or.inr ⟨400, 400, by decide +kernel, by decide +kernel, by decide⟩)
local macro_rules | `(tactic| walk_at "sq") => `(tactic| first
  | assumption
  | ((with_reducible apply L2.Same.t); (focus assumption); walk_at "sq")
  | ((with_reducible apply L2.Same.sq); (focus assumption); walk_at "sq")
  | ((with_reducible apply Ly.same_fr); (focus assumption); walk_at "sq"))
local macro_rules | `(tactic| walk_at "st1") => `(tactic| first
  | with_reducible refine Ly.st_seq ?_
  | with_reducible refine Ly.st_asg ?_
  | with_reducible refine Ly.st_nx ?_
  | with_reducible refine Ly.st_rt ?_
  | ((with_reducible show L2.tVar _ _ _ _); refine Ly.st_var rfl ?_)
  | with_reducible refine Ly.st_c ?_
  | with_reducible refine Ly.st_op ?_
  | with_reducible refine Ly.st_name ?_
  | with_reducible refine Ly.st_ifs ?_
  | with_reducible refine Ly.st_ret ?_
  | with_reducible refine Ly.st_cons ?_
  | with_reducible refine Ly.st_nil ?_
  | with_reducible refine Ly.st_cb ?_
  | with_reducible refine Ly.st_bm ?_
  | with_reducible refine Ly.st_call ?_
  | with_reducible refine Ly.st_test ?_
  | with_reducible refine Ly.st_ex ?_
  | with_reducible refine Ly.st_truth ?_
  | with_reducible refine Ly.st_un ?_
  | with_reducible refine Ly.st_neg ?_
  | with_reducible refine Ly.st_nextS ?_
  | with_reducible refine Ly.st_drop ?_
  | with_reducible refine Ly.st_not ?_
  | with_reducible refine Ly.st_and ?_
  | with_reducible refine Ly.st_or ?_
  | with_reducible refine Ly.st_andV ?_
  | with_reducible refine Ly.st_orV ?_
  | with_reducible refine Ly.st_notV ?_
  | with_reducible refine Ly.st_ifE ?_
  | with_reducible refine Ly.st_callS ?_
  | with_reducible refine Ly.u_iteF ?_
  | with_reducible refine Ly.u_iteT ?_
  | with_reducible refine Ly.st_tup01 ?_
  | with_reducible refine Ly.st_tup11 ?_
  | with_reducible refine Ly.st_tup ?_
  | with_reducible refine Ly.st_lst ?_
  | with_reducible refine Ly.st_par ?_
  | with_reducible refine Ly.st_sub ?_
  | with_reducible refine Ly.st_sl ?_
  | with_reducible refine Ly.st_nopart ?_
  | with_reducible refine Ly.st_part ?_
  | with_reducible refine Ly.st_exI ?_
  | with_reducible refine Ly.st_ex2 ?_
  | with_reducible refine Ly.u_add ?_
  | with_reducible refine Ly.u_rI0 ?_
  | with_reducible refine Ly.u_eq ?_
  | with_reducible refine Ly.u_ne ?_
  | with_reducible refine Ly.u_truB ?_
  | with_reducible refine Ly.u_int ?_
  | with_reducible refine Ly.u_intB ?_
  | with_reducible refine Ly.u_abs ?_
  | ((with_reducible show Ly.rLenU _ _ _ _); refine Ly.u_len (by walk_at "sq") ?_)
  | with_reducible refine Ly.u_max ?_
  | with_reducible refine Ly.u_tru ?_
  | (with_reducible refine Ly.u_fr0 (by walk_at "sq") ?_)
  | (with_reducible refine Ly.u_fr1 (by walk_at "sq") ?_)
  | ((with_reducible refine Ly.u_mul ?c ?_); (case c => walk_at "bits"))
  | with_reducible refine Ly.st_for ?_
  | with_reducible refine Ly.st_lc ?_
  | with_reducible refine Ly.st_iSeq ?_
  | with_reducible refine Ly.st_iEnum ?_
  | with_reducible refine Ly.st_iRev ?_
  | with_reducible refine Ly.st_iRng1 ?_
  | with_reducible refine Ly.st_iRng2 ?_
  | ((with_reducible refine Ly.u_pow ?c ?_); (case c => exact ⟨by decide, by decide, by decide⟩))
  | ((with_reducible show L2.rIx _ _ _ _ _); refine Ly.u_ixL (by assumption) rfl ?_)
  | ((with_reducible refine Ly.u_moP ?c ?_); (case c => first | assumption | omega | decide))
  | ((with_reducible refine Ly.u_fdPos ?c ?_); (case c => first | assumption | omega | decide))
  | ((with_reducible refine Ly.u_mo ?c ?_); (case c => first | assumption | omega))
  | ((with_reducible refine Ly.u_fd ?c ?_); (case c => first | assumption | omega)))
local macro_rules | `(tactic| walk_at "st") => `(tactic| repeat walk_at "st1")
local macro_rules | `(tactic| walk_at "go") => `(tactic| ((try dsimp only [L2.cxOf]); walk_at "st"))

section
variable {w : World} {K : PySem.W.Frag} {mg : Str → Option Value} {base : Heap}
def sp_wlo (K : PySem.W.Frag) : Sp := fun vs H Q _ => ∃ (v : V) (p0 : List Rat) (n : Nat), vs = [v] ∧ Row K H v p0 ∧ p0.length ≤ 1000 ∧ BqL n (trim p0) ∧ 0 < n ∧ n + 1 ≤ 60000000 ∧ ∀ v' H', Same H H' → RowT K H' v' (monic (trim p0)) → Q v' H'
theorem ok__with_last_one (T : Tx K mg) (hseer : base.NoSeer) : FnOk PP w K mg base CX0 39 T.a__with_last_one T.d__with_last_one ["row"] (sp_wlo K) := by
  refine T.F__with_last_one.ok sc__with_last_one (fun vs H Q E h => ?_) (fun cdv A outer s H vs Q E hr h => ?_)
  · obtain ⟨_, _, _, rfl, _⟩ := h; rfl
  · obtain ⟨v, p0, n, rfl, r, lp, bp, n0, n1, k⟩ := h
    have lpp := trim_len p0
    have lp2 := tlen_le p0
    refine ⟨_, (pss_cons (ps_set (i := 1) (sc__with_last_one).nd rfl (by first | exact Or.inl rfl | exact Or.inr rfl) (pe_call (ok_trimmed T hseer) (hr.mono (by decide)) rfl T.g_trimmed T.k_trimmed T.b_trimmed .nil pass0 (pa_cons (pv 0) pa_nil)))
  (pss_cons (ps_if (pt_cmpR (op_eqU hr.units) (pe_callB call_lenU (by rfl) T.n_len (by decide +kernel) (pa_cons (pv 1) pa_nil)) pe_int (nomark _))
   (pss_one (ps_ret (pe_tup pa_nil)))
   pss_nil)
  (pss_one (ps_ret (pe_call (ok_multiple T hseer) (hr.mono (by decide)) rfl T.g_multiple T.k_multiple T.b_multiple .nil pass0 (pa_cons (pe_call (ok_divide T hseer) (hr.mono (by decide)) rfl T.g_divide T.k_divide T.b_divide .nil pass0 (pa_cons (pe_glob (v := V.ref T.a_ONE) rfl T.g_ONE rfl) (pa_cons (pe_ix ix_seq (pv 1) (pe_un un_neg pe_int) (fun _ _ => rfl)) pa_nil))) (pa_cons (pv 1) pa_nil))))))), ?_⟩
    walk_at "go"
    refine ⟨_, p0, rfl, r, by omega, fun v1 H1 e1 r1 => ?_⟩
    have ht := trim_isT p0
    generalize trim p0 = p at *
    obtain ⟨ua, us, rfl, hua, fua⟩ := id r1
    have lus := fua.len
    walk_at "st"
    refine u_len (.inr hua) ?_
    walk_at "st"
    refine u_ite (fun h => ?_) (fun h => ?_)
    · have : p = [] := List.length_eq_zero_iff.mp (by omega)
      subst this
      walk_at "st"
      exact ⟨by show 0 ≤ sizeLine; decide, fun z hz => k _ _ (e1.trans (same_new hz)) ⟨z, [], rfl, SqT.of upd_same, trivial⟩⟩
    · have hp : 0 < p.length := by omega
      walk_at "st"
      refine u_atLast (.inr hua) fua hp fun z hz => ?_
      walk_at "st"
      refine ⟨_, _, 1, _, n, rfl, oneF T _, ⟨z, rfl, hz⟩, Bq.one n0, bp.cf n0 _, by omega, ht hp, fun v2 H2 e2 f2 => ?_⟩
      walk_at "st"
      refine ⟨_, _, p, _, n + 1, rfl, f2, (r1.same e2).row, ?_, bp.mono (by omega), by omega, n1, by omega, fun v3 H3 e3 r3 => k v3 H3 ((e1.trans e2).trans e3) ?_⟩
      · rw [Nat.add_comm]
        exact (Bq.one (n := 1) (by decide)).divQ (bp.cf n0 _) (by decide) (ht hp)
      · rw [monic_map] at r3
        exact r3
def sp_gcdP (K : PySem.W.Frag) : Sp := fun vs H Q _ => ∃ (v w : V) (p q : List Rat), vs = [v, w] ∧ Row K H v p ∧ Row K H w q ∧ GInv (trim p) (trim q) ∧ p.length ≤ 400 ∧ q.length ≤ 400 ∧
  ∀ v' H', Same H H' → RowT K H' v' (pgcd (trim p) (trim q)) → Q v' H'
theorem gi_M {p q : List Rat} {M : Nat} (h : (M + 1) * ((p.length - q.length + 2) * 3 ^ q.length) ≤ 60000000) : M + 1 ≤ 60000000 := by
  have : (M + 1) * 1 ≤ (M + 1) * ((p.length - q.length + 2) * 3 ^ q.length) := Nat.mul_le_mul_left _ (Nat.mul_pos (by omega) (Nat.pow_pos (by decide)))
  omega
theorem ok_gcd_poly (T : Tx K mg) (hseer : base.NoSeer) : FnOk PP w K mg base CX0 40 T.a_gcd_poly T.d_gcd_poly ["left", "right"] (sp_gcdP K) := by
  refine T.F_gcd_poly.ok sc_gcd_poly (fun vs H Q E h => ?_) (fun cdv A outer s H vs Q E hr h => ?_)
  · obtain ⟨_, _, _, _, rfl, _⟩ := h; rfl
  · obtain ⟨v, w, p0, q0, rfl, rp, rq, gi, lp, lq, k⟩ := h
    have l1 := trim_len p0
    have l2 := tlen_le p0
    have l3 := trim_len q0
    have l4 := tlen_le q0
    refine ⟨_, (pss_cons (ps_set (i := 2) (sc_gcd_poly).nd rfl (by first | exact Or.inl rfl | exact Or.inr rfl) (pe_call (ok__with_last_one T hseer) (hr.mono (by decide)) rfl T.g__with_last_one T.k__with_last_one T.b__with_last_one .nil pass0 (pa_cons (pv 0) pa_nil)))
  (pss_cons (ps_set (i := 3) (sc_gcd_poly).nd rfl (by first | exact Or.inl rfl | exact Or.inr rfl) (pe_call (ok__with_last_one T hseer) (hr.mono (by decide)) rfl T.g__with_last_one T.k__with_last_one T.b__with_last_one .nil pass0 (pa_cons (pv 1) pa_nil)))
  (pss_cons (ps_while PassesOwn.never (pt_cmpR op_gt (pe_callB call_lenU (by rfl) T.n_len (by decide +kernel) (pa_cons (pv 3) pa_nil)) pe_int (nomark _))
   (pss_cons (ps_asg (pe_call (ok_divide_poly T hseer) (hr.mono (by decide)) rfl T.g_divide_poly T.k_divide_poly T.b_divide_poly .nil pass0 (pa_cons (pv 2) (pa_cons (pv 3) pa_nil))) (pg_tup rfl (pgs_cons (pg_name (i := 4) (sc_gcd_poly).nd rfl (by first | exact Or.inl rfl | exact Or.inr rfl)) (pgs_cons (pg_name (i := 5) (sc_gcd_poly).nd rfl (by first | exact Or.inl rfl | exact Or.inr rfl)) pgs_nil))))
  (pss_one (ps_par (i := 2) (j := 3) (by rfl) (sc_gcd_poly).nd rfl rfl (by decide) rfl rfl (pa_cons (pv 3) (pa_cons (pe_call (ok__with_last_one T hseer) (hr.mono (by decide)) rfl T.g__with_last_one T.k__with_last_one T.b__with_last_one .nil pass0 (pa_cons (pv 5) pa_nil)) pa_nil)) (by rfl)))))
  (pss_one (ps_ret (pv 2)))))), ?_⟩
    obtain ⟨M, M0, z1, z2, M1, t1, t2⟩ := id gi
    have M2 := gi_M M1
    walk_at "go"
    refine ⟨_, p0, M, rfl, rp, by omega, z1.bqL M0, M0, M2, fun v1 H1 e1 r1 => ?_⟩
    walk_at "st"
    refine ⟨_, q0, M, rfl, rq.same e1, by omega, z2.bqL M0, M0, M2, fun v2 H2 e2 r2 => ?_⟩
    generalize hp : trim p0 = p at *
    generalize hq : trim q0 = q at *
    walk_at "st"
    refine ⟨fun m σ H' => Same H H' ∧ (∃ p1 p2 v1 v2, (RowT K H' v1 p1 ∧ RowT K H' v2 p2) ∧ GInv p1 p2 ∧ p1.length ≤ 400 ∧ p2.length = m ∧ p2.length ≤ 400 ∧ gcdN p2.length p1 p2 = pgcd p q ∧ ∃ l1 l2 : Option V, σ = [some v, some w, some v1, some v2, l1, l2]),
      ⟨q.length, e1.trans e2, monic p, monic q, v1, v2, ⟨r1.same e2, r2⟩, gi.monic, by rw [monic_len]; omega, monic_len q, by rw [monic_len]; omega, by rw [monic_len]; rfl, _, _, rfl⟩, ?_⟩
    rintro m σ H3 ⟨e, p1, p2, v1, v2, ⟨r1, r2⟩, gi, lp1, rfl, lp2, hg, l1, l2, rfl⟩
    obtain ⟨a2, xs2, rfl, ha2, fa2⟩ := id r2
    have la2 := fa2.len
    walk_at "st"
    refine u_len (.inr ha2) ?_
    walk_at "st"
    refine u_ite (fun h => ?_) (fun h => ?_)
    · have hq : 0 < p2.length := by omega
      obtain ⟨M, M0, z1, z2, M1, t1, t2⟩ := id gi
      have bits := GInv.bits M1 hq
      have zp := sz_prem z1 z2 hq t2
      have hlt := prem_lt (p := p1) (u := p2) hq
      have M2 := gi_M M1
      refine ⟨_, fun _ _ q => q, ?_⟩
      walk_at "st"
      refine ⟨_, _, p1, p2, rfl, r1.row, r2.row, by omega, by omega, fun z => absurd z (by rw [t2.eq]; omega), fun _ => ?_⟩
      rw [t1.eq, t2.eq]
      refine ⟨M, M, z1, z2, bits, fun z w1 w2 quo H4 e4 hz rw1 rw2 _ _ _ _ => ?_⟩
      walk_at "st"
      refine u_pair hz ?_
      walk_at "st"
      have tt := (prem_isT p1 p2).eq
      refine ⟨_, prem p1 p2, _, rfl, rw2.row, by omega, by rw [tt]; exact zp.bqL (by omega), by omega, by omega, fun v5 H5 e5 r5 => ?_⟩
      rw [tt] at r5
      walk_at "st"
      refine ⟨(monic (prem p1 p2)).length, by rw [monic_len]; omega, (e.trans e4).trans e5, p2, monic (prem p1 p2), _, v5, ⟨(r2.same e4).same e5, r5⟩, gi.step hq, lp2, rfl, by rw [monic_len]; omega, by rw [← gcd_turn hq]; exact hg, _, _, rfl⟩
    · walk_at "st"
      have : p2.length = 0 := by omega
      rw [this] at hg
      exact k _ _ e (by rw [← hg]; exact r1)
theorem ok_value_at (T : Tx K mg) (hseer : base.NoSeer) : FnOk PP w K mg base CX0 38 T.a_value_at T.d_value_at ["polynomial", "x"] (sp_worth K) := by
  refine T.F_value_at.ok sc_value_at (fun vs H Q E h => ?_) (fun cdv A outer s H vs Q E hr h => ?_)
  · obtain ⟨_, _, _, _, _, rfl, _⟩ := h; rfl
  · obtain ⟨_, _, p, x, n, rfl, ⟨a, xs, rfl, ha, fa⟩, ⟨b, rfl, hb⟩, bp, bx, n0, n1, lp, k⟩ := h
    have la := fa.len
    refine ⟨_, (pss_cons (ps_set (i := 2) (sc_value_at).nd rfl (by first | exact Or.inl rfl | exact Or.inr rfl) (pe_glob (v := V.ref T.a_ZERO) rfl T.g_ZERO rfl))
  (pss_cons (ps_for PassesOwn.never rfl (RT.pi_revA rfl T.n_reversed (pv 0)) (pg_name (i := 3) (sc_value_at).nd rfl (by first | exact Or.inl rfl | exact Or.inr rfl))
   (pss_one (ps_set (i := 2) (sc_value_at).nd rfl (by first | exact Or.inl rfl | exact Or.inr rfl) (pe_call (ok_add T hseer) (hr.mono (by decide)) rfl T.g_add T.k_add T.b_add .nil pass0 (pa_cons (pe_call (ok_multiply T hseer) (hr.mono (by decide)) rfl T.g_multiply T.k_multiply T.b_multiply .nil pass0 (pa_cons (pv 2) (pa_cons (pv 1) pa_nil))) (pa_cons (pv 3) pa_nil))))))
  (pss_one (ps_ret (pv 2))))), ?_⟩
    walk_at "go"
    refine revB_go (Same.refl H) ha fun J G hG hw => ?_
    refine forK hw (fun i σ H' => Same H H' ∧ ∃ v1 l, σ = [some (.ref a), some (.ref b), some v1, l] ∧ Fr K H' v1 (hn p x i)) ⟨Same.refl _, _, _, rfl, zeroF T _⟩ (fun i σ H' hi q => hG _ q.1) ?_ ?_
    · rintro i y σ H3 H' hi ⟨e3, v1, l, rfl, q1⟩ ⟨rfl, hy⟩
      obtain ⟨v, hv, fv⟩ := fa.at (i := p.length - 1 - i) (by omega)
      rw [la, hv] at hy
      cases hy
      have bs : (n + 32) * i + 1 ≤ 59000000 := by
        have : (n + 32) * i ≤ 100032 * 100 := Nat.mul_le_mul (by omega) (by omega)
        omega
      have b1 := hn_bq bp bx n0 i
      walk_at "st"
      refine ⟨_, _, _, _, 60000000, rfl, q1, ⟨b, rfl, e3.t hb⟩, b1.mono (by omega), bx.mono (by omega), Nat.le_refl _, fun v4 H4 e4 f4 => ?_⟩
      walk_at "st"
      refine ⟨_, _, _, _, 60000000, rfl, f4, (fv.same e3).same e4, (b1.mulQ bx (by omega)).mono (by omega), (bp.cf n0 _).mono (by omega), Nat.le_refl _, fun v5 H5 e5 f5 => ?_⟩
      walk_at "st"
      exact ⟨(e3.trans e4).trans e5, _, _, rfl, f5⟩
    · rintro σ H3 ⟨e3, v1, l, rfl, q1⟩
      walk_at "st"
      refine k _ _ e3 ?_
      rw [← hn_all, ← la]
      exact q1
end
end K03

set_option maxHeartbeats 4000000
namespace K03
open PySem PySem.Spec PyProof.Rows L2 Ly


section
variable {w : World} {K : PySem.W.Frag} {mg : Str → Option Value} {base : Heap}
def sp_isLow (K : PySem.W.Frag) : Sp := fun vs H Q _ => ∃ (v : V) (q : Rat), vs = [v] ∧ Fr K H v q ∧ Q (.bl true) H
theorem gcd_low (q : Rat) : Nat.gcd q.num.natAbs ((q.den : Int)).natAbs = 1 := q.reduced
theorem ok__law_is_low (T : Tx K mg) (hseer : base.NoSeer) : FnOk PP w K mg base CX0 37 T.a__law_is_low T.d__law_is_low ["actual"] (sp_isLow K) := by
  refine T.F__law_is_low.ok sc__law_is_low (fun vs H Q E h => ?_) (fun cdv A outer s H vs Q E hr h => ?_)
  · obtain ⟨_, _, rfl, _⟩ := h; rfl
  · obtain ⟨_, q, rfl, ⟨a, rfl, ha⟩, k⟩ := h
    have hd := q.den_pos
    refine ⟨_, (pss_cons (ps_if (PW.pt (pw_or (pt_not (pt_truthU (pe_callB call_isi (by rfl) T.n_isinstance (by decide +kernel) (pa_cons (pv 0) (pa_cons (pe_bltn (v := V.ty "tuple") (by rfl) T.n_tuple (by decide +kernel) rfl) pa_nil))) (fun _ => rfl))) (pw_or1 (pt_cmpR (op_neU hr.units) (pe_callB call_lenU (by rfl) T.n_len (by decide +kernel) (pa_cons (pv 0) pa_nil)) pe_int (nomark _)))))
   (pss_one (ps_ret pe_bl))
   pss_nil)
  (pss_cons (ps_for PassesOwn.never rfl (pi_seqA (pv 0)) (pg_name (i := 1) (sc__law_is_low).nd rfl (by first | exact Or.inl rfl | exact Or.inr rfl))
   (pss_one (ps_if (PW.pt (pw_or (pt_not (pt_truthU (pe_callB call_isi (by rfl) T.n_isinstance (by decide +kernel) (pa_cons (pv 1) (pa_cons (pe_bltn (v := V.ty "int") (by rfl) T.n_int (by decide +kernel) rfl) pa_nil))) (fun _ => rfl))) (pw_or1 (pt_truthU (pe_callB call_isi (by rfl) T.n_isinstance (by decide +kernel) (pa_cons (pv 1) (pa_cons (pe_bltn (v := V.ty "bool") (by rfl) T.n_bool (by decide +kernel) rfl) pa_nil))) (fun _ => rfl)))))
   (pss_one (ps_ret pe_bl))
   pss_nil)))
  (pss_one (ps_ret (pe_and (pe_cmpR op_ge (pe_ix ix_seq (pv 0) pe_int (fun _ _ => rfl)) pe_int (nomark _)) (pe_one (pe_cmpR (op_eqU hr.units) (pe_call (ok__law_common T hseer) (hr.mono (by decide)) rfl T.g__law_common T.k__law_common T.b__law_common .nil pass0 (pa_cons (pe_ix ix_seq (pv 0) pe_int (fun _ _ => rfl)) (pa_cons (pe_ix ix_seq (pv 0) pe_int (fun _ _ => rfl)) pa_nil))) pe_int (nomark _)))))))), ?_⟩
    walk_at "go"
    refine u_isTT ha ?_
    walk_at "st"
    refine u_len (.inr ha) ?_
    walk_at "st"
    refine u_iteN (fun h => absurd rfl h) (fun _ => ?_)
    walk_at "st"
    refine seqB_go (Same.refl H) (.inr ha) fun J G hG hw => ?_
    refine forK hw (fun i σ H' => H' = H ∧ ∃ l : Option V, σ = [some (.ref a), l]) ⟨rfl, _, rfl⟩ (fun i σ H' hi q => hG _ (by rw [q.1]; exact Same.refl H)) ?_ ?_
    · rintro i x σ H1 H' hi ⟨rfl, l, rfl⟩ ⟨rfl, y2⟩
      obtain ⟨n, rfl⟩ : ∃ n, x = .int n := by
        match i, y2 with
        | 0, y2 => exact ⟨_, (Option.some.inj y2).symm⟩
        | 1, y2 => exact ⟨_, (Option.some.inj y2).symm⟩
      walk_at "st"
      exact ⟨rfl, _, rfl⟩
    · rintro σ H1 ⟨rfl, l, rfl⟩
      walk_at "st"
      rw [decide_eq_true (show (q.den : Int) ≥ 1 by omega)]
      walk_at "st"
      refine ⟨_, _, rfl, ?_⟩
      rw [gcd_low]
      walk_at "st"
      exact k
def sp_equal (K : PySem.W.Frag) : Sp := fun vs H Q _ => ∃ (v w : V) (q : Rat), vs = [v, w] ∧ Fr K H v q ∧ Fr K H w q ∧ Q (.bl true) H
theorem ok__law_equal (T : Tx K mg) (hseer : base.NoSeer) : FnOk PP w K mg base CX0 38 T.a__law_equal T.d__law_equal ["actual", "due"] (sp_equal K) := by
  refine T.F__law_equal.ok sc__law_equal (fun vs H Q E h => ?_) (fun cdv A outer s H vs Q E hr h => ?_)
  · obtain ⟨_, _, _, rfl, _⟩ := h; rfl
  · obtain ⟨_, _, q, rfl, ⟨a, rfl, ha⟩, ⟨b, rfl, hb⟩, k⟩ := h
    refine ⟨_, (pss_one (ps_ret (pe_and (pe_call (ok__law_is_low T hseer) (hr.mono (by decide)) rfl T.g__law_is_low T.k__law_is_low T.b__law_is_low .nil pass0 (pa_cons (pv 0) pa_nil)) (pe_and (pe_cmpR (op_eqU hr.units) (pe_ix ix_seq (pv 0) pe_int (fun _ _ => rfl)) (pe_ix ix_seq (pv 1) pe_int (fun _ _ => rfl)) (nomark _)) (pe_one (pe_cmpR (op_eqU hr.units) (pe_ix ix_seq (pv 0) pe_int (fun _ _ => rfl)) (pe_ix ix_seq (pv 1) pe_int (fun _ _ => rfl)) (nomark _))))))), ?_⟩
    walk_at "go"
    refine ⟨_, q, rfl, ⟨a, rfl, ha⟩, ?_⟩
    walk_at "st"
    rw [decide_eq_true rfl]
    walk_at "st"
    rw [decide_eq_true rfl]
    exact k
def sp_polyEq (K : PySem.W.Frag) : Sp := fun vs H Q _ => ∃ (v w : V) (p : List Rat), vs = [v, w] ∧ RowT K H v p ∧ Row K H w p ∧ p.length ≤ 100000 ∧ Q (.bl true) H
theorem ok__law_poly_equal (T : Tx K mg) (hseer : base.NoSeer) : FnOk PP w K mg base CX0 39 T.a__law_poly_equal T.d__law_poly_equal ["actual", "due"] (sp_polyEq K) := by
  refine T.F__law_poly_equal.ok sc__law_poly_equal (fun vs H Q E h => ?_) (fun cdv A outer s H vs Q E hr h => ?_)
  · obtain ⟨_, _, _, rfl, _⟩ := h; rfl
  · obtain ⟨_, _, p, rfl, ⟨a, xs, rfl, ha, fa⟩, ⟨b, ys, rfl, hb, fb⟩, lp, k⟩ := h
    have la := fa.len
    have lb := fb.len
    refine ⟨_, (pss_cons (ps_if (PW.pt (pw_or (pt_not (pt_truthU (pe_callB call_isi (by rfl) T.n_isinstance (by decide +kernel) (pa_cons (pv 0) (pa_cons (pe_bltn (v := V.ty "tuple") (by rfl) T.n_tuple (by decide +kernel) rfl) pa_nil))) (fun _ => rfl))) (pw_or1 (pt_cmpR (op_neU hr.units) (pe_callB call_lenU (by rfl) T.n_len (by decide +kernel) (pa_cons (pv 0) pa_nil)) (pe_callB call_lenU (by rfl) T.n_len (by decide +kernel) (pa_cons (pv 1) pa_nil)) (nomark _)))))
   (pss_one (ps_ret pe_bl))
   pss_nil)
  (pss_cons (ps_for PassesOwn.never rfl (pi_range1 rfl T.n_range (pa_cons (pe_callB call_lenU (by rfl) T.n_len (by decide +kernel) (pa_cons (pv 1) pa_nil)) pa_nil)) (pg_name (i := 2) (sc__law_poly_equal).nd rfl (by first | exact Or.inl rfl | exact Or.inr rfl))
   (pss_one (ps_if (pt_not (pt_truthU (pe_call (ok__law_equal T hseer) (hr.mono (by decide)) rfl T.g__law_equal T.k__law_equal T.b__law_equal .nil pass0 (pa_cons (pe_ix ix_seq (pv 0) (pv 2) (fun _ _ => rfl)) (pa_cons (pe_ix ix_seq (pv 1) (pv 2) (fun _ _ => rfl)) pa_nil))) (fun _ => rfl)))
   (pss_one (ps_ret pe_bl))
   pss_nil)))
  (pss_one (ps_ret pe_bl)))), ?_⟩
    walk_at "go"
    refine u_isTT ha ?_
    walk_at "st"
    refine u_len (.inr ha) ?_
    walk_at "st"
    refine u_iteN (fun h => absurd (by omega) h) (fun _ => ?_)
    walk_at "st"
    refine u_rng1 (by omega) ?_
    refine forK walk_range0 (fun i σ H' => H' = H ∧ ∃ l : Option V, σ = [some (.ref a), some (.ref b), l]) ⟨rfl, _, rfl⟩ (fun _ _ _ _ _ => trivial) ?_ ?_
    · rintro i x σ H1 H' hi ⟨rfl, l, rfl⟩ ⟨rfl, rfl⟩
      walk_at "st"
      refine u_at (i := i) (.inr ha) fa rfl (by omega) fun z1 hz1 => ?_
      walk_at "st"
      refine u_at (i := i) hb fb rfl (by omega) fun z2 hz2 => ?_
      walk_at "st"
      refine ⟨_, _, cf p i, rfl, ⟨z1, rfl, hz1⟩, ⟨z2, rfl, hz2⟩, ?_⟩
      walk_at "st"
      exact ⟨rfl, _, rfl⟩
    · rintro σ H1 ⟨rfl, l, rfl⟩
      walk_at "st"
      exact k
def sp_isPoly (K : PySem.W.Frag) : Sp := fun vs H Q _ => ∃ (v : V) (p : List Rat), vs = [v] ∧ RowT K H v p ∧ IsT p ∧ Q (.bl true) H
theorem ok__law_is_poly (T : Tx K mg) (hseer : base.NoSeer) : FnOk PP w K mg base CX0 38 T.a__law_is_poly T.d__law_is_poly ["actual"] (sp_isPoly K) := by
  refine T.F__law_is_poly.ok sc__law_is_poly (fun vs H Q E h => ?_) (fun cdv A outer s H vs Q E hr h => ?_)
  · obtain ⟨_, _, rfl, _⟩ := h; rfl
  · obtain ⟨_, p, rfl, ⟨a, xs, rfl, ha, fa⟩, ht, k⟩ := h
    have la := fa.len
    refine ⟨_, (pss_cons (ps_if (pt_not (pt_truthU (pe_callB call_isi (by rfl) T.n_isinstance (by decide +kernel) (pa_cons (pv 0) (pa_cons (pe_bltn (v := V.ty "tuple") (by rfl) T.n_tuple (by decide +kernel) rfl) pa_nil))) (fun _ => rfl)))
   (pss_one (ps_ret pe_bl))
   pss_nil)
  (pss_cons (ps_for PassesOwn.never rfl (pi_seqA (pv 0)) (pg_name (i := 1) (sc__law_is_poly).nd rfl (by first | exact Or.inl rfl | exact Or.inr rfl))
   (pss_one (ps_if (pt_not (pt_truthU (pe_call (ok__law_is_low T hseer) (hr.mono (by decide)) rfl T.g__law_is_low T.k__law_is_low T.b__law_is_low .nil pass0 (pa_cons (pv 1) pa_nil)) (fun _ => rfl)))
   (pss_one (ps_ret pe_bl))
   pss_nil)))
  (pss_one (ps_ret (pe_or (pe_cmpR (op_eqU hr.units) (pe_callB call_lenU (by rfl) T.n_len (by decide +kernel) (pa_cons (pv 0) pa_nil)) pe_int (nomark _)) (pe_one (pe_cmpR (op_neU hr.units) (pe_ix ix_seq (pe_ix ix_seq (pv 0) (pe_op op_sub (pe_callB call_lenU (by rfl) T.n_len (by decide +kernel) (pa_cons (pv 0) pa_nil)) pe_int) (fun _ _ => rfl)) pe_int (fun _ _ => rfl)) pe_int (nomark _)))))))), ?_⟩
    walk_at "go"
    refine u_isTT ha ?_
    walk_at "st"
    refine seqB_go (Same.refl H) (.inr ha) fun J G hG hw => ?_
    refine forK hw (fun i σ H' => H' = H ∧ ∃ l : Option V, σ = [some (.ref a), l]) ⟨rfl, _, rfl⟩ (fun i σ H' hi q => hG _ (by rw [q.1]; exact Same.refl H)) ?_ ?_
    · rintro i x σ H1 H' hi ⟨rfl, l, rfl⟩ ⟨rfl, y2⟩
      obtain ⟨v, hv, fv⟩ := fa.at (i := i) (by omega)
      rw [hv] at y2
      cases y2
      walk_at "st"
      refine ⟨_, cf p i, rfl, fv, ?_⟩
      walk_at "st"
      exact ⟨rfl, _, rfl⟩
    · rintro σ H1 ⟨rfl, l, rfl⟩
      walk_at "st"
      refine u_len (.inr ha) ?_
      walk_at "st"
      refine u_ite (fun h => ?_) (fun h => ?_)
      · exact k
      · walk_at "st"
        refine u_len (.inr ha) ?_
        walk_at "st"
        refine u_at (i := p.length - 1) (.inr ha) fa (by omega) (by omega) fun z1 hz1 => ?_
        walk_at "st"
        rw [decide_eq_false fun z => ht (by omega) (Rat.num_eq_zero.mp z)]
        exact k
/-- _law_given(bag, row): a list or a tuple with up to two zeros more -/
def sp_given (K : PySem.W.Frag) : Sp := fun vs H Q _ => ∃ (b : Addr) (v : V) (p : List Rat) (n : Nat), vs = [.ref b, v] ∧ BagAt H b n ∧ n ≤ 900000 ∧ RowL K H v p ∧ p.length ≤ 1000 ∧
  ∀ t v' (m : Nat) H', m ≤ 2 → RowK t K H' v' (p ++ List.replicate m 0) → BagAt H' b (n + 2) → SameX b H H' → Q v' H'
theorem ok__law_given (T : Tx K mg) (hseer : base.NoSeer) : FnOk PP w K mg base CX0 37 T.a__law_given T.d__law_given ["bag", "row"] (sp_given K) := by
  refine T.F__law_given.ok sc__law_given (fun vs H Q E h => ?_) (fun cdv A outer s H vs Q E hr h => ?_)
  · obtain ⟨_, _, _, _, rfl, _⟩ := h; rfl
  · obtain ⟨b, v, p, n, rfl, hb, hn, hv, lp, k⟩ := h
    refine ⟨_, (pss_cons (ps_set (i := 2) (sc__law_given).nd rfl (by first | exact Or.inl rfl | exact Or.inr rfl) (pe_op op_addU (pe_callTy call_listU (by rfl) T.n_list (by decide +kernel) (pa_cons (pv 1) pa_nil)) (pe_lc (own := [("k", 3)]) rfl (sc__law_given).nd (pi_range1 rfl T.n_range (pa_cons (pe_call (ok__law_draw T hseer) (hr.mono (by decide)) rfl T.g__law_draw T.k__law_draw T.b__law_draw .nil pass0 (pa_cons (pv 0) (pa_cons pe_int pa_nil))) pa_nil)) (blkOk_by (own := [("k", 3)]) (N := n__law_given) (sc := defScope s__law_given) (by decide +kernel)) (fun _ _ _ _ _ => (pg_name (i := 3) (sc__law_given).nd rfl (by first | exact Or.inl rfl | exact Or.inr rfl))) (fun _ _ _ _ _ => pts_nil) (fun _ _ _ _ _ => (pe_tup (pa_cons pe_int (pa_cons pe_int pa_nil)))))))
  (pss_cons (ps_if (pt_cmpR (op_eqU hr.units) (pe_call (ok__law_draw T hseer) (hr.mono (by decide)) rfl T.g__law_draw T.k__law_draw T.b__law_draw .nil pass0 (pa_cons (pv 0) (pa_cons pe_int pa_nil))) pe_int (nomark _))
   (pss_one (ps_ret (pv 2)))
   pss_nil)
  (pss_one (ps_ret (pe_callTy call_tupleU (by rfl) T.n_tuple (by decide +kernel) (pa_cons (pv 2) pa_nil)))))), ?_⟩
    walk_at "go"
    refine u_listRow hv.row (Same.refl H) fun D H1 L e1 => ?_
    walk_at "st"
    refine ⟨b, 3, n, rfl, by decide, hb.same e1, by omega, fun d H2 d0 d1 b2 e2 => ?_⟩
    have r2 : RowL K H2 (.ref D) p := L.row.bag (hb.same e1) e2
    walk_at "st"
    refine u_rng1 (by omega) ?_
    refine lcK walk_range0 (fun D i acc H' => Loc K H2 D H' (List.replicate i 0)) (fun D hD => Loc.new hD (Same.refl _) trivial) (fun _ _ _ _ _ _ _ => trivial) ?_ ?_
    · rintro D i acc x H1 H' hD hi L ⟨rfl, rfl⟩
      walk_at "st"
      refine ⟨rfl, ?_⟩
      walk_at "st"
      intro z H2 e2 f2
      refine lcLoc (L.ext e2) (by rw [List.length_replicate]; omega) ⟨z, rfl, f2 K⟩ fun acc H3 L3 _ => ?_
      rw [rep_succ]; exact L3
    rintro D2 acc H3 hD L3
    have e3 := L3.1
    obtain ⟨_, xs, eq, h1, f1⟩ := r2.same e3
    cases eq
    obtain ⟨_, ys, eq, h2, f2⟩ := L3.row
    cases eq
    have l1 := f1.len
    have l2 := f2.len
    rw [List.length_replicate] at l2
    have small : xs.length + ys.length ≤ sizeLine := Nat.le_trans (m := 2000) (by omega) (by decide)
    refine .inr (.inl ⟨D, D2, xs, ys, rfl, rfl, h1, h2, small, fun D3 hD3 => ?_⟩)
    have e4 := same_new (o := .lst (xs ++ ys)) hD3
    have r4 : RowL K (upd H3 D3 (.lst (xs ++ ys))) (.ref D3) (p ++ List.replicate d.toNat 0) := ⟨D3, _, rfl, upd_same, (f1.append f2).same e4⟩
    generalize upd H3 D3 (.lst (xs ++ ys)) = H4 at e4 r4 ⊢
    have b4 := (b2.same e3).same e4
    have x4 : SameX b H H4 := ((e1.x.trans e2).trans e3.x).trans e4.x
    walk_at "st"
    refine ⟨b, 2, _, rfl, by decide, b4, by omega, fun d2 H5 _ _ b5 e5 => ?_⟩
    have r5 := r4.bag b4 e5
    walk_at "st"
    refine u_ite (fun h => ?_) (fun h => ?_)
    · walk_at "st"
      exact k false _ d.toNat H5 (by omega) r5 b5 (x4.trans e5)
    · walk_at "st"
      exact u_tupleRow r5.row fun v' H6 e6 r6 => k true v' d.toNat H6 (by omega) r6 (b5.same e6) ((x4.trans e5).trans e6.x)
def sp_copied (K : PySem.W.Frag) : Sp := fun vs H Q _ => ∃ (v : V) (t : Bool) (p : List Rat), vs = [v] ∧ RowK t K H v p ∧ ∀ v' H', Same H H' → RowK t K H' v' p → Q v' H'
theorem ok__law_copied (T : Tx K mg) (hseer : base.NoSeer) : FnOk PP w K mg base CX0 36 T.a__law_copied T.d__law_copied ["given"] (sp_copied K) := by
  refine T.F__law_copied.ok sc__law_copied (fun vs H Q E h => ?_) (fun cdv A outer s H vs Q E hr h => ?_)
  · obtain ⟨_, _, _, rfl, _⟩ := h; rfl
  · obtain ⟨v, t, p, rfl, hv, k⟩ := h
    refine ⟨_, (pss_cons (ps_if (pt_truthU (pe_callB call_isi (by rfl) T.n_isinstance (by decide +kernel) (pa_cons (pv 0) (pa_cons (pe_bltn (v := V.ty "list") (by rfl) T.n_list (by decide +kernel) rfl) pa_nil))) (fun _ => rfl))
   (pss_one (ps_ret (pe_callTy call_listU (by rfl) T.n_list (by decide +kernel) (pa_cons (pv 0) pa_nil))))
   pss_nil)
  (pss_one (ps_ret (pe_callTy call_tupleU (by rfl) T.n_tuple (by decide +kernel) (pa_cons (pe_callTy call_listU (by rfl) T.n_list (by decide +kernel) (pa_cons (pv 0) pa_nil)) pa_nil))))), ?_⟩
    walk_at "go"
    cases t with
    | true =>
      have hv : RowT K H v p := hv
      obtain ⟨a, xs, rfl, ha, fa⟩ := id hv
      refine u_isTL ha ?_
      walk_at "st"
      refine u_listRow hv.row (Same.refl H) fun D H1 L e1 => ?_
      walk_at "st"
      exact u_tupleRow L.row.row fun v' H2 e2 r2 => k v' H2 (e1.trans e2) r2
    | false =>
      have hv : RowL K H v p := hv
      obtain ⟨a, xs, rfl, ha, fa⟩ := id hv
      refine u_isLL (SqL.of ha) ?_
      walk_at "st"
      exact u_listRow hv.row (Same.refl H) fun D H1 L e1 => k _ H1 e1 L.row
end
end K03

set_option maxHeartbeats 4000000
namespace K03
open PySem PySem.Spec PyProof.Rows L2 Ly


section
variable {w : World} {K : PySem.W.Frag} {mg : Str → Option Value} {base : Heap}
theorem u_andNot {σ : L2.St} {i : Nat} {large : Bool} {Q : VK} {H : Hp} {b : Prop} [Decidable b] (hσ : σ[i]? = some (some (.bl large))) (h : ∀ c, (c = true → large = false) → Q (.bl c) H) : if decide b = true then tNotV (tVar i) σ H Q else Q (.bl false) H := by
  by_cases hb : b
  · rw [if_pos (decide_eq_true hb)]
    refine Ly.st_notV ?_
    refine Ly.st_var hσ ?_
    exact ⟨large, rfl, h _ (by cases large <;> simp)⟩
  · rw [if_neg (by simp [hb])]
    exact h _ (fun z => nomatch z)
def sp_pair (K : PySem.W.Frag) : Sp := fun vs H Q _ => ∃ (b : Addr) (large : Bool) (n : Nat), vs = [.ref b, .bl large] ∧ BagAt H b n ∧ n ≤ 10000 ∧
  ∀ z vl vr p q H', H' z = some (.lst [vl, vr]) → RowL K H' vl p → RowL K H' vr q → Fit p q → BagAt H' b (n + 900) → SameX b H H' → Q (.ref z) H'
theorem ok__law_pair (T : Tx K mg) (hseer : base.NoSeer) : FnOk PP w K mg base CX0 40 T.a__law_pair T.d__law_pair ["bag", "large"] (sp_pair K) := by
  refine T.F__law_pair.ok sc__law_pair (fun vs H Q E h => ?_) (fun cdv A outer s H vs Q E hr h => ?_)
  · obtain ⟨_, _, _, rfl, _⟩ := h; rfl
  · obtain ⟨b, large, n, rfl, hb, hn, k⟩ := h
    have fin : ∀ vl vr p q H', RowL K H' vl p → RowL K H' vr q → Fit p q → BagAt H' b (n + 900) → SameX b H H' → [vl, vr].length ≤ sizeLine ∧ ∀ z, H' z = none → Q (.ref z) (upd H' z (.lst [vl, vr])) := fun vl vr p q H' r1 r2 ft hb' x =>
      ⟨by show 2 ≤ sizeLine; decide, fun z hz => k z vl vr p q _ upd_same (r1.same (same_new hz)) (r2.same (same_new hz)) ft (hb'.same (same_new hz)) (x.trans (same_new hz).x)⟩
    refine ⟨_, (pss_cons (ps_set (i := 2) (sc__law_pair).nd rfl (by first | exact Or.inl rfl | exact Or.inr rfl) (pe_call (ok__law_draw T hseer) (hr.mono (by decide)) rfl T.g__law_draw T.k__law_draw T.b__law_draw .nil pass0 (pa_cons (pv 0) (pa_cons pe_int pa_nil))))
  (pss_cons (ps_set (i := 3) (sc__law_pair).nd rfl (by first | exact Or.inl rfl | exact Or.inr rfl) (pe_op op_mulU pe_int (pe_callTy call_intU (by rfl) T.n_int (by decide +kernel) (pa_cons (pe_and (pe_cmpR (op_eqU hr.units) (pe_call (ok__law_draw T hseer) (hr.mono (by decide)) rfl T.g__law_draw T.k__law_draw T.b__law_draw .nil pass0 (pa_cons (pv 0) (pa_cons pe_int pa_nil))) pe_int (nomark _)) (pe_one (pe_not (pv 1)))) pa_nil))))
  (pss_cons (ps_set (i := 4) (sc__law_pair).nd rfl (by first | exact Or.inl rfl | exact Or.inr rfl) (pe_call (ok__law_poly T hseer) (hr.mono (by decide)) rfl T.g__law_poly T.k__law_poly T.b__law_poly .nil pass0 (pa_cons (pv 0) (pa_cons (pe_op op_addU (pe_call (ok__law_draw T hseer) (hr.mono (by decide)) rfl T.g__law_draw T.k__law_draw T.b__law_draw .nil pass0 (pa_cons (pv 0) (pa_cons pe_int pa_nil))) (pe_op op_mulU pe_int (pv 3))) (pa_cons (pv 1) pa_nil)))))
  (pss_cons (ps_set (i := 5) (sc__law_pair).nd rfl (by first | exact Or.inl rfl | exact Or.inr rfl) (pe_call (ok__law_poly T hseer) (hr.mono (by decide)) rfl T.g__law_poly T.k__law_poly T.b__law_poly .nil pass0 (pa_cons (pv 0) (pa_cons (pe_op op_addU (pe_call (ok__law_draw T hseer) (hr.mono (by decide)) rfl T.g__law_draw T.k__law_draw T.b__law_draw .nil pass0 (pa_cons (pv 0) (pa_cons pe_int pa_nil))) (pv 3)) (pa_cons (pv 1) pa_nil)))))
  (pss_cons (ps_if (pt_cmpR (op_eqU hr.units) (pv 2) pe_int (nomark _))
   (pss_one (ps_ret (pe_lst (pa_cons (pv 4) (pa_cons (pe_call (ok__law_trim T hseer) (hr.mono (by decide)) rfl T.g__law_trim T.k__law_trim T.b__law_trim .nil pass0 (pa_cons (pe_callTy call_listU (by rfl) T.n_list (by decide +kernel) (pa_cons (pv 4) pa_nil)) pa_nil)) pa_nil)))))
   pss_nil)
  (pss_cons (ps_if (pt_cmpR (op_eqU hr.units) (pv 2) pe_int (nomark _))
   (pss_one (ps_ret (pe_lst (pa_cons (pv 4) (pa_cons (pe_lst pa_nil) pa_nil)))))
   pss_nil)
  (pss_cons (ps_if (pt_cmpR (op_eqU hr.units) (pv 2) pe_int (nomark _))
   (pss_one (ps_ret (pe_lst (pa_cons (pv 4) (pa_cons (pe_call (ok__law_product T hseer) (hr.mono (by decide)) rfl T.g__law_product T.k__law_product T.b__law_product .nil pass0 (pa_cons (pv 4) (pa_cons (pe_lst (pa_cons (pe_call (ok__law_entry T hseer) (hr.mono (by decide)) rfl T.g__law_entry T.k__law_entry T.b__law_entry .nil pass0 (pa_cons (pv 0) (pa_cons pe_bl pa_nil))) pa_nil)) pa_nil))) pa_nil)))))
   pss_nil)
  (pss_cons (ps_if (pt_cmpR (op_eqU hr.units) (pv 2) pe_int (nomark _))
   (pss_one (ps_ret (pe_lst (pa_cons (pv 4) (pa_cons (pe_call (ok__law_product T hseer) (hr.mono (by decide)) rfl T.g__law_product T.k__law_product T.b__law_product .nil pass0 (pa_cons (pv 4) (pa_cons (pv 5) pa_nil))) pa_nil)))))
   pss_nil)
  (pss_cons (ps_if (pt_cmpR (op_eqU hr.units) (pv 2) pe_int (nomark _))
   (pss_one (ps_ret (pe_lst (pa_cons (pv 4) (pa_cons (pv 5) pa_nil)))))
   pss_nil)
  (pss_cons (ps_set (i := 6) (sc__law_pair).nd rfl (by first | exact Or.inl rfl | exact Or.inr rfl) (pe_call (ok__law_poly T hseer) (hr.mono (by decide)) rfl T.g__law_poly T.k__law_poly T.b__law_poly .nil pass0 (pa_cons (pv 0) (pa_cons (pe_op op_addU pe_int (pe_call (ok__law_draw T hseer) (hr.mono (by decide)) rfl T.g__law_draw T.k__law_draw T.b__law_draw .nil pass0 (pa_cons (pv 0) (pa_cons pe_int pa_nil)))) (pa_cons (pv 1) pa_nil)))))
  (Evl.pss_cut (ps_if (PW.pt (pw_and (pt_cmpR (op_eqU hr.units) (pv 2) pe_int (nomark _)) (pw_and1 (pt_not (pt_truthU (pv 1) (fun _ => rfl))))))
   (pss_one (ps_set (i := 6) (sc__law_pair).nd rfl (by first | exact Or.inl rfl | exact Or.inr rfl) (pe_call (ok__law_product T hseer) (hr.mono (by decide)) rfl T.g__law_product T.k__law_product T.b__law_product .nil pass0 (pa_cons (pv 6) (pa_cons (pv 6) pa_nil)))))
   pss_nil)
  (Evl.pss_cut (ps_if (pt_cmpR (op_eqU hr.units) (pe_callB call_lenU (by rfl) T.n_len (by decide +kernel) (pa_cons (pv 6) pa_nil)) pe_int (nomark _))
   (pss_one (ps_set (i := 6) (sc__law_pair).nd rfl (by first | exact Or.inl rfl | exact Or.inr rfl) (pe_lst (pa_cons (pe_tup (pa_cons pe_int (pa_cons pe_int pa_nil))) (pa_cons (pe_tup (pa_cons pe_int (pa_cons pe_int pa_nil))) pa_nil)))))
   pss_nil)
  (pss_one (ps_ret (pe_lst (pa_cons (pe_call (ok__law_product T hseer) (hr.mono (by decide)) rfl T.g__law_product T.k__law_product T.b__law_product .nil pass0 (pa_cons (pe_slice sl_U (pv 4) po_none (po_some pe_int)) (pa_cons (pv 6) pa_nil))) (pa_cons (pe_call (ok__law_product T hseer) (hr.mono (by decide)) rfl T.g__law_product T.k__law_product T.b__law_product .nil pass0 (pa_cons (pv 5) (pa_cons (pv 6) pa_nil))) pa_nil))))))))))))))))), ?_⟩
    walk_at "go"
    refine ⟨b, 8, n, rfl, by decide, hb, by omega, fun way H1 w0 w1 b1 e1 => ?_⟩
    walk_at "st"
    refine ⟨b, 10, _, rfl, by decide, b1, by omega, fun d H2 _ _ b2 e2 => ?_⟩
    walk_at "st"
    refine u_andNot rfl fun c hc => ?_
    walk_at "st"
    generalize hm : (if c = true then (1 : Int) else 0) = m
    have m01 : 0 ≤ m ∧ m ≤ 1 ∧ (large = true → m = 0) := by
      subst hm
      cases c <;> cases large <;> simp at hc ⊢
    walk_at "st"
    refine ⟨b, 5, _, rfl, by decide, b2, by omega, fun d5 H3 d50 d51 b3 e3 => ?_⟩
    walk_at "st"
    refine ⟨b, _, large, _, rfl, b3, by omega, by omega, by omega, fun vl ql H4 r4 l4 en4 b4 e4 => ?_⟩
    walk_at "st"
    refine ⟨b, 4, _, rfl, by decide, b4, by omega, fun d4 H5 d40 d41 b5 e5 => ?_⟩
    have r4 := r4.bag b4 e5
    walk_at "st"
    refine ⟨b, _, large, _, rfl, b5, by omega, by omega, by omega, fun vr qr H6 r6 l6 en6 b6 e6 => ?_⟩
    have r4 := r4.bag b5 e6
    have x6 : SameX b H H6 := ((((e1.trans e2).trans e3).trans e4).trans e5).trans e6
    have zl := ent_sz (k := 4) en4 fun z => by have := m01.2.2 z; omega
    have zr := ent_sz (k := 3) en6 fun z => by have := m01.2.2 z; omega
    have tl := trim_isT ql
    have tr := trim_isT qr
    have h1 := trim_len ql
    have h2 := tlen_le ql
    have h3 := trim_len qr
    have h4 := tlen_le qr
    have ll4 : large = true → (trim ql).length ≤ 4 := fun z => by have := m01.2.2 z; omega
    have lr3 : large = true → (trim qr).length ≤ 3 := fun z => by have := m01.2.2 z; omega
    have l20 : (trim ql).length ≤ 8 := by omega
    have r20 : (trim qr).length ≤ 5 := by omega
    clear h1 h2 h3 h4
    generalize trim ql = p at *
    generalize trim qr = q at *
    have lpk : p.length ≤ if large = true then 6 else 12 := pk (fun z => by have := ll4 z; omega) (fun _ => by omega)
    have lqk : q.length ≤ if large = true then 6 else 12 := pk (fun z => by have := lr3 z; omega) (fun _ => by omega)
    have zl41 : Sz (if large = true then 281 else 41) p := zl.mono (by split <;> omega)
    have zr41 : Sz (if large = true then 281 else 41) q := zr.mono (by split <;> omega)
    walk_at "st"
    refine u_ite (fun h => ?_) (fun h => ?_)
    · walk_at "st"
      refine u_listRow r4.row (Same.refl _) fun D H7 L e7 => ?_
      walk_at "st"
      refine ⟨_, p, rfl, L.row, by omega, fun v8 H8 e8 r8 => ?_⟩
      rw [tl.eq] at r8
      exact fin _ _ p p H8 ((r4.same e7).same e8) r8 (fit_of tl tl zl41 zl41 lpk lpk) (((b6.same e7).same e8).mono (by omega)) ((x6.trans e7.x).trans e8.x)
    walk_at "st"
    refine u_ite (fun h => ?_) (fun h => ?_)
    · walk_at "st"
      refine ⟨by show 0 ≤ sizeLine; decide, fun D hD => ?_⟩
      have e7 := same_new (o := .lst []) hD
      exact fin _ _ p [] _ (r4.same e7) ⟨D, [], rfl, upd_same, trivial⟩ (fit_of tl isT_nil zl41 (sz_nil (by split <;> omega)) lpk (by show 0 ≤ _; omega)) ((b6.same e7).mono (by omega)) (x6.trans e7.x)
    walk_at "st"
    refine u_ite (fun h => ?_) (fun h => ?_)
    · walk_at "st"
      refine ⟨b, false, _, rfl, b6, by omega, fun ve qe H7 f7 en7 b7 e7 => ?_⟩
      walk_at "st"
      refine ⟨by show 1 ≤ sizeLine; decide, fun D hD => ?_⟩
      have e8 := same_new (o := .lst [ve]) hD
      have r8 : RowL K (upd H7 D (.lst [ve])) (.ref D) [qe] := ⟨D, [ve], rfl, upd_same, f7.same e8, trivial⟩
      have r4 := (r4.bag b6 e7).same e8
      have b8 := b7.same e8
      have x8 := (x6.trans e7).trans e8.x
      generalize upd H7 D (.lst [ve]) = H8 at *
      walk_at "st"
      refine ⟨_, _, p, [qe], _, _, rfl, r4.row, r8.row, zl, sz_one en7, zl.pos, by split <;> omega, by omega, by show 1 ≤ 1000; decide, fun v9 H9 e9 r9 => ?_⟩
      have hl := pmul_len p [qe]
      simp only [List.length_singleton] at hl
      exact fin _ _ p _ H9 (r4.same e9) r9 (fit_of tl (pmul_isT _ _) zl41 ((sz_pmul (k := 3) zl (sz_one en7) (by omega)).mono (by split <;> omega)) lpk (pk (fun z => by have := ll4 z; omega) (fun _ => by omega))) ((b8.same e9).mono (by omega)) (x8.trans e9.x)
    walk_at "st"
    refine u_ite (fun h => ?_) (fun h => ?_)
    · walk_at "st"
      refine ⟨_, _, p, q, _, _, rfl, r4.row, r6.row, zl, zr, zl.pos, by split <;> omega, by omega, by omega, fun v9 H9 e9 r9 => ?_⟩
      have hl := pmul_len p q
      refine fin _ _ p _ H9 (r4.same e9) r9 (fit_of tl (pmul_isT _ _) zl41 ((sz_pmul (k := if large = true then 2 else 3) zl zr (by split; (rename_i z; have := ll4 z; omega); omega)).mono (by split <;> omega)) lpk (pk (fun z => by have := ll4 z; have := lr3 z; omega) (fun _ => by omega))) ((b6.same e9).mono (by omega)) (x6.trans e9.x)
    walk_at "st"
    refine u_ite (fun h => ?_) (fun h => ?_)
    · walk_at "st"
      exact fin _ _ p q H6 r4 r6 (fit_of tl tr zl41 zr41 lpk lqk) (b6.mono (by omega)) x6
    walk_at "st"
    refine ⟨b, 3, _, rfl, by decide, b6, by omega, fun d3 H7 d30 d31 b7 e7 => ?_⟩
    walk_at "st"
    refine ⟨b, _, large, _, rfl, b7, by omega, by omega, by omega, fun vs qs H8 r8 l8 en8 b8 e8 => ?_⟩
    have r4 := (r4.bag b6 e7).bag b7 e8
    have r6 := (r6.bag b6 e7).bag b7 e8
    have x8 := (x6.trans e7).trans e8
    have zs := ent_sz (k := 3) en8 fun _ => by omega
    have ts := trim_isT qs
    have ls : (trim qs).length ≤ 3 := by
      have h1 := trim_len qs
      have h2 := tlen_le qs
      omega
    generalize trim qs = sh at *
    walk_at "st"
    refine u_cut (fun σ' H' => Same H8 H' ∧ ∃ vs sh, σ' = [some (.ref b), some (.bl large), some (.int way), some (.int (2 * m)), some vl, some vr, some vs] ∧ RowL K H' vs sh ∧ Sz (if large = true then 124 else 26) sh ∧ IsT sh ∧ sh.length ≤ if large = true then 3 else 5) ?_ ?_
    · have stay : Same H8 H8 ∧ ∃ vs' sh, [some (V.ref b), some (.bl large), some (.int way), some (.int (2 * m)), some vl, some vr, some vs] = [some (.ref b), some (.bl large), some (.int way), some (.int (2 * m)), some vl, some vr, some vs'] ∧ RowL K H8 vs' sh ∧ Sz (if large = true then 124 else 26) sh ∧ IsT sh ∧ sh.length ≤ if large = true then 3 else 5 :=
        ⟨Same.refl _, vs, sh, rfl, r8, zs.mono (by split <;> omega), ts, by split <;> omega⟩
      walk_at "st"
      refine u_ite (fun h => ?_) (fun h => ?_)
      · walk_at "st"
        cases large with
        | true =>
          walk_at "st"
          exact stay
        | false =>
          walk_at "st"
          refine ⟨_, _, sh, sh, _, _, rfl, r8.row, r8.row, zs, zs, by decide, by decide, by omega, by omega, fun v9 H9 e9 r9 => ?_⟩
          walk_at "st"
          have hl := pmul_len sh sh
          exact ⟨e9, v9, _, rfl, r9, sz_pmul (k := 2) zs zs (by omega), pmul_isT _ _, by show _ ≤ 5; omega⟩
      · walk_at "st"
        exact stay
    rintro σ' H9 ⟨e9, vs, sh, rfl, r9, zs, ts, ls⟩
    refine u_cut (fun σ' H' => Same H9 H' ∧ ∃ vs sh, σ' = [some (.ref b), some (.bl large), some (.int way), some (.int (2 * m)), some vl, some vr, some vs] ∧ RowL K H' vs sh ∧ Sz (if large = true then 124 else 26) sh ∧ IsT sh ∧ sh.length ≤ if large = true then 3 else 5) ?_ ?_
    · obtain ⟨sa, sxs, rfl, hsa, fsa⟩ := id r9
      walk_at "st"
      refine u_len (.inl (SqL.of hsa)) ?_
      walk_at "st"
      refine u_ite (fun h => ?_) (fun h => ?_)
      · walk_at "st"
        intro z1 H10 e10 f10
        walk_at "st"
        intro z2 H11 e11 f11
        walk_at "st"
        refine ⟨by show 2 ≤ sizeLine; decide, fun D hD => ?_⟩
        have e12 := same_new (o := .lst [V.ref z1, V.ref z2]) hD
        walk_at "st"
        exact ⟨(e10.trans e11).trans e12, _, [1, 1], rfl, ⟨D, _, rfl, upd_same, ⟨z1, rfl, e12.t (e11.t (f10 K))⟩, ⟨z2, rfl, e12.t (f11 K)⟩, trivial⟩, sz_ones.mono (by split <;> omega), fun _ => by show (1 : Rat) ≠ 0; decide, by show 2 ≤ _; split <;> omega⟩
      · walk_at "st"
        exact ⟨Same.refl _, _, sh, rfl, r9, zs, ts, ls⟩
    rintro σ' H10 ⟨e10, vs, sh, rfl, r10, zs, ts, ls⟩
    have l5 : sh.length ≤ 5 := by split at ls <;> omega
    have r4 := (r4.same e9).same e10
    have r6 := (r6.same e9).same e10
    have b10 := (b8.same e9).same e10
    have x10 := (x8.trans e9.x).trans e10.x
    walk_at "st"
    obtain ⟨la, lxs, rfl, hla, fla⟩ := id r4
    refine u_slL (SqL.of hla) fun D hD => ?_
    have e11 := same_new (o := .lst (cutV lxs none (some 4))) hD
    have r11 : RowL K (upd H10 D (.lst (cutV lxs none (some 4)))) (.ref D) (p.take 4) := ⟨D, _, rfl, upd_same, by
      have z := (fla.same e11).take 4
      rw [← cutV_to] at z
      exact z⟩
    generalize upd H10 D (.lst (cutV lxs none (some 4))) = H11 at *
    have l44 : (p.take 4).length ≤ 4 := by rw [List.length_take]; omega
    walk_at "st"
    refine ⟨_, _, p.take 4, sh, _, _, rfl, r11.row, (r10.same e11).row, zl.take, zs, zl.pos, by split <;> omega, by omega, by omega, fun v12 H12 e12 r12 => ?_⟩
    walk_at "st"
    refine ⟨_, _, q, sh, _, _, rfl, ((r6.same e11).same e12).row, ((r10.same e11).same e12).row, zr, zs, zr.pos, by split <;> omega, by omega, by omega, fun v13 H13 e13 r13 => ?_⟩
    have h1 := pmul_len (p.take 4) sh
    have h2 := pmul_len q sh
    have ls3 : large = true → sh.length ≤ 3 := fun z => by rw [if_pos z] at ls; exact ls
    exact fin _ _ _ _ H13 (r12.same e13) r13 (fit_of (large := large) (pmul_isT _ _) (pmul_isT _ _) ((sz_pmul (k := 2) zl.take zs (by omega)).mono (by split <;> omega)) ((sz_pmul (k := 3) zr zs (by omega)).mono (by split <;> omega)) (pk (fun z => by have := ls3 z; omega) (fun _ => by omega)) (pk (fun z => by have := ls3 z; have := lr3 z; omega) (fun _ => by omega)))
      ((((b10.same e11).same e12).same e13).mono (by omega)) (((x10.trans e11.x).trans e12.x).trans e13.x)
end
end K03

set_option maxHeartbeats 4000000
namespace K03
open PySem PySem.Spec PyProof.Rows L2 Ly


section
variable {w : World} {K : PySem.W.Frag} {mg : Str → Option Value} {base : Heap}
def sp_divided (K : PySem.W.Frag) : Sp := fun vs H Q _ => ∃ (v w : V) (p0 u0 : List Rat), vs = [v, w] ∧ Row K H v p0 ∧ Row K H w u0 ∧ p0.length ≤ 500 ∧ u0.length ≤ 500 ∧
  ((trim u0).length = 0 → ∀ z H', Same H H' → SqT K H' z [.str "zero", .bl true, .bl true, .bl false] → Q (.ref z) H') ∧
  (0 < (trim u0).length → ∃ S s, Sz S (trim p0) ∧ Sz s (trim u0) ∧ S + ((trim p0).length + 1 - (trim u0).length) * (s + 1) + 2 * s + 2 ≤ 60000000 ∧
    ∀ y z v1 v2 quo H', Same H H' → SqT K H' y [.str "told", .ref z] → SqT K H' z [v1, v2] → RowT K H' v1 quo → RowT K H' v2 (prem (trim p0) (trim u0)) → IsT quo → quo.length ≤ (trim p0).length → BqL (S + ((trim p0).length + 1 - (trim u0).length) * (s + 1) + s) quo →
      (∀ i, cf (trim p0) i = cv quo (trim u0) i + cf (prem (trim p0) (trim u0)) i) → Q (.ref y) H')
theorem ok__law_divided (T : Tx K mg) (hseer : base.NoSeer) : FnOk PP w K mg base CX0 40 T.a__law_divided T.d__law_divided ["left", "right"] (sp_divided K) := by
  refine T.F__law_divided.ok sc__law_divided (fun vs H Q E h => ?_) (fun cdv A outer s H vs Q E hr h => ?_)
  · obtain ⟨_, _, _, _, rfl, _⟩ := h; rfl
  · obtain ⟨v, w, p0, u0, rfl, rp, ru, lp, lq, kE, kQ⟩ := h
    refine ⟨_, (pss_cons (ps_try_asM (i := 3) rfl rfl (sc__law_divided).nd rfl rfl ⟨rfl, by decide, Or.inl T.g_ZeroBelow⟩ (fun W pn xe tk _ => (pss_one (ps_set (i := 2) (sc__law_divided).nd rfl (by first | exact Or.inl rfl | exact Or.inr rfl) (pe_callS (okX_divide_poly T hseer) (hr.mono (by decide)) rfl T.g_divide_poly T.k_divide_poly T.b_divide_poly (fun σ => passAt tk σ) (pa_cons (pv 0) (pa_cons (pv 1) pa_nil))))))
   (fun a oe cls d pn hz hf => (pss_cls (C := T.a_ZeroBelow) hz fun hz => (pss_cons (ps_set (i := 4) (sc__law_divided).nd rfl (by first | exact Or.inl rfl | exact Or.inr rfl) (pe_or (pe_callB (call_isE T.xc_ZeroBelow hz hf) (by rfl) T.n_isinstance (by decide +kernel) (pa_cons (pv 3) (pa_cons (pe_glob (v := V.ref T.a_LimitError) rfl T.g_LimitError rfl) pa_nil))) (pe_one (pe_callB (call_isE T.xc_ZeroBelow hz hf) (by rfl) T.n_isinstance (by decide +kernel) (pa_cons (pv 3) (pa_cons (pe_glob (v := V.ref T.a_WrongWidth) rfl T.g_WrongWidth rfl) pa_nil))))))
  (pss_one (ps_ret (pe_tup (pa_cons pe_str (pa_cons (pe_callB (call_isE T.xc_ZeroBelow hz hf) (by rfl) T.n_isinstance (by decide +kernel) (pa_cons (pv 3) (pa_cons (pe_glob (v := V.ref T.a_SteelyardError) rfl T.g_SteelyardError rfl) pa_nil))) (pa_cons (pe_callB (call_isE T.xc_ZeroBelow hz hf) (by rfl) T.n_isinstance (by decide +kernel) (pa_cons (pv 3) (pa_cons (pe_bltn (v := V.ty "ValueError") (by rfl) T.n_ValueError (by decide +kernel) rfl) pa_nil))) (pa_cons (pv 4) pa_nil)))))))))))
  (pss_one (ps_ret (pe_tup (pa_cons pe_str (pa_cons (pv 2) pa_nil)))))), ?_⟩
    walk_at "go"
    refine ⟨v, w, p0, u0, rfl, rp, ru, lp, lq, fun z H' e => ?_, fun z => ?_⟩
    · refine ⟨T.em_ZeroBelow, fun a ha => ⟨rfl, rfl, ?_⟩⟩
      walk_at "st"
      refine ⟨_, _, false, rfl, fun u r => r, T.q_ZeroBelow_LimitError, ?_⟩
      walk_at "st"
      refine ⟨_, _, false, rfl, fun u r => r, T.q_ZeroBelow_WrongWidth, ?_⟩
      walk_at "st"
      refine ⟨_, _, true, rfl, fun u r => r, T.q_ZeroBelow_SteelyardError, ?_⟩
      walk_at "st"
      refine ⟨_, _, true, rfl, fun u r => r, T.q_ZeroBelow_ValueError, ?_⟩
      walk_at "st"
      exact ⟨by show 4 ≤ sizeLine; decide, fun y hy => kE z y _ (e.trans (same_new hy)) (SqT.of upd_same)⟩
    · obtain ⟨S, t, z1, z2, z3, k⟩ := kQ z
      refine ⟨S, t, z1, z2, z3, fun z w1 w2 quo H4 e4 hz rw1 rw2 t1 l1 b1 i1 => ?_⟩
      walk_at "st"
      exact ⟨by show 2 ≤ sizeLine; decide, fun y hy => have e5 := same_new hy
        k y z w1 w2 quo _ (e4.trans e5) (SqT.of upd_same) (e5.t hz) (rw1.same e5) (rw2.same e5) t1 l1 b1 i1⟩
/-- a check of a pair -/
def sp_check (K : PySem.W.Frag) (G : List Rat → List Rat → Prop) : Sp := fun vs H Q _ => ∃ (b : Addr) (v w : V) (p q : List Rat) (n : Nat), vs = [.ref b, v, w] ∧ BagAt H b n ∧ n ≤ 100000 ∧ RowL K H v p ∧ RowL K H w q ∧ G p q ∧
  ∀ H', BagAt H' b (n + 10) → SameX b H H' → Q (.bl true) H'
theorem trim_pad {p : List Rat} (h : IsT p) (m : Nat) : trim (p ++ List.replicate m 0) = p := isT_trim h fun i => by
  rw [cf_append]
  split
  · rfl
  · rw [cf_out (by omega), cf_rep]
theorem sz_pad {s m : Nat} {p : List Rat} (h : Sz s p) : Sz s (p ++ List.replicate m 0) := h.sub fun q hq => by
  rcases List.mem_append.mp hq with z | z
  · exact .inl z
  · exact .inr (List.mem_replicate.mp z).2
theorem pad_len {p : List Rat} {m : Nat} : (p ++ List.replicate m 0).length = p.length + m := by rw [List.length_append, List.length_replicate]
theorem gcdN_len : ∀ {n : Nat} {a b : List Rat}, (gcdN n a b).length ≤ max a.length b.length
  | 0, a, b => Nat.le_max_left _ _
  | n + 1, a, b => by
    unfold gcdN
    split
    · exact Nat.le_max_left _ _
    · have h1 := gcdN_len (n := n) (a := b) (b := monic (prem a b))
      have h2 := prem_lt (p := a) (u := b) (by omega)
      rw [monic_len] at h1
      omega
theorem pgcd_len (p q : List Rat) : (pgcd p q).length ≤ max p.length q.length := by
  have := gcdN_len (n := q.length) (a := monic p) (b := monic q)
  rw [monic_len, monic_len] at this
  exact this
theorem ok__law_common_right (T : Tx K mg) (hseer : base.NoSeer) : FnOk PP w K mg base CX0 41 T.a__law_common_right T.d__law_common_right ["bag", "left", "right"] (sp_check K Fit) := by
  refine T.F__law_common_right.ok sc__law_common_right (fun vs H Q E h => ?_) (fun cdv A outer s H vs Q E hr h => ?_)
  · obtain ⟨_, _, _, _, _, _, rfl, _⟩ := h; rfl
  · obtain ⟨b, v, w, p, q, n, rfl, hb, hn, rv, rw', ft, k⟩ := h
    obtain ⟨t1, t2, z1, z2, l1, l2⟩ := ft.f0
    refine ⟨_, (pss_cons (ps_set (i := 3) (sc__law_common_right).nd rfl (by first | exact Or.inl rfl | exact Or.inr rfl) (pe_call (ok__law_given T hseer) (hr.mono (by decide)) rfl T.g__law_given T.k__law_given T.b__law_given .nil pass0 (pa_cons (pv 0) (pa_cons (pv 1) pa_nil))))
  (pss_cons (ps_set (i := 4) (sc__law_common_right).nd rfl (by first | exact Or.inl rfl | exact Or.inr rfl) (pe_call (ok__law_given T hseer) (hr.mono (by decide)) rfl T.g__law_given T.k__law_given T.b__law_given .nil pass0 (pa_cons (pv 0) (pa_cons (pv 2) pa_nil))))
  (pss_cons (ps_set (i := 5) (sc__law_common_right).nd rfl (by first | exact Or.inl rfl | exact Or.inr rfl) (pe_call (ok__law_copied T hseer) (hr.mono (by decide)) rfl T.g__law_copied T.k__law_copied T.b__law_copied .nil pass0 (pa_cons (pv 3) pa_nil)))
  (pss_cons (ps_set (i := 6) (sc__law_common_right).nd rfl (by first | exact Or.inl rfl | exact Or.inr rfl) (pe_call (ok__law_copied T hseer) (hr.mono (by decide)) rfl T.g__law_copied T.k__law_copied T.b__law_copied .nil pass0 (pa_cons (pv 4) pa_nil)))
  (pss_cons (ps_set (i := 7) (sc__law_common_right).nd rfl (by first | exact Or.inl rfl | exact Or.inr rfl) (pe_call (ok_gcd_poly T hseer) (hr.mono (by decide)) rfl T.g_gcd_poly T.k_gcd_poly T.b_gcd_poly .nil pass0 (pa_cons (pv 3) (pa_cons (pv 4) pa_nil))))
  (pss_cons (ps_if (PW.pt (pw_or (pt_cmpR (op_neU hr.units) (pv 3) (pv 5) (nomark _)) (pw_or1 (pt_cmpR (op_neU hr.units) (pv 4) (pv 6) (nomark _)))))
   (pss_one (ps_ret pe_bl))
   pss_nil)
  (pss_one (ps_ret (pe_call (ok__law_poly_equal T hseer) (hr.mono (by decide)) rfl T.g__law_poly_equal T.k__law_poly_equal T.b__law_poly_equal .nil pass0 (pa_cons (pv 7) (pa_cons (pe_call (ok__law_greatest T hseer) (hr.mono (by decide)) rfl T.g__law_greatest T.k__law_greatest T.b__law_greatest .nil pass0 (pa_cons (pv 1) (pa_cons (pv 2) pa_nil))) pa_nil))))))))))), ?_⟩
    walk_at "go"
    refine ⟨b, v, p, n, rfl, hb, by omega, rv, by omega, fun k1 v1 m1 H1 hm1 r1 b1 e1 => ?_⟩
    have rv := rv.bag hb e1
    have rw' := rw'.bag hb e1
    walk_at "st"
    refine ⟨b, w, q, _, rfl, b1, by omega, rw', by omega, fun k2 v2 m2 H2 hm2 r2 b2 e2 => ?_⟩
    have rv := rv.bag b1 e2
    have rw' := rw'.bag b1 e2
    have r1 := r1.bag b1 e2
    walk_at "st"
    refine ⟨v1, k1, _, rfl, r1, fun v3 H3 e3 r3 => ?_⟩
    walk_at "st"
    refine ⟨v2, k2, _, rfl, r2.same e3, fun v4 H4 e4 r4 => ?_⟩
    walk_at "st"
    have lp1 := pad_len (p := p) (m := m1)
    have lp2 := pad_len (p := q) (m := m2)
    refine ⟨v1, v2, _, _, rfl, ((r1.same e3).same e4).row, ((r2.same e3).same e4).row, by rw [trim_pad t1, trim_pad t2]; exact ft.gi, by omega, by omega, fun v5 H5 e5 r5 => ?_⟩
    rw [trim_pad t1, trim_pad t2] at r5
    walk_at "st"
    refine u_neRowK (((r1.same e3).same e4).same e5) ((r3.same e4).same e5) ?_
    walk_at "st"
    refine u_neRowK (((r2.same e3).same e4).same e5) (r4.same e5) ?_
    walk_at "st"
    have rv := ((rv.same e3).same e4).same e5
    have rw' := ((rw'.same e3).same e4).same e5
    refine ⟨v, w, p, q, rfl, rv.row, rw'.row, ft.gi, by omega, by omega, fun v6 H6 e6 r6 => ?_⟩
    walk_at "st"
    refine ⟨_, _, _, rfl, r5.same e6, r6.row, ?_, ?_⟩
    · have := pgcd_len p q
      omega
    · exact k H6 (((((b2.same e3).same e4).same e5).same e6).mono (by omega)) (((((e1.trans e2).trans e3.x).trans e4.x).trans e5.x).trans e6.x)
theorem u_eqZero {K : PySem.W.Frag} {H : Hp} {Q : VK} {y z : Addr} (hy : SqT K H y [.str "zero", .bl true, .bl true, .bl false]) (hz : SqT K H z [.str "zero", .bl true, .bl true, .bl false]) (k : Q (.bl true) H) : rEqU K (.ref y) (.ref z) H Q := by
  have d : DpAll K H [.str "zero", .bl true, .bl true, .bl false] [.str "zero", .bool true, .bool true, .bool false] := .cons (.str _) (.cons (.bl _) (.cons (.bl _) (.cons (.bl _) .nil)))
  refine .inr ⟨.tuple [.str "zero", .bool true, .bool true, .bool false], .tuple [.str "zero", .bool true, .bool true, .bool false], .tup hy d, .tup hz d, by decide +kernel, by decide +kernel, ?_⟩
  rw [show PyData.eqv (.tuple [.str "zero", .bool true, .bool true, .bool false]) (.tuple [.str "zero", .bool true, .bool true, .bool false]) = true by decide +kernel]
  exact k
theorem sum_back {p q u r : List Rat} (ht : IsT p) (h : ∀ i, cf p i = cv q u i + cf r i) : padd (pmul q u) r = p :=
  isT_ext (padd_isT _ _) ht fun i => by rw [cf_padd, cf_pmul, h i]
theorem ok__law_division_right (T : Tx K mg) (hseer : base.NoSeer) : FnOk PP w K mg base CX0 41 T.a__law_division_right T.d__law_division_right ["bag", "left", "right"] (sp_check K Fit0) := by
  refine T.F__law_division_right.ok sc__law_division_right (fun vs H Q E h => ?_) (fun cdv A outer s H vs Q E hr h => ?_)
  · obtain ⟨_, _, _, _, _, _, rfl, _⟩ := h; rfl
  · obtain ⟨b, v, w, p, q, n, rfl, hb, hn, rv, rw', ⟨t1, t2, z1, z2, l1, l2⟩, k⟩ := h
    refine ⟨_, (pss_cons (ps_set (i := 3) (sc__law_division_right).nd rfl (by first | exact Or.inl rfl | exact Or.inr rfl) (pe_call (ok__law_given T hseer) (hr.mono (by decide)) rfl T.g__law_given T.k__law_given T.b__law_given .nil pass0 (pa_cons (pv 0) (pa_cons (pv 1) pa_nil))))
  (pss_cons (ps_set (i := 4) (sc__law_division_right).nd rfl (by first | exact Or.inl rfl | exact Or.inr rfl) (pe_call (ok__law_given T hseer) (hr.mono (by decide)) rfl T.g__law_given T.k__law_given T.b__law_given .nil pass0 (pa_cons (pv 0) (pa_cons (pv 2) pa_nil))))
  (pss_cons (ps_set (i := 5) (sc__law_division_right).nd rfl (by first | exact Or.inl rfl | exact Or.inr rfl) (pe_call (ok__law_copied T hseer) (hr.mono (by decide)) rfl T.g__law_copied T.k__law_copied T.b__law_copied .nil pass0 (pa_cons (pv 3) pa_nil)))
  (pss_cons (ps_set (i := 6) (sc__law_division_right).nd rfl (by first | exact Or.inl rfl | exact Or.inr rfl) (pe_call (ok__law_copied T hseer) (hr.mono (by decide)) rfl T.g__law_copied T.k__law_copied T.b__law_copied .nil pass0 (pa_cons (pv 4) pa_nil)))
  (pss_cons (ps_set (i := 7) (sc__law_division_right).nd rfl (by first | exact Or.inl rfl | exact Or.inr rfl) (pe_call (ok__law_divided T hseer) (hr.mono (by decide)) rfl T.g__law_divided T.k__law_divided T.b__law_divided .nil pass0 (pa_cons (pv 3) (pa_cons (pv 4) pa_nil))))
  (pss_cons (ps_if (PW.pt (pw_or (pt_cmpR (op_neU hr.units) (pv 3) (pv 5) (nomark _)) (pw_or1 (pt_cmpR (op_neU hr.units) (pv 4) (pv 6) (nomark _)))))
   (pss_one (ps_ret pe_bl))
   pss_nil)
  (pss_cons (ps_if (pt_cmpR (op_eqU hr.units) (pe_callB call_lenU (by rfl) T.n_len (by decide +kernel) (pa_cons (pv 2) pa_nil)) pe_int (nomark _))
   (pss_one (ps_ret (pe_cmpR (op_eqU hr.units) (pv 7) (pe_tup (pa_cons pe_str (pa_cons pe_bl (pa_cons pe_bl (pa_cons pe_bl pa_nil))))) (nomark _))))
   pss_nil)
  (pss_cons (ps_if (PW.pt (pw_or (pt_cmpR (op_neU hr.units) (pe_ix ix_seq (pv 7) pe_int (fun _ _ => rfl)) pe_str (nomark _)) (pw_or (pt_not (pt_truthU (pe_callB call_isi (by rfl) T.n_isinstance (by decide +kernel) (pa_cons (pe_ix ix_seq (pv 7) pe_int (fun _ _ => rfl)) (pa_cons (pe_bltn (v := V.ty "tuple") (by rfl) T.n_tuple (by decide +kernel) rfl) pa_nil))) (fun _ => rfl))) (pw_or1 (pt_cmpR (op_neU hr.units) (pe_callB call_lenU (by rfl) T.n_len (by decide +kernel) (pa_cons (pe_ix ix_seq (pv 7) pe_int (fun _ _ => rfl)) pa_nil)) pe_int (nomark _))))))
   (pss_one (ps_ret pe_bl))
   pss_nil)
  (pss_cons (ps_set (i := 8) (sc__law_division_right).nd rfl (by first | exact Or.inl rfl | exact Or.inr rfl) (pe_ix ix_seq (pe_ix ix_seq (pv 7) pe_int (fun _ _ => rfl)) pe_int (fun _ _ => rfl)))
  (pss_cons (ps_set (i := 9) (sc__law_division_right).nd rfl (by first | exact Or.inl rfl | exact Or.inr rfl) (pe_ix ix_seq (pe_ix ix_seq (pv 7) pe_int (fun _ _ => rfl)) pe_int (fun _ _ => rfl)))
  (pss_cons (ps_if (PW.pt (pw_or (pt_not (pt_truthU (pe_call (ok__law_is_poly T hseer) (hr.mono (by decide)) rfl T.g__law_is_poly T.k__law_is_poly T.b__law_is_poly .nil pass0 (pa_cons (pv 8) pa_nil)) (fun _ => rfl))) (pw_or (pt_not (pt_truthU (pe_call (ok__law_is_poly T hseer) (hr.mono (by decide)) rfl T.g__law_is_poly T.k__law_is_poly T.b__law_is_poly .nil pass0 (pa_cons (pv 9) pa_nil)) (fun _ => rfl))) (pw_or1 (pt_cmpR op_ge (pe_callB call_lenU (by rfl) T.n_len (by decide +kernel) (pa_cons (pv 9) pa_nil)) (pe_callB call_lenU (by rfl) T.n_len (by decide +kernel) (pa_cons (pv 2) pa_nil)) (nomark _))))))
   (pss_one (ps_ret pe_bl))
   pss_nil)
  (pss_cons (ps_if (pt_cmpR op_gt (pe_callB call_lenU (by rfl) T.n_len (by decide +kernel) (pa_cons (pv 8) pa_nil)) (pe_callB call_lenU (by rfl) T.n_len (by decide +kernel) (pa_cons (pv 1) pa_nil)) (nomark _))
   (pss_one (ps_ret pe_bl))
   pss_nil)
  (pss_one (ps_ret (pe_cmpR (op_eqU hr.units) (pe_call (ok__law_sum T hseer) (hr.mono (by decide)) rfl T.g__law_sum T.k__law_sum T.b__law_sum .nil pass0 (pa_cons (pe_call (ok__law_product T hseer) (hr.mono (by decide)) rfl T.g__law_product T.k__law_product T.b__law_product .nil pass0 (pa_cons (pe_callTy call_listU (by rfl) T.n_list (by decide +kernel) (pa_cons (pv 8) pa_nil)) (pa_cons (pv 2) pa_nil))) (pa_cons (pe_callTy call_listU (by rfl) T.n_list (by decide +kernel) (pa_cons (pv 9) pa_nil)) pa_nil))) (pv 1) (nomark _)))))))))))))))), ?_⟩
    walk_at "go"
    refine ⟨b, v, p, n, rfl, hb, by omega, rv, by omega, fun k1 v1 m1 H1 hm1 r1 b1 e1 => ?_⟩
    have rv := rv.bag hb e1
    have rw' := rw'.bag hb e1
    walk_at "st"
    refine ⟨b, w, q, _, rfl, b1, by omega, rw', by omega, fun k2 v2 m2 H2 hm2 r2 b2 e2 => ?_⟩
    have rv := rv.bag b1 e2
    have rw' := rw'.bag b1 e2
    have r1 := r1.bag b1 e2
    walk_at "st"
    refine ⟨v1, k1, _, rfl, r1, fun v3 H3 e3 r3 => ?_⟩
    walk_at "st"
    refine ⟨v2, k2, _, rfl, r2.same e3, fun v4 H4 e4 r4 => ?_⟩
    walk_at "st"
    have lp1 := pad_len (p := p) (m := m1)
    have lp2 := pad_len (p := q) (m := m2)
    have rv4 := (rv.same e3).same e4
    have rw4 := (rw'.same e3).same e4
    have r14 := (r1.same e3).same e4
    have r24 := (r2.same e3).same e4
    have r34 := r3.same e4
    have b4 := (b2.same e3).same e4
    have x4 : SameX b H H4 := ((e1.trans e2).trans e3.x).trans e4.x
    have tp1 := trim_pad t1 m1
    have tp2 := trim_pad t2 m2
    refine ⟨v1, v2, _, _, rfl, r14.row, r24.row, by omega, by omega, fun hz y H5 e5 hy => ?_, fun hz => ⟨300, 300, by rw [tp1]; exact z1, by rw [tp2]; exact z2, ?_, ?_⟩⟩
    · rw [tp2] at hz
      walk_at "st"
      refine u_neRowK (r14.same e5) (r34.same e5) ?_
      walk_at "st"
      refine u_neRowK (r24.same e5) (r4.same e5) ?_
      walk_at "st"
      obtain ⟨wa, wxs, rfl, hwa, fwa⟩ := rw4.same e5
      have lw := fwa.len
      refine u_len (.inl (SqL.of hwa)) ?_
      walk_at "st"
      refine u_ite (fun h => ?_) (fun h => absurd (by omega) h)
      walk_at "st"
      refine ⟨by show 4 ≤ sizeLine; decide, fun z hz => ?_⟩
      have e6 := same_new (H := H5) (o := .tup [.str "zero", .bl true, .bl true, .bl false]) hz
      refine u_eqZero (e6.t hy) (SqT.of upd_same) ?_
      exact k _ (((b4.same e5).same e6).mono (by omega)) ((x4.trans e5.x).trans e6.x)
    · rw [tp1, tp2]
      have : (p.length + 1 - q.length) * (300 + 1) ≤ 13 * 301 := Nat.mul_le_mul (by omega) (by omega)
      omega
    · rw [tp1, tp2]
      rw [tp2] at hz
      intro y z w1 w2 quo H5 e5 hy hz2 rq rr tq lq bq eqq
      have lrr := prem_lt (p := p) (u := q) hz
      have rv5 := rv4.same e5
      have rw5 := rw4.same e5
      walk_at "st"
      refine u_neRowK (r14.same e5) (r34.same e5) ?_
      walk_at "st"
      refine u_neRowK (r24.same e5) (r4.same e5) ?_
      walk_at "st"
      obtain ⟨wa, wxs, rfl, hwa, fwa⟩ := id rw5
      obtain ⟨va, vxs, rfl, hva, fva⟩ := id rv5
      obtain ⟨qa, qxs, rfl, hqa, fqa⟩ := id rq
      obtain ⟨ra, rxs, rfl, hra, fra⟩ := id rr
      have lw := fwa.len
      have lv := fva.len
      have lqx := fqa.len
      have lrx := fra.len
      refine u_len (.inl (SqL.of hwa)) ?_
      walk_at "st"
      refine u_ite (fun h => absurd h (by omega)) (fun h => ?_)
      walk_at "st"
      refine u_ix (.inr hy) rfl ?_
      walk_at "st"
      refine u_neS ?_
      rw [decide_eq_true rfl]
      walk_at "st"
      refine u_ix (.inr hy) rfl ?_
      walk_at "st"
      refine u_isTT hz2 ?_
      walk_at "st"
      refine u_ix (.inr hy) rfl ?_
      walk_at "st"
      refine u_len (.inr hz2) ?_
      walk_at "st"
      refine u_iteN (fun h => absurd rfl h) (fun _ => ?_)
      walk_at "st"
      refine u_ix (.inr hy) rfl ?_
      walk_at "st"
      refine u_ix (.inr hz2) rfl ?_
      walk_at "st"
      refine u_ix (.inr hy) rfl ?_
      walk_at "st"
      refine u_ix (.inr hz2) rfl ?_
      walk_at "st"
      refine ⟨_, quo, rfl, rq, tq, ?_⟩
      walk_at "st"
      refine ⟨_, _, rfl, rr, prem_isT _ _, ?_⟩
      walk_at "st"
      refine u_len (.inr hra) ?_
      walk_at "st"
      refine u_len (.inl (SqL.of hwa)) ?_
      walk_at "st"
      refine u_ite (fun h => absurd h (by omega)) (fun h => ?_)
      walk_at "st"
      refine u_len (.inr hqa) ?_
      walk_at "st"
      refine u_len (.inl (SqL.of hva)) ?_
      walk_at "st"
      refine u_ite (fun h => absurd h (by omega)) (fun h => ?_)
      walk_at "st"
      refine u_listRow (RowT.row ⟨qa, qxs, rfl, hqa, fqa⟩) (Same.refl _) fun D H6 L6 e6 => ?_
      walk_at "st"
      have hm : (p.length + 1 - q.length) * (300 + 1) ≤ 13 * 301 := Nat.mul_le_mul (by omega) (by omega)
      have bq' : BqL 4600 quo := bq.mono (by omega)
      have zq : Sz 60000 quo := (sz_of_bq bq' (by decide)).mono (by
        have : 4600 * (quo.length + 1) ≤ 4600 * 13 := Nat.mul_le_mul_left _ (by omega)
        omega)
      refine ⟨_, _, quo, q, 60000, 300, rfl, L6.row.row, (rw5.same e6).row, zq, z2, by decide, by decide, by omega, by omega, fun v7 H7 e7 r7 => ?_⟩
      walk_at "st"
      refine u_listRow (RowT.row ⟨ra, rxs, rfl, (e7.t (e6.t hra)), (fra.same e6).same e7⟩) (Same.refl _) fun D2 H8 L8 e8 => ?_
      walk_at "st"
      have hl := pmul_len quo q
      refine ⟨_, _, pmul quo q, prem p q, 100000, rfl, (r7.same e8).row, L8.row.row, ((sz_pmul (k := 4) zq z2 (by omega)).bqL (by decide)).mono (by decide), ((sz_prem z1 z2 hz t2).bqL (by omega)).mono (by omega), by decide, by decide, by omega, by omega, fun v9 H9 e9 r9 => ?_⟩
      walk_at "st"
      rw [sum_back t1 eqq] at r9
      have e59 := ((e6.trans e7).trans e8).trans e9
      refine u_eqRowL r9 (rv5.same e59) ?_
      exact k H9 (((b4.same e5).same e59).mono (by omega)) ((x4.trans e5.x).trans e59.x)
theorem cf_pad {p : List Rat} {m : Nat} (i : Nat) : cf (p ++ List.replicate m 0) i = cf p i := by
  rw [cf_append]
  split
  · rfl
  · rw [cf_out (p := p) (by omega), cf_rep]
theorem ok__law_made_right (T : Tx K mg) (hseer : base.NoSeer) : FnOk PP w K mg base CX0 40 T.a__law_made_right T.d__law_made_right ["bag", "left", "right"] (sp_check K Fit0) := by
  refine T.F__law_made_right.ok sc__law_made_right (fun vs H Q E h => ?_) (fun cdv A outer s H vs Q E hr h => ?_)
  · obtain ⟨_, _, _, _, _, _, rfl, _⟩ := h; rfl
  · obtain ⟨b, v, w, p, q, n, rfl, hb, hn, rv, rw', ⟨t1, t2, z1, z2, l1, l2⟩, k⟩ := h
    refine ⟨_, (pss_cons (ps_set (i := 3) (sc__law_made_right).nd rfl (by first | exact Or.inl rfl | exact Or.inr rfl) (pe_call (ok__law_given T hseer) (hr.mono (by decide)) rfl T.g__law_given T.k__law_given T.b__law_given .nil pass0 (pa_cons (pv 0) (pa_cons (pv 1) pa_nil))))
  (pss_cons (ps_set (i := 4) (sc__law_made_right).nd rfl (by first | exact Or.inl rfl | exact Or.inr rfl) (pe_call (ok__law_given T hseer) (hr.mono (by decide)) rfl T.g__law_given T.k__law_given T.b__law_given .nil pass0 (pa_cons (pv 0) (pa_cons (pv 2) pa_nil))))
  (pss_cons (ps_set (i := 5) (sc__law_made_right).nd rfl (by first | exact Or.inl rfl | exact Or.inr rfl) (pe_call (ok__law_copied T hseer) (hr.mono (by decide)) rfl T.g__law_copied T.k__law_copied T.b__law_copied .nil pass0 (pa_cons (pv 3) pa_nil)))
  (pss_cons (ps_set (i := 6) (sc__law_made_right).nd rfl (by first | exact Or.inl rfl | exact Or.inr rfl) (pe_call (ok__law_copied T hseer) (hr.mono (by decide)) rfl T.g__law_copied T.k__law_copied T.b__law_copied .nil pass0 (pa_cons (pv 4) pa_nil)))
  (pss_cons (ps_set (i := 7) (sc__law_made_right).nd rfl (by first | exact Or.inl rfl | exact Or.inr rfl) (pe_call (ok__law_entry T hseer) (hr.mono (by decide)) rfl T.g__law_entry T.k__law_entry T.b__law_entry .nil pass0 (pa_cons (pv 0) (pa_cons pe_bl pa_nil))))
  (pss_cons (ps_set (i := 8) (sc__law_made_right).nd rfl (by first | exact Or.inl rfl | exact Or.inr rfl) (pe_lst (pa_cons (pe_call (ok_trimmed T hseer) (hr.mono (by decide)) rfl T.g_trimmed T.k_trimmed T.b_trimmed .nil pass0 (pa_cons (pv 3) pa_nil)) (pa_cons (pe_call (ok_add_poly T hseer) (hr.mono (by decide)) rfl T.g_add_poly T.k_add_poly T.b_add_poly .nil pass0 (pa_cons (pv 3) (pa_cons (pv 4) pa_nil))) (pa_cons (pe_call (ok_multiply_poly T hseer) (hr.mono (by decide)) rfl T.g_multiply_poly T.k_multiply_poly T.b_multiply_poly .nil pass0 (pa_cons (pv 3) (pa_cons (pv 4) pa_nil))) (pa_cons (pe_call (ok_value_at T hseer) (hr.mono (by decide)) rfl T.g_value_at T.k_value_at T.b_value_at .nil pass0 (pa_cons (pv 3) (pa_cons (pv 7) pa_nil))) pa_nil))))))
  (pss_cons (ps_if (PW.pt (pw_or (pt_cmpR (op_neU hr.units) (pv 3) (pv 5) (nomark _)) (pw_or1 (pt_cmpR (op_neU hr.units) (pv 4) (pv 6) (nomark _)))))
   (pss_one (ps_ret pe_bl))
   pss_nil)
  (pss_cons (ps_if (PW.pt (pw_or (pt_not (pt_truthU (pe_call (ok__law_poly_equal T hseer) (hr.mono (by decide)) rfl T.g__law_poly_equal T.k__law_poly_equal T.b__law_poly_equal .nil pass0 (pa_cons (pe_ix ix_seq (pv 8) pe_int (fun _ _ => rfl)) (pa_cons (pv 1) pa_nil))) (fun _ => rfl))) (pw_or1 (pt_not (pt_truthU (pe_call (ok__law_poly_equal T hseer) (hr.mono (by decide)) rfl T.g__law_poly_equal T.k__law_poly_equal T.b__law_poly_equal .nil pass0 (pa_cons (pe_ix ix_seq (pv 8) pe_int (fun _ _ => rfl)) (pa_cons (pe_call (ok__law_sum T hseer) (hr.mono (by decide)) rfl T.g__law_sum T.k__law_sum T.b__law_sum .nil pass0 (pa_cons (pv 1) (pa_cons (pv 2) pa_nil))) pa_nil))) (fun _ => rfl))))))
   (pss_one (ps_ret pe_bl))
   pss_nil)
  (pss_one (ps_ret (pe_and (pe_call (ok__law_poly_equal T hseer) (hr.mono (by decide)) rfl T.g__law_poly_equal T.k__law_poly_equal T.b__law_poly_equal .nil pass0 (pa_cons (pe_ix ix_seq (pv 8) pe_int (fun _ _ => rfl)) (pa_cons (pe_call (ok__law_product T hseer) (hr.mono (by decide)) rfl T.g__law_product T.k__law_product T.b__law_product .nil pass0 (pa_cons (pv 1) (pa_cons (pv 2) pa_nil))) pa_nil))) (pe_one (pe_call (ok__law_equal T hseer) (hr.mono (by decide)) rfl T.g__law_equal T.k__law_equal T.b__law_equal .nil pass0 (pa_cons (pe_ix ix_seq (pv 8) pe_int (fun _ _ => rfl)) (pa_cons (pe_call (ok__law_worth T hseer) (hr.mono (by decide)) rfl T.g__law_worth T.k__law_worth T.b__law_worth .nil pass0 (pa_cons (pv 1) (pa_cons (pv 7) pa_nil))) pa_nil))))))))))))))), ?_⟩
    walk_at "go"
    refine ⟨b, v, p, n, rfl, hb, by omega, rv, by omega, fun k1 v1 m1 H1 hm1 r1 b1 e1 => ?_⟩
    have rv := rv.bag hb e1
    have rw' := rw'.bag hb e1
    walk_at "st"
    refine ⟨b, w, q, _, rfl, b1, by omega, rw', by omega, fun k2 v2 m2 H2 hm2 r2 b2 e2 => ?_⟩
    have rv := rv.bag b1 e2
    have rw' := rw'.bag b1 e2
    have r1 := r1.bag b1 e2
    walk_at "st"
    refine ⟨v1, k1, _, rfl, r1, fun v3 H3 e3 r3 => ?_⟩
    walk_at "st"
    refine ⟨v2, k2, _, rfl, r2.same e3, fun v4 H4 e4 r4 => ?_⟩
    walk_at "st"
    have lp1 := pad_len (p := p) (m := m1)
    have lp2 := pad_len (p := q) (m := m2)
    have tp1 := trim_pad t1 m1
    have b4 := (b2.same e3).same e4
    refine ⟨b, false, _, rfl, b4, by omega, fun vx x H5 fx enx b5 e5 => ?_⟩
    have rv5 := ((rv.same e3).same e4).bag b4 e5
    have rw5 := ((rw'.same e3).same e4).bag b4 e5
    have r15 := ((r1.same e3).same e4).bag b4 e5
    have r25 := ((r2.same e3).same e4).bag b4 e5
    have r35 := (r3.same e4).bag b4 e5
    have r45 := r4.bag b4 e5
    have x5 : SameX b H H5 := (((e1.trans e2).trans e3.x).trans e4.x).trans e5
    have y1 := sz_pad (m := m1) z1
    have y2 := sz_pad (m := m2) z2
    have eS : padd (p ++ List.replicate m1 0) (q ++ List.replicate m2 0) = padd p q := isT_ext (padd_isT _ _) (padd_isT _ _) fun i => by rw [cf_padd, cf_padd, cf_pad, cf_pad]
    have eM : pmul (p ++ List.replicate m1 0) (q ++ List.replicate m2 0) = pmul p q := isT_ext (pmul_isT _ _) (pmul_isT _ _) fun i => by rw [cf_pmul, cf_pmul, cv_ext cf_pad, cv_extR cf_pad]
    have eW : worth (p ++ List.replicate m1 0) x = worth p x := by
      rw [← worth_more (p := p) (x := x) (n := (p ++ List.replicate m1 0).length) (by omega)]
      exact sumTo_congr fun i _ => by rw [cf_pad]
    generalize p ++ List.replicate m1 0 = p' at *
    generalize q ++ List.replicate m2 0 = q' at *
    walk_at "st"
    refine ⟨_, p', rfl, r15.row, by omega, fun u6 H6 e6 w6 => ?_⟩
    rw [tp1] at w6
    walk_at "st"
    refine ⟨_, _, p', q', 300, rfl, (r15.same e6).row, (r25.same e6).row, y1.bqL (by decide), y2.bqL (by decide), by decide, by decide, by omega, by omega, fun u7 H7 e7 w7 => ?_⟩
    rw [eS] at w7
    walk_at "st"
    refine ⟨_, _, p', q', 300, 300, rfl, ((r15.same e6).same e7).row, ((r25.same e6).same e7).row, y1, y2, by decide, by omega, by omega, fun u8 H8 e8 w8 => ?_⟩
    rw [eM] at w8
    walk_at "st"
    refine ⟨_, _, p', x, 300, rfl, (((r15.same e6).same e7).same e8).row, ((fx.same e6).same e7).same e8, y1.bqL (by decide), enx.1, by decide, by decide, by omega, fun u9 H9 e9 w9 => ?_⟩
    rw [eW] at w9
    walk_at "st"
    refine ⟨by show 4 ≤ sizeLine; decide, fun z hz => ?_⟩
    have e10 := same_new (o := .lst [u6, u7, u8, u9]) hz
    have hzl : (upd H9 z (.lst [u6, u7, u8, u9])) z = some (.lst [u6, u7, u8, u9]) := upd_same
    have e510 := (((e6.trans e7).trans e8).trans e9).trans e10
    have w6 := (((w6.same e7).same e8).same e9).same e10
    have w7 := ((w7.same e8).same e9).same e10
    have w8 := (w8.same e9).same e10
    have w9 := w9.same e10
    generalize upd H9 z (.lst [u6, u7, u8, u9]) = H10 at *
    have rv10 := rv5.same e510
    have rw10 := rw5.same e510
    have fx10 := fx.same e510
    have b10 := b5.same e510
    have x10 := x5.trans e510.x
    have zS : Sq K H10 z [u6, u7, u8, u9] := .inl (SqL.of hzl)
    walk_at "st"
    refine u_neRowK (r15.same e510) (r35.same e510) ?_
    walk_at "st"
    refine u_neRowK (r25.same e510) (r45.same e510) ?_
    walk_at "st"
    refine ⟨_, _, p, rfl, w6, rv10.row, by omega, ?_⟩
    walk_at "st"
    refine ⟨_, _, p, q, 300, rfl, rv10.row, rw10.row, z1.bqL (by decide), z2.bqL (by decide), by decide, by decide, by omega, by omega, fun u11 H11 e11 w11 => ?_⟩
    walk_at "st"
    have la : (padd p q).length ≤ 24 := by
      unfold padd
      rw [trim_len]
      have := tlen_le ((List.range (max p.length q.length)).map fun i => cf p i + cf q i)
      rw [List.length_map, List.length_range] at this
      omega
    have lm := pmul_len p q
    refine ⟨_, _, padd p q, rfl, w7.same e11, w11.row, by omega, ?_⟩
    walk_at "st"
    refine u_ix (e11.sq zS) rfl ?_
    walk_at "st"
    refine ⟨_, _, p, q, 300, 300, rfl, (rv10.same e11).row, (rw10.same e11).row, z1, z2, by decide, by decide, by omega, by omega, fun u12 H12 e12 w12 => ?_⟩
    walk_at "st"
    refine ⟨_, _, pmul p q, rfl, (w8.same e11).same e12, w12.row, by omega, ?_⟩
    walk_at "st"
    refine u_ix (e12.sq (e11.sq zS)) rfl ?_
    walk_at "st"
    refine ⟨_, _, p, x, 300, rfl, ((rv10.same e11).same e12).row, (fx10.same e11).same e12, z1.bqL (by decide), enx.1, by decide, by decide, by omega, fun u13 H13 e13 w13 => ?_⟩
    walk_at "st"
    refine ⟨_, _, worth p x, rfl, ((w9.same e11).same e12).same e13, w13, ?_⟩
    exact k H13 ((((b10.same e11).same e12).same e13).mono (by omega)) (((x10.trans e11.x).trans e12.x).trans e13.x)
end
end K03

set_option maxHeartbeats 4000000
namespace K03
open PySem PySem.Spec PyProof.Rows L2 Ly


section
variable {w : World} {K : PySem.W.Frag} {mg : Str → Option Value} {base : Heap}
def negs (p : List Rat) : List Rat := p.map fun q => -q
theorem negs_len (p : List Rat) : (negs p).length = p.length := by unfold negs; rw [List.length_map]
theorem negs_isT {p : List Rat} (h : IsT p) : IsT (negs p) := fun h0 => by
  rw [negs_len] at h0 ⊢
  have e : (negs p)[p.length - 1]? = some (-cf p (p.length - 1)) := by
    unfold negs
    rw [List.getElem?_map, cf_in (by omega)]
    rfl
  rw [cf_get e]
  have := h h0
  intro z
  apply this
  have : cf p (p.length - 1) = - -cf p (p.length - 1) := by grind
  rw [this, z]
  rfl
theorem sz_negs {s : Nat} {p : List Rat} (h : Sz s p) : Sz s (negs p) := by
  obtain ⟨D, h0, h1, h2⟩ := h
  refine ⟨D, h0, h1, fun q hq => ?_⟩
  obtain ⟨r, hr, rfl⟩ := List.mem_map.mp hq
  obtain ⟨k, e, z⟩ := h2 r hr
  exact ⟨-k, by rw [e]; push_cast; grind, by omega⟩
theorem cf_drop1 {p : List Rat} (i : Nat) : cf (p.drop 1) i = cf p (i + 1) := by
  unfold cf
  rw [List.getD_eq_getElem?_getD, List.getD_eq_getElem?_getD, List.getElem?_drop, Nat.add_comm]
theorem drop_isT {p : List Rat} (h : IsT p) : IsT (p.drop 1) := fun h0 => by
  rw [List.length_drop] at h0 ⊢
  rw [cf_drop1, show p.length - 1 - 1 + 1 = p.length - 1 by omega]
  exact h (by omega)
theorem sz_drop {s n : Nat} {p : List Rat} (h : Sz s p) : Sz s (p.drop n) := h.sub fun q hq => .inl (List.mem_of_mem_drop hq)
theorem cutV_from1 {xs : List V} : cutV xs (some 1) none = xs.drop 1 := by
  unfold cutV
  rw [HT.sIx_none, show (1 : Int) = ((1 : Nat) : Int) from rfl, HT.sIx_nat]
  rcases Nat.lt_or_ge xs.length 1 with h | h
  · have : xs = [] := List.length_eq_zero_iff.mp (by omega)
    subst this
    rfl
  · rw [Nat.min_eq_left h, List.take_of_length_le (by rw [List.length_drop]; omega)]
def sp_law (K : PySem.W.Frag) : Sp := fun vs H Q _ => ∃ (a : Addr) (ns : List Int), vs = [.ref a] ∧ SqL K H a (ns.map V.int) ∧ ns.length ≤ 63 ∧ ∀ H', Q (.bl true) H'
theorem ok_law (T : Tx K mg) (hseer : base.NoSeer) : FnOk PP w K mg base CX0 42 T.a_law T.d_law ["script"] (sp_law K) := by
  refine T.F_law.ok sc_law (fun vs H Q E h => ?_) (fun cdv A outer s H vs Q E hr h => ?_)
  · obtain ⟨_, _, rfl, _⟩ := h; rfl
  · obtain ⟨a, ns, rfl, hS, hl, k⟩ := h
    refine ⟨_, (pss_cons (ps_for PassesOwn.never rfl (pi_range1 rfl T.n_range (pa_cons pe_int pa_nil)) (pg_name (i := 1) (sc_law).nd rfl (by first | exact Or.inl rfl | exact Or.inr rfl))
   (pss_cons (ps_set (i := 2) (sc_law).nd rfl (by first | exact Or.inl rfl | exact Or.inr rfl) (pe_call (ok__law_bag T hseer) (hr.mono (by decide)) rfl T.g__law_bag T.k__law_bag T.b__law_bag .nil pass0 (pa_cons (pv 0) (pa_cons (pv 1) pa_nil))))
  (pss_cons (ps_set (i := 3) (sc_law).nd rfl (by first | exact Or.inl rfl | exact Or.inr rfl) (pe_call (ok__law_pair T hseer) (hr.mono (by decide)) rfl T.g__law_pair T.k__law_pair T.b__law_pair .nil pass0 (pa_cons (pv 2) (pa_cons (pe_cmpR (op_eqU hr.units) (pe_call (ok__law_draw T hseer) (hr.mono (by decide)) rfl T.g__law_draw T.k__law_draw T.b__law_draw .nil pass0 (pa_cons (pv 2) (pa_cons pe_int pa_nil))) pe_int (nomark _)) pa_nil))))
  (pss_cons (ps_set (i := 4) (sc_law).nd rfl (by first | exact Or.inl rfl | exact Or.inr rfl) (pe_ix ix_seq (pv 3) pe_int (fun _ _ => rfl)))
  (pss_cons (ps_set (i := 5) (sc_law).nd rfl (by first | exact Or.inl rfl | exact Or.inr rfl) (pe_ix ix_seq (pv 3) pe_int (fun _ _ => rfl)))
  (pss_cons (ps_if (PW.pt (pw_or (pt_not (pt_truthU (pe_call (ok__law_made_right T hseer) (hr.mono (by decide)) rfl T.g__law_made_right T.k__law_made_right T.b__law_made_right .nil pass0 (pa_cons (pv 2) (pa_cons (pv 4) (pa_cons (pv 5) pa_nil)))) (fun _ => rfl))) (pw_or1 (pt_not (pt_truthU (pe_call (ok__law_made_right T hseer) (hr.mono (by decide)) rfl T.g__law_made_right T.k__law_made_right T.b__law_made_right .nil pass0 (pa_cons (pv 2) (pa_cons (pv 5) (pa_cons (pv 4) pa_nil)))) (fun _ => rfl))))))
   (pss_one (ps_ret pe_bl))
   pss_nil)
  (pss_cons (ps_if (PW.pt (pw_or (pt_not (pt_truthU (pe_call (ok__law_division_right T hseer) (hr.mono (by decide)) rfl T.g__law_division_right T.k__law_division_right T.b__law_division_right .nil pass0 (pa_cons (pv 2) (pa_cons (pv 4) (pa_cons (pv 5) pa_nil)))) (fun _ => rfl))) (pw_or1 (pt_not (pt_truthU (pe_call (ok__law_division_right T hseer) (hr.mono (by decide)) rfl T.g__law_division_right T.k__law_division_right T.b__law_division_right .nil pass0 (pa_cons (pv 2) (pa_cons (pv 5) (pa_cons (pv 4) pa_nil)))) (fun _ => rfl))))))
   (pss_one (ps_ret pe_bl))
   pss_nil)
  (pss_cons (ps_if (PW.pt (pw_or (pt_not (pt_truthU (pe_call (ok__law_common_right T hseer) (hr.mono (by decide)) rfl T.g__law_common_right T.k__law_common_right T.b__law_common_right .nil pass0 (pa_cons (pv 2) (pa_cons (pv 4) (pa_cons (pv 5) pa_nil)))) (fun _ => rfl))) (pw_or1 (pt_not (pt_truthU (pe_call (ok__law_common_right T hseer) (hr.mono (by decide)) rfl T.g__law_common_right T.k__law_common_right T.b__law_common_right .nil pass0 (pa_cons (pv 2) (pa_cons (pv 5) (pa_cons (pv 4) pa_nil)))) (fun _ => rfl))))))
   (pss_one (ps_ret pe_bl))
   pss_nil)
  (pss_cons (ps_setLc (i := 6) (own := [("p", 7)]) (by rfl) (sc_law).nd rfl rfl (sw_true rfl rfl rfl (by decide +kernel)) (pi_seqA (pv 4)) (blkOk_by (own := [("p", 7)]) (N := n_law) (sc := defScope s_law) (by decide +kernel)) (fun _ _ _ _ _ => (pg_name (i := 7) (sc_law).nd rfl (by first | exact Or.inl rfl | exact Or.inr rfl))) (fun _ _ _ _ _ => pts_nil) (fun _ _ _ _ _ => (pe_tup (pa_cons (pe_op op_sub pe_int (pe_ix (r := rIx K) ix_seq (pv 7) pe_int (fun _ _ => rfl))) (pa_cons (pe_ix (r := rIx K) ix_seq (pv 7) pe_int (fun _ _ => rfl)) pa_nil)))))
  (pss_one (ps_if (PW.pt (pw_or (pt_not (pt_truthU (pe_call (ok__law_made_right T hseer) (hr.mono (by decide)) rfl T.g__law_made_right T.k__law_made_right T.b__law_made_right .nil pass0 (pa_cons (pv 2) (pa_cons (pv 4) (pa_cons (pe_slice sl_U (pv 6) (po_some pe_int) po_none) pa_nil)))) (fun _ => rfl))) (pw_or1 (pt_not (pt_truthU (pe_call (ok__law_made_right T hseer) (hr.mono (by decide)) rfl T.g__law_made_right T.k__law_made_right T.b__law_made_right .nil pass0 (pa_cons (pv 2) (pa_cons (pv 4) (pa_cons (pv 6) pa_nil)))) (fun _ => rfl))))))
   (pss_one (ps_ret pe_bl))
   pss_nil)))))))))))
  (pss_one (ps_ret pe_bl))), ?_⟩
    walk_at "go"
    refine u_rng1 (by omega) ?_
    refine forK walk_range0 (fun i σ H' => Same H H' ∧ ∃ l1 l2 l3 l4 l5 l6 l7 : Option V, σ = [some (.ref a), l1, l2, l3, l4, l5, l6, l7]) ⟨Same.refl _, _, _, _, _, _, _, _, rfl⟩ (fun _ _ _ _ _ => trivial) ?_ ?_
    · rintro i x σ H1 H' hi ⟨e0, l1, l2, l3, l4, l5, l6, l7, rfl⟩ ⟨rfl, rfl⟩
      walk_at "st"
      refine ⟨a, ns, i, rfl, (e0.kept a).l hS, hl, by omega, by omega, fun b H2 hb e2 b2 => ?_⟩
      have hb0 : H b = none := e0.free hb
      have e02 : Same H H2 := e0.trans e2
      walk_at "st"
      refine ⟨b, 12, 0, rfl, by decide, b2, by decide, fun d H3 _ _ b3 e3 => ?_⟩
      walk_at "st"
      refine ⟨b, _, _, rfl, b3, by decide, fun z vl vr p q H4 hz rl rr ft b4 e4 => ?_⟩
      walk_at "st"
      have f0 := ft.f0
      refine ⟨b, vl, vr, p, q, _, rfl, b4, by decide, rl, rr, f0, fun H5 b5 e5 => ?_⟩
      have rl := rl.bag b4 e5
      have rr := rr.bag b4 e5
      walk_at "st"
      refine ⟨b, vr, vl, q, p, _, rfl, b5, by decide, rr, rl, f0.symm, fun H6 b6 e6 => ?_⟩
      have rl := rl.bag b5 e6
      have rr := rr.bag b5 e6
      walk_at "st"
      refine ⟨b, vl, vr, p, q, _, rfl, b6, by decide, rl, rr, f0, fun H7 b7 e7 => ?_⟩
      have rl := rl.bag b6 e7
      have rr := rr.bag b6 e7
      walk_at "st"
      refine ⟨b, vr, vl, q, p, _, rfl, b7, by decide, rr, rl, f0.symm, fun H8 b8 e8 => ?_⟩
      have rl := rl.bag b7 e8
      have rr := rr.bag b7 e8
      walk_at "st"
      refine ⟨b, vl, vr, p, q, _, rfl, b8, by decide, rl, rr, ft, fun H9 b9 e9 => ?_⟩
      have rl := rl.bag b8 e9
      have rr := rr.bag b8 e9
      walk_at "st"
      refine ⟨b, vr, vl, q, p, _, rfl, b9, by decide, rr, rl, ft.symm, fun H10 b10 e10 => ?_⟩
      have rl := rl.bag b9 e10
      have x10 : SameX b H2 H10 := ((((((e3.trans e4).trans e5).trans e6).trans e7).trans e8).trans e9).trans e10
      walk_at "st"
      obtain ⟨va, vxs, rfl, hva, fva⟩ := id rl
      have lv := fva.len
      obtain ⟨t1, t2, z1, z2, l1', l2'⟩ := f0
      refine seqB_go (Same.refl H10) (.inl (SqL.of hva)) fun J G hG hw => ?_
      refine lcK hw (fun D i acc H' => Loc K H10 D H' ((negs p).take i)) (fun D hD => Loc.new hD (Same.refl _) trivial) (fun D i acc H4 hD hi L => hG _ L.1) (fun D i acc x H4 H5 hD hi L y => ?_) (fun D acc H4 hD L => ?_)
      · obtain ⟨rfl, y2⟩ := y
        have e := L.1
        walk_at "st"
        refine ⟨rfl, ?_⟩
        obtain ⟨v, hv, zz, rfl, hzz⟩ := fva.at (i := i) (by omega)
        rw [hv] at y2
        cases y2
        have hzz := e.t hzz
        walk_at "st"
        refine u_tupFr (K := K) (q := -cf p i) (fun v5 H5 e5 f5 => ?_) (by rw [Int.zero_sub]; rfl) rfl
        refine lcLoc (L.ext e5) (by rw [List.length_take]; omega) f5 fun acc H6 L6 _ => ?_
        have : (negs p)[i]? = some (-cf p i) := by
          unfold negs
          rw [List.getElem?_map, cf_in (by omega)]
          rfl
        rw [← take_more this]
        exact L6
      · rw [List.take_of_length_le (by rw [negs_len]; omega)] at L
        have e := L.1
        have rl := rl.same e
        have b11 := b10.same e
        have rD : RowL K H4 (.ref D) (negs p) := L.row
        obtain ⟨_, dxs, eq, hdx, fdx⟩ := id rD
        cases eq
        walk_at "st"
        refine u_slL (SqL.of hdx) fun D2 hD2 => ?_
        rw [cutV_from1]
        have e12 := same_new (o := .lst (dxs.drop 1)) hD2
        have rD2 : RowL K (upd H4 D2 (.lst (dxs.drop 1))) (.ref D2) ((negs p).drop 1) := ⟨D2, _, rfl, upd_same, (fdx.same e12).drop 1⟩
        generalize upd H4 D2 (.lst (dxs.drop 1)) = H12 at *
        have ln := negs_len p
        walk_at "st"
        refine ⟨b, _, _, p, (negs p).drop 1, _, rfl, b11.same e12, by decide, rl.same e12, rD2, ⟨t1, drop_isT (negs_isT t1), z1, sz_drop (sz_negs z1), by omega, by rw [List.length_drop]; omega⟩, fun H13 b13 e13 => ?_⟩
        walk_at "st"
        refine ⟨b, _, _, p, negs p, _, rfl, b13, by decide, (rl.same e12).bag (b11.same e12) e13, (rD.same e12).bag (b11.same e12) e13, ⟨t1, negs_isT t1, z1, sz_negs z1, by omega, by omega⟩, fun H14 b14 e14 => ?_⟩
        walk_at "st"
        have x14 : SameX b H2 H14 := (((x10.trans e.x).trans e12.x).trans e13).trans e14
        exact ⟨e02.mutX hb0 x14, _, _, _, _, _, _, _, rfl⟩
    · rintro σ H1 ⟨e0, l1, l2, l3, l4, l5, l6, l7, rfl⟩
      walk_at "st"
      exact k _
end
end K03

set_option maxHeartbeats 8000000
namespace K03
open PySem PySem.Spec PyProof.Rows L2 Ly
theorem all_mk {w : World} {K : PySem.W.Frag} {h : Heap} {mg : Str → Option Value} {fa : Addr} (X : K.In h) (G : h.Ns mainGlobals mg) (hfa : mg "law" = some (.ref fa))
    {f0 : Addr} {od0 an0 : Option Addr} {sl0 : Array (Option Value)} {oc0 kV0 dc0 pm0 cd0 ct0 : Value}
    {T0 : Addr} {oT0 : Value} {dT0 : Option Addr} {nT0 : Nat} {sT0 : Array (Option Value)} {tk0_0 : Tok}
    {f1 : Addr} {od1 an1 : Option Addr} {sl1 : Array (Option Value)} {oc1 kV1 dc1 pm1 cd1 ct1 : Value}
    {f2 : Addr} {od2 an2 : Option Addr} {sl2 : Array (Option Value)} {oc2 kV2 dc2 pm2 cd2 ct2 : Value}
    {f3 : Addr} {od3 an3 : Option Addr} {sl3 : Array (Option Value)} {oc3 kV3 dc3 pm3 cd3 ct3 : Value}
    {f4 : Addr} {od4 an4 : Option Addr} {sl4 : Array (Option Value)} {oc4 kV4 dc4 pm4 cd4 ct4 : Value}
    {f5 : Addr} {od5 an5 : Option Addr} {sl5 : Array (Option Value)} {oc5 kV5 dc5 pm5 cd5 ct5 : Value}
    {f6 : Addr} {od6 an6 : Option Addr} {sl6 : Array (Option Value)} {oc6 kV6 dc6 pm6 cd6 ct6 : Value}
    {f7 : Addr} {od7 an7 : Option Addr} {sl7 : Array (Option Value)} {oc7 kV7 dc7 pm7 cd7 ct7 : Value}
    {f8 : Addr} {od8 an8 : Option Addr} {sl8 : Array (Option Value)} {oc8 kV8 dc8 pm8 cd8 ct8 : Value}
    {f9 : Addr} {od9 an9 : Option Addr} {sl9 : Array (Option Value)} {oc9 kV9 dc9 pm9 cd9 ct9 : Value}
    {f10 : Addr} {od10 an10 : Option Addr} {sl10 : Array (Option Value)} {oc10 kV10 dc10 pm10 cd10 ct10 : Value}
    {f11 : Addr} {od11 an11 : Option Addr} {sl11 : Array (Option Value)} {oc11 kV11 dc11 pm11 cd11 ct11 : Value}
    {f12 : Addr} {od12 an12 : Option Addr} {sl12 : Array (Option Value)} {oc12 kV12 dc12 pm12 cd12 ct12 : Value}
    {f13 : Addr} {od13 an13 : Option Addr} {sl13 : Array (Option Value)} {oc13 kV13 dc13 pm13 cd13 ct13 : Value}
    {f14 : Addr} {od14 an14 : Option Addr} {sl14 : Array (Option Value)} {oc14 kV14 dc14 pm14 cd14 ct14 : Value}
    {f15 : Addr} {od15 an15 : Option Addr} {sl15 : Array (Option Value)} {oc15 kV15 dc15 pm15 cd15 ct15 : Value}
    {f16 : Addr} {od16 an16 : Option Addr} {sl16 : Array (Option Value)} {oc16 kV16 dc16 pm16 cd16 ct16 : Value}
    {f17 : Addr} {od17 an17 : Option Addr} {sl17 : Array (Option Value)} {oc17 kV17 dc17 pm17 cd17 ct17 : Value}
    {f18 : Addr} {od18 an18 : Option Addr} {sl18 : Array (Option Value)} {oc18 kV18 dc18 pm18 cd18 ct18 : Value}
    {f19 : Addr} {od19 an19 : Option Addr} {sl19 : Array (Option Value)} {oc19 kV19 dc19 pm19 cd19 ct19 : Value}
    {f20 : Addr} {od20 an20 : Option Addr} {sl20 : Array (Option Value)} {oc20 kV20 dc20 pm20 cd20 ct20 : Value}
    {f21 : Addr} {od21 an21 : Option Addr} {sl21 : Array (Option Value)} {oc21 kV21 dc21 pm21 cd21 ct21 : Value}
    {f22 : Addr} {od22 an22 : Option Addr} {sl22 : Array (Option Value)} {oc22 kV22 dc22 pm22 cd22 ct22 : Value}
    {f23 : Addr} {od23 an23 : Option Addr} {sl23 : Array (Option Value)} {oc23 kV23 dc23 pm23 cd23 ct23 : Value}
    {f24 : Addr} {od24 an24 : Option Addr} {sl24 : Array (Option Value)} {oc24 kV24 dc24 pm24 cd24 ct24 : Value}
    {f25 : Addr} {od25 an25 : Option Addr} {sl25 : Array (Option Value)} {oc25 kV25 dc25 pm25 cd25 ct25 : Value}
    {f26 : Addr} {od26 an26 : Option Addr} {sl26 : Array (Option Value)} {oc26 kV26 dc26 pm26 cd26 ct26 : Value}
    {f27 : Addr} {od27 an27 : Option Addr} {sl27 : Array (Option Value)} {oc27 kV27 dc27 pm27 cd27 ct27 : Value}
    {f28 : Addr} {od28 an28 : Option Addr} {sl28 : Array (Option Value)} {oc28 kV28 dc28 pm28 cd28 ct28 : Value}
    {f29 : Addr} {od29 an29 : Option Addr} {sl29 : Array (Option Value)} {oc29 kV29 dc29 pm29 cd29 ct29 : Value}
    {f30 : Addr} {od30 an30 : Option Addr} {sl30 : Array (Option Value)} {oc30 kV30 dc30 pm30 cd30 ct30 : Value}
    {f31 : Addr} {od31 an31 : Option Addr} {sl31 : Array (Option Value)} {oc31 kV31 dc31 pm31 cd31 ct31 : Value}
    {f32 : Addr} {od32 an32 : Option Addr} {sl32 : Array (Option Value)} {oc32 kV32 dc32 pm32 cd32 ct32 : Value}
    {f33 : Addr} {od33 an33 : Option Addr} {sl33 : Array (Option Value)} {oc33 kV33 dc33 pm33 cd33 ct33 : Value}
    {f34 : Addr} {od34 an34 : Option Addr} {sl34 : Array (Option Value)} {oc34 kV34 dc34 pm34 cd34 ct34 : Value}
    {f35 : Addr} {od35 an35 : Option Addr} {sl35 : Array (Option Value)} {oc35 kV35 dc35 pm35 cd35 ct35 : Value}
    {f36 : Addr} {od36 an36 : Option Addr} {sl36 : Array (Option Value)} {oc36 kV36 dc36 pm36 cd36 ct36 : Value}
    {f37 : Addr} {od37 an37 : Option Addr} {sl37 : Array (Option Value)} {oc37 kV37 dc37 pm37 cd37 ct37 : Value}
    {f38 : Addr} {od38 an38 : Option Addr} {sl38 : Array (Option Value)} {oc38 kV38 dc38 pm38 cd38 ct38 : Value}
    {f39 : Addr} {od39 an39 : Option Addr} {sl39 : Array (Option Value)} {oc39 kV39 dc39 pm39 cd39 ct39 : Value}
    {f40 : Addr} {od40 an40 : Option Addr} {sl40 : Array (Option Value)} {oc40 kV40 dc40 pm40 cd40 ct40 : Value}
    {f41 : Addr} {od41 an41 : Option Addr} {sl41 : Array (Option Value)} {oc41 kV41 dc41 pm41 cd41 ct41 : Value}
    {f42 : Addr} {od42 an42 : Option Addr} {sl42 : Array (Option Value)} {oc42 kV42 dc42 pm42 cd42 ct42 : Value}
    {f_ZERO : Addr} {od_ZERO : Option Addr} {n_ZERO : Nat} {sl_ZERO : Array (Option Value)} {tk_ZERO_0 : Tok} {tk_ZERO_1 : Tok}
    {f_ONE : Addr} {od_ONE : Option Addr} {n_ONE : Nat} {sl_ONE : Array (Option Value)} {tk_ONE_0 : Tok} {tk_ONE_1 : Tok}
    {f_SteelyardError : Addr}
    {f_LimitError : Addr}
    {f_ZeroBelow : Addr}
    {f_WrongWidth : Addr}
    (a0 : PySem.W.nsIn K mainGlobals "ratio" = some (some (.ref f0)))
    (l0 : K.lookup f0 = some ⟨oc0, od0, .func (PySem.W.fnOf "ratio" "ratio" (defArgs s_ratio) (defBody s_ratio) (defScope s_ratio) (.ref T0) kV0 dc0 pm0 an0 cd0 ct0), sl0⟩)
    (c0 : PySem.W.codeIn K cd0 "ratio" = true)
    (k0 : PySem.W.keepIn K (.ref f0) = true)
    (t0 : K.lookup T0 = some ⟨oT0, dT0, .seq #[.int 1 tk0_0] nT0, sT0⟩)
    (a1 : PySem.W.nsIn K mainGlobals "add" = some (some (.ref f1)))
    (l1 : K.lookup f1 = some ⟨oc1, od1, .func (PySem.W.fnOf "add" "add" (defArgs s_add) (defBody s_add) (defScope s_add) .none kV1 dc1 pm1 an1 cd1 ct1), sl1⟩)
    (c1 : PySem.W.codeIn K cd1 "add" = true)
    (k1 : PySem.W.keepIn K (.ref f1) = true)
    (a2 : PySem.W.nsIn K mainGlobals "multiply" = some (some (.ref f2)))
    (l2 : K.lookup f2 = some ⟨oc2, od2, .func (PySem.W.fnOf "multiply" "multiply" (defArgs s_multiply) (defBody s_multiply) (defScope s_multiply) .none kV2 dc2 pm2 an2 cd2 ct2), sl2⟩)
    (c2 : PySem.W.codeIn K cd2 "multiply" = true)
    (k2 : PySem.W.keepIn K (.ref f2) = true)
    (a3 : PySem.W.nsIn K mainGlobals "divide" = some (some (.ref f3)))
    (l3 : K.lookup f3 = some ⟨oc3, od3, .func (PySem.W.fnOf "divide" "divide" (defArgs s_divide) (defBody s_divide) (defScope s_divide) .none kV3 dc3 pm3 an3 cd3 ct3), sl3⟩)
    (c3 : PySem.W.codeIn K cd3 "divide" = true)
    (k3 : PySem.W.keepIn K (.ref f3) = true)
    (a4 : PySem.W.nsIn K mainGlobals "negate" = some (some (.ref f4)))
    (l4 : K.lookup f4 = some ⟨oc4, od4, .func (PySem.W.fnOf "negate" "negate" (defArgs s_negate) (defBody s_negate) (defScope s_negate) .none kV4 dc4 pm4 an4 cd4 ct4), sl4⟩)
    (c4 : PySem.W.codeIn K cd4 "negate" = true)
    (k4 : PySem.W.keepIn K (.ref f4) = true)
    (a5 : PySem.W.nsIn K mainGlobals "plus_multiple" = some (some (.ref f5)))
    (l5 : K.lookup f5 = some ⟨oc5, od5, .func (PySem.W.fnOf "plus_multiple" "plus_multiple" (defArgs s_plus_multiple) (defBody s_plus_multiple) (defScope s_plus_multiple) .none kV5 dc5 pm5 an5 cd5 ct5), sl5⟩)
    (c5 : PySem.W.codeIn K cd5 "plus_multiple" = true)
    (k5 : PySem.W.keepIn K (.ref f5) = true)
    (a6 : PySem.W.nsIn K mainGlobals "multiple" = some (some (.ref f6)))
    (l6 : K.lookup f6 = some ⟨oc6, od6, .func (PySem.W.fnOf "multiple" "multiple" (defArgs s_multiple) (defBody s_multiple) (defScope s_multiple) .none kV6 dc6 pm6 an6 cd6 ct6), sl6⟩)
    (c6 : PySem.W.codeIn K cd6 "multiple" = true)
    (k6 : PySem.W.keepIn K (.ref f6) = true)
    (a7 : PySem.W.nsIn K mainGlobals "trimmed" = some (some (.ref f7)))
    (l7 : K.lookup f7 = some ⟨oc7, od7, .func (PySem.W.fnOf "trimmed" "trimmed" (defArgs s_trimmed) (defBody s_trimmed) (defScope s_trimmed) .none kV7 dc7 pm7 an7 cd7 ct7), sl7⟩)
    (c7 : PySem.W.codeIn K cd7 "trimmed" = true)
    (k7 : PySem.W.keepIn K (.ref f7) = true)
    (a8 : PySem.W.nsIn K mainGlobals "add_poly" = some (some (.ref f8)))
    (l8 : K.lookup f8 = some ⟨oc8, od8, .func (PySem.W.fnOf "add_poly" "add_poly" (defArgs s_add_poly) (defBody s_add_poly) (defScope s_add_poly) .none kV8 dc8 pm8 an8 cd8 ct8), sl8⟩)
    (c8 : PySem.W.codeIn K cd8 "add_poly" = true)
    (k8 : PySem.W.keepIn K (.ref f8) = true)
    (a9 : PySem.W.nsIn K mainGlobals "multiply_poly" = some (some (.ref f9)))
    (l9 : K.lookup f9 = some ⟨oc9, od9, .func (PySem.W.fnOf "multiply_poly" "multiply_poly" (defArgs s_multiply_poly) (defBody s_multiply_poly) (defScope s_multiply_poly) .none kV9 dc9 pm9 an9 cd9 ct9), sl9⟩)
    (c9 : PySem.W.codeIn K cd9 "multiply_poly" = true)
    (k9 : PySem.W.keepIn K (.ref f9) = true)
    (a10 : PySem.W.nsIn K mainGlobals "divide_poly" = some (some (.ref f10)))
    (l10 : K.lookup f10 = some ⟨oc10, od10, .func (PySem.W.fnOf "divide_poly" "divide_poly" (defArgs s_divide_poly) (defBody s_divide_poly) (defScope s_divide_poly) .none kV10 dc10 pm10 an10 cd10 ct10), sl10⟩)
    (c10 : PySem.W.codeIn K cd10 "divide_poly" = true)
    (k10 : PySem.W.keepIn K (.ref f10) = true)
    (a11 : PySem.W.nsIn K mainGlobals "_with_last_one" = some (some (.ref f11)))
    (l11 : K.lookup f11 = some ⟨oc11, od11, .func (PySem.W.fnOf "_with_last_one" "_with_last_one" (defArgs s__with_last_one) (defBody s__with_last_one) (defScope s__with_last_one) .none kV11 dc11 pm11 an11 cd11 ct11), sl11⟩)
    (c11 : PySem.W.codeIn K cd11 "_with_last_one" = true)
    (k11 : PySem.W.keepIn K (.ref f11) = true)
    (a12 : PySem.W.nsIn K mainGlobals "gcd_poly" = some (some (.ref f12)))
    (l12 : K.lookup f12 = some ⟨oc12, od12, .func (PySem.W.fnOf "gcd_poly" "gcd_poly" (defArgs s_gcd_poly) (defBody s_gcd_poly) (defScope s_gcd_poly) .none kV12 dc12 pm12 an12 cd12 ct12), sl12⟩)
    (c12 : PySem.W.codeIn K cd12 "gcd_poly" = true)
    (k12 : PySem.W.keepIn K (.ref f12) = true)
    (a13 : PySem.W.nsIn K mainGlobals "value_at" = some (some (.ref f13)))
    (l13 : K.lookup f13 = some ⟨oc13, od13, .func (PySem.W.fnOf "value_at" "value_at" (defArgs s_value_at) (defBody s_value_at) (defScope s_value_at) .none kV13 dc13 pm13 an13 cd13 ct13), sl13⟩)
    (c13 : PySem.W.codeIn K cd13 "value_at" = true)
    (k13 : PySem.W.keepIn K (.ref f13) = true)
    (a14 : PySem.W.nsIn K mainGlobals "_law_bag" = some (some (.ref f14)))
    (l14 : K.lookup f14 = some ⟨oc14, od14, .func (PySem.W.fnOf "_law_bag" "_law_bag" (defArgs s__law_bag) (defBody s__law_bag) (defScope s__law_bag) .none kV14 dc14 pm14 an14 cd14 ct14), sl14⟩)
    (c14 : PySem.W.codeIn K cd14 "_law_bag" = true)
    (k14 : PySem.W.keepIn K (.ref f14) = true)
    (a15 : PySem.W.nsIn K mainGlobals "_law_draw" = some (some (.ref f15)))
    (l15 : K.lookup f15 = some ⟨oc15, od15, .func (PySem.W.fnOf "_law_draw" "_law_draw" (defArgs s__law_draw) (defBody s__law_draw) (defScope s__law_draw) .none kV15 dc15 pm15 an15 cd15 ct15), sl15⟩)
    (c15 : PySem.W.codeIn K cd15 "_law_draw" = true)
    (k15 : PySem.W.keepIn K (.ref f15) = true)
    (a16 : PySem.W.nsIn K mainGlobals "_law_common" = some (some (.ref f16)))
    (l16 : K.lookup f16 = some ⟨oc16, od16, .func (PySem.W.fnOf "_law_common" "_law_common" (defArgs s__law_common) (defBody s__law_common) (defScope s__law_common) .none kV16 dc16 pm16 an16 cd16 ct16), sl16⟩)
    (c16 : PySem.W.codeIn K cd16 "_law_common" = true)
    (k16 : PySem.W.keepIn K (.ref f16) = true)
    (a17 : PySem.W.nsIn K mainGlobals "_law_low" = some (some (.ref f17)))
    (l17 : K.lookup f17 = some ⟨oc17, od17, .func (PySem.W.fnOf "_law_low" "_law_low" (defArgs s__law_low) (defBody s__law_low) (defScope s__law_low) .none kV17 dc17 pm17 an17 cd17 ct17), sl17⟩)
    (c17 : PySem.W.codeIn K cd17 "_law_low" = true)
    (k17 : PySem.W.keepIn K (.ref f17) = true)
    (a18 : PySem.W.nsIn K mainGlobals "_law_plus" = some (some (.ref f18)))
    (l18 : K.lookup f18 = some ⟨oc18, od18, .func (PySem.W.fnOf "_law_plus" "_law_plus" (defArgs s__law_plus) (defBody s__law_plus) (defScope s__law_plus) .none kV18 dc18 pm18 an18 cd18 ct18), sl18⟩)
    (c18 : PySem.W.codeIn K cd18 "_law_plus" = true)
    (k18 : PySem.W.keepIn K (.ref f18) = true)
    (a19 : PySem.W.nsIn K mainGlobals "_law_minus" = some (some (.ref f19)))
    (l19 : K.lookup f19 = some ⟨oc19, od19, .func (PySem.W.fnOf "_law_minus" "_law_minus" (defArgs s__law_minus) (defBody s__law_minus) (defScope s__law_minus) .none kV19 dc19 pm19 an19 cd19 ct19), sl19⟩)
    (c19 : PySem.W.codeIn K cd19 "_law_minus" = true)
    (k19 : PySem.W.keepIn K (.ref f19) = true)
    (a20 : PySem.W.nsIn K mainGlobals "_law_times" = some (some (.ref f20)))
    (l20 : K.lookup f20 = some ⟨oc20, od20, .func (PySem.W.fnOf "_law_times" "_law_times" (defArgs s__law_times) (defBody s__law_times) (defScope s__law_times) .none kV20 dc20 pm20 an20 cd20 ct20), sl20⟩)
    (c20 : PySem.W.codeIn K cd20 "_law_times" = true)
    (k20 : PySem.W.keepIn K (.ref f20) = true)
    (a21 : PySem.W.nsIn K mainGlobals "_law_over" = some (some (.ref f21)))
    (l21 : K.lookup f21 = some ⟨oc21, od21, .func (PySem.W.fnOf "_law_over" "_law_over" (defArgs s__law_over) (defBody s__law_over) (defScope s__law_over) .none kV21 dc21 pm21 an21 cd21 ct21), sl21⟩)
    (c21 : PySem.W.codeIn K cd21 "_law_over" = true)
    (k21 : PySem.W.keepIn K (.ref f21) = true)
    (a22 : PySem.W.nsIn K mainGlobals "_law_entry" = some (some (.ref f22)))
    (l22 : K.lookup f22 = some ⟨oc22, od22, .func (PySem.W.fnOf "_law_entry" "_law_entry" (defArgs s__law_entry) (defBody s__law_entry) (defScope s__law_entry) .none kV22 dc22 pm22 an22 cd22 ct22), sl22⟩)
    (c22 : PySem.W.codeIn K cd22 "_law_entry" = true)
    (k22 : PySem.W.keepIn K (.ref f22) = true)
    (a23 : PySem.W.nsIn K mainGlobals "_law_is_low" = some (some (.ref f23)))
    (l23 : K.lookup f23 = some ⟨oc23, od23, .func (PySem.W.fnOf "_law_is_low" "_law_is_low" (defArgs s__law_is_low) (defBody s__law_is_low) (defScope s__law_is_low) .none kV23 dc23 pm23 an23 cd23 ct23), sl23⟩)
    (c23 : PySem.W.codeIn K cd23 "_law_is_low" = true)
    (k23 : PySem.W.keepIn K (.ref f23) = true)
    (a24 : PySem.W.nsIn K mainGlobals "_law_equal" = some (some (.ref f24)))
    (l24 : K.lookup f24 = some ⟨oc24, od24, .func (PySem.W.fnOf "_law_equal" "_law_equal" (defArgs s__law_equal) (defBody s__law_equal) (defScope s__law_equal) .none kV24 dc24 pm24 an24 cd24 ct24), sl24⟩)
    (c24 : PySem.W.codeIn K cd24 "_law_equal" = true)
    (k24 : PySem.W.keepIn K (.ref f24) = true)
    (a25 : PySem.W.nsIn K mainGlobals "_law_trim" = some (some (.ref f25)))
    (l25 : K.lookup f25 = some ⟨oc25, od25, .func (PySem.W.fnOf "_law_trim" "_law_trim" (defArgs s__law_trim) (defBody s__law_trim) (defScope s__law_trim) .none kV25 dc25 pm25 an25 cd25 ct25), sl25⟩)
    (c25 : PySem.W.codeIn K cd25 "_law_trim" = true)
    (k25 : PySem.W.keepIn K (.ref f25) = true)
    (a26 : PySem.W.nsIn K mainGlobals "_law_sum" = some (some (.ref f26)))
    (l26 : K.lookup f26 = some ⟨oc26, od26, .func (PySem.W.fnOf "_law_sum" "_law_sum" (defArgs s__law_sum) (defBody s__law_sum) (defScope s__law_sum) .none kV26 dc26 pm26 an26 cd26 ct26), sl26⟩)
    (c26 : PySem.W.codeIn K cd26 "_law_sum" = true)
    (k26 : PySem.W.keepIn K (.ref f26) = true)
    (a27 : PySem.W.nsIn K mainGlobals "_law_product" = some (some (.ref f27)))
    (l27 : K.lookup f27 = some ⟨oc27, od27, .func (PySem.W.fnOf "_law_product" "_law_product" (defArgs s__law_product) (defBody s__law_product) (defScope s__law_product) .none kV27 dc27 pm27 an27 cd27 ct27), sl27⟩)
    (c27 : PySem.W.codeIn K cd27 "_law_product" = true)
    (k27 : PySem.W.keepIn K (.ref f27) = true)
    (a28 : PySem.W.nsIn K mainGlobals "_law_rest" = some (some (.ref f28)))
    (l28 : K.lookup f28 = some ⟨oc28, od28, .func (PySem.W.fnOf "_law_rest" "_law_rest" (defArgs s__law_rest) (defBody s__law_rest) (defScope s__law_rest) .none kV28 dc28 pm28 an28 cd28 ct28), sl28⟩)
    (c28 : PySem.W.codeIn K cd28 "_law_rest" = true)
    (k28 : PySem.W.keepIn K (.ref f28) = true)
    (a29 : PySem.W.nsIn K mainGlobals "_law_monic" = some (some (.ref f29)))
    (l29 : K.lookup f29 = some ⟨oc29, od29, .func (PySem.W.fnOf "_law_monic" "_law_monic" (defArgs s__law_monic) (defBody s__law_monic) (defScope s__law_monic) .none kV29 dc29 pm29 an29 cd29 ct29), sl29⟩)
    (c29 : PySem.W.codeIn K cd29 "_law_monic" = true)
    (k29 : PySem.W.keepIn K (.ref f29) = true)
    (a30 : PySem.W.nsIn K mainGlobals "_law_greatest" = some (some (.ref f30)))
    (l30 : K.lookup f30 = some ⟨oc30, od30, .func (PySem.W.fnOf "_law_greatest" "_law_greatest" (defArgs s__law_greatest) (defBody s__law_greatest) (defScope s__law_greatest) .none kV30 dc30 pm30 an30 cd30 ct30), sl30⟩)
    (c30 : PySem.W.codeIn K cd30 "_law_greatest" = true)
    (k30 : PySem.W.keepIn K (.ref f30) = true)
    (a31 : PySem.W.nsIn K mainGlobals "_law_worth" = some (some (.ref f31)))
    (l31 : K.lookup f31 = some ⟨oc31, od31, .func (PySem.W.fnOf "_law_worth" "_law_worth" (defArgs s__law_worth) (defBody s__law_worth) (defScope s__law_worth) .none kV31 dc31 pm31 an31 cd31 ct31), sl31⟩)
    (c31 : PySem.W.codeIn K cd31 "_law_worth" = true)
    (k31 : PySem.W.keepIn K (.ref f31) = true)
    (a32 : PySem.W.nsIn K mainGlobals "_law_poly_equal" = some (some (.ref f32)))
    (l32 : K.lookup f32 = some ⟨oc32, od32, .func (PySem.W.fnOf "_law_poly_equal" "_law_poly_equal" (defArgs s__law_poly_equal) (defBody s__law_poly_equal) (defScope s__law_poly_equal) .none kV32 dc32 pm32 an32 cd32 ct32), sl32⟩)
    (c32 : PySem.W.codeIn K cd32 "_law_poly_equal" = true)
    (k32 : PySem.W.keepIn K (.ref f32) = true)
    (a33 : PySem.W.nsIn K mainGlobals "_law_is_poly" = some (some (.ref f33)))
    (l33 : K.lookup f33 = some ⟨oc33, od33, .func (PySem.W.fnOf "_law_is_poly" "_law_is_poly" (defArgs s__law_is_poly) (defBody s__law_is_poly) (defScope s__law_is_poly) .none kV33 dc33 pm33 an33 cd33 ct33), sl33⟩)
    (c33 : PySem.W.codeIn K cd33 "_law_is_poly" = true)
    (k33 : PySem.W.keepIn K (.ref f33) = true)
    (a34 : PySem.W.nsIn K mainGlobals "_law_given" = some (some (.ref f34)))
    (l34 : K.lookup f34 = some ⟨oc34, od34, .func (PySem.W.fnOf "_law_given" "_law_given" (defArgs s__law_given) (defBody s__law_given) (defScope s__law_given) .none kV34 dc34 pm34 an34 cd34 ct34), sl34⟩)
    (c34 : PySem.W.codeIn K cd34 "_law_given" = true)
    (k34 : PySem.W.keepIn K (.ref f34) = true)
    (a35 : PySem.W.nsIn K mainGlobals "_law_copied" = some (some (.ref f35)))
    (l35 : K.lookup f35 = some ⟨oc35, od35, .func (PySem.W.fnOf "_law_copied" "_law_copied" (defArgs s__law_copied) (defBody s__law_copied) (defScope s__law_copied) .none kV35 dc35 pm35 an35 cd35 ct35), sl35⟩)
    (c35 : PySem.W.codeIn K cd35 "_law_copied" = true)
    (k35 : PySem.W.keepIn K (.ref f35) = true)
    (a36 : PySem.W.nsIn K mainGlobals "_law_poly" = some (some (.ref f36)))
    (l36 : K.lookup f36 = some ⟨oc36, od36, .func (PySem.W.fnOf "_law_poly" "_law_poly" (defArgs s__law_poly) (defBody s__law_poly) (defScope s__law_poly) .none kV36 dc36 pm36 an36 cd36 ct36), sl36⟩)
    (c36 : PySem.W.codeIn K cd36 "_law_poly" = true)
    (k36 : PySem.W.keepIn K (.ref f36) = true)
    (a37 : PySem.W.nsIn K mainGlobals "_law_pair" = some (some (.ref f37)))
    (l37 : K.lookup f37 = some ⟨oc37, od37, .func (PySem.W.fnOf "_law_pair" "_law_pair" (defArgs s__law_pair) (defBody s__law_pair) (defScope s__law_pair) .none kV37 dc37 pm37 an37 cd37 ct37), sl37⟩)
    (c37 : PySem.W.codeIn K cd37 "_law_pair" = true)
    (k37 : PySem.W.keepIn K (.ref f37) = true)
    (a38 : PySem.W.nsIn K mainGlobals "_law_divided" = some (some (.ref f38)))
    (l38 : K.lookup f38 = some ⟨oc38, od38, .func (PySem.W.fnOf "_law_divided" "_law_divided" (defArgs s__law_divided) (defBody s__law_divided) (defScope s__law_divided) .none kV38 dc38 pm38 an38 cd38 ct38), sl38⟩)
    (c38 : PySem.W.codeIn K cd38 "_law_divided" = true)
    (k38 : PySem.W.keepIn K (.ref f38) = true)
    (a39 : PySem.W.nsIn K mainGlobals "_law_division_right" = some (some (.ref f39)))
    (l39 : K.lookup f39 = some ⟨oc39, od39, .func (PySem.W.fnOf "_law_division_right" "_law_division_right" (defArgs s__law_division_right) (defBody s__law_division_right) (defScope s__law_division_right) .none kV39 dc39 pm39 an39 cd39 ct39), sl39⟩)
    (c39 : PySem.W.codeIn K cd39 "_law_division_right" = true)
    (k39 : PySem.W.keepIn K (.ref f39) = true)
    (a40 : PySem.W.nsIn K mainGlobals "_law_common_right" = some (some (.ref f40)))
    (l40 : K.lookup f40 = some ⟨oc40, od40, .func (PySem.W.fnOf "_law_common_right" "_law_common_right" (defArgs s__law_common_right) (defBody s__law_common_right) (defScope s__law_common_right) .none kV40 dc40 pm40 an40 cd40 ct40), sl40⟩)
    (c40 : PySem.W.codeIn K cd40 "_law_common_right" = true)
    (k40 : PySem.W.keepIn K (.ref f40) = true)
    (a41 : PySem.W.nsIn K mainGlobals "_law_made_right" = some (some (.ref f41)))
    (l41 : K.lookup f41 = some ⟨oc41, od41, .func (PySem.W.fnOf "_law_made_right" "_law_made_right" (defArgs s__law_made_right) (defBody s__law_made_right) (defScope s__law_made_right) .none kV41 dc41 pm41 an41 cd41 ct41), sl41⟩)
    (c41 : PySem.W.codeIn K cd41 "_law_made_right" = true)
    (k41 : PySem.W.keepIn K (.ref f41) = true)
    (a42 : PySem.W.nsIn K mainGlobals "law" = some (some (.ref f42)))
    (l42 : K.lookup f42 = some ⟨oc42, od42, .func (PySem.W.fnOf "law" "law" (defArgs s_law) (defBody s_law) (defScope s_law) .none kV42 dc42 pm42 an42 cd42 ct42), sl42⟩)
    (c42 : PySem.W.codeIn K cd42 "law" = true)
    (k42 : PySem.W.keepIn K (.ref f42) = true)
    (z_len : PySem.W.nsIn K mainGlobals "len" = some none)
    (z_abs : PySem.W.nsIn K mainGlobals "abs" = some none)
    (z_sum : PySem.W.nsIn K mainGlobals "sum" = some none)
    (z_max : PySem.W.nsIn K mainGlobals "max" = some none)
    (z_isinstance : PySem.W.nsIn K mainGlobals "isinstance" = some none)
    (z_int : PySem.W.nsIn K mainGlobals "int" = some none)
    (z_list : PySem.W.nsIn K mainGlobals "list" = some none)
    (z_tuple : PySem.W.nsIn K mainGlobals "tuple" = some none)
    (z_bool : PySem.W.nsIn K mainGlobals "bool" = some none)
    (z_range : PySem.W.nsIn K mainGlobals "range" = some none)
    (z_enumerate : PySem.W.nsIn K mainGlobals "enumerate" = some none)
    (z_reversed : PySem.W.nsIn K mainGlobals "reversed" = some none)
    (z_ValueError : PySem.W.nsIn K mainGlobals "ValueError" = some none)
    (z_gcd : PySem.W.nsIn K mainGlobals "gcd" = some (some (.builtin "math.gcd")))
    (y_ZERO : PySem.W.nsIn K mainGlobals "ZERO" = some (some (.ref f_ZERO)))
    (l_ZERO : K.lookup f_ZERO = some ⟨.type "tuple", od_ZERO, .seq #[.int 0 tk_ZERO_0, .int 1 tk_ZERO_1] n_ZERO, sl_ZERO⟩)
    (y_ONE : PySem.W.nsIn K mainGlobals "ONE" = some (some (.ref f_ONE)))
    (l_ONE : K.lookup f_ONE = some ⟨.type "tuple", od_ONE, .seq #[.int 1 tk_ONE_0, .int 1 tk_ONE_1] n_ONE, sl_ONE⟩)
    (y_SteelyardError : PySem.W.nsIn K mainGlobals "SteelyardError" = some (some (.ref f_SteelyardError)))
    (k_SteelyardError : PySem.W.keepIn K (.ref f_SteelyardError) = true)
    (i_SteelyardError : PySem.W.isClsIn K f_SteelyardError = true)
    (h_SteelyardError : PySem.W.typeIn K (.ref f_SteelyardError) = some (.type "type"))
    (y_LimitError : PySem.W.nsIn K mainGlobals "LimitError" = some (some (.ref f_LimitError)))
    (k_LimitError : PySem.W.keepIn K (.ref f_LimitError) = true)
    (i_LimitError : PySem.W.isClsIn K f_LimitError = true)
    (h_LimitError : PySem.W.typeIn K (.ref f_LimitError) = some (.type "type"))
    (y_ZeroBelow : PySem.W.nsIn K mainGlobals "ZeroBelow" = some (some (.ref f_ZeroBelow)))
    (k_ZeroBelow : PySem.W.keepIn K (.ref f_ZeroBelow) = true)
    (i_ZeroBelow : PySem.W.isClsIn K f_ZeroBelow = true)
    (h_ZeroBelow : PySem.W.typeIn K (.ref f_ZeroBelow) = some (.type "type"))
    (x_ZeroBelow : PySem.W.excIn K f_ZeroBelow [.type "ValueError", .type "Exception", .type "BaseException", .type "object"] "ValueError.__new__" = true)
    (bs_ZeroBelow : PySem.W.subIn K (.ref f_ZeroBelow) (.type "BaseException") = some true)
    (s_ZeroBelow : PySem.W.subIn K (.ref f_ZeroBelow) (.ref f_ZeroBelow) = some true)
    (x1_ZeroBelow : PySem.W.findIn K (.ref f_ZeroBelow) "__getattribute__" = some (some (.builtin "BaseException.__getattribute__")))
    (x2_ZeroBelow : PySem.W.findIn K (.ref f_ZeroBelow) "__getattr__" = some none)
    (x3_ZeroBelow : PySem.W.hasDictIn K f_ZeroBelow = true)
    (x4_ZeroBelow : PySem.W.findIn K (.ref f_ZeroBelow) "__class__" = some (some (.builtin "object.__class__")))
    (x5_ZeroBelow : PySem.W.specialIn K (.builtin "object.__class__") "__get__" = some (some (.builtin "getset_descriptor.__get__")))
    (x6_ZeroBelow : PySem.W.takesIn K (.builtin "object.__class__") = some true)
    (x7_ZeroBelow : PySem.W.mroIn K f_ZeroBelow (.type "object") = some true)
    (y_WrongWidth : PySem.W.nsIn K mainGlobals "WrongWidth" = some (some (.ref f_WrongWidth)))
    (k_WrongWidth : PySem.W.keepIn K (.ref f_WrongWidth) = true)
    (i_WrongWidth : PySem.W.isClsIn K f_WrongWidth = true)
    (h_WrongWidth : PySem.W.typeIn K (.ref f_WrongWidth) = some (.type "type"))
    (q_ZeroBelow_LimitError : PySem.W.subIn K (.ref f_ZeroBelow) (.ref f_LimitError) = some false)
    (q_ZeroBelow_WrongWidth : PySem.W.subIn K (.ref f_ZeroBelow) (.ref f_WrongWidth) = some false)
    (q_ZeroBelow_SteelyardError : PySem.W.subIn K (.ref f_ZeroBelow) (.ref f_SteelyardError) = some true)
    (q_ZeroBelow_ValueError : PySem.W.subIn K (.ref f_ZeroBelow) (.type "ValueError") = some true)
    : ∃ fd : FuncData, (∀ (s : Shared) (v : Value), BindsTo s fd ⟨[v], []⟩ [("script", v)]) ∧ ∀ base : Heap, K.In base → base.Ns mainGlobals mg → base.NoSeer → FnOk PP w K mg base CX0 42 fa fd ["script"] (sp_law K) := by
  have e : fa = f42 := by
    have e := hfa.symm.trans (PySem.W.mg_of X G a42)
    cases e
    rfl
  rw [e]
  clear e hfa
  have F0 : FunD K "ratio" "ratio" (defArgs s_ratio) (defBody s_ratio) (defScope s_ratio) [.int 1] [] f0 (PySem.W.fnOf "ratio" "ratio" (defArgs s_ratio) (defBody s_ratio) (defScope s_ratio) (.ref T0) kV0 dc0 pm0 an0 cd0 ct0) := ⟨⟨oc0, od0, _, _, _, _, _, _, _, sl0, rfl, l0, c0, .inr ⟨by simp, T0, _, [.int 1 tk0_0], nT0, rfl, t0, rfl, .cons ⟨_, rfl⟩ (.nil)⟩, .inl rfl⟩, k0⟩
  have b0 : Binds K (PySem.W.fnOf "ratio" "ratio" (defArgs s_ratio) (defBody s_ratio) (defScope s_ratio) (.ref T0) kV0 dc0 pm0 an0 cd0 ct0) ["above", "below"] [] := by
    obtain ⟨ds, hv, hb⟩ := F0.binds1 (ps := ["above", "below"]) 2 1 (by simp) rfl fun T kV doc pm an cdv ct us its hl hi => match us, hl, its, hi with | [_, _], _, [_], _ => ⟨_, rfl, rfl⟩
    cases hv
    exact hb
  have F1 := fun_mk (st := s_add) l1 c1 k1
  have b1 := F1.binds (ps := ["p", "q"]) fun _ _ _ _ _ _ us hl => match us, hl with | [_, _], _ => rfl
  have F2 := fun_mk (st := s_multiply) l2 c2 k2
  have b2 := F2.binds (ps := ["p", "q"]) fun _ _ _ _ _ _ us hl => match us, hl with | [_, _], _ => rfl
  have F3 := fun_mk (st := s_divide) l3 c3 k3
  have b3 := F3.binds (ps := ["p", "q"]) fun _ _ _ _ _ _ us hl => match us, hl with | [_, _], _ => rfl
  have F4 := fun_mk (st := s_negate) l4 c4 k4
  have b4 := F4.binds (ps := ["p"]) fun _ _ _ _ _ _ us hl => match us, hl with | [_], _ => rfl
  have F5 := fun_mk (st := s_plus_multiple) l5 c5 k5
  have b5 := F5.binds (ps := ["row", "factor", "other"]) fun _ _ _ _ _ _ us hl => match us, hl with | [_, _, _], _ => rfl
  have F6 := fun_mk (st := s_multiple) l6 c6 k6
  have b6 := F6.binds (ps := ["factor", "row"]) fun _ _ _ _ _ _ us hl => match us, hl with | [_, _], _ => rfl
  have F7 := fun_mk (st := s_trimmed) l7 c7 k7
  have b7 := F7.binds (ps := ["row"]) fun _ _ _ _ _ _ us hl => match us, hl with | [_], _ => rfl
  have F8 := fun_mk (st := s_add_poly) l8 c8 k8
  have b8 := F8.binds (ps := ["left", "right"]) fun _ _ _ _ _ _ us hl => match us, hl with | [_, _], _ => rfl
  have F9 := fun_mk (st := s_multiply_poly) l9 c9 k9
  have b9 := F9.binds (ps := ["left", "right"]) fun _ _ _ _ _ _ us hl => match us, hl with | [_, _], _ => rfl
  have F10 := fun_mk (st := s_divide_poly) l10 c10 k10
  have b10 := F10.binds (ps := ["left", "right"]) fun _ _ _ _ _ _ us hl => match us, hl with | [_, _], _ => rfl
  have F11 := fun_mk (st := s__with_last_one) l11 c11 k11
  have b11 := F11.binds (ps := ["row"]) fun _ _ _ _ _ _ us hl => match us, hl with | [_], _ => rfl
  have F12 := fun_mk (st := s_gcd_poly) l12 c12 k12
  have b12 := F12.binds (ps := ["left", "right"]) fun _ _ _ _ _ _ us hl => match us, hl with | [_, _], _ => rfl
  have F13 := fun_mk (st := s_value_at) l13 c13 k13
  have b13 := F13.binds (ps := ["polynomial", "x"]) fun _ _ _ _ _ _ us hl => match us, hl with | [_, _], _ => rfl
  have F14 := fun_mk (st := s__law_bag) l14 c14 k14
  have b14 := F14.binds (ps := ["script", "place"]) fun _ _ _ _ _ _ us hl => match us, hl with | [_, _], _ => rfl
  have F15 := fun_mk (st := s__law_draw) l15 c15 k15
  have b15 := F15.binds (ps := ["bag", "size"]) fun _ _ _ _ _ _ us hl => match us, hl with | [_, _], _ => rfl
  have F16 := fun_mk (st := s__law_common) l16 c16 k16
  have b16 := F16.binds (ps := ["one", "two"]) fun _ _ _ _ _ _ us hl => match us, hl with | [_, _], _ => rfl
  have F17 := fun_mk (st := s__law_low) l17 c17 k17
  have b17 := F17.binds (ps := ["above", "under"]) fun _ _ _ _ _ _ us hl => match us, hl with | [_, _], _ => rfl
  have F18 := fun_mk (st := s__law_plus) l18 c18 k18
  have b18 := F18.binds (ps := ["p", "q"]) fun _ _ _ _ _ _ us hl => match us, hl with | [_, _], _ => rfl
  have F19 := fun_mk (st := s__law_minus) l19 c19 k19
  have b19 := F19.binds (ps := ["p", "q"]) fun _ _ _ _ _ _ us hl => match us, hl with | [_, _], _ => rfl
  have F20 := fun_mk (st := s__law_times) l20 c20 k20
  have b20 := F20.binds (ps := ["p", "q"]) fun _ _ _ _ _ _ us hl => match us, hl with | [_, _], _ => rfl
  have F21 := fun_mk (st := s__law_over) l21 c21 k21
  have b21 := F21.binds (ps := ["p", "q"]) fun _ _ _ _ _ _ us hl => match us, hl with | [_, _], _ => rfl
  have F22 := fun_mk (st := s__law_entry) l22 c22 k22
  have b22 := F22.binds (ps := ["bag", "large"]) fun _ _ _ _ _ _ us hl => match us, hl with | [_, _], _ => rfl
  have F23 := fun_mk (st := s__law_is_low) l23 c23 k23
  have b23 := F23.binds (ps := ["actual"]) fun _ _ _ _ _ _ us hl => match us, hl with | [_], _ => rfl
  have F24 := fun_mk (st := s__law_equal) l24 c24 k24
  have b24 := F24.binds (ps := ["actual", "due"]) fun _ _ _ _ _ _ us hl => match us, hl with | [_, _], _ => rfl
  have F25 := fun_mk (st := s__law_trim) l25 c25 k25
  have b25 := F25.binds (ps := ["row"]) fun _ _ _ _ _ _ us hl => match us, hl with | [_], _ => rfl
  have F26 := fun_mk (st := s__law_sum) l26 c26 k26
  have b26 := F26.binds (ps := ["left", "right"]) fun _ _ _ _ _ _ us hl => match us, hl with | [_, _], _ => rfl
  have F27 := fun_mk (st := s__law_product) l27 c27 k27
  have b27 := F27.binds (ps := ["left", "right"]) fun _ _ _ _ _ _ us hl => match us, hl with | [_, _], _ => rfl
  have F28 := fun_mk (st := s__law_rest) l28 c28 k28
  have b28 := F28.binds (ps := ["left", "right"]) fun _ _ _ _ _ _ us hl => match us, hl with | [_, _], _ => rfl
  have F29 := fun_mk (st := s__law_monic) l29 c29 k29
  have b29 := F29.binds (ps := ["row"]) fun _ _ _ _ _ _ us hl => match us, hl with | [_], _ => rfl
  have F30 := fun_mk (st := s__law_greatest) l30 c30 k30
  have b30 := F30.binds (ps := ["left", "right"]) fun _ _ _ _ _ _ us hl => match us, hl with | [_, _], _ => rfl
  have F31 := fun_mk (st := s__law_worth) l31 c31 k31
  have b31 := F31.binds (ps := ["row", "x"]) fun _ _ _ _ _ _ us hl => match us, hl with | [_, _], _ => rfl
  have F32 := fun_mk (st := s__law_poly_equal) l32 c32 k32
  have b32 := F32.binds (ps := ["actual", "due"]) fun _ _ _ _ _ _ us hl => match us, hl with | [_, _], _ => rfl
  have F33 := fun_mk (st := s__law_is_poly) l33 c33 k33
  have b33 := F33.binds (ps := ["actual"]) fun _ _ _ _ _ _ us hl => match us, hl with | [_], _ => rfl
  have F34 := fun_mk (st := s__law_given) l34 c34 k34
  have b34 := F34.binds (ps := ["bag", "row"]) fun _ _ _ _ _ _ us hl => match us, hl with | [_, _], _ => rfl
  have F35 := fun_mk (st := s__law_copied) l35 c35 k35
  have b35 := F35.binds (ps := ["given"]) fun _ _ _ _ _ _ us hl => match us, hl with | [_], _ => rfl
  have F36 := fun_mk (st := s__law_poly) l36 c36 k36
  have b36 := F36.binds (ps := ["bag", "size", "large"]) fun _ _ _ _ _ _ us hl => match us, hl with | [_, _, _], _ => rfl
  have F37 := fun_mk (st := s__law_pair) l37 c37 k37
  have b37 := F37.binds (ps := ["bag", "large"]) fun _ _ _ _ _ _ us hl => match us, hl with | [_, _], _ => rfl
  have F38 := fun_mk (st := s__law_divided) l38 c38 k38
  have b38 := F38.binds (ps := ["left", "right"]) fun _ _ _ _ _ _ us hl => match us, hl with | [_, _], _ => rfl
  have F39 := fun_mk (st := s__law_division_right) l39 c39 k39
  have b39 := F39.binds (ps := ["bag", "left", "right"]) fun _ _ _ _ _ _ us hl => match us, hl with | [_, _, _], _ => rfl
  have F40 := fun_mk (st := s__law_common_right) l40 c40 k40
  have b40 := F40.binds (ps := ["bag", "left", "right"]) fun _ _ _ _ _ _ us hl => match us, hl with | [_, _, _], _ => rfl
  have F41 := fun_mk (st := s__law_made_right) l41 c41 k41
  have b41 := F41.binds (ps := ["bag", "left", "right"]) fun _ _ _ _ _ _ us hl => match us, hl with | [_, _, _], _ => rfl
  have F42 := fun_mk (st := s_law) l42 c42 k42
  have b42 := F42.binds (ps := ["script"]) fun _ _ _ _ _ _ us hl => match us, hl with | [_], _ => rfl
  let T : Tx K mg :=
    { a_ratio := f0,
      d_ratio := PySem.W.fnOf "ratio" "ratio" (defArgs s_ratio) (defBody s_ratio) (defScope s_ratio) (.ref T0) kV0 dc0 pm0 an0 cd0 ct0,
      F_ratio := F0,
      g_ratio := PySem.W.mg_of X G a0,
      k_ratio := k0,
      b_ratio := b0,
      a_add := f1,
      d_add := PySem.W.fnOf "add" "add" (defArgs s_add) (defBody s_add) (defScope s_add) .none kV1 dc1 pm1 an1 cd1 ct1,
      F_add := F1,
      g_add := PySem.W.mg_of X G a1,
      k_add := k1,
      b_add := b1,
      a_multiply := f2,
      d_multiply := PySem.W.fnOf "multiply" "multiply" (defArgs s_multiply) (defBody s_multiply) (defScope s_multiply) .none kV2 dc2 pm2 an2 cd2 ct2,
      F_multiply := F2,
      g_multiply := PySem.W.mg_of X G a2,
      k_multiply := k2,
      b_multiply := b2,
      a_divide := f3,
      d_divide := PySem.W.fnOf "divide" "divide" (defArgs s_divide) (defBody s_divide) (defScope s_divide) .none kV3 dc3 pm3 an3 cd3 ct3,
      F_divide := F3,
      g_divide := PySem.W.mg_of X G a3,
      k_divide := k3,
      b_divide := b3,
      a_negate := f4,
      d_negate := PySem.W.fnOf "negate" "negate" (defArgs s_negate) (defBody s_negate) (defScope s_negate) .none kV4 dc4 pm4 an4 cd4 ct4,
      F_negate := F4,
      g_negate := PySem.W.mg_of X G a4,
      k_negate := k4,
      b_negate := b4,
      a_plus_multiple := f5,
      d_plus_multiple := PySem.W.fnOf "plus_multiple" "plus_multiple" (defArgs s_plus_multiple) (defBody s_plus_multiple) (defScope s_plus_multiple) .none kV5 dc5 pm5 an5 cd5 ct5,
      F_plus_multiple := F5,
      g_plus_multiple := PySem.W.mg_of X G a5,
      k_plus_multiple := k5,
      b_plus_multiple := b5,
      a_multiple := f6,
      d_multiple := PySem.W.fnOf "multiple" "multiple" (defArgs s_multiple) (defBody s_multiple) (defScope s_multiple) .none kV6 dc6 pm6 an6 cd6 ct6,
      F_multiple := F6,
      g_multiple := PySem.W.mg_of X G a6,
      k_multiple := k6,
      b_multiple := b6,
      a_trimmed := f7,
      d_trimmed := PySem.W.fnOf "trimmed" "trimmed" (defArgs s_trimmed) (defBody s_trimmed) (defScope s_trimmed) .none kV7 dc7 pm7 an7 cd7 ct7,
      F_trimmed := F7,
      g_trimmed := PySem.W.mg_of X G a7,
      k_trimmed := k7,
      b_trimmed := b7,
      a_add_poly := f8,
      d_add_poly := PySem.W.fnOf "add_poly" "add_poly" (defArgs s_add_poly) (defBody s_add_poly) (defScope s_add_poly) .none kV8 dc8 pm8 an8 cd8 ct8,
      F_add_poly := F8,
      g_add_poly := PySem.W.mg_of X G a8,
      k_add_poly := k8,
      b_add_poly := b8,
      a_multiply_poly := f9,
      d_multiply_poly := PySem.W.fnOf "multiply_poly" "multiply_poly" (defArgs s_multiply_poly) (defBody s_multiply_poly) (defScope s_multiply_poly) .none kV9 dc9 pm9 an9 cd9 ct9,
      F_multiply_poly := F9,
      g_multiply_poly := PySem.W.mg_of X G a9,
      k_multiply_poly := k9,
      b_multiply_poly := b9,
      a_divide_poly := f10,
      d_divide_poly := PySem.W.fnOf "divide_poly" "divide_poly" (defArgs s_divide_poly) (defBody s_divide_poly) (defScope s_divide_poly) .none kV10 dc10 pm10 an10 cd10 ct10,
      F_divide_poly := F10,
      g_divide_poly := PySem.W.mg_of X G a10,
      k_divide_poly := k10,
      b_divide_poly := b10,
      a__with_last_one := f11,
      d__with_last_one := PySem.W.fnOf "_with_last_one" "_with_last_one" (defArgs s__with_last_one) (defBody s__with_last_one) (defScope s__with_last_one) .none kV11 dc11 pm11 an11 cd11 ct11,
      F__with_last_one := F11,
      g__with_last_one := PySem.W.mg_of X G a11,
      k__with_last_one := k11,
      b__with_last_one := b11,
      a_gcd_poly := f12,
      d_gcd_poly := PySem.W.fnOf "gcd_poly" "gcd_poly" (defArgs s_gcd_poly) (defBody s_gcd_poly) (defScope s_gcd_poly) .none kV12 dc12 pm12 an12 cd12 ct12,
      F_gcd_poly := F12,
      g_gcd_poly := PySem.W.mg_of X G a12,
      k_gcd_poly := k12,
      b_gcd_poly := b12,
      a_value_at := f13,
      d_value_at := PySem.W.fnOf "value_at" "value_at" (defArgs s_value_at) (defBody s_value_at) (defScope s_value_at) .none kV13 dc13 pm13 an13 cd13 ct13,
      F_value_at := F13,
      g_value_at := PySem.W.mg_of X G a13,
      k_value_at := k13,
      b_value_at := b13,
      a__law_bag := f14,
      d__law_bag := PySem.W.fnOf "_law_bag" "_law_bag" (defArgs s__law_bag) (defBody s__law_bag) (defScope s__law_bag) .none kV14 dc14 pm14 an14 cd14 ct14,
      F__law_bag := F14,
      g__law_bag := PySem.W.mg_of X G a14,
      k__law_bag := k14,
      b__law_bag := b14,
      a__law_draw := f15,
      d__law_draw := PySem.W.fnOf "_law_draw" "_law_draw" (defArgs s__law_draw) (defBody s__law_draw) (defScope s__law_draw) .none kV15 dc15 pm15 an15 cd15 ct15,
      F__law_draw := F15,
      g__law_draw := PySem.W.mg_of X G a15,
      k__law_draw := k15,
      b__law_draw := b15,
      a__law_common := f16,
      d__law_common := PySem.W.fnOf "_law_common" "_law_common" (defArgs s__law_common) (defBody s__law_common) (defScope s__law_common) .none kV16 dc16 pm16 an16 cd16 ct16,
      F__law_common := F16,
      g__law_common := PySem.W.mg_of X G a16,
      k__law_common := k16,
      b__law_common := b16,
      a__law_low := f17,
      d__law_low := PySem.W.fnOf "_law_low" "_law_low" (defArgs s__law_low) (defBody s__law_low) (defScope s__law_low) .none kV17 dc17 pm17 an17 cd17 ct17,
      F__law_low := F17,
      g__law_low := PySem.W.mg_of X G a17,
      k__law_low := k17,
      b__law_low := b17,
      a__law_plus := f18,
      d__law_plus := PySem.W.fnOf "_law_plus" "_law_plus" (defArgs s__law_plus) (defBody s__law_plus) (defScope s__law_plus) .none kV18 dc18 pm18 an18 cd18 ct18,
      F__law_plus := F18,
      g__law_plus := PySem.W.mg_of X G a18,
      k__law_plus := k18,
      b__law_plus := b18,
      a__law_minus := f19,
      d__law_minus := PySem.W.fnOf "_law_minus" "_law_minus" (defArgs s__law_minus) (defBody s__law_minus) (defScope s__law_minus) .none kV19 dc19 pm19 an19 cd19 ct19,
      F__law_minus := F19,
      g__law_minus := PySem.W.mg_of X G a19,
      k__law_minus := k19,
      b__law_minus := b19,
      a__law_times := f20,
      d__law_times := PySem.W.fnOf "_law_times" "_law_times" (defArgs s__law_times) (defBody s__law_times) (defScope s__law_times) .none kV20 dc20 pm20 an20 cd20 ct20,
      F__law_times := F20,
      g__law_times := PySem.W.mg_of X G a20,
      k__law_times := k20,
      b__law_times := b20,
      a__law_over := f21,
      d__law_over := PySem.W.fnOf "_law_over" "_law_over" (defArgs s__law_over) (defBody s__law_over) (defScope s__law_over) .none kV21 dc21 pm21 an21 cd21 ct21,
      F__law_over := F21,
      g__law_over := PySem.W.mg_of X G a21,
      k__law_over := k21,
      b__law_over := b21,
      a__law_entry := f22,
      d__law_entry := PySem.W.fnOf "_law_entry" "_law_entry" (defArgs s__law_entry) (defBody s__law_entry) (defScope s__law_entry) .none kV22 dc22 pm22 an22 cd22 ct22,
      F__law_entry := F22,
      g__law_entry := PySem.W.mg_of X G a22,
      k__law_entry := k22,
      b__law_entry := b22,
      a__law_is_low := f23,
      d__law_is_low := PySem.W.fnOf "_law_is_low" "_law_is_low" (defArgs s__law_is_low) (defBody s__law_is_low) (defScope s__law_is_low) .none kV23 dc23 pm23 an23 cd23 ct23,
      F__law_is_low := F23,
      g__law_is_low := PySem.W.mg_of X G a23,
      k__law_is_low := k23,
      b__law_is_low := b23,
      a__law_equal := f24,
      d__law_equal := PySem.W.fnOf "_law_equal" "_law_equal" (defArgs s__law_equal) (defBody s__law_equal) (defScope s__law_equal) .none kV24 dc24 pm24 an24 cd24 ct24,
      F__law_equal := F24,
      g__law_equal := PySem.W.mg_of X G a24,
      k__law_equal := k24,
      b__law_equal := b24,
      a__law_trim := f25,
      d__law_trim := PySem.W.fnOf "_law_trim" "_law_trim" (defArgs s__law_trim) (defBody s__law_trim) (defScope s__law_trim) .none kV25 dc25 pm25 an25 cd25 ct25,
      F__law_trim := F25,
      g__law_trim := PySem.W.mg_of X G a25,
      k__law_trim := k25,
      b__law_trim := b25,
      a__law_sum := f26,
      d__law_sum := PySem.W.fnOf "_law_sum" "_law_sum" (defArgs s__law_sum) (defBody s__law_sum) (defScope s__law_sum) .none kV26 dc26 pm26 an26 cd26 ct26,
      F__law_sum := F26,
      g__law_sum := PySem.W.mg_of X G a26,
      k__law_sum := k26,
      b__law_sum := b26,
      a__law_product := f27,
      d__law_product := PySem.W.fnOf "_law_product" "_law_product" (defArgs s__law_product) (defBody s__law_product) (defScope s__law_product) .none kV27 dc27 pm27 an27 cd27 ct27,
      F__law_product := F27,
      g__law_product := PySem.W.mg_of X G a27,
      k__law_product := k27,
      b__law_product := b27,
      a__law_rest := f28,
      d__law_rest := PySem.W.fnOf "_law_rest" "_law_rest" (defArgs s__law_rest) (defBody s__law_rest) (defScope s__law_rest) .none kV28 dc28 pm28 an28 cd28 ct28,
      F__law_rest := F28,
      g__law_rest := PySem.W.mg_of X G a28,
      k__law_rest := k28,
      b__law_rest := b28,
      a__law_monic := f29,
      d__law_monic := PySem.W.fnOf "_law_monic" "_law_monic" (defArgs s__law_monic) (defBody s__law_monic) (defScope s__law_monic) .none kV29 dc29 pm29 an29 cd29 ct29,
      F__law_monic := F29,
      g__law_monic := PySem.W.mg_of X G a29,
      k__law_monic := k29,
      b__law_monic := b29,
      a__law_greatest := f30,
      d__law_greatest := PySem.W.fnOf "_law_greatest" "_law_greatest" (defArgs s__law_greatest) (defBody s__law_greatest) (defScope s__law_greatest) .none kV30 dc30 pm30 an30 cd30 ct30,
      F__law_greatest := F30,
      g__law_greatest := PySem.W.mg_of X G a30,
      k__law_greatest := k30,
      b__law_greatest := b30,
      a__law_worth := f31,
      d__law_worth := PySem.W.fnOf "_law_worth" "_law_worth" (defArgs s__law_worth) (defBody s__law_worth) (defScope s__law_worth) .none kV31 dc31 pm31 an31 cd31 ct31,
      F__law_worth := F31,
      g__law_worth := PySem.W.mg_of X G a31,
      k__law_worth := k31,
      b__law_worth := b31,
      a__law_poly_equal := f32,
      d__law_poly_equal := PySem.W.fnOf "_law_poly_equal" "_law_poly_equal" (defArgs s__law_poly_equal) (defBody s__law_poly_equal) (defScope s__law_poly_equal) .none kV32 dc32 pm32 an32 cd32 ct32,
      F__law_poly_equal := F32,
      g__law_poly_equal := PySem.W.mg_of X G a32,
      k__law_poly_equal := k32,
      b__law_poly_equal := b32,
      a__law_is_poly := f33,
      d__law_is_poly := PySem.W.fnOf "_law_is_poly" "_law_is_poly" (defArgs s__law_is_poly) (defBody s__law_is_poly) (defScope s__law_is_poly) .none kV33 dc33 pm33 an33 cd33 ct33,
      F__law_is_poly := F33,
      g__law_is_poly := PySem.W.mg_of X G a33,
      k__law_is_poly := k33,
      b__law_is_poly := b33,
      a__law_given := f34,
      d__law_given := PySem.W.fnOf "_law_given" "_law_given" (defArgs s__law_given) (defBody s__law_given) (defScope s__law_given) .none kV34 dc34 pm34 an34 cd34 ct34,
      F__law_given := F34,
      g__law_given := PySem.W.mg_of X G a34,
      k__law_given := k34,
      b__law_given := b34,
      a__law_copied := f35,
      d__law_copied := PySem.W.fnOf "_law_copied" "_law_copied" (defArgs s__law_copied) (defBody s__law_copied) (defScope s__law_copied) .none kV35 dc35 pm35 an35 cd35 ct35,
      F__law_copied := F35,
      g__law_copied := PySem.W.mg_of X G a35,
      k__law_copied := k35,
      b__law_copied := b35,
      a__law_poly := f36,
      d__law_poly := PySem.W.fnOf "_law_poly" "_law_poly" (defArgs s__law_poly) (defBody s__law_poly) (defScope s__law_poly) .none kV36 dc36 pm36 an36 cd36 ct36,
      F__law_poly := F36,
      g__law_poly := PySem.W.mg_of X G a36,
      k__law_poly := k36,
      b__law_poly := b36,
      a__law_pair := f37,
      d__law_pair := PySem.W.fnOf "_law_pair" "_law_pair" (defArgs s__law_pair) (defBody s__law_pair) (defScope s__law_pair) .none kV37 dc37 pm37 an37 cd37 ct37,
      F__law_pair := F37,
      g__law_pair := PySem.W.mg_of X G a37,
      k__law_pair := k37,
      b__law_pair := b37,
      a__law_divided := f38,
      d__law_divided := PySem.W.fnOf "_law_divided" "_law_divided" (defArgs s__law_divided) (defBody s__law_divided) (defScope s__law_divided) .none kV38 dc38 pm38 an38 cd38 ct38,
      F__law_divided := F38,
      g__law_divided := PySem.W.mg_of X G a38,
      k__law_divided := k38,
      b__law_divided := b38,
      a__law_division_right := f39,
      d__law_division_right := PySem.W.fnOf "_law_division_right" "_law_division_right" (defArgs s__law_division_right) (defBody s__law_division_right) (defScope s__law_division_right) .none kV39 dc39 pm39 an39 cd39 ct39,
      F__law_division_right := F39,
      g__law_division_right := PySem.W.mg_of X G a39,
      k__law_division_right := k39,
      b__law_division_right := b39,
      a__law_common_right := f40,
      d__law_common_right := PySem.W.fnOf "_law_common_right" "_law_common_right" (defArgs s__law_common_right) (defBody s__law_common_right) (defScope s__law_common_right) .none kV40 dc40 pm40 an40 cd40 ct40,
      F__law_common_right := F40,
      g__law_common_right := PySem.W.mg_of X G a40,
      k__law_common_right := k40,
      b__law_common_right := b40,
      a__law_made_right := f41,
      d__law_made_right := PySem.W.fnOf "_law_made_right" "_law_made_right" (defArgs s__law_made_right) (defBody s__law_made_right) (defScope s__law_made_right) .none kV41 dc41 pm41 an41 cd41 ct41,
      F__law_made_right := F41,
      g__law_made_right := PySem.W.mg_of X G a41,
      k__law_made_right := k41,
      b__law_made_right := b41,
      a_law := f42,
      d_law := PySem.W.fnOf "law" "law" (defArgs s_law) (defBody s_law) (defScope s_law) .none kV42 dc42 pm42 an42 cd42 ct42,
      F_law := F42,
      g_law := PySem.W.mg_of X G a42,
      k_law := k42,
      b_law := b42,
      n_len := PySem.W.mg_none_of X G z_len,
      n_abs := PySem.W.mg_none_of X G z_abs,
      n_sum := PySem.W.mg_none_of X G z_sum,
      n_max := PySem.W.mg_none_of X G z_max,
      n_isinstance := PySem.W.mg_none_of X G z_isinstance,
      n_int := PySem.W.mg_none_of X G z_int,
      n_list := PySem.W.mg_none_of X G z_list,
      n_tuple := PySem.W.mg_none_of X G z_tuple,
      n_bool := PySem.W.mg_none_of X G z_bool,
      n_range := PySem.W.mg_none_of X G z_range,
      n_enumerate := PySem.W.mg_none_of X G z_enumerate,
      n_reversed := PySem.W.mg_none_of X G z_reversed,
      n_ValueError := PySem.W.mg_none_of X G z_ValueError,
      g_gcd := PySem.W.mg_of X G z_gcd,
      a_ZERO := f_ZERO,
      g_ZERO := PySem.W.mg_of X G y_ZERO,
      z_ZERO := fun H => .inr ⟨_, _, _, l_ZERO, rfl, rfl, by show 2 ≤ sizeLine; decide, .cons ⟨_, rfl⟩ (.cons ⟨_, rfl⟩ (.nil))⟩,
      a_ONE := f_ONE,
      g_ONE := PySem.W.mg_of X G y_ONE,
      z_ONE := fun H => .inr ⟨_, _, _, l_ONE, rfl, rfl, by show 2 ≤ sizeLine; decide, .cons ⟨_, rfl⟩ (.cons ⟨_, rfl⟩ (.nil))⟩,
      a_SteelyardError := f_SteelyardError,
      g_SteelyardError := PySem.W.mg_of X G y_SteelyardError,
      k_SteelyardError := k_SteelyardError,
      a_LimitError := f_LimitError,
      g_LimitError := PySem.W.mg_of X G y_LimitError,
      k_LimitError := k_LimitError,
      a_ZeroBelow := f_ZeroBelow,
      g_ZeroBelow := PySem.W.mg_of X G y_ZeroBelow,
      k_ZeroBelow := k_ZeroBelow,
      x_ZeroBelow := x_ZeroBelow,
      bs_ZeroBelow := bs_ZeroBelow,
      ty_ZeroBelow := h_ZeroBelow,
      em_ZeroBelow := exm_self bs_ZeroBelow i_ZeroBelow h_ZeroBelow s_ZeroBelow,
      xc_ZeroBelow := ⟨x1_ZeroBelow, x2_ZeroBelow, bs_ZeroBelow, x3_ZeroBelow, x4_ZeroBelow, x5_ZeroBelow, x6_ZeroBelow, x7_ZeroBelow⟩,
      a_WrongWidth := f_WrongWidth,
      g_WrongWidth := PySem.W.mg_of X G y_WrongWidth,
      k_WrongWidth := k_WrongWidth,
      q_ZeroBelow_LimitError := kit_ref i_LimitError h_LimitError q_ZeroBelow_LimitError s_ZeroBelow,
      q_ZeroBelow_WrongWidth := kit_ref i_WrongWidth h_WrongWidth q_ZeroBelow_WrongWidth s_ZeroBelow,
      q_ZeroBelow_SteelyardError := kit_ref i_SteelyardError h_SteelyardError q_ZeroBelow_SteelyardError s_ZeroBelow,
      q_ZeroBelow_ValueError := kit_typ (by decide +kernel) q_ZeroBelow_ValueError }
  exact ⟨T.d_law, fun s v => .of_eq rfl, fun base _ _ hs => ok_law T hs⟩
end K03
open PySem PySem.W PyProof.Rows
set_option maxRecDepth 100000 in
set_option maxHeartbeats 0 in
theorem PySem.Challenge.cw_steelyard_k03_polynomial_division_and_gc_holds : PySem.Challenge.rw_steelyard_k03_polynomial_division_and_gc.Holds := by
  w_on; o_law; k_head; (case hw => w_witness2)
  k_fill
  refine Ly.walk_ofS (l := PySem.Challenge.rw_steelyard_k03_polynomial_division_and_gc) (n := 63) (k := 42) (x := "script") (sp := K03.sp_law) rfl (by decide) rfl ⟨rfl, by decide, by decide⟩ (by decide +kernel) (fun w h Y => PySem.W.kIn_of Y) ?F (fun K H a ns hl _ hS => ⟨a, ns, rfl, hS, hl, fun _ => rfl⟩)
  case F =>
    intro w mg fa h KX G hmg
    refine' K03.all_mk KX G hmg ?a0 ?l0 ?c0 ?k0 ?t0 ?a1 ?l1 ?c1 ?k1 ?a2 ?l2 ?c2 ?k2 ?a3 ?l3 ?c3 ?k3 ?a4 ?l4 ?c4 ?k4 ?a5 ?l5 ?c5 ?k5 ?a6 ?l6 ?c6 ?k6 ?a7 ?l7 ?c7 ?k7 ?a8 ?l8 ?c8 ?k8 ?a9 ?l9 ?c9 ?k9 ?a10 ?l10 ?c10 ?k10 ?a11 ?l11 ?c11 ?k11 ?a12 ?l12 ?c12 ?k12 ?a13 ?l13 ?c13 ?k13 ?a14 ?l14 ?c14 ?k14 ?a15 ?l15 ?c15 ?k15 ?a16 ?l16 ?c16 ?k16 ?a17 ?l17 ?c17 ?k17 ?a18 ?l18 ?c18 ?k18 ?a19 ?l19 ?c19 ?k19 ?a20 ?l20 ?c20 ?k20 ?a21 ?l21 ?c21 ?k21 ?a22 ?l22 ?c22 ?k22 ?a23 ?l23 ?c23 ?k23 ?a24 ?l24 ?c24 ?k24 ?a25 ?l25 ?c25 ?k25 ?a26 ?l26 ?c26 ?k26 ?a27 ?l27 ?c27 ?k27 ?a28 ?l28 ?c28 ?k28 ?a29 ?l29 ?c29 ?k29 ?a30 ?l30 ?c30 ?k30 ?a31 ?l31 ?c31 ?k31 ?a32 ?l32 ?c32 ?k32 ?a33 ?l33 ?c33 ?k33 ?a34 ?l34 ?c34 ?k34 ?a35 ?l35 ?c35 ?k35 ?a36 ?l36 ?c36 ?k36 ?a37 ?l37 ?c37 ?k37 ?a38 ?l38 ?c38 ?k38 ?a39 ?l39 ?c39 ?k39 ?a40 ?l40 ?c40 ?k40 ?a41 ?l41 ?c41 ?k41 ?a42 ?l42 ?c42 ?k42 ?z_len ?z_abs ?z_sum ?z_max ?z_isinstance ?z_int ?z_list ?z_tuple ?z_bool ?z_range ?z_enumerate ?z_reversed ?z_ValueError ?z_gcd ?y_ZERO ?l_ZERO ?y_ONE ?l_ONE ?y_SteelyardError ?k_SteelyardError ?i_SteelyardError ?h_SteelyardError ?y_LimitError ?k_LimitError ?i_LimitError ?h_LimitError ?y_ZeroBelow ?k_ZeroBelow ?i_ZeroBelow ?h_ZeroBelow ?x_ZeroBelow ?bs_ZeroBelow ?s_ZeroBelow ?x1_ZeroBelow ?x2_ZeroBelow ?x3_ZeroBelow ?x4_ZeroBelow ?x5_ZeroBelow ?x6_ZeroBelow ?x7_ZeroBelow ?y_WrongWidth ?k_WrongWidth ?i_WrongWidth ?h_WrongWidth ?q_ZeroBelow_LimitError ?q_ZeroBelow_WrongWidth ?q_ZeroBelow_SteelyardError ?q_ZeroBelow_ValueError
    (case a0 => k_is)
    (case l0 => k_is)
    (case c0 => k_is)
    (case k0 => k_is)
    (case t0 => k_is)
    (case a1 => k_is)
    (case l1 => k_is)
    (case c1 => k_is)
    (case k1 => k_is)
    (case a2 => k_is)
    (case l2 => k_is)
    (case c2 => k_is)
    (case k2 => k_is)
    (case a3 => k_is)
    (case l3 => k_is)
    (case c3 => k_is)
    (case k3 => k_is)
    (case a4 => k_is)
    (case l4 => k_is)
    (case c4 => k_is)
    (case k4 => k_is)
    (case a5 => k_is)
    (case l5 => k_is)
    (case c5 => k_is)
    (case k5 => k_is)
    (case a6 => k_is)
    (case l6 => k_is)
    (case c6 => k_is)
    (case k6 => k_is)
    (case a7 => k_is)
    (case l7 => k_is)
    (case c7 => k_is)
    (case k7 => k_is)
    (case a8 => k_is)
    (case l8 => k_is)
    (case c8 => k_is)
    (case k8 => k_is)
    (case a9 => k_is)
    (case l9 => k_is)
    (case c9 => k_is)
    (case k9 => k_is)
    (case a10 => k_is)
    (case l10 => k_is)
    (case c10 => k_is)
    (case k10 => k_is)
    (case a11 => k_is)
    (case l11 => k_is)
    (case c11 => k_is)
    (case k11 => k_is)
    (case a12 => k_is)
    (case l12 => k_is)
    (case c12 => k_is)
    (case k12 => k_is)
    (case a13 => k_is)
    (case l13 => k_is)
    (case c13 => k_is)
    (case k13 => k_is)
    (case a14 => k_is)
    (case l14 => k_is)
    (case c14 => k_is)
    (case k14 => k_is)
    (case a15 => k_is)
    (case l15 => k_is)
    (case c15 => k_is)
    (case k15 => k_is)
    (case a16 => k_is)
    (case l16 => k_is)
    (case c16 => k_is)
    (case k16 => k_is)
    (case a17 => k_is)
    (case l17 => k_is)
    (case c17 => k_is)
    (case k17 => k_is)
    (case a18 => k_is)
    (case l18 => k_is)
    (case c18 => k_is)
    (case k18 => k_is)
    (case a19 => k_is)
    (case l19 => k_is)
    (case c19 => k_is)
    (case k19 => k_is)
    (case a20 => k_is)
    (case l20 => k_is)
    (case c20 => k_is)
    (case k20 => k_is)
    (case a21 => k_is)
    (case l21 => k_is)
    (case c21 => k_is)
    (case k21 => k_is)
    (case a22 => k_is)
    (case l22 => k_is)
    (case c22 => k_is)
    (case k22 => k_is)
    (case a23 => k_is)
    (case l23 => k_is)
    (case c23 => k_is)
    (case k23 => k_is)
    (case a24 => k_is)
    (case l24 => k_is)
    (case c24 => k_is)
    (case k24 => k_is)
    (case a25 => k_is)
    (case l25 => k_is)
    (case c25 => k_is)
    (case k25 => k_is)
    (case a26 => k_is)
    (case l26 => k_is)
    (case c26 => k_is)
    (case k26 => k_is)
    (case a27 => k_is)
    (case l27 => k_is)
    (case c27 => k_is)
    (case k27 => k_is)
    (case a28 => k_is)
    (case l28 => k_is)
    (case c28 => k_is)
    (case k28 => k_is)
    (case a29 => k_is)
    (case l29 => k_is)
    (case c29 => k_is)
    (case k29 => k_is)
    (case a30 => k_is)
    (case l30 => k_is)
    (case c30 => k_is)
    (case k30 => k_is)
    (case a31 => k_is)
    (case l31 => k_is)
    (case c31 => k_is)
    (case k31 => k_is)
    (case a32 => k_is)
    (case l32 => k_is)
    (case c32 => k_is)
    (case k32 => k_is)
    (case a33 => k_is)
    (case l33 => k_is)
    (case c33 => k_is)
    (case k33 => k_is)
    (case a34 => k_is)
    (case l34 => k_is)
    (case c34 => k_is)
    (case k34 => k_is)
    (case a35 => k_is)
    (case l35 => k_is)
    (case c35 => k_is)
    (case k35 => k_is)
    (case a36 => k_is)
    (case l36 => k_is)
    (case c36 => k_is)
    (case k36 => k_is)
    (case a37 => k_is)
    (case l37 => k_is)
    (case c37 => k_is)
    (case k37 => k_is)
    (case a38 => k_is)
    (case l38 => k_is)
    (case c38 => k_is)
    (case k38 => k_is)
    (case a39 => k_is)
    (case l39 => k_is)
    (case c39 => k_is)
    (case k39 => k_is)
    (case a40 => k_is)
    (case l40 => k_is)
    (case c40 => k_is)
    (case k40 => k_is)
    (case a41 => k_is)
    (case l41 => k_is)
    (case c41 => k_is)
    (case k41 => k_is)
    (case a42 => k_is)
    (case l42 => k_is)
    (case c42 => k_is)
    (case k42 => k_is)
    (case z_len => k_is)
    (case z_abs => k_is)
    (case z_sum => k_is)
    (case z_max => k_is)
    (case z_isinstance => k_is)
    (case z_int => k_is)
    (case z_list => k_is)
    (case z_tuple => k_is)
    (case z_bool => k_is)
    (case z_range => k_is)
    (case z_enumerate => k_is)
    (case z_reversed => k_is)
    (case z_ValueError => k_is)
    (case z_gcd => k_is)
    (case y_ZERO => k_is)
    (case l_ZERO => k_is)
    (case y_ONE => k_is)
    (case l_ONE => k_is)
    (case y_SteelyardError => k_is)
    (case k_SteelyardError => k_is)
    (case i_SteelyardError => k_is)
    (case h_SteelyardError => k_is)
    (case y_LimitError => k_is)
    (case k_LimitError => k_is)
    (case i_LimitError => k_is)
    (case h_LimitError => k_is)
    (case y_ZeroBelow => k_is)
    (case k_ZeroBelow => k_is)
    (case i_ZeroBelow => k_is)
    (case h_ZeroBelow => k_is)
    (case x_ZeroBelow => k_exc)
    (case bs_ZeroBelow => k_is)
    (case s_ZeroBelow => first | rfl | k_is)
    (case x1_ZeroBelow => k_is)
    (case x2_ZeroBelow => k_is)
    (case x3_ZeroBelow => k_is)
    (case x4_ZeroBelow => k_is)
    (case x5_ZeroBelow => k_is)
    (case x6_ZeroBelow => k_is)
    (case x7_ZeroBelow => k_is)
    (case y_WrongWidth => k_is)
    (case k_WrongWidth => k_is)
    (case i_WrongWidth => k_is)
    (case h_WrongWidth => k_is)
    (case q_ZeroBelow_LimitError => k_is)
    (case q_ZeroBelow_WrongWidth => k_is)
    (case q_ZeroBelow_SteelyardError => k_is)
    (case q_ZeroBelow_ValueError => k_is)

