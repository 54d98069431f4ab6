import PyProof.Rows.All
import Wide.All
import OpenK.AllK
import Wide.FinOn
import HandS.ForMost
import HandS.ForExc
import HandS.Wide
import HandS.Gcd
import HandS.Defaults
import HandS.TupAny
import HandS.TupMul
import HandS.Rev
import HandS.Zip
import HandS.IsInst
import HandS.ExcIs
import HandS.TryMany
import HandS.Walk
import HandS.Evl
import KE.GoesEnum
import KE.GoesMore
import HandS.ExcSuper
import KE.KSuper
import KE.KExcSuper
import HandS.Property
import KE.GoesZip
import KE.KExcIs
import KE.GoesRaise
import HandS.Steps
import KE.KDictZip
import HandS.Star
import PyProof.CollectWalk
import PyProof.TupleOfGen
import HandS.ExcValue
import PySem.Challenge.RW_steelyard_k01_basis_history_and_rows
set_option Elab.async false
set_option linter.all false
set_option maxRecDepth 100000
set_option maxHeartbeats 4000000
/-! own additions to the hand layer, law by law the same -/
namespace Ly
open PySem PySem.Spec PyProof.Rows L2

/-! ### a walk over a list or a tuple -/
def iSeqA (K : PySem.W.Frag) (tl : TE) : TI := fun σ H R => tl σ H fun x H1 => ∃ (a : Addr) (xs : List V), x = .ref a ∧ ((SqL K H1 a xs ∧ R (Itl K a) H1) ∨ (SqT K H1 a xs ∧ R (Itt K a) H1))
theorem pi_seqA {X : Cx} {tg l : Expr} {tl : TE} (hl : PE X l tl) : PI X tg l (iSeqA X.K tl) := by
  refine ⟨fun pins s σ H R I h => ?_⟩
  refine thn (hl.run pins s σ H _ I h) fun v s1 hh => ?_
  obtain ⟨x, H1, I1, r1, a, xs, e, q⟩ := hh
  subst e
  cases r1
  rcases q with ⟨hq, q⟩ | ⟨hq, q⟩
  · obtain ⟨its, rv, p, hz⟩ := I1.list hq
    exact wpAny_pyIter_list p.isList (pi_one (tk := s1.toks) I1 _ (turn_list a _) ⟨_, Heap.get?_push_size _ rfl, rfl, rfl⟩ q)
  · obtain ⟨its, rv, p, hz⟩ := I1.tuple hq
    exact wpAny_pyIter_tuple (show s1.heap.IsTuple a its.toArray from p) (pi_one (tk := s1.toks) I1 _ (turn_tuple a _) ⟨_, Heap.get?_push_size _ rfl, rfl, rfl⟩ q)

/-! ### enumerate of a tuple -/
def IteT (K : PySem.W.Frag) (a : Addr) : It :=
  ⟨fun i H => ∃ (xs : List V) (x : V), SqT K H a xs ∧ xs[i]? = some x,
   fun i H v H' => ∃ T x, v = .ref T ∧ H T = none ∧ H' = upd H T (.tup [.int (i : Nat), x]) ∧ ∀ xs, SqT K H a xs → xs[i]? = some x,
   fun i H => ∃ xs : List V, SqT K H a xs ∧ xs.length ≤ i⟩
theorem tup_ne_iter {h : Heap} {a it t : Addr} {i : Nat} {its : Array Value} (p : IsTup h a its) (q : h.IsTupleIter it t i) : a ≠ it := by
  rintro rfl
  obtain ⟨o, e, c, _⟩ := p
  obtain ⟨o', e', c', _⟩ := q
  rw [e] at e'; cases e'
  rw [c] at c'
  exact absurd c' (by decide +kernel)
theorem turn_enumT {P : Program} {w : World} {K : PySem.W.Frag} {elts : List Expr} {kk : Nat} {tpos : Pos} (a e it : Addr) :
    Turn P w K (.Tuple elts kk tpos) (IteT K a) [e, it] e (fun i h => (∃ old, IsEnum h e it ((i : Nat) : Int) old) ∧ h.IsTupleIter it a i ∧ e ≠ it) where
  mem := by simp
  obj := fun i h st b hb => by
    obtain ⟨⟨old, he⟩, ⟨o, ho, _, hd⟩, _⟩ := st
    rcases (show b = e ∨ b = it by simpa using hb) with z | z
    · rw [z]; exact ⟨_, he, fun v q => nomatch q⟩
    · rw [z]; exact ⟨o, ho, fun v q => by rw [hd] at q; cases q⟩
  keep := fun i h h' st k => by
    obtain ⟨⟨old, he⟩, hi, hne⟩ := st
    exact ⟨⟨old, k e (by simp) _ he⟩, hi.at fun o q => k it (by simp) o q, hne⟩
  item := by
    intro X hP hw hK hc i pins s σ H E I hf st hg
    subst hP hw hK
    obtain ⟨⟨old, he⟩, hit, hne⟩ := st
    obtain ⟨xs, x, hq, hx⟩ := hg
    obtain ⟨its, rv, p, hz⟩ := I.tuple hq
    obtain ⟨u, hu, ru⟩ := rv.get hx
    have hel : e < s.heap.objs.size := Heap.lt_size he
    have hil : it < s.heap.objs.size := by obtain ⟨_, q, _⟩ := hit; exact Heap.lt_size q
    have hai : a ≠ it := tup_ne_iter p hit
    have hae : e ≠ a := by
      rintro rfl
      obtain ⟨o, e1, c, _⟩ := p
      rw [he] at e1; cases e1
      exact absurd (show Value.type "enumerate" = Value.type "tuple" from c) (by decide +kernel)
    have hlt : i < its.toArray.size := by
      have := (List.getElem?_eq_some_iff.mp hu).1
      simpa using this
    have D := Draws.tuple (prog := X.prog) (w := X.w) (A := X.A.in1) (show X.A.in1.handled = none from I.ok.hd hc) it a hai its.toArray
    refine wpAny_pyNext_enum_itemD D he ⟨hit, p⟩ hlt hne (by simp [hne, hae]) fun x' h' tk hx' ho hst' hT hsz hk => ?_
    obtain ⟨hit', -⟩ := hst'
    have ex : x' = u := by
      have h1 : its.toArray[i]? = some x' := hx'
      have h2 : its.toArray[i]? = some u := by simpa using hu
      rw [h1] at h2
      exact Option.some.inj h2
    subst ex
    refine ⟨_, rfl, wpAny_letOwnedTupleGo_enum (s := { s with heap := h', toks := tk + 1 }) ho fun h'' he' sb => ?_⟩
    have hT2 : h''.get? s.heap.objs.size = some { cls := .type "tuple", data := .seq #[.int i tk, x'] } := (sb.2 _ (Nat.ne_of_gt hel)).trans hT
    have new : ObjOk X.prog X.w (upd H s.heap.objs.size (.tup [.int (i : Nat), x])) h'' s.heap.objs.size (.tup [.int (i : Nat), x]) :=
      ⟨by show 2 ≤ sizeLine; decide, [.int i tk, x'], .cons ⟨_, rfl⟩ (.cons ru .nil), ⟨_, hT2, rfl, _, rfl⟩⟩
    have I1 : Inv X pins σ (upd H s.heap.objs.size (.tup [.int (i : Nat), x])) { s with heap := h'', toks := tk + 1 } :=
      I.turnedNew (ch := [e, it]) (fun b ob hb q => (sb.2 b (fun z => hb (by simp [z]))).trans (hk b ob (fun z => hb (by simp [z])) (fun z => hb (by simp [z])) q)) hf (Nat.le_refl _) new
    refine ⟨.ref s.heap.objs.size, _, I1, rfl, ⟨_, x, rfl, I.hok.fresh (Nat.le_refl _), rfl, fun ys hy => by rw [I.tuple_inj hy hq]; exact hx⟩, ⟨⟨x', ?_⟩, hit'.at fun o q => (sb.2 it (Ne.symm hne)).trans q, hne⟩, fun b hb => ?_⟩
    · rw [show ((i + 1 : Nat) : Int) = (i : Int) + 1 by omega]
      exact he'
    · have hb' : b < s.heap.objs.size := by
        rcases (show b = e ∨ b = it by simpa using hb) with z | z
        · rw [z]; exact hel
        · rw [z]; exact hil
      rw [upd_ne (Nat.ne_of_lt hb')]
      exact (hf b hb).1
  done := by
    intro X hP hw hK hc i pins s σ H E I hf st hg
    subst hP hw hK
    obtain ⟨⟨old, he⟩, hit, hne⟩ := st
    obtain ⟨xs, hq, hx⟩ := hg
    obtain ⟨its, rv, p, hz⟩ := I.tuple hq
    obtain ⟨f0, f1, f2, f3, f4, f5⟩ := hf it (by simp)
    have hl := rv.length
    have hai : a ≠ it := tup_ne_iter p hit
    have D : Draws X.prog X.w X.A.in1 it [it, a] i (fun _ _ => False) (fun j h => j = i ∧ h.IsTupleIter it a j ∧ h.IsTuple a its.toArray) :=
      { live := fun _ _ st => by
          obtain ⟨_, ⟨o, ho, _⟩, _⟩ := st
          exact ⟨o, ho⟩
        frame := fun _ _ _ st hk => ⟨st.1, st.2.1.at fun o e => hk it (by simp) o e, st.2.2.at fun o e => hk a (by simp) o e⟩
        item := fun j s Q E hj st hQ => absurd st.1 (Nat.ne_of_lt hj)
        done := fun s Q E st hE => wpAny_nextOf_tuple_end (show X.A.in1.handled = none from I.ok.hd hc) st.2.1 st.2.2 (by simp; omega) hE }
    exact wpAny_pyNext_enum_endD D he ⟨rfl, hit, p⟩ fun h' eb => ⟨rfl, I.turned (t' := s.toks) (fun b o hb q => eb b o hb q) f0 f1 f3 f4 f5⟩
  self := fun A i s Q E st h => by
    obtain ⟨⟨_, he⟩, _⟩ := st
    exact wpAny_pyIter_enum he h
/-! ### enumerate(list or tuple) -/
theorem typeIs_enum1 (t : Addr) (items : Array Value) (n : Nat) (dct : Option Addr) (sl : Array (Option Value)) :
    Meets (Builtin.«enumerate.__new__» ⟨[.type "enumerate", .ref t], []⟩) (fun _ R s => s.heap.get? t = some { cls := .type "tuple", dict := dct, data := .seq items n, slots := sl } ∧
      R (.ok (.ret (.ref (s.heap.push { cls := .type "tuple_iterator", data := .fields #[.ref t, .int 0 0] }).objs.size)))
        { s with heap := (s.heap.push { cls := .type "tuple_iterator", data := .fields #[.ref t, .int 0 0] }).push { cls := .type "enumerate", data := .fields #[.none, .bool false, .ref s.heap.objs.size, rawInt 0, .none, .none] } }) :=
  .of_wp fun prog w A R s h => by
    obtain ⟨hp, g, d, tk, os⟩ := s; obtain ⟨hl, h⟩ := h
    have hsub := sub_enumerate
    have hT : (Shared.heap ⟨hp, g, d, tk, os⟩).IsTuple t items := ⟨_, hl, rfl, n, rfl⟩
    have q1 : ∀ {A' : Around} {E : Value → Shared → Prop} {Q : Value → Shared → Prop}, Q (.ref hp.objs.size) ⟨hp.push { cls := .type "tuple_iterator", data := .fields #[.ref t, .int 0 0] }, g, d, tk, os⟩ → wpAny (model prog w) A' (pyIter (.ref t)) Q E ⟨hp, g, d, tk, os⟩ :=
      fun q => wpAny_pyIter_tuple hT q
    wp_walk using q1
    refine wpAny_stack_any fun st => wpAny_pure ?_
    split
    · rename_i c _ _ _ _ _
      cases (c == Value.type "enumerate")
      · wp_walk using q1
        exact ⟨_, rfl, h⟩
      · wp_walk using q1
        exact ⟨_, rfl, h⟩
    · wp_walk using q1
      exact ⟨_, rfl, h⟩
theorem call_enumT {prog : Program} {w : World} {A : Around} {E : Value → Shared → Prop} {s : Shared} {t : Addr} {items : Array Value} {Q : Value → Shared → Prop} (hT : s.heap.IsTuple t items)
    (h : ∀ h', IsEnum h' (s.heap.objs.size + 1) s.heap.objs.size 0 .none → h'.IsTupleIter s.heap.objs.size t 0 →
      (∀ b o, s.heap.get? b = some o → h'.get? b = some o) → Q (.ref (s.heap.objs.size + 1)) { s with heap := h' }) :
    wpAny (model prog w) A (call (.type "enumerate") [.ref t]) Q E s := by
  obtain ⟨⟨c, dct, dt, sl⟩, hl, hc, n, hd⟩ := hT
  replace hc : c = .type "tuple" := hc
  replace hd : dt = .seq items n := hd
  subst hc hd
  refine callType_new F.called_enumerate (by decide) (F.typeCall_enumerate_1 _) (F.newCall_enumerate_1 _) (fun obj => F.args_object_init_2 obj _) F.entry_enumerate_new
    (typeIs_enum1 t items n dct sl) ⟨hl, ?_⟩
  have hz : (s.heap.push { cls := .type "tuple_iterator", data := .fields #[.ref t, .int 0 0] }).objs.size = s.heap.objs.size + 1 := Heap.size_push ..
  show _ ∧ _
  rw [hz]
  have he : IsEnum ((s.heap.push { cls := .type "tuple_iterator", data := .fields #[.ref t, .int 0 0] }).push
      { cls := .type "enumerate", data := .fields #[.none, .bool false, .ref s.heap.objs.size, rawInt 0, .none, .none] }) (s.heap.objs.size + 1) s.heap.objs.size 0 .none := by
    have := Heap.get?_push_size (s.heap.push { cls := .type "tuple_iterator", data := .fields #[.ref t, .int 0 0] }) (o := { cls := .type "enumerate", data := .fields #[.none, .bool false, .ref s.heap.objs.size, rawInt 0, .none, .none] }) rfl
    rw [hz] at this; exact this
  exact ⟨⟨_, he, rfl⟩, h _ he ⟨_, Heap.get?_push_of_some _ (Heap.get?_push_size _ rfl), rfl, rfl⟩ fun b o x => Heap.get?_push_of_some _ (Heap.get?_push_of_some _ x)⟩
def iEnumA (K : PySem.W.Frag) (ta : TA) : TI := fun σ H R => ta σ H fun vs H1 => ∃ (a : Addr) (xs : List V), vs = [.ref a] ∧ ((SqL K H1 a xs ∧ R (Ite K a) H1) ∨ (SqT K H1 a xs ∧ R (IteT K a) H1))
theorem pi_enumA {X : Cx} {e : Expr} {ta : TA} {p pos tpos : Pos} {elts : List Expr} {kk : Nat} (hg : Gl X "enumerate") (hm : X.mg "enumerate" = none) (ha : PA X [e] ta) (hs : starEach [e] X.env = [(false, eval e X.env)] := by rfl) :
    PI X (.Tuple elts kk tpos) (.Call (.Name "enumerate" p) [e] [] pos) (iEnumA X.K ta) := by
  refine ⟨fun pins s σ H R I h => ?_⟩
  refine Call_ (ld_blt I hg hm boot_enumerate (PyProof.Rows.callWith_type1 (thn (ha.run pos pins s σ H _ I h) fun us s1 hh => ?_) hs rfl))
  obtain ⟨vs, H1, I1, r1, a, xs, ex, q⟩ := hh
  subst ex
  obtain ⟨u, rfl, ru⟩ := vals1 r1
  cases ru
  have fresh2 : ∀ b ∈ [s1.heap.objs.size + 1, s1.heap.objs.size], FpOk X pins H1 b := fun b hb => by
    have hle : s1.heap.objs.size ≤ b := by
      rcases (show b = s1.heap.objs.size + 1 ∨ b = s1.heap.objs.size by simpa using hb) with z | z <;> omega
    exact I1.fpOk hle (I1.hok.fresh hle)
  rcases q with ⟨hq, q⟩ | ⟨hq, q⟩
  · obtain ⟨its, rv, p', hz⟩ := I1.list hq
    refine call_enumerate_list p'.isList fun h' he hit hsz hk => wpAny_pyIter_enum he ?_
    exact ⟨s1.heap.objs.size + 1, [s1.heap.objs.size + 1, s1.heap.objs.size], _, _, H1, rfl, I1.kept (t' := s1.toks) hk, turn_enum a _ _, ⟨⟨.none, he⟩, hit, Nat.succ_ne_self _⟩, fresh2, q⟩
  · obtain ⟨its, rv, p', hz⟩ := I1.tuple hq
    refine call_enumT (show s1.heap.IsTuple a its.toArray from p') fun h' he hit hk => wpAny_pyIter_enum he ?_
    exact ⟨s1.heap.objs.size + 1, [s1.heap.objs.size + 1, s1.heap.objs.size], _, _, H1, rfl, I1.kept (t' := s1.toks) hk, turn_enumT a _ _, ⟨⟨.none, he⟩, hit, Nat.succ_ne_self _⟩, fresh2, q⟩
/-- the tuple's walk -/
theorem walk_enumT {K : PySem.W.Frag} {a : Addr} {xs : List V} : Walk (IteT K a) xs.length (fun H => SqT K H a xs) (YPair (fun i => some (.int (i : Nat))) (fun i => xs[i]?)) := by
  refine ⟨fun i _ hi q => ⟨xs, xs[i], q, by simp [hi]⟩, fun _ q => ⟨xs, q, Nat.le_refl _⟩, fun i H v H' _ q y => ?_⟩
  obtain ⟨T, x, h1, h2, h3, h4⟩ := y
  exact ⟨T, .int (i : Nat), x, h1, h2, h3, rfl, h4 xs q⟩
theorem walk_revT {K : PySem.W.Frag} {a : Addr} {xs : List V} : Walk (RT.ItvT K a xs.length) xs.length (fun H => SqT K H a xs) (fun i H x H' => H' = H ∧ xs[xs.length - 1 - i]? = some x) :=
  ⟨fun i _ hi q => ⟨hi, xs, xs[xs.length - 1 - i]'(by omega), q, by simp [show xs.length - 1 - i < xs.length by omega]⟩, fun _ _ => Nat.le_refl _, fun _ _ _ _ _ q y => ⟨y.1, y.2 xs q⟩⟩

/-! ### a list or a tuple, whichever -/
def Sq (K : PySem.W.Frag) (H : Hp) (a : Addr) (xs : List V) : Prop := SqL K H a xs ∨ SqT K H a xs
/-- what stands at a stays -/
def Kept (H H' : Hp) (a : Addr) : Prop := ∀ o, H a = some o → H' a = some o
theorem Kept.rd {H H' : Hp} {a : Addr} {u : HO} (k : Kept H H' a) (h : Rd H a u) : Rd H' a u := by
  rcases h with h | ⟨o, h⟩
  · exact .inl (k _ h)
  · exact .inr ⟨o, k _ h⟩
theorem Kept.l {K : PySem.W.Frag} {H H' : Hp} {a : Addr} {xs : List V} (k : Kept H H' a) (h : SqL K H a xs) : SqL K H' a xs := h.elim (fun h => .inl (k.rd h)) .inr
theorem Kept.t {K : PySem.W.Frag} {H H' : Hp} {a : Addr} {xs : List V} (k : Kept H H' a) (h : SqT K H a xs) : SqT K H' a xs := h.elim (fun h => .inl (k.rd h)) .inr
theorem Kept.sq {K : PySem.W.Frag} {H H' : Hp} {a : Addr} {xs : List V} (k : Kept H H' a) (h : Sq K H a xs) : Sq K H' a xs := h.elim (fun h => .inl (k.l h)) fun h => .inr (k.t h)
theorem seqA_go {K : PySem.W.Frag} {H : Hp} {a : Addr} {xs : List V} {R : It → Hp → Prop} (h : Sq K H a xs)
    (k : ∀ (J : It) (G : Hp → Prop), (∀ H', Kept H H' a → G H') → Walk J xs.length G (YAt xs) → R J H) :
    ∃ (a' : Addr) (ys : List V), V.ref a = .ref a' ∧ ((SqL K H a' ys ∧ R (Itl K a') H) ∨ (SqT K H a' ys ∧ R (Itt K a') H)) := by
  rcases h with h | h
  · exact ⟨a, xs, rfl, .inl ⟨h, k _ _ (fun H' q => q.l h) walk_list⟩⟩
  · exact ⟨a, xs, rfl, .inr ⟨h, k _ _ (fun H' q => q.t h) walk_tup⟩⟩
theorem enumA_go {K : PySem.W.Frag} {H : Hp} {a : Addr} {xs : List V} {R : It → Hp → Prop} (h : Sq K H a xs)
    (k : ∀ (J : It) (G : Hp → Prop), (∀ H', Kept H H' a → G H') → Walk J xs.length G (YPair (fun i => some (.int (i : Nat))) (fun i => xs[i]?)) → R J H) :
    ∃ (a' : Addr) (ys : List V), [V.ref a] = [.ref a'] ∧ ((SqL K H a' ys ∧ R (Ite K a') H) ∨ (SqT K H a' ys ∧ R (IteT K a') H)) := by
  rcases h with h | h
  · exact ⟨a, xs, rfl, .inl ⟨h, k _ _ (fun H' q => q.l h) walk_enum⟩⟩
  · exact ⟨a, xs, rfl, .inr ⟨h, k _ _ (fun H' q => q.t h) walk_enumT⟩⟩
theorem revA_go {K : PySem.W.Frag} {H : Hp} {a : Addr} {xs : List V} {R : It → Hp → Prop} (h : Sq K H a xs)
    (k : ∀ (J : It) (G : Hp → Prop), (∀ H', Kept H H' a → G H') → Walk J xs.length G (fun i H x H' => H' = H ∧ xs[xs.length - 1 - i]? = some x) → R J H) :
    ∃ (a' : Addr) (ys : List V), V.ref a = .ref a' ∧ ((SqL K H a' ys ∧ R (Itv K a' ys.length) H) ∨ (SqT K H a' ys ∧ R (RT.ItvT K a' ys.length) H)) := by
  rcases h with h | h
  · exact ⟨a, xs, rfl, .inl ⟨h, k _ _ (fun H' q => q.l h) walk_rev⟩⟩
  · exact ⟨a, xs, rfl, .inr ⟨h, k _ _ (fun H' q => q.t h) walk_revT⟩⟩

/-! ### operators over several kinds -/
section
variable {X : Cx}
def rAddU (K : PySem.W.Frag) : R2 := fun x y H Q => ((rI0 fun i j => .int (i + j)) x y H Q ∨ ∃ i j, x = .str i ∧ y = .str j ∧ i.length + j.length ≤ sizeLine ∧ Q (.str (i ++ j)) H) ∨ (rCat x y H Q ∨ rCatA K x y H Q)
theorem op_addU : OpR X (binaryOp .Add) (rAddU X.K) :=
  (op_add.or op_add_str).or (op_cat.or op_catA)
/-- * of two ints of n and m bits, together below 134,000,000 -/
def CMulB (i j : Int) : Prop := ∃ n m : Nat, i.natAbs < 2 ^ n ∧ j.natAbs < 2 ^ m ∧ n + m ≤ 134000000
theorem bits_of {x : Int} {n : Nat} (hx : x.natAbs < 2 ^ n) : Builtin.Int.intBits x ≤ n + 1 := by
  unfold Builtin.Int.intBits
  split
  · omega
  · rcases Nat.eq_zero_or_pos n with e | e
    · subst e
      have : x.natAbs = 0 := by simpa using hx
      have h2 : x.natAbs.log2 = 0 := by rw [this]; decide
      omega
    · have := PySem.Flt.log2_lt_of e hx
      omega
theorem op_mulB : OpR X (binaryOp .Mult) (rI CMulB fun i j => .int (i * j)) := opI fun i j _ _ _ _ _ hc q => by
  refine mul_int q ?_
  obtain ⟨n, m, h1, h2, h3⟩ := hc
  have b1 := bits_of h1
  have b2 := bits_of h2
  have e : bitsLine = 134217728 := by decide
  unfold IntMulOk
  intro z
  rw [Bool.and_eq_true] at z
  have z2 := z.2
  unfold Builtin.Int.intTooBig at z2
  have z3 := of_decide_eq_true z2
  rw [e] at z3
  omega
/-- tuple * 1, tuple * 0 or less -/
theorem tuple_mul1 (l : Addr) (items : Array Value) (n : Nat) (dd : Option Addr) (sl : Array (Option Value)) (x : Int) (u : Tok) (hx : x = 1) :
    Meets (Builtin.«tuple.__mul__» ⟨[.ref l, .int x u], []⟩) (fun _ R s => s.heap.get? l = some { cls := .type "tuple", dict := dd, data := .seq items n, slots := sl } ∧ R (.ok (.ret (.ref l))) s) :=
  .of_wp fun prog w A R s h => by
    obtain ⟨hp, g, d, tk, os⟩ := s
    obtain ⟨hl, h⟩ := h
    subst hx
    have f1 := AutoSeq1.idx_int
    wp_walk using AutoSeq1.wpAny_loadPart' hl
    repeat (first
      | (refine wpAny_ite_true (by simp) ?_; wp_walk using AutoSeq1.wpAny_loadPart' hl)
      | (refine wpAny_ite_false (by simp) ?_; wp_walk using AutoSeq1.wpAny_loadPart' hl))
    exact ⟨_, rfl, h⟩
theorem tuple_mul0 (l : Addr) (items : Array Value) (n : Nat) (dd : Option Addr) (sl : Array (Option Value)) (x : Int) (u : Tok) (hx : x ≤ 0) (hx2 : -1000000 ≤ x) (hi : items.isEmpty = false) :
    Meets (Builtin.«tuple.__mul__» ⟨[.ref l, .int x u], []⟩) (fun _ R s => s.heap.get? l = some { cls := .type "tuple", dict := dd, data := .seq items n, slots := sl } ∧
      R (.ok (.ret (Value.ref s.heap.objs.size))) { s with heap := s.heap.push { cls := Value.type "tuple", data := Data.seq #[] } }) :=
  .of_wp fun prog w A R s h => by
    obtain ⟨hp, g, d, tk, os⟩ := s
    obtain ⟨hl, h⟩ := h
    have f1 := AutoSeq1.idx_int
    have c0 : (decide (x < -(2 ^ 63)) || decide (x ≥ 2 ^ 63)) = false := by
      rw [decide_eq_false (by omega), decide_eq_false (by omega)] <;> rfl
    have c1 : (items.isEmpty || x == 1) = false := by
      rw [hi, Bool.false_or]
      exact beq_eq_false_iff_ne.mpr (by omega)
    have c2 : (decide (x ≤ 0) || items.isEmpty) = true := by rw [decide_eq_true hx, Bool.true_or]
    wp_walk using AutoSeq1.wpAny_loadPart' hl
    repeat (first
      | (refine wpAny_ite_false (decide_eq_false (by rw [c0]; exact Bool.false_ne_true)) ?_; wp_walk using AutoSeq1.wpAny_loadPart' hl)
      | (refine wpAny_ite_false (decide_eq_false (by rw [c1]; exact Bool.false_ne_true)) ?_; wp_walk using AutoSeq1.wpAny_loadPart' hl)
      | (refine wpAny_ite_true (decide_eq_true (by rw [c2])) ?_; wp_walk using AutoSeq1.wpAny_loadPart' hl))
    exact ⟨_, rfl, h⟩
/-- tuple * int, the tuple not empty -/
def rRepA (K : PySem.W.Frag) : R2 := fun x y H Q => ∃ l k xs, x = .ref l ∧ y = .int k ∧ SqT K H l xs ∧ xs ≠ [] ∧ (-1000000 ≤ k ∧ k ≤ 1000) ∧ xs.length ≤ 1000 ∧
  (k = 1 → Q (.ref l) H) ∧ (k ≠ 1 → ∀ p, H p = none → Q (.ref p) (upd H p (.tup (List.replicate k.toNat xs).flatten)))
theorem op_repA : OpR X (binaryOp .Mult) (rRepA X.K) := by
  intro pins s σ H x y v u Q I rx ry h
  obtain ⟨l, k, xs, rfl, rfl, hT, hne, ⟨h1, h2⟩, hz, q1, q2⟩ := h
  by_cases hk : 2 ≤ k
  · exact op_repT pins s σ H _ _ v u Q I rx ry ⟨l, k, xs, rfl, rfl, hT, hne, hk, h2, hz, q2 (by omega)⟩
  cases rx
  obtain ⟨t, rfl⟩ := ry
  obtain ⟨its, r, ⟨⟨cls, dd, data, sl⟩, ho, hc, n, hd⟩, hs⟩ := I.tuple hT
  simp only at hc hd
  subst hc hd
  have hi : its.toArray.isEmpty = false := by
    cases r with
    | nil => exact absurd rfl hne
    | cons a b => rfl
  by_cases h3 : k = 1
  · refine wpAny_binaryOp_repeat_ref (T := "tuple") (U := "int") (by decide) ⟨_, ho, rfl⟩ (fun s' => typeIs_int s' k t) noFill_tuple_mul F.fills_int_mul F.slot_int_rmul repeat_tuple F.slot_int_index.lookup
      (call_meets F.slot_int_rmul (typeIs_int s k t) F.entry_int_rmul (F.args_int_rmul_2 _ _) (int_rmul_tuple k t l its.toArray n dd sl)
        ⟨ho, rfl, ⟨_, ho, rfl⟩, call_meets F.slot_tuple_mul ⟨_, ho, rfl⟩ F.entry_tuple_mul (F.args_tuple_mul_2 _ _) (tuple_mul1 l its.toArray n dd sl k t h3) ⟨ho, ?_⟩⟩)
    exact ⟨.ref l, H, I, rfl, q1 h3⟩
  · refine wpAny_binaryOp_repeat_ref (T := "tuple") (U := "int") (by decide) ⟨_, ho, rfl⟩ (fun s' => typeIs_int s' k t) noFill_tuple_mul F.fills_int_mul F.slot_int_rmul repeat_tuple F.slot_int_index.lookup
      (call_meets F.slot_int_rmul (typeIs_int s k t) F.entry_int_rmul (F.args_int_rmul_2 _ _) (int_rmul_tuple k t l its.toArray n dd sl)
        ⟨ho, rfl, ⟨_, ho, rfl⟩, call_meets F.slot_tuple_mul ⟨_, ho, rfl⟩ F.entry_tuple_mul (F.args_tuple_mul_2 _ _) (tuple_mul0 l its.toArray n dd sl k t (by omega) h1 hi) ⟨ho, ?_⟩⟩)
    have e : (List.replicate k.toNat xs).flatten = [] := by
      rw [show k.toNat = 0 by omega]; rfl
    have q := q2 h3
    rw [e] at q
    exact ⟨.ref s.heap.objs.size, _, I.laid (t' := s.toks) (o := .tup []) (fun b ob z => Heap.get?_push_of_some _ z) (Nat.le_refl _) ⟨by show 0 ≤ sizeLine; exact Nat.zero_le _, [], .nil, ⟨_, Heap.get?_push_size _ rfl, rfl, _, rfl⟩⟩, rfl, q _ (I.hok.fresh (Nat.le_refl _))⟩
theorem op_mulAB : OpR X (binaryOp .Mult) (rI (fun i j => CMul i j ∨ CMulB i j) fun i j => .int (i * j)) := by
  intro pins s σ H x y v u Q I rx ry h
  obtain ⟨i, j, h1, h2, hc, q⟩ := h
  rcases hc with hc | hc
  · exact op_mul pins s σ H x y v u Q I rx ry ⟨i, j, h1, h2, hc, q⟩
  · exact op_mulB pins s σ H x y v u Q I rx ry ⟨i, j, h1, h2, hc, q⟩
def rMulU (K : PySem.W.Frag) : R2 := fun x y H Q => (rI (fun i j => CMul i j ∨ CMulB i j) fun i j => .int (i * j)) x y H Q ∨ rRepA K x y H Q
theorem op_mulU : OpR X (binaryOp .Mult) (rMulU X.K) := op_mulAB.or op_repA

/-! ### // of any size: room for _pylong's road -/
def rFdU : R2 := rI (fun _ j => j ≠ 0) fun i j => .int (i.fdiv j)
def rMoU : R2 := rI (fun _ j => j ≠ 0) fun i j => .int (i.fmod j)
theorem op_modU : OpR X (binaryOp .Mod) rMoU := op_modN
theorem op_fdivP {k : Nat} (hs : X.base.NoSeer) (hr : Room k X.A) (hk : 33 ≤ k := by decide) (ht : X.prog.given.tree = none := by rfl)
    (he : ∃ (env : Env) (l : List Env), X.stack = env :: l ∧ env.scope.isGenerator = false ∧ env.scope.isCoroutine = false ∧ env.builtins = builtinsNs ∧ env.globals = mainGlobals := by exact ⟨_, _, rfl, rfl, rfl, rfl, rfl⟩) :
    OpR X (binaryOp .FloorDiv) rFdU := by
  intro pins s σ H x y v u Q I rx ry h
  obtain ⟨i, j, rfl, rfl, hc, q⟩ := h
  obtain ⟨t, rfl⟩ := rx
  obtain ⟨t', rfl⟩ := ry
  obtain ⟨env, l, e1, e2, e3, e4, e5⟩ := he
  have hfr : X.A.frames = some (env :: l) := by rw [I.ok.frames, e1]
  have hd : X.A.depth + Builtin.pylongFrames < recursionLimit := by
    have := hr.dp
    have e : Builtin.pylongFrames = 100 := rfl
    omega
  exact floordiv_int hc ⟨.int _, H, I.tok _, ⟨_, rfl⟩, q⟩ (.inr (PylongRoom.of I.nolimit hd (SeerAt.of (hs.keeps I.bk) ht hfr e2 e3 e4 e5)))

/-! ### an own exception without arguments; try .. except X as n with further clauses that are not met -/
theorem pmk_own0 {C : Addr} {bmB : List Value} {B newId initId : String} {x : Str} {p pos : Pos} (F : ExcBaseFacts B newId initId bmB) (q : PySem.W.excIn X.K C bmB newId = true) (gC : X.mg x = some (.ref C)) (kC : PySem.W.keepIn X.K (.ref C) = true)
    (r : Raises X (.ref C)) (hg : Gl X x) (hdb : (x == ("__debug__" : Str)) = false := by decide) : PMk X (.Call (.Name x p) [] [] pos) (fun _ H Q => Q (.ref C) none H) := by
  intro pins s σ H Q I h
  refine wpAny_Call_Name_kw (ld_glob I hg gC ?_ hdb)
  refine PySem.W.callWith_K0 I.kIn kC ?_
  obtain ⟨bm, N, nm, qn, bs, hdct, sn, sub, ab, col, dd, k0, k1, k2, k3, k5, mN, hC, hN, hni, T⟩ := exc_obj I.kIn q
  exact wpAny_call_exc_subT F T hC hN hni (fun h' e hm => mk_of I hm r h (I.hok.gone hm.new)) (Nat.zero_le _)
/-- what the first clause wishes: it is its class -/
def wAs1 (K : PySem.W.Frag) (c : Value) (i : Nat) (ts : Addr → Value → Option Addr → TS) (D : Ends) : WX := fun cls d σ H =>
  PySem.W.exmOne K cls c = some true ∧ ∀ a, H a = none → ts a cls d { nx := fun σ' H' => D.nx (σ'.set i none) H', rt := D.rt, bk := fun σ' H' => D.bk (σ'.set i none) H', ct := fun σ' H' => D.ct (σ'.set i none) H' } (σ.set i (some (.ref a))) H
theorem ps_try_asM {x n : Str} {c : Value} {i : Nat} {body suite : List Stmt} {b₀ : Stmt} {np pos pos' : Pos} {hds : List ExceptHandler} {tb : WX → TS} {ts : Addr → Value → Option Addr → TS}
    (hs : X.stack = X.env :: X.outer) (hf : X.env.frame = some X.env.locals) (hN : X.N.Nodup) (hi : X.N[i]? = some n) (hln : X.env.kindOf n = some .local) (hc : Names X x c)
    (hb : ∀ (W : WX) (pn : List (Addr × Obj)) (xe : Value → Shared → Prop), Takes (X.tr pn xe) W → PassesOwn (model X.prog X.w) X.A X.env xe → PSs (X.tr pn xe) body (tb W))
    (hsu : ∀ (a : Addr) (oe : Obj) (cls : Value) (d : Option Addr) (pn : List (Addr × Obj)), Zc cls d oe → (∃ vs, oe.data = .fields vs) → PSs (X.suite a ((a, oe) :: pn)) (b₀ :: suite) (ts a cls d)) :
    PS X (.Try body (.ExceptHandler (some (.Name x np)) (some n) (b₀ :: suite) pos' :: hds) [] [] pos) (fun D σ H => tb (wAs1 X.K c i ts D) D σ H) := by
  refine ⟨fun pins s σ H D I h => ?_⟩
  have ok := I.ok
  have hfr : X.A.frames = some (X.env :: X.outer) := by rw [ok.frames, hs]
  refine wpAny_Try_except (wpAny_mono ((hb (wAs1 X.K c i ts D) (X.pn ++ pins) _ (fun u s' xx => ?_) PassesOwn.looking).run [] s σ H D (I.toTry _) h) (fun f s1 hsp => ?_) (fun e s1 he => he))
  · obtain ⟨a, B, sI, pins', σ', H', cls, d, rfl, J', nb, up, sky, na, os, ag, hm, hyes⟩ := xx
    have J : Inv X pins σ' H' sI := J'.ofTry ok
    rw [hs] at sky
    show wpAny (model X.prog X.w) X.A (noteFrame (.ref a) X.env) _ _ _
    refine Sky.land Zc.steady hfr hf sky fun h3 fl3 up3 => ?_
    have J3 : Inv X pins σ' H' { s' with heap := h3 } := J.landed nb fl3.1 (up.trans up3) os ag
    obtain ⟨oe3, vs3, he3, hz3, hd3⟩ := fl3.there
    have nfr : a ∉ frs (X.env :: X.outer) := fun hmm => by
      obtain ⟨_, o', e', hnf⟩ := fl3.2.2.1.mem hmm
      rw [he3] at e'; cases e'
      exact hnf _ hd3
    have nL : a ≠ X.env.locals := fun z => nfr (List.mem_filterMap.mpr ⟨X.env, List.mem_cons_self, by rw [hf, z]⟩)
    have nF : a ∉ X.fs := fun hmm => by
      obtain ⟨e, he, q⟩ := List.mem_filterMap.mp hmm
      exact nfr (List.mem_filterMap.mpr ⟨e, List.mem_cons_of_mem _ he, q⟩)
    have S3 := J3.suite he3 hd3 na nL nF
    refine wpAny_handleBy_cons (codeAny_handlers_test ?_) (by intro q; cases q)
    have LT : PySem.W.Looks (model X.prog X.w) h3 (typeOf (.ref a)) cls := fun A Q E s k q => wpAny_typeOf_ref (k _ _ he3) (by rw [hz3.1]; exact q)
    have LM := PySem.W.exm_one (M := model X.prog X.w) (J3.kIn) LT hm
    have test : ∀ {Q E : Value → Shared → Prop}, Q c { s' with heap := h3 } → wpAny (model X.prog X.w) (X.A.mark (some (.ref a))) (eval (.Name x np) X.env) Q E { s' with heap := h3 } := fun {Q E} q => by
      rcases hc with ⟨hg, hdbg, hmg | ⟨hmg, hv, hnn⟩⟩
      · exact ld_glob (X := X.suite a ((a, oe3) :: (X.pn ++ pins))) S3 hg hmg q hdbg
      · exact ld_blt (X := X.suite a ((a, oe3) :: (X.pn ++ pins))) S3 hg hmg hv q hnn hdbg
    refine test (LM.here (codeAny_handlers_suite_as (HandSPX.lands_againZ fl3 fun h4 fl4 up4 => ?_)))
    have J4 : Inv X pins σ' H' { s' with heap := h4 } := J.landed nb fl4.1 ((up.trans up3).trans up4) os ag
    obtain ⟨oe4, vs4, he4, hz4, hd4⟩ := fl4.there
    have S4 := J4.suite he4 hd4 na nL nF
    refine store_ok (X := X.suite a ((a, oe4) :: (X.pn ++ pins))) (v := .ref a) S4 hN hi (.inl hln) rfl (fun s5 S5 => ?_) (.inr hln)
    refine wpAny_mono ((hsu a oe4 cls d (X.pn ++ pins) hz4 ⟨_, hd4⟩).run [] s5 _ H' _ S5 (hyes a na)) (fun f s6 hsp => ?_) (fun _ _ z => False.elim z)
    have fin : ∀ {σ6 : L2.St} {H6 : Hp} {Q : Shared → Prop}, Inv (X.suite a ((a, oe4) :: (X.pn ++ pins))) [] σ6 H6 s6 → (∀ s7, Inv X pins (σ6.set i none) H6 s7 → Q s7) →
        wpAny (model X.prog X.w) X.A (do bindName X.env n .none; unbindBehindTheSuite X.env n pos') (fun _ s7 => Q s7) X.xe s6 := fun {σ6 H6 Q} S6 hq => gone_ok (S6.unsuite ok) hN hi hln hq
    cases f with
    | ret u =>
      obtain ⟨v6, σ6, H6, S6, r6, q6⟩ := hsp
      exact fin S6 fun s7 J7 => ⟨_, _, _, J7, r6, q6⟩
    | next => obtain ⟨σ6, H6, S6, q6⟩ := hsp; exact fin S6 fun s7 J7 => ⟨_, _, J7, q6⟩
    | brk => obtain ⟨σ6, H6, S6, q6⟩ := hsp; exact fin S6 fun s7 J7 => ⟨_, _, J7, q6⟩
    | cont => obtain ⟨σ6, H6, S6, q6⟩ := hsp; exact fin S6 fun s7 J7 => ⟨_, _, J7, q6⟩
  · cases f with
    | ret u =>
      obtain ⟨v, σ', H', J', r, q⟩ := hsp
      exact ⟨v, σ', H', J'.ofTry ok, r, q⟩
    | next => obtain ⟨σ', H', J', q⟩ := hsp; exact wpAny_execs_nil ⟨σ', H', J'.ofTry ok, q⟩
    | brk => obtain ⟨σ', H', J', q⟩ := hsp; exact ⟨σ', H', J'.ofTry ok, q⟩
    | cont => obtain ⟨σ', H', J', q⟩ := hsp; exact ⟨σ', H', J'.ofTry ok, q⟩

/-! ### len, int, slices of whatever kind -/
def rLenU (K : PySem.W.Frag) : List V → Hp → VK → Prop := fun xs H Q => (∃ p ys, xs = [.ref p] ∧ Sq K H p ys ∧ Q (.int ys.length) H) ∨ ∃ z, xs = [.str z] ∧ z.length ≤ sizeLine ∧ Q (.int z.length) H
theorem call_lenU : CallR X (.builtin "len") (rLenU X.K) := by
  intro pins s σ H xs us Q I r h
  rcases h with h | h
  · exact call_len_seq pins s σ H xs us Q I r h
  · exact call_len_str pins s σ H xs us Q I r h
def rEqU (K : PySem.W.Frag) : R2 := fun x y H Q => rEq x y H Q ∨ rEqD K x y H Q
def rNeU (K : PySem.W.Frag) : R2 := fun x y H Q => rNe x y H Q ∨ rNeD K x y H Q
theorem op_eqU (hu : X.A.units + 64 < cLine) : OpR X (compareOp .Eq) (rEqU X.K) := op_eq.or (op_eqD hu)
theorem op_neU (hu : X.A.units + 64 < cLine) : OpR X (compareOp .NotEq) (rNeU X.K) := op_ne.or (op_neD hu)
def rIntU : List V → Hp → VK → Prop := fun xs H Q => ((∃ i, xs = [.int i] ∧ Q (.int i) H) ∨ ∃ k, xs = [.bl k] ∧ Q (.int (if k then 1 else 0)) H) ∨
    ∃ a n, xs = [.str a] ∧ PySem.intText? a = some n ∧ a.length ≤ 640 ∧ Q (.int n) H
theorem call_intU : CallR X (.type "int") rIntU := by
  intro pins s σ H xs us Q I r h
  rcases h with h | h
  · exact call_int1 pins s σ H xs us Q I r h
  · exact call_int_str pins s σ H xs us Q I r h
def rAbs : List V → Hp → VK → Prop := fun xs H Q => ∃ i, xs = [.int i] ∧ Q (.int (if i < 0 then -i else i)) H
theorem call_absU : CallR X (.builtin "abs") rAbs := call_abs
def rMax2 : List V → Hp → VK → Prop := fun xs H Q => ∃ i j, xs = [.int i, .int j] ∧ Q (.int (if j > i then j else i)) H
theorem call_maxU (hc : X.calm = true) : CallR X (.builtin "max") rMax2 := call_max2 hc
def rMin2 : List V → Hp → VK → Prop := fun xs H Q => ∃ i j, xs = [.int i, .int j] ∧ Q (.int (if j < i then j else i)) H
theorem call_minU (hc : X.calm = true) : CallR X (.builtin "min") rMin2 := call_min2 hc
def rListU (K : PySem.W.Frag) : List V → Hp → VK → Prop := fun xs H Q => ∃ p ys, xs = [.ref p] ∧ Sq K H p ys ∧ ∀ l, H l = none → Q (.ref l) (upd H l (.lst ys))
theorem call_listU : CallR X (.type "list") (rListU X.K) := call_list_of
def rTupleU (K : PySem.W.Frag) : List V → Hp → VK → Prop := fun xs H Q => ∃ p ys, xs = [.ref p] ∧ ((SqL K H p ys ∧ ∀ l, H l = none → Q (.ref l) (upd H l (.tup ys))) ∨ (SqT K H p ys ∧ Q (.ref p) H))
theorem call_tupleU : CallR X (.type "tuple") (rTupleU X.K) := call_tuple_of
def rSlU (K : PySem.W.Frag) : V → Option Int → Option Int → Hp → VK → Prop := fun x lo hi H Q => rSlL K x lo hi H Q ∨ rSlA K x lo hi H Q
theorem sl_U : SlR X (rSlU X.K) := by
  intro pins s σ H x v vl vu lo hi sl Q I rx hs pl pu h
  rcases h with h | h
  · exact sl_list pins s σ H x v vl vu lo hi sl Q I rx hs pl pu h
  · exact sl_tupA pins s σ H x v vl vu lo hi sl Q I rx hs pl pu h
/-- a value's truth as a test -/
def tTruth (K : PySem.W.Frag) (ta : TE) : TT := fun σ H Q => ta σ H fun x H' => ∃ k, TruV K x H' k ∧ Q k H'
theorem pt_truthU {a : Expr} {ta : TE} (ha : PE X a ta) (he : ∀ whole, isTrue a X.env whole = (do let v ← whole; standAt a.pos; holding [v] (truthy v))) : PT X a (tTruth X.K ta) := pt_truth ha he
end

/-! ### the end of a law's row, the base known to be without a seer of _pylong -/
theorem law_callS {P : Program} {w : World} {K : PySem.W.Frag} {mg mb : Str → Option Value} {k : Nat} {fa a : Addr} {fd : FuncData} {x : Str} {sp : Sp} {s₁ : Shared} {vs : List Value} {ns : List Int}
    (KX : K.In s₁.heap) (hns : s₁.heap.Ns mainGlobals mg) (hb : s₁.heap.Ns builtinsNs mb) (hbb : ∀ x : Str, x ≠ "__name__" → mb x = bootBuiltins x) (hlim : s₁.heap.NoLimit) (hseer : s₁.heap.NoSeer) (hg : s₁.gens = #[])
    (ha : s₁.heap.get? a = some { cls := .type "list", data := .seq vs.toArray }) (hi : IntsAre vs ns) (hl : ns.length ≤ sizeLine) (hr : Room k callerA)
    (F : ∀ base : Heap, K.In base → base.Ns mainGlobals mg → base.NoSeer → FnOk P w K mg base CX0 k fa fd [x] sp) (hbind : ∀ (s : Shared) (u : Value), BindsTo s fd ⟨[u], []⟩ [(x, u)])
    (hsp : ∀ H : Hp, Only H → SqL K H a (ns.map V.int) → sp [.ref a] H (fun v _ => v = .bl true) fun _ _ _ => False) :
    codeAny (model P w) callerA (.call (.ref fa) ⟨[.ref a], []⟩) (fun r s' => r = .ok (.ret (.bool true)) ∧ OldK s₁.heap s'.heap ∧ s'.os = s₁.os ∧ AllBare s'.gens) s₁ := by
  have rv := vals_ints hi
  have lenV := hi.length
  -- H tracks nothing but the script, and that not where K has it
  have main : ∀ H : Hp, Only H → SqL K H a (ns.map V.int) → HOk P w H s₁.heap → (∀ b, H b ≠ none → b = a ∧ K.lookup a = none) →
      codeAny (model P w) callerA (.call (.ref fa) ⟨[.ref a], []⟩) (fun r s' => r = .ok (.ret (.bool true)) ∧ OldK s₁.heap s'.heap ∧ s'.os = s₁.os ∧ AllBare s'.gens) s₁ := by
    intro H hO hS hok hA
    -- what is no list is not tracked
    have away : ∀ {b : Addr} {o : Obj}, s₁.heap.get? b = some o → o.cls ≠ .type "list" → (hidT s₁.heap H).get? b = some o := fun {b o} e hc => by
      refine hidT_get e ?_
      cases q : H b with
      | none => rfl
      | some u =>
        have e' := (hA b (by rw [q]; simp)).1
        rw [e', ha] at e; cases e
        exact absurd rfl hc
    have nsOf : ∀ {b : Addr} {m : Str → Option Value}, s₁.heap.Ns b m → (hidT s₁.heap H).Ns b m := fun {b m} q => by
      obtain ⟨o, es, ep, e, d, r⟩ := q
      refine ⟨o, es, ep, hidT_get e ?_, d, r⟩
      cases z : H b with
      | none => rfl
      | some u =>
        have e' := (hA b (by rw [z]; simp)).1
        rw [e', ha] at e; cases e
        have d' : Data.seq vs.toArray _ = Data.dict es ep := d
        cases d'
    have hKb : K.In (hidT s₁.heap H) := fun b o e => hidT_get (KX b o e) (by
      cases q : H b with
      | none => rfl
      | some u =>
        obtain ⟨e', z⟩ := hA b (by rw [q]; simp)
        rw [e', z] at e; cases e)
    have hM : Mod K mg (hidT s₁.heap H) := ⟨hKb, nsOf hns, ⟨mb, nsOf hb, hbb⟩, let ⟨mc, h1, h2⟩ := hlim; ⟨mc, nsOf h1, h2⟩⟩
    have hSb : (hidT s₁.heap H).NoSeer := by
      refine ⟨?_, ?_, ?_, ?_⟩
      · obtain ⟨mc, h1, h2⟩ := hseer.statics; exact ⟨mc, nsOf h1, h2⟩
      · obtain ⟨mc, h1, h2⟩ := hseer.mods; exact ⟨mc, nsOf h1, h2⟩
      · obtain ⟨mc, h1, h2⟩ := hseer.imp; exact ⟨mc, nsOf h1, h2⟩
      · obtain ⟨m, bm, ob, h1, h2, h3, h4, h5⟩ := hseer.main
        exact ⟨m, bm, ob, nsOf h1, h2, away h3 (by rw [h4]; decide +kernel), h4, h5⟩
    have e0 : Env0 P w K mg (hidT s₁.heap H) callerA [] s₁ H := ⟨rfl, hM, fun b o e => of_hidT e, Nat.le_of_eq (hidT_size _ _), trivial, fun b hb => absurd (show b ∈ ([] : List Addr) from hb) (by simp), hok, .of_eq hg⟩
    refine codeAny_mono ((F _ hKb (nsOf hns) hSb).run callerA [] s₁ H ⟨[.ref a], []⟩ [.ref a] [.ref a] _ _ hr e0 (hbind s₁ (.ref a)) (.cons rfl .nil) (hsp H hO hS)) fun r s' h => ?_
    cases r with
    | error e => exact h.elim
    | ok fl =>
      cases fl with
      | next => exact False.elim h
      | brk => exact False.elim h
      | cont => exact False.elim h
      | ret u =>
        obtain ⟨v, H', os, bare, un, hok', r', q⟩ := h
        obtain rfl : v = .bl true := q
        obtain rfl : u = Value.bool true := r'
        refine ⟨rfl, OldK.of_keep fun b o e => ?_, os, bare⟩
        rcases hO b with z | ⟨ob, xs, z⟩
        · exact un.keep b o e z (by intro q; exact absurd (show b ∈ ([] : List Addr) from q) (by simp)) (by simp)
        · obtain ⟨e1, _⟩ := hok b _ z
          obtain ⟨e2, _⟩ := hok' b _ (un.frzs b ob _ z)
          rw [e] at e1; cases e1
          exact e2
  cases hk : K.lookup a with
  | some o =>
    have e := KX a o hk
    rw [ha] at e; cases e
    refine main (fun _ => none) (fun _ => .inl rfl) (.inr ⟨_, vs.toArray, _, hk, rfl, rfl, rfl, by rw [List.size_toArray, lenV]; exact hl, by simpa using rv⟩) (fun b u z => by cases (show (none : Option HO) = some u from z)) fun b z => absurd rfl z
  | none =>
    refine main (fun b => if b = a then some (.frz { cls := .type "list", data := .seq vs.toArray } (.lst (ns.map V.int))) else none) (fun b => ?_) (.inl (.inr ⟨{ cls := .type "list", data := .seq vs.toArray }, if_pos rfl⟩)) (fun b u z => ?_) (fun b z => ?_)
    · by_cases hb : b = a
      · exact .inr ⟨_, _, if_pos hb⟩
      · exact .inl (if_neg hb)
    · by_cases hb : b = a
      · have z' := (if_pos hb).symm.trans z
        cases z'
        subst hb
        exact ⟨ha, by rw [List.length_map]; exact hl, vs, _, rv, ha⟩
      · have z' := (if_neg hb).symm.trans z
        cases z'
    · by_cases hb : b = a
      · exact ⟨hb, hk⟩
      · exact absurd (if_neg hb) z
theorem walk_ofS {l : PySem.W.OpenLaw} {n k : Nat} {q : Program} {loose : List Str} {XP : (Str → Option Value) → Heap → Prop} {YP : World → Heap → Prop} {d : DefRec} {K : Params → PySem.W.Frag} {sp : PySem.W.Frag → Sp} {x : Str}
    (hn : l.most = some n) (hn2 : n ≤ sizeLine) (hdf : d.params.defaults = []) (hr : Room k callerA) (hq : importsNone q = true)
    (hY : ∀ (w : World) (h : Heap), YP w h → (K w.params).In h)
    (F : ∀ (w : World) (mg : Str → Option Value) (fa : Addr) (h : Heap), (K w.params).In h → h.Ns mainGlobals mg → mg d.name = some (.ref fa) →
      ∃ fd : FuncData, (∀ (s : Shared) (u : Value), BindsTo s fd ⟨[u], []⟩ [(x, u)]) ∧
        ∀ base : Heap, (K w.params).In base → base.Ns mainGlobals mg → base.NoSeer → FnOk l.prog w (K w.params) mg base CX0 k fa fd [x] (sp (K w.params)))
    (hsp : ∀ (K : PySem.W.Frag) (H : Hp) (a : Addr) (ns : List Int), ns.length ≤ n → Only H → SqL K H a (ns.map V.int) → sp K [.ref a] H (fun v _ => v = .bl true) fun _ _ _ => False) :
    PySem.W.WalkO q loose XP YP l.row.toRowW d [] (fun f vs => PySem.call f vs) := by
  refine Att.attach_call hn hdf fun w s₀ s₁ mg mb fa o pm cd doc a vs ns G Y ho hd hcd hmg hobj hints hlen hg => ?_
  have KX := hY w _ Y
  obtain ⟨fd, hb, hF⟩ := F w mg fa _ KX G.T.g hmg
  exact law_callS KX G.T.g G.T.b G.T.builtins G.T.nolimit (G.T.seer hq) hg hobj hints (Nat.le_trans hlen hn2) hr hF hb fun H hO hS => hsp _ H a ns hlen hO hS
end Ly

set_option maxHeartbeats 4000000
/-! steps through a reading, heap relations, fractions -/
namespace Ly
open PySem PySem.Spec PyProof.Rows L2

/-! ### steps -/
section
variable {D : Ends} {σ : L2.St} {H : Hp} {t u : TS} {te ta tb : TE} {g : TG} {c d : TT} {i : Nat} {v x y : V} {Q : VK} {K : PySem.W.Frag}
theorem st_seq (h : t { D with nx := u D } σ H) : tSeq t u D σ H := h
theorem st_asg (h : te σ H fun x H1 => g x σ H1 D.nx) : tAsg te g D σ H := h
theorem st_name {P : L2.St → Hp → Prop} (h : P (σ.set i (some v)) H) : gName i v σ H P := h
theorem st_ifs (h : c σ H fun b H1 => if b = true then t D σ H1 else u D σ H1) : tIfS c t u D σ H := h
theorem st_ret (h : te σ H D.rt) : tRet te D σ H := h
theorem st_drop (h : te σ H fun _ H1 => D.nx σ H1) : tDrop te D σ H := h
theorem st_nextS (h : D.nx σ H) : tNext D σ H := h
theorem st_nx {a : L2.St → Hp → Prop} {r : VK} {b k : L2.St → Hp → Prop} (h : a σ H) : Ends.nx ⟨a, r, b, k⟩ σ H := h
theorem st_rt {a : L2.St → Hp → Prop} {r : VK} {b k : L2.St → Hp → Prop} (h : r v H) : Ends.rt ⟨a, r, b, k⟩ v H := h
theorem st_var (e : σ[i]? = some (some v)) (h : Q v H) : tVar i σ H Q := ⟨v, e, h⟩
theorem st_c (h : Q v H) : tC v σ H Q := h
theorem st_op {r : R2} (h : ta σ H fun x H1 => tb σ H1 fun y H2 => r x y H2 Q) : tOp r ta tb σ H Q := h
theorem st_un {r : V → Hp → VK → Prop} (h : ta σ H fun x H1 => r x H1 Q) : tUn r ta σ H Q := h
theorem st_neg {n : Int} (h : Q (.int (-n)) H) : rU (fun i => .int (-i)) (.int n) H Q := ⟨n, rfl, h⟩
theorem st_test {P : Bool → Hp → Prop} (h : te σ H fun x H' => ∃ k, x = .bl k ∧ P k H') : tTest te σ H P := h
theorem st_ex {b : Bool} {P : Bool → Prop} (h : P b) : ∃ k, V.bl b = .bl k ∧ P k := ⟨b, rfl, h⟩
theorem st_truth {P : Bool → Hp → Prop} (h : te σ H fun x H' => ∃ k, TruV K x H' k ∧ P k H') : tTruth K te σ H P := h
theorem st_not {P : Bool → Hp → Prop} (h : c σ H fun b H1 => P (!b) H1) : tNot c σ H P := h
theorem st_and {P : Bool → Hp → Prop} (h : c σ H fun b H1 => if b = true then d σ H1 P else P false H1) : tAnd c d σ H P := h
theorem st_or {P : Bool → Hp → Prop} (h : c σ H fun b H1 => if b = true then P true H1 else d σ H1 P) : tOr c d σ H P := h
theorem st_andV (h : ta σ H fun x H1 => ∃ c, x = .bl c ∧ if c = true then tb σ H1 Q else Q (.bl false) H1) : tAndV ta tb σ H Q := h
theorem st_orV (h : ta σ H fun x H1 => ∃ c, x = .bl c ∧ if c = true then Q (.bl true) H1 else tb σ H1 Q) : tOrV ta tb σ H Q := h
theorem st_notV (h : ta σ H fun x H1 => ∃ c, x = .bl c ∧ Q (.bl (!c)) H1) : tNotV ta σ H Q := h
theorem st_ifE (h : c σ H fun b H1 => if b = true then ta σ H1 Q else tb σ H1 Q) : tIf c ta tb σ H Q := h
theorem st_cons {ta : TE} {tr : TA} {P : List V → Hp → Prop} (h : ta σ H fun x H1 => tr σ H1 fun xs H2 => P (x :: xs) H2) : tCons ta tr σ H P := h
theorem st_nil {P : List V → Hp → Prop} (h : P [] H) : tNil σ H P := h
theorem st_call {sp : Sp} {dvs : List V} {E : XK} {ta : TA} (h : ta σ H fun vs H1 => sp (vs ++ dvs) H1 Q E) : tCall sp dvs E ta σ H Q := h
theorem st_callS {sp : Sp} {E : L2.St → XK} {ta : TA} (h : ta σ H fun vs H1 => sp vs H1 Q (E σ)) : tCallS sp E ta σ H Q := h
theorem st_cb {r : List V → Hp → VK → Prop} {ta : TA} (h : ta σ H fun vs H1 => r vs H1 Q) : tCB r ta σ H Q := h
theorem st_tup {ta : TA} (h : ta σ H fun xs H1 => xs.length ≤ sizeLine ∧ ∀ p, H1 p = none → Q (.ref p) (upd H1 p (.tup xs))) : tTup ta σ H Q := h
theorem st_lst {ta : TA} (h : ta σ H fun xs H1 => xs.length ≤ sizeLine ∧ ∀ p, H1 p = none → Q (.ref p) (upd H1 p (.lst xs))) : tLst ta σ H Q := h
theorem st_par {i j : Nat} {ta : TA} (h : ta σ H fun vs H1 => ∃ v w, vs = [v, w] ∧ D.nx ((σ.set i (some v)).set j (some w)) H1) : tPar i j ta D σ H := h
theorem st_sub {to ti : TE} {w : TSet} {P : L2.St → Hp → Prop} (h : to σ H fun o H1 => ti σ H1 fun i H2 => w o i v H2 fun H3 => P σ H3) : gSub to ti w v σ H P := h
theorem st_sl {r : V → Option Int → Option Int → Hp → VK → Prop} {tl th : TO} (h : te σ H fun x H1 => tl σ H1 fun l H2 => th σ H2 fun u H3 => r x l u H3 Q) : tSl r te tl th σ H Q := h
theorem st_nopart {P : Option Int → Hp → Prop} (h : P none H) : tNoPart σ H P := h
theorem st_part {P : Option Int → Hp → Prop} (h : te σ H fun x H1 => ∃ i, x = .int i ∧ P (some i) H1) : tPart te σ H P := h
theorem st_exI {n : Int} {P : Int → Prop} (h : P n) : ∃ i, V.int n = .int i ∧ P i := ⟨n, rfl, h⟩
theorem st_ex2 {x y : V} {P : V → V → Prop} (h : P x y) : ∃ v w, [x, y] = [v, w] ∧ P v w := ⟨x, y, rfl, h⟩

/-! ### operations by values -/
theorem u_add {i j : Int} (h : Q (.int (i + j)) H) : rAddU K (.int i) (.int j) H Q := .inl (.inl ⟨i, j, rfl, rfl, h⟩)
theorem u_rI0 {f : Int → Int → V} {i j : Int} (h : Q (f i j) H) : rI0 f (.int i) (.int j) H Q := ⟨i, j, rfl, rfl, h⟩
theorem u_rI {C : Int → Int → Prop} {f : Int → Int → V} {i j : Int} (c : C i j) (h : Q (f i j) H) : rI C f (.int i) (.int j) H Q := ⟨i, j, rfl, rfl, c, h⟩
theorem u_mul {i j : Int} (c : CMul i j ∨ CMulB i j) (h : Q (.int (i * j)) H) : rMulU K (.int i) (.int j) H Q := .inl ⟨i, j, rfl, rfl, c, h⟩
theorem u_fd {i j : Int} (c : j ≠ 0) (h : Q (.int (i.fdiv j)) H) : rFdU (.int i) (.int j) H Q := ⟨i, j, rfl, rfl, c, h⟩
theorem u_mo {i j : Int} (c : j ≠ 0) (h : Q (.int (i.fmod j)) H) : rMoU (.int i) (.int j) H Q := ⟨i, j, rfl, rfl, c, h⟩
theorem u_ix {p : Addr} {xs : List V} {k : Int} (h : Sq K H p xs) (ha : atI xs k = some v) (q : Q v H) : rIx K (.ref p) (.int k) H Q := by
  rcases h with h | h
  · exact .inl ⟨p, xs, k, v, rfl, rfl, h, ha, q⟩
  · exact .inr (.inl ⟨p, xs, k, v, rfl, rfl, h, ha, q⟩)
theorem u_eq {i j : Int} (h : Q (.bl (decide (i = j))) H) : rEqU K (.int i) (.int j) H Q := .inl ⟨rfl, by rw [show decide (V.int i = V.int j) = decide (i = j) by simp]; exact h⟩
theorem u_ne {i j : Int} (h : Q (.bl (!decide (i = j))) H) : rNeU K (.int i) (.int j) H Q := .inl ⟨rfl, by rw [show decide (V.int i = V.int j) = decide (i = j) by simp]; exact h⟩
theorem u_ite {b : Prop} [Decidable b] {A B : Prop} (h1 : b → A) (h2 : ¬ b → B) : if decide b = true then A else B := by
  by_cases h : b
  · rw [if_pos (decide_eq_true h)]; exact h1 h
  · rw [if_neg (by simp [h])]; exact h2 h
theorem u_iteN {b : Prop} [Decidable b] {A B : Prop} (h1 : ¬ b → A) (h2 : b → B) : if (!decide b) = true then A else B := by
  by_cases h : b
  · rw [if_neg (by simp [h])]; exact h2 h
  · rw [if_pos (by simp [h])]; exact h1 h
theorem u_iteB {b : Bool} {A B : Prop} (h1 : b = true → A) (h2 : b = false → B) : if b = true then A else B := by
  cases b with
  | true => rw [if_pos rfl]; exact h1 rfl
  | false => rw [if_neg Bool.false_ne_true]; exact h2 rfl
theorem u_len {p : Addr} {ys : List V} (h : Sq K H p ys) (q : Q (.int ys.length) H) : rLenU K [.ref p] H Q := .inl ⟨p, ys, rfl, h, q⟩
theorem u_int {n : Int} (q : Q (.int n) H) : rIntU [.int n] H Q := .inl (.inl ⟨n, rfl, q⟩)
theorem u_intB {b : Bool} (q : Q (.int (if b then 1 else 0)) H) : rIntU [.bl b] H Q := .inl (.inr ⟨b, rfl, q⟩)
theorem u_abs {n : Int} (q : Q (.int (if n < 0 then -n else n)) H) : rAbs [.int n] H Q := ⟨n, rfl, q⟩
theorem u_max {i j : Int} (q : Q (.int (if j > i then j else i)) H) : rMax2 [.int i, .int j] H Q := ⟨i, j, rfl, q⟩
theorem u_list {p : Addr} {ys : List V} (h : Sq K H p ys) (q : ∀ l, H l = none → Q (.ref l) (upd H l (.lst ys))) : rListU K [.ref p] H Q := ⟨p, ys, rfl, h, q⟩
theorem u_tupleL {p : Addr} {ys : List V} (h : H p = some (.lst ys)) (q : ∀ l, H l = none → Q (.ref l) (upd H l (.tup ys))) : rTupleU K [.ref p] H Q := ⟨p, ys, rfl, .inl ⟨SqL.of h, q⟩⟩
theorem u_tru {n : Int} {P : Bool → Prop} (h : P (n != 0)) : ∃ k, TruV K (.int n) H k ∧ P k := ⟨_, rfl, h⟩
theorem u_truB {b : Bool} {P : Bool → Prop} (h : P b) : ∃ k, TruV K (.bl b) H k ∧ P k := ⟨_, rfl, h⟩
theorem u_setL {p : Addr} {xs : List V} {k : Int} {j : Nat} {P : Hp → Prop} (h : H p = some (.lst xs)) (e : ixN xs.length k = some j) (q : P (upd H p (.lst (xs.set j v)))) : rSetL (.ref p) (.int k) v H P := ⟨p, xs, k, j, rfl, rfl, h, e, q⟩
end

/-! ### heaps that grow -/
/-- all but what stands at b stays -/
def SameX (b : Addr) (H H' : Hp) : Prop := ∀ a o, a ≠ b → H a = some o → H' a = some o
theorem SameX.refl {b : Addr} (H : Hp) : SameX b H H := fun _ _ _ h => h
theorem SameX.trans {b : Addr} {H H1 H2 : Hp} (p : SameX b H H1) (q : SameX b H1 H2) : SameX b H H2 := fun a o n h => q a o n (p a o n h)
theorem _root_.L2.Same.x {b : Addr} {H H' : Hp} (p : Same H H') : SameX b H H' := fun a o _ h => p a o h
theorem same_new {H : Hp} {p : Addr} {o : HO} (h : H p = none) : Same H (upd H p o) := fun a u e => by
  rw [upd_ne (ne_of_none e h)]
  exact e
theorem samex_upd {H : Hp} {p : Addr} {o : HO} : SameX p H (upd H p o) := fun a u n e => by
  rw [upd_ne n]
  exact e
theorem _root_.L2.Same.kept {H H' : Hp} (e : Same H H') (a : Addr) : Kept H H' a := fun o h => e a o h
theorem _root_.L2.Same.t {K : PySem.W.Frag} {H H' : Hp} {a : Addr} {xs : List V} (e : Same H H') (h : SqT K H a xs) : SqT K H' a xs := (e.kept a).t h
theorem _root_.L2.Same.sq {K : PySem.W.Frag} {H H' : Hp} {a : Addr} {xs : List V} (e : Same H H') (h : Sq K H a xs) : Sq K H' a xs := (e.kept a).sq h
/-- an object that the old heap does not know may change -/
theorem _root_.L2.Same.mut {H H' : Hp} {p : Addr} {o : HO} (e : Same H H') (h : H p = none) : Same H (upd H' p o) := fun a u ha => by
  rw [upd_ne (ne_of_none ha h)]
  exact e a u ha
theorem _root_.L2.Same.mutX {H H' H'' : Hp} {p : Addr} (e : Same H H') (h : H p = none) (x : SameX p H' H'') : Same H H'' := fun a u ha => x a u (ne_of_none ha h) (e a u ha)

/-! ### a fraction: a tuple of its two numbers -/
def FrT (q : Rat) : List V := [.int q.num, .int (q.den : Int)]
def Fr (K : PySem.W.Frag) (H : Hp) (v : V) (q : Rat) : Prop := ∃ a, v = .ref a ∧ SqT K H a (FrT q)
theorem Fr.same {K : PySem.W.Frag} {H H' : Hp} {v : V} {q : Rat} (h : Fr K H v q) (e : Same H H') : Fr K H' v q := by
  obtain ⟨a, rfl, h⟩ := h
  exact ⟨a, rfl, e.t h⟩
theorem u_fr0 {K : PySem.W.Frag} {H : Hp} {p : Addr} {q : Rat} {Q : VK} (h : SqT K H p (FrT q)) (k : Q (.int q.num) H) : rIx K (.ref p) (.int 0) H Q := u_ix (.inr h) rfl k
theorem u_fr1 {K : PySem.W.Frag} {H : Hp} {p : Addr} {q : Rat} {Q : VK} (h : SqT K H p (FrT q)) (k : Q (.int (q.den : Int)) H) : rIx K (.ref p) (.int 1) H Q := u_ix (.inr h) rfl k
/-- a fraction is handed back -/
def RetFr (K : PySem.W.Frag) (q : Rat) (H : Hp) (Q : VK) : Prop := ∀ v H', Same H H' → Fr K H' v q → Q v H'
theorem RetFr.at {K : PySem.W.Frag} {q r : Rat} {H H' : Hp} {Q : VK} (k : RetFr K q H Q) (e : Same H H') (hr : r = q) : RetFr K r H' Q := fun v H2 e2 h => k v H2 (e.trans e2) (hr ▸ h)
theorem u_tupFr {K : PySem.W.Frag} {H : Hp} {Q : VK} {n d : Int} {q : Rat} (k : RetFr K q H Q) (h1 : n = q.num) (h2 : d = (q.den : Int)) :
    [V.int n, V.int d].length ≤ sizeLine ∧ ∀ p, H p = none → Q (.ref p) (upd H p (.tup [.int n, .int d])) := by
  subst h1 h2
  exact ⟨by show 2 ≤ sizeLine; decide, fun p hp => k (.ref p) _ (same_new hp) ⟨p, rfl, SqT.of upd_same⟩⟩
/-- what is read alone (a tuple) stays where a list changes -/
def Imm (H H' : Hp) : Prop := ∀ a o, ((∃ xs, o = .tup xs) ∨ (∃ ob u, o = .frz ob u)) → H a = some o → H' a = some o
theorem Imm.refl (H : Hp) : Imm H H := fun _ _ _ h => h
theorem Imm.trans {H H1 H2 : Hp} (p : Imm H H1) (q : Imm H1 H2) : Imm H H2 := fun a o c h => q a o c (p a o c h)
theorem _root_.L2.Same.imm {H H' : Hp} (e : Same H H') : Imm H H' := fun a o _ h => e a o h
theorem SameX.imm {b : Addr} {H H' : Hp} {xs : List V} (e : SameX b H H') (hb : H b = some (.lst xs)) : Imm H H' := fun a o c h => e a o (by
  rintro rfl
  rw [hb] at h
  rcases c with ⟨ys, rfl⟩ | ⟨ob, u, rfl⟩
  · cases h
  · cases h) h
theorem Imm.upd {H : Hp} {b : Addr} {xs : List V} {o : HO} (hb : H b = some (.lst xs)) : Imm H (upd H b o) := samex_upd.imm hb
theorem Imm.t {K : PySem.W.Frag} {H H' : Hp} {a : Addr} {xs : List V} (e : Imm H H') (h : SqT K H a xs) : SqT K H' a xs := by
  rcases h with (h | ⟨o, h⟩) | h
  · exact .inl (.inl (e a _ (.inl ⟨_, rfl⟩) h))
  · exact .inl (.inr ⟨o, e a _ (.inr ⟨_, _, rfl⟩) h⟩)
  · exact .inr h
theorem Fr.imm {K : PySem.W.Frag} {H H' : Hp} {v : V} {q : Rat} (h : Fr K H v q) (e : Imm H H') : Fr K H' v q := by
  obtain ⟨a, rfl, h⟩ := h
  exact ⟨a, rfl, e.t h⟩

/-! ### bits -/
/-- below 2^n in size -/
def Bz (n : Nat) (z : Int) : Prop := z.natAbs < 2 ^ n
def Bq (n : Nat) (q : Rat) : Prop := Bz n q.num ∧ Bz n (q.den : Int)
theorem Bz.mono {n m : Nat} {z : Int} (h : Bz n z) (l : n ≤ m) : Bz m z := Nat.lt_of_lt_of_le h (Nat.pow_le_pow_right (by decide) l)
theorem Bz.mul {n m : Nat} {z w : Int} (h : Bz n z) (k : Bz m w) : Bz (n + m) (z * w) := by
  unfold Bz at *
  rw [Int.natAbs_mul, Nat.pow_add]
  exact Nat.mul_lt_mul'' h k
theorem Bz.add {n m : Nat} {z w : Int} (h : Bz n z) (k : Bz n w) (l : n < m) : Bz m (z + w) := by
  unfold Bz at *
  have a := Int.natAbs_add_le z w
  have b : 2 ^ (n + 1) ≤ 2 ^ m := Nat.pow_le_pow_right (by decide) l
  rw [Nat.pow_succ] at b
  omega
theorem Bz.neg {n : Nat} {z : Int} (h : Bz n z) : Bz n (-z) := by
  unfold Bz at *
  rw [Int.natAbs_neg]
  exact h
theorem Bz.sub {n m : Nat} {z w : Int} (h : Bz n z) (k : Bz n w) (l : n < m) : Bz m (z - w) := by
  rw [Int.sub_eq_add_neg]
  exact h.add k.neg l
theorem Bz.cmul {n m : Nat} {z w : Int} (h : Bz n z) (k : Bz m w) (l : n + m ≤ 134000000) : CMul z w ∨ CMulB z w := .inr ⟨n, m, h, k, l⟩
theorem Bq.mono {n m : Nat} {q : Rat} (h : Bq n q) (l : n ≤ m) : Bq m q := ⟨h.1.mono l, h.2.mono l⟩
/-- lowest terms are not greater -/
theorem Bq.of_div {n : Nat} {a b : Int} (ha : Bz n a) (hb : Bz n b) (h0 : 0 < n) : Bq n (Rat.divInt a b) := by
  unfold Bq Bz at *
  rw [Rat.num_divInt, Rat.den_divInt]
  constructor
  · have h1 : (b.sign * a / (b.gcd a : Int)).natAbs ≤ (b.sign * a).natAbs := by
      rw [Int.natAbs_ediv_of_dvd]
      · exact Nat.div_le_self _ _
      · exact Int.dvd_trans (Int.gcd_dvd_right ..) (Int.dvd_mul_left ..)
    have h2 : (b.sign * a).natAbs ≤ a.natAbs := by
      rw [Int.natAbs_mul]
      have : b.sign.natAbs ≤ 1 := by
        rcases Int.lt_trichotomy b 0 with c | c | c
        · rw [Int.sign_eq_neg_one_of_neg c]; decide
        · rw [c]; decide
        · rw [Int.sign_eq_one_of_pos c]; decide
      calc b.sign.natAbs * a.natAbs ≤ 1 * a.natAbs := Nat.mul_le_mul_right _ this
        _ = a.natAbs := Nat.one_mul _
    omega
  · by_cases h : b = 0
    · rw [if_pos h]
      have : 2 ^ 1 ≤ 2 ^ n := Nat.pow_le_pow_right (by decide) h0
      simp only [Int.natAbs_natCast]
      omega
    · rw [if_neg h]
      have := Nat.div_le_self b.natAbs (b.gcd a)
      simp only [Int.natAbs_natCast]
      omega
end Ly

set_option maxHeartbeats 4000000
/-! fractions: the core's Rat -/
namespace Ly
open PySem PySem.Spec PyProof.Rows L2

theorem low_eq {a u g : Int} (h : u ≠ 0) (hg : g = (Nat.gcd a.natAbs u.natAbs : Int) * u.sign) : g ≠ 0 ∧ a.fdiv g = (Rat.divInt a u).num ∧ u.fdiv g = ((Rat.divInt a u).den : Int) := by
  have e0 : u.gcd a = Nat.gcd a.natAbs u.natAbs := by rw [Int.gcd_comm]; rfl
  rw [Rat.num_divInt, Rat.den_divInt, if_neg h, e0]
  generalize hd : Nat.gcd a.natAbs u.natAbs = d at hg ⊢
  have hd0 : d ≠ 0 := by
    rw [← hd]
    intro z
    have := Nat.eq_zero_of_gcd_eq_zero_right z
    omega
  have hdi : (d : Int) ≠ 0 := by omega
  have h1 : (d : Int) ∣ a := by
    rw [← hd]; exact Int.ofNat_dvd_left.mpr (Nat.gcd_dvd_left _ _)
  have h2 : (d : Int) ∣ u := by
    rw [← hd]; exact Int.ofNat_dvd_left.mpr (Nat.gcd_dvd_right _ _)
  obtain ⟨x, rfl⟩ := h1
  obtain ⟨y, rfl⟩ := h2
  have hy : y ≠ 0 := fun z => h (by rw [z, Int.mul_zero])
  have hs : ((d : Int) * y).sign = y.sign := by
    rw [Int.sign_mul, Int.sign_eq_one_of_pos (by omega), Int.one_mul]
  rw [hs] at hg ⊢
  have hss : y.sign * y.sign = 1 := by
    rcases Int.lt_trichotomy y 0 with c | c | c
    · rw [Int.sign_eq_neg_one_of_neg c]; decide
    · exact absurd c hy
    · rw [Int.sign_eq_one_of_pos c]; decide
  have hsy : y.sign * y = (y.natAbs : Int) := by
    rcases Int.lt_trichotomy y 0 with c | c | c
    · rw [Int.sign_eq_neg_one_of_neg c]; omega
    · exact absurd c hy
    · rw [Int.sign_eq_one_of_pos c]; omega
  have hg0 : g ≠ 0 := by
    rw [hg]
    refine Int.mul_ne_zero hdi ?_
    intro z
    rw [z] at hss
    exact absurd hss (by decide)
  refine ⟨hg0, ?_, ?_⟩
  · have e1 : (d : Int) * x = g * (y.sign * x) := by
      rw [hg, Int.mul_assoc, ← Int.mul_assoc y.sign, hss, Int.one_mul]
    have e2 : y.sign * ((d : Int) * x) = (d : Int) * (y.sign * x) := by
      rw [← Int.mul_assoc, Int.mul_comm y.sign, Int.mul_assoc]
    rw [e2, Int.mul_ediv_cancel_left _ hdi, e1, Int.mul_fdiv_cancel_left _ hg0]
  · have e1 : (d : Int) * y = g * (y.sign * y) := by
      rw [hg, Int.mul_assoc, ← Int.mul_assoc y.sign, hss, Int.one_mul]
    have e2 : ((d : Int) * y).natAbs / d = y.natAbs := by rw [Int.natAbs_mul, Int.natAbs_natCast, Nat.mul_div_cancel_left _ (by omega)]
    rw [e2, e1, Int.mul_fdiv_cancel_left _ hg0, hsy]
theorem add_div (p q : Rat) : Rat.divInt (p.num * (q.den : Int) + q.num * (p.den : Int)) ((p.den : Int) * (q.den : Int)) = p + q := by
  rw [← Rat.divInt_add_divInt _ _ (by have := p.den_nz; omega) (by have := q.den_nz; omega), Rat.num_divInt_den, Rat.num_divInt_den]
theorem divInt_den (p : Rat) : (p.num : Rat) / (p.den : Rat) = p := by
  have h := Rat.divInt_eq_div p.num (p.den : Int)
  rw [Rat.num_divInt_den] at h
  exact h.symm
theorem den_ne (p : Rat) : (p.den : Rat) ≠ 0 := by
  have := p.den_nz
  intro h
  exact this (by exact_mod_cast h)
theorem sub_div (p q : Rat) : Rat.divInt (p.num * (q.den : Int) - q.num * (p.den : Int)) ((p.den : Int) * (q.den : Int)) = p - q := by
  rw [Rat.divInt_eq_div]
  have h1 := divInt_den p
  have h2 := divInt_den q
  have d1 := den_ne p
  have d2 := den_ne q
  push_cast
  grind
theorem mul_div (p q : Rat) : Rat.divInt (p.num * q.num) ((p.den : Int) * (q.den : Int)) = p * q := by
  rw [Rat.divInt_eq_div]
  have h1 := divInt_den p
  have h2 := divInt_den q
  have d1 := den_ne p
  have d2 := den_ne q
  push_cast
  grind
theorem div_div (p q : Rat) (h : q ≠ 0) : Rat.divInt (p.num * (q.den : Int)) ((p.den : Int) * q.num) = p / q := by
  rw [Rat.divInt_eq_div]
  have h1 := divInt_den p
  have h2 := divInt_den q
  have d1 := den_ne p
  have d2 := den_ne q
  have d3 : (q.num : Rat) ≠ 0 := by
    intro z
    rw [z] at h2
    exact h (by rw [← h2]; grind)
  push_cast
  grind
theorem num_ne {q : Rat} : q.num ≠ 0 ↔ q ≠ 0 := by
  constructor
  · rintro h rfl
    exact h rfl
  · intro h z
    exact h (Rat.num_eq_zero.mp z)
end Ly

set_option maxHeartbeats 4000000
/-! loops and comprehensions, by an invariant; lists that are told by what their items stand for -/
namespace Ly
open PySem PySem.Spec PyProof.Rows L2
section
variable {D : Ends} {σ : L2.St} {H : Hp} {te ta tl : TE} {g : TG} {tb : TS} {Q : VK} {K : PySem.W.Frag} {wi : TI} {tt : TT} {vs : List Nat}
theorem u_moP {i j : Int} (c : 0 < j) (h : Q (.int (i % j)) H) : rMoU (.int i) (.int j) H Q := by
  refine ⟨i, j, rfl, rfl, by omega, ?_⟩
  show Q (.int (i.fmod j)) H
  rw [Int.fmod_eq_emod_of_nonneg i (by omega)]
  exact h
theorem u_fdPos {i j : Int} (c : 0 < j) (h : Q (.int (i / j)) H) : rFdU (.int i) (.int j) H Q := by
  refine ⟨i, j, rfl, rfl, by omega, ?_⟩
  show Q (.int (i.fdiv j)) H
  rw [Int.fdiv_eq_ediv_of_nonneg i (by omega)]
  exact h
theorem u_pow {i j : Int} (c : 0 ≤ j ∧ j ≤ 1000000 ∧ i.natAbs < 2 ^ 64) (h : Q (.int (i ^ j.toNat)) H) : (rI CPow fun i j => .int (i ^ j.toNat)) (.int i) (.int j) H Q := ⟨i, j, rfl, rfl, c, h⟩
theorem u_ixL {p : Addr} {xs : List V} {k : Int} {v : V} (h : H p = some (.lst xs)) (ha : atI xs k = some v) (q : Q v H) : rIx K (.ref p) (.int k) H Q := u_ix (.inl (SqL.of h)) ha q

/-! ### for -/
def ForK (g : TG) (tb : TS) (D : Ends) (σ : L2.St) : It → Hp → Prop := fun J H1 => ∃ W : Nat → Nat → L2.St → Hp → Prop, (∃ m, W 0 m σ H1) ∧ ∀ i m σ H, W i m σ H →
  (J.stop i H ∧ D.nx σ H) ∨ (J.go i H ∧ ∃ N : L2.St → Hp → Prop, (∀ σ' H', N σ' H' → ∃ m', m' < m ∧ W (i + 1) m' σ' H') ∧ ∀ x H', J.yld i H x H' → g x σ H' fun σ2 H2 => tb { D with nx := N, ct := N, bk := D.nx } σ2 H2)
theorem st_for (h : wi σ H (ForK g tb D σ)) : tFor wi g tb D σ H := h
theorem forK {J : It} {n : Nat} {G : Hp → Prop} {Y : Nat → Hp → V → Hp → Prop} (w : Walk J n G Y) (Pv : Nat → L2.St → Hp → Prop) (h0 : Pv 0 σ H) (hG : ∀ i σ H, i ≤ n → Pv i σ H → G H)
    (hs : ∀ i x σ H H', i < n → Pv i σ H → Y i H x H' → g x σ H' fun σ2 H2 => tb { D with nx := Pv (i + 1), ct := Pv (i + 1), bk := D.nx } σ2 H2) (hd : ∀ σ H, Pv n σ H → D.nx σ H) : ForK g tb D σ J H := for_it w Pv h0 hG hs hd
/-! ### comprehensions (no test) -/
def LcK (g : TG) (tt : TT) (te : TE) (vs : List Nat) (σ : L2.St) (Q : VK) : It → Hp → Prop := fun J H1 => ∀ D, H1 D = none → ∃ W : Nat → Nat → Hp → Prop, (∃ m, W 0 m (upd H1 D (.lst []))) ∧ ∀ i m H, W i m H →
  (J.stop i H ∧ Q (.ref D) H) ∨ (J.go i H ∧ ∃ Nx : Hp → Prop, (∀ H', Nx H' → ∃ m', m' < m ∧ W (i + 1) m' H') ∧ ∀ x H', J.yld i H x H' → g x (wipe σ vs) H' fun σ2 H2 => wipe σ2 vs = wipe σ vs ∧ tt σ2 H2 fun b H3 =>
    if b = true then te σ2 H3 fun y H4 => ∃ acc, H4 D = some (.lst acc) ∧ acc.length < sizeLine ∧ Nx (upd H4 D (.lst (acc ++ [y]))) else Nx H3)
theorem st_lc (h : wi σ H (LcK g tt te vs σ Q)) : tLc wi g tt te vs σ H Q := h
/-- behind an item of a comprehension -/
def LcN (D : Addr) (P : List V → Hp → Prop) : VK := fun y H4 => ∃ acc, H4 D = some (.lst acc) ∧ acc.length < sizeLine ∧ ∃ acc', P acc' (upd H4 D (.lst (acc ++ [y])))
theorem lcN {A : Addr} {P : List V → Hp → Prop} {y : V} {acc : List V} (h1 : H A = some (.lst acc)) (h2 : acc.length < sizeLine) (p : P (acc ++ [y]) (upd H A (.lst (acc ++ [y])))) : LcN A P y H := ⟨acc, h1, h2, _, p⟩
/-- every item is kept: Pv by the turn, what is made so far, the heap -/
theorem lcK {J : It} {n : Nat} {G : Hp → Prop} {Y : Nat → Hp → V → Hp → Prop} (w : Walk J n G Y) (Pv : Addr → Nat → List V → Hp → Prop)
    (h0 : ∀ D, H D = none → Pv D 0 [] (upd H D (.lst []))) (hG : ∀ D i acc H1, H D = none → i ≤ n → Pv D i acc H1 → G H1)
    (hs : ∀ D i acc x H1 H', H D = none → i < n → Pv D i acc H1 → Y i H1 x H' → g x (wipe σ vs) H' fun σ2 H2 => wipe σ2 vs = wipe σ vs ∧ te σ2 H2 (LcN D (Pv D (i + 1))))
    (hd : ∀ D acc H1, H D = none → Pv D n acc H1 → Q (.ref D) H1) : LcK g tYes te vs σ Q J H := by
  intro D hD
  exact lc_it w (fun i H1 => ∃ acc, Pv D i acc H1) ⟨[], h0 D hD⟩ (fun i H1 hi p => p.elim fun acc p => hG D i acc H1 hD hi p) (fun i x H1 H' hi p y => p.elim fun acc p => hs D i acc x H1 H' hD hi p y) (fun H1 p => p.elim fun acc p => hd D acc H1 hD p)

/-! ### what walks -/
theorem st_iSeq {R : It → Hp → Prop} (h : tl σ H fun x H1 => ∃ (a : Addr) (xs : List V), x = .ref a ∧ ((SqL K H1 a xs ∧ R (Itl K a) H1) ∨ (SqT K H1 a xs ∧ R (Itt K a) H1))) : iSeqA K tl σ H R := h
theorem st_iEnum {ta : TA} {R : It → Hp → Prop} (h : ta σ H fun vs H1 => ∃ (a : Addr) (xs : List V), vs = [.ref a] ∧ ((SqL K H1 a xs ∧ R (Ite K a) H1) ∨ (SqT K H1 a xs ∧ R (IteT K a) H1))) : iEnumA K ta σ H R := h
theorem st_iRev {R : It → Hp → Prop} (h : tl σ H fun v H1 => ∃ (a : Addr) (xs : List V), v = .ref a ∧ ((SqL K H1 a xs ∧ R (Itv K a xs.length) H1) ∨ (SqT K H1 a xs ∧ R (RT.ItvT K a xs.length) H1))) : RT.iRevA K tl σ H R := h
theorem st_iRng1 {ta : TA} {R : It → Hp → Prop} (h : ta σ H fun vs H1 => ∃ j : Int, vs = [.int j] ∧ -(2 ^ 62) ≤ j ∧ j < 2 ^ 62 ∧ R (Itr 0 j.toNat) H1) : iRng1 ta σ H R := h
theorem st_iRng2 {ta : TA} {R : It → Hp → Prop} (h : ta σ H fun vs H1 => ∃ i j : Int, vs = [.int i, .int j] ∧ (-(2 ^ 62) ≤ i ∧ i < 2 ^ 62 ∧ -(2 ^ 62) ≤ j ∧ j < 2 ^ 62) ∧ R (Itr i (j - i).toNat) H1) : iRng2 ta σ H R := h
theorem u_rng1 {n : Int} {P : Int → Prop} (c : -1000000 ≤ n ∧ n ≤ 1000000) (h : P n) : ∃ j : Int, [V.int n] = [.int j] ∧ -(2 ^ 62) ≤ j ∧ j < 2 ^ 62 ∧ P j := ⟨n, rfl, by omega, by omega, h⟩
theorem u_rng2 {n m : Int} {P : Int → Int → Prop} (c : -1000000 ≤ n ∧ n ≤ 1000000 ∧ -1000000 ≤ m ∧ m ≤ 1000000) (h : P n m) : ∃ i j : Int, [V.int n, V.int m] = [.int i, .int j] ∧ (-(2 ^ 62) ≤ i ∧ i < 2 ^ 62 ∧ -(2 ^ 62) ≤ j ∧ j < 2 ^ 62) ∧ P i j := ⟨n, m, rfl, by omega, h⟩

/-! ### the law's bag: a list of three ints -/
def BagAt (H : Hp) (b : Addr) (n : Nat) : Prop := ∃ r s c : Int, H b = some (.lst [.int r, .int s, .int c]) ∧ 0 ≤ c ∧ c ≤ n
theorem BagAt.mono {b : Addr} {n m : Nat} (h : BagAt H b n) (l : n ≤ m) : BagAt H b m := by
  obtain ⟨r, s, c, h, h1, h2⟩ := h
  exact ⟨r, s, c, h, h1, by omega⟩
theorem BagAt.same {b : Addr} {n : Nat} {H' : Hp} (h : BagAt H b n) (e : Same H H') : BagAt H' b n := by
  obtain ⟨r, s, c, h, h1, h2⟩ := h
  exact ⟨r, s, c, e b _ h, h1, h2⟩
/-- what is no list of three ints is not the bag -/
theorem BagAt.ne {b a : Addr} {n : Nat} {o : HO} (h : BagAt H b n) (e : H a = some o) (d : ∀ r s c : Int, o ≠ .lst [.int r, .int s, .int c]) : a ≠ b := by
  rintro rfl
  obtain ⟨r, s, c, h, _, _⟩ := h
  rw [h] at e
  exact d r s c (Option.some.inj e).symm
theorem BagAt.imm {b : Addr} {n : Nat} {H' : Hp} (h : BagAt H b n) (e : SameX b H H') : Imm H H' := by
  obtain ⟨r, s, c, h, _, _⟩ := h
  exact e.imm h
end

/-! ### lists of fractions -/
def Fs (K : PySem.W.Frag) (H : Hp) : List V → List Rat → Prop
  | [], [] => True
  | v :: vs, q :: qs => Fr K H v q ∧ Fs K H vs qs
  | _, _ => False
section
variable {K : PySem.W.Frag} {H H' : Hp}
theorem Fs.imm (e : Imm H H') : ∀ {vs : List V} {qs : List Rat}, Fs K H vs qs → Fs K H' vs qs
  | [], [], _ => trivial
  | _ :: _, _ :: _, h => ⟨h.1.imm e, Fs.imm e h.2⟩
  | [], _ :: _, h => h.elim
  | _ :: _, [], h => h.elim
theorem Fs.same {vs : List V} {qs : List Rat} (h : Fs K H vs qs) (e : Same H H') : Fs K H' vs qs := h.imm e.imm
theorem Fs.len : ∀ {vs : List V} {qs : List Rat}, Fs K H vs qs → vs.length = qs.length
  | [], [], _ => rfl
  | _ :: _, _ :: _, h => congrArg Nat.succ (Fs.len h.2)
  | [], _ :: _, h => h.elim
  | _ :: _, [], h => h.elim
theorem Fs.get : ∀ {vs : List V} {qs : List Rat} {i : Nat} {v : V}, Fs K H vs qs → vs[i]? = some v → ∃ q, qs[i]? = some q ∧ Fr K H v q
  | _ :: _, q :: _, 0, _, h, e => ⟨q, rfl, by cases e; exact h.1⟩
  | _ :: vs, _ :: qs, i + 1, v, h, e => by
    obtain ⟨q, h1, h2⟩ := Fs.get (i := i) (v := v) h.2 (by simpa using e)
    exact ⟨q, by simpa using h1, h2⟩
  | [], [], _, _, _, e => by simp at e
  | [], _ :: _, _, _, h, _ => h.elim
  | _ :: _, [], _, _, h, _ => h.elim
theorem Fs.getQ : ∀ {vs : List V} {qs : List Rat} {i : Nat} {q : Rat}, Fs K H vs qs → qs[i]? = some q → ∃ v, vs[i]? = some v ∧ Fr K H v q
  | v :: _, _ :: _, 0, _, h, e => ⟨v, rfl, by cases e; exact h.1⟩
  | _ :: vs, _ :: qs, i + 1, v, h, e => by
    obtain ⟨q, h1, h2⟩ := Fs.getQ (i := i) (q := v) h.2 (by simpa using e)
    exact ⟨q, by simpa using h1, h2⟩
  | [], [], _, _, _, e => by simp at e
  | [], _ :: _, _, _, h, _ => h.elim
  | _ :: _, [], _, _, h, _ => h.elim
theorem Fs.append : ∀ {vs ws : List V} {qs rs : List Rat}, Fs K H vs qs → Fs K H ws rs → Fs K H (vs ++ ws) (qs ++ rs)
  | [], _, [], _, _, k => k
  | _ :: _, _, _ :: _, _, h, k => ⟨h.1, Fs.append h.2 k⟩
  | [], _, _ :: _, _, h, _ => h.elim
  | _ :: _, _, [], _, h, _ => h.elim
theorem Fs.snoc {vs : List V} {qs : List Rat} {v : V} {q : Rat} (h : Fs K H vs qs) (k : Fr K H v q) : Fs K H (vs ++ [v]) (qs ++ [q]) := h.append ⟨k, trivial⟩
theorem Fs.take : ∀ {vs : List V} {qs : List Rat} (n : Nat), Fs K H vs qs → Fs K H (vs.take n) (qs.take n)
  | [], [], n, _ => by rw [List.take_nil, List.take_nil]; trivial
  | _ :: _, _ :: _, 0, _ => trivial
  | _ :: _, _ :: _, n + 1, h => ⟨h.1, Fs.take n h.2⟩
  | [], _ :: _, _, h => h.elim
  | _ :: _, [], _, h => h.elim
theorem Fs.drop : ∀ {vs : List V} {qs : List Rat} (n : Nat), Fs K H vs qs → Fs K H (vs.drop n) (qs.drop n)
  | [], [], n, _ => by rw [List.drop_nil, List.drop_nil]; trivial
  | _ :: _, _ :: _, 0, h => h
  | _ :: _, _ :: _, n + 1, h => Fs.drop n h.2
  | [], _ :: _, _, h => h.elim
  | _ :: _, [], _, h => h.elim
theorem Fs.set : ∀ {vs : List V} {qs : List Rat} {v : V} {q : Rat} (i : Nat), Fs K H vs qs → Fr K H v q → Fs K H (vs.set i v) (qs.set i q)
  | [], [], _, _, _, _, _ => trivial
  | _ :: _, _ :: _, _, _, 0, h, k => ⟨k, h.2⟩
  | _ :: _, _ :: _, _, _, i + 1, h, k => ⟨h.1, Fs.set i h.2 k⟩
  | [], _ :: _, _, _, _, h, _ => h.elim
  | _ :: _, [], _, _, _, h, _ => h.elim
theorem Fs.rep {v : V} {q : Rat} (h : Fr K H v q) : ∀ n : Nat, Fs K H (List.replicate n v) (List.replicate n q)
  | 0 => trivial
  | n + 1 => ⟨h, Fs.rep h n⟩
/-- a list or a tuple of fractions; a list of one's own; a tuple -/
def Row (K : PySem.W.Frag) (H : Hp) (v : V) (qs : List Rat) : Prop := ∃ a xs, v = .ref a ∧ Sq K H a xs ∧ Fs K H xs qs
def RowL (K : PySem.W.Frag) (H : Hp) (v : V) (qs : List Rat) : Prop := ∃ a xs, v = .ref a ∧ H a = some (.lst xs) ∧ Fs K H xs qs
def RowT (K : PySem.W.Frag) (H : Hp) (v : V) (qs : List Rat) : Prop := ∃ a xs, v = .ref a ∧ SqT K H a xs ∧ Fs K H xs qs
theorem RowL.row {v : V} {qs : List Rat} (h : RowL K H v qs) : Row K H v qs := let ⟨a, xs, e, h1, h2⟩ := h; ⟨a, xs, e, .inl (SqL.of h1), h2⟩
theorem RowT.row {v : V} {qs : List Rat} (h : RowT K H v qs) : Row K H v qs := let ⟨a, xs, e, h1, h2⟩ := h; ⟨a, xs, e, .inr h1, h2⟩
theorem Row.same {v : V} {qs : List Rat} (h : Row K H v qs) (e : Same H H') : Row K H' v qs := let ⟨a, xs, z, h1, h2⟩ := h; ⟨a, xs, z, e.sq h1, h2.same e⟩
theorem RowL.same {v : V} {qs : List Rat} (h : RowL K H v qs) (e : Same H H') : RowL K H' v qs := let ⟨a, xs, z, h1, h2⟩ := h; ⟨a, xs, z, e _ _ h1, h2.same e⟩
theorem RowT.same {v : V} {qs : List Rat} (h : RowT K H v qs) (e : Same H H') : RowT K H' v qs := let ⟨a, xs, z, h1, h2⟩ := h; ⟨a, xs, z, e.t h1, h2.same e⟩
theorem RowT.imm {v : V} {qs : List Rat} (h : RowT K H v qs) (e : Imm H H') : RowT K H' v qs := let ⟨a, xs, z, h1, h2⟩ := h; ⟨a, xs, z, e.t h1, h2.imm e⟩
theorem fs_ne {xs : List V} {qs : List Rat} (h : Fs K H xs qs) (r s c : Int) : HO.lst xs ≠ .lst [.int r, .int s, .int c] := by
  intro e
  injection e with e
  subst e
  match qs, h with
  | _ :: _, h =>
    obtain ⟨⟨_, e, _⟩, _⟩ := h
    cases e
/-- the bag's change leaves rows as they are -/
theorem Row.bag {b : Addr} {n : Nat} {v : V} {qs : List Rat} (h : Row K H v qs) (hb : BagAt H b n) (e : SameX b H H') : Row K H' v qs := by
  obtain ⟨a, xs, rfl, h1, h2⟩ := h
  refine ⟨a, xs, rfl, ?_, h2.imm (hb.imm e)⟩
  rcases h1 with ((h1 | ⟨o, h1⟩) | h1) | h1
  · exact .inl (.inl (.inl (e a _ (hb.ne h1 fun r s c => fs_ne h2 r s c) h1)))
  · exact .inl (.inl (.inr ⟨o, e a _ (hb.ne h1 fun _ _ _ z => nomatch z) h1⟩))
  · exact .inl (.inr h1)
  · exact .inr ((hb.imm e).t h1)
theorem RowL.bag {b : Addr} {n : Nat} {v : V} {qs : List Rat} (h : RowL K H v qs) (hb : BagAt H b n) (e : SameX b H H') : RowL K H' v qs := by
  obtain ⟨a, xs, rfl, h1, h2⟩ := h
  exact ⟨a, xs, rfl, e a _ (hb.ne h1 fun r s c => fs_ne h2 r s c) h1, h2.imm (hb.imm e)⟩
theorem Fr.bag {b : Addr} {n : Nat} {v : V} {q : Rat} (h : Fr K H v q) (hb : BagAt H b n) (e : SameX b H H') : Fr K H' v q := h.imm (hb.imm e)
end

theorem cutV_to {xs : List V} (n : Nat) : cutV xs none (some (n : Int)) = xs.take n := by
  unfold cutV
  rw [HT.sIx_none, HT.sIx_nat, List.drop_zero, Nat.sub_zero]
  rcases Nat.le_total n xs.length with h | h
  · rw [Nat.min_eq_left h]
  · rw [Nat.min_eq_right h, List.take_of_length_le h, List.take_of_length_le (Nat.le_refl _)]
theorem u_cut {t u : TS} {D : Ends} {σ : L2.St} {H : Hp} (M : L2.St → Hp → Prop) (h1 : t { D with nx := M } σ H) (h2 : ∀ σ' H', M σ' H' → u D σ' H') : Evl.tCut t u D σ H := ⟨M, h1, h2⟩
/-- a list's cut -/
theorem u_slL {K : PySem.W.Frag} {H : Hp} {Q : VK} {p : Addr} {xs : List V} {lo hi : Option Int} (h : SqL K H p xs) (q : ∀ l, H l = none → Q (.ref l) (upd H l (.lst (cutV xs lo hi)))) : rSlU K (.ref p) lo hi H Q := .inl ⟨p, xs, rfl, h, q⟩
theorem u_sum {K : PySem.W.Frag} {H : Hp} {Q : VK} {p : Addr} {ns : List Int} (h : SqL K H p (ns.map V.int)) (q : Q (.int ns.sum) H) : rSum K [.ref p] H Q := ⟨p, ns, rfl, h, q⟩
theorem take_more {α : Type} : ∀ {l : List α} {i : Nat} {x : α}, l[i]? = some x → l.take i ++ [x] = l.take (i + 1)
  | [], _, _, h => by simp at h
  | _ :: _, 0, _, h => by cases h; rfl
  | a :: l, i + 1, x, h => by
    show a :: (l.take i ++ [x]) = a :: l.take (i + 1)
    rw [take_more (l := l) (i := i) (x := x) h]
theorem walk_range0 {n : Nat} : Walk (Itr 0 n) n (fun _ => True) (fun i H v H' => H' = H ∧ v = .int (i : Nat)) :=
  ⟨fun _ _ hi _ => hi, fun _ _ => Nat.le_refl _, fun i H x H' _ _ y => by
    obtain ⟨y1, y2⟩ := y
    exact ⟨y1, by rw [y2, Int.zero_add]⟩⟩
end Ly

set_option maxHeartbeats 4000000
/-! the entries that the law draws; sizes of lists of fractions by a common denominator -/
namespace Ly
open PySem PySem.Spec PyProof.Rows L2
/-- a small entry: over 420 -/
def Sm (q : Rat) : Prop := ∃ k : Int, q = (k : Rat) / 420 ∧ k.natAbs ≤ 3780
def En (large : Bool) (q : Rat) : Prop := Bq 31 q ∧ (large = false → Sm q)
theorem num_int (n : Int) : ((n : Rat)).num = n ∧ ((n : Rat)).den = 1 := ⟨rfl, rfl⟩
theorem en_int {large : Bool} {n : Int} (h1 : -9 ≤ n) (h2 : n ≤ 9) : En large (n : Rat) := by
  refine ⟨⟨?_, ?_⟩, fun _ => ⟨n * 420, ?_, by omega⟩⟩
  · show n.natAbs < 2 ^ 31; omega
  · show ((1 : Nat) : Int).natAbs < 2 ^ 31; decide
  · push_cast
    grind
theorem en_low {large : Bool} {a u : Int} (h1 : -9 ≤ a) (h2 : a ≤ 9) (h3 : 1 ≤ u) (h4 : u ≤ 7) : En large (Rat.divInt a u) := by
  refine ⟨Bq.of_div (by show a.natAbs < 2 ^ 31; omega) (by show u.natAbs < 2 ^ 31; omega) (by decide), fun _ => ?_⟩
  have hc : u = 1 ∨ u = 2 ∨ u = 3 ∨ u = 4 ∨ u = 5 ∨ u = 6 ∨ u = 7 := by omega
  rw [Rat.divInt_eq_div]
  rcases hc with rfl | rfl | rfl | rfl | rfl | rfl | rfl
  · exact ⟨a * 420, by push_cast; grind, by omega⟩
  · exact ⟨a * 210, by push_cast; grind, by omega⟩
  · exact ⟨a * 140, by push_cast; grind, by omega⟩
  · exact ⟨a * 105, by push_cast; grind, by omega⟩
  · exact ⟨a * 84, by push_cast; grind, by omega⟩
  · exact ⟨a * 70, by push_cast; grind, by omega⟩
  · exact ⟨a * 60, by push_cast; grind, by omega⟩
theorem en_large {a u : Int} (h1 : -9 ≤ a) (h2 : a ≤ 9) (h3 : 1 ≤ u) (h4 : u ≤ 7) : En true (Rat.divInt (a * 111111110 + 1) (u * 142857142 + 1)) :=
  ⟨Bq.of_div (by show Int.natAbs _ < 2 ^ 31; omega) (by show Int.natAbs _ < 2 ^ 31; omega) (by decide), fun z => nomatch z⟩

/-! ### sizes by a common denominator: below 2^s -/
def Sz (s : Nat) (p : List Rat) : Prop := ∃ D : Nat, 0 < D ∧ D < 2 ^ s ∧ ∀ q ∈ p, ∃ k : Int, q = (k : Rat) / (D : Rat) ∧ k.natAbs < 2 ^ s
theorem Sz.mono {s t : Nat} {p : List Rat} (h : Sz s p) (l : s ≤ t) : Sz t p := by
  obtain ⟨D, h0, h1, h2⟩ := h
  have e : 2 ^ s ≤ 2 ^ t := Nat.pow_le_pow_right (by decide) l
  exact ⟨D, h0, by omega, fun q hq => let ⟨k, e1, e2⟩ := h2 q hq; ⟨k, e1, by omega⟩⟩
theorem Sz.sub {s : Nat} {p r : List Rat} (h : Sz s p) (l : ∀ q ∈ r, q ∈ p ∨ q = 0) : Sz s r := by
  obtain ⟨D, h0, h1, h2⟩ := h
  refine ⟨D, h0, h1, fun q hq => ?_⟩
  rcases l q hq with z | z
  · exact h2 q z
  · subst z
    exact ⟨0, by rw [show ((0 : Int) : Rat) = 0 from rfl]; grind, by simp; exact Nat.pos_of_ne_zero (by simp)⟩
theorem Sz.bq {s : Nat} {p : List Rat} {q : Rat} (h : Sz s p) (hq : q ∈ p) (h0 : 0 < s) : Bq s q := by
  obtain ⟨D, d0, d1, h2⟩ := h
  obtain ⟨k, rfl, hk⟩ := h2 q hq
  have e := Rat.divInt_eq_div k (D : Int)
  rw [show ((D : Int) : Rat) = (D : Rat) from rfl] at e
  rw [← e]
  exact Bq.of_div hk (by show (D : Int).natAbs < 2 ^ s; omega) h0
theorem sz_small {p : List Rat} (h : ∀ q ∈ p, Sm q) : Sz 12 p := ⟨420, by decide, by decide, fun q hq => by
  obtain ⟨k, e, hk⟩ := h q hq
  exact ⟨k, e, by omega⟩⟩
/-- the product of the denominators -/
theorem sz_large : ∀ {p : List Rat}, (∀ q ∈ p, Bq 31 q) → Sz (31 * (p.length + 1)) p
  | [], _ => ⟨1, by decide, by decide, fun q hq => nomatch hq⟩
  | q :: p, h => by
    obtain ⟨D, h0, h1, h2⟩ := sz_large (p := p) fun r hr => h r (List.mem_cons_of_mem _ hr)
    obtain ⟨b1, b2⟩ := h q List.mem_cons_self
    have b2' : q.den < 2 ^ 31 := by
      have : ((q.den : Int)).natAbs < 2 ^ 31 := b2
      omega
    have e : 31 * ((q :: p).length + 1) = 31 * (p.length + 1) + 31 := by simp; omega
    have hD : D * q.den < 2 ^ (31 * ((q :: p).length + 1)) := by
      rw [e, Nat.pow_add]
      exact Nat.mul_lt_mul'' h1 b2'
    refine ⟨D * q.den, Nat.mul_pos h0 q.den_pos, hD, fun r hr => ?_⟩
    have dn := den_ne q
    have Dn : (D : Rat) ≠ 0 := by
      intro z
      have : D = 0 := by exact_mod_cast z
      omega
    rcases List.mem_cons.mp hr with rfl | hr
    · refine ⟨r.num * D, ?_, ?_⟩
      · have := divInt_den r
        push_cast
        grind
      · rw [Int.natAbs_mul, e, Nat.pow_add, Nat.mul_comm]
        exact Nat.mul_lt_mul'' (by simpa using h1) b1
    · obtain ⟨k, e1, e2⟩ := h2 r hr
      refine ⟨k * q.den, ?_, ?_⟩
      · rw [e1]
        push_cast
        grind
      · rw [Int.natAbs_mul, e, Nat.pow_add]
        exact Nat.mul_lt_mul'' e2 (by simpa using b2')
end Ly

set_option maxHeartbeats 4000000
/-! polynomials as lists of fractions: plain mathematics -/
namespace Ly
/-! ### coefficients, the trimmed form -/
def cf (p : List Rat) (i : Nat) : Rat := p.getD i 0
theorem cf_get {p : List Rat} {i : Nat} {q : Rat} (h : p[i]? = some q) : cf p i = q := by unfold cf; rw [List.getD_eq_getElem?_getD, h]; rfl
theorem cf_out {p : List Rat} {i : Nat} (h : p.length ≤ i) : cf p i = 0 := by unfold cf; rw [List.getD_eq_getElem?_getD, List.getElem?_eq_none h]; rfl
theorem cf_in {p : List Rat} {i : Nat} (h : i < p.length) : p[i]? = some (cf p i) := by
  unfold cf; rw [List.getD_eq_getElem?_getD, List.getElem?_eq_getElem h]; rfl
theorem cf_mem {p : List Rat} {i : Nat} (h : i < p.length) : cf p i ∈ p := List.mem_of_getElem? (cf_in h)
theorem cf_ext {p q : List Rat} (hl : p.length = q.length) (h : ∀ i, i < p.length → cf p i = cf q i) : p = q := by
  refine List.ext_getElem? fun i => ?_
  by_cases hi : i < p.length
  · rw [cf_in hi, cf_in (hl ▸ hi), h i hi]
  · rw [List.getElem?_eq_none (by omega), List.getElem?_eq_none (by omega)]
theorem cf_take {p : List Rat} {n i : Nat} : cf (p.take n) i = if i < n then cf p i else 0 := by
  unfold cf
  rw [List.getD_eq_getElem?_getD, List.getD_eq_getElem?_getD, List.getElem?_take]
  split <;> rfl
theorem cf_map {n i : Nat} {f : Nat → Rat} : cf ((List.range n).map f) i = if i < n then f i else 0 := by
  unfold cf
  rw [List.getD_eq_getElem?_getD, List.getElem?_map]
  by_cases h : i < n
  · rw [List.getElem?_range h, if_pos h]; rfl
  · rw [List.getElem?_eq_none (by simpa using h), if_neg h]; rfl
theorem cf_set {p : List Rat} {j i : Nat} {q : Rat} (h : j < p.length) : cf (p.set j q) i = if i = j then q else cf p i := by
  unfold cf
  rw [List.getD_eq_getElem?_getD, List.getD_eq_getElem?_getD, List.getElem?_set]
  by_cases e : i = j
  · subst e; simp [h]
  · rw [if_neg (Ne.symm e), if_neg e]
theorem cf_append {p q : List Rat} {i : Nat} : cf (p ++ q) i = if i < p.length then cf p i else cf q (i - p.length) := by
  unfold cf
  rw [List.getD_eq_getElem?_getD, List.getD_eq_getElem?_getD, List.getD_eq_getElem?_getD]
  split
  · rw [List.getElem?_append_left (by assumption)]
  · rw [List.getElem?_append_right (by omega)]
theorem cf_rep {n i : Nat} : cf (List.replicate n 0) i = 0 := by
  unfold cf
  rw [List.getD_eq_getElem?_getD, List.getElem?_replicate]
  split <;> rfl
/-- how much of p is left when the zeros at the end are taken off -/
def tlen : List Rat → Nat
  | [] => 0
  | q :: r => if tlen r = 0 then (if q = 0 then 0 else 1) else tlen r + 1
theorem tlen_le : ∀ p, tlen p ≤ p.length
  | [] => Nat.le_refl _
  | q :: r => by
    have := tlen_le r
    unfold tlen
    split
    · split <;> simp
    · simp; omega
theorem tlen_out : ∀ {p : List Rat} {i : Nat}, tlen p ≤ i → cf p i = 0
  | [], i, _ => rfl
  | q :: r, 0, h => by
    unfold tlen at h
    split at h
    · split at h
      · assumption
      · omega
    · omega
  | q :: r, i + 1, h => by
    show cf r i = 0
    refine tlen_out ?_
    unfold tlen at h
    split at h
    · omega
    · omega
theorem tlen_top : ∀ {p : List Rat}, 0 < tlen p → cf p (tlen p - 1) ≠ 0
  | [], h => absurd h (Nat.lt_irrefl _)
  | q :: r, h => by
    unfold tlen at h ⊢
    by_cases e : tlen r = 0
    · rw [if_pos e] at h ⊢
      by_cases z : q = 0
      · rw [if_pos z] at h; omega
      · rw [if_neg z]; exact z
    · rw [if_neg e]
      show cf (q :: r) (tlen r) ≠ 0
      have := tlen_top (p := r) (by omega)
      rw [show tlen r = (tlen r - 1) + 1 by omega]
      exact this
theorem tlen_is {p : List Rat} {m : Nat} (h1 : ∀ i, m ≤ i → cf p i = 0) (h2 : 0 < m → cf p (m - 1) ≠ 0) : m = tlen p := by
  rcases Nat.lt_trichotomy m (tlen p) with h | h | h
  · exact absurd (h1 (tlen p - 1) (by omega)) (tlen_top (by omega))
  · exact h
  · exact absurd (tlen_out (p := p) (i := m - 1) (by omega)) (h2 (by omega))
def trim (p : List Rat) : List Rat := p.take (tlen p)
theorem trim_len (p : List Rat) : (trim p).length = tlen p := by unfold trim; rw [List.length_take]; have := tlen_le p; omega
theorem cf_trim (p : List Rat) (i : Nat) : cf (trim p) i = cf p i := by
  unfold trim
  rw [cf_take]
  split
  · rfl
  · exact (tlen_out (by omega)).symm
def IsT (p : List Rat) : Prop := 0 < p.length → cf p (p.length - 1) ≠ 0
theorem trim_isT (p : List Rat) : IsT (trim p) := fun h => by
  rw [trim_len] at h ⊢
  rw [cf_trim]
  exact tlen_top h
theorem IsT.tlen {p : List Rat} (h : IsT p) : tlen p = p.length := (tlen_is (fun i hi => cf_out hi) h).symm
theorem IsT.eq {p : List Rat} (h : IsT p) : trim p = p := by unfold trim; rw [h.tlen, List.take_length]
theorem isT_ext {p q : List Rat} (hp : IsT p) (hq : IsT q) (h : ∀ i, cf p i = cf q i) : p = q := by
  have e : p.length = q.length := by
    rw [← hp.tlen, ← hq.tlen]
    refine tlen_is (fun i hi => by rw [← h]; exact tlen_out hi) fun h0 => by rw [← h]; exact tlen_top h0
  exact cf_ext e fun i _ => h i
theorem trim_ext {p q : List Rat} (h : ∀ i, cf p i = cf q i) : trim p = trim q := isT_ext (trim_isT p) (trim_isT q) fun i => by rw [cf_trim, cf_trim, h]
theorem isT_trim {p q : List Rat} (hp : IsT p) (h : ∀ i, cf p i = cf q i) : trim q = p := by
  rw [← hp.eq]; exact (trim_ext h).symm
theorem trim_mem {p : List Rat} {q : Rat} (h : q ∈ trim p) : q ∈ p := List.mem_of_mem_take h
theorem isT_nil : IsT [] := fun h => absurd h (by decide)

/-! ### sums, products -/
def sumTo : Nat → (Nat → Rat) → Rat
  | 0, _ => 0
  | n + 1, f => sumTo n f + f n
theorem sumTo_congr {n : Nat} {f g : Nat → Rat} (h : ∀ i, i < n → f i = g i) : sumTo n f = sumTo n g := by
  induction n with
  | zero => rfl
  | succ n ih => unfold sumTo; rw [ih fun i hi => h i (by omega), h n (by omega)]
theorem sumTo_zero {n : Nat} {f : Nat → Rat} (h : ∀ i, i < n → f i = 0) : sumTo n f = 0 := by
  induction n with
  | zero => rfl
  | succ n ih => unfold sumTo; rw [ih fun i hi => h i (by omega), h n (by omega)]; grind
theorem sumTo_add {n : Nat} {f g : Nat → Rat} : sumTo n (fun i => f i + g i) = sumTo n f + sumTo n g := by
  induction n with
  | zero => show (0 : Rat) = 0 + 0; grind
  | succ n ih => unfold sumTo; rw [ih]; grind
theorem sumTo_more {n m : Nat} {f : Nat → Rat} (h : ∀ i, n ≤ i → f i = 0) (l : n ≤ m) : sumTo m f = sumTo n f := by
  induction m with
  | zero => rw [show n = 0 by omega]
  | succ m ih =>
    by_cases e : n = m + 1
    · rw [e]
    · show sumTo m f + f m = _
      rw [ih (by omega), h m (by omega)]
      grind
/-- one term alone -/
theorem sumTo_one {n k : Nat} {f : Nat → Rat} (hk : k < n) (h : ∀ i, i < n → i ≠ k → f i = 0) : sumTo n f = f k := by
  induction n with
  | zero => omega
  | succ n ih =>
    unfold sumTo
    by_cases e : k = n
    · subst e
      rw [sumTo_zero fun i hi => h i (by omega) (by omega)]; grind
    · rw [ih (by omega) fun i hi hne => h i (by omega) hne, h n (by omega) (by omega)]; grind
/-- the terms of the product that come from the first J coefficients of p -/
def pc (p q : List Rat) (J i : Nat) : Rat := sumTo J fun j => if j ≤ i then cf p j * cf q (i - j) else 0
def cv (p q : List Rat) (i : Nat) : Rat := pc p q p.length i
theorem pc_succ (p q : List Rat) (J i : Nat) : pc p q (J + 1) i = pc p q J i + (if J ≤ i then cf p J * cf q (i - J) else 0) := rfl
theorem cv_ge {p q : List Rat} {J i : Nat} (h : p.length ≤ J) : pc p q J i = cv p q i := sumTo_more (fun j hj => by rw [cf_out hj]; split <;> grind) h
theorem cv_out {p q : List Rat} {i : Nat} (h : p.length + q.length ≤ i + 1) : cv p q i = 0 := sumTo_zero fun j hj => by
  split
  · rw [cf_out (p := q) (by omega)]; grind
  · rfl
def pmul (p q : List Rat) : List Rat := trim ((List.range (p.length + q.length)).map (cv p q))
theorem cf_pmul (p q : List Rat) (i : Nat) : cf (pmul p q) i = cv p q i := by
  unfold pmul
  rw [cf_trim, cf_map]
  split
  · rfl
  · exact (cv_out (by omega)).symm
def padd (p q : List Rat) : List Rat := trim ((List.range (max p.length q.length)).map fun i => cf p i + cf q i)
theorem cf_padd (p q : List Rat) (i : Nat) : cf (padd p q) i = cf p i + cf q i := by
  unfold padd
  rw [cf_trim, cf_map]
  split
  · rfl
  · rw [cf_out (p := p) (by omega), cf_out (p := q) (by omega)]; grind

/-! ### division: from the top down -/
/-- one step: the coefficient at a + m - 1 goes -/
def rs (u : List Rat) (a : Nat) (c : Nat → Rat) : Nat → Rat := fun i => c i - c (a + u.length - 1) / cf u (u.length - 1) * (if a ≤ i then cf u (i - a) else 0)
def rdn (u : List Rat) : Nat → (Nat → Rat) → Nat → Rat
  | 0, c => c
  | n + 1, c => rdn u n (rs u n c)
theorem rs_skip {u : List Rat} {a : Nat} {c : Nat → Rat} (h : c (a + u.length - 1) = 0) : rs u a c = c := by
  funext i
  unfold rs
  rw [h]
  grind
theorem rs_top {u : List Rat} {a : Nat} {c : Nat → Rat} (hu : 0 < u.length) (ht : cf u (u.length - 1) ≠ 0) : rs u a c (a + u.length - 1) = 0 := by
  unfold rs
  rw [if_pos (by omega), show a + u.length - 1 - a = u.length - 1 by omega]
  grind
theorem rs_above {u : List Rat} {a i : Nat} {c : Nat → Rat} (h : a + u.length ≤ i) : rs u a c i = c i := by
  unfold rs
  rw [cf_out (p := u) (show u.length ≤ i - a by omega)]
  split <;> grind
theorem rdn_skip {u : List Rat} {c : Nat → Rat} {n m : Nat} (hu : 0 < u.length) (h : ∀ i, m + u.length - 1 ≤ i → c i = 0) (l : m ≤ n) : rdn u n c = rdn u m c := by
  induction n with
  | zero => rw [show m = 0 by omega]
  | succ n ih =>
    by_cases e : m = n + 1
    · rw [e]
    · show rdn u n (rs u n c) = _
      rw [rs_skip (h _ (by omega)), ih (by omega)]
/-- the remainder's coefficients -/
def remC (p u : List Rat) : Nat → Rat := rdn u (p.length + 1 - u.length) (cf p)
theorem rdn_above {u : List Rat} (hu : 0 < u.length) (ht : cf u (u.length - 1) ≠ 0) : ∀ {n : Nat} {c : Nat → Rat} {i : Nat}, (∀ j, n + u.length - 1 ≤ j → c j = 0) → u.length - 1 ≤ i → rdn u n c i = 0
  | 0, c, i, h, hi => h i (by omega)
  | n + 1, c, i, h, hi => by
    unfold rdn
    refine rdn_above hu ht (fun j hj => ?_) hi
    by_cases e : j = n + u.length - 1
    · rw [e]; exact rs_top hu ht
    · rw [rs_above (by omega)]; exact h j (by omega)
theorem remC_out {p u : List Rat} {i : Nat} (hu : 0 < u.length) (ht : IsT u) (hi : u.length - 1 ≤ i) : remC p u i = 0 := by
  unfold remC
  refine rdn_above hu (ht hu) (fun j hj => ?_) hi
  exact cf_out (by omega)
def prem (p u : List Rat) : List Rat := trim ((List.range (u.length - 1)).map (remC p u))
theorem cf_prem {p u : List Rat} (hu : 0 < u.length) (ht : IsT u) (i : Nat) : cf (prem p u) i = remC p u i := by
  unfold prem
  rw [cf_trim, cf_map]
  split
  · rfl
  · exact (remC_out hu ht (by omega)).symm
theorem prem_lt {p u : List Rat} (hu : 0 < u.length) : (prem p u).length < u.length := by
  unfold prem
  rw [trim_len]
  have := tlen_le ((List.range (u.length - 1)).map (remC p u))
  rw [List.length_map, List.length_range] at this
  omega
/-- the quotient's new coefficient, told by the product -/
theorem cv_set {p u : List Rat} {a i : Nat} {f : Rat} (ha : a < p.length) (h0 : cf p a = 0) : cv (p.set a f) u i = cv p u i + f * (if a ≤ i then cf u (i - a) else 0) := by
  unfold cv
  rw [List.length_set]
  have e : ∀ j, (if j ≤ i then cf (p.set a f) j * cf u (i - j) else 0) = (if j ≤ i then cf p j * cf u (i - j) else 0) + (if j = a then (if a ≤ i then f * cf u (i - a) else 0) else 0) := fun j => by
    rw [cf_set ha]
    by_cases z : j = a
    · subst z
      rw [if_pos rfl, if_pos rfl, h0]
      split <;> grind
    · rw [if_neg z, if_neg z]; grind
  unfold pc
  rw [sumTo_congr fun j _ => e j, sumTo_add, sumTo_one (k := a) (f := fun j => if j = a then (if a ≤ i then f * cf u (i - a) else 0) else 0) ha (fun j _ hj => if_neg hj), if_pos rfl]
  split <;> grind

/-! ### the greatest common divisor -/
def monic (p : List Rat) : List Rat := p.map fun q => q / cf p (p.length - 1)
theorem monic_len (p : List Rat) : (monic p).length = p.length := by unfold monic; rw [List.length_map]
def gcdN : Nat → List Rat → List Rat → List Rat
  | 0, a, _ => a
  | n + 1, a, b => if b.length = 0 then a else gcdN n b (monic (prem a b))
theorem gcdN_more {n : Nat} : ∀ {m : Nat} {a b : List Rat}, b.length ≤ n → b.length ≤ m → gcdN n a b = gcdN m a b := by
  induction n with
  | zero =>
    intro m a b h _
    cases m with
    | zero => rfl
    | succ m => unfold gcdN; rw [if_pos (by omega)]
  | succ n ih =>
    intro m a b h k
    by_cases e : b.length = 0
    · cases m with
      | zero => unfold gcdN; rw [if_pos e]
      | succ m => unfold gcdN; rw [if_pos e, if_pos e]
    · cases m with
      | zero => omega
      | succ m =>
        unfold gcdN
        rw [if_neg e, if_neg e]
        have := prem_lt (p := a) (u := b) (by omega)
        exact ih (by rw [monic_len]; omega) (by rw [monic_len]; omega)
theorem monic_isT {p : List Rat} (h : IsT p) : IsT (monic p) := fun h0 => by
  rw [monic_len] at h0 ⊢
  have ht := h h0
  have e : (monic p)[p.length - 1]? = some (cf p (p.length - 1) / cf p (p.length - 1)) := by
    unfold monic
    rw [List.getElem?_map, cf_in (by omega)]
    rfl
  rw [cf_get e]
  grind
end Ly
namespace Ly
theorem tlen_take_succ {p : List Rat} {i : Nat} (h : i < p.length) : tlen (p.take (i + 1)) = if cf p i = 0 then tlen (p.take i) else i + 1 := by
  have e : ∀ j, cf (p.take (i + 1)) j = if j < i + 1 then cf p j else 0 := fun j => cf_take
  symm
  refine tlen_is (fun j hj => ?_) fun h0 => ?_
  · rw [e]
    split at hj
    · rename_i z
      split
      · by_cases c : j = i
        · rw [c]; exact z
        · have := tlen_out (p := p.take i) hj
          rw [cf_take, if_pos (by omega)] at this
          exact this
      · rfl
    · rw [if_neg (by omega)]
  · rw [e]
    split at h0
    · rename_i z
      rw [if_pos z]
      have l1 := tlen_le (p.take i)
      rw [List.length_take] at l1
      rw [if_pos (by omega)]
      have := tlen_top h0
      rw [cf_take, if_pos (by omega)] at this
      exact this
    · rename_i z
      rw [if_neg z, if_pos (by omega)]
      exact z
/-- all of n bits -/
def BqL (n : Nat) (p : List Rat) : Prop := ∀ q ∈ p, Bq n q
theorem Bq.zero {n : Nat} (h : 0 < n) : Bq n 0 := by
  have e : 2 ^ 1 ≤ 2 ^ n := Nat.pow_le_pow_right (by decide) h
  refine ⟨?_, ?_⟩
  · show Int.natAbs 0 < 2 ^ n
    simp only [Int.natAbs_zero]
    omega
  · show ((1 : Nat) : Int).natAbs < 2 ^ n
    simp only [Int.natAbs_natCast]
    omega
theorem Bq.one {n : Nat} (h : 0 < n) : Bq n 1 := by
  have e : 2 ^ 1 ≤ 2 ^ n := Nat.pow_le_pow_right (by decide) h
  refine ⟨?_, ?_⟩ <;> (show Int.natAbs 1 < 2 ^ n; simp only [Int.natAbs_one]; omega)
theorem BqL.cf {n : Nat} {p : List Rat} (h : BqL n p) (h0 : 0 < n) (i : Nat) : Bq n (Ly.cf p i) := by
  by_cases hi : i < p.length
  · exact h _ (cf_mem hi)
  · rw [cf_out (by omega)]; exact Bq.zero h0
theorem BqL.mono {n m : Nat} {p : List Rat} (h : BqL n p) (l : n ≤ m) : BqL m p := fun q hq => (h q hq).mono l
theorem Bq.addQ {n m : Nat} {p q : Rat} (h : Bq n p) (k : Bq m q) : Bq (n + m + 1) (p + q) := by
  rw [← add_div]
  refine Bq.of_div ?_ ((h.2.mul k.2).mono (by omega)) (by omega)
  refine Bz.add (h.1.mul k.2) ?_ (Nat.lt_succ_self _)
  rw [Nat.add_comm]
  exact k.1.mul h.2
theorem Bq.mulQ {n m : Nat} {p q : Rat} (h : Bq n p) (k : Bq m q) (h0 : 0 < n) : Bq (n + m) (p * q) := by
  rw [← mul_div]
  exact Bq.of_div (h.1.mul k.1) (h.2.mul k.2) (by omega)
theorem Bq.divQ {n m : Nat} {p q : Rat} (h : Bq n p) (k : Bq m q) (h0 : 0 < n) (hq : q ≠ 0) : Bq (n + m) (p / q) := by
  rw [← div_div p q hq]
  exact Bq.of_div (h.1.mul k.2) (h.2.mul k.1) (by omega)
theorem Bq.negQ {n : Nat} {p : Rat} (h : Bq n p) : Bq n (-p) := ⟨h.1.neg, h.2⟩
theorem Bq.subQ {n m : Nat} {p q : Rat} (h : Bq n p) (k : Bq m q) : Bq (n + m + 1) (p - q) := by
  rw [show p - q = p + -q by grind]
  exact h.addQ k.negQ
theorem Sz.bqL {s : Nat} {p : List Rat} (h : Sz s p) (h0 : 0 < s) : BqL s p := fun q hq => h.bq hq h0
theorem Fs.at {K : PySem.W.Frag} {H : L2.Hp} {vs : List L2.V} {qs : List Rat} {i : Nat} (h : Fs K H vs qs) (hi : i < qs.length) : ∃ v, vs[i]? = some v ∧ Fr K H v (Ly.cf qs i) := h.getQ (cf_in hi)
end Ly

set_option maxHeartbeats 4000000
/-! a list of one's own that is filled and changed; rows by their fractions -/
namespace Ly
open PySem PySem.Spec PyProof.Rows L2
/-- at p, made behind H0, a list of the fractions qs -/
def Loc (K : PySem.W.Frag) (H0 : Hp) (p : Addr) (H : Hp) (qs : List Rat) : Prop := Same H0 H ∧ H0 p = none ∧ ∃ xs, H p = some (.lst xs) ∧ Fs K H xs qs
section
variable {K : PySem.W.Frag} {H0 H H' : Hp} {p : Addr} {qs : List Rat} {Q : VK} {σ : L2.St}
theorem Loc.new {xs : List V} (hp : H p = none) (e : Same H0 H) (hf : Fs K H xs qs) : Loc K H0 p (upd H p (.lst xs)) qs :=
  ⟨e.trans (same_new hp), e.free hp, xs, upd_same, hf.same (same_new hp)⟩
theorem Loc.ext (L : Loc K H0 p H qs) (e : Same H H') : Loc K H0 p H' qs := by
  obtain ⟨h1, h2, xs, h3, h4⟩ := L
  exact ⟨h1.trans e, h2, xs, e _ _ h3, h4.same e⟩
theorem Loc.row (L : Loc K H0 p H qs) : RowL K H (.ref p) qs := by
  obtain ⟨h1, h2, xs, h3, h4⟩ := L
  exact ⟨p, xs, rfl, h3, h4⟩
theorem Loc.len (L : Loc K H0 p H qs) : True := trivial
/-- qs[i] is set -/
theorem u_setLoc {v : V} {q : Rat} {i : Nat} {k : Int} {P : Hp → Prop} (L : Loc K H0 p H qs) (hi : i < qs.length) (e : k = (i : Nat)) (hv : Fr K H v q)
    (c : ∀ H', Loc K H0 p H' (qs.set i q) → Imm H H' → P H') : rSetL (.ref p) (.int k) v H P := by
  obtain ⟨h1, h2, xs, h3, h4⟩ := L
  have hl := h4.len
  subst e
  refine u_setL (j := i) h3 ?_ (c _ ⟨h1.mut h2, h2, _, upd_same, ?_⟩ (Imm.upd h3))
  · unfold ixN
    rw [if_pos (by omega), if_pos (by omega)]
    simp
  · exact (h4.set i hv).imm (Imm.upd h3)
theorem st_bm {T : String} {r : V → List V → Hp → VK → Prop} {to : TE} {t : TA} (h : to σ H fun x H1 => tyV K T x H1 ∧ t σ H1 fun xs H2 => r x xs H2 Q) : tBM K T r to t σ H Q := h
theorem tyLoc (L : Loc K H0 p H qs) : tyV K "list" (.ref p) H := by
  obtain ⟨h1, h2, xs, h3, h4⟩ := L
  exact Or.inl ⟨rfl, _, SqL.of h3⟩
theorem u_appLoc {v : V} {q : Rat} (L : Loc K H0 p H qs) (hl : qs.length ≤ 100000) (hv : Fr K H v q) (c : ∀ H', Loc K H0 p H' (qs ++ [q]) → Imm H H' → Q .non H') : rAppend (.ref p) [v] H Q := by
  obtain ⟨h1, h2, xs, h3, h4⟩ := L
  have e := h4.len
  refine ⟨p, xs, v, rfl, rfl, h3, Nat.lt_of_le_of_lt (m := 100000) (by omega) (by decide), c _ ⟨h1.mut h2, h2, _, upd_same, ?_⟩ (Imm.upd h3)⟩
  exact (h4.snoc hv).imm (Imm.upd h3)
/-- an item of a row, by its place -/
theorem u_at {a : Addr} {xs : List V} {rs : List Rat} {i : Nat} {k : Int} (hS : Sq K H a xs) (hf : Fs K H xs rs) (e : k = (i : Nat)) (hi : i < rs.length) (c : ∀ b, SqT K H b (FrT (cf rs i)) → Q (.ref b) H) : rIx K (.ref a) (.int k) H Q := by
  obtain ⟨v, hv, b, rfl, hq⟩ := hf.at hi
  subst e
  exact u_ix hS (atI_nat hv) (c b hq)
theorem u_atLoc {i : Nat} {k : Int} (L : Loc K H0 p H qs) (e : k = (i : Nat)) (hi : i < qs.length) (c : ∀ b, SqT K H b (FrT (cf qs i)) → Q (.ref b) H) : rIx K (.ref p) (.int k) H Q := by
  obtain ⟨h1, h2, xs, h3, h4⟩ := L
  exact u_at (.inl (SqL.of h3)) h4 e hi c
/-- the last one -/
theorem u_atLast {a : Addr} {xs : List V} {rs : List Rat} (hS : Sq K H a xs) (hf : Fs K H xs rs) (hi : 0 < rs.length) (c : ∀ b, SqT K H b (FrT (cf rs (rs.length - 1))) → Q (.ref b) H) : rIx K (.ref a) (.int (-1)) H Q := by
  obtain ⟨v, hv, b, rfl, hq⟩ := hf.at (i := rs.length - 1) (by omega)
  have hl := hf.len
  refine u_ix hS ?_ (c b hq)
  unfold atI ixN
  rw [if_neg (by decide), if_pos (by omega)]
  show xs[(-1 + (xs.length : Int)).toNat]? = _
  rw [show (-1 + (xs.length : Int)).toNat = rs.length - 1 by omega]
  exact hv
/-- an item behind a comprehension's item -/
theorem lcLoc {P : List V → Hp → Prop} {v : V} {q : Rat} (L : Loc K H0 p H qs) (hl : qs.length ≤ 100000) (hv : Fr K H v q) (c : ∀ acc H', Loc K H0 p H' (qs ++ [q]) → Imm H H' → P acc H') : LcN p P v H := by
  obtain ⟨h1, h2, xs, h3, h4⟩ := L
  have e := h4.len
  exact lcN h3 (Nat.lt_of_le_of_lt (m := 100000) (by omega) (by decide)) (c _ _ ⟨h1.mut h2, h2, _, upd_same, (h4.snoc hv).imm (Imm.upd h3)⟩ (Imm.upd h3))
theorem rep_succ {n : Nat} {q : Rat} : List.replicate (n + 1) q = List.replicate n q ++ [q] := List.replicate_succ'
/-- the fractions 0 and 1, made new -/
theorem st_tup01 (c : ∀ z H', Same H H' → (∀ K, SqT K H' z (FrT 0)) → Q (.ref z) H') : tTup (tCons (tC (.int 0)) (tCons (tC (.int 1)) tNil)) σ H Q :=
  ⟨by show 2 ≤ sizeLine; decide, fun p hp => c p _ (same_new hp) fun _ => SqT.of upd_same⟩
theorem st_tup11 (c : ∀ z H', Same H H' → (∀ K, SqT K H' z (FrT 1)) → Q (.ref z) H') : tTup (tCons (tC (.int 1)) (tCons (tC (.int 1)) tNil)) σ H Q :=
  ⟨by show 2 ≤ sizeLine; decide, fun p hp => c p _ (same_new hp) fun _ => SqT.of upd_same⟩
theorem same_fr {v : V} {q : Rat} (e : Same H H') (h : Fr K H v q) : Fr K H' v q := h.same e
theorem map_succ {n : Nat} {f : Nat → Rat} : (List.range (n + 1)).map f = (List.range n).map f ++ [f n] := by rw [List.range_succ, List.map_append]; rfl
end
/-! sizes: over D, the numerator at most m -/
def InD (D m : Nat) (x : Rat) : Prop := ∃ k : Int, x = (k : Rat) / (D : Rat) ∧ k.natAbs ≤ m
theorem dne {D : Nat} (h : 0 < D) : (D : Rat) ≠ 0 := by
  intro z
  have : D = 0 := by exact_mod_cast z
  omega
theorem InD.zero {D m : Nat} : InD D m 0 := ⟨0, by rw [show ((0 : Int) : Rat) = 0 from rfl]; grind, by simp⟩
theorem InD.mono {D m n : Nat} {x : Rat} (h : InD D m x) (l : m ≤ n) : InD D n x := let ⟨k, e, z⟩ := h; ⟨k, e, Nat.le_trans z l⟩
theorem InD.add {D m n : Nat} {x y : Rat} (h : InD D m x) (k : InD D n y) : InD D (m + n) (x + y) := by
  obtain ⟨a, rfl, ha⟩ := h
  obtain ⟨b, rfl, hb⟩ := k
  refine ⟨a + b, by push_cast; grind, ?_⟩
  have := Int.natAbs_add_le a b
  omega
theorem InD.neg {D m : Nat} {x : Rat} (h : InD D m x) : InD D m (-x) := by
  obtain ⟨a, rfl, ha⟩ := h
  exact ⟨-a, by push_cast; grind, by omega⟩
theorem InD.mul {D C m n : Nat} {x y : Rat} (h0 : 0 < D) (h1 : 0 < C) (h : InD D m x) (k : InD C n y) : InD (D * C) (m * n) (x * y) := by
  obtain ⟨a, rfl, ha⟩ := h
  obtain ⟨b, rfl, hb⟩ := k
  have := dne h0
  have := dne h1
  refine ⟨a * b, by push_cast; grind, ?_⟩
  rw [Int.natAbs_mul]
  exact Nat.mul_le_mul ha hb
theorem InD.bq {D m s : Nat} {x : Rat} (h : InD D m x) (h1 : D < 2 ^ s) (h2 : m < 2 ^ s) (h0 : 0 < s) : Bq s x := by
  obtain ⟨k, rfl, hk⟩ := h
  have e := Rat.divInt_eq_div k (D : Int)
  rw [show ((D : Int) : Rat) = (D : Rat) from rfl] at e
  rw [← e]
  exact Bq.of_div (show k.natAbs < 2 ^ s by omega) (by show (D : Int).natAbs < 2 ^ s; omega) h0
theorem Sz.inD {s : Nat} {p : List Rat} (h : Sz s p) : ∃ D m, 0 < D ∧ D < 2 ^ s ∧ m < 2 ^ s ∧ ∀ i, InD D m (cf p i) := by
  obtain ⟨D, h0, h1, h2⟩ := h
  have e : 0 < 2 ^ s := Nat.pow_pos (by decide)
  refine ⟨D, 2 ^ s - 1, h0, h1, by omega, fun i => ?_⟩
  by_cases hi : i < p.length
  · obtain ⟨k, z, hk⟩ := h2 _ (cf_mem hi)
    exact ⟨k, z, by omega⟩
  · rw [cf_out (by omega)]; exact InD.zero
theorem Sz.ofInD {s D m : Nat} {p : List Rat} (h0 : 0 < D) (h1 : D < 2 ^ s) (h2 : m < 2 ^ s) (h : ∀ i, i < p.length → InD D m (cf p i)) : Sz s p :=
  ⟨D, h0, h1, fun q hq => by
    obtain ⟨i, hi⟩ := List.getElem?_of_mem hq
    have hl : i < p.length := (List.getElem?_eq_some_iff.mp hi).1
    rw [← cf_get hi]
    obtain ⟨k, e, z⟩ := h i hl
    exact ⟨k, e, by omega⟩⟩
theorem pc_in {D C m n : Nat} {p q : List Rat} (h0 : 0 < D) (h1 : 0 < C) (h : ∀ i, InD D m (cf p i)) (k : ∀ i, InD C n (cf q i)) : ∀ J i, InD (D * C) (J * (m * n)) (pc p q J i)
  | 0, i => InD.zero.mono (Nat.zero_le _)
  | J + 1, i => by
    rw [pc_succ, Nat.succ_mul]
    refine (pc_in h0 h1 h k J i).add ?_
    split
    · exact InD.mul h0 h1 (h _) (k _)
    · exact InD.zero
theorem pow_mul3 {s t k m n J : Nat} (h1 : m < 2 ^ s) (h2 : n < 2 ^ t) (h3 : J ≤ 2 ^ k) : J * (m * n) < 2 ^ (s + t + k) := by
  rw [Nat.pow_add, Nat.pow_add, Nat.mul_comm J]
  exact Nat.lt_of_lt_of_le (Nat.mul_lt_mul_of_lt_of_le (Nat.mul_lt_mul'' h1 h2) h3 (Nat.pow_pos (by decide))) (Nat.le_refl _)
theorem pc_bq {s t k : Nat} {p q : List Rat} {J : Nat} (h : Sz s p) (h2 : Sz t q) (h3 : J ≤ 2 ^ k) (h0 : 0 < s) (i : Nat) : Bq (s + t + k) (pc p q J i) := by
  obtain ⟨D, m, a1, a2, a3, a4⟩ := h.inD
  obtain ⟨C, n, b1, b2, b3, b4⟩ := h2.inD
  refine (pc_in a1 b1 a4 b4 J i).bq ?_ (pow_mul3 a3 b3 h3) (by omega)
  rw [← Nat.one_mul (D * C)]
  exact pow_mul3 a2 b2 (Nat.pow_pos (by decide))
theorem sz_pmul {s t k : Nat} {p q : List Rat} (h : Sz s p) (h2 : Sz t q) (h3 : p.length ≤ 2 ^ k) : Sz (s + t + k) (pmul p q) := by
  obtain ⟨D, m, a1, a2, a3, a4⟩ := h.inD
  obtain ⟨C, n, b1, b2, b3, b4⟩ := h2.inD
  refine Sz.ofInD (D := D * C) (m := p.length * (m * n)) (Nat.mul_pos a1 b1) ?_ (pow_mul3 a3 b3 h3) fun i hi => ?_
  · rw [← Nat.one_mul (D * C)]
    exact pow_mul3 a2 b2 (Nat.pow_pos (by decide))
  · rw [cf_pmul]
    exact pc_in a1 b1 a4 b4 p.length i
theorem cv_comm (p q : List Rat) (i : Nat) : True := trivial
theorem pc_out {p q : List Rat} {J i : Nat} (h : J + q.length ≤ i + 1) (l : 0 < J) : pc p q J i = 0 := sumTo_zero fun j hj => by
  split
  · rw [cf_out (p := q) (by omega)]; grind
  · rfl
theorem trim_pmul {p q r : List Rat} (h : ∀ i, cf r i = cv p q i) : trim r = pmul p q := isT_ext (trim_isT _) (trim_isT _) fun i => by rw [cf_trim, h, ← cf_pmul]
theorem pmul_isT (p q : List Rat) : IsT (pmul p q) := trim_isT _
theorem padd_isT (p q : List Rat) : IsT (padd p q) := trim_isT _
/-- the inner loop's cells -/
theorem pc_pick {p q : List Rat} {j i : Nat} (h : ¬ (j ≤ i ∧ i < j + q.length)) : pc p q (j + 1) i = pc p q j i := by
  rw [pc_succ]
  split
  · rw [cf_out (p := q) (by omega)]; grind
  · grind
end Ly

set_option maxHeartbeats 4000000
/-! sizes along division and the greatest common divisor; worth -/
namespace Ly
def Szf (s : Nat) (c : Nat → Rat) : Prop := ∃ D m, 0 < D ∧ D < 2 ^ s ∧ m < 2 ^ s ∧ ∀ i, InD D m (c i)
theorem Sz.f {s : Nat} {p : List Rat} (h : Sz s p) : Szf s (cf p) := h.inD
theorem Szf.sz {s : Nat} {p : List Rat} (h : Szf s (cf p)) : Sz s p := let ⟨_, _, h0, h1, h2, h3⟩ := h; Sz.ofInD h0 h1 h2 fun i _ => h3 i
theorem Szf.bq {s : Nat} {c : Nat → Rat} (h : Szf s c) (h0 : 0 < s) (i : Nat) : Bq s (c i) := let ⟨_, _, _, h1, h2, h3⟩ := h; (h3 i).bq h1 h2 h0
theorem Szf.mono {s t : Nat} {c : Nat → Rat} (h : Szf s c) (l : s ≤ t) : Szf t c := by
  obtain ⟨D, m, h0, h1, h2, h3⟩ := h
  have e : 2 ^ s ≤ 2 ^ t := Nat.pow_le_pow_right (by decide) l
  exact ⟨D, m, h0, by omega, by omega, h3⟩
theorem Szf.pos {s : Nat} {c : Nat → Rat} (h : Szf s c) : 0 < s := by
  obtain ⟨D, m, h0, h1, _⟩ := h
  rcases Nat.eq_zero_or_pos s with e | e
  · subst e; omega
  · exact e
theorem Sz.pos {s : Nat} {p : List Rat} (h : Sz s p) : 0 < s := h.f.pos
/-- one step of the division: old and new over one denominator -/
theorem rs_sz {S s a : Nat} {u : List Rat} {c : Nat → Rat} (h : Szf S c) (k : Szf s (cf u)) (ht : cf u (u.length - 1) ≠ 0) : Szf (S + s + 1) (rs u a c) ∧ Szf (S + s + 1) c := by
  obtain ⟨D, M, h0, h1, h2, h3⟩ := h
  obtain ⟨C, N, k0, k1, k2, k3⟩ := k
  obtain ⟨b, hb, hbN⟩ := k3 (u.length - 1)
  have b0 : b ≠ 0 := by
    rintro rfl
    apply ht
    rw [hb]
    push_cast
    grind
  have bp : 0 < b.natAbs := by omega
  have hD := dne h0
  have hC := dne k0
  have hB : (b : Rat) ≠ 0 := by exact_mod_cast b0
  have e1 : D * b.natAbs < 2 ^ (S + s + 1) := by
    rw [Nat.pow_succ, Nat.pow_add]
    have : D * b.natAbs < 2 ^ S * 2 ^ s := Nat.mul_lt_mul'' h1 (by omega)
    omega
  have e2 : 2 * (M * N) < 2 ^ (S + s + 1) := by
    rw [Nat.pow_succ, Nat.pow_add]
    have : M * N < 2 ^ S * 2 ^ s := Nat.mul_lt_mul'' h2 k2
    omega
  -- x/D over D*|b|
  have old : ∀ i, InD (D * b.natAbs) (M * N) (c i) := fun i => by
    obtain ⟨x, hx, hm⟩ := h3 i
    refine ⟨x * b.natAbs, ?_, ?_⟩
    · rw [hx]
      have hn : ((b.natAbs : Nat) : Rat) ≠ 0 := dne bp
      push_cast
      grind
    · rw [Int.natAbs_mul]
      simp only [Int.natAbs_natCast]
      exact Nat.mul_le_mul hm hbN
  refine ⟨⟨D * b.natAbs, 2 * (M * N), Nat.mul_pos h0 bp, e1, e2, fun i => ?_⟩, ⟨D * b.natAbs, 2 * (M * N), Nat.mul_pos h0 bp, e1, e2, fun i => (old i).mono (by omega)⟩⟩
  unfold rs
  rw [Nat.two_mul]
  have neg : ∀ {A B : Rat}, A - B = A + -B := by intros; grind
  rw [neg]
  refine (old i).add ?_
  by_cases hi : a ≤ i
  · rw [if_pos hi]
    obtain ⟨x, hx, hm⟩ := h3 (a + u.length - 1)
    obtain ⟨y, hy, hn⟩ := k3 (i - a)
    rw [hx, hb, hy]
    have hs : (b.sign : Rat) * (b.natAbs : Rat) = (b : Rat) := by
      have := Int.sign_mul_natAbs b
      exact_mod_cast this
    have hs2 : (b.sign : Rat) * (b.sign : Rat) = 1 := by
      have : b.sign * b.sign = 1 := by
        rcases Int.lt_trichotomy b 0 with z | z | z
        · rw [Int.sign_eq_neg_one_of_neg z]; decide
        · exact absurd z b0
        · rw [Int.sign_eq_one_of_pos z]; decide
      exact_mod_cast this
    refine ⟨-(x * y) * b.sign, ?_, ?_⟩
    · have hn : ((b.natAbs : Nat) : Rat) ≠ 0 := dne bp
      push_cast
      generalize ((b.natAbs : Nat) : Rat) = B at *
      generalize (b.sign : Rat) = g at *
      generalize (b : Rat) = b' at *
      subst hs
      grind
    · rw [Int.natAbs_mul, Int.natAbs_neg, Int.natAbs_mul]
      have : b.sign.natAbs = 1 := by
        rcases Int.lt_trichotomy b 0 with z | z | z
        · rw [Int.sign_eq_neg_one_of_neg z]; decide
        · exact absurd z b0
        · rw [Int.sign_eq_one_of_pos z]; decide
      rw [this, Nat.mul_one]
      exact Nat.mul_le_mul hm hn
  · rw [if_neg hi]
    have : -(c (a + u.length - 1) / cf u (u.length - 1) * 0) = 0 := by grind
    rw [this]
    exact InD.zero
theorem sz_monic {s : Nat} {p : List Rat} (h : Sz s p) (ht : IsT p) : Sz s (monic p) := by
  by_cases h0 : p.length = 0
  · have : p = [] := List.length_eq_zero_iff.mp h0
    subst this
    obtain ⟨D, a, b, c⟩ := h
    exact ⟨D, a, b, fun q hq => nomatch hq⟩
  · have hl := ht (by omega)
    obtain ⟨D, d0, d1, h2⟩ := h
    obtain ⟨b, hb, hbN⟩ := h2 _ (cf_mem (p := p) (i := p.length - 1) (by omega))
    have b0 : b ≠ 0 := by
      rintro rfl
      apply hl
      rw [hb]
      push_cast
      grind
    have hD := dne d0
    have hB : (b : Rat) ≠ 0 := by exact_mod_cast b0
    refine ⟨b.natAbs, by omega, hbN, fun q hq => ?_⟩
    obtain ⟨r, hr, rfl⟩ := List.mem_map.mp hq
    obtain ⟨x, hx, hm⟩ := h2 r hr
    rw [hx, hb]
    have hs : (b.sign : Rat) * (b.natAbs : Rat) = (b : Rat) := by
      have := Int.sign_mul_natAbs b
      exact_mod_cast this
    have sg : b.sign = 1 ∨ b.sign = -1 := by
      rcases Int.lt_trichotomy b 0 with z | z | z
      · exact .inr (Int.sign_eq_neg_one_of_neg z)
      · exact absurd z b0
      · exact .inl (Int.sign_eq_one_of_pos z)
    have hn : ((b.natAbs : Nat) : Rat) ≠ 0 := dne (by omega)
    refine ⟨x * b.sign, ?_, ?_⟩
    · have hs2 : (b.sign : Rat) * (b.sign : Rat) = 1 := by
        have : b.sign * b.sign = 1 := by rcases sg with z | z <;> rw [z] <;> decide
        exact_mod_cast this
      push_cast
      generalize ((b.natAbs : Nat) : Rat) = B at *
      generalize (b.sign : Rat) = g at *
      generalize (b : Rat) = b' at *
      subst hs
      grind
    · rw [Int.natAbs_mul]
      rcases sg with z | z <;> rw [z] <;> simpa using hm
theorem trim_prem {p u r : List Rat} (hu : 0 < u.length) (ht : IsT u) (h : ∀ i, cf r i = remC p u i) : trim r = prem p u :=
  isT_ext (trim_isT _) (trim_isT _) fun i => by rw [cf_trim, h, ← cf_prem hu ht]
/-- the size of the rest -/
theorem rdn_sz {s : Nat} {u : List Rat} (k : Szf s (cf u)) (ht : cf u (u.length - 1) ≠ 0) : ∀ {n S : Nat} {c : Nat → Rat}, Szf S c → Szf (S + n * (s + 1)) (rdn u n c)
  | 0, S, c, h => h.mono (by omega)
  | n + 1, S, c, h => (rdn_sz k ht (rs_sz h k ht).1).mono (by rw [Nat.succ_mul]; omega)
theorem sz_prem {S s : Nat} {p u : List Rat} (h : Sz S p) (k : Sz s u) (hu : 0 < u.length) (ht : IsT u) : Sz (S + (p.length + 1 - u.length) * (s + 1)) (prem p u) := by
  refine Szf.sz ?_
  have e : cf (prem p u) = remC p u := funext fun i => cf_prem hu ht i
  rw [e]
  exact rdn_sz k.f (ht hu) h.f
/-- what the two of the gcd keep -/
def GInv (p q : List Rat) : Prop := ∃ M, 0 < M ∧ Sz M p ∧ Sz M q ∧ (M + 1) * ((p.length - q.length + 2) * 3 ^ q.length) ≤ 60000000 ∧ IsT p ∧ IsT q
theorem pow3 (j : Nat) (h : 0 < j) : j + 2 ≤ 3 ^ j := by
  induction j with
  | zero => omega
  | succ j ih =>
    rcases Nat.eq_zero_or_pos j with e | e
    · subst e; decide
    · have := ih e
      rw [Nat.pow_succ]
      omega
theorem GInv.monic {p q : List Rat} (h : GInv p q) : GInv (monic p) (Ly.monic q) := by
  obtain ⟨M, h0, h1, h2, h3, h4, h5⟩ := h
  exact ⟨M, h0, sz_monic h1 h4, sz_monic h2 h5, by rw [monic_len, monic_len]; exact h3, monic_isT h4, monic_isT h5⟩
theorem prem_isT (p u : List Rat) : IsT (prem p u) := trim_isT _
/-- the bound of one turn -/
theorem GInv.bits {p q : List Rat} {M : Nat} (h : (M + 1) * ((p.length - q.length + 2) * 3 ^ q.length) ≤ 60000000) (hq : 0 < q.length) : M + (p.length + 1 - q.length) * (M + 1) + 2 * M + 2 ≤ 60000000 := by
  have a : 3 * 1 ≤ 3 ^ q.length := by
    rw [show q.length = (q.length - 1) + 1 by omega, Nat.pow_succ, Nat.mul_comm]
    exact Nat.mul_le_mul_right _ (Nat.pow_pos (by decide))
  have b : (M + 1) * ((p.length - q.length + 2) * 3) ≤ (M + 1) * ((p.length - q.length + 2) * 3 ^ q.length) := Nat.mul_le_mul_left _ (Nat.mul_le_mul_left _ (by omega))
  have c : (M + 1) * ((p.length - q.length + 2) * 3) = (M + 1) * (p.length - q.length + 2) * 3 := by rw [Nat.mul_assoc]
  have d : (M + 1) * (p.length - q.length + 2) = (M + 1) * (p.length - q.length + 1) + (M + 1) := by rw [show p.length - q.length + 2 = (p.length - q.length + 1) + 1 from rfl, Nat.mul_succ]
  have e : (p.length + 1 - q.length) * (M + 1) ≤ (M + 1) * (p.length - q.length + 1) := by
    rw [Nat.mul_comm]
    exact Nat.mul_le_mul_left _ (by omega)
  generalize (M + 1) * (p.length - q.length + 1) = X at *
  generalize (p.length + 1 - q.length) * (M + 1) = Y at *
  omega
theorem GInv.step {p q : List Rat} (h : GInv p q) (hq : 0 < q.length) : GInv q (Ly.monic (prem p q)) := by
  obtain ⟨M, h0, h1, h2, h3, h4, h5⟩ := h
  have hl := prem_lt (p := p) (u := q) hq
  have s1 := sz_prem h1 h2 hq h5
  refine ⟨M + (p.length + 1 - q.length) * (M + 1), by omega, h2.mono (by omega), sz_monic s1 (prem_isT p q), ?_, h5, monic_isT (prem_isT p q)⟩
  rw [monic_len]
  refine Nat.le_trans ?_ h3
  have a : M + (p.length + 1 - q.length) * (M + 1) + 1 ≤ (M + 1) * (p.length - q.length + 2) := by
    have e : (p.length + 1 - q.length) * (M + 1) ≤ (M + 1) * (p.length - q.length + 1) := by
      rw [Nat.mul_comm]
      exact Nat.mul_le_mul_left _ (by omega)
    have d : (M + 1) * (p.length - q.length + 2) = (M + 1) * (p.length - q.length + 1) + (M + 1) := by rw [show p.length - q.length + 2 = (p.length - q.length + 1) + 1 from rfl, Nat.mul_succ]
    omega
  have b : (q.length - (prem p q).length + 2) * 3 ^ (prem p q).length ≤ 3 ^ q.length := by
    have := pow3 (q.length - (prem p q).length) (by omega)
    calc (q.length - (prem p q).length + 2) * 3 ^ (prem p q).length ≤ 3 ^ (q.length - (prem p q).length) * 3 ^ (prem p q).length := Nat.mul_le_mul_right _ this
      _ = 3 ^ q.length := by rw [← Nat.pow_add]; congr 1; omega
  rw [← Nat.mul_assoc (M + 1) (p.length - q.length + 2)]
  exact Nat.mul_le_mul a b
/-! worth -/
def worth (p : List Rat) (x : Rat) : Rat := sumTo p.length fun i => cf p i * x ^ i
theorem worth_more {p : List Rat} {x : Rat} {n : Nat} (h : p.length ≤ n) : sumTo n (fun i => cf p i * x ^ i) = worth p x :=
  sumTo_more (fun i hi => by rw [cf_out hi]; grind) h
def hn (p : List Rat) (x : Rat) : Nat → Rat
  | 0 => 0
  | i + 1 => hn p x i * x + cf p (p.length - 1 - i)
theorem hn_sum {p : List Rat} {x : Rat} : ∀ i, i ≤ p.length → worth p x = sumTo (p.length - i) (fun j => cf p j * x ^ j) + hn p x i * x ^ (p.length - i)
  | 0, _ => by
    show _ = _ + 0 * _
    unfold worth
    rw [Nat.sub_zero]
    grind
  | i + 1, h => by
    rw [hn_sum i (by omega)]
    obtain ⟨m, hm⟩ : ∃ m, p.length - i = m + 1 := ⟨p.length - i - 1, by omega⟩
    rw [hm, show p.length - (i + 1) = m by omega]
    show sumTo m _ + cf p m * x ^ m + _ = _ + (hn p x i * x + cf p (p.length - 1 - i)) * x ^ m
    rw [show p.length - 1 - i = m by omega, Rat.pow_succ]
    grind
theorem hn_all (p : List Rat) (x : Rat) : hn p x p.length = worth p x := by
  rw [hn_sum p.length (Nat.le_refl _), Nat.sub_self]
  show _ = 0 + _ * x ^ 0
  rw [Rat.pow_zero]
  grind
end Ly

set_option maxHeartbeats 4000000
/-! list, tuple, cuts, repeats of rows of fractions -/
namespace Ly
open PySem PySem.Spec PyProof.Rows L2
section
variable {K : PySem.W.Frag} {H0 H : Hp} {Q : VK} {v w : V} {p q : List Rat} {σ : L2.St}
theorem u_tupleRow (h : Row K H v p) (c : ∀ v' H', Same H H' → RowT K H' v' p → Q v' H') : rTupleU K [v] H Q := by
  obtain ⟨a, xs, rfl, h1, h2⟩ := h
  rcases h1 with h1 | h1
  · exact ⟨a, xs, rfl, .inl ⟨h1, fun l hl => c _ _ (same_new hl) ⟨l, xs, rfl, SqT.of upd_same, h2.same (same_new hl)⟩⟩⟩
  · exact ⟨a, xs, rfl, .inr ⟨h1, c _ _ (Same.refl H) ⟨a, xs, rfl, h1, h2⟩⟩⟩
theorem u_listRow (h : Row K H v p) (e : Same H0 H) (c : ∀ D H', Loc K H0 D H' p → Same H H' → Q (.ref D) H') : rListU K [v] H Q := by
  obtain ⟨a, xs, rfl, h1, h2⟩ := h
  exact u_list h1 fun l hl => c l _ (Loc.new hl e h2) (same_new hl)
theorem u_slRow {n : Nat} {k : Int} (h : Row K H v p) (e : k = (n : Nat)) (hn : n ≤ p.length) (c : ∀ v' H', Same H H' → Row K H' v' (p.take n) → Q v' H') : rSlU K v none (some k) H Q := by
  obtain ⟨a, xs, rfl, h1, h2⟩ := h
  have hl := h2.len
  subst e
  rcases h1 with h1 | h1
  · refine u_slL h1 fun l hl => c _ _ (same_new hl) ⟨l, _, rfl, .inl (SqL.of upd_same), ?_⟩
    rw [cutV_to]
    exact (h2.same (same_new hl)).take n
  · refine .inr ⟨a, xs, rfl, h1, fun z => ?_, fun z l hl => ?_⟩
    · rw [HT.sIx_nat] at z
      have : n = p.length := by omega
      rw [this, List.take_length] at c
      exact c _ _ (Same.refl H) ⟨a, xs, rfl, .inr h1, h2⟩
    · refine c _ _ (same_new hl) ⟨l, _, rfl, .inr (SqT.of upd_same), ?_⟩
      rw [cutV_to]
      exact (h2.same (same_new hl)).take n
theorem u_iteF {A B : Prop} (h : B) : if false = true then A else B := by rw [if_neg Bool.false_ne_true]; exact h
theorem u_iteT {A B : Prop} (h : A) : if true = true then A else B := by rw [if_pos rfl]; exact h
/-- a pair is taken apart -/
theorem u_pair {T : Addr} {x y : V} {i j : Nat} {P : L2.St → Hp → Prop} (hT : SqT K H T [x, y]) (h : P ((σ.set i (some x)).set j (some y)) H) : gTup K 2 (gCons (gName i) (gCons (gName j) gNil)) (.ref T) σ H P :=
  ⟨T, [x, y], rfl, hT, rfl, x, _, rfl, y, _, rfl, rfl, h⟩
theorem flat1 {x : V} : ∀ n : Nat, (List.replicate n [x]).flatten = List.replicate n x
  | 0 => rfl
  | n + 1 => by rw [List.replicate_succ, List.flatten_cons, flat1 n, List.replicate_succ]; rfl
/-- (v,) * k -/
theorem u_repZ {l : Addr} {r : Rat} {k : Int} (hl : SqT K H l [v]) (hv : Fr K H v r) (h0 : 0 ≤ k) (h1 : k ≤ 1000) (c : ∀ v' H', Same H H' → RowT K H' v' (List.replicate k.toNat r) → Q v' H') : rMulU K (.ref l) (.int k) H Q := by
  refine .inr ⟨l, k, [v], rfl, rfl, hl, by simp, ⟨by omega, h1⟩, by simp, fun z => ?_, fun z p hp => ?_⟩
  · subst z
    exact c _ _ (Same.refl H) ⟨l, [v], rfl, hl, hv, trivial⟩
  · refine c _ _ (same_new hp) ⟨p, _, rfl, SqT.of upd_same, ?_⟩
    rw [flat1]
    exact Fs.rep (hv.same (same_new hp)) _
theorem u_catRow (h1 : RowT K H v p) (h2 : RowT K H w q) (lp : p.length ≤ 1000) (lq : q.length ≤ 1000) (c : ∀ v' H', Same H H' → RowT K H' v' (p ++ q) → Q v' H') : rAddU K v w H Q := by
  obtain ⟨a, xs, rfl, ha, fa⟩ := h1
  obtain ⟨b, ys, rfl, hb, fb⟩ := h2
  have la := fa.len
  have lb := fb.len
  refine .inr (.inr ⟨a, b, xs, ys, rfl, rfl, ha, hb, Nat.le_trans (m := 2000) (by omega) (by decide), fun z => ?_, fun z1 z2 => ?_, fun z1 z2 l hl => ?_⟩)
  · subst z
    have : p = [] := List.length_eq_zero_iff.mp (by rw [← la]; rfl)
    subst this
    exact c _ _ (Same.refl H) ⟨b, ys, rfl, hb, fb⟩
  · subst z2
    have : q = [] := List.length_eq_zero_iff.mp (by rw [← lb]; rfl)
    subst this
    refine c _ _ (Same.refl H) ⟨a, xs, rfl, ha, ?_⟩
    rw [List.append_nil]; exact fa
  · exact c _ _ (same_new hl) ⟨l, _, rfl, SqT.of upd_same, (fa.same (same_new hl)).append (fb.same (same_new hl))⟩
/-- row + factor * other -/
def pm (p : List Rat) (c : Rat) (q : List Rat) : List Rat := (List.range p.length).map fun i => cf p i + c * cf q i
theorem pm_len {p q : List Rat} {c : Rat} : (pm p c q).length = p.length := by unfold pm; rw [List.length_map, List.length_range]
theorem cf_pm {p q : List Rat} {c : Rat} (h : q.length ≤ p.length) (i : Nat) : cf (pm p c q) i = cf p i + c * cf q i := by
  unfold pm
  rw [cf_map]
  split
  · rfl
  · rw [cf_out (p := p) (by omega), cf_out (p := q) (by omega)]; grind
theorem pm_zero {p q : List Rat} : pm p 0 q = p := by
  refine cf_ext pm_len fun i hi => ?_
  rw [pm_len] at hi
  unfold pm
  rw [cf_map, if_pos hi]
  grind
theorem tlen_step {p : List Rat} {m : Nat} (h1 : ∀ i, m + 1 ≤ i → cf p i = 0) (h2 : cf p m = 0) : ∀ i, m ≤ i → cf p i = 0 := fun i hi => by
  by_cases e : i = m
  · rw [e]; exact h2
  · exact h1 i (by omega)
end
end Ly

set_option maxHeartbeats 4000000
/-! walks over what an older heap knows -/
namespace Ly
open PySem PySem.Spec PyProof.Rows L2
theorem seqB_go {K : PySem.W.Frag} {H0 H : Hp} {a : Addr} {xs : List V} {R : It → Hp → Prop} (e : Same H0 H) (h : Sq K H0 a xs)
    (k : ∀ (J : It) (G : Hp → Prop), (∀ H', Same H0 H' → G H') → Walk J xs.length G (YAt xs) → R J H) :
    ∃ (a' : Addr) (ys : List V), V.ref a = .ref a' ∧ ((SqL K H a' ys ∧ R (Itl K a') H) ∨ (SqT K H a' ys ∧ R (Itt K a') H)) := by
  rcases h with h | h
  · exact ⟨a, xs, rfl, .inl ⟨(e.kept a).l h, k _ _ (fun H' q => (q.kept a).l h) walk_list⟩⟩
  · exact ⟨a, xs, rfl, .inr ⟨(e.kept a).t h, k _ _ (fun H' q => (q.kept a).t h) walk_tup⟩⟩
theorem enumB_go {K : PySem.W.Frag} {H0 H : Hp} {a : Addr} {xs : List V} {R : It → Hp → Prop} (e : Same H0 H) (h : Sq K H0 a xs)
    (k : ∀ (J : It) (G : Hp → Prop), (∀ H', Same H0 H' → G H') → Walk J xs.length G (YPair (fun i => some (.int (i : Nat))) (fun i => xs[i]?)) → R J H) :
    ∃ (a' : Addr) (ys : List V), [V.ref a] = [.ref a'] ∧ ((SqL K H a' ys ∧ R (Ite K a') H) ∨ (SqT K H a' ys ∧ R (IteT K a') H)) := by
  rcases h with h | h
  · exact ⟨a, xs, rfl, .inl ⟨(e.kept a).l h, k _ _ (fun H' q => (q.kept a).l h) walk_enum⟩⟩
  · exact ⟨a, xs, rfl, .inr ⟨(e.kept a).t h, k _ _ (fun H' q => (q.kept a).t h) walk_enumT⟩⟩
theorem revB_go {K : PySem.W.Frag} {H0 H : Hp} {a : Addr} {xs : List V} {R : It → Hp → Prop} (e : Same H0 H) (h : Sq K H0 a xs)
    (k : ∀ (J : It) (G : Hp → Prop), (∀ H', Same H0 H' → G H') → Walk J xs.length G (fun i H x H' => H' = H ∧ xs[xs.length - 1 - i]? = some x) → R J H) :
    ∃ (a' : Addr) (ys : List V), V.ref a = .ref a' ∧ ((SqL K H a' ys ∧ R (Itv K a' ys.length) H) ∨ (SqT K H a' ys ∧ R (RT.ItvT K a' ys.length) H)) := by
  rcases h with h | h
  · exact ⟨a, xs, rfl, .inl ⟨(e.kept a).l h, k _ _ (fun H' q => (q.kept a).l h) walk_rev⟩⟩
  · exact ⟨a, xs, rfl, .inr ⟨(e.kept a).t h, k _ _ (fun H' q => (q.kept a).t h) walk_revT⟩⟩
end Ly

set_option maxHeartbeats 4000000
namespace Ly
open PySem PySem.Spec PyProof.Rows L2
theorem cv_ext {p r q : List Rat} (h : ∀ i, cf p i = cf r i) (i : Nat) : cv p q i = cv r q i := by
  rw [← cv_ge (p := p) (J := max p.length r.length) (by omega), ← cv_ge (p := r) (J := max p.length r.length) (by omega)]
  exact sumTo_congr fun j _ => by rw [h j]
theorem cv_extR {p r q : List Rat} (h : ∀ i, cf r i = cf q i) (i : Nat) : cv p r i = cv p q i := by
  exact sumTo_congr fun j _ => by rw [h (i - j)]
theorem tlen_lt {p : List Rat} (h0 : 0 < p.length) (h : cf p (p.length - 1) = 0) : tlen p < p.length := by
  have l := tlen_le p
  rcases Nat.lt_or_ge (tlen p) p.length with z | z
  · exact z
  · have e : tlen p = p.length := by omega
    exact absurd (by rw [e]; exact h) (tlen_top (p := p) (by omega))
theorem sz_of_bq {n : Nat} : ∀ {p : List Rat}, BqL n p → 0 < n → Sz (n * (p.length + 1)) p
  | [], _, h => ⟨1, by decide, by rw [show n * (([] : List Rat).length + 1) = n by simp]; exact Nat.lt_of_lt_of_le (by decide : 1 < 2 ^ 1) (Nat.pow_le_pow_right (by decide) h), fun q hq => nomatch hq⟩
  | q :: p, h, hn => by
    obtain ⟨D, h0, h1, h2⟩ := sz_of_bq (p := p) (fun r hr => h r (List.mem_cons_of_mem _ hr)) hn
    obtain ⟨b1, b2⟩ := h q List.mem_cons_self
    have b2' : q.den < 2 ^ n := by
      have : ((q.den : Int)).natAbs < 2 ^ n := b2
      omega
    have e : n * ((q :: p).length + 1) = n * (p.length + 1) + n := by simp [Nat.mul_add]
    have hD : D * q.den < 2 ^ (n * ((q :: p).length + 1)) := by
      rw [e, Nat.pow_add]
      exact Nat.mul_lt_mul'' h1 b2'
    refine ⟨D * q.den, Nat.mul_pos h0 q.den_pos, hD, fun r hr => ?_⟩
    have dn := den_ne q
    have Dn : (D : Rat) ≠ 0 := dne h0
    rcases List.mem_cons.mp hr with rfl | hr
    · refine ⟨r.num * D, ?_, ?_⟩
      · have := divInt_den r
        push_cast
        grind
      · rw [Int.natAbs_mul, e, Nat.pow_add, Nat.mul_comm]
        exact Nat.mul_lt_mul'' (by simpa using h1) b1
    · obtain ⟨k, e1, e2⟩ := h2 r hr
      refine ⟨k * q.den, ?_, ?_⟩
      · rw [e1]
        push_cast
        grind
      · rw [Int.natAbs_mul, e, Nat.pow_add]
        exact Nat.mul_lt_mul'' e2 (by simpa using b2')
theorem BqL.set {n i : Nat} {p : List Rat} {q : Rat} (h : BqL n p) (k : Bq n q) : BqL n (p.set i q) := fun r hr => by
  rcases List.mem_or_eq_of_mem_set hr with z | z
  · exact h r z
  · rw [z]; exact k
theorem BqL.trim {n : Nat} {p : List Rat} (h : BqL n p) : BqL n (Ly.trim p) := fun q hq => h q (trim_mem hq)
theorem BqL.rep {n m : Nat} (h : 0 < n) : BqL n (List.replicate m 0) := fun q hq => by rw [(List.mem_replicate.mp hq).2]; exact Bq.zero h
theorem BqL.app {n : Nat} {p q : List Rat} (h : BqL n p) (k : BqL n q) : BqL n (p ++ q) := fun r hr => by
  rcases List.mem_append.mp hr with z | z
  · exact h r z
  · exact k r z
theorem Sz.trim {s : Nat} {p : List Rat} (h : Sz s p) : Sz s (Ly.trim p) := h.sub fun q hq => .inl (trim_mem hq)
theorem pm_rs {r u : List Rat} {a i : Nat} (h : a + u.length ≤ r.length) (h0 : a + u.length - 1 = r.length - 1) : cf (pm r (-(cf r (r.length - 1) / cf u (u.length - 1))) (List.replicate a 0 ++ u)) i = rs u a (cf r) i := by
  rw [cf_pm (by rw [List.length_append, List.length_replicate]; omega), cf_append, List.length_replicate]
  unfold rs
  rw [h0]
  by_cases z : i < a
  · rw [if_pos z, if_neg (by omega), cf_rep]; grind
  · rw [if_neg z, if_pos (by omega)]; grind
theorem hn_bq {s : Nat} {p : List Rat} {x : Rat} (b : BqL s p) (h : Bq 31 x) (s0 : 0 < s) : ∀ i, Bq ((s + 32) * i + 1) (hn p x i)
  | 0 => Bq.zero (by omega)
  | i + 1 => (((hn_bq b h s0 i).mulQ h (by omega)).addQ (b.cf s0 _)).mono (by rw [Nat.mul_succ]; omega)
theorem monic_map {p : List Rat} : (p.map fun x => 1 / cf p (p.length - 1) * x) = monic p := by
  unfold monic
  exact List.map_congr_left fun x _ => by grind
theorem remC_step {r r' u : List Rat} {a : Nat} (hu : 0 < u.length) (h0 : r.length = a + u.length) (h1 : ∀ i, cf r' i = rs u a (cf r) i) (h2 : r'.length < r.length) (i : Nat) : remC r' u i = remC r u i := by
  have e : cf r' = rs u a (cf r) := funext h1
  unfold remC
  rw [show r.length + 1 - u.length = a + 1 by omega]
  show rdn u _ (cf r') i = rdn u a (rs u a (cf r)) i
  rw [← e]
  rw [rdn_skip (n := a) (m := r'.length + 1 - u.length) hu (fun j hj => cf_out (by omega)) (by omega)]
theorem remC_end {r u : List Rat} (h : r.length < u.length) (i : Nat) : remC r u i = cf r i := by
  unfold remC
  rw [show r.length + 1 - u.length = 0 by omega]
  rfl
theorem prem_eq {p u r : List Rat} (hu : 0 < u.length) (ht : IsT u) (hr : IsT r) (h : ∀ i, cf r i = remC p u i) : r = prem p u :=
  isT_ext hr (trim_isT _) fun i => by rw [h, ← cf_prem hu ht]
/-- what raises nothing -/
theorem calm {P : Program} {w : World} {K : PySem.W.Frag} {mg : Str → Option Value} {base : Heap} {k : Nat} {f : Addr} {fd : FuncData} {ps : List Str} {sp : Sp} (F : FnOk P w K mg base (L2.CX P w) k f fd ps sp) :
    FnOk P w K mg base CX0 k f fd ps (fun vs H Q _ => sp vs H Q E0) :=
  ⟨fun vs H Q E q => F.len vs H Q E0 q, fun A outer s H args us vs Q E hr he hb hv hs => codeAny_mono (F.run A outer s H args us vs Q E0 hr he hb hv hs) fun r s' h => by
    cases r with
    | ok v => cases v <;> exact h
    | error e =>
      obtain ⟨_, _, _, _, _, _, _, _, _, _, _, _, z⟩ := h
      exact z.elim⟩
end Ly

set_option maxHeartbeats 4000000
/-! isinstance, ==, != of rows -/
namespace Ly
open PySem PySem.Spec PyProof.Rows L2
section
variable {K : PySem.W.Frag} {H H' : Hp} {Q : VK} {v w : V} {p q : List Rat} {a : Addr} {xs : List V} {b : Bool}
theorem tyT (h : SqT K H a xs) : TyX K H (.ref a) (.type "tuple") := by
  rcases h with (h | ⟨o, h⟩) | ⟨o, its, n, h, c, _⟩
  · exact .base (.tup h)
  · exact .fTuple h
  · exact .kTuple h c
theorem tyL (h : SqL K H a xs) : TyX K H (.ref a) (.type "list") := by
  rcases h with (h | ⟨o, h⟩) | ⟨o, its, n, h, c, _⟩
  · exact .base (.lst h)
  · exact .base (.frz h)
  · exact .kList h c
theorem u_isi {x : V} {t T : String} (ty : TyX K H x (.type t)) (e : kitB t T = some b) (h : Q (.bl b) H) : rIsi K [x, .ty T] H Q := ⟨x, .ty T, _, _, b, rfl, .ty T, ty, kit_ty e, h⟩
theorem u_isTT (h : SqT K H a xs) (k : Q (.bl true) H) : rIsi K [.ref a, .ty "tuple"] H Q := u_isi (tyT h) (by decide +kernel) k
theorem u_isTL (h : SqT K H a xs) (k : Q (.bl false) H) : rIsi K [.ref a, .ty "list"] H Q := u_isi (tyT h) (by decide +kernel) k
theorem u_isLL (h : SqL K H a xs) (k : Q (.bl true) H) : rIsi K [.ref a, .ty "list"] H Q := u_isi (tyL h) (by decide +kernel) k
theorem u_isII {n : Int} (k : Q (.bl true) H) : rIsi K [.int n, .ty "int"] H Q := u_isi (.base (.int n)) (by decide +kernel) k
theorem u_isIB {n : Int} (k : Q (.bl false) H) : rIsi K [.int n, .ty "bool"] H Q := u_isi (.base (.int n)) (by decide +kernel) k
theorem u_iteNT {A B : Prop} (h : B) : if (!true) = true then A else B := by rw [if_neg (by decide)]; exact h
theorem u_iteNF {A B : Prop} (h : A) : if (!false) = true then A else B := by rw [if_pos (by decide)]; exact h
theorem st_exB {P : Bool → Prop} (h : P b) : ∃ c, V.bl b = .bl c ∧ P c := ⟨b, rfl, h⟩
theorem u_eqS {i j : Str} (h : Q (.bl (decide (i = j))) H) : rEqU K (.str i) (.str j) H Q := .inl ⟨rfl, by rw [show decide (V.str i = V.str j) = decide (i = j) by simp]; exact h⟩
theorem u_neS {i j : Str} (h : Q (.bl (!decide (i = j))) H) : rNeU K (.str i) (.str j) H Q := .inl ⟨rfl, by rw [show decide (V.str i = V.str j) = decide (i = j) by simp]; exact h⟩
/-! data -/
def frD (q : Rat) : PyData := .tuple [.int q.num, .int (q.den : Int)]
theorem Fr.dp {r : Rat} (h : Fr K H v r) : Dp K H v (frD r) := by
  obtain ⟨a, rfl, h⟩ := h
  exact .tup h (.cons (.int _) (.cons (.int _) .nil))
theorem Fs.dp : ∀ {xs : List V} {qs : List Rat}, Fs K H xs qs → DpAll K H xs (qs.map frD)
  | [], [], _ => .nil
  | _ :: _, _ :: _, h => .cons h.1.dp h.2.dp
  | [], _ :: _, h => h.elim
  | _ :: _, [], h => h.elim
theorem RowL.dp (h : RowL K H v p) : Dp K H v (.list (p.map frD)) := by
  obtain ⟨a, xs, rfl, h1, h2⟩ := h
  exact .lst (SqL.of h1) h2.dp
theorem RowT.dp (h : RowT K H v p) : Dp K H v (.tuple (p.map frD)) := by
  obtain ⟨a, xs, rfl, h1, h2⟩ := h
  exact .tup h1 h2.dp
theorem frD_refl (r : Rat) : PyData.eqv (frD r) (frD r) = true := by
  unfold frD
  simp [PyData.eqv, PyData.eqvAll]
theorem frDs_refl : ∀ p : List Rat, PyData.eqvAll (p.map frD) (p.map frD) = true
  | [] => by simp [PyData.eqvAll]
  | q :: p => by
    rw [List.map_cons, PyData.eqvAll, frD_refl, frDs_refl p]
    rfl
theorem frDs_lay : ∀ p : List Rat, PyData.canLayAll0 (p.map frD) = true
  | [] => by simp [PyData.canLayAll0]
  | q :: p => by
    rw [List.map_cons, PyData.canLayAll0, frDs_lay p]
    simp [frD, PyData.canLay0, PyData.canLayAll0]
theorem frDs_depth : ∀ p : List Rat, PyData.depthAll (p.map frD) ≤ 1
  | [] => by simp [PyData.depthAll]
  | q :: p => by
    have := frDs_depth p
    rw [List.map_cons, PyData.depthAll]
    have e : PyData.depth (frD q) = 1 := by simp [frD, PyData.depth, PyData.depthAll]
    omega
theorem shapedL (p : List Rat) : SeqAt.shaped (.list (p.map frD)) = true := by
  have := frDs_depth p
  unfold SeqAt.shaped
  rw [show PyData.canLay0 (.list (p.map frD)) = PyData.canLayAll0 (p.map frD) by simp [PyData.canLay0], frDs_lay, show PyData.depth (.list (p.map frD)) = PyData.depthAll (p.map frD) + 1 by simp [PyData.depth], decide_eq_true (by omega)]
  rfl
theorem shapedT (p : List Rat) : SeqAt.shaped (.tuple (p.map frD)) = true := by
  have := frDs_depth p
  unfold SeqAt.shaped
  rw [show PyData.canLay0 (.tuple (p.map frD)) = PyData.canLayAll0 (p.map frD) by simp [PyData.canLay0], frDs_lay, show PyData.depth (.tuple (p.map frD)) = PyData.depthAll (p.map frD) + 1 by simp [PyData.depth], decide_eq_true (by omega)]
  rfl
/-- a list or a tuple of fractions, of known kind -/
def RowK (t : Bool) (K : PySem.W.Frag) (H : Hp) (v : V) (p : List Rat) : Prop := if t = true then RowT K H v p else RowL K H v p
theorem RowK.row {t : Bool} (h : RowK t K H v p) : Row K H v p := by
  cases t with
  | true => exact RowT.row h
  | false => exact RowL.row h
theorem RowK.same {t : Bool} (h : RowK t K H v p) (e : Same H H') : RowK t K H' v p := by
  cases t with
  | true => exact RowT.same h e
  | false => exact RowL.same h e
theorem RowK.bag {t : Bool} {b : Addr} {n : Nat} (h : RowK t K H v p) (hb : BagAt H b n) (e : SameX b H H') : RowK t K H' v p := by
  cases t with
  | true => exact RowT.imm h (hb.imm e)
  | false => exact RowL.bag h hb e
theorem u_eqRowL (h1 : RowL K H v p) (h2 : RowL K H w p) (k : Q (.bl true) H) : rEqU K v w H Q := .inr ⟨_, _, h1.dp, h2.dp, shapedL p, shapedL p, by
  rw [show PyData.eqv (.list (p.map frD)) (.list (p.map frD)) = true by rw [PyData.eqv]; exact frDs_refl p]; exact k⟩
theorem u_neRowK {t : Bool} (h1 : RowK t K H v p) (h2 : RowK t K H w p) (k : Q (.bl false) H) : rNeU K v w H Q := by
  cases t with
  | true => exact .inr ⟨_, _, RowT.dp h1, RowT.dp h2, shapedT p, shapedT p, by
      rw [show PyData.eqv (.tuple (p.map frD)) (.tuple (p.map frD)) = true by rw [PyData.eqv]; exact frDs_refl p]; exact k⟩
  | false => exact .inr ⟨_, _, RowL.dp h1, RowL.dp h2, shapedL p, shapedL p, by
      rw [show PyData.eqv (.list (p.map frD)) (.list (p.map frD)) = true by rw [PyData.eqv]; exact frDs_refl p]; exact k⟩
theorem Row.sq (h : Row K H v p) : ∃ a xs, v = .ref a ∧ Sq K H a xs ∧ Fs K H xs p := h
end
end Ly

set_option maxHeartbeats 4000000
namespace Ly
open PySem PySem.Spec PyProof.Rows L2
theorem pmul_len (p q : List Rat) : (pmul p q).length ≤ p.length + q.length - 1 := by
  unfold pmul
  rw [trim_len]
  generalize hr : (List.range (p.length + q.length)).map (cv p q) = r
  have cr : ∀ i, cf r i = if i < p.length + q.length then cv p q i else 0 := fun i => by rw [← hr, cf_map]
  rcases Nat.lt_or_ge (p.length + q.length - 1) (tlen r) with z | z
  · exfalso
    refine tlen_top (p := r) (by omega) ?_
    rw [cr]
    split
    · exact cv_out (by omega)
    · rfl
  · exact z
/-- what the law's pairs are -/
def Fit (p q : List Rat) : Prop := IsT p ∧ IsT q ∧ ∃ M A, Sz M p ∧ Sz M q ∧ p.length ≤ A ∧ q.length ≤ A ∧ (M = 41 ∧ A = 12 ∨ M = 281 ∧ A = 6)
theorem Fit.symm {p q : List Rat} (h : Fit p q) : Fit q p := let ⟨a, b, M, A, c, d, e, f, g⟩ := h; ⟨b, a, M, A, d, c, f, e, g⟩
theorem fit_ar1 : ∀ b, b < 13 → (41 + 1) * ((12 - b + 2) * 3 ^ b) ≤ 60000000 := by decide
theorem fit_ar2 : ∀ b, b < 7 → (281 + 1) * ((6 - b + 2) * 3 ^ b) ≤ 60000000 := by decide
theorem Fit.gi {p q : List Rat} (h : Fit p q) : GInv p q := by
  obtain ⟨t1, t2, M, A, z1, z2, l1, l2, g⟩ := h
  rcases g with ⟨rfl, rfl⟩ | ⟨rfl, rfl⟩
  · refine ⟨41, by decide, z1, z2, Nat.le_trans ?_ (fit_ar1 q.length (by omega)), t1, t2⟩
    exact Nat.mul_le_mul_left _ (Nat.mul_le_mul_right _ (by omega))
  · refine ⟨281, by decide, z1, z2, Nat.le_trans ?_ (fit_ar2 q.length (by omega)), t1, t2⟩
    exact Nat.mul_le_mul_left _ (Nat.mul_le_mul_right _ (by omega))
/-- weaker: what the other checks need -/
def Fit0 (p q : List Rat) : Prop := IsT p ∧ IsT q ∧ Sz 300 p ∧ Sz 300 q ∧ p.length ≤ 12 ∧ q.length ≤ 12
theorem Fit.f0 {p q : List Rat} (h : Fit p q) : Fit0 p q := by
  obtain ⟨t1, t2, M, A, z1, z2, l1, l2, g⟩ := h
  exact ⟨t1, t2, z1.mono (by omega), z2.mono (by omega), by omega, by omega⟩
theorem Fit0.symm {p q : List Rat} (h : Fit0 p q) : Fit0 q p := let ⟨a, b, c, d, e, f⟩ := h; ⟨b, a, d, c, f, e⟩
theorem sz_nil {s : Nat} (h : 0 < s) : Sz s [] := ⟨1, by decide, Nat.lt_of_lt_of_le (by decide : 1 < 2 ^ 1) (Nat.pow_le_pow_right (by decide) h), fun q hq => nomatch hq⟩
theorem sz_ones : Sz 1 [1, 1] := ⟨1, by decide, by decide, fun q hq => ⟨1, by
  have : q = 1 := by simpa using hq
  rw [this]
  push_cast
  grind, by decide⟩⟩
theorem Sz.take {s n : Nat} {p : List Rat} (h : Sz s p) : Sz s (p.take n) := h.sub fun q hq => .inl (List.mem_of_mem_take hq)
theorem ent_sz {large : Bool} {qs : List Rat} {k : Nat} (h : ∀ q ∈ qs, En large q) (l : large = true → qs.length ≤ k) : Sz (if large = true then 31 * (k + 1) else 12) (trim qs) := by
  cases large with
  | true =>
    have := l rfl
    rw [if_pos rfl]
    exact ((sz_large fun q hq => (h q hq).1).mono (by omega)).trim
  | false =>
    rw [if_neg Bool.false_ne_true]
    exact (sz_small fun q hq => (h q hq).2 rfl).trim
theorem sz_one {q : Rat} (h : En false q) : Sz 12 [q] := sz_small fun r hr => by rw [List.mem_singleton.mp hr]; exact h.2 rfl
theorem pk {large : Bool} {a x y : Nat} (h1 : large = true → a ≤ x) (h2 : large = false → a ≤ y) : a ≤ if large = true then x else y := by
  cases large with
  | true => exact h1 rfl
  | false => exact h2 rfl
theorem fit_of {large : Bool} {p q : List Rat} (t1 : IsT p) (t2 : IsT q) (z1 : Sz (if large = true then 281 else 41) p) (z2 : Sz (if large = true then 281 else 41) q) (l1 : p.length ≤ if large = true then 6 else 12) (l2 : q.length ≤ if large = true then 6 else 12) : Fit p q := by
  cases large with
  | true => exact ⟨t1, t2, 281, 6, z1, z2, l1, l2, .inr ⟨rfl, rfl⟩⟩
  | false => exact ⟨t1, t2, 41, 12, z1, z2, l1, l2, .inl ⟨rfl, rfl⟩⟩
/-- a suite is read for one class -/
theorem pss_cls {X : Cx} {ss : List Stmt} {t : TS} {cls : Value} {d : Option Addr} {C : Addr} {oe : Obj} (hz : Zc cls d oe) (h : Zc (.ref C) none oe → PSs X ss t) : PSs X ss (fun D σ H => cls = .ref C ∧ d = none ∧ t D σ H) :=
  ⟨fun pins s σ H D I q => by
    obtain ⟨e1, e2, q⟩ := q
    subst e1 e2
    exact (h hz).run pins s σ H D I q⟩
/-! facts of the classes -/
theorem exm_self {K : PySem.W.Frag} {S : Addr} (h1 : PySem.W.subIn K (.ref S) (.type "BaseException") = some true) (h2 : PySem.W.isClsIn K S = true) (h3 : PySem.W.typeIn K (.ref S) = some (.type "type")) (h4 : PySem.W.subIn K (.ref S) (.ref S) = some true) :
    PySem.W.exmOne K (.ref S) (.ref S) = some true := by
  have e1 : (PySem.W.subIn K (.ref S) (.type "BaseException") == some true) = true := by rw [h1] <;> rfl
  have e2 : ((PySem.W.clsIn K S).isSome && PySem.W.typeIn K (.ref S) == some (.type "type")) = true := by
    have h2' : (PySem.W.clsIn K S).isSome = true := h2
    rw [h2', h3] <;> rfl
  show (if (PySem.W.subIn K (.ref S) (.type "BaseException") == some true) = true then (if ((PySem.W.clsIn K S).isSome && PySem.W.typeIn K (.ref S) == some (.type "type")) = true then PySem.W.subIn K (.ref S) (.ref S) else none) else none) = some true
  rw [if_pos e1, if_pos e2]
  exact h4
theorem kit_ref {K : PySem.W.Frag} {a C : Addr} {b : Bool} (h2 : PySem.W.isClsIn K C = true) (h3 : PySem.W.typeIn K (.ref C) = some (.type "type")) (h4 : PySem.W.subIn K (.ref a) (.ref C) = some b) (h5 : PySem.W.subIn K (.ref a) (.ref a) = some true) : PySem.W.kitOne K (.ref a) (.ref C) = some b := by
  unfold PySem.W.kitOne
  by_cases h : a = C
  · subst h
    rw [h5] at h4
    cases h4
    exact if_pos (by simp)
  · rw [if_neg (by simpa using h)]
    unfold PySem.W.kitCls
    have h2' : (PySem.W.clsIn K C).isSome = true := h2
    show (if ((PySem.W.clsIn K C).isSome && PySem.W.typeIn K (.ref C) == some (.type "type")) = true then PySem.W.subIn K (.ref a) (.ref C) else none) = some b
    rw [if_pos (by rw [h2', h3] <;> rfl)]
    exact h4
theorem kit_typ {K : PySem.W.Frag} {a : Addr} {T : String} {b : Bool} (hm : PySem.W.kitMeta T = true) (h4 : PySem.W.subIn K (.ref a) (.type T) = some b) : PySem.W.kitOne K (.ref a) (.type T) = some b := by
  unfold PySem.W.kitOne
  rw [if_neg (by simp)]
  show (if PySem.W.kitMeta T = true then PySem.W.subIn K (.ref a) (.type T) else none) = some b
  rw [if_pos hm]
  exact h4
end Ly

set_option maxHeartbeats 4000000
/-! own exceptions whose __init__ says super().__init__(text) and keeps its arguments as fields -/
namespace PySem
namespace LyE
open PySem.W PySem.Calls PyProof.Rows PySem.HandSPX
/-! ### the text -/
def sArg (p0 p1 p2 p3 p4 p5 : Pos) (k : Nat) (txt : Str) : Stmt := .Expr (.Call (.Attribute (.Call (.Name "super" p0) [] [] p1) "__init__" p2) [.Constant (.str txt) k p3] [] p4) p5
def sFld (q1 q2 q3 q4 : Pos) (a : Str) : Stmt := .Assign [.Attribute (.Name "self" q1) a q2] (.Name a q3) q4
def scO (names : List (Str × NameKind)) : Scope := { kind := .function, names := names, isGenerator := false, isCoroutine := false, more := [] }
/-- what the written part says of the class at C -/
structure ExF (P : Program) (K : Frag) (mg : Str → Option Value) (x : Str) (C fI : Addr) : Prop where
  gC : mg x = some (.ref C)
  cls : ∃ (S : Addr) (bmS : List Value) (nm q : Str) (N : Addr) (bs : List Value) (sn : List Str) (sub : List Value) (ab : Bool) (col : Option Bool) (dd : Option Addr) (k0 k1 k2 k3 k5 : Option Value)
    (nm' q' : Str) (N' : Addr) (bs' : List Value) (hd' : Bool) (sn' : List Str) (sub' : List Value) (ab' : Bool) (col' : Option Bool) (dd' : Option Addr) (j0 j1 j2 j3 j5 : Option Value),
    K.lookup C = some (excClassObj nm q C N bs (.ref S :: bmS) true sn sub ab col dd k0 k1 k2 k3 k5 "ValueError.__new__") ∧
    K.lookup S = some (excClassObj nm' q' S N' bs' bmS hd' sn' sub' ab' col' dd' j0 j1 j2 j3 j5 "ValueError.__new__") ∧ refsVE bmS = true ∧
    findIn K (.ref S) "__init__" = some (some (.builtin "ValueError.__init__"))
  sa : findIn K (.ref C) "__setattr__" = some (some (.builtin "object.__setattr__"))
  ga : findIn K (.ref C) "__getattribute__" = some (some (.builtin "BaseException.__getattribute__"))
  gg : findIn K (.ref C) "__getattr__" = some none
  iC : findIn K (.ref C) "__init__" = some (some (.ref fI))
  tC : typeIn K (.ref fI) = some (.type "function")
  kC : keepIn K (.ref C) = true
  exC : subIn K (.ref C) (.type "BaseException") = some true
  veC : subIn K (.ref C) (.type "ValueError") = some true
  tyC : typeIn K (.ref C) = some (.type "type")
  mC : mroIn K C (.ref C) = some true
  hdC : hasDictIn K C = true
  te : exmOne K (.ref C) (.ref C) = some true
  opq : nsIn K cStatics "thirdparty.any" = some none
  sup : nsIn K mainGlobals "super" = some none
  htop : (P.main.scope.names.lookup ("super" : Str)).isSome = false
section
variable {prog : Program} {w : World} {A : Around} {E : Value → Shared → Prop} {s : Shared} {K : Frag} {mg : Str → Option Value} {base : Heap} {C fI : Addr} {x : Str}
/-- the base's chain -/
theorem ExF.along (T : ExF prog K mg x C fI) : ∃ cd, clsIn K C = some cd ∧ alongIn K "__init__" ((cd.mro.dropWhile (· != .ref C)).drop 1) = some (some (.builtin "ValueError.__init__")) ∧ refsVE cd.mro = true ∧ cd.hasDict = true := by
  obtain ⟨S, bmS, nm, q, N, bs, sn, sub, ab, col, dd, k0, k1, k2, k3, k5, nm', q', N', bs', hd', sn', sub', ab', col', dd', j0, j1, j2, j3, j5, h1, h2, h3, h4⟩ := T.cls
  refine ⟨_, by unfold clsIn; rw [h1], ?_, h3, rfl⟩
  rw [show ((Value.ref C :: Value.ref S :: bmS).dropWhile (· != .ref C)).drop 1 = .ref S :: bmS by simp [List.dropWhile_cons]]
  have z : findIn K (.ref S) "__init__" = alongIn K "__init__" (.ref S :: bmS) := by
    show (match K.lookup S with | some ⟨_, _, .cls cd, _⟩ => alongIn K "__init__" cd.mro | _ => none) = _
    rw [h2]
  rw [← z]
  exact h4
section
variable {h : Heap} {g : Array GenState} {d : Drawn} {t : Nat} {os : OsState} {nm q : Str} {N : Addr} {bs bm : List Value} {hdct : Bool} {sn : List Str} {sub : List Value} {ab : Bool} {col : Option Bool} {dd : Option Addr} {k0 k1 k2 k3 k5 : Option Value}
/-- the bound __init__, called -/
theorem call_mw {u e t0 : Addr} {rest : List Value} {Q : Value → Shared → Prop} (hC : h.get? C = some (excClassObj nm q C N bs bm hdct sn sub ab col dd k0 k1 k2 k3 k5 "ValueError.__new__")) (he : h.get? e = some (excO C t0)) (hu : h.get? u = some (kxs_mw "ValueError.__init__" e)) (hrest : rest.length ≤ sizeLine)
    (hq : ∀ h', (∀ b o, b ≠ e → h.get? b = some o → h'.get? b = some o) → h'.get? e = some (excO C h.objs.size) → Q .none ⟨h', g, d, t, os⟩) : wpAny (model prog w) A (call (.ref u) rest) Q E ⟨h, g, d, t, os⟩ := by
  have FB := PySem.F.excBase_ValueError
  refine wpAny_call (codeAny_of_tree ?_)
  show wpAny _ A.in1 (callAny (.ref u) ⟨rest, []⟩) _ _ _
  simp only [callAny]
  refine wpAny_bind (wpAny_load hu ?_)
  simp only [kxs_mw, show (Value.type "method-wrapper" == Value.type "method" || Value.type "method-wrapper" == Value.type "builtin_function_or_method" || Value.type "method-wrapper" == Value.type "method-wrapper") = true by decide, if_true]
  refine KFB.if_so (by decide) ?_
  refine wpAny_bind (check_bound_init FB.toExcCallFacts hC he rfl ?_)
  refine wpAny_bind (wpAny_pure (wpAny_pure ?_))
  refine ⟨plainId_quiet FB.init.plain _, codeAny_builtin FB.initEntry ?_⟩
  exact exc_init_tree (cls := .ref C) (t0 := t0) (dv := none) (c2 := .none) (c3 := .none) (b4 := .bool false) he hrest fun h' k1 k2 k3 => hq h' k1 k2
end
/-- super().__init__(text), run -/
theorem run_super {body : List Stmt} {qn : Str} {names : List (Str × NameKind)} {L : Addr} {m : Str → Option Value} {mb : Str → Option Value} {p0 p1 p2 p3 p4 p5 : Pos} {k : Nat} {txt : Str} {f cc cda e t0 : Addr} {fd : FuncData} {oc ccl cl : Value} {od cdd cld : Option Addr} {osl ccs csl : Array (Option Value)} {vs : Array Value} {file : Str} {tf : Tok} {ar : Arg} {Q : Flow → Shared → Prop}
    (T : ExF prog K mg x C fI) (X : K.In s.heap) (hg : s.heap.Ns mainGlobals mg) (hb : s.heap.Ns builtinsNs mb) (hbb : ∀ y : Str, y ≠ "__name__" → mb y = bootBuiltins y)
    (hf : K.lookup f = some ⟨oc, od, .func fd, osl⟩) (hp : (fd.params.posonlyargs ++ fd.params.args).head? = some ar) (hn : s.heap.Ns L m) (hv : m ar.arg = some (.ref e)) (he : s.heap.get? e = some (excO C t0))
    (hcode : K.lookup cda = some ⟨ccl, cdd, .fields vs, ccs⟩) (hvs : vs[2]? = some (.str file tf)) (hfile : ((prog.main.file : Str) == file) = true) (hcell : K.lookup cc = some ⟨cl, cld, .cell (some (.ref C)), csl⟩)
    (hks : names.lookup ("super" : Str) = some .globalImplicit) (hkc : names.lookup ("__class__" : Str) = some .free) (hka : names.lookup ar.arg = some .local)
    (hpos : (p2.endLine == p4.line) = true)
    (hq : ∀ h' t1 tk, (∀ b o, b ≠ e → s.heap.get? b = some o → h'.get? b = some o) → h'.get? e = some (excO C t1) → Q .next { s with heap := h', toks := tk }) :
    _root_.PySem.wpAt (model prog w) A (.func body (ksEnv qn (scO names) L f (.ref cda) cc)) (exec (sArg p0 p1 p2 p3 p4 p5 k txt) (ksEnv qn (scO names) L f (.ref cda) cc)) Q E s := by
  obtain ⟨cd, hcd, hal, hmr, hdi⟩ := T.along
  refine ks_wpAt_Expr_any ?_
  refine ks_wpAt_MethodCall (pl := do return (← importBound (.Call (.Name "super" p0) [] [] p1) (ksEnv qn (scO names) L f (.ref cda) cc)).getD true) ?_ ?_
  · obtain ⟨oD, hD1, hD2⟩ : ∃ oD, s.heap.get? C = some oD ∧ oD.data = .cls cd := by
      unfold clsIn at hcd
      split at hcd
      · rename_i c d cd' sl ho
        cases hcd
        exact ⟨_, X _ _ ho, rfl⟩
      · cases hcd
    have cls := T.cls
    obtain ⟨hh, g, d, t, os⟩ := s
    refine ks_wpAt_super_base (env := ksEnv qn (scO names) L f (.ref cda) cc) hks hkc rfl rfl (X _ _ hf) rfl hp rfl (X _ _ hcode) rfl hvs hfile T.htop ?_
    refine ks_loadName_global rfl hks (loadGlobal_builtin (env := ksEnv qn (scO names) L f (.ref cda) cc) hg (mg_none_of X hg T.sup) hb ((hbb _ (by decide +kernel)).trans (show bootBuiltins "super" = some (.type "super") by decide +kernel)) ⟨rfl, ?_⟩)
    refine wpAny_loadName_free rfl hkc rfl ⟨_, X _ _ hcell, rfl⟩ ?_
    refine wpAny_loadName_local rfl hka hn hv ?_
    refine ks_wpAny_isType_cls hD1 hD2 ⟨rfl, ?_⟩
    refine ks_wpAny_call_super hD1 hD2 he rfl (fun c z => by cases z) (looks_mroIn X T.mC) (fun h' e1 kk => ?_)
    have X' := X.keeps kk
    have I : InstAt h' e (excO C t0) C none := ⟨kk _ _ he, rfl, rfl, trivial⟩
    have hI : Looks (model prog w) h' (isInstance (.ref e) (.type "ValueError")) true := I.type.andThen (looks_subIn X' T.veC)
    refine kxs_getMethod kxs_ValueError e1 (looks_opaque X' T.opq) (l₀ := cd.mro) (fun A Q E s kp q => wpAny_bind ((looks_clsIn X' hcd) A _ E s kp (wpAny_pure q))) rfl X' hal hI (ks_ne X' I hcd) rfl ?_
    refine kxs_callWith (i := "ValueError.__init__") (x := e) rfl ?_
    have k2 : ∀ y o, hh.get? y = some o → (h'.push (kxs_mw "ValueError.__init__" e)).get? y = some o := fun y o z => Heap.get?_push_of_some _ (kk y o z)
    obtain ⟨S, bmS, nm, q, N, bs, sn, sub, ab, col, dd, k0, k1, k2', k3, k5, nm', q', N', bs', hd', sn', sub', ab', col', dd', j0, j1, j2, j3, j5, h1, h2, h3, h4⟩ := cls
    refine evalArgs_plain (PyProof.Rows.spliced_more (wpAny_Constant_str (PyProof.Rows.spliced_none ⟨Heap.get?_push_size _ rfl, ?_⟩)))
    refine call_mw (k2 _ _ (X _ _ h1)) (k2 _ _ he) (Heap.get?_push_size _ rfl) (by show 1 ≤ sizeLine; rw [sizeLine_eq]; decide) fun h3' kp hx' => ?_
    exact hq h3' _ _ (fun b o hb z => kp b o hb (k2 b o z)) hx'
  · rw [arm_eval_Call]
    have hf : methodCallForm ([Expr.Constant (.str txt) k p3].length + ([] : List Keyword).length) (backTo p4 (starEach [Expr.Constant (.str txt) k p3] (ksEnv qn (scO names) L f (.ref cda) cc))) (backToKw p4 (keywordEach [] (ksEnv qn (scO names) L f (.ref cda) cc))) = true := rfl
    unfold methodCall calleeOf methodCallPos
    rw [hf, hpos]
    rfl
end
/-! ### stores -/
/-- the fields, the last one first -/
def fmap : List (Str × Value) → Str → Option Value
  | [] => fun _ => none
  | (a, v) :: r => fun y => if y = a then some v else fmap r y
theorem fmap_within : ∀ fs : List (Str × Value), Within (fmap fs) (fs.map (·.1))
  | [] => fun y h => absurd rfl h
  | (a, v) :: r => (fmap_within r).cons a v
section
open Builtin Builtin.ObjectAttr
variable {prog : Program} {w : World} {A : Around} {E : Value → Shared → Prop} {R : Result → Shared → Prop} {hp : Heap} {g : Array GenState} {d : Drawn} {t : Nat} {os : OsState}
theorem osa_more {K : Frag} {name : Str} {tk : Tok} {v : Value} {x C dx : Addr} {fv : Array Value} {cd : ClassData} {m0 : Str → Option Value} {nl : List Str}
    (X : K.In hp) (hx : hp.get? x = some { cls := .ref C, dict := some dx, data := .fields fv }) (hns : hp.Ns1 dx m0) (hw : Within m0 nl) (hz : nl.length ≤ 1000) (hcd : clsIn K C = some cd) (hm : refsVE cd.mro = true) (hh : cd.hasDict = true) (ha : findIn K (.ref C) name = some none)
    (hq : ∀ h' tk', (∀ b o, b ≠ dx → hp.get? b = some o → h'.get? b = some o) → h'.Ns1 dx (fun y => if y = name then some v else m0 y) → R (.ok (.ret .none)) ⟨h', g, d, tk', os⟩) :
    codeAny (model prog w) A (.call (.builtin "object.__setattr__") ⟨[.ref x, .str name tk, v], []⟩) R ⟨hp, g, d, t, os⟩ := by
  obtain ⟨oD, esD, epD, hoD, hdD, _⟩ := hns.count hw
  have I : InstAt hp x { cls := .ref C, dict := some dx, data := .fields fv } C (some oD) := ⟨hx, rfl, rfl, hoD⟩
  have SF := PySem.F.store_object
  have ne := refsVE_ne hm
  have hob : cd.mro.contains (.type "object") = true := (refsVE_contains "object" _ hm).trans (by decide +kernel)
  have sub : Looks (model prog w) hp (isInstance (.ref x) (.type "object")) true := I.type.andThen (looks_mroIn X (by unfold mroIn; rw [hcd, Option.bind_some, if_neg (by rw [ne]; decide), hob]))
  refine codeAny_call_builtin SF.slot.plain SF.entry (@check_slot (model prog w) _ _ ⟨hp, g, d, t, os⟩ "object.__setattr__" "object" "__setattr__" (.ref x) [.str name tk, v] [] _ SF.kind SF.split sub (SF.args (.ref x) (.str name tk) v) ?_)
  have hmr : Looks (model prog w) hp (mroOf (.ref C)) cd.mro := (looks_clsIn X hcd).andThen .now
  have L3 : Looks (model prog w) hp (storeTaker? none) none := .now
  have hcls : Looks (model prog w) hp (classData C) cd := looks_clsIn X hcd
  rw [osa_eq, refuse_eq]
  refine wpAny_bind (wpAny_bind (I.type.at (wpAny_bind (hmr.at ?_))))
  rw [refsVE_pass _ _ hm]
  refine wpAny_pure (wpAny_bind (I.type.at (wpAny_bind ((looks_findIn X ha).at (wpAny_bind (L3.at ?_))))))
  show wpAny _ _ (storeInOwnDict (.ref x) (.ref C) (.str name tk) name v false) _ _ _
  obtain ⟨nm, bs, mro, ns, qn, hd, sn, sb, ab, col, del⟩ := cd
  dsimp only at hh
  subst hh
  unfold storeInOwnDict ownDictForStores
  repeat (first | with_reducible refine ESX.store_in_old hns hw hz ?_ | with_reducible refine wpAny_loadPart_at hx ?_ | with_reducible refine hcls.at ?_ | wp_step)
  intro h' tk' hn' hs
  exact hq h' tk' (fun b o hb ho => (hs.2 b hb).trans ho) hn'
end
/-! ### the stores in a row -/
structure FP where
  q1 : Pos
  q2 : Pos
  q3 : Pos
  q4 : Pos
  a : Str
def FP.st (p : FP) : Stmt := sFld p.q1 p.q2 p.q3 p.q4 p.a
section
variable {prog : Program} {w : World} {A : Around} {E : Value → Shared → Prop} {K : Frag} {mg : Str → Option Value} {C fI e dx L : Addr} {x : Str} {m : Str → Option Value} {va : Str → Value} {names : List (Str × NameKind)} {qn : Str} {f cc : Addr} {cdv : Value}
theorem ns_keep {h h' : Heap} {L : Addr} {m : Str → Option Value} (hn : h.Ns L m) (k : ∀ o, h.get? L = some o → h'.get? L = some o) : h'.Ns L m := by
  obtain ⟨o, es, ep, ho, r⟩ := hn
  exact ⟨o, es, ep, k o ho, r⟩
theorem ldX {s : Shared} {y : Str} {pos : Pos} {v : Value} {Q : Value → Shared → Prop} (hn : s.heap.Ns L m) (hv : m y = some v) (hl : names.lookup y = some .local) (hd : (y == ("__debug__" : Str)) = false) (h : Q v s) :
    wpAny (model prog w) A (eval (.Name y pos) (ksEnv qn (scO names) L f cdv cc)) Q E s := wpAny_Name (wpAny_loadName_local rfl hl hn hv h) hd
theorem flds_run {fv : Array Value} {cd : ClassData} {Q : Flow → Shared → Prop} (hsa : findIn K (.ref C) "__setattr__" = some (some (.builtin "object.__setattr__"))) (hcd : clsIn K C = some cd) (hm : refsVE cd.mro = true) (hh : cd.hasDict = true)
    (hself : m "self" = some (.ref e)) (hsl : names.lookup ("self" : Str) = some .local) (hL : L ≠ dx) (hKd : K.lookup dx = none) (hed : e ≠ dx) :
    ∀ (ps : List FP) (fs : List (Str × Value)) (s : Shared), K.In s.heap → s.heap.Ns L m → s.heap.get? e = some { cls := .ref C, dict := some dx, data := .fields fv } → s.heap.Ns1 dx (fmap fs) → ps.length + fs.length ≤ 100 →
      (∀ p ∈ ps, findIn K (.ref C) p.a = some none ∧ m p.a = some (va p.a) ∧ names.lookup p.a = some .local ∧ (p.a == ("__debug__" : Str)) = false) →
      (∀ h' tk, (∀ b o, b ≠ dx → s.heap.get? b = some o → h'.get? b = some o) → h'.Ns1 dx (fmap ((ps.map fun p => (p.a, va p.a)).reverse ++ fs)) → Q .next { s with heap := h', toks := tk }) →
      wpAny (model prog w) A (execs (ps.map FP.st) (ksEnv qn (scO names) L f cdv cc)) Q E s
  | [], fs, s, _, _, _, h1, _, _, hq => wpAny_execs_nil (hq s.heap s.toks (fun _ _ _ z => z) h1)
  | p :: ps, fs, s, X, hn, he, h1, hz, hp, hq => by
    obtain ⟨p1, p2, p3, p4⟩ := hp p List.mem_cons_self
    obtain ⟨hp0, g, d, tk, os⟩ := s
    show wpAny _ _ (execs (sFld p.q1 p.q2 p.q3 p.q4 p.a :: ps.map FP.st) _) _ _ _
    refine wpAny_execs_cons (plainObj_wpAny_Assign_Attribute ?_)
    refine ldX hn p2 p3 p4 (ldX hn hself hsl (by decide) ?_)
    obtain ⟨oD, esD, epD, hoD, hdD, _⟩ := h1.count (fmap_within fs)
    refine set_plain X (ox := { cls := .ref C, dict := some dx, data := .fields fv }) (od := some oD) ⟨he, rfl, rfl, hoD⟩ hsa ?_
    refine osa_more X he h1 (fmap_within fs) (by rw [List.length_map]; simp at hz; omega) hcd hm hh p1 fun h' tk' kk hns' => ?_
    refine flds_run hsa hcd hm hh hself hsl hL hKd hed ps ((p.a, va p.a) :: fs) _ (fun a o z => kk a o (fun y => by rw [y, hKd] at z; cases z) (X a o z)) (ns_keep hn fun o z => kk L o hL z) (kk _ _ hed he) hns' (by simp at hz ⊢; omega) (fun p' hp' => hp p' (List.mem_cons_of_mem _ hp')) fun h'' tk'' k2 hns2 => ?_
    refine hq h'' tk'' (fun b o hb z => k2 b o hb (kk b o hb z)) ?_
    simpa using hns2
end
/-! ### the whole __init__ -/
theorem lk_cons {a f : Str} {v : Value} {r : List (Str × Value)} : ((a, v) :: r).lookup f = if f = a then some v else r.lookup f := by
  rw [List.lookup_cons]
  by_cases h : f = a
  · rw [if_pos h, show (f == a) = true by simpa using h]
  · rw [if_neg h, show (f == a) = false by simpa using h]
theorem fmap_lookup : ∀ (l : List (Str × Value)) (f : Str), fmap l f = l.lookup f
  | [], f => rfl
  | (a, v) :: r, f => by
    rw [lk_cons, ← fmap_lookup r f]
    rfl
theorem lookup_none : ∀ {l : List (Str × Value)} {f : Str}, f ∉ l.map (·.1) → l.lookup f = none
  | [], _, _ => rfl
  | (a, v) :: r, f, h => by
    rw [List.map_cons, List.mem_cons, not_or] at h
    rw [lk_cons, if_neg h.1]
    exact lookup_none h.2
theorem lookup_mem : ∀ {l : List (Str × Value)} {q : Str × Value}, (l.map (·.1)).Nodup → q ∈ l → l.lookup q.1 = some q.2
  | [], _, _, h => nomatch h
  | (a, v) :: r, q, hn, h => by
    rw [List.map_cons, List.nodup_cons] at hn
    rw [lk_cons]
    rcases List.mem_cons.mp h with rfl | h
    · rw [if_pos rfl]
    · have h' := List.mem_map_of_mem (f := fun p : Str × Value => p.1) h
      rw [if_neg (fun z => hn.1 (by rw [← z]; exact h'))]
      exact lookup_mem hn.2 h
theorem lookup_rev : ∀ {l : List (Str × Value)} {f : Str}, (l.map (·.1)).Nodup → l.reverse.lookup f = l.lookup f
  | [], f, _ => rfl
  | (a, v) :: r, f, h => by
    rw [List.map_cons, List.nodup_cons] at h
    rw [List.reverse_cons, List.lookup_append, lookup_rev h.2, lk_cons, lk_cons]
    by_cases e : f = a
    · subst e
      rw [lookup_none h.1, if_pos rfl, if_pos rfl]
      rfl
    · rw [if_neg e, if_neg e]
      cases List.lookup f r <;> rfl
/-- the class at C, its __init__ at fI with the fields as -/
structure ExTxt (P : Program) (K : Frag) (mg : Str → Option Value) (x : Str) (as : List Str) (C fI : Addr) : Prop where
  T : ExF P K mg x C fI
  nd : as.Nodup
  ns : ("self" : Str) ∉ as
  small : as.length ≤ 50
  pos : as ≠ []
  noA : ∀ a ∈ as, findIn K (.ref C) a = some none
  fn : ∃ (ps : List FP) (names : List (Str × NameKind)) (qual : Str) (params : Arguments) (p0 p1 p2 p3 p4 p5 : Pos) (k : Nat) (txt : Str) (oc : Value) (od : Option Addr) (doc pm : Value) (an : Option Addr) (cda cc : Addr) (ct : Value) (osl : Array (Option Value)) (ar : Arg)
    (ccl cl : Value) (cdd cld : Option Addr) (ccs csl : Array (Option Value)) (vs : Array Value) (file : Str) (tf : Tok),
    K.lookup fI = some ⟨oc, od, .func (ksFn "__init__" qual params (sArg p0 p1 p2 p3 p4 p5 k txt :: ps.map FP.st) (scO names) .none .none doc pm an (.ref cda) ct cc), osl⟩ ∧ codeIn K (.ref cda) qual = true ∧ ps.map FP.a = as ∧
    K.lookup cda = some ⟨ccl, cdd, .fields vs, ccs⟩ ∧ vs[2]? = some (.str file tf) ∧ ((P.main.file : Str) == file) = true ∧ K.lookup cc = some ⟨cl, cld, .cell (some (.ref C)), csl⟩ ∧ (p2.endLine == p4.line) = true ∧
    (params.posonlyargs ++ params.args).head? = some ar ∧ ar.arg = "self" ∧ names.lookup ("super" : Str) = some .globalImplicit ∧ names.lookup ("__class__" : Str) = some .free ∧ names.lookup ("self" : Str) = some .local ∧
    (∀ a ∈ as, names.lookup a = some .local ∧ (a == ("__debug__" : Str)) = false) ∧ (∀ y ∈ names, y.2 ≠ .cell) ∧
    (∀ (s : Shared) (e : Value) (us : List Value), us.length = as.length → BindsTo s (ksFn "__init__" qual params (sArg p0 p1 p2 p3 p4 p5 k txt :: ps.map FP.st) (scO names) .none .none doc pm an (.ref cda) ct cc) ⟨e :: us, []⟩ ((("self" : Str), e) :: as.zip us))
/-- what __init__ leaves of a fresh exception at x -/
structure InitEnd (h h' : Heap) (x C dx t1 : Addr) (fs : List (Str × Value)) : Prop where
  keep : ∀ b o, b ≠ x → h.get? b = some o → h'.get? b = some o
  obj : h'.get? x = some { cls := .ref C, dict := some dx, data := .fields #[.ref t1, .none, .none, .none, .bool false, .none] }
  dbig : h.objs.size ≤ dx
  dne : dx ≠ x
  ns : h'.Ns1 dx (fmap fs)
section
variable {prog : Program} {w : World} {A : Around} {E : Value → Shared → Prop} {R : Result → Shared → Prop} {s : Shared} {K : Frag} {mg mb : Str → Option Value} {C fI : Addr} {x : Str} {as : List Str}
theorem zip_keys : ∀ {as : List Str} {us : List Value}, us.length = as.length → (as.zip us).map (·.1) = as
  | [], [], _ => rfl
  | a :: as, u :: us, h => by rw [List.zip_cons_cons, List.map_cons, zip_keys (by simpa using h)]
theorem init_run (T : ExTxt prog K mg x as C fI) {e t0 : Addr} {us : List Value} (X : K.In s.heap) (hg : s.heap.Ns mainGlobals mg) (hb : s.heap.Ns builtinsNs mb) (hbb : ∀ y : Str, y ≠ "__name__" → mb y = bootBuiltins y)
    (hlim : s.heap.NoLimit) (hx : s.heap.get? e = some (excO C t0)) (hnx : K.lookup e = none) (hge : mainGlobals ≠ e) (hbe : builtinsNs ≠ e) (hroom : A.depth < recursionLimit) (hu : us.length = as.length)
    (hq : ∀ h' tk dx t1, InitEnd s.heap h' e C dx t1 (as.zip us).reverse → R (.ok (.ret .none)) { s with heap := h', toks := tk }) :
    codeAny (model prog w) A (.call (.ref fI) ⟨.ref e :: us, []⟩) R s := by
  obtain ⟨ps, names, qual, params, p0, p1, p2, p3, p4, p5, k, txt, oc, od, doc, pm, an, cda, cc, ct, osl, ar, ccl, cl, cdd, cld, ccs, csl, vs, file, tf, ho, hcd, hps, hcode, hvs, hfile, hcell, hpos, har, hself, hks, hkc, hsl, hal, hnc, hbind⟩ := T.fn
  obtain ⟨cd, hcc, halo, hmr, hdi⟩ := T.T.along
  have keys := zip_keys hu
  refine ks_codeAny_call_defAt (fd := ksFn "__init__" qual params (sArg p0 p1 p2 p3 p4 p5 k txt :: ps.map FP.st) (scO names) .none .none doc pm an (.ref cda) ct cc) (body := sArg p0 p1 p2 p3 p4 p5 k txt :: ps.map FP.st) (binds := (("self" : Str), Value.ref e) :: as.zip us)
    hroom (X _ _ ho) rfl hlim (codeRec_of X hcd) rfl (hbind s (.ref e) us hu) hnc (fun y hy => ?_) (fun h₁ hns hk => ?_) rfl rfl rfl
  · rcases List.mem_cons.mp hy with rfl | hy
    · exact hsl
    · exact (hal y.1 (by rw [← keys]; exact List.mem_map_of_mem hy)).1
  have X₁ : K.In h₁ := X.keeps hk
  have hLe : s.heap.objs.size ≠ e := Nat.ne_of_gt (Heap.lt_size hx)
  have mself : ((("self" : Str), Value.ref e) :: as.zip us).reverse.lookup ("self" : Str) = some (.ref e) := by
    rw [lookup_rev (by rw [List.map_cons, keys, List.nodup_cons]; exact ⟨T.ns, T.nd⟩), lk_cons, if_pos rfl]
  refine ks_wpAt_execs_cons (run_super T.T X₁ (ns_keep hg fun o z => hk _ _ z) (ns_keep hb fun o z => hk _ _ z) hbb ho har hns (by rw [hself]; exact mself) (hk _ _ hx) hcode hvs hfile hcell hks hkc (by rw [hself]; exact hsl) hpos fun h2 t1 tk2 k2 hx2 => ?_)
  show _root_.PySem.wpAt _ _ _ (execs (ps.map FP.st) _) _ _ _
  refine wpAt_of_wpAny ?_
  have hlL : s.heap.objs.size < h₁.objs.size := hns.lt
  have hkeep : ∀ b o, b ≠ e → s.heap.get? b = some o → h2.get? b = some o := fun b o hb z => k2 b o hb (hk b o z)
  have X2 : K.In h2 := fun a o z => hkeep a o (fun y => by rw [y, hnx] at z; cases z) (X a o z)
  have hns2 := ns_keep (h' := h2) hns fun o z => k2 _ _ hLe z
  -- the arguments as the body reads them
  let va : Str → Value := fun a => ((as.zip us).lookup a).getD .none
  have mva : ∀ a ∈ as, ((("self" : Str), Value.ref e) :: as.zip us).reverse.lookup a = some (va a) := fun a ha => by
    rw [lookup_rev (by rw [List.map_cons, keys, List.nodup_cons]; exact ⟨T.ns, T.nd⟩), lk_cons, if_neg (by rintro rfl; exact T.ns ha)]
    show _ = some (((as.zip us).lookup a).getD .none)
    cases z : (as.zip us).lookup a with
    | some v => rfl
    | none =>
      exfalso
      have : a ∈ (as.zip us).map (·.1) := by rw [keys]; exact ha
      obtain ⟨p, hp, hpa⟩ := List.mem_map.mp this
      have := List.lookup_eq_none_iff.mp z p hp
      rw [hpa] at this
      simp at this
  match ps, hps with
  | [], hps => exact absurd hps.symm T.pos
  | p :: ps', hps =>
    have hpa : p.a ∈ as := by rw [← hps]; exact List.mem_cons_self
    show wpAny _ _ (execs (sFld p.q1 p.q2 p.q3 p.q4 p.a :: ps'.map FP.st) _) _ _ _
    refine wpAny_execs_cons (plainObj_wpAny_Assign_Attribute ?_)
    refine ldX hns2 (mva _ hpa) (hal _ hpa).1 (hal _ hpa).2 (ldX hns2 mself hsl (by decide) ?_)
    refine set_plain X2 (ox := excO C t1) (od := none) ⟨hx2, rfl, rfl, trivial⟩ T.T.sa ?_
    refine exc_osa X2 hx2 hcc hmr hdi (T.noA _ hpa) (fun h₃ tk₃ dx k₃ dn dne hx₃ hn₃ => ?_)
    have hsz : s.heap.objs.size < h2.objs.size := hns2.lt
    have dn' : h2.objs.size ≤ dx := dn
    have hKd : K.lookup dx = none := by
      cases z : K.lookup dx with
      | none => rfl
      | some o => exact absurd (Heap.lt_size (X _ _ z)) (Nat.not_lt.mpr (Nat.le_trans (Nat.le_of_lt hsz) dn'))
    refine flds_run (va := va) T.T.sa hcc hmr hdi mself hsl (Nat.ne_of_lt (Nat.lt_of_lt_of_le hsz dn')) hKd (Ne.symm dne) ps' [(p.a, va p.a)] _ (fun a o z => k₃ a o (fun y => by rw [y, hnx] at z; cases z) (X2 a o z)) (ns_keep hns2 fun o z => k₃ _ _ hLe z) hx₃ hn₃ (by
        have := T.small
        rw [← hps, List.map_cons, List.length_cons, List.length_map] at this
        simp
        omega) (fun p' hp' => ?_) fun h4 tk4 k4 hn4 => ?_
    · have ha' : p'.a ∈ as := by rw [← hps]; exact List.mem_cons_of_mem _ (List.mem_map_of_mem hp')
      exact ⟨T.noA _ ha', mva _ ha', (hal _ ha').1, (hal _ ha').2⟩
    · have ez : (ps'.map fun p => (p.a, va p.a)).reverse ++ [(p.a, va p.a)] = (as.zip us).reverse := by
        rw [← List.reverse_cons]
        congr 1
        have z1 : (p :: ps').map (fun p => (p.a, va p.a)) = ((p :: ps').map FP.a).map fun a => (a, va a) := by rw [List.map_map]; rfl
        show (p :: ps').map (fun p => (p.a, va p.a)) = _
        rw [z1, hps]
        have z2 : ((as.zip us).map (·.1)).map (fun a => (a, va a)) = as.zip us := by
          rw [List.map_map]
          refine (List.map_congr_left fun q hq => ?_).trans (List.map_id _)
          show (q.1, ((as.zip us).lookup q.1).getD .none) = q
          rw [lookup_mem (by rw [keys]; exact T.nd) hq]
          rfl
        rw [keys] at z2
        exact z2
      rw [ez] at hn4
      refine hq h4 tk4 dx t1 ⟨fun b o hb z => ?_, ?_, Nat.le_trans (Nat.le_of_lt hsz) dn', dne, hn4⟩
      · have z2 := k₃ b o hb (hkeep b o hb z)
        exact k4 b o (Nat.ne_of_lt (Nat.lt_of_lt_of_le (Heap.lt_size z) (Nat.le_trans (Nat.le_of_lt hsz) dn'))) z2
      · exact k4 _ _ (Ne.symm dne) hx₃
end
end LyE
end PySem

set_option maxHeartbeats 4000000
/-! raise X(e, ..) with fields; a field of a caught one -/
namespace PySem
namespace LyE
open PySem.W PySem.Calls PyProof.Rows PySem.HandSPX
structure OwnMade (h h' : Heap) (e C d : Addr) (fs : List (Str × Value)) : Prop where
  keep : ∀ b o, h.get? b = some o → h'.get? b = some o
  new : h.objs.size ≤ e
  obj : ∃ oe vs, h'.get? e = some oe ∧ oe.cls = .ref C ∧ oe.dict = some d ∧ oe.data = .fields vs ∧ vs[1]? = some .none
  dbig : h.objs.size ≤ d
  dne : d ≠ e
  ns : h'.Ns1 d (fmap fs)
section
variable {prog : Program} {w : World} {A : Around} {E : Value → Shared → Prop} {R : Result → Shared → Prop} {s : Shared} {K : Frag} {mg mb : Str → Option Value} {C fI : Addr} {x : Str} {as : List Str}
theorem ex_made (T : ExTxt prog K mg x as C fI) {us : List Value} (X : K.In s.heap) (hg : s.heap.Ns mainGlobals mg) (hb : s.heap.Ns builtinsNs mb) (hbb : ∀ y : Str, y ≠ "__name__" → mb y = bootBuiltins y) (hlim : s.heap.NoLimit) (hroom : A.depth + 1 < recursionLimit) (hu : us.length = as.length)
    (hq : ∀ h' tk e d, OwnMade s.heap h' e C d (as.zip us).reverse → R (.ok (.ret (.ref e))) { s with heap := h', toks := tk }) :
    codeAny (model prog w) A (.call (.ref C) ⟨us, []⟩) R s := by
  obtain ⟨S, bmS, nm, q, N, bs, sn, sub, ab, col, dd, k0, k1, k2', k3, k5, nm', q', N', bs', hd', sn', sub', ab', col', dd', j0, j1, j2, j3, j5, h1, h2, h3, h4⟩ := T.T.cls
  obtain ⟨hp, g, dr, tk, os⟩ := s
  have k : ∀ b o, hp.get? b = some o → ((hp.push (kdv_tup us)).push (excO C hp.objs.size)).get? b = some o := fun b o e => Heap.get?_push_of_some _ (Heap.get?_push_of_some _ e)
  have hget : ((hp.push (kdv_tup us)).push (excO C hp.objs.size)).get? (hp.objs.size + 1) = some (excO C hp.objs.size) := by heap_get
  have big : ∀ {b : Addr} {o : Obj}, hp.get? b = some o → b ≠ hp.objs.size + 1 := fun {b o} z => Nat.ne_of_lt (Nat.lt_succ_of_lt (Heap.lt_size z))
  have hnx : K.lookup (hp.objs.size + 1) = none := by
    cases e : K.lookup (hp.objs.size + 1) with
    | none => rfl
    | some o => exact absurd rfl (big (X _ _ e))
  have hsz : us.length ≤ sizeLine := by
    have := T.small
    rw [sizeLine_eq]
    omega
  have ng : mainGlobals ≠ hp.objs.size + 1 := by
    obtain ⟨o, es, ep, ho, _⟩ := hg
    exact big ho
  have nb : builtinsNs ≠ hp.objs.size + 1 := by
    obtain ⟨o, es, ep, ho, _⟩ := hb
    exact big ho
  refine call_own F.excBase_ValueError (fun Y => refsVE_contains Y (.ref S :: bmS) h3) (X _ _ h1) (looks_findIn X T.T.iC) (fun self => bind_fn X self T.T.tC) hsz ?_
  refine init_run (s := ⟨(hp.push (kdv_tup us)).push (excO C hp.objs.size), g, dr, tk, os⟩) T (X.keeps k) (ns_keep hg fun o z => k _ _ z) (ns_keep hb fun o z => k _ _ z) hbb (hlim.keeps k) hget hnx ng nb ?_ hu fun h' tk' dx t1 ⟨k', hx, dn, dne, hns⟩ => ?_
  · show A.depth + 1 < recursionLimit
    exact hroom
  · have old : ∀ b o, hp.get? b = some o → h'.get? b = some o := fun b o e => k' b o (big e) (k b o e)
    have z : hp.objs.size + 1 + 1 ≤ dx := by
      first
        | (simpa only [Heap.size_push] using dn)
        | exact dn
        | (have q := dn; rw [Heap.size_push, Heap.size_push] at q; exact q)
    exact ⟨rfl, hq h' tk' (hp.objs.size + 1) dx ⟨old, Nat.le_succ _, ⟨_, _, hx, rfl, rfl, rfl, rfl⟩, Nat.le_trans (Nat.le_trans (Nat.le_succ _) (Nat.le_succ _)) z, dne, hns⟩⟩
end
end LyE
end PySem
namespace Ly
open PySem PySem.Spec PyProof.Rows L2
theorem rel_zip : ∀ {as : List Str} {vs : List V} {us : List Value}, Vals vs us → ∀ f : Str, RelO ((as.zip vs).lookup f) ((as.zip us).lookup f)
  | [], _, _, _, f => by simp [List.lookup]; trivial
  | _ :: _, _, _, .nil, f => by simp [List.lookup]; trivial
  | a :: as, v :: vs, u :: us, .cons r t, f => by
    rw [List.zip_cons_cons, List.zip_cons_cons, PySem.LyE.lk_cons, List.lookup_cons]
    by_cases h : f = a
    · rw [if_pos h, show (f == a) = true by simpa using h]
      exact r
    · rw [if_neg h, show (f == a) = false by simpa using h]
      exact rel_zip t f
section
variable {X : Cx} {C fI : Addr} {x : Str} {as : List Str}
/-- X(e, ..) -/
def tMkX (C : Addr) (as : List Str) (ta : TA) : L2.St → Hp → XK → Prop := fun σ H Q => ta σ H fun vs H1 => vs.length = as.length ∧ ∀ d, H1 d = none → Q (.ref C) (some d) (upd H1 d (.xd (as.zip vs)))
theorem pmk_X {a : Expr} {es : List Expr} {ta : TA} {p pos : Pos} {k : Nat} (T : PySem.LyE.ExTxt X.prog X.K X.mg x as C fI) (hr : Room k X.A) (ha : PA X (a :: es) ta) (hg : Gl X x)
    (hdb : (x == ("__debug__" : Str)) = false := by decide) (he : starEach (a :: es) X.env = (false, eval a X.env) :: starEach es X.env := by rfl) (hpl : (backTo pos (starEach es X.env)).any (·.1) = false := by rfl) :
    PMk X (.Call (.Name x p) (a :: es) [] pos) (tMkX C as ta) := by
  intro pins s σ H Q I h
  refine wpAny_Call_Name_kw (ld_glob I hg T.T.gC ?_ hdb)
  refine PySem.W.callWith_K (h₀ := X.base) I.ok.mod.kin T.T.kC (thn (ha.run pos pins s σ H _ I h) fun us s1 hh => ?_) he hpl
  obtain ⟨vs, H1, I1, r1, ev, q1⟩ := hh
  refine ⟨I1.kIn, ?_⟩
  show wpAny _ _ (call (.ref C) us) _ _ _
  have hlim := I1.nolimit
  obtain ⟨mb, hmb, hbb⟩ := I1.ok.mod.blt
  have hgl := PySem.LyE.ns_keep I1.ok.mod.glob fun o z => I1.bk _ _ z
  have hbl := PySem.LyE.ns_keep hmb fun o z => I1.bk _ _ z
  have hu : us.length = as.length := by rw [← r1.length]; exact ev
  obtain ⟨hp, g, dr, tk, os⟩ := s1
  refine wpAny_call (PySem.LyE.ex_made T I1.kIn hgl hbl hbb hlim (by have := hr.dp; omega) hu fun h' tk' e d M => ?_)
  show MkP X pins σ Q (.ref e) ⟨h', g, dr, tk', os⟩
  obtain ⟨oe, fv, hoe, hc, hd, hdat, h1⟩ := M.obj
  have hns := M.ns
  obtain ⟨G', g1, g2⟩ := restrict h' fun b => decide (b ≠ e)
  have gk : ∀ b, b ≠ e → G'.get? b = h'.get? b := fun b hb => g1 b (decide_eq_true hb)
  have ge : G'.get? e = none := g2 e (by simp)
  have old : ∀ b o, hp.get? b = some o → G'.get? b = some o := fun b o q => (gk b (Nat.ne_of_lt (Nat.lt_of_lt_of_le (Heap.lt_size q) M.new))).trans (M.keep b o q)
  have rel : ∀ f : Str, RelO ((as.zip vs).lookup f) (PySem.LyE.fmap (as.zip us).reverse f) := fun f => by
    rw [PySem.LyE.fmap_lookup, PySem.LyE.lookup_rev (by rw [PySem.LyE.zip_keys hu]; exact T.nd)]
    exact rel_zip r1 f
  have ob : ObjOk X.prog X.w (upd H1 d (.xd (as.zip vs))) G' d (.xd (as.zip vs)) :=
    ⟨_, hns.at (fun o q => (gk d M.dne).trans q), rel⟩
  have J : Inv X pins σ (upd H1 d (.xd (as.zip vs))) ⟨G', g, dr, tk', os⟩ := I1.laid (t' := tk') old M.dbig ob
  refine ⟨e, oe, fv, ⟨G', g, dr, tk', os⟩, _, .ref C, some d, rfl, J, fun b o q => ?_, ge, hoe, ⟨hc, hd⟩, hdat, h1, ?_, rfl, I1.bare, raises_own T.T.exC T.T.tyC, q1 d (I1.hok.fresh M.dbig)⟩
  · by_cases hb : b = e
    · have q' : G'.get? b = some o := q
      rw [hb, ge] at q'; cases q'
    · exact (gk b hb).symm.trans q
  · rw [upd_ne (Ne.symm M.dne)]
    exact I1.hok.fresh M.new
/-- e.f, e the exception that the suite holds (at a; its class C, its dict d) -/
def tFldX (C a : Addr) (f : Str) (cls : Value) (d : Option Addr) (te : TE) : TE := fun σ H Q => te σ H fun y H1 => y = .ref a ∧ cls = .ref C ∧ ∃ (dd : Addr) (fs : List (Str × V)) (v : V), d = some dd ∧ H1 dd = some (.xd fs) ∧ fs.lookup f = some v ∧ Q v H1
theorem pe_fldX {a : Addr} {oe : Obj} {cls : Value} {d : Option Addr} {pn : List (Addr × Obj)} {e : Expr} {te : TE} {f : Str} {pos : Pos} (T : PySem.LyE.ExTxt X.prog X.K X.mg x as C fI) (hf' : f ∈ as) (hz : Zc cls d oe) (hf : ∃ vs, oe.data = .fields vs) (he : PE (X.suite a ((a, oe) :: pn)) e te)
    (hb : attributeBase e f X.env (eval e X.env) = eval e X.env := by rfl) :
    PE (X.suite a ((a, oe) :: pn)) (.Attribute e f pos) (tFldX C a f cls d te) := by
  refine ⟨fun pins s σ H Q I h => ?_⟩
  refine attr_of hb (thn (he.run pins s σ H _ I h) fun u s1 hh => ?_)
  obtain ⟨y, H1, I1, rx, ex, ec, dd, fs, v, ed, ea, el, q⟩ := hh
  subst ex
  obtain rfl : u = Value.ref a := rx
  subst ec
  subst ed
  obtain ⟨ha, _⟩ := I1.pin (a, oe) (List.mem_append_left _ List.mem_cons_self)
  obtain ⟨vs, hd⟩ := hf
  have hx : ObjOk X.prog X.w H1 s1.heap dd (.xd fs) := I1.hok dd _ ea
  obtain ⟨mA, hns, hr⟩ := hx
  obtain ⟨od, ho, hl⟩ := lookIn_ns hns
  obtain ⟨u, hu, ru⟩ := RelO.some_of (v := v) (o := mA f) (by rw [← el]; exact hr f)
  have J : PySem.W.InstAt s1.heap a oe C (some od) := ⟨ha, hz.1, by unfold PySem.W.notCls; rw [hd] <;> rfl, by rw [hz.2]; exact ho⟩
  exact HandSPX.exc_get I1.kIn J T.T.ga T.T.gg T.T.exC (PySem.W.findObj_own T.T.hdC (T.noA _ hf') rfl (by rw [hl, hu])) (handed_of ru) ⟨v, H1, I1.tok _, ru, q⟩
end
end Ly

set_option maxHeartbeats 4000000
/-! own classes: len(x), e in x, methods that raise in a try, zip of what are lists or tuples -/
namespace Ly
open PySem PySem.Spec PyProof.Rows L2
section
variable {X : Cx} {CX : CXT} {k : Nat} {f C : Addr} {fd : FuncData} {ps : List Str} {sp : Sp} {E : L2.St → XK} {x m : Str} {p pos apos : Pos} {e o : Expr} {es : List Expr} {ta tb : TE} {t : TA}
/-- o.m(e, ..), it may raise -/
def tMethS (C : Addr) (m : Str) (sp : Sp) (E : L2.St → XK) (ta : TE) (t : TA) : TE := fun σ H Q => ta σ H fun x H1 => ∃ a dx fs, x = .ref a ∧ H1 a = some (.ins C dx fs) ∧ fs.lookup m = none ∧ t σ H1 fun vs H2 => sp (.ref a :: vs) H2 Q (E σ)
theorem pe_methW {pl : Sem Bool} (he : PE X o ta) (c : Cls X.K C) (hm : Meth X.K C m f) (F : FnOk X.prog X.w X.K X.mg X.base CX k f fd ps sp) (hr : Room k X.A) (hb : Binds X.K fd ps []) (hx : ∀ σ, PassesAt CX X σ (E σ)) (ha : PA X (e :: es) t)
    (hst : starEach (e :: es) X.env = (false, eval e X.env) :: starEach es X.env := by rfl) (hpl : (backTo pos (starEach es X.env)).any (·.1) = false := by rfl)
    (ht : eval (.Call (.Attribute o m apos) (e :: es) [] pos) X.env = (do
      let ov ← eval o X.env
      standAt apos.atName
      let (f, first) ← holding [ov] (getMethod ov m pl)
      callWith pos f first (backTo pos (starEach (e :: es) X.env)) (backToKw pos (keywordEach [] X.env))) := by rfl) :
    PE X (.Call (.Attribute o m apos) (e :: es) [] pos) (tMethS C m sp E ta t) := by
  refine ⟨fun pins s σ H Q I h => ?_⟩
  refine PySem.W.methodCall_KW (pl := pl) (thn (he.run pins s σ H _ I h) fun u s1 ⟨x, H1, I1, rx, a, dx, fs, ex, ea, l, q⟩ => ?_) ht
  subst ex
  obtain rfl : u = Value.ref a := rx
  refine getmeth_ok I1 ea c hm l ?_
  refine PySem.W.callWith_K (first := [.ref a]) (h₀ := X.base) I.ok.mod.kin hm.kp (thn (ha.run pos pins s1 σ H1 _ I1 q) fun us s2 ⟨vs, H2, I2, r, q2⟩ => ⟨I2.kIn, ?_⟩) hst hpl
  exact run_fnS (us := .ref a :: us) (vs := .ref a :: vs) F hr hb (hx σ) I2 (.cons rfl r) q2
/-- len(x), x of an own class with its __len__ -/
def rLenO (K : PySem.W.Frag) (C : Addr) (sp : Sp) : List V → Hp → VK → Prop := fun xs H Q => ∃ a dx fs, xs = [.ref a] ∧ H a = some (.ins C dx fs) ∧ sp [.ref a] H (fun v H' => ∃ n : Int, v = .int n ∧ 0 ≤ n ∧ n < 2 ^ 62 ∧ Q (.int n) H') E0
theorem call_lenO (c : Cls X.K C) (hm : Meth X.K C "__len__" f) (F : FnOk X.prog X.w X.K X.mg X.base CX0 k f fd ps sp) (hr : Room k X.A.in1) (hb : Binds X.K fd ps []) : CallR X (.builtin "len") (rLenO X.K C sp) := by
  intro pins s σ H xs us Q I r h
  obtain ⟨a, dx, fs, rfl, ea, q⟩ := h
  obtain ⟨u, rfl, ru⟩ := vals1 r
  obtain rfl : u = Value.ref a := ru
  obtain ⟨mA, O, _, _, _, _⟩ := ins_get I.hok ea
  obtain ⟨od, J, _⟩ := O.look
  obtain ⟨ml, hfr⟩ := I.fr
  refine PySem.W.len_K hfr I.ok.mod.kin J hm.at_ hm.fn ?_
  have hl : ([Value.ref a] : List Value).length = ps.length := by
    rw [← F.len _ _ _ _ q]
    rfl
  have b := hb s [.ref a] I.kIn (by rw [List.append_nil]; exact hl)
  rw [List.append_nil] at b
  refine wpAny_call (codeAny_mono (F.run X.A.in1 X.stack s H ⟨[.ref a], []⟩ [.ref a] [.ref a] _ E0 hr I.env0.in1 b (.cons rfl .nil) q) fun r s' hq => ?_)
  cases r with
  | error er => exact hq.elim
  | ok fl =>
    cases fl with
    | ret u =>
      obtain ⟨v, H', I3, rv, n, rfl, h0, h1, q3⟩ := I.after hq
      obtain ⟨tk, rfl⟩ := rv
      exact ⟨⟨h0, by omega⟩, .int n, H', I3.tok _, ⟨_, rfl⟩, q3⟩
    | next => exact False.elim hq
    | brk => exact False.elim hq
    | cont => exact False.elim hq
/-- e in x, x of an own class with its __contains__; it may raise -/
def tInO (C : Addr) (sp : Sp) (E : L2.St → XK) (ta tb : TE) : TE := fun σ H Q => ta σ H fun y H1 => tb σ H1 fun x H2 => ∃ a dx fs, x = .ref a ∧ H2 a = some (.ins C dx fs) ∧ sp [.ref a, y] H2 (fun v H' => ∃ b, v = .bl b ∧ Q (.bl b) H') (E σ)
theorem pe_inO {l r : Expr} (c : Cls X.K C) (hm : Meth X.K C "__contains__" f) (F : FnOk X.prog X.w X.K X.mg X.base CX k f fd ps sp) (hr : Room k X.A) (hb : Binds X.K fd ps []) (hx : ∀ σ, PassesAt CX X σ (E σ)) (ha : PE X l ta) (hb2 : PE X r tb) (hmk : behindInMarks .In r = false := by rfl) :
    PE X (.Compare l [.In] [r] pos) (tInO C sp E ta tb) := by
  refine ⟨fun pins s σ H Q I h => ?_⟩
  refine wpAny_Compare1 (binT ha hb2 I (R := fun y x H2 => ∃ a dx fs, x = .ref a ∧ H2 a = some (.ins C dx fs) ∧ sp [.ref a, y] H2 (fun v H' => ∃ b, v = .bl b ∧ Q (.bl b) H') (E σ)) h fun v u s2 y x H2 I2 ry rx q => ?_) hmk
  obtain ⟨a, dx, fs, rfl, ea, q⟩ := q
  obtain rfl : u = Value.ref a := rx
  obtain ⟨mA, O, _, _, _, _⟩ := ins_get I2.hok ea
  obtain ⟨od, J, _⟩ := O.look
  obtain ⟨ml, hfr⟩ := I2.fr
  refine PySem.W.in_K hfr I2.ok.mod.kin J hm.at_ hm.fn ?_
  refine thn (run_fnS (us := [.ref a, v]) (vs := [.ref a, y]) F hr hb (hx σ) I2 (.cons rfl (.cons ry .nil)) q) fun w3 s3 ⟨v3, H3, I3, r3, b, e3, q3⟩ => ?_
  subst e3
  obtain rfl : w3 = Value.bool b := r3
  exact wpAny_pure ⟨.bl b, H3, I3, rfl, q3⟩
end
end Ly

set_option maxHeartbeats 4000000
/-! zip(a, b), each a list or a tuple -/
namespace Ly
open PySem PySem.Spec PyProof.Rows L2
def itSt : Bool → Heap → Addr → Addr → Nat → Prop
  | true, h, it, l, i => h.IsTupleIter it l i
  | false, h, it, l, i => h.IsListIter it l i
def layK : Bool → Heap → Addr → Array Value → Prop
  | true, h, l, its => h.IsTuple l its
  | false, h, l, its => h.IsList l its
def itO : Bool → Addr → Obj
  | true, l => { cls := .type "tuple_iterator", data := .fields #[.ref l, .int 0 0] }
  | false, l => { cls := .type "list_iterator", data := .fields #[.ref l, .int 0 0] }
def SqK : Bool → PySem.W.Frag → Hp → Addr → List V → Prop
  | true, K, H, a, xs => SqT K H a xs
  | false, K, H, a, xs => SqL K H a xs
theorem drawsK {prog : Program} {w : World} {A : Around} (t : Bool) (hh : A.handled = none) (it l : Addr) (hne : l ≠ it) (items : Array Value) :
    Draws prog w A it [it, l] items.size (fun i v => items[i]? = some v) (fun i h => itSt t h it l i ∧ layK t h l items) := by
  cases t with
  | true => exact Draws.tuple hh it l hne items
  | false => exact Draws.list hh it l hne items
theorem beginsK (t : Bool) (l : Addr) (items : Array Value) : Begins (.ref l) (itO t l) fun h => layK t h l items := by
  cases t with
  | true => exact begins_tuple l items
  | false => exact begins_list l items
theorem itSt_at {t : Bool} {h h' : Heap} {it l : Addr} {i : Nat} (st : itSt t h it l i) (k : ∀ o, h.get? it = some o → h'.get? it = some o) : itSt t h' it l i := by
  cases t with
  | true => exact Heap.IsTupleIter.at st k
  | false => exact Heap.IsListIter.at st k
theorem itSt_obj {t : Bool} {h : Heap} {it l : Addr} {i : Nat} (st : itSt t h it l i) : ∃ o fv, h.get? it = some o ∧ o.data = .fields fv := by
  cases t with
  | true => obtain ⟨o, e, _, d⟩ := (show h.IsTupleIter it l i from st); exact ⟨o, _, e, d⟩
  | false => obtain ⟨o, e, _, d⟩ := (show h.IsListIter it l i from st); exact ⟨o, _, e, d⟩
theorem itSt_new {t : Bool} {h : Heap} {it l : Addr} (e : h.get? it = some (itO t l)) : itSt t h it l 0 := by
  cases t with
  | true => exact ⟨_, e, rfl, rfl⟩
  | false => exact ⟨_, e, rfl, rfl⟩
theorem lay_at {t : Bool} {h h' : Heap} {l : Addr} {its : Array Value} (st : layK t h l its) (k : ∀ o, h.get? l = some o → h'.get? l = some o) : layK t h' l its := by
  cases t with
  | true => exact Heap.IsTuple.at st k
  | false => exact Heap.IsList.at st k
section
variable {X : Cx} {pins : List (Addr × Obj)} {σ : L2.St} {H : Hp} {s : Shared}
theorem invK {t : Bool} {a : Addr} {xs : List V} (I : Inv X pins σ H s) (h : SqK t X.K H a xs) : ∃ its : List Value, Vals xs its ∧ layK t s.heap a its.toArray ∧ a < s.heap.objs.size := by
  cases t with
  | true =>
    obtain ⟨its, r, p, _⟩ := I.tuple (show SqT X.K H a xs from h)
    obtain ⟨o, ho, _⟩ := id p
    exact ⟨its, r, p, Heap.lt_size ho⟩
  | false =>
    obtain ⟨its, r, p, _⟩ := I.list (show SqL X.K H a xs from h)
    exact ⟨its, r, p.isList, p.lt⟩
theorem injK {t : Bool} {a : Addr} {xs ys : List V} (I : Inv X pins σ H s) (h : SqK t X.K H a xs) (k : SqK t X.K H a ys) : xs = ys := by
  cases t with
  | true => exact I.tuple_inj h k
  | false => exact I.list_inj h k
end
def ItzK (t1 t2 : Bool) (K : PySem.W.Frag) (a b : Addr) : It :=
  ⟨fun i H => ∃ (xs ys : List V) (x y : V), SqK t1 K H a xs ∧ SqK t2 K H b ys ∧ xs[i]? = some x ∧ ys[i]? = some y,
    fun i H v H' => ∃ T x y, v = .ref T ∧ H T = none ∧ H' = upd H T (.tup [x, y]) ∧ (∀ xs, SqK t1 K H a xs → xs[i]? = some x) ∧ ∀ ys, SqK t2 K H b ys → ys[i]? = some y,
    fun i H => ∃ xs ys : List V, SqK t1 K H a xs ∧ SqK t2 K H b ys ∧ (i ≤ xs.length ∧ i ≤ ys.length) ∧ (i = xs.length ∨ i = ys.length)⟩
theorem sep2 {z TI TO i1 i2 a b : Addr} (D : ZipApart z TI TO i1 i2 a b) : ZipSep2 z TI TO i1 i2 [i1, a] [i2, b] where
  TIz := D.TIz
  TOz := D.TOz
  TITO := D.TITO
  TIi1 := D.TIi1
  mem1 := by simp
  zf1 := by simp [Ne.symm D.i1z, Ne.symm D.l1z]
  Tf1 := by simp [D.TOi1, Ne.symm D.l1TO]
  TIi2 := D.TIi2
  mem2 := by simp
  zf2 := by simp [Ne.symm D.i2z, Ne.symm D.l2z]
  Tf2 := by simp [D.TOi2, Ne.symm D.l2TO]
  sep1_2 := by simp [D.i12, Ne.symm D.l2i1]
  sep2_1 := by simp [Ne.symm D.i12, Ne.symm D.l1i2]
theorem turn_zipK {P : Program} {w : World} {K : PySem.W.Frag} {elts : List Expr} {kk : Nat} {tpos : Pos} {a b z TI TO i1 i2 : Addr} {t1 t2 : Bool} (D : ZipApart z TI TO i1 i2 a b) :
    Turn P w K (.Tuple elts kk tpos) (ItzK t1 t2 K a b) [z, TI, TO, i1, i2] z (fun i h => IsZip h z TI TO .none ∧ IsTupOf2 h TI (.ref i1) (.ref i2) ∧ (∃ x y, IsTupOf2 h TO x y) ∧ itSt t1 h i1 a i ∧ itSt t2 h i2 b i) where
  mem := by simp
  obj := fun i h st c hc => by
    obtain ⟨hz, hTI, ⟨x, y, hTO⟩, h1, h2⟩ := st
    obtain ⟨o1, f1, e1, d1⟩ := itSt_obj h1
    obtain ⟨o2, f2, e2, d2⟩ := itSt_obj h2
    have e' : c = z ∨ c = TI ∨ c = TO ∨ c = i1 ∨ c = i2 := by simpa using hc
    rcases e' with q | q | q | q | q
    · rw [q]; exact ⟨_, hz, fun v q => nomatch q⟩
    · rw [q]; exact ⟨_, hTI, fun v q => nomatch q⟩
    · rw [q]; exact ⟨_, hTO, fun v q => nomatch q⟩
    · rw [q]; exact ⟨o1, e1, fun v q => by rw [d1] at q; cases q⟩
    · rw [q]; exact ⟨o2, e2, fun v q => by rw [d2] at q; cases q⟩
  keep := fun i h h' st k => by
    obtain ⟨hz, hTI, ⟨x, y, hTO⟩, h1, h2⟩ := st
    exact ⟨k z (by simp) _ hz, k TI (by simp) _ hTI, ⟨x, y, k TO (by simp) _ hTO⟩, itSt_at h1 fun o q => k i1 (by simp) o q, itSt_at h2 fun o q => k i2 (by simp) o q⟩
  item := by
    intro X hP hw hK hc i pins s σ H E I hf st hg
    subst hP hw hK
    obtain ⟨hz, hTI, ⟨x0, y0, hTO⟩, h1, h2⟩ := st
    obtain ⟨xs, ys, x, y, hqx, hqy, hx, hy⟩ := hg
    obtain ⟨its, rv, p, _⟩ := invK I hqx
    obtain ⟨its2, rv2, p2, _⟩ := invK I hqy
    obtain ⟨u, hu, ru⟩ := rv.get hx
    obtain ⟨u2, hu2, ru2⟩ := rv2.get hy
    have hzl : z < s.heap.objs.size := Heap.lt_size hz
    have hh : X.A.in1.handled = none := I.ok.hd hc
    have hlt1 : i < its.toArray.size := by
      have := (List.getElem?_eq_some_iff.mp hu).1
      simpa using this
    have hlt2 : i < its2.toArray.size := by
      have := (List.getElem?_eq_some_iff.mp hu2).1
      simpa using this
    refine wpAny_pyNext_zipD2_item (sep2 D) (drawsK t1 hh i1 a D.l1i1 its.toArray) (drawsK t2 hh i2 b D.l2i2 its2.toArray) hz hTI hTO ⟨h1, p⟩ ⟨h2, p2⟩ hlt1 hlt2 fun v1 v2 h' tk hv1 hv2 z' TO' s1' s2' hT hsz hk => ?_
    have e1 : v1 = u := by
      have q1 : its.toArray[i]? = some u := by simpa using hu
      rw [q1] at hv1
      exact (Option.some.inj hv1).symm
    have e2 : v2 = u2 := by
      have q1 : its2.toArray[i]? = some u2 := by simpa using hu2
      rw [q1] at hv2
      exact (Option.some.inj hv2).symm
    subst e1 e2
    refine ⟨_, rfl, wpAny_letOwnedTupleGo_zip (s := { s with heap := h', toks := tk }) z' fun h'' z'' sb => ?_⟩
    have hT2 : h''.get? s.heap.objs.size = some { cls := .type "tuple", data := .seq #[v1, v2] } := (sb.2 _ (Nat.ne_of_gt hzl)).trans hT
    have new : ObjOk X.prog X.w (upd H s.heap.objs.size (.tup [x, y])) h'' s.heap.objs.size (.tup [x, y]) :=
      ⟨by show 2 ≤ sizeLine; decide, [v1, v2], .cons ru (.cons ru2 .nil), ⟨_, hT2, rfl, _, rfl⟩⟩
    have I1 : Inv X pins σ (upd H s.heap.objs.size (.tup [x, y])) { s with heap := h'', toks := tk } :=
      I.turnedNew (t' := tk) (ch := [z, TI, TO, i1, i2]) (fun c o hb q => (sb.2 c (fun q' => hb (by simp [q']))).trans (hk c o (fun q' => hb (by simp [q'])) (fun q' => hb (by simp [q'])) (fun q' => hb (by simp [q'])) (fun q' => hb (by simp [q'])) q)) hf (Nat.le_refl _) new
    refine ⟨.ref s.heap.objs.size, _, I1, rfl, ⟨_, x, y, rfl, I.hok.fresh (Nat.le_refl _), rfl, fun l hl => by rw [injK I hl hqx]; exact hx, fun l hl => by rw [injK I hl hqy]; exact hy⟩, ⟨z'', ?_, ⟨v1, v2, ?_⟩, ?_, ?_⟩, fun c hcm => ?_⟩
    · exact (sb.2 _ D.TIz).trans (hk _ _ D.TIz D.TITO D.TIi1 D.TIi2 hTI)
    · exact (sb.2 _ D.TOz).trans TO'
    · exact itSt_at s1'.1 fun o q => (sb.2 _ D.i1z).trans q
    · exact itSt_at s2'.1 fun o q => (sb.2 _ D.i2z).trans q
    · have hlt : c < s.heap.objs.size := by
        have e' : c = z ∨ c = TI ∨ c = TO ∨ c = i1 ∨ c = i2 := by simpa using hcm
        rcases e' with q | q | q | q | q
        · rw [q]; exact hzl
        · rw [q]; exact Heap.lt_size hTI
        · rw [q]; exact Heap.lt_size hTO
        · rw [q]; obtain ⟨_, _, e1, _⟩ := itSt_obj h1; exact Heap.lt_size e1
        · rw [q]; obtain ⟨_, _, e2, _⟩ := itSt_obj h2; exact Heap.lt_size e2
      rw [upd_ne (Nat.ne_of_lt hlt)]
      exact (hf c hcm).1
  done := by
    intro X hP hw hK hc i pins s σ H E I hf st hg
    subst hP hw hK
    obtain ⟨hz, hTI, ⟨x0, y0, hTO⟩, h1, h2⟩ := st
    obtain ⟨xs, ys, hqx, hqy, hle, hend⟩ := hg
    obtain ⟨its, rv, p, _⟩ := invK I hqx
    obtain ⟨its2, rv2, p2, _⟩ := invK I hqy
    have l1 := rv.length
    have l2 := rv2.length
    have hh : X.A.in1.handled = none := I.ok.hd hc
    exact wpAny_pyNext_zipD2_end (sep2 D) (drawsK t1 hh i1 a D.l1i1 its.toArray) (drawsK t2 hh i2 b D.l2i2 its2.toArray) hz hTI hTO ⟨h1, p⟩ ⟨h2, p2⟩ (by simp; omega) (by simp; omega) (by simp; omega) fun h' tk hk =>
      ⟨rfl, I.turnedL (t' := tk) (ch := [z, TI, TO, i1, i2]) (fun c o hb q => hk c o (fun q' => hb (by simp [q'])) (fun q' => hb (by simp [q'])) (fun q' => hb (by simp [q'])) (fun q' => hb (by simp [q'])) q) hf⟩
  self := fun A i s Q E st h => wpAny_pyIter_zip st.1 h
/-- zip(e, e2) -/
def iZipU (K : PySem.W.Frag) (ta : TA) : TI := fun σ H R => ta σ H fun vs H1 => ∃ (a b : Addr) (xs ys : List V) (t1 t2 : Bool), vs = [.ref a, .ref b] ∧ SqK t1 K H1 a xs ∧ SqK t2 K H1 b ys ∧ R (ItzK t1 t2 K a b) H1
theorem pi_zipU {X : Cx} {e e2 : Expr} {ta : TA} {p pos tpos : Pos} {elts : List Expr} {kk : Nat} (hg : Gl X "zip") (hm : X.mg "zip" = none) (ha : PA X [e, e2] ta)
    (hs : starEach [e, e2] X.env = (false, eval e X.env) :: starEach [e2] X.env := by rfl) (hpl : (backTo pos (starEach [e2] X.env)).any (·.1) = false := by rfl) :
    PI X (.Tuple elts kk tpos) (.Call (.Name "zip" p) [e, e2] [] pos) (iZipU X.K ta) := by
  refine ⟨fun pins s σ H R I h => ?_⟩
  refine Call_ (ld_blt I hg hm PyProof.Rows.boot_zip (PyProof.Rows.callWith_type1 (thn (ha.run pos pins s σ H _ I h) fun us s1 ⟨vs, H1, I1, r1, q1⟩ => ?_) hs hpl))
  obtain ⟨a, b, xs, ys, t1, t2, ex, hqx, hqy, q⟩ := q1
  subst ex
  obtain ⟨u1, u2, rfl, r, r'⟩ := vals2 r1
  cases r
  cases r'
  have fresh5 : ∀ c, c ∈ [s1.heap.objs.size + 4, s1.heap.objs.size + 2, s1.heap.objs.size + 3, s1.heap.objs.size, s1.heap.objs.size + 1] → FpOk X pins H1 c := fun c hcm => by
    have e' : c = s1.heap.objs.size + 4 ∨ c = s1.heap.objs.size + 2 ∨ c = s1.heap.objs.size + 3 ∨ c = s1.heap.objs.size ∨ c = s1.heap.objs.size + 1 := by simpa using hcm
    have hle : s1.heap.objs.size ≤ c := by rcases e' with z | z | z | z | z <;> rw [z] <;> omega
    exact I1.fpOk hle (I1.hok.fresh hle)
  obtain ⟨its, rv, p1, lt1⟩ := invK I1 hqx
  obtain ⟨its2, rv2, p2, lt2⟩ := invK I1 hqy
  refine zip_begins2 (beginsK t1 a its.toArray) (beginsK t2 b its2.toArray) p1 p2 fun h' hz hTI hTO h1 h2 hsz hk => wpAny_pyIter_zip hz ?_
  have I2 : Inv X pins σ H1 { s1 with heap := h' } := I1.kept (t' := s1.toks) hk
  exact ⟨s1.heap.objs.size + 4, [s1.heap.objs.size + 4, s1.heap.objs.size + 2, s1.heap.objs.size + 3, s1.heap.objs.size, s1.heap.objs.size + 1], _, _, H1, rfl, I2, turn_zipK (PySem.W.ktu_apart s1.heap.objs.size a b lt1 lt2), ⟨hz, hTI, ⟨_, _, hTO⟩, itSt_new h1, itSt_new h2⟩, fresh5, q⟩
theorem walk_zipK {K : PySem.W.Frag} {a b : Addr} {xs ys : List V} {t1 t2 : Bool} (hl : xs.length = ys.length) : Walk (ItzK t1 t2 K a b) xs.length (fun H => SqK t1 K H a xs ∧ SqK t2 K H b ys) (YPair (fun i => xs[i]?) (fun i => ys[i]?)) := by
  refine ⟨fun i _ hi q => ⟨xs, ys, xs[i], ys[i]'(by omega), q.1, q.2, by simp [hi], by simp [show i < ys.length by omega]⟩, fun _ q => ⟨xs, ys, q.1, q.2, ⟨Nat.le_refl _, by omega⟩, .inl rfl⟩, fun i H v H' _ q y => ?_⟩
  obtain ⟨T, x, y', h1, h2, h3, h4, h5⟩ := y
  exact ⟨T, x, y', h1, h2, h3, h4 xs q.1, h5 ys q.2⟩
theorem sqK_of {K : PySem.W.Frag} {H0 : Hp} {a : Addr} {xs : List V} (h : Sq K H0 a xs) : ∃ t, ∀ H, Same H0 H → SqK t K H a xs := by
  rcases h with h | h
  · exact ⟨false, fun H e => (e.kept a).l h⟩
  · exact ⟨true, fun H e => (e.kept a).t h⟩
theorem zipB_go {K : PySem.W.Frag} {H0 H : Hp} {a b : Addr} {xs ys : List V} {R : It → Hp → Prop} (e : Same H0 H) (h1 : Sq K H0 a xs) (h2 : Sq K H0 b ys) (hl : xs.length = ys.length)
    (k : ∀ (J : It) (G : Hp → Prop), (∀ H', Same H0 H' → G H') → Walk J xs.length G (YPair (fun i => xs[i]?) (fun i => ys[i]?)) → R J H) :
    ∃ (a' b' : Addr) (xs' ys' : List V) (t1 t2 : Bool), [V.ref a, V.ref b] = [.ref a', .ref b'] ∧ SqK t1 K H a' xs' ∧ SqK t2 K H b' ys' ∧ R (ItzK t1 t2 K a' b') H := by
  obtain ⟨t1, k1⟩ := sqK_of h1
  obtain ⟨t2, k2⟩ := sqK_of h2
  exact ⟨a, b, xs, ys, t1, t2, rfl, k1 H e, k2 H e, k _ _ (fun H' q => ⟨k1 H' q, k2 H' q⟩) (walk_zipK hl)⟩
theorem st_iZip {K : PySem.W.Frag} {ta : TA} {σ : L2.St} {H : Hp} {R : It → Hp → Prop} (h : ta σ H fun vs H1 => ∃ (a b : Addr) (xs ys : List V) (t1 t2 : Bool), vs = [.ref a, .ref b] ∧ SqK t1 K H1 a xs ∧ SqK t2 K H1 b ys ∧ R (ItzK t1 t2 K a b) H1) : iZipU K ta σ H R := h
end Ly

set_option maxHeartbeats 4000000
/-! the suite of an error with fields: isinstance of it; the class alone is fixed -/
namespace Ly
open PySem PySem.Spec PyProof.Rows L2
/-- isinstance(e, c), e the exception that the suite holds, its dict at d -/
def rIsED (K : PySem.W.Frag) (D a : Addr) (d : Option Addr) : List V → Hp → VK → Prop := fun xs H Q => ∃ (c : V) (cv : Value) (b : Bool) (dd : Addr) (fs : List (Str × V)), xs = [.ref a, c] ∧ (∀ u, RelV c u → u = cv) ∧ PySem.W.kitOne K (.ref D) cv = some b ∧ d = some dd ∧ H dd = some (.xd fs) ∧ Q (.bl b) H
theorem call_isED {X : Cx} {a D : Addr} {d : Option Addr} {oe : Obj} {pn : List (Addr × Obj)} (C : ExcC X.K D) (hz : Zc (.ref D) d oe) (hf : ∃ vs, oe.data = .fields vs) : CallR (X.suite a ((a, oe) :: pn)) (.builtin "isinstance") (rIsED X.K D a d) := by
  intro pins s σ H xs us Q I r h
  obtain ⟨c, cv, b, dd, fs, rfl, hcv, e, ed, ea, q⟩ := h
  subst ed
  obtain ⟨u1, u2, rfl, rx, rt⟩ := vals2 r
  obtain rfl : u1 = Value.ref a := rx
  have ec := hcv _ rt
  subst ec
  obtain ⟨hget, _⟩ := I.pin (a, oe) (List.mem_append.mpr (.inl List.mem_cons_self))
  obtain ⟨vs, hv⟩ := hf
  obtain ⟨mA, hns, hr⟩ := (show ObjOk X.prog X.w H s.heap dd (.xd fs) from I.hok dd _ ea)
  obtain ⟨od, ho, hl⟩ := lookIn_ns hns
  have J : PySem.W.InstAt s.heap a oe D (some od) := ⟨hget, hz.1, by unfold PySem.W.notCls; rw [hv] <;> rfl, by rw [hz.2]; exact ho⟩
  have hcl : (PySem.W.clsIn X.K D).isSome = true := by
    obtain ⟨cd, hc, _⟩ := PySem.W.any_some C.hd
    rw [hc] <;> rfl
  exact PySem.W.kia_one (PySem.W.kitx_exc (od := some od) hcl C.hg C.hk C.hs C.ha C.hn C.ht C.hm) I.kIn J e (fun z => nomatch z) fun tk => ⟨.bl b, H, I.kept (t' := tk) fun _ _ z => z, rfl, q⟩
theorem pss_clsD {X : Cx} {ss : List Stmt} {t : TS} {cls : Value} {d : Option Addr} {C : Addr} {oe : Obj} (hz : Zc cls d oe) (h : Zc (.ref C) d oe → PSs X ss t) : PSs X ss (fun D σ H => cls = .ref C ∧ t D σ H) :=
  ⟨fun pins s σ H D I q => by
    obtain ⟨e1, q⟩ := q
    subst e1
    exact (h hz).run pins s σ H D I q⟩
theorem st_mkX {C : Addr} {as : List Str} {ta : TA} {σ : L2.St} {H : Hp} {Q : XK} (h : ta σ H fun vs H1 => vs.length = as.length ∧ ∀ d, H1 d = none → Q (.ref C) (some d) (upd H1 d (.xd (as.zip vs)))) : tMkX C as ta σ H Q := h
theorem st_fldS {K : PySem.W.Frag} {ta tv : TE} {f : Str} {D : Ends} {σ : L2.St} {H : Hp} (h : tv σ H fun y H1 => ta σ H1 fun x H2 => ∃ a C dx fs, x = .ref a ∧ H2 a = some (.ins C dx fs) ∧ Cls K C ∧ NoAttr K C f ∧ fs.length < 1000 ∧ D.nx σ (upd H2 a (.ins C dx (putF f y fs)))) : sFld K ta tv f D σ H := h
theorem st_fldG {K : PySem.W.Frag} {ta : TE} {f : Str} {σ : L2.St} {H : Hp} {Q : VK} (h : ta σ H fun x H1 => ∃ a C dx fs v, x = .ref a ∧ H1 a = some (.ins C dx fs) ∧ Cls K C ∧ NoAttr K C f ∧ fs.lookup f = some v ∧ Q v H1) : tFld K ta f σ H Q := h
end Ly

set_option maxHeartbeats 4000000
/-! lists of rows: R says what a row is (Row, RowL, RowT) -/
namespace Ly
open PySem PySem.Spec PyProof.Rows L2
def Rs (R : V → List Rat → Prop) : List V → List (List Rat) → Prop
  | [], [] => True
  | v :: vs, p :: ps => R v p ∧ Rs R vs ps
  | _, _ => False
theorem Rs.len {R : V → List Rat → Prop} : ∀ {vs : List V} {ps : List (List Rat)}, Rs R vs ps → vs.length = ps.length
  | [], [], _ => rfl
  | _ :: _, _ :: _, h => congrArg Nat.succ (Rs.len h.2)
  | [], _ :: _, h => h.elim
  | _ :: _, [], h => h.elim
theorem Rs.mono {R R' : V → List Rat → Prop} (f : ∀ v p, R v p → R' v p) : ∀ {vs : List V} {ps : List (List Rat)}, Rs R vs ps → Rs R' vs ps
  | [], [], _ => trivial
  | _ :: _, _ :: _, h => ⟨f _ _ h.1, Rs.mono f h.2⟩
  | [], _ :: _, h => h.elim
  | _ :: _, [], h => h.elim
theorem Rs.at {R : V → List Rat → Prop} : ∀ {vs : List V} {ps : List (List Rat)} {i : Nat} {p : List Rat}, Rs R vs ps → ps[i]? = some p → ∃ v, vs[i]? = some v ∧ R v p
  | v :: _, _ :: _, 0, _, h, e => ⟨v, rfl, by cases e; exact h.1⟩
  | _ :: vs, _ :: ps, i + 1, p, h, e => by
    obtain ⟨v, h1, h2⟩ := Rs.at (i := i) (p := p) h.2 (by simpa using e)
    exact ⟨v, by simpa using h1, h2⟩
  | [], [], _, _, _, e => by simp at e
  | [], _ :: _, _, _, h, _ => h.elim
  | _ :: _, [], _, _, h, _ => h.elim
theorem Rs.append {R : V → List Rat → Prop} : ∀ {vs ws : List V} {ps qs : List (List Rat)}, Rs R vs ps → Rs R ws qs → Rs R (vs ++ ws) (ps ++ qs)
  | [], _, [], _, _, k => k
  | _ :: _, _, _ :: _, _, h, k => ⟨h.1, Rs.append h.2 k⟩
  | [], _, _ :: _, _, h, _ => h.elim
  | _ :: _, _, [], _, h, _ => h.elim
theorem Rs.snoc {R : V → List Rat → Prop} {vs : List V} {ps : List (List Rat)} {v : V} {p : List Rat} (h : Rs R vs ps) (k : R v p) : Rs R (vs ++ [v]) (ps ++ [p]) := h.append ⟨k, trivial⟩
/-- a list or a tuple of rows -/
def Grid (K : PySem.W.Frag) (H : Hp) (v : V) (m : List (List Rat)) : Prop := ∃ a xs, v = .ref a ∧ Sq K H a xs ∧ Rs (Row K H) xs m
/-- a tuple of tuples -/
def GridT (K : PySem.W.Frag) (H : Hp) (v : V) (m : List (List Rat)) : Prop := ∃ a xs, v = .ref a ∧ SqT K H a xs ∧ Rs (RowT K H) xs m
theorem Grid.same {K : PySem.W.Frag} {H H' : Hp} {v : V} {m : List (List Rat)} (h : Grid K H v m) (e : Same H H') : Grid K H' v m :=
  let ⟨a, xs, z, h1, h2⟩ := h; ⟨a, xs, z, e.sq h1, h2.mono fun _ _ r => r.same e⟩
theorem GridT.imm {K : PySem.W.Frag} {H H' : Hp} {v : V} {m : List (List Rat)} (h : GridT K H v m) (e : Imm H H') : GridT K H' v m :=
  let ⟨a, xs, z, h1, h2⟩ := h; ⟨a, xs, z, e.t h1, h2.mono fun _ _ r => r.imm e⟩
theorem GridT.grid {K : PySem.W.Frag} {H : Hp} {v : V} {m : List (List Rat)} (h : GridT K H v m) : Grid K H v m :=
  let ⟨a, xs, z, h1, h2⟩ := h; ⟨a, xs, z, .inr h1, h2.mono fun _ _ r => r.row⟩
end Ly

set_option maxHeartbeats 4000000
/-! a basis in plain: its rows, its lines (place, row, parts), the rest behind the lines -/
namespace Ly
abbrev Ln := Nat × List Rat × List Rat
def stp (s : List Rat × List Rat) (l : Ln) : List Rat × List Rat := (pm s.1 (-(cf s.1 l.1)) l.2.1, pm s.2 (cf s.1 l.1) l.2.2)
def rd (ls : List Ln) (s : List Rat × List Rat) : List Rat × List Rat := ls.foldl stp s
theorem rd_succ {ls : List Ln} {i : Nat} {l : Ln} {s : List Rat × List Rat} (h : ls[i]? = some l) : rd (ls.take (i + 1)) s = stp (rd (ls.take i) s) l := by
  unfold rd
  rw [← take_more h, List.foldl_append]
  rfl
/-- the combination of the rows -/
def comb (c : List Rat) (rows : List (List Rat)) (i : Nat) : Rat := sumTo rows.length fun j => cf c j * cf (rows.getD j []) i
def smul (x : Rat) (p : List Rat) : List Rat := p.map fun y => x * y
theorem smul_len {x : Rat} {p : List Rat} : (smul x p).length = p.length := List.length_map ..
theorem cf_smul {x : Rat} {p : List Rat} (i : Nat) : cf (smul x p) i = x * cf p i := by
  by_cases h : i < p.length
  · refine cf_get ?_
    unfold smul
    rw [List.getElem?_map, cf_in h]
    rfl
  · rw [cf_out (by rw [smul_len]; omega), cf_out (by omega)]; grind
theorem sumTo_lin {n : Nat} {f g : Nat → Rat} {x : Rat} : sumTo n (fun j => f j + x * g j) = sumTo n f + x * sumTo n g := by
  induction n with
  | zero => show (0 : Rat) = 0 + x * 0; grind
  | succ n ih =>
    show sumTo n (fun j => f j + x * g j) + (f n + x * g n) = sumTo n f + f n + x * (sumTo n g + g n)
    rw [ih]; grind
theorem comb_pm {f c : List Rat} {x : Rat} {rows : List (List Rat)} {i : Nat} (h : c.length ≤ f.length) : comb (pm f x c) rows i = comb f rows i + x * comb c rows i := by
  unfold comb
  rw [← sumTo_lin]
  exact sumTo_congr fun j _ => by rw [cf_pm h]; grind
theorem comb_zero {k : Nat} {rows : List (List Rat)} {i : Nat} : comb (List.replicate k 0) rows i = 0 := sumTo_zero fun j _ => by rw [cf_rep]; grind
theorem comb_smul {c : List Rat} {x : Rat} {rows : List (List Rat)} {i : Nat} : comb (smul x c) rows i = x * comb c rows i := by
  unfold comb
  have := sumTo_lin (n := rows.length) (f := fun _ => 0) (g := fun j => cf c j * cf (rows.getD j []) i) (x := x)
  rw [sumTo_zero (f := fun _ => 0) fun _ _ => rfl] at this
  rw [Rat.zero_add] at this
  rw [← this]
  exact sumTo_congr fun j _ => by rw [cf_smul]; grind
theorem comb_snoc {c : List Rat} {rows : List (List Rat)} {r : List Rat} {i : Nat} : comb c (rows ++ [r]) i = comb c rows i + cf c rows.length * cf r i := by
  unfold comb
  rw [List.length_append]
  show sumTo rows.length _ + _ * _ = _
  congr 1
  · exact sumTo_congr fun j hj => by rw [List.getD_eq_getElem?_getD, List.getD_eq_getElem?_getD, List.getElem?_append_left hj]
  · rw [List.getD_eq_getElem?_getD, List.getElem?_append_right (Nat.le_refl _), Nat.sub_self]
    rfl
theorem comb_cut {c d : List Rat} {rows : List (List Rat)} {i : Nat} (h : ∀ j, j < rows.length → cf c j = cf d j) : comb c rows i = comb d rows i := sumTo_congr fun j hj => by rw [h j hj]
/-! ### sizes -/
theorem Sz.app {s t : Nat} {p q : List Rat} (h : Sz s p) (k : Sz t q) : Sz (s + t) (p ++ q) := by
  obtain ⟨D, h0, h1, h2⟩ := h
  obtain ⟨C, k0, k1, k2⟩ := k
  have hD := dne h0
  have hC := dne k0
  have e : D * C < 2 ^ (s + t) := by rw [Nat.pow_add]; exact Nat.mul_lt_mul'' h1 k1
  refine ⟨D * C, Nat.mul_pos h0 k0, e, fun q hq => ?_⟩
  rcases List.mem_append.mp hq with z | z
  · obtain ⟨x, hx, hm⟩ := h2 q z
    refine ⟨x * C, by rw [hx]; push_cast; grind, ?_⟩
    rw [Int.natAbs_mul, Nat.pow_add]
    exact Nat.mul_lt_mul'' hm (by simpa using k1)
  · obtain ⟨x, hx, hm⟩ := k2 q z
    refine ⟨x * D, by rw [hx]; push_cast; grind, ?_⟩
    rw [Int.natAbs_mul, Nat.pow_add, Nat.mul_comm]
    exact Nat.mul_lt_mul'' (by simpa using h1) hm
theorem Sz.left {s : Nat} {p q : List Rat} (h : Sz s (p ++ q)) : Sz s p := h.sub fun x hx => .inl (List.mem_append_left _ hx)
theorem Sz.right {s : Nat} {p q : List Rat} (h : Sz s (p ++ q)) : Sz s q := h.sub fun x hx => .inl (List.mem_append_right _ hx)
theorem pm_mem {p q : List Rat} {c y : Rat} (h : y ∈ pm p c q) : ∃ i, i < p.length ∧ y = cf p i + c * cf q i := by
  unfold pm at h
  obtain ⟨i, hi, rfl⟩ := List.mem_map.mp h
  exact ⟨i, List.mem_range.mp hi, rfl⟩
/-- one step, old and new over one denominator -/
theorem stp_sz {S s : Nat} {p f : List Rat} {l : Ln} (h : Sz S (p ++ f)) (k : Sz s (l.2.1 ++ l.2.2)) : Sz (S + s + 1) ((stp (p, f) l).1 ++ (stp (p, f) l).2) := by
  obtain ⟨D, M, h0, h1, h2, h3⟩ := h.inD
  obtain ⟨C, N, k0, k1, k2, k3⟩ := k.inD
  have inL : ∀ {q r : List Rat} {D M : Nat}, (∀ i, InD D M (cf (q ++ r) i)) → ∀ i, InD D M (cf q i) := fun {q r D M} z i => by
    by_cases hi : i < q.length
    · have := z i
      rw [cf_append, if_pos hi] at this
      exact this
    · rw [cf_out (by omega)]; exact InD.zero
  have inR : ∀ {q r : List Rat} {D M : Nat}, (∀ i, InD D M (cf (q ++ r) i)) → ∀ i, InD D M (cf r i) := fun {q r D M} z i => by
    have := z (q.length + i)
    rw [cf_append, if_neg (by omega), show q.length + i - q.length = i by omega] at this
    exact this
  have e1 : D * C < 2 ^ (S + s + 1) := by
    rw [Nat.pow_succ, Nat.pow_add]
    have : D * C < 2 ^ S * 2 ^ s := Nat.mul_lt_mul'' h1 k1
    omega
  have e2 : M * C + M * N < 2 ^ (S + s + 1) := by
    rw [Nat.pow_succ, Nat.pow_add]
    have a : M * C < 2 ^ S * 2 ^ s := Nat.mul_lt_mul'' h2 k1
    have b : M * N < 2 ^ S * 2 ^ s := Nat.mul_lt_mul'' h2 k2
    omega
  have up : ∀ {x : Rat}, InD D M x → InD (D * C) (M * C) x := fun {x} z => by
    obtain ⟨y, hy, hm⟩ := z
    have hD := dne h0
    have hC := dne k0
    refine ⟨y * C, by rw [hy]; push_cast; grind, ?_⟩
    rw [Int.natAbs_mul]
    simp only [Int.natAbs_natCast]
    exact Nat.mul_le_mul_right _ hm
  have all : ∀ y ∈ (stp (p, f) l).1 ++ (stp (p, f) l).2, InD (D * C) (M * C + M * N) y := fun y hy => by
    rcases List.mem_append.mp hy with z | z
    · obtain ⟨i, hi, rfl⟩ := pm_mem z
      exact (up (inL h3 i)).add (InD.mul h0 k0 (inL h3 l.1).neg (inL k3 i))
    · obtain ⟨i, hi, rfl⟩ := pm_mem z
      exact (up (inR h3 i)).add (InD.mul h0 k0 (inL h3 l.1) (inR k3 i))
  exact ⟨D * C, Nat.mul_pos h0 k0, e1, fun y hy => by
    obtain ⟨x, hx, hm⟩ := all y hy
    exact ⟨x, hx, by omega⟩⟩
/-- the new line -/
theorem lead_sz {S : Nat} {p f : List Rat} {x : Rat} (h : Sz S (p ++ f)) (hx : x ∈ p) (h0 : x ≠ 0) : Sz S (smul (1 / x) p ++ (smul (-(1 / x)) f ++ [1 / x])) := by
  obtain ⟨D, d0, d1, h2⟩ := h
  obtain ⟨b, hb, hbN⟩ := h2 x (List.mem_append_left _ hx)
  have b0 : b ≠ 0 := by
    rintro rfl
    apply h0
    rw [hb]
    push_cast
    grind
  have hD := dne d0
  have hB : (b : Rat) ≠ 0 := by exact_mod_cast b0
  have hs : (b.sign : Rat) * (b.natAbs : Rat) = (b : Rat) := by
    have := Int.sign_mul_natAbs b
    exact_mod_cast this
  have sg : b.sign = 1 ∨ b.sign = -1 := by
    rcases Int.lt_trichotomy b 0 with z | z | z
    · exact .inr (Int.sign_eq_neg_one_of_neg z)
    · exact absurd z b0
    · exact .inl (Int.sign_eq_one_of_pos z)
  have hs2 : (b.sign : Rat) * (b.sign : Rat) = 1 := by
    have : b.sign * b.sign = 1 := by rcases sg with z | z <;> rw [z] <;> decide
    exact_mod_cast this
  have hn : ((b.natAbs : Nat) : Rat) ≠ 0 := dne (by omega)
  have sa : b.sign.natAbs = 1 := by rcases sg with z | z <;> rw [z] <;> rfl
  refine ⟨b.natAbs, by omega, hbN, fun y hy => ?_⟩
  rcases List.mem_append.mp hy with z | z
  · unfold smul at z
    obtain ⟨r, hr, rfl⟩ := List.mem_map.mp z
    obtain ⟨k, hk, hm⟩ := h2 r (List.mem_append_left _ hr)
    refine ⟨k * b.sign, ?_, by rw [Int.natAbs_mul, sa, Nat.mul_one]; exact hm⟩
    rw [hk, hb]
    push_cast
    generalize ((b.natAbs : Nat) : Rat) = B at *
    generalize (b.sign : Rat) = g at *
    generalize (b : Rat) = b' at *
    subst hs
    grind
  rcases List.mem_append.mp z with z | z
  · unfold smul at z
    obtain ⟨r, hr, rfl⟩ := List.mem_map.mp z
    obtain ⟨k, hk, hm⟩ := h2 r (List.mem_append_right _ hr)
    refine ⟨-k * b.sign, ?_, by rw [Int.natAbs_mul, sa, Nat.mul_one, Int.natAbs_neg]; exact hm⟩
    rw [hk, hb]
    push_cast
    generalize ((b.natAbs : Nat) : Rat) = B at *
    generalize (b.sign : Rat) = g at *
    generalize (b : Rat) = b' at *
    subst hs
    grind
  · have : y = 1 / x := by simpa using z
    subst this
    refine ⟨D * b.sign, ?_, by rw [Int.natAbs_mul, sa, Nat.mul_one]; simpa using d1⟩
    rw [hb]
    push_cast
    generalize ((b.natAbs : Nat) : Rat) = B at *
    generalize (b.sign : Rat) = g at *
    generalize (b : Rat) = b' at *
    subst hs
    grind
/-! ### the basis -/
def W0 : Nat := 9300
structure Bas (n : Nat) (rows : List (List Rat)) (ls : List Ln) : Prop where
  len : rows.length = ls.length
  rl : ∀ r ∈ rows, r.length = n
  at_ : ∀ (i : Nat) (l : Ln), ls[i]? = some l → l.1 < n ∧ l.2.1.length = n ∧ l.2.2.length = i + 1 ∧ cf l.2.1 l.1 = 1
  zer : ∀ (i j : Nat) (l m : Ln), ls[i]? = some l → ls[j]? = some m → j < i → cf l.2.1 m.1 = 0
  cmb : ∀ (i : Nat) (l : Ln), ls[i]? = some l → ∀ x, cf l.2.1 x = comb l.2.2 rows x
  sz : ∀ (i : Nat) (l : Ln), ls[i]? = some l → Sz (W0 * 2 ^ i - 1) (l.2.1 ++ l.2.2)
theorem Bas.nil (n : Nat) : Bas n [] [] := ⟨rfl, fun _ h => (nomatch h), fun _ _ h => by simp at h, fun _ _ _ _ h => by simp at h, fun _ _ h => by simp at h, fun _ _ h => by simp at h⟩
theorem pig : ∀ (n : Nat) (l : List Nat), l.Nodup → (∀ x ∈ l, x < n) → l.length ≤ n
  | 0, l, _, h => by
    cases l with
    | nil => exact Nat.le_refl _
    | cons a l => exact absurd (h a List.mem_cons_self) (Nat.not_lt_zero _)
  | n + 1, l, hn, h => by
    have := pig n (l.erase n) (hn.erase n) fun x hx => by
      obtain ⟨h1, h2⟩ := (List.Nodup.mem_erase_iff hn).mp hx
      have := h x h2
      omega
    by_cases hm : n ∈ l
    · rw [List.length_erase_of_mem hm] at this
      omega
    · rw [List.erase_of_not_mem hm] at this
      omega
section
variable {n : Nat} {rows : List (List Rat)} {ls : List Ln}
theorem Bas.le (B : Bas n rows ls) : ls.length ≤ n := by
  have := pig n (ls.map (·.1)) ?_ ?_
  · rwa [List.length_map] at this
  · unfold List.Nodup
    rw [List.pairwise_iff_getElem]
    intro j i hj' hi' hj e
    rw [List.length_map] at hi' hj'
    have a1 : ls[i]? = some ls[i] := List.getElem?_eq_getElem hi'
    have a2 : ls[j]? = some ls[j] := List.getElem?_eq_getElem hj'
    have e : ls[j].1 = ls[i].1 := by simpa using e
    have z := B.zer i j _ _ a1 a2 hj
    rw [e, (B.at_ i _ a1).2.2.2] at z
    exact absurd z (by decide)
  · intro x hx
    obtain ⟨l, hl, rfl⟩ := List.mem_map.mp hx
    obtain ⟨i, hi⟩ := List.getElem?_of_mem hl
    exact (B.at_ i l hi).1
/-- what the walk over the lines keeps -/
structure Run (n : Nat) (rows : List (List Rat)) (ls : List Ln) (p : List Rat) (i : Nat) (s : List Rat × List Rat) : Prop where
  l1 : s.1.length = n
  l2 : s.2.length = rows.length
  eq : ∀ x, cf p x = cf s.1 x + comb s.2 rows x
  zer : ∀ (j : Nat) (m : Ln), ls[j]? = some m → j < i → cf s.1 m.1 = 0
  sz : Sz (W0 * 2 ^ i - 1) (s.1 ++ s.2)
theorem Run.nil {p : List Rat} (B : Bas n rows ls) (hp : p.length = n) (z : Sz (W0 - 1) p) : Run n rows ls p 0 (p, List.replicate rows.length 0) :=
  ⟨hp, List.length_replicate .., fun x => by show _ = cf p x + _; rw [comb_zero, Rat.add_zero], fun _ _ _ h => absurd h (by omega), by
    rw [Nat.pow_zero, Nat.mul_one]
    refine z.sub fun q hq => ?_
    rcases List.mem_append.mp hq with h | h
    · exact .inl h
    · exact .inr (List.mem_replicate.mp h).2⟩
theorem Run.step {p : List Rat} {i : Nat} {l : Ln} {s : List Rat × List Rat} (B : Bas n rows ls) (hl : ls[i]? = some l) (R : Run n rows ls p i s) : Run n rows ls p (i + 1) (stp s l) := by
  obtain ⟨h1, h2, h3, h4⟩ := B.at_ i l hl
  have hi : i < ls.length := (List.getElem?_eq_some_iff.mp hl).1
  have hr := B.len
  have c1 : l.2.1.length ≤ s.1.length := by rw [h2, R.l1]; exact Nat.le_refl _
  have c2 : l.2.2.length ≤ s.2.length := by rw [h3, R.l2]; omega
  refine ⟨by show (pm _ _ _).length = n; rw [pm_len, R.l1], by show (pm _ _ _).length = _; rw [pm_len, R.l2], fun x => ?_, fun j m hm hj => ?_, ?_⟩
  · show cf p x = cf (pm s.1 _ l.2.1) x + comb (pm s.2 _ l.2.2) rows x
    rw [cf_pm c1, comb_pm c2, R.eq x, B.cmb i l hl x]
    grind
  · show cf (pm s.1 _ l.2.1) m.1 = 0
    rw [cf_pm c1]
    by_cases e : j = i
    · subst e
      rw [hl] at hm
      cases hm
      rw [h4]; grind
    · rw [R.zer j m hm (by omega), B.zer i j l m hl hm (by omega)]; grind
  · have := stp_sz R.sz (B.sz i l hl)
    refine this.mono ?_
    rw [Nat.pow_succ, ← Nat.mul_assoc]
    have : 0 < W0 * 2 ^ i := Nat.mul_pos (by decide) (Nat.pow_pos (by decide))
    omega
theorem Run.to {p : List Rat} (B : Bas n rows ls) (hp : p.length = n) (z : Sz (W0 - 1) p) : ∀ i, i ≤ ls.length → Run n rows ls p i (rd (ls.take i) (p, List.replicate rows.length 0))
  | 0, _ => by
    rw [List.take_zero]
    exact Run.nil B hp z
  | i + 1, h => by
    have e : ls[i]? = some ls[i] := List.getElem?_eq_getElem (by omega)
    rw [rd_succ e]
    exact (Run.to B hp z i (by omega)).step B e
/-- the rest and the parts of a row -/
def rest (ls : List Ln) (p : List Rat) (k : Nat) : List Rat := (rd ls (p, List.replicate k 0)).1
def prts (ls : List Ln) (p : List Rat) (k : Nat) : List Rat := (rd ls (p, List.replicate k 0)).2
theorem Run.all {p : List Rat} (B : Bas n rows ls) (hp : p.length = n) (z : Sz (W0 - 1) p) : Run n rows ls p ls.length (rd ls (p, List.replicate rows.length 0)) := by
  have := Run.to B hp z ls.length (Nat.le_refl _)
  rwa [List.take_length] at this
/-- a row comes in -/
theorem Bas.add {p : List Rat} {a : Nat} (B : Bas n rows ls) (hp : p.length = n) (z : Sz (W0 - 1) p) (ha : a < n) (h0 : cf (rest ls p rows.length) a ≠ 0) :
    Bas n (rows ++ [p]) (ls ++ [(a, smul (1 / cf (rest ls p rows.length) a) (rest ls p rows.length), smul (-(1 / cf (rest ls p rows.length) a)) (prts ls p rows.length) ++ [1 / cf (rest ls p rows.length) a])]) := by
  have R := Run.all B hp z
  have r1 : (rest ls p rows.length).length = n := R.l1
  have r2 : (prts ls p rows.length).length = rows.length := R.l2
  have req : ∀ x, cf p x = cf (rest ls p rows.length) x + comb (prts ls p rows.length) rows x := R.eq
  have rz : ∀ (j : Nat) (m : Ln), ls[j]? = some m → cf (rest ls p rows.length) m.1 = 0 := fun j m hm => R.zer j m hm (List.getElem?_eq_some_iff.mp hm).1
  have rs : Sz (W0 * 2 ^ ls.length - 1) (rest ls p rows.length ++ prts ls p rows.length) := R.sz
  generalize rest ls p rows.length = r at *
  generalize prts ls p rows.length = f at *
  have hl := B.len
  have old : ∀ {i : Nat} {l : Ln} {x : Ln}, (ls ++ [x])[i]? = some l → (i < ls.length ∧ ls[i]? = some l) ∨ (i = ls.length ∧ l = x) := fun {i l x} h => by
    by_cases hi : i < ls.length
    · rw [List.getElem?_append_left hi] at h
      exact .inl ⟨hi, h⟩
    · rw [List.getElem?_append_right (by omega)] at h
      by_cases e : i = ls.length
      · subst e
        rw [Nat.sub_self] at h
        exact .inr ⟨rfl, (Option.some.inj h).symm⟩
      · obtain ⟨d, hd⟩ : ∃ d, i - ls.length = d + 1 := ⟨i - ls.length - 1, by omega⟩
        rw [hd] at h
        simp at h
  refine ⟨by rw [List.length_append, List.length_append, hl]; rfl, fun q hq => ?_, fun i l h => ?_, fun i j l m h h' hj => ?_, fun i l h x => ?_, fun i l h => ?_⟩
  · rcases List.mem_append.mp hq with h | h
    · exact B.rl q h
    · rw [List.mem_singleton.mp h]; exact hp
  · rcases old h with ⟨hi, h⟩ | ⟨rfl, rfl⟩
    · exact B.at_ i l h
    · refine ⟨ha, by rw [smul_len, r1], by rw [List.length_append, smul_len, r2, hl]; rfl, ?_⟩
      rw [cf_smul]; grind
  · rcases old h with ⟨hi, h⟩ | ⟨rfl, rfl⟩
    · rcases old h' with ⟨hj', h'⟩ | ⟨rfl, rfl⟩
      · exact B.zer i j l m h h' hj
      · omega
    · rcases old h' with ⟨hj', h'⟩ | ⟨rfl, rfl⟩
      · rw [cf_smul, rz j m h']; grind
      · omega
  · rcases old h with ⟨hi, h⟩ | ⟨rfl, rfl⟩
    · rw [B.cmb i l h x, comb_snoc, cf_out (p := l.2.2) (by rw [(B.at_ i l h).2.2.1]; omega)]; grind
    · rw [comb_snoc, cf_smul, cf_append, smul_len, r2, if_neg (by omega), Nat.sub_self, req x]
      rw [comb_cut (d := smul (-(1 / cf r a)) f) (fun j hj => by rw [cf_append, smul_len, r2, if_pos hj]), comb_smul]
      show _ = _ + 1 / cf r a * _
      grind
  · rcases old h with ⟨hi, h⟩ | ⟨rfl, rfl⟩
    · exact B.sz i l h
    · exact lead_sz rs (cf_mem (by omega)) h0
/-- numbers for the walk -/
theorem w_pow {i : Nat} (h : i ≤ 12) : W0 * 2 ^ i ≤ 38092800 := by
  have : 2 ^ i ≤ 2 ^ 12 := Nat.pow_le_pow_right (by decide) h
  unfold W0
  omega
theorem w_pow1 {i : Nat} (h : i < 12) : W0 * 2 ^ i + W0 * 2 ^ i ≤ 38092800 := by
  have := w_pow (i := i + 1) (by omega)
  rw [Nat.pow_succ, ← Nat.mul_assoc] at this
  omega
theorem w_pos (i : Nat) : 0 < W0 * 2 ^ i := Nat.mul_pos (by decide) (Nat.pow_pos (by decide))
theorem w_one (i : Nat) : 0 < W0 * 2 ^ i - 1 := by
  have : 1 ≤ 2 ^ i := Nat.pow_pos (by decide)
  have : 9300 * 1 ≤ W0 * 2 ^ i := Nat.mul_le_mul_left 9300 this
  omega
end
end Ly

set_option maxHeartbeats 4000000
/-! a list comprehension whose element may raise (in a def that lets the exception out); the rule and its proof follow the hand layer's for a calm element -/
namespace Ly
open PySem PySem.Spec PyProof.Rows L2
/-- out of a call in the block Y -/
def XEb (Y : Cx) (Ex : XK) (u : Value) (s' : Shared) : Prop := ∃ (pins : List (Addr × Obj)) (σ : L2.St) (H : Hp) (s : Shared), Inv Y pins σ H s ∧ L2.CX Y.prog Y.w Y.stack H s Ex u s'
theorem passB {Y : Cx} {Ex : XK} (σ : L2.St) : PassesAt (L2.CX Y.prog Y.w) (Y.wish (XEb Y Ex)) σ Ex := fun pins H s e s' I c => ⟨pins, σ, H, s, I.unwish, c⟩
theorem heldZ_same {B : Heap} {l : List Env} {a L C : Addr} {Z : Obj → Prop} {h h' : Heap} {m m' : Str → Option Value} (x : HandSPX.HeldZ B l a Z L h) (hB : B.get? C = none) (hn : h.Ns C m) (hn' : h'.Ns C m') (hs : Heap.SameBut C h h') : HandSPX.HeldZ B l a Z L h' := by
  obtain ⟨b1, b0, f1, oe, vs, T, oT, ts, he, hz, hd, h1, hnT, hTe, hT, hdT, h3⟩ := x
  obtain ⟨oC, es, ep, hoC, hdC, _⟩ := hn
  have ne : ∀ {b : Addr} {o : Obj} {vs : Array Value}, h.get? b = some o → o.data = .fields vs → b ≠ C := fun {b o vs} e d q => by
    rw [q, hoC] at e
    cases e
    rw [hdC] at d
    cases d
  exact ⟨fun b o hb => (hs.2 b fun q => by rw [q, hB] at hb; cases hb).trans (b1 b o hb), b0, Heap.FunFrames.sameBut hs hn' f1, oe, vs, T, oT, ts, (hs.2 a (ne he hd)).trans he, hz, hd, h1, hnT, hTe, (hs.2 T (ne hT hdT)).trans hT, hdT, h3⟩
section
variable {X : Cx}
theorem XEb.out {pins : List (Addr × Obj)} {σ : L2.St} {H3 : Hp} {s3 : Shared} {scope : Scope} {ce : Env} {fp : List Addr} {Ex : XK} {Qf : Value → Shared → Prop} {acc u : Value} {s' : Shared}
    (hs : X.stack = X.env :: X.outer) (hf : X.env.frame = some X.env.locals) (tk : Takes X fun cls d _ H => Ex cls d H) (I3 : Inv X pins σ H3 s3) (f3 : ∀ b ∈ fp, FpOk X pins H3 b ∧ b < s3.heap.objs.size)
    (hC : ce.locals = s3.heap.objs.size) (hcf : ce.frame = X.env.frame) (x : XEb (X.blk s3 H3 scope ce fp) Ex u s') :
    notedBy (model X.prog X.w) X.A ce (fun e s'' => compEnds (model X.prog X.w) X.A X.xe none Qf acc ce (.error e) s'') u s' := by
  obtain ⟨pins1, σ1, H1, s, I, a, B, H', cls, d, rfl, fl, hok, ub, na, os, ag, hE⟩ := x
  -- the state without the exception, as in XE.of_call
  obtain ⟨G, g1, g2⟩ := restrict s'.heap fun b => (B.get? b).isSome || decide (b ∈ frs X.stack)
  have st : B.StaysIn s'.heap := fl.1
  have gB : ∀ b o, B.get? b = some o → G.get? b = some o := fun b o e => by
    rw [g1 b (by simp [e])]
    exact st b o e
  have gF : ∀ b, b ∈ frs X.stack → G.get? b = s'.heap.get? b := fun b hb => g1 b (by simp [hb])
  have og : ∀ b o, G.get? b = some o → s'.heap.get? b = some o ∧ ((B.get? b).isSome = true ∨ b ∈ frs X.stack) := fun b o e => by
    cases q : ((B.get? b).isSome || decide (b ∈ frs X.stack)) with
    | false => rw [g2 b q] at e; cases e
    | true =>
      rw [g1 b q] at e
      exact ⟨e, by simpa [Bool.or_eq_true] using q⟩
  have I1 : Inv (X.blk s3 H3 scope ce fp) pins1 σ1 H' { s with heap := G, gens := s'.gens, drawn := s'.drawn, toks := s'.toks } := by
    refine I.call (ch := []) ⟨fun b o e n hb _ => gB b o (ub.keep b o e n hb), fun b o e n hb _ => ?_, fun b o e n _ => ub.free b o e n, fun b o e _ => ?_, ub.tups, ub.frzs, ub.tbls⟩ (hok.kept gB) ag (fun _ z => nomatch z)
    · obtain ⟨sl, q⟩ := ub.slot b o e hb
      exact ⟨sl, by rw [gF b hb]; exact q⟩
    · by_cases hb : b ∈ frs X.stack
      · obtain ⟨sl, q⟩ := ub.slot b o e hb
        exact ⟨_, by rw [gF b hb]; exact q⟩
      · obtain ⟨o', q⟩ := ub.there b o e hb
        exact ⟨o', gB b o' q⟩
  have nb : ∀ b o, G.get? b = some o → b ∉ frs X.stack → B.get? b = some o := fun b o e hb => by
    obtain ⟨e', h⟩ := og b o e
    rcases h with h | h
    · obtain ⟨o', q⟩ := Option.isSome_iff_exists.mp h
      have z := st b o' q
      rw [e'] at z; cases z
      exact q
    · exact absurd h hb
  obtain ⟨mC, hnC, _⟩ := I1.loc
  have hnC : G.Ns s3.heap.objs.size mC := by rw [← hC]; exact hnC
  have nC : H' s3.heap.objs.size = none := by
    have z : H' ce.locals = none := I1.free
    rw [hC] at z
    exact z
  have os1 : s.os = s3.os := I1.os
  -- the block's names let go
  obtain ⟨C, hCe⟩ : ∃ C, s3.heap.objs.size = C := ⟨_, rfl⟩
  rw [hCe] at hC hnC nC
  have hCf : C ∉ frs X.stack := fun hm => by
    have := (I3.stack.mem hm).2
    obtain ⟨o, e, _⟩ := this
    have := Heap.lt_size e
    rw [hCe] at this
    exact Nat.lt_irrefl _ this
  obtain ⟨G', k1, k2⟩ := restrict G fun b => decide (b ≠ C)
  obtain ⟨B', l1, l2⟩ := restrict B fun b => decide (b ≠ C)
  have kG : ∀ b, b ≠ C → G'.get? b = G.get? b := fun b hb => k1 b (by simpa using hb)
  have kC : G'.get? C = none := k2 C (by simp)
  have lB : ∀ b, b ≠ C → B'.get? b = B.get? b := fun b hb => l1 b (by simpa using hb)
  have lC : B'.get? C = none := l2 C (by simp)
  have oG : ∀ b o, G'.get? b = some o → b ≠ C ∧ G.get? b = some o := fun b o e => by
    by_cases q : b = C
    · rw [q, kC] at e; cases e
    · exact ⟨q, by rw [← kG b q]; exact e⟩
  have oB : ∀ b o, B'.get? b = some o → b ≠ C ∧ B.get? b = some o := fun b o e => by
    by_cases q : b = C
    · rw [q, lC] at e; cases e
    · exact ⟨q, by rw [← lB b q]; exact e⟩
  have small : ∀ b o, s3.heap.get? b = some o → b ≠ C := fun b o e q => by
    have := Heap.lt_size e
    rw [hCe, q] at this
    exact Nat.lt_irrefl _ this
  have hokG : HOk X.prog X.w H' G' := fun b o q => (I1.hok b o q).stay (fun c u hc r => by
    refine (kG c fun z => ?_).trans r
    subst z
    rcases hc with hc | hc
    · rw [hc, q] at nC; cases nC
    · rw [hc] at nC; cases nC) (fun _ r => r) fun _ _ r => r
  have IX : Inv X pins σ H' { s with heap := G', gens := s'.gens, drawn := s'.drawn, toks := s'.toks } := by
    refine I3.call' (ch := fp) os1 ?_ hokG I1.bare fun b hb => ⟨(f3 b hb).1.2.2.2.1, (f3 b hb).1.2.1, (f3 b hb).1.2.2.2.2.1, (f3 b hb).1.2.2.2.2.2⟩
    have u := I1.base
    exact ⟨fun b o e n hb hx => (kG b (small b o e)).trans (u.keep b o e n hb hx), fun b o e n hb hx => by
      obtain ⟨sl, q⟩ := u.slot b o e n hb hx
      exact ⟨sl, (kG b (small b o e)).trans q⟩, u.free, fun b o e hx => by
      obtain ⟨o', q⟩ := u.there b o e hx
      exact ⟨o', (kG b (small b o e)).trans q⟩, u.tups, u.frzs, u.tbls⟩
  have hfr : X.A.frames = some (X.env :: X.outer) := by rw [I3.ok.frames, hs]
  have fl1 : HandSPX.FlyingZ B' (X.env :: X.outer) a (Zc cls d) s'.heap := by
    obtain ⟨f1, f2, f3', oe, vs, T, oT, ts, he, hz, hd, h1, hnT, r⟩ := fl
    refine ⟨fun b o e => f1 b o (oB b o e).2, ?_, ?_, oe, vs, T, oT, ts, he, hz, hd, h1, ?_, r⟩
    · by_cases q : a = C
      · rw [q]; exact lC
      · rw [lB a q]; exact f2
    · rw [← hs]
      refine funFrames_none f3' fun L hL => ?_
      by_cases q : L = C
      · rw [q]; exact lC
      · rw [lB L q]; exact (f3'.mem hL).1
    · by_cases q : T = C
      · rw [q]; exact lC
      · rw [lB T q]; exact hnT
  show wpAny _ X.A (noteFrame (.ref a) ce) _ _ s'
  rw [noteFrame_env _ hcf]
  refine HandSPX.looks_onZ Zc.steady hfr hf fl1 fun h1 hh up1 => ?_
  have hnG : s'.heap.Ns C mC := PySem.LyE.ns_keep hnC fun o z => (og C o z).1
  have hn1 : h1.Ns C mC := hnG.upToSlots fun b o e hnf => up1 b o e hnf
  show CompFails _ _ _ ce (.ref a) { s' with heap := h1 }
  refine ⟨mC, by rw [hC]; exact hn1, fun h2 m2 hn2 hs2 => ?_⟩
  rw [hC] at hn2 hs2
  have hh2 := heldZ_same hh lC hn1 hn2 hs2
  unfold PySem.passOn
  obtain ⟨q1, q2, q3, oe, vs, T, oT, ts, he, hz, hd, e1, r⟩ := id hh2
  refine wpAny_bind (wpAny_field he hd e1 ?_)
  rw [if_neg (show ¬ ((Value.ref T == Value.none) = true) from by simp)]
  rw [hcf, hf]
  refine wpAny_bind (HandSPX.setFlight_onZ hh2 fun h3 hh3 up3 => ?_)
  refine wpAny_throw ?_
  refine tk _ _ ⟨a, B', { s with heap := G', gens := s'.gens, drawn := s'.drawn, toks := s'.toks }, pins, σ, H', cls, d, rfl, IX, fun b o e hb => ?_, fun b o e hnf => ?_, .inr (.inr (by rw [hs]; exact hh3)), na, os, ag, hE⟩
  · obtain ⟨z1, z2⟩ := oG b o e
    rw [lB b z1]
    exact nb b o z2 hb
  · obtain ⟨z1, z2⟩ := oG b o e
    obtain ⟨sl1, w1⟩ := up1 b o (og b o z2).1 hnf
    have w2 := (hs2.2 b z1).trans w1
    obtain ⟨sl3, w3⟩ := up3 b _ w2 hnf
    exact ⟨sl3, w3⟩
theorem pe_lcX {elt tg iter : Expr} {ifs : List Expr} {scope : Scope} {own : List (Str × Nat)} {pos : Pos} {wi : TI} {g : TG} {tt : TT} {te : TE} {Ex : XK} (hst : X.stack = X.env :: X.outer) (hfm : X.env.frame = some X.env.locals) (tk : Takes X fun cls d _ H => Ex cls d H)
    (hc : X.calm = true) (hN : X.N.Nodup) (hi : PI X tg iter wi) (ok : BlkOk X.N X.env.scope scope own)
    (hg : ∀ (s : Shared) (H : Hp) (C : Addr) (cl : List (Str × Addr)) (fp : List Addr), PG (X.blk s H scope (compEnvC scope cl C X.env) fp) tg g) (ht : ∀ (s : Shared) (H : Hp) (C : Addr) (cl : List (Str × Addr)) (fp : List Addr), PTs (X.blk s H scope (compEnvC scope cl C X.env) fp) ifs tt)
    (he : ∀ (s : Shared) (H : Hp) (C : Addr) (cl : List (Str × Addr)) (fp : List Addr), PE ((X.blk s H scope (compEnvC scope cl C X.env) fp).wish (XEb (X.blk s H scope (compEnvC scope cl C X.env) fp) Ex)) elt te) (hs : ∀ x, foldedSetIterable iter X.env x = pure x := by intro _; rfl) :
    PE X (.ListComp elt [⟨tg, iter, ifs, 0⟩] scope pos) (tLc wi g tt te (own.map (·.2))) := by
  refine ⟨fun pins s σ H Q I h => ?_⟩
  rw [eval_ListComp]
  have hfree : ∀ y ∈ scope.names, y.2 = .free → ∃ c, X.env.cells.lookup y.1 = some c := fun y hy e => by
    rcases ok.free y hy e with k | k
    · exact I.ok.has _ (.inl k)
    · exact I.ok.has _ (.inr k)
  refine comprehension_at (use := none) rfl hs (closure_ok hfree) ok.kind (fun y hy e => by rw [ok.uniq y hy, e])
    (thn (hi.run pins s σ H _ I h) fun xv s1 hx => thn hx fun itv s2 h2 => ?_)
  obtain ⟨it, fp, tn, J, H2, e, I2, T, st2, f2, q⟩ := h2
  subst e
  refine wpAny_newObj_type (newEnv_comp ?_) (by show 0 ≤ sizeLine; decide)
  generalize hD : s2.heap.objs.size = D
  have hDn : H2 D = none := I2.hok.fresh (Nat.le_of_eq hD)
  obtain ⟨W, ⟨m0, w0⟩, turn⟩ := q D hDn
  generalize hs3 : ({ s2 with heap := s2.heap.push { cls := .type "list", data := .seq ([] : List Value).toArray } } : Shared) = s3
  have I3 : Inv X pins σ (upd H2 D (.lst [])) s3 := by
    rw [← hs3]
    refine I2.laid (t' := s2.toks) (fun b o e => Heap.get?_push_of_some _ e) (Nat.le_of_eq hD) ⟨Nat.zero_le _, [], 0, .nil, ?_⟩
    rw [← hD]
    exact Heap.get?_push_size _ rfl
  have h3 : s3.heap = s2.heap.push { cls := .type "list", data := .seq ([] : List Value).toArray } := by rw [← hs3]
  have sz : ∀ b ∈ fp, b < s2.heap.objs.size := fun b hb => by
    obtain ⟨o, e, _⟩ := T.obj _ _ st2 b hb
    exact Heap.lt_size e
  have f3 : ∀ b ∈ fp, FpOk X pins (upd H2 D (.lst [])) b ∧ b < s3.heap.objs.size := fun b hb => by
    have hlt := sz b hb
    refine ⟨⟨?_, (f2 b hb).2⟩, by rw [h3, Heap.size_push]; exact Nat.lt_succ_of_lt hlt⟩
    rw [upd_ne (by rw [← hD]; exact Nat.ne_of_lt hlt)]
    exact (f2 b hb).1
  have st3 : tn 0 s3.heap := T.keep _ _ _ st2 fun b _ o e => by rw [h3]; exact Heap.get?_push_of_some _ e
  have I4 := block_start I3 ok hN f3
  have pg := hg s3 (upd H2 D (.lst [])) s3.heap.objs.size (cellsFrom (s3.heap.objs.size + 1) scope.names (cloFrom X.env.cells scope.names [])) fp
  have pt := ht s3 (upd H2 D (.lst [])) s3.heap.objs.size (cellsFrom (s3.heap.objs.size + 1) scope.names (cloFrom X.env.cells scope.names [])) fp
  have pe := he s3 (upd H2 D (.lst [])) s3.heap.objs.size (cellsFrom (s3.heap.objs.size + 1) scope.names (cloFrom X.env.cells scope.names [])) fp
  show codeAny _ _ (.compStart (.ListComp elt [⟨tg, iter, ifs, 0⟩] scope pos) 0 (.ref it) (.ref D) (compEnvC scope (cellsFrom (s3.heap.objs.size + 1) scope.names (cloFrom X.env.cells scope.names [])) s3.heap.objs.size X.env)) (compEnds (model X.prog X.w) X.A X.xe none (EP X pins σ Q) (.ref D) (compEnvC scope (cellsFrom (s3.heap.objs.size + 1) scope.names (cloFrom X.env.cells scope.names [])) s3.heap.objs.size X.env)) { s3 with heap := pushCells (s3.heap.push { cls := .type "dict", data := .dict #[] }) scope.names }
  have nfp : ∀ b ∈ fp, (upd H2 D (.lst [])) b = none := fun b hb => (f3 b hb).1.1
  generalize hce : compEnvC scope (cellsFrom (s3.heap.objs.size + 1) scope.names (cloFrom X.env.cells scope.names [])) s3.heap.objs.size X.env = ce at I4 pg pt pe ⊢
  have cL : ce.locals = s3.heap.objs.size := by subst hce; rfl
  have cF : ce.frame = X.env.frame := by subst hce; rfl
  generalize hH3 : upd H2 D (.lst []) = H3 at I3 I4 pg pt pe w0 nfp f3
  generalize hs4 : ({ s3 with heap := pushCells (s3.heap.push { cls := .type "dict", data := .dict #[] }) scope.names } : Shared) = s4 at I4 ⊢
  have st4 : tn 0 s4.heap := T.keep _ _ _ st3 fun b _ o e => by rw [← hs4]; exact pushCells_keeps _ _ _ _ (Heap.get?_push_of_some _ e)
  have stat : ∀ {σ' : L2.St} {H' : Hp} {s' : Shared}, Inv (X.blk s3 H3 scope ce fp) [] σ' H' s' → (∀ b ∈ fp, H' b = none) → ∀ b ∈ fp, FpOk (X.blk s3 H3 scope ce fp) [] H' b := fun {σ' H' s'} I' hn b hb =>
    ⟨hn b hb, (I'.ok.exf b hb).1, I'.ok.exfs b hb, .inl hb, fun x c e => (I'.ok.exf b hb).2 x c e, fun p hp => absurd (show p ∈ ([] : List (Addr × Obj)) ++ [] from hp) (by simp)⟩
  have loop : codeAny (model X.prog X.w) X.A (.compLoop (.ListComp elt [⟨tg, iter, ifs, 0⟩] scope pos) 0 (.ref it) (.ref D) ce) (compEnds (model X.prog X.w) X.A X.xe none (EP X pins σ Q) (.ref D) ce) s4 := by
    refine compLoop_any (fun n s' => ∃ i H', Inv (X.blk s3 H3 scope ce fp) [] (wipe σ (own.map (·.2))) H' s' ∧ tn i s'.heap ∧ (∀ b ∈ fp, H' b = none) ∧ W i n H') ?_ m0 ⟨0, H3, I4, st4, nfp, w0⟩
    rintro n s5 ⟨i, H5, I5, st5, n5, w5⟩
    rcases turn i n H5 w5 with ⟨stop, qq⟩ | ⟨go, Nx, hNx, step⟩
    · have td := T.done (X.blk s3 H3 scope ce fp) rfl rfl rfl hc i [] s5 _ H5 (fun _ _ => False) I5 (stat I5 n5) st5 stop
      refine thnF td fun r s6 ⟨hr, I6⟩ => ?_
      subst hr
      have I7 : Inv X pins σ H5 s6 := I3.call' (ch := fp) I6.os I6.base I6.hok I6.bare fun b hb => ⟨(f3 b hb).1.2.2.2.1, (f3 b hb).1.2.1, (f3 b hb).1.2.2.2.2.1, (f3 b hb).1.2.2.2.2.2⟩
      have nC : H5 s3.heap.objs.size = none := by
        have z : H5 ce.locals = none := I6.free
        rw [cL] at z
        exact z
      obtain ⟨m, hn, _⟩ := I6.loc
      have hn : s6.heap.Ns ce.locals m := hn
      obtain ⟨z0, z1, z2, z3, z4, z5⟩ := I3.fpOk (Nat.le_refl _) nC
      refine ⟨m, hn, fun h'' sb => ?_⟩
      rw [cL] at sb
      exact ⟨.ref D, H5, I7.turned (t' := s6.toks) (fun b o hb e => (sb.2 b hb).trans e) z0 z1 z3 z4 z5, rfl, qq⟩
    · have ti := T.item (X.blk s3 H3 scope ce fp) rfl rfl rfl hc i [] s5 _ H5 (fun _ _ => False) I5 (stat I5 n5) st5 go
      refine thnF ti fun r s6 ⟨u, hr, h6⟩ => ?_
      subst hr
      refine thnF h6 fun _ s7 ⟨x, H7, I7, r7, y7, st7, n7⟩ => ?_
      have I7' := I7.pinned (stat I7 n7) (T.obj _ _ st7)
      refine thnF (pg.run _ s7 _ H7 x u _ I7' r7 (step x H7 y7)) fun _ s8 ⟨σ8, H8, I8, hw8, q8⟩ => ?_
      refine thnF (pt.run _ s8 σ8 H8 _ I8 q8) fun b s9 ⟨H9, I9, q9⟩ => ?_
      have fin : ∀ {s' : Shared} {H' : Hp}, Inv (X.blk s3 H3 scope ce fp) ([] ++ pinsAt fp s7.heap) σ8 H' s' → Nx H' → ∃ m, m < n ∧ ∃ i H', Inv (X.blk s3 H3 scope ce fp) [] (wipe σ (own.map (·.2))) H' s' ∧ tn i s'.heap ∧ (∀ b ∈ fp, H' b = none) ∧ W i m H' := fun {s' H'} I' nx => by
        obtain ⟨m', hm, w'⟩ := hNx H' nx
        have pin' : ∀ b ∈ fp, ∀ o, s7.heap.get? b = some o → s'.heap.get? b = some o ∧ H' b = none := fun b hb o e =>
          let z := I'.pin (b, o) (List.mem_append_right _ (List.mem_append_right _ (mem_pinsAt hb e)))
          ⟨z.1, z.2.1⟩
        have hl : (wipe σ (own.map (·.2))).length = σ8.length := by rw [← hw8, wipe_length]
        refine ⟨m', hm, i + 1, H', (I'.unpinned (pins := [])).weak hl (fun j v e => ?_), T.keep _ _ _ st7 fun b hb o e => (pin' b hb o e).1, fun b hb => ?_, w'⟩
        · rw [← hw8] at e
          exact (wipe_some e).1
        · obtain ⟨o, e, _⟩ := T.obj _ _ st7 b hb
          exact (pin' b hb o e).2
      cases b with
      | false =>
        simp only [Bool.false_eq_true, if_false] at q9 ⊢
        exact fin I9 q9
      | true =>
        simp only [if_true] at q9 ⊢
        refine wpAny_mono (pe.run _ s9 σ8 H9 _ (I9.wish _) q9) (fun z s10 hz => ?_) fun u s10 x => XEb.out hst hfm tk I3 f3 cL cF x
        obtain ⟨yv, H10, I10, r10, acc, hD10, hz10, nx⟩ := hz
        exact app_ok (X := X.blk s3 H3 scope ce fp) I10.unwish hD10 hz10 r10 fun s11 I11 => fin I11 nx
  exact codeAny_compStart_list loop (T.self X.A 0 _ _ _ st4 loop)
end
end Ly

set_option maxHeartbeats 4000000
/-! lists told item by item; three at once; steps of own methods; lines of a basis -/
namespace Ly
open PySem PySem.Spec PyProof.Rows L2
def Al {α : Type} (R : V → α → Prop) : List V → List α → Prop
  | [], [] => True
  | v :: vs, p :: ps => R v p ∧ Al R vs ps
  | _, _ => False
section
variable {α : Type} {R R' : V → α → Prop}
theorem Al.len : ∀ {vs : List V} {ps : List α}, Al R vs ps → vs.length = ps.length
  | [], [], _ => rfl
  | _ :: _, _ :: _, h => congrArg Nat.succ (Al.len h.2)
  | [], _ :: _, h => h.elim
  | _ :: _, [], h => h.elim
theorem Al.mono (f : ∀ v p, R v p → R' v p) : ∀ {vs : List V} {ps : List α}, Al R vs ps → Al R' vs ps
  | [], [], _ => trivial
  | _ :: _, _ :: _, h => ⟨f _ _ h.1, Al.mono f h.2⟩
  | [], _ :: _, h => h.elim
  | _ :: _, [], h => h.elim
theorem Al.at : ∀ {vs : List V} {ps : List α} {i : Nat} {p : α}, Al R vs ps → ps[i]? = some p → ∃ v, vs[i]? = some v ∧ R v p
  | v :: _, _ :: _, 0, _, h, e => ⟨v, rfl, by cases e; exact h.1⟩
  | _ :: vs, _ :: ps, i + 1, p, h, e => by
    obtain ⟨v, h1, h2⟩ := Al.at (i := i) (p := p) h.2 (by simpa using e)
    exact ⟨v, by simpa using h1, h2⟩
  | [], [], _, _, _, e => by simp at e
  | [], _ :: _, _, _, h, _ => h.elim
  | _ :: _, [], _, _, h, _ => h.elim
theorem Al.atV : ∀ {vs : List V} {ps : List α} {i : Nat} {v : V}, Al R vs ps → vs[i]? = some v → ∃ p, ps[i]? = some p ∧ R v p
  | _ :: _, p :: _, 0, _, h, e => ⟨p, rfl, by cases e; exact h.1⟩
  | _ :: vs, _ :: ps, i + 1, p, h, e => by
    obtain ⟨v, h1, h2⟩ := Al.atV (i := i) (v := p) h.2 (by simpa using e)
    exact ⟨v, by simpa using h1, h2⟩
  | [], [], _, _, _, e => by simp at e
  | [], _ :: _, _, _, h, _ => h.elim
  | _ :: _, [], _, _, h, _ => h.elim
theorem Al.append : ∀ {vs ws : List V} {ps qs : List α}, Al R vs ps → Al R ws qs → Al R (vs ++ ws) (ps ++ qs)
  | [], _, [], _, _, k => k
  | _ :: _, _, _ :: _, _, h, k => ⟨h.1, Al.append h.2 k⟩
  | [], _, _ :: _, _, h, _ => h.elim
  | _ :: _, _, [], _, h, _ => h.elim
theorem Al.snoc {vs : List V} {ps : List α} {v : V} {p : α} (h : Al R vs ps) (k : R v p) : Al R (vs ++ [v]) (ps ++ [p]) := h.append ⟨k, trivial⟩
end
section
variable {K : PySem.W.Frag} {H H' : Hp} {Q : VK} {σ : L2.St} {D : Ends}
theorem u_triple {T : Addr} {x y z : V} {i j k : Nat} {P : L2.St → Hp → Prop} (hT : SqT K H T [x, y, z]) (h : P (((σ.set i (some x)).set j (some y)).set k (some z)) H) :
    gTup K 3 (gCons (gName i) (gCons (gName j) (gCons (gName k) gNil))) (.ref T) σ H P :=
  ⟨T, [x, y, z], rfl, hT, rfl, x, _, rfl, y, _, rfl, z, _, rfl, rfl, h⟩
theorem st_methW {C : Addr} {m : Str} {sp : Sp} {E : L2.St → XK} {ta : TE} {t : TA} (h : ta σ H fun x H1 => ∃ a dx fs, x = .ref a ∧ H1 a = some (.ins C dx fs) ∧ fs.lookup m = none ∧ t σ H1 fun vs H2 => sp (.ref a :: vs) H2 Q (E σ)) : Ly.tMethS C m sp E ta t σ H Q := h
theorem st_inO {C : Addr} {sp : Sp} {E : L2.St → XK} {ta tb : TE} (h : ta σ H fun y H1 => tb σ H1 fun x H2 => ∃ a dx fs, x = .ref a ∧ H2 a = some (.ins C dx fs) ∧ sp [.ref a, y] H2 (fun v H' => ∃ b, v = .bl b ∧ Q (.bl b) H') (E σ)) : tInO C sp E ta tb σ H Q := h
theorem st_prop {C : Addr} {sp : Sp} {dvs : List V} {E : XK} {ta : TE} (h : ta σ H fun x H1 => ∃ a dx fs, x = .ref a ∧ H1 a = some (.ins C dx fs) ∧ sp (.ref a :: dvs) H1 Q E) : tProp C sp dvs E ta σ H Q := h
theorem st_make {C : Addr} {sp : Sp} {dvs : List V} {E : XK} {t : TA} (h : t σ H fun vs H1 => ∀ x dx, H1 x = none → H1 dx = none → dx ≠ x → sp (.ref x :: (vs ++ dvs)) (upd (upd H1 dx (.own x)) x (.ins C dx [])) (fun v H2 => v = .non ∧ Q (.ref x) H2) E) : tMake C sp dvs E t σ H Q := h
theorem st_fldX {C a : Addr} {f : Str} {cls : Value} {d : Option Addr} {te : TE} (h : te σ H fun y H1 => y = .ref a ∧ cls = .ref C ∧ ∃ (dd : Addr) (fs : List (Str × V)) (v : V), d = some dd ∧ H1 dd = some (.xd fs) ∧ fs.lookup f = some v ∧ Q v H1) : tFldX C a f cls d te σ H Q := h
theorem u_isN (h : Q (.bl true) H) : rIsN .non .non H Q := ⟨rfl, by rw [decide_eq_true rfl]; exact h⟩
theorem u_isI {n : Int} (h : Q (.bl false) H) : rIsN (.int n) .non H Q := ⟨rfl, by rw [decide_eq_false (fun z => nomatch z)]; exact h⟩
theorem u_isR {a : Addr} (h : Q (.bl false) H) : rIsN (.ref a) .non H Q := ⟨rfl, by rw [decide_eq_false (fun z => nomatch z)]; exact h⟩
theorem u_noN (h : Q (.bl false) H) : rNotN .non .non H Q := ⟨rfl, by rw [decide_eq_true rfl]; exact h⟩
theorem u_noR {a : Addr} (h : Q (.bl true) H) : rNotN (.ref a) .non H Q := ⟨rfl, by rw [decide_eq_false (fun z => nomatch z)]; exact h⟩
theorem le_l0 : ([] : List V).length ≤ sizeLine := Nat.zero_le _
theorem le_l1 (x : V) : [x].length ≤ sizeLine := by show 1 ≤ sizeLine; decide
theorem le_l2 (x y : V) : [x, y].length ≤ sizeLine := by show 2 ≤ sizeLine; decide
theorem le_l3 (x y z : V) : [x, y, z].length ≤ sizeLine := by show 3 ≤ sizeLine; decide
theorem le_l5 (x y z u v : V) : [x, y, z, u, v].length ≤ sizeLine := by show 5 ≤ sizeLine; decide
theorem tup_new (K : PySem.W.Frag) {p : Addr} {xs : List V} (h : H p = none) : ∃ H2, upd H p (.tup xs) = H2 ∧ Same H H2 ∧ SqT K H2 p xs := ⟨_, rfl, same_new h, SqT.of upd_same⟩
theorem lst_new (K : PySem.W.Frag) {p : Addr} {xs : List V} (h : H p = none) : ∃ H2, upd H p (.lst xs) = H2 ∧ Same H H2 ∧ H2 p = some (.lst xs) := ⟨_, rfl, same_new h, upd_same⟩
theorem xd_new {p : Addr} {xs : List (Str × V)} (h : H p = none) : ∃ H2, upd H p (.xd xs) = H2 ∧ Same H H2 ∧ H2 p = some (.xd xs) := ⟨_, rfl, same_new h, upd_same⟩
/-- tuples joined -/
theorem u_catT {a b : Addr} {xs ys : List V} (ha : SqT K H a xs) (hb : SqT K H b ys) (l : xs.length + ys.length ≤ 100000) (c : ∀ p H', Same H H' → SqT K H' p (xs ++ ys) → Q (.ref p) H') : rAddU K (.ref a) (.ref b) H Q := by
  refine .inr (.inr ⟨a, b, xs, ys, rfl, rfl, ha, hb, Nat.le_trans (m := 100000) (by omega) (by decide), fun z => ?_, fun z1 z2 => ?_, fun z1 z2 l hl => ?_⟩)
  · subst z
    exact c _ _ (Same.refl H) hb
  · subst z2
    refine c _ _ (Same.refl H) ?_
    rw [List.append_nil]; exact ha
  · exact c _ _ (same_new hl) (SqT.of upd_same)
/-- a line of a basis: (place, row, parts) -/
def LnT (K : PySem.W.Frag) (H : Hp) (v : V) (l : Ln) : Prop := ∃ t u c, v = .ref t ∧ SqT K H t [.int (l.1 : Nat), u, c] ∧ RowT K H u l.2.1 ∧ RowT K H c l.2.2
theorem LnT.imm {v : V} {l : Ln} (h : LnT K H v l) (e : Imm H H') : LnT K H' v l :=
  let ⟨t, u, c, z, h1, h2, h3⟩ := h; ⟨t, u, c, z, e.t h1, h2.imm e, h3.imm e⟩
theorem Rs.al {R : V → List Rat → Prop} : ∀ {vs : List V} {ps : List (List Rat)}, Rs R vs ps → Al R vs ps
  | [], [], _ => trivial
  | _ :: _, _ :: _, h => ⟨h.1, Rs.al h.2⟩
  | [], _ :: _, h => h.elim
  | _ :: _, [], h => h.elim
theorem Al.rs {R : V → List Rat → Prop} : ∀ {vs : List V} {ps : List (List Rat)}, Al R vs ps → Rs R vs ps
  | [], [], _ => trivial
  | _ :: _, _ :: _, h => ⟨h.1, Al.rs h.2⟩
  | [], _ :: _, h => h.elim
  | _ :: _, [], h => h.elim
/-- an own object is changed: tuples stay -/
theorem Imm.ins {b C dx : Addr} {fs : List (Str × V)} {o : HO} (hb : H b = some (.ins C dx fs)) : Imm H (L2.upd H b o) := fun a u c h => samex_upd a u (by
  rintro rfl
  rw [hb] at h
  rcases c with ⟨ys, rfl⟩ | ⟨ob, w, rfl⟩
  · cases h
  · cases h) h
theorem SameX.immI {b C dx : Addr} {fs : List (Str × V)} (e : SameX b H H') (hb : H b = some (.ins C dx fs)) : Imm H H' := fun a u c h => e a u (by
  rintro rfl
  rw [hb] at h
  rcases c with ⟨ys, rfl⟩ | ⟨ob, w, rfl⟩
  · cases h
  · cases h) h
/-- a row (list or tuple) stays where an own object changes -/
theorem Row.immI {b C dx : Addr} {fs : List (Str × V)} {v : V} {p : List Rat} (h : Row K H v p) (e : SameX b H H') (hb : H b = some (.ins C dx fs)) : Row K H' v p := by
  obtain ⟨a, xs, rfl, h1, h2⟩ := h
  refine ⟨a, xs, rfl, ?_, h2.imm (e.immI hb)⟩
  have ne : ∀ {o : HO}, H a = some o → (∀ C dx fs, o ≠ .ins C dx fs) → a ≠ b := fun {o} z n q => by
    rw [q, hb] at z
    exact n _ _ _ (Option.some.inj z).symm
  rcases h1 with ((h1 | ⟨o, h1⟩) | h1) | h1
  · exact .inl (.inl (.inl (e a _ (ne h1 fun _ _ _ z => nomatch z) h1)))
  · exact .inl (.inl (.inr ⟨o, e a _ (ne h1 fun _ _ _ z => nomatch z) h1⟩))
  · exact .inl (.inr h1)
  · exact .inr ((e.immI hb).t h1)
end
end Ly

set_option maxHeartbeats 4000000
/-! grids of known kind, a list of rows of one's own; combinations of rows, with sizes -/
namespace Ly
open PySem PySem.Spec PyProof.Rows L2
def combL (c : List Rat) (rows : List (List Rat)) (n : Nat) : List Rat := (List.range n).map (comb c rows)
theorem combL_len {c : List Rat} {rows : List (List Rat)} {n : Nat} : (combL c rows n).length = n := by unfold combL; rw [List.length_map, List.length_range]
theorem cf_combL {c : List Rat} {rows : List (List Rat)} {n i : Nat} (h : i < n) : cf (combL c rows n) i = comb c rows i := by unfold combL; rw [cf_map, if_pos h]
theorem sz_flat {t : Nat} {rows : List (List Rat)} (h : Sz t rows.flatten) : ∃ C n, 0 < C ∧ C < 2 ^ t ∧ n < 2 ^ t ∧ ∀ j i, InD C n (cf (rows.getD j []) i) := by
  obtain ⟨D, h0, h1, h2⟩ := h
  have e : 0 < 2 ^ t := Nat.pow_pos (by decide)
  refine ⟨D, 2 ^ t - 1, h0, h1, by omega, fun j i => ?_⟩
  by_cases hi : i < (rows.getD j []).length
  · have hj : j < rows.length := by
      rcases Nat.lt_or_ge j rows.length with z | z
      · exact z
      · rw [List.getD_eq_getElem?_getD, List.getElem?_eq_none z] at hi
        exact absurd hi (by simp)
    have hm : rows.getD j [] ∈ rows := by
      rw [List.getD_eq_getElem?_getD, List.getElem?_eq_getElem hj]
      exact List.getElem_mem hj
    obtain ⟨k, z, hk⟩ := h2 _ (List.mem_flatten.mpr ⟨_, hm, cf_mem hi⟩)
    exact ⟨k, z, by omega⟩
  · rw [cf_out (by omega)]; exact InD.zero
theorem sum_in {D C m n : Nat} {a b : Nat → Rat} (h0 : 0 < D) (h1 : 0 < C) (h : ∀ i, InD D m (a i)) (k : ∀ i, InD C n (b i)) : ∀ J, InD (D * C) (J * (m * n)) (sumTo J fun i => a i * b i)
  | 0 => InD.zero.mono (Nat.zero_le _)
  | J + 1 => by
    rw [Nat.succ_mul]
    exact (sum_in h0 h1 h k J).add (InD.mul h0 h1 (h _) (k _))
theorem comb_bq {s t k : Nat} {c : List Rat} {rows : List (List Rat)} {J i : Nat} (h : Sz s c) (h2 : Sz t rows.flatten) (h3 : J ≤ 2 ^ k) : Bq (s + t + k) (sumTo J fun j => cf c j * cf (rows.getD j []) i) := by
  have h0 := h.pos
  obtain ⟨D, m, a1, a2, a3, a4⟩ := h.inD
  obtain ⟨C, n, b1, b2, b3, b4⟩ := sz_flat h2
  refine (sum_in a1 b1 a4 (fun j => b4 j i) J).bq ?_ (pow_mul3 a3 b3 h3) (by omega)
  rw [← Nat.one_mul (D * C)]
  exact pow_mul3 a2 b2 (Nat.pow_pos (by decide))
theorem sz_row {t j : Nat} {rows : List (List Rat)} (h : Sz t rows.flatten) : Sz t (rows.getD j []) := h.sub fun q hq => by
  refine .inl ?_
  by_cases hj : j < rows.length
  · refine List.mem_flatten.mpr ⟨_, ?_, hq⟩
    rw [List.getD_eq_getElem?_getD, List.getElem?_eq_getElem hj]
    exact List.getElem_mem hj
  · rw [List.getD_eq_getElem?_getD, List.getElem?_eq_none (by omega)] at hq
    exact absurd hq (by simp)
/-- all entries of a combination over one denominator -/
theorem sz_combL {s t k n : Nat} {c : List Rat} {rows : List (List Rat)} (h : Sz s c) (h2 : Sz t rows.flatten) (h3 : rows.length ≤ 2 ^ k) : Sz (s + t + k) (combL c rows n) := by
  obtain ⟨D, m, a1, a2, a3, a4⟩ := h.inD
  obtain ⟨C, n', b1, b2, b3, b4⟩ := sz_flat h2
  refine Sz.ofInD (D := D * C) (m := rows.length * (m * n')) (Nat.mul_pos a1 b1) ?_ (pow_mul3 a3 b3 h3) fun i hi => ?_
  · rw [← Nat.one_mul (D * C)]
    exact pow_mul3 a2 b2 (Nat.pow_pos (by decide))
  · rw [combL_len] at hi
    rw [cf_combL hi]
    exact sum_in a1 b1 a4 (fun j => b4 j i) _
/-! ### grids -/
section
variable {K : PySem.W.Frag} {H0 H H' : Hp} {Q : VK} {v w : V} {p q : List Rat} {m : List (List Rat)} {t t1 t2 : Bool} {D : Addr}
theorem RowK.x (h : RowK t K H v q) (n : t = false → v ≠ .ref D) (e : SameX D H H') (im : Imm H H') : RowK t K H' v q := by
  cases t with
  | true => exact RowT.imm h im
  | false =>
    obtain ⟨a, xs, rfl, h1, h2⟩ := (show RowL K H v q from h)
    exact ⟨a, xs, rfl, e _ _ (fun z => n rfl (by rw [z])) h1, h2.imm im⟩
def GridK (t1 t2 : Bool) (K : PySem.W.Frag) (H : Hp) (v : V) (m : List (List Rat)) : Prop := ∃ a xs, v = .ref a ∧ (if t1 = true then SqT K H a xs else H a = some (.lst xs)) ∧ Al (RowK t2 K H) xs m
theorem GridK.same (h : GridK t1 t2 K H v m) (e : Same H H') : GridK t1 t2 K H' v m := by
  obtain ⟨a, xs, z, h1, h2⟩ := h
  refine ⟨a, xs, z, ?_, h2.mono fun _ _ r => r.same e⟩
  cases t1 with
  | true => exact e.t h1
  | false => exact e _ _ h1
theorem GridK.grid (h : GridK t1 t2 K H v m) : Grid K H v m := by
  obtain ⟨a, xs, z, h1, h2⟩ := h
  refine ⟨a, xs, z, ?_, (h2.mono fun _ _ r => r.row).rs⟩
  cases t1 with
  | true => exact .inr h1
  | false => exact .inl (SqL.of h1)
theorem GridK.gridT (h : GridK true true K H v m) : GridT K H v m := by
  obtain ⟨a, xs, z, h1, h2⟩ := h
  exact ⟨a, xs, z, h1, h2.rs⟩
/-- a list of rows of one's own, made behind H0 -/
def LocR (t : Bool) (K : PySem.W.Frag) (H0 : Hp) (D : Addr) (H : Hp) (m : List (List Rat)) : Prop := Same H0 H ∧ H0 D = none ∧ ∃ xs, H D = some (.lst xs) ∧ Al (fun v q => RowK t K H v q ∧ (t = false → v ≠ .ref D)) xs m
theorem LocR.new (hD : H D = none) (e : Same H0 H) : LocR t K H0 D (upd H D (.lst [])) [] := ⟨e.trans (same_new hD), e.free hD, [], upd_same, trivial⟩
theorem LocR.ext (L : LocR t K H0 D H m) (e : Same H H') : LocR t K H0 D H' m :=
  let ⟨h1, h2, xs, h3, h4⟩ := L; ⟨h1.trans e, h2, xs, e _ _ h3, h4.mono fun _ _ r => ⟨r.1.same e, r.2⟩⟩
theorem LocR.grid (L : LocR t K H0 D H m) : GridK false t K H (.ref D) m := let ⟨h1, h2, xs, h3, h4⟩ := L; ⟨D, xs, rfl, h3, h4.mono fun _ _ r => r.1⟩
theorem LocR.app (L : LocR t K H0 D H m) (hv : RowK t K H v q) (n : t = false → v ≠ .ref D) : ∃ xs, H D = some (.lst xs) ∧ xs.length = m.length ∧ LocR t K H0 D (upd H D (.lst (xs ++ [v]))) (m ++ [q]) := by
  obtain ⟨h1, h2, xs, h3, h4⟩ := L
  have im : Imm H (upd H D (.lst (xs ++ [v]))) := Imm.upd h3
  exact ⟨xs, h3, h4.len, h1.mut h2, h2, _, upd_same, Al.snoc (h4.mono fun _ _ r => ⟨r.1.x r.2 samex_upd im, r.2⟩) ⟨hv.x n samex_upd im, n⟩⟩
theorem lcLocR {P : List V → Hp → Prop} (L : LocR t K H0 D H m) (hl : m.length ≤ 100000) (hv : RowK t K H v q) (n : t = false → v ≠ .ref D) (c : ∀ acc H', LocR t K H0 D H' (m ++ [q]) → P acc H') : LcN D P v H := by
  obtain ⟨xs, h3, l, L2⟩ := L.app hv n
  exact lcN h3 (Nat.lt_of_le_of_lt (m := 100000) (by omega) (by decide)) (c _ _ L2)
theorem u_appLocR (L : LocR t K H0 D H m) (hl : m.length ≤ 100000) (hv : RowK t K H v q) (n : t = false → v ≠ .ref D) (c : ∀ H', LocR t K H0 D H' (m ++ [q]) → Q .non H') : rAppend (.ref D) [v] H Q := by
  obtain ⟨xs, h3, l, L2⟩ := L.app hv n
  exact ⟨D, xs, v, rfl, rfl, h3, Nat.lt_of_le_of_lt (m := 100000) (by omega) (by decide), c _ L2⟩
theorem tyLocR (L : LocR t K H0 D H m) : tyV K "list" (.ref D) H := let ⟨_, _, _, h3, _⟩ := L; Or.inl ⟨rfl, _, SqL.of h3⟩
theorem Loc.neR {y : Addr} (L : Ly.Loc K H D H' p) (h : H y ≠ none) : (.ref D : V) ≠ .ref y := fun z => by
  injection z with z
  exact h (z ▸ L.2.1)
/-- tuple([..]) of rows -/
theorem u_tupleR (L : LocR t K H0 D H m) (c : ∀ v H', Same H0 H' → GridK true t K H' v m → Q v H') : rTupleU K [.ref D] H Q := by
  obtain ⟨h1, h2, xs, h3, h4⟩ := L
  refine u_tupleL h3 fun l hl => c _ _ (h1.trans (same_new hl)) ⟨l, xs, rfl, SqT.of upd_same, h4.mono fun _ _ r => r.1.same (same_new hl)⟩
/-! data of grids -/
def rowD (t : Bool) (p : List Rat) : PyData := if t = true then .tuple (p.map frD) else .list (p.map frD)
def grD (t1 t2 : Bool) (m : List (List Rat)) : PyData := if t1 = true then .tuple (m.map (rowD t2)) else .list (m.map (rowD t2))
theorem RowK.dp (h : RowK t K H v p) : Dp K H v (rowD t p) := by
  cases t with
  | true => exact RowT.dp h
  | false => exact RowL.dp h
theorem Al.dp : ∀ {xs : List V} {m : List (List Rat)}, Al (RowK t K H) xs m → DpAll K H xs (m.map (rowD t))
  | [], [], _ => .nil
  | _ :: _, _ :: _, h => .cons h.1.dp (Al.dp h.2)
  | [], _ :: _, h => h.elim
  | _ :: _, [], h => h.elim
theorem GridK.dp (h : GridK t1 t2 K H v m) : Dp K H v (grD t1 t2 m) := by
  obtain ⟨a, xs, rfl, h1, h2⟩ := h
  cases t1 with
  | true => exact .tup h1 h2.dp
  | false => exact .lst (SqL.of h1) h2.dp
theorem rowD_refl (t : Bool) (p : List Rat) : PyData.eqv (rowD t p) (rowD t p) = true := by
  cases t with
  | true => show PyData.eqv (.tuple _) (.tuple _) = true; rw [PyData.eqv]; exact frDs_refl p
  | false => show PyData.eqv (.list _) (.list _) = true; rw [PyData.eqv]; exact frDs_refl p
theorem rowDs_refl (t : Bool) : ∀ m : List (List Rat), PyData.eqvAll (m.map (rowD t)) (m.map (rowD t)) = true
  | [] => by simp [PyData.eqvAll]
  | p :: m => by
    rw [List.map_cons, PyData.eqvAll, rowD_refl, rowDs_refl t m]
    rfl
theorem rowD_lay (t : Bool) (p : List Rat) : PyData.canLay0 (rowD t p) = true := by
  cases t with
  | true => show PyData.canLay0 (.tuple _) = true; rw [PyData.canLay0]; exact frDs_lay p
  | false => show PyData.canLay0 (.list _) = true; rw [PyData.canLay0]; exact frDs_lay p
theorem rowD_depth (t : Bool) (p : List Rat) : PyData.depth (rowD t p) ≤ 2 := by
  have := frDs_depth p
  cases t with
  | true => show PyData.depth (.tuple _) ≤ 2; rw [PyData.depth]; omega
  | false => show PyData.depth (.list _) ≤ 2; rw [PyData.depth]; omega
theorem rowDs_lay (t : Bool) : ∀ m : List (List Rat), PyData.canLayAll0 (m.map (rowD t)) = true
  | [] => by simp [PyData.canLayAll0]
  | p :: m => by
    rw [List.map_cons, PyData.canLayAll0, rowD_lay, rowDs_lay t m]
    rfl
theorem rowDs_depth (t : Bool) : ∀ m : List (List Rat), PyData.depthAll (m.map (rowD t)) ≤ 2
  | [] => by simp [PyData.depthAll]
  | p :: m => by
    have := rowDs_depth t m
    have := rowD_depth t p
    rw [List.map_cons, PyData.depthAll]
    omega
theorem grD_shaped (t1 t2 : Bool) (m : List (List Rat)) : SeqAt.shaped (grD t1 t2 m) = true := by
  have := rowDs_depth t2 m
  have l := rowDs_lay t2 m
  unfold SeqAt.shaped
  cases t1 with
  | true =>
    show (PyData.canLay0 (.tuple _) && decide (PyData.depth (.tuple _) ≤ 64)) = true
    rw [PyData.canLay0, PyData.depth, l, decide_eq_true (by omega)]
    rfl
  | false =>
    show (PyData.canLay0 (.list _) && decide (PyData.depth (.list _) ≤ 64)) = true
    rw [PyData.canLay0, PyData.depth, l, decide_eq_true (by omega)]
    rfl
theorem grD_refl (t1 t2 : Bool) (m : List (List Rat)) : PyData.eqv (grD t1 t2 m) (grD t1 t2 m) = true := by
  cases t1 with
  | true => show PyData.eqv (.tuple _) (.tuple _) = true; rw [PyData.eqv]; exact rowDs_refl t2 m
  | false => show PyData.eqv (.list _) (.list _) = true; rw [PyData.eqv]; exact rowDs_refl t2 m
theorem u_neGridK (h1 : GridK t1 t2 K H v m) (h2 : GridK t1 t2 K H w m) (k : Q (.bl false) H) : rNeU K v w H Q := .inr ⟨_, _, h1.dp, h2.dp, grD_shaped t1 t2 m, grD_shaped t1 t2 m, by
  rw [grD_refl]; exact k⟩
end
end Ly

set_option maxHeartbeats 4000000
/-! sizes of drawn rows beside the rows that are kept -/
namespace Ly
open PySem PySem.Spec PyProof.Rows L2
section
/-! steps where the ends stand as a row of four: the terms stay small -/
variable {σ : L2.St} {H : Hp} {t u : TS} {c : TT} {g : TG} {tb : TS} {te : TE} {a b k : L2.St → Hp → Prop} {r : VK}
theorem st_seqC (h : t ⟨u ⟨a, r, b, k⟩, r, b, k⟩ σ H) : tSeq t u ⟨a, r, b, k⟩ σ H := h
theorem st_retC (h : te σ H r) : tRet te ⟨a, r, b, k⟩ σ H := h
theorem st_nextC (h : a σ H) : tNext ⟨a, r, b, k⟩ σ H := h
theorem st_dropC (h : te σ H fun _ H1 => a σ H1) : tDrop te ⟨a, r, b, k⟩ σ H := h
theorem st_asgC (h : te σ H fun x H1 => g x σ H1 a) : tAsg te g ⟨a, r, b, k⟩ σ H := h
theorem forKC {J : It} {n : Nat} {G : Hp → Prop} {Y : Nat → Hp → V → Hp → Prop} (w : Walk J n G Y) (Pv : Nat → L2.St → Hp → Prop) (h0 : Pv 0 σ H) (hG : ∀ i σ H, i ≤ n → Pv i σ H → G H)
    (hs : ∀ i x σ H H', i < n → Pv i σ H → Y i H x H' → g x σ H' fun σ2 H2 => tb ⟨Pv (i + 1), r, a, Pv (i + 1)⟩ σ2 H2) (hd : ∀ σ H, Pv n σ H → a σ H) : ForK g tb ⟨a, r, b, k⟩ σ J H := for_it w Pv h0 hG hs hd
theorem u_cutC (M : L2.St → Hp → Prop) (h1 : t ⟨M, r, b, k⟩ σ H) (h2 : ∀ σ' H', M σ' H' → u ⟨a, r, b, k⟩ σ' H') : Evl.tCut t u ⟨a, r, b, k⟩ σ H := ⟨M, h1, h2⟩
end
/-- beside: q's entries over the denominator of p's -/
theorem jcomb {s t k n : Nat} {c : List Rat} {fl : List Rat} {rows : List (List Rat)} (h : Sz s c) (h2 : Sz t fl) (hm : ∀ r ∈ rows, ∀ q ∈ r, q ∈ fl) (h3 : rows.length ≤ 2 ^ k) : Sz (s + t + k) (fl ++ combL c rows n) := by
  obtain ⟨D, m, a1, a2, a3, a4⟩ := h.inD
  obtain ⟨C, b1, b2, b4⟩ := h2
  have e : 0 < 2 ^ t := Nat.pow_pos (by decide)
  have hD := dne a1
  have hC := dne b1
  have ent : ∀ j i, InD C (2 ^ t - 1) (cf (rows.getD j []) i) := fun j i => by
    by_cases hi : i < (rows.getD j []).length
    · have hj : j < rows.length := by
        rcases Nat.lt_or_ge j rows.length with z | z
        · exact z
        · rw [List.getD_eq_getElem?_getD, List.getElem?_eq_none z] at hi
          exact absurd hi (by simp)
      have hmm : rows.getD j [] ∈ rows := by
        rw [List.getD_eq_getElem?_getD, List.getElem?_eq_getElem hj]
        exact List.getElem_mem hj
      obtain ⟨x, z, hk⟩ := b4 _ (hm _ hmm _ (cf_mem hi))
      exact ⟨x, z, by omega⟩
    · rw [cf_out (by omega)]; exact InD.zero
  have p1 : D * C < 2 ^ (s + t + k) := by
    rw [← Nat.one_mul (D * C)]
    exact pow_mul3 a2 b2 (Nat.pow_pos (by decide))
  have p2 : rows.length * (m * (2 ^ t - 1)) < 2 ^ (s + t + k) := pow_mul3 a3 (by omega) h3
  refine ⟨D * C, Nat.mul_pos a1 b1, p1, fun q hq => ?_⟩
  rcases List.mem_append.mp hq with z | z
  · obtain ⟨x, hx, hm⟩ := b4 q z
    refine ⟨x * D, by rw [hx]; push_cast; grind, ?_⟩
    rw [Int.natAbs_mul]
    simp only [Int.natAbs_natCast]
    calc x.natAbs * D < 2 ^ t * 2 ^ s := Nat.mul_lt_mul'' hm a2
      _ = 1 * (2 ^ s * 2 ^ t) := by rw [Nat.one_mul, Nat.mul_comm]
      _ ≤ 2 ^ k * (2 ^ s * 2 ^ t) := Nat.mul_le_mul_right _ (Nat.pow_pos (by decide))
      _ = 2 ^ (s + t + k) := by rw [Nat.pow_add, Nat.pow_add, Nat.mul_comm]
  · unfold combL at z
    obtain ⟨i, hi, rfl⟩ := List.mem_map.mp z
    obtain ⟨x, hx, hm⟩ := sum_in a1 b1 a4 (fun j => ent j i) rows.length
    exact ⟨x, hx, by omega⟩
/-- entries that are 0 or 1 -/
theorem junit {t : Nat} {fl u : List Rat} (h : Sz t fl) (hu : ∀ q ∈ u, q = 0 ∨ q = 1) : Sz t (fl ++ u) := by
  obtain ⟨D, h0, h1, h2⟩ := h
  have hD := dne h0
  refine ⟨D, h0, h1, fun q hq => ?_⟩
  rcases List.mem_append.mp hq with z | z
  · exact h2 q z
  · rcases hu q z with e | e
    · exact ⟨0, by rw [e]; push_cast; grind, by simp; omega⟩
    · exact ⟨D, by rw [e]; push_cast; grind, by simpa using h1⟩
/-- one more at one entry -/
theorem jmore {t at_ : Nat} {fl p : List Rat} (h : Sz t (fl ++ p)) (ha : at_ < p.length) : Sz (t + 1) (fl ++ p.set at_ (cf p at_ + 1)) := by
  obtain ⟨D, h0, h1, h2⟩ := h
  have hD := dne h0
  have e : 2 ^ (t + 1) = 2 ^ t + 2 ^ t := by rw [Nat.pow_succ]; omega
  refine ⟨D, h0, by omega, fun q hq => ?_⟩
  have old : ∀ q ∈ fl ++ p, ∃ k : Int, q = (k : Rat) / (D : Rat) ∧ k.natAbs < 2 ^ (t + 1) := fun q hq => by
    obtain ⟨k, e1, e2⟩ := h2 q hq
    exact ⟨k, e1, by omega⟩
  rcases List.mem_append.mp hq with z | z
  · exact old q (List.mem_append_left _ z)
  · rcases List.mem_or_eq_of_mem_set z with z | z
    · exact old q (List.mem_append_right _ z)
    · obtain ⟨k, e1, e2⟩ := h2 _ (List.mem_append_right fl (cf_mem ha))
      refine ⟨k + D, by rw [z, e1]; push_cast; grind, ?_⟩
      omega
theorem sz_ints {c : List Rat} (h : ∀ q ∈ c, ∃ k : Int, q = (k : Rat) ∧ k.natAbs ≤ 3) : Sz 2 c := ⟨1, by decide, by decide, fun q hq => by
  obtain ⟨k, e, hk⟩ := h q hq
  refine ⟨k, by rw [e]; push_cast; grind, by omega⟩⟩
end Ly

set_option maxHeartbeats 4000000
/-! zip of any few rows, at the library's level -/
namespace PySem
namespace LyZip
open Ly (itO layK itSt)
/-- a row: tuple or list, its address, its items -/
structure Rw where
  t : Bool
  l : Addr
  its : Array Value
section
variable {M : Model} {A : Around} {E : Value → Shared → Prop}
theorem forIn_go {α β : Type} {Q : β → Shared → Prop} (f : α → β → Sem (ForInStep β)) : ∀ (l : List α) (I : Nat → β → Shared → Prop) (b : β) (s : Shared), I 0 b s →
    (∀ j x b s, l[j]? = some x → I j b s → wpAny M A (f x b) (fun r s' => ∃ b', r = .yield b' ∧ I (j + 1) b' s') E s) → (∀ b s, I l.length b s → Q b s) → wpAny M A (forIn l b f) Q E s
  | [], I, b, s, h0, _, hd => by
    simp only [List.forIn_nil]
    exact wpAny_pure (hd b s h0)
  | x :: l, I, b, s, h0, hs, hd => by
    simp only [List.forIn_cons]
    refine wpAny_bind (wpAny_mono (hs 0 x b s rfl h0) (fun r s' hr => ?_) fun _ _ z => z)
    obtain ⟨b', rfl, h1⟩ := hr
    exact forIn_go f l (fun j => I (j + 1)) b' s' h1 (fun j y b s hy => hs (j + 1) y b s (by simpa using hy)) hd
end
section
variable {prog : Program} {w : World} {A : Around} {E : Value → Shared → Prop} {s : Shared}
def itRefs (c n : Nat) : List Value := (List.range n).map fun j => .ref (c + j)
theorem itRefs_succ {c n : Nat} : itRefs c (n + 1) = itRefs c n ++ [.ref (c + n)] := by unfold itRefs; rw [List.range_succ, List.map_append]; rfl
structure Its (h h' : Heap) (rows : List Rw) (n : Nat) : Prop where
  size : h'.objs.size = h.objs.size + n
  keep : ∀ c o, h.get? c = some o → h'.get? c = some o
  it : ∀ j r, j < n → rows[j]? = some r → h'.get? (h.objs.size + j) = some (itO r.t r.l)
theorem itO_free (t : Bool) (l : Addr) : (itO t l).isFreed = false := by cases t <;> rfl
theorem iterAll_run (rows : List Rw) (hl : ∀ r ∈ rows, layK r.t s.heap r.l r.its) {Q : List Value → Shared → Prop} (h : ∀ h', Its s.heap h' rows rows.length → Q (itRefs s.heap.objs.size rows.length) { s with heap := h' }) :
    wpAny (model prog w) A (Builtin.SmallTypes.iterAll (rows.map fun r => .ref r.l)) Q E s := by
  unfold Builtin.SmallTypes.iterAll
  refine wpAny_bind (forIn_go _ _ (fun j acc s' => acc.toList = itRefs s.heap.objs.size j ∧ ∃ h', s' = { s with heap := h' } ∧ Its s.heap h' rows j) _ _ ⟨rfl, s.heap, rfl, rfl, fun _ _ e => e, fun j r hj => absurd hj (Nat.not_lt_zero _)⟩ (fun j x acc s' hx hI => ?_) (fun acc s' hI => ?_))
  · obtain ⟨ha, h', rfl, I⟩ := hI
    rw [List.getElem?_map] at hx
    cases hr : rows[j]? with
    | none => rw [hr] at hx; cases hx
    | some r =>
      rw [hr] at hx
      cases hx
      refine wpAny_bind (wpAny_holding ?_)
      have B := Ly.beginsK r.t r.l r.its
      refine B.iter prog w _ _ _ _ (B.keeps _ _ (hl r (List.mem_of_getElem? hr)) I.keep) ?_
      refine wpAny_pure ⟨_, rfl, ?_, _, rfl, ?_, fun c o e => Heap.get?_push_of_some _ (I.keep c o e), fun j' r' hj' hr' => ?_⟩
      · show (acc.push (.ref h'.objs.size)).toList = _
        rw [Array.toList_push, ha, itRefs_succ, I.size]
      · show (h'.push _).objs.size = _
        rw [Heap.size_push, I.size]; rfl
      · by_cases e : j' = j
        · subst e
          rw [hr] at hr'
          cases hr'
          show (h'.push _).get? (s.heap.objs.size + j') = _
          rw [← I.size]
          exact Heap.get?_push_size _ (itO_free _ _)
        · exact Heap.get?_push_of_some _ (I.it j' r' (by omega) hr')
  · obtain ⟨ha, h', rfl, I⟩ := hI
    rw [List.length_map] at ha I
    refine wpAny_pure ?_
    rw [ha]
    exact h h' I
abbrev IsTupL (h : Heap) (T : Addr) (vs : List Value) : Prop := h.get? T = some { cls := .type "tuple", data := .seq vs.toArray }
theorem typeCall (us : List Value) (h : us.length ≤ 5) : checkTypeCall "zip" ⟨us, []⟩ = pure () := by
  match us, h with
  | [], _ => kernel_rfl
  | [_], _ => kernel_rfl
  | [_, _], _ => kernel_rfl
  | [_, _, _], _ => kernel_rfl
  | [_, _, _, _], _ => kernel_rfl
  | [_, _, _, _, _], _ => kernel_rfl
theorem newCall (us : List Value) (h : us.length ≤ 5) : checkBuiltinCall "zip.__new__" ⟨.type "zip" :: us, []⟩ = pure () := by
  match us, h with
  | [], _ => kernel_rfl
  | [_], _ => kernel_rfl
  | [_, _], _ => kernel_rfl
  | [_, _, _], _ => kernel_rfl
  | [_, _, _, _], _ => kernel_rfl
  | [_, _, _, _, _], _ => kernel_rfl
theorem argsInit (obj : Value) (us : List Value) (h : us.length ≤ 5) : argsOk "object.__init__" ⟨obj :: us, []⟩ := by
  match us, h with
  | [], _ => unfold argsOk; kernel_rfl
  | [_], _ => unfold argsOk; kernel_rfl
  | [_, _], _ => unfold argsOk; kernel_rfl
  | [_, _, _], _ => unfold argsOk; kernel_rfl
  | [_, _, _, _], _ => unfold argsOk; kernel_rfl
  | [_, _, _, _, _], _ => unfold argsOk; kernel_rfl
/-- what stands when zip has begun -/
structure Begun (h h' : Heap) (rows : List Rw) (z TI TO : Addr) : Prop where
  keep : ∀ c o, h.get? c = some o → h'.get? c = some o
  big : h.objs.size ≤ z ∧ h.objs.size + rows.length ≤ TI ∧ h.objs.size + rows.length ≤ TO ∧ TI ≠ TO ∧ TI ≠ z ∧ TO ≠ z ∧ h.objs.size + rows.length ≤ z
  zz : IsZip h' z TI TO .none
  ti : IsTupL h' TI (itRefs h.objs.size rows.length)
  to : IsTupL h' TO (List.replicate rows.length .none)
  it : ∀ j r, rows[j]? = some r → h'.get? (h.objs.size + j) = some (itO r.t r.l)
theorem meets_new (rows : List Rw) (h5 : rows.length ≤ 5) : Meets (Builtin.«zip.__new__» ⟨.type "zip" :: rows.map fun r => .ref r.l, []⟩) (fun _ R s => (∀ r ∈ rows, layK r.t s.heap r.l r.its) ∧
    ∀ h' z TI TO, Begun s.heap h' rows z TI TO → R (.ok (.ret (.ref z))) { s with heap := h' }) :=
  .of_wp fun prog w A R s h => by
    obtain ⟨hp, g, d, tk, os⟩ := s
    obtain ⟨hl, h⟩ := h
    have hsub := sub_zip
    have q1 : ∀ {A' : Around} {E : Value → Shared → Prop} {Q : List Value → Shared → Prop}, (∀ h', Its hp h' rows rows.length → Q (itRefs hp.objs.size rows.length) ⟨h', g, d, tk, os⟩) → wpAny (model prog w) A' (Builtin.SmallTypes.iterAll (rows.map fun r => .ref r.l)) Q E ⟨hp, g, d, tk, os⟩ :=
      fun q => iterAll_run (s := ⟨hp, g, d, tk, os⟩) rows hl q
    unfold Builtin.«zip.__new__»
    wp_walk using q1
    intro h' I
    have e0 : (itRefs hp.objs.size rows.length).map (fun _ => Value.none) = List.replicate rows.length Value.none := by
      unfold itRefs
      rw [List.map_map]
      exact List.eq_replicate_iff.mpr ⟨by rw [List.length_map, List.length_range], fun b hb => by
        obtain ⟨_, _, rfl⟩ := List.mem_map.mp hb
        rfl⟩
    have z1 : (itRefs hp.objs.size rows.length).length ≤ sizeLine := by
      unfold itRefs
      rw [List.length_map, List.length_range, sizeLine_eq]; omega
    have z2 : (List.replicate rows.length Value.none).length ≤ sizeLine := by rw [List.length_replicate, sizeLine_eq]; omega
    rw [e0]
    refine wpAny_bind (wpAny_newTuple (hsz := z1) ?_)
    refine wpAny_bind (wpAny_newTuple (hsz := z2) ?_)
    refine wpAny_bind ?_
    unfold Builtin.SmallTypes.newRecord
    dsimp only
    refine wpAny_newObj_type ?_ (by show 5 ≤ sizeLine + 2; decide)
    obtain ⟨t1, ht1⟩ : ∃ t1 : Obj, t1 = { cls := .type "tuple", data := .seq (itRefs hp.objs.size rows.length).toArray } := ⟨_, rfl⟩
    obtain ⟨t2, ht2⟩ : ∃ t2 : Obj, t2 = { cls := .type "tuple", data := .seq (List.replicate rows.length Value.none).toArray } := ⟨_, rfl⟩
    rw [← ht1, ← ht2]
    have f1 : t1.isFreed = false := by rw [ht1]; rfl
    have f2 : t2.isFreed = false := by rw [ht2]; rfl
    have sA : (h'.push t1).objs.size = h'.objs.size + 1 := Heap.size_push ..
    have sB : ((h'.push t1).push t2).objs.size = h'.objs.size + 1 + 1 := by rw [Heap.size_push, sA]
    have s0 := I.size
    have gA := Heap.get?_push_size h' f1
    have gB := Heap.get?_push_size (h'.push t1) f2
    obtain ⟨z, hz⟩ : ∃ z : Obj, z = { cls := .type "zip", dict := none, data := .fields #[.none, .bool false, .bool false, .ref h'.objs.size, .ref (h'.push t1).objs.size], slots := #[] } := ⟨_, rfl⟩
    have f3 : z.isFreed = false := by rw [hz]; rfl
    have gC := Heap.get?_push_size ((h'.push t1).push t2) f3
    refine wpAny_pure ⟨_, rfl, ?_⟩
    show R (.ok (.ret (.ref ((h'.push t1).push t2).objs.size))) ⟨((h'.push t1).push t2).push { cls := .type "zip", dict := none, data := .fields #[.none, .bool false, .bool false, .ref h'.objs.size, .ref (h'.push t1).objs.size], slots := #[] }, g, d, tk, os⟩
    rw [← hz]
    refine h _ _ h'.objs.size (h'.push t1).objs.size ⟨fun c o e => Heap.get?_push_of_some _ (Heap.get?_push_of_some _ (Heap.get?_push_of_some _ (I.keep c o e))), ?_, ?_, ?_, ?_, fun j r hr => Heap.get?_push_of_some _ (Heap.get?_push_of_some _ (Heap.get?_push_of_some _ (I.it j r (List.getElem?_eq_some_iff.mp hr).1 hr)))⟩
    · show hp.objs.size ≤ _ ∧ hp.objs.size + _ ≤ _ ∧ hp.objs.size + _ ≤ _ ∧ _ ∧ _ ∧ _ ∧ hp.objs.size + _ ≤ _
      rw [sB, sA]
      have k : ∀ {a b : Nat}, a < b → ¬ (a = b) := fun h e => Nat.ne_of_lt h e
      exact ⟨by omega, by omega, by omega, k (Nat.lt_succ_self _), k (by omega), k (by omega), by omega⟩
    · rw [hz] at gC
      rw [hz]
      exact gC
    · rw [ht1] at gA
      exact Heap.get?_push_of_some _ (Heap.get?_push_of_some _ (by rw [ht1]; exact gA))
    · rw [ht2] at gB
      exact Heap.get?_push_of_some _ (by rw [ht2]; exact gB)
theorem zip_begins (rows : List Rw) (h5 : rows.length ≤ 5) {Q : Value → Shared → Prop} (hl : ∀ r ∈ rows, layK r.t s.heap r.l r.its) (h : ∀ h' z TI TO, Begun s.heap h' rows z TI TO → Q (.ref z) { s with heap := h' }) :
    wpAny (model prog w) A (call (.type "zip") (rows.map fun r => .ref r.l)) Q E s := by
  have l5 : (rows.map fun r : Rw => Value.ref r.l).length ≤ 5 := by rw [List.length_map]; exact h5
  exact callType_new F.called_zip (by decide) (typeCall _ l5) (newCall _ l5) (fun obj => argsInit obj _ l5) F.entry_zip_new (meets_new rows h5) ⟨hl, fun h' z TI TO B => ⟨⟨_, B.zz, rfl⟩, h h' z TI TO B⟩⟩
end
end LyZip
end PySem

set_option maxHeartbeats 4000000
namespace PySem
namespace LyZip
open Ly (itO layK itSt)
section
variable {prog : Program} {w : World} {A : Around} {E : Value → Shared → Prop} {s : Shared}
/-- the cells of the zip and its rows lie apart -/
structure Ap (rows : List Rw) (z TI TO c : Addr) : Prop where
  TIz : TI ≠ z
  TOz : TO ≠ z
  TIO : TI ≠ TO
  iz : ∀ (j : Nat), j < rows.length → c + j ≠ z
  iT : ∀ (j : Nat), j < rows.length → c + j ≠ TI
  iO : ∀ (j : Nat), j < rows.length → c + j ≠ TO
  lz : ∀ r ∈ rows, r.l ≠ z
  lT : ∀ r ∈ rows, r.l ≠ TI
  lO : ∀ r ∈ rows, r.l ≠ TO
  li : ∀ r ∈ rows, ∀ (j : Nat), j < rows.length → r.l ≠ c + j
/-- the iterators: those before m at i + 1, the others at i -/
def ItAt (rows : List Rw) (c : Addr) (i m : Nat) (h : Heap) : Prop := ∀ (j : Nat) (r : Rw), rows[j]? = some r → itSt r.t h (c + j) r.l (if j < m then i + 1 else i) ∧ layK r.t h r.l r.its
theorem ItAt.same {rows : List Rw} {z TI TO c : Addr} {i m : Nat} {h h' : Heap} {x : Addr} (S : ItAt rows c i m h) (hs : Heap.SameBut x h h') (h1 : ∀ (j : Nat), j < rows.length → c + j ≠ x) (h2 : ∀ r ∈ rows, r.l ≠ x) : ItAt rows c i m h' := fun j r hr => by
  have hj : j < rows.length := (List.getElem?_eq_some_iff.mp hr).1
  obtain ⟨a, b⟩ := S j r hr
  exact ⟨Ly.itSt_at a fun o e => (hs.2 _ (h1 j hj)).trans e, Ly.lay_at b fun o e => (hs.2 _ (h2 r (List.mem_of_getElem? hr))).trans e⟩
theorem ItAt.keep {rows : List Rw} {c : Addr} {i m : Nat} {h h' : Heap} (S : ItAt rows c i m h) (k : ∀ b o, h.get? b = some o → h'.get? b = some o) : ItAt rows c i m h' := fun j r hr => by
  obtain ⟨a, b⟩ := S j r hr
  exact ⟨Ly.itSt_at a fun o e => k _ _ e, Ly.lay_at b fun o e => k _ _ e⟩
/-- one iterator goes on -/
theorem ItAt.next {rows : List Rw} {z TI TO c : Addr} {i m : Nat} {h h' : Heap} {r : Rw} (P : Ap rows z TI TO c) (S : ItAt rows c i m h) (hr : rows[m]? = some r) (st : itSt r.t h' (c + m) r.l (i + 1)) (hs : Heap.SameBut (c + m) h h') : ItAt rows c i (m + 1) h' := fun j r' hr' => by
  have hm : m < rows.length := (List.getElem?_eq_some_iff.mp hr).1
  obtain ⟨a, b⟩ := S j r' hr'
  refine ⟨?_, Ly.lay_at b fun o e => (hs.2 _ (P.li r' (List.mem_of_getElem? hr') m hm)).trans e⟩
  by_cases e : j = m
  · subst e
    rw [hr] at hr'
    cases hr'
    rw [if_pos (Nat.lt_succ_self j)]
    exact st
  · have : (if j < m + 1 then i + 1 else i) = if j < m then i + 1 else i := by
      by_cases q : j < m
      · rw [if_pos q, if_pos (Nat.lt_succ_of_lt q)]
      · rw [if_neg q, if_neg fun z => (Nat.lt_or_eq_of_le (Nat.le_of_lt_succ z)).elim q e]
    rw [this]
    exact Ly.itSt_at a fun o q => (hs.2 _ (fun z => e (Nat.add_left_cancel (show (c : Nat) + j = (c : Nat) + m from z)))).trans q
theorem updateSeq_L {T : Addr} {vs : List Value} {x : Value} {k : Nat} {Q : Unit → Shared → Prop} (hT : IsTupL s.heap T vs) (h5 : vs.length ≤ 5)
    (h : ∀ h', IsTupL h' T (vs.set k x) → Heap.SameBut T s.heap h' → Q () { s with heap := h' }) :
    wpAny (model prog w) A (updateSeq T (·.setIfInBounds k x)) Q E s := by
  refine wpAny_updateSeq hT rfl (h _ ?_ (Heap.SameBut.update ..)) (hz := by rw [List.size_toArray, sizeLine_eq]; omega) (_hz' := by rw [Array.size_setIfInBounds, List.size_toArray, sizeLine_eq]; omega)
  show Heap.get? _ _ = _
  rw [Heap.get?_update_self _ hT rfl]
  simp [Obj.mapSeq]
theorem zipIdx_at {α : Type} {l : List α} {j : Nat} {x : α × Nat} (h : l.zipIdx[j]? = some x) : l[j]? = some x.1 ∧ x.2 = j := by
  rw [List.getElem?_zipIdx] at h
  cases e : l[j]? with
  | none => rw [e] at h; cases h
  | some y => rw [e] at h; cases h; exact ⟨rfl, by simp⟩
theorem itRefs_at {c n j : Nat} {v : Value} (h : (itRefs c n)[j]? = some v) : v = .ref (c + j) ∧ j < n := by
  unfold itRefs at h
  rw [List.getElem?_map] at h
  by_cases hj : j < n
  · rw [List.getElem?_range hj] at h
    exact ⟨(Option.some.inj h).symm, hj⟩
  · rw [List.getElem?_eq_none (by simp; omega)] at h
    cases h
/-- the values of a turn -/
def Vs (rows : List Rw) (i : Nat) (vs : List Value) (m : Nat) : Prop := vs.length = rows.length ∧ ∀ j r, j < m → rows[j]? = some r → ∃ v, r.its[i]? = some v ∧ vs[j]? = some v
theorem next_free (hh : A.handled = none) {rows : List Rw} {z TI TO c : Addr} {i : Nat} {olds : List Value} {Q : Value → Shared → Prop} (P : Ap rows z TI TO c) (h0 : 0 < rows.length) (h5 : rows.length ≤ 5) (hi : ∀ r ∈ rows, i < r.its.size)
    (hz : IsZip s.heap z TI TO .none) (hTI : IsTupL s.heap TI (itRefs c rows.length)) (hO : olds.length = rows.length) (hTO : IsTupL s.heap TO olds) (S : ItAt rows c i 0 s.heap)
    (hQ : ∀ h' tk vs, Vs rows i vs rows.length → IsZipHeld h' z TI TO s.heap.objs.size false → IsTupL h' TI (itRefs c rows.length) → ItAt rows c i rows.length h' → IsTupL h' s.heap.objs.size vs → h'.objs.size = s.heap.objs.size + 1 →
      (∀ b o, b ≠ z → b ≠ TO → (∀ j, j < rows.length → b ≠ c + j) → s.heap.get? b = some o → h'.get? b = some o) → Q (.ref s.heap.objs.size) { s with heap := h', toks := tk }) :
    wpAny (model prog w) A (Builtin.«zip.__next__» ⟨[.ref z], []⟩) (fun fin s' => ∃ v, fin = .done (.ret v) ∧ Q v s') E s := by
  obtain ⟨hp, g, d, tk0, os⟩ := s
  show wpAny _ _ (field (.ref z) 2 >>= _) _ _ _
  refine wpAny_bind (wpAny_field hz rfl (x := .bool false) rfl ?_)
  show wpAny _ _ (field (.ref z) 3 >>= _) _ _ _
  refine wpAny_bind (wpAny_field hz rfl (x := .ref TI) rfl ?_)
  refine wpAny_bind (wpAny_seqItems hTI rfl ?_)
  have hne : (itRefs c rows.length).toArray.isEmpty = false := by
    unfold itRefs
    match rows, h0 with
    | r :: rs, _ => rw [List.length_cons, List.range_succ_eq_map]; rfl
  dsimp only
  rw [hne]
  simp only [Bool.false_eq_true, if_false]
  show wpAny _ _ (Builtin.SmallTypes.ownedTupleIsFree (.ref z) >>= _) _ _ _
  refine wpAny_bind ?_
  unfold Builtin.SmallTypes.ownedTupleIsFree
  refine wpAny_bind (wpAny_field hz rfl (x := .none) rfl (wpAny_pure ?_))
  simp only [if_true]
  refine wpAny_bind (wpAny_rule ?_)
  refine wpAny_bind (wpAny_field hz rfl (x := .ref TO) rfl ?_)
  refine wpAny_bind (wpAny_setField_rec hz (by simp) fun g0 hz0 hs0 => ?_)
  replace hz0 : IsZip g0 z TI TO .ellipsis := hz0
  replace hs0 : Heap.SameBut z hp g0 := hs0
  refine wpAny_bind ?_
  refine forIn_go _ _ (fun m b s' => b.1 = none ∧ ∃ h' tk vs, s' = ⟨h', g, d, tk, os⟩ ∧ IsZip h' z TI TO .ellipsis ∧ IsTupL h' TI (itRefs c rows.length) ∧ IsTupL h' TO vs ∧ Vs rows i vs m ∧ ItAt rows c i m h' ∧ h'.objs.size = hp.objs.size ∧
    ∀ b o, b ≠ z → b ≠ TO → (∀ j, j < rows.length → b ≠ c + j) → hp.get? b = some o → h'.get? b = some o) _ _ ?_ ?_ ?_
  · refine ⟨rfl, g0, tk0, olds, rfl, hz0, (hs0.2 _ P.TIz).trans hTI, (hs0.2 _ P.TOz).trans hTO, ⟨hO, fun j r hj => absurd hj (Nat.not_lt_zero _)⟩, S.same (z := z) (TI := TI) (TO := TO) hs0 P.iz P.lz, hs0.1, fun b o hb _ _ e => (hs0.2 _ hb).trans e⟩
  · rintro m ⟨it, k⟩ b s' hx ⟨hb, h', tk, vs, rfl, q1, q2, q3, q4, q5, q6, q7⟩
    obtain ⟨hx1, hx2⟩ := zipIdx_at hx
    simp only [List.toList_toArray] at hx1
    obtain ⟨e1, hm⟩ := itRefs_at hx1
    simp only at e1 hx2
    subst e1 hx2
    have hr : rows[k]? = some rows[k] := List.getElem?_eq_getElem hm
    have hmem := List.mem_of_getElem? hr
    have D := Ly.drawsK (prog := prog) (w := w) (A := A) rows[k].t hh (c + k) rows[k].l (P.li _ hmem k hm) rows[k].its
    have st := q5 k _ hr
    rw [if_neg (show ¬ k < k by omega)] at st
    refine wpAny_bind (wpAny_onRaise ?_)
    show wpAny _ _ (Builtin.SmallTypes.nextOf (.ref (c + k)) >>= _) _ _ ⟨h', g, d, tk, os⟩
    refine wpAny_bind (D.item i _ _ _ (hi _ hmem) st fun x p1 tk1 hx1 sn1 hp1 => wpAny_pure ?_)
    replace hp1 : Heap.SameBut (c + k) h' p1 := hp1
    have q3' : IsTupL p1 TO vs := (hp1.2 _ (Ne.symm (P.iO k hm))).trans q3
    have lv : vs.length ≤ 5 := by rw [q4.1]; exact h5
    refine wpAny_bind (wpAny_seqItems (s := ⟨p1, g, d, tk1, os⟩) q3' rfl ?_)
    refine wpAny_bind (updateSeq_L (s := ⟨p1, g, d, tk1, os⟩) q3' lv fun g1 hT1 hs1 => ?_)
    replace hs1 : Heap.SameBut TO p1 g1 := hs1
    refine wpAny_bind (wpAny_letGo (wpAny_pure ?_))
    refine ⟨_, rfl, rfl, g1, tk1, vs.set k x, rfl, (hs1.2 _ (Ne.symm P.TOz)).trans ((hp1.2 _ (Ne.symm (P.iz k hm))).trans q1), (hs1.2 _ P.TIO).trans ((hp1.2 _ (Ne.symm (P.iT k hm))).trans q2), hT1, ⟨by rw [List.length_set]; exact q4.1, fun j r hj hr' => ?_⟩,
      (q5.next P hr sn1.1 hp1).same (z := z) (TI := TI) (TO := TO) hs1 P.iO P.lO, by rw [hs1.1, hp1.1, q6], fun b o b1 b2 b3 e => (hs1.2 _ b2).trans ((hp1.2 _ (b3 k hm)).trans (q7 b o b1 b2 b3 e))⟩
    by_cases e : j = k
    · subst e
      rw [hr] at hr'
      cases hr'
      exact ⟨x, hx1, by rw [List.getElem?_set_self (by rw [q4.1]; exact hm)]⟩
    · obtain ⟨v, v1, v2⟩ := q4.2 j r (by omega) hr'
      exact ⟨v, v1, by rw [List.getElem?_set_ne (Ne.symm e)]; exact v2⟩
  · rintro ⟨b1, b2⟩ s' ⟨hb, h', tk, vs, rfl, q1, q2, q3, q4, q5, q6, q7⟩
    simp only at hb
    subst hb
    simp only [List.toList_toArray, List.length_zipIdx] at q4 q5
    have ln : (itRefs c rows.length).length = rows.length := by unfold itRefs; rw [List.length_map, List.length_range]
    rw [ln] at q4 q5
    have lv : vs.length ≤ sizeLine := by rw [q4.1, sizeLine_eq]; omega
    dsimp only
    refine wpAny_bind (wpAny_seqItems (s := ⟨h', g, d, tk, os⟩) q3 rfl ?_)
    refine wpAny_bind (wpAny_newTuple (hsz := by simpa using lv) ?_)
    show wpAny _ _ (Builtin.SmallTypes.ownedTupleHandOut (.ref z) (.ref h'.objs.size) >>= _) _ _ ⟨h'.push { cls := .type "tuple", data := .seq (vs.toArray.toList).toArray }, g, d, tk, os⟩
    refine wpAny_bind ?_
    unfold Builtin.SmallTypes.ownedTupleHandOut
    rw [List.toList_toArray]
    have z6 : IsZip (h'.push { cls := .type "tuple", data := .seq vs.toArray }) z TI TO .ellipsis := Heap.get?_push_of_some _ q1
    refine wpAny_bind (wpAny_setField_rec z6 (by simp) fun h7 z7 s7 => ?_)
    replace z7 : IsZip h7 z TI TO (rawInt h'.objs.size) := z7
    refine wpAny_setField_rec z7 (by simp) fun h8 z8 s8 => ?_
    replace z8 : IsZip h8 z TI TO (rawInt h'.objs.size) := z8
    replace s7 : Heap.SameBut z (h'.push { cls := .type "tuple", data := .seq vs.toArray }) h7 := s7
    replace s8 : Heap.SameBut z h7 h8 := s8
    have zlt : z < h'.objs.size := Heap.lt_size q1
    have up : ∀ b o, b ≠ z → h'.get? b = some o → h8.get? b = some o := fun b o hb e => (s8.2 _ hb).trans ((s7.2 _ hb).trans (Heap.get?_push_of_some _ e))
    have T8 : IsTupL h8 h'.objs.size vs := (s8.2 _ (Nat.ne_of_gt zlt)).trans ((s7.2 _ (Nat.ne_of_gt zlt)).trans (Heap.get?_push_size _ rfl))
    have sz8 : h8.objs.size = h'.objs.size + 1 := by rw [s8.1, s7.1, Heap.size_push]
    rw [q6] at z8 T8 sz8
    refine wpAny_pure ⟨_, rfl, ?_⟩
    show Q (.ref h'.objs.size) ⟨h8, g, d, tk, os⟩
    rw [q6]
    have it8 : ItAt rows c i rows.length h8 := fun j r hr => by
      have hj : j < rows.length := (List.getElem?_eq_some_iff.mp hr).1
      obtain ⟨a, b⟩ := q5 j r hr
      exact ⟨Ly.itSt_at a fun o e => up _ _ (P.iz j hj) e, Ly.lay_at b fun o e => up _ _ (P.lz r (List.mem_of_getElem? hr)) e⟩
    exact hQ h8 tk vs q4 z8 (up _ _ P.TIz q2) it8 T8 sz8 fun b o b1 b2 b3 e => up b o b1 (q7 b o b1 b2 b3 e)
end
end LyZip
end PySem

set_option maxHeartbeats 4000000
namespace PySem
namespace LyZip
open Ly (itO layK itSt)
section
variable {prog : Program} {w : World} {A : Around} {E : Value → Shared → Prop} {s : Shared}
theorem itRefs_ne {c n : Nat} (h : 0 < n) : (itRefs c n).toArray.isEmpty = false := by
  unfold itRefs
  match n, h with
  | n + 1, _ => rw [List.range_succ_eq_map]; rfl
theorem next_held (hh : A.handled = none) {rows : List Rw} {z TI TO c T : Addr} {f : Bool} {oT : Obj} {i : Nat} {Q : Value → Shared → Prop} (P : Ap rows z TI TO c) (h0 : 0 < rows.length) (h5 : rows.length ≤ 5) (hi : ∀ r ∈ rows, i < r.its.size)
    (hz : IsZipHeld s.heap z TI TO T f) (hT : s.heap.get? T = some oT) (hTI : IsTupL s.heap TI (itRefs c rows.length)) (S : ItAt rows c i 0 s.heap)
    (hQ : ∀ h' tk vs, Vs rows i vs rows.length → IsZipHeld h' z TI TO T true → IsTupL h' TI (itRefs c rows.length) → ItAt rows c i rows.length h' → IsTupL h' s.heap.objs.size vs → h'.objs.size = s.heap.objs.size + 1 →
      (∀ b o, b ≠ z → (∀ (j : Nat), j < rows.length → b ≠ c + j) → s.heap.get? b = some o → h'.get? b = some o) → Q (.ref s.heap.objs.size) { s with heap := h', toks := tk }) :
    wpAny (model prog w) A (Builtin.«zip.__next__» ⟨[.ref z], []⟩) (fun fin s' => ∃ v, fin = .done (.ret v) ∧ Q v s') E s := by
  obtain ⟨hp, g, d, tk0, os⟩ := s
  show wpAny _ _ (field (.ref z) 2 >>= _) _ _ _
  refine wpAny_bind (wpAny_field hz rfl (x := .bool false) rfl ?_)
  show wpAny _ _ (field (.ref z) 3 >>= _) _ _ _
  refine wpAny_bind (wpAny_field hz rfl (x := .ref TI) rfl ?_)
  refine wpAny_bind (wpAny_seqItems hTI rfl ?_)
  dsimp only
  rw [itRefs_ne h0]
  simp only [Bool.false_eq_true, if_false]
  show wpAny _ _ (Builtin.SmallTypes.ownedTupleIsFree (.ref z) >>= _) _ _ _
  refine wpAny_bind (wpAny_tupleHeld_zip hz hT fun g0 hz0 hs0 => ?_)
  replace hs0 : Heap.SameBut z hp g0 := hs0
  simp only [Bool.false_eq_true, if_false]
  refine wpAny_bind ?_
  rw [← Array.forIn_toList]
  refine forIn_go _ _ (fun m b s' => b.1 = none ∧ ∃ h' tk vs, s' = ⟨h', g, d, tk, os⟩ ∧ b.2.toList = vs ∧ vs.length = m ∧ (∀ (j : Nat) (r : Rw), j < m → rows[j]? = some r → ∃ v, r.its[i]? = some v ∧ vs[j]? = some v) ∧ IsZipHeld h' z TI TO T true ∧ IsTupL h' TI (itRefs c rows.length) ∧ ItAt rows c i m h' ∧ h'.objs.size = hp.objs.size ∧
    ∀ b o, b ≠ z → (∀ (j : Nat), j < rows.length → b ≠ c + j) → hp.get? b = some o → h'.get? b = some o) _ _ ?_ ?_ ?_
  · exact ⟨rfl, g0, tk0, [], rfl, rfl, rfl, fun j r hj => absurd hj (Nat.not_lt_zero _), hz0, (hs0.2 _ P.TIz).trans hTI, S.same (z := z) (TI := TI) (TO := TO) hs0 P.iz P.lz, hs0.1, fun b o hb _ e => (hs0.2 _ hb).trans e⟩
  · rintro k it b s' hx ⟨hb, h', tk, vs, rfl, q0, q1, q2, q3, q4, q5, q6, q7⟩
    simp only [List.toList_toArray] at hx
    obtain ⟨e1, hm⟩ := itRefs_at hx
    subst e1
    have hr : rows[k]? = some rows[k] := List.getElem?_eq_getElem hm
    have hmem := List.mem_of_getElem? hr
    have D := Ly.drawsK (prog := prog) (w := w) (A := A) rows[k].t hh (c + k) rows[k].l (P.li _ hmem k hm) rows[k].its
    have st := q5 k _ hr
    rw [if_neg (show ¬ k < k by omega)] at st
    refine wpAny_bind (wpAny_holding ?_)
    show wpAny _ _ (Builtin.SmallTypes.nextOf (.ref (c + k)) >>= _) _ _ ⟨h', g, d, tk, os⟩
    refine wpAny_bind (D.item i _ _ _ (hi _ hmem) st fun x p1 tk1 hx1 sn1 hp1 => wpAny_pure ?_)
    replace hp1 : Heap.SameBut (c + k) h' p1 := hp1
    refine wpAny_pure ⟨_, rfl, rfl, p1, tk1, vs ++ [x], rfl, ?_, by rw [List.length_append, q1]; rfl, fun j r hj hr' => ?_, (hp1.2 _ (Ne.symm (P.iz k hm))).trans q3, (hp1.2 _ (Ne.symm (P.iT k hm))).trans q4, q5.next P hr sn1.1 hp1, by rw [hp1.1, q6], fun b o b1 b3 e => (hp1.2 _ (b3 k hm)).trans (q7 b o b1 b3 e)⟩
    · show (b.2.push x).toList = _
      rw [Array.toList_push, q0]
    · by_cases e : j = k
      · subst e
        rw [hr] at hr'
        cases hr'
        exact ⟨x, hx1, by rw [List.getElem?_append_right (Nat.le_of_eq q1), q1, Nat.sub_self]; rfl⟩
      · have hj' : j < k := by omega
        obtain ⟨v, v1, v2⟩ := q2 j r hj' hr'
        exact ⟨v, v1, by rw [List.getElem?_append_left (by rw [q1]; exact hj')]; exact v2⟩
  · rintro ⟨b1, b2⟩ s' ⟨hb, h', tk, vs, rfl, q0, q1, q2, q3, q4, q5, q6, q7⟩
    simp only at hb q0
    subst hb
    simp only [List.toList_toArray] at q1 q2 q5
    have ln : (itRefs c rows.length).length = rows.length := by unfold itRefs; rw [List.length_map, List.length_range]
    rw [ln] at q1 q2 q5
    have lv : vs.length ≤ sizeLine := by rw [q1, sizeLine_eq]; omega
    dsimp only
    rw [q0]
    refine wpAny_bind (wpAny_newTuple (hsz := lv) ?_)
    have T8 : IsTupL (h'.push { cls := .type "tuple", data := .seq vs.toArray }) h'.objs.size vs := Heap.get?_push_size _ rfl
    have sz8 : (h'.push { cls := .type "tuple", data := .seq vs.toArray }).objs.size = h'.objs.size + 1 := Heap.size_push ..
    rw [q6] at T8 sz8
    refine wpAny_pure ⟨_, rfl, ?_⟩
    show Q (.ref h'.objs.size) ⟨h'.push { cls := .type "tuple", data := .seq vs.toArray }, g, d, tk, os⟩
    rw [q6]
    exact hQ _ tk vs ⟨q1, q2⟩ (Heap.get?_push_of_some _ q3) (Heap.get?_push_of_some _ q4) (q5.keep fun b o e => Heap.get?_push_of_some _ e) T8 sz8 fun b o b1 b3 e => Heap.get?_push_of_some _ (q7 b o b1 b3 e)
/-- the end, the last tuple out -/
theorem end_held (hh : A.handled = none) {rows : List Rw} {z TI TO c T : Addr} {f : Bool} {oT : Obj} {i : Nat} {Q : Fin → Shared → Prop} (P : Ap rows z TI TO c) (h0 : 0 < rows.length) (hi : ∀ r ∈ rows, i = r.its.size)
    (hz : IsZipHeld s.heap z TI TO T f) (hT : s.heap.get? T = some oT) (hTI : IsTupL s.heap TI (itRefs c rows.length)) (S : ItAt rows c i 0 s.heap)
    (hE : ∀ h' e, (∀ b o, b ≠ z → b ≠ TO → (∀ (j : Nat), j < rows.length → b ≠ c + j) → s.heap.get? b = some o → h'.get? b = some o) → (∃ o, h'.get? e = some o ∧ o.cls = .type "StopIteration") → E (.ref e) { s with heap := h' }) :
    wpAny (model prog w) A (Builtin.«zip.__next__» ⟨[.ref z], []⟩) Q E s := by
  obtain ⟨hp, g, d, tk0, os⟩ := s
  show wpAny _ _ (field (.ref z) 2 >>= _) _ _ _
  refine wpAny_bind (wpAny_field hz rfl (x := .bool false) rfl ?_)
  show wpAny _ _ (field (.ref z) 3 >>= _) _ _ _
  refine wpAny_bind (wpAny_field hz rfl (x := .ref TI) rfl ?_)
  refine wpAny_bind (wpAny_seqItems hTI rfl ?_)
  dsimp only
  rw [itRefs_ne h0]
  simp only [Bool.false_eq_true, if_false]
  show wpAny _ _ (Builtin.SmallTypes.ownedTupleIsFree (.ref z) >>= _) _ _ _
  refine wpAny_bind (wpAny_tupleHeld_zip hz hT fun g0 hz0 hs0 => ?_)
  replace hs0 : Heap.SameBut z hp g0 := hs0
  simp only [Bool.false_eq_true, if_false]
  refine wpAny_bind ?_
  rw [← Array.forIn_toList]
  match rows, h0 with
  | r :: rest, _ =>
    have e1 : itRefs c (r :: rest).length = .ref (c + 0) :: (List.range rest.length).map fun j => .ref (c + (j + 1)) := by
      unfold itRefs
      rw [List.length_cons, List.range_succ_eq_map, List.map_cons, List.map_map]
      rfl
    rw [e1, List.toList_toArray]
    simp only [List.forIn_cons]
    have D := Ly.drawsK (prog := prog) (w := w) (A := A) r.t hh (c + 0) r.l (P.li r List.mem_cons_self 0 (Nat.succ_pos _)) r.its
    obtain ⟨st1, st2⟩ := (S.same (z := z) (TI := TI) (TO := TO) hs0 P.iz P.lz) 0 r rfl
    rw [if_neg (Nat.lt_irrefl 0), hi r List.mem_cons_self] at st1
    refine wpAny_bind (wpAny_bind (wpAny_holding ?_))
    show wpAny _ _ (Builtin.SmallTypes.nextOf (.ref (c + 0)) >>= _) _ _ ⟨g0, g, d, tk0, os⟩
    refine wpAny_bind (D.done _ _ _ ⟨st1, st2⟩ fun h2 e hs2 he => ?_)
    exact hE h2 e (fun b o b1 _ b3 x => hs2 _ _ (b3 0 (Nat.succ_pos _)) ((hs0.2 _ b1).trans x)) he
/-- the end at once -/
theorem end_free (hh : A.handled = none) {rows : List Rw} {z TI TO c : Addr} {i : Nat} {olds : List Value} {Q : Fin → Shared → Prop} (P : Ap rows z TI TO c) (h0 : 0 < rows.length) (hi : ∀ r ∈ rows, i = r.its.size)
    (hz : IsZip s.heap z TI TO .none) (hTI : IsTupL s.heap TI (itRefs c rows.length)) (hTO : IsTupL s.heap TO olds) (S : ItAt rows c i 0 s.heap)
    (hE : ∀ h' e, (∀ b o, b ≠ z → b ≠ TO → (∀ (j : Nat), j < rows.length → b ≠ c + j) → s.heap.get? b = some o → h'.get? b = some o) → (∃ o, h'.get? e = some o ∧ o.cls = .type "StopIteration") → E (.ref e) { s with heap := h' }) :
    wpAny (model prog w) A (Builtin.«zip.__next__» ⟨[.ref z], []⟩) Q E s := by
  obtain ⟨hp, g, d, tk0, os⟩ := s
  show wpAny _ _ (field (.ref z) 2 >>= _) _ _ _
  refine wpAny_bind (wpAny_field hz rfl (x := .bool false) rfl ?_)
  show wpAny _ _ (field (.ref z) 3 >>= _) _ _ _
  refine wpAny_bind (wpAny_field hz rfl (x := .ref TI) rfl ?_)
  refine wpAny_bind (wpAny_seqItems hTI rfl ?_)
  dsimp only
  rw [itRefs_ne h0]
  simp only [Bool.false_eq_true, if_false]
  show wpAny _ _ (Builtin.SmallTypes.ownedTupleIsFree (.ref z) >>= _) _ _ _
  refine wpAny_bind ?_
  unfold Builtin.SmallTypes.ownedTupleIsFree
  refine wpAny_bind (wpAny_field hz rfl (x := .none) rfl (wpAny_pure ?_))
  simp only [if_true]
  refine wpAny_bind (wpAny_rule ?_)
  refine wpAny_bind (wpAny_field hz rfl (x := .ref TO) rfl ?_)
  refine wpAny_bind (wpAny_setField_rec hz (by simp) fun g0 hz0 hs0 => ?_)
  replace hz0 : IsZip g0 z TI TO .ellipsis := hz0
  replace hs0 : Heap.SameBut z hp g0 := hs0
  refine wpAny_bind ?_
  match rows, h0 with
  | r :: rest, _ =>
    have e1 : itRefs c (r :: rest).length = .ref (c + 0) :: (List.range rest.length).map fun j => .ref (c + (j + 1)) := by
      unfold itRefs
      rw [List.length_cons, List.range_succ_eq_map, List.map_cons, List.map_map]
      rfl
    rw [e1]
    simp only [List.zipIdx_cons, List.forIn_cons]
    have D := Ly.drawsK (prog := prog) (w := w) (A := A) r.t hh (c + 0) r.l (P.li r List.mem_cons_self 0 (Nat.succ_pos _)) r.its
    obtain ⟨st1, st2⟩ := (S.same (z := z) (TI := TI) (TO := TO) hs0 P.iz P.lz) 0 r rfl
    rw [if_neg (Nat.lt_irrefl 0), hi r List.mem_cons_self] at st1
    refine wpAny_bind (wpAny_bind (wpAny_onRaise ?_))
    show wpAny _ _ (Builtin.SmallTypes.nextOf (.ref (c + 0)) >>= _) _ _ ⟨g0, g, d, tk0, os⟩
    refine wpAny_bind (D.done _ _ _ ⟨st1, st2⟩ fun h2 e hs2 he => ?_)
    obtain ⟨oe, hoe, hce⟩ := he
    have hz2 : IsZip h2 z TI TO .ellipsis := hs2 _ _ (Ne.symm (P.iz 0 (Nat.succ_pos _))) hz0
    have hez : e ≠ z := fun x => by subst x; rw [hz2] at hoe; cases hoe; simp at hce
    refine wpAny_setField_rec hz2 (by simp) fun h3 _ hs3 => hE h3 e (fun b o b1 _ b3 x => (hs3.2 _ b1).trans (hs2 _ _ (b3 0 (Nat.succ_pos _)) ((hs0.2 _ b1).trans x))) ⟨oe, (hs3.2 _ hez).trans hoe, hce⟩
/-- no rows at all -/
theorem end_none (hh : A.handled = none) {z TI TO : Addr} {Q : Fin → Shared → Prop} (hz' : IsZip s.heap z TI TO .none ∨ ∃ T f, IsZipHeld s.heap z TI TO T f) (hTI : IsTupL s.heap TI [])
    (hE : ∀ h' e, (∀ b o, s.heap.get? b = some o → h'.get? b = some o) → (∃ o, h'.get? e = some o ∧ o.cls = .type "StopIteration") → E (.ref e) { s with heap := h' }) :
    wpAny (model prog w) A (Builtin.«zip.__next__» ⟨[.ref z], []⟩) Q E s := by
  obtain ⟨f0, f1, hz⟩ : ∃ f0 f1, s.heap.get? z = some ({ cls := .type "zip", dict := none, data := .fields #[f0, .bool f1, .bool false, .ref TI, .ref TO], slots := #[] } : Obj) := by
    rcases hz' with hz | ⟨T, f, hz⟩
    · exact ⟨_, _, hz⟩
    · exact ⟨_, _, hz⟩
  show wpAny _ _ (field (.ref z) 2 >>= _) _ _ _
  refine wpAny_bind (wpAny_field hz rfl (x := .bool false) rfl ?_)
  show wpAny _ _ (field (.ref z) 3 >>= _) _ _ _
  refine wpAny_bind (wpAny_field hz rfl (x := .ref TI) rfl ?_)
  refine wpAny_bind (wpAny_seqItems hTI rfl ?_)
  dsimp only
  rw [if_pos (by rfl)]
  refine wpAny_bind (wpAny_rule (wpAny_bind ?_))
  show wpAny _ _ (newExc (.type "StopIteration") [] >>= _) _ _ _
  refine wpAny_bind ?_
  simp only [newExc, newTuple]
  refine wpAny_bind (wpAny_newObj_type ?_ (by size_fits))
  refine wpAny_bind (m := firstArgMember _ _) (wpAny_of_eq (a := Value.none) (by first | rfl | (simp only [firstArgMember]; rfl)) ?_)
  refine wpAny_newObj_type ?_ (by size_fits)
  simp only [raiseNew]
  refine wpAny_bind (wpAny_handled ?_)
  first | rw [show A.in1.handled = none from hh] | rw [hh]
  refine wpAny_bind (wpAny_pure (wpAny_throw ?_))
  exact hE _ _ (fun b o e => Heap.get?_push_of_some _ (Heap.get?_push_of_some _ e)) ⟨_, Heap.get?_push_size _ rfl, rfl⟩
end
end LyZip
end PySem

set_option maxHeartbeats 4000000
namespace PySem
namespace F
theorem zip_no_len : typeLookup (.type "zip") "__len__" = pure none := by rw [typeLookup_type, builtinLookup_eq_fast]; kernel_rfl
theorem zip_no_hint : typeLookup (.type "zip") "__length_hint__" = pure none := by rw [typeLookup_type, builtinLookup_eq_fast]; kernel_rfl
end F
namespace LyZip
open Ly (itO layK itSt)
section
variable {prog : Program} {w : World} {A : Around} {E : Value → Shared → Prop} {s : Shared}
/-- a cell that the walk does not write -/
def Off (n : Nat) (z TO c b : Addr) : Prop := b ≠ z ∧ b ≠ TO ∧ ∀ (j : Nat), j < n → b ≠ c + j
structure Low (n : Nat) (z TI TO c N : Addr) : Prop where
  z : z < N
  TI : TI < N
  TO : TO < N
  c : c + n ≤ N
theorem Low.off {n : Nat} {z TI TO c N : Addr} (L : Low n z TI TO c N) {b : Addr} (hb : N ≤ b) : Off n z TO c b :=
  ⟨fun e => by have := L.z; rw [e] at hb; exact Nat.not_le_of_lt this hb, fun e => by have := L.TO; rw [e] at hb; exact Nat.not_le_of_lt this hb, fun j hj e => by
    have := L.c; rw [e] at hb; exact Nat.not_le_of_lt (Nat.lt_of_lt_of_le (Nat.add_lt_add_left hj c) this) hb⟩
/-- the zip has told i tuples, at N, N + 1, .. -/
structure ZAt (rows : List Rw) (z TI TO c N : Addr) (i : Nat) (h : Heap) : Prop where
  st : (i = 0 ∧ IsZip h z TI TO .none ∧ ∃ olds : List Value, olds.length = rows.length ∧ IsTupL h TO olds) ∨ ∃ T f o, IsZipHeld h z TI TO T f ∧ h.get? T = some o
  ti : IsTupL h TI (itRefs c rows.length)
  it : ItAt rows c i 0 h
  sz : h.objs.size = N + i
  out : ∀ j, j < i → ∃ vs, IsTupL h (N + j) vs ∧ Vs rows j vs rows.length
theorem ZAt.typ {rows : List Rw} {z TI TO c N : Addr} {i : Nat} (Z : ZAt rows z TI TO c N i s.heap) : s.TypeIs (.ref z) "zip" := by
  rcases Z.st with ⟨_, hz, _⟩ | ⟨T, f, o, hz, _⟩
  · exact ⟨_, hz, rfl⟩
  · exact ⟨_, hz, rfl⟩
theorem ItAt.turn {rows : List Rw} {c : Addr} {i : Nat} {h : Heap} (S : ItAt rows c i rows.length h) : ItAt rows c (i + 1) 0 h := fun j r hr => by
  obtain ⟨a, b⟩ := S j r hr
  rw [if_pos (List.getElem?_eq_some_iff.mp hr).1] at a
  rw [if_neg (Nat.not_lt_zero j)]
  exact ⟨a, b⟩
theorem zat_next (hh : A.handled = none) {rows : List Rw} {z TI TO c N : Addr} {i : Nat} {Q : Option Value → Shared → Prop} (P : Ap rows z TI TO c) (h0 : 0 < rows.length) (h5 : rows.length ≤ 5) (hi : ∀ r ∈ rows, i < r.its.size) (L : Low rows.length z TI TO c N)
    (Z : ZAt rows z TI TO c N i s.heap) (hQ : ∀ h' tk, ZAt rows z TI TO c N (i + 1) h' → (∀ b o, Off rows.length z TO c b → s.heap.get? b = some o → h'.get? b = some o) → Q (some (.ref (N + i))) { s with heap := h', toks := tk }) :
    wpAny (model prog w) A (pyNext (.ref z)) Q E s := by
  have hTy := Z.typ
  have out : ∀ h' vs, IsTupL h' s.heap.objs.size vs → Vs rows i vs rows.length → (∀ b o, Off rows.length z TO c b → s.heap.get? b = some o → h'.get? b = some o) → ∀ j, j < i + 1 → ∃ vs, IsTupL h' (N + j) vs ∧ Vs rows j vs rows.length := fun h' vs t v k j hj => by
    by_cases e : j = i
    · subst e
      rw [Z.sz] at t
      exact ⟨vs, t, v⟩
    · obtain ⟨vs', t', v'⟩ := Z.out j (by omega)
      exact ⟨vs', k _ _ (L.off (Nat.le_add_right _ _)) t', v'⟩
  have hI : N + i = s.heap.objs.size := Z.sz.symm
  unfold pyNext
  rcases Z.st with ⟨e0, hz, olds, hO, hTO⟩ | ⟨T, f, o, hz, hT⟩
  · refine wpAny_bind (wpAny_attempt (wpAny_callSpecial?_slot (name := Str.ofString "__next__") hTy F.slot_zip_next (wpAny_call_entry F.slot_zip_next hTy F.entry_zip_next
      (next_free (A := A.in1) hh P h0 h5 hi hz Z.ti hO hTO Z.it fun h' tk vs q1 q2 q3 q4 q5 q6 q7 => wpAny_pure ?_) (F.args_zip_next_1 _))))
    rw [← hI]
    have k : ∀ b o, Off rows.length z TO c b → s.heap.get? b = some o → h'.get? b = some o := fun b o f e => q7 b o f.1 f.2.1 f.2.2 e
    exact hQ h' tk ⟨.inr ⟨_, _, _, q2, q5⟩, q3, q4.turn, by rw [q6, ← hI]; rfl, out h' vs q5 q1 k⟩ k
  · refine wpAny_bind (wpAny_attempt (wpAny_callSpecial?_slot (name := Str.ofString "__next__") hTy F.slot_zip_next (wpAny_call_entry F.slot_zip_next hTy F.entry_zip_next
      (next_held (A := A.in1) hh P h0 h5 hi hz hT Z.ti Z.it fun h' tk vs q1 q2 q3 q4 q5 q6 q7 => wpAny_pure ?_) (F.args_zip_next_1 _))))
    rw [← hI]
    have k : ∀ b o, Off rows.length z TO c b → s.heap.get? b = some o → h'.get? b = some o := fun b o f e => q7 b o f.1 f.2.2 e
    have hT' : ∃ o', h'.get? T = some o' := by
      by_cases e1 : T = z
      · subst e1
        exact ⟨_, q2⟩
      · by_cases e2 : ∃ (j : Nat), j < rows.length ∧ T = c + j
        · obtain ⟨j, hj, rfl⟩ := e2
          obtain ⟨a, _⟩ := q4 j _ (List.getElem?_eq_getElem hj)
          obtain ⟨o', _, e, _⟩ := Ly.itSt_obj a
          exact ⟨o', e⟩
        · exact ⟨_, q7 T o e1 (fun j hj e => e2 ⟨j, hj, e⟩) hT⟩
    obtain ⟨o', ho'⟩ := hT'
    exact hQ h' tk ⟨.inr ⟨_, _, _, q2, ho'⟩, q3, q4.turn, by rw [q6, ← hI]; rfl, out h' vs q5 q1 k⟩ k
theorem zat_done (hh : A.handled = none) {rows : List Rw} {z TI TO c N : Addr} {i : Nat} {Q : Option Value → Shared → Prop} (P : Ap rows z TI TO c) (hi : ∀ r ∈ rows, i = r.its.size) (h00 : rows.length = 0 → i = 0)
    (Z : ZAt rows z TI TO c N i s.heap) (hQ : ∀ h', (∀ b o, Off rows.length z TO c b → s.heap.get? b = some o → h'.get? b = some o) → Q none { s with heap := h' }) :
    wpAny (model prog w) A (pyNext (.ref z)) Q E s := by
  have hTy := Z.typ
  unfold pyNext
  by_cases h0 : 0 < rows.length
  · rcases Z.st with ⟨e0, hz, olds, hO, hTO⟩ | ⟨T, f, o, hz, hT⟩
    · refine wpAny_bind (wpAny_attempt (wpAny_callSpecial?_slot (name := Str.ofString "__next__") hTy F.slot_zip_next (wpAny_call_entry F.slot_zip_next hTy F.entry_zip_next
        (end_free (A := A.in1) hh P h0 hi hz Z.ti hTO Z.it fun h' e q1 q2 => ?_) (F.args_zip_next_1 _))))
      obtain ⟨o, ho, hc⟩ := q2
      refine wpAny_bind (wpAny_isInstance (T := "StopIteration") (b := true) ⟨o, ho, hc⟩ isSubtype_stop ?_)
      exact wpAny_pure (hQ _ fun b o f e => q1 b o f.1 f.2.1 f.2.2 e)
    · refine wpAny_bind (wpAny_attempt (wpAny_callSpecial?_slot (name := Str.ofString "__next__") hTy F.slot_zip_next (wpAny_call_entry F.slot_zip_next hTy F.entry_zip_next
        (end_held (A := A.in1) hh P h0 hi hz hT Z.ti Z.it fun h' e q1 q2 => ?_) (F.args_zip_next_1 _))))
      obtain ⟨o, ho, hc⟩ := q2
      refine wpAny_bind (wpAny_isInstance (T := "StopIteration") (b := true) ⟨o, ho, hc⟩ isSubtype_stop ?_)
      exact wpAny_pure (hQ _ fun b o f e => q1 b o f.1 f.2.1 f.2.2 e)
  · have e0 : rows.length = 0 := by omega
    have hTI := Z.ti
    rw [e0] at hTI
    rcases Z.st with ⟨_, hz, olds, hO, hTO⟩ | ⟨T, f, o, hz, hT⟩
    · refine wpAny_bind (wpAny_attempt (wpAny_callSpecial?_slot (name := Str.ofString "__next__") hTy F.slot_zip_next (wpAny_call_entry F.slot_zip_next hTy F.entry_zip_next
        (end_none (A := A.in1) hh (TO := TO) (.inl hz) hTI fun h' e q1 q2 => ?_) (F.args_zip_next_1 _))))
      obtain ⟨o, ho, hc⟩ := q2
      refine wpAny_bind (wpAny_isInstance (T := "StopIteration") (b := true) ⟨o, ho, hc⟩ isSubtype_stop ?_)
      exact wpAny_pure (hQ _ fun b o f e => q1 b o e)
    · refine wpAny_bind (wpAny_attempt (wpAny_callSpecial?_slot (name := Str.ofString "__next__") hTy F.slot_zip_next (wpAny_call_entry F.slot_zip_next hTy F.entry_zip_next
        (end_none (A := A.in1) hh (TO := TO) (.inr ⟨T, f, hz⟩) hTI fun h' e q1 q2 => ?_) (F.args_zip_next_1 _))))
      obtain ⟨o, ho, hc⟩ := q2
      refine wpAny_bind (wpAny_isInstance (T := "StopIteration") (b := true) ⟨o, ho, hc⟩ isSubtype_stop ?_)
      exact wpAny_pure (hQ _ fun b o f e => q1 b o e)
end
end LyZip
end PySem

set_option maxHeartbeats 4000000
namespace PySem
namespace LyZip
open Ly (itO layK itSt)
section
variable {prog : Program} {w : World} {A : Around} {E : Value → Shared → Prop} {s : Shared}
/-- what the walk keeps -/
def Kp (n : Nat) (S z TO c : Addr) (h h' : Heap) : Prop := ∀ b o, b ≠ S → Off n z TO c b → h.get? b = some o → h'.get? b = some o
/-- the tuples told stand in h -/
def Told (rows : List Rw) (N n : Nat) (h : Heap) : Prop := ∀ j, j < n → ∃ vs, IsTupL h (N + j) vs ∧ Vs rows j vs rows.length
theorem zat_same {rows : List Rw} {z TI TO c N S : Addr} {i : Nat} {h h' : Heap} (Z : ZAt rows z TI TO c N i h) (P : Ap rows z TI TO c) (hs : Heap.SameBut S h h') (hSz : S ≠ z) (hST : S ≠ TI) (hSO : S ≠ TO) (hSN : S < N) (hSc : ∀ (j : Nat), j < rows.length → c + j ≠ S) (hSl : ∀ r ∈ rows, r.l ≠ S) (hSa : ∃ o, h'.get? S = some o) : ZAt rows z TI TO c N i h' := by
  have k : ∀ b o, b ≠ S → h.get? b = some o → h'.get? b = some o := fun b o hb e => (hs.2 _ hb).trans e
  refine ⟨?_, k _ _ (Ne.symm hST) Z.ti, Z.it.same (z := z) (TI := TI) (TO := TO) hs hSc hSl, by rw [hs.1]; exact Z.sz, fun j hj => ?_⟩
  · rcases Z.st with ⟨e0, hz, olds, hO, hTO⟩ | ⟨T, f, o, hz, hT⟩
    · exact .inl ⟨e0, k _ _ (Ne.symm hSz) hz, olds, hO, k _ _ (Ne.symm hSO) hTO⟩
    · by_cases e : T = S
      · subst e
        obtain ⟨o', ho'⟩ : ∃ o', h'.get? T = some o' := hSa
        exact .inr ⟨T, f, o', k _ _ (Ne.symm hSz) hz, ho'⟩
      · exact .inr ⟨T, f, o, k _ _ (Ne.symm hSz) hz, k _ _ e hT⟩
  · obtain ⟨vs, t, v⟩ := Z.out j hj
    exact ⟨vs, k _ _ (Nat.ne_of_gt (Nat.lt_of_lt_of_le hSN (Nat.le_add_right _ _))) t, v⟩
theorem zip_loop {R : Result → Shared → Prop} (hh : A.handled = none) {rows : List Rw} {z TI TO c N S : Addr} {n : Nat} (P : Ap rows z TI TO c) (h5 : rows.length ≤ 5) (hi : ∀ r ∈ rows, r.its.size = n) (hn : n ≤ sizeLine) (h00 : rows.length = 0 → n = 0) (L : Low rows.length z TI TO c N)
    (hSz : S ≠ z) (hST : S ≠ TI) (hSO : S ≠ TO) (hSN : S < N) (hSc : ∀ (j : Nat), j < rows.length → c + j ≠ S) (hSl : ∀ r ∈ rows, r.l ≠ S) (res : Value) :
    ∀ (k i : Nat) (s : Shared) (acc : Array Value) (cp : Nat), n - i = k → i ≤ n → ZAt rows z TI TO c N i s.heap → s.heap.get? S = some { cls := .type "list", dict := none, data := .seq acc cp, slots := #[] } → acc.toList = itRefs N i →
    (∀ h' tk, Kp rows.length S z TO c s.heap h' → Told rows N n h' → (∃ cp', h'.get? S = some { cls := .type "list", dict := none, data := .seq (itRefs N n).toArray cp', slots := #[] }) → R (.ok (.ret res)) { s with heap := h', toks := tk }) →
    codeAny (model prog w) A (.builtin "list.extend.loop" ⟨[.ref S, .ref z, res], []⟩) R s := by
  intro k
  induction k with
  | zero =>
    intro i s acc cp hk hin Z hS hacc hR
    obtain ⟨hp, g, d, tk0, os⟩ := s
    have hin : i = n := by omega
    subst hin
    refine codeAny_builtin F.entry_extend_loop ?_
    rw [Around.under_plainId F.plain_extend_loop _]
    show wpAny _ A.in1 (pyNext (.ref z) >>= _) _ _ _
    refine wpAny_bind (zat_done (show A.in1.handled = none from hh) P (fun r hr => (hi r hr).symm) h00 Z fun h' hk => ?_)
    have hSoff : Off rows.length z TO c S := ⟨hSz, hSO, fun j hj => Ne.symm (hSc j hj)⟩
    refine wpAny_pure (hR h' tk0 (fun b o _ f e => hk b o f e) (fun j hj => ?_) ⟨cp, ?_⟩)
    · obtain ⟨vs, t, v⟩ := Z.out j hj
      exact ⟨vs, hk _ _ (L.off (Nat.le_add_right _ _)) t, v⟩
    · rw [← hacc]
      simpa using hk _ _ hSoff hS
  | succ k ih =>
    intro i s acc cp hk hin Z hS hacc hR
    obtain ⟨hp, g, d, tk0, os⟩ := s
    have hlt : i < n := by omega
    have hpos : 0 < rows.length := by
      rcases Nat.eq_zero_or_pos rows.length with e | e
      · have := h00 e; omega
      · exact e
    refine codeAny_builtin F.entry_extend_loop ?_
    rw [Around.under_plainId F.plain_extend_loop _]
    show wpAny _ A.in1 (pyNext (.ref z) >>= _) _ _ _
    refine wpAny_bind (zat_next (show A.in1.handled = none from hh) P hpos h5 (fun r hr => by rw [hi r hr]; exact hlt) L Z fun h1 tk1 Z1 hk1 => ?_)
    have hSoff : Off rows.length z TO c S := ⟨hSz, hSO, fun j hj => Ne.symm (hSc j hj)⟩
    have hS' := hk1 _ _ hSoff hS
    have la : acc.size = i := by rw [← Array.length_toList, hacc]; unfold itRefs; rw [List.length_map, List.length_range]
    show wpAny _ A.in1 (updateSeq S (·.push (.ref (N + i))) >>= _) _ _ _
    refine wpAny_bind ?_
    refine wpAny_updateSeq hS' rfl (wpAny_pure ⟨plainId_quiet F.plain_extend_loop _, ih (i + 1) ⟨_, g, d, tk1, os⟩ (acc.push (.ref (N + i))) _ (by omega) hlt (zat_same Z1 P (Heap.SameBut.update ..) hSz hST hSO hSN hSc hSl ⟨_, Heap.get?_update_self _ hS' rfl⟩) (Heap.get?_update_self _ hS' rfl) (by rw [Array.toList_push, hacc, itRefs_succ]) fun h' tk' kp td sl => ?_⟩)
      (by rw [la]; omega) (by show (acc.push _).size ≤ sizeLine + 1; rw [Array.size_push, la]; omega)
    refine hR h' tk' (fun b o hb f e => kp b o hb f ?_) td sl
    exact (Heap.get?_update_other _ _ (Ne.symm hb)).trans (hk1 b o f e)

theorem zip_collect {Q : List Value → Shared → Prop} (hh : A.handled = none) {rows : List Rw} {z TI TO c : Addr} {n : Nat} (P : Ap rows z TI TO c) (h5 : rows.length ≤ 5) (hi : ∀ r ∈ rows, r.its.size = n) (hn : n ≤ sizeLine) (h00 : rows.length = 0 → n = 0) (L : Low rows.length z TI TO c s.heap.objs.size)
    (hl : ∀ r ∈ rows, r.l < s.heap.objs.size) (Z : ZAt rows z TI TO c s.heap.objs.size 0 s.heap)
    (hQ : ∀ h' tk, (∀ b o, Off rows.length z TO c b → s.heap.get? b = some o → h'.get? b = some o) → Told rows (s.heap.objs.size + 1) n h' → s.heap.objs.size + 1 ≤ h'.objs.size → Q (itRefs (s.heap.objs.size + 1) n) { s with heap := h', toks := tk }) :
    wpAny (model prog w) A (collect (.ref z)) Q E s := by
  obtain ⟨hp, g, d, tk0, os⟩ := s
  have lt : ∀ {a : Addr}, a < hp.objs.size → hp.objs.size ≠ a := fun h e => Nat.ne_of_gt h e
  have L' : Low rows.length z TI TO c (hp.objs.size + 1) := ⟨Nat.lt_succ_of_lt L.z, Nat.lt_succ_of_lt L.TI, Nat.lt_succ_of_lt L.TO, Nat.le_succ_of_le L.c⟩
  have hSz : hp.objs.size ≠ z := lt L.z
  have hST : hp.objs.size ≠ TI := lt L.TI
  have hSO : hp.objs.size ≠ TO := lt L.TO
  have hSc : ∀ (j : Nat), j < rows.length → c + j ≠ hp.objs.size := fun j hj => Nat.ne_of_lt (Nat.lt_of_lt_of_le (Nat.add_lt_add_left hj c) L.c)
  have hSl : ∀ r ∈ rows, r.l ≠ hp.objs.size := fun r hr => Nat.ne_of_lt (hl r hr)
  have hTy : ∀ h', (h'.get? z = hp.get? z) → Shared.TypeIs ⟨h', g, d, tk0, os⟩ (.ref z) "zip" := fun h' e => by
    obtain ⟨o, q, r⟩ := Z.typ
    exact ⟨o, e.trans q, r⟩
  unfold collect
  refine wpAny_bind (wpAny_runValue (codeAny_builtin F.entry_proto_collect ?_))
  rw [Around.under_plainId F.plain_proto_collect _]
  show wpAny _ A.in1 (newList [] >>= fun l => again (.builtin "list.__iadd__" ⟨[l, .ref z], []⟩)) _ _ _
  refine wpAny_bind (wpAny_newObj_type ?_)
  refine wpAny_pure ⟨plainId_quiet F.plain_list_iadd _, codeAny_builtin F.entry_list_iadd ?_⟩
  rw [Around.under_plainId F.plain_list_iadd _]
  show wpAny _ A.in1 (Builtin.List.listExtendWith (.ref hp.objs.size) (.ref z) (.ref hp.objs.size)) _ _ _
  obtain ⟨lo, hlo⟩ : ∃ lo : Obj, lo = { cls := .type "list", data := .seq ([] : List Value).toArray } := ⟨_, rfl⟩
  rw [← hlo]
  have hlf : lo.isFreed = false := by rw [hlo]; rfl
  have kp1 : ∀ b o, hp.get? b = some o → (hp.push lo).get? b = some o := fun b o e => Heap.get?_push_of_some _ e
  have hS₁ : (hp.push lo).get? hp.objs.size = some lo := Heap.get?_push_size _ hlf
  have sz1 : (hp.push lo).objs.size = hp.objs.size + 1 := Heap.size_push ..
  have ty1 : Shared.TypeIs ⟨hp.push lo, g, d, tk0, os⟩ (.ref z) "zip" := by
    obtain ⟨o, q, r⟩ := Z.typ
    exact ⟨o, kp1 _ _ q, r⟩
  have it1 : ∀ {Q : Value → Shared → Prop} {E : Value → Shared → Prop} {A : Around}, Q (.ref z) ⟨hp.push lo, g, d, tk0, os⟩ → wpAny (model prog w) A (pyIter (.ref z)) Q E ⟨hp.push lo, g, d, tk0, os⟩ := fun q => by
    rcases Z.st with ⟨_, hz, _⟩ | ⟨T, f, o, hz, _⟩
    · exact wpAny_pyIter_zip (kp1 _ _ hz) q
    · have hT : Shared.TypeIs ⟨hp.push lo, g, d, tk0, os⟩ (.ref z) "zip" := ty1
      refine wpAny_pyIter_slot hT F.slot_zip_iter (wpAny_call_entry F.slot_zip_iter hT F.entry_zip_iter ?_ (F.args_zip_iter_1 _))
      exact wpAny_pure ⟨_, rfl, "zip", _, hT, F.slot_zip_next.lookup, q⟩
  unfold Builtin.List.listExtendWith
  refine wpAny_bind (wpAny_typeOf ty1 ?_)
  have h1 : Builtin.List.listSameRef (.ref hp.objs.size) (.ref z) = false := by simp [Builtin.List.listSameRef, hSz]
  have h2 : (Value.type "zip" == Value.type "list") = false := by decide
  have h3 : (Value.type "zip" == Value.type "tuple") = false := by decide
  simp only [h1, h2, h3, Bool.or_false, Bool.false_eq_true, if_false]
  refine wpAny_bind (it1 ?_)
  refine wpAny_bind (wpAny_holding ?_)
  unfold Builtin.List.listLengthHint
  refine wpAny_bind (wpAny_specialOf ty1 F.zip_no_len ?_)
  show wpAny _ A.in1 (specialOf (Value.ref z) (Str.ofString "__length_hint__") >>= _) _ _ _
  refine wpAny_bind (wpAny_specialOf ty1 F.zip_no_hint ?_)
  refine wpAny_pure ?_
  show wpAny _ A.in1 (rule "list.extend.makes-room" >>= fun _ => Builtin.List.listTouch (.ref hp.objs.size) >>= fun _ =>
    again (.builtin "list.extend.loop" ⟨[.ref hp.objs.size, .ref z, .ref hp.objs.size], []⟩)) _ _ _
  refine wpAny_bind (wpAny_rule ?_)
  refine wpAny_bind ?_
  show wpAny _ A.in1 (updateSeq hp.objs.size (·.push .none) >>= fun _ => updateSeq hp.objs.size (·.pop)) _ _ _
  subst hlo
  refine wpAny_bind (wpAny_updateSeq hS₁ rfl ?_)
  have hS₂ := Heap.get?_update_self (Obj.mapSeq (·.push Value.none)) hS₁ rfl
  refine wpAny_updateSeq hS₂ rfl ?_
  have hS₃ := Heap.get?_update_self (Obj.mapSeq (·.pop)) hS₂ rfl
  obtain ⟨h3', e3⟩ : ∃ h3' : Heap, h3' = (((hp.push { cls := .type "list", data := .seq ([] : List Value).toArray }).update hp.objs.size (Obj.mapSeq (·.push Value.none))).update hp.objs.size (Obj.mapSeq (·.pop))) := ⟨_, rfl⟩
  rw [← e3] at hS₃
  have k3 : ∀ b o, hp.get? b = some o → h3'.get? b = some o := fun b o e => by
    have hb : hp.objs.size ≠ b := Nat.ne_of_gt (Heap.lt_size e)
    rw [e3]
    exact (Heap.get?_update_other _ _ hb).trans ((Heap.get?_update_other _ _ hb).trans (kp1 b o e))
  have s3 : h3'.objs.size = hp.objs.size + 1 := by
    rw [e3]
    exact ((Heap.SameBut.update _ _ _).1.trans (Heap.SameBut.update _ _ _).1).trans sz1
  have Z3 : ZAt rows z TI TO c (hp.objs.size + 1) 0 h3' := by
    refine ⟨?_, k3 _ _ Z.ti, Z.it.keep k3, s3, fun j hj => absurd hj (Nat.not_lt_zero j)⟩
    rcases Z.st with ⟨e0, hz, olds, hO, hTO⟩ | ⟨T, f, o, hz, hT⟩
    · exact .inl ⟨e0, k3 _ _ hz, olds, hO, k3 _ _ hTO⟩
    · exact .inr ⟨T, f, o, k3 _ _ hz, k3 _ _ hT⟩
  refine wpAny_pure ⟨plainId_quiet F.plain_extend_loop _, ?_⟩
  show codeAny _ _ _ _ (⟨(((hp.push { cls := .type "list", data := .seq ([] : List Value).toArray }).update hp.objs.size (Obj.mapSeq (·.push Value.none))).update hp.objs.size (Obj.mapSeq (·.pop))), g, d, tk0, os⟩ : Shared)
  rw [← e3]
  refine zip_loop hh P h5 hi hn h00 L' hSz hST hSO (Nat.lt_succ_self _) hSc hSl (.ref hp.objs.size) n 0 ⟨h3', g, d, tk0, os⟩ _ _ rfl (Nat.zero_le _) Z3 hS₃ rfl fun h' tk kp td sl => ?_
  obtain ⟨cp', sl⟩ := sl
  show wpAny _ A (load hp.objs.size >>= _) _ _ _
  refine wpAny_bind (wpAny_load sl ?_)
  have q := hQ h' tk (fun b o f e => kp b o (Nat.ne_of_lt (Heap.lt_size e)) f (k3 b o e)) td (Heap.lt_size sl)
  exact wpAny_pure (by simpa using q)
theorem zip_tuple_new {Q₁ : Value → Shared → Prop} (hh : A.handled = none) {rows : List Rw} {z TI TO c : Addr} {n : Nat} (P : Ap rows z TI TO c) (h5 : rows.length ≤ 5) (hi : ∀ r ∈ rows, r.its.size = n) (hn : n ≤ sizeLine) (h00 : rows.length = 0 → n = 0) (L : Low rows.length z TI TO c s.heap.objs.size)
    (hl : ∀ r ∈ rows, r.l < s.heap.objs.size) (Z : ZAt rows z TI TO c s.heap.objs.size 0 s.heap)
    (hQ : ∀ h' tk T, (∀ b o, Off rows.length z TO c b → s.heap.get? b = some o → h'.get? b = some o) → Told rows (s.heap.objs.size + 1) n h' → IsTupL h' T (itRefs (s.heap.objs.size + 1) n) → s.heap.objs.size + 1 + n ≤ T → Q₁ (.ref T) { s with heap := h', toks := tk }) :
    codeAny (model prog w) A (.call (.builtin "tuple.__new__") ⟨[.type "tuple", .ref z], []⟩) (wants Q₁ E) s := by
  refine codeAny_of_tree ?_
  show wpAny _ A.in1 (do checkBuiltinCall "tuple.__new__" ⟨[.type "tuple", .ref z], []⟩; again (.builtin "tuple.__new__" ⟨[.type "tuple", .ref z], []⟩)) _ _ s
  refine wpAny_bind (wpAny_of_eq (F.newCall_tuple_1 _) (wpAny_pure ⟨plainId_quiet F.plain_tuple_new _, codeAny_builtin F.entry_tuple_new ?_⟩))
  rw [Around.under_plainId F.plain_tuple_new _]
  have hsub := sub_tuple_self
  have hinit := init_tuple_lookup
  have hmh := madeHere_tuple
  have hTI := Z.typ
  have hc : ∀ {A' : Around} {E' : Value → Shared → Prop} {Q : List Value → Shared → Prop}, A'.handled = none → (∀ h' tk, (∀ b o, Off rows.length z TO c b → s.heap.get? b = some o → h'.get? b = some o) → Told rows (s.heap.objs.size + 1) n h' → s.heap.objs.size + 1 ≤ h'.objs.size → Q (itRefs (s.heap.objs.size + 1) n) { s with heap := h', toks := tk }) → wpAny (model prog w) A' (collect (.ref z)) Q E' s := fun ha q => zip_collect ha P h5 hi hn h00 L hl Z q
  wp_walk using wpAny_typeOf hTI, hc (A' := A.in1) (show A.in1.handled = none from hh)
  intro h' tk kp td b0
  show wpAny _ _ (Builtin.Tuple.tupleExact (itRefs (s.heap.objs.size + 1) n).toArray >>= fun v => ret v) _ _ _
  unfold Builtin.Tuple.tupleExact
  have ln : (itRefs (s.heap.objs.size + 1) n).toArray.size = n := by rw [List.size_toArray]; unfold itRefs; rw [List.length_map, List.length_range]
  refine wpAny_bind (wpAny_newObj_type ?_ (by show (itRefs (s.heap.objs.size + 1) n).toArray.size ≤ sizeLine; rw [ln]; exact hn))
  refine wpAny_pure ?_
  have big : s.heap.objs.size + 1 + n ≤ h'.objs.size := by
    cases n with
    | zero =>
      exact b0
    | succ n =>
      obtain ⟨vs, t, _⟩ := td n (Nat.lt_succ_self n)
      exact Heap.lt_size t
  exact hQ _ tk h'.objs.size (fun b o f e => Heap.get?_push_of_some _ (kp b o f e)) (fun j hj => by
    obtain ⟨vs, t, v⟩ := td j hj
    exact ⟨vs, Heap.get?_push_of_some _ t, v⟩) (Heap.get?_push_size _ rfl) big
/-- tuple(zip object), nothing told yet -/
theorem call_tuple_zip {Q : Value → Shared → Prop} (hh : A.handled = none) {rows : List Rw} {z TI TO c : Addr} {n : Nat} (P : Ap rows z TI TO c) (h5 : rows.length ≤ 5) (hi : ∀ r ∈ rows, r.its.size = n) (hn : n ≤ sizeLine) (h00 : rows.length = 0 → n = 0) (L : Low rows.length z TI TO c s.heap.objs.size)
    (hl : ∀ r ∈ rows, r.l < s.heap.objs.size) (Z : ZAt rows z TI TO c s.heap.objs.size 0 s.heap)
    (hQ : ∀ h' tk T, (∀ b o, Off rows.length z TO c b → s.heap.get? b = some o → h'.get? b = some o) → Told rows (s.heap.objs.size + 1) n h' → IsTupL h' T (itRefs (s.heap.objs.size + 1) n) → s.heap.objs.size + 1 + n ≤ T → Q (.ref T) { s with heap := h', toks := tk }) :
    wpAny (model prog w) A (call (.type "tuple") [.ref z]) Q E s := by
  refine callType_codes (Q₁ := fun obj s₁ => s₁.TypeIs obj "tuple" ∧ Q obj s₁) F.called_tuple (F.typeCall_tuple_1 _) F.entry_object_init
    (zip_tuple_new (show A.in1.handled = none from hh) P h5 hi hn h00 L hl Z fun h' tk T k td t b => ⟨⟨_, t, rfl⟩, hQ h' tk T k td t b⟩) fun obj s₁ h₁ => ?_
  exact ⟨h₁.1, F.args_object_init_2 obj _, object_init_meets F.called_tuple.init.lookup F.called_tuple.made (by decide) prog w A.in1 _ s₁ ⟨h₁.1, rfl, h₁.2⟩⟩
/-- just begun -/
theorem Begun.apart {h h' : Heap} {rows : List Rw} {z TI TO : Addr} (B : Begun h h' rows z TI TO) (hl : ∀ r ∈ rows, r.l < h.objs.size) : Ap rows z TI TO h.objs.size := by
  obtain ⟨b1, b2, b3, b4, b5, b6, b7⟩ := B.big
  have lt : ∀ {j : Nat} {a : Addr}, j < rows.length → (h.objs.size : Nat) + rows.length ≤ a → h.objs.size + j ≠ a := fun hj ha => Nat.ne_of_lt (Nat.lt_of_lt_of_le (Nat.add_lt_add_left hj _) ha)
  have ll : ∀ {r : Rw} {a : Addr}, r ∈ rows → (h.objs.size : Nat) ≤ a → r.l ≠ a := fun hr ha => Nat.ne_of_lt (Nat.lt_of_lt_of_le (hl _ hr) ha)
  exact ⟨b5, b6, b4, fun j hj => lt hj b7, fun j hj => lt hj b2, fun j hj => lt hj b3, fun r hr => ll hr b1, fun r hr => ll hr (Nat.le_trans (Nat.le_add_right _ _) b2), fun r hr => ll hr (Nat.le_trans (Nat.le_add_right _ _) b3), fun r hr j _ => ll hr (Nat.le_add_right _ _)⟩
theorem Begun.low {h h' : Heap} {rows : List Rw} {z TI TO : Addr} (B : Begun h h' rows z TI TO) : Low rows.length z TI TO h.objs.size h'.objs.size :=
  ⟨Heap.lt_size B.zz, Heap.lt_size B.ti, Heap.lt_size B.to, Nat.le_of_lt (Nat.lt_of_le_of_lt B.big.2.2.2.2.2.2 (Heap.lt_size B.zz))⟩
theorem Begun.zat {h h' : Heap} {rows : List Rw} {z TI TO : Addr} (B : Begun h h' rows z TI TO) (hl : ∀ r ∈ rows, layK r.t h r.l r.its) : ZAt rows z TI TO h.objs.size h'.objs.size 0 h' :=
  ⟨.inl ⟨rfl, B.zz, _, List.length_replicate, B.to⟩, B.ti, fun j r hr => by
    rw [if_neg (Nat.not_lt_zero j)]
    exact ⟨Ly.itSt_new (B.it j r hr), Ly.lay_at (hl r (List.mem_of_getElem? hr)) fun o e => B.keep _ _ e⟩, rfl, fun j hj => absurd hj (Nat.not_lt_zero j)⟩
end
end LyZip
end PySem

set_option maxHeartbeats 4000000
/-! tuple(zip(*rows)) -/
namespace Ly
open PySem PySem.Spec PyProof.Rows L2 LyZip
/-- the rows at xs as lists of items -/
def Items (K : PySem.W.Frag) (H : Hp) (n : Nat) : V → List V → Prop := fun x ys => ∃ b, x = .ref b ∧ Sq K H b ys ∧ ys.length = n
def colV (yss : List (List V)) (i : Nat) : List V := yss.map fun ys => ys.getD i .non
def tTupZipS (K : PySem.W.Frag) (te : TE) : TE := fun σ H Q => te σ H fun v H1 => ∃ (a : Addr) (xs : List V) (yss : List (List V)) (n : Nat), v = .ref a ∧ Sq K H1 a xs ∧ Al (Items K H1 n) xs yss ∧ xs.length ≤ 5 ∧ n ≤ 1000 ∧ (xs.length = 0 → n = 0) ∧
  ∀ T ts H', Same H1 H' → SqT K H' T ts → ts.length = n → (∀ i, i < n → ∃ t, ts[i]? = some (.ref t) ∧ SqT K H' t (colV yss i)) → Q (.ref T) H'
section
variable {X : Cx} {pins : List (Addr × Obj)} {σ : L2.St} {H : Hp} {s : Shared}
theorem vals_idx : ∀ {xs : List V} {us : List Value}, xs.length = us.length → (∀ (j : Nat) x u, xs[j]? = some x → us[j]? = some u → RelV x u) → Vals xs us
  | [], [], _, _ => .nil
  | x :: xs, u :: us, hl, h => .cons (h 0 x u rfl rfl) (vals_idx (Nat.succ.inj hl) fun j y v e1 e2 => h (j + 1) y v (by simpa using e1) (by simpa using e2))
  | [], _ :: _, hl, _ => by cases hl
  | _ :: _, [], hl, _ => by cases hl
theorem rows_of (I : Inv X pins σ H s) (n : Nat) : ∀ {xs : List V} {yss : List (List V)} {us : List Value}, Al (Items X.K H n) xs yss → Vals xs us → ∃ rows : List Rw, us = (rows.map fun r => Value.ref r.l) ∧ (∀ r ∈ rows, layK r.t s.heap r.l r.its ∧ r.its.size = n ∧ r.l < s.heap.objs.size) ∧ rows.length = xs.length ∧ rows.length = yss.length ∧
    ∀ (j : Nat) r, rows[j]? = some r → ∃ ys, yss[j]? = some ys ∧ Vals ys r.its.toList ∧ ys.length = n
  | [], [], _, _, .nil => ⟨[], rfl, fun r hr => absurd hr List.not_mem_nil, rfl, rfl, fun j r hr => by simp at hr⟩
  | x :: xs, ys :: yss, _, ⟨⟨b, ex, sq, ln⟩, al⟩, .cons rv vs => by
    obtain ⟨rows, e1, e2, e3, e4, e5⟩ := rows_of I n al vs
    obtain ⟨t, k⟩ := sqK_of sq
    obtain ⟨its, r, p, lt⟩ := invK I (k H (Same.refl H))
    subst ex
    have eu := show _ = Value.ref b from rv
    subst eu
    refine ⟨⟨t, b, its.toArray⟩ :: rows, by rw [e1]; rfl, fun q hq => ?_, by rw [List.length_cons, List.length_cons, e3], by rw [List.length_cons, List.length_cons, e4], fun j q hq => ?_⟩
    · rcases List.mem_cons.mp hq with e | e
      · rw [e]
        exact ⟨p, by rw [List.size_toArray, ← r.length]; exact ln, lt⟩
      · exact e2 q e
    · cases j with
      | zero =>
        cases hq
        exact ⟨ys, rfl, by simpa using r, ln⟩
      | succ j => exact e5 j q (by simpa using hq)
  | [], _ :: _, _, h, _ => h.elim
  | _ :: _, [], _, h, _ => h.elim
/-- the new rows -/
def updN (H : Hp) (c : Addr) (yss : List (List V)) : Nat → Hp
  | 0 => H
  | j + 1 => upd (updN H c yss j) (c + j) (.tup (colV yss j))
theorem updN_low {H : Hp} {c : Addr} {yss : List (List V)} {b : Addr} : ∀ (n : Nat), (b < c ∨ c + n ≤ b) → updN H c yss n b = H b
  | 0, _ => rfl
  | n + 1, h => by
    have hne : b ≠ c + n := fun e => by
      rcases h with h | h
      · rw [e] at h; exact Nat.not_lt_of_le (Nat.le_add_right _ _) h
      · rw [e] at h; exact Nat.not_succ_le_self _ h
    show upd _ _ _ b = _
    rw [upd_ne hne]
    exact updN_low n (h.imp id fun h => Nat.le_trans (Nat.le_succ _) h)
theorem updN_at {H : Hp} {c : Addr} {yss : List (List V)} {j : Nat} : ∀ (n : Nat), j < n → updN H c yss n (c + j) = some (.tup (colV yss j))
  | 0, h => absurd h (Nat.not_lt_zero _)
  | n + 1, h => by
    show upd _ _ _ (c + j) = _
    by_cases e : j = n
    · subst e
      rw [upd_same]
    · rw [upd_ne (fun q => e (Nat.add_left_cancel (show (c : Nat) + j = c + n from q)))]
      exact updN_at n (by omega)

theorem vals_col {yss : List (List V)} {rows : List Rw} {vs : List Value} {i n : Nat} (hl : rows.length = yss.length) (h : ∀ (j : Nat) r, rows[j]? = some r → ∃ ys, yss[j]? = some ys ∧ Vals ys r.its.toList ∧ ys.length = n) (hi : i < n) (V : Vs rows i vs rows.length) : Vals (colV yss i) vs := by
  refine vals_idx (by unfold colV; rw [List.length_map, V.1, hl]) fun j x u e1 e2 => ?_
  unfold colV at e1
  rw [List.getElem?_map] at e1
  obtain ⟨ys, ey, ex⟩ := Option.map_eq_some_iff.mp e1
  have hj : j < rows.length := by rw [hl]; exact (List.getElem?_eq_some_iff.mp ey).1
  obtain ⟨ys', ey', r, ln⟩ := h j _ (List.getElem?_eq_getElem hj)
  rw [ey] at ey'
  cases ey'
  obtain ⟨v, e3, e4⟩ := V.2 j _ hj (List.getElem?_eq_getElem hj)
  rw [e2] at e4
  cases e4
  have hlt : i < ys.length := by rw [ln]; exact hi
  obtain ⟨u', e5, rv⟩ := r.get (List.getElem?_eq_getElem hlt)
  have e6 : rows[j].its.toList[i]? = some u := by simpa using e3
  rw [e6] at e5
  cases e5
  rw [List.getD_eq_getElem?_getD, List.getElem?_eq_getElem hlt] at ex
  subst ex
  exact rv
/-- the rows told are laid one by one -/
theorem inv_told {h' : Heap} {tk : Nat} {c : Addr} {rows : List Rw} {yss : List (List V)} {n : Nat} (I : Inv X pins σ H s) (hc : s.heap.objs.size ≤ c) (h5 : rows.length ≤ 5) (hl : rows.length = yss.length) (hr : ∀ (j : Nat) r, rows[j]? = some r → ∃ ys, yss[j]? = some ys ∧ Vals ys r.its.toList ∧ ys.length = n) (k : ∀ b o, s.heap.get? b = some o → h'.get? b = some o) (td : Told rows c n h') :
    ∀ m, m ≤ n → ∃ G : Heap, (∀ b, b < s.heap.objs.size ∨ (c ≤ b ∧ b < c + m) → G.get? b = h'.get? b) ∧ (∀ b, ¬ (b < s.heap.objs.size ∨ (c ≤ b ∧ b < c + m)) → G.get? b = none) ∧ Inv X pins σ (updN H c yss m) { s with heap := G, toks := tk }
  | 0, _ => by
    obtain ⟨G, g1, g2⟩ := restrict h' fun b => decide (b < s.heap.objs.size)
    refine ⟨G, fun b hb => g1 b (decide_eq_true (hb.elim id fun q => absurd q.2 (Nat.not_lt_of_le q.1))), fun b hb => g2 b (decide_eq_false fun q => hb (.inl q)), I.kept (t' := tk) fun b o e => ?_⟩
    rw [g1 b (decide_eq_true (Heap.lt_size e))]
    exact k b o e
  | m + 1, hm => by
    obtain ⟨G, g1, g2, I1⟩ := inv_told (tk := tk) I hc h5 hl hr k td m (by omega)
    obtain ⟨G', q1, q2⟩ := restrict h' fun b => decide (b < s.heap.objs.size ∨ (c ≤ b ∧ b < c + (m + 1)))
    obtain ⟨vs, t, v⟩ := td m hm
    have sub : ∀ b, (b < s.heap.objs.size ∨ (c ≤ b ∧ b < c + m)) → (b < s.heap.objs.size ∨ (c ≤ b ∧ b < c + (m + 1))) := fun b h => h.imp id fun h => ⟨h.1, Nat.lt_succ_of_lt h.2⟩
    have here : c + m < s.heap.objs.size ∨ ((c : Nat) ≤ c + m ∧ c + m < c + (m + 1)) := .inr ⟨Nat.le_add_right _ _, Nat.lt_succ_self _⟩
    have nh : ¬ (c + m < s.heap.objs.size ∨ ((c : Nat) ≤ c + m ∧ c + m < c + m)) := fun q => q.elim (fun q => absurd (Nat.le_trans hc (Nat.le_add_right c m)) (Nat.not_le_of_lt q)) fun q => Nat.lt_irrefl _ q.2
    refine ⟨G', fun b hb => q1 b (decide_eq_true hb), fun b hb => q2 b (decide_eq_false hb), ?_⟩
    have t' : G'.get? (c + m) = some { cls := .type "tuple", data := .seq vs.toArray } := by rw [q1 _ (decide_eq_true here)]; exact t
    refine I1.laidN (t' := tk) (a := c + m) (fun b u e => ?_) (g2 _ nh) ?_ ⟨?_, vs, vals_col hl hr hm v, ⟨_, t', rfl, _, rfl⟩⟩
    · have e' : G.get? b = some u := e
      by_cases hb : b < s.heap.objs.size ∨ (c ≤ b ∧ b < c + m)
      · rw [q1 _ (decide_eq_true (sub b hb)), ← g1 b hb]
        exact e'
      · rw [g2 b hb] at e'
        cases e'
    · rw [updN_low m (.inr (Nat.le_refl _))]
      exact I.hok.fresh (Nat.le_trans hc (Nat.le_add_right _ _))
    · unfold colV
      rw [List.length_map, ← hl, sizeLine_eq]
      omega
end
theorem pe_tupZipS {X : Cx} {e : Expr} {te : TE} {p1 p2 p3 pos1 pos2 : Pos} (hg1 : Gl X "tuple") (hm1 : X.mg "tuple" = none) (hg2 : Gl X "zip") (hm2 : X.mg "zip" = none) (hc : X.calm = true) (he : PE X e te)
    (hs : starEach [.Starred e p3] X.env = [(true, eval e X.env)] := by rfl) (na : starEach [.Call (.Name "zip" p2) [.Starred e p3] [] pos2] X.env = (false, eval (.Call (.Name "zip" p2) [.Starred e p3] [] pos2) X.env) :: starEach [] X.env := by rfl) :
    PE X (.Call (.Name "tuple" p1) [.Call (.Name "zip" p2) [.Starred e p3] [] pos2] [] pos1) (tTupZipS X.K te) := by
  refine ⟨fun pins s σ H Q I h => ?_⟩
  have hh : X.A.handled = none := I.ok.hd hc
  refine Call_ (ld_blt I hg1 hm1 PyProof.Rows.boot_tuple (PyProof.Rows.callWith_type1 (args_cons (thn (Q := fun v s3 => ∃ (s2 : Shared) (H1 : Hp) (rows : List Rw) (yss : List (List V)) (n : Nat) (z TI TO : Addr) (h1 : Heap), v = .ref z ∧ s3 = { s2 with heap := h1 } ∧ Inv X pins σ H1 s2 ∧ Begun s2.heap h1 rows z TI TO ∧
      (∀ r ∈ rows, layK r.t s2.heap r.l r.its ∧ r.its.size = n ∧ r.l < s2.heap.objs.size) ∧ rows.length ≤ 5 ∧ n ≤ 1000 ∧ (rows.length = 0 → n = 0) ∧ rows.length = yss.length ∧ (∀ (j : Nat) r, rows[j]? = some r → ∃ ys, yss[j]? = some ys ∧ Vals ys r.its.toList ∧ ys.length = n) ∧
      ∀ T ts H', Same H1 H' → SqT X.K H' T ts → ts.length = n → (∀ i, i < n → ∃ t, ts[i]? = some (.ref t) ∧ SqT X.K H' t (colV yss i)) → Q (.ref T) H')
    (Call_ (ld_blt I hg2 hm2 PyProof.Rows.boot_zip ?_)) fun v s3 q => args_nil ?_) na) na))
  · rw [hs]
    refine PySem.W.ks_call rfl (P := fun _ => True) (fun h _ => ⟨.machine, .inr (.inl rfl), .now⟩) (PySem.W.ks_lone (thn (he.run pins s σ H _ I h) fun v s1 ⟨y, H1, I1, ry, q⟩ => ?_))
    obtain ⟨a, xs, yss, n, ey, hx, al, h5, hn, h00, q⟩ := q
    subst ey
    obtain rfl : v = Value.ref a := ry
    refine StX.star_any I1 hx.symm fun us s2 I2 rv => ⟨trivial, ?_⟩
    obtain ⟨rows, eu, e2, e3, e4, e5⟩ := rows_of I2 n al rv
    subst eu
    show wpAny _ _ (call (.type "zip") (rows.map fun r => .ref r.l)) _ _ _
    exact zip_begins rows (by rw [e3]; exact h5) (fun r hr => (e2 r hr).1) fun h' z TI TO B => ⟨s2, H1, rows, yss, n, z, TI, TO, h', rfl, rfl, I2, B, e2, by rw [e3]; exact h5, hn, by rw [e3]; exact h00, e4, e5, q⟩
  · obtain ⟨s2, H1, rows, yss, n, z, TI, TO, h1, rfl, rfl, I2, B, e2, h5, hn, h00, e4, e5, q⟩ := q
    have hl : ∀ r ∈ rows, r.l < s2.heap.objs.size := fun r hr => (e2 r hr).2.2
    have lt2 : s2.heap.objs.size ≤ h1.objs.size := Nat.le_of_lt (Nat.lt_of_le_of_lt B.big.1 (Heap.lt_size B.zz))
    refine call_tuple_zip (s := { s2 with heap := h1 }) hh (B.apart hl) h5 (fun r hr => (e2 r hr).2.1) (by rw [sizeLine_eq]; omega) h00 B.low (fun r hr => Nat.lt_of_lt_of_le (hl r hr) lt2) (B.zat fun r hr => (e2 r hr).1) fun h' tk T kp td tT bT => ?_
    replace kp : ∀ b o, Off rows.length z TO s2.heap.objs.size b → h1.get? b = some o → h'.get? b = some o := kp
    replace td : Told rows (h1.objs.size + 1) n h' := td
    replace tT : IsTupL h' T (itRefs (h1.objs.size + 1) n) := tT
    replace bT : h1.objs.size + 1 + n ≤ T := bT
    have off : ∀ b, b < s2.heap.objs.size → Off rows.length z TO s2.heap.objs.size b := fun b hb => ⟨Nat.ne_of_lt (Nat.lt_of_lt_of_le hb B.big.1), Nat.ne_of_lt (Nat.lt_of_lt_of_le hb (Nat.le_trans (Nat.le_add_right _ _) B.big.2.2.1)), fun j _ => Nat.ne_of_lt (Nat.lt_of_lt_of_le hb (Nat.le_add_right _ _))⟩
    have k : ∀ b o, s2.heap.get? b = some o → h'.get? b = some o := fun b o e => kp b o (off b (Heap.lt_size e)) (B.keep b o e)
    obtain ⟨G, g1, g2, I3⟩ := inv_told (tk := tk) I2 (Nat.le_succ_of_le lt2) h5 e4 e5 k td n (Nat.le_refl _)
    obtain ⟨ts, ets⟩ : ∃ ts : List V, ts = (List.range n).map fun j => V.ref (h1.objs.size + 1 + j) := ⟨_, rfl⟩
    have lts : ts.length = n := by rw [ets, List.length_map, List.length_range]
    have nT : ¬ (T < s2.heap.objs.size ∨ (h1.objs.size + 1 ≤ T ∧ T < h1.objs.size + 1 + n)) := fun x => x.elim (fun x => absurd (Nat.le_trans (Nat.le_trans lt2 (Nat.le_trans (Nat.le_add_right _ (1 + n)) (Nat.le_of_eq (Nat.add_assoc _ _ _).symm))) bT) (Nat.not_le_of_lt x)) fun x => absurd bT (Nat.not_le_of_lt x.2)
    have fT : H1 T = none := I2.hok.fresh (Nat.le_trans (Nat.le_trans lt2 (Nat.le_trans (Nat.le_add_right _ (1 + n)) (Nat.le_of_eq (Nat.add_assoc _ _ _).symm))) bT)
    have vts : Vals ts (itRefs (h1.objs.size + 1) n) := vals_idx (by rw [lts]; unfold itRefs; rw [List.length_map, List.length_range]) fun j x u q1 q2 => by
      rw [ets] at q1
      unfold itRefs at q2
      rw [List.getElem?_map] at q1 q2
      obtain ⟨m, m1, m2⟩ := Option.map_eq_some_iff.mp q1
      rw [m1] at q2
      cases q2
      subst m2
      exact rfl
    have uT : updN H1 (h1.objs.size + 1) yss n T = none := by rw [updN_low n (.inr bT)]; exact fT
    have I4 : Inv X pins σ (upd (updN H1 (h1.objs.size + 1) yss n) T (.tup ts)) { s2 with heap := h', toks := tk } := by
      refine I3.laidN (t' := tk) (fun b u e => ?_) (g2 _ nT) uT ⟨by rw [lts, sizeLine_eq]; omega, _, vts, ⟨_, tT, rfl, _, rfl⟩⟩
      have e' : G.get? b = some u := e
      by_cases hb : b < s2.heap.objs.size ∨ (h1.objs.size + 1 ≤ b ∧ b < h1.objs.size + 1 + n)
      · rw [← g1 b hb]
        exact e'
      · rw [g2 b hb] at e'
        cases e'
    refine ⟨.ref T, _, I4, rfl, q T ts _ (fun b o e => ?_) (SqT.of upd_same) lts fun i hi => ⟨h1.objs.size + 1 + i, ?_, SqT.of ?_⟩⟩
    · have hb : b ≠ T := fun x => by rw [x, fT] at e; cases e
      have hb2 : b < s2.heap.objs.size := by
        refine Nat.lt_of_not_le fun x => ?_
        rw [I2.hok.fresh x] at e
        cases e
      rw [upd_ne hb, updN_low n (.inl (Nat.lt_of_lt_of_le hb2 (Nat.le_succ_of_le lt2)))]
      exact e
    · rw [ets, List.getElem?_map, List.getElem?_range hi]
      rfl
    · have hb : h1.objs.size + 1 + i ≠ T := fun x => by rw [← x] at bT; exact absurd hi (Nat.not_lt_of_le (Nat.le_of_add_le_add_left bT))
      rw [upd_ne hb]
      exact updN_at n hi
theorem st_tupZipS {K : PySem.W.Frag} {te : TE} {σ : L2.St} {H : Hp} {Q : VK} (h : te σ H fun v H1 => ∃ (a : Addr) (xs : List V) (yss : List (List V)) (n : Nat), v = .ref a ∧ Sq K H1 a xs ∧ Al (Items K H1 n) xs yss ∧ xs.length ≤ 5 ∧ n ≤ 1000 ∧ (xs.length = 0 → n = 0) ∧
  ∀ T ts H', Same H1 H' → SqT K H' T ts → ts.length = n → (∀ i, i < n → ∃ t, ts[i]? = some (.ref t) ∧ SqT K H' t (colV yss i)) → Q (.ref T) H') : tTupZipS K te σ H Q := h
end Ly

set_option maxHeartbeats 4000000

namespace K01
open PySem PySem.Spec PyProof.Rows L2 Ly
abbrev PP : Program := PySem.Challenge.pw_steelyard_k01_basis_history_and_rows
def top (i : Nat) : Stmt := PySem.Challenge.pw_steelyard_k01_basis_history_and_rows.main.body.getD i (.Pass ⟨0, 0, 0, 0⟩)
abbrev s_ratio : Stmt := top 11
abbrev n_ratio : List Str := ["above", "below", "common"]
theorem sc_ratio : FnScope n_ratio ["above", "below"] (defScope s_ratio) := ⟨rfl, rfl, rfl, by decide +kernel, rfl, by decide +kernel, by decide +kernel⟩
abbrev s_add : Stmt := top 12
abbrev n_add : List Str := ["p", "q"]
theorem sc_add : FnScope n_add ["p", "q"] (defScope s_add) := ⟨rfl, rfl, rfl, by decide +kernel, rfl, by decide +kernel, by decide +kernel⟩
abbrev s_multiply : Stmt := top 13
abbrev n_multiply : List Str := ["p", "q"]
theorem sc_multiply : FnScope n_multiply ["p", "q"] (defScope s_multiply) := ⟨rfl, rfl, rfl, by decide +kernel, rfl, by decide +kernel, by decide +kernel⟩
abbrev s_divide : Stmt := top 14
abbrev n_divide : List Str := ["p", "q"]
theorem sc_divide : FnScope n_divide ["p", "q"] (defScope s_divide) := ⟨rfl, rfl, rfl, by decide +kernel, rfl, by decide +kernel, by decide +kernel⟩
abbrev s_negate : Stmt := top 15
abbrev n_negate : List Str := ["p"]
theorem sc_negate : FnScope n_negate ["p"] (defScope s_negate) := ⟨rfl, rfl, rfl, by decide +kernel, rfl, by decide +kernel, by decide +kernel⟩
abbrev s_dot : Stmt := top 17
abbrev n_dot : List Str := ["row", "column", "found", "p", "q"]
theorem sc_dot : FnScope n_dot ["row", "column"] (defScope s_dot) := ⟨rfl, rfl, rfl, by decide +kernel, rfl, by decide +kernel, by decide +kernel⟩
abbrev s_width_of : Stmt := top 18
abbrev n_width_of : List Str := ["matrix"]
theorem sc_width_of : FnScope n_width_of ["matrix"] (defScope s_width_of) := ⟨rfl, rfl, rfl, by decide +kernel, rfl, by decide +kernel, by decide +kernel⟩
abbrev s_plus_multiple : Stmt := top 19
abbrev n_plus_multiple : List Str := ["row", "factor", "other", "found", "at", "q"]
theorem sc_plus_multiple : FnScope n_plus_multiple ["row", "factor", "other"] (defScope s_plus_multiple) := ⟨rfl, rfl, rfl, by decide +kernel, rfl, by decide +kernel, by decide +kernel⟩
abbrev s_multiple : Stmt := top 20
abbrev n_multiple : List Str := ["factor", "row", "p"]
theorem sc_multiple : FnScope n_multiple ["factor", "row"] (defScope s_multiple) := ⟨rfl, rfl, rfl, by decide +kernel, rfl, by decide +kernel, by decide +kernel⟩
abbrev s_row_times : Stmt := top 21
abbrev n_row_times : List Str := ["row", "matrix", "found", "p", "line"]
theorem sc_row_times : FnScope n_row_times ["row", "matrix"] (defScope s_row_times) := ⟨rfl, rfl, rfl, by decide +kernel, rfl, by decide +kernel, by decide +kernel⟩
abbrev s_matrix_times : Stmt := top 22
abbrev n_matrix_times : List Str := ["left", "right", "row"]
theorem sc_matrix_times : FnScope n_matrix_times ["left", "right"] (defScope s_matrix_times) := ⟨rfl, rfl, rfl, by decide +kernel, rfl, by decide +kernel, by decide +kernel⟩
abbrev s_transposed : Stmt := top 23
abbrev n_transposed : List Str := ["matrix"]
theorem sc_transposed : FnScope n_transposed ["matrix"] (defScope s_transposed) := ⟨rfl, rfl, rfl, by decide +kernel, rfl, by decide +kernel, by decide +kernel⟩
abbrev s_identity : Stmt := top 24
abbrev n_identity : List Str := ["size", "at"]
theorem sc_identity : FnScope n_identity ["size"] (defScope s_identity) := ⟨rfl, rfl, rfl, by decide +kernel, rfl, by decide +kernel, by decide +kernel⟩
abbrev s_first_nonzero : Stmt := top 25
abbrev n_first_nonzero : List Str := ["row", "at", "p"]
theorem sc_first_nonzero : FnScope n_first_nonzero ["row"] (defScope s_first_nonzero) := ⟨rfl, rfl, rfl, by decide +kernel, rfl, by decide +kernel, by decide +kernel⟩
abbrev s__law_bag : Stmt := top 28
abbrev n__law_bag : List Str := ["script", "place", "cell", "rest", "told", "one"]
theorem sc__law_bag : FnScope n__law_bag ["script", "place"] (defScope s__law_bag) := ⟨rfl, rfl, rfl, by decide +kernel, rfl, by decide +kernel, by decide +kernel⟩
abbrev s__law_draw : Stmt := top 29
abbrev n__law_draw : List Str := ["bag", "size", "digit", "one", "two"]
theorem sc__law_draw : FnScope n__law_draw ["bag", "size"] (defScope s__law_draw) := ⟨rfl, rfl, rfl, by decide +kernel, rfl, by decide +kernel, by decide +kernel⟩
abbrev s__law_common : Stmt := top 30
abbrev n__law_common : List Str := ["one", "two", "left"]
theorem sc__law_common : FnScope n__law_common ["one", "two"] (defScope s__law_common) := ⟨rfl, rfl, rfl, by decide +kernel, rfl, by decide +kernel, by decide +kernel⟩
abbrev s__law_low : Stmt := top 31
abbrev n__law_low : List Str := ["above", "under", "share"]
theorem sc__law_low : FnScope n__law_low ["above", "under"] (defScope s__law_low) := ⟨rfl, rfl, rfl, by decide +kernel, rfl, by decide +kernel, by decide +kernel⟩
abbrev s__law_plus : Stmt := top 32
abbrev n__law_plus : List Str := ["p", "q"]
theorem sc__law_plus : FnScope n__law_plus ["p", "q"] (defScope s__law_plus) := ⟨rfl, rfl, rfl, by decide +kernel, rfl, by decide +kernel, by decide +kernel⟩
abbrev s__law_minus : Stmt := top 33
abbrev n__law_minus : List Str := ["p", "q"]
theorem sc__law_minus : FnScope n__law_minus ["p", "q"] (defScope s__law_minus) := ⟨rfl, rfl, rfl, by decide +kernel, rfl, by decide +kernel, by decide +kernel⟩
abbrev s__law_times : Stmt := top 34
abbrev n__law_times : List Str := ["p", "q"]
theorem sc__law_times : FnScope n__law_times ["p", "q"] (defScope s__law_times) := ⟨rfl, rfl, rfl, by decide +kernel, rfl, by decide +kernel, by decide +kernel⟩
abbrev s__law_over : Stmt := top 35
abbrev n__law_over : List Str := ["p", "q"]
theorem sc__law_over : FnScope n__law_over ["p", "q"] (defScope s__law_over) := ⟨rfl, rfl, rfl, by decide +kernel, rfl, by decide +kernel, by decide +kernel⟩
abbrev s__law_entry : Stmt := top 36
abbrev n__law_entry : List Str := ["bag", "large", "code", "above", "under"]
theorem sc__law_entry : FnScope n__law_entry ["bag", "large"] (defScope s__law_entry) := ⟨rfl, rfl, rfl, by decide +kernel, rfl, by decide +kernel, by decide +kernel⟩
abbrev s__law_is_low : Stmt := top 37
abbrev n__law_is_low : List Str := ["actual", "part"]
theorem sc__law_is_low : FnScope n__law_is_low ["actual"] (defScope s__law_is_low) := ⟨rfl, rfl, rfl, by decide +kernel, rfl, by decide +kernel, by decide +kernel⟩
abbrev s__law_equal : Stmt := top 38
abbrev n__law_equal : List Str := ["actual", "due"]
theorem sc__law_equal : FnScope n__law_equal ["actual", "due"] (defScope s__law_equal) := ⟨rfl, rfl, rfl, by decide +kernel, rfl, by decide +kernel, by decide +kernel⟩
abbrev s__law_row_equal : Stmt := top 39
abbrev n__law_row_equal : List Str := ["actual", "due", "k"]
theorem sc__law_row_equal : FnScope n__law_row_equal ["actual", "due"] (defScope s__law_row_equal) := ⟨rfl, rfl, rfl, by decide +kernel, rfl, by decide +kernel, by decide +kernel⟩
abbrev s__law_rows_equal : Stmt := top 40
abbrev n__law_rows_equal : List Str := ["actual", "due", "k"]
theorem sc__law_rows_equal : FnScope n__law_rows_equal ["actual", "due"] (defScope s__law_rows_equal) := ⟨rfl, rfl, rfl, by decide +kernel, rfl, by decide +kernel, by decide +kernel⟩
abbrev s__law_dot : Stmt := top 41
abbrev n__law_dot : List Str := ["row", "column", "found", "k"]
theorem sc__law_dot : FnScope n__law_dot ["row", "column"] (defScope s__law_dot) := ⟨rfl, rfl, rfl, by decide +kernel, rfl, by decide +kernel, by decide +kernel⟩
abbrev s__law_grid : Stmt := top 42
abbrev n__law_grid : List Str := ["rows", "way", "row"]
theorem sc__law_grid : FnScope n__law_grid ["rows", "way"] (defScope s__law_grid) := ⟨rfl, rfl, rfl, by decide +kernel, rfl, by decide +kernel, by decide +kernel⟩
abbrev s__law_given : Stmt := top 43
abbrev n__law_given : List Str := ["row", "as_list"]
theorem sc__law_given : FnScope n__law_given ["row", "as_list"] (defScope s__law_given) := ⟨rfl, rfl, rfl, by decide +kernel, rfl, by decide +kernel, by decide +kernel⟩
abbrev s__law_combined : Stmt := top 44
abbrev n__law_combined : List Str := ["factors", "rows", "width", "found", "j", "k"]
theorem sc__law_combined : FnScope n__law_combined ["factors", "rows", "width"] (defScope s__law_combined) := ⟨rfl, rfl, rfl, by decide +kernel, rfl, by decide +kernel, by decide +kernel⟩
abbrev s__law_reduced : Stmt := top 45
abbrev n__law_reduced : List Str := ["steps", "row", "left", "step", "factor", "k"]
theorem sc__law_reduced : FnScope n__law_reduced ["steps", "row"] (defScope s__law_reduced) := ⟨rfl, rfl, rfl, by decide +kernel, rfl, by decide +kernel, by decide +kernel⟩
abbrev s__law_first : Stmt := top 46
abbrev n__law_first : List Str := ["row", "k"]
theorem sc__law_first : FnScope n__law_first ["row"] (defScope s__law_first) := ⟨rfl, rfl, rfl, by decide +kernel, rfl, by decide +kernel, by decide +kernel⟩
abbrev s__law_entered : Stmt := top 47
abbrev n__law_entered : List Str := ["model", "row", "left", "at", "lead", "p"]
theorem sc__law_entered : FnScope n__law_entered ["model", "row"] (defScope s__law_entered) := ⟨rfl, rfl, rfl, by decide +kernel, rfl, by decide +kernel, by decide +kernel⟩
abbrev s__law_held : Stmt := top 48
abbrev n__law_held : List Str := ["model", "row"]
theorem sc__law_held : FnScope n__law_held ["model", "row"] (defScope s__law_held) := ⟨rfl, rfl, rfl, by decide +kernel, rfl, by decide +kernel, by decide +kernel⟩
abbrev s__law_row : Stmt := top 49
abbrev n__law_row : List Str := ["bag", "model", "large", "width", "stored", "way", "at", "one", "factors", "two", "near", "k"]
theorem sc__law_row : FnScope n__law_row ["bag", "model", "large"] (defScope s__law_row) := ⟨rfl, rfl, rfl, by decide +kernel, rfl, by decide +kernel, by decide +kernel⟩
abbrev s__law_asked : Stmt := top 50
abbrev n__law_asked : List Str := ["basis", "row", "door", "told", "raised", "near", "own"]
theorem sc__law_asked : FnScope n__law_asked ["basis", "row", "door"] (defScope s__law_asked) := ⟨rfl, rfl, rfl, by decide +kernel, rfl, by decide +kernel, by decide +kernel⟩
abbrev s__law_coordinates_right : Stmt := top 51
abbrev n__law_coordinates_right : List Str := ["told", "model", "row", "factor"]
theorem sc__law_coordinates_right : FnScope n__law_coordinates_right ["told", "model", "row"] (defScope s__law_coordinates_right) := ⟨rfl, rfl, rfl, by decide +kernel, rfl, by decide +kernel, by decide +kernel⟩
abbrev s__law_asked_right : Stmt := top 52
abbrev n__law_asked_right : List Str := ["basis", "model", "row", "door", "as_list", "given", "outcome"]
theorem sc__law_asked_right : FnScope n__law_asked_right ["basis", "model", "row", "door", "as_list"] (defScope s__law_asked_right) := ⟨rfl, rfl, rfl, by decide +kernel, rfl, by decide +kernel, by decide +kernel⟩
abbrev s__law_state_right : Stmt := top 53
abbrev n__law_state_right : List Str := ["basis", "model"]
theorem sc__law_state_right : FnScope n__law_state_right ["basis", "model"] (defScope s__law_state_right) := ⟨rfl, rfl, rfl, by decide +kernel, rfl, by decide +kernel, by decide +kernel⟩
abbrev s__law_wrong_right : Stmt := top 54
abbrev n__law_wrong_right : List Str := ["bag", "basis", "model", "large", "gap", "width", "row", "outcome", "k"]
theorem sc__law_wrong_right : FnScope n__law_wrong_right ["bag", "basis", "model", "large"] (defScope s__law_wrong_right) := ⟨rfl, rfl, rfl, by decide +kernel, rfl, by decide +kernel, by decide +kernel⟩
abbrev s__law_added_right : Stmt := top 55
abbrev n__law_added_right : List Str := ["bag", "basis", "model", "row", "as_list", "given", "outcome", "fresh"]
theorem sc__law_added_right : FnScope n__law_added_right ["bag", "basis", "model", "row", "as_list"] (defScope s__law_added_right) := ⟨rfl, rfl, rfl, by decide +kernel, rfl, by decide +kernel, by decide +kernel⟩
abbrev s__law_deed_right : Stmt := top 56
abbrev n__law_deed_right : List Str := ["bag", "bases", "models", "large", "which", "basis", "model", "deed", "look", "as_list", "row"]
theorem sc__law_deed_right : FnScope n__law_deed_right ["bag", "bases", "models", "large"] (defScope s__law_deed_right) := ⟨rfl, rfl, rfl, by decide +kernel, rfl, by decide +kernel, by decide +kernel⟩
abbrev s__law_matrix : Stmt := top 57
abbrev n__law_matrix : List Str := ["bag", "tall", "wide", "large", "rows", "j", "k"]
theorem sc__law_matrix : FnScope n__law_matrix ["bag", "tall", "wide", "large"] (defScope s__law_matrix) := ⟨rfl, rfl, rfl, by decide +kernel, rfl, by decide +kernel, by decide +kernel⟩
abbrev s__law_column : Stmt := top 58
abbrev n__law_column : List Str := ["matrix", "k", "line"]
theorem sc__law_column : FnScope n__law_column ["matrix", "k"] (defScope s__law_column) := ⟨rfl, rfl, rfl, by decide +kernel, rfl, by decide +kernel, by decide +kernel⟩
abbrev s__law_row_times : Stmt := top 59
abbrev n__law_row_times : List Str := ["row", "matrix", "wide", "k"]
theorem sc__law_row_times : FnScope n__law_row_times ["row", "matrix"] (defScope s__law_row_times) := ⟨rfl, rfl, rfl, by decide +kernel, rfl, by decide +kernel, by decide +kernel⟩
abbrev s__law_product_told : Stmt := top 60
abbrev n__law_product_told : List Str := ["left", "right", "door", "told", "raised", "near", "own"]
theorem sc__law_product_told : FnScope n__law_product_told ["left", "right", "door"] (defScope s__law_product_told) := ⟨rfl, rfl, rfl, by decide +kernel, rfl, by decide +kernel, by decide +kernel⟩
abbrev s__law_products_right : Stmt := top 61
abbrev n__law_products_right : List Str := ["bag", "more", "tall", "wide", "width", "matrix", "left", "row", "column", "way", "other", "as_list", "given", "mine", "line", "upright", "first", "second", "third", "k", "one"]
theorem sc__law_products_right : FnScope n__law_products_right ["bag"] (defScope s__law_products_right) := ⟨rfl, rfl, rfl, by decide +kernel, rfl, by decide +kernel, by decide +kernel⟩
abbrev s__law_turned_right : Stmt := top 62
abbrev n__law_turned_right : List Str := ["bag", "tall", "wide", "matrix", "way", "given", "told", "size", "due", "j", "k"]
theorem sc__law_turned_right : FnScope n__law_turned_right ["bag"] (defScope s__law_turned_right) := ⟨rfl, rfl, rfl, by decide +kernel, rfl, by decide +kernel, by decide +kernel⟩
abbrev s_law : Stmt := top 63
abbrev n_law : List Str := ["script", "start", "widths", "large", "models", "bases", "probes", "k", "width", "probe", "place", "door", "j"]
theorem sc_law : FnScope n_law ["script"] (defScope s_law) := ⟨rfl, rfl, rfl, by decide +kernel, rfl, by decide +kernel, by decide +kernel⟩
abbrev s_Basis___init__ : Stmt := inClass (top 26) 0
abbrev n_Basis___init__ : List Str := ["self", "width"]
theorem sc_Basis___init__ : FnScope n_Basis___init__ ["self", "width"] (defScope s_Basis___init__) := ⟨rfl, rfl, rfl, by decide +kernel, rfl, by decide +kernel, by decide +kernel⟩
abbrev s_Basis___len__ : Stmt := inClass (top 26) 1
abbrev n_Basis___len__ : List Str := ["self"]
theorem sc_Basis___len__ : FnScope n_Basis___len__ ["self"] (defScope s_Basis___len__) := ⟨rfl, rfl, rfl, by decide +kernel, rfl, by decide +kernel, by decide +kernel⟩
abbrev s_Basis___contains__ : Stmt := inClass (top 26) 2
abbrev n_Basis___contains__ : List Str := ["self", "row"]
theorem sc_Basis___contains__ : FnScope n_Basis___contains__ ["self", "row"] (defScope s_Basis___contains__) := ⟨rfl, rfl, rfl, by decide +kernel, rfl, by decide +kernel, by decide +kernel⟩
abbrev s_Basis_add : Stmt := inClass (top 26) 4
abbrev n_Basis_add : List Str := ["self", "row", "rest", "parts", "place", "scale", "line"]
theorem sc_Basis_add : FnScope n_Basis_add ["self", "row"] (defScope s_Basis_add) := ⟨rfl, rfl, rfl, by decide +kernel, rfl, by decide +kernel, by decide +kernel⟩
abbrev s_Basis_coordinates : Stmt := inClass (top 26) 5
abbrev n_Basis_coordinates : List Str := ["self", "row", "rest", "parts"]
theorem sc_Basis_coordinates : FnScope n_Basis_coordinates ["self", "row"] (defScope s_Basis_coordinates) := ⟨rfl, rfl, rfl, by decide +kernel, rfl, by decide +kernel, by decide +kernel⟩
abbrev s_Basis__reduced : Stmt := inClass (top 26) 7
abbrev n_Basis__reduced : List Str := ["self", "row", "rest", "found", "place", "line", "parts", "factor"]
theorem sc_Basis__reduced : FnScope n_Basis__reduced ["self", "row"] (defScope s_Basis__reduced) := ⟨rfl, rfl, rfl, by decide +kernel, rfl, by decide +kernel, by decide +kernel⟩
abbrev s_Basis_kept : Stmt := inClass (top 26) 3
abbrev n_Basis_kept : List Str := ["self"]
theorem sc_Basis_kept : FnScope n_Basis_kept ["self"] (defScope s_Basis_kept) := ⟨rfl, rfl, rfl, by decide +kernel, rfl, by decide +kernel, by decide +kernel⟩
/-- what the top has left -/
structure Tx (K : PySem.W.Frag) (mg : Str → Option Value) where
  a_ratio : Addr
  d_ratio : FuncData
  F_ratio : FunD K "ratio" "ratio" (defArgs s_ratio) (defBody s_ratio) (defScope s_ratio) [.int 1] [] a_ratio d_ratio
  g_ratio : mg "ratio" = some (.ref a_ratio)
  k_ratio : PySem.W.keepIn K (.ref a_ratio) = true
  b_ratio : Binds K d_ratio ["above", "below"] []
  a_add : Addr
  d_add : FuncData
  F_add : Fun K "add" "add" s_add a_add d_add
  g_add : mg "add" = some (.ref a_add)
  k_add : PySem.W.keepIn K (.ref a_add) = true
  b_add : Binds K d_add ["p", "q"] []
  a_multiply : Addr
  d_multiply : FuncData
  F_multiply : Fun K "multiply" "multiply" s_multiply a_multiply d_multiply
  g_multiply : mg "multiply" = some (.ref a_multiply)
  k_multiply : PySem.W.keepIn K (.ref a_multiply) = true
  b_multiply : Binds K d_multiply ["p", "q"] []
  a_divide : Addr
  d_divide : FuncData
  F_divide : Fun K "divide" "divide" s_divide a_divide d_divide
  g_divide : mg "divide" = some (.ref a_divide)
  k_divide : PySem.W.keepIn K (.ref a_divide) = true
  b_divide : Binds K d_divide ["p", "q"] []
  a_negate : Addr
  d_negate : FuncData
  F_negate : Fun K "negate" "negate" s_negate a_negate d_negate
  g_negate : mg "negate" = some (.ref a_negate)
  k_negate : PySem.W.keepIn K (.ref a_negate) = true
  b_negate : Binds K d_negate ["p"] []
  a_dot : Addr
  d_dot : FuncData
  F_dot : Fun K "dot" "dot" s_dot a_dot d_dot
  g_dot : mg "dot" = some (.ref a_dot)
  k_dot : PySem.W.keepIn K (.ref a_dot) = true
  b_dot : Binds K d_dot ["row", "column"] []
  a_width_of : Addr
  d_width_of : FuncData
  F_width_of : Fun K "width_of" "width_of" s_width_of a_width_of d_width_of
  g_width_of : mg "width_of" = some (.ref a_width_of)
  k_width_of : PySem.W.keepIn K (.ref a_width_of) = true
  b_width_of : Binds K d_width_of ["matrix"] []
  a_plus_multiple : Addr
  d_plus_multiple : FuncData
  F_plus_multiple : Fun K "plus_multiple" "plus_multiple" s_plus_multiple a_plus_multiple d_plus_multiple
  g_plus_multiple : mg "plus_multiple" = some (.ref a_plus_multiple)
  k_plus_multiple : PySem.W.keepIn K (.ref a_plus_multiple) = true
  b_plus_multiple : Binds K d_plus_multiple ["row", "factor", "other"] []
  a_multiple : Addr
  d_multiple : FuncData
  F_multiple : Fun K "multiple" "multiple" s_multiple a_multiple d_multiple
  g_multiple : mg "multiple" = some (.ref a_multiple)
  k_multiple : PySem.W.keepIn K (.ref a_multiple) = true
  b_multiple : Binds K d_multiple ["factor", "row"] []
  a_row_times : Addr
  d_row_times : FuncData
  F_row_times : Fun K "row_times" "row_times" s_row_times a_row_times d_row_times
  g_row_times : mg "row_times" = some (.ref a_row_times)
  k_row_times : PySem.W.keepIn K (.ref a_row_times) = true
  b_row_times : Binds K d_row_times ["row", "matrix"] []
  a_matrix_times : Addr
  d_matrix_times : FuncData
  F_matrix_times : Fun K "matrix_times" "matrix_times" s_matrix_times a_matrix_times d_matrix_times
  g_matrix_times : mg "matrix_times" = some (.ref a_matrix_times)
  k_matrix_times : PySem.W.keepIn K (.ref a_matrix_times) = true
  b_matrix_times : Binds K d_matrix_times ["left", "right"] []
  a_transposed : Addr
  d_transposed : FuncData
  F_transposed : Fun K "transposed" "transposed" s_transposed a_transposed d_transposed
  g_transposed : mg "transposed" = some (.ref a_transposed)
  k_transposed : PySem.W.keepIn K (.ref a_transposed) = true
  b_transposed : Binds K d_transposed ["matrix"] []
  a_identity : Addr
  d_identity : FuncData
  F_identity : Fun K "identity" "identity" s_identity a_identity d_identity
  g_identity : mg "identity" = some (.ref a_identity)
  k_identity : PySem.W.keepIn K (.ref a_identity) = true
  b_identity : Binds K d_identity ["size"] []
  a_first_nonzero : Addr
  d_first_nonzero : FuncData
  F_first_nonzero : Fun K "first_nonzero" "first_nonzero" s_first_nonzero a_first_nonzero d_first_nonzero
  g_first_nonzero : mg "first_nonzero" = some (.ref a_first_nonzero)
  k_first_nonzero : PySem.W.keepIn K (.ref a_first_nonzero) = true
  b_first_nonzero : Binds K d_first_nonzero ["row"] []
  a__law_bag : Addr
  d__law_bag : FuncData
  F__law_bag : Fun K "_law_bag" "_law_bag" s__law_bag a__law_bag d__law_bag
  g__law_bag : mg "_law_bag" = some (.ref a__law_bag)
  k__law_bag : PySem.W.keepIn K (.ref a__law_bag) = true
  b__law_bag : Binds K d__law_bag ["script", "place"] []
  a__law_draw : Addr
  d__law_draw : FuncData
  F__law_draw : Fun K "_law_draw" "_law_draw" s__law_draw a__law_draw d__law_draw
  g__law_draw : mg "_law_draw" = some (.ref a__law_draw)
  k__law_draw : PySem.W.keepIn K (.ref a__law_draw) = true
  b__law_draw : Binds K d__law_draw ["bag", "size"] []
  a__law_common : Addr
  d__law_common : FuncData
  F__law_common : Fun K "_law_common" "_law_common" s__law_common a__law_common d__law_common
  g__law_common : mg "_law_common" = some (.ref a__law_common)
  k__law_common : PySem.W.keepIn K (.ref a__law_common) = true
  b__law_common : Binds K d__law_common ["one", "two"] []
  a__law_low : Addr
  d__law_low : FuncData
  F__law_low : Fun K "_law_low" "_law_low" s__law_low a__law_low d__law_low
  g__law_low : mg "_law_low" = some (.ref a__law_low)
  k__law_low : PySem.W.keepIn K (.ref a__law_low) = true
  b__law_low : Binds K d__law_low ["above", "under"] []
  a__law_plus : Addr
  d__law_plus : FuncData
  F__law_plus : Fun K "_law_plus" "_law_plus" s__law_plus a__law_plus d__law_plus
  g__law_plus : mg "_law_plus" = some (.ref a__law_plus)
  k__law_plus : PySem.W.keepIn K (.ref a__law_plus) = true
  b__law_plus : Binds K d__law_plus ["p", "q"] []
  a__law_minus : Addr
  d__law_minus : FuncData
  F__law_minus : Fun K "_law_minus" "_law_minus" s__law_minus a__law_minus d__law_minus
  g__law_minus : mg "_law_minus" = some (.ref a__law_minus)
  k__law_minus : PySem.W.keepIn K (.ref a__law_minus) = true
  b__law_minus : Binds K d__law_minus ["p", "q"] []
  a__law_times : Addr
  d__law_times : FuncData
  F__law_times : Fun K "_law_times" "_law_times" s__law_times a__law_times d__law_times
  g__law_times : mg "_law_times" = some (.ref a__law_times)
  k__law_times : PySem.W.keepIn K (.ref a__law_times) = true
  b__law_times : Binds K d__law_times ["p", "q"] []
  a__law_over : Addr
  d__law_over : FuncData
  F__law_over : Fun K "_law_over" "_law_over" s__law_over a__law_over d__law_over
  g__law_over : mg "_law_over" = some (.ref a__law_over)
  k__law_over : PySem.W.keepIn K (.ref a__law_over) = true
  b__law_over : Binds K d__law_over ["p", "q"] []
  a__law_entry : Addr
  d__law_entry : FuncData
  F__law_entry : Fun K "_law_entry" "_law_entry" s__law_entry a__law_entry d__law_entry
  g__law_entry : mg "_law_entry" = some (.ref a__law_entry)
  k__law_entry : PySem.W.keepIn K (.ref a__law_entry) = true
  b__law_entry : Binds K d__law_entry ["bag", "large"] []
  a__law_is_low : Addr
  d__law_is_low : FuncData
  F__law_is_low : Fun K "_law_is_low" "_law_is_low" s__law_is_low a__law_is_low d__law_is_low
  g__law_is_low : mg "_law_is_low" = some (.ref a__law_is_low)
  k__law_is_low : PySem.W.keepIn K (.ref a__law_is_low) = true
  b__law_is_low : Binds K d__law_is_low ["actual"] []
  a__law_equal : Addr
  d__law_equal : FuncData
  F__law_equal : Fun K "_law_equal" "_law_equal" s__law_equal a__law_equal d__law_equal
  g__law_equal : mg "_law_equal" = some (.ref a__law_equal)
  k__law_equal : PySem.W.keepIn K (.ref a__law_equal) = true
  b__law_equal : Binds K d__law_equal ["actual", "due"] []
  a__law_row_equal : Addr
  d__law_row_equal : FuncData
  F__law_row_equal : Fun K "_law_row_equal" "_law_row_equal" s__law_row_equal a__law_row_equal d__law_row_equal
  g__law_row_equal : mg "_law_row_equal" = some (.ref a__law_row_equal)
  k__law_row_equal : PySem.W.keepIn K (.ref a__law_row_equal) = true
  b__law_row_equal : Binds K d__law_row_equal ["actual", "due"] []
  a__law_rows_equal : Addr
  d__law_rows_equal : FuncData
  F__law_rows_equal : Fun K "_law_rows_equal" "_law_rows_equal" s__law_rows_equal a__law_rows_equal d__law_rows_equal
  g__law_rows_equal : mg "_law_rows_equal" = some (.ref a__law_rows_equal)
  k__law_rows_equal : PySem.W.keepIn K (.ref a__law_rows_equal) = true
  b__law_rows_equal : Binds K d__law_rows_equal ["actual", "due"] []
  a__law_dot : Addr
  d__law_dot : FuncData
  F__law_dot : Fun K "_law_dot" "_law_dot" s__law_dot a__law_dot d__law_dot
  g__law_dot : mg "_law_dot" = some (.ref a__law_dot)
  k__law_dot : PySem.W.keepIn K (.ref a__law_dot) = true
  b__law_dot : Binds K d__law_dot ["row", "column"] []
  a__law_grid : Addr
  d__law_grid : FuncData
  F__law_grid : Fun K "_law_grid" "_law_grid" s__law_grid a__law_grid d__law_grid
  g__law_grid : mg "_law_grid" = some (.ref a__law_grid)
  k__law_grid : PySem.W.keepIn K (.ref a__law_grid) = true
  b__law_grid : Binds K d__law_grid ["rows", "way"] []
  a__law_given : Addr
  d__law_given : FuncData
  F__law_given : Fun K "_law_given" "_law_given" s__law_given a__law_given d__law_given
  g__law_given : mg "_law_given" = some (.ref a__law_given)
  k__law_given : PySem.W.keepIn K (.ref a__law_given) = true
  b__law_given : Binds K d__law_given ["row", "as_list"] []
  a__law_combined : Addr
  d__law_combined : FuncData
  F__law_combined : Fun K "_law_combined" "_law_combined" s__law_combined a__law_combined d__law_combined
  g__law_combined : mg "_law_combined" = some (.ref a__law_combined)
  k__law_combined : PySem.W.keepIn K (.ref a__law_combined) = true
  b__law_combined : Binds K d__law_combined ["factors", "rows", "width"] []
  a__law_reduced : Addr
  d__law_reduced : FuncData
  F__law_reduced : Fun K "_law_reduced" "_law_reduced" s__law_reduced a__law_reduced d__law_reduced
  g__law_reduced : mg "_law_reduced" = some (.ref a__law_reduced)
  k__law_reduced : PySem.W.keepIn K (.ref a__law_reduced) = true
  b__law_reduced : Binds K d__law_reduced ["steps", "row"] []
  a__law_first : Addr
  d__law_first : FuncData
  F__law_first : Fun K "_law_first" "_law_first" s__law_first a__law_first d__law_first
  g__law_first : mg "_law_first" = some (.ref a__law_first)
  k__law_first : PySem.W.keepIn K (.ref a__law_first) = true
  b__law_first : Binds K d__law_first ["row"] []
  a__law_entered : Addr
  d__law_entered : FuncData
  F__law_entered : Fun K "_law_entered" "_law_entered" s__law_entered a__law_entered d__law_entered
  g__law_entered : mg "_law_entered" = some (.ref a__law_entered)
  k__law_entered : PySem.W.keepIn K (.ref a__law_entered) = true
  b__law_entered : Binds K d__law_entered ["model", "row"] []
  a__law_held : Addr
  d__law_held : FuncData
  F__law_held : Fun K "_law_held" "_law_held" s__law_held a__law_held d__law_held
  g__law_held : mg "_law_held" = some (.ref a__law_held)
  k__law_held : PySem.W.keepIn K (.ref a__law_held) = true
  b__law_held : Binds K d__law_held ["model", "row"] []
  a__law_row : Addr
  d__law_row : FuncData
  F__law_row : Fun K "_law_row" "_law_row" s__law_row a__law_row d__law_row
  g__law_row : mg "_law_row" = some (.ref a__law_row)
  k__law_row : PySem.W.keepIn K (.ref a__law_row) = true
  b__law_row : Binds K d__law_row ["bag", "model", "large"] []
  a__law_asked : Addr
  d__law_asked : FuncData
  F__law_asked : Fun K "_law_asked" "_law_asked" s__law_asked a__law_asked d__law_asked
  g__law_asked : mg "_law_asked" = some (.ref a__law_asked)
  k__law_asked : PySem.W.keepIn K (.ref a__law_asked) = true
  b__law_asked : Binds K d__law_asked ["basis", "row", "door"] []
  a__law_coordinates_right : Addr
  d__law_coordinates_right : FuncData
  F__law_coordinates_right : Fun K "_law_coordinates_right" "_law_coordinates_right" s__law_coordinates_right a__law_coordinates_right d__law_coordinates_right
  g__law_coordinates_right : mg "_law_coordinates_right" = some (.ref a__law_coordinates_right)
  k__law_coordinates_right : PySem.W.keepIn K (.ref a__law_coordinates_right) = true
  b__law_coordinates_right : Binds K d__law_coordinates_right ["told", "model", "row"] []
  a__law_asked_right : Addr
  d__law_asked_right : FuncData
  F__law_asked_right : Fun K "_law_asked_right" "_law_asked_right" s__law_asked_right a__law_asked_right d__law_asked_right
  g__law_asked_right : mg "_law_asked_right" = some (.ref a__law_asked_right)
  k__law_asked_right : PySem.W.keepIn K (.ref a__law_asked_right) = true
  b__law_asked_right : Binds K d__law_asked_right ["basis", "model", "row", "door", "as_list"] []
  a__law_state_right : Addr
  d__law_state_right : FuncData
  F__law_state_right : Fun K "_law_state_right" "_law_state_right" s__law_state_right a__law_state_right d__law_state_right
  g__law_state_right : mg "_law_state_right" = some (.ref a__law_state_right)
  k__law_state_right : PySem.W.keepIn K (.ref a__law_state_right) = true
  b__law_state_right : Binds K d__law_state_right ["basis", "model"] []
  a__law_wrong_right : Addr
  d__law_wrong_right : FuncData
  F__law_wrong_right : Fun K "_law_wrong_right" "_law_wrong_right" s__law_wrong_right a__law_wrong_right d__law_wrong_right
  g__law_wrong_right : mg "_law_wrong_right" = some (.ref a__law_wrong_right)
  k__law_wrong_right : PySem.W.keepIn K (.ref a__law_wrong_right) = true
  b__law_wrong_right : Binds K d__law_wrong_right ["bag", "basis", "model", "large"] []
  a__law_added_right : Addr
  d__law_added_right : FuncData
  F__law_added_right : Fun K "_law_added_right" "_law_added_right" s__law_added_right a__law_added_right d__law_added_right
  g__law_added_right : mg "_law_added_right" = some (.ref a__law_added_right)
  k__law_added_right : PySem.W.keepIn K (.ref a__law_added_right) = true
  b__law_added_right : Binds K d__law_added_right ["bag", "basis", "model", "row", "as_list"] []
  a__law_deed_right : Addr
  d__law_deed_right : FuncData
  F__law_deed_right : Fun K "_law_deed_right" "_law_deed_right" s__law_deed_right a__law_deed_right d__law_deed_right
  g__law_deed_right : mg "_law_deed_right" = some (.ref a__law_deed_right)
  k__law_deed_right : PySem.W.keepIn K (.ref a__law_deed_right) = true
  b__law_deed_right : Binds K d__law_deed_right ["bag", "bases", "models", "large"] []
  a__law_matrix : Addr
  d__law_matrix : FuncData
  F__law_matrix : Fun K "_law_matrix" "_law_matrix" s__law_matrix a__law_matrix d__law_matrix
  g__law_matrix : mg "_law_matrix" = some (.ref a__law_matrix)
  k__law_matrix : PySem.W.keepIn K (.ref a__law_matrix) = true
  b__law_matrix : Binds K d__law_matrix ["bag", "tall", "wide", "large"] []
  a__law_column : Addr
  d__law_column : FuncData
  F__law_column : Fun K "_law_column" "_law_column" s__law_column a__law_column d__law_column
  g__law_column : mg "_law_column" = some (.ref a__law_column)
  k__law_column : PySem.W.keepIn K (.ref a__law_column) = true
  b__law_column : Binds K d__law_column ["matrix", "k"] []
  a__law_row_times : Addr
  d__law_row_times : FuncData
  F__law_row_times : Fun K "_law_row_times" "_law_row_times" s__law_row_times a__law_row_times d__law_row_times
  g__law_row_times : mg "_law_row_times" = some (.ref a__law_row_times)
  k__law_row_times : PySem.W.keepIn K (.ref a__law_row_times) = true
  b__law_row_times : Binds K d__law_row_times ["row", "matrix"] []
  a__law_product_told : Addr
  d__law_product_told : FuncData
  F__law_product_told : Fun K "_law_product_told" "_law_product_told" s__law_product_told a__law_product_told d__law_product_told
  g__law_product_told : mg "_law_product_told" = some (.ref a__law_product_told)
  k__law_product_told : PySem.W.keepIn K (.ref a__law_product_told) = true
  b__law_product_told : Binds K d__law_product_told ["left", "right", "door"] []
  a__law_products_right : Addr
  d__law_products_right : FuncData
  F__law_products_right : Fun K "_law_products_right" "_law_products_right" s__law_products_right a__law_products_right d__law_products_right
  g__law_products_right : mg "_law_products_right" = some (.ref a__law_products_right)
  k__law_products_right : PySem.W.keepIn K (.ref a__law_products_right) = true
  b__law_products_right : Binds K d__law_products_right ["bag"] []
  a__law_turned_right : Addr
  d__law_turned_right : FuncData
  F__law_turned_right : Fun K "_law_turned_right" "_law_turned_right" s__law_turned_right a__law_turned_right d__law_turned_right
  g__law_turned_right : mg "_law_turned_right" = some (.ref a__law_turned_right)
  k__law_turned_right : PySem.W.keepIn K (.ref a__law_turned_right) = true
  b__law_turned_right : Binds K d__law_turned_right ["bag"] []
  a_law : Addr
  d_law : FuncData
  F_law : Fun K "law" "law" s_law a_law d_law
  g_law : mg "law" = some (.ref a_law)
  k_law : PySem.W.keepIn K (.ref a_law) = true
  b_law : Binds K d_law ["script"] []
  a_Basis___init__ : Addr
  d_Basis___init__ : FuncData
  F_Basis___init__ : Fun K "__init__" "Basis.__init__" s_Basis___init__ a_Basis___init__ d_Basis___init__
  k_Basis___init__ : PySem.W.keepIn K (.ref a_Basis___init__) = true
  b_Basis___init__ : Binds K d_Basis___init__ ["self", "width"] []
  a_Basis___len__ : Addr
  d_Basis___len__ : FuncData
  F_Basis___len__ : Fun K "__len__" "Basis.__len__" s_Basis___len__ a_Basis___len__ d_Basis___len__
  k_Basis___len__ : PySem.W.keepIn K (.ref a_Basis___len__) = true
  b_Basis___len__ : Binds K d_Basis___len__ ["self"] []
  a_Basis___contains__ : Addr
  d_Basis___contains__ : FuncData
  F_Basis___contains__ : Fun K "__contains__" "Basis.__contains__" s_Basis___contains__ a_Basis___contains__ d_Basis___contains__
  k_Basis___contains__ : PySem.W.keepIn K (.ref a_Basis___contains__) = true
  b_Basis___contains__ : Binds K d_Basis___contains__ ["self", "row"] []
  a_Basis_add : Addr
  d_Basis_add : FuncData
  F_Basis_add : Fun K "add" "Basis.add" s_Basis_add a_Basis_add d_Basis_add
  k_Basis_add : PySem.W.keepIn K (.ref a_Basis_add) = true
  b_Basis_add : Binds K d_Basis_add ["self", "row"] []
  a_Basis_coordinates : Addr
  d_Basis_coordinates : FuncData
  F_Basis_coordinates : Fun K "coordinates" "Basis.coordinates" s_Basis_coordinates a_Basis_coordinates d_Basis_coordinates
  k_Basis_coordinates : PySem.W.keepIn K (.ref a_Basis_coordinates) = true
  b_Basis_coordinates : Binds K d_Basis_coordinates ["self", "row"] []
  a_Basis__reduced : Addr
  d_Basis__reduced : FuncData
  F_Basis__reduced : Fun K "_reduced" "Basis._reduced" s_Basis__reduced a_Basis__reduced d_Basis__reduced
  k_Basis__reduced : PySem.W.keepIn K (.ref a_Basis__reduced) = true
  b_Basis__reduced : Binds K d_Basis__reduced ["self", "row"] []
  a_Basis_kept : Addr
  d_Basis_kept : FuncData
  F_Basis_kept : Fun K "kept" "Basis.kept" s_Basis_kept a_Basis_kept d_Basis_kept
  k_Basis_kept : PySem.W.keepIn K (.ref a_Basis_kept) = true
  b_Basis_kept : Binds K d_Basis_kept ["self"] []
  a_Basis : Addr
  g_Basis : mg "Basis" = some (.ref a_Basis)
  cl_Basis : Cls K a_Basis
  m_Basis___len__ : Meth K a_Basis "__len__" a_Basis___len__
  m_Basis___contains__ : Meth K a_Basis "__contains__" a_Basis___contains__
  m_Basis_add : Meth K a_Basis "add" a_Basis_add
  m_Basis_coordinates : Meth K a_Basis "coordinates" a_Basis_coordinates
  m_Basis__reduced : Meth K a_Basis "_reduced" a_Basis__reduced
  mk_Basis : Mk K a_Basis a_Basis___init__
  r_Basis_kept : Addr
  p_Basis_kept : PropOf K a_Basis "kept" r_Basis_kept a_Basis_kept
  no_Basis_width : NoAttr K a_Basis "width"
  no_Basis__rows : NoAttr K a_Basis "_rows"
  no_Basis__lines : NoAttr K a_Basis "_lines"
  n_len : mg "len" = none
  n_abs : mg "abs" = none
  n_sum : mg "sum" = none
  n_min : mg "min" = none
  n_isinstance : mg "isinstance" = none
  n_int : mg "int" = none
  n_list : mg "list" = none
  n_tuple : mg "tuple" = none
  n_bool : mg "bool" = none
  n_range : mg "range" = none
  n_enumerate : mg "enumerate" = none
  n_reversed : mg "reversed" = none
  n_zip : mg "zip" = none
  n_ValueError : mg "ValueError" = none
  g_gcd : mg "gcd" = some (.builtin "math.gcd")
  a_ZERO : Addr
  g_ZERO : mg "ZERO" = some (.ref a_ZERO)
  z_ZERO : ∀ H : Hp, SqT K H a_ZERO [.int 0, .int 1]
  a_ONE : Addr
  g_ONE : mg "ONE" = some (.ref a_ONE)
  z_ONE : ∀ H : Hp, SqT K H a_ONE [.int 1, .int 1]
  a_SteelyardError : Addr
  g_SteelyardError : mg "SteelyardError" = some (.ref a_SteelyardError)
  k_SteelyardError : PySem.W.keepIn K (.ref a_SteelyardError) = true
  a_LimitError : Addr
  g_LimitError : mg "LimitError" = some (.ref a_LimitError)
  k_LimitError : PySem.W.keepIn K (.ref a_LimitError) = true
  a_ZeroBelow : Addr
  g_ZeroBelow : mg "ZeroBelow" = some (.ref a_ZeroBelow)
  k_ZeroBelow : PySem.W.keepIn K (.ref a_ZeroBelow) = true
  a_WrongWidth : Addr
  g_WrongWidth : mg "WrongWidth" = some (.ref a_WrongWidth)
  k_WrongWidth : PySem.W.keepIn K (.ref a_WrongWidth) = true
  i_WrongWidth : Addr
  xt_WrongWidth : PySem.LyE.ExTxt PP K mg "WrongWidth" ["want", "got"] a_WrongWidth i_WrongWidth
  xc_WrongWidth : ExcC K a_WrongWidth
  em_WrongWidth : PySem.W.exmOne K (.ref a_WrongWidth) (.ref a_WrongWidth) = some true
  a_Singular : Addr
  g_Singular : mg "Singular" = some (.ref a_Singular)
  k_Singular : PySem.W.keepIn K (.ref a_Singular) = true
  q_WrongWidth_LimitError : PySem.W.kitOne K (.ref a_WrongWidth) (.ref a_LimitError) = some false
  q_WrongWidth_Singular : PySem.W.kitOne K (.ref a_WrongWidth) (.ref a_Singular) = some false
  q_WrongWidth_SteelyardError : PySem.W.kitOne K (.ref a_WrongWidth) (.ref a_SteelyardError) = some true
  q_WrongWidth_ValueError : PySem.W.kitOne K (.ref a_WrongWidth) (.type "ValueError") = some true
end K01


local macro_rules | `(tactic| walk_at "bits") => `(tactic| first
  | exact Or.inl (Or.inl ⟨by omega, by omega⟩) | exact Or.inl (Or.inr ⟨by omega, by omega⟩)
  | exact Ly.Bz.cmul (by assumption) (by assumption) (by omega)
  | exact Or.inr ⟨400, 400, by decide +kernel, by decide +kernel, by decide⟩
  | exact Or.inr ⟨800, 800, by decide +kernel, by decide +kernel, by decide⟩)
local macro_rules | `(tactic| walk_at "sq") => `(tactic| first
  | assumption
  | ((with_reducible apply L2.Same.t); (focus assumption); walk_at "sq")
  | ((with_reducible apply L2.Same.sq); (focus assumption); walk_at "sq")
  | ((with_reducible apply Ly.same_fr); (focus assumption); walk_at "sq"))
local macro_rules | `(tactic| walk_at "st1") => `(tactic| first
  | with_reducible refine Ly.st_seqC ?_
  | with_reducible refine Ly.st_asgC ?_
  | with_reducible refine Ly.st_retC ?_
  | with_reducible refine Ly.st_nextC ?_
  | with_reducible refine Ly.st_dropC ?_
  | with_reducible refine Ly.st_seq ?_
  | with_reducible refine Ly.st_asg ?_
  | with_reducible refine Ly.st_nx ?_
  | with_reducible refine Ly.st_rt ?_
  | ((with_reducible show L2.tVar _ _ _ _); refine Ly.st_var rfl ?_)
  | with_reducible refine Ly.st_c ?_
  | with_reducible refine Ly.st_op ?_
  | ((with_reducible refine Ly.st_name ?_); (try dsimp only [List.set]))
  | with_reducible refine Ly.st_ifs ?_
  | with_reducible refine Ly.st_ret ?_
  | with_reducible refine Ly.st_cons ?_
  | with_reducible refine Ly.st_nil ?_
  | with_reducible refine Ly.st_cb ?_
  | with_reducible refine Ly.st_bm ?_
  | with_reducible refine Ly.st_call ?_
  | with_reducible refine Ly.st_test ?_
  | with_reducible refine Ly.st_ex ?_
  | with_reducible refine Ly.st_truth ?_
  | with_reducible refine Ly.st_un ?_
  | with_reducible refine Ly.st_neg ?_
  | with_reducible refine Ly.st_nextS ?_
  | with_reducible refine Ly.st_drop ?_
  | with_reducible refine Ly.st_not ?_
  | with_reducible refine Ly.st_and ?_
  | with_reducible refine Ly.st_or ?_
  | with_reducible refine Ly.st_andV ?_
  | with_reducible refine Ly.st_orV ?_
  | with_reducible refine Ly.st_notV ?_
  | with_reducible refine Ly.st_ifE ?_
  | with_reducible refine Ly.st_callS ?_
  | with_reducible refine Ly.u_iteF ?_
  | with_reducible refine Ly.u_iteT ?_
  | with_reducible refine Ly.u_iteNT ?_
  | with_reducible refine Ly.u_iteNF ?_
  | with_reducible refine Ly.st_exB ?_
  | with_reducible refine Ly.u_isII ?_
  | with_reducible refine Ly.u_isIB ?_
  | with_reducible refine Ly.st_tup01 ?_
  | with_reducible refine Ly.st_tup11 ?_
  | with_reducible refine Ly.st_tup ?_
  | with_reducible refine Ly.st_lst ?_
  | with_reducible refine Ly.st_par ?_
  | with_reducible refine Ly.st_sub ?_
  | with_reducible refine Ly.st_sl ?_
  | with_reducible refine Ly.st_nopart ?_
  | with_reducible refine Ly.st_part ?_
  | with_reducible refine Ly.st_exI ?_
  | with_reducible refine Ly.st_ex2 ?_
  | with_reducible refine Ly.u_add ?_
  | with_reducible refine Ly.u_rI0 ?_
  | with_reducible refine Ly.u_eq ?_
  | with_reducible refine Ly.u_ne ?_
  | with_reducible refine Ly.u_truB ?_
  | with_reducible refine Ly.u_int ?_
  | with_reducible refine Ly.u_intB ?_
  | with_reducible refine Ly.u_abs ?_
  | ((with_reducible show Ly.rLenU _ _ _ _); refine Ly.u_len (by walk_at "sq") ?_)
  | with_reducible refine Ly.u_max ?_
  | with_reducible refine Ly.u_tru ?_
  | (with_reducible refine Ly.u_fr0 (by walk_at "sq") ?_)
  | (with_reducible refine Ly.u_fr1 (by walk_at "sq") ?_)
  | ((with_reducible refine Ly.u_mul ?c ?_); (case c => walk_at "bits"))
  | with_reducible refine Ly.st_for ?_
  | with_reducible refine Ly.st_lc ?_
  | with_reducible refine Ly.st_iSeq ?_
  | with_reducible refine Ly.st_iEnum ?_
  | with_reducible refine Ly.st_iRev ?_
  | with_reducible refine Ly.st_iZip ?_
  | with_reducible refine Ly.st_mkX ?_
  | with_reducible refine Ly.st_fldS ?_
  | with_reducible refine Ly.st_fldG ?_
  | with_reducible refine Ly.st_methW ?_
  | with_reducible refine Ly.st_inO ?_
  | with_reducible refine Ly.st_prop ?_
  | with_reducible refine Ly.st_make ?_
  | with_reducible refine Ly.st_tupZipS ?_
  | with_reducible refine Ly.st_fldX ?_
  | with_reducible refine Ly.u_isN ?_
  | with_reducible refine Ly.u_isI ?_
  | with_reducible refine Ly.u_isR ?_
  | with_reducible refine Ly.u_noN ?_
  | with_reducible refine Ly.u_noR ?_
  | with_reducible refine Ly.st_iRng1 ?_
  | with_reducible refine Ly.st_iRng2 ?_
  | ((with_reducible refine Ly.u_pow ?c ?_); (case c => exact ⟨by decide, by decide, by decide⟩))
  | ((with_reducible show L2.rIx _ _ _ _ _); refine Ly.u_ixL (by assumption) rfl ?_)
  | ((with_reducible refine Ly.u_moP ?c ?_); (case c => first | assumption | omega | decide))
  | ((with_reducible refine Ly.u_fdPos ?c ?_); (case c => first | assumption | omega | decide))
  | ((with_reducible refine Ly.u_mo ?c ?_); (case c => first | assumption | omega))
  | ((with_reducible refine Ly.u_fd ?c ?_); (case c => first | assumption | omega)))
local macro_rules | `(tactic| walk_at "st") => `(tactic| repeat walk_at "st1")
local macro_rules | `(tactic| walk_at "go") => `(tactic| ((try dsimp only [L2.cxOf]); walk_at "st"))

set_option maxHeartbeats 4000000
namespace K01
open PySem PySem.Spec PyProof.Rows L2 Ly


section
variable {w : World} {K : PySem.W.Frag} {mg : Str → Option Value} {base : Heap}
/-- _law_common(one, two): the greatest common divisor -/
def sp_common : Sp := fun vs H Q _ => ∃ a b : Int, vs = [.int a, .int b] ∧ Q (.int (Nat.gcd a.natAbs b.natAbs : Nat)) H
theorem ok__law_common (T : Tx K mg) (hseer : base.NoSeer) : FnOk PP w K mg base CX0 36 T.a__law_common T.d__law_common ["one", "two"] sp_common := by
  refine T.F__law_common.ok sc__law_common (fun vs H Q E h => ?_) (fun cdv A outer s H vs Q E hr h => ?_)
  · obtain ⟨a, b, rfl, _⟩ := h; rfl
  · obtain ⟨a, b, rfl, k⟩ := h
    refine ⟨_, (pss_cons (ps_set (i := 0) (sc__law_common).nd rfl (by first | exact Or.inl rfl | exact Or.inr rfl) (pe_callB call_absU (by rfl) T.n_abs (by decide +kernel) (pa_cons (pv 0) pa_nil)))
  (pss_cons (ps_set (i := 1) (sc__law_common).nd rfl (by first | exact Or.inl rfl | exact Or.inr rfl) (pe_callB call_absU (by rfl) T.n_abs (by decide +kernel) (pa_cons (pv 1) pa_nil)))
  (pss_cons (ps_while PassesOwn.never (pt_cmpR (op_neU hr.units) (pv 1) pe_int (nomark _))
   (pss_cons (ps_set (i := 2) (sc__law_common).nd rfl (by first | exact Or.inl rfl | exact Or.inr rfl) (pe_op op_modU (pe_callTy call_intU (by rfl) T.n_int (by decide +kernel) (pa_cons (pv 0) pa_nil)) (pv 1)))
  (pss_cons (ps_set (i := 0) (sc__law_common).nd rfl (by first | exact Or.inl rfl | exact Or.inr rfl) (pv 1))
  (pss_one (ps_set (i := 1) (sc__law_common).nd rfl (by first | exact Or.inl rfl | exact Or.inr rfl) (pv 2))))))
  (pss_one (ps_ret (pv 0)))))), ?_⟩
    walk_at "go"
    refine ⟨fun m σ H' => H' = H ∧ ∃ (x y : Int) (l : Option V), σ = [some (.int x), some (.int y), l] ∧ 0 ≤ x ∧ 0 ≤ y ∧ Nat.gcd x.natAbs y.natAbs = Nat.gcd a.natAbs b.natAbs ∧ m = y.toNat,
      ⟨_, rfl, _, _, _, rfl, by split <;> omega, by split <;> omega, by congr 1 <;> (split <;> omega), rfl⟩, ?_⟩
    rintro m σ H' ⟨rfl, x, y, l, rfl, h1, h2, h3, rfl⟩
    walk_at "st"
    refine u_iteN (fun h => ⟨_, fun _ _ q => q, ?_⟩) (fun h => ?_)
    · walk_at "st"
      refine ⟨_, ?_, rfl, _, _, _, rfl, h2, ?_, ?_, rfl⟩
      · have := Int.emod_lt_of_pos x (show 0 < y by omega)
        omega
      · exact Int.emod_nonneg _ h
      · rw [← h3, Nat.gcd_comm x.natAbs, Nat.gcd_rec y.natAbs x.natAbs, Nat.gcd_comm]
        congr 1
        rw [Int.natAbs_emod_of_nonneg h1]
    · subst h
      walk_at "st"
      have e : x = ((Nat.gcd a.natAbs b.natAbs : Nat) : Int) := by
        rw [← h3]
        simp
        omega
      rw [e]
      exact k
/-- _law_low(above, under) -/
def sp_low (K : PySem.W.Frag) : Sp := fun vs H Q _ => ∃ a u : Int, vs = [.int a, .int u] ∧ u ≠ 0 ∧ RetFr K (Rat.divInt a u) H Q
theorem sign_if {a u : Int} (h : u ≠ 0) (c : u < 0) : 0 - ((Nat.gcd a.natAbs u.natAbs : Nat) : Int) = (Nat.gcd a.natAbs u.natAbs : Int) * u.sign := by
  rw [Int.sign_eq_neg_one_of_neg c]; omega
theorem sign_ifN {a u : Int} (h : u ≠ 0) (c : ¬ u < 0) : ((Nat.gcd a.natAbs u.natAbs : Nat) : Int) = (Nat.gcd a.natAbs u.natAbs : Int) * u.sign := by
  rw [Int.sign_eq_one_of_pos (by omega)]; omega
theorem ok__law_low (T : Tx K mg) (hseer : base.NoSeer) : FnOk PP w K mg base CX0 37 T.a__law_low T.d__law_low ["above", "under"] (sp_low K) := by
  refine T.F__law_low.ok sc__law_low (fun vs H Q E h => ?_) (fun cdv A outer s H vs Q E hr h => ?_)
  · obtain ⟨a, b, rfl, _⟩ := h; rfl
  · obtain ⟨a, u, rfl, hu, k⟩ := h
    refine ⟨_, (pss_cons (ps_set (i := 2) (sc__law_low).nd rfl (by first | exact Or.inl rfl | exact Or.inr rfl) (pe_call (ok__law_common T hseer) (hr.mono (by decide)) rfl T.g__law_common T.k__law_common T.b__law_common .nil pass0 (pa_cons (pv 0) (pa_cons (pv 1) pa_nil))))
  (pss_cons (ps_if (pt_cmpR op_lt (pv 1) pe_int (nomark _))
   (pss_one (ps_set (i := 2) (sc__law_low).nd rfl (by first | exact Or.inl rfl | exact Or.inr rfl) (pe_op op_sub pe_int (pv 2))))
   pss_nil)
  (pss_one (ps_ret (pe_tup (pa_cons (pe_op (op_fdivP hseer hr) (pv 0) (pv 2)) (pa_cons (pe_op (op_fdivP hseer hr) (pv 1) (pv 2)) pa_nil))))))), ?_⟩
    walk_at "go"
    refine ⟨_, _, rfl, ?_⟩
    walk_at "st"
    refine u_ite (fun h => ?_) (fun h => ?_)
    · obtain ⟨g0, g1, g2⟩ := low_eq hu (sign_if (a := a) hu h)
      walk_at "st"
      exact u_tupFr k g1 g2
    · obtain ⟨g0, g1, g2⟩ := low_eq hu (sign_ifN (a := a) hu h)
      rw [Int.fdiv_eq_ediv_of_nonneg _ (by omega)] at g1 g2
      walk_at "st"
      exact u_tupFr k g1 g2
theorem ok_ratio (T : Tx K mg) (hseer : base.NoSeer) : FnOk PP w K mg base CX0 36 T.a_ratio T.d_ratio ["above", "below"] (sp_low K) := by
  refine T.F_ratio.ok sc_ratio (fun vs H Q E h => ?_) (fun cdv A outer s H vs Q E hr h => ?_)
  · obtain ⟨a, b, rfl, _⟩ := h; rfl
  · obtain ⟨a, u, rfl, hu, k⟩ := h
    refine ⟨_, (pss_cons (ps_if (pt_cmpR (op_eqU hr.units) (pv 1) pe_int (nomark _))
   (pss_one (ps_ret (pe_tup (pa_cons (pv 0) (pa_cons pe_int pa_nil)))))
   pss_nil)
  (pss_cons (ps_if (pt_cmpR (op_eqU hr.units) (pv 1) pe_int (nomark _))
   (pss_one ps_never)
   pss_nil)
  (pss_cons (ps_set (i := 2) (sc_ratio).nd rfl (by first | exact Or.inl rfl | exact Or.inr rfl) (pe_callBfun cr_gcd rfl T.g_gcd (pa_cons (pv 0) (pa_cons (pv 1) pa_nil))))
  (pss_cons (ps_if (pt_cmpR op_lt (pv 1) pe_int (nomark _))
   (pss_one (ps_set (i := 2) (sc_ratio).nd rfl (by first | exact Or.inl rfl | exact Or.inr rfl) (pe_un un_neg (pv 2))))
   pss_nil)
  (pss_one (ps_ret (pe_tup (pa_cons (pe_op (op_fdivP hseer hr) (pv 0) (pv 2)) (pa_cons (pe_op (op_fdivP hseer hr) (pv 1) (pv 2)) pa_nil))))))))), ?_⟩
    walk_at "go"
    refine u_ite (fun h => ?_) (fun h => ?_)
    · subst h
      walk_at "st"
      refine u_tupFr k ?_ ?_
      · rw [Rat.num_divInt]; simp
      · rw [Rat.den_divInt]; simp
    walk_at "st"
    refine u_ite (fun h => absurd h hu) (fun _ => ?_)
    walk_at "st"
    refine ⟨_, _, rfl, ?_⟩
    walk_at "st"
    refine u_ite (fun h => ?_) (fun h => ?_)
    · have e := sign_if (a := a) hu h
      rw [Int.zero_sub] at e
      obtain ⟨g0, g1, g2⟩ := low_eq hu e
      walk_at "st"
      exact u_tupFr k g1 g2
    · obtain ⟨g0, g1, g2⟩ := low_eq hu (sign_ifN (a := a) hu h)
      rw [Int.fdiv_eq_ediv_of_nonneg _ (by omega)] at g1 g2
      walk_at "st"
      exact u_tupFr k g1 g2
/-- two fractions of n bits -/
def sp_two (K : PySem.W.Frag) (f : Rat → Rat → Rat) : Sp := fun vs H Q _ => ∃ (v w : V) (p q : Rat) (n : Nat), vs = [v, w] ∧ Fr K H v p ∧ Fr K H w q ∧ Bq n p ∧ Bq n q ∧ n ≤ 60000000 ∧ RetFr K (f p q) H Q
theorem dd_ne (p q : Rat) : (p.den : Int) * (q.den : Int) ≠ 0 := by
  have := p.den_nz
  have := q.den_nz
  exact Int.mul_ne_zero (by omega) (by omega)
theorem ok_add (T : Tx K mg) (hseer : base.NoSeer) : FnOk PP w K mg base CX0 37 T.a_add T.d_add ["p", "q"] (sp_two K fun p q => p + q) := by
  refine T.F_add.ok sc_add (fun vs H Q E h => ?_) (fun cdv A outer s H vs Q E hr h => ?_)
  · obtain ⟨_, _, _, _, _, rfl, _⟩ := h; rfl
  · obtain ⟨v, w, p, q, n, rfl, ⟨a, rfl, hp⟩, ⟨b, rfl, hq⟩, ⟨p1, p2⟩, ⟨q1, q2⟩, hn, k⟩ := h
    have dp := p.den_nz
    have dq := q.den_nz
    refine ⟨_, (pss_cons (ps_if (pt_cmpR (op_eqU hr.units) (pe_ix ix_seq (pv 0) pe_int (fun _ _ => rfl)) pe_int (nomark _))
   (pss_one (ps_ret (pv 1)))
   pss_nil)
  (pss_cons (ps_if (pt_cmpR (op_eqU hr.units) (pe_ix ix_seq (pv 0) pe_int (fun _ _ => rfl)) (pe_ix ix_seq (pv 1) pe_int (fun _ _ => rfl)) (nomark _))
   (pss_one (ps_ret (pe_call (ok_ratio T hseer) (hr.mono (by decide)) rfl T.g_ratio T.k_ratio T.b_ratio .nil pass0 (pa_cons (pe_op op_addU (pe_ix ix_seq (pv 0) pe_int (fun _ _ => rfl)) (pe_ix ix_seq (pv 1) pe_int (fun _ _ => rfl))) (pa_cons (pe_ix ix_seq (pv 0) pe_int (fun _ _ => rfl)) pa_nil)))))
   pss_nil)
  (pss_one (ps_ret (pe_call (ok_ratio T hseer) (hr.mono (by decide)) rfl T.g_ratio T.k_ratio T.b_ratio .nil pass0 (pa_cons (pe_op op_addU (pe_op op_mulU (pe_ix ix_seq (pv 0) pe_int (fun _ _ => rfl)) (pe_ix ix_seq (pv 1) pe_int (fun _ _ => rfl))) (pe_op op_mulU (pe_ix ix_seq (pv 1) pe_int (fun _ _ => rfl)) (pe_ix ix_seq (pv 0) pe_int (fun _ _ => rfl)))) (pa_cons (pe_op op_mulU (pe_ix ix_seq (pv 0) pe_int (fun _ _ => rfl)) (pe_ix ix_seq (pv 1) pe_int (fun _ _ => rfl))) pa_nil))))))), ?_⟩
    walk_at "go"
    refine u_ite (fun h => ?_) (fun h => ?_)
    · walk_at "st"
      have e : q = p + q := by
        have : p = 0 := Rat.num_eq_zero.mp h
        rw [this, Rat.zero_add]
      exact (k.at (Same.refl H) e) _ _ (Same.refl H) ⟨b, rfl, hq⟩
    walk_at "st"
    refine u_ite (fun h2 => ?_) (fun h2 => ?_)
    · walk_at "st"
      refine ⟨_, _, rfl, by omega, k.at (Same.refl H) ?_⟩
      show _ = p + q
      rw [← add_div, h2, ← Int.add_mul]
      rw [Rat.divInt_mul_right (by omega)]
    · walk_at "st"
      exact ⟨_, _, rfl, dd_ne p q, k.at (Same.refl H) (add_div p q)⟩
theorem ok_multiply (T : Tx K mg) (hseer : base.NoSeer) : FnOk PP w K mg base CX0 37 T.a_multiply T.d_multiply ["p", "q"] (sp_two K fun p q => p * q) := by
  refine T.F_multiply.ok sc_multiply (fun vs H Q E h => ?_) (fun cdv A outer s H vs Q E hr h => ?_)
  · obtain ⟨_, _, _, _, _, rfl, _⟩ := h; rfl
  · obtain ⟨v, w, p, q, n, rfl, ⟨a, rfl, hp⟩, ⟨b, rfl, hq⟩, ⟨p1, p2⟩, ⟨q1, q2⟩, hn, k⟩ := h
    have dp := p.den_nz
    have dq := q.den_nz
    refine ⟨_, (pss_one (ps_ret (pe_call (ok_ratio T hseer) (hr.mono (by decide)) rfl T.g_ratio T.k_ratio T.b_ratio .nil pass0 (pa_cons (pe_op op_mulU (pe_ix ix_seq (pv 0) pe_int (fun _ _ => rfl)) (pe_ix ix_seq (pv 1) pe_int (fun _ _ => rfl))) (pa_cons (pe_op op_mulU (pe_ix ix_seq (pv 0) pe_int (fun _ _ => rfl)) (pe_ix ix_seq (pv 1) pe_int (fun _ _ => rfl))) pa_nil))))), ?_⟩
    walk_at "go"
    exact ⟨_, _, rfl, dd_ne p q, k.at (Same.refl H) (mul_div p q)⟩
theorem ok__law_plus (T : Tx K mg) (hseer : base.NoSeer) : FnOk PP w K mg base CX0 38 T.a__law_plus T.d__law_plus ["p", "q"] (sp_two K fun p q => p + q) := by
  refine T.F__law_plus.ok sc__law_plus (fun vs H Q E h => ?_) (fun cdv A outer s H vs Q E hr h => ?_)
  · obtain ⟨_, _, _, _, _, rfl, _⟩ := h; rfl
  · obtain ⟨v, w, p, q, n, rfl, ⟨a, rfl, hp⟩, ⟨b, rfl, hq⟩, ⟨p1, p2⟩, ⟨q1, q2⟩, hn, k⟩ := h
    have dp := p.den_nz
    have dq := q.den_nz
    refine ⟨_, (pss_one (ps_ret (pe_call (ok__law_low T hseer) (hr.mono (by decide)) rfl T.g__law_low T.k__law_low T.b__law_low .nil pass0 (pa_cons (pe_op op_addU (pe_op op_mulU (pe_ix ix_seq (pv 0) pe_int (fun _ _ => rfl)) (pe_ix ix_seq (pv 1) pe_int (fun _ _ => rfl))) (pe_op op_mulU (pe_ix ix_seq (pv 1) pe_int (fun _ _ => rfl)) (pe_ix ix_seq (pv 0) pe_int (fun _ _ => rfl)))) (pa_cons (pe_op op_mulU (pe_ix ix_seq (pv 0) pe_int (fun _ _ => rfl)) (pe_ix ix_seq (pv 1) pe_int (fun _ _ => rfl))) pa_nil))))), ?_⟩
    walk_at "go"
    exact ⟨_, _, rfl, dd_ne p q, k.at (Same.refl H) (add_div p q)⟩
theorem ok__law_minus (T : Tx K mg) (hseer : base.NoSeer) : FnOk PP w K mg base CX0 38 T.a__law_minus T.d__law_minus ["p", "q"] (sp_two K fun p q => p - q) := by
  refine T.F__law_minus.ok sc__law_minus (fun vs H Q E h => ?_) (fun cdv A outer s H vs Q E hr h => ?_)
  · obtain ⟨_, _, _, _, _, rfl, _⟩ := h; rfl
  · obtain ⟨v, w, p, q, n, rfl, ⟨a, rfl, hp⟩, ⟨b, rfl, hq⟩, ⟨p1, p2⟩, ⟨q1, q2⟩, hn, k⟩ := h
    have dp := p.den_nz
    have dq := q.den_nz
    refine ⟨_, (pss_one (ps_ret (pe_call (ok__law_low T hseer) (hr.mono (by decide)) rfl T.g__law_low T.k__law_low T.b__law_low .nil pass0 (pa_cons (pe_op op_sub (pe_op op_mulU (pe_ix ix_seq (pv 0) pe_int (fun _ _ => rfl)) (pe_ix ix_seq (pv 1) pe_int (fun _ _ => rfl))) (pe_op op_mulU (pe_ix ix_seq (pv 1) pe_int (fun _ _ => rfl)) (pe_ix ix_seq (pv 0) pe_int (fun _ _ => rfl)))) (pa_cons (pe_op op_mulU (pe_ix ix_seq (pv 0) pe_int (fun _ _ => rfl)) (pe_ix ix_seq (pv 1) pe_int (fun _ _ => rfl))) pa_nil))))), ?_⟩
    walk_at "go"
    exact ⟨_, _, rfl, dd_ne p q, k.at (Same.refl H) (sub_div p q)⟩
theorem ok__law_times (T : Tx K mg) (hseer : base.NoSeer) : FnOk PP w K mg base CX0 38 T.a__law_times T.d__law_times ["p", "q"] (sp_two K fun p q => p * q) := by
  refine T.F__law_times.ok sc__law_times (fun vs H Q E h => ?_) (fun cdv A outer s H vs Q E hr h => ?_)
  · obtain ⟨_, _, _, _, _, rfl, _⟩ := h; rfl
  · obtain ⟨v, w, p, q, n, rfl, ⟨a, rfl, hp⟩, ⟨b, rfl, hq⟩, ⟨p1, p2⟩, ⟨q1, q2⟩, hn, k⟩ := h
    have dp := p.den_nz
    have dq := q.den_nz
    refine ⟨_, (pss_one (ps_ret (pe_call (ok__law_low T hseer) (hr.mono (by decide)) rfl T.g__law_low T.k__law_low T.b__law_low .nil pass0 (pa_cons (pe_op op_mulU (pe_ix ix_seq (pv 0) pe_int (fun _ _ => rfl)) (pe_ix ix_seq (pv 1) pe_int (fun _ _ => rfl))) (pa_cons (pe_op op_mulU (pe_ix ix_seq (pv 0) pe_int (fun _ _ => rfl)) (pe_ix ix_seq (pv 1) pe_int (fun _ _ => rfl))) pa_nil))))), ?_⟩
    walk_at "go"
    exact ⟨_, _, rfl, dd_ne p q, k.at (Same.refl H) (mul_div p q)⟩
/-- the second one not zero -/
def sp_quo (K : PySem.W.Frag) : Sp := fun vs H Q _ => ∃ (v w : V) (p q : Rat) (n : Nat), vs = [v, w] ∧ Fr K H v p ∧ Fr K H w q ∧ Bq n p ∧ Bq n q ∧ n ≤ 60000000 ∧ q ≠ 0 ∧ RetFr K (p / q) H Q
theorem dn_ne (p : Rat) {q : Rat} (h : q ≠ 0) : (p.den : Int) * q.num ≠ 0 := by
  have := p.den_nz
  exact Int.mul_ne_zero (by omega) (num_ne.mpr h)
theorem ok_divide (T : Tx K mg) (hseer : base.NoSeer) : FnOk PP w K mg base CX0 37 T.a_divide T.d_divide ["p", "q"] (sp_quo K) := by
  refine T.F_divide.ok sc_divide (fun vs H Q E h => ?_) (fun cdv A outer s H vs Q E hr h => ?_)
  · obtain ⟨_, _, _, _, _, rfl, _⟩ := h; rfl
  · obtain ⟨v, w, p, q, n, rfl, ⟨a, rfl, hp⟩, ⟨b, rfl, hq⟩, ⟨p1, p2⟩, ⟨q1, q2⟩, hn, h0, k⟩ := h
    have dp := p.den_nz
    have dq := q.den_nz
    refine ⟨_, (pss_one (ps_ret (pe_call (ok_ratio T hseer) (hr.mono (by decide)) rfl T.g_ratio T.k_ratio T.b_ratio .nil pass0 (pa_cons (pe_op op_mulU (pe_ix ix_seq (pv 0) pe_int (fun _ _ => rfl)) (pe_ix ix_seq (pv 1) pe_int (fun _ _ => rfl))) (pa_cons (pe_op op_mulU (pe_ix ix_seq (pv 0) pe_int (fun _ _ => rfl)) (pe_ix ix_seq (pv 1) pe_int (fun _ _ => rfl))) pa_nil))))), ?_⟩
    walk_at "go"
    exact ⟨_, _, rfl, dn_ne p h0, k.at (Same.refl H) (div_div p q h0)⟩
theorem ok__law_over (T : Tx K mg) (hseer : base.NoSeer) : FnOk PP w K mg base CX0 38 T.a__law_over T.d__law_over ["p", "q"] (sp_quo K) := by
  refine T.F__law_over.ok sc__law_over (fun vs H Q E h => ?_) (fun cdv A outer s H vs Q E hr h => ?_)
  · obtain ⟨_, _, _, _, _, rfl, _⟩ := h; rfl
  · obtain ⟨v, w, p, q, n, rfl, ⟨a, rfl, hp⟩, ⟨b, rfl, hq⟩, ⟨p1, p2⟩, ⟨q1, q2⟩, hn, h0, k⟩ := h
    have dp := p.den_nz
    have dq := q.den_nz
    refine ⟨_, (pss_one (ps_ret (pe_call (ok__law_low T hseer) (hr.mono (by decide)) rfl T.g__law_low T.k__law_low T.b__law_low .nil pass0 (pa_cons (pe_op op_mulU (pe_ix ix_seq (pv 0) pe_int (fun _ _ => rfl)) (pe_ix ix_seq (pv 1) pe_int (fun _ _ => rfl))) (pa_cons (pe_op op_mulU (pe_ix ix_seq (pv 0) pe_int (fun _ _ => rfl)) (pe_ix ix_seq (pv 1) pe_int (fun _ _ => rfl))) pa_nil))))), ?_⟩
    walk_at "go"
    exact ⟨_, _, rfl, dn_ne p h0, k.at (Same.refl H) (div_div p q h0)⟩
def sp_neg (K : PySem.W.Frag) : Sp := fun vs H Q _ => ∃ (v : V) (p : Rat), vs = [v] ∧ Fr K H v p ∧ RetFr K (-p) H Q
theorem ok_negate (T : Tx K mg) (hseer : base.NoSeer) : FnOk PP w K mg base CX0 36 T.a_negate T.d_negate ["p"] (sp_neg K) := by
  refine T.F_negate.ok sc_negate (fun vs H Q E h => ?_) (fun cdv A outer s H vs Q E hr h => ?_)
  · obtain ⟨_, _, rfl, _⟩ := h; rfl
  · obtain ⟨v, p, rfl, ⟨a, rfl, hp⟩, k⟩ := h
    refine ⟨_, (pss_one (ps_ret (pe_tup (pa_cons (pe_un un_neg (pe_ix ix_seq (pv 0) pe_int (fun _ _ => rfl))) (pa_cons (pe_ix ix_seq (pv 0) pe_int (fun _ _ => rfl)) pa_nil))))), ?_⟩
    walk_at "go"
    exact u_tupFr k rfl rfl
end
end K01

set_option maxHeartbeats 4000000
namespace K01
open PySem PySem.Spec PyProof.Rows L2 Ly


section
variable {w : World} {K : PySem.W.Frag} {mg : Str → Option Value} {base : Heap}
/-- _law_draw(bag, size): some number below size; the bag alone changes -/
def sp_draw : Sp := fun vs H Q _ => ∃ (b : Addr) (size : Int) (n : Nat), vs = [.ref b, .int size] ∧ 1 ≤ size ∧ BagAt H b n ∧ n ≤ 1000000 ∧
  ∀ (d : Int) H', 0 ≤ d → d < size → BagAt H' b (n + 1) → SameX b H H' → Q (.int d) H'
theorem ok__law_draw (T : Tx K mg) (hseer : base.NoSeer) : FnOk PP w K mg base CX0 36 T.a__law_draw T.d__law_draw ["bag", "size"] sp_draw := by
  refine T.F__law_draw.ok sc__law_draw (fun vs H Q E h => ?_) (fun cdv A outer s H vs Q E hr h => ?_)
  · obtain ⟨_, _, _, rfl, _⟩ := h; rfl
  · obtain ⟨b, size, n, rfl, hs, ⟨r, s', c, hb, hc, hn⟩, hn2, k⟩ := h
    refine ⟨_, (pss_cons (ps_if (pt_cmpR op_gt (pe_ix ix_seq (pv 0) pe_int (fun _ _ => rfl)) pe_int (nomark _))
   (pss_cons (ps_set (i := 2) (sc__law_draw).nd rfl (by first | exact Or.inl rfl | exact Or.inr rfl) (pe_op op_modU (pe_callTy call_intU (by rfl) T.n_int (by decide +kernel) (pa_cons (pe_ix ix_seq (pv 0) pe_int (fun _ _ => rfl)) pa_nil)) (pv 1)))
  (pss_cons (ps_asg (pe_op (op_fdivP hseer hr) (pe_callTy call_intU (by rfl) T.n_int (by decide +kernel) (pa_cons (pe_ix ix_seq (pv 0) pe_int (fun _ _ => rfl)) pa_nil)) (pv 1)) (pg_sub (pv 0) pe_int set_list))
  (pss_one (ps_ret (pv 2)))))
   pss_nil)
  (pss_cons (ps_asg (pe_op op_addU (pe_ix ix_seq (pv 0) pe_int (fun _ _ => rfl)) pe_int) (pg_sub (pv 0) pe_int set_list))
  (pss_cons (ps_set (i := 3) (sc__law_draw).nd rfl (by first | exact Or.inl rfl | exact Or.inr rfl) (pe_op op_modU (pe_callTy call_intU (by rfl) T.n_int (by decide +kernel) (pa_cons (pe_op op_mulU (pe_op op_addU (pe_ix ix_seq (pv 0) pe_int (fun _ _ => rfl)) (pe_op op_mulU (pe_ix ix_seq (pv 0) pe_int (fun _ _ => rfl)) pe_int)) pe_int) pa_nil)) pe_int))
  (pss_cons (ps_set (i := 4) (sc__law_draw).nd rfl (by first | exact Or.inl rfl | exact Or.inr rfl) (pe_op op_modU (pe_callTy call_intU (by rfl) T.n_int (by decide +kernel) (pa_cons (pe_op op_addU (pe_op op_addU (pe_op op_mulU (pe_ix ix_seq (pv 0) pe_int (fun _ _ => rfl)) pe_int) (pe_op op_mulU (pe_op op_mulU (pe_ix ix_seq (pv 0) pe_int (fun _ _ => rfl)) (pe_ix ix_seq (pv 0) pe_int (fun _ _ => rfl))) pe_int)) pe_int) pa_nil)) pe_int))
  (pss_one (ps_ret (pe_op op_modU (pe_callTy call_intU (by rfl) T.n_int (by decide +kernel) (pa_cons (pe_op (op_fdivP hseer hr) (pe_op op_modU (pe_callTy call_intU (by rfl) T.n_int (by decide +kernel) (pa_cons (pe_op op_mulU (pv 3) (pe_op op_addU (pv 4) pe_int)) pa_nil)) pe_int) pe_int) pa_nil)) (pv 1)))))))), ?_⟩
    walk_at "go"
    refine u_ite (fun h => ?_) (fun h => ?_)
    · walk_at "st"
      refine u_setL hb (by rfl) ?_
      walk_at "st"
      exact k _ _ (Int.emod_nonneg _ (by omega)) (Int.emod_lt_of_pos _ (by omega)) ⟨_, _, _, upd_same, hc, by omega⟩ samex_upd
    · walk_at "st"
      refine u_setL hb (by rfl) ?_
      have hb' : (upd H b (.lst ([V.int r, .int s', .int c].set 2 (.int (c + 1))))) b = some (.lst [.int r, .int s', .int (c + 1)]) := upd_same
      walk_at "st"
      exact k _ _ (Int.emod_nonneg _ (by omega)) (Int.emod_lt_of_pos _ (by omega)) ⟨_, _, _, upd_same, by omega, by omega⟩ samex_upd
/-- a new bag -/
def sp_bag (K : PySem.W.Frag) : Sp := fun vs H Q _ => ∃ (a : Addr) (ns : List Int) (place : Int), vs = [.ref a, .int place] ∧ SqL K H a (ns.map V.int) ∧ ns.length ≤ 63 ∧ 0 ≤ place ∧ place ≤ 63 ∧
  ∀ b H', H b = none → Same H H' → BagAt H' b 0 → Q (.ref b) H'
theorem ok__law_bag (T : Tx K mg) (hseer : base.NoSeer) : FnOk PP w K mg base CX0 36 T.a__law_bag T.d__law_bag ["script", "place"] (sp_bag K) := by
  refine T.F__law_bag.ok sc__law_bag (fun vs H Q E h => ?_) (fun cdv A outer s H vs Q E hr h => ?_)
  · obtain ⟨_, _, _, rfl, _⟩ := h; rfl
  · obtain ⟨a, ns, place, rfl, hS, hl, h0, h1, k⟩ := h
    have hSq : Sq K H a (ns.map V.int) := .inl hS
    refine ⟨_, (pss_cons (ps_set (i := 2) (sc__law_bag).nd rfl (by first | exact Or.inl rfl | exact Or.inr rfl) pe_int)
  (Evl.pss_cut (ps_if (pt_cmpR op_lt (pv 1) (pe_callB call_lenU (by rfl) T.n_len (by decide +kernel) (pa_cons (pv 0) pa_nil)) (nomark _))
   (pss_one (ps_set (i := 2) (sc__law_bag).nd rfl (by first | exact Or.inl rfl | exact Or.inr rfl) (pe_callTy call_intU (by rfl) T.n_int (by decide +kernel) (pa_cons (pe_ix ix_seq (pv 0) (pv 1) (fun _ _ => rfl)) pa_nil))))
   pss_nil)
  (Evl.pss_cut (ps_if (pt_cmpR op_lt (pv 2) pe_int (nomark _))
   (pss_one (ps_set (i := 2) (sc__law_bag).nd rfl (by first | exact Or.inl rfl | exact Or.inr rfl) (pe_op op_sub pe_int (pv 2))))
   pss_nil)
  (pss_cons (ps_set (i := 3) (sc__law_bag).nd rfl (by first | exact Or.inl rfl | exact Or.inr rfl) pe_int)
  (Evl.pss_cut (ps_if (pt_cmpR op_ge (pv 2) (pe_op op_pow pe_int pe_int) (nomark _))
   (pss_one (ps_set (i := 3) (sc__law_bag).nd rfl (by first | exact Or.inl rfl | exact Or.inr rfl) (pe_op op_modU (pv 2) (pe_op op_mulU (pe_op op_mulU (pe_op op_pow pe_int pe_int) (pe_op op_pow pe_int pe_int)) (pe_op op_pow pe_int pe_int)))))
   pss_nil)
  (pss_cons (ps_set (i := 4) (sc__law_bag).nd rfl (by first | exact Or.inl rfl | exact Or.inr rfl) (pe_op op_modU (pe_callTy call_intU (by rfl) T.n_int (by decide +kernel) (pa_cons (pe_callB (cr_sum rfl) (by rfl) T.n_sum (by decide +kernel) (pa_cons (pe_lc (own := [("one", 5)]) rfl (sc__law_bag).nd (pi_seqA (pe_slice sl_U (pv 0) po_none (po_some pe_int))) (blkOk_by (own := [("one", 5)]) (N := n__law_bag) (sc := defScope s__law_bag) (by decide +kernel)) (fun _ _ _ _ _ => (pg_name (i := 5) (sc__law_bag).nd rfl (by first | exact Or.inl rfl | exact Or.inr rfl))) (fun _ _ _ _ _ => pts_nil) (fun _ _ _ _ _ => (pe_callTy call_intU (by rfl) T.n_int (by decide +kernel) (pa_cons (pv 5) pa_nil)))) pa_nil)) pa_nil)) pe_int))
  (pss_one (ps_ret (pe_lst (pa_cons (pv 3) (pa_cons (pe_op op_modU (pe_callTy call_intU (by rfl) T.n_int (by decide +kernel) (pa_cons (pe_op op_addU (pe_op op_addU (pe_op op_addU (pe_op op_mulU (pv 2) pe_int) (pe_op op_mulU (pv 4) pe_int)) (pe_op op_mulU (pv 1) pe_int)) pe_int) pa_nil)) pe_int) (pa_cons pe_int pa_nil)))))))))))), ?_⟩
    walk_at "go"
    refine u_cutC (fun σ' H' => H' = H ∧ ∃ cell : Int, σ' = [some (.ref a), some (.int place), some (.int cell), none, none, none]) ?_ ?_
    · walk_at "st"
      refine u_ite (fun h => ?_) (fun h => ?_)
      · walk_at "st"
        have hx : (ns.map V.int)[place.toNat]? = some (.int (ns[place.toNat]'(by simp at h; omega))) := by simp
        have e : (place.toNat : Int) = place := by omega
        refine u_ix hSq (by rw [← e]; exact atI_nat hx) ?_
        walk_at "st"
        exact ⟨rfl, _, rfl⟩
      · walk_at "st"
        exact ⟨rfl, _, rfl⟩
    rintro σ' H' ⟨rfl, cell, rfl⟩
    refine u_cutC (fun σ' H'' => H'' = H' ∧ ∃ cell : Int, σ' = [some (.ref a), some (.int place), some (.int cell), none, none, none]) ?_ ?_
    · walk_at "st"
      refine u_ite (fun h => ?_) (fun h => ?_)
      · walk_at "st"
        exact ⟨rfl, _, rfl⟩
      · walk_at "st"
        exact ⟨rfl, _, rfl⟩
    rintro σ' H'' ⟨rfl, cell, rfl⟩
    walk_at "st"
    refine u_cutC (fun σ' H3 => H3 = H'' ∧ ∃ rest : Int, σ' = [some (.ref a), some (.int place), some (.int cell), some (.int rest), none, none]) ?_ ?_
    · walk_at "st"
      refine u_ite (fun h => ?_) (fun h => ?_)
      · walk_at "st"
        exact ⟨rfl, _, rfl⟩
      · walk_at "st"
        exact ⟨rfl, _, rfl⟩
    rintro σ' H3 ⟨rfl, rest, rfl⟩
    walk_at "st"
    refine u_slL hS fun p hp => ?_
    walk_at "st"
    have hp1 : SqL K (upd H3 p (.lst (cutV (ns.map V.int) none (some 60)))) p ((ns.take 60).map V.int) := by
      have e : cutV (ns.map V.int) none (some 60) = (ns.take 60).map V.int := by rw [show (60 : Int) = ((60 : Nat) : Int) from rfl, cutV_to, List.map_take]
      rw [e]
      exact SqL.of upd_same
    refine seqA_go (.inl hp1) fun J G hG hw => ?_
    refine lcK hw (fun D i acc H4 => Same (upd H3 p (.lst (cutV (ns.map V.int) none (some 60)))) H4 ∧ H4 D = some (.lst acc) ∧ acc = ((ns.take 60).map V.int).take i) (fun D hD => ⟨same_new hD, upd_same, rfl⟩)
      (fun D i acc H4 hD hi q => hG _ (q.1.kept _)) (fun D i acc x H4 H5 hD hi q y => ?_) (fun D acc H4 hD q => ?_)
    · obtain ⟨q1, q2, q3⟩ := q
      obtain ⟨rfl, y2⟩ := y
      have hx : ∃ z, x = V.int z := by
        rw [List.getElem?_map] at y2
        cases e : (ns.take 60)[i]? with
        | none => rw [e] at y2; cases y2
        | some z => rw [e] at y2; exact ⟨z, (Option.some.inj y2).symm⟩
      obtain ⟨z, rfl⟩ := hx
      walk_at "st"
      refine ⟨rfl, ?_⟩
      walk_at "st"
      have hlen : acc.length < sizeLine := Nat.lt_of_le_of_lt (m := 60) (by rw [q3, List.length_take, List.length_map, List.length_take]; omega) (by decide)
      refine lcN q2 hlen ⟨q1.mut hD, upd_same, ?_⟩
      rw [q3, take_more y2]
    · obtain ⟨q1, q2, q3⟩ := q
      rw [List.take_length] at q3
      subst q3
      walk_at "st"
      refine u_sum (SqL.of q2) ?_
      walk_at "st"
      refine ⟨by show 3 ≤ sizeLine; decide, fun b hb => ?_⟩
      have e1 : Same H3 H4 := (same_new hp).trans q1
      exact k b _ (e1.free hb) (e1.trans (same_new hb)) ⟨_, _, _, upd_same, by decide, by decide⟩
/-- _law_entry(bag, large) -/
def sp_entry (K : PySem.W.Frag) : Sp := fun vs H Q _ => ∃ (b : Addr) (large : Bool) (n : Nat), vs = [.ref b, .bl large] ∧ BagAt H b n ∧ n ≤ 1000000 ∧
  ∀ v q H', Fr K H' v q → En large q → BagAt H' b (n + 1) → SameX b H H' → Q v H'
theorem ok__law_entry (T : Tx K mg) (hseer : base.NoSeer) : FnOk PP w K mg base CX0 38 T.a__law_entry T.d__law_entry ["bag", "large"] (sp_entry K) := by
  refine T.F__law_entry.ok sc__law_entry (fun vs H Q E h => ?_) (fun cdv A outer s H vs Q E hr h => ?_)
  · obtain ⟨_, _, _, rfl, _⟩ := h; rfl
  · obtain ⟨b, large, n, rfl, hb, hn, k⟩ := h
    refine ⟨_, (pss_cons (ps_set (i := 2) (sc__law_entry).nd rfl (by first | exact Or.inl rfl | exact Or.inr rfl) (pe_call (ok__law_draw T hseer) (hr.mono (by decide)) rfl T.g__law_draw T.k__law_draw T.b__law_draw .nil pass0 (pa_cons (pv 0) (pa_cons pe_int pa_nil))))
  (pss_cons (ps_set (i := 3) (sc__law_entry).nd rfl (by first | exact Or.inl rfl | exact Or.inr rfl) (pe_op op_sub (pe_op op_modU (pe_callTy call_intU (by rfl) T.n_int (by decide +kernel) (pa_cons (pe_op (op_fdivP hseer hr) (pv 2) pe_int) pa_nil)) pe_int) pe_int))
  (pss_cons (ps_set (i := 4) (sc__law_entry).nd rfl (by first | exact Or.inl rfl | exact Or.inr rfl) (pe_op op_addU pe_int (pe_op (op_fdivP hseer hr) (pv 2) pe_int)))
  (pss_cons (ps_if (pt_cmpR (op_eqU hr.units) (pe_op op_modU (pe_callTy call_intU (by rfl) T.n_int (by decide +kernel) (pa_cons (pv 2) pa_nil)) pe_int) pe_int (nomark _))
   (pss_one (ps_ret (pe_tup (pa_cons pe_int (pa_cons pe_int pa_nil)))))
   pss_nil)
  (pss_cons (ps_if (pt_cmpR (op_eqU hr.units) (pe_op op_modU (pe_callTy call_intU (by rfl) T.n_int (by decide +kernel) (pa_cons (pv 2) pa_nil)) pe_int) pe_int (nomark _))
   (pss_one (ps_ret (pe_tup (pa_cons (pv 3) (pa_cons pe_int pa_nil)))))
   pss_nil)
  (pss_cons (ps_if (pt_truthU (pv 1) (fun _ => rfl))
   (pss_one (ps_ret (pe_call (ok__law_low T hseer) (hr.mono (by decide)) rfl T.g__law_low T.k__law_low T.b__law_low .nil pass0 (pa_cons (pe_op op_addU (pe_op op_mulU (pv 3) pe_int) pe_int) (pa_cons (pe_op op_addU (pe_op op_mulU (pv 4) pe_int) pe_int) pa_nil)))))
   pss_nil)
  (pss_one (ps_ret (pe_call (ok__law_low T hseer) (hr.mono (by decide)) rfl T.g__law_low T.k__law_low T.b__law_low .nil pass0 (pa_cons (pv 3) (pa_cons (pv 4) pa_nil))))))))))), ?_⟩
    walk_at "go"
    refine ⟨b, _, n, rfl, by decide, hb, hn, fun d H1 h0 h1 hb1 e1 => ?_⟩
    have kk : ∀ v q H', Same H1 H' → Fr K H' v q → En large q → Q v H' := fun v q H' e2 hf he => k v q H' hf he (hb1.same e2) (e1.trans e2.x)
    walk_at "st"
    refine u_ite (fun h => ?_) (fun h => ?_)
    · walk_at "st"
      exact fun z H' e hf => kk _ ((0 : Int) : Rat) H' e ⟨z, rfl, hf K⟩ (en_int (by decide) (by decide))
    walk_at "st"
    refine u_ite (fun h => ?_) (fun h => ?_)
    · walk_at "st"
      exact u_tupFr (q := ((d / 4 % 19 - 9 : Int) : Rat)) (fun v H' e hf => kk v _ H' e hf (en_int (by omega) (by omega))) rfl rfl
    walk_at "st"
    refine u_iteB (fun h => ?_) (fun h => ?_)
    · subst h
      walk_at "st"
      exact ⟨_, _, rfl, by omega, fun v H' e hf => kk v _ H' e hf (en_large (by omega) (by omega) (by omega) (by omega))⟩
    · walk_at "st"
      exact ⟨_, _, rfl, by omega, fun v H' e hf => kk v _ H' e hf (en_low (by omega) (by omega) (by omega) (by omega))⟩
end
end K01

set_option maxHeartbeats 4000000
namespace K01
open PySem PySem.Spec PyProof.Rows L2 Ly


section
variable {w : World} {K : PySem.W.Frag} {mg : Str → Option Value} {base : Heap}
theorem oneF (T : Tx K mg) (H : Hp) : Fr K H (.ref T.a_ONE) 1 := ⟨_, rfl, T.z_ONE H⟩
theorem zeroF (T : Tx K mg) (H : Hp) : Fr K H (.ref T.a_ZERO) 0 := ⟨_, rfl, T.z_ZERO H⟩
def sp_pm (K : PySem.W.Frag) : Sp := fun vs H Q _ => ∃ (v f w : V) (p q : List Rat) (c : Rat) (n m l : Nat), vs = [v, f, w] ∧ Row K H v p ∧ Fr K H f c ∧ Row K H w q ∧ BqL n p ∧ Bq m c ∧ BqL l q ∧ 0 < n ∧ 0 < m ∧ 0 < l ∧ n ≤ 60000000 ∧ m + l ≤ 60000000 ∧ q.length ≤ p.length ∧ p.length ≤ 1000 ∧
  ∀ v' H', Same H H' → RowT K H' v' (pm p c q) → Q v' H'
theorem ok_plus_multiple (T : Tx K mg) (hseer : base.NoSeer) : FnOk PP w K mg base CX0 38 T.a_plus_multiple T.d_plus_multiple ["row", "factor", "other"] (sp_pm K) := by
  refine T.F_plus_multiple.ok sc_plus_multiple (fun vs H Q E h => ?_) (fun cdv A outer s H vs Q E hr h => ?_)
  · obtain ⟨_, _, _, _, _, _, _, _, _, rfl, _⟩ := h; rfl
  · obtain ⟨_, _, _, p, q, c, n, m, l, rfl, ⟨a, xs, rfl, ha, fa⟩, ⟨f, rfl, hf⟩, ⟨b, ys, rfl, hb, fb⟩, bp, bc, bq, n0, m0, l0, n1, ml, lqp, lp, k⟩ := h
    have la := fa.len
    have lb := fb.len
    refine ⟨_, (pss_cons (ps_if (pt_cmpR (op_eqU hr.units) (pe_ix ix_seq (pv 1) pe_int (fun _ _ => rfl)) pe_int (nomark _))
   (pss_one (ps_ret (pe_callTy call_tupleU (by rfl) T.n_tuple (by decide +kernel) (pa_cons (pv 0) pa_nil))))
   pss_nil)
  (pss_cons (ps_set (i := 3) (sc_plus_multiple).nd rfl (by first | exact Or.inl rfl | exact Or.inr rfl) (pe_callTy call_listU (by rfl) T.n_list (by decide +kernel) (pa_cons (pv 0) pa_nil)))
  (pss_cons (ps_for PassesOwn.never rfl (pi_enumA rfl T.n_enumerate (pa_cons (pv 2) pa_nil)) (pg_tup rfl (pgs_cons (pg_name (i := 4) (sc_plus_multiple).nd rfl (by first | exact Or.inl rfl | exact Or.inr rfl)) (pgs_cons (pg_name (i := 5) (sc_plus_multiple).nd rfl (by first | exact Or.inl rfl | exact Or.inr rfl)) pgs_nil)))
   (pss_one (ps_if (pt_truthU (pe_ix ix_seq (pv 5) pe_int (fun _ _ => rfl)) (fun _ => rfl))
   (pss_one (ps_asg (pe_call (ok_add T hseer) (hr.mono (by decide)) rfl T.g_add T.k_add T.b_add .nil pass0 (pa_cons (pe_ix ix_seq (pv 3) (pv 4) (fun _ _ => rfl)) (pa_cons (pe_call (ok_multiply T hseer) (hr.mono (by decide)) rfl T.g_multiply T.k_multiply T.b_multiply .nil pass0 (pa_cons (pv 1) (pa_cons (pv 5) pa_nil))) pa_nil))) (pg_sub (pv 3) (pv 4) set_list)))
   pss_nil)))
  (pss_one (ps_ret (pe_callTy call_tupleU (by rfl) T.n_tuple (by decide +kernel) (pa_cons (pv 3) pa_nil))))))), ?_⟩
    walk_at "go"
    refine u_ite (fun h => ?_) (fun h => ?_)
    · walk_at "st"
      refine u_tupleRow ⟨a, xs, rfl, ha, fa⟩ fun v' H' e r => k v' H' e ?_
      rw [Rat.num_eq_zero.mp h, pm_zero]; exact r
    walk_at "st"
    refine u_listRow ⟨a, xs, rfl, ha, fa⟩ (Same.refl H) fun D H1 L e => ?_
    walk_at "st"
    refine enumB_go e hb fun J G hG hw => ?_
    refine forKC hw (fun i σ H' => (∃ r, Loc K H D H' r ∧ r.length = p.length ∧ ∀ j, cf r j = if j < i then cf p j + c * cf q j else cf p j) ∧ ∃ l1 l2 : Option V, σ = [some (.ref a), some (.ref f), some (.ref b), some (.ref D), l1, l2])
      ⟨⟨p, L, rfl, fun j => by rw [if_neg (by omega)]⟩, _, _, rfl⟩ (fun i σ H' hi ⟨⟨r, L, _⟩, _⟩ => hG _ L.1) ?_ ?_
    · rintro i x σ H2 H3 hi ⟨⟨r, L, hrl, hr⟩, l1, l2, rfl⟩ ⟨t, x1, x2, rfl, ht, rfl, h1, h2⟩
      cases h1
      obtain ⟨v, hv, z, rfl, hz⟩ := fb.at (i := i) (by omega)
      have h2 : ys[i]? = some x2 := h2
      rw [hv] at h2
      cases h2
      have L := L.ext (same_new (o := .tup [V.int i, V.ref z]) ht)
      have hT : SqT K (upd H2 t (.tup [V.int i, V.ref z])) t [V.int i, V.ref z] := SqT.of upd_same
      generalize upd H2 t (.tup [V.int i, V.ref z]) = H3 at L hT ⊢
      have e := L.1
      have hz3 := e.t hz
      have hf3 := e.t hf
      refine u_pair hT ?_
      walk_at "st"
      refine u_iteB (fun h => ?_) (fun h => ?_)
      · walk_at "st"
        refine u_atLoc (i := i) L rfl (by omega) fun z1 hz1 => ?_
        walk_at "st"
        refine ⟨_, _, _, _, _, rfl, ⟨f, rfl, hf3⟩, ⟨z, rfl, hz3⟩, bc.mono (Nat.le_add_right m l), (bq.cf l0 i).mono (Nat.le_add_left l m), ml, fun v4 H4 e4 f4 => ?_⟩
        walk_at "st"
        have c1 : cf r i = cf p i := by rw [hr, if_neg (by omega)]
        refine ⟨_, _, _, _, 60000000, rfl, ⟨z1, rfl, e4.t hz1⟩, f4, by rw [c1]; exact (bp.cf n0 i).mono n1, (bc.mulQ (bq.cf l0 i) m0).mono ml, Nat.le_refl _, fun v5 H5 e5 f5 => ?_⟩
        walk_at "st"
        refine u_setLoc (i := i) ((L.ext e4).ext e5) (by omega) rfl f5 fun H6 L6 _ => ?_
        walk_at "st"
        refine ⟨⟨_, L6, by rw [List.length_set]; exact hrl, fun j => ?_⟩, _, _, rfl⟩
        rw [cf_set (by omega)]
        split
        · rename_i z; subst z; rw [if_pos (by omega), c1]
        · rename_i z; rw [hr j]
          by_cases c : j < i
          · rw [if_pos c, if_pos (by omega)]
          · rw [if_neg c, if_neg (by omega)]
      · walk_at "st"
        refine ⟨⟨r, L, hrl, fun j => ?_⟩, _, _, rfl⟩
        rw [hr j]
        by_cases z : j = i
        · subst z
          have : cf q j = 0 := Rat.num_eq_zero.mp (by simpa using h)
          rw [if_neg (by omega), if_pos (by omega), this]; grind
        · by_cases c : j < i
          · rw [if_pos c, if_pos (by omega)]
          · rw [if_neg c, if_neg (by omega)]
    · rintro σ H2 ⟨⟨r, L, hrl, hr⟩, l1, l2, rfl⟩
      walk_at "st"
      have e : r = pm p c q := cf_ext (by rw [pm_len, hrl]) fun j hj => by
        rw [hr j, cf_pm lqp]
        split
        · rfl
        · rw [cf_out (p := q) (by omega)]; grind
      subst e
      exact u_tupleRow L.row.row fun v' H' e r => k v' H' (L.1.trans e) r
def sp_mult (K : PySem.W.Frag) : Sp := fun vs H Q _ => ∃ (f w : V) (q : List Rat) (c : Rat) (n : Nat), vs = [f, w] ∧ Fr K H f c ∧ Row K H w q ∧ Bq n c ∧ BqL n q ∧ 0 < n ∧ n ≤ 60000000 ∧ q.length ≤ 1000 ∧
  ∀ v' H', Same H H' → RowT K H' v' (q.map fun x => c * x) → Q v' H'
theorem ok_multiple (T : Tx K mg) (hseer : base.NoSeer) : FnOk PP w K mg base CX0 38 T.a_multiple T.d_multiple ["factor", "row"] (sp_mult K) := by
  refine T.F_multiple.ok sc_multiple (fun vs H Q E h => ?_) (fun cdv A outer s H vs Q E hr h => ?_)
  · obtain ⟨_, _, _, _, _, rfl, _⟩ := h; rfl
  · obtain ⟨_, _, q, c, n, rfl, ⟨f, rfl, hf⟩, ⟨b, ys, rfl, hb, fb⟩, bc, bq, n0, n1, lq, k⟩ := h
    have lb := fb.len
    refine ⟨_, (pss_one (ps_ret (pe_callTy call_tupleU (by rfl) T.n_tuple (by decide +kernel) (pa_cons (pe_lc (own := [("p", 2)]) rfl (sc_multiple).nd (pi_seqA (pv 1)) (blkOk_by (own := [("p", 2)]) (N := n_multiple) (sc := defScope s_multiple) (by decide +kernel)) (fun _ _ _ _ _ => (pg_name (i := 2) (sc_multiple).nd rfl (by first | exact Or.inl rfl | exact Or.inr rfl))) (fun _ _ _ _ _ => pts_nil) (fun _ _ _ _ _ => (pe_call (ok_multiply T hseer) (hr.mono (by decide)) rfl T.g_multiply T.k_multiply T.b_multiply .nil pass0 (pa_cons (pv 0) (pa_cons (pv 2) pa_nil))))) pa_nil)))), ?_⟩
    walk_at "go"
    refine seqB_go (Same.refl H) hb fun J G hG hw => ?_
    refine lcK hw (fun D i acc H' => Loc K H D H' ((q.map fun x => c * x).take i)) (fun D hD => Loc.new hD (Same.refl H) trivial) (fun D i acc H4 hD hi L => hG _ L.1) (fun D i acc x H4 H5 hD hi L y => ?_) (fun D acc H4 hD L => ?_)
    · obtain ⟨rfl, y2⟩ := y
      have e := L.1
      walk_at "st"
      refine ⟨rfl, ?_⟩
      obtain ⟨v, hv, fv⟩ := fb.at (i := i) (by omega)
      rw [hv] at y2
      cases y2
      walk_at "st"
      refine ⟨_, _, _, _, n, rfl, ⟨f, rfl, e.t hf⟩, fv.same e, bc, bq.cf n0 _, n1, fun v5 H5 e5 f5 => ?_⟩
      refine lcLoc (L.ext e5) (by rw [List.length_take]; omega) f5 fun acc H6 L6 _ => ?_
      have : (q.map fun x => c * x)[i]? = some (c * cf q i) := by
        rw [List.getElem?_map, cf_in (by omega)]
        rfl
      rw [← take_more this]
      exact L6
    · rw [List.take_of_length_le (by rw [List.length_map]; omega)] at L
      walk_at "st"
      exact u_tupleRow L.row.row fun v' H' e r => k v' H' (L.1.trans e) r
def sp_isLow (K : PySem.W.Frag) : Sp := fun vs H Q _ => ∃ (v : V) (q : Rat), vs = [v] ∧ Fr K H v q ∧ Q (.bl true) H
theorem gcd_low (q : Rat) : Nat.gcd q.num.natAbs ((q.den : Int)).natAbs = 1 := q.reduced
theorem ok__law_is_low (T : Tx K mg) (hseer : base.NoSeer) : FnOk PP w K mg base CX0 37 T.a__law_is_low T.d__law_is_low ["actual"] (sp_isLow K) := by
  refine T.F__law_is_low.ok sc__law_is_low (fun vs H Q E h => ?_) (fun cdv A outer s H vs Q E hr h => ?_)
  · obtain ⟨_, _, rfl, _⟩ := h; rfl
  · obtain ⟨_, q, rfl, ⟨a, rfl, ha⟩, k⟩ := h
    have hd := q.den_pos
    refine ⟨_, (pss_cons (ps_if (PW.pt (pw_or (pt_not (pt_truthU (pe_callB call_isi (by rfl) T.n_isinstance (by decide +kernel) (pa_cons (pv 0) (pa_cons (pe_bltn (v := V.ty "tuple") (by rfl) T.n_tuple (by decide +kernel) rfl) pa_nil))) (fun _ => rfl))) (pw_or1 (pt_cmpR (op_neU hr.units) (pe_callB call_lenU (by rfl) T.n_len (by decide +kernel) (pa_cons (pv 0) pa_nil)) pe_int (nomark _)))))
   (pss_one (ps_ret pe_bl))
   pss_nil)
  (pss_cons (ps_for PassesOwn.never rfl (pi_seqA (pv 0)) (pg_name (i := 1) (sc__law_is_low).nd rfl (by first | exact Or.inl rfl | exact Or.inr rfl))
   (pss_one (ps_if (PW.pt (pw_or (pt_not (pt_truthU (pe_callB call_isi (by rfl) T.n_isinstance (by decide +kernel) (pa_cons (pv 1) (pa_cons (pe_bltn (v := V.ty "int") (by rfl) T.n_int (by decide +kernel) rfl) pa_nil))) (fun _ => rfl))) (pw_or1 (pt_truthU (pe_callB call_isi (by rfl) T.n_isinstance (by decide +kernel) (pa_cons (pv 1) (pa_cons (pe_bltn (v := V.ty "bool") (by rfl) T.n_bool (by decide +kernel) rfl) pa_nil))) (fun _ => rfl)))))
   (pss_one (ps_ret pe_bl))
   pss_nil)))
  (pss_one (ps_ret (pe_and (pe_cmpR op_ge (pe_ix ix_seq (pv 0) pe_int (fun _ _ => rfl)) pe_int (nomark _)) (pe_one (pe_cmpR (op_eqU hr.units) (pe_call (ok__law_common T hseer) (hr.mono (by decide)) rfl T.g__law_common T.k__law_common T.b__law_common .nil pass0 (pa_cons (pe_ix ix_seq (pv 0) pe_int (fun _ _ => rfl)) (pa_cons (pe_ix ix_seq (pv 0) pe_int (fun _ _ => rfl)) pa_nil))) pe_int (nomark _)))))))), ?_⟩
    walk_at "go"
    refine u_isTT ha ?_
    walk_at "st"
    refine u_len (.inr ha) ?_
    walk_at "st"
    refine u_iteN (fun h => absurd rfl h) (fun _ => ?_)
    walk_at "st"
    refine seqB_go (Same.refl H) (.inr ha) fun J G hG hw => ?_
    refine forKC hw (fun i σ H' => H' = H ∧ ∃ l : Option V, σ = [some (.ref a), l]) ⟨rfl, _, rfl⟩ (fun i σ H' hi q => hG _ (by rw [q.1]; exact Same.refl H)) ?_ ?_
    · rintro i x σ H1 H' hi ⟨rfl, l, rfl⟩ ⟨rfl, y2⟩
      obtain ⟨n, rfl⟩ : ∃ n, x = .int n := by
        match i, y2 with
        | 0, y2 => exact ⟨_, (Option.some.inj y2).symm⟩
        | 1, y2 => exact ⟨_, (Option.some.inj y2).symm⟩
      walk_at "st"
      exact ⟨rfl, _, rfl⟩
    · rintro σ H1 ⟨rfl, l, rfl⟩
      walk_at "st"
      rw [decide_eq_true (show (q.den : Int) ≥ 1 by omega)]
      walk_at "st"
      refine ⟨_, _, rfl, ?_⟩
      rw [gcd_low]
      walk_at "st"
      exact k
def sp_equal (K : PySem.W.Frag) : Sp := fun vs H Q _ => ∃ (v w : V) (q : Rat), vs = [v, w] ∧ Fr K H v q ∧ Fr K H w q ∧ Q (.bl true) H
theorem ok__law_equal (T : Tx K mg) (hseer : base.NoSeer) : FnOk PP w K mg base CX0 38 T.a__law_equal T.d__law_equal ["actual", "due"] (sp_equal K) := by
  refine T.F__law_equal.ok sc__law_equal (fun vs H Q E h => ?_) (fun cdv A outer s H vs Q E hr h => ?_)
  · obtain ⟨_, _, _, rfl, _⟩ := h; rfl
  · obtain ⟨_, _, q, rfl, ⟨a, rfl, ha⟩, ⟨b, rfl, hb⟩, k⟩ := h
    refine ⟨_, (pss_one (ps_ret (pe_and (pe_call (ok__law_is_low T hseer) (hr.mono (by decide)) rfl T.g__law_is_low T.k__law_is_low T.b__law_is_low .nil pass0 (pa_cons (pv 0) pa_nil)) (pe_and (pe_cmpR (op_eqU hr.units) (pe_ix ix_seq (pv 0) pe_int (fun _ _ => rfl)) (pe_ix ix_seq (pv 1) pe_int (fun _ _ => rfl)) (nomark _)) (pe_one (pe_cmpR (op_eqU hr.units) (pe_ix ix_seq (pv 0) pe_int (fun _ _ => rfl)) (pe_ix ix_seq (pv 1) pe_int (fun _ _ => rfl)) (nomark _))))))), ?_⟩
    walk_at "go"
    refine ⟨_, q, rfl, ⟨a, rfl, ha⟩, ?_⟩
    walk_at "st"
    rw [decide_eq_true rfl]
    walk_at "st"
    rw [decide_eq_true rfl]
    exact k
def sp_rowEq (K : PySem.W.Frag) : Sp := fun vs H Q _ => ∃ (v w : V) (p : List Rat), vs = [v, w] ∧ RowT K H v p ∧ Row K H w p ∧ p.length ≤ 100000 ∧ Q (.bl true) H
theorem ok__law_row_equal (T : Tx K mg) (hseer : base.NoSeer) : FnOk PP w K mg base CX0 39 T.a__law_row_equal T.d__law_row_equal ["actual", "due"] (sp_rowEq K) := by
  refine T.F__law_row_equal.ok sc__law_row_equal (fun vs H Q E h => ?_) (fun cdv A outer s H vs Q E hr h => ?_)
  · obtain ⟨_, _, _, rfl, _⟩ := h; rfl
  · obtain ⟨_, _, p, rfl, ⟨a, xs, rfl, ha, fa⟩, ⟨b, ys, rfl, hb, fb⟩, lp, k⟩ := h
    have la := fa.len
    have lb := fb.len
    refine ⟨_, (pss_cons (ps_if (PW.pt (pw_or (pt_not (pt_truthU (pe_callB call_isi (by rfl) T.n_isinstance (by decide +kernel) (pa_cons (pv 0) (pa_cons (pe_bltn (v := V.ty "tuple") (by rfl) T.n_tuple (by decide +kernel) rfl) pa_nil))) (fun _ => rfl))) (pw_or1 (pt_cmpR (op_neU hr.units) (pe_callB call_lenU (by rfl) T.n_len (by decide +kernel) (pa_cons (pv 0) pa_nil)) (pe_callB call_lenU (by rfl) T.n_len (by decide +kernel) (pa_cons (pv 1) pa_nil)) (nomark _)))))
   (pss_one (ps_ret pe_bl))
   pss_nil)
  (pss_cons (ps_for PassesOwn.never rfl (pi_range1 rfl T.n_range (pa_cons (pe_callB call_lenU (by rfl) T.n_len (by decide +kernel) (pa_cons (pv 1) pa_nil)) pa_nil)) (pg_name (i := 2) (sc__law_row_equal).nd rfl (by first | exact Or.inl rfl | exact Or.inr rfl))
   (pss_one (ps_if (pt_not (pt_truthU (pe_call (ok__law_equal T hseer) (hr.mono (by decide)) rfl T.g__law_equal T.k__law_equal T.b__law_equal .nil pass0 (pa_cons (pe_ix ix_seq (pv 0) (pv 2) (fun _ _ => rfl)) (pa_cons (pe_ix ix_seq (pv 1) (pv 2) (fun _ _ => rfl)) pa_nil))) (fun _ => rfl)))
   (pss_one (ps_ret pe_bl))
   pss_nil)))
  (pss_one (ps_ret pe_bl)))), ?_⟩
    walk_at "go"
    refine u_isTT ha ?_
    walk_at "st"
    refine u_len (.inr ha) ?_
    walk_at "st"
    refine u_iteN (fun h => absurd (by omega) h) (fun _ => ?_)
    walk_at "st"
    refine u_rng1 (by omega) ?_
    refine forKC walk_range0 (fun i σ H' => H' = H ∧ ∃ l : Option V, σ = [some (.ref a), some (.ref b), l]) ⟨rfl, _, rfl⟩ (fun _ _ _ _ _ => trivial) ?_ ?_
    · rintro i x σ H1 H' hi ⟨rfl, l, rfl⟩ ⟨rfl, rfl⟩
      walk_at "st"
      refine u_at (i := i) (.inr ha) fa rfl (by omega) fun z1 hz1 => ?_
      walk_at "st"
      refine u_at (i := i) hb fb rfl (by omega) fun z2 hz2 => ?_
      walk_at "st"
      refine ⟨_, _, cf p i, rfl, ⟨z1, rfl, hz1⟩, ⟨z2, rfl, hz2⟩, ?_⟩
      walk_at "st"
      exact ⟨rfl, _, rfl⟩
    · rintro σ H1 ⟨rfl, l, rfl⟩
      walk_at "st"
      exact k
/-- some place that is not zero, the first -/
def fst (p : List Rat) : Option Nat := p.findIdx? fun q => decide (q ≠ 0)
def sp_dot (T : Tx K mg) : Sp := fun vs H Q E => ∃ (v w : V) (p q : List Rat) (s t : Nat), vs = [v, w] ∧ Row K H v p ∧ Row K H w q ∧ p.length ≤ 1000 ∧ q.length ≤ 1000 ∧
  (p.length ≠ q.length → ∀ d, H d = none → E (.ref T.a_WrongWidth) (some d) (upd H d (.xd [("want", .int p.length), ("got", .int q.length)]))) ∧
  (p.length = q.length → Sz s p ∧ Sz t q ∧ s + t + 10 ≤ 60000000 ∧ RetFr K (sumTo p.length fun i => cf p i * cf q i) H Q)
theorem dot_in {D C m n : Nat} {p q : List Rat} (h0 : 0 < D) (h1 : 0 < C) (h : ∀ i, InD D m (cf p i)) (k : ∀ i, InD C n (cf q i)) : ∀ J, InD (D * C) (J * (m * n)) (sumTo J fun i => cf p i * cf q i)
  | 0 => InD.zero.mono (Nat.zero_le _)
  | J + 1 => by
    rw [Nat.succ_mul]
    exact (dot_in h0 h1 h k J).add (InD.mul h0 h1 (h _) (k _))
theorem dot_bq {s t k : Nat} {p q : List Rat} {J : Nat} (h : Sz s p) (h2 : Sz t q) (h3 : J ≤ 2 ^ k) : Bq (s + t + k) (sumTo J fun i => cf p i * cf q i) := by
  have h0 := h.pos
  obtain ⟨D, m, a1, a2, a3, a4⟩ := h.inD
  obtain ⟨C, n, b1, b2, b3, b4⟩ := h2.inD
  refine (dot_in a1 b1 a4 b4 J).bq ?_ (pow_mul3 a3 b3 h3) (by omega)
  rw [← Nat.one_mul (D * C)]
  exact pow_mul3 a2 b2 (Nat.pow_pos (by decide))
theorem okX_dot (T : Tx K mg) (hseer : base.NoSeer) : FnOk PP w K mg base (L2.CX PP w) 38 T.a_dot T.d_dot ["row", "column"] (sp_dot T) := by
  refine T.F_dot.okX sc_dot (fun vs H Q E h => ?_) (fun cdv A outer s H vs Q E hr h => ?_)
  · obtain ⟨_, _, _, _, _, _, rfl, _⟩ := h; rfl
  · obtain ⟨_, _, p, q, s1, s2, rfl, ⟨a, xs, rfl, ha, fa⟩, ⟨b, ys, rfl, hb, fb⟩, lp, lq, kE, kQ⟩ := h
    have la := fa.len
    have lb := fb.len
    refine ⟨_, (pss_cons (ps_if (pt_cmpR (op_neU hr.units) (pe_callB call_lenU (by rfl) T.n_len (by decide +kernel) (pa_cons (pv 0) pa_nil)) (pe_callB call_lenU (by rfl) T.n_len (by decide +kernel) (pa_cons (pv 1) pa_nil)) (nomark _))
   (pss_one (ps_raise rfl (takes_of rfl rfl rfl rfl) (pmk_X T.xt_WrongWidth hr (pa_cons (pe_callB call_lenU (by rfl) T.n_len (by decide +kernel) (pa_cons (pv 0) pa_nil)) (pa_cons (pe_callB call_lenU (by rfl) T.n_len (by decide +kernel) (pa_cons (pv 1) pa_nil)) pa_nil)) rfl)))
   pss_nil)
  (PSs.nox (pss_cons (ps_set (i := 2) (sc_dot).nd rfl (by first | exact Or.inl rfl | exact Or.inr rfl) (pe_glob (v := V.ref T.a_ZERO) rfl T.g_ZERO rfl))
  (pss_cons (ps_for PassesOwn.never rfl (pi_zipU (by rfl) T.n_zip (pa_cons (pv 0) (pa_cons (pv 1) pa_nil))) (pg_tup rfl (pgs_cons (pg_name (i := 3) (sc_dot).nd rfl (by first | exact Or.inl rfl | exact Or.inr rfl)) (pgs_cons (pg_name (i := 4) (sc_dot).nd rfl (by first | exact Or.inl rfl | exact Or.inr rfl)) pgs_nil)))
   (pss_one (ps_if (PW.pt (pw_and (pt_truthU (pe_ix ix_seq (pv 3) pe_int (fun _ _ => rfl)) (fun _ => rfl)) (pw_and1 (pt_truthU (pe_ix ix_seq (pv 4) pe_int (fun _ _ => rfl)) (fun _ => rfl)))))
   (pss_one (ps_set (i := 2) (sc_dot).nd rfl (by first | exact Or.inl rfl | exact Or.inr rfl) (pe_call (ok_add T hseer) (hr.mono (by decide)) rfl T.g_add T.k_add T.b_add .nil pass0 (pa_cons (pv 2) (pa_cons (pe_call (ok_multiply T hseer) (hr.mono (by decide)) rfl T.g_multiply T.k_multiply T.b_multiply .nil pass0 (pa_cons (pv 3) (pa_cons (pv 4) pa_nil))) pa_nil)))))
   pss_nil)))
  (pss_one (ps_ret (pv 2))))))), ?_⟩
    walk_at "go"
    refine u_iteN (fun h => ?_) (fun h => ?_)
    · walk_at "st"
      refine ⟨rfl, fun d hd => ?_⟩
      rw [la, lb]
      exact kE (by omega) d hd
    · obtain ⟨z1, z2, nn, k⟩ := kQ (by omega)
      have hl : p.length = q.length := by omega
      have s0 := z1.pos
      have t0 := z2.pos
      walk_at "st"
      refine zipB_go (Same.refl H) ha hb (by omega) fun J G hG hw => ?_
      refine forKC hw (fun i σ H' => Same H H' ∧ ∃ v1 l1 l2, σ = [some (.ref a), some (.ref b), some v1, l1, l2] ∧ Fr K H' v1 (sumTo i fun i => cf p i * cf q i)) ⟨Same.refl _, _, _, _, rfl, zeroF T _⟩ (fun i σ H' hi q => hG _ q.1) ?_ ?_
      · rintro i y σ H3 H' hi ⟨e3, v1, l1, l2, rfl, q1⟩ ⟨tt, x1, x2, rfl, ht, rfl, h1, h2⟩
        obtain ⟨v, hv, z, rfl, hz⟩ := fa.at (i := i) (by omega)
        obtain ⟨v', hv', z', rfl, hz'⟩ := fb.at (i := i) (by omega)
        have h1 : xs[i]? = some x1 := h1
        have h2 : ys[i]? = some x2 := h2
        rw [hv] at h1
        rw [hv'] at h2
        cases h1
        cases h2
        have e4 : Same H3 (upd H3 tt (.tup [V.ref z, V.ref z'])) := same_new ht
        have hT : SqT K (upd H3 tt (.tup [V.ref z, V.ref z'])) tt [V.ref z, V.ref z'] := SqT.of upd_same
        generalize upd H3 tt (.tup [V.ref z, V.ref z']) = H4 at e4 hT ⊢
        have e := e3.trans e4
        have hz4 := e.t hz
        have hz4' := e.t hz'
        have q1 := q1.same e4
        refine u_pair hT ?_
        have skip : cf p i * cf q i = 0 → Fr K H4 v1 (sumTo (i + 1) fun i => cf p i * cf q i) := fun z => by
          show Fr K H4 v1 ((sumTo i fun i => cf p i * cf q i) + cf p i * cf q i)
          rw [z, Rat.add_zero]; exact q1
        walk_at "st"
        refine u_iteB (fun h => ?_) (fun h => ?_)
        · walk_at "st"
          refine u_iteB (fun h => ?_) (fun h => ?_)
          · walk_at "st"
            have bp := (z1.bqL s0).cf s0 i
            have bq := (z2.bqL t0).cf t0 i
            refine ⟨_, _, _, _, s1 + s2, rfl, ⟨z, rfl, hz4⟩, ⟨z', rfl, hz4'⟩, bp.mono (by omega), bq.mono (by omega), by omega, fun v5 H5 e5 f5 => ?_⟩
            walk_at "st"
            refine ⟨_, _, _, _, s1 + s2 + 10, rfl, q1.same e5, f5, dot_bq z1 z2 (by omega), (bp.mulQ bq s0).mono (by omega), nn, fun v6 H6 e6 f6 => ?_⟩
            walk_at "st"
            exact ⟨(e.trans e5).trans e6, _, _, _, rfl, f6⟩
          · walk_at "st"
            have : cf q i = 0 := Rat.num_eq_zero.mp (by simpa using h)
            exact ⟨e, _, _, _, rfl, skip (by rw [this]; grind)⟩
        · walk_at "st"
          have : cf p i = 0 := Rat.num_eq_zero.mp (by simpa using h)
          exact ⟨e, _, _, _, rfl, skip (by rw [this]; grind)⟩
      · rintro σ H3 ⟨e3, v1, l1, l2, rfl, q1⟩
        walk_at "st"
        rw [la] at q1
        exact k _ _ e3 q1
end
end K01

set_option maxHeartbeats 4000000
namespace K01
open PySem PySem.Spec PyProof.Rows L2 Ly


section
variable {w : World} {K : PySem.W.Frag} {mg : Str → Option Value} {base : Heap}
/-- the first place that is not zero, or None -/
def sp_fnz (K : PySem.W.Frag) : Sp := fun vs H Q _ => ∃ (v : V) (p : List Rat), vs = [v] ∧ Row K H v p ∧
  (∀ i : Nat, i < p.length → cf p i ≠ 0 → (∀ j, j < i → cf p j = 0) → ∀ H', Same H H' → Q (.int i) H') ∧ ((∀ i, cf p i = 0) → ∀ H', Same H H' → Q .non H')
theorem ok_first_nonzero (T : Tx K mg) (hseer : base.NoSeer) : FnOk PP w K mg base CX0 36 T.a_first_nonzero T.d_first_nonzero ["row"] (sp_fnz K) := by
  refine T.F_first_nonzero.ok sc_first_nonzero (fun vs H Q E h => ?_) (fun cdv A outer s H vs Q E hr h => ?_)
  · obtain ⟨_, _, rfl, _⟩ := h; rfl
  · obtain ⟨_, p, rfl, ⟨a, xs, rfl, ha, fa⟩, k1, k2⟩ := h
    have la := fa.len
    refine ⟨_, (pss_cons (ps_for PassesOwn.never rfl (pi_enumA rfl T.n_enumerate (pa_cons (pv 0) pa_nil)) (pg_tup rfl (pgs_cons (pg_name (i := 1) (sc_first_nonzero).nd rfl (by first | exact Or.inl rfl | exact Or.inr rfl)) (pgs_cons (pg_name (i := 2) (sc_first_nonzero).nd rfl (by first | exact Or.inl rfl | exact Or.inr rfl)) pgs_nil)))
   (pss_one (ps_if (pt_truthU (pe_ix ix_seq (pv 2) pe_int (fun _ _ => rfl)) (fun _ => rfl))
   (pss_one (ps_ret (pv 1)))
   pss_nil)))
  (pss_one (ps_ret pe_non))), ?_⟩
    walk_at "go"
    refine enumB_go (Same.refl H) ha fun J G hG hw => ?_
    refine forKC hw (fun i σ H' => Same H H' ∧ (∀ j, j < i → cf p j = 0) ∧ ∃ l1 l2 : Option V, σ = [some (.ref a), l1, l2]) ⟨Same.refl _, fun j hj => absurd hj (by omega), _, _, rfl⟩ (fun i σ H' hi q => hG _ q.1) ?_ ?_
    · rintro i y σ H3 H' hi ⟨e3, hz0, l1, l2, rfl⟩ ⟨tt, x1, x2, rfl, ht, rfl, h1, h2⟩
      cases h1
      obtain ⟨v, hv, z, rfl, hz⟩ := fa.at (i := i) (by omega)
      have h2 : xs[i]? = some x2 := h2
      rw [hv] at h2
      cases h2
      have e4 : Same H3 (upd H3 tt (.tup [V.int i, V.ref z])) := same_new ht
      have hT : SqT K (upd H3 tt (.tup [V.int i, V.ref z])) tt [V.int i, V.ref z] := SqT.of upd_same
      generalize upd H3 tt (.tup [V.int i, V.ref z]) = H4 at e4 hT ⊢
      have e := e3.trans e4
      have hz4 := e.t hz
      refine u_pair hT ?_
      walk_at "st"
      refine u_iteB (fun h => ?_) (fun h => ?_)
      · walk_at "st"
        exact k1 i (by omega) (fun z => by rw [z] at h; simp at h) hz0 H4 e
      · walk_at "st"
        refine ⟨e, fun j hj => ?_, _, _, rfl⟩
        by_cases c : j = i
        · rw [c]; exact Rat.num_eq_zero.mp (by simpa using h)
        · exact hz0 j (by omega)
    · rintro σ H3 ⟨e3, hz0, l1, l2, rfl⟩
      walk_at "st"
      refine k2 (fun i => ?_) _ e3
      by_cases c : i < p.length
      · exact hz0 i (by omega)
      · exact cf_out (by omega)
end
end K01

set_option maxHeartbeats 4000000
namespace K01
open PySem PySem.Spec PyProof.Rows L2 Ly


section
variable {w : World} {K : PySem.W.Frag} {mg : Str → Option Value} {base : Heap}
/-- a Basis at a: its width, the tuples of its rows and lines -/
def BsAt (T : Tx K mg) (H : Hp) (a : Addr) (n : Int) (r l : Addr) : Prop := ∃ dx, H a = some (.ins T.a_Basis dx [("width", .int n), ("_rows", .ref r), ("_lines", .ref l)])
def sp_Binit (T : Tx K mg) : Sp := fun vs H Q _ => ∃ (a dx : Addr) (n : Int), vs = [.ref a, .int n] ∧ H a = some (.ins T.a_Basis dx []) ∧
  ∀ r l H', BsAt T H' a n r l → SqT K H' r [] → SqT K H' l [] → SameX a H H' → Q .non H'
theorem ok_Basis___init__ (T : Tx K mg) (hseer : base.NoSeer) : FnOk PP w K mg base CX0 36 T.a_Basis___init__ T.d_Basis___init__ ["self", "width"] (sp_Binit T) := by
  refine T.F_Basis___init__.ok sc_Basis___init__ (fun vs H Q E h => ?_) (fun cdv A outer s H vs Q E hr h => ?_)
  · obtain ⟨_, _, _, rfl, _⟩ := h; rfl
  · obtain ⟨a, dx, n, rfl, ha, k⟩ := h
    refine ⟨_, (pss_cons (ps_fld (pv 0) (pv 1) rfl)
  (pss_cons (ps_fld (pv 0) (pe_tup pa_nil) rfl)
  (pss_one (ps_fld (pv 0) (pe_tup pa_nil) rfl)))), ?_⟩
    walk_at "go"
    refine ⟨a, _, dx, _, rfl, ha, T.cl_Basis, T.no_Basis_width, by decide, ?_⟩
    have x1 : SameX a H (upd H a (.ins T.a_Basis dx (putF "width" (.int n) []))) := samex_upd
    have h1 : upd H a (.ins T.a_Basis dx (putF "width" (.int n) [])) a = some (.ins T.a_Basis dx (putF "width" (.int n) [])) := upd_same
    generalize upd H a (.ins T.a_Basis dx (putF "width" (.int n) [])) = H1 at *
    walk_at "st"
    refine ⟨by show 0 ≤ sizeLine; decide, fun r hr0 => ?_⟩
    have e2 := same_new (o := .tup []) hr0
    have t2 : SqT K (upd H1 r (.tup [])) r [] := SqT.of upd_same
    have h2 := e2 _ _ h1
    generalize upd H1 r (.tup []) = H2 at *
    walk_at "st"
    refine ⟨a, _, dx, _, rfl, h2, T.cl_Basis, T.no_Basis__rows, (show (1 : Nat) < 1000 by decide), ?_⟩
    have x3 : SameX a H2 (upd H2 a (.ins T.a_Basis dx (putF "_rows" (.ref r) (putF "width" (.int n) [])))) := samex_upd
    have h3 : upd H2 a (.ins T.a_Basis dx (putF "_rows" (.ref r) (putF "width" (.int n) []))) a = some (.ins T.a_Basis dx (putF "_rows" (.ref r) (putF "width" (.int n) []))) := upd_same
    have tt : ∀ {o : HO} {y : Addr}, SqT K H2 y [] → SqT K (upd H2 a (.ins T.a_Basis dx (putF "_rows" (.ref r) (putF "width" (.int n) [])))) y [] := fun {o y} z => by
      rcases z with (z | ⟨o, z⟩) | z
      · exact .inl (.inl (x3 _ _ (by rintro rfl; rw [h2] at z; cases z) z))
      · exact .inl (.inr ⟨o, x3 _ _ (by rintro rfl; rw [h2] at z; cases z) z⟩)
      · exact .inr z
    have t3 := tt (o := .tup []) t2
    generalize upd H2 a (.ins T.a_Basis dx (putF "_rows" (.ref r) (putF "width" (.int n) []))) = H3 at *
    walk_at "st"
    refine ⟨by show 0 ≤ sizeLine; decide, fun l hl0 => ?_⟩
    have e4 := same_new (o := .tup []) hl0
    have t4 : SqT K (upd H3 l (.tup [])) l [] := SqT.of upd_same
    have h4 := e4 _ _ h3
    have t34 := e4.t t3
    generalize upd H3 l (.tup []) = H4 at *
    walk_at "st"
    refine ⟨a, _, dx, _, rfl, h4, T.cl_Basis, T.no_Basis__lines, (show (2 : Nat) < 1000 by decide), ?_⟩
    have x5 : SameX a H4 (upd H4 a (.ins T.a_Basis dx (putF "_lines" (.ref l) (putF "_rows" (.ref r) (putF "width" (.int n) []))))) := samex_upd
    have t5 : ∀ {y : Addr}, SqT K H4 y [] → SqT K (upd H4 a (.ins T.a_Basis dx (putF "_lines" (.ref l) (putF "_rows" (.ref r) (putF "width" (.int n) []))))) y [] := fun {y} z => by
      rcases z with (z | ⟨o, z⟩) | z
      · exact .inl (.inl (x5 _ _ (by rintro rfl; rw [h4] at z; cases z) z))
      · exact .inl (.inr ⟨o, x5 _ _ (by rintro rfl; rw [h4] at z; cases z) z⟩)
      · exact .inr z
    exact k r l _ ⟨dx, upd_same⟩ (t5 t34) (t5 t4) ((((x1.trans e2.x).trans x3).trans e4.x).trans x5)
def sp_Blen (T : Tx K mg) : Sp := fun vs H Q _ => ∃ (a r l : Addr) (n : Int) (xs : List V), vs = [.ref a] ∧ BsAt T H a n r l ∧ SqT K H r xs ∧ Q (.int xs.length) H
theorem ok_Basis___len__ (T : Tx K mg) (hseer : base.NoSeer) : FnOk PP w K mg base CX0 36 T.a_Basis___len__ T.d_Basis___len__ ["self"] (sp_Blen T) := by
  refine T.F_Basis___len__.ok sc_Basis___len__ (fun vs H Q E h => ?_) (fun cdv A outer s H vs Q E hr h => ?_)
  · obtain ⟨_, _, _, _, _, rfl, _⟩ := h; rfl
  · obtain ⟨a, r, l, n, xs, rfl, ⟨dx, ha⟩, hx, k⟩ := h
    refine ⟨_, (pss_one (ps_ret (pe_callB call_lenU (by rfl) T.n_len (by decide +kernel) (pa_cons (pe_fld (pv 0) rfl) pa_nil)))), ?_⟩
    walk_at "go"
    refine ⟨a, _, dx, _, .ref r, rfl, ha, T.cl_Basis, T.no_Basis__rows, rfl, ?_⟩
    walk_at "st"
    refine u_len (.inr hx) ?_
    exact k
def sp_Bkept (T : Tx K mg) : Sp := fun vs H Q _ => ∃ (a r l : Addr) (n : Int), vs = [.ref a] ∧ BsAt T H a n r l ∧ Q (.ref r) H
theorem ok_Basis_kept (T : Tx K mg) (hseer : base.NoSeer) : FnOk PP w K mg base CX0 36 T.a_Basis_kept T.d_Basis_kept ["self"] (sp_Bkept T) := by
  refine T.F_Basis_kept.ok sc_Basis_kept (fun vs H Q E h => ?_) (fun cdv A outer s H vs Q E hr h => ?_)
  · obtain ⟨_, _, _, _, rfl, _⟩ := h; rfl
  · obtain ⟨a, r, l, n, rfl, ⟨dx, ha⟩, k⟩ := h
    refine ⟨_, (pss_one (ps_ret (pe_fld (pv 0) rfl))), ?_⟩
    walk_at "go"
    refine ⟨a, _, dx, _, .ref r, rfl, ha, T.cl_Basis, T.no_Basis__rows, rfl, ?_⟩
    exact k
end
end K01

set_option maxHeartbeats 4000000
namespace K01
open PySem PySem.Spec PyProof.Rows L2 Ly


section
variable {w : World} {K : PySem.W.Frag} {mg : Str → Option Value} {base : Heap}
def sp_ldot (K : PySem.W.Frag) : Sp := fun vs H Q _ => ∃ (v w : V) (p q : List Rat) (s t : Nat), vs = [v, w] ∧ Row K H v p ∧ Row K H w q ∧ p.length ≤ 1000 ∧ p.length = q.length ∧ Sz s p ∧ Sz t q ∧ s + t + 10 ≤ 60000000 ∧ RetFr K (sumTo p.length fun i => cf p i * cf q i) H Q
theorem ok__law_dot (T : Tx K mg) (hseer : base.NoSeer) : FnOk PP w K mg base CX0 39 T.a__law_dot T.d__law_dot ["row", "column"] (sp_ldot K) := by
  refine T.F__law_dot.ok sc__law_dot (fun vs H Q E h => ?_) (fun cdv A outer s H vs Q E hr h => ?_)
  · obtain ⟨_, _, _, _, _, _, rfl, _⟩ := h; rfl
  · obtain ⟨_, _, p, q, s1, s2, rfl, ⟨a, xs, rfl, ha, fa⟩, ⟨b, ys, rfl, hb, fb⟩, lp, hl, z1, z2, nn, k⟩ := h
    have la := fa.len
    have lb := fb.len
    have s0 := z1.pos
    have t0 := z2.pos
    refine ⟨_, (pss_cons (ps_set (i := 2) (sc__law_dot).nd rfl (by first | exact Or.inl rfl | exact Or.inr rfl) (pe_tup (pa_cons pe_int (pa_cons pe_int pa_nil))))
  (pss_cons (ps_for PassesOwn.never rfl (pi_range1 rfl T.n_range (pa_cons (pe_callB call_lenU (by rfl) T.n_len (by decide +kernel) (pa_cons (pv 0) pa_nil)) pa_nil)) (pg_name (i := 3) (sc__law_dot).nd rfl (by first | exact Or.inl rfl | exact Or.inr rfl))
   (pss_one (ps_set (i := 2) (sc__law_dot).nd rfl (by first | exact Or.inl rfl | exact Or.inr rfl) (pe_call (ok__law_plus T hseer) (hr.mono (by decide)) rfl T.g__law_plus T.k__law_plus T.b__law_plus .nil pass0 (pa_cons (pv 2) (pa_cons (pe_call (ok__law_times T hseer) (hr.mono (by decide)) rfl T.g__law_times T.k__law_times T.b__law_times .nil pass0 (pa_cons (pe_ix ix_seq (pv 0) (pv 3) (fun _ _ => rfl)) (pa_cons (pe_ix ix_seq (pv 1) (pv 3) (fun _ _ => rfl)) pa_nil))) pa_nil))))))
  (pss_one (ps_ret (pv 2))))), ?_⟩
    walk_at "go"
    intro z H1 e1 f1
    walk_at "st"
    refine u_rng1 (by omega) ?_
    refine forKC walk_range0 (fun i σ H' => Same H H' ∧ ∃ v1 l1, σ = [some (.ref a), some (.ref b), some v1, l1] ∧ Fr K H' v1 (sumTo i fun i => cf p i * cf q i)) ⟨e1, _, _, rfl, ⟨z, rfl, f1 K⟩⟩ (fun _ _ _ _ _ => trivial) ?_ ?_
    · rintro i x σ H3 H' hi ⟨e3, v1, l1, rfl, q1⟩ ⟨rfl, rfl⟩
      walk_at "st"
      refine u_at (i := i) (e3.sq ha) (fa.same e3) rfl (by omega) fun z1' hz1 => ?_
      walk_at "st"
      refine u_at (i := i) (e3.sq hb) (fb.same e3) rfl (by omega) fun z2' hz2 => ?_
      walk_at "st"
      have bp := (z1.bqL s0).cf s0 i
      have bq := (z2.bqL t0).cf t0 i
      refine ⟨_, _, _, _, s1 + s2, rfl, ⟨z1', rfl, hz1⟩, ⟨z2', rfl, hz2⟩, bp.mono (by omega), bq.mono (by omega), by omega, fun v5 H5 e5 f5 => ?_⟩
      walk_at "st"
      refine ⟨_, _, _, _, s1 + s2 + 10, rfl, q1.same e5, f5, dot_bq z1 z2 (by omega), (bp.mulQ bq s0).mono (by omega), nn, fun v6 H6 e6 f6 => ?_⟩
      walk_at "st"
      exact ⟨(e3.trans e5).trans e6, _, _, rfl, f6⟩
    · rintro σ H3 ⟨e3, v1, l1, rfl, q1⟩
      walk_at "st"
      refine k _ _ e3 ?_
      rw [show ((xs.length : Int)).toNat = p.length by omega] at q1
      exact q1
end
end K01

set_option maxHeartbeats 4000000
namespace K01
open PySem PySem.Spec PyProof.Rows L2 Ly


section
variable {w : World} {K : PySem.W.Frag} {mg : Str → Option Value} {base : Heap}
/-- as a list of its own, or as a tuple -/
def sp_given (K : PySem.W.Frag) : Sp := fun vs H Q _ => ∃ (v : V) (t : Bool) (p : List Rat), vs = [v, .bl t] ∧ Row K H v p ∧
  ∀ y H', Same H H' → RowK (!t) K H' (.ref y) p → (t = true → H y = none) → Q (.ref y) H'
theorem ok__law_given (T : Tx K mg) (hseer : base.NoSeer) : FnOk PP w K mg base CX0 36 T.a__law_given T.d__law_given ["row", "as_list"] (sp_given K) := by
  refine T.F__law_given.ok sc__law_given (fun vs H Q E h => ?_) (fun cdv A outer s H vs Q E hr h => ?_)
  · obtain ⟨_, _, _, rfl, _⟩ := h; rfl
  · obtain ⟨v, t, p, rfl, hv, k⟩ := h
    refine ⟨_, (pss_cons (ps_if (pt_truthU (pv 1) (fun _ => rfl))
   (pss_one (ps_ret (pe_callTy call_listU (by rfl) T.n_list (by decide +kernel) (pa_cons (pv 0) pa_nil))))
   pss_nil)
  (pss_one (ps_ret (pe_callTy call_tupleU (by rfl) T.n_tuple (by decide +kernel) (pa_cons (pv 0) pa_nil))))), ?_⟩
    walk_at "go"
    refine u_iteB (fun h => ?_) (fun h => ?_)
    · walk_at "st"
      subst h
      exact u_listRow hv (Same.refl H) fun D H1 L e1 => k D H1 e1 L.row fun _ => L.2.1
    · walk_at "st"
      subst h
      refine u_tupleRow hv fun v' H1 e r => ?_
      obtain ⟨y, xs, rfl, q⟩ := id r
      exact k y H1 e r fun z => nomatch z
/-- the first place that is not zero, or -1 -/
def sp_lfirst (K : PySem.W.Frag) : Sp := fun vs H Q _ => ∃ (v : V) (p : List Rat), vs = [v] ∧ Row K H v p ∧ p.length ≤ 100000 ∧
  (∀ i : Nat, i < p.length → cf p i ≠ 0 → (∀ j, j < i → cf p j = 0) → Q (.int i) H) ∧ ((∀ i, cf p i = 0) → Q (.int (-1)) H)
theorem ok__law_first (T : Tx K mg) (hseer : base.NoSeer) : FnOk PP w K mg base CX0 36 T.a__law_first T.d__law_first ["row"] (sp_lfirst K) := by
  refine T.F__law_first.ok sc__law_first (fun vs H Q E h => ?_) (fun cdv A outer s H vs Q E hr h => ?_)
  · obtain ⟨_, _, rfl, _⟩ := h; rfl
  · obtain ⟨_, p, rfl, ⟨a, xs, rfl, ha, fa⟩, lp, k1, k2⟩ := h
    have la := fa.len
    refine ⟨_, (pss_cons (ps_for PassesOwn.never rfl (pi_range1 rfl T.n_range (pa_cons (pe_callB call_lenU (by rfl) T.n_len (by decide +kernel) (pa_cons (pv 0) pa_nil)) pa_nil)) (pg_name (i := 1) (sc__law_first).nd rfl (by first | exact Or.inl rfl | exact Or.inr rfl))
   (pss_one (ps_if (pt_cmpR (op_neU hr.units) (pe_ix ix_seq (pe_ix ix_seq (pv 0) (pv 1) (fun _ _ => rfl)) pe_int (fun _ _ => rfl)) pe_int (nomark _))
   (pss_one (ps_ret (pv 1)))
   pss_nil)))
  (pss_one (ps_ret (pe_un un_neg pe_int)))), ?_⟩
    walk_at "go"
    refine u_rng1 (by omega) ?_
    refine forKC walk_range0 (fun i σ H' => H' = H ∧ (∀ j, j < i → cf p j = 0) ∧ ∃ l1 : Option V, σ = [some (.ref a), l1]) ⟨rfl, fun j hj => absurd hj (by omega), _, rfl⟩ (fun _ _ _ _ _ => trivial) ?_ ?_
    · rintro i y σ H3 H' hi ⟨rfl, hz0, l1, rfl⟩ ⟨rfl, rfl⟩
      walk_at "st"
      refine u_at (i := i) ha fa rfl (by omega) fun z hz => ?_
      walk_at "st"
      refine u_iteN (fun h => ?_) (fun h => ?_)
      · walk_at "st"
        exact k1 i (by omega) (fun z => h (by rw [z]; rfl)) hz0
      · walk_at "st"
        refine ⟨rfl, fun j hj => ?_, _, rfl⟩
        by_cases c : j = i
        · rw [c]; exact Rat.num_eq_zero.mp h
        · exact hz0 j (by omega)
    · rintro σ H3 ⟨rfl, hz0, l1, rfl⟩
      walk_at "st"
      refine k2 fun i => ?_
      by_cases c : i < p.length
      · exact hz0 i (by omega)
      · exact cf_out (by omega)
end
end K01

set_option maxHeartbeats 4000000
namespace K01
open PySem PySem.Spec PyProof.Rows L2 Ly


section
variable {w : World} {K : PySem.W.Frag} {mg : Str → Option Value} {base : Heap}
def wid (m : List (List Rat)) : Nat := (m.headD []).length
theorem tru_sq {H : Hp} {a : Addr} {xs : List V} (h : Sq K H a xs) : TruV K (.ref a) H (!xs.isEmpty) := by
  rcases h with h | h
  · exact .inl ⟨xs, h, rfl⟩
  · exact .inr (.inl ⟨xs, h, rfl⟩)
def sp_width (K : PySem.W.Frag) : Sp := fun vs H Q _ => ∃ (v : V) (m : List (List Rat)), vs = [v] ∧ Grid K H v m ∧ Q (.int (wid m)) H
theorem ok_width_of (T : Tx K mg) (hseer : base.NoSeer) : FnOk PP w K mg base CX0 36 T.a_width_of T.d_width_of ["matrix"] (sp_width K) := by
  refine T.F_width_of.ok sc_width_of (fun vs H Q E h => ?_) (fun cdv A outer s H vs Q E hr h => ?_)
  · obtain ⟨_, _, rfl, _⟩ := h; rfl
  · obtain ⟨_, m, rfl, ⟨a, xs, rfl, ha, fa⟩, k⟩ := h
    refine ⟨_, (pss_one (ps_ret (pe_ifExp (pt_truthU (pv 0) (fun _ => rfl)) (pe_callB call_lenU (by rfl) T.n_len (by decide +kernel) (pa_cons (pe_ix ix_seq (pv 0) pe_int (fun _ _ => rfl)) pa_nil)) pe_int))), ?_⟩
    walk_at "go"
    refine ⟨_, tru_sq ha, ?_⟩
    match m, xs, fa with
    | [], [], _ =>
      walk_at "st"
      exact k
    | p :: m', x :: xs', fa =>
      obtain ⟨b, ys, rfl, hb, fb⟩ := fa.1
      refine u_iteT ?_
      walk_at "st"
      refine u_ix (k := ((0 : Nat) : Int)) ha (atI_nat (xs := V.ref b :: xs') (j := 0) rfl) ?_
      walk_at "st"
      rw [fb.len]
      exact k
end
end K01

set_option maxHeartbeats 4000000
namespace K01
open PySem PySem.Spec PyProof.Rows L2 Ly


section
variable {w : World} {K : PySem.W.Frag} {mg : Str → Option Value} {base : Heap}
def sp_rowsEq (K : PySem.W.Frag) : Sp := fun vs H Q _ => ∃ (v w : V) (m : List (List Rat)), vs = [v, w] ∧ GridT K H v m ∧ Grid K H w m ∧ m.length ≤ 1000 ∧ (∀ p ∈ m, p.length ≤ 1000) ∧ Q (.bl true) H
theorem ok__law_rows_equal (T : Tx K mg) (hseer : base.NoSeer) : FnOk PP w K mg base CX0 40 T.a__law_rows_equal T.d__law_rows_equal ["actual", "due"] (sp_rowsEq K) := by
  refine T.F__law_rows_equal.ok sc__law_rows_equal (fun vs H Q E h => ?_) (fun cdv A outer s H vs Q E hr h => ?_)
  · obtain ⟨_, _, _, rfl, _⟩ := h; rfl
  · obtain ⟨_, _, m, rfl, ⟨a, xs, rfl, ha, fa⟩, ⟨b, ys, rfl, hb, fb⟩, lm, lr, k⟩ := h
    have la := fa.len
    have lb := fb.len
    refine ⟨_, (pss_cons (ps_if (PW.pt (pw_or (pt_not (pt_truthU (pe_callB call_isi (by rfl) T.n_isinstance (by decide +kernel) (pa_cons (pv 0) (pa_cons (pe_bltn (v := V.ty "tuple") (by rfl) T.n_tuple (by decide +kernel) rfl) pa_nil))) (fun _ => rfl))) (pw_or1 (pt_cmpR (op_neU hr.units) (pe_callB call_lenU (by rfl) T.n_len (by decide +kernel) (pa_cons (pv 0) pa_nil)) (pe_callB call_lenU (by rfl) T.n_len (by decide +kernel) (pa_cons (pv 1) pa_nil)) (nomark _)))))
   (pss_one (ps_ret pe_bl))
   pss_nil)
  (pss_cons (ps_for PassesOwn.never rfl (pi_range1 rfl T.n_range (pa_cons (pe_callB call_lenU (by rfl) T.n_len (by decide +kernel) (pa_cons (pv 1) pa_nil)) pa_nil)) (pg_name (i := 2) (sc__law_rows_equal).nd rfl (by first | exact Or.inl rfl | exact Or.inr rfl))
   (pss_one (ps_if (pt_not (pt_truthU (pe_call (ok__law_row_equal T hseer) (hr.mono (by decide)) rfl T.g__law_row_equal T.k__law_row_equal T.b__law_row_equal .nil pass0 (pa_cons (pe_ix ix_seq (pv 0) (pv 2) (fun _ _ => rfl)) (pa_cons (pe_ix ix_seq (pv 1) (pv 2) (fun _ _ => rfl)) pa_nil))) (fun _ => rfl)))
   (pss_one (ps_ret pe_bl))
   pss_nil)))
  (pss_one (ps_ret pe_bl)))), ?_⟩
    walk_at "go"
    refine u_isTT ha ?_
    walk_at "st"
    refine u_len (.inr ha) ?_
    walk_at "st"
    refine u_iteN (fun h => absurd (by omega) h) (fun _ => ?_)
    walk_at "st"
    refine u_rng1 (by omega) ?_
    refine forKC walk_range0 (fun i σ H' => H' = H ∧ ∃ l : Option V, σ = [some (.ref a), some (.ref b), l]) ⟨rfl, _, rfl⟩ (fun _ _ _ _ _ => trivial) ?_ ?_
    · rintro i x σ H1 H' hi ⟨rfl, l, rfl⟩ ⟨rfl, rfl⟩
      have hi' : i < m.length := by omega
      have hp : m[i]? = some m[i] := List.getElem?_eq_getElem hi'
      obtain ⟨v1, e1, r1⟩ := fa.at hp
      obtain ⟨v2, e2, r2⟩ := fb.at hp
      walk_at "st"
      refine u_ix (.inr ha) (atI_nat e1) ?_
      walk_at "st"
      refine u_ix hb (atI_nat e2) ?_
      walk_at "st"
      refine ⟨_, _, m[i], rfl, r1, r2, ?_, ?_⟩
      · have := lr _ (List.getElem_mem hi')
        omega
      walk_at "st"
      exact ⟨rfl, _, rfl⟩
    · rintro σ H1 ⟨rfl, l, rfl⟩
      walk_at "st"
      exact k
end
end K01

set_option maxHeartbeats 4000000
namespace K01
open PySem PySem.Spec PyProof.Rows L2 Ly


section
variable {w : World} {K : PySem.W.Frag} {mg : Str → Option Value} {base : Heap}
def sp_col (K : PySem.W.Frag) : Sp := fun vs H Q _ => ∃ (v : V) (j : Nat) (m : List (List Rat)), vs = [v, .int j] ∧ Grid K H v m ∧ m.length ≤ 1000 ∧ (∀ p ∈ m, j < p.length) ∧ ∀ y H', Same H H' → H y = none → RowL K H' (.ref y) (m.map fun p => cf p j) → Q (.ref y) H'
theorem ok__law_column (T : Tx K mg) (hseer : base.NoSeer) : FnOk PP w K mg base CX0 36 T.a__law_column T.d__law_column ["matrix", "k"] (sp_col K) := by
  refine T.F__law_column.ok sc__law_column (fun vs H Q E h => ?_) (fun cdv A outer s H vs Q E hr h => ?_)
  · obtain ⟨_, _, _, rfl, _⟩ := h; rfl
  · obtain ⟨_, j, m, rfl, ⟨a, xs, rfl, ha, fa⟩, lm, lj, k⟩ := h
    have la := fa.len
    refine ⟨_, (pss_one (ps_ret (pe_lc (own := [("line", 2)]) rfl (sc__law_column).nd (pi_seqA (pv 0)) (blkOk_by (own := [("line", 2)]) (N := n__law_column) (sc := defScope s__law_column) (by decide +kernel)) (fun _ _ _ _ _ => (pg_name (i := 2) (sc__law_column).nd rfl (by first | exact Or.inl rfl | exact Or.inr rfl))) (fun _ _ _ _ _ => pts_nil) (fun _ _ _ _ _ => (pe_ix (r := rIx K) ix_seq (pv 2) (pv 1) (fun _ _ => rfl)))))), ?_⟩
    walk_at "go"
    refine seqB_go (Same.refl H) ha fun J G hG hw => ?_
    refine lcK hw (fun D i acc H' => Loc K H D H' ((m.map fun p => cf p j).take i)) (fun D hD => Loc.new hD (Same.refl H) trivial) (fun D i acc H4 hD hi L => hG _ L.1) (fun D i acc x H4 H5 hD hi L y => ?_) (fun D acc H4 hD L => ?_)
    · obtain ⟨rfl, y2⟩ := y
      have e := L.1
      have hi' : i < m.length := by omega
      have hp : m[i]? = some m[i] := List.getElem?_eq_getElem hi'
      obtain ⟨v, hv, b, ys, rfl, hb, fb⟩ := fa.at hp
      have y2 : xs[i]? = some x := y2
      rw [hv] at y2
      cases y2
      walk_at "st"
      refine ⟨rfl, ?_⟩
      walk_at "st"
      refine u_at (i := j) (e.sq hb) (fb.same e) rfl (lj _ (List.getElem_mem hi')) fun z hz => ?_
      refine lcLoc L (by rw [List.length_take]; omega) ⟨z, rfl, hz⟩ fun acc H6 L6 _ => ?_
      have : (m.map fun p => cf p j)[i]? = some (cf m[i] j) := by
        rw [List.getElem?_map, hp]
        rfl
      rw [← take_more this]
      exact L6
    · rw [List.take_of_length_le (by rw [List.length_map]; omega)] at L
      exact k _ _ L.1 L.2.1 L.row
end
end K01

set_option maxHeartbeats 4000000
namespace K01
open PySem PySem.Spec PyProof.Rows L2 Ly


section
variable {w : World} {K : PySem.W.Frag} {mg : Str → Option Value} {base : Heap}
/-- a Basis at a that holds rows, with its lines -/
def BsOk (T : Tx K mg) (H : Hp) (a : Addr) (n : Nat) (rows : List (List Rat)) (ls : List Ln) : Prop :=
  ∃ r l xr xl, BsAt T H a n r l ∧ SqT K H r xr ∧ Rs (RowT K H) xr rows ∧ SqT K H l xl ∧ Al (LnT K H) xl ls ∧ Bas n rows ls ∧ n ≤ 12
theorem BsOk.same {T : Tx K mg} {H H' : Hp} {a : Addr} {n : Nat} {rows : List (List Rat)} {ls : List Ln} (h : BsOk T H a n rows ls) (e : Imm H H') (k : ∀ o, H a = some o → H' a = some o) : BsOk T H' a n rows ls := by
  obtain ⟨r, l, xr, xl, ⟨dx, h1⟩, h2, h3, h4, h5, h6⟩ := h
  exact ⟨r, l, xr, xl, ⟨dx, k _ h1⟩, e.t h2, h3.mono fun _ _ z => z.imm e, e.t h4, h5.mono fun _ _ z => z.imm e, h6⟩
def sp_Bred (T : Tx K mg) : Sp := fun vs H Q E => ∃ (a : Addr) (v : V) (n : Nat) (rows : List (List Rat)) (ls : List Ln) (p : List Rat), vs = [.ref a, v] ∧ BsOk T H a n rows ls ∧ Row K H v p ∧ p.length ≤ 1000 ∧
  (p.length ≠ n → ∀ d, H d = none → E (.ref T.a_WrongWidth) (some d) (upd H d (.xd [("want", .int n), ("got", .int p.length)]))) ∧
  (p.length = n → Sz (W0 - 1) p ∧ ∀ t x y H', Same H H' → SqT K H' t [x, y] → RowT K H' x (rest ls p rows.length) → RowT K H' y (prts ls p rows.length) → Q (.ref t) H')
theorem okX_Basis__reduced (T : Tx K mg) (hseer : base.NoSeer) : FnOk PP w K mg base (L2.CX PP w) 39 T.a_Basis__reduced T.d_Basis__reduced ["self", "row"] (sp_Bred T) := by
  refine T.F_Basis__reduced.okX sc_Basis__reduced (fun vs H Q E h => ?_) (fun cdv A outer s H vs Q E hr h => ?_)
  · obtain ⟨_, _, _, _, _, _, rfl, _⟩ := h; rfl
  · obtain ⟨a, _, n, rows, ls, p, rfl, ⟨r, l, xr, xl, ⟨dx, ha⟩, hR, fR, hL, fL, B, n12⟩, ⟨b, ys, rfl, hb, fb⟩, lp, kE, kQ⟩ := h
    have lb := fb.len
    have lR := fR.len
    have lL := fL.len
    have Bl := B.le
    have Bn := B.len
    refine ⟨_, (pss_cons (ps_if (pt_cmpR (op_neU hr.units) (pe_callB call_lenU (by rfl) T.n_len (by decide +kernel) (pa_cons (pv 1) pa_nil)) (pe_fld (pv 0) rfl) (nomark _))
   (pss_one (ps_raise rfl (takes_of rfl rfl rfl rfl) (pmk_X T.xt_WrongWidth hr (pa_cons (pe_fld (pv 0) rfl) (pa_cons (pe_callB call_lenU (by rfl) T.n_len (by decide +kernel) (pa_cons (pv 1) pa_nil)) pa_nil)) rfl)))
   pss_nil)
  (PSs.nox (pss_cons (ps_set (i := 2) (sc_Basis__reduced).nd rfl (by first | exact Or.inl rfl | exact Or.inr rfl) (pe_callTy call_tupleU (by rfl) T.n_tuple (by decide +kernel) (pa_cons (pv 1) pa_nil)))
  (pss_cons (ps_set (i := 3) (sc_Basis__reduced).nd rfl (by first | exact Or.inl rfl | exact Or.inr rfl) (pe_op op_mulU (pe_tup (pa_cons (pe_glob (v := V.ref T.a_ZERO) rfl T.g_ZERO rfl) pa_nil)) (pe_callB call_lenU (by rfl) T.n_len (by decide +kernel) (pa_cons (pe_fld (pv 0) rfl) pa_nil))))
  (pss_cons (ps_for PassesOwn.never rfl (pi_seqA (pe_fld (pv 0) rfl)) (pg_tup rfl (pgs_cons (pg_name (i := 4) (sc_Basis__reduced).nd rfl (by first | exact Or.inl rfl | exact Or.inr rfl)) (pgs_cons (pg_name (i := 5) (sc_Basis__reduced).nd rfl (by first | exact Or.inl rfl | exact Or.inr rfl)) (pgs_cons (pg_name (i := 6) (sc_Basis__reduced).nd rfl (by first | exact Or.inl rfl | exact Or.inr rfl)) pgs_nil))))
   (pss_cons (ps_set (i := 7) (sc_Basis__reduced).nd rfl (by first | exact Or.inl rfl | exact Or.inr rfl) (pe_ix ix_seq (pv 2) (pv 4) (fun _ _ => rfl)))
  (pss_cons (ps_set (i := 2) (sc_Basis__reduced).nd rfl (by first | exact Or.inl rfl | exact Or.inr rfl) (pe_call (ok_plus_multiple T hseer) (hr.mono (by decide)) rfl T.g_plus_multiple T.k_plus_multiple T.b_plus_multiple .nil pass0 (pa_cons (pv 2) (pa_cons (pe_call (ok_negate T hseer) (hr.mono (by decide)) rfl T.g_negate T.k_negate T.b_negate .nil pass0 (pa_cons (pv 7) pa_nil)) (pa_cons (pv 5) pa_nil)))))
  (pss_one (ps_set (i := 3) (sc_Basis__reduced).nd rfl (by first | exact Or.inl rfl | exact Or.inr rfl) (pe_call (ok_plus_multiple T hseer) (hr.mono (by decide)) rfl T.g_plus_multiple T.k_plus_multiple T.b_plus_multiple .nil pass0 (pa_cons (pv 3) (pa_cons (pv 7) (pa_cons (pv 6) pa_nil)))))))))
  (pss_one (ps_ret (pe_tup (pa_cons (pv 2) (pa_cons (pv 3) pa_nil)))))))))), ?_⟩
    walk_at "go"
    refine ⟨a, _, dx, _, .int n, rfl, ha, T.cl_Basis, T.no_Basis_width, rfl, ?_⟩
    walk_at "st"
    refine u_iteN (fun h => ?_) (fun h => ?_)
    · walk_at "st"
      refine ⟨a, _, dx, _, .int n, rfl, ha, T.cl_Basis, T.no_Basis_width, rfl, ?_⟩
      walk_at "st"
      refine ⟨rfl, fun d hd => ?_⟩
      rw [lb]
      exact kE (by omega) d hd
    · obtain ⟨z, k⟩ := kQ (by omega)
      have hp : p.length = n := by omega
      walk_at "st"
      refine u_tupleRow ⟨b, ys, rfl, hb, fb⟩ fun v1 H1 e1 r1 => ?_
      walk_at "st"
      (refine ⟨by first | exact le_l1 _ | exact le_l2 _ _ | exact le_l3 _ _ _ | exact le_l5 _ _ _ _ _ | exact le_l0, fun t2 newQ => ?_⟩; obtain ⟨H2, eqQ, e2, s2⟩ := tup_new K newQ; rw [eqQ]; clear eqQ)
      walk_at "st"
      have e02 := e1.trans e2
      refine ⟨a, _, dx, _, .ref r, rfl, e02 _ _ ha, T.cl_Basis, T.no_Basis__rows, rfl, ?_⟩
      have hR2 := e02.t hR
      walk_at "st"
      refine u_len (.inr hR2) ?_
      refine u_repZ s2 (zeroF T _) (by omega) (by omega) fun v3 H3 e3 r3 => ?_
      walk_at "st"
      have e03 := e02.trans e3
      refine ⟨a, _, dx, _, .ref l, rfl, e03 _ _ ha, T.cl_Basis, T.no_Basis__lines, rfl, ?_⟩
      refine seqB_go e03 (.inr hL) fun J G hG hw => ?_
      refine forKC hw (fun i σ H' => Same H H' ∧ ∃ x1 x2, RowT K H' x1 (rd (ls.take i) (p, List.replicate rows.length 0)).1 ∧ RowT K H' x2 (rd (ls.take i) (p, List.replicate rows.length 0)).2 ∧
        ∃ l1 l2 l3 l4 : Option V, σ = [some (.ref a), some (.ref b), some x1, some x2, l1, l2, l3, l4]) ⟨e03, _, _, r1.same (e2.trans e3), ?_, _, _, _, _, rfl⟩ (fun i σ H' hi q => hG _ q.1) ?_ ?_
      · rw [show ((xr.length : Int)).toNat = rows.length by omega] at r3
        exact r3
      · rintro i x σ H4 H' hi ⟨e4, x1, x2, q1, q2, l1, l2, l3, l4, rfl⟩ ⟨rfl, y2⟩
        have hi' : i < ls.length := by omega
        have hl : ls[i]? = some ls[i] := List.getElem?_eq_getElem hi'
        obtain ⟨v, hv, t, u, c, rfl, ht, hu, hc⟩ := fL.at hl
        have y2 : xl[i]? = some x := y2
        rw [hv] at y2
        cases y2
        have R := Run.to B hp z i (by omega)
        rw [rd_succ hl]
        generalize rd (ls.take i) (p, List.replicate rows.length 0) = s at q1 q2 R ⊢
        obtain ⟨b1, b2, b3, b4⟩ := B.at_ i _ hl
        have wz := w_pow1 (i := i) (by omega)
        have w0 := w_one i
        have rz := R.sz
        have lz := B.sz i _ hl
        have s1 := R.l1
        have s2' := R.l2
        refine u_triple (e4.t ht) ?_
        walk_at "st"
        obtain ⟨a1, xs1, rfl, t1, f1⟩ := id q1
        refine u_at (i := ls[i].1) (.inr t1) f1 rfl (by omega) fun z1 hz1 => ?_
        walk_at "st"
        have bf : Bq (W0 * 2 ^ i - 1) (cf s.1 ls[i].1) := (rz.left.bqL w0).cf w0 _
        refine ⟨_, _, rfl, ⟨z1, rfl, hz1⟩, fun v5 H5 e5 f5 => ?_⟩
        walk_at "st"
        refine ⟨_, _, _, _, _, _, W0 * 2 ^ i - 1, W0 * 2 ^ i - 1, W0 * 2 ^ i - 1, rfl, (q1.same e5).row, f5, (hu.same (e4.trans e5)).row, rz.left.bqL w0, bf.negQ, lz.left.bqL w0, w0, w0, w0, by omega, by omega, by omega, by omega, fun v6 H6 e6 r6 => ?_⟩
        walk_at "st"
        have e56 := e5.trans e6
        refine ⟨_, _, _, _, _, _, W0 * 2 ^ i - 1, W0 * 2 ^ i - 1, W0 * 2 ^ i - 1, rfl, (q2.same e56).row, ⟨z1, rfl, e56.t hz1⟩, (hc.same (e4.trans e56)).row, rz.right.bqL w0, bf, lz.right.bqL w0, w0, w0, w0, by omega, by omega, by omega, by omega, fun v7 H7 e7 r7 => ?_⟩
        walk_at "st"
        exact ⟨(e4.trans e56).trans e7, _, _, r6.same e7, r7, _, _, _, _, rfl⟩
      · rintro σ H4 ⟨e4, x1, x2, q1, q2, l1, l2, l3, l4, rfl⟩
        rw [lL, List.take_length] at q1 q2
        walk_at "st"
        (refine ⟨by first | exact le_l1 _ | exact le_l2 _ _ | exact le_l3 _ _ _ | exact le_l5 _ _ _ _ _ | exact le_l0, fun t5 newQ => ?_⟩; obtain ⟨H5, eqQ, e5, s5⟩ := tup_new K newQ; rw [eqQ]; clear eqQ)
        exact k t5 x1 x2 H5 (e4.trans e5) s5 (q1.same e5) (q2.same e5)
def sp_Bcoo (T : Tx K mg) : Sp := fun vs H Q E => ∃ (a : Addr) (v : V) (n : Nat) (rows : List (List Rat)) (ls : List Ln) (p : List Rat), vs = [.ref a, v] ∧ BsOk T H a n rows ls ∧ Row K H v p ∧ p.length ≤ 1000 ∧
  (p.length ≠ n → ∀ d, H d = none → E (.ref T.a_WrongWidth) (some d) (upd H d (.xd [("want", .int n), ("got", .int p.length)]))) ∧
  (p.length = n → Sz (W0 - 1) p ∧ ((∀ i, cf (rest ls p rows.length) i = 0) → ∀ y H', Same H H' → RowT K H' (.ref y) (prts ls p rows.length) → Q (.ref y) H') ∧ ((∃ i, cf (rest ls p rows.length) i ≠ 0) → ∀ H', Same H H' → Q .non H'))
theorem okX_Basis_coordinates (T : Tx K mg) (hseer : base.NoSeer) : FnOk PP w K mg base (L2.CX PP w) 40 T.a_Basis_coordinates T.d_Basis_coordinates ["self", "row"] (sp_Bcoo T) := by
  refine T.F_Basis_coordinates.okX sc_Basis_coordinates (fun vs H Q E h => ?_) (fun cdv A outer s H vs Q E hr h => ?_)
  · obtain ⟨_, _, _, _, _, _, rfl, _⟩ := h; rfl
  · obtain ⟨a, v, n, rows, ls, p, rfl, hB, hv, lp, kE, kQ⟩ := h
    have hB' := hB
    obtain ⟨r, l, xr, xl, ⟨dx, ha⟩, -⟩ := hB'
    refine ⟨_, (pss_cons (ps_asg (pe_methW (pv 0) T.cl_Basis T.m_Basis__reduced (okX_Basis__reduced T hseer) (hr.mono (by decide)) T.b_Basis__reduced (fun σ => passAt (takes_of rfl rfl rfl rfl) σ) (pa_cons (pv 1) pa_nil)) (pg_tup rfl (pgs_cons (pg_name (i := 2) (sc_Basis_coordinates).nd rfl (by first | exact Or.inl rfl | exact Or.inr rfl)) (pgs_cons (pg_name (i := 3) (sc_Basis_coordinates).nd rfl (by first | exact Or.inl rfl | exact Or.inr rfl)) pgs_nil))))
  (PSs.nox (pss_one (ps_ret (pe_ifExp (pt_cmpR op_isN1 (pe_call (ok_first_nonzero T hseer) (hr.mono (by decide)) rfl T.g_first_nonzero T.k_first_nonzero T.b_first_nonzero .nil pass0 (pa_cons (pv 2) pa_nil)) pe_non (nomark _)) (pv 3) pe_non))))), ?_⟩
    walk_at "go"
    refine ⟨a, dx, _, rfl, ha, rfl, ?_⟩
    walk_at "st"
    refine ⟨a, v, n, rows, ls, p, rfl, hB, hv, lp, kE, fun hp => ⟨(kQ hp).1, fun t x y H1 e1 ht hx hy => ?_⟩⟩
    obtain ⟨z, k1, k2⟩ := kQ hp
    refine u_pair ht ?_
    walk_at "st"
    refine ⟨x, _, rfl, hx.row, fun i hi h0 h1 H2 e2 => ?_, fun h0 H2 e2 => ?_⟩
    · walk_at "st"
      exact k2 ⟨i, h0⟩ _ (e1.trans e2)
    · walk_at "st"
      obtain ⟨y', xs, rfl, hy'⟩ := id hy
      exact k1 h0 _ _ (e1.trans e2) (hy.same e2)
def sp_Bin (T : Tx K mg) : Sp := fun vs H Q E => ∃ (a : Addr) (v : V) (n : Nat) (rows : List (List Rat)) (ls : List Ln) (p : List Rat), vs = [.ref a, v] ∧ BsOk T H a n rows ls ∧ Row K H v p ∧ p.length ≤ 1000 ∧
  (p.length ≠ n → ∀ d, H d = none → E (.ref T.a_WrongWidth) (some d) (upd H d (.xd [("want", .int n), ("got", .int p.length)]))) ∧
  (p.length = n → Sz (W0 - 1) p ∧ ((∀ i, cf (rest ls p rows.length) i = 0) → ∀ H', Same H H' → Q (.bl true) H') ∧ ((∃ i, cf (rest ls p rows.length) i ≠ 0) → ∀ H', Same H H' → Q (.bl false) H'))
theorem okX_Basis___contains__ (T : Tx K mg) (hseer : base.NoSeer) : FnOk PP w K mg base (L2.CX PP w) 41 T.a_Basis___contains__ T.d_Basis___contains__ ["self", "row"] (sp_Bin T) := by
  refine T.F_Basis___contains__.okX sc_Basis___contains__ (fun vs H Q E h => ?_) (fun cdv A outer s H vs Q E hr h => ?_)
  · obtain ⟨_, _, _, _, _, _, rfl, _⟩ := h; rfl
  · obtain ⟨a, v, n, rows, ls, p, rfl, hB, hv, lp, kE, kQ⟩ := h
    have hB' := hB
    obtain ⟨r, l, xr, xl, ⟨dx, ha⟩, -⟩ := hB'
    refine ⟨_, (pss_one (ps_ret (pe_cmpR op_notN1 (pe_methW (pv 0) T.cl_Basis T.m_Basis_coordinates (okX_Basis_coordinates T hseer) (hr.mono (by decide)) T.b_Basis_coordinates (fun σ => passAt (takes_of rfl rfl rfl rfl) σ) (pa_cons (pv 1) pa_nil)) pe_non (nomark _)))), ?_⟩
    walk_at "go"
    refine ⟨a, dx, _, rfl, ha, rfl, ?_⟩
    walk_at "st"
    refine ⟨a, v, n, rows, ls, p, rfl, hB, hv, lp, kE, fun hp => ⟨(kQ hp).1, fun h0 y H1 e1 hy => ?_, fun h0 H1 e1 => ?_⟩⟩
    · walk_at "st"
      exact (kQ hp).2.1 h0 _ e1
    · walk_at "st"
      exact (kQ hp).2.2 h0 _ e1
end
end K01

set_option maxHeartbeats 4000000
namespace K01
open PySem PySem.Spec PyProof.Rows L2 Ly


section
variable {w : World} {K : PySem.W.Frag} {mg : Str → Option Value} {base : Heap}
def newLn (ls : List Ln) (p : List Rat) (k i : Nat) : Ln := (i, smul (1 / cf (rest ls p k) i) (rest ls p k), smul (-(1 / cf (rest ls p k) i)) (prts ls p k) ++ [1 / cf (rest ls p k) i])
theorem tupX {H H' : Hp} {a : Addr} {dx C : Addr} {fs : List (Str × V)} {y : Addr} {xs : List V} (e : SameX a H H') (ha : H a = some (.ins C dx fs)) (h : SqT K H y xs) : SqT K H' y xs := (e.immI ha).t h
def sp_Badd (T : Tx K mg) : Sp := fun vs H Q E => ∃ (a : Addr) (v : V) (n : Nat) (rows : List (List Rat)) (ls : List Ln) (p : List Rat), vs = [.ref a, v] ∧ BsOk T H a n rows ls ∧ Row K H v p ∧ p.length ≤ 1000 ∧
  (p.length ≠ n → ∀ d, H d = none → E (.ref T.a_WrongWidth) (some d) (upd H d (.xd [("want", .int n), ("got", .int p.length)]))) ∧
  (p.length = n → Sz (W0 - 1) p ∧ ((∀ i, cf (rest ls p rows.length) i = 0) → ∀ H', Same H H' → Q (.bl false) H') ∧
    (∀ i, i < n → cf (rest ls p rows.length) i ≠ 0 → (∀ j, j < i → cf (rest ls p rows.length) j = 0) → ∀ H', SameX a H H' → BsOk T H' a n (rows ++ [p]) (ls ++ [newLn ls p rows.length i]) → Q (.bl true) H'))
theorem okX_Basis_add (T : Tx K mg) (hseer : base.NoSeer) : FnOk PP w K mg base (L2.CX PP w) 40 T.a_Basis_add T.d_Basis_add ["self", "row"] (sp_Badd T) := by
  refine T.F_Basis_add.okX sc_Basis_add (fun vs H Q E h => ?_) (fun cdv A outer s H vs Q E hr h => ?_)
  · obtain ⟨_, _, _, _, _, _, rfl, _⟩ := h; rfl
  · obtain ⟨a, v, n, rows, ls, p, rfl, hB, hv, lp, kE, kQ⟩ := h
    have hB' := hB
    obtain ⟨r, l, xr, xl, ⟨dx, ha⟩, hR, fR, hL, fL, B, n12⟩ := hB'
    have lR := fR.len
    have lL := fL.len
    have Bl := B.le
    have Bn := B.len
    refine ⟨_, (pss_cons (ps_asg (pe_methW (pv 0) T.cl_Basis T.m_Basis__reduced (okX_Basis__reduced T hseer) (hr.mono (by decide)) T.b_Basis__reduced (fun σ => passAt (takes_of rfl rfl rfl rfl) σ) (pa_cons (pv 1) pa_nil)) (pg_tup rfl (pgs_cons (pg_name (i := 2) (sc_Basis_add).nd rfl (by first | exact Or.inl rfl | exact Or.inr rfl)) (pgs_cons (pg_name (i := 3) (sc_Basis_add).nd rfl (by first | exact Or.inl rfl | exact Or.inr rfl)) pgs_nil))))
  (PSs.nox (pss_cons (ps_set (i := 4) (sc_Basis_add).nd rfl (by first | exact Or.inl rfl | exact Or.inr rfl) (pe_call (ok_first_nonzero T hseer) (hr.mono (by decide)) rfl T.g_first_nonzero T.k_first_nonzero T.b_first_nonzero .nil pass0 (pa_cons (pv 2) pa_nil)))
  (pss_cons (ps_if (pt_cmpR op_isN1 (pv 4) pe_non (nomark _))
   (pss_one (ps_ret pe_bl))
   pss_nil)
  (pss_cons (ps_set (i := 5) (sc_Basis_add).nd rfl (by first | exact Or.inl rfl | exact Or.inr rfl) (pe_call (ok_divide T hseer) (hr.mono (by decide)) rfl T.g_divide T.k_divide T.b_divide .nil pass0 (pa_cons (pe_glob (v := V.ref T.a_ONE) rfl T.g_ONE rfl) (pa_cons (pe_ix ix_seq (pv 2) (pv 4) (fun _ _ => rfl)) pa_nil))))
  (pss_cons (ps_set (i := 6) (sc_Basis_add).nd rfl (by first | exact Or.inl rfl | exact Or.inr rfl) (pe_tup (pa_cons (pv 4) (pa_cons (pe_call (ok_multiple T hseer) (hr.mono (by decide)) rfl T.g_multiple T.k_multiple T.b_multiple .nil pass0 (pa_cons (pv 5) (pa_cons (pv 2) pa_nil))) (pa_cons (pe_op op_addU (pe_call (ok_multiple T hseer) (hr.mono (by decide)) rfl T.g_multiple T.k_multiple T.b_multiple .nil pass0 (pa_cons (pe_call (ok_negate T hseer) (hr.mono (by decide)) rfl T.g_negate T.k_negate T.b_negate .nil pass0 (pa_cons (pv 5) pa_nil)) (pa_cons (pv 3) pa_nil))) (pe_tup (pa_cons (pv 5) pa_nil))) pa_nil)))))
  (pss_cons (ps_fld (pv 0) (pe_op op_addU (pe_fld (pv 0) rfl) (pe_tup (pa_cons (pv 6) pa_nil))) rfl)
  (pss_cons (ps_fld (pv 0) (pe_op op_addU (pe_fld (pv 0) rfl) (pe_tup (pa_cons (pe_callTy call_tupleU (by rfl) T.n_tuple (by decide +kernel) (pa_cons (pv 1) pa_nil)) pa_nil))) rfl)
  (pss_one (ps_ret pe_bl)))))))))), ?_⟩
    walk_at "go"
    refine ⟨a, dx, _, rfl, ha, rfl, ?_⟩
    walk_at "st"
    refine ⟨a, v, n, rows, ls, p, rfl, hB, hv, lp, kE, fun hp => ⟨(kQ hp).1, fun t x y H1 e1 ht hx hy => ?_⟩⟩
    obtain ⟨z, k1, k2⟩ := kQ hp
    have R := Run.all B hp z
    have r1 : (rest ls p rows.length).length = n := R.l1
    have r2 : (prts ls p rows.length).length = rows.length := R.l2
    have rs : Sz (W0 * 2 ^ ls.length - 1) (rest ls p rows.length ++ prts ls p rows.length) := R.sz
    have wz := w_pow (i := ls.length) (by omega)
    have w0 := w_one ls.length
    refine u_pair ht ?_
    walk_at "st"
    refine ⟨x, _, rfl, hx.row, fun i hi h0 h1 H2 e2 => ?_, fun h0 H2 e2 => ?_⟩
    · walk_at "st"
      have z2 : Sz (W0 * 2 ^ ls.length - 1) (smul (1 / cf (rest ls p rows.length) i) (rest ls p rows.length) ++ (smul (-(1 / cf (rest ls p rows.length) i)) (prts ls p rows.length) ++ [1 / cf (rest ls p rows.length) i])) := lead_sz rs (cf_mem hi) h0
      have bs : Bq (W0 * 2 ^ ls.length - 1) (1 / cf (rest ls p rows.length) i) := (z2.right.right.bqL w0) _ (List.mem_singleton.mpr rfl)
      have hx2 := hx.same e2
      obtain ⟨a1, xs1, rfl, t1, f1⟩ := id hx2
      refine u_at (i := i) (.inr t1) f1 rfl hi fun z1 hz1 => ?_
      refine ⟨_, _, _, _, W0 * 2 ^ ls.length - 1, rfl, oneF T _, ⟨z1, rfl, hz1⟩, Bq.one w0, (rs.left.bqL w0).cf w0 _, by omega, h0, fun v3 H3 e3 f3 => ?_⟩
      walk_at "st"
      refine ⟨_, _, _, _, W0 * 2 ^ ls.length - 1, rfl, f3, (hx2.same e3).row, bs, rs.left.bqL w0, w0, by omega, by omega, fun v4 H4 e4 r4 => ?_⟩
      walk_at "st"
      refine ⟨_, _, rfl, f3.same e4, fun v5 H5 e5 f5 => ?_⟩
      walk_at "st"
      refine ⟨_, _, _, _, W0 * 2 ^ ls.length - 1, rfl, f5, (hy.same (((e2.trans e3).trans e4).trans e5)).row, bs.negQ, rs.right.bqL w0, w0, by omega, by omega, fun v6 H6 e6 r6 => ?_⟩
      walk_at "st"
      (refine ⟨by first | exact le_l1 _ | exact le_l2 _ _ | exact le_l3 _ _ _ | exact le_l5 _ _ _ _ _ | exact le_l0, fun t7 newQ => ?_⟩; obtain ⟨H7, eqQ, e7, s7⟩ := tup_new K newQ; rw [eqQ]; clear eqQ)
      have e37 := ((e4.trans e5).trans e6).trans e7
      refine u_catRow (q := [1 / cf (rest ls p rows.length) i]) (r6.same e7) ⟨t7, _, rfl, s7, f3.same e37, trivial⟩ (by rw [List.length_map]; omega) (by show 1 ≤ 1000; decide) fun v8 H8 e8 r8 => ?_
      walk_at "st"
      (refine ⟨by first | exact le_l1 _ | exact le_l2 _ _ | exact le_l3 _ _ _ | exact le_l5 _ _ _ _ _ | exact le_l0, fun t9 newQ => ?_⟩; obtain ⟨H9, eqQ, e9, s9⟩ := tup_new K newQ; rw [eqQ]; clear eqQ)
      walk_at "st"
      have e08 : Same H H9 := ((((((e1.trans e2).trans e3).trans e37).trans e8)).trans e9)
      refine ⟨a, _, dx, _, .ref l, rfl, e08 _ _ ha, T.cl_Basis, T.no_Basis__lines, rfl, ?_⟩
      walk_at "st"
      (refine ⟨by first | exact le_l1 _ | exact le_l2 _ _ | exact le_l3 _ _ _ | exact le_l5 _ _ _ _ _ | exact le_l0, fun t10 newQ => ?_⟩; obtain ⟨H10, eqQ, e10, s10⟩ := tup_new K newQ; rw [eqQ]; clear eqQ)
      refine u_catT (e10.t (e08.t hL)) s10 (by show xl.length + 1 ≤ 100000; omega) fun l' H11 e11 s11 => ?_
      walk_at "st"
      have e011 : Same H H11 := (e08.trans e10).trans e11
      have ha11 := e011 _ _ ha
      refine ⟨a, _, dx, _, rfl, ha11, T.cl_Basis, T.no_Basis__lines, (show (3 : Nat) < 1000 by decide), ?_⟩
      have x12 : SameX a H11 (upd H11 a (.ins T.a_Basis dx (putF "_lines" (.ref l') [("width", .int n), ("_rows", .ref r), ("_lines", .ref l)]))) := samex_upd
      have h12 : upd H11 a (.ins T.a_Basis dx (putF "_lines" (.ref l') [("width", .int n), ("_rows", .ref r), ("_lines", .ref l)])) a = some (.ins T.a_Basis dx [("width", .int n), ("_rows", .ref r), ("_lines", .ref l')]) := upd_same
      generalize upd H11 a (.ins T.a_Basis dx (putF "_lines" (.ref l') [("width", .int n), ("_rows", .ref r), ("_lines", .ref l)])) = H12 at x12 h12 ⊢
      walk_at "st"
      refine ⟨a, _, dx, _, .ref r, rfl, h12, T.cl_Basis, T.no_Basis__rows, rfl, ?_⟩
      walk_at "st"
      have im12 := x12.immI ha11
      refine u_tupleRow ((hv.same e011).immI x12 ha11) fun v13 H13 e13 r13 => ?_
      walk_at "st"
      (refine ⟨by first | exact le_l1 _ | exact le_l2 _ _ | exact le_l3 _ _ _ | exact le_l5 _ _ _ _ _ | exact le_l0, fun t14 newQ => ?_⟩; obtain ⟨H14, eqQ, e14, s14⟩ := tup_new K newQ; rw [eqQ]; clear eqQ)
      have e1314 := e13.trans e14
      refine u_catT (e1314.t (im12.t (e011.t hR))) s14 (by show xr.length + 1 ≤ 100000; omega) fun r' H15 e15 s15 => ?_
      walk_at "st"
      have e1215 := e1314.trans e15
      have ha15 := e1215 _ _ h12
      refine ⟨a, _, dx, _, rfl, ha15, T.cl_Basis, T.no_Basis__rows, (show (3 : Nat) < 1000 by decide), ?_⟩
      have x16 : SameX a H15 (upd H15 a (.ins T.a_Basis dx (putF "_rows" (.ref r') [("width", .int n), ("_rows", .ref r), ("_lines", .ref l')]))) := samex_upd
      have h16 : upd H15 a (.ins T.a_Basis dx (putF "_rows" (.ref r') [("width", .int n), ("_rows", .ref r), ("_lines", .ref l')])) a = some (.ins T.a_Basis dx [("width", .int n), ("_rows", .ref r'), ("_lines", .ref l')]) := upd_same
      generalize upd H15 a (.ins T.a_Basis dx (putF "_rows" (.ref r') [("width", .int n), ("_rows", .ref r), ("_lines", .ref l')])) = H16 at x16 h16 ⊢
      walk_at "st"
      have im16 := x16.immI ha15
      have im1216 := e1215.imm.trans im16
      have im016 := (e011.imm.trans im12).trans im1216
      have im916 : Imm H9 H16 := ((e10.trans e11).imm.trans im12).trans im1216
      have x016 : SameX a H H16 := (e011.x.trans x12).trans (e1215.x.trans x16)
      refine k2 i (by omega) h0 h1 _ x016 ⟨r', l', _, _, ⟨dx, h16⟩, im16.t s15, Rs.snoc (fR.mono fun _ _ z => z.imm im016) (r13.imm ((e14.trans e15).imm.trans im16)), im1216.t (im12.t s11), Al.snoc (fL.mono fun _ _ z => z.imm im016) ⟨t9, _, _, rfl, im916.t s9, ?_, ?_⟩, B.add hp z (by omega) h0, n12⟩
      · exact r4.imm ((((((e5.trans e6).trans e7).trans e8).trans e9).imm).trans im916)
      · exact r8.imm (e9.imm.trans im916)
    · walk_at "st"
      exact k1 h0 _ (e1.trans e2)
end
end K01

set_option maxHeartbeats 4000000
namespace K01
open PySem PySem.Spec PyProof.Rows L2 Ly


/-- a step of the model: [place, row], both lists, none of them in M -/
def StpT (M : List Addr) (K : PySem.W.Frag) (H : Hp) (v : V) (l : Ln) : Prop := ∃ s t us, v = .ref s ∧ H s = some (.lst [.int (l.1 : Nat), .ref t]) ∧ H t = some (.lst us) ∧ Fs K H us l.2.1 ∧ s ∉ M ∧ t ∉ M
def Liv (M : List Addr) (H : Hp) : Prop := ∀ m ∈ M, ∃ xs, H m = some (.lst xs)
def SameS (S : List Addr) (H H' : Hp) : Prop := ∀ x o, x ∉ S → H x = some o → H' x = some o
theorem SameS.trans {S : List Addr} {H H1 H2 : Hp} (p : SameS S H H1) (q : SameS S H1 H2) : SameS S H H2 := fun x o n h => q x o n (p x o n h)
theorem _root_.L2.Same.s {S : List Addr} {H H' : Hp} (e : Same H H') : SameS S H H' := fun x o _ h => e x o h
theorem SameX_s {S : List Addr} {b : Addr} {H H' : Hp} (e : SameX b H H') (h : b ∈ S) : SameS S H H' := fun x o n k => e x o (fun z => n (z ▸ h)) k
theorem SameS.sub {S S' : List Addr} {H H' : Hp} (e : SameS S H H') (h : ∀ x ∈ S, x ∈ S') : SameS S' H H' := fun x o n k => e x o (fun z => n (h x z)) k
/-- the model at mo: its width, its rows at m1, its steps at m2 -/
structure MdOk (M : List Addr) (K : PySem.W.Frag) (H : Hp) (mo m1 m2 : Addr) (n : Nat) (rows : List (List Rat)) (ls : List Ln) : Prop where
  mo_ : H mo = some (.lst [.int n, .ref m1, .ref m2])
  nmo : mo ∉ M
  i1 : m1 ∈ M
  i2 : m2 ∈ M
  ne : m1 ≠ m2
  rows_ : ∃ ys, H m1 = some (.lst ys) ∧ Rs (RowT K H) ys rows
  stps : ∃ zs, H m2 = some (.lst zs) ∧ Al (StpT M K H) zs ls
  liv : Liv M H
section
variable {M : List Addr} {K : PySem.W.Frag} {H H' : Hp} {mo m1 m2 : Addr} {n : Nat} {rows : List (List Rat)} {ls : List Ln}
theorem StpT.keep {v : V} {l : Ln} (h : StpT M K H v l) (im : Imm H H') (k : ∀ s o, s ∉ M → H s = some o → (∀ r s c : Int, o ≠ .lst [.int r, .int s, .int c]) → (∀ C dx fs, o ≠ .ins C dx fs) → H' s = some o) : StpT M K H' v l := by
  obtain ⟨s, t, us, rfl, h1, h2, h3, h4, h5⟩ := h
  exact ⟨s, t, us, rfl, k s _ h4 h1 (fun _ _ _ z => by simp at z) (fun _ _ _ z => nomatch z), k t _ h5 h2 (fun r s c => fs_ne h3 r s c) (fun _ _ _ z => nomatch z), h3.imm im, h4, h5⟩
theorem rs_ne {xs : List V} {rows : List (List Rat)} (h : Rs (RowT K H) xs rows) (r s c : Int) : HO.lst xs ≠ .lst [.int r, .int s, .int c] := by
  intro e
  injection e with e
  subst e
  match rows, h with
  | _ :: _, h =>
    obtain ⟨⟨_, _, e, _⟩, _⟩ := h
    cases e
theorem al_ne {xs : List V} {ls : List Ln} (h : Al (StpT M K H) xs ls) (r s c : Int) : HO.lst xs ≠ .lst [.int r, .int s, .int c] := by
  intro e
  injection e with e
  subst e
  match ls, h with
  | _ :: _, h =>
    obtain ⟨⟨_, _, _, e, _⟩, _⟩ := h
    cases e
/-- what stays where neither a list of three ints nor an own object is looked at -/
theorem MdOk.keep (h : MdOk M K H mo m1 m2 n rows ls) (im : Imm H H') (k : ∀ s o, H s = some o → (∀ r s c : Int, o ≠ .lst [.int r, .int s, .int c]) → (∀ C dx fs, o ≠ .ins C dx fs) → (s ∉ M ∨ s = m1 ∨ s = m2) → H' s = some o) (lv : Liv M H') : MdOk M K H' mo m1 m2 n rows ls := by
  obtain ⟨a1, a2, a3, a4, a5, ⟨ys, a6, a7⟩, ⟨zs, a8, a9⟩, a10⟩ := h
  refine ⟨k _ _ a1 (fun _ _ _ z => by simp at z) (fun _ _ _ z => nomatch z) (.inl a2), a2, a3, a4, a5, ⟨ys, k _ _ a6 (fun r s c => rs_ne a7 r s c) (fun _ _ _ z => nomatch z) (.inr (.inl rfl)), a7.mono fun _ _ z => z.imm im⟩,
    ⟨zs, k _ _ a8 (fun r s c => al_ne a9 r s c) (fun _ _ _ z => nomatch z) (.inr (.inr rfl)), a9.mono fun _ _ z => z.keep im fun s o hs e q1 q2 => k s o e q1 q2 (.inl hs)⟩, lv⟩
theorem Liv.same (h : Liv M H) (e : Same H H') : Liv M H' := fun m hm => let ⟨xs, z⟩ := h m hm; ⟨xs, e _ _ z⟩
theorem MdOk.same (h : MdOk M K H mo m1 m2 n rows ls) (e : Same H H') : MdOk M K H' mo m1 m2 n rows ls := h.keep e.imm (fun s o z _ _ _ => e s o z) (h.liv.same e)
theorem MdOk.bag {b : Addr} {j : Nat} (h : MdOk M K H mo m1 m2 n rows ls) (hb : BagAt H b j) (nb : b ∉ M) (e : SameX b H H') : MdOk M K H' mo m1 m2 n rows ls :=
  h.keep (hb.imm e) (fun s o z q _ _ => e s o (hb.ne z q) z) fun m hm => let ⟨xs, z⟩ := h.liv m hm; ⟨xs, e m _ (fun q => nb (q ▸ hm)) z⟩
theorem MdOk.ins {a C dx : Addr} {fs : List (Str × V)} (h : MdOk M K H mo m1 m2 n rows ls) (ha : H a = some (.ins C dx fs)) (e : SameX a H H') : MdOk M K H' mo m1 m2 n rows ls :=
  have ne : ∀ {s : Addr} {o : HO}, H s = some o → (∀ C dx fs, o ≠ .ins C dx fs) → s ≠ a := fun {s o} z q r => by
    rw [r, ha] at z
    exact q _ _ _ (Option.some.inj z).symm
  h.keep (e.immI ha) (fun s o z _ q _ => e s o (ne z q) z) fun m hm => let ⟨xs, z⟩ := h.liv m hm; ⟨xs, e m _ (ne z fun _ _ _ r => nomatch r) z⟩
/-- the other model's lists changed -/
theorem MdOk.other {p1 p2 : Addr} (h : MdOk M K H mo m1 m2 n rows ls) (im : Imm H H') (e : SameS [p1, p2] H H') (h1 : p1 ∈ M) (h2 : p2 ∈ M) (n1 : m1 ≠ p1) (n2 : m1 ≠ p2) (n3 : m2 ≠ p1) (n4 : m2 ≠ p2) (lv : Liv M H') : MdOk M K H' mo m1 m2 n rows ls :=
  h.keep im (fun s o z _ _ q => e s o (by
    simp only [List.mem_cons, List.not_mem_nil, or_false, not_or]
    rcases q with q | q | q
    · exact ⟨fun r => q (r ▸ h1), fun r => q (r ▸ h2)⟩
    · rw [q]; exact ⟨n1, n2⟩
    · rw [q]; exact ⟨n3, n4⟩) z) lv
end
section
variable {w : World} {K : PySem.W.Frag} {mg : Str → Option Value} {base : Heap}
theorem pm_negz {p u : List Rat} {x : Rat} (h : x = 0) : pm p (-x) u = p := by rw [h, show -(0 : Rat) = 0 by grind, pm_zero]
def sp_lred (K : PySem.W.Frag) : Sp := fun vs H Q _ => ∃ (M : List Addr) (m2 : Addr) (v : V) (n : Nat) (rows : List (List Rat)) (ls : List Ln) (p : List Rat) (zs : List V), vs = [.ref m2, v] ∧ H m2 = some (.lst zs) ∧ Al (StpT M K H) zs ls ∧ Bas n rows ls ∧ n ≤ 12 ∧ Row K H v p ∧ p.length = n ∧ Sz (W0 - 1) p ∧
  ∀ D H', Loc K H D H' (rest ls p rows.length) → Q (.ref D) H'
theorem ok__law_reduced (T : Tx K mg) (hseer : base.NoSeer) : FnOk PP w K mg base CX0 39 T.a__law_reduced T.d__law_reduced ["steps", "row"] (sp_lred K) := by
  refine T.F__law_reduced.ok sc__law_reduced (fun vs H Q E h => ?_) (fun cdv A outer s H vs Q E hr h => ?_)
  · obtain ⟨_, _, _, _, _, _, _, _, rfl, _⟩ := h; rfl
  · obtain ⟨M, m2, v, n, rows, ls, p, zs, rfl, hm, fz, B, n12, hv, hp, z, k⟩ := h
    have lz := fz.len
    have Bl := B.le
    refine ⟨_, (pss_cons (ps_set (i := 2) (sc__law_reduced).nd rfl (by first | exact Or.inl rfl | exact Or.inr rfl) (pe_callTy call_listU (by rfl) T.n_list (by decide +kernel) (pa_cons (pv 1) pa_nil)))
  (pss_cons (ps_for PassesOwn.never rfl (pi_seqA (pv 0)) (pg_name (i := 3) (sc__law_reduced).nd rfl (by first | exact Or.inl rfl | exact Or.inr rfl))
   (pss_cons (ps_set (i := 4) (sc__law_reduced).nd rfl (by first | exact Or.inl rfl | exact Or.inr rfl) (pe_ix ix_seq (pv 2) (pe_ix ix_seq (pv 3) pe_int (fun _ _ => rfl)) (fun _ _ => rfl)))
  (pss_one (ps_if (pt_cmpR (op_neU hr.units) (pe_ix ix_seq (pv 4) pe_int (fun _ _ => rfl)) pe_int (nomark _))
   (pss_one (ps_for PassesOwn.never rfl (pi_range1 rfl T.n_range (pa_cons (pe_callB call_lenU (by rfl) T.n_len (by decide +kernel) (pa_cons (pv 2) pa_nil)) pa_nil)) (pg_name (i := 5) (sc__law_reduced).nd rfl (by first | exact Or.inl rfl | exact Or.inr rfl))
   (pss_one (ps_asg (pe_call (ok__law_minus T hseer) (hr.mono (by decide)) rfl T.g__law_minus T.k__law_minus T.b__law_minus .nil pass0 (pa_cons (pe_ix ix_seq (pv 2) (pv 5) (fun _ _ => rfl)) (pa_cons (pe_call (ok__law_times T hseer) (hr.mono (by decide)) rfl T.g__law_times T.k__law_times T.b__law_times .nil pass0 (pa_cons (pv 4) (pa_cons (pe_ix ix_seq (pe_ix ix_seq (pv 3) pe_int (fun _ _ => rfl)) (pv 5) (fun _ _ => rfl)) pa_nil))) pa_nil))) (pg_sub (pv 2) (pv 5) set_list)))))
   pss_nil))))
  (pss_one (ps_ret (pv 2))))), ?_⟩
    walk_at "go"
    refine u_listRow hv (Same.refl H) fun D H1 L1 e1 => ?_
    walk_at "st"
    refine seqB_go e1 (.inl (SqL.of hm)) fun J G hG hw => ?_
    refine forKC hw (fun i σ H' => Loc K H D H' (rd (ls.take i) (p, List.replicate rows.length 0)).1 ∧ ∃ l1 l2 l3 : Option V, σ = [some (.ref m2), some v, some (.ref D), l1, l2, l3]) ⟨L1, _, _, _, rfl⟩ (fun i σ H' hi q => hG _ q.1.1) ?_ ?_
    · rintro i x σ H4 H' hi ⟨L, l1, l2, l3, rfl⟩ ⟨rfl, y2⟩
      have e4 := L.1
      have hl : ls[i]? = some ls[i] := List.getElem?_eq_getElem (by omega)
      obtain ⟨v1, hv1, s1, t, us, rfl, hs, ht, hu, -, -⟩ := fz.at hl
      have y2 : zs[i]? = some x := y2
      rw [hv1] at y2
      cases y2
      have R := Run.to B hp z i (by omega)
      rw [rd_succ hl]
      generalize rd (ls.take i) (p, List.replicate rows.length 0) = s at L R ⊢
      obtain ⟨b1, b2, b3, b4⟩ := B.at_ i _ hl
      have wz := w_pow1 (i := i) (by omega)
      have w0 := w_one i
      have rz := R.sz
      have uz := B.sz i _ hl
      have r1 := R.l1
      have hs4 := e4 _ _ hs
      walk_at "st"
      refine u_atLoc (i := ls[i].1) L rfl (by omega) fun z1 hz1 => ?_
      walk_at "st"
      have bf : Bq (W0 * 2 ^ i - 1) (cf s.1 ls[i].1) := (rz.left.bqL w0).cf w0 _
      refine u_iteN (fun h => ?_) (fun h => ?_)
      · walk_at "st"
        obtain ⟨q1, q2, xs, q3, q4⟩ := id L
        have lx := q4.len
        refine u_len (.inl (SqL.of q3)) ?_
        refine u_rng1 (by omega) ?_
        refine forKC walk_range0 (fun j σ H' => (∃ r, Loc K H D H' r ∧ r.length = n ∧ ∀ x, cf r x = if x < j then cf s.1 x - cf s.1 ls[i].1 * cf ls[i].2.1 x else cf s.1 x) ∧ SqT K H' z1 (FrT (cf s.1 ls[i].1)) ∧ ∃ l3 : Option V, σ = [some (.ref m2), some v, some (.ref D), some (.ref s1), some (.ref z1), l3])
          ⟨⟨s.1, L, r1, fun x => by rw [if_neg (by omega)]⟩, hz1, _, rfl⟩ (fun _ _ _ _ _ => trivial) ?_ ?_
        · rintro j x σ H5 H' hj ⟨⟨r, L5, hrl, hr⟩, hz5, l3, rfl⟩ ⟨rfl, rfl⟩
          have e5 := L5.1
          walk_at "st"
          refine u_atLoc (i := j) L5 rfl (by omega) fun y1 hy1 => ?_
          walk_at "st"
          refine u_ixL (e5 _ _ hs) (k := 1) rfl ?_
          walk_at "st"
          refine u_at (i := j) (.inl (SqL.of (e5 _ _ ht))) (hu.same e5) rfl (by omega) fun y2 hy2 => ?_
          walk_at "st"
          have bu : Bq (W0 * 2 ^ i - 1) (cf ls[i].2.1 j) := (uz.left.bqL w0).cf w0 _
          have bo : Bq (W0 * 2 ^ i - 1) (cf s.1 j) := (rz.left.bqL w0).cf w0 _
          have c1 : cf r j = cf s.1 j := by rw [hr, if_neg (by omega)]
          refine ⟨_, _, _, _, W0 * 2 ^ i - 1, rfl, ⟨z1, rfl, hz5⟩, ⟨y2, rfl, hy2⟩, bf, bu, by omega, fun v6 H6 e6 f6 => ?_⟩
          walk_at "st"
          refine ⟨_, _, _, _, (W0 * 2 ^ i - 1) + (W0 * 2 ^ i - 1), rfl, ⟨y1, rfl, e6.t hy1⟩, f6, by rw [c1]; exact bo.mono (by omega), bf.mulQ bu w0, by omega, fun v7 H7 e7 f7 => ?_⟩
          walk_at "st"
          refine u_setLoc (i := j) ((L5.ext e6).ext e7) (by omega) rfl f7 fun H8 L8 im8 => ?_
          walk_at "st"
          refine ⟨⟨_, L8, by rw [List.length_set]; exact hrl, fun x => ?_⟩, im8.t ((e6.trans e7).t hz5), _, rfl⟩
          rw [cf_set (by omega), hr x, c1]
          by_cases h1 : x = j
          · subst h1; rw [if_pos rfl, if_pos (by omega)]
          · rw [if_neg h1]
            by_cases h2 : x < j
            · rw [if_pos h2, if_pos (by omega)]
            · rw [if_neg h2, if_neg (by omega)]
        · rintro σ H5 ⟨⟨r, L5, hrl, hr⟩, hz5, l3, rfl⟩
          walk_at "st"
          refine ⟨?_, _, _, _, rfl⟩
          have e : r = (stp s ls[i]).1 := cf_ext (by show _ = (pm _ _ _).length; rw [pm_len, hrl, r1]) fun x hx => by
            rw [hr x, if_pos (by omega)]
            show _ = cf (pm s.1 _ ls[i].2.1) x
            rw [cf_pm (by omega)]; grind
          rw [← e]
          exact L5
      · walk_at "st"
        refine ⟨?_, _, _, _, rfl⟩
        show Ly.Loc K H D H' (pm s.1 (-(cf s.1 ls[i].1)) ls[i].2.1)
        rw [pm_negz (Rat.num_eq_zero.mp h)]
        exact L
    · rintro σ H4 ⟨L, l1, l2, l3, rfl⟩
      rw [lz, List.take_length] at L
      walk_at "st"
      exact k _ _ L
end
end K01

set_option maxHeartbeats 4000000
namespace K01
open PySem PySem.Spec PyProof.Rows L2 Ly


section
variable {w : World} {K : PySem.W.Frag} {mg : Str → Option Value} {base : Heap}
/-- the first place that is not zero -/
theorem first_or (p : List Rat) : (∀ i, cf p i = 0) ∨ ∃ i, i < p.length ∧ cf p i ≠ 0 ∧ ∀ j, j < i → cf p j = 0 := by
  have key : ∀ n, (∀ i, i < n → cf p i = 0) ∨ ∃ i, i < n ∧ cf p i ≠ 0 ∧ ∀ j, j < i → cf p j = 0 := fun n => by
    induction n with
    | zero => exact .inl fun i hi => absurd hi (by omega)
    | succ n ih =>
      rcases ih with h | ⟨i, h1, h2, h3⟩
      · by_cases c : cf p n = 0
        · exact .inl fun i hi => by
            by_cases e : i = n
            · rw [e]; exact c
            · exact h i (by omega)
        · exact .inr ⟨n, by omega, c, h⟩
      · exact .inr ⟨i, by omega, h2, h3⟩
  rcases key p.length with h | ⟨i, h1, h2, h3⟩
  · exact .inl fun i => by
      by_cases c : i < p.length
      · exact h i c
      · exact cf_out (by omega)
  · exact .inr ⟨i, h1, h2, h3⟩
def sp_lheld (K : PySem.W.Frag) : Sp := fun vs H Q _ => ∃ (M : List Addr) (mo m1 m2 : Addr) (v : V) (n : Nat) (rows : List (List Rat)) (ls : List Ln) (p : List Rat), vs = [.ref mo, v] ∧ MdOk M K H mo m1 m2 n rows ls ∧ Bas n rows ls ∧ n ≤ 12 ∧ Row K H v p ∧ p.length = n ∧ Sz (W0 - 1) p ∧
  ((∀ i, cf (rest ls p rows.length) i = 0) → ∀ H', Same H H' → Q (.bl true) H') ∧ ((∃ i, cf (rest ls p rows.length) i ≠ 0) → ∀ H', Same H H' → Q (.bl false) H')
theorem ok__law_held (T : Tx K mg) (hseer : base.NoSeer) : FnOk PP w K mg base CX0 40 T.a__law_held T.d__law_held ["model", "row"] (sp_lheld K) := by
  refine T.F__law_held.ok sc__law_held (fun vs H Q E h => ?_) (fun cdv A outer s H vs Q E hr h => ?_)
  · obtain ⟨_, _, _, _, _, _, _, _, _, rfl, _⟩ := h; rfl
  · obtain ⟨M, mo, m1, m2, v, n, rows, ls, p, rfl, hM, B, n12, hv, hp, z, k1, k2⟩ := h
    have hmo := hM.mo_
    obtain ⟨zs, hz, fz⟩ := hM.stps
    have R := Run.all B hp z
    have r1 : (rest ls p rows.length).length = n := R.l1
    refine ⟨_, (pss_one (ps_ret (pe_cmpR op_lt (pe_call (ok__law_first T hseer) (hr.mono (by decide)) rfl T.g__law_first T.k__law_first T.b__law_first .nil pass0 (pa_cons (pe_call (ok__law_reduced T hseer) (hr.mono (by decide)) rfl T.g__law_reduced T.k__law_reduced T.b__law_reduced .nil pass0 (pa_cons (pe_ix ix_seq (pv 0) pe_int (fun _ _ => rfl)) (pa_cons (pv 1) pa_nil))) pa_nil)) pe_int (nomark _)))), ?_⟩
    walk_at "go"
    refine ⟨M, m2, v, n, rows, ls, p, zs, rfl, hz, fz, B, n12, hv, hp, z, fun D H1 L => ?_⟩
    walk_at "st"
    refine ⟨_, _, rfl, L.row.row, by omega, fun i hi h0 h1 => ?_, fun h0 => ?_⟩
    · refine ⟨_, _, rfl, rfl, ?_⟩
      show Q (V.bl (decide ((i : Int) < 0))) H1
      rw [decide_eq_false (by omega)]
      exact k2 ⟨i, h0⟩ _ L.1
    · refine ⟨_, _, rfl, rfl, ?_⟩
      show Q (V.bl (decide ((-1 : Int) < 0))) H1
      rw [decide_eq_true (by decide)]
      exact k1 h0 _ L.1
def sp_lent (K : PySem.W.Frag) : Sp := fun vs H Q _ => ∃ (M : List Addr) (mo m1 m2 y : Addr) (n : Nat) (rows : List (List Rat)) (ls : List Ln) (p : List Rat), vs = [.ref mo, .ref y] ∧ MdOk M K H mo m1 m2 n rows ls ∧ Bas n rows ls ∧ n ≤ 12 ∧ RowT K H (.ref y) p ∧ p.length = n ∧ Sz (W0 - 1) p ∧
  ((∀ i, cf (rest ls p rows.length) i = 0) → ∀ H', Same H H' → Q (.bl false) H') ∧
  (∀ i, i < n → cf (rest ls p rows.length) i ≠ 0 → (∀ j, j < i → cf (rest ls p rows.length) j = 0) → ∀ H', Imm H H' → SameS [m1, m2] H H' → MdOk M K H' mo m1 m2 n (rows ++ [p]) (ls ++ [newLn ls p rows.length i]) → Q (.bl true) H')
theorem ok__law_entered (T : Tx K mg) (hseer : base.NoSeer) : FnOk PP w K mg base CX0 40 T.a__law_entered T.d__law_entered ["model", "row"] (sp_lent K) := by
  refine T.F__law_entered.ok sc__law_entered (fun vs H Q E h => ?_) (fun cdv A outer s H vs Q E hr h => ?_)
  · obtain ⟨_, _, _, _, _, _, _, _, _, rfl, _⟩ := h; rfl
  · obtain ⟨M, mo, m1, m2, y, n, rows, ls, p, rfl, hM, B, n12, hv, hp, z, k1, k2⟩ := h
    have hmo := hM.mo_
    obtain ⟨zs, hz, fz⟩ := hM.stps
    obtain ⟨ys, hy, fy⟩ := hM.rows_
    have R := Run.all B hp z
    have r1 : (rest ls p rows.length).length = n := R.l1
    have rs : Sz (W0 * 2 ^ ls.length - 1) (rest ls p rows.length ++ prts ls p rows.length) := R.sz
    have Bl := B.le
    have lz := fz.len
    have ly := fy.len
    have Bn := B.len
    have wz := w_pow (i := ls.length) (by omega)
    have w0 := w_one ls.length
    refine ⟨_, (pss_cons (ps_set (i := 2) (sc__law_entered).nd rfl (by first | exact Or.inl rfl | exact Or.inr rfl) (pe_call (ok__law_reduced T hseer) (hr.mono (by decide)) rfl T.g__law_reduced T.k__law_reduced T.b__law_reduced .nil pass0 (pa_cons (pe_ix ix_seq (pv 0) pe_int (fun _ _ => rfl)) (pa_cons (pv 1) pa_nil))))
  (pss_cons (ps_set (i := 3) (sc__law_entered).nd rfl (by first | exact Or.inl rfl | exact Or.inr rfl) (pe_call (ok__law_first T hseer) (hr.mono (by decide)) rfl T.g__law_first T.k__law_first T.b__law_first .nil pass0 (pa_cons (pv 2) pa_nil)))
  (pss_cons (ps_if (pt_cmpR op_lt (pv 3) pe_int (nomark _))
   (pss_one (ps_ret pe_bl))
   pss_nil)
  (pss_cons (ps_set (i := 4) (sc__law_entered).nd rfl (by first | exact Or.inl rfl | exact Or.inr rfl) (pe_ix ix_seq (pv 2) (pv 3) (fun _ _ => rfl)))
  (pss_cons (ps_expr (pe_bm PySem.F.plainAttrs_list PySem.F.slot_list_append PySem.F.type_list_append mt_append (pe_ix ix_seq (pv 0) pe_int (fun _ _ => rfl)) (pa_cons (pv 1) pa_nil)))
  (pss_cons (ps_expr (pe_bm PySem.F.plainAttrs_list PySem.F.slot_list_append PySem.F.type_list_append mt_append (pe_ix ix_seq (pv 0) pe_int (fun _ _ => rfl)) (pa_cons (pe_lst (pa_cons (pv 3) (pa_cons (pe_lc (own := [("p", 5)]) rfl (sc__law_entered).nd (pi_seqA (pv 2)) (blkOk_by (own := [("p", 5)]) (N := n__law_entered) (sc := defScope s__law_entered) (by decide +kernel)) (fun _ _ _ _ _ => (pg_name (i := 5) (sc__law_entered).nd rfl (by first | exact Or.inl rfl | exact Or.inr rfl))) (fun _ _ _ _ _ => pts_nil) (fun _ _ _ _ _ => (pe_call (ok__law_over T hseer) (hr.mono (by decide)) rfl T.g__law_over T.k__law_over T.b__law_over .nil pass0 (pa_cons (pv 5) (pa_cons (pv 4) pa_nil))))) pa_nil))) pa_nil)))
  (pss_one (ps_ret pe_bl)))))))), ?_⟩
    walk_at "go"
    refine ⟨M, m2, _, n, rows, ls, p, zs, rfl, hz, fz, B, n12, hv.row, hp, z, fun D H1 L => ?_⟩
    walk_at "st"
    have e1 := L.1
    refine ⟨_, _, rfl, L.row.row, by omega, fun i hi h0 h1 => ?_, fun h0 => ?_⟩
    · walk_at "st"
      refine u_ite (fun h => absurd h (by omega)) (fun _ => ?_)
      walk_at "st"
      refine u_atLoc (i := i) L rfl hi fun z1 hz1 => ?_
      have hmo1 := e1 _ _ hmo
      have hy1 := e1 _ _ hy
      have hz1' := e1 _ _ hz
      walk_at "st"
      refine ⟨.inl ⟨rfl, _, SqL.of hy1⟩, ?_⟩
      walk_at "st"
      refine ⟨m1, ys, .ref y, rfl, rfl, hy1, Nat.lt_of_le_of_lt (m := 100000) (by omega) (by decide), ?_⟩
      have x2 : SameX m1 H1 (upd H1 m1 (.lst (ys ++ [.ref y]))) := samex_upd
      have h2 : upd H1 m1 (.lst (ys ++ [.ref y])) m1 = some (.lst (ys ++ [.ref y])) := upd_same
      have i2 : Imm H1 (upd H1 m1 (.lst (ys ++ [.ref y]))) := Imm.upd hy1
      have nD : D ≠ m1 := fun q => by
        have := L.2.1
        rw [q, hy] at this
        cases this
      obtain ⟨q1, q2, us, q3, q4⟩ := id L
      have lu := q4.len
      have h2D := x2 _ _ nD q3
      have nmo1 : mo ≠ m1 := fun q => hM.nmo (q ▸ hM.i1)
      have h2mo := x2 _ _ nmo1 hmo1
      have h2z := x2 _ _ (Ne.symm hM.ne) hz1'
      generalize upd H1 m1 (.lst (ys ++ [.ref y])) = H2 at *
      walk_at "st"
      refine ⟨.inl ⟨rfl, _, SqL.of h2z⟩, ?_⟩
      walk_at "st"
      refine seqB_go (Same.refl H2) (.inl (SqL.of h2D)) fun J G hG hw => ?_
      refine lcK hw (fun D' j acc H' => Ly.Loc K H2 D' H' ((smul (1 / cf (rest ls p rows.length) i) (rest ls p rows.length)).take j)) (fun D' hD => Loc.new hD (Same.refl H2) trivial) (fun D' j acc H4 hD hj L => hG _ L.1) (fun D' j acc x H4 H5 hD hj L4 y2 => ?_) (fun D' acc H4 hD L4 => ?_)
      · obtain ⟨rfl, y2⟩ := y2
        have e4 := L4.1
        walk_at "st"
        refine ⟨rfl, ?_⟩
        obtain ⟨v5, hv5, fv⟩ := (q4.imm i2).at (i := j) (by omega)
        have y2 : us[j]? = some x := y2
        rw [hv5] at y2
        cases y2
        walk_at "st"
        refine ⟨_, _, _, _, W0 * 2 ^ ls.length - 1, rfl, fv.same e4, ⟨z1, rfl, e4.t (i2.t hz1)⟩, (rs.left.bqL w0).cf w0 _, (rs.left.bqL w0).cf w0 _, by omega, h0, fun v6 H6 e6 f6 => ?_⟩
        refine lcLoc (L4.ext e6) (by rw [List.length_take, smul_len]; omega) f6 fun acc H7 L7 _ => ?_
        have : (smul (1 / cf (rest ls p rows.length) i) (rest ls p rows.length))[j]? = some (cf (rest ls p rows.length) j / cf (rest ls p rows.length) i) := by
          unfold smul
          rw [List.getElem?_map, cf_in (by omega)]
          show some (1 / cf (rest ls p rows.length) i * cf (rest ls p rows.length) j) = _
          congr 1; grind
        rw [← take_more this]
        exact L7
      · rw [List.take_of_length_le (by rw [smul_len]; omega)] at L4
        walk_at "st"
        have e4 := L4.1
        (refine ⟨by first | exact le_l1 _ | exact le_l2 _ _ | exact le_l3 _ _ _ | exact le_l5 _ _ _ _ _ | exact le_l0, fun s5 n5 => ?_⟩; obtain ⟨H5, eqQ, e5, h5⟩ := lst_new K n5; rw [eqQ]; clear eqQ)
        walk_at "st"
        have e25 := e4.trans e5
        have h5z := e25 _ _ h2z
        refine ⟨m2, zs, .ref s5, rfl, rfl, h5z, Nat.lt_of_le_of_lt (m := 100000) (by omega) (by decide), ?_⟩
        have x6 : SameX m2 H5 (upd H5 m2 (.lst (zs ++ [.ref s5]))) := samex_upd
        have h6 : upd H5 m2 (.lst (zs ++ [.ref s5])) m2 = some (.lst (zs ++ [.ref s5])) := upd_same
        have i6 : Imm H5 (upd H5 m2 (.lst (zs ++ [.ref s5]))) := Imm.upd h5z
        generalize upd H5 m2 (.lst (zs ++ [.ref s5])) = H6 at *
        walk_at "st"
        have hS : SameS [m1, m2] H H6 := ((e1.s.trans (SameX_s x2 (by simp))).trans e25.s).trans (SameX_s x6 (by simp))
        have hI : Imm H H6 := ((e1.imm.trans i2).trans e25.imm).trans i6
        have lv : Liv M H6 := fun m hm => by
          obtain ⟨xs, a0⟩ := hM.liv m hm
          by_cases c2 : m = m2
          · rw [c2]; exact ⟨_, h6⟩
          by_cases c1 : m = m1
          · rw [c1]; exact ⟨_, x6 _ _ hM.ne (e25 _ _ h2)⟩
          · exact ⟨xs, hS m _ (by simp [c1, c2]) a0⟩
        have lv2 : Liv M H2 := fun m hm => by
          obtain ⟨xs, a0⟩ := hM.liv m hm
          by_cases c1 : m = m1
          · rw [c1]; exact ⟨_, h2⟩
          · exact ⟨xs, x2 _ _ c1 (e1 _ _ a0)⟩
        have nD' : D' ∉ M := fun hm => by
          obtain ⟨xs, a0⟩ := lv2 D' hm
          rw [hD] at a0; cases a0
        have ns5 : s5 ∉ M := fun hm => by
          obtain ⟨xs, a0⟩ := lv2 s5 hm
          have := e4 _ _ a0
          rw [n5] at this; cases this
        obtain ⟨g1, g2, us', g3, g4⟩ := L4
        refine k2 i (by omega) h0 h1 _ hI hS ⟨hS _ _ (by simp; exact ⟨fun q => hM.nmo (q ▸ hM.i1), fun q => hM.nmo (q ▸ hM.i2)⟩) hmo, hM.nmo, hM.i1, hM.i2, hM.ne, ⟨_, x6 _ _ hM.ne (e25 _ _ h2), Rs.snoc (fy.mono fun _ _ q => q.imm hI) (hv.imm hI)⟩,
          ⟨_, h6, Al.snoc (fz.mono fun _ _ q => q.keep hI fun s o hs e _ _ => hS s o (by simp; exact ⟨fun q => hs (q ▸ hM.i1), fun q => hs (q ▸ hM.i2)⟩) e) ⟨s5, D', us', rfl, x6 _ _ (fun q => ns5 (q ▸ hM.i2)) h5, x6 _ _ (fun q => nD' (q ▸ hM.i2)) (e5 _ _ g3), (g4.same e5).imm i6, ns5, nD'⟩⟩, lv⟩
    · walk_at "st"
      exact k1 h0 _ e1
end
end K01

set_option maxHeartbeats 4000000
namespace K01
open PySem PySem.Spec PyProof.Rows L2 Ly


section
variable {w : World} {K : PySem.W.Frag} {mg : Str → Option Value} {base : Heap}
theorem getD_at {rows : List (List Rat)} {j : Nat} {p : List Rat} (h : rows[j]? = some p) : rows.getD j [] = p := by rw [List.getD_eq_getElem?_getD, h]; rfl
def sp_lcomb (K : PySem.W.Frag) : Sp := fun vs H Q _ => ∃ (v u : V) (c : List Rat) (rows : List (List Rat)) (n s t : Nat), vs = [v, u, .int n] ∧ Row K H v c ∧ Grid K H u rows ∧ c.length = rows.length ∧ rows.length ≤ 1000 ∧ n ≤ 1000 ∧ (∀ r ∈ rows, r.length = n) ∧ Sz s c ∧ Sz t rows.flatten ∧ s + t + 10 ≤ 60000000 ∧
  ∀ a H', Same H H' → RowT K H' (.ref a) (combL c rows n) → Q (.ref a) H'
theorem ok__law_combined (T : Tx K mg) (hseer : base.NoSeer) : FnOk PP w K mg base CX0 39 T.a__law_combined T.d__law_combined ["factors", "rows", "width"] (sp_lcomb K) := by
  refine T.F__law_combined.ok sc__law_combined (fun vs H Q E h => ?_) (fun cdv A outer s H vs Q E hr h => ?_)
  · obtain ⟨_, _, _, _, _, _, _, rfl, _⟩ := h; rfl
  · obtain ⟨_, _, c, rows, n, s1, s2, rfl, ⟨a, xs, rfl, ha, fa⟩, ⟨b, ys, rfl, hb, fb⟩, hl, lr, ln, hrl, z1, z2, nn, k⟩ := h
    have la := fa.len
    have lb := fb.len
    have s0 := z1.pos
    have t0 := z2.pos
    refine ⟨_, (pss_cons (ps_setLc (i := 3) (own := [("k", 5)]) (by rfl) (sc__law_combined).nd rfl rfl (sw_true rfl rfl rfl (by decide +kernel)) (pi_range1 rfl T.n_range (pa_cons (pv 2) pa_nil)) (blkOk_by (own := [("k", 5)]) (N := n__law_combined) (sc := defScope s__law_combined) (by decide +kernel)) (fun _ _ _ _ _ => (pg_name (i := 5) (sc__law_combined).nd rfl (by first | exact Or.inl rfl | exact Or.inr rfl))) (fun _ _ _ _ _ => pts_nil) (fun _ _ _ _ _ => (pe_tup (pa_cons pe_int (pa_cons pe_int pa_nil)))))
  (pss_cons (ps_for PassesOwn.never rfl (pi_range1 rfl T.n_range (pa_cons (pe_callB call_lenU (by rfl) T.n_len (by decide +kernel) (pa_cons (pv 0) pa_nil)) pa_nil)) (pg_name (i := 4) (sc__law_combined).nd rfl (by first | exact Or.inl rfl | exact Or.inr rfl))
   (pss_one (ps_for PassesOwn.never rfl (pi_range1 rfl T.n_range (pa_cons (pv 2) pa_nil)) (pg_name (i := 5) (sc__law_combined).nd rfl (by first | exact Or.inl rfl | exact Or.inr rfl))
   (pss_one (ps_asg (pe_call (ok__law_plus T hseer) (hr.mono (by decide)) rfl T.g__law_plus T.k__law_plus T.b__law_plus .nil pass0 (pa_cons (pe_ix ix_seq (pv 3) (pv 5) (fun _ _ => rfl)) (pa_cons (pe_call (ok__law_times T hseer) (hr.mono (by decide)) rfl T.g__law_times T.k__law_times T.b__law_times .nil pass0 (pa_cons (pe_ix ix_seq (pv 0) (pv 4) (fun _ _ => rfl)) (pa_cons (pe_ix ix_seq (pe_ix ix_seq (pv 1) (pv 4) (fun _ _ => rfl)) (pv 5) (fun _ _ => rfl)) pa_nil))) pa_nil))) (pg_sub (pv 3) (pv 5) set_list))))))
  (pss_one (ps_ret (pe_callTy call_tupleU (by rfl) T.n_tuple (by decide +kernel) (pa_cons (pv 3) pa_nil)))))), ?_⟩
    walk_at "go"
    refine u_rng1 (by omega) ?_
    refine lcK walk_range0 (fun D i acc H' => Ly.Loc K H D H' (List.replicate i 0)) (fun D hD => Loc.new hD (Same.refl H) trivial) (fun _ _ _ _ _ _ _ => trivial) (fun D i acc x H4 H5 hD hi L y2 => ?_) (fun D acc H4 hD L => ?_)
    · obtain ⟨rfl, rfl⟩ := y2
      walk_at "st"
      refine ⟨rfl, ?_⟩
      walk_at "st"
      intro z H6 e6 f6
      refine lcLoc (L.ext e6) (by rw [List.length_replicate]; omega) ⟨z, rfl, f6 K⟩ fun acc H7 L7 _ => ?_
      rw [rep_succ]
      exact L7
    · walk_at "st"
      have e4 := L.1
      refine u_len (e4.sq ha) ?_
      refine u_rng1 (by omega) ?_
      refine forKC walk_range0 (fun j σ H' => (∃ r, Ly.Loc K H D H' r ∧ r.length = n ∧ ∀ i, i < n → cf r i = sumTo j fun j => cf c j * cf (rows.getD j []) i) ∧ ∃ l1 l2 : Option V, σ = [some (.ref a), some (.ref b), some (.int n), some (.ref D), l1, l2])
        ⟨⟨_, L, by rw [List.length_replicate]; omega, fun i hi => by rw [cf_rep]; rfl⟩, _, _, rfl⟩ (fun _ _ _ _ _ => trivial) ?_ ?_
      · rintro j x σ H5 H' hj ⟨⟨r, L5, hrl5, hr5⟩, l1, l2, rfl⟩ ⟨rfl, rfl⟩
        walk_at "st"
        refine u_rng1 (by omega) ?_
        refine forKC walk_range0 (fun x σ H' => (∃ r', Ly.Loc K H D H' r' ∧ r'.length = n ∧ ∀ i, i < n → cf r' i = sumTo (if i < x then j + 1 else j) fun j => cf c j * cf (rows.getD j []) i) ∧ ∃ l2 : Option V, σ = [some (.ref a), some (.ref b), some (.int n), some (.ref D), some (.int j), l2])
          ⟨⟨_, L5, hrl5, fun i hi => by rw [if_neg (by omega)]; exact hr5 i hi⟩, _, rfl⟩ (fun _ _ _ _ _ => trivial) ?_ ?_
        · rintro i x σ H6 H' hi ⟨⟨r, L6, hrl6, hr6⟩, l2, rfl⟩ ⟨rfl, rfl⟩
          have e6 := L6.1
          walk_at "st"
          refine u_atLoc (i := i) L6 rfl (by omega) fun y1 hy1 => ?_
          walk_at "st"
          refine u_at (i := j) (e6.sq ha) (fa.same e6) rfl (by omega) fun y2 hy2 => ?_
          walk_at "st"
          have hp : rows[j]? = some rows[j] := List.getElem?_eq_getElem (by omega)
          obtain ⟨v3, hv3, b3, ys3, rfl, hb3, fb3⟩ := fb.at hp
          refine u_ix (e6.sq hb) (atI_nat hv3) ?_
          walk_at "st"
          refine u_at (i := i) (e6.sq hb3) (fb3.same e6) rfl (by rw [hrl _ (List.getElem_mem (by omega))]; omega) fun y4 hy4 => ?_
          walk_at "st"
          have bc : Bq s1 (cf c j) := (z1.bqL s0).cf s0 j
          have br : Bq s2 (cf rows[j] i) := by
            rw [← getD_at hp]
            exact ((sz_row z2).bqL t0).cf t0 i
          refine ⟨_, _, _, _, s1 + s2, rfl, ⟨y2, rfl, hy2⟩, ⟨y4, rfl, hy4⟩, bc.mono (by omega), br.mono (by omega), by omega, fun v7 H7 e7 f7 => ?_⟩
          walk_at "st"
          have c1 : cf r i = sumTo j fun j => cf c j * cf (rows.getD j []) i := by rw [hr6 i (by omega), if_neg (by omega)]
          refine ⟨_, _, _, _, s1 + s2 + 10, rfl, ⟨y1, rfl, e7.t hy1⟩, f7, by rw [c1]; exact comb_bq z1 z2 (by omega), (bc.mulQ br s0).mono (by omega), nn, fun v8 H8 e8 f8 => ?_⟩
          walk_at "st"
          refine u_setLoc (i := i) ((L6.ext e7).ext e8) (by omega) rfl f8 fun H9 L9 _ => ?_
          walk_at "st"
          refine ⟨⟨_, L9, by rw [List.length_set]; exact hrl6, fun x hx => ?_⟩, _, rfl⟩
          rw [cf_set (by omega)]
          by_cases h1 : x = i
          · subst h1
            rw [if_pos rfl, if_pos (by omega), c1, ← getD_at hp]
            rfl
          · rw [if_neg h1, hr6 x hx]
            by_cases h2 : x < i
            · rw [if_pos h2, if_pos (by omega)]
            · rw [if_neg h2, if_neg (by omega)]
        · rintro σ H6 ⟨⟨r, L6, hrl6, hr6⟩, l2, rfl⟩
          walk_at "st"
          refine ⟨⟨r, L6, hrl6, fun i hi => ?_⟩, _, _, rfl⟩
          rw [hr6 i hi, if_pos (by omega)]
      · rintro σ H5 ⟨⟨r, L5, hrl5, hr5⟩, l1, l2, rfl⟩
        walk_at "st"
        have e : r = combL c rows n := cf_ext (by rw [combL_len, hrl5]) fun i hi => by
          rw [cf_combL (by omega), hr5 i (by omega)]
          unfold comb
          rw [show ((xs.length : Int)).toNat = rows.length by omega]
        subst e
        refine u_tupleRow L5.row.row fun v' H6 e6 r6 => ?_
        obtain ⟨y, zs, rfl, q⟩ := id r6
        exact k y H6 (L5.1.trans e6) r6
def sp_rowt (T : Tx K mg) : Sp := fun vs H Q E => ∃ (v u : V) (p : List Rat) (m : List (List Rat)) (s t : Nat), vs = [v, u] ∧ Row K H v p ∧ Grid K H u m ∧ p.length ≤ 1000 ∧ m.length ≤ 1000 ∧
  (p.length ≠ m.length → ∀ d, H d = none → E (.ref T.a_WrongWidth) (some d) (upd H d (.xd [("want", .int m.length), ("got", .int p.length)]))) ∧
  (p.length = m.length → wid m ≤ 1000 ∧ (∀ r ∈ m, r.length = wid m) ∧ Sz s p ∧ Sz t m.flatten ∧ s + t + 10 ≤ 60000000 ∧ ∀ v' H', Same H H' → RowT K H' v' (combL p m (wid m)) → Q v' H')
theorem okX_row_times (T : Tx K mg) (hseer : base.NoSeer) : FnOk PP w K mg base (L2.CX PP w) 39 T.a_row_times T.d_row_times ["row", "matrix"] (sp_rowt T) := by
  refine T.F_row_times.okX sc_row_times (fun vs H Q E h => ?_) (fun cdv A outer s H vs Q E hr h => ?_)
  · obtain ⟨_, _, _, _, _, _, rfl, _⟩ := h; rfl
  · obtain ⟨_, _, p, m, s1, s2, rfl, ⟨a, xs, rfl, ha, fa⟩, ⟨b, ys, rfl, hb, fb⟩, lp, lm, kE, kQ⟩ := h
    have la := fa.len
    have lb := fb.len
    refine ⟨_, (pss_cons (ps_if (pt_cmpR (op_neU hr.units) (pe_callB call_lenU (by rfl) T.n_len (by decide +kernel) (pa_cons (pv 0) pa_nil)) (pe_callB call_lenU (by rfl) T.n_len (by decide +kernel) (pa_cons (pv 1) pa_nil)) (nomark _))
   (pss_one (ps_raise rfl (takes_of rfl rfl rfl rfl) (pmk_X T.xt_WrongWidth hr (pa_cons (pe_callB call_lenU (by rfl) T.n_len (by decide +kernel) (pa_cons (pv 1) pa_nil)) (pa_cons (pe_callB call_lenU (by rfl) T.n_len (by decide +kernel) (pa_cons (pv 0) pa_nil)) pa_nil)) rfl)))
   pss_nil)
  (PSs.nox (pss_cons (ps_set (i := 2) (sc_row_times).nd rfl (by first | exact Or.inl rfl | exact Or.inr rfl) (pe_op op_mulU (pe_tup (pa_cons (pe_glob (v := V.ref T.a_ZERO) rfl T.g_ZERO rfl) pa_nil)) (pe_call (ok_width_of T hseer) (hr.mono (by decide)) rfl T.g_width_of T.k_width_of T.b_width_of .nil pass0 (pa_cons (pv 1) pa_nil))))
  (pss_cons (ps_for PassesOwn.never rfl (pi_zipU (by rfl) T.n_zip (pa_cons (pv 0) (pa_cons (pv 1) pa_nil))) (pg_tup rfl (pgs_cons (pg_name (i := 3) (sc_row_times).nd rfl (by first | exact Or.inl rfl | exact Or.inr rfl)) (pgs_cons (pg_name (i := 4) (sc_row_times).nd rfl (by first | exact Or.inl rfl | exact Or.inr rfl)) pgs_nil)))
   (pss_one (ps_set (i := 2) (sc_row_times).nd rfl (by first | exact Or.inl rfl | exact Or.inr rfl) (pe_call (ok_plus_multiple T hseer) (hr.mono (by decide)) rfl T.g_plus_multiple T.k_plus_multiple T.b_plus_multiple .nil pass0 (pa_cons (pv 2) (pa_cons (pv 3) (pa_cons (pv 4) pa_nil)))))))
  (pss_one (ps_ret (pv 2))))))), ?_⟩
    walk_at "go"
    refine u_iteN (fun h => ?_) (fun h => ?_)
    · walk_at "st"
      refine ⟨rfl, fun d hd => ?_⟩
      rw [la, lb]
      exact kE (by omega) d hd
    · obtain ⟨wl, hrl, z1, z2, nn, k⟩ := kQ (by omega)
      have s0 := z1.pos
      have t0 := z2.pos
      walk_at "st"
      (refine ⟨by first | exact le_l1 _ | exact le_l2 _ _ | exact le_l3 _ _ _ | exact le_l5 _ _ _ _ _ | exact le_l0, fun t1 newQ => ?_⟩; obtain ⟨H1, eqQ, e1, q1⟩ := tup_new K newQ; rw [eqQ]; clear eqQ)
      walk_at "st"
      refine ⟨_, m, rfl, ⟨b, ys, rfl, e1.sq hb, fb.mono fun _ _ r => r.same e1⟩, ?_⟩
      walk_at "st"
      refine u_repZ q1 (zeroF T _) (by omega) (by omega) fun v3 H3 e3 r3 => ?_
      walk_at "st"
      refine zipB_go (e1.trans e3) ha hb (by omega) fun J G hG hw => ?_
      refine forKC hw (fun j σ H' => Same H H' ∧ ∃ v1 l1 l2, σ = [some (.ref a), some (.ref b), some v1, l1, l2] ∧ ∃ r, RowT K H' v1 r ∧ r.length = wid m ∧ ∀ i, cf r i = sumTo j fun j => cf p j * cf (m.getD j []) i)
        ⟨e1.trans e3, _, _, _, rfl, _, r3, by rw [List.length_replicate]; omega, fun i => by rw [cf_rep]; rfl⟩ (fun i σ H' hi q => hG _ q.1) ?_ ?_
      · rintro i y σ H4 H' hi ⟨e4, v1, l1, l2, rfl, r, hr1, hrl1, hr2⟩ ⟨tt, x1, x2, rfl, ht, rfl, h1, h2⟩
        have hi' : i < m.length := by omega
        obtain ⟨v, hv, z, rfl, hz⟩ := fa.at (i := i) (by omega)
        have hp : m[i]? = some m[i] := List.getElem?_eq_getElem hi'
        obtain ⟨v', hv', hz'⟩ := fb.at hp
        have h1 : xs[i]? = some x1 := h1
        have h2 : ys[i]? = some x2 := h2
        rw [hv] at h1
        rw [hv'] at h2
        cases h1
        cases h2
        obtain ⟨H5, hH5, e5, hT⟩ := tup_new K (xs := [V.ref z, x2]) ht
        rw [hH5]
        refine u_pair hT ?_
        walk_at "st"
        have e := e4.trans e5
        have bc : Bq s1 (cf p i) := (z1.bqL s0).cf s0 i
        have br : BqL s2 m[i] := by
          rw [← getD_at hp]
          exact (sz_row z2).bqL t0
        have bl : BqL (s1 + s2 + 10) r := fun q hq => by
          obtain ⟨x, hx⟩ := List.getElem?_of_mem hq
          rw [← cf_get hx, hr2]
          exact comb_bq z1 z2 (by omega)
        have lz : m[i].length = wid m := hrl _ (List.getElem_mem hi')
        refine ⟨_, _, _, _, _, _, s1 + s2 + 10, s1, s2, rfl, (hr1.same e5).row, ⟨z, rfl, e.t hz⟩, hz'.same e, bl, bc, br, by omega, s0, t0, nn, by omega, by omega, by omega, fun v6 H6 e6 r6 => ?_⟩
        walk_at "st"
        refine ⟨e.trans e6, _, _, _, rfl, _, r6, by rw [pm_len, hrl1], fun x => ?_⟩
        rw [cf_pm (by omega), hr2, ← getD_at hp]
        rfl
      · rintro σ H4 ⟨e4, v1, l1, l2, rfl, r, hr1, hrl1, hr2⟩
        walk_at "st"
        have e : r = combL p m (wid m) := cf_ext (by rw [combL_len, hrl1]) fun i hi => by
          rw [cf_combL (by omega), hr2]
          unfold comb
          rw [show xs.length = m.length by omega]
        subst e
        exact k _ _ e4 hr1
end
end K01

set_option maxHeartbeats 4000000
namespace K01
open PySem PySem.Spec PyProof.Rows L2 Ly


section
variable {w : World} {K : PySem.W.Frag} {mg : Str → Option Value} {base : Heap}
def mulM (ml mr : List (List Rat)) : List (List Rat) := ml.map fun p => combL p mr (wid mr)
def sp_matt (T : Tx K mg) : Sp := fun vs H Q E => ∃ (v u : V) (ml mr : List (List Rat)) (n s t : Nat), vs = [v, u] ∧ Grid K H v ml ∧ Grid K H u mr ∧ (∀ r ∈ ml, r.length = n) ∧ ml.length ≤ 1000 ∧ n ≤ 1000 ∧ mr.length ≤ 1000 ∧
  (0 < ml.length → n ≠ mr.length → ∀ d H', Same H H' → H' d = some (.xd [("want", .int mr.length), ("got", .int n)]) → E (.ref T.a_WrongWidth) (some d) H') ∧
  ((ml.length = 0 ∨ n = mr.length) → wid mr ≤ 1000 ∧ (∀ r ∈ mr, r.length = wid mr) ∧ (∀ r ∈ ml, Sz s r) ∧ Sz t mr.flatten ∧ s + t + 10 ≤ 60000000 ∧ ∀ v' H', Same H H' → GridT K H' v' (mulM ml mr) → Q v' H')
theorem okX_matrix_times (T : Tx K mg) (hseer : base.NoSeer) : FnOk PP w K mg base (L2.CX PP w) 40 T.a_matrix_times T.d_matrix_times ["left", "right"] (sp_matt T) := by
  refine T.F_matrix_times.okX sc_matrix_times (fun vs H Q E h => ?_) (fun cdv A outer s H vs Q E hr h => ?_)
  · obtain ⟨_, _, _, _, _, _, _, rfl, _⟩ := h; rfl
  · obtain ⟨_, u, ml, mr, n, s1, s2, rfl, ⟨a, xs, rfl, ha, fa⟩, hu, hln, lml, ln, lmr, kE, kQ⟩ := h
    have la := fa.len
    refine ⟨_, (pss_one (ps_ret (pe_callTy call_tupleU (by rfl) T.n_tuple (by decide +kernel) (pa_cons (pe_lcX rfl rfl (takes_of rfl rfl rfl rfl) (own := [("row", 2)]) rfl (sc_matrix_times).nd (pi_seqA (pv 0)) (blkOk_by (own := [("row", 2)]) (N := n_matrix_times) (sc := defScope s_matrix_times) (by decide +kernel)) (fun _ _ _ _ _ => (pg_name (i := 2) (sc_matrix_times).nd rfl (by first | exact Or.inl rfl | exact Or.inr rfl))) (fun _ _ _ _ _ => pts_nil) (fun _ _ _ _ _ => (pe_callS (okX_row_times T hseer) (hr.mono (by decide)) rfl T.g_row_times T.k_row_times T.b_row_times (fun σ => passB σ) (pa_cons (pv 2) (pa_cons (pv 1) pa_nil))))) pa_nil)))), ?_⟩
    walk_at "go"
    refine seqB_go (Same.refl H) ha fun J G hG hw => ?_
    refine lcK hw (fun D i acc H' => LocR true K H D H' ((mulM ml mr).take i) ∧ (0 < i → n = mr.length)) (fun D hD => ⟨LocR.new hD (Same.refl H), fun z => absurd z (by decide)⟩) (fun D i acc H4 hD hi L => hG _ L.1.1) (fun D i acc x H4 H5 hD hi L y => ?_) (fun D acc H4 hD L => ?_)
    · obtain ⟨L, hi0⟩ := L
      obtain ⟨rfl, y2⟩ := y
      have e := L.1
      have hi' : i < ml.length := by omega
      have hp : ml[i]? = some ml[i] := List.getElem?_eq_getElem hi'
      have hlen := hln _ (List.getElem_mem hi')
      obtain ⟨v, hv, hr⟩ := fa.at hp
      have y2 : xs[i]? = some x := y2
      rw [hv] at y2
      cases y2
      walk_at "st"
      refine ⟨rfl, ?_⟩
      walk_at "st"
      refine ⟨_, _, ml[i], mr, s1, s2, rfl, hr.same e, hu.same e, by omega, lmr, fun hne d hd => ?_, fun he => ?_⟩
      · refine kE (by omega) (by omega) d _ (e.trans (same_new hd)) ?_
        rw [hlen]
        exact upd_same
      · obtain ⟨w1, w2, w3, w4, w5, -⟩ := kQ (.inr (by omega))
        refine ⟨w1, w2, w3 _ (List.getElem_mem hi'), w4, w5, fun v' H6 e6 r6 => ?_⟩
        refine lcLocR (t := true) (L.ext e6) (by unfold mulM; rw [List.length_take, List.length_map]; omega) r6 (fun z => nomatch z) fun acc H7 L7 => ?_
        have : (mulM ml mr)[i]? = some (combL ml[i] mr (wid mr)) := by
          unfold mulM
          rw [List.getElem?_map, hp]
          rfl
        rw [← take_more this]
        exact ⟨L7, fun _ => by omega⟩
    · obtain ⟨L, hi0⟩ := L
      rw [List.take_of_length_le (by unfold mulM; rw [List.length_map]; omega)] at L
      have hc : ml.length = 0 ∨ n = mr.length := by
        rcases Nat.eq_zero_or_pos ml.length with z | z
        · exact .inl z
        · exact .inr (hi0 (by omega))
      obtain ⟨w1, w2, w3, w4, w5, k⟩ := kQ hc
      walk_at "st"
      exact u_tupleR L fun v H' e g => k v H' e g.gridT
/-- the rows of the unit matrix -/
def unitR (n a : Nat) : List Rat := List.replicate a 0 ++ [1] ++ List.replicate (n - a - 1) 0
def unitM (n : Nat) : List (List Rat) := (List.range n).map (unitR n)
def sp_ident (K : PySem.W.Frag) : Sp := fun vs H Q _ => ∃ (n : Nat), vs = [.int n] ∧ n ≤ 100 ∧ ∀ v' H', Same H H' → GridT K H' v' (unitM n) → Q v' H'
theorem ok_identity (T : Tx K mg) (hseer : base.NoSeer) : FnOk PP w K mg base CX0 36 T.a_identity T.d_identity ["size"] (sp_ident K) := by
  refine T.F_identity.ok sc_identity (fun vs H Q E h => ?_) (fun cdv A outer s H vs Q E hr h => ?_)
  · obtain ⟨_, rfl, _⟩ := h; rfl
  · obtain ⟨n, rfl, hn, k⟩ := h
    refine ⟨_, (pss_one (ps_ret (pe_callTy call_tupleU (by rfl) T.n_tuple (by decide +kernel) (pa_cons (pe_lc (own := [("at", 1)]) rfl (sc_identity).nd (pi_range1 rfl T.n_range (pa_cons (pv 0) pa_nil)) (blkOk_by (own := [("at", 1)]) (N := n_identity) (sc := defScope s_identity) (by decide +kernel)) (fun _ _ _ _ _ => (pg_name (i := 1) (sc_identity).nd rfl (by first | exact Or.inl rfl | exact Or.inr rfl))) (fun _ _ _ _ _ => pts_nil) (fun _ _ _ _ _ => (pe_op (r := rAddU K) op_addU (pe_op (r := rAddU K) op_addU (pe_op (r := rMulU K) op_mulU (pe_tup (pa_cons (pe_glob (v := V.ref T.a_ZERO) rfl T.g_ZERO rfl) pa_nil)) (pv 1)) (pe_tup (pa_cons (pe_glob (v := V.ref T.a_ONE) rfl T.g_ONE rfl) pa_nil))) (pe_op (r := rMulU K) op_mulU (pe_tup (pa_cons (pe_glob (v := V.ref T.a_ZERO) rfl T.g_ZERO rfl) pa_nil)) (pe_op op_sub (pe_op op_sub (pv 0) (pv 1)) pe_int))))) pa_nil)))), ?_⟩
    walk_at "go"
    refine u_rng1 (by omega) ?_
    refine lcK walk_range0 (fun D i acc H' => LocR true K H D H' ((unitM n).take i)) (fun D hD => LocR.new hD (Same.refl H)) (fun _ _ _ _ _ _ _ => trivial) (fun D i acc x H4 H5 hD hi L y => ?_) (fun D acc H4 hD L => ?_)
    · obtain ⟨rfl, rfl⟩ := y
      walk_at "st"
      refine ⟨rfl, ?_⟩
      walk_at "st"
      (refine ⟨by first | exact le_l1 _ | exact le_l2 _ _ | exact le_l3 _ _ _ | exact le_l5 _ _ _ _ _ | exact le_l0, fun t6 newQ => ?_⟩; obtain ⟨H6, eqQ, e6, q6⟩ := tup_new K newQ; rw [eqQ]; clear eqQ)
      walk_at "st"
      refine u_repZ q6 (zeroF T _) (by omega) (by omega) fun v7 H7 e7 r7 => ?_
      walk_at "st"
      (refine ⟨by first | exact le_l1 _ | exact le_l2 _ _ | exact le_l3 _ _ _ | exact le_l5 _ _ _ _ _ | exact le_l0, fun t8 newQ => ?_⟩; obtain ⟨H8, eqQ, e8, q8⟩ := tup_new K newQ; rw [eqQ]; clear eqQ)
      refine u_catRow (q := [1]) (r7.same e8) ⟨t8, _, rfl, q8, oneF T _, trivial⟩ (by rw [List.length_replicate]; omega) (by show 1 ≤ 1000; decide) fun v9 H9 e9 r9 => ?_
      walk_at "st"
      (refine ⟨by first | exact le_l1 _ | exact le_l2 _ _ | exact le_l3 _ _ _ | exact le_l5 _ _ _ _ _ | exact le_l0, fun t10 newQ => ?_⟩; obtain ⟨H10, eqQ, e10, q10⟩ := tup_new K newQ; rw [eqQ]; clear eqQ)
      walk_at "st"
      refine u_repZ q10 (zeroF T _) (by omega) (by omega) fun v11 H11 e11 r11 => ?_
      have e911 := e10.trans e11
      refine u_catRow (r9.same e911) r11 (by rw [List.length_append, List.length_replicate]; show _ + 1 ≤ 1000; omega) (by rw [List.length_replicate]; omega) fun v12 H12 e12 r12 => ?_
      refine lcLocR (t := true) (L.ext (((((e6.trans e7).trans e8).trans e9).trans e911).trans e12)) (by unfold unitM; rw [List.length_take, List.length_map, List.length_range]; omega) r12 (fun z => nomatch z) fun acc H7 L7 => ?_
      have : (unitM n)[i]? = some (List.replicate ((i : Int)).toNat 0 ++ [1] ++ List.replicate ((n : Int) - (i : Int) - 1).toNat 0) := by
        unfold unitM
        rw [List.getElem?_map, List.getElem?_range (by omega)]
        show some (unitR n i) = _
        unfold unitR
        rw [show ((i : Int)).toNat = i by omega, show ((n : Int) - (i : Int) - 1).toNat = n - i - 1 by omega]
      rw [← take_more this]
      exact L7
    · rw [List.take_of_length_le (by unfold unitM; rw [List.length_map, List.length_range]; omega)] at L
      walk_at "st"
      exact u_tupleR L fun v H' e g => k v H' e g.gridT
def sp_grid (K : PySem.W.Frag) : Sp := fun vs H Q _ => ∃ (v : V) (way : Int) (m : List (List Rat)), vs = [v, .int way] ∧ Grid K H v m ∧ m.length ≤ 1000 ∧
  ∀ v' H', Same H H' → GridK (decide (way ≠ 0 ∧ way ≠ 2)) (decide (way = 1 ∨ way = 2)) K H' v' m → Q v' H'
theorem ok__law_grid (T : Tx K mg) (hseer : base.NoSeer) : FnOk PP w K mg base CX0 36 T.a__law_grid T.d__law_grid ["rows", "way"] (sp_grid K) := by
  refine T.F__law_grid.ok sc__law_grid (fun vs H Q E h => ?_) (fun cdv A outer s H vs Q E hr h => ?_)
  · obtain ⟨_, _, _, rfl, _⟩ := h; rfl
  · obtain ⟨_, way, m, rfl, ⟨a, xs, rfl, ha, fa⟩, lm, k⟩ := h
    have la := fa.len
    have stepL : ∀ {t : Bool} {D i : Nat} {H4 : Hp} {v : V} {p : List Rat}, m[i]? = some p → LocR t K H D H4 (m.take i) → RowK t K H4 v p → (t = false → v ≠ .ref D) → LcN D (fun acc H' => LocR t K H D H' (m.take (i + 1))) v H4 := fun {t D i H4 v p} hp L r n =>
      lcLocR L (by rw [List.length_take]; omega) r n fun acc H7 L7 => by
        rw [← take_more hp]
        exact L7
    refine ⟨_, (pss_cons (ps_if (pt_cmpR (op_eqU hr.units) (pv 1) pe_int (nomark _))
   (pss_one (ps_ret (pe_lc (own := [("row", 2)]) rfl (sc__law_grid).nd (pi_seqA (pv 0)) (blkOk_by (own := [("row", 2)]) (N := n__law_grid) (sc := defScope s__law_grid) (by decide +kernel)) (fun _ _ _ _ _ => (pg_name (i := 2) (sc__law_grid).nd rfl (by first | exact Or.inl rfl | exact Or.inr rfl))) (fun _ _ _ _ _ => pts_nil) (fun _ _ _ _ _ => (pe_callTy (T := "list") (r := rListU K) call_listU (by rfl) T.n_list (by decide +kernel) (pa_cons (pv 2) pa_nil))))))
   pss_nil)
  (pss_cons (ps_if (pt_cmpR (op_eqU hr.units) (pv 1) pe_int (nomark _))
   (pss_one (ps_ret (pe_callTy call_tupleU (by rfl) T.n_tuple (by decide +kernel) (pa_cons (pe_lc (own := [("row", 2)]) rfl (sc__law_grid).nd (pi_seqA (pv 0)) (blkOk_by (own := [("row", 2)]) (N := n__law_grid) (sc := defScope s__law_grid) (by decide +kernel)) (fun _ _ _ _ _ => (pg_name (i := 2) (sc__law_grid).nd rfl (by first | exact Or.inl rfl | exact Or.inr rfl))) (fun _ _ _ _ _ => pts_nil) (fun _ _ _ _ _ => (pe_callTy (T := "tuple") (r := rTupleU K) call_tupleU (by rfl) T.n_tuple (by decide +kernel) (pa_cons (pv 2) pa_nil)))) pa_nil))))
   pss_nil)
  (pss_cons (ps_if (pt_cmpR (op_eqU hr.units) (pv 1) pe_int (nomark _))
   (pss_one (ps_ret (pe_lc (own := [("row", 2)]) rfl (sc__law_grid).nd (pi_seqA (pv 0)) (blkOk_by (own := [("row", 2)]) (N := n__law_grid) (sc := defScope s__law_grid) (by decide +kernel)) (fun _ _ _ _ _ => (pg_name (i := 2) (sc__law_grid).nd rfl (by first | exact Or.inl rfl | exact Or.inr rfl))) (fun _ _ _ _ _ => pts_nil) (fun _ _ _ _ _ => (pe_callTy (T := "tuple") (r := rTupleU K) call_tupleU (by rfl) T.n_tuple (by decide +kernel) (pa_cons (pv 2) pa_nil))))))
   pss_nil)
  (pss_one (ps_ret (pe_callTy call_tupleU (by rfl) T.n_tuple (by decide +kernel) (pa_cons (pe_lc (own := [("row", 2)]) rfl (sc__law_grid).nd (pi_seqA (pv 0)) (blkOk_by (own := [("row", 2)]) (N := n__law_grid) (sc := defScope s__law_grid) (by decide +kernel)) (fun _ _ _ _ _ => (pg_name (i := 2) (sc__law_grid).nd rfl (by first | exact Or.inl rfl | exact Or.inr rfl))) (fun _ _ _ _ _ => pts_nil) (fun _ _ _ _ _ => (pe_callTy (T := "list") (r := rListU K) call_listU (by rfl) T.n_list (by decide +kernel) (pa_cons (pv 2) pa_nil)))) pa_nil))))))), ?_⟩
    walk_at "go"
    refine u_ite (fun h => ?_) (fun h => ?_)
    · subst h
      walk_at "st"
      refine seqB_go (Same.refl H) ha fun J G hG hw => ?_
      refine lcK hw (fun D i acc H' => LocR false K H D H' (m.take i)) (fun D hD => LocR.new hD (Same.refl H)) (fun D i acc H4 hD hi L => hG _ L.1) (fun D i acc x H4 H5 hD hi L y => ?_) (fun D acc H4 hD L => ?_)
      · obtain ⟨rfl, y2⟩ := y
        have e := L.1
        have hp : m[i]? = some m[i] := List.getElem?_eq_getElem (by omega)
        obtain ⟨v, hv, hr⟩ := fa.at hp
        have y2 : xs[i]? = some x := y2
        rw [hv] at y2
        cases y2
        walk_at "st"
        refine ⟨rfl, ?_⟩
        walk_at "st"
        refine u_listRow (hr.same e) (Same.refl _) fun D6 H6 L6 e6 => stepL hp (L.ext e6) L6.row fun _ => L6.neR ?_
        obtain ⟨_, _, ws, z, _⟩ := L
        rw [z]; exact fun q => nomatch q
      · rw [List.take_of_length_le (by omega)] at L
        exact k _ _ L.1 L.grid
    walk_at "st"
    refine u_ite (fun h => ?_) (fun h1 => ?_)
    · subst h
      walk_at "st"
      refine seqB_go (Same.refl H) ha fun J G hG hw => ?_
      refine lcK hw (fun D i acc H' => LocR true K H D H' (m.take i)) (fun D hD => LocR.new hD (Same.refl H)) (fun D i acc H4 hD hi L => hG _ L.1) (fun D i acc x H4 H5 hD hi L y => ?_) (fun D acc H4 hD L => ?_)
      · obtain ⟨rfl, y2⟩ := y
        have e := L.1
        have hp : m[i]? = some m[i] := List.getElem?_eq_getElem (by omega)
        obtain ⟨v, hv, hr⟩ := fa.at hp
        have y2 : xs[i]? = some x := y2
        rw [hv] at y2
        cases y2
        walk_at "st"
        refine ⟨rfl, ?_⟩
        walk_at "st"
        exact u_tupleRow (hr.same e) fun v6 H6 e6 r6 => stepL hp (L.ext e6) r6 fun z => nomatch z
      · rw [List.take_of_length_le (by omega)] at L
        walk_at "st"
        exact u_tupleR L fun v H' e g => k v H' e g
    walk_at "st"
    refine u_ite (fun h => ?_) (fun h2 => ?_)
    · subst h
      walk_at "st"
      refine seqB_go (Same.refl H) ha fun J G hG hw => ?_
      refine lcK hw (fun D i acc H' => LocR true K H D H' (m.take i)) (fun D hD => LocR.new hD (Same.refl H)) (fun D i acc H4 hD hi L => hG _ L.1) (fun D i acc x H4 H5 hD hi L y => ?_) (fun D acc H4 hD L => ?_)
      · obtain ⟨rfl, y2⟩ := y
        have e := L.1
        have hp : m[i]? = some m[i] := List.getElem?_eq_getElem (by omega)
        obtain ⟨v, hv, hr⟩ := fa.at hp
        have y2 : xs[i]? = some x := y2
        rw [hv] at y2
        cases y2
        walk_at "st"
        refine ⟨rfl, ?_⟩
        walk_at "st"
        exact u_tupleRow (hr.same e) fun v6 H6 e6 r6 => stepL hp (L.ext e6) r6 fun z => nomatch z
      · rw [List.take_of_length_le (by omega)] at L
        exact k _ _ L.1 L.grid
    · walk_at "st"
      refine seqB_go (Same.refl H) ha fun J G hG hw => ?_
      refine lcK hw (fun D i acc H' => LocR false K H D H' (m.take i)) (fun D hD => LocR.new hD (Same.refl H)) (fun D i acc H4 hD hi L => hG _ L.1) (fun D i acc x H4 H5 hD hi L y => ?_) (fun D acc H4 hD L => ?_)
      · obtain ⟨rfl, y2⟩ := y
        have e := L.1
        have hp : m[i]? = some m[i] := List.getElem?_eq_getElem (by omega)
        obtain ⟨v, hv, hr⟩ := fa.at hp
        have y2 : xs[i]? = some x := y2
        rw [hv] at y2
        cases y2
        walk_at "st"
        refine ⟨rfl, ?_⟩
        walk_at "st"
        refine u_listRow (hr.same e) (Same.refl _) fun D6 H6 L6 e6 => stepL hp (L.ext e6) L6.row fun _ => L6.neR ?_
        obtain ⟨_, _, ws, z, _⟩ := L
        rw [z]; exact fun q => nomatch q
      · rw [List.take_of_length_le (by omega)] at L
        walk_at "st"
        rw [decide_eq_true (show way ≠ 0 ∧ way ≠ 2 from ⟨h, h2⟩), decide_eq_false (show ¬ (way = 1 ∨ way = 2) from fun z => z.elim h1 h2)] at k
        exact u_tupleR L fun v H' e g => k v H' e g
end
end K01

set_option maxHeartbeats 4000000
namespace K01
open PySem PySem.Spec PyProof.Rows L2 Ly


section
variable {w : World} {K : PySem.W.Frag} {mg : Str → Option Value} {base : Heap}
/-- a new list of drawn entries -/
structure EntL (K : PySem.W.Frag) (H : Hp) (b : Addr) (n : Nat) (large : Bool) (wide : Nat) (D : Addr) (H' : Hp) (qs : List Rat) : Prop where
  new : H D = none
  row : RowL K H' (.ref D) qs
  len : qs.length = wide
  en : ∀ q ∈ qs, En large q
  bag : BagAt H' b (n + wide)
  sm : SameX b H H'
theorem RowL.mutX {H H' : Hp} {D : Addr} {v : V} {q : List Rat} (h : RowL K H v q) (n : v ≠ .ref D) (e : SameX D H H') (im : Imm H H') : RowL K H' v q := by
  obtain ⟨a, xs, rfl, h1, h2⟩ := h
  exact ⟨a, xs, rfl, e _ _ (fun z => n (by rw [z])) h1, h2.imm im⟩
theorem lc_entries {σ : L2.St} {vs : List Nat} {g : TG} {te : TE} {Q : VK} {H : Hp} {b : Addr} {n wide : Nat} {large : Bool} (hb : BagAt H b n) (hn : n + wide ≤ 100000)
    (hs : ∀ (i : Nat) H' (Q' : VK), sp_entry K [.ref b, .bl large] H' Q' E0 → g (.int i) (wipe σ vs) H' fun σ2 H2 => wipe σ2 vs = wipe σ vs ∧ te σ2 H2 Q')
    (k : ∀ D qs H', EntL K H b n large wide D H' qs → Q (.ref D) H') : LcK g tYes te vs σ Q (Itr 0 wide) H := by
  refine lcK walk_range0 (fun D i acc H' => H' D = some (.lst acc) ∧ ∃ qs, Fs K H' acc qs ∧ qs.length = i ∧ (∀ q ∈ qs, En large q) ∧ BagAt H' b (n + i) ∧ SameX b H H') (fun D hD => ⟨upd_same, [], trivial, rfl, fun q hq => (nomatch hq), hb.same (same_new hD), (same_new hD).x⟩) (fun _ _ _ _ _ _ _ => trivial) (fun D i acc x H4 H5 hD hi L y => ?_) (fun D acc H4 hD L => ?_)
  · obtain ⟨rfl, rfl⟩ := y
    obtain ⟨h1, qs, h2, h3, h4, h5, h6⟩ := L
    refine hs i _ _ ⟨b, large, n + i, rfl, h5, by omega, fun v q H6 f6 en6 b6 e6 => ?_⟩
    have la := h2.len
    have h1' := e6 _ _ (h5.ne h1 fun r s c => fs_ne h2 r s c) h1
    have nb : b ≠ D := fun z => by
      obtain ⟨r, s, c, z1, _⟩ := hb
      rw [z, hD] at z1
      cases z1
    have im : Imm H6 (upd H6 D (.lst (acc ++ [v]))) := Imm.upd h1'
    refine lcN h1' (Nat.lt_of_le_of_lt (m := 100000) (by omega) (by decide)) ⟨upd_same, qs ++ [q], ((h2.imm (h5.imm e6)).snoc f6).imm im, by rw [List.length_append, h3]; rfl, fun r hr => ?_, ?_, fun a o na ho => ?_⟩
    · rcases List.mem_append.mp hr with z | z
      · exact h4 r z
      · rw [List.mem_singleton.mp z]; exact en6
    · obtain ⟨r, s, c, z1, z2⟩ := b6
      exact ⟨r, s, c, by rw [upd_ne nb]; exact z1, z2⟩
    · rw [upd_ne (ne_of_none ho hD)]
      exact e6 _ _ na (h6 _ _ na ho)
  · obtain ⟨h1, qs, h2, h3, h4, h5, h6⟩ := L
    exact k D qs H4 ⟨hD, ⟨D, acc, rfl, h1, h2⟩, h3, h4, h5, h6⟩
/-- a matrix of drawn entries -/
def sp_mat (K : PySem.W.Frag) : Sp := fun vs H Q _ => ∃ (b : Addr) (n tall wide : Nat) (large : Bool), vs = [.ref b, .int tall, .int wide, .bl large] ∧ BagAt H b n ∧ tall ≤ 100 ∧ wide ≤ 100 ∧ n + tall * wide ≤ 100000 ∧
  ∀ v m H', GridK false false K H' v m → m.length = tall → (∀ r ∈ m, r.length = wide ∧ ∀ q ∈ r, En large q) → BagAt H' b (n + tall * wide) → SameX b H H' → Q v H'
theorem ok__law_matrix (T : Tx K mg) (hseer : base.NoSeer) : FnOk PP w K mg base CX0 39 T.a__law_matrix T.d__law_matrix ["bag", "tall", "wide", "large"] (sp_mat K) := by
  refine T.F__law_matrix.ok sc__law_matrix (fun vs H Q E h => ?_) (fun cdv A outer s H vs Q E hr h => ?_)
  · obtain ⟨_, _, _, _, _, rfl, _⟩ := h; rfl
  · obtain ⟨b, n, tall, wide, large, rfl, hb, lt, lw, ln, k⟩ := h
    refine ⟨_, (pss_cons (ps_set (i := 4) (sc__law_matrix).nd rfl (by first | exact Or.inl rfl | exact Or.inr rfl) (pe_lst pa_nil))
  (pss_cons (ps_for PassesOwn.never rfl (pi_range1 rfl T.n_range (pa_cons (pv 1) pa_nil)) (pg_name (i := 5) (sc__law_matrix).nd rfl (by first | exact Or.inl rfl | exact Or.inr rfl))
   (pss_one (ps_expr (pe_bm PySem.F.plainAttrs_list PySem.F.slot_list_append PySem.F.type_list_append mt_append (pv 4) (pa_cons (pe_lc (own := [("k", 6)]) rfl (sc__law_matrix).nd (pi_range1 rfl T.n_range (pa_cons (pv 2) pa_nil)) (blkOk_by (own := [("k", 6)]) (N := n__law_matrix) (sc := defScope s__law_matrix) (by decide +kernel)) (fun _ _ _ _ _ => (pg_name (i := 6) (sc__law_matrix).nd rfl (by first | exact Or.inl rfl | exact Or.inr rfl))) (fun _ _ _ _ _ => pts_nil) (fun _ _ _ _ _ => (pe_call (ok__law_entry T hseer) (hr.mono (by decide)) rfl T.g__law_entry T.k__law_entry T.b__law_entry .nil pass0 (pa_cons (pv 0) (pa_cons (pv 3) pa_nil))))) pa_nil)))))
  (pss_one (ps_ret (pv 4))))), ?_⟩
    walk_at "go"
    (refine ⟨by first | exact le_l1 _ | exact le_l2 _ _ | exact le_l3 _ _ _ | exact le_l5 _ _ _ _ _ | exact le_l0, fun R n1 => ?_⟩; obtain ⟨H1, eqQ, e1, h1⟩ := lst_new K n1; rw [eqQ]; clear eqQ)
    walk_at "st"
    have nb : R ≠ b := fun z => by
      obtain ⟨r, s, c, z1, _⟩ := hb
      rw [← z, n1] at z1
      cases z1
    refine u_rng1 (by omega) ?_
    refine forKC walk_range0 (fun j σ H' => (∃ xs m, H' R = some (.lst xs) ∧ Al (fun v q => RowL K H' v q ∧ v ≠ .ref R) xs m ∧ m.length = j ∧ (∀ r ∈ m, r.length = wide ∧ ∀ q ∈ r, En large q) ∧ BagAt H' b (n + j * wide) ∧ SameX b H H') ∧ ∃ l1 l2 : Option V, σ = [some (.ref b), some (.int tall), some (.int wide), some (.bl large), some (.ref R), l1, l2])
      ⟨⟨[], [], h1, trivial, rfl, fun r hr => (nomatch hr), by rw [Nat.zero_mul]; exact hb.same e1, e1.x⟩, _, _, rfl⟩ (fun _ _ _ _ _ => trivial) ?_ ?_
    · rintro j x σ H4 H' hj ⟨⟨xs, m, a1, a2, a3, a4, a5, a6⟩, l1, l2, rfl⟩ ⟨rfl, rfl⟩
      have hj2 : n + j * wide + wide ≤ n + tall * wide := by
        have : (j + 1) * wide ≤ tall * wide := Nat.mul_le_mul_right _ (by omega)
        rw [Nat.succ_mul] at this
        omega
      walk_at "st"
      refine ⟨.inl ⟨rfl, _, SqL.of a1⟩, ?_⟩
      walk_at "st"
      refine u_rng1 (by omega) ?_
      refine lc_entries (K := K) (n := n + j * wide) (wide := wide) (large := large) a5 (by omega) (fun i H6 Q' q => ?_) (fun D qs H6 L => ?_)
      · walk_at "st"
        refine ⟨rfl, ?_⟩
        walk_at "st"
        exact q
      · walk_at "st"
        have la := a2.len
        have a2' : Al (fun v q => RowL K H6 v q ∧ v ≠ .ref R) xs m := a2.mono fun _ _ r => ⟨r.1.bag a5 L.sm, r.2⟩
        have a1' := L.sm _ _ nb a1
        have nD : (V.ref D) ≠ .ref R := fun z => by
          injection z with z
          have := L.new
          rw [z, a1] at this
          cases this
        refine ⟨R, xs, .ref D, rfl, rfl, a1', Nat.lt_of_le_of_lt (m := 100000) (by omega) (by decide), ?_⟩
        have x7 : SameX R H6 (upd H6 R (.lst (xs ++ [.ref D]))) := samex_upd
        have h7 : upd H6 R (.lst (xs ++ [.ref D])) R = some (.lst (xs ++ [.ref D])) := upd_same
        have i7 : Imm H6 (upd H6 R (.lst (xs ++ [.ref D]))) := Imm.upd a1'
        generalize upd H6 R (.lst (xs ++ [.ref D])) = H7 at *
        walk_at "st"
        refine ⟨⟨_, _, h7, Al.snoc (a2'.mono fun _ _ r => ⟨RowL.mutX r.1 r.2 x7 i7, r.2⟩) ⟨RowL.mutX L.row nD x7 i7, nD⟩, by rw [List.length_append, a3]; rfl, fun r hr => ?_, ?_, fun a o na ho => ?_⟩, _, _, rfl⟩
        · rcases List.mem_append.mp hr with z | z
          · exact a4 r z
          · rw [List.mem_singleton.mp z]; exact ⟨L.len, L.en⟩
        · obtain ⟨r, s, c, z1, z2, z3⟩ := L.bag
          exact ⟨r, s, c, x7 _ _ (Ne.symm nb) z1, z2, by rw [Nat.succ_mul]; omega⟩
        · have nR : a ≠ R := ne_of_none ho n1
          exact x7 _ _ nR (L.sm _ _ na (a6 _ _ na ho))
    · rintro σ H4 ⟨⟨xs, m, a1, a2, a3, a4, a5, a6⟩, l1, l2, rfl⟩
      walk_at "st"
      refine k _ m H4 ⟨R, xs, rfl, a1, a2.mono fun _ _ r => r.1⟩ a3 a4 a5 a6
def sp_lrowt (K : PySem.W.Frag) : Sp := fun vs H Q _ => ∃ (v u : V) (p : List Rat) (m : List (List Rat)) (s t : Nat), vs = [v, u] ∧ Row K H v p ∧ Grid K H u m ∧ p.length = m.length ∧ m.length ≤ 1000 ∧ wid m ≤ 1000 ∧ (∀ r ∈ m, r.length = wid m) ∧ Sz s p ∧ (∀ j, Sz t (m.map fun r => cf r j)) ∧ s + t + 10 ≤ 60000000 ∧
  ∀ D H', Ly.Loc K H D H' (combL p m (wid m)) → Q (.ref D) H'
theorem comb_col {p : List Rat} {m : List (List Rat)} {j : Nat} (h : p.length = m.length) : (sumTo p.length fun i => cf p i * cf (m.map fun r => cf r j) i) = comb p m j := by
  unfold comb
  rw [h]
  exact sumTo_congr fun i hi => by
    congr 1
    refine cf_get ?_
    rw [List.getElem?_map, List.getElem?_eq_getElem hi, getD_at (List.getElem?_eq_getElem hi)]
    rfl
theorem ok__law_row_times (T : Tx K mg) (hseer : base.NoSeer) : FnOk PP w K mg base CX0 40 T.a__law_row_times T.d__law_row_times ["row", "matrix"] (sp_lrowt K) := by
  refine T.F__law_row_times.ok sc__law_row_times (fun vs H Q E h => ?_) (fun cdv A outer s H vs Q E hr h => ?_)
  · obtain ⟨_, _, _, _, _, _, rfl, _⟩ := h; rfl
  · obtain ⟨v, _, p, m, s1, s2, rfl, hv, ⟨a, xs, rfl, ha, fa⟩, hl, lm, lw, hrl, z1, z2, nn, k⟩ := h
    have la := fa.len
    have hU : Grid K H (.ref a) m := ⟨a, xs, rfl, ha, fa⟩
    refine ⟨_, (pss_cons (ps_set (i := 2) (sc__law_row_times).nd rfl (by first | exact Or.inl rfl | exact Or.inr rfl) pe_int)
  (Evl.pss_cut (ps_if (pt_cmpR op_gt (pe_callB call_lenU (by rfl) T.n_len (by decide +kernel) (pa_cons (pv 1) pa_nil)) pe_int (nomark _))
   (pss_one (ps_set (i := 2) (sc__law_row_times).nd rfl (by first | exact Or.inl rfl | exact Or.inr rfl) (pe_callB call_lenU (by rfl) T.n_len (by decide +kernel) (pa_cons (pe_ix ix_seq (pv 1) pe_int (fun _ _ => rfl)) pa_nil))))
   pss_nil)
  (pss_one (ps_ret (pe_lc (own := [("k", 3)]) rfl (sc__law_row_times).nd (pi_range1 rfl T.n_range (pa_cons (pv 2) pa_nil)) (blkOk_by (own := [("k", 3)]) (N := n__law_row_times) (sc := defScope s__law_row_times) (by decide +kernel)) (fun _ _ _ _ _ => (pg_name (i := 3) (sc__law_row_times).nd rfl (by first | exact Or.inl rfl | exact Or.inr rfl))) (fun _ _ _ _ _ => pts_nil) (fun _ _ _ _ _ => (pe_call (ok__law_dot T hseer) (hr.mono (by decide)) rfl T.g__law_dot T.k__law_dot T.b__law_dot .nil pass0 (pa_cons (pv 0) (pa_cons (pe_call (ok__law_column T hseer) (hr.mono (by decide)) rfl T.g__law_column T.k__law_column T.b__law_column .nil pass0 (pa_cons (pv 1) (pa_cons (pv 3) pa_nil))) pa_nil))))))))), ?_⟩
    walk_at "go"
    refine u_cutC (fun σ' H' => H' = H ∧ σ' = [some v, some (.ref a), some (.int (wid m)), none]) ?_ ?_
    · walk_at "st"
      refine u_ite (fun h => ?_) (fun h => ?_)
      · match m, xs, fa with
        | p' :: m', x :: xs', fa =>
          obtain ⟨b, ys, rfl, hb, fb⟩ := fa.1
          walk_at "st"
          refine u_ix (k := ((0 : Nat) : Int)) ha (atI_nat (xs := V.ref b :: xs') (j := 0) rfl) ?_
          walk_at "st"
          rw [fb.len]
          exact ⟨rfl, rfl⟩
        | [], [], _ => exact absurd h (by simp)
      · walk_at "st"
        match m, xs, fa with
        | p' :: m', x :: xs', fa => exact absurd (show ((x :: xs').length : Int) > 0 by simp) h
        | [], [], _ => exact ⟨rfl, rfl⟩
    rintro σ' H' ⟨rfl, rfl⟩
    walk_at "st"
    refine u_rng1 (by omega) ?_
    refine lcK walk_range0 (fun D i acc H4 => Ly.Loc K H' D H4 ((combL p m (wid m)).take i)) (fun D hD => Loc.new hD (Same.refl H') trivial) (fun _ _ _ _ _ _ _ => trivial) (fun D i acc x H4 H5 hD hi L y => ?_) (fun D acc H4 hD L => ?_)
    · obtain ⟨rfl, rfl⟩ := y
      have e := L.1
      walk_at "st"
      refine ⟨rfl, ?_⟩
      walk_at "st"
      refine ⟨_, i, m, rfl, hU.same e, lm, fun r hr => by rw [hrl r hr]; omega, fun y6 H6 e6 _ r6 => ?_⟩
      walk_at "st"
      refine ⟨_, _, p, _, s1, s2, rfl, (hv.same (e.trans e6)), r6.row, by omega, by rw [List.length_map]; exact hl, z1, z2 i, nn, fun v7 H7 e7 f7 => ?_⟩
      rw [comb_col hl] at f7
      refine lcLoc ((L.ext e6).ext e7) (by rw [List.length_take, combL_len]; omega) f7 fun acc H8 L8 _ => ?_
      have : (combL p m (wid m))[i]? = some (comb p m i) := by
        rw [cf_in (by rw [combL_len]; omega), cf_combL (by omega)]
      rw [← take_more this]
      exact L8
    · rw [List.take_of_length_le (by rw [combL_len]; omega)] at L
      exact k _ _ L
end
end K01

set_option maxHeartbeats 4000000
namespace K01
open PySem PySem.Spec PyProof.Rows L2 Ly


section
variable {w : World} {K : PySem.W.Frag} {mg : Str → Option Value} {base : Heap}
/-- what a question is told -/
def sp_asked (T : Tx K mg) : Sp := fun vs H Q _ => ∃ (a : Addr) (v : V) (door : Int) (n : Nat) (rows : List (List Rat)) (ls : List Ln) (p : List Rat), vs = [.ref a, v, .int door] ∧ BsOk T H a n rows ls ∧ Row K H v p ∧ p.length ≤ 1000 ∧
  (p.length ≠ n → ∀ t H', Same H H' → SqT K H' t [.str "width", .int n, .int p.length, .bl true, .bl false] → Q (.ref t) H') ∧
  (p.length = n → Sz (W0 - 1) p ∧
    (door = 0 → ((∀ i, cf (rest ls p rows.length) i = 0) → ∀ t H', Same H H' → SqT K H' t [.str "told", .bl false] → Q (.ref t) H') ∧
      (∀ i, i < n → cf (rest ls p rows.length) i ≠ 0 → (∀ j, j < i → cf (rest ls p rows.length) j = 0) → ∀ t H', SameX a H H' → BsOk T H' a n (rows ++ [p]) (ls ++ [newLn ls p rows.length i]) → SqT K H' t [.str "told", .bl true] → Q (.ref t) H')) ∧
    (door = 1 → ((∀ i, cf (rest ls p rows.length) i = 0) → ∀ y t H', Same H H' → RowT K H' (.ref y) (prts ls p rows.length) → SqT K H' t [.str "told", .ref y] → Q (.ref t) H') ∧
      ((∃ i, cf (rest ls p rows.length) i ≠ 0) → ∀ t H', Same H H' → SqT K H' t [.str "told", .non] → Q (.ref t) H')) ∧
    (door ≠ 0 → door ≠ 1 → ((∀ i, cf (rest ls p rows.length) i = 0) → ∀ t H', Same H H' → SqT K H' t [.str "told", .bl true] → Q (.ref t) H') ∧
      ((∃ i, cf (rest ls p rows.length) i ≠ 0) → ∀ t H', Same H H' → SqT K H' t [.str "told", .bl false] → Q (.ref t) H')))
theorem ok__law_asked (T : Tx K mg) (hseer : base.NoSeer) : FnOk PP w K mg base CX0 42 T.a__law_asked T.d__law_asked ["basis", "row", "door"] (sp_asked T) := by
  refine T.F__law_asked.ok sc__law_asked (fun vs H Q E h => ?_) (fun cdv A outer s H vs Q E hr h => ?_)
  · obtain ⟨_, _, _, _, _, _, _, rfl, _⟩ := h; rfl
  · obtain ⟨a, v, door, n, rows, ls, p, rfl, hB, hv, lp, kE, kQ⟩ := h
    have hB' := hB
    obtain ⟨r, l, xr, xl, ⟨dx, ha⟩, -⟩ := hB'
    refine ⟨_, (pss_cons (ps_try_asM (i := 4) rfl rfl (sc__law_asked).nd rfl rfl ⟨rfl, by decide, Or.inl T.g_WrongWidth⟩ (fun W pn xe tk _ => (pss_one (ps_if (pt_cmpR (r := rEqU K) (op_eqU hr.units) (pv 2) pe_int (nomark _))
   (pss_one (ps_set (i := 3) (sc__law_asked).nd rfl (by first | exact Or.inl rfl | exact Or.inr rfl) (pe_methW (pv 0) T.cl_Basis T.m_Basis_add (okX_Basis_add T hseer) (hr.mono (by decide)) T.b_Basis_add (fun σ => passAt tk σ) (pa_cons (pv 1) pa_nil))))
   (pss_one (ps_if (pt_cmpR (r := rEqU K) (op_eqU hr.units) (pv 2) pe_int (nomark _))
   (pss_one (ps_set (i := 3) (sc__law_asked).nd rfl (by first | exact Or.inl rfl | exact Or.inr rfl) (pe_methW (pv 0) T.cl_Basis T.m_Basis_coordinates (okX_Basis_coordinates T hseer) (hr.mono (by decide)) T.b_Basis_coordinates (fun σ => passAt tk σ) (pa_cons (pv 1) pa_nil))))
   (pss_one (ps_set (i := 3) (sc__law_asked).nd rfl (by first | exact Or.inl rfl | exact Or.inr rfl) (pe_inO T.cl_Basis T.m_Basis___contains__ (okX_Basis___contains__ T hseer) (hr.mono (by decide)) T.b_Basis___contains__ (fun σ => passAt tk σ) (pv 1) (pv 0)))))))))
   (fun a oe cls d pn hz hf => (pss_clsD (C := T.a_WrongWidth) hz fun hz => (pss_cons (ps_set (i := 5) (sc__law_asked).nd rfl (by first | exact Or.inl rfl | exact Or.inr rfl) (pe_or (pe_callB (call_isED T.xc_WrongWidth hz hf) (by rfl) T.n_isinstance (by decide +kernel) (pa_cons (pv 4) (pa_cons (pe_glob (v := V.ref T.a_LimitError) rfl T.g_LimitError rfl) pa_nil))) (pe_one (pe_callB (call_isED T.xc_WrongWidth hz hf) (by rfl) T.n_isinstance (by decide +kernel) (pa_cons (pv 4) (pa_cons (pe_glob (v := V.ref T.a_Singular) rfl T.g_Singular rfl) pa_nil))))))
  (pss_cons (ps_set (i := 6) (sc__law_asked).nd rfl (by first | exact Or.inl rfl | exact Or.inr rfl) (pe_and (pe_callB (call_isED T.xc_WrongWidth hz hf) (by rfl) T.n_isinstance (by decide +kernel) (pa_cons (pv 4) (pa_cons (pe_glob (v := V.ref T.a_SteelyardError) rfl T.g_SteelyardError rfl) pa_nil))) (pe_one (pe_callB (call_isED T.xc_WrongWidth hz hf) (by rfl) T.n_isinstance (by decide +kernel) (pa_cons (pv 4) (pa_cons (pe_bltn (v := V.ty "ValueError") (by rfl) T.n_ValueError (by decide +kernel) rfl) pa_nil))))))
  (pss_one (ps_ret (pe_tup (pa_cons pe_str (pa_cons (pe_fldX T.xt_WrongWidth (by decide) hz hf (pv 4)) (pa_cons (pe_fldX T.xt_WrongWidth (by decide) hz hf (pv 4)) (pa_cons (pv 6) (pa_cons (pv 5) pa_nil)))))))))))))
  (pss_one (ps_ret (pe_tup (pa_cons pe_str (pa_cons (pv 3) pa_nil)))))), ?_⟩
    walk_at "go"
    refine u_ite (fun h => ?_) (fun h => ?_)
    · subst h
      walk_at "st"
      refine ⟨a, dx, _, rfl, ha, rfl, ?_⟩
      walk_at "st"
      refine ⟨a, v, n, rows, ls, p, rfl, hB, hv, lp, fun hne d hd => ?_, fun hp => ⟨(kQ hp).1, fun h0 H1 e1 => ?_, fun i hi h0 h1 H1 x1 b1 => ?_⟩⟩
      · obtain ⟨H1, hH1, e1, hx⟩ := xd_new (xs := [("want", V.int n), ("got", V.int p.length)]) hd
        rw [hH1]
        refine ⟨T.em_WrongWidth, fun ea hea => ⟨rfl, ?_⟩⟩
        walk_at "st"
        refine ⟨_, _, false, _, _, rfl, fun u r => r, T.q_WrongWidth_LimitError, rfl, hx, ?_⟩
        walk_at "st"
        refine ⟨_, _, false, _, _, rfl, fun u r => r, T.q_WrongWidth_Singular, rfl, hx, ?_⟩
        walk_at "st"
        refine ⟨_, _, true, _, _, rfl, fun u r => r, T.q_WrongWidth_SteelyardError, rfl, hx, ?_⟩
        walk_at "st"
        refine ⟨_, _, true, _, _, rfl, fun u r => r, T.q_WrongWidth_ValueError, rfl, hx, ?_⟩
        walk_at "st"
        refine ⟨rfl, rfl, _, _, _, rfl, hx, rfl, ?_⟩
        walk_at "st"
        refine ⟨rfl, rfl, _, _, _, rfl, hx, rfl, ?_⟩
        walk_at "st"
        (refine ⟨by first | exact le_l1 _ | exact le_l2 _ _ | exact le_l3 _ _ _ | exact le_l5 _ _ _ _ _ | exact le_l0, fun t2 newQ => ?_⟩; obtain ⟨H2, eqQ, e2, q2⟩ := tup_new K newQ; rw [eqQ]; clear eqQ)
        exact kE hne _ _ (e1.trans e2) q2
      · walk_at "st"
        (refine ⟨by first | exact le_l1 _ | exact le_l2 _ _ | exact le_l3 _ _ _ | exact le_l5 _ _ _ _ _ | exact le_l0, fun t2 newQ => ?_⟩; obtain ⟨H2, eqQ, e2, q2⟩ := tup_new K newQ; rw [eqQ]; clear eqQ)
        exact ((kQ hp).2.1 rfl).1 h0 _ _ (e1.trans e2) q2
      · walk_at "st"
        (refine ⟨by first | exact le_l1 _ | exact le_l2 _ _ | exact le_l3 _ _ _ | exact le_l5 _ _ _ _ _ | exact le_l0, fun t2 newQ => ?_⟩; obtain ⟨H2, eqQ, e2, q2⟩ := tup_new K newQ; rw [eqQ]; clear eqQ)
        exact ((kQ hp).2.1 rfl).2 i hi h0 h1 _ _ (x1.trans e2.x) (b1.same e2.imm fun o z => e2 _ _ z) q2
    walk_at "st"
    refine u_ite (fun h => ?_) (fun h' => ?_)
    · subst h
      walk_at "st"
      refine ⟨a, dx, _, rfl, ha, rfl, ?_⟩
      walk_at "st"
      refine ⟨a, v, n, rows, ls, p, rfl, hB, hv, lp, fun hne d hd => ?_, fun hp => ⟨(kQ hp).1, fun h0 y H1 e1 r1 => ?_, fun h0 H1 e1 => ?_⟩⟩
      · obtain ⟨H1, hH1, e1, hx⟩ := xd_new (xs := [("want", V.int n), ("got", V.int p.length)]) hd
        rw [hH1]
        refine ⟨T.em_WrongWidth, fun ea hea => ⟨rfl, ?_⟩⟩
        walk_at "st"
        refine ⟨_, _, false, _, _, rfl, fun u r => r, T.q_WrongWidth_LimitError, rfl, hx, ?_⟩
        walk_at "st"
        refine ⟨_, _, false, _, _, rfl, fun u r => r, T.q_WrongWidth_Singular, rfl, hx, ?_⟩
        walk_at "st"
        refine ⟨_, _, true, _, _, rfl, fun u r => r, T.q_WrongWidth_SteelyardError, rfl, hx, ?_⟩
        walk_at "st"
        refine ⟨_, _, true, _, _, rfl, fun u r => r, T.q_WrongWidth_ValueError, rfl, hx, ?_⟩
        walk_at "st"
        refine ⟨rfl, rfl, _, _, _, rfl, hx, rfl, ?_⟩
        walk_at "st"
        refine ⟨rfl, rfl, _, _, _, rfl, hx, rfl, ?_⟩
        walk_at "st"
        (refine ⟨by first | exact le_l1 _ | exact le_l2 _ _ | exact le_l3 _ _ _ | exact le_l5 _ _ _ _ _ | exact le_l0, fun t2 newQ => ?_⟩; obtain ⟨H2, eqQ, e2, q2⟩ := tup_new K newQ; rw [eqQ]; clear eqQ)
        exact kE hne _ _ (e1.trans e2) q2
      · walk_at "st"
        (refine ⟨by first | exact le_l1 _ | exact le_l2 _ _ | exact le_l3 _ _ _ | exact le_l5 _ _ _ _ _ | exact le_l0, fun t2 newQ => ?_⟩; obtain ⟨H2, eqQ, e2, q2⟩ := tup_new K newQ; rw [eqQ]; clear eqQ)
        exact ((kQ hp).2.2.1 rfl).1 h0 _ _ _ (e1.trans e2) (r1.same e2) q2
      · walk_at "st"
        (refine ⟨by first | exact le_l1 _ | exact le_l2 _ _ | exact le_l3 _ _ _ | exact le_l5 _ _ _ _ _ | exact le_l0, fun t2 newQ => ?_⟩; obtain ⟨H2, eqQ, e2, q2⟩ := tup_new K newQ; rw [eqQ]; clear eqQ)
        exact ((kQ hp).2.2.1 rfl).2 h0 _ _ (e1.trans e2) q2
    · walk_at "st"
      refine ⟨a, dx, _, rfl, ha, ?_⟩
      refine ⟨a, v, n, rows, ls, p, rfl, hB, hv, lp, fun hne d hd => ?_, fun hp => ⟨(kQ hp).1, fun h0 H1 e1 => ⟨_, rfl, ?_⟩, fun h0 H1 e1 => ⟨_, rfl, ?_⟩⟩⟩
      · obtain ⟨H1, hH1, e1, hx⟩ := xd_new (xs := [("want", V.int n), ("got", V.int p.length)]) hd
        rw [hH1]
        refine ⟨T.em_WrongWidth, fun ea hea => ⟨rfl, ?_⟩⟩
        walk_at "st"
        refine ⟨_, _, false, _, _, rfl, fun u r => r, T.q_WrongWidth_LimitError, rfl, hx, ?_⟩
        walk_at "st"
        refine ⟨_, _, false, _, _, rfl, fun u r => r, T.q_WrongWidth_Singular, rfl, hx, ?_⟩
        walk_at "st"
        refine ⟨_, _, true, _, _, rfl, fun u r => r, T.q_WrongWidth_SteelyardError, rfl, hx, ?_⟩
        walk_at "st"
        refine ⟨_, _, true, _, _, rfl, fun u r => r, T.q_WrongWidth_ValueError, rfl, hx, ?_⟩
        walk_at "st"
        refine ⟨rfl, rfl, _, _, _, rfl, hx, rfl, ?_⟩
        walk_at "st"
        refine ⟨rfl, rfl, _, _, _, rfl, hx, rfl, ?_⟩
        walk_at "st"
        (refine ⟨by first | exact le_l1 _ | exact le_l2 _ _ | exact le_l3 _ _ _ | exact le_l5 _ _ _ _ _ | exact le_l0, fun t2 newQ => ?_⟩; obtain ⟨H2, eqQ, e2, q2⟩ := tup_new K newQ; rw [eqQ]; clear eqQ)
        exact kE hne _ _ (e1.trans e2) q2
      · walk_at "st"
        (refine ⟨by first | exact le_l1 _ | exact le_l2 _ _ | exact le_l3 _ _ _ | exact le_l5 _ _ _ _ _ | exact le_l0, fun t2 newQ => ?_⟩; obtain ⟨H2, eqQ, e2, q2⟩ := tup_new K newQ; rw [eqQ]; clear eqQ)
        exact ((kQ hp).2.2.2 h h').1 h0 _ _ (e1.trans e2) q2
      · walk_at "st"
        (refine ⟨by first | exact le_l1 _ | exact le_l2 _ _ | exact le_l3 _ _ _ | exact le_l5 _ _ _ _ _ | exact le_l0, fun t2 newQ => ?_⟩; obtain ⟨H2, eqQ, e2, q2⟩ := tup_new K newQ; rw [eqQ]; clear eqQ)
        exact ((kQ hp).2.2.2 h h').2 h0 _ _ (e1.trans e2) q2
end
end K01

set_option maxHeartbeats 4000000
namespace K01
open PySem PySem.Spec PyProof.Rows L2 Ly


section
variable {w : World} {K : PySem.W.Frag} {mg : Str → Option Value} {base : Heap}
theorem u_isBB {H : Hp} {Q : VK} {b : Bool} (k : Q (.bl true) H) : rIsi K [.bl b, .ty "bool"] H Q := u_isi (.base (.bl b)) (by decide +kernel) k
theorem u_eqBB {H : Hp} {Q : VK} {i : Bool} (h : Q (.bl true) H) : rEqU K (.bl i) (.bl i) H Q := .inl ⟨rfl, by rw [decide_eq_true rfl]; exact h⟩
theorem u_neSS {H : Hp} {Q : VK} {i : Str} (h : Q (.bl false) H) : rNeU K (.str i) (.str i) H Q := .inl ⟨rfl, by rw [decide_eq_true rfl]; exact h⟩
def sp_coor (K : PySem.W.Frag) : Sp := fun vs H Q _ => ∃ (M : List Addr) (mo m1 m2 : Addr) (told v : V) (n S : Nat) (rows : List (List Rat)) (ls : List Ln) (p : List Rat), vs = [told, .ref mo, v] ∧ MdOk M K H mo m1 m2 n rows ls ∧ Bas n rows ls ∧ n ≤ 12 ∧ Row K H v p ∧ p.length = n ∧ Sz (W0 - 1) p ∧ Sz S rows.flatten ∧ S ≤ 10000 ∧
  (((∀ i, cf (rest ls p rows.length) i = 0) ∧ ∃ y, told = .ref y ∧ RowT K H (.ref y) (prts ls p rows.length)) ∨ ((∃ i, cf (rest ls p rows.length) i ≠ 0) ∧ told = .non)) ∧ ∀ H', Same H H' → Q (.bl true) H'
theorem ok__law_coordinates_right (T : Tx K mg) (hseer : base.NoSeer) : FnOk PP w K mg base CX0 41 T.a__law_coordinates_right T.d__law_coordinates_right ["told", "model", "row"] (sp_coor K) := by
  refine T.F__law_coordinates_right.ok sc__law_coordinates_right (fun vs H Q E h => ?_) (fun cdv A outer s H vs Q E hr h => ?_)
  · obtain ⟨_, _, _, _, _, _, _, _, _, _, _, rfl, _⟩ := h; rfl
  · obtain ⟨M, mo, m1, m2, told, v, n, S, rows, ls, p, rfl, hM, B, n12, hv, hp, z, zS, lS, hc, k⟩ := h
    have R := Run.all B hp z
    have r2 : (prts ls p rows.length).length = rows.length := R.l2
    have rs : Sz (W0 * 2 ^ ls.length - 1) (rest ls p rows.length ++ prts ls p rows.length) := R.sz
    have req : ∀ x, cf p x = cf (rest ls p rows.length) x + comb (prts ls p rows.length) rows x := R.eq
    have Bl := B.le
    have Bn := B.len
    have wz := w_pow (i := ls.length) (by omega)
    refine ⟨_, (pss_cons (ps_if (pt_not (pt_truthU (pe_call (ok__law_held T hseer) (hr.mono (by decide)) rfl T.g__law_held T.k__law_held T.b__law_held .nil pass0 (pa_cons (pv 1) (pa_cons (pv 2) pa_nil))) (fun _ => rfl)))
   (pss_one (ps_ret (pe_cmpR op_isN1 (pv 0) pe_non (nomark _))))
   pss_nil)
  (pss_cons (ps_if (PW.pt (pw_or (pt_not (pt_truthU (pe_callB call_isi (by rfl) T.n_isinstance (by decide +kernel) (pa_cons (pv 0) (pa_cons (pe_bltn (v := V.ty "tuple") (by rfl) T.n_tuple (by decide +kernel) rfl) pa_nil))) (fun _ => rfl))) (pw_or1 (pt_cmpR (op_neU hr.units) (pe_callB call_lenU (by rfl) T.n_len (by decide +kernel) (pa_cons (pv 0) pa_nil)) (pe_callB call_lenU (by rfl) T.n_len (by decide +kernel) (pa_cons (pe_ix ix_seq (pv 1) pe_int (fun _ _ => rfl)) pa_nil)) (nomark _)))))
   (pss_one (ps_ret pe_bl))
   pss_nil)
  (pss_cons (ps_for PassesOwn.never rfl (pi_seqA (pv 0)) (pg_name (i := 3) (sc__law_coordinates_right).nd rfl (by first | exact Or.inl rfl | exact Or.inr rfl))
   (pss_one (ps_if (pt_not (pt_truthU (pe_call (ok__law_is_low T hseer) (hr.mono (by decide)) rfl T.g__law_is_low T.k__law_is_low T.b__law_is_low .nil pass0 (pa_cons (pv 3) pa_nil)) (fun _ => rfl)))
   (pss_one (ps_ret pe_bl))
   pss_nil)))
  (pss_one (ps_ret (pe_call (ok__law_row_equal T hseer) (hr.mono (by decide)) rfl T.g__law_row_equal T.k__law_row_equal T.b__law_row_equal .nil pass0 (pa_cons (pe_call (ok__law_combined T hseer) (hr.mono (by decide)) rfl T.g__law_combined T.k__law_combined T.b__law_combined .nil pass0 (pa_cons (pv 0) (pa_cons (pe_ix ix_seq (pv 1) pe_int (fun _ _ => rfl)) (pa_cons (pe_ix ix_seq (pv 1) pe_int (fun _ _ => rfl)) pa_nil)))) (pa_cons (pv 2) pa_nil)))))))), ?_⟩
    walk_at "go"
    refine ⟨M, mo, m1, m2, v, n, rows, ls, p, rfl, hM, B, n12, hv, hp, z, fun h0 H1 e1 => ?_, fun h0 H1 e1 => ?_⟩
    · walk_at "st"
      rcases hc with ⟨-, y, rfl, hy⟩ | ⟨⟨i, hi⟩, -⟩
      · obtain ⟨y', xs, hyy, ty, fy⟩ := id hy
        cases hyy
        have ly := fy.len
        have hM1 := hM.same e1
        have hmo := hM1.mo_
        obtain ⟨ys, hys, fys⟩ := hM1.rows_
        have lys := fys.len
        refine u_isTT (e1.t ty) ?_
        walk_at "st"
        refine u_len (.inr (e1.t ty)) ?_
        walk_at "st"
        refine u_len (.inl (SqL.of hys)) ?_
        walk_at "st"
        refine u_iteN (fun h => absurd (by omega) h) (fun _ => ?_)
        walk_at "st"
        refine seqB_go (Same.refl H1) (.inr (e1.t ty)) fun J G hG hw => ?_
        refine forKC hw (fun i σ H' => H' = H1 ∧ ∃ l : Option V, σ = [some (.ref y), some (.ref mo), some v, l]) ⟨rfl, _, rfl⟩ (fun i σ H' hi q => hG _ (by rw [q.1]; exact Same.refl H1)) ?_ ?_
        · rintro i x σ H2 H' hi ⟨rfl, l, rfl⟩ ⟨rfl, y2⟩
          obtain ⟨vv, hvv, ff⟩ := (fy.same e1).at (i := i) (by omega)
          have y2 : xs[i]? = some x := y2
          rw [hvv] at y2
          cases y2
          walk_at "st"
          refine ⟨_, _, rfl, ff, ?_⟩
          walk_at "st"
          exact ⟨rfl, _, rfl⟩
        · rintro σ H2 ⟨rfl, l, rfl⟩
          walk_at "st"
          refine ⟨_, _, _, rows, n, W0 * 2 ^ ls.length - 1, S, rfl, (hy.same e1).row, ⟨m1, ys, rfl, .inl (SqL.of hys), fys.mono fun _ _ r => r.row⟩, r2, by omega, by omega, B.rl, rs.right, zS, by omega, fun c H3 e3 r3 => ?_⟩
          walk_at "st"
          have e : combL (prts ls p rows.length) rows n = p := cf_ext (by rw [combL_len, hp]) fun i hi => by
            rw [combL_len] at hi
            rw [cf_combL hi, req, h0 i, Rat.zero_add]
          rw [e] at r3
          refine ⟨_, _, p, rfl, r3, (hv.same (e1.trans e3)), by omega, ?_⟩
          exact k _ (e1.trans e3)
      · exact absurd (h0 i) hi
    · walk_at "st"
      rcases hc with ⟨h1, -⟩ | ⟨-, rfl⟩
      · obtain ⟨i, hi⟩ := h0
        exact absurd (h1 i) hi
      · walk_at "st"
        exact k _ e1
/-- basis and model say the same -/
def sp_state (T : Tx K mg) : Sp := fun vs H Q _ => ∃ (M : List Addr) (a mo m1 m2 : Addr) (n : Nat) (rows : List (List Rat)) (ls : List Ln), vs = [.ref a, .ref mo] ∧ BsOk T H a n rows ls ∧ MdOk M K H mo m1 m2 n rows ls ∧ Q (.bl true) H
theorem ok__law_state_right (T : Tx K mg) (hseer : base.NoSeer) : FnOk PP w K mg base CX0 41 T.a__law_state_right T.d__law_state_right ["basis", "model"] (sp_state T) := by
  refine T.F__law_state_right.ok sc__law_state_right (fun vs H Q E h => ?_) (fun cdv A outer s H vs Q E hr h => ?_)
  · obtain ⟨_, _, _, _, _, _, _, _, rfl, _⟩ := h; rfl
  · obtain ⟨M, a, mo, m1, m2, n, rows, ls, rfl, ⟨r, l, xr, xl, ⟨dx, ha⟩, hR, fR, hL, fL, B, n12⟩, hM, k⟩ := h
    have hmo := hM.mo_
    obtain ⟨ys, hys, fys⟩ := hM.rows_
    have lys := fys.len
    have lR := fR.len
    have Bl := B.le
    have Bn := B.len
    refine ⟨_, (pss_cons (ps_if (PW.pt (pw_or (pt_not (pt_truthU (pe_callB call_isi (by rfl) T.n_isinstance (by decide +kernel) (pa_cons (pe_fld (pv 0) rfl) (pa_cons (pe_bltn (v := V.ty "int") (by rfl) T.n_int (by decide +kernel) rfl) pa_nil))) (fun _ => rfl))) (pw_or1 (pt_truthU (pe_callB call_isi (by rfl) T.n_isinstance (by decide +kernel) (pa_cons (pe_fld (pv 0) rfl) (pa_cons (pe_bltn (v := V.ty "bool") (by rfl) T.n_bool (by decide +kernel) rfl) pa_nil))) (fun _ => rfl)))))
   (pss_one (ps_ret pe_bl))
   pss_nil)
  (pss_cons (ps_if (PW.pt (pw_or (pt_cmpR (op_neU hr.units) (pe_fld (pv 0) rfl) (pe_ix ix_seq (pv 1) pe_int (fun _ _ => rfl)) (nomark _)) (pw_or1 (pt_cmpR (op_neU hr.units) (pe_callB (call_lenO T.cl_Basis T.m_Basis___len__ (ok_Basis___len__ T hseer) (hr.mono (by decide)).in1 T.b_Basis___len__) (by rfl) T.n_len (by decide +kernel) (pa_cons (pv 0) pa_nil)) (pe_callB call_lenU (by rfl) T.n_len (by decide +kernel) (pa_cons (pe_ix ix_seq (pv 1) pe_int (fun _ _ => rfl)) pa_nil)) (nomark _)))))
   (pss_one (ps_ret pe_bl))
   pss_nil)
  (pss_one (ps_ret (pe_call (ok__law_rows_equal T hseer) (hr.mono (by decide)) rfl T.g__law_rows_equal T.k__law_rows_equal T.b__law_rows_equal .nil pass0 (pa_cons (pe_prop (pv 0) T.cl_Basis T.p_Basis_kept (ok_Basis_kept T hseer) (hr.mono (by decide)) T.b_Basis_kept .nil pass0 rfl) (pa_cons (pe_ix ix_seq (pv 1) pe_int (fun _ _ => rfl)) pa_nil))))))), ?_⟩
    walk_at "go"
    refine ⟨a, _, dx, _, .int n, rfl, ha, T.cl_Basis, T.no_Basis_width, rfl, ?_⟩
    walk_at "st"
    refine ⟨a, _, dx, _, .int n, rfl, ha, T.cl_Basis, T.no_Basis_width, rfl, ?_⟩
    walk_at "st"
    refine ⟨a, _, dx, _, .int n, rfl, ha, T.cl_Basis, T.no_Basis_width, rfl, ?_⟩
    walk_at "st"
    rw [decide_eq_true rfl]
    walk_at "st"
    refine ⟨a, dx, _, rfl, ha, ⟨a, r, l, n, xr, rfl, ⟨dx, ha⟩, hR, _, rfl, by omega, by omega, ?_⟩⟩
    walk_at "st"
    refine u_len (.inl (SqL.of hys)) ?_
    walk_at "st"
    refine u_iteN (fun h => absurd (by omega) h) (fun _ => ?_)
    walk_at "st"
    refine ⟨a, dx, _, rfl, ha, ⟨a, r, l, n, rfl, ⟨dx, ha⟩, ?_⟩⟩
    walk_at "st"
    refine ⟨_, _, rows, rfl, ⟨r, xr, rfl, hR, fR⟩, ⟨m1, ys, rfl, .inl (SqL.of hys), fys.mono fun _ _ q => q.row⟩, by omega, fun q hq => by rw [B.rl q hq]; omega, ?_⟩
    exact k
end
end K01

set_option maxHeartbeats 4000000
namespace K01
open PySem PySem.Spec PyProof.Rows L2 Ly


section
variable {w : World} {K : PySem.W.Frag} {mg : Str → Option Value} {base : Heap}
theorem RowK.bagX {t : Bool} {H H' : Hp} {D : Addr} {v : V} {p : List Rat} (h : RowK t K H v p) (e : Same H H') : RowK t K H' v p := h.same e
def sp_askr (T : Tx K mg) : Sp := fun vs H Q _ => ∃ (M : List Addr) (a mo m1 m2 : Addr) (v : V) (door : Int) (t : Bool) (n S : Nat) (rows : List (List Rat)) (ls : List Ln) (p : List Rat), vs = [.ref a, .ref mo, v, .int door, .bl t] ∧ BsOk T H a n rows ls ∧ MdOk M K H mo m1 m2 n rows ls ∧ Row K H v p ∧ p.length = n ∧ Sz (W0 - 1) p ∧ Sz S rows.flatten ∧ S ≤ 10000 ∧ (door = 1 ∨ door = 2) ∧
  ∀ H', Same H H' → Q (.bl true) H'
theorem ok__law_asked_right (T : Tx K mg) (hseer : base.NoSeer) : FnOk PP w K mg base CX0 43 T.a__law_asked_right T.d__law_asked_right ["basis", "model", "row", "door", "as_list"] (sp_askr T) := by
  refine T.F__law_asked_right.ok sc__law_asked_right (fun vs H Q E h => ?_) (fun cdv A outer s H vs Q E hr h => ?_)
  · obtain ⟨_, _, _, _, _, _, _, _, _, _, _, _, _, rfl, _⟩ := h; rfl
  · obtain ⟨M, a, mo, m1, m2, v, door, t, n, S, rows, ls, p, rfl, hB, hM, hv, hp, z, zS, lS, hd, k⟩ := h
    have hB' := hB
    obtain ⟨r, l, xr, xl, -, -, -, -, -, B, n12⟩ := hB'
    refine ⟨_, (pss_cons (ps_set (i := 5) (sc__law_asked_right).nd rfl (by first | exact Or.inl rfl | exact Or.inr rfl) (pe_call (ok__law_given T hseer) (hr.mono (by decide)) rfl T.g__law_given T.k__law_given T.b__law_given .nil pass0 (pa_cons (pv 2) (pa_cons (pv 4) pa_nil))))
  (pss_cons (ps_set (i := 6) (sc__law_asked_right).nd rfl (by first | exact Or.inl rfl | exact Or.inr rfl) (pe_call (ok__law_asked T hseer) (hr.mono (by decide)) rfl T.g__law_asked T.k__law_asked T.b__law_asked .nil pass0 (pa_cons (pv 0) (pa_cons (pv 5) (pa_cons (pv 3) pa_nil)))))
  (pss_cons (ps_if (PW.pt (pw_or (pt_cmpR (op_neU hr.units) (pe_ix ix_seq (pv 6) pe_int (fun _ _ => rfl)) pe_str (nomark _)) (pw_or1 (pt_cmpR (op_neU hr.units) (pv 5) (pe_call (ok__law_given T hseer) (hr.mono (by decide)) rfl T.g__law_given T.k__law_given T.b__law_given .nil pass0 (pa_cons (pv 2) (pa_cons (pv 4) pa_nil))) (nomark _)))))
   (pss_one (ps_ret pe_bl))
   pss_nil)
  (pss_cons (ps_if (pt_cmpR (op_eqU hr.units) (pv 3) pe_int (nomark _))
   (pss_one (ps_ret (pe_and (pe_callB call_isi (by rfl) T.n_isinstance (by decide +kernel) (pa_cons (pe_ix ix_seq (pv 6) pe_int (fun _ _ => rfl)) (pa_cons (pe_bltn (v := V.ty "bool") (by rfl) T.n_bool (by decide +kernel) rfl) pa_nil))) (pe_one (pe_cmpR (op_eqU hr.units) (pe_ix ix_seq (pv 6) pe_int (fun _ _ => rfl)) (pe_call (ok__law_held T hseer) (hr.mono (by decide)) rfl T.g__law_held T.k__law_held T.b__law_held .nil pass0 (pa_cons (pv 1) (pa_cons (pv 2) pa_nil))) (nomark _))))))
   pss_nil)
  (pss_one (ps_ret (pe_call (ok__law_coordinates_right T hseer) (hr.mono (by decide)) rfl T.g__law_coordinates_right T.k__law_coordinates_right T.b__law_coordinates_right .nil pass0 (pa_cons (pe_ix ix_seq (pv 6) pe_int (fun _ _ => rfl)) (pa_cons (pv 1) (pa_cons (pv 2) pa_nil)))))))))), ?_⟩
    walk_at "go"
    refine ⟨v, t, p, rfl, hv, fun y H1 e1 r1 _ => ?_⟩
    walk_at "st"
    have hB1 := hB.same e1.imm fun o q => e1 _ _ q
    have hM1 := hM.same e1
    -- behind the question
    have key : ∀ (H2 : Hp) (P : V → Hp → Prop), Same H1 H2 → (∀ y' H3, Same H2 H3 → RowK (!t) K H3 (.ref y') p → P (.ref y') H3) → sp_given K [v, .bl t] H2 P E0 := fun H2 P e2 f => ⟨v, t, p, rfl, hv.same (e1.trans e2), fun y' H3 e3 r3 _ => f y' H3 e3 r3⟩
    refine ⟨a, _, door, n, rows, ls, p, rfl, hB1, r1.row, by omega, fun hne => absurd hp hne, fun _ => ⟨z, ?_, ?_, ?_⟩⟩
    · intro h; omega
    · rintro rfl
      refine ⟨fun h0 yy t2 H2 e2 ry ht => ?_, fun h0 t2 H2 e2 ht => ?_⟩
      · walk_at "st"
        refine u_ix (k := ((0 : Nat) : Int)) (.inr ht) (atI_nat (j := 0) rfl) ?_
        walk_at "st"
        refine u_neSS ?_
        walk_at "st"
        refine key _ _ e2 fun y' H3 e3 r3 => ?_
        walk_at "st"
        refine u_neRowK ((r1.same e2).same e3) r3 ?_
        walk_at "st"
        refine u_ite (fun h => absurd h (by decide)) (fun _ => ?_)
        walk_at "st"
        refine u_ix (k := ((1 : Nat) : Int)) (.inr (e3.t ht)) (atI_nat (j := 1) rfl) ?_
        walk_at "st"
        have e13 := (e1.trans e2).trans e3
        refine ⟨M, mo, m1, m2, _, v, n, S, rows, ls, p, rfl, hM.same e13, B, n12, hv.same e13, hp, z, zS, lS, .inl ⟨h0, yy, rfl, ry.same e3⟩, fun H4 e4 => ?_⟩
        exact k _ (e13.trans e4)
      · walk_at "st"
        refine u_ix (k := ((0 : Nat) : Int)) (.inr ht) (atI_nat (j := 0) rfl) ?_
        walk_at "st"
        refine u_neSS ?_
        walk_at "st"
        refine key _ _ e2 fun y' H3 e3 r3 => ?_
        walk_at "st"
        refine u_neRowK ((r1.same e2).same e3) r3 ?_
        walk_at "st"
        refine u_ite (fun h => absurd h (by decide)) (fun _ => ?_)
        walk_at "st"
        refine u_ix (k := ((1 : Nat) : Int)) (.inr (e3.t ht)) (atI_nat (j := 1) rfl) ?_
        walk_at "st"
        have e13 := (e1.trans e2).trans e3
        refine ⟨M, mo, m1, m2, _, v, n, S, rows, ls, p, rfl, hM.same e13, B, n12, hv.same e13, hp, z, zS, lS, .inr ⟨h0, rfl⟩, fun H4 e4 => ?_⟩
        exact k _ (e13.trans e4)
    · intro d0 d1
      have hd2 : door = 2 := by omega
      subst hd2
      refine ⟨fun h0 t2 H2 e2 ht => ?_, fun h0 t2 H2 e2 ht => ?_⟩
      · walk_at "st"
        refine u_ix (k := ((0 : Nat) : Int)) (.inr ht) (atI_nat (j := 0) rfl) ?_
        walk_at "st"
        refine u_neSS ?_
        walk_at "st"
        refine key _ _ e2 fun y' H3 e3 r3 => ?_
        walk_at "st"
        refine u_neRowK ((r1.same e2).same e3) r3 ?_
        walk_at "st"
        refine u_ite (fun _ => ?_) (fun h => absurd rfl h)
        walk_at "st"
        have e13 := (e1.trans e2).trans e3
        refine u_ix (k := ((1 : Nat) : Int)) (.inr (e3.t ht)) (atI_nat (j := 1) rfl) ?_
        walk_at "st"
        refine u_isBB ?_
        walk_at "st"
        refine u_ix (k := ((1 : Nat) : Int)) (.inr (e3.t ht)) (atI_nat (j := 1) rfl) ?_
        walk_at "st"
        refine ⟨M, mo, m1, m2, v, n, rows, ls, p, rfl, hM.same e13, B, n12, hv.same e13, hp, z, fun _ H4 e4 => ?_, fun h1 H4 e4 => ?_⟩
        · refine u_eqBB ?_
          exact k _ (e13.trans e4)
        · obtain ⟨i, hi⟩ := h1
          exact absurd (h0 i) hi
      · walk_at "st"
        refine u_ix (k := ((0 : Nat) : Int)) (.inr ht) (atI_nat (j := 0) rfl) ?_
        walk_at "st"
        refine u_neSS ?_
        walk_at "st"
        refine key _ _ e2 fun y' H3 e3 r3 => ?_
        walk_at "st"
        refine u_neRowK ((r1.same e2).same e3) r3 ?_
        walk_at "st"
        refine u_ite (fun _ => ?_) (fun h => absurd rfl h)
        walk_at "st"
        have e13 := (e1.trans e2).trans e3
        refine u_ix (k := ((1 : Nat) : Int)) (.inr (e3.t ht)) (atI_nat (j := 1) rfl) ?_
        walk_at "st"
        refine u_isBB ?_
        walk_at "st"
        refine u_ix (k := ((1 : Nat) : Int)) (.inr (e3.t ht)) (atI_nat (j := 1) rfl) ?_
        walk_at "st"
        refine ⟨M, mo, m1, m2, v, n, rows, ls, p, rfl, hM.same e13, B, n12, hv.same e13, hp, z, fun h1 H4 e4 => ?_, fun h1 H4 e4 => ?_⟩
        · obtain ⟨i, hi⟩ := h0
          exact absurd (h1 i) hi
        · refine u_eqBB ?_
          exact k _ (e13.trans e4)
end
end K01

set_option maxHeartbeats 4000000
namespace K01
open PySem PySem.Spec PyProof.Rows L2 Ly


section
variable {w : World} {K : PySem.W.Frag} {mg : Str → Option Value} {base : Heap}
/-- a new list of drawn fractions -/
structure DrwL (K : PySem.W.Frag) (P : Rat → Prop) (H : Hp) (b : Addr) (n : Nat) (wide : Nat) (D : Addr) (H' : Hp) (qs : List Rat) : Prop where
  new : H D = none
  row : RowL K H' (.ref D) qs
  len : qs.length = wide
  en : ∀ q ∈ qs, P q
  bag : BagAt H' b (n + wide)
  sm : SameX b H H'
theorem lc_draws {P : Rat → Prop} {σ : L2.St} {vs : List Nat} {g : TG} {te : TE} {Q : VK} {H : Hp} {b : Addr} {n wide : Nat} (hb : BagAt H b n) (hn : n + wide ≤ 100000)
    (hs : ∀ (i m : Nat) H' (Q' : VK), BagAt H' b m → m ≤ 100000 → (∀ v q H'', Fr K H'' v q → P q → BagAt H'' b (m + 1) → SameX b H' H'' → Q' v H'') → g (.int i) (wipe σ vs) H' fun σ2 H2 => wipe σ2 vs = wipe σ vs ∧ te σ2 H2 Q')
    (k : ∀ D qs H', DrwL K P H b n wide D H' qs → Q (.ref D) H') : LcK g tYes te vs σ Q (Itr 0 wide) H := by
  refine lcK walk_range0 (fun D i acc H' => H' D = some (.lst acc) ∧ ∃ qs, Fs K H' acc qs ∧ qs.length = i ∧ (∀ q ∈ qs, P q) ∧ BagAt H' b (n + i) ∧ SameX b H H') (fun D hD => ⟨upd_same, [], trivial, rfl, fun q hq => (nomatch hq), hb.same (same_new hD), (same_new hD).x⟩) (fun _ _ _ _ _ _ _ => trivial) (fun D i acc x H4 H5 hD hi L y => ?_) (fun D acc H4 hD L => ?_)
  · obtain ⟨rfl, rfl⟩ := y
    obtain ⟨h1, qs, h2, h3, h4, h5, h6⟩ := L
    refine hs i (n + i) _ _ h5 (by omega) fun v q H6 f6 en6 b6 e6 => ?_
    have la := h2.len
    have h1' := e6 _ _ (h5.ne h1 fun r s c => fs_ne h2 r s c) h1
    have nb : b ≠ D := fun z => by
      obtain ⟨r, s, c, z1, _⟩ := hb
      rw [z, hD] at z1
      cases z1
    have im : Imm H6 (upd H6 D (.lst (acc ++ [v]))) := Imm.upd h1'
    refine lcN h1' (Nat.lt_of_le_of_lt (m := 100000) (by omega) (by decide)) ⟨upd_same, qs ++ [q], ((h2.imm (h5.imm e6)).snoc f6).imm im, by rw [List.length_append, h3]; rfl, fun r hr => ?_, ?_, fun a o na ho => ?_⟩
    · rcases List.mem_append.mp hr with z | z
      · exact h4 r z
      · rw [List.mem_singleton.mp z]; exact en6
    · obtain ⟨r, s, c, z1, z2⟩ := b6
      exact ⟨r, s, c, by rw [upd_ne nb]; exact z1, z2⟩
    · rw [upd_ne (ne_of_none ho hD)]
      exact e6 _ _ na (h6 _ _ na ho)
  · obtain ⟨h1, qs, h2, h3, h4, h5, h6⟩ := L
    exact k D qs H4 ⟨hD, ⟨D, acc, rfl, h1, h2⟩, h3, h4, h5, h6⟩
theorem u_setRowL {H : Hp} {D : Addr} {xs : List V} {qs : List Rat} {i : Nat} {k : Int} {q : Rat} {v : V} {P : Hp → Prop} (h : H D = some (.lst xs)) (f : Fs K H xs qs) (hi : i < qs.length) (e : k = (i : Nat)) (hv : Fr K H v q)
    (c : ∀ H', RowL K H' (.ref D) (qs.set i q) → SameX D H H' → Imm H H' → P H') : rSetL (.ref D) (.int k) v H P := by
  have hl := f.len
  subst e
  refine u_setL (j := i) h ?_ (c _ ⟨D, _, rfl, upd_same, (f.set i hv).imm (Imm.upd h)⟩ samex_upd (Imm.upd h))
  unfold ixN
  rw [if_pos (by omega), if_pos (by omega)]
  simp
def I3 (q : Rat) : Prop := ∃ k : Int, q = (k : Rat) ∧ k.natAbs ≤ 3
def sp_row (K : PySem.W.Frag) : Sp := fun vs H Q _ => ∃ (M : List Addr) (b mo m1 m2 : Addr) (j : Nat) (large : Bool) (n S : Nat) (rows : List (List Rat)) (ls : List Ln), vs = [.ref b, .ref mo, .bl large] ∧ BagAt H b j ∧ b ∉ M ∧ j ≤ 10000 ∧ MdOk M K H mo m1 m2 n rows ls ∧ n ≤ 12 ∧ (∀ r ∈ rows, r.length = n) ∧ rows.length ≤ n ∧ Sz S rows.flatten ∧ S ≤ 9000 ∧
  ∀ y p H', RowT K H' (.ref y) p → p.length = n → Sz (S + 403) (rows.flatten ++ p) → BagAt H' b (j + 20) → SameX b H H' → Q (.ref y) H'
theorem mem_flat {rows : List (List Rat)} {r : List Rat} (h : r ∈ rows) : ∀ q ∈ r, q ∈ rows.flatten := fun q hq => List.mem_flatten.mpr ⟨r, h, hq⟩
theorem ok__law_row (T : Tx K mg) (hseer : base.NoSeer) : FnOk PP w K mg base CX0 40 T.a__law_row T.d__law_row ["bag", "model", "large"] (sp_row K) := by
  refine T.F__law_row.ok sc__law_row (fun vs H Q E h => ?_) (fun cdv A outer s H vs Q E hr h => ?_)
  · obtain ⟨_, _, _, _, _, _, _, _, _, _, _, rfl, _⟩ := h; rfl
  · obtain ⟨M, b, mo, m1, m2, j, large, n, S, rows, ls, rfl, hb, nb, lj, hM, n12, hrl, lr, zS, lS, k⟩ := h
    have hmo := hM.mo_
    have S0 := zS.pos
    refine ⟨_, (pss_cons (ps_set (i := 3) (sc__law_row).nd rfl (by first | exact Or.inl rfl | exact Or.inr rfl) (pe_ix ix_seq (pv 1) pe_int (fun _ _ => rfl)))
  (pss_cons (ps_set (i := 4) (sc__law_row).nd rfl (by first | exact Or.inl rfl | exact Or.inr rfl) (pe_ix ix_seq (pv 1) pe_int (fun _ _ => rfl)))
  (pss_cons (ps_set (i := 5) (sc__law_row).nd rfl (by first | exact Or.inl rfl | exact Or.inr rfl) (pe_call (ok__law_draw T hseer) (hr.mono (by decide)) rfl T.g__law_draw T.k__law_draw T.b__law_draw .nil pass0 (pa_cons (pv 0) (pa_cons pe_int pa_nil))))
  (pss_cons (ps_if (pt_cmpR (op_eqU hr.units) (pv 5) pe_int (nomark _))
   (pss_one (ps_ret (pe_callTy call_tupleU (by rfl) T.n_tuple (by decide +kernel) (pa_cons (pe_lc (own := [("k", 11)]) rfl (sc__law_row).nd (pi_range1 rfl T.n_range (pa_cons (pv 3) pa_nil)) (blkOk_by (own := [("k", 11)]) (N := n__law_row) (sc := defScope s__law_row) (by decide +kernel)) (fun _ _ _ _ _ => (pg_name (i := 11) (sc__law_row).nd rfl (by first | exact Or.inl rfl | exact Or.inr rfl))) (fun _ _ _ _ _ => pts_nil) (fun _ _ _ _ _ => (pe_tup (pa_cons pe_int (pa_cons pe_int pa_nil))))) pa_nil))))
   pss_nil)
  (pss_cons (ps_if (PW.pt (pw_and (pt_cmpR (op_eqU hr.units) (pv 5) pe_int (nomark _)) (pw_and1 (pt_cmpR op_gt (pv 3) pe_int (nomark _)))))
   (pss_cons (ps_set (i := 6) (sc__law_row).nd rfl (by first | exact Or.inl rfl | exact Or.inr rfl) (pe_call (ok__law_draw T hseer) (hr.mono (by decide)) rfl T.g__law_draw T.k__law_draw T.b__law_draw .nil pass0 (pa_cons (pv 0) (pa_cons (pv 3) pa_nil))))
  (pss_one (ps_ret (pe_callTy call_tupleU (by rfl) T.n_tuple (by decide +kernel) (pa_cons (pe_lc (own := [("k", 11)]) rfl (sc__law_row).nd (pi_range1 rfl T.n_range (pa_cons (pv 3) pa_nil)) (blkOk_by (own := [("k", 11)]) (N := n__law_row) (sc := defScope s__law_row) (by decide +kernel)) (fun _ _ _ _ _ => (pg_name (i := 11) (sc__law_row).nd rfl (by first | exact Or.inl rfl | exact Or.inr rfl))) (fun _ _ _ _ _ => pts_nil) (fun _ _ _ _ _ => (pe_tup (pa_cons (pe_callTy call_intU (by rfl) T.n_int (by decide +kernel) (pa_cons (pe_cmpR (r := rEqU K) (op_eqU hr.units) (pv 11) (pv 6) (nomark _)) pa_nil)) (pa_cons pe_int pa_nil))))) pa_nil)))))
   pss_nil)
  (pss_cons (ps_if (PW.pt (pw_or (pt_cmpR op_lt (pv 5) pe_int (nomark _)) (pw_or (pt_cmpR (op_eqU hr.units) (pv 5) pe_int (nomark _)) (pw_or1 (pt_cmpR (op_eqU hr.units) (pe_callB call_lenU (by rfl) T.n_len (by decide +kernel) (pa_cons (pv 4) pa_nil)) pe_int (nomark _))))))
   (pss_one (ps_ret (pe_callTy call_tupleU (by rfl) T.n_tuple (by decide +kernel) (pa_cons (pe_lc (own := [("k", 11)]) rfl (sc__law_row).nd (pi_range1 rfl T.n_range (pa_cons (pv 3) pa_nil)) (blkOk_by (own := [("k", 11)]) (N := n__law_row) (sc := defScope s__law_row) (by decide +kernel)) (fun _ _ _ _ _ => (pg_name (i := 11) (sc__law_row).nd rfl (by first | exact Or.inl rfl | exact Or.inr rfl))) (fun _ _ _ _ _ => pts_nil) (fun _ _ _ _ _ => (pe_call (ok__law_entry T hseer) (hr.mono (by decide)) rfl T.g__law_entry T.k__law_entry T.b__law_entry .nil pass0 (pa_cons (pv 0) (pa_cons (pv 2) pa_nil))))) pa_nil))))
   pss_nil)
  (pss_cons (ps_set (i := 7) (sc__law_row).nd rfl (by first | exact Or.inl rfl | exact Or.inr rfl) (pe_ix ix_seq (pv 4) (pe_call (ok__law_draw T hseer) (hr.mono (by decide)) rfl T.g__law_draw T.k__law_draw T.b__law_draw .nil pass0 (pa_cons (pv 0) (pa_cons (pe_callB call_lenU (by rfl) T.n_len (by decide +kernel) (pa_cons (pv 4) pa_nil)) pa_nil))) (fun _ _ => rfl)))
  (pss_cons (ps_if (pt_cmpR (op_eqU hr.units) (pv 5) pe_int (nomark _))
   (pss_one (ps_ret (pv 7)))
   pss_nil)
  (pss_cons (ps_if (pt_cmpR (op_eqU hr.units) (pv 5) pe_int (nomark _))
   (pss_cons (ps_setLc (i := 8) (own := [("k", 11)]) (by rfl) (sc__law_row).nd rfl rfl (sw_true rfl rfl rfl (by decide +kernel)) (pi_range1 rfl T.n_range (pa_cons (pe_callB call_lenU (by rfl) T.n_len (by decide +kernel) (pa_cons (pv 4) pa_nil)) pa_nil)) (blkOk_by (own := [("k", 11)]) (N := n__law_row) (sc := defScope s__law_row) (by decide +kernel)) (fun _ _ _ _ _ => (pg_name (i := 11) (sc__law_row).nd rfl (by first | exact Or.inl rfl | exact Or.inr rfl))) (fun _ _ _ _ _ => pts_nil) (fun _ _ _ _ _ => (pe_tup (pa_cons (pe_op op_sub (pe_call (ok__law_draw T hseer) (hr.mono (by decide)) rfl T.g__law_draw T.k__law_draw T.b__law_draw .nil pass0 (pa_cons (pv 0) (pa_cons pe_int pa_nil))) pe_int) (pa_cons pe_int pa_nil)))))
  (pss_one (ps_ret (pe_call (ok__law_combined T hseer) (hr.mono (by decide)) rfl T.g__law_combined T.k__law_combined T.b__law_combined .nil pass0 (pa_cons (pv 8) (pa_cons (pv 4) (pa_cons (pv 3) pa_nil)))))))
   pss_nil)
  (pss_cons (ps_set (i := 9) (sc__law_row).nd rfl (by first | exact Or.inl rfl | exact Or.inr rfl) (pe_ix ix_seq (pv 4) (pe_call (ok__law_draw T hseer) (hr.mono (by decide)) rfl T.g__law_draw T.k__law_draw T.b__law_draw .nil pass0 (pa_cons (pv 0) (pa_cons (pe_callB call_lenU (by rfl) T.n_len (by decide +kernel) (pa_cons (pv 4) pa_nil)) pa_nil))) (fun _ _ => rfl)))
  (pss_cons (ps_if (pt_cmpR op_lt (pv 5) pe_int (nomark _))
   (pss_one (ps_ret (pe_call (ok__law_combined T hseer) (hr.mono (by decide)) rfl T.g__law_combined T.k__law_combined T.b__law_combined .nil pass0 (pa_cons (pe_lst (pa_cons (pe_call (ok__law_entry T hseer) (hr.mono (by decide)) rfl T.g__law_entry T.k__law_entry T.b__law_entry .nil pass0 (pa_cons (pv 0) (pa_cons pe_bl pa_nil))) (pa_cons (pe_call (ok__law_entry T hseer) (hr.mono (by decide)) rfl T.g__law_entry T.k__law_entry T.b__law_entry .nil pass0 (pa_cons (pv 0) (pa_cons pe_bl pa_nil))) pa_nil))) (pa_cons (pe_lst (pa_cons (pv 7) (pa_cons (pv 9) pa_nil))) (pa_cons (pv 3) pa_nil))))))
   pss_nil)
  (pss_cons (ps_set (i := 10) (sc__law_row).nd rfl (by first | exact Or.inl rfl | exact Or.inr rfl) (pe_callTy call_listU (by rfl) T.n_list (by decide +kernel) (pa_cons (pe_call (ok__law_combined T hseer) (hr.mono (by decide)) rfl T.g__law_combined T.k__law_combined T.b__law_combined .nil pass0 (pa_cons (pe_lst (pa_cons (pe_tup (pa_cons (pe_op op_sub (pe_call (ok__law_draw T hseer) (hr.mono (by decide)) rfl T.g__law_draw T.k__law_draw T.b__law_draw .nil pass0 (pa_cons (pv 0) (pa_cons pe_int pa_nil))) pe_int) (pa_cons pe_int pa_nil))) (pa_cons (pe_tup (pa_cons (pe_op op_sub (pe_call (ok__law_draw T hseer) (hr.mono (by decide)) rfl T.g__law_draw T.k__law_draw T.b__law_draw .nil pass0 (pa_cons (pv 0) (pa_cons pe_int pa_nil))) pe_int) (pa_cons pe_int pa_nil))) pa_nil))) (pa_cons (pe_lst (pa_cons (pv 7) (pa_cons (pv 9) pa_nil))) (pa_cons (pv 3) pa_nil)))) pa_nil)))
  (pss_cons (ps_set (i := 6) (sc__law_row).nd rfl (by first | exact Or.inl rfl | exact Or.inr rfl) (pe_call (ok__law_draw T hseer) (hr.mono (by decide)) rfl T.g__law_draw T.k__law_draw T.b__law_draw .nil pass0 (pa_cons (pv 0) (pa_cons (pv 3) pa_nil))))
  (pss_cons (ps_asg (pe_call (ok__law_plus T hseer) (hr.mono (by decide)) rfl T.g__law_plus T.k__law_plus T.b__law_plus .nil pass0 (pa_cons (pe_ix ix_seq (pv 10) (pv 6) (fun _ _ => rfl)) (pa_cons (pe_tup (pa_cons pe_int (pa_cons pe_int pa_nil))) pa_nil))) (pg_sub (pv 10) (pv 6) set_list))
  (pss_one (ps_ret (pe_callTy call_tupleU (by rfl) T.n_tuple (by decide +kernel) (pa_cons (pv 10) pa_nil)))))))))))))))))), ?_⟩
    walk_at "go"
    refine ⟨b, 9, j, rfl, by decide, hb, by omega, fun d H1 d0 d1 hb1 e1 => ?_⟩
    have hM1 := hM.bag hb nb e1
    have hmo1 := hM1.mo_
    obtain ⟨ys, hys, fys⟩ := hM1.rows_
    have lys := fys.len
    have fin : ∀ y p H', RowT K H' (.ref y) p → p.length = n → Sz (S + 403) (rows.flatten ++ p) → BagAt H' b (j + 20) → SameX b H1 H' → Q (.ref y) H' := fun y p H' r l z hb' e => k y p H' r l z hb' (e1.trans e)
    walk_at "st"
    refine u_ite (fun h2 => ?_) (fun h2 => ?_)
    · walk_at "st"
      refine u_rng1 (by omega) ?_
      refine lcK walk_range0 (fun D i acc H' => Ly.Loc K H1 D H' (List.replicate i 0)) (fun D hD => Loc.new hD (Same.refl H1) trivial) (fun _ _ _ _ _ _ _ => trivial) (fun D i acc x H4 H5 hD hi L y2 => ?_) (fun D acc H4 hD L => ?_)
      · obtain ⟨rfl, rfl⟩ := y2
        walk_at "st"
        refine ⟨rfl, ?_⟩
        walk_at "st"
        intro z H6 e6 f6
        refine lcLoc (L.ext e6) (by rw [List.length_replicate]; omega) ⟨z, rfl, f6 K⟩ fun acc H7 L7 _ => ?_
        rw [rep_succ]
        exact L7
      · walk_at "st"
        refine u_tupleRow L.row.row fun v' H5 e5 r5 => ?_
        obtain ⟨y, xs, rfl, q⟩ := id r5
        exact fin y _ H5 r5 (by rw [List.length_replicate]; omega) ((junit zS fun q hq => .inl (List.mem_replicate.mp hq).2).mono (by omega)) (((hb1.same L.1).same e5).mono (by omega)) (L.1.trans e5).x
    walk_at "st"
    have ents : ∀ (D : Addr) (qs : List Rat) (H6 : Hp), EntL K H1 b (j + 1) large n D H6 qs → rTupleU K [.ref D] H6 Q := fun D qs H6 L => by
      refine u_tupleRow L.row.row fun v' H7 e7 r7 => ?_
      obtain ⟨y, xs, rfl, _⟩ := id r7
      have z := zS.app (sz_large fun q hq => (L.en q hq).1)
      have ll := L.len
      exact fin y qs H7 r7 L.len (z.mono (by omega)) ((L.bag.same e7).mono (by omega)) (L.sm.trans e7.x)
    refine u_ite (fun h6 => ?_) (fun h6 => ?_)
    · walk_at "st"
      refine u_ite (fun h7 => ?_) (fun h7 => ?_)
      · walk_at "st"
        refine ⟨b, n, j + 1, rfl, by omega, hb1, by omega, fun at_ H2 a0 a1 hb2 e2 => ?_⟩
        obtain ⟨at_, rfl⟩ := Int.eq_ofNat_of_zero_le a0
        walk_at "st"
        refine u_rng1 (by omega) ?_
        refine lcK walk_range0 (fun D i acc H' => Ly.Loc K H2 D H' ((List.range i).map fun x => if x = at_ then 1 else 0)) (fun D hD => Loc.new hD (Same.refl H2) trivial) (fun _ _ _ _ _ _ _ => trivial) (fun D i acc x H4 H5 hD hi L y2 => ?_) (fun D acc H4 hD L => ?_)
        · obtain ⟨rfl, rfl⟩ := y2
          walk_at "st"
          refine ⟨rfl, ?_⟩
          walk_at "st"
          (refine ⟨by first | exact le_l1 _ | exact le_l2 _ _ | exact le_l3 _ _ _ | exact le_l5 _ _ _ _ _ | exact le_l0, fun t6 newQ => ?_⟩; obtain ⟨H6, eqQ, e6, q6⟩ := tup_new K newQ; rw [eqQ]; clear eqQ)
          have fr6 : Fr K H6 (.ref t6) (if i = at_ then 1 else 0) := by
            refine ⟨t6, rfl, ?_⟩
            by_cases c : i = at_
            · subst c
              rw [if_pos rfl]
              rw [decide_eq_true rfl] at q6
              exact q6
            · rw [if_neg c]
              rw [decide_eq_false (fun z => c (by omega))] at q6
              exact q6
          refine lcLoc (L.ext e6) (by rw [List.length_map, List.length_range]; omega) fr6 fun acc H7 L7 _ => ?_
          rw [map_succ]
          exact L7
        · walk_at "st"
          refine u_tupleRow L.row.row fun v' H5 e5 r5 => ?_
          obtain ⟨y, xs, rfl, q⟩ := id r5
          exact fin y _ H5 r5 (by rw [List.length_map, List.length_range]; omega) ((junit zS fun q hq => by
            obtain ⟨x, hx, rfl⟩ := List.mem_map.mp hq
            split
            · exact .inr rfl
            · exact .inl rfl).mono (by omega)) (((hb2.same L.1).same e5).mono (by omega)) (e2.trans (L.1.trans e5).x)
      · walk_at "st"
        subst h6
        refine u_ite (fun h => absurd h (by decide)) (fun _ => ?_)
        walk_at "st"
        refine u_ite (fun _ => ?_) (fun h => absurd rfl h)
        walk_at "st"
        refine u_rng1 (by omega) ?_
        refine lc_entries (K := K) (n := j + 1) (wide := n) (large := large) hb1 (by omega) (fun i H6 Q' q => ?_) (fun D qs H6 L => ?_)
        · walk_at "st"
          refine ⟨rfl, ?_⟩
          walk_at "st"
          exact q
        · walk_at "st"
          exact ents D qs H6 L
    walk_at "st"
    refine u_ite (fun h3 => ?_) (fun h3 => ?_)
    · walk_at "st"
      refine u_rng1 (by omega) ?_
      refine lc_entries (K := K) (n := j + 1) (wide := n) (large := large) hb1 (by omega) (fun i H6 Q' q => ?_) (fun D qs H6 L => ?_)
      · walk_at "st"
        refine ⟨rfl, ?_⟩
        walk_at "st"
        exact q
      · walk_at "st"
        exact ents D qs H6 L
    walk_at "st"
    refine u_ite (fun h => absurd h h6) (fun _ => ?_)
    walk_at "st"
    refine u_len (.inl (SqL.of hys)) ?_
    walk_at "st"
    refine u_ite (fun h4 => ?_) (fun h4 => ?_)
    · walk_at "st"
      refine u_rng1 (by omega) ?_
      refine lc_entries (K := K) (n := j + 1) (wide := n) (large := large) hb1 (by omega) (fun i H6 Q' q => ?_) (fun D qs H6 L => ?_)
      · walk_at "st"
        refine ⟨rfl, ?_⟩
        walk_at "st"
        exact q
      · walk_at "st"
        exact ents D qs H6 L
    walk_at "st"
    refine u_len (.inl (SqL.of hys)) ?_
    walk_at "st"
    refine ⟨b, _, j + 1, rfl, by omega, hb1, by omega, fun o H2 o0 o1 hb2 e2 => ?_⟩
    obtain ⟨o, rfl⟩ := Int.eq_ofNat_of_zero_le o0
    have hM2 := hM1.bag hb1 nb e2
    obtain ⟨ys2, hys2, fys2⟩ := hM2.rows_
    have : ys2 = ys := by
      have := e2 _ _ (hb1.ne hys fun r s c => rs_ne fys r s c) hys
      rw [hys2] at this
      cases this; rfl
    subst this
    have ho : rows[o]? = some rows[o] := List.getElem?_eq_getElem (by omega)
    have mo1 : rows[o] ∈ rows := List.getElem_mem _
    obtain ⟨vo, hvo, ro⟩ := fys2.at ho
    obtain ⟨yo, xso, rfl, ro'⟩ := id ro
    have ro : RowT K H2 (.ref yo) rows[o] := ro
    refine u_ix (.inl (SqL.of hys2)) (atI_nat hvo) ?_
    walk_at "st"
    refine u_ite (fun h7 => ?_) (fun h7 => ?_)
    · walk_at "st"
      exact fin yo _ H2 ro (hrl _ mo1) ((zS.sub fun q hq => by
        rcases List.mem_append.mp hq with z | z
        · exact .inl z
        · exact .inl (mem_flat mo1 q z)).mono (by omega)) (hb2.mono (by omega)) e2
    walk_at "st"
    refine u_ite (fun h8 => ?_) (fun h8 => ?_)
    · walk_at "st"
      refine u_len (.inl (SqL.of hys2)) ?_
      refine u_rng1 (by omega) ?_
      refine lc_draws (K := K) (P := I3) (n := j + 1 + 1) (wide := ys2.length) hb2 (by omega) (fun i m H6 Q' hb6 lm q => ?_) (fun D qs H6 L => ?_)
      · walk_at "st"
        refine ⟨rfl, ?_⟩
        walk_at "st"
        refine ⟨b, 7, m, rfl, by decide, hb6, by omega, fun d7 H7 d70 d71 hb7 e7 => ?_⟩
        walk_at "st"
        (refine ⟨by first | exact le_l1 _ | exact le_l2 _ _ | exact le_l3 _ _ _ | exact le_l5 _ _ _ _ _ | exact le_l0, fun t8 newQ => ?_⟩; obtain ⟨H8, eqQ, e8, q8⟩ := tup_new K newQ; rw [eqQ]; clear eqQ)
        exact q (.ref t8) ((d7 - 3 : Int) : Rat) H8 ⟨t8, rfl, q8⟩ ⟨d7 - 3, rfl, by omega⟩ (hb7.same e8) (e7.trans e8.x)
      · walk_at "st"
        have hM6 := hM2.bag hb2 nb L.sm
        obtain ⟨ys6, hys6, fys6⟩ := hM6.rows_
        have ll := L.len
        have zc : Sz 2 qs := sz_ints L.en
        refine ⟨_, _, qs, rows, n, 2, S, rfl, L.row.row, ⟨m1, ys6, rfl, .inl (SqL.of hys6), fys6.mono fun _ _ r => r.row⟩, by omega, by omega, by omega, hrl, zc, zS, by omega, fun y H7 e7 r7 => ?_⟩
        walk_at "st"
        exact fin y _ H7 r7 combL_len ((jcomb (k := 4) zc zS (fun r hr => mem_flat hr) (by omega)).mono (by omega)) ((L.bag.same e7).mono (by omega)) ((e2.trans L.sm).trans e7.x)
    walk_at "st"
    refine u_len (.inl (SqL.of hys2)) ?_
    walk_at "st"
    refine ⟨b, _, j + 1 + 1, rfl, by omega, hb2, by omega, fun o' H3 o0' o1' hb3 e3 => ?_⟩
    obtain ⟨o', rfl⟩ := Int.eq_ofNat_of_zero_le o0'
    have hM3 := hM2.bag hb2 nb e3
    obtain ⟨ys3, hys3, fys3⟩ := hM3.rows_
    have l3 := fys3.len
    have ho' : rows[o']? = some rows[o'] := List.getElem?_eq_getElem (by omega)
    have mo2 : rows[o'] ∈ rows := List.getElem_mem _
    obtain ⟨vo', hvo', ro2⟩ := fys3.at ho'
    obtain ⟨yo', xso', rfl, ro2'⟩ := id ro2
    have ro2 : RowT K H3 (.ref yo') rows[o'] := ro2
    have ro3 : RowT K H3 (.ref yo) rows[o] := ro.imm (hb2.imm e3)
    have e13 : SameX b H1 H3 := e2.trans e3
    have two : ∀ r ∈ [rows[o], rows[o']], ∀ q ∈ r, q ∈ rows.flatten := fun r hr q hq => by
      simp only [List.mem_cons, List.not_mem_nil, or_false] at hr
      rcases hr with rfl | rfl
      · exact mem_flat mo1 q hq
      · exact mem_flat mo2 q hq
    have z2 : Sz S [rows[o], rows[o']].flatten := zS.sub fun q hq => by
      obtain ⟨r, hr, hq⟩ := List.mem_flatten.mp hq
      exact .inl (two r hr q hq)
    have l2 : ∀ r ∈ [rows[o], rows[o']], r.length = n := fun r hr => by
      simp only [List.mem_cons, List.not_mem_nil, or_false] at hr
      rcases hr with rfl | rfl
      · exact hrl _ mo1
      · exact hrl _ mo2
    refine u_ix (.inl (SqL.of hys3)) (atI_nat hvo') ?_
    walk_at "st"
    refine u_ite (fun h9 => ?_) (fun h9 => ?_)
    · walk_at "st"
      refine ⟨b, false, j + 1 + 1 + 1, rfl, hb3, by omega, fun v4 q4 H4 f4 en4 hb4 e4 => ?_⟩
      walk_at "st"
      refine ⟨b, false, j + 1 + 1 + 1 + 1, rfl, hb4, by omega, fun v5 q5 H5 f5 en5 hb5 e5 => ?_⟩
      walk_at "st"
      (refine ⟨by first | exact le_l1 _ | exact le_l2 _ _ | exact le_l3 _ _ _ | exact le_l5 _ _ _ _ _ | exact le_l0, fun t6 n6 => ?_⟩; obtain ⟨H6, eqQ, e6, q6⟩ := lst_new K n6; rw [eqQ]; clear eqQ)
      walk_at "st"
      (refine ⟨by first | exact le_l1 _ | exact le_l2 _ _ | exact le_l3 _ _ _ | exact le_l5 _ _ _ _ _ | exact le_l0, fun t7 n7 => ?_⟩; obtain ⟨H7, eqQ, e7, q7⟩ := lst_new K n7; rw [eqQ]; clear eqQ)
      walk_at "st"
      have im35 : Imm H3 H5 := (hb3.imm e4).trans (hb4.imm e5)
      have im37 : Imm H3 H7 := (im35.trans e6.imm).trans e7.imm
      have zc : Sz 93 [q4, q5] := Sz.mono (s := 31 * ([q4, q5].length + 1)) (sz_large fun q hq => by
        simp only [List.mem_cons, List.not_mem_nil, or_false] at hq
        rcases hq with rfl | rfl
        · exact en4.1
        · exact en5.1) (Nat.le_refl 93)
      refine ⟨_, _, [q4, q5], [rows[o], rows[o']], n, 93, S, rfl, ⟨t6, _, rfl, .inl (SqL.of (e7 _ _ q6)), (f4.bag hb4 e5).same (e6.trans e7), f5.same (e6.trans e7), trivial⟩, ⟨t7, _, rfl, .inl (SqL.of q7), (ro3.imm im37).row, (ro2.imm im37).row, trivial⟩, rfl, by show 2 ≤ 1000; decide, by omega, l2, zc, z2, by omega, fun y H8 e8 r8 => ?_⟩
      walk_at "st"
      exact fin y _ H8 r8 combL_len ((jcomb (k := 1) zc zS two (by show 2 ≤ 2; decide)).mono (by omega)) ((((hb5.same e6).same e7).same e8).mono (by omega)) (((((e13.trans e4).trans e5).trans e6.x).trans e7.x).trans e8.x)
    walk_at "st"
    refine ⟨b, 7, j + 1 + 1 + 1, rfl, by decide, hb3, by omega, fun d4 H4 d40 d41 hb4 e4 => ?_⟩
    walk_at "st"
    (refine ⟨by first | exact le_l1 _ | exact le_l2 _ _ | exact le_l3 _ _ _ | exact le_l5 _ _ _ _ _ | exact le_l0, fun t5 newQ => ?_⟩; obtain ⟨H5, eqQ, e5, q5⟩ := tup_new K newQ; rw [eqQ]; clear eqQ)
    walk_at "st"
    refine ⟨b, 7, j + 1 + 1 + 1 + 1, rfl, by decide, hb4.same e5, by omega, fun d6 H6 d60 d61 hb6 e6 => ?_⟩
    walk_at "st"
    (refine ⟨by first | exact le_l1 _ | exact le_l2 _ _ | exact le_l3 _ _ _ | exact le_l5 _ _ _ _ _ | exact le_l0, fun t7 newQ => ?_⟩; obtain ⟨H7, eqQ, e7, q7⟩ := tup_new K newQ; rw [eqQ]; clear eqQ)
    walk_at "st"
    (refine ⟨by first | exact le_l1 _ | exact le_l2 _ _ | exact le_l3 _ _ _ | exact le_l5 _ _ _ _ _ | exact le_l0, fun t8 n8 => ?_⟩; obtain ⟨H8, eqQ, e8, q8⟩ := lst_new K n8; rw [eqQ]; clear eqQ)
    walk_at "st"
    (refine ⟨by first | exact le_l1 _ | exact le_l2 _ _ | exact le_l3 _ _ _ | exact le_l5 _ _ _ _ _ | exact le_l0, fun t9 n9 => ?_⟩; obtain ⟨H9, eqQ, e9, q9⟩ := lst_new K n9; rw [eqQ]; clear eqQ)
    walk_at "st"
    have hb5 := hb4.same e5
    have im39 : Imm H3 H9 := (((((hb3.imm e4).trans e5.imm).trans (hb5.imm e6)).trans e7.imm).trans e8.imm).trans e9.imm
    have zc : Sz 2 [((d4 - 3 : Int) : Rat), ((d6 - 3 : Int) : Rat)] := sz_ints fun q hq => by
      simp only [List.mem_cons, List.not_mem_nil, or_false] at hq
      rcases hq with rfl | rfl
      · exact ⟨_, rfl, by omega⟩
      · exact ⟨_, rfl, by omega⟩
    refine ⟨_, _, [((d4 - 3 : Int) : Rat), ((d6 - 3 : Int) : Rat)], [rows[o], rows[o']], n, 2, S, rfl, ⟨t8, _, rfl, .inl (SqL.of (e9 _ _ q8)), ⟨t5, rfl, (e8.trans e9).t (e7.t ((hb5.imm e6).t q5))⟩, ⟨t7, rfl, (e8.trans e9).t q7⟩, trivial⟩, ⟨t9, _, rfl, .inl (SqL.of q9), (ro3.imm im39).row, (ro2.imm im39).row, trivial⟩, rfl, by show 2 ≤ 1000; decide, by omega, l2, zc, z2, by omega, fun y H10 e10 r10 => ?_⟩
    walk_at "st"
    refine u_listRow r10.row (Same.refl _) fun D H11 L11 e11 => ?_
    walk_at "st"
    have hb11 := ((((hb6.same e7).same e8).same e9).same e10).same e11
    have n0 : 0 < n := by omega
    refine ⟨b, n, j + 1 + 1 + 1 + 1 + 1, rfl, by omega, hb11, by omega, fun at_ H12 a0 a1 hb12 e12 => ?_⟩
    obtain ⟨at_, rfl⟩ := Int.eq_ofNat_of_zero_le a0
    have L12 := L11.row.bag hb11 e12
    obtain ⟨D', xs12, hD', h12, f12⟩ := id L12
    cases hD'
    walk_at "st"
    have lc : (combL [((d4 - 3 : Int) : Rat), ((d6 - 3 : Int) : Rat)] [rows[o], rows[o']] n).length = n := combL_len
    have zj : Sz (2 + S + 1) (rows.flatten ++ combL [((d4 - 3 : Int) : Rat), ((d6 - 3 : Int) : Rat)] [rows[o], rows[o']] n) := jcomb (k := 1) zc zS two (by show 2 ≤ 2; decide)
    generalize combL [((d4 - 3 : Int) : Rat), ((d6 - 3 : Int) : Rat)] [rows[o], rows[o']] n = cm at *
    refine u_at (i := at_) (.inl (SqL.of h12)) f12 rfl (by omega) fun z13 hz13 => ?_
    walk_at "st"
    intro z14 H14 e14 f14
    walk_at "st"
    have zr : Sz (2 + S + 1) cm := zj.right
    refine ⟨_, _, _, _, 2 + S + 1, rfl, ⟨z13, rfl, e14.t hz13⟩, ⟨z14, rfl, f14 K⟩, (zr.bqL (by omega)).cf (by omega) _, Bq.one (by omega), by omega, fun v15 H15 e15 f15 => ?_⟩
    walk_at "st"
    have e1415 := e14.trans e15
    refine u_setRowL (i := at_) (e1415 _ _ h12) (f12.same e1415) (by omega) rfl f15 fun H16 r16 x16 i16 => ?_
    walk_at "st"
    refine u_tupleRow r16.row fun v' H17 e17 r17 => ?_
    obtain ⟨y', xs17, rfl, q17⟩ := id r17
    have e310 : SameX b H1 H10 := (((((((e13.trans e4).trans e5.x).trans e6).trans e7.x).trans e8.x).trans e9.x)).trans e10.x
    have hb10 := ((((hb6.same e7).same e8).same e9).same e10)
    have nDb : D ≠ b := fun z => by
      obtain ⟨r, s, c, q1, _⟩ := hb10
      rw [← z, L11.2.1] at q1
      cases q1
    have nD : H1 D = none := by
      cases hh : H1 D with
      | none => rfl
      | some o =>
        have := e310 D o nDb hh
        rw [L11.2.1] at this
        cases this
    have hb15 := hb12.same e1415
    have hb16 : BagAt H16 b (j + 1 + 1 + 1 + 1 + 1 + 1) := by
      obtain ⟨r, s, c, q1, q2⟩ := hb15
      exact ⟨r, s, c, x16 _ _ (Ne.symm nDb) q1, q2⟩
    have e115 : SameX b H1 H15 := ((e310.trans e11.x).trans e12).trans e1415.x
    have e117 : SameX b H1 H17 := fun a o na ho => e17 a o (x16 a o (ne_of_none ho nD) (e115 a o na ho))
    exact fin y' _ H17 r17 (by rw [List.length_set]; exact lc) ((jmore zj (by omega)).mono (by omega)) ((hb16.same e17).mono (by omega)) e117
end
end K01

set_option maxHeartbeats 4000000
namespace K01
open PySem PySem.Spec PyProof.Rows L2 Ly


section
variable {w : World} {K : PySem.W.Frag} {mg : Str → Option Value} {base : Heap}
theorem u_neBB {H : Hp} {Q : VK} {i : Bool} (h : Q (.bl false) H) : rNeU K (.bl i) (.bl i) H Q := .inl ⟨rfl, by rw [decide_eq_true rfl]; exact h⟩
theorem StpT.more {M : List Addr} {H H1 : Hp} {g : Addr} {v : V} {l : Ln} (h : StpT M K H v l) (e : Same H H1) (hn : H g = none) : StpT (g :: M) K H1 v l := by
  obtain ⟨s, t, us, rfl, h1, h2, h3, h4, h5⟩ := h
  refine ⟨s, t, us, rfl, e _ _ h1, e _ _ h2, h3.same e, fun z => ?_, fun z => ?_⟩
  · rcases List.mem_cons.mp z with z | z
    · rw [z, hn] at h1; cases h1
    · exact h4 z
  · rcases List.mem_cons.mp z with z | z
    · rw [z, hn] at h2; cases h2
    · exact h5 z
theorem MdOk.more {M : List Addr} {H H1 : Hp} {g mo m1 m2 : Addr} {n : Nat} {rows : List (List Rat)} {ls : List Ln} (h : MdOk M K H mo m1 m2 n rows ls) (e : Same H H1) (hn : H g = none) (hl : ∃ xs, H1 g = some (.lst xs)) : MdOk (g :: M) K H1 mo m1 m2 n rows ls := by
  obtain ⟨a1, a2, a3, a4, a5, ⟨ys, a6, a7⟩, ⟨zs, a8, a9⟩, a10⟩ := h
  refine ⟨e _ _ a1, fun z => ?_, List.mem_cons_of_mem _ a3, List.mem_cons_of_mem _ a4, a5, ⟨ys, e _ _ a6, a7.mono fun _ _ q => q.same e⟩, ⟨zs, e _ _ a8, a9.mono fun _ _ q => StpT.more q e hn⟩, fun m hm => ?_⟩
  · rcases List.mem_cons.mp z with z | z
    · rw [z, hn] at a1; cases a1
    · exact a2 z
  · rcases List.mem_cons.mp hm with z | z
    · rw [z]; exact hl
    · exact (a10.same e) m z
theorem MdOk.less {M M' : List Addr} {H : Hp} {mo m1 m2 : Addr} {n : Nat} {rows : List (List Rat)} {ls : List Ln} (h : MdOk M' K H mo m1 m2 n rows ls) (sub : ∀ m ∈ M, m ∈ M') (i1 : m1 ∈ M) (i2 : m2 ∈ M) : MdOk M K H mo m1 m2 n rows ls := by
  obtain ⟨a1, a2, a3, a4, a5, a6, ⟨zs, a8, a9⟩, a10⟩ := h
  refine ⟨a1, fun z => a2 (sub _ z), i1, i2, a5, a6, ⟨zs, a8, a9.mono fun v l q => ?_⟩, fun m hm => a10 m (sub m hm)⟩
  obtain ⟨s, t, us, e, h1, h2, h3, h4, h5⟩ := q
  exact ⟨s, t, us, e, h1, h2, h3, fun z => h4 (sub _ z), fun z => h5 (sub _ z)⟩
theorem RowK.immI {t : Bool} {H H' : Hp} {b C dx : Addr} {fs : List (Str × V)} {v : V} {p : List Rat} (h : RowK t K H v p) (e : SameX b H H') (hb : H b = some (.ins C dx fs)) : RowK t K H' v p := by
  cases t with
  | true => exact RowT.imm h (e.immI hb)
  | false =>
    obtain ⟨a, xs, rfl, h1, h2⟩ := (show RowL K H v p from h)
    refine ⟨a, xs, rfl, e _ _ (fun z => ?_) h1, h2.imm (e.immI hb)⟩
    rw [z, hb] at h1
    cases h1
theorem flat_snoc {rows : List (List Rat)} {p : List Rat} : (rows ++ [p]).flatten = rows.flatten ++ p := by simp
def sp_added (T : Tx K mg) : Sp := fun vs H Q _ => ∃ (M : List Addr) (b : Addr) (j : Nat) (a mo m1 m2 y : Addr) (t : Bool) (n S : Nat) (rows : List (List Rat)) (ls : List Ln) (p : List Rat), vs = [.ref b, .ref a, .ref mo, .ref y, .bl t] ∧ BagAt H b j ∧ b ∉ M ∧ j ≤ 10000 ∧ BsOk T H a n rows ls ∧ MdOk M K H mo m1 m2 n rows ls ∧
  RowT K H (.ref y) p ∧ p.length = n ∧ Sz S (rows.flatten ++ p) ∧ S ≤ 9299 ∧
  ∀ H' rows' ls', Imm H H' → SameS [b, a, m1, m2] H H' → BagAt H' b (j + 2) → BsOk T H' a n rows' ls' → MdOk M K H' mo m1 m2 n rows' ls' → Sz S rows'.flatten → Q (.bl true) H'
theorem ok__law_added_right (T : Tx K mg) (hseer : base.NoSeer) : FnOk PP w K mg base CX0 44 T.a__law_added_right T.d__law_added_right ["bag", "basis", "model", "row", "as_list"] (sp_added T) := by
  refine T.F__law_added_right.ok sc__law_added_right (fun vs H Q E h => ?_) (fun cdv A outer s H vs Q E hr h => ?_)
  · obtain ⟨_, _, _, _, _, _, _, _, _, _, _, _, _, _, rfl, _⟩ := h; rfl
  · obtain ⟨M, b, j, a, mo, m1, m2, y, t, n, S, rows, ls, p, rfl, hb, nb, lj, hB, hM, hyT, hp, zS, lS, k⟩ := h
    have zp : Sz (W0 - 1) p := zS.right.mono (by show S ≤ 9299; omega)
    have hB' := hB
    obtain ⟨r, l, xr, xl, ⟨dx, ha⟩, -, -, -, -, B, n12⟩ := hB'
    obtain ⟨y', xsy, hyy, hy, fy⟩ := id hyT
    cases hyy
    have ly := fy.len
    refine ⟨_, (pss_cons (ps_set (i := 5) (sc__law_added_right).nd rfl (by first | exact Or.inl rfl | exact Or.inr rfl) (pe_call (ok__law_given T hseer) (hr.mono (by decide)) rfl T.g__law_given T.k__law_given T.b__law_given .nil pass0 (pa_cons (pv 3) (pa_cons (pv 4) pa_nil))))
  (pss_cons (ps_set (i := 6) (sc__law_added_right).nd rfl (by first | exact Or.inl rfl | exact Or.inr rfl) (pe_call (ok__law_asked T hseer) (hr.mono (by decide)) rfl T.g__law_asked T.k__law_asked T.b__law_asked .nil pass0 (pa_cons (pv 1) (pa_cons (pv 5) (pa_cons pe_int pa_nil)))))
  (pss_cons (ps_if (PW.pt (pw_or (pt_cmpR (op_neU hr.units) (pe_ix ix_seq (pv 6) pe_int (fun _ _ => rfl)) pe_str (nomark _)) (pw_or1 (pt_cmpR (op_neU hr.units) (pv 5) (pe_call (ok__law_given T hseer) (hr.mono (by decide)) rfl T.g__law_given T.k__law_given T.b__law_given .nil pass0 (pa_cons (pv 3) (pa_cons (pv 4) pa_nil))) (nomark _)))))
   (pss_one (ps_ret pe_bl))
   pss_nil)
  (pss_cons (ps_set (i := 7) (sc__law_added_right).nd rfl (by first | exact Or.inl rfl | exact Or.inr rfl) (pe_call (ok__law_entered T hseer) (hr.mono (by decide)) rfl T.g__law_entered T.k__law_entered T.b__law_entered .nil pass0 (pa_cons (pv 2) (pa_cons (pv 3) pa_nil))))
  (pss_cons (ps_if (PW.pt (pw_or (pt_not (pt_truthU (pe_callB call_isi (by rfl) T.n_isinstance (by decide +kernel) (pa_cons (pe_ix ix_seq (pv 6) pe_int (fun _ _ => rfl)) (pa_cons (pe_bltn (v := V.ty "bool") (by rfl) T.n_bool (by decide +kernel) rfl) pa_nil))) (fun _ => rfl))) (pw_or1 (pt_cmpR (op_neU hr.units) (pe_ix ix_seq (pv 6) pe_int (fun _ _ => rfl)) (pv 7) (nomark _)))))
   (pss_one (ps_ret pe_bl))
   pss_nil)
  (Evl.pss_cut (ps_if (PW.pt (pw_and (pt_truthU (pv 4) (fun _ => rfl)) (pw_and1 (pt_cmpR op_gt (pe_callB call_lenU (by rfl) T.n_len (by decide +kernel) (pa_cons (pv 3) pa_nil)) pe_int (nomark _)))))
   (pss_one (ps_asg (pe_tup (pa_cons pe_int (pa_cons pe_int pa_nil))) (pg_sub (pv 5) pe_int set_list)))
   pss_nil)
  (pss_cons (ps_if (pt_cmpR (op_eqU hr.units) (pe_call (ok__law_draw T hseer) (hr.mono (by decide)) rfl T.g__law_draw T.k__law_draw T.b__law_draw .nil pass0 (pa_cons (pv 0) (pa_cons pe_int pa_nil))) pe_int (nomark _))
   (pss_one (ps_ret (pe_call (ok__law_asked_right T hseer) (hr.mono (by decide)) rfl T.g__law_asked_right T.k__law_asked_right T.b__law_asked_right .nil pass0 (pa_cons (pv 1) (pa_cons (pv 2) (pa_cons (pv 3) (pa_cons (pe_op op_addU pe_int (pe_call (ok__law_draw T hseer) (hr.mono (by decide)) rfl T.g__law_draw T.k__law_draw T.b__law_draw .nil pass0 (pa_cons (pv 0) (pa_cons pe_int pa_nil)))) (pa_cons (pe_not (pv 4)) pa_nil))))))))
   pss_nil)
  (pss_one (ps_ret pe_bl))))))))), ?_⟩
    walk_at "go"
    refine ⟨.ref y, t, p, rfl, hyT.row, fun yg H1 e1 r1 hn1 => ?_⟩
    walk_at "st"
    have hB1 := hB.same e1.imm fun o q => e1 _ _ q
    have ha1 := e1 _ _ ha
    obtain ⟨M', sub, inM, hM1⟩ : ∃ M', (∀ m ∈ M, m ∈ M') ∧ (t = true → yg ∈ M') ∧ MdOk M' K H1 mo m1 m2 n rows ls := by
      cases t with
      | true =>
        obtain ⟨_, xs, q0, q1, _⟩ := (show RowL K H1 (.ref yg) p from r1)
        cases q0
        exact ⟨yg :: M, fun m hm => List.mem_cons_of_mem _ hm, fun _ => List.mem_cons_self, hM.more e1 (hn1 rfl) ⟨xs, q1⟩⟩
      | false => exact ⟨M, fun _ h => h, (fun z => nomatch z), hM.same e1⟩
    refine ⟨a, _, 0, n, rows, ls, p, rfl, hB1, r1.row, by omega, fun hne => absurd hp hne, fun _ => ⟨zp, fun _ => ⟨fun h0 t2 H2 e2 ht => ?_, fun i hi h0 h1 t2 H2 x2 hB2 ht => ?_⟩, fun z => absurd z (by decide), fun z => absurd rfl z⟩⟩
    · walk_at "st"
      refine u_ix (k := ((0 : Nat) : Int)) (.inr ht) (atI_nat (j := 0) rfl) ?_
      walk_at "st"
      refine u_neSS ?_
      walk_at "st"
      refine ⟨.ref y, t, p, rfl, (hyT.same (e1.trans e2)).row, fun y3 H3 e3 r3 _ => ?_⟩
      walk_at "st"
      refine u_neRowK ((r1.same e2).same e3) r3 ?_
      walk_at "st"
      have e13 := (e1.trans e2).trans e3
      refine ⟨M', mo, m1, m2, y, n, rows, ls, p, rfl, (hM1.same e2).same e3, B, n12, hyT.same e13, hp, zp, fun _ H4 e4 => ?_, fun i' hi' h0' => absurd (h0 i') h0'⟩
      have cI : Imm H H4 := (e13.trans e4).imm
      have cS : SameS [b, a, m1, m2] H H4 := (e13.trans e4).s
      have cb : BagAt H4 b j := hb.same (e13.trans e4)
      have cB : BsOk T H4 a n rows ls := hB.same cI fun o q => (e13.trans e4) _ _ q
      have cM : MdOk M' K H4 mo m1 m2 n rows ls := ((hM1.same e2).same e3).same e4
      have cG : t = true → RowL K H4 (.ref yg) p := fun z => by
        subst z
        exact ((r1.same e2).same e3).same e4
      have cz : Sz S rows.flatten := zS.left
      have ht4 := (e3.trans e4).t ht
      obtain ⟨rows', hrows⟩ : ∃ r, rows = r := ⟨_, rfl⟩
      obtain ⟨ls', hls⟩ : ∃ r, ls = r := ⟨_, rfl⟩
      rw [hrows] at cB cM cz
      rw [hls] at cB cM
      walk_at "st"
      refine u_ix (k := ((1 : Nat) : Int)) (.inr ht4) (atI_nat (j := 1) rfl) ?_
      walk_at "st"
      refine u_isBB ?_
      walk_at "st"
      refine u_ix (k := ((1 : Nat) : Int)) (.inr ht4) (atI_nat (j := 1) rfl) ?_
      walk_at "st"
      refine u_neBB ?_
      walk_at "st"
      refine u_cutC (fun σ' H' => (∃ fr, σ' = [some (.ref b), some (.ref a), some (.ref mo), some (.ref y), some (.bl t), some (.ref yg), some (.ref t2), some (.bl fr)]) ∧ Imm H H' ∧ SameS [b, a, m1, m2] H H' ∧ BagAt H' b j ∧ BsOk T H' a n rows' ls' ∧ MdOk M K H' mo m1 m2 n rows' ls') ?_ ?_
      · walk_at "st"
        refine u_iteB (fun h => ?_) (fun h => ?_)
        · subst h
          walk_at "st"
          refine u_len (.inr (cI.t hy)) ?_
          walk_at "st"
          refine u_ite (fun h => ?_) (fun h => ?_)
          · walk_at "st"
            (refine ⟨by first | exact le_l1 _ | exact le_l2 _ _ | exact le_l3 _ _ _ | exact le_l5 _ _ _ _ _ | exact le_l0, fun t5 newQ => ?_⟩; obtain ⟨H5, eqQ, e5, q5⟩ := tup_new K newQ; rw [eqQ]; clear eqQ)
            walk_at "st"
            obtain ⟨yg', xsg, hyg', hg4, fg4⟩ := (show RowL K H4 (.ref yg) p from cG rfl)
            cases hyg'
            have ng := hn1 rfl
            refine u_setRowL (i := 0) (q := Rat.divInt 5 3) (e5 _ _ hg4) (fg4.same e5) (by omega) rfl ⟨t5, rfl, by rw [show FrT (Rat.divInt 5 3) = [.int 5, .int 3] by decide +kernel]; exact q5⟩ fun H6 r6 x6 i6 => ?_
            walk_at "st"
            have nby : b ≠ yg := fun z => by
              obtain ⟨r, s, c, q1, _⟩ := hb
              rw [z, ng] at q1
              cases q1
            have nay : a ≠ yg := fun z => by
              rw [z, ng] at ha
              cases ha
            have nm1 : ∀ m ∈ M, m ≠ yg := fun m hm z => by
              obtain ⟨xs, q⟩ := hM.liv m hm
              rw [z, ng] at q
              cases q
            refine ⟨⟨_, rfl⟩, (cI.trans e5.imm).trans i6, fun x o nx hx => x6 x o (fun z => by rw [z, ng] at hx; cases hx) (e5 _ _ (cS x o nx hx)), ?_, (cB.same e5.imm fun o q => e5 _ _ q).same i6 fun o q => x6 _ _ nay q, ?_⟩
            · obtain ⟨r, s, c, q1, q2⟩ := cb.same e5
              exact ⟨r, s, c, x6 _ _ nby q1, q2⟩
            · refine MdOk.less ((cM.same e5).keep i6 (fun s o hs _ _ q => x6 s o (fun z => ?_) hs) fun m hm => ?_) sub hM.i1 hM.i2
              · rcases q with q | q | q
                · exact q (z ▸ inM rfl)
                · exact nm1 _ hM.i1 (q.symm.trans z)
                · exact nm1 _ hM.i2 (q.symm.trans z)
              · by_cases z : m = yg
                · obtain ⟨_, xs, q0, q, _⟩ := r6
                  cases q0
                  exact ⟨xs, z ▸ q⟩
                · obtain ⟨xs, q⟩ := (cM.same e5).liv m hm
                  exact ⟨xs, x6 _ _ z q⟩
          · walk_at "st"
            exact ⟨⟨_, rfl⟩, cI, cS, cb, cB, MdOk.less cM sub hM.i1 hM.i2⟩
        · walk_at "st"
          exact ⟨⟨_, rfl⟩, cI, cS, cb, cB, MdOk.less cM sub hM.i1 hM.i2⟩
      rintro σ' H7 ⟨⟨fr, rfl⟩, dI, dS, db, dB, dM⟩
      walk_at "st"
      refine ⟨b, 3, j, rfl, by decide, db, by omega, fun d H8 d0 d1 hb8 e8 => ?_⟩
      have dI8 := dI.trans (db.imm e8)
      have dS8 := dS.trans (SameX_s e8 (by simp))
      have dB8 := dB.same (db.imm e8) fun o q => e8 _ _ (db.ne q fun _ _ _ z => by obtain ⟨_, _, _, _, ⟨_, w1⟩, _⟩ := dB; rw [w1] at q; cases q; cases z) q
      have dM8 := dM.bag db nb e8
      walk_at "st"
      refine u_ite (fun h => ?_) (fun h => ?_)
      · walk_at "st"
        refine ⟨b, 2, j + 1, rfl, by decide, hb8, by omega, fun d' H9 d0' d1' hb9 e9 => ?_⟩
        have dI9 := dI8.trans (hb8.imm e9)
        have dS9 := dS8.trans (SameX_s e9 (by simp))
        have dB9 := dB8.same (hb8.imm e9) fun o q => e9 _ _ (hb8.ne q fun _ _ _ z => by obtain ⟨_, _, _, _, ⟨_, w1⟩, _⟩ := dB8; rw [w1] at q; cases q; cases z) q
        have dM9 := dM8.bag hb8 nb e9
        walk_at "st"
        refine ⟨M, a, mo, m1, m2, .ref y, 1 + d', !t, n, S, rows', ls', p, rfl, dB9, dM9, (hyT.imm dI9).row, hp, zp, cz, by omega, by omega, fun H10 e10 => ?_⟩
        exact k H10 rows' ls' (dI9.trans e10.imm) (dS9.trans e10.s) (hb9.same e10) (dB9.same e10.imm fun o q => e10 _ _ q) (dM9.same e10) cz
      · walk_at "st"
        exact k H8 rows' ls' dI8 dS8 (hb8.mono (by omega)) dB8 dM8 cz
    · walk_at "st"
      refine u_ix (k := ((0 : Nat) : Int)) (.inr ht) (atI_nat (j := 0) rfl) ?_
      walk_at "st"
      refine u_neSS ?_
      walk_at "st"
      have i2 := x2.immI ha1
      refine ⟨.ref y, t, p, rfl, ((hyT.same e1).imm i2).row, fun y3 H3 e3 r3 _ => ?_⟩
      walk_at "st"
      refine u_neRowK (((RowK.immI r1 x2 ha1)).same e3) r3 ?_
      walk_at "st"
      have hM3 := (hM1.ins ha1 x2).same e3
      refine ⟨M', mo, m1, m2, y, n, rows, ls, p, rfl, hM3, B, n12, ((hyT.same e1).imm i2).same e3, hp, zp, fun h0' H4 e4 => absurd (h0' i) h0, fun i' hi' h0' h1' H4 i4 s4 hM4 => ?_⟩
      have ei : i' = i := by
        rcases Nat.lt_trichotomy i' i with c | c | c
        · exact absurd (h1 i' c) h0'
        · exact c
        · exact absurd (h1' i c) h0
      subst ei
      have ha3 : ∃ dx3 fs3, H3 a = some (.ins T.a_Basis dx3 fs3) := by
        obtain ⟨_, _, _, _, ⟨dx2, q⟩, _⟩ := hB2
        exact ⟨_, _, e3 _ _ q⟩
      obtain ⟨dx3, fs3, ha3⟩ := ha3
      have nal : ∀ {m : Addr}, m ∈ M → a ≠ m := fun {m} hm z => by
        obtain ⟨xs, q⟩ := hM.liv m hm
        rw [← z, ha] at q
        cases q
      have cI : Imm H H4 := ((e1.imm.trans i2).trans e3.imm).trans i4
      have cS : SameS [b, a, m1, m2] H H4 := ((e1.s.trans (SameX_s x2 (by simp))).trans e3.s).trans (s4.sub fun x hx => by
        simp only [List.mem_cons, List.not_mem_nil, or_false] at hx ⊢
        rcases hx with q | q
        · exact .inr (.inr (.inl q))
        · exact .inr (.inr (.inr q)))
      have keepB : ∀ o, H3 b = some o → H4 b = some o := fun o q => s4 _ _ (by
        simp only [List.mem_cons, List.not_mem_nil, or_false, not_or]
        exact ⟨fun z => nb (z ▸ hM.i1), fun z => nb (z ▸ hM.i2)⟩) q
      have cb : BagAt H4 b j := by
        obtain ⟨r, s, c, q1, q2⟩ := hb
        refine ⟨r, s, c, keepB _ (e3 _ _ (x2 _ _ (fun z => ?_) (e1 _ _ q1))), q2⟩
        rw [z, ha] at q1
        cases q1
      have cB : BsOk T H4 a n (rows ++ [p]) (ls ++ [newLn ls p rows.length i']) := (hB2.same e3.imm fun o q => e3 _ _ q).same i4 fun o q => s4 _ _ (by
        simp only [List.mem_cons, List.not_mem_nil, or_false, not_or]
        exact ⟨nal hM.i1, nal hM.i2⟩) q
      have cM : MdOk M' K H4 mo m1 m2 n (rows ++ [p]) (ls ++ [newLn ls p rows.length i']) := hM4
      have cG : t = true → RowL K H4 (.ref yg) p := fun z => by
        subst z
        obtain ⟨_, xs, q0, q1, q2⟩ := (show RowL K H3 (.ref yg) p from (RowK.immI r1 x2 ha1).same e3)
        cases q0
        have ng := hn1 rfl
        refine ⟨yg, xs, rfl, s4 _ _ ?_ q1, q2.imm i4⟩
        simp only [List.mem_cons, List.not_mem_nil, or_false, not_or]
        refine ⟨fun z => ?_, fun z => ?_⟩
        · obtain ⟨ys, q⟩ := hM.liv m1 hM.i1
          rw [← z, ng] at q
          cases q
        · obtain ⟨ys, q⟩ := hM.liv m2 hM.i2
          rw [← z, ng] at q
          cases q
      have cz : Sz S (rows ++ [p]).flatten := by rw [flat_snoc]; exact zS
      have ht4 := i4.t (e3.t ht)
      generalize rows ++ [p] = rows' at *
      generalize ls ++ [newLn ls p rows.length i'] = ls' at *
      walk_at "st"
      refine u_ix (k := ((1 : Nat) : Int)) (.inr ht4) (atI_nat (j := 1) rfl) ?_
      walk_at "st"
      refine u_isBB ?_
      walk_at "st"
      refine u_ix (k := ((1 : Nat) : Int)) (.inr ht4) (atI_nat (j := 1) rfl) ?_
      walk_at "st"
      refine u_neBB ?_
      walk_at "st"
      refine u_cutC (fun σ' H' => (∃ fr, σ' = [some (.ref b), some (.ref a), some (.ref mo), some (.ref y), some (.bl t), some (.ref yg), some (.ref t2), some (.bl fr)]) ∧ Imm H H' ∧ SameS [b, a, m1, m2] H H' ∧ BagAt H' b j ∧ BsOk T H' a n rows' ls' ∧ MdOk M K H' mo m1 m2 n rows' ls') ?_ ?_
      · walk_at "st"
        refine u_iteB (fun h => ?_) (fun h => ?_)
        · subst h
          walk_at "st"
          refine u_len (.inr (cI.t hy)) ?_
          walk_at "st"
          refine u_ite (fun h => ?_) (fun h => ?_)
          · walk_at "st"
            (refine ⟨by first | exact le_l1 _ | exact le_l2 _ _ | exact le_l3 _ _ _ | exact le_l5 _ _ _ _ _ | exact le_l0, fun t5 newQ => ?_⟩; obtain ⟨H5, eqQ, e5, q5⟩ := tup_new K newQ; rw [eqQ]; clear eqQ)
            walk_at "st"
            obtain ⟨yg', xsg, hyg', hg4, fg4⟩ := (show RowL K H4 (.ref yg) p from cG rfl)
            cases hyg'
            have ng := hn1 rfl
            refine u_setRowL (i := 0) (q := Rat.divInt 5 3) (e5 _ _ hg4) (fg4.same e5) (by omega) rfl ⟨t5, rfl, by rw [show FrT (Rat.divInt 5 3) = [.int 5, .int 3] by decide +kernel]; exact q5⟩ fun H6 r6 x6 i6 => ?_
            walk_at "st"
            have nby : b ≠ yg := fun z => by
              obtain ⟨r, s, c, q1, _⟩ := hb
              rw [z, ng] at q1
              cases q1
            have nay : a ≠ yg := fun z => by
              rw [z, ng] at ha
              cases ha
            have nm1 : ∀ m ∈ M, m ≠ yg := fun m hm z => by
              obtain ⟨xs, q⟩ := hM.liv m hm
              rw [z, ng] at q
              cases q
            refine ⟨⟨_, rfl⟩, (cI.trans e5.imm).trans i6, fun x o nx hx => x6 x o (fun z => by rw [z, ng] at hx; cases hx) (e5 _ _ (cS x o nx hx)), ?_, (cB.same e5.imm fun o q => e5 _ _ q).same i6 fun o q => x6 _ _ nay q, ?_⟩
            · obtain ⟨r, s, c, q1, q2⟩ := cb.same e5
              exact ⟨r, s, c, x6 _ _ nby q1, q2⟩
            · refine MdOk.less ((cM.same e5).keep i6 (fun s o hs _ _ q => x6 s o (fun z => ?_) hs) fun m hm => ?_) sub hM.i1 hM.i2
              · rcases q with q | q | q
                · exact q (z ▸ inM rfl)
                · exact nm1 _ hM.i1 (q.symm.trans z)
                · exact nm1 _ hM.i2 (q.symm.trans z)
              · by_cases z : m = yg
                · obtain ⟨_, xs, q0, q, _⟩ := r6
                  cases q0
                  exact ⟨xs, z ▸ q⟩
                · obtain ⟨xs, q⟩ := (cM.same e5).liv m hm
                  exact ⟨xs, x6 _ _ z q⟩
          · walk_at "st"
            exact ⟨⟨_, rfl⟩, cI, cS, cb, cB, MdOk.less cM sub hM.i1 hM.i2⟩
        · walk_at "st"
          exact ⟨⟨_, rfl⟩, cI, cS, cb, cB, MdOk.less cM sub hM.i1 hM.i2⟩
      rintro σ' H7 ⟨⟨fr, rfl⟩, dI, dS, db, dB, dM⟩
      walk_at "st"
      refine ⟨b, 3, j, rfl, by decide, db, by omega, fun d H8 d0 d1 hb8 e8 => ?_⟩
      have dI8 := dI.trans (db.imm e8)
      have dS8 := dS.trans (SameX_s e8 (by simp))
      have dB8 := dB.same (db.imm e8) fun o q => e8 _ _ (db.ne q fun _ _ _ z => by obtain ⟨_, _, _, _, ⟨_, w1⟩, _⟩ := dB; rw [w1] at q; cases q; cases z) q
      have dM8 := dM.bag db nb e8
      walk_at "st"
      refine u_ite (fun h => ?_) (fun h => ?_)
      · walk_at "st"
        refine ⟨b, 2, j + 1, rfl, by decide, hb8, by omega, fun d' H9 d0' d1' hb9 e9 => ?_⟩
        have dI9 := dI8.trans (hb8.imm e9)
        have dS9 := dS8.trans (SameX_s e9 (by simp))
        have dB9 := dB8.same (hb8.imm e9) fun o q => e9 _ _ (hb8.ne q fun _ _ _ z => by obtain ⟨_, _, _, _, ⟨_, w1⟩, _⟩ := dB8; rw [w1] at q; cases q; cases z) q
        have dM9 := dM8.bag hb8 nb e9
        walk_at "st"
        refine ⟨M, a, mo, m1, m2, .ref y, 1 + d', !t, n, S, rows', ls', p, rfl, dB9, dM9, (hyT.imm dI9).row, hp, zp, cz, by omega, by omega, fun H10 e10 => ?_⟩
        exact k H10 rows' ls' (dI9.trans e10.imm) (dS9.trans e10.s) (hb9.same e10) (dB9.same e10.imm fun o q => e10 _ _ q) (dM9.same e10) cz
      · walk_at "st"
        exact k H8 rows' ls' dI8 dS8 (hb8.mono (by omega)) dB8 dM8 cz
end
end K01

set_option maxHeartbeats 4000000
namespace K01
open PySem PySem.Spec PyProof.Rows L2 Ly


section
variable {w : World} {K : PySem.W.Frag} {mg : Str → Option Value} {base : Heap}
/-- ("width", want, got, True, False) -/
def WdT (K : PySem.W.Frag) (H : Hp) (v : V) (n m : Int) : Prop := ∃ t, v = .ref t ∧ SqT K H t [.str "width", .int n, .int m, .bl true, .bl false]
def wdD (n m : Int) : PyData := .tuple [.str "width", .int n, .int m, .bool true, .bool false]
theorem WdT.dp {H : Hp} {v : V} {n m : Int} (h : WdT K H v n m) : Dp K H v (wdD n m) := by
  obtain ⟨t, rfl, h⟩ := h
  exact .tup h (.cons (.str _) (.cons (.int _) (.cons (.int _) (.cons (.bl _) (.cons (.bl _) .nil)))))
theorem wdD_refl (n m : Int) : PyData.eqv (wdD n m) (wdD n m) = true := by simp [wdD, PyData.eqv, PyData.eqvAll]
theorem wdD_shaped (n m : Int) : SeqAt.shaped (wdD n m) = true := by simp [wdD, SeqAt.shaped, PyData.canLay0, PyData.canLayAll0, PyData.depth, PyData.depthAll]; decide +kernel
theorem u_eqWd {H : Hp} {Q : VK} {v u : V} {n m : Int} (h1 : WdT K H v n m) (h2 : WdT K H u n m) (k : Q (.bl true) H) : rEqU K v u H Q := .inr ⟨_, _, h1.dp, h2.dp, wdD_shaped n m, wdD_shaped n m, by rw [wdD_refl]; exact k⟩
theorem u_neWd {H : Hp} {Q : VK} {v u : V} {n m : Int} (h1 : WdT K H v n m) (h2 : WdT K H u n m) (k : Q (.bl false) H) : rNeU K v u H Q := .inr ⟨_, _, h1.dp, h2.dp, wdD_shaped n m, wdD_shaped n m, by rw [wdD_refl]; exact k⟩
theorem BsOk.bag {T : Tx K mg} {H H' : Hp} {a b : Addr} {n j : Nat} {rows : List (List Rat)} {ls : List Ln} (h : BsOk T H a n rows ls) (hb : BagAt H b j) (e : SameX b H H') : BsOk T H' a n rows ls := h.same (hb.imm e) fun o q => e _ _ (hb.ne q fun _ _ _ z => by obtain ⟨_, _, _, _, ⟨_, w1⟩, _⟩ := h; rw [w1] at q; cases q; cases z) q
def sp_wrong (T : Tx K mg) : Sp := fun vs H Q _ => ∃ (M : List Addr) (b a mo m1 m2 : Addr) (j : Nat) (large : Bool) (n : Nat) (rows : List (List Rat)) (ls : List Ln), vs = [.ref b, .ref a, .ref mo, .bl large] ∧ BagAt H b j ∧ b ∉ M ∧ j ≤ 10000 ∧ BsOk T H a n rows ls ∧ MdOk M K H mo m1 m2 n rows ls ∧
  ∀ H', BagAt H' b (j + 40) → SameX b H H' → Q (.bl true) H'
theorem ok__law_wrong_right (T : Tx K mg) (hseer : base.NoSeer) : FnOk PP w K mg base CX0 43 T.a__law_wrong_right T.d__law_wrong_right ["bag", "basis", "model", "large"] (sp_wrong T) := by
  refine T.F__law_wrong_right.ok sc__law_wrong_right (fun vs H Q E h => ?_) (fun cdv A outer s H vs Q E hr h => ?_)
  · obtain ⟨_, _, _, _, _, _, _, _, _, _, _, rfl, _⟩ := h; rfl
  · obtain ⟨M, b, a, mo, m1, m2, j, large, n, rows, ls, rfl, hb, nb, lj, hB, hM, k⟩ := h
    have hB' := hB
    obtain ⟨_, _, _, _, -, -, -, -, -, -, n12⟩ := hB'
    refine ⟨_, (pss_cons (ps_set (i := 4) (sc__law_wrong_right).nd rfl (by first | exact Or.inl rfl | exact Or.inr rfl) (pe_op op_addU pe_int (pe_call (ok__law_draw T hseer) (hr.mono (by decide)) rfl T.g__law_draw T.k__law_draw T.b__law_draw .nil pass0 (pa_cons (pv 0) (pa_cons pe_int pa_nil)))))
  (pss_cons (ps_set (i := 5) (sc__law_wrong_right).nd rfl (by first | exact Or.inl rfl | exact Or.inr rfl) (pe_op op_addU (pe_ix ix_seq (pv 2) pe_int (fun _ _ => rfl)) (pv 4)))
  (Evl.pss_cut (ps_if (PW.pt (pw_and (pt_cmpR op_ge (pe_ix ix_seq (pv 2) pe_int (fun _ _ => rfl)) (pv 4) (nomark _)) (pw_and1 (pt_cmpR (op_eqU hr.units) (pe_call (ok__law_draw T hseer) (hr.mono (by decide)) rfl T.g__law_draw T.k__law_draw T.b__law_draw .nil pass0 (pa_cons (pv 0) (pa_cons pe_int pa_nil))) pe_int (nomark _)))))
   (pss_one (ps_set (i := 5) (sc__law_wrong_right).nd rfl (by first | exact Or.inl rfl | exact Or.inr rfl) (pe_op op_sub (pe_ix ix_seq (pv 2) pe_int (fun _ _ => rfl)) (pv 4))))
   pss_nil)
  (pss_cons (ps_setLc (i := 6) (own := [("k", 8)]) (by rfl) (sc__law_wrong_right).nd rfl rfl (sw_true rfl rfl rfl (by decide +kernel)) (pi_range1 rfl T.n_range (pa_cons (pv 5) pa_nil)) (blkOk_by (own := [("k", 8)]) (N := n__law_wrong_right) (sc := defScope s__law_wrong_right) (by decide +kernel)) (fun _ _ _ _ _ => (pg_name (i := 8) (sc__law_wrong_right).nd rfl (by first | exact Or.inl rfl | exact Or.inr rfl))) (fun _ _ _ _ _ => pts_nil) (fun _ _ _ _ _ => (pe_call (ok__law_entry T hseer) (hr.mono (by decide)) rfl T.g__law_entry T.k__law_entry T.b__law_entry .nil pass0 (pa_cons (pv 0) (pa_cons (pv 3) pa_nil)))))
  (Evl.pss_cut (ps_if (pt_cmpR (op_eqU hr.units) (pe_call (ok__law_draw T hseer) (hr.mono (by decide)) rfl T.g__law_draw T.k__law_draw T.b__law_draw .nil pass0 (pa_cons (pv 0) (pa_cons pe_int pa_nil))) pe_int (nomark _))
   (pss_one (ps_setLc (i := 6) (own := [("k", 8)]) (by rfl) (sc__law_wrong_right).nd rfl rfl (sw_true rfl rfl rfl (by decide +kernel)) (pi_range1 rfl T.n_range (pa_cons (pv 5) pa_nil)) (blkOk_by (own := [("k", 8)]) (N := n__law_wrong_right) (sc := defScope s__law_wrong_right) (by decide +kernel)) (fun _ _ _ _ _ => (pg_name (i := 8) (sc__law_wrong_right).nd rfl (by first | exact Or.inl rfl | exact Or.inr rfl))) (fun _ _ _ _ _ => pts_nil) (fun _ _ _ _ _ => (pe_tup (pa_cons pe_int (pa_cons pe_int pa_nil))))))
   pss_nil)
  (pss_cons (ps_set (i := 7) (sc__law_wrong_right).nd rfl (by first | exact Or.inl rfl | exact Or.inr rfl) (pe_call (ok__law_asked T hseer) (hr.mono (by decide)) rfl T.g__law_asked T.k__law_asked T.b__law_asked .nil pass0 (pa_cons (pv 1) (pa_cons (pv 6) (pa_cons (pe_call (ok__law_draw T hseer) (hr.mono (by decide)) rfl T.g__law_draw T.k__law_draw T.b__law_draw .nil pass0 (pa_cons (pv 0) (pa_cons pe_int pa_nil))) pa_nil)))))
  (pss_one (ps_ret (pe_cmpR (op_eqU hr.units) (pv 7) (pe_tup (pa_cons pe_str (pa_cons (pe_ix ix_seq (pv 2) pe_int (fun _ _ => rfl)) (pa_cons (pv 5) (pa_cons pe_bl (pa_cons pe_bl pa_nil)))))) (nomark _)))))))))), ?_⟩
    walk_at "go"
    refine ⟨b, 3, j, rfl, by decide, hb, by omega, fun d H1 d0 d1 hb1 e1 => ?_⟩
    have hM1 := hM.bag hb nb e1
    have hmo := hM1.mo_
    walk_at "st"
    refine u_cutC (fun σ' H' => ∃ wd : Int, σ' = [some (.ref b), some (.ref a), some (.ref mo), some (.bl large), some (.int (1 + d)), some (.int wd), none, none, none] ∧ wd ≠ n ∧ 0 ≤ wd ∧ wd ≤ 15 ∧ BagAt H' b (j + 2) ∧ SameX b H H') ?_ ?_
    · walk_at "st"
      refine u_ite (fun h => ?_) (fun h => ?_)
      · walk_at "st"
        refine ⟨b, 2, j + 1, rfl, by decide, hb1, by omega, fun d' H2 d0' d1' hb2 e2 => ?_⟩
        have hmo2 := (hM1.bag hb1 nb e2).mo_
        walk_at "st"
        refine u_ite (fun h2 => ?_) (fun h2 => ?_)
        · walk_at "st"
          exact ⟨_, rfl, by omega, by omega, by omega, hb2, e1.trans e2⟩
        · walk_at "st"
          exact ⟨_, rfl, by omega, by omega, by omega, hb2, e1.trans e2⟩
      · walk_at "st"
        exact ⟨_, rfl, by omega, by omega, by omega, hb1.mono (by omega), e1⟩
    rintro σ' H2 ⟨wd, rfl, w0, w1, w2, hb2, e2⟩
    walk_at "st"
    refine u_rng1 (by omega) ?_
    refine lc_entries (K := K) (n := j + 2) (wide := wd.toNat) (large := large) hb2 (by omega) (fun i H6 Q' q => ?_) (fun D qs H3 L => ?_)
    · walk_at "st"
      refine ⟨rfl, ?_⟩
      walk_at "st"
      exact q
    · walk_at "st"
      refine u_cutC (fun σ' H' => (∃ D qs, σ' = [some (.ref b), some (.ref a), some (.ref mo), some (.bl large), some (.int (1 + d)), some (.int wd), some (.ref D), none, none] ∧ RowL K H' (.ref D) qs ∧ qs.length = wd.toNat) ∧ BagAt H' b (j + 18) ∧ SameX b H H') ?_ ?_
      · walk_at "st"
        have hb3 := L.bag
        have e3 := e2.trans L.sm
        refine ⟨b, 4, j + 2 + wd.toNat, rfl, by decide, hb3, by omega, fun d' H4 d0' d1' hb4 e4 => ?_⟩
        walk_at "st"
        refine u_ite (fun h2 => ?_) (fun h2 => ?_)
        · walk_at "st"
          refine u_rng1 (by omega) ?_
          refine lcK walk_range0 (fun D i acc H' => Ly.Loc K H4 D H' (List.replicate i 0)) (fun D hD => Loc.new hD (Same.refl H4) trivial) (fun _ _ _ _ _ _ _ => trivial) (fun D i acc x H5 H6 hD hi L y2 => ?_) (fun D acc H5 hD L5 => ?_)
          · obtain ⟨rfl, rfl⟩ := y2
            walk_at "st"
            refine ⟨rfl, ?_⟩
            walk_at "st"
            intro z H6 e6 f6
            refine lcLoc (L.ext e6) (by rw [List.length_replicate]; omega) ⟨z, rfl, f6 K⟩ fun acc H7 L7 _ => ?_
            rw [rep_succ]
            exact L7
          · walk_at "st"
            exact ⟨⟨D, _, rfl, L5.row, List.length_replicate ..⟩, (hb4.same L5.1).mono (by omega), (e3.trans e4).trans L5.1.x⟩
        · walk_at "st"
          exact ⟨⟨D, qs, rfl, L.row.bag hb3 e4, L.len⟩, hb4.mono (by omega), e3.trans e4⟩
      rintro σ' H4 ⟨⟨D, qs, rfl, rD, lD⟩, hb4, e4⟩
      walk_at "st"
      refine ⟨b, 3, j + 18, rfl, by decide, hb4, by omega, fun d' H5 d0' d1' hb5 e5 => ?_⟩
      have e15 := e4.trans e5
      have hB5 := hB.bag hb e15
      have hmo5 := (hM.bag hb nb e15).mo_
      walk_at "st"
      refine ⟨a, _, d', n, rows, ls, qs, rfl, hB5, (rD.bag hb4 e5).row, by omega, fun _ t H6 e6 ht => ?_, fun z => absurd z (by omega)⟩
      have hmo6 := e6 _ _ hmo5
      walk_at "st"
      (refine ⟨by first | exact le_l1 _ | exact le_l2 _ _ | exact le_l3 _ _ _ | exact le_l5 _ _ _ _ _ | exact le_l0, fun t7 newQ => ?_⟩; obtain ⟨H7, eqQ, e7, q7⟩ := tup_new K newQ; rw [eqQ]; clear eqQ)
      refine u_eqWd (n := n) (m := wd) ⟨t, rfl, ?_⟩ ⟨t7, rfl, q7⟩ ?_
      · rw [show (wd : Int) = (qs.length : Int) by omega]
        exact e7.t ht
      · exact k H7 (((hb5.same e6).same e7).mono (by omega)) ((e15.trans e6.x).trans e7.x)
/-- both bases beside both models -/
def Two (T : Tx K mg) (M : List Addr) (H : Hp) (Bs Ms a0 o0 p0 q0 a1 o1 p1 q1 : Addr) (n0 n1 S : Nat) : Prop :=
  H Bs = some (.lst [.ref a0, .ref a1]) ∧ H Ms = some (.lst [.ref o0, .ref o1]) ∧ Bs ∉ M ∧ Ms ∉ M ∧ a0 ≠ a1 ∧ p0 ≠ p1 ∧ p0 ≠ q1 ∧ q0 ≠ p1 ∧ q0 ≠ q1 ∧
  (∃ rows ls, BsOk T H a0 n0 rows ls ∧ MdOk M K H o0 p0 q0 n0 rows ls ∧ Sz S rows.flatten) ∧ ∃ rows ls, BsOk T H a1 n1 rows ls ∧ MdOk M K H o1 p1 q1 n1 rows ls ∧ Sz S rows.flatten
/-- the other pair stays -/
theorem other_ok {T : Tx K mg} {M : List Addr} {H H' : Hp} {b a m1 m2 a' o' p' q' : Addr} {n j : Nat} {rows : List (List Rat)} {ls : List Ln} {C dx : Addr} {fs : List (Str × V)} (hB : BsOk T H a' n rows ls) (hM : MdOk M K H o' p' q' n rows ls) (hb : BagAt H b j) (nb : b ∉ M) (ha : H a = some (.ins C dx fs))
    (im : Imm H H') (e : SameS [b, a, m1, m2] H H') (i1 : m1 ∈ M) (i2 : m2 ∈ M) (na : a' ≠ a) (x1 : p' ≠ m1) (x2 : p' ≠ m2) (x3 : q' ≠ m1) (x4 : q' ≠ m2) (lv : Liv M H') : BsOk T H' a' n rows ls ∧ MdOk M K H' o' p' q' n rows ls := by
  refine ⟨hB.same im fun o q => e _ _ ?_ q, hM.keep im (fun s o z w1 w2 q => e s o ?_ z) lv⟩
  · obtain ⟨_, _, _, _, ⟨_, w1⟩, _⟩ := hB
    rw [w1] at q
    cases q
    simp only [List.mem_cons, List.not_mem_nil, or_false, not_or]
    refine ⟨hb.ne w1 (fun _ _ _ z => nomatch z), na, fun z => ?_, fun z => ?_⟩
    · obtain ⟨xs, y⟩ := hM.liv m1 i1
      rw [← z, w1] at y; cases y
    · obtain ⟨xs, y⟩ := hM.liv m2 i2
      rw [← z, w1] at y; cases y
  · simp only [List.mem_cons, List.not_mem_nil, or_false, not_or]
    refine ⟨hb.ne z w1, fun r => ?_, ?_⟩
    · rw [r, ha] at z
      exact w2 _ _ _ (Option.some.inj z).symm
    · rcases q with q | q | q
      · exact ⟨fun r => q (r ▸ i1), fun r => q (r ▸ i2)⟩
      · rw [q]; exact ⟨x1, x2⟩
      · rw [q]; exact ⟨x3, x4⟩
end
end K01

set_option maxHeartbeats 4000000
namespace K01
open PySem PySem.Spec PyProof.Rows L2 Ly


section
variable {w : World} {K : PySem.W.Frag} {mg : Str → Option Value} {base : Heap}
def sp_deed (T : Tx K mg) : Sp := fun vs H Q _ => ∃ (M : List Addr) (b Bs Ms a0 o0 p0 q0 a1 o1 p1 q1 : Addr) (j n0 n1 S : Nat) (large : Bool), vs = [.ref b, .ref Bs, .ref Ms, .bl large] ∧ BagAt H b j ∧ b ∉ M ∧ j ≤ 1000 ∧ Two T M H Bs Ms a0 o0 p0 q0 a1 o1 p1 q1 n0 n1 S ∧ S + 403 ≤ 9299 ∧
  ∀ H', Imm H H' → SameS [b, a0, p0, q0, a1, p1, q1] H H' → Two T M H' Bs Ms a0 o0 p0 q0 a1 o1 p1 q1 n0 n1 (S + 403) → Q (.bl true) H'
theorem ok__law_deed_right (T : Tx K mg) (hseer : base.NoSeer) : FnOk PP w K mg base CX0 45 T.a__law_deed_right T.d__law_deed_right ["bag", "bases", "models", "large"] (sp_deed T) := by
  refine T.F__law_deed_right.ok sc__law_deed_right (fun vs H Q E h => ?_) (fun cdv A outer s H vs Q E hr h => ?_)
  · obtain ⟨_, _, _, _, _, _, _, _, _, _, _, _, _, _, _, _, _, rfl, _⟩ := h; rfl
  · obtain ⟨M, b, Bs, Ms, a0, o0, p0, q0, a1, o1, p1, q1, j, n0, n1, S, large, rfl, hb, nb, lj, ⟨hBs, hMs, nBs0, nMs0, naa, y1, y2, y3, y4, ⟨r0, l0, B0, M0, Z0⟩, ⟨r1, l1, B1, M1, Z1⟩⟩, lS, k⟩ := h
    refine ⟨_, (pss_cons (ps_set (i := 4) (sc__law_deed_right).nd rfl (by first | exact Or.inl rfl | exact Or.inr rfl) (pe_call (ok__law_draw T hseer) (hr.mono (by decide)) rfl T.g__law_draw T.k__law_draw T.b__law_draw .nil pass0 (pa_cons (pv 0) (pa_cons pe_int pa_nil))))
  (pss_cons (ps_set (i := 5) (sc__law_deed_right).nd rfl (by first | exact Or.inl rfl | exact Or.inr rfl) (pe_ix ix_seq (pv 1) (pv 4) (fun _ _ => rfl)))
  (pss_cons (ps_set (i := 6) (sc__law_deed_right).nd rfl (by first | exact Or.inl rfl | exact Or.inr rfl) (pe_ix ix_seq (pv 2) (pv 4) (fun _ _ => rfl)))
  (pss_cons (ps_set (i := 7) (sc__law_deed_right).nd rfl (by first | exact Or.inl rfl | exact Or.inr rfl) (pe_call (ok__law_draw T hseer) (hr.mono (by decide)) rfl T.g__law_draw T.k__law_draw T.b__law_draw .nil pass0 (pa_cons (pv 0) (pa_cons pe_int pa_nil))))
  (pss_cons (ps_set (i := 8) (sc__law_deed_right).nd rfl (by first | exact Or.inl rfl | exact Or.inr rfl) (pe_call (ok__law_draw T hseer) (hr.mono (by decide)) rfl T.g__law_draw T.k__law_draw T.b__law_draw .nil pass0 (pa_cons (pv 0) (pa_cons pe_int pa_nil))))
  (pss_cons (ps_set (i := 9) (sc__law_deed_right).nd rfl (by first | exact Or.inl rfl | exact Or.inr rfl) (pe_cmpR (op_eqU hr.units) (pe_call (ok__law_draw T hseer) (hr.mono (by decide)) rfl T.g__law_draw T.k__law_draw T.b__law_draw .nil pass0 (pa_cons (pv 0) (pa_cons pe_int pa_nil))) pe_int (nomark _)))
  (Evl.pss_cut (ps_if (pt_cmpR (op_eqU hr.units) (pv 7) pe_int (nomark _))
   (pss_one (ps_if (pt_not (pt_truthU (pe_call (ok__law_wrong_right T hseer) (hr.mono (by decide)) rfl T.g__law_wrong_right T.k__law_wrong_right T.b__law_wrong_right .nil pass0 (pa_cons (pv 0) (pa_cons (pv 5) (pa_cons (pv 6) (pa_cons (pv 3) pa_nil))))) (fun _ => rfl)))
   (pss_one (ps_ret pe_bl))
   pss_nil))
   (pss_cons (ps_set (i := 10) (sc__law_deed_right).nd rfl (by first | exact Or.inl rfl | exact Or.inr rfl) (pe_call (ok__law_row T hseer) (hr.mono (by decide)) rfl T.g__law_row T.k__law_row T.b__law_row .nil pass0 (pa_cons (pv 0) (pa_cons (pv 6) (pa_cons (pv 3) pa_nil)))))
  (pss_cons (ps_if (PW.pt (pw_and (pt_cmpR op_lt (pv 7) pe_int (nomark _)) (pw_and1 (pt_not (pt_truthU (pe_call (ok__law_added_right T hseer) (hr.mono (by decide)) rfl T.g__law_added_right T.k__law_added_right T.b__law_added_right .nil pass0 (pa_cons (pv 0) (pa_cons (pv 5) (pa_cons (pv 6) (pa_cons (pv 10) (pa_cons (pv 9) pa_nil)))))) (fun _ => rfl))))))
   (pss_one (ps_ret pe_bl))
   pss_nil)
  (pss_one (ps_if (PW.pt (pw_and (pt_cmpR op_ge (pv 7) pe_int (nomark _)) (pw_and1 (pt_not (pt_truthU (pe_call (ok__law_asked_right T hseer) (hr.mono (by decide)) rfl T.g__law_asked_right T.k__law_asked_right T.b__law_asked_right .nil pass0 (pa_cons (pv 5) (pa_cons (pv 6) (pa_cons (pv 10) (pa_cons (pe_op op_sub (pv 7) pe_int) (pa_cons (pv 9) pa_nil)))))) (fun _ => rfl))))))
   (pss_one (ps_ret pe_bl))
   pss_nil)))))
  (pss_cons (ps_if (pt_cmpR (op_eqU hr.units) (pv 8) pe_int (nomark _))
   (pss_one (ps_ret pe_bl))
   pss_nil)
  (pss_one (ps_ret (pe_and (pe_call (ok__law_state_right T hseer) (hr.mono (by decide)) rfl T.g__law_state_right T.k__law_state_right T.b__law_state_right .nil pass0 (pa_cons (pe_ix ix_seq (pv 1) pe_int (fun _ _ => rfl)) (pa_cons (pe_ix ix_seq (pv 2) pe_int (fun _ _ => rfl)) pa_nil))) (pe_one (pe_call (ok__law_state_right T hseer) (hr.mono (by decide)) rfl T.g__law_state_right T.k__law_state_right T.b__law_state_right .nil pass0 (pa_cons (pe_ix ix_seq (pv 1) pe_int (fun _ _ => rfl)) (pa_cons (pe_ix ix_seq (pv 2) pe_int (fun _ _ => rfl)) pa_nil))))))))))))))), ?_⟩
    walk_at "go"
    refine ⟨b, 2, j, rfl, by decide, hb, by omega, fun d H1 d0 d1 hb1 e1 => ?_⟩
    have hBs := e1 _ _ (hb.ne hBs fun _ _ _ z => by simp at z) hBs
    have hMs := e1 _ _ (hb.ne hMs fun _ _ _ z => by simp at z) hMs
    have B0 := BsOk.bag B0 hb e1
    have B1 := BsOk.bag B1 hb e1
    have M0 := M0.bag hb nb e1
    have M1 := M1.bag hb nb e1
    have k1 : ∀ H', Imm H1 H' → SameS [b, a0, p0, q0, a1, p1, q1] H1 H' → Two T M H' Bs Ms a0 o0 p0 q0 a1 o1 p1 q1 n0 n1 (S + 403) → Q (.bl true) H' := fun H' i e t => k H' ((hb.imm e1).trans i) ((SameX_s e1 (by simp)).trans e) t
    walk_at "st"
    have hd : d = 0 ∨ d = 1 := by omega
    rcases hd with rfl | rfl
    · refine u_ix (k := ((0 : Nat) : Int)) (.inl (SqL.of hBs)) (atI_nat (j := 0) rfl) ?_
      walk_at "st"
      have hBc := B0
      obtain ⟨_, _, _, _, ⟨dx, ha⟩, hR, fR, -, -, B, n12⟩ := hBc
      have lR := B.len
      have Bl := B.le
      have hmo := M0.mo_
      have mk : ∀ {H' : Hp} {j' : Nat}, BagAt H' b j' → SameX b H1 H' → H' Bs = H1 Bs ∧ H' Ms = H1 Ms := fun {H' j'} h e => ⟨by rw [hBs]; exact e _ _ (hb1.ne hBs fun _ _ _ z => by simp at z) hBs, by rw [hMs]; exact e _ _ (hb1.ne hMs fun _ _ _ z => by simp at z) hMs⟩
      refine ⟨b, 7, j + 1, rfl, by decide, hb1, by omega, fun dd H2 dd0 dd1 hb2 e2 => ?_⟩
      walk_at "st"
      refine ⟨b, 3, j + 2, rfl, by decide, hb2, by omega, fun lk H3 lk0 lk1 hb3 e3 => ?_⟩
      walk_at "st"
      refine ⟨b, 2, j + 3, rfl, by decide, hb3, by omega, fun al H4 al0 al1 hb4 e4 => ?_⟩
      walk_at "st"
      have e14 := (e2.trans e3).trans e4
      have e04 := e1.trans e14
      have hB4 := BsOk.bag B0 hb1 e14
      have hM4 := M0.bag hb1 nb e14
      refine u_cutC (fun σ' H' => (∃ rw, σ' = [some (.ref b), some (.ref Bs), some (.ref Ms), some (.bl large), some (.int 0), some (.ref a0), some (.ref o0), some (.int dd), some (.int lk), some (.bl (decide (al = 1))), rw]) ∧ Imm H1 H' ∧ SameS [b, a0, p0, q0] H1 H' ∧ ∃ rows' ls', BsOk T H' a0 n0 rows' ls' ∧ MdOk M K H' o0 p0 q0 n0 rows' ls' ∧ Sz (S + 403) rows'.flatten) ?_ ?_
      · walk_at "st"
        refine u_ite (fun h => ?_) (fun h => ?_)
        · walk_at "st"
          refine ⟨M, b, a0, o0, p0, q0, j + 4, large, n0, r0, l0, rfl, hb4, nb, by omega, hB4, hM4, fun H5 hb5 e5 => ?_⟩
          walk_at "st"
          have e15 := e14.trans e5
          exact ⟨⟨_, rfl⟩, hb1.imm e15, SameX_s e15 (by simp), r0, l0, BsOk.bag B0 hb1 e15, M0.bag hb1 nb e15, Z0.mono (by omega)⟩
        · walk_at "st"
          refine ⟨M, b, o0, p0, q0, j + 4, large, n0, S, r0, l0, rfl, hb4, nb, by omega, hM4, n12, B.rl, by omega, Z0, by omega, fun y p H5 r5 lp5 z5 hb5 e5 => ?_⟩
          have e15 := e14.trans e5
          have hB5 := BsOk.bag B0 hb1 e15
          have hM5 := M0.bag hb1 nb e15
          walk_at "st"
          refine u_ite (fun h5 => ?_) (fun h5 => ?_)
          · walk_at "st"
            refine ⟨M, b, j + 4 + 20, a0, o0, p0, q0, y, _, n0, S + 403, r0, l0, p, rfl, hb5, nb, by omega, hB5, hM5, r5, lp5, z5, by omega, fun H6 rows' ls' i6 s6 hb6 hB6 hM6 z6 => ?_⟩
            walk_at "st"
            refine u_ite (fun h6 => absurd h6 (by omega)) (fun _ => ?_)
            walk_at "st"
            exact ⟨⟨_, rfl⟩, (hb1.imm e15).trans i6, (SameX_s e15 (by simp)).trans s6, rows', ls', hB6, hM6, z6⟩
          · walk_at "st"
            refine u_ite (fun _ => ?_) (fun h6 => absurd (show dd ≥ 4 by omega) h6)
            walk_at "st"
            refine ⟨M, a0, o0, p0, q0, .ref y, dd - 3, _, n0, S, r0, l0, p, rfl, hB5, hM5, r5.row, lp5, z5.right.mono (by show _ ≤ 9299; omega), Z0, by omega, by omega, fun H6 e6 => ?_⟩
            walk_at "st"
            exact ⟨⟨_, rfl⟩, (hb1.imm e15).trans e6.imm, (SameX_s e15 (by simp)).trans e6.s, r0, l0, hB5.same e6.imm (fun o q => e6 _ _ q), hM5.same e6, Z0.mono (by omega)⟩
      rintro σ' H6 ⟨⟨rw', rfl⟩, i6, s6, rows', ls', hB6, hM6, z6⟩
      obtain ⟨oB, oM⟩ := other_ok B1 M1 hb1 nb ha i6 s6 M0.i1 M0.i2 (Ne.symm naa) (Ne.symm y1) (Ne.symm y3) (Ne.symm y2) (Ne.symm y4) hM6.liv
      have nBs : Bs ∉ [b, a0, p0, q0] := by
        simp only [List.mem_cons, List.not_mem_nil, or_false, not_or]
        exact ⟨hb1.ne hBs (fun _ _ _ z => by simp at z), (fun z => by rw [z, ha] at hBs; cases hBs), fun z => nBs0 (z ▸ M0.i1), fun z => nBs0 (z ▸ M0.i2)⟩
      have nMs : Ms ∉ [b, a0, p0, q0] := by
        simp only [List.mem_cons, List.not_mem_nil, or_false, not_or]
        exact ⟨hb1.ne hMs (fun _ _ _ z => by simp at z), (fun z => by rw [z, ha] at hMs; cases hMs), fun z => nMs0 (z ▸ M0.i1), fun z => nMs0 (z ▸ M0.i2)⟩
      have hBs6 := s6 _ _ nBs hBs
      have hMs6 := s6 _ _ nMs hMs
      have zo : Sz (S + 403) r1.flatten := Z1.mono (by omega)
      have sb : SameS [b, a0, p0, q0, a1, p1, q1] H1 H6 := s6.sub fun x hx => by
        simp only [List.mem_cons, List.not_mem_nil, or_false] at hx ⊢
        rcases hx with q | q | q | q <;> simp [q]
      have tw : Two T M H6 Bs Ms a0 o0 p0 q0 a1 o1 p1 q1 n0 n1 (S + 403) := ⟨hBs6, hMs6, nBs0, nMs0, naa, y1, y2, y3, y4, ⟨_, _, hB6, hM6, z6⟩, ⟨_, _, oB, oM, zo⟩⟩
      obtain ⟨-, -, -, -, -, -, -, -, -, ⟨t0, k0, B60, M60, -⟩, ⟨t1, k1', B61, M61, -⟩⟩ := id tw
      walk_at "st"
      refine u_ite (fun h => ?_) (fun h => ?_)
      · walk_at "st"
        exact k1 H6 i6 sb tw
      · walk_at "st"
        refine ⟨M, a0, o0, p0, q0, n0, t0, k0, rfl, B60, M60, ?_⟩
        walk_at "st"
        refine ⟨M, a1, o1, p1, q1, n1, t1, k1', rfl, B61, M61, ?_⟩
        exact k1 H6 i6 sb tw
    · refine u_ix (k := ((1 : Nat) : Int)) (.inl (SqL.of hBs)) (atI_nat (j := 1) rfl) ?_
      walk_at "st"
      have hBc := B1
      obtain ⟨_, _, _, _, ⟨dx, ha⟩, hR, fR, -, -, B, n12⟩ := hBc
      have lR := B.len
      have Bl := B.le
      have hmo := M1.mo_
      have mk : ∀ {H' : Hp} {j' : Nat}, BagAt H' b j' → SameX b H1 H' → H' Bs = H1 Bs ∧ H' Ms = H1 Ms := fun {H' j'} h e => ⟨by rw [hBs]; exact e _ _ (hb1.ne hBs fun _ _ _ z => by simp at z) hBs, by rw [hMs]; exact e _ _ (hb1.ne hMs fun _ _ _ z => by simp at z) hMs⟩
      refine ⟨b, 7, j + 1, rfl, by decide, hb1, by omega, fun dd H2 dd0 dd1 hb2 e2 => ?_⟩
      walk_at "st"
      refine ⟨b, 3, j + 2, rfl, by decide, hb2, by omega, fun lk H3 lk0 lk1 hb3 e3 => ?_⟩
      walk_at "st"
      refine ⟨b, 2, j + 3, rfl, by decide, hb3, by omega, fun al H4 al0 al1 hb4 e4 => ?_⟩
      walk_at "st"
      have e14 := (e2.trans e3).trans e4
      have e04 := e1.trans e14
      have hB4 := BsOk.bag B1 hb1 e14
      have hM4 := M1.bag hb1 nb e14
      refine u_cutC (fun σ' H' => (∃ rw, σ' = [some (.ref b), some (.ref Bs), some (.ref Ms), some (.bl large), some (.int 1), some (.ref a1), some (.ref o1), some (.int dd), some (.int lk), some (.bl (decide (al = 1))), rw]) ∧ Imm H1 H' ∧ SameS [b, a1, p1, q1] H1 H' ∧ ∃ rows' ls', BsOk T H' a1 n1 rows' ls' ∧ MdOk M K H' o1 p1 q1 n1 rows' ls' ∧ Sz (S + 403) rows'.flatten) ?_ ?_
      · walk_at "st"
        refine u_ite (fun h => ?_) (fun h => ?_)
        · walk_at "st"
          refine ⟨M, b, a1, o1, p1, q1, j + 4, large, n1, r1, l1, rfl, hb4, nb, by omega, hB4, hM4, fun H5 hb5 e5 => ?_⟩
          walk_at "st"
          have e15 := e14.trans e5
          exact ⟨⟨_, rfl⟩, hb1.imm e15, SameX_s e15 (by simp), r1, l1, BsOk.bag B1 hb1 e15, M1.bag hb1 nb e15, Z1.mono (by omega)⟩
        · walk_at "st"
          refine ⟨M, b, o1, p1, q1, j + 4, large, n1, S, r1, l1, rfl, hb4, nb, by omega, hM4, n12, B.rl, by omega, Z1, by omega, fun y p H5 r5 lp5 z5 hb5 e5 => ?_⟩
          have e15 := e14.trans e5
          have hB5 := BsOk.bag B1 hb1 e15
          have hM5 := M1.bag hb1 nb e15
          walk_at "st"
          refine u_ite (fun h5 => ?_) (fun h5 => ?_)
          · walk_at "st"
            refine ⟨M, b, j + 4 + 20, a1, o1, p1, q1, y, _, n1, S + 403, r1, l1, p, rfl, hb5, nb, by omega, hB5, hM5, r5, lp5, z5, by omega, fun H6 rows' ls' i6 s6 hb6 hB6 hM6 z6 => ?_⟩
            walk_at "st"
            refine u_ite (fun h6 => absurd h6 (by omega)) (fun _ => ?_)
            walk_at "st"
            exact ⟨⟨_, rfl⟩, (hb1.imm e15).trans i6, (SameX_s e15 (by simp)).trans s6, rows', ls', hB6, hM6, z6⟩
          · walk_at "st"
            refine u_ite (fun _ => ?_) (fun h6 => absurd (show dd ≥ 4 by omega) h6)
            walk_at "st"
            refine ⟨M, a1, o1, p1, q1, .ref y, dd - 3, _, n1, S, r1, l1, p, rfl, hB5, hM5, r5.row, lp5, z5.right.mono (by show _ ≤ 9299; omega), Z1, by omega, by omega, fun H6 e6 => ?_⟩
            walk_at "st"
            exact ⟨⟨_, rfl⟩, (hb1.imm e15).trans e6.imm, (SameX_s e15 (by simp)).trans e6.s, r1, l1, hB5.same e6.imm (fun o q => e6 _ _ q), hM5.same e6, Z1.mono (by omega)⟩
      rintro σ' H6 ⟨⟨rw', rfl⟩, i6, s6, rows', ls', hB6, hM6, z6⟩
      obtain ⟨oB, oM⟩ := other_ok B0 M0 hb1 nb ha i6 s6 M1.i1 M1.i2 naa y1 y2 y3 y4 hM6.liv
      have nBs : Bs ∉ [b, a1, p1, q1] := by
        simp only [List.mem_cons, List.not_mem_nil, or_false, not_or]
        exact ⟨hb1.ne hBs (fun _ _ _ z => by simp at z), (fun z => by rw [z, ha] at hBs; cases hBs), fun z => nBs0 (z ▸ M1.i1), fun z => nBs0 (z ▸ M1.i2)⟩
      have nMs : Ms ∉ [b, a1, p1, q1] := by
        simp only [List.mem_cons, List.not_mem_nil, or_false, not_or]
        exact ⟨hb1.ne hMs (fun _ _ _ z => by simp at z), (fun z => by rw [z, ha] at hMs; cases hMs), fun z => nMs0 (z ▸ M1.i1), fun z => nMs0 (z ▸ M1.i2)⟩
      have hBs6 := s6 _ _ nBs hBs
      have hMs6 := s6 _ _ nMs hMs
      have zo : Sz (S + 403) r0.flatten := Z0.mono (by omega)
      have sb : SameS [b, a0, p0, q0, a1, p1, q1] H1 H6 := s6.sub fun x hx => by
        simp only [List.mem_cons, List.not_mem_nil, or_false] at hx ⊢
        rcases hx with q | q | q | q <;> simp [q]
      have tw : Two T M H6 Bs Ms a0 o0 p0 q0 a1 o1 p1 q1 n0 n1 (S + 403) := ⟨hBs6, hMs6, nBs0, nMs0, naa, y1, y2, y3, y4, ⟨_, _, oB, oM, zo⟩, ⟨_, _, hB6, hM6, z6⟩⟩
      obtain ⟨-, -, -, -, -, -, -, -, -, ⟨t0, k0, B60, M60, -⟩, ⟨t1, k1', B61, M61, -⟩⟩ := id tw
      walk_at "st"
      refine u_ite (fun h => ?_) (fun h => ?_)
      · walk_at "st"
        exact k1 H6 i6 sb tw
      · walk_at "st"
        refine ⟨M, a0, o0, p0, q0, n0, t0, k0, rfl, B60, M60, ?_⟩
        walk_at "st"
        refine ⟨M, a1, o1, p1, q1, n1, t1, k1', rfl, B61, M61, ?_⟩
        exact k1 H6 i6 sb tw
end
end K01

set_option maxHeartbeats 4000000
namespace K01
open PySem PySem.Spec PyProof.Rows L2 Ly


section
variable {w : World} {K : PySem.W.Frag} {mg : Str → Option Value} {base : Heap}
def ToldT (K : PySem.W.Frag) (H : Hp) (z y : V) : Prop := ∃ t, z = .ref t ∧ SqT K H t [.str "told", y]
def sp_ptold (T : Tx K mg) : Sp := fun vs H Q _ => ∃ (v u : V) (door : Int), vs = [v, u, .int door] ∧
  ((door = 0 ∧ ∃ (p q : List Rat) (s t : Nat), Row K H v p ∧ Row K H u q ∧ p.length ≤ 1000 ∧ q.length ≤ 1000 ∧ (p.length ≠ q.length → ∀ z H', Same H H' → WdT K H' z p.length q.length → Q z H') ∧
      (p.length = q.length → Sz s p ∧ Sz t q ∧ s + t + 10 ≤ 60000000 ∧ ∀ y z H', Same H H' → Fr K H' y (sumTo p.length fun i => cf p i * cf q i) → ToldT K H' z y → Q z H')) ∨
    (door = 1 ∧ ∃ (p : List Rat) (m : List (List Rat)) (s t : Nat), Row K H v p ∧ Grid K H u m ∧ p.length ≤ 1000 ∧ m.length ≤ 1000 ∧ (p.length ≠ m.length → ∀ z H', Same H H' → WdT K H' z m.length p.length → Q z H') ∧
      (p.length = m.length → wid m ≤ 1000 ∧ (∀ r ∈ m, r.length = wid m) ∧ Sz s p ∧ Sz t m.flatten ∧ s + t + 10 ≤ 60000000 ∧ ∀ y z H', Same H H' → RowT K H' y (combL p m (wid m)) → ToldT K H' z y → Q z H')) ∨
    (door = 2 ∧ ∃ (ml mr : List (List Rat)) (n s t : Nat), Grid K H v ml ∧ Grid K H u mr ∧ (∀ r ∈ ml, r.length = n) ∧ ml.length ≤ 1000 ∧ n ≤ 1000 ∧ mr.length ≤ 1000 ∧ (0 < ml.length ∧ n ≠ mr.length → ∀ z H', Same H H' → WdT K H' z mr.length n → Q z H') ∧
      ((ml.length = 0 ∨ n = mr.length) → wid mr ≤ 1000 ∧ (∀ r ∈ mr, r.length = wid mr) ∧ (∀ r ∈ ml, Sz s r) ∧ Sz t mr.flatten ∧ s + t + 10 ≤ 60000000 ∧ ∀ y z H', Same H H' → GridT K H' y (mulM ml mr) → ToldT K H' z y → Q z H')))
theorem ok__law_product_told (T : Tx K mg) (hseer : base.NoSeer) : FnOk PP w K mg base CX0 41 T.a__law_product_told T.d__law_product_told ["left", "right", "door"] (sp_ptold T) := by
  refine T.F__law_product_told.ok sc__law_product_told (fun vs H Q E h => ?_) (fun cdv A outer s H vs Q E hr h => ?_)
  · obtain ⟨_, _, _, rfl, _⟩ := h; rfl
  · obtain ⟨v, u, door, rfl, h⟩ := h
    refine ⟨_, (pss_cons (ps_try_asM (i := 4) rfl rfl (sc__law_product_told).nd rfl rfl ⟨rfl, by decide, Or.inl T.g_WrongWidth⟩ (fun W pn xe tk _ => (pss_one (ps_if (pt_cmpR (r := rEqU K) (op_eqU hr.units) (pv 2) pe_int (nomark _))
   (pss_one (ps_set (i := 3) (sc__law_product_told).nd rfl (by first | exact Or.inl rfl | exact Or.inr rfl) (pe_callS (okX_dot T hseer) (hr.mono (by decide)) rfl T.g_dot T.k_dot T.b_dot (fun σ => passAt tk σ) (pa_cons (pv 0) (pa_cons (pv 1) pa_nil)))))
   (pss_one (ps_if (pt_cmpR (r := rEqU K) (op_eqU hr.units) (pv 2) pe_int (nomark _))
   (pss_one (ps_set (i := 3) (sc__law_product_told).nd rfl (by first | exact Or.inl rfl | exact Or.inr rfl) (pe_callS (okX_row_times T hseer) (hr.mono (by decide)) rfl T.g_row_times T.k_row_times T.b_row_times (fun σ => passAt tk σ) (pa_cons (pv 0) (pa_cons (pv 1) pa_nil)))))
   (pss_one (ps_set (i := 3) (sc__law_product_told).nd rfl (by first | exact Or.inl rfl | exact Or.inr rfl) (pe_callS (okX_matrix_times T hseer) (hr.mono (by decide)) rfl T.g_matrix_times T.k_matrix_times T.b_matrix_times (fun σ => passAt tk σ) (pa_cons (pv 0) (pa_cons (pv 1) pa_nil))))))))))
   (fun a oe cls d pn hz hf => (pss_clsD (C := T.a_WrongWidth) hz fun hz => (pss_cons (ps_set (i := 5) (sc__law_product_told).nd rfl (by first | exact Or.inl rfl | exact Or.inr rfl) (pe_or (pe_callB (call_isED T.xc_WrongWidth hz hf) (by rfl) T.n_isinstance (by decide +kernel) (pa_cons (pv 4) (pa_cons (pe_glob (v := V.ref T.a_LimitError) rfl T.g_LimitError rfl) pa_nil))) (pe_one (pe_callB (call_isED T.xc_WrongWidth hz hf) (by rfl) T.n_isinstance (by decide +kernel) (pa_cons (pv 4) (pa_cons (pe_glob (v := V.ref T.a_Singular) rfl T.g_Singular rfl) pa_nil))))))
  (pss_cons (ps_set (i := 6) (sc__law_product_told).nd rfl (by first | exact Or.inl rfl | exact Or.inr rfl) (pe_and (pe_callB (call_isED T.xc_WrongWidth hz hf) (by rfl) T.n_isinstance (by decide +kernel) (pa_cons (pv 4) (pa_cons (pe_glob (v := V.ref T.a_SteelyardError) rfl T.g_SteelyardError rfl) pa_nil))) (pe_one (pe_callB (call_isED T.xc_WrongWidth hz hf) (by rfl) T.n_isinstance (by decide +kernel) (pa_cons (pv 4) (pa_cons (pe_bltn (v := V.ty "ValueError") (by rfl) T.n_ValueError (by decide +kernel) rfl) pa_nil))))))
  (pss_one (ps_ret (pe_tup (pa_cons pe_str (pa_cons (pe_fldX T.xt_WrongWidth (by decide) hz hf (pv 4)) (pa_cons (pe_fldX T.xt_WrongWidth (by decide) hz hf (pv 4)) (pa_cons (pv 6) (pa_cons (pv 5) pa_nil)))))))))))))
  (pss_one (ps_ret (pe_tup (pa_cons pe_str (pa_cons (pv 3) pa_nil)))))), ?_⟩
    walk_at "go"
    rcases h with ⟨rfl, p, q, s1, s2, hv, hu, lp, lq, kE, kQ⟩ | ⟨rfl, p, m, s1, s2, hv, hu, lp, lm, kE, kQ⟩ | ⟨rfl, ml, mr, n, s1, s2, hv, hu, hn, lml, ln, lmr, kE, kQ⟩
    · refine u_ite (fun _ => ?_) (fun h => absurd rfl h)
      walk_at "st"
      refine ⟨v, u, p, q, s1, s2, rfl, hv, hu, lp, lq, fun hne d hd => ?_, fun he => ?_⟩
      · obtain ⟨H1, hH1, e1, hx⟩ := xd_new (xs := [("want", V.int p.length), ("got", V.int q.length)]) hd
        rw [hH1]
        refine ⟨T.em_WrongWidth, fun ea hea => ⟨rfl, ?_⟩⟩
        walk_at "st"
        refine ⟨_, _, false, _, _, rfl, fun u r => r, T.q_WrongWidth_LimitError, rfl, hx, ?_⟩
        walk_at "st"
        refine ⟨_, _, false, _, _, rfl, fun u r => r, T.q_WrongWidth_Singular, rfl, hx, ?_⟩
        walk_at "st"
        refine ⟨_, _, true, _, _, rfl, fun u r => r, T.q_WrongWidth_SteelyardError, rfl, hx, ?_⟩
        walk_at "st"
        refine ⟨_, _, true, _, _, rfl, fun u r => r, T.q_WrongWidth_ValueError, rfl, hx, ?_⟩
        walk_at "st"
        refine ⟨rfl, rfl, _, _, _, rfl, hx, rfl, ?_⟩
        walk_at "st"
        refine ⟨rfl, rfl, _, _, _, rfl, hx, rfl, ?_⟩
        walk_at "st"
        (refine ⟨by first | exact le_l1 _ | exact le_l2 _ _ | exact le_l3 _ _ _ | exact le_l5 _ _ _ _ _ | exact le_l0, fun t2 newQ => ?_⟩; obtain ⟨H2, eqQ, e2, q2⟩ := tup_new K newQ; rw [eqQ]; clear eqQ)
        exact kE (by first | trivial | omega) _ _ (e1.trans e2) ⟨t2, rfl, q2⟩
      · obtain ⟨z1, z2, z3, k⟩ := kQ he
        refine ⟨z1, z2, z3, fun y H1 e1 f1 => ?_⟩
        walk_at "st"
        (refine ⟨by first | exact le_l1 _ | exact le_l2 _ _ | exact le_l3 _ _ _ | exact le_l5 _ _ _ _ _ | exact le_l0, fun t2 newQ => ?_⟩; obtain ⟨H2, eqQ, e2, q2⟩ := tup_new K newQ; rw [eqQ]; clear eqQ)
        exact k y _ _ (e1.trans e2) (f1.same e2) ⟨t2, rfl, q2⟩
    · refine u_ite (fun h => absurd h (by decide)) (fun _ => ?_)
      walk_at "st"
      refine u_ite (fun _ => ?_) (fun h => absurd rfl h)
      walk_at "st"
      refine ⟨v, u, p, m, s1, s2, rfl, hv, hu, lp, lm, fun hne d hd => ?_, fun he => ?_⟩
      · obtain ⟨H1, hH1, e1, hx⟩ := xd_new (xs := [("want", V.int m.length), ("got", V.int p.length)]) hd
        rw [hH1]
        refine ⟨T.em_WrongWidth, fun ea hea => ⟨rfl, ?_⟩⟩
        walk_at "st"
        refine ⟨_, _, false, _, _, rfl, fun u r => r, T.q_WrongWidth_LimitError, rfl, hx, ?_⟩
        walk_at "st"
        refine ⟨_, _, false, _, _, rfl, fun u r => r, T.q_WrongWidth_Singular, rfl, hx, ?_⟩
        walk_at "st"
        refine ⟨_, _, true, _, _, rfl, fun u r => r, T.q_WrongWidth_SteelyardError, rfl, hx, ?_⟩
        walk_at "st"
        refine ⟨_, _, true, _, _, rfl, fun u r => r, T.q_WrongWidth_ValueError, rfl, hx, ?_⟩
        walk_at "st"
        refine ⟨rfl, rfl, _, _, _, rfl, hx, rfl, ?_⟩
        walk_at "st"
        refine ⟨rfl, rfl, _, _, _, rfl, hx, rfl, ?_⟩
        walk_at "st"
        (refine ⟨by first | exact le_l1 _ | exact le_l2 _ _ | exact le_l3 _ _ _ | exact le_l5 _ _ _ _ _ | exact le_l0, fun t2 newQ => ?_⟩; obtain ⟨H2, eqQ, e2, q2⟩ := tup_new K newQ; rw [eqQ]; clear eqQ)
        exact kE (by first | trivial | omega) _ _ (e1.trans e2) ⟨t2, rfl, q2⟩
      · obtain ⟨z1, z2, z3, z4, z5, k⟩ := kQ he
        refine ⟨z1, z2, z3, z4, z5, fun y H1 e1 f1 => ?_⟩
        walk_at "st"
        (refine ⟨by first | exact le_l1 _ | exact le_l2 _ _ | exact le_l3 _ _ _ | exact le_l5 _ _ _ _ _ | exact le_l0, fun t2 newQ => ?_⟩; obtain ⟨H2, eqQ, e2, q2⟩ := tup_new K newQ; rw [eqQ]; clear eqQ)
        exact k y _ _ (e1.trans e2) (f1.same e2) ⟨t2, rfl, q2⟩
    · refine u_ite (fun h => absurd h (by decide)) (fun _ => ?_)
      walk_at "st"
      refine u_ite (fun h => absurd h (by decide)) (fun _ => ?_)
      walk_at "st"
      refine ⟨v, u, ml, mr, n, s1, s2, rfl, hv, hu, hn, lml, ln, lmr, fun hl hne d H1 e1 hx => ?_, fun he => ?_⟩
      · have kE := fun (_ : True) => kE ⟨hl, hne⟩
        refine ⟨T.em_WrongWidth, fun ea hea => ⟨rfl, ?_⟩⟩
        walk_at "st"
        refine ⟨_, _, false, _, _, rfl, fun u r => r, T.q_WrongWidth_LimitError, rfl, hx, ?_⟩
        walk_at "st"
        refine ⟨_, _, false, _, _, rfl, fun u r => r, T.q_WrongWidth_Singular, rfl, hx, ?_⟩
        walk_at "st"
        refine ⟨_, _, true, _, _, rfl, fun u r => r, T.q_WrongWidth_SteelyardError, rfl, hx, ?_⟩
        walk_at "st"
        refine ⟨_, _, true, _, _, rfl, fun u r => r, T.q_WrongWidth_ValueError, rfl, hx, ?_⟩
        walk_at "st"
        refine ⟨rfl, rfl, _, _, _, rfl, hx, rfl, ?_⟩
        walk_at "st"
        refine ⟨rfl, rfl, _, _, _, rfl, hx, rfl, ?_⟩
        walk_at "st"
        (refine ⟨by first | exact le_l1 _ | exact le_l2 _ _ | exact le_l3 _ _ _ | exact le_l5 _ _ _ _ _ | exact le_l0, fun t2 newQ => ?_⟩; obtain ⟨H2, eqQ, e2, q2⟩ := tup_new K newQ; rw [eqQ]; clear eqQ)
        exact kE (by first | trivial | omega) _ _ (e1.trans e2) ⟨t2, rfl, q2⟩
      · obtain ⟨z1, z2, z3, z4, z5, k⟩ := kQ he
        refine ⟨z1, z2, z3, z4, z5, fun y H1 e1 f1 => ?_⟩
        walk_at "st"
        (refine ⟨by first | exact le_l1 _ | exact le_l2 _ _ | exact le_l3 _ _ _ | exact le_l5 _ _ _ _ _ | exact le_l0, fun t2 newQ => ?_⟩; obtain ⟨H2, eqQ, e2, q2⟩ := tup_new K newQ; rw [eqQ]; clear eqQ)
        exact k y _ _ (e1.trans e2) (f1.imm e2.imm) ⟨t2, rfl, q2⟩
end
end K01

set_option maxHeartbeats 8000000
namespace K01
open PySem PySem.Spec PyProof.Rows L2 Ly


section
variable {w : World} {K : PySem.W.Frag} {mg : Str → Option Value} {base : Heap}
theorem ite01 (b : Bool) : ∃ z : Int, (if b = true then (1 : Int) else 0) = z ∧ 0 ≤ z ∧ z ≤ 1 ∧ (b = false → z = 0) := by
  cases b with
  | true => exact ⟨1, rfl, by decide, by decide, fun z => nomatch z⟩
  | false => exact ⟨0, rfl, by decide, by decide, fun _ => rfl⟩
theorem GridK.bagL {H H' : Hp} {b : Addr} {n : Nat} {v : V} {m : List (List Rat)} (h : GridK false false K H v m) (hb : BagAt H b n) (e : SameX b H H') : GridK false false K H' v m := by
  obtain ⟨a, xs, rfl, h1, h2⟩ := h
  refine ⟨a, xs, rfl, e _ _ (hb.ne h1 fun r s c z => ?_) h1, h2.mono fun _ _ r => RowK.bag r hb e⟩
  injection z with z
  subst z
  match m, h2 with
  | _ :: _, h2 =>
    obtain ⟨⟨_, _, e, _⟩, _⟩ := h2
    cases e
theorem sz_en {p : List Rat} (h : ∀ q ∈ p, En false q) : Sz 12 p := sz_small fun q hq => (h q hq).2 rfl
theorem wid_of {m : List (List Rat)} {tall wide : Nat} (h1 : m.length = tall) (h2 : ∀ r ∈ m, r.length = wide) (h3 : tall = 0 → wide = 0) : wid m = wide := by
  match m with
  | [] => exact (h3 h1.symm).symm
  | p :: m' => exact h2 p List.mem_cons_self
theorem told_ix {H : Hp} {z y : V} {Q : VK} (h : ToldT K H z y) (c : Q y H) : rIx K z (.int 1) H Q := by
  obtain ⟨t, rfl, h⟩ := h
  exact u_ix (k := ((1 : Nat) : Int)) (.inr h) (atI_nat (j := 1) rfl) c
theorem told_ix0 {H : Hp} {z y : V} {Q : VK} (h : ToldT K H z y) (c : Q (.str "told") H) : rIx K z (.int 0) H Q := by
  obtain ⟨t, rfl, h⟩ := h
  exact u_ix (k := ((0 : Nat) : Int)) (.inr h) (atI_nat (j := 0) rfl) c
theorem u_eqSS {H : Hp} {Q : VK} {i : Str} (h : Q (.bl true) H) : rEqU K (.str i) (.str i) H Q := .inl ⟨rfl, by rw [decide_eq_true rfl]; exact h⟩
theorem ToldT.same {H H' : Hp} {z y : V} (h : ToldT K H z y) (e : Same H H') : ToldT K H' z y := let ⟨t, q, h⟩ := h; ⟨t, q, e.t h⟩
theorem WdT.same {H H' : Hp} {z : V} {n m : Int} (h : WdT K H z n m) (e : Same H H') : WdT K H' z n m := let ⟨t, q, h⟩ := h; ⟨t, q, e.t h⟩
theorem u_len' {H : Hp} {Q : VK} {v : V} {m : List (List Rat)} (h : Grid K H v m) (c : Q (.int m.length) H) : rLenU K [v] H Q := by
  obtain ⟨a, xs, rfl, h1, h2⟩ := h
  refine u_len h1 ?_
  rw [h2.len]
  exact c
def sp_bagonly (K : PySem.W.Frag) : Sp := fun vs H Q _ => ∃ (b : Addr) (j : Nat), vs = [.ref b] ∧ BagAt H b j ∧ j ≤ 1000 ∧ ∀ H', SameX b H H' → Q (.bl true) H'
theorem ok__law_products_right (T : Tx K mg) (hseer : base.NoSeer) : FnOk PP w K mg base CX0 42 T.a__law_products_right T.d__law_products_right ["bag"] (sp_bagonly K) := by
  refine T.F__law_products_right.ok sc__law_products_right (fun vs H Q E h => ?_) (fun cdv A outer s H vs Q E hr h => ?_)
  · obtain ⟨_, _, rfl, _⟩ := h; rfl
  · obtain ⟨b, j, rfl, hb, lj, k⟩ := h
    refine ⟨_, (pss_cons (ps_set (i := 1) (sc__law_products_right).nd rfl (by first | exact Or.inl rfl | exact Or.inr rfl) (pe_op op_mulU pe_int (pe_callTy call_intU (by rfl) T.n_int (by decide +kernel) (pa_cons (pe_cmpR (op_eqU hr.units) (pe_call (ok__law_draw T hseer) (hr.mono (by decide)) rfl T.g__law_draw T.k__law_draw T.b__law_draw .nil pass0 (pa_cons (pv 0) (pa_cons pe_int pa_nil))) pe_int (nomark _)) pa_nil))))
  (pss_cons (ps_set (i := 2) (sc__law_products_right).nd rfl (by first | exact Or.inl rfl | exact Or.inr rfl) (pe_op op_addU (pe_call (ok__law_draw T hseer) (hr.mono (by decide)) rfl T.g__law_draw T.k__law_draw T.b__law_draw .nil pass0 (pa_cons (pv 0) (pa_cons pe_int pa_nil))) (pv 1)))
  (pss_cons (ps_set (i := 3) (sc__law_products_right).nd rfl (by first | exact Or.inl rfl | exact Or.inr rfl) (pe_op op_mulU (pe_op op_addU (pe_call (ok__law_draw T hseer) (hr.mono (by decide)) rfl T.g__law_draw T.k__law_draw T.b__law_draw .nil pass0 (pa_cons (pv 0) (pa_cons pe_int pa_nil))) (pv 1)) (pe_callTy call_intU (by rfl) T.n_int (by decide +kernel) (pa_cons (pe_cmpR op_gt (pv 2) pe_int (nomark _)) pa_nil))))
  (pss_cons (ps_set (i := 4) (sc__law_products_right).nd rfl (by first | exact Or.inl rfl | exact Or.inr rfl) (pv 2))
  (Evl.pss_cut (ps_if (pt_cmpR (op_eqU hr.units) (pe_call (ok__law_draw T hseer) (hr.mono (by decide)) rfl T.g__law_draw T.k__law_draw T.b__law_draw .nil pass0 (pa_cons (pv 0) (pa_cons pe_int pa_nil))) pe_int (nomark _))
   (pss_one (ps_set (i := 4) (sc__law_products_right).nd rfl (by first | exact Or.inl rfl | exact Or.inr rfl) (pe_call (ok__law_draw T hseer) (hr.mono (by decide)) rfl T.g__law_draw T.k__law_draw T.b__law_draw .nil pass0 (pa_cons (pv 0) (pa_cons (pe_op op_addU pe_int (pv 1)) pa_nil)))))
   pss_nil)
  (pss_cons (ps_set (i := 5) (sc__law_products_right).nd rfl (by first | exact Or.inl rfl | exact Or.inr rfl) (pe_call (ok__law_matrix T hseer) (hr.mono (by decide)) rfl T.g__law_matrix T.k__law_matrix T.b__law_matrix .nil pass0 (pa_cons (pv 0) (pa_cons (pv 2) (pa_cons (pv 3) (pa_cons pe_bl pa_nil))))))
  (pss_cons (ps_set (i := 6) (sc__law_products_right).nd rfl (by first | exact Or.inl rfl | exact Or.inr rfl) (pe_call (ok__law_matrix T hseer) (hr.mono (by decide)) rfl T.g__law_matrix T.k__law_matrix T.b__law_matrix .nil pass0 (pa_cons (pv 0) (pa_cons (pe_call (ok__law_draw T hseer) (hr.mono (by decide)) rfl T.g__law_draw T.k__law_draw T.b__law_draw .nil pass0 (pa_cons (pv 0) (pa_cons pe_int pa_nil))) (pa_cons (pv 4) (pa_cons pe_bl pa_nil))))))
  (pss_cons (ps_setLc (i := 7) (own := [("k", 19)]) (by rfl) (sc__law_products_right).nd rfl rfl (sw_true rfl rfl rfl (by decide +kernel)) (pi_range1 rfl T.n_range (pa_cons (pv 4) pa_nil)) (blkOk_by (own := [("k", 19)]) (N := n__law_products_right) (sc := defScope s__law_products_right) (by decide +kernel)) (fun _ _ _ _ _ => (pg_name (i := 19) (sc__law_products_right).nd rfl (by first | exact Or.inl rfl | exact Or.inr rfl))) (fun _ _ _ _ _ => pts_nil) (fun _ _ _ _ _ => (pe_call (ok__law_entry T hseer) (hr.mono (by decide)) rfl T.g__law_entry T.k__law_entry T.b__law_entry .nil pass0 (pa_cons (pv 0) (pa_cons pe_bl pa_nil)))))
  (pss_cons (ps_setLc (i := 8) (own := [("k", 19)]) (by rfl) (sc__law_products_right).nd rfl rfl (sw_true rfl rfl rfl (by decide +kernel)) (pi_range1 rfl T.n_range (pa_cons (pv 2) pa_nil)) (blkOk_by (own := [("k", 19)]) (N := n__law_products_right) (sc := defScope s__law_products_right) (by decide +kernel)) (fun _ _ _ _ _ => (pg_name (i := 19) (sc__law_products_right).nd rfl (by first | exact Or.inl rfl | exact Or.inr rfl))) (fun _ _ _ _ _ => pts_nil) (fun _ _ _ _ _ => (pe_call (ok__law_entry T hseer) (hr.mono (by decide)) rfl T.g__law_entry T.k__law_entry T.b__law_entry .nil pass0 (pa_cons (pv 0) (pa_cons pe_bl pa_nil)))))
  (pss_cons (ps_set (i := 9) (sc__law_products_right).nd rfl (by first | exact Or.inl rfl | exact Or.inr rfl) (pe_call (ok__law_draw T hseer) (hr.mono (by decide)) rfl T.g__law_draw T.k__law_draw T.b__law_draw .nil pass0 (pa_cons (pv 0) (pa_cons pe_int pa_nil))))
  (pss_cons (ps_set (i := 10) (sc__law_products_right).nd rfl (by first | exact Or.inl rfl | exact Or.inr rfl) (pe_call (ok__law_draw T hseer) (hr.mono (by decide)) rfl T.g__law_draw T.k__law_draw T.b__law_draw .nil pass0 (pa_cons (pv 0) (pa_cons pe_int pa_nil))))
  (pss_cons (ps_set (i := 11) (sc__law_products_right).nd rfl (by first | exact Or.inl rfl | exact Or.inr rfl) (pe_cmpR (op_eqU hr.units) (pe_call (ok__law_draw T hseer) (hr.mono (by decide)) rfl T.g__law_draw T.k__law_draw T.b__law_draw .nil pass0 (pa_cons (pv 0) (pa_cons pe_int pa_nil))) pe_int (nomark _)))
  (pss_cons (ps_set (i := 12) (sc__law_products_right).nd rfl (by first | exact Or.inl rfl | exact Or.inr rfl) (pe_call (ok__law_grid T hseer) (hr.mono (by decide)) rfl T.g__law_grid T.k__law_grid T.b__law_grid .nil pass0 (pa_cons (pv 5) (pa_cons (pv 9) pa_nil))))
  (pss_cons (ps_set (i := 13) (sc__law_products_right).nd rfl (by first | exact Or.inl rfl | exact Or.inr rfl) (pe_call (ok__law_grid T hseer) (hr.mono (by decide)) rfl T.g__law_grid T.k__law_grid T.b__law_grid .nil pass0 (pa_cons (pv 6) (pa_cons (pv 10) pa_nil))))
  (pss_cons (ps_set (i := 14) (sc__law_products_right).nd rfl (by first | exact Or.inl rfl | exact Or.inr rfl) (pe_call (ok__law_given T hseer) (hr.mono (by decide)) rfl T.g__law_given T.k__law_given T.b__law_given .nil pass0 (pa_cons (pv 7) (pa_cons (pv 11) pa_nil))))
  (pss_cons (ps_set (i := 15) (sc__law_products_right).nd rfl (by first | exact Or.inl rfl | exact Or.inr rfl) (pe_call (ok__law_given T hseer) (hr.mono (by decide)) rfl T.g__law_given T.k__law_given T.b__law_given .nil pass0 (pa_cons (pv 8) (pa_cons (pe_not (pv 11)) pa_nil))))
  (pss_cons (ps_set (i := 16) (sc__law_products_right).nd rfl (by first | exact Or.inl rfl | exact Or.inr rfl) (pe_call (ok__law_product_told T hseer) (hr.mono (by decide)) rfl T.g__law_product_told T.k__law_product_told T.b__law_product_told .nil pass0 (pa_cons (pv 14) (pa_cons (pv 15) (pa_cons pe_int pa_nil)))))
  (pss_cons (ps_set (i := 17) (sc__law_products_right).nd rfl (by first | exact Or.inl rfl | exact Or.inr rfl) (pe_call (ok__law_product_told T hseer) (hr.mono (by decide)) rfl T.g__law_product_told T.k__law_product_told T.b__law_product_told .nil pass0 (pa_cons (pv 14) (pa_cons (pv 12) (pa_cons pe_int pa_nil)))))
  (pss_cons (ps_set (i := 18) (sc__law_products_right).nd rfl (by first | exact Or.inl rfl | exact Or.inr rfl) (pe_call (ok__law_product_told T hseer) (hr.mono (by decide)) rfl T.g__law_product_told T.k__law_product_told T.b__law_product_told .nil pass0 (pa_cons (pv 13) (pa_cons (pv 12) (pa_cons pe_int pa_nil)))))
  (pss_cons (ps_if (PW.pt (pw_or (pt_cmpR (op_neU hr.units) (pv 14) (pe_call (ok__law_given T hseer) (hr.mono (by decide)) rfl T.g__law_given T.k__law_given T.b__law_given .nil pass0 (pa_cons (pv 7) (pa_cons (pv 11) pa_nil))) (nomark _)) (pw_or1 (pt_cmpR (op_neU hr.units) (pv 15) (pe_call (ok__law_given T hseer) (hr.mono (by decide)) rfl T.g__law_given T.k__law_given T.b__law_given .nil pass0 (pa_cons (pv 8) (pa_cons (pe_not (pv 11)) pa_nil))) (nomark _)))))
   (pss_one (ps_ret pe_bl))
   pss_nil)
  (pss_cons (ps_if (PW.pt (pw_or (pt_cmpR (op_neU hr.units) (pv 12) (pe_call (ok__law_grid T hseer) (hr.mono (by decide)) rfl T.g__law_grid T.k__law_grid T.b__law_grid .nil pass0 (pa_cons (pv 5) (pa_cons (pv 9) pa_nil))) (nomark _)) (pw_or1 (pt_cmpR (op_neU hr.units) (pv 13) (pe_call (ok__law_grid T hseer) (hr.mono (by decide)) rfl T.g__law_grid T.k__law_grid T.b__law_grid .nil pass0 (pa_cons (pv 6) (pa_cons (pv 10) pa_nil))) (nomark _)))))
   (pss_one (ps_ret pe_bl))
   pss_nil)
  (Evl.pss_cut (ps_if (pt_cmpR (op_neU hr.units) (pv 4) (pv 2) (nomark _))
   (pss_one (ps_if (PW.pt (pw_or (pt_cmpR (op_neU hr.units) (pv 16) (pe_tup (pa_cons pe_str (pa_cons (pv 4) (pa_cons (pv 2) (pa_cons pe_bl (pa_cons pe_bl pa_nil)))))) (nomark _)) (pw_or1 (pt_cmpR (op_neU hr.units) (pv 17) (pe_tup (pa_cons pe_str (pa_cons (pv 2) (pa_cons (pv 4) (pa_cons pe_bl (pa_cons pe_bl pa_nil)))))) (nomark _)))))
   (pss_one (ps_ret pe_bl))
   pss_nil))
   (pss_cons (ps_if (PW.pt (pw_or (pt_cmpR (op_neU hr.units) (pe_ix ix_seq (pv 16) pe_int (fun _ _ => rfl)) pe_str (nomark _)) (pw_or1 (pt_not (pt_truthU (pe_call (ok__law_equal T hseer) (hr.mono (by decide)) rfl T.g__law_equal T.k__law_equal T.b__law_equal .nil pass0 (pa_cons (pe_ix ix_seq (pv 16) pe_int (fun _ _ => rfl)) (pa_cons (pe_call (ok__law_dot T hseer) (hr.mono (by decide)) rfl T.g__law_dot T.k__law_dot T.b__law_dot .nil pass0 (pa_cons (pv 7) (pa_cons (pv 8) pa_nil))) pa_nil))) (fun _ => rfl))))))
   (pss_one (ps_ret pe_bl))
   pss_nil)
  (pss_one (ps_if (PW.pt (pw_or (pt_cmpR (op_neU hr.units) (pe_ix ix_seq (pv 17) pe_int (fun _ _ => rfl)) pe_str (nomark _)) (pw_or1 (pt_not (pt_truthU (pe_call (ok__law_row_equal T hseer) (hr.mono (by decide)) rfl T.g__law_row_equal T.k__law_row_equal T.b__law_row_equal .nil pass0 (pa_cons (pe_ix ix_seq (pv 17) pe_int (fun _ _ => rfl)) (pa_cons (pe_call (ok__law_row_times T hseer) (hr.mono (by decide)) rfl T.g__law_row_times T.k__law_row_times T.b__law_row_times .nil pass0 (pa_cons (pv 7) (pa_cons (pv 5) pa_nil))) pa_nil))) (fun _ => rfl))))))
   (pss_one (ps_ret pe_bl))
   pss_nil))))
  (pss_cons (ps_if (PW.pt (pw_and (pt_cmpR (op_neU hr.units) (pv 4) (pv 2) (nomark _)) (pw_and1 (pt_cmpR op_gt (pe_callB call_lenU (by rfl) T.n_len (by decide +kernel) (pa_cons (pv 6) pa_nil)) pe_int (nomark _)))))
   (pss_one (ps_ret (pe_cmpR (op_eqU hr.units) (pv 18) (pe_tup (pa_cons pe_str (pa_cons (pv 2) (pa_cons (pv 4) (pa_cons pe_bl (pa_cons pe_bl pa_nil)))))) (nomark _))))
   pss_nil)
  (pss_one (ps_ret (pe_and (pe_cmpR (op_eqU hr.units) (pe_ix ix_seq (pv 18) pe_int (fun _ _ => rfl)) pe_str (nomark _)) (pe_one (pe_call (ok__law_rows_equal T hseer) (hr.mono (by decide)) rfl T.g__law_rows_equal T.k__law_rows_equal T.b__law_rows_equal .nil pass0 (pa_cons (pe_ix ix_seq (pv 18) pe_int (fun _ _ => rfl)) (pa_cons (pe_lc (own := [("one", 20)]) rfl (sc__law_products_right).nd (pi_seqA (pv 6)) (blkOk_by (own := [("one", 20)]) (N := n__law_products_right) (sc := defScope s__law_products_right) (by decide +kernel)) (fun _ _ _ _ _ => (pg_name (i := 20) (sc__law_products_right).nd rfl (by first | exact Or.inl rfl | exact Or.inr rfl))) (fun _ _ _ _ _ => pts_nil) (fun _ _ _ _ _ => (pe_call (ok__law_row_times T hseer) (hr.mono (by decide)) rfl T.g__law_row_times T.k__law_row_times T.b__law_row_times .nil pass0 (pa_cons (pv 20) (pa_cons (pv 5) pa_nil))))) pa_nil)))))))))))))))))))))))))))))), ?_⟩
    walk_at "go"
    refine ⟨b, 8, j, rfl, by decide, hb, by omega, fun d1 H1 d10 d11 hb1 e1 => ?_⟩
    walk_at "st"
    obtain ⟨mo, hmo, mo0, mo1, -⟩ := ite01 (decide (d1 = 0))
    rw [hmo]
    walk_at "st"
    refine ⟨b, 5, j + 1, rfl, by decide, hb1, by omega, fun d2 H2 d20 d21 hb2 e2 => ?_⟩
    walk_at "st"
    refine ⟨b, 5, j + 2, rfl, by decide, hb2, by omega, fun d3 H3 d30 d31 hb3 e3 => ?_⟩
    walk_at "st"
    obtain ⟨tp, htp, tp0, tp1, tpz⟩ := ite01 (decide (d2 + 4 * mo > 0))
    rw [htp]
    walk_at "st"
    obtain ⟨tall, htall⟩ : ∃ n : Nat, d2 + 4 * mo = (n : Int) := ⟨(d2 + 4 * mo).toNat, by omega⟩
    have hwz : 0 ≤ (d3 + 4 * mo) * tp ∧ (d3 + 4 * mo) * tp ≤ 8 ∧ (tall = 0 → (d3 + 4 * mo) * tp = 0) := by
      have : tp = 0 ∨ tp = 1 := by omega
      rcases this with rfl | rfl
      · rw [Int.mul_zero]; exact ⟨by decide, by decide, fun _ => rfl⟩
      · rw [Int.mul_one]
        refine ⟨by omega, by omega, fun z => ?_⟩
        have := tpz (decide_eq_false (by omega))
        omega
    obtain ⟨wide, hwide⟩ : ∃ n : Nat, (d3 + 4 * mo) * tp = (n : Int) := ⟨((d3 + 4 * mo) * tp).toNat, by omega⟩
    rw [hwide] at hwz ⊢
    rw [htall]
    have e13 := (e1.trans e2).trans e3
    refine u_cutC (fun σ' H' => ∃ wd : Nat, σ' = [some (.ref b), some (.int (4 * mo)), some (.int tall), some (.int wide), some (.int wd), none, none, none, none, none, none, none, none, none, none, none, none, none, none, none, none] ∧ wd ≤ 9 ∧ BagAt H' b (j + 5) ∧ SameX b H H') ?_ ?_
    · walk_at "st"
      refine ⟨b, 3, j + 3, rfl, by decide, hb3, by omega, fun d4 H4 d40 d41 hb4 e4 => ?_⟩
      walk_at "st"
      refine u_ite (fun h => ?_) (fun h => ?_)
      · walk_at "st"
        refine ⟨b, 6 + 4 * mo, j + 4, rfl, by omega, hb4, by omega, fun d5 H5 d50 d51 hb5 e5 => ?_⟩
        obtain ⟨d5, rfl⟩ := Int.eq_ofNat_of_zero_le d50
        walk_at "st"
        exact ⟨_, rfl, by omega, hb5, (e13.trans e4).trans e5⟩
      · walk_at "st"
        exact ⟨_, rfl, by omega, hb4.mono (by omega), e13.trans e4⟩
    rintro σ' H4 ⟨wd, rfl, wd9, hb4, e4⟩
    walk_at "st"
    have tw : tall * wide ≤ 64 := Nat.le_trans (Nat.mul_le_mul (show tall ≤ 8 by omega) (show wide ≤ 8 by omega)) (by decide)
    refine ⟨b, j + 5, tall, wide, false, rfl, hb4, by omega, by omega, by omega, fun vm m H5 gm lm hm hb5 e5 => ?_⟩
    walk_at "st"
    refine ⟨b, 4, _, rfl, by decide, hb5, by omega, fun d6 H6 d60 d61 hb6 e6 => ?_⟩
    obtain ⟨nl, rfl⟩ := Int.eq_ofNat_of_zero_le d60
    walk_at "st"
    have nw : nl * wd ≤ 27 := Nat.le_trans (Nat.mul_le_mul (show nl ≤ 3 by omega) (show wd ≤ 9 by omega)) (by decide)
    refine ⟨b, _, nl, wd, false, rfl, hb6, by omega, by omega, by omega, fun vl l H7 gl ll hl hb7 e7 => ?_⟩
    have gm6 := GridK.bagL gm hb5 e6
    have gm7 := GridK.bagL gm6 hb6 e7
    walk_at "st"
    refine u_rng1 (by omega) ?_
    refine lc_entries (K := K) (wide := wd) (large := false) hb7 (by omega) (fun i H6 Q' q => ?_) (fun Dr r H8 Lr => ?_)
    · walk_at "st"
      refine ⟨rfl, ?_⟩
      walk_at "st"
      exact q
    walk_at "st"
    refine u_rng1 (by omega) ?_
    refine lc_entries (K := K) (wide := tall) (large := false) Lr.bag (by omega) (fun i H6 Q' q => ?_) (fun Dc c H9 Lc => ?_)
    · walk_at "st"
      refine ⟨rfl, ?_⟩
      walk_at "st"
      exact q
    have gm9 := GridK.bagL (GridK.bagL gm7 hb7 Lr.sm) Lr.bag Lc.sm
    have gl9 := GridK.bagL (GridK.bagL gl hb7 Lr.sm) Lr.bag Lc.sm
    have r9 := Lr.row.bag Lr.bag Lc.sm
    have c9 := Lc.row
    have lr := Lr.len
    have lc := Lc.len
    have hr9 := Lr.en
    have hc9 := Lc.en
    have e09 : SameX b H H9 := ((((e4.trans e5).trans e6).trans e7).trans Lr.sm).trans Lc.sm
    have hb9 := Lc.bag
    walk_at "st"
    refine ⟨b, 4, _, rfl, by decide, hb9, by omega, fun wy H10 wy0 wy1 hb10 e10 => ?_⟩
    walk_at "st"
    refine ⟨b, 4, _, rfl, by decide, hb10, by omega, fun ot H11 ot0 ot1 hb11 e11 => ?_⟩
    walk_at "st"
    refine ⟨b, 2, _, rfl, by decide, hb11, by omega, fun al H12 al0 al1 hb12 e12 => ?_⟩
    have gm12 := GridK.bagL (GridK.bagL (GridK.bagL gm9 hb9 e10) hb10 e11) hb11 e12
    have gl12 := GridK.bagL (GridK.bagL (GridK.bagL gl9 hb9 e10) hb10 e11) hb11 e12
    have r12 := ((r9.bag hb9 e10).bag hb10 e11).bag hb11 e12
    have c12 := ((c9.bag hb9 e10).bag hb10 e11).bag hb11 e12
    have e012 : SameX b H H12 := ((e09.trans e10).trans e11).trans e12
    have fin : ∀ H', Same H12 H' → Q (.bl true) H' := fun H' e => k H' (e012.trans e.x)
    clear k e1 e2 e3 e4 e5 e6 e7 e10 e11 e12 e09 e13 hb hb1 hb2 hb3 hb4 hb5 hb6 hb7 hb9 hb10 hb11 hb12 gm9 gl9 gm7 gm6 gm gl r9 c9 Lr Lc
    walk_at "st"
    generalize decide (al = 1) = as_
    have szm : Sz 12 m.flatten := sz_en fun q hq => by
      obtain ⟨r, hr, hq⟩ := List.mem_flatten.mp hq
      exact (hm r hr).2 q hq
    have szr : Sz 12 r := sz_en hr9
    have szc : Sz 12 c := sz_en hc9
    have szcol : ∀ j, Sz 12 (m.map fun r => cf r j) := fun j => szm.sub fun q hq => by
      obtain ⟨r, hr, rfl⟩ := List.mem_map.mp hq
      by_cases hj : j < r.length
      · exact .inl (List.mem_flatten.mpr ⟨r, hr, cf_mem hj⟩)
      · exact .inr (cf_out (by omega))
    have szl : ∀ p ∈ l, Sz 12 p := fun p hp => sz_en (hl p hp).2
    have hwid : wid m = wide := wid_of lm (fun r hr => (hm r hr).1) (fun z => by have := hwz.2.2 z; omega)
    have hrw : ∀ p ∈ m, p.length = wid m := fun p hp => by rw [hwid]; exact (hm p hp).1
    have hlw : ∀ p ∈ l, p.length = wd := fun p hp => (hl p hp).1
    refine ⟨vm, wy, m, rfl, gm12.grid, by omega, fun gv H13 e13 g13 => ?_⟩
    walk_at "st"
    refine ⟨vl, ot, l, rfl, (gl12.same e13).grid, by omega, fun mn H14 e14 g14 => ?_⟩
    walk_at "st"
    refine ⟨.ref Dr, as_, r, rfl, (r12.row.same (e13.trans e14)), fun ln H15 e15 r15 _ => ?_⟩
    walk_at "st"
    refine ⟨.ref Dc, !as_, c, rfl, (c12.row.same ((e13.trans e14).trans e15)), fun up H16 e16 r16 _ => ?_⟩
    have e1216 := ((e13.trans e14).trans e15).trans e16
    have G13 := (g13.same e14).same (e15.trans e16)
    have G14 := g14.same (e15.trans e16)
    have R15 := r15.same e16
    have m16 := gm12.same e1216
    have l16 := gl12.same e1216
    have R16 := r12.row.same e1216
    have C16 := c12.row.same e1216
    have fin : ∀ H', Same H16 H' → Q (.bl true) H' := fun H' e => fin H' (e1216.trans e)
    clear e13 e14 e15 e16 e1216 g13 g14 r15 gm12 gl12 r12 c12
    walk_at "st"
    -- the three answers
    have firstC : ∀ (P : VK), (wd ≠ tall → ∀ z H', Same H16 H' → WdT K H' z wd tall → P z H') → (wd = tall → ∀ y z H', Same H16 H' → Fr K H' y (sumTo r.length fun i => cf r i * cf c i) → ToldT K H' z y → P z H') → sp_ptold T [.ref ln, .ref up, .int 0] H16 P E0 := fun P kE kQ =>
      ⟨_, _, 0, rfl, .inl ⟨rfl, r, c, 12, 12, R15.row, r16.row, by omega, by omega, fun hne z H' e hz => kE (by omega) z H' e (by rw [← lr, ← lc]; exact hz), fun he => ⟨szr, szc, by omega, fun y z H' e f t => kQ (by omega) y z H' e f t⟩⟩⟩
    have secondC : ∀ (H17 : Hp) (P : VK), Same H16 H17 → (wd ≠ tall → ∀ z H', Same H17 H' → WdT K H' z tall wd → P z H') → (wd = tall → ∀ y z H', Same H17 H' → RowT K H' y (combL r m (wid m)) → ToldT K H' z y → P z H') → sp_ptold T [.ref ln, gv, .int 1] H17 P E0 := fun H17 P e kE kQ =>
      ⟨_, _, 1, rfl, .inr (.inl ⟨rfl, r, m, 12, 12, (R15.same e).row, (G13.same e).grid, by omega, by omega, fun hne z H' e hz => kE (by omega) z H' e (by rw [← lr, ← lm]; exact hz), fun he => ⟨by omega, hrw, szr, szm, by omega, fun y z H' e f t => kQ (by omega) y z H' e f t⟩⟩)⟩
    have thirdC : ∀ (H17 : Hp) (P : VK), Same H16 H17 → (0 < nl ∧ wd ≠ tall → ∀ z H', Same H17 H' → WdT K H' z tall wd → P z H') → ((nl = 0 ∨ wd = tall) → ∀ y z H', Same H17 H' → GridT K H' y (mulM l m) → ToldT K H' z y → P z H') → sp_ptold T [mn, gv, .int 2] H17 P E0 := fun H17 P e kE kQ =>
      ⟨_, _, 2, rfl, .inr (.inr ⟨rfl, l, m, wd, 12, 12, (G14.same e).grid, (G13.same e).grid, hlw, by omega, by omega, by omega, fun hne z H' e hz => kE (by omega) z H' e (by rw [← lm]; exact hz), fun he => ⟨by omega, hrw, szl, szm, by omega, fun y z H' e f t => kQ (by omega) y z H' e f t⟩⟩)⟩
    -- nothing was changed
    have lineC : ∀ (H17 : Hp) (P : VK), Same H16 H17 → (∀ y H', Same H17 H' → RowK (!as_) K H' (.ref y) r → P (.ref y) H') → sp_given K [.ref Dr, .bl as_] H17 P E0 := fun H17 P e f => ⟨_, as_, r, rfl, R16.same e, fun y H' e' q _ => f y H' e' q⟩
    have upC : ∀ (H17 : Hp) (P : VK), Same H16 H17 → (∀ y H', Same H17 H' → RowK (!!as_) K H' (.ref y) c → P (.ref y) H') → sp_given K [.ref Dc, .bl (!as_)] H17 P E0 := fun H17 P e f => ⟨_, !as_, c, rfl, C16.same e, fun y H' e' q _ => f y H' e' q⟩
    have gvC : ∀ (H17 : Hp) (P : VK), Same H16 H17 → (∀ y H', Same H17 H' → GridK (decide (wy ≠ 0 ∧ wy ≠ 2)) (decide (wy = 1 ∨ wy = 2)) K H' y m → P y H') → sp_grid K [vm, .int wy] H17 P E0 := fun H17 P e f => ⟨_, wy, m, rfl, (m16.same e).grid, by omega, fun y H' e' q => f y H' e' q⟩
    have mnC : ∀ (H17 : Hp) (P : VK), Same H16 H17 → (∀ y H', Same H17 H' → GridK (decide (ot ≠ 0 ∧ ot ≠ 2)) (decide (ot = 1 ∨ ot = 2)) K H' y l → P y H') → sp_grid K [vl, .int ot] H17 P E0 := fun H17 P e f => ⟨_, ot, l, rfl, (l16.same e).grid, by omega, fun y H' e' q => f y H' e' q⟩
    by_cases hwt : wd = tall
    · refine firstC _ (fun z => absurd hwt z) fun _ y1 z1 H17 e17 f17 t17 => ?_
      walk_at "st"
      refine secondC _ _ e17 (fun z => absurd hwt z) fun _ y2 z2 H18 e18 f18 t18 => ?_
      walk_at "st"
      refine thirdC _ _ (e17.trans e18) (fun z => absurd hwt z.2) fun _ y3 z3 H19 e19 f19 t19 => ?_
      walk_at "st"
      have e1619 := (e17.trans e18).trans e19
      refine lineC _ _ e1619 fun y4 H20 e20 q20 => ?_
      walk_at "st"
      refine u_neRowK (R15.same (e1619.trans e20)) q20 ?_
      walk_at "st"
      refine upC _ _ (e1619.trans e20) fun y5 H21 e21 q21 => ?_
      walk_at "st"
      refine u_neRowK (r16.same ((e1619.trans e20).trans e21)) q21 ?_
      walk_at "st"
      refine gvC _ _ ((e1619.trans e20).trans e21) fun y6 H22 e22 q22 => ?_
      walk_at "st"
      refine u_neGridK (G13.same (((e1619.trans e20).trans e21).trans e22)) q22 ?_
      walk_at "st"
      refine mnC _ _ (((e1619.trans e20).trans e21).trans e22) fun y7 H23 e23 q23 => ?_
      walk_at "st"
      refine u_neGridK (G14.same ((((e1619.trans e20).trans e21).trans e22).trans e23)) q23 ?_
      walk_at "st"
      have e1923 := ((e20.trans e21).trans e22).trans e23
      have e1623 := e1619.trans e1923
      have hI : (wd : Int) = (tall : Int) := by omega
      refine u_cutC (fun σ' H' => σ' = [some (.ref b), some (.int (4 * mo)), some (.int tall), some (.int wide), some (.int wd), some vm, some vl, some (.ref Dr), some (.ref Dc), some (.int wy), some (.int ot), some (.bl as_), some gv, some mn, some (.ref ln), some (.ref up), some z1, some z2, some z3, none, none] ∧ Same H23 H') ?_ ?_
      · walk_at "st"
        refine u_iteN (fun h => absurd hI h) (fun _ => ?_)
        walk_at "st"
        refine told_ix0 (t17.same ((e18.trans e19).trans e1923)) ?_
        walk_at "st"
        refine u_neSS ?_
        walk_at "st"
        refine told_ix (t17.same ((e18.trans e19).trans e1923)) ?_
        walk_at "st"
        refine ⟨_, _, r, c, 12, 12, rfl, (R16.same e1623), (C16.same e1623), by omega, by omega, szr, szc, by omega, fun y5 H24 e24 f24 => ?_⟩
        walk_at "st"
        refine ⟨_, _, _, rfl, f17.same (((e18.trans e19).trans e1923).trans e24), f24, ?_⟩
        walk_at "st"
        refine told_ix0 (t18.same ((e19.trans e1923).trans e24)) ?_
        walk_at "st"
        refine u_neSS ?_
        walk_at "st"
        refine told_ix (t18.same ((e19.trans e1923).trans e24)) ?_
        walk_at "st"
        refine ⟨_, _, r, m, 12, 12, rfl, (R16.same (e1623.trans e24)), (m16.same (e1623.trans e24)).grid, by omega, by omega, by omega, hrw, szr, szcol, by omega, fun D25 H25 L25 => ?_⟩
        walk_at "st"
        refine ⟨_, _, _, rfl, f18.same (((e19.trans e1923).trans e24).trans L25.1), L25.row.row, by rw [combL_len]; omega, ?_⟩
        walk_at "st"
        exact ⟨rfl, e24.trans L25.1⟩
      rintro σ' H24 ⟨rfl, e24⟩
      walk_at "st"
      refine u_iteN (fun h => absurd hI h) (fun _ => ?_)
      walk_at "st"
      refine told_ix0 (t19.same (e1923.trans e24)) ?_
      walk_at "st"
      refine u_eqSS ?_
      walk_at "st"
      refine told_ix (t19.same (e1923.trans e24)) ?_
      walk_at "st"
      obtain ⟨al, xl, hal, sal, ral⟩ := (l16.same (e1623.trans e24)).grid
      subst hal
      have lral := ral.len
      refine seqB_go (Same.refl _) sal fun J G hG hw => ?_
      refine lcK hw (fun D i acc H' => LocR false K H24 D H' ((mulM l m).take i)) (fun D hD => LocR.new hD (Same.refl H24)) (fun D i acc H4 hD hi L => hG _ L.1) (fun D i acc x H4 H5 hD hi L y => ?_) (fun D acc H4 hD L => ?_)
      · obtain ⟨rfl, y2⟩ := y
        have e := L.1
        have hi' : i < l.length := by omega
        have hp : l[i]? = some l[i] := List.getElem?_eq_getElem hi'
        obtain ⟨v, hv, hr⟩ := ral.at hp
        have y2 : xl[i]? = some x := y2
        rw [hv] at y2
        cases y2
        have hlen := hlw _ (List.getElem_mem hi')
        walk_at "st"
        refine ⟨rfl, ?_⟩
        walk_at "st"
        have hd : nl = 0 ∨ wd = tall := (.inr hwt)
        refine ⟨_, _, l[i], m, 12, 12, rfl, hr.same e, ((m16.same (e1623.trans e24)).same e).grid, by omega, by omega, by omega, hrw, szl _ (List.getElem_mem hi'), szcol, by omega, fun D6 H6 L6 => ?_⟩
        refine lcLocR (t := false) (L.ext L6.1) (by unfold mulM; rw [List.length_take, List.length_map]; omega) L6.row (fun _ => L6.neR ?_) fun acc H7 L7 => ?_
        · obtain ⟨_, _, ws, z, _⟩ := L
          rw [z]; exact fun q => nomatch q
        · have : (mulM l m)[i]? = some (combL l[i] m (wid m)) := by
            unfold mulM
            rw [List.getElem?_map, hp]
            rfl
          rw [← take_more this]
          exact L7
      · rw [List.take_of_length_le (by unfold mulM; rw [List.length_map]; omega)] at L
        walk_at "st"
        refine ⟨_, _, mulM l m, rfl, (f19.imm (e1923.trans e24).imm).imm L.1.imm, L.grid.grid, by unfold mulM; rw [List.length_map]; omega, fun p hp => ?_, ?_⟩
        · unfold mulM at hp
          obtain ⟨q, _, rfl⟩ := List.mem_map.mp hp
          rw [combL_len]; omega
        exact fin _ ((e1623.trans e24).trans L.1)
    · have hI : ¬ (wd : Int) = (tall : Int) := by omega
      refine firstC _ (fun _ z1 H17 e17 w17 => ?_) fun z => absurd z hwt
      walk_at "st"
      refine secondC _ _ e17 (fun _ z2 H18 e18 w18 => ?_) fun z => absurd z hwt
      walk_at "st"
      by_cases hnl : nl = 0
      · refine thirdC _ _ (e17.trans e18) (fun z => absurd z.1 (by omega)) fun _ y3 z3 H19 e19 f19 t19 => ?_
        walk_at "st"
        have e1619 := (e17.trans e18).trans e19
        refine lineC _ _ e1619 fun y4 H20 e20 q20 => ?_
        walk_at "st"
        refine u_neRowK (R15.same (e1619.trans e20)) q20 ?_
        walk_at "st"
        refine upC _ _ (e1619.trans e20) fun y5 H21 e21 q21 => ?_
        walk_at "st"
        refine u_neRowK (r16.same ((e1619.trans e20).trans e21)) q21 ?_
        walk_at "st"
        refine gvC _ _ ((e1619.trans e20).trans e21) fun y6 H22 e22 q22 => ?_
        walk_at "st"
        refine u_neGridK (G13.same (((e1619.trans e20).trans e21).trans e22)) q22 ?_
        walk_at "st"
        refine mnC _ _ (((e1619.trans e20).trans e21).trans e22) fun y7 H23 e23 q23 => ?_
        walk_at "st"
        refine u_neGridK (G14.same ((((e1619.trans e20).trans e21).trans e22).trans e23)) q23 ?_
        walk_at "st"
        have e1923 := ((e20.trans e21).trans e22).trans e23
        have e1623 := e1619.trans e1923
        refine u_cutC (fun σ' H' => σ' = [some (.ref b), some (.int (4 * mo)), some (.int tall), some (.int wide), some (.int wd), some vm, some vl, some (.ref Dr), some (.ref Dc), some (.int wy), some (.int ot), some (.bl as_), some gv, some mn, some (.ref ln), some (.ref up), some z1, some z2, some z3, none, none] ∧ Same H23 H') ?_ ?_
        · walk_at "st"
          refine u_iteN (fun _ => ?_) (fun h => absurd h hI)
          walk_at "st"
          (refine ⟨by first | exact le_l1 _ | exact le_l2 _ _ | exact le_l3 _ _ _ | exact le_l5 _ _ _ _ _ | exact le_l0, fun t24 newQ => ?_⟩; obtain ⟨H24, eqQ, e24, q24⟩ := tup_new K newQ; rw [eqQ]; clear eqQ)
          refine u_neWd (w17.same (((e18.trans e19).trans e1923).trans e24)) ⟨t24, rfl, q24⟩ ?_
          walk_at "st"
          (refine ⟨by first | exact le_l1 _ | exact le_l2 _ _ | exact le_l3 _ _ _ | exact le_l5 _ _ _ _ _ | exact le_l0, fun t25 newQ => ?_⟩; obtain ⟨H25, eqQ, e25, q25⟩ := tup_new K newQ; rw [eqQ]; clear eqQ)
          refine u_neWd (w18.same (((e19.trans e1923).trans e24).trans e25)) ⟨t25, rfl, q25⟩ ?_
          walk_at "st"
          exact ⟨rfl, e24.trans e25⟩
        rintro σ' H24 ⟨rfl, e24⟩
        walk_at "st"
        refine u_iteN (fun _ => ?_) (fun h => absurd h hI)
        walk_at "st"
        refine u_len' (l16.same (e1623.trans e24)).grid ?_
        walk_at "st"
        refine u_ite (fun h => absurd h (by omega)) (fun _ => ?_)
        walk_at "st"
        refine told_ix0 (t19.same (e1923.trans e24)) ?_
        walk_at "st"
        refine u_eqSS ?_
        walk_at "st"
        refine told_ix (t19.same (e1923.trans e24)) ?_
        walk_at "st"
        obtain ⟨al, xl, hal, sal, ral⟩ := (l16.same (e1623.trans e24)).grid
        subst hal
        have lral := ral.len
        refine seqB_go (Same.refl _) sal fun J G hG hw => ?_
        refine lcK hw (fun D i acc H' => LocR false K H24 D H' ((mulM l m).take i)) (fun D hD => LocR.new hD (Same.refl H24)) (fun D i acc H4 hD hi L => hG _ L.1) (fun D i acc x H4 H5 hD hi L y => ?_) (fun D acc H4 hD L => ?_)
        · obtain ⟨rfl, y2⟩ := y
          have e := L.1
          have hi' : i < l.length := by omega
          have hp : l[i]? = some l[i] := List.getElem?_eq_getElem hi'
          obtain ⟨v, hv, hr⟩ := ral.at hp
          have y2 : xl[i]? = some x := y2
          rw [hv] at y2
          cases y2
          have hlen := hlw _ (List.getElem_mem hi')
          walk_at "st"
          refine ⟨rfl, ?_⟩
          walk_at "st"
          have hd : nl = 0 ∨ wd = tall := (.inl hnl)
          refine ⟨_, _, l[i], m, 12, 12, rfl, hr.same e, ((m16.same (e1623.trans e24)).same e).grid, by omega, by omega, by omega, hrw, szl _ (List.getElem_mem hi'), szcol, by omega, fun D6 H6 L6 => ?_⟩
          refine lcLocR (t := false) (L.ext L6.1) (by unfold mulM; rw [List.length_take, List.length_map]; omega) L6.row (fun _ => L6.neR ?_) fun acc H7 L7 => ?_
          · obtain ⟨_, _, ws, z, _⟩ := L
            rw [z]; exact fun q => nomatch q
          · have : (mulM l m)[i]? = some (combL l[i] m (wid m)) := by
              unfold mulM
              rw [List.getElem?_map, hp]
              rfl
            rw [← take_more this]
            exact L7
        · rw [List.take_of_length_le (by unfold mulM; rw [List.length_map]; omega)] at L
          walk_at "st"
          refine ⟨_, _, mulM l m, rfl, (f19.imm (e1923.trans e24).imm).imm L.1.imm, L.grid.grid, by unfold mulM; rw [List.length_map]; omega, fun p hp => ?_, ?_⟩
          · unfold mulM at hp
            obtain ⟨q, _, rfl⟩ := List.mem_map.mp hp
            rw [combL_len]; omega
          exact fin _ ((e1623.trans e24).trans L.1)
      · refine thirdC _ _ (e17.trans e18) (fun _ z3 H19 e19 w19 => ?_) fun z => absurd z (by omega)
        walk_at "st"
        have e1619 := (e17.trans e18).trans e19
        refine lineC _ _ e1619 fun y4 H20 e20 q20 => ?_
        walk_at "st"
        refine u_neRowK (R15.same (e1619.trans e20)) q20 ?_
        walk_at "st"
        refine upC _ _ (e1619.trans e20) fun y5 H21 e21 q21 => ?_
        walk_at "st"
        refine u_neRowK (r16.same ((e1619.trans e20).trans e21)) q21 ?_
        walk_at "st"
        refine gvC _ _ ((e1619.trans e20).trans e21) fun y6 H22 e22 q22 => ?_
        walk_at "st"
        refine u_neGridK (G13.same (((e1619.trans e20).trans e21).trans e22)) q22 ?_
        walk_at "st"
        refine mnC _ _ (((e1619.trans e20).trans e21).trans e22) fun y7 H23 e23 q23 => ?_
        walk_at "st"
        refine u_neGridK (G14.same ((((e1619.trans e20).trans e21).trans e22).trans e23)) q23 ?_
        walk_at "st"
        have e1923 := ((e20.trans e21).trans e22).trans e23
        have e1623 := e1619.trans e1923
        refine u_cutC (fun σ' H' => σ' = [some (.ref b), some (.int (4 * mo)), some (.int tall), some (.int wide), some (.int wd), some vm, some vl, some (.ref Dr), some (.ref Dc), some (.int wy), some (.int ot), some (.bl as_), some gv, some mn, some (.ref ln), some (.ref up), some z1, some z2, some z3, none, none] ∧ Same H23 H') ?_ ?_
        · walk_at "st"
          refine u_iteN (fun _ => ?_) (fun h => absurd h hI)
          walk_at "st"
          (refine ⟨by first | exact le_l1 _ | exact le_l2 _ _ | exact le_l3 _ _ _ | exact le_l5 _ _ _ _ _ | exact le_l0, fun t24 newQ => ?_⟩; obtain ⟨H24, eqQ, e24, q24⟩ := tup_new K newQ; rw [eqQ]; clear eqQ)
          refine u_neWd (w17.same (((e18.trans e19).trans e1923).trans e24)) ⟨t24, rfl, q24⟩ ?_
          walk_at "st"
          (refine ⟨by first | exact le_l1 _ | exact le_l2 _ _ | exact le_l3 _ _ _ | exact le_l5 _ _ _ _ _ | exact le_l0, fun t25 newQ => ?_⟩; obtain ⟨H25, eqQ, e25, q25⟩ := tup_new K newQ; rw [eqQ]; clear eqQ)
          refine u_neWd (w18.same (((e19.trans e1923).trans e24).trans e25)) ⟨t25, rfl, q25⟩ ?_
          walk_at "st"
          exact ⟨rfl, e24.trans e25⟩
        rintro σ' H24 ⟨rfl, e24⟩
        walk_at "st"
        refine u_iteN (fun _ => ?_) (fun h => absurd h hI)
        walk_at "st"
        refine u_len' (l16.same (e1623.trans e24)).grid ?_
        walk_at "st"
        refine u_ite (fun _ => ?_) (fun h => absurd (show (l.length : Int) > 0 by omega) h)
        walk_at "st"
        (refine ⟨by first | exact le_l1 _ | exact le_l2 _ _ | exact le_l3 _ _ _ | exact le_l5 _ _ _ _ _ | exact le_l0, fun t25 newQ => ?_⟩; obtain ⟨H25, eqQ, e25, q25⟩ := tup_new K newQ; rw [eqQ]; clear eqQ)
        refine u_eqWd ((w19.same (e1923.trans e24)).same e25) ⟨t25, rfl, q25⟩ ?_
        exact fin _ ((e1623.trans e24).trans e25)
end
end K01

set_option maxHeartbeats 4000000
namespace K01
open PySem PySem.Spec PyProof.Rows L2 Ly


section
variable {w : World} {K : PySem.W.Frag} {mg : Str → Option Value} {base : Heap}
def trM (m : List (List Rat)) (n : Nat) : List (List Rat) := (List.range n).map fun i => m.map fun r => cf r i
theorem rows_items {H : Hp} {n : Nat} : ∀ {xs : List V} {m : List (List Rat)}, Rs (Row K H) xs m → (∀ r ∈ m, r.length = n) → ∃ yss, Al (Items K H n) xs yss ∧ ∀ i, i < n → Fs K H (colV yss i) (m.map fun r => cf r i)
  | [], [], _, _ => ⟨[], trivial, fun _ _ => trivial⟩
  | x :: xs, p :: m, h, hn => by
    obtain ⟨yss, h1, h2⟩ := rows_items (xs := xs) (m := m) h.2 fun r hr => hn r (List.mem_cons_of_mem _ hr)
    obtain ⟨b, ys, rfl, hb, fb⟩ := h.1
    have lp := hn p List.mem_cons_self
    have lb := fb.len
    refine ⟨ys :: yss, ⟨⟨b, rfl, hb, by omega⟩, h1⟩, fun i hi => ⟨?_, h2 i hi⟩⟩
    obtain ⟨v, hv, fv⟩ := fb.at (i := i) (by omega)
    show Fr K H (ys.getD i .non) _
    rw [List.getD_eq_getElem?_getD, hv]
    exact fv
  | [], _ :: _, h, _ => h.elim
  | _ :: _, [], h, _ => h.elim
theorem rs_at {R : V → List Rat → Prop} : ∀ {ts : List V} {ps : List (List Rat)}, ts.length = ps.length → (∀ (i : Nat) (p : List Rat), ps[i]? = some p → ∃ v, ts[i]? = some v ∧ R v p) → Rs R ts ps
  | [], [], _, _ => trivial
  | t :: ts, p :: ps, hl, h => by
    obtain ⟨v, hv, r⟩ := h 0 p rfl
    cases hv
    exact ⟨r, rs_at (by simpa using hl) fun i q hq => by
      obtain ⟨v, hv, r⟩ := h (i + 1) q (by simpa using hq)
      exact ⟨v, by simpa using hv, r⟩⟩
  | [], _ :: _, hl, _ => by simp at hl
  | _ :: _, [], hl, _ => by simp at hl
def sp_trans (K : PySem.W.Frag) : Sp := fun vs H Q _ => ∃ (v : V) (m : List (List Rat)) (n : Nat), vs = [v] ∧ Grid K H v m ∧ m.length ≤ 5 ∧ n ≤ 1000 ∧ (∀ r ∈ m, r.length = n) ∧ (m.length = 0 → n = 0) ∧ ∀ v' H', Same H H' → GridT K H' v' (trM m n) → Q v' H'
theorem ok_transposed (T : Tx K mg) (hseer : base.NoSeer) : FnOk PP w K mg base CX0 36 T.a_transposed T.d_transposed ["matrix"] (sp_trans K) := by
  refine T.F_transposed.ok sc_transposed (fun vs H Q E h => ?_) (fun cdv A outer s H vs Q E hr h => ?_)
  · obtain ⟨_, _, _, rfl, _⟩ := h; rfl
  · obtain ⟨_, m, n, rfl, ⟨a, xs, rfl, ha, fa⟩, lm, ln, hn, h0, k⟩ := h
    have la := fa.len
    obtain ⟨yss, g1, g2⟩ := rows_items fa hn
    refine ⟨_, (pss_one (ps_ret (pe_tupZipS (by rfl) T.n_tuple (by rfl) T.n_zip rfl (pv 0)))), ?_⟩
    walk_at "go"
    refine ⟨a, xs, yss, n, rfl, ha, g1, by omega, ln, by omega, fun t ts H1 e1 ht lt hc => ?_⟩
    refine k _ H1 e1 ⟨t, ts, rfl, ht, rs_at (by unfold trM; rw [List.length_map, List.length_range, lt]) fun i p hp => ?_⟩
    have hi : i < n := by
      have := (List.getElem?_eq_some_iff.mp hp).1
      unfold trM at this
      rwa [List.length_map, List.length_range] at this
    obtain ⟨y, hy, hs⟩ := hc i hi
    have : p = m.map fun r => cf r i := by
      unfold trM at hp
      rw [List.getElem?_map, List.getElem?_range hi] at hp
      exact (Option.some.inj hp).symm
    subst this
    exact ⟨_, hy, y, _, rfl, hs, (g2 i hi).same e1⟩
end
end K01

set_option maxHeartbeats 4000000
namespace K01
open PySem PySem.Spec PyProof.Rows L2 Ly


section
variable {w : World} {K : PySem.W.Frag} {mg : Str → Option Value} {base : Heap}
def idR (n j : Nat) : List Rat := (List.range n).map fun k => if j = k then 1 else 0
theorem unitR_eq {n j : Nat} (h : j < n) : unitR n j = idR n j := by
  have l1 : (unitR n j).length = n := by unfold unitR; rw [List.length_append, List.length_append, List.length_replicate, List.length_replicate]; show j + 1 + _ = n; omega
  refine cf_ext (by rw [l1]; unfold idR; rw [List.length_map, List.length_range]) fun i hi => ?_
  rw [l1] at hi
  unfold unitR idR
  rw [cf_map, if_pos hi, cf_append, cf_append, List.length_append, List.length_replicate]
  show (if i < j + 1 then if i < j then cf (List.replicate j 0) i else cf [1] (i - j) else cf (List.replicate (n - j - 1) 0) (i - (j + 1))) = _
  by_cases c1 : i < j
  · rw [if_pos (by omega), if_pos c1, cf_rep, if_neg (by omega)]
  · by_cases c2 : i = j
    · subst c2
      rw [if_pos (by omega), if_neg c1, if_pos rfl, Nat.sub_self]
      rfl
    · rw [if_neg (by omega), cf_rep, if_neg (by omega)]
theorem unitM_eq {n : Nat} : unitM n = (List.range n).map (idR n) := List.map_congr_left fun j hj => unitR_eq (List.mem_range.mp hj)
theorem ok__law_turned_right (T : Tx K mg) (hseer : base.NoSeer) : FnOk PP w K mg base CX0 41 T.a__law_turned_right T.d__law_turned_right ["bag"] (sp_bagonly K) := by
  refine T.F__law_turned_right.ok sc__law_turned_right (fun vs H Q E h => ?_) (fun cdv A outer s H vs Q E hr h => ?_)
  · obtain ⟨_, _, rfl, _⟩ := h; rfl
  · obtain ⟨b, j, rfl, hb, lj, k⟩ := h
    refine ⟨_, (pss_cons (ps_set (i := 1) (sc__law_turned_right).nd rfl (by first | exact Or.inl rfl | exact Or.inr rfl) (pe_call (ok__law_draw T hseer) (hr.mono (by decide)) rfl T.g__law_draw T.k__law_draw T.b__law_draw .nil pass0 (pa_cons (pv 0) (pa_cons pe_int pa_nil))))
  (pss_cons (ps_set (i := 2) (sc__law_turned_right).nd rfl (by first | exact Or.inl rfl | exact Or.inr rfl) (pe_op op_mulU (pe_call (ok__law_draw T hseer) (hr.mono (by decide)) rfl T.g__law_draw T.k__law_draw T.b__law_draw .nil pass0 (pa_cons (pv 0) (pa_cons pe_int pa_nil))) (pe_callTy call_intU (by rfl) T.n_int (by decide +kernel) (pa_cons (pe_cmpR op_gt (pv 1) pe_int (nomark _)) pa_nil))))
  (pss_cons (ps_set (i := 3) (sc__law_turned_right).nd rfl (by first | exact Or.inl rfl | exact Or.inr rfl) (pe_call (ok__law_matrix T hseer) (hr.mono (by decide)) rfl T.g__law_matrix T.k__law_matrix T.b__law_matrix .nil pass0 (pa_cons (pv 0) (pa_cons (pv 1) (pa_cons (pv 2) (pa_cons (pe_cmpR (op_eqU hr.units) (pe_call (ok__law_draw T hseer) (hr.mono (by decide)) rfl T.g__law_draw T.k__law_draw T.b__law_draw .nil pass0 (pa_cons (pv 0) (pa_cons pe_int pa_nil))) pe_int (nomark _)) pa_nil))))))
  (pss_cons (ps_set (i := 4) (sc__law_turned_right).nd rfl (by first | exact Or.inl rfl | exact Or.inr rfl) (pe_call (ok__law_draw T hseer) (hr.mono (by decide)) rfl T.g__law_draw T.k__law_draw T.b__law_draw .nil pass0 (pa_cons (pv 0) (pa_cons pe_int pa_nil))))
  (pss_cons (ps_set (i := 5) (sc__law_turned_right).nd rfl (by first | exact Or.inl rfl | exact Or.inr rfl) (pe_call (ok__law_grid T hseer) (hr.mono (by decide)) rfl T.g__law_grid T.k__law_grid T.b__law_grid .nil pass0 (pa_cons (pv 3) (pa_cons (pv 4) pa_nil))))
  (pss_cons (ps_set (i := 6) (sc__law_turned_right).nd rfl (by first | exact Or.inl rfl | exact Or.inr rfl) (pe_call (ok_transposed T hseer) (hr.mono (by decide)) rfl T.g_transposed T.k_transposed T.b_transposed .nil pass0 (pa_cons (pv 5) pa_nil)))
  (pss_cons (ps_if (pt_cmpR (op_neU hr.units) (pv 5) (pe_call (ok__law_grid T hseer) (hr.mono (by decide)) rfl T.g__law_grid T.k__law_grid T.b__law_grid .nil pass0 (pa_cons (pv 3) (pa_cons (pv 4) pa_nil))) (nomark _))
   (pss_one (ps_ret pe_bl))
   pss_nil)
  (pss_cons (ps_if (pt_not (pt_truthU (pe_call (ok__law_rows_equal T hseer) (hr.mono (by decide)) rfl T.g__law_rows_equal T.k__law_rows_equal T.b__law_rows_equal .nil pass0 (pa_cons (pv 6) (pa_cons (pe_lc (own := [("k", 10)]) rfl (sc__law_turned_right).nd (pi_range1 rfl T.n_range (pa_cons (pv 2) pa_nil)) (blkOk_by (own := [("k", 10)]) (N := n__law_turned_right) (sc := defScope s__law_turned_right) (by decide +kernel)) (fun _ _ _ _ _ => (pg_name (i := 10) (sc__law_turned_right).nd rfl (by first | exact Or.inl rfl | exact Or.inr rfl))) (fun _ _ _ _ _ => pts_nil) (fun _ _ _ _ _ => (pe_call (ok__law_column T hseer) (hr.mono (by decide)) rfl T.g__law_column T.k__law_column T.b__law_column .nil pass0 (pa_cons (pv 3) (pa_cons (pv 10) pa_nil))))) pa_nil))) (fun _ => rfl)))
   (pss_one (ps_ret pe_bl))
   pss_nil)
  (pss_cons (ps_set (i := 7) (sc__law_turned_right).nd rfl (by first | exact Or.inl rfl | exact Or.inr rfl) (pe_call (ok__law_draw T hseer) (hr.mono (by decide)) rfl T.g__law_draw T.k__law_draw T.b__law_draw .nil pass0 (pa_cons (pv 0) (pa_cons pe_int pa_nil))))
  (pss_cons (ps_set (i := 8) (sc__law_turned_right).nd rfl (by first | exact Or.inl rfl | exact Or.inr rfl) (pe_lst pa_nil))
  (pss_cons (ps_for PassesOwn.never rfl (pi_range1 rfl T.n_range (pa_cons (pv 7) pa_nil)) (pg_name (i := 9) (sc__law_turned_right).nd rfl (by first | exact Or.inl rfl | exact Or.inr rfl))
   (pss_one (ps_expr (pe_bm PySem.F.plainAttrs_list PySem.F.slot_list_append PySem.F.type_list_append mt_append (pv 8) (pa_cons (pe_lc (own := [("k", 10)]) rfl (sc__law_turned_right).nd (pi_range1 rfl T.n_range (pa_cons (pv 7) pa_nil)) (blkOk_by (own := [("k", 10)]) (N := n__law_turned_right) (sc := defScope s__law_turned_right) (by decide +kernel)) (fun _ _ _ _ _ => (pg_name (i := 10) (sc__law_turned_right).nd rfl (by first | exact Or.inl rfl | exact Or.inr rfl))) (fun _ _ _ _ _ => pts_nil) (fun _ _ _ _ _ => (pe_tup (pa_cons (pe_callTy call_intU (by rfl) T.n_int (by decide +kernel) (pa_cons (pe_cmpR (r := rEqU K) (op_eqU hr.units) (pv 9) (pv 10) (nomark _)) pa_nil)) (pa_cons pe_int pa_nil))))) pa_nil)))))
  (pss_one (ps_ret (pe_call (ok__law_rows_equal T hseer) (hr.mono (by decide)) rfl T.g__law_rows_equal T.k__law_rows_equal T.b__law_rows_equal .nil pass0 (pa_cons (pe_call (ok_identity T hseer) (hr.mono (by decide)) rfl T.g_identity T.k_identity T.b_identity .nil pass0 (pa_cons (pv 7) pa_nil)) (pa_cons (pv 8) pa_nil)))))))))))))))), ?_⟩
    walk_at "go"
    refine ⟨b, 6, j, rfl, by decide, hb, by omega, fun d1 H1 d10 d11 hb1 e1 => ?_⟩
    obtain ⟨tall, rfl⟩ := Int.eq_ofNat_of_zero_le d10
    walk_at "st"
    refine ⟨b, 6, j + 1, rfl, by decide, hb1, by omega, fun d2 H2 d20 d21 hb2 e2 => ?_⟩
    walk_at "st"
    obtain ⟨tp, htp, tp0, tp1, tpz⟩ := ite01 (decide ((tall : Int) > 0))
    rw [htp]
    walk_at "st"
    have hwz : 0 ≤ d2 * tp ∧ d2 * tp ≤ 5 ∧ (tall = 0 → d2 * tp = 0) := by
      have : tp = 0 ∨ tp = 1 := by omega
      rcases this with rfl | rfl
      · rw [Int.mul_zero]; exact ⟨by decide, by decide, fun _ => rfl⟩
      · rw [Int.mul_one]
        refine ⟨by omega, by omega, fun z => ?_⟩
        have := tpz (decide_eq_false (by omega))
        omega
    obtain ⟨wide, hwide⟩ : ∃ n : Nat, d2 * tp = (n : Int) := ⟨(d2 * tp).toNat, by omega⟩
    rw [hwide] at hwz ⊢
    refine ⟨b, 4, j + 2, rfl, by decide, hb2, by omega, fun d3 H3 d30 d31 hb3 e3 => ?_⟩
    walk_at "st"
    have tw : tall * wide ≤ 25 := Nat.le_trans (Nat.mul_le_mul (show tall ≤ 5 by omega) (show wide ≤ 5 by omega)) (by decide)
    refine ⟨b, j + 3, tall, wide, _, rfl, hb3, by omega, by omega, by omega, fun vm m H4 gm lm hm hb4 e4 => ?_⟩
    have hm1 : ∀ r ∈ m, r.length = wide := fun r hr => (hm r hr).1
    walk_at "st"
    refine ⟨b, 4, _, rfl, by decide, hb4, by omega, fun wy H5 wy0 wy1 hb5 e5 => ?_⟩
    have gm5 := GridK.bagL gm hb4 e5
    have e05 := (((e1.trans e2).trans e3).trans e4).trans e5
    walk_at "st"
    refine ⟨vm, wy, m, rfl, gm5.grid, by omega, fun gv H6 e6 g6 => ?_⟩
    walk_at "st"
    refine ⟨gv, m, wide, rfl, g6.grid, by omega, by omega, hm1, by omega, fun tv H7 e7 g7 => ?_⟩
    walk_at "st"
    refine ⟨vm, wy, m, rfl, (gm5.same (e6.trans e7)).grid, by omega, fun gv2 H8 e8 g8 => ?_⟩
    walk_at "st"
    refine u_neGridK ((g6.same e7).same e8) g8 ?_
    walk_at "st"
    have e58 := (e6.trans e7).trans e8
    have gm8 := gm5.same e58
    refine u_rng1 (by omega) ?_
    refine lcK walk_range0 (fun D i acc H' => LocR false K H8 D H' ((trM m wide).take i)) (fun D hD => LocR.new hD (Same.refl H8)) (fun _ _ _ _ _ _ _ => trivial) (fun D i acc x H9 H9' hD hi L y => ?_) (fun D acc H9 hD L => ?_)
    · obtain ⟨rfl, rfl⟩ := y
      walk_at "st"
      refine ⟨rfl, ?_⟩
      walk_at "st"
      refine ⟨vm, i, m, rfl, (gm8.same L.1).grid, by omega, fun r hr => by rw [hm1 r hr]; omega, fun y' H10 e10 n10 r10 => ?_⟩
      refine lcLocR (t := false) (L.ext e10) (by unfold trM; rw [List.length_take, List.length_map, List.length_range]; omega) r10 (fun _ z => ?_) fun acc H11 L11 => ?_
      · injection z with z
        obtain ⟨_, _, ws, z1, _⟩ := L
        rw [z, z1] at n10
        cases n10
      · have : (trM m wide)[i]? = some (m.map fun r => cf r i) := by
          unfold trM
          rw [List.getElem?_map, List.getElem?_range (by omega)]
          rfl
        rw [← take_more this]
        exact L11
    · rw [List.take_of_length_le (by unfold trM; rw [List.length_map, List.length_range]; omega)] at L
      walk_at "st"
      refine ⟨_, _, trM m wide, rfl, g7.imm (e8.imm.trans L.1.imm), L.grid.grid, by unfold trM; rw [List.length_map, List.length_range]; omega, fun p hp => ?_, ?_⟩
      · unfold trM at hp
        obtain ⟨q, _, rfl⟩ := List.mem_map.mp hp
        rw [List.length_map]; omega
      walk_at "st"
      have e59 := e58.trans L.1
      have hb9 := hb5.same e59
      have e09 := e05.trans e59.x
      refine ⟨b, 7, _, rfl, by decide, hb9, by omega, fun sz H10 sz0 sz1 hb10 e10 => ?_⟩
      obtain ⟨sz, rfl⟩ := Int.eq_ofNat_of_zero_le sz0
      walk_at "st"
      (refine ⟨by first | exact le_l1 _ | exact le_l2 _ _ | exact le_l3 _ _ _ | exact le_l5 _ _ _ _ _ | exact le_l0, fun D2 n11 => ?_⟩; obtain ⟨H11, eqQ, e11, h11⟩ := lst_new K n11; rw [eqQ]; clear eqQ)
      walk_at "st"
      refine u_rng1 (by omega) ?_
      refine forKC walk_range0 (fun i σ H' => LocR false K H10 D2 H' (((List.range sz).map (idR sz)).take i) ∧ ∃ l1 l2 : Option V, σ = [some (.ref b), some (.int tall), some (.int wide), some vm, some (.int wy), some gv, some tv, some (.int sz), some (.ref D2), l1, l2])
        ⟨⟨e11, n11, [], h11, trivial⟩, _, _, rfl⟩ (fun _ _ _ _ _ => trivial) ?_ ?_
      · rintro i x σ H12 H' hi ⟨L2, l1, l2, rfl⟩ ⟨rfl, rfl⟩
        walk_at "st"
        refine ⟨tyLocR L2, ?_⟩
        walk_at "st"
        refine u_rng1 (by omega) ?_
        refine lcK walk_range0 (fun D i' acc H'' => Ly.Loc K H' D H'' ((idR sz i).take i')) (fun D hD => Loc.new hD (Same.refl H') trivial) (fun _ _ _ _ _ _ _ => trivial) (fun D i' acc x H13 H13' hD hi' L3 y => ?_) (fun D acc H13 hD L3 => ?_)
        · obtain ⟨rfl, rfl⟩ := y
          walk_at "st"
          refine ⟨rfl, ?_⟩
          walk_at "st"
          (refine ⟨by first | exact le_l1 _ | exact le_l2 _ _ | exact le_l3 _ _ _ | exact le_l5 _ _ _ _ _ | exact le_l0, fun t6 newQ => ?_⟩; obtain ⟨H14, eqQ, e14, q14⟩ := tup_new K newQ; rw [eqQ]; clear eqQ)
          have fr6 : Fr K H14 (.ref t6) (if i = i' then 1 else 0) := by
            refine ⟨t6, rfl, ?_⟩
            by_cases c : i = i'
            · subst c
              rw [if_pos rfl]
              rw [decide_eq_true rfl] at q14
              exact q14
            · rw [if_neg c]
              rw [decide_eq_false (fun z => c (by omega))] at q14
              exact q14
          refine lcLoc (L3.ext e14) (by unfold idR; rw [List.length_take, List.length_map, List.length_range]; omega) fr6 fun acc H15 L15 _ => ?_
          have : (idR sz i)[i']? = some (if i = i' then 1 else 0) := by
            unfold idR
            rw [List.getElem?_map, List.getElem?_range (by omega)]
            rfl
          rw [← take_more this]
          exact L15
        · rw [List.take_of_length_le (by unfold idR; rw [List.length_map, List.length_range]; omega)] at L3
          walk_at "st"
          refine u_appLocR (t := false) (L2.ext L3.1) (by rw [List.length_take, List.length_map, List.length_range]; omega) L3.row (fun _ => L3.neR ?_) fun H16 L16 => ?_
          · obtain ⟨_, _, ws, z, _⟩ := L2
            rw [z]; exact fun q => nomatch q
          · walk_at "st"
            have : ((List.range sz).map (idR sz))[i]? = some (idR sz i) := by
              rw [List.getElem?_map, List.getElem?_range (by omega)]
              rfl
            rw [← take_more this]
            exact ⟨L16, _, _, rfl⟩
      · rintro σ H12 ⟨L2, l1, l2, rfl⟩
        rw [List.take_of_length_le (by rw [List.length_map, List.length_range]; omega)] at L2
        walk_at "st"
        refine ⟨sz, rfl, by omega, fun iv H13 e13 g13 => ?_⟩
        rw [unitM_eq] at g13
        walk_at "st"
        refine ⟨_, _, (List.range sz).map (idR sz), rfl, g13, (L2.grid.same e13).grid, by rw [List.length_map, List.length_range]; omega, fun p hp => ?_, ?_⟩
        · obtain ⟨q, _, rfl⟩ := List.mem_map.mp hp
          unfold idR
          rw [List.length_map, List.length_range]; omega
        · exact k H13 (((e09.trans e10).trans L2.1.x).trans e13.x)
end
end K01

set_option maxHeartbeats 16000000
namespace K01
open PySem PySem.Spec PyProof.Rows L2 Ly


section
variable {w : World} {K : PySem.W.Frag} {mg : Str → Option Value} {base : Heap}
theorem _root_.L2.Same.mutS {H H1 H2 : Hp} {S : List Addr} (e : Same H H1) (x : SameS S H1 H2) (h : ∀ y ∈ S, H y = none) : Same H H2 := fun a o ha => x a o (fun z => by rw [h a z] at ha; cases ha) (e a o ha)
/-- a new pair of basis and model, with its probe -/
structure Raw (T : Tx K mg) (S : List Addr) (H : Hp) (a o p q y : Addr) (n : Nat) (pr : List Rat) : Prop where
  bs : BsOk T H a n [] []
  o_ : H o = some (.lst [.int n, .ref p, .ref q])
  p_ : H p = some (.lst [])
  q_ : H q = some (.lst [])
  ne : p ≠ q
  row : RowT K H (.ref y) pr
  len : pr.length = n
  sz : Sz 403 pr
  nS : a ∉ S ∧ o ∉ S ∧ p ∉ S ∧ q ∉ S
  n12 : n ≤ 12
theorem Raw.keep {T : Tx K mg} {S : List Addr} {H H' : Hp} {a o p q y : Addr} {n : Nat} {pr : List Rat} (h : Raw T S H a o p q y n pr) (im : Imm H H') (e : SameS S H H') : Raw T S H' a o p q y n pr :=
  ⟨h.bs.same im fun u z => e _ _ h.nS.1 z, e _ _ h.nS.2.1 h.o_, e _ _ h.nS.2.2.1 h.p_, e _ _ h.nS.2.2.2 h.q_, h.ne, h.row.imm im, h.len, h.sz, h.nS, h.n12⟩
theorem Raw.some {T : Tx K mg} {S : List Addr} {H : Hp} {a o p q y : Addr} {n : Nat} {pr : List Rat} (h : Raw T S H a o p q y n pr) : H a ≠ none ∧ H o ≠ none ∧ H p ≠ none ∧ H q ≠ none := by
  obtain ⟨_, _, _, _, ⟨_, w1⟩, _⟩ := h.bs
  exact ⟨by rw [w1]; exact fun z => (nomatch z), by rw [h.o_]; exact fun z => (nomatch z), by rw [h.p_]; exact fun z => (nomatch z), by rw [h.q_]; exact fun z => (nomatch z)⟩
theorem Raw.md {T : Tx K mg} {S M : List Addr} {H : Hp} {a o p q y : Addr} {n : Nat} {pr : List Rat} (h : Raw T S H a o p q y n pr) (hp : p ∈ M) (hq : q ∈ M) (ho : o ∉ M) (lv : Liv M H) : MdOk M K H o p q n [] [] :=
  ⟨h.o_, ho, hp, hq, h.ne, ⟨[], h.p_, trivial⟩, ⟨[], h.q_, trivial⟩, lv⟩
/-- what the law holds -/
def Wl (T : Tx K mg) (M : List Addr) (H : Hp) (b0 Bs Ms Ps a0 o0 p0 q0 a1 o1 p1 q1 y0 y1 : Addr) (n0 n1 S j : Nat) (pr0 pr1 : List Rat) : Prop :=
  BagAt H b0 j ∧ b0 ∉ M ∧ Two T M H Bs Ms a0 o0 p0 q0 a1 o1 p1 q1 n0 n1 S ∧ H Ps = some (.lst [.ref y0, .ref y1]) ∧ Ps ∉ M ∧ RowT K H (.ref y0) pr0 ∧ RowT K H (.ref y1) pr1
theorem Two.same {T : Tx K mg} {M : List Addr} {H H' : Hp} {Bs Ms a0 o0 p0 q0 a1 o1 p1 q1 : Addr} {n0 n1 S : Nat} (h : Two T M H Bs Ms a0 o0 p0 q0 a1 o1 p1 q1 n0 n1 S) (e : Same H H') : Two T M H' Bs Ms a0 o0 p0 q0 a1 o1 p1 q1 n0 n1 S := by
  obtain ⟨h1, h2, h3, h4, h5, h6, h7, h8, h9, ⟨r0, l0, B0, M0, Z0⟩, ⟨r1, l1, B1, M1, Z1⟩⟩ := h
  exact ⟨e _ _ h1, e _ _ h2, h3, h4, h5, h6, h7, h8, h9, ⟨r0, l0, B0.same e.imm fun o q => e _ _ q, M0.same e, Z0⟩, ⟨r1, l1, B1.same e.imm fun o q => e _ _ q, M1.same e, Z1⟩⟩
theorem Wl.same {T : Tx K mg} {M : List Addr} {H H' : Hp} {b0 Bs Ms Ps a0 o0 p0 q0 a1 o1 p1 q1 y0 y1 : Addr} {n0 n1 S j : Nat} {pr0 pr1 : List Rat} (h : Wl T M H b0 Bs Ms Ps a0 o0 p0 q0 a1 o1 p1 q1 y0 y1 n0 n1 S j pr0 pr1) (e : Same H H') : Wl T M H' b0 Bs Ms Ps a0 o0 p0 q0 a1 o1 p1 q1 y0 y1 n0 n1 S j pr0 pr1 := by
  obtain ⟨h1, h2, h3, h4, h5, h6, h7⟩ := h
  exact ⟨h1.same e, h2, h3.same e, e _ _ h4, h5, h6.same e, h7.same e⟩
/-- a deed on a new bag -/
theorem Wl.deed {T : Tx K mg} {M : List Addr} {H H' : Hp} {b b0 Bs Ms Ps a0 o0 p0 q0 a1 o1 p1 q1 y0 y1 : Addr} {n0 n1 S S' j : Nat} {pr0 pr1 : List Rat} (h : Wl T M H b0 Bs Ms Ps a0 o0 p0 q0 a1 o1 p1 q1 y0 y1 n0 n1 S j pr0 pr1) (nb : b0 ≠ b) (nP : Ps ≠ b) (im : Imm H H') (e : SameS [b, a0, p0, q0, a1, p1, q1] H H') (t : Two T M H' Bs Ms a0 o0 p0 q0 a1 o1 p1 q1 n0 n1 S') :
    Wl T M H' b0 Bs Ms Ps a0 o0 p0 q0 a1 o1 p1 q1 y0 y1 n0 n1 S' j pr0 pr1 := by
  obtain ⟨h1, h2, ⟨_, _, _, _, _, _, _, _, _, ⟨r0, l0, B0, M0, Z0⟩, ⟨r1, l1, B1, M1, Z1⟩⟩, h4, h5, h6, h7⟩ := h
  have na : ∀ {x : Addr} {o : HO}, H x = some o → (∀ C dx fs, o ≠ .ins C dx fs) → x ≠ a0 ∧ x ≠ a1 := fun {x o} z q => by
    obtain ⟨_, _, _, _, ⟨_, w0⟩, _⟩ := B0
    obtain ⟨_, _, _, _, ⟨_, w1⟩, _⟩ := B1
    exact ⟨fun r => by rw [r, w0] at z; exact q _ _ _ (Option.some.inj z).symm, fun r => by rw [r, w1] at z; exact q _ _ _ (Option.some.inj z).symm⟩
  have ok : ∀ {x : Addr} {o : HO}, H x = some o → (∀ C dx fs, o ≠ .ins C dx fs) → x ∉ M → x ≠ b → x ∉ [b, a0, p0, q0, a1, p1, q1] := fun {x o} z q m nb => by
    obtain ⟨n1, n2⟩ := na z q
    simp only [List.mem_cons, List.not_mem_nil, or_false, not_or]
    exact ⟨nb, n1, fun r => m (r ▸ M0.i1), fun r => m (r ▸ M0.i2), n2, fun r => m (r ▸ M1.i1), fun r => m (r ▸ M1.i2)⟩
  refine ⟨?_, h2, t, e _ _ (ok h4 (fun _ _ _ z => nomatch z) h5 nP) h4, h5, h6.imm im, h7.imm im⟩
  obtain ⟨r, s, c, z1, z2⟩ := h1
  exact ⟨r, s, c, e _ _ (ok z1 (fun _ _ _ z => nomatch z) h2 nb) z1, z2⟩
theorem walk_rangeL {lo : Int} {n : Nat} : Walk (Itr lo n) n (fun _ => True) (fun i H v H' => H' = H ∧ v = .int (lo + (i : Nat))) :=
  ⟨fun _ _ hi _ => hi, fun _ _ => Nat.le_refl _, fun i H x H' _ _ y => y⟩
section
variable {T : Tx K mg} {M : List Addr} {H H' : Hp} {b b0 Bs Ms Ps a0 o0 p0 q0 a1 o1 p1 q1 y0 y1 : Addr} {n0 n1 S S' j j' : Nat} {pr0 pr1 : List Rat} {rows : List (List Rat)} {ls : List Ln}
theorem Wl.off (h : Wl T M H b0 Bs Ms Ps a0 o0 p0 q0 a1 o1 p1 q1 y0 y1 n0 n1 S j pr0 pr1) (x : Addr) (u : HO) (z : H x = some u) (q : ∀ r s c : Int, u ≠ .lst [.int r, .int s, .int c]) (q2 : ∀ C dx fs, u ≠ .ins C dx fs) (m : x ∉ M) : x ∉ [b0, a0, p0, q0] ∧ x ∉ [b0, a1, p1, q1] := by
  obtain ⟨h1, h2, ⟨_, _, _, _, _, _, _, _, _, ⟨r0, l0, B0, M0, Z0⟩, ⟨r1, l1, B1, M1, Z1⟩⟩, h4, h5, h6, h7⟩ := h
  obtain ⟨_, _, _, _, ⟨_, w0⟩, _⟩ := B0
  obtain ⟨_, _, _, _, ⟨_, w1⟩, _⟩ := B1
  simp only [List.mem_cons, List.not_mem_nil, or_false, not_or]
  refine ⟨⟨h1.ne z q, fun r => ?_, fun r => m (r ▸ M0.i1), fun r => m (r ▸ M0.i2)⟩, h1.ne z q, fun r => ?_, fun r => m (r ▸ M1.i1), fun r => m (r ▸ M1.i2)⟩
  · rw [r, w0] at z; exact q2 _ _ _ (Option.some.inj z).symm
  · rw [r, w1] at z; exact q2 _ _ _ (Option.some.inj z).symm
theorem Wl.add0 (h : Wl T M H b0 Bs Ms Ps a0 o0 p0 q0 a1 o1 p1 q1 y0 y1 n0 n1 S j pr0 pr1) (im : Imm H H') (e : SameS [b0, a0, p0, q0] H H') (hb : BagAt H' b0 j') (hB : BsOk T H' a0 n0 rows ls) (hM : MdOk M K H' o0 p0 q0 n0 rows ls) (z : Sz S' rows.flatten) (l : S ≤ S') :
    Wl T M H' b0 Bs Ms Ps a0 o0 p0 q0 a1 o1 p1 q1 y0 y1 n0 n1 S' j' pr0 pr1 := by
  have off := h.off
  obtain ⟨h1, h2, ⟨k1, k2, k3, k4, k5, k6, k7, k8, k9, ⟨r0, l0, B0, M0, Z0⟩, ⟨r1, l1, B1, M1, Z1⟩⟩, h4, h5, h6, h7⟩ := h
  obtain ⟨_, _, _, _, ⟨_, w0⟩, _⟩ := B0
  obtain ⟨oB, oM⟩ := other_ok B1 M1 h1 h2 w0 im e M0.i1 M0.i2 (Ne.symm k5) (Ne.symm k6) (Ne.symm k8) (Ne.symm k7) (Ne.symm k9) hM.liv
  exact ⟨hb, h2, ⟨e _ _ (off _ _ k1 (fun _ _ _ z => by simp at z) (fun _ _ _ z => nomatch z) k3).1 k1, e _ _ (off _ _ k2 (fun _ _ _ z => by simp at z) (fun _ _ _ z => nomatch z) k4).1 k2, k3, k4, k5, k6, k7, k8, k9, ⟨_, _, hB, hM, z⟩, ⟨_, _, oB, oM, Z1.mono l⟩⟩,
    e _ _ (off _ _ h4 (fun _ _ _ z => by simp at z) (fun _ _ _ z => nomatch z) h5).1 h4, h5, h6.imm im, h7.imm im⟩
theorem Wl.add1 (h : Wl T M H b0 Bs Ms Ps a0 o0 p0 q0 a1 o1 p1 q1 y0 y1 n0 n1 S j pr0 pr1) (im : Imm H H') (e : SameS [b0, a1, p1, q1] H H') (hb : BagAt H' b0 j') (hB : BsOk T H' a1 n1 rows ls) (hM : MdOk M K H' o1 p1 q1 n1 rows ls) (z : Sz S' rows.flatten) (l : S ≤ S') :
    Wl T M H' b0 Bs Ms Ps a0 o0 p0 q0 a1 o1 p1 q1 y0 y1 n0 n1 S' j' pr0 pr1 := by
  have off := h.off
  obtain ⟨h1, h2, ⟨k1, k2, k3, k4, k5, k6, k7, k8, k9, ⟨r0, l0, B0, M0, Z0⟩, ⟨r1, l1, B1, M1, Z1⟩⟩, h4, h5, h6, h7⟩ := h
  obtain ⟨_, _, _, _, ⟨_, w1⟩, _⟩ := B1
  obtain ⟨oB, oM⟩ := other_ok B0 M0 h1 h2 w1 im e M1.i1 M1.i2 k5 k6 k7 k8 k9 hM.liv
  exact ⟨hb, h2, ⟨e _ _ (off _ _ k1 (fun _ _ _ z => by simp at z) (fun _ _ _ z => nomatch z) k3).2 k1, e _ _ (off _ _ k2 (fun _ _ _ z => by simp at z) (fun _ _ _ z => nomatch z) k4).2 k2, k3, k4, k5, k6, k7, k8, k9, ⟨_, _, oB, oM, Z0.mono l⟩, ⟨_, _, hB, hM, z⟩⟩,
    e _ _ (off _ _ h4 (fun _ _ _ z => by simp at z) (fun _ _ _ z => nomatch z) h5).2 h4, h5, h6.imm im, h7.imm im⟩
end
def sp_law (K : PySem.W.Frag) : Sp := fun vs H Q _ => ∃ (a : Addr) (ns : List Int), vs = [.ref a] ∧ SqL K H a (ns.map V.int) ∧ ns.length ≤ 63 ∧ ∀ H', Q (.bl true) H'
def wds : List Int := [0, 1, 2, 3, 3, 4, 5, 6, 8, 12]
theorem wds_at {d : Int} (h0 : 0 ≤ d) (h1 : d < 10) : ∃ n : Nat, atI (wds.map V.int) d = some (.int n) ∧ n ≤ 12 := by
  have : d = 0 ∨ d = 1 ∨ d = 2 ∨ d = 3 ∨ d = 4 ∨ d = 5 ∨ d = 6 ∨ d = 7 ∨ d = 8 ∨ d = 9 := by omega
  rcases this with rfl | rfl | rfl | rfl | rfl | rfl | rfl | rfl | rfl | rfl
  · exact ⟨0, rfl, by decide⟩
  · exact ⟨1, rfl, by decide⟩
  · exact ⟨2, rfl, by decide⟩
  · exact ⟨3, rfl, by decide⟩
  · exact ⟨3, rfl, by decide⟩
  · exact ⟨4, rfl, by decide⟩
  · exact ⟨5, rfl, by decide⟩
  · exact ⟨6, rfl, by decide⟩
  · exact ⟨8, rfl, by decide⟩
  · exact ⟨12, rfl, by decide⟩
theorem app_go {H : Hp} {L : Addr} {xs : List V} {v : V} {Q : VK} (h : H L = some (.lst xs)) (l : xs.length ≤ 1000) (c : ∀ H', H' L = some (.lst (xs ++ [v])) → SameX L H H' → Imm H H' → Q .non H') : rAppend (.ref L) [v] H Q :=
  ⟨L, xs, v, rfl, rfl, h, Nat.lt_of_le_of_lt (m := 1000) l (by decide), c _ upd_same samex_upd (Imm.upd h)⟩
theorem ok_law (T : Tx K mg) (hseer : base.NoSeer) : FnOk PP w K mg base CX0 46 T.a_law T.d_law ["script"] (sp_law K) := by
  refine T.F_law.ok sc_law (fun vs H Q E h => ?_) (fun cdv A outer s H vs Q E hr h => ?_)
  · obtain ⟨_, _, rfl, _⟩ := h; rfl
  · obtain ⟨a, ns, rfl, hS, hl, k⟩ := h
    refine ⟨_, (pss_cons (ps_set (i := 1) (sc_law).nd rfl (by first | exact Or.inl rfl | exact Or.inr rfl) (pe_call (ok__law_bag T hseer) (hr.mono (by decide)) rfl T.g__law_bag T.k__law_bag T.b__law_bag .nil pass0 (pa_cons (pv 0) (pa_cons pe_int pa_nil))))
  (pss_cons (ps_set (i := 2) (sc_law).nd rfl (by first | exact Or.inl rfl | exact Or.inr rfl) (pe_lst (pa_cons pe_int (pa_cons pe_int (pa_cons pe_int (pa_cons pe_int (pa_cons pe_int (pa_cons pe_int (pa_cons pe_int (pa_cons pe_int (pa_cons pe_int (pa_cons pe_int pa_nil))))))))))))
  (pss_cons (ps_set (i := 3) (sc_law).nd rfl (by first | exact Or.inl rfl | exact Or.inr rfl) (pe_cmpR (op_eqU hr.units) (pe_call (ok__law_draw T hseer) (hr.mono (by decide)) rfl T.g__law_draw T.k__law_draw T.b__law_draw .nil pass0 (pa_cons (pv 1) (pa_cons pe_int pa_nil))) pe_int (nomark _)))
  (pss_cons (ps_set (i := 4) (sc_law).nd rfl (by first | exact Or.inl rfl | exact Or.inr rfl) (pe_lst pa_nil))
  (pss_cons (ps_set (i := 5) (sc_law).nd rfl (by first | exact Or.inl rfl | exact Or.inr rfl) (pe_lst pa_nil))
  (pss_cons (ps_set (i := 6) (sc_law).nd rfl (by first | exact Or.inl rfl | exact Or.inr rfl) (pe_lst pa_nil))
  (pss_cons (ps_for PassesOwn.never rfl (pi_range1 rfl T.n_range (pa_cons pe_int pa_nil)) (pg_name (i := 7) (sc_law).nd rfl (by first | exact Or.inl rfl | exact Or.inr rfl))
   (pss_cons (ps_set (i := 8) (sc_law).nd rfl (by first | exact Or.inl rfl | exact Or.inr rfl) (pe_ix ix_seq (pv 2) (pe_call (ok__law_draw T hseer) (hr.mono (by decide)) rfl T.g__law_draw T.k__law_draw T.b__law_draw .nil pass0 (pa_cons (pv 1) (pa_cons pe_int pa_nil))) (fun _ _ => rfl)))
  (Evl.pss_cut (ps_if (pt_truthU (pv 3) (fun _ => rfl))
   (pss_one (ps_set (i := 8) (sc_law).nd rfl (by first | exact Or.inl rfl | exact Or.inr rfl) (pe_callB (call_minU rfl) (by rfl) T.n_min (by decide +kernel) (pa_cons (pv 8) (pa_cons pe_int pa_nil)))))
   pss_nil)
  (pss_cons (ps_set (i := 9) (sc_law).nd rfl (by first | exact Or.inl rfl | exact Or.inr rfl) (pe_callTy call_tupleU (by rfl) T.n_tuple (by decide +kernel) (pa_cons (pe_lc (own := [("j", 12)]) rfl (sc_law).nd (pi_range1 rfl T.n_range (pa_cons (pv 8) pa_nil)) (blkOk_by (own := [("j", 12)]) (N := n_law) (sc := defScope s_law) (by decide +kernel)) (fun _ _ _ _ _ => (pg_name (i := 12) (sc_law).nd rfl (by first | exact Or.inl rfl | exact Or.inr rfl))) (fun _ _ _ _ _ => pts_nil) (fun _ _ _ _ _ => (pe_call (ok__law_entry T hseer) (hr.mono (by decide)) rfl T.g__law_entry T.k__law_entry T.b__law_entry .nil pass0 (pa_cons (pv 1) (pa_cons (pv 3) pa_nil))))) pa_nil)))
  (pss_cons (ps_expr (pe_bm PySem.F.plainAttrs_list PySem.F.slot_list_append PySem.F.type_list_append mt_append (pv 4) (pa_cons (pe_lst (pa_cons (pv 8) (pa_cons (pe_lst pa_nil) (pa_cons (pe_lst pa_nil) pa_nil)))) pa_nil)))
  (pss_cons (ps_expr (pe_bm PySem.F.plainAttrs_list PySem.F.slot_list_append PySem.F.type_list_append mt_append (pv 5) (pa_cons (pe_make T.mk_Basis (ok_Basis___init__ T hseer) (hr.mono (by decide)) rfl T.g_Basis T.b_Basis___init__ .nil pass0 (pa_cons (pv 8) pa_nil)) pa_nil)))
  (pss_one (ps_expr (pe_bm PySem.F.plainAttrs_list PySem.F.slot_list_append PySem.F.type_list_append mt_append (pv 6) (pa_cons (pv 9) pa_nil))))))))))
  (pss_cons (ps_for PassesOwn.never rfl (pi_range1 rfl T.n_range (pa_cons pe_int pa_nil)) (pg_name (i := 7) (sc_law).nd rfl (by first | exact Or.inl rfl | exact Or.inr rfl))
   (pss_cons (ps_if (pt_not (pt_truthU (pe_call (ok__law_state_right T hseer) (hr.mono (by decide)) rfl T.g__law_state_right T.k__law_state_right T.b__law_state_right .nil pass0 (pa_cons (pe_ix ix_seq (pv 5) (pv 7) (fun _ _ => rfl)) (pa_cons (pe_ix ix_seq (pv 4) (pv 7) (fun _ _ => rfl)) pa_nil))) (fun _ => rfl)))
   (pss_one (ps_ret pe_bl))
   pss_nil)
  (pss_one (ps_if (pt_not (pt_truthU (pe_call (ok__law_asked_right T hseer) (hr.mono (by decide)) rfl T.g__law_asked_right T.k__law_asked_right T.b__law_asked_right .nil pass0 (pa_cons (pe_ix ix_seq (pv 5) (pv 7) (fun _ _ => rfl)) (pa_cons (pe_ix ix_seq (pv 4) (pv 7) (fun _ _ => rfl)) (pa_cons (pe_ix ix_seq (pv 6) (pv 7) (fun _ _ => rfl)) (pa_cons (pe_op op_addU pe_int (pv 7)) (pa_cons (pe_cmpR (op_eqU hr.units) (pv 7) pe_int (nomark _)) pa_nil)))))) (fun _ => rfl)))
   (pss_one (ps_ret pe_bl))
   pss_nil))))
  (pss_cons (ps_for PassesOwn.never rfl (pi_range2 rfl T.n_range (pa_cons pe_int (pa_cons pe_int pa_nil))) (pg_name (i := 10) (sc_law).nd rfl (by first | exact Or.inl rfl | exact Or.inr rfl))
   (pss_one (ps_if (pt_not (pt_truthU (pe_call (ok__law_deed_right T hseer) (hr.mono (by decide)) rfl T.g__law_deed_right T.k__law_deed_right T.b__law_deed_right .nil pass0 (pa_cons (pe_call (ok__law_bag T hseer) (hr.mono (by decide)) rfl T.g__law_bag T.k__law_bag T.b__law_bag .nil pass0 (pa_cons (pv 0) (pa_cons (pv 10) pa_nil))) (pa_cons (pv 5) (pa_cons (pv 4) (pa_cons (pv 3) pa_nil))))) (fun _ => rfl)))
   (pss_one (ps_ret pe_bl))
   pss_nil)))
  (pss_cons (ps_for PassesOwn.never rfl (pi_range1 rfl T.n_range (pa_cons pe_int pa_nil)) (pg_name (i := 7) (sc_law).nd rfl (by first | exact Or.inl rfl | exact Or.inr rfl))
   (pss_cons (ps_for PassesOwn.never rfl (pi_range2 rfl T.n_range (pa_cons pe_int (pa_cons pe_int pa_nil))) (pg_name (i := 11) (sc_law).nd rfl (by first | exact Or.inl rfl | exact Or.inr rfl))
   (pss_one (ps_if (pt_not (pt_truthU (pe_call (ok__law_asked_right T hseer) (hr.mono (by decide)) rfl T.g__law_asked_right T.k__law_asked_right T.b__law_asked_right .nil pass0 (pa_cons (pe_ix ix_seq (pv 5) (pv 7) (fun _ _ => rfl)) (pa_cons (pe_ix ix_seq (pv 4) (pv 7) (fun _ _ => rfl)) (pa_cons (pe_ix ix_seq (pv 6) (pv 7) (fun _ _ => rfl)) (pa_cons (pv 11) (pa_cons (pe_cmpR (op_eqU hr.units) (pv 7) pe_int (nomark _)) pa_nil)))))) (fun _ => rfl)))
   (pss_one (ps_ret pe_bl))
   pss_nil)))
  (pss_cons (ps_if (pt_not (pt_truthU (pe_call (ok__law_added_right T hseer) (hr.mono (by decide)) rfl T.g__law_added_right T.k__law_added_right T.b__law_added_right .nil pass0 (pa_cons (pv 1) (pa_cons (pe_ix ix_seq (pv 5) (pv 7) (fun _ _ => rfl)) (pa_cons (pe_ix ix_seq (pv 4) (pv 7) (fun _ _ => rfl)) (pa_cons (pe_ix ix_seq (pv 6) (pv 7) (fun _ _ => rfl)) (pa_cons (pe_cmpR (op_eqU hr.units) (pv 7) pe_int (nomark _)) pa_nil)))))) (fun _ => rfl)))
   (pss_one (ps_ret pe_bl))
   pss_nil)
  (pss_one (ps_if (PW.pt (pw_or (pt_not (pt_truthU (pe_call (ok__law_state_right T hseer) (hr.mono (by decide)) rfl T.g__law_state_right T.k__law_state_right T.b__law_state_right .nil pass0 (pa_cons (pe_ix ix_seq (pv 5) pe_int (fun _ _ => rfl)) (pa_cons (pe_ix ix_seq (pv 4) pe_int (fun _ _ => rfl)) pa_nil))) (fun _ => rfl))) (pw_or1 (pt_not (pt_truthU (pe_call (ok__law_state_right T hseer) (hr.mono (by decide)) rfl T.g__law_state_right T.k__law_state_right T.b__law_state_right .nil pass0 (pa_cons (pe_ix ix_seq (pv 5) pe_int (fun _ _ => rfl)) (pa_cons (pe_ix ix_seq (pv 4) pe_int (fun _ _ => rfl)) pa_nil))) (fun _ => rfl))))))
   (pss_one (ps_ret pe_bl))
   pss_nil)))))
  (pss_cons (ps_for PassesOwn.never rfl (pi_range2 rfl T.n_range (pa_cons pe_int (pa_cons pe_int pa_nil))) (pg_name (i := 10) (sc_law).nd rfl (by first | exact Or.inl rfl | exact Or.inr rfl))
   (pss_one (ps_if (pt_not (pt_truthU (pe_call (ok__law_products_right T hseer) (hr.mono (by decide)) rfl T.g__law_products_right T.k__law_products_right T.b__law_products_right .nil pass0 (pa_cons (pe_call (ok__law_bag T hseer) (hr.mono (by decide)) rfl T.g__law_bag T.k__law_bag T.b__law_bag .nil pass0 (pa_cons (pv 0) (pa_cons (pv 10) pa_nil))) pa_nil)) (fun _ => rfl)))
   (pss_one (ps_ret pe_bl))
   pss_nil)))
  (pss_one (ps_ret (pe_call (ok__law_turned_right T hseer) (hr.mono (by decide)) rfl T.g__law_turned_right T.k__law_turned_right T.b__law_turned_right .nil pass0 (pa_cons (pe_call (ok__law_bag T hseer) (hr.mono (by decide)) rfl T.g__law_bag T.k__law_bag T.b__law_bag .nil pass0 (pa_cons (pv 0) (pa_cons pe_int pa_nil))) pa_nil))))))))))))))), ?_⟩
    walk_at "go"
    refine ⟨a, ns, 0, rfl, hS, hl, by decide, by decide, fun b0 H1 nb0 e1 hb1 => ?_⟩
    walk_at "st"
    refine ⟨by show 10 ≤ sizeLine; decide, fun Wd nW => ?_⟩
    obtain ⟨H2, hH2, e2, hW⟩ := lst_new K nW
    rw [hH2]
    clear hH2
    walk_at "st"
    refine ⟨b0, 8, 0, rfl, by decide, hb1.same e2, by omega, fun d H3 d0 d1 hb3 e3 => ?_⟩
    have hW3 := e3 _ _ ((hb1.same e2).ne hW fun _ _ _ z => by simp at z) hW
    walk_at "st"
    generalize decide (d = 0) = large
    (refine ⟨by first | exact le_l1 _ | exact le_l2 _ _ | exact le_l3 _ _ _ | exact le_l5 _ _ _ _ _ | exact le_l0, fun Ms nMs => ?_⟩; obtain ⟨H4, eqQ, e4, hMs⟩ := lst_new K nMs; rw [eqQ]; clear eqQ)
    walk_at "st"
    (refine ⟨by first | exact le_l1 _ | exact le_l2 _ _ | exact le_l3 _ _ _ | exact le_l5 _ _ _ _ _ | exact le_l0, fun Bs nBs => ?_⟩; obtain ⟨H5, eqQ, e5, hBs⟩ := lst_new K nBs; rw [eqQ]; clear eqQ)
    walk_at "st"
    (refine ⟨by first | exact le_l1 _ | exact le_l2 _ _ | exact le_l3 _ _ _ | exact le_l5 _ _ _ _ _ | exact le_l0, fun Ps nPs => ?_⟩; obtain ⟨H6, eqQ, e6, hPs⟩ := lst_new K nPs; rw [eqQ]; clear eqQ)
    walk_at "st"
    have e12 := e1.trans e2
    have E3 : Same H H3 := e12.mutX nb0 e3
    have E6 : Same H H6 := ((E3.trans e4).trans e5).trans e6
    have fMs : H Ms = none := E3.free nMs
    have fBs : H Bs = none := (E3.trans e4).free nBs
    have fPs : H Ps = none := ((E3.trans e4).trans e5).free nPs
    have hMs6 := (e5.trans e6) _ _ hMs
    have hBs6 := e6 _ _ hBs
    have n1 : Ms ≠ b0 := fun z => by obtain ⟨_, _, _, q, _⟩ := hb3; rw [z, q] at nMs; cases nMs
    have n2 : Bs ≠ b0 := fun z => by obtain ⟨_, _, _, q, _⟩ := hb3.same e4; rw [z, q] at nBs; cases nBs
    have n3 : Ps ≠ b0 := fun z => by obtain ⟨_, _, _, q, _⟩ := (hb3.same e4).same e5; rw [z, q] at nPs; cases nPs
    have n4 : Ms ≠ Bs := fun z => by rw [← z, hMs] at nBs; cases nBs
    have n5 : Ms ≠ Ps := fun z => by rw [← z, e5 _ _ hMs] at nPs; cases nPs
    have n6 : Bs ≠ Ps := fun z => by rw [← z, hBs] at nPs; cases nPs
    have hW6 := ((e4.trans e5).trans e6) _ _ hW3
    have nW1 : Wd ≠ b0 := (hb1.same e2).ne hW fun _ _ _ z => by simp at z
    have fW : H Wd = none := e1.free nW
    have nW2 : Wd ≠ Ms := fun z => by rw [← z, hW3] at nMs; cases nMs
    have nW3 : Wd ≠ Bs := fun z => by rw [← z, e4 _ _ hW3] at nBs; cases nBs
    have nW4 : Wd ≠ Ps := fun z => by rw [← z, (e4.trans e5) _ _ hW3] at nPs; cases nPs
    have nWS : Wd ∉ [b0, Ms, Bs, Ps] := by
      simp only [List.mem_cons, List.not_mem_nil, or_false, not_or]
      exact ⟨nW1, nW2, nW3, nW4⟩
    refine u_rng1 (by decide) ?_
    refine forKC walk_range0 (fun i σ H' => (∃ l7 l8 l9 l10 l11 l12 : Option V, σ = [some (.ref a), some (.ref b0), some (.ref Wd), some (.bl large), some (.ref Ms), some (.ref Bs), some (.ref Ps), l7, l8, l9, l10, l11, l12]) ∧ Same H H' ∧ H' Wd = some (.lst (wds.map V.int)) ∧ BagAt H' b0 (1 + 13 * i) ∧
      ((i = 0 ∧ H' Ms = some (.lst []) ∧ H' Bs = some (.lst []) ∧ H' Ps = some (.lst [])) ∨
       (i = 1 ∧ ∃ a0 o0 p0 q0 y0 n0 pr0, H' Ms = some (.lst [.ref o0]) ∧ H' Bs = some (.lst [.ref a0]) ∧ H' Ps = some (.lst [.ref y0]) ∧ Raw T [b0, Ms, Bs, Ps] H' a0 o0 p0 q0 y0 n0 pr0 ∧ H a0 = none ∧ H p0 = none ∧ H q0 = none) ∨
       (i = 2 ∧ ∃ a0 o0 p0 q0 y0 n0 pr0 a1 o1 p1 q1 y1 n1 pr1, H' Ms = some (.lst [.ref o0, .ref o1]) ∧ H' Bs = some (.lst [.ref a0, .ref a1]) ∧ H' Ps = some (.lst [.ref y0, .ref y1]) ∧ Raw T [b0, Ms, Bs, Ps] H' a0 o0 p0 q0 y0 n0 pr0 ∧ Raw T [b0, Ms, Bs, Ps] H' a1 o1 p1 q1 y1 n1 pr1 ∧
         (a0 ≠ a1 ∧ p0 ≠ p1 ∧ p0 ≠ q1 ∧ q0 ≠ p1 ∧ q0 ≠ q1 ∧ o0 ≠ p1 ∧ o0 ≠ q1 ∧ o1 ≠ p0 ∧ o1 ≠ q0) ∧ H a0 = none ∧ H p0 = none ∧ H q0 = none ∧ H a1 = none ∧ H p1 = none ∧ H q1 = none)))
      ⟨⟨_, _, _, _, _, _, rfl⟩, E6, hW6, ((hb3.same e4).same e5).same e6, .inl ⟨rfl, hMs6, hBs6, hPs⟩⟩ (fun _ _ _ _ _ => trivial) ?_ ?_
    · rintro i x σ H7 H' hi ⟨⟨l7, l8, l9, l10, l11, l12, rfl⟩, E7, hW7, hb7, hP⟩ ⟨rfl, rfl⟩
      obtain ⟨lm, lb, lpr, hMs7, hBs7, hPs7, llm, llb, llp⟩ : ∃ lm lb lpr : List V, H' Ms = some (.lst lm) ∧ H' Bs = some (.lst lb) ∧ H' Ps = some (.lst lpr) ∧ lm.length ≤ 2 ∧ lb.length ≤ 2 ∧ lpr.length ≤ 2 := by
        rcases hP with ⟨_, h1, h2, h3⟩ | ⟨_, _, _, _, _, _, _, _, h1, h2, h3, _⟩ | ⟨h, _⟩
        · exact ⟨_, _, _, h1, h2, h3, by decide, by decide, by decide⟩
        · exact ⟨_, _, _, h1, h2, h3, by show 1 ≤ 2; decide, by show 1 ≤ 2; decide, by show 1 ≤ 2; decide⟩
        · exact absurd hi (by rw [h]; decide)
      have hi2 : i < 2 := hi
      walk_at "st"
      refine ⟨b0, 10, 1 + 13 * i, rfl, by decide, hb7, by omega, fun d8 H8 d80 d81 hb8 e8 => ?_⟩
      have hW8 := e8 _ _ nW1 hW7
      obtain ⟨nn, hnn, nn12⟩ := wds_at d80 d81
      refine u_ixL hW8 hnn ?_
      walk_at "st"
      refine u_cutC (fun σ' H' => H' = H8 ∧ ∃ n : Nat, n ≤ 12 ∧ σ' = [some (.ref a), some (.ref b0), some (.ref Wd), some (.bl large), some (.ref Ms), some (.ref Bs), some (.ref Ps), some (.int i), some (.int n), l9, l10, l11, l12]) ?_ ?_
      · walk_at "st"
        refine u_iteB (fun h => ?_) (fun h => ?_)
        · walk_at "st"
          refine ⟨_, _, rfl, ?_⟩
          by_cases h4 : (4 : Int) < (nn : Int)
          · rw [if_pos h4]
            walk_at "st"
            exact ⟨rfl, 4, by decide, rfl⟩
          · rw [if_neg h4]
            walk_at "st"
            exact ⟨rfl, nn, nn12, rfl⟩
        · walk_at "st"
          exact ⟨rfl, nn, nn12, rfl⟩
      rintro σ' H8' ⟨rfl, n, n12, rfl⟩
      walk_at "st"
      refine u_rng1 (by omega) ?_
      refine lc_entries (K := K) (wide := n) (large := large) hb8 (by omega) (fun i H6 Q' q => ?_) (fun D pr H9 L => ?_)
      · walk_at "st"
        refine ⟨rfl, ?_⟩
        walk_at "st"
        exact q
      walk_at "st"
      refine u_tupleRow L.row.row fun v9 H10 e10 r10 => ?_
      obtain ⟨y, ysx, rfl, hyx⟩ := id r10
      have hb10 := L.bag.same e10
      have cMs : ∀ {X : Addr} {xs : List V}, X ≠ b0 → H' X = some (.lst xs) → H10 X = some (.lst xs) := fun {X xs} n q => e10 _ _ (L.sm _ _ n (e8 _ _ n q))
      have hMs10 := cMs n1 hMs7
      have hBs10 := cMs n2 hBs7
      have hPs10 := cMs n3 hPs7
      have hW10 := cMs nW1 hW7
      have i10 : Imm H' H10 := ((hb7.imm e8).trans (hb8.imm L.sm)).trans e10.imm
      have s10 : SameS [b0, Ms, Bs, Ps] H' H10 := ((SameX_s e8 (by simp)).trans (SameX_s L.sm (by simp))).trans e10.s
      have E10 : Same H H10 := E7.mutS s10 fun z hz => by
        simp only [List.mem_cons, List.not_mem_nil, or_false] at hz
        rcases hz with rfl | rfl | rfl | rfl <;> assumption
      walk_at "st"
      refine ⟨.inl ⟨rfl, _, SqL.of hMs10⟩, ?_⟩
      walk_at "st"
      (refine ⟨by first | exact le_l1 _ | exact le_l2 _ _ | exact le_l3 _ _ _ | exact le_l5 _ _ _ _ _ | exact le_l0, fun p np11 => ?_⟩; obtain ⟨H11, eqQ, e11, hp11⟩ := lst_new K np11; rw [eqQ]; clear eqQ)
      walk_at "st"
      (refine ⟨by first | exact le_l1 _ | exact le_l2 _ _ | exact le_l3 _ _ _ | exact le_l5 _ _ _ _ _ | exact le_l0, fun q nq12 => ?_⟩; obtain ⟨H12, eqQ, e12, hq12⟩ := lst_new K nq12; rw [eqQ]; clear eqQ)
      walk_at "st"
      (refine ⟨by first | exact le_l1 _ | exact le_l2 _ _ | exact le_l3 _ _ _ | exact le_l5 _ _ _ _ _ | exact le_l0, fun o no13 => ?_⟩; obtain ⟨H13, eqQ, e13, ho13⟩ := lst_new K no13; rw [eqQ]; clear eqQ)
      walk_at "st"
      have e1013 := (e11.trans e12).trans e13
      refine app_go (e1013 _ _ hMs10) (by omega) fun H14 hMs14 x14 i14 => ?_
      walk_at "st"
      have hBs14 := x14 _ _ (Ne.symm n4) (e1013 _ _ hBs10)
      have hPs14 := x14 _ _ (Ne.symm n5) (e1013 _ _ hPs10)
      refine ⟨.inl ⟨rfl, _, SqL.of hBs14⟩, ?_⟩
      walk_at "st"
      intro x dx hx hdx hne
      refine ⟨x, dx, n, rfl, upd_same, fun r l H16 hB16 tr tl x16 => ⟨rfl, ?_⟩⟩
      have e15 : Same H14 (upd (upd H14 dx (.own x)) x (.ins T.a_Basis dx [])) := (same_new hdx).trans (same_new (by rw [upd_ne (Ne.symm hne)]; exact hx))
      have e16 : Same H14 H16 := e15.mutX hx x16
      walk_at "st"
      refine app_go (e16 _ _ hBs14) (by omega) fun H17 hBs17 x17 i17 => ?_
      walk_at "st"
      have hPs17 := x17 _ _ (Ne.symm n6) (e16 _ _ hPs14)
      refine ⟨.inl ⟨rfl, _, SqL.of hPs17⟩, ?_⟩
      walk_at "st"
      refine app_go hPs17 (by omega) fun H18 hPs18 x18 i18 => ?_
      walk_at "st"
      -- what was done
      have s14 : SameS [b0, Ms, Bs, Ps] H10 H14 := e1013.s.trans (SameX_s x14 (by simp))
      have s18 : SameS [b0, Ms, Bs, Ps] H14 H18 := (e16.s.trans (SameX_s x17 (by simp))).trans (SameX_s x18 (by simp))
      have im14 : Imm H10 H14 := e1013.imm.trans i14
      have im18 : Imm H14 H18 := (e16.imm.trans i17).trans i18
      have fS : ∀ z ∈ [b0, Ms, Bs, Ps], H z = none := fun z hz => by
        simp only [List.mem_cons, List.not_mem_nil, or_false] at hz
        rcases hz with rfl | rfl | rfl | rfl <;> assumption
      have E14 := E10.mutS s14 fS
      have E18 := E14.mutS s18 fS
      have hMs18 := x18 _ _ n5 (x17 _ _ n4 (e16 _ _ hMs14))
      have hBs18 := x18 _ _ n6 hBs17
      have inS : ∀ {z : Addr} {G : Hp}, G z = none → G b0 ≠ none → G Ms ≠ none → G Bs ≠ none → G Ps ≠ none → z ∉ [b0, Ms, Bs, Ps] := fun {z G} h h1 h2 h3 h4 => by
        simp only [List.mem_cons, List.not_mem_nil, or_false, not_or]
        exact ⟨fun q => h1 (q ▸ h), fun q => h2 (q ▸ h), fun q => h3 (q ▸ h), fun q => h4 (q ▸ h)⟩
      have nn_ : ∀ {G : Hp} {z : Addr} {u : HO}, G z = some u → G z ≠ none := fun {G z u} h => by rw [h]; exact fun q => nomatch q
      have hbo : ∀ {G : Hp} {j : Nat}, BagAt G b0 j → G b0 ≠ none := fun {G j} h => by obtain ⟨_, _, _, q, _⟩ := h; exact nn_ q
      have np : p ∉ [b0, Ms, Bs, Ps] := inS np11 (hbo hb10) (nn_ hMs10) (nn_ hBs10) (nn_ hPs10)
      have nq : q ∉ [b0, Ms, Bs, Ps] := inS nq12 (hbo (hb10.same e11)) (nn_ (e11 _ _ hMs10)) (nn_ (e11 _ _ hBs10)) (nn_ (e11 _ _ hPs10))
      have no : o ∉ [b0, Ms, Bs, Ps] := inS no13 (hbo ((hb10.same e11).same e12)) (nn_ ((e11.trans e12) _ _ hMs10)) (nn_ ((e11.trans e12) _ _ hBs10)) (nn_ ((e11.trans e12) _ _ hPs10))
      have hb13 := ((hb10.same e11).same e12).same e13
      have hb14 : BagAt H14 b0 (1 + 13 * i + 1 + n) := by
        obtain ⟨r, s, c, q1, q2⟩ := hb13
        exact ⟨r, s, c, x14 _ _ (Ne.symm n1) q1, q2⟩
      have nx : x ∉ [b0, Ms, Bs, Ps] := inS hx (hbo hb14) (nn_ hMs14) (nn_ hBs14) (nn_ hPs14)
      have hb18 : BagAt H18 b0 (1 + 13 * (i + 1)) := by
        obtain ⟨r, s, c, q1, q2, q3⟩ := hb14.same e16
        exact ⟨r, s, c, x18 _ _ (Ne.symm n3) (x17 _ _ (Ne.symm n2) q1), q2, by omega⟩
      have sz9 := sz_large fun q hq => (L.en q hq).1
      have ll := L.len
      have newR : Raw T [b0, Ms, Bs, Ps] H18 x o p q y n pr := by
        refine ⟨(show BsOk T H16 x n [] [] from ⟨r, l, [], [], hB16, tr, trivial, tl, trivial, Bas.nil n, n12⟩).same (i17.trans i18) (fun u z => x18 _ _ (fun w => nx (w ▸ by simp)) (x17 _ _ (fun w => nx (w ▸ by simp)) z)), s18 _ _ no (x14 _ _ (fun w => no (w ▸ by simp)) ho13), s18 _ _ np (x14 _ _ (fun w => np (w ▸ by simp)) (e13 _ _ (e12 _ _ hp11))), s18 _ _ nq (x14 _ _ (fun w => nq (w ▸ by simp)) (e13 _ _ hq12)), fun w => ?_, r10.imm (im14.trans im18), ll, sz9.mono (by omega), ⟨nx, no, np, nq⟩, n12⟩
        rw [w, nq12] at hp11
        cases hp11
      have fx : H x = none := E14.free hx
      have fp : H p = none := E10.free np11
      have fq : H q = none := (E10.trans e11).free nq12
      refine ⟨⟨_, _, _, _, _, _, rfl⟩, E18, s18 _ _ nWS (s14 _ _ nWS hW10), hb18, ?_⟩
      rcases hP with ⟨rfl, h1, h2, h3⟩ | ⟨rfl, a0, o0, p0, q0, y0, n0, pr0, h1, h2, h3, R0, f1, f2, f3⟩ | ⟨h, _⟩
      · rw [h1] at hMs7
        cases hMs7
        rw [h2] at hBs7
        cases hBs7
        rw [h3] at hPs7
        cases hPs7
        exact .inr (.inl ⟨rfl, x, o, p, q, y, n, pr, hMs18, hBs18, hPs18, newR, fx, fp, fq⟩)
      · rw [h1] at hMs7
        cases hMs7
        rw [h2] at hBs7
        cases hBs7
        rw [h3] at hPs7
        cases hPs7
        have R10 := R0.keep i10 s10
        have R11 := R10.keep e11.imm e11.s
        have R12 := R11.keep e12.imm e12.s
        have R14 := R10.keep im14 s14
        have ne : ∀ {G : Hp} {z u : Addr}, G z = none → G u ≠ none → u ≠ z := fun {G z u} h1 h2 w => h2 (w ▸ h1)
        refine .inr (.inr ⟨rfl, a0, o0, p0, q0, y0, n0, pr0, x, o, p, q, y, n, pr, hMs18, hBs18, hPs18, R14.keep im18 s18, newR, ⟨ne hx R14.some.1, ne np11 R10.some.2.2.1, ne nq12 R11.some.2.2.1, ne np11 R10.some.2.2.2, ne nq12 R11.some.2.2.2, ne np11 R10.some.2.1, ne nq12 R11.some.2.1, Ne.symm (ne no13 R12.some.2.2.1), Ne.symm (ne no13 R12.some.2.2.2)⟩, f1, f2, f3, fx, fp, fq⟩)
      · exact absurd hi (by rw [h]; decide)
    rintro σ H7 ⟨⟨l7, l8, l9, l10, l11, l12, rfl⟩, E7, hW7, hb7, hP⟩
    have hP : ∃ a0 o0 p0 q0 y0 n0 pr0 a1 o1 p1 q1 y1 n1 pr1, H7 Ms = some (.lst [.ref o0, .ref o1]) ∧ H7 Bs = some (.lst [.ref a0, .ref a1]) ∧ H7 Ps = some (.lst [.ref y0, .ref y1]) ∧ Raw T [b0, Ms, Bs, Ps] H7 a0 o0 p0 q0 y0 n0 pr0 ∧ Raw T [b0, Ms, Bs, Ps] H7 a1 o1 p1 q1 y1 n1 pr1 ∧
         (a0 ≠ a1 ∧ p0 ≠ p1 ∧ p0 ≠ q1 ∧ q0 ≠ p1 ∧ q0 ≠ q1 ∧ o0 ≠ p1 ∧ o0 ≠ q1 ∧ o1 ≠ p0 ∧ o1 ≠ q0) ∧ H a0 = none ∧ H p0 = none ∧ H q0 = none ∧ H a1 = none ∧ H p1 = none ∧ H q1 = none := by
      rcases hP with ⟨h, _⟩ | ⟨h, _⟩ | ⟨_, h⟩
      · exact absurd h (by decide)
      · exact absurd h (by decide)
      · exact h
    obtain ⟨a0, o0, p0, q0, y0, n0, pr0, a1, o1, p1, q1, y1, n1', pr1, gMs, gBs, gPs, R0, R1, ⟨z1, z2, z3, z4, z5, z6, z7, z8, z9⟩, f1, f2, f3, f4, f5, f6⟩ := hP
    obtain ⟨M, hMM⟩ : ∃ M, M = [p0, q0, p1, q1] := ⟨_, rfl⟩
    have out : ∀ {x : Addr}, x ≠ p0 → x ≠ q0 → x ≠ p1 → x ≠ q1 → x ∉ M := fun {x} h1 h2 h3 h4 => by
      rw [hMM]
      simp only [List.mem_cons, List.not_mem_nil, or_false, not_or]
      exact ⟨h1, h2, h3, h4⟩
    have lv : Liv M H7 := fun m hm => by
      rw [hMM] at hm
      simp only [List.mem_cons, List.not_mem_nil, or_false] at hm
      rcases hm with rfl | rfl | rfl | rfl
      · exact ⟨_, R0.p_⟩
      · exact ⟨_, R0.q_⟩
      · exact ⟨_, R1.p_⟩
      · exact ⟨_, R1.q_⟩
    have nof : ∀ {x : Addr}, x ∈ [b0, Ms, Bs, Ps] → x ∉ M := fun {x} h => out (fun z => R0.nS.2.2.1 (z ▸ h)) (fun z => R0.nS.2.2.2 (z ▸ h)) (fun z => R1.nS.2.2.1 (z ▸ h)) (fun z => R1.nS.2.2.2 (z ▸ h))
    have lne : ∀ {x y : Addr} {v : V} {vs : List V}, H7 x = some (.lst (v :: vs)) → H7 y = some (.lst []) → x ≠ y := fun {x y v vs} h1 h2 z => by
      rw [z, h2] at h1
      cases h1
    have no0 : o0 ∉ M := out (lne R0.o_ R0.p_) (lne R0.o_ R0.q_) z6 z7
    have no1 : o1 ∉ M := out z8 z9 (lne R1.o_ R1.p_) (lne R1.o_ R1.q_)
    have i1 : p0 ∈ M := by rw [hMM]; simp
    have i2 : q0 ∈ M := by rw [hMM]; simp
    have i3 : p1 ∈ M := by rw [hMM]; simp
    have i4 : q1 ∈ M := by rw [hMM]; simp
    have szn : Sz 1 ([] : List (List Rat)).flatten := ⟨1, by decide, by decide, fun q hq => nomatch hq⟩
    have hWl : Wl T M H7 b0 Bs Ms Ps a0 o0 p0 q0 a1 o1 p1 q1 y0 y1 n0 n1' 1 (1 + 13 * 2) pr0 pr1 :=
      ⟨hb7, nof (by simp), ⟨gBs, gMs, nof (by simp), nof (by simp), z1, z2, z3, z4, z5, ⟨[], [], R0.bs, R0.md i1 i2 no0 lv, szn⟩, ⟨[], [], R1.bs, R1.md i3 i4 no1 lv, szn⟩⟩, gPs, nof (by simp), R0.row, R1.row⟩
    have lp0 := R0.len
    have lp1 := R1.len
    have zp0 := R0.sz
    have zp1 := R1.sz
    have n012 := R0.n12
    have n112 := R1.n12
    have fr : ∀ y ∈ [a0, p0, q0, a1, p1, q1], H y = none := fun y hy => by
      simp only [List.mem_cons, List.not_mem_nil, or_false] at hy
      rcases hy with rfl | rfl | rfl | rfl | rfl | rfl <;> assumption
    clear hMM out lv nof lne no0 no1 R0 R1 gMs gBs gPs hb7 szn z1 z2 z3 z4 z5 z6 z7 z8 z9 i1 i2 i3 i4 hW7 hW6 hW3 hMs hBs hPs hMs6 hBs6 hb3 hb1 e1 e2 e3 e4 e5 e6 e12 E3 E6
    have zw0 : Sz (W0 - 1) pr0 := zp0.mono (by decide)
    have zw1 : Sz (W0 - 1) pr1 := zp1.mono (by decide)
    walk_at "st"
    refine u_rng1 (by decide) ?_
    refine forKC walk_range0 (fun i σ H' => (∃ l7 l8 l9 l10 l11 l12 : Option V, σ = [some (.ref a), some (.ref b0), some (.ref Wd), some (.bl large), some (.ref Ms), some (.ref Bs), some (.ref Ps), l7, l8, l9, l10, l11, l12]) ∧ Same H7 H') ⟨⟨_, _, _, _, _, _, rfl⟩, Same.refl _⟩ (fun _ _ _ _ _ => trivial) ?_ ?_
    · rintro i x σ H8 H' hi ⟨⟨l7, l8, l9, l10, l11, l12, rfl⟩, e8⟩ ⟨rfl, rfl⟩
      obtain ⟨-, -, ⟨hBs, hMs, -, -, -, -, -, -, -, ⟨r0, l0, B0, M0, Z0⟩, ⟨r1, l1, B1, M1, Z1⟩⟩, hPs, -, w0, w1⟩ := hWl.same e8
      have hi2 : i = 0 ∨ i = 1 := by
        have : i < 2 := hi
        omega
      rcases hi2 with rfl | rfl
      · walk_at "st"
        refine ⟨M, a0, o0, p0, q0, n0, r0, l0, rfl, B0, M0, ?_⟩
        walk_at "st"
        refine ⟨M, a0, o0, p0, q0, .ref y0, _, _, n0, 1, r0, l0, pr0, rfl, B0, M0, w0.row, lp0, zw0, Z0, by decide, by omega, fun H9 e9 => ?_⟩
        walk_at "st"
        exact ⟨⟨_, _, _, _, _, _, rfl⟩, e8.trans e9⟩
      · walk_at "st"
        refine ⟨M, a1, o1, p1, q1, n1', r1, l1, rfl, B1, M1, ?_⟩
        walk_at "st"
        refine ⟨M, a1, o1, p1, q1, .ref y1, _, _, n1', 1, r1, l1, pr1, rfl, B1, M1, w1.row, lp1, zw1, Z1, by decide, by omega, fun H9 e9 => ?_⟩
        walk_at "st"
        exact ⟨⟨_, _, _, _, _, _, rfl⟩, e8.trans e9⟩
    rintro σ H8 ⟨⟨l7, l8, l9, l10, l11, l12, rfl⟩, e8⟩
    have E8 := E7.trans e8
    have hWl8 := hWl.same e8
    clear e8 E7 hWl
    walk_at "st"
    refine u_rng2 (by decide) ?_
    refine forKC walk_rangeL (fun i σ H' => (∃ l7 l8 l9 l10 l11 l12 : Option V, σ = [some (.ref a), some (.ref b0), some (.ref Wd), some (.bl large), some (.ref Ms), some (.ref Bs), some (.ref Ps), l7, l8, l9, l10, l11, l12]) ∧ Same H H' ∧ Wl T M H' b0 Bs Ms Ps a0 o0 p0 q0 a1 o1 p1 q1 y0 y1 n0 n1' (1 + 403 * i) (1 + 13 * 2) pr0 pr1) ⟨⟨_, _, _, _, _, _, rfl⟩, E8, hWl8⟩ (fun _ _ _ _ _ => trivial) ?_ ?_
    · rintro i x σ H9 H' hi ⟨⟨l7, l8, l9, l10, l11, l12, rfl⟩, E9, hW9⟩ ⟨rfl, rfl⟩
      have hi2 : i < 20 := hi
      walk_at "st"
      refine ⟨a, ns, 1 + (i : Int), rfl, (E9.kept a).l hS, hl, by omega, by omega, fun b H10 nb e10 hb10 => ?_⟩
      walk_at "st"
      have hW10 := hW9.same e10
      obtain ⟨g1, -, ⟨-, -, -, -, -, -, -, -, -, ⟨_, _, _, M0, _⟩, _⟩, g4, -⟩ := id hW9
      have nbM : b ∉ M := fun hm => by
        obtain ⟨xs, q⟩ := M0.liv b hm
        rw [nb] at q; cases q
      have nb0' : b0 ≠ b := fun z => by
        obtain ⟨_, _, _, q, _⟩ := g1
        rw [z, nb] at q; cases q
      have nP : Ps ≠ b := fun z => by rw [z, nb] at g4; cases g4
      refine ⟨M, b, Bs, Ms, a0, o0, p0, q0, a1, o1, p1, q1, 0, n0, n1', 1 + 403 * i, large, rfl, hb10, nbM, by decide, hW10.2.2.1, by omega, fun H11 i11 s11 t11 => ?_⟩
      walk_at "st"
      refine ⟨⟨_, _, _, _, _, _, rfl⟩, (E9.trans e10).mutS s11 (fun y hy => ?_), hW10.deed nb0' nP i11 s11 ?_⟩
      · rcases List.mem_cons.mp hy with z | z
        · rw [z]; exact E9.free nb
        · exact fr y z
      · rw [show 1 + 403 * (i + 1) = 1 + 403 * i + 403 by omega]
        exact t11
    rintro σ H9 ⟨⟨l7, l8, l9, l10, l11, l12, rfl⟩, E9, hW9⟩
    clear hWl8 E8
    walk_at "st"
    refine u_rng1 (by decide) ?_
    refine forKC walk_range0 (fun i σ H' => (∃ l7 l8 l9 l10 l11 l12 : Option V, σ = [some (.ref a), some (.ref b0), some (.ref Wd), some (.bl large), some (.ref Ms), some (.ref Bs), some (.ref Ps), l7, l8, l9, l10, l11, l12]) ∧ Same H H' ∧ Wl T M H' b0 Bs Ms Ps a0 o0 p0 q0 a1 o1 p1 q1 y0 y1 n0 n1' (8061 + 403 * i) (27 + 2 * i) pr0 pr1) ⟨⟨_, _, _, _, _, _, rfl⟩, E9, hW9⟩ (fun _ _ _ _ _ => trivial) ?_ ?_
    · rintro i x σ H10 H' hi ⟨⟨l7, l8, l9, l10, l11, l12, rfl⟩, E10, hW10⟩ ⟨rfl, rfl⟩
      have hi2 : i = 0 ∨ i = 1 := by
        have : i < 2 := hi
        omega
      rcases hi2 with rfl | rfl
      · skip
        walk_at "st"
        refine u_rng2 (by decide) ?_
        refine forKC walk_rangeL (fun d σ H'' => (∃ l8 l9 l10 l11 l12 : Option V, σ = [some (.ref a), some (.ref b0), some (.ref Wd), some (.bl large), some (.ref Ms), some (.ref Bs), some (.ref Ps), some (.int (0 : Nat)), l8, l9, l10, l11, l12]) ∧ Same H' H'') ⟨⟨_, _, _, _, _, rfl⟩, Same.refl _⟩ (fun _ _ _ _ _ => trivial) ?_ ?_
        · rintro d x σ H11 H'' hd ⟨⟨l8, l9, l10, l11, l12, rfl⟩, e11⟩ ⟨rfl, rfl⟩
          have hd2 : d < 2 := hd
          obtain ⟨-, -, ⟨hBs, hMs, -, -, -, -, -, -, -, ⟨r0, l0, B0, M0, Z0⟩, ⟨r1, l1, B1, M1, Z1⟩⟩, hPs, -, w0, w1⟩ := hW10.same e11
          walk_at "st"
          refine ⟨M, a0, o0, p0, q0, .ref y0, _, _, n0, _, r0, l0, pr0, rfl, B0, M0, w0.row, lp0, zw0, Z0, by decide, by omega, fun H12 e12 => ?_⟩
          walk_at "st"
          exact ⟨⟨_, _, _, _, _, rfl⟩, e11.trans e12⟩
        rintro σ H11 ⟨⟨l8, l9, l10, l11, l12, rfl⟩, e11⟩
        have hW11 := hW10.same e11
        have E11 := E10.trans e11
        obtain ⟨g1, g2, ⟨hBs, hMs, -, -, -, -, -, -, -, ⟨r0, l0, B0, M0, Z0⟩, ⟨r1, l1, B1, M1, Z1⟩⟩, hPs, -, w0, w1⟩ := id hW11
        walk_at "st"
        refine ⟨M, b0, _, a0, o0, p0, q0, y0, _, n0, _, r0, l0, pr0, rfl, g1, g2, by decide, B0, M0, w0, lp0, Z0.app zp0, by decide, fun H12 r' l' i12 s12 hb12 B12 M12 z12 => ?_⟩
        have hW12 := hW11.add0 i12 s12 hb12 B12 M12 z12 (by decide)
        have E12 := E11.mutS s12 fun y hy => by
          simp only [List.mem_cons, List.not_mem_nil, or_false] at hy
          rcases hy with rfl | rfl | rfl | rfl
          · exact nb0
          · exact fr _ (by simp)
          · exact fr _ (by simp)
          · exact fr _ (by simp)
        obtain ⟨-, -, ⟨hBs2, hMs2, -, -, -, -, -, -, -, ⟨t0, u0, C0, N0, -⟩, ⟨t1, u1, C1, N1, -⟩⟩, -⟩ := id hW12
        walk_at "st"
        refine ⟨M, a0, o0, p0, q0, n0, t0, u0, rfl, C0, N0, ?_⟩
        walk_at "st"
        refine ⟨M, a1, o1, p1, q1, n1', t1, u1, rfl, C1, N1, ?_⟩
        walk_at "st"
        exact ⟨⟨_, _, _, _, _, _, rfl⟩, E12, hW12⟩
      · skip
        walk_at "st"
        refine u_rng2 (by decide) ?_
        refine forKC walk_rangeL (fun d σ H'' => (∃ l8 l9 l10 l11 l12 : Option V, σ = [some (.ref a), some (.ref b0), some (.ref Wd), some (.bl large), some (.ref Ms), some (.ref Bs), some (.ref Ps), some (.int (1 : Nat)), l8, l9, l10, l11, l12]) ∧ Same H' H'') ⟨⟨_, _, _, _, _, rfl⟩, Same.refl _⟩ (fun _ _ _ _ _ => trivial) ?_ ?_
        · rintro d x σ H11 H'' hd ⟨⟨l8, l9, l10, l11, l12, rfl⟩, e11⟩ ⟨rfl, rfl⟩
          have hd2 : d < 2 := hd
          obtain ⟨-, -, ⟨hBs, hMs, -, -, -, -, -, -, -, ⟨r0, l0, B0, M0, Z0⟩, ⟨r1, l1, B1, M1, Z1⟩⟩, hPs, -, w0, w1⟩ := hW10.same e11
          walk_at "st"
          refine ⟨M, a1, o1, p1, q1, .ref y1, _, _, n1', _, r1, l1, pr1, rfl, B1, M1, w1.row, lp1, zw1, Z1, by decide, by omega, fun H12 e12 => ?_⟩
          walk_at "st"
          exact ⟨⟨_, _, _, _, _, rfl⟩, e11.trans e12⟩
        rintro σ H11 ⟨⟨l8, l9, l10, l11, l12, rfl⟩, e11⟩
        have hW11 := hW10.same e11
        have E11 := E10.trans e11
        obtain ⟨g1, g2, ⟨hBs, hMs, -, -, -, -, -, -, -, ⟨r0, l0, B0, M0, Z0⟩, ⟨r1, l1, B1, M1, Z1⟩⟩, hPs, -, w0, w1⟩ := id hW11
        walk_at "st"
        refine ⟨M, b0, _, a1, o1, p1, q1, y1, _, n1', _, r1, l1, pr1, rfl, g1, g2, by decide, B1, M1, w1, lp1, Z1.app zp1, by decide, fun H12 r' l' i12 s12 hb12 B12 M12 z12 => ?_⟩
        have hW12 := hW11.add1 i12 s12 hb12 B12 M12 z12 (by decide)
        have E12 := E11.mutS s12 fun y hy => by
          simp only [List.mem_cons, List.not_mem_nil, or_false] at hy
          rcases hy with rfl | rfl | rfl | rfl
          · exact nb0
          · exact fr _ (by simp)
          · exact fr _ (by simp)
          · exact fr _ (by simp)
        obtain ⟨-, -, ⟨hBs2, hMs2, -, -, -, -, -, -, -, ⟨t0, u0, C0, N0, -⟩, ⟨t1, u1, C1, N1, -⟩⟩, -⟩ := id hW12
        walk_at "st"
        refine ⟨M, a0, o0, p0, q0, n0, t0, u0, rfl, C0, N0, ?_⟩
        walk_at "st"
        refine ⟨M, a1, o1, p1, q1, n1', t1, u1, rfl, C1, N1, ?_⟩
        walk_at "st"
        exact ⟨⟨_, _, _, _, _, _, rfl⟩, E12, hW12⟩
    rintro σ H10 ⟨⟨l7, l8, l9, l10, l11, l12, rfl⟩, E10, -⟩
    clear hW9 E9
    walk_at "st"
    refine u_rng2 (by decide) ?_
    refine forKC walk_rangeL (fun i σ H' => (∃ l7 l8 l9 l10 l11 l12 : Option V, σ = [some (.ref a), some (.ref b0), some (.ref Wd), some (.bl large), some (.ref Ms), some (.ref Bs), some (.ref Ps), l7, l8, l9, l10, l11, l12]) ∧ Same H H') ⟨⟨_, _, _, _, _, _, rfl⟩, E10⟩ (fun _ _ _ _ _ => trivial) ?_ ?_
    · rintro i x σ H11 H' hi ⟨⟨l7, l8, l9, l10, l11, l12, rfl⟩, E11⟩ ⟨rfl, rfl⟩
      have hi2 : i < 3 := hi
      walk_at "st"
      refine ⟨a, ns, 21 + (i : Int), rfl, (E11.kept a).l hS, hl, by omega, by omega, fun b H12 nb e12 hb12 => ?_⟩
      walk_at "st"
      refine ⟨b, 0, rfl, hb12, by decide, fun H13 x13 => ?_⟩
      walk_at "st"
      exact ⟨⟨_, _, _, _, _, _, rfl⟩, (E11.trans e12).mutX (E11.free nb) x13⟩
    rintro σ H11 ⟨⟨l7, l8, l9, l10, l11, l12, rfl⟩, E11⟩
    walk_at "st"
    refine ⟨a, ns, 24, rfl, (E11.kept a).l hS, hl, by decide, by decide, fun b H12 nb e12 hb12 => ?_⟩
    walk_at "st"
    exact ⟨b, 0, rfl, hb12, by decide, fun H13 x13 => k H13⟩
end
end K01

set_option maxHeartbeats 8000000
namespace K01
open PySem PySem.Spec PyProof.Rows L2 Ly
abbrev e_WrongWidth : Stmt := inClass (top 6) 0
theorem all_mk {w : World} {K : PySem.W.Frag} {h : Heap} {mg : Str → Option Value} {fa : Addr} (X : K.In h) (G : h.Ns mainGlobals mg) (hfa : mg "law" = some (.ref fa))
    {f0 : Addr} {od0 an0 : Option Addr} {sl0 : Array (Option Value)} {oc0 kV0 dc0 pm0 cd0 ct0 : Value}
    {T0 : Addr} {oT0 : Value} {dT0 : Option Addr} {nT0 : Nat} {sT0 : Array (Option Value)} {tk0_0 : Tok}
    {f1 : Addr} {od1 an1 : Option Addr} {sl1 : Array (Option Value)} {oc1 kV1 dc1 pm1 cd1 ct1 : Value}
    {f2 : Addr} {od2 an2 : Option Addr} {sl2 : Array (Option Value)} {oc2 kV2 dc2 pm2 cd2 ct2 : Value}
    {f3 : Addr} {od3 an3 : Option Addr} {sl3 : Array (Option Value)} {oc3 kV3 dc3 pm3 cd3 ct3 : Value}
    {f4 : Addr} {od4 an4 : Option Addr} {sl4 : Array (Option Value)} {oc4 kV4 dc4 pm4 cd4 ct4 : Value}
    {f5 : Addr} {od5 an5 : Option Addr} {sl5 : Array (Option Value)} {oc5 kV5 dc5 pm5 cd5 ct5 : Value}
    {f6 : Addr} {od6 an6 : Option Addr} {sl6 : Array (Option Value)} {oc6 kV6 dc6 pm6 cd6 ct6 : Value}
    {f7 : Addr} {od7 an7 : Option Addr} {sl7 : Array (Option Value)} {oc7 kV7 dc7 pm7 cd7 ct7 : Value}
    {f8 : Addr} {od8 an8 : Option Addr} {sl8 : Array (Option Value)} {oc8 kV8 dc8 pm8 cd8 ct8 : Value}
    {f9 : Addr} {od9 an9 : Option Addr} {sl9 : Array (Option Value)} {oc9 kV9 dc9 pm9 cd9 ct9 : Value}
    {f10 : Addr} {od10 an10 : Option Addr} {sl10 : Array (Option Value)} {oc10 kV10 dc10 pm10 cd10 ct10 : Value}
    {f11 : Addr} {od11 an11 : Option Addr} {sl11 : Array (Option Value)} {oc11 kV11 dc11 pm11 cd11 ct11 : Value}
    {f12 : Addr} {od12 an12 : Option Addr} {sl12 : Array (Option Value)} {oc12 kV12 dc12 pm12 cd12 ct12 : Value}
    {f13 : Addr} {od13 an13 : Option Addr} {sl13 : Array (Option Value)} {oc13 kV13 dc13 pm13 cd13 ct13 : Value}
    {f14 : Addr} {od14 an14 : Option Addr} {sl14 : Array (Option Value)} {oc14 kV14 dc14 pm14 cd14 ct14 : Value}
    {f15 : Addr} {od15 an15 : Option Addr} {sl15 : Array (Option Value)} {oc15 kV15 dc15 pm15 cd15 ct15 : Value}
    {f16 : Addr} {od16 an16 : Option Addr} {sl16 : Array (Option Value)} {oc16 kV16 dc16 pm16 cd16 ct16 : Value}
    {f17 : Addr} {od17 an17 : Option Addr} {sl17 : Array (Option Value)} {oc17 kV17 dc17 pm17 cd17 ct17 : Value}
    {f18 : Addr} {od18 an18 : Option Addr} {sl18 : Array (Option Value)} {oc18 kV18 dc18 pm18 cd18 ct18 : Value}
    {f19 : Addr} {od19 an19 : Option Addr} {sl19 : Array (Option Value)} {oc19 kV19 dc19 pm19 cd19 ct19 : Value}
    {f20 : Addr} {od20 an20 : Option Addr} {sl20 : Array (Option Value)} {oc20 kV20 dc20 pm20 cd20 ct20 : Value}
    {f21 : Addr} {od21 an21 : Option Addr} {sl21 : Array (Option Value)} {oc21 kV21 dc21 pm21 cd21 ct21 : Value}
    {f22 : Addr} {od22 an22 : Option Addr} {sl22 : Array (Option Value)} {oc22 kV22 dc22 pm22 cd22 ct22 : Value}
    {f23 : Addr} {od23 an23 : Option Addr} {sl23 : Array (Option Value)} {oc23 kV23 dc23 pm23 cd23 ct23 : Value}
    {f24 : Addr} {od24 an24 : Option Addr} {sl24 : Array (Option Value)} {oc24 kV24 dc24 pm24 cd24 ct24 : Value}
    {f25 : Addr} {od25 an25 : Option Addr} {sl25 : Array (Option Value)} {oc25 kV25 dc25 pm25 cd25 ct25 : Value}
    {f26 : Addr} {od26 an26 : Option Addr} {sl26 : Array (Option Value)} {oc26 kV26 dc26 pm26 cd26 ct26 : Value}
    {f27 : Addr} {od27 an27 : Option Addr} {sl27 : Array (Option Value)} {oc27 kV27 dc27 pm27 cd27 ct27 : Value}
    {f28 : Addr} {od28 an28 : Option Addr} {sl28 : Array (Option Value)} {oc28 kV28 dc28 pm28 cd28 ct28 : Value}
    {f29 : Addr} {od29 an29 : Option Addr} {sl29 : Array (Option Value)} {oc29 kV29 dc29 pm29 cd29 ct29 : Value}
    {f30 : Addr} {od30 an30 : Option Addr} {sl30 : Array (Option Value)} {oc30 kV30 dc30 pm30 cd30 ct30 : Value}
    {f31 : Addr} {od31 an31 : Option Addr} {sl31 : Array (Option Value)} {oc31 kV31 dc31 pm31 cd31 ct31 : Value}
    {f32 : Addr} {od32 an32 : Option Addr} {sl32 : Array (Option Value)} {oc32 kV32 dc32 pm32 cd32 ct32 : Value}
    {f33 : Addr} {od33 an33 : Option Addr} {sl33 : Array (Option Value)} {oc33 kV33 dc33 pm33 cd33 ct33 : Value}
    {f34 : Addr} {od34 an34 : Option Addr} {sl34 : Array (Option Value)} {oc34 kV34 dc34 pm34 cd34 ct34 : Value}
    {f35 : Addr} {od35 an35 : Option Addr} {sl35 : Array (Option Value)} {oc35 kV35 dc35 pm35 cd35 ct35 : Value}
    {f36 : Addr} {od36 an36 : Option Addr} {sl36 : Array (Option Value)} {oc36 kV36 dc36 pm36 cd36 ct36 : Value}
    {f37 : Addr} {od37 an37 : Option Addr} {sl37 : Array (Option Value)} {oc37 kV37 dc37 pm37 cd37 ct37 : Value}
    {f38 : Addr} {od38 an38 : Option Addr} {sl38 : Array (Option Value)} {oc38 kV38 dc38 pm38 cd38 ct38 : Value}
    {f39 : Addr} {od39 an39 : Option Addr} {sl39 : Array (Option Value)} {oc39 kV39 dc39 pm39 cd39 ct39 : Value}
    {f40 : Addr} {od40 an40 : Option Addr} {sl40 : Array (Option Value)} {oc40 kV40 dc40 pm40 cd40 ct40 : Value}
    {f41 : Addr} {od41 an41 : Option Addr} {sl41 : Array (Option Value)} {oc41 kV41 dc41 pm41 cd41 ct41 : Value}
    {f42 : Addr} {od42 an42 : Option Addr} {sl42 : Array (Option Value)} {oc42 kV42 dc42 pm42 cd42 ct42 : Value}
    {f43 : Addr} {od43 an43 : Option Addr} {sl43 : Array (Option Value)} {oc43 kV43 dc43 pm43 cd43 ct43 : Value}
    {f44 : Addr} {od44 an44 : Option Addr} {sl44 : Array (Option Value)} {oc44 kV44 dc44 pm44 cd44 ct44 : Value}
    {f45 : Addr} {od45 an45 : Option Addr} {sl45 : Array (Option Value)} {oc45 kV45 dc45 pm45 cd45 ct45 : Value}
    {f46 : Addr} {od46 an46 : Option Addr} {sl46 : Array (Option Value)} {oc46 kV46 dc46 pm46 cd46 ct46 : Value}
    {f47 : Addr} {od47 an47 : Option Addr} {sl47 : Array (Option Value)} {oc47 kV47 dc47 pm47 cd47 ct47 : Value}
    {f48 : Addr} {od48 an48 : Option Addr} {sl48 : Array (Option Value)} {oc48 kV48 dc48 pm48 cd48 ct48 : Value}
    {f49 : Addr} {od49 an49 : Option Addr} {sl49 : Array (Option Value)} {oc49 kV49 dc49 pm49 cd49 ct49 : Value}
    {f50 : Addr} {od50 an50 : Option Addr} {sl50 : Array (Option Value)} {oc50 kV50 dc50 pm50 cd50 ct50 : Value}
    {C_Basis : Addr}
    {f51 : Addr} {od51 an51 : Option Addr} {sl51 : Array (Option Value)} {oc51 kV51 dc51 pm51 cd51 ct51 : Value}
    {f52 : Addr} {od52 an52 : Option Addr} {sl52 : Array (Option Value)} {oc52 kV52 dc52 pm52 cd52 ct52 : Value}
    {f53 : Addr} {od53 an53 : Option Addr} {sl53 : Array (Option Value)} {oc53 kV53 dc53 pm53 cd53 ct53 : Value}
    {f54 : Addr} {od54 an54 : Option Addr} {sl54 : Array (Option Value)} {oc54 kV54 dc54 pm54 cd54 ct54 : Value}
    {f55 : Addr} {od55 an55 : Option Addr} {sl55 : Array (Option Value)} {oc55 kV55 dc55 pm55 cd55 ct55 : Value}
    {f56 : Addr} {od56 an56 : Option Addr} {sl56 : Array (Option Value)} {oc56 kV56 dc56 pm56 cd56 ct56 : Value}
    {r56 : Addr} {rest56 : List Value}
    {f_ZERO : Addr} {od_ZERO : Option Addr} {n_ZERO : Nat} {sl_ZERO : Array (Option Value)} {tk_ZERO_0 : Tok} {tk_ZERO_1 : Tok}
    {f_ONE : Addr} {od_ONE : Option Addr} {n_ONE : Nat} {sl_ONE : Array (Option Value)} {tk_ONE_0 : Tok} {tk_ONE_1 : Tok}
    {f_SteelyardError : Addr}
    {f_LimitError : Addr}
    {f_ZeroBelow : Addr}
    {f_WrongWidth : Addr}
    {S_WrongWidth I_WrongWidth N_WrongWidth M_WrongWidth cc_WrongWidth ca_WrongWidth : Addr} {bm_WrongWidth bs_WrongWidth bt_WrongWidth su_WrongWidth sv_WrongWidth : List Value} {na_WrongWidth qn_WrongWidth nb_WrongWidth qb_WrongWidth fl_WrongWidth : Str} {sn_WrongWidth so_WrongWidth : List Str} {ab_WrongWidth ac_WrongWidth hh_WrongWidth : Bool} {co_WrongWidth cp_WrongWidth : Option Bool} {dd_WrongWidth de_WrongWidth : Option Addr}
    {k0_WrongWidth k1_WrongWidth k2_WrongWidth k3_WrongWidth k5_WrongWidth l0_WrongWidth l1_WrongWidth l2_WrongWidth l3_WrongWidth l5_WrongWidth : Option Value} {oc_WrongWidth dc_WrongWidth pm_WrongWidth ct_WrongWidth c1_WrongWidth c2_WrongWidth : Value} {od_WrongWidth an_WrongWidth d1_WrongWidth d2_WrongWidth : Option Addr} {os_WrongWidth s1_WrongWidth s2_WrongWidth : Array (Option Value)} {vs_WrongWidth : Array Value} {tf_WrongWidth : Tok}
    {f_Singular : Addr}
    (a0 : PySem.W.nsIn K mainGlobals "ratio" = some (some (.ref f0)))
    (l0 : K.lookup f0 = some ⟨oc0, od0, .func (PySem.W.fnOf "ratio" "ratio" (defArgs s_ratio) (defBody s_ratio) (defScope s_ratio) (.ref T0) kV0 dc0 pm0 an0 cd0 ct0), sl0⟩)
    (c0 : PySem.W.codeIn K cd0 "ratio" = true)
    (k0 : PySem.W.keepIn K (.ref f0) = true)
    (t0 : K.lookup T0 = some ⟨oT0, dT0, .seq #[.int 1 tk0_0] nT0, sT0⟩)
    (a1 : PySem.W.nsIn K mainGlobals "add" = some (some (.ref f1)))
    (l1 : K.lookup f1 = some ⟨oc1, od1, .func (PySem.W.fnOf "add" "add" (defArgs s_add) (defBody s_add) (defScope s_add) .none kV1 dc1 pm1 an1 cd1 ct1), sl1⟩)
    (c1 : PySem.W.codeIn K cd1 "add" = true)
    (k1 : PySem.W.keepIn K (.ref f1) = true)
    (a2 : PySem.W.nsIn K mainGlobals "multiply" = some (some (.ref f2)))
    (l2 : K.lookup f2 = some ⟨oc2, od2, .func (PySem.W.fnOf "multiply" "multiply" (defArgs s_multiply) (defBody s_multiply) (defScope s_multiply) .none kV2 dc2 pm2 an2 cd2 ct2), sl2⟩)
    (c2 : PySem.W.codeIn K cd2 "multiply" = true)
    (k2 : PySem.W.keepIn K (.ref f2) = true)
    (a3 : PySem.W.nsIn K mainGlobals "divide" = some (some (.ref f3)))
    (l3 : K.lookup f3 = some ⟨oc3, od3, .func (PySem.W.fnOf "divide" "divide" (defArgs s_divide) (defBody s_divide) (defScope s_divide) .none kV3 dc3 pm3 an3 cd3 ct3), sl3⟩)
    (c3 : PySem.W.codeIn K cd3 "divide" = true)
    (k3 : PySem.W.keepIn K (.ref f3) = true)
    (a4 : PySem.W.nsIn K mainGlobals "negate" = some (some (.ref f4)))
    (l4 : K.lookup f4 = some ⟨oc4, od4, .func (PySem.W.fnOf "negate" "negate" (defArgs s_negate) (defBody s_negate) (defScope s_negate) .none kV4 dc4 pm4 an4 cd4 ct4), sl4⟩)
    (c4 : PySem.W.codeIn K cd4 "negate" = true)
    (k4 : PySem.W.keepIn K (.ref f4) = true)
    (a5 : PySem.W.nsIn K mainGlobals "dot" = some (some (.ref f5)))
    (l5 : K.lookup f5 = some ⟨oc5, od5, .func (PySem.W.fnOf "dot" "dot" (defArgs s_dot) (defBody s_dot) (defScope s_dot) .none kV5 dc5 pm5 an5 cd5 ct5), sl5⟩)
    (c5 : PySem.W.codeIn K cd5 "dot" = true)
    (k5 : PySem.W.keepIn K (.ref f5) = true)
    (a6 : PySem.W.nsIn K mainGlobals "width_of" = some (some (.ref f6)))
    (l6 : K.lookup f6 = some ⟨oc6, od6, .func (PySem.W.fnOf "width_of" "width_of" (defArgs s_width_of) (defBody s_width_of) (defScope s_width_of) .none kV6 dc6 pm6 an6 cd6 ct6), sl6⟩)
    (c6 : PySem.W.codeIn K cd6 "width_of" = true)
    (k6 : PySem.W.keepIn K (.ref f6) = true)
    (a7 : PySem.W.nsIn K mainGlobals "plus_multiple" = some (some (.ref f7)))
    (l7 : K.lookup f7 = some ⟨oc7, od7, .func (PySem.W.fnOf "plus_multiple" "plus_multiple" (defArgs s_plus_multiple) (defBody s_plus_multiple) (defScope s_plus_multiple) .none kV7 dc7 pm7 an7 cd7 ct7), sl7⟩)
    (c7 : PySem.W.codeIn K cd7 "plus_multiple" = true)
    (k7 : PySem.W.keepIn K (.ref f7) = true)
    (a8 : PySem.W.nsIn K mainGlobals "multiple" = some (some (.ref f8)))
    (l8 : K.lookup f8 = some ⟨oc8, od8, .func (PySem.W.fnOf "multiple" "multiple" (defArgs s_multiple) (defBody s_multiple) (defScope s_multiple) .none kV8 dc8 pm8 an8 cd8 ct8), sl8⟩)
    (c8 : PySem.W.codeIn K cd8 "multiple" = true)
    (k8 : PySem.W.keepIn K (.ref f8) = true)
    (a9 : PySem.W.nsIn K mainGlobals "row_times" = some (some (.ref f9)))
    (l9 : K.lookup f9 = some ⟨oc9, od9, .func (PySem.W.fnOf "row_times" "row_times" (defArgs s_row_times) (defBody s_row_times) (defScope s_row_times) .none kV9 dc9 pm9 an9 cd9 ct9), sl9⟩)
    (c9 : PySem.W.codeIn K cd9 "row_times" = true)
    (k9 : PySem.W.keepIn K (.ref f9) = true)
    (a10 : PySem.W.nsIn K mainGlobals "matrix_times" = some (some (.ref f10)))
    (l10 : K.lookup f10 = some ⟨oc10, od10, .func (PySem.W.fnOf "matrix_times" "matrix_times" (defArgs s_matrix_times) (defBody s_matrix_times) (defScope s_matrix_times) .none kV10 dc10 pm10 an10 cd10 ct10), sl10⟩)
    (c10 : PySem.W.codeIn K cd10 "matrix_times" = true)
    (k10 : PySem.W.keepIn K (.ref f10) = true)
    (a11 : PySem.W.nsIn K mainGlobals "transposed" = some (some (.ref f11)))
    (l11 : K.lookup f11 = some ⟨oc11, od11, .func (PySem.W.fnOf "transposed" "transposed" (defArgs s_transposed) (defBody s_transposed) (defScope s_transposed) .none kV11 dc11 pm11 an11 cd11 ct11), sl11⟩)
    (c11 : PySem.W.codeIn K cd11 "transposed" = true)
    (k11 : PySem.W.keepIn K (.ref f11) = true)
    (a12 : PySem.W.nsIn K mainGlobals "identity" = some (some (.ref f12)))
    (l12 : K.lookup f12 = some ⟨oc12, od12, .func (PySem.W.fnOf "identity" "identity" (defArgs s_identity) (defBody s_identity) (defScope s_identity) .none kV12 dc12 pm12 an12 cd12 ct12), sl12⟩)
    (c12 : PySem.W.codeIn K cd12 "identity" = true)
    (k12 : PySem.W.keepIn K (.ref f12) = true)
    (a13 : PySem.W.nsIn K mainGlobals "first_nonzero" = some (some (.ref f13)))
    (l13 : K.lookup f13 = some ⟨oc13, od13, .func (PySem.W.fnOf "first_nonzero" "first_nonzero" (defArgs s_first_nonzero) (defBody s_first_nonzero) (defScope s_first_nonzero) .none kV13 dc13 pm13 an13 cd13 ct13), sl13⟩)
    (c13 : PySem.W.codeIn K cd13 "first_nonzero" = true)
    (k13 : PySem.W.keepIn K (.ref f13) = true)
    (a14 : PySem.W.nsIn K mainGlobals "_law_bag" = some (some (.ref f14)))
    (l14 : K.lookup f14 = some ⟨oc14, od14, .func (PySem.W.fnOf "_law_bag" "_law_bag" (defArgs s__law_bag) (defBody s__law_bag) (defScope s__law_bag) .none kV14 dc14 pm14 an14 cd14 ct14), sl14⟩)
    (c14 : PySem.W.codeIn K cd14 "_law_bag" = true)
    (k14 : PySem.W.keepIn K (.ref f14) = true)
    (a15 : PySem.W.nsIn K mainGlobals "_law_draw" = some (some (.ref f15)))
    (l15 : K.lookup f15 = some ⟨oc15, od15, .func (PySem.W.fnOf "_law_draw" "_law_draw" (defArgs s__law_draw) (defBody s__law_draw) (defScope s__law_draw) .none kV15 dc15 pm15 an15 cd15 ct15), sl15⟩)
    (c15 : PySem.W.codeIn K cd15 "_law_draw" = true)
    (k15 : PySem.W.keepIn K (.ref f15) = true)
    (a16 : PySem.W.nsIn K mainGlobals "_law_common" = some (some (.ref f16)))
    (l16 : K.lookup f16 = some ⟨oc16, od16, .func (PySem.W.fnOf "_law_common" "_law_common" (defArgs s__law_common) (defBody s__law_common) (defScope s__law_common) .none kV16 dc16 pm16 an16 cd16 ct16), sl16⟩)
    (c16 : PySem.W.codeIn K cd16 "_law_common" = true)
    (k16 : PySem.W.keepIn K (.ref f16) = true)
    (a17 : PySem.W.nsIn K mainGlobals "_law_low" = some (some (.ref f17)))
    (l17 : K.lookup f17 = some ⟨oc17, od17, .func (PySem.W.fnOf "_law_low" "_law_low" (defArgs s__law_low) (defBody s__law_low) (defScope s__law_low) .none kV17 dc17 pm17 an17 cd17 ct17), sl17⟩)
    (c17 : PySem.W.codeIn K cd17 "_law_low" = true)
    (k17 : PySem.W.keepIn K (.ref f17) = true)
    (a18 : PySem.W.nsIn K mainGlobals "_law_plus" = some (some (.ref f18)))
    (l18 : K.lookup f18 = some ⟨oc18, od18, .func (PySem.W.fnOf "_law_plus" "_law_plus" (defArgs s__law_plus) (defBody s__law_plus) (defScope s__law_plus) .none kV18 dc18 pm18 an18 cd18 ct18), sl18⟩)
    (c18 : PySem.W.codeIn K cd18 "_law_plus" = true)
    (k18 : PySem.W.keepIn K (.ref f18) = true)
    (a19 : PySem.W.nsIn K mainGlobals "_law_minus" = some (some (.ref f19)))
    (l19 : K.lookup f19 = some ⟨oc19, od19, .func (PySem.W.fnOf "_law_minus" "_law_minus" (defArgs s__law_minus) (defBody s__law_minus) (defScope s__law_minus) .none kV19 dc19 pm19 an19 cd19 ct19), sl19⟩)
    (c19 : PySem.W.codeIn K cd19 "_law_minus" = true)
    (k19 : PySem.W.keepIn K (.ref f19) = true)
    (a20 : PySem.W.nsIn K mainGlobals "_law_times" = some (some (.ref f20)))
    (l20 : K.lookup f20 = some ⟨oc20, od20, .func (PySem.W.fnOf "_law_times" "_law_times" (defArgs s__law_times) (defBody s__law_times) (defScope s__law_times) .none kV20 dc20 pm20 an20 cd20 ct20), sl20⟩)
    (c20 : PySem.W.codeIn K cd20 "_law_times" = true)
    (k20 : PySem.W.keepIn K (.ref f20) = true)
    (a21 : PySem.W.nsIn K mainGlobals "_law_over" = some (some (.ref f21)))
    (l21 : K.lookup f21 = some ⟨oc21, od21, .func (PySem.W.fnOf "_law_over" "_law_over" (defArgs s__law_over) (defBody s__law_over) (defScope s__law_over) .none kV21 dc21 pm21 an21 cd21 ct21), sl21⟩)
    (c21 : PySem.W.codeIn K cd21 "_law_over" = true)
    (k21 : PySem.W.keepIn K (.ref f21) = true)
    (a22 : PySem.W.nsIn K mainGlobals "_law_entry" = some (some (.ref f22)))
    (l22 : K.lookup f22 = some ⟨oc22, od22, .func (PySem.W.fnOf "_law_entry" "_law_entry" (defArgs s__law_entry) (defBody s__law_entry) (defScope s__law_entry) .none kV22 dc22 pm22 an22 cd22 ct22), sl22⟩)
    (c22 : PySem.W.codeIn K cd22 "_law_entry" = true)
    (k22 : PySem.W.keepIn K (.ref f22) = true)
    (a23 : PySem.W.nsIn K mainGlobals "_law_is_low" = some (some (.ref f23)))
    (l23 : K.lookup f23 = some ⟨oc23, od23, .func (PySem.W.fnOf "_law_is_low" "_law_is_low" (defArgs s__law_is_low) (defBody s__law_is_low) (defScope s__law_is_low) .none kV23 dc23 pm23 an23 cd23 ct23), sl23⟩)
    (c23 : PySem.W.codeIn K cd23 "_law_is_low" = true)
    (k23 : PySem.W.keepIn K (.ref f23) = true)
    (a24 : PySem.W.nsIn K mainGlobals "_law_equal" = some (some (.ref f24)))
    (l24 : K.lookup f24 = some ⟨oc24, od24, .func (PySem.W.fnOf "_law_equal" "_law_equal" (defArgs s__law_equal) (defBody s__law_equal) (defScope s__law_equal) .none kV24 dc24 pm24 an24 cd24 ct24), sl24⟩)
    (c24 : PySem.W.codeIn K cd24 "_law_equal" = true)
    (k24 : PySem.W.keepIn K (.ref f24) = true)
    (a25 : PySem.W.nsIn K mainGlobals "_law_row_equal" = some (some (.ref f25)))
    (l25 : K.lookup f25 = some ⟨oc25, od25, .func (PySem.W.fnOf "_law_row_equal" "_law_row_equal" (defArgs s__law_row_equal) (defBody s__law_row_equal) (defScope s__law_row_equal) .none kV25 dc25 pm25 an25 cd25 ct25), sl25⟩)
    (c25 : PySem.W.codeIn K cd25 "_law_row_equal" = true)
    (k25 : PySem.W.keepIn K (.ref f25) = true)
    (a26 : PySem.W.nsIn K mainGlobals "_law_rows_equal" = some (some (.ref f26)))
    (l26 : K.lookup f26 = some ⟨oc26, od26, .func (PySem.W.fnOf "_law_rows_equal" "_law_rows_equal" (defArgs s__law_rows_equal) (defBody s__law_rows_equal) (defScope s__law_rows_equal) .none kV26 dc26 pm26 an26 cd26 ct26), sl26⟩)
    (c26 : PySem.W.codeIn K cd26 "_law_rows_equal" = true)
    (k26 : PySem.W.keepIn K (.ref f26) = true)
    (a27 : PySem.W.nsIn K mainGlobals "_law_dot" = some (some (.ref f27)))
    (l27 : K.lookup f27 = some ⟨oc27, od27, .func (PySem.W.fnOf "_law_dot" "_law_dot" (defArgs s__law_dot) (defBody s__law_dot) (defScope s__law_dot) .none kV27 dc27 pm27 an27 cd27 ct27), sl27⟩)
    (c27 : PySem.W.codeIn K cd27 "_law_dot" = true)
    (k27 : PySem.W.keepIn K (.ref f27) = true)
    (a28 : PySem.W.nsIn K mainGlobals "_law_grid" = some (some (.ref f28)))
    (l28 : K.lookup f28 = some ⟨oc28, od28, .func (PySem.W.fnOf "_law_grid" "_law_grid" (defArgs s__law_grid) (defBody s__law_grid) (defScope s__law_grid) .none kV28 dc28 pm28 an28 cd28 ct28), sl28⟩)
    (c28 : PySem.W.codeIn K cd28 "_law_grid" = true)
    (k28 : PySem.W.keepIn K (.ref f28) = true)
    (a29 : PySem.W.nsIn K mainGlobals "_law_given" = some (some (.ref f29)))
    (l29 : K.lookup f29 = some ⟨oc29, od29, .func (PySem.W.fnOf "_law_given" "_law_given" (defArgs s__law_given) (defBody s__law_given) (defScope s__law_given) .none kV29 dc29 pm29 an29 cd29 ct29), sl29⟩)
    (c29 : PySem.W.codeIn K cd29 "_law_given" = true)
    (k29 : PySem.W.keepIn K (.ref f29) = true)
    (a30 : PySem.W.nsIn K mainGlobals "_law_combined" = some (some (.ref f30)))
    (l30 : K.lookup f30 = some ⟨oc30, od30, .func (PySem.W.fnOf "_law_combined" "_law_combined" (defArgs s__law_combined) (defBody s__law_combined) (defScope s__law_combined) .none kV30 dc30 pm30 an30 cd30 ct30), sl30⟩)
    (c30 : PySem.W.codeIn K cd30 "_law_combined" = true)
    (k30 : PySem.W.keepIn K (.ref f30) = true)
    (a31 : PySem.W.nsIn K mainGlobals "_law_reduced" = some (some (.ref f31)))
    (l31 : K.lookup f31 = some ⟨oc31, od31, .func (PySem.W.fnOf "_law_reduced" "_law_reduced" (defArgs s__law_reduced) (defBody s__law_reduced) (defScope s__law_reduced) .none kV31 dc31 pm31 an31 cd31 ct31), sl31⟩)
    (c31 : PySem.W.codeIn K cd31 "_law_reduced" = true)
    (k31 : PySem.W.keepIn K (.ref f31) = true)
    (a32 : PySem.W.nsIn K mainGlobals "_law_first" = some (some (.ref f32)))
    (l32 : K.lookup f32 = some ⟨oc32, od32, .func (PySem.W.fnOf "_law_first" "_law_first" (defArgs s__law_first) (defBody s__law_first) (defScope s__law_first) .none kV32 dc32 pm32 an32 cd32 ct32), sl32⟩)
    (c32 : PySem.W.codeIn K cd32 "_law_first" = true)
    (k32 : PySem.W.keepIn K (.ref f32) = true)
    (a33 : PySem.W.nsIn K mainGlobals "_law_entered" = some (some (.ref f33)))
    (l33 : K.lookup f33 = some ⟨oc33, od33, .func (PySem.W.fnOf "_law_entered" "_law_entered" (defArgs s__law_entered) (defBody s__law_entered) (defScope s__law_entered) .none kV33 dc33 pm33 an33 cd33 ct33), sl33⟩)
    (c33 : PySem.W.codeIn K cd33 "_law_entered" = true)
    (k33 : PySem.W.keepIn K (.ref f33) = true)
    (a34 : PySem.W.nsIn K mainGlobals "_law_held" = some (some (.ref f34)))
    (l34 : K.lookup f34 = some ⟨oc34, od34, .func (PySem.W.fnOf "_law_held" "_law_held" (defArgs s__law_held) (defBody s__law_held) (defScope s__law_held) .none kV34 dc34 pm34 an34 cd34 ct34), sl34⟩)
    (c34 : PySem.W.codeIn K cd34 "_law_held" = true)
    (k34 : PySem.W.keepIn K (.ref f34) = true)
    (a35 : PySem.W.nsIn K mainGlobals "_law_row" = some (some (.ref f35)))
    (l35 : K.lookup f35 = some ⟨oc35, od35, .func (PySem.W.fnOf "_law_row" "_law_row" (defArgs s__law_row) (defBody s__law_row) (defScope s__law_row) .none kV35 dc35 pm35 an35 cd35 ct35), sl35⟩)
    (c35 : PySem.W.codeIn K cd35 "_law_row" = true)
    (k35 : PySem.W.keepIn K (.ref f35) = true)
    (a36 : PySem.W.nsIn K mainGlobals "_law_asked" = some (some (.ref f36)))
    (l36 : K.lookup f36 = some ⟨oc36, od36, .func (PySem.W.fnOf "_law_asked" "_law_asked" (defArgs s__law_asked) (defBody s__law_asked) (defScope s__law_asked) .none kV36 dc36 pm36 an36 cd36 ct36), sl36⟩)
    (c36 : PySem.W.codeIn K cd36 "_law_asked" = true)
    (k36 : PySem.W.keepIn K (.ref f36) = true)
    (a37 : PySem.W.nsIn K mainGlobals "_law_coordinates_right" = some (some (.ref f37)))
    (l37 : K.lookup f37 = some ⟨oc37, od37, .func (PySem.W.fnOf "_law_coordinates_right" "_law_coordinates_right" (defArgs s__law_coordinates_right) (defBody s__law_coordinates_right) (defScope s__law_coordinates_right) .none kV37 dc37 pm37 an37 cd37 ct37), sl37⟩)
    (c37 : PySem.W.codeIn K cd37 "_law_coordinates_right" = true)
    (k37 : PySem.W.keepIn K (.ref f37) = true)
    (a38 : PySem.W.nsIn K mainGlobals "_law_asked_right" = some (some (.ref f38)))
    (l38 : K.lookup f38 = some ⟨oc38, od38, .func (PySem.W.fnOf "_law_asked_right" "_law_asked_right" (defArgs s__law_asked_right) (defBody s__law_asked_right) (defScope s__law_asked_right) .none kV38 dc38 pm38 an38 cd38 ct38), sl38⟩)
    (c38 : PySem.W.codeIn K cd38 "_law_asked_right" = true)
    (k38 : PySem.W.keepIn K (.ref f38) = true)
    (a39 : PySem.W.nsIn K mainGlobals "_law_state_right" = some (some (.ref f39)))
    (l39 : K.lookup f39 = some ⟨oc39, od39, .func (PySem.W.fnOf "_law_state_right" "_law_state_right" (defArgs s__law_state_right) (defBody s__law_state_right) (defScope s__law_state_right) .none kV39 dc39 pm39 an39 cd39 ct39), sl39⟩)
    (c39 : PySem.W.codeIn K cd39 "_law_state_right" = true)
    (k39 : PySem.W.keepIn K (.ref f39) = true)
    (a40 : PySem.W.nsIn K mainGlobals "_law_wrong_right" = some (some (.ref f40)))
    (l40 : K.lookup f40 = some ⟨oc40, od40, .func (PySem.W.fnOf "_law_wrong_right" "_law_wrong_right" (defArgs s__law_wrong_right) (defBody s__law_wrong_right) (defScope s__law_wrong_right) .none kV40 dc40 pm40 an40 cd40 ct40), sl40⟩)
    (c40 : PySem.W.codeIn K cd40 "_law_wrong_right" = true)
    (k40 : PySem.W.keepIn K (.ref f40) = true)
    (a41 : PySem.W.nsIn K mainGlobals "_law_added_right" = some (some (.ref f41)))
    (l41 : K.lookup f41 = some ⟨oc41, od41, .func (PySem.W.fnOf "_law_added_right" "_law_added_right" (defArgs s__law_added_right) (defBody s__law_added_right) (defScope s__law_added_right) .none kV41 dc41 pm41 an41 cd41 ct41), sl41⟩)
    (c41 : PySem.W.codeIn K cd41 "_law_added_right" = true)
    (k41 : PySem.W.keepIn K (.ref f41) = true)
    (a42 : PySem.W.nsIn K mainGlobals "_law_deed_right" = some (some (.ref f42)))
    (l42 : K.lookup f42 = some ⟨oc42, od42, .func (PySem.W.fnOf "_law_deed_right" "_law_deed_right" (defArgs s__law_deed_right) (defBody s__law_deed_right) (defScope s__law_deed_right) .none kV42 dc42 pm42 an42 cd42 ct42), sl42⟩)
    (c42 : PySem.W.codeIn K cd42 "_law_deed_right" = true)
    (k42 : PySem.W.keepIn K (.ref f42) = true)
    (a43 : PySem.W.nsIn K mainGlobals "_law_matrix" = some (some (.ref f43)))
    (l43 : K.lookup f43 = some ⟨oc43, od43, .func (PySem.W.fnOf "_law_matrix" "_law_matrix" (defArgs s__law_matrix) (defBody s__law_matrix) (defScope s__law_matrix) .none kV43 dc43 pm43 an43 cd43 ct43), sl43⟩)
    (c43 : PySem.W.codeIn K cd43 "_law_matrix" = true)
    (k43 : PySem.W.keepIn K (.ref f43) = true)
    (a44 : PySem.W.nsIn K mainGlobals "_law_column" = some (some (.ref f44)))
    (l44 : K.lookup f44 = some ⟨oc44, od44, .func (PySem.W.fnOf "_law_column" "_law_column" (defArgs s__law_column) (defBody s__law_column) (defScope s__law_column) .none kV44 dc44 pm44 an44 cd44 ct44), sl44⟩)
    (c44 : PySem.W.codeIn K cd44 "_law_column" = true)
    (k44 : PySem.W.keepIn K (.ref f44) = true)
    (a45 : PySem.W.nsIn K mainGlobals "_law_row_times" = some (some (.ref f45)))
    (l45 : K.lookup f45 = some ⟨oc45, od45, .func (PySem.W.fnOf "_law_row_times" "_law_row_times" (defArgs s__law_row_times) (defBody s__law_row_times) (defScope s__law_row_times) .none kV45 dc45 pm45 an45 cd45 ct45), sl45⟩)
    (c45 : PySem.W.codeIn K cd45 "_law_row_times" = true)
    (k45 : PySem.W.keepIn K (.ref f45) = true)
    (a46 : PySem.W.nsIn K mainGlobals "_law_product_told" = some (some (.ref f46)))
    (l46 : K.lookup f46 = some ⟨oc46, od46, .func (PySem.W.fnOf "_law_product_told" "_law_product_told" (defArgs s__law_product_told) (defBody s__law_product_told) (defScope s__law_product_told) .none kV46 dc46 pm46 an46 cd46 ct46), sl46⟩)
    (c46 : PySem.W.codeIn K cd46 "_law_product_told" = true)
    (k46 : PySem.W.keepIn K (.ref f46) = true)
    (a47 : PySem.W.nsIn K mainGlobals "_law_products_right" = some (some (.ref f47)))
    (l47 : K.lookup f47 = some ⟨oc47, od47, .func (PySem.W.fnOf "_law_products_right" "_law_products_right" (defArgs s__law_products_right) (defBody s__law_products_right) (defScope s__law_products_right) .none kV47 dc47 pm47 an47 cd47 ct47), sl47⟩)
    (c47 : PySem.W.codeIn K cd47 "_law_products_right" = true)
    (k47 : PySem.W.keepIn K (.ref f47) = true)
    (a48 : PySem.W.nsIn K mainGlobals "_law_turned_right" = some (some (.ref f48)))
    (l48 : K.lookup f48 = some ⟨oc48, od48, .func (PySem.W.fnOf "_law_turned_right" "_law_turned_right" (defArgs s__law_turned_right) (defBody s__law_turned_right) (defScope s__law_turned_right) .none kV48 dc48 pm48 an48 cd48 ct48), sl48⟩)
    (c48 : PySem.W.codeIn K cd48 "_law_turned_right" = true)
    (k48 : PySem.W.keepIn K (.ref f48) = true)
    (a49 : PySem.W.nsIn K mainGlobals "law" = some (some (.ref f49)))
    (l49 : K.lookup f49 = some ⟨oc49, od49, .func (PySem.W.fnOf "law" "law" (defArgs s_law) (defBody s_law) (defScope s_law) .none kV49 dc49 pm49 an49 cd49 ct49), sl49⟩)
    (c49 : PySem.W.codeIn K cd49 "law" = true)
    (k49 : PySem.W.keepIn K (.ref f49) = true)
    (y_Basis : PySem.W.nsIn K mainGlobals "Basis" = some (some (.ref C_Basis)))
    (pg_Basis : PySem.W.plainGet K C_Basis Str.empty = true)
    (hd_Basis : PySem.W.hasDictIn K C_Basis = true)
    (po_Basis : PySem.W.plainOver K C_Basis = true)
    (sa_Basis : PySem.W.findIn K (.ref C_Basis) "__setattr__" = some (some (.builtin "object.__setattr__")))
    (mk_Basis : PySem.W.makesIn K C_Basis = true)
    (kc_Basis : PySem.W.keepIn K (.ref C_Basis) = true)
    (no_Basis_width : PySem.W.findIn K (.ref C_Basis) "width" = some none)
    (no_Basis__rows : PySem.W.findIn K (.ref C_Basis) "_rows" = some none)
    (no_Basis__lines : PySem.W.findIn K (.ref C_Basis) "_lines" = some none)
    (a50 : PySem.W.findIn K (.ref C_Basis) "__init__" = some (some (.ref f50)))
    (i50 : PySem.W.isFn K (.ref f50) = true)
    (l50 : K.lookup f50 = some ⟨oc50, od50, .func (PySem.W.fnOf "__init__" "Basis.__init__" (defArgs s_Basis___init__) (defBody s_Basis___init__) (defScope s_Basis___init__) .none kV50 dc50 pm50 an50 cd50 ct50), sl50⟩)
    (c50 : PySem.W.codeIn K cd50 "Basis.__init__" = true)
    (k50 : PySem.W.keepIn K (.ref f50) = true)
    (a51 : PySem.W.findIn K (.ref C_Basis) "__len__" = some (some (.ref f51)))
    (i51 : PySem.W.isFn K (.ref f51) = true)
    (l51 : K.lookup f51 = some ⟨oc51, od51, .func (PySem.W.fnOf "__len__" "Basis.__len__" (defArgs s_Basis___len__) (defBody s_Basis___len__) (defScope s_Basis___len__) .none kV51 dc51 pm51 an51 cd51 ct51), sl51⟩)
    (c51 : PySem.W.codeIn K cd51 "Basis.__len__" = true)
    (k51 : PySem.W.keepIn K (.ref f51) = true)
    (a52 : PySem.W.findIn K (.ref C_Basis) "__contains__" = some (some (.ref f52)))
    (i52 : PySem.W.isFn K (.ref f52) = true)
    (l52 : K.lookup f52 = some ⟨oc52, od52, .func (PySem.W.fnOf "__contains__" "Basis.__contains__" (defArgs s_Basis___contains__) (defBody s_Basis___contains__) (defScope s_Basis___contains__) .none kV52 dc52 pm52 an52 cd52 ct52), sl52⟩)
    (c52 : PySem.W.codeIn K cd52 "Basis.__contains__" = true)
    (k52 : PySem.W.keepIn K (.ref f52) = true)
    (a53 : PySem.W.findIn K (.ref C_Basis) "add" = some (some (.ref f53)))
    (i53 : PySem.W.isFn K (.ref f53) = true)
    (l53 : K.lookup f53 = some ⟨oc53, od53, .func (PySem.W.fnOf "add" "Basis.add" (defArgs s_Basis_add) (defBody s_Basis_add) (defScope s_Basis_add) .none kV53 dc53 pm53 an53 cd53 ct53), sl53⟩)
    (c53 : PySem.W.codeIn K cd53 "Basis.add" = true)
    (k53 : PySem.W.keepIn K (.ref f53) = true)
    (a54 : PySem.W.findIn K (.ref C_Basis) "coordinates" = some (some (.ref f54)))
    (i54 : PySem.W.isFn K (.ref f54) = true)
    (l54 : K.lookup f54 = some ⟨oc54, od54, .func (PySem.W.fnOf "coordinates" "Basis.coordinates" (defArgs s_Basis_coordinates) (defBody s_Basis_coordinates) (defScope s_Basis_coordinates) .none kV54 dc54 pm54 an54 cd54 ct54), sl54⟩)
    (c54 : PySem.W.codeIn K cd54 "Basis.coordinates" = true)
    (k54 : PySem.W.keepIn K (.ref f54) = true)
    (a55 : PySem.W.findIn K (.ref C_Basis) "_reduced" = some (some (.ref f55)))
    (i55 : PySem.W.isFn K (.ref f55) = true)
    (l55 : K.lookup f55 = some ⟨oc55, od55, .func (PySem.W.fnOf "_reduced" "Basis._reduced" (defArgs s_Basis__reduced) (defBody s_Basis__reduced) (defScope s_Basis__reduced) .none kV55 dc55 pm55 an55 cd55 ct55), sl55⟩)
    (c55 : PySem.W.codeIn K cd55 "Basis._reduced" = true)
    (k55 : PySem.W.keepIn K (.ref f55) = true)
    (a56 : PySem.W.findIn K (.ref C_Basis) "kept" = some (some (.ref r56)))
    (i56 : PySem.W.specialIn K (.ref r56) "__get__" = some (some (.builtin "property.__get__")))
    (j56 : PySem.W.takesIn K (.ref r56) = some true)
    (w56 : PySem.W.recIn K r56 "property" = some (.ref f56 :: rest56))
    (l56 : K.lookup f56 = some ⟨oc56, od56, .func (PySem.W.fnOf "kept" "Basis.kept" (defArgs s_Basis_kept) (defBody s_Basis_kept) (defScope s_Basis_kept) .none kV56 dc56 pm56 an56 cd56 ct56), sl56⟩)
    (c56 : PySem.W.codeIn K cd56 "Basis.kept" = true)
    (k56 : PySem.W.keepIn K (.ref f56) = true)
    (z_len : PySem.W.nsIn K mainGlobals "len" = some none)
    (z_abs : PySem.W.nsIn K mainGlobals "abs" = some none)
    (z_sum : PySem.W.nsIn K mainGlobals "sum" = some none)
    (z_min : PySem.W.nsIn K mainGlobals "min" = some none)
    (z_isinstance : PySem.W.nsIn K mainGlobals "isinstance" = some none)
    (z_int : PySem.W.nsIn K mainGlobals "int" = some none)
    (z_list : PySem.W.nsIn K mainGlobals "list" = some none)
    (z_tuple : PySem.W.nsIn K mainGlobals "tuple" = some none)
    (z_bool : PySem.W.nsIn K mainGlobals "bool" = some none)
    (z_range : PySem.W.nsIn K mainGlobals "range" = some none)
    (z_enumerate : PySem.W.nsIn K mainGlobals "enumerate" = some none)
    (z_reversed : PySem.W.nsIn K mainGlobals "reversed" = some none)
    (z_zip : PySem.W.nsIn K mainGlobals "zip" = some none)
    (z_ValueError : PySem.W.nsIn K mainGlobals "ValueError" = some none)
    (z_gcd : PySem.W.nsIn K mainGlobals "gcd" = some (some (.builtin "math.gcd")))
    (y_ZERO : PySem.W.nsIn K mainGlobals "ZERO" = some (some (.ref f_ZERO)))
    (l_ZERO : K.lookup f_ZERO = some ⟨.type "tuple", od_ZERO, .seq #[.int 0 tk_ZERO_0, .int 1 tk_ZERO_1] n_ZERO, sl_ZERO⟩)
    (y_ONE : PySem.W.nsIn K mainGlobals "ONE" = some (some (.ref f_ONE)))
    (l_ONE : K.lookup f_ONE = some ⟨.type "tuple", od_ONE, .seq #[.int 1 tk_ONE_0, .int 1 tk_ONE_1] n_ONE, sl_ONE⟩)
    (y_SteelyardError : PySem.W.nsIn K mainGlobals "SteelyardError" = some (some (.ref f_SteelyardError)))
    (k_SteelyardError : PySem.W.keepIn K (.ref f_SteelyardError) = true)
    (i_SteelyardError : PySem.W.isClsIn K f_SteelyardError = true)
    (h_SteelyardError : PySem.W.typeIn K (.ref f_SteelyardError) = some (.type "type"))
    (y_LimitError : PySem.W.nsIn K mainGlobals "LimitError" = some (some (.ref f_LimitError)))
    (k_LimitError : PySem.W.keepIn K (.ref f_LimitError) = true)
    (i_LimitError : PySem.W.isClsIn K f_LimitError = true)
    (h_LimitError : PySem.W.typeIn K (.ref f_LimitError) = some (.type "type"))
    (y_ZeroBelow : PySem.W.nsIn K mainGlobals "ZeroBelow" = some (some (.ref f_ZeroBelow)))
    (k_ZeroBelow : PySem.W.keepIn K (.ref f_ZeroBelow) = true)
    (i_ZeroBelow : PySem.W.isClsIn K f_ZeroBelow = true)
    (h_ZeroBelow : PySem.W.typeIn K (.ref f_ZeroBelow) = some (.type "type"))
    (y_WrongWidth : PySem.W.nsIn K mainGlobals "WrongWidth" = some (some (.ref f_WrongWidth)))
    (k_WrongWidth : PySem.W.keepIn K (.ref f_WrongWidth) = true)
    (i_WrongWidth : PySem.W.isClsIn K f_WrongWidth = true)
    (h_WrongWidth : PySem.W.typeIn K (.ref f_WrongWidth) = some (.type "type"))
    (L_WrongWidth : K.lookup f_WrongWidth = some (excClassObj na_WrongWidth qn_WrongWidth f_WrongWidth N_WrongWidth bs_WrongWidth (.ref S_WrongWidth :: bm_WrongWidth) true sn_WrongWidth su_WrongWidth ab_WrongWidth co_WrongWidth dd_WrongWidth k0_WrongWidth k1_WrongWidth k2_WrongWidth k3_WrongWidth k5_WrongWidth "ValueError.__new__"))
    (P_WrongWidth : K.lookup S_WrongWidth = some (excClassObj nb_WrongWidth qb_WrongWidth S_WrongWidth M_WrongWidth bt_WrongWidth bm_WrongWidth hh_WrongWidth so_WrongWidth sv_WrongWidth ac_WrongWidth cp_WrongWidth de_WrongWidth l0_WrongWidth l1_WrongWidth l2_WrongWidth l3_WrongWidth l5_WrongWidth "ValueError.__new__"))
    (V_WrongWidth : PySem.HandSPX.refsVE bm_WrongWidth = true)
    (Q_WrongWidth : PySem.W.findIn K (.ref S_WrongWidth) "__init__" = some (some (.builtin "ValueError.__init__")))
    (sa_WrongWidth : PySem.W.findIn K (.ref f_WrongWidth) "__setattr__" = some (some (.builtin "object.__setattr__")))
    (x1_WrongWidth : PySem.W.findIn K (.ref f_WrongWidth) "__getattribute__" = some (some (.builtin "BaseException.__getattribute__")))
    (x2_WrongWidth : PySem.W.findIn K (.ref f_WrongWidth) "__getattr__" = some none)
    (A_WrongWidth : PySem.W.findIn K (.ref f_WrongWidth) "__init__" = some (some (.ref I_WrongWidth)))
    (T_WrongWidth : PySem.W.typeIn K (.ref I_WrongWidth) = some (.type "function"))
    (bs_WrongWidth_ : PySem.W.subIn K (.ref f_WrongWidth) (.type "BaseException") = some true)
    (ve_WrongWidth : PySem.W.subIn K (.ref f_WrongWidth) (.type "ValueError") = some true)
    (s_WrongWidth : PySem.W.subIn K (.ref f_WrongWidth) (.ref f_WrongWidth) = some true)
    (m_WrongWidth : PySem.W.mroIn K f_WrongWidth (.ref f_WrongWidth) = some true)
    (x3_WrongWidth : PySem.W.hasDictIn K f_WrongWidth = true)
    (x4_WrongWidth : PySem.W.findIn K (.ref f_WrongWidth) "__class__" = some (some (.builtin "object.__class__")))
    (x5_WrongWidth : PySem.W.specialIn K (.builtin "object.__class__") "__get__" = some (some (.builtin "getset_descriptor.__get__")))
    (x6_WrongWidth : PySem.W.takesIn K (.builtin "object.__class__") = some true)
    (x7_WrongWidth : PySem.W.mroIn K f_WrongWidth (.type "object") = some true)
    (O_WrongWidth : PySem.W.nsIn K cStatics "thirdparty.any" = some none)
    (U_WrongWidth : PySem.W.nsIn K mainGlobals "super" = some none)
    (H_WrongWidth : (PP.main.scope.names.lookup ("super" : Str)).isSome = false)
    (F_WrongWidth : K.lookup I_WrongWidth = some ⟨oc_WrongWidth, od_WrongWidth, .func (PySem.W.ksFn "__init__" "WrongWidth.__init__" (defArgs e_WrongWidth) (defBody e_WrongWidth) (defScope e_WrongWidth) .none .none dc_WrongWidth pm_WrongWidth an_WrongWidth (.ref ca_WrongWidth) ct_WrongWidth cc_WrongWidth), os_WrongWidth⟩)
    (D_WrongWidth : PySem.W.codeIn K (.ref ca_WrongWidth) "WrongWidth.__init__" = true)
    (E_WrongWidth : K.lookup ca_WrongWidth = some ⟨c1_WrongWidth, d1_WrongWidth, .fields vs_WrongWidth, s1_WrongWidth⟩)
    (G_WrongWidth : vs_WrongWidth[2]? = some (.str fl_WrongWidth tf_WrongWidth))
    (W_WrongWidth : ((PP.main.file : Str) == fl_WrongWidth) = true)
    (J_WrongWidth : K.lookup cc_WrongWidth = some ⟨c2_WrongWidth, d2_WrongWidth, .cell (some (.ref f_WrongWidth)), s2_WrongWidth⟩)
    (n_WrongWidth_want : PySem.W.findIn K (.ref f_WrongWidth) "want" = some none)
    (n_WrongWidth_got : PySem.W.findIn K (.ref f_WrongWidth) "got" = some none)
    (y_Singular : PySem.W.nsIn K mainGlobals "Singular" = some (some (.ref f_Singular)))
    (k_Singular : PySem.W.keepIn K (.ref f_Singular) = true)
    (i_Singular : PySem.W.isClsIn K f_Singular = true)
    (h_Singular : PySem.W.typeIn K (.ref f_Singular) = some (.type "type"))
    (q_WrongWidth_LimitError : PySem.W.subIn K (.ref f_WrongWidth) (.ref f_LimitError) = some false)
    (q_WrongWidth_Singular : PySem.W.subIn K (.ref f_WrongWidth) (.ref f_Singular) = some false)
    (q_WrongWidth_SteelyardError : PySem.W.subIn K (.ref f_WrongWidth) (.ref f_SteelyardError) = some true)
    (q_WrongWidth_ValueError : PySem.W.subIn K (.ref f_WrongWidth) (.type "ValueError") = some true)
    : ∃ fd : FuncData, (∀ (s : Shared) (v : Value), BindsTo s fd ⟨[v], []⟩ [("script", v)]) ∧ ∀ base : Heap, K.In base → base.Ns mainGlobals mg → base.NoSeer → FnOk PP w K mg base CX0 46 fa fd ["script"] (sp_law K) := by
  have e : fa = f49 := by
    have e := hfa.symm.trans (PySem.W.mg_of X G a49)
    cases e
    rfl
  rw [e]
  clear e hfa
  have F0 : FunD K "ratio" "ratio" (defArgs s_ratio) (defBody s_ratio) (defScope s_ratio) [.int 1] [] f0 (PySem.W.fnOf "ratio" "ratio" (defArgs s_ratio) (defBody s_ratio) (defScope s_ratio) (.ref T0) kV0 dc0 pm0 an0 cd0 ct0) := ⟨⟨oc0, od0, _, _, _, _, _, _, _, sl0, rfl, l0, c0, .inr ⟨by simp, T0, _, [.int 1 tk0_0], nT0, rfl, t0, rfl, .cons ⟨_, rfl⟩ (.nil)⟩, .inl rfl⟩, k0⟩
  have b0 : Binds K (PySem.W.fnOf "ratio" "ratio" (defArgs s_ratio) (defBody s_ratio) (defScope s_ratio) (.ref T0) kV0 dc0 pm0 an0 cd0 ct0) ["above", "below"] [] := by
    obtain ⟨ds, hv, hb⟩ := F0.binds1 (ps := ["above", "below"]) 2 1 (by simp) rfl fun T kV doc pm an cdv ct us its hl hi => match us, hl, its, hi with | [_, _], _, [_], _ => ⟨_, rfl, rfl⟩
    cases hv
    exact hb
  have F1 := fun_mk (st := s_add) l1 c1 k1
  have b1 := F1.binds (ps := ["p", "q"]) fun _ _ _ _ _ _ us hl => match us, hl with | [_, _], _ => rfl
  have F2 := fun_mk (st := s_multiply) l2 c2 k2
  have b2 := F2.binds (ps := ["p", "q"]) fun _ _ _ _ _ _ us hl => match us, hl with | [_, _], _ => rfl
  have F3 := fun_mk (st := s_divide) l3 c3 k3
  have b3 := F3.binds (ps := ["p", "q"]) fun _ _ _ _ _ _ us hl => match us, hl with | [_, _], _ => rfl
  have F4 := fun_mk (st := s_negate) l4 c4 k4
  have b4 := F4.binds (ps := ["p"]) fun _ _ _ _ _ _ us hl => match us, hl with | [_], _ => rfl
  have F5 := fun_mk (st := s_dot) l5 c5 k5
  have b5 := F5.binds (ps := ["row", "column"]) fun _ _ _ _ _ _ us hl => match us, hl with | [_, _], _ => rfl
  have F6 := fun_mk (st := s_width_of) l6 c6 k6
  have b6 := F6.binds (ps := ["matrix"]) fun _ _ _ _ _ _ us hl => match us, hl with | [_], _ => rfl
  have F7 := fun_mk (st := s_plus_multiple) l7 c7 k7
  have b7 := F7.binds (ps := ["row", "factor", "other"]) fun _ _ _ _ _ _ us hl => match us, hl with | [_, _, _], _ => rfl
  have F8 := fun_mk (st := s_multiple) l8 c8 k8
  have b8 := F8.binds (ps := ["factor", "row"]) fun _ _ _ _ _ _ us hl => match us, hl with | [_, _], _ => rfl
  have F9 := fun_mk (st := s_row_times) l9 c9 k9
  have b9 := F9.binds (ps := ["row", "matrix"]) fun _ _ _ _ _ _ us hl => match us, hl with | [_, _], _ => rfl
  have F10 := fun_mk (st := s_matrix_times) l10 c10 k10
  have b10 := F10.binds (ps := ["left", "right"]) fun _ _ _ _ _ _ us hl => match us, hl with | [_, _], _ => rfl
  have F11 := fun_mk (st := s_transposed) l11 c11 k11
  have b11 := F11.binds (ps := ["matrix"]) fun _ _ _ _ _ _ us hl => match us, hl with | [_], _ => rfl
  have F12 := fun_mk (st := s_identity) l12 c12 k12
  have b12 := F12.binds (ps := ["size"]) fun _ _ _ _ _ _ us hl => match us, hl with | [_], _ => rfl
  have F13 := fun_mk (st := s_first_nonzero) l13 c13 k13
  have b13 := F13.binds (ps := ["row"]) fun _ _ _ _ _ _ us hl => match us, hl with | [_], _ => rfl
  have F14 := fun_mk (st := s__law_bag) l14 c14 k14
  have b14 := F14.binds (ps := ["script", "place"]) fun _ _ _ _ _ _ us hl => match us, hl with | [_, _], _ => rfl
  have F15 := fun_mk (st := s__law_draw) l15 c15 k15
  have b15 := F15.binds (ps := ["bag", "size"]) fun _ _ _ _ _ _ us hl => match us, hl with | [_, _], _ => rfl
  have F16 := fun_mk (st := s__law_common) l16 c16 k16
  have b16 := F16.binds (ps := ["one", "two"]) fun _ _ _ _ _ _ us hl => match us, hl with | [_, _], _ => rfl
  have F17 := fun_mk (st := s__law_low) l17 c17 k17
  have b17 := F17.binds (ps := ["above", "under"]) fun _ _ _ _ _ _ us hl => match us, hl with | [_, _], _ => rfl
  have F18 := fun_mk (st := s__law_plus) l18 c18 k18
  have b18 := F18.binds (ps := ["p", "q"]) fun _ _ _ _ _ _ us hl => match us, hl with | [_, _], _ => rfl
  have F19 := fun_mk (st := s__law_minus) l19 c19 k19
  have b19 := F19.binds (ps := ["p", "q"]) fun _ _ _ _ _ _ us hl => match us, hl with | [_, _], _ => rfl
  have F20 := fun_mk (st := s__law_times) l20 c20 k20
  have b20 := F20.binds (ps := ["p", "q"]) fun _ _ _ _ _ _ us hl => match us, hl with | [_, _], _ => rfl
  have F21 := fun_mk (st := s__law_over) l21 c21 k21
  have b21 := F21.binds (ps := ["p", "q"]) fun _ _ _ _ _ _ us hl => match us, hl with | [_, _], _ => rfl
  have F22 := fun_mk (st := s__law_entry) l22 c22 k22
  have b22 := F22.binds (ps := ["bag", "large"]) fun _ _ _ _ _ _ us hl => match us, hl with | [_, _], _ => rfl
  have F23 := fun_mk (st := s__law_is_low) l23 c23 k23
  have b23 := F23.binds (ps := ["actual"]) fun _ _ _ _ _ _ us hl => match us, hl with | [_], _ => rfl
  have F24 := fun_mk (st := s__law_equal) l24 c24 k24
  have b24 := F24.binds (ps := ["actual", "due"]) fun _ _ _ _ _ _ us hl => match us, hl with | [_, _], _ => rfl
  have F25 := fun_mk (st := s__law_row_equal) l25 c25 k25
  have b25 := F25.binds (ps := ["actual", "due"]) fun _ _ _ _ _ _ us hl => match us, hl with | [_, _], _ => rfl
  have F26 := fun_mk (st := s__law_rows_equal) l26 c26 k26
  have b26 := F26.binds (ps := ["actual", "due"]) fun _ _ _ _ _ _ us hl => match us, hl with | [_, _], _ => rfl
  have F27 := fun_mk (st := s__law_dot) l27 c27 k27
  have b27 := F27.binds (ps := ["row", "column"]) fun _ _ _ _ _ _ us hl => match us, hl with | [_, _], _ => rfl
  have F28 := fun_mk (st := s__law_grid) l28 c28 k28
  have b28 := F28.binds (ps := ["rows", "way"]) fun _ _ _ _ _ _ us hl => match us, hl with | [_, _], _ => rfl
  have F29 := fun_mk (st := s__law_given) l29 c29 k29
  have b29 := F29.binds (ps := ["row", "as_list"]) fun _ _ _ _ _ _ us hl => match us, hl with | [_, _], _ => rfl
  have F30 := fun_mk (st := s__law_combined) l30 c30 k30
  have b30 := F30.binds (ps := ["factors", "rows", "width"]) fun _ _ _ _ _ _ us hl => match us, hl with | [_, _, _], _ => rfl
  have F31 := fun_mk (st := s__law_reduced) l31 c31 k31
  have b31 := F31.binds (ps := ["steps", "row"]) fun _ _ _ _ _ _ us hl => match us, hl with | [_, _], _ => rfl
  have F32 := fun_mk (st := s__law_first) l32 c32 k32
  have b32 := F32.binds (ps := ["row"]) fun _ _ _ _ _ _ us hl => match us, hl with | [_], _ => rfl
  have F33 := fun_mk (st := s__law_entered) l33 c33 k33
  have b33 := F33.binds (ps := ["model", "row"]) fun _ _ _ _ _ _ us hl => match us, hl with | [_, _], _ => rfl
  have F34 := fun_mk (st := s__law_held) l34 c34 k34
  have b34 := F34.binds (ps := ["model", "row"]) fun _ _ _ _ _ _ us hl => match us, hl with | [_, _], _ => rfl
  have F35 := fun_mk (st := s__law_row) l35 c35 k35
  have b35 := F35.binds (ps := ["bag", "model", "large"]) fun _ _ _ _ _ _ us hl => match us, hl with | [_, _, _], _ => rfl
  have F36 := fun_mk (st := s__law_asked) l36 c36 k36
  have b36 := F36.binds (ps := ["basis", "row", "door"]) fun _ _ _ _ _ _ us hl => match us, hl with | [_, _, _], _ => rfl
  have F37 := fun_mk (st := s__law_coordinates_right) l37 c37 k37
  have b37 := F37.binds (ps := ["told", "model", "row"]) fun _ _ _ _ _ _ us hl => match us, hl with | [_, _, _], _ => rfl
  have F38 := fun_mk (st := s__law_asked_right) l38 c38 k38
  have b38 := F38.binds (ps := ["basis", "model", "row", "door", "as_list"]) fun _ _ _ _ _ _ us hl => match us, hl with | [_, _, _, _, _], _ => rfl
  have F39 := fun_mk (st := s__law_state_right) l39 c39 k39
  have b39 := F39.binds (ps := ["basis", "model"]) fun _ _ _ _ _ _ us hl => match us, hl with | [_, _], _ => rfl
  have F40 := fun_mk (st := s__law_wrong_right) l40 c40 k40
  have b40 := F40.binds (ps := ["bag", "basis", "model", "large"]) fun _ _ _ _ _ _ us hl => match us, hl with | [_, _, _, _], _ => rfl
  have F41 := fun_mk (st := s__law_added_right) l41 c41 k41
  have b41 := F41.binds (ps := ["bag", "basis", "model", "row", "as_list"]) fun _ _ _ _ _ _ us hl => match us, hl with | [_, _, _, _, _], _ => rfl
  have F42 := fun_mk (st := s__law_deed_right) l42 c42 k42
  have b42 := F42.binds (ps := ["bag", "bases", "models", "large"]) fun _ _ _ _ _ _ us hl => match us, hl with | [_, _, _, _], _ => rfl
  have F43 := fun_mk (st := s__law_matrix) l43 c43 k43
  have b43 := F43.binds (ps := ["bag", "tall", "wide", "large"]) fun _ _ _ _ _ _ us hl => match us, hl with | [_, _, _, _], _ => rfl
  have F44 := fun_mk (st := s__law_column) l44 c44 k44
  have b44 := F44.binds (ps := ["matrix", "k"]) fun _ _ _ _ _ _ us hl => match us, hl with | [_, _], _ => rfl
  have F45 := fun_mk (st := s__law_row_times) l45 c45 k45
  have b45 := F45.binds (ps := ["row", "matrix"]) fun _ _ _ _ _ _ us hl => match us, hl with | [_, _], _ => rfl
  have F46 := fun_mk (st := s__law_product_told) l46 c46 k46
  have b46 := F46.binds (ps := ["left", "right", "door"]) fun _ _ _ _ _ _ us hl => match us, hl with | [_, _, _], _ => rfl
  have F47 := fun_mk (st := s__law_products_right) l47 c47 k47
  have b47 := F47.binds (ps := ["bag"]) fun _ _ _ _ _ _ us hl => match us, hl with | [_], _ => rfl
  have F48 := fun_mk (st := s__law_turned_right) l48 c48 k48
  have b48 := F48.binds (ps := ["bag"]) fun _ _ _ _ _ _ us hl => match us, hl with | [_], _ => rfl
  have F49 := fun_mk (st := s_law) l49 c49 k49
  have b49 := F49.binds (ps := ["script"]) fun _ _ _ _ _ _ us hl => match us, hl with | [_], _ => rfl
  have F50 := fun_mk (st := s_Basis___init__) l50 c50 k50
  have b50 := F50.binds (ps := ["self", "width"]) fun _ _ _ _ _ _ us hl => match us, hl with | [_, _], _ => rfl
  have F51 := fun_mk (st := s_Basis___len__) l51 c51 k51
  have b51 := F51.binds (ps := ["self"]) fun _ _ _ _ _ _ us hl => match us, hl with | [_], _ => rfl
  have F52 := fun_mk (st := s_Basis___contains__) l52 c52 k52
  have b52 := F52.binds (ps := ["self", "row"]) fun _ _ _ _ _ _ us hl => match us, hl with | [_, _], _ => rfl
  have F53 := fun_mk (st := s_Basis_add) l53 c53 k53
  have b53 := F53.binds (ps := ["self", "row"]) fun _ _ _ _ _ _ us hl => match us, hl with | [_, _], _ => rfl
  have F54 := fun_mk (st := s_Basis_coordinates) l54 c54 k54
  have b54 := F54.binds (ps := ["self", "row"]) fun _ _ _ _ _ _ us hl => match us, hl with | [_, _], _ => rfl
  have F55 := fun_mk (st := s_Basis__reduced) l55 c55 k55
  have b55 := F55.binds (ps := ["self", "row"]) fun _ _ _ _ _ _ us hl => match us, hl with | [_, _], _ => rfl
  have F56 := fun_mk (st := s_Basis_kept) l56 c56 k56
  have b56 := F56.binds (ps := ["self"]) fun _ _ _ _ _ _ us hl => match us, hl with | [_], _ => rfl
  have ef_WrongWidth : PySem.LyE.ExF PP K mg "WrongWidth" f_WrongWidth I_WrongWidth :=
    { gC := PySem.W.mg_of X G y_WrongWidth, cls := ⟨S_WrongWidth, bm_WrongWidth, _, _, _, _, _, _, _, _, _, _, _, _, _, _, _, _, _, _, _, _, _, _, _, _, _, _, _, _, _, L_WrongWidth, P_WrongWidth, V_WrongWidth, Q_WrongWidth⟩, sa := sa_WrongWidth, ga := x1_WrongWidth, gg := x2_WrongWidth, iC := A_WrongWidth, tC := T_WrongWidth, kC := k_WrongWidth, exC := bs_WrongWidth_, veC := ve_WrongWidth, tyC := h_WrongWidth, mC := m_WrongWidth, hdC := x3_WrongWidth, te := exm_self bs_WrongWidth_ i_WrongWidth h_WrongWidth s_WrongWidth, opq := O_WrongWidth, sup := U_WrongWidth, htop := H_WrongWidth }
  have xt_WrongWidth : PySem.LyE.ExTxt PP K mg "WrongWidth" ["want", "got"] f_WrongWidth I_WrongWidth :=
    { T := ef_WrongWidth, nd := by decide, ns := by decide, small := by decide, pos := by simp,
      noA := fun a ha => by
        simp only [List.mem_cons, List.not_mem_nil, or_false] at ha
        rcases ha with rfl | rfl
        · exact n_WrongWidth_want
        · exact n_WrongWidth_got,
      fn := ⟨[⟨_, _, _, _, "want"⟩, ⟨_, _, _, _, "got"⟩], _, _, _, _, _, _, _, _, _, _, _, _, _, _, _, _, _, _, _, _, _, _, _, _, _, _, _, _, _, _, F_WrongWidth, D_WrongWidth, rfl, E_WrongWidth, G_WrongWidth, W_WrongWidth, J_WrongWidth, rfl, rfl, rfl, by decide +kernel, by decide +kernel, by decide +kernel, by decide +kernel, by decide +kernel, fun s e us hu => match us, hu with | [_, _], _ => .of_eq rfl⟩ }
  let T : Tx K mg :=
    { a_ratio := f0,
      d_ratio := PySem.W.fnOf "ratio" "ratio" (defArgs s_ratio) (defBody s_ratio) (defScope s_ratio) (.ref T0) kV0 dc0 pm0 an0 cd0 ct0,
      F_ratio := F0,
      g_ratio := PySem.W.mg_of X G a0,
      k_ratio := k0,
      b_ratio := b0,
      a_add := f1,
      d_add := PySem.W.fnOf "add" "add" (defArgs s_add) (defBody s_add) (defScope s_add) .none kV1 dc1 pm1 an1 cd1 ct1,
      F_add := F1,
      g_add := PySem.W.mg_of X G a1,
      k_add := k1,
      b_add := b1,
      a_multiply := f2,
      d_multiply := PySem.W.fnOf "multiply" "multiply" (defArgs s_multiply) (defBody s_multiply) (defScope s_multiply) .none kV2 dc2 pm2 an2 cd2 ct2,
      F_multiply := F2,
      g_multiply := PySem.W.mg_of X G a2,
      k_multiply := k2,
      b_multiply := b2,
      a_divide := f3,
      d_divide := PySem.W.fnOf "divide" "divide" (defArgs s_divide) (defBody s_divide) (defScope s_divide) .none kV3 dc3 pm3 an3 cd3 ct3,
      F_divide := F3,
      g_divide := PySem.W.mg_of X G a3,
      k_divide := k3,
      b_divide := b3,
      a_negate := f4,
      d_negate := PySem.W.fnOf "negate" "negate" (defArgs s_negate) (defBody s_negate) (defScope s_negate) .none kV4 dc4 pm4 an4 cd4 ct4,
      F_negate := F4,
      g_negate := PySem.W.mg_of X G a4,
      k_negate := k4,
      b_negate := b4,
      a_dot := f5,
      d_dot := PySem.W.fnOf "dot" "dot" (defArgs s_dot) (defBody s_dot) (defScope s_dot) .none kV5 dc5 pm5 an5 cd5 ct5,
      F_dot := F5,
      g_dot := PySem.W.mg_of X G a5,
      k_dot := k5,
      b_dot := b5,
      a_width_of := f6,
      d_width_of := PySem.W.fnOf "width_of" "width_of" (defArgs s_width_of) (defBody s_width_of) (defScope s_width_of) .none kV6 dc6 pm6 an6 cd6 ct6,
      F_width_of := F6,
      g_width_of := PySem.W.mg_of X G a6,
      k_width_of := k6,
      b_width_of := b6,
      a_plus_multiple := f7,
      d_plus_multiple := PySem.W.fnOf "plus_multiple" "plus_multiple" (defArgs s_plus_multiple) (defBody s_plus_multiple) (defScope s_plus_multiple) .none kV7 dc7 pm7 an7 cd7 ct7,
      F_plus_multiple := F7,
      g_plus_multiple := PySem.W.mg_of X G a7,
      k_plus_multiple := k7,
      b_plus_multiple := b7,
      a_multiple := f8,
      d_multiple := PySem.W.fnOf "multiple" "multiple" (defArgs s_multiple) (defBody s_multiple) (defScope s_multiple) .none kV8 dc8 pm8 an8 cd8 ct8,
      F_multiple := F8,
      g_multiple := PySem.W.mg_of X G a8,
      k_multiple := k8,
      b_multiple := b8,
      a_row_times := f9,
      d_row_times := PySem.W.fnOf "row_times" "row_times" (defArgs s_row_times) (defBody s_row_times) (defScope s_row_times) .none kV9 dc9 pm9 an9 cd9 ct9,
      F_row_times := F9,
      g_row_times := PySem.W.mg_of X G a9,
      k_row_times := k9,
      b_row_times := b9,
      a_matrix_times := f10,
      d_matrix_times := PySem.W.fnOf "matrix_times" "matrix_times" (defArgs s_matrix_times) (defBody s_matrix_times) (defScope s_matrix_times) .none kV10 dc10 pm10 an10 cd10 ct10,
      F_matrix_times := F10,
      g_matrix_times := PySem.W.mg_of X G a10,
      k_matrix_times := k10,
      b_matrix_times := b10,
      a_transposed := f11,
      d_transposed := PySem.W.fnOf "transposed" "transposed" (defArgs s_transposed) (defBody s_transposed) (defScope s_transposed) .none kV11 dc11 pm11 an11 cd11 ct11,
      F_transposed := F11,
      g_transposed := PySem.W.mg_of X G a11,
      k_transposed := k11,
      b_transposed := b11,
      a_identity := f12,
      d_identity := PySem.W.fnOf "identity" "identity" (defArgs s_identity) (defBody s_identity) (defScope s_identity) .none kV12 dc12 pm12 an12 cd12 ct12,
      F_identity := F12,
      g_identity := PySem.W.mg_of X G a12,
      k_identity := k12,
      b_identity := b12,
      a_first_nonzero := f13,
      d_first_nonzero := PySem.W.fnOf "first_nonzero" "first_nonzero" (defArgs s_first_nonzero) (defBody s_first_nonzero) (defScope s_first_nonzero) .none kV13 dc13 pm13 an13 cd13 ct13,
      F_first_nonzero := F13,
      g_first_nonzero := PySem.W.mg_of X G a13,
      k_first_nonzero := k13,
      b_first_nonzero := b13,
      a__law_bag := f14,
      d__law_bag := PySem.W.fnOf "_law_bag" "_law_bag" (defArgs s__law_bag) (defBody s__law_bag) (defScope s__law_bag) .none kV14 dc14 pm14 an14 cd14 ct14,
      F__law_bag := F14,
      g__law_bag := PySem.W.mg_of X G a14,
      k__law_bag := k14,
      b__law_bag := b14,
      a__law_draw := f15,
      d__law_draw := PySem.W.fnOf "_law_draw" "_law_draw" (defArgs s__law_draw) (defBody s__law_draw) (defScope s__law_draw) .none kV15 dc15 pm15 an15 cd15 ct15,
      F__law_draw := F15,
      g__law_draw := PySem.W.mg_of X G a15,
      k__law_draw := k15,
      b__law_draw := b15,
      a__law_common := f16,
      d__law_common := PySem.W.fnOf "_law_common" "_law_common" (defArgs s__law_common) (defBody s__law_common) (defScope s__law_common) .none kV16 dc16 pm16 an16 cd16 ct16,
      F__law_common := F16,
      g__law_common := PySem.W.mg_of X G a16,
      k__law_common := k16,
      b__law_common := b16,
      a__law_low := f17,
      d__law_low := PySem.W.fnOf "_law_low" "_law_low" (defArgs s__law_low) (defBody s__law_low) (defScope s__law_low) .none kV17 dc17 pm17 an17 cd17 ct17,
      F__law_low := F17,
      g__law_low := PySem.W.mg_of X G a17,
      k__law_low := k17,
      b__law_low := b17,
      a__law_plus := f18,
      d__law_plus := PySem.W.fnOf "_law_plus" "_law_plus" (defArgs s__law_plus) (defBody s__law_plus) (defScope s__law_plus) .none kV18 dc18 pm18 an18 cd18 ct18,
      F__law_plus := F18,
      g__law_plus := PySem.W.mg_of X G a18,
      k__law_plus := k18,
      b__law_plus := b18,
      a__law_minus := f19,
      d__law_minus := PySem.W.fnOf "_law_minus" "_law_minus" (defArgs s__law_minus) (defBody s__law_minus) (defScope s__law_minus) .none kV19 dc19 pm19 an19 cd19 ct19,
      F__law_minus := F19,
      g__law_minus := PySem.W.mg_of X G a19,
      k__law_minus := k19,
      b__law_minus := b19,
      a__law_times := f20,
      d__law_times := PySem.W.fnOf "_law_times" "_law_times" (defArgs s__law_times) (defBody s__law_times) (defScope s__law_times) .none kV20 dc20 pm20 an20 cd20 ct20,
      F__law_times := F20,
      g__law_times := PySem.W.mg_of X G a20,
      k__law_times := k20,
      b__law_times := b20,
      a__law_over := f21,
      d__law_over := PySem.W.fnOf "_law_over" "_law_over" (defArgs s__law_over) (defBody s__law_over) (defScope s__law_over) .none kV21 dc21 pm21 an21 cd21 ct21,
      F__law_over := F21,
      g__law_over := PySem.W.mg_of X G a21,
      k__law_over := k21,
      b__law_over := b21,
      a__law_entry := f22,
      d__law_entry := PySem.W.fnOf "_law_entry" "_law_entry" (defArgs s__law_entry) (defBody s__law_entry) (defScope s__law_entry) .none kV22 dc22 pm22 an22 cd22 ct22,
      F__law_entry := F22,
      g__law_entry := PySem.W.mg_of X G a22,
      k__law_entry := k22,
      b__law_entry := b22,
      a__law_is_low := f23,
      d__law_is_low := PySem.W.fnOf "_law_is_low" "_law_is_low" (defArgs s__law_is_low) (defBody s__law_is_low) (defScope s__law_is_low) .none kV23 dc23 pm23 an23 cd23 ct23,
      F__law_is_low := F23,
      g__law_is_low := PySem.W.mg_of X G a23,
      k__law_is_low := k23,
      b__law_is_low := b23,
      a__law_equal := f24,
      d__law_equal := PySem.W.fnOf "_law_equal" "_law_equal" (defArgs s__law_equal) (defBody s__law_equal) (defScope s__law_equal) .none kV24 dc24 pm24 an24 cd24 ct24,
      F__law_equal := F24,
      g__law_equal := PySem.W.mg_of X G a24,
      k__law_equal := k24,
      b__law_equal := b24,
      a__law_row_equal := f25,
      d__law_row_equal := PySem.W.fnOf "_law_row_equal" "_law_row_equal" (defArgs s__law_row_equal) (defBody s__law_row_equal) (defScope s__law_row_equal) .none kV25 dc25 pm25 an25 cd25 ct25,
      F__law_row_equal := F25,
      g__law_row_equal := PySem.W.mg_of X G a25,
      k__law_row_equal := k25,
      b__law_row_equal := b25,
      a__law_rows_equal := f26,
      d__law_rows_equal := PySem.W.fnOf "_law_rows_equal" "_law_rows_equal" (defArgs s__law_rows_equal) (defBody s__law_rows_equal) (defScope s__law_rows_equal) .none kV26 dc26 pm26 an26 cd26 ct26,
      F__law_rows_equal := F26,
      g__law_rows_equal := PySem.W.mg_of X G a26,
      k__law_rows_equal := k26,
      b__law_rows_equal := b26,
      a__law_dot := f27,
      d__law_dot := PySem.W.fnOf "_law_dot" "_law_dot" (defArgs s__law_dot) (defBody s__law_dot) (defScope s__law_dot) .none kV27 dc27 pm27 an27 cd27 ct27,
      F__law_dot := F27,
      g__law_dot := PySem.W.mg_of X G a27,
      k__law_dot := k27,
      b__law_dot := b27,
      a__law_grid := f28,
      d__law_grid := PySem.W.fnOf "_law_grid" "_law_grid" (defArgs s__law_grid) (defBody s__law_grid) (defScope s__law_grid) .none kV28 dc28 pm28 an28 cd28 ct28,
      F__law_grid := F28,
      g__law_grid := PySem.W.mg_of X G a28,
      k__law_grid := k28,
      b__law_grid := b28,
      a__law_given := f29,
      d__law_given := PySem.W.fnOf "_law_given" "_law_given" (defArgs s__law_given) (defBody s__law_given) (defScope s__law_given) .none kV29 dc29 pm29 an29 cd29 ct29,
      F__law_given := F29,
      g__law_given := PySem.W.mg_of X G a29,
      k__law_given := k29,
      b__law_given := b29,
      a__law_combined := f30,
      d__law_combined := PySem.W.fnOf "_law_combined" "_law_combined" (defArgs s__law_combined) (defBody s__law_combined) (defScope s__law_combined) .none kV30 dc30 pm30 an30 cd30 ct30,
      F__law_combined := F30,
      g__law_combined := PySem.W.mg_of X G a30,
      k__law_combined := k30,
      b__law_combined := b30,
      a__law_reduced := f31,
      d__law_reduced := PySem.W.fnOf "_law_reduced" "_law_reduced" (defArgs s__law_reduced) (defBody s__law_reduced) (defScope s__law_reduced) .none kV31 dc31 pm31 an31 cd31 ct31,
      F__law_reduced := F31,
      g__law_reduced := PySem.W.mg_of X G a31,
      k__law_reduced := k31,
      b__law_reduced := b31,
      a__law_first := f32,
      d__law_first := PySem.W.fnOf "_law_first" "_law_first" (defArgs s__law_first) (defBody s__law_first) (defScope s__law_first) .none kV32 dc32 pm32 an32 cd32 ct32,
      F__law_first := F32,
      g__law_first := PySem.W.mg_of X G a32,
      k__law_first := k32,
      b__law_first := b32,
      a__law_entered := f33,
      d__law_entered := PySem.W.fnOf "_law_entered" "_law_entered" (defArgs s__law_entered) (defBody s__law_entered) (defScope s__law_entered) .none kV33 dc33 pm33 an33 cd33 ct33,
      F__law_entered := F33,
      g__law_entered := PySem.W.mg_of X G a33,
      k__law_entered := k33,
      b__law_entered := b33,
      a__law_held := f34,
      d__law_held := PySem.W.fnOf "_law_held" "_law_held" (defArgs s__law_held) (defBody s__law_held) (defScope s__law_held) .none kV34 dc34 pm34 an34 cd34 ct34,
      F__law_held := F34,
      g__law_held := PySem.W.mg_of X G a34,
      k__law_held := k34,
      b__law_held := b34,
      a__law_row := f35,
      d__law_row := PySem.W.fnOf "_law_row" "_law_row" (defArgs s__law_row) (defBody s__law_row) (defScope s__law_row) .none kV35 dc35 pm35 an35 cd35 ct35,
      F__law_row := F35,
      g__law_row := PySem.W.mg_of X G a35,
      k__law_row := k35,
      b__law_row := b35,
      a__law_asked := f36,
      d__law_asked := PySem.W.fnOf "_law_asked" "_law_asked" (defArgs s__law_asked) (defBody s__law_asked) (defScope s__law_asked) .none kV36 dc36 pm36 an36 cd36 ct36,
      F__law_asked := F36,
      g__law_asked := PySem.W.mg_of X G a36,
      k__law_asked := k36,
      b__law_asked := b36,
      a__law_coordinates_right := f37,
      d__law_coordinates_right := PySem.W.fnOf "_law_coordinates_right" "_law_coordinates_right" (defArgs s__law_coordinates_right) (defBody s__law_coordinates_right) (defScope s__law_coordinates_right) .none kV37 dc37 pm37 an37 cd37 ct37,
      F__law_coordinates_right := F37,
      g__law_coordinates_right := PySem.W.mg_of X G a37,
      k__law_coordinates_right := k37,
      b__law_coordinates_right := b37,
      a__law_asked_right := f38,
      d__law_asked_right := PySem.W.fnOf "_law_asked_right" "_law_asked_right" (defArgs s__law_asked_right) (defBody s__law_asked_right) (defScope s__law_asked_right) .none kV38 dc38 pm38 an38 cd38 ct38,
      F__law_asked_right := F38,
      g__law_asked_right := PySem.W.mg_of X G a38,
      k__law_asked_right := k38,
      b__law_asked_right := b38,
      a__law_state_right := f39,
      d__law_state_right := PySem.W.fnOf "_law_state_right" "_law_state_right" (defArgs s__law_state_right) (defBody s__law_state_right) (defScope s__law_state_right) .none kV39 dc39 pm39 an39 cd39 ct39,
      F__law_state_right := F39,
      g__law_state_right := PySem.W.mg_of X G a39,
      k__law_state_right := k39,
      b__law_state_right := b39,
      a__law_wrong_right := f40,
      d__law_wrong_right := PySem.W.fnOf "_law_wrong_right" "_law_wrong_right" (defArgs s__law_wrong_right) (defBody s__law_wrong_right) (defScope s__law_wrong_right) .none kV40 dc40 pm40 an40 cd40 ct40,
      F__law_wrong_right := F40,
      g__law_wrong_right := PySem.W.mg_of X G a40,
      k__law_wrong_right := k40,
      b__law_wrong_right := b40,
      a__law_added_right := f41,
      d__law_added_right := PySem.W.fnOf "_law_added_right" "_law_added_right" (defArgs s__law_added_right) (defBody s__law_added_right) (defScope s__law_added_right) .none kV41 dc41 pm41 an41 cd41 ct41,
      F__law_added_right := F41,
      g__law_added_right := PySem.W.mg_of X G a41,
      k__law_added_right := k41,
      b__law_added_right := b41,
      a__law_deed_right := f42,
      d__law_deed_right := PySem.W.fnOf "_law_deed_right" "_law_deed_right" (defArgs s__law_deed_right) (defBody s__law_deed_right) (defScope s__law_deed_right) .none kV42 dc42 pm42 an42 cd42 ct42,
      F__law_deed_right := F42,
      g__law_deed_right := PySem.W.mg_of X G a42,
      k__law_deed_right := k42,
      b__law_deed_right := b42,
      a__law_matrix := f43,
      d__law_matrix := PySem.W.fnOf "_law_matrix" "_law_matrix" (defArgs s__law_matrix) (defBody s__law_matrix) (defScope s__law_matrix) .none kV43 dc43 pm43 an43 cd43 ct43,
      F__law_matrix := F43,
      g__law_matrix := PySem.W.mg_of X G a43,
      k__law_matrix := k43,
      b__law_matrix := b43,
      a__law_column := f44,
      d__law_column := PySem.W.fnOf "_law_column" "_law_column" (defArgs s__law_column) (defBody s__law_column) (defScope s__law_column) .none kV44 dc44 pm44 an44 cd44 ct44,
      F__law_column := F44,
      g__law_column := PySem.W.mg_of X G a44,
      k__law_column := k44,
      b__law_column := b44,
      a__law_row_times := f45,
      d__law_row_times := PySem.W.fnOf "_law_row_times" "_law_row_times" (defArgs s__law_row_times) (defBody s__law_row_times) (defScope s__law_row_times) .none kV45 dc45 pm45 an45 cd45 ct45,
      F__law_row_times := F45,
      g__law_row_times := PySem.W.mg_of X G a45,
      k__law_row_times := k45,
      b__law_row_times := b45,
      a__law_product_told := f46,
      d__law_product_told := PySem.W.fnOf "_law_product_told" "_law_product_told" (defArgs s__law_product_told) (defBody s__law_product_told) (defScope s__law_product_told) .none kV46 dc46 pm46 an46 cd46 ct46,
      F__law_product_told := F46,
      g__law_product_told := PySem.W.mg_of X G a46,
      k__law_product_told := k46,
      b__law_product_told := b46,
      a__law_products_right := f47,
      d__law_products_right := PySem.W.fnOf "_law_products_right" "_law_products_right" (defArgs s__law_products_right) (defBody s__law_products_right) (defScope s__law_products_right) .none kV47 dc47 pm47 an47 cd47 ct47,
      F__law_products_right := F47,
      g__law_products_right := PySem.W.mg_of X G a47,
      k__law_products_right := k47,
      b__law_products_right := b47,
      a__law_turned_right := f48,
      d__law_turned_right := PySem.W.fnOf "_law_turned_right" "_law_turned_right" (defArgs s__law_turned_right) (defBody s__law_turned_right) (defScope s__law_turned_right) .none kV48 dc48 pm48 an48 cd48 ct48,
      F__law_turned_right := F48,
      g__law_turned_right := PySem.W.mg_of X G a48,
      k__law_turned_right := k48,
      b__law_turned_right := b48,
      a_law := f49,
      d_law := PySem.W.fnOf "law" "law" (defArgs s_law) (defBody s_law) (defScope s_law) .none kV49 dc49 pm49 an49 cd49 ct49,
      F_law := F49,
      g_law := PySem.W.mg_of X G a49,
      k_law := k49,
      b_law := b49,
      a_Basis := C_Basis,
      g_Basis := PySem.W.mg_of X G y_Basis,
      cl_Basis := ⟨pg_Basis, hd_Basis, po_Basis, sa_Basis⟩,
      no_Basis_width := no_Basis_width,
      no_Basis__rows := no_Basis__rows,
      no_Basis__lines := no_Basis__lines,
      mk_Basis := ⟨mk_Basis, a50, i50, kc_Basis⟩,
      a_Basis___init__ := f50,
      d_Basis___init__ := PySem.W.fnOf "__init__" "Basis.__init__" (defArgs s_Basis___init__) (defBody s_Basis___init__) (defScope s_Basis___init__) .none kV50 dc50 pm50 an50 cd50 ct50,
      F_Basis___init__ := F50,
      k_Basis___init__ := k50,
      b_Basis___init__ := b50,
      m_Basis___len__ := ⟨a51, i51, k51⟩,
      a_Basis___len__ := f51,
      d_Basis___len__ := PySem.W.fnOf "__len__" "Basis.__len__" (defArgs s_Basis___len__) (defBody s_Basis___len__) (defScope s_Basis___len__) .none kV51 dc51 pm51 an51 cd51 ct51,
      F_Basis___len__ := F51,
      k_Basis___len__ := k51,
      b_Basis___len__ := b51,
      m_Basis___contains__ := ⟨a52, i52, k52⟩,
      a_Basis___contains__ := f52,
      d_Basis___contains__ := PySem.W.fnOf "__contains__" "Basis.__contains__" (defArgs s_Basis___contains__) (defBody s_Basis___contains__) (defScope s_Basis___contains__) .none kV52 dc52 pm52 an52 cd52 ct52,
      F_Basis___contains__ := F52,
      k_Basis___contains__ := k52,
      b_Basis___contains__ := b52,
      m_Basis_add := ⟨a53, i53, k53⟩,
      a_Basis_add := f53,
      d_Basis_add := PySem.W.fnOf "add" "Basis.add" (defArgs s_Basis_add) (defBody s_Basis_add) (defScope s_Basis_add) .none kV53 dc53 pm53 an53 cd53 ct53,
      F_Basis_add := F53,
      k_Basis_add := k53,
      b_Basis_add := b53,
      m_Basis_coordinates := ⟨a54, i54, k54⟩,
      a_Basis_coordinates := f54,
      d_Basis_coordinates := PySem.W.fnOf "coordinates" "Basis.coordinates" (defArgs s_Basis_coordinates) (defBody s_Basis_coordinates) (defScope s_Basis_coordinates) .none kV54 dc54 pm54 an54 cd54 ct54,
      F_Basis_coordinates := F54,
      k_Basis_coordinates := k54,
      b_Basis_coordinates := b54,
      m_Basis__reduced := ⟨a55, i55, k55⟩,
      a_Basis__reduced := f55,
      d_Basis__reduced := PySem.W.fnOf "_reduced" "Basis._reduced" (defArgs s_Basis__reduced) (defBody s_Basis__reduced) (defScope s_Basis__reduced) .none kV55 dc55 pm55 an55 cd55 ct55,
      F_Basis__reduced := F55,
      k_Basis__reduced := k55,
      b_Basis__reduced := b55,
      r_Basis_kept := r56,
      p_Basis_kept := ⟨a56, i56, j56, _, w56⟩,
      a_Basis_kept := f56,
      d_Basis_kept := PySem.W.fnOf "kept" "Basis.kept" (defArgs s_Basis_kept) (defBody s_Basis_kept) (defScope s_Basis_kept) .none kV56 dc56 pm56 an56 cd56 ct56,
      F_Basis_kept := F56,
      k_Basis_kept := k56,
      b_Basis_kept := b56,
      n_len := PySem.W.mg_none_of X G z_len,
      n_abs := PySem.W.mg_none_of X G z_abs,
      n_sum := PySem.W.mg_none_of X G z_sum,
      n_min := PySem.W.mg_none_of X G z_min,
      n_isinstance := PySem.W.mg_none_of X G z_isinstance,
      n_int := PySem.W.mg_none_of X G z_int,
      n_list := PySem.W.mg_none_of X G z_list,
      n_tuple := PySem.W.mg_none_of X G z_tuple,
      n_bool := PySem.W.mg_none_of X G z_bool,
      n_range := PySem.W.mg_none_of X G z_range,
      n_enumerate := PySem.W.mg_none_of X G z_enumerate,
      n_reversed := PySem.W.mg_none_of X G z_reversed,
      n_zip := PySem.W.mg_none_of X G z_zip,
      n_ValueError := PySem.W.mg_none_of X G z_ValueError,
      g_gcd := PySem.W.mg_of X G z_gcd,
      a_ZERO := f_ZERO,
      g_ZERO := PySem.W.mg_of X G y_ZERO,
      z_ZERO := fun H => .inr ⟨_, _, _, l_ZERO, rfl, rfl, by show 2 ≤ sizeLine; decide, .cons ⟨_, rfl⟩ (.cons ⟨_, rfl⟩ (.nil))⟩,
      a_ONE := f_ONE,
      g_ONE := PySem.W.mg_of X G y_ONE,
      z_ONE := fun H => .inr ⟨_, _, _, l_ONE, rfl, rfl, by show 2 ≤ sizeLine; decide, .cons ⟨_, rfl⟩ (.cons ⟨_, rfl⟩ (.nil))⟩,
      a_SteelyardError := f_SteelyardError,
      g_SteelyardError := PySem.W.mg_of X G y_SteelyardError,
      k_SteelyardError := k_SteelyardError,
      a_LimitError := f_LimitError,
      g_LimitError := PySem.W.mg_of X G y_LimitError,
      k_LimitError := k_LimitError,
      a_ZeroBelow := f_ZeroBelow,
      g_ZeroBelow := PySem.W.mg_of X G y_ZeroBelow,
      k_ZeroBelow := k_ZeroBelow,
      a_WrongWidth := f_WrongWidth,
      g_WrongWidth := PySem.W.mg_of X G y_WrongWidth,
      k_WrongWidth := k_WrongWidth,
      i_WrongWidth := I_WrongWidth,
      xt_WrongWidth := xt_WrongWidth,
      em_WrongWidth := exm_self bs_WrongWidth_ i_WrongWidth h_WrongWidth s_WrongWidth,
      xc_WrongWidth := ⟨x1_WrongWidth, x2_WrongWidth, bs_WrongWidth_, x3_WrongWidth, x4_WrongWidth, x5_WrongWidth, x6_WrongWidth, x7_WrongWidth⟩,
      a_Singular := f_Singular,
      g_Singular := PySem.W.mg_of X G y_Singular,
      k_Singular := k_Singular,
      q_WrongWidth_LimitError := kit_ref i_LimitError h_LimitError q_WrongWidth_LimitError s_WrongWidth,
      q_WrongWidth_Singular := kit_ref i_Singular h_Singular q_WrongWidth_Singular s_WrongWidth,
      q_WrongWidth_SteelyardError := kit_ref i_SteelyardError h_SteelyardError q_WrongWidth_SteelyardError s_WrongWidth,
      q_WrongWidth_ValueError := kit_typ (by decide +kernel) q_WrongWidth_ValueError }
  exact ⟨T.d_law, fun s v => .of_eq rfl, fun base _ _ hs => ok_law T hs⟩
end K01
open PySem PySem.W PyProof.Rows
set_option maxRecDepth 100000 in
set_option maxHeartbeats 0 in
theorem PySem.Challenge.cw_steelyard_k01_basis_history_and_rows_holds : PySem.Challenge.rw_steelyard_k01_basis_history_and_rows.Holds := by
  w_on; o_law; k_head; (case hw => w_witness2)
  k_fill
  refine Ly.walk_ofS (l := PySem.Challenge.rw_steelyard_k01_basis_history_and_rows) (n := 63) (k := 46) (x := "script") (sp := K01.sp_law) rfl (by decide) rfl ⟨rfl, by decide, by decide⟩ (by decide +kernel) (fun w h Y => PySem.W.kIn_of Y) ?F (fun K H a ns hl _ hS => ⟨a, ns, rfl, hS, hl, fun _ => rfl⟩)
  case F =>
    intro w mg fa h KX G hmg
    refine' K01.all_mk KX G hmg ?a0 ?l0 ?c0 ?k0 ?t0 ?a1 ?l1 ?c1 ?k1 ?a2 ?l2 ?c2 ?k2 ?a3 ?l3 ?c3 ?k3 ?a4 ?l4 ?c4 ?k4 ?a5 ?l5 ?c5 ?k5 ?a6 ?l6 ?c6 ?k6 ?a7 ?l7 ?c7 ?k7 ?a8 ?l8 ?c8 ?k8 ?a9 ?l9 ?c9 ?k9 ?a10 ?l10 ?c10 ?k10 ?a11 ?l11 ?c11 ?k11 ?a12 ?l12 ?c12 ?k12 ?a13 ?l13 ?c13 ?k13 ?a14 ?l14 ?c14 ?k14 ?a15 ?l15 ?c15 ?k15 ?a16 ?l16 ?c16 ?k16 ?a17 ?l17 ?c17 ?k17 ?a18 ?l18 ?c18 ?k18 ?a19 ?l19 ?c19 ?k19 ?a20 ?l20 ?c20 ?k20 ?a21 ?l21 ?c21 ?k21 ?a22 ?l22 ?c22 ?k22 ?a23 ?l23 ?c23 ?k23 ?a24 ?l24 ?c24 ?k24 ?a25 ?l25 ?c25 ?k25 ?a26 ?l26 ?c26 ?k26 ?a27 ?l27 ?c27 ?k27 ?a28 ?l28 ?c28 ?k28 ?a29 ?l29 ?c29 ?k29 ?a30 ?l30 ?c30 ?k30 ?a31 ?l31 ?c31 ?k31 ?a32 ?l32 ?c32 ?k32 ?a33 ?l33 ?c33 ?k33 ?a34 ?l34 ?c34 ?k34 ?a35 ?l35 ?c35 ?k35 ?a36 ?l36 ?c36 ?k36 ?a37 ?l37 ?c37 ?k37 ?a38 ?l38 ?c38 ?k38 ?a39 ?l39 ?c39 ?k39 ?a40 ?l40 ?c40 ?k40 ?a41 ?l41 ?c41 ?k41 ?a42 ?l42 ?c42 ?k42 ?a43 ?l43 ?c43 ?k43 ?a44 ?l44 ?c44 ?k44 ?a45 ?l45 ?c45 ?k45 ?a46 ?l46 ?c46 ?k46 ?a47 ?l47 ?c47 ?k47 ?a48 ?l48 ?c48 ?k48 ?a49 ?l49 ?c49 ?k49 ?y_Basis ?pg_Basis ?hd_Basis ?po_Basis ?sa_Basis ?mk_Basis ?kc_Basis ?no_Basis_width ?no_Basis__rows ?no_Basis__lines ?a50 ?i50 ?l50 ?c50 ?k50 ?a51 ?i51 ?l51 ?c51 ?k51 ?a52 ?i52 ?l52 ?c52 ?k52 ?a53 ?i53 ?l53 ?c53 ?k53 ?a54 ?i54 ?l54 ?c54 ?k54 ?a55 ?i55 ?l55 ?c55 ?k55 ?a56 ?i56 ?j56 ?w56 ?l56 ?c56 ?k56 ?z_len ?z_abs ?z_sum ?z_min ?z_isinstance ?z_int ?z_list ?z_tuple ?z_bool ?z_range ?z_enumerate ?z_reversed ?z_zip ?z_ValueError ?z_gcd ?y_ZERO ?l_ZERO ?y_ONE ?l_ONE ?y_SteelyardError ?k_SteelyardError ?i_SteelyardError ?h_SteelyardError ?y_LimitError ?k_LimitError ?i_LimitError ?h_LimitError ?y_ZeroBelow ?k_ZeroBelow ?i_ZeroBelow ?h_ZeroBelow ?y_WrongWidth ?k_WrongWidth ?i_WrongWidth ?h_WrongWidth ?L_WrongWidth ?P_WrongWidth ?V_WrongWidth ?Q_WrongWidth ?sa_WrongWidth ?x1_WrongWidth ?x2_WrongWidth ?A_WrongWidth ?T_WrongWidth ?bs_WrongWidth_ ?ve_WrongWidth ?s_WrongWidth ?m_WrongWidth ?x3_WrongWidth ?x4_WrongWidth ?x5_WrongWidth ?x6_WrongWidth ?x7_WrongWidth ?O_WrongWidth ?U_WrongWidth ?H_WrongWidth ?F_WrongWidth ?D_WrongWidth ?E_WrongWidth ?G_WrongWidth ?W_WrongWidth ?J_WrongWidth ?n_WrongWidth_want ?n_WrongWidth_got ?y_Singular ?k_Singular ?i_Singular ?h_Singular ?q_WrongWidth_LimitError ?q_WrongWidth_Singular ?q_WrongWidth_SteelyardError ?q_WrongWidth_ValueError
    (case a0 => k_is)
    (case l0 => k_is)
    (case c0 => k_is)
    (case k0 => k_is)
    (case t0 => k_is)
    (case a1 => k_is)
    (case l1 => k_is)
    (case c1 => k_is)
    (case k1 => k_is)
    (case a2 => k_is)
    (case l2 => k_is)
    (case c2 => k_is)
    (case k2 => k_is)
    (case a3 => k_is)
    (case l3 => k_is)
    (case c3 => k_is)
    (case k3 => k_is)
    (case a4 => k_is)
    (case l4 => k_is)
    (case c4 => k_is)
    (case k4 => k_is)
    (case a5 => k_is)
    (case l5 => k_is)
    (case c5 => k_is)
    (case k5 => k_is)
    (case a6 => k_is)
    (case l6 => k_is)
    (case c6 => k_is)
    (case k6 => k_is)
    (case a7 => k_is)
    (case l7 => k_is)
    (case c7 => k_is)
    (case k7 => k_is)
    (case a8 => k_is)
    (case l8 => k_is)
    (case c8 => k_is)
    (case k8 => k_is)
    (case a9 => k_is)
    (case l9 => k_is)
    (case c9 => k_is)
    (case k9 => k_is)
    (case a10 => k_is)
    (case l10 => k_is)
    (case c10 => k_is)
    (case k10 => k_is)
    (case a11 => k_is)
    (case l11 => k_is)
    (case c11 => k_is)
    (case k11 => k_is)
    (case a12 => k_is)
    (case l12 => k_is)
    (case c12 => k_is)
    (case k12 => k_is)
    (case a13 => k_is)
    (case l13 => k_is)
    (case c13 => k_is)
    (case k13 => k_is)
    (case a14 => k_is)
    (case l14 => k_is)
    (case c14 => k_is)
    (case k14 => k_is)
    (case a15 => k_is)
    (case l15 => k_is)
    (case c15 => k_is)
    (case k15 => k_is)
    (case a16 => k_is)
    (case l16 => k_is)
    (case c16 => k_is)
    (case k16 => k_is)
    (case a17 => k_is)
    (case l17 => k_is)
    (case c17 => k_is)
    (case k17 => k_is)
    (case a18 => k_is)
    (case l18 => k_is)
    (case c18 => k_is)
    (case k18 => k_is)
    (case a19 => k_is)
    (case l19 => k_is)
    (case c19 => k_is)
    (case k19 => k_is)
    (case a20 => k_is)
    (case l20 => k_is)
    (case c20 => k_is)
    (case k20 => k_is)
    (case a21 => k_is)
    (case l21 => k_is)
    (case c21 => k_is)
    (case k21 => k_is)
    (case a22 => k_is)
    (case l22 => k_is)
    (case c22 => k_is)
    (case k22 => k_is)
    (case a23 => k_is)
    (case l23 => k_is)
    (case c23 => k_is)
    (case k23 => k_is)
    (case a24 => k_is)
    (case l24 => k_is)
    (case c24 => k_is)
    (case k24 => k_is)
    (case a25 => k_is)
    (case l25 => k_is)
    (case c25 => k_is)
    (case k25 => k_is)
    (case a26 => k_is)
    (case l26 => k_is)
    (case c26 => k_is)
    (case k26 => k_is)
    (case a27 => k_is)
    (case l27 => k_is)
    (case c27 => k_is)
    (case k27 => k_is)
    (case a28 => k_is)
    (case l28 => k_is)
    (case c28 => k_is)
    (case k28 => k_is)
    (case a29 => k_is)
    (case l29 => k_is)
    (case c29 => k_is)
    (case k29 => k_is)
    (case a30 => k_is)
    (case l30 => k_is)
    (case c30 => k_is)
    (case k30 => k_is)
    (case a31 => k_is)
    (case l31 => k_is)
    (case c31 => k_is)
    (case k31 => k_is)
    (case a32 => k_is)
    (case l32 => k_is)
    (case c32 => k_is)
    (case k32 => k_is)
    (case a33 => k_is)
    (case l33 => k_is)
    (case c33 => k_is)
    (case k33 => k_is)
    (case a34 => k_is)
    (case l34 => k_is)
    (case c34 => k_is)
    (case k34 => k_is)
    (case a35 => k_is)
    (case l35 => k_is)
    (case c35 => k_is)
    (case k35 => k_is)
    (case a36 => k_is)
    (case l36 => k_is)
    (case c36 => k_is)
    (case k36 => k_is)
    (case a37 => k_is)
    (case l37 => k_is)
    (case c37 => k_is)
    (case k37 => k_is)
    (case a38 => k_is)
    (case l38 => k_is)
    (case c38 => k_is)
    (case k38 => k_is)
    (case a39 => k_is)
    (case l39 => k_is)
    (case c39 => k_is)
    (case k39 => k_is)
    (case a40 => k_is)
    (case l40 => k_is)
    (case c40 => k_is)
    (case k40 => k_is)
    (case a41 => k_is)
    (case l41 => k_is)
    (case c41 => k_is)
    (case k41 => k_is)
    (case a42 => k_is)
    (case l42 => k_is)
    (case c42 => k_is)
    (case k42 => k_is)
    (case a43 => k_is)
    (case l43 => k_is)
    (case c43 => k_is)
    (case k43 => k_is)
    (case a44 => k_is)
    (case l44 => k_is)
    (case c44 => k_is)
    (case k44 => k_is)
    (case a45 => k_is)
    (case l45 => k_is)
    (case c45 => k_is)
    (case k45 => k_is)
    (case a46 => k_is)
    (case l46 => k_is)
    (case c46 => k_is)
    (case k46 => k_is)
    (case a47 => k_is)
    (case l47 => k_is)
    (case c47 => k_is)
    (case k47 => k_is)
    (case a48 => k_is)
    (case l48 => k_is)
    (case c48 => k_is)
    (case k48 => k_is)
    (case a49 => k_is)
    (case l49 => k_is)
    (case c49 => k_is)
    (case k49 => k_is)
    (case y_Basis => k_is)
    (case pg_Basis => k_is)
    (case hd_Basis => k_is)
    (case po_Basis => k_is)
    (case sa_Basis => k_is)
    (case mk_Basis => k_is)
    (case kc_Basis => k_is)
    (case no_Basis_width => k_is)
    (case no_Basis__rows => k_is)
    (case no_Basis__lines => k_is)
    (case a50 => k_is)
    (case i50 => k_is)
    (case l50 => k_is)
    (case c50 => k_is)
    (case k50 => k_is)
    (case a51 => k_is)
    (case i51 => k_is)
    (case l51 => k_is)
    (case c51 => k_is)
    (case k51 => k_is)
    (case a52 => k_is)
    (case i52 => k_is)
    (case l52 => k_is)
    (case c52 => k_is)
    (case k52 => k_is)
    (case a53 => k_is)
    (case i53 => k_is)
    (case l53 => k_is)
    (case c53 => k_is)
    (case k53 => k_is)
    (case a54 => k_is)
    (case i54 => k_is)
    (case l54 => k_is)
    (case c54 => k_is)
    (case k54 => k_is)
    (case a55 => k_is)
    (case i55 => k_is)
    (case l55 => k_is)
    (case c55 => k_is)
    (case k55 => k_is)
    (case a56 => k_is)
    (case i56 => k_is)
    (case j56 => k_is)
    (case w56 => k_is)
    (case l56 => k_is)
    (case c56 => k_is)
    (case k56 => k_is)
    (case z_len => k_is)
    (case z_abs => k_is)
    (case z_sum => k_is)
    (case z_min => k_is)
    (case z_isinstance => k_is)
    (case z_int => k_is)
    (case z_list => k_is)
    (case z_tuple => k_is)
    (case z_bool => k_is)
    (case z_range => k_is)
    (case z_enumerate => k_is)
    (case z_reversed => k_is)
    (case z_zip => k_is)
    (case z_ValueError => k_is)
    (case z_gcd => k_is)
    (case y_ZERO => k_is)
    (case l_ZERO => k_is)
    (case y_ONE => k_is)
    (case l_ONE => k_is)
    (case y_SteelyardError => k_is)
    (case k_SteelyardError => k_is)
    (case i_SteelyardError => k_is)
    (case h_SteelyardError => k_is)
    (case y_LimitError => k_is)
    (case k_LimitError => k_is)
    (case i_LimitError => k_is)
    (case h_LimitError => k_is)
    (case y_ZeroBelow => k_is)
    (case k_ZeroBelow => k_is)
    (case i_ZeroBelow => k_is)
    (case h_ZeroBelow => k_is)
    (case y_WrongWidth => k_is)
    (case k_WrongWidth => k_is)
    (case i_WrongWidth => k_is)
    (case h_WrongWidth => k_is)
    (case L_WrongWidth => k_is)
    (case P_WrongWidth => k_is)
    (case V_WrongWidth => first | rfl | k_is)
    (case Q_WrongWidth => k_is)
    (case sa_WrongWidth => k_is)
    (case x1_WrongWidth => k_is)
    (case x2_WrongWidth => k_is)
    (case A_WrongWidth => k_is)
    (case T_WrongWidth => k_is)
    (case bs_WrongWidth_ => k_is)
    (case ve_WrongWidth => k_is)
    (case s_WrongWidth => first | rfl | k_is)
    (case m_WrongWidth => k_is)
    (case x3_WrongWidth => k_is)
    (case x4_WrongWidth => k_is)
    (case x5_WrongWidth => k_is)
    (case x6_WrongWidth => k_is)
    (case x7_WrongWidth => k_is)
    (case O_WrongWidth => k_is)
    (case U_WrongWidth => k_is)
    (case H_WrongWidth => decide +kernel)
    (case F_WrongWidth => k_is)
    (case D_WrongWidth => k_is)
    (case E_WrongWidth => k_is)
    (case G_WrongWidth => first | rfl | k_is)
    (case W_WrongWidth => decide +kernel)
    (case J_WrongWidth => k_is)
    (case n_WrongWidth_want => k_is)
    (case n_WrongWidth_got => k_is)
    (case y_Singular => k_is)
    (case k_Singular => k_is)
    (case i_Singular => k_is)
    (case h_Singular => k_is)
    (case q_WrongWidth_LimitError => k_is)
    (case q_WrongWidth_Singular => k_is)
    (case q_WrongWidth_SteelyardError => k_is)
    (case q_WrongWidth_ValueError => k_is)

