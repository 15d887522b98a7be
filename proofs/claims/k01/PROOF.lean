import PyProof.Rows.All
import Wide.All
import OpenK.AllK
import Wide.FinOn
import KE.GoesMore
import HandS.Zip
import HandS.Iter
import HandS.List
import HandS.ForExc
import HandS.Text
import HandS.Comp
import HandS.Wide
import HandS.TupAny
import HandS.TupMul
import HandS.Steps
import HandS.Sort
import HandS.More
import HandS.Deep
import HandS.IsInst
import HandS.Style
import HandS.WordsExc
import HandS.Lambda
import HandS.Rev
import HandS.ExcOwn
import HandS.ExcIs
import HandS.EndTab
import HandS.HeadHook4
import HandS.EndBits
import HandS.Codes
import PyProof.ReprLen
import PyProof.FitsInt
import PyProof.StrLawsRepr
import HandS.Head0
import HandS.Head1
import HandS.Head2
import PySem.Challenge.RW_mastercuts_k01_whole_places_and_distance
set_option autoImplicit true
set_option Elab.async false
set_option linter.all false
set_option maxRecDepth 100000
set_option maxHeartbeats 0
/-! PXa: t > u of tuples of ints; enumerate of a tuple. -/
namespace PL
open PySem
open PySem.Spec
open PyProof.Rows
open L2
theorem rcGt_int (A : Around) (s : Shared) (a : Int) (t : Tok) (c : Int) (u : Tok) (P : Program) (w : World) (E Q : Value → Shared → Prop) (q : Q (.bool (decide (c < a))) s) : wpAny (model P w) A (richCompare .Gt (.int a t) (.int c u)) Q E s :=
  (PyProof.Rows.gt_int q : wpAny (model P w) A (compareOp .Gt (.int a t) (.int c u)) Q E s)
section
open PySem.SeqAt
open PySem.AutoSeq1 (wpAny_loadPart')
open PySem.MeetsSeq PySem.MeetsSeq2 PySem.MeetsSeq3
theorem tup_gt_ints (a b : Addr) (xs ys : Array Value) (n m : Nat) (d1 d2 : Option Addr) (s1 s2 : Array (Option Value)) (ns ms : List Int) (hx : IntsAre xs.toList ns) (hy : IntsAre ys.toList ms) :
    Meets (Builtin.«tuple.__gt__» ⟨[.ref a, .ref b], []⟩)
      (fun _ R s => s.heap.get? a = some { cls := .type "tuple", dict := d1, data := .seq xs n, slots := s1 } ∧ s.heap.get? b = some { cls := .type "tuple", dict := d2, data := .seq ys m, slots := s2 } ∧ R (.ok (.ret (.bool (HT.lexLt ms ns)))) s) :=
  .of_wp fun prog w A R s hh => by
    obtain ⟨hp, g, d, tk, os⟩ := s
    obtain ⟨ga, gb, hh⟩ := hh
    have f2 := AutoSeq1.sub_tuple_tuple
    have z1 : xs.size = ns.length := by
      rw [← hx.length]
      simp
    have z2 : ys.size = ms.length := by
      rw [← hy.length]
      simp
    wp_walk using wpAny_loadPart' ga, wpAny_loadPart' gb, wpAny_forIn_list _ (fun left st s' => st.1 = none ∧ s' = ⟨hp, g, d, tk, os⟩ ∧ ∃ (vs ws : List Value) (ns2 ms2 : List Int), left = vs.zip ws ∧
      IntsAre vs ns2 ∧ IntsAre ws ms2 ∧ ns2.length + ys.size = ms2.length + xs.size ∧ R (.ok (.ret (.bool (HT.lexLt ms2 ns2)))) ⟨hp, g, d, tk, os⟩) _
    case turn =>
      rintro ⟨y, x⟩ left st s' ⟨hb', rfl, vs, ws, ns2, ms2, hz, hv, hw, hlen, hR⟩
      cases hv with
      | nil =>
        rw [List.zip_nil_left] at hz
        cases hz
      | cons p t hv2 =>
        cases hw with
        | nil =>
          rw [List.zip_nil_right] at hz
          cases hz
        | cons q u hw2 =>
          rw [List.zip_cons_cons] at hz
          injection hz with hyx hrest
          injection hyx with hy hx
          subst hy hx
          rw [HT.lexLt_cons] at hR
          simp only [List.length_cons] at hlen
          obtain ⟨e, he, hiff⟩ := HT.eqAt_int A.in1 ⟨hp, g, d, tk, os⟩ p t q u
          refine wpAny_bind (he prog w _ _ ?_)
          cases e with
          | true =>
            rw [if_pos (hiff.mp rfl).symm] at hR
            wp_walk
            exact ⟨rfl, rfl, _, _, _, _, hrest, hv2, hw2, by omega, hR⟩
          | false =>
            rw [if_neg (fun z => absurd (hiff.mpr z.symm) Bool.false_ne_true)] at hR
            have hri := rcGt_int A.in1 ⟨hp, g, d, tk, os⟩ p t q u prog w
            wp_walk using hri
            exact ⟨_, rfl, by simpa using hR⟩
    case fin =>
      rintro ⟨b1, b2⟩ s' ⟨hb', rfl, vs, ws, ns2, ms2, hz, hv, hw, hlen, hR⟩
      simp only at hb'
      subst hb'
      have ev : HT.lexLt ms2 ns2 = decide (ys.size < xs.size) := by
        cases hv with
        | nil =>
          cases hw with
          | nil =>
            simp only [List.length_nil] at hlen
            rw [HT.lexLt_nil_nil]
            exact (decide_eq_false (by omega)).symm
          | cons q u hw2 =>
            simp only [List.length_nil, List.length_cons] at hlen
            rw [HT.lexLt_cons_nil]
            exact (decide_eq_false (by omega)).symm
        | cons p t hv2 =>
          cases hw with
          | nil =>
            simp only [List.length_nil, List.length_cons] at hlen
            rw [HT.lexLt_nil_cons]
            exact (decide_eq_true (by omega)).symm
          | cons q u hw2 =>
            rw [List.zip_cons_cons] at hz
            cases hz
      rw [ev] at hR
      wp_walk
      exact ⟨_, rfl, by simpa [Builtin.Tuple.tupleCompareSizes] using hR⟩
    case h =>
      exact ⟨rfl, rfl, xs.toList, ys.toList, ns, ms, rfl, hx, hy, by omega, hh⟩
end
theorem gt_tupInts {P : Program} {w : World} {A : Around} {E : Value → Shared → Prop} {s : Shared} {a b : Addr} {xs ys : Array Value} {ns ms : List Int} {Q : Value → Shared → Prop} (ha : IsTup s.heap a xs) (hb : IsTup s.heap b ys) (hx : IntsAre xs.toList ns) (hy : IntsAre ys.toList ms)
    (hu : A.units < cLine) (q : Q (.bool (HT.lexLt ms ns)) s) : wpAny (model P w) A (compareOp .Gt (.ref a) (.ref b)) Q E s := by
  obtain ⟨⟨c1, d1, t1, l1⟩, o1, k1, n1, e1⟩ := id ha
  obtain ⟨⟨c2, d2, t2, l2⟩, o2, k2, n2, e2⟩ := id hb
  simp only at k1 e1 k2 e2
  subst k1 e1 k2 e2
  exact richCompare_meets_room (op := .Gt) ⟨_, o1, rfl⟩ ⟨_, o2, rfl⟩ PySem.F.slot_tuple_gt PySem.F.entry_tuple_gt (PySem.F.args_tuple_gt_2 _ _) (tup_gt_ints a b xs ys n1 n2 d1 d2 l1 l2 ns ms hx hy)
    ⟨o1, o2, show Value.bool (HT.lexLt ms ns) ≠ Value.notImplemented ∧ Q (.bool (HT.lexLt ms ns)) s from ⟨(fun z => nomatch z), q⟩⟩ hu
def rGtT (K : PySem.W.Frag) : R2 := fun x y H Q => ∃ a b ns ms, x = .ref a ∧ y = .ref b ∧ SqT K H a (ns.map V.int) ∧ SqT K H b (ms.map V.int) ∧ Q (.bl (HT.lexLt ms ns)) H
theorem op_gtT {X : Cx} (hu : X.A.units < cLine) : OpR X (compareOp .Gt) (rGtT X.K) := by
  intro pins s σ H x y v u Q I rx ry h
  obtain ⟨a, b, ns, ms, rfl, rfl, ta, tb, q⟩ := h
  cases rx
  cases ry
  obtain ⟨its, r1, p1, _⟩ := I.tuple ta
  obtain ⟨its2, r2, p2, _⟩ := I.tuple tb
  exact gt_tupInts p1 p2 (intsAre_of r1) (intsAre_of r2) hu ⟨.bl (HT.lexLt ms ns), H, I, rfl, q⟩
/-! ### enumerate of a tuple -/
theorem meets_enum1 {v : Value} {o : Obj} {B : Heap → Prop} (b : PySem.Begins v o B) :
    Meets (Builtin.«enumerate.__new__» ⟨[.type "enumerate", v], []⟩) (fun _ R s => B s.heap ∧ R (.ok (.ret (.ref (s.heap.push o).objs.size))) { s with heap := (s.heap.push o).push { cls := .type "enumerate", data := .fields #[.none, .bool false, .ref s.heap.objs.size, rawInt 0, .none, .none] } }) :=
  .of_wp fun prog w A R s hh => by
    obtain ⟨hp, g, d, tk, os⟩ := s
    obtain ⟨h1, hh⟩ := hh
    have hsub := sub_enumerate
    have q1 : ∀ {A' : Around} {E Q : Value → Shared → Prop}, Q (.ref hp.objs.size) ⟨hp.push o, g, d, tk, os⟩ → wpAny (model prog w) A' (pyIter v) Q E ⟨hp, g, d, tk, os⟩ := fun q => b.iter prog w _ _ ⟨hp, g, d, tk, os⟩ _ h1 q
    wp_walk using q1
    refine wpAny_stack_any fun st => wpAny_pure ?_
    split
    · rename_i c _ _ _ _ _
      cases (c == Value.type "enumerate")
      · wp_walk using q1
        exact ⟨_, rfl, hh⟩
      · wp_walk using q1
        exact ⟨_, rfl, hh⟩
    · wp_walk using q1
      exact ⟨_, rfl, hh⟩
theorem call_enum1 {P : Program} {w : World} {A : Around} {E Q : Value → Shared → Prop} {s : Shared} {v : Value} {o : Obj} {B : Heap → Prop} (b : PySem.Begins v o B) (h1 : B s.heap)
    (k : ∀ h', IsEnum h' (s.heap.objs.size + 1) s.heap.objs.size 0 .none → h'.get? s.heap.objs.size = some o → h'.objs.size = s.heap.objs.size + 2 → (∀ c u, s.heap.get? c = some u → h'.get? c = some u) → Q (.ref (s.heap.objs.size + 1)) { s with heap := h' }) :
    wpAny (model P w) A (call (.type "enumerate") [v]) Q E s := by
  refine callType_new F.called_enumerate (by decide) (F.typeCall_enumerate_1 _) (F.newCall_enumerate_1 _) (fun ob => F.args_object_init_2 ob _) F.entry_enumerate_new (meets_enum1 b) ⟨h1, ?_⟩
  have z : (s.heap.push o).objs.size = s.heap.objs.size + 1 := Heap.size_push ..
  show _ ∧ _
  rw [z]
  have e : IsEnum ((s.heap.push o).push { cls := .type "enumerate", data := .fields #[.none, .bool false, .ref s.heap.objs.size, rawInt 0, .none, .none] }) (s.heap.objs.size + 1) s.heap.objs.size 0 .none := by
    have := Heap.get?_push_size (s.heap.push o) (o := { cls := .type "enumerate", data := .fields #[.none, .bool false, .ref s.heap.objs.size, rawInt 0, .none, .none] }) rfl
    rw [z] at this
    exact this
  refine ⟨⟨_, e, rfl⟩, k _ e (Heap.get?_push_of_some _ (Heap.get?_push_size _ b.free)) (by rw [Heap.size_push, z]) fun c u x => Heap.get?_push_of_some _ (Heap.get?_push_of_some _ x)⟩
/-- the tuple at a, each item in a new pair -/
def IteT (K : PySem.W.Frag) (a : Addr) : It :=
  ⟨fun i H => ∃ (xs : List V) (x : V), SqT K H a xs ∧ xs[i]? = some x, fun i H v H' => ∃ T x, v = .ref T ∧ H T = none ∧ H' = upd H T (.tup [.int (i : Nat), x]) ∧ ∀ xs, SqT K H a xs → xs[i]? = some x, fun i H => ∃ xs : List V, SqT K H a xs ∧ xs.length ≤ i⟩
theorem turn_enumT {P : Program} {w : World} {K : PySem.W.Frag} {elts : List Expr} {kk : Nat} {tpos : Pos} (a e it : Addr) :
    Turn P w K (.Tuple elts kk tpos) (IteT K a) [e, it] e (fun i h => (∃ old, IsEnum h e it ((i : Nat) : Int) old) ∧ h.IsTupleIter it a i ∧ e ≠ it ∧ a ≠ it ∧ e ≠ a) where
  mem := by simp
  obj := fun i h st b hb => by
    obtain ⟨⟨old, he⟩, ⟨o, ho, hc, hd⟩, _⟩ := st
    have e' : b = e ∨ b = it := by simpa using hb
    rcases e' with z | z
    · subst z
      exact ⟨_, he, fun v q => nomatch q⟩
    · subst z
      exact ⟨o, ho, fun v q => by
        rw [hd] at q
        cases q⟩
  keep := fun i h h' st k => by
    obtain ⟨⟨old, he⟩, hi, hne⟩ := st
    exact ⟨⟨old, k e (by simp) _ he⟩, hi.at fun o q => k it (by simp) o q, hne⟩
  item := by
    intro X hP hw hK hc i pins s σ H E I hf st hg
    subst hP hw hK
    obtain ⟨⟨old, he⟩, hit, hne, hai, hea⟩ := st
    obtain ⟨xs, x, hq, hx⟩ := hg
    obtain ⟨its, rv, p, _⟩ := I.tuple hq
    obtain ⟨u, hu, ru⟩ := rv.get hx
    have hel : e < s.heap.objs.size := Heap.lt_size he
    have hil : it < s.heap.objs.size := by
      obtain ⟨_, q, _⟩ := hit
      exact Heap.lt_size q
    have lt : i < its.toArray.size := by
      have := (List.getElem?_eq_some_iff.mp hu).1
      simpa using this
    refine wpAny_pyNext_enum_itemD (Draws.tuple (A := X.A.in1) (show X.A.in1.handled = none from I.ok.hd hc) it a hai its.toArray) he ⟨hit, p⟩ lt hne (by simp [hne, hea]) fun y h' tk hy ho hit' hT hsz hk => ?_
    have ey : y = u := by
      have hy : its.toArray[i]? = some y := hy
      have hu' : its.toArray[i]? = some u := by simpa using hu
      rw [hu'] at hy
      cases hy
      rfl
    subst ey
    refine ⟨_, rfl, wpAny_letOwnedTupleGo_enum (s := { s with heap := h', toks := tk + 1 }) ho fun h2 he2 sb => ?_⟩
    have hT2 : h2.get? s.heap.objs.size = some { cls := .type "tuple", data := .seq #[.int i tk, y] } := (sb.2 _ (Nat.ne_of_gt hel)).trans hT
    have new : ObjOk X.prog X.w (upd H s.heap.objs.size (.tup [.int (i : Nat), x])) h2 s.heap.objs.size (.tup [.int (i : Nat), x]) := ⟨by
      show 2 ≤ sizeLine
      decide, [.int i tk, y], .cons ⟨_, rfl⟩ (.cons ru .nil), ⟨_, hT2, rfl, _, rfl⟩⟩
    have I1 : Inv X pins σ (upd H s.heap.objs.size (.tup [.int (i : Nat), x])) { s with heap := h2, toks := tk + 1 } :=
      I.turnedNew (ch := [e, it]) (fun b ob hb q => (sb.2 b (fun z => hb (by simp [z]))).trans (hk b ob (fun z => hb (by simp [z])) (fun z => hb (by simp [z])) q)) hf (Nat.le_refl _) new
    refine ⟨.ref s.heap.objs.size, _, I1, rfl, ⟨_, x, rfl, I.hok.fresh (Nat.le_refl _), rfl, fun ys hy => by
      rw [I.tuple_inj hy hq]
      exact hx⟩, ⟨⟨y, ?_⟩, hit'.1.at fun o q => (sb.2 it (Ne.symm hne)).trans q, hne, hai, hea⟩, fun b hb => ?_⟩
    · have e1 : ((i + 1 : Nat) : Int) = (i : Int) + 1 := by omega
      rw [e1]
      exact he2
    · have hb' : b < s.heap.objs.size := by
        have e' : b = e ∨ b = it := by simpa using hb
        rcases e' with z | z
        · subst z; exact hel
        · subst z; exact hil
      rw [upd_ne (Nat.ne_of_lt hb')]
      exact (hf b hb).1
  done := by
    intro X hP hw hK hc i pins s σ H E I hf st hg
    subst hP hw hK
    obtain ⟨⟨old, he⟩, hit, hne, hai, hea⟩ := st
    obtain ⟨xs, hq, hx⟩ := hg
    obtain ⟨its, rv, p, _⟩ := I.tuple hq
    obtain ⟨f0, f1, f2, f3, f4, f5⟩ := hf it (by simp)
    have hl := rv.length
    have hh : X.A.in1.handled = none := I.ok.hd hc
    have D : Draws X.prog X.w X.A.in1 it [it, a] i (fun _ _ => True) (fun k h => k = i ∧ h.IsTupleIter it a i ∧ h.IsTuple a its.toArray) := {
      live := fun k h st => by
        obtain ⟨o, ho, _⟩ := st.2.1
        exact ⟨o, ho⟩
      frame := fun k h h' st hk => ⟨st.1, st.2.1.at fun o e => hk it (by simp) o e, st.2.2.at fun o e => hk a (by simp) o e⟩
      item := fun k s Q E lt st _ => absurd st.1 (Nat.ne_of_lt lt)
      done := fun s Q E st hE => wpAny_nextOf_tuple_end hh st.2.1 st.2.2 (by simp; omega) hE }
    exact wpAny_pyNext_enum_endD D he ⟨rfl, hit, p⟩ fun h' eb => ⟨rfl, I.turned (t' := s.toks) (fun b o hb q => eb b o hb q) f0 f1 f3 f4 f5⟩
  self := fun A i s Q E st h => by
    obtain ⟨⟨_, he⟩, _⟩ := st
    exact wpAny_pyIter_enum he h
/-- enumerate of a list or of a tuple -/
def iEnumA (K : PySem.W.Frag) (ta : TA) : TI := fun σ H R => ta σ H fun vs H1 => ∃ a xs, vs = [.ref a] ∧ ((SqL K H1 a xs ∧ R (Ite K a) H1) ∨ (SqT K H1 a xs ∧ R (IteT K a) H1))
theorem pi_enumA {X : Cx} {e : Expr} {ta : TA} {p pos tpos : Pos} {elts : List Expr} {kk : Nat} (hg : Gl X "enumerate") (hm : X.mg "enumerate" = none) (ha : PA X [e] ta) (hs : starEach [e] X.env = [(false, eval e X.env)] := by rfl) :
    PI X (.Tuple elts kk tpos) (.Call (.Name "enumerate" p) [e] [] pos) (iEnumA X.K ta) := by
  refine ⟨fun pins s σ H R I h => ?_⟩
  refine Call_ (ld_blt I hg hm boot_enumerate (PyProof.Rows.callWith_type1 (thn (ha.run pos pins s σ H _ I h) fun us s1 ⟨vs, H1, I1, r1, q1⟩ => ?_) hs rfl))
  obtain ⟨a, xs, ex, q⟩ := q1
  subst ex
  cases r1 with
  | cons r rr =>
    cases rr
    cases r
    rcases q with ⟨hq, q⟩ | ⟨hq, q⟩
    · obtain ⟨its, rv, p', hz⟩ := I1.list hq
      refine call_enumerate_list p'.isList fun h' he hit hsz hk => wpAny_pyIter_enum he ?_
      have I2 : Inv X pins σ H1 { s1 with heap := h' } := I1.kept (t' := s1.toks) hk
      refine ⟨s1.heap.objs.size + 1, [s1.heap.objs.size + 1, s1.heap.objs.size], _, _, H1, rfl, I2, turn_enum a (s1.heap.objs.size + 1) s1.heap.objs.size, ⟨⟨.none, he⟩, hit, Nat.succ_ne_self _⟩, fun b hb => ?_, q⟩
      have e' : b = s1.heap.objs.size + 1 ∨ b = s1.heap.objs.size := by simpa using hb
      have hle : s1.heap.objs.size ≤ b := by
        rcases e' with z | z
        · subst z; exact Nat.le_add_right _ _
        · subst z; exact Nat.le_refl _
      exact I1.fpOk hle (I1.hok.fresh hle)
    · obtain ⟨its, rv, p', hz⟩ := I1.tuple hq
      have al : a < s1.heap.objs.size := by
        obtain ⟨o, ho, _⟩ := p'
        exact Heap.lt_size ho
      refine call_enum1 (begins_tuple a its.toArray) p' fun h' he hit hsz hk => wpAny_pyIter_enum he ?_
      have I2 : Inv X pins σ H1 { s1 with heap := h' } := I1.kept (t' := s1.toks) hk
      refine ⟨s1.heap.objs.size + 1, [s1.heap.objs.size + 1, s1.heap.objs.size], _, _, H1, rfl, I2, turn_enumT a (s1.heap.objs.size + 1) s1.heap.objs.size, ⟨⟨.none, he⟩, ⟨_, hit, rfl, rfl⟩, Nat.succ_ne_self _, Nat.ne_of_lt al, Nat.ne_of_gt (Nat.lt_succ_of_lt al)⟩, fun b hb => ?_, q⟩
      have e' : b = s1.heap.objs.size + 1 ∨ b = s1.heap.objs.size := by simpa using hb
      have hle : s1.heap.objs.size ≤ b := by
        rcases e' with z | z
        · subst z; exact Nat.le_add_right _ _
        · subst z; exact Nat.le_refl _
      exact I1.fpOk hle (I1.hok.fresh hle)
end PL

/-! PXb: a, b, .. = a list. -/
namespace PL
open PySem
open PySem.Spec
open PyProof.Rows
open L2
section
variable {P : Program} {w : World} {A : Around} {E : Value → Shared → Prop}
theorem draw_lst {it l : Addr} {xs : Array Value} (hne : l ≠ it) : ∀ (n i : Nat) (s : Shared) (Q : List Value → Shared → Prop), s.heap.IsListIter it l i → s.heap.IsList l xs → i + n ≤ xs.size →
    (∀ h', h'.IsListIter it l (i + n) → Heap.SameBut it s.heap h' → Q ((xs.toList.drop i).take n) { s with heap := h' }) → wpAny (model P w) A (draw (.ref it) n) Q E s
  | 0, i, s, Q, hi, _, _, k => by
    show wpAny _ _ (pure []) Q E s
    exact wpAny_pure (by simpa using k s.heap hi (Heap.SameBut.refl ..))
  | n + 1, i, s, Q, hi, hl, le, k => by
    have lt : i < xs.size := by omega
    show wpAny _ _ (pyNext (.ref it) >>= _) Q E s
    refine wpAny_bind (wpAny_pyNext_list_item hi hl (x := xs[i]) (by simp [lt]) fun h1 hi1 hs1 => ?_)
    refine wpAny_bind (wpAny_holding (draw_lst hne n (i + 1) _ _ hi1 (hl.extBut hs1.extBut hne) (by omega) fun h2 hi2 hs2 => wpAny_pure ?_))
    have hd : xs.toList.drop i = xs[i] :: xs.toList.drop (i + 1) := by simp [List.drop_eq_getElem_cons, lt]
    have z := k h2 (by
      rw [show i + (n + 1) = i + 1 + n by omega]
      exact hi2) (hs1.trans hs2)
    rw [hd, List.take_succ_cons] at z
    exact z
theorem unpack_lst {s : Shared} {l : Addr} {xs : Array Value} {Q : List Value → Shared → Prop} (hh : A.handled = none) (hl : s.heap.IsList l xs)
    (k : ∀ h', Heap.ExtBut s.heap.objs.size s.heap h' → Q xs.toList { s with heap := h' }) : wpAny (model P w) A (unpackItems (.ref l) xs.size none) Q E s := by
  have lt : l ≠ s.heap.objs.size := by
    obtain ⟨o, ho, _⟩ := hl
    exact Nat.ne_of_lt (Heap.lt_size ho)
  have ty : s.TypeIs (.ref l) "list" := by
    obtain ⟨o, ho, hc, _⟩ := hl
    exact ⟨o, ho, hc⟩
  unfold unpackItems
  refine wpAny_bind ?_
  · unfold notIterableAtAll
    refine wpAny_bind (wpAny_specialOf ty F.slot_list_iter.lookup ?_)
    refine wpAny_pure ?_
    simp only [Bool.false_eq_true, if_false]
    refine wpAny_bind (wpAny_holding (wpAny_pyIter_list hl ?_))
    refine wpAny_bind (wpAny_holding (draw_lst lt xs.size 0 _ _ ⟨_, Heap.get?_push_size _ rfl, rfl, rfl⟩ (hl.push _) (by omega) fun h1 hi1 hs1 => ?_))
    have al : List.take xs.size (List.drop 0 xs.toList) = xs.toList := by
      rw [List.drop_zero]
      exact List.take_of_length_le (by simp)
    rw [al, if_neg (by simp)]
    have hl1 : h1.IsList l xs := (hl.push _).extBut hs1.extBut lt
    refine wpAny_bind (wpAny_holding (wpAny_pyNext_list_end hh hi1 hl1 (by simp) fun h2 he2 => ?_))
    simp only [Option.isSome_none, Bool.false_eq_true, if_false]
    exact wpAny_pure (k h2 fun b o hb e => he2 b o hb (hs1.extBut b o hb (Heap.get?_push_of_some _ e)))
theorem assign_lst {s : Shared} {env : PySem.Env} {elts : List Expr} {x1} {pos : Pos} {l : Addr} {xs : Array Value} {Q : Unit → Shared → Prop} (hh : A.handled = none) (hl : s.heap.IsList l xs)
    (hn : (assignEach elts env).length = xs.size) (hs : (assignEach elts env).findIdx? (·.1) = none)
    (k : ∀ h', Heap.ExtBut s.heap.objs.size s.heap h' → wpAny (model P w) A (assignInOrder ((assignEach elts env).map (·.2)) xs.toList) Q E { s with heap := h' }) :
    wpAny (model P w) A (assign (.Tuple elts x1 pos) env (.ref l)) Q E s := by
  rw [arm_assign_Tuple]
  refine wpAny_bind (wpAny_standAt ?_)
  unfold unpack
  rw [hn, hs]
  exact wpAny_bind (wpAny_holding (unpack_lst hh hl k))
end
/-- (a, b, ..) = a tuple or a list of that length -/
def gSeq (K : PySem.W.Frag) (n : Nat) (t : TGs) : TG := fun v σ H Q => ∃ a xs, v = .ref a ∧ (SqT K H a xs ∨ SqL K H a xs) ∧ xs.length = n ∧ t xs σ H Q
theorem pg_seq {X : Cx} {pos : Pos} {es : List Expr} {k : Nat} {t : TGs} {n : Nat} (hc : X.calm = true) (h : PGs X es t) (hn : (assignEach es X.env).length = n) (hst : (assignEach es X.env).findIdx? (·.1) = none) : PG X (.Tuple es k pos) (gSeq X.K n t) := by
  refine ⟨fun pins s σ H v u Q I r hw => ?_⟩
  obtain ⟨a, xs, e1, hq, hl, hw⟩ := hw
  rcases hq with hq | hq
  · exact (pg_tup hc h hn hst).run pins s σ H v u Q I r ⟨a, xs, e1, hq, hl, hw⟩
  · subst e1
    cases r
    obtain ⟨its, rv, hp, hz⟩ := I.list hq
    refine assign_lst (I.ok.hd hc) hp.isList (by simp [hn, ← hl, rv.length]) hst fun h' hx => ?_
    have I1 : Inv X pins σ H { s with heap := h' } := I.kept (t' := s.toks) fun b o e => hx b o (Nat.ne_of_lt (Heap.lt_size e)) e
    exact h.run pins _ σ H xs _ Q I1 (by simpa using rv) hw
end PL

/-! PLa: structured data, the monad of meanings, operators on data; plain Lean. -/
namespace PL
open PySem L2

/-- a datum: what a value of the program is, without the heap -/
inductive D where
  | non | bl (b : Bool) | int (i : Int) | str (s : Str)
  | tup (xs : List D) | lst (xs : List D) | rng (lo hi : Int)
  | exc (c : Str) (x : D)
  | thk (ok : Bool) (d : D)
  | lam (k : Nat)
  | drw
  deriving Inhabited

/-- meanings of operations: what is wanted of a value, of an exception -/
abbrev M0 (α : Type) := (α → Prop) → (D → Prop) → Prop
def ret0 {α : Type} (a : α) : M0 α := fun Q _ => Q a
def bnd0 {α β : Type} (m : M0 α) (f : α → M0 β) : M0 β := fun Q E => m (fun a => f a Q E) E
def fail0 {α : Type} : M0 α := fun _ _ => False
def gd0 {α : Type} (p : Prop) (m : M0 α) : M0 α := fun Q E => p ∧ m Q E
/-- meanings: how far the draw has turned, what is wanted of a value, of an exception -/
abbrev M (α : Type) := Nat → (α → Nat → Prop) → (D → Nat → Prop) → Prop
def ret {α : Type} (a : α) : M α := fun c Q _ => Q a c
def bnd {α β : Type} (m : M α) (f : α → M β) : M β := fun c Q E => m c (fun a c' => f a c' Q E) E
def fail {α : Type} : M α := fun _ _ _ => False
def thr {α : Type} (d : D) : M α := fun c _ E => E d c
def gd {α : Type} (p : Prop) (m : M α) : M α := fun c Q E => p ∧ m c Q E
def pick {α : Type} (P : α → Prop) : M α := fun c Q _ => ∀ a, P a → Q a c
def noE {α : Type} (m : M α) : M α := fun c Q _ => m c Q (fun _ _ => False)
def lift {α : Type} (m : M0 α) : M α := fun c Q E => m (fun a => Q a c) (fun e => E e c)
/-- what m guarantees, m' guarantees -/
def Le {α : Type} (m m' : M α) : Prop := ∀ c Q E, m c Q E → m' c Q E
theorem Le.refl {α : Type} (m : M α) : Le m m := fun _ _ _ h => h
theorem Le.trans {α : Type} {a b c : M α} (h : Le a b) (k : Le b c) : Le a c := fun n Q E q => k n Q E (h n Q E q)
@[simp] theorem ret_ap {α : Type} (a : α) (c Q E) : ret a c Q E = Q a c := rfl
@[simp] theorem bnd_ap {α β : Type} (m : M α) (f : α → M β) (c Q E) : bnd m f c Q E = m c (fun a c' => f a c' Q E) E := rfl
@[simp] theorem fail_ap {α : Type} (c) (Q : α → Nat → Prop) (E) : (fail : M α) c Q E = False := rfl
@[simp] theorem thr_ap {α : Type} (d : D) (c) (Q : α → Nat → Prop) (E) : (thr d : M α) c Q E = E d c := rfl
@[simp] theorem gd_ap {α : Type} (p : Prop) (m : M α) (c Q E) : gd p m c Q E = (p ∧ m c Q E) := rfl
@[simp] theorem noE_ap {α : Type} (m : M α) (c Q E) : noE m c Q E = m c Q (fun _ _ => False) := rfl
@[simp] theorem ret_bnd {α β : Type} (a : α) (f : α → M β) : bnd (ret a) f = f a := rfl
@[simp] theorem bnd_ret {α : Type} (m : M α) : bnd m ret = m := rfl
@[simp] theorem bnd_bnd {α β γ : Type} (m : M α) (f : α → M β) (g : β → M γ) : bnd (bnd m f) g = bnd m fun a => bnd (f a) g := rfl
@[simp] theorem thr_bnd {α β : Type} (d : D) (f : α → M β) : bnd (thr d) f = thr d := rfl
@[simp] theorem fail_bnd {α β : Type} (f : α → M β) : bnd (fail : M α) f = fail := rfl
theorem gd_bnd {α β : Type} (p : Prop) (m : M α) (f : α → M β) : bnd (gd p m) f = gd p (bnd m f) := rfl
@[simp] theorem noE_ret {α : Type} (a : α) : noE (ret a) = ret a := rfl
@[simp] theorem lift_ret {α : Type} (a : α) : lift (ret0 a) = ret a := rfl
@[simp] theorem lift_fail {α : Type} : lift (fail0 : M0 α) = fail := rfl
@[simp] theorem lift_gd {α : Type} (p : Prop) (m : M0 α) : lift (gd0 p m) = gd p (lift m) := rfl
@[simp] theorem lift_bnd {α β : Type} (m : M0 α) (f : α → M0 β) : lift (bnd0 m f) = bnd (lift m) fun a => lift (f a) := rfl
theorem gd_true {α : Type} {p : Prop} (h : p) (m : M α) : gd p m = m := by
  funext c Q E; exact propext ⟨fun q => q.2, fun q => ⟨h, q⟩⟩
theorem ite_bnd {α β : Type} (c : Prop) [Decidable c] (a b : M α) (f : α → M β) : bnd (if c then a else b) f = if c then bnd a f else bnd b f := by
  split <;> rfl

/-! ### data -/
mutual
/-- as data of the kit -/
def D.py : D → Option PyData
  | .non => some .none
  | .bl b => some (.bool b)
  | .int i => some (.int i)
  | .str s => some (.str s)
  | .tup xs => (pyL xs).map .tuple
  | .lst xs => (pyL xs).map .list
  | _ => none
def pyL : List D → Option (List PyData)
  | [] => some []
  | x :: xs => match D.py x, pyL xs with
    | some y, some ys => some (y :: ys)
    | _, _ => none
end
mutual
/-- no list within (nor anything that may change) -/
def D.flat : D → Bool
  | .non | .bl _ | .int _ | .str _ | .rng _ _ => true
  | .tup xs => flatL xs
  | _ => false
def flatL : List D → Bool
  | [] => true
  | x :: xs => D.flat x && flatL xs
end
mutual
def D.depth : D → Nat
  | .tup xs => depthL xs + 1
  | .lst xs => depthL xs + 1
  | _ => 0
def depthL : List D → Nat
  | [] => 0
  | x :: xs => max (D.depth x) (depthL xs)
end
mutual
/-- texts are well made -/
def D.sok : D → Bool
  | .str s => PyData.strOk s
  | .tup xs => sokL xs
  | .lst xs => sokL xs
  | _ => true
def sokL : List D → Bool
  | [] => true
  | x :: xs => D.sok x && sokL xs
end
mutual
/-- == -/
def D.eqv : D → D → Bool
  | .non, .non => true
  | .bl a, .bl b => a == b
  | .bl a, .int j => (if a then 1 else 0) == j
  | .int i, .bl b => i == (if b then 1 else 0)
  | .int i, .int j => decide (i = j)
  | .str x, .str y => decide (x = y)
  | .tup xs, .tup ys => eqvL xs ys
  | .lst xs, .lst ys => eqvL xs ys
  | _, _ => false
def eqvL : List D → List D → Bool
  | [], [] => true
  | x :: xs, y :: ys => D.eqv x y && eqvL xs ys
  | _, _ => false
end
def isPy (d : D) : Bool := d.py.isSome

/-! ### operators -/
inductive Bop | add | sub | mul | fdiv | mod | pow
  deriving DecidableEq
inductive Cop | eq | ne | lt | le | gt | ge | isin | notin | isn | notn
  deriving DecidableEq
inductive Ty | int | bool | str | tuple | list
  deriving DecidableEq
inductive Bf | len | isi (t : Ty) | isC (c : Str) | tuple | list | int | abs | min | max | repr | range1 | range2 | str | sum
  deriving DecidableEq
inductive Mt | join | upper | get
  deriving DecidableEq
def szOk (n : Nat) : Prop := n ≤ 16777216
def rep {α : Type} (xs : List α) (k : Int) : List α := (List.replicate k.toNat xs).flatten
def bopD : Bop → D → D → M0 D
  | .add, .int a, .int b => ret0 (.int (a + b))
  | .add, .str a, .str b => gd0 (szOk (a.length + b.length)) (ret0 (.str (a ++ b)))
  | .add, .tup a, .tup b => gd0 (szOk (a.length + b.length)) (ret0 (.tup (a ++ b)))
  | .add, .lst a, .lst b => gd0 (szOk (a.length + b.length)) (ret0 (.lst (a ++ b)))
  | .sub, .int a, .int b => ret0 (.int (a - b))
  | .mul, .int a, .int b => gd0 (CMulW a b ∨ CMul a b) (ret0 (.int (a * b)))
  | .mul, .lst a, .int k => gd0 (-(2 ^ 63) ≤ k ∧ k < 2 ^ 63 ∧ szOk (a.length * k.toNat)) (ret0 (.lst (rep a k)))
  | .mul, .tup a, .int k => gd0 (1 ≤ k ∧ k < 2 ^ 63 ∧ szOk (a.length * k.toNat)) (ret0 (.tup (rep a k)))
  | .fdiv, .int a, .int b => gd0 (CDivW a b) (ret0 (.int (a / b)))
  | .mod, .int a, .int b => gd0 (0 < b) (ret0 (.int (a % b)))
  | .pow, .int a, .int b => gd0 (CPow a b) (ret0 (.int (a ^ b.toNat)))
  | _, _, _ => fail0
def intsD : List D → Option (List Int)
  | [] => some []
  | .int i :: xs => (intsD xs).map (i :: ·)
  | _ => none
/-- < -/
def D.lt : D → D → Option Bool
  | .int a, .int b => some (decide (a < b))
  | .str a, .str b => some (decide (a.cps.toList < b.cps.toList))
  | .tup a, .tup b => match intsD a, intsD b with
    | some ns, some ms => some (HT.lexLt ns ms)
    | _, _ => none
  | _, _ => none
def optM0 {α : Type} : Option α → M0 α
  | some a => ret0 a
  | none => fail0
def optM {α : Type} : Option α → M α
  | some a => ret a
  | none => fail
/-- the kit's == may be asked -/
def eqOk (d : D) : Prop := isPy d = true ∧ d.depth ≤ 64
def seqOf : D → Option (List D)
  | .tup xs => some xs
  | .lst xs => some xs
  | .str s => some (s.cps.toList.map fun c => .str ⟨#[c]⟩)
  | .rng lo hi => some ((List.range (hi - lo).toNat).map fun (i : Nat) => D.int (lo + i))
  | _ => none
/-- the one sign of a text -/
def sgn (s : Str) : Option Nat := match s.cps.toList with
  | [c] => some c
  | _ => none
theorem sgn_some {s : Str} {c : Nat} (h : sgn s = some c) : s = ⟨#[c]⟩ := by
  obtain ⟨⟨l⟩⟩ := s
  unfold sgn at h
  match l, h with
  | [d], h => cases h; rfl
@[simp] theorem sgn_one (c : Nat) : sgn ⟨#[c]⟩ = some c := rfl
def inD (x : D) : D → M0 Bool
  | .tup xs => gd0 (eqOk x ∧ eqOk (.tup xs)) (ret0 (xs.any fun y => D.eqv y x))
  | .lst xs => gd0 (eqOk x ∧ eqOk (.lst xs)) (ret0 (xs.any fun y => D.eqv y x))
  | .rng lo hi => match x with
    | .int i => ret0 (decide (lo ≤ i ∧ i < hi))
    | _ => fail0
  | .str s => match x with
    | .str z => bnd0 (optM0 (sgn z)) fun c => ret0 (decide (c ∈ s.cps.toList))
    | _ => fail0
  | _ => fail0
def isNone : D → Bool
  | .non => true
  | _ => false
def copD : Cop → D → D → M0 D
  | .eq, x, y => gd0 (eqOk x ∧ eqOk y) (ret0 (.bl (D.eqv x y)))
  | .ne, x, y => gd0 (eqOk x ∧ eqOk y) (ret0 (.bl (!D.eqv x y)))
  | .lt, x, y => bnd0 (optM0 (D.lt x y)) fun b => ret0 (.bl b)
  | .gt, .int a, .int b => ret0 (.bl (decide (b < a)))
  | .gt, .tup a, .tup b => match intsD a, intsD b with
    | some ns, some ms => ret0 (.bl (HT.lexLt ms ns))
    | _, _ => fail0
  | .le, .int a, .int b => ret0 (.bl (decide (a ≤ b)))
  | .ge, .int a, .int b => ret0 (.bl (decide (b ≤ a)))
  | .isin, x, y => bnd0 (inD x y) fun b => ret0 (.bl b)
  | .notin, x, y => bnd0 (inD x y) fun b => ret0 (.bl (!b))
  | .isn, x, .non => ret0 (.bl (isNone x))
  | .notn, x, .non => ret0 (.bl (!isNone x))
  | _, _, _ => fail0
def isiD : Ty → D → Bool
  | .int, .int _ => true
  | .int, .bl _ => true
  | .bool, .bl _ => true
  | .str, .str _ => true
  | .tuple, .tup _ => true
  | .list, .lst _ => true
  | _, _ => false
/-- own exception classes: each stands directly below this one -/
def baseX : Str := "LockError"
def isCM (c : Str) : D → M0 D
  | .non => ret0 (.bl false)
  | .exc x _ => ret0 (.bl (decide (x = c) || decide (c = baseX)))
  | _ => fail0
def strsD : List D → Option (List Str)
  | [] => some []
  | .str i :: xs => (strsD xs).map (i :: ·)
  | _ => none
/-- repr -/
def shownD (d : D) : M0 D := match d.py with
  | some x => gd0 (x.showable = true ∧ x.depth ≤ 60 ∧ szOk x.shown.length ∧ PyData.strOk x.shown = true) (ret0 (.str x.shown))
  | none => fail0
def bfD : Bf → List D → M0 D
  | .len, [.str s] => gd0 (szOk s.length) (ret0 (.int s.length))
  | .len, [.tup xs] => ret0 (.int xs.length)
  | .len, [.lst xs] => ret0 (.int xs.length)
  | .isi t, [x] => gd0 (isPy x = true) (ret0 (.bl (isiD t x)))
  | .isC c, [x] => isCM c x
  | .tuple, [.tup xs] => ret0 (.tup xs)
  | .tuple, [.lst xs] => ret0 (.tup xs)
  | .list, [.tup xs] => ret0 (.lst xs)
  | .list, [.lst xs] => ret0 (.lst xs)
  | .int, [.int i] => ret0 (.int i)
  | .int, [.bl b] => ret0 (.int (if b then 1 else 0))
  | .sum, [.lst xs] => bnd0 (optM0 (intsD xs)) fun ns => ret0 (.int ns.sum)
  | .min, [.lst xs] => bnd0 (optM0 (intsD xs)) fun ns => gd0 (0 < ns.length) fun Q _ => ∀ m, m ∈ ns → (∀ y, y ∈ ns → m ≤ y) → Q (.int m)
  | .max, [.lst xs] => bnd0 (optM0 (intsD xs)) fun ns => gd0 (0 < ns.length) fun Q _ => ∀ m, m ∈ ns → (∀ y, y ∈ ns → y ≤ m) → Q (.int m)
  | .abs, [.int i] => ret0 (.int (if i < 0 then -i else i))
  | .min, [.int a, .int b] => ret0 (.int (if b < a then b else a))
  | .max, [.int a, .int b] => ret0 (.int (if b > a then b else a))
  | .repr, [x] => shownD x
  | .range1, [.int a] => gd0 (-(2 ^ 62) ≤ a ∧ a < 2 ^ 62) (ret0 (.rng 0 a))
  | .range2, [.int a, .int b] => gd0 ((-(2 ^ 62) ≤ a ∧ a < 2 ^ 62) ∧ (-(2 ^ 62) ≤ b ∧ b < 2 ^ 62)) (ret0 (.rng a b))
  | _, _ => fail0
def mtD : Mt → D → List D → M0 D
  | .join, .str s, [.lst xs] => bnd0 (optM0 (strsD xs)) fun ys => gd0 ((ys.map (·.length)).sum + ys.length * s.length ≤ 16777216) (ret0 (.str (Txt.join s ys)))
  | .upper, .str s, [] => gd0 (s.length ≤ 5592405 ∧ PyData.strOk (Txt.upper s) = true) (ret0 (.str (Txt.upper s)))
  | _, _, _ => fail0
/-- the place of an index -/
def ixD : D → D → M0 D
  | .tup xs, .int i => optM0 (atI xs i)
  | .lst xs, .int i => optM0 (atI xs i)
  | .str s, .int i => gd0 (szOk s.length) (bnd0 (optM0 (atI s.cps.toList i)) fun c => ret0 (.str ⟨#[c]⟩))
  | _, _ => fail0
def cutD {α : Type} (xs : List α) (lo hi : Option Int) : List α := (xs.drop (HT.sIx xs.length 0 lo)).take (HT.sIx xs.length xs.length hi - HT.sIx xs.length 0 lo)
def slD (x : D) (lo hi : Option Int) : M0 D := match x with
  | .tup xs => ret0 (.tup (cutD xs lo hi))
  | .lst xs => ret0 (.lst (cutD xs lo hi))
  | .str s => gd0 (szOk s.length) (ret0 (.str (cutS s lo hi)))
  | _ => fail0
def negD : D → M0 D
  | .int i => ret0 (.int (-i))
  | _ => fail0
def revD : D → M0 D
  | .tup xs => ret0 (.tup xs.reverse)
  | .lst xs => ret0 (.lst xs.reverse)
  | _ => fail0
end PL

/-! PLb: terms and statements over slots, and what they mean. -/
namespace PL
open PySem L2
/-- targets -/
inductive Tg | nm (i : Nat) | tp (l : List Tg)
mutual
inductive T where
  | var (i : Nat)
  | const (d : D)
  | bin (op : Bop) (a b : T)
  | cmp (op : Cop) (a b : T)
  | chain (o1 o2 : Cop) (a b c : T)
  | neg (a : T)
  | not (a : T)
  | and (a b : T)
  | or (a b : T)
  | ite (c a b : T)
  | tup (es : List T)
  | lst (es : List T)
  | ix (a i : T)
  | slB (a lo hi : T) | slF (a lo : T) | slT (a hi : T) | slN (a : T)
  | rev (a : T)
  | call (f : Nat) (es : List T)
  | callk (f : Nat) (es ks : List T) (perm : List Nat)
  | bf (f : Bf) (es : List T)
  | mt (m : Mt) (o : T) (es : List T)
  | comp (ws : List Nat) (tg : Tg) (it : I) (cond elt : T)
  | lk (i : Nat) (a : T)
  | lk2 (i : Nat) (a : T)
  | lam1 (f : Nat) (b : T)
  | lamL (f : Nat) (bs : List T)
  | bad
inductive I where
  | val (a : T)
  | zip (a b : T)
  | enum (a : T)
  | rng1 (a : T)
  | rng2 (a b : T)
end
inductive S where
  | pass
  | ex (t : T)
  | set (i : Nat) (t : T)
  | own (i : Nat) (t : T)
  | two (p q : Bool) (i j : Nat) (t u : T)
  | asg (tg : Tg) (t : T)
  | ret (t : T)
  | retN
  | cond (c : T) (a b : List S)
  | loop (tg : Tg) (it : I) (b : List S)
  | whl (c : T) (b : List S)
  | brk | cnt
  | raise (c : Str)
  | app (i : Nat) (t : T)
  | ext (i : Nat) (t : T)
  | frz (i : Nat)
  | tryk (w i j : Nat)
/-- what a slot holds: nothing, a datum, a list of its own -/
inductive En | un | val (d : D) | own (xs : List D)
  deriving Inhabited
abbrev Nv := List En
/-- functions by name -/
abbrev Fns := Nat → List D → M D
def truth : D → M Bool
  | .bl b => ret b
  | _ => fail
def getV (ρ : Nv) (i : Nat) : M D := match ρ[i]? with
  | some (.val d) => ret d
  | _ => fail
/-- a slot that holds an own list is named -/
def ownAt (i : Nat) (ρ : Nv) : M (List D) := match ρ[i]? with
  | some (.own xs) => ret xs
  | _ => fail
/-- one list locked while an expression with a flat value is read -/
def lk1 (i : Nat) (t : Nv → M D) (ρ : Nv) : M D := match ρ[i]? with
  | some (.own xs) => bnd (noE (t (ρ.set i (.val (.lst xs))))) fun d => gd (d.flat = true) (ret d)
  | some (.val _) => t ρ
  | _ => fail
def lstFlat : D → Bool
  | .lst xs => flatL xs
  | _ => false
/-- .. with a new list as its value -/
def lk2 (i : Nat) (t : Nv → M D) (ρ : Nv) : M D := match ρ[i]? with
  | some (.own xs) => bnd (noE (t (ρ.set i (.val (.lst xs))))) fun d => gd (lstFlat d = true) (ret d)
  | some (.val _) => t ρ
  | _ => fail
def wipeE : List Nat → Nv → Nv
  | [], ρ => ρ
  | i :: is, ρ => wipeE is (ρ.set i .un)
mutual
def asgE : Tg → D → Nv → M Nv
  | .nm i, d, ρ => PL.ret (ρ.set i (.val d))
  | .tp l, .tup ds, ρ => asgL l ds ρ
  | .tp l, .lst ds, ρ => asgL l ds ρ
  | _, _, _ => fail
def asgL : List Tg → List D → Nv → M Nv
  | [], [], ρ => PL.ret ρ
  | t :: ts, d :: ds, ρ => bnd (asgE t d ρ) fun ρ' => asgL ts ds ρ'
  | _, _, _ => fail
end
/-- map with a test, in turn; nothing may be raised -/
def mapO {α : Type} (f : D → M (Option α)) : List D → M (List α)
  | [] => ret []
  | x :: xs => bnd (f x) fun o => bnd (mapO f xs) fun ys => ret (match o with | some y => y :: ys | none => ys)
/-- one turn of a comprehension -/
def turnM (asg : D → Nv → M Nv) (ws : List Nat) (tc : Nv → M Bool) (te : Nv → M D) (ρ : Nv) (d : D) : M (Option D) := bnd (asg d (wipeE ws ρ)) fun ρ' => bnd (tc ρ') fun k => if k = true then bnd (te ρ') fun y => ret (some y) else ret none
def strM : D → M D
  | .str s => ret (.str s)
  | _ => fail
def partI : D → M Int
  | .int i => ret i
  | _ => fail
def enumL (k : Int) : List D → List D
  | [] => []
  | x :: xs => .tup [.int k, x] :: enumL (k + 1) xs
def zipL : List D → List D → List D
  | x :: xs, y :: ys => .tup [x, y] :: zipL xs ys
  | _, _ => []
/-- what a loop walks -/
def itD : D → M (List D)
  | .tup xs => ret xs
  | .lst xs => ret xs
  | .str s => gd (szOk s.length) (ret (s.cps.toList.map fun c => .str ⟨#[c]⟩))
  | _ => fail
def rngL (lo hi : Int) : List D := (List.range (hi - lo).toNat).map fun (i : Nat) => D.int (lo + i)
def isLst : D → M (List D)
  | .lst xs => ret xs
  | _ => fail
def isSeq : D → M (List D)
  | .lst xs => ret xs
  | .tup xs => ret xs
  | _ => fail
def zipM : D → D → M (List D)
  | .lst xs, .lst ys => ret (zipL xs ys)
  | .tup xs, .tup ys => ret (zipL xs ys)
  | _, _ => fail
def permL (xs : List D) (perm : List Nat) : List D := perm.map fun i => xs.getD i .non
/-- own lists are not seen from within a lambda -/
def hideO (ρ : Nv) : Nv := ρ.map fun e => match e with
  | .own _ => .un
  | e => e
/-- a thing that is done later, by its outcome -/
def thkM (m : M D) : M D := fun c Q _ => (∃ x, isPy x = true ∧ (∀ k, m k (fun y k' => y = x ∧ k' = k) (fun _ _ => False)) ∧ Q (.thk true x) c) ∨ (∃ e, (∀ k, m k (fun _ _ => False) (fun y k' => y = e ∧ k' = k)) ∧ Q (.thk false e) c)
def pyR (d : D) : M D := gd (isPy d = true) (ret d)
mutual
def sem (Φ : Fns) : T → Nv → M D
  | .var i, ρ => getV ρ i
  | .const d, _ => ret d
  | .bin op a b, ρ => bnd (sem Φ a ρ) fun x => bnd (sem Φ b ρ) fun y => lift (bopD op x y)
  | .cmp op a b, ρ => bnd (sem Φ a ρ) fun x => bnd (sem Φ b ρ) fun y => lift (copD op x y)
  | .chain o1 o2 a b c, ρ => bnd (sem Φ a ρ) fun x => bnd (sem Φ b ρ) fun y => bnd (bnd (lift (copD o1 x y)) truth) fun k => if k = true then bnd (sem Φ c ρ) fun z => lift (copD o2 y z) else ret (.bl false)
  | .neg a, ρ => bnd (sem Φ a ρ) fun x => lift (negD x)
  | .not a, ρ => bnd (bnd (sem Φ a ρ) truth) fun k => ret (.bl (!k))
  | .and a b, ρ => bnd (bnd (sem Φ a ρ) truth) fun k => if k = true then sem Φ b ρ else ret (.bl false)
  | .or a b, ρ => bnd (bnd (sem Φ a ρ) truth) fun k => if k = true then ret (.bl true) else sem Φ b ρ
  | .ite c a b, ρ => bnd (bnd (sem Φ c ρ) truth) fun k => if k = true then sem Φ a ρ else sem Φ b ρ
  | .tup es, ρ => bnd (semL Φ es ρ) fun xs => ret (.tup xs)
  | .lst es, ρ => bnd (semL Φ es ρ) fun xs => ret (.lst xs)
  | .ix a i, ρ => bnd (sem Φ a ρ) fun x => bnd (sem Φ i ρ) fun y => lift (ixD x y)
  | .slB a lo hi, ρ => bnd (sem Φ a ρ) fun x => bnd (bnd (bnd (sem Φ lo ρ) partI) fun i => ret (some i)) fun i => bnd (bnd (bnd (sem Φ hi ρ) partI) fun i => ret (some i)) fun j => lift (slD x i j)
  | .slF a lo, ρ => bnd (sem Φ a ρ) fun x => bnd (bnd (bnd (sem Φ lo ρ) partI) fun i => ret (some i)) fun i => bnd (ret none) fun j => lift (slD x i j)
  | .slT a hi, ρ => bnd (sem Φ a ρ) fun x => bnd (ret none) fun i => bnd (bnd (bnd (sem Φ hi ρ) partI) fun i => ret (some i)) fun j => lift (slD x i j)
  | .slN a, ρ => bnd (sem Φ a ρ) fun x => bnd (ret none) fun i => bnd (ret none) fun j => lift (slD x i j)
  | .rev a, ρ => bnd (sem Φ a ρ) fun x => lift (revD x)
  | .call f es, ρ => bnd (semL Φ es ρ) fun xs => Φ f xs
  | .callk f es ks perm, ρ => bnd (bnd (semL Φ es ρ) fun xs => bnd (semL Φ ks ρ) fun ys => ret (xs ++ ys)) fun zs => Φ f (permL zs perm)
  | .bf f es, ρ => bnd (semL Φ es ρ) fun xs => lift (bfD f xs)
  | .mt m o es, ρ => bnd (sem Φ o ρ) fun x => bnd (strM x) fun x => bnd (semL Φ es ρ) fun xs => lift (mtD m x xs)
  | .comp ws tg it cond elt, ρ => bnd (semI Φ it ρ) fun ds => bnd (noE (mapO (turnM (asgE tg) ws (fun ρ' => bnd (sem Φ cond ρ') truth) (fun ρ' => sem Φ elt ρ') ρ) ds)) fun ys => ret (.lst ys)
  | .lk i a, ρ => lk1 i (fun ρ' => sem Φ a ρ') ρ
  | .lk2 i a, ρ => lk2 i (fun ρ' => sem Φ a ρ') ρ
  | .lam1 f b, ρ => bnd (thkM (sem Φ b (hideO ρ))) fun t => bnd (noE (Φ f [t])) pyR
  | .lamL f bs, ρ => bnd (semTh Φ bs ρ) fun ts => bnd (noE (Φ f [.lst ts])) pyR
  | .bad, _ => fail
def semL (Φ : Fns) : List T → Nv → M (List D)
  | [], _ => ret []
  | t :: ts, ρ => bnd (sem Φ t ρ) fun x => bnd (semL Φ ts ρ) fun xs => ret (x :: xs)
/-- the outcomes of lambdas -/
def semTh (Φ : Fns) : List T → Nv → M (List D)
  | [], _ => ret []
  | b :: bs, ρ => bnd (thkM (sem Φ b (hideO ρ))) fun t => bnd (semTh Φ bs ρ) fun ts => ret (t :: ts)
/-- what is walked -/
def semI (Φ : Fns) : I → Nv → M (List D)
  | .val t, ρ => bnd (sem Φ t ρ) itD
  | .zip a b, ρ => bnd (sem Φ a ρ) fun x => bnd (sem Φ b ρ) fun y => zipM x y
  | .enum a, ρ => bnd (sem Φ a ρ) fun x => bnd (isSeq x) fun xs => ret (enumL 0 xs)
  | .rng1 a, ρ => bnd (sem Φ a ρ) fun x => bnd (partI x) fun j => gd (-(2 ^ 62) ≤ j ∧ j ≤ 16777216) (ret (rngL 0 j))
  | .rng2 a b, ρ => bnd (sem Φ a ρ) fun x => bnd (sem Φ b ρ) fun y => bnd (partI x) fun i => bnd (partI y) fun j => gd ((-(2 ^ 62) ≤ i ∧ i < 2 ^ 62) ∧ (-(2 ^ 62) ≤ j ∧ j < 2 ^ 62) ∧ j - i ≤ 16777216) (ret (rngL i j))
end
/-- how a statement ends -/
inductive Out | nx (ρ : Nv) | rt (d : D) | bk (ρ : Nv) | ct (ρ : Nv)
def loopM (tg : Tg) (body : Nv → M Out) : List D → Nv → M Out
  | [], ρ => ret (.nx ρ)
  | d :: ds, ρ => bnd (asgE tg d ρ) fun ρ1 => bnd (body ρ1) fun o => match o with
    | .nx ρ' => loopM tg body ds ρ'
    | .ct ρ' => loopM tg body ds ρ'
    | .bk ρ' => ret (.nx ρ')
    | .rt d => ret (.rt d)
def whlN (c : Nv → M Bool) (body : Nv → M Out) : Nat → Nv → M Out
  | 0, _ => fail
  | n + 1, ρ => bnd (c ρ) fun k => if k = true then bnd (body ρ) fun o => match o with
      | .nx ρ' => whlN c body n ρ'
      | .ct ρ' => whlN c body n ρ'
      | .bk ρ' => ret (.nx ρ')
      | .rt d => ret (.rt d)
    else ret (.nx ρ)
def whlM (c : Nv → M Bool) (body : Nv → M Out) (ρ : Nv) : M Out := fun k Q E => ∃ n, whlN c body n ρ k Q E
/-- x.append(e), x.extend([..]) -/
def appM (i : Nat) (xs : List D) (d : D) (ρ : Nv) : M Out := gd (xs.length < 16777216) (ret (.nx (ρ.set i (.own (xs ++ [d])))))
def extM (i : Nat) (xs : List D) (d : D) (ρ : Nv) : M Out := bnd (isLst d) fun ys => gd (xs.length + ys.length ≤ 16777216) (ret (.nx (ρ.set i (.own (xs ++ ys)))))
def frzM (i : Nat) (ρ : Nv) : M Nv := match ρ[i]? with
  | some (.own xs) => ret (ρ.set i (.val (.lst xs)))
  | some (.val _) => ret ρ
  | _ => fail
/-- try: w() except .. as j: i = j -/
def keepM (i j : Nat) : D → Nv → M Out
  | .thk true _, ρ => ret (.nx ρ)
  | .thk false (.exc c .non), ρ => ret (.nx ((ρ.set i (.val (.exc c .non))).set j .un))
  | _, _ => fail
/-- what a slot is given: an own list, or a datum -/
def mkE : Bool → D → M En
  | true, .lst xs => ret (.own xs)
  | true, _ => fail
  | false, d => ret (.val d)
def seqM (a b : Nv → M Out) (ρ : Nv) : M Out := bnd (a ρ) fun o => match o with
  | .nx ρ' => b ρ'
  | o => ret o
mutual
def semS (Φ : Fns) : S → Nv → M Out
  | .pass, ρ => ret (.nx ρ)
  | .ex t, ρ => bnd (sem Φ t ρ) fun _ => ret (.nx ρ)
  | .set i t, ρ => bnd (sem Φ t ρ) fun d => ret (.nx (ρ.set i (.val d)))
  | .own i t, ρ => bnd (sem Φ t ρ) fun d => bnd (isLst d) fun xs => ret (.nx (ρ.set i (.own xs)))
  | .two p q i j t u, ρ => bnd (sem Φ t ρ) fun d => bnd (sem Φ u ρ) fun e => bnd (mkE p d) fun x => bnd (mkE q e) fun y => ret (.nx ((ρ.set i x).set j y))
  | .asg tg t, ρ => bnd (sem Φ t ρ) fun d => bnd (asgE tg d ρ) fun ρ' => ret (.nx ρ')
  | .ret t, ρ => bnd (sem Φ t ρ) fun d => ret (.rt d)
  | .retN, _ => ret (.rt .non)
  | .cond c a b, ρ => bnd (bnd (sem Φ c ρ) truth) fun k => if k = true then semB Φ a ρ else semB Φ b ρ
  | .loop tg it b, ρ => bnd (semI Φ it ρ) fun ds => loopM tg (fun ρ' => semB Φ b ρ') ds ρ
  | .whl c b, ρ => whlM (fun ρ' => bnd (sem Φ c ρ') truth) (fun ρ' => semB Φ b ρ') ρ
  | .brk, ρ => ret (.bk ρ)
  | .cnt, ρ => ret (.ct ρ)
  | .raise c, _ => thr (.exc c .non)
  | .app i t, ρ => bnd (ownAt i ρ) fun xs => bnd (sem Φ t ρ) fun d => appM i xs d ρ
  | .ext i t, ρ => bnd (ownAt i ρ) fun xs => bnd (sem Φ t ρ) fun d => extM i xs d ρ
  | .frz i, ρ => bnd (frzM i ρ) fun ρ' => ret (.nx ρ')
  | .tryk w i j, ρ => bnd (getV ρ w) fun t => keepM i j t ρ
def semB (Φ : Fns) : List S → Nv → M Out
  | [], ρ => ret (.nx ρ)
  | s :: ss, ρ => seqM (fun ρ' => semS Φ s ρ') (fun ρ' => semB Φ ss ρ') ρ
end
/-- a def's body, run from its arguments; n slots -/
def startE (n : Nat) (ds : List D) : Nv := ds.map En.val ++ List.replicate (n - ds.length) En.un
def outD : Out → M D
  | .nx _ => ret .non
  | .rt d => ret d
  | _ => fail
def run (Φ : Fns) (n : Nat) (b : List S) (ds : List D) : M D := bnd (semB Φ b (startE n ds)) outD
end PL

/-! PLc: data in the abstract heap; the judgements of the layer. -/
namespace PL
open PySem
open PySem.Spec
open PyProof.Rows
open L2
/-- objects that never change here -/
def Imm : HO → Prop
  | .tup _ | .frz _ _ | .ext _ | .rng _ _ | .xd _ => True
  | _ => False
def Stb (H H' : Hp) : Prop := ∀ a o, H a = some o → Imm o → H' a = some o
theorem Stb.refl (H : Hp) : Stb H H := fun _ _ h _ => h
theorem Stb.trans {H H1 H2 : Hp} (a : Stb H H1) (b : Stb H1 H2) : Stb H H2 := fun x o h i => b x o (a x o h i) i
/-- data that are told by the law's own words: the draw, thunks, exceptions -/
def isOth : D → Bool
  | .exc _ _ | .thk _ _ | .lam _ | .drw => true
  | _ => false
/-- what calls may change besides, and what is true of it -/
structure Zone where
  mu : Addr → Prop
  rd0 : Addr → Prop
  rd : Hp → Addr → Prop
  ok : Nat → Hp → Prop
  sub : ∀ a, mu a → rd0 a
  there : ∀ {c : Nat} H a, ok c H → rd0 a → ∃ o, H a = some o
  rds : ∀ {c : Nat} H a, ok c H → rd H a → rd0 a ∨ ∃ φ, H a = some (.ext φ)
  nimm : ∀ {c : Nat} H a o, ok c H → mu a → H a = some o → ¬ Imm o
  keep : ∀ {c : Nat} H H', ok c H → (∀ a o, rd H a → H a = some o → H' a = some o) → ok c H'
  R : Hp → D → V → Prop
  Rstb : ∀ H H' d v, Stb H H' → R H d v → R H' d v
  Roth : ∀ H d v, R H d v → isOth d = true ∧ ∃ a, v = .ref a
  X : Hp → D → Value → Option Addr → Prop
  Xstb : ∀ H H' d e dd, Stb H H' → X H d e dd → X H' d e dd
def Ext (Z : Zone) (H H' : Hp) : Prop := ∀ a o, H a = some o → ¬ Z.mu a → H' a = some o
theorem Ext.refl (Z : Zone) (H : Hp) : Ext Z H H := fun _ _ h _ => h
theorem Ext.trans {Z : Zone} {H H1 H2 : Hp} (a : Ext Z H H1) (b : Ext Z H1 H2) : Ext Z H H2 := fun x o h n => b x o (a x o h n) n
theorem Ext.stb {Z : Zone} {H H' : Hp} {c : Nat} (k : Z.ok c H) (e : Ext Z H H') : Stb H H' := fun a o h i => e a o h fun m => Z.nimm H a o k m h i
/-- all is kept -/
def Ex (H H' : Hp) : Prop := ∀ a o, H a = some o → H' a = some o
theorem Ex.refl (H : Hp) : Ex H H := fun _ _ h => h
theorem Ex.trans {H H1 H2 : Hp} (a : Ex H H1) (b : Ex H1 H2) : Ex H H2 := fun x o h => b x o (a x o h)
theorem Ex.new {H : Hp} {p : Addr} {o : HO} (h : H p = none) : Ex H (upd H p o) := fun a u e => by
  rw [upd_ne (ne_of_none e h)]
  exact e
theorem Ex.ext {Z : Zone} {H H' : Hp} (e : Ex H H') : Ext Z H H' := fun a o h _ => e a o h
theorem Ex.stb {H H' : Hp} (e : Ex H H') : Stb H H' := fun a o h _ => e a o h
theorem Ex.ok {Z : Zone} {H H' : Hp} {c : Nat} (e : Ex H H') (k : Z.ok c H) : Z.ok c H' := Z.keep H H' k fun a o _ h => e a o h
section
variable (K : PySem.W.Frag) (Z : Zone) (H : Hp)
mutual
/-- the value v stands for the datum d -/
inductive Rep : D → V → Prop
  | non : Rep .non .non
  | bl (b : Bool) : Rep (.bl b) (.bl b)
  | int (i : Int) : Rep (.int i) (.int i)
  | str {s : Str} (h : PyData.strOk s = true) : Rep (.str s) (.str s)
  | tup {xs : List D} {a : Addr} {vs : List V} (h : SqT K H a vs) (l : vs.length ≤ sizeLine) (r : RepL xs vs) : Rep (.tup xs) (.ref a)
  | lst {xs : List D} {a : Addr} {o : Obj} {vs : List V} (h : H a = some (.frz o (.lst vs))) (l : vs.length ≤ sizeLine) (r : RepL xs vs) : Rep (.lst xs) (.ref a)
  | rng {lo hi : Int} {a : Addr} (h : H a = some (.rng lo hi)) (b : (-(2 ^ 62) ≤ lo ∧ lo < 2 ^ 62) ∧ (-(2 ^ 62) ≤ hi ∧ hi < 2 ^ 62)) : Rep (.rng lo hi) (.ref a)
  | oth {d : D} {v : V} (h : Z.R H d v) : Rep d v
inductive RepL : List D → List V → Prop
  | nil : RepL [] []
  | cons {x : D} {v : V} {xs : List D} {vs : List V} (h : Rep x v) (r : RepL xs vs) : RepL (x :: xs) (v :: vs)
end
end
section
variable {K : PySem.W.Frag} {Z : Zone} {H H' : Hp}
theorem SqT.stb {a : Addr} {vs : List V} (s : Stb H H') (h : SqT K H a vs) : SqT K H' a vs := by
  rcases h with (h | ⟨o, h⟩) | h
  · exact .inl (.inl (s a _ h trivial))
  · exact .inl (.inr ⟨o, s a _ h trivial⟩)
  · exact .inr h
mutual
theorem Rep.stb (s : Stb H H') {d : D} {v : V} : Rep K Z H d v → Rep K Z H' d v
  | .non => .non
  | .bl b => .bl b
  | .int i => .int i
  | .str h => .str h
  | .tup h l r => .tup (SqT.stb s h) l (RepL.stb s r)
  | .lst h l r => .lst (s _ _ h trivial) l (RepL.stb s r)
  | .rng h b => .rng (s _ _ h trivial) b
  | .oth h => .oth (Z.Rstb _ _ _ _ s h)
theorem RepL.stb (s : Stb H H') {xs : List D} {vs : List V} : RepL K Z H xs vs → RepL K Z H' xs vs
  | .nil => .nil
  | .cons h r => .cons (Rep.stb s h) (RepL.stb s r)
end
theorem RepL.length : ∀ {xs : List D} {vs : List V}, RepL K Z H xs vs → xs.length = vs.length
  | _, _, .nil => rfl
  | _, _, .cons _ r => by rw [List.length_cons, List.length_cons, RepL.length r]
theorem RepL.get : ∀ {xs : List D} {vs : List V} {i : Nat} {x : D}, RepL K Z H xs vs → xs[i]? = some x → ∃ v, vs[i]? = some v ∧ Rep K Z H x v
  | _, _, _, _, .nil, e => by simp at e
  | _, _, 0, _, .cons h _, e => by simp at e; subst e; exact ⟨_, rfl, h⟩
  | _, _, i + 1, _, .cons _ r, e => by
    obtain ⟨v, h1, h2⟩ := RepL.get (i := i) r (by simpa using e)
    exact ⟨v, by simpa using h1, h2⟩
theorem RepL.get' : ∀ {xs : List D} {vs : List V} {i : Nat} {v : V}, RepL K Z H xs vs → vs[i]? = some v → ∃ x, xs[i]? = some x ∧ Rep K Z H x v
  | _, _, _, _, .nil, e => by simp at e
  | _, _, 0, _, .cons h _, e => by simp at e; subst e; exact ⟨_, rfl, h⟩
  | _, _, i + 1, _, .cons _ r, e => by
    obtain ⟨v, h1, h2⟩ := RepL.get' (i := i) r (by simpa using e)
    exact ⟨v, by simpa using h1, h2⟩
theorem RepL.append : ∀ {xs ys : List D} {vs ws : List V}, RepL K Z H xs vs → RepL K Z H ys ws → RepL K Z H (xs ++ ys) (vs ++ ws)
  | _, _, _, _, .nil, s => s
  | _, _, _, _, .cons h r, s => .cons h (RepL.append r s)
theorem RepL.take : ∀ {xs : List D} {vs : List V} (n : Nat), RepL K Z H xs vs → RepL K Z H (xs.take n) (vs.take n)
  | _, _, 0, _ => .nil
  | _, _, _ + 1, .nil => .nil
  | _, _, n + 1, .cons h r => .cons h (RepL.take n r)
theorem RepL.drop : ∀ {xs : List D} {vs : List V} (n : Nat), RepL K Z H xs vs → RepL K Z H (xs.drop n) (vs.drop n)
  | _, _, 0, r => r
  | _, _, _ + 1, .nil => .nil
  | _, _, n + 1, .cons _ r => RepL.drop n r
theorem RepL.reverse : ∀ {xs : List D} {vs : List V}, RepL K Z H xs vs → RepL K Z H xs.reverse vs.reverse
  | _, _, .nil => .nil
  | _, _, .cons h r => by
    rw [List.reverse_cons, List.reverse_cons]
    exact RepL.append (RepL.reverse r) (.cons h .nil)
theorem RepL.set : ∀ {xs : List D} {vs : List V} {x : D} {v : V} (i : Nat), RepL K Z H xs vs → Rep K Z H x v → RepL K Z H (xs.set i x) (vs.set i v)
  | _, _, _, _, _, .nil, _ => .nil
  | _, _, _, _, 0, .cons _ r, k => .cons k r
  | _, _, _, _, i + 1, .cons h r, k => .cons h (RepL.set i r k)
theorem RepL.rep {xs : List D} {vs : List V} (r : RepL K Z H xs vs) : ∀ n : Nat, RepL K Z H (List.replicate n xs).flatten (List.replicate n vs).flatten
  | 0 => .nil
  | n + 1 => by
    rw [List.replicate_succ, List.replicate_succ, List.flatten_cons, List.flatten_cons]
    exact RepL.append r (RepL.rep r n)
theorem RepL.one {x : D} {v : V} (h : Rep K Z H x v) : RepL K Z H [x] [v] := .cons h .nil
/-- inversion -/
theorem Rep.int_inv {i : Int} {v : V} (h : Rep K Z H (.int i) v) : v = .int i := by
  cases h with
  | int => rfl
  | oth h => exact absurd (Z.Roth _ _ _ h).1 (by simp [isOth])
theorem Rep.bl_inv {b : Bool} {v : V} (h : Rep K Z H (.bl b) v) : v = .bl b := by
  cases h with
  | bl => rfl
  | oth h => exact absurd (Z.Roth _ _ _ h).1 (by simp [isOth])
theorem Rep.non_inv {v : V} (h : Rep K Z H .non v) : v = .non := by
  cases h with
  | non => rfl
  | oth h => exact absurd (Z.Roth _ _ _ h).1 (by simp [isOth])
theorem Rep.isNone_iff {d : D} {v : V} (h : Rep K Z H d v) : decide (v = .non) = isNone d := by
  cases h with
  | oth h =>
    obtain ⟨h1, a, rfl⟩ := Z.Roth _ _ _ h
    cases d <;> first | rfl | (simp [isOth] at h1)
  | _ => rfl
theorem Rep.str_inv {s : Str} {v : V} (h : Rep K Z H (.str s) v) : v = .str s ∧ PyData.strOk s = true := by
  cases h with
  | str h => exact ⟨rfl, h⟩
  | oth h => exact absurd (Z.Roth _ _ _ h).1 (by simp [isOth])
theorem Rep.tup_inv {xs : List D} {v : V} (h : Rep K Z H (.tup xs) v) : ∃ a vs, v = .ref a ∧ SqT K H a vs ∧ vs.length ≤ sizeLine ∧ RepL K Z H xs vs := by
  cases h with
  | tup h l r => exact ⟨_, _, rfl, h, l, r⟩
  | oth h => exact absurd (Z.Roth _ _ _ h).1 (by simp [isOth])
theorem Rep.lst_inv {xs : List D} {v : V} (h : Rep K Z H (.lst xs) v) : ∃ a o vs, v = .ref a ∧ H a = some (.frz o (.lst vs)) ∧ vs.length ≤ sizeLine ∧ RepL K Z H xs vs := by
  cases h with
  | lst h l r => exact ⟨_, _, _, rfl, h, l, r⟩
  | oth h => exact absurd (Z.Roth _ _ _ h).1 (by simp [isOth])
theorem Rep.rng_inv {lo hi : Int} {v : V} (h : Rep K Z H (.rng lo hi) v) : ∃ a, v = .ref a ∧ H a = some (.rng lo hi) ∧ (-(2 ^ 62) ≤ lo ∧ lo < 2 ^ 62) ∧ (-(2 ^ 62) ≤ hi ∧ hi < 2 ^ 62) := by
  cases h with
  | rng h b => exact ⟨_, rfl, h, b⟩
  | oth h => exact absurd (Z.Roth _ _ _ h).1 (by simp [isOth])
mutual
theorem Rep.dp : ∀ (d : D) (v : V) (x : PyData), d.py = some x → Rep K Z H d v → Dp K H v x
  | .non, v, x, e, h => by
    rw [h.non_inv]
    simp only [D.py, Option.some.injEq] at e
    subst e
    exact .non
  | .bl b, v, x, e, h => by
    rw [h.bl_inv]
    simp only [D.py, Option.some.injEq] at e
    subst e
    exact .bl b
  | .int i, v, x, e, h => by
    rw [h.int_inv]
    simp only [D.py, Option.some.injEq] at e
    subst e
    exact .int i
  | .str s, v, x, e, h => by
    rw [h.str_inv.1]
    simp only [D.py, Option.some.injEq] at e
    subst e
    exact .str s
  | .tup xs, v, x, e, h => by
    obtain ⟨a, vs, rfl, h1, _, h2⟩ := h.tup_inv
    simp only [D.py, Option.map_eq_some_iff] at e
    obtain ⟨ys, e1, rfl⟩ := e
    exact .tup h1 (RepL.dp xs vs ys e1 h2)
  | .lst xs, v, x, e, h => by
    obtain ⟨a, o, vs, rfl, h1, _, h2⟩ := h.lst_inv
    simp only [D.py, Option.map_eq_some_iff] at e
    obtain ⟨ys, e1, rfl⟩ := e
    exact .lst (.inl (.inr ⟨o, h1⟩)) (RepL.dp xs vs ys e1 h2)
  | .rng _ _, _, _, e, _ => by simp [D.py] at e
  | .exc _ _, _, _, e, _ => by simp [D.py] at e
  | .thk _ _, _, _, e, _ => by simp [D.py] at e
  | .lam _, _, _, e, _ => by simp [D.py] at e
  | .drw, _, _, e, _ => by simp [D.py] at e
theorem RepL.dp : ∀ (xs : List D) (vs : List V) (ys : List PyData), pyL xs = some ys → RepL K Z H xs vs → DpAll K H vs ys
  | [], _, ys, e, h => by
    cases h
    simp only [pyL, Option.some.injEq] at e
    subst e
    exact .nil
  | x :: xs, _, ys, e, h => by
    cases h with
    | cons h r =>
      unfold pyL at e
      cases e1 : x.py with
      | none => simp [e1] at e
      | some y =>
        cases e2 : pyL xs with
        | none => simp [e1, e2] at e
        | some zs =>
          simp only [e1, e2, Option.some.injEq] at e
          subst e
          exact .cons (Rep.dp x _ y e1 h) (RepL.dp xs _ zs e2 r)
end
end
end PL

/-! PLd: the judgements, names, operators. -/
namespace PL
open PySem
open PySem.Spec
open PyProof.Rows
open L2
/-- what stands through the whole law -/
structure GE where
  P : Program
  w : World
  K : PySem.W.Frag
  mg : Str → Option Value
  base : Heap
def geOf (X : Cx) : GE := ⟨X.prog, X.w, X.K, X.mg, X.base⟩
/-- a place in the text: slots, scope, room for calls; top: a def's own frame -/
structure Gm where
  g : GE
  N : List Str
  sc : Scope
  k : Nat
  top : Bool
  fb : Str → Bool
  cd : Value
  ql : Str
structure Fam (γ : Gm) (W : WX) (X : Cx) : Prop where
  ge : geOf X = γ.g
  N : X.N = γ.N
  nd : γ.N.Nodup
  sc : X.env.scope = γ.sc
  room : Room γ.k X.A
  gu : X.A.guards = some []
  calm : X.calm = true
  tk : Takes X W
  fb : ∀ x, γ.fb x = true → X.fn x = true
  top : γ.top = true → X.stack = X.env :: X.outer ∧ X.env.frame = some X.env.locals ∧ X.ex = [] ∧ PassesOwn (model X.prog X.w) X.A X.env X.xe
  code : γ.top = true → X.env.code = γ.cd ∧ X.env.qual = γ.ql
theorem Fam.K {γ : Gm} {W : WX} {X : Cx} (F : Fam γ W X) : X.K = γ.g.K := by rw [← F.ge]; rfl
theorem Fam.mg {γ : Gm} {W : WX} {X : Cx} (F : Fam γ W X) : X.mg = γ.g.mg := by rw [← F.ge]; rfl
theorem Fam.kd {γ : Gm} {W : WX} {X : Cx} (F : Fam γ W X) {x : Str} {k : NameKind} (h : γ.sc.names.lookup x = some k) : X.env.kindOf x = some k := by
  show X.env.scope.names.lookup x = some k
  rw [F.sc]
  exact h
theorem Fam.vis {γ : Gm} {W : WX} {X : Cx} (F : Fam γ W X) {x : Str} (h : Vis γ.sc x) : Vis X.env.scope x := by rw [F.sc]; exact h
theorem Fam.units {γ : Gm} {W : WX} {X : Cx} (F : Fam γ W X) : X.A.units + 200 < cLine := by have := F.room.un; omega
/-- slots -/
def SlotOk (K : PySem.W.Frag) (Z : Zone) (H0 H : Hp) : En → Option (Option V) → Prop
  | .un, _ => True
  | .val d, some (some v) => Rep K Z H d v
  | .own xs, some (some (.ref p)) => H0 p = none ∧ ∃ vs, H p = some (.lst vs) ∧ vs.length ≤ sizeLine ∧ RepL K Z H xs vs
  | _, _ => False
/-- true at some turn -/
def Zone.sm (Z : Zone) (H : Hp) : Prop := ∃ κ, Z.ok κ H
structure SR (K : PySem.W.Frag) (Z : Zone) (κ : Nat) (H0 : Hp) (ρ : Nv) (σ : L2.St) (H : Hp) : Prop where
  ok0 : Z.sm H0
  ok : Z.ok κ H
  ext : Ext Z H0 H
  len : ρ.length = σ.length
  slot : ∀ (i : Nat) (e : En), ρ[i]? = some e → SlotOk K Z H0 H e σ[i]?
  dis : ∀ (i j : Nat) (xs ys : List D) (p : Addr), ρ[i]? = some (.own xs) → ρ[j]? = some (.own ys) → σ[i]? = some (some (.ref p)) → σ[j]? = some (some (.ref p)) → i = j
section
variable {K : PySem.W.Frag} {Z : Zone} {H0 H H' : Hp} {ρ : Nv} {σ : L2.St}
theorem SlotOk.mono (k0 : Z.sm H0) (k : Z.ok κ H) (e : Ext Z H H') {en : En} {o : Option (Option V)} (h : SlotOk K Z H0 H en o) : SlotOk K Z H0 H' en o := by
  cases en with
  | un => trivial
  | val d =>
    match o, h with
    | some (some v), h => exact Rep.stb (e.stb k) h
  | own xs =>
    match o, h with
    | some (some (.ref p)), h =>
      obtain ⟨h0, vs, h1, h2, h3⟩ := h
      refine ⟨h0, vs, e p _ h1 fun m => ?_, h2, RepL.stb (e.stb k) h3⟩
      obtain ⟨_, k0⟩ := k0
      obtain ⟨o, ho⟩ := Z.there H0 p k0 (Z.sub p m)
      rw [h0] at ho
      cases ho
theorem SR.sm (S : SR K Z κ H0 ρ σ H) : Z.sm H := ⟨κ, S.ok⟩
theorem SR.mono (S : SR K Z κ H0 ρ σ H) (e : Ext Z H H') (k : Z.ok κ' H') : SR K Z κ' H0 ρ σ H' :=
  ⟨S.ok0, k, S.ext.trans e, S.len, fun i en h => (S.slot i en h).mono S.ok0 S.ok e, S.dis⟩
/-- a slot's value -/
theorem SR.val (S : SR K Z κ H0 ρ σ H) {i : Nat} {d : D} (h : ρ[i]? = some (.val d)) : ∃ v, σ[i]? = some (some v) ∧ Rep K Z H d v := by
  have q := S.slot i _ h
  match e : σ[i]?, q with
  | some (some v), q => exact ⟨v, rfl, q⟩
theorem SR.own (S : SR K Z κ H0 ρ σ H) {i : Nat} {xs : List D} (h : ρ[i]? = some (.own xs)) : ∃ p vs, σ[i]? = some (some (.ref p)) ∧ H0 p = none ∧ H p = some (.lst vs) ∧ vs.length ≤ sizeLine ∧ RepL K Z H xs vs := by
  have q := S.slot i _ h
  match e : σ[i]?, q with
  | some (some (.ref p)), ⟨h0, vs, h1, h2, h3⟩ => exact ⟨p, vs, rfl, h0, h1, h2, h3⟩
end
/-! ### what follows -/
section
variable (K : PySem.W.Frag) (Z : Zone)
def An (H : Hp) (Q : D → Nat → Prop) (R : VK) : Prop := ∀ {κ : Nat} v d H', Ext Z H H' → Z.ok κ H' → Rep K Z H' d v → Q d κ → R v H'
def AnL (n : Nat) (H : Hp) (Q : List D → Nat → Prop) (R : List V → Hp → Prop) : Prop := ∀ {κ : Nat} vs ds H', Ext Z H H' → Z.ok κ H' → RepL K Z H' ds vs → ds.length = n → Q ds κ → R vs H'
def AnB (H : Hp) (Q : Bool → Nat → Prop) (R : Bool → Hp → Prop) : Prop := ∀ {κ : Nat} b H', Ext Z H H' → Z.ok κ H' → Q b κ → R b H'
/-- a new list of these -/
def AnN (H : Hp) (Q : D → Nat → Prop) (R : VK) : Prop := ∀ {κ : Nat} p xs vs H', Ext Z H H' → Z.ok κ H' → H p = none → H' p = some (.lst vs) → vs.length ≤ sizeLine → RepL K Z H' xs vs → Q (.lst xs) κ → R (.ref p) H'
def Xn (H : Hp) (σ : L2.St) (E : D → Nat → Prop) (W : WX) : Prop := ∀ {κ : Nat} cls dd H' e, Ext Z H H' → Z.ok κ H' → Z.X H' e cls dd → E e κ → W cls dd σ H'
variable {K Z}
variable {H H1 : Hp} {Q : D → Nat → Prop} {R : VK}
theorem An.at (a : An K Z H Q R) (e : Ext Z H H1) : An K Z H1 Q R := fun v d H' x k r q => a v d H' (e.trans x) k r q
theorem AnL.at {n : Nat} {Q : List D → Nat → Prop} {R : List V → Hp → Prop} (a : AnL K Z n H Q R) (e : Ext Z H H1) : AnL K Z n H1 Q R := fun v d H' x k r q => a v d H' (e.trans x) k r q
theorem AnB.at {Q : Bool → Nat → Prop} {R : Bool → Hp → Prop} (a : AnB Z H Q R) (e : Ext Z H H1) : AnB Z H1 Q R := fun b H' x k q => a b H' (e.trans x) k q
theorem Xn.at {σ : L2.St} {E : D → Nat → Prop} {W : WX} (a : Xn Z H σ E W) (e : Ext Z H H1) : Xn Z H1 σ E W := fun c d H' x y k r q => a c d H' x (e.trans y) k r q
end
def Rdg (K : PySem.W.Frag) (Z : Zone) (W : WX) (te : TE) (t : Nv → M D) : Prop := ∀ {κ : Nat} ρ σ H H0 Q E R, SR K Z κ H0 ρ σ H → t ρ κ Q E → An K Z H Q R → Xn Z H σ E W → te σ H R
def RdgN (K : PySem.W.Frag) (Z : Zone) (W : WX) (te : TE) (t : Nv → M D) : Prop := ∀ {κ : Nat} ρ σ H H0 Q E R, SR K Z κ H0 ρ σ H → t ρ κ Q E → AnN K Z H Q R → Xn Z H σ E W → te σ H R
def RdgL (K : PySem.W.Frag) (Z : Zone) (W : WX) (n : Nat) (ta : TA) (t : Nv → M (List D)) : Prop := ∀ {κ : Nat} ρ σ H H0 Q E R, SR K Z κ H0 ρ σ H → t ρ κ Q E → AnL K Z n H Q R → Xn Z H σ E W → ta σ H R
def RdgB (K : PySem.W.Frag) (Z : Zone) (W : WX) (tt : TT) (t : Nv → M Bool) : Prop := ∀ {κ : Nat} ρ σ H H0 Q E R, SR K Z κ H0 ρ σ H → t ρ κ Q E → AnB Z H Q R → Xn Z H σ E W → tt σ H R
/-- the judgements -/
def DE (Z : Zone) (γ : Gm) (e : Expr) (t : Nv → M D) : Prop := ∀ W, ∃ te, (∀ X, Fam γ W X → PE X e te) ∧ Rdg γ.g.K Z W te t
/-- a new list -/
def DN (Z : Zone) (γ : Gm) (e : Expr) (t : Nv → M D) : Prop := ∀ W, ∃ te, (∀ X, Fam γ W X → PE X e te) ∧ RdgN γ.g.K Z W te t
def DA (Z : Zone) (γ : Gm) (es : List Expr) (t : Nv → M (List D)) : Prop := ∀ W, ∃ ta, (∀ X, Fam γ W X → PA X es ta) ∧ RdgL γ.g.K Z W es.length ta t
def DT (Z : Zone) (γ : Gm) (e : Expr) (t : Nv → M Bool) : Prop := ∀ W, ∃ tt, (∀ X, Fam γ W X → PT X e tt) ∧ RdgB γ.g.K Z W tt t
def DW (Z : Zone) (γ : Gm) (e : Expr) (t : Nv → M Bool) : Prop := ∀ W, ∃ tt, (∀ X, Fam γ W X → PW X e tt) ∧ RdgB γ.g.K Z W tt t
section
variable {Z : Zone} {γ : Gm} {e a b c : Expr} {pos : Pos} {t ta tb tc : Nv → M D}
/-! ### names, constants -/
theorem getV_inv {ρ : Nv} {i : Nat} {Q E : D → Nat → Prop} (h : getV ρ i κ Q E) : ∃ d, ρ[i]? = some (.val d) ∧ Q d κ := by
  unfold getV at h
  cases e : ρ[i]? with
  | none => rw [e] at h; exact h.elim
  | some en =>
    rw [e] at h
    cases en with
    | un => exact h.elim
    | own _ => exact h.elim
    | val d => exact ⟨d, rfl, h⟩
theorem de_var {i : Nat} {x : Str} (hN : γ.N[i]? = some x) (hv : Vis γ.sc x) (hd : (x == ("__debug__" : Str)) = false) (hcd : (x == ("__classdict__" : Str)) = false) : DE Z γ (.Name x pos) (fun ρ => getV ρ i) := fun W =>
  ⟨tVar i, fun X F => pe_var (by rw [F.N]; exact hN) (F.vis hv) hd hcd, fun ρ σ H H0 Q E R S h k _ => by
    obtain ⟨d, e, q⟩ := getV_inv h
    obtain ⟨v, e1, r⟩ := S.val e
    exact ⟨v, e1, k v d H (.refl _ _) S.ok r q⟩⟩
theorem de_c {v : V} {d : D} (hp : ∀ W X, Fam γ W X → PE X e (tC v)) (hr : ∀ H, Rep γ.g.K Z H d v) : DE Z γ e (fun _ => ret d) := fun W =>
  ⟨tC v, fun X F => hp W X F, fun ρ σ H H0 Q E R S h k _ => k v d H (.refl _ _) S.ok (hr H) h⟩
theorem de_int {i j} : DE Z γ (.Constant (.int i) j pos) (fun _ => ret (.int i)) := de_c (fun _ _ _ => pe_int) fun _ => .int i
theorem de_bl {i j} : DE Z γ (.Constant (.bool i) j pos) (fun _ => ret (.bl i)) := de_c (fun _ _ _ => pe_bl) fun _ => .bl i
theorem de_non {j} : DE Z γ (.Constant .none j pos) (fun _ => ret .non) := de_c (fun _ _ _ => pe_non) fun _ => .non
theorem de_str {s j} (h : PyData.strOk s = true) : DE Z γ (.Constant (.str s) j pos) (fun _ => ret (.str s)) := de_c (fun _ _ _ => pe_str) fun _ => .str h
theorem de_glob {x : Str} {v : V} {u : Value} {d : D} (hg : γ.sc.names.lookup x = some .globalImplicit) (hm : γ.g.mg x = some u) (r : RelV v u) (hd : (x == ("__debug__" : Str)) = false) (hr : ∀ H, Rep γ.g.K Z H d v) : DE Z γ (.Name x pos) (fun _ => ret d) :=
  de_c (fun _ _ F => pe_glob (F.kd hg) (by rw [F.mg]; exact hm) r hd) hr
/-! ### operators -/
/-- a two-place operation that keeps everything -/
def rOp (K : PySem.W.Frag) (Z : Zone) (f : D → D → M0 D) : R2 := fun x y H Q => ∃ dx dy Q' E, Z.sm H ∧ Rep K Z H dx x ∧ Rep K Z H dy y ∧ f dx dy Q' E ∧ ∀ v d H', Ex H H' → Rep K Z H' d v → Q' d → Q v H'
def rUn (K : PySem.W.Frag) (Z : Zone) (f : D → M0 D) : V → Hp → VK → Prop := fun x H Q => ∃ dx Q' E, Z.sm H ∧ Rep K Z H dx x ∧ f dx Q' E ∧ ∀ v d H', Ex H H' → Rep K Z H' d v → Q' d → Q v H'
def rFn (K : PySem.W.Frag) (Z : Zone) (f : List D → M0 D) : List V → Hp → VK → Prop := fun xs H Q => ∃ ds Q' E, Z.sm H ∧ RepL K Z H ds xs ∧ f ds Q' E ∧ ∀ v d H', Ex H H' → Rep K Z H' d v → Q' d → Q v H'
theorem rdg_two {W : WX} {K : PySem.W.Frag} {ua ub : TE} {f : D → D → M0 D} (ra : Rdg K Z W ua ta) (rb : Rdg K Z W ub tb) :
    Rdg K Z W (tOp (rOp K Z f) ua ub) (fun ρ => bnd (ta ρ) fun x => bnd (tb ρ) fun y => lift (f x y)) := fun ρ σ H H0 Q E R S h k kx =>
  ra ρ σ H H0 _ E _ S h (fun v d H1 e1 k1 r1 q1 => rb ρ σ H1 H0 _ E _ (S.mono e1 k1) q1 (fun u d2 H2 e2 k2 r2 q2 =>
    ⟨d, d2, _, _, ⟨_, k2⟩, r1.stb (e2.stb k1), r2, q2, fun z d3 H3 e3 r3 q3 => k z d3 H3 ((e1.trans e2).trans e3.ext) (e3.ok k2) r3 q3⟩) (kx.at e1)) kx
theorem de_bin {op : Operator} {f : D → D → M0 D} (ha : DE Z γ a ta) (hb : DE Z γ b tb) (ho : ∀ W X, Fam γ W X → OpR X (binaryOp op) (rOp γ.g.K Z f)) : DE Z γ (.BinOp a op b pos) (fun ρ => bnd (ta ρ) fun x => bnd (tb ρ) fun y => lift (f x y)) := fun W => by
  obtain ⟨ua, pa, ra⟩ := ha W
  obtain ⟨ub, pb, rb⟩ := hb W
  exact ⟨_, fun X F => pe_op (ho W X F) (pa X F) (pb X F), rdg_two ra rb⟩
theorem de_cmp {op : CmpOp} {f : D → D → M0 D} (ha : DE Z γ a ta) (hb : DE Z γ b tb) (ho : ∀ W X, Fam γ W X → OpR X (compareOp op) (rOp γ.g.K Z f)) (hm : behindInMarks op b = false) : DE Z γ (.Compare a [op] [b] pos) (fun ρ => bnd (ta ρ) fun x => bnd (tb ρ) fun y => lift (f x y)) := fun W => by
  obtain ⟨ua, pa, ra⟩ := ha W
  obtain ⟨ub, pb, rb⟩ := hb W
  exact ⟨_, fun X F => pe_cmpR (ho W X F) (pa X F) (pb X F) hm, rdg_two ra rb⟩
end
end PL

/-! PLe: rules for expressions. -/
namespace PL
open PySem
open PySem.Spec
open PyProof.Rows
open L2
/-! ### freezing -/
/-- what is wanted, or what is wanted once the new thing is frozen -/
def Fz (Q : VK) : VK := fun v H => Q v H ∨ ∃ p u, v = .ref p ∧ H p = some u ∧ Mut (some u) ∧ ∀ o, Q v (upd H p (.frz o u))
theorem ep_frz {X : Cx} {pins : List (Addr × Obj)} {σ : L2.St} {Q : VK} {u : Value} {s : Shared} (h : EP X pins σ (Fz Q) u s) : EP X pins σ Q u s := by
  obtain ⟨v, H1, I, r, q | ⟨p, ob, rfl, hp, mu, q⟩⟩ := h
  · exact ⟨v, H1, I, r, q⟩
  · obtain ⟨od, J⟩ := I.lock hp mu
    exact ⟨_, _, J, r, q od⟩
theorem pe_frz {X : Cx} {e : Expr} {te : TE} (h : PE X e te) : PE X e (fun σ H Q => te σ H (Fz Q)) :=
  ⟨fun pins s σ H Q I hw => thn (h.run pins s σ H _ I hw) fun _ _ q => ep_frz q⟩
section
variable {Z : Zone} {γ : Gm} {H H' H0 : Hp} {K : PySem.W.Frag}
theorem ext_none {p : Addr} (k : Z.sm H) (k' : Z.ok κ H') (e : Ext Z H H') (h : H' p = none) : H p = none := by
  cases q : H p with
  | none => rfl
  | some o =>
    by_cases m : Z.mu p
    · obtain ⟨u, hu⟩ := Z.there H' p k' (Z.sub p m)
      rw [h] at hu
      cases hu
    · have z := e p o q m
      rw [h] at z
      cases z
theorem frz_ext {p : Addr} {o : Obj} {u : HO} {H1 : Hp} (k : Z.sm H) (e : Ext Z H H1) (h : H p = none) : Ext Z H (upd H1 p (.frz o u)) := fun a x ha m => by
  rw [upd_ne (ne_of_none ha h)]
  exact e a x ha m
theorem ok_upd {p : Addr} {u : HO} {H1 : Hp} (k0 : Z.sm H) (h0 : H p = none) (k : Z.ok κ H1) (hp : ∀ φ, H1 p ≠ some (.ext φ)) : Z.ok κ (upd H1 p u) := Z.keep H1 _ k fun a o hr h => by
  have ne : a ≠ p := fun z => by
    rw [z] at hr
    rcases Z.rds H1 p k hr with q | ⟨φ, q⟩
    · obtain ⟨_, k0⟩ := k0
      obtain ⟨x, hx⟩ := Z.there H p k0 q
      rw [h0] at hx
      cases hx
    · exact hp φ q
  rw [upd_ne ne]
  exact h
theorem ne_ext {p : Addr} {vs : List V} (h : H p = some (.lst vs)) : ∀ φ, H p ≠ some (.ext φ) := fun φ z => by rw [h] at z; cases z
theorem ne_extF {p : Addr} {o : Obj} {u : HO} (h : H p = some (.frz o u)) : ∀ φ, H p ≠ some (.ext φ) := fun φ z => by rw [h] at z; cases z
theorem stb_upd {p : Addr} {u w : HO} (h : H p = some u) (ni : ¬ Imm u) : Stb H (upd H p w) := fun a o ha i => by
  have ne : a ≠ p := fun z => by
    rw [z, h] at ha
    cases ha
    exact ni i
  rw [upd_ne ne]
  exact ha
theorem rep_new {p : Addr} {o : Obj} {vs : List V} {xs : List D} {H1 : Hp} (h : H1 p = some (.lst vs)) (l : vs.length ≤ sizeLine) (r : RepL K Z H1 xs vs) : Rep K Z (upd H1 p (.frz o (.lst vs))) (.lst xs) (.ref p) :=
  .lst upd_same l (RepL.stb (stb_upd h fun z => z) r)
/-- what makes new lists makes data -/
theorem dn_de {e : Expr} {t : Nv → M D} (h : DN Z γ e t) : DE Z γ e t := fun W => by
  obtain ⟨te, pe, rd⟩ := h W
  refine ⟨_, fun X F => pe_frz (pe X F), fun ρ σ H H0 Q E R S q k kx => rd ρ σ H H0 Q E _ S q (fun p xs vs H1 e1 k1 hn hp hl r q1 => ?_) kx⟩
  exact .inr ⟨p, _, rfl, hp, trivial, fun o => k _ _ _ (frz_ext S.sm e1 hn) (ok_upd S.sm hn k1 (ne_ext hp)) (rep_new hp hl r) q1⟩
end
section
variable {Z : Zone} {γ : Gm} {e a b c : Expr} {pos : Pos} {t ta tb tc : Nv → M D} {es : List Expr} {tl : Nv → M (List D)}
/-! ### tests -/
theorem dt_val (h : DE Z γ e t) (he : ∀ env whole, isTrue e env whole = (do let v ← whole; standAt e.pos; holding [v] (truthy v))) : DT Z γ e (fun ρ => bnd (t ρ) truth) := fun W => by
  obtain ⟨te, pe, rd⟩ := h W
  refine ⟨_, fun X F => pt_val (pe X F) (he X.env), fun ρ σ H H0 Q E R S q k kx => rd ρ σ H H0 _ E _ S q (fun v d H1 e1 k1 r q1 => ?_) kx⟩
  cases d with
  | bl b => exact ⟨b, r.bl_inv, k b H1 e1 k1 q1⟩
  | _ => exact q1.elim
theorem dt_cmp {op : CmpOp} {f : D → D → M0 D} (ha : DE Z γ a ta) (hb : DE Z γ b tb) (ho : ∀ W X, Fam γ W X → OpR X (compareOp op) (rOp γ.g.K Z f)) (hm : behindInMarks op b = false) : DT Z γ (.Compare a [op] [b] pos) (fun ρ => bnd (bnd (ta ρ) fun x => bnd (tb ρ) fun y => lift (f x y)) truth) := fun W => by
  obtain ⟨ua, pa, ra⟩ := ha W
  obtain ⟨ub, pb, rb⟩ := hb W
  refine ⟨tB (tOp (rOp γ.g.K Z f) ua ub), fun X F => pt_cmpR (ho W X F) (pa X F) (pb X F) hm, fun ρ σ H H0 Q E R S q k kx => rdg_two ra rb ρ σ H H0 (fun d κ => truth d κ Q E) E _ S q (fun v d H1 e1 k1 r q1 => ?_) kx⟩
  cases d with
  | bl b => exact ⟨b, r.bl_inv, k b H1 e1 k1 q1⟩
  | _ => exact q1.elim
theorem dt_not {ua : Nv → M Bool} (ha : DT Z γ a ua) : DT Z γ (.UnaryOp .Not a pos) (fun ρ => bnd (ua ρ) fun k => ret (!k)) := fun W => by
  obtain ⟨tt, pt, rd⟩ := ha W
  exact ⟨_, fun X F => pt_not (pt X F), fun ρ σ H H0 Q E R S q k kx => rd ρ σ H H0 _ E _ S q (fun b H1 e1 k1 q1 => k (!b) H1 e1 k1 q1) kx⟩
theorem dw_dt {u : Nv → M Bool} (h : DW Z γ e u) : DT Z γ e u := fun W => by
  obtain ⟨tt, pt, rd⟩ := h W
  exact ⟨tt, fun X F => (pt X F).pt, rd⟩
theorem dw_one {ua : Nv → M Bool} {op : BoolOp} (ha : DT Z γ a ua) : DW Z γ (.BoolOp op [a] pos) ua := fun W => by
  obtain ⟨tt, pt, rd⟩ := ha W
  cases op with
  | And => exact ⟨tt, fun X F => pw_and1 (pt X F), rd⟩
  | Or => exact ⟨tt, fun X F => pw_or1 (pt X F), rd⟩
theorem dw_and {ua ub : Nv → M Bool} (ha : DT Z γ a ua) (hb : DW Z γ (.BoolOp .And (b :: es) pos) ub) : DW Z γ (.BoolOp .And (a :: b :: es) pos) (fun ρ => bnd (ua ρ) fun k => if k = true then ub ρ else ret false) := fun W => by
  obtain ⟨tt, pt, rd⟩ := ha W
  obtain ⟨tu, pu, ru⟩ := hb W
  refine ⟨_, fun X F => pw_and (pt X F) (pu X F), fun ρ σ H H0 Q E R S q k kx => rd ρ σ H H0 _ E _ S q (fun b H1 e1 k1 q1 => ?_) kx⟩
  cases b with
  | true => exact ru ρ σ H1 H0 Q E R (S.mono e1 k1) q1 (k.at e1) (kx.at e1)
  | false => exact k false H1 e1 k1 q1
theorem dw_or {ua ub : Nv → M Bool} (ha : DT Z γ a ua) (hb : DW Z γ (.BoolOp .Or (b :: es) pos) ub) : DW Z γ (.BoolOp .Or (a :: b :: es) pos) (fun ρ => bnd (ua ρ) fun k => if k = true then ret true else ub ρ) := fun W => by
  obtain ⟨tt, pt, rd⟩ := ha W
  obtain ⟨tu, pu, ru⟩ := hb W
  refine ⟨_, fun X F => pw_or (pt X F) (pu X F), fun ρ σ H H0 Q E R S q k kx => rd ρ σ H H0 _ E _ S q (fun b H1 e1 k1 q1 => ?_) kx⟩
  cases b with
  | true => exact k true H1 e1 k1 q1
  | false => exact ru ρ σ H1 H0 Q E R (S.mono e1 k1) q1 (k.at e1) (kx.at e1)
/-! ### and, or, not as values -/
theorem de_one {op : BoolOp} (ha : DE Z γ a ta) : DE Z γ (.BoolOp op [a] pos) ta := fun W => by
  obtain ⟨te, pe, rd⟩ := ha W
  exact ⟨te, fun X F => pe_one (pe X F), rd⟩
theorem de_and (ha : DE Z γ a ta) (hb : DE Z γ (.BoolOp .And (b :: es) pos) tb) : DE Z γ (.BoolOp .And (a :: b :: es) pos) (fun ρ => bnd (bnd (ta ρ) truth) fun k => if k = true then tb ρ else ret (.bl false)) := fun W => by
  obtain ⟨te, pe, rd⟩ := ha W
  obtain ⟨tu, pu, ru⟩ := hb W
  refine ⟨_, fun X F => pe_and (pe X F) (pu X F), fun ρ σ H H0 Q E R S q k kx => rd ρ σ H H0 _ E _ S q (fun v d H1 e1 k1 r q1 => ?_) kx⟩
  cases d with
  | bl b =>
    refine ⟨b, r.bl_inv, ?_⟩
    cases b with
    | true => exact ru ρ σ H1 H0 Q E R (S.mono e1 k1) q1 (k.at e1) (kx.at e1)
    | false => exact k _ _ H1 e1 k1 (.bl false) q1
  | _ => exact q1.elim
theorem de_or (ha : DE Z γ a ta) (hb : DE Z γ (.BoolOp .Or (b :: es) pos) tb) : DE Z γ (.BoolOp .Or (a :: b :: es) pos) (fun ρ => bnd (bnd (ta ρ) truth) fun k => if k = true then ret (.bl true) else tb ρ) := fun W => by
  obtain ⟨te, pe, rd⟩ := ha W
  obtain ⟨tu, pu, ru⟩ := hb W
  refine ⟨_, fun X F => pe_or (pe X F) (pu X F), fun ρ σ H H0 Q E R S q k kx => rd ρ σ H H0 _ E _ S q (fun v d H1 e1 k1 r q1 => ?_) kx⟩
  cases d with
  | bl b =>
    refine ⟨b, r.bl_inv, ?_⟩
    cases b with
    | true => exact k _ _ H1 e1 k1 (.bl true) q1
    | false => exact ru ρ σ H1 H0 Q E R (S.mono e1 k1) q1 (k.at e1) (kx.at e1)
  | _ => exact q1.elim
theorem de_not (ha : DE Z γ a ta) : DE Z γ (.UnaryOp .Not a pos) (fun ρ => bnd (bnd (ta ρ) truth) fun k => ret (.bl (!k))) := fun W => by
  obtain ⟨te, pe, rd⟩ := ha W
  refine ⟨_, fun X F => pe_not (pe X F), fun ρ σ H H0 Q E R S q k kx => rd ρ σ H H0 _ E _ S q (fun v d H1 e1 k1 r q1 => ?_) kx⟩
  cases d with
  | bl b => exact ⟨b, r.bl_inv, k _ _ H1 e1 k1 (.bl _) q1⟩
  | _ => exact q1.elim
theorem de_ite {uc : Nv → M Bool} (hc : DT Z γ c uc) (ha : DE Z γ a ta) (hb : DE Z γ b tb) : DE Z γ (.IfExp c a b pos) (fun ρ => bnd (uc ρ) fun k => if k = true then ta ρ else tb ρ) := fun W => by
  obtain ⟨tt, pt, rd⟩ := hc W
  obtain ⟨te, pe, re⟩ := ha W
  obtain ⟨tu, pu, ru⟩ := hb W
  refine ⟨_, fun X F => pe_ifExp (pt X F) (pe X F) (pu X F), fun ρ σ H H0 Q E R S q k kx => rd ρ σ H H0 _ E _ S q (fun b H1 e1 k1 q1 => ?_) kx⟩
  cases b with
  | true => exact re ρ σ H1 H0 Q E R (S.mono e1 k1) q1 (k.at e1) (kx.at e1)
  | false => exact ru ρ σ H1 H0 Q E R (S.mono e1 k1) q1 (k.at e1) (kx.at e1)
theorem rdg_chain {W : WX} {K : PySem.W.Frag} {ua ub uc : TE} {f1 f2 : D → D → M0 D} (ra : Rdg K Z W ua ta) (rb : Rdg K Z W ub tb) (rc : Rdg K Z W uc tc) :
    Rdg K Z W (tChain (rOp K Z f1) (rOp K Z f2) ua ub uc) (fun ρ => bnd (ta ρ) fun x => bnd (tb ρ) fun y => bnd (bnd (lift (f1 x y)) truth) fun k => if k = true then bnd (tc ρ) fun z => lift (f2 y z) else ret (.bl false)) := by
  intro κ ρ σ H H0 Q E R S q k kx
  refine ra ρ σ H H0 _ E _ S q (fun v d H1 e1 k1 r1 q1 => rb ρ σ H1 H0 _ E _ (S.mono e1 k1) q1 (fun u d2 H2 e2 k2 r2 q2 => ?_) (kx.at e1)) kx
  refine ⟨d, d2, _, _, ⟨_, k2⟩, r1.stb (e2.stb k1), r2, q2, fun z d3 H3 e3 r3 q3 => ?_⟩
  cases d3 with
  | bl b =>
    refine ⟨b, r3.bl_inv, ?_⟩
    have x3 := (e1.trans e2).trans (e3.ext (Z := Z))
    have k3 := e3.ok k2
    cases b with
    | true =>
      refine rc ρ σ H3 H0 _ E _ (S.mono x3 k3) q3 (fun w d4 H4 e4 k4 r4 q4 => ?_) (kx.at x3)
      exact ⟨d2, d4, _, _, ⟨_, k4⟩, (r2.stb e3.stb).stb (e4.stb k3), r4, q4, fun z d5 H5 e5 r5 q5 => k z d5 H5 ((x3.trans e4).trans e5.ext) (e5.ok k4) r5 q5⟩
    | false => exact k _ _ H3 x3 k3 (.bl false) q3
  | _ => exact q3.elim
theorem de_chain {o1 o2 : CmpOp} {f1 f2 : D → D → M0 D} (ha : DE Z γ a ta) (hb : DE Z γ b tb) (hc : DE Z γ c tc) (h1 : ∀ W X, Fam γ W X → OpR X (compareOp o1) (rOp γ.g.K Z f1)) (h2 : ∀ W X, Fam γ W X → OpR X (compareOp o2) (rOp γ.g.K Z f2)) (hm : behindInMarks o2 c = false) :
    DE Z γ (.Compare a [o1, o2] [b, c] pos) (fun ρ => bnd (ta ρ) fun x => bnd (tb ρ) fun y => bnd (bnd (lift (f1 x y)) truth) fun k => if k = true then bnd (tc ρ) fun z => lift (f2 y z) else ret (.bl false)) := fun W => by
  obtain ⟨ua, pa, ra⟩ := ha W
  obtain ⟨ub, pb, rb⟩ := hb W
  obtain ⟨uc, pc, rc⟩ := hc W
  exact ⟨_, fun X F => pe_chain (h1 W X F) (h2 W X F) (pa X F) (pb X F) (pc X F) (by unfold lastMarks; unfold lastMarks; exact hm), rdg_chain ra rb rc⟩
theorem dt_chain {o1 o2 : CmpOp} {f1 f2 : D → D → M0 D} (ha : DE Z γ a ta) (hb : DE Z γ b tb) (hc : DE Z γ c tc) (h1 : ∀ W X, Fam γ W X → OpR X (compareOp o1) (rOp γ.g.K Z f1)) (h2 : ∀ W X, Fam γ W X → OpR X (compareOp o2) (rOp γ.g.K Z f2)) (hm : behindInMarks o2 c = false) :
    DT Z γ (.Compare a [o1, o2] [b, c] pos) (fun ρ => bnd (bnd (ta ρ) fun x => bnd (tb ρ) fun y => bnd (bnd (lift (f1 x y)) truth) fun k => if k = true then bnd (tc ρ) fun z => lift (f2 y z) else ret (.bl false)) truth) := fun W => by
  obtain ⟨ua, pa, ra⟩ := ha W
  obtain ⟨ub, pb, rb⟩ := hb W
  obtain ⟨uc, pc, rc⟩ := hc W
  refine ⟨tTest (tChain (rOp γ.g.K Z f1) (rOp γ.g.K Z f2) ua ub uc), fun X F => pt_chain (h1 W X F) (h2 W X F) (pa X F) (pb X F) (pc X F) (by unfold lastMarks; unfold lastMarks; exact hm), fun ρ σ H H0 Q E R S q k kx => rdg_chain ra rb rc ρ σ H H0 (fun d κ => truth d κ Q E) E _ S q (fun v d H1 e1 k1 r1 q1 => ?_) kx⟩
  cases d with
  | bl b => exact ⟨b, r1.bl_inv, k b H1 e1 k1 q1⟩
  | _ => exact q1.elim
theorem de_un {op : UnaryOp} {f : D → M0 D} (ha : DE Z γ a ta) (ho : ∀ W X, Fam γ W X → UnR X (unaryOp op) (rUn γ.g.K Z f)) : DE Z γ (.UnaryOp op a pos) (fun ρ => bnd (ta ρ) fun x => lift (f x)) := fun W => by
  obtain ⟨te, pe, rd⟩ := ha W
  exact ⟨_, fun X F => pe_un (ho W X F) (pe X F), fun ρ σ H H0 Q E R S q k kx => rd ρ σ H H0 _ E _ S q (fun v d H1 e1 k1 r q1 => ⟨d, _, _, ⟨_, k1⟩, r, q1, fun z d3 H3 e3 r3 q3 => k z d3 H3 (e1.trans e3.ext) (e3.ok k1) r3 q3⟩) kx⟩
end
end PL

/-! PLf: arguments, displays, subscripts, built-ins. -/
namespace PL
open PySem
open PySem.Spec
open PyProof.Rows
open L2
/-- no star -/
def plain : Expr → Bool
  | .Starred _ _ => false
  | _ => true
theorem star_cons {e : Expr} {es : List Expr} (h : plain e = true) (env : PySem.Env) : starEach (e :: es) env = (false, eval e env) :: starEach es env := by
  cases e <;> first | rfl | (simp [plain] at h)
theorem back_any {pos : Pos} : ∀ {es : List Expr}, es.all plain = true → ∀ env : PySem.Env, (backTo pos (starEach es env)).any (·.1) = false
  | [], _, _ => rfl
  | e :: es, h, env => by
    simp only [List.all_cons, Bool.and_eq_true] at h
    rw [star_cons h.1]
    show (false || (backTo pos (starEach es env)).any (·.1)) = false
    rw [back_any h.2]
    rfl
section
variable {Z : Zone} {γ : Gm} {e a b c : Expr} {pos p2 : Pos} {t ta tb tc : Nv → M D} {es : List Expr} {tl : Nv → M (List D)}
theorem da_nil : DA Z γ [] (fun _ => ret []) := fun W =>
  ⟨tNil, fun X F => pa_nil, fun ρ σ H H0 Q E R S q k _ => k [] [] H (.refl _ _) S.ok .nil rfl q⟩
theorem da_cons (hp : plain e = true) (ha : DE Z γ e t) (hr : DA Z γ es tl) : DA Z γ (e :: es) (fun ρ => bnd (t ρ) fun x => bnd (tl ρ) fun xs => ret (x :: xs)) := fun W => by
  obtain ⟨te, pe, rd⟩ := ha W
  obtain ⟨tu, pu, ru⟩ := hr W
  refine ⟨_, fun X F => pa_cons (pe X F) (pu X F) (star_cons hp _), fun ρ σ H H0 Q E R S q k kx => rd ρ σ H H0 _ E _ S q (fun v d H1 e1 k1 r1 q1 => ?_) kx⟩
  refine ru ρ σ H1 H0 _ E _ (S.mono e1 k1) q1 (fun vs ds H2 e2 k2 r2 n2 q2 => ?_) (kx.at e1)
  exact k (v :: vs) (d :: ds) H2 (e1.trans e2) k2 (.cons (r1.stb (e2.stb k1)) r2) (by rw [List.length_cons, List.length_cons, n2]) q2
/-- displays -/
theorem de_tup {x1} (h : DA Z γ es tl) (hn : es.length ≤ 16777216) : DE Z γ (.Tuple es x1 pos) (fun ρ => bnd (tl ρ) fun xs => ret (.tup xs)) := fun W => by
  obtain ⟨ta, pa, ra⟩ := h W
  refine ⟨_, fun X F => pe_tup (pa X F), fun ρ σ H H0 Q E R S q k kx => ra ρ σ H H0 _ E _ S q (fun vs ds H1 e1 k1 r1 n1 q1 => ?_) kx⟩
  have hl : vs.length ≤ sizeLine := by rw [← r1.length, n1, sizeLine_eq]; exact hn
  refine ⟨hl, fun p hp => k _ _ _ (e1.trans (Ex.new hp).ext) ((Ex.new hp).ok k1) (.tup (.inl (.inl upd_same)) hl (RepL.stb (Ex.new hp).stb r1)) q1⟩
theorem dn_lst (h : DA Z γ es tl) (hn : es.length ≤ 16777216) : DN Z γ (.List es pos) (fun ρ => bnd (tl ρ) fun xs => ret (.lst xs)) := fun W => by
  obtain ⟨ta, pa, ra⟩ := h W
  refine ⟨_, fun X F => pe_lst (pa X F), fun ρ σ H H0 Q E R S q k kx => ra ρ σ H H0 _ E _ S q (fun vs ds H1 e1 k1 r1 n1 q1 => ?_) kx⟩
  have hl : vs.length ≤ sizeLine := by rw [← r1.length, n1, sizeLine_eq]; exact hn
  refine ⟨hl, fun p hp => k p ds vs _ (e1.trans (Ex.new hp).ext) ((Ex.new hp).ok k1) (ext_none S.sm k1 e1 hp) upd_same hl (RepL.stb (Ex.new hp).stb r1) q1⟩
/-! ### subscripts -/
def plainIx : Expr → Bool
  | .Slice _ _ _ _ => false
  | _ => true
theorem plainIx_ok {b : Expr} (h : plainIx b = true) : PlainIx b := by
  intro o i
  cases b <;> first | rfl | (simp [plainIx] at h)
theorem de_ix {f : D → D → M0 D} (hr : ∀ W X, Fam γ W X → IxR X (rOp γ.g.K Z f)) (ha : DE Z γ a ta) (hb : DE Z γ b tb) (hs : plainIx b = true) : DE Z γ (.Subscript a b pos) (fun ρ => bnd (ta ρ) fun x => bnd (tb ρ) fun y => lift (f x y)) := fun W => by
  obtain ⟨ua, pa, ra⟩ := ha W
  obtain ⟨ub, pb, rb⟩ := hb W
  exact ⟨_, fun X F => pe_ix (hr W X F) (pa X F) (pb X F) (plainIx_ok hs), rdg_two ra rb⟩
/-- the parts of a slice -/
def DO (Z : Zone) (γ : Gm) (e : Option Expr) (t : Nv → M (Option Int)) : Prop := ∀ W, ∃ to, (∀ X, Fam γ W X → PO X e to) ∧
  ∀ {κ : Nat} ρ σ H H0 Q E (R : Option Int → Hp → Prop), SR γ.g.K Z κ H0 ρ σ H → t ρ κ Q E → (∀ {κ : Nat} o H', Ext Z H H' → Z.ok κ H' → Q o κ → R o H') → Xn Z H σ E W → to σ H R
theorem do_none : DO Z γ none (fun _ => ret none) := fun W => ⟨_, fun X F => po_none, fun ρ σ H H0 Q E R S q k _ => k none H (.refl _ _) S.ok q⟩
theorem do_some (h : DE Z γ e t) : DO Z γ (some e) (fun ρ => bnd (bnd (t ρ) partI) fun i => ret (some i)) := fun W => by
  obtain ⟨te, pe, rd⟩ := h W
  refine ⟨_, fun X F => po_some (pe X F), fun ρ σ H H0 Q E R S q k kx => rd ρ σ H H0 _ E _ S q (fun v d H1 e1 k1 r1 q1 => ?_) kx⟩
  cases d with
  | int i => exact ⟨i, r1.int_inv, k _ H1 e1 k1 q1⟩
  | _ => exact q1.elim
def rSl (K : PySem.W.Frag) (Z : Zone) : V → Option Int → Option Int → Hp → VK → Prop := fun x lo hi H Q => ∃ dx Q' E, Z.sm H ∧ Rep K Z H dx x ∧ slD dx lo hi Q' E ∧ ∀ v d H', Ex H H' → Rep K Z H' d v → Q' d → Q v H'
theorem de_sl {lo hi : Option Expr} {ul uh : Nv → M (Option Int)} (hr : ∀ W X, Fam γ W X → SlR X (rSl γ.g.K Z)) (ha : DE Z γ a ta) (hl : DO Z γ lo ul) (hh : DO Z γ hi uh) :
    DE Z γ (.Subscript a (.Slice lo hi none p2) pos) (fun ρ => bnd (ta ρ) fun x => bnd (ul ρ) fun i => bnd (uh ρ) fun j => lift (slD x i j)) := fun W => by
  obtain ⟨ua, pa, ra⟩ := ha W
  obtain ⟨tl, pl, rl⟩ := hl W
  obtain ⟨th, ph, rh⟩ := hh W
  refine ⟨_, fun X F => pe_slice (hr W X F) (pa X F) (pl X F) (ph X F), fun ρ σ H H0 Q E R S q k kx => ra ρ σ H H0 _ E _ S q (fun v d H1 e1 k1 r1 q1 => ?_) kx⟩
  refine rl ρ σ H1 H0 _ E _ (S.mono e1 k1) q1 (fun i H2 e2 k2 q2 => ?_) (kx.at e1)
  refine rh ρ σ H2 H0 _ E _ (S.mono (e1.trans e2) k2) q2 (fun j H3 e3 k3 q3 => ?_) (kx.at (e1.trans e2))
  exact ⟨d, _, _, ⟨_, k3⟩, (r1.stb (e2.stb k1)).stb (e3.stb k2), q3, fun z d4 H4 e4 r4 q4 => k z d4 H4 (((e1.trans e2).trans e3).trans e4.ext) (e4.ok k3) r4 q4⟩
/-! ### built-ins -/
theorem rdg_fn {W : WX} {K : PySem.W.Frag} {n : Nat} {ua : TA} {f : List D → M0 D} (ra : RdgL K Z W n ua tl) : Rdg K Z W (tCB (rFn K Z f) ua) (fun ρ => bnd (tl ρ) fun x => lift (f x)) := fun ρ σ H H0 Q E R S h k kx =>
  ra ρ σ H H0 _ E _ S h (fun vs ds H1 e1 k1 r1 n1 q1 => ⟨ds, _, _, ⟨_, k1⟩, r1, q1, fun z d3 H3 e3 r3 q3 => k z d3 H3 (e1.trans e3.ext) (e3.ok k1) r3 q3⟩) kx
theorem de_callB {x : Str} {p : Pos} {id : String} {f : List D → M0 D} (hc : ∀ W X, Fam γ W X → CallR X (.builtin id) (rFn γ.g.K Z f)) (hg : γ.sc.names.lookup x = some .globalImplicit) (hm : γ.g.mg x = none) (hv : bootBuiltins x = some (.builtin id))
    (ha : DA Z γ (e :: es) tl) (hp : (e :: es).all plain = true) (hn : x ≠ "__name__") (hdb : (x == ("__debug__" : Str)) = false) : DE Z γ (.Call (.Name x p) (e :: es) [] pos) (fun ρ => bnd (tl ρ) fun x => lift (f x)) := fun W => by
  obtain ⟨ua, pa, ra⟩ := ha W
  have hp' := hp
  simp only [List.all_cons, Bool.and_eq_true] at hp'
  exact ⟨_, fun X F => pe_callB (hc W X F) (F.kd hg) (by rw [F.mg]; exact hm) hv (pa X F) hn hdb (star_cons hp'.1 _) (back_any hp'.2 _), rdg_fn ra⟩
theorem de_callTy {x : Str} {p : Pos} {T : String} {f : List D → M0 D} (hc : ∀ W X, Fam γ W X → CallR X (.type T) (rFn γ.g.K Z f)) (hg : γ.sc.names.lookup x = some .globalImplicit) (hm : γ.g.mg x = none) (hv : bootBuiltins x = some (.type T))
    (ha : DA Z γ (e :: es) tl) (hp : (e :: es).all plain = true) (hn : x ≠ "__name__") (hdb : (x == ("__debug__" : Str)) = false) : DE Z γ (.Call (.Name x p) (e :: es) [] pos) (fun ρ => bnd (tl ρ) fun x => lift (f x)) := fun W => by
  obtain ⟨ua, pa, ra⟩ := ha W
  have hp' := hp
  simp only [List.all_cons, Bool.and_eq_true] at hp'
  exact ⟨_, fun X F => pe_callTy (hc W X F) (F.kd hg) (by rw [F.mg]; exact hm) hv (pa X F) hn hdb (star_cons hp'.1 _) (back_any hp'.2 _), rdg_fn ra⟩
end
end PL

/-! PLg: the operators hold. -/
namespace PL
open PySem
open PySem.Spec
open PyProof.Rows
open L2
def bopOf : Bop → Operator
  | .add => .Add | .sub => .Sub | .mul => .Mult | .fdiv => .FloorDiv | .mod => .Mod | .pow => .Pow
def copOf : Cop → CmpOp
  | .eq => .Eq | .ne => .NotEq | .lt => .Lt | .le => .LtE | .gt => .Gt | .ge => .GtE | .isin => .In | .notin => .NotIn | .isn => .Is | .notn => .IsNot
theorem strOk_append {a b : Str} (ha : PyData.strOk a = true) (hb : PyData.strOk b = true) : PyData.strOk (a ++ b) = true := by
  unfold PyData.strOk at *
  show ((a ++ b : Str).cps).all _ = true
  have e : (a ++ b : Str).cps = a.cps ++ b.cps := rfl
  rw [e, Array.all_append, ha, hb]
  rfl
section
variable {X : Cx} {pins : List (Addr × Obj)} {σ : L2.St} {H : Hp} {s : Shared} {Z : Zone}
/-- a frozen list's object -/
theorem frz_obj (I : Inv X pins σ H s) {l : Addr} {o : Obj} {vs : List V} (h : H l = some (.frz o (.lst vs))) : vs.length ≤ sizeLine ∧ ∃ (its : List Value) (n : Nat), Vals vs its ∧ s.heap.get? l = some { cls := .type "list", data := .seq its.toArray n } := by
  obtain ⟨_, z, its, n, r, e⟩ := I.hok l _ h
  exact ⟨z, its, n, r, e⟩
theorem sqL_frz {K : PySem.W.Frag} {l : Addr} {o : Obj} {vs : List V} (h : H l = some (.frz o (.lst vs))) : SqL K H l vs := .inl (.inr ⟨o, h⟩)
/-- a new list laid, at once frozen -/
theorem lay_frz (I : Inv X pins σ H s) {vs : List V} {its : List Value} {xs : List D} {Q : VK} {t' : Nat} (r : Vals vs its) (hz : vs.length ≤ sizeLine) (q : RepL X.K Z H xs vs) (h : ∀ v H', Ex H H' → Rep X.K Z H' (.lst xs) v → Q v H') :
    EP X pins σ Q (.ref s.heap.objs.size) { s with heap := s.heap.push { cls := .type "list", data := .seq its.toArray }, toks := t' } := by
  refine ep_frz ?_
  have hn : H s.heap.objs.size = none := I.hok.fresh (Nat.le_refl _)
  refine ⟨.ref _, upd H s.heap.objs.size (.lst vs), I.laid (fun b u e => Heap.get?_push_of_some _ e) (Nat.le_refl _) ⟨hz, its, 0, r, Heap.get?_push_size _ rfl⟩, rfl, .inr ⟨_, _, rfl, upd_same, trivial, fun o => ?_⟩⟩
  have e2 : upd (upd H s.heap.objs.size (HO.lst vs)) s.heap.objs.size (.frz o (.lst vs)) = upd H s.heap.objs.size (.frz o (.lst vs)) := upd_upd
  rw [e2]
  exact h _ _ (Ex.new hn) (.lst upd_same hz (RepL.stb (Ex.new hn).stb q))
end
section
variable {γ : Gm} {W : WX} {X : Cx} {Z : Zone}
theorem op_add_lst {pins : List (Addr × Obj)} {s : Shared} {σ : L2.St} {H : Hp} {Q : VK} {l b : Addr} {o o2 : Obj} {vs ws : List V} {xs ys : List D} (I : Inv X pins σ H s) (h1 : H l = some (.frz o (.lst vs))) (h2 : H b = some (.frz o2 (.lst ws)))
    (r1 : RepL X.K Z H xs vs) (r2 : RepL X.K Z H ys ws) (hz : szOk (xs.length + ys.length)) (h : ∀ v H', Ex H H' → Rep X.K Z H' (.lst (xs ++ ys)) v → Q v H') : wpAny (model X.prog X.w) X.A (binaryOp .Add (.ref l) (.ref b)) (EP X pins σ Q) X.xe s := by
  obtain ⟨z1, its, n, q1, e1⟩ := frz_obj I h1
  obtain ⟨z2, its2, n2, q2, e2⟩ := frz_obj I h2
  have hl : vs.length + ws.length ≤ sizeLine := by rw [← r1.length, ← r2.length, sizeLine_eq]; exact hz
  refine PySem.P.add_list e1 e2 ?_ (by rw [List.size_toArray, List.size_toArray, ← q1.length, ← q2.length]; exact hl)
  have ea : its.toArray ++ its2.toArray = (its ++ its2).toArray := by simp
  rw [ea]
  exact lay_frz I (q1.append q2) (by rw [List.length_append]; exact hl) (r1.append r2) h
theorem op_mul_lst {pins : List (Addr × Obj)} {s : Shared} {σ : L2.St} {H : Hp} {Q : VK} {l : Addr} {o : Obj} {vs : List V} {xs : List D} {k : Int} {t : Tok} (I : Inv X pins σ H s) (h1 : H l = some (.frz o (.lst vs)))
    (r1 : RepL X.K Z H xs vs) (k1 : -(2 ^ 63) ≤ k) (k2 : k < 2 ^ 63) (hz : szOk (xs.length * k.toNat)) (h : ∀ v H', Ex H H' → Rep X.K Z H' (.lst (rep xs k)) v → Q v H') : wpAny (model X.prog X.w) X.A (binaryOp .Mult (.ref l) (.int k t)) (EP X pins σ Q) X.xe s := by
  obtain ⟨z1, its, n, q1, e1⟩ := frz_obj I h1
  have hl : its.length * k.toNat ≤ sizeLine := by rw [← q1.length, ← r1.length, sizeLine_eq]; exact hz
  have hcap : ¬ its.toArray.size * k.toNat > (2 ^ 63 - 1) / 8 := by
    have a1 : (sizeLine : Nat) ≤ (2 ^ 63 - 1) / 8 := by decide
    rw [List.size_toArray]
    omega
  have hfit : ¬ (!Builtin.List.listFitsIndex k) = true := by
    rw [fitsIndex_both k1 k2]
    simp
  have hlong : ¬ Builtin.List.listTooLong (its.toArray.size * k.toNat) = true := by
    rw [List.size_toArray, notLongL hl]
    simp
  have hnew : List.foldl (fun x1 x2 => x1 ++ x2) #[] (List.replicate (if its.toArray.isEmpty = true then 0 else k.toNat) its.toArray) = (rep its k).toArray := by
    rw [size_rep]
    cases its with
    | nil => simp [rep]
    | cons a r => rw [if_neg (by simp)]; rfl
  refine wpAny_binaryOp_repeat_ref (T := "list") (U := "int") (by decide) ⟨_, e1, rfl⟩ (fun s' => typeIs_int s' k t) noFill_list_mul F.fills_int_mul F.slot_int_rmul repeat_list F.slot_int_index.lookup
    (call_meets F.slot_int_rmul (typeIs_int s k t) F.entry_int_rmul (F.args_int_rmul_2 _ _) (int___rmul___int_list k t l its.toArray n)
      ⟨e1, rfl, ⟨_, e1, rfl⟩, call_meets F.slot_list_mul ⟨_, e1, rfl⟩ F.entry_list_mul (F.args_list_mul_2 _ _) (AutoListH.list___mul___list_int_3 l its.toArray n k t hfit hcap hlong) ⟨e1, ?_⟩⟩)
  rw [hnew]
  have hv : (rep vs k).length ≤ sizeLine := by
    unfold rep
    rw [PyProof.Rows.lm_len_rep_flat, Nat.mul_comm, q1.length]
    exact hl
  exact lay_frz I (q1.rep k.toNat) hv (r1.rep k.toNat) h
/-- tuples -/
theorem tuple_mul_one (l : Addr) (items : Array Value) (n : Nat) (dd : Option Addr) (sl : Array (Option Value)) (x : Int) (u : Tok) (c0 : (decide (x < -(2 ^ 63)) || decide (x ≥ 2 ^ 63)) = false) (c1 : (items.isEmpty || x == 1) = true) :
    Meets (Builtin.«tuple.__mul__» ⟨[.ref l, .int x u], []⟩) (fun _ R s => s.heap.get? l = some { cls := .type "tuple", dict := dd, data := .seq items n, slots := sl } ∧ R (.ok (.ret (Value.ref l))) s) :=
  .of_wp fun prog w A R s h => by
    obtain ⟨hp, g, d, tk, os⟩ := s
    obtain ⟨hl, h⟩ := h
    have f1 := AutoSeq1.idx_int
    wp_walk using wpAny_loadPart' hl
    repeat (first
      | (refine wpAny_ite_false (decide_eq_false (by rw [c0]; exact Bool.false_ne_true)) ?_; wp_walk using wpAny_loadPart' hl)
      | (refine wpAny_ite_true (decide_eq_true c1) ?_; wp_walk using wpAny_loadPart' hl))
    exact ⟨_, rfl, h⟩
theorem op_mul_tup {pins : List (Addr × Obj)} {s : Shared} {σ : L2.St} {H : Hp} {Q : VK} {l : Addr} {vs : List V} {xs : List D} {k : Int} {t : Tok} (I : Inv X pins σ H s) (h1 : SqT X.K H l vs) (hv : vs.length ≤ sizeLine)
    (r1 : RepL X.K Z H xs vs) (k1 : 1 ≤ k) (k2 : k < 2 ^ 63) (hz : szOk (xs.length * k.toNat)) (h : ∀ v H', Ex H H' → Rep X.K Z H' (.tup (rep xs k)) v → Q v H') : wpAny (model X.prog X.w) X.A (binaryOp .Mult (.ref l) (.int k t)) (EP X pins σ Q) X.xe s := by
  obtain ⟨its, r, ⟨⟨cls, dd, data, sl⟩, ho, hc, n, hd⟩, hs⟩ := I.tuple h1
  simp only at hc hd
  subst hc hd
  have hl : its.length * k.toNat ≤ sizeLine := by rw [← r.length, ← r1.length, sizeLine_eq]; exact hz
  have c0 : (decide (k < -(2 ^ 63)) || decide (k ≥ 2 ^ 63)) = false := by
    rw [decide_eq_false (by omega), decide_eq_false (by omega)] <;> rfl
  have go : ∀ {R : Value → Shared → Prop}, wpAny (model X.prog X.w) X.A (binaryOp .Mult (.ref l) (.int k t)) R X.xe s → wpAny (model X.prog X.w) X.A (binaryOp .Mult (.ref l) (.int k t)) R X.xe s := fun z => z
  cases c1 : (its.toArray.isEmpty || k == 1) with
  | true =>
    have e : rep xs k = xs := by
      unfold rep
      rcases Bool.or_eq_true_iff.mp c1 with z | z
      · have : its = [] := by simpa using z
        have hx : xs = [] := by
          have := r1.length; rw [r.length] at this
          cases xs with
          | nil => rfl
          | cons a b => simp_all
        rw [hx]
        simp
      · have : k = 1 := by simpa using z
        rw [this]
        simp
    refine wpAny_binaryOp_repeat_ref (T := "tuple") (U := "int") (by decide) ⟨_, ho, rfl⟩ (fun s' => typeIs_int s' k t) noFill_tuple_mul F.fills_int_mul F.slot_int_rmul repeat_tuple F.slot_int_index.lookup
      (call_meets F.slot_int_rmul (typeIs_int s k t) F.entry_int_rmul (F.args_int_rmul_2 _ _) (int_rmul_tuple k t l its.toArray n dd sl)
        ⟨ho, rfl, ⟨_, ho, rfl⟩, call_meets F.slot_tuple_mul ⟨_, ho, rfl⟩ F.entry_tuple_mul (F.args_tuple_mul_2 _ _) (tuple_mul_one l its.toArray n dd sl k t c0 c1) ⟨ho, ?_⟩⟩)
    exact ⟨.ref l, H, I, rfl, h _ H (.refl H) (by rw [e]; exact .tup h1 hv r1)⟩
  | false =>
    have hne : its.toArray.isEmpty = false := (Bool.or_eq_false_iff.mp c1).1
    have hm : ((its.toArray.size : Nat) : Int) * k ≤ 16777216 := by
      rw [List.size_toArray]
      have a1 : (((its.length * k.toNat : Nat)) : Int) ≤ 16777216 := by rw [sizeLine_eq] at hl; omega
      rw [Int.natCast_mul, Int.toNat_of_nonneg (by omega)] at a1
      exact a1
    have c2 : (decide (k ≤ 0) || its.toArray.isEmpty) = false := by
      rw [hne, Bool.or_false]
      exact decide_eq_false (by omega)
    have c4 : Builtin.Tuple.tupleTooMany (((its.toArray.size : Nat) : Int) * k) = false := by
      unfold Builtin.Tuple.tupleTooMany
      rw [sizeLine_eq]
      exact decide_eq_false (by omega)
    have fl : (rep its k).length ≤ sizeLine := by
      unfold rep
      rw [PyProof.Rows.lm_len_rep_flat, Nat.mul_comm]
      exact hl
    refine wpAny_binaryOp_repeat_ref (T := "tuple") (U := "int") (by decide) ⟨_, ho, rfl⟩ (fun s' => typeIs_int s' k t) noFill_tuple_mul F.fills_int_mul F.slot_int_rmul repeat_tuple F.slot_int_index.lookup
      (call_meets F.slot_int_rmul (typeIs_int s k t) F.entry_int_rmul (F.args_int_rmul_2 _ _) (int_rmul_tuple k t l its.toArray n dd sl)
        ⟨ho, rfl, ⟨_, ho, rfl⟩, call_meets F.slot_tuple_mul ⟨_, ho, rfl⟩ F.entry_tuple_mul (F.args_tuple_mul_2 _ _) (tuple_mulW l its.toArray n dd sl k t c0 c1 c2 (by omega) c4 (by rw [size_rep, List.size_toArray]; exact fl)) ⟨ho, ?_⟩⟩)
    rw [size_rep]
    have hn : H s.heap.objs.size = none := I.hok.fresh (Nat.le_refl _)
    have fv : (rep vs k).length ≤ sizeLine := by
      unfold rep at fl ⊢
      rw [PyProof.Rows.lm_len_rep_flat] at fl ⊢
      rw [r.length]
      exact fl
    refine ⟨.ref s.heap.objs.size, _, I.laid (t' := s.toks) (o := .tup (rep vs k)) (fun b ob q => Heap.get?_push_of_some _ q) (Nat.le_refl _) ?_, rfl, h _ _ (Ex.new hn) (.tup (.inl (.inl upd_same)) fv (RepL.stb (Ex.new hn).stb (r1.rep k.toNat)))⟩
    exact ⟨fv, _, r.rep k.toNat, IsTup.new _ _⟩
theorem op_add_tup {pins : List (Addr × Obj)} {s : Shared} {σ : L2.St} {H : Hp} {Q : VK} {l b : Addr} {vs ws : List V} {xs ys : List D} (I : Inv X pins σ H s) (h1 : SqT X.K H l vs) (h2 : SqT X.K H b ws) (l1 : vs.length ≤ sizeLine) (l2 : ws.length ≤ sizeLine)
    (r1 : RepL X.K Z H xs vs) (r2 : RepL X.K Z H ys ws) (hz : szOk (xs.length + ys.length)) (h : ∀ v H', Ex H H' → Rep X.K Z H' (.tup (xs ++ ys)) v → Q v H') : wpAny (model X.prog X.w) X.A (binaryOp .Add (.ref l) (.ref b)) (EP X pins σ Q) X.xe s := by
  have hl : vs.length + ws.length ≤ sizeLine := by rw [← r1.length, ← r2.length, sizeLine_eq]; exact hz
  refine op_catA pins s σ H (.ref l) (.ref b) _ _ Q I rfl rfl ⟨l, b, vs, ws, rfl, rfl, h1, h2, hl, fun e => ?_, fun _ e => ?_, fun _ _ p hp => ?_⟩
  · subst e
    have e2 := RepL.length r1
    have : xs = [] := List.eq_nil_of_length_eq_zero e2
    subst this
    exact h _ H (.refl H) (.tup h2 l2 r2)
  · subst e
    have e2 := RepL.length r2
    have : ys = [] := List.eq_nil_of_length_eq_zero e2
    subst this
    exact h _ H (.refl H) (by rw [List.append_nil]; exact .tup h1 l1 r1)
  · exact h _ _ (Ex.new hp) (.tup (.inl (.inl upd_same)) (by rw [List.length_append]; exact hl) (RepL.stb (Ex.new hp).stb (r1.append r2)))
theorem bop_ok (b : Bop) : OpR X (binaryOp (bopOf b)) (rOp X.K Z (bopD b)) := by
  intro pins s σ H x y v u Q I rx ry ⟨dx, dy, Q', E, ok, r1, r2, h, k⟩
  have iI : ∀ {i j : Int}, dx = .int i → dy = .int j → x = .int i ∧ y = .int j := fun e1 e2 => by
    subst e1 e2
    exact ⟨r1.int_inv, r2.int_inv⟩
  have dn : ∀ {d : D} {v : V}, Q' d → Rep X.K Z H d v → Q v H := fun q r => k _ _ H (.refl H) r q
  cases b with
  | add =>
    cases dx with
    | int i => cases dy with
      | int j => obtain ⟨rfl, rfl⟩ := iI rfl rfl; exact op_add pins s σ H _ _ v u Q I rx ry ⟨i, j, rfl, rfl, dn h (.int _)⟩
      | _ => exact h.elim
    | str i => cases dy with
      | str j =>
        obtain ⟨rfl, o1⟩ := r1.str_inv
        obtain ⟨rfl, o2⟩ := r2.str_inv
        exact op_add_str pins s σ H _ _ v u Q I rx ry ⟨i, j, rfl, rfl, by rw [sizeLine_eq]; exact h.1, dn h.2 (.str (strOk_append o1 o2))⟩
      | _ => exact h.elim
    | tup i => cases dy with
      | tup j =>
        obtain ⟨a, vs, rfl, h1, l1, q1⟩ := r1.tup_inv
        obtain ⟨a2, vs2, rfl, h2, l2, q2⟩ := r2.tup_inv
        cases rx; cases ry
        exact op_add_tup I h1 h2 l1 l2 q1 q2 h.1 fun v H' e r => k v _ H' e r h.2
      | _ => exact h.elim
    | lst i => cases dy with
      | lst j =>
        obtain ⟨a, o, vs, rfl, h1, l1, q1⟩ := r1.lst_inv
        obtain ⟨a2, o2, vs2, rfl, h2, l2, q2⟩ := r2.lst_inv
        cases rx; cases ry
        exact op_add_lst I h1 h2 q1 q2 h.1 fun v H' e r => k v _ H' e r h.2
      | _ => exact h.elim
    | _ => exact h.elim
  | sub =>
    cases dx with
    | int i => cases dy with
      | int j => obtain ⟨rfl, rfl⟩ := iI rfl rfl; exact op_sub pins s σ H _ _ v u Q I rx ry ⟨i, j, rfl, rfl, dn h (.int _)⟩
      | _ => exact h.elim
    | _ => exact h.elim
  | mul =>
    cases dx with
    | int i => cases dy with
      | int j => obtain ⟨rfl, rfl⟩ := iI rfl rfl; exact (h.1.elim (fun h1 => op_mulW pins s σ H _ _ v u Q I rx ry ⟨i, j, rfl, rfl, h1, dn h.2 (.int _)⟩) fun h1 => op_mul pins s σ H _ _ v u Q I rx ry ⟨i, j, rfl, rfl, h1, dn h.2 (.int _)⟩)
      | _ => exact h.elim
    | tup i => cases dy with
      | int j =>
        obtain ⟨a, vs, rfl, h1, l1, q1⟩ := r1.tup_inv
        obtain rfl := r2.int_inv
        cases rx
        obtain ⟨t, rfl⟩ := ry
        exact op_mul_tup I h1 l1 q1 h.1.1 h.1.2.1 h.1.2.2 fun v H' e r => k v _ H' e r h.2
      | _ => exact h.elim
    | lst i => cases dy with
      | int j =>
        obtain ⟨a, o, vs, rfl, h1, l1, q1⟩ := r1.lst_inv
        obtain rfl := r2.int_inv
        cases rx
        obtain ⟨t, rfl⟩ := ry
        exact op_mul_lst I h1 q1 h.1.1 h.1.2.1 h.1.2.2 fun v H' e r => k v _ H' e r h.2
      | _ => exact h.elim
    | _ => exact h.elim
  | fdiv =>
    cases dx with
    | int i => cases dy with
      | int j => obtain ⟨rfl, rfl⟩ := iI rfl rfl; exact op_fdivW pins s σ H _ _ v u Q I rx ry ⟨i, j, rfl, rfl, h.1, dn h.2 (.int _)⟩
      | _ => exact h.elim
    | _ => exact h.elim
  | mod =>
    cases dx with
    | int i => cases dy with
      | int j => obtain ⟨rfl, rfl⟩ := iI rfl rfl; exact op_mod pins s σ H _ _ v u Q I rx ry ⟨i, j, rfl, rfl, h.1, dn h.2 (.int _)⟩
      | _ => exact h.elim
    | _ => exact h.elim
  | pow =>
    cases dx with
    | int i => cases dy with
      | int j => obtain ⟨rfl, rfl⟩ := iI rfl rfl; exact op_pow pins s σ H _ _ v u Q I rx ry ⟨i, j, rfl, rfl, h.1, dn h.2 (.int _)⟩
      | _ => exact h.elim
    | _ => exact h.elim
/-! ### comparisons -/
mutual
theorem eqv_py : ∀ (a b : D) (x y : PyData), a.py = some x → b.py = some y → PyData.eqv x y = D.eqv a b
  | a, b, x, y, ha, hb => by
    cases a with
    | non => simp only [D.py, Option.some.injEq] at ha; subst ha; cases b <;> simp only [D.py, Option.some.injEq, Option.map_eq_some_iff, reduceCtorEq] at hb <;> first | (subst hb; simp [D.eqv, PyData.eqv]; done) | (obtain ⟨_, _, rfl⟩ := hb; simp [D.eqv, PyData.eqv])
    | bl p => simp only [D.py, Option.some.injEq] at ha; subst ha; cases b <;> simp only [D.py, Option.some.injEq, Option.map_eq_some_iff, reduceCtorEq] at hb <;> first | (subst hb; simp [D.eqv, PyData.eqv]; done) | (obtain ⟨_, _, rfl⟩ := hb; simp [D.eqv, PyData.eqv])
    | int p => simp only [D.py, Option.some.injEq] at ha; subst ha; cases b <;> simp only [D.py, Option.some.injEq, Option.map_eq_some_iff, reduceCtorEq] at hb <;> first | (subst hb; simp [D.eqv, PyData.eqv, Bool.beq_eq_decide_eq]; done) | (obtain ⟨_, _, rfl⟩ := hb; simp [D.eqv, PyData.eqv])
    | str p => simp only [D.py, Option.some.injEq] at ha; subst ha; cases b <;> simp only [D.py, Option.some.injEq, Option.map_eq_some_iff, reduceCtorEq] at hb <;> first | (subst hb; simp [D.eqv, PyData.eqv, Bool.beq_eq_decide_eq]; done) | (obtain ⟨_, _, rfl⟩ := hb; simp [D.eqv, PyData.eqv])
    | tup xs =>
      simp only [D.py, Option.map_eq_some_iff] at ha
      obtain ⟨as, ha, rfl⟩ := ha
      cases b with
      | tup ys =>
        simp only [D.py, Option.map_eq_some_iff] at hb
        obtain ⟨bs, hb, rfl⟩ := hb
        simp only [D.eqv, PyData.eqv]
        exact eqvL_py xs ys as bs ha hb
      | lst ys => simp only [D.py, Option.map_eq_some_iff] at hb; obtain ⟨bs, hb, rfl⟩ := hb; simp [D.eqv, PyData.eqv]
      | _ => simp only [D.py, Option.some.injEq, reduceCtorEq] at hb <;> subst hb <;> simp [D.eqv, PyData.eqv]
    | lst xs =>
      simp only [D.py, Option.map_eq_some_iff] at ha
      obtain ⟨as, ha, rfl⟩ := ha
      cases b with
      | lst ys =>
        simp only [D.py, Option.map_eq_some_iff] at hb
        obtain ⟨bs, hb, rfl⟩ := hb
        simp only [D.eqv, PyData.eqv]
        exact eqvL_py xs ys as bs ha hb
      | tup ys => simp only [D.py, Option.map_eq_some_iff] at hb; obtain ⟨bs, hb, rfl⟩ := hb; simp [D.eqv, PyData.eqv]
      | _ => simp only [D.py, Option.some.injEq, reduceCtorEq] at hb <;> subst hb <;> simp [D.eqv, PyData.eqv]
    | _ => simp [D.py] at ha
theorem eqvL_py : ∀ (xs ys : List D) (as bs : List PyData), pyL xs = some as → pyL ys = some bs → PyData.eqvAll as bs = eqvL xs ys
  | [], ys, as, bs, ha, hb => by
    simp only [pyL, Option.some.injEq] at ha
    subst ha
    cases ys with
    | nil => simp only [pyL, Option.some.injEq] at hb; subst hb; simp [PyData.eqvAll, eqvL]
    | cons y ys =>
      unfold pyL at hb
      cases e1 : y.py <;> cases e2 : pyL ys <;> simp [e1, e2] at hb
      subst hb
      simp [PyData.eqvAll, eqvL]
  | x :: xs, ys, as, bs, ha, hb => by
    unfold pyL at ha
    cases e1 : x.py with
    | none => simp [e1] at ha
    | some a =>
      cases e2 : pyL xs with
      | none => simp [e1, e2] at ha
      | some as' =>
        simp only [e1, e2, Option.some.injEq] at ha
        subst ha
        cases ys with
        | nil => simp only [pyL, Option.some.injEq] at hb; subst hb; simp [PyData.eqvAll, eqvL]
        | cons y ys =>
          unfold pyL at hb
          cases e3 : y.py with
          | none => simp [e3] at hb
          | some b =>
            cases e4 : pyL ys with
            | none => simp [e3, e4] at hb
            | some bs' =>
              simp only [e3, e4, Option.some.injEq] at hb
              subst hb
              simp only [PyData.eqvAll, eqvL]
              rw [eqv_py x y a b e1 e3, eqvL_py xs ys as' bs' e2 e4]
end
mutual
theorem depth_py : ∀ (a : D) (x : PyData), a.py = some x → x.depth = a.depth
  | a, x, h => by
    cases a with
    | tup xs =>
      simp only [D.py, Option.map_eq_some_iff] at h
      obtain ⟨as, ha, rfl⟩ := h
      simp only [PyData.depth, D.depth, depthL_py xs as ha]
    | lst xs =>
      simp only [D.py, Option.map_eq_some_iff] at h
      obtain ⟨as, ha, rfl⟩ := h
      simp only [PyData.depth, D.depth, depthL_py xs as ha]
    | _ => simp only [D.py, Option.some.injEq, reduceCtorEq] at h <;> subst h <;> simp [PyData.depth, D.depth]
theorem depthL_py : ∀ (xs : List D) (as : List PyData), pyL xs = some as → PyData.depthAll as = depthL xs
  | [], as, h => by simp only [pyL, Option.some.injEq] at h; subst h; simp [PyData.depthAll, depthL]
  | x :: xs, as, h => by
    unfold pyL at h
    cases e1 : x.py with
    | none => simp [e1] at h
    | some a =>
      cases e2 : pyL xs with
      | none => simp [e1, e2] at h
      | some as' =>
        simp only [e1, e2, Option.some.injEq] at h
        subst h
        simp only [PyData.depthAll, depthL]
        rw [depth_py x a e1, depthL_py xs as' e2]
end
section
variable {K : PySem.W.Frag} {H : Hp}
mutual
theorem lay_py : ∀ (a : D) (x : PyData) (v : V), a.py = some x → Rep K Z H a v → PyData.canLay0 x = true
  | a, x, v, h, r => by
    cases a with
    | str s => simp only [D.py, Option.some.injEq] at h; subst h; simp only [PyData.canLay0]; exact r.str_inv.2
    | tup xs =>
      simp only [D.py, Option.map_eq_some_iff] at h
      obtain ⟨as, ha, rfl⟩ := h
      obtain ⟨_, vs, _, _, _, q⟩ := r.tup_inv
      simp only [PyData.canLay0]
      exact layL_py xs as vs ha q
    | lst xs =>
      simp only [D.py, Option.map_eq_some_iff] at h
      obtain ⟨as, ha, rfl⟩ := h
      obtain ⟨_, _, vs, _, _, _, q⟩ := r.lst_inv
      simp only [PyData.canLay0]
      exact layL_py xs as vs ha q
    | _ => simp only [D.py, Option.some.injEq, reduceCtorEq] at h <;> subst h <;> simp [PyData.canLay0]
theorem layL_py : ∀ (xs : List D) (as : List PyData) (vs : List V), pyL xs = some as → RepL K Z H xs vs → PyData.canLayAll0 as = true
  | [], as, _, h, _ => by simp only [pyL, Option.some.injEq] at h; subst h; simp [PyData.canLayAll0]
  | x :: xs, as, vs, h, r => by
    cases r with
    | cons r rs =>
      unfold pyL at h
      cases e1 : x.py with
      | none => simp [e1] at h
      | some a =>
        cases e2 : pyL xs with
        | none => simp [e1, e2] at h
        | some as' =>
          simp only [e1, e2, Option.some.injEq] at h
          subst h
          simp only [PyData.canLayAll0]
          rw [lay_py x a _ e1 r, layL_py xs as' _ e2 rs]
          rfl
end
/-- what == asks of a datum -/
theorem eqOk_py {d : D} {v : V} (h : eqOk d) (r : Rep K Z H d v) : ∃ x, d.py = some x ∧ Dp K H v x ∧ SeqAt.shaped x = true := by
  obtain ⟨x, hx⟩ := Option.isSome_iff_exists.mp h.1
  refine ⟨x, hx, Rep.dp d v x hx r, ?_⟩
  unfold SeqAt.shaped
  rw [lay_py d x v hx r, depth_py d x hx, decide_eq_true h.2]
  rfl
theorem any_py : ∀ (xs : List D) (ds : List PyData) (x : D) (d : PyData), pyL xs = some ds → x.py = some d → (ds.any fun z => PyData.eqv z d) = xs.any fun y => D.eqv y x
  | [], ds, x, d, h, _ => by simp only [pyL, Option.some.injEq] at h; subst h; rfl
  | y :: ys, ds, x, d, h, hx => by
    unfold pyL at h
    cases e1 : y.py with
    | none => simp [e1] at h
    | some a =>
      cases e2 : pyL ys with
      | none => simp [e1, e2] at h
      | some as' =>
        simp only [e1, e2, Option.some.injEq] at h
        subst h
        rw [List.any_cons, List.any_cons, eqv_py y x a d e1 hx, any_py ys as' x d e2 hx]
end
section
variable {pins : List (Addr × Obj)} {s : Shared} {σ : L2.St} {H : Hp} {Q : VK}
/-- x in y, x not in y, by a test -/
theorem in_any {neg : Bool} {dx dy : D} {x y : V} {v u : Value} {Q' : Bool → Prop} {E : D → Prop} (hu : X.A.units + 65 < cLine) (I : Inv X pins σ H s) (rx : RelV x v) (ry : RelV y u) (r1 : Rep X.K Z H dx x) (r2 : Rep X.K Z H dy y) (h : inD dx dy Q' E)
    (hq : ∀ b, Q' b → Q (.bl (if neg then !b else b)) H) : wpAny (model X.prog X.w) X.A (compareOp (if neg then .NotIn else .In) v u) (EP X pins σ Q) X.xe s := by
  have lists : ∀ (xs : List D) (c : PyData) (ds : List PyData), (dy = .tup xs ∧ c = .tuple ds) ∨ (dy = .lst xs ∧ c = .list ds) → dy.py = some c → pyL xs = some ds → eqOk dx → eqOk dy → Q' (xs.any fun y => D.eqv y dx) →
      wpAny (model X.prog X.w) X.A (compareOp (if neg then .NotIn else .In) v u) (EP X pins σ Q) X.xe s := by
    intro xs c ds hc hp hl k1 k2 q
    obtain ⟨d, hd, p1, s1⟩ := eqOk_py k1 r1
    obtain ⟨c', hc', p2, s2⟩ := eqOk_py k2 r2
    rw [hp] at hc'
    cases hc'
    obtain ⟨as, w1⟩ := Dp.reads I d x v p1 rx
    obtain ⟨bs, w2⟩ := Dp.reads I c y u p2 ry
    have e := any_py xs ds dx d hl hd
    have hz : X.A.units + 1 + min (PyData.depthAll ds) d.depth < cLine := room_in_shaped s1 hu
    rcases hc with ⟨_, rfl⟩ | ⟨_, rfl⟩
    · cases neg with
      | true => exact SeqAt.notIn_tuple_reads w2 w1 (by have := SeqAt.canLay_of_shaped s2; simpa [PyData.canLay0] using this) (SeqAt.canLay_of_shaped s1) hz ⟨.bl _, H, I, rfl, by rw [e]; exact hq _ q⟩
      | false => exact SeqAt.in_tuple_reads w2 w1 (by have := SeqAt.canLay_of_shaped s2; simpa [PyData.canLay0] using this) (SeqAt.canLay_of_shaped s1) hz ⟨.bl _, H, I, rfl, by rw [e]; exact hq _ q⟩
    · cases neg with
      | true => exact SeqAt.notIn_list_reads w2 w1 (SeqAt.canLay_of_shaped s2) (SeqAt.canLay_of_shaped s1) hz ⟨.bl _, H, I, rfl, by rw [e]; exact hq _ q⟩
      | false => exact SeqAt.in_list_reads w2 w1 (SeqAt.canLay_of_shaped s2) (SeqAt.canLay_of_shaped s1) hz ⟨.bl _, H, I, rfl, by rw [e]; exact hq _ q⟩
  cases dy with
  | tup xs =>
    have h : (eqOk dx ∧ eqOk (.tup xs)) ∧ Q' (xs.any fun y => D.eqv y dx) := h
    obtain ⟨c, hc⟩ := Option.isSome_iff_exists.mp h.1.2.1
    have hc' := hc
    simp only [D.py, Option.map_eq_some_iff] at hc'
    obtain ⟨ds, hl, rfl⟩ := hc'
    exact lists xs _ ds (.inl ⟨rfl, rfl⟩) hc hl h.1.1 h.1.2 h.2
  | lst xs =>
    have h : (eqOk dx ∧ eqOk (.lst xs)) ∧ Q' (xs.any fun y => D.eqv y dx) := h
    obtain ⟨c, hc⟩ := Option.isSome_iff_exists.mp h.1.2.1
    have hc' := hc
    simp only [D.py, Option.map_eq_some_iff] at hc'
    obtain ⟨ds, hl, rfl⟩ := hc'
    exact lists xs _ ds (.inr ⟨rfl, rfl⟩) hc hl h.1.1 h.1.2 h.2
  | rng lo hi =>
    cases dx with
    | int i =>
      obtain ⟨a, rfl, ha, _⟩ := r2.rng_inv
      obtain rfl := r1.int_inv
      obtain ⟨k, rfl⟩ := rx
      obtain rfl : u = Value.ref a := ry
      have hb : Q' (decide (lo ≤ i ∧ i < hi)) := h
      cases neg with
      | false => exact op_in_rng pins s σ H (.int i) (.ref a) _ _ Q I (show RelV (.int i) (.int i k) from ⟨k, rfl⟩) rfl ⟨i, a, lo, hi, rfl, rfl, ha, hq _ hb⟩
      | true =>
        obtain ⟨t1, t2, t3, ho⟩ := I.hok a _ ha
        show wpAny _ _ (do return Value.bool (!(← contains (Value.ref a) (Value.int i k)))) _ _ s
        refine wpAny_bind (wpAny_contains_slot (T := "range") ⟨_, ho, rfl⟩ F.slot_range_contains (call_meets F.slot_range_contains ⟨_, ho, rfl⟩ F.entry_range_contains (F.args_range_contains_2 _ _) (q_contains a lo hi i t1 t2 t3 k)
          ⟨ho, wpAny_truthy_bool (wpAny_pure ⟨.bl _, H, I, rfl, ?_⟩)⟩))
        rw [place1]
        exact hq _ hb
    | _ => exact h.elim
  | str z =>
    cases dx with
    | str c =>
      have h : (bnd0 (optM0 (sgn c)) fun c => ret0 (decide (c ∈ z.cps.toList))) Q' E := h
      cases e : sgn c with
      | none => rw [e] at h; exact h.elim
      | some d =>
        rw [e] at h
        have ec := sgn_some e
        subst ec
        obtain ⟨rfl, _⟩ := r1.str_inv
        obtain ⟨rfl, _⟩ := r2.str_inv
        cases neg with
        | false => exact op_in_sign pins s σ H _ _ _ _ Q I rx ry ⟨d, z, rfl, rfl, hq _ h⟩
        | true => exact op_notIn_sign pins s σ H _ _ _ _ Q I rx ry ⟨d, z, rfl, rfl, hq _ h⟩
    | _ => exact h.elim
  | _ => exact h.elim
end
theorem intsD_rep {K : PySem.W.Frag} {H : Hp} : ∀ {xs : List D} {ns : List Int} {vs : List V}, intsD xs = some ns → RepL K Z H xs vs → vs = ns.map V.int
  | [], ns, vs, h, r => by
    cases r
    simp only [intsD, Option.some.injEq] at h
    subst h
    rfl
  | x :: xs, ns, vs, h, r => by
    cases r with
    | cons r rs =>
      cases x with
      | int i =>
        simp only [intsD, Option.map_eq_some_iff] at h
        obtain ⟨ms, hm, rfl⟩ := h
        rw [r.int_inv, intsD_rep hm rs]
        rfl
      | _ => simp [intsD] at h
theorem cop_ok (hu : X.A.units + 65 < cLine) (b : Cop) : OpR X (compareOp (copOf b)) (rOp X.K Z (copD b)) := by
  intro pins s σ H x y v u Q I rx ry ⟨dx, dy, Q', E, ok, r1, r2, h, k⟩
  have dn : ∀ {b : Bool}, Q' (.bl b) → Q (.bl b) H := fun q => k _ _ H (.refl H) (.bl _) q
  have iI : ∀ {i j : Int}, dx = .int i → dy = .int j → x = .int i ∧ y = .int j := fun e1 e2 => by
    subst e1 e2
    exact ⟨r1.int_inv, r2.int_inv⟩
  cases b with
  | eq =>
    obtain ⟨⟨h1, h2⟩, q⟩ := h
    obtain ⟨a, ha, p1, s1⟩ := eqOk_py h1 r1
    obtain ⟨b, hb, p2, s2⟩ := eqOk_py h2 r2
    exact op_eqD (by omega) pins s σ H x y v u Q I rx ry ⟨a, b, p1, p2, s1, s2, by rw [eqv_py dx dy a b ha hb]; exact dn q⟩
  | ne =>
    obtain ⟨⟨h1, h2⟩, q⟩ := h
    obtain ⟨a, ha, p1, s1⟩ := eqOk_py h1 r1
    obtain ⟨b, hb, p2, s2⟩ := eqOk_py h2 r2
    exact op_neD (by omega) pins s σ H x y v u Q I rx ry ⟨a, b, p1, p2, s1, s2, by rw [eqv_py dx dy a b ha hb]; exact dn q⟩
  | lt =>
    have h : (bnd0 (optM0 (D.lt dx dy)) fun b => ret0 (.bl b)) Q' E := h
    cases dx with
    | int i => cases dy with
      | int j => obtain ⟨rfl, rfl⟩ := iI rfl rfl; exact op_lt pins s σ H _ _ v u Q I rx ry ⟨i, j, rfl, rfl, dn h⟩
      | _ => exact h.elim
    | str i => cases dy with
      | str j =>
        obtain ⟨rfl, _⟩ := r1.str_inv
        obtain ⟨rfl, _⟩ := r2.str_inv
        exact op_lt_str pins s σ H _ _ v u Q I rx ry ⟨i, j, rfl, rfl, dn h⟩
      | _ => exact h.elim
    | tup i => cases dy with
      | tup j =>
        obtain ⟨a, vs, rfl, h1, _, q1⟩ := r1.tup_inv
        obtain ⟨a2, vs2, rfl, h2, _, q2⟩ := r2.tup_inv
        have h : (bnd0 (optM0 (match intsD i, intsD j with | some ns, some ms => some (HT.lexLt ns ms) | _, _ => none)) fun b => ret0 (.bl b)) Q' E := h
        cases e1 : intsD i with
        | none => rw [e1] at h; exact h.elim
        | some ns => cases e2 : intsD j with
          | none => rw [e1, e2] at h; exact h.elim
          | some ms =>
            rw [e1, e2] at h
            rw [intsD_rep e1 q1] at h1
            rw [intsD_rep e2 q2] at h2
            exact op_ltT (by omega) pins s σ H _ _ v u Q I rx ry ⟨a, a2, ns, ms, rfl, rfl, h1, h2, dn h⟩
      | _ => exact h.elim
    | _ => exact h.elim
  | le =>
    cases dx with
    | int i => cases dy with
      | int j => obtain ⟨rfl, rfl⟩ := iI rfl rfl; exact op_le pins s σ H _ _ v u Q I rx ry ⟨i, j, rfl, rfl, dn h⟩
      | _ => exact h.elim
    | _ => exact h.elim
  | gt =>
    cases dx with
    | int i => cases dy with
      | int j => obtain ⟨rfl, rfl⟩ := iI rfl rfl; exact op_gt pins s σ H _ _ v u Q I rx ry ⟨i, j, rfl, rfl, dn h⟩
      | _ => exact h.elim
    | tup i => cases dy with
      | tup j =>
        obtain ⟨a, vs, rfl, h1, _, q1⟩ := r1.tup_inv
        obtain ⟨a2, vs2, rfl, h2, _, q2⟩ := r2.tup_inv
        have h : (match intsD i, intsD j with | some ns, some ms => ret0 (.bl (HT.lexLt ms ns)) | _, _ => fail0 : M0 D) Q' E := h
        cases e1 : intsD i with
        | none => rw [e1] at h; exact h.elim
        | some ns => cases e2 : intsD j with
          | none => rw [e1, e2] at h; exact h.elim
          | some ms =>
            rw [e1, e2] at h
            rw [intsD_rep e1 q1] at h1
            rw [intsD_rep e2 q2] at h2
            exact op_gtT (by omega) pins s σ H _ _ v u Q I rx ry ⟨a, a2, ns, ms, rfl, rfl, h1, h2, dn h⟩
      | _ => exact h.elim
    | _ => exact h.elim
  | ge =>
    cases dx with
    | int i => cases dy with
      | int j => obtain ⟨rfl, rfl⟩ := iI rfl rfl; exact op_ge pins s σ H _ _ v u Q I rx ry ⟨i, j, rfl, rfl, dn h⟩
      | _ => exact h.elim
    | _ => exact h.elim
  | isin => exact in_any (neg := false) hu I rx ry r1 r2 h fun b q => dn q
  | notin => exact in_any (neg := true) hu I rx ry r1 r2 h fun b q => dn q
  | isn =>
    cases dy with
    | non => exact op_isN1 pins s σ H x y v u Q I rx ry ⟨r2.non_inv, by rw [r1.isNone_iff]; exact dn h⟩
    | _ => cases dx <;> exact h.elim
  | notn =>
    cases dy with
    | non => exact op_notN1 pins s σ H x y v u Q I rx ry ⟨r2.non_inv, by rw [r1.isNone_iff]; exact dn h⟩
    | _ => cases dx <;> exact h.elim
end
end PL

/-! PLh: built-ins, methods, subscripts, slices hold. -/
namespace PL
open PySem
open PySem.Spec
open PyProof.Rows
open L2
theorem fz_new {K : PySem.W.Frag} {Z : Zone} {H : Hp} {Q : VK} {p : Addr} {vs : List V} {xs : List D} (h : ∀ v H', Ex H H' → Rep K Z H' (.lst xs) v → Q v H') (r : RepL K Z H xs vs) (l : vs.length ≤ sizeLine) (hp : H p = none) : Fz Q (.ref p) (upd H p (.lst vs)) :=
  .inr ⟨p, _, rfl, upd_same, trivial, fun o => by
    rw [upd_upd]
    exact h _ _ (Ex.new hp) (.lst upd_same l (RepL.stb (Ex.new hp).stb r))⟩
theorem tup_new {K : PySem.W.Frag} {Z : Zone} {H : Hp} {Q : VK} {p : Addr} {vs : List V} {xs : List D} (h : ∀ v H', Ex H H' → Rep K Z H' (.tup xs) v → Q v H') (r : RepL K Z H xs vs) (l : vs.length ≤ sizeLine) (hp : H p = none) : Q (.ref p) (upd H p (.tup vs)) :=
  h _ _ (Ex.new hp) (.tup (.inl (.inl upd_same)) l (RepL.stb (Ex.new hp).stb r))
section
variable {X : Cx} {Z : Zone}
theorem repl_one {K : PySem.W.Frag} {H : Hp} {d : D} {xs : List V} (r : RepL K Z H [d] xs) : ∃ v, xs = [v] ∧ Rep K Z H d v := by
  cases r with
  | cons r rs => cases rs; exact ⟨_, rfl, r⟩
theorem repl_two {K : PySem.W.Frag} {H : Hp} {d e : D} {xs : List V} (r : RepL K Z H [d, e] xs) : ∃ v w, xs = [v, w] ∧ Rep K Z H d v ∧ Rep K Z H e w := by
  cases r with
  | cons r rs => cases rs with
    | cons r2 rs => cases rs; exact ⟨_, _, rfl, r, r2⟩
/-- builtins with one argument -/
theorem fn_len : CallR X (.builtin "len") (rFn X.K Z (bfD .len)) := by
  intro pins s σ H xs us Q I r ⟨ds, Q', E, ok, rl, h, k⟩
  have dn : ∀ {d : D} {v : V}, Q' d → Rep X.K Z H d v → Q v H := fun q r => k _ _ H (.refl H) r q
  match ds, rl, h with
  | [.str z], rl, h =>
    obtain ⟨v, rfl, r1⟩ := repl_one rl
    obtain ⟨rfl, _⟩ := r1.str_inv
    exact call_len_str pins s σ H _ us Q I r ⟨z, rfl, by rw [sizeLine_eq]; exact h.1, dn h.2 (.int _)⟩
  | [.tup ys], rl, h =>
    obtain ⟨v, rfl, r1⟩ := repl_one rl
    obtain ⟨a, vs, rfl, h1, _, q1⟩ := r1.tup_inv
    exact call_len_seq pins s σ H _ us Q I r ⟨a, vs, rfl, .inr h1, dn (by rw [← q1.length]; exact h) (.int _)⟩
  | [.lst ys], rl, h =>
    obtain ⟨v, rfl, r1⟩ := repl_one rl
    obtain ⟨a, o, vs, rfl, h1, _, q1⟩ := r1.lst_inv
    exact call_len_seq pins s σ H _ us Q I r ⟨a, vs, rfl, .inl (sqL_frz h1), dn (by rw [← q1.length]; exact h) (.int _)⟩
theorem fn_tuple : CallR X (.type "tuple") (rFn X.K Z (bfD .tuple)) := by
  intro pins s σ H xs us Q I r ⟨ds, Q', E, ok, rl, h, k⟩
  match ds, rl, h with
  | [.tup ys], rl, h =>
    obtain ⟨v, rfl, r1⟩ := repl_one rl
    obtain ⟨a, vs, rfl, h1, l1, q1⟩ := r1.tup_inv
    exact call_tuple_of pins s σ H _ us Q I r ⟨a, vs, rfl, .inr ⟨h1, k _ _ H (.refl H) (.tup h1 l1 q1) h⟩⟩
  | [.lst ys], rl, h =>
    obtain ⟨v, rfl, r1⟩ := repl_one rl
    obtain ⟨a, o, vs, rfl, h1, l1, q1⟩ := r1.lst_inv
    exact call_tuple_of pins s σ H _ us Q I r ⟨a, vs, rfl, .inl ⟨sqL_frz h1, fun p hp => tup_new (fun v H' e r => k v _ H' e r h) q1 l1 hp⟩⟩
theorem fn_list : CallR X (.type "list") (rFn X.K Z (bfD .list)) := by
  intro pins s σ H xs us Q I r ⟨ds, Q', E, ok, rl, h, k⟩
  match ds, rl, h with
  | [.tup ys], rl, h =>
    obtain ⟨v, rfl, r1⟩ := repl_one rl
    obtain ⟨a, vs, rfl, h1, l1, q1⟩ := r1.tup_inv
    exact thn (call_list_of pins s σ H _ us (Fz Q) I r ⟨a, vs, rfl, .inr h1, fun p hp => fz_new (fun v H' e r => k v _ H' e r h) q1 l1 hp⟩) fun _ _ q => ep_frz q
  | [.lst ys], rl, h =>
    obtain ⟨v, rfl, r1⟩ := repl_one rl
    obtain ⟨a, o, vs, rfl, h1, l1, q1⟩ := r1.lst_inv
    exact thn (call_list_of pins s σ H _ us (Fz Q) I r ⟨a, vs, rfl, .inl (sqL_frz h1), fun p hp => fz_new (fun v H' e r => k v _ H' e r h) q1 l1 hp⟩) fun _ _ q => ep_frz q
theorem fn_int : CallR X (.type "int") (rFn X.K Z (bfD .int)) := by
  intro pins s σ H xs us Q I r ⟨ds, Q', E, ok, rl, h, k⟩
  match ds, rl, h with
  | [.int i], rl, h =>
    obtain ⟨v, rfl, r1⟩ := repl_one rl
    obtain rfl := r1.int_inv
    exact call_int1 pins s σ H _ us Q I r (.inl ⟨i, rfl, k _ _ H (.refl H) (.int _) h⟩)
  | [.bl b], rl, h =>
    obtain ⟨v, rfl, r1⟩ := repl_one rl
    obtain rfl := r1.bl_inv
    exact call_int1 pins s σ H _ us Q I r (.inr ⟨b, rfl, k _ _ H (.refl H) (.int _) h⟩)
theorem ints_of {K : PySem.W.Frag} {H : Hp} {xs : List D} {v : V} {Q' E : D → Prop} {f : List Int → M0 D} (r1 : Rep K Z H (.lst xs) v) (h : (bnd0 (optM0 (intsD xs)) f) Q' E) : ∃ a ns, v = .ref a ∧ SqL K H a (ns.map V.int) ∧ f ns Q' E := by
  obtain ⟨a, o, vs, rfl, h1, l1, q1⟩ := r1.lst_inv
  cases e : intsD xs with
  | none =>
    rw [e] at h
    exact h.elim
  | some ns =>
    rw [e] at h
    rw [intsD_rep e q1] at h1
    exact ⟨a, ns, rfl, sqL_frz h1, h⟩
theorem fn_sum (hc : X.calm = true) : CallR X (.builtin "sum") (rFn X.K Z (bfD .sum)) := by
  intro pins s σ H xs us Q I r ⟨ds, Q', E, ok, rl, h, k⟩
  match ds, rl, h with
  | [.lst ys], rl, h =>
    obtain ⟨v, rfl, r1⟩ := repl_one rl
    obtain ⟨a, ns, rfl, h1, h2⟩ := ints_of r1 h
    exact cr_sum hc pins s σ H _ us Q I r ⟨a, ns, rfl, h1, k _ _ H (.refl H) (.int _) h2⟩
theorem fn_abs : CallR X (.builtin "abs") (rFn X.K Z (bfD .abs)) := by
  intro pins s σ H xs us Q I r ⟨ds, Q', E, ok, rl, h, k⟩
  match ds, rl, h with
  | [.int i], rl, h =>
    obtain ⟨v, rfl, r1⟩ := repl_one rl
    obtain rfl := r1.int_inv
    exact call_abs pins s σ H _ us Q I r ⟨i, rfl, k _ _ H (.refl H) (.int _) h⟩
theorem fn_min (hc : X.calm = true) : CallR X (.builtin "min") (rFn X.K Z (bfD .min)) := by
  intro pins s σ H xs us Q I r ⟨ds, Q', E, ok, rl, h, k⟩
  match ds, rl, h with
  | [.int i, .int j], rl, h =>
    obtain ⟨v, w, rfl, r1, r2⟩ := repl_two rl
    obtain rfl := r1.int_inv
    obtain rfl := r2.int_inv
    exact call_min2 hc pins s σ H _ us Q I r ⟨i, j, rfl, k _ _ H (.refl H) (.int _) h⟩
  | [.lst ys], rl, h =>
    obtain ⟨v, rfl, r1⟩ := repl_one rl
    obtain ⟨a, ns, rfl, h1, h2, h3⟩ := ints_of r1 h
    exact cr_min hc pins s σ H _ us Q I r ⟨a, ns, rfl, h1, h2, fun m m1 m2 => k _ _ H (.refl H) (.int _) (h3 m m1 m2)⟩
theorem fn_max (hc : X.calm = true) : CallR X (.builtin "max") (rFn X.K Z (bfD .max)) := by
  intro pins s σ H xs us Q I r ⟨ds, Q', E, ok, rl, h, k⟩
  match ds, rl, h with
  | [.int i, .int j], rl, h =>
    obtain ⟨v, w, rfl, r1, r2⟩ := repl_two rl
    obtain rfl := r1.int_inv
    obtain rfl := r2.int_inv
    exact call_max2 hc pins s σ H _ us Q I r ⟨i, j, rfl, k _ _ H (.refl H) (.int _) h⟩
  | [.lst ys], rl, h =>
    obtain ⟨v, rfl, r1⟩ := repl_one rl
    obtain ⟨a, ns, rfl, h1, h2, h3⟩ := ints_of r1 h
    exact cr_max hc pins s σ H _ us Q I r ⟨a, ns, rfl, h1, h2, fun m m1 m2 => k _ _ H (.refl H) (.int _) (h3 m m1 m2)⟩
theorem rng_new {K : PySem.W.Frag} {H : Hp} {Q : VK} {p : Addr} {i j : Int} (h : ∀ v H', Ex H H' → Rep K Z H' (.rng i j) v → Q v H') (b : (-(2 ^ 62) ≤ i ∧ i < 2 ^ 62) ∧ (-(2 ^ 62) ≤ j ∧ j < 2 ^ 62)) (hp : H p = none) : Q (.ref p) (upd H p (.rng i j)) :=
  h _ _ (Ex.new hp) (.rng upd_same b)
theorem fn_range2 : CallR X (.type "range") (rFn X.K Z (bfD .range2)) := by
  intro pins s σ H xs us Q I r ⟨ds, Q', E, ok, rl, h, k⟩
  match ds, rl, h with
  | [.int i, .int j], rl, h =>
    obtain ⟨v, w, rfl, r1, r2⟩ := repl_two rl
    obtain rfl := r1.int_inv
    obtain rfl := r2.int_inv
    exact cr_range2 pins s σ H _ us Q I r ⟨i, j, rfl, fun p hp => rng_new (fun v H' e r => k v _ H' e r h.2) h.1 hp⟩
theorem fn_range1 : CallR X (.type "range") (rFn X.K Z (bfD .range1)) := by
  intro pins s σ H xs us Q I r ⟨ds, Q', E, ok, rl, h, k⟩
  match ds, rl, h with
  | [.int j], rl, h =>
    obtain ⟨v, rfl, r1⟩ := repl_one rl
    obtain rfl := r1.int_inv
    obtain ⟨u, rfl, ru⟩ := vals1 r
    obtain ⟨t, rfl⟩ := ru
    refine call_range_1 ⟨.ref s.heap.objs.size, upd H s.heap.objs.size (.rng 0 j), I.laid (fun b o e => Heap.get?_push_of_some _ e) (Nat.le_refl _) ?_, rfl, rng_new (fun v H' e r => k v _ H' e r h.2) ⟨⟨by omega, by omega⟩, h.1⟩ (I.hok.fresh (Nat.le_refl _))⟩
    first
      | exact ⟨_, t, _, Heap.get?_push_size _ rfl⟩
      | exact ⟨t, _, _, Heap.get?_push_size _ rfl⟩
end
end PL

/-! PLi: repr, isinstance, subscripts, slices, methods. -/
namespace PL
open PySem
open PySem.Spec
open PyProof.Rows
open L2
section
variable {X : Cx} {Z : Zone}
theorem noDict_py {K : PySem.W.Frag} {H : Hp} {d : D} {x : PyData} {v : V} (h : d.py = some x) (r : Rep K Z H d v) : x.hasDict = false := PyData.hasDict_of_canLay x (lay_py d x v h r)
theorem fn_repr (hg : X.A.guards = some []) (hu : X.A.units + 200 < cLine) : CallR X (.builtin "repr") (rFn X.K Z (bfD .repr)) := by
  intro pins s σ H xs us Q I r ⟨ds, Q', E, ok, rl, h, k⟩
  match ds, rl, h with
  | [d], rl, h =>
    obtain ⟨v, rfl, r1⟩ := repl_one rl
    obtain ⟨u, rfl, ru⟩ := vals1 r
    have h : shownD d Q' E := h
    unfold shownD at h
    cases e : d.py with
    | none => rw [e] at h; exact h.elim
    | some x =>
      rw [e] at h
      obtain ⟨⟨h1, h2, h3, h4⟩, q⟩ := h
      have hsz : x.shown.length ≤ sizeLine := by rw [sizeLine_eq]; exact h3
      have fin : ∀ (h' : Heap) (t' : Nat) (tk : Tok), (∀ b o, s.heap.get? b = some o → h'.get? b = some o) → EP X pins σ Q (.str x.shown tk) { s with heap := h', toks := t' } := fun h' t' tk kp =>
        ⟨.str x.shown, H, I.kept kp, ⟨_, rfl⟩, k _ _ H (.refl H) (.str h4) q⟩
      cases u with
      | ref a =>
        obtain ⟨as, rd⟩ := Dp.reads I x v _ (Rep.dp d v x e r1) ru
        exact repr_of_reads' rd h1 (PyData.noDict_hsm (noDict_py e r1)) hg (by omega) (fun _ _ e => e) (fun h' u tk kp => fin h' tk u kp) hsz
      | none =>
        obtain ⟨as, rd⟩ := Dp.reads I x v _ (Rep.dp d v x e r1) ru
        cases rd
        exact PySem.P.repr_of_none (fin s.heap _ _ fun _ _ e => e)
      | bool b =>
        obtain ⟨as, rd⟩ := Dp.reads I x v _ (Rep.dp d v x e r1) ru
        cases rd
        exact PySem.P.repr_of_bool (fin s.heap _ _ fun _ _ e => e)
      | int i t =>
        obtain ⟨as, rd⟩ := Dp.reads I x v _ (Rep.dp d v x e r1) ru
        cases rd
        exact PySem.P.repr_of_int (by simpa [PyData.showable] using h1) (fin s.heap _ _ fun _ _ e => e)
      | str z t =>
        obtain ⟨as, rd⟩ := Dp.reads I x v _ (Rep.dp d v x e r1) ru
        cases rd
        exact PySem.P.repr_of_str (fin s.heap _ _ fun _ _ e => e) (by simpa only [PyData.shown] using hsz)
      | _ =>
        obtain ⟨as, rd⟩ := Dp.reads I x v _ (Rep.dp d v x e r1) ru
        cases rd
/-- the built-in type of a datum -/
def tyName : D → Option String
  | .non => some "NoneType"
  | .bl _ => some "bool"
  | .int _ => some "int"
  | .str _ => some "str"
  | .tup _ => some "tuple"
  | .lst _ => some "list"
  | _ => none
def tyOf : Ty → String
  | .int => "int" | .bool => "bool" | .str => "str" | .tuple => "tuple" | .list => "list"
theorem tyX_of {K : PySem.W.Frag} {H : Hp} {d : D} {v : V} {n : String} (h : tyName d = some n) (r : Rep K Z H d v) : TyX K H v (.type n) := by
  cases d with
  | non => cases h; rw [r.non_inv]; exact .base .non
  | bl b => cases h; rw [r.bl_inv]; exact .base (.bl b)
  | int b => cases h; rw [r.int_inv]; exact .base (.int b)
  | str b => cases h; rw [r.str_inv.1]; exact .base (.str b)
  | tup b =>
    cases h
    obtain ⟨a, vs, rfl, (h1 | ⟨o, h1⟩) | ⟨o, its, n, h1, h2, _⟩, _, _⟩ := r.tup_inv
    · exact .base (.tup h1)
    · exact .fTuple h1
    · exact .kTuple h1 h2
  | lst b =>
    cases h
    obtain ⟨a, o, vs, rfl, h1, _, _⟩ := r.lst_inv
    exact .base (.frz h1)
  | _ => simp [tyName] at h
theorem isPy_ty {d : D} (h : isPy d = true) : ∃ n, tyName d = some n := by
  cases d <;> first | exact ⟨_, rfl⟩ | (simp [isPy, D.py] at h)
theorem kit_isi (K : PySem.W.Frag) (t : Ty) {d : D} {n : String} (h : tyName d = some n) : PySem.W.kitOne K (.type n) (.type (tyOf t)) = some (isiD t d) := by
  cases d with
  | non => cases h; cases t <;> first | exact kit_ty (r := true) (by decide +kernel) | exact kit_ty (r := false) (by decide +kernel)
  | bl b => cases h; cases t <;> first | exact kit_ty (r := true) (by decide +kernel) | exact kit_ty (r := false) (by decide +kernel)
  | int b => cases h; cases t <;> first | exact kit_ty (r := true) (by decide +kernel) | exact kit_ty (r := false) (by decide +kernel)
  | str b => cases h; cases t <;> first | exact kit_ty (r := true) (by decide +kernel) | exact kit_ty (r := false) (by decide +kernel)
  | tup b => cases h; cases t <;> first | exact kit_ty (r := true) (by decide +kernel) | exact kit_ty (r := false) (by decide +kernel)
  | lst b => cases h; cases t <;> first | exact kit_ty (r := true) (by decide +kernel) | exact kit_ty (r := false) (by decide +kernel)
  | _ => simp [tyName] at h
end
section
variable {Z : Zone} {γ : Gm} {e a b c : Expr} {pos p2 : Pos} {t ta tb tc : Nv → M D}
/-- isinstance(e, T) -/
theorem de_isi {x y : Str} {p p' : Pos} (T : Ty) (ha : DE Z γ a ta) (hp : plain a = true) (hx : x = "isinstance") (hg : γ.sc.names.lookup x = some .globalImplicit) (hm : γ.g.mg x = none) (gy : γ.sc.names.lookup y = some .globalImplicit) (my : γ.g.mg y = none) (hy : bootBuiltins y = some (.type (tyOf T)))
    (hn : y ≠ "__name__") (hd : (y == ("__debug__" : Str)) = false) : DE Z γ (.Call (.Name x p) [a, .Name y p'] [] pos) (fun ρ => bnd (ta ρ) fun d => lift (bfD (.isi T) [d])) := fun W => by
  subst hx
  obtain ⟨te, pe, rd⟩ := ha W
  refine ⟨tCB (rIsi γ.g.K) (tCons te (tCons (tC (.ty (tyOf T))) tNil)), fun X F => ?_, fun ρ σ H H0 Q E R S q k kx => rd ρ σ H H0 _ E _ S q (fun v d H1 e1 k1 r1 q1 => ?_) kx⟩
  · have q := pe_callB (X := X) (pos := pos) (p := p) call_isi (F.kd hg) (by rw [F.mg]; exact hm) (by decide +kernel) (pa_cons (pe X F) (pa_cons (pe_bltn (pos := p') (F.kd gy) (by rw [F.mg]; exact my) hy (show RelV (.ty (tyOf T)) (.type (tyOf T)) from rfl) hn hd) pa_nil) (star_cons hp _)) (by decide) (by decide) (star_cons hp _) rfl
    rw [F.K] at q
    exact q
  · obtain ⟨hpy, q2⟩ := q1
    obtain ⟨n, hn⟩ := isPy_ty hpy
    exact ⟨v, _, .type n, .type (tyOf T), isiD T d, rfl, .ty _, tyX_of hn r1, kit_isi γ.g.K T hn, k _ _ H1 e1 k1 (.bl _) q2⟩
end
section
variable {X : Cx} {Z : Zone}
theorem repl_atI {K : PySem.W.Frag} {H : Hp} {xs : List D} {vs : List V} {i : Int} {d : D} (r : RepL K Z H xs vs) (h : atI xs i = some d) : ∃ v, atI vs i = some v ∧ Rep K Z H d v := by
  unfold atI at h ⊢
  rw [← r.length]
  cases e : ixN xs.length i with
  | none => rw [e] at h; cases h
  | some j =>
    rw [e] at h
    exact r.get h
theorem strOk_get {z : Str} {i : Int} {c : Nat} (h : PyData.strOk z = true) (e : atI z.cps.toList i = some c) : PyData.strOk ⟨#[c]⟩ = true := by
  unfold atI at e
  cases e1 : ixN z.cps.toList.length i with
  | none => rw [e1] at e; cases e
  | some j =>
    rw [e1] at e
    have hm : c ∈ z.cps.toList := List.mem_of_getElem? e
    have h2 := Array.all_eq_true'.mp h c (by simpa using hm)
    simpa [PyData.strOk] using h2
theorem ix_ok : IxR X (rOp X.K Z ixD) := by
  intro value slice pins s σ H x y v u Q I rx ry ⟨dx, dy, Q', E, ok, r1, r2, h, k⟩ hs
  cases dx with
  | tup xs => cases dy with
    | int i =>
      obtain ⟨a, vs, rfl, h1, l1, q1⟩ := r1.tup_inv
      obtain rfl := r2.int_inv
      have h : optM0 (atI xs i) Q' E := h
      cases e : atI xs i with
      | none => rw [e] at h; exact h.elim
      | some d =>
        rw [e] at h
        obtain ⟨w, hw, rw'⟩ := repl_atI q1 e
        exact ix_tup value slice pins s σ H _ _ v u Q I rx ry ⟨a, vs, i, w, rfl, rfl, h1, hw, k _ _ H (.refl H) rw' h⟩ hs
    | _ => exact h.elim
  | lst xs => cases dy with
    | int i =>
      obtain ⟨a, o, vs, rfl, h1, l1, q1⟩ := r1.lst_inv
      obtain rfl := r2.int_inv
      have h : optM0 (atI xs i) Q' E := h
      cases e : atI xs i with
      | none => rw [e] at h; exact h.elim
      | some d =>
        rw [e] at h
        obtain ⟨w, hw, rw'⟩ := repl_atI q1 e
        exact ix_list value slice pins s σ H _ _ v u Q I rx ry ⟨a, vs, i, w, rfl, rfl, sqL_frz h1, hw, k _ _ H (.refl H) rw' h⟩ hs
    | _ => exact h.elim
  | str z => cases dy with
    | int i =>
      obtain ⟨rfl, oz⟩ := r1.str_inv
      obtain rfl := r2.int_inv
      obtain ⟨hz, h⟩ := (h : szOk z.length ∧ (bnd0 (optM0 (atI z.cps.toList i)) fun c => ret0 (.str ⟨#[c]⟩)) Q' E)
      cases e : atI z.cps.toList i with
      | none => rw [e] at h; exact h.elim
      | some c =>
        rw [e] at h
        exact ix_str value slice pins s σ H _ _ v u Q I rx ry ⟨z, i, c, rfl, rfl, by rw [sizeLine_eq]; exact hz, e, k _ _ H (.refl H) (.str (strOk_get oz e)) h⟩ hs
    | _ => exact h.elim
  | _ => exact h.elim
theorem cut_rep {K : PySem.W.Frag} {H : Hp} {xs : List D} {vs : List V} (r : RepL K Z H xs vs) (lo hi : Option Int) : RepL K Z H (cutD xs lo hi) (cutV vs lo hi) := by
  unfold cutD cutV
  rw [← r.length]
  exact (r.drop _).take _
theorem strOk_cut {z : Str} (lo hi : Option Int) (h : PyData.strOk z = true) : PyData.strOk (cutS z lo hi) = true := by
  have h2 := Array.all_eq_true'.mp h
  unfold cutS PyData.strOk
  refine Array.all_eq_true'.mpr fun c hc => h2 c ?_
  have hm : c ∈ (z.cps.toList.drop (HT.sIx z.length 0 lo)).take (HT.sIx z.length z.length hi - HT.sIx z.length 0 lo) := by simpa using hc
  simpa using List.mem_of_mem_drop (List.mem_of_mem_take hm)
theorem sl_frz {r : V → Option Int → Option Int → Hp → VK → Prop} (h : SlR X r) : SlR X (fun x lo hi H Q => r x lo hi H (Fz Q)) := fun pins s σ H x v vl vu lo hi sl Q I rx hs pl pu q => by
  obtain ⟨T, id, h1, h2, h3⟩ := h pins s σ H x v vl vu lo hi sl (Fz Q) I rx hs pl pu q
  exact ⟨T, id, h1, h2, thn h3 fun _ _ q => ep_frz q⟩
theorem sl_ok : SlR X (rSl X.K Z) := by
  intro pins s σ H x v vl vu lo hi sl Q I rx hs pl pu ⟨dx, Q', E, ok, r1, h, k⟩
  cases dx with
  | tup xs =>
    obtain ⟨a, vs, rfl, h1, l1, q1⟩ := r1.tup_inv
    refine sl_tupA pins s σ H _ v vl vu lo hi sl Q I rx hs pl pu ⟨a, vs, rfl, h1, fun e => ?_, fun _ p hp => ?_⟩
    · have e2 : cutD xs lo hi = xs := by
        unfold cutD
        rw [q1.length, e.1, e.2, List.drop_zero, ← q1.length, Nat.sub_zero, List.take_length]
      have h : Q' (.tup (cutD xs lo hi)) := h
      rw [e2] at h
      exact k _ _ H (.refl H) (.tup h1 l1 q1) h
    · exact tup_new (fun v H' e r => k v _ H' e r h) (cut_rep q1 lo hi) (Nat.le_trans (cutV_length vs lo hi) l1) hp
  | lst xs =>
    obtain ⟨a, o, vs, rfl, h1, l1, q1⟩ := r1.lst_inv
    exact sl_frz sl_list pins s σ H _ v vl vu lo hi sl Q I rx hs pl pu ⟨a, vs, rfl, sqL_frz h1, fun p hp => fz_new (fun v H' e r => k v _ H' e r h) (cut_rep q1 lo hi) (Nat.le_trans (cutV_length vs lo hi) l1) hp⟩
  | str z =>
    obtain ⟨rfl, oz⟩ := r1.str_inv
    exact sl_str pins s σ H _ v vl vu lo hi sl Q I rx hs pl pu ⟨z, rfl, by rw [sizeLine_eq]; exact h.1, k _ _ H (.refl H) (.str (strOk_cut lo hi oz)) h.2⟩
  | _ => exact h.elim
end
end PL

/-! PLj: contracts of defs, calls. -/
namespace PL
open PySem
open PySem.Spec
open PyProof.Rows
open L2
/-- a def by its meaning: name, parameters, meaning, calls by keywords that it is called by (positional ones, keywords, the parameters' places) -/
structure FnS where
  name : Str
  ps : List Str
  spec : List D → M D
  kb : List (Nat × List Str × List Nat) := []
def permV (us : List Value) (perm : List Nat) : List Value := perm.map fun i => us.getD i .none
def permU (us : List V) (perm : List Nat) : List V := perm.map fun i => us.getD i .non
/-- the def keeps its meaning, with room for k calls -/
structure FnC (g : GE) (Z : Zone) (k : Nat) (F : FnS) (f : Addr) (fd : FuncData) : Prop where
  mg : g.mg F.name = some (.ref f)
  kp : PySem.W.keepIn g.K (.ref f) = true
  bd : ∀ (s : Shared) (us : List Value), g.K.In s.heap → us.length = F.ps.length → BindsTo s fd ⟨us, []⟩ (F.ps.zip us)
  bk : ∀ q ∈ F.kb, q.2.2.length = F.ps.length ∧ (∀ i ∈ q.2.2, i < q.1 + q.2.1.length) ∧ ∀ (s : Shared) (us ws : List Value), g.K.In s.heap → us.length = q.1 → ws.length = q.2.1.length → BindsTo s fd ⟨us, q.2.1.zip ws⟩ (F.ps.zip (permV (us ++ ws) q.2.2))
  run : ∀ (A : Around) (outer : List PySem.Env) (s : Shared) (H : Hp) (args : Args) (us : List Value) (vs : List V) (ds : List D) (κ : Nat) (Q0 E0 : D → Nat → Prop) (Q : VK) (E : XK), A.guards = some [] → Room k A → Env0 g.P g.w g.K g.mg g.base A outer s H → BindsTo s fd args (F.ps.zip us) → Vals vs us →
    Z.ok κ H → RepL g.K Z H ds vs → ds.length = F.ps.length → F.spec ds κ Q0 E0 → An g.K Z H Q0 Q → (∀ {κ : Nat} cls dd H' e, Ext Z H H' → Z.ok κ H' → Z.X H' e cls dd → E0 e κ → E cls dd H') → codeAny (model g.P g.w) A (.call (.ref f) args) (CR (L2.CX g.P g.w) outer g.P g.w H s Q E) s
def FnK (g : GE) (Z : Zone) (k : Nat) (F : FnS) : Prop := ∃ f fd, FnC g Z k F f fd
theorem FnK.mono {g : GE} {Z : Zone} {j k : Nat} {F : FnS} (h : FnK g Z j F) (l : j ≤ k) : FnK g Z k F := by
  obtain ⟨f, fd, c⟩ := h
  exact ⟨f, fd, c.mg, c.kp, c.bd, c.bk, fun A outer s H args us vs ds κ Q0 E0 Q E hg hr => c.run A outer s H args us vs ds κ Q0 E0 Q E hg (hr.mono l)⟩
/-- a weaker meaning -/
theorem FnK.imp {g : GE} {Z : Zone} {k : Nat} {F : FnS} {sp : List D → M D} (h : FnK g Z k F) (l : ∀ ds, Le (sp ds) (F.spec ds)) : FnK g Z k { F with spec := sp } := by
  obtain ⟨f, fd, c⟩ := h
  exact ⟨f, fd, c.mg, c.kp, c.bd, c.bk, fun A outer s H args us vs ds κ Q0 E0 Q E hg hr e0 hb hv ok r hl sp => c.run A outer s H args us vs ds κ Q0 E0 Q E hg hr e0 hb hv ok r hl (l ds _ Q0 E0 sp)⟩
section
variable {Z : Zone} {γ : Gm} {e : Expr} {es : List Expr} {pos p : Pos} {tl tk : Nv → M (List D)} {F : FnS}
/-- what a call asks -/
def tCl (g : GE) (Z : Zone) (F : FnS) (W : WX) (ta : TA) : TE := fun σ H R => ta σ H fun vs H1 => ∃ ds κ Q0 E0, Z.ok κ H1 ∧ RepL g.K Z H1 ds vs ∧ ds.length = F.ps.length ∧ F.spec ds κ Q0 E0 ∧ An g.K Z H1 Q0 R ∧ Xn Z H1 σ E0 W
theorem call_run {W : WX} {X : Cx} {f : Addr} {fd : FuncData} {pins : List (Addr × Obj)} {s1 : Shared} {σ : L2.St} {H1 : Hp} {R : VK} {vs : List V} {us us' : List Value} {kw : List (Str × Value)} {ds : List D} {Q0 E0 : D → Nat → Prop} (c : FnC γ.g Z γ.k F f fd) (X1 : Fam γ W X) (I : Inv X pins σ H1 s1)
    (hb : BindsTo s1 fd ⟨us', kw⟩ (F.ps.zip us)) (r : Vals vs us) (ok : Z.ok κ H1) (rl : RepL γ.g.K Z H1 ds vs) (hl : ds.length = F.ps.length) (sp : F.spec ds κ Q0 E0) (an : An γ.g.K Z H1 Q0 R) (xn : Xn Z H1 σ E0 W) :
    wpAny (model X.prog X.w) X.A (call (.ref f) us' kw) (EP X pins σ R) X.xe s1 := by
  have ge := X1.ge
  obtain ⟨g, N, sc, k, top, fb, cd, ql⟩ := γ
  simp only at ge
  subst ge
  refine wpAny_call (codeAny_mono (c.run X.A X.stack s1 H1 ⟨us', kw⟩ us vs ds κ Q0 E0 R (fun cls dd H' => W cls dd σ H') X1.gu X1.room I.env0 hb r ok rl hl sp an (fun cls dd H' e x k q w => xn cls dd H' e x k q w)) fun r s' hq => ?_)
  cases r with
  | error e => exact X1.tk _ _ (XE.of_call I (fun cls d H' h => h) hq)
  | ok fl =>
    cases fl with
    | ret u => exact I.after hq
    | next => exact False.elim hq
    | brk => exact False.elim hq
    | cont => exact False.elim hq
theorem kin_of {W : WX} {X : Cx} {pins : List (Addr × Obj)} {s1 : Shared} {σ : L2.St} {H1 : Hp} (X1 : Fam γ W X) (I : Inv X pins σ H1 s1) : γ.g.K.In s1.heap := by rw [← X1.K]; exact I.kIn
theorem de_call (hF : FnK γ.g Z γ.k F) (hg : γ.sc.names.lookup F.name = some .globalImplicit) (ha : DA Z γ (e :: es) tl) (hp : (e :: es).all plain = true) (hn : (e :: es).length = F.ps.length) (hdb : (F.name == ("__debug__" : Str)) = false) :
    DE Z γ (.Call (.Name F.name p) (e :: es) [] pos) (fun ρ => bnd (tl ρ) F.spec) := fun W => by
  obtain ⟨ta, pa, ra⟩ := ha W
  obtain ⟨f, fd, c⟩ := hF
  simp only [List.all_cons, Bool.and_eq_true] at hp
  refine ⟨tCl γ.g Z F W ta, fun X X1 => ⟨fun pins s σ H Q I h => ?_⟩, fun ρ σ H H0 Q E R S q k kx => ra ρ σ H H0 _ E _ S q (fun vs ds H1 e1 k1 r1 n1 q1 => ⟨ds, _, Q, E, k1, r1, n1.trans hn, q1, k.at e1, kx.at e1⟩) kx⟩
  refine wpAny_Call_Name_kw (ld_glob I (X1.kd hg) (by rw [X1.mg]; exact c.mg) ?_ hdb)
  refine PySem.W.callWith_K (h₀ := X.base) I.ok.mod.kin (by rw [X1.K]; exact c.kp) (thn ((pa X X1).run pos pins s σ H _ I h) fun us s1 ⟨vs, H1, I1, r, ds, κ, Q0, E0, ok, rl, hl, sp, an, xn⟩ => ⟨I1.kIn, ?_⟩) (star_cons hp.1 _) (back_any hp.2 _)
  exact call_run c X1 I1 (c.bd s1 us (kin_of X1 I1) (by rw [← r.length, ← rl.length]; exact hl)) r ok rl hl sp an xn
theorem de_call0 (hF : FnK γ.g Z γ.k F) (hg : γ.sc.names.lookup F.name = some .globalImplicit) (hn : 0 = F.ps.length) (hdb : (F.name == ("__debug__" : Str)) = false) :
    DE Z γ (.Call (.Name F.name p) [] [] pos) (fun _ => F.spec []) := fun W => by
  obtain ⟨f, fd, c⟩ := hF
  refine ⟨tCl γ.g Z F W tNil, fun X X1 => ⟨fun pins s σ H Q I h => ?_⟩, fun ρ σ H H0 Q E R S q k kx => ⟨[], _, Q, E, S.ok, .nil, hn, q, k, kx⟩⟩
  obtain ⟨ds, κ, Q0, E0, ok, rl, hl, sp, an, xn⟩ := h
  refine wpAny_Call_Name_kw (ld_glob I (X1.kd hg) (by rw [X1.mg]; exact c.mg) ?_ hdb)
  refine PySem.W.callWith_K0 I.kIn (by rw [X1.K]; exact c.kp) ?_
  exact call_run c X1 I (c.bd s [] (kin_of X1 I) hn) .nil ok rl hl sp an xn
/-! ### keywords -/
theorem perm_rep {K : PySem.W.Frag} {H : Hp} {xs : List D} {vs : List V} (r : RepL K Z H xs vs) : ∀ {perm : List Nat}, (∀ i ∈ perm, i < xs.length) → RepL K Z H (permL xs perm) (permU vs perm)
  | [], _ => .nil
  | i :: perm, h => by
    have hi := h i List.mem_cons_self
    obtain ⟨v, hv, rv⟩ := r.get (List.getElem?_eq_getElem hi)
    refine .cons ?_ (perm_rep r fun j hj => h j (List.mem_cons_of_mem _ hj))
    show Rep K Z H (xs.getD i .non) (vs.getD i .non)
    rw [List.getD_eq_getElem?_getD, List.getD_eq_getElem?_getD, hv, List.getElem?_eq_getElem hi]
    exact rv
theorem perm_vals {us : List Value} {vs : List V} (r : Vals vs us) : ∀ {perm : List Nat}, (∀ i ∈ perm, i < us.length) → Vals (permU vs perm) (permV us perm)
  | [], _ => .nil
  | i :: perm, h => by
    have hi := h i List.mem_cons_self
    have hv : i < vs.length := by rw [r.length]; exact hi
    obtain ⟨u, hu, ru⟩ := r.get (List.getElem?_eq_getElem hv)
    refine .cons ?_ (perm_vals r fun j hj => h j (List.mem_cons_of_mem _ hj))
    show RelV (vs.getD i .non) (us.getD i .none)
    rw [List.getD_eq_getElem?_getD, List.getD_eq_getElem?_getD, hu, List.getElem?_eq_getElem hv]
    exact ru
def DK (Z : Zone) (γ : Gm) (kws : List Keyword) (t : Nv → M (List D)) : Prop := ∀ W, ∃ ta, (∀ X, Fam γ W X → PK X kws ta) ∧ RdgL γ.g.K Z W kws.length ta t
theorem dk_nil : DK Z γ [] (fun _ => ret []) := fun W => ⟨tNil, fun X F => pk_nil, fun ρ σ H H0 Q E R S q k _ => k [] [] H (.refl _ _) S.ok .nil rfl q⟩
theorem dk_cons {nm : Option Str} {kpos : Pos} {kws : List Keyword} {t : Nv → M D} (ha : DE Z γ e t) (hr : DK Z γ kws tl) : DK Z γ (⟨nm, e, kpos⟩ :: kws) (fun ρ => bnd (t ρ) fun x => bnd (tl ρ) fun xs => ret (x :: xs)) := fun W => by
  obtain ⟨te, pe, rd⟩ := ha W
  obtain ⟨tu, pu, ru⟩ := hr W
  refine ⟨_, fun X F => pk_cons (pe X F) (pu X F), fun ρ σ H H0 Q E R S q k kx => rd ρ σ H H0 _ E _ S q (fun v d H1 e1 k1 r1 q1 => ?_) kx⟩
  refine ru ρ σ H1 H0 _ E _ (S.mono e1 k1) q1 (fun vs ds H2 e2 k2 r2 n2 q2 => ?_) (kx.at e1)
  exact k (v :: vs) (d :: ds) H2 (e1.trans e2) k2 (.cons (r1.stb (e2.stb k1)) r2) (by rw [List.length_cons, List.length_cons, n2]) q2
/-- the keywords' names -/
def kwNames : List Keyword → Option (List Str)
  | [] => some []
  | ⟨some n, _, _⟩ :: r => (kwNames r).map (n :: ·)
  | ⟨none, _, _⟩ :: _ => none
theorem kw_facts {pos : Pos} {env : PySem.Env} : ∀ {kws : List Keyword} {ks : List Str}, kwNames kws = some ks → (backToKw pos (keywordEach kws env)).all (·.1.isSome) = true ∧ (backToKw pos (keywordEach kws env)).filterMap (·.1) = ks ∧ (backToKw pos (keywordEach kws env)).any (·.1.isNone) = false ∧ kws.length = ks.length
  | [], ks, h => by
    simp only [kwNames, Option.some.injEq] at h
    subst h
    exact ⟨rfl, rfl, rfl, rfl⟩
  | ⟨some n, e, p⟩ :: r, ks, h => by
    simp only [kwNames, Option.map_eq_some_iff] at h
    obtain ⟨ks', hk, rfl⟩ := h
    obtain ⟨h1, h2, h3, h4⟩ := kw_facts (pos := pos) (env := env) hk
    refine ⟨?_, ?_, ?_, by rw [List.length_cons, List.length_cons, h4]⟩
    · show (true && (backToKw pos (keywordEach r env)).all (·.1.isSome)) = true
      rw [h1]; rfl
    · show n :: (backToKw pos (keywordEach r env)).filterMap (·.1) = n :: ks'
      rw [h2]
    · show (false || (backToKw pos (keywordEach r env)).any (·.1.isNone)) = false
      rw [h3]; rfl
  | ⟨none, _, _⟩ :: _, _, h => by simp [kwNames] at h
def tClk (g : GE) (Z : Zone) (F : FnS) (W : WX) (n m : Nat) (perm : List Nat) (ta tk : TA) : TE := fun σ H R => ta σ H fun vs H1 => tk σ H1 fun ws H2 => ∃ ds κ Q0 E0, vs.length = n ∧ ws.length = m ∧ Z.ok κ H2 ∧ RepL g.K Z H2 ds (vs ++ ws) ∧ F.spec (permL ds perm) κ Q0 E0 ∧ An g.K Z H2 Q0 R ∧ Xn Z H2 σ E0 W
theorem de_callk {e : Expr} {es : List Expr} {kws : List Keyword} {ks : List Str} {perm : List Nat} (hF : FnK γ.g Z γ.k F) (hg : γ.sc.names.lookup F.name = some .globalImplicit) (ha : DA Z γ (e :: es) tl) (hk : DK Z γ kws tk) (hp : (e :: es).all plain = true) (hks : kwNames kws = some ks) (hm : ((e :: es).length, ks, perm) ∈ F.kb)
    (hdb : (F.name == ("__debug__" : Str)) = false) :
    DE Z γ (.Call (.Name F.name p) (e :: es) kws pos) (fun ρ => bnd (bnd (tl ρ) fun xs => bnd (tk ρ) fun ys => ret (xs ++ ys)) fun zs => F.spec (permL zs perm)) := fun W => by
  obtain ⟨ta, pa, ra⟩ := ha W
  obtain ⟨tb, pb, rb⟩ := hk W
  obtain ⟨f, fd, c⟩ := hF
  obtain ⟨b1, b2, b3⟩ := c.bk _ hm
  have kl : kws.length = ks.length := (kw_facts (pos := pos) (env := default) hks).2.2.2
  refine ⟨tClk γ.g Z F W (e :: es).length ks.length perm ta tb, fun X X1 => ⟨fun pins s σ H Q I h => ?_⟩, fun ρ σ H H0 Q E R S q k kx => ra ρ σ H H0 _ E _ S q (fun vs ds H1 e1 k1 r1 n1 q1 => rb ρ σ H1 H0 _ E _ (S.mono e1 k1) q1 (fun ws es2 H2 e2 k2 r2 n2 q2 => ?_) (kx.at e1)) kx⟩
  · obtain ⟨f1, f2, f3, _⟩ := kw_facts (pos := pos) (env := X.env) hks
    have fin : ∀ (us ws : List Value) (vs zs : List V) (s2 : Shared) (H2 : Hp) (ds : List D) (κ : Nat) (Q0 E0 : D → Nat → Prop), Inv X pins σ H2 s2 → Vals vs us → Vals zs ws → us.length = (e :: es).length → ws.length = ks.length → Z.ok κ H2 → RepL γ.g.K Z H2 ds (vs ++ zs) → F.spec (permL ds perm) κ Q0 E0 → An γ.g.K Z H2 Q0 Q → Xn Z H2 σ E0 W →
        wpAny (model X.prog X.w) X.A (call (.ref f) us (ks.zip ws)) (EP X pins σ Q) X.xe s2 := fun us ws vs zs s2 H2 ds κ Q0 E0 I2 r rz hu hw ok rl sp an xn => by
      have hl : ∀ i ∈ perm, i < (us ++ ws).length := fun i hi => by rw [List.length_append, hu, hw]; exact b2 i hi
      have hl' : ∀ i ∈ perm, i < ds.length := fun i hi => by
        have := hl i hi
        rw [rl.length, (r.append rz).length]
        exact this
      exact call_run c X1 I2 (b3 s2 us ws (kin_of X1 I2) hu hw) (perm_vals (r.append rz) hl) ok (perm_rep rl hl') (by unfold permL; rw [List.length_map]; exact b1) sp an xn
    refine wpAny_Call_Name_kw (ld_glob I (X1.kd hg) (by rw [X1.mg]; exact c.mg) ?_ hdb)
    have hp' := hp
    simp only [List.all_cons, Bool.and_eq_true] at hp'
    refine PySem.W.callWith_KW (h₀ := X.base) I.ok.mod.kin (by rw [X1.K]; exact c.kp) f1 (thn ((pa X X1).run pos pins s σ H _ I h) fun us s1 ⟨vs, H1, I1, r, q⟩ => ?_) (by rw [back_any hp, f3]; rfl) (star_cons hp'.1 _)
    refine thn ((pb X X1).run pos pins s1 σ H1 _ I1 q) fun ws s2 ⟨zs, H2, I2, rz, ds, κ, Q0, E0, l1, l2, ok, rl, sp, an, xn⟩ => ⟨I2.kIn, ?_⟩
    rw [f2]
    exact fin us ws vs zs s2 H2 ds κ Q0 E0 I2 r rz (r.length.symm.trans l1) (rz.length.symm.trans l2) ok rl sp an xn
  · refine ⟨ds ++ es2, _, Q, E, by rw [← r1.length]; exact n1, by rw [← r2.length, n2]; exact kl, k2, (RepL.stb (e2.stb k1) r1).append r2, q2, k.at (e1.trans e2), kx.at (e1.trans e2)⟩
theorem de_callk0 {kws : List Keyword} {ks : List Str} {perm : List Nat} (hF : FnK γ.g Z γ.k F) (hg : γ.sc.names.lookup F.name = some .globalImplicit) (hk : DK Z γ kws tk) (hks : kwNames kws = some ks) (hm : (0, ks, perm) ∈ F.kb)
    (hdb : (F.name == ("__debug__" : Str)) = false) :
    DE Z γ (.Call (.Name F.name p) [] kws pos) (fun ρ => bnd (tk ρ) fun zs => F.spec (permL zs perm)) := fun W => by
  obtain ⟨tb, pb, rb⟩ := hk W
  obtain ⟨f, fd, c⟩ := hF
  obtain ⟨b1, b2, b3⟩ := c.bk _ hm
  have kl : kws.length = ks.length := (kw_facts (pos := pos) (env := default) hks).2.2.2
  refine ⟨tClk γ.g Z F W 0 ks.length perm tNil tb, fun X X1 => ⟨fun pins s σ H Q I h => ?_⟩, fun ρ σ H H0 Q E R S q k kx => rb ρ σ H H0 _ E _ S q (fun ws es2 H2 e2 k2 r2 n2 q2 => ?_) kx⟩
  · obtain ⟨f1, f2, f3, _⟩ := kw_facts (pos := pos) (env := X.env) hks
    refine wpAny_Call_Name_kw (ld_glob I (X1.kd hg) (by rw [X1.mg]; exact c.mg) ?_ hdb)
    refine PySem.W.callWith_KW0 (h₀ := X.base) I.ok.mod.kin (by rw [X1.K]; exact c.kp) f1 ?_ (by rw [f3]; rfl)
    refine thn ((pb X X1).run pos pins s σ H _ I h) fun ws s2 ⟨zs, H2, I2, rz, ds, κ, Q0, E0, l1, l2, ok, rl, sp, an, xn⟩ => ⟨I2.kIn, ?_⟩
    rw [f2]
    have hw : ws.length = ks.length := rz.length.symm.trans l2
    have hl : ∀ i ∈ perm, i < ([] ++ ws).length := fun i hi => by
      have q : i < 0 + ks.length := b2 i hi
      rw [List.nil_append, hw]
      omega
    have hl' : ∀ i ∈ perm, i < ds.length := fun i hi => by
      have q := hl i hi
      rw [List.nil_append] at q rl
      rw [rl.length, rz.length]
      exact q
    exact call_run c X1 I2 (b3 s2 [] ws (kin_of X1 I2) rfl hw) (perm_vals (vs := [] ++ zs) rz hl) ok (perm_rep rl hl') (by unfold permL; rw [List.length_map]; exact b1) sp an xn
  · exact ⟨es2, _, Q, E, rfl, by rw [← r2.length, n2]; exact kl, k2, r2, q2, k.at e2, kx.at e2⟩
end
end PL

/-! PLk: targets, what is walked, comprehensions. -/
namespace PL
open PySem
open PySem.Spec
open PyProof.Rows
open L2
/-! ### slots -/
section
variable {K : PySem.W.Frag} {Z : Zone} {H0 H : Hp} {ρ : Nv} {σ : L2.St}
theorem SR.setV (S : SR K Z κ H0 ρ σ H) {i : Nat} {d : D} {v : V} (r : Rep K Z H d v) : SR K Z κ H0 (ρ.set i (.val d)) (σ.set i (some v)) H := by
  refine ⟨S.ok0, S.ok, S.ext, by rw [List.length_set, List.length_set, S.len], fun j e h => ?_, fun j l xs ys p h1 h2 h3 h4 => ?_⟩
  · by_cases hj : i = j
    · subst hj
      by_cases hi : i < ρ.length
      · rw [List.getElem?_set_self hi] at h
        rw [List.getElem?_set_self (by rw [← S.len]; exact hi)]
        cases h
        exact r
      · rw [List.getElem?_eq_none (by simpa using hi)] at h
        cases h
    · rw [List.getElem?_set_ne hj] at h ⊢
      exact S.slot j e h
  · have hne : ∀ {j : Nat} {xs : List D}, (ρ.set i (.val d))[j]? = some (.own xs) → i ≠ j := fun {j xs} h e => by
      subst e
      by_cases hi : i < ρ.length
      · rw [List.getElem?_set_self hi] at h; cases h
      · rw [List.getElem?_eq_none (by simpa using hi)] at h; cases h
    have n1 := hne h1
    have n2 := hne h2
    rw [List.getElem?_set_ne n1] at h1 h3
    rw [List.getElem?_set_ne n2] at h2 h4
    exact S.dis j l xs ys p h1 h2 h3 h4
theorem SR.setU (S : SR K Z κ H0 ρ σ H) {i : Nat} {o : Option V} : SR K Z κ H0 (ρ.set i .un) (σ.set i o) H := by
  have hne : ∀ {j : Nat} {e : En}, (ρ.set i .un)[j]? = some e → e = .un ∨ i ≠ j := fun {j e} h => by
    by_cases hj : i = j
    · subst hj
      by_cases hi : i < ρ.length
      · rw [List.getElem?_set_self hi] at h; cases h; exact .inl rfl
      · rw [List.getElem?_eq_none (by simpa using hi)] at h; cases h
    · exact .inr hj
  refine ⟨S.ok0, S.ok, S.ext, by rw [List.length_set, List.length_set, S.len], fun j e h => ?_, fun j l xs ys p h1 h2 h3 h4 => ?_⟩
  · rcases hne h with rfl | n
    · exact trivial
    · rw [List.getElem?_set_ne n] at h ⊢
      exact S.slot j e h
  · rcases hne h1 with q | n1
    · cases q
    rcases hne h2 with q | n2
    · cases q
    rw [List.getElem?_set_ne n1] at h1 h3
    rw [List.getElem?_set_ne n2] at h2 h4
    exact S.dis j l xs ys p h1 h2 h3 h4
theorem set_comm_wipe (σ : L2.St) (i : Nat) : ∀ l : List Nat, wipe (σ.set i none) l = (wipe σ l).set i none
  | [] => rfl
  | v :: vs => by
    show (wipe (σ.set i none) vs).set v none = ((wipe σ vs).set v none).set i none
    rw [set_comm_wipe σ i vs]
    by_cases h : i = v
    · subst h; rfl
    · exact List.set_comm _ _ h
theorem SR.wipe : ∀ {l : List Nat} {ρ : Nv} {σ : L2.St}, SR K Z κ H0 ρ σ H → SR K Z κ H0 (wipeE l ρ) (L2.wipe σ l) H
  | [], _, _, S => S
  | i :: is, ρ, σ, S => by
    have q := SR.wipe (l := is) (S.setU (i := i) (o := none))
    rw [set_comm_wipe] at q
    exact q
theorem wipe_in {i : Nat} : ∀ {vs : List Nat} {σ : L2.St}, i ∈ vs → i < σ.length → (L2.wipe σ vs)[i]? = some none
  | v :: vs, σ, h, l => by
    unfold L2.wipe
    by_cases e : v = i
    · subst e
      rw [List.getElem?_set_self (by rw [wipe_length]; exact l)]
    · rw [List.getElem?_set_ne e]
      rcases List.mem_cons.mp h with q | q
      · exact absurd q.symm e
      · exact wipe_in q l
theorem wipe_eq {vs : List Nat} {σ σ' : L2.St} (l : σ'.length = σ.length) (h : ∀ j, j ∉ vs → σ'[j]? = σ[j]?) : L2.wipe σ' vs = L2.wipe σ vs := by
  apply List.ext_getElem?
  intro j
  by_cases hj : j ∈ vs
  · by_cases hl : j < σ.length
    · rw [wipe_in hj hl, wipe_in hj (by rw [l]; exact hl)]
    · rw [List.getElem?_eq_none (by rw [wipe_length, l]; omega), List.getElem?_eq_none (by rw [wipe_length]; omega)]
  · rw [wipe_out hj, wipe_out hj]
    exact h j hj
end
/-! ### targets -/
mutual
def Tg.ix : Tg → List Nat
  | .nm i => [i]
  | .tp l => ixL l
def ixL : List Tg → List Nat
  | [] => []
  | t :: ts => Tg.ix t ++ ixL ts
end
def DG (Z : Zone) (γ : Gm) (e : Expr) (tg : Tg) : Prop := ∃ g : TG, (∀ W X, Fam γ W X → PG X e g) ∧
  ∀ {κ : Nat} d v ρ σ H H0 Q E R, SR γ.g.K Z κ H0 ρ σ H → Rep γ.g.K Z H d v → asgE tg d ρ κ Q E → (∀ ρ' σ', SR γ.g.K Z κ H0 ρ' σ' H → (σ'.length = σ.length ∧ ∀ j, j ∉ tg.ix → σ'[j]? = σ[j]?) → Q ρ' κ → R σ' H) → g v σ H R
def DGs (Z : Zone) (γ : Gm) (es : List Expr) (l : List Tg) : Prop := ∃ g : TGs, (∀ W X, Fam γ W X → PGs X es g) ∧ es.length = l.length ∧
  ∀ {κ : Nat} ds vs ρ σ H H0 Q E R, SR γ.g.K Z κ H0 ρ σ H → RepL γ.g.K Z H ds vs → asgL l ds ρ κ Q E → (∀ ρ' σ', SR γ.g.K Z κ H0 ρ' σ' H → (σ'.length = σ.length ∧ ∀ j, j ∉ ixL l → σ'[j]? = σ[j]?) → Q ρ' κ → R σ' H) → g vs σ H R
/-- names and tuples of such -/
def tgx : Expr → Bool
  | .Name _ _ => true
  | .Tuple _ _ _ => true
  | _ => false
theorem each_cons {e : Expr} {es : List Expr} (h : tgx e = true) (env : PySem.Env) : assignEach (e :: es) env = (false, assign e env) :: assignEach es env := by
  cases e <;> first | rfl | (simp [tgx] at h)
theorem each_len {env : PySem.Env} : ∀ {es : List Expr}, es.all tgx = true → (assignEach es env).length = es.length ∧ (assignEach es env).findIdx? (·.1) = none
  | [], _ => ⟨rfl, rfl⟩
  | e :: es, h => by
    simp only [List.all_cons, Bool.and_eq_true] at h
    rw [each_cons h.1]
    obtain ⟨h1, h2⟩ := each_len (env := env) h.2
    refine ⟨by rw [List.length_cons, List.length_cons, h1], ?_⟩
    rw [List.findIdx?_cons, h2]
    rfl
mutual
theorem asgE_ex : ∀ {t : Tg} {d : D} {ρ : Nv} {κ : Nat} {Q : Nv → Nat → Prop} {E : D → Nat → Prop}, asgE t d ρ κ Q E → ∃ ρ', Q ρ' κ
  | .nm i, d, ρ, κ, Q, E, h => ⟨_, by rw [asgE] at h; exact h⟩
  | .tp l, .tup ds, ρ, κ, Q, E, h => by
    rw [asgE] at h
    exact (asgL_ex h).2
  | .tp _, .non, _, _, _, _, h => by simp [asgE] at h
  | .tp _, .bl _, _, _, _, _, h => by simp [asgE] at h
  | .tp _, .int _, _, _, _, _, h => by simp [asgE] at h
  | .tp _, .str _, _, _, _, _, h => by simp [asgE] at h
  | .tp l, .lst ds, ρ, κ, Q, E, h => by
    rw [asgE] at h
    exact (asgL_ex h).2
  | .tp _, .rng _ _, _, _, _, _, h => by simp [asgE] at h
  | .tp _, .exc _ _, _, _, _, _, h => by simp [asgE] at h
  | .tp _, .thk _ _, _, _, _, _, h => by simp [asgE] at h
  | .tp _, .lam _, _, _, _, _, h => by simp [asgE] at h
  | .tp _, .drw, _, _, _, _, h => by simp [asgE] at h
theorem asgL_ex : ∀ {l : List Tg} {ds : List D} {ρ : Nv} {κ : Nat} {Q : Nv → Nat → Prop} {E : D → Nat → Prop}, asgL l ds ρ κ Q E → l.length = ds.length ∧ ∃ ρ', Q ρ' κ
  | [], [], ρ, κ, Q, E, h => ⟨rfl, _, by rw [asgL] at h; exact h⟩
  | t :: l, d :: ds, ρ, κ, Q, E, h => by
    rw [asgL] at h
    obtain ⟨ρ', h⟩ := asgE_ex (t := t) h
    obtain ⟨h1, h2⟩ := asgL_ex (l := l) h
    exact ⟨by rw [List.length_cons, List.length_cons, h1], h2⟩
  | [], _ :: _, _, _, _, _, h => by simp [asgL] at h
  | _ :: _, [], _, _, _, _, h => by simp [asgL] at h
end
section
variable {Z : Zone} {γ : Gm} {e : Expr} {es : List Expr} {pos : Pos} {tg : Tg} {l : List Tg}
/-- a name that may be stored -/
def StoreOk (γ : Gm) (x : Str) : Prop := γ.sc.names.lookup x = some .local ∨ (γ.sc.names.lookup x = some .cell ∧ γ.fb x = true)
theorem dg_name {i : Nat} {x : Str} (hN : γ.N[i]? = some x) (hx : StoreOk γ x) : DG Z γ (.Name x pos) (.nm i) := by
  refine ⟨gName i, fun W X F => pg_name (by rw [F.N]; exact F.nd) (by rw [F.N]; exact hN) ?_ ?_, fun d v ρ σ H H0 Q E R S r q k => k _ _ (S.setV r) ⟨List.length_set, fun j hj => ?_⟩ q⟩
  · rcases hx with h | h
    · exact .inl (by rw [F.sc]; exact h)
    · exact .inr (by rw [F.sc]; exact h.1)
  · rcases hx with h | h
    · exact .inr (by rw [F.sc]; exact h)
    · exact .inl (F.fb x h.2)
  · have hne : i ≠ j := fun e => hj (by rw [e]; exact List.mem_cons_self)
    exact List.getElem?_set_ne hne
theorem dgs_nil : DGs Z γ [] [] := ⟨gNil, fun W X F => pgs_nil, rfl, fun ds vs ρ σ H H0 Q E R S r q k => by
  cases r with
  | nil => exact ⟨rfl, k ρ σ S ⟨rfl, fun _ _ => rfl⟩ q⟩
  | cons _ _ => exact q.elim⟩
theorem dgs_cons (hp : tgx e = true) (h : DG Z γ e tg) (hs : DGs Z γ es l) : DGs Z γ (e :: es) (tg :: l) := by
  obtain ⟨g, pg, rg⟩ := h
  obtain ⟨u, pu, ln, ru⟩ := hs
  refine ⟨gCons g u, fun W X F => pgs_cons (pg W X F) (pu W X F) (by rw [each_cons hp]; rfl), by rw [List.length_cons, List.length_cons, ln], fun ds vs ρ σ H H0 Q E R S r q k => ?_⟩
  cases r with
  | nil => exact q.elim
  | cons r rr =>
    refine ⟨_, _, rfl, rg _ _ ρ σ H H0 _ E _ S r q fun ρ' σ' S' o' q' => ru _ _ ρ' σ' H H0 Q E R S' rr q' fun ρ'' σ'' S'' o'' q'' => k ρ'' σ'' S'' ⟨o''.1.trans o'.1, fun j hj => ?_⟩ q''⟩
    rw [show ixL (tg :: l) = tg.ix ++ ixL l from by rw [ixL], List.mem_append, not_or] at hj
    rw [o''.2 j hj.2, o'.2 j hj.1]
theorem dg_tup {k : Nat} (hp : es.all tgx = true) (h : DGs Z γ es l) : DG Z γ (.Tuple es k pos) (.tp l) := by
  obtain ⟨g, pg, ln, rg⟩ := h
  refine ⟨gSeq γ.g.K es.length g, fun W X F => ?_, fun d v ρ σ H H0 Q E R S r q k => ?_⟩
  · rw [← F.K]
    exact pg_seq F.calm (pg W X F) (each_len hp).1 (each_len hp).2
  · cases d with
    | tup ds =>
      obtain ⟨a, vs, rfl, h1, _, h2⟩ := r.tup_inv
      refine ⟨a, vs, rfl, .inl h1, ?_, rg _ _ ρ σ H H0 _ E _ S h2 q k⟩
      rw [ln, ← h2.length]
      exact (asgL_ex q).1.symm
    | lst ds =>
      obtain ⟨a, o, vs, rfl, h1, _, h2⟩ := r.lst_inv
      refine ⟨a, vs, rfl, .inr (sqL_frz h1), ?_, rg _ _ ρ σ H H0 _ E _ S h2 q k⟩
      rw [ln, ← h2.length]
      exact (asgL_ex q).1.symm
    | _ => exact q.elim
end
end PL

/-! PLl: what is walked. -/
namespace PL
open PySem
open PySem.Spec
open PyProof.Rows
open L2
structure ItOk (K : PySem.W.Frag) (Z : Zone) (J : It) (H : Hp) (ds : List D) : Prop where
  sz : ds.length ≤ sizeLine
  go : ∀ i H', Stb H H' → Z.sm H' → i < ds.length → J.go i H'
  yld : ∀ i d H' x H'', Stb H H' → Z.sm H' → ds[i]? = some d → J.yld i H' x H'' → Ex H' H'' ∧ Rep K Z H'' d x
  stop : ∀ H', Stb H H' → Z.sm H' → J.stop ds.length H'
def RdgI (K : PySem.W.Frag) (Z : Zone) (W : WX) (wi : TI) (t : Nv → M (List D)) : Prop := ∀ {κ : Nat} ρ σ H H0 Q E R, SR K Z κ H0 ρ σ H → t ρ κ Q E → (∀ {κ : Nat} J ds H', Ext Z H H' → Z.ok κ H' → ItOk K Z J H' ds → Q ds κ → R J H') → Xn Z H σ E W → wi σ H R
def DI (Z : Zone) (γ : Gm) (tg e : Expr) (t : Nv → M (List D)) : Prop := ∀ W, ∃ wi, (∀ X, Fam γ W X → PI X tg e wi) ∧ RdgI γ.g.K Z W wi t
/-- any of several walks -/
theorem pi_or {X : Cx} {tg e : Expr} {wi wj : TI} (h : PI X tg e wi) (k : PI X tg e wj) : PI X tg e (fun σ H R => wi σ H R ∨ wj σ H R) :=
  ⟨fun pins s σ H R I q => by
    rcases q with q | q
    · exact h.run pins s σ H R I q
    · exact k.run pins s σ H R I q⟩
/-- an expression, then a walk chosen by its value: the same value is read -/
def iVal (K : PySem.W.Frag) (te : TE) : TI := fun σ H R => te σ H fun x H1 => (∃ a, x = .ref a ∧ (∃ xs, SqL K H1 a xs) ∧ R (Itl K a) H1) ∨ (∃ a, x = .ref a ∧ (∃ xs, SqT K H1 a xs) ∧ R (Itt K a) H1) ∨ ∃ x', x = .str x' ∧ R (Its x') H1
theorem pi_val {X : Cx} {tg e : Expr} {te : TE} (he : PE X e te) : PI X tg e (iVal X.K te) := by
  refine ⟨fun pins s σ H R I h => ?_⟩
  refine thn (he.run pins s σ H _ I h) fun v s1 ⟨y, H1, I1, r1, q⟩ => ?_
  rcases q with ⟨a, rfl, ⟨xs, hq⟩, q⟩ | ⟨a, rfl, ⟨xs, hq⟩, q⟩ | ⟨x, rfl, q⟩
  · cases r1
    obtain ⟨its, rv, p, hz⟩ := I1.list hq
    refine wpAny_pyIter_list p.isList ?_
    refine ⟨s1.heap.objs.size, [s1.heap.objs.size], _, _, H1, rfl, I1.kept (t' := s1.toks) fun b o e => Heap.get?_push_of_some _ e, turn_list a _, ⟨_, Heap.get?_push_size _ rfl, rfl, rfl⟩, fun b hb => ?_, q⟩
    have e : b = s1.heap.objs.size := by simpa using hb
    subst e
    exact I1.fpOk (Nat.le_refl _) (I1.hok.fresh (Nat.le_refl _))
  · cases r1
    obtain ⟨its, rv, p, hz⟩ := I1.tuple hq
    refine wpAny_pyIter_tuple (show s1.heap.IsTuple a its.toArray from p) ?_
    refine ⟨s1.heap.objs.size, [s1.heap.objs.size], _, _, H1, rfl, I1.kept (t' := s1.toks) fun b o e => Heap.get?_push_of_some _ e, turn_tuple a _, ⟨_, Heap.get?_push_size _ rfl, rfl, rfl⟩, fun b hb => ?_, q⟩
    have e : b = s1.heap.objs.size := by simpa using hb
    subst e
    exact I1.fpOk (Nat.le_refl _) (I1.hok.fresh (Nat.le_refl _))
  · obtain ⟨t, rfl⟩ := r1
    cases ha : x.cps.all (· < 128)
    · exact wpAny_pyIter_wide ha (pi_one (tk := s1.toks) I1 _ (turn_str _ x t "str_iterator" (.inr rfl)) ⟨_, Heap.get?_push_size _ rfl, rfl, rfl⟩ q)
    · exact wpAny_pyIter_ascii ha (pi_one (tk := s1.toks) I1 _ (turn_str _ x t "str_ascii_iterator" (.inl rfl)) ⟨_, Heap.get?_push_size _ rfl, rfl, rfl⟩ q)
section
variable {Z : Zone} {γ : Gm} {tg e a b : Expr} {pos p : Pos} {t ta tb : Nv → M D} {K : PySem.W.Frag} {H : Hp}
theorem sqL_fun {H : Hp} {a : Addr} {o : Obj} {xs ys : List V} (h : H a = some (.frz o (.lst xs))) (k : ∀ zs, SqL K H a zs → zs.length = zs.length) : True := trivial
theorem it_lst {a : Addr} {o : Obj} {vs : List V} {ds : List D} (h : H a = some (.frz o (.lst vs))) (l : vs.length ≤ sizeLine) (r : RepL K Z H ds vs) : ItOk K Z (Itl K a) H ds where
  sz := by rw [r.length]; exact l
  go := fun i H' s k hi => by
    have hv : i < vs.length := by rw [← r.length]; exact hi
    exact ⟨vs, vs[i], .inl (.inr ⟨o, s _ _ h trivial⟩), List.getElem?_eq_getElem hv⟩
  yld := fun i d H' x H'' s k hd y => by
    obtain ⟨rfl, y⟩ := y
    have hx := y vs (.inl (.inr ⟨o, s _ _ h trivial⟩))
    obtain ⟨v, hv, rv⟩ := r.get hd
    rw [hx] at hv
    cases hv
    exact ⟨.refl _, rv.stb s⟩
  stop := fun H' s k => ⟨vs, .inl (.inr ⟨o, s _ _ h trivial⟩), by rw [r.length]; exact Nat.le_refl _⟩
theorem it_tup {a : Addr} {vs : List V} {ds : List D} (h : SqT K H a vs) (l : vs.length ≤ sizeLine) (r : RepL K Z H ds vs) : ItOk K Z (Itt K a) H ds where
  sz := by rw [r.length]; exact l
  go := fun i H' s k hi => by
    have hv : i < vs.length := by rw [← r.length]; exact hi
    exact ⟨vs, vs[i], SqT.stb s h, List.getElem?_eq_getElem hv⟩
  yld := fun i d H' x H'' s k hd y => by
    obtain ⟨rfl, y⟩ := y
    have hx := y vs (SqT.stb s h)
    obtain ⟨v, hv, rv⟩ := r.get hd
    rw [hx] at hv
    cases hv
    exact ⟨.refl _, rv.stb s⟩
  stop := fun H' s k => ⟨vs, SqT.stb s h, by rw [r.length]; exact Nat.le_refl _⟩
theorem strOk_mem {z : Str} {c : Nat} (h : PyData.strOk z = true) (e : c ∈ z.cps.toList) : PyData.strOk ⟨#[c]⟩ = true := by
  have h2 := Array.all_eq_true'.mp h c (by simpa using e)
  simpa [PyData.strOk] using h2
theorem it_str {z : Str} (h : PyData.strOk z = true) (l : szOk z.length) : ItOk K Z (Its z) H (z.cps.toList.map fun c => D.str ⟨#[c]⟩) where
  sz := by rw [List.length_map, sizeLine_eq]; exact l
  go := fun i H' s k hi => by simpa [Its] using hi
  yld := fun i d H' x H'' s k hd y => by
    obtain ⟨rfl, c, hc, rfl⟩ := y
    rw [List.getElem?_map] at hd
    have e : z.cps.toList[i]? = some c := by rw [Array.getElem?_toList]; exact hc
    rw [e] at hd
    cases hd
    exact ⟨.refl _, .str (strOk_mem h (List.mem_of_getElem? e))⟩
  stop := fun H' s k => by simp [Its]
theorem it_rng {lo hi : Int} (l : hi - lo ≤ 16777216) : ItOk K Z (Itr lo (hi - lo).toNat) H (rngL lo hi) where
  sz := by unfold rngL; rw [List.length_map, List.length_range, sizeLine_eq]; omega
  go := fun i H' s k hi => by
    unfold rngL at hi
    rw [List.length_map, List.length_range] at hi
    exact hi
  yld := fun i d H' x H'' s k hd y => by
    obtain ⟨rfl, rfl⟩ := y
    unfold rngL at hd
    rw [List.getElem?_map] at hd
    by_cases hi : i < (hi - lo).toNat
    · rw [List.getElem?_range hi] at hd
      cases hd
      exact ⟨.refl _, .int _⟩
    · rw [List.getElem?_eq_none (by simpa using hi)] at hd
      cases hd
  stop := fun H' s k => by
    unfold rngL
    rw [List.length_map, List.length_range]
    exact Nat.le_refl _
theorem di_val (h : DE Z γ e t) : DI Z γ tg e (fun ρ => bnd (t ρ) itD) := fun W => by
  obtain ⟨te, pe, rd⟩ := h W
  refine ⟨iVal γ.g.K te, fun X F => by rw [← F.K]; exact pi_val (pe X F), fun ρ σ H H0 Q E R S q k kx => rd ρ σ H H0 _ E _ S q (fun v d H1 e1 k1 r1 q1 => ?_) kx⟩
  cases d with
  | tup ds =>
    obtain ⟨a, vs, rfl, h1, l1, r2⟩ := r1.tup_inv
    exact .inr (.inl ⟨a, rfl, ⟨vs, h1⟩, k _ _ H1 e1 k1 (it_tup h1 l1 r2) q1⟩)
  | lst ds =>
    obtain ⟨a, o, vs, rfl, h1, l1, r2⟩ := r1.lst_inv
    exact .inl ⟨a, rfl, ⟨vs, sqL_frz h1⟩, k _ _ H1 e1 k1 (it_lst h1 l1 r2) q1⟩
  | str z =>
    obtain ⟨rfl, oz⟩ := r1.str_inv
    exact .inr (.inr ⟨z, rfl, k _ _ H1 e1 k1 (it_str oz q1.1) q1.2⟩)
  | _ => exact q1.elim
theorem di_range1 (hg : γ.sc.names.lookup ("range" : Str) = some .globalImplicit) (hm : γ.g.mg ("range" : Str) = none) (ha : DE Z γ a ta) (hp : plain a = true) : DI Z γ tg (.Call (.Name "range" p) [a] [] pos) (fun ρ => bnd (ta ρ) fun x => bnd (partI x) fun j => gd (-(2 ^ 62) ≤ j ∧ j ≤ 16777216) (ret (rngL 0 j))) := fun W => by
  obtain ⟨te, pe, rd⟩ := da_cons hp ha (da_nil (Z := Z) (γ := γ)) W
  refine ⟨_, fun X F => pi_range1 (F.kd hg) (by rw [F.mg]; exact hm) (pe X F) (star_cons hp _), fun ρ σ H H0 Q E R S q k kx => rd ρ σ H H0 (fun ds κ => match ds with | [x] => bnd (partI x) (fun j => gd (-(2 ^ 62) ≤ j ∧ j ≤ 16777216) (ret (rngL 0 j))) κ Q E | _ => False) E _ S q (fun vs ds H1 e1 k1 r1 hl q1 => ?_) kx⟩
  obtain ⟨d, rfl⟩ := List.length_eq_one_iff.mp hl
  cases d with
  | int j =>
    cases r1 with
    | cons h r =>
      cases r
      obtain rfl := h.int_inv
      obtain ⟨⟨b1, b2⟩, q1⟩ := (q1 : (-(2 ^ 62) ≤ j ∧ j ≤ 16777216) ∧ Q (rngL 0 j) _)
      refine ⟨j, rfl, b1, by omega, k _ _ H1 e1 k1 ?_ q1⟩
      have z := it_rng (K := γ.g.K) (Z := Z) (H := H1) (lo := 0) (hi := j) (by omega)
      rw [Int.sub_zero] at z
      exact z
  | _ => exact q1.elim
theorem di_range2 (hg : γ.sc.names.lookup ("range" : Str) = some .globalImplicit) (hm : γ.g.mg ("range" : Str) = none) (ha : DE Z γ a ta) (hb : DE Z γ b tb) (hp : plain a = true) (hp2 : plain b = true) : DI Z γ tg (.Call (.Name "range" p) [a, b] [] pos) (fun ρ => bnd (ta ρ) fun x => bnd (tb ρ) fun y => bnd (partI x) fun i => bnd (partI y) fun j => gd ((-(2 ^ 62) ≤ i ∧ i < 2 ^ 62) ∧ (-(2 ^ 62) ≤ j ∧ j < 2 ^ 62) ∧ j - i ≤ 16777216) (ret (rngL i j))) := fun W => by
  obtain ⟨te, pe, rd⟩ := da_cons hp ha (da_cons hp2 hb (da_nil (Z := Z) (γ := γ))) W
  refine ⟨_, fun X F => pi_range2 (F.kd hg) (by rw [F.mg]; exact hm) (pe X F) (by rw [star_cons hp, star_cons hp2]; rfl) (by rw [star_cons hp2]; rfl), fun ρ σ H H0 Q E R S q k kx => rd ρ σ H H0 (fun ds κ => match ds with | [x, y] => bnd (partI x) (fun i => bnd (partI y) fun j => gd ((-(2 ^ 62) ≤ i ∧ i < 2 ^ 62) ∧ (-(2 ^ 62) ≤ j ∧ j < 2 ^ 62) ∧ j - i ≤ 16777216) (ret (rngL i j))) κ Q E | _ => False) E _ S q (fun vs ds H1 e1 k1 r1 hl q1 => ?_) kx⟩
  obtain ⟨d, d2, rfl⟩ : ∃ d d2, ds = [d, d2] := by
    match ds, hl with
    | [d, d2], _ => exact ⟨d, d2, rfl⟩
  cases d with
  | int i => cases d2 with
    | int j => cases r1 with
     | cons h r =>
      cases r with
      | cons h2 r =>
        cases r
        obtain rfl := h.int_inv
        obtain rfl := h2.int_inv
        obtain ⟨⟨⟨b1, b2⟩, ⟨b3, b4⟩, b5⟩, q1⟩ := (q1 : ((-(2 ^ 62) ≤ i ∧ i < 2 ^ 62) ∧ (-(2 ^ 62) ≤ j ∧ j < 2 ^ 62) ∧ j - i ≤ 16777216) ∧ Q (rngL i j) _)
        exact ⟨i, j, rfl, ⟨b1, b2, b3, b4⟩, k _ _ H1 e1 k1 (it_rng b5) q1⟩
    | _ => exact q1.elim
  | _ => exact q1.elim
theorem enumL_get : ∀ {ds : List D} {k : Int} {i : Nat}, (enumL k ds)[i]? = ds[i]?.map fun x => D.tup [.int (k + i), x]
  | [], k, i => by simp [enumL]
  | d :: ds, k, 0 => by simp [enumL]
  | d :: ds, k, i + 1 => by
    simp only [enumL, List.getElem?_cons_succ]
    rw [enumL_get]
    have e : k + 1 + (i : Int) = k + ((i + 1 : Nat) : Int) := by omega
    rw [e]
theorem enumL_len : ∀ {ds : List D} {k : Int}, (enumL k ds).length = ds.length
  | [], k => rfl
  | d :: ds, k => by simp only [enumL, List.length_cons, enumL_len]
theorem zipL_get : ∀ {xs ys : List D} {i : Nat} {d : D}, (zipL xs ys)[i]? = some d → ∃ x y, xs[i]? = some x ∧ ys[i]? = some y ∧ d = .tup [x, y]
  | [], _, i, d, h => by simp [zipL] at h
  | x :: xs, [], i, d, h => by simp [zipL] at h
  | x :: xs, y :: ys, 0, d, h => by
    simp only [zipL, List.getElem?_cons_zero, Option.some.injEq] at h
    exact ⟨x, y, rfl, rfl, h.symm⟩
  | x :: xs, y :: ys, i + 1, d, h => by
    simp only [zipL, List.getElem?_cons_succ] at h
    obtain ⟨a, b, h1, h2, h3⟩ := zipL_get (xs := xs) h
    exact ⟨a, b, by simpa using h1, by simpa using h2, h3⟩
theorem zipL_len : ∀ {xs ys : List D}, (zipL xs ys).length = min xs.length ys.length
  | [], _ => by simp [zipL]
  | x :: xs, [] => by simp [zipL]
  | x :: xs, y :: ys => by
    simp only [zipL, List.length_cons, zipL_len]
    omega
theorem two_new {p : Addr} {x y : V} {d e : D} {H : Hp} (hp : H p = none) (r : Rep K Z H d x) (r2 : Rep K Z H e y) : Ex H (upd H p (.tup [x, y])) ∧ Rep K Z (upd H p (.tup [x, y])) (.tup [d, e]) (.ref p) :=
  ⟨Ex.new hp, .tup (.inl (.inl upd_same)) (by rw [sizeLine_eq]; show 2 ≤ 16777216; decide) (.cons (r.stb (Ex.new hp).stb) (.cons (r2.stb (Ex.new hp).stb) .nil))⟩
theorem it_enum {a : Addr} {o : Obj} {vs : List V} {ds : List D} (h : H a = some (.frz o (.lst vs))) (l : vs.length ≤ sizeLine) (r : RepL K Z H ds vs) : ItOk K Z (Ite K a) H (enumL 0 ds) where
  sz := by rw [enumL_len, r.length]; exact l
  go := fun i H' s k hi => by
    rw [enumL_len] at hi
    have hv : i < vs.length := by rw [← r.length]; exact hi
    exact ⟨vs, vs[i], .inl (.inr ⟨o, s _ _ h trivial⟩), List.getElem?_eq_getElem hv⟩
  yld := fun i d H' x H'' s k hd y => by
    obtain ⟨T, y, rfl, hT, rfl, hy⟩ := y
    have hx := hy vs (.inl (.inr ⟨o, s _ _ h trivial⟩))
    rw [enumL_get] at hd
    obtain ⟨d', hd', rfl⟩ := Option.map_eq_some_iff.mp hd
    obtain ⟨v, hv, rv⟩ := r.get hd'
    rw [hx] at hv
    cases hv
    have e : (0 : Int) + (i : Int) = (i : Nat) := by omega
    rw [e]
    exact two_new hT (.int _) (rv.stb s)
  stop := fun H' s k => ⟨vs, .inl (.inr ⟨o, s _ _ h trivial⟩), by rw [enumL_len, r.length]; exact Nat.le_refl _⟩
theorem it_enumT {a : Addr} {vs : List V} {ds : List D} (h : SqT K H a vs) (l : vs.length ≤ sizeLine) (r : RepL K Z H ds vs) : ItOk K Z (IteT K a) H (enumL 0 ds) where
  sz := by rw [enumL_len, r.length]; exact l
  go := fun i H' s k hi => by
    rw [enumL_len] at hi
    have hv : i < vs.length := by rw [← r.length]; exact hi
    exact ⟨vs, vs[i], SqT.stb s h, List.getElem?_eq_getElem hv⟩
  yld := fun i d H' x H'' s k hd y => by
    obtain ⟨T, y, rfl, hT, rfl, hy⟩ := y
    have hx := hy vs (SqT.stb s h)
    rw [enumL_get] at hd
    obtain ⟨d', hd', rfl⟩ := Option.map_eq_some_iff.mp hd
    obtain ⟨v, hv, rv⟩ := r.get hd'
    rw [hx] at hv
    cases hv
    have e : (0 : Int) + (i : Int) = (i : Nat) := by omega
    rw [e]
    exact two_new hT (.int _) (rv.stb s)
  stop := fun H' s k => ⟨vs, SqT.stb s h, by rw [enumL_len, r.length]; exact Nat.le_refl _⟩
theorem it_zipL {a b : Addr} {o o2 : Obj} {vs ws : List V} {ds es : List D} (h : H a = some (.frz o (.lst vs))) (h2 : H b = some (.frz o2 (.lst ws))) (l : vs.length ≤ sizeLine) (r : RepL K Z H ds vs) (r2 : RepL K Z H es ws) : ItOk K Z (Itz K a b) H (zipL ds es) where
  sz := by rw [zipL_len, r.length]; exact Nat.le_trans (Nat.min_le_left _ _) l
  go := fun i H' s k hi => by
    rw [zipL_len] at hi
    have hv : i < vs.length := by rw [← r.length]; omega
    have hw : i < ws.length := by rw [← r2.length]; omega
    exact ⟨vs, ws, vs[i], ws[i], .inl (.inr ⟨o, s _ _ h trivial⟩), .inl (.inr ⟨o2, s _ _ h2 trivial⟩), List.getElem?_eq_getElem hv, List.getElem?_eq_getElem hw⟩
  yld := fun i d H' x H'' s k hd y => by
    obtain ⟨T, y, z, rfl, hT, rfl, hy, hz⟩ := y
    have hx := hy vs (.inl (.inr ⟨o, s _ _ h trivial⟩))
    have hx2 := hz ws (.inl (.inr ⟨o2, s _ _ h2 trivial⟩))
    obtain ⟨d1, d2, g1, g2, rfl⟩ := zipL_get hd
    obtain ⟨v, hv, rv⟩ := r.get g1
    obtain ⟨w, hw, rw'⟩ := r2.get g2
    rw [hx] at hv
    rw [hx2] at hw
    cases hv
    cases hw
    exact two_new hT (rv.stb s) (rw'.stb s)
  stop := fun H' s k => ⟨vs, ws, .inl (.inr ⟨o, s _ _ h trivial⟩), .inl (.inr ⟨o2, s _ _ h2 trivial⟩), by rw [zipL_len, r.length, r2.length]; omega⟩
theorem it_zipT {a b : Addr} {vs ws : List V} {ds es : List D} (h : SqT K H a vs) (h2 : SqT K H b ws) (l : vs.length ≤ sizeLine) (r : RepL K Z H ds vs) (r2 : RepL K Z H es ws) : ItOk K Z (RZ.ItzT K a b) H (zipL ds es) where
  sz := by rw [zipL_len, r.length]; exact Nat.le_trans (Nat.min_le_left _ _) l
  go := fun i H' s k hi => by
    rw [zipL_len] at hi
    have hv : i < vs.length := by rw [← r.length]; omega
    have hw : i < ws.length := by rw [← r2.length]; omega
    exact ⟨vs, ws, vs[i], ws[i], SqT.stb s h, SqT.stb s h2, List.getElem?_eq_getElem hv, List.getElem?_eq_getElem hw⟩
  yld := fun i d H' x H'' s k hd y => by
    obtain ⟨T, y, z, rfl, hT, rfl, hy, hz⟩ := y
    have hx := hy vs (SqT.stb s h)
    have hx2 := hz ws (SqT.stb s h2)
    obtain ⟨d1, d2, g1, g2, rfl⟩ := zipL_get hd
    obtain ⟨v, hv, rv⟩ := r.get g1
    obtain ⟨w, hw, rw'⟩ := r2.get g2
    rw [hx] at hv
    rw [hx2] at hw
    cases hv
    cases hw
    exact two_new hT (rv.stb s) (rw'.stb s)
  stop := fun H' s k => ⟨vs, ws, SqT.stb s h, SqT.stb s h2, by rw [zipL_len, r.length, r2.length]; omega⟩
theorem di_enum {elts : List Expr} {kk : Nat} {tpos : Pos} (hg : γ.sc.names.lookup ("enumerate" : Str) = some .globalImplicit) (hm : γ.g.mg ("enumerate" : Str) = none) (ha : DE Z γ a ta) (hp : plain a = true) : DI Z γ (.Tuple elts kk tpos) (.Call (.Name "enumerate" p) [a] [] pos) (fun ρ => bnd (ta ρ) fun x => bnd (isSeq x) fun xs => ret (enumL 0 xs)) := fun W => by
  obtain ⟨te, pe, rd⟩ := da_cons hp ha (da_nil (Z := Z) (γ := γ)) W
  refine ⟨iEnumA γ.g.K te, fun X F => by rw [← F.K]; exact pi_enumA (F.kd hg) (by rw [F.mg]; exact hm) (pe X F) (star_cons hp _), fun ρ σ H H0 Q E R S q k kx => rd ρ σ H H0 (fun ds κ => match ds with | [x] => bnd (isSeq x) (fun xs => ret (enumL 0 xs)) κ Q E | _ => False) E _ S q (fun vs ds H1 e1 k1 r1 hl q1 => ?_) kx⟩
  obtain ⟨d, rfl⟩ := List.length_eq_one_iff.mp hl
  cases d with
  | lst xs =>
    cases r1 with
    | cons h r =>
      cases r
      obtain ⟨a, o, vs, rfl, h1, l1, r2⟩ := h.lst_inv
      exact ⟨a, vs, rfl, .inl ⟨sqL_frz h1, k _ _ H1 e1 k1 (it_enum h1 l1 r2) q1⟩⟩
  | tup xs =>
    cases r1 with
    | cons h r =>
      cases r
      obtain ⟨a, vs, rfl, h1, l1, r2⟩ := h.tup_inv
      exact ⟨a, vs, rfl, .inr ⟨h1, k _ _ H1 e1 k1 (it_enumT h1 l1 r2) q1⟩⟩
  | _ => exact q1.elim
theorem di_zip {elts : List Expr} {kk : Nat} {tpos : Pos} (hg : γ.sc.names.lookup ("zip" : Str) = some .globalImplicit) (hm : γ.g.mg ("zip" : Str) = none) (ha : DE Z γ a ta) (hb : DE Z γ b tb) (hp : plain a = true) (hp2 : plain b = true) : DI Z γ (.Tuple elts kk tpos) (.Call (.Name "zip" p) [a, b] [] pos) (fun ρ => bnd (ta ρ) fun x => bnd (tb ρ) fun y => zipM x y) := fun W => by
  obtain ⟨te, pe, rd⟩ := da_cons hp ha (da_cons hp2 hb (da_nil (Z := Z) (γ := γ))) W
  refine ⟨RZ.iZipA γ.g.K te, fun X F => by rw [← F.K]; exact RZ.pi_zipA (F.kd hg) (by rw [F.mg]; exact hm) (pe X F) (star_cons hp _) (by rw [star_cons hp2]; rfl), fun ρ σ H H0 Q E R S q k kx => rd ρ σ H H0 (fun ds κ => match ds with | [x, y] => zipM x y κ Q E | _ => False) E _ S q (fun vs ds H1 e1 k1 r1 hl q1 => ?_) kx⟩
  obtain ⟨d, d2, rfl⟩ : ∃ d d2, ds = [d, d2] := by
    match ds, hl with
    | [d, d2], _ => exact ⟨d, d2, rfl⟩
  cases r1 with
  | cons h r => cases r with
   | cons h2 r =>
    cases r
    cases d with
    | lst xs => cases d2 with
      | lst ys =>
        obtain ⟨a, o, vs, rfl, h1, l1, r1⟩ := h.lst_inv
        obtain ⟨b, o2, ws, rfl, h3, l2, r2⟩ := h2.lst_inv
        exact ⟨a, b, vs, ws, rfl, .inl ⟨sqL_frz h1, sqL_frz h3, k _ _ H1 e1 k1 (it_zipL h1 h3 l1 r1 r2) q1⟩⟩
      | _ => exact q1.elim
    | tup xs => cases d2 with
      | tup ys =>
        obtain ⟨a, vs, rfl, h1, l1, r1⟩ := h.tup_inv
        obtain ⟨b, ws, rfl, h3, l2, r2⟩ := h2.tup_inv
        exact ⟨a, b, vs, ws, rfl, .inr ⟨h1, h3, k _ _ H1 e1 k1 (it_zipT h1 h3 l1 r1 r2) q1⟩⟩
      | _ => exact q1.elim
    | _ => exact q1.elim
end
end PL

/-! PLm: comprehensions. -/
namespace PL
open PySem
open PySem.Spec
open PyProof.Rows
open L2
def blkG (γ : Gm) (scope : Scope) : Gm := ⟨γ.g, γ.N, relS scope γ.sc, γ.k, false, fun x => scope.names.lookup x == some .cell, γ.cd, γ.ql⟩
def noW : WX := fun _ _ _ _ => False
theorem Fam.blk {γ : Gm} {W : WX} {X : Cx} (F : Fam γ W X) (s : Shared) (H : Hp) (scope : Scope) (C : Addr) (cl : List (Str × Addr)) (fp : List Addr) : Fam (blkG γ scope) noW (X.blk s H scope (compEnvC scope cl C X.env) fp) where
  ge := F.ge
  N := F.N
  nd := F.nd
  sc := by show relS scope X.env.scope = relS scope γ.sc; rw [F.sc]
  room := F.room
  gu := F.gu
  calm := F.calm
  tk := fun u s' ⟨_, _, _, _, _, _, _, _, _, _, _, _, _, _, _, _, w⟩ => w.elim
  fb := fun x h => h
  top := fun h => nomatch h
  code := fun h => nomatch h
/-- a clause's tests -/
def DTs (Z : Zone) (γ : Gm) (ifs : List Expr) (t : Nv → M Bool) : Prop := ∀ W, ∃ tt, (∀ X, Fam γ W X → PTs X ifs tt) ∧ RdgB γ.g.K Z W tt t
section
variable {Z : Zone} {γ : Gm} {e : Expr} {t : Nv → M Bool}
theorem dts_nil : DTs Z γ [] (fun _ => ret true) := fun W => ⟨tYes, fun X F => pts_nil, fun ρ σ H H0 Q E R S q k _ => k true H (.refl _ _) S.ok q⟩
theorem dts_one (h : DT Z γ e t) : DTs Z γ [e] t := fun W => by
  obtain ⟨tt, pt, rd⟩ := h W
  exact ⟨tt, fun X F => pts_one (pt X F), rd⟩
end
section
variable {Z : Zone} {γ : Gm}
theorem mu_not {H : Hp} {p : Addr} (k : Z.sm H) (h : H p = none) : ¬ Z.mu p := fun m => by
  obtain ⟨_, k⟩ := k
  obtain ⟨o, ho⟩ := Z.there H p k (Z.sub p m)
  rw [h] at ho
  cases ho
theorem wipe_wipe (σ : L2.St) (vs : List Nat) : L2.wipe (L2.wipe σ vs) vs = L2.wipe σ vs := wipe_eq (wipe_length _ _) fun j hj => wipe_out hj
theorem lc_rdg {W : WX} {K : PySem.W.Frag} {wi : TI} {g : TG} {tt : TT} {ue : TE} {vs : List Nat} {tgd : Tg} {ti : Nv → M (List D)} {tc : Nv → M Bool} {te : Nv → M D}
    (ri : RdgI K Z W wi ti) (rg : ∀ {κ : Nat} d v ρ σ H H0 Q E R, SR K Z κ H0 ρ σ H → Rep K Z H d v → asgE tgd d ρ κ Q E → (∀ ρ' σ', SR K Z κ H0 ρ' σ' H → (σ'.length = σ.length ∧ ∀ j, j ∉ tgd.ix → σ'[j]? = σ[j]?) → Q ρ' κ → R σ' H) → g v σ H R)
    (rt : RdgB K Z noW tt tc) (re : Rdg K Z noW ue te) (hsub : ∀ j ∈ tgd.ix, j ∈ vs) :
    RdgN K Z W (tLc wi g tt ue vs) (fun ρ => bnd (ti ρ) fun ds => bnd (noE (mapO (turnM (asgE tgd) vs tc te ρ) ds)) fun ys => ret (.lst ys)) := by
  intro κ ρ σ H H0 Q E R S q k kx
  refine ri ρ σ H H0 _ E _ S q (fun J ds H1 e1 k1 J1 q1 D hD => ?_) kx
  have hm : ¬ Z.mu D := mu_not ⟨_, k1⟩ hD
  refine ⟨fun i m H' => m = ds.length - i ∧ i ≤ ds.length ∧ Ext Z H1 H' ∧ ∃ κ acc ys, Z.ok κ H' ∧ H' D = some (.lst acc) ∧ RepL K Z H' ys acc ∧ acc.length ≤ i ∧ mapO (turnM (asgE tgd) vs tc te ρ) (ds.drop i) κ (fun zs κ => Q (.lst (ys ++ zs)) κ) (fun _ _ => False), ⟨ds.length, by simp, Nat.zero_le _, (Ex.new hD).ext, _, [], [], (Ex.new hD).ok k1, upd_same, .nil, Nat.le_refl _, by rw [List.drop_zero]; exact q1⟩, ?_⟩
  rintro i m H2 ⟨rfl, hi, e2, κ2, acc, ys, k2, hD2, ra, la, q2⟩
  by_cases hlt : i < ds.length
  · refine .inr ⟨J1.go i H2 (e2.stb k1) ⟨_, k2⟩ hlt, fun H' => (ds.length - (i + 1) = ds.length - (i + 1)) ∧ i + 1 ≤ ds.length ∧ Ext Z H1 H' ∧ ∃ κ acc ys, Z.ok κ H' ∧ H' D = some (.lst acc) ∧ RepL K Z H' ys acc ∧ acc.length ≤ i + 1 ∧ mapO (turnM (asgE tgd) vs tc te ρ) (ds.drop (i + 1)) κ (fun zs κ => Q (.lst (ys ++ zs)) κ) (fun _ _ => False), fun H' w => ⟨ds.length - (i + 1), by omega, w⟩, fun x H3 hy => ?_⟩
    have hd : ds[i]? = some ds[i] := List.getElem?_eq_getElem hlt
    rw [List.drop_eq_getElem_cons hlt] at q2
    obtain ⟨x3, r3⟩ := J1.yld i _ H2 x H3 (e2.stb k1) ⟨_, k2⟩ hd hy
    have k3 := x3.ok k2
    have e3 : Ext Z H1 H3 := e2.trans x3.ext
    have S3 : SR K Z _ H0 (wipeE vs ρ) (L2.wipe σ vs) H3 := (S.mono (e1.trans e3) k3).wipe
    have q2 : asgE tgd ds[i] (wipeE vs ρ) _ _ (fun _ _ => False) := q2
    refine rg _ _ _ _ H3 H0 _ _ _ S3 r3 q2 fun ρ' σ' S' o' q' => ⟨?_, ?_⟩
    · rw [wipe_eq o'.1 (fun j hj => o'.2 j fun z => hj (hsub j z)), wipe_wipe]
    · refine rt ρ' σ' H3 H0 _ _ _ S' q' (fun b H4 e4 k4 q4 => ?_) (fun _ _ _ _ _ _ _ z => z.elim)
      have hD4 : H4 D = some (.lst acc) := e4 _ _ (x3 _ _ hD2) hm
      have ra4 : RepL K Z H4 ys acc := RepL.stb (e4.stb k3) (RepL.stb x3.stb ra)
      cases b with
      | false =>
        rw [if_neg Bool.false_ne_true]
        exact ⟨rfl, hlt, e3.trans e4, _, acc, ys, k4, hD4, ra4, Nat.le_succ_of_le la, q4⟩
      | true =>
        rw [if_pos rfl]
        refine re ρ' σ' H4 H0 _ _ _ (S'.mono e4 k4) q4 (fun v d H5 e5 k5 r5 q5 => ?_) (fun _ _ _ _ _ _ _ z => z.elim)
        have hD5 : H5 D = some (.lst acc) := e5 _ _ hD4 hm
        have ra5 : RepL K Z H5 ys acc := RepL.stb (e5.stb k4) ra4
        have e15 : Ext Z H1 H5 := (e3.trans e4).trans e5
        refine ⟨acc, hD5, Nat.lt_of_le_of_lt la (Nat.lt_of_lt_of_le hlt J1.sz), rfl, hlt, fun a o ha m => ?_, _, acc ++ [v], ys ++ [d], ok_upd ⟨_, k1⟩ hD k5 (ne_ext hD5), upd_same, ?_, by rw [List.length_append]; exact Nat.succ_le_succ la, ?_⟩
        · rw [upd_ne (ne_of_none ha hD)]
          exact e15 a o ha m
        · have st : Stb H5 (upd H5 D (.lst (acc ++ [v]))) := stb_upd hD5 fun z => z
          exact RepL.append (RepL.stb st ra5) (.one (r5.stb st))
        · have e : (fun zs κ => Q (.lst (ys ++ [d] ++ zs)) κ) = fun zs κ => Q (.lst (ys ++ d :: zs)) κ := by
            funext zs κ
            rw [List.append_assoc]
            rfl
          rw [e]
          exact q5
  · have ei : i = ds.length := by omega
    refine .inl ⟨by rw [ei]; exact J1.stop H2 (e2.stb k1) ⟨_, k2⟩, ?_⟩
    rw [List.drop_eq_nil_of_le (by omega)] at q2
    have q2 : Q (.lst (ys ++ [])) _ := q2
    rw [List.append_nil] at q2
    exact k D ys acc H2 (e1.trans e2) k2 (ext_none S.sm k1 e1 hD) hD2 (Nat.le_trans la (by rw [ei]; exact J1.sz)) ra q2
/-- no set display -/
def foldOk : Expr → Bool
  | .Set _ _ _ => false
  | _ => true
theorem fold_ok {e : Expr} (h : foldOk e = true) (env : PySem.Env) (x : Value) : foldedSetIterable e env x = pure x := by
  cases e <;> first | rfl | (simp [foldOk] at h)
theorem dn_lc {elt tg iter : Expr} {ifs : List Expr} {scope : Scope} {own : List (Str × Nat)} {pos : Pos} {tgd : Tg} {ti : Nv → M (List D)} {tc : Nv → M Bool} {te : Nv → M D}
    (hi : DI Z γ tg iter ti) (ok : BlkOk γ.N γ.sc scope own) (hg : DG Z (blkG γ scope) tg tgd) (hsub : ∀ j ∈ tgd.ix, j ∈ own.map (·.2)) (ht : DTs Z (blkG γ scope) ifs tc) (he : DE Z (blkG γ scope) elt te) (hf : foldOk iter = true) :
    DN Z γ (.ListComp elt [⟨tg, iter, ifs, 0⟩] scope pos) (fun ρ => bnd (ti ρ) fun ds => bnd (noE (mapO (turnM (asgE tgd) (own.map (·.2)) tc te ρ) ds)) fun ys => ret (.lst ys)) := fun W => by
  obtain ⟨wi, pi, ri⟩ := hi W
  obtain ⟨g, pg, rg⟩ := hg
  obtain ⟨tt, pt, rt⟩ := ht noW
  obtain ⟨ue, pe, re⟩ := he noW
  refine ⟨tLc wi g tt ue (own.map (·.2)), fun X F => ?_, lc_rdg ri rg rt re hsub⟩
  exact pe_lc F.calm (by rw [F.N]; exact F.nd) (pi X F) (by rw [F.N, F.sc]; exact ok) (fun s H C cl fp => pg noW _ (F.blk s H scope C cl fp)) (fun s H C cl fp => pt _ (F.blk s H scope C cl fp)) (fun s H C cl fp => pe _ (F.blk s H scope C cl fp)) (fold_ok hf _)
end
end PL

/-! PLn: statements. -/
namespace PL
open PySem
open PySem.Spec
open PyProof.Rows
open L2
structure AnO (K : PySem.W.Frag) (Z : Zone) (H0 H : Hp) (Q : Out → Nat → Prop) (D : Ends) : Prop where
  nx : ∀ {κ : Nat} ρ σ H', SR K Z κ H0 ρ σ H' → Stb H H' → Q (.nx ρ) κ → D.nx σ H'
  rt : ∀ {κ : Nat} d v H', Ext Z H0 H' → Z.ok κ H' → Rep K Z H' d v → Q (.rt d) κ → D.rt v H'
  bk : ∀ {κ : Nat} ρ σ H', SR K Z κ H0 ρ σ H' → Stb H H' → Q (.bk ρ) κ → D.bk σ H'
  ct : ∀ {κ : Nat} ρ σ H', SR K Z κ H0 ρ σ H' → Stb H H' → Q (.ct ρ) κ → D.ct σ H'
theorem AnO.at {K : PySem.W.Frag} {Z : Zone} {H0 H H1 : Hp} {Q : Out → Nat → Prop} {D : Ends} (a : AnO K Z H0 H Q D) (s : Stb H H1) : AnO K Z H0 H1 Q D :=
  ⟨fun ρ σ H' S k => a.nx ρ σ H' S (s.trans k), a.rt, fun ρ σ H' S k => a.bk ρ σ H' S (s.trans k), fun ρ σ H' S k => a.ct ρ σ H' S (s.trans k)⟩
/-- what may be raised, wherever the slots stand -/
def Xs (Z : Zone) (H0 : Hp) (E : D → Nat → Prop) (W : WX) : Prop := ∀ {κ : Nat} cls dd H' e σ, Ext Z H0 H' → Z.ok κ H' → Z.X H' e cls dd → E e κ → W cls dd σ H'
theorem Xs.xn {Z : Zone} {H0 H : Hp} {E : D → Nat → Prop} {W : WX} (h : Xs Z H0 E W) (e : Ext Z H0 H) (σ : L2.St) : Xn Z H σ E W := fun cls dd H' x e' k q w => h cls dd H' x σ (e.trans e') k q w
def RdgS (K : PySem.W.Frag) (Z : Zone) (W : WX) (ts : TS) (t : Nv → M Out) : Prop := ∀ {κ : Nat} ρ σ H H0 Q E Ds, SR K Z κ H0 ρ σ H → t ρ κ Q E → AnO K Z H0 H Q Ds → Xs Z H0 E W → ts Ds σ H
def DS (Z : Zone) (γ : Gm) (st : Stmt) (t : Nv → M Out) : Prop := ∀ W, ∃ ts, (∀ X, Fam γ W X → PS X st ts) ∧ RdgS γ.g.K Z W ts t
def DSs (Z : Zone) (γ : Gm) (sts : List Stmt) (t : Nv → M Out) : Prop := ∀ W, ∃ ts, (∀ X, Fam γ W X → PSs X sts ts) ∧ RdgS γ.g.K Z W ts t
section
variable {Z : Zone} {γ : Gm} {e : Expr} {st : Stmt} {sts : List Stmt} {pos : Pos} {t u : Nv → M Out}
theorem dss_nil : DSs Z γ [] (fun ρ => ret (.nx ρ)) := fun W => ⟨tNext, fun X F => pss_nil, fun ρ σ H H0 Q E Ds S q a _ => a.nx ρ σ H S (.refl _) q⟩
theorem dss_cons (h : DS Z γ st t) (k : DSs Z γ sts u) : DSs Z γ (st :: sts) (seqM t u) := fun W => by
  obtain ⟨ts, ps, rs⟩ := h W
  obtain ⟨us, pu, ru⟩ := k W
  refine ⟨tSeq ts us, fun X F => pss_cons (ps X F) (pu X F), fun ρ σ H H0 Q E Ds S q a x => rs ρ σ H H0 _ E _ S q ⟨fun ρ' σ' H' S' s' q' => ?_, fun d v H' e' k' r' q' => a.rt d v H' e' k' r' q', fun ρ' σ' H' S' s' q' => a.bk ρ' σ' H' S' s' q', fun ρ' σ' H' S' s' q' => a.ct ρ' σ' H' S' s' q'⟩ x⟩
  exact ru ρ' σ' H' H0 Q E Ds S' q' (a.at s') x
theorem ds_pass : DS Z γ (.Pass pos) (fun ρ => ret (.nx ρ)) := fun W => ⟨tNext, fun X F => ps_pass, fun ρ σ H H0 Q E Ds S q a _ => a.nx ρ σ H S (.refl _) q⟩
theorem ds_doc {x j pos'} : DS Z γ (.Expr (.Constant (.str x) j pos) pos') (fun ρ => ret (.nx ρ)) := fun W => ⟨tNext, fun X F => ps_doc, fun ρ σ H H0 Q E Ds S q a _ => a.nx ρ σ H S (.refl _) q⟩
theorem ds_brk : DS Z γ (.Break pos) (fun ρ => ret (.bk ρ)) := fun W => ⟨tBreak, fun X F => ps_break, fun ρ σ H H0 Q E Ds S q a _ => a.bk ρ σ H S (.refl _) q⟩
theorem ds_cnt : DS Z γ (.Continue pos) (fun ρ => ret (.ct ρ)) := fun W => ⟨tCont, fun X F => ps_continue, fun ρ σ H H0 Q E Ds S q a _ => a.ct ρ σ H S (.refl _) q⟩
/-- no comprehension -/
def noComp : Expr → Bool
  | .ListComp _ _ _ _ | .SetComp _ _ _ _ | .DictComp _ _ _ _ _ => false
  | _ => true
theorem sw_no (h : noComp e = true) (tg : Option Expr) (l : Nat) (env : PySem.Env) : swapsWith e tg l env = pure false := by
  cases e <;> first | rfl | (simp [noComp] at h)
/-- a comprehension that is stored as any value is -/
theorem sw_cell {elt : Expr} {gs : List Comprehension} {scope : Scope} {p py : Pos} {y : Str} {l : Nat} {env : PySem.Env} (hy : env.scope.names.lookup y = some .cell ∨ (py.line == p.line) = false) : swapsWith (.ListComp elt gs scope p) (some (.Name y py)) l env = pure false := by
  unfold swapsWith
  rcases hy with hy | hy
  · have ky : env.kindOf y = some .cell := hy
    have h2 : (NameKind.cell == NameKind.local) = false := by decide
    simp [ky, h2]
  · simp only [Expr.pos, hy, Bool.and_false, Bool.false_and]
variable {tv : Nv → M D} {tn : Nv → M D}
theorem ds_expr (h : DE Z γ e tv) (hn : noComp e = true) : DS Z γ (.Expr e pos) (fun ρ => bnd (tv ρ) fun _ => ret (.nx ρ)) := fun W => by
  obtain ⟨te, pe, rd⟩ := h W
  exact ⟨tDrop te, fun X F => ps_expr (pe X F) (sw_no hn _ _ _), fun ρ σ H H0 Q E Ds S q a x => rd ρ σ H H0 _ E _ S q (fun v d H1 e1 k1 r1 q1 => a.nx ρ σ H1 (S.mono e1 k1) (e1.stb S.ok) q1) (x.xn S.ext σ)⟩
theorem ds_ret (h : DE Z γ e tv) : DS Z γ (.Return (some e) pos) (fun ρ => bnd (tv ρ) fun d => ret (.rt d)) := fun W => by
  obtain ⟨te, pe, rd⟩ := h W
  exact ⟨tRet te, fun X F => ps_ret (pe X F), fun ρ σ H H0 Q E Ds S q a x => rd ρ σ H H0 _ E _ S q (fun v d H1 e1 k1 r1 q1 => a.rt d v H1 (S.ext.trans e1) k1 r1 q1) (x.xn S.ext σ)⟩
theorem ds_retN : DS Z γ (.Return none pos) (fun ρ => ret (.rt .non)) := fun W => ⟨tRetN, fun X F => ps_retN, fun ρ σ H H0 Q E Ds S q a _ => a.rt .non .non H S.ext S.ok .non q⟩
theorem ds_set {i : Nat} {x : Str} {pos' : Pos} (hN : γ.N[i]? = some x) (hx : StoreOk γ x) (h : DE Z γ e tv) (hs : ∀ env : PySem.Env, env.scope = γ.sc → swapsWith e (some (.Name x pos')) pos.line env = pure false) :
    DS Z γ (.Assign [.Name x pos'] e pos) (fun ρ => bnd (tv ρ) fun d => ret (.nx (ρ.set i (.val d)))) := fun W => by
  obtain ⟨te, pe, rd⟩ := h W
  refine ⟨tAsg te (gName i), fun X F => ps_set (by rw [F.N]; exact F.nd) (by rw [F.N]; exact hN) ?_ (pe X F) (hs _ F.sc) ?_, fun ρ σ H H0 Q E Ds S q a x => rd ρ σ H H0 _ E _ S q (fun v d H1 e1 k1 r1 q1 => a.nx _ _ H1 ((S.mono e1 k1).setV r1) (e1.stb S.ok) q1) (x.xn S.ext σ)⟩
  · rcases hx with h | h
    · exact .inl (by rw [F.sc]; exact h)
    · exact .inr (by rw [F.sc]; exact h.1)
  · rcases hx with h | h
    · exact .inr (by rw [F.sc]; exact h)
    · exact .inl (F.fb x h.2)
theorem SR.setO {K : PySem.W.Frag} {H0 H H1 : Hp} {ρ : Nv} {σ : L2.St} (S : SR K Z κ H0 ρ σ H) (e : Ext Z H H1) (k : Z.ok κ' H1) {i : Nat} {p : Addr} {xs : List D} {vs : List V} (hn : H p = none) (hp : H1 p = some (.lst vs)) (hl : vs.length ≤ sizeLine) (r : RepL K Z H1 xs vs) : SR K Z κ' H0 (ρ.set i (.own xs)) (σ.set i (some (.ref p))) H1 := by
  have S1 := S.mono e k
  have hn0 : H0 p = none := ext_none S.ok0 S.ok S.ext hn
  have cs : ∀ {j : Nat} {en : En}, (ρ.set i (.own xs))[j]? = some en → (i = j ∧ en = .own xs ∧ i < ρ.length) ∨ (i ≠ j ∧ ρ[j]? = some en) := fun {j en} h => by
    by_cases hj : i = j
    · subst hj
      by_cases hi : i < ρ.length
      · rw [List.getElem?_set_self hi] at h; cases h; exact .inl ⟨rfl, rfl, hi⟩
      · rw [List.getElem?_eq_none (by simpa using hi)] at h; cases h
    · rw [List.getElem?_set_ne hj] at h
      exact .inr ⟨hj, h⟩
  have notP : ∀ {j : Nat} {ys : List D}, ρ[j]? = some (.own ys) → σ[j]? ≠ some (some (.ref p)) := fun {j ys} h z => by
    obtain ⟨p', vs', h1, _, h2, _⟩ := S.own h
    rw [z] at h1
    cases h1
    rw [hn] at h2
    cases h2
  refine ⟨S1.ok0, S1.ok, S1.ext, by rw [List.length_set, List.length_set, S.len], fun j en h => ?_, fun j l ys zs q h1 h2 h3 h4 => ?_⟩
  · rcases cs h with ⟨rfl, rfl, hi⟩ | ⟨hj, h⟩
    · rw [List.getElem?_set_self (by rw [← S.len]; exact hi)]
      exact ⟨hn0, vs, hp, hl, r⟩
    · rw [List.getElem?_set_ne hj]
      exact S1.slot j en h
  · rcases cs h1 with ⟨e1, _, hi⟩ | ⟨n1, g1⟩ <;> rcases cs h2 with ⟨e2, _, hi2⟩ | ⟨n2, g2⟩
    · exact e1.symm.trans e2
    · rw [← e1, List.getElem?_set_self (by rw [← S.len]; exact hi)] at h3
      rw [List.getElem?_set_ne n2] at h4
      cases h3
      exact absurd h4 (notP g2)
    · rw [← e2, List.getElem?_set_self (by rw [← S.len]; exact hi2)] at h4
      rw [List.getElem?_set_ne n1] at h3
      cases h4
      exact absurd h3 (notP g1)
    · rw [List.getElem?_set_ne n1] at h3
      rw [List.getElem?_set_ne n2] at h4
      exact S.dis j l ys zs q g1 g2 h3 h4
theorem ds_own {i : Nat} {x : Str} {pos' : Pos} (hN : γ.N[i]? = some x) (hx : StoreOk γ x) (h : DN Z γ e tv) (hs : ∀ env : PySem.Env, env.scope = γ.sc → swapsWith e (some (.Name x pos')) pos.line env = pure false) :
    DS Z γ (.Assign [.Name x pos'] e pos) (fun ρ => bnd (tv ρ) fun d => bnd (isLst d) fun xs => ret (.nx (ρ.set i (.own xs)))) := fun W => by
  obtain ⟨te, pe, rd⟩ := h W
  refine ⟨tAsg te (gName i), fun X F => ps_set (by rw [F.N]; exact F.nd) (by rw [F.N]; exact hN) ?_ (pe X F) (hs _ F.sc) ?_, fun ρ σ H H0 Q E Ds S q a x => rd ρ σ H H0 _ E _ S q (fun p xs vs H1 e1 k1 hn hp hl r1 q1 => a.nx _ _ H1 (S.setO e1 k1 hn hp hl r1) (e1.stb S.ok) q1) (x.xn S.ext σ)⟩
  · rcases hx with h | h
    · exact .inl (by rw [F.sc]; exact h)
    · exact .inr (by rw [F.sc]; exact h.1)
  · rcases hx with h | h
    · exact .inr (by rw [F.sc]; exact h)
    · exact .inl (F.fb x h.2)
/-- name = [..] on one line, to be written later -/
theorem ds_ownLc {i : Nat} {y : Str} {py : Pos} {elt tg iter : Expr} {ifs : List Expr} {scope : Scope} {own : List (Str × Nat)} {p : Pos} {tgd : Tg} {ti : Nv → M (List D)} {tc : Nv → M Bool} {te : Nv → M D}
    (hN : γ.N[i]? = some y) (hy : γ.sc.names.lookup y = some .local) (hk : γ.sc.kind = .function) (hl : (py.line == p.line) = true) (ha : (scope.names.any fun (n, k) => n == y && (k == .local || k == .cell)) = false)
    (hi : DI Z γ tg iter ti) (ok : BlkOk γ.N γ.sc scope own) (hg : DG Z (blkG γ scope) tg tgd) (hsub : ∀ j ∈ tgd.ix, j ∈ own.map (·.2)) (ht : DTs Z (blkG γ scope) ifs tc) (he : DE Z (blkG γ scope) elt te) (hf : foldOk iter = true) :
    DS Z γ (.Assign [.Name y py] (.ListComp elt [⟨tg, iter, ifs, 0⟩] scope p) pos) (fun ρ => bnd (bnd (ti ρ) fun ds => bnd (noE (mapO (turnM (asgE tgd) (own.map (·.2)) tc te ρ) ds)) fun ys => ret (.lst ys)) fun d => bnd (isLst d) fun xs => ret (.nx (ρ.set i (.own xs)))) := fun W => by
  obtain ⟨wi, pi, ri⟩ := hi W
  obtain ⟨g, pg, rg⟩ := hg
  obtain ⟨tt, pt, rt⟩ := ht noW
  obtain ⟨ue, pe, re⟩ := he noW
  refine ⟨tAsg (tLc wi g tt ue (own.map (fun x => x.2))) (gName i), fun X F => ?_, fun ρ σ H H0 Q E Ds S q a x => ?_⟩
  rotate_left
  · exact lc_rdg ri rg rt re hsub ρ σ H H0 _ E (fun x H1 => gName i x σ H1 Ds.nx) S q (fun p xs vs H1 e1 k1 hn hp hl r1 q1 => a.nx _ _ H1 (S.setO e1 k1 hn hp hl r1) (e1.stb S.ok) q1) (x.xn S.ext σ)
  exact ps_setLc F.calm (by rw [F.N]; exact F.nd) (by rw [F.N]; exact hN) (by rw [F.sc]; exact hy) (sw_true (by rw [F.sc]; exact hk) (by rw [F.sc]; exact hy) hl ha) (pi X F) (by rw [F.N, F.sc]; exact ok) (fun s H C cl fp => pg noW _ (F.blk s H scope C cl fp)) (fun s H C cl fp => pt _ (F.blk s H scope C cl fp)) (fun s H C cl fp => pe _ (F.blk s H scope C cl fp)) (fold_ok hf _)
/-! ### freezing -/
theorem SR.frz {K : PySem.W.Frag} {H0 H : Hp} {ρ : Nv} {σ : L2.St} (S : SR K Z κ H0 ρ σ H) {i : Nat} {p : Addr} {xs : List D} {vs : List V} {o : Obj} (hi : ρ[i]? = some (.own xs)) (hs : σ[i]? = some (some (.ref p))) (hp : H p = some (.lst vs)) (h0 : H0 p = none) (hl : vs.length ≤ sizeLine) (r : RepL K Z H xs vs) :
    SR K Z κ H0 (ρ.set i (.val (.lst xs))) σ (upd H p (.frz o (.lst vs))) := by
  have st : Stb H (upd H p (.frz o (.lst vs))) := stb_upd hp fun z => z
  have il : i < ρ.length := (List.getElem?_eq_some_iff.mp hi).1
  have cs : ∀ {j : Nat} {en : En}, (ρ.set i (.val (.lst xs)))[j]? = some en → (i = j ∧ en = .val (.lst xs)) ∨ (i ≠ j ∧ ρ[j]? = some en) := fun {j en} h => by
    by_cases hj : i = j
    · subst hj
      rw [List.getElem?_set_self il] at h; cases h; exact .inl ⟨rfl, rfl⟩
    · rw [List.getElem?_set_ne hj] at h
      exact .inr ⟨hj, h⟩
  refine ⟨S.ok0, ok_upd S.ok0 h0 S.ok (ne_ext hp), fun a x ha m => ?_, by rw [List.length_set]; exact S.len, fun j en h => ?_, fun j l ys zs q h1 h2 h3 h4 => ?_⟩
  · rw [upd_ne (ne_of_none ha h0)]
    exact S.ext a x ha m
  · rcases cs h with ⟨rfl, rfl⟩ | ⟨hj, h⟩
    · rw [hs]
      exact .lst upd_same hl (RepL.stb st r)
    · have q := S.slot j en h
      cases en with
      | un => trivial
      | val d =>
        match e : σ[j]?, q with
        | some (some v), q => exact Rep.stb st q
      | own ys =>
        match e : σ[j]?, q with
        | some (some (.ref p')), ⟨g0, ws, g1, g2, g3⟩ =>
          refine ⟨g0, ws, ?_, g2, RepL.stb st g3⟩
          rw [upd_ne (fun z => ?_)]
          · exact g1
          · subst z
            exact hj (S.dis i j _ _ p' hi h hs e)
  · rcases cs h1 with ⟨_, z⟩ | ⟨n1, g1⟩
    · cases z
    rcases cs h2 with ⟨_, z⟩ | ⟨n2, g2⟩
    · cases z
    exact S.dis j l ys zs q g1 g2 h3 h4
/-- one of our lists is frozen for good ahead of a statement -/
def tFrz (t : TS) : TS := fun Ds σ H => t Ds σ H ∨ ∃ d u, H d = some u ∧ Mut (some u) ∧ ∀ od, t Ds σ (upd H d (.frz od u))
theorem pss_frz {X : Cx} {t : TS} (h : PSs X sts t) : PSs X sts (tFrz t) := ⟨fun pins s σ H Ds I hw => by
  rcases hw with hw | ⟨d, u, hd, mu, hw⟩
  · exact h.run pins s σ _ Ds I hw
  · obtain ⟨od, I1⟩ := I.lock hd mu
    exact h.run pins s σ _ Ds I1 (hw od)⟩
theorem dss_frz {i : Nat} (h : DSs Z γ sts t) : DSs Z γ sts (fun ρ => bnd (frzM i ρ) t) := fun W => by
  obtain ⟨ts, ps, rs⟩ := h W
  refine ⟨tFrz ts, fun X F => pss_frz (ps X F), fun ρ σ H H0 Q E Ds S q a x => ?_⟩
  have q : bnd (frzM i ρ) t _ Q E := q
  unfold frzM at q
  cases hi : ρ[i]? with
  | none => rw [hi] at q; exact q.elim
  | some en => cases en with
    | un => rw [hi] at q; exact q.elim
    | val _ => rw [hi] at q; exact .inl (rs ρ σ H H0 Q E Ds S q a x)
    | own xs =>
      rw [hi] at q
      obtain ⟨p, vs, h1, h0, h2, h3, h4⟩ := S.own hi
      exact .inr ⟨p, _, h2, trivial, fun od => rs _ σ _ H0 Q E Ds (S.frz hi h1 h2 h0 h3 h4) q (a.at (stb_upd h2 fun z => z)) x⟩
end
end PL

/-! PLo: more statements. -/
namespace PL
open PySem
open PySem.Spec
open PyProof.Rows
open L2
section
variable {Z : Zone} {γ : Gm} {e : Expr} {st : Stmt} {sts : List Stmt} {pos : Pos} {t u : Nv → M Out} {tv : Nv → M D}
/-- frozen behind a statement -/
def tPost (t : TS) : TS := fun Ds σ H => t { Ds with nx := fun σ' H' => ∃ d u, H' d = some u ∧ Mut (some u) ∧ ∀ od, Ds.nx σ' (upd H' d (.frz od u)) } σ H
theorem ps_post {X : Cx} {t : TS} (h : PS X st t) : PS X st (tPost t) := ⟨fun pins s σ H Ds I hw => by
  refine thn (h.run pins s σ H _ I hw) fun f s1 q => ?_
  cases f with
  | next =>
    obtain ⟨σ', H', I', d, u, hd, mu, q⟩ := q
    obtain ⟨od, I1⟩ := I'.lock hd mu
    exact ⟨σ', _, I1, q od⟩
  | ret v => exact q
  | brk => exact q
  | cont => exact q⟩
theorem ds_setLc {i : Nat} {y : Str} {py : Pos} {elt tg iter : Expr} {ifs : List Expr} {scope : Scope} {own : List (Str × Nat)} {p : Pos} {tgd : Tg} {ti : Nv → M (List D)} {tc : Nv → M Bool} {te : Nv → M D}
    (hN : γ.N[i]? = some y) (hy : γ.sc.names.lookup y = some .local) (hk : γ.sc.kind = .function) (hl : (py.line == p.line) = true) (ha : (scope.names.any fun (n, k) => n == y && (k == .local || k == .cell)) = false)
    (hi : DI Z γ tg iter ti) (ok : BlkOk γ.N γ.sc scope own) (hg : DG Z (blkG γ scope) tg tgd) (hsub : ∀ j ∈ tgd.ix, j ∈ own.map (·.2)) (ht : DTs Z (blkG γ scope) ifs tc) (he : DE Z (blkG γ scope) elt te) (hf : foldOk iter = true) :
    DS Z γ (.Assign [.Name y py] (.ListComp elt [⟨tg, iter, ifs, 0⟩] scope p) pos) (fun ρ => bnd (bnd (ti ρ) fun ds => bnd (noE (mapO (turnM (asgE tgd) (own.map (·.2)) tc te ρ) ds)) fun ys => ret (.lst ys)) fun d => ret (.nx (ρ.set i (.val d)))) := fun W => by
  obtain ⟨wi, pi, ri⟩ := hi W
  obtain ⟨g, pg, rg⟩ := hg
  obtain ⟨tt, pt, rt⟩ := ht noW
  obtain ⟨ue, pe, re⟩ := he noW
  refine ⟨tPost (tAsg (tLc wi g tt ue (own.map (fun x => x.2))) (gName i)), fun X F => ?_, fun ρ σ H H0 Q E Ds S q a x => ?_⟩
  rotate_left
  · refine lc_rdg ri rg rt re hsub ρ σ H H0 _ E (fun x H1 => gName i x σ H1 fun σ' H' => ∃ d u, H' d = some u ∧ Mut (some u) ∧ ∀ od, Ds.nx σ' (upd H' d (.frz od u))) S q (fun p xs vs H1 e1 k1 hn hp hl r1 q1 => ?_) (x.xn S.ext σ)
    refine ⟨p, _, hp, trivial, fun od => ?_⟩
    have h0 := ext_none S.ok0 S.ok S.ext hn
    refine a.nx (ρ.set i (.val (.lst xs))) _ _ ?_ (Stb.trans (e1.stb S.ok) (stb_upd hp fun z => z)) q1
    have S1 := S.setO (i := i) e1 k1 hn hp hl r1
    by_cases il : i < ρ.length
    · have z := S1.frz (o := od) (List.getElem?_set_self il) (List.getElem?_set_self (by rw [← S.len]; exact il)) hp h0 hl r1
      rw [List.set_set] at z
      exact z
    · have z := (S.mono (frz_ext (o := od) (u := .lst vs) S.sm e1 hn) (ok_upd S.sm hn k1 (ne_ext hp))).setV (i := i) (rep_new (o := od) hp hl r1)
      exact z
  exact ps_post (ps_setLc F.calm (by rw [F.N]; exact F.nd) (by rw [F.N]; exact hN) (by rw [F.sc]; exact hy) (sw_true (by rw [F.sc]; exact hk) (by rw [F.sc]; exact hy) hl ha) (pi X F) (by rw [F.N, F.sc]; exact ok) (fun s H C cl fp => pg noW _ (F.blk s H scope C cl fp)) (fun s H C cl fp => pt _ (F.blk s H scope C cl fp)) (fun s H C cl fp => pe _ (F.blk s H scope C cl fp)) (fold_ok hf _))
/-! ### targets of several names -/
def noTup : Expr → Bool
  | .Tuple _ _ _ => false
  | _ => true
theorem sws_val (h : noTup e = true) (ts : List Expr) (env : PySem.Env) : swappedStores ts e env = pure none := by
  unfold swappedStores
  cases e <;> first | (simp [noTup] at h; done) | (split <;> rename_i z <;> first | rfl | (simp at z; done) | (split at z <;> simp_all))
theorem ds_asg {tg : Expr} {tgd : Tg} (h : DE Z γ e tv) (hg : DG Z γ tg tgd) (hx : tgx tg = true) (hs : ∀ env : PySem.Env, env.scope = γ.sc → swapsWith e (some tg) pos.line env = pure false) (hw : ∀ env : PySem.Env, env.scope = γ.sc → swappedStores [tg] e env = pure none) :
    DS Z γ (.Assign [tg] e pos) (fun ρ => bnd (tv ρ) fun d => bnd (asgE tgd d ρ) fun ρ' => ret (.nx ρ')) := fun W => by
  obtain ⟨te, pe, rd⟩ := h W
  obtain ⟨g, pg, rg⟩ := hg
  refine ⟨tAsg te g, fun X F => ps_asg (pe X F) (pg W X F) (hs _ F.sc) (hw _ F.sc) (by rw [each_cons hx]; rfl), fun ρ σ H H0 Q E Ds S q a x => rd ρ σ H H0 _ E _ S q (fun v d H1 e1 k1 r1 q1 => rg d v ρ σ H1 H0 _ E _ (S.mono e1 k1) r1 q1 fun ρ' σ' S' _ q' => a.nx ρ' σ' H1 S' (e1.stb S.ok) q') (x.xn S.ext σ)⟩
theorem ds_par {i j : Nat} {x y : Str} {a b : Expr} {px py pt : Pos} {kt k2 pt2} {tl : Nv → M (List D)} (hi : γ.N[i]? = some x) (hj : γ.N[j]? = some y) (hij : i ≠ j) (hx : γ.sc.names.lookup x = some .local) (hy : γ.sc.names.lookup y = some .local) (ha : DA Z γ [a, b] tl)
    (hw : ∀ env : PySem.Env, env.scope = γ.sc → swappedStores [.Tuple [.Name x px, .Name y py] kt pt] (.Tuple [a, b] k2 pt2) env = pure (some [x, y])) :
    DS Z γ (.Assign [.Tuple [.Name x px, .Name y py] kt pt] (.Tuple [a, b] k2 pt2) pos) (fun ρ => bnd (bnd (tl ρ) fun xs => ret (.tup xs)) fun d => bnd (asgE (.tp [.nm i, .nm j]) d ρ) fun ρ' => ret (.nx ρ')) := fun W => by
  obtain ⟨ta, pa, ra⟩ := ha W
  refine ⟨tPar i j ta, fun X F => ps_par F.calm (by rw [F.N]; exact F.nd) (by rw [F.N]; exact hi) (by rw [F.N]; exact hj) hij (by rw [F.sc]; exact hx) (by rw [F.sc]; exact hy) (pa X F) (hw _ F.sc), fun ρ σ H H0 Q E Ds S q a x => ra ρ σ H H0 _ E _ S q (fun vs ds H1 e1 k1 r1 hl q1 => ?_) (x.xn S.ext σ)⟩
  obtain ⟨d, d2, rfl⟩ : ∃ d d2, ds = [d, d2] := by
    match ds, hl with
    | [d, d2], _ => exact ⟨d, d2, rfl⟩
  cases r1 with
  | cons h r => cases r with
    | cons h2 r =>
      cases r
      exact ⟨_, _, rfl, a.nx _ _ H1 (((S.mono e1 k1).setV h).setV h2) (e1.stb S.ok) q1⟩
/-- one of a pair: an own list, or a datum -/
def DX (o : Bool) (Z : Zone) (γ : Gm) (e : Expr) (t : Nv → M D) : Prop := match o with
  | true => DN Z γ e t
  | false => DE Z γ e t
def GotX (o : Bool) (K : PySem.W.Frag) (Z : Zone) (d : D) (v : V) (H H1 : Hp) : Prop := match o with
  | true => ∃ p xs vs, d = .lst xs ∧ v = .ref p ∧ H p = none ∧ H1 p = some (.lst vs) ∧ vs.length ≤ sizeLine ∧ RepL K Z H1 xs vs
  | false => Rep K Z H1 d v
theorem dx_rd {o : Bool} {e : Expr} {t : Nv → M D} (h : DX o Z γ e t) (W : WX) : ∃ te, (∀ X, Fam γ W X → PE X e te) ∧ ∀ {κ : Nat} ρ σ H H0 Q E R, SR γ.g.K Z κ H0 ρ σ H → t ρ κ Q E → (∀ {κ1 : Nat} v d H1, Ext Z H H1 → Z.ok κ1 H1 → GotX o γ.g.K Z d v H H1 → Q d κ1 → R v H1) → Xn Z H σ E W → te σ H R := by
  cases o with
  | true =>
    obtain ⟨te, pe, rd⟩ := (h : DN Z γ e t) W
    exact ⟨te, pe, fun ρ σ H H0 Q E R S q k x => rd ρ σ H H0 Q E R S q (fun p xs vs H1 e1 k1 n1 p1 l1 r1 q1 => k _ _ H1 e1 k1 ⟨p, xs, vs, rfl, rfl, n1, p1, l1, r1⟩ q1) x⟩
  | false =>
    obtain ⟨te, pe, rd⟩ := (h : DE Z γ e t) W
    exact ⟨te, pe, fun ρ σ H H0 Q E R S q k x => rd ρ σ H H0 Q E R S q (fun v d H1 e1 k1 r1 q1 => k v d H1 e1 k1 r1 q1) x⟩
theorem got_set {o : Bool} {K : PySem.W.Frag} {κ κ1 : Nat} {H0 H H1 : Hp} {ρ : Nv} {σ : L2.St} {d : D} {v : V} {i : Nat} {Q : En → Nat → Prop} {E : D → Nat → Prop} (S : SR K Z κ H0 ρ σ H) (e : Ext Z H H1) (k : Z.ok κ1 H1) (g : GotX o K Z d v H H1) (q : mkE o d κ1 Q E) : ∃ en, Q en κ1 ∧ SR K Z κ1 H0 (ρ.set i en) (σ.set i (some v)) H1 := by
  cases o with
  | true =>
    obtain ⟨p, xs, vs, rfl, rfl, n1, p1, l1, r1⟩ := g
    exact ⟨.own xs, q, S.setO e k n1 p1 l1 r1⟩
  | false => exact ⟨.val d, q, (S.mono e k).setV g⟩
theorem got_mono {o : Bool} {K : PySem.W.Frag} {κ : Nat} {H0 H H1 H2 : Hp} {d : D} {v : V} (h0 : Z.sm H) (k : Z.ok κ H1) (e : Ext Z H1 H2) (g : GotX o K Z d v H H1) : GotX o K Z d v H H2 := by
  cases o with
  | true =>
    obtain ⟨p, xs, vs, rfl, rfl, n1, p1, l1, r1⟩ := g
    exact ⟨p, xs, vs, rfl, rfl, n1, e p _ p1 (mu_not h0 n1), l1, RepL.stb (e.stb k) r1⟩
  | false => exact Rep.stb (e.stb k) g
theorem ds_parO {o1 o2 : Bool} {i j : Nat} {x y : Str} {a b : Expr} {px py pt : Pos} {kt k2 pt2} {t1 t2 : Nv → M D} (hi : γ.N[i]? = some x) (hj : γ.N[j]? = some y) (hij : i ≠ j) (hx : γ.sc.names.lookup x = some .local) (hy : γ.sc.names.lookup y = some .local) (h1 : DX o1 Z γ a t1) (h2 : DX o2 Z γ b t2) (hp : plain a = true) (hp2 : plain b = true)
    (hw : ∀ env : PySem.Env, env.scope = γ.sc → swappedStores [.Tuple [.Name x px, .Name y py] kt pt] (.Tuple [a, b] k2 pt2) env = pure (some [x, y])) :
    DS Z γ (.Assign [.Tuple [.Name x px, .Name y py] kt pt] (.Tuple [a, b] k2 pt2) pos) (fun ρ => bnd (t1 ρ) fun d => bnd (t2 ρ) fun e => bnd (mkE o1 d) fun x => bnd (mkE o2 e) fun y => ret (.nx ((ρ.set i x).set j y))) := fun W => by
  obtain ⟨te, pe, rd⟩ := dx_rd h1 W
  obtain ⟨ue, qe, ud⟩ := dx_rd h2 W
  refine ⟨tPar i j (tCons te (tCons ue tNil)), fun X F => ps_par F.calm (by rw [F.N]; exact F.nd) (by rw [F.N]; exact hi) (by rw [F.N]; exact hj) hij (by rw [F.sc]; exact hx) (by rw [F.sc]; exact hy) (pa_cons (pe X F) (pa_cons (qe X F) pa_nil (star_cons hp2 _)) (star_cons hp _)) (hw _ F.sc), fun ρ σ H H0 Q E Ds S q a x => ?_⟩
  refine rd ρ σ H H0 _ E _ S q (fun {κ1} v d H1 e1 k1 g1 q1 => ?_) (x.xn S.ext σ)
  refine ud ρ σ H1 H0 _ E _ (S.mono e1 k1) q1 (fun {κ2} w e H2 e2 k2 g2 q2 => ?_) (fun c d H' e' y kk r q => x.xn S.ext σ c d H' e' (e1.trans y) kk r q)
  have q2 : mkE o1 d κ2 (fun x κ => mkE o2 e κ (fun y κ => Q (.nx ((ρ.set i x).set j y)) κ) E) E := q2
  have m2 : ∃ en, mkE o2 e κ2 (fun y κ => Q (.nx ((ρ.set i en).set j y)) κ) E ∧ SR γ.g.K Z κ1 H0 (ρ.set i en) (σ.set i (some v)) H1 := by
    cases o1 with
    | true =>
      obtain ⟨p, xs, vs, rfl, rfl, n1, p1, l1, r1⟩ := g1
      exact ⟨.own xs, q2, S.setO e1 k1 n1 p1 l1 r1⟩
    | false => exact ⟨.val d, q2, (S.mono e1 k1).setV g1⟩
  obtain ⟨en, q3, S1⟩ := m2
  obtain ⟨en2, q4, S2⟩ := got_set (i := j) S1 e2 k2 g2 q3
  exact ⟨v, w, rfl, a.nx _ _ H2 S2 ((e1.trans e2).stb S.ok) q4⟩
theorem ds_par3 {i j l : Nat} {x y z : Str} {a b c : Expr} {px py pz pt : Pos} {kt k2 pt2} {tl : Nv → M (List D)} (hi : γ.N[i]? = some x) (hj : γ.N[j]? = some y) (hl : γ.N[l]? = some z) (hij : i ≠ j) (hil : i ≠ l) (hjl : j ≠ l) (hx : γ.sc.names.lookup x = some .local) (hy : γ.sc.names.lookup y = some .local) (hz : γ.sc.names.lookup z = some .local) (ha : DA Z γ [a, b, c] tl)
    (hw : ∀ env : PySem.Env, env.scope = γ.sc → swappedStores [.Tuple [.Name x px, .Name y py, .Name z pz] kt pt] (.Tuple [a, b, c] k2 pt2) env = pure (some [x, y, z])) :
    DS Z γ (.Assign [.Tuple [.Name x px, .Name y py, .Name z pz] kt pt] (.Tuple [a, b, c] k2 pt2) pos) (fun ρ => bnd (bnd (tl ρ) fun xs => ret (.tup xs)) fun d => bnd (asgE (.tp [.nm i, .nm j, .nm l]) d ρ) fun ρ' => ret (.nx ρ')) := fun W => by
  obtain ⟨ta, pa, ra⟩ := ha W
  refine ⟨_, fun X F => ps_par3 F.calm (by rw [F.N]; exact F.nd) (by rw [F.N]; exact hi) (by rw [F.N]; exact hj) (by rw [F.N]; exact hl) hij hil hjl (by rw [F.sc]; exact hx) (by rw [F.sc]; exact hy) (by rw [F.sc]; exact hz) (pa X F) (hw _ F.sc), fun ρ σ H H0 Q E Ds S q a x => ra ρ σ H H0 _ E _ S q (fun vs ds H1 e1 k1 r1 hl q1 => ?_) (x.xn S.ext σ)⟩
  obtain ⟨d, d2, d3, rfl⟩ : ∃ d d2 d3, ds = [d, d2, d3] := by
    match ds, hl with
    | [d, d2, d3], _ => exact ⟨d, d2, d3, rfl⟩
  cases r1 with
  | cons h r => cases r with
    | cons h2 r => cases r with
      | cons h3 r =>
        cases r
        exact ⟨_, _, _, rfl, a.nx _ _ H1 ((((S.mono e1 k1).setV h).setV h2).setV h3) (e1.stb S.ok) q1⟩
/-! ### flow -/
theorem ds_if {c : Expr} {a b : List Stmt} {tc : Nv → M Bool} (hc : DT Z γ c tc) (ha : DSs Z γ a t) (hb : DSs Z γ b u) : DS Z γ (.If c a b pos) (fun ρ => bnd (tc ρ) fun k => if k = true then t ρ else u ρ) := fun W => by
  obtain ⟨tt, pt, rt⟩ := hc W
  obtain ⟨ts, ps, rs⟩ := ha W
  obtain ⟨us, pu, ru⟩ := hb W
  refine ⟨tIfS tt ts us, fun X F => ps_if (pt X F) (ps X F) (pu X F), fun ρ σ H H0 Q E Ds S q a x => rt ρ σ H H0 _ E _ S q (fun b H1 e1 k1 q1 => ?_) (x.xn S.ext σ)⟩
  cases b with
  | true => exact rs ρ σ H1 H0 Q E Ds (S.mono e1 k1) q1 (a.at (e1.stb S.ok)) x
  | false => exact ru ρ σ H1 H0 Q E Ds (S.mono e1 k1) q1 (a.at (e1.stb S.ok)) x
theorem Fam.passes {W : WX} {X : Cx} (F : Fam γ W X) (h : γ.top = true) : PassesOwn (model X.prog X.w) X.A X.env X.xe := (F.top h).2.2.2
theorem ds_for {tg iter : Expr} {body : List Stmt} {tgd : Tg} {ti : Nv → M (List D)} (ht : γ.top = true) (hi : DI Z γ tg iter ti) (hg : DG Z γ tg tgd) (hb : DSs Z γ body t) (hf : foldOk iter = true) :
    DS Z γ (.For tg iter body [] pos) (fun ρ => bnd (ti ρ) fun ds => loopM tgd t ds ρ) := fun W => by
  obtain ⟨wi, pi, ri⟩ := hi W
  obtain ⟨g, pg, rg⟩ := hg
  obtain ⟨ts, ps, rs⟩ := hb W
  refine ⟨tFor wi g ts, fun X F => ps_for (F.passes ht) F.calm (pi X F) (pg W X F) (ps X F) (fold_ok hf _), fun ρ σ H H0 Q E Ds S q a x => ri ρ σ H H0 _ E _ S q (fun J ds H1 e1 k1 J1 q1 => ?_) (x.xn S.ext σ)⟩
  refine ⟨fun i m σ' H' => m = ds.length - i ∧ i ≤ ds.length ∧ Stb H1 H' ∧ ∃ κ ρ', SR γ.g.K Z κ H0 ρ' σ' H' ∧ loopM tgd t (ds.drop i) ρ' κ Q E, ⟨ds.length, by simp, Nat.zero_le _, .refl _, _, ρ, S.mono e1 k1, by rw [List.drop_zero]; exact q1⟩, ?_⟩
  rintro i m σ2 H2 ⟨rfl, hi, s2, κ2, ρ2, S2, q2⟩
  have s0 : Stb H H2 := (e1.stb S.ok).trans s2
  by_cases hlt : i < ds.length
  · refine .inr ⟨J1.go i H2 s2 S2.sm hlt, fun σ' H' => i + 1 ≤ ds.length ∧ Stb H1 H' ∧ ∃ κ ρ', SR γ.g.K Z κ H0 ρ' σ' H' ∧ loopM tgd t (ds.drop (i + 1)) ρ' κ Q E, fun σ' H' w => ⟨ds.length - (i + 1), by omega, rfl, w⟩, fun v H3 hy => ?_⟩
    rw [List.drop_eq_getElem_cons hlt] at q2
    obtain ⟨x3, r3⟩ := J1.yld i _ H2 v H3 s2 S2.sm (List.getElem?_eq_getElem hlt) hy
    have S3 := S2.mono (x3.ext (Z := Z)) (x3.ok S2.ok)
    have q2 : asgE tgd ds[i] ρ2 _ _ E := q2
    refine rg _ _ _ _ H3 H0 _ _ _ S3 r3 q2 fun ρ4 σ4 S4 _ q4 => rs ρ4 σ4 H3 H0 _ E _ S4 q4 ⟨fun ρ5 σ5 H5 S5 s5 q5 => ?_, fun d v H' e' k' r' q' => a.rt d v H' e' k' r' q', fun ρ5 σ5 H5 S5 s5 q5 => a.nx ρ5 σ5 H5 S5 ((s0.trans x3.stb).trans s5) q5, fun ρ5 σ5 H5 S5 s5 q5 => ?_⟩ x
    · exact ⟨hlt, (s2.trans x3.stb).trans s5, _, ρ5, S5, q5⟩
    · exact ⟨hlt, (s2.trans x3.stb).trans s5, _, ρ5, S5, q5⟩
  · have ei : i = ds.length := by omega
    rw [List.drop_eq_nil_of_le (by omega)] at q2
    exact .inl ⟨by rw [ei]; exact J1.stop H2 s2 S2.sm, a.nx ρ2 σ2 H2 S2 s0 q2⟩
theorem ds_while {c : Expr} {body : List Stmt} {tc : Nv → M Bool} (ht : γ.top = true) (hc : DT Z γ c tc) (hb : DSs Z γ body t) : DS Z γ (.While c body [] pos) (fun ρ => whlM tc t ρ) := fun W => by
  obtain ⟨tt, pt, rt⟩ := hc W
  obtain ⟨ts, ps, rs⟩ := hb W
  refine ⟨tWhile tt ts, fun X F => ps_while (F.passes ht) (pt X F) (ps X F), fun ρ σ H H0 Q E Ds S q a x => ?_⟩
  obtain ⟨n, q⟩ := q
  refine ⟨fun m σ' H' => Stb H H' ∧ ∃ κ ρ', SR γ.g.K Z κ H0 ρ' σ' H' ∧ whlN tc t m ρ' κ Q E, ⟨n, .refl _, _, ρ, S, q⟩, ?_⟩
  rintro m σ2 H2 ⟨s2, κ2, ρ2, S2, q2⟩
  cases m with
  | zero => exact q2.elim
  | succ m =>
    have q2 : tc ρ2 _ _ E := q2
    refine rt ρ2 σ2 H2 H0 _ E _ S2 q2 (fun b H3 e3 k3 q3 => ?_) (x.xn S2.ext σ2)
    have s3 : Stb H H3 := s2.trans (e3.stb S2.ok)
    cases b with
    | false => rw [if_neg Bool.false_ne_true]; exact a.nx ρ2 σ2 H3 (S2.mono e3 k3) s3 q3
    | true =>
      rw [if_pos rfl]
      refine ⟨fun σ' H' => Stb H H' ∧ ∃ κ ρ', SR γ.g.K Z κ H0 ρ' σ' H' ∧ whlN tc t m ρ' κ Q E, fun σ' H' w => ⟨m, Nat.lt_succ_self _, w⟩, ?_⟩
      refine rs ρ2 σ2 H3 H0 _ E _ (S2.mono e3 k3) q3 ⟨fun ρ5 σ5 H5 S5 s5 q5 => ?_, fun d v H' e' k' r' q' => a.rt d v H' e' k' r' q', fun ρ5 σ5 H5 S5 s5 q5 => a.nx ρ5 σ5 H5 S5 (s3.trans s5) q5, fun ρ5 σ5 H5 S5 s5 q5 => ?_⟩ x
      · exact ⟨s3.trans s5, _, ρ5, S5, q5⟩
      · exact ⟨s3.trans s5, _, ρ5, S5, q5⟩
/-! ### raising -/
/-- a module name that is an own exception class without own __init__ -/
structure ExK (g : GE) (Z : Zone) (c : Str) : Prop where
  ex : ∃ (C : Addr) (bmB : List Value) (B newId initId : String), ExcBaseFacts B newId initId bmB ∧ PySem.W.excIn g.K C bmB newId = true ∧ g.mg c = some (.ref C) ∧ PySem.W.keepIn g.K (.ref C) = true ∧
    PySem.W.subIn g.K (.ref C) (.type "BaseException") = some true ∧ PySem.W.typeIn g.K (.ref C) = some (.type "type") ∧ ∀ H, Z.sm H → Z.X H (.exc c .non) (.ref C) none
theorem ds_raise {c m : Str} {j : Nat} {p p2 p3 : Pos} (hc : ExK γ.g Z c) (hg : γ.sc.names.lookup c = some .globalImplicit) (hd : (c == ("__debug__" : Str)) = false) : DS Z γ (.Raise (some (.Call (.Name c p) [.Constant (.str m) j p2] [] p3)) none pos) (fun _ => thr (.exc c .non)) := fun W => by
  obtain ⟨C, bmB, B, newId, initId, F1, F2, F3, F4, F5, F6, F7⟩ := hc.ex
  refine ⟨fun _ σ H => W (.ref C) none σ H, fun X F => ps_raise F.calm F.tk (pmk_own F1 (by rw [F.K]; exact F2) (by rw [F.mg]; exact F3) (by rw [F.K]; exact F4) (raises_own (by rw [F.K]; exact F5) (by rw [F.K]; exact F6)) (F.kd hg) hd), fun ρ σ H H0 Q E Ds S q a x => ?_⟩
  exact x _ _ H _ σ S.ext S.ok (F7 H S.sm) q
end
end PL

/-! PLp: turned tuples and lists, own lists written. -/
namespace PL
open PySem PySem.Spec PyProof.Rows L2 HT
section
variable {prog : Program} {w : World} {A : Around} {E : Value → Shared → Prop} {s : Shared}
theorem adjust_rev (n : Nat) : Builtin.Slice.sliceAdjust none none (-1) (n : Int) = ((n : Int) - 1, -1) := rfl
theorem places_rev (n : Nat) : Builtin.Slice.slicePlaces ((n : Int) - 1) (-1) (-1) = n := by
  unfold Builtin.Slice.slicePlaces
  have h1 : ¬ ((-1 : Int) > 0) := by decide
  have e : ((n : Int) - 1 - -1 - 1) / (- -1) = (n : Int) - 1 := by
    rw [show (- -1 : Int) = 1 by decide, Int.ediv_one]
    omega
  simp only [h1, if_false, e]
  split <;> omega
theorem applied_rev {sl : Addr} {vs : Value} {n : Nat} {Q : Int × Int × Nat → Shared → Prop} (hs : s.heap.IsSliceOf sl .none .none vs) (ps : IsPart vs (some (-1)))
    (h : Q ((n : Int) - 1, -1, n) s) : wpAny (model prog w) A (Builtin.Slice.sliceApplied (.ref sl) (pure (n : Int))) Q E s := by
  obtain ⟨os, hos, hcs, hds⟩ := id hs
  unfold Builtin.Slice.sliceApplied Builtin.Slice.sliceFields
  refine wpAny_bind (wpAny_bind (wpAny_field hos hds (x := .none) rfl (wpAny_bind (wpAny_field hos hds (x := .none) rfl (wpAny_bind (wpAny_field hos hds (x := vs) rfl (wpAny_pure ?_)))))))
  refine wpAny_bind (slicePart_ ps ?_)
  show wpAny _ _ (if ((-1 : Int) == 0) = true then _ else _) _ _ s
  rw [if_neg (by decide)]
  refine wpAny_bind (slicePart_none (wpAny_bind (slicePart_none (wpAny_bind (wpAny_pure ?_)))))
  show wpAny _ _ (match Builtin.Slice.sliceAdjust none none (-1) (n : Int) with | (lo, hi) => pure (lo, (-1 : Int), Builtin.Slice.slicePlaces lo hi (-1))) _ _ s
  rw [adjust_rev]
  show wpAny _ _ (pure ((n : Int) - 1, (-1 : Int), Builtin.Slice.slicePlaces ((n : Int) - 1) (-1) (-1))) _ _ s
  rw [places_rev]
  exact wpAny_pure h
theorem pick_rev (xs : Array Value) : ((List.range xs.size).filterMap fun (m : Nat) => xs[(((xs.size : Int) - 1) + (m : Int) * (-1)).toNat]?).toArray = xs.toList.reverse.toArray := by
  have e : (List.range xs.size).filterMap (fun (m : Nat) => xs[(((xs.size : Int) - 1) + (m : Int) * (-1)).toNat]?) = ((List.range xs.size).map fun k => xs.size - 1 - k).filterMap (xs[·]?) := by
    rw [show (fun (m : Nat) => xs[(((xs.size : Int) - 1) + (m : Int) * (-1)).toNat]?) = (xs[·]?) ∘ (fun m : Nat => (((xs.size : Int) - 1) + (m : Int) * (-1)).toNat) from rfl, ← List.filterMap_map]
    congr 1
    apply List.map_congr_left
    intro m hm
    have := List.mem_range.mp hm
    omega
  rw [e, PySem.W.krv_range, List.filterMap_reverse, PySem.W.krv_all]
theorem getItem_tuple_rev {t sl : Addr} {items : Array Value} {vs : Value} {Q : Value → Shared → Prop} (ht : IsTup s.heap t items) (hs : s.heap.IsSliceOf sl .none .none vs) (ps : IsPart vs (some (-1)))
    (h : Q (.ref s.heap.objs.size) { s with heap := s.heap.push { cls := .type "tuple", data := .seq items.toList.reverse.toArray } })
    (hsz : items.size ≤ sizeLine) : wpAny (model prog w) A (getItem (.ref t) (.ref sl)) Q E s := by
  have htake : sizeOk (.seq items.toList.reverse.toArray) := by
    show items.toList.reverse.toArray.size ≤ sizeLine
    rw [List.size_toArray, List.length_reverse, Array.length_toList]
    exact hsz
  obtain ⟨os, hos, hcs, hds⟩ := id hs
  have hTs : s.TypeIs (.ref sl) "slice" := ⟨os, hos, hcs⟩
  unfold getItem
  try with_reducible refine wpAny_holding ?_
  first | refine wpAny_bind (wpAny_pure ?_) | skip
  refine wpAny_bind (wpAny_sequenceKey ht.typeIs (by decide) ?_)
  refine wpAny_bind (wpAny_callSpecial?_slot (name := Str.ofString "__getitem__") ht.typeIs PyProof.Rows.slot_tuple_getitem
    (wpAny_call_entry PyProof.Rows.slot_tuple_getitem ht.typeIs entry_tuple_getitem ?_ (args_tuple_getitem _ _)))
  show wpAny _ _ (Builtin.Tuple.tupleItemsOf (.ref t) >>= _) _ _ s
  refine wpAny_bind (tupleItemsOf_ ht ?_)
  refine wpAny_bind (wpAny_typeOf hTs ?_)
  rw [if_pos (by decide)]
  refine wpAny_bind (applied_rev hs ps ?_)
  have hno : ¬ ((((items.size : Int) - 1) == 0 && (-1 : Int) == 1 && items.size == items.size) = true) := by
    intro q
    rw [Bool.and_eq_true, Bool.and_eq_true] at q
    exact absurd q.1.2 (by decide)
  show wpAny _ _ (if (((items.size : Int) - 1) == 0 && (-1 : Int) == 1 && items.size == items.size) = true then _ else _) _ _ s
  rw [if_neg hno, pick_rev]
  first
    | exact wpAny_bind (m := Builtin.Tuple.tupleExact _) (wpAny_newObj_type (wpAny_pure ⟨_, rfl, wpAny_pure h⟩) htake)
    | exact wpAny_bind (m := Builtin.Tuple.tupleExact _) (wpAny_newObj_type (wpAny_bind (wpAny_pure (wpAny_pure ⟨_, rfl, wpAny_pure h⟩))) htake)
    | exact wpAny_bind (wpAny_bind (m := Builtin.Tuple.tupleExact _) (wpAny_newObj_type (wpAny_pure (wpAny_pure ⟨_, rfl, wpAny_pure h⟩)) htake))
    | exact wpAny_bind (wpAny_bind (m := Builtin.Tuple.tupleExact _) (wpAny_newObj_type (wpAny_pure ⟨_, rfl, wpAny_pure h⟩) htake))
end
section
variable {X : Cx}
/-- xs[::-1], a list or a tuple -/
def tRevA (K : PySem.W.Frag) (te : TE) : TE := fun σ H Q => te σ H fun x H1 => ∃ a xs, x = .ref a ∧ ((SqL K H1 a xs ∧ ∀ p, H1 p = none → Q (.ref p) (upd H1 p (.lst xs.reverse))) ∨ (SqT K H1 a xs ∧ ∀ p, H1 p = none → Q (.ref p) (upd H1 p (.tup xs.reverse))))
theorem pe_revA {e : Expr} {te : TE} {k : Nat} {p1 p2 p3 pos : Pos} (he : PE X e te) : PE X (.Subscript e (.Slice none none (some (.UnaryOp .USub (.Constant (.int 1) k p1) p2)) p3) pos) (tRevA X.K te) := by
  refine ⟨fun pins s σ H Q I h => ?_⟩
  refine Subscript_ (thn (he.run pins s σ H _ I h) fun v s1 ⟨x, H1, I1, r1, q1⟩ => ?_)
  obtain ⟨a, xs, ex, q1⟩ := q1
  subst ex
  cases r1
  have hst : PO X (some (.UnaryOp .USub (.Constant (.int 1) k p1) p2)) (tPart (tUn (rU fun i => .int (-i)) (tC (.int 1)))) := po_some (pe_un un_neg pe_int)
  refine wpAny_Slice (thn (po_none.run pins s1 σ H1 (fun o H2 => o = none ∧ H2 = H1) I1 ⟨rfl, rfl⟩) fun vl s2 ⟨l, H2, I2, pl, el, e2⟩ => ?_)
  subst el e2
  refine thn (po_none.run pins s2 σ H2 (fun o H3 => o = none ∧ H3 = H2) I2 ⟨rfl, rfl⟩) fun vu s3 ⟨u, H3, I3, pu, eu, e3⟩ => ?_
  subst eu e3
  refine thn (hst.run pins s3 σ H3 (fun o H4 => o = some (-1) ∧ H4 = H3) I3 ⟨1, rfl, -1, rfl, rfl, rfl⟩) fun vs s4 ⟨o, H4, I4, ps, eo, e4⟩ => ?_
  subst eo e4
  have I5 : Inv X pins σ H4 { s4 with heap := s4.heap.push { cls := .type "slice", data := .fields #[vl, vu, vs] } } := I4.kept (t' := s4.toks) fun b ob q => Heap.get?_push_of_some _ q
  show wpAny (model X.prog X.w) X.A (subscriptTail e (.Slice none none (some (.UnaryOp .USub (.Constant (.int 1) k p1) p2)) p3) (.ref a) (.ref s4.heap.objs.size)) (EP X pins σ Q) X.xe { s4 with heap := s4.heap.push { cls := .type "slice", data := .fields #[vl, vu, vs] } }
  rcases q1 with ⟨hx, q⟩ | ⟨hx, q⟩
  · obtain ⟨its, r, ht, hz⟩ := I5.list hx
    have hlen := r.length
    refine tail_any (ops := [.ref a, .ref s4.heap.objs.size]) ht.isList.typeIs (PySem.slot_list_getitem.lookup) ?_ (by with_unfolding_all rfl)
    refine wpAny_getItem_list_slice ht.isList (Heap.IsSliceOf.new _ vl vu vs) pl pu ps (by decide) ?_ (by rw [List.size_toArray]; omega)
    rw [PySem.W.krv_pick]
    refine ⟨.ref _, _, I5.laid (t' := s4.toks) (o := .lst xs.reverse) (fun b ob q => Heap.get?_push_of_some _ q) (Nat.le_refl _) ?_, rfl, q _ (I5.hok.fresh (Nat.le_refl _))⟩
    exact ⟨by rw [List.length_reverse]; exact hz, _, 0, r.reverse, Heap.get?_push_size _ rfl⟩
  · obtain ⟨its, r, ht, hz⟩ := I5.tuple hx
    have hlen := r.length
    cases pl
    cases pu
    refine tail_any (ops := [.ref a, .ref s4.heap.objs.size]) ht.typeIs (PyProof.Rows.slot_tuple_getitem.lookup) ?_ (by with_unfolding_all rfl)
    refine getItem_tuple_rev ht (Heap.IsSliceOf.new _ _ _ vs) ps ?_ (by rw [List.size_toArray]; omega)
    refine ⟨.ref _, _, I5.laid (t' := s4.toks) (o := .tup xs.reverse) (fun b ob q => Heap.get?_push_of_some _ q) (Nat.le_refl _) ?_, rfl, q _ (I5.hok.fresh (Nat.le_refl _))⟩
    exact ⟨by rw [List.length_reverse]; exact hz, _, r.reverse, IsTup.new _ _⟩
end
section
variable {Z : Zone} {γ : Gm} {e o : Expr} {pos : Pos} {tv to : Nv → M D}
theorem de_rev {k : Nat} {p1 p2 p3 : Pos} (h : DE Z γ e tv) : DE Z γ (.Subscript e (.Slice none none (some (.UnaryOp .USub (.Constant (.int 1) k p1) p2)) p3) pos) (fun ρ => bnd (tv ρ) fun x => lift (revD x)) := fun W => by
  obtain ⟨te, pe, rd⟩ := h W
  refine ⟨fun σ H Q => tRevA γ.g.K te σ H (Fz Q), fun X F => by rw [← F.K]; exact pe_frz (pe_revA (pe X F)), fun ρ σ H H0 Q E R S q k kx => rd ρ σ H H0 _ E _ S q (fun v d H1 e1 k1 r1 q1 => ?_) kx⟩
  cases d with
  | tup ds =>
    obtain ⟨a, vs, rfl, h1, l1, r2⟩ := r1.tup_inv
    exact ⟨a, vs, rfl, .inr ⟨h1, fun p hp => .inl (tup_new (fun v H' e r => k v _ H' (e1.trans e.ext) (e.ok k1) r q1) r2.reverse (by rw [List.length_reverse]; exact l1) hp)⟩⟩
  | lst ds =>
    obtain ⟨a, o, vs, rfl, h1, l1, r2⟩ := r1.lst_inv
    exact ⟨a, vs, rfl, .inl ⟨sqL_frz h1, fun p hp => fz_new (fun v H' e r => k v _ H' (e1.trans e.ext) (e.ok k1) r q1) r2.reverse (by rw [List.length_reverse]; exact l1) hp⟩⟩
  | _ => exact q1.elim
end
end PL

/-! PLq: own lists written; lists locked for a while; methods. -/
namespace PL
open PySem
open PySem.Spec
open PyProof.Rows
open L2
section
variable {Z : Zone} {γ : Gm} {e o : Expr} {es : List Expr} {pos p ap : Pos} {tv to : Nv → M D} {x : Str} {i : Nat}
theorem SR.mut {K : PySem.W.Frag} {H0 H : Hp} {ρ : Nv} {σ : L2.St} (S : SR K Z κ H0 ρ σ H) {i : Nat} {p : Addr} {xs ys : List D} {vs ws : List V} (hi : ρ[i]? = some (.own xs)) (hs : σ[i]? = some (some (.ref p))) (hp : H p = some (.lst vs)) (h0 : H0 p = none) (hl : ws.length ≤ sizeLine) (r : RepL K Z H ys ws) :
    SR K Z κ H0 (ρ.set i (.own ys)) σ (upd H p (.lst ws)) := by
  have st : Stb H (upd H p (.lst ws)) := stb_upd hp fun z => z
  have il : i < ρ.length := (List.getElem?_eq_some_iff.mp hi).1
  have cs : ∀ {j : Nat} {en : En}, (ρ.set i (.own ys))[j]? = some en → (i = j ∧ en = .own ys) ∨ (i ≠ j ∧ ρ[j]? = some en) := fun {j en} h => by
    by_cases hj : i = j
    · subst hj
      rw [List.getElem?_set_self il] at h; cases h; exact .inl ⟨rfl, rfl⟩
    · rw [List.getElem?_set_ne hj] at h
      exact .inr ⟨hj, h⟩
  refine ⟨S.ok0, ok_upd S.ok0 h0 S.ok (ne_ext hp), fun a x ha m => ?_, by rw [List.length_set]; exact S.len, fun j en h => ?_, fun j l as bs q h1 h2 h3 h4 => ?_⟩
  · rw [upd_ne (ne_of_none ha h0)]
    exact S.ext a x ha m
  · rcases cs h with ⟨rfl, rfl⟩ | ⟨hj, h⟩
    · rw [hs]
      exact ⟨h0, ws, upd_same, hl, RepL.stb st r⟩
    · have q := S.slot j en h
      cases en with
      | un => trivial
      | val d =>
        match e : σ[j]?, q with
        | some (some v), q => exact Rep.stb st q
      | own zs =>
        match e : σ[j]?, q with
        | some (some (.ref p')), ⟨g0, us, g1, g2, g3⟩ =>
          refine ⟨g0, us, ?_, g2, RepL.stb st g3⟩
          rw [upd_ne (fun z => ?_)]
          · exact g1
          · subst z
            exact hj (S.dis i j _ _ p' hi h hs e)
  · have il' : ∀ {j : Nat} {zs : List D}, (ρ.set i (.own ys))[j]? = some (.own zs) → ∃ us, ρ[j]? = some (.own us) := fun {j zs} h => by
      rcases cs h with ⟨rfl, _⟩ | ⟨_, h⟩
      · exact ⟨_, hi⟩
      · exact ⟨_, h⟩
    obtain ⟨us, g1⟩ := il' h1
    obtain ⟨us', g2⟩ := il' h2
    exact S.dis j l us us' q g1 g2 h3 h4
theorem ownAt_inv {ρ : Nv} {Q : List D → Nat → Prop} {E : D → Nat → Prop} (h : ownAt i ρ κ Q E) : ∃ xs, ρ[i]? = some (.own xs) ∧ Q xs κ := by
  unfold ownAt at h
  cases hi : ρ[i]? with
  | none => rw [hi] at h; exact h.elim
  | some en => cases en with
    | un => rw [hi] at h; exact h.elim
    | val _ => rw [hi] at h; exact h.elim
    | own xs => rw [hi] at h; exact ⟨xs, rfl, h⟩
def few : List Expr → Bool := fun es => es.all plain && decide (es.length < 29)
theorem few_ok {cpos : Pos} {env : PySem.Env} {es : List Expr} (h : few es = true) : ((backTo cpos (starEach es env)).all (fun x => !x.1) && (backToKw cpos (keywordEach [] env)).all (fun x => x.1.isSome)
      && decide (es.length + ([] : List Keyword).length + (if ([] : List Keyword).isEmpty then 0 else 1) < 30)) = true := by
  unfold few at h
  simp only [Bool.and_eq_true, decide_eq_true_eq] at h
  have h1 : (backTo cpos (starEach es env)).all (fun x => !x.1) = true := by
    have z := back_any (pos := cpos) h.1 env
    rw [List.all_eq_not_any_not]
    simpa using z
  rw [h1]
  simp [backToKw, keywordEach]
  omega
theorem ds_app (hN : γ.N[i]? = some x) (hv : Vis γ.sc x) (hd : (x == ("__debug__" : Str)) = false) (hcd : (x == ("__classdict__" : Str)) = false) (h : DE Z γ e tv) (hp : plain e = true) (hl : (ap.endLine == pos.line) = true) (p2 : Pos) :
    DS Z γ (.Expr (.Call (.Attribute (.Name x p) "append" ap) [e] [] pos) p2) (fun ρ => bnd (ownAt i ρ) fun xs => bnd (tv ρ) fun d => appM i xs d ρ) := fun W => by
  obtain ⟨ta, pa, ra⟩ := da_cons hp h (da_nil (Z := Z) (γ := γ)) W
  refine ⟨tDrop (tBM γ.g.K "list" rAppend (tVar i) ta), fun X X1 => ps_expr ?_ rfl, fun ρ σ H H0 Q E Ds S q a x => ?_⟩
  · rw [← X1.K]
    exact pe_bm F.plainAttrs_list F.slot_list_append F.type_list_append mt_append (pe_var (by rw [X1.N]; exact hN) (X1.vis hv) hd hcd) (pa X X1) rfl (few_ok (by unfold few; simp [hp])) hl (star_cons hp _) rfl
  · obtain ⟨xs, hi, q⟩ := ownAt_inv q
    obtain ⟨p, vs, h1, h0, h2, h3, h4⟩ := S.own hi
    refine ⟨_, h1, .inl ⟨rfl, vs, .inl (.inl h2)⟩, ra ρ σ H H0 (fun ds κ => match ds with | [d] => appM i xs d ρ κ Q E | _ => False) E _ S q (fun ws ds H1 e1 k1 r1 hl q1 => ?_) (x.xn S.ext σ)⟩
    obtain ⟨d, rfl⟩ := List.length_eq_one_iff.mp hl
    obtain ⟨w, rfl, rw'⟩ := repl_one r1
    have S1 := S.mono e1 k1
    obtain ⟨p', vs', g1, g0, g2, g3, g4⟩ := S1.own hi
    rw [h1] at g1
    cases g1
    obtain ⟨b, q1⟩ := q1
    have hlen : vs'.length < sizeLine := by rw [← g4.length, sizeLine_eq]; exact b
    refine ⟨p, vs', w, rfl, rfl, g2, hlen, a.nx _ _ _ (S1.mut hi h1 g2 g0 (by rw [List.length_append]; exact hlen) (g4.append (.one rw'))) (Stb.trans (e1.stb S.ok) (stb_upd g2 fun z => z)) q1⟩
def rExtF (K : PySem.W.Frag) : V → List V → Hp → VK → Prop := fun x vs H Q => ∃ l b xs zs, x = .ref l ∧ vs = [.ref b] ∧ H l = some (.lst xs) ∧ (H b = some (.lst zs) ∨ ∃ o, H b = some (.frz o (.lst zs))) ∧ xs.length + zs.length ≤ sizeLine ∧ Q .non (upd H l (.lst (xs ++ zs)))
theorem mt_extF {X : Cx} : MtM X "list.extend" (rExtF X.K) := by
  intro pins s σ H x xs v us Q I rx rv h
  obtain ⟨l, b, xs, zs, rfl, rfl, hH, hB, hz, q⟩ := h
  cases rx
  obtain ⟨u, rfl, ru⟩ := rv.one
  cases ru
  obtain ⟨z, its, n, r, hl, e⟩ := I.lstM hH
  obtain ⟨its2, n2, r2, e2⟩ : ∃ (its2 : List Value) (n2 : Nat), Vals zs its2 ∧ s.heap.get? b = some { cls := .type "list", data := .seq its2.toArray n2 } := by
    rcases hB with hB | ⟨o, hB⟩
    · obtain ⟨_, its2, n2, r2, _, e2⟩ := I.lstM hB
      exact ⟨its2, n2, r2, e2⟩
    · obtain ⟨_, its2, n2, r2, e2⟩ := frz_obj I hB
      exact ⟨its2, n2, r2, e2⟩
  have hl2 := r2.length
  have hsz : its.toArray.size + its2.toArray.size ≤ sizeLine := by rw [List.size_toArray, List.size_toArray]; omega
  have hlong : ¬ (!its.toArray.isEmpty && Builtin.List.listTooLong (its.toArray.size + its2.toArray.size)) = true := by
    rw [notLongL hsz, Bool.and_false]
    exact Bool.false_ne_true
  refine call_meets F.slot_list_extend ⟨_, e, rfl⟩ F.entry_list_extend (F.args_list_extend_2 _ _)
    (AutoSeq1.list_extend_list_list_0 l its.toArray n b its2.toArray n2 hlong (by rw [List.size_toArray]; omega) (by omega)) ⟨e, e2, ?_⟩
  refine ⟨.non, _, I.lset (its' := its ++ its2) hH e (by simp) (r.append r2) ?_, rfl, q⟩
  rw [List.length_append]
  omega
theorem ds_ext (hN : γ.N[i]? = some x) (hv : Vis γ.sc x) (hd : (x == ("__debug__" : Str)) = false) (hcd : (x == ("__classdict__" : Str)) = false) (h : DE Z γ e tv) (hp : plain e = true) (hl : (ap.endLine == pos.line) = true) (p2 : Pos) :
    DS Z γ (.Expr (.Call (.Attribute (.Name x p) "extend" ap) [e] [] pos) p2) (fun ρ => bnd (ownAt i ρ) fun xs => bnd (tv ρ) fun d => extM i xs d ρ) := fun W => by
  obtain ⟨ta, pa, ra⟩ := da_cons hp h (da_nil (Z := Z) (γ := γ)) W
  refine ⟨tDrop (tBM γ.g.K "list" (rExtF γ.g.K) (tVar i) ta), fun X X1 => ps_expr ?_ rfl, fun ρ σ H H0 Q E Ds S q a x => ?_⟩
  · rw [← X1.K]
    exact pe_bm F.plainAttrs_list F.slot_list_extend F.type_list_extend mt_extF (pe_var (by rw [X1.N]; exact hN) (X1.vis hv) hd hcd) (pa X X1) rfl (few_ok (by unfold few; simp [hp])) hl (star_cons hp _) rfl
  · obtain ⟨xs, hi, q⟩ := ownAt_inv q
    obtain ⟨p, vs, h1, h0, h2, h3, h4⟩ := S.own hi
    refine ⟨_, h1, .inl ⟨rfl, vs, .inl (.inl h2)⟩, ra ρ σ H H0 (fun ds κ => match ds with | [d] => extM i xs d ρ κ Q E | _ => False) E _ S q (fun ws ds H1 e1 k1 r1 hl q1 => ?_) (x.xn S.ext σ)⟩
    obtain ⟨d, rfl⟩ := List.length_eq_one_iff.mp hl
    obtain ⟨w, rfl, rw'⟩ := repl_one r1
    have S1 := S.mono e1 k1
    obtain ⟨p', vs', g1, g0, g2, g3, g4⟩ := S1.own hi
    rw [h1] at g1
    cases g1
    cases d with
    | lst ys =>
      obtain ⟨a2, o2, us, rfl, f1, f2, f3⟩ := rw'.lst_inv
      obtain ⟨b, q1⟩ := (q1 : xs.length + ys.length ≤ 16777216 ∧ Q _ _)
      have hlen : vs'.length + us.length ≤ sizeLine := by rw [← g4.length, ← f3.length, sizeLine_eq]; exact b
      exact ⟨p, a2, vs', us, rfl, rfl, g2, .inr ⟨o2, f1⟩, hlen, a.nx _ _ _ (S1.mut hi h1 g2 g0 (by rw [List.length_append]; exact hlen) (g4.append f3)) (Stb.trans (e1.stb S.ok) (stb_upd g2 fun z => z)) q1⟩
    | _ => exact q1.elim
/-! ### own lists read for a while -/
theorem SR.lockE {K : PySem.W.Frag} {H0 H : Hp} {ρ : Nv} {σ : L2.St} (S : SR K Z κ H0 ρ σ H) (i : Nat) (xs : List D) (hi : ρ[i]? = some (.own xs)) : ∃ p vs, H p = some (.lst vs) ∧ H0 p = none ∧ vs.length ≤ sizeLine ∧ ∀ o, SR K Z κ H0 (ρ.set i (.val (.lst xs))) σ (upd H p (.frz o (.lst vs))) := by
  obtain ⟨p, vs, h1, h0, h2, h3, h4⟩ := S.own hi
  exact ⟨p, vs, h2, h0, h3, fun o => S.frz hi h1 h2 h0 h3 h4⟩
mutual
theorem flat_unl {K : PySem.W.Frag} {H : Hp} {p : Addr} {o : Obj} {vs : List V} (h : H p = some (.frz o (.lst vs))) : ∀ (d : D) (v : V), d.flat = true → Rep K Z H d v → Rep K Z (upd H p (.lst vs)) d v
  | .non, v, _, r => by rw [r.non_inv]; exact .non
  | .bl b, v, _, r => by rw [r.bl_inv]; exact .bl b
  | .int i, v, _, r => by rw [r.int_inv]; exact .int i
  | .str s, v, _, r => by obtain ⟨rfl, q⟩ := r.str_inv; exact .str q
  | .rng lo hi, v, _, r => by
    obtain ⟨a, rfl, q, b⟩ := r.rng_inv
    refine .rng ?_ b
    rw [upd_ne (fun z => by rw [z, h] at q; cases q)]
    exact q
  | .tup xs, v, f, r => by
    obtain ⟨a, ws, rfl, q, l, r2⟩ := r.tup_inv
    have q' : SqT K (upd H p (.lst vs)) a ws := by
      have ne : ∀ {u : HO}, H a = some u → (∀ o vs, u ≠ .frz o (.lst vs)) → (upd H p (.lst vs)) a = some u := fun {u} e n => by
        rw [upd_ne (fun z => by rw [z, h] at e; cases e; exact n _ _ rfl)]
        exact e
      rcases q with (q | ⟨o', q⟩) | q
      · exact .inl (.inl (ne q (fun _ _ z => nomatch z)))
      · exact .inl (.inr ⟨o', ne q (fun _ _ z => nomatch z)⟩)
      · exact .inr q
    exact .tup q' l (flatL_unl h xs ws (by simpa [D.flat] using f) r2)
  | .lst _, _, f, _ => by simp [D.flat] at f
  | .exc _ _, _, f, _ => by simp [D.flat] at f
  | .thk _ _, _, f, _ => by simp [D.flat] at f
  | .lam _, _, f, _ => by simp [D.flat] at f
  | .drw, _, f, _ => by simp [D.flat] at f
theorem flatL_unl {K : PySem.W.Frag} {H : Hp} {p : Addr} {o : Obj} {vs : List V} (h : H p = some (.frz o (.lst vs))) : ∀ (ds : List D) (ws : List V), flatL ds = true → RepL K Z H ds ws → RepL K Z (upd H p (.lst vs)) ds ws
  | [], _, _, r => by cases r; exact .nil
  | d :: ds, _, f, r => by
    simp only [flatL, Bool.and_eq_true] at f
    cases r with
    | cons r rr => exact .cons (flat_unl h d _ f.1 r) (flatL_unl h ds _ f.2 rr)
end
theorem unl_ext {H H1 : Hp} {p : Addr} {o : Obj} {vs : List V} (k : Z.sm H) (hp : H p = some (.lst vs)) (e : Ext Z (upd H p (.frz o (.lst vs))) H1) (nm : ¬ Z.mu p) : H1 p = some (.frz o (.lst vs)) ∧ Ext Z H (upd H1 p (.lst vs)) := by
  refine ⟨e p _ upd_same nm, fun a x ha m => ?_⟩
  by_cases h : a = p
  · subst h
    rw [upd_same, ← ha, hp]
  · rw [upd_ne h]
    exact e a x (by rw [upd_ne h]; exact ha) m
theorem lk1_inv {t : Nv → M D} {ρ : Nv} {Q E : D → Nat → Prop} (h : lk1 i t ρ κ Q E) : (∃ xs, ρ[i]? = some (.own xs) ∧ t (ρ.set i (.val (.lst xs))) κ (fun d κ => d.flat = true ∧ Q d κ) (fun _ _ => False)) ∨ t ρ κ Q E := by
  unfold lk1 at h
  cases hi : ρ[i]? with
  | none => rw [hi] at h; exact h.elim
  | some en => cases en with
    | un => rw [hi] at h; exact h.elim
    | val _ => rw [hi] at h; exact .inr h
    | own xs => rw [hi] at h; exact .inl ⟨xs, rfl, h⟩
theorem lk2_inv {t : Nv → M D} {ρ : Nv} {Q E : D → Nat → Prop} (h : lk2 i t ρ κ Q E) : (∃ xs, ρ[i]? = some (.own xs) ∧ t (ρ.set i (.val (.lst xs))) κ (fun d κ => lstFlat d = true ∧ Q d κ) (fun _ _ => False)) ∨ t ρ κ Q E := by
  unfold lk2 at h
  cases hi : ρ[i]? with
  | none => rw [hi] at h; exact h.elim
  | some en => cases en with
    | un => rw [hi] at h; exact h.elim
    | val _ => rw [hi] at h; exact .inr h
    | own xs => rw [hi] at h; exact .inl ⟨xs, rfl, h⟩
theorem pe_either {X : Cx} {e : Expr} {t u : TE} (h : PE X e t) (k : PE X e u) : PE X e (fun σ H Q => t σ H Q ∨ u σ H Q) := ⟨fun pins s σ H Q I q => by
  rcases q with q | q
  · exact h.run pins s σ H Q I q
  · exact k.run pins s σ H Q I q⟩
theorem de_lk (h : DE Z γ e tv) : DE Z γ e (lk1 i tv) := fun W => by
  obtain ⟨te, pe, rd⟩ := h W
  refine ⟨fun σ H Q => tLockE te σ H Q ∨ te σ H Q, fun X F => pe_either (pe_lock (pe X F)) (pe X F), fun ρ σ H H0 Q E R S q k kx => ?_⟩
  rcases lk1_inv q with ⟨xs, hi, q⟩ | q
  · obtain ⟨p, vs, hp, h0, hl, sr⟩ := S.lockE i xs hi
    have nm : ¬ Z.mu p := mu_not S.ok0 h0
    refine .inl ⟨p, _, hp, trivial, fun od => rd _ σ _ H0 _ (fun _ _ => False) _ (sr od) q (fun v d H1 e1 k1 r1 q1 => ?_) (fun _ _ _ _ _ _ _ z => z.elim)⟩
    obtain ⟨g1, g2⟩ := unl_ext S.sm hp e1 nm
    exact ⟨g1, k v d _ g2 (ok_upd S.ok0 h0 k1 (ne_extF g1)) (flat_unl g1 d v q1.1 r1) q1.2⟩
  · exact .inr (rd ρ σ H H0 Q E R S q k kx)
theorem dn_lk (h : DN Z γ e tv) : DN Z γ e (lk2 i tv) := fun W => by
  obtain ⟨te, pe, rd⟩ := h W
  refine ⟨fun σ H Q => tLockE te σ H Q ∨ te σ H Q, fun X F => pe_either (pe_lock (pe X F)) (pe X F), fun ρ σ H H0 Q E R S q k kx => ?_⟩
  rcases lk2_inv q with ⟨xs, hi, q⟩ | q
  · obtain ⟨p, vs, hp, h0, hl, sr⟩ := S.lockE i xs hi
    have nm : ¬ Z.mu p := mu_not S.ok0 h0
    refine .inl ⟨p, _, hp, trivial, fun od => rd _ σ _ H0 _ (fun _ _ => False) _ (sr od) q (fun a ys ws H1 e1 k1 hn ha l1 r1 q1 => ?_) (fun _ _ _ _ _ _ _ z => z.elim)⟩
    obtain ⟨g1, g2⟩ := unl_ext S.sm hp e1 nm
    have ne : a ≠ p := fun z => by rw [z, upd_same] at hn; cases hn
    refine ⟨g1, k a ys ws _ g2 (ok_upd S.ok0 h0 k1 (ne_extF g1)) ?_ (by rw [upd_ne ne]; exact ha) l1 (flatL_unl g1 ys ws q1.1 r1) q1.2⟩
    rw [upd_ne ne] at hn
    exact hn
  · exact .inr (rd ρ σ H H0 Q E R S q k kx)
/-! ### methods of texts -/
theorem strsD_rep {K : PySem.W.Frag} {H : Hp} : ∀ {xs : List D} {ns : List Str} {vs : List V}, strsD xs = some ns → RepL K Z H xs vs → vs = ns.map V.str ∧ ∀ s ∈ ns, PyData.strOk s = true
  | [], ns, vs, h, r => by
    simp only [strsD, Option.some.injEq] at h
    subst h
    cases r
    exact ⟨rfl, fun _ z => by cases z⟩
  | x :: xs, ns, vs, h, r => by
    cases x with
    | str s =>
      simp only [strsD, Option.map_eq_some_iff] at h
      obtain ⟨ms, h1, rfl⟩ := h
      cases r with
      | cons r rr =>
        obtain ⟨rfl, q⟩ := r.str_inv
        obtain ⟨rfl, q2⟩ := strsD_rep h1 rr
        refine ⟨rfl, fun z hz => ?_⟩
        rcases List.mem_cons.mp hz with rfl | hz
        · exact q
        · exact q2 z hz
    | _ => simp [strsD] at h
theorem strOk_join {a : Str} (ha : PyData.strOk a = true) : ∀ {l : List Str}, (∀ s ∈ l, PyData.strOk s = true) → PyData.strOk (Str.join a l) = true
  | [], _ => by
    show PyData.strOk Str.empty = true
    unfold PyData.strOk
    simp [Str.empty]
  | [x], h => h x List.mem_cons_self
  | x :: y :: r, h => by
    show PyData.strOk (x ++ a ++ Str.join a (y :: r)) = true
    exact strOk_append (strOk_append (h x List.mem_cons_self) ha) (strOk_join ha fun s hs => h s (List.mem_cons_of_mem _ hs))
theorem de_join (ho : DE Z γ o to) (h : DE Z γ e tv) (hp : plain e = true) (hb : ∀ env : PySem.Env, attributeBase o "join" env (eval o env) = eval o env) (hl : (ap.endLine == pos.line) = true) :
    DE Z γ (.Call (.Attribute o "join" ap) [e] [] pos) (fun ρ => bnd (to ρ) fun x => bnd (strM x) fun x => bnd (tv ρ) fun y => lift (mtD .join x [y])) := fun W => by
  obtain ⟨ue, pe, re⟩ := ho W
  obtain ⟨ve, qe, rv⟩ := h W
  refine ⟨tM1 (fun x xs H Q => ∃ a p, ∃ ys : List Str, x = .str a ∧ xs = [.ref p] ∧ (SqL γ.g.K H p (ys.map V.str) ∨ SqT γ.g.K H p (ys.map V.str)) ∧
      (ys.map (·.length)).sum + ys.length * a.length ≤ 16777216 ∧ Q (.str (Txt.join a ys)) H) ue ve, fun X F => by rw [← F.K]; exact pe_join (pe X F) (qe X F) (star_cons hp _) (hb _) hl, fun ρ σ H H0 Q E R S q k kx => re ρ σ H H0 _ E _ S q (fun v d H1 e1 k1 r1 q1 => ?_) kx⟩
  cases d with
  | str a =>
    obtain ⟨rfl, oa⟩ := r1.str_inv
    refine ⟨⟨a, rfl⟩, rv ρ σ H1 H0 _ E _ (S.mono e1 k1) q1 (fun u d2 H2 e2 k2 r2 q2 => ?_) (kx.at e1)⟩
    cases d2 with
    | lst xs =>
      cases hs : strsD xs with
      | none =>
        have q2 : bnd0 (optM0 (strsD xs)) (fun ys => gd0 ((ys.map (·.length)).sum + ys.length * a.length ≤ 16777216) (ret0 (.str (Txt.join a ys)))) (fun a => Q a _) (fun e => E e _) := q2
        rw [hs] at q2
        exact q2.elim
      | some ys =>
        have q2 : bnd0 (optM0 (strsD xs)) (fun ys => gd0 ((ys.map (·.length)).sum + ys.length * a.length ≤ 16777216) (ret0 (.str (Txt.join a ys)))) (fun a => Q a _) (fun e => E e _) := q2
        rw [hs] at q2
        obtain ⟨b, q2⟩ := q2
        obtain ⟨p, ob, vs, rfl, g1, g2, g3⟩ := r2.lst_inv
        obtain ⟨rfl, os⟩ := strsD_rep hs g3
        refine ⟨a, p, ys, rfl, rfl, .inl (sqL_frz g1), b, k _ _ H2 (e1.trans e2) k2 (.str ?_) q2⟩
        show PyData.strOk (Builtin.Str.glued a ys) = true
        rw [StrLaws.glued_eq_join]
        exact strOk_join oa os
    | _ => exact q2.elim
  | _ => exact q1.elim
theorem de_upper (ho : DE Z γ o to) (hb : ∀ env : PySem.Env, attributeBase o "upper" env (eval o env) = eval o env) (hl : (ap.endLine == pos.line) = true) :
    DE Z γ (.Call (.Attribute o "upper" ap) [] [] pos) (fun ρ => bnd (to ρ) fun x => bnd (strM x) fun x => lift (mtD .upper x [])) := fun W => by
  obtain ⟨ue, pe, re⟩ := ho W
  refine ⟨_, fun X F => pe_upper (pe X F) (hb _) hl, fun ρ σ H H0 Q E R S q k kx => re ρ σ H H0 _ E _ S q (fun v d H1 e1 k1 r1 q1 => ?_) kx⟩
  cases d with
  | str a =>
    obtain ⟨rfl, oa⟩ := r1.str_inv
    exact ⟨⟨a, rfl⟩, a, rfl, rfl, q1.1.1, k _ _ H1 e1 k1 (.str q1.1.2) q1.2⟩
  | _ => exact q1.elim
end
end PL

/-! PLr: from the text of a def to its meaning: the translation of expressions. -/
namespace PL
open PySem
open PySem.Spec
open PyProof.Rows
open L2
structure FnE where
  name : Str
  id : Nat
  ps : List Str
  kb : List (Nat × List Str × List Nat) := []
structure Cfg where
  N : List Str
  fns : List FnE
  gls : List (Str × D) := []
  exs : List Str := []
  own : List Nat := []
  fz : List (Nat × List Nat) := []
  lks : List (Nat × List Nat) := []
  lam : Bool := false
  lfns : List FnE := []
  hks : List (Str × Str × Nat × Nat) := []
  pop : List (Str × Str × Str × Nat) := []
  cls : List Str := []
  tr : Bool := false
/-- within a lambda -/
def Cfg.inL (c : Cfg) : Cfg := { c with fns := c.lfns, lam := false, lfns := [], hks := [], pop := [], cls := [], tr := false }
structure Ct where
  sc : Scope
  blk : Option Scope
def fbOf : Option Scope → Str → Bool
  | none, _ => true
  | some s, x => s.names.lookup x == some .cell
/-- room for calls; the code object of the def, the head of its inner names -/
structure Rm where
  k : Nat
  cd : Value
  ql : Str
def gmOf (g : GE) (N : List Str) (r : Rm) (c : Ct) : Gm := ⟨g, N, c.sc, r.k, c.blk.isNone, fbOf c.blk, r.cd, r.ql⟩
def idx : List Str → Str → Option Nat
  | [], _ => none
  | y :: ys, x => if y = x then some 0 else (idx ys x).map (· + 1)
theorem idx_ok : ∀ {N : List Str} {x : Str} {i : Nat}, idx N x = some i → N[i]? = some x
  | [], _, _, h => by simp [idx] at h
  | y :: ys, x, i, h => by
    unfold idx at h
    by_cases e : y = x
    · rw [if_pos e] at h
      cases h
      rw [e]
      rfl
    · rw [if_neg e] at h
      obtain ⟨j, hj, rfl⟩ := Option.map_eq_some_iff.mp h
      rw [List.getElem?_cons_succ]
      exact idx_ok hj
/-- a name that no rule of its own reads -/
def nmOk (x : Str) : Bool := !(x == ("__debug__" : Str)) && !(x == ("__classdict__" : Str))
theorem nmOk_1 {x : Str} (h : nmOk x = true) : (x == ("__debug__" : Str)) = false ∧ (x == ("__classdict__" : Str)) = false := by
  unfold nmOk at h
  simpa using h
def isVis (sc : Scope) (x : Str) : Bool := match sc.names.lookup x with
  | some .local | some .cell | some .free => true
  | _ => false
theorem isVis_ok {sc : Scope} {x : Str} (h : isVis sc x = true) : Vis sc x := by
  unfold isVis at h
  unfold Vis
  split at h <;> simp_all
def isGlob (sc : Scope) (x : Str) : Bool := match sc.names.lookup x with
  | some .globalImplicit => true
  | _ => false
theorem isGlob_ok {sc : Scope} {x : Str} (h : isGlob sc x = true) : sc.names.lookup x = some .globalImplicit := by
  unfold isGlob at h
  split at h <;> simp_all
def storeOk (k : Ct) (x : Str) : Bool := match k.sc.names.lookup x with
  | some .local => true
  | some .cell => fbOf k.blk x
  | _ => false
theorem storeOk_ok {g : GE} {N : List Str} {r : Rm} {k : Ct} {x : Str} (h : storeOk k x = true) : StoreOk (gmOf g N r k) x := by
  unfold storeOk at h
  show k.sc.names.lookup x = some .local ∨ (k.sc.names.lookup x = some .cell ∧ fbOf k.blk x = true)
  split at h <;> simp_all
/-! ### lists -/
def trL (f : Expr → Option T) : List Expr → Option (List T)
  | [] => some []
  | e :: es => match f e, trL f es with
    | some t, some ts => some (t :: ts)
    | _, _ => none
def trK (f : Expr → Option T) : List Keyword → Option (List T)
  | [] => some []
  | k :: ks => match f k.value, trK f ks with
    | some t, some ts => some (t :: ts)
    | _, _ => none
def trAnd (f : Expr → Option T) : List Expr → Option T
  | [] => none
  | [e] => f e
  | e :: es => match f e, trAnd f es with
    | some t, some ts => some (.and t ts)
    | _, _ => none
def trOr (f : Expr → Option T) : List Expr → Option T
  | [] => none
  | [e] => f e
  | e :: es => match f e, trOr f es with
    | some t, some ts => some (.or t ts)
    | _, _ => none
/-! ### targets -/
def trGL (f : Expr → Option Tg) : List Expr → Option (List Tg)
  | [] => some []
  | e :: es => match f e, trGL f es with
    | some t, some ts => some (t :: ts)
    | _, _ => none
def trG : Nat → Cfg → Ct → Expr → Option Tg
  | 0, _, _, _ => none
  | n + 1, c, k, e => match e with
    | .Name x _ => if storeOk k x then (idx c.N x).map .nm else none
    | .Tuple es _ _ => if es.all tgx then (trGL (trG n c k) es).map .tp else none
    | _ => none
/-! ### blocks -/
def ownOf (N : List Str) : List (Str × NameKind) → List (Str × Nat)
  | [] => []
  | (n, k) :: r => if (k == .local || k == .cell) = true then (match idx N n with
    | some i => (n, i) :: ownOf N r
    | none => ownOf N r) else ownOf N r
def blkOk (N : List Str) (sc scope : Scope) : Bool :=
  (scope.kind == .function) && scope.names.all (fun y => (scope.names.lookup y.1 == some y.2) && (!(y.2 == .free) || (sc.names.lookup y.1 == some .cell || sc.names.lookup y.1 == some .free)))
theorem ownOf_ix {N : List Str} : ∀ {l : List (Str × NameKind)}, ∀ p ∈ ownOf N l, N[p.2]? = some p.1
  | [], p, h => by cases h
  | (n, k) :: r, p, h => by
    unfold ownOf at h
    split at h
    · split at h
      · rename_i i hi
        rcases List.mem_cons.mp h with rfl | h
        · exact idx_ok hi
        · exact ownOf_ix p h
      · exact ownOf_ix p h
    · exact ownOf_ix p h
theorem idx_none : ∀ {N : List Str} {x : Str}, idx N x = none → x ∉ N
  | [], _, _ => by simp
  | y :: ys, x, h => by
    unfold idx at h
    by_cases e : y = x
    · rw [if_pos e] at h; cases h
    · rw [if_neg e] at h
      have q := idx_none (Option.map_eq_none_iff.mp h)
      simp only [List.mem_cons, not_or]
      exact ⟨fun z => e z.symm, q⟩
theorem ownOf_own {N : List Str} : ∀ {l : List (Str × NameKind)}, ∀ y ∈ l, y.2 = .local ∨ y.2 = .cell → y.1 ∈ (ownOf N l).map (·.1) ∨ y.1 ∉ N
  | [], y, h, _ => by cases h
  | (n, k) :: r, y, h, hk => by
    unfold ownOf
    rcases List.mem_cons.mp h with rfl | h
    · have hc : (k == NameKind.local || k == NameKind.cell) = true := by
        rcases hk with e | e <;> (simp only at e; rw [e]; rfl)
      rw [if_pos hc]
      cases hi : idx N n with
      | some i => exact .inl (by simp)
      | none => exact .inr (idx_none hi)
    · have ih := ownOf_own (N := N) y h hk
      split
      · split
        · rcases ih with q | q
          · exact .inl (by rw [List.map_cons]; exact List.mem_cons_of_mem _ q)
          · exact .inr q
        · exact ih
      · exact ih
theorem blkOk_ok {N : List Str} {sc scope : Scope} (h : blkOk N sc scope = true) : BlkOk N sc scope (ownOf N scope.names) := by
  unfold blkOk at h
  simp only [Bool.and_eq_true, List.all_eq_true] at h
  obtain ⟨h1, h2⟩ := h
  refine ⟨by simpa using h1, fun y hy => by simpa using (h2 y hy).1, ownOf_ix, fun y hy e => ?_, ownOf_own⟩
  have q := (h2 y hy).2
  rw [e] at q
  simpa using q
/-! ### lambdas -/
/-- no parameters -/
def noArgs : Arguments → Bool
  | ⟨[], [], none, [], [], none, []⟩ => true
  | _ => false
def lamOk (sc scope : Scope) : Bool :=
  (scope.kind == .function) && !scope.isCoroutine && !scope.isGenerator && scope.names.all fun y => !(y.2 == .local) && !(y.2 == .cell) && (!(y.2 == .free) || (sc.names.lookup y.1 == some .cell) || (sc.names.lookup y.1 == some .free))
/-- a lambda that is fit -/
def lamE1 (sc : Scope) : Expr → Bool
  | .Lambda params _ scope _ => noArgs params && lamOk sc scope
  | _ => false
def trLam (fl : Ct → Expr → Option T) : List Expr → Option (List T)
  | [] => some []
  | .Lambda _ body scope _ :: es => match fl ⟨scope, some scope⟩ body, trLam fl es with
    | some t, some ts => some (t :: ts)
    | _, _ => none
  | _ :: _ => none
/-! ### expressions -/
/-- tests that are read by their value -/
def testOk : Expr → Bool
  | .IfExp _ _ _ _ => false
  | _ => true
def isNew : Expr → Bool
  | .List _ _ => true
  | .ListComp _ _ _ _ => true
  | _ => false
def bopE : Operator → Option Bop
  | .Add => some .add | .Sub => some .sub | .Mult => some .mul | .FloorDiv => some .fdiv | .Mod => some .mod | .Pow => some .pow
  | _ => none
def copE : CmpOp → Option Cop
  | .Eq => some .eq | .NotEq => some .ne | .Lt => some .lt | .LtE => some .le | .Gt => some .gt | .GtE => some .ge | .In => some .isin | .NotIn => some .notin | .Is => some .isn | .IsNot => some .notn
def tyE (x : Str) : Option Ty := if x = ("int" : Str) then some .int else if x = ("bool" : Str) then some .bool else if x = ("str" : Str) then some .str else if x = ("tuple" : Str) then some .tuple else if x = ("list" : Str) then some .list else none
def constE : Const → Option D
  | .none => some .non
  | .bool b => some (.bl b)
  | .int i => some (.int i)
  | .str s => if PyData.strOk s = true then some (.str s) else none
  | _ => none
/-- functions of one place, by a rule -/
def bf1 (x : Str) : Option Bf := if x = ("len" : Str) then some .len else if x = ("tuple" : Str) then some .tuple else if x = ("list" : Str) then some .list else if x = ("int" : Str) then some .int else if x = ("abs" : Str) then some .abs else if x = ("repr" : Str) then some .repr else if x = ("range" : Str) then some .range1 else if x = ("sum" : Str) then some .sum else if x = ("min" : Str) then some .min else if x = ("max" : Str) then some .max else none
def bf2 (x : Str) : Option Bf := if x = ("min" : Str) then some .min else if x = ("max" : Str) then some .max else if x = ("range" : Str) then some .range2 else none
def bltNames : List Str := ["len", "tuple", "list", "int", "abs", "repr", "range", "min", "max", "isinstance", "bool", "str", "zip", "enumerate", "sum", "sorted", "set", "any", "all", "dict"]
def isLams : Expr → Bool
  | .List (.Lambda _ _ _ _ :: _) _ => true
  | .Lambda _ _ _ _ => true
  | _ => false
def trCall (f : Expr → Option T) (fl : Ct → Expr → Option T) (c : Cfg) (k : Ct) (x : Str) (es : List Expr) (kws : List Keyword) : Option T :=
  if !(isGlob k.sc x && nmOk x && es.all plain) then none else
  match c.fns.find? (fun q => decide (q.name = x)) with
  | some F => match kws with
    | [] => if c.lam && k.blk.isNone && decide (F.ps.length = 1) && es.any isLams then (match es with
        | [.List ls _] => if ls.all (lamE1 k.sc) && decide (ls.length ≤ 16777216) then (trLam fl ls).map (.lamL F.id) else none
        | [.Lambda ps body scope lp] => if lamE1 k.sc (.Lambda ps body scope lp) then (fl ⟨scope, some scope⟩ body).map (.lam1 F.id) else none
        | _ => none) else if es.length = F.ps.length then (trL f es).map (.call F.id) else none
    | _ :: _ => match kwNames kws with
      | none => none
      | some ks => match F.kb.find? (fun q => decide (q.1 = es.length) && decide (q.2.1 = ks)) with
        | none => none
        | some q => match trL f es, trK f kws with
          | some ts, some us => some (.callk F.id ts us q.2.2)
          | _, _ => none
  | none => match kws with
    | _ :: _ => none
    | [] => match es with
      | [a] => match bf1 x, f a with
        | some b, some t => some (.bf b [t])
        | _, _ => none
      | [a, b] => if x = ("isinstance" : Str) then (match b with
          | .Name y _ => if isGlob k.sc y then (match tyE y, f a with
            | some T, some t => some (.bf (.isi T) [t])
            | none, some t => if c.cls.contains y && nmOk y then some (.bf (.isC y) [t]) else none
            | _, _ => none) else none
          | _ => none) else match bf2 x, f a, f b with
        | some q, some t, some u => some (.bf q [t, u])
        | _, _, _ => none
      | _ => none
def trI (f : Ct → Expr → Option T) (c : Cfg) (k : Ct) (tg it : Expr) : Option I := match it with
  | .Call (.Name x _) [a] [] _ => if x = ("range" : Str) then (if isGlob k.sc x && plain a then (f k a).map .rng1 else none) else if x = ("enumerate" : Str) then (match tg with
      | .Tuple _ _ _ => if isGlob k.sc x && plain a then (f k a).map .enum else none
      | _ => none) else (f k it).map .val
  | .Call (.Name x _) [a, b] [] _ => if x = ("range" : Str) then (if isGlob k.sc x && plain a && plain b then (match f k a, f k b with
      | some t, some u => some (.rng2 t u)
      | _, _ => none) else none) else if x = ("zip" : Str) then (match tg with
      | .Tuple _ _ _ => if isGlob k.sc x && plain a && plain b then (match f k a, f k b with
        | some t, some u => some (.zip t u)
        | _, _ => none) else none
      | _ => none) else (f k it).map .val
  | _ => (f k it).map .val
def trIf (f : Expr → Option T) : List Expr → Option T
  | [] => some (.const (.bl true))
  | [q] => if testOk q then f q else none
  | _ => none
def superOk : Expr → Bool
  | .Call _ _ _ _ => false
  | _ => true
def trE1 (n : Nat) (f fl : Ct → Expr → Option T) (c : Cfg) (k : Ct) (e : Expr) : Option T := match e with
  | .Name x _ => if !nmOk x then none else if isVis k.sc x then (idx c.N x).map .var else if isGlob k.sc x then (c.gls.lookup x).map .const else none
  | .Constant v _ _ => (constE v).map .const
  | .BinOp a op b _ => match bopE op, f k a, f k b with
    | some o, some x, some y => some (.bin o x y)
    | _, _, _ => none
  | .Compare a [op] [b] _ => if behindInMarks op b then none else match copE op, f k a, f k b with
    | some o, some x, some y => some (.cmp o x y)
    | _, _, _ => none
  | .Compare a [o1, o2] [b, d] _ => if behindInMarks o2 d then none else match copE o1, copE o2, f k a, f k b, f k d with
    | some p, some q, some x, some y, some z => some (.chain p q x y z)
    | _, _, _, _, _ => none
  | .BoolOp .And es _ => if es.all testOk then trAnd (f k) es else none
  | .BoolOp .Or es _ => if es.all testOk then trOr (f k) es else none
  | .UnaryOp .Not a _ => if testOk a then (f k a).map .not else none
  | .UnaryOp .USub a _ => (f k a).map .neg
  | .IfExp q a b _ => if testOk q then (match f k q, f k a, f k b with
    | some x, some y, some z => some (.ite x y z)
    | _, _, _ => none) else none
  | .Tuple es _ _ => if es.all plain && decide (es.length ≤ 16777216) then (trL (f k) es).map .tup else none
  | .List es _ => if es.all plain && decide (es.length ≤ 16777216) then (trL (f k) es).map .lst else none
  | .Subscript a (.Slice lo hi none _) _ => match f k a with
    | none => none
    | some x => match lo, hi with
      | none, none => some (.slN x)
      | some l, none => (f k l).map (.slF x)
      | none, some h => (f k h).map (.slT x)
      | some l, some h => match f k l, f k h with
        | some y, some z => some (.slB x y z)
        | _, _ => none
  | .Subscript a (.Slice none none (some (.UnaryOp .USub (.Constant (.int 1) _ _) _)) _) _ => (f k a).map .rev
  | .Subscript a b _ => if plainIx b then (match f k a, f k b with
    | some x, some y => some (.ix x y)
    | _, _ => none) else none
  | .Call (.Name x _) es kws _ => trCall (f k) fl c k x es kws
  | .Call (.Attribute o m ap) es [] pos => if !(superOk o && decide (ap.endLine = pos.line)) then none else match es with
    | [a] => if m = ("join" : Str) then (if plain a then (match f k o, f k a with
        | some x, some y => some (.mt .join x [y])
        | _, _ => none) else none) else none
    | [] => if m = ("upper" : Str) then (f k o).map fun x => .mt .upper x [] else none
    | _ => none
  | .ListComp elt [⟨tg, it, ifs, 0⟩] scope _ => if !(blkOk c.N k.sc scope && foldOk it) then none else
    match trI f c k tg it, trG n c ⟨relS scope k.sc, some scope⟩ tg, trIf (f ⟨relS scope k.sc, some scope⟩) ifs, f ⟨relS scope k.sc, some scope⟩ elt with
    | some ti, some g, some tc, some te => if g.ix.all (fun j => ((ownOf c.N scope.names).map (·.2)).contains j) then some (.comp ((ownOf c.N scope.names).map (·.2)) g ti tc te) else none
    | _, _, _, _ => none
  | .Attribute _ _ _ => some .bad
  | _ => none
/-- the draw read -/
def trHook (c : Cfg) (k : Ct) (e : Expr) : Option T := match e with
  | .Subscript (.Name x _) (.Constant (.str key) _ _) _ => match c.hks.find? (fun q => decide (q.1 = x) && decide (q.2.1 = key)), idx c.N x with
    | some q, some i => if isVis k.sc x && nmOk x then some (.call q.2.2.1 [.var i]) else none
    | _, _ => none
  | .IfExp (.Compare (.Subscript (.Name x _) (.Constant (.str key) _ _) _) [.NotEq] [.List [] _] _) (.Call (.Attribute (.Subscript (.Name x2 _) (.Constant (.str key2) _ _) _) m p5) [.Constant (.int 0) _ _] [] p7) (.Call (.Name fm _) [.Name x3 _] [] _) _ =>
    match c.pop.find? (fun q => decide (q.1 = x) && decide (q.2.1 = key) && decide (q.2.2.1 = fm)), idx c.N x with
    | some q, some i => if isVis k.sc x && nmOk x && decide (x2 = x) && decide (key2 = key) && decide (m = ("pop" : Str)) && decide (p5.endLine = p7.line) && decide (x3 = x) && isGlob k.sc fm && nmOk fm then some (.call q.2.2.2 [.var i]) else none
    | _, _ => none
  | _ => none
/-- the draw written -/
def trHookS (f : Ct → Expr → Option T) (c : Cfg) (k : Ct) (st : Stmt) : Option S := match st with
  | .Assign [.Subscript (.Name x _) (.Constant (.str key) _ _) _] e _ => match c.hks.find? (fun q => decide (q.1 = x) && decide (q.2.1 = key)), idx c.N x, f k e with
    | some q, some i, some t => if isVis k.sc x && nmOk x && noComp e && (decide (key = ("rest" : Str)) || decide (key = ("turn" : Str))) then some (.ex (.call q.2.2.2 [.var i, t])) else none
    | _, _, _ => none
  | _ => none
/-- try: w() except LockError as n: e = n -/
def trTry (c : Cfg) (k : Ct) (st : Stmt) : Option S := match st with
  | .Try [.Expr (.Call (.Name wn _) [] [] _) _] [.ExceptHandler (some (.Name x _)) (some n) [.Assign [.Name e _] (.Name n2 _) _] _] [] [] _ => match idx c.N wn, idx c.N e, idx c.N n with
    | some w, some i, some j => if c.tr && k.blk.isNone && decide (x = baseX) && decide (n2 = n) && isVis k.sc wn && nmOk wn && nmOk n && (k.sc.names.lookup e == some .local) && (k.sc.names.lookup n == some .local) && isGlob k.sc x then some (.tryk w i j) else none
    | _, _, _ => none
  | _ => none
def trE : Nat → Cfg → Ct → Expr → Option T
  | 0, _, _, _ => none
  | n + 1, c, k, e => match trHook c k e with
    | some t => some t
    | none => trE1 n (trE n c) (trE n c.inL) c k e
end PL

/-! PLx: records that are told of for a while. -/
namespace PL
open PySem
open PySem.Spec
open PyProof.Rows
open L2
open Classical in
/-- told: the records at S, as h has them -/
noncomputable def track (S : Addr → Prop) (h : Heap) (H : Hp) : Hp := fun b => if S b then some (.ext fun h' => ∃ o, h.get? b = some o ∧ h'.get? b = some o) else H b
open Classical in
noncomputable def cut (S : Addr → Prop) (H : Hp) : Hp := fun b => if S b then none else H b
open Classical in
/-- those at S as H has them, the others as H' has them -/
noncomputable def back (S : Addr → Prop) (H H' : Hp) : Hp := fun b => if S b then H b else H' b
def Told (S : Addr → Prop) (h : Heap) (H : Hp) : Prop := ∀ b, S b → H b = some (.ext fun h' => ∃ o, h.get? b = some o ∧ h'.get? b = some o)
section
variable {S : Addr → Prop} {h : Heap} {H H' : Hp} {b : Addr}
theorem track_in (s : S b) : track S h H b = some (.ext fun h' => ∃ o, h.get? b = some o ∧ h'.get? b = some o) := by unfold track; rw [if_pos s]
theorem track_out (s : ¬ S b) : track S h H b = H b := by unfold track; rw [if_neg s]
theorem cut_in (s : S b) : cut S H b = none := by unfold cut; rw [if_pos s]
theorem cut_out (s : ¬ S b) : cut S H b = H b := by unfold cut; rw [if_neg s]
theorem back_in (s : S b) : back S H H' b = H b := by unfold back; rw [if_pos s]
theorem back_out (s : ¬ S b) : back S H H' b = H' b := by unfold back; rw [if_neg s]
theorem told_track : Told S h (track S h H) := fun b s => track_in s
theorem Told.ex (t : Told S h H) {P : Program} {w : World} {h' : Heap} (k : HOk P w H h') (s : S b) : ∃ o, h.get? b = some o ∧ h'.get? b = some o := (k b _ (t b s)).1
end
section
variable {P : Program} {w : World} {K : PySem.W.Frag} {mg : Str → Option Value} {base : Heap} {A : Around} {outer : List PySem.Env} {s s' : Shared} {H H2 : Hp} {S : Addr → Prop} {h : Heap}
theorem hok_track (k : HOk P w H h) (n : ∀ b, S b → H b = none) (o : ∀ b, S b → ∃ o, h.get? b = some o) : HOk P w (track S h H) h := fun b u e => by
  by_cases sb : S b
  · rw [track_in sb] at e
    cases e
    obtain ⟨o, ho⟩ := o b sb
    exact ⟨⟨o, ho, ho⟩, ⟨o, ho⟩, fun h1 h2 ⟨o, a, c⟩ st => ⟨o, a, st o c⟩⟩
  · rw [track_out sb] at e
    have q : ∀ c v, H c = some v → track S h H c = some v := fun c v e => by
      rw [track_out fun z => by rw [n c z] at e; cases e]
      exact e
    exact (k b u e).stay (fun _ _ _ q => q) (fun c e => q c _ e) fun c xs e => q c _ e
theorem hok_cut (k : HOk P w H h) {h0 : Heap} (t : Told S h0 H) : HOk P w (cut S H) h := fun b u e => by
  by_cases sb : S b
  · rw [cut_in sb] at e
    cases e
  · rw [cut_out sb] at e
    have q : ∀ c v, H c = some v → (∀ φ, v ≠ .ext φ) → cut S H c = some v := fun c v e n => by
      rw [cut_out fun z => by rw [t c z] at e; cases e; exact n _ rfl]
      exact e
    exact (k b u e).stay (fun _ _ _ q => q) (fun c e => q c _ e fun _ z => nomatch z) fun c xs e => q c _ e fun _ z => nomatch z
theorem env0_track (e : Env0 P w K mg base A outer s H) (n : ∀ b, S b → H b = none ∧ base.get? b = none ∧ b ∉ frs outer ∧ ∃ o, s.heap.get? b = some o) : Env0 P w K mg base A outer s (track S s.heap H) where
  frames := e.frames
  mod := e.mod
  bs := fun b o hb => ⟨(e.bs b o hb).1, by
    rw [track_out fun z => by rw [(n b z).2.1] at hb; cases hb]
    exact (e.bs b o hb).2⟩
  bsz := e.bsz
  funs := e.funs
  frf := fun b hb => by
    rw [track_out fun z => (n b z).2.2.1 hb]
    exact e.frf b hb
  hok := hok_track e.hok (fun b z => (n b z).1) fun b z => (n b z).2.2.2
  bare := e.bare
theorem env0_cut {h0 : Heap} (e : Env0 P w K mg base A outer s H) (t : Told S h0 H) : Env0 P w K mg base A outer s (cut S H) where
  frames := e.frames
  mod := e.mod
  bs := fun b o hb => ⟨(e.bs b o hb).1, by
    by_cases z : S b
    · exact cut_in z
    · rw [cut_out z]; exact (e.bs b o hb).2⟩
  bsz := e.bsz
  funs := e.funs
  frf := fun b hb => by
    by_cases z : S b
    · exact cut_in z
    · rw [cut_out z]; exact e.frf b hb
  hok := hok_cut e.hok t
  bare := e.bare
/-- a call that kept what was told, as one that was not told -/
theorem cr_untrack {Q Q' : VK} {E E' : XK} {r : Result} (n : ∀ b, S b → H b = none ∧ b ∉ frs outer) (c : CR (L2.CX P w) outer P w (track S s.heap H) s Q' E' r s')
    (q : ∀ v H2 h2, HOk P w H2 h2 → Q' v H2 → Told S s.heap H2 ∧ Q v (cut S H2)) (x : ∀ cls d H2 h2, HOk P w H2 h2 → E' cls d H2 → Told S s.heap H2 ∧ E cls d (cut S H2)) : CR (L2.CX P w) outer P w H s Q E r s' := by
  have sz : ∀ {b u}, H b = some u → ¬ S b := fun {b u} e z => by rw [(n b z).1] at e; cases e
  cases r with
  | error u =>
    obtain ⟨a, B, H', cls, d, e1, fl, hok, ub, na, os, ab, hE⟩ := (c : L2.CX P w outer (track S s.heap H) s E' u s')
    obtain ⟨t, hE⟩ := x _ _ _ _ hok hE
    refine ⟨a, B, cut S H', cls, d, e1, fl, hok_cut hok t, ?_, ?_, os, ab, hE⟩
    · refine ⟨fun b o ho hn hf => ?_, fun b o ho hf => ub.slot b o ho hf, fun b o ho hn => ?_, fun b o ho hf => ub.there b o ho hf, fun b xs e => ?_, fun b o u e => ?_, fun b ps e => ?_⟩
      · by_cases sb : S b
        · obtain ⟨o', h1, h2⟩ := t.ex hok sb
          rw [ho] at h1
          cases h1
          exact h2
        · exact ub.keep b o ho (by rw [track_out sb]; exact hn) hf
      · by_cases sb : S b
        · exact cut_in sb
        · rw [cut_out sb]
          exact ub.free b o ho (by rw [track_out sb]; exact hn)
      · rw [cut_out (sz e)]
        exact ub.tups b xs (by rw [track_out (sz e)]; exact e)
      · rw [cut_out (sz e)]
        exact ub.frzs b o u (by rw [track_out (sz e)]; exact e)
      · rw [cut_out (sz e)]
        exact ub.tbls b ps (by rw [track_out (sz e)]; exact e)
    · by_cases sb : S a
      · exact cut_in sb
      · rw [cut_out sb]; exact na
  | ok fl =>
    cases fl with
    | ret u =>
      obtain ⟨v, H', os, ab, un, hok, rv, hQ⟩ := (c : CE outer P w (track S s.heap H) s Q' u s')
      obtain ⟨t, hQ⟩ := q _ _ _ hok hQ
      refine ⟨v, cut S H', os, ab, ?_, hok_cut hok t, rv, hQ⟩
      refine ⟨fun b o ho hn hf hx => ?_, fun b o ho hn hf hx => ?_, fun b o ho hn hx => ?_, fun b o ho hx => un.there b o ho hx, fun b xs e => ?_, fun b o u e => ?_, fun b ps e => ?_⟩
      · by_cases sb : S b
        · obtain ⟨o', h1, h2⟩ := t.ex hok sb
          rw [ho] at h1
          cases h1
          exact h2
        · exact un.keep b o ho (by rw [track_out sb]; exact hn) hf hx
      · have sb : ¬ S b := fun z => (n b z).2 hf
        exact un.slot b o ho (by rw [track_out sb]; exact hn) hf hx
      · by_cases sb : S b
        · exact cut_in sb
        · rw [cut_out sb]
          exact un.free b o ho (by rw [track_out sb]; exact hn) hx
      · rw [cut_out (sz e)]
        exact un.tups b xs (by rw [track_out (sz e)]; exact e)
      · rw [cut_out (sz e)]
        exact un.frzs b o u (by rw [track_out (sz e)]; exact e)
      · rw [cut_out (sz e)]
        exact un.tbls b ps (by rw [track_out (sz e)]; exact e)
    | next => exact False.elim c
    | brk => exact False.elim c
    | cont => exact False.elim c
/-- a call that was not told, told again -/
theorem cr_back {Q Q' : VK} {E E' : XK} {r : Result} {h0 : Heap} (e0 : Env0 P w K mg base A outer s H) (t : Told S h0 H) (c : CR (L2.CX P w) outer P w (cut S H) s Q' E' r s')
    (q : ∀ v H2, (∀ b, S b → H2 b = none) → Q' v H2 → Q v (back S H H2)) (x : ∀ cls d H2, (∀ b, S b → H2 b = none) → E' cls d H2 → E cls d (back S H H2)) : CR (L2.CX P w) outer P w H s Q E r s' := by
  have nf : ∀ {b}, S b → b ∉ frs outer := fun {b} sb hb => by
    have := e0.frf b hb
    rw [t b sb] at this
    cases this
  have sx : ∀ {b u}, H b = some u → (∀ φ, u ≠ .ext φ) → ¬ S b := fun {b u} e n z => by rw [t b z] at e; cases e; exact n _ rfl
  have hokB : ∀ {H2 : Hp} {h2 : Heap}, HOk P w H2 h2 → (∀ b, S b → H2 b = none) → (∀ b o, S b → s.heap.get? b = some o → h2.get? b = some o) → HOk P w (back S H H2) h2 := fun {H2 h2} k2 nn kp b u e => by
    by_cases sb : S b
    · rw [back_in sb, t b sb] at e
      cases e
      obtain ⟨o, h1, h3⟩ := t.ex e0.hok sb
      exact ⟨⟨o, h1, kp b o sb h3⟩, ⟨o, kp b o sb h3⟩, fun h1 h2 ⟨o, a, c⟩ st => ⟨o, a, st o c⟩⟩
    · rw [back_out sb] at e
      have q : ∀ c v, H2 c = some v → back S H H2 c = some v := fun c v e => by
        rw [back_out fun z => by rw [nn c z] at e; cases e]
        exact e
      exact (k2 b u e).stay (fun _ _ _ q => q) (fun c e => q c _ e) fun c xs e => q c _ e
  cases r with
  | error u =>
    obtain ⟨a, B, H', cls, d, e1, fl, hok, ub, na, os, ab, hE⟩ := (c : L2.CX P w outer (cut S H) s E' u s')
    have kp : ∀ b o, S b → s.heap.get? b = some o → B.get? b = some o := fun b o sb ho => ub.keep b o ho (cut_in sb) (nf sb)
    have nn : ∀ b, S b → H' b = none := fun b sb => by
      obtain ⟨o, _, h3⟩ := t.ex e0.hok sb
      exact ub.free b o h3 (cut_in sb)
    have naS : ¬ S a := fun z => by
      obtain ⟨o, _, h3⟩ := t.ex e0.hok z
      have h4 := kp a o z h3
      rw [fl.2.1] at h4
      cases h4
    refine ⟨a, B, back S H H', cls, d, e1, fl, hokB hok nn kp, ?_, by rw [back_out naS]; exact na, os, ab, x _ _ _ nn hE⟩
    refine ⟨fun b o ho hn hf => ?_, fun b o ho hf => ub.slot b o ho hf, fun b o ho hn => ?_, fun b o ho hf => ub.there b o ho hf, fun b xs e => ?_, fun b o u e => ?_, fun b ps e => ?_⟩
    · exact ub.keep b o ho (by by_cases sb : S b; exact cut_in sb; rw [cut_out sb]; exact hn) hf
    · have sb : ¬ S b := fun z => by rw [t b z] at hn; cases hn
      rw [back_out sb]
      exact ub.free b o ho (by rw [cut_out sb]; exact hn)
    · have sb := sx e fun _ z => nomatch z
      rw [back_out sb]
      exact ub.tups b xs (by rw [cut_out sb]; exact e)
    · have sb := sx e fun _ z => nomatch z
      rw [back_out sb]
      exact ub.frzs b o u (by rw [cut_out sb]; exact e)
    · have sb := sx e fun _ z => nomatch z
      rw [back_out sb]
      exact ub.tbls b ps (by rw [cut_out sb]; exact e)
  | ok fl =>
    cases fl with
    | ret u =>
      obtain ⟨v, H', os, ab, un, hok, rv, hQ⟩ := (c : CE outer P w (cut S H) s Q' u s')
      have kp : ∀ b o, S b → s.heap.get? b = some o → s'.heap.get? b = some o := fun b o sb ho => un.keep b o ho (cut_in sb) (nf sb) (by simp)
      have nn : ∀ b, S b → H' b = none := fun b sb => by
        obtain ⟨o, _, h3⟩ := t.ex e0.hok sb
        exact un.free b o h3 (cut_in sb) (by simp)
      refine ⟨v, back S H H', os, ab, ?_, hokB hok nn kp, rv, q _ _ nn hQ⟩
      refine ⟨fun b o ho hn hf hx => ?_, fun b o ho hn hf hx => ?_, fun b o ho hn hx => ?_, fun b o ho hx => un.there b o ho hx, fun b xs e => ?_, fun b o u e => ?_, fun b ps e => ?_⟩
      · exact un.keep b o ho (by by_cases sb : S b; exact cut_in sb; rw [cut_out sb]; exact hn) hf hx
      · exact un.slot b o ho (by by_cases sb : S b; exact cut_in sb; rw [cut_out sb]; exact hn) hf hx
      · have sb : ¬ S b := fun z => by rw [t b z] at hn; cases hn
        rw [back_out sb]
        exact un.free b o ho (by rw [cut_out sb]; exact hn) hx
      · have sb := sx e fun _ z => nomatch z
        rw [back_out sb]
        exact un.tups b xs (by rw [cut_out sb]; exact e)
      · have sb := sx e fun _ z => nomatch z
        rw [back_out sb]
        exact un.frzs b o u (by rw [cut_out sb]; exact e)
      · have sb := sx e fun _ z => nomatch z
        rw [back_out sb]
        exact un.tbls b ps (by rw [cut_out sb]; exact e)
    | next => exact False.elim c
    | brk => exact False.elim c
    | cont => exact False.elim c
end
end PL

/-! PLy: a lambda without parameters runs. -/
namespace PL
open PySem
open PySem.Spec
open PyProof.Rows
open L2
abbrev lamE (q : Str) (cl : List (Str × Addr)) (scope : Scope) (L f c' : Addr) : PySem.Env := PySem.W.envX q scope L f (.ref c') cl
/-- the context of a lambda's body, entered at s -/
def lamC (g : GE) (N : List Str) (q : Str) (cl : List (Str × Addr)) (scope : Scope) (f c' : Addr) (A : Around) (outer : List PySem.Env) (s : Shared) (H : Hp) (E : XK) : Cx where
  prog := g.P
  w := g.w
  K := g.K
  mg := g.mg
  base := g.base
  A := A.deeper (lamE q cl scope s.heap.objs.size f c')
  N := N
  s_0 := s
  H_0 := H
  env := lamE q cl scope s.heap.objs.size f c'
  outer := outer
  stack := lamE q cl scope s.heap.objs.size f c' :: outer
  ex := []
  fn := fun _ => false
  calm := true
  pn := []
  xe := fun e s' => wpAny (model g.P g.w) (A.deeper (lamE q cl scope s.heap.objs.size f c')) (leaving (lamE q cl scope s.heap.objs.size f c') e) (fun _ s'' => L2.CX g.P g.w outer H s E e s'') (fun e' s'' => L2.CX g.P g.w outer H s E e' s'') s'
/-- no parameter, no name of its own -/
structure LamS (scope : Scope) : Prop where
  kind : scope.kind = .function
  co : scope.isCoroutine = false
  gen : scope.isGenerator = false
  own : ∀ y ∈ scope.names, y.2 ≠ .local ∧ y.2 ≠ .cell
/-- the captured names' cells, and what stands in them -/
structure Cells (N : List Str) (σ : L2.St) (scope : Scope) (cl : List (Str × Addr)) (H : Hp) (h : Heap) : Prop where
  has : ∀ y, scope.names.lookup y = some .free → ∃ c, cl.lookup y = some c
  inj : ∀ y z c, cl.lookup y = some c → cl.lookup z = some c → y = z
  none : ∀ y c, cl.lookup y = some c → H c = none
  cell : ∀ y c, cl.lookup y = some c → ∃ v, h.IsCell c v
  val : ∀ (i : Nat) (y : Str) (v : V), N[i]? = some y → σ[i]? = some (some v) → scope.names.lookup y = some .free → ∃ c u, cl.lookup y = some c ∧ RelV v u ∧ h.IsCell c (some u)
section
variable {g : GE} {N : List Str} {q : Str} {cl : List (Str × Addr)} {scope : Scope} {f c' : Addr} {A : Around} {outer : List PySem.Env} {s : Shared} {H : Hp} {E : XK} {σ : L2.St}
theorem inv_lam {h₁ : Heap} {tk : Nat} (L : LamS scope) (C : Cells N σ scope cl H s.heap) (e0 : Env0 g.P g.w g.K g.mg g.base A outer s H) (hd : A.handled = none) (hl : σ.length = N.length)
    (hns : h₁.Ns s.heap.objs.size fun y => ([] : List (Str × Value)).reverse.lookup y) (kp : ∀ b o, s.heap.get? b = some o → h₁.get? b = some o) :
    Inv (lamC g N q cl scope f c' A outer s H E) [] σ H { s with heap := h₁, toks := tk } := by
  have cellK : ∀ {c : Addr} {v : Option Value}, s.heap.IsCell c v → h₁.IsCell c v := fun {c v} ⟨o, ho, hd⟩ => ⟨o, kp _ _ ho, hd⟩
  have noA : ∀ b : Addr, b ∉ (lamC g N q cl scope f c' A outer s H E).ex := fun b z => absurd (show b ∈ ([] : List Addr) from z) (by simp)
  refine ⟨⟨e0.mod, L.kind, rfl, rfl, Nat.le_refl _, fun y z c e1 e2 => C.inj y z c e1 e2, fun y hy => ?_, fun y c z _ => ?_, fun _ => hd, Around.frames_deeper e0.frames, .inr ⟨rfl, rfl⟩, fun b z => absurd z (noA b), e0.bs, e0.bsz, fun b _ _ => noA b,
      fun b z => absurd z (noA b), e0.funs, e0.frf⟩,
    rfl, e0.bare, Un.kept kp, ⟨_, hns, fun i y v e1 e2 e3 => ?_⟩, fun y c e => ?_, e0.hok.fresh (Nat.le_refl _), fun y c e => C.none y c e, fun q hq => absurd (show q ∈ ([] : List (Addr × Obj)) ++ [] from hq) (by simp), e0.hok.kept kp, hl⟩
  · have hy : scope.names.lookup y = some .cell ∨ scope.names.lookup y = some .free := hy
    rcases hy with hy | hy
    · exact absurd rfl (L.own _ (PySem.mem_of_lookup hy)).2
    · exact C.has y hy
  · have z : false = true := z
    cases z
  · have e3 : Vis scope y := e3
    rcases e3 with k | k | k
    · exact absurd rfl (L.own _ (PySem.mem_of_lookup k)).1
    · exact absurd rfl (L.own _ (PySem.mem_of_lookup k)).2
    · obtain ⟨c, u, h1, r, h2⟩ := C.val i y v e1 e2 k
      exact ⟨u, r, .inr ⟨.inr k, c, h1, cellK h2⟩⟩
  · obtain ⟨v, z⟩ := C.cell y c e
    exact ⟨v, cellK z⟩
/-- a call of it -/
theorem lam_run {params : Arguments} {body : Expr} {pm ctv : Value} {k : Nat} {Q : VK} {tb : TE} (L : LamS scope) (C : Cells N σ scope cl H s.heap) (e0 : Env0 g.P g.w g.K g.mg g.base A outer s H) (hr : Room (k + 1) A) (hl : σ.length = N.length)
    (hf : s.heap.get? f = some (PySem.W.kla_obj "<lambda>" q params body scope cl pm c' ctv)) (hc : ∃ (oc : Obj) (vs : Array Value) (t : Tok), s.heap.get? c' = some oc ∧ oc.data = .fields vs ∧ vs[1]? = some (.str q t))
    (hbind : bindArgs (PySem.W.kla_fn "<lambda>" q params body scope cl pm (.ref c') ctv) ⟨[], []⟩ = pure [])
    (hbody : Room k (A.deeper (lamE q cl scope s.heap.objs.size f c')) → PE (lamC g N q cl scope f c' A outer s H E) body tb) (ht : tb σ H Q) :
    codeAny (model g.P g.w) A (.call (.ref f) ⟨[], []⟩) (CR (L2.CX g.P g.w) outer g.P g.w H s Q E) s := by
  obtain ⟨oc, vs, t, hoc, hdc, hvc⟩ := hc
  have lim : s.heap.NoLimit := e0.mod.nolimit.keeps fun b o e => (e0.bs b o e).1
  refine PySem.W.kla_callFunE hr.depth hf rfl L.co L.gen rfl ⟨c', oc, vs, t, rfl, hoc, hdc, hvc⟩ ?_
  rw [hbind]
  refine wpAny_pure (wpAny_newFunctionEnv (fun y hy => (L.own y hy).2) (fun y hy => absurd hy (by simp)) (fun h₁ hns hsb => ⟨lim.fresh _ hsb, ?_⟩) L.kind)
  show codeAny _ _ (.expr body (lamE q cl scope s.heap.objs.size f c')) _ _
  have kp : ∀ b o, s.heap.get? b = some o → h₁.get? b = some o := fun b o e => hsb.extBut b o (Nat.ne_of_lt (Heap.lt_size e)) (Heap.get?_push_of_some _ e)
  have J : Inv (lamC g N q cl scope f c' A outer s H E) [] σ H { s with heap := h₁, toks := s.toks + ([] : List (Str × Value)).length } := inv_lam L C e0 hr.hd hl hns kp
  refine PySem.W.kla_codeExpr (wpAny_mono ((hbody (hr.deeper _)).run [] _ _ H Q J ht) (fun v s' hq => ?_) fun e s' hq => hq)
  obtain ⟨w', H', J', rv, q⟩ := hq
  exact ⟨w', H', J'.os, J'.bare, J'.base, J'.hok, rv, q⟩
theorem fam_lam {r : Rm} {E : XK} (nd : N.Nodup) (L : LamS scope) (hg : A.guards = some []) (hr : Room r.k (A.deeper (lamE q cl scope s.heap.objs.size f c'))) : Fam (gmOf g N r ⟨scope, some scope⟩) (fun cls d _ H => E cls d H) (lamC g N q cl scope f c' A outer s H E) where
  ge := rfl
  N := rfl
  nd := nd
  sc := rfl
  room := hr
  gu := hg
  calm := rfl
  tk := takes_of rfl rfl rfl rfl
  fb := fun x h => by
    have h : (scope.names.lookup x == some NameKind.cell) = true := h
    have h2 : scope.names.lookup x = some .cell := by simpa using h
    exact absurd rfl (L.own _ (PySem.mem_of_lookup h2)).2
  top := fun h => nomatch h
  code := fun h => nomatch h
end
end PL

/-! PLz: thunks: what a zone knows of them, a call of one, the making of lambdas. -/
namespace PL
open PySem
open PySem.Spec
open PyProof.Rows
open L2
/-- the function at f, called without arguments in any later state, ends so -/
def ThkAt (g : GE) (kt : Nat) (Z : Zone) (H : Hp) (f : Addr) (ok : Bool) (x : D) : Prop :=
  ∀ (A : Around) (outer : List PySem.Env) (s : Shared) (H' : Hp), A.guards = some [] → Room kt A → Env0 g.P g.w g.K g.mg g.base A outer s H' → Stb H H' → ∀ κ, Z.ok κ H' →
    PySem.W.FnAt f s.heap ∧ ∀ (Q : VK) (E : XK), (ok = true → ∀ v H'', Ext Z H' H'' → Z.ok κ H'' → Rep g.K Z H'' x v → Q v H'') → (ok = false → ∀ cls dd H'', Ext Z H' H'' → Z.ok κ H'' → Z.X H'' x cls dd → E cls dd H'') →
      codeAny (model g.P g.w) A (.call (.ref f) ⟨[], []⟩) (CR (L2.CX g.P g.w) outer g.P g.w H' s Q E) s
/-- a zone that knows thunks, too -/
def withThk (g : GE) (kt : Nat) (Z : Zone) : Zone where
  mu := Z.mu
  rd0 := Z.rd0
  rd := Z.rd
  ok := Z.ok
  sub := Z.sub
  there := Z.there
  rds := Z.rds
  nimm := Z.nimm
  keep := Z.keep
  R := fun H d v => Z.R H d v ∨ ∃ ok x f, d = .thk ok x ∧ v = .ref f ∧ ThkAt g kt Z H f ok x
  Rstb := fun H H' d v st h => by
    rcases h with h | ⟨ok, x, f, e1, e2, h⟩
    · exact .inl (Z.Rstb H H' d v st h)
    · exact .inr ⟨ok, x, f, e1, e2, fun A outer s H2 a1 a2 a3 a4 => h A outer s H2 a1 a2 a3 (st.trans a4)⟩
  Roth := fun H d v h => by
    rcases h with h | ⟨ok, x, f, e1, e2, h⟩
    · exact Z.Roth H d v h
    · exact ⟨by rw [e1]; rfl, f, e2⟩
  X := Z.X
  Xstb := Z.Xstb
mutual
theorem Rep.up {K : PySem.W.Frag} {g : GE} {kt : Nat} {Z : Zone} {H : Hp} {d : D} {v : V} : Rep K Z H d v → Rep K (withThk g kt Z) H d v
  | .non => .non
  | .bl b => .bl b
  | .int i => .int i
  | .str h => .str h
  | .tup h l r => .tup h l (RepL.up r)
  | .lst h l r => .lst h l (RepL.up r)
  | .rng h b => .rng h b
  | .oth h => .oth (.inl h)
theorem RepL.up {K : PySem.W.Frag} {g : GE} {kt : Nat} {Z : Zone} {H : Hp} {ds : List D} {vs : List V} : RepL K Z H ds vs → RepL K (withThk g kt Z) H ds vs
  | .nil => .nil
  | .cons h r => .cons (Rep.up h) (RepL.up r)
end
mutual
/-- plain data are the same for all zones -/
theorem Rep.py_any {K : PySem.W.Frag} {Z Z' : Zone} {H : Hp} : ∀ (d : D) (v : V), isPy d = true → Rep K Z H d v → Rep K Z' H d v
  | .non, v, _, r => by rw [r.non_inv]; exact .non
  | .bl b, v, _, r => by rw [r.bl_inv]; exact .bl b
  | .int i, v, _, r => by rw [r.int_inv]; exact .int i
  | .str s, v, _, r => by obtain ⟨rfl, q⟩ := r.str_inv; exact .str q
  | .tup xs, v, f, r => by
    obtain ⟨a, ws, rfl, q, l, r2⟩ := r.tup_inv
    refine .tup q l (RepL.py_any xs ws ?_ r2)
    simpa [isPy, D.py] using f
  | .lst xs, v, f, r => by
    obtain ⟨a, o, ws, rfl, q, l, r2⟩ := r.lst_inv
    refine .lst q l (RepL.py_any xs ws ?_ r2)
    simpa [isPy, D.py] using f
  | .rng _ _, _, f, _ => by simp [isPy, D.py] at f
  | .exc _ _, _, f, _ => by simp [isPy, D.py] at f
  | .thk _ _, _, f, _ => by simp [isPy, D.py] at f
  | .lam _, _, f, _ => by simp [isPy, D.py] at f
  | .drw, _, f, _ => by simp [isPy, D.py] at f
theorem RepL.py_any {K : PySem.W.Frag} {Z Z' : Zone} {H : Hp} : ∀ (ds : List D) (ws : List V), (pyL ds).isSome = true → RepL K Z H ds ws → RepL K Z' H ds ws
  | [], _, _, r => by cases r; exact .nil
  | d :: ds, _, f, r => by
    have h : isPy d = true ∧ (pyL ds).isSome = true := by
      unfold pyL at f
      unfold isPy
      cases h1 : d.py with
      | none => rw [h1] at f; simp at f
      | some y => cases h2 : pyL ds with
        | none => rw [h1, h2] at f; simp at f
        | some ys => exact ⟨rfl, rfl⟩
    cases r with
    | cons r rr => exact .cons (Rep.py_any d _ h.1 r) (RepL.py_any ds _ h.2 rr)
end
/-! ### a call of a thunk -/
def callM : D → M D
  | .thk true x => ret x
  | .thk false e => thr e
  | _ => fail
/-- no thunk in the zone itself -/
def NoThk (Z : Zone) : Prop := ∀ H ok x v, ¬ Z.R H (.thk ok x) v
theorem Rep.thk_inv {K : PySem.W.Frag} {g : GE} {kt : Nat} {Z : Zone} {H : Hp} {ok : Bool} {x : D} {v : V} (n : NoThk Z) (h : Rep K (withThk g kt Z) H (.thk ok x) v) : ∃ f, v = .ref f ∧ ThkAt g kt Z H f ok x := by
  cases h with
  | oth h =>
    rcases h with h | ⟨ok', x', f, e1, e2, h⟩
    · exact absurd h (n H ok x v)
    · cases e1
      exact ⟨f, e2, h⟩
theorem de_work {γ : Gm} {kt : Nat} {Z : Zone} (n : NoThk Z) (hk : kt ≤ γ.k) {i : Nat} {x : Str} {p pos : Pos} (hN : γ.N[i]? = some x) (hv : Vis γ.sc x) (hd : (x == ("__debug__" : Str)) = false) (hcd : (x == ("__classdict__" : Str)) = false) :
    DE (withThk γ.g kt Z) γ (.Call (.Name x p) [] [] pos) (fun ρ => bnd (getV ρ i) callM) := fun W => by
  refine ⟨fun σ H R => ∃ ok x f κ Q E, σ[i]? = some (some (V.ref f)) ∧ Z.ok κ H ∧ ThkAt γ.g kt Z H f ok x ∧ callM (.thk ok x) κ Q E ∧ An γ.g.K (withThk γ.g kt Z) H Q R ∧ Xn (withThk γ.g kt Z) H σ E W, fun X F => ⟨fun pins s σ H R I h => ?_⟩, fun ρ σ H H0 Q E R S q k kx => ?_⟩
  · obtain ⟨ok, d, f, κ, Q, E, hs, zo, th, q, an, xn⟩ := h
    refine wpAny_Call_Name_kw (thn ((pe_var (pos := p) (i := i) (by rw [F.N]; exact hN) (F.vis hv) hd hcd).run pins s σ H (fun v H1 => v = .ref f ∧ H1 = H) I ⟨.ref f, hs, rfl, rfl⟩) fun u s1 ⟨v, H1, I1, r1, q1⟩ => ?_)
    obtain ⟨ev, eH⟩ := q1
    subst ev
    rw [eH] at I1
    obtain rfl : u = Value.ref f := r1
    have ge := F.ge
    have e0 := I1.env0
    have gP : X.prog = γ.g.P := by rw [← ge]; rfl
    have gw : X.w = γ.g.w := by rw [← ge]; rfl
    have gb : X.base = γ.g.base := by rw [← ge]; rfl
    rw [gP, gw, F.K, F.mg, gb] at e0
    obtain ⟨fa, run⟩ := th X.A X.stack s1 H F.gu (F.room.mono hk) e0 (.refl H) κ zo
    refine PySem.W.callWith_F0 fa ?_
    have c := run R (fun cls dd H' => W cls dd σ H') (fun e v H2 x2 k2 r2 => by
      subst e
      exact an v d H2 x2 k2 r2.up q) (fun e cls dd H2 x2 k2 z => by
      subst e
      exact xn cls dd H2 d x2 k2 z q)
    rw [← gP, ← gw] at c
    refine wpAny_call (codeAny_mono c fun r s' hq => ?_)
    cases r with
    | error e => exact F.tk _ _ (XE.of_call I1 (fun cls d H' h => h) hq)
    | ok fl =>
      cases fl with
      | ret u => exact I1.after hq
      | next => exact False.elim hq
      | brk => exact False.elim hq
      | cont => exact False.elim hq
  · obtain ⟨d, e, q⟩ := getV_inv q
    obtain ⟨v, e1, r⟩ := S.val e
    cases d with
    | thk ok x =>
      obtain ⟨f, rfl, th⟩ := Rep.thk_inv n r
      exact ⟨ok, x, f, _, Q, E, e1, S.ok, th, q, k, kx⟩
    | _ => exact q.elim
end PL

/-! PMa: lambdas made. -/
namespace PL
open PySem
open PySem.Spec
open PyProof.Rows
open L2
/-- the table at P may have grown by a new code object -/
def Grow (P : Addr) (q : Str) (H H1 : Hp) : Prop := H1 = H ∨ ∃ ps ps' c', H P = some (.tbl ps) ∧ H c' = none ∧ H1 = upd (upd H P (.tbl ps')) c' (LamX.CodeO c' q)
theorem Grow.ext {Z : Zone} {P : Addr} {q : Str} {H H1 : Hp} (g : Grow P q H H1) (m : Z.mu P) : Ext Z H H1 := by
  rcases g with rfl | ⟨ps, ps', c', h1, h2, rfl⟩
  · exact .refl _ _
  · intro a o ha nm
    rw [upd_ne (ne_of_none ha h2), upd_ne (fun z => nm (by rw [z]; exact m))]
    exact ha
abbrev lamObj (X : Cx) (params : Arguments) (body : Expr) (scope : Scope) (pm : Value) (c' : Addr) (ctv : Value) : Obj := PySem.W.kla_obj "<lambda>" (X.env.qual ++ "<lambda>") params body scope (cloFrom X.env.cells scope.names []) pm c' ctv
section
variable {X : Cx} {pins : List (Addr × Obj)} {σ : L2.St} {H : Hp} {s : Shared}
theorem lam_make3 {T : List (Addr × Str)} {c P : Addr} {params : Arguments} {body : Expr} {scope : Scope} {pos : Pos} {E : Value → Shared → Prop} {Q : Value → Shared → Prop} (I : Inv X pins σ H s) (TB : LamX.TabB X.base X.mg c P) (hcode : X.env.code = .ref c)
    (hm : (P, X.env.qual ++ "<lambda>") ∈ T) (hu : ∀ p ∈ T, p.1 = P → p.2 = X.env.qual ++ "<lambda>") (hT : LamX.Tabs T H) (hdef : defaultsOf params X.env = ([], [])) (hfree : ∀ y ∈ scope.names, y.2 = .free → ∃ c, X.env.cells.lookup y.1 = some c)
    (h : ∀ (f c' : Addr) (pm ctv : Value) (H1 : Hp) (s' : Shared), Inv X pins σ H1 s' → Grow P (X.env.qual ++ "<lambda>") H H1 → LamX.Tabs T H1 → s'.heap.get? f = some (lamObj X params body scope pm c' ctv) → H1 f = none → s.heap.objs.size ≤ f →
      H1 c' = some (LamX.CodeO c' (X.env.qual ++ "<lambda>")) → Q (.ref f) s') : wpAny (model X.prog X.w) X.A (eval (.Lambda params body scope pos) X.env) Q E s := by
  obtain ⟨ps, tP, tOk, tAll⟩ := hT _ hm
  have bltP : s.heap.BuiltinsAt X.mg P := TB.bm.keeps I.bk
  have objP : s.heap.get? P = some { cls := .none, data := .fields ps } := I.hok P _ tP
  refine PySem.W.kla_eval hdef ?_
  cases among : codeAmong pos ps.toList with
  | some cv =>
    obtain ⟨c1, rfl, known⟩ := tAll pos cv among
    refine PySem.W.kla_makeFunctionHit (mg := X.mg) (c := c) (P := P) (ps := ps) (closure_ok hfree) I.ok.glob (I.mod.glob.keeps I.bk) hcode (TB.code.keeps I.bk) objP tOk among bltP fun ctv hp tk kept large => ?_
    refine h hp.objs.size c1 ((X.mg "__name__").getD .none) ctv H _ ?_ (.inl rfl) hT (Heap.get?_push_size _ rfl) (I.hok.fresh large) large known
    exact I.kept (t' := tk) fun b o e => Heap.get?_push_of_some _ (kept b o e)
  | none =>
    refine PySem.W.kla_makeFunction (mg := X.mg) (c := c) (P := P) (ps := ps) (closure_ok hfree) I.ok.glob (I.mod.glob.keeps I.bk) hcode (TB.code.keeps I.bk) objP tOk among TB.gP bltP fun c1 ctv hp tk but ge lt rec tab => ?_
    obtain ⟨c2, oc, vs, t, e2, hoc, hd, hv⟩ := rec
    cases e2
    have large : s.heap.objs.size ≤ hp.objs.size := Nat.le_trans ge (Nat.le_of_lt lt)
    have newC : H c1 = none := I.hok.fresh ge
    have tail : (ps ++ #[rawInt pos.line, rawInt pos.col, .ref c1]).toList = ps.toList ++ [rawInt pos.line, rawInt pos.col, .ref c1] := by simp
    have I1 := LamX.inv_table (t' := tk) (q := X.env.qual ++ "<lambda>") (more := #[rawInt pos.line, rawInt pos.col, .ref c1]) (h' := hp.push (lamObj X params body scope ((X.mg "__name__").getD .none) c1 ctv)) I tP
      (fun b o hb e => Heap.get?_push_of_some _ (but b o hb e)) (Heap.get?_push_of_some _ tab) ge ⟨oc, vs, t, Heap.get?_push_of_some _ hoc, hd, hv⟩
    have old : ∀ {b o}, H b = some o → b ≠ P → upd (upd H P (.tbl (ps ++ #[rawInt pos.line, rawInt pos.col, .ref c1]))) c1 (LamX.CodeO c1 (X.env.qual ++ "<lambda>")) b = some o := fun {b o} e n => by
      rw [upd_ne (ne_of_none e newC), upd_ne n]
      exact e
    have notP : ∀ {b q}, H b = some (LamX.CodeO b q) → b ≠ P := fun {b q} e z => by
      rw [z, tP] at e
      exact LamX.codeO_ne ps (Option.some.inj e).symm
    refine h hp.objs.size c1 ((X.mg "__name__").getD .none) ctv _ _ I1 (.inr ⟨ps, _, c1, tP, newC, rfl⟩) (fun p hp2 => ?_) (Heap.get?_push_size _ rfl) ?_ large upd_same
    · by_cases hb : p.1 = P
      · rw [hu p hp2 hb, hb]
        refine ⟨_, by rw [upd_ne (ne_of_none tP newC), upd_same], by rw [tail]; exact PySem.TriplesOk_snoc _ _ _ _ tOk, fun p' cv hcv => ?_⟩
        rw [tail] at hcv
        rcases LamX.among_app _ tOk hcv with z | z
        · obtain ⟨c0, e1, e2⟩ := tAll p' cv z
          exact ⟨c0, e1, old e2 (notP e2)⟩
        · exact ⟨c1, z, upd_same⟩
      · obtain ⟨ps', a1, a2, a3⟩ := hT p hp2
        refine ⟨ps', old a1 hb, a2, fun p' cv hcv => ?_⟩
        obtain ⟨c0, e1, e2⟩ := a3 p' cv hcv
        exact ⟨c0, e1, old e2 (notP e2)⟩
    · have n1 : hp.objs.size ≠ c1 := Nat.ne_of_gt lt
      have n2 : hp.objs.size ≠ P := Nat.ne_of_gt (Nat.lt_of_lt_of_le (Heap.lt_size objP) large)
      rw [upd_ne n1, upd_ne n2]
      exact I.hok.fresh large
end
/-! ### several, in a row -/
theorem noArgs_ok {params : Arguments} (h : noArgs params = true) : params = ⟨[], [], none, [], [], none, []⟩ := by
  unfold noArgs at h
  split at h
  · rfl
  · cases h
theorem lamOk_s {sc scope : Scope} (h : lamOk sc scope = true) : LamS scope ∧ ∀ y ∈ scope.names, y.2 = .free → sc.names.lookup y.1 = some .cell ∨ sc.names.lookup y.1 = some .free := by
  unfold lamOk at h
  simp only [Bool.and_eq_true, Bool.or_eq_true, Bool.not_eq_true', List.all_eq_true] at h
  obtain ⟨⟨⟨h1, h2⟩, h3⟩, h4⟩ := h
  refine ⟨⟨by simpa using h1, h2, h3, fun y hy => ⟨fun e => ?_, fun e => ?_⟩⟩, fun y hy e => ?_⟩
  · have q := (h4 y hy).1.1
    rw [e] at q
    cases q
  · have q := (h4 y hy).1.2
    rw [e] at q
    cases q
  · rcases (h4 y hy).2 with (z | z) | z
    · rw [e] at z
      cases z
    · exact .inl (by simpa using z)
    · exact .inr (by simpa using z)
/-- the function that a lambda has become -/
def LamAt (X : Cx) (H : Hp) (h : Heap) : Expr → Addr → Prop
  | .Lambda params body scope _, f => ∃ c' pm ctv, h.get? f = some (lamObj X params body scope pm c' ctv) ∧ H c' = some (LamX.CodeO c' (X.env.qual ++ "<lambda>"))
  | _, _ => False
inductive LamAll (X : Cx) (H : Hp) (h : Heap) : List Expr → List Addr → Prop
  | nil : LamAll X H h [] []
  | cons {e : Expr} {f : Addr} {es : List Expr} {fs : List Addr} (a : LamAt X H h e f) (n : H f = none) (o : f ∉ frs X.stack) (z : X.base.objs.size ≤ f) (r : LamAll X H h es fs) : LamAll X H h (e :: es) (f :: fs)
/-- what the maker knows: its code object, the tables -/
structure LamZ (g : GE) (r : Rm) (kt : Nat) (Z0 : Zone) : Prop where
  nt : NoThk Z0
  tab : ∃ (c P : Addr) (T : List (Addr × Str)), r.cd = .ref c ∧ LamX.TabB g.base g.mg c P ∧ (P, r.ql ++ "<lambda>") ∈ T ∧ (∀ p ∈ T, p.1 = P → p.2 = r.ql ++ "<lambda>") ∧ Z0.mu P ∧ (∀ H, Z0.sm H → LamX.Tabs T H) ∧
    ∀ κ H H1, Z0.ok κ H → LamX.Tabs T H1 → Grow P (r.ql ++ "<lambda>") H H1 → Z0.ok κ H1
  cut : ∀ (κ : Nat) (S : Addr → Prop) (H : Hp) (h0 h : Heap), HOk g.P g.w H h → Told S h0 H → (∀ b, S b → ∃ o, h.get? b = some o ∧ ∀ vs, o.data ≠ .fields vs) → Z0.ok κ H → Z0.ok κ (PL.cut S H)
theorem lams_args {X : Cx} {σ : L2.St} {c P : Addr} {T : List (Addr × Str)} {Z0 : Zone} (TB : LamX.TabB X.base X.mg c P) (hcode : X.env.code = .ref c) (hm : (P, X.env.qual ++ "<lambda>") ∈ T) (hu : ∀ p ∈ T, p.1 = P → p.2 = X.env.qual ++ "<lambda>") (mP : Z0.mu P) (tabs : ∀ H, Z0.sm H → LamX.Tabs T H)
    (grow : ∀ κ H H1, Z0.ok κ H → LamX.Tabs T H1 → Grow P (X.env.qual ++ "<lambda>") H H1 → Z0.ok κ H1) {pos : Pos} : ∀ (es : List Expr), es.all (lamE1 X.env.scope) = true → ∀ (pins : List (Addr × Obj)) (s : Shared) (H : Hp) (Kp : List Value → Shared → Prop), Inv X pins σ H s → ∀ κ, Z0.ok κ H →
      (∀ H' fs s', Inv X pins σ H' s' → Ext Z0 H H' → Z0.ok κ H' → LamAll X H' s'.heap es fs → Kp (fs.map .ref) s') → wpAny (model X.prog X.w) X.A (spliced (backTo pos (starEach es X.env))) Kp X.xe s
  | [], _, pins, s, H, Kp, I, κ, zo, k => args_nil (k H [] s I (.refl _ _) zo .nil)
  | e :: es, hes, pins, s, H, Kp, I, κ, zo, k => by
    simp only [List.all_cons, Bool.and_eq_true] at hes
    obtain ⟨he, hes⟩ := hes
    cases e with
    | Lambda params body scope lpos =>
      have he : noArgs params = true ∧ lamOk X.env.scope scope = true := by simpa [lamE1] using he
      obtain ⟨L, fr⟩ := lamOk_s he.2
      have ha := noArgs_ok he.1
      subst ha
      have hfree : ∀ y ∈ scope.names, y.2 = .free → ∃ c, X.env.cells.lookup y.1 = some c := fun y hy e => by
        rcases fr y hy e with q | q
        · exact I.ok.has _ (.inl q)
        · exact I.ok.has _ (.inr q)
      refine args_cons (lam_make3 I TB hcode hm hu (tabs H ⟨_, zo⟩) rfl hfree fun f c' pm ctv H1 s1 I1 gr T1 hf hfn big hco => ?_) (star_cons rfl _)
      have zo1 := grow κ H H1 zo T1 gr
      have nofr : f ∉ frs X.stack := fun z => by
        rcases List.mem_cons.mp (I.stkSub _ z) with e | e
        · have h1 := I.lt
          rw [← e] at h1
          exact Nat.lt_irrefl _ (Nat.lt_of_lt_of_le h1 big)
        · exact I.nofs big e
      have pin1 : Inv X ((f, lamObj X ⟨[], [], none, [], [], none, []⟩ body scope pm c' ctv) :: pins) σ H1 s1 := I1.pins_of fun p hp => by
        rcases List.mem_cons.mp hp with e | hp
        · rw [e]
          exact ⟨hf, hfn, Nat.ne_of_gt (Nat.lt_of_lt_of_le I.lt big), I.nofs big, fun v z => nomatch z⟩
        · exact I1.pin p (List.mem_append_right _ hp)
      refine lams_args TB hcode hm hu mP tabs grow es hes _ s1 H1 _ pin1 κ zo1 fun H2 fs s2 I2 e2 zo2 al => ?_
      obtain ⟨p1, p2, _⟩ := I2.pin (f, lamObj X ⟨[], [], none, [], [], none, []⟩ body scope pm c' ctv) (List.mem_append_right _ List.mem_cons_self)
      have e1 : Ext Z0 H H1 := gr.ext mP
      exact k H2 (f :: fs) s2 (I2.pins_of fun p hp => I2.pin p (List.mem_append_right _ (List.mem_cons_of_mem _ hp))) (e1.trans e2) zo2 (.cons ⟨c', pm, ctv, p1, e2.stb zo1 _ _ hco trivial⟩ p2 nofr (Nat.le_trans (Nat.le_trans I.ok.bsz I.sz) big) al)
    | _ => simp [lamE1] at he
end PL

/-! PMb: lambdas handed to a def. -/
namespace PL
open PySem
open PySem.Spec
open PyProof.Rows
open L2
/-- one outcome of what is done later -/
def OutOf (m : M D) (t : D) : Prop := (∃ x, t = .thk true x ∧ isPy x = true ∧ ∀ k, m k (fun y k' => y = x ∧ k' = k) (fun _ _ => False)) ∨ (∃ e, t = .thk false e ∧ ∀ k, m k (fun _ _ => False) (fun y k' => y = e ∧ k' = k))
theorem thkM_inv {m : M D} {Q E : D → Nat → Prop} (h : thkM m κ Q E) : ∃ t, OutOf m t ∧ Q t κ := by
  rcases h with ⟨x, h1, h2, q⟩ | ⟨e, h2, q⟩
  · exact ⟨_, .inl ⟨x, rfl, h1, h2⟩, q⟩
  · exact ⟨_, .inr ⟨e, rfl, h2⟩, q⟩
inductive OutAll (Φ : Fns) (ρ : Nv) : List T → List D → Prop
  | nil : OutAll Φ ρ [] []
  | cons {b : T} {t : D} {bs : List T} {ts : List D} (o : OutOf (sem Φ b (hideO ρ)) t) (r : OutAll Φ ρ bs ts) : OutAll Φ ρ (b :: bs) (t :: ts)
theorem semTh_inv {Φ : Fns} {ρ : Nv} {E : D → Nat → Prop} : ∀ {bs : List T} {Q : List D → Nat → Prop}, semTh Φ bs ρ κ Q E → ∃ ts, OutAll Φ ρ bs ts ∧ Q ts κ
  | [], Q, h => ⟨[], .nil, by rw [semTh] at h; exact h⟩
  | b :: bs, Q, h => by
    rw [semTh] at h
    obtain ⟨t, o, h⟩ := thkM_inv h
    obtain ⟨ts, os, h⟩ := semTh_inv (bs := bs) h
    exact ⟨t :: ts, .cons o os, h⟩
/-- the places told while a call with lambdas runs -/
def SetL (X : Cx) (fs : List Addr) (b : Addr) : Prop := b ∈ fs ∨ ∃ y, X.env.cells.lookup y = some b
section
variable {g : GE} {N : List Str} {r : Rm} {k : Ct} {kt : Nat} {Z0 : Zone} {Φ : Fns} {ρ : Nv} {σ : L2.St} {H H0 : Hp} {s : Shared} {X : Cx} {W : WX} {pins : List (Addr × Obj)}
theorem lam_rec {h : Heap} : ∀ {es : List Expr} {fs : List Addr}, LamAll X H h es fs → ∀ f ∈ fs, H f = none ∧ f ∉ frs X.stack ∧ X.base.objs.size ≤ f ∧ ∃ fd, h.get? f = some { cls := .type "function", data := .func fd }
  | _, _, .nil, f, hf => by cases hf
  | e :: es, _, .cons a n o z r, f, hf => by
    rcases List.mem_cons.mp hf with rfl | hf
    · cases e with
      | Lambda params body scope p =>
        obtain ⟨c', pm, ctv, h1, _⟩ := a
        exact ⟨n, o, z, _, h1⟩
      | _ => exact a.elim
    · exact lam_rec r f hf
theorem set_ok (F : Fam (gmOf g N r k) W X) (ht : k.blk = none) (I : Inv X pins σ H s) {es : List Expr} {fs : List Addr} (al : LamAll X H s.heap es fs) :
    ∀ b, SetL X fs b → H b = none ∧ X.base.get? b = none ∧ b ∉ frs X.stack ∧ ∃ o, s.heap.get? b = some o ∧ ∀ vs, o.data ≠ .fields vs := fun b hb => by
  have nob : X.base.objs.size ≤ b → X.base.get? b = none := fun l => by
    cases q : X.base.get? b with
    | none => rfl
    | some o => exact absurd (Nat.lt_of_lt_of_le (Heap.lt_size q) l) (Nat.lt_irrefl _)
  rcases hb with hb | ⟨y, hy⟩
  · obtain ⟨h1, h2, hz, fd, h3⟩ := lam_rec al b hb
    exact ⟨h1, nob hz, h2, _, h3, fun vs z => nomatch z⟩
  · have big : X.s_0.heap.objs.size ≤ b := I.ok.cab y b (F.fb y (by show fbOf k.blk y = true; rw [ht]; rfl)) hy
    obtain ⟨v, o, ho, hd⟩ := I.cell y b hy
    refine ⟨I.freeC y b hy, nob (Nat.le_trans I.ok.bsz big), fun hm => ?_, o, ho, fun vs z => by rw [hd] at z; cases z⟩
    rcases List.mem_cons.mp (I.stkSub _ hm) with e | e
    · exact I.cne y b hy e
    · obtain ⟨_, o', ho', _⟩ := I.ok.funs.mem e
      exact absurd (Nat.lt_of_lt_of_le (Heap.lt_size ho') big) (Nat.lt_irrefl _)
/-- the own lists hidden, at another heap -/
theorem SR.hide {K : PySem.W.Frag} {Z : Zone} {H3 : Hp} (S : SR K Z κ H0 ρ σ H) (st : Stb H H3) (zo : Z.ok κ' H3) : SR K Z κ' H3 (hideO ρ) σ H3 := by
  refine ⟨⟨_, zo⟩, zo, .refl _ _, by unfold hideO; rw [List.length_map]; exact S.len, fun i e h => ?_, fun i j xs ys p h1 _ _ _ => ?_⟩
  · unfold hideO at h
    rw [List.getElem?_map] at h
    obtain ⟨e0, h0, h1⟩ := Option.map_eq_some_iff.mp h
    have q := S.slot i e0 h0
    cases e0 with
    | un => subst h1; trivial
    | own xs => subst h1; trivial
    | val d =>
      subst h1
      match e : σ[i]?, q with
      | some (some v), q => exact Rep.stb st q
  · unfold hideO at h1
    rw [List.getElem?_map] at h1
    obtain ⟨e0, _, h1⟩ := Option.map_eq_some_iff.mp h1
    cases e0 <;> cases h1
theorem thk_at {es : List Expr} {fs : List Addr} {params : Arguments} {body : Expr} {scope : Scope} {lp : Pos} {f : Addr} {b : T} {ok : Bool} {x : D} {cd : Value} {ql : Str} {k0 : Nat} (LZ : LamZ g r kt Z0) (hkt : kt = k0 + 1) (F : Fam (gmOf g N r k) W X) (ht : k.blk = none) (I : Inv X pins σ H s) (S : SR g.K (withThk g kt Z0) κ H0 ρ σ H) (al : LamAll X H s.heap es fs)
    (hfs : f ∈ fs) (a : LamAt X H s.heap (.Lambda params body scope lp) f) (he : lamE1 X.env.scope (.Lambda params body scope lp) = true) (hb : DE (withThk g kt Z0) (gmOf g N ⟨k0, cd, ql⟩ ⟨scope, some scope⟩) body (sem Φ b)) (o : OutOf (sem Φ b (hideO ρ)) (.thk ok x)) : ThkAt g kt Z0 (track (SetL X fs) s.heap H) f ok x := by
  intro A outer s2 H2 hg hr e0 st κ2 zo2
  obtain ⟨c', pm, ctv, h1, h2⟩ := a
  have so := set_ok F ht I al
  have he : noArgs params = true ∧ lamOk X.env.scope scope = true := by simpa [lamE1] using he
  obtain ⟨L, fr⟩ := lamOk_s he.2
  have ha := noArgs_ok he.1
  subst ha
  have told : Told (SetL X fs) s.heap H2 := fun b hb => st b _ (track_in hb) trivial
  have kept : ∀ {b o}, SetL X fs b → s.heap.get? b = some o → s2.heap.get? b = some o := fun {b o} hb ho => by
    obtain ⟨o', e1, e2⟩ := told.ex e0.hok hb
    rw [ho] at e1
    cases e1
    exact e2
  have hf := kept (.inl hfs) h1
  refine ⟨⟨_, _, _, _, hf⟩, fun Q E hQ hE => ?_⟩
  have ns : ∀ {b u}, H b = some u → ¬ SetL X fs b := fun {b u} e z => by rw [(so b z).1] at e; cases e
  have hc2 : H2 c' = some (LamX.CodeO c' (X.env.qual ++ "<lambda>")) := st c' _ (by rw [track_out (ns h2)]; exact h2) trivial
  have rc := (e0.hok c' _ hc2).1
  have stH : Stb H (cut (SetL X fs) H2) := fun b u e i => by
    rw [cut_out (ns e)]
    exact st b u (by rw [track_out (ns e)]; exact e) i
  have zo3 : Z0.ok κ2 (cut (SetL X fs) H2) := LZ.cut _ _ _ s.heap s2.heap e0.hok told (fun b hb => by
    obtain ⟨_, _, _, ob, h3, h4⟩ := so b hb
    exact ⟨ob, kept hb h3, h4⟩) zo2
  have hfree := fun y (hy : y ∈ scope.names) (e : y.2 = .free) => (show ∃ c, X.env.cells.lookup y.1 = some c from by
    rcases fr y hy e with q | q
    · exact I.ok.has _ (.inl q)
    · exact I.ok.has _ (.inr q))
  have cm : ∀ {y c}, (cloFrom X.env.cells scope.names []).lookup y = some c → X.env.cells.lookup y = some c := fun {y c} e => by
    rcases cloFrom_mem (PySem.mem_of_lookup e) with hm | ⟨q1, q2⟩
    · cases hm
    · obtain ⟨c1, hc⟩ := hfree _ q1 rfl
      have hc : X.env.cells.lookup y = some c1 := hc
      have e2 : c = c1 := by rw [q2, hc]; rfl
      rw [e2]
      exact hc
  have look : ∀ {y}, scope.names.lookup y = some .free → ∃ c, (cloFrom X.env.cells scope.names []).lookup y = some c := fun {y} hl => mem_lookup (cloFrom_has (cells := X.env.cells) (acc := []) (PySem.mem_of_lookup hl))
  have C : Cells N σ scope (cloFrom X.env.cells scope.names []) (cut (SetL X fs) H2) s2.heap := {
    has := fun y hy => look hy
    inj := fun y z c e1 e2 => I.ok.inj y z c (cm e1) (cm e2)
    none := fun y c e => cut_in (.inr ⟨y, cm e⟩)
    cell := fun y c e => by
      obtain ⟨v, ob, ho, hd⟩ := I.cell y c (cm e)
      exact ⟨v, ob, kept (.inr ⟨y, cm e⟩) ho, hd⟩
    val := fun i y v e1 e2 e3 => by
      obtain ⟨m, hn, hl⟩ := I.loc
      have hvis : Vis X.env.scope y := (fr _ (PySem.mem_of_lookup e3) rfl).elim (fun k => .inr (.inl k)) (fun k => .inr (.inr k))
      obtain ⟨w', rv, q⟩ := hl i y v (by rw [F.N]; exact e1) e2 hvis
      obtain ⟨c2, h2⟩ := look e3
      refine ⟨c2, w', h2, rv, ?_⟩
      have c1 := cm h2
      rcases q with ⟨k', _⟩ | ⟨_, c3, e', ob, ho, hd⟩
      · have k' : X.env.scope.names.lookup y = some .local := k'
        rcases fr _ (PySem.mem_of_lookup e3) rfl with k2 | k2 <;> rw [show X.env.scope.names.lookup y = _ from k2] at k' <;> cases k'
      · rw [c1] at e'
        cases e'
        exact ⟨ob, kept (.inr ⟨y, c1⟩) ho, hd⟩ }
  have e3 := env0_cut (S := SetL X fs) e0 told
  have hl : σ.length = N.length := by rw [I.len, F.N]; rfl
  subst hkt
  -- what stands behind the body, told again
  have extB : ∀ {H4 : Hp}, Ext Z0 (cut (SetL X fs) H2) H4 → Ext Z0 H2 (back (SetL X fs) H2 H4) := fun {H4} e4 b u hb nm => by
    by_cases sb : SetL X fs b
    · rw [back_in sb]; exact hb
    · rw [back_out sb]
      exact e4 b u (by rw [cut_out sb]; exact hb) nm
  have exB : ∀ {H4 : Hp}, (∀ b, SetL X fs b → H4 b = none) → Ex H4 (back (SetL X fs) H2 H4) := fun {H4} nn b u hb => by
    rw [back_out fun z => by rw [nn b z] at hb; cases hb]
    exact hb
  let Q4 : VK := fun v H4 => Ext Z0 (cut (SetL X fs) H2) H4 ∧ Z0.ok κ2 H4 ∧ ok = true ∧ Rep g.K (withThk g (k0 + 1) Z0) H4 x v ∧ isPy x = true
  let E4 : XK := fun cls dd H4 => Ext Z0 (cut (SetL X fs) H2) H4 ∧ Z0.ok κ2 H4 ∧ ok = false ∧ Z0.X H4 x cls dd
  obtain ⟨te, pe, rd⟩ := hb (fun cls dd _ H4 => E4 cls dd H4)
  have run : codeAny (model g.P g.w) A (.call (.ref f) ⟨[], []⟩) (CR (L2.CX g.P g.w) outer g.P g.w (cut (SetL X fs) H2) s2 Q4 E4) s2 := by
    refine lam_run (N := N) (σ := σ) (tb := te) L C e3 hr hl hf rc rfl (fun hr' => pe _ (fam_lam (r := ⟨k0, cd, ql⟩) (by have := F.nd; exact this) L hg hr')) ?_
    have S3 := S.hide stH (show (withThk g (k0 + 1) Z0).ok κ2 (cut (SetL X fs) H2) from zo3)
    rcases o with ⟨y, e1, e2, e3⟩ | ⟨y, e1, e3⟩
    · cases e1
      exact rd _ _ _ _ (fun y k' => y = x ∧ k' = κ2) (fun _ _ => False) _ S3 (e3 κ2) (fun v d H4 e4 k4 r4 q4 => by obtain ⟨q4, q5⟩ := q4; subst q4 q5; exact ⟨e4, k4, rfl, r4, e2⟩) (fun _ _ _ _ _ _ _ z => z.elim)
    · cases e1
      exact rd _ _ _ _ (fun _ _ => False) (fun y k' => y = x ∧ k' = κ2) _ S3 (e3 κ2) (fun v d H4 e4 k4 r4 q4 => q4.elim) (fun cls dd H4 y x4 k4 z q4 => by obtain ⟨q4, q5⟩ := q4; subst q4 q5; exact ⟨x4, k4, rfl, z⟩)
  refine codeAny_mono run fun rr s4 c => cr_back e0 told c (fun v H4 nn ⟨x4, k4, e4, r4, p4⟩ => ?_) (fun cls dd H4 nn ⟨x4, k4, e4, z⟩ => ?_)
  · exact hQ e4 v _ (extB x4) ((exB nn).ok k4) ((Rep.py_any (Z' := Z0) x v p4 r4).stb (exB nn).stb)
  · exact hE e4 cls dd _ (extB x4) ((exB nn).ok k4) (Z0.Xstb _ _ _ _ _ (exB nn).stb z)
end
end PL

/-! PMc: lambdas handed to a def: the rules. -/
namespace PL
open PySem
open PySem.Spec
open PyProof.Rows
open L2
section
variable {K : PySem.W.Frag} {Z Z' : Zone} {S : Addr → Prop} {h : Heap} {H : Hp}
mutual
theorem Rep.cut (t : Told S h H) : ∀ (d : D) (v : V), isPy d = true → Rep K Z H d v → Rep K Z' (PL.cut S H) d v
  | .non, v, _, r => by rw [r.non_inv]; exact .non
  | .bl b, v, _, r => by rw [r.bl_inv]; exact .bl b
  | .int i, v, _, r => by rw [r.int_inv]; exact .int i
  | .str s, v, _, r => by obtain ⟨rfl, q⟩ := r.str_inv; exact .str q
  | .tup xs, v, f, r => by
    obtain ⟨a, ws, rfl, q, l, r2⟩ := r.tup_inv
    have ne : ∀ {u : HO}, H a = some u → (∀ φ, u ≠ .ext φ) → PL.cut S H a = some u := fun {u} e n => by
      rw [cut_out fun z => by rw [t a z] at e; cases e; exact n _ rfl]
      exact e
    have q' : SqT K (PL.cut S H) a ws := by
      rcases q with (q | ⟨o', q⟩) | q
      · exact .inl (.inl (ne q (fun _ z => nomatch z)))
      · exact .inl (.inr ⟨o', ne q (fun _ z => nomatch z)⟩)
      · exact .inr q
    exact .tup q' l (RepL.cut t xs ws (by simpa [isPy, D.py] using f) r2)
  | .lst xs, v, f, r => by
    obtain ⟨a, o, ws, rfl, q, l, r2⟩ := r.lst_inv
    refine .lst (o := o) ?_ l (RepL.cut t xs ws (by simpa [isPy, D.py] using f) r2)
    rw [cut_out fun z => by rw [t a z] at q; cases q]
    exact q
  | .rng _ _, _, f, _ => by simp [isPy, D.py] at f
  | .exc _ _, _, f, _ => by simp [isPy, D.py] at f
  | .thk _ _, _, f, _ => by simp [isPy, D.py] at f
  | .lam _, _, f, _ => by simp [isPy, D.py] at f
  | .drw, _, f, _ => by simp [isPy, D.py] at f
theorem RepL.cut (t : Told S h H) : ∀ (ds : List D) (ws : List V), (pyL ds).isSome = true → RepL K Z H ds ws → RepL K Z' (PL.cut S H) ds ws
  | [], _, _, r => by cases r; exact .nil
  | d :: ds, _, f, r => by
    have hh : isPy d = true ∧ (pyL ds).isSome = true := by
      unfold pyL at f
      unfold isPy
      cases h1 : d.py with
      | none => rw [h1] at f; simp at f
      | some y => cases h2 : pyL ds with
        | none => rw [h1, h2] at f; simp at f
        | some ys => exact ⟨rfl, rfl⟩
    cases r with
    | cons r rr => exact .cons (Rep.cut t d _ hh.1 r) (RepL.cut t ds _ hh.2 rr)
end
end
/-- the bodies' meanings -/
inductive BodyAll (Z0 : Zone) (g : GE) (N : List Str) (k0 : Nat) (cd : Value) (ql : Str) (kt : Nat) (Φ : Fns) : List Expr → List T → Prop
  | nil : BodyAll Z0 g N k0 cd ql kt Φ [] []
  | cons {params : Arguments} {body : Expr} {scope : Scope} {lp : Pos} {es : List Expr} {b : T} {bs : List T} (h : DE (withThk g kt Z0) (gmOf g N ⟨k0, cd, ql⟩ ⟨scope, some scope⟩) body (sem Φ b)) (r : BodyAll Z0 g N k0 cd ql kt Φ es bs) : BodyAll Z0 g N k0 cd ql kt Φ (.Lambda params body scope lp :: es) (b :: bs)
section
variable {g : GE} {N : List Str} {r : Rm} {k : Ct} {kt : Nat} {Z0 : Zone} {Φ : Fns} {ρ : Nv} {σ : L2.St} {H H0 : Hp} {s : Shared} {X : Cx} {W : WX} {pins : List (Addr × Obj)} {Fn : FnS} {f : Addr} {fd : FuncData}
/-- the call of the def, what it is handed told of meanwhile -/
theorem lam_call {es : List Expr} {fs : List Addr} {us : List Value} {vs : List V} {ds : List D} {Q0 : D → Nat → Prop} {R : VK} (LZ : LamZ g r kt Z0) (c : FnC g (withThk g kt Z0) r.k Fn f fd) (F : Fam (gmOf g N r k) W X) (ht : k.blk = none) (I : Inv X pins σ H s) (zo : Z0.ok κ H) (al : LamAll X H s.heap es fs)
    (hb : BindsTo s fd ⟨us, []⟩ (Fn.ps.zip us)) (rv : Vals vs us) (rl : RepL g.K (withThk g kt Z0) (track (SetL X fs) s.heap H) ds vs) (hl : ds.length = Fn.ps.length) (sp : Fn.spec ds κ (fun d κ => isPy d = true ∧ Q0 d κ) (fun _ _ => False)) (an : An g.K (withThk g kt Z0) H Q0 R) :
    wpAny (model X.prog X.w) X.A (call (.ref f) us) (EP X pins σ R) X.xe s := by
  have so := set_ok F ht I al
  have ns : ∀ {b u}, H b = some u → ¬ SetL X fs b := fun {b u} e z => by rw [(so b z).1] at e; cases e
  have exT : Ex H (track (SetL X fs) s.heap H) := fun b u e => by rw [track_out (ns e)]; exact e
  have zoT : Z0.ok κ (track (SetL X fs) s.heap H) := exT.ok zo
  have ge := F.ge
  have gP : X.prog = g.P := by rw [← show geOf X = g from ge]; rfl
  have gw : X.w = g.w := by rw [← show geOf X = g from ge]; rfl
  have gb : X.base = g.base := by rw [← show geOf X = g from ge]; rfl
  have e0 := I.env0
  rw [gP, gw, show X.K = g.K from F.K, show X.mg = g.mg from F.mg, gb] at e0
  have e1 := env0_track (S := SetL X fs) e0 fun b hb => by
    obtain ⟨h1, h2, h3, o, h4, _⟩ := so b hb
    exact ⟨h1, by rw [← gb]; exact h2, h3, o, h4⟩
  have run := c.run X.A X.stack s _ ⟨us, []⟩ us vs ds κ (fun d κ => isPy d = true ∧ Q0 d κ) (fun _ _ => False) (fun v H3 => Ext Z0 (track (SetL X fs) s.heap H) H3 ∧ ∃ κ d, Z0.ok κ H3 ∧ Rep g.K (withThk g kt Z0) H3 d v ∧ isPy d = true ∧ Q0 d κ) (fun _ _ _ => False)
    F.gu F.room e1 hb rv zoT rl hl sp (fun v d H3 x3 k3 r3 q3 => ⟨x3, _, d, k3, r3, q3⟩) (fun _ _ _ _ _ _ _ z => z.elim)
  have run2 : codeAny (model X.prog X.w) X.A (.call (.ref f) ⟨us, []⟩) (CR (L2.CX X.prog X.w) X.stack X.prog X.w H s R (fun _ _ _ => False)) s := by
    rw [gP, gw]
    refine codeAny_mono run fun rr s4 cc => cr_untrack (fun b hb => ⟨(so b hb).1, (so b hb).2.2.1⟩) cc (fun v H3 h3 hok ⟨x3, κ3, d, k3, r3, p3, q3⟩ => ?_) (fun _ _ _ _ _ z => z.elim)
    have told : Told (SetL X fs) s.heap H3 := fun b hb => x3 b _ (track_in hb) fun m => Z0.nimm _ b _ zoT m (track_in hb) trivial
    refine ⟨told, an v d _ (fun a u ha nm => ?_) ?_ (Rep.cut told d v p3 r3) q3⟩
    · rw [cut_out (ns ha)]
      exact x3 a u (exT a u ha) nm
    · refine LZ.cut _ _ _ _ _ hok told (fun b hb => ?_) k3
      obtain ⟨o', h1, h2⟩ := told.ex hok hb
      obtain ⟨_, _, _, o, h4, h5⟩ := so b hb
      have e : o = o' := Option.some.inj (h4.symm.trans h1)
      exact ⟨o', h2, by rw [← e]; exact h5⟩
  refine wpAny_call (codeAny_mono run2 fun rr s' hq => ?_)
  cases rr with
  | error e =>
    obtain ⟨_, _, _, _, _, _, _, _, _, _, _, _, z⟩ := (hq : L2.CX X.prog X.w X.stack H s (fun _ _ _ => False) e s')
    exact z.elim
  | ok fl =>
    cases fl with
    | ret u => exact I.after hq
    | next => exact False.elim hq
    | brk => exact False.elim hq
    | cont => exact False.elim hq
/-- all thunks at once -/
theorem thk_all {es0 : List Expr} {fs0 : List Addr} {k0 : Nat} {cd : Value} {ql : Str} (LZ : LamZ g r kt Z0) (hkt : kt = k0 + 1) (F : Fam (gmOf g N r k) W X) (ht : k.blk = none) (I : Inv X pins σ H s) (S : SR g.K (withThk g kt Z0) κ H0 ρ σ H) (al : LamAll X H s.heap es0 fs0) :
    ∀ {es : List Expr} {fs : List Addr} {bs : List T} {ts : List D}, LamAll X H s.heap es fs → (∀ f ∈ fs, f ∈ fs0) → es.all (lamE1 X.env.scope) = true → BodyAll Z0 g N k0 cd ql kt Φ es bs → OutAll Φ ρ bs ts → RepL g.K (withThk g kt Z0) (track (SetL X fs0) s.heap H) ts (fs.map V.ref)
  | [], _, _, _, .nil, _, _, b, o => by
    cases b
    cases o
    exact .nil
  | e :: es, f :: fs, _, _, .cons a n o z al1, hin, he, b, oo => by
    cases b with
    | cons hb br => cases oo with
      | cons ot orr =>
        simp only [List.all_cons, Bool.and_eq_true] at he
        rename_i params body scope lp b bs t ts
        refine .cons ?_ (thk_all LZ hkt F ht I S al al1 (fun f hf => hin f (List.mem_cons_of_mem _ hf)) he.2 br orr)
        have mk : ∀ {ok : Bool} {x : D}, t = .thk ok x → Rep g.K (withThk g kt Z0) (track (SetL X fs0) s.heap H) t (.ref f) := fun {ok x} e => by
          rw [e]
          rw [e] at ot
          exact .oth (.inr ⟨ok, x, f, rfl, rfl, thk_at LZ hkt F ht I S al (hin f List.mem_cons_self) a he.1 hb ot⟩)
        rcases id ot with ⟨x, e, _⟩ | ⟨x, e, _⟩
        · exact mk e
        · exact mk e
end
end PL

/-! PMd: f(lambda: ..), f([lambda: .., ..]). -/
namespace PL
open PySem
open PySem.Spec
open PyProof.Rows
open L2
section
variable {g : GE} {N : List Str} {r : Rm} {k : Ct} {kt : Nat} {Z0 : Zone} {Φ : Fns} {Fn : FnS} {id k0 : Nat} {cd : Value} {ql : Str} {p lpos pos : Pos}
theorem LamAll.mono {X : Cx} {H H' : Hp} {h h' : Heap} (e : ∀ {a o}, h.get? a = some o → h'.get? a = some o) (n : ∀ a, H a = none → (∃ o, h.get? a = some o) → H' a = none) (x : ∀ a q, H a = some (LamX.CodeO a q) → H' a = some (LamX.CodeO a q)) : ∀ {es : List Expr} {fs : List Addr}, LamAll X H h es fs → LamAll X H' h' es fs
  | _, _, .nil => .nil
  | e1 :: es, f :: fs, .cons a m o z rr => by
    have a' : LamAt X H' h' e1 f ∧ ∃ o, h.get? f = some o := by
      cases e1 with
      | Lambda params body scope lp =>
        obtain ⟨c', pm, ctv, h1, h2⟩ := a
        exact ⟨⟨c', pm, ctv, e h1, x _ _ h2⟩, _, h1⟩
      | _ => exact a.elim
    exact .cons a'.1 (n f m a'.2) o z (LamAll.mono e n x rr)
theorem lamAll_len {X : Cx} {H : Hp} {h : Heap} : ∀ {es : List Expr} {fs : List Addr}, LamAll X H h es fs → es.length = fs.length
  | _, _, .nil => rfl
  | _, _, .cons _ _ _ _ rr => by rw [List.length_cons, List.length_cons, lamAll_len rr]
theorem vals_refs : ∀ fs : List Addr, Vals (fs.map V.ref) (fs.map Value.ref)
  | [] => .nil
  | _ :: fs => .cons rfl (vals_refs fs)
def tSem (g : GE) (Z : Zone) (t : Nv → M D) : TE := fun σ H R => ∃ κ ρ H0 Q E, SR g.K Z κ H0 ρ σ H ∧ t ρ κ Q E ∧ An g.K Z H Q R
theorem de_lams (lst : Bool) {es : List Expr} {bs : List T} (LZ : LamZ g r kt Z0) (hkt : kt = k0 + 1) (hF : FnK g (withThk g kt Z0) r.k Fn) (hsp : Fn.spec = Φ id) (hp1 : Fn.ps.length = 1) (ht : k.blk = none) (hg : k.sc.names.lookup Fn.name = some .globalImplicit) (hdb : (Fn.name == ("__debug__" : Str)) = false)
    (he : es.all (lamE1 k.sc) = true) (hl : es.length ≤ 16777216) (hb : BodyAll Z0 g N k0 cd ql kt Φ es bs) :
    (lst = true → DE (withThk g kt Z0) (gmOf g N r k) (.Call (.Name Fn.name p) [.List es lpos] [] pos) (sem Φ (.lamL id bs))) ∧
    (lst = false → ∀ e b, es = [e] → bs = [b] → DE (withThk g kt Z0) (gmOf g N r k) (.Call (.Name Fn.name p) [e] [] pos) (sem Φ (.lam1 id b))) := by
  obtain ⟨cA, P, T, t1, t2, t3, t4, t5, t6, t7⟩ := LZ.tab
  obtain ⟨f, fd, c⟩ := hF
  have pre : ∀ {W : WX} {X : Cx}, Fam (gmOf g N r k) W X → LamX.TabB X.base X.mg cA P ∧ X.env.code = .ref cA ∧ (P, X.env.qual ++ "<lambda>") ∈ T ∧ (∀ p ∈ T, p.1 = P → p.2 = X.env.qual ++ "<lambda>") ∧ (∀ κ H H1, Z0.ok κ H → LamX.Tabs T H1 → Grow P (X.env.qual ++ "<lambda>") H H1 → Z0.ok κ H1) := fun {W X} F => by
    have gb : X.base = g.base := by rw [← show geOf X = g from F.ge]; rfl
    obtain ⟨q1, q2⟩ := F.code (show k.blk.isNone = true by rw [ht]; rfl)
    have q1 : X.env.code = r.cd := q1
    have q2 : X.env.qual = r.ql := q2
    rw [gb, show X.mg = g.mg from F.mg, q1, q2]
    exact ⟨t2, t1, t3, t4, t7⟩
  have hesX : ∀ {W : WX} {X : Cx}, Fam (gmOf g N r k) W X → es.all (lamE1 X.env.scope) = true := fun {W X} F => by rw [show X.env.scope = k.sc from F.sc]; exact he
  refine ⟨fun hls W => ⟨tSem g (withThk g kt Z0) (sem Φ (.lamL id bs)), fun X F => ⟨fun pins s σ H R I h => ?_⟩, fun ρ σ H H0 Q E R S q k kx => ⟨_, ρ, H0, Q, E, S, q, k⟩⟩, fun hls e b he1 hb1 W => ⟨tSem g (withThk g kt Z0) (sem Φ (.lam1 id b)), fun X F => ⟨fun pins s σ H R I h => ?_⟩, fun ρ σ H H0 Q E R S q k kx => ⟨_, ρ, H0, Q, E, S, q, k⟩⟩⟩
  · obtain ⟨κ, ρ, H0, Q, E, S, q, an⟩ := h
    obtain ⟨p1, p2, p3, p4, p5⟩ := pre F
    rw [sem] at q
    obtain ⟨ts, oo, q⟩ := semTh_inv q
    refine wpAny_Call_Name_kw (ld_glob I (F.kd hg) (by rw [F.mg]; exact c.mg) ?_ hdb)
    refine PySem.W.callWith_K (h₀ := X.base) I.ok.mod.kin (by rw [F.K]; exact c.kp) (args_cons (wpAny_List_spliced (lams_args p1 p2 p3 p4 t5 t6 p5 es (hesX F) pins s H _ I κ S.ok fun H1 fs s1 I1 e1 k1 al => ?_)) (star_cons rfl _)) (star_cons rfl _) rfl
    have hl2 : fs.length ≤ sizeLine := by rw [← lamAll_len al, sizeLine_eq]; exact hl
    refine ⟨by rw [List.length_map]; exact hl2, args_nil ?_⟩
    have hf : H1 s1.heap.objs.size = none := I1.hok.fresh (Nat.le_refl _)
    have I2 : Inv X pins σ (upd H1 s1.heap.objs.size (.lst (fs.map V.ref))) { s1 with heap := s1.heap.push { cls := .type "list", data := .seq (fs.map Value.ref).toArray } } := I1.laid (t' := s1.toks) (fun b u e => Heap.get?_push_of_some _ e) (Nat.le_refl _) ⟨by rw [List.length_map]; exact hl2, fs.map Value.ref, 0, vals_refs fs, Heap.get?_push_size _ rfl⟩
    obtain ⟨od, I3⟩ := I2.lock (d := s1.heap.objs.size) upd_same trivial
    have eU : upd (upd H1 s1.heap.objs.size (.lst (fs.map V.ref))) s1.heap.objs.size (.frz od (.lst (fs.map V.ref))) = upd H1 s1.heap.objs.size (.frz od (.lst (fs.map V.ref))) := by
      funext a
      by_cases z : a = s1.heap.objs.size
      · rw [z, upd_same, upd_same]
      · rw [upd_ne z, upd_ne z, upd_ne z]
    rw [eU] at I3
    have x2 : Ex H1 (upd H1 s1.heap.objs.size (.frz od (.lst (fs.map V.ref)))) := Ex.new hf
    have al2 : LamAll X (upd H1 s1.heap.objs.size (.frz od (.lst (fs.map V.ref)))) (s1.heap.push { cls := .type "list", data := .seq (fs.map Value.ref).toArray }) es fs := al.mono (fun h => Heap.get?_push_of_some _ h) (fun a hn ⟨o, ho⟩ => by rw [upd_ne (Nat.ne_of_lt (Heap.lt_size ho))]; exact hn) fun a q hq => x2 a _ hq
    have k2 : Z0.ok κ (upd H1 s1.heap.objs.size (.frz od (.lst (fs.map V.ref)))) := x2.ok k1
    have S2 : SR g.K (withThk g kt Z0) κ H0 ρ σ (upd H1 s1.heap.objs.size (.frz od (.lst (fs.map V.ref)))) := S.mono ((show Ext (withThk g kt Z0) H H1 from e1).trans x2.ext) k2
    have so := set_ok F ht I3 al2
    have nS : ¬ SetL X fs s1.heap.objs.size := fun z => by
      have := (so _ z).1
      rw [upd_same] at this
      cases this
    rw [← hsp] at q
    refine ⟨I3.kIn, lam_call LZ c F ht I3 k2 al2 (c.bd _ [.ref s1.heap.objs.size] (by rw [← show X.K = g.K from F.K]; exact I3.kIn) hp1.symm) (us := [.ref s1.heap.objs.size]) (vs := [V.ref s1.heap.objs.size]) (.cons (show RelV (V.ref s1.heap.objs.size) (Value.ref s1.heap.objs.size) from rfl) .nil) (.cons ?_ .nil) hp1.symm q (an.at (Ext.trans (show Ext (withThk g kt Z0) H H1 from e1) x2.ext))⟩
    exact .lst (by rw [track_out nS, upd_same]) (by rw [List.length_map]; exact hl2) (thk_all LZ hkt F ht I3 S2 al2 al2 (fun _ h => h) (hesX F) hb oo)
  · subst he1 hb1
    obtain ⟨κ, ρ, H0, Q, E, S, q, an⟩ := h
    obtain ⟨p1, p2, p3, p4, p5⟩ := pre F
    rw [sem] at q
    obtain ⟨t, ot, q⟩ := thkM_inv q
    refine wpAny_Call_Name_kw (ld_glob I (F.kd hg) (by rw [F.mg]; exact c.mg) ?_ hdb)
    have hpl : plain e = true := by
      cases hb with
      | cons _ _ => rfl
    refine PySem.W.callWith_K (h₀ := X.base) I.ok.mod.kin (by rw [F.K]; exact c.kp) (lams_args p1 p2 p3 p4 t5 t6 p5 [e] (hesX F) pins s H _ I κ S.ok fun H1 fs s1 I1 e1 k1 al => ?_) (star_cons hpl _) rfl
    have S2 : SR g.K (withThk g kt Z0) κ H0 ρ σ H1 := S.mono (show Ext (withThk g kt Z0) H H1 from e1) k1
    have hlen := lamAll_len al
    rw [← hsp] at q
    refine ⟨I1.kIn, lam_call (us := fs.map Value.ref) LZ c F ht I1 k1 al (c.bd _ (fs.map Value.ref) (by rw [← show X.K = g.K from F.K]; exact I1.kIn) (by rw [List.length_map, ← hlen]; exact hp1.symm)) (vals_refs fs) (thk_all LZ hkt F ht I1 S2 al al (fun _ h => h) (hesX F) hb (.cons ot .nil)) hp1.symm q (an.at e1)⟩
end
end PL

/-! PLs: the translation of expressions is sound. -/
namespace PL
open PySem
open PySem.Spec
open PyProof.Rows
open L2
structure CfgOk (Z : Zone) (Φ : Fns) (g : GE) (r : Rm) (c : Cfg) : Prop where
  fns : ∀ F ∈ c.fns, FnK g Z r.k ⟨F.name, F.ps, Φ F.id, F.kb⟩
  gls : ∀ x d, c.gls.lookup x = some d → ∃ v u, g.mg x = some u ∧ RelV v u ∧ ∀ H, Rep g.K Z H d v
  exs : ∀ x ∈ c.exs, ExK g Z x
  blt : ∀ b ∈ bltNames, g.mg b = none
  hk : ∀ k e t, trHook c k e = some t → DE Z (gmOf g c.N r k) e (sem Φ t)
  hkS : ∀ f k st s, (∀ e t, f k e = some t → DE Z (gmOf g c.N r k) e (sem Φ t)) → trHookS f c k st = some s → DS Z (gmOf g c.N r k) st (semS Φ s)
  isc : ∀ k y a t p p' pos, y ∈ c.cls → isGlob k.sc y = true → isGlob k.sc ("isinstance" : Str) = true → nmOk y = true → plain a = true → DE Z (gmOf g c.N r k) a (sem Φ t) → DE Z (gmOf g c.N r k) (.Call (.Name "isinstance" p) [a, .Name y p'] [] pos) (sem Φ (.bf (.isC y) [t]))
  tr : ∀ k st s, trTry c k st = some s → DS Z (gmOf g c.N r k) st (semS Φ s)
  lam : c.lam = true → ∃ kt Z0 k0, Z = withThk g kt Z0 ∧ LamZ g r kt Z0 ∧ kt = k0 + 1 ∧ ∀ F ∈ c.lfns, FnK g Z k0 ⟨F.name, F.ps, Φ F.id, F.kb⟩
theorem trHook_nil {c : Cfg} {k : Ct} {e : Expr} (h1 : c.hks = []) (h2 : c.pop = []) : trHook c k e = none := by
  unfold trHook
  rw [h1, h2]
  split <;> rfl
theorem trHookS_nil {f : Ct → Expr → Option T} {c : Cfg} {k : Ct} {st : Stmt} (h1 : c.hks = []) : trHookS f c k st = none := by
  unfold trHookS
  rw [h1]
  split <;> rfl
theorem trTry_nil {c : Cfg} {k : Ct} {st : Stmt} (h1 : c.tr = false) : trTry c k st = none := by
  unfold trTry
  split
  · split
    · rw [h1]
      simp
    · rfl
  · rfl
theorem CfgOk.inL {Z : Zone} {Φ : Fns} {g : GE} {r : Rm} {c : Cfg} {k0 : Nat} (ok : CfgOk Z Φ g r c) (h : ∀ F ∈ c.lfns, FnK g Z k0 ⟨F.name, F.ps, Φ F.id, F.kb⟩) : CfgOk Z Φ g ⟨k0, r.cd, r.ql⟩ c.inL where
  fns := h
  gls := ok.gls
  exs := ok.exs
  blt := ok.blt
  hk := fun k e t h => by rw [trHook_nil rfl rfl] at h; cases h
  hkS := fun f k st s _ h => by rw [trHookS_nil rfl] at h; cases h
  isc := fun k y a t p p' pos h => by cases h
  tr := fun k st s h => by rw [trTry_nil rfl] at h; cases h
  lam := fun z => nomatch z
theorem bopE_ok {op : Operator} {b : Bop} (h : bopE op = some b) : op = bopOf b := by cases op <;> simp [bopE] at h <;> subst h <;> rfl
theorem copE_ok {op : CmpOp} {b : Cop} (h : copE op = some b) : op = copOf b := by cases op <;> simp [copE] at h <;> subst h <;> rfl
section
variable {Z : Zone} {Φ : Fns} {g : GE} {r : Rm} {c : Cfg}
def SndE (Z : Zone) (Φ : Fns) (g : GE) (N : List Str) (r : Rm) (k : Ct) (e : Expr) (t : T) : Prop :=
  DE Z (gmOf g N r k) e (sem Φ t) ∧ (testOk e = true → DT Z (gmOf g N r k) e (fun ρ => bnd (sem Φ t ρ) truth)) ∧ (isNew e = true → DN Z (gmOf g N r k) e (sem Φ t))
def Snd (Z : Zone) (Φ : Fns) (g : GE) (N : List Str) (r : Rm) (f : Ct → Expr → Option T) : Prop := ∀ k e t, f k e = some t → SndE Z Φ g N r k e t
variable {f : Ct → Expr → Option T} {k : Ct} {e a b : Expr} {es : List Expr} {t : T}
theorem snd_val (h : DE Z (gmOf g c.N r k) e (sem Φ t)) (he : ∀ env whole, isTrue e env whole = (do let v ← whole; standAt e.pos; holding [v] (truthy v))) (hn : isNew e = false) : SndE Z Φ g c.N r k e t :=
  ⟨h, fun _ => dt_val h he, fun z => by rw [hn] at z; cases z⟩
theorem snd_new (h : DN Z (gmOf g c.N r k) e (sem Φ t)) (he : ∀ env whole, isTrue e env whole = (do let v ← whole; standAt e.pos; holding [v] (truthy v))) : SndE Z Φ g c.N r k e t :=
  ⟨dn_de h, fun _ => dt_val (dn_de h) he, fun _ => h⟩
theorem trL_snd (S : Snd Z Φ g c.N r f) : ∀ {es : List Expr} {ts : List T}, es.all plain = true → trL (f k) es = some ts → DA Z (gmOf g c.N r k) es (semL Φ ts)
  | [], ts, _, h => by
    simp only [trL, Option.some.injEq] at h
    subst h
    exact da_nil
  | e :: es, ts, hp, h => by
    simp only [List.all_cons, Bool.and_eq_true] at hp
    unfold trL at h
    split at h
    · rename_i t ts' h1 h2
      cases h
      exact da_cons hp.1 (S k e t h1).1 (trL_snd S hp.2 h2)
    · cases h
theorem trL_len {f : Expr → Option T} : ∀ {es : List Expr} {ts : List T}, trL f es = some ts → ts.length = es.length
  | [], ts, h => by
    simp only [trL, Option.some.injEq] at h
    subst h
    rfl
  | e :: es, ts, h => by
    unfold trL at h
    split at h
    · rename_i t ts' h1 h2
      cases h
      rw [List.length_cons, List.length_cons, trL_len h2]
    · cases h
theorem trK_snd (S : Snd Z Φ g c.N r f) : ∀ {ks : List Keyword} {ts : List T}, trK (f k) ks = some ts → DK Z (gmOf g c.N r k) ks (semL Φ ts)
  | [], ts, h => by
    simp only [trK, Option.some.injEq] at h
    subst h
    exact dk_nil
  | ⟨nm, e, p⟩ :: es, ts, h => by
    unfold trK at h
    split at h
    · rename_i t ts' h1 h2
      cases h
      exact dk_cons (S k e t h1).1 (trK_snd S h2)
    · cases h
/-! ### and, or -/
theorem bnd_and (a : M Bool) (b : M D) : (bnd (bnd a fun k => if k = true then b else ret (.bl false)) truth) = bnd a fun k => if k = true then bnd b truth else ret false := by
  rw [bnd_bnd]
  congr 1
  funext k
  cases k <;> rfl
theorem bnd_or (a : M Bool) (b : M D) : (bnd (bnd a fun k => if k = true then ret (.bl true) else b) truth) = bnd a fun k => if k = true then ret true else bnd b truth := by
  rw [bnd_bnd]
  congr 1
  funext k
  cases k <;> rfl
theorem trAnd_snd (S : Snd Z Φ g c.N r f) {pos : Pos} : ∀ {es : List Expr} {t : T}, es.all testOk = true → trAnd (f k) es = some t → DE Z (gmOf g c.N r k) (.BoolOp .And es pos) (sem Φ t) ∧ DW Z (gmOf g c.N r k) (.BoolOp .And es pos) (fun ρ => bnd (sem Φ t ρ) truth)
  | [], t, _, h => by simp [trAnd] at h
  | [e], t, ho, h => by
    simp only [List.all_cons, Bool.and_eq_true] at ho
    obtain ⟨h1, h2, _⟩ := S k e t h
    exact ⟨de_one h1, dw_one (h2 ho.1)⟩
  | e :: e2 :: es, t, ho, h => by
    simp only [List.all_cons, Bool.and_eq_true] at ho
    unfold trAnd at h
    split at h
    · rename_i x xs h1 h2
      cases h
      obtain ⟨g1, g2, _⟩ := S k e x h1
      obtain ⟨i1, i2⟩ := trAnd_snd S (pos := pos) (es := e2 :: es) (by simp [ho.2.1, ho.2.2]) h2
      refine ⟨de_and g1 i1, ?_⟩
      have q := dw_and (g2 ho.1) i2
      have e : (fun ρ => bnd (sem Φ (.and x xs) ρ) truth) = fun ρ => bnd (bnd (sem Φ x ρ) truth) fun k => if k = true then bnd (sem Φ xs ρ) truth else ret false := by
        funext ρ
        rw [sem]
        exact bnd_and _ _
      rw [e]
      exact q
    · cases h
theorem trOr_snd (S : Snd Z Φ g c.N r f) {pos : Pos} : ∀ {es : List Expr} {t : T}, es.all testOk = true → trOr (f k) es = some t → DE Z (gmOf g c.N r k) (.BoolOp .Or es pos) (sem Φ t) ∧ DW Z (gmOf g c.N r k) (.BoolOp .Or es pos) (fun ρ => bnd (sem Φ t ρ) truth)
  | [], t, _, h => by simp [trOr] at h
  | [e], t, ho, h => by
    simp only [List.all_cons, Bool.and_eq_true] at ho
    obtain ⟨h1, h2, _⟩ := S k e t h
    exact ⟨de_one h1, dw_one (h2 ho.1)⟩
  | e :: e2 :: es, t, ho, h => by
    simp only [List.all_cons, Bool.and_eq_true] at ho
    unfold trOr at h
    split at h
    · rename_i x xs h1 h2
      cases h
      obtain ⟨g1, g2, _⟩ := S k e x h1
      obtain ⟨i1, i2⟩ := trOr_snd S (pos := pos) (es := e2 :: es) (by simp [ho.2.1, ho.2.2]) h2
      refine ⟨de_or g1 i1, ?_⟩
      have q := dw_or (g2 ho.1) i2
      have e : (fun ρ => bnd (sem Φ (.or x xs) ρ) truth) = fun ρ => bnd (bnd (sem Φ x ρ) truth) fun k => if k = true then ret true else bnd (sem Φ xs ρ) truth := by
        funext ρ
        rw [sem]
        exact bnd_or _ _
      rw [e]
      exact q
    · cases h
/-! ### targets -/
theorem trGL_snd {N : List Str} {f : Expr → Option Tg} (S : ∀ e t, f e = some t → DG Z (gmOf g N r k) e t) : ∀ {es : List Expr} {ts : List Tg}, es.all tgx = true → trGL f es = some ts → DGs Z (gmOf g N r k) es ts
  | [], ts, _, h => by
    simp only [trGL, Option.some.injEq] at h
    subst h
    exact dgs_nil
  | e :: es, ts, hp, h => by
    simp only [List.all_cons, Bool.and_eq_true] at hp
    unfold trGL at h
    split at h
    · rename_i t ts' h1 h2
      cases h
      exact dgs_cons hp.1 (S e t h1) (trGL_snd S hp.2 h2)
    · cases h
theorem trG_snd : ∀ {n : Nat} {e : Expr} {t : Tg}, trG n c k e = some t → DG Z (gmOf g c.N r k) e t
  | 0, _, _, h => by simp [trG] at h
  | n + 1, e, t, h => by
    unfold trG at h
    split at h
    · split at h
      · rename_i hs
        obtain ⟨i, hi, rfl⟩ := Option.map_eq_some_iff.mp h
        exact dg_name (idx_ok hi) (storeOk_ok hs)
      · cases h
    · split at h
      · rename_i hs
        obtain ⟨l, hl, rfl⟩ := Option.map_eq_some_iff.mp h
        exact dg_tup hs (trGL_snd (fun e t h => trG_snd h) hs hl)
      · cases h
    · cases h
theorem trG_tgx : ∀ {n : Nat} {e : Expr} {t : Tg}, trG n c k e = some t → tgx e = true
  | 0, _, _, h => by simp [trG] at h
  | n + 1, e, t, h => by
    unfold trG at h
    split at h
    · rfl
    · rfl
    · cases h
/-! ### what is walked -/
theorem di_of {tg : Expr} (S : Snd Z Φ g c.N r f) {it : Expr} {ti : I} (h : (f k it).map I.val = some ti) : DI Z (gmOf g c.N r k) tg it (semI Φ ti) := by
  obtain ⟨t, ht, rfl⟩ := Option.map_eq_some_iff.mp h
  exact di_val (S k it t ht).1
theorem trI_snd (ok : CfgOk Z Φ g r c) (S : Snd Z Φ g c.N r f) {tg it : Expr} {ti : I} (h : trI f c k tg it = some ti) : DI Z (gmOf g c.N r k) tg it (semI Φ ti) := by
  have b1 := ok.blt ("range" : Str) (by simp [bltNames])
  have b2 := ok.blt ("enumerate" : Str) (by simp [bltNames])
  have b3 := ok.blt ("zip" : Str) (by simp [bltNames])
  unfold trI at h
  split at h
  · split at h
    · rename_i x _ a _ hx
      subst hx
      split at h
      · rename_i hc
        simp only [Bool.and_eq_true] at hc
        obtain ⟨t, ht, rfl⟩ := Option.map_eq_some_iff.mp h
        exact di_range1 (isGlob_ok hc.1) b1 (S k a t ht).1 hc.2
      · cases h
    · split at h
      · rename_i x _ a _ _ hx
        subst hx
        split at h
        · split at h
          · rename_i hc
            simp only [Bool.and_eq_true] at hc
            obtain ⟨t, ht, rfl⟩ := Option.map_eq_some_iff.mp h
            exact di_enum (isGlob_ok hc.1) b2 (S k a t ht).1 hc.2
          · cases h
        · cases h
      · exact di_of S h
  · split at h
    · rename_i x _ a b _ hx
      subst hx
      split at h
      · rename_i hc
        simp only [Bool.and_eq_true] at hc
        split at h
        · rename_i t u h1 h2
          cases h
          exact di_range2 (isGlob_ok hc.1.1) b1 (S k a t h1).1 (S k b u h2).1 hc.1.2 hc.2
        · cases h
      · cases h
    · split at h
      · rename_i x _ a b _ _ hx
        subst hx
        split at h
        · split at h
          · rename_i hc
            simp only [Bool.and_eq_true] at hc
            split at h
            · rename_i t u h1 h2
              cases h
              exact di_zip (isGlob_ok hc.1.1) b3 (S k a t h1).1 (S k b u h2).1 hc.1.2 hc.2
            · cases h
          · cases h
        · cases h
      · exact di_of S h
  · exact di_of S h
end
end PL

/-! PLt: the translation of expressions is sound, the whole. -/
namespace PL
open PySem
open PySem.Spec
open PyProof.Rows
open L2
section
variable {Z : Zone} {Φ : Fns} {g : GE} {r : Rm} {c : Cfg}
variable {f : Ct → Expr → Option T} {k : Ct} {e a b : Expr} {es : List Expr} {t : T} {x : Str} {p pos : Pos}
theorem bf1_snd (ok : CfgOk Z Φ g r c) {b : Bf} (hx : bf1 x = some b) (hg : isGlob k.sc x = true) (ha : DE Z (gmOf g c.N r k) a (sem Φ t)) (hp : plain a = true) : DE Z (gmOf g c.N r k) (.Call (.Name x p) [a] [] pos) (sem Φ (.bf b [t])) := by
  have hA := da_cons hp ha (da_nil (Z := Z) (γ := gmOf g c.N r k))
  have hpp : [a].all plain = true := by simp [hp]
  unfold bf1 at hx
  split at hx
  · rename_i h
    subst h
    cases hx
    exact de_callB (id := "len") (fun W X F => by rw [← F.K]; exact fn_len) (isGlob_ok hg) (ok.blt _ (by simp [bltNames])) (by decide +kernel) hA hpp (by decide) (by decide)
  split at hx
  · rename_i h
    subst h
    cases hx
    exact de_callTy (T := "tuple") (fun W X F => by rw [← F.K]; exact fn_tuple) (isGlob_ok hg) (ok.blt _ (by simp [bltNames])) (by decide +kernel) hA hpp (by decide) (by decide)
  split at hx
  · rename_i h
    subst h
    cases hx
    exact de_callTy (T := "list") (fun W X F => by rw [← F.K]; exact fn_list) (isGlob_ok hg) (ok.blt _ (by simp [bltNames])) (by decide +kernel) hA hpp (by decide) (by decide)
  split at hx
  · rename_i h
    subst h
    cases hx
    exact de_callTy (T := "int") (fun W X F => by rw [← F.K]; exact fn_int) (isGlob_ok hg) (ok.blt _ (by simp [bltNames])) (by decide +kernel) hA hpp (by decide) (by decide)
  split at hx
  · rename_i h
    subst h
    cases hx
    exact de_callB (id := "abs") (fun W X F => by rw [← F.K]; exact fn_abs) (isGlob_ok hg) (ok.blt _ (by simp [bltNames])) (by decide +kernel) hA hpp (by decide) (by decide)
  split at hx
  · rename_i h
    subst h
    cases hx
    exact de_callB (id := "repr") (fun W X F => by rw [← F.K]; exact fn_repr F.gu F.units) (isGlob_ok hg) (ok.blt _ (by simp [bltNames])) (by decide +kernel) hA hpp (by decide) (by decide)
  split at hx
  · rename_i h
    subst h
    cases hx
    exact de_callTy (T := "range") (fun W X F => by rw [← F.K]; exact fn_range1) (isGlob_ok hg) (ok.blt _ (by simp [bltNames])) (by decide +kernel) hA hpp (by decide) (by decide)
  split at hx
  · rename_i h
    subst h
    cases hx
    exact de_callB (id := "sum") (fun W X F => by rw [← F.K]; exact fn_sum F.calm) (isGlob_ok hg) (ok.blt _ (by simp [bltNames])) (by decide +kernel) hA hpp (by decide) (by decide)
  split at hx
  · rename_i h
    subst h
    cases hx
    exact de_callB (id := "min") (fun W X F => by rw [← F.K]; exact fn_min F.calm) (isGlob_ok hg) (ok.blt _ (by simp [bltNames])) (by decide +kernel) hA hpp (by decide) (by decide)
  split at hx
  · rename_i h
    subst h
    cases hx
    exact de_callB (id := "max") (fun W X F => by rw [← F.K]; exact fn_max F.calm) (isGlob_ok hg) (ok.blt _ (by simp [bltNames])) (by decide +kernel) hA hpp (by decide) (by decide)
  · cases hx
theorem bf2_snd (ok : CfgOk Z Φ g r c) {q : Bf} {u : T} (hx : bf2 x = some q) (hg : isGlob k.sc x = true) (ha : DE Z (gmOf g c.N r k) a (sem Φ t)) (hb : DE Z (gmOf g c.N r k) b (sem Φ u)) (hp : plain a = true) (hp2 : plain b = true) : DE Z (gmOf g c.N r k) (.Call (.Name x p) [a, b] [] pos) (sem Φ (.bf q [t, u])) := by
  have hA := da_cons hp ha (da_cons hp2 hb (da_nil (Z := Z) (γ := gmOf g c.N r k)))
  have hpp : [a, b].all plain = true := by simp [hp, hp2]
  unfold bf2 at hx
  split at hx
  · rename_i h
    subst h
    cases hx
    exact de_callB (id := "min") (fun W X F => by rw [← F.K]; exact fn_min F.calm) (isGlob_ok hg) (ok.blt _ (by simp [bltNames])) (by decide +kernel) hA hpp (by decide) (by decide)
  split at hx
  · rename_i h
    subst h
    cases hx
    exact de_callB (id := "max") (fun W X F => by rw [← F.K]; exact fn_max F.calm) (isGlob_ok hg) (ok.blt _ (by simp [bltNames])) (by decide +kernel) hA hpp (by decide) (by decide)
  split at hx
  · rename_i h
    subst h
    cases hx
    exact de_callTy (T := "range") (fun W X F => by rw [← F.K]; exact fn_range2) (isGlob_ok hg) (ok.blt _ (by simp [bltNames])) (by decide +kernel) hA hpp (by decide) (by decide)
  · cases hx
theorem isi_snd (ok : CfgOk Z Φ g r c) {T : Ty} {y : Str} {p' : Pos} (hy : tyE y = some T) (hg : isGlob k.sc ("isinstance" : Str) = true) (hgy : isGlob k.sc y = true) (ha : DE Z (gmOf g c.N r k) a (sem Φ t)) (hp : plain a = true) : DE Z (gmOf g c.N r k) (.Call (.Name "isinstance" p) [a, .Name y p'] [] pos) (sem Φ (.bf (.isi T) [t])) := by
  have b1 := ok.blt ("isinstance" : Str) (by simp [bltNames])
  unfold tyE at hy
  split at hy
  · rename_i h
    subst h
    cases hy
    exact de_isi .int ha hp rfl (isGlob_ok hg) b1 (isGlob_ok hgy) (ok.blt _ (by simp [bltNames])) (by decide +kernel) (by decide) (by decide)
  split at hy
  · rename_i h
    subst h
    cases hy
    exact de_isi .bool ha hp rfl (isGlob_ok hg) b1 (isGlob_ok hgy) (ok.blt _ (by simp [bltNames])) (by decide +kernel) (by decide) (by decide)
  split at hy
  · rename_i h
    subst h
    cases hy
    exact de_isi .str ha hp rfl (isGlob_ok hg) b1 (isGlob_ok hgy) (ok.blt _ (by simp [bltNames])) (by decide +kernel) (by decide) (by decide)
  split at hy
  · rename_i h
    subst h
    cases hy
    exact de_isi .tuple ha hp rfl (isGlob_ok hg) b1 (isGlob_ok hgy) (ok.blt _ (by simp [bltNames])) (by decide +kernel) (by decide) (by decide)
  split at hy
  · rename_i h
    subst h
    cases hy
    exact de_isi .list ha hp rfl (isGlob_ok hg) b1 (isGlob_ok hgy) (ok.blt _ (by simp [bltNames])) (by decide +kernel) (by decide) (by decide)
  · cases hy
theorem trLam_snd {Z0 : Zone} {kt k0 : Nat} {cd : Value} {ql : Str} {fl : Ct → Expr → Option T} (S : Snd (withThk g kt Z0) Φ g c.N ⟨k0, cd, ql⟩ fl) : ∀ {es : List Expr} {bs : List T}, trLam fl es = some bs → BodyAll Z0 g c.N k0 cd ql kt Φ es bs
  | [], bs, h => by
    simp only [trLam, Option.some.injEq] at h
    subst h
    exact .nil
  | e :: es, bs, h => by
    unfold trLam at h
    split at h
    · rename_i h0
      cases h0
    · rename_i a1 body scope a2 es' h0
      cases h0
      split at h
      · rename_i t ts h1 h2
        cases h
        exact .cons (S _ _ _ h1).1 (trLam_snd S h2)
      · cases h
    · cases h
theorem trCall_snd {fl : Ct → Expr → Option T} (ok : CfgOk Z Φ g r c) (S : Snd Z Φ g c.N r f) (SL : ∀ k0, (∀ F ∈ c.lfns, FnK g Z k0 ⟨F.name, F.ps, Φ F.id, F.kb⟩) → Snd Z Φ g c.N ⟨k0, r.cd, r.ql⟩ fl) {kws : List Keyword} (h : trCall (f k) fl c k x es kws = some t) : DE Z (gmOf g c.N r k) (.Call (.Name x p) es kws pos) (sem Φ t) := by
  unfold trCall at h
  split at h
  · cases h
  rename_i hc
  simp only [Bool.not_eq_true', Bool.not_eq_false, Bool.and_eq_true] at hc
  obtain ⟨⟨hg, hn⟩, hp⟩ := hc
  obtain ⟨hd, _⟩ := nmOk_1 hn
  split at h
  · rename_i F hF
    have hm := List.mem_of_find?_eq_some hF
    have hnm : F.name = x := by simpa using List.find?_some hF
    subst hnm
    have FK := ok.fns F hm
    split at h
    · split at h
      · rename_i hlam
        simp only [Bool.and_eq_true, decide_eq_true_eq] at hlam
        obtain ⟨⟨⟨hl1, hl2⟩, hl3⟩, _⟩ := hlam
        obtain ⟨kt, Z0, k0, eZ, LZ, hk, hfn⟩ := ok.lam hl1
        have SLk := SL k0 hfn
        subst eZ
        have hbk : k.blk = none := by simpa using hl2
        split at h
        · rename_i ls _
          split at h
          · rename_i hls
            simp only [Bool.and_eq_true, decide_eq_true_eq] at hls
            obtain ⟨bs, hbs, rfl⟩ := Option.map_eq_some_iff.mp h
            exact (de_lams (lpos := _) (cd := r.cd) (ql := r.ql) (Fn := ⟨F.name, F.ps, Φ F.id, F.kb⟩) true LZ hk FK rfl hl3 hbk (isGlob_ok hg) hd hls.1 hls.2 (trLam_snd SLk hbs)).1 rfl
          · cases h
        · split at h
          · rename_i hls
            obtain ⟨b, hb, rfl⟩ := Option.map_eq_some_iff.mp h
            exact (de_lams (lpos := pos) (es := [_]) (bs := [b]) (cd := r.cd) (ql := r.ql) (Fn := ⟨F.name, F.ps, Φ F.id, F.kb⟩) false LZ hk FK rfl hl3 hbk (isGlob_ok hg) hd (by simpa using hls) (by simp) (.cons (SLk _ _ _ hb).1 .nil)).2 rfl _ _ rfl rfl
          · cases h
        · cases h
      split at h
      · rename_i hl
        obtain ⟨ts, hts, rfl⟩ := Option.map_eq_some_iff.mp h
        cases es with
        | nil =>
          simp only [trL, Option.some.injEq] at hts
          subst hts
          exact de_call0 (γ := gmOf g c.N r k) (F := ⟨F.name, F.ps, Φ F.id, F.kb⟩) FK (isGlob_ok hg) hl hd
        | cons e es => exact de_call (γ := gmOf g c.N r k) (F := ⟨F.name, F.ps, Φ F.id, F.kb⟩) FK (isGlob_ok hg) (trL_snd S hp hts) hp hl hd
      · cases h
    · split at h
      · cases h
      rename_i ks hks
      split at h
      · cases h
      rename_i q hq
      have hqm := List.mem_of_find?_eq_some hq
      have hqp := List.find?_some hq
      simp only [Bool.and_eq_true, decide_eq_true_eq] at hqp
      split at h
      · rename_i ts us h1 h2
        cases h
        have hq' : (es.length, ks, q.2.2) ∈ F.kb := by
          obtain ⟨q1, q2, q3⟩ := q
          simp only at hqp
          rw [← hqp.1, ← hqp.2]
          exact hqm
        cases es with
        | nil =>
          simp only [trL, Option.some.injEq] at h1
          subst h1
          exact de_callk0 (γ := gmOf g c.N r k) (F := ⟨F.name, F.ps, Φ F.id, F.kb⟩) FK (isGlob_ok hg) (trK_snd S h2) hks hq' hd
        | cons e es => exact de_callk (γ := gmOf g c.N r k) (F := ⟨F.name, F.ps, Φ F.id, F.kb⟩) FK (isGlob_ok hg) (trL_snd S hp h1) (trK_snd S h2) hp hks hq' hd
      · cases h
  · split at h
    · cases h
    split at h
    · rename_i a
      simp only [List.all_cons, List.all_nil, Bool.and_true] at hp
      split at h
      · rename_i b u h1 h2
        cases h
        exact bf1_snd ok h1 hg (S k a u h2).1 hp
      · cases h
    · rename_i a b
      simp only [List.all_cons, List.all_nil, Bool.and_true, Bool.and_eq_true] at hp
      split at h
      · rename_i hx
        subst hx
        split at h
        · split at h
          · rename_i hgy
            split at h
            · rename_i T u h1 h2
              cases h
              exact isi_snd ok h1 hg hgy (S k a u h2).1 hp.1
            · rename_i u _ h2
              split at h
              · rename_i hcl
                simp only [Bool.and_eq_true] at hcl
                cases h
                exact ok.isc k _ a u _ _ _ (by simpa using hcl.1) hgy hg hcl.2 hp.1 (S k a u h2).1
              · cases h
            · cases h
          · cases h
        · cases h
      · split at h
        · rename_i q u v h1 h2 h3
          cases h
          exact bf2_snd ok h1 hg (S k a u h2).1 (S k b v h3).1 hp.1 hp.2
        · cases h
    · cases h
theorem trIf_snd (S : Snd Z Φ g c.N r f) {ifs : List Expr} (h : trIf (f k) ifs = some t) : DTs Z (gmOf g c.N r k) ifs (fun ρ => bnd (sem Φ t ρ) truth) := by
  unfold trIf at h
  split at h
  · cases h
    exact dts_nil
  · split at h
    · rename_i q ho
      exact dts_one ((S k q t h).2.1 ho)
    · cases h
  · cases h
theorem de_bad (e : Expr) : DE Z (gmOf g c.N r k) e (fun _ => fail) := fun W => ⟨fun _ _ _ => False, fun X F => ⟨fun _ _ _ _ _ _ h => h.elim⟩, fun ρ σ H H0 Q E R S q _ _ => q.elim⟩
theorem un_ok {X : Cx} : UnR X (unaryOp .USub) (rUn X.K Z negD) := by
  intro pins s σ H x v Q I rx ⟨dx, Q', E, ok, r1, h, k⟩
  cases dx with
  | int i =>
    obtain rfl := r1.int_inv
    exact un_neg pins s σ H _ v Q I rx ⟨i, rfl, k _ _ H (.refl H) (.int _) h⟩
  | _ => exact h.elim
theorem super_ok {o : Expr} {m : Str} (h : superOk o = true) (env : PySem.Env) : attributeBase o m env (eval o env) = eval o env := by
  cases o <;> first | rfl | (simp [superOk] at h)
theorem trE_snd' : ∀ (n : Nat) {r : Rm} {c : Cfg}, CfgOk Z Φ g r c → Snd Z Φ g c.N r (trE n c)
  | 0, r, c, ok, k, e, t, h => by simp [trE] at h
  | n + 1, r, c, ok, k, e, t, h => by
    have S := trE_snd' n ok
    have SL : ∀ k0, (∀ F ∈ c.lfns, FnK g Z k0 ⟨F.name, F.ps, Φ F.id, F.kb⟩) → Snd Z Φ g c.N ⟨k0, r.cd, r.ql⟩ (trE n c.inL) := fun k0 hk => trE_snd' n (ok.inL hk)
    rw [trE] at h
    rcases hk : trHook c k e with _ | t'
    rotate_left
    · rw [hk] at h
      cases h
      have D := ok.hk k e t hk
      unfold trHook at hk
      split at hk
      · exact snd_val D (fun _ _ => rfl) rfl
      · exact ⟨D, (fun z => by cases z), (fun z => by cases z)⟩
      · cases hk
    rw [hk] at h
    clear hk
    simp only at h
    generalize trE n c.inL = fl at SL h
    generalize trE n c = f at S h
    have opB : ∀ (o : Bop), ∀ W X, Fam (gmOf g c.N r k) W X → OpR X (binaryOp (bopOf o)) (rOp (gmOf g c.N r k).g.K Z (bopD o)) := fun o W X F => by rw [← F.K]; exact bop_ok o
    have opC : ∀ (o : Cop), ∀ W X, Fam (gmOf g c.N r k) W X → OpR X (compareOp (copOf o)) (rOp (gmOf g c.N r k).g.K Z (copD o)) := fun o W X F => by
      rw [← F.K]
      exact cop_ok (by have := F.units; omega) o
    have slO : ∀ W X, Fam (gmOf g c.N r k) W X → SlR X (rSl (gmOf g c.N r k).g.K Z) := fun W X F => by rw [← F.K]; exact sl_ok
    have ixO : ∀ W X, Fam (gmOf g c.N r k) W X → IxR X (rOp (gmOf g c.N r k).g.K Z ixD) := fun W X F => by rw [← F.K]; exact ix_ok
    unfold trE1 at h
    split at h
    · -- Name
      rename_i x p
      split at h
      · cases h
      rename_i hn
      simp only [Bool.not_eq_true', Bool.not_eq_false] at hn
      obtain ⟨hd, hcd⟩ := nmOk_1 hn
      split at h
      · rename_i hv
        obtain ⟨i, hi, rfl⟩ := Option.map_eq_some_iff.mp h
        exact snd_val (de_var (idx_ok hi) (isVis_ok hv) hd hcd) (fun _ _ => rfl) rfl
      · split at h
        · rename_i hg
          obtain ⟨d, hd2, rfl⟩ := Option.map_eq_some_iff.mp h
          obtain ⟨v, u, h1, h2, h3⟩ := ok.gls x d hd2
          exact snd_val (de_glob (isGlob_ok hg) h1 h2 hd h3) (fun _ _ => rfl) rfl
        · cases h
    · -- Constant
      rename_i v j p
      obtain ⟨d, hd, rfl⟩ := Option.map_eq_some_iff.mp h
      refine snd_val ?_ (fun _ _ => rfl) rfl
      unfold constE at hd
      split at hd
      · cases hd; exact de_non
      · cases hd; exact de_bl
      · cases hd; exact de_int
      · split at hd
        · rename_i hs
          cases hd; exact de_str hs
        · cases hd
      · cases hd
    · -- BinOp
      split at h
      · rename_i o x y h1 h2 h3
        cases h
        rw [bopE_ok h1]
        exact snd_val (de_bin (S k _ _ h2).1 (S k _ _ h3).1 (opB o)) (fun _ _ => rfl) rfl
      · cases h
    · -- Compare
      split at h
      · cases h
      rename_i hm
      simp only [Bool.not_eq_true] at hm
      split at h
      · rename_i o x y h1 h2 h3
        cases h
        have e := copE_ok h1
        subst e
        exact ⟨de_cmp (S k _ _ h2).1 (S k _ _ h3).1 (opC o) hm, fun _ => dt_cmp (S k _ _ h2).1 (S k _ _ h3).1 (opC o) hm, fun z => nomatch z⟩
      · cases h
    · -- chain
      split at h
      · cases h
      rename_i hm
      simp only [Bool.not_eq_true] at hm
      split at h
      · rename_i o1 o2 x y z h1 h2 h3 h4 h5
        cases h
        have e1 := copE_ok h1
        have e2 := copE_ok h2
        subst e1 e2
        exact ⟨de_chain (S k _ _ h3).1 (S k _ _ h4).1 (S k _ _ h5).1 (opC o1) (opC o2) hm, fun _ => dt_chain (S k _ _ h3).1 (S k _ _ h4).1 (S k _ _ h5).1 (opC o1) (opC o2) hm, fun z => nomatch z⟩
      · cases h
    · -- and
      split at h
      · rename_i ho
        obtain ⟨h1, h2⟩ := trAnd_snd S (pos := _) ho h
        exact ⟨h1, fun _ => dw_dt h2, fun z => nomatch z⟩
      · cases h
    · -- or
      split at h
      · rename_i ho
        obtain ⟨h1, h2⟩ := trOr_snd S (pos := _) ho h
        exact ⟨h1, fun _ => dw_dt h2, fun z => nomatch z⟩
      · cases h
    · -- not
      split at h
      · rename_i ho
        obtain ⟨t', ht, rfl⟩ := Option.map_eq_some_iff.mp h
        exact ⟨de_not (S k _ _ ht).1, fun _ => dt_not ((S k _ _ ht).2.1 ho), fun z => nomatch z⟩
      · cases h
    · -- neg
      obtain ⟨t', ht, rfl⟩ := Option.map_eq_some_iff.mp h
      exact snd_val (de_un (S k _ _ ht).1 (fun W X F => by rw [← F.K]; exact un_ok)) (fun _ _ => rfl) rfl
    · -- IfExp
      split at h
      · rename_i ho
        split at h
        · rename_i x y z h1 h2 h3
          cases h
          exact ⟨de_ite ((S k _ _ h1).2.1 ho) (S k _ _ h2).1 (S k _ _ h3).1, (fun z => by cases z), (fun z => by cases z)⟩
        · cases h
      · cases h
    · -- Tuple
      split at h
      · rename_i hp
        simp only [Bool.and_eq_true, decide_eq_true_eq] at hp
        obtain ⟨ts, hts, rfl⟩ := Option.map_eq_some_iff.mp h
        exact snd_val (de_tup (trL_snd S hp.1 hts) hp.2) (fun _ _ => rfl) rfl
      · cases h
    · -- List
      split at h
      · rename_i hp
        simp only [Bool.and_eq_true, decide_eq_true_eq] at hp
        obtain ⟨ts, hts, rfl⟩ := Option.map_eq_some_iff.mp h
        exact snd_new (dn_lst (trL_snd S hp.1 hts) hp.2) (fun _ _ => rfl)
      · cases h
    · -- slice
      split at h
      · cases h
      rename_i x hx
      split at h
      · cases h
        exact snd_val (de_sl slO (S k _ _ hx).1 do_none do_none) (fun _ _ => rfl) rfl
      · obtain ⟨t', ht, rfl⟩ := Option.map_eq_some_iff.mp h
        exact snd_val (de_sl slO (S k _ _ hx).1 (do_some (S k _ _ ht).1) do_none) (fun _ _ => rfl) rfl
      · obtain ⟨t', ht, rfl⟩ := Option.map_eq_some_iff.mp h
        exact snd_val (de_sl slO (S k _ _ hx).1 do_none (do_some (S k _ _ ht).1)) (fun _ _ => rfl) rfl
      · split at h
        · rename_i y z h1 h2
          cases h
          exact snd_val (de_sl slO (S k _ _ hx).1 (do_some (S k _ _ h1).1) (do_some (S k _ _ h2).1)) (fun _ _ => rfl) rfl
        · cases h
    · -- rev
      obtain ⟨t', ht, rfl⟩ := Option.map_eq_some_iff.mp h
      exact snd_val (de_rev (S k _ _ ht).1) (fun _ _ => rfl) rfl
    · -- index
      split at h
      · rename_i hp
        split at h
        · rename_i y z h1 h2
          cases h
          exact snd_val (de_ix ixO (S k _ _ h1).1 (S k _ _ h2).1 hp) (fun _ _ => rfl) rfl
        · cases h
      · cases h
    · -- call
      exact snd_val (trCall_snd ok S SL h) (fun _ _ => rfl) rfl
    · -- method
      split at h
      · cases h
      rename_i hc
      simp only [Bool.not_eq_true', Bool.not_eq_false, Bool.and_eq_true, decide_eq_true_eq] at hc
      split at h
      · split at h
        · rename_i hm
          subst hm
          split at h
          · rename_i hp
            split at h
            · rename_i y z h1 h2
              cases h
              exact snd_val (de_join (S k _ _ h1).1 (S k _ _ h2).1 hp (super_ok hc.1) (by simp [hc.2])) (fun _ _ => rfl) rfl
            · cases h
          · cases h
        · cases h
      · split at h
        · rename_i hm
          subst hm
          obtain ⟨t', ht, rfl⟩ := Option.map_eq_some_iff.mp h
          exact snd_val (de_upper (S k _ _ ht).1 (super_ok hc.1) (by simp [hc.2])) (fun _ _ => rfl) rfl
        · cases h
      · cases h
    · -- comprehension
      split at h
      · cases h
      rename_i hc
      simp only [Bool.not_eq_true', Bool.not_eq_false, Bool.and_eq_true] at hc
      split at h
      · rename_i ti gt tc te h1 h2 h3 h4
        split at h
        · rename_i hs
          cases h
          refine snd_new ?_ (fun _ _ => rfl)
          exact dn_lc (γ := gmOf g c.N r k) (trI_snd ok S h1) (blkOk_ok hc.1) (trG_snd (k := ⟨relS _ k.sc, some _⟩) h2) (fun j hj => by simpa using List.all_eq_true.mp hs j hj) (trIf_snd (k := ⟨relS _ k.sc, some _⟩) S h3) (S _ _ _ h4).1 hc.2
        · cases h
      · cases h
    · -- never reached
      cases h
      exact snd_val (de_bad _) (fun _ _ => rfl) rfl
    · cases h
theorem trE_snd (ok : CfgOk Z Φ g r c) (n : Nat) : Snd Z Φ g c.N r (trE n c) := trE_snd' n ok
end
end PL

/-! PLu: stores of several names; locks about tests. -/
namespace PL
open PySem
open PySem.Spec
open PyProof.Rows
open L2
def notLoc (sc : Scope) : Expr → Bool
  | .Name x _ => !(sc.names.lookup x == some .local)
  | _ => true
/-- a pair of values that is stored as any value is -/
def swNone (sc : Scope) (ts vs : List Expr) : Bool := vs.all (foldedForSure 8) || ts.any (notLoc sc) || !(ts.length == 2 || ts.length == 3)
theorem locNames_len {sc : Scope} {l : Nat} {env : PySem.Env} (he : env.scope = sc) : ∀ {ts : List Expr}, ts.any (notLoc sc) = true → (ts.filterMap fun | .Name id pos => if env.kindOf id == some .local && pos.line == l then some id else none | _ => none).length < ts.length
  | [], h => by simp at h
  | t :: ts, h => by
    have le : ∀ us : List Expr, (us.filterMap fun | .Name id pos => if env.kindOf id == some .local && pos.line == l then some id else none | _ => none).length ≤ us.length := fun us => List.length_filterMap_le _ _
    simp only [List.any_cons, Bool.or_eq_true] at h
    rw [List.filterMap_cons]
    rcases h with h | h
    · split
      · exact Nat.lt_succ_of_le (le ts)
      · rename_i b hb
        exfalso
        cases t with
        | Name x p =>
          have e : env.kindOf x = sc.names.lookup x := by rw [← he]; rfl
          simp only [notLoc, Bool.not_eq_true'] at h
          simp only [e, h, Bool.false_and] at hb
          cases hb
        | _ => cases hb
    · have ih := locNames_len (l := l) he h
      split
      · exact Nat.lt_succ_of_lt ih
      · rw [List.length_cons, List.length_cons]
        exact Nat.succ_lt_succ ih
theorem sws_none {sc : Scope} {ts vs : List Expr} {kt k2 : Nat} {pt p2 : Pos} (h : swNone sc ts vs = true) (env : PySem.Env) (he : env.scope = sc) : swappedStores [.Tuple ts kt pt] (.Tuple vs k2 p2) env = pure none := by
  unfold swappedStores
  simp only
  split
  · rfl
  rename_i h1
  split
  · rfl
  split
  · rfl
  rename_i h3
  split
  · rfl
  rename_i h4
  unfold swNone at h
  simp only [Bool.or_eq_true] at h
  rcases h with (h | h) | h
  · exact absurd h h4
  · exfalso
    have q := locNames_len (l := (ts.head?.map (·.pos.line)).getD 0) he h
    apply h3
    rw [Bool.or_eq_true]
    exact .inl (bne_iff_ne.mpr (Nat.ne_of_lt q))
  · exfalso
    apply h1
    rw [h]
    rfl
theorem sws_two {sc : Scope} {x y : Str} {px py pt p2 : Pos} {kt k2 : Nat} {a b : Expr} (hk : sc.kind = .function) (hx : sc.names.lookup x = some .local) (hy : sc.names.lookup y = some .local) (hl : (py.line == px.line) = true) (hne : x ≠ y) (hp : [a, b].all plain = true) (hf : [a, b].all (foldedForSure 8) = false) (hc : [a, b].all (constantsAlone 8) = false)
    (env : PySem.Env) (he : env.scope = sc) : swappedStores [.Tuple [.Name x px, .Name y py] kt pt] (.Tuple [a, b] k2 p2) env = pure (some [x, y]) := by
  have kx : env.kindOf x = some .local := by show env.scope.names.lookup x = _; rw [he]; exact hx
  have ky : env.kindOf y = some .local := by show env.scope.names.lookup y = _; rw [he]; exact hy
  have hb : env.blockKind = .function := by unfold Env.blockKind; rw [he, hk]; rfl
  have st : ∀ e : Expr, plain e = true → (match e with | .Starred .. => true | _ => false) = false := fun e h => by
    cases e <;> first | rfl | (simp [plain] at h)
  have hs : ([a, b].any fun | .Starred .. => true | _ => false) = false := by
    simp only [List.all_cons, List.all_nil, Bool.and_true, Bool.and_eq_true] at hp
    simp only [List.any_cons, List.any_nil, Bool.or_false]
    rw [Bool.or_eq_false_iff]
    exact ⟨st a hp.1, st b hp.2⟩
  have hn : ([Expr.Name x px, Expr.Name y py].filterMap fun | .Name id pos => if env.kindOf id == some .local && pos.line == px.line then some id else none | _ => none) = [x, y] := by
    have hl' : py.line = px.line := by simpa using hl
    simp [List.filterMap_cons, kx, ky, hl']
  have hd : [x, y].eraseDups = [x, y] := by
    have h1 : ¬ y = x := fun e => hne e.symm
    simp [List.eraseDups_cons, h1]
  unfold swappedStores
  simp only [List.length_cons, List.length_nil, List.head?_cons, Option.map_some, Option.getD_some, Expr.pos, hb]
  refine (if_neg (by decide)).trans ?_
  refine (if_neg (fun h => ?_)).trans ?_
  · exact absurd (hs.symm.trans h) (by decide)
  refine (if_neg (fun h => ?_)).trans ?_
  · rw [Bool.or_eq_true] at h
    have e1 : ∀ l : List Str, l = [x, y] → ¬ ((l.length != 0 + 1 + 1) = true) := fun l e => by rw [e]; simp
    have e2 : ∀ l : List Str, l = [x, y] → ¬ ((l.eraseDups.length != l.length) = true) := fun l e => by rw [e, hd]; simp
    rcases h with h | h
    · exact e1 _ hn h
    · exact e2 _ hn h
  refine (if_neg (by rw [hf]; decide)).trans ?_
  refine (if_neg (by rw [hc]; decide)).trans ?_
  exact congrArg (fun l => pure (some l)) hn
theorem sws_three {sc : Scope} {x y z : Str} {px py pz pt p2 : Pos} {kt k2 : Nat} {a b c : Expr} (hk : sc.kind = .function) (hx : sc.names.lookup x = some .local) (hy : sc.names.lookup y = some .local) (hz : sc.names.lookup z = some .local) (hl : (py.line == px.line) = true) (hl2 : (pz.line == px.line) = true) (hne : x ≠ y) (hne2 : x ≠ z) (hne3 : y ≠ z) (hp : [a, b, c].all plain = true) (hf : [a, b, c].all (foldedForSure 8) = false) (hc : [a, b, c].all (constantsAlone 8) = false)
    (env : PySem.Env) (he : env.scope = sc) : swappedStores [.Tuple [.Name x px, .Name y py, .Name z pz] kt pt] (.Tuple [a, b, c] k2 p2) env = pure (some [x, y, z]) := by
  have kx : env.kindOf x = some .local := by show env.scope.names.lookup x = _; rw [he]; exact hx
  have ky : env.kindOf y = some .local := by show env.scope.names.lookup y = _; rw [he]; exact hy
  have kz : env.kindOf z = some .local := by show env.scope.names.lookup z = _; rw [he]; exact hz
  have hb : env.blockKind = .function := by unfold Env.blockKind; rw [he, hk]; rfl
  have st : ∀ e : Expr, plain e = true → (match e with | .Starred .. => true | _ => false) = false := fun e h => by
    cases e <;> first | rfl | (simp [plain] at h)
  have hs : ([a, b, c].any fun | .Starred .. => true | _ => false) = false := by
    simp only [List.all_cons, List.all_nil, Bool.and_true, Bool.and_eq_true] at hp
    simp only [List.any_cons, List.any_nil, Bool.or_false]
    rw [Bool.or_eq_false_iff, Bool.or_eq_false_iff]
    exact ⟨st a hp.1, st b hp.2.1, st c hp.2.2⟩
  have hn : ([Expr.Name x px, Expr.Name y py, Expr.Name z pz].filterMap fun | .Name id pos => if env.kindOf id == some .local && pos.line == px.line then some id else none | _ => none) = [x, y, z] := by
    have hl' : py.line = px.line := by simpa using hl
    have hl2' : pz.line = px.line := by simpa using hl2
    simp [List.filterMap_cons, kx, ky, kz, hl', hl2']
  have hd : [x, y, z].eraseDups = [x, y, z] := by
    have h1 : ¬ y = x := fun e => hne e.symm
    have h2 : ¬ z = x := fun e => hne2 e.symm
    have h3 : ¬ z = y := fun e => hne3 e.symm
    simp [List.eraseDups_cons, h1, h2, h3]
  unfold swappedStores
  simp only [List.length_cons, List.length_nil, List.head?_cons, Option.map_some, Option.getD_some, Expr.pos, hb]
  refine (if_neg (by decide)).trans ?_
  refine (if_neg (fun h => ?_)).trans ?_
  · exact absurd (hs.symm.trans h) (by decide)
  refine (if_neg (fun h => ?_)).trans ?_
  · rw [Bool.or_eq_true] at h
    have e1 : ∀ l : List Str, l = [x, y, z] → ¬ ((l.length != 0 + 1 + 1 + 1) = true) := fun l e => by rw [e]; simp
    have e2 : ∀ l : List Str, l = [x, y, z] → ¬ ((l.eraseDups.length != l.length) = true) := fun l e => by rw [e, hd]; simp
    rcases h with h | h
    · exact e1 _ hn h
    · exact e2 _ hn h
  refine (if_neg (by rw [hf]; decide)).trans ?_
  refine (if_neg (by rw [hc]; decide)).trans ?_
  exact congrArg (fun l => pure (some l)) hn
/-! ### an own list locked about a test -/
theorem pt_lock {X : Cx} {e : Expr} {t : TT} (h : PT X e t) : PT X e (fun σ H Q => ∃ d u, H d = some u ∧ Mut (some u) ∧ ∀ od, t σ (upd H d (.frz od u)) fun b H' => H' d = some (.frz od u) ∧ Q b (upd H' d u)) := by
  refine ⟨fun pins s σ H Q I hw => ?_⟩
  obtain ⟨d, u, hd, mu, hw⟩ := hw
  obtain ⟨od, I1⟩ := I.lock hd mu
  refine thn (h.run pins s σ _ _ I1 (hw od)) fun b s1 ⟨H1, I2, e2, q⟩ => ?_
  exact ⟨_, I2.unlock e2 (I.nofrz hd mu), q⟩
def lkB (i : Nat) (t : Nv → M Bool) (ρ : Nv) : M Bool := match ρ[i]? with
  | some (.own xs) => noE (t (ρ.set i (.val (.lst xs))))
  | some (.val _) => t ρ
  | _ => fail
section
variable {Z : Zone} {γ : Gm} {e : Expr} {i : Nat}
theorem pt_either {X : Cx} {e : Expr} {t u : TT} (h : PT X e t) (k : PT X e u) : PT X e (fun σ H Q => t σ H Q ∨ u σ H Q) := ⟨fun pins s σ H Q I q => by
  rcases q with q | q
  · exact h.run pins s σ H Q I q
  · exact k.run pins s σ H Q I q⟩
theorem lkB_inv {t : Nv → M Bool} {ρ : Nv} {Q : Bool → Nat → Prop} {E : D → Nat → Prop} (h : lkB i t ρ κ Q E) : (∃ xs, ρ[i]? = some (.own xs) ∧ t (ρ.set i (.val (.lst xs))) κ Q (fun _ _ => False)) ∨ t ρ κ Q E := by
  unfold lkB at h
  cases hi : ρ[i]? with
  | none => rw [hi] at h; exact h.elim
  | some en => cases en with
    | un => rw [hi] at h; exact h.elim
    | val _ => rw [hi] at h; exact .inr h
    | own xs => rw [hi] at h; exact .inl ⟨xs, rfl, h⟩
theorem dt_lk {u : Nv → M Bool} (h : DT Z γ e u) : DT Z γ e (lkB i u) := fun W => by
  obtain ⟨te, pe, rd⟩ := h W
  refine ⟨_, fun X F => pt_either (pt_lock (pe X F)) (pe X F), fun ρ σ H H0 Q E R S q k kx => ?_⟩
  rcases lkB_inv q with ⟨xs, hi, q⟩ | q
  · obtain ⟨p, vs, hp, h0, hl, sr⟩ := S.lockE i xs hi
    have nm : ¬ Z.mu p := mu_not S.ok0 h0
    refine .inl ⟨p, _, hp, trivial, fun od => rd _ σ _ H0 _ (fun _ _ => False) _ (sr od) q (fun b H1 e1 k1 q1 => ?_) (fun _ _ _ _ _ _ _ z => z.elim)⟩
    obtain ⟨g1, g2⟩ := unl_ext S.sm hp e1 nm
    exact ⟨g1, k b _ g2 (ok_upd S.ok0 h0 k1 (ne_extF g1)) q1⟩
  · exact .inr (rd ρ σ H H0 Q E R S q k kx)
theorem lk_truth (t : Nv → M D) (ρ : Nv) : bnd (lk1 i t ρ) truth = lkB i (fun ρ' => bnd (t ρ') truth) ρ := by
  unfold lk1 lkB
  cases hi : ρ[i]? with
  | none => rfl
  | some en => cases en with
    | un => rfl
    | val _ => rfl
    | own xs =>
      funext κ Q E
      show t (ρ.set i (.val (.lst xs))) κ (fun d κ => d.flat = true ∧ truth d κ Q E) (fun _ _ => False) = t (ρ.set i (.val (.lst xs))) κ (fun d κ => truth d κ Q (fun _ _ => False)) (fun _ _ => False)
      congr 1
      funext d κ
      cases d with
      | bl b => exact propext ⟨fun h => h.2, fun h => ⟨rfl, h⟩⟩
      | _ => exact propext ⟨fun h => h.2.elim, fun h => h.elim⟩
end
def wrapLk (nw : Bool) : List Nat → T → T
  | [], t => t
  | i :: is, t => if nw then .lk2 i (wrapLk nw is t) else .lk i (wrapLk nw is t)
theorem isNew_true {e : Expr} (h : isNew e = true) (env : PySem.Env) (whole : Sem Value) : isTrue e env whole = (do let v ← whole; standAt e.pos; holding [v] (truthy v)) := by
  cases e <;> first | rfl | (simp [isNew] at h)
theorem wrap_snd {Z : Zone} {Φ : Fns} {g : GE} {r : Rm} {N : List Str} {k : Ct} {e : Expr} {t : T} (h : SndE Z Φ g N r k e t) : ∀ is : List Nat, SndE Z Φ g N r k e (wrapLk (isNew e) is t)
  | [] => h
  | i :: is => by
    obtain ⟨h1, h2, h3⟩ := wrap_snd h is
    unfold wrapLk
    cases hn : isNew e with
    | true =>
      rw [hn] at h1 h2 h3
      rw [if_pos rfl]
      have q : DN Z (gmOf g N r k) e (sem Φ (.lk2 i (wrapLk true is t))) := by
        have z := dn_lk (i := i) (h3 rfl)
        have e2 : sem Φ (.lk2 i (wrapLk true is t)) = lk2 i (sem Φ (wrapLk true is t)) := by
          funext ρ
          rw [sem]
        rw [e2]
        exact z
      exact ⟨dn_de q, fun _ => dt_val (dn_de q) (isNew_true hn), fun _ => q⟩
    | false =>
      rw [hn] at h1 h2 h3
      rw [if_neg Bool.false_ne_true]
      have e2 : sem Φ (.lk i (wrapLk false is t)) = lk1 i (sem Φ (wrapLk false is t)) := by
        funext ρ
        rw [sem]
      refine ⟨by rw [e2]; exact de_lk h1, fun ho => ?_, fun z => by rw [hn] at z; cases z⟩
      have e3 : (fun ρ => bnd (sem Φ (.lk i (wrapLk false is t)) ρ) truth) = lkB i (fun ρ' => bnd (sem Φ (wrapLk false is t) ρ') truth) := by
        funext ρ
        rw [e2]
        exact lk_truth _ ρ
      rw [e3]
      exact dt_lk (h2 ho)
end PL

/-! PLv: the translation of statements, sound. -/
namespace PL
open PySem
open PySem.Spec
open PyProof.Rows
open L2
def isLc : Expr → Bool
  | .ListComp _ _ _ _ => true
  | _ => false
def at0 (l : List (Nat × List Nat)) (n : Nat) : List Nat := (l.lookup n).getD []
/-- an expression of a statement -/
def trX (fe : Ct → Expr → Option T) (c : Cfg) (k : Ct) (l : Nat) (e : Expr) : Option T := (fe k e).map (wrapLk (isNew e) (at0 c.lks l))
/-- a comprehension stored into a local name on one line -/
def lcHere (k : Ct) (y : Str) (py : Pos) (e : Expr) : Bool := match e with
  | .ListComp _ _ scope p => (k.sc.names.lookup y == some .local) && (py.line == p.line) && !(scope.names.any fun (n, q) => n == y && (q == .local || q == .cell))
  | _ => false
def lcElse (k : Ct) (y : Str) (py : Pos) (e : Expr) : Bool := match e with
  | .ListComp _ _ _ p => (k.sc.names.lookup y == some .cell) || !(py.line == p.line)
  | e => noComp e
def fnKind (k : Ct) : Bool := k.sc.kind == .function
def trAsg (n : Nat) (fe : Ct → Expr → Option T) (c : Cfg) (k : Ct) (tg e : Expr) (pos : Pos) : Option S := match tg with
  | .Name x py => if !storeOk k x then none else match idx c.N x with
    | none => none
    | some i => if lcHere k x py e then (if fnKind k && (at0 c.lks pos.line).isEmpty then (fe k e).map (if c.own.contains i then .own i else .set i) else none) else
      if !lcElse k x py e then none else match trX fe c k pos.line e with
      | none => none
      | some t => if c.own.contains i then (if isNew e then some (.own i t) else none) else some (.set i t)
  | .Tuple ts _ _ => match trG n c k tg, trX fe c k pos.line e with
    | some g, some t => if noTup e then some (.asg g t) else match e with
      | .Tuple vs _ _ => if swNone k.sc ts vs then some (.asg g t) else if !(at0 c.lks pos.line).isEmpty then none else match ts, vs with
        | [.Name x px, .Name y py], [a, b] => if fnKind k && (k.sc.names.lookup x == some .local) && (k.sc.names.lookup y == some .local) && (py.line == px.line) && !(decide (x = y)) && [a, b].all plain && !([a, b].all (foldedForSure 8)) && !([a, b].all (constantsAlone 8)) then
            (match idx c.N x, idx c.N y with
            | some i, some j => if i = j then none else if c.own.contains i || c.own.contains j then (if (!(c.own.contains i) || isNew a) && (!(c.own.contains j) || isNew b) then (match fe k a, fe k b with
                | some t, some u => some (.two (c.own.contains i) (c.own.contains j) i j t u)
                | _, _ => none) else none) else (trL (fe k) [a, b]).map fun us => .asg (.tp [.nm i, .nm j]) (.tup us)
            | _, _ => none) else none
        | [.Name x px, .Name y py, .Name z pz], [a, b, d] => if fnKind k && (k.sc.names.lookup x == some .local) && (k.sc.names.lookup y == some .local) && (k.sc.names.lookup z == some .local) && (py.line == px.line) && (pz.line == px.line) && !(decide (x = y)) && !(decide (x = z)) && !(decide (y = z)) && [a, b, d].all plain && !([a, b, d].all (foldedForSure 8)) && !([a, b, d].all (constantsAlone 8)) then
            (match idx c.N x, idx c.N y, idx c.N z with
            | some i, some j, some l => if i = j ∨ i = l ∨ j = l then none else (trL (fe k) [a, b, d]).map fun us => .asg (.tp [.nm i, .nm j, .nm l]) (.tup us)
            | _, _, _ => none) else none
        | _, _ => none
      | _ => none
    | _, _ => none
  | _ => none
def trMut (fe : Ct → Expr → Option T) (c : Cfg) (k : Ct) (x m : Str) (ap pos : Pos) (a : Expr) : Option S :=
  if !(isVis k.sc x && nmOk x && plain a && decide (ap.endLine = pos.line)) then none else match idx c.N x, fe k a with
  | some i, some t => if m = ("append" : Str) then some (.app i t) else if m = ("extend" : Str) then some (.ext i t) else none
  | _, _ => none
def trS1 (n : Nat) (fe : Ct → Expr → Option T) (fb : List Stmt → Option (List S)) (c : Cfg) (k : Ct) (st : Stmt) : Option S := match st with
  | .Expr (.Constant (.str _) _ _) _ => some .pass
  | .Expr (.Call (.Attribute (.Name x _) m ap) [a] [] pos) _ => if m = ("append" : Str) ∨ m = ("extend" : Str) then trMut fe c k x m ap pos a else none
  | .Expr e pos => if noComp e then (trX fe c k pos.line e).map .ex else none
  | .Pass _ => some .pass
  | .Break _ => some .brk
  | .Continue _ => some .cnt
  | .Return none _ => some .retN
  | .Return (some e) pos => (trX fe c k pos.line e).map .ret
  | .Assign [tg] e pos => trAsg n fe c k tg e pos
  | .If q a b pos => if testOk q then (match trX fe c k pos.line q, fb a, fb b with
    | some t, some u, some v => some (.cond t u v)
    | _, _, _ => none) else none
  | .For tg it b [] _ => if k.blk.isNone && foldOk it then (match trI fe c k tg it, trG n c k tg, fb b with
    | some i, some g, some u => some (.loop g i u)
    | _, _, _ => none) else none
  | .While q b [] pos => if k.blk.isNone && testOk q then (match trX fe c k pos.line q, fb b with
    | some t, some u => some (.whl t u)
    | _, _ => none) else none
  | .Raise (some (.Call (.Name x _) [.Constant (.str _) _ _] [] _)) none _ => if isGlob k.sc x && nmOk x && c.exs.contains x then some (.raise x) else none
  | _ => none
def stLine : Stmt → Nat
  | .Expr _ p | .Return _ p | .Assign _ _ p | .If _ _ _ p | .For _ _ _ _ p | .While _ _ _ p | .Raise _ _ p => p.line
  | _ => 0
def addFrz : List Nat → List S → List S
  | [], ss => ss
  | i :: is, ss => .frz i :: addFrz is ss
def trS2 (n : Nat) (fe : Ct → Expr → Option T) (fb : List Stmt → Option (List S)) (c : Cfg) (k : Ct) (st : Stmt) : Option S := match trHookS fe c k st with
  | some s => some s
  | none => match trTry c k st with
    | some s => some s
    | none => trS1 n fe fb c k st
def trB : Nat → Cfg → Ct → List Stmt → Option (List S)
  | 0, _, _, _ => none
  | _ + 1, _, _, [] => some []
  | n + 1, c, k, st :: rest => match trS2 n (trE n c) (trB n c k) c k st, trB n c k rest with
    | some s, some ss => some (addFrz (at0 c.fz (stLine st)) (s :: ss))
    | _, _ => none
theorem sw_tup (e : Expr) (ts : List Expr) (kt : Nat) (p : Pos) (l : Nat) (env : PySem.Env) : swapsWith e (some (.Tuple ts kt p)) l env = pure false := by
  unfold swapsWith
  cases e <;> rfl
section
variable {Z : Zone} {Φ : Fns} {g : GE} {r : Rm} {c : Cfg} {k : Ct} {fe : Ct → Expr → Option T} {e : Expr} {t : T} {pos : Pos}
theorem trX_snd (S : Snd Z Φ g c.N r fe) {l : Nat} (h : trX fe c k l e = some t) : SndE Z Φ g c.N r k e t := by
  obtain ⟨u, hu, rfl⟩ := Option.map_eq_some_iff.mp h
  exact wrap_snd (S k e u hu) _
theorem lcElse_no {y : Str} {py : Pos} (h : isLc e = false) : lcElse k y py e = noComp e := by
  cases e <;> first | rfl | (simp [isLc] at h)
theorem lcElse_ok {y : Str} {py : Pos} {l : Nat} (h : lcElse k y py e = true) (env : PySem.Env) (he : env.scope = k.sc) : swapsWith e (some (.Name y py)) l env = pure false := by
  cases hl : isLc e with
  | false =>
    rw [lcElse_no hl] at h
    exact sw_no h _ _ _
  | true =>
    cases e with
    | ListComp a b s p =>
      simp only [lcElse, Bool.or_eq_true, Bool.not_eq_true'] at h
      refine sw_cell ?_
      rw [he]
      rcases h with h | h
      · exact .inl (by simpa using h)
      · exact .inr h
    | _ => simp [isLc] at hl
/-- what a comprehension's translation is made of -/
theorem lc_parts {n : Nat} (ok : CfgOk Z Φ g r c) (h : trE n c k e = some t) (hl : isLc e = true) : ∃ elt tg it ifs scope p ti gt tc te, e = .ListComp elt [⟨tg, it, ifs, 0⟩] scope p ∧ t = .comp ((ownOf c.N scope.names).map (·.2)) gt ti tc te ∧
    DI Z (gmOf g c.N r k) tg it (semI Φ ti) ∧ BlkOk c.N k.sc scope (ownOf c.N scope.names) ∧ DG Z (blkG (gmOf g c.N r k) scope) tg gt ∧ (∀ j ∈ gt.ix, j ∈ (ownOf c.N scope.names).map (·.2)) ∧ DTs Z (blkG (gmOf g c.N r k) scope) ifs (fun ρ => bnd (sem Φ tc ρ) truth) ∧ DE Z (blkG (gmOf g c.N r k) scope) elt (sem Φ te) ∧ foldOk it = true := by
  cases n with
  | zero => simp [trE] at h
  | succ n =>
    have S := trE_snd (Z := Z) (Φ := Φ) (g := g) (r := r) ok n
    rw [trE] at h
    have hno : trHook c k e = none := by
      cases e <;> first | rfl | (simp [isLc] at hl)
    rw [hno] at h
    simp only at h
    generalize trE n c.inL = fl at h
    generalize trE n c = f at S h
    unfold trE1 at h
    split at h <;> first | (simp [isLc] at hl; done) | skip
    · split at h
      · cases h
      rename_i hc
      simp only [Bool.not_eq_true', Bool.not_eq_false, Bool.and_eq_true] at hc
      split at h
      · rename_i h1 h2 h3 h4
        split at h
        · rename_i hs
          cases h
          exact ⟨_, _, _, _, _, _, _, _, _, _, rfl, rfl, trI_snd ok S h1, blkOk_ok hc.1, trG_snd (k := ⟨relS _ k.sc, some _⟩) h2, fun j hj => by simpa using List.all_eq_true.mp hs j hj, trIf_snd (k := ⟨relS _ k.sc, some _⟩) S h3, (S _ _ _ h4).1, hc.2⟩
        · cases h
      · cases h
    · cases h
theorem loc_of {sc : Scope} {x : Str} (h : (sc.names.lookup x == some .local) = true) : sc.names.lookup x = some .local := by simpa using h
theorem trAsg_snd {n m : Nat} (ok : CfgOk Z Φ g r c) {tg : Expr} {s : S} (h : trAsg m (trE n c) c k tg e pos = some s) : DS Z (gmOf g c.N r k) (.Assign [tg] e pos) (semS Φ s) := by
  have S := trE_snd (Z := Z) (Φ := Φ) (g := g) (r := r) ok n
  unfold trAsg at h
  split at h
  · rename_i x py
    split at h
    · cases h
    rename_i hs
    simp only [Bool.not_eq_true', Bool.not_eq_false] at hs
    split at h
    · cases h
    rename_i i hi
    split at h
    · rename_i hh
      split at h
      · rename_i hk
        simp only [Bool.and_eq_true] at hk
        obtain ⟨t, ht, rfl⟩ := Option.map_eq_some_iff.mp h
        have hl : isLc e = true := by
          cases e <;> first | rfl | (simp [lcHere] at hh)
        obtain ⟨elt, tg, it, ifs, scope, p, ti, gt, tc, te, rfl, rfl, h1, h2, h3, h4, h5, h6, h7⟩ := lc_parts ok ht hl
        simp only [lcHere, Bool.and_eq_true, Bool.not_eq_true'] at hh
        obtain ⟨⟨hy, hln⟩, ha⟩ := hh
        have hy' : k.sc.names.lookup x = some .local := by simpa using hy
        have hk' : k.sc.kind = .function := by simpa [fnKind] using hk.1
        split
        · exact ds_ownLc (γ := gmOf g c.N r k) (idx_ok hi) hy' hk' hln ha h1 h2 h3 h4 h5 h6 h7
        · exact ds_setLc (γ := gmOf g c.N r k) (idx_ok hi) hy' hk' hln ha h1 h2 h3 h4 h5 h6 h7
      · cases h
    · split at h
      · cases h
      rename_i he
      simp only [Bool.not_eq_true', Bool.not_eq_false] at he
      split at h
      · cases h
      rename_i t ht
      obtain ⟨g1, g2, g3⟩ := trX_snd S ht
      split at h
      · split at h
        · rename_i hn
          cases h
          exact ds_own (γ := gmOf g c.N r k) (idx_ok hi) (storeOk_ok hs) (g3 hn) fun env hE => lcElse_ok he env hE
        · cases h
      · cases h
        exact ds_set (γ := gmOf g c.N r k) (idx_ok hi) (storeOk_ok hs) g1 fun env hE => lcElse_ok he env hE
  · rename_i ts kt pt
    split at h
    · rename_i gt t hg ht
      obtain ⟨g1, g2, g3⟩ := trX_snd S ht
      have G := trG_snd (g := g) (r := r) (Z := Z) hg
      split at h
      · rename_i hx
        cases h
        exact ds_asg (γ := gmOf g c.N r k) g1 G rfl (fun env _ => sw_tup _ _ _ _ _ _) fun env _ => sws_val hx _ env
      · split at h
        · rename_i vs k2 p2 _ _
          split at h
          · rename_i hw
            cases h
            exact ds_asg (γ := gmOf g c.N r k) g1 G rfl (fun env _ => sw_tup _ _ _ _ _ _) fun env hE => sws_none hw env hE
          · split at h
            · cases h
            split at h
            · split at h
              · rename_i hc
                simp only [Bool.and_eq_true, Bool.not_eq_true'] at hc
                obtain ⟨⟨⟨⟨⟨⟨⟨hk, hx⟩, hy⟩, hl⟩, hne⟩, hp⟩, hf⟩, hcc⟩ := hc
                have hk' : k.sc.kind = .function := by simpa [fnKind] using hk
                split at h
                · rename_i i j hi hj
                  split at h
                  · cases h
                  rename_i hij
                  split at h
                  · split at h
                    · rename_i ho
                      simp only [Bool.and_eq_true, Bool.or_eq_true, Bool.not_eq_true'] at ho
                      split at h
                      · rename_i t u ht hu
                        cases h
                        have dx : ∀ {o : Bool} {e : Expr} {t : T}, (o = false ∨ isNew e = true) → trE n c k e = some t → DX o Z (gmOf g c.N r k) e (sem Φ t) := fun {o e t} ho he => by
                          cases o with
                          | true => exact (S k e t he).2.2 (ho.resolve_left (by decide))
                          | false => exact (S k e t he).1
                        have hp' := hp
                        simp only [List.all_cons, List.all_nil, Bool.and_true, Bool.and_eq_true] at hp'
                        exact ds_parO (γ := gmOf g c.N r k) (idx_ok hi) (idx_ok hj) hij (loc_of hx) (loc_of hy) (dx ho.1 ht) (dx ho.2 hu) hp'.1 hp'.2 fun env hE => sws_two hk' (loc_of hx) (loc_of hy) hl (by simpa using hne) hp hf hcc env hE
                      · cases h
                    · cases h
                  · obtain ⟨us, hu, rfl⟩ := Option.map_eq_some_iff.mp h
                    exact ds_par (γ := gmOf g c.N r k) (idx_ok hi) (idx_ok hj) hij (loc_of hx) (loc_of hy) (trL_snd S hp hu) fun env hE => sws_two hk' (loc_of hx) (loc_of hy) hl (by simpa using hne) hp hf hcc env hE
                · cases h
              · cases h
            · split at h
              · rename_i hc
                simp only [Bool.and_eq_true, Bool.not_eq_true'] at hc
                obtain ⟨⟨⟨⟨⟨⟨⟨⟨⟨⟨⟨hk, hx⟩, hy⟩, hz⟩, hl⟩, hl2⟩, hne⟩, hne2⟩, hne3⟩, hp⟩, hf⟩, hcc⟩ := hc
                have hk' : k.sc.kind = .function := by simpa [fnKind] using hk
                split at h
                · rename_i i j l hi hj hl3
                  split at h
                  · cases h
                  rename_i hij
                  simp only [not_or] at hij
                  obtain ⟨us, hu, rfl⟩ := Option.map_eq_some_iff.mp h
                  exact ds_par3 (γ := gmOf g c.N r k) (idx_ok hi) (idx_ok hj) (idx_ok hl3) hij.1 hij.2.1 hij.2.2 (loc_of hx) (loc_of hy) (loc_of hz) (trL_snd S hp hu) fun env hE => sws_three hk' (loc_of hx) (loc_of hy) (loc_of hz) hl hl2 (by simpa using hne) (by simpa using hne2) (by simpa using hne3) hp hf hcc env hE
                · cases h
              · cases h
            · cases h
        · cases h
    · cases h
  · cases h
theorem trMut_snd (Sn : Snd Z Φ g c.N r fe) {x m : Str} {p ap : Pos} {a : Expr} {s : S} {p2 : Pos} (h : trMut fe c k x m ap pos a = some s) : DS Z (gmOf g c.N r k) (.Expr (.Call (.Attribute (.Name x p) m ap) [a] [] pos) p2) (semS Φ s) := by
  unfold trMut at h
  split at h
  · cases h
  rename_i hc
  simp only [Bool.not_eq_true', Bool.not_eq_false, Bool.and_eq_true, decide_eq_true_eq] at hc
  obtain ⟨⟨⟨hv, hn⟩, hp⟩, hl⟩ := hc
  obtain ⟨hd, hcd⟩ := nmOk_1 hn
  split at h
  · rename_i i t hi ht
    split at h
    · rename_i hm
      subst hm
      cases h
      exact ds_app (γ := gmOf g c.N r k) (idx_ok hi) (isVis_ok hv) hd hcd (Sn k a t ht).1 hp (by simp [hl]) p2
    · split at h
      · rename_i hm
        subst hm
        cases h
        exact ds_ext (γ := gmOf g c.N r k) (idx_ok hi) (isVis_ok hv) hd hcd (Sn k a t ht).1 hp (by simp [hl]) p2
      · cases h
  · cases h
theorem trS1_snd {n m : Nat} (ok : CfgOk Z Φ g r c) {fb : List Stmt → Option (List S)} (B : ∀ b ss, fb b = some ss → DSs Z (gmOf g c.N r k) b (semB Φ ss)) {st : Stmt} {s : S} (h : trS1 m (trE n c) fb c k st = some s) : DS Z (gmOf g c.N r k) st (semS Φ s) := by
  have S := trE_snd (Z := Z) (Φ := Φ) (g := g) (r := r) ok n
  unfold trS1 at h
  split at h
  · cases h
    exact ds_doc
  · split at h
    · exact trMut_snd S h
    · cases h
  · split at h
    · rename_i hn
      obtain ⟨t, ht, rfl⟩ := Option.map_eq_some_iff.mp h
      exact ds_expr (trX_snd S ht).1 hn
    · cases h
  · cases h
    exact ds_pass
  · cases h
    exact ds_brk
  · cases h
    exact ds_cnt
  · cases h
    exact ds_retN
  · obtain ⟨t, ht, rfl⟩ := Option.map_eq_some_iff.mp h
    exact ds_ret (trX_snd S ht).1
  · exact trAsg_snd ok h
  · split at h
    · rename_i ho
      split at h
      · rename_i t u v h1 h2 h3
        cases h
        exact ds_if ((trX_snd S h1).2.1 ho) (B _ _ h2) (B _ _ h3)
      · cases h
    · cases h
  · split at h
    · rename_i hc
      simp only [Bool.and_eq_true] at hc
      split at h
      · rename_i i gt u h1 h2 h3
        cases h
        exact ds_for (γ := gmOf g c.N r k) hc.1 (trI_snd ok S h1) (trG_snd h2) (B _ _ h3) hc.2
      · cases h
    · cases h
  · split at h
    · rename_i hc
      simp only [Bool.and_eq_true] at hc
      split at h
      · rename_i t u h1 h2
        cases h
        exact ds_while (γ := gmOf g c.N r k) hc.1 ((trX_snd S h1).2.1 hc.2) (B _ _ h2)
      · cases h
    · cases h
  · split at h
    · rename_i hc
      simp only [Bool.and_eq_true] at hc
      cases h
      exact ds_raise (γ := gmOf g c.N r k) (ok.exs _ (by simpa using hc.2)) (isGlob_ok hc.1.1) (nmOk_1 hc.1.2).1
    · cases h
  · cases h
theorem trS2_snd {n m : Nat} (ok : CfgOk Z Φ g r c) {fb : List Stmt → Option (List S)} (B : ∀ b ss, fb b = some ss → DSs Z (gmOf g c.N r k) b (semB Φ ss)) {st : Stmt} {s : S} (h : trS2 m (trE n c) fb c k st = some s) : DS Z (gmOf g c.N r k) st (semS Φ s) := by
  unfold trS2 at h
  split at h
  · rename_i s' hs
    cases h
    exact ok.hkS _ k st s (fun e t he => (trE_snd (Z := Z) (Φ := Φ) (g := g) (r := r) ok n k e t he).1) hs
  · split at h
    · rename_i s' hs
      cases h
      exact ok.tr k st s hs
    · exact trS1_snd ok B h
theorem addFrz_snd {sts : List Stmt} {ss : List S} {γ : Gm} (h : DSs Z γ sts (semB Φ ss)) : ∀ is : List Nat, DSs Z γ sts (semB Φ (addFrz is ss))
  | [] => h
  | i :: is => dss_frz (addFrz_snd h is)
theorem trB_snd (ok : CfgOk Z Φ g r c) : ∀ {n : Nat} {sts : List Stmt} {ss : List S}, trB n c k sts = some ss → DSs Z (gmOf g c.N r k) sts (semB Φ ss)
  | 0, _, _, h => by simp [trB] at h
  | n + 1, [], ss, h => by
    simp only [trB, Option.some.injEq] at h
    subst h
    exact dss_nil
  | n + 1, st :: rest, ss, h => by
    unfold trB at h
    split at h
    · rename_i s ss' h1 h2
      cases h
      exact addFrz_snd (dss_cons (trS2_snd ok (fun b u hb => trB_snd ok hb) h1) (trB_snd ok h2)) _
    · cases h
end
end PL

/-! PLw: a def keeps the meaning of its body. -/
namespace PL
open PySem
open PySem.Spec
open PyProof.Rows
open L2
section
variable {Z : Zone} {Φ : Fns} {g : GE} {r : Rm} {c : Cfg}
theorem sr_start {K : PySem.W.Frag} {N : List Str} {H : Hp} {ds : List D} {vs : List V} (ok : Z.ok κ H) (rl : RepL K Z H ds vs) (hl : ds.length ≤ N.length) : SR K Z κ H (startE N.length ds) (L2.start N vs) H := by
  have lv := rl.length
  refine ⟨⟨_, ok⟩, ok, .refl _ _, ?_, fun i e h => ?_, fun i j xs ys p h1 _ _ _ => ?_⟩
  · unfold startE L2.start
    rw [List.length_append, List.length_append, List.length_map, List.length_map, List.length_replicate, List.length_replicate, lv]
  · unfold startE at h
    unfold L2.start
    by_cases hi : i < ds.length
    · rw [List.getElem?_append_left (by rw [List.length_map]; exact hi), List.getElem?_map, List.getElem?_eq_getElem hi] at h
      cases h
      obtain ⟨v, hv, rv⟩ := rl.get (List.getElem?_eq_getElem hi)
      rw [List.getElem?_append_left (by rw [List.length_map, ← lv]; exact hi), List.getElem?_map, hv]
      exact rv
    · rw [List.getElem?_append_right (by rw [List.length_map]; omega)] at h
      have := List.mem_of_getElem? h
      rw [List.eq_of_mem_replicate this]
      exact trivial
  · exfalso
    unfold startE at h1
    have := List.mem_of_getElem? h1
    rcases List.mem_append.mp this with q | q
    · obtain ⟨d, _, e⟩ := List.mem_map.mp q
      cases e
    · have e := List.eq_of_mem_replicate q
      cases e
theorem run_body {N ps : List Str} {qual : Str} {scope : Scope} {f : Addr} {cdv : Value} {A : Around} {outer : List PySem.Env} {s : Shared} {H : Hp} {body : List Stmt} {ss : List S} {vs : List V} {ds : List D} {n : Nat} {Q0 E0 : D → Nat → Prop} {Q : VK} {E : XK}
    (hrc : r.cd = cdv) (hrq : r.ql = qual ++ ".<locals>.") (FS : FnScope N ps scope) (hN : c.N = N) (ok : CfgOk Z Φ g r c) (hb : trB n c ⟨scope, none⟩ body = some ss) (hg : A.guards = some []) (hr : Room r.k (A.deeper (envOfC qual scope s.heap.objs.size f cdv)))
    (zo : Z.ok κ H) (rl : RepL g.K Z H ds vs) (hl : ds.length ≤ N.length) (sp : run Φ N.length ss ds κ Q0 E0) (an : An g.K Z H Q0 Q) (xn : ∀ {κ : Nat} cls dd H' e, Ext Z H H' → Z.ok κ H' → Z.X H' e cls dd → E0 e κ → E cls dd H') :
    ∃ t, PSs (cxOf (L2.CX g.P g.w) g.P g.w g.K g.mg g.base N qual scope f cdv A outer s H E) body t ∧ t { nx := fun _ H' => Q .non H', rt := Q } (L2.start N vs) H := by
  subst hN
  obtain ⟨ts, ps', rs⟩ := trB_snd ok hb (fun cls d _ H => E cls d H)
  refine ⟨ts, ps' _ ?_, rs (startE c.N.length ds) _ H H _ E0 _ (sr_start zo rl hl) sp ⟨fun ρ σ H' S _ q => ?_, fun d v H' e' k' r' q => ?_, fun ρ σ H' S _ q => ?_, fun ρ σ H' S _ q => ?_⟩ fun cls dd H' e σ x k q w => xn cls dd H' e x k q w⟩
  · exact {
      ge := rfl
      N := rfl
      nd := FS.nd
      sc := rfl
      room := hr
      gu := hg
      calm := rfl
      tk := takes_of rfl rfl rfl rfl
      fb := fun x h => rfl
      top := fun _ => ⟨rfl, rfl, rfl, passes_of rfl⟩
      code := fun _ => ⟨hrc.symm, hrq.symm⟩ }
  · exact an .non .non H' S.ext S.ok .non q
  · exact an v d H' e' k' r' q
  · exact q.elim
  · exact q.elim
/-- a def, by the translation of its body -/
theorem fnC_of {f : Addr} {name qual : Str} {params : Arguments} {body : List Stmt} {scope : Scope} {dV kV doc pm cdv ct oc : Value} {an od : Option Addr} {osl : Array (Option Value)} {N ps : List Str} {ss : List S} {n : Nat} {kb : List (Nat × List Str × List Nat)} {mname : Str} {sp : List D → M D}
    (lk : g.K.lookup f = some ⟨oc, od, .func (PySem.W.fnOf name qual params body scope dV kV doc pm an cdv ct), osl⟩) (hcd : PySem.W.codeIn g.K cdv qual = true) (FS : FnScope N ps scope)
    (mg : g.mg mname = some (.ref f)) (kp : PySem.W.keepIn g.K (.ref f) = true)
    (bd : ∀ (s : Shared) (us : List Value), g.K.In s.heap → us.length = ps.length → BindsTo s (PySem.W.fnOf name qual params body scope dV kV doc pm an cdv ct) ⟨us, []⟩ (ps.zip us))
    (bk : ∀ q ∈ kb, q.2.2.length = ps.length ∧ (∀ i ∈ q.2.2, i < q.1 + q.2.1.length) ∧ ∀ (s : Shared) (us ws : List Value), g.K.In s.heap → us.length = q.1 → ws.length = q.2.1.length → BindsTo s (PySem.W.fnOf name qual params body scope dV kV doc pm an cdv ct) ⟨us, q.2.1.zip ws⟩ (ps.zip (permV (us ++ ws) q.2.2)))
    {k : Nat} (hN : c.N = N) (ok : CfgOk Z Φ g ⟨k, cdv, qual ++ ".<locals>."⟩ c) (hb : trB n c ⟨scope, none⟩ body = some ss) (hsp : ∀ ds, Le (sp ds) (run Φ N.length ss ds)) : FnK g Z (k + 1) ⟨mname, ps, sp, kb⟩ := by
  refine ⟨f, _, mg, kp, bd, bk, fun A outer s H args us vs ds κ Q0 E0 Q E hg hr e0 hbt hv zo rl hl hs an xn => ?_⟩
  have hpl : ps.length ≤ N.length := by
    have := congrArg List.length FS.pre
    rw [List.length_take] at this
    omega
  exact LamX.run_ofS lk hcd FS hr e0 hbt hv (by rw [← rl.length]; exact hl) fun hr' => run_body rfl rfl FS hN ok hb hg hr' zo rl (by rw [hl]; exact hpl) (hsp ds κ Q0 E0 hs) an xn
end
end PL

/-! PMe: the zone of the draw. -/
namespace PL
open PySem
open PySem.Spec
open PyProof.Rows
open L2
/-- an exception's object, kept -/
def ExcO (a : Addr) (cls : Value) : HO := .ext fun h => ∃ oe vs, h.get? a = some oe ∧ Zc cls none oe ∧ oe.data = .fields vs
/-- where the draw lies: the dict, the list of wide numbers, the list of cells; the dict's keys, the name of the wide ones; the tables of code objects; the exceptions' classes -/
structure DrP where
  d : Addr
  w : Addr
  c : Addr
  ks : List Key
  kw : Str
  T : List (Addr × Str)
  ex : List (Str × Addr)
def KeysOk (P : DrP) : Prop := .inr P.kw ∈ P.ks ∧ .inr ("cells" : Str) ∈ P.ks ∧ .inr ("rest" : Str) ∈ P.ks ∧ .inr ("turn" : Str) ∈ P.ks ∧ P.ks.length ≤ 15 ∧ P.kw ≠ "cells" ∧ P.kw ≠ "rest" ∧ P.kw ≠ "turn"
def DrawAt (P : DrP) (κ : Nat) (H : Hp) : Prop := ∃ (kvs : List (Key × V)) (ws cs : List Int) (rest turn : Int) (oc : Obj), H P.d = some (.dK kvs) ∧ kvs.map (·.1) = P.ks ∧ valV kvs (.inr P.kw) = some (.ref P.w) ∧ valV kvs (.inr ("cells" : Str)) = some (.ref P.c) ∧
  valV kvs (.inr ("rest" : Str)) = some (.int rest) ∧ valV kvs (.inr ("turn" : Str)) = some (.int turn) ∧ H P.w = some (.lst (ws.map V.int)) ∧ H P.c = some (.frz oc (.lst (cs.map V.int))) ∧ cs.length ≤ sizeLine ∧ turn.natAbs ≤ κ
def dmu (P : DrP) (a : Addr) : Prop := a = P.d ∨ a = P.w ∨ ∃ p ∈ P.T, p.1 = a
def drd0 (P : DrP) (a : Addr) : Prop := dmu P a ∨ a = P.c
def drd (P : DrP) (H : Hp) (a : Addr) : Prop := drd0 P a ∨ ∃ p ∈ P.T, ∃ ps pos, H p.1 = some (.tbl ps) ∧ codeAmong pos ps.toList = some (.ref a)
def dok (P : DrP) (κ : Nat) (H : Hp) : Prop := DrawAt P κ H ∧ LamX.Tabs P.T H
def zoneD (P : DrP) : Zone where
  mu := dmu P
  rd0 := drd0 P
  rd := drd P
  ok := dok P
  sub := fun a h => .inl h
  there := fun H a ⟨⟨kvs, ws, cs, rest, turn, oc, h1, _, _, _, _, _, h2, h3, _⟩, t⟩ h => by
    rcases h with (rfl | rfl | ⟨p, hp, rfl⟩) | rfl
    · exact ⟨_, h1⟩
    · exact ⟨_, h2⟩
    · obtain ⟨ps, h4, _⟩ := t p hp
      exact ⟨_, h4⟩
    · exact ⟨_, h3⟩
  rds := fun H a ⟨_, t⟩ h => by
    rcases h with h | ⟨p, hp, ps, pos, h1, h2⟩
    · exact .inl h
    · obtain ⟨ps', h3, _, h4⟩ := t p hp
      rw [h1] at h3
      cases h3
      obtain ⟨c, e, h5⟩ := h4 pos _ h2
      cases e
      exact .inr ⟨_, h5⟩
  nimm := fun H a o ⟨⟨kvs, ws, cs, rest, turn, oc, h1, _, _, _, _, _, h2, h3, _⟩, t⟩ h e => by
    rcases h with rfl | rfl | ⟨p, hp, rfl⟩
    · rw [h1] at e; cases e; exact fun z => z
    · rw [h2] at e; cases e; exact fun z => z
    · obtain ⟨ps, h4, _⟩ := t p hp
      rw [h4] at e; cases e; exact fun z => z
  keep := fun H H' ⟨⟨kvs, ws, cs, rest, turn, oc, h1, g1, g2, g3, g4, g5, h2, h3, g6, g7⟩, t⟩ k => by
    refine ⟨⟨kvs, ws, cs, rest, turn, oc, k _ _ (.inl (.inl (.inl rfl))) h1, g1, g2, g3, g4, g5, k _ _ (.inl (.inl (.inr (.inl rfl)))) h2, k _ _ (.inl (.inr rfl)) h3, g6, g7⟩, fun p hp => ?_⟩
    obtain ⟨ps, a1, a2, a3⟩ := t p hp
    refine ⟨ps, k _ _ (.inl (.inl (.inr (.inr ⟨p, hp, rfl⟩)))) a1, a2, fun pos cv hc => ?_⟩
    obtain ⟨c, e, a4⟩ := a3 pos cv hc
    subst e
    exact ⟨c, rfl, k _ _ (.inr ⟨p, hp, ps, pos, a1, hc⟩) a4⟩
  R := fun H d v => (d = .drw ∧ v = .ref P.d) ∨ ∃ c a C, d = .exc c .non ∧ v = .ref a ∧ (c, C) ∈ P.ex ∧ c ≠ baseX ∧ H a = some (ExcO a (.ref C))
  Rstb := fun _ _ _ _ st h => by
    rcases h with h | ⟨c, a, C, h1, h2, h3, h4, h5⟩
    · exact .inl h
    · exact .inr ⟨c, a, C, h1, h2, h3, h4, st _ _ h5 trivial⟩
  Roth := fun _ _ _ h => by
    rcases h with h | ⟨c, a, C, h1, h2, _⟩
    · exact ⟨by rw [h.1]; rfl, _, h.2⟩
    · exact ⟨by rw [h1]; rfl, a, h2⟩
  X := fun _ d e dd => ∃ c C, d = .exc c .non ∧ (c, C) ∈ P.ex ∧ c ≠ baseX ∧ e = .ref C ∧ dd = none
  Xstb := fun _ _ _ _ _ _ h => h
theorem zoneD_nt (P : DrP) : NoThk (zoneD P) := fun _ _ _ _ h => by
  rcases h with h | ⟨c, a, C, h1, _⟩
  · cases h.1
  · cases h1
theorem zoneD_lam {g : GE} {r : Rm} {kt : Nat} {P : DrP} {c Pt : Addr} (h1 : r.cd = .ref c) (h2 : LamX.TabB g.base g.mg c Pt) (h3 : (Pt, r.ql ++ "<lambda>") ∈ P.T) (h4 : ∀ p ∈ P.T, p.1 = Pt → p.2 = r.ql ++ "<lambda>") : LamZ g r kt (zoneD P) where
  nt := zoneD_nt P
  tab := by
    refine ⟨c, Pt, P.T, h1, h2, h3, h4, .inr (.inr ⟨_, h3, rfl⟩), fun H h => by
        obtain ⟨_, h⟩ := h
        exact h.2, fun κ H H1 h t gr => ⟨?_, t⟩⟩
    obtain ⟨⟨kvs, ws, cs, rest, turn, oc, a1, g1, g2, g3, g4, g5, a2, a3, g6, g7⟩, _⟩ := h
    have q : ∀ {a o}, H a = some o → (∀ ps, o ≠ .tbl ps) → H1 a = some o := fun {a o} e n => by
      rcases gr with rfl | ⟨ps, ps', c', b1, b2, rfl⟩
      · exact e
      · rw [upd_ne (ne_of_none e b2), upd_ne (fun z => by rw [z, b1] at e; cases e; exact n _ rfl)]
        exact e
    exact ⟨kvs, ws, cs, rest, turn, oc, q a1 (fun _ z => nomatch z), g1, g2, g3, g4, g5, q a2 (fun _ z => nomatch z), q a3 (fun _ z => nomatch z), g6, g7⟩
  cut := fun κ S H h0 h hok t dat zo => by
    obtain ⟨⟨kvs, ws, cs, rest, turn, oc, a1, g1, g2, g3, g4, g5, a2, a3, g6, g7⟩, tb⟩ := zo
    have q : ∀ {a o}, H a = some o → (∀ φ, o ≠ .ext φ) → PL.cut S H a = some o := fun {a o} e n => by
      rw [cut_out fun z => by rw [t a z] at e; cases e; exact n _ rfl]
      exact e
    refine ⟨⟨kvs, ws, cs, rest, turn, oc, q a1 (fun _ z => nomatch z), g1, g2, g3, g4, g5, q a2 (fun _ z => nomatch z), q a3 (fun _ z => nomatch z), g6, g7⟩, fun p hp => ?_⟩
    obtain ⟨ps, b1, b2, b3⟩ := tb p hp
    refine ⟨ps, q b1 (fun _ z => nomatch z), b2, fun pos cv hc => ?_⟩
    obtain ⟨c, e, b4⟩ := b3 pos cv hc
    refine ⟨c, e, ?_⟩
    rw [cut_out fun z => ?_]
    · exact b4
    · obtain ⟨o, e1, n⟩ := dat c z
      obtain ⟨oc', vs, tk, e2, e3, _⟩ := (hok c _ b4).1
      rw [e1] at e2
      cases e2
      exact n vs e3
end PL

/-! PMf: the draw read and written. -/
namespace PL
open PySem
open PySem.Spec
open PyProof.Rows
open L2
abbrev zD (g : GE) (kt : Nat) (P : DrP) : Zone := withThk g kt (zoneD P)
def drInt : List D → M D
  | [.drw] => pick fun d => ∃ n, d = .int n
  | _ => fail
def drInts : List D → M D
  | [.drw] => pick fun d => ∃ ns : List Int, d = .lst (ns.map .int) ∧ ns.length ≤ 16777216
  | _ => fail
def drSet : List D → M D
  | [.drw, .int _] => ret .non
  | _ => fail
/-- how far the draw has turned; that it turns -/
def drTurn : List D → M D
  | [.drw] => fun c Q _ => ∀ n : Int, n.natAbs ≤ c → Q (.int n) c
  | _ => fail
def drSetT : List D → M D
  | [.drw, .int n] => fun c Q _ => n.natAbs ≤ c + 1 ∧ Q .non (c + 1)
  | _ => fail
/-- the next number made; the next number at all -/
def drMix : List D → M D
  | [.drw] => fun c Q _ => c < 1099511627776 ∧ ∀ n : Int, Q (.int n) (c + 1)
  | _ => fail
def drPop : List D → M D
  | [.drw] => fun c Q _ => c < 1099511627776 ∧ ∀ n : Int, Q (.int n) c ∧ Q (.int n) (c + 1)
  | _ => fail
theorem rep_drw {K : PySem.W.Frag} {g : GE} {kt : Nat} {P : DrP} {H : Hp} {v : V} (h : Rep K (zD g kt P) H .drw v) : v = .ref P.d := by
  cases h with
  | oth h =>
    rcases h with (h | ⟨_, _, _, e, _⟩) | ⟨_, _, _, e, _⟩
    · exact h.2
    · cases e
    · cases e
section
variable {γ : Gm} {kt : Nat} {P : DrP} {x key : Str} {i j : Nat} {p p2 p3 pos : Pos}
theorem get_drw {ρ : Nv} {f : List D → M D} {Q E : D → Nat → Prop} (hf : ∀ d, d ≠ .drw → f [d] = fail) (h : (bnd (getV ρ i) fun d => f [d]) κ Q E) : ρ[i]? = some (.val .drw) ∧ f [.drw] κ Q E := by
  obtain ⟨d, e, q⟩ := getV_inv h
  by_cases hd : d = .drw
  · subst hd
    exact ⟨e, q⟩
  · have q : f [d] κ Q E := q
    rw [hf d hd] at q
    exact q.elim
theorem drInt_no {d : D} (h : d ≠ .drw) : drInt [d] = fail := by cases d <;> first | rfl | exact absurd rfl h
theorem drPop_no {d : D} (h : d ≠ .drw) : drPop [d] = fail := by cases d <;> first | rfl | exact absurd rfl h
theorem drTurn_no {d : D} (h : d ≠ .drw) : drTurn [d] = fail := by cases d <;> first | rfl | exact absurd rfl h
theorem drInts_no {d : D} (h : d ≠ .drw) : drInts [d] = fail := by cases d <;> first | rfl | exact absurd rfl h
theorem repL_ints {K : PySem.W.Frag} {Z : Zone} {H : Hp} : ∀ ns : List Int, RepL K Z H (ns.map D.int) (ns.map V.int)
  | [] => .nil
  | n :: ns => .cons (.int n) (repL_ints ns)
theorem de_dget (hN : γ.N[i]? = some x) (hv : Vis γ.sc x) (hd : (x == ("__debug__" : Str)) = false) (hcd : (x == ("__classdict__" : Str)) = false) :
    DE (zD γ.g kt P) γ (.Subscript (.Name x p) (.Constant (.str "rest") j p2) pos) (fun ρ => bnd (getV ρ i) fun d => drInt [d]) := fun W => by
  refine ⟨tDGet (tVar i) (tC (.str "rest")), fun X F => pe_dget (by have := F.units; omega) (pe_var (by rw [F.N]; exact hN) (F.vis hv) hd hcd) pe_str (fun _ _ => rfl), fun ρ σ H H0 Q E R S q k kx => ?_⟩
  obtain ⟨e, q⟩ := get_drw (fun d h => drInt_no h) q
  obtain ⟨v, e1, r⟩ := S.val e
  obtain rfl := rep_drw r
  obtain ⟨⟨kvs, ws, cs, rest, turn, oc, a1, g1, g2, g3, g4, g5, a2, a3, g6, g7⟩, _⟩ := (S.ok : dok P _ H)
  exact ⟨_, e1, P.d, .int rest, rfl, by rw [← g4]; exact DGet.k (k := .inr ("rest" : Str)) a1, k _ (.int rest) H (.refl _ _) S.ok (.int _) (q _ ⟨rest, rfl⟩)⟩
theorem de_dturn (hN : γ.N[i]? = some x) (hv : Vis γ.sc x) (hd : (x == ("__debug__" : Str)) = false) (hcd : (x == ("__classdict__" : Str)) = false) :
    DE (zD γ.g kt P) γ (.Subscript (.Name x p) (.Constant (.str "turn") j p2) pos) (fun ρ => bnd (getV ρ i) fun d => drTurn [d]) := fun W => by
  refine ⟨tDGet (tVar i) (tC (.str "turn")), fun X F => pe_dget (by have := F.units; omega) (pe_var (by rw [F.N]; exact hN) (F.vis hv) hd hcd) pe_str (fun _ _ => rfl), fun ρ σ H H0 Q E R S q k kx => ?_⟩
  obtain ⟨e, q⟩ := get_drw (fun d h => drTurn_no h) q
  obtain ⟨v, e1, r⟩ := S.val e
  obtain rfl := rep_drw r
  obtain ⟨⟨kvs, ws, cs, rest, turn, oc, a1, g1, g2, g3, g4, g5, a2, a3, g6, g7⟩, _⟩ := (S.ok : dok P _ H)
  exact ⟨_, e1, P.d, (.int turn), rfl, by rw [← g5]; exact DGet.k (k := .inr ("turn" : Str)) a1, k _ (.int turn) H (.refl _ _) S.ok (.int _) (q turn g7)⟩
theorem de_dcells (hN : γ.N[i]? = some x) (hv : Vis γ.sc x) (hd : (x == ("__debug__" : Str)) = false) (hcd : (x == ("__classdict__" : Str)) = false) :
    DE (zD γ.g kt P) γ (.Subscript (.Name x p) (.Constant (.str "cells") j p2) pos) (fun ρ => bnd (getV ρ i) fun d => drInts [d]) := fun W => by
  refine ⟨tDGet (tVar i) (tC (.str "cells")), fun X F => pe_dget (by have := F.units; omega) (pe_var (by rw [F.N]; exact hN) (F.vis hv) hd hcd) pe_str (fun _ _ => rfl), fun ρ σ H H0 Q E R S q k kx => ?_⟩
  obtain ⟨e, q⟩ := get_drw (fun d h => drInts_no h) q
  obtain ⟨v, e1, r⟩ := S.val e
  obtain rfl := rep_drw r
  obtain ⟨⟨kvs, ws, cs, rest, turn, oc, a1, g1, g2, g3, g4, g5, a2, a3, g6, g7⟩, _⟩ := (S.ok : dok P _ H)
  exact ⟨_, e1, P.d, .ref P.c, rfl, by rw [← g3]; exact DGet.k (k := .inr ("cells" : Str)) a1, k _ (.lst (cs.map D.int)) H (.refl _ _) S.ok (.lst a3 (by rw [List.length_map]; exact g6) (repL_ints cs)) (q _ ⟨cs, rfl, by rw [← sizeLine_eq]; exact g6⟩)⟩
theorem any_key {kvs : List (Key × V)} {k : Key} : ∀ (_ : k ∈ kvs.map (·.1)), (kvs.any fun kv => decide (kv.1 = k)) = true := fun h => by
  obtain ⟨kv, h1, h2⟩ := List.mem_map.mp h
  exact List.any_eq_true.mpr ⟨kv, h1, by simpa using h2⟩
theorem put_fst {kvs : List (Key × V)} {k : Key} {v : V} (h : k ∈ kvs.map (·.1)) : (putK kvs k v).map (·.1) = kvs.map (·.1) := by
  unfold putK
  rw [if_pos (any_key h), List.map_map]
  apply List.map_congr_left
  intro kv _
  show (if kv.1 = k then (kv.1, v) else kv).1 = kv.1
  split <;> rfl
/-- an int key written -/
theorem dput_ok {H : Hp} {n : Int} {κ' : Nat} (ko : KeysOk P) (h : dok P κ H) (hk : (key = "rest" ∧ κ' = κ) ∨ (key = "turn" ∧ n.natAbs ≤ κ')) : ∃ H1, DPut H P.d (.str key) (.int n) H1 ∧ dok P κ' H1 ∧ ∀ a, a ≠ P.d → H1 a = H a := by
  obtain ⟨⟨kvs, ws, cs, rest, turn, oc, a1, g1, g2, g3, g4, g5, a2, a3, g6, g7⟩, t⟩ := h
  obtain ⟨k1, k2, k3, k4, k5, k6, k7, k8⟩ := ko
  have km : (.inr key : Key) ∈ kvs.map (·.1) := by
    rw [g1]
    rcases hk with ⟨rfl, _⟩ | ⟨rfl, _⟩
    · exact k3
    · exact k4
  have kl : kvs.length < sizeLine := by
    have := congrArg List.length g1
    rw [List.length_map] at this
    rw [this, sizeLine_eq]
    omega
  have nw : P.w ≠ P.d := fun z => by rw [z, a1] at a2; cases a2
  have nc : P.c ≠ P.d := fun z => by rw [z, a1] at a3; cases a3
  refine ⟨_, DPut.k (k := .inr key) a1 kl, ⟨?_, fun p hp => ?_⟩, fun a ha => upd_ne ha⟩
  · have pv : ∀ k : Key, valV (putK kvs (.inr key) (.int n)) k = if k = .inr key then some (.int n) else valV kvs k := fun k => valV_put kvs (.inr key) k (.int n)
    have ne1 : ¬ (Sum.inr P.kw : Key) = .inr key := fun z => by
      have z := Sum.inr.inj z
      rcases hk with ⟨rfl, _⟩ | ⟨rfl, _⟩
      · exact k7 z
      · exact k8 z
    have ne2 : ¬ (Sum.inr ("cells" : Str) : Key) = .inr key := fun z => by
      have z := Sum.inr.inj z
      rcases hk with ⟨rfl, _⟩ | ⟨rfl, _⟩
      · exact absurd z (by decide)
      · exact absurd z (by decide)
    rcases hk with ⟨rfl, rfl⟩ | ⟨rfl, hn⟩
    · refine ⟨_, ws, cs, n, turn, oc, upd_same, by rw [put_fst km]; exact g1, by rw [pv, if_neg ne1]; exact g2, by rw [pv, if_neg ne2]; exact g3, by rw [pv, if_pos rfl], ?_, by rw [upd_ne nw]; exact a2, by rw [upd_ne nc]; exact a3, g6, g7⟩
      rw [pv, if_neg (fun z => absurd (Sum.inr.inj z) (by decide))]
      exact g5
    · refine ⟨_, ws, cs, rest, n, oc, upd_same, by rw [put_fst km]; exact g1, by rw [pv, if_neg ne1]; exact g2, by rw [pv, if_neg ne2]; exact g3, ?_, by rw [pv, if_pos rfl], by rw [upd_ne nw]; exact a2, by rw [upd_ne nc]; exact a3, g6, hn⟩
      rw [pv, if_neg (fun z => absurd (Sum.inr.inj z) (by decide))]
      exact g4
  · obtain ⟨ps, b1, b2, b3⟩ := t p hp
    have q : ∀ {a o}, H a = some o → (∀ kv, o ≠ .dK kv) → upd H P.d (.dK (putK kvs (.inr key) (.int n))) a = some o := fun {a o} e z => by
      rw [upd_ne fun y => by rw [y, a1] at e; cases e; exact z _ rfl]
      exact e
    refine ⟨ps, q b1 (fun _ z => nomatch z), b2, fun pos cv hc => ?_⟩
    obtain ⟨c, e, b4⟩ := b3 pos cv hc
    exact ⟨c, e, q b4 (fun _ z => nomatch z)⟩
theorem ext_dput {g : GE} {H H1 : Hp} (h : ∀ a, a ≠ P.d → H1 a = H a) : Ext (zD g kt P) H H1 := fun a o e n => by
  rw [h a fun z => n (.inl z)]
  exact e
theorem ds_dput {e : Expr} {tv : Nv → M D} (ko : KeysOk P) (hN : γ.N[i]? = some x) (hv : Vis γ.sc x) (hd : (x == ("__debug__" : Str)) = false) (hcd : (x == ("__classdict__" : Str)) = false) (he : DE (zD γ.g kt P) γ e tv) (hn : noComp e = true) :
    DS (zD γ.g kt P) γ (.Assign [.Subscript (.Name x p) (.Constant (.str "rest") j p2) p3] e pos) (fun ρ => bnd (bnd (getV ρ i) fun d => bnd (tv ρ) fun n => drSet [d, n]) fun _ => ret (.nx ρ)) := fun W => by
  obtain ⟨te, pe, rd⟩ := he W
  refine ⟨sDPut (tVar i) (tC (.str "rest")) te, fun X F => ps_dput (by have := F.units; omega) (pe_var (by rw [F.N]; exact hN) (F.vis hv) hd hcd) pe_str (pe X F) (sw_no hn _ _ _), fun ρ σ H H0 Q E Ds S q a xx => ?_⟩
  obtain ⟨d, e0, q⟩ := getV_inv q
  refine rd ρ σ H H0 _ E _ S q (fun v n H1 e1 k1 r1 q1 => ?_) (xx.xn S.ext σ)
  cases d with
  | drw => cases n with
    | int n =>
      obtain ⟨v', s1, r⟩ := S.val e0
      obtain rfl := rep_drw r
      obtain rfl := r1.int_inv
      obtain ⟨H2, d2, k2, o2⟩ := dput_ok (key := "rest") (n := n) ko k1 (.inl ⟨rfl, rfl⟩)
      have x2 := ext_dput (g := γ.g) (kt := kt) o2
      exact ⟨_, s1, P.d, H2, rfl, d2, a.nx ρ σ H2 (S.mono (e1.trans x2) k2) (Stb.trans (e1.stb S.ok) (x2.stb k1)) q1⟩
    | _ => exact q1.elim
  | _ => exact False.elim (by cases n <;> exact q1)
theorem ds_dputT {e : Expr} {tv : Nv → M D} (ko : KeysOk P) (hN : γ.N[i]? = some x) (hv : Vis γ.sc x) (hd : (x == ("__debug__" : Str)) = false) (hcd : (x == ("__classdict__" : Str)) = false) (he : DE (zD γ.g kt P) γ e tv) (hn : noComp e = true) :
    DS (zD γ.g kt P) γ (.Assign [.Subscript (.Name x p) (.Constant (.str "turn") j p2) p3] e pos) (fun ρ => bnd (bnd (getV ρ i) fun d => bnd (tv ρ) fun n => drSetT [d, n]) fun _ => ret (.nx ρ)) := fun W => by
  obtain ⟨te, pe, rd⟩ := he W
  refine ⟨sDPut (tVar i) (tC (.str "turn")) te, fun X F => ps_dput (by have := F.units; omega) (pe_var (by rw [F.N]; exact hN) (F.vis hv) hd hcd) pe_str (pe X F) (sw_no hn _ _ _), fun ρ σ H H0 Q E Ds S q a xx => ?_⟩
  obtain ⟨d, e0, q⟩ := getV_inv q
  refine rd ρ σ H H0 _ E _ S q (fun v n H1 e1 k1 r1 q1 => ?_) (xx.xn S.ext σ)
  cases d with
  | drw => cases n with
    | int n =>
      obtain ⟨v', s1, r⟩ := S.val e0
      obtain rfl := rep_drw r
      obtain rfl := r1.int_inv
      obtain ⟨H2, d2, k2, o2⟩ := dput_ok (key := "turn") (n := n) ko k1 (.inr ⟨rfl, q1.1⟩)
      have x2 := ext_dput (g := γ.g) (kt := kt) o2
      exact ⟨_, s1, P.d, H2, rfl, d2, a.nx ρ σ H2 (S.mono (e1.trans x2) k2) (Stb.trans (e1.stb S.ok) (x2.stb k1)) q1.2⟩
    | _ => exact q1.elim
  | _ => exact False.elim (by cases n <;> exact q1)
end
end PL

/-! PMg: the draw's next wide number. -/
namespace PL
open PySem
open PySem.Spec
open PyProof.Rows
open L2
theorem py_ints {K : PySem.W.Frag} {H : Hp} : ∀ ns : List Int, DpAll K H (ns.map V.int) (ns.map PyData.int)
  | [] => .nil
  | n :: ns => .cons (.int n) (py_ints ns)
theorem shaped_ints (ns : List Int) : SeqAt.shaped (.list (ns.map PyData.int)) = true := by
  have h1 : ∀ ns : List Int, PyData.canLayAll0 (ns.map PyData.int) = true := fun ns => by
    induction ns with
    | nil => rfl
    | cons n ns ih =>
      show (PyData.canLay0 (.int n) && PyData.canLayAll0 (ns.map PyData.int)) = true
      rw [ih]
      rfl
  have h2 : ∀ ns : List Int, PyData.depthAll (ns.map PyData.int) = 0 := fun ns => by
    induction ns with
    | nil => rfl
    | cons n ns ih =>
      show max (PyData.depth (.int n)) (PyData.depthAll (ns.map PyData.int)) = 0
      rw [ih]
      rfl
  unfold SeqAt.shaped
  have e1 : PyData.canLay0 (.list (ns.map PyData.int)) = true := h1 ns
  have e2 : PyData.depth (.list (ns.map PyData.int)) = 1 := by
    show PyData.depthAll (ns.map PyData.int) + 1 = 1
    rw [h2]
  rw [e1, e2]
  rfl
section
variable {γ : Gm} {kt : Nat} {P : DrP} {x : Str} {i j j2 j3 j4 : Nat} {p1 p2 p3 p4 p5 p6 p7 p8 p9 pa pb pc pd po2 pos : Pos} {Fm : FnS}
theorem de_pop (ko : KeysOk P) (hN : γ.N[i]? = some x) (hv : Vis γ.sc x) (hd : (x == ("__debug__" : Str)) = false) (hcd : (x == ("__classdict__" : Str)) = false) (hF : FnK γ.g (zD γ.g kt P) γ.k Fm) (hsp : Fm.spec = drMix) (hp1 : Fm.ps.length = 1) (hg : γ.sc.names.lookup Fm.name = some .globalImplicit) (hdb : (Fm.name == ("__debug__" : Str)) = false)
    (hl : (p5.endLine == p7.line) = true) :
    DE (zD γ.g kt P) γ (.IfExp (.Compare (.Subscript (.Name x p1) (.Constant (.str P.kw) j p2) p3) [.NotEq] [.List [] p4] pa) (.Call (.Attribute (.Subscript (.Name x pb) (.Constant (.str P.kw) j2 pc) pd) "pop" p5) [.Constant (.int 0) j3 p6] [] p7) (.Call (.Name Fm.name p8) [.Name x p9] [] po2) pos)
      (fun ρ => bnd (getV ρ i) fun d => drPop [d]) := fun W => by
  have hcall := de_call (pos := po2) (p := p8) hF hg (da_cons (e := .Name x p9) rfl (de_var (Z := zD γ.g kt P) hN hv hd hcd) da_nil) (by rfl) (by rw [hp1]; rfl) hdb
  obtain ⟨te, pe, rd⟩ := hcall W
  refine ⟨tIf (tTest (tOp (rNeD γ.g.K) (tDGet (tVar i) (tC (.str P.kw))) (tLst tNil))) (tBM γ.g.K "list" rPopAt (tDGet (tVar i) (tC (.str P.kw))) (tCons (tC (.int 0)) tNil)) te, fun X X1 => ?_, fun {κ} ρ σ H H0 Q E R S q k kx => ?_⟩
  · have v1 : ∀ pp, PE X (.Name x pp) (tVar i) := fun pp => pe_var (by rw [X1.N]; exact hN) (X1.vis hv) hd hcd
    have hu : X.A.units + 64 < cLine := by have := X1.units; omega
    rw [← X1.K]
    exact pe_ifExp (pt_cmpR (op_neD hu) (pe_dget (by omega) (v1 p1) pe_str (fun _ _ => rfl)) (pe_lst pa_nil) rfl)
      (pe_bm F.plainAttrs_list F.slot_list_pop F.type_list_pop mt_popAt (pe_dget (by omega) (v1 pb) pe_str (fun _ _ => rfl)) (pa_cons pe_int pa_nil) rfl rfl hl rfl rfl) (pe X X1)
  · have q0 := q
    obtain ⟨e, q⟩ := get_drw (fun d h => drPop_no h) q
    obtain ⟨v, e1, r⟩ := S.val e
    obtain rfl := rep_drw r
    obtain ⟨⟨kvs, ws, cs, rest, turn, oc, a1, g1, g2, g3, g4, g5, a2, a3, g6, g7⟩, t⟩ := (S.ok : dok P _ H)
    refine ⟨_, e1, P.d, .ref P.w, rfl, by rw [← g2]; exact DGet.k (k := .inr P.kw) a1, ?_⟩
    refine ⟨by rw [sizeLine_eq]; exact Nat.zero_le _, fun p hp => ?_⟩
    have x1 : Ex H (upd H p (.lst [])) := Ex.new hp
    have z1 : dok P _ (upd H p (.lst [])) := x1.ok (Z := zD γ.g kt P) S.ok
    have S1 := S.mono (x1.ext (Z := zD γ.g kt P)) z1
    refine ⟨.list (ws.map PyData.int), .list [], .lst (.inl (.inl (x1 _ _ a2))) (py_ints ws), .lst (.inl (.inl upd_same)) .nil, shaped_ints ws, shaped_ints [], _, rfl, ?_⟩
    cases ws with
    | nil => exact rd ρ σ _ H0 Q E R S1 (by
        have q1 : (bnd (bnd (getV ρ i) fun x => bnd (ret []) fun xs => ret (x :: xs)) Fm.spec) κ Q E := by
          rw [hsp]
          unfold getV
          rw [e]
          exact ⟨q.1, fun n => (q.2 n).2⟩
        exact q1) (k.at x1.ext) (kx.at x1.ext)
    | cons n ws =>
      have eB : (!PyData.eqv (.list ((n :: ws).map PyData.int)) (.list [])) = true := rfl
      rw [eB]
      show tBM γ.g.K "list" rPopAt (tDGet (tVar i) (tC (.str P.kw))) (tCons (tC (.int 0)) tNil) σ _ R
      refine ⟨_, e1, P.d, .ref P.w, rfl, by rw [← g2]; exact DGet.k (k := .inr P.kw) (x1 _ _ a1), .inl ⟨rfl, _, .inl (.inl (x1 _ _ a2))⟩, ?_⟩
      refine ⟨P.w, (n :: ws).map V.int, 0, 0, .int n, rfl, rfl, x1 _ _ a2, by decide, by decide, by unfold seqIndex?; simp, rfl, ?_⟩
      have nd : P.d ≠ P.w := fun z => by rw [z, a2] at a1; cases a1
      have nc : P.c ≠ P.w := fun z => by rw [z, a2] at a3; cases a3
      refine k (.int n) (.int n) _ (fun a o ha nm => ?_) ?_ (.int n) (q.2 n).1
      · rw [upd_ne fun z => nm (.inr (.inl z))]
        exact x1 a o ha
      · obtain ⟨⟨kvs', ws', cs', rest', turn', oc', b1, c1, c2, c3, c4, c5, b2, b3, c6, c7⟩, t'⟩ := z1
        refine ⟨⟨kvs, ws, cs, rest, turn, oc, by rw [upd_ne nd]; exact x1 _ _ a1, g1, g2, g3, g4, g5, upd_same, by rw [upd_ne nc]; exact x1 _ _ a3, g6, g7⟩, fun pp hpp => ?_⟩
        obtain ⟨ps, y1, y2, y3⟩ := t' pp hpp
        have qq : ∀ {a o}, upd H p (.lst []) a = some o → (∀ xs, o ≠ .lst xs) → upd (upd H p (.lst [])) P.w (.lst (((n :: ws).map V.int).eraseIdx 0)) a = some o := fun {a o} e z => by
          rw [upd_ne fun y => by rw [y, x1 _ _ a2] at e; cases e; exact z _ rfl]
          exact e
        refine ⟨ps, qq y1 (fun _ z => nomatch z), y2, fun pos cv hc => ?_⟩
        obtain ⟨c, e, b4⟩ := y3 pos cv hc
        exact ⟨c, e, qq b4 (fun _ z => nomatch z)⟩
end
end PL

/-! PMh: the hooks hold. -/
namespace PL
open PySem
open PySem.Spec
open PyProof.Rows
open L2
structure HkOk (P : DrP) (g : GE) (kt : Nat) (Φ : Fns) (r : Rm) (c : Cfg) : Prop where
  ko : KeysOk P
  hks : ∀ q ∈ c.hks, (q.2.1 = "rest" ∧ Φ q.2.2.1 = drInt ∧ Φ q.2.2.2 = drSet) ∨ (q.2.1 = "turn" ∧ Φ q.2.2.1 = drTurn ∧ Φ q.2.2.2 = drSetT) ∨ (q.2.1 = "cells" ∧ Φ q.2.2.1 = drInts)
  pop : ∀ q ∈ c.pop, q.2.1 = P.kw ∧ Φ q.2.2.2 = drPop ∧ ∃ ps kb, ps.length = 1 ∧ FnK g (zD g kt P) r.k ⟨q.2.2.1, ps, drMix, kb⟩
section
variable {P : DrP} {g : GE} {kt : Nat} {Φ : Fns} {r : Rm} {c : Cfg}
theorem hk_std (h : HkOk P g kt Φ r c) : ∀ k e t, trHook c k e = some t → DE (zD g kt P) (gmOf g c.N r k) e (sem Φ t) := fun k e t ht => by
  unfold trHook at ht
  split at ht
  · split at ht
    · rename_i q i hq hi
      split at ht
      · rename_i hc
        simp only [Bool.and_eq_true] at hc
        cases ht
        obtain ⟨hd, hcd⟩ := nmOk_1 hc.2
        have hm := List.mem_of_find?_eq_some hq
        have hp := List.find?_some hq
        simp only [Bool.and_eq_true, decide_eq_true_eq] at hp
        obtain ⟨p1, p2⟩ := hp
        rcases h.hks q hm with ⟨hk, e1, _⟩ | ⟨hk, e1, _⟩ | ⟨hk, e1⟩
        · rw [p2] at hk
          subst hk
          have e2 : sem Φ (.call q.2.2.1 [.var i]) = fun ρ => bnd (getV ρ i) fun d => drInt [d] := by
            funext ρ
            rw [sem, e1]
            rfl
          rw [e2]
          exact de_dget (γ := gmOf g c.N r k) (P := P) (kt := kt) (idx_ok hi) (isVis_ok hc.1) hd hcd
        · rw [p2] at hk
          subst hk
          have e2 : sem Φ (.call q.2.2.1 [.var i]) = fun ρ => bnd (getV ρ i) fun d => drTurn [d] := by
            funext ρ
            rw [sem, e1]
            rfl
          rw [e2]
          exact de_dturn (γ := gmOf g c.N r k) (P := P) (kt := kt) (idx_ok hi) (isVis_ok hc.1) hd hcd
        · rw [p2] at hk
          subst hk
          have e2 : sem Φ (.call q.2.2.1 [.var i]) = fun ρ => bnd (getV ρ i) fun d => drInts [d] := by
            funext ρ
            rw [sem, e1]
            rfl
          rw [e2]
          exact de_dcells (γ := gmOf g c.N r k) (P := P) (kt := kt) (idx_ok hi) (isVis_ok hc.1) hd hcd
      · cases ht
    · cases ht
  · split at ht
    · rename_i q i hq hi
      split at ht
      · rename_i hc
        simp only [Bool.and_eq_true, decide_eq_true_eq] at hc
        obtain ⟨⟨⟨⟨⟨⟨⟨⟨c1, c2⟩, c3⟩, c4⟩, c5⟩, c6⟩, c7⟩, c8⟩, c9⟩ := hc
        cases ht
        obtain ⟨hd, hcd⟩ := nmOk_1 c2
        have hm := List.mem_of_find?_eq_some hq
        have hp := List.find?_some hq
        simp only [Bool.and_eq_true, decide_eq_true_eq] at hp
        obtain ⟨⟨p1, p2⟩, p3⟩ := hp
        obtain ⟨e0, e1, ps, kb, hl, FK⟩ := h.pop q hm
        rw [p2] at e0
        rw [p3] at FK
        subst c3 c4 c5 c7 e0
        have e2 : sem Φ (.call q.2.2.2 [.var i]) = fun ρ => bnd (getV ρ i) fun d => drPop [d] := by
          funext ρ
          rw [sem, e1]
          rfl
        rw [e2]
        exact de_pop (γ := gmOf g c.N r k) (P := P) (kt := kt) (p1 := _) (p2 := _) (p3 := _) (p4 := _) h.ko (idx_ok hi) (isVis_ok c1) hd hcd FK rfl hl (isGlob_ok c8) (nmOk_1 c9).1 (by simp [c6])
      · cases ht
    · cases ht
  · cases ht
theorem hkS_std (h : HkOk P g kt Φ r c) : ∀ f k st s, (∀ e t, f k e = some t → DE (zD g kt P) (gmOf g c.N r k) e (sem Φ t)) → trHookS f c k st = some s → DS (zD g kt P) (gmOf g c.N r k) st (semS Φ s) := fun f k st s hf ht => by
  unfold trHookS at ht
  split at ht
  · split at ht
    · rename_i q i t hq hi htt
      split at ht
      · rename_i hc
        simp only [Bool.and_eq_true, Bool.or_eq_true, decide_eq_true_eq] at hc
        obtain ⟨⟨⟨c1, c2⟩, c3⟩, c4⟩ := hc
        cases ht
        obtain ⟨hd, hcd⟩ := nmOk_1 c2
        have hm := List.mem_of_find?_eq_some hq
        have hp := List.find?_some hq
        simp only [Bool.and_eq_true, decide_eq_true_eq] at hp
        rcases h.hks q hm with ⟨hk, _, e1⟩ | ⟨hk, _, e1⟩ | ⟨hk, _⟩
        · rw [hp.2] at hk
          subst hk
          have e2 : semS Φ (.ex (.call q.2.2.2 [.var i, t])) = fun ρ => bnd (bnd (getV ρ i) fun d => bnd (sem Φ t ρ) fun n => drSet [d, n]) fun _ => ret (.nx ρ) := by
            funext ρ
            rw [semS, sem, e1]
            rfl
          rw [e2]
          exact ds_dput (γ := gmOf g c.N r k) (P := P) (kt := kt) h.ko (idx_ok hi) (isVis_ok c1) hd hcd (hf _ _ htt) c3
        · rw [hp.2] at hk
          subst hk
          have e2 : semS Φ (.ex (.call q.2.2.2 [.var i, t])) = fun ρ => bnd (bnd (getV ρ i) fun d => bnd (sem Φ t ρ) fun n => drSetT [d, n]) fun _ => ret (.nx ρ) := by
            funext ρ
            rw [semS, sem, e1]
            rfl
          rw [e2]
          exact ds_dputT (γ := gmOf g c.N r k) (P := P) (kt := kt) h.ko (idx_ok hi) (isVis_ok c1) hd hcd (hf _ _ htt) c3
        · rw [hp.2] at hk
          rw [hk] at c4
          rcases c4 with c4 | c4 <;> exact absurd c4 (by decide)
      · cases ht
    · cases ht
  · cases ht
end
end PL

/-! PMi: an exception that is kept: try: .. except X as n: e = n. -/
namespace PL
open PySem
open PySem.Spec
open PyProof.Rows
open L2
section
variable {X : Cx} {pins : List (Addr × Obj)} {σ : L2.St} {H : Hp} {s : Shared}
theorem Inv.tell {a : Addr} {φ : Heap → Prop} (I : Inv X pins σ H s) (hn : H a = none) (h0 : X.s_0.heap.get? a = none) (hL : a ≠ X.env.locals) (hC : ∀ y c, X.env.cells.lookup y = some c → c ≠ a) (hp : ∀ p ∈ X.pn ++ pins, p.1 ≠ a)
    (hφ : φ s.heap ∧ (∃ o, s.heap.get? a = some o) ∧ ∀ h1 h2 : Heap, φ h1 → (∀ o, h1.get? a = some o → h2.get? a = some o) → φ h2) : Inv X pins σ (upd H a (.ext φ)) s := by
  have ne : ∀ {b o}, H b = some o → b ≠ a := fun {b o} e => ne_of_none e hn
  refine ⟨I.ok, I.os, I.bare, ⟨I.base.keep, I.base.slot, fun b o e n hx => ?_, I.base.there, fun b xs e => ?_, fun b o u e => ?_, fun b ps e => ?_⟩, I.loc, I.cell, ?_, fun y c e => ?_, fun p hpp => ?_, fun b o e => ?_, I.len⟩
  · rw [upd_ne fun z => by rw [z, h0] at e; cases e]
    exact I.base.free b o e n hx
  · have q := I.base.tups b xs e
    rw [upd_ne (ne q)]; exact q
  · have q := I.base.frzs b o u e
    rw [upd_ne (ne q)]; exact q
  · obtain ⟨m, q⟩ := I.base.tbls b ps e
    exact ⟨m, by rw [upd_ne (ne q)]; exact q⟩
  · rw [upd_ne hL.symm]; exact I.free
  · rw [upd_ne (hC y c e)]; exact I.freeC y c e
  · obtain ⟨e1, e2, e3⟩ := I.pin p hpp
    exact ⟨e1, by rw [upd_ne (hp p hpp)]; exact e2, e3⟩
  · by_cases hb : b = a
    · subst hb
      rw [upd_same] at e
      cases e
      exact hφ
    · rw [upd_ne hb] at e
      exact (I.hok b o e).stay (fun _ _ _ q => q) (fun c q => by rw [upd_ne (ne q)]; exact q) fun c xs q => by rw [upd_ne (ne q)]; exact q
/-- what is wished of an exception of the body: it is kept in slot i; slot j is the clause's name -/
def wKeep (K : PySem.W.Frag) (c : Value) (i j : Nat) (D : Ends) : WX := fun cls d σ H => PySem.W.exmOne K cls c = some true ∧ d = none ∧ ∀ a, H a = none → D.nx ((σ.set j (some (.ref a))).set i (some (.ref a)) |>.set j none) (upd H a (ExcO a cls))
theorem ps_keep {x n e : Str} {c : Value} {i j : Nat} {body : List Stmt} {np p1 p2 p3 pos pos' : Pos} {tb : WX → TS} (hs : X.stack = X.env :: X.outer) (hf : X.env.frame = some X.env.locals) (hex : X.ex = []) (hN : X.N.Nodup) (hi : X.N[i]? = some e) (hj : X.N[j]? = some n) (hil : X.env.kindOf e = some .local) (hjl : X.env.kindOf n = some .local) (hc : Names X x c)
    (hd : (n == ("__debug__" : Str)) = false) (hcd : (n == ("__classdict__" : Str)) = false)
    (hb : ∀ (W : WX) (pn : List (Addr × Obj)) (xe : Value → Shared → Prop), Takes (X.tr pn xe) W → PassesOwn (model X.prog X.w) X.A X.env xe → PSs (X.tr pn xe) body (tb W)) :
    PS X (.Try body [.ExceptHandler (some (.Name x np)) (some n) [.Assign [.Name e p1] (.Name n p2) p3] pos'] [] [] pos) (fun D σ H => tb (wKeep X.K c i j D) D σ H) := by
  refine ⟨fun pins s σ H D I h => ?_⟩
  have okX := I.ok
  have frm : X.A.frames = some (X.env :: X.outer) := by rw [okX.frames, hs]
  refine wpAny_Try_except ?_
  refine wpAny_mono ((hb (wKeep X.K c i j D) (X.pn ++ pins) (fun u s₁ => wpAny (model X.prog X.w) X.A (noteFrame u X.env) (fun _ s₂ => wpAny (model X.prog X.w) X.A (setFlight u none) (fun _ s₃ =>
    wpAny (model X.prog X.w) X.A (handleBy u X.env [.ExceptHandler (some (.Name x np)) (some n) [.Assign [.Name e p1] (.Name n p2) p3] pos']) (SP X pins D) X.xe s₃) X.xe s₂) X.xe s₁) (fun u s' xx => ?_) PassesOwn.looking).run [] s σ H D (I.toTry _) h) (fun f s1 hsp => ?_) (fun _ _ z => z)
  · obtain ⟨a, B, sI, pinsI, σ', H', cls, d, rfl, J0, nb, up, sky, na, os, ag, hyes, hdn, hq⟩ := xx
    subst hdn
    have J : Inv X pins σ' H' sI := J0.ofTry okX
    have skyX : Sky B (X.env :: X.outer) a (Zc cls none) X.env.locals s'.heap := by rw [← hs]; exact sky
    show wpAny (model X.prog X.w) X.A (noteFrame (.ref a) X.env) _ _ _
    refine Sky.land Zc.steady frm hf skyX fun h3 fl3 up3 => ?_
    have J3 : Inv X pins σ' H' { s' with heap := h3 } := J.landed nb fl3.1 (up.trans up3) os ag
    obtain ⟨oe3, vs3, he3, hz3, hd3⟩ := fl3.there
    have away : ∀ {h : Heap} {o : Obj} {vs : Array Value}, h.FunFrames B (X.env :: X.outer) → h.get? a = some o → o.data = .fields vs → a ∉ frs (X.env :: X.outer) := fun {h o vs} ff e dd hm => by
      obtain ⟨_, o', e', nfl⟩ := ff.mem hm
      rw [e] at e'
      cases e'
      exact nfl _ dd
    have nfr := away fl3.2.2.1 he3 hd3
    have nL : a ≠ X.env.locals := fun z => nfr (List.mem_filterMap.mpr ⟨X.env, List.mem_cons_self, by rw [hf, z]⟩)
    have nF : a ∉ X.fs := fun hm => by
      obtain ⟨e, he, q⟩ := List.mem_filterMap.mp hm
      exact nfr (List.mem_filterMap.mpr ⟨e, List.mem_cons_of_mem _ he, q⟩)
    have newA : ∀ {o}, sI.heap.get? a ≠ some o := fun {o} z => by
      have := nb a o z (by rw [hs]; exact nfr)
      rw [fl3.2.1] at this
      cases this
    have S3 := J3.suite he3 hd3 na nL nF
    refine wpAny_handleBy_cons (codeAny_handlers_test ?_) (by intro q; cases q)
    have LT : PySem.W.Looks (model X.prog X.w) h3 (typeOf (.ref a)) cls := fun A Q E s k q => wpAny_typeOf_ref (k _ _ he3) (by rw [hz3.1]; exact q)
    have LM := PySem.W.exm_one (M := model X.prog X.w) (J3.kIn) LT hyes
    have test : ∀ {Q : Value → Shared → Prop} {E : Value → Shared → Prop}, Q c { s' with heap := h3 } → wpAny (model X.prog X.w) (X.A.mark (some (.ref a))) (eval (.Name x np) X.env) Q E { s' with heap := h3 } := fun {Q E} q => by
      obtain ⟨hg, hdbg, hm | ⟨hm, hv, hnn⟩⟩ := hc
      · exact ld_glob (X := X.suite a ((a, oe3) :: (X.pn ++ pins))) S3 hg hm q hdbg
      · exact ld_blt (X := X.suite a ((a, oe3) :: (X.pn ++ pins))) S3 hg hm hv q hnn hdbg
    refine test (LM.here ?_)
    refine codeAny_handlers_suite_as ?_
    refine HandSPX.lands_againZ fl3 fun h4 fl4 up4 => ?_
    have J4 : Inv X pins σ' H' { s' with heap := h4 } := J.landed nb fl4.1 ((up.trans up3).trans up4) os ag
    obtain ⟨oe4, vs4, he4, hz4, hd4⟩ := fl4.there
    have S4 := J4.suite he4 hd4 na nL nF
    refine store_ok (X := X.suite a ((a, oe4) :: (X.pn ++ pins))) (v := .ref a) S4 hN hj (.inl hjl) rfl (fun s5 S5 => ?_) (.inr hjl)
    have stp : PSs (X.suite a ((a, oe4) :: (X.pn ++ pins))) [.Assign [.Name e p1] (.Name n p2) p3] (tAsg (tVar j) (gName i)) := pss_one (ps_set (X := X.suite a ((a, oe4) :: (X.pn ++ pins))) hN hi (.inl hil) (pe_var (X := X.suite a ((a, oe4) :: (X.pn ++ pins))) hj (.inl hjl) hd hcd) rfl (.inr hil))
    have jl : j < σ'.length := by rw [J4.len]; exact (List.getElem?_eq_some_iff.mp hj).1
    refine wpAny_mono (stp.run [] s5 _ H' ⟨fun σ6 H6 => σ6 = (σ'.set j (some (.ref a))).set i (some (.ref a)) ∧ H6 = H', fun _ _ => False, fun _ _ => False, fun _ _ => False⟩ S5 ⟨_, List.getElem?_set_self jl, rfl, rfl⟩) (fun f s6 hsp => ?_) (fun _ _ z => False.elim z)
    cases f with
    | next =>
      obtain ⟨σ6, H6, S6, e6, e7⟩ := hsp
      subst e6 e7
      have I6 : Inv X ((a, oe4) :: pins) ((σ'.set j (some (.ref a))).set i (some (.ref a))) H6 s6 := ⟨okX, S6.os, S6.bare, S6.base, S6.loc, S6.cell, S6.free, S6.freeC, fun p hp => S6.pin p (List.mem_append_left _ (by
        rcases List.mem_append.mp hp with z | z
        · exact List.mem_cons_of_mem _ (List.mem_append_left _ z)
        · rcases List.mem_cons.mp z with z | z
          · rw [z]; exact List.mem_cons_self
          · exact List.mem_cons_of_mem _ (List.mem_append_right _ z))), S6.hok, S6.len⟩
      refine gone_ok I6 hN hj hjl fun s7 J7 => ?_
      obtain ⟨g7, n7, _⟩ := J7.pin (a, oe4) (List.mem_append_right _ List.mem_cons_self)
      have J8 : Inv X pins (((σ'.set j (some (.ref a))).set i (some (.ref a))).set j none) H6 s7 := J7.pins_of fun p hp => J7.pin p (List.mem_append_right _ (List.mem_cons_of_mem _ hp))
      refine ⟨_, _, Inv.tell J8 n7 ?_ nL (fun y c hy z => ?_) (fun p hp z => ?_) ⟨⟨oe4, vs4, g7, hz4, hd4⟩, ⟨oe4, g7⟩, fun h1 h2 ⟨o, vs, q1, q2, q3⟩ st => ⟨o, vs, st o q1, q2, q3⟩⟩, hq a na⟩
      · cases q : X.s_0.heap.get? a with
        | none => rfl
        | some o =>
          by_cases hx : a ∈ X.ex
          · rw [hex] at hx
            cases hx
          · obtain ⟨o', q'⟩ := J.base.there a o q hx
            exact absurd q' newA
      · obtain ⟨v, ob, hob, hdb⟩ := J8.cell y c hy
        rw [z, g7] at hob
        cases hob
        rw [hd4] at hdb
        cases hdb
      · obtain ⟨q1, _⟩ := J.pin p hp
        rw [z] at q1
        exact newA q1
    | brk =>
      obtain ⟨_, _, _, z⟩ := hsp
      exact z.elim
    | cont =>
      obtain ⟨_, _, _, z⟩ := hsp
      exact z.elim
    | ret u =>
      obtain ⟨_, _, _, _, _, z⟩ := hsp
      exact z.elim
  · cases f with
    | next =>
      obtain ⟨σ', H', J', q⟩ := hsp
      exact wpAny_execs_nil ⟨σ', H', J'.ofTry okX, q⟩
    | brk =>
      obtain ⟨σ', H', J', q⟩ := hsp
      exact ⟨σ', H', J'.ofTry okX, q⟩
    | cont =>
      obtain ⟨σ', H', J', q⟩ := hsp
      exact ⟨σ', H', J'.ofTry okX, q⟩
    | ret u =>
      obtain ⟨v, σ', H', J', r, q⟩ := hsp
      exact ⟨v, σ', H', J'.ofTry okX, r, q⟩
end
/-- the own exception classes: what isinstance and except ask -/
structure ExT (K : PySem.W.Frag) (ex : List (Str × Addr)) : Prop where
  cls : ∀ q ∈ ex, ExcC K q.2
  kit : ∀ q ∈ ex, q.1 ≠ baseX → ∀ c ∈ ex, PySem.W.kitOne K (.ref q.2) (.ref c.2) = some (decide (q.1 = c.1) || decide (c.1 = baseX))
  non : ∀ c ∈ ex, PySem.W.kitOne K (.type "NoneType") (.ref c.2) = some false
  exm : ∀ q ∈ ex, q.1 ≠ baseX → ∀ c ∈ ex, c.1 = baseX → PySem.W.exmOne K (.ref q.2) (.ref c.2) = some true
def rIsX (K : PySem.W.Frag) (C : Addr) : List V → Hp → VK → Prop := fun xs H Q => (∃ (r : Bool), xs = [.non, .ref C] ∧ PySem.W.kitOne K (.type "NoneType") (.ref C) = some r ∧ Q (.bl r) H) ∨ ∃ a D r, xs = [.ref a, .ref C] ∧ H a = some (ExcO a (.ref D)) ∧ ExcC K D ∧ PySem.W.kitOne K (.ref D) (.ref C) = some r ∧ Q (.bl r) H
theorem call_isX {X : Cx} {C : Addr} : CallR X (.builtin "isinstance") (rIsX X.K C) := by
  intro pins s σ H xs us Q I r h
  rcases h with ⟨b, rfl, e, q⟩ | ⟨a, D, b, rfl, ha, cl, e, q⟩
  · obtain ⟨u1, u2, rfl, r1, r2⟩ := vals2 r
    obtain rfl : u2 = Value.ref C := r2
    obtain ⟨P, Z, p, hx⟩ := kit_of I r1 (.base .non)
    exact PySem.W.kia_one Z I.kIn p e hx fun tk => ⟨.bl b, H, I.tok tk, rfl, q⟩
  · obtain ⟨u1, u2, rfl, r1, r2⟩ := vals2 r
    obtain rfl : u2 = Value.ref C := r2
    obtain rfl : u1 = Value.ref a := r1
    obtain ⟨⟨oe, vs, g1, g2, g3⟩, _⟩ := I.hok a _ ha
    have J : PySem.W.InstAt s.heap a oe D none := by
      obtain ⟨oc, od, oda, osl⟩ := oe
      obtain ⟨h1, h2⟩ := g2
      dsimp only at h1 h2 g3
      subst h1 h2 g3
      exact ⟨g1, rfl, rfl, trivial⟩
    exact PySem.W.kia_one (PySem.W.handS_kitx_exc cl.hg cl.hk cl.hs cl.hd cl.ha cl.hn cl.ht cl.hm) I.kIn J e (fun z => nomatch z) fun tk => ⟨.bl b, H, I.kept (t' := tk) fun _ _ z => z, rfl, q⟩
section
variable {γ : Gm} {kt : Nat} {P : DrP} {c : Str} {C : Addr} {a : Expr} {ta : Nv → M D} {p p' pos : Pos}
theorem de_isC (T : ExT γ.g.K P.ex) (hc : (c, C) ∈ P.ex) (mc : γ.g.mg c = some (.ref C)) (ha : DE (zD γ.g kt P) γ a ta) (hp : plain a = true) (hg : γ.sc.names.lookup ("isinstance" : Str) = some .globalImplicit) (hm : γ.g.mg ("isinstance" : Str) = none) (gc : γ.sc.names.lookup c = some .globalImplicit) (hd : (c == ("__debug__" : Str)) = false) :
    DE (zD γ.g kt P) γ (.Call (.Name "isinstance" p) [a, .Name c p'] [] pos) (fun ρ => bnd (ta ρ) fun d => lift (isCM c d)) := fun W => by
  obtain ⟨te, pe, rd⟩ := ha W
  refine ⟨tCB (rIsX γ.g.K C) (tCons te (tCons (tC (.ref C)) tNil)), fun X F => ?_, fun ρ σ H H0 Q E R S q k kx => rd ρ σ H H0 _ E _ S q (fun v d H1 e1 k1 r1 q1 => ?_) kx⟩
  · have q := pe_callB (X := X) (pos := pos) (p := p) (call_isX (C := C)) (F.kd hg) (by rw [F.mg]; exact hm) (by decide +kernel) (pa_cons (pe X F) (pa_cons (pe_glob (pos := p') (F.kd gc) (by rw [F.mg]; exact mc) (show RelV (.ref C) (.ref C) from rfl) hd) pa_nil) (star_cons hp _)) (by decide) (by decide) (star_cons hp _) rfl
    rw [F.K] at q
    exact q
  · cases d with
    | non =>
      obtain rfl := r1.non_inv
      exact .inl ⟨_, rfl, T.non _ hc, k _ _ H1 e1 k1 (.bl _) q1⟩
    | exc x y =>
      cases r1 with
      | oth h =>
        rcases h with (h | ⟨c', a', C', h1, h2, h3, h4, h5⟩) | ⟨_, _, _, e, _⟩
        · cases h.1
        · cases h1
          subst h2
          exact .inr ⟨a', C', _, rfl, h5, T.cls _ h3, T.kit _ h3 h4 _ hc, k _ _ H1 e1 k1 (.bl _) q1⟩
        · cases e
    | _ => exact q1.elim
end
end PL

/-! PMj: the statement that keeps an exception. -/
namespace PL
open PySem
open PySem.Spec
open PyProof.Rows
open L2
theorem Fam.tr {γ : Gm} {W W' : WX} {X : Cx} (F : Fam γ W X) (ht : γ.top = true) (pn : List (Addr × Obj)) (xe : Value → Shared → Prop) (tk : Takes (X.tr pn xe) W') (po : PassesOwn (model X.prog X.w) X.A X.env xe) : Fam γ W' (X.tr pn xe) where
  ge := F.ge
  N := F.N
  nd := F.nd
  sc := F.sc
  room := F.room
  gu := F.gu
  calm := F.calm
  tk := tk
  fb := F.fb
  top := fun h => ⟨(F.top h).1, (F.top h).2.1, (F.top h).2.2.1, po⟩
  code := F.code
section
variable {γ : Gm} {kt : Nat} {P : DrP} {w i j : Nat} {x n e wn : Str} {C : Addr} {np p1 p2 p3 p4 p5 p6 pos pos' : Pos}
theorem SR.un {K : PySem.W.Frag} {Z : Zone} {H0 H : Hp} {ρ : Nv} {σ : L2.St} (S : SR K Z κ H0 ρ σ H) {j : Nat} {o : Option V} : SR K Z κ H0 (ρ.set j .un) (σ.set j o) H := S.setU
theorem ds_keep (T : ExT γ.g.K P.ex) (hC : (baseX, C) ∈ P.ex) (mC : γ.g.mg baseX = some (.ref C)) (ht : γ.top = true) (hk : kt ≤ γ.k) (hw : γ.N[w]? = some wn) (hvw : Vis γ.sc wn) (hdw : (wn == ("__debug__" : Str)) = false) (hcw : (wn == ("__classdict__" : Str)) = false)
    (hi : γ.N[i]? = some e) (hj : γ.N[j]? = some n) (hil : γ.sc.names.lookup e = some .local) (hjl : γ.sc.names.lookup n = some .local) (hd : (n == ("__debug__" : Str)) = false) (hcd : (n == ("__classdict__" : Str)) = false) (hg : γ.sc.names.lookup baseX = some .globalImplicit) :
    DS (zD γ.g kt P) γ (.Try [.Expr (.Call (.Name wn p4) [] [] p5) p6] [.ExceptHandler (some (.Name baseX np)) (some n) [.Assign [.Name e p1] (.Name n p2) p3] pos'] [] [] pos) (fun ρ => bnd (getV ρ w) fun t => keepM i j t ρ) := fun W => by
  have hwork := de_work (γ := γ) (p := p4) (pos := p5) (zoneD_nt P) hk hw hvw hdw hcw
  let te := fun W' => Classical.choose (hwork W')
  have hte := fun W' => Classical.choose_spec (hwork W')
  refine ⟨fun D σ H => tDrop (te (wKeep γ.g.K (.ref C) i j D)) D σ H, fun X F => ?_, fun {κ} ρ σ H H0 Q E Ds S q a xx => ?_⟩
  · rw [← F.K]
    obtain ⟨f1, f2, f3, _⟩ := F.top ht
    refine ps_keep (tb := fun W' => tDrop (te W')) f1 f2 f3 (by rw [F.N]; exact F.nd) (by rw [F.N]; exact hi) (by rw [F.N]; exact hj) (F.kd hil) (F.kd hjl) ⟨F.kd hg, by decide, .inl (by rw [F.mg]; exact mC)⟩ hd hcd fun W' pn xe tk po => ?_
    exact pss_one (ps_expr ((hte W').1 _ (F.tr ht pn xe tk po)) rfl)
  · obtain ⟨t, e0, q⟩ := getV_inv q
    show te (wKeep γ.g.K (.ref C) i j Ds) σ H (fun _ H1 => Ds.nx σ H1)
    cases t with
    | thk ok d => cases ok with
      | true =>
        refine (hte (wKeep γ.g.K (.ref C) i j Ds)).2 (κ := κ) ρ σ H H0 (fun _ k => k = κ) (fun _ _ => False) _ S ?_ (fun {k'} v d' H1 e1 k1 r1 hk => a.nx ρ σ H1 (S.mono e1 (by rw [← hk]; exact k1)) (e1.stb S.ok) q) (fun _ _ _ _ _ _ _ z => z.elim)
        show bnd (getV ρ w) callM κ _ _
        unfold getV
        rw [e0]
        exact rfl
      | false =>
        cases d with
        | exc c y => cases y with
          | non =>
            refine (hte (wKeep γ.g.K (.ref C) i j Ds)).2 (κ := κ) ρ σ H H0 (fun _ _ => False) (fun y k => y = .exc c .non ∧ k = κ) _ S ?_ (fun _ _ _ _ _ _ z => z.elim) (fun {k'} cls dd H1 y x1 k1 z q1 => ?_)
            · show bnd (getV ρ w) callM κ _ _
              unfold getV
              rw [e0]
              exact ⟨rfl, rfl⟩
            · obtain ⟨q1, qk⟩ := q1
              subst qk
              subst q1
              obtain ⟨c', C', h1, h2, h3, h4, h5⟩ := z
              cases h1
              subst h4 h5
              refine ⟨T.exm _ h2 h3 _ hC rfl, rfl, fun b hb => ?_⟩
              have x2 : Ex H1 (upd H1 b (ExcO b (.ref C'))) := Ex.new hb
              have S2 := S.mono (x1.trans (x2.ext (Z := zD γ.g kt P))) (x2.ok k1)
              have r : Rep γ.g.K (zD γ.g kt P) (upd H1 b (ExcO b (.ref C'))) (.exc c .non) (.ref b) := .oth (.inl (.inr ⟨c, b, C', rfl, rfl, h2, h3, upd_same⟩))
              have e3 : (ρ.set i (.val (.exc c .non))).set j .un = ((ρ.set j .un).set i (.val (.exc c .non))).set j .un := by
                by_cases ij : i = j
                · subst ij
                  rw [List.set_set, List.set_set, List.set_set]
                · rw [List.set_comm _ _ (Ne.symm ij), List.set_set]
              have S3 := ((S2.setU (i := j) (o := some (.ref b))).setV (i := i) r).setU (i := j) (o := none)
              rw [← e3] at S3
              exact a.nx _ _ _ S3 ((x1.stb S.ok).trans x2.stb) q
          | _ => exact q.elim
        | _ => exact q.elim
    | _ => exact q.elim
end
end PL

/-! PMk: all that a def's translation asks, in the zone of the draw. -/
namespace PL
open PySem
open PySem.Spec
open PyProof.Rows
open L2
/-- what the module says of its exceptions -/
structure ExM (g : GE) (P : DrP) : Prop where
  T : ExT g.K P.ex
  mg : ∀ q ∈ P.ex, g.mg q.1 = some (.ref q.2)
theorem isc_std {g : GE} {P : DrP} {kt : Nat} {Φ : Fns} {r : Rm} {c : Cfg} (M : ExM g P) (hc : ∀ y ∈ c.cls, y ∈ P.ex.map (·.1)) (hm : g.mg ("isinstance" : Str) = none) :
    ∀ k y a t p p' pos, y ∈ c.cls → isGlob k.sc y = true → isGlob k.sc ("isinstance" : Str) = true → nmOk y = true → plain a = true → DE (zD g kt P) (gmOf g c.N r k) a (sem Φ t) → DE (zD g kt P) (gmOf g c.N r k) (.Call (.Name "isinstance" p) [a, .Name y p'] [] pos) (sem Φ (.bf (.isC y) [t])) := fun k y a t p p' pos hy gy gi ny hp ha => by
  obtain ⟨q, hq, e⟩ := List.mem_map.mp (hc y hy)
  subst e
  exact de_isC (γ := gmOf g c.N r k) M.T (show (q.1, q.2) ∈ P.ex from hq) (M.mg q hq) ha hp (isGlob_ok gi) hm (isGlob_ok gy) (nmOk_1 ny).1
theorem tr_std {g : GE} {P : DrP} {kt : Nat} {Φ : Fns} {r : Rm} {c : Cfg} (M : ExM g P) (hb : c.tr = true → baseX ∈ P.ex.map (·.1) ∧ kt ≤ r.k) : ∀ k st s, trTry c k st = some s → DS (zD g kt P) (gmOf g c.N r k) st (semS Φ s) := fun k st s h => by
  unfold trTry at h
  split at h
  · split at h
    · rename_i w i j hw hi hj
      split at h
      · rename_i hc
        simp only [Bool.and_eq_true, decide_eq_true_eq] at hc
        obtain ⟨⟨⟨⟨⟨⟨⟨⟨⟨c1, c2⟩, c3⟩, c4⟩, c5⟩, c6⟩, c7⟩, c8⟩, c9⟩, c10⟩ := hc
        cases h
        subst c3 c4
        obtain ⟨hb1, hb2⟩ := hb c1
        obtain ⟨q, hq, e⟩ := List.mem_map.mp hb1
        have hq' : (baseX, q.2) ∈ P.ex := by rw [← e]; exact hq
        exact ds_keep (γ := gmOf g c.N r k) M.T hq' (M.mg _ hq') c2 hb2 (idx_ok hw) (isVis_ok c5) (nmOk_1 c6).1 (nmOk_1 c6).2 (idx_ok hi) (idx_ok hj) (loc_of c8) (loc_of c9) (nmOk_1 c7).1 (nmOk_1 c7).2 (isGlob_ok c10)
      · cases h
    · cases h
  · cases h
end PL

/-! PNa: how the draw begins. -/
namespace PL
open PySem
open PySem.Spec
open PyProof.Rows
open L2
/-- nothing of the law's own -/
def zone0 : Zone where
  mu := fun _ => False
  rd0 := fun _ => False
  rd := fun _ _ => False
  ok := fun _ _ => True
  sub := fun _ h => h
  there := fun _ _ _ h => h.elim
  rds := fun _ _ _ h => h.elim
  nimm := fun _ _ _ _ h _ => h.elim
  keep := fun _ _ _ _ => trivial
  R := fun _ _ _ => False
  Rstb := fun _ _ _ _ _ h => h
  Roth := fun _ _ _ h => h.elim
  X := fun _ _ _ _ => False
  Xstb := fun _ _ _ _ _ _ h => h
theorem ext0 {H H' : Hp} (e : Ext zone0 H H') : Ex H H' := fun a o h => e a o h fun z => z
section
variable {γ : Gm} {i : Nat} {x kw : Str} {ce : Expr} {tc : Nv → M D} {j1 j2 j3 j4 j5 j6 : Nat} {p1 p2 p3 p4 p5 p6 p7 p8 p9 : Pos}
/-- what the return of such a dict leaves -/
def Begun (K : PySem.W.Frag) (H0 : Hp) (kvs : Addr → Addr → List (Key × V)) (ws : List D) (Q : List D → Prop) (R : VK) : Prop := ∀ a w c vs us cs H', Ex H0 H' → H0 a = none → H0 w = none → H0 c = none → w ≠ c → H' a = some (.dK (kvs w c)) → H' w = some (.lst vs) → vs.length ≤ sizeLine → RepL K zone0 H' ws vs →
  H' c = some (.lst us) → us.length ≤ sizeLine → RepL K zone0 H' cs us → Q cs → R (.ref a) H'
theorem begun_A (hN : γ.N[i]? = some x) (hv : Vis γ.sc x) (hd : (x == ("__debug__" : Str)) = false) (hcd : (x == ("__classdict__" : Str)) = false) (hc : DN zone0 γ ce tc) (k1 : kw ≠ "cells") (k2 : kw ≠ "rest") (k3 : kw ≠ "turn") (W : WX) :
    ∃ ts, (∀ X, Fam γ W X → PS X (.Return (some (.Dict [some (.Constant (.str kw) j1 p1), some (.Constant (.str "cells") j2 p2), some (.Constant (.str "rest") j3 p3), some (.Constant (.str "turn") j4 p4)] [.Name x p5, ce, .Constant (.int 0) j5 p6, .Constant (.int 0) j6 p7] p8)) p9) ts) ∧
      ∀ κ ρ σ H H0 ws Q Ds, SR γ.g.K zone0 κ H0 ρ σ H → ρ[i]? = some (.own ws) → tc ρ κ (fun d _ => ∃ cs, d = .lst cs ∧ Q cs) (fun _ _ => False) →
        Begun γ.g.K H0 (fun w c => [(.inr kw, .ref w), (.inr "cells", .ref c), (.inr "rest", .int 0), (.inr "turn", .int 0)]) ws Q Ds.rt → ts Ds σ H := by
  obtain ⟨te, pe, rd⟩ := hc W
  refine ⟨tRet (tDisp [(tC (.str kw), tVar i), (tC (.str "cells"), te), (tC (.str "rest"), tC (.int 0)), (tC (.str "turn"), tC (.int 0))]), fun X F => ?_, fun κ ρ σ H H0 ws Q Ds S hw q b => ?_⟩
  · exact ps_ret (pe_disp (pps_cons pe_str (pe_var (by rw [F.N]; exact hN) (F.vis hv) hd hcd) (pps_cons pe_str (pe X F) (pps_cons pe_str pe_int (pps_cons pe_str pe_int pps_nil)))) rfl rfl (by simp) (by simp))
  · intro a ha
    obtain ⟨w, vs, e1, h0w, hw1, lw, rw1⟩ := S.own hw
    have x1 : Ex H (upd H a (.dK [])) := Ex.new ha
    have h0a : H0 a = none := by
      cases e : H0 a with
      | none => rfl
      | some o =>
        have := S.ext a o e fun z => z
        rw [ha] at this
        cases this
    refine ⟨_, e1, ?_⟩
    refine rd ρ σ _ H0 _ _ _ (S.mono (x1.ext (Z := zone0)) trivial) q (fun c xs us H1 e2 _ hn hp hl r1 q1 => ?_) fun _ _ _ _ _ _ _ z => z.elim
    obtain ⟨cs, e3, q1⟩ := q1
    cases e3
    have y1 : Ex (upd H a (.dK [])) H1 := ext0 e2
    have aH1 : H1 a = some (.dK []) := y1 _ _ upd_same
    refine ⟨aH1, [(.inr kw, .ref w), (.inr "cells", .ref c), (.inr "rest", .int 0), (.inr "turn", .int 0)], rfl, by simp, ?_⟩
    have em : mergeK [] [((.inr kw : Key), V.ref w), (.inr "cells", .ref c), (.inr "rest", .int 0), (.inr "turn", .int 0)] = [(.inr kw, .ref w), (.inr "cells", .ref c), (.inr "rest", .int 0), (.inr "turn", .int 0)] := by
      have u1 : ¬ (("cells" : Str) = "rest") := by decide
      have u2 : ¬ (("cells" : Str) = "turn") := by decide
      have u3 : ¬ (("rest" : Str) = "turn") := by decide
      simp [mergeK, putK, k1, k2, k3, u1, u2, u3]
    rw [em]
    have wa : w ≠ a := ne_of_none hw1 ha
    have wc : w ≠ c := ne_of_none (x1 _ _ hw1) hn
    have ca : c ≠ a := fun z => by rw [z, upd_same] at hn; cases hn
    have h0c : H0 c = none := by
      cases e : H0 c with
      | none => rfl
      | some o =>
        have := x1 _ _ (S.ext c o e fun z => z)
        rw [hn] at this
        cases this
    have fin : Ex H0 (upd H1 a (.dK [(.inr kw, .ref w), (.inr "cells", .ref c), (.inr "rest", .int 0), (.inr "turn", .int 0)])) := fun b o e => by
      have nb : b ≠ a := fun z => by rw [z, h0a] at e; cases e
      rw [upd_ne nb]
      exact y1 _ _ (x1 _ _ (S.ext b o e fun z => z))
    have st1 : Stb H (upd H1 a (.dK [(.inr kw, .ref w), (.inr "cells", .ref c), (.inr "rest", .int 0), (.inr "turn", .int 0)])) := fun b o e _ => by
      rw [upd_ne (ne_of_none e ha)]
      exact y1 _ _ (x1 _ _ e)
    have st2 : Stb H1 (upd H1 a (.dK [(.inr kw, .ref w), (.inr "cells", .ref c), (.inr "rest", .int 0), (.inr "turn", .int 0)])) := fun b o e im => by
      have nb : b ≠ a := fun z => by
        rw [z, aH1] at e
        cases e
        exact im
      rw [upd_ne nb]
      exact e
    exact b a w c vs us xs _ fin h0a h0w h0c wc upd_same (by rw [upd_ne wa]; exact y1 _ _ (x1 _ _ hw1)) lw (RepL.stb st1 rw1) (by rw [upd_ne ca]; exact hp) hl (RepL.stb st2 r1) q1
end
end PL

/-! PNb: the def that begins the draw. -/
namespace PL
open PySem
open PySem.Spec
open PyProof.Rows
open L2
/-- the def that begins the draw keeps its promise -/
structure BegC (g : GE) (k : Nat) (nm : Str) (ps : List Str) (kvs : Addr → Addr → List (Key × V)) (okN : List Int → Prop) (f : Addr) (fd : FuncData) : Prop where
  mg : g.mg nm = some (.ref f)
  kp : PySem.W.keepIn g.K (.ref f) = true
  bd : ∀ (s : Shared) (us : List Value), g.K.In s.heap → us.length = ps.length → BindsTo s fd ⟨us, []⟩ (ps.zip us)
  run : ∀ (A : Around) (outer : List PySem.Env) (s : Shared) (H : Hp) (args : Args) (us : List Value) (a : Addr) (ns : List Int) (Q : VK) (E : XK), A.guards = some [] → Room k A → Env0 g.P g.w g.K g.mg g.base A outer s H → BindsTo s fd args (ps.zip us) → Vals [.ref a] us →
    Rep g.K zone0 H (.lst (ns.map D.int)) (.ref a) → okN ns → (∀ (d w c : Addr) (ws cs : List Int) (H' : Hp), Ex H H' → H d = none → H w = none → H c = none → w ≠ c → H' d = some (.dK (kvs w c)) → H' w = some (.lst (ws.map V.int)) → H' c = some (.lst (cs.map V.int)) → cs.length ≤ sizeLine → Q (.ref d) H') →
    codeAny (model g.P g.w) A (.call (.ref f) args) (CR (L2.CX g.P g.w) outer g.P g.w H s Q E) s
section
variable {Φ : Fns} {g : GE} {c : Cfg}
theorem repL_intsV {K : PySem.W.Frag} {Z : Zone} {H : Hp} : ∀ {ns : List Int} {vs : List V}, RepL K Z H (ns.map D.int) vs → vs = ns.map V.int
  | [], _, .nil => rfl
  | n :: ns, _, .cons h r => by rw [repL_intsV r]; rw [h.int_inv]; rfl
/-- what the texts of such a def say -/
def begM (Φ : Fns) (l : Nat) (s : S) (tc : T) (i : Nat) (okN : List Int → Prop) : Prop := ∀ ns, okN ns → semS Φ s (startE l [.lst (ns.map D.int)]) 0 (fun o κ => ∃ ρ, ∃ ws : List Int, o = .nx ρ ∧ ρ[i]? = some (.own (ws.map D.int)) ∧
  sem Φ tc ρ κ (fun d _ => ∃ xs, d = .lst xs ∧ ∃ cs : List Int, xs = cs.map D.int ∧ cs.length ≤ sizeLine) (fun _ _ => False)) (fun _ _ => False)
theorem begC_A {f : Addr} {name qual : Str} {params : Arguments} {s1 : Stmt} {ce : Expr} {scope : Scope} {dV kV doc pm cdv ct oc : Value} {an od : Option Addr} {osl : Array (Option Value)} {N ps : List Str} {s' : S} {tc : T} {n m i : Nat} {mname kw x : Str} {okN : List Int → Prop} {j1 j2 j3 j4 j5 j6 : Nat} {p1 p2 p3 p4 p5 p6 p7 p8 p9 : Pos}
    (lk : g.K.lookup f = some ⟨oc, od, .func (PySem.W.fnOf name qual params [s1, .Return (some (.Dict [some (.Constant (.str kw) j1 p1), some (.Constant (.str "cells") j2 p2), some (.Constant (.str "rest") j3 p3), some (.Constant (.str "turn") j4 p4)] [.Name x p5, ce, .Constant (.int 0) j5 p6, .Constant (.int 0) j6 p7] p8)) p9] scope dV kV doc pm an cdv ct), osl⟩)
    (hcd : PySem.W.codeIn g.K cdv qual = true) (FS : FnScope N ps scope) (hp1 : ps.length = 1)
    (mg : g.mg mname = some (.ref f)) (kp : PySem.W.keepIn g.K (.ref f) = true)
    (bd : ∀ (s : Shared) (us : List Value), g.K.In s.heap → us.length = ps.length → BindsTo s (PySem.W.fnOf name qual params [s1, .Return (some (.Dict [some (.Constant (.str kw) j1 p1), some (.Constant (.str "cells") j2 p2), some (.Constant (.str "rest") j3 p3), some (.Constant (.str "turn") j4 p4)] [.Name x p5, ce, .Constant (.int 0) j5 p6, .Constant (.int 0) j6 p7] p8)) p9] scope dV kV doc pm an cdv ct) ⟨us, []⟩ (ps.zip us))
    {k : Nat} (hN : c.N = N) (ok : CfgOk zone0 Φ g ⟨k, cdv, qual ++ ".<locals>."⟩ c) (hb : trS2 m (trE n c) (fun _ => none) c ⟨scope, none⟩ s1 = some s') (hc : trE n c ⟨scope, none⟩ ce = some tc) (hnew : isNew ce = true) (hi : idx N x = some i) (hv : isVis scope x = true) (hx : nmOk x = true)
    (k1 : kw ≠ "cells") (k2 : kw ≠ "rest") (k3 : kw ≠ "turn") (hm : begM Φ N.length s' tc i okN) :
    ∃ fd, BegC g (k + 1) mname ps (fun w c => [(.inr kw, .ref w), (.inr "cells", .ref c), (.inr "rest", .int 0), (.inr "turn", .int 0)]) okN f fd := by
  subst hN
  refine ⟨_, mg, kp, bd, fun A outer s H args us a ns Q E hg hr e0 hbt hv' rp hok fin => ?_⟩
  have hpl : ps.length ≤ c.N.length := by
    have := congrArg List.length FS.pre
    rw [List.length_take] at this
    omega
  refine LamX.run_ofS lk hcd FS hr e0 hbt hv' (by rw [hp1]; rfl) fun hr' => ?_
  obtain ⟨ts, ps', rs⟩ := trS2_snd (Z := zone0) (k := ⟨scope, none⟩) ok (fun _ _ h => by cases h) hb (fun cls d _ H => E cls d H)
  have hdn : DN zone0 (gmOf g c.N ⟨k, cdv, qual ++ ".<locals>."⟩ ⟨scope, none⟩) ce (sem Φ tc) := (trE_snd ok n ⟨scope, none⟩ ce tc hc).2.2 hnew
  obtain ⟨us2, pu, ru⟩ := begun_A (γ := gmOf g c.N ⟨k, cdv, qual ++ ".<locals>."⟩ ⟨scope, none⟩) (j1 := j1) (j2 := j2) (j3 := j3) (j4 := j4) (j5 := j5) (j6 := j6) (p1 := p1) (p2 := p2) (p3 := p3) (p4 := p4) (p5 := p5) (p6 := p6) (p7 := p7) (p8 := p8) (p9 := p9) (idx_ok hi) (isVis_ok hv) (nmOk_1 hx).1 (nmOk_1 hx).2 hdn k1 k2 k3 (fun cls d _ H => E cls d H)
  have fam : Fam (gmOf g c.N ⟨k, cdv, qual ++ ".<locals>."⟩ ⟨scope, none⟩) (fun cls d _ H => E cls d H) (cxOf (L2.CX g.P g.w) g.P g.w g.K g.mg g.base c.N qual scope f cdv A outer s H E) := {
      ge := rfl
      N := rfl
      nd := FS.nd
      sc := rfl
      room := hr'
      gu := hg
      calm := rfl
      tk := takes_of rfl rfl rfl rfl
      fb := fun x h => rfl
      top := fun _ => ⟨rfl, rfl, rfl, passes_of rfl⟩
      code := fun _ => ⟨rfl, rfl⟩ }
  refine ⟨tSeq ts us2, pss_cons (ps' _ fam) (pss_one (pu _ fam)), ?_⟩
  have rl : RepL g.K zone0 H [.lst (ns.map D.int)] [.ref a] := .cons rp .nil
  have S0 : SR g.K zone0 0 H (startE c.N.length [.lst (ns.map D.int)]) (L2.start c.N [.ref a]) H := sr_start trivial rl (by rw [hp1] at hpl; exact hpl)
  refine rs _ _ H H _ _ _ S0 (hm ns hok) ⟨fun ρ σ H' S _ q => ?_, fun _ _ _ _ _ _ q => ?_, fun _ _ _ _ _ q => ?_, fun _ _ _ _ _ q => ?_⟩ fun _ _ _ _ _ _ _ _ z => z.elim
  · obtain ⟨ρ', ws, e1, hw, q2⟩ := q
    cases e1
    refine ru _ ρ σ H' H _ (fun d => ∃ cs : List Int, d = cs.map D.int ∧ cs.length ≤ sizeLine) _ S hw q2 ?_
    · intro a' w c' vs us xs H2 x1 n1 n2 n3 n4 o1 o2 l2 r2 o3 l3 r3 qq
      obtain ⟨cs, e, lc⟩ := qq
      subst e
      rw [repL_intsV r2] at o2
      rw [repL_intsV r3] at o3
      exact fin a' w c' ws cs H2 x1 n1 n2 n3 n4 o1 o2 o3 lc
  · obtain ⟨_, _, e, _⟩ := q
    cases e
  · obtain ⟨_, _, e, _⟩ := q
    cases e
  · obtain ⟨_, _, e, _⟩ := q
    cases e
end
end PL

/-! PNc: the law's first statement. -/
namespace PL
open PySem
open PySem.Spec
open PyProof.Rows
open L2
section
variable {γ : Gm} {i : Nat} {x nm : Str} {ps : List Str} {kvs : Addr → Addr → List (Key × V)} {okN : List Int → Prop} {f : Addr} {fd : FuncData} {p p2 pos : Pos}
def tBeg (g : GE) (kvs : Addr → Addr → List (Key × V)) (okN : List Int → Prop) (i : Nat) : TE := fun σ H R => ∃ (a : Addr) (ns : List Int), σ[i]? = some (some (.ref a)) ∧ Rep g.K zone0 H (.lst (ns.map D.int)) (.ref a) ∧ okN ns ∧
  ∀ (d w c : Addr) (ws cs : List Int) (H' : Hp), Ex H H' → H d = none → H w = none → H c = none → w ≠ c → H' d = some (.dK (kvs w c)) → H' w = some (.lst (ws.map V.int)) → H' c = some (.lst (cs.map V.int)) → cs.length ≤ sizeLine → R (.ref d) H'
theorem pe_beg {X : Cx} {W : WX} (X1 : Fam γ W X) (c : BegC γ.g γ.k nm ps kvs okN f fd) (hp1 : ps.length = 1) (hN : γ.N[i]? = some x) (hv : Vis γ.sc x) (hd : (x == ("__debug__" : Str)) = false) (hcd : (x == ("__classdict__" : Str)) = false) (hg : γ.sc.names.lookup nm = some .globalImplicit) (hdb : (nm == ("__debug__" : Str)) = false) :
    PE X (.Call (.Name nm p) [.Name x p2] [] pos) (tBeg γ.g kvs okN i) := by
  refine ⟨fun pins s σ H R I h => ?_⟩
  obtain ⟨a, ns, e1, rp, hok, fin⟩ := h
  refine wpAny_Call_Name_kw (ld_glob I (X1.kd hg) (by rw [X1.mg]; exact c.mg) ?_ hdb)
  have pa : PA X [.Name x p2] (tCons (tVar i) tNil) := pa_cons (pe_var (by rw [X1.N]; exact hN) (X1.vis hv) hd hcd) pa_nil
  refine PySem.W.callWith_K (h₀ := X.base) I.ok.mod.kin (by rw [X1.K]; exact c.kp) (thn (pa.run pos pins s σ H (fun vs H1 => vs = [.ref a] ∧ H1 = H) I ⟨_, e1, rfl, rfl⟩) fun us s1 ⟨vs, H1, I1, r, q⟩ => ⟨I1.kIn, ?_⟩) (star_cons rfl _) (back_any rfl _)
  obtain ⟨q1, q2⟩ := q
  subst q1 q2
  have ge := X1.ge
  have hb := c.bd s1 us (kin_of X1 I1) (by rw [← r.length, hp1]; rfl)
  obtain ⟨g, N, sc, k, top, fb, cd, ql⟩ := γ
  simp only at ge
  subst ge
  refine wpAny_call (codeAny_mono (c.run X.A X.stack s1 H1 ⟨us, []⟩ us a ns R (fun _ _ _ => False) X1.gu X1.room I1.env0 hb r rp hok fin) fun r s' hq => ?_)
  cases r with
  | error e =>
    obtain ⟨_, _, _, _, _, _, _, _, _, _, _, _, z⟩ := hq
    exact z.elim
  | ok fl =>
    cases fl with
    | ret u => exact I1.after hq
    | next => exact False.elim hq
    | brk => exact False.elim hq
    | cont => exact False.elim hq
end
end PL

/-! PNd: the law's body. -/
namespace PL
open PySem
open PySem.Spec
open PyProof.Rows
open L2
/-- the draw's dict at its start -/
def KvOk (ks : List Key) (kw : Str) (kvs : Addr → Addr → List (Key × V)) : Prop := ∀ w c, (kvs w c).map (·.1) = ks ∧ valV (kvs w c) (.inr kw) = some (.ref w) ∧ valV (kvs w c) (.inr ("cells" : Str)) = some (.ref c) ∧ valV (kvs w c) (.inr ("rest" : Str)) = some (.int 0) ∧ valV (kvs w c) (.inr ("turn" : Str)) = some (.int 0)
def tAny (ts : Addr → Addr → Addr → TS) : TS := fun D σ H => ∃ d w c, tFrz (ts d w c) D σ H
theorem pss_any {X : Cx} {sts : List Stmt} {ts : Addr → Addr → Addr → TS} (h : ∀ d w c, PSs X sts (ts d w c)) : PSs X sts (tAny ts) := ⟨fun pins s σ H D I ⟨d, w, c, q⟩ => (pss_frz (h d w c)).run pins s σ H D I q⟩
section
variable {Φ : Fns} {g : GE} {c : Cfg}
theorem law_run {f fb a : Addr} {fdb : FuncData} {name qual : Str} {params : Arguments} {rest : List Stmt} {scope : Scope} {dV kV doc pm cdv ct oc : Value} {an od : Option Addr} {osl : Array (Option Value)} {N ps : List Str} {ss : List S} {n j kt : Nat} {nm sn dn kw : Str} {okN : List Int → Prop} {p p2 p3 p4 p5 : Pos} {ks : List Key} {kvs : Addr → Addr → List (Key × V)} {T : List (Addr × Str)} {ex : List (Str × Addr)} {oa : Obj} {ns : List Int} {k : Nat} {s : Shared} {H : Hp} {A : Around}
    (lk : g.K.lookup f = some ⟨oc, od, .func (PySem.W.fnOf name qual params (.Assign [.Name dn p] (.Call (.Name nm p2) [.Name sn p3] [] p4) p5 :: rest) scope dV kV doc pm an cdv ct), osl⟩)
    (hcd : PySem.W.codeIn g.K cdv qual = true) (FS : FnScope N [sn] scope) (hN : c.N = N) (B : BegC g k nm ps kvs okN fb fdb) (hp1 : ps.length = 1)
    (hs0 : idx N sn = some 0) (hj : idx N dn = some j) (hv : isVis scope sn = true) (hx : nmOk sn = true) (hdl : scope.names.lookup dn = some .local) (hg : scope.names.lookup nm = some .globalImplicit) (hdb : (nm == ("__debug__" : Str)) = false)
    (kv : KvOk ks kw kvs) (ok : ∀ d w c', CfgOk (zD g kt ⟨d, w, c', ks, kw, T, ex⟩) Φ g ⟨k, cdv, qual ++ ".<locals>."⟩ c) (hb : trB n c ⟨scope, none⟩ rest = some ss)
    (hm : semB Φ ss ((startE N.length [.lst (ns.map D.int)]).set j (.val .drw)) 0 (fun o _ => o = .rt (.bl true)) (fun _ _ => False))
    (hA : A.guards = some []) (hr : Room (k + 1) A) (e0 : Env0 g.P g.w g.K g.mg g.base A [] s H) (hbt : BindsTo s (PySem.W.fnOf name qual params (.Assign [.Name dn p] (.Call (.Name nm p2) [.Name sn p3] [] p4) p5 :: rest) scope dV kV doc pm an cdv ct) ⟨[.ref a], []⟩ [(sn, .ref a)])
    (ha : H a = some (.frz oa (.lst (ns.map V.int)))) (hl : ns.length ≤ sizeLine) (hok : okN ns) (tb : LamX.Tabs T H) :
    codeAny (model g.P g.w) A (.call (.ref f) ⟨[.ref a], []⟩) (CR (L2.CX g.P g.w) [] g.P g.w H s (fun v _ => v = .bl true) (fun _ _ _ => False)) s := by
  subst hN
  have hpl : 1 ≤ c.N.length := by
    have := congrArg List.length FS.pre
    rw [List.length_take] at this
    simp at this
    omega
  refine LamX.run_ofS (us := [.ref a]) (vs := [.ref a]) lk hcd FS hr e0 hbt (.cons rfl .nil) rfl fun hr' => ?_
  let γ := gmOf g c.N ⟨k, cdv, qual ++ ".<locals>."⟩ ⟨scope, none⟩
  let W : WX := fun cls d _ H => False
  have fam : Fam γ W (cxOf (L2.CX g.P g.w) g.P g.w g.K g.mg g.base c.N qual scope f cdv A [] s H (fun _ _ _ => False)) := {
      ge := rfl
      N := rfl
      nd := FS.nd
      sc := rfl
      room := hr'
      gu := hA
      calm := rfl
      tk := takes_of rfl rfl rfl rfl
      fb := fun x h => rfl
      top := fun _ => ⟨rfl, rfl, rfl, passes_of rfl⟩
      code := fun _ => ⟨rfl, rfl⟩ }
  have R := fun d w c' => trB_snd (ok d w c') hb W
  let ts := fun d w c' => Classical.choose (R d w c')
  have hts := fun d w c' => Classical.choose_spec (R d w c')
  have pc := pe_beg (γ := γ) (p := p2) (p2 := p3) (pos := p4) fam B hp1 (idx_ok hs0) (isVis_ok hv) (nmOk_1 hx).1 (nmOk_1 hx).2 hg hdb
  refine ⟨tSeq (tAsg (tBeg g kvs okN 0) (gName j)) (tAny ts), pss_cons (ps_set (by exact FS.nd) (idx_ok hj) (.inl hdl) pc (sw_no rfl _ _ _) (.inr hdl)) (pss_any fun d w c' => (hts d w c').1 _ fam), ?_⟩
  refine ⟨a, ns, rfl, .lst ha (by rw [List.length_map]; exact hl) (repL_ints ns), hok, fun d w c' ws cs H1 x1 n1 n2 n3 n4 o1 o2 o3 l3 => ?_⟩
  refine ⟨d, w, c', .inr ⟨c', .lst (cs.map V.int), o3, trivial, fun oc => ?_⟩⟩
  let P : DrP := ⟨d, w, c', ks, kw, T, ex⟩
  let H2 := upd H1 c' (.frz oc (.lst (cs.map V.int)))
  have x2 : Ex H H2 := fun b o e => by
    show upd H1 c' _ b = some o
    rw [upd_ne (ne_of_none e n3)]
    exact x1 b o e
  have dc : d ≠ c' := fun z => by rw [z, o3] at o1; cases o1
  obtain ⟨g1, g2, g3, g4, g5⟩ := kv w c'
  have dk : dok P 0 H2 := ⟨⟨kvs w c', ws, cs, 0, 0, oc, (upd_ne dc).trans o1, g1, g2, g3, g4, g5, (upd_ne n4).trans o2, upd_same, l3, Nat.le_refl _⟩, fun q hq => (tb q hq).ext x2⟩
  have jl : j < c.N.length := (List.getElem?_eq_some_iff.mp (idx_ok hj)).1
  have S0 : SR g.K (zD g kt P) 0 H2 (startE c.N.length [.lst (ns.map D.int)]) (L2.start c.N [.ref a]) H2 := sr_start dk (.cons (.lst (x2 _ _ ha) (by rw [List.length_map]; exact hl) (repL_ints ns)) .nil) hpl
  have S1 := S0.setV (i := j) (d := .drw) (v := .ref d) (.oth (.inl (.inl ⟨rfl, rfl⟩)))
  refine (hts d w c').2 _ _ H2 H2 _ _ _ S1 hm ⟨fun _ _ _ _ _ q => ?_, fun d' v H' _ _ r q => ?_, fun _ _ _ _ _ q => ?_, fun _ _ _ _ _ q => ?_⟩ fun _ _ _ _ _ _ _ _ z => z.elim
  · cases q
  · cases q
    exact r.bl_inv
  · cases q
  · cases q
end
end PL

/-! PNe: the call of the law from outside. -/
namespace PL
open PySem
open PySem.Spec
open PyProof.Rows
open L2
/-- the abstract heap at the start: the tables, the script -/
def H0of (ts : List Addr) (a : Addr) (o : Obj) (ns : List Int) : Hp := fun b => if b = a then some (.frz o (.lst (ns.map V.int))) else if b ∈ ts then some (.tbl #[]) else none
theorem H0of_a {ts : List Addr} {a : Addr} {o : Obj} {ns : List Int} : H0of ts a o ns a = some (.frz o (.lst (ns.map V.int))) := if_pos rfl
theorem H0of_t {ts : List Addr} {a b : Addr} {o : Obj} {ns : List Int} (n : b ≠ a) (h : b ∈ ts) : H0of ts a o ns b = some (.tbl #[]) := (if_neg n).trans (if_pos h)
theorem H0of_inv {ts : List Addr} {a b : Addr} {o : Obj} {ns : List Int} {u : HO} (h : H0of ts a o ns b = some u) : (b = a ∧ u = .frz o (.lst (ns.map V.int))) ∨ (b ≠ a ∧ b ∈ ts ∧ u = .tbl #[]) := by
  unfold H0of at h
  by_cases e : b = a
  · rw [if_pos e] at h; cases h; exact .inl ⟨e, rfl⟩
  · rw [if_neg e] at h
    by_cases m : b ∈ ts
    · rw [if_pos m] at h; cases h; exact .inr ⟨e, m, rfl⟩
    · rw [if_neg m] at h; cases h
theorem law_callC {P : Program} {w : World} {K : PySem.W.Frag} {mg mb : Str → Option Value} {fa a : Addr} {cs : List (Addr × Addr)} {t1 : Shared} {vs : List Value} {ns : List Int}
    (KX : K.In t1.heap) (gN : t1.heap.Ns mainGlobals mg) (bN : t1.heap.Ns builtinsNs mb) (bB : ∀ x : Str, x ≠ "__name__" → mb x = bootBuiltins x) (lim : t1.heap.NoLimit) (g0 : t1.gens = #[])
    (hT : ∀ p ∈ cs, t1.heap.get? p.2 = some { cls := .none, data := .fields #[] }) (nT : ∀ p ∈ cs, K.lookup p.2 = none) (C : ∀ p ∈ cs, PySem.W.CodeHd t1.heap p.1 p.2)
    (bm : ∃ (bm : Addr) (ob : Obj), mg "__builtins__" = some (.ref bm) ∧ bm ≠ builtinsNs ∧ t1.heap.get? bm = some ob ∧ ob.cls = .type "module" ∧ ob.dict = some builtinsNs ∧ ob.data = .plain)
    (la : t1.heap.get? a = some { cls := .type "list", data := .seq vs.toArray }) (hi : IntsAre vs ns) (hl : ns.length ≤ sizeLine) (nK : K.lookup a = none)
    (F : ∀ (base : Heap) (H : Hp), K.In base → base.Ns mainGlobals mg → (∀ p ∈ cs, LamX.TabB base mg p.1 p.2) → (∀ p ∈ cs, H p.2 = some (.tbl #[])) → H a = some (.frz { cls := .type "list", data := .seq vs.toArray } (.lst (ns.map V.int))) → Env0 P w K mg base callerA [] t1 H →
      codeAny (model P w) callerA (.call (.ref fa) ⟨[.ref a], []⟩) (CR (L2.CX P w) [] P w H t1 (fun v _ => v = .bl true) (fun _ _ _ => False)) t1) :
    codeAny (model P w) callerA (.call (.ref fa) ⟨[.ref a], []⟩) (fun r t' => r = .ok (.ret (.bool true)) ∧ OldK t1.heap t'.heap ∧ t'.os = t1.os ∧ AllBare t'.gens) t1 := by
  have rv := vals_ints hi
  have isT : ∀ b, b ∈ cs.map (·.2) → t1.heap.get? b = some { cls := .none, data := .fields #[] } := by
    intro b hb
    obtain ⟨p, hp, e⟩ := List.mem_map.mp hb
    subst e
    exact hT p hp
  have aT : a ∉ cs.map (·.2) := by
    intro z
    have q := isT a z
    rw [la] at q
    cases congrArg Obj.data (Option.some.inj q)
  generalize hH : H0of (cs.map (·.2)) a { cls := .type "list", data := .seq vs.toArray } ns = H
  have hHa : H a = some (.frz { cls := .type "list", data := .seq vs.toArray } (.lst (ns.map V.int))) := by rw [← hH]; exact H0of_a
  have hHt : ∀ b ∈ cs.map (·.2), H b = some (.tbl #[]) := by
    intro b hb
    rw [← hH]
    exact H0of_t (by intro z; rw [z] at hb; exact aT hb) hb
  have inv : ∀ {b u}, H b = some u → (b = a ∧ u = .frz { cls := .type "list", data := .seq vs.toArray } (.lst (ns.map V.int))) ∨ (b ≠ a ∧ b ∈ cs.map (·.2) ∧ u = .tbl #[]) := by
    intro b u h
    rw [← hH] at h
    exact H0of_inv h
  have hok : HOk P w H t1.heap := by
    intro b u z
    rcases inv z with ⟨e1, e2⟩ | ⟨_, m, e2⟩
    · subst e1 e2
      exact ⟨la, by rw [List.length_map]; exact hl, vs, _, rv, la⟩
    · subst e2
      exact isT b m
  have base_of : ∀ {b o}, t1.heap.get? b = some o → H b = none → (hidT t1.heap H).get? b = some o := fun e n => hidT_get e n
  have noD : ∀ {b o}, t1.heap.get? b = some o → (∀ vs n, o.data ≠ .seq vs n) → o.data ≠ .fields #[] → H b = none := by
    intro b o e h1 h2
    cases q : H b with
    | none => rfl
    | some u =>
      rcases inv q with ⟨e1, _⟩ | ⟨_, m, _⟩
      · rw [e1, la] at e
        cases e
        exact (h1 _ _ rfl).elim
      · rw [isT b m] at e
        cases e
        exact (h2 rfl).elim
  have nsK : ∀ {b m}, t1.heap.Ns b m → (hidT t1.heap H).Ns b m := by
    intro b m ⟨o, es, ep, e, d, r⟩
    refine ⟨o, es, ep, base_of e (noD e ?_ ?_), d, r⟩
    · intro vs n z; rw [d] at z; cases z
    · intro z; rw [d] at z; cases z
  have hKb : K.In (hidT t1.heap H) := by
    intro b o e
    refine base_of (KX b o e) ?_
    cases q : H b with
    | none => rfl
    | some u =>
      rcases inv q with ⟨e1, _⟩ | ⟨_, m, _⟩
      · rw [e1, nK] at e; cases e
      · obtain ⟨p, hp, ep⟩ := List.mem_map.mp m
        rw [← ep, nT p hp] at e; cases e
  have hM : L2.Mod K mg (hidT t1.heap H) := by
    refine ⟨hKb, nsK gN, ⟨mb, nsK bN, bB⟩, ?_⟩
    obtain ⟨mc, h1, h2⟩ := lim
    exact ⟨mc, nsK h1, h2⟩
  have TB : ∀ p ∈ cs, LamX.TabB (hidT t1.heap H) mg p.1 p.2 := by
    intro p hp
    have hTp := hT p hp
    refine ⟨?_, ?_, ?_⟩
    · obtain ⟨o, us, file, tf, flags, tg, inF, text, tt, e1, r1, r2, r3, r4, r5, r6, r7, r8, hne⟩ := C p hp
      refine ⟨o, us, file, tf, flags, tg, inF, text, tt, base_of e1 (noD e1 ?_ ?_), r1, r2, r3, r4, r5, r6, r7, r8, hne⟩
      · intro vs n z; rw [r2] at z; cases z
      · intro z; rw [r2] at z; cases z; simp at r3
    · obtain ⟨bm, ob, b1, b2, b3, b4, b5, b6⟩ := bm
      have nG : bm ≠ mainGlobals := by
        intro q
        obtain ⟨o, es, ep, e, hd, _⟩ := gN
        rw [q, e] at b3
        cases b3
        rw [hd] at b6
        cases b6
      have nP : bm ≠ p.2 := by
        intro q
        rw [q, hTp] at b3
        cases b3
        cases b6
      refine ⟨bm, ob, b1, b2, nG, nP, base_of b3 (noD b3 ?_ ?_), b4, b5, b6⟩
      · intro vs n z; rw [b6] at z; cases z
      · intro z; rw [b6] at z; cases z
    · intro z
      obtain ⟨o, es, ep, e, hd, _⟩ := gN
      rw [z, hTp] at e
      cases e
      cases hd
  have e0 : Env0 P w K mg (hidT t1.heap H) callerA [] t1 H := by
    refine ⟨rfl, hM, ?_, Nat.le_of_eq (hidT_size _ _), trivial, ?_, hok, .of_eq g0⟩
    · intro b o e; exact of_hidT e
    · intro b hb
      have hb' : b ∈ ([] : List Addr) := hb
      simp at hb'
  refine codeAny_mono (F _ H hKb (nsK gN) TB (fun p hp => hHt _ (List.mem_map.mpr ⟨p, hp, rfl⟩)) hHa e0) ?_
  intro r t' h
  cases r with
  | error e =>
    obtain ⟨_, _, _, _, _, _, _, _, _, _, _, _, z⟩ := h
    exact z.elim
  | ok fl =>
    cases fl with
    | next => exact False.elim h
    | brk => exact False.elim h
    | cont => exact False.elim h
    | ret u =>
      obtain ⟨v, H', os, bare, un, hok', r', q⟩ := h
      obtain rfl : v = .bl true := q
      obtain rfl : u = Value.bool true := r'
      have key : ∀ b o, b ∉ cs.map (·.2) → t1.heap.get? b = some o → t'.heap.get? b = some o := by
        intro b o nb e
        cases q : H b with
        | none =>
          refine un.keep b o e q ?_ (by simp)
          intro z
          have z' : b ∈ ([] : List Addr) := z
          simp at z'
        | some u =>
          rcases inv q with ⟨e1, e2⟩ | ⟨_, m, _⟩
          · subst e1 e2
            have z2 := un.frzs _ _ _ q
            obtain ⟨e1, _⟩ := hok _ _ q
            obtain ⟨e2, _⟩ := hok' _ _ z2
            rw [e] at e1; cases e1
            exact e2
          · exact absurd m nb
      have grown : ∀ p ∈ cs, ∃ more : Array Value, t'.heap.get? p.2 = some { cls := .none, data := .fields more } := by
        intro p hp
        obtain ⟨more, z⟩ := un.tbls p.2 #[] (hHt _ (List.mem_map.mpr ⟨p, hp, rfl⟩))
        exact ⟨_, hok' p.2 _ z⟩
      refine ⟨rfl, ⟨?_, ?_⟩, os, bare⟩
      · intro b o e
        by_cases hb : b ∈ cs.map (·.2)
        · obtain ⟨p, hp, ep⟩ := List.mem_map.mp hb
          obtain ⟨more, hm⟩ := grown p hp
          subst ep
          rw [hT p hp] at e
          cases e
          exact .inr (.inl ⟨((C p hp).tab (hT p hp)).isCodeTable, rfl, #[], more, rfl, by rw [Array.empty_append]; exact hm⟩)
        · exact .inl (key b o hb e)
      · intro b o e
        by_cases hb : b ∈ cs.map (·.2)
        · obtain ⟨p, hp, ep⟩ := List.mem_map.mp hb
          obtain ⟨more, hm⟩ := grown p hp
          subst ep
          exact ⟨_, hm⟩
        · exact ⟨o, key b o hb e⟩
end PL

/-! PNf: from the head to the law's call. -/
namespace PL
open PySem
open PySem.Spec
open PyProof.Rows
open L2
/-- no list lies in K -/
def noLst (K : PySem.W.Frag) : Bool := K.all fun q => match q.2.cls with | .type c => !decide (c = "list") | _ => true
theorem noLst_ok {K : PySem.W.Frag} (h : noLst K = true) {a : Addr} {o : Obj} (e : K.lookup a = some o) : o.cls ≠ .type "list" := by
  intro z
  have q := List.all_eq_true.mp h _ (He.lookup_mem e)
  simp [z] at q
/-- the law's call, from any base -/
def LawRuns (P : Program) (w : World) (K : PySem.W.Frag) (mg : Str → Option Value) (fa : Addr) (n : Nat) (cs : List (Addr × Addr)) : Prop :=
  ∀ (base : Heap) (H : Hp) (a : Addr) (ns : List Int) (oa : Obj) (t1 : Shared), K.In base → base.Ns mainGlobals mg → (∀ p ∈ cs, LamX.TabB base mg p.1 p.2) → (∀ p ∈ cs, H p.2 = some (.tbl #[])) → H a = some (.frz oa (.lst (ns.map V.int))) → ns.length ≤ n →
    Env0 P w K mg base callerA [] t1 H → codeAny (model P w) callerA (.call (.ref fa) ⟨[.ref a], []⟩) (CR (L2.CX P w) [] P w H t1 (fun v _ => v = .bl true) (fun _ _ _ => False)) t1
theorem walk_C {l : PySem.W.OpenLaw} {n nn : Nat} {q : Program} {loose : List Str} {XP : (Str → Option Value) → Heap → Prop} {d : DefRec} {fas : List He.Fa} {fn : List He.DefD} {ts : List He.Tab} {tf : List He.Defn} {ex : PySem.W.Frag → Bool}
    (hn : l.most = some n) (hn2 : n ≤ sizeLine) (hdf : d.params.defaults = []) (hex : ∀ K, ex K = true → noLst K = true)
    (F : ∀ (w : World) (K : PySem.W.Frag) (mg : Str → Option Value) (fa : Addr) (h : Heap), K.In h → h.Ns mainGlobals mg → He.SaysT fas fn ts w K → ex K = true → mg d.name = some (.ref fa) → LawRuns l.prog w K mg fa n (tf.map (He.cT K))) :
    PySem.W.WalkO q loose XP (He.hookX nn fas fn ts tf ex).says l.row.toRowW d [] (fun f vs => PySem.call f vs) := by
  refine Att.attach_callB hn hdf fun w s₀ s₁ mg mb fa o pm cd doc a vs ns G Y ho hd hcd hmg hobj hints hlen hbits hg => ?_
  obtain ⟨K, KX, S⟩ := Y
  have tm : ∀ {p}, p ∈ tf.map (He.cT K) → ∃ x ∈ tf, He.cT K x = p := fun h => List.mem_map.mp h
  refine law_callC (cs := tf.map (He.cT K)) KX G.T.g G.T.b G.T.builtins G.T.nolimit hg (fun p hp => ?_) (fun p hp => ?_) (fun p hp => ?_) G.T.bmain hobj hints (Nat.le_trans hlen hn2) ?_ fun base H hK hN TB hT hA e0 => ?_
  · obtain ⟨x, hx, e⟩ := tm hp
    subst e
    exact S.empty x hx
  · obtain ⟨x, hx, e⟩ := tm hp
    subst e
    exact S.out x hx
  · obtain ⟨x, hx, e⟩ := tm hp
    subst e
    exact PySem.W.codeHd_of_K KX (S.hd x hx)
  · cases e : K.lookup a with
    | none => rfl
    | some u =>
      have z := KX a u e
      rw [hobj] at z
      cases z
      exact absurd rfl (noLst_ok (hex K S.more) e)
  · exact F w K mg fa _ KX G.T.g S.t S.more hmg base H a ns _ s₁ hK hN TB hT hA hlen e0
end PL

/-! PNg: what the head says, turned to the translator's needs. -/
namespace PL
open PySem
open PySem.Spec
open PyProof.Rows
open L2
/-- names with their classes -/
def exL (K : PySem.W.Frag) (ns : List Str) : List (Str × Addr) := ns.map fun x => (x, He.ga K x)
def eqOV (a b : Option (Option Value)) : Bool := decide (a = b)
def excB (K : PySem.W.Frag) (C : Addr) : Bool := He.eqO (PySem.W.findIn K (.ref C) "__getattribute__") (some (some (.builtin "BaseException.__getattribute__"))) && (He.eqO (PySem.W.findIn K (.ref C) "__getattr__") (some none) && (decide (PySem.W.subIn K (.ref C) (.type "BaseException") = some true) &&
  (PySem.W.hasDictIn K C && (He.eqO (PySem.W.findIn K (.ref C) "__class__") (some (some (.builtin "object.__class__"))) && (He.eqO (PySem.W.specialIn K (.builtin "object.__class__") "__get__") (some (some (.builtin "getset_descriptor.__get__"))) &&
  (decide (PySem.W.takesIn K (.builtin "object.__class__") = some true) && decide (PySem.W.mroIn K C (.type "object") = some true)))))))
theorem excB_ok {K : PySem.W.Frag} {C : Addr} (h : excB K C = true) : ExcC K C := by
  obtain ⟨h1, h⟩ := He.ba h
  obtain ⟨h2, h⟩ := He.ba h
  obtain ⟨h3, h⟩ := He.ba h
  obtain ⟨h4, h⟩ := He.ba h
  obtain ⟨h5, h⟩ := He.ba h
  obtain ⟨h6, h⟩ := He.ba h
  obtain ⟨h7, h8⟩ := He.ba h
  exact ⟨He.eqO_ok h1, He.eqO_ok h2, of_decide_eq_true h3, h4, He.eqO_ok h5, He.eqO_ok h6, of_decide_eq_true h7, of_decide_eq_true h8⟩
def exTB (K : PySem.W.Frag) (ex : List (Str × Addr)) : Bool := (ex.all fun q => excB K q.2) && ((ex.all fun q => decide (q.1 = baseX) || ex.all fun c => decide (PySem.W.kitOne K (.ref q.2) (.ref c.2) = some (decide (q.1 = c.1) || decide (c.1 = baseX)))) &&
  ((ex.all fun c => decide (PySem.W.kitOne K (.type "NoneType") (.ref c.2) = some false)) && (ex.all fun q => decide (q.1 = baseX) || ex.all fun c => !decide (c.1 = baseX) || decide (PySem.W.exmOne K (.ref q.2) (.ref c.2) = some true))))
theorem exTB_ok {K : PySem.W.Frag} {ex : List (Str × Addr)} (h : exTB K ex = true) : ExT K ex := by
  obtain ⟨h1, h⟩ := He.ba h
  obtain ⟨h2, h⟩ := He.ba h
  obtain ⟨h3, h4⟩ := He.ba h
  rw [List.all_eq_true] at h1 h2 h3 h4
  refine ⟨fun q hq => excB_ok (h1 q hq), fun q hq n c hc => ?_, fun c hc => of_decide_eq_true (h3 c hc), fun q hq n c hc e => ?_⟩
  · have z := h2 q hq
    rw [decide_eq_false n, Bool.false_or, List.all_eq_true] at z
    exact of_decide_eq_true (z c hc)
  · have z := h4 q hq
    rw [decide_eq_false n, Bool.false_or, List.all_eq_true] at z
    have y := z c hc
    rw [decide_eq_true e, Bool.not_true, Bool.false_or] at y
    exact of_decide_eq_true y
/-- what a law's own Bool of K holds -/
def exK (ns : List Str) (K : PySem.W.Frag) : Bool := noLst K && exTB K (exL K ns)
section
variable {g : GE} {fa : List He.Fa} {fn : List He.DefD}
/-- the base keeps what the head says -/
structure Hd (g : GE) (fa : List He.Fa) (fn : List He.DefD) : Prop where
  s : He.SaysD fa fn g.K
  k : g.K.In g.base
  n : g.base.Ns mainGlobals g.mg
theorem Hd.glo (h : Hd g fa fn) {x : Str} (m : He.Fa.glo x ∈ fa) : g.mg x = some (.ref (He.ga g.K x)) := He.glo_ok h.k h.n (h.s.facts m)
theorem Hd.free (h : Hd g fa fn) {x : Str} (m : He.Fa.free x ∈ fa) : g.mg x = none := He.free_ok h.k h.n (h.s.facts m)
theorem Hd.blt (h : Hd g fa fn) (m : ∀ b ∈ bltNames, He.Fa.free b ∈ fa) : ∀ b ∈ bltNames, g.mg b = none := fun b hb => h.free (m b hb)
theorem Hd.exm (h : Hd g fa fn) {P : DrP} {ns : List Str} (e : P.ex = exL g.K ns) (he : exK ns g.K = true) (m : ∀ x ∈ ns, He.Fa.glo x ∈ fa) : ExM g P := by
  refine ⟨by rw [e]; exact exTB_ok (He.ba he).2, fun q hq => ?_⟩
  rw [e] at hq
  obtain ⟨x, hx, rfl⟩ := List.mem_map.mp hq
  exact h.glo (m x hx)
theorem Hd.exk (h : Hd g fa fn) {P : DrP} {kt : Nat} {ns : List Str} (e : P.ex = exL g.K ns) {x : Str} (hx : x ∈ ns) (nb : x ≠ baseX) (m : He.Fa.glo x ∈ fa) (m2 : He.Fa.exc x ∈ fa) : ExK g (zD g kt P) x := by
  obtain ⟨c1, c2, c3, c4⟩ := He.exc_ok (h.s.facts m2)
  refine ⟨He.ga g.K x, He.veBase, "ValueError", _, _, PySem.F.excBase_ValueError, c1, h.glo m, c2, c3, c4, fun H sm => ?_⟩
  · exact ⟨x, He.ga g.K x, rfl, by rw [e]; exact List.mem_map.mpr ⟨x, hx, rfl⟩, nb, rfl, rfl⟩
theorem Hd.int (h : Hd g fa fn) {Z : Zone} {x : Str} {i : Int} (m : He.Fa.int x i ∈ fa) : ∃ v u, g.mg x = some u ∧ RelV v u ∧ ∀ H, Rep g.K Z H (.int i) v := by
  obtain ⟨t, e⟩ := He.int_ok h.k h.n (h.s.facts m)
  exact ⟨.int i, _, e, ⟨t, rfl⟩, fun H => .int i⟩
theorem Hd.str (h : Hd g fa fn) {Z : Zone} {x z : Str} (m : He.Fa.str x z ∈ fa) (sk : PyData.strOk z = true) : ∃ v u, g.mg x = some u ∧ RelV v u ∧ ∀ H, Rep g.K Z H (.str z) v := by
  obtain ⟨t, e⟩ := He.str_ok h.k h.n (h.s.facts m)
  exact ⟨.str z, _, e, ⟨t, rfl⟩, fun H => .str sk⟩
/-- a def, by the head and the translation of its body -/
theorem Hd.fk (h : Hd g fa fn) {Z : Zone} {Φ : Fns} {nm : Str} {d : He.DefD} {N ps : List Str} {ss : List S} {n k : Nat} {kb : List (Nat × List Str × List Nat)} {sp : List D → M D} {c : Cfg} (hd : d ∈ fn) (hat : d.at_ = (nm, none)) (m : He.Fa.glo nm ∈ fa) (hdf : d.dfl = []) (FS : C8.scC N ps d.scope = true)
    (bd : ∀ (kV doc pm : Value) (an : Option Addr) (cdv ct : Value) (us : List Value), us.length = ps.length → bindArgs (PySem.W.fnOf d.name d.qual d.params d.body d.scope .none kV doc pm an cdv ct) ⟨us, []⟩ = pure (ps.zip us))
    (bk : ∀ q ∈ kb, q.2.2.length = ps.length ∧ (∀ i ∈ q.2.2, i < q.1 + q.2.1.length) ∧ ∀ (kV doc pm : Value) (an : Option Addr) (cdv ct : Value) (us ws : List Value), us.length = q.1 → ws.length = q.2.1.length → bindArgs (PySem.W.fnOf d.name d.qual d.params d.body d.scope .none kV doc pm an cdv ct) ⟨us, q.2.1.zip ws⟩ = pure (ps.zip (permV (us ++ ws) q.2.2)))
    (hN : c.N = N) (ok : ∀ cdv, (∀ cp, cdv = .ref cp → He.codeOf g.K (nm, none) = cp) → CfgOk Z Φ g ⟨k, cdv, d.qual ++ ".<locals>."⟩ c) (hb : trB n c ⟨d.scope, none⟩ d.body = some ss) (hsp : ∀ ds, Le (sp ds) (run Φ N.length ss ds)) : FnK g Z (k + 1) ⟨nm, ps, sp, kb⟩ := by
  obtain ⟨fd, F⟩ := h.s.defs hd
  have kp := F.kp
  obtain ⟨oc, od, dV, kV, doc, pm, an, cdv, ct, osl, rfl, lk, hcd, hD, hK⟩ := F.ex
  have hD' : dV = .none := by
    rcases hD with ⟨_, e⟩ | ⟨e, _⟩
    · exact e
    · exact absurd (by unfold He.DefD.dvs; rw [hdf]; rfl) e
  subst hD'
  have ea : He.fAd g.K d.at_ = He.ga g.K nm := by rw [hat]; rfl
  rw [ea] at lk kp
  exact fnC_of lk hcd (C8.fnScope_by FS) (h.glo m) kp (fun s us _ hl => .of_eq (bd kV doc pm an cdv ct us hl)) (fun q hq => ⟨(bk q hq).1, (bk q hq).2.1, fun s us ws _ l1 l2 => .of_eq ((bk q hq).2.2 kV doc pm an cdv ct us ws l1 l2)⟩) hN (ok cdv fun cp e => He.codeOf_eq (p := (nm, none)) lk e) hb hsp
/-- the configuration of a def, in the zone of the draw -/
theorem cfg_of {P : DrP} {kt : Nat} {Φ : Fns} {r : Rm} {c : Cfg} (M : ExM g P) (blt : ∀ b ∈ bltNames, g.mg b = none) (fns : ∀ F ∈ c.fns, FnK g (zD g kt P) r.k ⟨F.name, F.ps, Φ F.id, F.kb⟩)
    (gls : ∀ x d, c.gls.lookup x = some d → ∃ v u, g.mg x = some u ∧ RelV v u ∧ ∀ H, Rep g.K (zD g kt P) H d v) (exs : ∀ x ∈ c.exs, ExK g (zD g kt P) x) (hk : HkOk P g kt Φ r c) (hc : ∀ y ∈ c.cls, y ∈ P.ex.map (·.1)) (ht : c.tr = true → baseX ∈ P.ex.map (·.1) ∧ kt ≤ r.k)
    (lam : c.lam = true → ∃ k0, LamZ g r kt (zoneD P) ∧ kt = k0 + 1 ∧ ∀ F ∈ c.lfns, FnK g (zD g kt P) k0 ⟨F.name, F.ps, Φ F.id, F.kb⟩) : CfgOk (zD g kt P) Φ g r c where
  fns := fns
  gls := gls
  exs := exs
  blt := blt
  hk := hk_std hk
  hkS := hkS_std hk
  isc := isc_std M hc (blt _ (by decide))
  tr := tr_std M ht
  lam := fun z => by
    obtain ⟨k0, a, b, c⟩ := lam z
    exact ⟨kt, zoneD P, k0, rfl, a, b, c⟩
end
end PL

/-! PNh: the def that begins the draw, the law, by the head. -/
namespace PL
open PySem
open PySem.Spec
open PyProof.Rows
open L2
section
variable {g : GE} {fa : List He.Fa} {fn : List He.DefD}
/-- a def's object, by the head -/
theorem Hd.fun_ (h : Hd g fa fn) {nm : Str} {d : He.DefD} (hd : d ∈ fn) (hat : d.at_ = (nm, none)) (hdf : d.dfl = []) : ∃ (oc : Value) (od : Option Addr) (kV doc pm : Value) (an : Option Addr) (cdv ct : Value) (osl : Array (Option Value)),
    g.K.lookup (He.ga g.K nm) = some ⟨oc, od, .func (PySem.W.fnOf d.name d.qual d.params d.body d.scope .none kV doc pm an cdv ct), osl⟩ ∧ PySem.W.codeIn g.K cdv d.qual = true ∧ PySem.W.keepIn g.K (.ref (He.ga g.K nm)) = true ∧ ∀ cp, cdv = .ref cp → He.codeOf g.K (nm, none) = cp := by
  obtain ⟨fd, F⟩ := h.s.defs hd
  have kp := F.kp
  obtain ⟨oc, od, dV, kV, doc, pm, an, cdv, ct, osl, rfl, lk, hcd, hD, hK⟩ := F.ex
  have hD' : dV = .none := by
    rcases hD with ⟨_, e⟩ | ⟨e, _⟩
    · exact e
    · exact absurd (by unfold He.DefD.dvs; rw [hdf]; rfl) e
  subst hD'
  have ea : He.fAd g.K d.at_ = He.ga g.K nm := by rw [hat]; rfl
  rw [ea] at lk kp
  exact ⟨oc, od, kV, doc, pm, an, cdv, ct, osl, lk, hcd, kp, fun cp e => He.codeOf_eq (p := (nm, none)) lk e⟩
/-- a def of which nothing is promised yet -/
theorem Hd.fk0 (h : Hd g fa fn) {Z : Zone} {nm : Str} {d : He.DefD} {ps : List Str} {kb : List (Nat × List Str × List Nat)} (hd : d ∈ fn) (hat : d.at_ = (nm, none)) (m : He.Fa.glo nm ∈ fa) (hdf : d.dfl = [])
    (bd : ∀ (kV doc pm : Value) (an : Option Addr) (cdv ct : Value) (us : List Value), us.length = ps.length → bindArgs (PySem.W.fnOf d.name d.qual d.params d.body d.scope .none kV doc pm an cdv ct) ⟨us, []⟩ = pure (ps.zip us))
    (bk : ∀ q ∈ kb, q.2.2.length = ps.length ∧ (∀ i ∈ q.2.2, i < q.1 + q.2.1.length) ∧ ∀ (kV doc pm : Value) (an : Option Addr) (cdv ct : Value) (us ws : List Value), us.length = q.1 → ws.length = q.2.1.length → bindArgs (PySem.W.fnOf d.name d.qual d.params d.body d.scope .none kV doc pm an cdv ct) ⟨us, q.2.1.zip ws⟩ = pure (ps.zip (permV (us ++ ws) q.2.2))) :
    FnK g Z 0 ⟨nm, ps, fun _ => fail, kb⟩ := by
  obtain ⟨oc, od, kV, doc, pm, an, cdv, ct, osl, lk, hcd, kp, _⟩ := h.fun_ hd hat hdf
  exact ⟨_, _, h.glo m, kp, fun s us _ hl => .of_eq (bd kV doc pm an cdv ct us hl), fun q hq => ⟨(bk q hq).1, (bk q hq).2.1, fun s us ws _ l1 l2 => .of_eq ((bk q hq).2.2 kV doc pm an cdv ct us ws l1 l2)⟩, fun A outer s H args us vs ds κ Q0 E0 Q E _ _ _ _ _ _ _ _ sp => sp.elim⟩
/-- the def that begins the draw -/
theorem Hd.beg (h : Hd g fa fn) {Φ : Fns} {c : Cfg} {nm : Str} {d : He.DefD} {s1 : Stmt} {ce : Expr} {N ps : List Str} {s' : S} {tc : T} {n m i k : Nat} {kw x : Str} {okN : List Int → Prop} {j1 j2 j3 j4 j5 j6 : Nat} {p1 p2 p3 p4 p5 p6 p7 p8 p9 : Pos}
    (hd : d ∈ fn) (hat : d.at_ = (nm, none)) (mf : He.Fa.glo nm ∈ fa) (hdf : d.dfl = []) (FS : C8.scC N ps d.scope = true) (hp1 : ps.length = 1)
    (hbody : d.body = [s1, .Return (some (.Dict [some (.Constant (.str kw) j1 p1), some (.Constant (.str "cells") j2 p2), some (.Constant (.str "rest") j3 p3), some (.Constant (.str "turn") j4 p4)] [.Name x p5, ce, .Constant (.int 0) j5 p6, .Constant (.int 0) j6 p7] p8)) p9])
    (bd : ∀ (kV doc pm : Value) (an : Option Addr) (cdv ct : Value) (us : List Value), us.length = ps.length → bindArgs (PySem.W.fnOf d.name d.qual d.params d.body d.scope .none kV doc pm an cdv ct) ⟨us, []⟩ = pure (ps.zip us))
    (blt : ∀ b ∈ bltNames, g.mg b = none) (hN : c.N = N) (cf : c.fns = [] ∧ c.gls = [] ∧ c.exs = [] ∧ c.lam = false ∧ c.hks = [] ∧ c.pop = [] ∧ c.cls = [] ∧ c.tr = false)
    (hb : trS2 m (trE n c) (fun _ => none) c ⟨d.scope, none⟩ s1 = some s') (hc : trE n c ⟨d.scope, none⟩ ce = some tc) (hnew : isNew ce = true) (hi : idx N x = some i) (hv : isVis d.scope x = true) (hx : nmOk x = true)
    (k1 : kw ≠ "cells") (k2 : kw ≠ "rest") (k3 : kw ≠ "turn") (hm : begM Φ N.length s' tc i okN) :
    ∃ f fd, BegC g (k + 1) nm ps (fun w c => [(.inr kw, .ref w), (.inr "cells", .ref c), (.inr "rest", .int 0), (.inr "turn", .int 0)]) okN f fd := by
  obtain ⟨oc, od, kV, doc, pm, an, cdv, ct, osl, lk, hcd, kp, _⟩ := h.fun_ hd hat hdf
  rw [hbody] at lk bd
  obtain ⟨c1, c2, c3, c4, c5, c6, c7, c8⟩ := cf
  have ok : CfgOk zone0 Φ g ⟨k, cdv, d.qual ++ ".<locals>."⟩ c := {
    fns := by rw [c1]; exact fun F h => nomatch h
    gls := by rw [c2]; exact fun x d h => nomatch h
    exs := by rw [c3]; exact fun x h => nomatch h
    blt := blt
    hk := fun k e t h => by rw [trHook_nil c5 c6] at h; cases h
    hkS := fun f k st s _ h => by rw [trHookS_nil c5] at h; cases h
    isc := fun k y a t p p' pos h => by rw [c7] at h; cases h
    tr := fun k st s h => by rw [trTry_nil c8] at h; cases h
    lam := fun z => by rw [c4] at z; cases z }
  obtain ⟨fd, b⟩ := begC_A lk hcd (C8.fnScope_by FS) hp1 (h.glo mf) kp (fun s us _ hl => .of_eq (bd kV doc pm an cdv ct us hl)) hN ok hb hc hnew hi hv hx k1 k2 k3 hm
  exact ⟨_, fd, b⟩
/-- the law: by its first statement and the translation of the rest -/
theorem Hd.law (h : Hd g fa fn) {Φ : Fns} {c : Cfg} {d : He.DefD} {f fb a : Addr} {fdb : FuncData} {rest : List Stmt} {N ps : List Str} {ss : List S} {n j k kt : Nat} {nm sn dn kw : Str} {okN : List Int → Prop} {p p2 p3 p4 p5 : Pos} {ks : List Key} {kvs : Addr → Addr → List (Key × V)} {T : List (Addr × Str)} {ex : List (Str × Addr)} {oa : Obj} {ns : List Int} {s : Shared} {H : Hp}
    (hd : d ∈ fn) (hat : d.at_ = (("law" : Str), none)) (mf : He.Fa.glo ("law" : Str) ∈ fa) (hdf : d.dfl = []) (hmg : g.mg ("law" : Str) = some (.ref f)) (FS : C8.scC N [sn] d.scope = true)
    (hbody : d.body = .Assign [.Name dn p] (.Call (.Name nm p2) [.Name sn p3] [] p4) p5 :: rest)
    (bd : ∀ (kV doc pm : Value) (an : Option Addr) (cdv ct : Value) (us : List Value), us.length = 1 → bindArgs (PySem.W.fnOf d.name d.qual d.params d.body d.scope .none kV doc pm an cdv ct) ⟨us, []⟩ = pure ([sn].zip us))
    (hN : c.N = N) (B : BegC g k nm ps kvs okN fb fdb) (hp1 : ps.length = 1)
    (hs0 : idx N sn = some 0) (hj : idx N dn = some j) (hv : isVis d.scope sn = true) (hx : nmOk sn = true) (hdl : d.scope.names.lookup dn = some .local) (hg : d.scope.names.lookup nm = some .globalImplicit) (hdb : (nm == ("__debug__" : Str)) = false)
    (kv : KvOk ks kw kvs) (ok : ∀ cdv, (∀ cp, cdv = .ref cp → He.codeOf g.K (("law" : Str), none) = cp) → (∃ cp, cdv = .ref cp) → ∀ d' w c', CfgOk (zD g kt ⟨d', w, c', ks, kw, T, ex⟩) Φ g ⟨k, cdv, d.qual ++ ".<locals>."⟩ c) (hb : trB n c ⟨d.scope, none⟩ rest = some ss)
    (hm : semB Φ ss ((startE N.length [.lst (ns.map D.int)]).set j (.val .drw)) 0 (fun o _ => o = .rt (.bl true)) (fun _ _ => False))
    (hr : Room (k + 1) callerA) (e0 : Env0 g.P g.w g.K g.mg g.base callerA [] s H) (ha : H a = some (.frz oa (.lst (ns.map V.int)))) (hl : ns.length ≤ sizeLine) (hok : okN ns) (tb : LamX.Tabs T H) :
    codeAny (model g.P g.w) callerA (.call (.ref f) ⟨[.ref a], []⟩) (CR (L2.CX g.P g.w) [] g.P g.w H s (fun v _ => v = .bl true) (fun _ _ _ => False)) s := by
  obtain ⟨oc, od, kV, doc, pm, an, cdv, ct, osl, lk, hcd, kp, hco⟩ := h.fun_ hd hat hdf
  have ef : f = He.ga g.K ("law" : Str) := by
    have e := (h.glo mf).symm.trans hmg
    cases e
    rfl
  rw [← ef] at lk
  rw [hbody] at lk bd
  exact law_run (fb := fb) lk hcd (C8.fnScope_by FS) hN B hp1 hs0 hj hv hx hdl hg hdb kv (ok cdv hco (He.codeIn_ref hcd)) hb hm rfl hr e0 (.of_eq (bd kV doc pm an cdv ct [.ref a] rfl)) ha hl hok tb
/-- tables with nothing in them -/
theorem tabs_empty {T : List (Addr × Str)} {H : Hp} (h : ∀ p ∈ T, H p.1 = some (.tbl #[])) : LamX.Tabs T H := fun p hp => ⟨#[], h p hp, trivial, fun pos cv e => by
  have e : codeAmong pos [] = some cv := e
  cases e⟩
end
end PL
namespace PL
open PySem
open PySem.Spec
open PyProof.Rows
open L2
theorem aC {α : Type} {p : α → Prop} {x : α} {xs : List α} (h : p x) (k : ∀ y ∈ xs, p y) : ∀ y ∈ x :: xs, p y := List.forall_mem_cons.mpr ⟨h, k⟩
theorem aN {α : Type} {p : α → Prop} : ∀ y ∈ ([] : List α), p y := fun _ h => nomatch h
theorem exL_fst {K : PySem.W.Frag} {ns : List Str} : (exL K ns).map (·.1) = ns := by
  unfold exL
  rw [List.map_map]
  exact List.map_id ns
theorem lookup_all {G : Str → D → Prop} {l : List (Str × D)} (h : ∀ q ∈ l, G q.1 q.2) : ∀ x d, l.lookup x = some d → G x d := fun x d e => by
  induction l with
  | nil => cases e
  | cons q l ih =>
    rw [List.lookup_cons] at e
    cases z : x == q.1 with
    | true =>
      rw [z] at e
      cases e
      rw [eq_of_beq z]
      exact h q List.mem_cons_self
    | false =>
      rw [z] at e
      exact ih (fun p hp => h p (List.mem_cons_of_mem _ hp)) e
def tblF (t : List (Nat × (List D → M D))) : Fns := fun n => match t.lookup n with
  | some f => f
  | none => fun _ => fail
def KsA (kw : Str) : List Key := [.inr kw, .inr "cells", .inr "rest", .inr "turn"]
theorem keysOk_A {kw : Str} {d w c : Addr} {T : List (Addr × Str)} {ex : List (Str × Addr)} (k1 : kw ≠ "cells") (k2 : kw ≠ "rest") (k3 : kw ≠ "turn") : KeysOk ⟨d, w, c, KsA kw, kw, T, ex⟩ :=
  ⟨by simp [KsA], by simp [KsA], by simp [KsA], by simp [KsA], by simp [KsA], k1, k2, k3⟩
theorem kvOk_A {kw : Str} (k1 : kw ≠ "cells") (k2 : kw ≠ "rest") (k3 : kw ≠ "turn") : KvOk (KsA kw) kw (fun w c => [(.inr kw, .ref w), (.inr "cells", .ref c), (.inr "rest", .int 0), (.inr "turn", .int 0)]) := fun w c => by
  have u1 : ¬ (("cells" : Str) = "rest") := by decide
  have u2 : ¬ (("cells" : Str) = "turn") := by decide
  have u3 : ¬ (("rest" : Str) = "turn") := by decide
  have n1 : ¬ (("cells" : Str) = kw) := fun z => k1 z.symm
  have n2 : ¬ (("rest" : Str) = kw) := fun z => k2 z.symm
  have n3 : ¬ (("turn" : Str) = kw) := fun z => k3 z.symm
  refine ⟨rfl, ?_, ?_, ?_, ?_⟩ <;> simp [valV, k1, k2, k3, u1, u2, u3, n1, n2, n3, Ne.symm u1, Ne.symm u2, Ne.symm u3]
theorem lam_in {K : PySem.W.Frag} {base : Heap} {mg : Str → Option Value} {tf : List He.Defn} (TB : ∀ p ∈ tf.map (He.cT K), LamX.TabB base mg p.1 p.2) {x : He.Defn} (hx : x ∈ tf) {cp : Addr} (e : He.codeOf K x = cp) : LamX.TabB base mg cp (He.cT K x).2 := by
  have t := TB _ (List.mem_map.mpr ⟨x, hx, rfl⟩)
  have e1 : (He.cT K x).1 = He.codeOf K x := rfl
  rw [e1, e] at t
  exact t
end PL

/-! PQa: plain tools: data that can be compared and shown; loops; comprehensions; draws. -/
namespace PL
open PySem L2
/-! ### data that are shown -/
mutual
/-- a bound of the shown text's length -/
def D.wt : D → Nat
  | .non => 4
  | .bl _ => 5
  | .int i => i.natAbs.log2 + 2
  | .str s => 10 * s.length + 2
  | .tup xs => wtL xs + 3
  | .lst xs => wtL xs + 3
  | _ => 0
def wtL : List D → Nat
  | [] => 0
  | x :: xs => D.wt x + 2 + wtL xs
end
mutual
def D.shb : D → Bool
  | .int i => decide (i.natAbs.log2 < 1920)
  | .tup xs => shbL xs
  | .lst xs => shbL xs
  | _ => true
def shbL : List D → Bool
  | [] => true
  | x :: xs => D.shb x && shbL xs
end
theorem isPy_tup {xs : List D} : isPy (.tup xs) = (pyL xs).isSome := by
  unfold isPy
  rw [D.py]
  cases pyL xs <;> rfl
theorem isPy_lst {xs : List D} : isPy (.lst xs) = (pyL xs).isSome := by
  unfold isPy
  rw [D.py]
  cases pyL xs <;> rfl
theorem pyL_cons {x : D} {xs : List D} : (pyL (x :: xs)).isSome = (isPy x && (pyL xs).isSome) := by
  unfold isPy
  rw [pyL]
  cases D.py x <;> cases pyL xs <;> rfl
theorem pyL_all : ∀ xs : List D, (pyL xs).isSome = xs.all isPy
  | [] => rfl
  | x :: xs => by rw [pyL_cons, List.all_cons, pyL_all xs]
theorem isPy_tup_iff {xs : List D} : isPy (.tup xs) = true ↔ ∀ x ∈ xs, isPy x = true := by rw [isPy_tup, pyL_all, List.all_eq_true]
theorem isPy_lst_iff {xs : List D} : isPy (.lst xs) = true ↔ ∀ x ∈ xs, isPy x = true := by rw [isPy_lst, pyL_all, List.all_eq_true]
theorem depthL_le {n : Nat} : ∀ {xs : List D}, (∀ x ∈ xs, x.depth ≤ n) → depthL xs ≤ n
  | [], _ => Nat.zero_le _
  | x :: xs, h => by
    rw [depthL]
    exact Nat.max_le.mpr ⟨h x List.mem_cons_self, depthL_le fun y hy => h y (List.mem_cons_of_mem _ hy)⟩
theorem le_depthL {x : D} : ∀ {xs : List D}, x ∈ xs → x.depth ≤ depthL xs
  | y :: xs, h => by
    rw [depthL]
    rcases List.mem_cons.mp h with e | e
    · subst e; exact Nat.le_max_left _ _
    · exact Nat.le_trans (le_depthL e) (Nat.le_max_right _ _)
theorem sokL_iff : ∀ {xs : List D}, sokL xs = true ↔ ∀ x ∈ xs, x.sok = true
  | [] => by simp [sokL]
  | x :: xs => by rw [sokL, Bool.and_eq_true, sokL_iff, List.forall_mem_cons]
theorem shbL_iff : ∀ {xs : List D}, shbL xs = true ↔ ∀ x ∈ xs, x.shb = true
  | [] => by simp [shbL]
  | x :: xs => by rw [shbL, Bool.and_eq_true, shbL_iff, List.forall_mem_cons]
theorem wtL_le {n : Nat} : ∀ {xs : List D}, (∀ x ∈ xs, x.wt ≤ n) → wtL xs ≤ (n + 2) * xs.length
  | [], _ => Nat.zero_le _
  | x :: xs, h => by
    rw [wtL, List.length_cons, Nat.mul_succ]
    have h1 := h x List.mem_cons_self
    have h2 := wtL_le fun y hy => h y (List.mem_cons_of_mem _ hy)
    omega
/-! #### texts are well made -/
theorem sok_app {a b : Str} (h : PyData.strOk a = true) (k : PyData.strOk b = true) : PyData.strOk (a ++ b) = true := by
  unfold PyData.strOk at *
  have e : (a ++ b).cps = a.cps ++ b.cps := rfl
  rw [e, Array.all_append, h, k]; rfl
theorem sok_of (s : String) : PyData.strOk (Str.ofString s) = true := by
  rw [Str.ofString_eq_toList]
  unfold PyData.strOk
  rw [Array.all_eq_true_iff_forall_mem]
  intro c hc
  rw [List.mem_toArray, List.mem_map] at hc
  obtain ⟨a, _, rfl⟩ := hc
  have h := a.valid
  have e : a.toNat = a.val.toNat := rfl
  rw [decide_eq_true_eq, e]
  rcases h with h | ⟨_, h⟩
  · exact Nat.lt_trans h (by decide)
  · exact h
theorem sok_cps0 : PyData.strOk Str.empty = true := by
  have e : Str.empty = ⟨#[]⟩ := by decide
  rw [e]
  unfold PyData.strOk
  rw [Array.all_eq_true_iff_forall_mem]
  intro c m
  cases m.val
theorem sok_join {s : Str} (h : PyData.strOk s = true) : ∀ {ts : List Str}, (∀ t ∈ ts, PyData.strOk t = true) → PyData.strOk (Str.join s ts) = true
  | [], _ => by
    show PyData.strOk Str.empty = true
    exact sok_cps0
  | [t], k => by
    show PyData.strOk t = true
    exact k t List.mem_cons_self
  | t :: u :: ts, k => by
    rw [show Str.join s (t :: u :: ts) = t ++ s ++ Str.join s (u :: ts) from rfl]
    exact sok_app (sok_app (k t List.mem_cons_self) h) (sok_join h fun v hv => k v (List.mem_cons_of_mem _ hv))
theorem mem_strOk {x : Str} (h : PyData.strOk x = true) {c : Nat} (m : c ∈ x.cps.toList) : c < 1114112 := by
  unfold PyData.strOk at h
  rw [Array.all_eq_true_iff_forall_mem] at h
  exact of_decide_eq_true (h c (Array.mem_toList_iff.mp m))
theorem sok_cps {x : Str} (h : ∀ c ∈ x.cps.toList, c < 1114112) : PyData.strOk x = true := by
  unfold PyData.strOk
  rw [Array.all_eq_true_iff_forall_mem]
  exact fun c m => decide_eq_true (h c (Array.mem_toList_iff.mpr m))
theorem char_lt (a : Char) : a.toNat < 1114112 := by
  have e : a.toNat = a.val.toNat := rfl
  rw [e]
  rcases a.valid with h | ⟨_, h⟩
  · exact Nat.lt_trans h (by decide)
  · exact h
theorem reprChar_lt {q c n : Nat} (hq : c < 1114112) (h : n ∈ Builtin.Str.reprChar q c) : n < 1114112 := by
  have hex : ∀ w : Nat, n ∈ List.replicate (w - ((Nat.toDigits 16 c).map Char.toNat).length) 48 ++ (Nat.toDigits 16 c).map Char.toNat → n < 1114112 := fun w m => by
    rcases List.mem_append.mp m with z | z
    · rw [List.eq_of_mem_replicate z]; decide
    · obtain ⟨a, _, rfl⟩ := List.mem_map.mp z
      exact char_lt a
  have two : ∀ a b : Nat, a < 1114112 → b < 1114112 → n ∈ [a, b] → n < 1114112 := fun a b ha hb m => by
    simp only [List.mem_cons, List.not_mem_nil, or_false] at m
    rcases m with rfl | rfl <;> assumption
  unfold Builtin.Str.reprChar at h
  dsimp only at h
  split at h
  · exact two _ _ (by decide) hq h
  split at h
  · exact two _ _ (by decide) (by decide) h
  split at h
  · exact two _ _ (by decide) (by decide) h
  split at h
  · exact two _ _ (by decide) (by decide) h
  split at h
  · simp only [List.mem_cons, List.not_mem_nil, or_false] at h
    rw [h]; exact hq
  split at h
  · rcases List.mem_append.mp h with z | z
    · exact two _ _ (by decide) (by decide) z
    · exact hex 2 z
  split at h
  · rcases List.mem_append.mp h with z | z
    · exact two _ _ (by decide) (by decide) z
    · exact hex 4 z
  · rcases List.mem_append.mp h with z | z
    · exact two _ _ (by decide) (by decide) z
    · exact hex 8 z
theorem foldl_lt (q : Nat) : ∀ (l : List Nat) (acc : Array Nat), (∀ n ∈ acc.toList, n < 1114112) → (∀ c ∈ l, c < 1114112) → ∀ n ∈ (l.foldl (fun out c => out ++ (Builtin.Str.reprChar q c).toArray) acc).toList, n < 1114112
  | [], acc, h, _ => h
  | c :: l, acc, h, k => foldl_lt q l _ (fun n m => by
      rw [Array.toList_append] at m
      rcases List.mem_append.mp m with z | z
      · exact h n z
      · exact reprChar_lt (k c List.mem_cons_self) z) fun d m => k d (List.mem_cons_of_mem _ m)
theorem sok_repr {x : Str} (h : PyData.strOk x = true) : PyData.strOk (reprText x) = true := by
  have hq : reprQuote x < 1114112 := by unfold reprQuote; split <;> decide
  refine sok_cps fun c m => ?_
  unfold reprText at m
  rw [Array.toList_push, ← Array.foldl_toList] at m
  rcases List.mem_append.mp m with z | z
  · exact foldl_lt _ _ _ (fun n y => by
      simp only [List.mem_cons, List.not_mem_nil, or_false] at y
      rw [y]; exact hq) (fun d y => mem_strOk h y) c z
  · simp only [List.mem_cons, List.not_mem_nil, or_false] at z
    rw [z]; exact hq
mutual
theorem shown_fit : ∀ (d : D) (x : PyData), d.py = some x → d.sok = true → d.shb = true → x.shown.length ≤ d.wt ∧ PyData.strOk x.shown = true ∧ x.showable = true
  | .non, x, e, _, _ => by cases e; exact ⟨by rw [PyData.shown_none]; decide, by rw [PyData.shown_none]; exact sok_of _, by rw [PyData.showable]⟩
  | .bl b, x, e, _, _ => by
    cases e
    rw [PyData.shown_bool]
    cases b
    · exact ⟨by decide, sok_of _, by rw [PyData.showable]⟩
    · exact ⟨by decide, sok_of _, by rw [PyData.showable]⟩
  | .int i, x, e, _, h => by
    cases e
    have h2 : i.natAbs.log2 < 1920 := of_decide_eq_true (by rw [D.shb] at h; exact h)
    rw [PyData.shown_int]
    refine ⟨?_, sok_of _, by rw [PyData.showable]; exact decide_eq_true h2⟩
    have q := int_text_length_le (a := i) (k := i.natAbs.log2 + 1) (Nat.succ_pos _) (Nat.lt_succ_self _)
    rw [D.wt]
    have e : (Str.ofString (toString i)).length = (toString i).length := by
      rw [Str.ofString_eq_toList]
      show ((toString i).toList.map Char.toNat).toArray.size = _
      rw [List.size_toArray, List.length_map, String.length_toList]
    rw [e]
    exact q
  | .str s, x, e, h, _ => by
    cases e
    have h : PyData.strOk s = true := by rw [D.sok] at h; exact h
    rw [PyData.shown_str]
    refine ⟨?_, sok_repr h, by rw [PyData.showable]⟩
    rw [D.wt]
    exact StrLaws.reprText_len s fun c m => Nat.lt_trans (mem_strOk h m) (by decide)
  | .tup xs, x, e, h, k => by
    rw [D.py] at e
    cases q : pyL xs with
    | none => rw [q] at e; cases e
    | some ys =>
      rw [q] at e
      cases e
      rw [D.sok] at h
      rw [D.shb] at k
      obtain ⟨h1, h2, h3⟩ := shown_fitL xs ys q h k
      have l1 := tupleText_len_le (PyData.shownAll ys)
      rw [PyData.shownAll_length] at l1
      rw [PyData.shown, D.wt, PyData.showable]
      refine ⟨by omega, ?_, h3⟩
      unfold tupleText
      refine sok_app (sok_app (sok_of _) (sok_join (sok_of _) h2)) ?_
      split <;> exact sok_of _
  | .lst xs, x, e, h, k => by
    rw [D.py] at e
    cases q : pyL xs with
    | none => rw [q] at e; cases e
    | some ys =>
      rw [q] at e
      cases e
      rw [D.sok] at h
      rw [D.shb] at k
      obtain ⟨h1, h2, h3⟩ := shown_fitL xs ys q h k
      have l1 := listText_len_le (PyData.shownAll ys)
      rw [PyData.shownAll_length] at l1
      rw [PyData.shown, D.wt, PyData.showable]
      refine ⟨by omega, ?_, h3⟩
      rw [listText_eq_join]
      exact sok_app (sok_app (sok_of _) (sok_join (sok_of _) h2)) (sok_of _)
  | .rng _ _, x, e, _, _ => by cases e
  | .exc _ _, x, e, _, _ => by cases e
  | .thk _ _, x, e, _, _ => by cases e
  | .lam _, x, e, _, _ => by cases e
  | .drw, x, e, _, _ => by cases e
theorem shown_fitL : ∀ (xs : List D) (ys : List PyData), pyL xs = some ys → sokL xs = true → shbL xs = true → ((PyData.shownAll ys).map (·.length)).sum + 2 * ys.length ≤ wtL xs ∧ (∀ t ∈ PyData.shownAll ys, PyData.strOk t = true) ∧ PyData.showableAll ys = true
  | [], ys, e, _, _ => by
    cases e
    refine ⟨by rw [PyData.shownAll, wtL]; exact Nat.le_refl _, fun t m => ?_, by rw [PyData.showableAll]⟩
    rw [PyData.shownAll] at m
    cases m
  | x :: xs, ys, e, h, k => by
    rw [pyL] at e
    cases q : D.py x with
    | none => rw [q] at e; cases e
    | some y =>
      cases q2 : pyL xs with
      | none => rw [q, q2] at e; cases e
      | some zs =>
        rw [q, q2] at e
        cases e
        rw [sokL, Bool.and_eq_true] at h
        rw [shbL, Bool.and_eq_true] at k
        obtain ⟨a1, a2, a3⟩ := shown_fit x y q h.1 k.1
        obtain ⟨b1, b2, b3⟩ := shown_fitL xs zs q2 h.2 k.2
        rw [PyData.shownAll, wtL, PyData.showableAll, a3, b3]
        refine ⟨by simp only [List.map_cons, List.sum_cons, List.length_cons]; omega, fun t m => ?_, rfl⟩
        rcases List.mem_cons.mp m with z | z
        · rw [z]; exact a2
        · exact b2 t z
end
mutual
theorem eqv_self : ∀ d : D, isPy d = true → D.eqv d d = true
  | .non, _ => by rw [D.eqv]
  | .bl b, _ => by rw [D.eqv]; exact beq_self_eq_true b
  | .int i, _ => by rw [D.eqv]; exact decide_eq_true rfl
  | .str s, _ => by rw [D.eqv]; exact decide_eq_true rfl
  | .tup xs, h => by rw [D.eqv]; exact eqvL_self xs (by rw [isPy_tup] at h; exact h)
  | .lst xs, h => by rw [D.eqv]; exact eqvL_self xs (by rw [isPy_lst] at h; exact h)
  | .rng _ _, h => by cases h
  | .exc _ _, h => by cases h
  | .thk _ _, h => by cases h
  | .lam _, h => by cases h
  | .drw, h => by cases h
theorem eqvL_self : ∀ xs : List D, (pyL xs).isSome = true → eqvL xs xs = true
  | [], _ => by rw [eqvL]
  | x :: xs, h => by
    rw [pyL_cons, Bool.and_eq_true] at h
    rw [eqvL, eqv_self x h.1, eqvL_self xs h.2]; rfl
end
/-- it can be compared and shown -/
def D.fine (d : D) : Prop := isPy d = true ∧ d.depth ≤ 60 ∧ d.sok = true ∧ d.shb = true ∧ d.wt ≤ 16777216
theorem shown_ok {d : D} (h : d.fine) : ∃ t, ∀ (c : Nat) (Q : D → Nat → Prop) (E : D → Nat → Prop), Q (.str t) c → lift (shownD d) c Q E := by
  obtain ⟨h1, h2, h3, h4, h5⟩ := h
  cases q : d.py with
  | none => rw [isPy, q] at h1; cases h1
  | some x =>
    obtain ⟨a1, a2, a3⟩ := shown_fit d x q h3 h4
    refine ⟨x.shown, fun c Q E k => ?_⟩
    unfold shownD
    rw [q]
    exact ⟨⟨a3, by rw [depth_py d x q]; exact h2, Nat.le_trans a1 h5, a2⟩, k⟩
end PL

/-! PQb: plain tools: loops, comprehensions, draws. -/
namespace PL
open PySem L2
theorem ite_ap {α : Type} (p : Prop) [Decidable p] (a b : M α) (c Q E) : (if p then a else b) c Q E = if p then a c Q E else b c Q E := by split <;> rfl
theorem ite_ap' {α : Type} (p : Prop) [Decidable p] (a b : M α) (c Q E) (h1 : p → a c Q E) (h2 : ¬ p → b c Q E) : (if p then a else b) c Q E := by
  split
  · exact h1 ‹_›
  · exact h2 ‹_›
theorem truth_bl (b : Bool) : truth (.bl b) = ret b := rfl
theorem loop_ind {tg : Tg} {body : Nv → M Out} {Q : Out → Nat → Prop} {E : D → Nat → Prop} (P : List D → Nv → Nat → Prop)
    (hs : ∀ d ds ρ c, P (d :: ds) ρ c → ∀ K : Out → Nat → Prop, (∀ ρ' c', P ds ρ' c' → K (.nx ρ') c') → (∀ ρ' c', P ds ρ' c' → K (.ct ρ') c') → (∀ ρ' c', Q (.nx ρ') c' → K (.bk ρ') c') → (∀ d c', Q (.rt d) c' → K (.rt d) c') → asgE tg d ρ c (fun ρ1 c1 => body ρ1 c1 K E) E)
    (hq : ∀ ρ c, P [] ρ c → Q (.nx ρ) c) : ∀ xs ρ c, P xs ρ c → loopM tg body xs ρ c Q E
  | [], ρ, c, h => hq ρ c h
  | d :: ds, ρ, c, h => hs d ds ρ c h _ (fun ρ' c' p => loop_ind P hs hq ds ρ' c' p) (fun ρ' c' p => loop_ind P hs hq ds ρ' c' p) (fun ρ' c' q => q) (fun d c' q => q)
theorem mapO_pure {f : D → M (Option D)} (h : D → Option D) {E : D → Nat → Prop} : ∀ {xs : List D} {c : Nat} {Q : List D → Nat → Prop}, (∀ d ∈ xs, ∀ c K, K (h d) c → f d c K E) → Q (xs.filterMap h) c → mapO f xs c Q E
  | [], _, _, _, q => q
  | x :: xs, c, Q, k, q => by
    refine k x List.mem_cons_self c _ (mapO_pure h (xs := xs) (fun d hd => k d (List.mem_cons_of_mem _ hd)) ?_)
    cases e : h x with
    | none => rw [List.filterMap_cons_none e] at q; exact q
    | some y => rw [List.filterMap_cons_some e] at q; exact q
theorem mapO_map {f : D → M (Option D)} (h : D → D) {E : D → Nat → Prop} {xs : List D} {c : Nat} {Q : List D → Nat → Prop} (k : ∀ d ∈ xs, ∀ c K, K (some (h d)) c → f d c K E) (q : Q (xs.map h) c) : mapO f xs c Q E := by
  refine mapO_pure (fun d => some (h d)) k ?_
  rw [show xs.filterMap (fun d => some (h d)) = xs.map h from by rw [← List.filterMap_eq_map]; rfl]
  exact q
/-- k turns of the draw at most, something with P -/
def LIM : Nat := 1099511627776
def drawn (k : Nat) (P : D → Prop) : M D := fun c Q _ => c + k < LIM ∧ ∀ r c', P r → c ≤ c' → c' ≤ c + k → Q r c'
theorem mapO_draw {f : D → M (Option D)} {E : D → Nat → Prop} {k : Nat} {G : D → Prop} : ∀ {xs : List D} {c : Nat} {Q : List D → Nat → Prop}, (∀ d ∈ xs, ∀ c K, c + k < LIM → (∀ y c', G y → c ≤ c' → c' ≤ c + k → K (some y) c') → f d c K E) → c + k * xs.length < LIM →
    (∀ ys c', ys.length = xs.length → (∀ y ∈ ys, G y) → c ≤ c' → c' ≤ c + k * xs.length → Q ys c') → mapO f xs c Q E
  | [], c, Q, _, _, q => q [] c rfl (fun _ m => nomatch m) (Nat.le_refl _) (Nat.le_add_right _ _)
  | x :: xs, c, Q, h, l, q => by
    rw [List.length_cons, Nat.mul_succ] at l
    refine h x List.mem_cons_self c _ (by omega) fun y c' g l1 l2 => ?_
    refine mapO_draw (fun d hd => h d (List.mem_cons_of_mem _ hd)) (by omega) fun ys c'' e hy l3 l4 => ?_
    refine q (y :: ys) c'' (by rw [List.length_cons, List.length_cons, e]) (fun z m => ?_) (by omega) (by rw [List.length_cons, Nat.mul_succ]; omega)
    rcases List.mem_cons.mp m with rfl | m
    · exact g
    · exact hy z m
/-! ### operators on known data -/
theorem o_addI (a b : Int) : lift (bopD .add (.int a) (.int b)) = ret (.int (a + b)) := rfl
theorem o_addS (a b : Str) : lift (bopD .add (.str a) (.str b)) = gd (szOk (a.length + b.length)) (ret (.str (a ++ b))) := rfl
theorem o_addT (a b : List D) : lift (bopD .add (.tup a) (.tup b)) = gd (szOk (a.length + b.length)) (ret (.tup (a ++ b))) := rfl
theorem o_addL (a b : List D) : lift (bopD .add (.lst a) (.lst b)) = gd (szOk (a.length + b.length)) (ret (.lst (a ++ b))) := rfl
theorem o_sub (a b : Int) : lift (bopD .sub (.int a) (.int b)) = ret (.int (a - b)) := rfl
theorem o_mul (a b : Int) : lift (bopD .mul (.int a) (.int b)) = gd (CMulW a b ∨ CMul a b) (ret (.int (a * b))) := rfl
theorem o_mulL (a : List D) (k : Int) : lift (bopD .mul (.lst a) (.int k)) = gd (-(2 ^ 63) ≤ k ∧ k < 2 ^ 63 ∧ szOk (a.length * k.toNat)) (ret (.lst (rep a k))) := rfl
theorem o_mulT (a : List D) (k : Int) : lift (bopD .mul (.tup a) (.int k)) = gd (1 ≤ k ∧ k < 2 ^ 63 ∧ szOk (a.length * k.toNat)) (ret (.tup (rep a k))) := rfl
theorem o_fdiv (a b : Int) : lift (bopD .fdiv (.int a) (.int b)) = gd (CDivW a b) (ret (.int (a / b))) := rfl
theorem o_mod (a b : Int) : lift (bopD .mod (.int a) (.int b)) = gd (0 < b) (ret (.int (a % b))) := rfl
theorem o_pow (a b : Int) : lift (bopD .pow (.int a) (.int b)) = gd (CPow a b) (ret (.int (a ^ b.toNat))) := rfl
theorem o_eq (x y : D) : lift (copD .eq x y) = gd (eqOk x ∧ eqOk y) (ret (.bl (D.eqv x y))) := rfl
theorem o_ne (x y : D) : lift (copD .ne x y) = gd (eqOk x ∧ eqOk y) (ret (.bl (!D.eqv x y))) := rfl
theorem o_ltI (a b : Int) : lift (copD .lt (.int a) (.int b)) = ret (.bl (decide (a < b))) := rfl
theorem o_gt (a b : Int) : lift (copD .gt (.int a) (.int b)) = ret (.bl (decide (b < a))) := rfl
theorem o_le (a b : Int) : lift (copD .le (.int a) (.int b)) = ret (.bl (decide (a ≤ b))) := rfl
theorem o_ge (a b : Int) : lift (copD .ge (.int a) (.int b)) = ret (.bl (decide (b ≤ a))) := rfl
theorem o_inT (x : D) (xs : List D) : lift (copD .isin x (.tup xs)) = gd (eqOk x ∧ eqOk (.tup xs)) (ret (.bl (xs.any fun y => D.eqv y x))) := rfl
theorem o_inL (x : D) (xs : List D) : lift (copD .isin x (.lst xs)) = gd (eqOk x ∧ eqOk (.lst xs)) (ret (.bl (xs.any fun y => D.eqv y x))) := rfl
theorem o_ninT (x : D) (xs : List D) : lift (copD .notin x (.tup xs)) = gd (eqOk x ∧ eqOk (.tup xs)) (ret (.bl (!xs.any fun y => D.eqv y x))) := rfl
theorem o_ninL (x : D) (xs : List D) : lift (copD .notin x (.lst xs)) = gd (eqOk x ∧ eqOk (.lst xs)) (ret (.bl (!xs.any fun y => D.eqv y x))) := rfl
theorem o_inR (i lo hi : Int) : lift (copD .isin (.int i) (.rng lo hi)) = ret (.bl (decide (lo ≤ i ∧ i < hi))) := rfl
theorem o_ninR (i lo hi : Int) : lift (copD .notin (.int i) (.rng lo hi)) = ret (.bl (!decide (lo ≤ i ∧ i < hi))) := rfl
theorem o_inS (c : Nat) (s : Str) : lift (copD .isin (.str ⟨#[c]⟩) (.str s)) = ret (.bl (decide (c ∈ s.cps.toList))) := rfl
theorem o_ninS (c : Nat) (s : Str) : lift (copD .notin (.str ⟨#[c]⟩) (.str s)) = ret (.bl (!decide (c ∈ s.cps.toList))) := rfl
theorem o_isn (x : D) : lift (copD .isn x .non) = ret (.bl (isNone x)) := by cases x <;> rfl
theorem o_notn (x : D) : lift (copD .notn x .non) = ret (.bl (!isNone x)) := by cases x <;> rfl
theorem o_lenS (s : Str) : lift (bfD .len [.str s]) = gd (szOk s.length) (ret (.int s.length)) := rfl
theorem o_lenT (xs : List D) : lift (bfD .len [.tup xs]) = ret (.int xs.length) := rfl
theorem o_lenL (xs : List D) : lift (bfD .len [.lst xs]) = ret (.int xs.length) := rfl
theorem o_isi (t : Ty) (x : D) : lift (bfD (.isi t) [x]) = gd (isPy x = true) (ret (.bl (isiD t x))) := rfl
theorem o_isC (c : Str) (x : D) : lift (bfD (.isC c) [x]) = lift (isCM c x) := rfl
theorem o_tupT (xs : List D) : lift (bfD .tuple [.tup xs]) = ret (.tup xs) := rfl
theorem o_tupL (xs : List D) : lift (bfD .tuple [.lst xs]) = ret (.tup xs) := rfl
theorem o_lstT (xs : List D) : lift (bfD .list [.tup xs]) = ret (.lst xs) := rfl
theorem o_lstL (xs : List D) : lift (bfD .list [.lst xs]) = ret (.lst xs) := rfl
theorem o_int (i : Int) : lift (bfD .int [.int i]) = ret (.int i) := rfl
theorem o_abs (i : Int) : lift (bfD .abs [.int i]) = ret (.int (if i < 0 then -i else i)) := rfl
theorem o_min (a b : Int) : lift (bfD .min [.int a, .int b]) = ret (.int (if b < a then b else a)) := rfl
theorem o_max (a b : Int) : lift (bfD .max [.int a, .int b]) = ret (.int (if b > a then b else a)) := rfl
theorem o_repr (x : D) : lift (bfD .repr [x]) = lift (shownD x) := rfl
theorem o_rng1 (a : Int) : lift (bfD .range1 [.int a]) = gd (-(2 ^ 62) ≤ a ∧ a < 2 ^ 62) (ret (.rng 0 a)) := rfl
theorem o_rng2 (a b : Int) : lift (bfD .range2 [.int a, .int b]) = gd ((-(2 ^ 62) ≤ a ∧ a < 2 ^ 62) ∧ (-(2 ^ 62) ≤ b ∧ b < 2 ^ 62)) (ret (.rng a b)) := rfl
theorem o_ixT (xs : List D) (i : Int) : lift (ixD (.tup xs) (.int i)) = optM (atI xs i) := by
  show lift (optM0 (atI xs i)) = _
  cases atI xs i <;> rfl
theorem o_ixL (xs : List D) (i : Int) : lift (ixD (.lst xs) (.int i)) = optM (atI xs i) := by
  show lift (optM0 (atI xs i)) = _
  cases atI xs i <;> rfl
theorem o_ixS (s : Str) (i : Int) : lift (ixD (.str s) (.int i)) = gd (szOk s.length) (bnd (optM (atI s.cps.toList i)) fun c => ret (D.str ⟨#[c]⟩)) := by
  show lift (gd0 _ (bnd0 (optM0 (atI s.cps.toList i)) fun c => ret0 (D.str ⟨#[c]⟩))) = _
  cases atI s.cps.toList i <;> rfl
theorem o_slT (xs : List D) (lo hi : Option Int) : lift (slD (.tup xs) lo hi) = ret (.tup (cutD xs lo hi)) := rfl
theorem o_slL (xs : List D) (lo hi : Option Int) : lift (slD (.lst xs) lo hi) = ret (.lst (cutD xs lo hi)) := rfl
theorem o_slS (s : Str) (lo hi : Option Int) : lift (slD (.str s) lo hi) = gd (szOk s.length) (ret (.str (cutS s lo hi))) := rfl
theorem o_neg (i : Int) : lift (negD (.int i)) = ret (.int (-i)) := rfl
theorem o_revT (xs : List D) : lift (revD (.tup xs)) = ret (.tup xs.reverse) := rfl
theorem o_revL (xs : List D) : lift (revD (.lst xs)) = ret (.lst xs.reverse) := rfl
theorem o_join (s : Str) (xs : List D) : lift (mtD .join (.str s) [.lst xs]) = bnd (optM (strsD xs)) fun ys => gd ((ys.map (·.length)).sum + ys.length * s.length ≤ 16777216) (ret (.str (Txt.join s ys))) := by
  show lift (bnd0 (optM0 (strsD xs)) _) = _
  cases strsD xs <;> rfl
theorem o_upper (s : Str) : lift (mtD .upper (.str s) []) = gd (s.length ≤ 5592405 ∧ PyData.strOk (Txt.upper s) = true) (ret (.str (Txt.upper s))) := rfl
theorem isi_int (i : Int) (t : Ty) : isiD t (.int i) = decide (t = .int) := by cases t <;> rfl
theorem o_gtT (a b : List D) : lift (copD .gt (.tup a) (.tup b)) = bnd (optM (intsD a)) fun ns => bnd (optM (intsD b)) fun ms => ret (.bl (HT.lexLt ms ns)) := by
  show lift (match intsD a, intsD b with | some ns, some ms => ret0 (D.bl (HT.lexLt ms ns)) | _, _ => fail0) = _
  cases intsD a <;> cases intsD b <;> rfl
theorem o_intB (b : Bool) : lift (bfD .int [.bl b]) = ret (.int (if b then 1 else 0)) := rfl
theorem o_sum (xs : List D) : lift (bfD .sum [.lst xs]) = bnd (optM (intsD xs)) fun ns => ret (.int ns.sum) := by
  show lift (bnd0 (optM0 (intsD xs)) _) = _
  cases intsD xs <;> rfl
theorem isSeq_l (xs : List D) : isSeq (.lst xs) = ret xs := rfl
theorem isSeq_t (xs : List D) : isSeq (.tup xs) = ret xs := rfl
theorem mkE_o (xs : List D) : mkE true (.lst xs) = ret (.own xs) := rfl
theorem mkE_v (d : D) : mkE false d = ret (.val d) := rfl
theorem getV_0 (d : D) (r : Nv) : getV (.val d :: r) 0 = ret d := rfl
theorem getV_s (e : En) (r : Nv) (n : Nat) : getV (e :: r) (n + 1) = getV r n := rfl
theorem seqM_ap (a b : Nv → M Out) (ρ : Nv) (c Q E) : seqM a b ρ c Q E = a ρ c (fun o c' => (match o with | .nx ρ' => b ρ' | o => ret o) c' Q E) E := rfl
theorem outD_nx (ρ : Nv) : outD (.nx ρ) = ret .non := rfl
theorem outD_rt (d : D) : outD (.rt d) = ret d := rfl
theorem partI_i (i : Int) : partI (.int i) = ret i := rfl
theorem strM_s (s : Str) : strM (.str s) = ret (.str s) := rfl
theorem isLst_l (xs : List D) : isLst (.lst xs) = ret xs := rfl
theorem itD_t (xs : List D) : itD (.tup xs) = ret xs := rfl
theorem itD_l (xs : List D) : itD (.lst xs) = ret xs := rfl
theorem itD_s (s : Str) : itD (.str s) = gd (szOk s.length) (ret (s.cps.toList.map fun c => D.str ⟨#[c]⟩)) := rfl
theorem optM_some {α : Type} (a : α) : optM (some a) = ret a := rfl
/-! ### loops and comprehensions, folded -/
def loopB (Φ : Fns) (tg : Tg) (b : List S) (ds : List D) : Nv → M Out := loopM tg (fun ρ' => semB Φ b ρ') ds
theorem semS_loop (Φ : Fns) (tg : Tg) (it : I) (b : List S) (ρ : Nv) : semS Φ (.loop tg it b) ρ = bnd (semI Φ it ρ) fun ds => loopB Φ tg b ds ρ := by rw [semS]; rfl
def compB (Φ : Fns) (ws : List Nat) (tg : Tg) (cond elt : T) (ρ : Nv) (ds : List D) : M (List D) := mapO (turnM (asgE tg) ws (fun ρ' => bnd (sem Φ cond ρ') truth) (fun ρ' => sem Φ elt ρ') ρ) ds
theorem sem_comp (Φ : Fns) (ws : List Nat) (tg : Tg) (it : I) (cond elt : T) (ρ : Nv) : sem Φ (.comp ws tg it cond elt) ρ = bnd (semI Φ it ρ) fun ds => bnd (noE (compB Φ ws tg cond elt ρ ds)) fun ys => ret (.lst ys) := by rw [sem]; rfl
theorem loopB_ind {Φ : Fns} {tg : Tg} {b : List S} {Q : Out → Nat → Prop} {E : D → Nat → Prop} {xs : List D} {ρ : Nv} {c : Nat} (P : List D → Nv → Nat → Prop) (h0 : P xs ρ c)
    (hs : ∀ d ds ρ c, P (d :: ds) ρ c → ∀ K : Out → Nat → Prop, (∀ ρ' c', P ds ρ' c' → K (.nx ρ') c') → (∀ ρ' c', P ds ρ' c' → K (.ct ρ') c') → (∀ ρ' c', Q (.nx ρ') c' → K (.bk ρ') c') → (∀ d c', Q (.rt d) c' → K (.rt d) c') → asgE tg d ρ c (fun ρ1 c1 => semB Φ b ρ1 c1 K E) E)
    (hq : ∀ ρ c, P [] ρ c → Q (.nx ρ) c) : loopB Φ tg b xs ρ c Q E := loop_ind P hs hq xs ρ c h0
/-- one turn of a comprehension -/
def turnB (Φ : Fns) (ws : List Nat) (tg : Tg) (cond elt : T) (ρ : Nv) (d : D) : M (Option D) := bnd (asgE tg d (wipeE ws ρ)) fun ρ' => bnd (bnd (sem Φ cond ρ') truth) fun k => if k = true then bnd (sem Φ elt ρ') fun y => ret (some y) else ret none
theorem compB_pure {Φ : Fns} {ws : List Nat} {tg : Tg} {cond elt : T} {ρ : Nv} (h : D → Option D) {E : D → Nat → Prop} {xs : List D} {c : Nat} {Q : List D → Nat → Prop} (k : ∀ d ∈ xs, ∀ c K, K (h d) c → turnB Φ ws tg cond elt ρ d c K E) (q : Q (xs.filterMap h) c) : compB Φ ws tg cond elt ρ xs c Q E := mapO_pure h k q
theorem compB_map {Φ : Fns} {ws : List Nat} {tg : Tg} {cond elt : T} {ρ : Nv} (h : D → D) {E : D → Nat → Prop} {xs : List D} {c : Nat} {Q : List D → Nat → Prop} (k : ∀ d ∈ xs, ∀ c K, K (some (h d)) c → turnB Φ ws tg cond elt ρ d c K E) (q : Q (xs.map h) c) : compB Φ ws tg cond elt ρ xs c Q E := mapO_map h k q
theorem compB_draw {Φ : Fns} {ws : List Nat} {tg : Tg} {cond elt : T} {ρ : Nv} {E : D → Nat → Prop} (k : Nat) (G : D → Prop) {xs : List D} {c : Nat} {Q : List D → Nat → Prop} (h : ∀ d ∈ xs, ∀ c K, c + k < LIM → (∀ y c', G y → c ≤ c' → c' ≤ c + k → K (some y) c') → turnB Φ ws tg cond elt ρ d c K E) (l : c + k * xs.length < LIM)
    (q : ∀ ys c', ys.length = xs.length → (∀ y ∈ ys, G y) → c ≤ c' → c' ≤ c + k * xs.length → Q ys c') : compB Φ ws tg cond elt ρ xs c Q E := mapO_draw h l q
end PL

namespace PL
open PySem L2
/-- is_number -/
def S0 : List S := [.ret (.and (.bf (.isi .int) [(.var 0)]) (.not (.bf (.isi .bool) [(.var 0)])))]
/-- is_in -/
def S1 : List S := [.ret (.and (.call 0 [(.var 0)]) (.chain .le .le (.var 1) (.var 0) (.var 2)))]
/-- is_name -/
def S2 : List S := [.cond (.or (.not (.bf (.isi .str) [(.var 0)])) (.not (.chain .le .le (.const (.int 1)) (.bf .len [(.var 0)]) (.const (.int 8))))) [.ret (.const (.bl false))] [], .loop (.nm 1) (.val (.var 0)) [.cond (.cmp .notin (.var 1) (.const (.str "abcdefghijklmnopqrstuvwxyz0123456789"))) [.ret (.const (.bl false))] []], .ret (.const (.bl true))]
/-- is_grid_of -/
def S3 : List S := [.cond (.or (.not (.bf (.isi .tuple) [(.var 0)])) (.cmp .ne (.bf .len [(.var 0)]) (.const (.int 2)))) [.ret (.const (.bl false))] [], .ret (.and (.call 1 [(.ix (.var 0) (.const (.int 0))), (.const (.int 1)), (.const (.int 10))]) (.call 1 [(.ix (.var 0) (.const (.int 1))), (.const (.int 2)), (.const (.int 10))]))]
/-- check_grid -/
def S4 : List S := [.cond (.not (.call 3 [(.var 0)])) [.raise "BadGrid"] []]
/-- is_key_of -/
def S5 : List S := [.cond (.or (.not (.bf (.isi .tuple) [(.var 1)])) (.cmp .ne (.bf .len [(.var 1)]) (.ix (.var 0) (.const (.int 0))))) [.ret (.const (.bl false))] [], .loop (.nm 2) (.val (.var 1)) [.cond (.not (.call 1 [(.var 2), (.const (.int 0)), (.bin .sub (.ix (.var 0) (.const (.int 1))) (.const (.int 1)))])) [.ret (.const (.bl false))] []], .ret (.const (.bl true))]
/-- keys_told -/
def S6 : List S := [.set 1 (.const (.int 1)), .loop (.nm 2) (.rng1 (.ix (.var 0) (.const (.int 0)))) [.set 1 (.bin .mul (.var 1) (.ix (.var 0) (.const (.int 1))))], .ret (.var 1)]
/-- is_grid -/
def S7 : List S := [.ret (.call 3 [(.var 0)])]
/-- is_key -/
def S8 : List S := [.ex (.call 4 [(.var 0)]), .ret (.call 5 [(.var 0), (.var 1)])]
/-- keys_many -/
def S9 : List S := [.ex (.call 4 [(.var 0)]), .ret (.call 6 [(.var 0)])]
/-- _law_mixed -/
def S11 : List S := [.asg (.tp [(.nm 1), (.nm 2)]) (.tup [(.bin .add (.call 1004 [(.var 0)]) (.const (.int 1))), (.const (.int 0))]), .ex (.call 1005 [(.var 0), (.var 1)]), .loop (.nm 3) (.val (.lst [(.const (.int 2147483647)), (.const (.int 2147483629)), (.const (.int 2147483587)), (.const (.int 2147483579))])) [.set 4 (.bin .add (.bin .mul (.const (.int 48271)) (.var 1)) (.bin .fdiv (.var 3) (.const (.int 37)))), .loop (.nm 5) (.val (.call 1001 [(.var 0)])) [.set 4 (.bin .mod (.bf .int [(.bin .add (.bin .add (.bin .mul (.var 4) (.const (.int 69621))) (.var 5)) (.var 1))]) (.var 3))], .set 2 (.bin .add (.bin .mul (.var 2) (.const (.int 2147483647))) (.bin .mod (.bf .int [(.bin .pow (.var 4) (.const (.int 5)))]) (.var 3)))], .ret (.var 2)]
/-- _law_take -/
def S12 : List S := [.cond (.cmp .eq (.call 1000 [(.var 0)]) (.const (.int 0))) [.ex (.call 1002 [(.var 0), (.call 1006 [(.var 0)])])] [], .set 2 (.bin .mod (.bf .int [(.call 1000 [(.var 0)])]) (.var 1)), .ex (.call 1002 [(.var 0), (.bin .fdiv (.call 1000 [(.var 0)]) (.var 1))]), .ret (.var 2)]
/-- _law_pick -/
def S13 : List S := [.ret (.ix (.var 1) (.call 12 [(.var 0), (.bf .len [(.var 1)])]))]
/-- _law_same -/
def S14 : List S := [.ret (.and (.cmp .eq (.var 0) (.var 1)) (.cmp .eq (.bf .repr [(.var 0)]) (.bf .repr [(.var 1)])))]
/-- _law_is_int -/
def S15 : List S := [.ret (.and (.bf (.isi .int) [(.var 0)]) (.not (.bf (.isi .bool) [(.var 0)])))]
/-- _law_is_between -/
def S16 : List S := [.ret (.and (.call 15 [(.var 0)]) (.and (.cmp .ge (.var 0) (.var 1)) (.cmp .le (.var 0) (.var 2))))]
/-- _law_is_name -/
def S17 : List S := [.cond (.not (.bf (.isi .str) [(.var 0)])) [.ret (.const (.bl false))] [], .cond (.cmp .notin (.bf .len [(.var 0)]) (.bf .range2 [(.const (.int 1)), (.const (.int 9))])) [.ret (.const (.bl false))] [], .ret (.cmp .eq (.comp [1] (.nm 1) (.val (.var 0)) (.cmp .notin (.var 1) (.const (.str "0123456789abcdefghijklmnopqrstuvwxyz"))) (.var 1)) (.lst []))]
/-- _law_is_grid -/
def S18 : List S := [.cond (.not (.bf (.isi .tuple) [(.var 0)])) [.ret (.const (.bl false))] [], .ret (.and (.cmp .eq (.bf .len [(.var 0)]) (.const (.int 2))) (.and (.call 16 [(.ix (.var 0) (.const (.int 0))), (.const (.int 1)), (.const (.int 10))]) (.call 16 [(.ix (.var 0) (.const (.int 1))), (.const (.int 2)), (.const (.int 10))])))]
/-- _law_is_key -/
def S19 : List S := [.cond (.not (.bf (.isi .tuple) [(.var 1)])) [.ret (.const (.bl false))] [], .ret (.and (.cmp .eq (.bf .len [(.var 1)]) (.ix (.var 0) (.const (.int 0)))) (.cmp .eq (.comp [2] (.nm 2) (.val (.var 1)) (.not (.call 16 [(.var 2), (.const (.int 0)), (.bin .sub (.ix (.var 0) (.const (.int 1))) (.const (.int 1)))])) (.var 2)) (.lst [])))]
/-- _law_power -/
def S20 : List S := [.set 2 (.const (.int 1)), .loop (.nm 3) (.rng1 (.var 1)) [.set 2 (.bin .mul (.var 2) (.var 0))], .ret (.var 2)]
/-- _law_grid -/
def S21 : List S := [.ret (.tup [(.bin .add (.const (.int 1)) (.call 12 [(.var 0), (.const (.int 10))])), (.bin .add (.const (.int 2)) (.call 12 [(.var 0), (.const (.int 9))]))])]
/-- _law_key -/
def S22 : List S := [.ret (.bf .tuple [(.comp [2] (.nm 2) (.rng1 (.ix (.var 1) (.const (.int 0)))) (.const (.bl true)) (.call 12 [(.var 0), (.ix (.var 1) (.const (.int 1)))]))])]
/-- _law_name -/
def S23 : List S := [.ret (.mt .join (.const (.str "")) [(.comp [1] (.nm 1) (.rng1 (.bin .add (.const (.int 1)) (.call 12 [(.var 0), (.const (.int 8))]))) (.const (.bl true)) (.call 13 [(.var 0), (.const (.str "abcdefghijklmnopqrstuvwxyz0123456789"))]))])]
/-- _law_bent_part -/
def S24 : List S := [.set 2 (.lst [(.const (.non)), (.const (.int 5)), (.const (.bl true)), (.const (.bl false)), (.const (.str "")), (.tup []), (.const (.str "a")), (.tup [(.var 1)]), (.lst [(.var 1)]), (.bin .sub (.const (.int 0)) (.const (.int 1))), (.const (.int 0)), (.const (.int 1)), (.const (.int 9)), (.const (.int 10)), (.const (.int 11)), (.const (.int 2)), (.tup [(.const (.int 0))]), (.tup [(.const (.int 1)), (.const (.int 0))]), (.tup [(.const (.int 0)), (.const (.int 0))])]), .cond (.bf (.isi .tuple) [(.var 1)]) [.set 2 (.lst [(.bf .list [(.var 1)]), (.rev (.var 1)), (.bin .add (.var 1) (.slF (.var 1) (.neg (.const (.int 1))))), (.slT (.var 1) (.neg (.const (.int 1)))), (.slF (.var 1) (.const (.int 1))), (.bin .add (.var 1) (.tup [(.const (.non))])), (.const (.non)), (.tup []), (.bin .add (.var 1) (.var 1))])] [], .cond (.bf (.isi .str) [(.var 1)]) [.set 2 (.bin .add (.var 2) (.lst [(.bin .add (.var 1) (.const (.str "a"))), (.slT (.var 1) (.neg (.const (.int 1)))), (.bin .add (.var 1) (.const (.str " "))), (.const (.str "key")), (.const (.str "lock")), (.const (.str "A")), (.mt .upper (.var 1) [])]))] [], .cond (.call 15 [(.var 1)]) [.set 2 (.bin .add (.var 2) (.lst [(.bin .add (.var 1) (.const (.int 1))), (.bin .sub (.var 1) (.const (.int 1)))]))] [], .ret (.call 13 [(.var 0), (.var 2)])]
/-- _law_bent -/
def S25 : List S := [.cond (.and (.bf (.isi .tuple) [(.var 1)]) (.and (.cmp .gt (.call 12 [(.var 0), (.const (.int 6))]) (.const (.int 0))) (.cmp .ne (.var 1) (.tup [])))) [.set 2 (.call 12 [(.var 0), (.bf .len [(.var 1)])]), .ret (.bin .add (.bin .add (.slT (.var 1) (.var 2)) (.tup [(.call 25 [(.var 0), (.ix (.var 1) (.var 2))])])) (.slF (.var 1) (.bin .add (.var 2) (.const (.int 1)))))] [], .ret (.call 24 [(.var 0), (.var 1)])]
/-- _law_bad_grid -/
def S26 : List S := [.ret (.call 13 [(.var 0), (.lst [(.const (.non)), (.const (.int 5)), (.tup []), (.tup [(.const (.int 3))]), (.lst [(.const (.int 3)), (.const (.int 4))]), (.tup [(.const (.int 0)), (.const (.int 4))]), (.tup [(.const (.int 11)), (.const (.int 4))]), (.tup [(.const (.int 3)), (.const (.int 1))]), (.tup [(.const (.int 3)), (.const (.int 11))]), (.tup [(.const (.bl true)), (.const (.int 4))]), (.tup [(.const (.int 3)), (.const (.bl true))]), (.tup [(.const (.int 3)), (.const (.int 4)), (.const (.int 5))]), (.tup [(.const (.str "3")), (.const (.int 4))]), (.tup [(.const (.int 3)), (.const (.non))]), (.tup [(.const (.int 3)), (.const (.str "4"))])])])]
/-- _law_bad_key -/
def S27 : List S := [.set 2 (.call 22 [(.var 0), (.var 1)]), .ret (.call 13 [(.var 0), (.lst [(.const (.non)), (.const (.int 5)), (.tup []), (.bf .list [(.var 2)]), (.bin .add (.var 2) (.tup [(.const (.int 0))])), (.slF (.var 2) (.const (.int 1))), (.bin .add (.tup [(.ix (.var 1) (.const (.int 1)))]) (.slF (.var 2) (.const (.int 1)))), (.bin .add (.slT (.var 2) (.neg (.const (.int 1)))) (.tup [(.bin .sub (.const (.int 0)) (.const (.int 1)))])), (.bin .add (.tup [(.const (.bl true))]) (.slF (.var 2) (.const (.int 1)))), (.bin .add (.tup [(.const (.non))]) (.slF (.var 2) (.const (.int 1))))])])]
/-- _law_told -/
def S28 : List S := [.set 1 (.const (.non)), .tryk 0 1 3, .own 2 (.lst []), .cond (.bf (.isC "BadChamber") [(.var 1)]) [.app 2 (.const (.str "BadChamber"))] [], .cond (.bf (.isC "BadGrid") [(.var 1)]) [.app 2 (.const (.str "BadGrid"))] [], .cond (.bf (.isC "BadKey") [(.var 1)]) [.app 2 (.const (.str "BadKey"))] [], .cond (.bf (.isC "BadLock") [(.var 1)]) [.app 2 (.const (.str "BadLock"))] [], .cond (.bf (.isC "BadLocks") [(.var 1)]) [.app 2 (.const (.str "BadLocks"))] [], .cond (.bf (.isC "BadLot") [(.var 1)]) [.app 2 (.const (.str "BadLot"))] [], .cond (.bf (.isC "BadMany") [(.var 1)]) [.app 2 (.const (.str "BadMany"))] [], .cond (.bf (.isC "BadOne") [(.var 1)]) [.app 2 (.const (.str "BadOne"))] [], .cond (.bf (.isC "BadOther") [(.var 1)]) [.app 2 (.const (.str "BadOther"))] [], .cond (.bf (.isC "BadPlace") [(.var 1)]) [.app 2 (.const (.str "BadPlace"))] [], .cond (.bf (.isC "BadRounds") [(.var 1)]) [.app 2 (.const (.str "BadRounds"))] [], .cond (.bf (.isC "TooMany") [(.var 1)]) [.app 2 (.ite (.call 14 [.bad, (.const (.int 4096))]) (.const (.str "TooMany 4096")) (.const (.str "TooMany")))] [], .frz 2, .ret (.ite (.or (.cmp .ne (.var 2) (.lst [])) (.cmp .isn (.var 1) (.const (.non)))) (.var 2) (.lst [(.const (.str "LockError"))]))]
/-- _law_all -/
def S29 : List S := [.set 1 (.lst []), .loop (.nm 2) (.val (.var 0)) [.set 1 (.bin .add (.var 1) (.call 28 [(.var 2)]))], .ret (.var 1)]
/-- _law_near_word -/
def S30 : List S := [.set 1 (.bin .add (.call 23 [(.var 0)]) (.call 13 [(.var 0), (.lst [(.const (.str "")), (.const (.str "")), (.const (.str "abcdefgh")), (.const (.str "0"))])])), .asg (.tp [(.nm 2), (.nm 3)]) (.tup [(.call 12 [(.var 0), (.bf .len [(.var 1)])]), (.call 12 [(.var 0), (.const (.int 6))])]), .set 4 (.call 13 [(.var 0), (.lst [(.call 13 [(.var 0), (.const (.str "abcdefghijklmnopqrstuvwxyz0123456789"))]), (.call 13 [(.var 0), (.const (.str "ABCXYZ_-./ "))])])]), .cond (.cmp .eq (.var 3) (.const (.int 0))) [.ret (.bin .add (.bin .add (.slT (.var 1) (.var 2)) (.var 4)) (.slF (.var 1) (.bin .add (.var 2) (.const (.int 1)))))] [], .cond (.cmp .eq (.var 3) (.const (.int 1))) [.ret (.bin .add (.slT (.var 1) (.var 2)) (.slF (.var 1) (.bin .add (.var 2) (.const (.int 1)))))] [], .ret (.ite (.cmp .eq (.var 3) (.const (.int 2))) (.bin .add (.bin .add (.slT (.var 1) (.var 2)) (.var 4)) (.slF (.var 1) (.var 2))) (.slT (.var 1) (.call 13 [(.var 0), (.lst [(.const (.int 8)), (.const (.int 8)), (.const (.int 9)), (.const (.int 16))])])))]
/-- _law_are_limits -/
def S31 : List S := [.own 0 (.lst []), .loop (.nm 1) (.rng2 (.bin .sub (.const (.int 0)) (.const (.int 1))) (.const (.int 13))) [.ext 0 (.comp [6] (.nm 6) (.rng2 (.bin .sub (.const (.int 0)) (.const (.int 1))) (.const (.int 13))) (.const (.bl true)) (.tup [(.var 1), (.var 6)]))], .frz 0, .cond (.not (.call 14 [(.comp [2] (.nm 2) (.val (.var 0)) (.const (.bl true)) (.call 7 [(.var 2)])), (.comp [2] (.nm 2) (.val (.var 0)) (.const (.bl true)) (.call 18 [(.var 2)]))])) [.ret (.const (.bl false))] [], .loop (.nm 2) (.val (.lst [(.tup [(.const (.int 1)), (.const (.int 2))]), (.tup [(.const (.int 1)), (.const (.int 10))]), (.tup [(.const (.int 10)), (.const (.int 2))]), (.tup [(.const (.int 10)), (.const (.int 10))]), (.tup [(.const (.int 4)), (.const (.int 7))])])) [.asg (.tp [(.nm 3), (.nm 4)]) (.tup [(.bin .mul (.tup [(.const (.int 0))]) (.ix (.var 2) (.const (.int 0)))), (.bin .mul (.tup [(.bin .sub (.ix (.var 2) (.const (.int 1))) (.const (.int 1)))]) (.ix (.var 2) (.const (.int 0))))]), .set 5 (.lst [(.const (.bl true)), (.const (.bl true)), (.const (.bl false)), (.const (.bl false)), (.const (.bl false)), (.const (.bl false)), (.const (.bl false))]), .own 0 (.lst [(.var 3), (.var 4), (.slF (.var 3) (.const (.int 1))), (.bin .add (.var 4) (.tup [(.const (.int 0))])), (.bin .add (.slF (.var 4) (.const (.int 1))) (.tup [(.ix (.var 2) (.const (.int 1)))])), (.bin .add (.slF (.var 3) (.const (.int 1))) (.tup [(.bin .sub (.const (.int 0)) (.const (.int 1)))])), (.bin .add (.slF (.var 3) (.const (.int 1))) (.tup [(.const (.bl false))]))]), .frz 0, .cond (.not (.call 14 [(.comp [7] (.nm 7) (.val (.var 0)) (.const (.bl true)) (.call 8 [(.var 2), (.var 7)])), (.var 5)])) [.ret (.const (.bl false))] []], .ret (.const (.bl true))]
/-- law -/
def S32 : List S := [.set 2 (.lst [(.const (.str "")), (.const (.non)), (.const (.int 5)), (.const (.bl true)), (.tup [(.const (.str "a"))]), (.lst [(.const (.str "a"))]), (.const (.str "A")), (.const (.str "a ")), (.const (.str "a\n")), (.const (.str "a.")), (.const (.str "abcdefgh")), (.const (.str "abcdefghi")), (.const (.str "01234567")), (.const (.str "012345678")), (.const (.str "_")), (.const (.str "/")), (.const (.str "plan"))]), .cond (.not (.call 14 [(.comp [4] (.nm 4) (.val (.var 2)) (.const (.bl true)) (.call 2 [(.var 4)])), (.comp [4] (.nm 4) (.val (.var 2)) (.const (.bl true)) (.call 17 [(.var 4)]))])) [.ret (.const (.bl false))] [], .loop (.nm 3) (.rng1 (.bin .add (.const (.int 4)) (.bf .min [(.bf .len [(.var 0)]), (.const (.int 20))]))) [.asg (.tp [(.nm 4), (.nm 5)]) (.tup [(.call 30 [(.var 1)]), (.call 21 [(.var 1)])]), .cond (.not (.call 14 [(.lst [(.call 2 [(.var 4)]), (.callk 2 [] [(.var 4)] [0])]), (.bin .mul (.lst [(.call 17 [(.var 4)])]) (.const (.int 2)))])) [.ret (.const (.bl false))] [], .asg (.tp [(.nm 6), (.nm 7)]) (.tup [(.call 22 [(.var 1), (.var 5)]), (.call 26 [(.var 1)])]), .cond (.not (.call 14 [(.lst [(.call 7 [(.var 5)]), (.call 8 [(.var 5), (.var 6)]), (.call 9 [(.var 5)]), (.callk 9 [] [(.var 5)] [0])]), (.bin .add (.lst [(.const (.bl true)), (.const (.bl true))]) (.bin .mul (.lst [(.call 20 [(.ix (.var 5) (.const (.int 1))), (.ix (.var 5) (.const (.int 0)))])]) (.const (.int 2))))])) [.ret (.const (.bl false))] [], .loop (.nm 8) (.rng1 (.const (.int 5))) [.asg (.tp [(.nm 9), (.nm 10)]) (.tup [(.call 25 [(.var 1), (.var 6)]), (.call 25 [(.var 1), (.var 5)])]), .cond (.not (.call 14 [(.lst [(.call 8 [(.var 5), (.var 9)]), (.callk 8 [] [(.var 5), (.var 9)] [0, 1])]), (.bin .mul (.lst [(.call 19 [(.var 5), (.var 9)])]) (.const (.int 2)))])) [.ret (.const (.bl false))] [], .cond (.not (.call 14 [(.lst [(.call 7 [(.var 10)]), (.callk 7 [] [(.var 10)] [0])]), (.bin .mul (.lst [(.call 18 [(.var 10)])]) (.const (.int 2)))])) [.ret (.const (.bl false))] []], .set 9 (.call 27 [(.var 1), (.var 5)]), .cond (.not (.call 14 [(.lst [(.call 8 [(.var 5), (.var 9)]), (.call 7 [(.var 7)])]), (.lst [(.const (.bl false)), (.const (.bl false))])])) [.ret (.const (.bl false))] [], .cond (.cmp .ne (.lamL 29 [(.call 8 [(.var 7), (.var 6)]), (.call 8 [(.var 7), (.var 9)]), (.call 9 [(.var 7)])]) (.bin .mul (.lst [(.const (.str "BadGrid"))]) (.const (.int 3)))) [.ret (.const (.bl false))] []], .ret (.call 31 [])]
end PL

namespace PL
open PySem L2
variable {Φ : Fns}
/-! ### what the predicates say -/
def numB : D → Bool
  | .int _ => true
  | _ => false
def inB (x : D) (a b : Int) : Bool := match x with
  | .int i => decide (a ≤ i) && decide (i ≤ b)
  | _ => false
def SG : Str := "abcdefghijklmnopqrstuvwxyz0123456789"
def signB (c : Nat) : Bool := decide (c ∈ SG.cps.toList)
def nameB : D → Bool
  | .str s => decide (1 ≤ s.length) && decide (s.length ≤ 8) && s.cps.toList.all signB
  | _ => false
def gridB : D → Bool
  | .tup [x, y] => inB x 1 10 && inB y 2 10
  | _ => false
def keyB (n d : Int) : D → Bool
  | .tup xs => decide ((xs.length : Int) = n) && xs.all fun x => inB x 0 (d - 1)
  | _ => false
/-! ### specs -/
def sp0 : List D → M D
  | [x] => gd (isPy x = true) (ret (.bl (numB x)))
  | _ => fail
def sp1 : List D → M D
  | [x, .int a, .int b] => gd (isPy x = true) (ret (.bl (inB x a b)))
  | _ => fail
def szS : D → Prop
  | .str s => szOk s.length
  | _ => True
def sp2 : List D → M D
  | [x] => gd (isPy x = true ∧ szS x) (ret (.bl (nameB x)))
  | _ => fail
def sp3 : List D → M D
  | [x] => gd (isPy x = true) (ret (.bl (gridB x)))
  | _ => fail
def sp4 : List D → M D
  | [x] => gd (isPy x = true) (if gridB x = true then ret .non else thr (.exc "BadGrid" .non))
  | _ => fail
def sp5 : List D → M D
  | [.tup [.int n, .int d], x] => gd (isPy x = true) (ret (.bl (keyB n d x)))
  | _ => fail
def sp5d : List D → M D
  | [.tup [.int n, .int d], x] => gd (isPy x = true ∧ x.depth ≤ 64) (ret (.bl (keyB n d x)))
  | _ => fail
def sp6 : List D → M D
  | [.tup [.int n, .int d]] => gd (0 ≤ n ∧ n ≤ 1000 ∧ 0 ≤ d ∧ d ≤ 1000) (ret (.int (d ^ n.toNat)))
  | _ => fail
def sp8 : List D → M D
  | [g, x] => gd (isPy g = true ∧ isPy x = true) (match g with
    | .tup [.int n, .int d] => if gridB g = true then ret (.bl (keyB n d x)) else thr (.exc "BadGrid" .non)
    | _ => thr (.exc "BadGrid" .non))
  | _ => fail
def sp9 : List D → M D
  | [g] => gd (isPy g = true) (match g with
    | .tup [.int n, .int d] => if gridB g = true then ret (.int (d ^ n.toNat)) else thr (.exc "BadGrid" .non)
    | _ => thr (.exc "BadGrid" .non))
  | _ => fail
theorem r0 (ds : List D) : Le (sp0 ds) (run Φ 1 S0 ds) := by
  intro c Q E h
  unfold sp0 at h
  split at h
  · rename_i x
    obtain ⟨h1, h⟩ := h
    cases x <;> simp_all [run, semB, semS, seqM, sem, semL, semI, startE, getV, outD, truth, ite_ap, S0, bfD, isiD, numB, isPy, D.py]
  · exact h.elim
theorem r15 (ds : List D) : Le (sp0 ds) (run Φ 1 S15 ds) := r0 ds
theorem r1 (h0 : Φ 0 = sp0) (ds : List D) : Le (sp1 ds) (run Φ 3 S1 ds) := by
  intro c Q E h
  unfold sp1 at h
  split at h
  · rename_i x a b
    obtain ⟨h1, h⟩ := h
    simp only [ret_ap] at h
    simp [run, semB, semS, seqM, sem, semL, semI, startE, getV, outD, truth, ite_ap, S1, h0, sp0, h1]
    cases x with
    | int i =>
      simp only [numB, copD, run, semB, semS, seqM, sem, semL, semI, startE, getV, outD, truth, ite_ap, lift_ret, ret_ap, bnd_ap, inB] at h ⊢
      by_cases q : a ≤ i <;> simp [q] at h ⊢ <;> exact h
    | _ => simpa [numB, inB] using h
  · exact h.elim
theorem r16 (h0 : Φ 15 = sp0) (ds : List D) : Le (sp1 ds) (run Φ 3 S16 ds) := by
  intro c Q E h
  unfold sp1 at h
  split at h
  · rename_i x a b
    obtain ⟨h1, h⟩ := h
    simp only [ret_ap] at h
    simp [run, semB, semS, seqM, sem, semL, semI, startE, getV, outD, truth, ite_ap, S16, h0, sp0, h1]
    cases x with
    | int i =>
      simp only [numB, copD, run, semB, semS, seqM, sem, semL, semI, startE, getV, outD, truth, ite_ap, lift_ret, ret_ap, bnd_ap, inB] at h ⊢
      by_cases q : a ≤ i <;> simp [q] at h ⊢ <;> exact h
    | _ => simpa [numB, inB] using h
  · exact h.elim
theorem SG_iff : ∀ c, c ∈ ("0123456789abcdefghijklmnopqrstuvwxyz" : Str).cps.toList ↔ c ∈ SG.cps.toList := by
  have h1 : ∀ c ∈ ("0123456789abcdefghijklmnopqrstuvwxyz" : Str).cps.toList, c ∈ SG.cps.toList := by decide +kernel
  have h2 : ∀ c ∈ SG.cps.toList, c ∈ ("0123456789abcdefghijklmnopqrstuvwxyz" : Str).cps.toList := by decide +kernel
  exact fun c => ⟨h1 c, h2 c⟩
theorem r2 (ds : List D) : Le (sp2 ds) (run Φ 2 S2 ds) := by
  intro c Q E h
  unfold sp2 at h
  split at h
  · rename_i x
    obtain ⟨⟨h1, h2⟩, h⟩ := h
    simp only [ret_ap] at h
    simp [run, semB, semS, seqM, sem, semL, semI, startE, getV, outD, truth, ite_ap, S2, bfD, h1]
    cases x with
    | str s =>
      have h2 : szOk s.length := h2
      simp [isiD, bfD, h2, copD, run, semB, semS, seqM, sem, semL, semI, startE, getV, outD, truth, ite_ap, gd_ap]
      simp only [nameB] at h
      by_cases q1 : 1 ≤ s.length
      · by_cases q2 : s.length ≤ 8
        · have e1 : (1 : Int) ≤ s.length := by omega
          have e2 : (s.length : Int) ≤ 8 := by omega
          have e0 : (decide (1 ≤ s.length) && decide (s.length ≤ 8) && s.cps.toList.all signB) = s.cps.toList.all signB := by simp [q1, q2]
          rw [e0] at h
          simp [e1, e2, itD, h2]
          refine loop_ind (fun ds ρ c => ∃ (e : En) (l : List Nat), ρ = [.val (.str s), e] ∧ ds = l.map (fun c : Nat => D.str ⟨#[c]⟩) ∧ Q (.bl (l.all signB)) c) ?_ ?_ _ _ _ ⟨_, _, rfl, rfl, h⟩
          · intro d ds ρ c p K kn _ _ kr
            obtain ⟨e, l, e1, e2, q⟩ := p
            subst e1
            cases l with
            | nil => cases e2
            | cons a l =>
              cases e2
              simp [asgE, inD, optM0, bnd0, ret0, lift, run, semB, semS, seqM, sem, semL, semI, startE, getV, outD, truth, ite_ap]
              by_cases m : a ∈ SG.cps.toList
              · have m' : a ∈ ("abcdefghijklmnopqrstuvwxyz0123456789" : Str).cps := Array.mem_toList_iff.mp m
                simp [m']
                refine kn _ _ ⟨_, l, rfl, rfl, ?_⟩
                have sb : signB a = true := decide_eq_true m
                rw [List.all_cons, sb, Bool.true_and] at q
                exact q
              · have m' : a ∉ ("abcdefghijklmnopqrstuvwxyz0123456789" : Str).cps := fun z => m (Array.mem_toList_iff.mpr z)
                simp [m']
                refine kr _ _ ?_
                have sb : signB a = false := decide_eq_false m
                rw [List.all_cons, sb, Bool.false_and] at q
                exact q
          · rintro ρ c ⟨e, l, e1, e2, q⟩
            subst e1
            cases l with
            | nil => simpa using q
            | cons a l => cases e2
        · have e2 : ¬ (s.length : Int) ≤ 8 := by omega
          simp [e2, q2, ite_self] at h ⊢
          exact h
      · have e1 : ¬ (1 : Int) ≤ s.length := by omega
        simp [e1, q1] at h ⊢
        exact h
    | _ => simpa [isiD, nameB] using h
  · exact h.elim
theorem r17 (ds : List D) : Le (sp2 ds) (run Φ 2 S17 ds) := by
  intro c Q E h
  unfold sp2 at h
  split at h
  · rename_i x
    obtain ⟨⟨h1, h2⟩, h⟩ := h
    simp only [ret_ap] at h
    simp [run, semB, semS, seqM, sem, semL, semI, startE, getV, outD, truth, ite_ap, S17, bfD, h1]
    cases x with
    | str s =>
      have h2 : szOk s.length := h2
      simp [isiD, bfD, h2, copD, run, semB, semS, seqM, sem, semL, semI, startE, getV, outD, truth, ite_ap, gd_ap, inD]
      simp only [nameB] at h
      by_cases q1 : 1 ≤ s.length ∧ s.length ≤ 8
      · have e1 : (1 : Int) ≤ s.length ∧ (s.length : Int) < 9 := by omega
        have e3 : (1 : Int) ≤ s.length := e1.1
        have e2 : (s.length : Int) < 9 := e1.2
        have e0 : (decide (1 ≤ s.length) && decide (s.length ≤ 8) && s.cps.toList.all signB) = s.cps.toList.all signB := by simp [q1.1, q1.2]
        rw [e0] at h
        simp [e2, e3, itD, h2]
        refine mapO_pure (fun d => match d with | .str z => if (z.cps.toList.all signB) = true then none else some d | _ => none) (fun d hd c K k => ?_) ?_
        · obtain ⟨a, _, rfl⟩ := List.mem_map.mp hd
          simp [turnM, asgE, asgL, wipeE, inD, optM0, bnd0, ret0, lift, run, semB, semS, seqM, sem, semL, semI, startE, getV, outD, truth, ite_ap]
          by_cases m : a ∈ SG.cps.toList
          · have m' : a ∈ ("0123456789abcdefghijklmnopqrstuvwxyz" : Str).cps := Array.mem_toList_iff.mp ((SG_iff a).mpr m)
            have sb : signB a = true := decide_eq_true m
            simp [m']
            simpa [sb] using k
          · have m' : a ∉ ("0123456789abcdefghijklmnopqrstuvwxyz" : Str).cps := fun z => m ((SG_iff a).mp (Array.mem_toList_iff.mpr z))
            have sb : signB a = false := decide_eq_false m
            simp [m']
            simpa [sb] using k
        · have key : ∀ l : List Nat, (l.map (fun c : Nat => D.str ⟨#[c]⟩)).filterMap (fun d => match d with | .str z => if (z.cps.toList.all signB) = true then none else some d | _ => none) = (l.filter fun a => !signB a).map (fun c : Nat => D.str ⟨#[c]⟩) := by
            intro l
            induction l with
            | nil => rfl
            | cons a l ih =>
              rw [List.map_cons, List.filter_cons]
              cases sb : signB a with
              | true => rw [List.filterMap_cons_none (by simp [sb]), ih]; simp
              | false => rw [List.filterMap_cons_some (b := D.str ⟨#[a]⟩) (by simp [sb]), ih]; simp
          rw [key]
          have al : ∀ l : List Nat, eqOk (.lst (l.map (fun c : Nat => D.str ⟨#[c]⟩))) := fun l => by
            refine ⟨isPy_lst_iff.mpr fun x hx => ?_, ?_⟩
            · obtain ⟨a, _, rfl⟩ := List.mem_map.mp hx; rfl
            · rw [D.depth]
              have := depthL_le (n := 0) (xs := l.map (fun c : Nat => D.str ⟨#[c]⟩)) fun x hx => by
                obtain ⟨a, _, rfl⟩ := List.mem_map.mp hx; simp [D.depth]
              omega
          refine ⟨⟨al _, al []⟩, ?_⟩
          have ee : D.eqv (.lst ((s.cps.toList.filter fun a => !signB a).map (fun c : Nat => D.str ⟨#[c]⟩))) (.lst []) = s.cps.toList.all signB := by
            cases q : s.cps.toList.filter fun a => !signB a with
            | nil =>
              have z : s.cps.toList.all signB = true := by
                rw [List.all_eq_true]
                intro a ha
                have := List.filter_eq_nil_iff.mp q a ha
                simpa using this
              rw [z]; rfl
            | cons a l =>
              have ma : a ∈ s.cps.toList.filter fun a => !signB a := by rw [q]; exact List.mem_cons_self
              obtain ⟨m1, m2⟩ := List.mem_filter.mp ma
              have z : s.cps.toList.all signB = false := by
                rw [List.all_eq_false]
                exact ⟨a, m1, by simpa using m2⟩
              rw [z]; rfl
          rw [ee]
          exact h
      · have e0 : (decide (1 ≤ s.length) && decide (s.length ≤ 8) && s.cps.toList.all signB) = false := by
          by_cases a : 1 ≤ s.length
          · have b : ¬ s.length ≤ 8 := fun b => q1 ⟨a, b⟩
            rw [decide_eq_false b, Bool.and_false, Bool.false_and]
          · rw [decide_eq_false a, Bool.false_and, Bool.false_and]
        rw [e0] at h
        have e1 : ¬ ((1 : Int) ≤ s.length ∧ (s.length : Int) < 9) := by omega
        by_cases a : (1 : Int) ≤ s.length
        · have b : ¬ (s.length : Int) < 9 := fun b => e1 ⟨a, b⟩
          simpa [a, b] using h
        · simpa [a] using h
    | _ => simpa [isiD, nameB] using h
  · exact h.elim
theorem r3 (h1 : Φ 1 = sp1) (ds : List D) : Le (sp3 ds) (run Φ 1 S3 ds) := by
  intro c Q E h
  unfold sp3 at h
  split at h
  · rename_i x
    obtain ⟨h2, h⟩ := h
    simp only [ret_ap] at h
    simp [run, semB, semS, seqM, sem, semL, semI, startE, getV, outD, truth, ite_ap, S3, bfD, h2]
    cases x with
    | tup xs =>
      have hp := isPy_tup_iff.mp h2
      simp [isiD, bfD, copD, run, semB, semS, seqM, sem, semL, semI, startE, getV, outD, truth, ite_ap, gd_ap, h1, sp1, eqOk, D.py, isPy, D.depth, D.eqv]
      match xs, h, hp with
      | [], h, _ => simpa [gridB] using h
      | [x], h, _ => simpa [gridB] using h
      | [x, y], h, hp =>
        have p1 : x.py.isSome = true := hp x (by simp)
        have p2 : y.py.isSome = true := hp y (by simp)
        have i0 : atI [x, y] 0 = some x := rfl
        have i1 : atI [x, y] 1 = some y := rfl
        simp [ixD, i0, i1, optM0, lift, ret0, p1, p2]
        simp only [gridB] at h
        cases z : inB x 1 10 <;> simpa [z] using h
      | x :: y :: z :: r, h, _ =>
        have e : ¬ ((r.length : Int) + 1 + 1 + 1 = 2) := by omega
        simpa [gridB, e] using h
    | _ => simpa [isiD, gridB] using h
  · exact h.elim
theorem r18 (h1 : Φ 16 = sp1) (ds : List D) : Le (sp3 ds) (run Φ 1 S18 ds) := by
  intro c Q E h
  unfold sp3 at h
  split at h
  · rename_i x
    obtain ⟨h2, h⟩ := h
    simp only [ret_ap] at h
    simp [run, semB, semS, seqM, sem, semL, semI, startE, getV, outD, truth, ite_ap, S18, bfD, h2]
    cases x with
    | tup xs =>
      have hp := isPy_tup_iff.mp h2
      simp [isiD, bfD, copD, run, semB, semS, seqM, sem, semL, semI, startE, getV, outD, truth, ite_ap, gd_ap, h1, sp1, eqOk, D.py, isPy, D.depth, D.eqv]
      match xs, h, hp with
      | [], h, _ => simpa [gridB] using h
      | [x], h, _ => simpa [gridB] using h
      | [x, y], h, hp =>
        have p1 : x.py.isSome = true := hp x (by simp)
        have p2 : y.py.isSome = true := hp y (by simp)
        have i0 : atI [x, y] 0 = some x := rfl
        have i1 : atI [x, y] 1 = some y := rfl
        simp [ixD, i0, i1, optM0, lift, ret0, p1, p2]
        simp only [gridB] at h
        cases z : inB x 1 10 <;> simpa [z] using h
      | x :: y :: z :: r, h, _ =>
        have e : ¬ ((r.length : Int) + 1 + 1 + 1 = 2) := by omega
        simpa [gridB, e] using h
    | _ => simpa [isiD, gridB] using h
  · exact h.elim
theorem r7 (h3 : Φ 3 = sp3) (ds : List D) : Le (sp3 ds) (run Φ 1 S7 ds) := by
  intro c Q E h
  unfold sp3 at h
  split at h
  · rename_i x
    simpa [run, semB, semS, seqM, sem, semL, semI, startE, getV, outD, truth, ite_ap, S7, h3, sp3] using h
  · exact h.elim
theorem r4 (h3 : Φ 3 = sp3) (ds : List D) : Le (sp4 ds) (run Φ 1 S4 ds) := by
  intro c Q E h
  unfold sp4 at h
  split at h
  · rename_i x
    obtain ⟨h2, h⟩ := h
    simp only [run, semB, semS, seqM, sem, semL, semI, startE, getV, outD, truth, ite_ap] at h
    simp [run, semB, semS, seqM, sem, semL, semI, startE, getV, outD, truth, ite_ap, S4, h3, sp3, h2]
    cases z : gridB x <;> simpa [z] using h
  · exact h.elim
/-- a row of data goes by a test: the list of those that fail it is empty exactly if all pass -/
theorem none_fail {p : D → Bool} {xs : List D} : D.eqv (.lst (xs.filter fun a => !p a)) (.lst []) = xs.all p := by
  cases q : xs.filter fun a => !p a with
  | nil =>
    have z : xs.all p = true := by
      rw [List.all_eq_true]
      intro a ha
      have := List.filter_eq_nil_iff.mp q a ha
      simpa using this
    rw [z]; rfl
  | cons a l =>
    have ma : a ∈ xs.filter fun a => !p a := by rw [q]; exact List.mem_cons_self
    obtain ⟨m1, m2⟩ := List.mem_filter.mp ma
    have z : xs.all p = false := by
      rw [List.all_eq_false]
      exact ⟨a, m1, by simpa using m2⟩
    rw [z]; rfl
theorem filterMap_if {p : D → Bool} : ∀ xs : List D, xs.filterMap (fun d => if p d = true then none else some d) = xs.filter fun a => !p a
  | [] => rfl
  | x :: xs => by
    rw [List.filter_cons]
    cases sb : p x with
    | true => rw [List.filterMap_cons_none (by simp [sb]), filterMap_if xs]; simp
    | false => rw [List.filterMap_cons_some (b := x) (by simp [sb]), filterMap_if xs]; simp
theorem ix_pair0 {x y : D} : ixD (.tup [x, y]) (.int 0) = ret0 x := rfl
theorem ix_pair1 {x y : D} : ixD (.tup [x, y]) (.int 1) = ret0 y := rfl
theorem eqOk_sub {xs ys : List D} (h : ∀ x ∈ ys, x ∈ xs) (p : isPy (.tup xs) = true) (d : (D.tup xs).depth ≤ 64) : eqOk (.lst ys) := by
  refine ⟨isPy_lst_iff.mpr fun x hx => isPy_tup_iff.mp p x (h x hx), ?_⟩
  have d : depthL xs + 1 ≤ 64 := d
  show depthL ys + 1 ≤ 64
  have := depthL_le (n := depthL xs) (xs := ys) fun x hx => le_depthL (h x hx)
  omega
theorem r5 (h1 : Φ 1 = sp1) (ds : List D) : Le (sp5 ds) (run Φ 3 S5 ds) := by
  intro c Q E h
  unfold sp5 at h
  split at h
  · rename_i n d x
    obtain ⟨h2, h⟩ := h
    simp only [ret_ap] at h
    simp [run, semB, semS, seqM, sem, semL, semI, startE, getV, outD, truth, ite_ap, S5, bfD, h2]
    cases x with
    | tup xs =>
      have hp := isPy_tup_iff.mp h2
      simp [isiD, bfD, copD, run, semB, semS, seqM, sem, semL, semI, startE, getV, outD, truth, ite_ap, gd_ap, eqOk, D.py, isPy, D.depth, D.eqv, ix_pair0]
      by_cases q1 : (xs.length : Int) = n
      · simp only [keyB, q1, decide_true, Bool.true_and] at h
        simp [q1, itD]
        refine loop_ind (fun ds ρ c => ∃ (e : En), ρ = [.val (.tup [.int n, .int d]), .val (.tup xs), e] ∧ (∀ x ∈ ds, isPy x = true) ∧ Q (.bl (ds.all fun x => inB x 0 (d - 1))) c) ?_ ?_ _ _ _ ⟨_, rfl, hp, h⟩
        · intro x ds ρ c p K kn _ _ kr
          obtain ⟨e, e1, hp, q⟩ := p
          subst e1
          simp [asgE, run, semB, semS, seqM, sem, semL, semI, startE, getV, outD, truth, ite_ap, h1, sp1, ix_pair1, bopD, lift, ret0, hp x (by simp)]
          rw [List.all_cons] at q
          cases z : inB x 0 (d - 1) with
          | true =>
            rw [z, Bool.true_and] at q
            simp
            exact kn _ _ ⟨_, rfl, fun y hy => hp y (List.mem_cons_of_mem _ hy), q⟩
          | false =>
            rw [z, Bool.false_and] at q
            simp
            exact kr _ _ q
        · rintro ρ c ⟨e, e1, _, q⟩
          subst e1
          simpa using q
      · simpa [keyB, q1] using h
    | _ => simpa [isiD, keyB] using h
  · exact h.elim
theorem r19 (h1 : Φ 16 = sp1) (ds : List D) : Le (sp5d ds) (run Φ 3 S19 ds) := by
  intro c Q E h
  unfold sp5d at h
  split at h
  · rename_i n d x
    obtain ⟨⟨h2, h3⟩, h⟩ := h
    simp only [ret_ap] at h
    simp [run, semB, semS, seqM, sem, semL, semI, startE, getV, outD, truth, ite_ap, S19, bfD, h2]
    cases x with
    | tup xs =>
      have hp := isPy_tup_iff.mp h2
      have u1 : eqOk (D.int xs.length) ∧ eqOk (D.int n) := ⟨⟨rfl, by simp [D.depth]⟩, ⟨rfl, by simp [D.depth]⟩⟩
      simp [isiD, bfD, copD, run, semB, semS, seqM, sem, semL, semI, startE, getV, outD, truth, ite_ap, gd_ap, ix_pair0, u1, D.eqv]
      by_cases q1 : (xs.length : Int) = n
      · simp only [keyB, q1, decide_true, Bool.true_and] at h
        simp [q1, itD]
        refine mapO_pure (fun x => if inB x 0 (d - 1) = true then none else some x) (fun x hd c K k => ?_) ?_
        · simp [turnM, asgE, asgL, wipeE, run, semB, semS, seqM, sem, semL, semI, startE, getV, outD, truth, ite_ap, h1, sp1, ix_pair1, bopD, lift, ret0, hp x hd]
          cases z : inB x 0 (d - 1) <;> simpa [z] using k
        · rw [filterMap_if]
          refine ⟨⟨eqOk_sub (fun x hx => (List.mem_filter.mp hx).1) h2 h3, ⟨rfl, by decide⟩⟩, ?_⟩
          show Q (.bl (D.eqv (.lst _) (.lst []))) _
          rw [none_fail]
          exact h
      · simpa [keyB, q1] using h
    | _ => simpa [isiD, keyB] using h
  · exact h.elim
def sp20 : List D → M D
  | [.int b, .int t] => gd (0 ≤ t ∧ t ≤ 1000 ∧ 0 ≤ b ∧ b ≤ 1000000) (ret (.int (b ^ t.toNat)))
  | _ => fail
theorem r6 (ds : List D) : Le (sp6 ds) (run Φ 3 S6 ds) := by
  intro c Q E h
  unfold sp6 at h
  split at h
  · rename_i n d
    obtain ⟨⟨n1, n2, d1, d2⟩, h⟩ := h
    simp only [ret_ap] at h
    have g1 : -(2 ^ 62 : Int) ≤ n ∧ n ≤ 16777216 := by omega
    simp [run, semB, semS, seqM, sem, semL, semI, startE, getV, outD, truth, ite_ap, S6, ix_pair0, lift, ret0, partI]
    refine ⟨by omega, ?_⟩
    refine loop_ind (fun ds ρ c => ∃ (e : En) (k : Nat), k + ds.length = n.toNat ∧ ρ = [.val (.tup [.int n, .int d]), .val (.int (d ^ k)), e] ∧ (∀ x ∈ ds, ∃ i, x = D.int i) ∧ Q (.int (d ^ n.toNat)) c) ?_ ?_ _ _ _ ⟨.un, 0, ?_, ?_, ?_, h⟩
    · intro x ds ρ c p K kn _ _ kr
      obtain ⟨e, k, e0, e1, hp, q⟩ := p
      subst e1
      obtain ⟨i, rfl⟩ := hp x List.mem_cons_self
      have cm : CMulW (d ^ k) d ∨ CMul (d ^ k) d := .inr (.inr ⟨by omega, by omega⟩)
      simp [asgE, run, semB, semS, seqM, sem, semL, semI, startE, getV, outD, truth, ite_ap, ix_pair1, bopD, lift, ret0, gd0, cm]
      refine kn _ _ ⟨.val (.int i), k + 1, by simp only [List.length_cons] at e0; omega, ?_, fun y hy => hp y (List.mem_cons_of_mem _ hy), q⟩
      rw [Int.pow_succ]
    · rintro ρ c ⟨e, k, e0, e1, _, q⟩
      subst e1
      simp only [List.length_nil, Nat.add_zero] at e0
      subst e0
      simpa using q
    · simp [rngL]
    · simp
    · intro x hx
      obtain ⟨a, _, rfl⟩ := List.mem_map.mp hx
      exact ⟨_, rfl⟩
  · exact h.elim
theorem r20 (ds : List D) : Le (sp20 ds) (run Φ 4 S20 ds) := by
  intro c Q E h
  unfold sp20 at h
  split at h
  · rename_i b n
    obtain ⟨⟨n1, n2, d1, d2⟩, h⟩ := h
    simp only [ret_ap] at h
    simp [run, semB, semS, seqM, sem, semL, semI, startE, getV, outD, truth, ite_ap, S20, partI]
    refine ⟨by omega, ?_⟩
    refine loop_ind (fun ds ρ c => ∃ (e : En) (k : Nat), k + ds.length = n.toNat ∧ ρ = [.val (.int b), .val (.int n), .val (.int (b ^ k)), e] ∧ (∀ x ∈ ds, ∃ i, x = D.int i) ∧ Q (.int (b ^ n.toNat)) c) ?_ ?_ _ _ _ ⟨.un, 0, ?_, ?_, ?_, h⟩
    · intro x ds ρ c p K kn _ _ kr
      obtain ⟨e, k, e0, e1, hp, q⟩ := p
      subst e1
      obtain ⟨i, rfl⟩ := hp x List.mem_cons_self
      have cm : CMulW (b ^ k) b ∨ CMul (b ^ k) b := .inr (.inr ⟨by omega, by omega⟩)
      simp [asgE, run, semB, semS, seqM, sem, semL, semI, startE, getV, outD, truth, ite_ap, bopD, lift, ret0, gd0, cm]
      refine kn _ _ ⟨.val (.int i), k + 1, by simp only [List.length_cons] at e0; omega, ?_, fun y hy => hp y (List.mem_cons_of_mem _ hy), q⟩
      rw [Int.pow_succ]
    · rintro ρ c ⟨e, k, e0, e1, _, q⟩
      subst e1
      simp only [List.length_nil, Nat.add_zero] at e0
      subst e0
      simpa using q
    · simp [rngL]
    · simp
    · intro x hx
      obtain ⟨a, _, rfl⟩ := List.mem_map.mp hx
      exact ⟨_, rfl⟩
  · exact h.elim
theorem gridB_inv {g : D} (h : gridB g = true) : ∃ n d : Int, g = .tup [.int n, .int d] ∧ 1 ≤ n ∧ n ≤ 10 ∧ 2 ≤ d ∧ d ≤ 10 := by
  unfold gridB at h
  split at h
  · rename_i x y
    rw [Bool.and_eq_true] at h
    obtain ⟨h1, h2⟩ := h
    cases x with
    | int n =>
      cases y with
      | int d =>
        simp only [inB, Bool.and_eq_true, decide_eq_true_eq] at h1 h2
        exact ⟨n, d, rfl, h1.1, h1.2, h2.1, h2.2⟩
      | _ => cases h2
    | _ => cases h1
  · cases h
theorem r8 (h4 : Φ 4 = sp4) (h5 : Φ 5 = sp5) (ds : List D) : Le (sp8 ds) (run Φ 2 S8 ds) := by
  intro c Q E h
  unfold sp8 at h
  split at h
  · rename_i g x
    obtain ⟨⟨h2, h3⟩, h⟩ := h
    simp [run, semB, semS, seqM, sem, semL, semI, startE, getV, outD, truth, ite_ap, S8, h4, sp4, h2]
    cases z : gridB g with
    | true =>
      obtain ⟨n, d, rfl, _⟩ := gridB_inv z
      simp [z, run, semB, semS, seqM, sem, semL, semI, startE, getV, outD, truth, ite_ap] at h
      simpa [h5, sp5, h3] using h
    | false =>
      simp
      split at h
      · simpa [z, run, semB, semS, seqM, sem, semL, semI, startE, getV, outD, truth, ite_ap] using h
      · exact h
  · exact h.elim
theorem r9 (h4 : Φ 4 = sp4) (h6 : Φ 6 = sp6) (ds : List D) : Le (sp9 ds) (run Φ 1 S9 ds) := by
  intro c Q E h
  unfold sp9 at h
  split at h
  · rename_i g
    obtain ⟨h2, h⟩ := h
    simp [run, semB, semS, seqM, sem, semL, semI, startE, getV, outD, truth, ite_ap, S9, h4, sp4, h2]
    cases z : gridB g with
    | true =>
      obtain ⟨n, d, rfl, n1, n2, d1, d2⟩ := gridB_inv z
      simp [z, run, semB, semS, seqM, sem, semL, semI, startE, getV, outD, truth, ite_ap] at h
      have g1 : 0 ≤ n ∧ n ≤ 1000 ∧ 0 ≤ d ∧ d ≤ 1000 := by omega
      simpa [h6, sp6, g1] using h
    | false =>
      simp
      split at h
      · simpa [z, run, semB, semS, seqM, sem, semL, semI, startE, getV, outD, truth, ite_ap] using h
      · exact h
  · exact h.elim
end PL

namespace PL
open PySem L2
variable {Φ : Fns}
/-! ### the draw -/
def isI (m : Int) (r : D) : Prop := ∃ i : Int, r = .int i ∧ 0 ≤ i ∧ i < m
def sp12 : List D → M D
  | [.drw, .int m] => gd (0 < m ∧ m.natAbs.log2 < 9000) (drawn 1 (isI m))
  | _ => fail
def sp13 : List D → M D
  | [.drw, .lst xs] => gd (0 < xs.length ∧ xs.length < 16777216) (drawn 1 fun r => r ∈ xs)
  | [.drw, .tup xs] => gd (0 < xs.length ∧ xs.length < 16777216) (drawn 1 fun r => r ∈ xs)
  | [.drw, .str s] => gd (0 < s.length ∧ s.length < 16777216) (drawn 1 fun r => ∃ c ∈ s.cps.toList, r = .str ⟨#[c]⟩)
  | _ => fail
theorem bl_iff (b : Bool) : (D.bl b) = .bl b := rfl
set_option exponentiation.threshold 10000 in
theorem log2_lt {n k : Nat} (h : n < 2 ^ k) (hk : 0 < k) : n.log2 < k := by
  by_cases z : n = 0
  · subst z; simpa using hk
  · exact (Nat.log2_lt z).mpr h
theorem r11 (h1 : Φ 1004 = drTurn) (h2 : Φ 1005 = drSetT) (h3 : Φ 1001 = drInts) (ds : List D) : Le (drMix ds) (run Φ 6 S11 ds) := by
  intro c Q E h
  unfold drMix at h
  split at h
  · obtain ⟨h0, h⟩ := h
    simp -implicitDefEqProofs only [run, semB, ↓semS_loop, ↓sem_comp, semS, seqM_ap, sem, semL, semI, startE, getV_0, getV_s, outD_nx, outD_rt, truth_bl, ite_ap, partI_i, strM_s, isLst_l, isSeq_l, isSeq_t, mkE_o, mkE_v, itD_t, itD_l, itD_s, optM_some, bnd_ap, ret_ap, gd_ap, noE_ap, thr_ap, o_gtT, o_intB, o_sum, o_addI, o_addS, o_addT, o_addL, o_sub, o_mul, o_mulL, o_mulT, o_fdiv, o_mod, o_pow, o_eq, o_ne, o_ltI, o_gt, o_le, o_ge, o_inT, o_inL, o_ninT, o_ninL, o_inR, o_ninR, o_inS, o_ninS, o_isn, o_notn, o_lenS, o_lenT, o_lenL, o_isi, o_isC, o_tupT, o_tupL, o_lstT, o_lstL, o_int, o_abs, o_min, o_max, o_repr, o_rng1, o_rng2, o_ixT, o_ixL, o_ixS, o_slT, o_slL, o_slS, o_neg, o_revT, o_revL, o_join, o_upper, List.map_cons, List.map_nil, List.length_cons, List.length_nil, List.replicate_succ, List.replicate_zero, List.cons_append, List.nil_append, List.set_cons_zero, List.set_cons_succ, Nat.reduceAdd, Nat.reduceSub, Nat.zero_add, ↓reduceIte, Bool.not_true, Bool.not_false, Bool.false_eq_true, Bool.not_eq_true, decide_true, decide_false, Option.map, reduceCtorEq, ret_bnd, S11, h1, h2, drTurn, drSetT, asgE, asgL]
    intro n hn
    refine ⟨by omega, ?_⟩
    refine loopB_ind (fun ds ρ c' => c' = c + 1 ∧ ∃ (f : Int) (e3 e4 e5 : En), ρ = [.val .drw, .val (.int (n + 1)), .val (.int f), e3, e4, e5] ∧ ∀ x ∈ ds, ∃ p : Int, x = .int p ∧ 0 < p ∧ p < 2147483648) ⟨rfl, 0, _, _, _, rfl, ?_⟩ ?_ ?_
    · intro x hx
      simp only [List.mem_cons, List.not_mem_nil, or_false] at hx
      rcases hx with rfl | rfl | rfl | rfl <;> exact ⟨_, rfl, by decide, by decide⟩
    · rintro d ds ρ c' ⟨rfl, f, e3, e4, e5, rfl, hp⟩ K kn _ _ _
      obtain ⟨p, rfl, p0, p1⟩ := hp d List.mem_cons_self
      have g1 : CMulW 48271 (n + 1) ∨ CMul 48271 (n + 1) := .inr (.inl ⟨by decide, by decide⟩)
      have g2 : CDivW p 37 := ⟨by decide, by decide⟩
      simp -implicitDefEqProofs only [run, semB, ↓semS_loop, ↓sem_comp, semS, seqM_ap, sem, semL, semI, startE, getV_0, getV_s, outD_nx, outD_rt, truth_bl, ite_ap, partI_i, strM_s, isLst_l, isSeq_l, isSeq_t, mkE_o, mkE_v, itD_t, itD_l, itD_s, optM_some, bnd_ap, ret_ap, gd_ap, noE_ap, thr_ap, o_gtT, o_intB, o_sum, o_addI, o_addS, o_addT, o_addL, o_sub, o_mul, o_mulL, o_mulT, o_fdiv, o_mod, o_pow, o_eq, o_ne, o_ltI, o_gt, o_le, o_ge, o_inT, o_inL, o_ninT, o_ninL, o_inR, o_ninR, o_inS, o_ninS, o_isn, o_notn, o_lenS, o_lenT, o_lenL, o_isi, o_isC, o_tupT, o_tupL, o_lstT, o_lstL, o_int, o_abs, o_min, o_max, o_repr, o_rng1, o_rng2, o_ixT, o_ixL, o_ixS, o_slT, o_slL, o_slS, o_neg, o_revT, o_revL, o_join, o_upper, List.map_cons, List.map_nil, List.length_cons, List.length_nil, List.replicate_succ, List.replicate_zero, List.cons_append, List.nil_append, List.set_cons_zero, List.set_cons_succ, Nat.reduceAdd, Nat.reduceSub, Nat.zero_add, ↓reduceIte, Bool.not_true, Bool.not_false, Bool.false_eq_true, Bool.not_eq_true, decide_true, decide_false, Option.map, reduceCtorEq, ret_bnd, asgE, h3, drInts, pick]
      refine ⟨g1, g2, ?_⟩
      rintro a ⟨ns, rfl, hl⟩
      simp -implicitDefEqProofs only [run, semB, ↓semS_loop, ↓sem_comp, semS, seqM_ap, sem, semL, semI, startE, getV_0, getV_s, outD_nx, outD_rt, truth_bl, ite_ap, partI_i, strM_s, isLst_l, isSeq_l, isSeq_t, mkE_o, mkE_v, itD_t, itD_l, itD_s, optM_some, bnd_ap, ret_ap, gd_ap, noE_ap, thr_ap]
      refine loopB_ind (fun ds ρ c' => c' = c + 1 ∧ ∃ (b : Int) (e5 : En), ρ = [.val .drw, .val (.int (n + 1)), .val (.int f), .val (.int p), .val (.int b), e5] ∧ b.natAbs < 2 ^ 64 ∧ ∀ x ∈ ds, ∃ i : Int, x = .int i) ⟨rfl, _, _, rfl, ?_, ?_⟩ ?_ ?_
      · have : (p / 37) ≤ p := Int.ediv_le_self _ (by omega)
        have : 0 ≤ p / 37 := Int.ediv_nonneg (by omega) (by decide)
        omega
      · intro x hx
        obtain ⟨i, _, rfl⟩ := List.mem_map.mp hx
        exact ⟨i, rfl⟩
      · rintro d ds' ρ c' ⟨rfl, b, e5, rfl, hb, hx⟩ K2 kn2 _ _ _
        obtain ⟨i, rfl⟩ := hx d List.mem_cons_self
        have g3 : CMulW b 69621 ∨ CMul b 69621 := .inr (.inr ⟨by decide, by decide⟩)
        simp -implicitDefEqProofs only [run, semB, ↓semS_loop, ↓sem_comp, semS, seqM_ap, sem, semL, semI, startE, getV_0, getV_s, outD_nx, outD_rt, truth_bl, ite_ap, partI_i, strM_s, isLst_l, isSeq_l, isSeq_t, mkE_o, mkE_v, itD_t, itD_l, itD_s, optM_some, bnd_ap, ret_ap, gd_ap, noE_ap, thr_ap, o_gtT, o_intB, o_sum, o_addI, o_addS, o_addT, o_addL, o_sub, o_mul, o_mulL, o_mulT, o_fdiv, o_mod, o_pow, o_eq, o_ne, o_ltI, o_gt, o_le, o_ge, o_inT, o_inL, o_ninT, o_ninL, o_inR, o_ninR, o_inS, o_ninS, o_isn, o_notn, o_lenS, o_lenT, o_lenL, o_isi, o_isC, o_tupT, o_tupL, o_lstT, o_lstL, o_int, o_abs, o_min, o_max, o_repr, o_rng1, o_rng2, o_ixT, o_ixL, o_ixS, o_slT, o_slL, o_slS, o_neg, o_revT, o_revL, o_join, o_upper, List.map_cons, List.map_nil, List.length_cons, List.length_nil, List.replicate_succ, List.replicate_zero, List.cons_append, List.nil_append, List.set_cons_zero, List.set_cons_succ, Nat.reduceAdd, Nat.reduceSub, Nat.zero_add, ↓reduceIte, Bool.not_true, Bool.not_false, Bool.false_eq_true, Bool.not_eq_true, decide_true, decide_false, Option.map, reduceCtorEq, ret_bnd, asgE]
        refine ⟨g3, p0, ?_⟩
        refine kn2 _ _ ⟨rfl, _, _, rfl, ?_, fun y hy => hx y (List.mem_cons_of_mem _ hy)⟩
        have q1 := Int.emod_nonneg (b * 69621 + i + (n + 1)) (show p ≠ 0 by omega)
        have q2 := Int.emod_lt_of_pos (b * 69621 + i + (n + 1)) p0
        omega
      · rintro ρ c' ⟨rfl, b, e5, rfl, hb, _⟩
        have g4 : CMulW f 2147483647 ∨ CMul f 2147483647 := .inr (.inr ⟨by decide, by decide⟩)
        have g5 : CPow b 5 := ⟨by decide, by decide, hb⟩
        simp -implicitDefEqProofs only [run, semB, ↓semS_loop, ↓sem_comp, semS, seqM_ap, sem, semL, semI, startE, getV_0, getV_s, outD_nx, outD_rt, truth_bl, ite_ap, partI_i, strM_s, isLst_l, isSeq_l, isSeq_t, mkE_o, mkE_v, itD_t, itD_l, itD_s, optM_some, bnd_ap, ret_ap, gd_ap, noE_ap, thr_ap, o_gtT, o_intB, o_sum, o_addI, o_addS, o_addT, o_addL, o_sub, o_mul, o_mulL, o_mulT, o_fdiv, o_mod, o_pow, o_eq, o_ne, o_ltI, o_gt, o_le, o_ge, o_inT, o_inL, o_ninT, o_ninL, o_inR, o_ninR, o_inS, o_ninS, o_isn, o_notn, o_lenS, o_lenT, o_lenL, o_isi, o_isC, o_tupT, o_tupL, o_lstT, o_lstL, o_int, o_abs, o_min, o_max, o_repr, o_rng1, o_rng2, o_ixT, o_ixL, o_ixS, o_slT, o_slL, o_slS, o_neg, o_revT, o_revL, o_join, o_upper, List.map_cons, List.map_nil, List.length_cons, List.length_nil, List.replicate_succ, List.replicate_zero, List.cons_append, List.nil_append, List.set_cons_zero, List.set_cons_succ, Nat.reduceAdd, Nat.reduceSub, Nat.zero_add, ↓reduceIte, Bool.not_true, Bool.not_false, Bool.false_eq_true, Bool.not_eq_true, decide_true, decide_false, Option.map, reduceCtorEq, ret_bnd]
        refine ⟨g4, g5, p0, ?_⟩
        exact kn _ _ ⟨rfl, _, _, _, _, rfl, fun y hy => hp y (List.mem_cons_of_mem _ hy)⟩
    · rintro ρ c' ⟨rfl, f, e3, e4, e5, rfl, _⟩
      simp -implicitDefEqProofs only [run, semB, ↓semS_loop, ↓sem_comp, semS, seqM_ap, sem, semL, semI, startE, getV_0, getV_s, outD_nx, outD_rt, truth_bl, ite_ap, partI_i, strM_s, isLst_l, isSeq_l, isSeq_t, mkE_o, mkE_v, itD_t, itD_l, itD_s, optM_some, bnd_ap, ret_ap, gd_ap, noE_ap, thr_ap]
      exact h _
  · exact h.elim
theorem r12 (h1 : Φ 1000 = drInt) (h2 : Φ 1002 = drSet) (h3 : Φ 1006 = drPop) (ds : List D) : Le (sp12 ds) (run Φ 3 S12 ds) := by
  intro c Q E h
  unfold sp12 at h
  split at h
  · obtain ⟨⟨h4, h5⟩, h6, h⟩ := h
    rename_i m
    have ok : ∀ a : Int, isI m (.int (a % m)) := fun a => ⟨_, rfl, Int.emod_nonneg _ (by omega), Int.emod_lt_of_pos _ h4⟩
    have e0 : ∀ a : Int, eqOk (.int a) := fun a => ⟨rfl, by simp [D.depth]⟩
    have l : c < 1099511627776 := by unfold LIM at h6; omega
    simp -implicitDefEqProofs [run, semB, ↓semS_loop, ↓sem_comp, semS, seqM_ap, sem, semL, semI, startE, getV_0, getV_s, outD_nx, outD_rt, truth_bl, ite_ap, partI_i, strM_s, isLst_l, isSeq_l, isSeq_t, mkE_o, mkE_v, itD_t, itD_l, itD_s, optM_some, bnd_ap, ret_ap, gd_ap, noE_ap, thr_ap, o_gtT, o_intB, o_sum, o_addI, o_addS, o_addT, o_addL, o_sub, o_mul, o_mulL, o_mulT, o_fdiv, o_mod, o_pow, o_eq, o_ne, o_ltI, o_gt, o_le, o_ge, o_inT, o_inL, o_ninT, o_ninL, o_inR, o_ninR, o_inS, o_ninS, o_isn, o_notn, o_lenS, o_lenT, o_lenL, o_isi, o_isC, o_tupT, o_tupL, o_lstT, o_lstL, o_int, o_abs, o_min, o_max, o_repr, o_rng1, o_rng2, o_ixT, o_ixL, o_ixS, o_slT, o_slL, o_slS, o_neg, o_revT, o_revL, o_join, o_upper, S12, h1, h2, h3, drInt, drSet, drPop, e0, D.eqv, pick, h4, CDivW, h5]
    intro a
    split
    · exact ⟨l, fun a => h _ _ (ok _) (Nat.le_refl _) (Nat.le_succ _), fun a => h _ _ (ok _) (Nat.le_succ _) (Nat.le_refl _)⟩
    · exact fun a => h _ _ (ok _) (Nat.le_refl _) (Nat.le_succ _)
  · exact h.elim
theorem atI_in {α : Type} {xs : List α} {i : Int} (h0 : 0 ≤ i) (h1 : i < xs.length) : ∃ a ∈ xs, atI xs i = some a := by
  have l : i.toNat < xs.length := by omega
  refine ⟨xs[i.toNat], List.getElem_mem l, ?_⟩
  unfold atI ixN
  rw [if_pos h0, if_pos h1]
  simp [l]
theorem r13 (h12 : Φ 12 = sp12) (ds : List D) : Le (sp13 ds) (run Φ 2 S13 ds) := by
  intro c Q E h
  have ix : ∀ {α : Type} (xs : List α) (i : Int), 0 ≤ i → i < xs.length → ∃ a ∈ xs, atI xs i = some a := fun xs i a b => atI_in a b
  have lg : ∀ n : Nat, n < 16777216 → (n : Int).natAbs.log2 < 9000 := fun n h => log2_lt (Nat.lt_trans h (by decide)) (by decide)
  unfold sp13 at h
  split at h
  · obtain ⟨⟨h4, h5⟩, h6, h⟩ := h
    rename_i xs
    simp -implicitDefEqProofs [run, semB, ↓semS_loop, ↓sem_comp, semS, seqM_ap, sem, semL, semI, startE, getV_0, getV_s, outD_nx, outD_rt, truth_bl, ite_ap, partI_i, strM_s, isLst_l, isSeq_l, isSeq_t, mkE_o, mkE_v, itD_t, itD_l, itD_s, optM_some, bnd_ap, ret_ap, gd_ap, noE_ap, thr_ap, o_gtT, o_intB, o_sum, o_addI, o_addS, o_addT, o_addL, o_sub, o_mul, o_mulL, o_mulT, o_fdiv, o_mod, o_pow, o_eq, o_ne, o_ltI, o_gt, o_le, o_ge, o_inT, o_inL, o_ninT, o_ninL, o_inR, o_ninR, o_inS, o_ninS, o_isn, o_notn, o_lenS, o_lenT, o_lenL, o_isi, o_isC, o_tupT, o_tupL, o_lstT, o_lstL, o_int, o_abs, o_min, o_max, o_repr, o_rng1, o_rng2, o_ixT, o_ixL, o_ixS, o_slT, o_slL, o_slS, o_neg, o_revT, o_revL, o_join, o_upper, S13, h12, sp12, drawn, h4]
    refine ⟨lg _ h5, h6, ?_⟩
    rintro r c' ⟨i, rfl, i0, i1⟩ l1 l2
    obtain ⟨a, ha, e⟩ := ix xs i i0 i1
    simp [o_gtT, o_intB, o_sum, o_addI, o_addS, o_addT, o_addL, o_sub, o_mul, o_mulL, o_mulT, o_fdiv, o_mod, o_pow, o_eq, o_ne, o_ltI, o_gt, o_le, o_ge, o_inT, o_inL, o_ninT, o_ninL, o_inR, o_ninR, o_inS, o_ninS, o_isn, o_notn, o_lenS, o_lenT, o_lenL, o_isi, o_isC, o_tupT, o_tupL, o_lstT, o_lstL, o_int, o_abs, o_min, o_max, o_repr, o_rng1, o_rng2, o_ixT, o_ixL, o_ixS, o_slT, o_slL, o_slS, o_neg, o_revT, o_revL, o_join, o_upper, run, semB, ↓semS_loop, ↓sem_comp, semS, seqM_ap, sem, semL, semI, startE, getV_0, getV_s, outD_nx, outD_rt, truth_bl, ite_ap, partI_i, strM_s, isLst_l, isSeq_l, isSeq_t, mkE_o, mkE_v, itD_t, itD_l, itD_s, optM_some, bnd_ap, ret_ap, gd_ap, noE_ap, thr_ap, e]
    exact h _ _ ha l1 l2
  · obtain ⟨⟨h4, h5⟩, h6, h⟩ := h
    rename_i xs
    simp -implicitDefEqProofs [run, semB, ↓semS_loop, ↓sem_comp, semS, seqM_ap, sem, semL, semI, startE, getV_0, getV_s, outD_nx, outD_rt, truth_bl, ite_ap, partI_i, strM_s, isLst_l, isSeq_l, isSeq_t, mkE_o, mkE_v, itD_t, itD_l, itD_s, optM_some, bnd_ap, ret_ap, gd_ap, noE_ap, thr_ap, o_gtT, o_intB, o_sum, o_addI, o_addS, o_addT, o_addL, o_sub, o_mul, o_mulL, o_mulT, o_fdiv, o_mod, o_pow, o_eq, o_ne, o_ltI, o_gt, o_le, o_ge, o_inT, o_inL, o_ninT, o_ninL, o_inR, o_ninR, o_inS, o_ninS, o_isn, o_notn, o_lenS, o_lenT, o_lenL, o_isi, o_isC, o_tupT, o_tupL, o_lstT, o_lstL, o_int, o_abs, o_min, o_max, o_repr, o_rng1, o_rng2, o_ixT, o_ixL, o_ixS, o_slT, o_slL, o_slS, o_neg, o_revT, o_revL, o_join, o_upper, S13, h12, sp12, drawn, h4]
    refine ⟨lg _ h5, h6, ?_⟩
    rintro r c' ⟨i, rfl, i0, i1⟩ l1 l2
    obtain ⟨a, ha, e⟩ := ix xs i i0 i1
    simp [o_gtT, o_intB, o_sum, o_addI, o_addS, o_addT, o_addL, o_sub, o_mul, o_mulL, o_mulT, o_fdiv, o_mod, o_pow, o_eq, o_ne, o_ltI, o_gt, o_le, o_ge, o_inT, o_inL, o_ninT, o_ninL, o_inR, o_ninR, o_inS, o_ninS, o_isn, o_notn, o_lenS, o_lenT, o_lenL, o_isi, o_isC, o_tupT, o_tupL, o_lstT, o_lstL, o_int, o_abs, o_min, o_max, o_repr, o_rng1, o_rng2, o_ixT, o_ixL, o_ixS, o_slT, o_slL, o_slS, o_neg, o_revT, o_revL, o_join, o_upper, run, semB, ↓semS_loop, ↓sem_comp, semS, seqM_ap, sem, semL, semI, startE, getV_0, getV_s, outD_nx, outD_rt, truth_bl, ite_ap, partI_i, strM_s, isLst_l, isSeq_l, isSeq_t, mkE_o, mkE_v, itD_t, itD_l, itD_s, optM_some, bnd_ap, ret_ap, gd_ap, noE_ap, thr_ap, e]
    exact h _ _ ha l1 l2
  · obtain ⟨⟨h4, h5⟩, h6, h⟩ := h
    rename_i s
    have sz : szOk s.length := Nat.le_of_lt h5
    simp -implicitDefEqProofs [run, semB, ↓semS_loop, ↓sem_comp, semS, seqM_ap, sem, semL, semI, startE, getV_0, getV_s, outD_nx, outD_rt, truth_bl, ite_ap, partI_i, strM_s, isLst_l, isSeq_l, isSeq_t, mkE_o, mkE_v, itD_t, itD_l, itD_s, optM_some, bnd_ap, ret_ap, gd_ap, noE_ap, thr_ap, o_gtT, o_intB, o_sum, o_addI, o_addS, o_addT, o_addL, o_sub, o_mul, o_mulL, o_mulT, o_fdiv, o_mod, o_pow, o_eq, o_ne, o_ltI, o_gt, o_le, o_ge, o_inT, o_inL, o_ninT, o_ninL, o_inR, o_ninR, o_inS, o_ninS, o_isn, o_notn, o_lenS, o_lenT, o_lenL, o_isi, o_isC, o_tupT, o_tupL, o_lstT, o_lstL, o_int, o_abs, o_min, o_max, o_repr, o_rng1, o_rng2, o_ixT, o_ixL, o_ixS, o_slT, o_slL, o_slS, o_neg, o_revT, o_revL, o_join, o_upper, S13, h12, sp12, drawn, h4, sz]
    refine ⟨lg _ h5, h6, ?_⟩
    rintro r c' ⟨i, rfl, i0, i1⟩ l1 l2
    obtain ⟨a, ha, e⟩ := ix s.cps.toList i i0 (by rw [Array.length_toList]; exact i1)
    simp [o_gtT, o_intB, o_sum, o_addI, o_addS, o_addT, o_addL, o_sub, o_mul, o_mulL, o_mulT, o_fdiv, o_mod, o_pow, o_eq, o_ne, o_ltI, o_gt, o_le, o_ge, o_inT, o_inL, o_ninT, o_ninL, o_inR, o_ninR, o_inS, o_ninS, o_isn, o_notn, o_lenS, o_lenT, o_lenL, o_isi, o_isC, o_tupT, o_tupL, o_lstT, o_lstL, o_int, o_abs, o_min, o_max, o_repr, o_rng1, o_rng2, o_ixT, o_ixL, o_ixS, o_slT, o_slL, o_slS, o_neg, o_revT, o_revL, o_join, o_upper, run, semB, ↓semS_loop, ↓sem_comp, semS, seqM_ap, sem, semL, semI, startE, getV_0, getV_s, outD_nx, outD_rt, truth_bl, ite_ap, partI_i, strM_s, isLst_l, isSeq_l, isSeq_t, mkE_o, mkE_v, itD_t, itD_l, itD_s, optM_some, bnd_ap, ret_ap, gd_ap, noE_ap, thr_ap, e, sz]
    exact h _ _ ⟨a, ha, rfl⟩ l1 l2
  · exact h.elim
/-! ### same -/
def sameM (x y : D) : M D := fun c Q _ => (x = y ∧ x.fine ∧ Q (.bl true) c) ∨ ∃ a b : Int, x = .int a ∧ y = .int b ∧ a ≠ b ∧ a.natAbs.log2 < 1900 ∧ b.natAbs.log2 < 1900 ∧ Q (.bl false) c
def sp14 : List D → M D
  | [x, y] => sameM x y
  | _ => fail
/-- told and due alike -/
theorem same_ok {x y : D} (e : x = y) (h : x.fine) {c : Nat} {Q : D → Nat → Prop} {E : D → Nat → Prop} (k : Q (.bl true) c) : sp14 [x, y] c Q E := .inl ⟨e, h, k⟩
theorem fine_ok {x : D} (h : x.fine) : eqOk x := ⟨h.1, Nat.le_trans h.2.1 (by decide)⟩
theorem fine_int {a : Int} (h : a.natAbs.log2 < 1900) : (D.int a).fine := ⟨rfl, by simp [D.depth], rfl, by rw [D.shb]; exact decide_eq_true (by omega), by rw [D.wt]; omega⟩
theorem fine_str (t : Str) : eqOk (.str t) := ⟨rfl, by simp [D.depth]⟩
theorem r14 (ds : List D) : Le (sp14 ds) (run Φ 2 S14 ds) := by
  have key : ∀ (x : D) (c : Nat) (Q E : D → Nat → Prop), x.fine → Q (.bl true) c → run Φ 2 S14 [x, x] c Q E := by
    intro x c Q E f q
    obtain ⟨t, ht⟩ := shown_ok f
    simp -implicitDefEqProofs only [run, semB, ↓semS_loop, ↓sem_comp, semS, seqM_ap, sem, semL, semI, startE, getV_0, getV_s, outD_nx, outD_rt, truth_bl, ite_ap, partI_i, strM_s, isLst_l, isSeq_l, isSeq_t, mkE_o, mkE_v, itD_t, itD_l, itD_s, optM_some, bnd_ap, ret_ap, gd_ap, noE_ap, thr_ap, o_gtT, o_intB, o_sum, o_addI, o_addS, o_addT, o_addL, o_sub, o_mul, o_mulL, o_mulT, o_fdiv, o_mod, o_pow, o_eq, o_ne, o_ltI, o_gt, o_le, o_ge, o_inT, o_inL, o_ninT, o_ninL, o_inR, o_ninR, o_inS, o_ninS, o_isn, o_notn, o_lenS, o_lenT, o_lenL, o_isi, o_isC, o_tupT, o_tupL, o_lstT, o_lstL, o_int, o_abs, o_min, o_max, o_repr, o_rng1, o_rng2, o_ixT, o_ixL, o_ixS, o_slT, o_slL, o_slS, o_neg, o_revT, o_revL, o_join, o_upper, List.map_cons, List.map_nil, List.length_cons, List.length_nil, List.replicate_succ, List.replicate_zero, List.cons_append, List.nil_append, List.set_cons_zero, List.set_cons_succ, Nat.reduceAdd, Nat.reduceSub, Nat.zero_add, ↓reduceIte, Bool.not_true, Bool.not_false, Bool.false_eq_true, Bool.not_eq_true, decide_true, decide_false, Option.map, reduceCtorEq, ret_bnd, S14, eqv_self x f.1]
    refine ⟨⟨fine_ok f, fine_ok f⟩, ?_⟩
    refine ht _ _ _ (ht _ _ _ ?_)
    refine ⟨⟨fine_str t, fine_str t⟩, ?_⟩
    rw [eqv_self (.str t) rfl]
    exact q
  intro c Q E h
  unfold sp14 at h
  split at h
  · rcases h with ⟨e, f, q⟩ | ⟨a, b, rfl, rfl, z, h1, h2, q⟩
    · subst e
      exact key _ _ _ _ f q
    · simp -implicitDefEqProofs only [run, semB, ↓semS_loop, ↓sem_comp, semS, seqM_ap, sem, semL, semI, startE, getV_0, getV_s, outD_nx, outD_rt, truth_bl, ite_ap, partI_i, strM_s, isLst_l, isSeq_l, isSeq_t, mkE_o, mkE_v, itD_t, itD_l, itD_s, optM_some, bnd_ap, ret_ap, gd_ap, noE_ap, thr_ap, o_gtT, o_intB, o_sum, o_addI, o_addS, o_addT, o_addL, o_sub, o_mul, o_mulL, o_mulT, o_fdiv, o_mod, o_pow, o_eq, o_ne, o_ltI, o_gt, o_le, o_ge, o_inT, o_inL, o_ninT, o_ninL, o_inR, o_ninR, o_inS, o_ninS, o_isn, o_notn, o_lenS, o_lenT, o_lenL, o_isi, o_isC, o_tupT, o_tupL, o_lstT, o_lstL, o_int, o_abs, o_min, o_max, o_repr, o_rng1, o_rng2, o_ixT, o_ixL, o_ixS, o_slT, o_slL, o_slS, o_neg, o_revT, o_revL, o_join, o_upper, List.map_cons, List.map_nil, List.length_cons, List.length_nil, List.replicate_succ, List.replicate_zero, List.cons_append, List.nil_append, List.set_cons_zero, List.set_cons_succ, Nat.reduceAdd, Nat.reduceSub, Nat.zero_add, ↓reduceIte, Bool.not_true, Bool.not_false, Bool.false_eq_true, Bool.not_eq_true, decide_true, decide_false, Option.map, reduceCtorEq, ret_bnd, S14, D.eqv, z]
      exact ⟨⟨fine_ok (fine_int h1), fine_ok (fine_int h2)⟩, q⟩
  · exact h.elim
/-! ### limits of depth -/
def D.lim (n : Nat) (d : D) : Prop := isPy d = true ∧ d.depth ≤ n
theorem lim_mono {n m : Nat} {d : D} (h : d.lim n) (l : n ≤ m) : d.lim m := ⟨h.1, Nat.le_trans h.2 l⟩
theorem lim_tup {n : Nat} {xs : List D} : (D.tup xs).lim (n + 1) ↔ ∀ x ∈ xs, x.lim n := by
  have e : (D.tup xs).depth = depthL xs + 1 := rfl
  constructor
  · rintro ⟨h1, h2⟩ x hx
    have := le_depthL hx
    exact ⟨isPy_tup_iff.mp h1 x hx, by omega⟩
  · intro h
    have := depthL_le fun x hx => (h x hx).2
    exact ⟨isPy_tup_iff.mpr fun x hx => (h x hx).1, by omega⟩
theorem lim_lst {n : Nat} {xs : List D} : (D.lst xs).lim (n + 1) ↔ ∀ x ∈ xs, x.lim n := by
  have e : (D.lst xs).depth = depthL xs + 1 := rfl
  constructor
  · rintro ⟨h1, h2⟩ x hx
    have := le_depthL hx
    exact ⟨isPy_lst_iff.mp h1 x hx, by omega⟩
  · intro h
    have := depthL_le fun x hx => (h x hx).2
    exact ⟨isPy_lst_iff.mpr fun x hx => (h x hx).1, by omega⟩
theorem lim_int (n : Nat) (i : Int) : (D.int i).lim n := ⟨rfl, Nat.zero_le _⟩
theorem lim_str (n : Nat) (i : Str) : (D.str i).lim n := ⟨rfl, Nat.zero_le _⟩
theorem lim_bl (n : Nat) (i : Bool) : (D.bl i).lim n := ⟨rfl, Nat.zero_le _⟩
theorem lim_non (n : Nat) : D.non.lim n := ⟨rfl, Nat.zero_le _⟩
theorem lim_ok {n : Nat} {d : D} (h : d.lim n) (l : n ≤ 64) : eqOk d := ⟨h.1, Nat.le_trans h.2 l⟩
theorem cutD_sub {α : Type} {xs : List α} {lo hi : Option Int} {x : α} (h : x ∈ cutD xs lo hi) : x ∈ xs := List.mem_of_mem_drop (List.mem_of_mem_take h)
theorem cutD_len {α : Type} (xs : List α) (lo hi : Option Int) : (cutD xs lo hi).length ≤ xs.length := by
  unfold cutD
  rw [List.length_take, List.length_drop]
  omega
end PL

namespace PL
open PySem L2
variable {Φ : Fns}
theorem isI_int {m i : Int} (h : isI m (.int i)) : 0 ≤ i ∧ i < m := by
  obtain ⟨j, e, a, b⟩ := h
  cases e
  exact ⟨a, b⟩
theorem log_small {m : Int} (h : m.natAbs < 2 ^ 8999) : m.natAbs.log2 < 9000 := by
  have := log2_lt h (by decide)
  omega
theorem take_ok {m : Int} (h : 0 < m) (l : m < 16777216) {c : Nat} {Q : D → Nat → Prop} {E : D → Nat → Prop} (hc : c + 1 < LIM) (k : ∀ i : Int, 0 ≤ i → i < m → ∀ c', c ≤ c' → c' ≤ c + 1 → Q (.int i) c') : sp12 [.drw, .int m] c Q E := by
  refine ⟨⟨h, ?_⟩, hc, fun r c' p l1 l2 => ?_⟩
  · have : m.natAbs < 2 ^ 24 := by omega
    have := log2_lt this (by decide)
    omega
  · obtain ⟨i, rfl, a, b⟩ := p
    exact k i a b c' l1 l2
theorem pickL_ok {xs : List D} (h : 0 < xs.length) (l : xs.length < 16777216) {c : Nat} {Q : D → Nat → Prop} {E : D → Nat → Prop} (hc : c + 1 < LIM) (k : ∀ r ∈ xs, ∀ c', c ≤ c' → c' ≤ c + 1 → Q r c') : sp13 [.drw, .lst xs] c Q E := ⟨⟨h, l⟩, hc, fun r c' p l1 l2 => k r p c' l1 l2⟩
theorem pickS_ok {s : Str} (h : 0 < s.length) (l : s.length < 16777216) {c : Nat} {Q : D → Nat → Prop} {E : D → Nat → Prop} (hc : c + 1 < LIM) (k : ∀ a ∈ s.cps.toList, ∀ c', c ≤ c' → c' ≤ c + 1 → Q (.str ⟨#[a]⟩) c') : sp13 [.drw, .str s] c Q E := ⟨⟨h, l⟩, hc, fun r c' p l1 l2 => by
  obtain ⟨a, ha, rfl⟩ := p
  exact k a ha c' l1 l2⟩
def sp21 : List D → M D
  | [.drw] => drawn 2 fun r => ∃ n d : Int, r = .tup [.int n, .int d] ∧ 1 ≤ n ∧ n ≤ 10 ∧ 2 ≤ d ∧ d ≤ 10
  | _ => fail
theorem r21 (h12 : Φ 12 = sp12) (ds : List D) : Le (sp21 ds) (run Φ 1 S21 ds) := by
  intro c Q E h
  unfold sp21 at h
  split at h
  · obtain ⟨h6, h⟩ := h
    simp -implicitDefEqProofs only [run, semB, ↓semS_loop, ↓sem_comp, semS, seqM_ap, sem, semL, semI, startE, getV_0, getV_s, outD_nx, outD_rt, truth_bl, ite_ap, partI_i, strM_s, isLst_l, isSeq_l, isSeq_t, mkE_o, mkE_v, itD_t, itD_l, itD_s, optM_some, bnd_ap, ret_ap, gd_ap, noE_ap, thr_ap, o_gtT, o_intB, o_sum, o_addI, o_addS, o_addT, o_addL, o_sub, o_mul, o_mulL, o_mulT, o_fdiv, o_mod, o_pow, o_eq, o_ne, o_ltI, o_gt, o_le, o_ge, o_inT, o_inL, o_ninT, o_ninL, o_inR, o_ninR, o_inS, o_ninS, o_isn, o_notn, o_lenS, o_lenT, o_lenL, o_isi, o_isC, o_tupT, o_tupL, o_lstT, o_lstL, o_int, o_abs, o_min, o_max, o_repr, o_rng1, o_rng2, o_ixT, o_ixL, o_ixS, o_slT, o_slL, o_slS, o_neg, o_revT, o_revL, o_join, o_upper, List.map_cons, List.map_nil, List.length_cons, List.length_nil, List.replicate_succ, List.replicate_zero, List.cons_append, List.nil_append, List.set_cons_zero, List.set_cons_succ, Nat.reduceAdd, Nat.reduceSub, Nat.zero_add, ↓reduceIte, Bool.not_true, Bool.not_false, Bool.false_eq_true, Bool.not_eq_true, decide_true, decide_false, Option.map, reduceCtorEq, ret_bnd, S21, h12]
    refine take_ok (by decide) (by decide) (by omega) fun i i0 i1 c1 l1 l2 => ?_
    refine take_ok (by decide) (by decide) (by omega) fun j j0 j1 c2 l3 l4 => ?_
    exact h _ _ ⟨_, _, rfl, by omega, by omega, by omega, by omega⟩ (by omega) (by omega)
  · exact h.elim
def isKey (n d : Int) (r : D) : Prop := ∃ xs : List D, r = .tup xs ∧ (xs.length : Int) = n ∧ ∀ x ∈ xs, isI d x
def sp22 : List D → M D
  | [.drw, .tup [.int n, .int d]] => gd (0 ≤ n ∧ n ≤ 1000 ∧ 0 < d ∧ d ≤ 1000000) (drawn n.toNat (isKey n d))
  | _ => fail
theorem rngL_len {n : Int} : (rngL 0 n).length = n.toNat := by
  unfold rngL
  rw [List.length_map, List.length_range]
  omega
theorem ix0 {x y : D} : atI [x, y] (0 : Int) = some x := rfl
theorem ix1 {x y : D} : atI [x, y] (1 : Int) = some y := rfl
theorem r22 (h12 : Φ 12 = sp12) (ds : List D) : Le (sp22 ds) (run Φ 3 S22 ds) := by
  intro c Q E h
  unfold sp22 at h
  split at h
  · rename_i n d
    obtain ⟨⟨n0, n1, d0, d1⟩, h6, h⟩ := h
    simp -implicitDefEqProofs only [run, semB, ↓semS_loop, ↓sem_comp, semS, seqM_ap, sem, semL, semI, startE, getV_0, getV_s, outD_nx, outD_rt, truth_bl, ite_ap, partI_i, strM_s, isLst_l, isSeq_l, isSeq_t, mkE_o, mkE_v, itD_t, itD_l, itD_s, optM_some, bnd_ap, ret_ap, gd_ap, noE_ap, thr_ap, o_gtT, o_intB, o_sum, o_addI, o_addS, o_addT, o_addL, o_sub, o_mul, o_mulL, o_mulT, o_fdiv, o_mod, o_pow, o_eq, o_ne, o_ltI, o_gt, o_le, o_ge, o_inT, o_inL, o_ninT, o_ninL, o_inR, o_ninR, o_inS, o_ninS, o_isn, o_notn, o_lenS, o_lenT, o_lenL, o_isi, o_isC, o_tupT, o_tupL, o_lstT, o_lstL, o_int, o_abs, o_min, o_max, o_repr, o_rng1, o_rng2, o_ixT, o_ixL, o_ixS, o_slT, o_slL, o_slS, o_neg, o_revT, o_revL, o_join, o_upper, List.map_cons, List.map_nil, List.length_cons, List.length_nil, List.replicate_succ, List.replicate_zero, List.cons_append, List.nil_append, List.set_cons_zero, List.set_cons_succ, Nat.reduceAdd, Nat.reduceSub, Nat.zero_add, ↓reduceIte, Bool.not_true, Bool.not_false, Bool.false_eq_true, Bool.not_eq_true, decide_true, decide_false, Option.map, reduceCtorEq, ret_bnd, S22, ix0]
    refine ⟨⟨by omega, by omega⟩, ?_⟩
    refine compB_draw 1 (isI d) (fun x hx c K hc k => ?_) (by rw [rngL_len]; omega) fun ys c' e hy l1 l2 => ?_
    · simp -implicitDefEqProofs only [run, semB, ↓semS_loop, ↓sem_comp, semS, seqM_ap, sem, semL, semI, startE, getV_0, getV_s, outD_nx, outD_rt, truth_bl, ite_ap, partI_i, strM_s, isLst_l, isSeq_l, isSeq_t, mkE_o, mkE_v, itD_t, itD_l, itD_s, optM_some, bnd_ap, ret_ap, gd_ap, noE_ap, thr_ap, o_gtT, o_intB, o_sum, o_addI, o_addS, o_addT, o_addL, o_sub, o_mul, o_mulL, o_mulT, o_fdiv, o_mod, o_pow, o_eq, o_ne, o_ltI, o_gt, o_le, o_ge, o_inT, o_inL, o_ninT, o_ninL, o_inR, o_ninR, o_inS, o_ninS, o_isn, o_notn, o_lenS, o_lenT, o_lenL, o_isi, o_isC, o_tupT, o_tupL, o_lstT, o_lstL, o_int, o_abs, o_min, o_max, o_repr, o_rng1, o_rng2, o_ixT, o_ixL, o_ixS, o_slT, o_slL, o_slS, o_neg, o_revT, o_revL, o_join, o_upper, List.map_cons, List.map_nil, List.length_cons, List.length_nil, List.replicate_succ, List.replicate_zero, List.cons_append, List.nil_append, List.set_cons_zero, List.set_cons_succ, Nat.reduceAdd, Nat.reduceSub, Nat.zero_add, ↓reduceIte, Bool.not_true, Bool.not_false, Bool.false_eq_true, Bool.not_eq_true, decide_true, decide_false, Option.map, reduceCtorEq, ret_bnd, turnB, asgE, asgL, wipeE, ix1, h12]
      exact take_ok d0 (by omega) hc fun i i0 i1 c1 l1 l2 => k _ _ ⟨i, rfl, i0, i1⟩ l1 l2
    · rw [rngL_len] at e l2
      exact h _ _ ⟨ys, rfl, by omega, hy⟩ l1 (by omega)
  · exact h.elim
def isName (r : D) : Prop := ∃ s : Str, r = .str s ∧ 1 ≤ s.length ∧ s.length ≤ 8
def sp23 : List D → M D
  | [.drw] => drawn 9 isName
  | _ => fail
theorem strsD_ones : ∀ ys : List D, (∀ y ∈ ys, ∃ a : Nat, y = .str ⟨#[a]⟩) → ∃ zs : List Str, strsD ys = some zs ∧ (∀ z ∈ zs, z.length = 1) ∧ zs.length = ys.length
  | [], _ => ⟨[], rfl, fun _ m => (nomatch m), rfl⟩
  | y :: ys, h => by
    obtain ⟨a, rfl⟩ := h y List.mem_cons_self
    obtain ⟨zs, e, l, l2⟩ := strsD_ones ys fun z hz => h z (List.mem_cons_of_mem _ hz)
    refine ⟨⟨#[a]⟩ :: zs, by rw [strsD, e]; rfl, fun z m => ?_, by rw [List.length_cons, List.length_cons, l2]⟩
    rcases List.mem_cons.mp m with rfl | m
    · rfl
    · exact l z m
theorem sum_ones : ∀ zs : List Str, (∀ z ∈ zs, z.length = 1) → (zs.map (·.length)).sum = zs.length
  | [], _ => rfl
  | z :: zs, h => by
    rw [List.map_cons, List.sum_cons, sum_ones zs fun y m => h y (List.mem_cons_of_mem _ m), h z List.mem_cons_self, List.length_cons, Nat.add_comm]
theorem r23 (h12 : Φ 12 = sp12) (h13 : Φ 13 = sp13) (ds : List D) : Le (sp23 ds) (run Φ 2 S23 ds) := by
  intro c Q E h
  unfold sp23 at h
  split at h
  · obtain ⟨h6, h⟩ := h
    simp -implicitDefEqProofs only [run, semB, ↓semS_loop, ↓sem_comp, semS, seqM_ap, sem, semL, semI, startE, getV_0, getV_s, outD_nx, outD_rt, truth_bl, ite_ap, partI_i, strM_s, isLst_l, isSeq_l, isSeq_t, mkE_o, mkE_v, itD_t, itD_l, itD_s, optM_some, bnd_ap, ret_ap, gd_ap, noE_ap, thr_ap, o_gtT, o_intB, o_sum, o_addI, o_addS, o_addT, o_addL, o_sub, o_mul, o_mulL, o_mulT, o_fdiv, o_mod, o_pow, o_eq, o_ne, o_ltI, o_gt, o_le, o_ge, o_inT, o_inL, o_ninT, o_ninL, o_inR, o_ninR, o_inS, o_ninS, o_isn, o_notn, o_lenS, o_lenT, o_lenL, o_isi, o_isC, o_tupT, o_tupL, o_lstT, o_lstL, o_int, o_abs, o_min, o_max, o_repr, o_rng1, o_rng2, o_ixT, o_ixL, o_ixS, o_slT, o_slL, o_slS, o_neg, o_revT, o_revL, o_join, o_upper, List.map_cons, List.map_nil, List.length_cons, List.length_nil, List.replicate_succ, List.replicate_zero, List.cons_append, List.nil_append, List.set_cons_zero, List.set_cons_succ, Nat.reduceAdd, Nat.reduceSub, Nat.zero_add, ↓reduceIte, Bool.not_true, Bool.not_false, Bool.false_eq_true, Bool.not_eq_true, decide_true, decide_false, Option.map, reduceCtorEq, ret_bnd, S23, h12]
    refine take_ok (by decide) (by decide) (by omega) fun i i0 i1 c1 l1 l2 => ?_
    simp -implicitDefEqProofs only [run, semB, ↓semS_loop, ↓sem_comp, semS, seqM_ap, sem, semL, semI, startE, getV_0, getV_s, outD_nx, outD_rt, truth_bl, ite_ap, partI_i, strM_s, isLst_l, isSeq_l, isSeq_t, mkE_o, mkE_v, itD_t, itD_l, itD_s, optM_some, bnd_ap, ret_ap, gd_ap, noE_ap, thr_ap, o_gtT, o_intB, o_sum, o_addI, o_addS, o_addT, o_addL, o_sub, o_mul, o_mulL, o_mulT, o_fdiv, o_mod, o_pow, o_eq, o_ne, o_ltI, o_gt, o_le, o_ge, o_inT, o_inL, o_ninT, o_ninL, o_inR, o_ninR, o_inS, o_ninS, o_isn, o_notn, o_lenS, o_lenT, o_lenL, o_isi, o_isC, o_tupT, o_tupL, o_lstT, o_lstL, o_int, o_abs, o_min, o_max, o_repr, o_rng1, o_rng2, o_ixT, o_ixL, o_ixS, o_slT, o_slL, o_slS, o_neg, o_revT, o_revL, o_join, o_upper, List.map_cons, List.map_nil, List.length_cons, List.length_nil, List.replicate_succ, List.replicate_zero, List.cons_append, List.nil_append, List.set_cons_zero, List.set_cons_succ, Nat.reduceAdd, Nat.reduceSub, Nat.zero_add, ↓reduceIte, Bool.not_true, Bool.not_false, Bool.false_eq_true, Bool.not_eq_true, decide_true, decide_false, Option.map, reduceCtorEq, ret_bnd]
    refine ⟨by omega, ?_⟩
    have ln : (rngL 0 (1 + i)).length = (1 + i).toNat := rngL_len
    refine compB_draw 1 (fun y => ∃ a : Nat, y = .str ⟨#[a]⟩) (fun x hx c K hc k => ?_) (by rw [ln]; omega) fun ys c' e hy l1 l2 => ?_
    · simp -implicitDefEqProofs only [run, semB, ↓semS_loop, ↓sem_comp, semS, seqM_ap, sem, semL, semI, startE, getV_0, getV_s, outD_nx, outD_rt, truth_bl, ite_ap, partI_i, strM_s, isLst_l, isSeq_l, isSeq_t, mkE_o, mkE_v, itD_t, itD_l, itD_s, optM_some, bnd_ap, ret_ap, gd_ap, noE_ap, thr_ap, o_gtT, o_intB, o_sum, o_addI, o_addS, o_addT, o_addL, o_sub, o_mul, o_mulL, o_mulT, o_fdiv, o_mod, o_pow, o_eq, o_ne, o_ltI, o_gt, o_le, o_ge, o_inT, o_inL, o_ninT, o_ninL, o_inR, o_ninR, o_inS, o_ninS, o_isn, o_notn, o_lenS, o_lenT, o_lenL, o_isi, o_isC, o_tupT, o_tupL, o_lstT, o_lstL, o_int, o_abs, o_min, o_max, o_repr, o_rng1, o_rng2, o_ixT, o_ixL, o_ixS, o_slT, o_slL, o_slS, o_neg, o_revT, o_revL, o_join, o_upper, List.map_cons, List.map_nil, List.length_cons, List.length_nil, List.replicate_succ, List.replicate_zero, List.cons_append, List.nil_append, List.set_cons_zero, List.set_cons_succ, Nat.reduceAdd, Nat.reduceSub, Nat.zero_add, ↓reduceIte, Bool.not_true, Bool.not_false, Bool.false_eq_true, Bool.not_eq_true, decide_true, decide_false, Option.map, reduceCtorEq, ret_bnd, turnB, asgE, asgL, wipeE, h13]
      exact pickS_ok (by decide) (by decide) hc fun a _ c1 l1 l2 => k _ _ ⟨a, rfl⟩ l1 l2
    · rw [ln] at e l2
      obtain ⟨zs, e1, e2, e3⟩ := strsD_ones ys hy
      simp -implicitDefEqProofs only [run, semB, ↓semS_loop, ↓sem_comp, semS, seqM_ap, sem, semL, semI, startE, getV_0, getV_s, outD_nx, outD_rt, truth_bl, ite_ap, partI_i, strM_s, isLst_l, isSeq_l, isSeq_t, mkE_o, mkE_v, itD_t, itD_l, itD_s, optM_some, bnd_ap, ret_ap, gd_ap, noE_ap, thr_ap, o_gtT, o_intB, o_sum, o_addI, o_addS, o_addT, o_addL, o_sub, o_mul, o_mulL, o_mulT, o_fdiv, o_mod, o_pow, o_eq, o_ne, o_ltI, o_gt, o_le, o_ge, o_inT, o_inL, o_ninT, o_ninL, o_inR, o_ninR, o_inS, o_ninS, o_isn, o_notn, o_lenS, o_lenT, o_lenL, o_isi, o_isC, o_tupT, o_tupL, o_lstT, o_lstL, o_int, o_abs, o_min, o_max, o_repr, o_rng1, o_rng2, o_ixT, o_ixL, o_ixS, o_slT, o_slL, o_slS, o_neg, o_revT, o_revL, o_join, o_upper, List.map_cons, List.map_nil, List.length_cons, List.length_nil, List.replicate_succ, List.replicate_zero, List.cons_append, List.nil_append, List.set_cons_zero, List.set_cons_succ, Nat.reduceAdd, Nat.reduceSub, Nat.zero_add, ↓reduceIte, Bool.not_true, Bool.not_false, Bool.false_eq_true, Bool.not_eq_true, decide_true, decide_false, Option.map, reduceCtorEq, ret_bnd, e1]
      have j := PySem.W.KT.join_ones zs e2
      refine ⟨?_, h _ _ ⟨_, rfl, by omega, by omega⟩ (by omega) (by omega)⟩
      have : ("" : Str).length = 0 := by decide
      rw [sum_ones zs e2, e3, this]
      omega
  · exact h.elim
/-! ### values bent -/
def bpOk (x : D) : Prop := isPy x = true ∧ (∀ xs, x = .tup xs → xs.length ≤ 1000000) ∧ ∀ s, x = .str s → s.length ≤ 1000 ∧ PyData.strOk (Txt.upper s) = true
def sp24 : List D → M D
  | [.drw, x] => gd (bpOk x) (drawn 1 fun r => r.lim (x.depth + 1))
  | _ => fail
theorem lim_self {x : D} (h : isPy x = true) : x.lim x.depth := ⟨h, Nat.le_refl _⟩
theorem lim_cut {xs : List D} {n : Nat} {lo hi : Option Int} (h : (D.tup xs).lim (n + 1)) : (D.tup (cutD xs lo hi)).lim (n + 1) := lim_tup.mpr fun x hx => lim_tup.mp h x (cutD_sub hx)
theorem lim_app {xs ys : List D} {n : Nat} (h : (D.tup xs).lim (n + 1)) (k : (D.tup ys).lim (n + 1)) : (D.tup (xs ++ ys)).lim (n + 1) := lim_tup.mpr fun x hx => (List.mem_append.mp hx).elim (lim_tup.mp h x) (lim_tup.mp k x)
theorem lim_one {x : D} {n : Nat} (h : x.lim n) : (D.tup [x]).lim (n + 1) := lim_tup.mpr fun y hy => by
  rw [List.mem_singleton.mp hy]; exact h
theorem lim_nil (n : Nat) : (D.tup []).lim (n + 1) := lim_tup.mpr fun y hy => nomatch hy
theorem all_cons {p : D → Prop} {x : D} {xs : List D} (h : p x) (k : ∀ y ∈ xs, p y) : ∀ y ∈ x :: xs, p y := List.forall_mem_cons.mpr ⟨h, k⟩
theorem all_nil {p : D → Prop} : ∀ y ∈ ([] : List D), p y := fun _ h => nomatch h
theorem basic_lim {n : Nat} {x : D} {t : List D} (h : x.lim n) (ht : ∀ y ∈ t, y.lim (n + 1)) : ∀ y ∈ [D.non, .int 5, .bl true, .bl false, .str "", .tup [], .str "a", .tup [x], .lst [x], .int (0 - 1), .int 0, .int 1, .int 9, .int 10, .int 11, .int 2, .tup [.int 0], .tup [.int 1, .int 0], .tup [.int 0, .int 0]] ++ t, y.lim (n + 1) := by
  have i := lim_int
  have one : ∀ a b : Int, (D.tup [.int a, .int b]).lim (n + 1) := fun a b => lim_tup.mpr (all_cons (i _ _) (all_cons (i _ _) all_nil))
  refine all_cons (lim_non _) (all_cons (i _ _) (all_cons (lim_bl _ _) (all_cons (lim_bl _ _) (all_cons (lim_str _ _) (all_cons (lim_nil _) (all_cons (lim_str _ _) (all_cons (lim_one h) (all_cons ?_ ?_))))))))
  · exact lim_lst.mpr (all_cons h all_nil)
  · exact all_cons (i _ _) (all_cons (i _ _) (all_cons (i _ _) (all_cons (i _ _) (all_cons (i _ _) (all_cons (i _ _) (all_cons (i _ _) (all_cons (lim_one (i _ _)) (all_cons (one _ _) (all_cons (one _ _) ht)))))))))
theorem r24 (h15 : Φ 15 = sp0) (h13 : Φ 13 = sp13) (ds : List D) : Le (sp24 ds) (run Φ 3 S24 ds) := by
  intro c Q E h
  unfold sp24 at h
  split at h
  · rename_i x
    obtain ⟨⟨h1, h2, h3⟩, h6, h⟩ := h
    have b := fun {t : List D} => basic_lim (t := t) (lim_self h1)
    simp -implicitDefEqProofs only [run, semB, ↓semS_loop, ↓sem_comp, semS, seqM_ap, sem, semL, semI, startE, getV_0, getV_s, outD_nx, outD_rt, truth_bl, ite_ap, partI_i, strM_s, isLst_l, isSeq_l, isSeq_t, mkE_o, mkE_v, itD_t, itD_l, itD_s, optM_some, bnd_ap, ret_ap, gd_ap, noE_ap, thr_ap, o_gtT, o_intB, o_sum, o_addI, o_addS, o_addT, o_addL, o_sub, o_mul, o_mulL, o_mulT, o_fdiv, o_mod, o_pow, o_eq, o_ne, o_ltI, o_gt, o_le, o_ge, o_inT, o_inL, o_ninT, o_ninL, o_inR, o_ninR, o_inS, o_ninS, o_isn, o_notn, o_lenS, o_lenT, o_lenL, o_isi, o_isC, o_tupT, o_tupL, o_lstT, o_lstL, o_int, o_abs, o_min, o_max, o_repr, o_rng1, o_rng2, o_ixT, o_ixL, o_ixS, o_slT, o_slL, o_slS, o_neg, o_revT, o_revL, o_join, o_upper, List.map_cons, List.map_nil, List.length_cons, List.length_nil, List.replicate_succ, List.replicate_zero, List.cons_append, List.nil_append, List.set_cons_zero, List.set_cons_succ, Nat.reduceAdd, Nat.reduceSub, Nat.zero_add, ↓reduceIte, Bool.not_true, Bool.not_false, Bool.false_eq_true, Bool.not_eq_true, decide_true, decide_false, Option.map, reduceCtorEq, ret_bnd, S24, h15, sp0, h13]
    refine ⟨h1, ?_⟩
    have fin : ∀ l : List D, 0 < l.length → l.length < 16777216 → (∀ y ∈ l, y.lim (x.depth + 1)) → sp13 [.drw, .lst l] c Q E := fun l l1 l2 hl => pickL_ok l1 l2 h6 fun r hr c' c1 c2 => h r c' (hl r hr) c1 c2
    cases x with
    | tup xs =>
      have hl := h2 xs rfl
      have lx := lim_self h1
      have dx : (D.tup xs).depth = depthL xs + 1 := rfl
      rw [dx] at lx fin
      have lm : (D.tup xs).lim (depthL xs + 1 + 1) := lim_mono lx (by omega)
      have s1 := cutD_len xs (some (-1)) none
      simp -implicitDefEqProofs only [run, semB, ↓semS_loop, ↓sem_comp, semS, seqM_ap, sem, semL, semI, startE, getV_0, getV_s, outD_nx, outD_rt, truth_bl, ite_ap, partI_i, strM_s, isLst_l, isSeq_l, isSeq_t, mkE_o, mkE_v, itD_t, itD_l, itD_s, optM_some, bnd_ap, ret_ap, gd_ap, noE_ap, thr_ap, o_gtT, o_intB, o_sum, o_addI, o_addS, o_addT, o_addL, o_sub, o_mul, o_mulL, o_mulT, o_fdiv, o_mod, o_pow, o_eq, o_ne, o_ltI, o_gt, o_le, o_ge, o_inT, o_inL, o_ninT, o_ninL, o_inR, o_ninR, o_inS, o_ninS, o_isn, o_notn, o_lenS, o_lenT, o_lenL, o_isi, o_isC, o_tupT, o_tupL, o_lstT, o_lstL, o_int, o_abs, o_min, o_max, o_repr, o_rng1, o_rng2, o_ixT, o_ixL, o_ixS, o_slT, o_slL, o_slS, o_neg, o_revT, o_revL, o_join, o_upper, List.map_cons, List.map_nil, List.length_cons, List.length_nil, List.replicate_succ, List.replicate_zero, List.cons_append, List.nil_append, List.set_cons_zero, List.set_cons_succ, Nat.reduceAdd, Nat.reduceSub, Nat.zero_add, ↓reduceIte, Bool.not_true, Bool.not_false, Bool.false_eq_true, Bool.not_eq_true, decide_true, decide_false, Option.map, reduceCtorEq, ret_bnd, isiD, numB, isPy]
      refine ⟨by unfold szOk; omega, by unfold szOk; simp; omega, by unfold szOk; omega, h1, h1, ?_⟩
      refine fin _ (by simp) (by simp) ?_
      refine all_cons (lim_lst.mpr fun y hy => lim_mono (lim_tup.mp lx y hy) (by omega)) (all_cons (lim_tup.mpr fun y hy => lim_mono (lim_tup.mp lx y (List.mem_reverse.mp hy)) (by omega)) (all_cons (lim_app lm (lim_cut lm)) (all_cons (lim_cut lm) (all_cons (lim_cut lm) (all_cons (lim_app lm (lim_one (lim_non _))) (all_cons (lim_non _) (all_cons (lim_nil _) (all_cons (lim_app lm lm) all_nil))))))))
    | str s =>
      obtain ⟨a1, a2⟩ := h3 s rfl
      have z1 : szOk s.length := by unfold szOk; omega
      have z2 : szOk (s.length + ("a" : Str).length) := by unfold szOk; have : ("a" : Str).length = 1 := by decide
                                                           omega
      have z3 : szOk (s.length + (" " : Str).length) := by unfold szOk; have : (" " : Str).length = 1 := by decide
                                                           omega
      simp -implicitDefEqProofs only [run, semB, ↓semS_loop, ↓sem_comp, semS, seqM_ap, sem, semL, semI, startE, getV_0, getV_s, outD_nx, outD_rt, truth_bl, ite_ap, partI_i, strM_s, isLst_l, isSeq_l, isSeq_t, mkE_o, mkE_v, itD_t, itD_l, itD_s, optM_some, bnd_ap, ret_ap, gd_ap, noE_ap, thr_ap, o_gtT, o_intB, o_sum, o_addI, o_addS, o_addT, o_addL, o_sub, o_mul, o_mulL, o_mulT, o_fdiv, o_mod, o_pow, o_eq, o_ne, o_ltI, o_gt, o_le, o_ge, o_inT, o_inL, o_ninT, o_ninL, o_inR, o_ninR, o_inS, o_ninS, o_isn, o_notn, o_lenS, o_lenT, o_lenL, o_isi, o_isC, o_tupT, o_tupL, o_lstT, o_lstL, o_int, o_abs, o_min, o_max, o_repr, o_rng1, o_rng2, o_ixT, o_ixL, o_ixS, o_slT, o_slL, o_slS, o_neg, o_revT, o_revL, o_join, o_upper, List.map_cons, List.map_nil, List.length_cons, List.length_nil, List.replicate_succ, List.replicate_zero, List.cons_append, List.nil_append, List.set_cons_zero, List.set_cons_succ, Nat.reduceAdd, Nat.reduceSub, Nat.zero_add, ↓reduceIte, Bool.not_true, Bool.not_false, Bool.false_eq_true, Bool.not_eq_true, decide_true, decide_false, Option.map, reduceCtorEq, ret_bnd, isiD, numB]
      refine ⟨h1, z2, z1, z3, ⟨by omega, a2⟩, by unfold szOk; simp, h1, ?_⟩
      have i := lim_str (D.depth (.str s) + 1)
      exact fin _ (by simp) (by simp) (b (all_cons (i _) (all_cons (i _) (all_cons (i _) (all_cons (i _) (all_cons (i _) (all_cons (i _) (all_cons (i _) all_nil))))))))
    | int i =>
      simp -implicitDefEqProofs only [run, semB, ↓semS_loop, ↓sem_comp, semS, seqM_ap, sem, semL, semI, startE, getV_0, getV_s, outD_nx, outD_rt, truth_bl, ite_ap, partI_i, strM_s, isLst_l, isSeq_l, isSeq_t, mkE_o, mkE_v, itD_t, itD_l, itD_s, optM_some, bnd_ap, ret_ap, gd_ap, noE_ap, thr_ap, o_gtT, o_intB, o_sum, o_addI, o_addS, o_addT, o_addL, o_sub, o_mul, o_mulL, o_mulT, o_fdiv, o_mod, o_pow, o_eq, o_ne, o_ltI, o_gt, o_le, o_ge, o_inT, o_inL, o_ninT, o_ninL, o_inR, o_ninR, o_inS, o_ninS, o_isn, o_notn, o_lenS, o_lenT, o_lenL, o_isi, o_isC, o_tupT, o_tupL, o_lstT, o_lstL, o_int, o_abs, o_min, o_max, o_repr, o_rng1, o_rng2, o_ixT, o_ixL, o_ixS, o_slT, o_slL, o_slS, o_neg, o_revT, o_revL, o_join, o_upper, List.map_cons, List.map_nil, List.length_cons, List.length_nil, List.replicate_succ, List.replicate_zero, List.cons_append, List.nil_append, List.set_cons_zero, List.set_cons_succ, Nat.reduceAdd, Nat.reduceSub, Nat.zero_add, ↓reduceIte, Bool.not_true, Bool.not_false, Bool.false_eq_true, Bool.not_eq_true, decide_true, decide_false, Option.map, reduceCtorEq, ret_bnd, isiD, numB]
      refine ⟨h1, h1, by unfold szOk; simp, ?_⟩
      exact fin _ (by simp) (by simp) (b (all_cons (lim_int _ _) (all_cons (lim_int _ _) all_nil)))
    | _ =>
      first
        | cases h1; done
        | (simp -implicitDefEqProofs only [run, semB, ↓semS_loop, ↓sem_comp, semS, seqM_ap, sem, semL, semI, startE, getV_0, getV_s, outD_nx, outD_rt, truth_bl, ite_ap, partI_i, strM_s, isLst_l, isSeq_l, isSeq_t, mkE_o, mkE_v, itD_t, itD_l, itD_s, optM_some, bnd_ap, ret_ap, gd_ap, noE_ap, thr_ap, o_gtT, o_intB, o_sum, o_addI, o_addS, o_addT, o_addL, o_sub, o_mul, o_mulL, o_mulT, o_fdiv, o_mod, o_pow, o_eq, o_ne, o_ltI, o_gt, o_le, o_ge, o_inT, o_inL, o_ninT, o_ninL, o_inR, o_ninR, o_inS, o_ninS, o_isn, o_notn, o_lenS, o_lenT, o_lenL, o_isi, o_isC, o_tupT, o_tupL, o_lstT, o_lstL, o_int, o_abs, o_min, o_max, o_repr, o_rng1, o_rng2, o_ixT, o_ixL, o_ixS, o_slT, o_slL, o_slS, o_neg, o_revT, o_revL, o_join, o_upper, List.map_cons, List.map_nil, List.length_cons, List.length_nil, List.replicate_succ, List.replicate_zero, List.cons_append, List.nil_append, List.set_cons_zero, List.set_cons_succ, Nat.reduceAdd, Nat.reduceSub, Nat.zero_add, ↓reduceIte, Bool.not_true, Bool.not_false, Bool.false_eq_true, Bool.not_eq_true, decide_true, decide_false, Option.map, reduceCtorEq, ret_bnd, isiD, numB]
           exact ⟨h1, h1, fin _ (by simp) (by simp) (b all_nil)⟩)
  · exact h.elim
/-- what may be bent: n the depth of its tuples -/
def isTup : D → Bool
  | .tup _ => true
  | _ => false
def bendOk : Nat → D → Prop
  | 0, x => isTup x = false ∧ bpOk x ∧ x.depth ≤ 40
  | n + 1, x => (∃ xs, x = .tup xs ∧ xs.length ≤ 1000000 ∧ ∀ y ∈ xs, bendOk n y) ∨ (isTup x = false ∧ bpOk x ∧ x.depth ≤ 40)
theorem bendOk_bp : ∀ {n : Nat} {x : D}, bendOk n x → bpOk x ∧ x.depth ≤ 40 + n
  | 0, x, h => ⟨h.2.1, h.2.2⟩
  | n + 1, x, h => by
    rcases h with ⟨xs, rfl, h1, h2⟩ | h
    · have l : (D.tup xs).lim (40 + n + 1) := lim_tup.mpr fun x hx => by
        obtain ⟨a, b⟩ := bendOk_bp (h2 x hx)
        exact ⟨a.1, b⟩
      exact ⟨⟨l.1, fun ys e => by cases e; exact h1, fun s e => nomatch e⟩, by have := l.2; omega⟩
    · exact ⟨h.2.1, by have := h.2.2; omega⟩
theorem bendOk_tup {n : Nat} {xs : List D} (h : bendOk n (.tup xs)) : ∃ m, n = m + 1 ∧ xs.length ≤ 1000000 ∧ ∀ y ∈ xs, bendOk m y := by
  cases n with
  | zero => cases h.1
  | succ n =>
    rcases h with ⟨ys, e, h1, h2⟩ | h
    · cases e; exact ⟨n, rfl, h1, h2⟩
    · cases h.1
def sp25 (n : Nat) : List D → M D
  | [.drw, x] => gd (bendOk n x) (drawn (2 * n + 2) fun r => r.lim (n + 41))
  | _ => fail
theorem bent_part {n c : Nat} {x : D} {Q : D → Nat → Prop} {E : D → Nat → Prop} (b : bendOk n x) (hc : c + 1 < LIM) (k : ∀ r : D, r.lim (n + 41) → ∀ c', c ≤ c' → c' ≤ c + 1 → Q r c') : sp24 [.drw, x] c Q E := by
  obtain ⟨b1, b2⟩ := bendOk_bp b
  exact ⟨b1, hc, fun r c' p l1 l2 => k r (lim_mono p (by omega)) c' l1 l2⟩
theorem depth_nil_ok {xs : List D} : D.eqv (.tup xs) (.tup []) = xs.isEmpty := by
  cases xs <;> rfl
theorem r25 (n : Nat) (h12 : Φ 12 = sp12) (h24 : Φ 24 = sp24) (h25 : ∀ m, n = m + 1 → Φ 25 = sp25 m) (hn : n ≤ 20) (ds : List D) : Le (sp25 n ds) (run Φ 3 S25 ds) := by
  intro c Q E h
  unfold sp25 at h
  split at h
  · rename_i x
    obtain ⟨hb, h6, h⟩ := h
    obtain ⟨b1, b2⟩ := bendOk_bp hb
    simp -implicitDefEqProofs only [run, semB, ↓semS_loop, ↓sem_comp, semS, seqM_ap, sem, semL, semI, startE, getV_0, getV_s, outD_nx, outD_rt, truth_bl, ite_ap, partI_i, strM_s, isLst_l, isSeq_l, isSeq_t, mkE_o, mkE_v, itD_t, itD_l, itD_s, optM_some, bnd_ap, ret_ap, gd_ap, noE_ap, thr_ap, o_gtT, o_intB, o_sum, o_addI, o_addS, o_addT, o_addL, o_sub, o_mul, o_mulL, o_mulT, o_fdiv, o_mod, o_pow, o_eq, o_ne, o_ltI, o_gt, o_le, o_ge, o_inT, o_inL, o_ninT, o_ninL, o_inR, o_ninR, o_inS, o_ninS, o_isn, o_notn, o_lenS, o_lenT, o_lenL, o_isi, o_isC, o_tupT, o_tupL, o_lstT, o_lstL, o_int, o_abs, o_min, o_max, o_repr, o_rng1, o_rng2, o_ixT, o_ixL, o_ixS, o_slT, o_slL, o_slS, o_neg, o_revT, o_revL, o_join, o_upper, List.map_cons, List.map_nil, List.length_cons, List.length_nil, List.replicate_succ, List.replicate_zero, List.cons_append, List.nil_append, List.set_cons_zero, List.set_cons_succ, Nat.reduceAdd, Nat.reduceSub, Nat.zero_add, ↓reduceIte, Bool.not_true, Bool.not_false, Bool.false_eq_true, Bool.not_eq_true, decide_true, decide_false, Option.map, reduceCtorEq, ret_bnd, S25, h12, h24]
    refine ⟨b1.1, ?_⟩
    cases x with
    | tup xs =>
      simp -implicitDefEqProofs only [run, semB, ↓semS_loop, ↓sem_comp, semS, seqM_ap, sem, semL, semI, startE, getV_0, getV_s, outD_nx, outD_rt, truth_bl, ite_ap, partI_i, strM_s, isLst_l, isSeq_l, isSeq_t, mkE_o, mkE_v, itD_t, itD_l, itD_s, optM_some, bnd_ap, ret_ap, gd_ap, noE_ap, thr_ap, o_gtT, o_intB, o_sum, o_addI, o_addS, o_addT, o_addL, o_sub, o_mul, o_mulL, o_mulT, o_fdiv, o_mod, o_pow, o_eq, o_ne, o_ltI, o_gt, o_le, o_ge, o_inT, o_inL, o_ninT, o_ninL, o_inR, o_ninR, o_inS, o_ninS, o_isn, o_notn, o_lenS, o_lenT, o_lenL, o_isi, o_isC, o_tupT, o_tupL, o_lstT, o_lstL, o_int, o_abs, o_min, o_max, o_repr, o_rng1, o_rng2, o_ixT, o_ixL, o_ixS, o_slT, o_slL, o_slS, o_neg, o_revT, o_revL, o_join, o_upper, List.map_cons, List.map_nil, List.length_cons, List.length_nil, List.replicate_succ, List.replicate_zero, List.cons_append, List.nil_append, List.set_cons_zero, List.set_cons_succ, Nat.reduceAdd, Nat.reduceSub, Nat.zero_add, ↓reduceIte, Bool.not_true, Bool.not_false, Bool.false_eq_true, Bool.not_eq_true, decide_true, decide_false, Option.map, reduceCtorEq, ret_bnd, isiD]
      refine take_ok (by decide) (by decide) (by omega) fun i i0 i1 c1 l1 l2 => ?_
      simp -implicitDefEqProofs only [run, semB, ↓semS_loop, ↓sem_comp, semS, seqM_ap, sem, semL, semI, startE, getV_0, getV_s, outD_nx, outD_rt, truth_bl, ite_ap, partI_i, strM_s, isLst_l, isSeq_l, isSeq_t, mkE_o, mkE_v, itD_t, itD_l, itD_s, optM_some, bnd_ap, ret_ap, gd_ap, noE_ap, thr_ap, o_gtT, o_intB, o_sum, o_addI, o_addS, o_addT, o_addL, o_sub, o_mul, o_mulL, o_mulT, o_fdiv, o_mod, o_pow, o_eq, o_ne, o_ltI, o_gt, o_le, o_ge, o_inT, o_inL, o_ninT, o_ninL, o_inR, o_ninR, o_inS, o_ninS, o_isn, o_notn, o_lenS, o_lenT, o_lenL, o_isi, o_isC, o_tupT, o_tupL, o_lstT, o_lstL, o_int, o_abs, o_min, o_max, o_repr, o_rng1, o_rng2, o_ixT, o_ixL, o_ixS, o_slT, o_slL, o_slS, o_neg, o_revT, o_revL, o_join, o_upper, List.map_cons, List.map_nil, List.length_cons, List.length_nil, List.replicate_succ, List.replicate_zero, List.cons_append, List.nil_append, List.set_cons_zero, List.set_cons_succ, Nat.reduceAdd, Nat.reduceSub, Nat.zero_add, ↓reduceIte, Bool.not_true, Bool.not_false, Bool.false_eq_true, Bool.not_eq_true, decide_true, decide_false, Option.map, reduceCtorEq, ret_bnd, decide_eq_true_eq]
      have last : ∀ c1, c ≤ c1 → c1 ≤ c + 1 → sp24 [.drw, .tup xs] c1 Q E := fun c1 l1 l2 => bent_part hb (by omega) fun r hr c' m1 m2 => h r c' hr (by omega) (by omega)
      by_cases q : 0 < i
      · rw [if_pos q]
        refine ⟨⟨⟨b1.1, by omega⟩, ⟨rfl, by decide⟩⟩, ?_⟩
        rw [depth_nil_ok]
        obtain ⟨n, rfl, hb1, hb2⟩ := bendOk_tup hb
        · cases xs with
          | nil => 
            simp -implicitDefEqProofs only [run, semB, ↓semS_loop, ↓sem_comp, semS, seqM_ap, sem, semL, semI, startE, getV_0, getV_s, outD_nx, outD_rt, truth_bl, ite_ap, partI_i, strM_s, isLst_l, isSeq_l, isSeq_t, mkE_o, mkE_v, itD_t, itD_l, itD_s, optM_some, bnd_ap, ret_ap, gd_ap, noE_ap, thr_ap, o_gtT, o_intB, o_sum, o_addI, o_addS, o_addT, o_addL, o_sub, o_mul, o_mulL, o_mulT, o_fdiv, o_mod, o_pow, o_eq, o_ne, o_ltI, o_gt, o_le, o_ge, o_inT, o_inL, o_ninT, o_ninL, o_inR, o_ninR, o_inS, o_ninS, o_isn, o_notn, o_lenS, o_lenT, o_lenL, o_isi, o_isC, o_tupT, o_tupL, o_lstT, o_lstL, o_int, o_abs, o_min, o_max, o_repr, o_rng1, o_rng2, o_ixT, o_ixL, o_ixS, o_slT, o_slL, o_slS, o_neg, o_revT, o_revL, o_join, o_upper, List.map_cons, List.map_nil, List.length_cons, List.length_nil, List.replicate_succ, List.replicate_zero, List.cons_append, List.nil_append, List.set_cons_zero, List.set_cons_succ, Nat.reduceAdd, Nat.reduceSub, Nat.zero_add, ↓reduceIte, Bool.not_true, Bool.not_false, Bool.false_eq_true, Bool.not_eq_true, decide_true, decide_false, Option.map, reduceCtorEq, ret_bnd, List.isEmpty_nil]
            exact last _ l1 l2
          | cons y ys =>
            simp -implicitDefEqProofs only [run, semB, ↓semS_loop, ↓sem_comp, semS, seqM_ap, sem, semL, semI, startE, getV_0, getV_s, outD_nx, outD_rt, truth_bl, ite_ap, partI_i, strM_s, isLst_l, isSeq_l, isSeq_t, mkE_o, mkE_v, itD_t, itD_l, itD_s, optM_some, bnd_ap, ret_ap, gd_ap, noE_ap, thr_ap, o_gtT, o_intB, o_sum, o_addI, o_addS, o_addT, o_addL, o_sub, o_mul, o_mulL, o_mulT, o_fdiv, o_mod, o_pow, o_eq, o_ne, o_ltI, o_gt, o_le, o_ge, o_inT, o_inL, o_ninT, o_ninL, o_inR, o_ninR, o_inS, o_ninS, o_isn, o_notn, o_lenS, o_lenT, o_lenL, o_isi, o_isC, o_tupT, o_tupL, o_lstT, o_lstL, o_int, o_abs, o_min, o_max, o_repr, o_rng1, o_rng2, o_ixT, o_ixL, o_ixS, o_slT, o_slL, o_slS, o_neg, o_revT, o_revL, o_join, o_upper, List.map_cons, List.map_nil, List.length_cons, List.length_nil, List.replicate_succ, List.replicate_zero, List.cons_append, List.nil_append, List.set_cons_zero, List.set_cons_succ, Nat.reduceAdd, Nat.reduceSub, Nat.zero_add, ↓reduceIte, Bool.not_true, Bool.not_false, Bool.false_eq_true, Bool.not_eq_true, decide_true, decide_false, Option.map, reduceCtorEq, ret_bnd, List.isEmpty_cons]
            have lp : 0 < (((y :: ys).length : Nat) : Int) := by rw [List.length_cons]; omega
            refine take_ok lp (by omega) (by omega) fun j j0 j1 c2 l3 l4 => ?_
            obtain ⟨a, ha, ea⟩ := atI_in (xs := y :: ys) j0 j1
            simp -implicitDefEqProofs only [run, semB, ↓semS_loop, ↓sem_comp, semS, seqM_ap, sem, semL, semI, startE, getV_0, getV_s, outD_nx, outD_rt, truth_bl, ite_ap, partI_i, strM_s, isLst_l, isSeq_l, isSeq_t, mkE_o, mkE_v, itD_t, itD_l, itD_s, optM_some, bnd_ap, ret_ap, gd_ap, noE_ap, thr_ap, o_gtT, o_intB, o_sum, o_addI, o_addS, o_addT, o_addL, o_sub, o_mul, o_mulL, o_mulT, o_fdiv, o_mod, o_pow, o_eq, o_ne, o_ltI, o_gt, o_le, o_ge, o_inT, o_inL, o_ninT, o_ninL, o_inR, o_ninR, o_inS, o_ninS, o_isn, o_notn, o_lenS, o_lenT, o_lenL, o_isi, o_isC, o_tupT, o_tupL, o_lstT, o_lstL, o_int, o_abs, o_min, o_max, o_repr, o_rng1, o_rng2, o_ixT, o_ixL, o_ixS, o_slT, o_slL, o_slS, o_neg, o_revT, o_revL, o_join, o_upper, List.map_cons, List.map_nil, List.length_cons, List.length_nil, List.replicate_succ, List.replicate_zero, List.cons_append, List.nil_append, List.set_cons_zero, List.set_cons_succ, Nat.reduceAdd, Nat.reduceSub, Nat.zero_add, ↓reduceIte, Bool.not_true, Bool.not_false, Bool.false_eq_true, Bool.not_eq_true, decide_true, decide_false, Option.map, reduceCtorEq, ret_bnd, ea, h25 n rfl]
            have s1 := cutD_len (y :: ys) none (some j)
            have s2 := cutD_len (y :: ys) (some (j + 1)) none
            refine ⟨hb2 a ha, by omega, fun r c' hr m1 m2 => ?_⟩
            simp -implicitDefEqProofs only [run, semB, ↓semS_loop, ↓sem_comp, semS, seqM_ap, sem, semL, semI, startE, getV_0, getV_s, outD_nx, outD_rt, truth_bl, ite_ap, partI_i, strM_s, isLst_l, isSeq_l, isSeq_t, mkE_o, mkE_v, itD_t, itD_l, itD_s, optM_some, bnd_ap, ret_ap, gd_ap, noE_ap, thr_ap, o_gtT, o_intB, o_sum, o_addI, o_addS, o_addT, o_addL, o_sub, o_mul, o_mulL, o_mulT, o_fdiv, o_mod, o_pow, o_eq, o_ne, o_ltI, o_gt, o_le, o_ge, o_inT, o_inL, o_ninT, o_ninL, o_inR, o_ninR, o_inS, o_ninS, o_isn, o_notn, o_lenS, o_lenT, o_lenL, o_isi, o_isC, o_tupT, o_tupL, o_lstT, o_lstL, o_int, o_abs, o_min, o_max, o_repr, o_rng1, o_rng2, o_ixT, o_ixL, o_ixS, o_slT, o_slL, o_slS, o_neg, o_revT, o_revL, o_join, o_upper, List.map_cons, List.map_nil, List.length_cons, List.length_nil, List.replicate_succ, List.replicate_zero, List.cons_append, List.nil_append, List.set_cons_zero, List.set_cons_succ, Nat.reduceAdd, Nat.reduceSub, Nat.zero_add, ↓reduceIte, Bool.not_true, Bool.not_false, Bool.false_eq_true, Bool.not_eq_true, decide_true, decide_false, Option.map, reduceCtorEq, ret_bnd]
            refine ⟨by unfold szOk; omega, by unfold szOk; rw [List.length_append]; simp only [List.length_cons, List.length_nil]; simp only [List.length_cons] at s1 s2 hb1; omega, ?_⟩
            have lx : (D.tup (y :: ys)).lim (n + 41 + 1) := lim_mono (lim_self b1.1) (by omega)
            have e : n + 1 + 41 = n + 41 + 1 := by omega
            refine h _ _ ?_ (by omega) (by omega)
            rw [e]
            exact lim_app (lim_app (lim_cut lx) (lim_one hr)) (lim_cut lx)
      · rw [if_neg q]
        exact last _ l1 l2
    | _ =>
      simp -implicitDefEqProofs only [run, semB, ↓semS_loop, ↓sem_comp, semS, seqM_ap, sem, semL, semI, startE, getV_0, getV_s, outD_nx, outD_rt, truth_bl, ite_ap, partI_i, strM_s, isLst_l, isSeq_l, isSeq_t, mkE_o, mkE_v, itD_t, itD_l, itD_s, optM_some, bnd_ap, ret_ap, gd_ap, noE_ap, thr_ap, o_gtT, o_intB, o_sum, o_addI, o_addS, o_addT, o_addL, o_sub, o_mul, o_mulL, o_mulT, o_fdiv, o_mod, o_pow, o_eq, o_ne, o_ltI, o_gt, o_le, o_ge, o_inT, o_inL, o_ninT, o_ninL, o_inR, o_ninR, o_inS, o_ninS, o_isn, o_notn, o_lenS, o_lenT, o_lenL, o_isi, o_isC, o_tupT, o_tupL, o_lstT, o_lstL, o_int, o_abs, o_min, o_max, o_repr, o_rng1, o_rng2, o_ixT, o_ixL, o_ixS, o_slT, o_slL, o_slS, o_neg, o_revT, o_revL, o_join, o_upper, List.map_cons, List.map_nil, List.length_cons, List.length_nil, List.replicate_succ, List.replicate_zero, List.cons_append, List.nil_append, List.set_cons_zero, List.set_cons_succ, Nat.reduceAdd, Nat.reduceSub, Nat.zero_add, ↓reduceIte, Bool.not_true, Bool.not_false, Bool.false_eq_true, Bool.not_eq_true, decide_true, decide_false, Option.map, reduceCtorEq, ret_bnd, isiD]
      exact bent_part hb (by omega) fun r hr c' m1 m2 => h r c' hr (by omega) (by omega)
  · exact h.elim
def sp26 : List D → M D
  | [.drw] => drawn 1 fun r => r.lim 2 ∧ gridB r = false
  | _ => fail
theorem r26 (h13 : Φ 13 = sp13) (ds : List D) : Le (sp26 ds) (run Φ 1 S26 ds) := by
  intro c Q E h
  unfold sp26 at h
  split at h
  · obtain ⟨h6, h⟩ := h
    simp -implicitDefEqProofs only [run, semB, ↓semS_loop, ↓sem_comp, semS, seqM_ap, sem, semL, semI, startE, getV_0, getV_s, outD_nx, outD_rt, truth_bl, ite_ap, partI_i, strM_s, isLst_l, isSeq_l, isSeq_t, mkE_o, mkE_v, itD_t, itD_l, itD_s, optM_some, bnd_ap, ret_ap, gd_ap, noE_ap, thr_ap, o_gtT, o_intB, o_sum, o_addI, o_addS, o_addT, o_addL, o_sub, o_mul, o_mulL, o_mulT, o_fdiv, o_mod, o_pow, o_eq, o_ne, o_ltI, o_gt, o_le, o_ge, o_inT, o_inL, o_ninT, o_ninL, o_inR, o_ninR, o_inS, o_ninS, o_isn, o_notn, o_lenS, o_lenT, o_lenL, o_isi, o_isC, o_tupT, o_tupL, o_lstT, o_lstL, o_int, o_abs, o_min, o_max, o_repr, o_rng1, o_rng2, o_ixT, o_ixL, o_ixS, o_slT, o_slL, o_slS, o_neg, o_revT, o_revL, o_join, o_upper, List.map_cons, List.map_nil, List.length_cons, List.length_nil, List.replicate_succ, List.replicate_zero, List.cons_append, List.nil_append, List.set_cons_zero, List.set_cons_succ, Nat.reduceAdd, Nat.reduceSub, Nat.zero_add, ↓reduceIte, Bool.not_true, Bool.not_false, Bool.false_eq_true, Bool.not_eq_true, decide_true, decide_false, Option.map, reduceCtorEq, ret_bnd, S26, h13]
    refine pickL_ok (by simp) (by simp) h6 fun r hr c' c1 c2 => h r c' ?_ c1 c2
    simp only [List.mem_cons, List.not_mem_nil, or_false] at hr
    rcases hr with rfl | rfl | rfl | rfl | rfl | rfl | rfl | rfl | rfl | rfl | rfl | rfl | rfl | rfl | rfl <;> exact ⟨⟨rfl, by decide⟩, rfl⟩
  · exact h.elim
def sp27 : List D → M D
  | [.drw, .tup [.int n, .int d]] => gd (1 ≤ n ∧ n ≤ 1000 ∧ 1 ≤ d ∧ d ≤ 1000000) (drawn (n.toNat + 1) fun r => r.lim 2 ∧ keyB n d r = false)
  | _ => fail
theorem keyB_len {n d : Int} {xs : List D} (h : (xs.length : Int) ≠ n) : keyB n d (.tup xs) = false := by
  show (decide ((xs.length : Int) = n) && _) = false
  rw [decide_eq_false h, Bool.false_and]
theorem keyB_bad {n d : Int} {xs : List D} {x : D} (h : x ∈ xs) (k : inB x 0 (d - 1) = false) : keyB n d (.tup xs) = false := by
  have : (xs.all fun x => inB x 0 (d - 1)) = false := List.all_eq_false.mpr ⟨x, h, by rw [k]; simp⟩
  show (_ && (xs.all fun x => inB x 0 (d - 1))) = false
  rw [this, Bool.and_false]
theorem cut1 {α : Type} (x : α) (xs : List α) : cutD (x :: xs) (some 1) none = xs := by
  unfold cutD
  have e1 : HT.sIx (x :: xs).length 0 (some 1) = 1 := by
    simp [HT.sIx]
    try omega
  have e2 : HT.sIx (x :: xs).length (x :: xs).length none = (x :: xs).length := rfl
  rw [e1, e2, List.drop_one, List.tail_cons, List.length_cons, Nat.add_sub_cancel, List.take_length]
theorem r27 (h22 : Φ 22 = sp22) (h13 : Φ 13 = sp13) (ds : List D) : Le (sp27 ds) (run Φ 3 S27 ds) := by
  intro c Q E h
  unfold sp27 at h
  split at h
  · rename_i n d
    obtain ⟨⟨n0, n1, d0, d1⟩, h6, h⟩ := h
    simp -implicitDefEqProofs only [run, semB, ↓semS_loop, ↓sem_comp, semS, seqM_ap, sem, semL, semI, startE, getV_0, getV_s, outD_nx, outD_rt, truth_bl, ite_ap, partI_i, strM_s, isLst_l, isSeq_l, isSeq_t, mkE_o, mkE_v, itD_t, itD_l, itD_s, optM_some, bnd_ap, ret_ap, gd_ap, noE_ap, thr_ap, o_gtT, o_intB, o_sum, o_addI, o_addS, o_addT, o_addL, o_sub, o_mul, o_mulL, o_mulT, o_fdiv, o_mod, o_pow, o_eq, o_ne, o_ltI, o_gt, o_le, o_ge, o_inT, o_inL, o_ninT, o_ninL, o_inR, o_ninR, o_inS, o_ninS, o_isn, o_notn, o_lenS, o_lenT, o_lenL, o_isi, o_isC, o_tupT, o_tupL, o_lstT, o_lstL, o_int, o_abs, o_min, o_max, o_repr, o_rng1, o_rng2, o_ixT, o_ixL, o_ixS, o_slT, o_slL, o_slS, o_neg, o_revT, o_revL, o_join, o_upper, List.map_cons, List.map_nil, List.length_cons, List.length_nil, List.replicate_succ, List.replicate_zero, List.cons_append, List.nil_append, List.set_cons_zero, List.set_cons_succ, Nat.reduceAdd, Nat.reduceSub, Nat.zero_add, ↓reduceIte, Bool.not_true, Bool.not_false, Bool.false_eq_true, Bool.not_eq_true, decide_true, decide_false, Option.map, reduceCtorEq, ret_bnd, S27, h22]
    refine ⟨by omega, by omega, fun r c1 hr l1 l2 => ?_⟩
    obtain ⟨xs, rfl, hl, hx⟩ := hr
    have hp : (D.tup xs).lim 1 := lim_tup.mpr fun x hx' => by
      obtain ⟨i, rfl, _⟩ := hx x hx'; exact lim_int _ _
    have lm : (D.tup xs).lim 2 := lim_mono hp (by decide)
    simp -implicitDefEqProofs only [run, semB, ↓semS_loop, ↓sem_comp, semS, seqM_ap, sem, semL, semI, startE, getV_0, getV_s, outD_nx, outD_rt, truth_bl, ite_ap, partI_i, strM_s, isLst_l, isSeq_l, isSeq_t, mkE_o, mkE_v, itD_t, itD_l, itD_s, optM_some, bnd_ap, ret_ap, gd_ap, noE_ap, thr_ap, o_gtT, o_intB, o_sum, o_addI, o_addS, o_addT, o_addL, o_sub, o_mul, o_mulL, o_mulT, o_fdiv, o_mod, o_pow, o_eq, o_ne, o_ltI, o_gt, o_le, o_ge, o_inT, o_inL, o_ninT, o_ninL, o_inR, o_ninR, o_inS, o_ninS, o_isn, o_notn, o_lenS, o_lenT, o_lenL, o_isi, o_isC, o_tupT, o_tupL, o_lstT, o_lstL, o_int, o_abs, o_min, o_max, o_repr, o_rng1, o_rng2, o_ixT, o_ixL, o_ixS, o_slT, o_slL, o_slS, o_neg, o_revT, o_revL, o_join, o_upper, List.map_cons, List.map_nil, List.length_cons, List.length_nil, List.replicate_succ, List.replicate_zero, List.cons_append, List.nil_append, List.set_cons_zero, List.set_cons_succ, Nat.reduceAdd, Nat.reduceSub, Nat.zero_add, ↓reduceIte, Bool.not_true, Bool.not_false, Bool.false_eq_true, Bool.not_eq_true, decide_true, decide_false, Option.map, reduceCtorEq, ret_bnd, ix1, h13]
    have s1 := cutD_len xs (some 1) none
    have s2 := cutD_len xs none (some (-1))
    have z1 : szOk (xs.length + 1) := by unfold szOk; omega
    have z2 : szOk (1 + (cutD xs (some 1) none).length) := by unfold szOk; omega
    have z3 : szOk ((cutD xs none (some (-1))).length + 1) := by unfold szOk; omega
    refine ⟨z1, z2, z3, z2, z2, ?_⟩
    refine pickL_ok (by simp) (by simp) (by omega) fun r hr c' c1 c2 => h r c' ?_ (by omega) (by omega)
    have hne : xs ≠ [] := by
      intro z; rw [z] at hl; simp at hl; omega
    obtain ⟨x0, xr, rfl⟩ := List.exists_cons_of_ne_nil hne
    rw [cut1] at hr
    have one : ∀ (x : D), x.lim 1 → (D.tup ([x] ++ xr)).lim 2 := fun x hx => lim_app (lim_one hx) (lim_tup.mpr fun y hy => lim_mono (lim_tup.mp hp y (List.mem_cons_of_mem _ hy)) (by decide))
    have mem1 : ∀ x : D, x ∈ [x] ++ xr := fun x => List.mem_append_left _ List.mem_cons_self
    simp only [List.mem_cons, List.not_mem_nil, or_false] at hr
    rcases hr with rfl | rfl | rfl | rfl | rfl | rfl | rfl | rfl | rfl | rfl
    · exact ⟨lim_non _, rfl⟩
    · exact ⟨lim_int _ _, rfl⟩
    · exact ⟨lim_nil _, keyB_len (by simp; omega)⟩
    · exact ⟨lim_lst.mpr fun x hx => lim_tup.mp lm x hx, rfl⟩
    · exact ⟨lim_app lm (lim_one (lim_int _ _)), keyB_len (by simp only [List.length_append, List.length_cons, List.length_nil] at hl ⊢; omega)⟩
    · exact ⟨lim_tup.mpr fun y hy => lim_tup.mp lm y (List.mem_cons_of_mem _ hy), keyB_len (by simp only [List.length_cons] at hl; omega)⟩
    · exact ⟨one _ (lim_int _ _), keyB_bad (mem1 _) (by unfold inB; simp; omega)⟩
    · exact ⟨lim_app (lim_cut lm) (lim_one (lim_int _ _)), keyB_bad (List.mem_append_right _ List.mem_cons_self) rfl⟩
    · exact ⟨one _ (lim_bl _ _), keyB_bad (mem1 _) rfl⟩
    · exact ⟨one _ (lim_non _), keyB_bad (mem1 _) rfl⟩
  · exact h.elim
/-! ### errors told -/
/-- what is told of an outcome -/
def toldOf : D → List D
  | .thk false (.exc c _) => [.str c]
  | _ => []
def errs : List Str := ["BadChamber", "BadGrid", "BadKey", "BadLock", "BadLocks", "BadLot", "BadMany", "BadOne", "BadOther", "BadPlace", "BadRounds"]
def toldOk : D → Prop
  | .thk true _ => True
  | .thk false (.exc c .non) => c ∈ errs
  | _ => False
def sp28 : List D → M D
  | [t] => gd (toldOk t) (ret (.lst (toldOf t)))
  | _ => fail
def toldStep (k : Str) : S := .cond (.bf (.isC k) [.var 1]) [.app 2 (.const (.str k))] []
theorem told_steps {t z : En} {e : D} {p : Str → Bool} {rest : List S} {c : Nat} {Q : Out → Nat → Prop} {E : D → Nat → Prop} (hp : ∀ k, lift (isCM k e) = ret (.bl (p k))) : ∀ (ks : List Str) (xs : List D), xs.length + ks.length < 16777216 →
    semB Φ rest [t, .val e, .own (xs ++ (ks.filter p).map D.str), z] c Q E → semB Φ (ks.map toldStep ++ rest) [t, .val e, .own xs, z] c Q E
  | [], xs, _, h => by simpa using h
  | k :: ks, xs, l, h => by
    rw [List.length_cons] at l
    rw [List.map_cons, List.cons_append, semB]
    simp -implicitDefEqProofs only [toldStep, run, semB, ↓semS_loop, ↓sem_comp, semS, seqM_ap, sem, semL, semI, startE, getV_0, getV_s, outD_nx, outD_rt, truth_bl, ite_ap, partI_i, strM_s, isLst_l, isSeq_l, isSeq_t, mkE_o, mkE_v, itD_t, itD_l, itD_s, optM_some, bnd_ap, ret_ap, gd_ap, noE_ap, thr_ap, o_gtT, o_intB, o_sum, o_addI, o_addS, o_addT, o_addL, o_sub, o_mul, o_mulL, o_mulT, o_fdiv, o_mod, o_pow, o_eq, o_ne, o_ltI, o_gt, o_le, o_ge, o_inT, o_inL, o_ninT, o_ninL, o_inR, o_ninR, o_inS, o_ninS, o_isn, o_notn, o_lenS, o_lenT, o_lenL, o_isi, o_isC, o_tupT, o_tupL, o_lstT, o_lstL, o_int, o_abs, o_min, o_max, o_repr, o_rng1, o_rng2, o_ixT, o_ixL, o_ixS, o_slT, o_slL, o_slS, o_neg, o_revT, o_revL, o_join, o_upper, List.map_cons, List.map_nil, List.length_cons, List.length_nil, List.replicate_succ, List.replicate_zero, List.cons_append, List.nil_append, List.set_cons_zero, List.set_cons_succ, Nat.reduceAdd, Nat.reduceSub, Nat.zero_add, ↓reduceIte, Bool.not_true, Bool.not_false, Bool.false_eq_true, Bool.not_eq_true, decide_true, decide_false, Option.map, reduceCtorEq, ret_bnd, hp]
    rw [List.filter_cons] at h
    cases q : p k with
    | true =>
      rw [q, if_pos rfl, List.map_cons] at h
      simp -implicitDefEqProofs only [run, semB, ↓semS_loop, ↓sem_comp, semS, seqM_ap, sem, semL, semI, startE, getV_0, getV_s, outD_nx, outD_rt, truth_bl, ite_ap, partI_i, strM_s, isLst_l, isSeq_l, isSeq_t, mkE_o, mkE_v, itD_t, itD_l, itD_s, optM_some, bnd_ap, ret_ap, gd_ap, noE_ap, thr_ap, o_gtT, o_intB, o_sum, o_addI, o_addS, o_addT, o_addL, o_sub, o_mul, o_mulL, o_mulT, o_fdiv, o_mod, o_pow, o_eq, o_ne, o_ltI, o_gt, o_le, o_ge, o_inT, o_inL, o_ninT, o_ninL, o_inR, o_ninR, o_inS, o_ninS, o_isn, o_notn, o_lenS, o_lenT, o_lenL, o_isi, o_isC, o_tupT, o_tupL, o_lstT, o_lstL, o_int, o_abs, o_min, o_max, o_repr, o_rng1, o_rng2, o_ixT, o_ixL, o_ixS, o_slT, o_slL, o_slS, o_neg, o_revT, o_revL, o_join, o_upper, List.map_cons, List.map_nil, List.length_cons, List.length_nil, List.replicate_succ, List.replicate_zero, List.cons_append, List.nil_append, List.set_cons_zero, List.set_cons_succ, Nat.reduceAdd, Nat.reduceSub, Nat.zero_add, ↓reduceIte, Bool.not_true, Bool.not_false, Bool.false_eq_true, Bool.not_eq_true, decide_true, decide_false, Option.map, reduceCtorEq, ret_bnd, ownAt, appM, List.getElem?_cons_succ, List.getElem?_cons_zero]
      refine ⟨by omega, ?_⟩
      refine told_steps hp ks (xs ++ [.str k]) (by rw [List.length_append]; simp only [List.length_cons, List.length_nil]; omega) ?_
      rw [List.append_assoc]
      exact h
    | false =>
      rw [q, if_neg (by decide)] at h
      simp -implicitDefEqProofs only [run, semB, ↓semS_loop, ↓sem_comp, semS, seqM_ap, sem, semL, semI, startE, getV_0, getV_s, outD_nx, outD_rt, truth_bl, ite_ap, partI_i, strM_s, isLst_l, isSeq_l, isSeq_t, mkE_o, mkE_v, itD_t, itD_l, itD_s, optM_some, bnd_ap, ret_ap, gd_ap, noE_ap, thr_ap, o_gtT, o_intB, o_sum, o_addI, o_addS, o_addT, o_addL, o_sub, o_mul, o_mulL, o_mulT, o_fdiv, o_mod, o_pow, o_eq, o_ne, o_ltI, o_gt, o_le, o_ge, o_inT, o_inL, o_ninT, o_ninL, o_inR, o_ninR, o_inS, o_ninS, o_isn, o_notn, o_lenS, o_lenT, o_lenL, o_isi, o_isC, o_tupT, o_tupL, o_lstT, o_lstL, o_int, o_abs, o_min, o_max, o_repr, o_rng1, o_rng2, o_ixT, o_ixL, o_ixS, o_slT, o_slL, o_slS, o_neg, o_revT, o_revL, o_join, o_upper, List.map_cons, List.map_nil, List.length_cons, List.length_nil, List.replicate_succ, List.replicate_zero, List.cons_append, List.nil_append, List.set_cons_zero, List.set_cons_succ, Nat.reduceAdd, Nat.reduceSub, Nat.zero_add, ↓reduceIte, Bool.not_true, Bool.not_false, Bool.false_eq_true, Bool.not_eq_true, decide_true, decide_false, Option.map, reduceCtorEq, ret_bnd]
      exact told_steps hp ks xs (by omega) h
theorem S28_eq : S28 = [.set 1 (.const (.non)), .tryk 0 1 3, .own 2 (.lst [])] ++ (errs.map toldStep ++ [.cond (.bf (.isC "TooMany") [(.var 1)]) [.app 2 (.ite (.call 14 [.bad, (.const (.int 4096))]) (.const (.str "TooMany 4096")) (.const (.str "TooMany")))] [], .frz 2, .ret (.ite (.or (.cmp .ne (.var 2) (.lst [])) (.cmp .isn (.var 1) (.const (.non)))) (.var 2) (.lst [(.const (.str "LockError"))]))]) := rfl
theorem told_end {t z : En} {e : D} {p : Str → Bool} {c : Nat} {Q : D → Nat → Prop} {E : D → Nat → Prop} (hp : ∀ k, lift (isCM k e) = ret (.bl (p k))) (hT : p "TooMany" = false) (hq : (errs.filter p).isEmpty = isNone e) (h : Q (.lst ((errs.filter p).map D.str)) c) :
    semB Φ (errs.map toldStep ++ [.cond (.bf (.isC "TooMany") [(.var 1)]) [.app 2 (.ite (.call 14 [.bad, (.const (.int 4096))]) (.const (.str "TooMany 4096")) (.const (.str "TooMany")))] [], .frz 2, .ret (.ite (.or (.cmp .ne (.var 2) (.lst [])) (.cmp .isn (.var 1) (.const (.non)))) (.var 2) (.lst [(.const (.str "LockError"))]))]) [t, .val e, .own [], z] c (fun o c' => outD o c' Q E) E := by
  refine told_steps hp errs [] (by decide) ?_
  rw [List.nil_append]
  simp -implicitDefEqProofs only [run, semB, ↓semS_loop, ↓sem_comp, semS, seqM_ap, sem, semL, semI, startE, getV_0, getV_s, outD_nx, outD_rt, truth_bl, ite_ap, partI_i, strM_s, isLst_l, isSeq_l, isSeq_t, mkE_o, mkE_v, itD_t, itD_l, itD_s, optM_some, bnd_ap, ret_ap, gd_ap, noE_ap, thr_ap, o_gtT, o_intB, o_sum, o_addI, o_addS, o_addT, o_addL, o_sub, o_mul, o_mulL, o_mulT, o_fdiv, o_mod, o_pow, o_eq, o_ne, o_ltI, o_gt, o_le, o_ge, o_inT, o_inL, o_ninT, o_ninL, o_inR, o_ninR, o_inS, o_ninS, o_isn, o_notn, o_lenS, o_lenT, o_lenL, o_isi, o_isC, o_tupT, o_tupL, o_lstT, o_lstL, o_int, o_abs, o_min, o_max, o_repr, o_rng1, o_rng2, o_ixT, o_ixL, o_ixS, o_slT, o_slL, o_slS, o_neg, o_revT, o_revL, o_join, o_upper, List.map_cons, List.map_nil, List.length_cons, List.length_nil, List.replicate_succ, List.replicate_zero, List.cons_append, List.nil_append, List.set_cons_zero, List.set_cons_succ, Nat.reduceAdd, Nat.reduceSub, Nat.zero_add, ↓reduceIte, Bool.not_true, Bool.not_false, Bool.false_eq_true, Bool.not_eq_true, decide_true, decide_false, Option.map, reduceCtorEq, ret_bnd, hp, hT, frzM, List.getElem?_cons_succ, List.getElem?_cons_zero]
  have ok : eqOk (.lst ((errs.filter p).map D.str)) := lim_ok (n := 1) (lim_lst.mpr fun x hx => by
    obtain ⟨a, _, rfl⟩ := List.mem_map.mp hx; exact lim_str _ _) (by decide)
  refine ⟨⟨ok, ⟨rfl, by decide⟩⟩, ?_⟩
  cases q : errs.filter p with
  | nil =>
    rw [q] at hq h
    have hq : isNone e = true := hq.symm
    simp -implicitDefEqProofs only [run, semB, ↓semS_loop, ↓sem_comp, semS, seqM_ap, sem, semL, semI, startE, getV_0, getV_s, outD_nx, outD_rt, truth_bl, ite_ap, partI_i, strM_s, isLst_l, isSeq_l, isSeq_t, mkE_o, mkE_v, itD_t, itD_l, itD_s, optM_some, bnd_ap, ret_ap, gd_ap, noE_ap, thr_ap, o_gtT, o_intB, o_sum, o_addI, o_addS, o_addT, o_addL, o_sub, o_mul, o_mulL, o_mulT, o_fdiv, o_mod, o_pow, o_eq, o_ne, o_ltI, o_gt, o_le, o_ge, o_inT, o_inL, o_ninT, o_ninL, o_inR, o_ninR, o_inS, o_ninS, o_isn, o_notn, o_lenS, o_lenT, o_lenL, o_isi, o_isC, o_tupT, o_tupL, o_lstT, o_lstL, o_int, o_abs, o_min, o_max, o_repr, o_rng1, o_rng2, o_ixT, o_ixL, o_ixS, o_slT, o_slL, o_slS, o_neg, o_revT, o_revL, o_join, o_upper, List.map_cons, List.map_nil, List.length_cons, List.length_nil, List.replicate_succ, List.replicate_zero, List.cons_append, List.nil_append, List.set_cons_zero, List.set_cons_succ, Nat.reduceAdd, Nat.reduceSub, Nat.zero_add, ↓reduceIte, Bool.not_true, Bool.not_false, Bool.false_eq_true, Bool.not_eq_true, decide_true, decide_false, Option.map, reduceCtorEq, ret_bnd, hq, D.eqv, eqvL]
    exact h
  | cons a l =>
    rw [q] at h
    simp -implicitDefEqProofs only [run, semB, ↓semS_loop, ↓sem_comp, semS, seqM_ap, sem, semL, semI, startE, getV_0, getV_s, outD_nx, outD_rt, truth_bl, ite_ap, partI_i, strM_s, isLst_l, isSeq_l, isSeq_t, mkE_o, mkE_v, itD_t, itD_l, itD_s, optM_some, bnd_ap, ret_ap, gd_ap, noE_ap, thr_ap, o_gtT, o_intB, o_sum, o_addI, o_addS, o_addT, o_addL, o_sub, o_mul, o_mulL, o_mulT, o_fdiv, o_mod, o_pow, o_eq, o_ne, o_ltI, o_gt, o_le, o_ge, o_inT, o_inL, o_ninT, o_ninL, o_inR, o_ninR, o_inS, o_ninS, o_isn, o_notn, o_lenS, o_lenT, o_lenL, o_isi, o_isC, o_tupT, o_tupL, o_lstT, o_lstL, o_int, o_abs, o_min, o_max, o_repr, o_rng1, o_rng2, o_ixT, o_ixL, o_ixS, o_slT, o_slL, o_slS, o_neg, o_revT, o_revL, o_join, o_upper, List.map_cons, List.map_nil, List.length_cons, List.length_nil, List.replicate_succ, List.replicate_zero, List.cons_append, List.nil_append, List.set_cons_zero, List.set_cons_succ, Nat.reduceAdd, Nat.reduceSub, Nat.zero_add, ↓reduceIte, Bool.not_true, Bool.not_false, Bool.false_eq_true, Bool.not_eq_true, decide_true, decide_false, Option.map, reduceCtorEq, ret_bnd, D.eqv, eqvL]
    exact h
theorem r28 (ds : List D) : Le (sp28 ds) (run Φ 4 S28 ds) := by
  intro c Q E h
  unfold sp28 at h
  split at h
  · rename_i t
    obtain ⟨h1, h⟩ := h
    rw [S28_eq]
    have isX : ∀ x k : Str, lift (isCM k (.exc x .non)) = ret (.bl (decide (x = k) || decide (k = baseX))) := fun x k => rfl
    have isN : ∀ k : Str, lift (isCM k .non) = ret (.bl false) := fun k => rfl
    have frzd : ∀ x ∈ errs, (errs.filter fun k => decide (x = k) || decide (k = baseX)) = [x] := by decide +kernel
    have notT : ∀ x ∈ errs, (decide (x = ("TooMany" : Str)) || decide (("TooMany" : Str) = baseX)) = false := by decide +kernel
    have none0 : (errs.filter fun _ => false) = [] := by decide +kernel
    unfold toldOk at h1
    split at h1
    · simp -implicitDefEqProofs only [run, bnd_ap, List.cons_append, List.nil_append, startE, List.map_cons, List.map_nil, List.length_cons, List.length_nil, List.replicate_succ, List.replicate_zero, List.cons_append, List.nil_append, List.set_cons_zero, List.set_cons_succ, Nat.reduceAdd, Nat.reduceSub, Nat.zero_add, ↓reduceIte, Bool.not_true, Bool.not_false, Bool.false_eq_true, Bool.not_eq_true, decide_true, decide_false, Option.map, reduceCtorEq, ret_bnd]
      rw [semB, seqM_ap]
      simp -implicitDefEqProofs only [List.map_cons, List.map_nil, List.length_cons, List.length_nil, List.replicate_succ, List.replicate_zero, List.cons_append, List.nil_append, List.set_cons_zero, List.set_cons_succ, Nat.reduceAdd, Nat.reduceSub, Nat.zero_add, ↓reduceIte, Bool.not_true, Bool.not_false, Bool.false_eq_true, Bool.not_eq_true, decide_true, decide_false, Option.map, reduceCtorEq, ret_bnd, ↓semB, seqM_ap, semS, sem, semL, getV_0, getV_s, bnd_ap, ret_ap, keepM, isLst_l]
      refine told_end isN rfl ?_ ?_
      · rw [none0]; rfl
      · rw [none0]; exact h
    · rename_i x
      simp -implicitDefEqProofs only [run, bnd_ap, List.cons_append, List.nil_append, startE, List.map_cons, List.map_nil, List.length_cons, List.length_nil, List.replicate_succ, List.replicate_zero, List.cons_append, List.nil_append, List.set_cons_zero, List.set_cons_succ, Nat.reduceAdd, Nat.reduceSub, Nat.zero_add, ↓reduceIte, Bool.not_true, Bool.not_false, Bool.false_eq_true, Bool.not_eq_true, decide_true, decide_false, Option.map, reduceCtorEq, ret_bnd]
      rw [semB, seqM_ap]
      simp -implicitDefEqProofs only [List.map_cons, List.map_nil, List.length_cons, List.length_nil, List.replicate_succ, List.replicate_zero, List.cons_append, List.nil_append, List.set_cons_zero, List.set_cons_succ, Nat.reduceAdd, Nat.reduceSub, Nat.zero_add, ↓reduceIte, Bool.not_true, Bool.not_false, Bool.false_eq_true, Bool.not_eq_true, decide_true, decide_false, Option.map, reduceCtorEq, ret_bnd, ↓semB, seqM_ap, semS, sem, semL, getV_0, getV_s, bnd_ap, ret_ap, keepM, isLst_l]
      refine told_end (isX x) (notT x h1) ?_ ?_
      · rw [frzd x h1]; rfl
      · rw [frzd x h1]; exact h
    · exact h1.elim
  · exact h.elim
def sp29 : List D → M D
  | [.lst ts] => gd ((∀ t ∈ ts, toldOk t) ∧ ts.length ≤ 1000000) (ret (.lst (ts.flatMap toldOf)))
  | _ => fail
theorem toldOf_len (t : D) : (toldOf t).length ≤ 1 := by
  unfold toldOf
  split <;> simp
theorem r29 (h28 : Φ 28 = sp28) (ds : List D) : Le (sp29 ds) (run Φ 3 S29 ds) := by
  intro c Q E h
  unfold sp29 at h
  split at h
  · rename_i ts
    obtain ⟨⟨h1, h2⟩, h⟩ := h
    simp -implicitDefEqProofs only [run, semB, ↓semS_loop, ↓sem_comp, semS, seqM_ap, sem, semL, semI, startE, getV_0, getV_s, outD_nx, outD_rt, truth_bl, ite_ap, partI_i, strM_s, isLst_l, isSeq_l, isSeq_t, mkE_o, mkE_v, itD_t, itD_l, itD_s, optM_some, bnd_ap, ret_ap, gd_ap, noE_ap, thr_ap, o_gtT, o_intB, o_sum, o_addI, o_addS, o_addT, o_addL, o_sub, o_mul, o_mulL, o_mulT, o_fdiv, o_mod, o_pow, o_eq, o_ne, o_ltI, o_gt, o_le, o_ge, o_inT, o_inL, o_ninT, o_ninL, o_inR, o_ninR, o_inS, o_ninS, o_isn, o_notn, o_lenS, o_lenT, o_lenL, o_isi, o_isC, o_tupT, o_tupL, o_lstT, o_lstL, o_int, o_abs, o_min, o_max, o_repr, o_rng1, o_rng2, o_ixT, o_ixL, o_ixS, o_slT, o_slL, o_slS, o_neg, o_revT, o_revL, o_join, o_upper, List.map_cons, List.map_nil, List.length_cons, List.length_nil, List.replicate_succ, List.replicate_zero, List.cons_append, List.nil_append, List.set_cons_zero, List.set_cons_succ, Nat.reduceAdd, Nat.reduceSub, Nat.zero_add, ↓reduceIte, Bool.not_true, Bool.not_false, Bool.false_eq_true, Bool.not_eq_true, decide_true, decide_false, Option.map, reduceCtorEq, ret_bnd, S29]
    refine loopB_ind (fun ds ρ c => ∃ (done : List D) (z : En), ts = done ++ ds ∧ ρ = [.val (.lst ts), .val (.lst (done.flatMap toldOf)), z] ∧ (done.flatMap toldOf).length ≤ done.length ∧ Q (.lst (ts.flatMap toldOf)) c) ⟨[], .un, rfl, rfl, Nat.le_refl _, h⟩ ?_ ?_
    · rintro d ds ρ c ⟨done, z, e, rfl, l, q⟩ K kn _ _ _
      have hd : toldOk d := h1 d (by rw [e]; exact List.mem_append_right _ List.mem_cons_self)
      have t1 := toldOf_len d
      have le : done.length + ds.length + 1 ≤ 1000000 := by rw [e, List.length_append, List.length_cons] at h2; omega
      simp -implicitDefEqProofs only [run, semB, ↓semS_loop, ↓sem_comp, semS, seqM_ap, sem, semL, semI, startE, getV_0, getV_s, outD_nx, outD_rt, truth_bl, ite_ap, partI_i, strM_s, isLst_l, isSeq_l, isSeq_t, mkE_o, mkE_v, itD_t, itD_l, itD_s, optM_some, bnd_ap, ret_ap, gd_ap, noE_ap, thr_ap, o_gtT, o_intB, o_sum, o_addI, o_addS, o_addT, o_addL, o_sub, o_mul, o_mulL, o_mulT, o_fdiv, o_mod, o_pow, o_eq, o_ne, o_ltI, o_gt, o_le, o_ge, o_inT, o_inL, o_ninT, o_ninL, o_inR, o_ninR, o_inS, o_ninS, o_isn, o_notn, o_lenS, o_lenT, o_lenL, o_isi, o_isC, o_tupT, o_tupL, o_lstT, o_lstL, o_int, o_abs, o_min, o_max, o_repr, o_rng1, o_rng2, o_ixT, o_ixL, o_ixS, o_slT, o_slL, o_slS, o_neg, o_revT, o_revL, o_join, o_upper, List.map_cons, List.map_nil, List.length_cons, List.length_nil, List.replicate_succ, List.replicate_zero, List.cons_append, List.nil_append, List.set_cons_zero, List.set_cons_succ, Nat.reduceAdd, Nat.reduceSub, Nat.zero_add, ↓reduceIte, Bool.not_true, Bool.not_false, Bool.false_eq_true, Bool.not_eq_true, decide_true, decide_false, Option.map, reduceCtorEq, ret_bnd, asgE, h28, sp28]
      refine ⟨hd, by unfold szOk; omega, ?_⟩
      have ea : done.flatMap toldOf ++ toldOf d = (done ++ [d]).flatMap toldOf := by simp
      refine kn _ _ ⟨done ++ [d], _, by rw [e, List.append_assoc]; rfl, by rw [ea], ?_, q⟩
      rw [← ea, List.length_append, List.length_append]
      simp only [List.length_cons, List.length_nil]
      omega
    · rintro ρ c ⟨done, z, e, rfl, _, q⟩
      rw [List.append_nil] at e
      subst e
      simp -implicitDefEqProofs only [run, semB, ↓semS_loop, ↓sem_comp, semS, seqM_ap, sem, semL, semI, startE, getV_0, getV_s, outD_nx, outD_rt, truth_bl, ite_ap, partI_i, strM_s, isLst_l, isSeq_l, isSeq_t, mkE_o, mkE_v, itD_t, itD_l, itD_s, optM_some, bnd_ap, ret_ap, gd_ap, noE_ap, thr_ap, o_gtT, o_intB, o_sum, o_addI, o_addS, o_addT, o_addL, o_sub, o_mul, o_mulL, o_mulT, o_fdiv, o_mod, o_pow, o_eq, o_ne, o_ltI, o_gt, o_le, o_ge, o_inT, o_inL, o_ninT, o_ninL, o_inR, o_ninR, o_inS, o_ninS, o_isn, o_notn, o_lenS, o_lenT, o_lenL, o_isi, o_isC, o_tupT, o_tupL, o_lstT, o_lstL, o_int, o_abs, o_min, o_max, o_repr, o_rng1, o_rng2, o_ixT, o_ixL, o_ixS, o_slT, o_slL, o_slS, o_neg, o_revT, o_revL, o_join, o_upper, List.map_cons, List.map_nil, List.length_cons, List.length_nil, List.replicate_succ, List.replicate_zero, List.cons_append, List.nil_append, List.set_cons_zero, List.set_cons_succ, Nat.reduceAdd, Nat.reduceSub, Nat.zero_add, ↓reduceIte, Bool.not_true, Bool.not_false, Bool.false_eq_true, Bool.not_eq_true, decide_true, decide_false, Option.map, reduceCtorEq, ret_bnd]
      exact q
  · exact h.elim
/-! ### words -/
def isWord (r : D) : Prop := ∃ s : Str, r = .str s ∧ s.length ≤ 100
def sp30 : List D → M D
  | [.drw] => drawn 20 isWord
  | _ => fail
theorem len_app (a b : Str) : (a ++ b).length = a.length + b.length := by
  show (a.cps ++ b.cps).size = _
  rw [Array.size_append]; rfl
theorem r30 (h12 : Φ 12 = sp12) (h13 : Φ 13 = sp13) (h23 : Φ 23 = sp23) (ds : List D) : Le (sp30 ds) (run Φ 5 S30 ds) := by
  intro c Q E h
  unfold sp30 at h
  split at h
  · obtain ⟨h6, h⟩ := h
    simp -implicitDefEqProofs only [run, semB, ↓semS_loop, ↓sem_comp, semS, seqM_ap, sem, semL, semI, startE, getV_0, getV_s, outD_nx, outD_rt, truth_bl, ite_ap, partI_i, strM_s, isLst_l, isSeq_l, isSeq_t, mkE_o, mkE_v, itD_t, itD_l, itD_s, optM_some, bnd_ap, ret_ap, gd_ap, noE_ap, thr_ap, o_gtT, o_intB, o_sum, o_addI, o_addS, o_addT, o_addL, o_sub, o_mul, o_mulL, o_mulT, o_fdiv, o_mod, o_pow, o_eq, o_ne, o_ltI, o_gt, o_le, o_ge, o_inT, o_inL, o_ninT, o_ninL, o_inR, o_ninR, o_inS, o_ninS, o_isn, o_notn, o_lenS, o_lenT, o_lenL, o_isi, o_isC, o_tupT, o_tupL, o_lstT, o_lstL, o_int, o_abs, o_min, o_max, o_repr, o_rng1, o_rng2, o_ixT, o_ixL, o_ixS, o_slT, o_slL, o_slS, o_neg, o_revT, o_revL, o_join, o_upper, List.map_cons, List.map_nil, List.length_cons, List.length_nil, List.replicate_succ, List.replicate_zero, List.cons_append, List.nil_append, List.set_cons_zero, List.set_cons_succ, Nat.reduceAdd, Nat.reduceSub, Nat.zero_add, ↓reduceIte, Bool.not_true, Bool.not_false, Bool.false_eq_true, Bool.not_eq_true, decide_true, decide_false, Option.map, reduceCtorEq, ret_bnd, S30, h12, h13, h23]
    refine ⟨by omega, fun r c1 hr l1 l2 => ?_⟩
    obtain ⟨s, rfl, s0, s1⟩ := hr
    refine pickL_ok (by simp) (by simp) (by omega) fun r hr c2 l3 l4 => ?_
    have : ∃ t : Str, r = .str t ∧ t.length ≤ 8 := by
      simp only [List.mem_cons, List.not_mem_nil, or_false] at hr
      rcases hr with rfl | rfl | rfl | rfl <;> exact ⟨_, rfl, by decide⟩
    obtain ⟨t, rfl, t1⟩ := this
    have lw := len_app s t
    simp -implicitDefEqProofs only [run, semB, ↓semS_loop, ↓sem_comp, semS, seqM_ap, sem, semL, semI, startE, getV_0, getV_s, outD_nx, outD_rt, truth_bl, ite_ap, partI_i, strM_s, isLst_l, isSeq_l, isSeq_t, mkE_o, mkE_v, itD_t, itD_l, itD_s, optM_some, bnd_ap, ret_ap, gd_ap, noE_ap, thr_ap, o_gtT, o_intB, o_sum, o_addI, o_addS, o_addT, o_addL, o_sub, o_mul, o_mulL, o_mulT, o_fdiv, o_mod, o_pow, o_eq, o_ne, o_ltI, o_gt, o_le, o_ge, o_inT, o_inL, o_ninT, o_ninL, o_inR, o_ninR, o_inS, o_ninS, o_isn, o_notn, o_lenS, o_lenT, o_lenL, o_isi, o_isC, o_tupT, o_tupL, o_lstT, o_lstL, o_int, o_abs, o_min, o_max, o_repr, o_rng1, o_rng2, o_ixT, o_ixL, o_ixS, o_slT, o_slL, o_slS, o_neg, o_revT, o_revL, o_join, o_upper, List.map_cons, List.map_nil, List.length_cons, List.length_nil, List.replicate_succ, List.replicate_zero, List.cons_append, List.nil_append, List.set_cons_zero, List.set_cons_succ, Nat.reduceAdd, Nat.reduceSub, Nat.zero_add, ↓reduceIte, Bool.not_true, Bool.not_false, Bool.false_eq_true, Bool.not_eq_true, decide_true, decide_false, Option.map, reduceCtorEq, ret_bnd, asgE, asgL]
    refine ⟨by unfold szOk; omega, by unfold szOk; omega, ?_⟩
    refine take_ok (by omega) (by omega) (by omega) fun i i0 i1 c3 l5 l6 => ?_
    refine take_ok (by decide) (by decide) (by omega) fun k k0 k1 c4 l7 l8 => ?_
    simp -implicitDefEqProofs only [run, semB, ↓semS_loop, ↓sem_comp, semS, seqM_ap, sem, semL, semI, startE, getV_0, getV_s, outD_nx, outD_rt, truth_bl, ite_ap, partI_i, strM_s, isLst_l, isSeq_l, isSeq_t, mkE_o, mkE_v, itD_t, itD_l, itD_s, optM_some, bnd_ap, ret_ap, gd_ap, noE_ap, thr_ap, o_gtT, o_intB, o_sum, o_addI, o_addS, o_addT, o_addL, o_sub, o_mul, o_mulL, o_mulT, o_fdiv, o_mod, o_pow, o_eq, o_ne, o_ltI, o_gt, o_le, o_ge, o_inT, o_inL, o_ninT, o_ninL, o_inR, o_ninR, o_inS, o_ninS, o_isn, o_notn, o_lenS, o_lenT, o_lenL, o_isi, o_isC, o_tupT, o_tupL, o_lstT, o_lstL, o_int, o_abs, o_min, o_max, o_repr, o_rng1, o_rng2, o_ixT, o_ixL, o_ixS, o_slT, o_slL, o_slS, o_neg, o_revT, o_revL, o_join, o_upper, List.map_cons, List.map_nil, List.length_cons, List.length_nil, List.replicate_succ, List.replicate_zero, List.cons_append, List.nil_append, List.set_cons_zero, List.set_cons_succ, Nat.reduceAdd, Nat.reduceSub, Nat.zero_add, ↓reduceIte, Bool.not_true, Bool.not_false, Bool.false_eq_true, Bool.not_eq_true, decide_true, decide_false, Option.map, reduceCtorEq, ret_bnd, asgE, asgL]
    refine pickS_ok (by decide) (by decide) (by omega) fun a1 _ c5 l9 l10 => ?_
    refine pickS_ok (by decide) (by decide) (by omega) fun a2 _ c6 l11 l12 => ?_
    refine pickL_ok (by simp) (by simp) (by omega) fun r hr c7 l13 l14 => ?_
    have : ∃ g : Str, r = .str g ∧ g.length = 1 := by
      simp only [List.mem_cons, List.not_mem_nil, or_false] at hr
      rcases hr with rfl | rfl <;> exact ⟨_, rfl, rfl⟩
    obtain ⟨g, rfl, g1⟩ := this
    have z0 : szOk (s ++ t).length := by unfold szOk; omega
    have cl := cutS_length (s ++ t)
    have e0 : ∀ i : Int, eqOk (.int i) := fun i => ⟨rfl, by simp [D.depth]⟩
    simp -implicitDefEqProofs only [run, semB, ↓semS_loop, ↓sem_comp, semS, seqM_ap, sem, semL, semI, startE, getV_0, getV_s, outD_nx, outD_rt, truth_bl, ite_ap, partI_i, strM_s, isLst_l, isSeq_l, isSeq_t, mkE_o, mkE_v, itD_t, itD_l, itD_s, optM_some, bnd_ap, ret_ap, gd_ap, noE_ap, thr_ap, o_gtT, o_intB, o_sum, o_addI, o_addS, o_addT, o_addL, o_sub, o_mul, o_mulL, o_mulT, o_fdiv, o_mod, o_pow, o_eq, o_ne, o_ltI, o_gt, o_le, o_ge, o_inT, o_inL, o_ninT, o_ninL, o_inR, o_ninR, o_inS, o_ninS, o_isn, o_notn, o_lenS, o_lenT, o_lenL, o_isi, o_isC, o_tupT, o_tupL, o_lstT, o_lstL, o_int, o_abs, o_min, o_max, o_repr, o_rng1, o_rng2, o_ixT, o_ixL, o_ixS, o_slT, o_slL, o_slS, o_neg, o_revT, o_revL, o_join, o_upper, List.map_cons, List.map_nil, List.length_cons, List.length_nil, List.replicate_succ, List.replicate_zero, List.cons_append, List.nil_append, List.set_cons_zero, List.set_cons_succ, Nat.reduceAdd, Nat.reduceSub, Nat.zero_add, ↓reduceIte, Bool.not_true, Bool.not_false, Bool.false_eq_true, Bool.not_eq_true, decide_true, decide_false, Option.map, reduceCtorEq, ret_bnd, D.eqv, decide_eq_true_eq]
    have c1 := cl none (some i)
    have c2 := cl (some (i + 1)) none
    have c3 := cl (some i) none
    have lg := len_app (cutS (s ++ t) none (some i)) g
    refine ⟨⟨e0 _, e0 _⟩, ?_⟩
    split
    · refine ⟨z0, by unfold szOk; omega, z0, by unfold szOk; omega, ?_⟩
      refine h _ _ ⟨_, rfl, ?_⟩ (by omega) (by omega)
      rw [len_app]; omega
    · refine ⟨⟨e0 _, e0 _⟩, ?_⟩
      split
      · refine ⟨z0, z0, by unfold szOk; omega, ?_⟩
        refine h _ _ ⟨_, rfl, ?_⟩ (by omega) (by omega)
        rw [len_app]; omega
      · refine ⟨⟨e0 _, e0 _⟩, ?_⟩
        split
        · refine ⟨z0, by unfold szOk; omega, z0, by unfold szOk; omega, ?_⟩
          refine h _ _ ⟨_, rfl, ?_⟩ (by omega) (by omega)
          rw [len_app]; omega
        · refine pickL_ok (by simp) (by simp) (by omega) fun r hr c8 l15 l16 => ?_
          have : ∃ g : Int, r = .int g := by
            simp only [List.mem_cons, List.not_mem_nil, or_false] at hr
            rcases hr with rfl | rfl | rfl | rfl <;> exact ⟨_, rfl⟩
          obtain ⟨g, rfl⟩ := this
          simp -implicitDefEqProofs only [run, semB, ↓semS_loop, ↓sem_comp, semS, seqM_ap, sem, semL, semI, startE, getV_0, getV_s, outD_nx, outD_rt, truth_bl, ite_ap, partI_i, strM_s, isLst_l, isSeq_l, isSeq_t, mkE_o, mkE_v, itD_t, itD_l, itD_s, optM_some, bnd_ap, ret_ap, gd_ap, noE_ap, thr_ap, o_gtT, o_intB, o_sum, o_addI, o_addS, o_addT, o_addL, o_sub, o_mul, o_mulL, o_mulT, o_fdiv, o_mod, o_pow, o_eq, o_ne, o_ltI, o_gt, o_le, o_ge, o_inT, o_inL, o_ninT, o_ninL, o_inR, o_ninR, o_inS, o_ninS, o_isn, o_notn, o_lenS, o_lenT, o_lenL, o_isi, o_isC, o_tupT, o_tupL, o_lstT, o_lstL, o_int, o_abs, o_min, o_max, o_repr, o_rng1, o_rng2, o_ixT, o_ixL, o_ixS, o_slT, o_slL, o_slS, o_neg, o_revT, o_revL, o_join, o_upper, List.map_cons, List.map_nil, List.length_cons, List.length_nil, List.replicate_succ, List.replicate_zero, List.cons_append, List.nil_append, List.set_cons_zero, List.set_cons_succ, Nat.reduceAdd, Nat.reduceSub, Nat.zero_add, ↓reduceIte, Bool.not_true, Bool.not_false, Bool.false_eq_true, Bool.not_eq_true, decide_true, decide_false, Option.map, reduceCtorEq, ret_bnd]
          refine ⟨z0, h _ _ ⟨_, rfl, ?_⟩ (by omega) (by omega)⟩
          have := cl none (some g)
          omega
  · exact h.elim
/-! ### lists of truth values, outcomes -/
theorem fine_bls {bs : List Bool} (h : bs.length ≤ 1000) : (D.lst (bs.map D.bl)).fine := by
  have m : ∀ x ∈ bs.map D.bl, ∃ b, x = .bl b := fun x hx => by
    obtain ⟨b, _, rfl⟩ := List.mem_map.mp hx; exact ⟨b, rfl⟩
  have l : (D.lst (bs.map D.bl)).lim 1 := lim_lst.mpr fun x hx => by
    obtain ⟨b, rfl⟩ := m x hx; exact lim_bl _ _
  refine ⟨l.1, by have := l.2; omega, ?_, ?_, ?_⟩
  · exact sokL_iff.mpr fun x hx => by
      obtain ⟨b, rfl⟩ := m x hx; rfl
  · exact shbL_iff.mpr fun x hx => by
      obtain ⟨b, rfl⟩ := m x hx; rfl
  · show wtL (bs.map D.bl) + 3 ≤ 16777216
    have := wtL_le (n := 5) (xs := bs.map D.bl) fun x hx => by
      obtain ⟨b, rfl⟩ := m x hx; exact Nat.le_refl _
    rw [List.length_map] at this
    omega
theorem fine2 (a b : Bool) : (D.lst [.bl a, .bl b]).fine := fine_bls (bs := [a, b]) (show 2 ≤ 1000 by decide)
theorem thk_raise {m : M D} {e : D} (h : ∀ (c : Nat) (Q E : D → Nat → Prop), E e c → m c Q E) {c : Nat} {Q : D → Nat → Prop} {E : D → Nat → Prop} (k : Q (.thk false e) c) : thkM m c Q E := .inr ⟨e, fun k => h k _ _ ⟨rfl, rfl⟩, k⟩
theorem permL_1 (x : D) : permL [x] [0] = [x] := rfl
theorem permL_2 (x y : D) : permL [x, y] [0, 1] = [x, y] := rfl
theorem rep_2 (x : D) : rep [x] 2 = [x, x] := rfl
theorem rep_3 (x : D) : rep [x] 3 = [x, x, x] := rfl
end PL

/-! QN1: places of keys, differences: plain numbers. -/
namespace PL
open PySem L2
/-- a key by its numbers -/
def KeyI (n d : Int) (ks : List Int) : Prop := (ks.length : Int) = n ∧ ∀ k ∈ ks, 0 ≤ k ∧ k < d
def placeI (d : Int) (ks : List Int) : Int := ks.foldl (fun p k => p * d + k) 0
def keyI : Nat → Int → Int → List Int
  | 0, _, _ => []
  | n + 1, d, i => keyI n d (i / d) ++ [i % d]
theorem placeI_app (d : Int) (ks : List Int) (k : Int) : placeI d (ks ++ [k]) = placeI d ks * d + k := by
  unfold placeI
  rw [List.foldl_append]
  rfl
theorem keyI_len {d : Int} : ∀ {n : Nat} {i : Int}, (keyI n d i).length = n
  | 0, _ => rfl
  | n + 1, i => by rw [keyI, List.length_append, keyI_len]; rfl
theorem keyI_mem {d : Int} (h : 0 < d) : ∀ {n : Nat} {i k : Int}, k ∈ keyI n d i → 0 ≤ k ∧ k < d
  | 0, _, _, m => nomatch m
  | n + 1, i, k, m => by
    rw [keyI] at m
    rcases List.mem_append.mp m with m | m
    · exact keyI_mem h m
    · rw [List.mem_singleton.mp m]
      exact ⟨Int.emod_nonneg _ (by omega), Int.emod_lt_of_pos _ h⟩
theorem keyI_key {n d i : Int} (hn : 0 ≤ n) (h : 0 < d) : KeyI n d (keyI n.toNat d i) := ⟨by rw [keyI_len]; omega, fun k m => keyI_mem h m⟩
theorem div_lt_pow {d i : Int} {n : Nat} (h : 0 < d) (l : i < d ^ (n + 1)) : i / d < d ^ n := by
  rw [Int.pow_succ] at l
  exact Int.ediv_lt_of_lt_mul h l
theorem place_key {d : Int} (h : 0 < d) : ∀ {n : Nat} {i : Int}, 0 ≤ i → i < d ^ n → placeI d (keyI n d i) = i
  | 0, i, h0, h1 => by
    rw [Int.pow_zero] at h1
    have : i = 0 := by omega
    rw [this]; rfl
  | n + 1, i, h0, h1 => by
    rw [keyI, placeI_app, place_key h (Int.ediv_nonneg h0 (by omega)) (div_lt_pow h h1)]
    have := Int.emod_add_mul_ediv i d
    have c := Int.mul_comm (i / d) d
    omega
theorem key_place' {d : Int} (h : 0 < d) : ∀ ks : List Int, (∀ k ∈ ks, 0 ≤ k ∧ k < d) → keyI ks.length d (placeI d ks.reverse) = ks.reverse
  | [], _ => rfl
  | k :: ks, m => by
    obtain ⟨k0, k1⟩ := m k List.mem_cons_self
    rw [List.reverse_cons, placeI_app, List.length_cons, keyI]
    have e1 : (placeI d ks.reverse * d + k) / d = placeI d ks.reverse := by
      rw [Int.add_comm, Int.add_mul_ediv_right _ _ (by omega), Int.ediv_eq_zero_of_lt k0 k1, Int.zero_add]
    have e2 : (placeI d ks.reverse * d + k) % d = k := by
      rw [Int.add_comm, Int.add_mul_emod_self_right, Int.emod_eq_of_lt k0 k1]
    rw [e1, e2, key_place' h ks fun y hy => m y (List.mem_cons_of_mem _ hy)]
theorem key_place {n d : Int} {ks : List Int} (h : 0 < d) (k : KeyI n d ks) : keyI n.toNat d (placeI d ks) = ks := by
  have z := key_place' h ks.reverse fun y hy => k.2 y (List.mem_reverse.mp hy)
  rw [List.reverse_reverse, List.length_reverse] at z
  have e : n.toNat = ks.length := by have := k.1; omega
  rw [e, z]
theorem place_lt {d : Int} (h : 0 < d) : ∀ ks : List Int, (∀ k ∈ ks, 0 ≤ k ∧ k < d) → 0 ≤ placeI d ks.reverse ∧ placeI d ks.reverse < d ^ ks.length
  | [], _ => ⟨Int.le_refl _, by
    rw [List.length_nil, Int.pow_zero]
    exact (show (0 : Int) < 1 by decide)⟩
  | k :: ks, m => by
    obtain ⟨k0, k1⟩ := m k List.mem_cons_self
    obtain ⟨p0, p1⟩ := place_lt h ks fun y hy => m y (List.mem_cons_of_mem _ hy)
    rw [List.reverse_cons, placeI_app, List.length_cons, Int.pow_succ]
    refine ⟨by have := Int.mul_nonneg p0 (Int.le_of_lt h); omega, ?_⟩
    have : (placeI d ks.reverse + 1) * d ≤ d ^ ks.length * d := Int.mul_le_mul_of_nonneg_right (by omega) (Int.le_of_lt h)
    rw [Int.add_mul] at this
    omega
theorem placeI_lt {n d : Int} {ks : List Int} (h : 0 < d) (k : KeyI n d ks) : 0 ≤ placeI d ks ∧ placeI d ks < d ^ n.toNat := by
  have z := place_lt h ks.reverse fun y hy => k.2 y (List.mem_reverse.mp hy)
  rw [List.reverse_reverse, List.length_reverse] at z
  have e : n.toNat = ks.length := by have := k.1; omega
  rw [e]; exact z
theorem lex_pre {a b x y : List Int} (l : a.length = b.length) (h : HT.lexLt a b = true) : HT.lexLt (a ++ x) (b ++ y) = true := by
  induction a generalizing b with
  | nil =>
    cases b with
    | nil => rw [HT.lexLt_nil_nil] at h; cases h
    | cons _ _ => cases l
  | cons p a ih =>
    cases b with
    | nil => cases l
    | cons q b =>
      rw [HT.lexLt_cons] at h
      rw [List.cons_append, List.cons_append, HT.lexLt_cons]
      by_cases e : p = q
      · rw [if_pos e] at h ⊢
        exact ih (by simpa using l) h
      · rw [if_neg e] at h ⊢
        exact h
theorem lex_same {a : List Int} {x y : Int} (h : x < y) : HT.lexLt (a ++ [x]) (a ++ [y]) = true := by
  induction a with
  | nil =>
    show HT.lexLt [x] [y] = true
    rw [HT.lexLt_cons, if_neg (by omega)]
    exact decide_eq_true h
  | cons p a ih =>
    rw [List.cons_append, List.cons_append, HT.lexLt_cons, if_pos rfl]
    exact ih
theorem key_lex {d : Int} (h : 0 < d) : ∀ {n : Nat} {i j : Int}, 0 ≤ i → i < j → j < d ^ n → HT.lexLt (keyI n d i) (keyI n d j) = true
  | 0, i, j, h0, h1, h2 => by
    rw [Int.pow_zero] at h2
    omega
  | n + 1, i, j, h0, h1, h2 => by
    rw [keyI, keyI]
    have le : i / d ≤ j / d := Int.ediv_le_ediv h (by omega)
    by_cases e : i / d = j / d
    · rw [e]
      refine lex_same ?_
      have a := Int.emod_add_mul_ediv i d
      have b := Int.emod_add_mul_ediv j d
      rw [e] at a
      omega
    · exact lex_pre (by rw [keyI_len, keyI_len]) (key_lex h (Int.ediv_nonneg h0 (by omega)) (by omega) (div_lt_pow h h2))
/-- a sum by powers is the place -/
def sumP (d : Int) : List Int → Int
  | [] => 0
  | k :: ks => k * d ^ ks.length + sumP d ks
theorem sumP_place (d : Int) : ∀ (ks : List Int) (p : Int), ks.foldl (fun p k => p * d + k) p = p * d ^ ks.length + sumP d ks
  | [], p => by simp [sumP]
  | k :: ks, p => by
    rw [List.foldl_cons, sumP_place d ks, sumP, List.length_cons, Int.pow_succ, Int.add_mul, Int.mul_assoc, Int.mul_comm d]
    omega
theorem placeI_sum (d : Int) (ks : List Int) : placeI d ks = sumP d ks := by
  unfold placeI
  rw [sumP_place]; omega
/-! ### differences -/
def apP (xs ys : List Int) (i : Nat) : Bool := decide (xs[i]? ≠ ys[i]?)
def apN (xs ys : List Int) : List Nat := (List.range xs.length).filter (apP xs ys)
def apI (xs ys : List Int) : List Int := (apN xs ys).map fun (i : Nat) => (i : Int)
theorem apN_comm {xs ys : List Int} (l : xs.length = ys.length) : apN xs ys = apN ys xs := by
  unfold apN
  rw [l]
  congr 1
  funext i
  unfold apP
  by_cases h : xs[i]? = ys[i]?
  · rw [h]
  · rw [decide_eq_true h, decide_eq_true (Ne.symm h)]
theorem apN_self (xs : List Int) : apN xs xs = [] := by
  unfold apN
  refine List.filter_eq_nil_iff.mpr fun i _ => ?_
  unfold apP
  simp
theorem filter_sub {p q r : Nat → Bool} (h : ∀ i, p i = true → q i = true ∨ r i = true) : ∀ l : List Nat, (l.filter p).length ≤ (l.filter q).length + (l.filter r).length
  | [] => Nat.zero_le _
  | i :: l => by
    have ih := filter_sub h l
    have hpi := h i
    rw [List.filter_cons, List.filter_cons, List.filter_cons]
    cases hp : p i <;> cases hq : q i <;> cases hr : r i <;> simp only [if_true, if_false, Bool.false_eq_true, List.length_cons] <;> first | omega | (rw [hp, hq, hr] at hpi; simp at hpi)
theorem apN_tri {xs ys zs : List Int} (l : xs.length = ys.length) (l2 : xs.length = zs.length) : (apN xs ys).length ≤ (apN xs zs).length + (apN zs ys).length := by
  unfold apN
  rw [← l2]
  refine filter_sub (fun i h => ?_) _
  unfold apP at *
  by_cases e : xs[i]? = zs[i]?
  · right
    rw [← e]; exact h
  · left
    exact decide_eq_true e
theorem apN_mem {xs ys : List Int} {k : Nat} : k ∈ apN xs ys ↔ k < xs.length ∧ xs[k]? ≠ ys[k]? := by
  unfold apN apP
  rw [List.mem_filter, List.mem_range, decide_eq_true_eq]
theorem filter_drop {p q : Nat → Bool} {k : Nat} (h : ∀ i, i ≠ k → q i = p i) (hk : q k = false) : ∀ l : List Nat, l.Nodup → k ∈ l → (l.filter q).length + (if p k = true then 1 else 0) = (l.filter p).length := by
  intro l nd m
  have out : ∀ l : List Nat, k ∉ l → l.filter q = l.filter p := fun l hl => List.filter_congr fun i hi => h i fun e => hl (e ▸ hi)
  induction l with
  | nil => cases m
  | cons i l ih =>
    rw [List.nodup_cons] at nd
    by_cases e : i = k
    · subst e
      rw [List.filter_cons, List.filter_cons, hk, out l nd.1]
      cases p i <;> simp
    · rcases List.mem_cons.mp m with z | z
      · exact absurd z.symm e
      · have := ih nd.2 z
        rw [List.filter_cons, List.filter_cons, h i e]
        cases p i
        · simpa using this
        · simp only [if_true, List.length_cons]; omega
theorem apN_set {xs ys : List Int} {k : Nat} {y : Int} (hk : k < xs.length) (hy : ys[k]? = some y) : (apN (xs.set k y) ys).length + (if k ∈ apN xs ys then 1 else 0) = (apN xs ys).length := by
  have e : (if k ∈ apN xs ys then 1 else 0) = (if apP xs ys k = true then 1 else 0) := by
    have : k ∈ apN xs ys ↔ apP xs ys k = true := by
      rw [apN_mem]
      unfold apP
      rw [decide_eq_true_eq]
      exact ⟨fun h => h.2, fun h => ⟨hk, h⟩⟩
    by_cases z : apP xs ys k = true
    · rw [if_pos z, if_pos (this.mpr z)]
    · rw [if_neg z, if_neg (fun w => z (this.mp w))]
  rw [e]
  unfold apN
  rw [List.length_set]
  refine filter_drop (fun i hi => ?_) ?_ _ List.nodup_range (List.mem_range.mpr hk)
  · unfold apP
    rw [List.getElem?_set_ne (Ne.symm hi)]
  · unfold apP
    rw [List.getElem?_set_self hk, hy]
    simp
theorem set_eq {xs : List Int} {k : Nat} {y : Int} (hk : k < xs.length) : xs.set k y = xs ↔ xs[k]? = some y := by
  constructor
  · intro h
    have := List.getElem?_set_self (a := y) hk
    rw [h] at this
    exact this
  · intro h
    apply List.ext_getElem?
    intro i
    by_cases e : k = i
    · subst e
      rw [List.getElem?_set_self hk, h]
    · rw [List.getElem?_set_ne e]
end PL

namespace PL
open PySem L2
/-- check_key -/
def S33 : List S := [.cond (.not (.call 5 [(.var 0), (.var 1)])) [.raise "BadKey"] []]
/-- check_both -/
def S34 : List S := [.cond (.not (.call 5 [(.var 0), (.var 1)])) [.raise "BadOne"] [], .cond (.not (.call 5 [(.var 0), (.var 2)])) [.raise "BadOther"] []]
/-- place_of -/
def S35 : List S := [.ex (.call 4 [(.var 0)]), .ex (.call 33 [(.var 0), (.var 1)]), .set 2 (.const (.int 0)), .loop (.nm 3) (.val (.var 1)) [.set 2 (.bin .add (.bin .mul (.var 2) (.ix (.var 0) (.const (.int 1)))) (.var 3))], .ret (.var 2)]
/-- key_at -/
def S36 : List S := [.ex (.call 4 [(.var 0)]), .cond (.not (.call 1 [(.var 1), (.const (.int 0)), (.bin .sub (.call 6 [(.var 0)]) (.const (.int 1)))])) [.raise "BadPlace"] [], .two true false 2 3 (.lst []) (.var 1), .loop (.nm 4) (.rng1 (.ix (.var 0) (.const (.int 0)))) [.app 2 (.bin .mod (.var 3) (.ix (.var 0) (.const (.int 1)))), .set 3 (.bin .fdiv (.var 3) (.ix (.var 0) (.const (.int 1))))], .frz 2, .ret (.bf .tuple [(.rev (.var 2))])]
/-- differences_told -/
def S37 : List S := [.ret (.comp [2, 3] (.tp [(.nm 2), (.nm 3)]) (.enum (.var 0)) (.cmp .ne (.var 3) (.ix (.var 1) (.var 2))) (.var 2))]
/-- differences -/
def S38 : List S := [.ex (.call 4 [(.var 0)]), .ex (.call 34 [(.var 0), (.var 1), (.var 2)]), .ret (.bf .tuple [(.call 37 [(.var 1), (.var 2)])])]
/-- with_cut -/
def S39 : List S := [.ret (.bin .add (.bin .add (.slT (.var 0) (.var 1)) (.tup [(.var 2)])) (.slF (.var 0) (.bin .add (.var 1) (.const (.int 1)))))]
/-- exchanged -/
def S40 : List S := [.ex (.call 4 [(.var 0)]), .ex (.call 34 [(.var 0), (.var 1), (.var 2)]), .cond (.not (.call 1 [(.var 3), (.const (.int 0)), (.bin .sub (.ix (.var 0) (.const (.int 0))) (.const (.int 1)))])) [.raise "BadChamber"] [], .ret (.call 39 [(.var 1), (.var 3), (.ix (.var 2) (.var 3))])]
/-- _law_apart -/
def S41 : List S := [.ret (.comp [2] (.nm 2) (.rng1 (.bf .len [(.var 0)])) (.cmp .ne (.ix (.var 0) (.var 2)) (.ix (.var 1) (.var 2))) (.var 2))]
/-- _law_place -/
def S42 : List S := [.ret (.bf .sum [(.comp [2] (.nm 2) (.rng1 (.ix (.var 0) (.const (.int 0)))) (.const (.bl true)) (.bin .mul (.ix (.var 1) (.var 2)) (.call 20 [(.ix (.var 0) (.const (.int 1))), (.bin .sub (.bin .sub (.ix (.var 0) (.const (.int 0))) (.const (.int 1))) (.var 2))])))])]
/-- _law_are_places -/
def S43 : List S := [.set 2 (.call 20 [(.ix (.var 1) (.const (.int 1))), (.ix (.var 1) (.const (.int 0)))]), .set 3 (.call 13 [(.var 0), (.lst [(.const (.int 0)), (.bin .sub (.var 2) (.const (.int 1))), (.bin .fdiv (.var 2) (.const (.int 2))), (.bin .mod (.bf .int [(.call 12 [(.var 0), (.bin .pow (.const (.int 10)) (.const (.int 10)))])]) (.var 2))])]), .set 4 (.call 36 [(.var 1), (.var 3)]), .cond (.or (.not (.call 19 [(.var 1), (.var 4)])) (.cmp .ne (.call 42 [(.var 1), (.var 4)]) (.var 3))) [.ret (.const (.bl false))] [], .cond (.not (.call 14 [(.lst [(.call 35 [(.var 1), (.var 4)]), (.callk 35 [] [(.var 4), (.var 1)] [1, 0]), (.callk 36 [] [(.var 3), (.var 1)] [1, 0])]), (.lst [(.var 3), (.var 3), (.var 4)])])) [.ret (.const (.bl false))] [], .cond (.and (.cmp .lt (.bin .add (.var 3) (.const (.int 1))) (.var 2)) (.not (.cmp .gt (.call 36 [(.var 1), (.bin .add (.var 3) (.const (.int 1)))]) (.var 4)))) [.ret (.const (.bl false))] [], .set 5 (.call 22 [(.var 0), (.var 1)]), .ret (.call 14 [(.lst [(.call 35 [(.var 1), (.var 5)]), (.call 36 [(.var 1), (.call 42 [(.var 1), (.var 5)])])]), (.lst [(.call 42 [(.var 1), (.var 5)]), (.var 5)])])]
/-- _law_are_far -/
def S44 : List S := [.asg (.tp [(.nm 2), (.nm 3), (.nm 4)]) (.comp [8] (.nm 8) (.rng1 (.const (.int 3))) (.const (.bl true)) (.call 22 [(.var 0), (.var 1)])), .cond (.cmp .eq (.call 12 [(.var 0), (.const (.int 3))]) (.const (.int 0))) [.set 5 (.call 12 [(.var 0), (.ix (.var 1) (.const (.int 0)))]), .set 3 (.bin .add (.slT (.var 2) (.var 5)) (.slF (.var 3) (.var 5)))] [], .set 6 (.call 38 [(.var 1), (.var 2), (.var 3)]), .cond (.not (.call 14 [(.lst [(.var 6), (.callk 38 [] [(.var 3), (.var 2), (.var 1)] [2, 1, 0])]), (.bin .mul (.lst [(.bf .tuple [(.call 41 [(.var 2), (.var 3)])])]) (.const (.int 2)))])) [.ret (.const (.bl false))] [], .cond (.not (.call 14 [(.lst [(.call 38 [(.var 1), (.var 3), (.var 2)]), (.call 38 [(.var 1), (.var 2), (.var 2)])]), (.lst [(.var 6), (.tup [])])])) [.ret (.const (.bl false))] [], .cond (.cmp .gt (.bf .len [(.var 6)]) (.bin .add (.bf .len [(.call 38 [(.var 1), (.var 2), (.var 4)])]) (.bf .len [(.call 38 [(.var 1), (.var 4), (.var 3)])]))) [.ret (.const (.bl false))] [], .loop (.nm 5) (.rng1 (.ix (.var 1) (.const (.int 0)))) [.set 7 (.call 40 [(.var 1), (.var 2), (.var 3), (.var 5)]), .cond (.not (.call 14 [(.lst [(.var 7), (.callk 40 [] [(.var 5), (.var 3), (.var 2), (.var 1)] [3, 2, 1, 0])]), (.bin .mul (.lst [(.bin .add (.bin .add (.slT (.var 2) (.var 5)) (.tup [(.ix (.var 3) (.var 5))])) (.slF (.var 2) (.bin .add (.var 5) (.const (.int 1)))))]) (.const (.int 2)))])) [.ret (.const (.bl false))] [], .cond (.or (.cmp .ne (.bf .len [(.call 38 [(.var 1), (.var 7), (.var 3)])]) (.bin .sub (.bf .len [(.var 6)]) (.bf .int [(.cmp .isin (.var 5) (.var 6))]))) (.cmp .ne (.cmp .eq (.var 7) (.var 2)) (.cmp .notin (.var 5) (.var 6)))) [.ret (.const (.bl false))] []], .ret (.const (.bl true))]
/-- law -/
def S45 : List S := [.loop (.nm 2) (.rng1 (.bin .add (.const (.int 4)) (.bf .min [(.bf .len [(.var 0)]), (.const (.int 20))]))) [.set 3 (.call 21 [(.var 1)]), .cond (.or (.not (.call 43 [(.var 1), (.var 3)])) (.not (.call 44 [(.var 1), (.var 3)]))) [.ret (.const (.bl false))] [], .asg (.tp [(.nm 4), (.nm 5), (.nm 6)]) (.tup [(.call 22 [(.var 1), (.var 3)]), (.call 26 [(.var 1)]), (.call 27 [(.var 1), (.var 3)])]), .set 7 (.call 13 [(.var 1), (.lst [(.bin .sub (.const (.int 0)) (.const (.int 1))), (.call 20 [(.ix (.var 3) (.const (.int 1))), (.ix (.var 3) (.const (.int 0)))]), (.const (.non)), (.const (.bl true)), (.const (.str "0")), (.tup [(.const (.int 0))])])]), .set 8 (.call 13 [(.var 1), (.lst [(.bin .sub (.const (.int 0)) (.const (.int 1))), (.ix (.var 3) (.const (.int 0))), (.const (.non)), (.const (.bl true)), (.const (.str "0")), (.tup [(.const (.int 0))])])]), .set 9 (.lamL 29 [(.call 35 [(.var 5), (.var 6)]), (.call 35 [(.var 3), (.var 6)]), (.call 36 [(.var 5), (.var 7)]), (.call 36 [(.var 3), (.var 7)]), (.call 38 [(.var 5), (.var 6), (.var 6)]), (.call 38 [(.var 3), (.var 6), (.var 6)]), (.call 38 [(.var 3), (.var 4), (.var 6)]), (.call 40 [(.var 5), (.var 6), (.var 6), (.var 8)]), (.call 40 [(.var 3), (.var 6), (.var 6), (.var 8)]), (.call 40 [(.var 3), (.var 4), (.var 6), (.var 8)]), (.call 40 [(.var 3), (.var 4), (.var 4), (.var 8)])]), .set 10 (.lst [(.const (.str "BadGrid")), (.const (.str "BadKey")), (.const (.str "BadGrid")), (.const (.str "BadPlace")), (.const (.str "BadGrid")), (.const (.str "BadOne")), (.const (.str "BadOther")), (.const (.str "BadGrid")), (.const (.str "BadOne")), (.const (.str "BadOther")), (.const (.str "BadChamber"))]), .cond (.cmp .ne (.var 9) (.var 10)) [.ret (.const (.bl false))] []], .ret (.const (.bl true))]
end PL

namespace PL
open PySem L2
variable {Φ : Fns}
abbrev KI (ks : List Int) : D := .tup (ks.map D.int)
abbrev GI (n d : Int) : D := .tup [.int n, .int d]
def grOk (n d : Int) : Prop := 1 ≤ n ∧ n ≤ 10 ∧ 2 ≤ d ∧ d ≤ 10
theorem gridB_ok {n d : Int} (h : grOk n d) : gridB (GI n d) = true := by
  unfold grOk at h
  simp only [gridB, inB, Bool.and_eq_true, decide_eq_true_eq]; omega
theorem gi_py (n d : Int) : isPy (GI n d) = true := (lim_tup (n := 0).mpr (all_cons (lim_int _ _) (all_cons (lim_int _ _) all_nil))).1
theorem ki_lim (ks : List Int) : (KI ks).lim 1 := lim_tup.mpr fun x hx => by
  obtain ⟨i, _, rfl⟩ := List.mem_map.mp hx; exact lim_int _ _
theorem keyB_inv {n d : Int} {x : D} (h : keyB n d x = true) : ∃ ks, x = KI ks ∧ KeyI n d ks := by
  unfold keyB at h
  split at h
  · rename_i xs
    rw [Bool.and_eq_true, decide_eq_true_eq, List.all_eq_true] at h
    have key : ∀ xs : List D, (∀ x ∈ xs, inB x 0 (d - 1) = true) → ∃ ks : List Int, xs = ks.map D.int ∧ ∀ k ∈ ks, 0 ≤ k ∧ k < d := by
      intro xs
      induction xs with
      | nil => exact fun _ => ⟨[], rfl, fun _ m => nomatch m⟩
      | cons x xs ih =>
        intro h
        obtain ⟨ks, e, hk⟩ := ih fun y hy => h y (List.mem_cons_of_mem _ hy)
        have hx := h x List.mem_cons_self
        cases x with
        | int i =>
          simp only [inB, Bool.and_eq_true, decide_eq_true_eq] at hx
          refine ⟨i :: ks, by rw [e]; rfl, fun k m => ?_⟩
          rcases List.mem_cons.mp m with rfl | m
          · omega
          · exact hk k m
        | _ => cases hx
    obtain ⟨ks, rfl, hk⟩ := key xs h.2
    exact ⟨ks, rfl, by rw [← h.1, List.length_map], hk⟩
  · cases h
theorem keyB_of {n d : Int} {ks : List Int} (h : KeyI n d ks) : keyB n d (KI ks) = true := by
  show (decide (((ks.map D.int).length : Int) = n) && (ks.map D.int).all fun x => inB x 0 (d - 1)) = true
  rw [List.length_map, decide_eq_true h.1, Bool.true_and, List.all_eq_true]
  intro x hx
  obtain ⟨i, hi, rfl⟩ := List.mem_map.mp hx
  have := h.2 i hi
  simp only [inB, Bool.and_eq_true, decide_eq_true_eq]; omega
/-- a key drawn, by its numbers -/
theorem isKey_ks {n d : Int} {r : D} (h : isKey n d r) : ∃ ks, r = KI ks ∧ KeyI n d ks := by
  obtain ⟨xs, rfl, l, hx⟩ := h
  refine keyB_inv ?_
  show (decide ((xs.length : Int) = n) && xs.all fun x => inB x 0 (d - 1)) = true
  rw [decide_eq_true l, Bool.true_and, List.all_eq_true]
  intro x hx'
  obtain ⟨i, rfl, a, b⟩ := hx x hx'
  simp only [inB, Bool.and_eq_true, decide_eq_true_eq]; omega
/-! ### what is asked: a right one, or an error -/
def orE (b : Bool) (e : Str) (m : M D) : M D := if b = true then m else thr (.exc e .non)
def gridM (g : D) (f : Int → Int → M D) : M D := match g with
  | .tup [.int n, .int d] => orE (gridB g) "BadGrid" (f n d)
  | _ => thr (.exc "BadGrid" .non)
theorem gridM_ok {n d : Int} (h : grOk n d) {f : Int → Int → M D} {c : Nat} {Q E : D → Nat → Prop} (q : f n d c Q E) : gridM (GI n d) f c Q E := by
  show orE (gridB (GI n d)) _ _ c Q E
  rw [gridB_ok h]
  exact q
theorem gridM_bad {g : D} (h : gridB g = false) {f : Int → Int → M D} {c : Nat} {Q E : D → Nat → Prop} (q : E (.exc "BadGrid" .non) c) : gridM g f c Q E := by
  unfold gridM
  split
  · rw [h]; exact q
  · exact q
theorem gridM_inv {g : D} {f : Int → Int → M D} {c : Nat} {Q E : D → Nat → Prop} (q : gridM g f c Q E) : (gridB g = false ∧ E (.exc "BadGrid" .non) c) ∨ ∃ n d, g = GI n d ∧ grOk n d ∧ f n d c Q E := by
  cases z : gridB g with
  | false =>
    unfold gridM at q
    split at q
    · rw [z] at q; exact .inl ⟨rfl, q⟩
    · exact .inl ⟨rfl, q⟩
  | true =>
    obtain ⟨n, d, rfl, a, b, c1, d1⟩ := gridB_inv z
    have q : orE (gridB (GI n d)) _ (f n d) c Q E := q
    rw [z] at q
    exact .inr ⟨n, d, rfl, ⟨a, b, c1, d1⟩, q⟩
def keyM (n d : Int) (e : Str) (x : D) (f : List Int → M D) : M D := match x with
  | .tup xs => orE (keyB n d x) e (bnd (optM (intsD xs)) f)
  | _ => thr (.exc e .non)
theorem intsD_map : ∀ ks : List Int, intsD (ks.map D.int) = some ks
  | [] => rfl
  | k :: ks => by rw [List.map_cons, intsD, intsD_map ks]; rfl
theorem keyM_ok {n d : Int} {e : Str} {ks : List Int} (h : KeyI n d ks) {f : List Int → M D} {c : Nat} {Q E : D → Nat → Prop} (q : f ks c Q E) : keyM n d e (KI ks) f c Q E := by
  show orE (keyB n d (KI ks)) e (bnd (optM (intsD (ks.map D.int))) f) c Q E
  rw [keyB_of h, intsD_map]
  exact q
theorem keyM_bad {n d : Int} {e : Str} {x : D} (h : keyB n d x = false) {f : List Int → M D} {c : Nat} {Q E : D → Nat → Prop} (q : E (.exc e .non) c) : keyM n d e x f c Q E := by
  unfold keyM
  split
  · rw [h]; exact q
  · exact q
theorem keyM_inv {n d : Int} {e : Str} {x : D} {f : List Int → M D} {c : Nat} {Q E : D → Nat → Prop} (q : keyM n d e x f c Q E) : (keyB n d x = false ∧ E (.exc e .non) c) ∨ ∃ ks, x = KI ks ∧ KeyI n d ks ∧ f ks c Q E := by
  cases z : keyB n d x with
  | false =>
    unfold keyM at q
    split at q
    · rw [z] at q; exact .inl ⟨rfl, q⟩
    · exact .inl ⟨rfl, q⟩
  | true =>
    obtain ⟨ks, rfl, h⟩ := keyB_inv z
    have q : orE (keyB n d (KI ks)) e (bnd (optM (intsD (ks.map D.int))) f) c Q E := q
    rw [z, intsD_map] at q
    exact .inr ⟨ks, rfl, h, q⟩
def sp33 : List D → M D
  | [.tup [.int n, .int d], x] => gd (isPy x = true) (keyM n d "BadKey" x fun _ => ret .non)
  | _ => fail
theorem r33 (h5 : Φ 5 = sp5) (ds : List D) : Le (sp33 ds) (run Φ 2 S33 ds) := by
  intro c Q E h
  unfold sp33 at h
  split at h
  · rename_i n d x
    obtain ⟨h1, h⟩ := h
    (try simp -implicitDefEqProofs only [run, semB, ↓semS_loop, ↓sem_comp, semS, seqM_ap, sem, semL, semI, startE, getV_0, getV_s, outD_nx, outD_rt, truth_bl, ite_ap, partI_i, strM_s, isLst_l, isSeq_l, isSeq_t, mkE_o, mkE_v, itD_t, itD_l, itD_s, optM_some, bnd_ap, ret_ap, gd_ap, noE_ap, thr_ap, o_gtT, o_intB, o_sum, o_addI, o_addS, o_addT, o_addL, o_sub, o_mul, o_mulL, o_mulT, o_fdiv, o_mod, o_pow, o_eq, o_ne, o_ltI, o_gt, o_le, o_ge, o_inT, o_inL, o_ninT, o_ninL, o_inR, o_ninR, o_inS, o_ninS, o_isn, o_notn, o_lenS, o_lenT, o_lenL, o_isi, o_isC, o_tupT, o_tupL, o_lstT, o_lstL, o_int, o_abs, o_min, o_max, o_repr, o_rng1, o_rng2, o_ixT, o_ixL, o_ixS, o_slT, o_slL, o_slS, o_neg, o_revT, o_revL, o_join, o_upper, List.map_cons, List.map_nil, List.length_cons, List.length_nil, List.replicate_succ, List.replicate_zero, List.cons_append, List.nil_append, List.set_cons_zero, List.set_cons_succ, Nat.reduceAdd, Nat.reduceSub, Nat.zero_add, ↓reduceIte, Bool.not_true, Bool.not_false, Bool.false_eq_true, Bool.not_eq_true, decide_true, decide_false, Option.map, reduceCtorEq, ret_bnd, S33, h5, sp5])
    refine ⟨h1, ?_⟩
    rcases keyM_inv h with ⟨z, q⟩ | ⟨ks, rfl, hk, q⟩
    · rw [z]; (try simp -implicitDefEqProofs only [run, semB, ↓semS_loop, ↓sem_comp, semS, seqM_ap, sem, semL, semI, startE, getV_0, getV_s, outD_nx, outD_rt, truth_bl, ite_ap, partI_i, strM_s, isLst_l, isSeq_l, isSeq_t, mkE_o, mkE_v, itD_t, itD_l, itD_s, optM_some, bnd_ap, ret_ap, gd_ap, noE_ap, thr_ap, o_gtT, o_intB, o_sum, o_addI, o_addS, o_addT, o_addL, o_sub, o_mul, o_mulL, o_mulT, o_fdiv, o_mod, o_pow, o_eq, o_ne, o_ltI, o_gt, o_le, o_ge, o_inT, o_inL, o_ninT, o_ninL, o_inR, o_ninR, o_inS, o_ninS, o_isn, o_notn, o_lenS, o_lenT, o_lenL, o_isi, o_isC, o_tupT, o_tupL, o_lstT, o_lstL, o_int, o_abs, o_min, o_max, o_repr, o_rng1, o_rng2, o_ixT, o_ixL, o_ixS, o_slT, o_slL, o_slS, o_neg, o_revT, o_revL, o_join, o_upper, List.map_cons, List.map_nil, List.length_cons, List.length_nil, List.replicate_succ, List.replicate_zero, List.cons_append, List.nil_append, List.set_cons_zero, List.set_cons_succ, Nat.reduceAdd, Nat.reduceSub, Nat.zero_add, ↓reduceIte, Bool.not_true, Bool.not_false, Bool.false_eq_true, Bool.not_eq_true, decide_true, decide_false, Option.map, reduceCtorEq, ret_bnd]); exact q
    · rw [keyB_of hk]; (try simp -implicitDefEqProofs only [run, semB, ↓semS_loop, ↓sem_comp, semS, seqM_ap, sem, semL, semI, startE, getV_0, getV_s, outD_nx, outD_rt, truth_bl, ite_ap, partI_i, strM_s, isLst_l, isSeq_l, isSeq_t, mkE_o, mkE_v, itD_t, itD_l, itD_s, optM_some, bnd_ap, ret_ap, gd_ap, noE_ap, thr_ap, o_gtT, o_intB, o_sum, o_addI, o_addS, o_addT, o_addL, o_sub, o_mul, o_mulL, o_mulT, o_fdiv, o_mod, o_pow, o_eq, o_ne, o_ltI, o_gt, o_le, o_ge, o_inT, o_inL, o_ninT, o_ninL, o_inR, o_ninR, o_inS, o_ninS, o_isn, o_notn, o_lenS, o_lenT, o_lenL, o_isi, o_isC, o_tupT, o_tupL, o_lstT, o_lstL, o_int, o_abs, o_min, o_max, o_repr, o_rng1, o_rng2, o_ixT, o_ixL, o_ixS, o_slT, o_slL, o_slS, o_neg, o_revT, o_revL, o_join, o_upper, List.map_cons, List.map_nil, List.length_cons, List.length_nil, List.replicate_succ, List.replicate_zero, List.cons_append, List.nil_append, List.set_cons_zero, List.set_cons_succ, Nat.reduceAdd, Nat.reduceSub, Nat.zero_add, ↓reduceIte, Bool.not_true, Bool.not_false, Bool.false_eq_true, Bool.not_eq_true, decide_true, decide_false, Option.map, reduceCtorEq, ret_bnd]); exact q
  · exact h.elim
def sp34 : List D → M D
  | [.tup [.int n, .int d], x, y] => gd (isPy x = true ∧ isPy y = true) (keyM n d "BadOne" x fun _ => keyM n d "BadOther" y fun _ => ret .non)
  | _ => fail
theorem r34 (h5 : Φ 5 = sp5) (ds : List D) : Le (sp34 ds) (run Φ 3 S34 ds) := by
  intro c Q E h
  unfold sp34 at h
  split at h
  · rename_i n d x y
    obtain ⟨⟨h1, h2⟩, h⟩ := h
    (try simp -implicitDefEqProofs only [run, semB, ↓semS_loop, ↓sem_comp, semS, seqM_ap, sem, semL, semI, startE, getV_0, getV_s, outD_nx, outD_rt, truth_bl, ite_ap, partI_i, strM_s, isLst_l, isSeq_l, isSeq_t, mkE_o, mkE_v, itD_t, itD_l, itD_s, optM_some, bnd_ap, ret_ap, gd_ap, noE_ap, thr_ap, o_gtT, o_intB, o_sum, o_addI, o_addS, o_addT, o_addL, o_sub, o_mul, o_mulL, o_mulT, o_fdiv, o_mod, o_pow, o_eq, o_ne, o_ltI, o_gt, o_le, o_ge, o_inT, o_inL, o_ninT, o_ninL, o_inR, o_ninR, o_inS, o_ninS, o_isn, o_notn, o_lenS, o_lenT, o_lenL, o_isi, o_isC, o_tupT, o_tupL, o_lstT, o_lstL, o_int, o_abs, o_min, o_max, o_repr, o_rng1, o_rng2, o_ixT, o_ixL, o_ixS, o_slT, o_slL, o_slS, o_neg, o_revT, o_revL, o_join, o_upper, List.map_cons, List.map_nil, List.length_cons, List.length_nil, List.replicate_succ, List.replicate_zero, List.cons_append, List.nil_append, List.set_cons_zero, List.set_cons_succ, Nat.reduceAdd, Nat.reduceSub, Nat.zero_add, ↓reduceIte, Bool.not_true, Bool.not_false, Bool.false_eq_true, Bool.not_eq_true, decide_true, decide_false, Option.map, reduceCtorEq, ret_bnd, S34, h5, sp5])
    refine ⟨h1, ?_⟩
    rcases keyM_inv h with ⟨z, q⟩ | ⟨ks, rfl, hk, q⟩
    · rw [z]; (try simp -implicitDefEqProofs only [run, semB, ↓semS_loop, ↓sem_comp, semS, seqM_ap, sem, semL, semI, startE, getV_0, getV_s, outD_nx, outD_rt, truth_bl, ite_ap, partI_i, strM_s, isLst_l, isSeq_l, isSeq_t, mkE_o, mkE_v, itD_t, itD_l, itD_s, optM_some, bnd_ap, ret_ap, gd_ap, noE_ap, thr_ap, o_gtT, o_intB, o_sum, o_addI, o_addS, o_addT, o_addL, o_sub, o_mul, o_mulL, o_mulT, o_fdiv, o_mod, o_pow, o_eq, o_ne, o_ltI, o_gt, o_le, o_ge, o_inT, o_inL, o_ninT, o_ninL, o_inR, o_ninR, o_inS, o_ninS, o_isn, o_notn, o_lenS, o_lenT, o_lenL, o_isi, o_isC, o_tupT, o_tupL, o_lstT, o_lstL, o_int, o_abs, o_min, o_max, o_repr, o_rng1, o_rng2, o_ixT, o_ixL, o_ixS, o_slT, o_slL, o_slS, o_neg, o_revT, o_revL, o_join, o_upper, List.map_cons, List.map_nil, List.length_cons, List.length_nil, List.replicate_succ, List.replicate_zero, List.cons_append, List.nil_append, List.set_cons_zero, List.set_cons_succ, Nat.reduceAdd, Nat.reduceSub, Nat.zero_add, ↓reduceIte, Bool.not_true, Bool.not_false, Bool.false_eq_true, Bool.not_eq_true, decide_true, decide_false, Option.map, reduceCtorEq, ret_bnd]); exact q
    · rw [keyB_of hk]
      (try simp -implicitDefEqProofs only [run, semB, ↓semS_loop, ↓sem_comp, semS, seqM_ap, sem, semL, semI, startE, getV_0, getV_s, outD_nx, outD_rt, truth_bl, ite_ap, partI_i, strM_s, isLst_l, isSeq_l, isSeq_t, mkE_o, mkE_v, itD_t, itD_l, itD_s, optM_some, bnd_ap, ret_ap, gd_ap, noE_ap, thr_ap, o_gtT, o_intB, o_sum, o_addI, o_addS, o_addT, o_addL, o_sub, o_mul, o_mulL, o_mulT, o_fdiv, o_mod, o_pow, o_eq, o_ne, o_ltI, o_gt, o_le, o_ge, o_inT, o_inL, o_ninT, o_ninL, o_inR, o_ninR, o_inS, o_ninS, o_isn, o_notn, o_lenS, o_lenT, o_lenL, o_isi, o_isC, o_tupT, o_tupL, o_lstT, o_lstL, o_int, o_abs, o_min, o_max, o_repr, o_rng1, o_rng2, o_ixT, o_ixL, o_ixS, o_slT, o_slL, o_slS, o_neg, o_revT, o_revL, o_join, o_upper, List.map_cons, List.map_nil, List.length_cons, List.length_nil, List.replicate_succ, List.replicate_zero, List.cons_append, List.nil_append, List.set_cons_zero, List.set_cons_succ, Nat.reduceAdd, Nat.reduceSub, Nat.zero_add, ↓reduceIte, Bool.not_true, Bool.not_false, Bool.false_eq_true, Bool.not_eq_true, decide_true, decide_false, Option.map, reduceCtorEq, ret_bnd])
      refine ⟨h2, ?_⟩
      rcases keyM_inv q with ⟨z, q⟩ | ⟨ms, rfl, hm, q⟩
      · rw [z]; (try simp -implicitDefEqProofs only [run, semB, ↓semS_loop, ↓sem_comp, semS, seqM_ap, sem, semL, semI, startE, getV_0, getV_s, outD_nx, outD_rt, truth_bl, ite_ap, partI_i, strM_s, isLst_l, isSeq_l, isSeq_t, mkE_o, mkE_v, itD_t, itD_l, itD_s, optM_some, bnd_ap, ret_ap, gd_ap, noE_ap, thr_ap, o_gtT, o_intB, o_sum, o_addI, o_addS, o_addT, o_addL, o_sub, o_mul, o_mulL, o_mulT, o_fdiv, o_mod, o_pow, o_eq, o_ne, o_ltI, o_gt, o_le, o_ge, o_inT, o_inL, o_ninT, o_ninL, o_inR, o_ninR, o_inS, o_ninS, o_isn, o_notn, o_lenS, o_lenT, o_lenL, o_isi, o_isC, o_tupT, o_tupL, o_lstT, o_lstL, o_int, o_abs, o_min, o_max, o_repr, o_rng1, o_rng2, o_ixT, o_ixL, o_ixS, o_slT, o_slL, o_slS, o_neg, o_revT, o_revL, o_join, o_upper, List.map_cons, List.map_nil, List.length_cons, List.length_nil, List.replicate_succ, List.replicate_zero, List.cons_append, List.nil_append, List.set_cons_zero, List.set_cons_succ, Nat.reduceAdd, Nat.reduceSub, Nat.zero_add, ↓reduceIte, Bool.not_true, Bool.not_false, Bool.false_eq_true, Bool.not_eq_true, decide_true, decide_false, Option.map, reduceCtorEq, ret_bnd]); exact q
      · rw [keyB_of hm]; (try simp -implicitDefEqProofs only [run, semB, ↓semS_loop, ↓sem_comp, semS, seqM_ap, sem, semL, semI, startE, getV_0, getV_s, outD_nx, outD_rt, truth_bl, ite_ap, partI_i, strM_s, isLst_l, isSeq_l, isSeq_t, mkE_o, mkE_v, itD_t, itD_l, itD_s, optM_some, bnd_ap, ret_ap, gd_ap, noE_ap, thr_ap, o_gtT, o_intB, o_sum, o_addI, o_addS, o_addT, o_addL, o_sub, o_mul, o_mulL, o_mulT, o_fdiv, o_mod, o_pow, o_eq, o_ne, o_ltI, o_gt, o_le, o_ge, o_inT, o_inL, o_ninT, o_ninL, o_inR, o_ninR, o_inS, o_ninS, o_isn, o_notn, o_lenS, o_lenT, o_lenL, o_isi, o_isC, o_tupT, o_tupL, o_lstT, o_lstL, o_int, o_abs, o_min, o_max, o_repr, o_rng1, o_rng2, o_ixT, o_ixL, o_ixS, o_slT, o_slL, o_slS, o_neg, o_revT, o_revL, o_join, o_upper, List.map_cons, List.map_nil, List.length_cons, List.length_nil, List.replicate_succ, List.replicate_zero, List.cons_append, List.nil_append, List.set_cons_zero, List.set_cons_succ, Nat.reduceAdd, Nat.reduceSub, Nat.zero_add, ↓reduceIte, Bool.not_true, Bool.not_false, Bool.false_eq_true, Bool.not_eq_true, decide_true, decide_false, Option.map, reduceCtorEq, ret_bnd]); exact q
  · exact h.elim
theorem sp4_ok {n d : Int} (h : grOk n d) {c : Nat} {Q E : D → Nat → Prop} (q : Q .non c) : sp4 [GI n d] c Q E := by
  refine ⟨gi_py n d, ?_⟩
  rw [gridB_ok h]
  exact q
theorem sp4_bad {g : D} (h : gridB g = false) (p : isPy g = true) {c : Nat} {Q E : D → Nat → Prop} (q : E (.exc "BadGrid" .non) c) : sp4 [g] c Q E := by
  refine ⟨p, ?_⟩
  rw [h]
  exact q
def sp35 : List D → M D
  | [g, x] => gd (isPy g = true ∧ isPy x = true) (gridM g fun n d => keyM n d "BadKey" x fun ks => ret (.int (placeI d ks)))
  | _ => fail
theorem r35 (h4 : Φ 4 = sp4) (h33 : Φ 33 = sp33) (ds : List D) : Le (sp35 ds) (run Φ 4 S35 ds) := by
  intro c Q E h
  unfold sp35 at h
  split at h
  · rename_i g x
    obtain ⟨⟨h1, h2⟩, h⟩ := h
    (try simp -implicitDefEqProofs only [run, semB, ↓semS_loop, ↓sem_comp, semS, seqM_ap, sem, semL, semI, startE, getV_0, getV_s, outD_nx, outD_rt, truth_bl, ite_ap, partI_i, strM_s, isLst_l, isSeq_l, isSeq_t, mkE_o, mkE_v, itD_t, itD_l, itD_s, optM_some, bnd_ap, ret_ap, gd_ap, noE_ap, thr_ap, o_gtT, o_intB, o_sum, o_addI, o_addS, o_addT, o_addL, o_sub, o_mul, o_mulL, o_mulT, o_fdiv, o_mod, o_pow, o_eq, o_ne, o_ltI, o_gt, o_le, o_ge, o_inT, o_inL, o_ninT, o_ninL, o_inR, o_ninR, o_inS, o_ninS, o_isn, o_notn, o_lenS, o_lenT, o_lenL, o_isi, o_isC, o_tupT, o_tupL, o_lstT, o_lstL, o_int, o_abs, o_min, o_max, o_repr, o_rng1, o_rng2, o_ixT, o_ixL, o_ixS, o_slT, o_slL, o_slS, o_neg, o_revT, o_revL, o_join, o_upper, List.map_cons, List.map_nil, List.length_cons, List.length_nil, List.replicate_succ, List.replicate_zero, List.cons_append, List.nil_append, List.set_cons_zero, List.set_cons_succ, Nat.reduceAdd, Nat.reduceSub, Nat.zero_add, ↓reduceIte, Bool.not_true, Bool.not_false, Bool.false_eq_true, Bool.not_eq_true, decide_true, decide_false, Option.map, reduceCtorEq, ret_bnd, S35, h4, h33])
    rcases gridM_inv h with ⟨z, q⟩ | ⟨n, d, rfl, hg, q⟩
    · exact sp4_bad z h1 q
    · refine sp4_ok hg ⟨h2, ?_⟩
      rcases keyM_inv q with ⟨z, q⟩ | ⟨ks, rfl, hk, q⟩
      · exact keyM_bad z q
      · refine keyM_ok hk ?_
        (try simp -implicitDefEqProofs only [run, semB, ↓semS_loop, ↓sem_comp, semS, seqM_ap, sem, semL, semI, startE, getV_0, getV_s, outD_nx, outD_rt, truth_bl, ite_ap, partI_i, strM_s, isLst_l, isSeq_l, isSeq_t, mkE_o, mkE_v, itD_t, itD_l, itD_s, optM_some, bnd_ap, ret_ap, gd_ap, noE_ap, thr_ap, o_gtT, o_intB, o_sum, o_addI, o_addS, o_addT, o_addL, o_sub, o_mul, o_mulL, o_mulT, o_fdiv, o_mod, o_pow, o_eq, o_ne, o_ltI, o_gt, o_le, o_ge, o_inT, o_inL, o_ninT, o_ninL, o_inR, o_ninR, o_inS, o_ninS, o_isn, o_notn, o_lenS, o_lenT, o_lenL, o_isi, o_isC, o_tupT, o_tupL, o_lstT, o_lstL, o_int, o_abs, o_min, o_max, o_repr, o_rng1, o_rng2, o_ixT, o_ixL, o_ixS, o_slT, o_slL, o_slS, o_neg, o_revT, o_revL, o_join, o_upper, List.map_cons, List.map_nil, List.length_cons, List.length_nil, List.replicate_succ, List.replicate_zero, List.cons_append, List.nil_append, List.set_cons_zero, List.set_cons_succ, Nat.reduceAdd, Nat.reduceSub, Nat.zero_add, ↓reduceIte, Bool.not_true, Bool.not_false, Bool.false_eq_true, Bool.not_eq_true, decide_true, decide_false, Option.map, reduceCtorEq, ret_bnd])
        refine loopB_ind (fun ds ρ c => ∃ (rest : List Int) (p : Int) (e : En), ds = rest.map D.int ∧ ρ = [.val (GI n d), .val (KI ks), .val (.int p), e] ∧ Q (.int (rest.foldl (fun p k => p * d + k) p)) c) ⟨ks, 0, _, rfl, rfl, q⟩ ?_ ?_
        · rintro x ds ρ c ⟨rest, p, e, e1, rfl, q⟩ K kn _ _ _
          cases rest with
          | nil => cases e1
          | cons k rest =>
            cases e1
            have cm : CMulW p d ∨ CMul p d := .inr (.inr ⟨by unfold grOk at hg; omega, by unfold grOk at hg; omega⟩)
            (try simp -implicitDefEqProofs only [run, semB, ↓semS_loop, ↓sem_comp, semS, seqM_ap, sem, semL, semI, startE, getV_0, getV_s, outD_nx, outD_rt, truth_bl, ite_ap, partI_i, strM_s, isLst_l, isSeq_l, isSeq_t, mkE_o, mkE_v, itD_t, itD_l, itD_s, optM_some, bnd_ap, ret_ap, gd_ap, noE_ap, thr_ap, o_gtT, o_intB, o_sum, o_addI, o_addS, o_addT, o_addL, o_sub, o_mul, o_mulL, o_mulT, o_fdiv, o_mod, o_pow, o_eq, o_ne, o_ltI, o_gt, o_le, o_ge, o_inT, o_inL, o_ninT, o_ninL, o_inR, o_ninR, o_inS, o_ninS, o_isn, o_notn, o_lenS, o_lenT, o_lenL, o_isi, o_isC, o_tupT, o_tupL, o_lstT, o_lstL, o_int, o_abs, o_min, o_max, o_repr, o_rng1, o_rng2, o_ixT, o_ixL, o_ixS, o_slT, o_slL, o_slS, o_neg, o_revT, o_revL, o_join, o_upper, List.map_cons, List.map_nil, List.length_cons, List.length_nil, List.replicate_succ, List.replicate_zero, List.cons_append, List.nil_append, List.set_cons_zero, List.set_cons_succ, Nat.reduceAdd, Nat.reduceSub, Nat.zero_add, ↓reduceIte, Bool.not_true, Bool.not_false, Bool.false_eq_true, Bool.not_eq_true, decide_true, decide_false, Option.map, reduceCtorEq, ret_bnd, asgE, ix1])
            exact ⟨cm, kn _ _ ⟨rest, _, _, rfl, rfl, q⟩⟩
        · rintro ρ c ⟨rest, p, e, e1, rfl, q⟩
          cases rest with
          | nil => (try simp -implicitDefEqProofs only [run, semB, ↓semS_loop, ↓sem_comp, semS, seqM_ap, sem, semL, semI, startE, getV_0, getV_s, outD_nx, outD_rt, truth_bl, ite_ap, partI_i, strM_s, isLst_l, isSeq_l, isSeq_t, mkE_o, mkE_v, itD_t, itD_l, itD_s, optM_some, bnd_ap, ret_ap, gd_ap, noE_ap, thr_ap, o_gtT, o_intB, o_sum, o_addI, o_addS, o_addT, o_addL, o_sub, o_mul, o_mulL, o_mulT, o_fdiv, o_mod, o_pow, o_eq, o_ne, o_ltI, o_gt, o_le, o_ge, o_inT, o_inL, o_ninT, o_ninL, o_inR, o_ninR, o_inS, o_ninS, o_isn, o_notn, o_lenS, o_lenT, o_lenL, o_isi, o_isC, o_tupT, o_tupL, o_lstT, o_lstL, o_int, o_abs, o_min, o_max, o_repr, o_rng1, o_rng2, o_ixT, o_ixL, o_ixS, o_slT, o_slL, o_slS, o_neg, o_revT, o_revL, o_join, o_upper, List.map_cons, List.map_nil, List.length_cons, List.length_nil, List.replicate_succ, List.replicate_zero, List.cons_append, List.nil_append, List.set_cons_zero, List.set_cons_succ, Nat.reduceAdd, Nat.reduceSub, Nat.zero_add, ↓reduceIte, Bool.not_true, Bool.not_false, Bool.false_eq_true, Bool.not_eq_true, decide_true, decide_false, Option.map, reduceCtorEq, ret_bnd]); exact q
          | cons k rest => cases e1
  · exact h.elim
end PL

namespace PL
open PySem L2
variable {Φ : Fns}
theorem atI_nat {α : Type} {xs : List α} {i : Nat} (h : i < xs.length) : atI xs (i : Int) = xs[i]? := by
  unfold atI ixN
  rw [if_pos (by omega), if_pos (by omega)]
  simp
theorem if_pass {b : Bool} {x y : Option D} {K : Option D → Nat → Prop} {c : Nat} (k : K (if b = true then x else y) c) : if b = true then K x c else K y c := by
  cases b <;> exact k
theorem atI_ints {ks : List Int} {i : Nat} (h : i < ks.length) : atI (ks.map D.int) (i : Int) = some (.int ks[i]) := by
  rw [atI_nat (by rw [List.length_map]; exact h), List.getElem?_map, List.getElem?_eq_getElem h]
  rfl
theorem cut_take {α : Type} (xs : List α) (k : Nat) : cutD xs none (some (k : Int)) = xs.take k := by
  unfold cutD
  rw [show HT.sIx xs.length 0 none = 0 from rfl, HT.sIx_nat, List.drop_zero, Nat.sub_zero]
  by_cases h : k ≤ xs.length
  · rw [Nat.min_eq_left h]
  · rw [Nat.min_eq_right (by omega), List.take_length, List.take_of_length_le (by omega)]
theorem cut_drop {α : Type} (xs : List α) (k : Nat) : cutD xs (some (k : Int)) none = xs.drop k := by
  unfold cutD
  rw [show HT.sIx xs.length xs.length none = xs.length from rfl, HT.sIx_nat]
  by_cases h : k ≤ xs.length
  · rw [Nat.min_eq_left h, List.take_of_length_le (by rw [List.length_drop]; omega)]
  · rw [Nat.min_eq_right (by omega), Nat.sub_self, List.take_zero, List.drop_of_length_le (by omega)]
theorem filterMap_cond {p : Nat → Bool} {g : Nat → Option D} : ∀ {l : List Nat}, (∀ i ∈ l, g i = if p i = true then some (D.int i) else none) → l.filterMap g = (l.filter p).map fun (i : Nat) => D.int i
  | [], _ => rfl
  | i :: l, h => by
    have e := h i List.mem_cons_self
    have ih := filterMap_cond fun j hj => h j (List.mem_cons_of_mem _ hj)
    rw [List.filter_cons]
    cases q : p i with
    | true =>
      rw [q, if_pos rfl] at e
      rw [List.filterMap_cons_some e, ih]; rfl
    | false =>
      rw [q, if_neg (by decide)] at e
      rw [List.filterMap_cons_none e, ih]; rfl
theorem rngL_range (n : Nat) : rngL 0 (n : Int) = (List.range n).map fun (i : Nat) => D.int i := by
  unfold rngL
  have e : ((n : Int) - 0).toNat = n := by omega
  rw [e]
  refine List.map_congr_left fun i _ => ?_
  rw [Int.zero_add]
theorem enumL_range (xs : List Int) : enumL 0 (xs.map D.int) = (List.range xs.length).map fun (i : Nat) => D.tup [.int i, .int (xs.getD i 0)] := by
  apply List.ext_getElem?
  intro i
  rw [enumL_get, List.getElem?_map, List.getElem?_map]
  by_cases h : i < xs.length
  · rw [List.getElem?_eq_getElem h, List.getElem?_range h]
    simp [List.getD_eq_getElem?_getD, List.getElem?_eq_getElem h]
  · rw [List.getElem?_eq_none (by omega), List.getElem?_eq_none (by rw [List.length_range]; omega)]
    rfl
theorem apI_D (ks ms : List Int) : (apI ks ms).map D.int = (apN ks ms).map fun (i : Nat) => D.int i := by
  unfold apI
  rw [List.map_map]; rfl
def sp37 : List D → M D
  | [x, y] => fun c Q _ => ∃ ks ms : List Int, x = KI ks ∧ y = KI ms ∧ ks.length = ms.length ∧ ks.length ≤ 1000 ∧ Q (.lst ((apI ks ms).map D.int)) c
  | _ => fail
theorem int_ok (i : Int) : eqOk (.int i) := ⟨rfl, by simp [D.depth]⟩
theorem r37 (ds : List D) : Le (sp37 ds) (run Φ 4 S37 ds) := by
  intro c Q E h
  unfold sp37 at h
  split at h
  · obtain ⟨ks, ms, rfl, rfl, l, l2, q⟩ := h
    (try simp -implicitDefEqProofs only [run, semB, ↓semS_loop, ↓sem_comp, semS, seqM_ap, sem, semL, semI, startE, getV_0, getV_s, outD_nx, outD_rt, truth_bl, ite_ap, partI_i, strM_s, isLst_l, isSeq_l, isSeq_t, mkE_o, mkE_v, itD_t, itD_l, itD_s, optM_some, bnd_ap, ret_ap, gd_ap, noE_ap, thr_ap, o_gtT, o_intB, o_sum, o_addI, o_addS, o_addT, o_addL, o_sub, o_mul, o_mulL, o_mulT, o_fdiv, o_mod, o_pow, o_eq, o_ne, o_ltI, o_gt, o_le, o_ge, o_inT, o_inL, o_ninT, o_ninL, o_inR, o_ninR, o_inS, o_ninS, o_isn, o_notn, o_lenS, o_lenT, o_lenL, o_isi, o_isC, o_tupT, o_tupL, o_lstT, o_lstL, o_int, o_abs, o_min, o_max, o_repr, o_rng1, o_rng2, o_ixT, o_ixL, o_ixS, o_slT, o_slL, o_slS, o_neg, o_revT, o_revL, o_join, o_upper, List.map_cons, List.map_nil, List.length_cons, List.length_nil, List.replicate_succ, List.replicate_zero, List.cons_append, List.nil_append, List.set_cons_zero, List.set_cons_succ, Nat.reduceAdd, Nat.reduceSub, Nat.zero_add, ↓reduceIte, Bool.not_true, Bool.not_false, Bool.false_eq_true, Bool.not_eq_true, decide_true, decide_false, Option.map, reduceCtorEq, ret_bnd, S37])
    refine compB_pure (fun d => match d with | .tup [.int i, .int x] => if apP ks ms i.toNat = true then some (.int i) else none | _ => none) (fun d hd c K k => ?_) ?_
    · rw [enumL_range] at hd
      obtain ⟨i, hi, rfl⟩ := List.mem_map.mp hd
      have hi := List.mem_range.mp hi
      have a1 := atI_ints (ks := ms) (i := i) (by omega)
      (try simp -implicitDefEqProofs only [run, semB, ↓semS_loop, ↓sem_comp, semS, seqM_ap, sem, semL, semI, startE, getV_0, getV_s, outD_nx, outD_rt, truth_bl, ite_ap, partI_i, strM_s, isLst_l, isSeq_l, isSeq_t, mkE_o, mkE_v, itD_t, itD_l, itD_s, optM_some, bnd_ap, ret_ap, gd_ap, noE_ap, thr_ap, o_gtT, o_intB, o_sum, o_addI, o_addS, o_addT, o_addL, o_sub, o_mul, o_mulL, o_mulT, o_fdiv, o_mod, o_pow, o_eq, o_ne, o_ltI, o_gt, o_le, o_ge, o_inT, o_inL, o_ninT, o_ninL, o_inR, o_ninR, o_inS, o_ninS, o_isn, o_notn, o_lenS, o_lenT, o_lenL, o_isi, o_isC, o_tupT, o_tupL, o_lstT, o_lstL, o_int, o_abs, o_min, o_max, o_repr, o_rng1, o_rng2, o_ixT, o_ixL, o_ixS, o_slT, o_slL, o_slS, o_neg, o_revT, o_revL, o_join, o_upper, List.map_cons, List.map_nil, List.length_cons, List.length_nil, List.replicate_succ, List.replicate_zero, List.cons_append, List.nil_append, List.set_cons_zero, List.set_cons_succ, Nat.reduceAdd, Nat.reduceSub, Nat.zero_add, ↓reduceIte, Bool.not_true, Bool.not_false, Bool.false_eq_true, Bool.not_eq_true, decide_true, decide_false, Option.map, reduceCtorEq, ret_bnd, turnB, asgE, asgL, wipeE, a1, D.eqv])
      refine ⟨⟨int_ok _, int_ok _⟩, ?_⟩
      have e : apP ks ms i = !decide (ks.getD i 0 = ms[i]'(by omega)) := by
        unfold apP
        rw [List.getElem?_eq_getElem hi, List.getElem?_eq_getElem (show i < ms.length by omega), List.getD_eq_getElem?_getD, List.getElem?_eq_getElem hi]
        simp
      have k : K (if apP ks ms i = true then some (.int i) else none) c := k
      rw [e] at k
      exact if_pass k
    · (try simp -implicitDefEqProofs only [run, semB, ↓semS_loop, ↓sem_comp, semS, seqM_ap, sem, semL, semI, startE, getV_0, getV_s, outD_nx, outD_rt, truth_bl, ite_ap, partI_i, strM_s, isLst_l, isSeq_l, isSeq_t, mkE_o, mkE_v, itD_t, itD_l, itD_s, optM_some, bnd_ap, ret_ap, gd_ap, noE_ap, thr_ap, o_gtT, o_intB, o_sum, o_addI, o_addS, o_addT, o_addL, o_sub, o_mul, o_mulL, o_mulT, o_fdiv, o_mod, o_pow, o_eq, o_ne, o_ltI, o_gt, o_le, o_ge, o_inT, o_inL, o_ninT, o_ninL, o_inR, o_ninR, o_inS, o_ninS, o_isn, o_notn, o_lenS, o_lenT, o_lenL, o_isi, o_isC, o_tupT, o_tupL, o_lstT, o_lstL, o_int, o_abs, o_min, o_max, o_repr, o_rng1, o_rng2, o_ixT, o_ixL, o_ixS, o_slT, o_slL, o_slS, o_neg, o_revT, o_revL, o_join, o_upper, List.map_cons, List.map_nil, List.length_cons, List.length_nil, List.replicate_succ, List.replicate_zero, List.cons_append, List.nil_append, List.set_cons_zero, List.set_cons_succ, Nat.reduceAdd, Nat.reduceSub, Nat.zero_add, ↓reduceIte, Bool.not_true, Bool.not_false, Bool.false_eq_true, Bool.not_eq_true, decide_true, decide_false, Option.map, reduceCtorEq, ret_bnd])
      rw [enumL_range, List.filterMap_map]
      refine Eq.mpr (congrArg (fun l => Q (D.lst l) _) (filterMap_cond (p := apP ks ms) (fun i _ => rfl))) ?_
      rw [apI_D] at q
      exact q
  · exact h.elim
theorem r41 (ds : List D) : Le (sp37 ds) (run Φ 3 S41 ds) := by
  intro c Q E h
  unfold sp37 at h
  split at h
  · obtain ⟨ks, ms, rfl, rfl, l, l2, q⟩ := h
    (try simp -implicitDefEqProofs only [run, semB, ↓semS_loop, ↓sem_comp, semS, seqM_ap, sem, semL, semI, startE, getV_0, getV_s, outD_nx, outD_rt, truth_bl, ite_ap, partI_i, strM_s, isLst_l, isSeq_l, isSeq_t, mkE_o, mkE_v, itD_t, itD_l, itD_s, optM_some, bnd_ap, ret_ap, gd_ap, noE_ap, thr_ap, o_gtT, o_intB, o_sum, o_addI, o_addS, o_addT, o_addL, o_sub, o_mul, o_mulL, o_mulT, o_fdiv, o_mod, o_pow, o_eq, o_ne, o_ltI, o_gt, o_le, o_ge, o_inT, o_inL, o_ninT, o_ninL, o_inR, o_ninR, o_inS, o_ninS, o_isn, o_notn, o_lenS, o_lenT, o_lenL, o_isi, o_isC, o_tupT, o_tupL, o_lstT, o_lstL, o_int, o_abs, o_min, o_max, o_repr, o_rng1, o_rng2, o_ixT, o_ixL, o_ixS, o_slT, o_slL, o_slS, o_neg, o_revT, o_revL, o_join, o_upper, List.map_cons, List.map_nil, List.length_cons, List.length_nil, List.replicate_succ, List.replicate_zero, List.cons_append, List.nil_append, List.set_cons_zero, List.set_cons_succ, Nat.reduceAdd, Nat.reduceSub, Nat.zero_add, ↓reduceIte, Bool.not_true, Bool.not_false, Bool.false_eq_true, Bool.not_eq_true, decide_true, decide_false, Option.map, reduceCtorEq, ret_bnd, S41])
    rw [List.length_map, rngL_range]
    refine ⟨by omega, ?_⟩
    refine compB_pure (fun d => match d with | .int i => if apP ks ms i.toNat = true then some (.int i) else none | _ => none) (fun d hd c K k => ?_) ?_
    · obtain ⟨i, hi, rfl⟩ := List.mem_map.mp hd
      have hi := List.mem_range.mp hi
      have a1 := atI_ints (ks := ms) (i := i) (by omega)
      have a2 := atI_ints (ks := ks) (i := i) hi
      (try simp -implicitDefEqProofs only [run, semB, ↓semS_loop, ↓sem_comp, semS, seqM_ap, sem, semL, semI, startE, getV_0, getV_s, outD_nx, outD_rt, truth_bl, ite_ap, partI_i, strM_s, isLst_l, isSeq_l, isSeq_t, mkE_o, mkE_v, itD_t, itD_l, itD_s, optM_some, bnd_ap, ret_ap, gd_ap, noE_ap, thr_ap, o_gtT, o_intB, o_sum, o_addI, o_addS, o_addT, o_addL, o_sub, o_mul, o_mulL, o_mulT, o_fdiv, o_mod, o_pow, o_eq, o_ne, o_ltI, o_gt, o_le, o_ge, o_inT, o_inL, o_ninT, o_ninL, o_inR, o_ninR, o_inS, o_ninS, o_isn, o_notn, o_lenS, o_lenT, o_lenL, o_isi, o_isC, o_tupT, o_tupL, o_lstT, o_lstL, o_int, o_abs, o_min, o_max, o_repr, o_rng1, o_rng2, o_ixT, o_ixL, o_ixS, o_slT, o_slL, o_slS, o_neg, o_revT, o_revL, o_join, o_upper, List.map_cons, List.map_nil, List.length_cons, List.length_nil, List.replicate_succ, List.replicate_zero, List.cons_append, List.nil_append, List.set_cons_zero, List.set_cons_succ, Nat.reduceAdd, Nat.reduceSub, Nat.zero_add, ↓reduceIte, Bool.not_true, Bool.not_false, Bool.false_eq_true, Bool.not_eq_true, decide_true, decide_false, Option.map, reduceCtorEq, ret_bnd, turnB, asgE, asgL, wipeE, a1, a2, D.eqv])
      refine ⟨⟨int_ok _, int_ok _⟩, ?_⟩
      have e : apP ks ms i = !decide (ks[i] = ms[i]'(by omega)) := by
        unfold apP
        rw [List.getElem?_eq_getElem hi, List.getElem?_eq_getElem (show i < ms.length by omega)]
        simp
      have k : K (if apP ks ms i = true then some (.int i) else none) c := k
      rw [e] at k
      exact if_pass k
    · (try simp -implicitDefEqProofs only [run, semB, ↓semS_loop, ↓sem_comp, semS, seqM_ap, sem, semL, semI, startE, getV_0, getV_s, outD_nx, outD_rt, truth_bl, ite_ap, partI_i, strM_s, isLst_l, isSeq_l, isSeq_t, mkE_o, mkE_v, itD_t, itD_l, itD_s, optM_some, bnd_ap, ret_ap, gd_ap, noE_ap, thr_ap, o_gtT, o_intB, o_sum, o_addI, o_addS, o_addT, o_addL, o_sub, o_mul, o_mulL, o_mulT, o_fdiv, o_mod, o_pow, o_eq, o_ne, o_ltI, o_gt, o_le, o_ge, o_inT, o_inL, o_ninT, o_ninL, o_inR, o_ninR, o_inS, o_ninS, o_isn, o_notn, o_lenS, o_lenT, o_lenL, o_isi, o_isC, o_tupT, o_tupL, o_lstT, o_lstL, o_int, o_abs, o_min, o_max, o_repr, o_rng1, o_rng2, o_ixT, o_ixL, o_ixS, o_slT, o_slL, o_slS, o_neg, o_revT, o_revL, o_join, o_upper, List.map_cons, List.map_nil, List.length_cons, List.length_nil, List.replicate_succ, List.replicate_zero, List.cons_append, List.nil_append, List.set_cons_zero, List.set_cons_succ, Nat.reduceAdd, Nat.reduceSub, Nat.zero_add, ↓reduceIte, Bool.not_true, Bool.not_false, Bool.false_eq_true, Bool.not_eq_true, decide_true, decide_false, Option.map, reduceCtorEq, ret_bnd])
      rw [List.filterMap_map]
      refine Eq.mpr (congrArg (fun l => Q (D.lst l) _) (filterMap_cond (p := apP ks ms) (fun i _ => rfl))) ?_
      rw [apI_D] at q
      exact q
  · exact h.elim
def sp38 : List D → M D
  | [g, x, y] => gd (isPy g = true ∧ isPy x = true ∧ isPy y = true) (gridM g fun n d => keyM n d "BadOne" x fun ks => keyM n d "BadOther" y fun ms => ret (KI (apI ks ms)))
  | _ => fail
theorem r38 (h4 : Φ 4 = sp4) (h34 : Φ 34 = sp34) (h37 : Φ 37 = sp37) (ds : List D) : Le (sp38 ds) (run Φ 3 S38 ds) := by
  intro c Q E h
  unfold sp38 at h
  split at h
  · rename_i g x y
    obtain ⟨⟨h1, h2, h3⟩, h⟩ := h
    (try simp -implicitDefEqProofs only [run, semB, ↓semS_loop, ↓sem_comp, semS, seqM_ap, sem, semL, semI, startE, getV_0, getV_s, outD_nx, outD_rt, truth_bl, ite_ap, partI_i, strM_s, isLst_l, isSeq_l, isSeq_t, mkE_o, mkE_v, itD_t, itD_l, itD_s, optM_some, bnd_ap, ret_ap, gd_ap, noE_ap, thr_ap, o_gtT, o_intB, o_sum, o_addI, o_addS, o_addT, o_addL, o_sub, o_mul, o_mulL, o_mulT, o_fdiv, o_mod, o_pow, o_eq, o_ne, o_ltI, o_gt, o_le, o_ge, o_inT, o_inL, o_ninT, o_ninL, o_inR, o_ninR, o_inS, o_ninS, o_isn, o_notn, o_lenS, o_lenT, o_lenL, o_isi, o_isC, o_tupT, o_tupL, o_lstT, o_lstL, o_int, o_abs, o_min, o_max, o_repr, o_rng1, o_rng2, o_ixT, o_ixL, o_ixS, o_slT, o_slL, o_slS, o_neg, o_revT, o_revL, o_join, o_upper, List.map_cons, List.map_nil, List.length_cons, List.length_nil, List.replicate_succ, List.replicate_zero, List.cons_append, List.nil_append, List.set_cons_zero, List.set_cons_succ, Nat.reduceAdd, Nat.reduceSub, Nat.zero_add, ↓reduceIte, Bool.not_true, Bool.not_false, Bool.false_eq_true, Bool.not_eq_true, decide_true, decide_false, Option.map, reduceCtorEq, ret_bnd, S38, h4, h34, h37])
    rcases gridM_inv h with ⟨z, q⟩ | ⟨n, d, rfl, hg, q⟩
    · exact sp4_bad z h1 q
    · refine sp4_ok hg ⟨⟨h2, h3⟩, ?_⟩
      rcases keyM_inv q with ⟨z, q⟩ | ⟨ks, rfl, hk, q⟩
      · exact keyM_bad z q
      · refine keyM_ok hk ?_
        rcases keyM_inv q with ⟨z, q⟩ | ⟨ms, rfl, hm, q⟩
        · exact keyM_bad z q
        · refine keyM_ok hm ?_
          have l1 := hk.1
          have l2 := hm.1
          unfold grOk at hg
          refine ⟨ks, ms, rfl, rfl, by omega, by omega, ?_⟩
          (try simp -implicitDefEqProofs only [run, semB, ↓semS_loop, ↓sem_comp, semS, seqM_ap, sem, semL, semI, startE, getV_0, getV_s, outD_nx, outD_rt, truth_bl, ite_ap, partI_i, strM_s, isLst_l, isSeq_l, isSeq_t, mkE_o, mkE_v, itD_t, itD_l, itD_s, optM_some, bnd_ap, ret_ap, gd_ap, noE_ap, thr_ap, o_gtT, o_intB, o_sum, o_addI, o_addS, o_addT, o_addL, o_sub, o_mul, o_mulL, o_mulT, o_fdiv, o_mod, o_pow, o_eq, o_ne, o_ltI, o_gt, o_le, o_ge, o_inT, o_inL, o_ninT, o_ninL, o_inR, o_ninR, o_inS, o_ninS, o_isn, o_notn, o_lenS, o_lenT, o_lenL, o_isi, o_isC, o_tupT, o_tupL, o_lstT, o_lstL, o_int, o_abs, o_min, o_max, o_repr, o_rng1, o_rng2, o_ixT, o_ixL, o_ixS, o_slT, o_slL, o_slS, o_neg, o_revT, o_revL, o_join, o_upper, List.map_cons, List.map_nil, List.length_cons, List.length_nil, List.replicate_succ, List.replicate_zero, List.cons_append, List.nil_append, List.set_cons_zero, List.set_cons_succ, Nat.reduceAdd, Nat.reduceSub, Nat.zero_add, ↓reduceIte, Bool.not_true, Bool.not_false, Bool.false_eq_true, Bool.not_eq_true, decide_true, decide_false, Option.map, reduceCtorEq, ret_bnd])
          exact q
  · exact h.elim
def sp39 : List D → M D
  | [.tup xs, .int k, v] => gd (0 ≤ k ∧ k < xs.length ∧ xs.length ≤ 1000) (ret (.tup (xs.set k.toNat v)))
  | _ => fail
theorem set_cut {xs : List D} {k : Int} {v : D} (h0 : 0 ≤ k) (h1 : k < xs.length) : cutD xs none (some k) ++ [v] ++ cutD xs (some (k + 1)) none = xs.set k.toNat v := by
  have e : (k.toNat : Int) = k := by omega
  have e2 : ((k.toNat + 1 : Nat) : Int) = k + 1 := by omega
  have a := cut_take xs k.toNat
  have b := cut_drop xs (k.toNat + 1)
  rw [e] at a
  rw [e2] at b
  rw [a, b, List.set_eq_take_append_cons_drop, if_pos (by omega), List.append_assoc]
  rfl
theorem r39 (ds : List D) : Le (sp39 ds) (run Φ 3 S39 ds) := by
  intro c Q E h
  unfold sp39 at h
  split at h
  · rename_i xs k v
    obtain ⟨⟨h0, h1, h2⟩, h⟩ := h
    (try simp -implicitDefEqProofs only [run, semB, ↓semS_loop, ↓sem_comp, semS, seqM_ap, sem, semL, semI, startE, getV_0, getV_s, outD_nx, outD_rt, truth_bl, ite_ap, partI_i, strM_s, isLst_l, isSeq_l, isSeq_t, mkE_o, mkE_v, itD_t, itD_l, itD_s, optM_some, bnd_ap, ret_ap, gd_ap, noE_ap, thr_ap, o_gtT, o_intB, o_sum, o_addI, o_addS, o_addT, o_addL, o_sub, o_mul, o_mulL, o_mulT, o_fdiv, o_mod, o_pow, o_eq, o_ne, o_ltI, o_gt, o_le, o_ge, o_inT, o_inL, o_ninT, o_ninL, o_inR, o_ninR, o_inS, o_ninS, o_isn, o_notn, o_lenS, o_lenT, o_lenL, o_isi, o_isC, o_tupT, o_tupL, o_lstT, o_lstL, o_int, o_abs, o_min, o_max, o_repr, o_rng1, o_rng2, o_ixT, o_ixL, o_ixS, o_slT, o_slL, o_slS, o_neg, o_revT, o_revL, o_join, o_upper, List.map_cons, List.map_nil, List.length_cons, List.length_nil, List.replicate_succ, List.replicate_zero, List.cons_append, List.nil_append, List.set_cons_zero, List.set_cons_succ, Nat.reduceAdd, Nat.reduceSub, Nat.zero_add, ↓reduceIte, Bool.not_true, Bool.not_false, Bool.false_eq_true, Bool.not_eq_true, decide_true, decide_false, Option.map, reduceCtorEq, ret_bnd, S39])
    have s1 := cutD_len xs none (some k)
    have s2 := cutD_len xs (some (k + 1)) none
    refine ⟨by unfold szOk; omega, by unfold szOk; rw [List.length_append]; simp only [List.length_cons, List.length_nil]; omega, ?_⟩
    rw [set_cut h0 h1]
    exact h
  · exact h.elim
def plM (m : Int) (e : Str) (p : D) (f : Int → M D) : M D := match p with
  | .int i => orE (inB p 0 m) e (f i)
  | _ => thr (.exc e .non)
theorem plM_ok {m i : Int} {e : Str} (h : 0 ≤ i) (k : i ≤ m) {f : Int → M D} {c : Nat} {Q E : D → Nat → Prop} (q : f i c Q E) : plM m e (.int i) f c Q E := by
  have : inB (.int i) 0 m = true := by simp only [inB, Bool.and_eq_true, decide_eq_true_eq]; omega
  show orE _ _ _ c Q E
  rw [this]
  exact q
theorem plM_bad {m : Int} {e : Str} {p : D} (h : inB p 0 m = false) {f : Int → M D} {c : Nat} {Q E : D → Nat → Prop} (q : E (.exc e .non) c) : plM m e p f c Q E := by
  unfold plM
  split
  · rw [h]; exact q
  · exact q
theorem plM_inv {m : Int} {e : Str} {p : D} {f : Int → M D} {c : Nat} {Q E : D → Nat → Prop} (q : plM m e p f c Q E) : (inB p 0 m = false ∧ E (.exc e .non) c) ∨ ∃ i, p = .int i ∧ 0 ≤ i ∧ i ≤ m ∧ inB p 0 m = true ∧ f i c Q E := by
  cases z : inB p 0 m with
  | false =>
    unfold plM at q
    split at q
    · rw [z] at q; exact .inl ⟨rfl, q⟩
    · exact .inl ⟨rfl, q⟩
  | true =>
    cases p with
    | int i =>
      have z2 := z
      simp only [inB, Bool.and_eq_true, decide_eq_true_eq] at z2
      have q : orE (inB (.int i) 0 m) e (f i) c Q E := q
      rw [z] at q
      exact .inr ⟨i, rfl, z2.1, z2.2, rfl, q⟩
    | _ => cases z
def sp40 : List D → M D
  | [g, x, y, k] => gd (isPy g = true ∧ isPy x = true ∧ isPy y = true ∧ isPy k = true) (gridM g fun n d => keyM n d "BadOne" x fun ks => keyM n d "BadOther" y fun ms => plM (n - 1) "BadChamber" k fun i => ret (KI (ks.set i.toNat (ms.getD i.toNat 0))))
  | _ => fail
theorem r40 (h1' : Φ 1 = sp1) (h4 : Φ 4 = sp4) (h34 : Φ 34 = sp34) (h39 : Φ 39 = sp39) (ds : List D) : Le (sp40 ds) (run Φ 4 S40 ds) := by
  intro c Q E h
  unfold sp40 at h
  split at h
  · rename_i g x y k
    obtain ⟨⟨h1, h2, h3, h5⟩, h⟩ := h
    (try simp -implicitDefEqProofs only [run, semB, ↓semS_loop, ↓sem_comp, semS, seqM_ap, sem, semL, semI, startE, getV_0, getV_s, outD_nx, outD_rt, truth_bl, ite_ap, partI_i, strM_s, isLst_l, isSeq_l, isSeq_t, mkE_o, mkE_v, itD_t, itD_l, itD_s, optM_some, bnd_ap, ret_ap, gd_ap, noE_ap, thr_ap, o_gtT, o_intB, o_sum, o_addI, o_addS, o_addT, o_addL, o_sub, o_mul, o_mulL, o_mulT, o_fdiv, o_mod, o_pow, o_eq, o_ne, o_ltI, o_gt, o_le, o_ge, o_inT, o_inL, o_ninT, o_ninL, o_inR, o_ninR, o_inS, o_ninS, o_isn, o_notn, o_lenS, o_lenT, o_lenL, o_isi, o_isC, o_tupT, o_tupL, o_lstT, o_lstL, o_int, o_abs, o_min, o_max, o_repr, o_rng1, o_rng2, o_ixT, o_ixL, o_ixS, o_slT, o_slL, o_slS, o_neg, o_revT, o_revL, o_join, o_upper, List.map_cons, List.map_nil, List.length_cons, List.length_nil, List.replicate_succ, List.replicate_zero, List.cons_append, List.nil_append, List.set_cons_zero, List.set_cons_succ, Nat.reduceAdd, Nat.reduceSub, Nat.zero_add, ↓reduceIte, Bool.not_true, Bool.not_false, Bool.false_eq_true, Bool.not_eq_true, decide_true, decide_false, Option.map, reduceCtorEq, ret_bnd, S40, h4, h34, h39, h1'])
    rcases gridM_inv h with ⟨z, q⟩ | ⟨n, d, rfl, hg, q⟩
    · exact sp4_bad z h1 q
    · refine sp4_ok hg ⟨⟨h2, h3⟩, ?_⟩
      rcases keyM_inv q with ⟨z, q⟩ | ⟨ks, rfl, hk, q⟩
      · exact keyM_bad z q
      · refine keyM_ok hk ?_
        rcases keyM_inv q with ⟨z, q⟩ | ⟨ms, rfl, hm, q⟩
        · exact keyM_bad z q
        · refine keyM_ok hm ?_
          have l1 := hk.1
          have l2 := hm.1
          (try simp -implicitDefEqProofs only [run, semB, ↓semS_loop, ↓sem_comp, semS, seqM_ap, sem, semL, semI, startE, getV_0, getV_s, outD_nx, outD_rt, truth_bl, ite_ap, partI_i, strM_s, isLst_l, isSeq_l, isSeq_t, mkE_o, mkE_v, itD_t, itD_l, itD_s, optM_some, bnd_ap, ret_ap, gd_ap, noE_ap, thr_ap, o_gtT, o_intB, o_sum, o_addI, o_addS, o_addT, o_addL, o_sub, o_mul, o_mulL, o_mulT, o_fdiv, o_mod, o_pow, o_eq, o_ne, o_ltI, o_gt, o_le, o_ge, o_inT, o_inL, o_ninT, o_ninL, o_inR, o_ninR, o_inS, o_ninS, o_isn, o_notn, o_lenS, o_lenT, o_lenL, o_isi, o_isC, o_tupT, o_tupL, o_lstT, o_lstL, o_int, o_abs, o_min, o_max, o_repr, o_rng1, o_rng2, o_ixT, o_ixL, o_ixS, o_slT, o_slL, o_slS, o_neg, o_revT, o_revL, o_join, o_upper, List.map_cons, List.map_nil, List.length_cons, List.length_nil, List.replicate_succ, List.replicate_zero, List.cons_append, List.nil_append, List.set_cons_zero, List.set_cons_succ, Nat.reduceAdd, Nat.reduceSub, Nat.zero_add, ↓reduceIte, Bool.not_true, Bool.not_false, Bool.false_eq_true, Bool.not_eq_true, decide_true, decide_false, Option.map, reduceCtorEq, ret_bnd, ix0])
          refine ⟨h5, ?_⟩
          rcases plM_inv q with ⟨z, q⟩ | ⟨i, rfl, i0, i1, z, q⟩
          · rw [z]; (try simp -implicitDefEqProofs only [run, semB, ↓semS_loop, ↓sem_comp, semS, seqM_ap, sem, semL, semI, startE, getV_0, getV_s, outD_nx, outD_rt, truth_bl, ite_ap, partI_i, strM_s, isLst_l, isSeq_l, isSeq_t, mkE_o, mkE_v, itD_t, itD_l, itD_s, optM_some, bnd_ap, ret_ap, gd_ap, noE_ap, thr_ap, o_gtT, o_intB, o_sum, o_addI, o_addS, o_addT, o_addL, o_sub, o_mul, o_mulL, o_mulT, o_fdiv, o_mod, o_pow, o_eq, o_ne, o_ltI, o_gt, o_le, o_ge, o_inT, o_inL, o_ninT, o_ninL, o_inR, o_ninR, o_inS, o_ninS, o_isn, o_notn, o_lenS, o_lenT, o_lenL, o_isi, o_isC, o_tupT, o_tupL, o_lstT, o_lstL, o_int, o_abs, o_min, o_max, o_repr, o_rng1, o_rng2, o_ixT, o_ixL, o_ixS, o_slT, o_slL, o_slS, o_neg, o_revT, o_revL, o_join, o_upper, List.map_cons, List.map_nil, List.length_cons, List.length_nil, List.replicate_succ, List.replicate_zero, List.cons_append, List.nil_append, List.set_cons_zero, List.set_cons_succ, Nat.reduceAdd, Nat.reduceSub, Nat.zero_add, ↓reduceIte, Bool.not_true, Bool.not_false, Bool.false_eq_true, Bool.not_eq_true, decide_true, decide_false, Option.map, reduceCtorEq, ret_bnd]); exact q
          · rw [z]
            have e : (i.toNat : Int) = i := by omega
            have im : i.toNat < ms.length := by omega
            have a := atI_nat (xs := ms.map D.int) (i := i.toNat) (by rw [List.length_map]; exact im)
            rw [e, List.getElem?_map, List.getElem?_eq_getElem im, Option.map_some] at a
            (try simp -implicitDefEqProofs only [run, semB, ↓semS_loop, ↓sem_comp, semS, seqM_ap, sem, semL, semI, startE, getV_0, getV_s, outD_nx, outD_rt, truth_bl, ite_ap, partI_i, strM_s, isLst_l, isSeq_l, isSeq_t, mkE_o, mkE_v, itD_t, itD_l, itD_s, optM_some, bnd_ap, ret_ap, gd_ap, noE_ap, thr_ap, o_gtT, o_intB, o_sum, o_addI, o_addS, o_addT, o_addL, o_sub, o_mul, o_mulL, o_mulT, o_fdiv, o_mod, o_pow, o_eq, o_ne, o_ltI, o_gt, o_le, o_ge, o_inT, o_inL, o_ninT, o_ninL, o_inR, o_ninR, o_inS, o_ninS, o_isn, o_notn, o_lenS, o_lenT, o_lenL, o_isi, o_isC, o_tupT, o_tupL, o_lstT, o_lstL, o_int, o_abs, o_min, o_max, o_repr, o_rng1, o_rng2, o_ixT, o_ixL, o_ixS, o_slT, o_slL, o_slS, o_neg, o_revT, o_revL, o_join, o_upper, List.map_cons, List.map_nil, List.length_cons, List.length_nil, List.replicate_succ, List.replicate_zero, List.cons_append, List.nil_append, List.set_cons_zero, List.set_cons_succ, Nat.reduceAdd, Nat.reduceSub, Nat.zero_add, ↓reduceIte, Bool.not_true, Bool.not_false, Bool.false_eq_true, Bool.not_eq_true, decide_true, decide_false, Option.map, reduceCtorEq, ret_bnd, a])
            unfold grOk at hg
            refine ⟨⟨i0, by rw [List.length_map]; omega, by rw [List.length_map]; omega⟩, ?_⟩
            have b : ms.getD i.toNat 0 = ms[i.toNat] := by rw [List.getD_eq_getElem?_getD, List.getElem?_eq_getElem im]; rfl
            have q : Q (KI (ks.set i.toNat (ms.getD i.toNat 0))) c := q
            rw [b] at q
            have s : (ks.map D.int).set i.toNat (D.int ms[i.toNat]) = (ks.set i.toNat ms[i.toNat]).map D.int := by rw [List.map_set]
            rw [s]
            exact q
  · exact h.elim
end PL

namespace PL
open PySem L2
variable {Φ : Fns}
def sp36 : List D → M D
  | [g, p] => gd (isPy g = true ∧ isPy p = true) (gridM g fun n d => plM (d ^ n.toNat - 1) "BadPlace" p fun i => ret (KI (keyI n.toNat d i)))
  | _ => fail
theorem log_small2 {d : Int} (h : 0 ≤ d) (l : d < 16777216) : d.natAbs.log2 < 9000 := by
  have : d.natAbs < 2 ^ 24 := by omega
  have := log2_lt this (by decide)
  omega
theorem r36 (h1' : Φ 1 = sp1) (h4 : Φ 4 = sp4) (h6 : Φ 6 = sp6) (ds : List D) : Le (sp36 ds) (run Φ 5 S36 ds) := by
  intro c Q E h
  unfold sp36 at h
  split at h
  · rename_i g p
    obtain ⟨⟨h1, h2⟩, h⟩ := h
    (try simp -implicitDefEqProofs only [run, semB, ↓semS_loop, ↓sem_comp, semS, seqM_ap, sem, semL, semI, startE, getV_0, getV_s, outD_nx, outD_rt, truth_bl, ite_ap, partI_i, strM_s, isLst_l, isSeq_l, isSeq_t, mkE_o, mkE_v, itD_t, itD_l, itD_s, optM_some, bnd_ap, ret_ap, gd_ap, noE_ap, thr_ap, o_gtT, o_intB, o_sum, o_addI, o_addS, o_addT, o_addL, o_sub, o_mul, o_mulL, o_mulT, o_fdiv, o_mod, o_pow, o_eq, o_ne, o_ltI, o_gt, o_le, o_ge, o_inT, o_inL, o_ninT, o_ninL, o_inR, o_ninR, o_inS, o_ninS, o_isn, o_notn, o_lenS, o_lenT, o_lenL, o_isi, o_isC, o_tupT, o_tupL, o_lstT, o_lstL, o_int, o_abs, o_min, o_max, o_repr, o_rng1, o_rng2, o_ixT, o_ixL, o_ixS, o_slT, o_slL, o_slS, o_neg, o_revT, o_revL, o_join, o_upper, List.map_cons, List.map_nil, List.length_cons, List.length_nil, List.replicate_succ, List.replicate_zero, List.cons_append, List.nil_append, List.set_cons_zero, List.set_cons_succ, Nat.reduceAdd, Nat.reduceSub, Nat.zero_add, ↓reduceIte, Bool.not_true, Bool.not_false, Bool.false_eq_true, Bool.not_eq_true, decide_true, decide_false, Option.map, reduceCtorEq, ret_bnd, S36, h4, h6, h1', sp6])
    rcases gridM_inv h with ⟨z, q⟩ | ⟨n, d, rfl, hg, q⟩
    · exact sp4_bad z h1 q
    · refine sp4_ok hg ?_
      unfold grOk at hg
      have d0 : 0 < d := by omega
      (try simp -implicitDefEqProofs only [run, semB, ↓semS_loop, ↓sem_comp, semS, seqM_ap, sem, semL, semI, startE, getV_0, getV_s, outD_nx, outD_rt, truth_bl, ite_ap, partI_i, strM_s, isLst_l, isSeq_l, isSeq_t, mkE_o, mkE_v, itD_t, itD_l, itD_s, optM_some, bnd_ap, ret_ap, gd_ap, noE_ap, thr_ap, o_gtT, o_intB, o_sum, o_addI, o_addS, o_addT, o_addL, o_sub, o_mul, o_mulL, o_mulT, o_fdiv, o_mod, o_pow, o_eq, o_ne, o_ltI, o_gt, o_le, o_ge, o_inT, o_inL, o_ninT, o_ninL, o_inR, o_ninR, o_inS, o_ninS, o_isn, o_notn, o_lenS, o_lenT, o_lenL, o_isi, o_isC, o_tupT, o_tupL, o_lstT, o_lstL, o_int, o_abs, o_min, o_max, o_repr, o_rng1, o_rng2, o_ixT, o_ixL, o_ixS, o_slT, o_slL, o_slS, o_neg, o_revT, o_revL, o_join, o_upper, List.map_cons, List.map_nil, List.length_cons, List.length_nil, List.replicate_succ, List.replicate_zero, List.cons_append, List.nil_append, List.set_cons_zero, List.set_cons_succ, Nat.reduceAdd, Nat.reduceSub, Nat.zero_add, ↓reduceIte, Bool.not_true, Bool.not_false, Bool.false_eq_true, Bool.not_eq_true, decide_true, decide_false, Option.map, reduceCtorEq, ret_bnd, sp1])
      refine ⟨⟨by omega, by omega, by omega, by omega⟩, h2, ?_⟩
      rcases plM_inv q with ⟨z, q⟩ | ⟨i, rfl, i0, i1, z, q⟩
      · rw [z]; (try simp -implicitDefEqProofs only [run, semB, ↓semS_loop, ↓sem_comp, semS, seqM_ap, sem, semL, semI, startE, getV_0, getV_s, outD_nx, outD_rt, truth_bl, ite_ap, partI_i, strM_s, isLst_l, isSeq_l, isSeq_t, mkE_o, mkE_v, itD_t, itD_l, itD_s, optM_some, bnd_ap, ret_ap, gd_ap, noE_ap, thr_ap, o_gtT, o_intB, o_sum, o_addI, o_addS, o_addT, o_addL, o_sub, o_mul, o_mulL, o_mulT, o_fdiv, o_mod, o_pow, o_eq, o_ne, o_ltI, o_gt, o_le, o_ge, o_inT, o_inL, o_ninT, o_ninL, o_inR, o_ninR, o_inS, o_ninS, o_isn, o_notn, o_lenS, o_lenT, o_lenL, o_isi, o_isC, o_tupT, o_tupL, o_lstT, o_lstL, o_int, o_abs, o_min, o_max, o_repr, o_rng1, o_rng2, o_ixT, o_ixL, o_ixS, o_slT, o_slL, o_slS, o_neg, o_revT, o_revL, o_join, o_upper, List.map_cons, List.map_nil, List.length_cons, List.length_nil, List.replicate_succ, List.replicate_zero, List.cons_append, List.nil_append, List.set_cons_zero, List.set_cons_succ, Nat.reduceAdd, Nat.reduceSub, Nat.zero_add, ↓reduceIte, Bool.not_true, Bool.not_false, Bool.false_eq_true, Bool.not_eq_true, decide_true, decide_false, Option.map, reduceCtorEq, ret_bnd]); exact q
      · rw [z]
        (try simp -implicitDefEqProofs only [run, semB, ↓semS_loop, ↓sem_comp, semS, seqM_ap, sem, semL, semI, startE, getV_0, getV_s, outD_nx, outD_rt, truth_bl, ite_ap, partI_i, strM_s, isLst_l, isSeq_l, isSeq_t, mkE_o, mkE_v, itD_t, itD_l, itD_s, optM_some, bnd_ap, ret_ap, gd_ap, noE_ap, thr_ap, o_gtT, o_intB, o_sum, o_addI, o_addS, o_addT, o_addL, o_sub, o_mul, o_mulL, o_mulT, o_fdiv, o_mod, o_pow, o_eq, o_ne, o_ltI, o_gt, o_le, o_ge, o_inT, o_inL, o_ninT, o_ninL, o_inR, o_ninR, o_inS, o_ninS, o_isn, o_notn, o_lenS, o_lenT, o_lenL, o_isi, o_isC, o_tupT, o_tupL, o_lstT, o_lstL, o_int, o_abs, o_min, o_max, o_repr, o_rng1, o_rng2, o_ixT, o_ixL, o_ixS, o_slT, o_slL, o_slS, o_neg, o_revT, o_revL, o_join, o_upper, List.map_cons, List.map_nil, List.length_cons, List.length_nil, List.replicate_succ, List.replicate_zero, List.cons_append, List.nil_append, List.set_cons_zero, List.set_cons_succ, Nat.reduceAdd, Nat.reduceSub, Nat.zero_add, ↓reduceIte, Bool.not_true, Bool.not_false, Bool.false_eq_true, Bool.not_eq_true, decide_true, decide_false, Option.map, reduceCtorEq, ret_bnd, ix0, ix1])
        refine ⟨⟨by omega, by omega⟩, ?_⟩
        refine loopB_ind (fun ds ρ c => ∃ (fs : List Int) (left : Int) (e : En), ρ = [.val (GI n d), .val (.int i), .own (fs.map D.int), .val (.int left), e] ∧ keyI ds.length d left ++ fs.reverse = keyI n.toNat d i ∧ fs.length + ds.length = n.toNat ∧ Q (KI (keyI n.toNat d i)) c) ⟨[], i, _, rfl, ?_, ?_, q⟩ ?_ ?_
        · rw [rngL_len, List.reverse_nil, List.append_nil]
        · rw [rngL_len, List.length_nil, Nat.zero_add]
        · rintro x ds ρ c ⟨fs, left, e, rfl, hk, hl, q⟩ K kn _ _ _
          rw [List.length_cons] at hk hl
          (try simp -implicitDefEqProofs only [run, semB, ↓semS_loop, ↓sem_comp, semS, seqM_ap, sem, semL, semI, startE, getV_0, getV_s, outD_nx, outD_rt, truth_bl, ite_ap, partI_i, strM_s, isLst_l, isSeq_l, isSeq_t, mkE_o, mkE_v, itD_t, itD_l, itD_s, optM_some, bnd_ap, ret_ap, gd_ap, noE_ap, thr_ap, o_gtT, o_intB, o_sum, o_addI, o_addS, o_addT, o_addL, o_sub, o_mul, o_mulL, o_mulT, o_fdiv, o_mod, o_pow, o_eq, o_ne, o_ltI, o_gt, o_le, o_ge, o_inT, o_inL, o_ninT, o_ninL, o_inR, o_ninR, o_inS, o_ninS, o_isn, o_notn, o_lenS, o_lenT, o_lenL, o_isi, o_isC, o_tupT, o_tupL, o_lstT, o_lstL, o_int, o_abs, o_min, o_max, o_repr, o_rng1, o_rng2, o_ixT, o_ixL, o_ixS, o_slT, o_slL, o_slS, o_neg, o_revT, o_revL, o_join, o_upper, List.map_cons, List.map_nil, List.length_cons, List.length_nil, List.replicate_succ, List.replicate_zero, List.cons_append, List.nil_append, List.set_cons_zero, List.set_cons_succ, Nat.reduceAdd, Nat.reduceSub, Nat.zero_add, ↓reduceIte, Bool.not_true, Bool.not_false, Bool.false_eq_true, Bool.not_eq_true, decide_true, decide_false, Option.map, reduceCtorEq, ret_bnd, asgE, ix0, ix1, ownAt, appM, List.getElem?_cons_succ, List.getElem?_cons_zero])
          refine ⟨d0, by rw [List.length_map]; omega, ⟨d0, log_small2 (by omega) (by omega)⟩, ?_⟩
          refine kn _ _ ⟨fs ++ [left % d], left / d, .val x, ?_, ?_, ?_, q⟩
          · rw [List.map_append]; rfl
          · rw [keyI, List.append_assoc] at hk
            rw [List.reverse_append]
            exact hk
          · rw [List.length_append]; simp only [List.length_cons, List.length_nil]; omega
        · rintro ρ c ⟨fs, left, e, rfl, hk, hl, q⟩
          rw [List.length_nil, keyI, List.nil_append] at hk
          (try simp -implicitDefEqProofs only [run, semB, ↓semS_loop, ↓sem_comp, semS, seqM_ap, sem, semL, semI, startE, getV_0, getV_s, outD_nx, outD_rt, truth_bl, ite_ap, partI_i, strM_s, isLst_l, isSeq_l, isSeq_t, mkE_o, mkE_v, itD_t, itD_l, itD_s, optM_some, bnd_ap, ret_ap, gd_ap, noE_ap, thr_ap, o_gtT, o_intB, o_sum, o_addI, o_addS, o_addT, o_addL, o_sub, o_mul, o_mulL, o_mulT, o_fdiv, o_mod, o_pow, o_eq, o_ne, o_ltI, o_gt, o_le, o_ge, o_inT, o_inL, o_ninT, o_ninL, o_inR, o_ninR, o_inS, o_ninS, o_isn, o_notn, o_lenS, o_lenT, o_lenL, o_isi, o_isC, o_tupT, o_tupL, o_lstT, o_lstL, o_int, o_abs, o_min, o_max, o_repr, o_rng1, o_rng2, o_ixT, o_ixL, o_ixS, o_slT, o_slL, o_slS, o_neg, o_revT, o_revL, o_join, o_upper, List.map_cons, List.map_nil, List.length_cons, List.length_nil, List.replicate_succ, List.replicate_zero, List.cons_append, List.nil_append, List.set_cons_zero, List.set_cons_succ, Nat.reduceAdd, Nat.reduceSub, Nat.zero_add, ↓reduceIte, Bool.not_true, Bool.not_false, Bool.false_eq_true, Bool.not_eq_true, decide_true, decide_false, Option.map, reduceCtorEq, ret_bnd, frzM, List.getElem?_cons_succ, List.getElem?_cons_zero])
          rw [← List.map_reverse, hk]
          exact q
  · exact h.elim
def sp42 : List D → M D
  | [.tup [.int n, .int d], x] => fun c Q _ => ∃ ks, x = KI ks ∧ grOk n d ∧ KeyI n d ks ∧ Q (.int (placeI d ks)) c
  | _ => fail
theorem sum_range (d : Int) : ∀ ks : List Int, ((List.range ks.length).map fun i => ks.getD i 0 * d ^ (ks.length - 1 - i)).sum = sumP d ks
  | [] => rfl
  | k :: ks => by
    rw [List.length_cons, List.range_succ_eq_map, List.map_cons, List.sum_cons, List.map_map, sumP]
    have e : ((fun i => (k :: ks).getD i 0 * d ^ (ks.length + 1 - 1 - i)) ∘ Nat.succ) = fun i => ks.getD i 0 * d ^ (ks.length - 1 - i) := by
      funext i
      show (k :: ks).getD (i + 1) 0 * d ^ (ks.length + 1 - 1 - (i + 1)) = _
      rw [List.getD_cons_succ, show ks.length + 1 - 1 - (i + 1) = ks.length - 1 - i by omega]
    rw [e, sum_range d ks]
    rfl
theorem r42 (h20 : Φ 20 = sp20) (ds : List D) : Le (sp42 ds) (run Φ 3 S42 ds) := by
  intro c Q E h
  unfold sp42 at h
  split at h
  · rename_i n d x
    obtain ⟨ks, rfl, hg, hk, q⟩ := h
    unfold grOk at hg
    have l := hk.1
    (try simp -implicitDefEqProofs only [run, semB, ↓semS_loop, ↓sem_comp, semS, seqM_ap, sem, semL, semI, startE, getV_0, getV_s, outD_nx, outD_rt, truth_bl, ite_ap, partI_i, strM_s, isLst_l, isSeq_l, isSeq_t, mkE_o, mkE_v, itD_t, itD_l, itD_s, optM_some, bnd_ap, ret_ap, gd_ap, noE_ap, thr_ap, o_gtT, o_intB, o_sum, o_addI, o_addS, o_addT, o_addL, o_sub, o_mul, o_mulL, o_mulT, o_fdiv, o_mod, o_pow, o_eq, o_ne, o_ltI, o_gt, o_le, o_ge, o_inT, o_inL, o_ninT, o_ninL, o_inR, o_ninR, o_inS, o_ninS, o_isn, o_notn, o_lenS, o_lenT, o_lenL, o_isi, o_isC, o_tupT, o_tupL, o_lstT, o_lstL, o_int, o_abs, o_min, o_max, o_repr, o_rng1, o_rng2, o_ixT, o_ixL, o_ixS, o_slT, o_slL, o_slS, o_neg, o_revT, o_revL, o_join, o_upper, List.map_cons, List.map_nil, List.length_cons, List.length_nil, List.replicate_succ, List.replicate_zero, List.cons_append, List.nil_append, List.set_cons_zero, List.set_cons_succ, Nat.reduceAdd, Nat.reduceSub, Nat.zero_add, ↓reduceIte, Bool.not_true, Bool.not_false, Bool.false_eq_true, Bool.not_eq_true, decide_true, decide_false, Option.map, reduceCtorEq, ret_bnd, S42, ix0, ix1, h20])
    refine ⟨⟨by omega, by omega⟩, ?_⟩
    have en : (ks.length : Int) = n := l
    rw [← en, rngL_range]
    refine compB_map (fun x => match x with | .int i => .int (ks.getD i.toNat 0 * d ^ (ks.length - 1 - i.toNat)) | _ => .non) (fun x hd c K k => ?_) ?_
    · obtain ⟨i, hi, rfl⟩ := List.mem_map.mp hd
      have hi := List.mem_range.mp hi
      have a1 := atI_ints (ks := ks) (i := i) hi
      (try simp -implicitDefEqProofs only [run, semB, ↓semS_loop, ↓sem_comp, semS, seqM_ap, sem, semL, semI, startE, getV_0, getV_s, outD_nx, outD_rt, truth_bl, ite_ap, partI_i, strM_s, isLst_l, isSeq_l, isSeq_t, mkE_o, mkE_v, itD_t, itD_l, itD_s, optM_some, bnd_ap, ret_ap, gd_ap, noE_ap, thr_ap, o_gtT, o_intB, o_sum, o_addI, o_addS, o_addT, o_addL, o_sub, o_mul, o_mulL, o_mulT, o_fdiv, o_mod, o_pow, o_eq, o_ne, o_ltI, o_gt, o_le, o_ge, o_inT, o_inL, o_ninT, o_ninL, o_inR, o_ninR, o_inS, o_ninS, o_isn, o_notn, o_lenS, o_lenT, o_lenL, o_isi, o_isC, o_tupT, o_tupL, o_lstT, o_lstL, o_int, o_abs, o_min, o_max, o_repr, o_rng1, o_rng2, o_ixT, o_ixL, o_ixS, o_slT, o_slL, o_slS, o_neg, o_revT, o_revL, o_join, o_upper, List.map_cons, List.map_nil, List.length_cons, List.length_nil, List.replicate_succ, List.replicate_zero, List.cons_append, List.nil_append, List.set_cons_zero, List.set_cons_succ, Nat.reduceAdd, Nat.reduceSub, Nat.zero_add, ↓reduceIte, Bool.not_true, Bool.not_false, Bool.false_eq_true, Bool.not_eq_true, decide_true, decide_false, Option.map, reduceCtorEq, ret_bnd, turnB, asgE, asgL, wipeE, a1, ix0, ix1, h20, sp20])
      have kr := hk.2 ks[i] (List.getElem_mem hi)
      refine ⟨⟨by omega, by omega, by omega, by omega⟩, .inr (.inl ⟨by omega, by omega⟩), ?_⟩
      have e1 : (n - 1 - (i : Int)).toNat = ks.length - 1 - i := by omega
      have e2 : ks.getD i 0 = ks[i] := by rw [List.getD_eq_getElem?_getD, List.getElem?_eq_getElem hi]; rfl
      have k : K (some (.int (ks.getD i 0 * d ^ (ks.length - 1 - i)))) c := k
      rw [e2] at k
      rw [en, e1]
      exact k
    · have e3 : ((List.range ks.length).map fun (i : Nat) => D.int i).map (fun x => match x with | .int i => D.int (ks.getD i.toNat 0 * d ^ (ks.length - 1 - i.toNat)) | _ => .non) = ((List.range ks.length).map fun i => ks.getD i 0 * d ^ (ks.length - 1 - i)).map D.int := by
        rw [List.map_map, List.map_map]
        rfl
      rw [e3]
      simp -implicitDefEqProofs only [bnd_ap, ret_ap, o_gtT, o_intB, o_sum, o_addI, o_addS, o_addT, o_addL, o_sub, o_mul, o_mulL, o_mulT, o_fdiv, o_mod, o_pow, o_eq, o_ne, o_ltI, o_gt, o_le, o_ge, o_inT, o_inL, o_ninT, o_ninL, o_inR, o_ninR, o_inS, o_ninS, o_isn, o_notn, o_lenS, o_lenT, o_lenL, o_isi, o_isC, o_tupT, o_tupL, o_lstT, o_lstL, o_int, o_abs, o_min, o_max, o_repr, o_rng1, o_rng2, o_ixT, o_ixL, o_ixS, o_slT, o_slL, o_slS, o_neg, o_revT, o_revL, o_join, o_upper, intsD_map, optM_some]
      rw [sum_range, ← placeI_sum]
      exact q
  · exact h.elim
theorem ki_fine {ks : List Int} (l : ks.length ≤ 100) (h : ∀ k ∈ ks, k.natAbs < 2 ^ 64) : (KI ks).fine := by
  have lm := ki_lim ks
  have m : ∀ x ∈ ks.map D.int, ∃ i : Int, x = .int i ∧ i.natAbs.log2 < 64 := fun x hx => by
    obtain ⟨i, hi, rfl⟩ := List.mem_map.mp hx
    exact ⟨i, rfl, log2_lt (h i hi) (by decide)⟩
  refine ⟨lm.1, by have := lm.2; omega, ?_, ?_, ?_⟩
  · exact sokL_iff.mpr fun x hx => by
      obtain ⟨i, rfl, _⟩ := m x hx; rfl
  · exact shbL_iff.mpr fun x hx => by
      obtain ⟨i, rfl, hi⟩ := m x hx
      exact decide_eq_true (by omega)
  · show wtL (ks.map D.int) + 3 ≤ 16777216
    have := wtL_le (n := 66) (xs := ks.map D.int) fun x hx => by
      obtain ⟨i, rfl, hi⟩ := m x hx
      show i.natAbs.log2 + 2 ≤ 66
      omega
    rw [List.length_map] at this
    omega
theorem lst_fine {xs : List D} (l : xs.length ≤ 20) (h : ∀ x ∈ xs, x.fine ∧ x.depth ≤ 40 ∧ x.wt ≤ 100000) : (D.lst xs).fine := by
  have lm : (D.lst xs).lim 41 := lim_lst.mpr fun x hx => ⟨(h x hx).1.1, (h x hx).2.1⟩
  refine ⟨lm.1, by have := lm.2; omega, sokL_iff.mpr fun x hx => (h x hx).1.2.2.1, shbL_iff.mpr fun x hx => (h x hx).1.2.2.2.1, ?_⟩
  show wtL xs + 3 ≤ 16777216
  have := wtL_le (n := 100000) (xs := xs) fun x hx => (h x hx).2.2
  have : (100000 + 2) * xs.length ≤ 100002 * 20 := Nat.mul_le_mul (by omega) l
  omega
def okI (x : D) : Prop := x.fine ∧ x.depth ≤ 40 ∧ x.wt ≤ 100000
theorem okI_int {i : Int} (h : i.natAbs < 2 ^ 64) : okI (.int i) := by
  have l := log2_lt h (by decide)
  refine ⟨fine_int (by omega), by simp [D.depth], ?_⟩
  show i.natAbs.log2 + 2 ≤ 100000
  omega
theorem okI_ki {ks : List Int} (l : ks.length ≤ 100) (h : ∀ k ∈ ks, k.natAbs < 2 ^ 64) : okI (KI ks) := by
  refine ⟨ki_fine l h, by have := (ki_lim ks).2; omega, ?_⟩
  show wtL (ks.map D.int) + 3 ≤ 100000
  have := wtL_le (n := 66) (xs := ks.map D.int) fun x hx => by
    obtain ⟨i, hi, rfl⟩ := List.mem_map.mp hx
    have := log2_lt (h i hi) (by decide)
    show i.natAbs.log2 + 2 ≤ 66
    omega
  rw [List.length_map] at this
  omega
theorem key_small {n d : Int} {ks : List Int} (hg : grOk n d) (hk : KeyI n d ks) : okI (KI ks) := by
  unfold grOk at hg
  have l := hk.1
  exact okI_ki (by omega) fun k m => by have := hk.2 k m; omega
theorem pow_small {n d : Int} (hg : grOk n d) : d ^ n.toNat ≤ 10000000000 ∧ 0 < d ^ n.toNat := by
  unfold grOk at hg
  obtain ⟨k, hk⟩ : ∃ k : Nat, d = k := ⟨d.toNat, by omega⟩
  subst hk
  have h2 : k ^ n.toNat ≤ 10 ^ 10 := Nat.le_trans (Nat.pow_le_pow_left (show k ≤ 10 by omega) _) (Nat.pow_le_pow_right (by decide) (show n.toNat ≤ 10 by omega))
  have h3 : 0 < k ^ n.toNat := Nat.pow_pos (by omega)
  have h4 : k ^ n.toNat ≤ 10000000000 := Nat.le_trans h2 (by decide)
  rw [← Int.natCast_pow]
  generalize k ^ n.toNat = w at h3 h4
  omega
theorem sp36_ok {n d i : Int} (hg : grOk n d) (h0 : 0 ≤ i) (h1 : i < d ^ n.toNat) {c : Nat} {Q E : D → Nat → Prop} (q : Q (KI (keyI n.toNat d i)) c) : sp36 [GI n d, .int i] c Q E := ⟨⟨gi_py n d, rfl⟩, gridM_ok hg (plM_ok h0 (by omega) q)⟩
theorem sp35_ok {n d : Int} {ks : List Int} (hg : grOk n d) (hk : KeyI n d ks) {c : Nat} {Q E : D → Nat → Prop} (q : Q (.int (placeI d ks)) c) : sp35 [GI n d, KI ks] c Q E := ⟨⟨gi_py n d, (ki_lim ks).1⟩, gridM_ok hg (keyM_ok hk q)⟩
theorem sp42_ok {n d : Int} {ks : List Int} (hg : grOk n d) (hk : KeyI n d ks) {c : Nat} {Q E : D → Nat → Prop} (q : Q (.int (placeI d ks)) c) : sp42 [GI n d, KI ks] c Q E := ⟨ks, rfl, hg, hk, q⟩
theorem sp5d_ok {n d : Int} {ks : List Int} (hk : KeyI n d ks) {c : Nat} {Q E : D → Nat → Prop} (q : Q (.bl true) c) : sp5d [GI n d, KI ks] c Q E := by
  refine ⟨⟨(ki_lim ks).1, by have := (ki_lim ks).2; omega⟩, ?_⟩
  rw [keyB_of hk]
  exact q
theorem sp22_ok {n d : Int} (hg : grOk n d) {c : Nat} {Q E : D → Nat → Prop} (hc : c + 10 < LIM) (k : ∀ ms, KeyI n d ms → ∀ c', c ≤ c' → c' ≤ c + 10 → Q (KI ms) c') : sp22 [.drw, GI n d] c Q E := by
  unfold grOk at hg
  refine ⟨⟨by omega, by omega, by omega, by omega⟩, by omega, fun r c' hr l1 l2 => ?_⟩
  obtain ⟨ms, rfl, hm⟩ := isKey_ks hr
  exact k ms hm c' l1 (by omega)
theorem permL_10 (x y : D) : permL [x, y] [1, 0] = [y, x] := rfl
theorem take_big {m : Int} (h : 0 < m) (l : m < 2 ^ 64) {c : Nat} {Q : D → Nat → Prop} {E : D → Nat → Prop} (hc : c + 1 < LIM) (k : ∀ i : Int, 0 ≤ i → i < m → ∀ c', c ≤ c' → c' ≤ c + 1 → Q (.int i) c') : sp12 [.drw, .int m] c Q E := by
  refine ⟨⟨h, ?_⟩, hc, fun r c' p l1 l2 => ?_⟩
  · have : m.natAbs < 2 ^ 64 := by omega
    have := log2_lt this (by decide)
    omega
  · obtain ⟨i, rfl, a, b⟩ := p
    exact k i a b c' l1 l2
def sp43 : List D → M D
  | [.drw, .tup [.int n, .int d]] => gd (grOk n d) (drawn 20 fun r => r = .bl true)
  | _ => fail
theorem r43 (h12 : Φ 12 = sp12) (h13 : Φ 13 = sp13) (h14 : Φ 14 = sp14) (h19 : Φ 19 = sp5d) (h20 : Φ 20 = sp20) (h22 : Φ 22 = sp22) (h35 : Φ 35 = sp35) (h36 : Φ 36 = sp36) (h42 : Φ 42 = sp42) (ds : List D) : Le (sp43 ds) (run Φ 6 S43 ds) := by
  intro c Q E h
  unfold sp43 at h
  split at h
  · rename_i n d
    obtain ⟨hg, hc, h⟩ := h
    have hg' := hg
    unfold grOk at hg'
    obtain ⟨p1, p0⟩ := pow_small hg
    generalize em : d ^ n.toNat = m at p1 p0
    (try simp -implicitDefEqProofs only [run, semB, ↓semS_loop, ↓sem_comp, semS, seqM_ap, sem, semL, semI, startE, getV_0, getV_s, outD_nx, outD_rt, truth_bl, ite_ap, partI_i, strM_s, isLst_l, isSeq_l, isSeq_t, mkE_o, mkE_v, itD_t, itD_l, itD_s, optM_some, bnd_ap, ret_ap, gd_ap, noE_ap, thr_ap, o_gtT, o_intB, o_sum, o_addI, o_addS, o_addT, o_addL, o_sub, o_mul, o_mulL, o_mulT, o_fdiv, o_mod, o_pow, o_eq, o_ne, o_ltI, o_gt, o_le, o_ge, o_inT, o_inL, o_ninT, o_ninL, o_inR, o_ninR, o_inS, o_ninS, o_isn, o_notn, o_lenS, o_lenT, o_lenL, o_isi, o_isC, o_tupT, o_tupL, o_lstT, o_lstL, o_int, o_abs, o_min, o_max, o_repr, o_rng1, o_rng2, o_ixT, o_ixL, o_ixS, o_slT, o_slL, o_slS, o_neg, o_revT, o_revL, o_join, o_upper, List.map_cons, List.map_nil, List.length_cons, List.length_nil, List.replicate_succ, List.replicate_zero, List.cons_append, List.nil_append, List.set_cons_zero, List.set_cons_succ, Nat.reduceAdd, Nat.reduceSub, Nat.zero_add, ↓reduceIte, Bool.not_true, Bool.not_false, Bool.false_eq_true, Bool.not_eq_true, decide_true, decide_false, Option.map, reduceCtorEq, ret_bnd, S43, ix0, ix1, h12, h13, h20, sp20])
    refine ⟨⟨by omega, by omega, by omega, by omega⟩, ⟨by decide, by decide⟩, ⟨by decide, by decide, by decide⟩, ?_⟩
    have G0 : ∀ {i : Int}, 0 ≤ i → i < m → KeyI n d (keyI n.toNat d i) := fun _ _ => keyI_key (by omega) (by omega)
    have int_small : ∀ {i : Int}, 0 ≤ i → i < m → okI (.int i) := fun a b => okI_int (by omega)
    refine take_big (by decide) (by decide) (by omega) fun i i0 i1 c1 l1 l2 => ?_
    (try simp -implicitDefEqProofs only [run, semB, ↓semS_loop, ↓sem_comp, semS, seqM_ap, sem, semL, semI, startE, getV_0, getV_s, outD_nx, outD_rt, truth_bl, ite_ap, partI_i, strM_s, isLst_l, isSeq_l, isSeq_t, mkE_o, mkE_v, itD_t, itD_l, itD_s, optM_some, bnd_ap, ret_ap, gd_ap, noE_ap, thr_ap, o_gtT, o_intB, o_sum, o_addI, o_addS, o_addT, o_addL, o_sub, o_mul, o_mulL, o_mulT, o_fdiv, o_mod, o_pow, o_eq, o_ne, o_ltI, o_gt, o_le, o_ge, o_inT, o_inL, o_ninT, o_ninL, o_inR, o_ninR, o_inS, o_ninS, o_isn, o_notn, o_lenS, o_lenT, o_lenL, o_isi, o_isC, o_tupT, o_tupL, o_lstT, o_lstL, o_int, o_abs, o_min, o_max, o_repr, o_rng1, o_rng2, o_ixT, o_ixL, o_ixS, o_slT, o_slL, o_slS, o_neg, o_revT, o_revL, o_join, o_upper, List.map_cons, List.map_nil, List.length_cons, List.length_nil, List.replicate_succ, List.replicate_zero, List.cons_append, List.nil_append, List.set_cons_zero, List.set_cons_succ, Nat.reduceAdd, Nat.reduceSub, Nat.zero_add, ↓reduceIte, Bool.not_true, Bool.not_false, Bool.false_eq_true, Bool.not_eq_true, decide_true, decide_false, Option.map, reduceCtorEq, ret_bnd])
    refine ⟨by rw [em]; exact p0, ?_⟩
    rw [em]
    refine pickL_ok (by simp) (by simp) (by omega) fun r hr c2 l3 l4 => ?_
    have : ∃ a : Int, r = .int a ∧ 0 ≤ a ∧ a < m := by
      have q1 := Int.emod_nonneg i (show m ≠ 0 by omega)
      have q2 := Int.emod_lt_of_pos i p0
      have q3 : m / 2 < m := Int.ediv_lt_of_lt_mul (by decide) (by omega)
      have q4 : 0 ≤ m / 2 := Int.ediv_nonneg (by omega) (by decide)
      simp only [List.mem_cons, List.not_mem_nil, or_false] at hr
      rcases hr with rfl | rfl | rfl | rfl
      · exact ⟨_, rfl, by omega, by omega⟩
      · exact ⟨_, rfl, by omega, by omega⟩
      · exact ⟨_, rfl, q4, q3⟩
      · exact ⟨_, rfl, q1, q2⟩
    obtain ⟨a, rfl, a0, a1⟩ := this
    have hk := G0 a0 a1
    have pk : placeI d (keyI n.toNat d a) = a := place_key (by omega) a0 (by rw [em]; exact a1)
    have fk := key_small hg hk
    simp -implicitDefEqProofs only [h36, h19, h42, h35, h14, h22, permL_10, run, semB, ↓semS_loop, ↓sem_comp, semS, seqM_ap, sem, semL, semI, startE, getV_0, getV_s, outD_nx, outD_rt, truth_bl, ite_ap, partI_i, strM_s, isLst_l, isSeq_l, isSeq_t, mkE_o, mkE_v, itD_t, itD_l, itD_s, optM_some, bnd_ap, ret_ap, gd_ap, noE_ap, thr_ap, o_gtT, o_intB, o_sum, o_addI, o_addS, o_addT, o_addL, o_sub, o_mul, o_mulL, o_mulT, o_fdiv, o_mod, o_pow, o_eq, o_ne, o_ltI, o_gt, o_le, o_ge, o_inT, o_inL, o_ninT, o_ninL, o_inR, o_ninR, o_inS, o_ninS, o_isn, o_notn, o_lenS, o_lenT, o_lenL, o_isi, o_isC, o_tupT, o_tupL, o_lstT, o_lstL, o_int, o_abs, o_min, o_max, o_repr, o_rng1, o_rng2, o_ixT, o_ixL, o_ixS, o_slT, o_slL, o_slS, o_neg, o_revT, o_revL, o_join, o_upper]
    refine sp36_ok hg a0 (by rw [em]; exact a1) (sp5d_ok hk ?_)
    (try simp -implicitDefEqProofs only [run, semB, ↓semS_loop, ↓sem_comp, semS, seqM_ap, sem, semL, semI, startE, getV_0, getV_s, outD_nx, outD_rt, truth_bl, ite_ap, partI_i, strM_s, isLst_l, isSeq_l, isSeq_t, mkE_o, mkE_v, itD_t, itD_l, itD_s, optM_some, bnd_ap, ret_ap, gd_ap, noE_ap, thr_ap, o_gtT, o_intB, o_sum, o_addI, o_addS, o_addT, o_addL, o_sub, o_mul, o_mulL, o_mulT, o_fdiv, o_mod, o_pow, o_eq, o_ne, o_ltI, o_gt, o_le, o_ge, o_inT, o_inL, o_ninT, o_ninL, o_inR, o_ninR, o_inS, o_ninS, o_isn, o_notn, o_lenS, o_lenT, o_lenL, o_isi, o_isC, o_tupT, o_tupL, o_lstT, o_lstL, o_int, o_abs, o_min, o_max, o_repr, o_rng1, o_rng2, o_ixT, o_ixL, o_ixS, o_slT, o_slL, o_slS, o_neg, o_revT, o_revL, o_join, o_upper, List.map_cons, List.map_nil, List.length_cons, List.length_nil, List.replicate_succ, List.replicate_zero, List.cons_append, List.nil_append, List.set_cons_zero, List.set_cons_succ, Nat.reduceAdd, Nat.reduceSub, Nat.zero_add, ↓reduceIte, Bool.not_true, Bool.not_false, Bool.false_eq_true, Bool.not_eq_true, decide_true, decide_false, Option.map, reduceCtorEq, ret_bnd])
    refine sp42_ok hg hk ?_
    rw [pk]
    refine ⟨⟨int_ok _, int_ok _⟩, ?_⟩
    rw [eqv_self _ rfl]
    (try simp -implicitDefEqProofs only [run, semB, ↓semS_loop, ↓sem_comp, semS, seqM_ap, sem, semL, semI, startE, getV_0, getV_s, outD_nx, outD_rt, truth_bl, ite_ap, partI_i, strM_s, isLst_l, isSeq_l, isSeq_t, mkE_o, mkE_v, itD_t, itD_l, itD_s, optM_some, bnd_ap, ret_ap, gd_ap, noE_ap, thr_ap, o_gtT, o_intB, o_sum, o_addI, o_addS, o_addT, o_addL, o_sub, o_mul, o_mulL, o_mulT, o_fdiv, o_mod, o_pow, o_eq, o_ne, o_ltI, o_gt, o_le, o_ge, o_inT, o_inL, o_ninT, o_ninL, o_inR, o_ninR, o_inS, o_ninS, o_isn, o_notn, o_lenS, o_lenT, o_lenL, o_isi, o_isC, o_tupT, o_tupL, o_lstT, o_lstL, o_int, o_abs, o_min, o_max, o_repr, o_rng1, o_rng2, o_ixT, o_ixL, o_ixS, o_slT, o_slL, o_slS, o_neg, o_revT, o_revL, o_join, o_upper, List.map_cons, List.map_nil, List.length_cons, List.length_nil, List.replicate_succ, List.replicate_zero, List.cons_append, List.nil_append, List.set_cons_zero, List.set_cons_succ, Nat.reduceAdd, Nat.reduceSub, Nat.zero_add, ↓reduceIte, Bool.not_true, Bool.not_false, Bool.false_eq_true, Bool.not_eq_true, decide_true, decide_false, Option.map, reduceCtorEq, ret_bnd])
    refine sp35_ok hg hk (sp35_ok hg hk (sp36_ok hg a0 (by rw [em]; exact a1) ?_))
    rw [pk]
    refine same_ok rfl (lst_fine (by simp) (all_cons (int_small a0 a1) (all_cons (int_small a0 a1) (all_cons fk all_nil)))) ?_
    (try simp -implicitDefEqProofs only [run, semB, ↓semS_loop, ↓sem_comp, semS, seqM_ap, sem, semL, semI, startE, getV_0, getV_s, outD_nx, outD_rt, truth_bl, ite_ap, partI_i, strM_s, isLst_l, isSeq_l, isSeq_t, mkE_o, mkE_v, itD_t, itD_l, itD_s, optM_some, bnd_ap, ret_ap, gd_ap, noE_ap, thr_ap, o_gtT, o_intB, o_sum, o_addI, o_addS, o_addT, o_addL, o_sub, o_mul, o_mulL, o_mulT, o_fdiv, o_mod, o_pow, o_eq, o_ne, o_ltI, o_gt, o_le, o_ge, o_inT, o_inL, o_ninT, o_ninL, o_inR, o_ninR, o_inS, o_ninS, o_isn, o_notn, o_lenS, o_lenT, o_lenL, o_isi, o_isC, o_tupT, o_tupL, o_lstT, o_lstL, o_int, o_abs, o_min, o_max, o_repr, o_rng1, o_rng2, o_ixT, o_ixL, o_ixS, o_slT, o_slL, o_slS, o_neg, o_revT, o_revL, o_join, o_upper, List.map_cons, List.map_nil, List.length_cons, List.length_nil, List.replicate_succ, List.replicate_zero, List.cons_append, List.nil_append, List.set_cons_zero, List.set_cons_succ, Nat.reduceAdd, Nat.reduceSub, Nat.zero_add, ↓reduceIte, Bool.not_true, Bool.not_false, Bool.false_eq_true, Bool.not_eq_true, decide_true, decide_false, Option.map, reduceCtorEq, ret_bnd])
    have last : sp22 [.drw, GI n d] c2 (fun x c' => sp35 [GI n d, x] c' (fun y c' => sp42 [GI n d, x] c' (fun z c' => sp36 [GI n d, z] c' (fun u c' => sp42 [GI n d, x] c' (fun v c' => sp14 [.lst [y, u], .lst [v, x]] c' Q E) E) E) E) E) E := by
      refine sp22_ok hg (by omega) fun ms hm c3 l5 l6 => ?_
      obtain ⟨z0, z1⟩ := placeI_lt (by omega) hm
      refine sp35_ok hg hm (sp42_ok hg hm (sp36_ok hg z0 z1 (sp42_ok hg hm ?_)))
      rw [key_place (by omega) hm]
      rw [em] at z1
      refine same_ok rfl (lst_fine (by simp) (all_cons (int_small z0 z1) (all_cons (key_small hg hm) all_nil))) ?_
      exact h _ _ rfl (by omega) (by omega)
    by_cases la : a + 1 < m
    · rw [if_pos (decide_eq_true la)]
      refine sp36_ok hg (by omega) (by rw [em]; exact la) ?_
      simp -implicitDefEqProofs only [bnd_ap, ret_ap, o_gtT, o_intB, o_sum, o_addI, o_addS, o_addT, o_addL, o_sub, o_mul, o_mulL, o_mulT, o_fdiv, o_mod, o_pow, o_eq, o_ne, o_ltI, o_gt, o_le, o_ge, o_inT, o_inL, o_ninT, o_ninL, o_inR, o_ninR, o_inS, o_ninS, o_isn, o_notn, o_lenS, o_lenT, o_lenL, o_isi, o_isC, o_tupT, o_tupL, o_lstT, o_lstL, o_int, o_abs, o_min, o_max, o_repr, o_rng1, o_rng2, o_ixT, o_ixL, o_ixS, o_slT, o_slL, o_slS, o_neg, o_revT, o_revL, o_join, o_upper, intsD_map, optM_some, truth_bl, key_lex (show 0 < d by omega) a0 (show a < a + 1 by omega) (show a + 1 < d ^ n.toNat by rw [em]; exact la), Bool.not_true, Bool.false_eq_true, if_false]
      exact last
    · rw [if_neg (by rw [decide_eq_true_eq]; exact la)]
      (try simp -implicitDefEqProofs only [run, semB, ↓semS_loop, ↓sem_comp, semS, seqM_ap, sem, semL, semI, startE, getV_0, getV_s, outD_nx, outD_rt, truth_bl, ite_ap, partI_i, strM_s, isLst_l, isSeq_l, isSeq_t, mkE_o, mkE_v, itD_t, itD_l, itD_s, optM_some, bnd_ap, ret_ap, gd_ap, noE_ap, thr_ap, o_gtT, o_intB, o_sum, o_addI, o_addS, o_addT, o_addL, o_sub, o_mul, o_mulL, o_mulT, o_fdiv, o_mod, o_pow, o_eq, o_ne, o_ltI, o_gt, o_le, o_ge, o_inT, o_inL, o_ninT, o_ninL, o_inR, o_ninR, o_inS, o_ninS, o_isn, o_notn, o_lenS, o_lenT, o_lenL, o_isi, o_isC, o_tupT, o_tupL, o_lstT, o_lstL, o_int, o_abs, o_min, o_max, o_repr, o_rng1, o_rng2, o_ixT, o_ixL, o_ixS, o_slT, o_slL, o_slS, o_neg, o_revT, o_revL, o_join, o_upper, List.map_cons, List.map_nil, List.length_cons, List.length_nil, List.replicate_succ, List.replicate_zero, List.cons_append, List.nil_append, List.set_cons_zero, List.set_cons_succ, Nat.reduceAdd, Nat.reduceSub, Nat.zero_add, ↓reduceIte, Bool.not_true, Bool.not_false, Bool.false_eq_true, Bool.not_eq_true, decide_true, decide_false, Option.map, reduceCtorEq, ret_bnd])
      exact last
  · exact h.elim
end PL

namespace PL
open PySem L2
variable {Φ : Fns}
theorem sp38_ok {n d : Int} {ks ms : List Int} (hg : grOk n d) (hk : KeyI n d ks) (hm : KeyI n d ms) {c : Nat} {Q E : D → Nat → Prop} (q : Q (KI (apI ks ms)) c) : sp38 [GI n d, KI ks, KI ms] c Q E := ⟨⟨gi_py n d, (ki_lim ks).1, (ki_lim ms).1⟩, gridM_ok hg (keyM_ok hk (keyM_ok hm q))⟩
theorem sp40_ok {n d i : Int} {ks ms : List Int} (hg : grOk n d) (hk : KeyI n d ks) (hm : KeyI n d ms) (i0 : 0 ≤ i) (i1 : i < n) {c : Nat} {Q E : D → Nat → Prop} (q : Q (KI (ks.set i.toNat (ms.getD i.toNat 0))) c) : sp40 [GI n d, KI ks, KI ms, .int i] c Q E :=
  ⟨⟨gi_py n d, (ki_lim ks).1, (ki_lim ms).1, rfl⟩, gridM_ok hg (keyM_ok hk (keyM_ok hm (plM_ok i0 (by omega) q)))⟩
theorem permL_210 (x y z : D) : permL [x, y, z] [2, 1, 0] = [z, y, x] := rfl
theorem permL_3210 (x y z u : D) : permL [x, y, z, u] [3, 2, 1, 0] = [u, z, y, x] := rfl
theorem apI_small {n d : Int} {ks ms : List Int} (hg : grOk n d) (hk : KeyI n d ks) : okI (KI (apI ks ms)) ∧ (apI ks ms).length ≤ 10 := by
  unfold grOk at hg
  have l := hk.1
  have le : (apI ks ms).length ≤ 10 := by
    unfold apI apN
    rw [List.length_map]
    have := List.length_filter_le (apP ks ms) (List.range ks.length)
    rw [List.length_range] at this
    omega
  refine ⟨okI_ki (by omega) fun k m => ?_, le⟩
  unfold apI at m
  obtain ⟨i, hi, rfl⟩ := List.mem_map.mp m
  have := (apN_mem.mp hi).1
  omega
theorem key_mix {n d : Int} {ks ms : List Int} {k : Int} (hk : KeyI n d ks) (hm : KeyI n d ms) (k0 : 0 ≤ k) (k1 : k ≤ n) : KeyI n d (ks.take k.toNat ++ ms.drop k.toNat) := by
  have l1 := hk.1
  have l2 := hm.1
  refine ⟨?_, fun y hy => ?_⟩
  · rw [List.length_append, List.length_take, List.length_drop]; omega
  · rcases List.mem_append.mp hy with h | h
    · exact hk.2 y (List.mem_of_mem_take h)
    · exact hm.2 y (List.mem_of_mem_drop h)
theorem key_set {n d : Int} {ks ms : List Int} {k : Nat} (hk : KeyI n d ks) (hm : KeyI n d ms) (h : k < ks.length) : KeyI n d (ks.set k (ms.getD k 0)) := by
  have l1 := hk.1
  have l2 := hm.1
  refine ⟨by rw [List.length_set]; exact l1, fun y hy => ?_⟩
  rcases List.mem_or_eq_of_mem_set hy with h2 | h2
  · exact hk.2 y h2
  · subst h2
    rw [List.getD_eq_getElem?_getD, List.getElem?_eq_getElem (show k < ms.length by omega)]
    exact hm.2 _ (List.getElem_mem _)
theorem eqvL_ints : ∀ a b : List Int, eqvL (a.map D.int) (b.map D.int) = decide (a = b)
  | [], [] => rfl
  | [], _ :: _ => rfl
  | _ :: _, [] => rfl
  | x :: a, y :: b => by
    rw [List.map_cons, List.map_cons, eqvL, eqvL_ints a b, D.eqv]
    by_cases h : x = y <;> by_cases h2 : a = b <;> simp [h, h2]
theorem eqv_ki (a b : List Int) : D.eqv (KI a) (KI b) = decide (a = b) := by
  rw [D.eqv]
  exact eqvL_ints a b
theorem any_ki (a : List Int) (i : Int) : ((a.map D.int).any fun y => D.eqv y (.int i)) = decide (i ∈ a) := by
  induction a with
  | nil => rfl
  | cons x a ih =>
    rw [List.map_cons, List.any_cons, ih, D.eqv]
    by_cases h : x = i
    · subst h; simp
    · have h2 : ¬ i = x := fun e => h e.symm
      simp [h, h2]
theorem ki_ok (a : List Int) : eqOk (KI a) := lim_ok (ki_lim a) (by decide)
theorem apI_mem {xs ys : List Int} {k : Int} (h : 0 ≤ k) : k ∈ apI xs ys ↔ k.toNat ∈ apN xs ys := by
  unfold apI
  rw [List.mem_map]
  constructor
  · rintro ⟨i, hi, e⟩
    have : k.toNat = i := by omega
    rw [this]; exact hi
  · intro m
    exact ⟨k.toNat, m, by omega⟩
def sp44 : List D → M D
  | [.drw, .tup [.int n, .int d]] => gd (grOk n d) (drawn 40 fun r => r = .bl true)
  | _ => fail
def S44t : List S := [.set 6 (.call 38 [(.var 1), (.var 2), (.var 3)]), .cond (.not (.call 14 [(.lst [(.var 6), (.callk 38 [] [(.var 3), (.var 2), (.var 1)] [2, 1, 0])]), (.bin .mul (.lst [(.bf .tuple [(.call 41 [(.var 2), (.var 3)])])]) (.const (.int 2)))])) [.ret (.const (.bl false))] [], .cond (.not (.call 14 [(.lst [(.call 38 [(.var 1), (.var 3), (.var 2)]), (.call 38 [(.var 1), (.var 2), (.var 2)])]), (.lst [(.var 6), (.tup [])])])) [.ret (.const (.bl false))] [], .cond (.cmp .gt (.bf .len [(.var 6)]) (.bin .add (.bf .len [(.call 38 [(.var 1), (.var 2), (.var 4)])]) (.bf .len [(.call 38 [(.var 1), (.var 4), (.var 3)])]))) [.ret (.const (.bl false))] [], .loop (.nm 5) (.rng1 (.ix (.var 1) (.const (.int 0)))) [.set 7 (.call 40 [(.var 1), (.var 2), (.var 3), (.var 5)]), .cond (.not (.call 14 [(.lst [(.var 7), (.callk 40 [] [(.var 5), (.var 3), (.var 2), (.var 1)] [3, 2, 1, 0])]), (.bin .mul (.lst [(.bin .add (.bin .add (.slT (.var 2) (.var 5)) (.tup [(.ix (.var 3) (.var 5))])) (.slF (.var 2) (.bin .add (.var 5) (.const (.int 1)))))]) (.const (.int 2)))])) [.ret (.const (.bl false))] [], .cond (.or (.cmp .ne (.bf .len [(.call 38 [(.var 1), (.var 7), (.var 3)])]) (.bin .sub (.bf .len [(.var 6)]) (.bf .int [(.cmp .isin (.var 5) (.var 6))]))) (.cmp .ne (.cmp .eq (.var 7) (.var 2)) (.cmp .notin (.var 5) (.var 6)))) [.ret (.const (.bl false))] []], .ret (.const (.bl true))]
theorem S44t_eq : S44 = [.asg (.tp [(.nm 2), (.nm 3), (.nm 4)]) (.comp [8] (.nm 8) (.rng1 (.const (.int 3))) (.const (.bl true)) (.call 22 [(.var 0), (.var 1)])), .cond (.cmp .eq (.call 12 [(.var 0), (.const (.int 3))]) (.const (.int 0))) [.set 5 (.call 12 [(.var 0), (.ix (.var 1) (.const (.int 0)))]), .set 3 (.bin .add (.slT (.var 2) (.var 5)) (.slF (.var 3) (.var 5)))] []] ++ S44t := rfl

theorem mem_of_some {xs ys : List Int} {n d : Int} (hx : KeyI n d xs) (hy : KeyI n d ys) {k : Nat} (h : k < xs.length) : ys[k]? = some (ys.getD k 0) := by
  have l1 := hx.1
  have l2 := hy.1
  rw [List.getD_eq_getElem?_getD, List.getElem?_eq_getElem (show k < ys.length by omega)]
  rfl
theorem r44t (h14 : Φ 14 = sp14) (h38 : Φ 38 = sp38) (h40 : Φ 40 = sp40) (h41 : Φ 41 = sp37) {n d : Int} (hg : grOk n d) {one other third : List Int} (h1 : KeyI n d one) (h2 : KeyI n d other) (h3 : KeyI n d third) {e5 : En} {c : Nat} {Q E : D → Nat → Prop} (q : Q (.bl true) c) :
    semB Φ S44t [.val .drw, .val (GI n d), .val (KI one), .val (KI other), .val (KI third), e5, .un, .un, .un] c (fun o c' => outD o c' Q E) E := by
  have hg' := hg
  unfold grOk at hg'
  have l1 := h1.1
  have l2 := h2.1
  have l3 := h3.1
  obtain ⟨f1, g1⟩ := apI_small (ms := other) hg h1
  have sy : apI other one = apI one other := by unfold apI; rw [apN_comm (by omega)]
  have sf : apI one one = [] := by unfold apI; rw [apN_self]; rfl
  (try simp -implicitDefEqProofs only [run, semB, ↓semS_loop, ↓sem_comp, semS, seqM_ap, sem, semL, semI, startE, getV_0, getV_s, outD_nx, outD_rt, truth_bl, ite_ap, partI_i, strM_s, isLst_l, isSeq_l, isSeq_t, mkE_o, mkE_v, itD_t, itD_l, itD_s, optM_some, bnd_ap, ret_ap, gd_ap, noE_ap, thr_ap, o_gtT, o_intB, o_sum, o_addI, o_addS, o_addT, o_addL, o_sub, o_mul, o_mulL, o_mulT, o_fdiv, o_mod, o_pow, o_eq, o_ne, o_ltI, o_gt, o_le, o_ge, o_inT, o_inL, o_ninT, o_ninL, o_inR, o_ninR, o_inS, o_ninS, o_isn, o_notn, o_lenS, o_lenT, o_lenL, o_isi, o_isC, o_tupT, o_tupL, o_lstT, o_lstL, o_int, o_abs, o_min, o_max, o_repr, o_rng1, o_rng2, o_ixT, o_ixL, o_ixS, o_slT, o_slL, o_slS, o_neg, o_revT, o_revL, o_join, o_upper, List.map_cons, List.map_nil, List.length_cons, List.length_nil, List.replicate_succ, List.replicate_zero, List.cons_append, List.nil_append, List.set_cons_zero, List.set_cons_succ, Nat.reduceAdd, Nat.reduceSub, Nat.zero_add, ↓reduceIte, Bool.not_true, Bool.not_false, Bool.false_eq_true, Bool.not_eq_true, decide_true, decide_false, Option.map, reduceCtorEq, ret_bnd, S44t, h38, h41, permL_210, h14])
  refine sp38_ok hg h1 h2 (sp38_ok hg h1 h2 ⟨one, other, rfl, rfl, by omega, by omega, ?_⟩)
  (try simp -implicitDefEqProofs only [run, semB, ↓semS_loop, ↓sem_comp, semS, seqM_ap, sem, semL, semI, startE, getV_0, getV_s, outD_nx, outD_rt, truth_bl, ite_ap, partI_i, strM_s, isLst_l, isSeq_l, isSeq_t, mkE_o, mkE_v, itD_t, itD_l, itD_s, optM_some, bnd_ap, ret_ap, gd_ap, noE_ap, thr_ap, o_gtT, o_intB, o_sum, o_addI, o_addS, o_addT, o_addL, o_sub, o_mul, o_mulL, o_mulT, o_fdiv, o_mod, o_pow, o_eq, o_ne, o_ltI, o_gt, o_le, o_ge, o_inT, o_inL, o_ninT, o_ninL, o_inR, o_ninR, o_inS, o_ninS, o_isn, o_notn, o_lenS, o_lenT, o_lenL, o_isi, o_isC, o_tupT, o_tupL, o_lstT, o_lstL, o_int, o_abs, o_min, o_max, o_repr, o_rng1, o_rng2, o_ixT, o_ixL, o_ixS, o_slT, o_slL, o_slS, o_neg, o_revT, o_revL, o_join, o_upper, List.map_cons, List.map_nil, List.length_cons, List.length_nil, List.replicate_succ, List.replicate_zero, List.cons_append, List.nil_append, List.set_cons_zero, List.set_cons_succ, Nat.reduceAdd, Nat.reduceSub, Nat.zero_add, ↓reduceIte, Bool.not_true, Bool.not_false, Bool.false_eq_true, Bool.not_eq_true, decide_true, decide_false, Option.map, reduceCtorEq, ret_bnd, rep_2])
  refine ⟨⟨by decide, by decide, by unfold szOk; decide⟩, ?_⟩
  refine same_ok rfl (lst_fine (by simp) (all_cons f1 (all_cons f1 all_nil))) ?_
  (try simp -implicitDefEqProofs only [run, semB, ↓semS_loop, ↓sem_comp, semS, seqM_ap, sem, semL, semI, startE, getV_0, getV_s, outD_nx, outD_rt, truth_bl, ite_ap, partI_i, strM_s, isLst_l, isSeq_l, isSeq_t, mkE_o, mkE_v, itD_t, itD_l, itD_s, optM_some, bnd_ap, ret_ap, gd_ap, noE_ap, thr_ap, o_gtT, o_intB, o_sum, o_addI, o_addS, o_addT, o_addL, o_sub, o_mul, o_mulL, o_mulT, o_fdiv, o_mod, o_pow, o_eq, o_ne, o_ltI, o_gt, o_le, o_ge, o_inT, o_inL, o_ninT, o_ninL, o_inR, o_ninR, o_inS, o_ninS, o_isn, o_notn, o_lenS, o_lenT, o_lenL, o_isi, o_isC, o_tupT, o_tupL, o_lstT, o_lstL, o_int, o_abs, o_min, o_max, o_repr, o_rng1, o_rng2, o_ixT, o_ixL, o_ixS, o_slT, o_slL, o_slS, o_neg, o_revT, o_revL, o_join, o_upper, List.map_cons, List.map_nil, List.length_cons, List.length_nil, List.replicate_succ, List.replicate_zero, List.cons_append, List.nil_append, List.set_cons_zero, List.set_cons_succ, Nat.reduceAdd, Nat.reduceSub, Nat.zero_add, ↓reduceIte, Bool.not_true, Bool.not_false, Bool.false_eq_true, Bool.not_eq_true, decide_true, decide_false, Option.map, reduceCtorEq, ret_bnd])
  refine sp38_ok hg h2 h1 (sp38_ok hg h1 h1 ?_)
  rw [sy, sf]
  have fn : okI (.tup []) := okI_ki (ks := []) (by simp) (fun _ m => nomatch m)
  refine same_ok rfl (lst_fine (by simp) (all_cons f1 (all_cons fn all_nil))) ?_
  (try simp -implicitDefEqProofs only [run, semB, ↓semS_loop, ↓sem_comp, semS, seqM_ap, sem, semL, semI, startE, getV_0, getV_s, outD_nx, outD_rt, truth_bl, ite_ap, partI_i, strM_s, isLst_l, isSeq_l, isSeq_t, mkE_o, mkE_v, itD_t, itD_l, itD_s, optM_some, bnd_ap, ret_ap, gd_ap, noE_ap, thr_ap, o_gtT, o_intB, o_sum, o_addI, o_addS, o_addT, o_addL, o_sub, o_mul, o_mulL, o_mulT, o_fdiv, o_mod, o_pow, o_eq, o_ne, o_ltI, o_gt, o_le, o_ge, o_inT, o_inL, o_ninT, o_ninL, o_inR, o_ninR, o_inS, o_ninS, o_isn, o_notn, o_lenS, o_lenT, o_lenL, o_isi, o_isC, o_tupT, o_tupL, o_lstT, o_lstL, o_int, o_abs, o_min, o_max, o_repr, o_rng1, o_rng2, o_ixT, o_ixL, o_ixS, o_slT, o_slL, o_slS, o_neg, o_revT, o_revL, o_join, o_upper, List.map_cons, List.map_nil, List.length_cons, List.length_nil, List.replicate_succ, List.replicate_zero, List.cons_append, List.nil_append, List.set_cons_zero, List.set_cons_succ, Nat.reduceAdd, Nat.reduceSub, Nat.zero_add, ↓reduceIte, Bool.not_true, Bool.not_false, Bool.false_eq_true, Bool.not_eq_true, decide_true, decide_false, Option.map, reduceCtorEq, ret_bnd])
  refine sp38_ok hg h1 h3 ?_
  (try simp -implicitDefEqProofs only [run, semB, ↓semS_loop, ↓sem_comp, semS, seqM_ap, sem, semL, semI, startE, getV_0, getV_s, outD_nx, outD_rt, truth_bl, ite_ap, partI_i, strM_s, isLst_l, isSeq_l, isSeq_t, mkE_o, mkE_v, itD_t, itD_l, itD_s, optM_some, bnd_ap, ret_ap, gd_ap, noE_ap, thr_ap, o_gtT, o_intB, o_sum, o_addI, o_addS, o_addT, o_addL, o_sub, o_mul, o_mulL, o_mulT, o_fdiv, o_mod, o_pow, o_eq, o_ne, o_ltI, o_gt, o_le, o_ge, o_inT, o_inL, o_ninT, o_ninL, o_inR, o_ninR, o_inS, o_ninS, o_isn, o_notn, o_lenS, o_lenT, o_lenL, o_isi, o_isC, o_tupT, o_tupL, o_lstT, o_lstL, o_int, o_abs, o_min, o_max, o_repr, o_rng1, o_rng2, o_ixT, o_ixL, o_ixS, o_slT, o_slL, o_slS, o_neg, o_revT, o_revL, o_join, o_upper, List.map_cons, List.map_nil, List.length_cons, List.length_nil, List.replicate_succ, List.replicate_zero, List.cons_append, List.nil_append, List.set_cons_zero, List.set_cons_succ, Nat.reduceAdd, Nat.reduceSub, Nat.zero_add, ↓reduceIte, Bool.not_true, Bool.not_false, Bool.false_eq_true, Bool.not_eq_true, decide_true, decide_false, Option.map, reduceCtorEq, ret_bnd])
  refine sp38_ok hg h3 h2 ?_
  (try simp -implicitDefEqProofs only [run, semB, ↓semS_loop, ↓sem_comp, semS, seqM_ap, sem, semL, semI, startE, getV_0, getV_s, outD_nx, outD_rt, truth_bl, ite_ap, partI_i, strM_s, isLst_l, isSeq_l, isSeq_t, mkE_o, mkE_v, itD_t, itD_l, itD_s, optM_some, bnd_ap, ret_ap, gd_ap, noE_ap, thr_ap, o_gtT, o_intB, o_sum, o_addI, o_addS, o_addT, o_addL, o_sub, o_mul, o_mulL, o_mulT, o_fdiv, o_mod, o_pow, o_eq, o_ne, o_ltI, o_gt, o_le, o_ge, o_inT, o_inL, o_ninT, o_ninL, o_inR, o_ninR, o_inS, o_ninS, o_isn, o_notn, o_lenS, o_lenT, o_lenL, o_isi, o_isC, o_tupT, o_tupL, o_lstT, o_lstL, o_int, o_abs, o_min, o_max, o_repr, o_rng1, o_rng2, o_ixT, o_ixL, o_ixS, o_slT, o_slL, o_slS, o_neg, o_revT, o_revL, o_join, o_upper, List.map_cons, List.map_nil, List.length_cons, List.length_nil, List.replicate_succ, List.replicate_zero, List.cons_append, List.nil_append, List.set_cons_zero, List.set_cons_succ, Nat.reduceAdd, Nat.reduceSub, Nat.zero_add, ↓reduceIte, Bool.not_true, Bool.not_false, Bool.false_eq_true, Bool.not_eq_true, decide_true, decide_false, Option.map, reduceCtorEq, ret_bnd, ix0])
  have tri : ¬ (((apI one other).map D.int).length : Int) > (((apI one third).map D.int).length : Int) + (((apI third other).map D.int).length : Int) := by
    have := apN_tri (xs := one) (ys := other) (zs := third) (by omega) (by omega)
    unfold apI
    simp only [List.length_map]
    omega
  rw [if_neg (by rw [decide_eq_true_eq]; exact tri)]
  refine ⟨⟨by omega, by omega⟩, ?_⟩
  refine loopB_ind (fun ds ρ c => ∃ (e5 e7 e8 : En), ρ = [.val .drw, .val (GI n d), .val (KI one), .val (KI other), .val (KI third), e5, .val (KI (apI one other)), e7, e8] ∧ (∀ x ∈ ds, ∃ i : Int, x = .int i ∧ 0 ≤ i ∧ i < n) ∧ Q (.bl true) c) ⟨_, _, _, rfl, ?_, q⟩ ?_ ?_
  · intro x hx
    obtain ⟨a, ha, rfl⟩ := List.mem_map.mp hx
    have := List.mem_range.mp ha
    exact ⟨_, rfl, by omega, by omega⟩
  · rintro x ds ρ c ⟨e5, e7, e8, rfl, hx, q⟩ K kn _ _ _
    obtain ⟨i, rfl, i0, i1⟩ := hx x List.mem_cons_self
    have ei : (i.toNat : Int) = i := by omega
    have ik : i.toNat < one.length := by omega
    have im : i.toNat < other.length := by omega
    have a1 := atI_ints (ks := other) (i := i.toNat) im
    rw [ei] at a1
    have go : other.getD i.toNat 0 = other[i.toNat] := by rw [List.getD_eq_getElem?_getD, List.getElem?_eq_getElem im]; rfl
    generalize hF : one.set i.toNat (other.getD i.toNat 0) = F
    have kF : KeyI n d F := by rw [← hF]; exact key_set h1 h2 ik
    have sF : cutD (one.map D.int) none (some i) ++ [D.int other[i.toNat]] ++ cutD (one.map D.int) (some (i + 1)) none = F.map D.int := by
      rw [set_cut i0 (by rw [List.length_map]; omega), ← hF, go, List.map_set]
    have fF := key_small hg kF
    have s1 := cutD_len (one.map D.int) none (some i)
    have s2 := cutD_len (one.map D.int) (some (i + 1)) none
    rw [List.length_map] at s1 s2
    (try simp -implicitDefEqProofs only [run, semB, ↓semS_loop, ↓sem_comp, semS, seqM_ap, sem, semL, semI, startE, getV_0, getV_s, outD_nx, outD_rt, truth_bl, ite_ap, partI_i, strM_s, isLst_l, isSeq_l, isSeq_t, mkE_o, mkE_v, itD_t, itD_l, itD_s, optM_some, bnd_ap, ret_ap, gd_ap, noE_ap, thr_ap, o_gtT, o_intB, o_sum, o_addI, o_addS, o_addT, o_addL, o_sub, o_mul, o_mulL, o_mulT, o_fdiv, o_mod, o_pow, o_eq, o_ne, o_ltI, o_gt, o_le, o_ge, o_inT, o_inL, o_ninT, o_ninL, o_inR, o_ninR, o_inS, o_ninS, o_isn, o_notn, o_lenS, o_lenT, o_lenL, o_isi, o_isC, o_tupT, o_tupL, o_lstT, o_lstL, o_int, o_abs, o_min, o_max, o_repr, o_rng1, o_rng2, o_ixT, o_ixL, o_ixS, o_slT, o_slL, o_slS, o_neg, o_revT, o_revL, o_join, o_upper, List.map_cons, List.map_nil, List.length_cons, List.length_nil, List.replicate_succ, List.replicate_zero, List.cons_append, List.nil_append, List.set_cons_zero, List.set_cons_succ, Nat.reduceAdd, Nat.reduceSub, Nat.zero_add, ↓reduceIte, Bool.not_true, Bool.not_false, Bool.false_eq_true, Bool.not_eq_true, decide_true, decide_false, Option.map, reduceCtorEq, ret_bnd, asgE, h40, h14, h38, permL_3210, a1])
    refine sp40_ok hg h1 h2 i0 i1 ?_
    rw [hF]
    (try simp -implicitDefEqProofs only [run, semB, ↓semS_loop, ↓sem_comp, semS, seqM_ap, sem, semL, semI, startE, getV_0, getV_s, outD_nx, outD_rt, truth_bl, ite_ap, partI_i, strM_s, isLst_l, isSeq_l, isSeq_t, mkE_o, mkE_v, itD_t, itD_l, itD_s, optM_some, bnd_ap, ret_ap, gd_ap, noE_ap, thr_ap, o_gtT, o_intB, o_sum, o_addI, o_addS, o_addT, o_addL, o_sub, o_mul, o_mulL, o_mulT, o_fdiv, o_mod, o_pow, o_eq, o_ne, o_ltI, o_gt, o_le, o_ge, o_inT, o_inL, o_ninT, o_ninL, o_inR, o_ninR, o_inS, o_ninS, o_isn, o_notn, o_lenS, o_lenT, o_lenL, o_isi, o_isC, o_tupT, o_tupL, o_lstT, o_lstL, o_int, o_abs, o_min, o_max, o_repr, o_rng1, o_rng2, o_ixT, o_ixL, o_ixS, o_slT, o_slL, o_slS, o_neg, o_revT, o_revL, o_join, o_upper, List.map_cons, List.map_nil, List.length_cons, List.length_nil, List.replicate_succ, List.replicate_zero, List.cons_append, List.nil_append, List.set_cons_zero, List.set_cons_succ, Nat.reduceAdd, Nat.reduceSub, Nat.zero_add, ↓reduceIte, Bool.not_true, Bool.not_false, Bool.false_eq_true, Bool.not_eq_true, decide_true, decide_false, Option.map, reduceCtorEq, ret_bnd])
    refine sp40_ok hg h1 h2 i0 i1 ?_
    rw [hF]
    (try simp -implicitDefEqProofs only [run, semB, ↓semS_loop, ↓sem_comp, semS, seqM_ap, sem, semL, semI, startE, getV_0, getV_s, outD_nx, outD_rt, truth_bl, ite_ap, partI_i, strM_s, isLst_l, isSeq_l, isSeq_t, mkE_o, mkE_v, itD_t, itD_l, itD_s, optM_some, bnd_ap, ret_ap, gd_ap, noE_ap, thr_ap, o_gtT, o_intB, o_sum, o_addI, o_addS, o_addT, o_addL, o_sub, o_mul, o_mulL, o_mulT, o_fdiv, o_mod, o_pow, o_eq, o_ne, o_ltI, o_gt, o_le, o_ge, o_inT, o_inL, o_ninT, o_ninL, o_inR, o_ninR, o_inS, o_ninS, o_isn, o_notn, o_lenS, o_lenT, o_lenL, o_isi, o_isC, o_tupT, o_tupL, o_lstT, o_lstL, o_int, o_abs, o_min, o_max, o_repr, o_rng1, o_rng2, o_ixT, o_ixL, o_ixS, o_slT, o_slL, o_slS, o_neg, o_revT, o_revL, o_join, o_upper, List.map_cons, List.map_nil, List.length_cons, List.length_nil, List.replicate_succ, List.replicate_zero, List.cons_append, List.nil_append, List.set_cons_zero, List.set_cons_succ, Nat.reduceAdd, Nat.reduceSub, Nat.zero_add, ↓reduceIte, Bool.not_true, Bool.not_false, Bool.false_eq_true, Bool.not_eq_true, decide_true, decide_false, Option.map, reduceCtorEq, ret_bnd, a1])
    refine ⟨by unfold szOk; omega, by unfold szOk; rw [List.length_append]; simp only [List.length_cons, List.length_nil]; omega, ⟨by decide, by decide, by unfold szOk; decide⟩, ?_⟩
    rw [sF, rep_2]
    refine same_ok rfl (lst_fine (by simp) (all_cons fF (all_cons fF all_nil))) ?_
    (try simp -implicitDefEqProofs only [run, semB, ↓semS_loop, ↓sem_comp, semS, seqM_ap, sem, semL, semI, startE, getV_0, getV_s, outD_nx, outD_rt, truth_bl, ite_ap, partI_i, strM_s, isLst_l, isSeq_l, isSeq_t, mkE_o, mkE_v, itD_t, itD_l, itD_s, optM_some, bnd_ap, ret_ap, gd_ap, noE_ap, thr_ap, o_gtT, o_intB, o_sum, o_addI, o_addS, o_addT, o_addL, o_sub, o_mul, o_mulL, o_mulT, o_fdiv, o_mod, o_pow, o_eq, o_ne, o_ltI, o_gt, o_le, o_ge, o_inT, o_inL, o_ninT, o_ninL, o_inR, o_ninR, o_inS, o_ninS, o_isn, o_notn, o_lenS, o_lenT, o_lenL, o_isi, o_isC, o_tupT, o_tupL, o_lstT, o_lstL, o_int, o_abs, o_min, o_max, o_repr, o_rng1, o_rng2, o_ixT, o_ixL, o_ixS, o_slT, o_slL, o_slS, o_neg, o_revT, o_revL, o_join, o_upper, List.map_cons, List.map_nil, List.length_cons, List.length_nil, List.replicate_succ, List.replicate_zero, List.cons_append, List.nil_append, List.set_cons_zero, List.set_cons_succ, Nat.reduceAdd, Nat.reduceSub, Nat.zero_add, ↓reduceIte, Bool.not_true, Bool.not_false, Bool.false_eq_true, Bool.not_eq_true, decide_true, decide_false, Option.map, reduceCtorEq, ret_bnd])
    refine sp38_ok hg kF h2 ?_
    (try simp -implicitDefEqProofs only [run, semB, ↓semS_loop, ↓sem_comp, semS, seqM_ap, sem, semL, semI, startE, getV_0, getV_s, outD_nx, outD_rt, truth_bl, ite_ap, partI_i, strM_s, isLst_l, isSeq_l, isSeq_t, mkE_o, mkE_v, itD_t, itD_l, itD_s, optM_some, bnd_ap, ret_ap, gd_ap, noE_ap, thr_ap, o_gtT, o_intB, o_sum, o_addI, o_addS, o_addT, o_addL, o_sub, o_mul, o_mulL, o_mulT, o_fdiv, o_mod, o_pow, o_eq, o_ne, o_ltI, o_gt, o_le, o_ge, o_inT, o_inL, o_ninT, o_ninL, o_inR, o_ninR, o_inS, o_ninS, o_isn, o_notn, o_lenS, o_lenT, o_lenL, o_isi, o_isC, o_tupT, o_tupL, o_lstT, o_lstL, o_int, o_abs, o_min, o_max, o_repr, o_rng1, o_rng2, o_ixT, o_ixL, o_ixS, o_slT, o_slL, o_slS, o_neg, o_revT, o_revL, o_join, o_upper, List.map_cons, List.map_nil, List.length_cons, List.length_nil, List.replicate_succ, List.replicate_zero, List.cons_append, List.nil_append, List.set_cons_zero, List.set_cons_succ, Nat.reduceAdd, Nat.reduceSub, Nat.zero_add, ↓reduceIte, Bool.not_true, Bool.not_false, Bool.false_eq_true, Bool.not_eq_true, decide_true, decide_false, Option.map, reduceCtorEq, ret_bnd])
    rw [any_ki]
    have cnt := apN_set (xs := one) (ys := other) (k := i.toNat) (y := other.getD i.toNat 0) ik (mem_of_some h1 h2 ik)
    rw [hF] at cnt
    have mm := apI_mem (xs := one) (ys := other) i0
    have la : ∀ a b : List Int, (apI a b).length = (apN a b).length := fun a b => by unfold apI; rw [List.length_map]
    have fe : F = one ↔ i ∉ apI one other := by
      rw [mm, apN_mem, ← hF, set_eq ik]
      rw [mem_of_some h1 h2 ik]
      constructor
      · intro e w; exact w.2 e
      · intro w
        by_cases e : one[i.toNat]? = some (other.getD i.toNat 0)
        · exact e
        · exact absurd ⟨ik, e⟩ w
    have oa : eqOk (D.tup ((apI one other).map D.int)) := ki_ok _
    refine ⟨⟨int_ok _, oa⟩, ⟨int_ok _, int_ok _⟩, ?_⟩
    have eN : (((apI F other).map D.int).length : Int) = ((apI one other).map D.int).length - (if decide (i ∈ apI one other) = true then (1 : Int) else 0) := by
      rw [List.length_map, List.length_map, la, la]
      by_cases w : i ∈ apI one other
      · rw [if_pos (decide_eq_true w)]
        rw [if_pos (mm.mp w)] at cnt
        omega
      · rw [if_neg (by rw [decide_eq_true_eq]; exact w)]
        rw [if_neg (fun z => w (mm.mpr z))] at cnt
        omega
    have e1 : D.eqv (.int (((apI F other).map D.int).length : Int)) (.int (((apI one other).map D.int).length - (if decide (i ∈ apI one other) = true then (1 : Int) else 0))) = true := by
      rw [D.eqv]
      exact decide_eq_true eN
    have e2 : D.eqv (.bl (D.eqv (KI F) (KI one))) (.bl (!decide (i ∈ apI one other))) = true := by
      rw [eqv_ki, D.eqv]
      by_cases w : i ∈ apI one other
      · rw [decide_eq_true w, decide_eq_false (fun z => fe.mp z w)]; rfl
      · rw [decide_eq_false w, decide_eq_true (fe.mpr w)]; rfl
    rw [e1, e2]
    (try simp -implicitDefEqProofs only [run, semB, ↓semS_loop, ↓sem_comp, semS, seqM_ap, sem, semL, semI, startE, getV_0, getV_s, outD_nx, outD_rt, truth_bl, ite_ap, partI_i, strM_s, isLst_l, isSeq_l, isSeq_t, mkE_o, mkE_v, itD_t, itD_l, itD_s, optM_some, bnd_ap, ret_ap, gd_ap, noE_ap, thr_ap, o_gtT, o_intB, o_sum, o_addI, o_addS, o_addT, o_addL, o_sub, o_mul, o_mulL, o_mulT, o_fdiv, o_mod, o_pow, o_eq, o_ne, o_ltI, o_gt, o_le, o_ge, o_inT, o_inL, o_ninT, o_ninL, o_inR, o_ninR, o_inS, o_ninS, o_isn, o_notn, o_lenS, o_lenT, o_lenL, o_isi, o_isC, o_tupT, o_tupL, o_lstT, o_lstL, o_int, o_abs, o_min, o_max, o_repr, o_rng1, o_rng2, o_ixT, o_ixL, o_ixS, o_slT, o_slL, o_slS, o_neg, o_revT, o_revL, o_join, o_upper, List.map_cons, List.map_nil, List.length_cons, List.length_nil, List.replicate_succ, List.replicate_zero, List.cons_append, List.nil_append, List.set_cons_zero, List.set_cons_succ, Nat.reduceAdd, Nat.reduceSub, Nat.zero_add, ↓reduceIte, Bool.not_true, Bool.not_false, Bool.false_eq_true, Bool.not_eq_true, decide_true, decide_false, Option.map, reduceCtorEq, ret_bnd])
    refine ⟨⟨ki_ok _, ki_ok _⟩, ⟨int_ok _, oa⟩, ⟨⟨rfl, by simp [D.depth]⟩, ⟨rfl, by simp [D.depth]⟩⟩, ?_⟩
    exact kn _ _ ⟨_, _, _, rfl, fun x m => hx x (List.mem_cons_of_mem _ m), q⟩
  · rintro ρ c ⟨e5, e7, e8, rfl, hx, q⟩
    (try simp -implicitDefEqProofs only [run, semB, ↓semS_loop, ↓sem_comp, semS, seqM_ap, sem, semL, semI, startE, getV_0, getV_s, outD_nx, outD_rt, truth_bl, ite_ap, partI_i, strM_s, isLst_l, isSeq_l, isSeq_t, mkE_o, mkE_v, itD_t, itD_l, itD_s, optM_some, bnd_ap, ret_ap, gd_ap, noE_ap, thr_ap, o_gtT, o_intB, o_sum, o_addI, o_addS, o_addT, o_addL, o_sub, o_mul, o_mulL, o_mulT, o_fdiv, o_mod, o_pow, o_eq, o_ne, o_ltI, o_gt, o_le, o_ge, o_inT, o_inL, o_ninT, o_ninL, o_inR, o_ninR, o_inS, o_ninS, o_isn, o_notn, o_lenS, o_lenT, o_lenL, o_isi, o_isC, o_tupT, o_tupL, o_lstT, o_lstL, o_int, o_abs, o_min, o_max, o_repr, o_rng1, o_rng2, o_ixT, o_ixL, o_ixS, o_slT, o_slL, o_slS, o_neg, o_revT, o_revL, o_join, o_upper, List.map_cons, List.map_nil, List.length_cons, List.length_nil, List.replicate_succ, List.replicate_zero, List.cons_append, List.nil_append, List.set_cons_zero, List.set_cons_succ, Nat.reduceAdd, Nat.reduceSub, Nat.zero_add, ↓reduceIte, Bool.not_true, Bool.not_false, Bool.false_eq_true, Bool.not_eq_true, decide_true, decide_false, Option.map, reduceCtorEq, ret_bnd])
    exact q
theorem r44 (h12 : Φ 12 = sp12) (h14 : Φ 14 = sp14) (h22 : Φ 22 = sp22) (h38 : Φ 38 = sp38) (h40 : Φ 40 = sp40) (h41 : Φ 41 = sp37) (ds : List D) : Le (sp44 ds) (run Φ 9 S44 ds) := by
  intro c Q E h
  unfold sp44 at h
  split at h
  · rename_i n d
    obtain ⟨hg, hc, h⟩ := h
    have hg' := hg
    unfold grOk at hg'
    rw [S44t_eq]
    (try simp -implicitDefEqProofs only [run, semB, ↓semS_loop, ↓sem_comp, semS, seqM_ap, sem, semL, semI, startE, getV_0, getV_s, outD_nx, outD_rt, truth_bl, ite_ap, partI_i, strM_s, isLst_l, isSeq_l, isSeq_t, mkE_o, mkE_v, itD_t, itD_l, itD_s, optM_some, bnd_ap, ret_ap, gd_ap, noE_ap, thr_ap, o_gtT, o_intB, o_sum, o_addI, o_addS, o_addT, o_addL, o_sub, o_mul, o_mulL, o_mulT, o_fdiv, o_mod, o_pow, o_eq, o_ne, o_ltI, o_gt, o_le, o_ge, o_inT, o_inL, o_ninT, o_ninL, o_inR, o_ninR, o_inS, o_ninS, o_isn, o_notn, o_lenS, o_lenT, o_lenL, o_isi, o_isC, o_tupT, o_tupL, o_lstT, o_lstL, o_int, o_abs, o_min, o_max, o_repr, o_rng1, o_rng2, o_ixT, o_ixL, o_ixS, o_slT, o_slL, o_slS, o_neg, o_revT, o_revL, o_join, o_upper, List.map_cons, List.map_nil, List.length_cons, List.length_nil, List.replicate_succ, List.replicate_zero, List.cons_append, List.nil_append, List.set_cons_zero, List.set_cons_succ, Nat.reduceAdd, Nat.reduceSub, Nat.zero_add, ↓reduceIte, Bool.not_true, Bool.not_false, Bool.false_eq_true, Bool.not_eq_true, decide_true, decide_false, Option.map, reduceCtorEq, ret_bnd, ix0, ix1, h12])
    refine ⟨⟨by decide, by decide⟩, ?_⟩
    refine compB_draw 10 (fun y => ∃ ks, y = KI ks ∧ KeyI n d ks) (fun x hx c K hc k => ?_) (by rw [rngL_len]; show c + 10 * 3 < LIM; omega) fun ys c1 ly hy l1 l2 => ?_
    · (try simp -implicitDefEqProofs only [run, semB, ↓semS_loop, ↓sem_comp, semS, seqM_ap, sem, semL, semI, startE, getV_0, getV_s, outD_nx, outD_rt, truth_bl, ite_ap, partI_i, strM_s, isLst_l, isSeq_l, isSeq_t, mkE_o, mkE_v, itD_t, itD_l, itD_s, optM_some, bnd_ap, ret_ap, gd_ap, noE_ap, thr_ap, o_gtT, o_intB, o_sum, o_addI, o_addS, o_addT, o_addL, o_sub, o_mul, o_mulL, o_mulT, o_fdiv, o_mod, o_pow, o_eq, o_ne, o_ltI, o_gt, o_le, o_ge, o_inT, o_inL, o_ninT, o_ninL, o_inR, o_ninR, o_inS, o_ninS, o_isn, o_notn, o_lenS, o_lenT, o_lenL, o_isi, o_isC, o_tupT, o_tupL, o_lstT, o_lstL, o_int, o_abs, o_min, o_max, o_repr, o_rng1, o_rng2, o_ixT, o_ixL, o_ixS, o_slT, o_slL, o_slS, o_neg, o_revT, o_revL, o_join, o_upper, List.map_cons, List.map_nil, List.length_cons, List.length_nil, List.replicate_succ, List.replicate_zero, List.cons_append, List.nil_append, List.set_cons_zero, List.set_cons_succ, Nat.reduceAdd, Nat.reduceSub, Nat.zero_add, ↓reduceIte, Bool.not_true, Bool.not_false, Bool.false_eq_true, Bool.not_eq_true, decide_true, decide_false, Option.map, reduceCtorEq, ret_bnd, turnB, asgE, asgL, wipeE, h22])
      exact sp22_ok hg hc fun ms hm c' l1 l2 => k _ _ ⟨ms, rfl, hm⟩ l1 l2
    · rw [rngL_len] at ly l2
      have l2 : c1 ≤ c + 30 := l2
      match ys, ly, hy with
      | [x, y, z], _, hy =>
        obtain ⟨one, rfl, h1⟩ := hy x (by simp)
        obtain ⟨other, rfl, h2⟩ := hy y (by simp)
        obtain ⟨third, rfl, h3⟩ := hy z (by simp)
        have lo := h1.1
        (try simp -implicitDefEqProofs only [run, semB, ↓semS_loop, ↓sem_comp, semS, seqM_ap, sem, semL, semI, startE, getV_0, getV_s, outD_nx, outD_rt, truth_bl, ite_ap, partI_i, strM_s, isLst_l, isSeq_l, isSeq_t, mkE_o, mkE_v, itD_t, itD_l, itD_s, optM_some, bnd_ap, ret_ap, gd_ap, noE_ap, thr_ap, o_gtT, o_intB, o_sum, o_addI, o_addS, o_addT, o_addL, o_sub, o_mul, o_mulL, o_mulT, o_fdiv, o_mod, o_pow, o_eq, o_ne, o_ltI, o_gt, o_le, o_ge, o_inT, o_inL, o_ninT, o_ninL, o_inR, o_ninR, o_inS, o_ninS, o_isn, o_notn, o_lenS, o_lenT, o_lenL, o_isi, o_isC, o_tupT, o_tupL, o_lstT, o_lstL, o_int, o_abs, o_min, o_max, o_repr, o_rng1, o_rng2, o_ixT, o_ixL, o_ixS, o_slT, o_slL, o_slS, o_neg, o_revT, o_revL, o_join, o_upper, List.map_cons, List.map_nil, List.length_cons, List.length_nil, List.replicate_succ, List.replicate_zero, List.cons_append, List.nil_append, List.set_cons_zero, List.set_cons_succ, Nat.reduceAdd, Nat.reduceSub, Nat.zero_add, ↓reduceIte, Bool.not_true, Bool.not_false, Bool.false_eq_true, Bool.not_eq_true, decide_true, decide_false, Option.map, reduceCtorEq, ret_bnd, asgE, asgL])
        refine take_ok (by decide) (by decide) (by omega) fun i i0 i1 c2 l3 l4 => ?_
        refine ⟨⟨int_ok _, int_ok _⟩, ?_⟩
        rw [D.eqv]
        split
        · (try simp -implicitDefEqProofs only [run, semB, ↓semS_loop, ↓sem_comp, semS, seqM_ap, sem, semL, semI, startE, getV_0, getV_s, outD_nx, outD_rt, truth_bl, ite_ap, partI_i, strM_s, isLst_l, isSeq_l, isSeq_t, mkE_o, mkE_v, itD_t, itD_l, itD_s, optM_some, bnd_ap, ret_ap, gd_ap, noE_ap, thr_ap, o_gtT, o_intB, o_sum, o_addI, o_addS, o_addT, o_addL, o_sub, o_mul, o_mulL, o_mulT, o_fdiv, o_mod, o_pow, o_eq, o_ne, o_ltI, o_gt, o_le, o_ge, o_inT, o_inL, o_ninT, o_ninL, o_inR, o_ninR, o_inS, o_ninS, o_isn, o_notn, o_lenS, o_lenT, o_lenL, o_isi, o_isC, o_tupT, o_tupL, o_lstT, o_lstL, o_int, o_abs, o_min, o_max, o_repr, o_rng1, o_rng2, o_ixT, o_ixL, o_ixS, o_slT, o_slL, o_slS, o_neg, o_revT, o_revL, o_join, o_upper, List.map_cons, List.map_nil, List.length_cons, List.length_nil, List.replicate_succ, List.replicate_zero, List.cons_append, List.nil_append, List.set_cons_zero, List.set_cons_succ, Nat.reduceAdd, Nat.reduceSub, Nat.zero_add, ↓reduceIte, Bool.not_true, Bool.not_false, Bool.false_eq_true, Bool.not_eq_true, decide_true, decide_false, Option.map, reduceCtorEq, ret_bnd, ix0])
          refine take_ok (by omega) (by omega) (by omega) fun k k0 k1 c3 l5 l6 => ?_
          (try simp -implicitDefEqProofs only [run, semB, ↓semS_loop, ↓sem_comp, semS, seqM_ap, sem, semL, semI, startE, getV_0, getV_s, outD_nx, outD_rt, truth_bl, ite_ap, partI_i, strM_s, isLst_l, isSeq_l, isSeq_t, mkE_o, mkE_v, itD_t, itD_l, itD_s, optM_some, bnd_ap, ret_ap, gd_ap, noE_ap, thr_ap, o_gtT, o_intB, o_sum, o_addI, o_addS, o_addT, o_addL, o_sub, o_mul, o_mulL, o_mulT, o_fdiv, o_mod, o_pow, o_eq, o_ne, o_ltI, o_gt, o_le, o_ge, o_inT, o_inL, o_ninT, o_ninL, o_inR, o_ninR, o_inS, o_ninS, o_isn, o_notn, o_lenS, o_lenT, o_lenL, o_isi, o_isC, o_tupT, o_tupL, o_lstT, o_lstL, o_int, o_abs, o_min, o_max, o_repr, o_rng1, o_rng2, o_ixT, o_ixL, o_ixS, o_slT, o_slL, o_slS, o_neg, o_revT, o_revL, o_join, o_upper, List.map_cons, List.map_nil, List.length_cons, List.length_nil, List.replicate_succ, List.replicate_zero, List.cons_append, List.nil_append, List.set_cons_zero, List.set_cons_succ, Nat.reduceAdd, Nat.reduceSub, Nat.zero_add, ↓reduceIte, Bool.not_true, Bool.not_false, Bool.false_eq_true, Bool.not_eq_true, decide_true, decide_false, Option.map, reduceCtorEq, ret_bnd])
          have ek : (k.toNat : Int) = k := by omega
          have s1 := cutD_len (one.map D.int) none (some k)
          have s2 := cutD_len (other.map D.int) (some k) none
          have lo2 := h2.1
          rw [List.length_map] at s1 s2
          have e1 : cutD (one.map D.int) none (some k) ++ cutD (other.map D.int) (some k) none = (one.take k.toNat ++ other.drop k.toNat).map D.int := by
            have a := cut_take (one.map D.int) k.toNat
            have b := cut_drop (other.map D.int) k.toNat
            rw [ek] at a b
            rw [a, b, List.map_append, List.map_take, List.map_drop]
          refine ⟨by unfold szOk; omega, ?_⟩
          rw [e1]
          exact r44t h14 h38 h40 h41 hg h1 (key_mix h1 h2 k0 (by omega)) h3 (h _ _ rfl (by omega) (by omega))
        · (try simp -implicitDefEqProofs only [run, semB, ↓semS_loop, ↓sem_comp, semS, seqM_ap, sem, semL, semI, startE, getV_0, getV_s, outD_nx, outD_rt, truth_bl, ite_ap, partI_i, strM_s, isLst_l, isSeq_l, isSeq_t, mkE_o, mkE_v, itD_t, itD_l, itD_s, optM_some, bnd_ap, ret_ap, gd_ap, noE_ap, thr_ap, o_gtT, o_intB, o_sum, o_addI, o_addS, o_addT, o_addL, o_sub, o_mul, o_mulL, o_mulT, o_fdiv, o_mod, o_pow, o_eq, o_ne, o_ltI, o_gt, o_le, o_ge, o_inT, o_inL, o_ninT, o_ninL, o_inR, o_ninR, o_inS, o_ninS, o_isn, o_notn, o_lenS, o_lenT, o_lenL, o_isi, o_isC, o_tupT, o_tupL, o_lstT, o_lstL, o_int, o_abs, o_min, o_max, o_repr, o_rng1, o_rng2, o_ixT, o_ixL, o_ixS, o_slT, o_slL, o_slS, o_neg, o_revT, o_revL, o_join, o_upper, List.map_cons, List.map_nil, List.length_cons, List.length_nil, List.replicate_succ, List.replicate_zero, List.cons_append, List.nil_append, List.set_cons_zero, List.set_cons_succ, Nat.reduceAdd, Nat.reduceSub, Nat.zero_add, ↓reduceIte, Bool.not_true, Bool.not_false, Bool.false_eq_true, Bool.not_eq_true, decide_true, decide_false, Option.map, reduceCtorEq, ret_bnd])
          exact r44t h14 h38 h40 h41 hg h1 h2 h3 (h _ _ rfl (by omega) (by omega))
  · exact h.elim
end PL

namespace PL
open PySem L2
variable {Φ : Fns}
structure Ph1 (Φ : Fns) : Prop where
  h13 : Φ 13 = sp13
  h20 : Φ 20 = sp20
  h21 : Φ 21 = sp21
  h22 : Φ 22 = sp22
  h26 : Φ 26 = sp26
  h27 : Φ 27 = sp27
  h29 : Φ 29 = sp29
  h35 : Φ 35 = sp35
  h36 : Φ 36 = sp36
  h38 : Φ 38 = sp38
  h40 : Φ 40 = sp40
  h43 : Φ 43 = sp43
  h44 : Φ 44 = sp44
def due1 : List D := [.str "BadGrid", .str "BadKey", .str "BadGrid", .str "BadPlace", .str "BadGrid", .str "BadOne", .str "BadOther", .str "BadGrid", .str "BadOne", .str "BadOther", .str "BadChamber"]
theorem toldOk_of {e : Str} (h : e ∈ errs) : toldOk (.thk false (.exc e .non)) := h
theorem r45 (F : Ph1 Φ) (ns : List Int) (hn : ns.length ≤ 63) : semB Φ S45 [.val (.lst (ns.map D.int)), .val .drw, .un, .un, .un, .un, .un, .un, .un, .un, .un] 0 (fun o _ => o = .rt (.bl true)) (fun _ _ => False) := by
  (try simp -implicitDefEqProofs only [run, semB, ↓semS_loop, ↓sem_comp, semS, seqM_ap, sem, semL, semI, startE, getV_0, getV_s, outD_nx, outD_rt, truth_bl, ite_ap, partI_i, strM_s, isLst_l, isSeq_l, isSeq_t, mkE_o, mkE_v, itD_t, itD_l, itD_s, optM_some, bnd_ap, ret_ap, gd_ap, noE_ap, thr_ap, o_gtT, o_intB, o_sum, o_addI, o_addS, o_addT, o_addL, o_sub, o_mul, o_mulL, o_mulT, o_fdiv, o_mod, o_pow, o_eq, o_ne, o_ltI, o_gt, o_le, o_ge, o_inT, o_inL, o_ninT, o_ninL, o_inR, o_ninR, o_inS, o_ninS, o_isn, o_notn, o_lenS, o_lenT, o_lenL, o_isi, o_isC, o_tupT, o_tupL, o_lstT, o_lstL, o_int, o_abs, o_min, o_max, o_repr, o_rng1, o_rng2, o_ixT, o_ixL, o_ixS, o_slT, o_slL, o_slS, o_neg, o_revT, o_revL, o_join, o_upper, List.map_cons, List.map_nil, List.length_cons, List.length_nil, List.replicate_succ, List.replicate_zero, List.cons_append, List.nil_append, List.set_cons_zero, List.set_cons_succ, Nat.reduceAdd, Nat.reduceSub, Nat.zero_add, ↓reduceIte, Bool.not_true, Bool.not_false, Bool.false_eq_true, Bool.not_eq_true, decide_true, decide_false, Option.map, reduceCtorEq, ret_bnd, S45])
  rw [List.length_map]
  have hm : ∃ m : Nat, (4 + if (20 : Int) < ns.length then (20 : Int) else ns.length) = (m : Int) ∧ m ≤ 24 := by
    split
    · exact ⟨24, rfl, by decide⟩
    · exact ⟨4 + ns.length, by omega, by omega⟩
  obtain ⟨m, em, hm⟩ := hm
  rw [em]
  refine ⟨by omega, ?_⟩
  refine loopB_ind (fun ds ρ c => ∃ (e2 e3 e4 e5 e6 e7 e8 e9 e10 : En), ρ = [.val (.lst (ns.map D.int)), .val .drw, e2, e3, e4, e5, e6, e7, e8, e9, e10] ∧ c + 200 * ds.length ≤ 10000) ⟨_, _, _, _, _, _, _, _, _, rfl, ?_⟩ ?_ ?_
  · rw [rngL_len]; omega
  · rintro x ds ρ c ⟨e2, e3, e4, e5, e6, e7, e8, e9, e10, rfl, hc⟩ K kn _ _ _
    rw [List.length_cons] at hc
    (try simp -implicitDefEqProofs only [run, semB, ↓semS_loop, ↓sem_comp, semS, seqM_ap, sem, semL, semI, startE, getV_0, getV_s, outD_nx, outD_rt, truth_bl, ite_ap, partI_i, strM_s, isLst_l, isSeq_l, isSeq_t, mkE_o, mkE_v, itD_t, itD_l, itD_s, optM_some, bnd_ap, ret_ap, gd_ap, noE_ap, thr_ap, o_gtT, o_intB, o_sum, o_addI, o_addS, o_addT, o_addL, o_sub, o_mul, o_mulL, o_mulT, o_fdiv, o_mod, o_pow, o_eq, o_ne, o_ltI, o_gt, o_le, o_ge, o_inT, o_inL, o_ninT, o_ninL, o_inR, o_ninR, o_inS, o_ninS, o_isn, o_notn, o_lenS, o_lenT, o_lenL, o_isi, o_isC, o_tupT, o_tupL, o_lstT, o_lstL, o_int, o_abs, o_min, o_max, o_repr, o_rng1, o_rng2, o_ixT, o_ixL, o_ixS, o_slT, o_slL, o_slS, o_neg, o_revT, o_revL, o_join, o_upper, List.map_cons, List.map_nil, List.length_cons, List.length_nil, List.replicate_succ, List.replicate_zero, List.cons_append, List.nil_append, List.set_cons_zero, List.set_cons_succ, Nat.reduceAdd, Nat.reduceSub, Nat.zero_add, ↓reduceIte, Bool.not_true, Bool.not_false, Bool.false_eq_true, Bool.not_eq_true, decide_true, decide_false, Option.map, reduceCtorEq, ret_bnd, asgE, asgL, F.h21, F.h43, F.h44])
    refine ⟨by unfold LIM; omega, fun g c1 hg l1 l2 => ?_⟩
    obtain ⟨n, d, rfl, n0, n1, d0, d1⟩ := hg
    have hg : grOk n d := ⟨n0, n1, d0, d1⟩
    refine ⟨hg, by unfold LIM; omega, fun r c2 hr l3 l4 => ?_⟩
    subst hr
    (try simp -implicitDefEqProofs only [run, semB, ↓semS_loop, ↓sem_comp, semS, seqM_ap, sem, semL, semI, startE, getV_0, getV_s, outD_nx, outD_rt, truth_bl, ite_ap, partI_i, strM_s, isLst_l, isSeq_l, isSeq_t, mkE_o, mkE_v, itD_t, itD_l, itD_s, optM_some, bnd_ap, ret_ap, gd_ap, noE_ap, thr_ap, o_gtT, o_intB, o_sum, o_addI, o_addS, o_addT, o_addL, o_sub, o_mul, o_mulL, o_mulT, o_fdiv, o_mod, o_pow, o_eq, o_ne, o_ltI, o_gt, o_le, o_ge, o_inT, o_inL, o_ninT, o_ninL, o_inR, o_ninR, o_inS, o_ninS, o_isn, o_notn, o_lenS, o_lenT, o_lenL, o_isi, o_isC, o_tupT, o_tupL, o_lstT, o_lstL, o_int, o_abs, o_min, o_max, o_repr, o_rng1, o_rng2, o_ixT, o_ixL, o_ixS, o_slT, o_slL, o_slS, o_neg, o_revT, o_revL, o_join, o_upper, List.map_cons, List.map_nil, List.length_cons, List.length_nil, List.replicate_succ, List.replicate_zero, List.cons_append, List.nil_append, List.set_cons_zero, List.set_cons_succ, Nat.reduceAdd, Nat.reduceSub, Nat.zero_add, ↓reduceIte, Bool.not_true, Bool.not_false, Bool.false_eq_true, Bool.not_eq_true, decide_true, decide_false, Option.map, reduceCtorEq, ret_bnd])
    refine ⟨hg, by unfold LIM; omega, fun r c3 hr l5 l6 => ?_⟩
    subst hr
    (try simp -implicitDefEqProofs only [run, semB, ↓semS_loop, ↓sem_comp, semS, seqM_ap, sem, semL, semI, startE, getV_0, getV_s, outD_nx, outD_rt, truth_bl, ite_ap, partI_i, strM_s, isLst_l, isSeq_l, isSeq_t, mkE_o, mkE_v, itD_t, itD_l, itD_s, optM_some, bnd_ap, ret_ap, gd_ap, noE_ap, thr_ap, o_gtT, o_intB, o_sum, o_addI, o_addS, o_addT, o_addL, o_sub, o_mul, o_mulL, o_mulT, o_fdiv, o_mod, o_pow, o_eq, o_ne, o_ltI, o_gt, o_le, o_ge, o_inT, o_inL, o_ninT, o_ninL, o_inR, o_ninR, o_inS, o_ninS, o_isn, o_notn, o_lenS, o_lenT, o_lenL, o_isi, o_isC, o_tupT, o_tupL, o_lstT, o_lstL, o_int, o_abs, o_min, o_max, o_repr, o_rng1, o_rng2, o_ixT, o_ixL, o_ixS, o_slT, o_slL, o_slS, o_neg, o_revT, o_revL, o_join, o_upper, List.map_cons, List.map_nil, List.length_cons, List.length_nil, List.replicate_succ, List.replicate_zero, List.cons_append, List.nil_append, List.set_cons_zero, List.set_cons_succ, Nat.reduceAdd, Nat.reduceSub, Nat.zero_add, ↓reduceIte, Bool.not_true, Bool.not_false, Bool.false_eq_true, Bool.not_eq_true, decide_true, decide_false, Option.map, reduceCtorEq, ret_bnd, asgE, asgL, F.h22, F.h26, F.h27, F.h20, F.h13])
    refine sp22_ok hg (by unfold LIM; omega) fun ks hk c4 l7 l8 => ?_
    refine ⟨by unfold LIM; omega, fun b c5 hb l9 l10 => ?_⟩
    obtain ⟨blim, bg⟩ := hb
    refine ⟨by omega, by unfold LIM; omega, fun w c6 hw l11 l12 => ?_⟩
    obtain ⟨wlim, wk⟩ := hw
    (try simp -implicitDefEqProofs only [run, semB, ↓semS_loop, ↓sem_comp, semS, seqM_ap, sem, semL, semI, startE, getV_0, getV_s, outD_nx, outD_rt, truth_bl, ite_ap, partI_i, strM_s, isLst_l, isSeq_l, isSeq_t, mkE_o, mkE_v, itD_t, itD_l, itD_s, optM_some, bnd_ap, ret_ap, gd_ap, noE_ap, thr_ap, o_gtT, o_intB, o_sum, o_addI, o_addS, o_addT, o_addL, o_sub, o_mul, o_mulL, o_mulT, o_fdiv, o_mod, o_pow, o_eq, o_ne, o_ltI, o_gt, o_le, o_ge, o_inT, o_inL, o_ninT, o_ninL, o_inR, o_ninR, o_inS, o_ninS, o_isn, o_notn, o_lenS, o_lenT, o_lenL, o_isi, o_isC, o_tupT, o_tupL, o_lstT, o_lstL, o_int, o_abs, o_min, o_max, o_repr, o_rng1, o_rng2, o_ixT, o_ixL, o_ixS, o_slT, o_slL, o_slS, o_neg, o_revT, o_revL, o_join, o_upper, List.map_cons, List.map_nil, List.length_cons, List.length_nil, List.replicate_succ, List.replicate_zero, List.cons_append, List.nil_append, List.set_cons_zero, List.set_cons_succ, Nat.reduceAdd, Nat.reduceSub, Nat.zero_add, ↓reduceIte, Bool.not_true, Bool.not_false, Bool.false_eq_true, Bool.not_eq_true, decide_true, decide_false, Option.map, reduceCtorEq, ret_bnd, asgE, asgL, ix0, ix1, F.h20, F.h13, sp20])
    refine ⟨⟨by omega, by omega, by omega, by omega⟩, ?_⟩
    obtain ⟨p1, p0⟩ := pow_small hg
    refine pickL_ok (by simp) (by simp) (by unfold LIM; omega) fun at_ hat c7 l13 l14 => ?_
    have at_bad : at_.lim 1 ∧ inB at_ 0 (d ^ n.toNat - 1) = false := by
      simp only [List.mem_cons, List.not_mem_nil, or_false] at hat
      rcases hat with rfl | rfl | rfl | rfl | rfl | rfl
      · exact ⟨lim_int _ _, rfl⟩
      · exact ⟨lim_int _ _, by simp only [inB, Bool.and_eq_false_iff, decide_eq_false_iff_not]; omega⟩
      · exact ⟨lim_non _, rfl⟩
      · exact ⟨lim_bl _ _, rfl⟩
      · exact ⟨lim_str _ _, rfl⟩
      · exact ⟨lim_one (lim_int _ _), rfl⟩
    refine pickL_ok (by simp) (by simp) (by unfold LIM; omega) fun k hkk c8 l15 l16 => ?_
    have k_bad : k.lim 1 ∧ inB k 0 (n - 1) = false := by
      simp only [List.mem_cons, List.not_mem_nil, or_false] at hkk
      rcases hkk with rfl | rfl | rfl | rfl | rfl | rfl
      · exact ⟨lim_int _ _, rfl⟩
      · exact ⟨lim_int _ _, by simp only [inB, Bool.and_eq_false_iff, decide_eq_false_iff_not]; omega⟩
      · exact ⟨lim_non _, rfl⟩
      · exact ⟨lim_bl _ _, rfl⟩
      · exact ⟨lim_str _ _, rfl⟩
      · exact ⟨lim_one (lim_int _ _), rfl⟩
    (try simp -implicitDefEqProofs only [run, semB, ↓semS_loop, ↓sem_comp, semS, seqM_ap, sem, semL, semI, startE, getV_0, getV_s, outD_nx, outD_rt, truth_bl, ite_ap, partI_i, strM_s, isLst_l, isSeq_l, isSeq_t, mkE_o, mkE_v, itD_t, itD_l, itD_s, optM_some, bnd_ap, ret_ap, gd_ap, noE_ap, thr_ap, o_gtT, o_intB, o_sum, o_addI, o_addS, o_addT, o_addL, o_sub, o_mul, o_mulL, o_mulT, o_fdiv, o_mod, o_pow, o_eq, o_ne, o_ltI, o_gt, o_le, o_ge, o_inT, o_inL, o_ninT, o_ninL, o_inR, o_ninR, o_inS, o_ninS, o_isn, o_notn, o_lenS, o_lenT, o_lenL, o_isi, o_isC, o_tupT, o_tupL, o_lstT, o_lstL, o_int, o_abs, o_min, o_max, o_repr, o_rng1, o_rng2, o_ixT, o_ixL, o_ixS, o_slT, o_slL, o_slS, o_neg, o_revT, o_revL, o_join, o_upper, List.map_cons, List.map_nil, List.length_cons, List.length_nil, List.replicate_succ, List.replicate_zero, List.cons_append, List.nil_append, List.set_cons_zero, List.set_cons_succ, Nat.reduceAdd, Nat.reduceSub, Nat.zero_add, ↓reduceIte, Bool.not_true, Bool.not_false, Bool.false_eq_true, Bool.not_eq_true, decide_true, decide_false, Option.map, reduceCtorEq, ret_bnd, semTh, hideO, F.h35, F.h36, F.h38, F.h40, F.h29])
    have gp := gi_py n d
    have kp := (ki_lim ks).1
    refine thk_raise (e := .exc "BadGrid" .non) (fun c Q E q => ⟨⟨blim.1, wlim.1⟩, gridM_bad bg q⟩) ?_
    refine thk_raise (e := .exc "BadKey" .non) (fun c Q E q => ⟨⟨gp, wlim.1⟩, gridM_ok hg (keyM_bad wk q)⟩) ?_
    refine thk_raise (e := .exc "BadGrid" .non) (fun c Q E q => ⟨⟨blim.1, at_bad.1.1⟩, gridM_bad bg q⟩) ?_
    refine thk_raise (e := .exc "BadPlace" .non) (fun c Q E q => ⟨⟨gp, at_bad.1.1⟩, gridM_ok hg (plM_bad at_bad.2 q)⟩) ?_
    refine thk_raise (e := .exc "BadGrid" .non) (fun c Q E q => ⟨⟨blim.1, wlim.1, wlim.1⟩, gridM_bad bg q⟩) ?_
    refine thk_raise (e := .exc "BadOne" .non) (fun c Q E q => ⟨⟨gp, wlim.1, wlim.1⟩, gridM_ok hg (keyM_bad wk q)⟩) ?_
    refine thk_raise (e := .exc "BadOther" .non) (fun c Q E q => ⟨⟨gp, kp, wlim.1⟩, gridM_ok hg (keyM_ok hk (keyM_bad wk q))⟩) ?_
    refine thk_raise (e := .exc "BadGrid" .non) (fun c Q E q => ⟨⟨blim.1, wlim.1, wlim.1, k_bad.1.1⟩, gridM_bad bg q⟩) ?_
    refine thk_raise (e := .exc "BadOne" .non) (fun c Q E q => ⟨⟨gp, wlim.1, wlim.1, k_bad.1.1⟩, gridM_ok hg (keyM_bad wk q)⟩) ?_
    refine thk_raise (e := .exc "BadOther" .non) (fun c Q E q => ⟨⟨gp, kp, wlim.1, k_bad.1.1⟩, gridM_ok hg (keyM_ok hk (keyM_bad wk q))⟩) ?_
    refine thk_raise (e := .exc "BadChamber" .non) (fun c Q E q => ⟨⟨gp, kp, kp, k_bad.1.1⟩, gridM_ok hg (keyM_ok hk (keyM_ok hk (plM_bad k_bad.2 q)))⟩) ?_
    have mE : ∀ e ∈ ([("BadGrid" : Str), "BadKey", "BadPlace", "BadOne", "BadOther", "BadChamber"] : List Str), e ∈ errs := by decide +kernel
    have t1 := toldOk_of (mE "BadGrid" (by decide +kernel))
    have t2 := toldOk_of (mE "BadKey" (by decide +kernel))
    have t3 := toldOk_of (mE "BadPlace" (by decide +kernel))
    have t4 := toldOk_of (mE "BadOne" (by decide +kernel))
    have t5 := toldOk_of (mE "BadOther" (by decide +kernel))
    have t6 := toldOk_of (mE "BadChamber" (by decide +kernel))
    have bs : (D.lst due1).lim 1 := lim_lst.mpr (by
      have s := lim_str 0
      exact all_cons (s _) (all_cons (s _) (all_cons (s _) (all_cons (s _) (all_cons (s _) (all_cons (s _) (all_cons (s _) (all_cons (s _) (all_cons (s _) (all_cons (s _) (all_cons (s _) all_nil)))))))))))
    refine ⟨⟨all_cons t1 (all_cons t2 (all_cons t1 (all_cons t3 (all_cons t1 (all_cons t4 (all_cons t5 (all_cons t1 (all_cons t4 (all_cons t5 (all_cons t6 all_nil)))))))))), show 11 ≤ 1000000 by decide⟩, ?_⟩
    refine ⟨bs.1, ?_⟩
    have okb := lim_ok bs (by decide)
    show (eqOk (.lst due1) ∧ eqOk (.lst due1)) ∧ (if (!D.eqv (.lst due1) (.lst due1)) = true then K _ c8 else K _ c8)
    rw [eqv_self _ bs.1]
    exact ⟨⟨okb, okb⟩, kn _ _ ⟨_, _, _, _, _, _, _, _, _, rfl, by omega⟩⟩
  · rintro ρ c ⟨e2, e3, e4, e5, e6, e7, e8, e9, e10, rfl, _⟩
    (try simp -implicitDefEqProofs only [run, semB, ↓semS_loop, ↓sem_comp, semS, seqM_ap, sem, semL, semI, startE, getV_0, getV_s, outD_nx, outD_rt, truth_bl, ite_ap, partI_i, strM_s, isLst_l, isSeq_l, isSeq_t, mkE_o, mkE_v, itD_t, itD_l, itD_s, optM_some, bnd_ap, ret_ap, gd_ap, noE_ap, thr_ap, o_gtT, o_intB, o_sum, o_addI, o_addS, o_addT, o_addL, o_sub, o_mul, o_mulL, o_mulT, o_fdiv, o_mod, o_pow, o_eq, o_ne, o_ltI, o_gt, o_le, o_ge, o_inT, o_inL, o_ninT, o_ninL, o_inR, o_ninR, o_inS, o_ninS, o_isn, o_notn, o_lenS, o_lenT, o_lenL, o_isi, o_isC, o_tupT, o_tupL, o_lstT, o_lstL, o_int, o_abs, o_min, o_max, o_repr, o_rng1, o_rng2, o_ixT, o_ixL, o_ixS, o_slT, o_slL, o_slS, o_neg, o_revT, o_revL, o_join, o_upper, List.map_cons, List.map_nil, List.length_cons, List.length_nil, List.replicate_succ, List.replicate_zero, List.cons_append, List.nil_append, List.set_cons_zero, List.set_cons_succ, Nat.reduceAdd, Nat.reduceSub, Nat.zero_add, ↓reduceIte, Bool.not_true, Bool.not_false, Bool.false_eq_true, Bool.not_eq_true, decide_true, decide_false, Option.map, reduceCtorEq, ret_bnd])
theorem law_plain1 (F : Ph1 Φ) (ns : List Int) (hl : ns.length ≤ 63) : semB Φ S45 ((startE 11 [.lst (ns.map D.int)]).set 1 (.val .drw)) 0 (fun o _ => o = .rt (.bl true)) (fun _ _ => False) := r45 F ns hl
end PL

namespace PL
open PySem L2
/-! the def that begins the draw -/
def begS : S := .own 1 (.comp [2] (.nm 2) (.val (.var 0)) (.cmp .ge (.bf .abs [.var 2]) (.bin .pow (.const (.int 10)) (.const (.int 18)))) (.bin .sub (.bf .abs [.var 2]) (.bin .pow (.const (.int 10)) (.const (.int 18)))))
def begT : T := .comp [2] (.nm 2) (.val (.var 0)) (.const (.bl true)) (.bin .mod (.bf .int [.bf .abs [.var 2]]) (.const (.int 2147483629)))
theorem filterMap_int {f : D → Option D} (h : ∀ i : Int, f (.int i) = none ∨ ∃ j : Int, f (.int i) = some (.int j)) : ∀ ns : List Int, ∃ ms : List Int, (ns.map D.int).filterMap f = ms.map D.int ∧ ms.length ≤ ns.length
  | [] => ⟨[], rfl, Nat.le_refl _⟩
  | n :: ns => by
    obtain ⟨ms, e, l⟩ := filterMap_int h ns
    rw [List.map_cons]
    rcases h n with z | ⟨j, z⟩
    · exact ⟨ms, by rw [List.filterMap_cons_none z, e], by rw [List.length_cons]; omega⟩
    · exact ⟨j :: ms, by rw [List.filterMap_cons_some z, e]; rfl, by rw [List.length_cons, List.length_cons]; omega⟩
def wideD : D → Option D
  | .int i => if (10 : Int) ^ (18 : Int).toNat ≤ (if i < 0 then -i else i) then some (.int ((if i < 0 then -i else i) - 10 ^ (18 : Int).toNat)) else none
  | _ => none
def cellD : D → Option D
  | .int i => some (.int ((if i < 0 then -i else i) % 2147483629))
  | _ => none
theorem begun_law {Φ : Fns} : begM Φ 3 begS begT 1 (fun ns => ns.length ≤ 63) := by
  intro ns hl
  have cp : CPow 10 18 := ⟨by decide, by decide, by decide⟩
  unfold begS begT
  (try simp -implicitDefEqProofs only [run, semB, ↓semS_loop, ↓sem_comp, semS, seqM_ap, sem, semL, semI, startE, getV_0, getV_s, outD_nx, outD_rt, truth_bl, ite_ap, partI_i, strM_s, isLst_l, isSeq_l, isSeq_t, mkE_o, mkE_v, itD_t, itD_l, itD_s, optM_some, bnd_ap, ret_ap, gd_ap, noE_ap, thr_ap, o_gtT, o_intB, o_sum, o_addI, o_addS, o_addT, o_addL, o_sub, o_mul, o_mulL, o_mulT, o_fdiv, o_mod, o_pow, o_eq, o_ne, o_ltI, o_gt, o_le, o_ge, o_inT, o_inL, o_ninT, o_ninL, o_inR, o_ninR, o_inS, o_ninS, o_isn, o_notn, o_lenS, o_lenT, o_lenL, o_isi, o_isC, o_tupT, o_tupL, o_lstT, o_lstL, o_int, o_abs, o_min, o_max, o_repr, o_rng1, o_rng2, o_ixT, o_ixL, o_ixS, o_slT, o_slL, o_slS, o_neg, o_revT, o_revL, o_join, o_upper, List.map_cons, List.map_nil, List.length_cons, List.length_nil, List.replicate_succ, List.replicate_zero, List.cons_append, List.nil_append, List.set_cons_zero, List.set_cons_succ, Nat.reduceAdd, Nat.reduceSub, Nat.zero_add, ↓reduceIte, Bool.not_true, Bool.not_false, Bool.false_eq_true, Bool.not_eq_true, decide_true, decide_false, Option.map, reduceCtorEq, ret_bnd])
  refine compB_pure wideD (fun d hd c K k => ?_) ?_
  · obtain ⟨i, _, rfl⟩ := List.mem_map.mp hd
    (try simp -implicitDefEqProofs only [run, semB, ↓semS_loop, ↓sem_comp, semS, seqM_ap, sem, semL, semI, startE, getV_0, getV_s, outD_nx, outD_rt, truth_bl, ite_ap, partI_i, strM_s, isLst_l, isSeq_l, isSeq_t, mkE_o, mkE_v, itD_t, itD_l, itD_s, optM_some, bnd_ap, ret_ap, gd_ap, noE_ap, thr_ap, o_gtT, o_intB, o_sum, o_addI, o_addS, o_addT, o_addL, o_sub, o_mul, o_mulL, o_mulT, o_fdiv, o_mod, o_pow, o_eq, o_ne, o_ltI, o_gt, o_le, o_ge, o_inT, o_inL, o_ninT, o_ninL, o_inR, o_ninR, o_inS, o_ninS, o_isn, o_notn, o_lenS, o_lenT, o_lenL, o_isi, o_isC, o_tupT, o_tupL, o_lstT, o_lstL, o_int, o_abs, o_min, o_max, o_repr, o_rng1, o_rng2, o_ixT, o_ixL, o_ixS, o_slT, o_slL, o_slS, o_neg, o_revT, o_revL, o_join, o_upper, List.map_cons, List.map_nil, List.length_cons, List.length_nil, List.replicate_succ, List.replicate_zero, List.cons_append, List.nil_append, List.set_cons_zero, List.set_cons_succ, Nat.reduceAdd, Nat.reduceSub, Nat.zero_add, ↓reduceIte, Bool.not_true, Bool.not_false, Bool.false_eq_true, Bool.not_eq_true, decide_true, decide_false, Option.map, reduceCtorEq, ret_bnd, turnB, asgE, asgL, wipeE])
    refine ⟨cp, ?_⟩
    have e : wideD (.int i) = if (10 : Int) ^ (18 : Int).toNat ≤ (if i < 0 then -i else i) then some (D.int ((if i < 0 then -i else i) - 10 ^ (18 : Int).toNat)) else none := rfl
    rw [e] at k
    generalize (if i < 0 then -i else i) = v at k ⊢
    by_cases q : (10 : Int) ^ (18 : Int).toNat ≤ v
    · rw [if_pos q] at k
      rw [if_pos (decide_eq_true q)]
      exact ⟨cp, k⟩
    · rw [if_neg q] at k
      rw [if_neg (by rw [decide_eq_true_eq]; exact q)]
      exact k
  · obtain ⟨ms, e, l⟩ := filterMap_int (f := wideD) (fun i => by
      unfold wideD
      dsimp only
      generalize (if i < 0 then -i else i) = v
      split
      · exact .inr ⟨_, rfl⟩
      · exact .inl rfl) ns
    rw [e]
    (try simp -implicitDefEqProofs only [run, semB, ↓semS_loop, ↓sem_comp, semS, seqM_ap, sem, semL, semI, startE, getV_0, getV_s, outD_nx, outD_rt, truth_bl, ite_ap, partI_i, strM_s, isLst_l, isSeq_l, isSeq_t, mkE_o, mkE_v, itD_t, itD_l, itD_s, optM_some, bnd_ap, ret_ap, gd_ap, noE_ap, thr_ap, o_gtT, o_intB, o_sum, o_addI, o_addS, o_addT, o_addL, o_sub, o_mul, o_mulL, o_mulT, o_fdiv, o_mod, o_pow, o_eq, o_ne, o_ltI, o_gt, o_le, o_ge, o_inT, o_inL, o_ninT, o_ninL, o_inR, o_ninR, o_inS, o_ninS, o_isn, o_notn, o_lenS, o_lenT, o_lenL, o_isi, o_isC, o_tupT, o_tupL, o_lstT, o_lstL, o_int, o_abs, o_min, o_max, o_repr, o_rng1, o_rng2, o_ixT, o_ixL, o_ixS, o_slT, o_slL, o_slS, o_neg, o_revT, o_revL, o_join, o_upper, List.map_cons, List.map_nil, List.length_cons, List.length_nil, List.replicate_succ, List.replicate_zero, List.cons_append, List.nil_append, List.set_cons_zero, List.set_cons_succ, Nat.reduceAdd, Nat.reduceSub, Nat.zero_add, ↓reduceIte, Bool.not_true, Bool.not_false, Bool.false_eq_true, Bool.not_eq_true, decide_true, decide_false, Option.map, reduceCtorEq, ret_bnd])
    refine ⟨_, ms, rfl, rfl, ?_⟩
    (try simp -implicitDefEqProofs only [run, semB, ↓semS_loop, ↓sem_comp, semS, seqM_ap, sem, semL, semI, startE, getV_0, getV_s, outD_nx, outD_rt, truth_bl, ite_ap, partI_i, strM_s, isLst_l, isSeq_l, isSeq_t, mkE_o, mkE_v, itD_t, itD_l, itD_s, optM_some, bnd_ap, ret_ap, gd_ap, noE_ap, thr_ap, o_gtT, o_intB, o_sum, o_addI, o_addS, o_addT, o_addL, o_sub, o_mul, o_mulL, o_mulT, o_fdiv, o_mod, o_pow, o_eq, o_ne, o_ltI, o_gt, o_le, o_ge, o_inT, o_inL, o_ninT, o_ninL, o_inR, o_ninR, o_inS, o_ninS, o_isn, o_notn, o_lenS, o_lenT, o_lenL, o_isi, o_isC, o_tupT, o_tupL, o_lstT, o_lstL, o_int, o_abs, o_min, o_max, o_repr, o_rng1, o_rng2, o_ixT, o_ixL, o_ixS, o_slT, o_slL, o_slS, o_neg, o_revT, o_revL, o_join, o_upper, List.map_cons, List.map_nil, List.length_cons, List.length_nil, List.replicate_succ, List.replicate_zero, List.cons_append, List.nil_append, List.set_cons_zero, List.set_cons_succ, Nat.reduceAdd, Nat.reduceSub, Nat.zero_add, ↓reduceIte, Bool.not_true, Bool.not_false, Bool.false_eq_true, Bool.not_eq_true, decide_true, decide_false, Option.map, reduceCtorEq, ret_bnd])
    refine compB_pure cellD (fun d hd c K k => ?_) ?_
    · obtain ⟨i, _, rfl⟩ := List.mem_map.mp hd
      (try simp -implicitDefEqProofs only [run, semB, ↓semS_loop, ↓sem_comp, semS, seqM_ap, sem, semL, semI, startE, getV_0, getV_s, outD_nx, outD_rt, truth_bl, ite_ap, partI_i, strM_s, isLst_l, isSeq_l, isSeq_t, mkE_o, mkE_v, itD_t, itD_l, itD_s, optM_some, bnd_ap, ret_ap, gd_ap, noE_ap, thr_ap, o_gtT, o_intB, o_sum, o_addI, o_addS, o_addT, o_addL, o_sub, o_mul, o_mulL, o_mulT, o_fdiv, o_mod, o_pow, o_eq, o_ne, o_ltI, o_gt, o_le, o_ge, o_inT, o_inL, o_ninT, o_ninL, o_inR, o_ninR, o_inS, o_ninS, o_isn, o_notn, o_lenS, o_lenT, o_lenL, o_isi, o_isC, o_tupT, o_tupL, o_lstT, o_lstL, o_int, o_abs, o_min, o_max, o_repr, o_rng1, o_rng2, o_ixT, o_ixL, o_ixS, o_slT, o_slL, o_slS, o_neg, o_revT, o_revL, o_join, o_upper, List.map_cons, List.map_nil, List.length_cons, List.length_nil, List.replicate_succ, List.replicate_zero, List.cons_append, List.nil_append, List.set_cons_zero, List.set_cons_succ, Nat.reduceAdd, Nat.reduceSub, Nat.zero_add, ↓reduceIte, Bool.not_true, Bool.not_false, Bool.false_eq_true, Bool.not_eq_true, decide_true, decide_false, Option.map, reduceCtorEq, ret_bnd, turnB, asgE, asgL, wipeE])
      exact ⟨by decide, k⟩
    · obtain ⟨ms, e, l⟩ := filterMap_int (f := cellD) (fun i => .inr ⟨_, rfl⟩) ns
      rw [e]
      exact ⟨_, rfl, ms, rfl, by rw [sizeLine_eq]; omega⟩
end PL

/-! the head of k01 -/
namespace PL
open PySem
open PySem.Spec
open PyProof.Rows
open L2
def top (i : Nat) : Stmt := PySem.Challenge.pw_mastercuts_k01_whole_places_and_distance.main.body.getD i (.Pass ⟨0, 0, 0, 0⟩)
abbrev s_is_number : Stmt := top 15
def d_is_number : He.DefD := ⟨("is_number", none), "is_number", "is_number", defArgs s_is_number, defBody s_is_number, defScope s_is_number, [], []⟩
abbrev s_is_in : Stmt := top 16
def d_is_in : He.DefD := ⟨("is_in", none), "is_in", "is_in", defArgs s_is_in, defBody s_is_in, defScope s_is_in, [], []⟩
abbrev s_is_grid_of : Stmt := top 20
def d_is_grid_of : He.DefD := ⟨("is_grid_of", none), "is_grid_of", "is_grid_of", defArgs s_is_grid_of, defBody s_is_grid_of, defScope s_is_grid_of, [], []⟩
abbrev s_check_grid : Stmt := top 21
def d_check_grid : He.DefD := ⟨("check_grid", none), "check_grid", "check_grid", defArgs s_check_grid, defBody s_check_grid, defScope s_check_grid, [], []⟩
abbrev s_is_key_of : Stmt := top 22
def d_is_key_of : He.DefD := ⟨("is_key_of", none), "is_key_of", "is_key_of", defArgs s_is_key_of, defBody s_is_key_of, defScope s_is_key_of, [], []⟩
abbrev s_check_key : Stmt := top 23
def d_check_key : He.DefD := ⟨("check_key", none), "check_key", "check_key", defArgs s_check_key, defBody s_check_key, defScope s_check_key, [], []⟩
abbrev s_check_both : Stmt := top 24
def d_check_both : He.DefD := ⟨("check_both", none), "check_both", "check_both", defArgs s_check_both, defBody s_check_both, defScope s_check_both, [], []⟩
abbrev s_keys_told : Stmt := top 25
def d_keys_told : He.DefD := ⟨("keys_told", none), "keys_told", "keys_told", defArgs s_keys_told, defBody s_keys_told, defScope s_keys_told, [], []⟩
abbrev s_place_of : Stmt := top 26
def d_place_of : He.DefD := ⟨("place_of", none), "place_of", "place_of", defArgs s_place_of, defBody s_place_of, defScope s_place_of, [], []⟩
abbrev s_key_at : Stmt := top 27
def d_key_at : He.DefD := ⟨("key_at", none), "key_at", "key_at", defArgs s_key_at, defBody s_key_at, defScope s_key_at, [], []⟩
abbrev s_differences_told : Stmt := top 28
def d_differences_told : He.DefD := ⟨("differences_told", none), "differences_told", "differences_told", defArgs s_differences_told, defBody s_differences_told, defScope s_differences_told, [], []⟩
abbrev s_differences : Stmt := top 29
def d_differences : He.DefD := ⟨("differences", none), "differences", "differences", defArgs s_differences, defBody s_differences, defScope s_differences, [], []⟩
abbrev s_with_cut : Stmt := top 30
def d_with_cut : He.DefD := ⟨("with_cut", none), "with_cut", "with_cut", defArgs s_with_cut, defBody s_with_cut, defScope s_with_cut, [], []⟩
abbrev s_exchanged : Stmt := top 31
def d_exchanged : He.DefD := ⟨("exchanged", none), "exchanged", "exchanged", defArgs s_exchanged, defBody s_exchanged, defScope s_exchanged, [], []⟩
abbrev s__law_begun : Stmt := top 33
def d__law_begun : He.DefD := ⟨("_law_begun", none), "_law_begun", "_law_begun", defArgs s__law_begun, defBody s__law_begun, defScope s__law_begun, [], []⟩
abbrev s__law_mixed : Stmt := top 34
def d__law_mixed : He.DefD := ⟨("_law_mixed", none), "_law_mixed", "_law_mixed", defArgs s__law_mixed, defBody s__law_mixed, defScope s__law_mixed, [], []⟩
abbrev s__law_take : Stmt := top 35
def d__law_take : He.DefD := ⟨("_law_take", none), "_law_take", "_law_take", defArgs s__law_take, defBody s__law_take, defScope s__law_take, [], []⟩
abbrev s__law_pick : Stmt := top 36
def d__law_pick : He.DefD := ⟨("_law_pick", none), "_law_pick", "_law_pick", defArgs s__law_pick, defBody s__law_pick, defScope s__law_pick, [], []⟩
abbrev s__law_same : Stmt := top 37
def d__law_same : He.DefD := ⟨("_law_same", none), "_law_same", "_law_same", defArgs s__law_same, defBody s__law_same, defScope s__law_same, [], []⟩
abbrev s__law_is_int : Stmt := top 38
def d__law_is_int : He.DefD := ⟨("_law_is_int", none), "_law_is_int", "_law_is_int", defArgs s__law_is_int, defBody s__law_is_int, defScope s__law_is_int, [], []⟩
abbrev s__law_is_between : Stmt := top 39
def d__law_is_between : He.DefD := ⟨("_law_is_between", none), "_law_is_between", "_law_is_between", defArgs s__law_is_between, defBody s__law_is_between, defScope s__law_is_between, [], []⟩
abbrev s__law_is_key : Stmt := top 40
def d__law_is_key : He.DefD := ⟨("_law_is_key", none), "_law_is_key", "_law_is_key", defArgs s__law_is_key, defBody s__law_is_key, defScope s__law_is_key, [], []⟩
abbrev s__law_power : Stmt := top 41
def d__law_power : He.DefD := ⟨("_law_power", none), "_law_power", "_law_power", defArgs s__law_power, defBody s__law_power, defScope s__law_power, [], []⟩
abbrev s__law_apart : Stmt := top 42
def d__law_apart : He.DefD := ⟨("_law_apart", none), "_law_apart", "_law_apart", defArgs s__law_apart, defBody s__law_apart, defScope s__law_apart, [], []⟩
abbrev s__law_grid : Stmt := top 43
def d__law_grid : He.DefD := ⟨("_law_grid", none), "_law_grid", "_law_grid", defArgs s__law_grid, defBody s__law_grid, defScope s__law_grid, [], []⟩
abbrev s__law_key : Stmt := top 44
def d__law_key : He.DefD := ⟨("_law_key", none), "_law_key", "_law_key", defArgs s__law_key, defBody s__law_key, defScope s__law_key, [], []⟩
abbrev s__law_bad_grid : Stmt := top 45
def d__law_bad_grid : He.DefD := ⟨("_law_bad_grid", none), "_law_bad_grid", "_law_bad_grid", defArgs s__law_bad_grid, defBody s__law_bad_grid, defScope s__law_bad_grid, [], []⟩
abbrev s__law_bad_key : Stmt := top 46
def d__law_bad_key : He.DefD := ⟨("_law_bad_key", none), "_law_bad_key", "_law_bad_key", defArgs s__law_bad_key, defBody s__law_bad_key, defScope s__law_bad_key, [], []⟩
abbrev s__law_told : Stmt := top 47
def d__law_told : He.DefD := ⟨("_law_told", none), "_law_told", "_law_told", defArgs s__law_told, defBody s__law_told, defScope s__law_told, [], []⟩
abbrev s__law_all : Stmt := top 48
def d__law_all : He.DefD := ⟨("_law_all", none), "_law_all", "_law_all", defArgs s__law_all, defBody s__law_all, defScope s__law_all, [], []⟩
abbrev s__law_place : Stmt := top 49
def d__law_place : He.DefD := ⟨("_law_place", none), "_law_place", "_law_place", defArgs s__law_place, defBody s__law_place, defScope s__law_place, [], []⟩
abbrev s__law_are_places : Stmt := top 50
def d__law_are_places : He.DefD := ⟨("_law_are_places", none), "_law_are_places", "_law_are_places", defArgs s__law_are_places, defBody s__law_are_places, defScope s__law_are_places, [], []⟩
abbrev s__law_are_far : Stmt := top 51
def d__law_are_far : He.DefD := ⟨("_law_are_far", none), "_law_are_far", "_law_are_far", defArgs s__law_are_far, defBody s__law_are_far, defScope s__law_are_far, [], []⟩
abbrev s_law : Stmt := top 52
def d_law : He.DefD := ⟨("law", none), "law", "law", defArgs s_law, defBody s_law, defScope s_law, [], []⟩
def hfn0 : List He.DefD := [d_is_number, d_is_in, d_is_grid_of, d_check_grid, d_is_key_of, d_check_key, d_check_both, d_keys_told, d_place_of, d_key_at, d_differences_told, d_differences, d_with_cut, d_exchanged, d__law_begun, d__law_mixed, d__law_take, d__law_pick, d__law_same, d__law_is_int, d__law_is_between, d__law_is_key, d__law_power, d__law_apart, d__law_grid, d__law_key, d__law_bad_grid, d__law_bad_key, d__law_told, d__law_all]
def hfn1 : List He.DefD := [d__law_place, d__law_are_places, d__law_are_far, d_law]
def hfn : List He.DefD := hfn0 ++ hfn1
def hfa0 : List He.Fa := [.glo "is_number", .glo "is_in", .glo "is_grid_of", .glo "check_grid", .glo "is_key_of", .glo "check_key", .glo "check_both", .glo "keys_told", .glo "place_of", .glo "key_at", .glo "differences_told", .glo "differences", .glo "with_cut", .glo "exchanged", .glo "_law_begun", .glo "_law_mixed", .glo "_law_take", .glo "_law_pick", .glo "_law_same", .glo "_law_is_int", .glo "_law_is_between", .glo "_law_is_key", .glo "_law_power", .glo "_law_apart", .glo "_law_grid", .glo "_law_key", .glo "_law_bad_grid", .glo "_law_bad_key", .glo "_law_told", .glo "_law_all"]
def hfa1 : List He.Fa := [.glo "_law_place", .glo "_law_are_places", .glo "_law_are_far", .glo "law", .glo "LockError", .glo "BadChamber", .glo "BadGrid", .glo "BadKey", .glo "BadLock", .glo "BadLocks", .glo "BadLot", .glo "BadMany", .glo "BadOne", .glo "BadOther", .glo "BadPlace", .glo "BadRounds", .glo "TooMany", .exc "BadChamber", .exc "BadGrid", .exc "BadKey", .exc "BadOne", .exc "BadOther", .exc "BadPlace", .int "CHAMBERS" 10, .int "DEPTHS" 10, .free "len", .free "tuple", .free "list", .free "int", .free "abs"]
def hfa2 : List He.Fa := [.free "repr", .free "range", .free "min", .free "max", .free "isinstance", .free "bool", .free "str", .free "zip", .free "enumerate", .free "sum", .free "sorted", .free "set", .free "any", .free "all", .free "dict"]
def hfa : List He.Fa := hfa0 ++ hfa1 ++ hfa2
def hnm0 : List PySem.Str := ["is_number", "is_in", "is_grid_of", "check_grid", "is_key_of", "check_key", "check_both", "keys_told", "place_of", "key_at", "differences_told", "differences", "with_cut", "exchanged", "_law_begun", "_law_mixed", "_law_take", "_law_pick", "_law_same", "_law_is_int", "_law_is_between", "_law_is_key", "_law_power", "_law_apart", "_law_grid", "_law_key", "_law_bad_grid", "_law_bad_key", "_law_told", "_law_all"]
def hnm1 : List PySem.Str := ["_law_place", "_law_are_places", "_law_are_far", "LockError", "BadChamber", "BadGrid", "BadKey", "BadLock", "BadLocks", "BadLot", "BadMany", "BadOne", "BadOther", "BadPlace", "BadRounds", "TooMany", "CHAMBERS", "DEPTHS"]
def hnm : List PySem.Str := hnm0 ++ hnm1
def hex : List PySem.Str := ["LockError", "BadChamber", "BadGrid", "BadKey", "BadLock", "BadLocks", "BadLot", "BadMany", "BadOne", "BadOther", "BadPlace", "BadRounds", "TooMany"]
def htf : List He.Defn := [("law", none)]
abbrev R : PySem.W.OpenRow := PySem.W.OpenLaw.row PySem.Challenge.rw_mastercuts_k01_whole_places_and_distance
abbrev hk : PySem.W.Hook := He.hookX 6 hfa hfn [] htf (exK hex)
def hob (s : PySem.W.SharedT) : He.AlX := He.obsX 6 hfa hfn [] htf (exK hex) (HandSHeadRun.getT s)
theorem hob_eq (s : PySem.W.SharedT) : hob s = hk.obs s.abs := He.obsX_eq (HandSHeadRun.getT_eq s)
theorem hrun (w : World) : HandSHeadRun.RunEq R (PySem.W.view R.prog [52]) hk hob 30000 hnm w := by
  intro os
  kernel_rfl
end PL

/-! the contracts of k01, the law -/
namespace PL
open PySem
open PySem.Spec
open PyProof.Rows
open L2
def e_is_number : FnE := ⟨"is_number", 0, ["value"], []⟩
def e_is_in : FnE := ⟨"is_in", 1, ["value", "least", "most"], []⟩
def e_is_grid_of : FnE := ⟨"is_grid_of", 3, ["value"], []⟩
def e_check_grid : FnE := ⟨"check_grid", 4, ["value"], []⟩
def e_is_key_of : FnE := ⟨"is_key_of", 5, ["grid", "value"], []⟩
def e_check_key : FnE := ⟨"check_key", 33, ["grid", "value"], []⟩
def e_check_both : FnE := ⟨"check_both", 34, ["grid", "one", "other"], []⟩
def e_keys_told : FnE := ⟨"keys_told", 6, ["grid"], []⟩
def e_place_of : FnE := ⟨"place_of", 35, ["grid", "key"], [(0, ["key", "grid"], [1, 0])]⟩
def e_key_at : FnE := ⟨"key_at", 36, ["grid", "place"], [(0, ["place", "grid"], [1, 0])]⟩
def e_differences_told : FnE := ⟨"differences_told", 37, ["one", "other"], []⟩
def e_differences : FnE := ⟨"differences", 38, ["grid", "one", "other"], [(0, ["other", "one", "grid"], [2, 1, 0])]⟩
def e_with_cut : FnE := ⟨"with_cut", 39, ["key", "chamber", "depth"], []⟩
def e_exchanged : FnE := ⟨"exchanged", 40, ["grid", "one", "other", "chamber"], [(0, ["chamber", "other", "one", "grid"], [3, 2, 1, 0])]⟩
def e__law_begun : FnE := ⟨"_law_begun", 10, ["script"], []⟩
def e__law_mixed : FnE := ⟨"_law_mixed", 11, ["draw"], []⟩
def e__law_take : FnE := ⟨"_law_take", 12, ["draw", "many"], []⟩
def e__law_pick : FnE := ⟨"_law_pick", 13, ["draw", "some"], []⟩
def e__law_same : FnE := ⟨"_law_same", 14, ["told", "due"], []⟩
def e__law_is_int : FnE := ⟨"_law_is_int", 15, ["thing"], []⟩
def e__law_is_between : FnE := ⟨"_law_is_between", 16, ["thing", "least", "most"], []⟩
def e__law_is_key : FnE := ⟨"_law_is_key", 19, ["grid", "thing"], []⟩
def e__law_power : FnE := ⟨"_law_power", 20, ["base", "times"], []⟩
def e__law_apart : FnE := ⟨"_law_apart", 41, ["one", "other"], []⟩
def e__law_grid : FnE := ⟨"_law_grid", 21, ["draw"], []⟩
def e__law_key : FnE := ⟨"_law_key", 22, ["draw", "grid"], []⟩
def e__law_bad_grid : FnE := ⟨"_law_bad_grid", 26, ["draw"], []⟩
def e__law_bad_key : FnE := ⟨"_law_bad_key", 27, ["draw", "grid"], []⟩
def e__law_told : FnE := ⟨"_law_told", 28, ["work"], []⟩
def e__law_all : FnE := ⟨"_law_all", 29, ["works"], []⟩
def e__law_place : FnE := ⟨"_law_place", 42, ["grid", "key"], []⟩
def e__law_are_places : FnE := ⟨"_law_are_places", 43, ["draw", "grid"], []⟩
def e__law_are_far : FnE := ⟨"_law_are_far", 44, ["draw", "grid"], []⟩
def e_law : FnE := ⟨"law", 45, ["script"], []⟩
def c_is_number : Cfg := ⟨["value"], [], [], [], [], [], [], false, [], [], [], [], false⟩
def c_is_in : Cfg := ⟨["value", "least", "most"], [e_is_number], [], [], [], [], [], false, [], [], [], [], false⟩
def c_is_grid_of : Cfg := ⟨["value"], [e_is_in], [("CHAMBERS", .int 10), ("DEPTHS", .int 10)], [], [], [], [], false, [], [], [], [], false⟩
def c_check_grid : Cfg := ⟨["value"], [e_is_grid_of], [], ["BadGrid"], [], [], [], false, [], [], [], [], false⟩
def c_is_key_of : Cfg := ⟨["grid", "value", "depth"], [e_is_in], [], [], [], [], [], false, [], [], [], [], false⟩
def c_check_key : Cfg := ⟨["grid", "value"], [e_is_key_of], [], ["BadKey"], [], [], [], false, [], [], [], [], false⟩
def c_check_both : Cfg := ⟨["grid", "one", "other"], [e_is_key_of], [], ["BadOne", "BadOther"], [], [], [], false, [], [], [], [], false⟩
def c_keys_told : Cfg := ⟨["grid", "many", "chamber"], [], [], [], [], [], [], false, [], [], [], [], false⟩
def c_place_of : Cfg := ⟨["grid", "key", "place", "depth"], [e_check_grid, e_check_key], [], [], [], [], [], false, [], [], [], [], false⟩
def c_key_at : Cfg := ⟨["grid", "place", "found", "left", "chamber"], [e_check_grid, e_is_in, e_keys_told], [], ["BadPlace"], [2], [(81, [2])], [], false, [], [], [], [], false⟩
def c_differences_told : Cfg := ⟨["one", "other", "chamber", "depth"], [], [], [], [], [], [], false, [], [], [], [], false⟩
def c_differences : Cfg := ⟨["grid", "one", "other"], [e_check_grid, e_check_both, e_differences_told], [], [], [], [], [], false, [], [], [], [], false⟩
def c_with_cut : Cfg := ⟨["key", "chamber", "depth"], [], [], [], [], [], [], false, [], [], [], [], false⟩
def c_exchanged : Cfg := ⟨["grid", "one", "other", "chamber"], [e_check_grid, e_check_both, e_with_cut, e_is_in], [], ["BadChamber"], [], [], [], false, [], [], [], [], false⟩
def c__law_begun : Cfg := ⟨["script", "wide", "grain"], [], [], [], [1], [], [], false, [], [], [], [], false⟩
def c__law_mixed : Cfg := ⟨["draw", "turn", "found", "prime", "blend", "grain"], [], [], [], [], [], [], false, [], [("draw", "turn", 1004, 1005), ("draw", "cells", 1001, 1003)], [], [], false⟩
def c__law_take : Cfg := ⟨["draw", "many", "found"], [e__law_mixed], [], [], [], [], [], false, [], [("draw", "rest", 1000, 1002)], [("draw", "wide", "_law_mixed", 1006)], [], false⟩
def c__law_pick : Cfg := ⟨["draw", "some"], [e__law_take], [], [], [], [], [], false, [], [], [], [], false⟩
def c__law_same : Cfg := ⟨["told", "due"], [], [], [], [], [], [], false, [], [], [], [], false⟩
def c__law_is_int : Cfg := ⟨["thing"], [], [], [], [], [], [], false, [], [], [], [], false⟩
def c__law_is_between : Cfg := ⟨["thing", "least", "most"], [e__law_is_int], [], [], [], [], [], false, [], [], [], [], false⟩
def c__law_is_key : Cfg := ⟨["grid", "thing", "cut"], [e__law_is_between], [], [], [], [], [], false, [], [], [], [], false⟩
def c__law_power : Cfg := ⟨["base", "times", "found", "turn"], [], [], [], [], [], [], false, [], [], [], [], false⟩
def c__law_apart : Cfg := ⟨["one", "other", "k"], [], [], [], [], [], [], false, [], [], [], [], false⟩
def c__law_grid : Cfg := ⟨["draw"], [e__law_take], [], [], [], [], [], false, [], [], [], [], false⟩
def c__law_key : Cfg := ⟨["draw", "grid", "turn"], [e__law_take], [], [], [], [], [], false, [], [], [], [], false⟩
def c__law_bad_grid : Cfg := ⟨["draw"], [e__law_pick], [], [], [], [], [], false, [], [], [], [], false⟩
def c__law_bad_key : Cfg := ⟨["draw", "grid", "good"], [e__law_key, e__law_pick], [], [], [], [], [], false, [], [], [], [], false⟩
def c__law_told : Cfg := ⟨["work", "error", "found", "caught"], [e__law_same], [], [], [2], [(174, [2])], [], false, [], [], [], ["BadChamber", "BadGrid", "BadKey", "BadLock", "BadLocks", "BadLot", "BadMany", "BadOne", "BadOther", "BadPlace", "BadRounds", "TooMany"], true⟩
def c__law_all : Cfg := ⟨["works", "found", "work"], [e__law_told], [], [], [], [], [], false, [], [], [], [], false⟩
def c__law_place : Cfg := ⟨["grid", "key", "k"], [e__law_power], [], [], [], [], [], false, [], [], [], [], false⟩
def c__law_are_places : Cfg := ⟨["draw", "grid", "many", "at", "key", "other"], [e__law_power, e__law_pick, e_key_at, e__law_key, e__law_same, e__law_is_key, e__law_place, e_place_of, e__law_take], [], [], [], [], [], false, [], [], [], [], false⟩
def c__law_are_far : Cfg := ⟨["draw", "grid", "one", "other", "third", "k", "apart", "found", "turn"], [e_differences, e__law_key, e__law_take, e__law_same, e_exchanged, e__law_apart], [], [], [], [], [], false, [], [], [], [], false⟩
def c_law : Cfg := ⟨["script", "draw", "turn", "grid", "key", "bad", "wrong", "at", "k", "found", "due"], [e__law_begun, e__law_grid, e__law_pick, e__law_all, e__law_key, e__law_bad_grid, e__law_bad_key, e__law_are_places, e__law_are_far, e__law_power, e_place_of, e_key_at, e_differences, e_exchanged], [], [], [], [], [], true, [e_place_of, e_key_at, e_differences, e_exchanged], [], [], [], false⟩
def PhR (f : List D → M D) : Fns := tblF [(0, sp0), (1, sp1), (3, sp3), (4, sp4), (5, sp5), (33, sp33), (34, sp34), (6, sp6), (35, sp35), (36, sp36), (37, sp37), (38, sp38), (39, sp39), (40, sp40), (11, drMix), (12, sp12), (13, sp13), (14, sp14), (15, sp0), (16, sp1), (19, sp5d), (20, sp20), (41, sp37), (21, sp21), (22, sp22), (26, sp26), (27, sp27), (28, sp28), (29, sp29), (42, sp42), (43, sp43), (44, sp44), (1000, drInt), (1001, drInts), (1002, drSet), (1004, drTurn), (1005, drSetT), (1006, drPop)]
abbrev PhK : Fns := PhR (fun _ => fail)
def TT (K : PySem.W.Frag) : List (Addr × Str) := htf.map fun p => ((He.cT K p).2, p.1 ++ ".<locals>." ++ "<lambda>")
abbrev PP (g : GE) (d w c : Addr) : DrP := ⟨d, w, c, KsA "wide", "wide", TT g.K, exL g.K hex⟩
abbrev KTn : Nat := 6
section
variable {g : GE} {d w c : Addr}
theorem hblt (h : Hd g hfa hfn) : ∀ b ∈ bltNames, g.mg b = none := h.blt (aC (List.mem_of_getElem? (i := 55) rfl) (aC (List.mem_of_getElem? (i := 56) rfl) (aC (List.mem_of_getElem? (i := 57) rfl) (aC (List.mem_of_getElem? (i := 58) rfl) (aC (List.mem_of_getElem? (i := 59) rfl) (aC (List.mem_of_getElem? (i := 60) rfl) (aC (List.mem_of_getElem? (i := 61) rfl) (aC (List.mem_of_getElem? (i := 62) rfl) (aC (List.mem_of_getElem? (i := 63) rfl) (aC (List.mem_of_getElem? (i := 64) rfl) (aC (List.mem_of_getElem? (i := 65) rfl) (aC (List.mem_of_getElem? (i := 66) rfl) (aC (List.mem_of_getElem? (i := 67) rfl) (aC (List.mem_of_getElem? (i := 68) rfl) (aC (List.mem_of_getElem? (i := 69) rfl) (aC (List.mem_of_getElem? (i := 70) rfl) (aC (List.mem_of_getElem? (i := 71) rfl) (aC (List.mem_of_getElem? (i := 72) rfl) (aC (List.mem_of_getElem? (i := 73) rfl) (aC (List.mem_of_getElem? (i := 74) rfl) aN))))))))))))))))))))
theorem hexm (h : Hd g hfa hfn) (he : exK hex g.K = true) : ExM g (PP g d w c) := h.exm rfl he (aC (List.mem_of_getElem? (i := 34) rfl) (aC (List.mem_of_getElem? (i := 35) rfl) (aC (List.mem_of_getElem? (i := 36) rfl) (aC (List.mem_of_getElem? (i := 37) rfl) (aC (List.mem_of_getElem? (i := 38) rfl) (aC (List.mem_of_getElem? (i := 39) rfl) (aC (List.mem_of_getElem? (i := 40) rfl) (aC (List.mem_of_getElem? (i := 41) rfl) (aC (List.mem_of_getElem? (i := 42) rfl) (aC (List.mem_of_getElem? (i := 43) rfl) (aC (List.mem_of_getElem? (i := 44) rfl) (aC (List.mem_of_getElem? (i := 45) rfl) (aC (List.mem_of_getElem? (i := 46) rfl) aN)))))))))))))
theorem hkeys : KeysOk (PP g d w c) := keysOk_A (by decide) (by decide) (by decide)
theorem F_is_number (h : Hd g hfa hfn) (he : exK hex g.K = true) : FnK g (zD g KTn (PP g d w c)) 1 ⟨"is_number", ["value"], sp0, []⟩ :=
  h.fk (Φ := PhK) (d := d_is_number) (n := 60) (k := 0) (c := c_is_number) (ss := S0) (N := ["value"]) (List.mem_of_getElem? (i := 0) rfl) rfl (List.mem_of_getElem? (i := 0) rfl) rfl (by kernel_rfl) (fun kV doc pm an cdv ct us hl => match us, hl with | [a0], _ => rfl) aN rfl (fun cdv _ => cfg_of (hexm h he) (hblt h) aN (lookup_all aN) aN ⟨hkeys, aN, aN⟩ (fun y hy => by rw [exL_fst]; exact (show ∀ y ∈ (c_is_number).cls, y ∈ hex by decide +kernel) y hy) (by intro z; cases z) (by intro z; cases z)) (by kernel_rfl) (fun ds => r0 ds)
theorem F_is_in (h : Hd g hfa hfn) (he : exK hex g.K = true) : FnK g (zD g KTn (PP g d w c)) 2 ⟨"is_in", ["value", "least", "most"], sp1, []⟩ :=
  h.fk (Φ := PhK) (d := d_is_in) (n := 60) (k := 1) (c := c_is_in) (ss := S1) (N := ["value", "least", "most"]) (List.mem_of_getElem? (i := 1) rfl) rfl (List.mem_of_getElem? (i := 1) rfl) rfl (by kernel_rfl) (fun kV doc pm an cdv ct us hl => match us, hl with | [a0, a1, a2], _ => rfl) aN rfl (fun cdv _ => cfg_of (hexm h he) (hblt h) (aC ((F_is_number h he : FnK g (zD g KTn (PP g d w c)) 1 _).mono (Nat.le_of_ble_eq_true rfl)) aN) (lookup_all aN) aN ⟨hkeys, aN, aN⟩ (fun y hy => by rw [exL_fst]; exact (show ∀ y ∈ (c_is_in).cls, y ∈ hex by decide +kernel) y hy) (by intro z; cases z) (by intro z; cases z)) (by kernel_rfl) (fun ds => r1 rfl ds)
theorem F_is_grid_of (h : Hd g hfa hfn) (he : exK hex g.K = true) : FnK g (zD g KTn (PP g d w c)) 3 ⟨"is_grid_of", ["value"], sp3, []⟩ :=
  h.fk (Φ := PhK) (d := d_is_grid_of) (n := 60) (k := 2) (c := c_is_grid_of) (ss := S3) (N := ["value"]) (List.mem_of_getElem? (i := 2) rfl) rfl (List.mem_of_getElem? (i := 2) rfl) rfl (by kernel_rfl) (fun kV doc pm an cdv ct us hl => match us, hl with | [a0], _ => rfl) aN rfl (fun cdv _ => cfg_of (hexm h he) (hblt h) (aC ((F_is_in h he : FnK g (zD g KTn (PP g d w c)) 2 _).mono (Nat.le_of_ble_eq_true rfl)) aN) (lookup_all (aC (h.int (List.mem_of_getElem? (i := 53) rfl)) (aC (h.int (List.mem_of_getElem? (i := 54) rfl)) aN))) aN ⟨hkeys, aN, aN⟩ (fun y hy => by rw [exL_fst]; exact (show ∀ y ∈ (c_is_grid_of).cls, y ∈ hex by decide +kernel) y hy) (by intro z; cases z) (by intro z; cases z)) (by kernel_rfl) (fun ds => r3 rfl ds)
theorem F_check_grid (h : Hd g hfa hfn) (he : exK hex g.K = true) : FnK g (zD g KTn (PP g d w c)) 4 ⟨"check_grid", ["value"], sp4, []⟩ :=
  h.fk (Φ := PhK) (d := d_check_grid) (n := 60) (k := 3) (c := c_check_grid) (ss := S4) (N := ["value"]) (List.mem_of_getElem? (i := 3) rfl) rfl (List.mem_of_getElem? (i := 3) rfl) rfl (by kernel_rfl) (fun kV doc pm an cdv ct us hl => match us, hl with | [a0], _ => rfl) aN rfl (fun cdv _ => cfg_of (hexm h he) (hblt h) (aC ((F_is_grid_of h he : FnK g (zD g KTn (PP g d w c)) 3 _).mono (Nat.le_of_ble_eq_true rfl)) aN) (lookup_all aN) (aC (h.exk rfl (List.mem_of_getElem? (i := 2) rfl) (by decide) (List.mem_of_getElem? (i := 36) rfl) (List.mem_of_getElem? (i := 48) rfl)) aN) ⟨hkeys, aN, aN⟩ (fun y hy => by rw [exL_fst]; exact (show ∀ y ∈ (c_check_grid).cls, y ∈ hex by decide +kernel) y hy) (by intro z; cases z) (by intro z; cases z)) (by kernel_rfl) (fun ds => r4 rfl ds)
theorem F_is_key_of (h : Hd g hfa hfn) (he : exK hex g.K = true) : FnK g (zD g KTn (PP g d w c)) 3 ⟨"is_key_of", ["grid", "value"], sp5, []⟩ :=
  h.fk (Φ := PhK) (d := d_is_key_of) (n := 60) (k := 2) (c := c_is_key_of) (ss := S5) (N := ["grid", "value", "depth"]) (List.mem_of_getElem? (i := 4) rfl) rfl (List.mem_of_getElem? (i := 4) rfl) rfl (by kernel_rfl) (fun kV doc pm an cdv ct us hl => match us, hl with | [a0, a1], _ => rfl) aN rfl (fun cdv _ => cfg_of (hexm h he) (hblt h) (aC ((F_is_in h he : FnK g (zD g KTn (PP g d w c)) 2 _).mono (Nat.le_of_ble_eq_true rfl)) aN) (lookup_all aN) aN ⟨hkeys, aN, aN⟩ (fun y hy => by rw [exL_fst]; exact (show ∀ y ∈ (c_is_key_of).cls, y ∈ hex by decide +kernel) y hy) (by intro z; cases z) (by intro z; cases z)) (by kernel_rfl) (fun ds => r5 rfl ds)
theorem F_check_key (h : Hd g hfa hfn) (he : exK hex g.K = true) : FnK g (zD g KTn (PP g d w c)) 4 ⟨"check_key", ["grid", "value"], sp33, []⟩ :=
  h.fk (Φ := PhK) (d := d_check_key) (n := 60) (k := 3) (c := c_check_key) (ss := S33) (N := ["grid", "value"]) (List.mem_of_getElem? (i := 5) rfl) rfl (List.mem_of_getElem? (i := 5) rfl) rfl (by kernel_rfl) (fun kV doc pm an cdv ct us hl => match us, hl with | [a0, a1], _ => rfl) aN rfl (fun cdv _ => cfg_of (hexm h he) (hblt h) (aC ((F_is_key_of h he : FnK g (zD g KTn (PP g d w c)) 3 _).mono (Nat.le_of_ble_eq_true rfl)) aN) (lookup_all aN) (aC (h.exk rfl (List.mem_of_getElem? (i := 3) rfl) (by decide) (List.mem_of_getElem? (i := 37) rfl) (List.mem_of_getElem? (i := 49) rfl)) aN) ⟨hkeys, aN, aN⟩ (fun y hy => by rw [exL_fst]; exact (show ∀ y ∈ (c_check_key).cls, y ∈ hex by decide +kernel) y hy) (by intro z; cases z) (by intro z; cases z)) (by kernel_rfl) (fun ds => r33 rfl ds)
theorem F_check_both (h : Hd g hfa hfn) (he : exK hex g.K = true) : FnK g (zD g KTn (PP g d w c)) 4 ⟨"check_both", ["grid", "one", "other"], sp34, []⟩ :=
  h.fk (Φ := PhK) (d := d_check_both) (n := 60) (k := 3) (c := c_check_both) (ss := S34) (N := ["grid", "one", "other"]) (List.mem_of_getElem? (i := 6) rfl) rfl (List.mem_of_getElem? (i := 6) rfl) rfl (by kernel_rfl) (fun kV doc pm an cdv ct us hl => match us, hl with | [a0, a1, a2], _ => rfl) aN rfl (fun cdv _ => cfg_of (hexm h he) (hblt h) (aC ((F_is_key_of h he : FnK g (zD g KTn (PP g d w c)) 3 _).mono (Nat.le_of_ble_eq_true rfl)) aN) (lookup_all aN) (aC (h.exk rfl (List.mem_of_getElem? (i := 8) rfl) (by decide) (List.mem_of_getElem? (i := 42) rfl) (List.mem_of_getElem? (i := 50) rfl)) (aC (h.exk rfl (List.mem_of_getElem? (i := 9) rfl) (by decide) (List.mem_of_getElem? (i := 43) rfl) (List.mem_of_getElem? (i := 51) rfl)) aN)) ⟨hkeys, aN, aN⟩ (fun y hy => by rw [exL_fst]; exact (show ∀ y ∈ (c_check_both).cls, y ∈ hex by decide +kernel) y hy) (by intro z; cases z) (by intro z; cases z)) (by kernel_rfl) (fun ds => r34 rfl ds)
theorem F_keys_told (h : Hd g hfa hfn) (he : exK hex g.K = true) : FnK g (zD g KTn (PP g d w c)) 1 ⟨"keys_told", ["grid"], sp6, []⟩ :=
  h.fk (Φ := PhK) (d := d_keys_told) (n := 60) (k := 0) (c := c_keys_told) (ss := S6) (N := ["grid", "many", "chamber"]) (List.mem_of_getElem? (i := 7) rfl) rfl (List.mem_of_getElem? (i := 7) rfl) rfl (by kernel_rfl) (fun kV doc pm an cdv ct us hl => match us, hl with | [a0], _ => rfl) aN rfl (fun cdv _ => cfg_of (hexm h he) (hblt h) aN (lookup_all aN) aN ⟨hkeys, aN, aN⟩ (fun y hy => by rw [exL_fst]; exact (show ∀ y ∈ (c_keys_told).cls, y ∈ hex by decide +kernel) y hy) (by intro z; cases z) (by intro z; cases z)) (by kernel_rfl) (fun ds => r6 ds)
theorem F_place_of (h : Hd g hfa hfn) (he : exK hex g.K = true) : FnK g (zD g KTn (PP g d w c)) 5 ⟨"place_of", ["grid", "key"], sp35, [(0, ["key", "grid"], [1, 0])]⟩ :=
  h.fk (Φ := PhK) (d := d_place_of) (n := 60) (k := 4) (c := c_place_of) (ss := S35) (N := ["grid", "key", "place", "depth"]) (List.mem_of_getElem? (i := 8) rfl) rfl (List.mem_of_getElem? (i := 8) rfl) rfl (by kernel_rfl) (fun kV doc pm an cdv ct us hl => match us, hl with | [a0, a1], _ => rfl) (aC ⟨rfl, by decide, fun kV doc pm an cdv ct us ws l1 l2 => match us, ws, l1, l2 with | [], [b0, b1], _, _ => rfl⟩ aN) rfl (fun cdv _ => cfg_of (hexm h he) (hblt h) (aC ((F_check_grid h he : FnK g (zD g KTn (PP g d w c)) 4 _).mono (Nat.le_of_ble_eq_true rfl)) (aC ((F_check_key h he : FnK g (zD g KTn (PP g d w c)) 4 _).mono (Nat.le_of_ble_eq_true rfl)) aN)) (lookup_all aN) aN ⟨hkeys, aN, aN⟩ (fun y hy => by rw [exL_fst]; exact (show ∀ y ∈ (c_place_of).cls, y ∈ hex by decide +kernel) y hy) (by intro z; cases z) (by intro z; cases z)) (by kernel_rfl) (fun ds => r35 rfl rfl ds)
theorem F_key_at (h : Hd g hfa hfn) (he : exK hex g.K = true) : FnK g (zD g KTn (PP g d w c)) 5 ⟨"key_at", ["grid", "place"], sp36, [(0, ["place", "grid"], [1, 0])]⟩ :=
  h.fk (Φ := PhK) (d := d_key_at) (n := 60) (k := 4) (c := c_key_at) (ss := S36) (N := ["grid", "place", "found", "left", "chamber"]) (List.mem_of_getElem? (i := 9) rfl) rfl (List.mem_of_getElem? (i := 9) rfl) rfl (by kernel_rfl) (fun kV doc pm an cdv ct us hl => match us, hl with | [a0, a1], _ => rfl) (aC ⟨rfl, by decide, fun kV doc pm an cdv ct us ws l1 l2 => match us, ws, l1, l2 with | [], [b0, b1], _, _ => rfl⟩ aN) rfl (fun cdv _ => cfg_of (hexm h he) (hblt h) (aC ((F_check_grid h he : FnK g (zD g KTn (PP g d w c)) 4 _).mono (Nat.le_of_ble_eq_true rfl)) (aC ((F_is_in h he : FnK g (zD g KTn (PP g d w c)) 2 _).mono (Nat.le_of_ble_eq_true rfl)) (aC ((F_keys_told h he : FnK g (zD g KTn (PP g d w c)) 1 _).mono (Nat.le_of_ble_eq_true rfl)) aN))) (lookup_all aN) (aC (h.exk rfl (List.mem_of_getElem? (i := 10) rfl) (by decide) (List.mem_of_getElem? (i := 44) rfl) (List.mem_of_getElem? (i := 52) rfl)) aN) ⟨hkeys, aN, aN⟩ (fun y hy => by rw [exL_fst]; exact (show ∀ y ∈ (c_key_at).cls, y ∈ hex by decide +kernel) y hy) (by intro z; cases z) (by intro z; cases z)) (by kernel_rfl) (fun ds => r36 rfl rfl rfl ds)
theorem F_differences_told (h : Hd g hfa hfn) (he : exK hex g.K = true) : FnK g (zD g KTn (PP g d w c)) 1 ⟨"differences_told", ["one", "other"], sp37, []⟩ :=
  h.fk (Φ := PhK) (d := d_differences_told) (n := 60) (k := 0) (c := c_differences_told) (ss := S37) (N := ["one", "other", "chamber", "depth"]) (List.mem_of_getElem? (i := 10) rfl) rfl (List.mem_of_getElem? (i := 10) rfl) rfl (by kernel_rfl) (fun kV doc pm an cdv ct us hl => match us, hl with | [a0, a1], _ => rfl) aN rfl (fun cdv _ => cfg_of (hexm h he) (hblt h) aN (lookup_all aN) aN ⟨hkeys, aN, aN⟩ (fun y hy => by rw [exL_fst]; exact (show ∀ y ∈ (c_differences_told).cls, y ∈ hex by decide +kernel) y hy) (by intro z; cases z) (by intro z; cases z)) (by kernel_rfl) (fun ds => r37 ds)
theorem F_differences (h : Hd g hfa hfn) (he : exK hex g.K = true) : FnK g (zD g KTn (PP g d w c)) 5 ⟨"differences", ["grid", "one", "other"], sp38, [(0, ["other", "one", "grid"], [2, 1, 0])]⟩ :=
  h.fk (Φ := PhK) (d := d_differences) (n := 60) (k := 4) (c := c_differences) (ss := S38) (N := ["grid", "one", "other"]) (List.mem_of_getElem? (i := 11) rfl) rfl (List.mem_of_getElem? (i := 11) rfl) rfl (by kernel_rfl) (fun kV doc pm an cdv ct us hl => match us, hl with | [a0, a1, a2], _ => rfl) (aC ⟨rfl, by decide, fun kV doc pm an cdv ct us ws l1 l2 => match us, ws, l1, l2 with | [], [b0, b1, b2], _, _ => rfl⟩ aN) rfl (fun cdv _ => cfg_of (hexm h he) (hblt h) (aC ((F_check_grid h he : FnK g (zD g KTn (PP g d w c)) 4 _).mono (Nat.le_of_ble_eq_true rfl)) (aC ((F_check_both h he : FnK g (zD g KTn (PP g d w c)) 4 _).mono (Nat.le_of_ble_eq_true rfl)) (aC ((F_differences_told h he : FnK g (zD g KTn (PP g d w c)) 1 _).mono (Nat.le_of_ble_eq_true rfl)) aN))) (lookup_all aN) aN ⟨hkeys, aN, aN⟩ (fun y hy => by rw [exL_fst]; exact (show ∀ y ∈ (c_differences).cls, y ∈ hex by decide +kernel) y hy) (by intro z; cases z) (by intro z; cases z)) (by kernel_rfl) (fun ds => r38 rfl rfl rfl ds)
theorem F_with_cut (h : Hd g hfa hfn) (he : exK hex g.K = true) : FnK g (zD g KTn (PP g d w c)) 1 ⟨"with_cut", ["key", "chamber", "depth"], sp39, []⟩ :=
  h.fk (Φ := PhK) (d := d_with_cut) (n := 60) (k := 0) (c := c_with_cut) (ss := S39) (N := ["key", "chamber", "depth"]) (List.mem_of_getElem? (i := 12) rfl) rfl (List.mem_of_getElem? (i := 12) rfl) rfl (by kernel_rfl) (fun kV doc pm an cdv ct us hl => match us, hl with | [a0, a1, a2], _ => rfl) aN rfl (fun cdv _ => cfg_of (hexm h he) (hblt h) aN (lookup_all aN) aN ⟨hkeys, aN, aN⟩ (fun y hy => by rw [exL_fst]; exact (show ∀ y ∈ (c_with_cut).cls, y ∈ hex by decide +kernel) y hy) (by intro z; cases z) (by intro z; cases z)) (by kernel_rfl) (fun ds => r39 ds)
theorem F_exchanged (h : Hd g hfa hfn) (he : exK hex g.K = true) : FnK g (zD g KTn (PP g d w c)) 5 ⟨"exchanged", ["grid", "one", "other", "chamber"], sp40, [(0, ["chamber", "other", "one", "grid"], [3, 2, 1, 0])]⟩ :=
  h.fk (Φ := PhK) (d := d_exchanged) (n := 60) (k := 4) (c := c_exchanged) (ss := S40) (N := ["grid", "one", "other", "chamber"]) (List.mem_of_getElem? (i := 13) rfl) rfl (List.mem_of_getElem? (i := 13) rfl) rfl (by kernel_rfl) (fun kV doc pm an cdv ct us hl => match us, hl with | [a0, a1, a2, a3], _ => rfl) (aC ⟨rfl, by decide, fun kV doc pm an cdv ct us ws l1 l2 => match us, ws, l1, l2 with | [], [b0, b1, b2, b3], _, _ => rfl⟩ aN) rfl (fun cdv _ => cfg_of (hexm h he) (hblt h) (aC ((F_check_grid h he : FnK g (zD g KTn (PP g d w c)) 4 _).mono (Nat.le_of_ble_eq_true rfl)) (aC ((F_check_both h he : FnK g (zD g KTn (PP g d w c)) 4 _).mono (Nat.le_of_ble_eq_true rfl)) (aC ((F_with_cut h he : FnK g (zD g KTn (PP g d w c)) 1 _).mono (Nat.le_of_ble_eq_true rfl)) (aC ((F_is_in h he : FnK g (zD g KTn (PP g d w c)) 2 _).mono (Nat.le_of_ble_eq_true rfl)) aN)))) (lookup_all aN) (aC (h.exk rfl (List.mem_of_getElem? (i := 1) rfl) (by decide) (List.mem_of_getElem? (i := 35) rfl) (List.mem_of_getElem? (i := 47) rfl)) aN) ⟨hkeys, aN, aN⟩ (fun y hy => by rw [exL_fst]; exact (show ∀ y ∈ (c_exchanged).cls, y ∈ hex by decide +kernel) y hy) (by intro z; cases z) (by intro z; cases z)) (by kernel_rfl) (fun ds => r40 rfl rfl rfl rfl ds)
theorem F__law_mixed (h : Hd g hfa hfn) (he : exK hex g.K = true) : FnK g (zD g KTn (PP g d w c)) 1 ⟨"_law_mixed", ["draw"], drMix, []⟩ :=
  h.fk (Φ := PhK) (d := d__law_mixed) (n := 60) (k := 0) (c := c__law_mixed) (ss := S11) (N := ["draw", "turn", "found", "prime", "blend", "grain"]) (List.mem_of_getElem? (i := 15) rfl) rfl (List.mem_of_getElem? (i := 15) rfl) rfl (by kernel_rfl) (fun kV doc pm an cdv ct us hl => match us, hl with | [a0], _ => rfl) aN rfl (fun cdv _ => cfg_of (hexm h he) (hblt h) aN (lookup_all aN) aN ⟨hkeys, (aC (.inr (.inl ⟨rfl, rfl, rfl⟩)) (aC (.inr (.inr ⟨rfl, rfl⟩)) aN)), aN⟩ (fun y hy => by rw [exL_fst]; exact (show ∀ y ∈ (c__law_mixed).cls, y ∈ hex by decide +kernel) y hy) (by intro z; cases z) (by intro z; cases z)) (by kernel_rfl) (fun ds => r11 rfl rfl rfl ds)
theorem F__law_take (h : Hd g hfa hfn) (he : exK hex g.K = true) : FnK g (zD g KTn (PP g d w c)) 2 ⟨"_law_take", ["draw", "many"], sp12, []⟩ :=
  h.fk (Φ := PhK) (d := d__law_take) (n := 60) (k := 1) (c := c__law_take) (ss := S12) (N := ["draw", "many", "found"]) (List.mem_of_getElem? (i := 16) rfl) rfl (List.mem_of_getElem? (i := 16) rfl) rfl (by kernel_rfl) (fun kV doc pm an cdv ct us hl => match us, hl with | [a0, a1], _ => rfl) aN rfl (fun cdv _ => cfg_of (hexm h he) (hblt h) (aC ((F__law_mixed h he : FnK g (zD g KTn (PP g d w c)) 1 _).mono (Nat.le_of_ble_eq_true rfl)) aN) (lookup_all aN) aN ⟨hkeys, (aC (.inl ⟨rfl, rfl, rfl⟩) aN), (aC ⟨rfl, rfl, ["draw"], [], rfl, (F__law_mixed h he).mono (Nat.le_of_ble_eq_true rfl)⟩ aN)⟩ (fun y hy => by rw [exL_fst]; exact (show ∀ y ∈ (c__law_take).cls, y ∈ hex by decide +kernel) y hy) (by intro z; cases z) (by intro z; cases z)) (by kernel_rfl) (fun ds => r12 rfl rfl rfl ds)
theorem F__law_pick (h : Hd g hfa hfn) (he : exK hex g.K = true) : FnK g (zD g KTn (PP g d w c)) 3 ⟨"_law_pick", ["draw", "some"], sp13, []⟩ :=
  h.fk (Φ := PhK) (d := d__law_pick) (n := 60) (k := 2) (c := c__law_pick) (ss := S13) (N := ["draw", "some"]) (List.mem_of_getElem? (i := 17) rfl) rfl (List.mem_of_getElem? (i := 17) rfl) rfl (by kernel_rfl) (fun kV doc pm an cdv ct us hl => match us, hl with | [a0, a1], _ => rfl) aN rfl (fun cdv _ => cfg_of (hexm h he) (hblt h) (aC ((F__law_take h he : FnK g (zD g KTn (PP g d w c)) 2 _).mono (Nat.le_of_ble_eq_true rfl)) aN) (lookup_all aN) aN ⟨hkeys, aN, aN⟩ (fun y hy => by rw [exL_fst]; exact (show ∀ y ∈ (c__law_pick).cls, y ∈ hex by decide +kernel) y hy) (by intro z; cases z) (by intro z; cases z)) (by kernel_rfl) (fun ds => r13 rfl ds)
theorem F__law_same (h : Hd g hfa hfn) (he : exK hex g.K = true) : FnK g (zD g KTn (PP g d w c)) 1 ⟨"_law_same", ["told", "due"], sp14, []⟩ :=
  h.fk (Φ := PhK) (d := d__law_same) (n := 60) (k := 0) (c := c__law_same) (ss := S14) (N := ["told", "due"]) (List.mem_of_getElem? (i := 18) rfl) rfl (List.mem_of_getElem? (i := 18) rfl) rfl (by kernel_rfl) (fun kV doc pm an cdv ct us hl => match us, hl with | [a0, a1], _ => rfl) aN rfl (fun cdv _ => cfg_of (hexm h he) (hblt h) aN (lookup_all aN) aN ⟨hkeys, aN, aN⟩ (fun y hy => by rw [exL_fst]; exact (show ∀ y ∈ (c__law_same).cls, y ∈ hex by decide +kernel) y hy) (by intro z; cases z) (by intro z; cases z)) (by kernel_rfl) (fun ds => r14 ds)
theorem F__law_is_int (h : Hd g hfa hfn) (he : exK hex g.K = true) : FnK g (zD g KTn (PP g d w c)) 1 ⟨"_law_is_int", ["thing"], sp0, []⟩ :=
  h.fk (Φ := PhK) (d := d__law_is_int) (n := 60) (k := 0) (c := c__law_is_int) (ss := S15) (N := ["thing"]) (List.mem_of_getElem? (i := 19) rfl) rfl (List.mem_of_getElem? (i := 19) rfl) rfl (by kernel_rfl) (fun kV doc pm an cdv ct us hl => match us, hl with | [a0], _ => rfl) aN rfl (fun cdv _ => cfg_of (hexm h he) (hblt h) aN (lookup_all aN) aN ⟨hkeys, aN, aN⟩ (fun y hy => by rw [exL_fst]; exact (show ∀ y ∈ (c__law_is_int).cls, y ∈ hex by decide +kernel) y hy) (by intro z; cases z) (by intro z; cases z)) (by kernel_rfl) (fun ds => r15 ds)
theorem F__law_is_between (h : Hd g hfa hfn) (he : exK hex g.K = true) : FnK g (zD g KTn (PP g d w c)) 2 ⟨"_law_is_between", ["thing", "least", "most"], sp1, []⟩ :=
  h.fk (Φ := PhK) (d := d__law_is_between) (n := 60) (k := 1) (c := c__law_is_between) (ss := S16) (N := ["thing", "least", "most"]) (List.mem_of_getElem? (i := 20) rfl) rfl (List.mem_of_getElem? (i := 20) rfl) rfl (by kernel_rfl) (fun kV doc pm an cdv ct us hl => match us, hl with | [a0, a1, a2], _ => rfl) aN rfl (fun cdv _ => cfg_of (hexm h he) (hblt h) (aC ((F__law_is_int h he : FnK g (zD g KTn (PP g d w c)) 1 _).mono (Nat.le_of_ble_eq_true rfl)) aN) (lookup_all aN) aN ⟨hkeys, aN, aN⟩ (fun y hy => by rw [exL_fst]; exact (show ∀ y ∈ (c__law_is_between).cls, y ∈ hex by decide +kernel) y hy) (by intro z; cases z) (by intro z; cases z)) (by kernel_rfl) (fun ds => r16 rfl ds)
theorem F__law_is_key (h : Hd g hfa hfn) (he : exK hex g.K = true) : FnK g (zD g KTn (PP g d w c)) 3 ⟨"_law_is_key", ["grid", "thing"], sp5d, []⟩ :=
  h.fk (Φ := PhK) (d := d__law_is_key) (n := 60) (k := 2) (c := c__law_is_key) (ss := S19) (N := ["grid", "thing", "cut"]) (List.mem_of_getElem? (i := 21) rfl) rfl (List.mem_of_getElem? (i := 21) rfl) rfl (by kernel_rfl) (fun kV doc pm an cdv ct us hl => match us, hl with | [a0, a1], _ => rfl) aN rfl (fun cdv _ => cfg_of (hexm h he) (hblt h) (aC ((F__law_is_between h he : FnK g (zD g KTn (PP g d w c)) 2 _).mono (Nat.le_of_ble_eq_true rfl)) aN) (lookup_all aN) aN ⟨hkeys, aN, aN⟩ (fun y hy => by rw [exL_fst]; exact (show ∀ y ∈ (c__law_is_key).cls, y ∈ hex by decide +kernel) y hy) (by intro z; cases z) (by intro z; cases z)) (by kernel_rfl) (fun ds => r19 rfl ds)
theorem F__law_power (h : Hd g hfa hfn) (he : exK hex g.K = true) : FnK g (zD g KTn (PP g d w c)) 1 ⟨"_law_power", ["base", "times"], sp20, []⟩ :=
  h.fk (Φ := PhK) (d := d__law_power) (n := 60) (k := 0) (c := c__law_power) (ss := S20) (N := ["base", "times", "found", "turn"]) (List.mem_of_getElem? (i := 22) rfl) rfl (List.mem_of_getElem? (i := 22) rfl) rfl (by kernel_rfl) (fun kV doc pm an cdv ct us hl => match us, hl with | [a0, a1], _ => rfl) aN rfl (fun cdv _ => cfg_of (hexm h he) (hblt h) aN (lookup_all aN) aN ⟨hkeys, aN, aN⟩ (fun y hy => by rw [exL_fst]; exact (show ∀ y ∈ (c__law_power).cls, y ∈ hex by decide +kernel) y hy) (by intro z; cases z) (by intro z; cases z)) (by kernel_rfl) (fun ds => r20 ds)
theorem F__law_apart (h : Hd g hfa hfn) (he : exK hex g.K = true) : FnK g (zD g KTn (PP g d w c)) 1 ⟨"_law_apart", ["one", "other"], sp37, []⟩ :=
  h.fk (Φ := PhK) (d := d__law_apart) (n := 60) (k := 0) (c := c__law_apart) (ss := S41) (N := ["one", "other", "k"]) (List.mem_of_getElem? (i := 23) rfl) rfl (List.mem_of_getElem? (i := 23) rfl) rfl (by kernel_rfl) (fun kV doc pm an cdv ct us hl => match us, hl with | [a0, a1], _ => rfl) aN rfl (fun cdv _ => cfg_of (hexm h he) (hblt h) aN (lookup_all aN) aN ⟨hkeys, aN, aN⟩ (fun y hy => by rw [exL_fst]; exact (show ∀ y ∈ (c__law_apart).cls, y ∈ hex by decide +kernel) y hy) (by intro z; cases z) (by intro z; cases z)) (by kernel_rfl) (fun ds => r41 ds)
theorem F__law_grid (h : Hd g hfa hfn) (he : exK hex g.K = true) : FnK g (zD g KTn (PP g d w c)) 3 ⟨"_law_grid", ["draw"], sp21, []⟩ :=
  h.fk (Φ := PhK) (d := d__law_grid) (n := 60) (k := 2) (c := c__law_grid) (ss := S21) (N := ["draw"]) (List.mem_of_getElem? (i := 24) rfl) rfl (List.mem_of_getElem? (i := 24) rfl) rfl (by kernel_rfl) (fun kV doc pm an cdv ct us hl => match us, hl with | [a0], _ => rfl) aN rfl (fun cdv _ => cfg_of (hexm h he) (hblt h) (aC ((F__law_take h he : FnK g (zD g KTn (PP g d w c)) 2 _).mono (Nat.le_of_ble_eq_true rfl)) aN) (lookup_all aN) aN ⟨hkeys, aN, aN⟩ (fun y hy => by rw [exL_fst]; exact (show ∀ y ∈ (c__law_grid).cls, y ∈ hex by decide +kernel) y hy) (by intro z; cases z) (by intro z; cases z)) (by kernel_rfl) (fun ds => r21 rfl ds)
theorem F__law_key (h : Hd g hfa hfn) (he : exK hex g.K = true) : FnK g (zD g KTn (PP g d w c)) 3 ⟨"_law_key", ["draw", "grid"], sp22, []⟩ :=
  h.fk (Φ := PhK) (d := d__law_key) (n := 60) (k := 2) (c := c__law_key) (ss := S22) (N := ["draw", "grid", "turn"]) (List.mem_of_getElem? (i := 25) rfl) rfl (List.mem_of_getElem? (i := 25) rfl) rfl (by kernel_rfl) (fun kV doc pm an cdv ct us hl => match us, hl with | [a0, a1], _ => rfl) aN rfl (fun cdv _ => cfg_of (hexm h he) (hblt h) (aC ((F__law_take h he : FnK g (zD g KTn (PP g d w c)) 2 _).mono (Nat.le_of_ble_eq_true rfl)) aN) (lookup_all aN) aN ⟨hkeys, aN, aN⟩ (fun y hy => by rw [exL_fst]; exact (show ∀ y ∈ (c__law_key).cls, y ∈ hex by decide +kernel) y hy) (by intro z; cases z) (by intro z; cases z)) (by kernel_rfl) (fun ds => r22 rfl ds)
theorem F__law_bad_grid (h : Hd g hfa hfn) (he : exK hex g.K = true) : FnK g (zD g KTn (PP g d w c)) 4 ⟨"_law_bad_grid", ["draw"], sp26, []⟩ :=
  h.fk (Φ := PhK) (d := d__law_bad_grid) (n := 60) (k := 3) (c := c__law_bad_grid) (ss := S26) (N := ["draw"]) (List.mem_of_getElem? (i := 26) rfl) rfl (List.mem_of_getElem? (i := 26) rfl) rfl (by kernel_rfl) (fun kV doc pm an cdv ct us hl => match us, hl with | [a0], _ => rfl) aN rfl (fun cdv _ => cfg_of (hexm h he) (hblt h) (aC ((F__law_pick h he : FnK g (zD g KTn (PP g d w c)) 3 _).mono (Nat.le_of_ble_eq_true rfl)) aN) (lookup_all aN) aN ⟨hkeys, aN, aN⟩ (fun y hy => by rw [exL_fst]; exact (show ∀ y ∈ (c__law_bad_grid).cls, y ∈ hex by decide +kernel) y hy) (by intro z; cases z) (by intro z; cases z)) (by kernel_rfl) (fun ds => r26 rfl ds)
theorem F__law_bad_key (h : Hd g hfa hfn) (he : exK hex g.K = true) : FnK g (zD g KTn (PP g d w c)) 4 ⟨"_law_bad_key", ["draw", "grid"], sp27, []⟩ :=
  h.fk (Φ := PhK) (d := d__law_bad_key) (n := 60) (k := 3) (c := c__law_bad_key) (ss := S27) (N := ["draw", "grid", "good"]) (List.mem_of_getElem? (i := 27) rfl) rfl (List.mem_of_getElem? (i := 27) rfl) rfl (by kernel_rfl) (fun kV doc pm an cdv ct us hl => match us, hl with | [a0, a1], _ => rfl) aN rfl (fun cdv _ => cfg_of (hexm h he) (hblt h) (aC ((F__law_key h he : FnK g (zD g KTn (PP g d w c)) 3 _).mono (Nat.le_of_ble_eq_true rfl)) (aC ((F__law_pick h he : FnK g (zD g KTn (PP g d w c)) 3 _).mono (Nat.le_of_ble_eq_true rfl)) aN)) (lookup_all aN) aN ⟨hkeys, aN, aN⟩ (fun y hy => by rw [exL_fst]; exact (show ∀ y ∈ (c__law_bad_key).cls, y ∈ hex by decide +kernel) y hy) (by intro z; cases z) (by intro z; cases z)) (by kernel_rfl) (fun ds => r27 rfl rfl ds)
theorem F__law_told (h : Hd g hfa hfn) (he : exK hex g.K = true) : FnK g (zD g KTn (PP g d w c)) 7 ⟨"_law_told", ["work"], sp28, []⟩ :=
  h.fk (Φ := PhK) (d := d__law_told) (n := 60) (k := 6) (c := c__law_told) (ss := S28) (N := ["work", "error", "found", "caught"]) (List.mem_of_getElem? (i := 28) rfl) rfl (List.mem_of_getElem? (i := 28) rfl) rfl (by kernel_rfl) (fun kV doc pm an cdv ct us hl => match us, hl with | [a0], _ => rfl) aN rfl (fun cdv _ => cfg_of (hexm h he) (hblt h) (aC ((F__law_same h he : FnK g (zD g KTn (PP g d w c)) 1 _).mono (Nat.le_of_ble_eq_true rfl)) aN) (lookup_all aN) aN ⟨hkeys, aN, aN⟩ (fun y hy => by rw [exL_fst]; exact (show ∀ y ∈ (c__law_told).cls, y ∈ hex by decide +kernel) y hy) (fun _ => ⟨by rw [exL_fst]; decide +kernel, Nat.le_of_ble_eq_true rfl⟩) (by intro z; cases z)) (by kernel_rfl) (fun ds => r28 ds)
theorem F__law_all (h : Hd g hfa hfn) (he : exK hex g.K = true) : FnK g (zD g KTn (PP g d w c)) 8 ⟨"_law_all", ["works"], sp29, []⟩ :=
  h.fk (Φ := PhK) (d := d__law_all) (n := 60) (k := 7) (c := c__law_all) (ss := S29) (N := ["works", "found", "work"]) (List.mem_of_getElem? (i := 29) rfl) rfl (List.mem_of_getElem? (i := 29) rfl) rfl (by kernel_rfl) (fun kV doc pm an cdv ct us hl => match us, hl with | [a0], _ => rfl) aN rfl (fun cdv _ => cfg_of (hexm h he) (hblt h) (aC ((F__law_told h he : FnK g (zD g KTn (PP g d w c)) 7 _).mono (Nat.le_of_ble_eq_true rfl)) aN) (lookup_all aN) aN ⟨hkeys, aN, aN⟩ (fun y hy => by rw [exL_fst]; exact (show ∀ y ∈ (c__law_all).cls, y ∈ hex by decide +kernel) y hy) (by intro z; cases z) (by intro z; cases z)) (by kernel_rfl) (fun ds => r29 rfl ds)
theorem F__law_place (h : Hd g hfa hfn) (he : exK hex g.K = true) : FnK g (zD g KTn (PP g d w c)) 2 ⟨"_law_place", ["grid", "key"], sp42, []⟩ :=
  h.fk (Φ := PhK) (d := d__law_place) (n := 60) (k := 1) (c := c__law_place) (ss := S42) (N := ["grid", "key", "k"]) (List.mem_of_getElem? (i := 30) rfl) rfl (List.mem_of_getElem? (i := 30) rfl) rfl (by kernel_rfl) (fun kV doc pm an cdv ct us hl => match us, hl with | [a0, a1], _ => rfl) aN rfl (fun cdv _ => cfg_of (hexm h he) (hblt h) (aC ((F__law_power h he : FnK g (zD g KTn (PP g d w c)) 1 _).mono (Nat.le_of_ble_eq_true rfl)) aN) (lookup_all aN) aN ⟨hkeys, aN, aN⟩ (fun y hy => by rw [exL_fst]; exact (show ∀ y ∈ (c__law_place).cls, y ∈ hex by decide +kernel) y hy) (by intro z; cases z) (by intro z; cases z)) (by kernel_rfl) (fun ds => r42 rfl ds)
theorem F__law_are_places (h : Hd g hfa hfn) (he : exK hex g.K = true) : FnK g (zD g KTn (PP g d w c)) 6 ⟨"_law_are_places", ["draw", "grid"], sp43, []⟩ :=
  h.fk (Φ := PhK) (d := d__law_are_places) (n := 60) (k := 5) (c := c__law_are_places) (ss := S43) (N := ["draw", "grid", "many", "at", "key", "other"]) (List.mem_of_getElem? (i := 31) rfl) rfl (List.mem_of_getElem? (i := 31) rfl) rfl (by kernel_rfl) (fun kV doc pm an cdv ct us hl => match us, hl with | [a0, a1], _ => rfl) aN rfl (fun cdv _ => cfg_of (hexm h he) (hblt h) (aC ((F__law_power h he : FnK g (zD g KTn (PP g d w c)) 1 _).mono (Nat.le_of_ble_eq_true rfl)) (aC ((F__law_pick h he : FnK g (zD g KTn (PP g d w c)) 3 _).mono (Nat.le_of_ble_eq_true rfl)) (aC ((F_key_at h he : FnK g (zD g KTn (PP g d w c)) 5 _).mono (Nat.le_of_ble_eq_true rfl)) (aC ((F__law_key h he : FnK g (zD g KTn (PP g d w c)) 3 _).mono (Nat.le_of_ble_eq_true rfl)) (aC ((F__law_same h he : FnK g (zD g KTn (PP g d w c)) 1 _).mono (Nat.le_of_ble_eq_true rfl)) (aC ((F__law_is_key h he : FnK g (zD g KTn (PP g d w c)) 3 _).mono (Nat.le_of_ble_eq_true rfl)) (aC ((F__law_place h he : FnK g (zD g KTn (PP g d w c)) 2 _).mono (Nat.le_of_ble_eq_true rfl)) (aC ((F_place_of h he : FnK g (zD g KTn (PP g d w c)) 5 _).mono (Nat.le_of_ble_eq_true rfl)) (aC ((F__law_take h he : FnK g (zD g KTn (PP g d w c)) 2 _).mono (Nat.le_of_ble_eq_true rfl)) aN))))))))) (lookup_all aN) aN ⟨hkeys, aN, aN⟩ (fun y hy => by rw [exL_fst]; exact (show ∀ y ∈ (c__law_are_places).cls, y ∈ hex by decide +kernel) y hy) (by intro z; cases z) (by intro z; cases z)) (by kernel_rfl) (fun ds => r43 rfl rfl rfl rfl rfl rfl rfl rfl rfl ds)
theorem F__law_are_far (h : Hd g hfa hfn) (he : exK hex g.K = true) : FnK g (zD g KTn (PP g d w c)) 6 ⟨"_law_are_far", ["draw", "grid"], sp44, []⟩ :=
  h.fk (Φ := PhK) (d := d__law_are_far) (n := 60) (k := 5) (c := c__law_are_far) (ss := S44) (N := ["draw", "grid", "one", "other", "third", "k", "apart", "found", "turn"]) (List.mem_of_getElem? (i := 32) rfl) rfl (List.mem_of_getElem? (i := 32) rfl) rfl (by kernel_rfl) (fun kV doc pm an cdv ct us hl => match us, hl with | [a0, a1], _ => rfl) aN rfl (fun cdv _ => cfg_of (hexm h he) (hblt h) (aC ((F_differences h he : FnK g (zD g KTn (PP g d w c)) 5 _).mono (Nat.le_of_ble_eq_true rfl)) (aC ((F__law_key h he : FnK g (zD g KTn (PP g d w c)) 3 _).mono (Nat.le_of_ble_eq_true rfl)) (aC ((F__law_take h he : FnK g (zD g KTn (PP g d w c)) 2 _).mono (Nat.le_of_ble_eq_true rfl)) (aC ((F__law_same h he : FnK g (zD g KTn (PP g d w c)) 1 _).mono (Nat.le_of_ble_eq_true rfl)) (aC ((F_exchanged h he : FnK g (zD g KTn (PP g d w c)) 5 _).mono (Nat.le_of_ble_eq_true rfl)) (aC ((F__law_apart h he : FnK g (zD g KTn (PP g d w c)) 1 _).mono (Nat.le_of_ble_eq_true rfl)) aN)))))) (lookup_all aN) aN ⟨hkeys, aN, aN⟩ (fun y hy => by rw [exL_fst]; exact (show ∀ y ∈ (c__law_are_far).cls, y ∈ hex by decide +kernel) y hy) (by intro z; cases z) (by intro z; cases z)) (by kernel_rfl) (fun ds => r44 rfl rfl rfl rfl rfl rfl ds)
end
def c_lawr : Cfg := ⟨["script", "draw", "turn", "grid", "key", "bad", "wrong", "at", "k", "found", "due"], [e__law_grid, e__law_pick, e__law_all, e__law_key, e__law_bad_grid, e__law_bad_key, e__law_are_places, e__law_are_far, e__law_power, e_place_of, e_key_at, e_differences, e_exchanged], [], [], [], [], [], true, [e_place_of, e_key_at, e_differences, e_exchanged], [], [], [], false⟩
theorem lawPh : Ph1 PhK := by constructor <;> rfl
theorem lawR {K : PySem.W.Frag} {w : World} {mg : Str → Option Value} {fl : Addr} (S : He.SaysT hfa hfn [] w K) (he : exK hex K = true) (hmg : mg ("law" : Str) = some (.ref fl)) : LawRuns (PySem.Challenge.rw_mastercuts_k01_whole_places_and_distance).prog w K mg fl 63 (htf.map (He.cT K)) := by
  intro base H a ns oa t1 hK hN TB hT hA hl e0
  let g : GE := ⟨(PySem.Challenge.rw_mastercuts_k01_whole_places_and_distance).prog, w, K, mg, base⟩
  have h : Hd g hfa hfn := ⟨S.d, hK, hN⟩
  obtain ⟨fb, fdb, B⟩ := h.beg (Φ := PhK) (d := d__law_begun) (c := c__law_begun) (n := 60) (m := 60) (k := 9) (N := ["script", "wide", "grain"]) (ps := ["script"]) (s' := begS) (tc := begT) (okN := fun ns => ns.length ≤ 63) (kw := "wide") (x := "wide") (i := 1) (nm := "_law_begun")
    (List.mem_of_getElem? (i := 14) rfl) rfl (List.mem_of_getElem? (i := 14) rfl) rfl (by kernel_rfl) rfl (by exact rfl) (fun kV doc pm an cdv ct us hl => match us, hl with | [a0], _ => rfl) (hblt h) rfl ⟨rfl, rfl, rfl, rfl, rfl, rfl, rfl, rfl⟩ (by kernel_rfl) (by kernel_rfl) (by rfl) (by rfl) (by kernel_rfl) (by rfl) (by decide) (by decide) (by decide) begun_law
  refine h.law (Φ := PhK) (c := c_lawr) (d := d_law) (fb := fb) (fdb := fdb) (n := 60) (k := 9+1) (kt := KTn) (N := ["script", "draw", "turn", "grid", "key", "bad", "wrong", "at", "k", "found", "due"]) (ps := ["script"]) (ss := S45) (nm := "_law_begun") (sn := "script") (dn := "draw") (j := 1) (kw := "wide") (okN := fun ns => ns.length ≤ 63) (T := TT K) (ex := exL K hex) (ns := ns)
    (List.mem_of_getElem? (i := 33) rfl) rfl (List.mem_of_getElem? (i := 33) rfl) rfl hmg (by kernel_rfl) (by exact rfl) (fun kV doc pm an cdv ct us hl => match us, hl with | [a0], _ => rfl) rfl B rfl (by rfl) (by rfl) (by kernel_rfl) (by rfl) (by kernel_rfl) (by kernel_rfl) (by rfl) (kvOk_A (by decide) (by decide) (by decide)) (fun cdv hco ⟨cp, ecp⟩ d w c => ?_) (by kernel_rfl) ?_ ⟨rfl, by decide, by decide⟩ e0 hA (Nat.le_trans hl (by decide)) hl (tabs_empty fun p hp => ?_)
  · refine cfg_of (hexm h he) (hblt h) (aC ((F__law_grid h he : FnK g (zD g KTn (PP g d w c)) 3 _).mono (Nat.le_of_ble_eq_true rfl)) (aC ((F__law_pick h he : FnK g (zD g KTn (PP g d w c)) 3 _).mono (Nat.le_of_ble_eq_true rfl)) (aC ((F__law_all h he : FnK g (zD g KTn (PP g d w c)) 8 _).mono (Nat.le_of_ble_eq_true rfl)) (aC ((F__law_key h he : FnK g (zD g KTn (PP g d w c)) 3 _).mono (Nat.le_of_ble_eq_true rfl)) (aC ((F__law_bad_grid h he : FnK g (zD g KTn (PP g d w c)) 4 _).mono (Nat.le_of_ble_eq_true rfl)) (aC ((F__law_bad_key h he : FnK g (zD g KTn (PP g d w c)) 4 _).mono (Nat.le_of_ble_eq_true rfl)) (aC ((F__law_are_places h he : FnK g (zD g KTn (PP g d w c)) 6 _).mono (Nat.le_of_ble_eq_true rfl)) (aC ((F__law_are_far h he : FnK g (zD g KTn (PP g d w c)) 6 _).mono (Nat.le_of_ble_eq_true rfl)) (aC ((F__law_power h he : FnK g (zD g KTn (PP g d w c)) 1 _).mono (Nat.le_of_ble_eq_true rfl)) (aC ((F_place_of h he : FnK g (zD g KTn (PP g d w c)) 5 _).mono (Nat.le_of_ble_eq_true rfl)) (aC ((F_key_at h he : FnK g (zD g KTn (PP g d w c)) 5 _).mono (Nat.le_of_ble_eq_true rfl)) (aC ((F_differences h he : FnK g (zD g KTn (PP g d w c)) 5 _).mono (Nat.le_of_ble_eq_true rfl)) (aC ((F_exchanged h he : FnK g (zD g KTn (PP g d w c)) 5 _).mono (Nat.le_of_ble_eq_true rfl)) aN))))))))))))) (lookup_all aN) aN ⟨hkeys (g := g) (d := d) (w := w) (c := c), aN, aN⟩ aN (by intro z; cases z) (fun _ => ⟨5, ?_, rfl, (aC ((F_place_of h he : FnK g (zD g KTn (PP g d w c)) 5 _).mono (Nat.le_of_ble_eq_true rfl)) (aC ((F_key_at h he : FnK g (zD g KTn (PP g d w c)) 5 _).mono (Nat.le_of_ble_eq_true rfl)) (aC ((F_differences h he : FnK g (zD g KTn (PP g d w c)) 5 _).mono (Nat.le_of_ble_eq_true rfl)) (aC ((F_exchanged h he : FnK g (zD g KTn (PP g d w c)) 5 _).mono (Nat.le_of_ble_eq_true rfl)) aN))))⟩)
    exact zoneD_lam (c := cp) (Pt := (He.cT K (("law" : Str), none)).2) ecp (lam_in TB List.mem_cons_self (hco cp ecp)) List.mem_cons_self fun p hp _ => by
      obtain rfl := List.mem_singleton.mp hp
      rfl
  · exact law_plain1 lawPh ns hl
  · obtain ⟨x, hx, rfl⟩ := List.mem_map.mp hp
    exact hT _ (List.mem_map.mpr ⟨x, hx, rfl⟩)
end PL
open PySem
open PySem.W
open PySem.Calls
open PyProof.Rows
theorem PySem.Challenge.cw_mastercuts_k01_whole_places_and_distance_holds : PySem.Challenge.rw_mastercuts_k01_whole_places_and_distance.Holds := by
  w_on; o_law
  refine HandSHeadRun.head_any (r := OpenLaw.row PySem.Challenge.rw_mastercuts_k01_whole_places_and_distance) (q := view (OpenLaw.row PySem.Challenge.rw_mastercuts_k01_whole_places_and_distance).prog [52]) (H := PL.hk) (ob := PL.hob) (M := 30000) (loose := PL.hnm) (d := HandSHeadRun.topDef (OpenLaw.row PySem.Challenge.rw_mastercuts_k01_whole_places_and_distance).prog 52) (kwd := []) PL.hob_eq
    (by kernel_rfl) (fun s => by kernel_rfl) PL.hrun (by kernel_rfl) (by kernel_rfl) (by kernel_rfl) (by rfl) (by first | assumption | decide +kernel) (by decide +kernel) ⟨rfl, rfl, rfl, rfl, rfl, by decide +kernel⟩ ?hw ?hc
  case hw => w_witness2
  case hc =>
    refine PL.walk_C (l := PySem.Challenge.rw_mastercuts_k01_whole_places_and_distance) (n := 63) rfl (by decide) (by kernel_rfl) (fun K he => (He.ba he).1) ?F
    intro w K mg fa h X G S he hmg0
    have hmg : mg ("law" : PySem.Str) = some (.ref fa) := by
      have e : (HandSHeadRun.topDef (OpenLaw.row PySem.Challenge.rw_mastercuts_k01_whole_places_and_distance).prog 52).name = ("law" : PySem.Str) := by kernel_rfl
      rw [← e]
      exact hmg0
    exact PL.lawR S he hmg

