import PyProof.Rows.All
import Wide.All
import OpenK.AllK
import Wide.FinOn
import HandS.ForMost
import HandS.Walk
import HandS.Zip
import KE.GoesEnum
import KE.GoesZip
import KE.GoesMore
import HandS.Deep
import HandS.SetFor
import HandS.Strs
import HandS.ForExc
import HandS.ExcInit
import HandS.Defaults
import HandS.Nested
import KE.KExcSuper
import KE.KExcMake
import HandS.ExcValue
import HandS.ExcField
import KE.KExcIs
import HandS.Lambda
import HandS.CallLocal
import HandS.TupAny
import HandS.SortInts
import HandS.SortOrd
import HandS.Codes
import HandS.More
import PyProof.EqAt
import PyProof.NeKinds
import HandS.DictComp
import HandS.IsInst
import HandS.Small
import HandS.Conv
import HandS.Style
import HandS.Wide
import HandS.Head0
import HandS.Head1
import HandS.Head2
import HandS.HeadHook1
import HandS.HeadHook2
import HandS.HeadHook3
import HandS.HeadHook4
import HandS.HeadWalk
import KE.KStateDown
import PySem.Challenge.RW_onebase_k41_whole_fewest_knots_and_most
set_option Elab.async false
set_option linter.all false
set_option maxRecDepth 100000
set_option maxHeartbeats 4000000
namespace K41
open PySem PySem.Spec PyProof.Rows L2

/-! ### enumerate of a tuple -/
theorem meetsEnumB {v : Value} {ob : Obj} {Hh : Heap → Prop} (B : Begins v ob Hh) :
    Meets (Builtin.«enumerate.__new__» ⟨[.type "enumerate", v], []⟩) (fun _ R s => Hh s.heap ∧
      R (.ok (.ret (.ref (s.heap.push ob).objs.size)))
        { s with heap := (s.heap.push ob).push { cls := .type "enumerate", data := .fields #[.none, .bool false, .ref s.heap.objs.size, rawInt 0, .none, .none] } }) :=
  .of_wp fun prog w A R s ha => by
    obtain ⟨hp, gn, dw, tk, osx⟩ := s
    obtain ⟨hB, hR⟩ := ha
    have isEn := sub_enumerate
    have go : ∀ (A : Around) (E : Value → Shared → Prop) (Q : Value → Shared → Prop), Q (.ref hp.objs.size) ⟨hp.push ob, gn, dw, tk, osx⟩ → wpAny (model prog w) A (pyIter v) Q E ⟨hp, gn, dw, tk, osx⟩ := fun A E Q q => B.iter prog w A E _ Q hB q
    wp_walk
    refine wpAny_stack_any fun stk => wpAny_pure ?_
    split
    · rename_i c _ _ _ _ _
      cases (c == Value.type "enumerate")
      all_goals
        wp_walk using (go _ _ _)
        exact ⟨_, rfl, hR⟩
    · wp_walk using (go _ _ _)
      exact ⟨_, rfl, hR⟩

abbrev enO (a : Addr) : Obj := { cls := .type "enumerate", data := .fields #[.none, .bool false, .ref a, rawInt 0, .none, .none] }
abbrev tiO (t : Addr) : Obj := { cls := .type "tuple_iterator", data := .fields #[.ref t, .int 0 0] }
theorem callEnumTup {prog : Program} {w : World} {A : Around} {E : Value → Shared → Prop} {s : Shared} {t : Addr} {its : Array Value} {Q : Value → Shared → Prop} (ht : s.heap.IsTuple t its)
    (q : ∀ h', IsEnum h' (s.heap.objs.size + 1) s.heap.objs.size 0 .none → h'.IsTupleIter s.heap.objs.size t 0 → (∀ b o, s.heap.get? b = some o → h'.get? b = some o) → Q (.ref (s.heap.objs.size + 1)) { s with heap := h' }) :
    wpAny (model prog w) A (call (.type "enumerate") [.ref t]) Q E s := by
  refine callType_new F.called_enumerate (by decide) (F.typeCall_enumerate_1 _) (F.newCall_enumerate_1 _) (fun ob => F.args_object_init_2 ob _) F.entry_enumerate_new (meetsEnumB (begins_tuple t its)) ⟨ht, ?_⟩
  have z : (s.heap.push (tiO t)).objs.size = s.heap.objs.size + 1 := Heap.size_push ..
  have g1 : ((s.heap.push (tiO t)).push (enO s.heap.objs.size)).get? (s.heap.objs.size + 1) = some (enO s.heap.objs.size) := by
    have y := Heap.get?_push_size (s.heap.push (tiO t)) (o := enO s.heap.objs.size) rfl
    rw [z] at y
    exact y
  have g0 : ((s.heap.push (tiO t)).push (enO s.heap.objs.size)).get? s.heap.objs.size = some (tiO t) := Heap.get?_push_of_some _ (Heap.get?_push_size _ rfl)
  have kp : ∀ b o, s.heap.get? b = some o → ((s.heap.push (tiO t)).push (enO s.heap.objs.size)).get? b = some o := fun b o x => Heap.get?_push_of_some _ (Heap.get?_push_of_some _ x)
  show _ ∧ _
  rw [z]
  exact ⟨⟨_, g1, rfl⟩, q _ g1 ⟨_, g0, rfl, rfl⟩ kp⟩
/-- the tuple at a, each item in a new pair with its number -/
def IteT (K : PySem.W.Frag) (a : Addr) : It :=
  ⟨fun i H => ∃ (xs : List V) (x : V), SqT K H a xs ∧ xs[i]? = some x,
   fun i H v H' => ∃ T x, v = .ref T ∧ H T = none ∧ H' = upd H T (.tup [.int (i : Nat), x]) ∧ ∀ xs, SqT K H a xs → xs[i]? = some x,
   fun i H => ∃ xs : List V, SqT K H a xs ∧ i = xs.length⟩
theorem turnEnumT {P : Program} {w : World} {K : PySem.W.Frag} {elts : List Expr} {kk : Nat} {tpos : Pos} (a e it : Addr) :
    Turn P w K (.Tuple elts kk tpos) (IteT K a) [e, it] e (fun i h => (∃ old, IsEnum h e it ((i : Nat) : Int) old) ∧ h.IsTupleIter it a i ∧ e ≠ it) where
  mem := List.mem_cons_self
  obj := fun i h ⟨⟨_, en⟩, ⟨oi, gi, _, di⟩, _⟩ b hb => by
    rcases List.mem_cons.mp hb with rfl | hb
    · exact ⟨_, en, fun v q => nomatch q⟩
    · rw [List.mem_singleton.mp hb]
      exact ⟨oi, gi, fun v q => by rw [di] at q; cases q⟩
  keep := fun i h h' ⟨⟨old, en⟩, ti, ne⟩ k => ⟨⟨old, k e (by simp) _ en⟩, ti.at fun o q => k it (by simp) o q, ne⟩
  item := by
    intro X hP hw hK hc i pins s σ H E I hf ⟨⟨old, en⟩, ti, ne⟩ ⟨xs, x, hq, hx⟩
    subst hP hw hK
    obtain ⟨its, rv, pt, hz⟩ := I.tuple hq
    obtain ⟨u, hu, ru⟩ := rv.get hx
    have le : e < s.heap.objs.size := Heap.lt_size en
    have lit : it < s.heap.objs.size := by obtain ⟨_, q, _⟩ := ti; exact Heap.lt_size q
    have aft : H a = none ∨ ∃ o, s.heap.get? a = some o := let ⟨o, ho, _⟩ := pt; .inr ⟨o, ho⟩
    have nit : a ≠ it := fun z => by
      obtain ⟨o, ho, hcl, _⟩ := pt
      obtain ⟨o2, ho2, hcl2, _⟩ := ti
      rw [z, ho2] at ho
      cases ho
      rw [hcl] at hcl2
      exact absurd hcl2 (by decide)
    have nE : a ≠ e := fun z => by
      obtain ⟨o, ho, hcl, _⟩ := pt
      rw [z, show s.heap.get? e = _ from en] at ho
      cases ho
      exact absurd (Value.type.inj hcl) (by decide)
    have nef : e ∉ [it, a] := by
      simp only [List.mem_cons, List.mem_singleton, List.not_mem_nil, or_false, not_or]
      exact ⟨ne, fun z => nE z.symm⟩
    have ilt : i < its.toArray.size := by
      obtain ⟨h1, _⟩ := List.getElem?_eq_some_iff.mp hu
      simpa using h1
    refine wpAny_pyNext_enum_itemD (Draws.tuple (A := X.A.in1) (I.ok.hd hc) it a nit its.toArray) en ⟨ti, pt⟩ ilt ne nef fun y h' tk hy eo st hT hsz hk => ?_
    have ey : y = u := by
      have z1 : its[i]? = some y := by simpa using hy
      rw [hu] at z1
      exact (Option.some.inj z1).symm
    subst ey
    refine ⟨_, rfl, wpAny_letOwnedTupleGo_enum (s := { s with heap := h', toks := tk + 1 }) eo fun h2 en2 sb => ?_⟩
    have gT : h2.get? s.heap.objs.size = some { cls := .type "tuple", data := .seq #[.int i tk, y] } := (sb.2 _ (Nat.ne_of_gt le)).trans hT
    have J : Inv X pins σ (upd H s.heap.objs.size (.tup [.int (i : Nat), x])) { s with heap := h2, toks := tk + 1 } :=
      I.turnedNew (ch := [e, it]) (fun b ob hb q => (sb.2 b (fun z => hb (by simp [z]))).trans (hk b ob (fun z => hb (by simp [z])) (fun z => hb (by simp [z])) q)) hf (Nat.le_refl _)
        ⟨by show 2 ≤ sizeLine; decide, [.int i tk, y], .cons ⟨_, rfl⟩ (.cons ru .nil), ⟨_, gT, rfl, _, rfl⟩⟩
    refine ⟨.ref s.heap.objs.size, _, J, rfl, ⟨_, x, rfl, I.hok.fresh (Nat.le_refl _), rfl, fun ys hy => by rw [I.tuple_inj hy hq]; exact hx⟩, ⟨⟨y, ?_⟩, st.1.at fun o q => (sb.2 it (Ne.symm ne)).trans q, ne⟩, fun b hb => ?_⟩
    · rw [show ((i + 1 : Nat) : Int) = (i : Int) + 1 by omega]
      exact en2
    · have lb : b < s.heap.objs.size := by
        rcases List.mem_cons.mp hb with z | z
        · rw [z]; exact le
        · rw [List.mem_singleton.mp z]; exact lit
      rw [upd_ne (Nat.ne_of_lt lb)]
      exact (hf b hb).1
  done := by
    intro X hP hw hK hc i pins s σ H E I hf ⟨⟨old, en⟩, ti, ne⟩ ⟨xs, hq, hx⟩
    subst hP hw hK
    obtain ⟨its, rv, pt, hz⟩ := I.tuple hq
    obtain ⟨f0, f1, f2, f3, f4, f5⟩ := hf it (by simp)
    have ll := rv.length
    have nit : a ≠ it := fun z => by
      obtain ⟨o, ho, hcl, _⟩ := pt
      obtain ⟨o2, ho2, hcl2, _⟩ := ti
      rw [z, ho2] at ho
      cases ho
      rw [hcl] at hcl2
      exact absurd hcl2 (by decide)
    have li : i = its.toArray.size := by rw [hx, ll]; simp
    subst li
    exact wpAny_pyNext_enum_endD (Draws.tuple (A := X.A.in1) (I.ok.hd hc) it a nit its.toArray) en ⟨ti, pt⟩ fun h' eb => ⟨rfl, I.turned (t' := s.toks) (fun b o hb q => eb b o hb q) f0 f1 f3 f4 f5⟩
  self := fun A i s Q E ⟨⟨_, en⟩, _⟩ q => wpAny_pyIter_enum en q
/-- what enumerate is given: a list or a tuple -/
def iEnumA (K : PySem.W.Frag) (ta : TA) : TI := fun σ H R => ta σ H fun vs H1 => ∃ a xs, vs = [.ref a] ∧ SqT K H1 a xs ∧ R (IteT K a) H1
theorem pi_enumT {X : Cx} {e : Expr} {ta : TA} {p pos tpos : Pos} {elts : List Expr} {kk : Nat} (hg : Gl X "enumerate") (hm : X.mg "enumerate" = none) (ha : PA X [e] ta) (hs : starEach [e] X.env = [(false, eval e X.env)] := by rfl) :
    PI X (.Tuple elts kk tpos) (.Call (.Name "enumerate" p) [e] [] pos) (iEnumA X.K ta) := by
  refine ⟨fun pins s σ H R I h => Call_ (ld_blt I hg hm boot_enumerate (PyProof.Rows.callWith_type1 (thn (ha.run pos pins s σ H _ I h) fun us s1 ⟨vs, H1, I1, r1, q1⟩ => ?_) hs rfl))⟩
  obtain ⟨a, xs, rfl, hq, q⟩ := q1
  cases r1 with
  | cons r rr =>
    cases rr
    cases r
    obtain ⟨its, rv, pt, hz⟩ := I1.tuple hq
    refine callEnumTup pt fun h' en ti hk => wpAny_pyIter_enum en ?_
    have fr : ∀ b ∈ [s1.heap.objs.size + 1, s1.heap.objs.size], FpOk X pins H1 b := fun b hb => by
      have le : s1.heap.objs.size ≤ b := by
        rcases List.mem_cons.mp hb with z | z
        · rw [z]; exact Nat.le_add_right _ _
        · rw [List.mem_singleton.mp z]; exact Nat.le_refl _
      exact I1.fpOk le (I1.hok.fresh le)
    exact ⟨s1.heap.objs.size + 1, [s1.heap.objs.size + 1, s1.heap.objs.size], _, _, H1, rfl, I1.kept (t' := s1.toks) hk, turnEnumT a _ _, ⟨⟨.none, en⟩, ti, Nat.succ_ne_self _⟩, fr, q⟩
theorem walkEnumT {K : PySem.W.Frag} {a : Addr} {xs : List V} : Walk (IteT K a) xs.length (fun H => SqT K H a xs) (YPair (fun i => some (.int (i : Nat))) (fun i => xs[i]?)) :=
  ⟨fun i _ hi q => ⟨xs, xs[i], q, List.getElem?_eq_getElem hi⟩, fun _ q => ⟨xs, q, rfl⟩, fun i H v H' _ q ⟨T, x, h1, h2, h3, h4⟩ => ⟨T, .int (i : Nat), x, h1, h2, h3, rfl, h4 xs q⟩⟩

/-! ### zip of a text and a tuple -/
def ItzST (K : PySem.W.Frag) (z : Str) (b : Addr) : It :=
  ⟨fun i H => i < z.cps.size ∧ ∃ (ys : List V) (y : V), SqT K H b ys ∧ ys[i]? = some y,
   fun i H v H' => ∃ T c y, v = .ref T ∧ H T = none ∧ H' = upd H T (.tup [.str ⟨#[c]⟩, y]) ∧ z.cps[i]? = some c ∧ ∀ ys, SqT K H b ys → ys[i]? = some y,
   fun i H => i ≤ z.cps.size ∧ ∃ ys : List V, SqT K H b ys ∧ i ≤ ys.length ∧ (i = z.cps.size ∨ i = ys.length)⟩
theorem turnZipST {P : Program} {w : World} {K : PySem.W.Frag} {elts : List Expr} {kk : Nat} {tpos : Pos} {x : Str} {t : Tok} {b z TI TO i1 i2 : Addr} (S : ZipSep2 z TI TO i1 i2 [i1] [i2, b]) :
    Turn P w K (.Tuple elts kk tpos) (ItzST K x b) [z, TI, TO, i1, i2] z
      (fun i h => IsZip h z TI TO .none ∧ IsTupOf2 h TI (.ref i1) (.ref i2) ∧ (∃ u v, IsTupOf2 h TO u v) ∧ h.IsStrIter i1 (strIterType x) x t i ∧ h.IsTupleIter i2 b i) where
  mem := List.mem_cons_self
  obj := fun i h ⟨gz, gI, ⟨_, _, gO⟩, ⟨o1, e1, _, d1⟩, ⟨o2, e2, _, d2⟩⟩ c hc => by
    simp only [List.mem_cons, List.mem_singleton, List.not_mem_nil, or_false] at hc
    rcases hc with rfl | rfl | rfl | rfl | rfl
    · exact ⟨_, gz, fun v q => nomatch q⟩
    · exact ⟨_, gI, fun v q => nomatch q⟩
    · exact ⟨_, gO, fun v q => nomatch q⟩
    · exact ⟨o1, e1, fun v q => by rw [d1] at q; cases q⟩
    · exact ⟨o2, e2, fun v q => by rw [d2] at q; cases q⟩
  keep := fun i h h' ⟨gz, gI, ⟨u, v, gO⟩, s1, s2⟩ k => ⟨k z (by simp) _ gz, k TI (by simp) _ gI, ⟨u, v, k TO (by simp) _ gO⟩, (let ⟨o, q, r⟩ := s1; ⟨o, k i1 (by simp) o q, r⟩), s2.at fun o q => k i2 (by simp) o q⟩
  item := by
    intro X hP hw hK hc i pins s σ H E I hf ⟨gz, gI, ⟨u0, v0, gO⟩, s1, s2⟩ ⟨hi1, ys, y, hq, hy⟩
    subst hP hw hK
    obtain ⟨its, rv, pt, _⟩ := I.tuple hq
    obtain ⟨u, hu, ru⟩ := rv.get hy
    have ilt : i < its.toArray.size := by
      obtain ⟨h1, _⟩ := List.getElem?_eq_some_iff.mp hu
      simpa using h1
    have nib : b ≠ i2 := fun q => by
      obtain ⟨o, ho, hcl, _⟩ := pt
      obtain ⟨o2, ho2, hcl2, _⟩ := s2
      rw [q, ho2] at ho
      cases ho
      rw [hcl] at hcl2
      exact absurd hcl2 (by decide)
    have lz : z < s.heap.objs.size := Heap.lt_size gz
    refine wpAny_pyNext_zipD2_item S (Draws.text (A := X.A.in1) (I.ok.hd hc) i1 x t) (Draws.tuple (A := X.A.in1) (I.ok.hd hc) i2 b nib its.toArray) gz gI gO s1 ⟨s2, pt⟩ hi1 ilt fun p1 p2 h' tk y1 y2 gz' gO' s1' s2' gT hsz hk => ?_
    obtain ⟨c, tc, hcx, rfl⟩ := y1
    have e2 : p2 = u := by
      have z1 : its[i]? = some p2 := by simpa using y2
      rw [hu] at z1
      exact (Option.some.inj z1).symm
    subst e2
    refine ⟨_, rfl, wpAny_letOwnedTupleGo_zip (s := { s with heap := h', toks := tk }) gz' fun h2 gz2 sb => ?_⟩
    have gT2 : h2.get? s.heap.objs.size = some { cls := .type "tuple", data := .seq #[.str ⟨#[c]⟩ tc, p2] } := (sb.2 _ (Nat.ne_of_gt lz)).trans gT
    have J : Inv X pins σ (upd H s.heap.objs.size (.tup [.str ⟨#[c]⟩, y])) { s with heap := h2, toks := tk } :=
      I.turnedNew (ch := [z, TI, TO, i1, i2]) (fun a o ha q => (sb.2 a (fun q' => ha (by simp [q']))).trans (hk a o (fun q' => ha (by simp [q'])) (fun q' => ha (by simp [q'])) (fun q' => ha (by simp [q'])) (fun q' => ha (by simp [q'])) q)) hf (Nat.le_refl _)
        ⟨by show 2 ≤ sizeLine; decide, [.str ⟨#[c]⟩ tc, p2], .cons ⟨_, rfl⟩ (.cons ru .nil), ⟨_, gT2, rfl, _, rfl⟩⟩
    refine ⟨.ref s.heap.objs.size, _, J, rfl, ⟨_, c, y, rfl, I.hok.fresh (Nat.le_refl _), rfl, hcx, fun l hl => by rw [I.tuple_inj hl hq]; exact hy⟩, ⟨gz2, ?_, ⟨.str ⟨#[c]⟩ tc, p2, ?_⟩, ?_, ?_⟩, fun a ha => ?_⟩
    · exact (sb.2 _ S.TIz).trans (hk _ _ S.TIz S.TITO S.TIi1 S.TIi2 gI)
    · exact (sb.2 _ S.TOz).trans gO'
    · obtain ⟨o, q, r⟩ := s1'
      exact ⟨o, (sb.2 _ S.zi1.symm).trans q, r⟩
    · exact s2'.1.at fun o q => (sb.2 _ S.zi2.symm).trans q
    · have la : a < s.heap.objs.size := by
        simp only [List.mem_cons, List.mem_singleton, List.not_mem_nil, or_false] at ha
        rcases ha with rfl | rfl | rfl | rfl | rfl
        · exact lz
        · exact Heap.lt_size gI
        · exact Heap.lt_size gO
        · obtain ⟨_, q, _⟩ := s1; exact Heap.lt_size q
        · obtain ⟨_, q, _⟩ := s2; exact Heap.lt_size q
      rw [upd_ne (Nat.ne_of_lt la)]
      exact (hf a ha).1
  done := by
    intro X hP hw hK hc i pins s σ H E I hf ⟨gz, gI, ⟨u0, v0, gO⟩, s1, s2⟩ ⟨hi1, ys, hq, hi2, hend⟩
    subst hP hw hK
    obtain ⟨its, rv, pt, _⟩ := I.tuple hq
    have nib : b ≠ i2 := fun q => by
      obtain ⟨o, ho, hcl, _⟩ := pt
      obtain ⟨o2, ho2, hcl2, _⟩ := s2
      rw [q, ho2] at ho
      cases ho
      rw [hcl] at hcl2
      exact absurd hcl2 (by decide)
    have ll : ys.length = its.toArray.size := by rw [rv.length]; simp
    rw [ll] at hi2 hend
    exact wpAny_pyNext_zipD2_end S (Draws.text (A := X.A.in1) (I.ok.hd hc) i1 x t) (Draws.tuple (A := X.A.in1) (I.ok.hd hc) i2 b nib its.toArray) gz gI gO s1 ⟨s2, pt⟩ hi1 hi2 hend fun h' tk hk =>
      ⟨rfl, I.turnedL (t' := tk) (ch := [z, TI, TO, i1, i2]) (fun a o ha q => hk a o (fun q' => ha (by simp [q'])) (fun q' => ha (by simp [q'])) (fun q' => ha (by simp [q'])) (fun q' => ha (by simp [q'])) q) hf⟩
  self := fun A i s Q E st q => wpAny_pyIter_zip st.1 q
def iZipST (K : PySem.W.Frag) (ta : TA) : TI := fun σ H R => ta σ H fun vs H1 => ∃ z b ys, vs = [.str z, .ref b] ∧ SqT K H1 b ys ∧ R (ItzST K z b) H1
theorem pi_zipST {X : Cx} {e e2 : Expr} {ta : TA} {p pos tpos : Pos} {elts : List Expr} {kk : Nat} (hg : Gl X "zip") (hm : X.mg "zip" = none) (ha : PA X [e, e2] ta)
    (hs : starEach [e, e2] X.env = (false, eval e X.env) :: starEach [e2] X.env := by rfl) (hpl : (backTo pos (starEach [e2] X.env)).any (·.1) = false := by rfl) :
    PI X (.Tuple elts kk tpos) (.Call (.Name "zip" p) [e, e2] [] pos) (iZipST X.K ta) := by
  refine ⟨fun pins s σ H R I h => Call_ (ld_blt I hg hm PyProof.Rows.boot_zip (PyProof.Rows.callWith_type1 (thn (ha.run pos pins s σ H _ I h) fun us s1 ⟨vs, H1, I1, r1, q1⟩ => ?_) hs hpl))⟩
  obtain ⟨z, b, ys, rfl, hq, q⟩ := q1
  cases r1 with
  | cons r rr =>
    cases rr with
    | cons r' rr =>
      cases rr
      cases r'
      obtain ⟨t, rfl⟩ := r
      obtain ⟨its, rv, pt, _⟩ := I1.tuple hq
      have lb : b < s1.heap.objs.size := by
        obtain ⟨o, ho, _⟩ := pt
        exact Heap.lt_size ho
      have fr : ∀ c, c ∈ [s1.heap.objs.size + 4, s1.heap.objs.size + 2, s1.heap.objs.size + 3, s1.heap.objs.size, s1.heap.objs.size + 1] → FpOk X pins H1 c := fun c hc => by
        have le : s1.heap.objs.size ≤ c := by
          simp only [List.mem_cons, List.mem_singleton, List.not_mem_nil, or_false] at hc
          rcases hc with rfl | rfl | rfl | rfl | rfl <;> first | exact Nat.le_add_right _ _ | exact Nat.le_refl _
        exact I1.fpOk le (I1.hok.fresh le)
      refine zip_begins2 (begins_text z t) (begins_tuple b its.toArray) trivial pt fun h' gz gI gO g1 g2 hsz hk => wpAny_pyIter_zip gz ?_
      exact ⟨s1.heap.objs.size + 4, [s1.heap.objs.size + 4, s1.heap.objs.size + 2, s1.heap.objs.size + 3, s1.heap.objs.size, s1.heap.objs.size + 1], _, _, H1, rfl, I1.kept (t' := s1.toks) hk,
        turnZipST (x := z) (t := t) (zip_sep2 (fp1 := []) (fp2 := [b]) (fun c q => nomatch q) (fun c q => by rw [List.mem_singleton.mp q]; exact lb)), ⟨gz, gI, ⟨_, _, gO⟩, ⟨_, g1, rfl, rfl⟩, ⟨_, g2, rfl, rfl⟩⟩, fr, q⟩
theorem walkZipST {K : PySem.W.Frag} {z : Str} {b : Addr} {ys : List V} {n : Nat} (h1 : z.cps.size = n) (h2 : ys.length = n) : Walk (ItzST K z b) n (fun H => SqT K H b ys)
    (fun i H v H' => ∃ T c y, v = .ref T ∧ H T = none ∧ H' = upd H T (.tup [.str ⟨#[c]⟩, y]) ∧ z.cps[i]? = some c ∧ ys[i]? = some y) :=
  ⟨fun i _ hi q => ⟨by omega, ys, ys[i], q, List.getElem?_eq_getElem (by omega)⟩, fun _ q => ⟨by omega, ys, q, by omega, .inl h1.symm⟩, fun i H v H' _ q ⟨T, c, y, e1, e2, e3, e4, e5⟩ => ⟨T, c, y, e1, e2, e3, e4, e5 ys q⟩⟩
end K41
set_option maxHeartbeats 4000000
namespace K41
open PySem PySem.Spec PyProof.Rows L2
open AutoSeq1 (wpAny_loadPart')
open MeetsSeq (plain_remove_loop entry_remove_loop)
/-! ### list.remove of an item that is data -/
abbrev lsO (its : Array Value) (n : Nat) : Obj := { cls := .type "list", dict := none, data := .seq its n, slots := #[] }
/-- from turn i on, the j-th being the first that is equal -/
theorem removeFrom (l : Addr) (its : Array Value) (n : Nat) (x : Value) (e : Value → Bool) (j : Nat) (hj : j < its.size) (yes : e its[j] = true) (hz : its.size ≤ sizeLine) (gap : Nat) :
    ∀ i : Nat, j = i + gap → (∀ m (hm : m < its.size), i ≤ m → m < j → e its[m] = false) → Meets (Builtin.«list.remove.loop» ⟨[.ref l, x, rawInt i], []⟩)
      (fun A R s => s.heap.get? l = some (lsO its n) ∧ (∀ y, y ∈ its → SeqAt.EqAt A.in1 s y x (e y)) ∧ R (.ok (.ret .none)) { s with heap := s.heap.update l (Obj.mapSeq fun zs => zs.eraseIdxIfInBounds j) }) := by
  induction gap with
  | zero =>
    intro i hij _ prog w A R s ⟨hl, he, hR⟩
    obtain rfl : j = i := by omega
    obtain ⟨hp, g, d, tk, os⟩ := s
    wp_walk using wpAny_loadPart' hl
    rw [show its[((j : Nat) : Int).toNat]? = some its[j] by simp [hj]]
    refine wpAny_bind (he _ (Array.getElem_mem hj) prog w _ _ ?_)
    rw [yes]
    have small : (its.eraseIdxIfInBounds j).size ≤ sizeLine + 1 := Nat.le_trans (MeetsSeq.size_erased its _) (Nat.le_succ_of_le hz)
    wp_walk using (wpAny_updateSeq hl rfl (hz := hz) (_hz' := small)), wpAny_loadPart' hl
    simpa using hR
  | succ gap ih =>
    intro i hij no prog w A R s ⟨hl, he, hR⟩
    have lt : i < its.size := by omega
    obtain ⟨hp, g, d, tk, os⟩ := s
    wp_walk using wpAny_loadPart' hl
    rw [show its[((i : Nat) : Int).toNat]? = some its[i] by simp [lt]]
    refine wpAny_bind (he _ (Array.getElem_mem lt) prog w _ _ ?_)
    rw [no i lt (Nat.le_refl _) (by omega)]
    wp_walk
    rw [show ((i : Int) + 1) = ((i + 1 : Nat) : Int) by push_cast; rfl]
    refine ⟨plainId_quiet plain_remove_loop _, codeAny_builtin entry_remove_loop ?_⟩
    rw [Around.under_plainId plain_remove_loop _]
    exact ih (i + 1) (by omega) (fun m hm h1 h2 => no m hm (by omega) h2) prog w A R _ ⟨hl, he, hR⟩
theorem removeAt (l : Addr) (its : Array Value) (n : Nat) (x : Value) (e : Value → Bool) (j : Nat) (hj : j < its.size) (yes : e its[j] = true) (no : ∀ m (hm : m < its.size), m < j → e its[m] = false) (hz : its.size ≤ sizeLine) :
    Meets (Builtin.«list.remove» ⟨[.ref l, x], []⟩)
      (fun A R s => s.heap.get? l = some (lsO its n) ∧ (∀ y, y ∈ its → SeqAt.EqAt A.in1 s y x (e y)) ∧ R (.ok (.ret .none)) { s with heap := s.heap.update l (Obj.mapSeq fun zs => zs.eraseIdxIfInBounds j) }) := by
  intro prog w A R s ⟨hl, he, hR⟩
  obtain ⟨hp, g, d, tk, os⟩ := s
  wp_walk using wpAny_loadPart' hl
  refine ⟨plainId_quiet plain_remove_loop _, codeAny_builtin entry_remove_loop ?_⟩
  rw [Around.under_plainId plain_remove_loop _]
  exact removeFrom l its n x e j hj yes hz j 0 (by omega) (fun m hm _ h2 => no m hm h2) prog w A R _ ⟨hl, he, hR⟩
/-- l.remove(x), the first equal item at place j -/
def rRemD (K : PySem.W.Frag) : V → List V → Hp → VK → Prop := fun x xs H Q => ∃ (a : Addr) (ys : List V) (y : V) (d : PyData) (ds : List PyData) (j : Nat) (z : PyData), x = V.ref a ∧ xs = [y] ∧ H a = some (.lst ys) ∧ DpAll K H ys ds ∧ Dp K H y d ∧
  SeqAt.shaped (.list ds) = true ∧ SeqAt.shaped d = true ∧ ds[j]? = some z ∧ PyData.eqv z d = true ∧ (∀ (m : Nat) (z' : PyData), m < j → ds[m]? = some z' → PyData.eqv z' d = false) ∧ Q .non (upd H a (.lst (ys.eraseIdx j)))
section
variable {X : Cx}
theorem mt_removeD (hu : X.A.units + 65 < cLine) : MtM X "list.remove" (rRemD X.K) := by
  intro pins s σ H x xs v us Q I rx rxs h
  obtain ⟨a, ys, y, d, ds, j, z, rfl, rfl, hH, hl, hy, sl, sd, hz, yes, no, q⟩ := h
  cases rx
  obtain ⟨u, rfl, ru⟩ := rxs.one
  obtain ⟨_, ry⟩ := Dp.reads I d y u hy ru
  obtain ⟨hlen, its, n, r, el, eo⟩ := I.lstM hH
  obtain ⟨as, rl⟩ := Dp.readsAll I ds ys its hl r
  have lay : PyData.canLayAll0 ds = true := SeqAt.canLay_of_shaped sl
  have room : X.A.units + 1 + min (PyData.depthAll ds) d.depth < cLine := room_in_shaped sd hu
  have nl : its.length = ds.length := SeqAt.ReadsAll.length ds its as rl
  have mp : its.map (SeqAt.readOf s.heap) = ds := SeqAt.readsAll_map ds its as lay rl
  obtain ⟨jd, _⟩ := List.getElem?_eq_some_iff.mp hz
  have reads : ∀ (m : Nat) (hm : m < its.toArray.size) (w : PyData), ds[m]? = some w → SeqAt.readOf s.heap its.toArray[m] = w := by
    intro m hm w hw
    have ml : m < its.length := by simpa using hm
    rw [← mp, List.getElem?_map, List.getElem?_eq_getElem ml] at hw
    simpa using (Option.some.inj hw)
  have jl : j < its.toArray.size := by rw [List.size_toArray, nl]; exact jd
  refine call_meets PySem.F.slot_list_remove ⟨_, eo, rfl⟩ PySem.F.entry_list_remove (PySem.F.args_list_remove_2 _ _)
    (removeAt a its.toArray n u (fun t => PyData.eqv (SeqAt.readOf s.heap t) d) j jl ?_ ?_ (by rw [List.size_toArray]; omega))
    ⟨eo, SeqAt.items_eqAt (vs := its.toArray) (show ReadsAll s.heap its.toArray.toList ds as from rl) ry lay (SeqAt.canLay_of_shaped sd) room, ?_⟩
  · show PyData.eqv (SeqAt.readOf s.heap its.toArray[j]) d = true
    rw [reads j jl z hz]
    exact yes
  · intro m hm mj
    show PyData.eqv (SeqAt.readOf s.heap its.toArray[m]) d = false
    have hw : ds[m]? = some (ds[m]'(by omega)) := List.getElem?_eq_getElem (by omega)
    rw [reads m hm _ hw]
    exact no m _ mj hw
  · refine ⟨.non, _, I.lset (its' := its.eraseIdx j) (t' := s.toks) hH eo ?_ (r.eraseIdx j) ?_, rfl, q⟩
    · show its.toArray.eraseIdxIfInBounds j = (its.eraseIdx j).toArray
      rw [List.eraseIdxIfInBounds_toArray]
    · rw [List.length_eraseIdx]
      split <;> omega
end
end K41
set_option maxHeartbeats 4000000
namespace K41
open PySem PySem.Spec PyProof.Rows L2
/-! ### set(l) of a list of ints, then sorted -/
abbrev emO (w : World) : Obj := { cls := .type "set", dict := none, data := .set #[] 0 (.fresh 0 0 (!w.params.followText "set-order")) }
section
variable {P : Program} {w : World} {A : Around} {E : Value → Shared → Prop} {s : Shared}
set_option maxHeartbeats 8000000 in
theorem callSetInts {l : Addr} {its : Array Value} (ns : List Int) {Q : Value → Shared → Prop} (calm : A.handled = none) (hl : s.heap.IsList l its) (allI : IntsAre its.toList ns) (few : ns.length + 1 < scanBound)
    (q : ∀ (h' : Heap) (tk c : Nat), SetR w h' s.heap.objs.size (fun j => decide (j ∈ ns)) c → c ≤ ns.length → (∀ b o, s.heap.get? b = some o → h'.get? b = some o) → Q (.ref s.heap.objs.size) { s with heap := h', toks := tk }) :
    wpAny (model P w) A (call (.type "set") [.ref l]) Q E s := by
  have nsz : its.size = ns.length := by rw [← Array.length_toList]; exact IntsAre.length allI
  obtain ⟨_, _, mro⟩ := F.called_set.mro
  have made := F.called_set.made
  have subs := F.called_set.sub
  have ty1 := F.called_set.notType
  have ty2 := F.called_set.canCreate
  have tc := F.typeCall_set_1 (.ref l)
  refine wpAny_call (codeAny_of_tree ?_)
  refine wpAny_pure ⟨Code.quiet_builtin _ (by decide +kernel), codeAny_builtin F.entry_type_call ?_⟩
  rw [Around.under_plain (weight_type_call_type "set" [.ref l] []) rfl]
  repeat (any_goals (first | assumption | wp_step))
  refine codeAny_mono (code_set_led1 (.ref l) (E := E) (Q₁ := fun ob s1 => ob = .ref s.heap.objs.size ∧ s1 = { s with heap := s.heap.push (emO w) }) ⟨rfl, rfl⟩) fun r s1 hr => ?_
  match r, hr with
  | .error _, hr => exact hr
  | .ok .next, hr => exact hr.elim
  | .ok .brk, hr => exact hr.elim
  | .ok .cont, hr => exact hr.elim
  | .ok (.ret ob), ⟨e1, e2⟩ =>
    subst e1 e2
    have gS : (s.heap.push (emO w)).get? s.heap.objs.size = some (emO w) := Heap.get?_push_size _ rfl
    have tS : Shared.TypeIs { s with heap := s.heap.push (emO w) } (.ref s.heap.objs.size) "set" := ⟨_, gS, rfl⟩
    have li := F.called_set.init.lookup
    have bi := F.called_set.init.bind (.ref s.heap.objs.size)
    repeat (any_goals (first | assumption | wp_step))
    refine codeAny_mono (codeAny_call_builtin (R := wants (fun r s2 => r = .none ∧ ∃ h' tk c, s2 = { s with heap := h', toks := tk } ∧ SetR w h' s.heap.objs.size (fun j => decide (j ∈ ns)) c ∧ c ≤ ns.length ∧
      ∀ b o, s.heap.get? b = some o → h'.get? b = some o) E) F.called_set.init.plain F.entry_set_init (check_set_init_1 tS ?_)) fun r2 s2 hr2 => ?_
    · obtain ⟨⟨oc, od, dt, sl⟩, gl, cl, nl, dl⟩ := id hl
      simp only at cl dl
      subst cl dl
      have ll : l < s.heap.objs.size := Heap.lt_size gl
      have gl' := Heap.get?_push_of_some (emO w) gl
      have hl1 : (s.heap.push (emO w)).IsList l its := ⟨_, gl', rfl, nl, rfl⟩
      have s1 := F.sub_list_set
      have s2 := F.sub_list_frozenset
      have ndc : (Value.type "list" == Value.type "dict") = false := by decide
      unfold Builtin.«set.__init__» noKeywords Builtin.Frozenset.updateFrom
      generalize hPI : pyIter = PI
      wp_walk
      subst hPI
      refine wpAny_pyIter_list hl1 (wpAny_bind (wpAny_runValue ?_))
      have sz : (s.heap.push (emO w)).objs.size = s.heap.objs.size + 1 := Heap.size_push ..
      have nI : l ≠ (s.heap.push (emO w)).objs.size := by rw [sz]; exact Nat.ne_of_lt (Nat.lt_succ_of_lt ll)
      have nS : s.heap.objs.size ∉ [(s.heap.push (emO w)).objs.size, l] := by
        rw [sz]
        simp only [List.mem_cons, List.not_mem_nil, or_false, not_or]
        exact ⟨Nat.ne_of_lt (Nat.lt_succ_self _), Nat.ne_of_gt ll⟩
      have val : ∀ (i : Nat) (v : Value), its[i]? = some v → ∃ k t, ns[i]? = some k ∧ v = .int k t := fun i v hv => by
        obtain ⟨t, e⟩ := IntsAre.int_at allI i v (by rw [Array.getElem?_toList]; exact hv)
        have hi : i < ns.length := by rw [← nsz]; exact (Array.getElem?_eq_some_iff.mp hv).1
        exact ⟨ns[i], t, List.getElem?_eq_getElem hi, by rw [e, List.getD_eq_getElem?_getD, List.getElem?_eq_getElem hi] <;> rfl⟩
      refine set_update_ints ((Walks.list (by simp [calm]) _ l nI its).toS) s.heap.objs.size nS ns nsz few val (its.size - 0) 0 _ (by omega) (Nat.zero_le _)
        ⟨⟨_, Heap.get?_push_size _ rfl, rfl, rfl⟩, (hl1.push _)⟩ ⟨0, Nat.le_refl 0, setR_new_at (Heap.get?_push_of_some _ gS)⟩ fun s' c' mv hc' hS' => ?_
      obtain ⟨h', g2, d', tk', os'⟩ := s'
      obtain rfl : g2 = s.gens := mv.gens
      obtain rfl : d' = s.drawn := mv.drawn
      obtain rfl : os' = s.os := mv.os
      rw [nsz] at hc'
      refine wpAny_pure (wpAny_pure ⟨rfl, h', tk', c', rfl, hS', hc', fun b o e => ?_⟩)
      have b0 : b < s.heap.objs.size := Heap.lt_size e
      refine mv.heap b o ?_ (Heap.get?_push_of_some _ (Heap.get?_push_of_some _ e))
      rw [sz]
      simp only [List.mem_cons, List.not_mem_nil, or_false, not_or]
      exact ⟨Nat.ne_of_lt b0, Nat.ne_of_lt (Nat.lt_succ_of_lt b0)⟩
    · match r2, hr2 with
      | .error _, hr2 => exact hr2
      | .ok .next, hr2 => exact hr2.elim
      | .ok .brk, hr2 => exact hr2.elim
      | .ok .cont, hr2 => exact hr2.elim
      | .ok (.ret r), ⟨e1, h', tk, c', e2, hS', hc', hk'⟩ =>
        subst e1 e2
        repeat (any_goals (first | assumption | wp_step))
        exact q _ _ _ hS' hc' hk'
end
section
variable {X : Cx}
def rSetI (X : Cx) : List V → Hp → VK → Prop := fun vs H Q => ∃ (a : Addr) (ns : List Int), vs = [V.ref a] ∧ SqL X.K H a (ns.map V.int) ∧ ns.length ≤ 1000 ∧
  ∀ (p : Addr) (c : Nat), H p = none → c ≤ ns.length → Q (.ref p) (upd H p (SetO X.w p (fun j => decide (j ∈ ns)) c))
theorem cr_setI (hc : X.calm = true) : CallR X (.type "set") (rSetI X) := by
  intro pins s σ H vs us Q I r h
  obtain ⟨a, ns, rfl, ha, hl, q⟩ := h
  rw [Vals.ref1 r]
  obtain ⟨its, rv, pl, _⟩ := I.list ha
  have hi : IntsAre its ns := ints_of_vals rv
  refine callSetInts ns (I.ok.hd hc) pl.isList (by simpa using hi) (by unfold scanBound; omega) fun h' tk c hS hc' hk => ?_
  have np : H s.heap.objs.size = none := I.hok.fresh (Nat.le_refl _)
  exact ⟨.ref s.heap.objs.size, _, I.laid (t' := tk) hk (Nat.le_refl _) (setO_new hS), rfl, q _ c np hc'⟩
end
end K41
set_option maxHeartbeats 4000000
namespace K41
open PySem PySem.Spec PyProof.Rows L2

/-! ### an own exception's __init__ that says super().__init__(msg); self.f = x -/
/-- the context of a def that closes over __class__ -/
def cxCl (CX : CXT) (P : Program) (w : World) (K : PySem.W.Frag) (mg : Str → Option Value) (base : Heap) (N : List Str) (qual : Str) (scope : Scope) (f : Addr) (cd : Value) (cc : Addr) (A : Around) (outer : List Env) (s : Shared) (H : Hp) (E : XK) : Cx :=
  let v : Env := PySem.W.ksEnv qual scope s.heap.objs.size f cd cc
  { prog := P, w := w, K := K, mg := mg, base := base, A := A.deeper v, N := N, s_0 := s, H_0 := H, env := v, outer := outer, stack := v :: outer, ex := [], calm := true, fn := fun _ => false, pn := [],
    xe := fun e s' => wpAny (model P w) (A.deeper v) (leaving v e) (fun _ s'' => CX outer H s E e s'') (fun e' s'' => CX outer H s E e' s'') s' }
/-- what is asked of the scope of such a def, all of whose names are its parameters -/
structure ClScope (N : List Str) (sc : Scope) : Prop where
  kind : sc.kind = .function
  co : sc.isCoroutine = false
  gen : sc.isGenerator = false
  nd : N.Nodup
  par : ∀ x ∈ N, sc.names.lookup x = some .local
  nocell : ∀ y ∈ sc.names, y.2 ≠ .cell
  free : ∀ y, sc.names.lookup y = some .free → y = "__class__"
theorem invCl {CX : CXT} {P : Program} {w : World} {K : PySem.W.Frag} {mg : Str → Option Value} {base : Heap} {N : List Str} {qual : Str} {scope : Scope} {f cc : Addr} {cd : Value} {A : Around} {outer : List Env} {s : Shared} {H : Hp} {E : XK} {us : List Value} {vs : List V} {cv : Value} {oc : Obj} {h1 : Heap} {tk : Nat}
    (S : ClScope N scope) (hd : A.handled = none) (e0 : Env0 P w K mg base A outer s H) (hl : vs.length = N.length) (r : Vals vs us) (hcc : K.lookup cc = some oc) (hcd : oc.data = .cell (some cv))
    (ns : h1.Ns s.heap.objs.size (fun x => (N.zip us).reverse.lookup x)) (kp : ∀ b o, s.heap.get? b = some o → h1.get? b = some o) :
    Inv (cxCl CX P w K mg base N qual scope f cd cc A outer s H E) [] (vs.map some) H { s with heap := h1, toks := tk } := by
  have noA : ∀ b : Addr, b ∉ (cxCl CX P w K mg base N qual scope f cd cc A outer s H E).ex := fun b z => absurd (show b ∈ ([] : List Addr) from z) (by simp)
  have gcc : base.get? cc = some oc := e0.mod.kin cc oc hcc
  have one : ∀ {x : Str} {c : Addr}, (cxCl CX P w K mg base N qual scope f cd cc A outer s H E).env.cells.lookup x = some c → x = "__class__" ∧ c = cc := fun {x c} z => by
    have z : List.lookup x [(("__class__" : Str), cc)] = some c := z
    by_cases h : x = "__class__"
    · subst h
      simp [List.lookup] at z
      exact ⟨rfl, z.symm⟩
    · have h' : (x == ("__class__" : Str)) = false := by simpa using h
      simp [List.lookup, h'] at z
  have cellAt : s.heap.IsCell cc (some cv) := ⟨oc, (e0.bs cc oc gcc).1, hcd⟩
  refine ⟨⟨e0.mod, S.kind, rfl, rfl, Nat.le_refl _, fun y z c h1 h2 => (one h1).1.trans (one h2).1.symm, fun y hy => ?_, fun y c z _ => Bool.noConfusion (show false = true from z), fun _ => hd, Around.frames_deeper e0.frames, .inr ⟨rfl, rfl⟩, fun b z => absurd z (noA b), e0.bs, e0.bsz, fun b _ _ => noA b,
      fun b z => absurd z (noA b), e0.funs, e0.frf⟩, rfl, e0.bare, Un.kept kp, ⟨_, ns, fun i y v e1 e2 e3 => ?_⟩, fun y c e => ?_, e0.hok.fresh (Nat.le_refl _), fun y c e => ?_, fun p hp => absurd (show p ∈ ([] : List (Addr × Obj)) from hp) (by simp), e0.hok.kept kp, by rw [List.length_map]; exact hl⟩
  · have hy : scope.names.lookup y = some .cell ∨ scope.names.lookup y = some .free := hy
    rcases hy with k | k
    · exact absurd rfl (S.nocell _ (PySem.mem_of_lookup k))
    · rw [S.free y k]
      exact ⟨cc, by simp [cxCl, List.lookup]⟩
  · have e1 : N[i]? = some y := e1
    have ev : vs[i]? = some v := by
      rw [List.getElem?_map] at e2
      cases q : vs[i]? with
      | none => rw [q] at e2; cases e2
      | some a => rw [q] at e2; cases e2; rfl
    obtain ⟨u, hu, rv⟩ := r.get ev
    refine ⟨u, rv, .inl ⟨S.par y (List.mem_of_getElem? e1), ?_⟩⟩
    exact NdefX.zip_look S.nd e1 hu
  · rw [(one e).2]
    exact ⟨_, oc, kp _ _ (e0.bs cc oc gcc).1, hcd⟩
  · rw [(one e).2]
    exact (e0.bs cc oc gcc).2

/-! ### ValueError.__init__ bound to an exception that is being made, called -/
section
variable {X : Cx} {pins : List (Addr × Obj)} {σ : L2.St} {H : Hp} {s : Shared}
theorem callVeBound {a C u : Addr} {us : List Value} {A : Around} {E : Value → Shared → Prop} {Q : Value → Shared → Prop} (T : OexC X.K C) (I : Inv X pins σ H s) (ea : H a = some (exo a C none)) (gu : s.heap.get? u = some (PySem.W.kxs_mw "ValueError.__init__" a)) (hl : us.length ≤ sizeLine)
    (q : ∀ s', Inv X pins σ H s' → Q .none s') : wpAny (model X.prog X.w) A (call (.ref u) us) Q E s := by
  obtain ⟨nm, qn, N, bs, bm, sn, sub, ab, col, dd, k0, k1, k2, k3, k5, hC, hbm⟩ := T.cls
  obtain ⟨t1, ga⟩ := exo_at I.hok ea
  have gC := I.kIn _ _ hC
  have fin : ∀ h', (∀ b o, b ≠ a → s.heap.get? b = some o → h'.get? b = some o) → (∃ t2 : Addr, h'.get? a = some ({ cls := .ref C, dict := none, data := .fields #[.ref t2, .none, .none, .none, .bool false, .none] } : Obj)) → Q .none { s with heap := h' } := by
    intro h' k ⟨t2, g2⟩
    have J := I.write (t' := s.toks) (x := a) (e := a) (o := exo a C none) (by rw [ea]; exact True.intro) (.inl rfl) k ⟨_, g2⟩ (exo_ok g2)
    have same : upd H a (exo a C none) = H := by
      funext b
      by_cases hb : b = a
      · rw [hb, upd_same, ea]
      · rw [upd_ne hb]
    rw [same] at J
    exact q _ J
  obtain ⟨hp, g, d, tk, osx⟩ := s
  refine wpAny_call (codeAny_of_tree ?_)
  show wpAny _ A.in1 (callAny (.ref u) ⟨us, []⟩) _ _ _
  simp only [callAny]
  refine wpAny_bind (wpAny_load gu ?_)
  simp only [PySem.W.kxs_mw, show (Value.type "method-wrapper" == Value.type "method" || Value.type "method-wrapper" == Value.type "builtin_function_or_method" || Value.type "method-wrapper" == Value.type "method-wrapper") = true by decide, if_true]
  refine PySem.W.KFB.if_so (by decide) (wpAny_bind (PySem.W.check_bound_init F.excBase_ValueError.toExcCallFacts gC ga rfl (wpAny_bind (wpAny_pure (wpAny_pure ⟨plainId_quiet F.excBase_ValueError.init.plain _, codeAny_builtin F.excBase_ValueError.initEntry ?_⟩)))))
  exact PySem.W.exc_init_tree (cls := .ref C) (t0 := t1) (dv := none) (c2 := .none) (c3 := .none) (b4 := .bool false) ga hl fun h' k g2 _ => fin h' k ⟨_, g2⟩
end

/-! ### the def -/
def eA (p1 p2 : Pos) : Arguments := { posonlyargs := [], args := [{ arg := "self", annotation := none, pos := p1 }, { arg := "knot", annotation := none, pos := p2 }], vararg := none, kwonlyargs := [], kw_defaults := [], kwarg := none, defaults := [] }
def eB (msg : Str) (j : Nat) (q0 q1 q2 q3 q4 q5 q6 q7 q8 q9 : Pos) : List Stmt :=
  [.Expr (.Call (.Attribute (.Call (.Name "super" q0) [] [] q1) "__init__" q2) [.Constant (.str msg) j q3] [] q4) q5, .Assign [.Attribute (.Name "self" q6) "knot" q7] (.Name "knot" q8) q9]
def eS : Scope := { kind := .function, names := [(PySem.Str.ofString "self", .local), (PySem.Str.ofString "knot", .local), (PySem.Str.ofString "__class__", .free), (PySem.Str.ofString "super", .globalImplicit)], isGenerator := false, isCoroutine := false, more := [] }
theorem clS : ClScope ["self", "knot"] eS :=
  ⟨rfl, rfl, rfl, by decide +kernel, by decide +kernel, by decide +kernel, fun y h => by
    have hm := PySem.mem_of_lookup h
    simp only [eS, List.mem_cons, Prod.mk.injEq, List.not_mem_nil, or_false, reduceCtorEq, and_false, false_or, and_true] at hm
    exact hm⟩
/-- what the written part says of such a class at C and of its __init__ at fI -/
structure ETxt (K : PySem.W.Frag) (mg : Str → Option Value) (prog : Program) (C fI : Addr) (qual : Str) (fd : FuncData) : Prop where
  oex : OexC K C
  fn : ∃ (cc cda : Addr) (oc : Value) (od : Option Addr) (doc pm : Value) (an : Option Addr) (ct : Value) (osl : Array (Option Value)) (p1 p2 q0 q1 q2 q3 q4 q5 q6 q7 q8 q9 : Pos) (msg : Str) (j : Nat) (cl : Value) (cld : Option Addr) (csl : Array (Option Value)) (ccl : Value) (cdd : Option Addr) (ccs : Array (Option Value)) (vs : Array Value) (file : Str) (tf : Tok),
    fd = PySem.W.ksFn "__init__" qual (eA p1 p2) (eB msg j q0 q1 q2 q3 q4 q5 q6 q7 q8 q9) eS .none .none doc pm an (.ref cda) ct cc ∧
    K.lookup fI = some ⟨oc, od, .func fd, osl⟩ ∧ PySem.W.codeIn K (.ref cda) qual = true ∧ K.lookup cda = some ⟨ccl, cdd, .fields vs, ccs⟩ ∧ vs[2]? = some (.str file tf) ∧ ((prog.main.file : Str) == file) = true ∧ K.lookup cc = some ⟨cl, cld, .cell (some (.ref C)), csl⟩ ∧
    ∃ pl : Env → Sem Bool, ∀ env : Env, eval (.Call (.Attribute (.Call (.Name "super" q0) [] [] q1) "__init__" q2) [.Constant (.str msg) j q3] [] q4) env = (do
      let ov ← attributeBase (.Call (.Name "super" q0) [] [] q1) "__init__" env (eval (.Call (.Name "super" q0) [] [] q1) env)
      standAt q2.atName
      let (f, first) ← holding [ov] (getMethod ov "__init__" (pl env))
      callWith q4 f first (backTo q4 (starEach [.Constant (.str msg) j q3] env)) [])
  along : PySem.W.ks_superIn K C C "__init__" = some (some (.builtin "ValueError.__init__"))
  subC : PySem.W.mroIn K C (.ref C) = some true
  subV : PySem.W.subIn K (.ref C) (.type "ValueError") = some true
  noF : PySem.W.findIn K (.ref C) "knot" = some none
  third : PySem.W.nsIn K cStatics "thirdparty.any" = some none
  sup : mg "super" = none
  top : (prog.main.scope.names.lookup ("super" : Str)).isSome = false
def spEInit (C : Addr) : Sp := fun vs H Q _ => ∃ (a : Addr) (y : V), vs = [.ref a, y] ∧ H a = some (exo a C none) ∧ ∀ dx, H dx = none → dx ≠ a → Q .non (upd (upd H dx (exd dx [("knot", y)])) a (exo a C (some dx)))
theorem ok_einit {CX : CXT} {P : Program} {w : World} {K : PySem.W.Frag} {mg : Str → Option Value} {base : Heap} {C fI : Addr} {qual : Str} {fd : FuncData} (T : ETxt K mg P C fI qual fd) : FnOk P w K mg base CX 1 fI fd ["self", "knot"] (spEInit C) := by
  obtain ⟨cc, cda, oc, od, doc, pm, an, ct, osl, p1, p2, q0, q1, q2, q3, q4, q5, q6, q7, q8, q9, msg, j, cl, cld, csl, ccl, cdd, ccs, cvs, file, tf, rfl, lk, hcd, lcd, l2, hfile, lcc, pl, hev⟩ := T.fn
  refine ⟨fun vs H Q E ⟨a, y, e, _⟩ => by rw [e]; rfl, fun A outer s H args us vs Q E hr e0 hb r hsp => ?_⟩
  obtain ⟨a, y, rfl, ea, q⟩ := hsp
  have KX : K.In s.heap := e0.mod.kin.keeps fun b o e => (e0.bs b o e).1
  have lim : s.heap.NoLimit := e0.mod.nolimit.keeps fun b o e => (e0.bs b o e).1
  refine codeAny_call_function hr.depth (KX _ _ lk) rfl rfl rfl rfl (PySem.W.codeRec_of KX hcd) (hb _ _ _ _ ?_)
  refine wpAny_newFunctionEnv clS.nocell (fun x hx => clS.par _ (List.of_mem_zip hx).1) (fun h1 ns hsb => ⟨lim.fresh _ hsb, PySem.ks_codeAny_funcAt ?_⟩) rfl
  have kp : ∀ b o, s.heap.get? b = some o → h1.get? b = some o := fun b o e => hsb.extBut b o (Nat.ne_of_lt (Heap.lt_size e)) (Heap.get?_push_of_some _ e)
  have I : Inv (cxCl CX P w K mg base ["self", "knot"] qual eS fI (.ref cda) cc A outer s H E) [] ([V.ref a, y].map some) H { s with heap := h1, toks := s.toks + (["self", "knot"].zip us).length } := invCl clS hr.hd e0 rfl r lcc rfl ns kp
  obtain ⟨u, rfl, ru⟩ : ∃ u, us = [Value.ref a, u] ∧ RelV y u := by
    cases r with
    | cons r0 rr =>
      cases rr with
      | cons r1 rr =>
        cases rr
        cases r0
        exact ⟨_, rfl, r1⟩
  obtain ⟨nm, qn, Nc, bs, bm, sn, sub, ab, col, dd, k0, k1, k2, k3, k5, hC, hbm⟩ := T.oex.cls
  obtain ⟨mb, g1, g2⟩ := I.mod.blt
  obtain ⟨t1, ga⟩ := exo_at I.hok ea
  have gC := I.kIn _ _ hC
  have ne : a ≠ C := fun z => by
    rw [z, gC] at ga
    cases ga
  have isVE : PySem.W.Looks (model P w) h1 (isInstance (.ref a) (.type "ValueError")) true := (PySem.W.InstAt.type (ox := { cls := .ref C, dict := none, data := .fields #[.ref t1, .none, .none, .none, .bool false, .none] }) (C := C) (od := none) ⟨ga, rfl, rfl, trivial⟩).andThen (PySem.W.looks_subIn I.kIn T.subV)
  show PySem.wpAt (model P w) (A.deeper (PySem.W.ksEnv qual eS s.heap.objs.size fI (.ref cda) cc)) (.func (eB msg j q0 q1 q2 q3 q4 q5 q6 q7 q8 q9) (PySem.W.ksEnv qual eS s.heap.objs.size fI (.ref cda) cc)) (execs (eB msg j q0 q1 q2 q3 q4 q5 q6 q7 q8 q9) (PySem.W.ksEnv qual eS s.heap.objs.size fI (.ref cda) cc)) _ (cxCl CX P w K mg base ["self", "knot"] qual eS fI (.ref cda) cc A outer s H E).xe _
  refine PySem.ks_wpAt_execs_cons (PySem.ks_wpAt_Expr_any (PySem.ks_wpAt_MethodCall (PySem.ks_wpAt_super_base (f := fI) (cc := cda) rfl rfl (by decide) rfl (I.kIn _ _ lk) rfl rfl rfl (I.kIn _ _ lcd) rfl l2 hfile T.top ?_) (hev _)))
  refine PySem.W.ks_loadName_global rfl rfl (Calls.loadGlobal_builtin (I.mod.glob.keeps I.bk) T.sup (g1.keeps I.bk) ((g2 "super" (by decide)).trans (by decide +kernel)) ⟨rfl, ?_⟩)
  refine wpAny_loadName_free rfl rfl rfl ⟨_, I.kIn _ _ lcc, rfl⟩ (wpAny_loadName_local rfl rfl ns (by rfl) ?_)
  refine PySem.ks_wpAny_isType_cls gC rfl ⟨rfl, ?_⟩
  refine PySem.ks_wpAny_call_super gC rfl ga rfl (fun c e => by cases e) (PySem.W.looks_mroIn I.kIn T.subC) fun h2 gso k2 => ?_
  have I2 := I.kept (t' := s.toks + (["self", "knot"].zip [Value.ref a, u]).length) k2
  obtain ⟨cd, hcl⟩ : ∃ cd, PySem.W.clsIn K C = some cd := ⟨_, by unfold PySem.W.clsIn; rw [hC]⟩
  have al : PySem.W.alongIn K "__init__" ((cd.mro.dropWhile (· != .ref C)).drop 1) = some (some (.builtin "ValueError.__init__")) := by
    have z := T.along
    unfold PySem.W.ks_superIn at z
    rw [hcl] at z
    exact z
  have isV2 : PySem.W.Looks (model P w) h2 (isInstance (.ref a) (.type "ValueError")) true := (PySem.W.InstAt.type (ox := { cls := .ref C, dict := none, data := .fields #[.ref t1, .none, .none, .none, .bool false, .none] }) (C := C) (od := none) ⟨k2 _ _ ga, rfl, rfl, trivial⟩).andThen (PySem.W.looks_subIn I2.kIn T.subV)
  refine PySem.W.kxs_getMethod PySem.W.kxs_ValueError gso (PySem.W.looks_opaque I2.kIn T.third) (l₀ := cd.mro) (fun A Q E s k q => wpAny_bind ((PySem.W.looks_clsIn I2.kIn hcl) A _ E s k (wpAny_pure q))) rfl I2.kIn al isV2 ne (by decide) ?_
  have k3 : ∀ b o, h2.get? b = some o → (h2.push (PySem.W.kxs_mw "ValueError.__init__" a)).get? b = some o := fun b o e => Heap.get?_push_of_some _ e
  have gm : (h2.push (PySem.W.kxs_mw "ValueError.__init__" a)).get? h2.objs.size = some (PySem.W.kxs_mw "ValueError.__init__" a) := Heap.get?_push_size _ rfl
  have I3 := I2.kept (t' := s.toks + (["self", "knot"].zip [Value.ref a, u]).length + 1) k3
  show wpAny _ _ (callWith q4 (.ref h2.objs.size) [] (backTo q4 (starEach [.Constant (.str msg) j q3] _)) []) _ _ _
  have fu : H h2.objs.size = none := I2.hok.fresh (Nat.le_refl _)
  have I3p := I3.pins_of (pins' := [(h2.objs.size, PySem.W.kxs_mw "ValueError.__init__" a)]) fun p hp => by
    rw [List.mem_singleton.mp hp]
    exact ⟨gm, fu, Nat.ne_of_gt I2.lt, I2.nofs (Nat.le_refl _), fun v z => nomatch z⟩
  refine PySem.W.kxs_callWith (i := "ValueError.__init__") (x := a) rfl (Calls.evalArgs_plain ?_)
  refine thn ((pa_cons pe_str pa_nil).run q4 _ _ _ H (fun vs H' => vs = [V.str msg] ∧ H' = H) I3p ⟨rfl, rfl⟩) fun us s4 ⟨vs, H4, I4, r4, e4, e5⟩ => ?_
  subst e4 e5
  obtain ⟨gu4, _⟩ := I4.pin (h2.objs.size, PySem.W.kxs_mw "ValueError.__init__" a) (by simp)
  have lus : us.length ≤ sizeLine := by rw [← Paired.length r4, sizeLine_eq]; exact (by decide : 1 ≤ 16777216)
  refine ⟨gu4, callVeBound T.oex (I4.pins_of (pins' := []) fun p hp => nomatch hp) ea gu4 lus fun s5 I5 => wpAt_of_wpAny ?_⟩
  have body : PSs (cxCl CX P w K mg base ["self", "knot"] qual eS fI (.ref cda) cc A outer s H4 E) [.Assign [.Attribute (.Name "self" q6) "knot" q7] (.Name "knot" q8) q9] (tOst K "knot" (tVar 0) (tVar 1)) :=
    pss_one (ps_ost (pv 0) (pv 1))
  refine wpAny_mono (body.run [] s5 _ H4 { nx := fun _ H' => Q .non H', rt := Q } I5 ⟨y, rfl, _, rfl, a, C, rfl, T.oex, T.noF, .inl ⟨ea, q⟩⟩) (fun fl s' hs => ?_) fun e s' he => he
  cases fl with
  | next =>
    obtain ⟨σ', H', J, qq⟩ := hs
    exact ⟨.non, H', J.os, J.bare, J.base, J.hok, rfl, qq⟩
  | ret u =>
    obtain ⟨v, σ', H', J, rv, qq⟩ := hs
    exact ⟨v, H', J.os, J.bare, J.base, J.hok, rv, qq⟩
  | brk => exact (let ⟨_, _, _, z⟩ := hs; False.elim z)
  | cont => exact (let ⟨_, _, _, z⟩ := hs; False.elim z)
end K41
set_option maxHeartbeats 4000000
namespace K41
open PySem PySem.Spec PyProof.Rows L2
/-! ### an exception that was caught, held as a value -/
/-- at a: an exception of the class cls, its own dict at d -/
def ExV (cls : Value) (d : Option Addr) (a : Addr) : HO := .ext fun h => ∃ (oe : Obj) (vs : Array Value), h.get? a = some oe ∧ Zc cls d oe ∧ oe.data = .fields vs
theorem exV_ok {P : Program} {w : World} {H : Hp} {h : Heap} {a : Addr} {cls : Value} {d : Option Addr} {oe : Obj} {vs : Array Value} (e : h.get? a = some oe) (z : Zc cls d oe) (dt : oe.data = .fields vs) : ObjOk P w H h a (ExV cls d a) :=
  ⟨⟨oe, vs, e, z, dt⟩, ⟨oe, e⟩, fun _ _ ⟨o, v, q, r⟩ k => ⟨o, v, k o q, r⟩⟩
section
variable {X : Cx} {pins : List (Addr × Obj)} {σ : L2.St} {H : Hp} {s : Shared}
/-- an object that came up behind the entry is told from now on -/
theorem track {a : Addr} {o : HO} (I : Inv X pins σ H s) (n0 : X.s_0.heap.get? a = none) (na : H a = none) (nL : a ≠ X.env.locals) (nc : ∀ x c, X.env.cells.lookup x = some c → c ≠ a) (np : ∀ p ∈ X.pn ++ pins, p.1 ≠ a) (new : ObjOk X.prog X.w (upd H a o) s.heap a o) :
    Inv X pins σ (upd H a o) s := by
  have old : ∀ {b : Addr} {u : Obj}, X.s_0.heap.get? b = some u → b ≠ a := fun {b u} e z => by
    rw [z, n0] at e
    cases e
  have told : ∀ {b : Addr} {u : HO}, H b = some u → b ≠ a := fun {b u} e => ne_of_none e na
  refine ⟨I.ok, I.os, I.bare, ⟨I.base.keep, I.base.slot, fun b u e n hx => ?_, I.base.there, fun b xs e => ?_, fun b u xs e => ?_, fun b ps e => ?_⟩, I.loc, I.cell, ?_, fun x c e => ?_, fun p hp => ?_, I.hok.laidN (fun _ _ q => q) na new, I.len⟩
  · rw [upd_ne (old e)]
    exact I.base.free b u e n hx
  · have q := I.base.tups b xs e
    rw [upd_ne (told q)]
    exact q
  · have q := I.base.frzs b u xs e
    rw [upd_ne (told q)]
    exact q
  · obtain ⟨m, q⟩ := I.base.tbls b ps e
    exact ⟨m, by rw [upd_ne (told q)]; exact q⟩
  · rw [upd_ne (Ne.symm nL)]
    exact I.free
  · rw [upd_ne (nc x c e)]
    exact I.freeC x c e
  · obtain ⟨e, n, ne, nf, dd⟩ := I.pin p hp
    exact ⟨e, by rw [upd_ne (np p hp)]; exact n, ne, nf, dd⟩
end
/-- what 'except x as n' wishes, when all that comes is caught and kept -/
def wKeep (K : PySem.W.Frag) (z : Nat) (c : Value) (i : Nat) (ts : Addr → TS) (D : Ends) : WX := fun cls d σ H =>
  PySem.W.exmOne K cls c = some true ∧ (σ.length = z → ∀ a, H a = none → ts a { nx := fun σ' H' => D.nx (σ'.set i none) (upd H' a (ExV cls d a)), rt := fun _ _ => False } (σ.set i (some (.ref a))) H)
section
variable {X : Cx} {x n : Str} {c : Value} {i : Nat} {body suite : List Stmt} {b₀ : Stmt} {np pos pos' : Pos} {tb : WX → TS} {ts : Addr → TS}
theorem ps_try_keep (hs : X.stack = X.env :: X.outer) (hf : X.env.frame = some X.env.locals) (hex : X.ex = []) (hN : X.N.Nodup) (hi : X.N[i]? = some n) (hln : X.env.kindOf n = some .local) (hc : Names X x c)
    (hb : ∀ (W : WX) (pn : List (Addr × Obj)) (xe : Value → Shared → Prop), Takes (X.tr pn xe) W → PassesOwn (model X.prog X.w) X.A X.env xe → PSs (X.tr pn xe) body (tb W))
    (hsu : ∀ (a : Addr) (oe : Obj) (cls : Value) (d : Option Addr) (pn : List (Addr × Obj)), Zc cls d oe → (∃ vs, oe.data = .fields vs) → PSs (X.suite a ((a, oe) :: pn)) (b₀ :: suite) (ts a)) :
    PS X (.Try body [.ExceptHandler (some (.Name x np)) (some n) (b₀ :: suite) pos'] [] [] pos) (fun D σ H => tb (wKeep X.K X.N.length c i ts D) D σ H) := by
  refine ⟨fun pins s σ H D I h => wpAny_Try_except ?_⟩
  have ok := I.ok
  have hfr : X.A.frames = some (X.env :: X.outer) := by rw [ok.frames, hs]
  let XE2 : Value → Shared → Prop := fun e s1 => wpAny (model X.prog X.w) X.A (noteFrame e X.env) (fun _ s2 => wpAny (model X.prog X.w) X.A (setFlight e none) (fun _ s3 =>
    wpAny (model X.prog X.w) X.A (handleBy e X.env [.ExceptHandler (some (.Name x np)) (some n) (b₀ :: suite) pos']) (SP X pins D) X.xe s3) X.xe s2) X.xe s1
  have tk : Takes (X.tr (X.pn ++ pins) XE2) (wKeep X.K X.N.length c i ts D) := by
    rintro u s' ⟨a, B, sI, pins', σ', H', cls, d, rfl, J', nb, up, sky, na, os, ag, hcls, hgo⟩
    have J : Inv X pins σ' H' sI := J'.ofTry ok
    have sky' : Sky B (X.env :: X.outer) a (Zc cls d) X.env.locals s'.heap := by rw [← hs]; exact sky
    have gB : B.get? a = none := by
      rcases sky with q | q | q
      · exact q.2.1
      · exact q.2.1
      · exact q.2.1
    show wpAny (model X.prog X.w) X.A (noteFrame (.ref a) X.env) _ _ _
    refine Sky.land Zc.steady hfr hf sky' fun h3 fl3 up3 => ?_
    have J3 : Inv X pins σ' H' { s' with heap := h3 } := J.landed nb fl3.1 (up.trans up3) os ag
    obtain ⟨oe3, vs3, he3, hz3, hd3⟩ := fl3.there
    have notFrame : a ∉ frs (X.env :: X.outer) := fun hm => by
      obtain ⟨_, o', e', hnf⟩ := fl3.2.2.1.mem hm
      rw [he3] at e'
      cases e'
      exact hnf _ hd3
    have nL : a ≠ X.env.locals := fun z => notFrame (List.mem_filterMap.mpr ⟨X.env, List.mem_cons_self, by rw [hf, z]⟩)
    have nF : a ∉ X.fs := fun hm => by
      obtain ⟨e, he, q⟩ := List.mem_filterMap.mp hm
      exact notFrame (List.mem_filterMap.mpr ⟨e, List.mem_cons_of_mem _ he, q⟩)
    have gI : sI.heap.get? a = none := by
      cases q : sI.heap.get? a with
      | none => rfl
      | some o =>
        have z := nb a o q (by rw [hs]; exact notFrame)
        rw [gB] at z
        cases z
    have g0 : X.s_0.heap.get? a = none := by
      cases q : X.s_0.heap.get? a with
      | none => rfl
      | some o =>
        obtain ⟨o', z⟩ := J.base.there a o q (by rw [hex]; exact fun z => nomatch z)
        rw [gI] at z
        cases z
    have nc : ∀ y c, X.env.cells.lookup y = some c → c ≠ a := fun y c e z => by
      obtain ⟨v, o, ho, _⟩ := J.cell y c e
      rw [z, gI] at ho
      cases ho
    have npn : ∀ p ∈ X.pn ++ pins, p.1 ≠ a := fun p hp z => by
      have q := (J.pin p hp).1
      rw [z, gI] at q
      cases q
    have S3 := J3.suite he3 hd3 na nL nF
    refine wpAny_handleBy_cons (codeAny_handlers_test ?_) (by intro q; cases q)
    have LT : PySem.W.Looks (model X.prog X.w) h3 (typeOf (.ref a)) cls := fun A Q E s k q => wpAny_typeOf_ref (k _ _ he3) (by rw [hz3.1]; exact q)
    have LM := PySem.W.exm_one (M := model X.prog X.w) J3.kIn LT hcls
    have look : ∀ {Q : Value → Shared → Prop} {E : Value → Shared → Prop}, Q c { s' with heap := h3 } → wpAny (model X.prog X.w) (X.A.mark (some (.ref a))) (eval (.Name x np) X.env) Q E { s' with heap := h3 } := fun {Q E} q => by
      obtain ⟨hg, hdbg, hm | ⟨hm, hv, hnn⟩⟩ := hc
      · exact ld_glob (X := X.suite a ((a, oe3) :: (X.pn ++ pins))) S3 hg hm q hdbg
      · exact ld_blt (X := X.suite a ((a, oe3) :: (X.pn ++ pins))) S3 hg hm hv q hnn hdbg
    refine look (LM.here (codeAny_handlers_suite_as (HandSPX.lands_againZ fl3 fun h4 fl4 up4 => ?_)))
    have J4 : Inv X pins σ' H' { s' with heap := h4 } := J.landed nb fl4.1 ((up.trans up3).trans up4) os ag
    obtain ⟨oe4, vs4, he4, hz4, hd4⟩ := fl4.there
    have S4 := J4.suite he4 hd4 na nL nF
    refine store_ok (X := X.suite a ((a, oe4) :: (X.pn ++ pins))) (v := .ref a) S4 hN hi (.inl hln) rfl (fun s5 S5 => ?_) (.inr hln)
    refine wpAny_mono ((hsu a oe4 cls d (X.pn ++ pins) hz4 ⟨_, hd4⟩).run [] s5 _ H' _ S5 (hgo J.len a na)) (fun f s6 hsp => ?_) (fun _ _ z => False.elim z)
    cases f with
    | next =>
      obtain ⟨σ6, H6, S6, q6⟩ := hsp
      obtain ⟨g6, n6, _, _, _⟩ := S6.pin (a, oe4) (by simp)
      have J6 : Inv X ((a, oe4) :: pins) σ6 H6 s6 := (S6.unsuite ok).pins_of fun p hp => by
        rcases List.mem_cons.mp hp with z | z
        · rw [z]
          exact ⟨g6, n6, nL, nF, fun v z => by rw [show oe4.data = _ from hd4] at z; cases z⟩
        · exact (S6.unsuite ok).pin p (List.mem_append_right _ z)
      refine gone_ok J6 hN hi hln fun s7 J7 => ?_
      obtain ⟨g7, n7, _⟩ := J7.pin (a, oe4) (by simp)
      have J8 : Inv X pins (σ6.set i none) H6 s7 := J7.pins_of fun p hp => J7.pin p (List.mem_append_right _ (List.mem_cons_of_mem _ hp))
      exact ⟨_, _, track J8 g0 n7 nL nc npn (exV_ok g7 hz4 hd4), q6⟩
    | brk => exact (let ⟨_, _, _, z⟩ := hsp; False.elim z)
    | cont => exact (let ⟨_, _, _, z⟩ := hsp; False.elim z)
    | ret u => exact (let ⟨_, _, _, _, _, z⟩ := hsp; False.elim z)
  refine wpAny_mono ((hb _ (X.pn ++ pins) XE2 tk PassesOwn.looking).run [] s σ H _ (I.toTry _) h) (fun f s1 hsp => ?_) (fun e s1 he => he)
  cases f with
  | next =>
    obtain ⟨σ', H', J', q⟩ := hsp
    exact wpAny_execs_nil ⟨σ', H', J'.ofTry ok, q⟩
  | brk =>
    obtain ⟨σ', H', J', q⟩ := hsp
    exact ⟨σ', H', J'.ofTry ok, q⟩
  | cont =>
    obtain ⟨σ', H', J', q⟩ := hsp
    exact ⟨σ', H', J'.ofTry ok, q⟩
  | ret u =>
    obtain ⟨v, σ', H', J', r, q⟩ := hsp
    exact ⟨v, σ', H', J'.ofTry ok, r, q⟩
end
end K41
set_option maxHeartbeats 4000000
namespace K41
open PySem PySem.Spec PyProof.Rows L2
/-- what isinstance of such an error asks of its class -/
structure XIs (K : PySem.W.Frag) (C : Addr) : Prop where
  xf : XfC K C
  cl : (PySem.W.clsIn K C).isSome = true
  kc : PySem.W.findIn K (.ref C) "__class__" = some (some (.builtin "object.__class__"))
  kg : PySem.W.specialIn K (.builtin "object.__class__") "__get__" = some (some (.builtin "getset_descriptor.__get__"))
  kt : PySem.W.takesIn K (.builtin "object.__class__") = some true
  mo : PySem.W.mroIn K C (.type "object") = some true
section
variable {X : Cx} {pins : List (Addr × Obj)} {σ : L2.St} {H : Hp} {s : Shared}
theorem xv_at {a C d : Addr} {fs : List (Str × V)} (I : Inv X pins σ H s) (ha : H a = some (ExV (.ref C) (some d) a)) (hd : H d = some (.xd fs)) :
    ∃ (oe : Obj) (od : Obj) (mA : Str → Option Value), PySem.W.InstAt s.heap a oe C (some od) ∧ s.heap.get? d = some od ∧ s.heap.Ns1 d mA ∧ ∀ f, RelO (fs.lookup f) (mA f) := by
  have x1 : ObjOk X.prog X.w H s.heap a (ExV (.ref C) (some d) a) := I.hok a _ ha
  obtain ⟨⟨oe, vs, ge, hz, hv⟩, _⟩ := x1
  have x2 : ObjOk X.prog X.w H s.heap d (.xd fs) := I.hok d _ hd
  obtain ⟨mA, hns, hr⟩ := x2
  obtain ⟨od, es, ep, ho, hdat⟩ := id hns
  exact ⟨oe, od, mA, ⟨ge, hz.1, by unfold PySem.W.notCls; rw [hv] <;> rfl, by rw [hz.2]; exact ho⟩, ho, hns, hr⟩
/-- isinstance(e, D), e such an error -/
def rIsX (K : PySem.W.Frag) : List V → Hp → VK → Prop := fun xs H Q => ∃ (a C d D : Addr) (fs : List (Str × V)) (b : Bool), xs = [.ref a, .ref D] ∧ H a = some (ExV (.ref C) (some d) a) ∧ H d = some (.xd fs) ∧ XIs K C ∧ PySem.W.kitOne K (.ref C) (.ref D) = some b ∧ Q (.bl b) H
theorem call_isX : CallR X (.builtin "isinstance") (rIsX X.K) := by
  intro pins s σ H xs us Q I r h
  obtain ⟨a, C, d, D, fs, b, rfl, ha, hd, T, e, q⟩ := h
  obtain ⟨u1, u2, rfl, r1, r2⟩ := vals2 r
  obtain rfl : u1 = Value.ref a := r1
  obtain rfl : u2 = Value.ref D := r2
  obtain ⟨oe, od, mA, J, _⟩ := xv_at I ha hd
  exact PySem.W.kia_one (PySem.W.kitx_exc (x := a) (ox := oe) (od := some od) T.cl T.xf.ga T.xf.gg T.xf.exC T.kc T.kg T.kt T.mo) I.kIn J e (fun z => nomatch z) fun tk => ⟨.bl b, H, I.tok tk, rfl, q⟩
/-- e.f, e such an error -/
def tXv (K : PySem.W.Frag) (f : Str) (te : TE) : TE := fun σ H Q => te σ H fun x H1 => ∃ (a C d : Addr) (fs : List (Str × V)) (v : V), x = .ref a ∧ H1 a = some (ExV (.ref C) (some d) a) ∧ H1 d = some (.xd fs) ∧ XIs K C ∧ PySem.W.findIn K (.ref C) f = some none ∧ fs.lookup f = some v ∧ Q v H1
theorem pe_xv {e : Expr} {te : TE} {pos : Pos} {n : Str} (he : PE X e te) (hb : attributeBase e n X.env (eval e X.env) = eval e X.env := by rfl) : PE X (.Attribute e n pos) (tXv X.K n te) := by
  refine ⟨fun pins s σ H Q I h => attr_of hb (thn (he.run pins s σ H _ I h) fun u s1 ⟨x, H1, I1, rx, a, C, d, fs, v, ex, ha, hd, T, no, l, q⟩ => ?_)⟩
  subst ex
  obtain rfl : u = Value.ref a := rx
  obtain ⟨oe, od, mA, J, ho, hns, hr⟩ := xv_at I1 ha hd
  obtain ⟨od', ho', hl⟩ := lookIn_ns hns
  rw [ho] at ho'
  cases ho'
  obtain ⟨u, hu, ru⟩ := RelO.some_of (v := v) (o := mA n) (by rw [← l]; exact hr n)
  exact HandSPX.exc_get I1.kIn J T.xf.ga T.xf.gg T.xf.exC (PySem.W.findObj_own T.xf.hdC no rfl (by rw [hl, hu])) (handed_of ru) ⟨v, H1, I1.tok _, ru, q⟩
end
end K41
set_option maxHeartbeats 4000000
namespace K41
open PySem PySem.Spec PyProof.Rows L2 LamX
/-- _law_error: what is raised is given back, None if nothing is -/
def TTerr (K : PySem.W.Frag) (CS : Addr) : (XK → Hp → VK → Prop) → Hp → VK → Prop := fun tl H Q =>
  tl (fun cls d H' => PySem.W.exmOne K cls (.ref CS) = some true ∧ ∀ a, H' a = none → Q (.ref a) (upd H' a (ExV cls d a))) H (fun _ H' => Q .non H')
theorem err_gives {X : Cx} {q : Str} {sg : Scope} {g CS : Addr} {cdg : Value} {j : Nat} {p1 p2 p3 p4 p5 p6 p7 p8 p9 p10 p11 p12 p13 p14 : Pos} (hN : FnScope ["_law_work", "_law_error_here", "caught"] ["_law_work"] sg) (l1 : sg.names.lookup ("_law_error_here" : Str) = some .local) (l2 : sg.names.lookup ("caught" : Str) = some .local)
    (hge : sg.names.lookup ("LinkError" : Str) = some .globalImplicit) (hme : X.mg "LinkError" = some (.ref CS)) :
    GivesTo X ["_law_work", "_law_error_here", "caught"] "_law_error" sg g cdg
      [.Assign [.Name "_law_error_here" p1] (.Constant .none j p2) p3,
       .Try [.Expr (.Call (.Name "_law_work" p4) [] [] p5) p6] [.ExceptHandler (some (.Name "LinkError" p7)) (some "caught") [.Assign [.Name "_law_error_here" p8] (.Name "caught" p9) p10] p11] [] [] p12,
       .Return (some (.Name "_law_error_here" p13)) p14] "_law_work" q (TTerr X.K CS) := by
  intro f c' s H Q tl act hc h
  have hgl : Gl (cxOf C8.CX0 X.prog X.w X.K X.mg X.base ["_law_work", "_law_error_here", "caught"] "_law_error" sg g cdg X.A X.stack s H C8.E0).nox "LinkError" := hge
  refine ⟨_, pss_cons (ps_set (i := 1) hN.nd rfl (Or.inl l1) pe_non) (pss_cons (ps_try_keep (X := (cxOf C8.CX0 X.prog X.w X.K X.mg X.base ["_law_work", "_law_error_here", "caught"] "_law_error" sg g cdg X.A X.stack s H C8.E0).nox) (c := .ref CS) (i := 2)
      (tb := fun W D σ H => ∃ Ech : XK, (∀ cls d σ' H', Ech cls d H' → W cls d σ' H') ∧ σ[0]? = some (some (.ref f)) ∧ H c' = some (CodeO c' q) ∧ tl Ech H fun _ H' => D.nx σ H')
      (ts := fun a => tAsg (tVar 2) (gName 1)) rfl rfl rfl hN.nd rfl l2 ⟨hgl, by decide, .inl hme⟩ (fun W pn xe tk _ => ?_) (fun a oe cls d pn _ _ => pss_one (ps_set (i := 1) hN.nd rfl (Or.inl l1) (pe_var rfl (Or.inl l2)) (hf := Or.inr l1)))) (pss_one (ps_ret (pe_var (i := 1) rfl (Or.inl l1))))), ?_⟩
  · refine ⟨fun pins s' σ H' D I h' => ?_⟩
    obtain ⟨Ech, hW, h1, h2, h3⟩ := h'
    exact (pss_one (ps_expr (pos := p6) (act W pn xe Ech p4 p5 tk hW))).run pins s' σ H' D I ⟨h1, h2, h3⟩
  · refine ⟨fun cls d H' => PySem.W.exmOne X.K cls (.ref CS) = some true ∧ ∀ a, H' a = none → Q (.ref a) (upd H' a (ExV cls d a)), fun cls d σ' H' ⟨e1, e2⟩ => ⟨e1, fun hl a na => ?_⟩, rfl, hc, ?_⟩
    · obtain ⟨x0, x1, x2, rfl⟩ : ∃ x0 x1 x2, σ' = [x0, x1, x2] := by
        match σ', hl with
        | [x0, x1, x2], _ => exact ⟨x0, x1, x2, rfl⟩
      exact ⟨_, rfl, _, rfl, e2 a na⟩
    · have e : (fun (_ : V) (H' : Hp) => ∃ v, ([some (V.ref f), some V.non, none] : L2.St)[1]? = some (some v) ∧ Q v H') = fun _ H' => Q .non H' := by
        funext _ H'
        exact propext ⟨fun ⟨v, e1, e2⟩ => by
          have z : V.non = v := by simpa using e1
          rw [z]
          exact e2, fun e => ⟨_, rfl, e⟩⟩
      show tl _ _ (fun (_ : V) (H' : Hp) => ∃ v, ([some (V.ref f), some V.non, none] : L2.St)[1]? = some (some v) ∧ Q v H')
      rw [e]
      exact h
end K41
set_option maxHeartbeats 4000000
namespace K41
open PySem PySem.Spec PyProof.Rows L2
/-! ### a def that is called by its name -/
structure Cal (P : Program) (w : World) (K : PySem.W.Frag) (mg : Str → Option Value) (base : Heap) (CX : CXT) (k : Nat) (x : Str) (sp : Sp) : Prop where
  ex : ∃ (f : Addr) (fd : FuncData) (ps : List Str), mg x = some (.ref f) ∧ PySem.W.keepIn K (.ref f) = true ∧ Binds K fd ps [] ∧
    FnOk P w K mg base CX k f fd ps sp
section
variable {X : Cx} {CX : CXT} {k j : Nat} {x : Str} {sp : Sp} {p pos : Pos} {e : Expr} {es : List Expr} {t : TA} {E : XK}
theorem pe_fn (c : Cal X.prog X.w X.K X.mg X.base CX k x sp) (hr : Room j X.A) (hg : Gl X x) (hx : Passes CX X E) (ha : PA X (e :: es) t) (hk : k ≤ j := by decide) (hdb : (x == ("__debug__" : Str)) = false := by decide)
    (he : starEach (e :: es) X.env = (false, eval e X.env) :: starEach es X.env := by rfl) (hpl : (backTo pos (starEach es X.env)).any (·.1) = false := by rfl) :
    PE X (.Call (.Name x p) (e :: es) [] pos) (tCall sp [] E t) := by
  obtain ⟨f, fd, ps, g, kp, b, F⟩ := c.ex
  exact pe_call F (hr.mono hk) hg g kp b .nil hx ha hdb he hpl
end
/-! ### dicts of the module -/
structure KD (K : PySem.W.Frag) (w : World) (d : Addr) (ws : List Str) (f : Str → Option V) : Prop where
  kd : ∃ es n, KDict K w d es n
  look : ∀ z ∈ ws, ∃ r : Option Value, PySem.W.nsIn K d z = some r ∧ (match f z, r with | none, none => True | some v, some u => RelV v u | _, _ => False)
section
variable {X : Cx} {d : Addr} {ws : List Str} {f : Str → Option V}
theorem op_inKD (D : KD X.K X.w d ws f) : OpR X (compareOp .In) (fun x y H Q => ∃ z : Str, x = .str z ∧ y = .ref d ∧ z ∈ ws ∧ Q (.bl (f z).isSome) H) := by
  intro pins s σ H x y v u Q I rx ry ⟨z, e1, e2, hz, q⟩
  obtain ⟨es, n, kd⟩ := D.kd
  obtain ⟨r, hr, m⟩ := D.look z hz
  refine op_in_kd kd pins s σ H x y v u Q I rx ry ⟨z, r, e1, e2, hr, ?_⟩
  have : r.isSome = (f z).isSome := by
    cases hf : f z <;> cases r <;> simp_all
  rw [this]
  exact q
theorem op_notInKD (D : KD X.K X.w d ws f) : OpR X (compareOp .NotIn) (fun x y H Q => ∃ z : Str, x = .str z ∧ y = .ref d ∧ z ∈ ws ∧ Q (.bl (!(f z).isSome)) H) := by
  intro pins s σ H x y v u Q I rx ry ⟨z, e1, e2, hz, q⟩
  obtain ⟨es, n, kd⟩ := D.kd
  obtain ⟨r, hr, m⟩ := D.look z hz
  refine op_notIn_kd kd pins s σ H x y v u Q I rx ry ⟨z, r, e1, e2, hr, ?_⟩
  have : r.isSome = (f z).isSome := by
    cases hf : f z <;> cases r <;> simp_all
  rw [this]
  exact q
theorem ix_kd (D : KD X.K X.w d ws f) : IxR X (fun x y H Q => ∃ (z : Str) (v : V), x = .ref d ∧ y = .str z ∧ z ∈ ws ∧ f z = some v ∧ Q v H) := by
  intro value slice pins s σ H x y v u Q I rx ry ⟨z, v0, e1, e2, hz, hf, q⟩ hs
  obtain ⟨es, n, kd⟩ := D.kd
  obtain ⟨r, hr, m⟩ := D.look z hz
  rw [hf] at m
  cases r with
  | none => exact m.elim
  | some u0 => exact ix_kdict value slice pins s σ H x y v u Q I rx ry ⟨d, z, v0, e1, e2, ⟨es, n, u0, kd.at_, kd.lit, hr, m⟩, q⟩ hs
/-- d.get(k, x) -/
def tKGet (d : Addr) (ws : List Str) (f : Str → Option V) (td ty tx : TE) : TE := fun σ H Q => td σ H fun x H1 => x = .ref d ∧ ty σ H1 fun y H2 => tx σ H2 fun z H3 => ∃ k : Str, y = .str k ∧ k ∈ ws ∧ Q ((f k).getD z) H3
theorem pe_kget2 {o e g : Expr} {apos cpos : Pos} {td ty tx : TE} (D : KD X.K X.w d ws f) (ho : PE X o td) (he : PE X e ty) (hf : PE X g tx) (m : M2 X o "get" apos e g cpos) : PE X (.Call (.Attribute o "get" apos) [e, g] [] cpos) (tKGet d ws f td ty tx) := by
  refine ⟨fun pins s σ H Q I h => ?_⟩
  obtain ⟨es, n, kd⟩ := D.kd
  refine wpAny_Call_method m.base m.few m.line PySem.F.plainAttrs_dict PySem.F.slot_dict_get PySem.F.type_dict_get (thn (ho.run pins s σ H _ I h) fun u s1 ⟨x, H1, I1, rx, ex, q1⟩ => ?_)
  subst ex
  obtain rfl : u = Value.ref d := rx
  have mo := PySem.W.mapOf_K (prog := X.prog) (w := X.w) I1.kIn kd.at_ kd.lit
  refine ⟨mo.typeIs, fun b z => ?_, ?_⟩
  · cases z
    exact ⟨_, I1.kIn _ _ kd.at_, rfl⟩
  rw [m.trees]
  refine Calls.callWith_builtin rfl (Calls.evalArgs_plain (Calls.spliced_cons (thn (he.run pins s1 σ H1 _ I1 q1) fun iv s2 ⟨y, H2, I2, ry, q2⟩ =>
    Calls.spliced_cons (thn (hf.run pins s2 σ H2 _ I2 q2) fun fv s3 ⟨z, H3, I3, rz, k, ey, hk, q3⟩ => Calls.spliced_nil ?_))))
  subst ey
  obtain ⟨t, rfl⟩ := ry
  obtain ⟨r, hr, mm⟩ := D.look k hk
  have mo3 := PySem.W.mapOf_K (prog := X.prog) (w := X.w) I3.kIn kd.at_ kd.lit
  refine call_meetsIn PySem.F.slot_dict_get mo3.typeIs PySem.F.entry_dict_get (PySem.F.args_dict_get_3 _ _ _) (meets_dict_get_default (PySem.strKind X.prog X.w) d (PySem.strKind_is X.prog X.w k t) kd.low fv) ⟨_, mo3, ?_⟩
  rw [PySem.W.find_K kd.at_ hr]
  refine ⟨_, H3, I3.tok _, ?_, q3⟩
  cases hfk : f k with
  | none =>
    rw [hfk] at mm
    cases r with
    | none => exact rz
    | some _ => exact mm.elim
  | some v =>
    rw [hfk] at mm
    cases r with
    | none => exact mm.elim
    | some _ => exact mm
end
end K41
set_option maxHeartbeats 4000000
namespace K41
open PySem PySem.Spec PyProof.Rows L2
section
variable {prog : Program} {w : World} {A : Around} {E : Value → Shared → Prop} {s : Shared}
theorem noI_tup : typeLookup (.type "tuple") (dunderI "add") = pure none := by
  rw [typeLookup_type, builtinLookup_eq_fast]
  kernel_rfl
/-- t += u on tuples -/
theorem icat {t b : Addr} {vs ws : List Value} {Q : Value → Shared → Prop} (ht : IsTup s.heap t vs.toArray) (hb : IsTup s.heap b ws.toArray) (hsz : vs.length + ws.length ≤ sizeLine) (nw : ws ≠ [])
    (h0 : vs = [] → Q (.ref b) s) (h2 : vs ≠ [] → Q (.ref s.heap.objs.size) { s with heap := s.heap.push { cls := .type "tuple", data := .seq (vs ++ ws).toArray } }) :
    wpAny (model prog w) A (inplaceOp .Add (.ref t) (.ref b)) Q E s := by
  obtain ⟨⟨c1, d1, dt1, s1⟩, ho, hc, n, hd⟩ := id ht
  obtain ⟨⟨c2, d2, dt2, s2⟩, ho2, hc2, n2, hd2⟩ := id hb
  simp only at hc hd hc2 hd2
  subst hc hd hc2 hd2
  have glue : vs.toArray ++ ws.toArray = (vs ++ ws).toArray := by simp
  have via : ∀ {S : PySem.Spec}, Meets (Builtin.«tuple.__add__» ⟨[.ref t, .ref b], []⟩) S → S A (wants Q E) s → wpAny (model prog w) A (inplaceOp .Add (.ref t) (.ref b)) Q E s := fun {S} g h =>
    wpAny_inplaceOp_concat ⟨_, ho, rfl⟩ ⟨_, ho2, rfl⟩ noI_tup noFill_tuple_add seq_tuple_add (call_meets PySem.F.slot_tuple_add ⟨_, ho, rfl⟩ PySem.F.entry_tuple_add (PySem.F.args_tuple_add_2 _ _) g h)
  by_cases hv : vs = []
  · exact via (tuple_addW0 t b vs.toArray ws.toArray n n2 d1 d2 s1 s2 (by simp [hv])) ⟨ho, ho2, h0 hv⟩
  · refine via (tuple_addW2 t b vs.toArray ws.toArray n n2 d1 d2 s1 s2 (by simpa using hv) (by simpa using nw) (by simpa using hsz)) ⟨ho, ho2, ?_⟩
    rw [glue]
    exact h2 hv
end
section
variable {X : Cx}
def ipCat (K : PySem.W.Frag) : TIp := fun x y H Q => ∃ a b xs ys, x = .ref a ∧ y = .ref b ∧ SqT K H a xs ∧ SqT K H b ys ∧ xs.length + ys.length ≤ sizeLine ∧ ys ≠ [] ∧
  (xs = [] → Q (.ref b) H) ∧ (xs ≠ [] → ∀ p, H p = none → Q (.ref p) (upd H p (.tup (xs ++ ys))))
theorem ip_catA : PIp X .Add (ipCat X.K) := by
  intro pins s σ H x y v u Q I r1 r2 ⟨a, b, xs, ys, e1, e2, ha, hb, hz, ny, q0, q2⟩
  subst e1 e2
  cases r1
  cases r2
  obtain ⟨its, v1, p1, _⟩ := I.tuple ha
  obtain ⟨its2, v2, p2, _⟩ := I.tuple hb
  refine icat p1 p2 (by rw [← v1.length, ← v2.length]; exact hz) (fun z => ny (v2.nil_iff.mp z)) (fun z => ⟨.ref b, H, I, rfl, q0 (v1.nil_iff.mp z)⟩) fun z => ?_
  refine ⟨.ref s.heap.objs.size, _, I.laid (t' := s.toks) (o := .tup (xs ++ ys)) (fun c ob q => Heap.get?_push_of_some _ q) (Nat.le_refl _) ?_, rfl, q2 (fun w => z (v1.nil_iff.mpr w)) _ (I.hok.fresh (Nat.le_refl _))⟩
  exact ⟨by rw [List.length_append]; exact hz, _, v1.append v2, IsTup.new _ _⟩
end
/-! ### sorted of a tuple of ints -/
section
variable {prog : Program} {w : World} {A : Around} {E : Value → Shared → Prop} {s : Shared}
theorem gather_tup {l : Addr} {vs : List Value} {Q : List Value → Shared → Prop} (hl : IsTup s.heap l vs.toArray) (hsz : vs.length ≤ sizeLine)
    (h : Q vs { s with heap := (s.heap.push (seqObj "list" #[] 0)).update s.heap.objs.size (Obj.mapSeq (· ++ vs.toArray)) }) : wpAny (model prog w) A (collect (.ref l)) Q E s := by
  obtain ⟨o, ho, hc, n, hd⟩ := id hl
  unfold collect
  refine wpAny_bind (wpAny_runValue (codeAny_builtin entry_proto_collect' ?_))
  show wpAny _ _ (do again (.builtin "list.__iadd__" ⟨[← newList [], Value.ref l], []⟩)) _ _ s
  refine wpAny_bind (wpAny_newList (wpAny_pure ⟨Code.quiet_builtin _ (by decide +kernel), codeAny_builtin entry_list_iadd' ?_⟩))
  show wpAny _ _ (Builtin.List.listExtendWith (.ref s.heap.objs.size) (Value.ref l) (.ref s.heap.objs.size)) _ _ { s with heap := s.heap.push (seqObj "list" #[] 0) }
  unfold Builtin.List.listExtendWith
  have hop : (s.heap.push (seqObj "list" #[] 0)).get? l = some o := Heap.get?_push_of_some _ ho
  refine wpAny_bind (wpAny_typeOf (T := "tuple") ⟨o, hop, hc⟩ ?_)
  have yes : (Value.type "tuple" == Value.type "tuple") = true := by rfl
  rw [if_pos (by rw [yes]; simp)]
  refine wpAny_bind (listItems_at hop hd ?_)
  refine wpAny_bind (listItems_at (xs := #[]) (n := 0) (Heap.get?_push_size _ rfl) rfl ?_)
  rw [if_neg (by simp)]
  refine wpAny_bind (listUpdate_at (xs := #[]) (n := 0) (Heap.get?_push_size _ rfl) rfl ?_ (Nat.zero_le _) ?small)
  case small =>
    show (#[] ++ vs.toArray).size ≤ sizeLine + 1
    simp only [Array.size_append, List.size_toArray, List.length_nil]
    omega
  refine wpAny_pure ?_
  show wpAny (model prog w) A (do
      let ob ← load s.heap.objs.size
      match ob.data with
      | .seq ys _ => pure ys.toList
      | _ => unsupported "internal:collect") Q E { s with heap := (s.heap.push (seqObj "list" #[] 0)).update s.heap.objs.size (Obj.mapSeq (· ++ vs.toArray)) }
  refine wpAny_bind (wpAny_load (get?_update_seq (Heap.get?_push_size _ rfl) _) ?_)
  show wpAny _ _ (pure ((#[] : Array Value) ++ vs.toArray).toList) Q E _
  rw [show ((#[] : Array Value) ++ vs.toArray).toList = vs by simp]
  exact wpAny_pure h
open SrtO Srt in
/-- sorted(t): the collected list stands at size, the new one behind it -/
theorem srt_tup {l : Addr} {vs : List Value} {lt : Value → Value → Bool} {Q : Value → Shared → Prop} (O : Swo lt) (hl : IsTup s.heap l vs.toArray) (hz : vs.length ≤ sizeLine)
    (hS : 2 ≤ vs.length → ∀ (g : Heap) (a : Addr), g.get? a = some (seqObj "list" vs.toArray 0) → (∀ b o, s.heap.get? b = some o → b ≠ a ∧ g.get? b = some o) → SortableO prog w A.in1.in1 { s with heap := g } a vs lt)
    (h : ∀ out : List Value, Srtd lt out → Stb lt out vs → Q (.ref (s.heap.objs.size + 1)) { s with heap := sortedAll s.heap vs out.toArray }) :
    wpAny (model prog w) A (call (.builtin "sorted") [.ref l]) Q E s := by
  refine Calls.call_function_entry kind_sorted plain_sorted entry_sorted (args_sorted1 _) ?_
  unfold Builtin.«sorted»
  refine wpAny_bind (m := checkCount "sorted" 1 1 _) (wpAny_pure ?_)
  refine wpAny_bind (gather_tup hl hz ?_)
  refine wpAny_bind (wpAny_newList ?_ hz)
  let g1 : Heap := (s.heap.push (seqObj "list" #[] 0)).update s.heap.objs.size (Obj.mapSeq (· ++ vs.toArray))
  have z1 : g1.objs.size = s.heap.objs.size + 1 := by
    show ((s.heap.push (seqObj "list" #[] 0)).update _ _).objs.size = _
    rw [Heap.size_update, size_push']
  have at1 : (g1.push (seqObj "list" vs.toArray 0)).get? (s.heap.objs.size + 1) = some (seqObj "list" vs.toArray 0) := by
    rw [← z1]
    exact Heap.get?_push_size _ rfl
  have old : ∀ b o, s.heap.get? b = some o → b ≠ s.heap.objs.size + 1 ∧ (g1.push (seqObj "list" vs.toArray 0)).get? b = some o := fun b o q => by
    have lt' : b < s.heap.objs.size := Heap.lt_size q
    refine ⟨Nat.ne_of_lt (Nat.lt_succ_of_lt lt'), Heap.get?_push_of_some _ ?_⟩
    show ((s.heap.push (seqObj "list" #[] 0)).update _ _).get? b = _
    rw [Heap.get?_update_ne _ _ _ _ (Nat.ne_of_lt lt')]
    exact Heap.get?_push_of_some _ q
  show wpAny _ _ _ _ _ { s with heap := g1.push (seqObj "list" vs.toArray 0) }
  rw [show ((s.heap.push (seqObj "list" #[] 0)).update s.heap.objs.size (Obj.mapSeq (· ++ vs.toArray))).objs.size = s.heap.objs.size + 1 from z1]
  refine wpAny_bind (wpAny_holding (wpAny_call_entry slot_list_sort ⟨_, at1, rfl⟩ entry_list_sort (list_sort_ord O at1 hz (fun h2 => hS h2 _ _ at1 old) fun out hs hb => ⟨_, rfl, ?_⟩) (args_list_sort _)))
  exact wpAny_pure ⟨_, rfl, h out hs hb⟩
end
/-- sorted(t), t a tuple of ints -/
def rSortTu (K : PySem.W.Frag) : List V → Hp → VK → Prop := fun vs H Q => ∃ (a : Addr) (ns : List Int), vs = [V.ref a] ∧ SqT K H a (ns.map V.int) ∧
  ∀ (ms : List Int) (p : Addr), ms.Perm ns → ms.Pairwise (· ≤ ·) → H p = none → Q (.ref p) (upd H p (.lst (ms.map V.int)))
section
variable {X : Cx}
theorem cr_sortedTu : CallR X (.builtin "sorted") (rSortTu X.K) := by
  intro pins s σ H vs us Q I r ⟨a, ns, e, hs, q⟩
  subst e
  obtain ⟨its, rv, hl, hz⟩ := I.tuple hs
  rw [Vals.ref1 r]
  have hi := rv.ints
  refine srt_tup SrtO.swo_int hl (by rw [← rv.length]; exact hz) (fun h2 _ _ _ _ => SrtO.ints_sortable hi h2) fun out h1 h2 => ?_
  obtain ⟨k1, k2, k3⟩ := SrtO.ints_out hi h1 h2
  obtain ⟨ep, at'⟩ := PyProof.Rows.sortedAll_at s.heap its out.toArray
  have few : ((out.map SrtO.iv).map V.int).length ≤ sizeLine := by
    rw [List.length_map, k2.length_eq]
    simpa using hz
  exact ⟨.ref _, upd H (s.heap.objs.size + 1) (.lst ((out.map SrtO.iv).map V.int)), I.laid (t' := s.toks) (fun _ _ => PyProof.Rows.sortedAll_old) (Nat.le_succ _)
    ⟨few, out, ep, vals_of_ints k1, at'⟩, rfl, q _ _ k2 k3 (I.hok.fresh (Nat.le_succ _))⟩
end
end K41
set_option maxHeartbeats 4000000
namespace K41
open PySem PySem.Spec PyProof.Rows L2
section
variable {X : Cx}
/-- l == [], whatever its items are -/
theorem op_eqNil (hu : X.A.units < cLine) : OpR X (compareOp .Eq) (fun x y H Q => ∃ a b xs, x = .ref a ∧ y = .ref b ∧ SqL X.K H a xs ∧ SqL X.K H b [] ∧ Q (.bl xs.isEmpty) H) := by
  intro pins s σ H x y v u Q I rx ry ⟨a, b, xs, e1, e2, ha, hb, q⟩
  subst e1 e2
  cases rx
  cases ry
  obtain ⟨its, r1, p1, _⟩ := I.list ha
  obtain ⟨its2, r2, p2, _⟩ := I.list hb
  cases r2
  cases r1 with
  | nil => exact SeqAt.RcAt.lists (e := fun _ => true) p1.isList p2.isList rfl hu (fun j h => absurd h (by simp)) _ _ _ _ ⟨.bl true, H, I, rfl, q⟩
  | cons r t => exact SeqAt.RcAt.lists_lengths p1.isList p2.isList (by simp) hu _ _ _ _ ⟨.bl false, H, I, rfl, q⟩
/-- t == (), whatever its items are -/
theorem op_eqNilT (hu : X.A.units < cLine) : OpR X (compareOp .Eq) (fun x y H Q => ∃ a b xs, x = .ref a ∧ y = .ref b ∧ SqT X.K H a xs ∧ SqT X.K H b [] ∧ Q (.bl xs.isEmpty) H) := by
  intro pins s σ H x y v u Q I rx ry ⟨a, b, xs, e1, e2, ha, hb, q⟩
  subst e1 e2
  cases rx
  cases ry
  obtain ⟨its, r1, p1, _⟩ := I.tuple ha
  obtain ⟨its2, r2, p2, _⟩ := I.tuple hb
  cases r2
  refine SeqAt.RcAt.tuples (e := fun _ => true) p1 p2 hu (fun j _ h => absurd h (by simp)) _ _ _ _ ?_
  cases r1 with
  | nil => exact ⟨.bl true, H, I, rfl, q⟩
  | cons r t => exact ⟨.bl false, H, I, by simp; rfl, q⟩
/-- l != [] -/
theorem op_neNil (hu : X.A.units < cLine) : OpR X (compareOp .NotEq) (fun x y H Q => ∃ a b xs, x = .ref a ∧ y = .ref b ∧ SqL X.K H a xs ∧ SqL X.K H b [] ∧ Q (.bl (!xs.isEmpty)) H) := by
  intro pins s σ H x y v u Q I rx ry ⟨a, b, xs, e1, e2, ha, hb, q⟩
  subst e1 e2
  cases rx
  cases ry
  obtain ⟨its, r1, p1, _⟩ := I.list ha
  obtain ⟨its2, r2, p2, _⟩ := I.list hb
  cases r2
  cases r1 with
  | nil => exact SeqAt.RcNeAt.lists (e := fun _ => true) p1.isList p2.isList rfl hu (fun j h => absurd h (by simp)) _ _ _ _ ⟨.bl false, H, I, rfl, q⟩
  | cons r t => exact SeqAt.RcNeAt.lists_lengths p1.isList p2.isList (by simp) hu _ _ _ _ ⟨.bl true, H, I, rfl, q⟩
end
end K41
set_option maxHeartbeats 4000000
namespace K41
open PySem PySem.Spec PyProof.Rows L2
/-- an own error class whose __init__ keeps the knot -/
structure EC (P : Program) (K : PySem.W.Frag) (mg : Str → Option Value) (x : Str) (C : Addr) : Prop where
  ex : ∃ (fI : Addr) (fd : FuncData) (qual : Str), ETxt K mg P C fI qual fd ∧ mg x = some (.ref C) ∧ PySem.W.findIn K (.ref C) "__init__" = some (some (.ref fI)) ∧ PySem.W.typeIn K (.ref fI) = some (.type "function") ∧ Binds K fd ["self", "knot"] []
/-- the reading of raise X(e) -/
theorem eans {C : Addr} {y : V} {H1 : Hp} {Q : XK} (q : ∀ d, H1 d = none → Q (.ref C) (some d) (upd H1 d (.xd [("knot", y)]))) : [y].length ≤ 1000 ∧ ∀ a, H1 a = none → spEInit C (.ref a :: ([y] ++ [])) (upd H1 a (exo a C none))
    (fun v H2 => v = .non ∧ ∃ (d : Addr) (fs : List (Str × V)), H2 a = some (exo a C (some d)) ∧ H2 d = some (exd d fs) ∧ H1 d = none ∧ Q (.ref C) (some d) (upd (del H2 a) d (.xd fs))) (fun _ _ _ => False) := by
  refine ⟨by show 1 ≤ 1000; decide, fun a na => ⟨a, y, rfl, upd_same, fun dx ndx nda => ⟨rfl, dx, [("knot", y)], upd_same, by rw [upd_ne nda]; exact upd_same, ?_, ?_⟩⟩⟩
  · rw [upd_ne nda] at ndx
    exact ndx
  · rw [upd_ne nda] at ndx
    have e2 : upd (del (upd (upd (upd H1 a (exo a C none)) dx (exd dx [("knot", y)])) a (exo a C (some dx))) a) dx (.xd [("knot", y)]) = upd H1 dx (.xd [("knot", y)]) := by
      funext b
      by_cases hb' : b = dx
      · subst hb'
        rw [upd_same, upd_same]
      · rw [upd_ne hb', upd_ne hb']
        by_cases ha' : b = a
        · subst ha'
          rw [del_same, na]
        · rw [del_ne ha', upd_ne ha', upd_ne hb', upd_ne ha']
    rw [e2]
    exact q dx ndx
theorem ps_raiseE {X : Cx} {x : Str} {C : Addr} {j : Nat} {W : WX} {e : Expr} {ta : TA} {p pos pos2 : Pos} (c : EC X.prog X.K X.mg x C) (hc : X.calm = true) (hr : Room j X.A) (tk : Takes X W) (hg : Gl X x) (ha : PA X [e] ta) (hj : 2 ≤ j := by decide)
    (hdb : (x == ("__debug__" : Str)) = false := by decide) (he : starEach [e] X.env = (false, eval e X.env) :: starEach [] X.env := by rfl) (hpl : (backTo pos (starEach [] X.env)).any (·.1) = false := by rfl) :
    PS X (.Raise (some (.Call (.Name x p) [e] [] pos)) none pos2) (fun _ σ H => tMkO C (spEInit C) [] ta σ H fun cls d H' => W cls d σ H') := by
  obtain ⟨fI, fd, qual, T, hm, iC, tI, hb⟩ := c.ex
  have F : FnOk X.prog X.w X.K X.mg X.base CX0 1 fI fd ["self", "knot"] (spEInit C) := ok_einit T
  exact ps_raise (pos := pos2) hc tk (pmk_oex (p := p) (pos := pos) T.oex iC tI F (hr.mono hj) hb .nil pass0 hg hm ha hdb he hpl)
end K41
set_option maxHeartbeats 4000000
namespace K41
open PySem PySem.Spec PyProof.Rows L2
section
variable {X : Cx}
/-- y = {k: v for ..}: the store is made within the comprehension's frame -/
theorem ps_setDc {i : Nat} {y : Str} {py : Pos} {kx vx tg iter : Expr} {ifs : List Expr} {scope : Scope} {own : List (Str × Nat)} {pos spos : Pos} {wi : TI} {g : TG} {tt : TT} {tk tv : TE} (hc : X.calm = true) (hN : X.N.Nodup) (hy : X.N[i]? = some y) (hyl : X.env.scope.names.lookup y = some .local)
    (hsw : swapsWith (.DictComp kx vx [⟨tg, iter, ifs, 0⟩] scope pos) (some (.Name y py)) spos.line X.env = pure true) (hi : PI X tg iter wi) (ok : BlkOk X.N X.env.scope scope own)
    (hg : ∀ (s1 : Shared) (H1 : Hp) (C : Addr) (cl : List (Str × Addr)) (fp : List Addr), PG (X.blk s1 H1 scope (compEnvC scope cl C X.env) fp) tg g) (ht : ∀ (s1 : Shared) (H1 : Hp) (C : Addr) (cl : List (Str × Addr)) (fp : List Addr), PTs (X.blk s1 H1 scope (compEnvC scope cl C X.env) fp) ifs tt)
    (hk : ∀ (s1 : Shared) (H1 : Hp) (C : Addr) (cl : List (Str × Addr)) (fp : List Addr), PE (X.blk s1 H1 scope (compEnvC scope cl C X.env) fp) kx tk) (hv : ∀ (s1 : Shared) (H1 : Hp) (C : Addr) (cl : List (Str × Addr)) (fp : List Addr), PE (X.blk s1 H1 scope (compEnvC scope cl C X.env) fp) vx tv)
    (hs : ∀ x, foldedSetIterable iter X.env x = pure x := by intro _; rfl) :
    PS X (.Assign [.Name y py] (.DictComp kx vx [⟨tg, iter, ifs, 0⟩] scope pos) spos) (tAsg (tDc wi g tt tk tv (own.map (·.2))) (gName i)) := by
  refine ⟨fun pins s σ H Ds I hw => ?_⟩
  rw [exec_Assign_Name_used _ _ _ _ hsw]
  refine wpAny_bind (wpAny_standAt (wpAny_bind ?_))
  show wpAny _ X.A (do let _ ← comprehension (.DictComp kx vx [⟨tg, iter, ifs, 0⟩] scope pos) scope X.env (firstIterPos [⟨tg, iter, ifs, 0⟩] pos) newDict false (eval iter X.env) (some (assign (.Name y py) X.env))) _ _ s
  have hw : tDc wi g tt tk tv (own.map (·.2)) σ H (fun x H1 => gName i x σ H1 Ds.nx) := hw
  refine wpAny_bind (thn (dc_core (Qf := fun _ s2 => SP X pins Ds .next s2) hc hN I hi ok hg ht hk hv hs hw fun N C s1 m H1 I1 q hn f => ?_) fun _ s2 hq => wpAny_pure (wpAny_pure hq))
  show wpAny _ _ (assign (.Name y py) X.env (.ref N)) _ _ _
  refine wpAny_assign_Name (store_ok2 (v := V.ref N) I1 hN hy (.inl hyl) rfl (fun s2 I2 ⟨a, sb, ha⟩ => ?_) (.inr hyl))
  obtain ⟨g0, g1, g2, g3, g4, g5⟩ := f
  have ne : C ≠ a := by
    rcases ha with z | z
    · rw [z]
      exact g1
    · exact fun e => g4 y a z e.symm
  refine ⟨m, hn.sameBut sb ne, fun h3 sb3 => ?_⟩
  exact ⟨_, H1, I2.turned (t' := s2.toks) (fun b o nb e => (sb3.2 b nb).trans e) g0 g1 g3 g4 g5, q⟩
theorem sw_trueD {kx vx : Expr} {gs : List Comprehension} {scope : Scope} {pos py : Pos} {y : Str} {l : Nat} {env : Env} (hk : env.scope.kind = .function) (hy : env.scope.names.lookup y = some .local) (hl : (py.line == pos.line) = true)
    (no : (scope.names.any fun (n, k) => n == y && (k == .local || k == .cell)) = false) : swapsWith (.DictComp kx vx gs scope pos) (some (.Name y py)) l env = pure true := by
  have kd : env.kindOf y = some .local := hy
  have bk : env.blockKind = .function := by
    unfold Env.blockKind
    rw [hk] <;> rfl
  unfold swapsWith
  simp only [bk, kd, no, Expr.pos, hl]
  rfl
end
end K41
set_option maxHeartbeats 4000000
namespace K41
open PySem PySem.Spec PyProof.Rows L2
/-! ### the text -/
def top (i : Nat) : Stmt := PySem.Challenge.pw_onebase_k41_whole_fewest_knots_and_most.main.body.getD i (.Pass ⟨0, 0, 0, 0⟩)
abbrev FnP (K : PySem.W.Frag) (x : Str) (i : Nat) (f : Addr) (fd : FuncData) : Prop := FunD K x x (defArgs (top i)) (defBody (top i)) (defScope (top i)) [] [] f fd
/-- a tuple that the top has written -/
def KT (K : PySem.W.Frag) (a : Addr) (xs : List V) : Prop :=
  ∃ (o : Obj) (its : Array Value) (n : Nat), K.lookup a = some o ∧ o.cls = .type "tuple" ∧ o.data = .seq its n ∧ its.size ≤ sizeLine ∧ Vals xs its.toList
theorem KT.seq {K : PySem.W.Frag} {a : Addr} {xs : List V} (h : KT K a xs) (H : Hp) : SqT K H a xs := .inr h
def S (z : String) : V := .str (Str.ofString z)
/-! ### the tables of the top -/
def keptA : List String := ["alike", "archive", "ask", "call", "code", "const", "copy", "data", "fail", "fill", "goto"]
def keptB : List String := ["hidden", "if", "item", "jump", "leap", "less", "library", "line", "load", "none", "open"]
def keptC : List String := ["over", "own", "pick", "plus", "program", "return", "room", "round", "set", "show", "spare"]
def keptD : List String := ["start", "stop", "store", "table", "take", "try", "unit", "weak"]
def keptL : List V := (keptA ++ (keptB ++ (keptC ++ keptD))).map S
def lettersS : Str := "abcdefghijklmnopqrstuvwxyz"
def formsA : List (String × String) := [("set", "rc"), ("copy", "rr"), ("plus", "rr"), ("less", "rr"), ("ask", "r"), ("show", "r"), ("load", "rxc"), ("store", "rxc")]
def formsB : List (String × String) := [("item", "rxr"), ("fill", "rxr"), ("take", "px"), ("pick", "pxr"), ("alike", "rpp"), ("call", "x"), ("try", "xn"), ("leap", "p")]
def formsC : List (String × String) := [("jump", "x"), ("goto", "n"), ("if", "rn"), ("return", ""), ("stop", ""), ("fail", "f")]
def formsL : List (Str × Str) := (formsA ++ (formsB ++ formsC)).map fun p => (Str.ofString p.1, Str.ofString p.2)
def words : List Str := formsL.map (·.1)
def formOf (z : Str) : Option Str := formsL.lookup z
def placesL : List (Str × Int) := [("call", 1), ("try", 1), ("jump", 1), ("load", 2), ("store", 2), ("item", 2), ("fill", 2), ("take", 2), ("pick", 2)]
def placeOf (z : Str) : Option Int := placesL.lookup z
def endsL : List (Str × Int) := [("r", 4), ("p", 2), ("c", 64), ("f", 63)]
def endOf (z : Str) : Option Int := endsL.lookup z
def signs4 : List Str := ["r", "p", "c", "f"]
def lastsL : List V := ["goto", "jump", "return", "stop", "fail"].map S
def readL : List V := ["data", "room", "const"].map S
def storeL : List V := ["data", "room"].map S
def tableL : List V := ["table"].map S
/-- what a word asks of the knot it leads to -/
def askedL (z : Str) : Option (List V) := if z = "load" ∨ z = "item" then some readL else if z = "store" ∨ z = "fill" then some storeL else if z = "pick" then some tableL else none
def askWords : List Str := Str.ofString "item of" :: words
/-! ### what is known of the top -/
structure Txt (w : World) (K : PySem.W.Frag) (mg : Str → Option Value) : Prop where
  b_abs : mg "abs" = none
  b_all : mg "all" = none
  b_bool : mg "bool" = none
  b_enumerate : mg "enumerate" = none
  b_int : mg "int" = none
  b_isinstance : mg "isinstance" = none
  b_len : mg "len" = none
  b_list : mg "list" = none
  b_min : mg "min" = none
  b_range : mg "range" = none
  b_set : mg "set" = none
  b_sorted : mg "sorted" = none
  b_str : mg "str" = none
  b_tuple : mg "tuple" = none
  b_zip : mg "zip" = none
  g_LETTERS : ∃ u, mg "LETTERS" = some u ∧ RelV (.str lettersS) u
  g_MOST_KNOTS : ∃ u, mg "MOST_KNOTS" = some u ∧ RelV (.int 200) u
  t_KEPT : ∃ a, mg "KEPT" = some (.ref a) ∧ KT K a keptL
  t_LASTS : ∃ a, mg "LASTS" = some (.ref a) ∧ KT K a lastsL
  t_FORMS : ∃ a, mg "FORMS" = some (.ref a) ∧ KD K w a words (fun z => (formOf z).map V.str)
  t_PLACES : ∃ a, mg "PLACES" = some (.ref a) ∧ KD K w a words (fun z => (placeOf z).map V.int)
  t_ENDS : ∃ a, mg "ENDS" = some (.ref a) ∧ KD K w a signs4 (fun z => (endOf z).map V.int)
  t_ASKED : ∃ a f, mg "ASKED" = some (.ref a) ∧ KD K w a askWords f ∧ ∀ z ∈ askWords, (∀ v, f z = some v → ∃ b xs, v = .ref b ∧ KT K b xs ∧ askedL z = some xs) ∧ (f z = none → askedL z = none)
/-! ### heaps -/
theorem same_upd {H : Hp} {p : Addr} {o : HO} (h : H p = none) : Same H (upd H p o) := fun b x e => by
  rw [upd_ne (ne_of_none e h)]
  exact e
theorem Same.tup {K : PySem.W.Frag} {H H' : Hp} {a : Addr} {xs : List V} (e : Same H H') (h : SqT K H a xs) : SqT K H' a xs := by
  rcases h with (h | ⟨o, h⟩) | h
  · exact .inl (.inl (e _ _ h))
  · exact .inl (.inr ⟨o, e _ _ h⟩)
  · exact .inr h
theorem Same.keep {H H' : Hp} {D : Addr} {o : HO} (e : Same H H') (n : H D = none) : Same H (upd H' D o) := fun b x h => by
  rw [upd_ne (ne_of_none h n)]
  exact e b x h
/-- behind i turns of a comprehension whose turns leave all that stands: acc i is the list so far -/
abbrev Acc (H1 : Hp) (D : Addr) (acc : Nat → List V) (i : Nat) (H : Hp) : Prop := Same H1 H ∧ H D = some (.lst (acc i))
theorem Acc.start {H1 : Hp} {D : Addr} {acc : Nat → List V} (nD : H1 D = none) (h0 : acc 0 = []) : Acc H1 D acc 0 (upd H1 D (.lst [])) := ⟨same_upd nD, by rw [h0]; exact upd_same⟩
theorem Acc.put {H1 H H4 : Hp} {D : Addr} {acc : Nat → List V} {i : Nat} {y : V} (nD : H1 D = none) (p : Acc H1 D acc i H) (s : Same H H4) (few : (acc i).length < sizeLine) (e : acc (i + 1) = acc i ++ [y]) :
    ∃ l, H4 D = some (.lst l) ∧ l.length < sizeLine ∧ Acc H1 D acc (i + 1) (upd H4 D (.lst (l ++ [y]))) :=
  ⟨acc i, s _ _ p.2, few, Same.keep (p.1.trans s) nD, by rw [upd_same, e]⟩
theorem Acc.pass {H1 H H3 : Hp} {D : Addr} {acc : Nat → List V} {i : Nat} (p : Acc H1 D acc i H) (s : Same H H3) (e : acc (i + 1) = acc i) : Acc H1 D acc (i + 1) H3 := ⟨p.1.trans s, by rw [e]; exact s _ _ p.2⟩
theorem small10 {n : Nat} (h : n ≤ 1000000) : n < sizeLine := Nat.lt_of_le_of_lt h (by decide)
theorem take1 {α : Type} {l : List α} {i : Nat} {x : α} (h : l[i]? = some x) : l.take (i + 1) = l.take i ++ [x] := by
  rw [List.take_add_one, h]
  rfl
theorem at0 {x : V} {r : List V} : atI (x :: r) 0 = some x := atI_nat (j := 0) rfl
theorem at1 {x y : V} {r : List V} : atI (x :: y :: r) 1 = some y := atI_nat (j := 1) rfl
theorem at2 {x y z : V} {r : List V} : atI (x :: y :: z :: r) 2 = some z := atI_nat (j := 2) rfl
theorem at3 {x y z u : V} {r : List V} : atI (x :: y :: z :: u :: r) 3 = some u := atI_nat (j := 3) rfl
/-! rules with the written part told -/
section
variable (K : PySem.W.Frag) {X : Cx}
theorem x_tup (h : X.K = K := by rfl) : IxR X (rIxT K) := by subst h; exact ix_tup
theorem x_lst (h : X.K = K := by rfl) : IxR X (rIxL K) := by subst h; exact ix_list
theorem x_in (h : X.K = K := by rfl) : OpR X (compareOp .In) (rIn K false) := by subst h; exact op_in_seq
theorem x_notIn (h : X.K = K := by rfl) : OpR X (compareOp .NotIn) (rIn K true) := by subst h; exact op_notIn_seq
theorem x_isi (h : X.K = K := by rfl) : CallR X (.builtin "isinstance") (rIsi K) := by subst h; exact call_isi
theorem x_eqD (hu : X.A.units + 64 < cLine) (h : X.K = K := by rfl) : OpR X (compareOp .Eq) (rEqD K) := by subst h; exact op_eqD hu
theorem x_inD (hu : X.A.units + 65 < cLine) (h : X.K = K := by rfl) : OpR X (compareOp .In) (rInD K) := by subst h; exact op_inD hu
theorem x_notInD (hu : X.A.units + 65 < cLine) (h : X.K = K := by rfl) : OpR X (compareOp .NotIn) (rNotInD K) := by subst h; exact op_notInD hu
theorem x_len (h : X.K = K := by rfl) : CallR X (.builtin "len") (fun xs H Q => ∃ x n, xs = [x] ∧ LenV K x H n ∧ Q (.int n) H) := by subst h; exact call_len
theorem x_slL (h : X.K = K := by rfl) : SlR X (rSlL K) := by subst h; exact sl_list
theorem x_eqNil (hu : X.A.units < cLine) (h : X.K = K := by rfl) : OpR X (compareOp .Eq) (fun x y H Q => ∃ a b xs, x = .ref a ∧ y = .ref b ∧ SqL K H a xs ∧ SqL K H b [] ∧ Q (.bl xs.isEmpty) H) := by subst h; exact op_eqNil hu
theorem x_neNil (hu : X.A.units < cLine) (h : X.K = K := by rfl) : OpR X (compareOp .NotEq) (fun x y H Q => ∃ a b xs, x = .ref a ∧ y = .ref b ∧ SqL K H a xs ∧ SqL K H b [] ∧ Q (.bl (!xs.isEmpty)) H) := by subst h; exact op_neNil hu
theorem x_eqNilT (hu : X.A.units < cLine) (h : X.K = K := by rfl) : OpR X (compareOp .Eq) (fun x y H Q => ∃ a b xs, x = .ref a ∧ y = .ref b ∧ SqT K H a xs ∧ SqT K H b [] ∧ Q (.bl xs.isEmpty) H) := by subst h; exact op_eqNilT hu
theorem x_catA (h : X.K = K := by rfl) : OpR X (binaryOp .Add) (rCatA K) := by subst h; exact op_catA
theorem x_slA (h : X.K = K := by rfl) : SlR X (rSlA K) := by subst h; exact sl_tupA
end
theorem small20 {n : Nat} (h : n ≤ 1048576) : n < sizeLine := Nat.lt_of_le_of_lt h (by decide)
theorem hu0_of {A : Around} {k : Nat} (hr : Room k A) : A.units < cLine := by have := hr.un; omega
theorem hu65_of {A : Around} {k : Nat} (hr : Room k A) : A.units + 65 < cLine := by have := hr.un; omega
/-! ### isinstance -/
section
variable {K : PySem.W.Frag} {H : Hp}
theorem isi {x : V} {t T : String} {b : Bool} {Q : VK} (h : TyX K H x (.type t)) (k : kitB t T = some b) (q : Q (.bl b) H) : rIsi K [x, .ty T] H Q := ⟨x, _, _, _, b, rfl, .ty T, h, kit_ty k, q⟩
theorem tyI (i : Int) : TyX K H (.int i) (.type "int") := .base (.int i)
theorem tyS (z : Str) : TyX K H (.str z) (.type "str") := .base (.str z)
theorem tyN : TyX K H .non (.type "NoneType") := .base .non
theorem tyT {a : Addr} {xs : List V} (h : H a = some (.tup xs)) : TyX K H (.ref a) (.type "tuple") := .base (.tup h)
end
/-- the value is a whole number -/
def isI : V → Bool
  | .int _ => true
  | _ => false
/-- an int, a text, None -/
def plain : V → Bool
  | .int _ => true
  | .str _ => true
  | .non => true
  | _ => false
def isNm (z : Str) : Bool := decide (1 ≤ z.cps.size) && decide (z.cps.size ≤ 8) && !inV (.str z) keptL && z.cps.toList.all fun c => decide (c ∈ lettersS.cps.toList)
def isNmV : V → Bool
  | .str z => isNm z
  | _ => false
/-! ### whole numbers, names -/
section
variable {P : Program} {w : World} {K : PySem.W.Frag} {mg : Str → Option Value} {base : Heap}
def spWhole : Sp := fun vs H Q _ => ∃ x : V, vs = [x] ∧ plain x = true ∧ Q (.bl (isI x)) H
theorem sc_is_whole : FnScope ["thing"] ["thing"] (defScope (top 21)) := ⟨rfl, rfl, rfl, by decide +kernel, rfl, by decide +kernel, by decide +kernel⟩
theorem ok_is_whole {f : Addr} {fd : FuncData} (F : FnP K "is_whole" 21 f fd) (T : Txt w K mg) : FnOk P w K mg base CX0 1 f fd ["thing"] spWhole := by
  refine F.ok sc_is_whole (fun vs H Q E h => by obtain ⟨x, rfl, _⟩ := h; rfl) (fun cdv A outer s H vs Q E hr h => ?_)
  have nd := sc_is_whole.nd
  obtain ⟨x, rfl, hx, q⟩ := h
  refine ⟨_, PSs.nox 
    (pss_one (ps_ret (pe_and (pe_callB (x_isi K) (by rfl) T.b_isinstance (by decide +kernel) (pa_cons (pv 0) (pa_cons (pe_bltn (v := .ty "int") (by rfl) T.b_int (by decide +kernel) rfl) pa_nil))) (pe_one (pe_not (pe_callB (x_isi K) (by rfl) T.b_isinstance (by decide +kernel) (pa_cons (pv 0) (pa_cons (pe_bltn (v := .ty "bool") (by rfl) T.b_bool (by decide +kernel) rfl) pa_nil)))))))), ?_⟩
  cases x with
  | int i => exact ⟨_, rfl, ⟨_, _, _, _, true, rfl, .ty _, tyI i, kit_ty (by decide +kernel), ⟨_, rfl, iteT ⟨_, rfl, ⟨_, _, _, _, false, rfl, .ty _, tyI i, kit_ty (by decide +kernel), ⟨_, rfl, q⟩⟩⟩⟩⟩⟩
  | str z => exact ⟨_, rfl, ⟨_, _, _, _, false, rfl, .ty _, tyS z, kit_ty (by decide +kernel), ⟨_, rfl, iteF q⟩⟩⟩
  | non => exact ⟨_, rfl, ⟨_, _, _, _, false, rfl, .ty _, tyN, kit_ty (by decide +kernel), ⟨_, rfl, iteF q⟩⟩⟩
  | _ => exact absurd (show false = true from hx) Bool.false_ne_true
end
end K41
set_option maxHeartbeats 4000000
namespace K41
open PySem PySem.Spec PyProof.Rows L2
/-! ### what the head tells, as Bools over what it looks at -/
theorem and2 {a b : Bool} (h : (a && b) = true) : a = true ∧ b = true := Bool.and_eq_true_iff.mp h
/-- the tuple at a is that of xs -/
def ktB (K : PySem.W.Frag) (a : Addr) (xs : List V) : Bool := match K.lookup a with
  | some ⟨.type c, _, .seq its _, _⟩ => decide (c = "tuple") && (decide (its.size ≤ sizeLine) && He.relAll xs its.toList)
  | _ => false
theorem ktB_ok {K : PySem.W.Frag} {a : Addr} {xs : List V} (h : ktB K a xs = true) : KT K a xs := by
  unfold ktB at h
  split at h
  · rename_i c od its n sl q
    obtain ⟨h1, h2⟩ := and2 h
    obtain ⟨h3, h4⟩ := and2 h2
    exact ⟨_, its, n, q, congrArg Value.type (of_decide_eq_true h1), rfl, of_decide_eq_true h3, He.relAll_ok h4⟩
  · cases h
/-- the dict at a tells f of the texts ws -/
def kvB (K : PySem.W.Frag) (a : Addr) (ws : List Str) (f : Str → Option V) : Bool := ws.all fun z => match PySem.W.nsIn K a z, f z with
  | some none, none => true
  | some (some u), some v => He.relB v u
  | _, _ => false
theorem kvB_ok {K : PySem.W.Frag} {w : World} {a : Addr} {ws : List Str} {f : Str → Option V} (hk : ∃ es n, KDict K w a es n) (h : kvB K a ws f = true) : KD K w a ws f := by
  refine ⟨hk, fun z hz => ?_⟩
  have h2 := List.all_eq_true.mp h z hz
  cases e : PySem.W.nsIn K a z with
  | none =>
    rw [e] at h2
    cases h2
  | some r =>
    refine ⟨r, rfl, ?_⟩
    rw [e] at h2
    cases ef : f z with
    | none =>
      rw [ef] at h2
      cases r with
      | none => trivial
      | some u => cases h2
    | some v =>
      rw [ef] at h2
      cases r with
      | none => cases h2
      | some u => exact He.relB_ok h2
/-! ### an own error class -/
abbrev InitW : Type := Option (Str × Str × Arguments × FuncBody × Scope × Addr × Value × Value × Addr)
def initW (K : PySem.W.Frag) (a : Addr) : InitW := match K.lookup a with
  | some ⟨_, _, .func fd, _⟩ => some (fd.name, fd.qualname, fd.params, fd.body, fd.scope, fd.globals, fd.defaults, fd.kwdefaults, fd.builtins)
  | _ => none
def initV (qual : Str) (p : Arguments) (b : List Stmt) : InitW := some ("__init__", qual, p, .stmts b, eS, mainGlobals, .none, .none, builtinsNs)
/-- an error class that stands straight over ValueError's line -/
def errB (K : PySem.W.Frag) (C : Addr) : Bool := match K.lookup C with
  | some ⟨.type t, _, .cls cd, sl⟩ => (match cd.mro, sl.toList with
    | .ref C' :: bm, [_, _, _, _, some (.builtin n), _] => decide (t = "type") && (decide (C' = C) && (decide (n = "ValueError.__new__") && (!cd.hasDel && (cd.hasDict && PySem.HandSPX.refsVE bm))))
    | _, _ => false)
  | _ => false
theorem errB_ok {K : PySem.W.Frag} {C : Addr} (h : errB K C = true) : ∃ nm q N bs bm sn sub ab col dd k0 k1 k2 k3 k5, K.lookup C = some (excClassObj nm q C N bs bm true sn sub ab col dd k0 k1 k2 k3 k5 "ValueError.__new__") ∧ PySem.HandSPX.refsVE bm = true := by
  unfold errB at h
  split at h
  · rename_i t dd cd sl ho
    split at h
    · rename_i C' bm k0 k1 k2 k3 n k5 hm hs
      obtain ⟨nm, bs, mro, ns, qn, hd, sn, sub, ab, col, del⟩ := cd
      obtain ⟨a1, h⟩ := and2 h
      obtain ⟨a2, h⟩ := and2 h
      obtain ⟨a3, h⟩ := and2 h
      obtain ⟨a4, h⟩ := and2 h
      obtain ⟨a5, h6⟩ := and2 h
      have b0 : mro = .ref C' :: bm := hm
      have b4 : del = false := by simpa using (show (!del) = true from a4)
      have b5 : hd = true := a5
      have b1 := of_decide_eq_true a1
      have b2 := of_decide_eq_true a2
      have b3 := of_decide_eq_true a3
      clear a1 a2 a3 a4 a5 hm
      subst b0 b4 b5 b1 b2 b3
      have hsl : sl = #[k0, k1, k2, k3, some (.builtin "ValueError.__new__"), k5] := by
        obtain ⟨l⟩ := sl
        simp only at hs
        rw [hs]
      subst hsl
      exact ⟨nm, qn, ns, bs, bm, sn, sub, ab, col, dd, k0, k1, k2, k3, k5, ho, h6⟩
    · cases h
  · cases h
def oexB (K : PySem.W.Frag) (C : Addr) : Bool := errB K C && (decide (PySem.W.findIn K (.ref C) "__setattr__" = some (some (.builtin "object.__setattr__"))) && (decide (PySem.W.subIn K (.ref C) (.type "BaseException") = some true) &&
  (decide (PySem.W.typeIn K (.ref C) = some (.type "type")) && PySem.W.keepIn K (.ref C))))
theorem oexB_ok {K : PySem.W.Frag} {C : Addr} (h : oexB K C = true) : OexC K C := by
  obtain ⟨h1, h⟩ := and2 h
  obtain ⟨h2, h⟩ := and2 h
  obtain ⟨h3, h⟩ := and2 h
  obtain ⟨h4, h5⟩ := and2 h
  exact ⟨errB_ok h1, of_decide_eq_true h2, of_decide_eq_true h3, of_decide_eq_true h4, h5⟩
def xisB (K : PySem.W.Frag) (C : Addr) : Bool := xfB K C && ((PySem.W.clsIn K C).isSome && (decide (PySem.W.findIn K (.ref C) "__class__" = some (some (.builtin "object.__class__"))) &&
  (decide (PySem.W.specialIn K (.builtin "object.__class__") "__get__" = some (some (.builtin "getset_descriptor.__get__"))) && (decide (PySem.W.takesIn K (.builtin "object.__class__") = some true) && decide (PySem.W.mroIn K C (.type "object") = some true)))))
theorem xisB_ok {K : PySem.W.Frag} {C : Addr} (h : xisB K C = true) : XIs K C := by
  obtain ⟨h1, h⟩ := and2 h
  obtain ⟨h2, h⟩ := and2 h
  obtain ⟨h3, h⟩ := and2 h
  obtain ⟨h4, h⟩ := and2 h
  obtain ⟨h5, h6⟩ := and2 h
  exact ⟨xfB_ok h1, h2, of_decide_eq_true h3, of_decide_eq_true h4, of_decide_eq_true h5, of_decide_eq_true h6⟩
/-- its __init__'s closure, code object and file -/
def iniB (K : PySem.W.Frag) (fI C : Addr) (qual file : Str) : Bool := match K.lookup fI with
  | some ⟨_, _, .func fd, _⟩ => (match fd.closure, fd.code with
    | [(cn, cc)], .ref cda => decide (cn = "__class__") && ((match K.lookup cc with
        | some ⟨_, _, .cell (some (.ref C')), _⟩ => decide (C' = C)
        | _ => false) && (PySem.W.codeIn K (.ref cda) qual && (match K.lookup cda with
        | some ⟨_, _, .fields vs, _⟩ => (match (vs[2]? : Option Value) with
          | some (.str f _) => decide (f = file)
          | _ => false)
        | _ => false)))
    | _, _ => false)
  | _ => false
def fIn (K : PySem.W.Frag) (C : Addr) : Addr := He.ma K C "__init__"
def ecB (K : PySem.W.Frag) (C : Addr) (qual file : Str) : Bool := oexB K C && (iniB K (fIn K C) C qual file && (decide (PySem.W.ks_superIn K C C "__init__" = some (some (.builtin "ValueError.__init__"))) && (decide (PySem.W.mroIn K C (.ref C) = some true) &&
  (decide (PySem.W.subIn K (.ref C) (.type "ValueError") = some true) && (decide (PySem.W.findIn K (.ref C) "knot" = some none) && (decide (PySem.W.nsIn K cStatics "thirdparty.any" = some none) &&
  (decide (PySem.W.findIn K (.ref C) "__init__" = some (some (.ref (fIn K C)))) && decide (PySem.W.typeIn K (.ref (fIn K C)) = some (.type "function")))))))))
theorem callAt {o : Expr} {m : Str} {apos pos : Pos} {args : List Expr} {env : Env} {t : Value → Sem Value}
    (h : ∀ ov, methodCall o m apos pos env ov (args.length + ([] : List Keyword).length) (backTo pos (starEach args env)) (backToKw pos (keywordEach [] env)) = t ov) :
    eval (.Call (.Attribute o m apos) args [] pos) env = (do
      let ov ← attributeBase o m env (eval o env)
      standAt apos.atName
      t ov) := by
  have e : (fun ov => methodCall o m apos pos env ov (args.length + ([] : List Keyword).length) (backTo pos (starEach args env)) (backToKw pos (keywordEach [] env))) = t := funext h
  rw [arm_eval_Call, ← e]
theorem initCall {o : Expr} {m : Str} {apos pos : Pos} {args : List Expr} {env : Env} (hf : methodCallForm args.length (backTo pos (starEach args env)) [] = true) (hl : (apos.endLine == pos.line) = true) :
    eval (.Call (.Attribute o m apos) args [] pos) env = (do
      let ov ← attributeBase o m env (eval o env)
      standAt apos.atName
      let (f, first) ← holding [ov] (getMethod ov m (plainOf o env))
      callWith pos f first (backTo pos (starEach args env)) []) :=
  callAt (t := fun ov => (do
      let (f, first) ← holding [ov] (getMethod ov m (plainOf o env))
      callWith pos f first (backTo pos (starEach args env)) [])) fun ov => mcall_line hf hl
theorem ecB_ok {P : Program} {K : PySem.W.Frag} {mg : Str → Option Value} {x : Str} {C : Addr} {qual msg file : Str} {p1 p2 q0 q1 q2 q3 q4 q5 q6 q7 q8 q9 : Pos} {j : Nat} (hf : (P.main.file : Str) = file) (hl : (q2.endLine == q4.line) = true) (hC : mg x = some (.ref C)) (sup : mg "super" = none) (top : (P.main.scope.names.lookup ("super" : Str)).isSome = false)
    (hw : initW K (fIn K C) = initV qual (eA p1 p2) (eB msg j q0 q1 q2 q3 q4 q5 q6 q7 q8 q9)) (h : ecB K C qual file = true) : EC P K mg x C := by
  obtain ⟨h1, h⟩ := and2 h
  obtain ⟨h2, h⟩ := and2 h
  obtain ⟨h3, h⟩ := and2 h
  obtain ⟨h4, h⟩ := and2 h
  obtain ⟨h5, h⟩ := and2 h
  obtain ⟨h6, h⟩ := and2 h
  obtain ⟨h7, h⟩ := and2 h
  obtain ⟨h8, h9⟩ := and2 h
  unfold iniB at h2
  split at h2
  · rename_i oc od fd osl lk
    split at h2
    · rename_i cn cc cda hclo hcode
      obtain ⟨k1, k⟩ := and2 h2
      obtain ⟨k2, k⟩ := and2 k
      obtain ⟨k3, k4⟩ := and2 k
      obtain rfl := of_decide_eq_true k1
      split at k2
      · rename_i cl cld C' csl lcc
        obtain rfl := of_decide_eq_true k2
        split at k4
        · rename_i ccl cdd vs ccs lcd
          split at k4
          · rename_i f tf hvs
            obtain rfl := of_decide_eq_true k4
            unfold initW at hw
            rw [lk] at hw
            obtain ⟨n1, n2, n3, n4, n5, n6, n7, n8, n9, n10, n11, n12, n13, n14, n15⟩ := fd
            have e2 : (some (n1, n2, n3, n4, n5, n6, n8, n9, n15) : InitW) = initV qual (eA p1 p2) (eB msg j q0 q1 q2 q3 q4 q5 q6 q7 q8 q9) := hw
            simp only [initV, Option.some.injEq, Prod.mk.injEq] at e2
            obtain ⟨g1, g2, g3, g4, g5, g6, g7, g8, g9⟩ := e2
            dsimp only at hclo hcode
            subst g1 g2 g3 g4 g5 g6 g7 g8 g9 hclo hcode
            refine ⟨_, _, _, ⟨oexB_ok h1, ⟨cc, cda, oc, od, n10, n11, n12, n14, osl, p1, p2, q0, q1, q2, q3, q4, q5, q6, q7, q8, q9, msg, j, cl, cld, csl, ccl, cdd, ccs, vs, f, tf, rfl, lk, k3, lcd, hvs, by rw [hf]; exact beq_self_eq_true _, lcc, ?_⟩, of_decide_eq_true h3, of_decide_eq_true h4, of_decide_eq_true h5, of_decide_eq_true h6, of_decide_eq_true h7, sup, top⟩, hC, of_decide_eq_true h8, of_decide_eq_true h9, ?_⟩
            · exact ⟨fun env => plainOf (.Call (.Name "super" q0) [] [] q1) env, fun env => initCall rfl hl⟩
            · exact .all fun us hl => match us, hl with | [_, _], _ => rfl
          · cases k4
        · cases k4
      · cases k2
    · cases h2
  · cases h2
end K41
set_option maxHeartbeats 0
namespace K41
open PySem PySem.Spec PyProof.Rows L2
/-! ### the defs, the facts -/
def dd (i : Nat) (x : Str) : He.DefD := ⟨(x, none), x, x, defArgs (top i), defBody (top i), defScope (top i), [], []⟩
def fn0 : List He.DefD := [dd 9 "is_name", dd 14 "is_number", dd 15 "is_part", dd 21 "is_whole", dd 22 "is_ascending", dd 23 "place_in", dd 24 "is_row_of", dd 25 "is_code", dd 26 "is_body", dd 27 "is_knot", dd 28 "length_of", dd 29 "asks"]
def fn1 : List He.DefD := [dd 30 "fits", dd 31 "is_web", dd 32 "check_web", dd 33 "check_knot", dd 34 "leads_of", dd 36 "roads_of", dd 37 "road_of", dd 39 "onward", dd 40 "reached", dd 41 "turned", dd 42 "greatest", dd 43 "check_cut"]
def fn2 : List He.DefD := [dd 44 "cut", dd 45 "roads_apart", dd 47 "_law_begun", dd 48 "_law_mixed", dd 49 "_law_take", dd 50 "_law_pick", dd 51 "_law_shuffled", dd 52 "_law_is_whole", dd 53 "_law_error", dd 54 "_law_lot", dd 55 "_law_place", dd 56 "_law_plain_row"]
def fn3 : List He.DefD := [dd 57 "_law_led_row", dd 58 "_law_last_row", dd 59 "_law_some_row", dd 60 "_law_repicked", dd 61 "_law_skeleton", dd 62 "_law_patterns", dd 63 "_law_home", dd 64 "_law_copied", dd 65 "_law_labels", dd 66 "_law_lengths", dd 67 "_law_spoilt", dd 68 "_law_rooted"]
def fn4 : List He.DefD := [dd 69 "_law_chain", dd 70 "_law_web", dd 71 "_law_leads", dd 72 "_law_reach", dd 73 "_law_fresh", dd 74 "_law_kept", dd 75 "_law_once", dd 76 "_law_is_ascending", dd 77 "_law_is_way", dd 78 "_law_choices", dd 79 "_law_in_front", dd 80 "_law_are_apart"]
def fn5 : List He.DefD := [dd 81 "law"]
def fnL : List He.DefD := fn0 ++ (fn1 ++ (fn2 ++ (fn3 ++ (fn4 ++ (fn5)))))
def faA : List He.Fa := [.free "abs", .free "all", .free "bool", .free "enumerate", .free "int", .free "isinstance", .free "len", .free "list", .free "min", .free "range", .free "set", .free "sorted", .free "str", .free "tuple", .free "zip", .free "super"]
def faB : List He.Fa := [.str "LETTERS" lettersS, .int "MOST_KNOTS" 200, .glo "KEPT", .glo "LASTS", .glo "FORMS", .glo "PLACES", .glo "ENDS", .glo "ASKED", .glo "LinkError", .glo "NotKept", .glo "Rooted", .exm "NotKept" "LinkError" true, .exm "Rooted" "LinkError" true]
def fg0 : List He.Fa := [.glo "is_name", .glo "is_number", .glo "is_part", .glo "is_whole", .glo "is_ascending", .glo "place_in", .glo "is_row_of", .glo "is_code", .glo "is_body", .glo "is_knot", .glo "length_of", .glo "asks"]
def fg1 : List He.Fa := [.glo "fits", .glo "is_web", .glo "check_web", .glo "check_knot", .glo "leads_of", .glo "roads_of", .glo "road_of", .glo "onward", .glo "reached", .glo "turned", .glo "greatest", .glo "check_cut"]
def fg2 : List He.Fa := [.glo "cut", .glo "roads_apart", .glo "_law_begun", .glo "_law_mixed", .glo "_law_take", .glo "_law_pick", .glo "_law_shuffled", .glo "_law_is_whole", .glo "_law_error", .glo "_law_lot", .glo "_law_place", .glo "_law_plain_row"]
def fg3 : List He.Fa := [.glo "_law_led_row", .glo "_law_last_row", .glo "_law_some_row", .glo "_law_repicked", .glo "_law_skeleton", .glo "_law_patterns", .glo "_law_home", .glo "_law_copied", .glo "_law_labels", .glo "_law_lengths", .glo "_law_spoilt", .glo "_law_rooted"]
def fg4 : List He.Fa := [.glo "_law_chain", .glo "_law_web", .glo "_law_leads", .glo "_law_reach", .glo "_law_fresh", .glo "_law_kept", .glo "_law_once", .glo "_law_is_ascending", .glo "_law_is_way", .glo "_law_choices", .glo "_law_in_front", .glo "_law_are_apart"]
def fg5 : List He.Fa := [.glo "law"]
def faL : List He.Fa := faA ++ (faB ++ (fg0 ++ (fg1 ++ (fg2 ++ (fg3 ++ (fg4 ++ (fg5)))))))
def tsL : List He.Tab := [(fun K => He.ga K "FORMS", formsL.map (·.1)), (fun K => He.ga K "PLACES", placesL.map (·.1)), (fun K => He.ga K "ENDS", endsL.map (·.1)), (fun K => He.ga K "ASKED", ["load", "item", "store", "fill", "pick"])]
def fileS : Str := PySem.Challenge.pw_onebase_k41_whole_fewest_knots_and_most.main.file
/-- what ASKED tells of a word -/
def askF (K : PySem.W.Frag) (z : Str) : Option V := match PySem.W.nsIn K (He.ga K "ASKED") z with
  | some (some (.ref b)) => some (.ref b)
  | _ => none
def askB (K : PySem.W.Frag) : Bool := kvB K (He.ga K "ASKED") askWords (askF K) && askWords.all fun z => match askF K z, askedL z with
  | none, none => true
  | some (.ref b), some xs => ktB K b xs
  | _, _ => false
def tellB (K : PySem.W.Frag) : Bool := ktB K (He.ga K "KEPT") keptL && (ktB K (He.ga K "LASTS") lastsL && (kvB K (He.ga K "FORMS") words (fun z => (formOf z).map V.str) && (kvB K (He.ga K "PLACES") words (fun z => (placeOf z).map V.int) &&
  (kvB K (He.ga K "ENDS") signs4 (fun z => (endOf z).map V.int) && (askB K && (ecB K (He.ga K "NotKept") "NotKept.__init__" fileS && (ecB K (He.ga K "Rooted") "Rooted.__init__" fileS && (xisB K (He.ga K "NotKept") && (xisB K (He.ga K "Rooted") &&
  (decide (PySem.W.kitOne K (.ref (He.ga K "NotKept")) (.ref (He.ga K "NotKept")) = some true) && decide (PySem.W.kitOne K (.ref (He.ga K "Rooted")) (.ref (He.ga K "Rooted")) = some true)))))))))))
/-- the __init__ of a class of the top -/
def iniDef (i : Nat) : Stmt := match top i with
  | .ClassDef _ _ _ (s :: _) _ _ _ _ _ _ _ => s
  | s => s
def iniL : List InitW := [initV "NotKept.__init__" (defArgs (iniDef 4)) (defBody (iniDef 4)), initV "Rooted.__init__" (defArgs (iniDef 5)) (defBody (iniDef 5))]
/-! ### the Hook -/
abbrev lawD : He.Defn := ("law", none)
def seenK (g : Addr → Option Obj) : PySem.W.Frag := He.frT g (He.asD g 4 ++ [cStatics])
abbrev AlK : Type := He.AlT × Bool × List InitW
def obsK (g : Addr → Option Obj) : AlK := (He.obsT faL fnL tsL (seenK g), tellB (seenK g) && He.tabsB g [lawD] (seenK g), [initW (seenK g) (fIn (seenK g) (He.ga (seenK g) "NotKept")), initW (seenK g) (fIn (seenK g) (He.ga (seenK g) "Rooted"))])
def valK (w : World) : AlK := (He.valT fnL tsL w, true, iniL)
structure SaysK (w : World) (h : Heap) (K : PySem.W.Frag) : Prop where
  t : He.SaysT faL fnL tsL w K
  more : tellB K = true
  ini : [initW K (fIn K (He.ga K "NotKept")), initW K (fIn K (He.ga K "Rooted"))] = iniL
  hd : PySem.W.codeHdIn K (He.cT K lawD).1 (He.cT K lawD).2 = true
  out : K.lookup (He.cT K lawD).2 = none
  empty : h.get? (He.cT K lawD).2 = some { cls := .none, data := .fields #[] }
theorem saysK_of {w : World} {h : Heap} (e : obsK h.get? = valK w) : SaysK w h (seenK h.get?) := by
  have e1 : He.obsT faL fnL tsL (seenK h.get?) = He.valT fnL tsL w := congrArg (fun z : AlK => z.1) e
  have e2 : (tellB (seenK h.get?) && He.tabsB h.get? [lawD] (seenK h.get?)) = true := congrArg (fun z : AlK => z.2.1) e
  have e3 : [initW (seenK h.get?) (fIn (seenK h.get?) (He.ga (seenK h.get?) "NotKept")), initW (seenK h.get?) (fIn (seenK h.get?) (He.ga (seenK h.get?) "Rooted"))] = iniL := congrArg (fun z : AlK => z.2.2) e
  obtain ⟨h1, h2⟩ := and2 e2
  obtain ⟨h3, h4⟩ := and2 (List.all_eq_true.mp h2 lawD List.mem_cons_self)
  cases q : h.get? (He.cT (seenK h.get?) lawD).2 with
  | none =>
    rw [q] at h4
    cases h4
  | some o =>
    rw [q] at h4
    have z : He.emptyTab o = true := h4
    exact ⟨e1, h1, e3, h3, He.frT_none q z, by rw [q, He.emptyTab_eq z]⟩
def hookK : PySem.W.Hook where
  α := AlK
  obs := fun s => obsK s.heap.get?
  val := fun w => valK w
  says := fun w h => ∃ K : PySem.W.Frag, K.In h ∧ SaysK w h K
  of := fun _ _ e => ⟨_, He.frT_in, saysK_of e⟩
  keeps := fun _ _ _ ⟨K, hK, c⟩ k => ⟨K, PySem.W.Frag.In.keeps hK k, ⟨c.t, c.more, c.ini, c.hd, c.out, k _ _ c.empty⟩⟩
def obK (s : PySem.W.SharedT) : AlK := obsK (HandSHeadRun.getT s)
theorem obK_eq (s : PySem.W.SharedT) : obK s = hookK.obs s.abs := by
  have e : HandSHeadRun.getT s = s.abs.heap.get? := funext (HandSHeadRun.getT_eq s)
  unfold obK
  rw [e]
  rfl
/-! ### the run -/
abbrev R : PySem.W.OpenRow := PySem.W.OpenLaw.row PySem.Challenge.rw_onebase_k41_whole_fewest_knots_and_most
abbrev qv : Program := PySem.W.view R.prog [81]
def nm0 : List Str := ["LinkError", "BadKnot", "BadWeb", "NotKept", "Rooted", "KEPT", "LETTERS", "is_name", "ENDS", "FORMS", "LASTS", "is_number"]
def nm1 : List Str := ["is_part", "PLACES", "READ", "ASKED", "MOST_KNOTS", "is_whole", "is_ascending", "place_in", "is_row_of", "is_code", "is_body", "is_knot"]
def nm2 : List Str := ["length_of", "asks", "fits", "is_web", "check_web", "check_knot", "leads_of", "roads_of", "road_of", "onward", "reached", "turned"]
def nm3 : List Str := ["greatest", "check_cut", "cut", "roads_apart", "_law_begun", "_law_mixed", "_law_take", "_law_pick", "_law_shuffled", "_law_is_whole", "_law_error", "_law_lot"]
def nm4 : List Str := ["_law_place", "_law_plain_row", "_law_led_row", "_law_last_row", "_law_some_row", "_law_repicked", "_law_skeleton", "_law_patterns", "_law_home", "_law_copied", "_law_labels", "_law_lengths"]
def nm5 : List Str := ["_law_spoilt", "_law_rooted", "_law_chain", "_law_web", "_law_leads", "_law_reach", "_law_fresh", "_law_kept", "_law_once", "_law_is_ascending", "_law_is_way", "_law_choices"]
def nm6 : List Str := ["_law_in_front", "_law_are_apart"]
def names : List Str := nm0 ++ (nm1 ++ (nm2 ++ (nm3 ++ (nm4 ++ (nm5 ++ (nm6))))))
end K41
set_option maxHeartbeats 0
namespace K41
open PySem PySem.Spec PyProof.Rows L2
theorem runF (w : World) : HandSHeadRun.RunEq R qv hookK obK 6000 names (w.withFollow "special-get-raises" false) := fun os => by kernel_rfl
theorem runT (w : World) : HandSHeadRun.RunEq R qv hookK obK 6000 names (w.withFollow "special-get-raises" true) := fun os => by kernel_rfl
theorem run (w : World) : HandSHeadRun.RunEq R qv hookK obK 6000 names w := PySem.W.byRow2 "special-get-raises" (P := fun w => HandSHeadRun.RunEq R qv hookK obK 6000 names w) runF runT w
end K41
/-! Plain law: flows in the split graph of a web. Core Lean alone. -/
set_option maxHeartbeats 1000000
namespace FM
/-- a pair of places -/
abbrev PP := Int × Int
/-- knots below n, roots, leads -/
structure Gr where
  n : Nat
  roots : List Nat
  ld : Nat → List Nat
structure Gr.Ok (G : Gr) : Prop where
  rn : ∀ r ∈ G.roots, r < G.n
  nd : G.roots.Nodup
  ln : ∀ k l, l ∈ G.ld k → l < G.n
/-- places: fr k in front of k, bh k behind it -/
def fr (k : Nat) : Int := 2 * (k : Int)
def bh (k : Nat) : Int := 2 * (k : Int) + 1
theorem fr_inj {k l : Nat} (h : fr k = fr l) : k = l := by unfold fr at h; omega
theorem bh_inj {k l : Nat} (h : bh k = bh l) : k = l := by unfold bh at h; omega
theorem fr_bh {k l : Nat} (h : fr k = bh l) : False := by unfold fr bh at h; omega
theorem fr_no {k : Nat} (h : fr k = -1) : False := by unfold fr at h; omega
theorem bh_no {k : Nat} (h : bh k = -1) : False := by unfold bh at h; omega
theorem fr_succ (k : Nat) : fr k + 1 = bh k := rfl
theorem fr_even (k : Nat) : ¬ (fr k % 2 = 1) := by unfold fr; omega
theorem bh_odd (k : Nat) : bh k % 2 = 1 := by unfold bh; omega
theorem bh_half (k : Nat) : (bh k / 2).toNat = k := by unfold bh; omega
/-- the arcs of the network to t -/
inductive Arc (G : Gr) (t : Nat) : Int → Int → Prop
  | root {r : Nat} (h : r ∈ G.roots) : Arc G t (-1) (fr r)
  | thru {k : Nat} (h : k ≠ t) (hn : k < G.n) : Arc G t (fr k) (bh k)
  | lead {k l : Nat} (h : l ∈ G.ld k) : Arc G t (bh k) (fr l)
/-- a knot that has a road on which no knot is of W -/
inductive Ra (G : Gr) (W : Nat → Prop) : Nat → Prop
  | root {r : Nat} (h : r ∈ G.roots) (w : ¬ W r) : Ra G W r
  | lead {k l : Nat} (hk : Ra G W k) (h : l ∈ G.ld k) (w : ¬ W l) : Ra G W l
abbrev Kept (G : Gr) (k : Nat) : Prop := Ra G (fun _ => False) k
theorem Ra.mono {G : Gr} {W W' : Nat → Prop} (h : ∀ k, W' k → W k) {k : Nat} (r : Ra G W k) : Ra G W' k := by
  induction r with
  | root h1 w => exact .root h1 fun z => w (h _ z)
  | lead _ h1 w ih => exact .lead ih h1 fun z => w (h _ z)
theorem Ra.kept {G : Gr} {W : Nat → Prop} {k : Nat} (r : Ra G W k) : Kept G k := r.mono fun _ z => z.elim
theorem Ra.lt {G : Gr} (ok : G.Ok) {W : Nat → Prop} {k : Nat} (r : Ra G W k) : k < G.n := by
  cases r with
  | root h1 _ => exact ok.rn _ h1
  | lead _ h1 _ => exact ok.ln _ _ h1
theorem Ra.not {G : Gr} {W : Nat → Prop} {k : Nat} (r : Ra G W k) : ¬ W k := by
  cases r with
  | root _ w => exact w
  | lead _ _ w => exact w
/-- a place of a kept knot -/
def KP (G : Gr) (v : Int) : Prop := v = -1 ∨ ∃ k, Kept G k ∧ (v = fr k ∨ v = bh k)

/-! ### counting -/
def inc (u : List PP) (v : Int) : Nat := u.countP fun p => p.2 == v
def out (u : List PP) (v : Int) : Nat := u.countP fun p => p.1 == v
def ex (u : List PP) (v : Int) : Int := (inc u v : Int) - (out u v : Int)
def ind (b : Bool) : Int := if b then 1 else 0
theorem ex_nil (v : Int) : ex [] v = 0 := rfl
theorem ex_cons (p : PP) (u : List PP) (v : Int) : ex (p :: u) v = ex u v + ind (p.2 == v) - ind (p.1 == v) := by
  unfold ex inc out ind
  rw [List.countP_cons, List.countP_cons]
  split <;> split <;> simp_all <;> omega
theorem ex_append (u w : List PP) (v : Int) : ex (u ++ w) v = ex u v + ex w v := by
  unfold ex inc out
  rw [List.countP_append, List.countP_append]
  omega
theorem ex_erase {u : List PP} {p : PP} (h : p ∈ u) (v : Int) : ex (u.erase p) v = ex u v - ind (p.2 == v) + ind (p.1 == v) := by
  induction u with
  | nil => cases h
  | cons q u ih =>
    by_cases e : q = p
    · subst e
      rw [List.erase_cons_head, ex_cons]
      omega
    · have h' : p ∈ u := by
        rcases List.mem_cons.mp h with z | z
        · exact absurd z.symm e
        · exact z
      rw [List.erase_cons_tail (by simpa using e), ex_cons, ex_cons, ih h']
      omega
/-- a pair is turned: taken back, or used -/
def flip (u : List PP) (a b : Int) : List PP := if (b, a) ∈ u then u.erase (b, a) else u ++ [(a, b)]
theorem ex_flip (u : List PP) (a b v : Int) : ex (flip u a b) v = ex u v + ind (b == v) - ind (a == v) := by
  unfold flip
  split
  · rename_i h
    rw [ex_erase h]
    show ex u v - ind (a == v) + ind (b == v) = _
    omega
  · rw [ex_append, ex_cons, ex_nil]
    show ex u v + (0 + ind (b == v) - ind (a == v)) = _
    omega
/-- the way back from a place to -1 is turned -/
def turnM (came : Int → Int) : Nat → List PP → Int → List PP
  | 0, u, _ => u
  | n + 1, u, p => if p = -1 then u else turnM came n (flip u (came p) p) (came p)

/-! ### the steps that a flow may be led on -/
def onw (G : Gr) (t : Nat) (u : List PP) (a : Int) : List Int :=
  if a = -1 then G.roots.map fr
  else if a % 2 = 1 then ((u.filter fun p => p.2 == a && p.1 != -1).map (·.1)) ++ (G.ld (a / 2).toNat).map fr
  else if a = fr t ∨ (a, a + 1) ∈ u then (u.filter fun p => p.2 == a && p.1 != -1).map (·.1)
  else ((u.filter fun p => p.2 == a && p.1 != -1).map (·.1)) ++ [a + 1]
theorem mem_back {u : List PP} {a b : Int} : b ∈ (u.filter fun p => p.2 == a && p.1 != -1).map (·.1) ↔ (b, a) ∈ u ∧ b ≠ -1 := by
  simp only [List.mem_map, List.mem_filter, Bool.and_eq_true, beq_iff_eq, bne_iff_ne]
  constructor
  · rintro ⟨p, ⟨h1, h2, h3⟩, rfl⟩
    exact ⟨by rw [← h2]; exact h1, h3⟩
  · rintro ⟨h1, h2⟩
    exact ⟨(b, a), ⟨h1, rfl, h2⟩, rfl⟩
/-- a step: onward along an arc, or back along a used one -/
def Step (G : Gr) (t : Nat) (u : List PP) (a b : Int) : Prop := (Arc G t a b ∧ (∀ k : Nat, a = fr k → (a, b) ∉ u)) ∨ (a ≠ -1 ∧ b ≠ -1 ∧ (b, a) ∈ u)
/-- a place that there is -/
def Pl (G : Gr) (a : Int) : Prop := a = -1 ∨ ∃ k, k < G.n ∧ (a = fr k ∨ a = bh k)
theorem arc_src {G : Gr} {t : Nat} {b : Int} (h : Arc G t (-1) b) : ∃ r ∈ G.roots, b = fr r := by
  generalize e : (-1 : Int) = a at h
  cases h with
  | root hr => exact ⟨_, hr, rfl⟩
  | thru _ _ => exact (fr_no e.symm).elim
  | lead _ => exact (bh_no e.symm).elim
theorem arc_fr {G : Gr} {t k : Nat} {b : Int} (h : Arc G t (fr k) b) : k ≠ t ∧ k < G.n ∧ b = bh k := by
  generalize e : fr k = a at h
  cases h with
  | root _ => exact (fr_no e).elim
  | @thru k' h hn =>
    have := fr_inj e
    subst this
    exact ⟨h, hn, rfl⟩
  | lead _ => exact (fr_bh e).elim
theorem arc_bh {G : Gr} {t k : Nat} {b : Int} (h : Arc G t (bh k) b) : ∃ l ∈ G.ld k, b = fr l := by
  generalize e : bh k = a at h
  cases h with
  | root _ => exact (bh_no e).elim
  | thru _ _ => exact (fr_bh e.symm).elim
  | @lead k' l h =>
    have := bh_inj e
    subst this
    exact ⟨l, h, rfl⟩
theorem arc_to_bh {G : Gr} {t k : Nat} {a : Int} (h : Arc G t a (bh k)) : k ≠ t ∧ a = fr k := by
  generalize e : bh k = b at h
  cases h with
  | root _ => exact (fr_bh e.symm).elim
  | @thru k' h hn =>
    have := bh_inj e
    subst this
    exact ⟨h, rfl⟩
  | lead _ => exact (fr_bh e.symm).elim
theorem arc_to {G : Gr} {t : Nat} {a b : Int} (h : Arc G t a b) : b ≠ -1 := by
  cases h with
  | root _ => exact fun z => fr_no z
  | thru _ _ => exact fun z => bh_no z
  | lead _ => exact fun z => fr_no z
theorem onw_iff {G : Gr} {t : Nat} {u : List PP} {a b : Int} (ha : Pl G a) : b ∈ onw G t u a ↔ Step G t u a b := by
  unfold onw Step
  by_cases h1 : a = -1
  · rw [if_pos h1]
    subst h1
    constructor
    · intro h
      obtain ⟨r, hr, rfl⟩ := List.mem_map.mp h
      exact .inl ⟨.root hr, fun k e => (fr_no e.symm).elim⟩
    · rintro (⟨h, _⟩ | ⟨h, _⟩)
      · obtain ⟨r, hr, rfl⟩ := arc_src h
        exact List.mem_map.mpr ⟨_, hr, rfl⟩
      · exact absurd rfl h
  · rw [if_neg h1]
    obtain ⟨k, hk, e | e⟩ : ∃ k, k < G.n ∧ (a = fr k ∨ a = bh k) := by
      rcases ha with z | z
      · exact absurd z h1
      · exact z
    · subst e
      rw [if_neg (fr_even k)]
      split
      · rename_i h
        rw [mem_back]
        constructor
        · rintro ⟨h2, h3⟩
          exact .inr ⟨h1, h3, h2⟩
        · rintro (⟨h2, h3⟩ | ⟨_, h3, h2⟩)
          · obtain ⟨h4, _, rfl⟩ := arc_fr h2
            rcases h with h | h
            · exact absurd (fr_inj h) h4
            · exact absurd h (h3 k rfl)
          · exact ⟨h2, h3⟩
      · rename_i h
        rw [List.mem_append, mem_back, List.mem_singleton]
        constructor
        · rintro (⟨h2, h3⟩ | rfl)
          · exact .inr ⟨h1, h3, h2⟩
          · exact .inl ⟨.thru (fun e => h (.inl (by rw [e]))) hk, fun k' _ h2 => h (.inr h2)⟩
        · rintro (⟨h2, h3⟩ | ⟨_, h3, h2⟩)
          · exact .inr (arc_fr h2).2.2
          · exact .inl ⟨h2, h3⟩
    · subst e
      rw [if_pos (bh_odd k), bh_half k, List.mem_append, mem_back]
      constructor
      · rintro (⟨h2, h3⟩ | h)
        · exact .inr ⟨h1, h3, h2⟩
        · obtain ⟨l, hl, rfl⟩ := List.mem_map.mp h
          exact .inl ⟨.lead hl, fun k' e => (fr_bh e.symm).elim⟩
      · rintro (⟨h2, _⟩ | ⟨_, h3, h2⟩)
        · obtain ⟨l, hl, rfl⟩ := arc_bh h2
          exact .inr (List.mem_map.mpr ⟨l, hl, rfl⟩)
        · exact .inl ⟨h2, h3⟩
end FM
set_option maxHeartbeats 1000000
namespace FM
/-! ### a flow -/
structure Flow (G : Gr) (t : Nat) (u : List PP) (f : Nat) : Prop where
  nd : u.Nodup
  arc : ∀ p ∈ u, Arc G t p.1 p.2
  kp : ∀ p ∈ u, KP G p.1 ∧ KP G p.2
  cons : ∀ v, v ≠ -1 → v ≠ fr t → ex u v = 0
  src : ex u (-1) = -(f : Int)
  snk : ex u (fr t) = f
theorem Flow.nil (G : Gr) (t : Nat) : Flow G t [] 0 := ⟨List.nodup_nil, fun _ h => (nomatch h), fun _ h => (nomatch h), fun _ _ _ => rfl, rfl, rfl⟩
theorem count_one {α : Type} {q : α → Bool} {z : α} : ∀ {u : List α}, u.Nodup → (∀ p ∈ u, q p = true → p = z) → u.countP q ≤ 1
  | [], _, _ => Nat.zero_le _
  | p :: u, nd, h => by
    rw [List.countP_cons]
    have ndu := (List.nodup_cons.mp nd)
    have ih := count_one ndu.2 fun x hx => h x (List.mem_cons_of_mem _ hx)
    by_cases e : q p = true
    · rw [if_pos e]
      have ep := h p List.mem_cons_self e
      have z0 : u.countP q = 0 := List.countP_eq_zero.mpr fun x hx hq => ndu.1 (by rw [ep, ← h x (List.mem_cons_of_mem _ hx) hq]; exact hx)
      omega
    · rw [if_neg e]
      omega
theorem count_uniq {α : Type} {q : α → Bool} : ∀ {u : List α}, u.countP q ≤ 1 → ∀ {x y : α}, x ∈ u → y ∈ u → q x = true → q y = true → x = y
  | [], _, _, _, hx, _, _, _ => nomatch hx
  | p :: u, h, x, y, hx, hy, qx, qy => by
    rw [List.countP_cons] at h
    have pos : ∀ {w : α}, w ∈ u → q w = true → 1 ≤ u.countP q := fun hw hq => List.countP_pos_iff.mpr ⟨_, hw, hq⟩
    rcases List.mem_cons.mp hx with ex | mx
    · rcases List.mem_cons.mp hy with ey | my
      · rw [ex, ey]
      · rw [← ex, if_pos qx] at h
        have := pos my qy
        omega
    · rcases List.mem_cons.mp hy with ey | my
      · rw [← ey, if_pos qy] at h
        have := pos mx qx
        omega
      · exact count_uniq (by omega) mx my qx qy
section
variable {G : Gr} {t : Nat} {u : List PP} {f : Nat}
theorem Flow.outFr (F : Flow G t u f) (k : Nat) : out u (fr k) ≤ 1 :=
  count_one (z := (fr k, bh k)) F.nd fun p hp hq => by
    have e : p.1 = fr k := by simpa using hq
    have a := F.arc p hp
    rw [e] at a
    obtain ⟨_, _, e2⟩ := arc_fr a
    exact Prod.ext e e2
theorem Flow.inBh (F : Flow G t u f) (k : Nat) : inc u (bh k) ≤ 1 :=
  count_one (z := (fr k, bh k)) F.nd fun p hp hq => by
    have e : p.2 = bh k := by simpa using hq
    have a := F.arc p hp
    rw [e] at a
    obtain ⟨_, e2⟩ := arc_to_bh a
    exact Prod.ext e2 e
theorem Flow.evenFr (F : Flow G t u f) {k : Nat} (h : k ≠ t) : inc u (fr k) = out u (fr k) := by
  have e := F.cons (fr k) (fun z => fr_no z) (fun z => h (fr_inj z))
  unfold ex at e
  omega
theorem Flow.evenBh (F : Flow G t u f) (k : Nat) : inc u (bh k) = out u (bh k) := by
  have e := F.cons (bh k) (fun z => bh_no z) (fun z => fr_bh z.symm)
  unfold ex at e
  omega
theorem inc_pos {a b : Int} (h : (a, b) ∈ u) : 1 ≤ inc u b := List.countP_pos_iff.mpr ⟨_, h, by simp⟩
theorem out_pos {a b : Int} (h : (a, b) ∈ u) : 1 ≤ out u a := List.countP_pos_iff.mpr ⟨_, h, by simp⟩
theorem of_inc {b : Int} (h : 1 ≤ inc u b) : ∃ a, (a, b) ∈ u := by
  obtain ⟨p, hp, e⟩ := List.countP_pos_iff.mp h
  obtain ⟨a, c⟩ := p
  obtain rfl : c = b := by simpa using e
  exact ⟨a, hp⟩
theorem of_out {a : Int} (h : 1 ≤ out u a) : ∃ b, (a, b) ∈ u := by
  obtain ⟨p, hp, e⟩ := List.countP_pos_iff.mp h
  obtain ⟨c, b⟩ := p
  obtain rfl : c = a := by simpa using e
  exact ⟨b, hp⟩
theorem Flow.inU (F : Flow G t u f) {k : Nat} (h : k ≠ t) {a a' : Int} (h1 : (a, fr k) ∈ u) (h2 : (a', fr k) ∈ u) : a = a' := by
  have le : inc u (fr k) ≤ 1 := by rw [F.evenFr h]; exact F.outFr k
  exact congrArg Prod.fst (count_uniq le h1 h2 (by simp) (by simp))
theorem Flow.outU (F : Flow G t u f) {k : Nat} {b b' : Int} (h1 : (bh k, b) ∈ u) (h2 : (bh k, b') ∈ u) : b = b' := by
  have le : out u (bh k) ≤ 1 := by rw [← F.evenBh k]; exact F.inBh k
  exact congrArg Prod.snd (count_uniq le h1 h2 (by simp) (by simp))
theorem Flow.thruIn (F : Flow G t u f) {k : Nat} (h : k ≠ t) {a : Int} (h1 : (a, fr k) ∈ u) : (fr k, bh k) ∈ u := by
  have p := inc_pos h1
  rw [F.evenFr h] at p
  obtain ⟨b, hb⟩ := of_out p
  obtain ⟨_, _, rfl⟩ := arc_fr (F.arc _ hb)
  exact hb
theorem Flow.thruOut (F : Flow G t u f) {k : Nat} {b : Int} (h1 : (bh k, b) ∈ u) : (fr k, bh k) ∈ u := by
  have p := out_pos h1
  rw [← F.evenBh k] at p
  obtain ⟨a, ha⟩ := of_inc p
  obtain ⟨_, rfl⟩ := arc_to_bh (F.arc _ ha)
  exact ha
theorem Flow.outThru (F : Flow G t u f) {k : Nat} (h1 : (fr k, bh k) ∈ u) : ∃ l ∈ G.ld k, (bh k, fr l) ∈ u := by
  have p := inc_pos h1
  rw [F.evenBh k] at p
  obtain ⟨b, hb⟩ := of_out p
  obtain ⟨l, hl, rfl⟩ := arc_bh (F.arc _ hb)
  exact ⟨l, hl, hb⟩
/-! ### a way of steps to t -/
structure Way (G : Gr) (t : Nat) (u : List PP) (p : Nat → Int) (m : Nat) : Prop where
  p0 : p 0 = -1
  pm : p m = fr t
  st : ∀ i, i < m → Step G t u (p i) (p (i + 1))
  inj : ∀ i j, i ≤ m → j ≤ m → p i = p j → i = j
theorem Way.kp (W : Way G t u p m) (F : Flow G t u f) : ∀ i, i ≤ m → KP G (p i) := by
  intro i
  induction i with
  | zero =>
    intro _
    exact .inl W.p0
  | succ i ih =>
    intro hi
    have k := ih (by omega)
    rcases W.st i (by omega) with ⟨a, _⟩ | ⟨_, _, h⟩
    · generalize e1 : p i = x at a k
      generalize e2 : p (i + 1) = y at a
      cases a with
      | root h => exact .inr ⟨_, .root h (fun z => z), .inl rfl⟩
      | thru _ _ =>
        rcases k with k | ⟨k, hk, k' | k'⟩
        · exact (fr_no k).elim
        · rw [fr_inj k']
          exact .inr ⟨k, hk, .inr rfl⟩
        · exact (fr_bh k').elim
      | lead hl =>
        rcases k with k | ⟨k, hk, k' | k'⟩
        · exact (bh_no k).elim
        · exact (fr_bh k'.symm).elim
        · rw [bh_inj k'] at hl
          exact .inr ⟨_, .lead hk hl (fun z => z), .inl rfl⟩
    · exact (F.kp _ h).1
/-- a step of the way that is no step back isn't used yet -/
theorem Way.new (W : Way G t u p m) (F : Flow G t u f) (ht : t ∉ G.roots) {i : Nat} (hi : i < m) (nb : (p (i + 1), p i) ∉ u) : (p i, p (i + 1)) ∉ u := by
  intro used
  have nx : ∀ j, j < m → ∀ k, p j = fr k → (fr k, bh k) ∈ u → k ≠ t → (p (j + 1), fr k) ∈ u ∧ p (j + 1) ≠ -1 := by
    intro j hj k e hk kt
    have s := W.st j hj
    rw [e] at s
    rcases s with ⟨a, q⟩ | ⟨_, h2, h3⟩
    · obtain ⟨_, _, e2⟩ := arc_fr a
      have := q k rfl
      rw [e2] at this
      exact absurd hk this
    · exact ⟨h3, h2⟩
  rcases W.st i hi with ⟨a, q⟩ | ⟨_, _, h⟩
  · generalize e1 : p i = x at a used q
    generalize e2 : p (i + 1) = y at a used q
    cases a with
    | @root r h =>
      have rt : r ≠ t := fun z => ht (by rw [← z]; exact h)
      have i1 : i + 1 < m := by
        refine Nat.lt_of_le_of_ne hi fun z => rt ?_
        have := W.pm
        rw [← z, e2] at this
        exact fr_inj this
      obtain ⟨h2, h3⟩ := nx (i + 1) i1 r e2 (F.thruIn rt used) rt
      exact h3 (F.inU rt h2 used)
    | @thru k h _ => exact q k rfl used
    | @lead k l h =>
      by_cases lt : l = t
      · subst lt
        have im : i + 1 = m := W.inj (i + 1) m hi (Nat.le_refl _) (by rw [e2, W.pm])
        have i0 : i ≠ 0 := fun z => by
          rw [z, W.p0] at e1
          exact bh_no e1.symm
        obtain ⟨j, rfl⟩ : ∃ j, i = j + 1 := ⟨i - 1, by omega⟩
        have s := W.st j (by omega)
        rw [e1] at s
        rcases s with ⟨a, q2⟩ | ⟨_, h2, h3⟩
        · obtain ⟨_, e3⟩ := arc_to_bh a
          have := q2 k e3
          rw [e3] at this
          exact this (F.thruOut used)
        · have e4 := F.outU h3 used
          have := W.inj j m (by omega) (Nat.le_refl _) (by rw [e4, W.pm])
          omega
      · have i1 : i + 1 < m := by
          refine Nat.lt_of_le_of_ne hi fun z => lt ?_
          have := W.pm
          rw [← z, e2] at this
          exact fr_inj this
        obtain ⟨h2, h3⟩ := nx (i + 1) i1 l e2 (F.thruIn lt used) lt
        have e4 := F.inU lt h2 used
        have := W.inj (i + 1 + 1) i (by omega) (by omega) (by rw [e4, e1])
        omega
  · exact nb h
end
/-! ### turning a way -/
def flips (p : Nat → Int) : Nat → List PP → List PP
  | 0, u => u
  | k + 1, u => flips p k (flip u (p k) (p (k + 1)))
theorem ex_flips (p : Nat → Int) : ∀ (k : Nat) (u : List PP) (v : Int), ex (flips p k u) v = ex u v + ind (p k == v) - ind (p 0 == v)
  | 0, u, v => by show ex u v = _; omega
  | k + 1, u, v => by
    show ex (flips p k _) v = _
    rw [ex_flips p k, ex_flip]
    omega
theorem flips_ok {G : Gr} {t : Nat} {u : List PP} {f : Nat} {p : Nat → Int} {m : Nat} (W : Way G t u p m) (F : Flow G t u f) (ht : t ∉ G.roots) :
    ∀ (k : Nat) (w : List PP), k ≤ m → w.Nodup → (∀ q ∈ w, Arc G t q.1 q.2) → (∀ q ∈ w, KP G q.1 ∧ KP G q.2) → (∀ i, i < k → ((p (i + 1), p i) ∈ w ↔ (p (i + 1), p i) ∈ u) ∧ ((p i, p (i + 1)) ∈ w ↔ (p i, p (i + 1)) ∈ u)) →
      (flips p k w).Nodup ∧ (∀ q ∈ flips p k w, Arc G t q.1 q.2) ∧ ∀ q ∈ flips p k w, KP G q.1 ∧ KP G q.2
  | 0, w, _, h1, h2, h3, _ => ⟨h1, h2, h3⟩
  | k + 1, w, hk, h1, h2, h3, h4 => by
    obtain ⟨b1, b2⟩ := h4 k (by omega)
    have same : ∀ i, i < k → ((p (i + 1), p i) ∈ flip w (p k) (p (k + 1)) ↔ (p (i + 1), p i) ∈ w) ∧ ((p i, p (i + 1)) ∈ flip w (p k) (p (k + 1)) ↔ (p i, p (i + 1)) ∈ w) := by
      intro i hi
      have d1 : (p (i + 1), p i) ≠ (p (k + 1), p k) := fun e => by
        have := W.inj i k (by omega) (by omega) (congrArg Prod.snd e)
        omega
      have d2 : (p i, p (i + 1)) ≠ (p (k + 1), p k) := fun e => by
        have := W.inj i (k + 1) (by omega) (by omega) (congrArg Prod.fst e)
        omega
      have d3 : (p (i + 1), p i) ≠ (p k, p (k + 1)) := fun e => by
        have := W.inj i (k + 1) (by omega) (by omega) (congrArg Prod.snd e)
        omega
      have d4 : (p i, p (i + 1)) ≠ (p k, p (k + 1)) := fun e => by
        have := W.inj i k (by omega) (by omega) (congrArg Prod.fst e)
        omega
      unfold flip
      split
      · rw [h1.mem_erase_iff, h1.mem_erase_iff]
        exact ⟨⟨fun z => z.2, fun z => ⟨d1, z⟩⟩, ⟨fun z => z.2, fun z => ⟨d2, z⟩⟩⟩
      · simp only [List.mem_append, List.mem_singleton]
        exact ⟨⟨fun z => z.elim id fun z => absurd z d3, .inl⟩, ⟨fun z => z.elim id fun z => absurd z d4, .inl⟩⟩
    refine flips_ok W F ht k _ (by omega) ?_ ?_ ?_ fun i hi => ?_
    · unfold flip
      split
      · exact h1.erase _
      · rename_i nb
        refine List.nodup_append.mpr ⟨h1, by simp, fun a ha b hb => ?_⟩
        rw [List.mem_singleton.mp hb]
        intro e
        subst e
        exact W.new F ht (by omega) (fun z => nb (b1.mpr z)) (b2.mp ha)
    · unfold flip
      split
      · exact fun q hq => h2 q (List.mem_of_mem_erase hq)
      · rename_i nb
        intro q hq
        rcases List.mem_append.mp hq with hq | hq
        · exact h2 q hq
        · rw [List.mem_singleton.mp hq]
          rcases W.st k (by omega) with ⟨a, _⟩ | ⟨_, _, h⟩
          · exact a
          · exact absurd (b1.mpr h) nb
    · unfold flip
      split
      · exact fun q hq => h3 q (List.mem_of_mem_erase hq)
      · intro q hq
        rcases List.mem_append.mp hq with hq | hq
        · exact h3 q hq
        · rw [List.mem_singleton.mp hq]
          exact ⟨W.kp F k (by omega), W.kp F (k + 1) (by omega)⟩
    · obtain ⟨s1, s2⟩ := same i hi
      obtain ⟨t1, t2⟩ := h4 i (by omega)
      exact ⟨s1.trans t1, s2.trans t2⟩
theorem Flow.more {G : Gr} {t : Nat} {u : List PP} {f : Nat} {p : Nat → Int} {m : Nat} (F : Flow G t u f) (W : Way G t u p m) (ht : t ∉ G.roots) : Flow G t (flips p m u) (f + 1) := by
  obtain ⟨h1, h2, h3⟩ := flips_ok W F ht m u (Nat.le_refl _) F.nd F.arc F.kp fun i hi => ⟨Iff.rfl, Iff.rfl⟩
  have ind0 : ∀ {a b : Int}, a ≠ b → ind (a == b) = 0 := fun h => by simp [ind, h]
  have ind1 : ∀ {a : Int}, ind (a == a) = 1 := by simp [ind]
  refine ⟨h1, h2, h3, fun v n1 n2 => ?_, ?_, ?_⟩
  · rw [ex_flips, W.p0, W.pm, F.cons v n1 n2, ind0 (Ne.symm n1), ind0 (Ne.symm n2)]
    omega
  · rw [ex_flips, W.p0, W.pm, F.src, ind1, ind0 (fun z => fr_no z)]
    omega
  · rw [ex_flips, W.p0, W.pm, F.snk, ind1, ind0 (fun z => fr_no z.symm)]
    omega
/-- turning by a table is turning the way -/
theorem turn_flips {p : Nat → Int} {came : Int → Int} {m : Nat} (h0 : p 0 = -1) (hc : ∀ i, i < m → came (p (i + 1)) = p i) (hn : ∀ i, i < m → p (i + 1) ≠ -1) :
    ∀ (k : Nat) (n : Nat) (u : List PP), k ≤ m → k ≤ n → turnM came n u (p k) = flips p k u
  | 0, 0, u, _, _ => rfl
  | 0, n + 1, u, _, _ => by
    show (if p 0 = -1 then u else _) = u
    rw [if_pos h0]
  | k + 1, 0, u, _, h => by omega
  | k + 1, n + 1, u, hk, hn' => by
    show (if p (k + 1) = -1 then u else _) = _
    rw [if_neg (hn k (by omega)), hc k (by omega)]
    exact turn_flips h0 hc hn k n _ (by omega) (by omega)
end FM
set_option maxHeartbeats 1000000
namespace FM
/-! ### lists without doubles -/
theorem len_le {α : Type} [DecidableEq α] : ∀ {l l' : List α}, l.Nodup → (∀ x ∈ l, x ∈ l') → l.length ≤ l'.length
  | [], _, _, _ => Nat.zero_le _
  | x :: l, l', nd, h => by
    have hx := h x List.mem_cons_self
    obtain ⟨n1, n2⟩ := List.nodup_cons.mp nd
    have ih := len_le (l' := l'.erase x) n2 fun y hy => (List.mem_erase_of_ne (fun e => n1 (by rw [← e]; exact hy))).mpr (h y (List.mem_cons_of_mem _ hy))
    have e := List.length_erase_of_mem hx
    have p := List.length_pos_of_mem hx
    simp only [List.length_cons]
    omega
theorem len_full {α : Type} [DecidableEq α] {l l' : List α} (nd : l.Nodup) (h : ∀ x ∈ l, x ∈ l') (hl : l'.length ≤ l.length) : ∀ x ∈ l', x ∈ l := fun y hy => by
  by_cases e : y ∈ l
  · exact e
  · have := len_le (l := y :: l) (l' := l') (List.nodup_cons.mpr ⟨e, nd⟩) fun x hx => by
      rcases List.mem_cons.mp hx with z | z
      · rw [z]; exact hy
      · exact h x z
    simp only [List.length_cons] at this
    omega
theorem len_eq {α : Type} [DecidableEq α] {l l' : List α} (n1 : l.Nodup) (n2 : l'.Nodup) (h : ∀ x, x ∈ l ↔ x ∈ l') : l.length = l'.length :=
  Nat.le_antisymm (len_le n1 fun x hx => (h x).mp hx) (len_le n2 fun x hx => (h x).mpr hx)
theorem asc_eq : ∀ {l l' : List Nat}, l.Pairwise (· < ·) → l'.Pairwise (· < ·) → (∀ x, x ∈ l ↔ x ∈ l') → l = l'
  | [], [], _, _, _ => rfl
  | [], y :: l', _, _, h => by have := (h y).mpr List.mem_cons_self; cases this
  | x :: l, [], _, _, h => by have := (h x).mp List.mem_cons_self; cases this
  | x :: l, y :: l', h1, h2, h => by
    obtain ⟨a1, a2⟩ := List.pairwise_cons.mp h1
    obtain ⟨b1, b2⟩ := List.pairwise_cons.mp h2
    have e : x = y := by
      have m1 := (h x).mp List.mem_cons_self
      have m2 := (h y).mpr List.mem_cons_self
      rcases List.mem_cons.mp m1 with z | z
      · exact z
      · rcases List.mem_cons.mp m2 with z' | z'
        · exact z'.symm
        · have := b1 x z
          have := a1 y z'
          omega
    subst e
    rw [asc_eq a2 b2 fun z => ?_]
    have hz := h z
    simp only [List.mem_cons] at hz
    constructor
    · intro m
      rcases hz.mp (.inr m) with e | e
      · have := a1 z m; omega
      · exact e
    · intro m
      rcases hz.mpr (.inr m) with e | e
      · have := b1 z m; omega
      · exact e
theorem asc_nd {l : List Nat} (h : l.Pairwise (· < ·)) : l.Nodup := h.imp fun h => by omega

/-! ### what the search has come to -/
structure Came (G : Gr) (t : Nat) (u : List PP) (L : List PP) : Prop where
  head : L[0]? = some (-1, -1)
  nd : (L.map (·.1)).Nodup
  prev : ∀ i q a, L[i + 1]? = some (q, a) → ∃ j, j ≤ i ∧ ∃ a', L[j]? = some (a, a') ∧ Step G t u a q
/-- nothing more can be come to -/
def Closed (G : Gr) (t : Nat) (u : List PP) (L : List PP) : Prop := ∀ q ∈ L.map (·.1), ∀ b, Step G t u q b → b ∈ L.map (·.1)
section
variable {G : Gr} {t : Nat} {u L : List PP} {f : Nat}
theorem Came.way (C : Came G t u L) : ∀ (i : Nat) (q a : Int), L[i]? = some (q, a) → ∃ (m : Nat) (p : Nat → Int) (ix : Nat → Nat), p 0 = -1 ∧ p m = q ∧ ix m = i ∧
    (∀ j, j < m → Step G t u (p j) (p (j + 1)) ∧ (p (j + 1), p j) ∈ L ∧ ix j < ix (j + 1)) ∧ ∀ j, j ≤ m → ∃ b, L[ix j]? = some (p j, b) := by
  intro i
  induction i using Nat.strongRecOn with
  | _ i ih =>
    intro q a h
    cases i with
    | zero =>
      rw [C.head] at h
      obtain ⟨rfl, rfl⟩ := Prod.mk.inj (Option.some.inj h)
      exact ⟨0, fun _ => -1, fun _ => 0, rfl, rfl, rfl, fun j hj => absurd hj (by omega), fun j hj => ⟨-1, C.head⟩⟩
    | succ i =>
      obtain ⟨j, hj, a', hja, hs⟩ := C.prev i q a h
      obtain ⟨m, p, ix, p0, pm, im, hst, hat⟩ := ih j (by omega) a a' hja
      refine ⟨m + 1, fun x => if x ≤ m then p x else q, fun x => if x ≤ m then ix x else i + 1, ?_, ?_, ?_, fun x hx => ?_, fun x hx => ?_⟩
      · show (if 0 ≤ m then p 0 else q) = -1
        rw [if_pos (by omega), p0]
      · show (if m + 1 ≤ m then _ else q) = q
        rw [if_neg (by omega)]
      · show (if m + 1 ≤ m then _ else i + 1) = i + 1
        rw [if_neg (by omega)]
      · show Step G t u (if x ≤ m then p x else q) (if x + 1 ≤ m then p (x + 1) else q) ∧ ((if x + 1 ≤ m then p (x + 1) else q), (if x ≤ m then p x else q)) ∈ L ∧ (if x ≤ m then ix x else i + 1) < (if x + 1 ≤ m then ix (x + 1) else i + 1)
        rw [if_pos (show x ≤ m by omega), if_pos (show x ≤ m by omega)]
        by_cases e : x + 1 ≤ m
        · rw [if_pos e, if_pos e]
          exact hst x (by omega)
        · rw [if_neg e, if_neg e]
          obtain rfl : x = m := by omega
          rw [pm, im]
          exact ⟨hs, List.mem_of_getElem? h, by omega⟩
      · show ∃ b, L[if x ≤ m then ix x else i + 1]? = some (if x ≤ m then p x else q, b)
        by_cases e : x ≤ m
        · rw [if_pos e, if_pos e]
          exact hat x e
        · rw [if_neg e, if_neg e]
          exact ⟨a, h⟩
theorem nd_ix {α : Type} : ∀ {l : List α} {i j : Nat} {x : α}, l.Nodup → l[i]? = some x → l[j]? = some x → i = j := fun {l i j x} nd h1 h2 => by
  obtain ⟨b1, e1⟩ := List.getElem?_eq_some_iff.mp h1
  obtain ⟨b2, e2⟩ := List.getElem?_eq_some_iff.mp h2
  exact (List.getElem_inj nd).mp (e1.trans e2.symm)
theorem key_ix {i : Nat} {q a : Int} (h : L[i]? = some (q, a)) : (L.map (·.1))[i]? = some q := by
  rw [List.getElem?_map, h] <;> rfl
/-- where the search came to t there is a way -/
theorem Came.toWay (C : Came G t u L) (h : fr t ∈ L.map (·.1)) : ∃ m p, Way G t u p m ∧ ∀ j, j < m → (p (j + 1), p j) ∈ L := by
  obtain ⟨⟨q, a⟩, hq, e⟩ := List.mem_map.mp h
  obtain ⟨i, hi⟩ := List.getElem?_of_mem hq
  obtain ⟨m, p, ix, p0, pm, im, hst, hat⟩ := C.way i q a hi
  have mono : ∀ j k, j < k → k ≤ m → ix j < ix k := by
    intro j k hjk
    induction k with
    | zero => omega
    | succ k ih =>
      intro hk
      have s := (hst k (by omega)).2.2
      by_cases e : j = k
      · rw [e]; exact s
      · have := ih (by omega) (by omega)
        omega
  refine ⟨m, p, ⟨p0, pm.trans e, fun j hj => (hst j hj).1, fun j k hj hk e => ?_⟩, fun j hj => (hst j hj).2.1⟩
  obtain ⟨b1, h1⟩ := hat j hj
  obtain ⟨b2, h2⟩ := hat k hk
  have k1 := key_ix h1
  have k2 := key_ix h2
  rw [e] at k1
  have z := nd_ix C.nd k1 k2
  rcases Nat.lt_trichotomy j k with w | w | w
  · have := mono j k w hk; omega
  · exact w
  · have := mono k j w hj; omega
/-- whatever holds of -1 and is kept by steps holds of all that was come to -/
theorem Came.all (C : Came G t u L) {T : Int → Prop} (h0 : T (-1)) (hs : ∀ a b, T a → Step G t u a b → T b) : ∀ q ∈ L.map (·.1), T q := by
  have key : ∀ (i : Nat) (q a : Int), L[i]? = some (q, a) → T q := by
    intro i
    induction i using Nat.strongRecOn with
    | _ i ih =>
      intro q a h
      cases i with
      | zero =>
        rw [C.head] at h
        obtain ⟨rfl, rfl⟩ := Prod.mk.inj (Option.some.inj h)
        exact h0
      | succ i =>
        obtain ⟨j, hj, a', hja, s⟩ := C.prev i q a h
        exact hs a q (ih j (by omega) a a' hja) s
  intro q hq
  obtain ⟨⟨q', a⟩, hm, rfl⟩ := List.mem_map.mp hq
  obtain ⟨i, hi⟩ := List.getElem?_of_mem hm
  exact key i q' a hi
theorem Flow.stepKP (F : Flow G t u f) {a b : Int} (ha : KP G a) (s : Step G t u a b) : KP G b := by
  rcases s with ⟨h, _⟩ | ⟨_, _, h⟩
  · cases h with
    | root h => exact .inr ⟨_, .root h (fun z => z), .inl rfl⟩
    | thru _ _ =>
      rcases ha with z | ⟨k, hk, z | z⟩
      · exact (fr_no z).elim
      · rw [fr_inj z]; exact .inr ⟨k, hk, .inr rfl⟩
      · exact (fr_bh z).elim
    | lead hl =>
      rcases ha with z | ⟨k, hk, z | z⟩
      · exact (bh_no z).elim
      · exact (fr_bh z.symm).elim
      · rw [bh_inj z] at hl
        exact .inr ⟨_, .lead hk hl (fun z => z), .inl rfl⟩
  · exact (F.kp _ h).1
theorem Came.kp (C : Came G t u L) (F : Flow G t u f) : ∀ q ∈ L.map (·.1), KP G q := C.all (.inl rfl) fun _ _ h s => F.stepKP h s
theorem KP.pl (ok : G.Ok) {v : Int} (h : KP G v) : Pl G v := h.elim .inl fun ⟨k, hk, e⟩ => .inr ⟨k, hk.lt ok, e⟩
end
/-! ### sums along a flow -/
def sm (g : Int → Int) (u : List PP) : Int := (u.map fun p => g p.2 - g p.1).sum
theorem sum_ind (g : Int → Int) (x : Int) : ∀ {V : List Int}, V.Nodup → x ∈ V → (V.map fun v => g v * ind (x == v)).sum = g x
  | [], _, h => nomatch h
  | y :: V, nd, h => by
    obtain ⟨n1, n2⟩ := List.nodup_cons.mp nd
    rw [List.map_cons, List.sum_cons]
    by_cases e : x = y
    · subst e
      have z : ∀ W : List Int, x ∉ W → (W.map fun v => g v * ind (x == v)).sum = 0 := by
        intro W
        induction W with
        | nil => intro _; rfl
        | cons w W ih =>
          intro hn
          have hw : x ≠ w := fun e => hn (by rw [e]; exact List.mem_cons_self)
          rw [List.map_cons, List.sum_cons, ih fun hm => hn (List.mem_cons_of_mem _ hm)]
          simp [ind, hw]
      rw [z V n1]
      simp [ind]
    · have hx : x ∈ V := by
        rcases List.mem_cons.mp h with z | z
        · exact absurd z e
        · exact z
      rw [sum_ind g x n2 hx]
      simp [ind, e]
theorem sum_add (a b : Int → Int) (V : List Int) : (V.map fun v => a v + b v).sum = (V.map a).sum + (V.map b).sum := by
  induction V with
  | nil => rfl
  | cons v V ih => simp only [List.map_cons, List.sum_cons, ih]; omega
theorem sum_sub (a b : Int → Int) (V : List Int) : (V.map fun v => a v - b v).sum = (V.map a).sum - (V.map b).sum := by
  induction V with
  | nil => rfl
  | cons v V ih => simp only [List.map_cons, List.sum_cons, ih]; omega
theorem sm_ex (g : Int → Int) {V : List Int} (nd : V.Nodup) : ∀ {u : List PP}, (∀ p ∈ u, p.1 ∈ V ∧ p.2 ∈ V) → sm g u = (V.map fun v => g v * ex u v).sum
  | [], _ => by
    have : (V.map fun v => g v * ex [] v) = V.map fun _ => (0 : Int) := List.map_congr_left fun v _ => by rw [ex_nil]; omega
    rw [this]
    have z : ∀ W : List Int, (W.map fun _ => (0 : Int)).sum = 0 := fun W => by
      induction W with
      | nil => rfl
      | cons w W ih => rw [List.map_cons, List.sum_cons, ih]; rfl
    rw [z]
    rfl
  | p :: u, h => by
    obtain ⟨h1, h2⟩ := h p List.mem_cons_self
    have ih := sm_ex g nd (u := u) fun q hq => h q (List.mem_cons_of_mem _ hq)
    have e : (V.map fun v => g v * ex (p :: u) v) = V.map fun v => (g v * ex u v + g v * ind (p.2 == v)) - g v * ind (p.1 == v) := List.map_congr_left fun v _ => by
      rw [ex_cons, Int.mul_sub, Int.mul_add]
    rw [e, sum_sub, sum_add, ← ih, sum_ind g _ nd h2, sum_ind g _ nd h1]
    show (g p.2 - g p.1) + sm g u = _
    omega
/-- all places below n -/
def allPl (n : Nat) : List Int := (List.range (2 * n + 1)).map fun (i : Nat) => (i : Int) - 1
theorem allPl_nd (n : Nat) : (allPl n).Nodup := by
  unfold allPl
  rw [List.nodup_iff_pairwise_ne, List.pairwise_map]
  exact (List.nodup_iff_pairwise_ne.mp List.nodup_range).imp fun h e => h (by omega)
theorem allPl_mem {G : Gr} {v : Int} (h : Pl G v) : v ∈ allPl G.n := by
  unfold allPl
  rw [List.mem_map]
  rcases h with z | ⟨k, hk, z | z⟩
  · exact ⟨0, List.mem_range.mpr (by omega), by rw [z]; rfl⟩
  · exact ⟨2 * k + 1, List.mem_range.mpr (by omega), by rw [z]; unfold fr; omega⟩
  · exact ⟨2 * k + 2, List.mem_range.mpr (by omega), by rw [z]; unfold bh; omega⟩
theorem Flow.sum {G : Gr} {t : Nat} {u : List PP} {f : Nat} (ok : G.Ok) (F : Flow G t u f) (ht : t < G.n) (g : Int → Int) : sm g u = f * (g (fr t) - g (-1)) := by
  have m1 : (-1 : Int) ∈ allPl G.n := allPl_mem (.inl rfl)
  have m2 : fr t ∈ allPl G.n := allPl_mem (.inr ⟨t, ht, .inl rfl⟩)
  rw [sm_ex g (allPl_nd G.n) fun p hp => ⟨allPl_mem ((F.kp p hp).1.pl ok), allPl_mem ((F.kp p hp).2.pl ok)⟩]
  have e : ((allPl G.n).map fun v => g v * ex u v) = (allPl G.n).map fun v => (f * g v) * ind (fr t == v) - (f * g v) * ind ((-1 : Int) == v) := List.map_congr_left fun v _ => by
    by_cases h1 : v = -1
    · subst h1
      have n : ¬ (fr t = -1) := fun z => fr_no z
      rw [F.src]
      simp [ind, n]
      rw [Int.mul_comm, Int.neg_mul]
    · by_cases h2 : v = fr t
      · subst h2
        have n : ¬ ((-1 : Int) = fr t) := fun z => fr_no z.symm
        rw [F.snk]
        simp [ind, n]
        rw [Int.mul_comm]
      · rw [F.cons v h1 h2]
        have n1 : ¬ ((-1 : Int) = v) := fun z => h1 z.symm
        have n2 : ¬ (fr t = v) := fun z => h2 z.symm
        simp [ind, n1, n2]
  rw [e, sum_sub, sum_ind (fun v => f * g v) _ (allPl_nd G.n) m2, sum_ind (fun v => f * g v) _ (allPl_nd G.n) m1, Int.mul_sub]
/-- the flow over a border: what leaves less what comes in -/
theorem sm_cross (T : Int → Bool) : ∀ u : List PP, sm (fun v => ind (T v)) u = (u.countP (fun p => !T p.1 && T p.2) : Int) - (u.countP (fun p => T p.1 && !T p.2) : Int)
  | [] => rfl
  | p :: u => by
    have ih := sm_cross T u
    have e : sm (fun v => ind (T v)) (p :: u) = (ind (T p.2) - ind (T p.1)) + sm (fun v => ind (T v)) u := by
      unfold sm
      rw [List.map_cons, List.sum_cons]
    rw [e, ih, List.countP_cons, List.countP_cons]
    cases T p.1 <;> cases T p.2 <;> simp [ind] <;> omega
theorem Flow.cross {G : Gr} {t : Nat} {u : List PP} {f : Nat} (ok : G.Ok) (F : Flow G t u f) (ht : t < G.n) (T : Int → Bool) (h1 : T (-1) = true) (h2 : T (fr t) = false) :
    u.countP (fun p => T p.1 && !T p.2) = f + u.countP (fun p => !T p.1 && T p.2) := by
  have a := F.sum ok ht fun v => ind (T v)
  rw [sm_cross, h1, h2] at a
  simp only [ind, Bool.false_eq_true, if_false, if_true] at a
  omega
end FM
set_option maxHeartbeats 1000000
namespace FM
/-! ### the cut that the search shows -/
/-- no further step leads to t -/
structure Done (G : Gr) (t : Nat) (u L : List PP) : Prop where
  came : Came G t u L
  closed : Closed G t u L
  not : fr t ∉ L.map (·.1)
/-- in front of a lot: a root, or led to by a knot that has a road free of it -/
def Front (G : Gr) (W : Nat → Prop) (k : Nat) : Prop := k ∈ G.roots ∨ ∃ j, Ra G W j ∧ k ∈ G.ld j
theorem Front.ra {G : Gr} {W : Nat → Prop} {k : Nat} (h : Front G W k) (w : ¬ W k) : Ra G W k := h.elim (fun h => .root h w) fun ⟨_, r, h⟩ => .lead r h w
theorem Ra.front {G : Gr} {W : Nat → Prop} {k : Nat} (h : Ra G W k) : Front G W k := by
  cases h with
  | root h _ => exact .inl h
  | lead r h _ => exact .inr ⟨_, r, h⟩
def cutL (n : Nat) (L : List PP) : List Nat := (List.range n).filter fun k => decide (fr k ∈ L.map (·.1)) && !decide (bh k ∈ L.map (·.1))
theorem mem_cut {n : Nat} {L : List PP} {k : Nat} : k ∈ cutL n L ↔ k < n ∧ fr k ∈ L.map (·.1) ∧ bh k ∉ L.map (·.1) := by
  unfold cutL
  simp only [List.mem_filter, List.mem_range, Bool.and_eq_true, decide_eq_true_eq, Bool.not_eq_true', decide_eq_false_iff_not]
theorem cut_asc (n : Nat) (L : List PP) : (cutL n L).Pairwise (· < ·) := List.Pairwise.sublist List.filter_sublist List.pairwise_lt_range
section
variable {G : Gr} {t : Nat} {u L : List PP} {f : Nat}
theorem Done.src (D : Done G t u L) : (-1 : Int) ∈ L.map (·.1) := List.mem_of_getElem? (key_ix D.came.head)
theorem Done.ra (ok : G.Ok) (D : Done G t u L) {k : Nat} (r : Ra G (· ∈ cutL G.n L) k) : fr k ∈ L.map (·.1) ∧ bh k ∈ L.map (·.1) := by
  have fin : ∀ {k : Nat}, k < G.n → fr k ∈ L.map (·.1) → ¬ k ∈ cutL G.n L → fr k ∈ L.map (·.1) ∧ bh k ∈ L.map (·.1) := fun {k} hk h1 h2 => by
    refine ⟨h1, ?_⟩
    by_cases h3 : bh k ∈ L.map (·.1)
    · exact h3
    · exact absurd (mem_cut.mpr ⟨hk, h1, h3⟩) h2
  induction r with
  | root h w => exact fin (ok.rn _ h) (D.closed _ D.src _ (.inl ⟨.root h, fun k e => (fr_no e.symm).elim⟩)) w
  | lead _ h w ih => exact fin (ok.ln _ _ h) (D.closed _ ih.2 _ (.inl ⟨.lead h, fun k e => (fr_bh e.symm).elim⟩)) w
theorem Done.front (ok : G.Ok) (D : Done G t u L) {k : Nat} (h : Front G (· ∈ cutL G.n L) k) : fr k ∈ L.map (·.1) := by
  rcases h with h | ⟨j, r, h⟩
  · exact D.closed _ D.src _ (.inl ⟨.root h, fun k e => (fr_no e.symm).elim⟩)
  · exact D.closed _ (D.ra ok r).2 _ (.inl ⟨.lead h, fun k e => (fr_bh e.symm).elim⟩)
theorem Done.cuts (ok : G.Ok) (D : Done G t u L) : ¬ Ra G (· ∈ cutL G.n L) t := fun r => D.not (D.ra ok r).1
theorem Done.tout (D : Done G t u L) : t ∉ cutL G.n L := fun h => D.not (mem_cut.mp h).2.1
theorem Done.kept (F : Flow G t u f) (D : Done G t u L) : ∀ k ∈ cutL G.n L, Kept G k := fun k h => by
  rcases D.came.kp F _ (mem_cut.mp h).2.1 with z | ⟨j, hj, z | z⟩
  · exact (fr_no z).elim
  · rw [fr_inj z]; exact hj
  · exact (fr_bh z).elim
/-- as many knots as the flow leads ways -/
theorem Done.size (ok : G.Ok) (F : Flow G t u f) (D : Done G t u L) (ht : t < G.n) : (cutL G.n L).length = f := by
  have c := F.cross ok ht (fun v => decide (v ∈ L.map (·.1))) (decide_eq_true D.src) (decide_eq_false D.not)
  have back : ∀ p ∈ u, p.2 ∈ L.map (·.1) → p.1 ∈ L.map (·.1) := fun p hp h2 => by
    by_cases e : p.1 = -1
    · rw [e]; exact D.src
    · exact D.closed _ h2 _ (.inr ⟨arc_to (F.arc p hp), e, hp⟩)
  have en : u.countP (fun p => !decide (p.1 ∈ L.map (·.1)) && decide (p.2 ∈ L.map (·.1))) = 0 := List.countP_eq_zero.mpr fun p hp h => by
    simp only [Bool.and_eq_true, Bool.not_eq_true', decide_eq_false_iff_not, decide_eq_true_eq] at h
    exact h.1 (back p hp h.2)
  rw [en, Nat.add_zero, List.countP_eq_length_filter] at c
  rw [← c, ← List.length_map (f := fun k => ((fr k, bh k) : PP))]
  refine len_eq ?_ (F.nd.sublist List.filter_sublist) fun p => ?_
  · rw [List.nodup_iff_pairwise_ne, List.pairwise_map]
    exact (cut_asc G.n L).imp fun h e => by
      have := fr_inj (congrArg Prod.fst e)
      omega
  · simp only [List.mem_map, List.mem_filter, Bool.and_eq_true, decide_eq_true_eq, Bool.not_eq_true', decide_eq_false_iff_not]
    constructor
    · rintro ⟨k, hk, rfl⟩
      obtain ⟨kn, h1, h2⟩ := mem_cut.mp hk
      refine ⟨?_, List.mem_map.mp h1, fun h => h2 (List.mem_map.mpr h)⟩
      by_cases e : (fr k, bh k) ∈ u
      · exact e
      · refine absurd (D.closed _ h1 _ (.inl ⟨.thru (fun z => D.not (by rw [← z]; exact h1)) kn, fun k' e' => ?_⟩)) h2
        exact e
    · rintro ⟨hp, h1, h2⟩
      replace h1 : p.1 ∈ L.map (·.1) := List.mem_map.mpr h1
      replace h2 : p.2 ∉ L.map (·.1) := fun h => h2 (List.mem_map.mp h)
      obtain ⟨a, b⟩ := p
      have ar := F.arc _ hp
      cases ar with
      | root h => exact absurd (D.closed _ h1 _ (.inl ⟨.root h, fun k e => (fr_no e.symm).elim⟩)) h2
      | @thru k h kn => exact ⟨k, mem_cut.mpr ⟨kn, h1, h2⟩, rfl⟩
      | lead h => exact absurd (D.closed _ h1 _ (.inl ⟨.lead h, fun k e => (fr_bh e.symm).elim⟩)) h2
/-! ### any other cut -/
/-- the places on this side of a lot -/
noncomputable def Tp (G : Gr) (W : Nat → Prop) (v : Int) : Bool := @decide (v = -1 ∨ (∃ k, v = fr k ∧ Front G W k) ∨ ∃ k, v = bh k ∧ Ra G W k) (Classical.propDecidable _)
theorem Tp_iff {W : Nat → Prop} {v : Int} : Tp G W v = true ↔ (v = -1 ∨ (∃ k, v = fr k ∧ Front G W k) ∨ ∃ k, v = bh k ∧ Ra G W k) := by
  unfold Tp
  exact @decide_eq_true_iff _ (Classical.propDecidable _)
theorem Tp_fr {W : Nat → Prop} {k : Nat} : Tp G W (fr k) = true ↔ Front G W k := by
  rw [Tp_iff]
  constructor
  · rintro (z | ⟨j, e, h⟩ | ⟨j, e, _⟩)
    · exact (fr_no z).elim
    · rw [fr_inj e]; exact h
    · exact (fr_bh e).elim
  · exact fun h => .inr (.inl ⟨k, rfl, h⟩)
theorem Tp_bh {W : Nat → Prop} {k : Nat} : Tp G W (bh k) = true ↔ Ra G W k := by
  rw [Tp_iff]
  constructor
  · rintro (z | ⟨j, e, _⟩ | ⟨j, e, h⟩)
    · exact (bh_no z).elim
    · exact (fr_bh e.symm).elim
    · rw [bh_inj e]; exact h
  · exact fun h => .inr (.inr ⟨k, rfl, h⟩)
theorem cross_iff (F : Flow G t u f) {W : Nat → Prop} {p : PP} (hp : p ∈ u) (h1 : Tp G W p.1 = true) (h2 : ¬ Tp G W p.2 = true) : ∃ k, W k ∧ Front G W k ∧ p = (fr k, bh k) := by
  obtain ⟨a, b⟩ := p
  have ar := F.arc _ hp
  cases ar with
  | root h => exact absurd (Tp_fr.mpr (.inl h)) h2
  | @thru k h kn =>
    have fk := Tp_fr.mp h1
    refine ⟨k, ?_, fk, rfl⟩
    by_cases w : W k
    · exact w
    · exact absurd (Tp_bh.mpr (fk.ra w)) h2
  | lead h => exact absurd (Tp_fr.mpr (.inr ⟨_, Tp_bh.mp h1, h⟩)) h2
theorem map_nd {C : List Nat} (nd : C.Nodup) : (C.map fun k => ((fr k, bh k) : PP)).Nodup := by
  rw [List.nodup_iff_pairwise_ne, List.pairwise_map]
  exact (List.nodup_iff_pairwise_ne.mp nd).imp fun h e => h (fr_inj (congrArg Prod.fst e))
/-- no cut is smaller than a flow -/
theorem Flow.le_cut (ok : G.Ok) (F : Flow G t u f) (ht : t < G.n) {C : List Nat} (hc : ¬ Ra G (· ∈ C) t) (tC : t ∉ C) : f ≤ C.length := by
  have c := F.cross ok ht (Tp G (· ∈ C)) (Tp_iff.mpr (.inl rfl)) (by
    cases e : Tp G (· ∈ C) (fr t) with
    | false => rfl
    | true => exact absurd ((Tp_fr.mp e).ra tC) hc)
  rw [List.countP_eq_length_filter] at c
  have := len_le (l := u.filter fun p => Tp G (· ∈ C) p.1 && !Tp G (· ∈ C) p.2) (l' := C.map fun k => ((fr k, bh k) : PP)) (F.nd.sublist List.filter_sublist) fun p hp => by
    obtain ⟨hp, h⟩ := List.mem_filter.mp hp
    simp only [Bool.and_eq_true, Bool.not_eq_true'] at h
    obtain ⟨k, hk, _, rfl⟩ := cross_iff F hp h.1 (by rw [h.2]; simp)
    exact List.mem_map.mpr ⟨k, hk, rfl⟩
  rw [List.length_map] at this
  omega
/-- what is true of a cut with as many knots as the flow leads ways -/
theorem Flow.tight (ok : G.Ok) (F : Flow G t u f) (ht : t < G.n) {C : List Nat} (hc : ¬ Ra G (· ∈ C) t) (tC : t ∉ C) (hf : C.length ≤ f) :
    (∀ p ∈ u, Tp G (· ∈ C) p.2 = true → Tp G (· ∈ C) p.1 = true) ∧ ∀ k ∈ C, (fr k, bh k) ∈ u ∧ Front G (· ∈ C) k := by
  have c := F.cross ok ht (Tp G (· ∈ C)) (Tp_iff.mpr (.inl rfl)) (by
    cases e : Tp G (· ∈ C) (fr t) with
    | false => rfl
    | true => exact absurd ((Tp_fr.mp e).ra tC) hc)
  have sub : ∀ p ∈ u.filter (fun p => Tp G (· ∈ C) p.1 && !Tp G (· ∈ C) p.2), p ∈ C.map fun k => ((fr k, bh k) : PP) := fun p hp => by
    obtain ⟨hp, h⟩ := List.mem_filter.mp hp
    simp only [Bool.and_eq_true, Bool.not_eq_true'] at h
    obtain ⟨k, hk, _, rfl⟩ := cross_iff F hp h.1 (by rw [h.2]; simp)
    exact List.mem_map.mpr ⟨k, hk, rfl⟩
  have le := len_le (F.nd.sublist List.filter_sublist) sub
  rw [List.length_map] at le
  rw [List.countP_eq_length_filter] at c
  refine ⟨fun p hp h2 => ?_, fun k hk => ?_⟩
  · cases e : Tp G (· ∈ C) p.1 with
    | true => rfl
    | false =>
      have : 1 ≤ u.countP (fun p => !Tp G (· ∈ C) p.1 && Tp G (· ∈ C) p.2) := List.countP_pos_iff.mpr ⟨p, hp, by rw [e, h2]; rfl⟩
      omega
  · have full := len_full (F.nd.sublist List.filter_sublist) sub (by rw [List.length_map]; omega) (fr k, bh k) (List.mem_map.mpr ⟨k, hk, rfl⟩)
    obtain ⟨h1, h2⟩ := List.mem_filter.mp full
    simp only [Bool.and_eq_true] at h2
    exact ⟨h1, Tp_fr.mp h2.1⟩
theorem Done.within (ok : G.Ok) (F : Flow G t u f) (D : Done G t u L) (ht : t < G.n) {C : List Nat} (hc : ¬ Ra G (· ∈ C) t) (tC : t ∉ C) (hf : C.length ≤ f) :
    ∀ v ∈ L.map (·.1), Tp G (· ∈ C) v = true := by
  obtain ⟨h1, h2⟩ := F.tight ok ht hc tC hf
  refine D.came.all (Tp_iff.mpr (.inl rfl)) fun a b ha s => ?_
  rcases s with ⟨ar, q⟩ | ⟨_, _, h⟩
  · cases ar with
    | root h => exact Tp_fr.mpr (.inl h)
    | @thru k h kn =>
      have fk := Tp_fr.mp ha
      refine Tp_bh.mpr (fk.ra fun w => q k rfl (h2 k w).1)
    | lead h => exact Tp_fr.mpr (.inr ⟨_, Tp_bh.mp ha, h⟩)
  · exact h1 _ h ha
/-- THE CUT NEAREST TO THE ROOTS: any other cut of so many knots has more in front -/
theorem Done.least (ok : G.Ok) (F : Flow G t u f) (D : Done G t u L) (ht : t < G.n) {C : List Nat} (asc : C.Pairwise (· < ·)) (hc : ¬ Ra G (· ∈ C) t) (tC : t ∉ C) (hf : C.length = (cutL G.n L).length) (ne : C ≠ cutL G.n L)
    {A B : List Nat} (nA : A.Nodup) (mA : ∀ k, k ∈ A ↔ Front G (· ∈ cutL G.n L) k) (mB : ∀ k, k ∈ B ↔ Front G (· ∈ C) k) : A.length < B.length := by
  have hf' : C.length ≤ f := by rw [hf, D.size ok F ht]; exact Nat.le_refl _
  have win := D.within ok F ht hc tC hf'
  have sub : ∀ k ∈ A, k ∈ B := fun k hk => (mB k).mpr (Tp_fr.mp (win _ (D.front ok ((mA k).mp hk))))
  have le := len_le nA sub
  refine Nat.lt_of_le_of_ne le fun e => ne ?_
  have full := len_full nA sub (by omega)
  have cs : ∀ k ∈ C, k ∈ cutL G.n L := fun k hk => by
    have fk := ((F.tight ok ht hc tC hf').2 k hk).2
    have fL := (mA k).mp (full k ((mB k).mpr fk))
    by_cases w : k ∈ cutL G.n L
    · exact w
    · exact absurd hk (Tp_bh.mp (win _ (D.ra ok (fL.ra w)).2)).not
  exact asc_eq asc (cut_asc _ _) fun k => ⟨cs k, len_full (asc_nd asc) cs (by omega) k⟩
end
/-! ### the roads of a flow -/
/-- k is the i-th knot of the way that begins at the root r -/
inductive Own (G : Gr) (t : Nat) (u : List PP) (r : Nat) : Nat → Nat → Prop
  | base (h : r ∈ G.roots) (hu : ((-1 : Int), fr r) ∈ u) : Own G t u r 0 r
  | step {i k l : Nat} (o : Own G t u r i k) (h1 : (fr k, bh k) ∈ u) (h2 : (bh k, fr l) ∈ u) : Own G t u r (i + 1) l
section
variable {G : Gr} {t : Nat} {u L : List PP} {f : Nat}
theorem Flow.thruNe (F : Flow G t u f) {k : Nat} (h : (fr k, bh k) ∈ u) : k ≠ t := (arc_fr (F.arc _ h)).1
theorem Own.uniq (F : Flow G t u f) {r i k : Nat} (o : Own G t u r i k) : ∀ {r' i' : Nat}, Own G t u r' i' k → k ≠ t → r = r' ∧ i = i' := by
  induction o with
  | base h hu =>
    intro r' i' o' kt
    cases o' with
    | base _ _ => exact ⟨rfl, rfl⟩
    | step _ _ h2 => exact (bh_no (F.inU kt h2 hu)).elim
  | step o h1 h2 ih =>
    intro r' i' o' kt
    cases o' with
    | base _ hu => exact (bh_no (F.inU kt h2 hu)).elim
    | step o2 h3 h4 =>
      have e := bh_inj (F.inU kt h2 h4)
      subst e
      obtain ⟨e1, e2⟩ := ih o2 (F.thruNe h3)
      exact ⟨e1, by rw [e2]⟩
theorem Own.det (F : Flow G t u f) {r i k : Nat} (o : Own G t u r i k) : ∀ {k' : Nat}, Own G t u r i k' → k = k' := by
  induction o with
  | base _ _ =>
    intro k' o'
    cases o' with
    | base _ _ => rfl
  | step o h1 h2 ih =>
    intro k' o'
    cases o' with
    | step o2 h3 h4 =>
      have e := ih o2
      subst e
      exact fr_inj (F.outU h2 h4)
theorem Own.lead (F : Flow G t u f) {r i a b : Nat} (o : Own G t u r i a) (o' : Own G t u r (i + 1) b) : b ∈ G.ld a := by
  cases o' with
  | step o2 h1 h2 =>
    have e := o.det F o2
    subst e
    obtain ⟨l, hl, e⟩ := arc_bh (F.arc _ h2)
    rw [fr_inj e]
    exact hl
theorem Own.kept (F : Flow G t u f) {r i k : Nat} (o : Own G t u r i k) : Kept G k := by
  induction o with
  | base h _ => exact .root h fun z => z
  | step o h1 h2 ih =>
    obtain ⟨l, hl, e⟩ := arc_bh (F.arc _ h2)
    rw [fr_inj e]
    exact .lead ih hl fun z => z
/-- so much of a road: its knots in order, none of them t -/
structure RoadPre (G : Gr) (t : Nat) (u : List PP) (r : Nat) (way : List Nat) : Prop where
  own : ∀ i k, way[i]? = some k → Own G t u r i k
  ne : ∀ k ∈ way, k ≠ t
theorem RoadPre.nd (F : Flow G t u f) {r : Nat} {way : List Nat} (R : RoadPre G t u r way) : way.Nodup := by
  rw [List.nodup_iff_pairwise_ne, List.pairwise_iff_getElem]
  intro i j hi hj hij e
  have o1 := R.own i _ (List.getElem?_eq_getElem hi)
  have o2 := R.own j _ (List.getElem?_eq_getElem hj)
  rw [← e] at o2
  have := (o1.uniq F o2 (R.ne _ (List.getElem_mem hi))).2
  omega
theorem RoadPre.len (ok : G.Ok) (F : Flow G t u f) {r : Nat} {way : List Nat} (R : RoadPre G t u r way) : way.length ≤ G.n := by
  have := len_le (l' := List.range G.n) (R.nd F) fun k hk => by
    obtain ⟨i, hi⟩ := List.getElem?_of_mem hk
    exact List.mem_range.mpr ((R.own i k hi).kept F |>.lt ok)
  rw [List.length_range] at this
  exact this
/-- one knot more -/
theorem RoadPre.snoc {r k : Nat} {way : List Nat} (R : RoadPre G t u r way) (o : Own G t u r way.length k) (h : k ≠ t) : RoadPre G t u r (way ++ [k]) := by
  refine ⟨fun i x hx => ?_, fun x hx => ?_⟩
  · by_cases e : i < way.length
    · rw [List.getElem?_append_left e] at hx
      exact R.own i x hx
    · rw [List.getElem?_append_right (by omega)] at hx
      have e1 : i - way.length = 0 := by
        cases q : i - way.length with
        | zero => rfl
        | succ m =>
          rw [q] at hx
          simp at hx
      rw [e1] at hx
      have e2 : k = x := by simpa using hx
      have e3 : i = way.length := by omega
      rw [← e2, e3]
      exact o
  · rcases List.mem_append.mp hx with z | z
    · exact R.ne x z
    · rw [List.mem_singleton.mp z]; exact h
theorem RoadPre.apart (F : Flow G t u f) {r r' : Nat} {way way' : List Nat} (R : RoadPre G t u r way) (R' : RoadPre G t u r' way') (h : r ≠ r') : ∀ k ∈ way, k ∉ way' := fun k hk hk' => by
  obtain ⟨i, hi⟩ := List.getElem?_of_mem hk
  obtain ⟨j, hj⟩ := List.getElem?_of_mem hk'
  exact h ((R.own i k hi).uniq F (R'.own j k hj) (R.ne k hk)).1
/-- as many roots have a way as the flow leads -/
theorem Flow.begun (ok : G.Ok) (F : Flow G t u f) : (G.roots.filter fun r => decide (((-1 : Int), fr r) ∈ u)).length = f := by
  have i0 : inc u (-1) = 0 := List.countP_eq_zero.mpr fun p hp h => arc_to (F.arc p hp) (by simpa using h)
  have s := F.src
  unfold ex at s
  rw [i0] at s
  have o : out u (-1) = f := by omega
  rw [← o]
  unfold out
  rw [List.countP_eq_length_filter, ← List.length_map (f := fun r => (((-1 : Int), fr r) : PP))]
  refine len_eq ?_ (F.nd.sublist List.filter_sublist) fun p => ?_
  · rw [List.nodup_iff_pairwise_ne, List.pairwise_map]
    exact (List.nodup_iff_pairwise_ne.mp (ok.nd.sublist List.filter_sublist)).imp fun h e => h (fr_inj (congrArg Prod.snd e))
  · simp only [List.mem_map, List.mem_filter, decide_eq_true_eq, beq_iff_eq]
    constructor
    · rintro ⟨r, ⟨_, h⟩, rfl⟩
      exact ⟨h, rfl⟩
    · rintro ⟨h, e⟩
      obtain ⟨a, b⟩ := p
      have e : a = -1 := e
      subst e
      obtain ⟨r, hr, e⟩ := arc_src (F.arc _ h)
      have e : b = fr r := e
      subst e
      exact ⟨r, ⟨hr, h⟩, rfl⟩
/-- a flow leads no more ways than there are roots -/
theorem Flow.le_roots (ok : G.Ok) (F : Flow G t u f) : f ≤ G.roots.length := by
  rw [← F.begun ok]
  exact List.length_filter_le _ _
end
end FM
set_option maxHeartbeats 4000000
namespace K41
open PySem PySem.Spec PyProof.Rows L2
section
variable {P : Program} {w : World} {K : PySem.W.Frag} {mg : Str → Option Value} {base : Heap} {f : Addr} {fd : FuncData}
theorem kept_flat : keptL.all flatV = true := by decide +kernel
def spName : Sp := fun vs H Q _ => ∃ x : V, vs = [x] ∧ ((∃ i, x = .int i) ∨ ∃ z, x = .str z ∧ isNm z = true) ∧ ∀ H', Same H H' → Q (.bl (isNmV x)) H'
theorem sc_is_name : FnScope ["thing", "letter"] ["thing"] (defScope (top 9)) := ⟨rfl, rfl, rfl, by decide +kernel, rfl, by decide +kernel, by decide +kernel⟩
theorem ok_is_name (F : FnP K "is_name" 9 f fd) (T : Txt w K mg) : FnOk P w K mg base CX0 1 f fd ["thing"] spName := by
  refine F.ok sc_is_name (fun vs H Q E h => by obtain ⟨x, rfl, _⟩ := h; rfl) (fun cdv A outer s H vs Q E hr h => ?_)
  have nd := sc_is_name.nd
  obtain ⟨a_KEPT, g_KEPT, k_KEPT⟩ := T.t_KEPT
  obtain ⟨x, rfl, hx, q⟩ := h
  refine ⟨_, PSs.nox 
    (pss_cons (ps_if (PW.pt (pw_or (pt_not (pt_val (pe_callB (x_isi K) (by rfl) T.b_isinstance (by decide +kernel) (pa_cons (pv 0) (pa_cons (pe_bltn (v := .ty "str") (by rfl) T.b_str (by decide +kernel) rfl) pa_nil))))) (pw_or (pt_cmpR op_lt (pe_callB (x_len K) (by rfl) T.b_len PySem.boot_len (pa_cons (pv 0) pa_nil)) pe_int (nomark _)) (pw_or (pt_cmpR op_gt (pe_callB (x_len K) (by rfl) T.b_len PySem.boot_len (pa_cons (pv 0) pa_nil)) pe_int (nomark _)) (pw_or1 (pt_cmpR (x_in K) (pv 0) (C8.pe_gc (v := .ref a_KEPT) (by rfl) ⟨_, g_KEPT, rfl⟩) (by rfl))))))) 
      (pss_one (ps_ret pe_bl)) pss_nil)
    (pss_one (ps_ret (pe_callB (cr_all rfl) (by rfl) T.b_all (by decide +kernel) (pa_cons (pe_lc (own := [("letter", 1)]) rfl nd (pi_str (pv 0)) (blkOk_by (own := [("letter", 1)]) (N := ["thing", "letter"]) (sc := defScope (top 9)) (by decide +kernel)) (fun _ _ _ _ _ => (pg_name (i := 1) nd rfl (Or.inl rfl))) (fun _ _ _ _ _ => pts_nil) (fun _ _ _ _ _ => (pe_cmpR op_in_sign (pv 1) (C8.pe_gc (by rfl) T.g_LETTERS) (by rfl)))) pa_nil))))), ?_⟩
  rcases hx with ⟨i, rfl⟩ | ⟨z, rfl, hz⟩
  · exact ⟨_, rfl, _, _, _, _, false, rfl, .ty _, tyI i, kit_ty (by decide +kernel), _, rfl, iteT (iteT (q _ (Same.refl H)))⟩
  · have hz' := hz
    unfold isNm at hz
    simp only [Bool.and_eq_true, decide_eq_true_eq, Bool.not_eq_true'] at hz
    obtain ⟨⟨⟨h1, h2⟩, h3⟩, h4⟩ := hz
    have lz : z.length = z.cps.size := rfl
    refine ⟨_, rfl, _, _, _, _, true, rfl, .ty _, tyS z, kit_ty (by decide +kernel), _, rfl, iteF ?_⟩
    refine ⟨_, rfl, _, _, rfl, ⟨Nat.le_of_lt (small1000 (by omega)), rfl⟩, _, _, rfl, rfl, _, rfl, ?_⟩
    rw [decide_eq_false (show ¬ ((z.length : Int) < 1) by omega)]
    refine iteF ?_
    refine ⟨_, rfl, _, _, rfl, ⟨Nat.le_of_lt (small1000 (by omega)), rfl⟩, _, _, rfl, rfl, _, rfl, ?_⟩
    rw [decide_eq_false (show ¬ ((8 : Int) < z.length) by omega)]
    refine iteF ?_
    refine ⟨_, rfl, _, _, rfl, .inr (k_KEPT.seq _), rfl, kept_flat, ?_⟩
    refine ⟨_, rfl, ?_⟩
    refine (show ∀ {A B : Prop}, B → (if inV (.str z) keptL = true then A else B) by rw [h3]; exact iteF) ?_
    refine ⟨_, rfl, _, rfl, fun D nD => ?_⟩
    let acc : Nat → List V := fun i => (z.cps.toList.take i).map fun c => V.bl (decide (c ∈ lettersS.cps.toList))
    refine lc_it walk_str (fun i H' => Acc H D acc i H') (Acc.start nD rfl) (fun _ _ _ _ => trivial) (fun i x H1 H2 hi p y => ?_) (fun H1 p => ?_)
    · obtain ⟨rfl, c, hc, rfl⟩ := y
      have hc' : z.cps.toList[i]? = some c := by simpa using hc
      refine ⟨rfl, _, rfl, _, _, rfl, rfl, Acc.put nD p (Same.refl _) (small1000 ?_) ?_⟩
      · simp only [acc, List.length_map, List.length_take]; omega
      · simp only [acc, take1 hc', List.map_append]; rfl
    · refine ⟨D, (z.cps.toList.take z.cps.size).map fun c => decide (c ∈ lettersS.cps.toList), rfl, .inl (.inl ?_), ?_⟩
      · rw [p.2]
        simp only [acc, List.map_map]
        rfl
      · have e : (List.map (fun c => decide (c ∈ lettersS.cps.toList)) (List.take z.cps.size z.cps.toList)).all id = isNmV (.str z) := by
          rw [show isNmV (.str z) = true from hz', List.all_map, List.take_of_length_le (by simp)]
          exact h4
        rw [e]
        exact q _ p.1
def spNumber : Sp := fun vs H Q _ => ∃ (i l e : Int), vs = [.int i, .int l, .int e] ∧ Q (.bl (decide (l ≤ i) && decide (i < e))) H
theorem sc_is_number : FnScope ["thing", "low", "end"] ["thing", "low", "end"] (defScope (top 14)) := ⟨rfl, rfl, rfl, by decide +kernel, rfl, by decide +kernel, by decide +kernel⟩
theorem ok_is_number (F : FnP K "is_number" 14 f fd) (T : Txt w K mg) : FnOk P w K mg base CX0 1 f fd ["thing", "low", "end"] spNumber := by
  refine F.ok sc_is_number (fun vs H Q E h => by obtain ⟨i, l, e, rfl, _⟩ := h; rfl) (fun cdv A outer s H vs Q E hr h => ?_)
  have nd := sc_is_number.nd
  obtain ⟨i, l, e, rfl, q⟩ := h
  refine ⟨_, PSs.nox 
    (pss_one (ps_ret (pe_and (pe_callB (x_isi K) (by rfl) T.b_isinstance (by decide +kernel) (pa_cons (pv 0) (pa_cons (pe_bltn (v := .ty "int") (by rfl) T.b_int (by decide +kernel) rfl) pa_nil))) (pe_and (pe_not (pe_callB (x_isi K) (by rfl) T.b_isinstance (by decide +kernel) (pa_cons (pv 0) (pa_cons (pe_bltn (v := .ty "bool") (by rfl) T.b_bool (by decide +kernel) rfl) pa_nil)))) (pe_one (pe_chain op_le op_lt (pv 1) (pv 0) (pv 2))))))), ?_⟩
  refine ⟨_, rfl, _, _, _, _, true, rfl, .ty _, tyI i, kit_ty (by decide +kernel), _, rfl, ⟨_, rfl, _, _, _, _, false, rfl, .ty _, tyI i, kit_ty (by decide +kernel), _, rfl, _, rfl, ?_⟩⟩
  refine ⟨_, rfl, _, rfl, _, _, rfl, rfl, _, rfl, ?_⟩
  by_cases c : l ≤ i
  · rw [decide_eq_true c] at q ⊢
    exact ⟨_, rfl, _, _, rfl, rfl, q⟩
  · rw [decide_eq_false c] at q ⊢
    exact q
/-- a part of a row: c its sign, m the number of rows -/
def PartOk (m : Nat) (c : Nat) (v : V) : Prop :=
  if c = 120 then (∃ i, v = .int i) ∨ ∃ z, v = .str z ∧ isNm z = true
  else if c = 110 then ∃ i, v = .int i ∧ 0 ≤ i ∧ i < (m : Int)
  else ∃ i e, v = .int i ∧ (⟨#[c]⟩ : Str) ∈ signs4 ∧ endOf ⟨#[c]⟩ = some e ∧ 0 ≤ i ∧ i < e
/-- is_part's answer -/
def partB (c : Nat) (v : V) : Bool := if c = 120 then isNmV v else true
def spPart : Sp := fun vs H Q _ => ∃ (c : Nat) (v : V) (m : Nat), vs = [.str ⟨#[c]⟩, v, .int m] ∧ PartOk m c v ∧ ∀ H', Same H H' → Q (.bl (partB c v)) H'
theorem sgn_eq {c d : Nat} : (V.str ⟨#[c]⟩ = V.str ⟨#[d]⟩) ↔ c = d := by
  constructor
  · intro h
    have h1 := V.str.inj h
    have h2 : (#[c] : Array Nat) = #[d] := congrArg Str.cps h1
    simpa using h2
  · rintro rfl
    rfl
theorem sgn_dec {c d : Nat} {z : Str} (h : z = ⟨#[d]⟩) : decide (V.str ⟨#[c]⟩ = V.str z) = decide (c = d) := by
  subst h
  exact decide_eq_decide.mpr sgn_eq
theorem sc_is_part : FnScope ["sign", "thing", "many"] ["sign", "thing", "many"] (defScope (top 15)) := ⟨rfl, rfl, rfl, by decide +kernel, rfl, by decide +kernel, by decide +kernel⟩
theorem ok_is_part (F : FnP K "is_part" 15 f fd) (T : Txt w K mg) (C_is_name : Cal P w K mg base CX0 1 "is_name" spName) (C_is_number : Cal P w K mg base CX0 1 "is_number" spNumber) : FnOk P w K mg base CX0 2 f fd ["sign", "thing", "many"] spPart := by
  refine F.ok sc_is_part (fun vs H Q E h => by obtain ⟨c, v, m, rfl, _⟩ := h; rfl) (fun cdv A outer s H vs Q E hr h => ?_)
  have nd := sc_is_part.nd
  obtain ⟨a_ENDS, g_ENDS, d_ENDS⟩ := T.t_ENDS
  obtain ⟨c, v, m, rfl, hp, q⟩ := h
  refine ⟨_, PSs.nox 
    (pss_cons (ps_if (pt_cmpR op_eq (pv 0) pe_str (nomark _)) 
      (pss_one (ps_ret (pe_fn C_is_name hr (by rfl) pass0 (pa_cons (pv 1) pa_nil)))) pss_nil)
    (pss_one (ps_ret (pe_fn C_is_number hr (by rfl) pass0 (pa_cons (pv 1) (pa_cons pe_int (pa_cons (pe_ifExp (pt_cmpR op_eq (pv 0) pe_str (nomark _)) (pv 2) (pe_ix (ix_kd d_ENDS) (C8.pe_gc (v := .ref a_ENDS) (by rfl) ⟨_, g_ENDS, rfl⟩) (pv 0) (fun _ _ => rfl))) pa_nil))))))), ?_⟩
  refine ⟨_, rfl, rfl, _, rfl, ?_⟩
  rw [sgn_dec (d := 120) (by rfl)]
  unfold PartOk at hp
  unfold partB at q
  by_cases hc : c = 120
  · rw [if_pos hc] at hp
    rw [decide_eq_true hc]
    rw [if_pos hc] at q
    exact ⟨_, rfl, v, rfl, hp, q⟩
  · rw [if_neg hc] at hp
    rw [decide_eq_false hc]
    rw [if_neg hc] at q
    refine ⟨_, rfl, ⟨_, rfl, rfl, _, rfl, ?_⟩⟩
    rw [sgn_dec (d := 110) (by rfl)]
    by_cases hn : c = 110
    · rw [if_pos hn] at hp
      rw [decide_eq_true hn]
      obtain ⟨i, rfl, h1, h2⟩ := hp
      refine ⟨_, rfl, i, 0, m, rfl, ?_⟩
      rw [decide_eq_true h1, decide_eq_true h2]
      exact q _ (Same.refl _)
    · rw [if_neg hn] at hp
      rw [decide_eq_false hn]
      obtain ⟨i, e, rfl, h0, h1, h2, h3⟩ := hp
      refine ⟨_, rfl, _, _, rfl, rfl, h0, by rw [h1]; rfl, ?_⟩
      refine ⟨i, 0, e, rfl, ?_⟩
      rw [decide_eq_true h2, decide_eq_true h3]
      exact q _ (Same.refl _)
end
end K41
set_option maxHeartbeats 4000000
namespace K41
open PySem PySem.Spec PyProof.Rows L2
/-! ### lists told item by item -/
def Each {α : Type} (R : V → α → Prop) (vs : List V) (as : List α) : Prop := vs.length = as.length ∧ ∀ (i : Nat) (v : V) (a : α), vs[i]? = some v → as[i]? = some a → R v a
section
variable {α : Type} {R R' : V → α → Prop} {vs ws : List V} {as bs : List α}
theorem Each.mono (h : ∀ v a, R v a → R' v a) (e : Each R vs as) : Each R' vs as := ⟨e.1, fun i v a h1 h2 => h v a (e.2 i v a h1 h2)⟩
theorem Each.get (e : Each R vs as) {i : Nat} {a : α} (h : as[i]? = some a) : ∃ v, vs[i]? = some v ∧ R v a := by
  obtain ⟨hi, _⟩ := List.getElem?_eq_some_iff.mp h
  have hv : i < vs.length := by rw [e.1]; exact hi
  exact ⟨vs[i], List.getElem?_eq_getElem hv, e.2 i _ _ (List.getElem?_eq_getElem hv) h⟩
theorem Each.back (e : Each R vs as) {i : Nat} {v : V} (h : vs[i]? = some v) : ∃ a, as[i]? = some a ∧ R v a := by
  obtain ⟨hi, _⟩ := List.getElem?_eq_some_iff.mp h
  have ha : i < as.length := by rw [← e.1]; exact hi
  exact ⟨as[i], List.getElem?_eq_getElem ha, e.2 i _ _ h (List.getElem?_eq_getElem ha)⟩
theorem Each.nil : Each R [] ([] : List α) := ⟨rfl, fun i v a h => by simp at h⟩
theorem Each.cons {v : V} {a : α} (r : R v a) (e : Each R vs as) : Each R (v :: vs) (a :: as) := by
  refine ⟨by simp [e.1], fun i => ?_⟩
  cases i with
  | zero =>
    intro x y h1 h2
    cases h1
    cases h2
    exact r
  | succ i => exact fun x y h1 h2 => e.2 i x y (by simpa using h1) (by simpa using h2)
theorem Each.tail {v : V} {a : α} (e : Each R (v :: vs) (a :: as)) : R v a ∧ Each R vs as := ⟨e.2 0 v a rfl rfl, by have := e.1; simpa using this, fun i x y h1 h2 => e.2 (i + 1) x y (by simpa using h1) (by simpa using h2)⟩
theorem Each.append : ∀ {vs : List V} {as : List α}, Each R vs as → Each R ws bs → Each R (vs ++ ws) (as ++ bs)
  | [], [], _, f => f
  | [], _ :: _, e, _ => absurd e.1 (by simp)
  | _ :: _, [], e, _ => absurd e.1 (by simp)
  | _ :: _, _ :: _, e, f => .cons e.tail.1 (e.tail.2.append f)
theorem Each.snoc {v : V} {a : α} (e : Each R vs as) (r : R v a) : Each R (vs ++ [v]) (as ++ [a]) := e.append (.cons r .nil)
theorem Each.take (e : Each R vs as) (n : Nat) : Each R (vs.take n) (as.take n) := by
  refine ⟨by simp [e.1], fun i v a h1 h2 => ?_⟩
  by_cases hi : i < n
  · rw [List.getElem?_take_of_lt hi] at h1 h2
    exact e.2 i v a h1 h2
  · rw [List.getElem?_eq_none (by simp; omega)] at h1
    cases h1
theorem Each.drop (e : Each R vs as) (n : Nat) : Each R (vs.drop n) (as.drop n) := by
  refine ⟨by simp [e.1], fun i v a h1 h2 => ?_⟩
  rw [List.getElem?_drop] at h1 h2
  exact e.2 _ v a h1 h2
theorem Each.of_map (f : α → V) (h : ∀ a ∈ as, R (f a) a) : Each R (as.map f) as := by
  refine ⟨by simp, fun i v a h1 h2 => ?_⟩
  rw [List.getElem?_map, h2] at h1
  cases h1
  exact h a (List.mem_of_getElem? h2)
end
/-! ### a web's parts -/
inductive Bd where
  | room (n : Int) | flat (xs : List V) | code (rows : List (List V))
structure Kn where
  num : Int
  nm : Str
  sort : Str
  body : Bd
structure Wb where
  roots : List Nat
  outs : List Nat
  kns : List Kn
def RowAt (H : Hp) (v : V) (r : List V) : Prop := ∃ q, v = .ref q ∧ H q = some (.tup r)
def BdAt (H : Hp) (v : V) : Bd → Prop
  | .room n => v = .int n
  | .flat xs => ∃ p, v = .ref p ∧ H p = some (.tup xs)
  | .code rows => ∃ p vs, v = .ref p ∧ H p = some (.tup vs) ∧ Each (RowAt H) vs rows
structure KnAt (H : Hp) (v : V) (k : Kn) : Prop where
  ex : ∃ a l b, v = .ref a ∧ H a = some (.tup [.str "knot", .ref l, .str k.sort, b]) ∧ H l = some (.tup [.int k.num, .str k.nm]) ∧ BdAt H b k.body
def nV (n : Nat) : V := .int (n : Nat)
structure WbAt (H : Hp) (v : V) (W : Wb) : Prop where
  ex : ∃ a r o k vs, v = .ref a ∧ H a = some (.tup [.str "web", .ref r, .ref o, .ref k]) ∧ H r = some (.tup (W.roots.map nV)) ∧ H o = some (.tup (W.outs.map nV)) ∧ H k = some (.tup vs) ∧ Each (KnAt H) vs W.kns
section
variable {H H' : Hp}
theorem RowAt.same (s : Same H H') {v : V} {r : List V} (h : RowAt H v r) : RowAt H' v r := let ⟨q, e, h⟩ := h; ⟨q, e, s _ _ h⟩
theorem BdAt.same (s : Same H H') {v : V} : ∀ {b : Bd}, BdAt H v b → BdAt H' v b
  | .room _, h => h
  | .flat _, ⟨p, e, h⟩ => ⟨p, e, s _ _ h⟩
  | .code _, ⟨p, vs, e, h, r⟩ => ⟨p, vs, e, s _ _ h, r.mono fun _ _ => RowAt.same s⟩
theorem KnAt.same (s : Same H H') {v : V} {k : Kn} (h : KnAt H v k) : KnAt H' v k := by
  obtain ⟨a, l, b, e, h1, h2, h3⟩ := h.ex
  exact ⟨a, l, b, e, s _ _ h1, s _ _ h2, h3.same s⟩
theorem WbAt.same (s : Same H H') {v : V} {W : Wb} (h : WbAt H v W) : WbAt H' v W := by
  obtain ⟨a, r, o, k, vs, e, h1, h2, h3, h4, h5⟩ := h.ex
  exact ⟨a, r, o, k, vs, e, s _ _ h1, s _ _ h2, s _ _ h3, s _ _ h4, h5.mono fun _ _ => KnAt.same s⟩
end
/-! ### what is_web asks of them -/
structure RowOk (m : Nat) (r : List V) : Prop where
  ex : ∃ z args sg, r = .str z :: args ∧ z ∈ words ∧ formOf z = some sg ∧ args.length = sg.cps.size ∧ ∀ (i c : Nat) (v : V), sg.cps[i]? = some c → args[i]? = some v → PartOk m c v
def wordV (r : List V) : V := r.headD .non
def lastWord (rows : List (List V)) : V := wordV (rows.getLastD [])
def CellOk (x : V) : Prop := ∃ i, x = .int i ∧ 0 ≤ i ∧ i ≤ 63
def ItemOk (x : V) : Prop := x = .non ∨ (∃ i, x = .int i) ∨ ∃ z, x = .str z ∧ isNm z = true
def BdOk (z : Str) : Bd → Prop
  | .room n => z = "room" ∧ 1 ≤ n ∧ n ≤ 64
  | .flat xs => (z = "table" ∧ 1 ≤ xs.length ∧ xs.length ≤ 16 ∧ ∀ x ∈ xs, ItemOk x) ∨ ((z = "data" ∨ z = "const") ∧ 1 ≤ xs.length ∧ xs.length ≤ 64 ∧ ∀ x ∈ xs, CellOk x)
  | .code rows => z = "code" ∧ 1 ≤ rows.length ∧ rows.length ≤ 40 ∧ (∀ r ∈ rows, RowOk rows.length r) ∧ inV (lastWord rows) lastsL = true
structure KnOk (k : Kn) : Prop where
  num : 0 ≤ k.num
  nm : isNm k.nm = true
  body : BdOk k.sort k.body
section
variable {P : Program} {w : World} {K : PySem.W.Frag} {mg : Str → Option Value} {base : Heap} {f : Addr} {fd : FuncData}
theorem cut1 (x : V) (xs : List V) : cutV (x :: xs) (some 1) none = xs := by
  unfold cutV
  rw [show HT.sIx (x :: xs).length 0 (some 1) = min 1 (x :: xs).length from HT.sIx_nat (x :: xs).length 0 1, HT.sIx_none]
  rw [show min 1 (x :: xs).length = 1 by rw [List.length_cons]; omega]
  show (List.take ((x :: xs).length - 1) xs) = xs
  rw [List.length_cons, Nat.add_sub_cancel]
  exact List.take_length
def spRowOf : Sp := fun vs H Q _ => ∃ (a : Addr) (r : List V) (m : Nat), vs = [.ref a, .int m] ∧ H a = some (.tup r) ∧ RowOk m r ∧ ∀ H', Same H H' → Q (.bl true) H'
theorem sc_is_row_of : FnScope ["thing", "many", "signs", "sign", "part"] ["thing", "many"] (defScope (top 24)) := ⟨rfl, rfl, rfl, by decide +kernel, rfl, by decide +kernel, by decide +kernel⟩
theorem ok_is_row_of (F : FnP K "is_row_of" 24 f fd) (T : Txt w K mg) (C_is_part : Cal P w K mg base CX0 2 "is_part" spPart) (C_is_whole : Cal P w K mg base CX0 1 "is_whole" spWhole) : FnOk P w K mg base CX0 3 f fd ["thing", "many"] spRowOf := by
  refine F.ok sc_is_row_of (fun vs H Q E h => by obtain ⟨a, r, m, rfl, _⟩ := h; rfl) (fun cdv A outer s H vs Q E hr h => ?_)
  have nd := sc_is_row_of.nd
  have hu0 := hu0_of hr
  obtain ⟨a_FORMS, g_FORMS, d_FORMS⟩ := T.t_FORMS
  obtain ⟨a, r, m, rfl, ha, ok, q⟩ := h
  obtain ⟨z0, args, sg, rfl, hz, hf, hl, hp⟩ := ok.ex
  refine ⟨_, PSs.nox 
    (pss_cons (ps_if (PW.pt (pw_or (pt_not (pt_val (pe_callB (x_isi K) (by rfl) T.b_isinstance (by decide +kernel) (pa_cons (pv 0) (pa_cons (pe_bltn (v := .ty "tuple") (by rfl) T.b_tuple (by decide +kernel) rfl) pa_nil))))) (pw_or (pt_cmpR (x_eqNilT K hu0) (pv 0) (pe_tup pa_nil) (nomark _)) (pw_or (pt_not (pt_val (pe_callB (x_isi K) (by rfl) T.b_isinstance (by decide +kernel) (pa_cons (pe_ix (x_tup K) (pv 0) pe_int (fun _ _ => rfl)) (pa_cons (pe_bltn (v := .ty "str") (by rfl) T.b_str (by decide +kernel) rfl) pa_nil))))) (pw_or1 (pt_cmpR (op_notInKD d_FORMS) (pe_ix (x_tup K) (pv 0) pe_int (fun _ _ => rfl)) (C8.pe_gc (v := .ref a_FORMS) (by rfl) ⟨_, g_FORMS, rfl⟩) (by rfl))))))) 
      (pss_one (ps_ret pe_bl)) pss_nil)
    (pss_cons (ps_set (i := 2) nd rfl (Or.inl rfl) (pe_ix (ix_kd d_FORMS) (C8.pe_gc (v := .ref a_FORMS) (by rfl) ⟨_, g_FORMS, rfl⟩) (pe_ix (x_tup K) (pv 0) pe_int (fun _ _ => rfl)) (fun _ _ => rfl)))
    (pss_cons (ps_if (pt_cmpR op_ne (pe_callB (x_len K) (by rfl) T.b_len PySem.boot_len (pa_cons (pv 0) pa_nil)) (pe_op op_add (pe_callB (x_len K) (by rfl) T.b_len PySem.boot_len (pa_cons (pv 2) pa_nil)) pe_int) (nomark _)) 
      (pss_one (ps_ret pe_bl)) pss_nil)
    (pss_cons (ps_for PassesOwn.never rfl (pi_zipST (by rfl) T.b_zip (pa_cons (pv 2) (pa_cons (pe_slice (x_slA K) (pv 0) (po_some pe_int) po_none) pa_nil))) (pg_tup rfl (pgs_cons (pg_name (i := 3) nd rfl (Or.inl rfl)) (pgs_cons (pg_name (i := 4) nd rfl (Or.inl rfl)) pgs_nil))) 
      (pss_one (ps_if (PW.pt (pw_and (pt_not (pt_val (pe_fn C_is_part hr (by rfl) pass0 (pa_cons (pv 3) (pa_cons (pv 4) (pa_cons (pv 1) pa_nil)))))) (pw_and1 (pt_not (PW.pt (pw_and (pt_cmpR op_eq (pv 3) pe_str (nomark _)) (pw_and1 (pt_val (pe_fn C_is_whole hr (by rfl) pass0 (pa_cons (pv 4) pa_nil)))))))))) 
        (pss_one (ps_ret pe_bl)) pss_nil)))
    (pss_one (ps_ret pe_bl)))))), ?_⟩
  refine ⟨_, rfl, _, _, _, _, true, rfl, .ty _, tyT ha, kit_ty (by decide +kernel), _, rfl, ?_⟩
  refine ⟨_, rfl, Nat.zero_le _, fun p0 np0 => ⟨a, p0, _, rfl, rfl, .of (same_upd np0 _ _ ha), .of upd_same, _, rfl, ?_⟩⟩
  have s0 : Same H (upd H p0 (.tup [])) := same_upd np0
  have h0 := s0 _ _ ha
  revert s0 h0
  generalize upd H p0 (.tup []) = H0
  intro s0 h0
  refine ⟨_, rfl, a, _, 0, _, rfl, rfl, .of h0, at0, _, _, _, _, true, rfl, .ty _, tyS z0, kit_ty (by decide +kernel), _, rfl, ?_⟩
  refine ⟨_, rfl, a, _, 0, _, rfl, rfl, .of h0, at0, z0, rfl, rfl, hz, _, rfl, ?_⟩
  rw [hf]
  refine ⟨_, rfl, a, _, 0, _, rfl, rfl, .of h0, at0, z0, _, rfl, rfl, hz, by rw [hf]; rfl, ?_⟩
  have small : sg.cps.size < 100 := by
    have : ∀ s ∈ words, ∀ t, formOf s = some t → t.cps.size < 100 := by decide +kernel
    exact this z0 hz sg hf
  refine ⟨_, rfl, _, _, rfl, .inr ⟨_, .of h0, rfl⟩, _, rfl, _, _, rfl, ⟨Nat.le_of_lt (small1000 (show sg.cps.size ≤ 1000 by omega)), rfl⟩, _, _, rfl, rfl, rfl, _, rfl, ?_⟩
  rw [show decide (V.int (((V.str z0 :: args).length : Nat) : Int) = V.int ((sg.length : Nat) + 1)) = true from decide_eq_true (by show V.int (((args.length + 1 : Nat)) : Int) = V.int ((sg.cps.size : Nat) + 1); rw [hl]; rfl)]
  refine ⟨_, rfl, _, rfl, _, rfl, a, _, rfl, .of h0, fun z => ?_, fun _ p1 np1 => ?_⟩
  · have z1 := z.1
    rw [show HT.sIx (V.str z0 :: args).length 0 (some 1) = min 1 (V.str z0 :: args).length from HT.sIx_nat _ 0 1, List.length_cons] at z1
    omega
  rw [cut1]
  have s1 : Same H0 (upd H0 p1 (.tup args)) := same_upd np1
  refine ⟨_, p1, args, rfl, .of upd_same, ?_⟩
  refine for_it (walkZipST rfl hl) (fun i σ H' => (∃ u v, σ = [some (.ref a), some (.int m), some (.str sg), u, v]) ∧ Same (upd H0 p1 (.tup args)) H') ⟨⟨_, _, rfl⟩, Same.refl _⟩ (fun i σ H' _ p => .of (p.2 _ _ upd_same)) (fun i x σ H1 H2 hi p y => ?_) (fun σ H1 p => ?_)
  · obtain ⟨⟨u, v, rfl⟩, s2⟩ := p
    obtain ⟨t, c, y, rfl, nt, rfl, hc, hy⟩ := y
    have po := hp i c y hc hy
    have s3 : Same H1 (upd H1 t (.tup [.str ⟨#[c]⟩, y])) := same_upd nt
    refine ⟨t, _, rfl, .of upd_same, rfl, _, _, rfl, _, _, rfl, rfl, ?_⟩
    refine ⟨_, rfl, _, rfl, _, rfl, c, y, m, rfl, po, fun H3 s4 => ?_⟩
    have done : (∃ u v, [some (V.ref a), some (V.int m), some (V.str sg), some (V.str ⟨#[c]⟩), some y] = [some (V.ref a), some (V.int m), some (V.str sg), u, v]) ∧ Same (upd H0 p1 (.tup args)) H3 := ⟨⟨_, _, rfl⟩, (s2.trans s3).trans s4⟩
    by_cases hc : c = 120
    · subst hc
      unfold PartOk at po
      rw [if_pos rfl] at po
      rcases po with ⟨i, rfl⟩ | ⟨zn, rfl, hn⟩
      · refine ⟨_, rfl, ⟨_, rfl, rfl, _, rfl, ?_⟩⟩
        rw [sgn_dec (d := 120) (by rfl), decide_eq_true rfl]
        exact ⟨_, rfl, _, rfl, rfl, _, rfl, done⟩
      · refine ⟨_, rfl, ?_⟩
        rw [show partB 120 (V.str zn) = true from hn]
        exact done
    · refine ⟨_, rfl, ?_⟩
      rw [show partB c y = true from if_neg hc]
      exact done
  · obtain ⟨⟨u, v, rfl⟩, s2⟩ := p
    exact q _ (s0.trans (s1.trans s2))
def spCode : Sp := fun vs H Q _ => ∃ (b : V) (rows : List (List V)), vs = [b] ∧ BdAt H b (.code rows) ∧ BdOk "code" (.code rows) ∧ ∀ H', Same H H' → Q (.bl true) H'
theorem getLastD_at {α : Type} {l : List α} {d : α} (h : 1 ≤ l.length) : l[l.length - 1]? = some (l.getLastD d) := by
  cases l with
  | nil => simp at h
  | cons x r =>
    rw [List.getLastD_cons, ← List.getLast?_eq_getElem?, List.getLast?_cons, List.getLastD_eq_getLast?]
theorem atI_end {l : List V} {v : V} (h : l[l.length - 1]? = some v) : atI l (-1) = some v := by
  have h0 : l ≠ [] := fun z => by subst z; simp at h
  have e : l.getLast h0 = v := by
    have h1 : l.getLast? = some v := by rw [List.getLast?_eq_getElem?]; exact h
    rw [List.getLast?_eq_getLast h0] at h1
    exact Option.some.inj h1
  have hx : l = l.dropLast ++ [v] := by
    rw [← e]
    exact (List.dropLast_concat_getLast h0).symm
  rw [hx]
  exact atI_last _ _
theorem sc_is_code : FnScope ["body", "row"] ["body"] (defScope (top 25)) := ⟨rfl, rfl, rfl, by decide +kernel, rfl, by decide +kernel, by decide +kernel⟩
theorem ok_is_code (F : FnP K "is_code" 25 f fd) (T : Txt w K mg) (C_is_row_of : Cal P w K mg base CX0 3 "is_row_of" spRowOf) : FnOk P w K mg base CX0 4 f fd ["body"] spCode := by
  refine F.ok sc_is_code (fun vs H Q E h => by obtain ⟨a, r, rfl, _⟩ := h; rfl) (fun cdv A outer s H vs Q E hr h => ?_)
  have nd := sc_is_code.nd
  have hu0 := hu0_of hr
  obtain ⟨a_LASTS, g_LASTS, k_LASTS⟩ := T.t_LASTS
  obtain ⟨_, rows, rfl, ⟨a, vs, rfl, ha, er⟩, ⟨_, l1, l2, ok, ll⟩, q⟩ := h
  refine ⟨_, PSs.nox 
    (pss_cons (ps_if (PW.pt (pw_or (pt_not (pt_val (pe_callB (x_isi K) (by rfl) T.b_isinstance (by decide +kernel) (pa_cons (pv 0) (pa_cons (pe_bltn (v := .ty "tuple") (by rfl) T.b_tuple (by decide +kernel) rfl) pa_nil))))) (pw_or1 (pt_not (pt_chain op_le op_le pe_int (pe_callB (x_len K) (by rfl) T.b_len PySem.boot_len (pa_cons (pv 0) pa_nil)) pe_int))))) 
      (pss_one (ps_ret pe_bl)) pss_nil)
    (pss_cons (ps_for PassesOwn.never rfl (pi_tup (pv 0)) (pg_name (i := 1) nd rfl (Or.inl rfl)) 
      (pss_one (ps_if (pt_not (pt_val (pe_fn C_is_row_of hr (by rfl) pass0 (pa_cons (pv 1) (pa_cons (pe_callB (x_len K) (by rfl) T.b_len PySem.boot_len (pa_cons (pv 0) pa_nil)) pa_nil))))) 
        (pss_one (ps_ret pe_bl)) pss_nil)))
    (pss_one (ps_ret (pe_cmpR (x_in K) (pe_ix (x_tup K) (pe_ix (x_tup K) (pv 0) (pe_un un_neg pe_int) (fun _ _ => rfl)) pe_int (fun _ _ => rfl)) (C8.pe_gc (v := .ref a_LASTS) (by rfl) ⟨_, g_LASTS, rfl⟩) (by rfl)))))), ?_⟩
  refine ⟨_, rfl, _, _, _, _, true, rfl, .ty _, tyT ha, kit_ty (by decide +kernel), _, rfl, ?_⟩
  refine ⟨_, rfl, _, _, rfl, .inr ⟨_, .of ha, rfl⟩, _, _, rfl, rfl, _, rfl, ?_⟩
  rw [er.1, decide_eq_true (show (1 : Int) ≤ (rows.length : Nat) by omega)]
  refine ⟨_, _, rfl, rfl, _, rfl, ?_⟩
  rw [decide_eq_true (show ((rows.length : Nat) : Int) ≤ 40 by omega)]
  refine ⟨_, rfl, a, rfl, ⟨_, .of ha⟩, ?_⟩
  refine for_it walk_tup (fun i σ H' => (∃ u, σ = [some (.ref a), u]) ∧ Same H H') ⟨⟨_, rfl⟩, Same.refl _⟩ (fun i σ H' _ p => .of (p.2 _ _ ha)) (fun i x σ H1 H2 hi p y => ?_) (fun σ H1 p => ?_)
  · obtain ⟨⟨u, rfl⟩, s1⟩ := p
    obtain ⟨rfl, hx⟩ := y
    obtain ⟨r, hr', q0, rfl, hq⟩ := er.back hx
    refine ⟨_, rfl, _, rfl, _, _, rfl, .inr ⟨_, .of (s1 _ _ ha), rfl⟩, q0, r, rows.length, by rw [er.1]; rfl, s1 _ _ hq, ok r (List.mem_of_getElem? hr'), fun H3 s3 => ?_⟩
    exact ⟨_, rfl, ⟨_, rfl⟩, s1.trans s3⟩
  · obtain ⟨⟨u, rfl⟩, s1⟩ := p
    have hl := getLastD_at (d := []) l1
    obtain ⟨v, hv, q0, rfl, hq⟩ := er.get hl
    have okl := ok _ (List.mem_of_getElem? hl)
    obtain ⟨z, args, sg, e, _⟩ := okl.ex
    have e2 : wordV (rows.getLastD []) = .str z := by rw [e]; rfl
    rw [e] at hq
    have am : atI vs (-1) = some (.ref q0) := atI_end (by rw [er.1]; exact hv)
    refine ⟨_, rfl, 1, rfl, a, _, -1, _, rfl, rfl, .of (s1 _ _ ha), am, q0, _, 0, _, rfl, rfl, .of (s1 _ _ hq), at0, a_LASTS, lastsL, rfl, .inr (k_LASTS.seq _), rfl, by decide +kernel, ?_⟩
    have e3 : inV (.str z) lastsL = true := by rw [← e2]; exact ll
    show Q (.bl (inV (.str z) lastsL)) H1
    rw [e3]
    exact q _ s1
end
end K41
set_option maxHeartbeats 4000000
namespace K41
open PySem PySem.Spec PyProof.Rows L2
theorem seqT {a : Str} : decide (V.str a = V.str a) = true := decide_eq_true rfl
theorem seqF {a b : Str} (h : a ≠ b) : decide (V.str a = V.str b) = false := decide_eq_false fun z => h (V.str.inj z)
section
variable {P : Program} {w : World} {K : PySem.W.Frag} {mg : Str → Option Value} {base : Heap} {f : Addr} {fd : FuncData}
def spBody : Sp := fun vs H Q _ => ∃ (z : Str) (b : V) (bd : Bd), vs = [.str z, b] ∧ BdAt H b bd ∧ BdOk z bd ∧ ∀ H', Same H H' → Q (.bl true) H'
theorem BdOk.sorts {z : Str} {bd : Bd} (h : BdOk z bd) : z = "code" ∨ z = "room" ∨ z = "table" ∨ z = "data" ∨ z = "const" := by
  cases bd with
  | room n => exact .inr (.inl h.1)
  | flat xs =>
    rcases h with h | ⟨h | h, _⟩
    · exact .inr (.inr (.inl h.1))
    · exact .inr (.inr (.inr (.inl h)))
    · exact .inr (.inr (.inr (.inr h)))
  | code rows => exact .inl h.1
theorem sc_is_body : FnScope ["sort", "body", "item"] ["sort", "body"] (defScope (top 26)) := ⟨rfl, rfl, rfl, by decide +kernel, rfl, by decide +kernel, by decide +kernel⟩
theorem ok_is_body (F : FnP K "is_body" 26 f fd) (T : Txt w K mg) (C_is_code : Cal P w K mg base CX0 4 "is_code" spCode) (C_is_whole : Cal P w K mg base CX0 1 "is_whole" spWhole) (C_is_name : Cal P w K mg base CX0 1 "is_name" spName) :
    FnOk P w K mg base CX0 5 f fd ["sort", "body"] spBody := by
  refine F.ok sc_is_body (fun vs H Q E h => by obtain ⟨a, r, b, rfl, _⟩ := h; rfl) (fun cdv A outer s H vs Q E hr h => ?_)
  have nd := sc_is_body.nd
  have hu0 := hu0_of hr
  obtain ⟨z, b, bd, rfl, hb, ok, q⟩ := h
  refine ⟨_, PSs.nox 
    (pss_cons (ps_if (pt_cmpR op_eq (pv 0) pe_str (nomark _)) 
      (pss_one (ps_ret (pe_fn C_is_code hr (by rfl) pass0 (pa_cons (pv 1) pa_nil)))) pss_nil)
    (pss_cons (ps_if (pt_cmpR op_eq (pv 0) pe_str (nomark _)) 
      (pss_one (ps_ret (pe_and (pe_fn C_is_whole hr (by rfl) pass0 (pa_cons (pv 1) pa_nil)) (pe_one (pe_chain op_le op_le pe_int (pv 1) pe_int))))) pss_nil)
    (pss_cons (ps_if (PW.pt (pw_or (pt_not (pt_val (pe_callB (x_isi K) (by rfl) T.b_isinstance (by decide +kernel) (pa_cons (pv 1) (pa_cons (pe_bltn (v := .ty "tuple") (by rfl) T.b_tuple (by decide +kernel) rfl) pa_nil))))) (pw_or1 (pt_not (pt_chain op_le op_le pe_int (pe_callB (x_len K) (by rfl) T.b_len PySem.boot_len (pa_cons (pv 1) pa_nil)) (pe_ifExp (pt_cmpR op_eq (pv 0) pe_str (nomark _)) pe_int pe_int)))))) 
      (pss_one (ps_ret pe_bl)) pss_nil)
    (pss_cons (ps_for PassesOwn.never rfl (pi_tup (pv 1)) (pg_name (i := 2) nd rfl (Or.inl rfl)) 
      (pss_cons (ps_if (PW.pt (pw_and (pt_cmpR op_eq (pv 0) pe_str (nomark _)) (pw_and (pt_cmpR op_notN (pv 2) pe_non (nomark _)) (pw_and (pt_not (pt_val (pe_fn C_is_whole hr (by rfl) pass0 (pa_cons (pv 2) pa_nil)))) (pw_and1 (pt_not (pt_val (pe_fn C_is_name hr (by rfl) pass0 (pa_cons (pv 2) pa_nil))))))))) 
        (pss_one (ps_ret pe_bl)) pss_nil)
      (pss_one (ps_if (PW.pt (pw_and (pt_cmpR op_ne (pv 0) pe_str (nomark _)) (pw_and1 (PW.pt (pw_or (pt_not (pt_val (pe_fn C_is_whole hr (by rfl) pass0 (pa_cons (pv 2) pa_nil)))) (pw_or1 (pt_not (pt_chain op_le op_le pe_int (pv 2) pe_int)))))))) 
        (pss_one (ps_ret pe_bl)) pss_nil))))
    (pss_one (ps_ret pe_bl)))))), ?_⟩
  refine ⟨_, rfl, rfl, _, rfl, ?_⟩
  cases bd with
  | code rows =>
    have e := ok.1
    subst e
    rw [seqT]
    exact ⟨_, rfl, b, rows, rfl, hb, ok, q⟩
  | room n =>
    obtain ⟨rfl, h1, h2⟩ := ok
    obtain rfl := hb
    rw [seqF (a := "room") (b := "code") (by decide +kernel)]
    refine ⟨_, rfl, rfl, _, rfl, ?_⟩
    rw [seqT]
    refine ⟨_, rfl, _, rfl, rfl, _, rfl, ⟨_, rfl, _, _, rfl, rfl, _, rfl, ?_⟩⟩
    rw [decide_eq_true h1]
    refine ⟨_, _, rfl, rfl, ?_⟩
    show Q (.bl (decide (n ≤ 64))) H
    rw [decide_eq_true h2]
    exact q _ (Same.refl _)
  | flat xs =>
    obtain ⟨a, rfl, ha⟩ := hb
    rcases ok with ⟨rfl, l1, l2, it⟩ | ⟨hz, l1, l2, it⟩
    · rw [seqF (a := "table") (b := "code") (by decide +kernel)]
      refine ⟨_, rfl, rfl, _, rfl, ?_⟩
      rw [seqF (a := "table") (b := "room") (by decide +kernel)]
      refine ⟨_, rfl, _, _, _, _, true, rfl, .ty _, tyT ha, kit_ty (by decide +kernel), _, rfl, ?_⟩
      refine ⟨_, rfl, _, _, rfl, .inr ⟨_, .of ha, rfl⟩, _, _, rfl, rfl, _, rfl, ?_⟩
      rw [decide_eq_true (show (1 : Int) ≤ (xs.length : Nat) by omega)]
      refine ⟨_, rfl, rfl, _, rfl, ?_⟩
      rw [seqT]
      refine ⟨_, _, rfl, rfl, _, rfl, ?_⟩
      rw [decide_eq_true (show ((xs.length : Nat) : Int) ≤ 16 by omega)]
      refine ⟨_, rfl, a, rfl, ⟨_, .of ha⟩, ?_⟩
      refine for_it walk_tup (fun i σ H' => (∃ u, σ = [some (.str "table"), some (.ref a), u]) ∧ Same H H') ⟨⟨_, rfl⟩, Same.refl _⟩ (fun i σ H' _ p => .of (p.2 _ _ ha)) (fun i x σ H1 H2 hi p y => ?_) (fun σ H1 p => q _ p.2)
      obtain ⟨⟨u, rfl⟩, s1⟩ := p
      obtain ⟨rfl, hx⟩ := y
      have io := it x (List.mem_of_getElem? hx)
      refine ⟨_, rfl, rfl, _, rfl, ?_⟩
      rw [seqT]
      refine ⟨_, rfl, rfl, _, rfl, ?_⟩
      rcases io with rfl | ⟨n, rfl⟩ | ⟨zn, rfl, hn⟩
      · rw [decide_eq_true rfl]
        refine ⟨_, rfl, rfl, _, rfl, ?_⟩
        rw [seqT]
        exact ⟨⟨_, rfl⟩, s1⟩
      · rw [decide_eq_false (fun z => nomatch z)]
        refine ⟨_, rfl, _, rfl, rfl, _, rfl, ?_⟩
        refine ⟨_, rfl, rfl, _, rfl, ?_⟩
        rw [seqT]
        exact ⟨⟨_, rfl⟩, s1⟩
      · rw [decide_eq_false (fun z => nomatch z)]
        refine ⟨_, rfl, _, rfl, rfl, _, rfl, ?_⟩
        refine ⟨_, rfl, _, rfl, .inr ⟨zn, rfl, hn⟩, fun H3 s3 => ⟨_, rfl, ?_⟩⟩
        rw [show isNmV (.str zn) = true from hn]
        refine ⟨_, rfl, rfl, _, rfl, ?_⟩
        rw [seqT]
        exact ⟨⟨_, rfl⟩, s1.trans s3⟩
    · have n1 : z ≠ "code" := by rcases hz with rfl | rfl <;> decide +kernel
      have n2 : z ≠ "room" := by rcases hz with rfl | rfl <;> decide +kernel
      have n3 : z ≠ "table" := by rcases hz with rfl | rfl <;> decide +kernel
      rw [seqF n1]
      refine ⟨_, rfl, rfl, _, rfl, ?_⟩
      rw [seqF n2]
      refine ⟨_, rfl, _, _, _, _, true, rfl, .ty _, tyT ha, kit_ty (by decide +kernel), _, rfl, ?_⟩
      refine ⟨_, rfl, _, _, rfl, .inr ⟨_, .of ha, rfl⟩, _, _, rfl, rfl, _, rfl, ?_⟩
      rw [decide_eq_true (show (1 : Int) ≤ (xs.length : Nat) by omega)]
      refine ⟨_, rfl, rfl, _, rfl, ?_⟩
      rw [seqF n3]
      refine ⟨_, _, rfl, rfl, _, rfl, ?_⟩
      rw [decide_eq_true (show ((xs.length : Nat) : Int) ≤ 64 by omega)]
      refine ⟨_, rfl, a, rfl, ⟨_, .of ha⟩, ?_⟩
      refine for_it walk_tup (fun i σ H' => (∃ u, σ = [some (.str z), some (.ref a), u]) ∧ Same H H') ⟨⟨_, rfl⟩, Same.refl _⟩ (fun i σ H' _ p => .of (p.2 _ _ ha)) (fun i x σ H1 H2 hi p y => ?_) (fun σ H1 p => q _ p.2)
      obtain ⟨⟨u, rfl⟩, s1⟩ := p
      obtain ⟨rfl, hx⟩ := y
      obtain ⟨n, rfl, h1, h2⟩ := it x (List.mem_of_getElem? hx)
      refine ⟨_, rfl, rfl, _, rfl, ?_⟩
      rw [seqF n3]
      refine ⟨_, rfl, rfl, _, rfl, ?_⟩
      rw [seqF n3]
      refine ⟨_, rfl, _, rfl, rfl, _, rfl, ?_⟩
      refine ⟨_, rfl, _, _, rfl, rfl, _, rfl, ?_⟩
      rw [decide_eq_true h1]
      refine ⟨_, _, rfl, rfl, _, rfl, ?_⟩
      rw [decide_eq_true h2]
      exact ⟨⟨_, rfl⟩, s1⟩
def sortsL : List V := ["code", "data", "const", "table", "room"].map S
def spKnot : Sp := fun vs H Q _ => ∃ (v : V) (k : Kn), vs = [v] ∧ KnAt H v k ∧ KnOk k ∧ ∀ H', Same H H' → Q (.bl true) H'
theorem sc_is_knot : FnScope ["thing", "label", "sort"] ["thing"] (defScope (top 27)) := ⟨rfl, rfl, rfl, by decide +kernel, rfl, by decide +kernel, by decide +kernel⟩
theorem ok_is_knot (F : FnP K "is_knot" 27 f fd) (T : Txt w K mg) (C_is_body : Cal P w K mg base CX0 5 "is_body" spBody) (C_is_whole : Cal P w K mg base CX0 1 "is_whole" spWhole) (C_is_name : Cal P w K mg base CX0 1 "is_name" spName) :
    FnOk P w K mg base CX0 6 f fd ["thing"] spKnot := by
  refine F.ok sc_is_knot (fun vs H Q E h => by obtain ⟨a, r, rfl, _⟩ := h; rfl) (fun cdv A outer s H vs Q E hr h => ?_)
  have nd := sc_is_knot.nd
  have hu0 := hu0_of hr
  obtain ⟨_, k, rfl, hk, ok, q⟩ := h
  obtain ⟨a, l, b, rfl, ha, hl, hb⟩ := hk.ex
  refine ⟨_, PSs.nox 
    (pss_cons (ps_if (PW.pt (pw_or (pt_not (pt_val (pe_callB (x_isi K) (by rfl) T.b_isinstance (by decide +kernel) (pa_cons (pv 0) (pa_cons (pe_bltn (v := .ty "tuple") (by rfl) T.b_tuple (by decide +kernel) rfl) pa_nil))))) (pw_or (pt_cmpR op_ne (pe_callB (x_len K) (by rfl) T.b_len PySem.boot_len (pa_cons (pv 0) pa_nil)) pe_int (nomark _)) (pw_or (pt_cmpR op_ne (pe_ix (x_tup K) (pv 0) pe_int (fun _ _ => rfl)) pe_str (nomark _)) (pw_or1 (pt_not (pt_val (pe_callB (x_isi K) (by rfl) T.b_isinstance (by decide +kernel) (pa_cons (pe_ix (x_tup K) (pv 0) pe_int (fun _ _ => rfl)) (pa_cons (pe_bltn (v := .ty "str") (by rfl) T.b_str (by decide +kernel) rfl) pa_nil)))))))))) 
      (pss_one (ps_ret pe_bl)) pss_nil)
    (pss_cons (ps_par (i := 1) (j := 2) rfl nd rfl rfl (by decide) rfl rfl (pa_cons (pe_ix (x_tup K) (pv 0) pe_int (fun _ _ => rfl)) (pa_cons (pe_ix (x_tup K) (pv 0) pe_int (fun _ _ => rfl)) pa_nil)) (by rfl))
    (pss_cons (ps_if (PW.pt (pw_or (pt_not (pt_val (pe_callB (x_isi K) (by rfl) T.b_isinstance (by decide +kernel) (pa_cons (pv 1) (pa_cons (pe_bltn (v := .ty "tuple") (by rfl) T.b_tuple (by decide +kernel) rfl) pa_nil))))) (pw_or (pt_cmpR op_ne (pe_callB (x_len K) (by rfl) T.b_len PySem.boot_len (pa_cons (pv 1) pa_nil)) pe_int (nomark _)) (pw_or (pt_not (pt_val (pe_fn C_is_whole hr (by rfl) pass0 (pa_cons (pe_ix (x_tup K) (pv 1) pe_int (fun _ _ => rfl)) pa_nil)))) (pw_or1 (pt_not (pt_val (pe_fn C_is_name hr (by rfl) pass0 (pa_cons (pe_ix (x_tup K) (pv 1) pe_int (fun _ _ => rfl)) pa_nil))))))))) 
      (pss_one (ps_ret pe_bl)) pss_nil)
    (pss_one (ps_ret (pe_and (pe_cmpR op_ge (pe_ix (x_tup K) (pv 1) pe_int (fun _ _ => rfl)) pe_int (nomark _)) (pe_and (pe_cmpR (x_in K) (pv 2) (pe_tup (pa_cons pe_str (pa_cons pe_str (pa_cons pe_str (pa_cons pe_str (pa_cons pe_str pa_nil)))))) (by rfl)) (pe_one (pe_fn C_is_body hr (by rfl) pass0 (pa_cons (pv 2) (pa_cons (pe_ix (x_tup K) (pv 0) pe_int (fun _ _ => rfl)) pa_nil))))))))))), ?_⟩
  refine ⟨_, rfl, _, _, _, _, true, rfl, .ty _, tyT ha, kit_ty (by decide +kernel), _, rfl, ?_⟩
  refine ⟨_, rfl, _, _, rfl, .inr ⟨_, .of ha, rfl⟩, rfl, _, rfl, ?_⟩
  refine ⟨_, rfl, a, _, 0, _, rfl, rfl, .of ha, at0, rfl, _, rfl, ?_⟩
  rw [seqT]
  refine ⟨_, rfl, a, _, 2, _, rfl, rfl, .of ha, at2, _, _, _, _, true, rfl, .ty _, tyS k.sort, kit_ty (by decide +kernel), _, rfl, ?_⟩
  refine ⟨_, rfl, a, _, 1, _, rfl, rfl, .of ha, at1, _, rfl, a, _, 2, _, rfl, rfl, .of ha, at2, _, _, rfl, ?_⟩
  refine ⟨_, rfl, _, _, _, _, true, rfl, .ty _, tyT hl, kit_ty (by decide +kernel), _, rfl, ?_⟩
  refine ⟨_, rfl, _, _, rfl, .inr ⟨_, .of hl, rfl⟩, rfl, _, rfl, ?_⟩
  refine ⟨_, rfl, l, _, 0, _, rfl, rfl, .of hl, at0, _, rfl, rfl, _, rfl, ?_⟩
  refine ⟨_, rfl, l, _, 1, _, rfl, rfl, .of hl, at1, _, rfl, .inr ⟨_, rfl, ok.nm⟩, fun H1 s1 => ⟨_, rfl, ?_⟩⟩
  rw [show isNmV (.str k.nm) = true from ok.nm]
  refine ⟨_, rfl, l, _, 0, _, rfl, rfl, .of (s1 _ _ hl), at0, _, _, rfl, rfl, _, rfl, ?_⟩
  rw [decide_eq_true ok.num]
  have hs : inV (.str k.sort) sortsL = true := by
    rcases ok.body.sorts with h | h | h | h | h <;> rw [h] <;> decide +kernel
  refine ⟨_, rfl, (by show 5 ≤ sizeLine; decide), fun p np => ⟨p, sortsL, rfl, .inr (.of upd_same), rfl, by decide +kernel, _, rfl, ?_⟩⟩
  have s2 : Same H1 (upd H1 p (.tup sortsL)) := same_upd np
  show if inV (.str k.sort) sortsL = true then _ else _
  rw [hs]
  refine ⟨_, rfl, _, rfl, a, _, 3, _, rfl, rfl, .of (s2 _ _ (s1 _ _ ha)), at3, k.sort, b, k.body, rfl, hb.same (s1.trans s2), ok.body, fun H3 s3 => q _ ((s1.trans s2).trans s3)⟩
end
end K41
set_option maxHeartbeats 4000000
namespace K41
open PySem PySem.Spec PyProof.Rows L2
/-! ### what a knot asks -/
abbrev Ask := V × Str × V
def lenK (k : Kn) : Int := match k.body with
  | .room n => n
  | .flat xs => (xs.length : Nat)
  | .code rows => (rows.length : Nat)
def strV : V → Str
  | .str z => z
  | _ => ""
def isLS (z : Str) : Bool := decide (z = "load") || decide (z = "store")
def askRow (r : List V) : Option Ask := (placeOf (strV (wordV r))).map fun p => (r.getD p.toNat .non, strV (wordV r), if isLS (strV (wordV r)) then r.getD 3 .non else .int 0)
def askItem (x : V) : Option Ask := if x = .non then none else some (x, Str.ofString "item of", .int 0)
def asksOf (k : Kn) : List Ask := match k.body with
  | .room _ => []
  | .flat xs => if k.sort = "table" then xs.filterMap askItem else []
  | .code rows => rows.filterMap askRow
def AskAt (H : Hp) (v : V) (a : Ask) : Prop := ∃ t, v = .ref t ∧ H t = some (.tup [a.1, .str a.2.1, a.2.2])
theorem AskAt.same {H H' : Hp} (s : Same H H') {v : V} {a : Ask} (h : AskAt H v a) : AskAt H' v a := let ⟨t, e, h⟩ := h; ⟨t, e, s _ _ h⟩
/-- the bounds of places: a word with a place has so many parts -/
theorem place_ok : ∀ z ∈ words, ∀ p, placeOf z = some p → 1 ≤ p ∧ p ≤ 2 ∧ ∀ sg, formOf z = some sg → p.toNat ≤ sg.cps.size ∧ sg.cps[p.toNat - 1]? = some 120 ∧ (isLS z = true → sg.cps.size = 3) := by decide +kernel
section
variable {P : Program} {w : World} {K : PySem.W.Frag} {mg : Str → Option Value} {base : Heap} {f : Addr} {fd : FuncData}
theorem isLS_in (z : Str) : inV (.str z) [.str "load", .str "store"] = isLS z := by
  show (decide (Str.ofString "load" = z) || (decide (Str.ofString "store" = z) || false)) = (decide (z = Str.ofString "load") || decide (z = Str.ofString "store"))
  rw [Bool.or_false, decide_eq_decide.mpr (@eq_comm _ (Str.ofString "load") z), decide_eq_decide.mpr (@eq_comm _ (Str.ofString "store") z)]
def spPlace : Sp := fun vs H Q _ => ∃ (a : Addr) (z : Str) (args : List V), vs = [.ref a] ∧ H a = some (.tup (.str z :: args)) ∧ z ∈ words ∧ Q (((placeOf z).map V.int).getD .non) H
theorem sc_place_in : FnScope ["row"] ["row"] (defScope (top 23)) := ⟨rfl, rfl, rfl, by decide +kernel, rfl, by decide +kernel, by decide +kernel⟩
theorem ok_place_in (F : FnP K "place_in" 23 f fd) (T : Txt w K mg) : FnOk P w K mg base CX0 1 f fd ["row"] spPlace := by
  refine F.ok sc_place_in (fun vs H Q E h => by obtain ⟨a, r, b, rfl, _⟩ := h; rfl) (fun cdv A outer s H vs Q E hr h => ?_)
  have nd := sc_place_in.nd
  obtain ⟨a_PLACES, g_PLACES, d_PLACES⟩ := T.t_PLACES
  obtain ⟨a, z, args, rfl, ha, hz, q⟩ := h
  refine ⟨_, PSs.nox 
    (pss_one (ps_ret (pe_kget2 d_PLACES (C8.pe_gc (v := .ref a_PLACES) (by rfl) ⟨_, g_PLACES, rfl⟩) (pe_ix (x_tup K) (pv 0) pe_int (fun _ _ => rfl)) pe_non ⟨by rfl, by rfl, by rfl, by rfl⟩))), ?_⟩
  exact ⟨rfl, _, rfl, a, _, 0, _, rfl, rfl, .of ha, at0, z, rfl, hz, q⟩
def spLength : Sp := fun vs H Q _ => ∃ (v : V) (k : Kn), vs = [v] ∧ KnAt H v k ∧ KnOk k ∧ Q (.int (lenK k)) H
theorem BdOk.not_room {z : Str} {bd : Bd} (h : BdOk z bd) (n : ∀ m, bd ≠ .room m) : z ≠ "room" := by
  cases bd with
  | room m => exact absurd rfl (n m)
  | flat xs => rcases h with ⟨rfl, _⟩ | ⟨rfl | rfl, _⟩ <;> decide +kernel
  | code rows => rw [h.1]; decide +kernel
theorem sc_length_of : FnScope ["knot"] ["knot"] (defScope (top 28)) := ⟨rfl, rfl, rfl, by decide +kernel, rfl, by decide +kernel, by decide +kernel⟩
theorem ok_length_of (F : FnP K "length_of" 28 f fd) (T : Txt w K mg) : FnOk P w K mg base CX0 1 f fd ["knot"] spLength := by
  refine F.ok sc_length_of (fun vs H Q E h => by obtain ⟨a, r, rfl, _⟩ := h; rfl) (fun cdv A outer s H vs Q E hr h => ?_)
  have nd := sc_length_of.nd
  obtain ⟨_, k, rfl, hk, ok, q⟩ := h
  obtain ⟨a, l, b, rfl, ha, hl, hb⟩ := hk.ex
  refine ⟨_, PSs.nox 
    (pss_one (ps_ret (pe_ifExp (pt_cmpR op_eq (pe_ix (x_tup K) (pv 0) pe_int (fun _ _ => rfl)) pe_str (nomark _)) (pe_ix (x_tup K) (pv 0) pe_int (fun _ _ => rfl)) (pe_callB (x_len K) (by rfl) T.b_len PySem.boot_len (pa_cons (pe_ix (x_tup K) (pv 0) pe_int (fun _ _ => rfl)) pa_nil))))), ?_⟩
  refine ⟨_, rfl, a, _, 2, _, rfl, rfl, .of ha, at2, rfl, _, rfl, ?_⟩
  obtain ⟨num, nm, sort, body⟩ := k
  have bo : BdOk sort body := ok.body
  cases body with
  | room n =>
    obtain ⟨rfl, _⟩ := bo
    obtain rfl := hb
    rw [seqT]
    exact ⟨_, rfl, a, _, 3, _, rfl, rfl, .of ha, at3, q⟩
  | flat xs =>
    obtain ⟨p, rfl, hp⟩ := hb
    rw [seqF (bo.not_room fun m z => nomatch z)]
    exact ⟨_, rfl, a, _, 3, _, rfl, rfl, .of ha, at3, _, _, rfl, .inr ⟨_, .of hp, rfl⟩, q⟩
  | code rows =>
    obtain ⟨p, vs, rfl, hp, er⟩ := hb
    rw [seqF (bo.not_room fun m z => nomatch z)]
    exact ⟨_, rfl, a, _, 3, _, rfl, rfl, .of ha, at3, _, _, rfl, .inr ⟨_, .of hp, rfl⟩, by rw [er.1]; exact q⟩
def spAsks : Sp := fun vs H Q _ => ∃ (v : V) (k : Kn), vs = [v] ∧ KnAt H v k ∧ KnOk k ∧ ∀ H' D xs, Same H H' → H D = none → H' D = some (.lst xs) → Each (AskAt H') xs (asksOf k) → Q (.ref D) H'
theorem fm_take {α β : Type} {g : α → Option β} {l : List α} {i : Nat} {x : α} (h : l[i]? = some x) : (l.take (i + 1)).filterMap g = (l.take i).filterMap g ++ (g x).toList := by
  rw [take1 h, List.filterMap_append]
  cases e : g x <;> simp [e]
/-- behind i turns: a list at D told by as -/
def AccE {α : Type} (R : Hp → V → α → Prop) (H1 : Hp) (D : Addr) (as : Nat → List α) (i : Nat) (H : Hp) : Prop := Same H1 H ∧ ∃ ys, H D = some (.lst ys) ∧ Each (R H) ys (as i)
section
variable {α : Type} {R : Hp → V → α → Prop} {H1 H H4 : Hp} {D : Addr} {as : Nat → List α} {i : Nat} {y : V}
theorem AccE.start (nD : H1 D = none) (h0 : as 0 = []) : AccE R H1 D as 0 (upd H1 D (.lst [])) := ⟨same_upd nD, [], upd_same, by rw [h0]; exact .nil⟩
/-- told the same where all but D stands -/
def Steady (R : Hp → V → α → Prop) : Prop := ∀ (D : Addr) (H H' : Hp), (∃ l, H D = some (.lst l)) → (∀ b o, b ≠ D → H b = some o → H' b = some o) → ∀ v a, R H v a → R H' v a
theorem Steady.same (st : Steady R) {D : Addr} {H H' : Hp} (hl : ∃ l, H D = some (.lst l)) (s : Same H H') : ∀ v a, R H v a → R H' v a := st D H H' hl fun b o _ e => s b o e
theorem AccE.put {a : α} (st : Steady R) (nD : H1 D = none) (p : AccE R H1 D as i H) (s : Same H H4) (few : (as i).length < sizeLine) (e : as (i + 1) = as i ++ [a]) (r : R H4 y a) :
    ∃ l, H4 D = some (.lst l) ∧ l.length < sizeLine ∧ AccE R H1 D as (i + 1) (upd H4 D (.lst (l ++ [y]))) := by
  obtain ⟨s1, ys, hy, er⟩ := p
  have up : ∀ v a, R H4 v a → R (upd H4 D (.lst (ys ++ [y]))) v a := st D _ _ ⟨_, s _ _ hy⟩ fun b o nb eb => by rw [upd_ne nb]; exact eb
  refine ⟨ys, s _ _ hy, by rw [er.1]; exact few, Same.keep (s1.trans s) nD, _, upd_same, ?_⟩
  rw [e]
  exact ((er.mono (st.same ⟨_, hy⟩ s)).mono up).snoc (up _ _ r)
theorem AccE.pass (st : Steady R) (p : AccE R H1 D as i H) (s : Same H H4) (e : as (i + 1) = as i) : AccE R H1 D as (i + 1) H4 := by
  obtain ⟨s1, ys, hy, er⟩ := p
  exact ⟨s1.trans s, ys, s _ _ hy, by rw [e]; exact er.mono (st.same ⟨_, hy⟩ s)⟩
end
theorem askAt_st : Steady AskAt := fun D H H' hl h v a ⟨t, e, ht⟩ => ⟨t, e, h t _ (fun z => by subst z; obtain ⟨l, hl⟩ := hl; rw [hl] at ht; cases ht) ht⟩
theorem rowAt_st : Steady RowAt := fun D H H' hl h v a ⟨t, e, ht⟩ => ⟨t, e, h t _ (fun z => by subst z; obtain ⟨l, hl⟩ := hl; rw [hl] at ht; cases ht) ht⟩
theorem getD_cons {x : V} {args : List V} {p : Int} (h1 : 1 ≤ p) (h2 : p.toNat ≤ args.length) : atI (x :: args) p = some ((x :: args).getD p.toNat .non) := by
  obtain ⟨n, rfl⟩ := Int.eq_ofNat_of_zero_le (show 0 ≤ p by omega)
  have e : ((n : Nat) : Int).toNat = n := rfl
  rw [e] at h2 ⊢
  refine atI_nat ?_
  rw [List.getD_eq_getElem?_getD, List.getElem?_eq_getElem (show n < (x :: args).length by simp; omega)]
  rfl
theorem sc_asks : FnScope ["knot", "rows", "item", "row"] ["knot"] (defScope (top 29)) := ⟨rfl, rfl, rfl, by decide +kernel, rfl, by decide +kernel, by decide +kernel⟩
theorem ok_asks (F : FnP K "asks" 29 f fd) (T : Txt w K mg) (C_place_in : Cal P w K mg base CX0 1 "place_in" spPlace) : FnOk P w K mg base CX0 2 f fd ["knot"] spAsks := by
  refine F.ok sc_asks (fun vs H Q E h => by obtain ⟨a, r, rfl, _⟩ := h; rfl) (fun cdv A outer s H vs Q E hr h => ?_)
  have nd := sc_asks.nd
  obtain ⟨a_PLACES, g_PLACES, d_PLACES⟩ := T.t_PLACES
  obtain ⟨_, k, rfl, hk, ok, q⟩ := h
  obtain ⟨a, l, b, rfl, ha, hl, hb⟩ := hk.ex
  refine ⟨_, PSs.nox 
    (pss_cons (ps_if (pt_cmpR op_eq (pe_ix (x_tup K) (pv 0) pe_int (fun _ _ => rfl)) pe_str (nomark _)) 
      (pss_one (ps_ret (pe_lc (own := [("item", 2)]) rfl nd (pi_tup (pe_ix (x_tup K) (pv 0) pe_int (fun _ _ => rfl))) (blkOk_by (own := [("item", 2)]) (N := ["knot", "rows", "item", "row"]) (sc := defScope (top 29)) (by decide +kernel)) (fun _ _ _ _ _ => (pg_name (i := 2) nd rfl (Or.inl rfl))) (fun _ _ _ _ _ => (pts_one (pt_cmpR op_notN (pv 2) pe_non (nomark _)))) (fun _ _ _ _ _ => (pe_tup (pa_cons (pv 2) (pa_cons pe_str (pa_cons pe_int pa_nil)))))))) pss_nil)
    (pss_cons (ps_if (pt_cmpR op_ne (pe_ix (x_tup K) (pv 0) pe_int (fun _ _ => rfl)) pe_str (nomark _)) 
      (pss_one (ps_ret (pe_lst pa_nil))) pss_nil)
    (pss_cons (ps_setLc (own := [("row", 3)]) (i := 1) rfl nd rfl rfl (sw_true rfl rfl rfl (by decide +kernel)) (pi_tup (pe_ix (x_tup K) (pv 0) pe_int (fun _ _ => rfl))) (blkOk_by (own := [("row", 3)]) (N := ["knot", "rows", "item", "row"]) (sc := defScope (top 29)) (by decide +kernel)) (fun _ _ _ _ _ => (pg_name (i := 3) nd rfl (Or.inl rfl))) (fun _ _ _ _ _ => (pts_one (pt_cmpR (op_inKD d_PLACES) (pe_ix (x_tup K) (pv 3) pe_int (fun _ _ => rfl)) (C8.pe_gc (v := .ref a_PLACES) (by rfl) ⟨_, g_PLACES, rfl⟩) (by rfl)))) (fun _ _ _ _ _ => (pv 3)))
    (pss_one (ps_ret (pe_lc (own := [("row", 3)]) rfl nd (pi_list (pv 1)) (blkOk_by (own := [("row", 3)]) (N := ["knot", "rows", "item", "row"]) (sc := defScope (top 29)) (by decide +kernel)) (fun _ _ _ _ _ => (pg_name (i := 3) nd rfl (Or.inl rfl))) (fun _ _ _ _ _ => pts_nil) (fun _ _ _ _ _ => (pe_tup (pa_cons (pe_ix (x_tup K) (pv 3) (pe_fn C_place_in hr (by rfl) pass0 (pa_cons (pv 3) pa_nil)) (fun _ _ => rfl)) (pa_cons (pe_ix (x_tup K) (pv 3) pe_int (fun _ _ => rfl)) (pa_cons (pe_ifExp (pt_cmpR (x_in K) (pe_ix (x_tup K) (pv 3) pe_int (fun _ _ => rfl)) (pe_tup (pa_cons pe_str (pa_cons pe_str pa_nil))) (by rfl)) (pe_ix (x_tup K) (pv 3) pe_int (fun _ _ => rfl)) pe_int) pa_nil))))))))))), ?_⟩
  refine ⟨_, rfl, a, _, 2, _, rfl, rfl, .of ha, at2, rfl, _, rfl, ?_⟩
  obtain ⟨num, nm, sort, body⟩ := k
  have bo : BdOk sort body := ok.body
  by_cases ht : sort = "table"
  · subst ht
    rw [seqT]
    cases body with
    | room n => exact absurd bo.1 (by decide +kernel)
    | code rows => exact absurd bo.1 (by decide +kernel)
    | flat xs =>
      obtain ⟨p, rfl, hp⟩ := hb
      have lx : xs.length ≤ 64 := by rcases bo with h | h <;> omega
      refine ⟨_, rfl, a, _, 3, _, rfl, rfl, .of ha, at3, p, rfl, ⟨_, .of hp⟩, fun D nD => ?_⟩
      refine lc_it walk_tup (fun i H' => AccE AskAt H D (fun i => (xs.take i).filterMap askItem) i H') (AccE.start nD rfl) (fun i H' _ p' => .of (p'.1 _ _ hp)) (fun i x H1 H2 hi p' y => ?_) (fun H1 p' => ?_)
      · obtain ⟨rfl, hx⟩ := y
        have tk := fm_take (g := askItem) hx
        have few : ((xs.take i).filterMap askItem).length < sizeLine := small1000 (Nat.le_trans (List.length_filterMap_le _ _) (by rw [List.length_take]; omega))
        refine ⟨rfl, _, rfl, rfl, _, rfl, ?_⟩
        by_cases hn : x = .non
        · subst hn
          rw [decide_eq_true rfl]
          exact AccE.pass askAt_st p' (Same.refl _) (by rw [tk]; simp [askItem])
        · rw [decide_eq_false hn]
          refine ⟨_, rfl, (by show 3 ≤ sizeLine; decide), fun t nt => AccE.put askAt_st nD p' (same_upd nt) few (a := (x, Str.ofString "item of", .int 0)) ?_ ⟨t, rfl, upd_same⟩⟩
          rw [tk]
          simp [askItem, hn]
      · obtain ⟨s1, ys, hy, er⟩ := p'
        refine q _ D ys s1 nD hy ?_
        have e : asksOf ⟨num, nm, "table", .flat xs⟩ = (xs.take xs.length).filterMap askItem := by
          rw [List.take_length]
          show (if (Str.ofString "table") = "table" then xs.filterMap askItem else []) = _
          exact if_pos rfl
        rw [e]
        exact er
  · rw [seqF ht]
    refine ⟨_, rfl, a, _, 2, _, rfl, rfl, .of ha, at2, rfl, _, rfl, ?_⟩
    by_cases hc : sort = "code"
    · subst hc
      rw [seqT]
      cases body with
      | room n => exact absurd bo.1 (by decide +kernel)
      | flat xs => exact absurd bo (by rintro (⟨h, _⟩ | ⟨h | h, _⟩) <;> exact absurd h (by decide +kernel))
      | code rows =>
        obtain ⟨p, vs, rfl, hp, er⟩ := hb
        obtain ⟨_, l1, l2, okr, _⟩ := bo
        let hasP : List V → Option (List V) := fun r => if (placeOf (strV (wordV r))).isSome then some r else none
        refine ⟨_, rfl, a, _, 3, _, rfl, rfl, .of ha, at3, p, rfl, ⟨_, .of hp⟩, fun D nD => ?_⟩
        refine lc_it walk_tup (fun i H' => AccE RowAt H D (fun i => (rows.take i).filterMap hasP) i H') (AccE.start nD rfl) (fun i H' _ p' => .of (p'.1 _ _ hp)) (fun i x H1 H2 hi p' y => ?_) (fun H1 p' => ?_)
        · obtain ⟨rfl, hx⟩ := y
          obtain ⟨r, hr', q0, rfl, hq⟩ := er.back hx
          obtain ⟨z, args, sg, rfl, hz, _⟩ := (okr r (List.mem_of_getElem? hr')).ex
          have hq' := p'.1 _ _ hq
          have tk := fm_take (g := hasP) hr'
          have few : ((rows.take i).filterMap hasP).length < sizeLine := small1000 (Nat.le_trans (List.length_filterMap_le _ _) (by rw [List.length_take]; omega))
          refine ⟨rfl, _, rfl, q0, _, 0, _, rfl, rfl, .of hq', at0, z, rfl, rfl, hz, _, rfl, ?_⟩
          cases hpl : placeOf z with
          | none => exact AccE.pass rowAt_st p' (Same.refl _) (by rw [tk]; simp [hasP, strV, wordV, hpl])
          | some n => exact ⟨_, rfl, AccE.put rowAt_st nD p' (Same.refl _) few (a := .str z :: args) (by rw [tk]; simp [hasP, strV, wordV, hpl]) ⟨q0, rfl, hq'⟩⟩
        · obtain ⟨s1, ys, hy, ey⟩ := p'
          simp only [er.1, List.take_length] at ey
          refine ⟨_, rfl, D, rfl, ⟨_, .of hy⟩, fun D2 nD2 => ?_⟩
          have n2 : H D2 = none := Same.free s1 nD2
          have hl2 : (rows.filterMap hasP).length ≤ 40 := Nat.le_trans (List.length_filterMap_le _ _) l2
          refine lc_it walk_list (fun i H' => AccE AskAt H1 D2 (fun i => ((rows.filterMap hasP).take i).filterMap askRow) i H') (AccE.start nD2 rfl) (fun i H' _ p' => .of (p'.1 _ _ hy)) (fun i x H2 H3 hi p' y => ?_) (fun H2 p' => ?_)
          · obtain ⟨rfl, hx⟩ := y
            obtain ⟨r, hr', q0, rfl, hq⟩ := ey.back hx
            obtain ⟨r0, hm, hh⟩ := List.mem_filterMap.mp (List.mem_of_getElem? hr')
            have e0 : r0 = r ∧ (placeOf (strV (wordV r))).isSome := by
              simp only [hasP] at hh
              split at hh
              · cases hh; exact ⟨rfl, by assumption⟩
              · cases hh
            obtain ⟨rfl, hpl⟩ := e0
            obtain ⟨z, args, sg, rfl, hz, hf, hla, _⟩ := (okr r0 hm).ex
            obtain ⟨n, hn⟩ := Option.isSome_iff_exists.mp (show (placeOf z).isSome = true from hpl)
            obtain ⟨b1, b2, b3⟩ := place_ok z hz n hn
            obtain ⟨b4, _, b5⟩ := b3 sg hf
            have hq' := p'.1 _ _ hq
            have tk := fm_take (g := askRow) hr'
            have few : (((rows.filterMap hasP).take i).filterMap askRow).length < sizeLine := small1000 (Nat.le_trans (List.length_filterMap_le _ _) (by rw [List.length_take]; omega))
            refine ⟨rfl, _, rfl, _, rfl, q0, z, args, rfl, hq', hz, ?_⟩
            rw [hn]
            refine ⟨q0, _, n, _, rfl, rfl, .of hq', getD_cons b1 (by rw [hla]; exact b4), ?_⟩
            refine ⟨_, rfl, q0, _, 0, _, rfl, rfl, .of hq', at0, ?_⟩
            refine ⟨_, rfl, q0, _, 0, _, rfl, rfl, .of hq', at0, (by show 2 ≤ sizeLine; decide), fun t nt => ⟨t, _, rfl, .inr (.of upd_same), rfl, rfl, _, rfl, ?_⟩⟩
            have e1 : inV (.str z) [.str "load", .str "store"] = isLS z := by
              exact isLS_in z
            show if inV (.str z) [.str "load", .str "store"] = true then _ else _
            rw [e1]
            have s3 : Same H3 (upd H3 t (.tup [.str "load", .str "store"])) := same_upd nt
            cases hls : isLS z with
            | true =>
              refine ⟨_, rfl, q0, _, 3, _, rfl, rfl, .of (s3 _ _ hq'), getD_cons (by decide) (by rw [hla, b5 hls]; decide), (by show 3 ≤ sizeLine; decide), fun t2 nt2 => AccE.put askAt_st nD2 p' (s3.trans (same_upd nt2)) few (a := ((V.str z :: args).getD n.toNat .non, z, (V.str z :: args).getD 3 .non)) ?_ ⟨t2, rfl, upd_same⟩⟩
              rw [tk]
              simp only [askRow, strV, wordV, List.headD, hn, Option.map_some, hls, if_true, Option.toList]
            | false =>
              refine ⟨(by show 3 ≤ sizeLine; decide), fun t2 nt2 => AccE.put askAt_st nD2 p' (s3.trans (same_upd nt2)) few (a := ((V.str z :: args).getD n.toNat .non, z, .int 0)) ?_ ⟨t2, rfl, upd_same⟩⟩
              rw [tk]
              simp [askRow, strV, wordV, hn, hls]
          · obtain ⟨s2, zs, hz, ez⟩ := p'
            simp only [ey.1, List.take_length] at ez
            refine q _ D2 zs (s1.trans s2) n2 hz ?_
            have e : asksOf ⟨num, nm, "code", .code rows⟩ = (rows.filterMap hasP).filterMap askRow := by
              show rows.filterMap askRow = _
              rw [List.filterMap_filterMap]
              congr 1
              funext r
              simp only [hasP, askRow]
              cases hpl : placeOf (strV (wordV r)) <;> simp [hpl, askRow]
            rw [e]
            exact ez
    · rw [seqF hc]
      refine ⟨Nat.zero_le _, fun D nD => q _ D [] (same_upd nD) nD upd_same ?_⟩
      have e : asksOf ⟨num, nm, sort, body⟩ = [] := by
        cases body with
        | room n => rfl
        | flat xs => exact if_neg ht
        | code rows => exact absurd bo.1 hc
      rw [e]
      exact .nil
end
end K41
set_option maxHeartbeats 4000000
namespace K41
open PySem PySem.Spec PyProof.Rows L2
def FitsOk (kns : List Kn) (a : Ask) : Prop := a.2.1 ∈ askWords ∧ plain a.1 = true ∧ ∀ i, a.1 = .int i → ∃ (j : Nat) (k : Kn), i = (j : Nat) ∧ kns[j]? = some k ∧
  inV (.str k.sort) ((askedL a.2.1).getD [.str "code"]) = true ∧ (isLS a.2.1 = true → ∃ n, a.2.2 = .int n ∧ n < lenK k)
theorem atI_n {l : List V} {j : Nat} {v : V} (h : l[j]? = some v) : atI l (j : Nat) = some v := atI_nat h
theorem lt_of_get {α : Type} {l : List α} {j : Nat} {v : α} (h : l[j]? = some v) : j < l.length := (List.getElem?_eq_some_iff.mp h).1
section
variable {P : Program} {w : World} {K : PySem.W.Frag} {mg : Str → Option Value} {base : Heap} {f : Addr} {fd : FuncData}
def spFits : Sp := fun args H Q _ => ∃ (kn : Addr) (vs : List V) (kns : List Kn) (a : Ask), args = [.ref kn, a.1, .str a.2.1, a.2.2] ∧ H kn = some (.tup vs) ∧ Each (KnAt H) vs kns ∧ (∀ k ∈ kns, KnOk k) ∧ FitsOk kns a ∧ ∀ H', Same H H' → Q (.bl true) H'
theorem asked_flat (z : Str) (xs : List V) (h : askedL z = some xs) : xs.all flatV = true := by
  unfold askedL at h
  split at h
  · cases h; decide +kernel
  · split at h
    · cases h; decide +kernel
    · split at h
      · cases h; decide +kernel
      · cases h
theorem sc_fits : FnScope ["knots", "lead", "word", "k"] ["knots", "lead", "word", "k"] (defScope (top 30)) := ⟨rfl, rfl, rfl, by decide +kernel, rfl, by decide +kernel, by decide +kernel⟩
theorem ok_fits (F : FnP K "fits" 30 f fd) (T : Txt w K mg) (C_is_whole : Cal P w K mg base CX0 1 "is_whole" spWhole) (C_length_of : Cal P w K mg base CX0 1 "length_of" spLength) : FnOk P w K mg base CX0 2 f fd ["knots", "lead", "word", "k"] spFits := by
  refine F.ok sc_fits (fun vs H Q E h => by obtain ⟨a, r, c, d, rfl, _⟩ := h; rfl) (fun cdv A outer s H vs Q E hr h => ?_)
  have nd := sc_fits.nd
  obtain ⟨a_ASKED, fA, g_ASKED, d_ASKED, f_ASKED⟩ := T.t_ASKED
  obtain ⟨kn, vs, kns, ⟨lead, word, c⟩, rfl, hkn, ek, okk, ⟨hw, hp, hi⟩, q⟩ := h
  refine ⟨_, PSs.nox 
    (pss_cons (ps_if (pt_not (pt_val (pe_fn C_is_whole hr (by rfl) pass0 (pa_cons (pv 1) pa_nil)))) 
      (pss_one (ps_ret pe_bl)) pss_nil)
    (pss_cons (ps_if (PW.pt (pw_or (pt_not (pt_chain op_le op_lt pe_int (pv 1) (pe_callB (x_len K) (by rfl) T.b_len PySem.boot_len (pa_cons (pv 0) pa_nil)))) (pw_or1 (pt_cmpR (x_notIn K) (pe_ix (x_tup K) (pe_ix (x_tup K) (pv 0) (pv 1) (fun _ _ => rfl)) pe_int (fun _ _ => rfl)) (pe_kget2 d_ASKED (C8.pe_gc (v := .ref a_ASKED) (by rfl) ⟨_, g_ASKED, rfl⟩) (pv 2) (pe_tup (pa_cons pe_str pa_nil)) ⟨by rfl, by rfl, by rfl, by rfl⟩) (by rfl))))) 
      (pss_one (ps_ret pe_bl)) pss_nil)
    (pss_one (ps_ret (pe_or (pe_cmpR (x_notIn K) (pv 2) (pe_tup (pa_cons pe_str (pa_cons pe_str pa_nil))) (by rfl)) (pe_one (pe_cmpR op_lt (pv 3) (pe_fn C_length_of hr (by rfl) pass0 (pa_cons (pe_ix (x_tup K) (pv 0) (pv 1) (fun _ _ => rfl)) pa_nil)) (nomark _)))))))), ?_⟩
  refine ⟨_, rfl, lead, rfl, hp, _, rfl, ?_⟩
  cases lead with
  | int i =>
    obtain ⟨j, k, rfl, hj, hin, hls⟩ := hi i rfl
    have jl := lt_of_get hj
    obtain ⟨v, hv, hk⟩ := ek.get hj
    obtain ⟨a, l, b, rfl, ha, _, _⟩ := id hk.ex
    refine ⟨_, rfl, _, _, rfl, rfl, _, rfl, ?_⟩
    rw [decide_eq_true (show (0 : Int) ≤ (j : Nat) by omega)]
    refine ⟨_, rfl, _, _, rfl, .inr ⟨_, .of hkn, rfl⟩, _, _, rfl, rfl, _, rfl, ?_⟩
    rw [ek.1, decide_eq_true (show ((j : Nat) : Int) < (kns.length : Nat) by omega)]
    refine ⟨_, rfl, _, rfl, kn, _, j, _, rfl, rfl, .of hkn, atI_n hv, a, _, 2, _, rfl, rfl, .of ha, at2, ?_⟩
    refine ⟨rfl, _, rfl, (by show 1 ≤ sizeLine; decide), fun t nt => ⟨word, rfl, hw, ?_⟩⟩
    have s1 : Same H (upd H t (.tup [.str "code"])) := same_upd nt
    have at1' : (upd H t (.tup [.str "code"])) t = some (.tup [.str "code"]) := upd_same
    revert s1 at1'
    generalize upd H t (.tup [.str "code"]) = H1
    intro s1 at1'
    have mid : ∃ p xs, (fA word).getD (.ref t) = .ref p ∧ SqT K H1 p xs ∧ xs.all flatV = true ∧ inV (.str k.sort) xs = true := by
      obtain ⟨g1, g2⟩ := f_ASKED word hw
      cases hf : fA word with
      | none =>
        rw [g2 hf] at hin
        exact ⟨t, _, rfl, .of at1', by decide, hin⟩
      | some v =>
        obtain ⟨b, xs, rfl, kt, e⟩ := g1 v hf
        rw [e] at hin
        exact ⟨b, xs, rfl, kt.seq _, asked_flat _ _ e, hin⟩
    obtain ⟨p, xs, e1, hx, fl, hin'⟩ := mid
    refine ⟨p, xs, e1, .inr hx, rfl, fl, _, rfl, ?_⟩
    show if (!inV (.str k.sort) xs) = true then _ else _
    rw [hin']
    refine ⟨_, rfl, (by show 2 ≤ sizeLine; decide), fun t2 nt2 => ⟨t2, _, rfl, .inr (.of upd_same), rfl, rfl, _, rfl, ?_⟩⟩
    show if (!inV (.str word) [.str "load", .str "store"]) = true then _ else _
    rw [isLS_in]
    have s2 : Same H1 (upd H1 t2 (.tup [.str "load", .str "store"])) := same_upd nt2
    cases hl : isLS word with
    | false => exact q _ (s1.trans s2)
    | true =>
      obtain ⟨n, rfl, hn⟩ := hls hl
      have s3 := s1.trans s2
      refine ⟨_, rfl, _, rfl, _, rfl, kn, _, j, _, rfl, rfl, .of (s3 _ _ hkn), atI_n hv, _, k, rfl, hk.same s3, okk k (List.mem_of_getElem? hj), _, _, rfl, rfl, ?_⟩
      show Q (.bl (decide (n < lenK k))) _
      rw [decide_eq_true hn]
      exact q _ s3
  | str z => exact q _ (Same.refl _)
  | non => exact q _ (Same.refl _)
  | _ => exact absurd (show false = true from hp) Bool.false_ne_true
def spAsc : Sp := fun args H Q _ => ∃ (a : Addr) (ns : List Nat) (m : Nat), args = [.ref a, .int m] ∧ H a = some (.tup (ns.map nV)) ∧ ns.Pairwise (· < ·) ∧ (∀ n ∈ ns, n < m) ∧ ∀ H', Same H H' → Q (.bl true) H'
theorem sc_is_ascending : FnScope ["thing", "many", "k", "knot"] ["thing", "many"] (defScope (top 22)) := ⟨rfl, rfl, rfl, by decide +kernel, rfl, by decide +kernel, by decide +kernel⟩
theorem ok_is_ascending (F : FnP K "is_ascending" 22 f fd) (T : Txt w K mg) (C_is_whole : Cal P w K mg base CX0 1 "is_whole" spWhole) : FnOk P w K mg base CX0 2 f fd ["thing", "many"] spAsc := by
  refine F.ok sc_is_ascending (fun vs H Q E h => by obtain ⟨a, r, c, rfl, _⟩ := h; rfl) (fun cdv A outer s H vs Q E hr h => ?_)
  have nd := sc_is_ascending.nd
  obtain ⟨a, ns, m, rfl, ha, asc, lt, q⟩ := h
  refine ⟨_, PSs.nox 
    (pss_cons (ps_if (pt_not (pt_val (pe_callB (x_isi K) (by rfl) T.b_isinstance (by decide +kernel) (pa_cons (pv 0) (pa_cons (pe_bltn (v := .ty "tuple") (by rfl) T.b_tuple (by decide +kernel) rfl) pa_nil))))) 
      (pss_one (ps_ret pe_bl)) pss_nil)
    (pss_cons (ps_for PassesOwn.never rfl (pi_enumT (by rfl) T.b_enumerate (pa_cons (pv 0) pa_nil)) (pg_tup rfl (pgs_cons (pg_name (i := 2) nd rfl (Or.inl rfl)) (pgs_cons (pg_name (i := 3) nd rfl (Or.inl rfl)) pgs_nil))) 
      (pss_one (ps_if (PW.pt (pw_or (pt_not (pt_val (pe_fn C_is_whole hr (by rfl) pass0 (pa_cons (pv 3) pa_nil)))) (pw_or (pt_not (pt_chain op_le op_lt pe_int (pv 3) (pv 1))) (pw_or1 (PW.pt (pw_and (pt_cmpR op_gt (pv 2) pe_int (nomark _)) (pw_and1 (pt_cmpR op_ge (pe_ix (x_tup K) (pv 0) (pe_op op_sub (pv 2) pe_int) (fun _ _ => rfl)) (pv 3) (nomark _))))))))) 
        (pss_one (ps_ret pe_bl)) pss_nil)))
    (pss_one (ps_ret pe_bl)))), ?_⟩
  refine ⟨_, rfl, _, _, _, _, true, rfl, .ty _, tyT ha, kit_ty (by decide +kernel), _, rfl, ?_⟩
  refine ⟨_, rfl, a, _, rfl, .of ha, ?_⟩
  refine for_it walkEnumT (fun i σ H' => (∃ u v, σ = [some (.ref a), some (.int m), u, v]) ∧ Same H H') ⟨⟨_, _, rfl⟩, Same.refl _⟩ (fun i σ H' _ p => .of (p.2 _ _ ha)) (fun i x σ H1 H2 hi p y => ?_) (fun σ H1 p => q _ p.2)
  obtain ⟨⟨u, v, rfl⟩, s1⟩ := p
  obtain ⟨t, c, y, rfl, nt, rfl, hc, hy⟩ := y
  cases hc
  replace hy : (ns.map nV)[i]? = some y := hy
  rw [List.getElem?_map] at hy
  obtain ⟨n, hn, rfl⟩ := Option.map_eq_some_iff.mp hy
  have hm := lt n (List.mem_of_getElem? hn)
  have s2 : Same H1 (upd H1 t (.tup [.int (i : Nat), nV n])) := same_upd nt
  have s3 := s1.trans s2
  refine ⟨t, _, rfl, .of upd_same, rfl, _, _, rfl, _, _, rfl, rfl, ?_⟩
  refine ⟨_, rfl, _, rfl, rfl, _, rfl, ?_⟩
  refine ⟨_, rfl, _, _, rfl, rfl, _, rfl, ?_⟩
  rw [decide_eq_true (show (0 : Int) ≤ (n : Nat) by omega)]
  refine ⟨_, rfl, _, _, rfl, rfl, _, rfl, ?_⟩
  rw [decide_eq_true (show ((n : Nat) : Int) < (m : Nat) by omega)]
  refine ⟨_, rfl, _, _, rfl, rfl, _, rfl, ?_⟩
  by_cases h0 : (0 : Int) < (i : Nat)
  · rw [decide_eq_true h0]
    have hi' : i - 1 < ns.length := by have := lt_of_get hn; omega
    have hp : (ns.map nV)[i - 1]? = some (nV ns[i - 1]) := by rw [List.getElem?_map, List.getElem?_eq_getElem hi']; rfl
    have e : ((i : Nat) : Int) - 1 = ((i - 1 : Nat) : Int) := by omega
    refine ⟨_, rfl, _, rfl, _, _, rfl, rfl, a, _, (i - 1 : Nat), _, rfl, congrArg V.int e, .of (s3 _ _ ha), atI_n hp, _, rfl, _, _, rfl, rfl, _, rfl, ?_⟩
    have hlt : ns[i - 1] < n := by
      have hn' : i < ns.length := lt_of_get hn
      have := List.pairwise_iff_getElem.mp asc (i - 1) i hi' hn' (by omega)
      rw [List.getElem?_eq_getElem hn'] at hn
      cases hn
      exact this
    rw [decide_eq_false (show ¬ ((n : Nat) : Int) ≤ ((ns[i - 1] : Nat) : Int) by omega)]
    exact ⟨⟨_, _, rfl⟩, s3⟩
  · rw [decide_eq_false h0]
    exact ⟨⟨_, _, rfl⟩, s3⟩
end
end K41
set_option maxHeartbeats 4000000
namespace K41
open PySem PySem.Spec PyProof.Rows L2
def lab (k : Kn) : Int × Str := (k.num, k.nm)
structure WbOk (W : Wb) : Prop where
  few : W.kns.length ≤ 200
  kn : ∀ k ∈ W.kns, KnOk k
  labs : (W.kns.map lab).Nodup
  fit : ∀ k ∈ W.kns, ∀ a ∈ asksOf k, FitsOk W.kns a
  ra : W.roots.Pairwise (· < ·)
  rn : ∀ r ∈ W.roots, r < W.kns.length
  oa : W.outs.Pairwise (· < ·)
  oo : ∀ o ∈ W.outs, o ∈ W.roots
/-! ### labels as data -/
def LabAt (H : Hp) (v : V) (a : Int × Str) : Prop := ∃ l, v = .ref l ∧ H l = some (.tup [.int a.1, .str a.2])
theorem labAt_st : Steady LabAt := fun D H H' hl h v a ⟨t, e, ht⟩ => ⟨t, e, h t _ (fun z => by subst z; obtain ⟨l, hl⟩ := hl; rw [hl] at ht; cases ht) ht⟩
def labD (a : Int × Str) : PyData := .tuple [.int a.1, .str a.2]
theorem lab_dp {K : PySem.W.Frag} {H : Hp} {v : V} {a : Int × Str} (h : LabAt H v a) : Dp K H v (labD a) := by
  obtain ⟨l, rfl, hl⟩ := h
  exact .tup (.of hl) (.cons (.int _) (.cons (.str _) .nil))
theorem labs_dp {K : PySem.W.Frag} {H : Hp} : ∀ {vs : List V} {as : List (Int × Str)}, Each (LabAt H) vs as → DpAll K H vs (as.map labD)
  | [], [], _ => .nil
  | [], _ :: _, e => absurd e.1 (by simp)
  | _ :: _, [], e => absurd e.1 (by simp)
  | _ :: _, _ :: _, e => .cons (lab_dp e.tail.1) (labs_dp e.tail.2)
theorem strOk_nm {z : Str} (h : isNm z = true) : PyData.strOk z = true := by
  unfold isNm at h
  simp only [Bool.and_eq_true, decide_eq_true_eq] at h
  have h4 := h.2
  unfold PyData.strOk
  rw [Array.all_eq_true_iff_forall_mem]
  intro c hc
  have := List.all_eq_true.mp h4 c (by simpa using hc)
  have hm : c ∈ lettersS.cps.toList := of_decide_eq_true this
  have : ∀ d ∈ lettersS.cps.toList, d < 0x110000 := by decide +kernel
  exact decide_eq_true (this c hm)
theorem lab_shaped {a : Int × Str} (h : isNm a.2 = true) : SeqAt.shaped (labD a) = true := by
  unfold SeqAt.shaped labD
  simp [PyData.canLay0, PyData.canLayAll0, PyData.depth, PyData.depthAll, strOk_nm h]
theorem labs_lay : ∀ {as : List (Int × Str)}, (∀ a ∈ as, isNm a.2 = true) → PyData.canLayAll0 (as.map labD) = true ∧ PyData.depthAll (as.map labD) ≤ 1
  | [], _ => ⟨rfl, by simp [PyData.depthAll]⟩
  | a :: as, h => by
    have ih := labs_lay (as := as) fun b hb => h b (List.mem_cons_of_mem _ hb)
    have h0 := h a List.mem_cons_self
    refine ⟨?_, ?_⟩
    · simp only [List.map_cons, PyData.canLayAll0, ih.1, Bool.and_true]
      simp [labD, PyData.canLay0, PyData.canLayAll0, strOk_nm h0]
    · simp only [List.map_cons, PyData.depthAll]
      have : PyData.depth (labD a) = 1 := by simp [labD, PyData.depth, PyData.depthAll]
      rw [this]
      have := ih.2
      omega
theorem labs_shaped {as : List (Int × Str)} (h : ∀ a ∈ as, isNm a.2 = true) : SeqAt.shaped (.list (as.map labD)) = true := by
  obtain ⟨h1, h2⟩ := labs_lay h
  show (PyData.canLayAll0 (as.map labD) && decide (PyData.depthAll (as.map labD) + 1 ≤ 64)) = true
  rw [h1, decide_eq_true (by omega)]
  rfl
theorem lab_eqv (a b : Int × Str) : PyData.eqv (labD a) (labD b) = decide (a = b) := by
  unfold labD
  simp only [PyData.eqv, PyData.eqvAll, Bool.and_true]
  obtain ⟨a1, a2⟩ := a
  obtain ⟨b1, b2⟩ := b
  by_cases h : a1 = b1 <;> by_cases h' : a2 = b2 <;> simp [h, h']
theorem lab_none {as : List (Int × Str)} {a : Int × Str} (h : a ∉ as) : ((as.map labD).any fun z => PyData.eqv z (labD a)) = false := by
  rw [List.any_eq_false]
  intro x hx
  obtain ⟨b, hb, rfl⟩ := List.mem_map.mp hx
  rw [lab_eqv]
  simp only [decide_eq_true_eq]
  rintro rfl
  exact h hb
theorem cutTo (xs : List V) {k : Nat} (h : k ≤ xs.length) : cutV xs none (some (k : Int)) = xs.take k := by
  unfold cutV
  rw [HT.sIx_none, HT.sIx_nat, Nat.min_eq_left h]
  simp
section
variable {P : Program} {w : World} {K : PySem.W.Frag} {mg : Str → Option Value} {base : Heap} {f : Addr} {fd : FuncData}
def spWeb : Sp := fun args H Q _ => ∃ (v : V) (W : Wb), args = [v] ∧ WbAt H v W ∧ WbOk W ∧ ∀ H', Same H H' → Q (.bl true) H'
theorem sc_is_web : FnScope ["thing", "roots", "outs", "knots", "k", "knot", "lead", "word", "other"] ["thing"] (defScope (top 31)) := ⟨rfl, rfl, rfl, by decide +kernel, rfl, by decide +kernel, by decide +kernel⟩
theorem ok_is_web (F : FnP K "is_web" 31 f fd) (T : Txt w K mg) (C_is_knot : Cal P w K mg base CX0 6 "is_knot" spKnot) (C_asks : Cal P w K mg base CX0 2 "asks" spAsks) (C_fits : Cal P w K mg base CX0 2 "fits" spFits) (C_is_ascending : Cal P w K mg base CX0 2 "is_ascending" spAsc) :
    FnOk P w K mg base CX0 7 f fd ["thing"] spWeb := by
  refine F.ok sc_is_web (fun vs H Q E h => by obtain ⟨a, r, rfl, _⟩ := h; rfl) (fun cdv A outer s H vs Q E hr h => ?_)
  have nd := sc_is_web.nd
  have hu0 := hu0_of hr
  have hu65 := hu65_of hr
  obtain ⟨_, W, rfl, hW, ok, q⟩ := h
  obtain ⟨a, r, o, k, vs, rfl, ha, hrt, ho, hk, ek⟩ := hW.ex
  have lv : vs.length = W.kns.length := ek.1
  have few := ok.few
  refine ⟨_, PSs.nox 
    (pss_cons (ps_if (PW.pt (pw_or (pt_not (pt_val (pe_callB (x_isi K) (by rfl) T.b_isinstance (by decide +kernel) (pa_cons (pv 0) (pa_cons (pe_bltn (v := .ty "tuple") (by rfl) T.b_tuple (by decide +kernel) rfl) pa_nil))))) (pw_or (pt_cmpR op_ne (pe_callB (x_len K) (by rfl) T.b_len PySem.boot_len (pa_cons (pv 0) pa_nil)) pe_int (nomark _)) (pw_or1 (pt_cmpR op_ne (pe_ix (x_tup K) (pv 0) pe_int (fun _ _ => rfl)) pe_str (nomark _)))))) 
      (pss_one (ps_ret pe_bl)) pss_nil)
    (pss_cons (ps_asg (pe_slice (x_slA K) (pv 0) (po_some pe_int) po_none) (pg_tup rfl (pgs_cons (pg_name (i := 1) nd rfl (Or.inr rfl)) (pgs_cons (pg_name (i := 2) nd rfl (Or.inl rfl)) (pgs_cons (pg_name (i := 3) nd rfl (Or.inl rfl)) pgs_nil)))))
    (pss_cons (ps_if (PW.pt (pw_or (pt_not (pt_val (pe_callB (x_isi K) (by rfl) T.b_isinstance (by decide +kernel) (pa_cons (pv 3) (pa_cons (pe_bltn (v := .ty "tuple") (by rfl) T.b_tuple (by decide +kernel) rfl) pa_nil))))) (pw_or1 (pt_cmpR op_gt (pe_callB (x_len K) (by rfl) T.b_len PySem.boot_len (pa_cons (pv 3) pa_nil)) (C8.pe_gc (by rfl) T.g_MOST_KNOTS) (nomark _))))) 
      (pss_one (ps_ret pe_bl)) pss_nil)
    (pss_cons (ps_for PassesOwn.never rfl (pi_enumT (by rfl) T.b_enumerate (pa_cons (pv 3) pa_nil)) (pg_tup rfl (pgs_cons (pg_name (i := 4) nd rfl (Or.inl rfl)) (pgs_cons (pg_name (i := 5) nd rfl (Or.inl rfl)) pgs_nil))) 
      (pss_one (ps_if (PW.pt (pw_or (pt_not (pt_val (pe_fn C_is_knot hr (by rfl) pass0 (pa_cons (pv 5) pa_nil)))) (pw_or1 (pt_cmpR (x_inD K hu65) (pe_ix (x_tup K) (pv 5) pe_int (fun _ _ => rfl)) (pe_lc (own := [("other", 8)]) rfl nd (pi_tup (pe_slice (x_slA K) (pv 3) po_none (po_some (pv 4)))) (blkOk_by (own := [("other", 8)]) (N := ["thing", "roots", "outs", "knots", "k", "knot", "lead", "word", "other"]) (sc := defScope (top 31)) (by decide +kernel)) (fun _ _ _ _ _ => (pg_name (i := 8) nd rfl (Or.inl rfl))) (fun _ _ _ _ _ => pts_nil) (fun _ _ _ _ _ => (pe_ix (x_tup K) (pv 8) pe_int (fun _ _ => rfl)))) (by rfl))))) 
        (pss_one (ps_ret pe_bl)) pss_nil)))
    (pss_cons (ps_for PassesOwn.never rfl (pi_tup (pv 3)) (pg_name (i := 5) nd rfl (Or.inl rfl)) 
      (pss_one (ps_for PassesOwn.never rfl (pi_list (pe_fn C_asks hr (by rfl) pass0 (pa_cons (pv 5) pa_nil))) (pg_tup rfl (pgs_cons (pg_name (i := 6) nd rfl (Or.inl rfl)) (pgs_cons (pg_name (i := 7) nd rfl (Or.inl rfl)) (pgs_cons (pg_name (i := 4) nd rfl (Or.inl rfl)) pgs_nil)))) 
        (pss_one (ps_if (pt_not (pt_val (pe_fn C_fits hr (by rfl) pass0 (pa_cons (pv 3) (pa_cons (pv 6) (pa_cons (pv 7) (pa_cons (pv 4) pa_nil))))))) 
          (pss_one (ps_ret pe_bl)) pss_nil)))))
    (pss_cons (ps_if (PW.pt (pw_or (pt_not (pt_val (pe_fn C_is_ascending hr (by rfl) pass0 (pa_cons (pv 1) (pa_cons (pe_callB (x_len K) (by rfl) T.b_len PySem.boot_len (pa_cons (pv 3) pa_nil)) pa_nil))))) (pw_or1 (pt_not (pt_val (pe_fn C_is_ascending hr (by rfl) pass0 (pa_cons (pv 2) (pa_cons (pe_callB (x_len K) (by rfl) T.b_len PySem.boot_len (pa_cons (pv 3) pa_nil)) pa_nil)))))))) 
      (pss_one (ps_ret pe_bl)) pss_nil)
    (pss_one (ps_ret (pe_cmpR (x_eqNil K hu0) (pe_lc (own := [("knot", 5)]) rfl nd (pi_tup (pv 2)) (blkOk_by (own := [("knot", 5)]) (N := ["thing", "roots", "outs", "knots", "k", "knot", "lead", "word", "other"]) (sc := defScope (top 31)) (by decide +kernel)) (fun _ _ _ _ _ => (pg_name (i := 5) nd rfl (Or.inl rfl))) (fun _ _ _ _ _ => (pts_one (pt_cmpR (x_notIn K) (pv 5) (pv 1) (by rfl)))) (fun _ _ _ _ _ => (pv 5))) (pe_lst pa_nil) (nomark _)))))))))), ?_⟩
  refine ⟨_, rfl, _, _, _, _, true, rfl, .ty _, tyT ha, kit_ty (by decide +kernel), _, rfl, ?_⟩
  refine ⟨_, rfl, _, _, rfl, .inr ⟨_, .of ha, rfl⟩, rfl, _, rfl, ?_⟩
  refine ⟨_, rfl, a, _, 0, _, rfl, rfl, .of ha, at0, rfl, _, rfl, ?_⟩
  rw [seqT]
  refine ⟨_, rfl, _, rfl, a, _, rfl, .of ha, fun z => ?_, fun _ p1 np1 => ?_⟩
  · have z1 := z.1
    rw [show HT.sIx [V.str "web", V.ref r, V.ref o, V.ref k].length 0 (some 1) = min 1 4 from HT.sIx_nat _ 0 1] at z1
    omega
  rw [cut1]
  have s1 : Same H (upd H p1 (.tup [.ref r, .ref o, .ref k])) := same_upd np1
  refine ⟨p1, _, rfl, .of upd_same, rfl, _, _, rfl, _, _, rfl, _, _, rfl, rfl, ?_⟩
  revert s1
  generalize upd H p1 (.tup [.ref r, .ref o, .ref k]) = H1
  intro s1
  refine ⟨_, rfl, _, _, _, _, true, rfl, .ty _, tyT (s1 _ _ hk), kit_ty (by decide +kernel), _, rfl, ?_⟩
  refine ⟨_, rfl, _, _, rfl, .inr ⟨_, .of (s1 _ _ hk), rfl⟩, _, _, rfl, rfl, _, rfl, ?_⟩
  rw [decide_eq_false (show ¬ ((200 : Int) < (vs.length : Nat)) by omega)]
  refine ⟨_, rfl, k, _, rfl, .of (s1 _ _ hk), ?_⟩
  refine for_it walkEnumT (fun i σ H' => (∃ u1 u2 u3 u4 u5, σ = [some (.ref a), some (.ref r), some (.ref o), some (.ref k), u1, u2, u3, u4, u5]) ∧ Same H H') ⟨⟨_, _, _, _, _, rfl⟩, s1⟩ (fun i σ H' _ p => .of (p.2 _ _ hk)) (fun i x σ H2 H3 hi p y => ?_) (fun σ H2 p => ?_)
  · obtain ⟨⟨u1, u2, u3, u4, u5, rfl⟩, s2⟩ := p
    obtain ⟨t, c, y, rfl, nt, rfl, hc, hy⟩ := y
    cases hc
    replace hy : vs[i]? = some y := hy
    obtain ⟨kn, hkn, hy'⟩ := ek.back hy
    have s3 : Same H (upd H2 t (.tup [.int (i : Nat), y])) := s2.trans (same_upd nt)
    refine ⟨t, _, rfl, .of upd_same, rfl, _, _, rfl, _, _, rfl, rfl, ?_⟩
    revert s3
    generalize upd H2 t (.tup [.int (i : Nat), y]) = H4
    intro s3
    refine ⟨_, rfl, y, kn, rfl, hy'.same s3, ok.kn kn (List.mem_of_getElem? hkn), fun H5 s5 => ⟨_, rfl, ?_⟩⟩
    have s6 := s3.trans s5
    obtain ⟨ya, yl, yb, rfl, hya, hyl, _⟩ := hy'.ex
    refine ⟨_, rfl, ya, _, 1, _, rfl, rfl, .of (s6 _ _ hya), at1, ?_⟩
    refine ⟨_, rfl, _, rfl, _, rfl, k, _, rfl, .of (s6 _ _ hk), fun z => ?_, fun _ p2 np2 => ?_⟩
    · have z1 := z.2
      rw [HT.sIx_nat, Nat.min_eq_left (by omega)] at z1
      omega
    rw [cutTo _ (by omega)]
    have s7 : Same H (upd H5 p2 (.tup (vs.take i))) := s6.trans (same_upd np2)
    have hp2 : (upd H5 p2 (.tup (vs.take i))) p2 = some (.tup (vs.take i)) := upd_same
    revert s7 hp2
    generalize upd H5 p2 (.tup (vs.take i)) = H6
    intro s7 hp2
    refine ⟨_, rfl, ⟨_, .of hp2⟩, fun D nD => ?_⟩
    refine lc_it walk_tup (fun j H' => AccE LabAt H6 D (fun j => (W.kns.take j).map lab) j H') (AccE.start nD rfl) (fun j H' _ p' => .of (p'.1 _ _ hp2)) (fun j x H7 H8 hj p' y => ?_) (fun H7 p' => ?_)
    · obtain ⟨rfl, hx⟩ := y
      have hj' : j < i := by rw [List.length_take] at hj; omega
      rw [List.getElem?_take_of_lt hj'] at hx
      obtain ⟨ko, hko, ho'⟩ := ek.back hx
      obtain ⟨oa, ol, ob, rfl, hoa, hol, _⟩ := ho'.ex
      have s8 := s7.trans p'.1
      refine ⟨rfl, _, rfl, oa, _, 1, _, rfl, rfl, .of (s8 _ _ hoa), at1, AccE.put labAt_st nD p' (Same.refl _) (small1000 (by simp; omega)) (a := lab ko) (by simp only [take1 hko, List.map_append]; rfl) ⟨ol, rfl, s8 _ _ hol⟩⟩
    · obtain ⟨s8, ys, hys, ey⟩ := p'
      have el : (vs.take i).length = i := by rw [List.length_take]; omega
      simp only [el] at ey
      have s9 := s7.trans s8
      have nms : ∀ x ∈ (W.kns.take i).map lab, isNm x.2 = true := fun x hx => by
        obtain ⟨kx, hkx, rfl⟩ := List.mem_map.mp hx
        exact (ok.kn kx (List.mem_of_mem_take hkx)).nm
      refine ⟨labD (lab kn), ((W.kns.take i).map lab).map labD, lab_dp ⟨yl, rfl, s9 _ _ hyl⟩, .lst (.of hys) (labs_dp ey), lab_shaped (ok.kn kn (List.mem_of_getElem? hkn)).nm, labs_shaped nms, _, rfl, ?_⟩
      have fresh : lab kn ∉ (W.kns.take i).map lab := fun hm => by
        have e : (W.kns.map lab).take i = (W.kns.take i).map lab := by rw [List.map_take]
        rw [← e] at hm
        obtain ⟨j, hj, hje⟩ := List.mem_iff_getElem.mp hm
        rw [List.length_take] at hj
        have hil := lt_of_get hkn
        have hji : j < i := by omega
        rw [List.getElem_take] at hje
        have := List.nodup_iff_pairwise_ne.mp ok.labs
        have := List.pairwise_iff_getElem.mp this j i (by simp; omega) (by simp; omega) hji
        rw [List.getElem?_eq_getElem hil] at hkn
        cases hkn
        exact this (by rw [hje]; simp)
      rw [lab_none fresh]
      exact ⟨⟨_, _, _, _, _, rfl⟩, s9⟩
  · obtain ⟨⟨u1, u2, u3, u4, u5, rfl⟩, s2⟩ := p
    refine ⟨_, rfl, k, rfl, ⟨_, .of (s2 _ _ hk)⟩, ?_⟩
    refine for_it walk_tup (fun i σ H' => (∃ u1 u2 u3 u4 u5, σ = [some (.ref a), some (.ref r), some (.ref o), some (.ref k), u1, u2, u3, u4, u5]) ∧ Same H H') ⟨⟨_, _, _, _, _, rfl⟩, s2⟩ (fun i σ H' _ p => .of (p.2 _ _ hk)) (fun i x σ H2 H3 hi p y => ?_) (fun σ H2 p => ?_)
    · obtain ⟨⟨u1, u2, u3, u4, u5, rfl⟩, s2⟩ := p
      obtain ⟨rfl, hy⟩ := y
      obtain ⟨kn, hkn, hy'⟩ := ek.back hy
      have hm := List.mem_of_getElem? hkn
      refine ⟨_, rfl, x, kn, rfl, hy'.same s2, ok.kn kn hm, fun H4 D xs s4 nD hD ea => ⟨D, rfl, ⟨_, .of hD⟩, ?_⟩⟩
      have s5 := s2.trans s4
      refine for_it walk_list (fun i σ H' => (∃ u1 u3 u4 u5, σ = [some (.ref a), some (.ref r), some (.ref o), some (.ref k), u1, some x, u3, u4, u5]) ∧ Same H4 H') ⟨⟨_, _, _, _, rfl⟩, Same.refl _⟩ (fun i σ H' _ p => .of (p.2 _ _ hD)) (fun i x2 σ H5 H6 hi p y => ?_) (fun σ H5 p => ?_)
      · obtain ⟨⟨u1, u3, u4, u5, rfl⟩, s6⟩ := p
        obtain ⟨rfl, hy⟩ := y
        obtain ⟨ask, hask, t, rfl, ht⟩ := ea.back hy
        refine ⟨t, _, rfl, .of (s6 _ _ ht), rfl, _, _, rfl, _, _, rfl, _, _, rfl, rfl, ?_⟩
        have s7 := s5.trans s6
        refine ⟨_, rfl, _, rfl, _, rfl, _, rfl, k, vs, W.kns, ask, rfl, s7 _ _ hk, ek.mono fun _ _ => KnAt.same s7, ok.kn, ok.fit kn hm ask (List.mem_of_getElem? hask), fun H7 s8 => ⟨_, rfl, ?_⟩⟩
        exact ⟨⟨_, _, _, _, rfl⟩, s6.trans s8⟩
      · obtain ⟨⟨u1, u3, u4, u5, rfl⟩, s6⟩ := p
        exact ⟨⟨_, _, _, _, _, rfl⟩, s5.trans s6⟩
    · obtain ⟨⟨u1, u2, u3, u4, u5, rfl⟩, s2⟩ := p
      refine ⟨_, rfl, _, rfl, _, _, rfl, .inr ⟨_, .of (s2 _ _ hk), rfl⟩, r, W.roots, W.kns.length, by rw [lv]; rfl, s2 _ _ hrt, ok.ra, ok.rn, fun H3 s3 => ⟨_, rfl, ?_⟩⟩
      have s4 := s2.trans s3
      refine ⟨_, rfl, _, rfl, _, _, rfl, .inr ⟨_, .of (s4 _ _ hk), rfl⟩, o, W.outs, W.kns.length, by rw [lv]; rfl, s4 _ _ ho, ok.oa, fun n hn => ok.rn n (ok.oo n hn), fun H4 s5 => ⟨_, rfl, ?_⟩⟩
      have s6 := s4.trans s5
      refine ⟨_, rfl, o, rfl, ⟨_, .of (s6 _ _ ho)⟩, fun D nD => ?_⟩
      refine lc_it walk_tup (fun i H' => Acc H4 D (fun _ => []) i H') (Acc.start nD rfl) (fun i H' _ p' => .of (p'.1 _ _ (s6 _ _ ho))) (fun i x H5 H6 hi p' y => ?_) (fun H5 p' => ?_)
      · obtain ⟨rfl, hy⟩ := y
        rw [List.getElem?_map] at hy
        obtain ⟨n, hn, rfl⟩ := Option.map_eq_some_iff.mp hy
        have hmem := ok.oo n (List.mem_of_getElem? hn)
        refine ⟨rfl, _, rfl, _, rfl, r, _, rfl, .inr (.of (p'.1 _ _ (s6 _ _ hrt))), rfl, ?_, _, rfl, ?_⟩
        · rw [List.all_map]; exact List.all_eq_true.mpr fun _ _ => rfl
        · have e : inV (nV n) (W.roots.map nV) = true := by
            unfold inV
            rw [List.any_eq_true]
            exact ⟨nV n, List.mem_map.mpr ⟨n, hmem, rfl⟩, by show ((n : Int) == (n : Int)) = true; exact beq_self_eq_true _⟩
          show if (!inV (nV n) (W.roots.map nV)) = true then _ else _
          rw [e]
          exact Acc.pass p' (Same.refl _) rfl
      · refine ⟨Nat.zero_le _, fun p3 np3 => ⟨D, p3, [], rfl, rfl, .of (same_upd np3 _ _ p'.2), .of upd_same, ?_⟩⟩
        exact q _ ((s6.trans p'.1).trans (same_upd np3))
end
end K41
set_option maxHeartbeats 4000000
namespace K41
open PySem PySem.Spec PyProof.Rows L2
/-! ### a web as a graph -/
def leadI (a : Ask) : Option Int := match a.1 with
  | .int i => some i
  | _ => none
def ldL (k : Kn) : List Nat := (asksOf k).filterMap fun a => (leadI a).map Int.toNat
def Wb.ld (W : Wb) (j : Nat) : List Nat := match W.kns[j]? with
  | some k => ldL k
  | none => []
def Wb.gr (W : Wb) : FM.Gr := ⟨W.kns.length, W.roots, W.ld⟩
theorem leadI_some {a : Ask} {i : Int} (h : leadI a = some i) : a.1 = .int i := by
  unfold leadI at h
  split at h
  · rename_i e
    cases h
    exact e
  · cases h
theorem ld_mem {W : Wb} {j l : Nat} (h : l ∈ W.ld j) : ∃ k, W.kns[j]? = some k ∧ ∃ a ∈ asksOf k, ∃ i, leadI a = some i ∧ i.toNat = l := by
  unfold Wb.ld at h
  split at h
  · rename_i k hk
    obtain ⟨a, ha, e⟩ := List.mem_filterMap.mp h
    obtain ⟨i, hi, rfl⟩ := Option.map_eq_some_iff.mp e
    exact ⟨k, hk, a, ha, i, hi, rfl⟩
  · cases h
theorem gr_ok {W : Wb} (ok : WbOk W) : W.gr.Ok := by
  refine ⟨ok.rn, ok.ra.imp fun h => by omega, fun j l h => ?_⟩
  obtain ⟨k, hk, a, ha, i, hi, rfl⟩ := ld_mem h
  obtain ⟨_, _, f⟩ := ok.fit k (List.mem_of_getElem? hk) a ha
  obtain ⟨j', k', e, hk', _⟩ := f i (leadI_some hi)
  have := lt_of_get hk'
  show i.toNat < W.kns.length
  omega
theorem asks_len {k : Kn} (h : KnOk k) : (asksOf k).length ≤ 40 := by
  have b := h.body
  obtain ⟨num, nm, sort, body⟩ := k
  cases body with
  | room n => show 0 ≤ 40; omega
  | flat xs =>
    show (if sort = "table" then xs.filterMap askItem else []).length ≤ 40
    by_cases e : sort = "table"
    · rw [if_pos e]
      rcases b with b | ⟨b, _⟩
      · exact Nat.le_trans (List.length_filterMap_le _ _) (by omega)
      · subst e
        rcases b with b | b
        · exact absurd (show Str.ofString "table" = Str.ofString "data" from b) (by decide +kernel)
        · exact absurd (show Str.ofString "table" = Str.ofString "const" from b) (by decide +kernel)
    · rw [if_neg e]
      show 0 ≤ 40
      omega
  | code rows => exact Nat.le_trans (List.length_filterMap_le _ _) b.2.2.1
section
variable {P : Program} {w : World} {K : PySem.W.Frag} {mg : Str → Option Value} {base : Heap} {f : Addr} {fd : FuncData}
def spCkWeb : Sp := fun args H Q _ => ∃ (v : V) (W : Wb), args = [v] ∧ WbAt H v W ∧ WbOk W ∧ ∀ H', Same H H' → Q .non H'
theorem sc_check_web : FnScope ["web"] ["web"] (defScope (top 32)) := ⟨rfl, rfl, rfl, by decide +kernel, rfl, by decide +kernel, by decide +kernel⟩
theorem ok_check_web (F : FnP K "check_web" 32 f fd) (T : Txt w K mg) (C_is_web : Cal P w K mg base CX0 7 "is_web" spWeb) : FnOk P w K mg base CX0 8 f fd ["web"] spCkWeb := by
  refine F.ok sc_check_web (fun vs H Q E h => by obtain ⟨a, r, rfl, _⟩ := h; rfl) (fun cdv A outer s H vs Q E hr h => ?_)
  have nd := sc_check_web.nd
  obtain ⟨v, W, rfl, hW, ok, q⟩ := h
  refine ⟨_, PSs.nox 
    (pss_one (ps_if (pt_not (pt_val (pe_fn C_is_web hr (by rfl) pass0 (pa_cons (pv 0) pa_nil)))) 
      (pss_one ps_never) pss_nil)), ?_⟩
  exact ⟨_, rfl, v, W, rfl, hW, ok, fun H1 s1 => ⟨_, rfl, q _ s1⟩⟩
def spCkKnot : Sp := fun args H Q _ => ∃ (v : V) (W : Wb) (k : Nat), args = [v, .int k] ∧ WbAt H v W ∧ WbOk W ∧ k < W.kns.length ∧ ∀ H', Same H H' → Q .non H'
theorem sc_check_knot : FnScope ["web", "knot"] ["web", "knot"] (defScope (top 33)) := ⟨rfl, rfl, rfl, by decide +kernel, rfl, by decide +kernel, by decide +kernel⟩
theorem ok_check_knot (F : FnP K "check_knot" 33 f fd) (T : Txt w K mg) (C_check_web : Cal P w K mg base CX0 8 "check_web" spCkWeb) (C_is_whole : Cal P w K mg base CX0 1 "is_whole" spWhole) : FnOk P w K mg base CX0 9 f fd ["web", "knot"] spCkKnot := by
  refine F.ok sc_check_knot (fun vs H Q E h => by obtain ⟨a, r, k, rfl, _⟩ := h; rfl) (fun cdv A outer s H vs Q E hr h => ?_)
  have nd := sc_check_knot.nd
  obtain ⟨v, W, k, rfl, hW, ok, hk, q⟩ := h
  refine ⟨_, PSs.nox 
    (pss_cons (ps_expr (pe_fn C_check_web hr (by rfl) pass0 (pa_cons (pv 0) pa_nil)))
    (pss_one (ps_if (PW.pt (pw_or (pt_not (pt_val (pe_fn C_is_whole hr (by rfl) pass0 (pa_cons (pv 1) pa_nil)))) (pw_or1 (pt_not (pt_chain op_le op_lt pe_int (pv 1) (pe_callB (x_len K) (by rfl) T.b_len PySem.boot_len (pa_cons (pe_ix (x_tup K) (pv 0) pe_int (fun _ _ => rfl)) pa_nil))))))) 
      (pss_one ps_never) pss_nil))), ?_⟩
  refine ⟨_, rfl, v, W, rfl, hW, ok, fun H1 s1 => ?_⟩
  obtain ⟨a, r, o, kt, vs, rfl, ha, hrt, ho, hkt, ek⟩ := (hW.same s1).ex
  refine ⟨_, rfl, _, rfl, rfl, _, rfl, ?_⟩
  refine ⟨_, rfl, _, _, rfl, rfl, _, rfl, ?_⟩
  rw [decide_eq_true (show (0 : Int) ≤ (k : Nat) by omega)]
  refine ⟨_, rfl, a, _, 3, _, rfl, rfl, .of ha, at3, _, _, rfl, .inr ⟨_, .of hkt, rfl⟩, _, _, rfl, rfl, _, rfl, ?_⟩
  rw [ek.1, decide_eq_true (show ((k : Nat) : Int) < (W.kns.length : Nat) by omega)]
  exact q _ s1
def spLeads : Sp := fun args H Q _ => ∃ (v : V) (W : Wb) (k : Nat), args = [v, .int k] ∧ WbAt H v W ∧ WbOk W ∧ k < W.kns.length ∧
  ∀ H' D (ns : List Nat), Same H H' → H D = none → H' D = some (.lst (ns.map nV)) → ns.Nodup → (∀ x, x ∈ ns ↔ x ∈ W.ld k) → Q (.ref D) H'
theorem ints_nats : ∀ {l : List Int}, (∀ i ∈ l, 0 ≤ i) → l.map V.int = (l.map Int.toNat).map nV
  | [], _ => rfl
  | i :: l, h => by
    have h0 := h i List.mem_cons_self
    rw [List.map_cons, List.map_cons, List.map_cons, ints_nats fun j hj => h j (List.mem_cons_of_mem _ hj)]
    have e : V.int i = nV i.toNat := congrArg V.int (by omega)
    rw [e]
theorem sc_leads_of : FnScope ["web", "knot", "lead", "word", "k"] ["web", "knot"] (defScope (top 34)) := ⟨rfl, rfl, rfl, by decide +kernel, rfl, by decide +kernel, by decide +kernel⟩
theorem ok_leads_of (F : FnP K "leads_of" 34 f fd) (T : Txt w K mg) (C_asks : Cal P w K mg base CX0 2 "asks" spAsks) (C_is_whole : Cal P w K mg base CX0 1 "is_whole" spWhole) : FnOk P w K mg base CX0 3 f fd ["web", "knot"] spLeads := by
  refine F.ok sc_leads_of (fun vs H Q E h => by obtain ⟨a, r, k, rfl, _⟩ := h; rfl) (fun cdv A outer s H vs Q E hr h => ?_)
  have nd := sc_leads_of.nd
  obtain ⟨v, W, k, rfl, hW, ok, hk, q⟩ := h
  obtain ⟨a, r, o, kt, vs, rfl, ha, hrt, ho, hkt, ek⟩ := hW.ex
  have hkn : W.kns[k]? = some W.kns[k] := List.getElem?_eq_getElem hk
  have okk := ok.kn _ (List.mem_of_getElem? hkn)
  obtain ⟨v, hv, hkv⟩ := ek.get hkn
  refine ⟨_, PSs.nox 
    (pss_one (ps_ret (pe_callB (cr_sortedSet rfl) (by rfl) T.b_sorted (by decide +kernel) (pa_cons (pe_callTy (cr_setI rfl) (by rfl) T.b_set (by decide +kernel) (pa_cons (pe_lc (own := [("lead", 2), ("word", 3), ("k", 4)]) (g := gTup K 3 (gCons (gName 2) (gCons (gName 3) (gCons (gName 4) gNil)))) rfl nd (pi_list (pe_fn C_asks hr (by rfl) pass0 (pa_cons (pe_ix (x_tup K) (pe_ix (x_tup K) (pv 0) pe_int (fun _ _ => rfl)) (pv 1) (fun _ _ => rfl)) pa_nil))) (blkOk_by (own := [("lead", 2), ("word", 3), ("k", 4)]) (N := ["web", "knot", "lead", "word", "k"]) (sc := defScope (top 34)) (by decide +kernel)) (fun _ _ _ _ _ => (pg_tup rfl (pgs_cons (pg_name (i := 2) nd rfl (Or.inl rfl)) (pgs_cons (pg_name (i := 3) nd rfl (Or.inl rfl)) (pgs_cons (pg_name (i := 4) nd rfl (Or.inl rfl)) pgs_nil))))) (fun _ _ _ _ _ => (pts_one (pt_val (pe_fn C_is_whole hr (by rfl) pass0 (pa_cons (pv 2) pa_nil))))) (fun _ _ _ _ _ => (pv 2))) pa_nil)) pa_nil)))), ?_⟩
  refine ⟨_, rfl, a, _, 3, _, rfl, rfl, .of ha, at3, _, rfl, kt, _, k, _, rfl, rfl, .of hkt, atI_n hv, v, _, rfl, hkv, okk, fun H1 D xs s1 nD hD ea => ?_⟩
  refine ⟨D, rfl, ⟨_, .of hD⟩, fun D2 nD2 => ?_⟩
  have al := asks_len okk
  refine lc_it walk_list (fun i H' => Acc H1 D2 (fun i => ((asksOf W.kns[k]).take i |>.filterMap leadI).map V.int) i H') (Acc.start nD2 rfl) (fun i H' _ p' => .of (p'.1 _ _ hD)) (fun i x H2 H3 hi p' y => ?_) (fun H2 p' => ?_)
  · obtain ⟨rfl, hy⟩ := y
    obtain ⟨ask, hask, t, rfl, ht⟩ := ea.back hy
    obtain ⟨_, pl, _⟩ := ok.fit _ (List.mem_of_getElem? hkn) ask (List.mem_of_getElem? hask)
    have tk := fm_take (g := leadI) hask
    have few : (((asksOf W.kns[k]).take i |>.filterMap leadI).map V.int).length < sizeLine := small1000 (by rw [List.length_map]; exact Nat.le_trans (List.length_filterMap_le _ _) (by rw [List.length_take]; omega))
    refine ⟨t, _, rfl, .of (p'.1 _ _ ht), rfl, _, _, rfl, _, _, rfl, _, _, rfl, rfl, rfl, ?_⟩
    refine ⟨_, rfl, _, rfl, pl, _, rfl, ?_⟩
    obtain ⟨lead, word, c⟩ := ask
    cases lead with
    | int i' => exact ⟨_, rfl, Acc.put nD2 p' (Same.refl _) few (by simp only [tk]; simp [leadI])⟩
    | str z => exact Acc.pass p' (Same.refl _) (by simp only [tk]; simp [leadI])
    | non => exact Acc.pass p' (Same.refl _) (by simp only [tk]; simp [leadI])
    | _ => exact absurd (show false = true from pl) Bool.false_ne_true
  · obtain ⟨s2, h2⟩ := p'
    simp only [ea.1, List.take_length] at h2
    refine ⟨D2, _, rfl, .of h2, Nat.le_trans (List.length_filterMap_le _ _) (by omega), fun p c np hc => ?_⟩
    have hc' : c ≤ 40 := Nat.le_trans hc (Nat.le_trans (List.length_filterMap_le _ _) al)
    refine ⟨p, _, c, rfl, upd_same, by omega, fun ns p2 asc mem len np2 => ?_⟩
    have s3 : Same H1 (upd H2 p (SetO w p (fun j => decide (j ∈ (asksOf W.kns[k]).filterMap leadI)) c)) := s2.trans (same_upd np)
    have nn : ∀ i ∈ ns, 0 ≤ i := fun i hi => by
      have := of_decide_eq_true ((mem i).mp hi)
      obtain ⟨ask, hm, e⟩ := List.mem_filterMap.mp this
      obtain ⟨_, _, f⟩ := ok.fit _ (List.mem_of_getElem? hkn) ask hm
      obtain ⟨j, _, e2, _⟩ := f i (leadI_some e)
      omega
    refine q _ p2 (ns.map Int.toNat) (s1.trans (s3.trans (same_upd np2))) (Same.free (s1.trans s3) np2) (by rw [upd_same, ints_nats nn]) ?_ fun x => ?_
    · rw [List.nodup_iff_pairwise_ne, List.pairwise_map]
      refine List.Pairwise.imp_of_mem (fun {a b} ha hb h => ?_) asc
      have h1 := nn a ha
      have h2 := nn b hb
      omega
    · have e : W.ld k = ldL W.kns[k] := by
        unfold Wb.ld
        rw [hkn]
      rw [e]
      unfold ldL
      rw [List.mem_map, List.mem_filterMap]
      constructor
      · rintro ⟨i, hi, rfl⟩
        obtain ⟨ask, hm, e⟩ := List.mem_filterMap.mp (of_decide_eq_true ((mem i).mp hi))
        exact ⟨ask, hm, by rw [e]; rfl⟩
      · rintro ⟨ask, hm, e⟩
        obtain ⟨i, hi, rfl⟩ := Option.map_eq_some_iff.mp e
        exact ⟨i, (mem i).mpr (decide_eq_true (List.mem_filterMap.mpr ⟨ask, hm, hi⟩)), rfl⟩
end
end K41
set_option maxHeartbeats 4000000
namespace K41
open PySem PySem.Spec PyProof.Rows L2
/-- roads_of's state: the dict at D, its keys in the list at Ln -/
structure RI (G : FM.Gr) (H H' : Hp) (D Ln : Addr) (kvs : List (Key × V)) (ln : List Nat) : Prop where
  same : Same H H'
  hd : H' D = some (.dK kvs)
  hl : H' Ln = some (.lst (ln.map nV))
  kl : kvs.length = ln.length
  key : ∀ j : Int, (valV kvs (.inl j)).isSome = true ↔ ∃ k ∈ ln, j = ((k : Nat) : Int)
  val : ∀ j v, valV kvs (.inl j) = some v → ∃ p xs, v = .ref p ∧ H' p = some (.tup xs) ∧ xs ≠ [] ∧ xs.length ≤ ln.length
  nd : ln.Nodup
  kept : ∀ k ∈ ln, FM.Kept G k
section
variable {G : FM.Gr} {H H' H1 : Hp} {D Ln : Addr} {kvs : List (Key × V)} {ln : List Nat}
theorem RI.sub (r : RI G H H' D Ln kvs ln) (s : Same H' H1) : RI G H H1 D Ln kvs ln :=
  ⟨r.same.trans s, s _ _ r.hd, s _ _ r.hl, r.kl, r.key, fun j v h => let ⟨p, xs, e, h1, h2⟩ := r.val j v h; ⟨p, xs, e, s _ _ h1, h2⟩, r.nd, r.kept⟩
theorem RI.len (r : RI G H H' D Ln kvs ln) (ok : G.Ok) : ln.length ≤ G.n := by
  have := FM.len_le (l' := List.range G.n) r.nd fun k hk => List.mem_range.mpr ((r.kept k hk).lt ok)
  simpa using this
theorem RI.put (r : RI G H H' D Ln kvs ln) (nD : H D = none) (nL : H Ln = none) {k : Nat} (hk : k ∉ ln) (kk : FM.Kept G k) {p : Addr} {xs : List V} (hp : H' p = some (.tup xs)) (ne : xs ≠ []) (hx : xs.length ≤ ln.length + 1) :
    RI G H (upd (upd H' D (.dK (putK kvs (.inl (k : Nat)) (.ref p)))) Ln (.lst (ln.map nV ++ [nV k]))) D Ln (putK kvs (.inl (k : Nat)) (.ref p)) (ln ++ [k]) := by
  have dl : D ≠ Ln := fun z => by have := r.hd; rw [z, r.hl] at this; cases this
  have none_k : valV kvs (.inl (k : Nat)) = none := by
    cases h : valV kvs (.inl ((k : Nat) : Int)) with
    | none => rfl
    | some v =>
      obtain ⟨k', hk', e⟩ := (r.key k).mp (by rw [h]; rfl)
      have : k = k' := by omega
      exact absurd (this ▸ hk') hk
  have up : ∀ {b : Addr} {ys : List V}, H' b = some (.tup ys) → (upd (upd H' D (.dK (putK kvs (.inl (k : Nat)) (.ref p)))) Ln (.lst (ln.map nV ++ [nV k]))) b = some (.tup ys) := fun {b ys} h => by
    have b1 : b ≠ D := fun z => by rw [z, r.hd] at h; cases h
    have b2 : b ≠ Ln := fun z => by rw [z, r.hl] at h; cases h
    rw [upd_ne b2, upd_ne b1]
    exact h
  refine ⟨Same.keep (Same.keep r.same nD) nL, by rw [upd_ne dl]; exact upd_same, by rw [upd_same, List.map_append]; rfl, ?_, fun j => ?_, fun j v h => ?_, ?_, fun j hj => ?_⟩
  · rw [putK_new _ none_k, List.length_append, List.length_append, r.kl]
    rfl
  · rw [valV_put]
    by_cases e : (Sum.inl j : Key) = .inl ((k : Nat) : Int)
    · rw [if_pos e]
      cases e
      exact ⟨fun _ => ⟨k, by simp, rfl⟩, fun _ => rfl⟩
    · rw [if_neg e, r.key j]
      constructor
      · rintro ⟨k', h1, h2⟩
        exact ⟨k', by simp [h1], h2⟩
      · rintro ⟨k', h1, h2⟩
        rw [List.mem_append, List.mem_singleton] at h1
        rcases h1 with h1 | h1
        · exact ⟨k', h1, h2⟩
        · subst h1
          subst h2
          exact absurd rfl e
  · rw [valV_put] at h
    by_cases e : (Sum.inl j : Key) = .inl ((k : Nat) : Int)
    · rw [if_pos e] at h
      cases h
      exact ⟨p, xs, rfl, up hp, ne, by rw [List.length_append]; exact hx⟩
    · rw [if_neg e] at h
      obtain ⟨p', xs', e', h1, h2, h3⟩ := r.val j v h
      exact ⟨p', xs', e', up h1, h2, by rw [List.length_append]; omega⟩
  · rw [List.nodup_append]
    exact ⟨r.nd, by simp, fun a ha b hb => by rw [List.mem_singleton] at hb; rintro rfl; subst hb; exact hk ha⟩
  · rw [List.mem_append, List.mem_singleton] at hj
    rcases hj with hj | rfl
    · exact r.kept j hj
    · exact kk
theorem RI.has (r : RI G H H' D Ln kvs ln) (k : Nat) : (valV kvs (.inl ((k : Nat) : Int))).isSome = decide (k ∈ ln) := by
  rw [Bool.eq_iff_iff, r.key, decide_eq_true_eq]
  constructor
  · rintro ⟨k', h1, h2⟩
    have : k = k' := by omega
    exact this ▸ h1
  · exact fun h => ⟨k, h, rfl⟩
end
section
variable {P : Program} {w : World} {K : PySem.W.Frag} {mg : Str → Option Value} {base : Heap} {f : Addr} {fd : FuncData}
def spRoads : Sp := fun args H Q _ => ∃ (v : V) (W : Wb), args = [v, .non] ∧ WbAt H v W ∧ WbOk W ∧
  ∀ H' D kvs, Same H H' → H D = none → H' D = some (.dK kvs) → (∀ k : Nat, (valV kvs (.inl ((k : Nat) : Int))).isSome = true ↔ FM.Kept W.gr k) → Q (.ref D) H'
theorem sc_roads_of : FnScope ["web", "without", "roads", "line", "root", "at", "knot"] ["web", "without"] (defScope (top 36)) := ⟨rfl, rfl, rfl, by decide +kernel, rfl, by decide +kernel, by decide +kernel⟩
theorem ok_roads_of (F : FnP K "roads_of" 36 f fd) (T : Txt w K mg) (C_leads_of : Cal P w K mg base CX0 3 "leads_of" spLeads) : FnOk P w K mg base CX0 4 f fd ["web", "without"] spRoads := by
  refine F.ok sc_roads_of (fun vs H Q E h => by obtain ⟨a, r, rfl, _⟩ := h; rfl) (fun cdv A outer s H vs Q E hr h => ?_)
  have nd := sc_roads_of.nd
  have hu := hu_of hr
  obtain ⟨_, W, rfl, hW, ok, q⟩ := h
  obtain ⟨a, r, o, kt, vs, rfl, ha, hrt, ho, hkt, ek⟩ := id hW.ex
  have gok := gr_ok ok
  have fewW := ok.few
  have gn : W.gr.n = W.kns.length := rfl
  refine ⟨_, PSs.nox 
    (pss_cons (ps_par (i := 2) (j := 3) rfl nd rfl rfl (by decide) rfl rfl (pa_cons pe_dnewK (pa_cons (pe_lst pa_nil) pa_nil)) (by rfl))
    (pss_cons (ps_for PassesOwn.never rfl (pi_tup (pe_ix (x_tup K) (pv 0) pe_int (fun _ _ => rfl))) (pg_name (i := 4) nd rfl (Or.inl rfl)) 
      (pss_one (ps_if (pt_cmpR op_ne (pv 4) (pv 1) (nomark _)) 
        (pss_cons (ps_dput hu (pv 2) (pv 4) (pe_tup (pa_cons (pv 4) pa_nil)) rfl)
        (pss_one (ps_expr (pe_bm PySem.F.plainAttrs_list PySem.F.slot_list_append PySem.F.type_list_append mt_append (pv 3) (pa_cons (pv 4) pa_nil))))) pss_nil)))
    (pss_cons (ps_set (i := 5) nd rfl (Or.inl rfl) pe_int)
    (pss_cons (ps_while PassesOwn.never (pt_cmpR op_lt (pv 5) (pe_callB (x_len K) (by rfl) T.b_len PySem.boot_len (pa_cons (pv 3) pa_nil)) (nomark _)) 
      (pss_cons (ps_for PassesOwn.never rfl (pi_list (pe_fn C_leads_of hr (by rfl) pass0 (pa_cons (pv 0) (pa_cons (pe_ix (x_lst K) (pv 3) (pv 5) (fun _ _ => rfl)) pa_nil)))) (pg_name (i := 6) nd rfl (Or.inl rfl)) 
        (pss_one (ps_if (PW.pt (pw_and (pt_cmp (pc_dnotin hu (pv 6) (pv 2))) (pw_and1 (pt_cmpR op_ne (pv 6) (pv 1) (nomark _))))) 
          (pss_cons (ps_dput hu (pv 2) (pv 6) (pe_op (x_catA K) (pe_dget hu (pv 2) (pe_ix (x_lst K) (pv 3) (pv 5) (fun _ _ => rfl)) (fun _ _ => rfl)) (pe_tup (pa_cons (pv 6) pa_nil))) rfl)
          (pss_one (ps_expr (pe_bm PySem.F.plainAttrs_list PySem.F.slot_list_append PySem.F.type_list_append mt_append (pv 3) (pa_cons (pv 6) pa_nil))))) pss_nil)))
      (pss_one (ps_aug (i := 5) nd rfl (Or.inl rfl) pe_int ip_add))))
    (pss_one (ps_ret (pv 2))))))), ?_⟩
  intro D nD
  refine ⟨Nat.zero_le _, fun Ln nL0 => ⟨_, _, rfl, ?_⟩⟩
  have nL : H Ln = none := Same.free (same_upd nD) nL0
  have dl : D ≠ Ln := fun z => by rw [← z, upd_same] at nL0; cases nL0
  have R0 : RI W.gr H (upd (upd H D (.dK [])) Ln (.lst [])) D Ln [] [] := ⟨(same_upd nD).trans (same_upd nL0), by rw [upd_ne dl]; exact upd_same, upd_same, rfl, fun j => ⟨fun h => (by cases h), fun ⟨_, h, _⟩ => (by cases h)⟩, fun j v h => (by cases h), List.nodup_nil, fun _ h => (by cases h)⟩
  revert R0
  generalize upd (upd H D (.dK [])) Ln (.lst []) = H0
  intro R0
  refine ⟨_, rfl, a, _, 1, _, rfl, rfl, .of (R0.same _ _ ha), at1, r, rfl, ⟨_, .of (R0.same _ _ hrt)⟩, ?_⟩
  refine for_it walk_tup (fun i σ H' => (∃ u1 u2 u3, σ = [some (.ref a), some .non, some (.ref D), some (.ref Ln), u1, u2, u3]) ∧ ∃ kvs, RI W.gr H H' D Ln kvs (W.roots.take i)) ⟨⟨_, _, _, rfl⟩, [], R0⟩ (fun i σ H' _ p => by obtain ⟨_, kvs, R⟩ := p; exact .of (R.same _ _ hrt)) (fun i x σ H1 H2 hi p y => ?_) (fun σ H1 p => ?_)
  · obtain ⟨⟨u1, u2, u3, rfl⟩, kvs, R⟩ := p
    obtain ⟨rfl, hy⟩ := y
    rw [List.getElem?_map] at hy
    obtain ⟨n, hn, rfl⟩ := Option.map_eq_some_iff.mp hy
    refine ⟨_, rfl, _, rfl, rfl, _, rfl, ?_⟩
    rw [decide_eq_false (fun z => nomatch z)]
    have nin : n ∉ W.roots.take i := fun hm => by
      obtain ⟨j, hj, hje⟩ := List.mem_iff_getElem.mp hm
      rw [List.length_take] at hj
      have hil := lt_of_get hn
      rw [List.getElem_take] at hje
      have := List.pairwise_iff_getElem.mp ok.ra j i (by omega) hil (by omega)
      rw [List.getElem?_eq_getElem hil] at hn
      cases hn
      omega
    have il := lt_of_get hn
    have rl : W.roots.length ≤ W.kns.length := by
      have := FM.len_le (l' := List.range W.kns.length) (ok.ra.imp fun h => by omega : W.roots.Nodup) fun k hk => List.mem_range.mpr (ok.rn k hk)
      simpa using this
    refine ⟨_, rfl, (by show 1 ≤ sizeLine; decide), fun p np => ⟨_, rfl, _, rfl, D, _, rfl, DPut.k (k := .inl ((n : Nat) : Int)) ((R.sub (same_upd np)).hd) ?_, ?_⟩⟩
    · rw [R.kl, List.length_take]
      exact small1000 (by omega)
    have R1 := R.sub (same_upd (o := .tup [nV n]) np)
    have R2 := R1.put nD nL nin (.root (List.mem_of_getElem? hn) id) upd_same (by simp) (by simp)
    refine ⟨_, rfl, .inl ⟨rfl, _, .of (by rw [upd_ne dl.symm]; exact R1.hl)⟩, _, rfl, Ln, _, _, rfl, rfl, by rw [upd_ne dl.symm]; exact R1.hl, ?_, ?_⟩
    · rw [List.length_map, List.length_take]
      exact small1000 (by omega)
    · exact ⟨⟨_, _, _, rfl⟩, _, by rw [take1 hn]; exact R2⟩
  · obtain ⟨⟨u1, u2, u3, rfl⟩, kvs, R⟩ := p
    rw [List.length_map, List.take_length] at R
    let Pv : Nat → L2.St → Hp → Prop := fun m σ H' => ∃ (at' : Nat) (u1 u3 : Option V) (kvs : List (Key × V)) (ln : List Nat), σ = [some (.ref a), some .non, some (.ref D), some (.ref Ln), u1, some (.int (at' : Nat)), u3] ∧ RI W.gr H H' D Ln kvs ln ∧
      (∀ k ∈ W.roots, k ∈ ln) ∧ at' ≤ ln.length ∧ (∀ j k, j < at' → ln[j]? = some k → ∀ l ∈ W.ld k, l ∈ ln) ∧ m = W.kns.length - at'
    refine ⟨Pv, ⟨_, 0, _, _, kvs, W.roots, rfl, R, fun _ h => h, Nat.zero_le _, fun j k h => absurd h (Nat.not_lt_zero j), rfl⟩, fun m σ H' p => ?_⟩
    obtain ⟨at', u1, u3, kvs, ln, rfl, R, hroots, hat, hcl, rfl⟩ := p
    refine ⟨_, rfl, _, rfl, _, _, rfl, .inl ⟨_, .of R.hl, rfl⟩, _, _, rfl, rfl, _, rfl, ?_⟩
    rw [List.length_map]
    by_cases c : at' < ln.length
    · rw [decide_eq_true (show ((at' : Nat) : Int) < (ln.length : Nat) by omega)]
      refine ⟨fun σ' H'' => ∃ m', m' < W.kns.length - at' ∧ Pv m' σ' H'', fun _ _ z => z, ?_⟩
      have lnn := R.len gok
      have hk : ln[at']? = some ln[at'] := List.getElem?_eq_getElem c
      have hkm := List.mem_of_getElem? hk
      have hkV : (ln.map nV)[at']? = some (nV ln[at']) := by rw [List.getElem?_map, hk]; rfl
      refine ⟨_, rfl, _, rfl, _, rfl, Ln, _, at', _, rfl, rfl, .of R.hl, atI_n hkV, _, W, ln[at'], rfl, hW.same R.same, ok, (R.kept _ hkm).lt gok, fun H1 D1 ns s1 nD1 hD1 nns mem => ⟨D1, rfl, ⟨_, .of hD1⟩, ?_⟩⟩
      have R1 := R.sub s1
      have d1D : D1 ≠ D := fun z => by rw [z, R.hd] at nD1; cases nD1
      have d1L : D1 ≠ Ln := fun z => by rw [z, R.hl] at nD1; cases nD1
      refine for_it walk_list (fun i σ H' => (∃ u1 u3, σ = [some (.ref a), some .non, some (.ref D), some (.ref Ln), u1, some (.int (at' : Nat)), u3]) ∧ H' D1 = some (.lst (ns.map nV)) ∧ ∃ kvs' ln', RI W.gr H H' D Ln kvs' ln' ∧ (∃ tl, ln' = ln ++ tl) ∧ (∀ l ∈ ns.take i, l ∈ ln'))
        ⟨⟨_, _, rfl⟩, hD1, kvs, ln, R1, ⟨[], by simp⟩, fun _ h => (by cases h)⟩ (fun i σ H' _ p => .of p.2.1) (fun i x σ H2 H3 hi p y => ?_) (fun σ H2 p => ?_)
      · obtain ⟨⟨u1, u3, rfl⟩, hd2, kvs', ln', R2, ⟨tl, rfl⟩, hns⟩ := p
        obtain ⟨rfl, hy⟩ := y
        rw [List.getElem?_map] at hy
        obtain ⟨n, hn, rfl⟩ := Option.map_eq_some_iff.mp hy
        have hld : n ∈ W.ld ln[at'] := (mem n).mp (List.mem_of_getElem? hn)
        have lnn2 := R2.len gok
        refine ⟨_, rfl, _, rfl, D, _, rfl, DGet.k (k := .inl ((n : Nat) : Int)) R2.hd, _, rfl, ?_⟩
        rw [R2.has n]
        by_cases hm : n ∈ ln ++ tl
        · rw [decide_eq_true hm]
          exact ⟨⟨_, _, rfl⟩, hd2, kvs', _, R2, ⟨tl, rfl⟩, fun l hl => by
            rw [take1 hn, List.mem_append, List.mem_singleton] at hl
            rcases hl with hl | rfl
            · exact hns l hl
            · exact hm⟩
        · rw [decide_eq_false hm]
          refine ⟨_, rfl, _, rfl, rfl, _, rfl, ?_⟩
          rw [decide_eq_false (fun z => nomatch z)]
          have hk2 : (ln ++ tl)[at']? = some ln[at'] := by rw [List.getElem?_append_left c]; exact hk
          have hkV2 : ((ln ++ tl).map nV)[at']? = some (nV ln[at']) := by rw [List.getElem?_map, hk2]; rfl
          have hin : (valV kvs' (.inl ((ln[at'] : Nat) : Int))).isSome = true := by rw [R2.has, decide_eq_true (List.mem_of_getElem? hk2)]
          obtain ⟨v, hv⟩ := Option.isSome_iff_exists.mp hin
          obtain ⟨p, xs, rfl, hp, hne, hxl⟩ := R2.val _ _ hv
          refine ⟨_, rfl, _, rfl, _, rfl, Ln, _, at', _, rfl, rfl, .of R2.hl, atI_n hkV2, D, _, rfl, by rw [← hv]; exact DGet.k (k := .inl ((ln[at'] : Nat) : Int)) R2.hd, _, rfl, (by show 1 ≤ sizeLine; decide), fun p2 np2 => ?_⟩
          have s2 : Same H3 (upd H3 p2 (.tup [nV n])) := same_upd np2
          refine ⟨p, p2, xs, [nV n], rfl, rfl, .of (s2 _ _ hp), .of upd_same, ?_, fun z => absurd z hne, fun _ z => (by cases z), fun _ _ p3 np3 => ?_⟩
          · have : xs.length + 1 ≤ 1000 := by omega
            exact Nat.le_of_lt (small1000 this)
          have s3 : Same H3 (upd (upd H3 p2 (.tup [nV n])) p3 (.tup (xs ++ [nV n]))) := s2.trans (same_upd np3)
          have R3 := R2.sub s3
          have h3 : (upd (upd H3 p2 (.tup [nV n])) p3 (.tup (xs ++ [nV n]))) p3 = some (.tup (xs ++ [nV n])) := upd_same
          have hd3 := s3 _ _ hd2
          revert R3 h3 hd3
          generalize upd (upd H3 p2 (.tup [nV n])) p3 (.tup (xs ++ [nV n])) = H4
          intro R3 h3 hd3
          have R4 := R3.put nD nL hm (.lead (R.kept _ hkm) hld id) h3 (by simp) (by rw [List.length_append]; simpa using hxl)
          refine ⟨_, rfl, _, rfl, D, _, rfl, DPut.k (k := .inl ((n : Nat) : Int)) R3.hd ?_, ?_⟩
          · rw [R3.kl]
            exact small1000 (by omega)
          refine ⟨_, rfl, .inl ⟨rfl, _, .of (by rw [upd_ne dl.symm]; exact R3.hl)⟩, _, rfl, Ln, _, _, rfl, rfl, by rw [upd_ne dl.symm]; exact R3.hl, ?_, ?_⟩
          · rw [List.length_map]
            exact small1000 (by omega)
          · refine ⟨⟨_, _, rfl⟩, by rw [upd_ne d1L, upd_ne d1D]; exact hd3, _, _, R4, ⟨tl ++ [n], by simp⟩, fun l hl => ?_⟩
            rw [take1 hn, List.mem_append, List.mem_singleton] at hl
            rcases hl with hl | rfl
            · exact List.mem_append_left _ (hns l hl)
            · exact List.mem_append_right _ (by simp)
      · obtain ⟨⟨u1, u3, rfl⟩, hd2, kvs', ln', R2, ⟨tl, rfl⟩, hns⟩ := p
        rw [List.length_map, List.take_length] at hns
        refine ⟨_, rfl, _, _, rfl, rfl, ?_⟩
        have lnn2 := R2.len gok
        have e : W.gr.n = W.kns.length := rfl
        rw [e] at lnn lnn2
        refine ⟨W.kns.length - (at' + 1), by omega, at' + 1, _, _, kvs', ln ++ tl, rfl, R2, fun k hk => List.mem_append_left _ (hroots k hk), by rw [List.length_append]; omega, fun j k hj hjk l hl => ?_, rfl⟩
        by_cases e : j < at'
        · rw [List.getElem?_append_left (by omega)] at hjk
          exact List.mem_append_left _ (hcl j k e hjk l hl)
        · have : j = at' := by omega
          subst this
          rw [List.getElem?_append_left c, hk] at hjk
          cases hjk
          exact hns l ((mem l).mpr hl)
    · rw [decide_eq_false (show ¬ ((at' : Nat) : Int) < (ln.length : Nat) by omega)]
      refine ⟨_, rfl, q H' D kvs R.same nD R.hd fun k => ?_⟩
      rw [R.has, decide_eq_true_eq]
      refine ⟨R.kept k, fun h => ?_⟩
      have all : ∀ j, FM.Kept W.gr j → j ∈ ln := fun j hj => by
        induction hj with
        | root h1 _ => exact hroots _ h1
        | lead _ h1 _ ih =>
          obtain ⟨i, hi, hie⟩ := List.mem_iff_getElem.mp ih
          exact hcl i _ (by omega) (by rw [List.getElem?_eq_getElem hi, hie]) _ h1
      exact all k h
/-- road_of: the knot has a road, or NotKept with it is raised -/
def spRoad (CN : Addr) : Sp := fun args H Q E => ∃ (v : V) (W : Wb) (k : Nat), args = [v, .int k] ∧ WbAt H v W ∧ WbOk W ∧
  (FM.Kept W.gr k → ∀ x H', Same H H' → Q x H') ∧ (¬ FM.Kept W.gr k → ∀ d H', Same H H' → H d = none → H' d = some (.xd [("knot", nV k)]) → E (.ref CN) (some d) H')
theorem sc_road_of : FnScope ["web", "knot", "roads"] ["web", "knot"] (defScope (top 37)) := ⟨rfl, rfl, rfl, by decide +kernel, rfl, by decide +kernel, by decide +kernel⟩
theorem ok_road_of {CN : Addr} (F : FnP K "road_of" 37 f fd) (T : Txt w K mg) (eN : EC P K mg "NotKept" CN) (C_roads_of : Cal P w K mg base CX0 4 "roads_of" spRoads) : FnOk P w K mg base (L2.CX P w) 5 f fd ["web", "knot"] (spRoad CN) := by
  refine F.ok sc_road_of (fun vs H Q E h => by obtain ⟨a, r, k, rfl, _⟩ := h; rfl) (fun cdv A outer s H vs Q E hr h => ?_)
  have nd := sc_road_of.nd
  have hu := hu_of hr
  obtain ⟨v, W, k, rfl, hW, ok, qy, qn⟩ := h
  refine ⟨_, 
    (pss_cons (ps_set (i := 2) nd rfl (Or.inl rfl) (pe_fn C_roads_of hr (by rfl) pass0 (pa_cons (pv 0) (pa_cons pe_non pa_nil))))
    (pss_cons (ps_if (pt_cmp (pc_dnotin hu (pv 1) (pv 2))) 
      (pss_one (ps_raiseE eN rfl hr (takes_of rfl rfl rfl rfl) (by rfl) (pa_cons (pv 1) pa_nil))) pss_nil)
    (pss_one (ps_ret (pe_dget hu (pv 2) (pv 1) (fun _ _ => rfl)))))), ?_⟩
  refine ⟨_, rfl, v, W, rfl, hW, ok, fun H1 D kvs s1 nD hD mem => ?_⟩
  refine ⟨_, rfl, _, rfl, D, _, rfl, DGet.k (k := .inl ((k : Nat) : Int)) hD, _, rfl, ?_⟩
  by_cases c : FM.Kept W.gr k
  · obtain ⟨x, hx⟩ := Option.isSome_iff_exists.mp ((mem k).mpr c)
    rw [hx]
    exact ⟨_, rfl, _, rfl, D, x, rfl, by rw [← hx]; exact DGet.k (k := .inl ((k : Nat) : Int)) hD, qy c x H1 s1⟩
  · have e : (valV kvs (.inl ((k : Nat) : Int))) = none := by
      cases h : valV kvs (.inl ((k : Nat) : Int)) with
      | none => rfl
      | some x => exact absurd ((mem k).mp (by rw [h]; rfl)) c
    rw [e]
    exact ⟨_, rfl, eans (Q := E) fun d nd => qn c d _ (s1.trans (same_upd nd)) (Same.free s1 nd) upd_same⟩
end
end K41
set_option maxHeartbeats 4000000
namespace K41
open PySem PySem.Spec PyProof.Rows L2
theorem decI (a b : Int) : decide (V.int a = V.int b) = decide (a = b) := decide_eq_decide.mpr ⟨fun h => V.int.inj h, fun h => by rw [h]⟩
/-! ### pairs of places -/
abbrev PP := Int × Int
def PairAt (H : Hp) (v : V) (p : PP) : Prop := ∃ t, v = .ref t ∧ H t = some (.tup [.int p.1, .int p.2])
theorem pairAt_st : Steady PairAt := fun D H H' hl h v a ⟨t, e, ht⟩ => ⟨t, e, h t _ (fun z => by subst z; obtain ⟨l, hl⟩ := hl; rw [hl] at ht; cases ht) ht⟩
theorem PairAt.same {H H' : Hp} (s : Same H H') {v : V} {p : PP} (h : PairAt H v p) : PairAt H' v p := let ⟨t, e, h⟩ := h; ⟨t, e, s _ _ h⟩
def UsedAt (H : Hp) (U : Addr) (u : List PP) : Prop := ∃ vs, H U = some (.lst vs) ∧ Each (PairAt H) vs u
theorem UsedAt.same {H H' : Hp} (s : Same H H') {U : Addr} {u : List PP} (h : UsedAt H U u) : UsedAt H' U u := let ⟨vs, h, e⟩ := h; ⟨vs, s _ _ h, e.mono fun _ _ => PairAt.same s⟩
def pairD (p : PP) : PyData := .tuple [.int p.1, .int p.2]
theorem pair_dp {K : PySem.W.Frag} {H : Hp} {v : V} {a : PP} (h : PairAt H v a) : Dp K H v (pairD a) := by
  obtain ⟨l, rfl, hl⟩ := h
  exact .tup (.of hl) (.cons (.int _) (.cons (.int _) .nil))
theorem pairs_dp {K : PySem.W.Frag} {H : Hp} : ∀ {vs : List V} {as : List PP}, Each (PairAt H) vs as → DpAll K H vs (as.map pairD)
  | [], [], _ => .nil
  | [], _ :: _, e => absurd e.1 (by simp)
  | _ :: _, [], e => absurd e.1 (by simp)
  | _ :: _, _ :: _, e => .cons (pair_dp e.tail.1) (pairs_dp e.tail.2)
theorem used_dp {K : PySem.W.Frag} {H : Hp} {U : Addr} {u : List PP} (h : UsedAt H U u) : Dp K H (.ref U) (.list (u.map pairD)) := let ⟨vs, h, e⟩ := h; .lst (.of h) (pairs_dp e)
theorem pair_shaped (a : PP) : SeqAt.shaped (pairD a) = true := by
  unfold SeqAt.shaped pairD
  simp [PyData.canLay0, PyData.canLayAll0, PyData.depth, PyData.depthAll]
theorem pairs_lay : ∀ as : List PP, PyData.canLayAll0 (as.map pairD) = true ∧ PyData.depthAll (as.map pairD) ≤ 1
  | [] => ⟨rfl, by simp [PyData.depthAll]⟩
  | a :: as => by
    have ih := pairs_lay as
    refine ⟨?_, ?_⟩
    · simp only [List.map_cons, PyData.canLayAll0, ih.1, Bool.and_true]
      simp [pairD, PyData.canLay0, PyData.canLayAll0]
    · simp only [List.map_cons, PyData.depthAll]
      have : PyData.depth (pairD a) = 1 := by simp [pairD, PyData.depth, PyData.depthAll]
      rw [this]
      have := ih.2
      omega
theorem pairs_shaped (as : List PP) : SeqAt.shaped (.list (as.map pairD)) = true := by
  obtain ⟨h1, h2⟩ := pairs_lay as
  show (PyData.canLayAll0 (as.map pairD) && decide (PyData.depthAll (as.map pairD) + 1 ≤ 64)) = true
  rw [h1, decide_eq_true (by omega)]
  rfl
theorem pair_eqv (a b : PP) : PyData.eqv (pairD a) (pairD b) = decide (a = b) := by
  unfold pairD
  simp only [PyData.eqv, PyData.eqvAll, Bool.and_true]
  obtain ⟨a1, a2⟩ := a
  obtain ⟨b1, b2⟩ := b
  by_cases h : a1 = b1 <;> by_cases h' : a2 = b2 <;> simp [h, h']
theorem pair_any (u : List PP) (a : PP) : ((u.map pairD).any fun z => PyData.eqv z (pairD a)) = decide (a ∈ u) := by
  rw [Bool.eq_iff_iff, List.any_eq_true, decide_eq_true_eq]
  constructor
  · rintro ⟨x, hx, h⟩
    obtain ⟨b, hb, rfl⟩ := List.mem_map.mp hx
    rw [pair_eqv, decide_eq_true_eq] at h
    exact h ▸ hb
  · intro h
    exact ⟨pairD a, List.mem_map.mpr ⟨a, h, rfl⟩, by rw [pair_eqv]; exact decide_eq_true rfl⟩
/-- back along used pairs -/
def bkL (u : List PP) (a : Int) : List Int := (u.filter fun p => p.2 == a && p.1 != -1).map (·.1)
theorem bkL_len (u : List PP) (a : Int) : (bkL u a).length ≤ u.length := by
  unfold bkL
  rw [List.length_map]
  exact List.length_filter_le _ _
theorem bkL_step {u : List PP} {i : Nat} {p : PP} (h : u[i]? = some p) (a : Int) : bkL (u.take (i + 1)) a = bkL (u.take i) a ++ (if p.2 = a ∧ p.1 ≠ -1 then [p.1] else []) := by
  unfold bkL
  rw [take1 h, List.filter_append, List.map_append]
  congr 1
  by_cases h1 : p.2 = a <;> by_cases h2 : p.1 = -1 <;> simp [h1, h2]
section
variable {P : Program} {w : World} {K : PySem.W.Frag} {mg : Str → Option Value} {base : Heap} {f : Addr} {fd : FuncData}
def spOnward : Sp := fun args H Q _ => ∃ (v : V) (W : Wb) (t : Nat) (U : Addr) (u : List PP) (a : Int), args = [v, .int t, .ref U, .int a] ∧ WbAt H v W ∧ WbOk W ∧ UsedAt H U u ∧ u.length ≤ 200000 ∧ FM.Pl W.gr a ∧
  ∀ H' D (ys : List Int), Same H H' → H D = none → H' D = some (.lst (ys.map V.int)) → (∀ b, b ∈ ys ↔ b ∈ FM.onw W.gr t u a) → Q (.ref D) H'
theorem WbOk.rl {W : Wb} (ok : WbOk W) : W.roots.length ≤ W.kns.length := by
  have := FM.len_le (l' := List.range W.kns.length) (ok.ra.imp fun h => by omega : W.roots.Nodup) fun k hk => List.mem_range.mpr (ok.rn k hk)
  simpa using this
theorem sc_onward : FnScope ["web", "knot", "used", "at", "found", "root", "one", "other"] ["web", "knot", "used", "at"] (defScope (top 39)) := ⟨rfl, rfl, rfl, by decide +kernel, rfl, by decide +kernel, by decide +kernel⟩
theorem ok_onward (F : FnP K "onward" 39 f fd) (T : Txt w K mg) (C_leads_of : Cal P w K mg base CX0 3 "leads_of" spLeads) : FnOk P w K mg base CX0 4 f fd ["web", "knot", "used", "at"] spOnward := by
  refine F.ok sc_onward (fun vs H Q E h => by obtain ⟨a, r, t, U, u, b, rfl, _⟩ := h; rfl) (fun cdv A outer s H vs Q E hr h => ?_)
  have nd := sc_onward.nd
  have hu65 := hu65_of hr
  obtain ⟨_, W, t, U, u, a, rfl, hW, ok, hU, lu, pl, q⟩ := h
  obtain ⟨wa, r, o, kt, vs, rfl, ha, hrt, ho, hkt, ek⟩ := id hW.ex
  obtain ⟨us, hus, eu⟩ := id hU
  have fewW := ok.few
  have rl := ok.rl
  refine ⟨_, PSs.nox 
    (pss_cons (ps_if (pt_cmpR op_eq (pv 3) (pe_un un_neg pe_int) (nomark _)) 
      (pss_one (ps_ret (pe_lc (own := [("root", 5)]) rfl nd (pi_tup (pe_ix (x_tup K) (pv 0) pe_int (fun _ _ => rfl))) (blkOk_by (own := [("root", 5)]) (N := ["web", "knot", "used", "at", "found", "root", "one", "other"]) (sc := defScope (top 39)) (by decide +kernel)) (fun _ _ _ _ _ => (pg_name (i := 5) nd rfl (Or.inl rfl))) (fun _ _ _ _ _ => pts_nil) (fun _ _ _ _ _ => (pe_op op_mul pe_int (pv 5)))))) pss_nil)
    (pss_cons (ps_setLc (own := [("one", 6), ("other", 7)]) (g := gTup K 2 (gCons (gName 6) (gCons (gName 7) gNil))) (i := 4) rfl nd rfl rfl (sw_true rfl rfl rfl (by decide +kernel)) (pi_list (pv 2)) (blkOk_by (own := [("one", 6), ("other", 7)]) (N := ["web", "knot", "used", "at", "found", "root", "one", "other"]) (sc := defScope (top 39)) (by decide +kernel)) (fun _ _ _ _ _ => (pg_tup rfl (pgs_cons (pg_name (i := 6) nd rfl (Or.inl rfl)) (pgs_cons (pg_name (i := 7) nd rfl (Or.inl rfl)) pgs_nil)))) (fun _ _ _ _ _ => (pts_one (PW.pt (pw_and (pt_cmpR op_eq (pv 7) (pv 3) (nomark _)) (pw_and1 (pt_cmpR op_ne (pv 6) (pe_un un_neg pe_int) (nomark _))))))) (fun _ _ _ _ _ => (pv 6)))
    (pss_cons (ps_if (pt_cmpR op_eq (pe_op op_mod (pv 3) pe_int) pe_int (nomark _)) 
      (pss_one (ps_ret (pe_op op_cat (pv 4) (pe_lc (own := [("other", 7)]) rfl nd (pi_list (pe_fn C_leads_of hr (by rfl) pass0 (pa_cons (pv 0) (pa_cons (pe_op op_fdiv (pv 3) pe_int) pa_nil)))) (blkOk_by (own := [("other", 7)]) (N := ["web", "knot", "used", "at", "found", "root", "one", "other"]) (sc := defScope (top 39)) (by decide +kernel)) (fun _ _ _ _ _ => (pg_name (i := 7) nd rfl (Or.inl rfl))) (fun _ _ _ _ _ => pts_nil) (fun _ _ _ _ _ => (pe_op op_mul pe_int (pv 7))))))) pss_nil)
    (pss_one (ps_ret (pe_ifExp (PW.pt (pw_or (pt_cmpR op_eq (pv 3) (pe_op op_mul pe_int (pv 1)) (nomark _)) (pw_or1 (pt_cmpR (x_inD K hu65) (pe_tup (pa_cons (pv 3) (pa_cons (pe_op op_add (pv 3) pe_int) pa_nil))) (pv 2) (by rfl))))) (pv 4) (pe_op op_cat (pv 4) (pe_lst (pa_cons (pe_op op_add (pv 3) pe_int) pa_nil))))))))), ?_⟩
  refine ⟨_, rfl, _, rfl, rfl, _, rfl, ?_⟩
  rw [decI]
  by_cases c1 : a = -1
  · rw [decide_eq_true c1]
    subst c1
    refine ⟨_, rfl, wa, _, 1, _, rfl, rfl, .of ha, at1, r, rfl, ⟨_, .of hrt⟩, fun D nD => ?_⟩
    refine lc_it walk_tup (fun i H' => Acc H D (fun i => ((W.roots.take i).map FM.fr).map V.int) i H') (Acc.start nD rfl) (fun i H' _ p' => .of (p'.1 _ _ hrt)) (fun i x H2 H3 hi p' y => ?_) (fun H2 p' => ?_)
    · obtain ⟨rfl, hy⟩ := y
      rw [List.getElem?_map] at hy
      obtain ⟨n, hn, rfl⟩ := Option.map_eq_some_iff.mp hy
      refine ⟨rfl, _, rfl, _, _, rfl, rfl, .inl ⟨by decide, by decide⟩, Acc.put nD p' (Same.refl _) (small1000 ?_) ?_⟩
      · simp only [List.length_map, List.length_take]; omega
      · simp only [take1 hn, List.map_append]; rfl
    · obtain ⟨s1, h1⟩ := p'
      simp only [List.length_map, List.take_length] at h1
      refine q _ D _ s1 nD h1 fun b => ?_
      unfold FM.onw
      rw [if_pos rfl]
      exact Iff.rfl
  · rw [decide_eq_false c1]
    refine ⟨_, rfl, U, rfl, ⟨_, .of hus⟩, fun F1 nF => ?_⟩
    refine lc_it walk_list (fun i H' => Acc H F1 (fun i => (bkL (u.take i) a).map V.int) i H') (Acc.start nF rfl) (fun i H' _ p' => .of (p'.1 _ _ hus)) (fun i x H2 H3 hi p' y => ?_) (fun H2 p' => ?_)
    · obtain ⟨rfl, hy⟩ := y
      obtain ⟨p, hp, pt, rfl, hpt⟩ := eu.back hy
      have few : ((bkL (u.take i) a).map V.int).length < sizeLine := small10 (by
        rw [List.length_map]
        have := bkL_len (u.take i) a
        rw [List.length_take] at this
        omega)
      refine ⟨pt, _, rfl, .of (p'.1 _ _ hpt), rfl, _, _, rfl, _, _, rfl, rfl, rfl, ?_⟩
      refine ⟨_, rfl, _, rfl, rfl, _, rfl, ?_⟩
      rw [decI]
      by_cases d1 : p.2 = a
      · rw [decide_eq_true d1]
        refine ⟨_, rfl, _, rfl, rfl, _, rfl, ?_⟩
        rw [decI]
        by_cases d2 : p.1 = -1
        · rw [decide_eq_true d2]
          exact Acc.pass p' (Same.refl _) (by rw [bkL_step hp, if_neg (by simp [d2]), List.append_nil])
        · rw [decide_eq_false d2]
          exact ⟨_, rfl, Acc.put nF p' (Same.refl _) few (by rw [bkL_step hp, if_pos ⟨d1, d2⟩, List.map_append]; rfl)⟩
      · rw [decide_eq_false d1]
        exact Acc.pass p' (Same.refl _) (by rw [bkL_step hp, if_neg (by simp [d1]), List.append_nil])
    · obtain ⟨s1, h1⟩ := p'
      simp only [eu.1, List.take_length] at h1
      have lb := bkL_len u a
      refine ⟨_, rfl, _, _, rfl, rfl, (by show (0 : Int) < 2; decide), rfl, _, rfl, ?_⟩
      rw [decI]
      obtain ⟨k, hk, e⟩ := pl.resolve_left c1
      by_cases c2 : a % 2 = 1
      · rw [decide_eq_true c2]
        have e : a = FM.bh k := by
          rcases e with e | e
          · exact absurd c2 (by rw [e]; exact FM.fr_even k)
          · exact e
        subst e
        have half : FM.bh k / 2 = ((k : Nat) : Int) := by unfold FM.bh; omega
        refine ⟨_, rfl, _, rfl, _, rfl, _, _, rfl, rfl, ⟨by decide, by decide⟩, _, W, k, congrArg (fun x => [V.ref wa, V.int x]) half, hW.same s1, ok, hk, fun H3 D ns s3 nD hD nns mem => ⟨D, rfl, ⟨_, .of hD⟩, fun D2 nD2 => ?_⟩⟩
        have n2 : H D2 = none := Same.free (s1.trans s3) nD2
        refine lc_it walk_list (fun i H' => Acc H3 D2 (fun i => ((ns.take i).map FM.fr).map V.int) i H') (Acc.start nD2 rfl) (fun i H' _ p' => .of (p'.1 _ _ hD)) (fun i x H4 H5 hi p' y => ?_) (fun H4 p' => ?_)
        · obtain ⟨rfl, hy⟩ := y
          rw [List.getElem?_map] at hy
          obtain ⟨n, hn, rfl⟩ := Option.map_eq_some_iff.mp hy
          have hn' := lt_of_get hn
          have nl : ns.length ≤ W.kns.length := by
            have := FM.len_le (l' := List.range W.kns.length) nns fun x hx => List.mem_range.mpr ((gr_ok ok).ln k x ((mem x).mp hx))
            simpa using this
          refine ⟨rfl, _, rfl, _, _, rfl, rfl, .inl ⟨by decide, by decide⟩, Acc.put nD2 p' (Same.refl _) (small1000 ?_) ?_⟩
          · simp only [List.length_map, List.length_take]; omega
          · simp only [take1 hn, List.map_append]; rfl
        · obtain ⟨s4, h4⟩ := p'
          simp only [List.length_map, List.take_length] at h4
          have nl : ns.length ≤ W.kns.length := by
            have := FM.len_le (l' := List.range W.kns.length) nns fun x hx => List.mem_range.mpr ((gr_ok ok).ln k x ((mem x).mp hx))
            simpa using this
          refine ⟨F1, D2, _, _, rfl, rfl, s4 _ _ (s3 _ _ h1), h4, ?_, fun D3 nD3 => ?_⟩
          · simp only [List.length_map]
            exact Nat.le_of_lt (small10 (by omega))
          refine q _ D3 (bkL u (FM.bh k) ++ ns.map FM.fr) (((s1.trans s3).trans s4).trans (same_upd nD3)) (Same.free ((s1.trans s3).trans s4) nD3) (by rw [upd_same, List.map_append]) fun b => ?_
          unfold FM.onw
          rw [if_neg c1, if_pos c2, FM.bh_half, List.mem_append, List.mem_append]
          refine or_congr Iff.rfl ?_
          rw [List.mem_map, List.mem_map]
          exact ⟨fun ⟨l, hl, e⟩ => ⟨l, (mem l).mp hl, e⟩, fun ⟨l, hl, e⟩ => ⟨l, (mem l).mpr hl, e⟩⟩
      · rw [decide_eq_false c2]
        refine ⟨_, rfl, _, rfl, _, _, rfl, rfl, .inl ⟨by decide, by decide⟩, rfl, _, rfl, ?_⟩
        rw [decI]
        by_cases c3 : a = FM.fr t
        · rw [decide_eq_true (show a = 2 * (t : Int) from c3)]
          refine ⟨_, rfl, q _ F1 (bkL u a) s1 nF h1 fun b => ?_⟩
          unfold FM.onw
          rw [if_neg c1, if_neg c2, if_pos (.inl c3)]
          exact Iff.rfl
        · rw [decide_eq_false (show ¬ a = 2 * (t : Int) from c3)]
          refine ⟨_, rfl, _, rfl, _, _, rfl, rfl, (by show 2 ≤ sizeLine; decide), fun tp ntp => ⟨_, rfl, pairD (a, a + 1), u.map pairD, pair_dp ⟨tp, rfl, upd_same⟩, used_dp (hU.same (s1.trans (same_upd ntp))), pair_shaped _, pairs_shaped _, _, rfl, ?_⟩⟩
          rw [pair_any]
          have s2 : Same H2 (upd H2 tp (.tup [.int a, .int (a + 1)])) := same_upd ntp
          by_cases c4 : (a, a + 1) ∈ u
          · rw [decide_eq_true c4]
            refine ⟨_, rfl, q _ F1 (bkL u a) (s1.trans s2) nF (s2 _ _ h1) fun b => ?_⟩
            unfold FM.onw
            rw [if_neg c1, if_neg c2, if_pos (.inr c4)]
            exact Iff.rfl
          · rw [decide_eq_false c4]
            refine ⟨_, rfl, _, rfl, _, _, rfl, rfl, (by show 1 ≤ sizeLine; decide), fun D2 nD2 => ?_⟩
            have s3 := same_upd (o := .lst [.int (a + 1)]) nD2
            refine ⟨F1, D2, _, _, rfl, rfl, s3 _ _ (s2 _ _ h1), upd_same, ?_, fun D3 nD3 => ?_⟩
            · simp only [List.length_map]
              exact Nat.le_of_lt (small10 (show (bkL u a).length + 1 ≤ 1000000 by omega))
            refine q _ D3 (bkL u a ++ [a + 1]) (((s1.trans s2).trans s3).trans (same_upd nD3)) (Same.free ((s1.trans s2).trans s3) nD3) (by rw [upd_same, List.map_append]; rfl) fun b => ?_
            unfold FM.onw
            rw [if_neg c1, if_neg c2, if_neg (fun h => h.elim c3 c4)]
            exact Iff.rfl
end
end K41
set_option maxHeartbeats 4000000
namespace K41
open PySem PySem.Spec PyProof.Rows L2
/-! ### how long they get -/
theorem allPl_len (n : Nat) : (FM.allPl n).length = 2 * n + 1 := by unfold FM.allPl; simp
theorem pairs_len {V : List Int} {u : List PP} (nd : u.Nodup) (h : ∀ p ∈ u, p.1 ∈ V ∧ p.2 ∈ V) : u.length ≤ V.length * V.length := by
  have e : (V.flatMap fun a => V.map fun b => ((a, b) : PP)).length = V.length * V.length := by
    rw [List.length_flatMap]
    simp only [List.length_map]
    rw [List.map_const', List.sum_replicate_nat]
  rw [← e]
  refine FM.len_le nd fun p hp => ?_
  obtain ⟨h1, h2⟩ := h p hp
  exact List.mem_flatMap.mpr ⟨p.1, h1, List.mem_map.mpr ⟨p.2, h2, rfl⟩⟩
theorem flow_len {G : FM.Gr} {t : Nat} {u : List PP} {f : Nat} (ok : G.Ok) (F : FM.Flow G t u f) (hn : G.n ≤ 200) : u.length ≤ 200000 := by
  have := pairs_len F.nd fun p hp => ⟨FM.allPl_mem ((F.kp p hp).1.pl ok), FM.allPl_mem ((F.kp p hp).2.pl ok)⟩
  rw [allPl_len] at this
  have h1 : 2 * G.n + 1 ≤ 401 := by omega
  have := Nat.mul_le_mul h1 h1
  omega
theorem way_len {G : FM.Gr} {t : Nat} {u : List PP} {f : Nat} {p : Nat → Int} {m : Nat} (ok : G.Ok) (W : FM.Way G t u p m) (F : FM.Flow G t u f) : m ≤ 2 * G.n := by
  have := FM.len_le (l := (List.range (m + 1)).map p) (l' := FM.allPl G.n) ?_ fun x hx => ?_
  · rw [allPl_len] at this
    simp at this
    omega
  · rw [List.nodup_iff_pairwise_ne, List.pairwise_map]
    refine List.Pairwise.imp_of_mem (fun {a b} ha hb h e => ?_) List.pairwise_lt_range
    rw [List.mem_range] at ha hb
    have := W.inj a b (by omega) (by omega) e
    omega
  · obtain ⟨i, hi, rfl⟩ := List.mem_map.mp hx
    rw [List.mem_range] at hi
    exact FM.allPl_mem ((W.kp F i (by omega)).pl ok)
/-! ### what was come to, as a dict -/
def cameK (L : List PP) : List (Key × V) := L.map fun p => ((Sum.inl p.1 : Key), V.int p.2)
theorem came_some : ∀ {L : List PP} (q : Int), (valV (cameK L) (.inl q)).isSome = decide (q ∈ L.map (·.1))
  | [], q => rfl
  | p :: L, q => by
    show (valV (((Sum.inl p.1 : Key), V.int p.2) :: cameK L) (.inl q)).isSome = _
    by_cases e : p.1 = q
    · rw [valV_pos (by rw [e]), decide_eq_true (by simp [e])]
      rfl
    · rw [valV_neg (fun z => e (Sum.inl.inj z)), came_some q]
      rw [decide_eq_decide, List.map_cons, List.mem_cons]
      exact ⟨fun h => .inr h, fun h => h.resolve_left fun z => e z.symm⟩
theorem came_get : ∀ {L : List PP} {q a : Int}, (L.map (·.1)).Nodup → (q, a) ∈ L → valV (cameK L) (.inl q) = some (.int a)
  | [], _, _, _, h => by cases h
  | p :: L, q, a, nd, h => by
    show valV (((Sum.inl p.1 : Key), V.int p.2) :: cameK L) (.inl q) = _
    rw [List.map_cons, List.nodup_cons] at nd
    rcases List.mem_cons.mp h with e | h
    · subst e
      exact valV_pos rfl
    · have ne : ¬ p.1 = q := fun z => nd.1 (z ▸ List.mem_map.mpr ⟨_, h, rfl⟩)
      rw [valV_neg (fun z => ne (Sum.inl.inj z)), came_get nd.2 h]
theorem came_put {L : List PP} {q a : Int} (h : q ∉ L.map (·.1)) : putK (cameK L) (.inl q) (.int a) = cameK (L ++ [(q, a)]) := by
  have e : valV (cameK L) (.inl q) = none := by
    cases e : valV (cameK L) (.inl q) with
    | none => rfl
    | some v =>
      have := came_some (L := L) q
      rw [e, decide_eq_false h] at this
      cases this
  rw [putK_new _ e]
  unfold cameK
  rw [List.map_append]
  rfl
theorem came_len (L : List PP) : (cameK L).length = L.length := List.length_map _
structure CI (G : FM.Gr) (t : Nat) (u : List PP) (H H' : Hp) (D Ln : Addr) (L : List PP) : Prop where
  same : Same H H'
  hd : H' D = some (.dK (cameK L))
  hl : H' Ln = some (.lst ((L.map (·.1)).map V.int))
  came : FM.Came G t u L
section
variable {G : FM.Gr} {t : Nat} {u : List PP} {H H' H1 : Hp} {D Ln : Addr} {L : List PP} {f : Nat}
theorem CI.sub (r : CI G t u H H' D Ln L) (s : Same H' H1) : CI G t u H H1 D Ln L := ⟨r.same.trans s, s _ _ r.hd, s _ _ r.hl, r.came⟩
theorem came_bound (C : FM.Came G t u L) (ok : G.Ok) (F : FM.Flow G t u f) : L.length ≤ 2 * G.n + 1 := by
  have := FM.len_le (l' := FM.allPl G.n) C.nd fun q hq => FM.allPl_mem ((C.kp F q hq).pl ok)
  rw [allPl_len] at this
  simpa using this
theorem came_snoc (C : FM.Came G t u L) {i : Nat} {a a' b : Int} (hi : L[i]? = some (a, a')) (st : FM.Step G t u a b) (hb : b ∉ L.map (·.1)) : FM.Came G t u (L ++ [(b, a)]) := by
  have hil := lt_of_get hi
  refine ⟨?_, ?_, fun j q x hj => ?_⟩
  · rw [List.getElem?_append_left (by omega)]
    exact C.head
  · rw [List.map_append, List.nodup_append]
    exact ⟨C.nd, by simp, fun x hx y hy => by simp at hy; rintro rfl; exact hb (hy ▸ hx)⟩
  · by_cases e : j + 1 < L.length
    · rw [List.getElem?_append_left e] at hj
      obtain ⟨j', h1, x', h2, h3⟩ := C.prev j q x hj
      exact ⟨j', h1, x', by rw [List.getElem?_append_left (by omega)]; exact h2, h3⟩
    · have := lt_of_get hj
      rw [List.length_append] at this
      have e2 : j + 1 = L.length := by simp at this; omega
      rw [e2, List.getElem?_append_right (Nat.le_refl _), Nat.sub_self] at hj
      cases hj
      exact ⟨i, by omega, a', by rw [List.getElem?_append_left hil]; exact hi, st⟩
theorem CI.put (r : CI G t u H H' D Ln L) (nD : H D = none) (nL : H Ln = none) {i : Nat} {a a' b : Int} (hi : L[i]? = some (a, a')) (st : FM.Step G t u a b) (hb : b ∉ L.map (·.1)) :
    CI G t u H (upd (upd H' D (.dK (putK (cameK L) (.inl b) (.int a)))) Ln (.lst ((L.map (·.1)).map V.int ++ [.int b]))) D Ln (L ++ [(b, a)]) := by
  have dl : D ≠ Ln := fun z => by have := r.hd; rw [z, r.hl] at this; cases this
  exact ⟨Same.keep (Same.keep r.same nD) nL, by rw [upd_ne dl, upd_same, came_put hb], by rw [upd_same, List.map_append, List.map_append]; rfl, came_snoc r.came hi st hb⟩
end
section
variable {P : Program} {w : World} {K : PySem.W.Frag} {mg : Str → Option Value} {base : Heap} {f : Addr} {fd : FuncData}
def spReached : Sp := fun args H Q _ => ∃ (v : V) (W : Wb) (t : Nat) (U : Addr) (u : List PP) (fl : Nat), args = [v, .int t, .ref U] ∧ WbAt H v W ∧ WbOk W ∧ UsedAt H U u ∧ FM.Flow W.gr t u fl ∧
  ∀ H' D L, Same H H' → H D = none → H' D = some (.dK (cameK L)) → FM.Came W.gr t u L → FM.Closed W.gr t u L → Q (.ref D) H'
theorem sc_reached : FnScope ["web", "knot", "used", "came", "line", "at", "place"] ["web", "knot", "used"] (defScope (top 40)) := ⟨rfl, rfl, rfl, by decide +kernel, rfl, by decide +kernel, by decide +kernel⟩
theorem ok_reached (F : FnP K "reached" 40 f fd) (T : Txt w K mg) (C_onward : Cal P w K mg base CX0 4 "onward" spOnward) : FnOk P w K mg base CX0 5 f fd ["web", "knot", "used"] spReached := by
  refine F.ok sc_reached (fun vs H Q E h => by obtain ⟨a, r, t, U, u, b, rfl, _⟩ := h; rfl) (fun cdv A outer s H vs Q E hr h => ?_)
  have nd := sc_reached.nd
  have hu := hu_of hr
  obtain ⟨v, W, t, U, u, fl, rfl, hW, ok, hU, FL, q⟩ := h
  have gok := gr_ok ok
  have fewW := ok.few
  have gn : W.gr.n = W.kns.length := rfl
  have lu := flow_len gok FL (by omega)
  refine ⟨_, PSs.nox 
    (pss_cons (ps_par3 (i := 3) (j := 4) (l := 5) rfl nd rfl rfl rfl (by decide) (by decide) (by decide) rfl rfl rfl (pa_cons (pe_disp (pps_cons (pe_un un_neg pe_int) (pe_un un_neg pe_int) pps_nil) (by rfl) (by rfl) (fun z => by cases z) (by decide)) (pa_cons (pe_lst (pa_cons (pe_un un_neg pe_int) pa_nil)) (pa_cons pe_int pa_nil))) (by rfl))
    (pss_cons (ps_while PassesOwn.never (pt_cmpR op_lt (pv 5) (pe_callB (x_len K) (by rfl) T.b_len PySem.boot_len (pa_cons (pv 4) pa_nil)) (nomark _)) 
      (pss_cons (ps_for PassesOwn.never rfl (pi_list (pe_fn C_onward hr (by rfl) pass0 (pa_cons (pv 0) (pa_cons (pv 1) (pa_cons (pv 2) (pa_cons (pe_ix (x_lst K) (pv 4) (pv 5) (fun _ _ => rfl)) pa_nil)))))) (pg_name (i := 6) nd rfl (Or.inl rfl)) 
        (pss_one (ps_if (pt_cmp (pc_dnotin hu (pv 6) (pv 3))) 
          (pss_cons (ps_dput hu (pv 3) (pv 6) (pe_ix (x_lst K) (pv 4) (pv 5) (fun _ _ => rfl)) rfl)
          (pss_one (ps_expr (pe_bm PySem.F.plainAttrs_list PySem.F.slot_list_append PySem.F.type_list_append mt_append (pv 4) (pa_cons (pv 6) pa_nil))))) pss_nil)))
      (pss_one (ps_aug (i := 5) nd rfl (Or.inl rfl) pe_int ip_add))))
    (pss_one (ps_ret (pv 3))))), ?_⟩
  intro D nD
  refine ⟨_, rfl, _, rfl, upd_same, [((Sum.inl (-1) : Key), V.int (-1))], rfl, (by show 1 ≤ 15; decide), _, rfl, (by show 1 ≤ sizeLine; decide), fun Ln nL0 => ⟨_, _, _, rfl, ?_⟩⟩
  have em : (mergeK [] [((Sum.inl (-1) : Key), V.int (-1))] : List (Key × V)) = cameK [((-1 : Int), (-1 : Int))] := rfl
  have hh : ∀ b, b ≠ D → upd (upd H D (.dK [])) D (.dK (mergeK [] [((Sum.inl (-1) : Key), V.int (-1))])) b = H b := fun b hb => by rw [upd_ne hb, upd_ne hb]
  have s0 : Same H (upd (upd H D (.dK [])) D (.dK (mergeK [] [((Sum.inl (-1) : Key), V.int (-1))]))) := Same.keep (same_upd nD) nD
  have nL : H Ln = none := Same.free s0 nL0
  have dl : D ≠ Ln := fun z => by rw [← z, upd_same] at nL0; cases nL0
  have C0 : FM.Came W.gr t u [((-1 : Int), (-1 : Int))] := ⟨rfl, by simp, fun i q a h => by simp at h⟩
  have R0 : CI W.gr t u H (upd (upd (upd H D (.dK [])) D (.dK (mergeK [] [((Sum.inl (-1) : Key), V.int (-1))]))) Ln (.lst [.int (-1)])) D Ln [((-1 : Int), (-1 : Int))] := ⟨s0.trans (same_upd nL0), by rw [upd_ne dl, upd_same, em], upd_same, C0⟩
  let Pv : Nat → L2.St → Hp → Prop := fun m σ H' => ∃ (at' : Nat) (u1 : Option V) (L : List PP), σ = [some v, some (.int (t : Nat)), some (.ref U), some (.ref D), some (.ref Ln), some (.int (at' : Nat)), u1] ∧ CI W.gr t u H H' D Ln L ∧
    at' ≤ L.length ∧ (∀ j p, j < at' → L[j]? = some p → ∀ b, b ∈ FM.onw W.gr t u p.1 → b ∈ L.map (·.1)) ∧ m = 2 * W.gr.n + 1 - at'
  refine ⟨Pv, ⟨_, 0, _, _, rfl, R0, Nat.zero_le _, fun j k h => absurd h (Nat.not_lt_zero j), rfl⟩, fun m σ H' p => ?_⟩
  obtain ⟨at', u1, L, rfl, R, hat, hcl, rfl⟩ := p
  have lL := came_bound R.came gok FL
  refine ⟨_, rfl, _, rfl, _, _, rfl, .inl ⟨_, .of R.hl, rfl⟩, _, _, rfl, rfl, _, rfl, ?_⟩
  simp only [List.length_map]
  by_cases c : at' < L.length
  · rw [decide_eq_true (show ((at' : Nat) : Int) < (L.length : Nat) by omega)]
    refine ⟨fun σ' H'' => ∃ m', m' < 2 * W.gr.n + 1 - at' ∧ Pv m' σ' H'', fun _ _ z => z, ?_⟩
    obtain ⟨p, hp⟩ : ∃ p, L[at']? = some p := ⟨_, List.getElem?_eq_getElem c⟩
    have hpV : ((L.map (·.1)).map V.int)[at']? = some (.int p.1) := by rw [List.getElem?_map, List.getElem?_map, hp]; rfl
    have pl : FM.Pl W.gr p.1 := (R.came.kp FL p.1 (List.mem_map.mpr ⟨p, List.mem_of_getElem? hp, rfl⟩)).pl gok
    refine ⟨_, rfl, _, rfl, _, rfl, _, rfl, _, rfl, Ln, _, at', _, rfl, rfl, .of R.hl, atI_n hpV, _, W, t, U, u, p.1, rfl, hW.same R.same, ok, hU.same R.same, lu, pl, fun H1 D1 ys s1 nD1 hD1 mem => ⟨D1, rfl, ⟨_, .of hD1⟩, ?_⟩⟩
    have R1 := R.sub s1
    have d1D : D1 ≠ D := fun z => by rw [z, R.hd] at nD1; cases nD1
    have d1L : D1 ≠ Ln := fun z => by rw [z, R.hl] at nD1; cases nD1
    refine for_it walk_list (fun i σ H' => (∃ u1, σ = [some v, some (.int (t : Nat)), some (.ref U), some (.ref D), some (.ref Ln), some (.int (at' : Nat)), u1]) ∧ H' D1 = some (.lst (ys.map V.int)) ∧ ∃ L', CI W.gr t u H H' D Ln L' ∧ (∃ tl, L' = L ++ tl) ∧ (∀ b ∈ ys.take i, b ∈ L'.map (·.1)))
      ⟨⟨_, rfl⟩, hD1, L, R1, ⟨[], by simp⟩, fun _ h => (by cases h)⟩ (fun i σ H' _ p => .of p.2.1) (fun i x σ H2 H3 hi p y => ?_) (fun σ H2 p => ?_)
    · obtain ⟨⟨u1, rfl⟩, hd2, L', R2, ⟨tl, rfl⟩, hns⟩ := p
      obtain ⟨rfl, hy⟩ := y
      rw [List.getElem?_map] at hy
      obtain ⟨b, hb, rfl⟩ := Option.map_eq_some_iff.mp hy
      have lL2 := came_bound R2.came gok FL
      refine ⟨_, rfl, _, rfl, D, _, rfl, DGet.k (k := .inl b) R2.hd, _, rfl, ?_⟩
      rw [came_some b]
      by_cases hm : b ∈ (L ++ tl).map (·.1)
      · rw [decide_eq_true hm]
        exact ⟨⟨_, rfl⟩, hd2, _, R2, ⟨tl, rfl⟩, fun l hl => by
          rw [take1 hb, List.mem_append, List.mem_singleton] at hl
          rcases hl with hl | rfl
          · exact hns l hl
          · exact hm⟩
      · rw [decide_eq_false hm]
        have hp2 : (L ++ tl)[at']? = some p := by rw [List.getElem?_append_left c]; exact hp
        have hpV2 : (((L ++ tl).map (·.1)).map V.int)[at']? = some (.int p.1) := by rw [List.getElem?_map, List.getElem?_map, hp2]; rfl
        have st : FM.Step W.gr t u p.1 b := (FM.onw_iff pl).mp ((mem b).mp (List.mem_of_getElem? hb))
        have R4 := R2.put nD nL (a := p.1) (a' := p.2) hp2 st hm
        refine ⟨_, rfl, _, rfl, Ln, _, at', _, rfl, rfl, .of R2.hl, atI_n hpV2, _, rfl, _, rfl, D, _, rfl, DPut.k (k := .inl b) R2.hd ?_, ?_⟩
        · rw [came_len]
          exact small1000 (by omega)
        refine ⟨_, rfl, .inl ⟨rfl, _, .of (by rw [upd_ne dl.symm]; exact R2.hl)⟩, _, rfl, Ln, _, _, rfl, rfl, by rw [upd_ne dl.symm]; exact R2.hl, ?_, ?_⟩
        · rw [List.length_map, List.length_map]
          exact small1000 (by omega)
        · refine ⟨⟨_, rfl⟩, by rw [upd_ne d1L, upd_ne d1D]; exact hd2, _, R4, ⟨tl ++ [(b, p.1)], by simp⟩, fun l hl => ?_⟩
          rw [take1 hb, List.mem_append, List.mem_singleton] at hl
          rw [List.map_append]
          rcases hl with hl | rfl
          · exact List.mem_append_left _ (hns l hl)
          · exact List.mem_append_right _ (by simp)
    · obtain ⟨⟨u1, rfl⟩, hd2, L', R2, ⟨tl, rfl⟩, hns⟩ := p
      simp only [List.length_map, List.take_length] at hns
      refine ⟨_, rfl, _, _, rfl, rfl, ?_⟩
      have lL2 := came_bound R2.came gok FL
      refine ⟨2 * W.gr.n + 1 - (at' + 1), by omega, at' + 1, _, L ++ tl, rfl, R2, by rw [List.length_append]; omega, fun j q hj hjk b hb => ?_, rfl⟩
      by_cases e : j < at'
      · rw [List.getElem?_append_left (by omega)] at hjk
        rw [List.map_append]
        exact List.mem_append_left _ (hcl j q e hjk b hb)
      · have : j = at' := by omega
        subst this
        rw [List.getElem?_append_left c, hp] at hjk
        cases hjk
        exact hns b ((mem b).mpr hb)
  · rw [decide_eq_false (show ¬ ((at' : Nat) : Int) < (L.length : Nat) by omega)]
    refine ⟨_, rfl, q H' D L R.same nD R.hd R.came fun x hx b st => ?_⟩
    obtain ⟨p, hp, rfl⟩ := List.mem_map.mp hx
    obtain ⟨j, hj⟩ := List.getElem?_of_mem hp
    have pl : FM.Pl W.gr p.1 := (R.came.kp FL p.1 hx).pl gok
    have := lt_of_get hj
    exact hcl j p (by omega) hj b ((FM.onw_iff pl).mpr st)
end
end K41
set_option maxHeartbeats 4000000
namespace K41
open PySem PySem.Spec PyProof.Rows L2
theorem Each.erase {α : Type} {R : V → α → Prop} : ∀ {vs : List V} {as : List α} (j : Nat), Each R vs as → Each R (vs.eraseIdx j) (as.eraseIdx j)
  | [], [], _, e => e
  | [], _ :: _, _, e => absurd e.1 (by simp)
  | _ :: _, [], _, e => absurd e.1 (by simp)
  | _ :: _, _ :: _, 0, e => e.tail.2
  | _ :: _, _ :: _, j + 1, e => .cons e.tail.1 (e.tail.2.erase j)
theorem erase_ix {u : List PP} {q : PP} (h : q ∈ u) : ∃ j, u[j]? = some q ∧ (∀ (m : Nat) z, m < j → u[m]? = some z → z ≠ q) ∧ u.erase q = u.eraseIdx j := by
  induction u with
  | nil => cases h
  | cons x u ih =>
    by_cases e : x = q
    · subst e
      exact ⟨0, rfl, fun m z hm => absurd hm (Nat.not_lt_zero _), List.erase_cons_head ..⟩
    · rcases List.mem_cons.mp h with z | h
      · exact absurd z.symm e
      · obtain ⟨j, h1, h2, h3⟩ := ih h
        refine ⟨j + 1, h1, fun m z hm hz => ?_, ?_⟩
        · cases m with
          | zero =>
            cases hz
            exact e
          | succ m => exact h2 m z (by omega) hz
        · rw [List.erase_cons_tail (by simpa using e), h3]
          rfl
theorem flip_len (u : List PP) (a b : Int) : (FM.flip u a b).length ≤ u.length + 1 := by
  unfold FM.flip
  split
  · exact Nat.le_succ_of_le (List.length_erase_le ..)
  · simp
section
variable {P : Program} {w : World} {K : PySem.W.Frag} {mg : Str → Option Value} {base : Heap} {f : Addr} {fd : FuncData}
def spTurned : Sp := fun args H Q _ => ∃ (U D : Addr) (u L : List PP) (p : Nat → Int) (m : Nat), args = [.ref U, .ref D, .int (p m)] ∧ UsedAt H U u ∧ H D = some (.dK (cameK L)) ∧ (L.map (·.1)).Nodup ∧ p 0 = -1 ∧
  (∀ j, j < m → (p (j + 1), p j) ∈ L ∧ p (j + 1) ≠ -1) ∧ u.length ≤ 200000 ∧ m ≤ 1000 ∧ ∀ H' D', Same H H' → H D' = none → UsedAt H' D' (FM.flips p m u) → Q (.ref D') H'
theorem sc_turned : FnScope ["used", "came", "place", "left", "ahead"] ["used", "came", "place"] (defScope (top 41)) := ⟨rfl, rfl, rfl, by decide +kernel, rfl, by decide +kernel, by decide +kernel⟩
theorem ok_turned (F : FnP K "turned" 41 f fd) (T : Txt w K mg) : FnOk P w K mg base CX0 1 f fd ["used", "came", "place"] spTurned := by
  refine F.ok sc_turned (fun vs H Q E h => by obtain ⟨a, r, t, U, u, b, rfl, _⟩ := h; rfl) (fun cdv A outer s H vs Q E hr h => ?_)
  have nd := sc_turned.nd
  have hu := hu_of hr
  have hu65 := hu65_of hr
  obtain ⟨U, D, u, L, p, m, rfl, hU, hD, ndL, p0, hp, lu, lm, q⟩ := h
  obtain ⟨us, hus, eu⟩ := id hU
  refine ⟨_, PSs.nox 
    (pss_cons (ps_set (i := 3) nd rfl (Or.inl rfl) (pe_callTy call_list_of (by rfl) T.b_list (by decide +kernel) (pa_cons (pv 0) pa_nil)))
    (pss_cons (ps_while PassesOwn.never (pt_cmpR op_ne (pv 2) (pe_un un_neg pe_int) (nomark _)) 
      (pss_cons (ps_set (i := 4) nd rfl (Or.inl rfl) (pe_dget hu (pv 1) (pv 2) (fun _ _ => rfl)))
      (pss_cons (ps_if (pt_cmpR (x_inD K hu65) (pe_tup (pa_cons (pv 2) (pa_cons (pv 4) pa_nil))) (pv 3) (by rfl)) 
        (pss_one (ps_expr (pe_bm PySem.F.plainAttrs_list PySem.F.slot_list_remove PySem.F.type_list_remove (mt_removeD hu65) (pv 3) (pa_cons (pe_tup (pa_cons (pv 2) (pa_cons (pv 4) pa_nil))) pa_nil)))) 
        (pss_one (ps_expr (pe_bm PySem.F.plainAttrs_list PySem.F.slot_list_append PySem.F.type_list_append mt_append (pv 3) (pa_cons (pe_tup (pa_cons (pv 4) (pa_cons (pv 2) pa_nil))) pa_nil)))))
      (pss_one (ps_set (i := 2) nd rfl (Or.inl rfl) (pv 4))))))
    (pss_one (ps_ret (pv 3))))), ?_⟩
  refine ⟨_, rfl, U, us, rfl, .inl (.of hus), fun N nN => ?_⟩
  have sN : Same H (upd H N (.lst us)) := same_upd nN
  let Pv : Nat → L2.St → Hp → Prop := fun j σ H' => ∃ (u1 : Option V) (u' : List PP), σ = [some (.ref U), some (.ref D), some (.int (p j)), some (.ref N), u1] ∧ Same H H' ∧ UsedAt H' N u' ∧ FM.flips p j u' = FM.flips p m u ∧ j ≤ m ∧ u'.length ≤ 200000 + (m - j)
  refine ⟨Pv, ⟨m, _, u, rfl, sN, ⟨us, upd_same, eu.mono fun _ _ => PairAt.same sN⟩, rfl, Nat.le_refl _, by omega⟩, fun j σ H' pv => ?_⟩
  obtain ⟨u1, u', rfl, s1, hN, hfl, jm, lu'⟩ := pv
  refine ⟨_, rfl, _, rfl, rfl, _, rfl, ?_⟩
  rw [decI]
  cases j with
  | zero =>
    rw [decide_eq_true p0]
    exact ⟨_, rfl, q H' N s1 nN (by rw [← hfl]; exact hN)⟩
  | succ j =>
    obtain ⟨hin, hne⟩ := hp j (by omega)
    rw [decide_eq_false hne]
    refine ⟨fun σ' H'' => ∃ m', m' < j + 1 ∧ Pv m' σ' H'', fun _ _ z => z, ?_⟩
    refine ⟨_, rfl, _, rfl, D, .int (p j), rfl, by rw [← came_get ndL hin]; exact DGet.k (k := .inl (p (j + 1))) (s1 _ _ hD), ?_⟩
    obtain ⟨vs', hvs, ev⟩ := id hN
    refine ⟨_, rfl, _, rfl, (by show 2 ≤ sizeLine; decide), fun t nt => ⟨_, rfl, pairD (p (j + 1), p j), u'.map pairD, pair_dp ⟨t, rfl, upd_same⟩, used_dp (hN.same (same_upd nt)), pair_shaped _, pairs_shaped _, _, rfl, ?_⟩⟩
    have s2 : Same H' (upd H' t (.tup [.int (p (j + 1)), .int (p j)])) := same_upd nt
    revert s2
    generalize upd H' t (.tup [.int (p (j + 1)), .int (p j)]) = H2
    intro s2
    rw [pair_any]
    have hN2 := hN.same s2
    have hf2 : FM.flips p j (FM.flip u' (p j) (p (j + 1))) = FM.flips p m u := hfl
    have fl := flip_len u' (p j) (p (j + 1))
    by_cases c : (p (j + 1), p j) ∈ u'
    · rw [decide_eq_true c]
      have ef : FM.flip u' (p j) (p (j + 1)) = u'.erase (p (j + 1), p j) := if_pos c
      obtain ⟨ix, h1, h2, h3⟩ := erase_ix c
      refine ⟨_, rfl, .inl ⟨rfl, _, .of (s2 _ _ hvs)⟩, _, rfl, _, rfl, (by show 2 ≤ sizeLine; decide), fun t2 nt2 => ?_⟩
      have s3 : Same H2 (upd H2 t2 (.tup [.int (p (j + 1)), .int (p j)])) := same_upd nt2
      have ht2 : (upd H2 t2 (.tup [.int (p (j + 1)), .int (p j)])) t2 = some (.tup [.int (p (j + 1)), .int (p j)]) := upd_same
      revert s3 ht2
      generalize upd H2 t2 (.tup [.int (p (j + 1)), .int (p j)]) = H3
      intro s3 ht2
      have hv3 := s3 _ _ (s2 _ _ hvs)
      have ev3 : Each (PairAt H3) vs' u' := ev.mono fun _ _ => PairAt.same (s2.trans s3)
      refine ⟨N, vs', .ref t2, pairD (p (j + 1), p j), u'.map pairD, ix, pairD (p (j + 1), p j), rfl, rfl, hv3, pairs_dp ev3, pair_dp ⟨t2, rfl, ht2⟩, pairs_shaped _, pair_shaped _, by rw [List.getElem?_map, h1]; rfl, by rw [pair_eqv]; exact decide_eq_true rfl, fun k z hk hz => ?_, ?_⟩
      · rw [List.getElem?_map] at hz
        obtain ⟨y, hy, rfl⟩ := Option.map_eq_some_iff.mp hz
        rw [pair_eqv]
        exact decide_eq_false (h2 k y hk hy)
      · refine ⟨_, rfl, j, by omega, _, u'.erase (p (j + 1), p j), rfl, Same.keep ((s1.trans s2).trans s3) nN, ⟨_, upd_same, ?_⟩, by rw [← ef]; exact hf2, by omega, by rw [← ef]; omega⟩
        rw [h3]
        exact (ev3.erase ix).mono (pairAt_st N H3 _ ⟨_, hv3⟩ fun b o nb eb => by rw [upd_ne nb]; exact eb)
    · rw [decide_eq_false c]
      have ef : FM.flip u' (p j) (p (j + 1)) = u' ++ [(p j, p (j + 1))] := if_neg c
      refine ⟨_, rfl, .inl ⟨rfl, _, .of (s2 _ _ hvs)⟩, _, rfl, _, rfl, (by show 2 ≤ sizeLine; decide), fun t2 nt2 => ?_⟩
      have s3 : Same H2 (upd H2 t2 (.tup [.int (p j), .int (p (j + 1))])) := same_upd nt2
      have ht2 : (upd H2 t2 (.tup [.int (p j), .int (p (j + 1))])) t2 = some (.tup [.int (p j), .int (p (j + 1))]) := upd_same
      revert s3 ht2
      generalize upd H2 t2 (.tup [.int (p j), .int (p (j + 1))]) = H3
      intro s3 ht2
      have hv3 := s3 _ _ (s2 _ _ hvs)
      have ev3 : Each (PairAt H3) vs' u' := ev.mono fun _ _ => PairAt.same (s2.trans s3)
      refine ⟨N, vs', .ref t2, rfl, rfl, hv3, ?_, ?_⟩
      · rw [ev.1]
        exact small10 (by omega)
      · refine ⟨_, rfl, j, by omega, _, u' ++ [(p j, p (j + 1))], rfl, Same.keep ((s1.trans s2).trans s3) nN, ⟨_, upd_same, ?_⟩, by rw [← ef]; exact hf2, by omega, by rw [← ef]; omega⟩
        exact (ev3.snoc ⟨t2, rfl, ht2⟩).mono (pairAt_st N H3 _ ⟨_, hv3⟩ fun b o nb eb => by rw [upd_ne nb]; exact eb)
def spGreatest : Sp := fun args H Q _ => ∃ (v : V) (W : Wb) (t : Nat), args = [v, .int t] ∧ WbAt H v W ∧ WbOk W ∧ t < W.kns.length ∧ t ∉ W.roots ∧
  ∀ H' U u fl L, Same H H' → H U = none → UsedAt H' U u → FM.Flow W.gr t u fl → FM.Done W.gr t u L → Q (.ref U) H'
theorem sc_greatest : FnScope ["web", "knot", "used", "came"] ["web", "knot"] (defScope (top 42)) := ⟨rfl, rfl, rfl, by decide +kernel, rfl, by decide +kernel, by decide +kernel⟩
theorem ok_greatest (F : FnP K "greatest" 42 f fd) (T : Txt w K mg) (C_reached : Cal P w K mg base CX0 5 "reached" spReached) (C_turned : Cal P w K mg base CX0 1 "turned" spTurned) : FnOk P w K mg base CX0 6 f fd ["web", "knot"] spGreatest := by
  refine F.ok sc_greatest (fun vs H Q E h => by obtain ⟨a, r, t, rfl, _⟩ := h; rfl) (fun cdv A outer s H vs Q E hr h => ?_)
  have nd := sc_greatest.nd
  have hu := hu_of hr
  obtain ⟨v, W, t, rfl, hW, ok, ht, hnr, q⟩ := h
  have gok := gr_ok ok
  have fewW := ok.few
  have gn : W.gr.n = W.kns.length := rfl
  refine ⟨_, PSs.nox 
    (pss_cons (ps_set (i := 2) nd rfl (Or.inl rfl) (pe_lst pa_nil))
    (pss_cons (ps_set (i := 3) nd rfl (Or.inl rfl) (pe_fn C_reached hr (by rfl) pass0 (pa_cons (pv 0) (pa_cons (pv 1) (pa_cons (pv 2) pa_nil)))))
    (pss_cons (ps_while PassesOwn.never (pt_cmp (pc_din hu (pe_op op_mul pe_int (pv 1)) (pv 3))) 
      (pss_cons (ps_set (i := 2) nd rfl (Or.inl rfl) (pe_fn C_turned hr (by rfl) pass0 (pa_cons (pv 2) (pa_cons (pv 3) (pa_cons (pe_op op_mul pe_int (pv 1)) pa_nil)))))
      (pss_one (ps_set (i := 3) nd rfl (Or.inl rfl) (pe_fn C_reached hr (by rfl) pass0 (pa_cons (pv 0) (pa_cons (pv 1) (pa_cons (pv 2) pa_nil))))))))
    (pss_one (ps_ret (pv 2)))))), ?_⟩
  refine ⟨Nat.zero_le _, fun U nU => ?_⟩
  have s0 : Same H (upd H U (.lst [])) := same_upd nU
  refine ⟨_, rfl, _, rfl, _, rfl, v, W, t, U, [], 0, rfl, hW.same s0, ok, ⟨[], upd_same, .nil⟩, FM.Flow.nil _ _, fun H1 D L s1 nD hD cm cl => ?_⟩
  let Pv : Nat → L2.St → Hp → Prop := fun m σ H' => ∃ (U D : Addr) (u L : List PP) (fl : Nat), σ = [some v, some (.int (t : Nat)), some (.ref U), some (.ref D)] ∧ Same H H' ∧ H U = none ∧ UsedAt H' U u ∧ FM.Flow W.gr t u fl ∧ H' D = some (.dK (cameK L)) ∧ FM.Came W.gr t u L ∧ FM.Closed W.gr t u L ∧ m = W.roots.length - fl
  refine ⟨Pv, ⟨_, U, D, [], L, 0, rfl, s0.trans s1, nU, ⟨[], s1 _ _ upd_same, .nil⟩, FM.Flow.nil _ _, hD, cm, cl, rfl⟩, fun m σ H' p => ?_⟩
  obtain ⟨U, D, u, L, fl, rfl, s2, nU, hU, FL, hD, cm, cl, rfl⟩ := p
  refine ⟨_, rfl, _, _, rfl, rfl, .inl ⟨by decide, by decide⟩, _, rfl, D, _, rfl, DGet.k (k := .inl (2 * (t : Int))) hD, _, rfl, ?_⟩
  rw [came_some]
  by_cases c : FM.fr t ∈ L.map (·.1)
  · rw [decide_eq_true (show 2 * (t : Int) ∈ L.map (·.1) from c)]
    refine ⟨fun σ' H'' => ∃ m', m' < W.roots.length - fl ∧ Pv m' σ' H'', fun _ _ z => z, ?_⟩
    obtain ⟨m, p, Wy, hL⟩ := cm.toWay c
    have wl := way_len gok Wy FL
    have F2 := FL.more Wy hnr
    have fr' : fl + 1 ≤ W.roots.length := F2.le_roots gok
    refine ⟨_, rfl, _, rfl, _, rfl, _, _, rfl, rfl, .inl ⟨by decide, by decide⟩, U, D, u, L, p, m, by rw [Wy.pm]; rfl, hU, hD, cm.nd, Wy.p0, fun j hj => ⟨hL j hj, fun z => ?_⟩, flow_len gok FL (by omega), by omega, fun H3 U2 s3 nU2 hU2 => ?_⟩
    · have := Wy.inj (j + 1) 0 (by omega) (by omega) (by rw [z, Wy.p0])
      omega
    · refine ⟨_, rfl, _, rfl, _, rfl, v, W, t, U2, _, fl + 1, rfl, hW.same (s2.trans s3), ok, hU2, F2, fun H4 D2 L2 s4 nD2 hD2 cm2 cl2 => ?_⟩
      exact ⟨W.roots.length - (fl + 1), by omega, U2, D2, _, L2, fl + 1, rfl, (s2.trans s3).trans s4, Same.free s2 nU2, hU2.same s4, F2, hD2, cm2, cl2, rfl⟩
  · rw [decide_eq_false (show ¬ 2 * (t : Int) ∈ L.map (·.1) from c)]
    exact ⟨_, rfl, q H' U u fl L s2 nU hU FL ⟨cm, cl, c⟩⟩
end
end K41
set_option maxHeartbeats 4000000
namespace K41
open PySem PySem.Spec PyProof.Rows L2
/-- the error's own way out -/
def Out (E : XK) (C : Addr) (H : Hp) (k : Nat) : Prop := ∀ d H', Same H H' → H d = none → H' d = some (.xd [("knot", nV k)]) → E (.ref C) (some d) H'
theorem Out.sub {E : XK} {C : Addr} {H H1 : Hp} {k : Nat} (o : Out E C H k) (s : Same H H1) : Out E C H1 k := fun d H' s1 nd hd => o d H' (s.trans s1) (Same.free s nd) hd
theorem nats_flat (l : List Nat) : (l.map nV).all flatV = true := by
  rw [List.all_map]
  exact List.all_eq_true.mpr fun _ _ => rfl
theorem nats_in (n : Nat) (l : List Nat) : inV (nV n) (l.map nV) = decide (n ∈ l) := by
  unfold inV
  rw [Bool.eq_iff_iff, List.any_eq_true, decide_eq_true_eq]
  constructor
  · rintro ⟨x, hx, h⟩
    obtain ⟨m, hm, rfl⟩ := List.mem_map.mp hx
    have h : ((m : Int) == (n : Int)) = true := h
    have : m = n := by have := eq_of_beq h; omega
    exact this ▸ hm
  · intro h
    exact ⟨nV n, List.mem_map.mpr ⟨n, h, rfl⟩, by show ((n : Int) == (n : Int)) = true; exact beq_self_eq_true _⟩
section
variable {P : Program} {w : World} {K : PySem.W.Frag} {mg : Str → Option Value} {base : Heap} {f : Addr} {fd : FuncData} {CN CR : Addr}
def spCkCut (CN CR : Addr) : Sp := fun args H Q E => ∃ (v : V) (W : Wb) (k : Nat), args = [v, .int k] ∧ WbAt H v W ∧ WbOk W ∧ k < W.kns.length ∧
  (FM.Kept W.gr k → k ∉ W.roots → ∀ x H', Same H H' → Q x H') ∧ (¬ FM.Kept W.gr k → Out E CN H k) ∧ (FM.Kept W.gr k → k ∈ W.roots → Out E CR H k)
theorem sc_check_cut : FnScope ["web", "knot"] ["web", "knot"] (defScope (top 43)) := ⟨rfl, rfl, rfl, by decide +kernel, rfl, by decide +kernel, by decide +kernel⟩
theorem ok_check_cut (F : FnP K "check_cut" 43 f fd) (T : Txt w K mg) (eR : EC P K mg "Rooted" CR) (C_check_knot : Cal P w K mg base CX0 9 "check_knot" spCkKnot) (C_road_of : Cal P w K mg base (L2.CX P w) 5 "road_of" (spRoad CN)) :
    FnOk P w K mg base (L2.CX P w) 10 f fd ["web", "knot"] (spCkCut CN CR) := by
  refine F.ok sc_check_cut (fun vs H Q E h => by obtain ⟨a, r, k, rfl, _⟩ := h; rfl) (fun cdv A outer s H vs Q E hr h => ?_)
  have nd := sc_check_cut.nd
  obtain ⟨v, W, k, rfl, hW, ok, hk, qy, qn, qr⟩ := h
  refine ⟨_, 
    (pss_cons (ps_expr (pe_fn C_check_knot hr (by rfl) pass0 (pa_cons (pv 0) (pa_cons (pv 1) pa_nil))))
    (pss_cons (ps_expr (pe_fn C_road_of hr (by rfl) (passes_call (takes_of rfl rfl rfl rfl) (fun _ _ _ _ h => h)) (pa_cons (pv 0) (pa_cons (pv 1) pa_nil))))
    (pss_one (ps_if (pt_cmpR (x_in K) (pv 1) (pe_ix (x_tup K) (pv 0) pe_int (fun _ _ => rfl)) (by rfl)) 
      (pss_one (ps_raiseE eR rfl hr (takes_of rfl rfl rfl rfl) (by rfl) (pa_cons (pv 1) pa_nil))) pss_nil)))), ?_⟩
  refine ⟨_, rfl, _, rfl, v, W, k, rfl, hW, ok, hk, fun H1 s1 => ?_⟩
  refine ⟨_, rfl, _, rfl, v, W, k, rfl, hW.same s1, ok, fun c x H2 s2 => ?_, fun c d H2 s2 nd2 hd2 => qn c d H2 (s1.trans s2) (Same.free s1 nd2) hd2⟩
  have s3 := s1.trans s2
  obtain ⟨a, r, o, kt, vs, rfl, ha, hrt, ho, hkt, ek⟩ := (hW.same s3).ex
  refine ⟨_, rfl, _, rfl, a, _, 1, _, rfl, rfl, .of ha, at1, r, _, rfl, .inr (.of hrt), rfl, nats_flat _, _, rfl, ?_⟩
  show if inV (nV k) (W.roots.map nV) = true then _ else _
  rw [nats_in]
  by_cases c2 : k ∈ W.roots
  · rw [decide_eq_true c2]
    exact ⟨_, rfl, eans (Q := E) fun d nd => qr c c2 d _ (s3.trans (same_upd nd)) (Same.free s3 nd) upd_same⟩
  · rw [decide_eq_false c2]
    exact qy c c2 _ _ s3
def spCut (CN CR : Addr) : Sp := fun args H Q E => ∃ (v : V) (W : Wb) (k : Nat), args = [v, .int k] ∧ WbAt H v W ∧ WbOk W ∧ k < W.kns.length ∧
  (FM.Kept W.gr k → k ∉ W.roots → ∀ H' D u fl L, Same H H' → H D = none → H' D = some (.tup ((FM.cutL W.gr.n L).map nV)) → FM.Flow W.gr k u fl → FM.Done W.gr k u L → Q (.ref D) H') ∧
  (¬ FM.Kept W.gr k → Out E CN H k) ∧ (FM.Kept W.gr k → k ∈ W.roots → Out E CR H k)
theorem cut_step (n : Nat) (L : List PP) (i : Nat) (hi : i < n) : ((List.range n).take (i + 1)).filter (fun k => decide (FM.fr k ∈ L.map (·.1)) && !decide (FM.bh k ∈ L.map (·.1))) =
    ((List.range n).take i).filter (fun k => decide (FM.fr k ∈ L.map (·.1)) && !decide (FM.bh k ∈ L.map (·.1))) ++ (if decide (FM.fr i ∈ L.map (·.1)) && !decide (FM.bh i ∈ L.map (·.1)) then [i] else []) := by
  rw [take1 (show (List.range n)[i]? = some i by rw [List.getElem?_range hi]), List.filter_append]
  congr 1
  simp only [List.filter_cons, List.filter_nil]
theorem sc_cut : FnScope ["web", "knot", "came", "other"] ["web", "knot"] (defScope (top 44)) := ⟨rfl, rfl, rfl, by decide +kernel, rfl, by decide +kernel, by decide +kernel⟩
theorem ok_cut (F : FnP K "cut" 44 f fd) (T : Txt w K mg) (C_check_cut : Cal P w K mg base (L2.CX P w) 10 "check_cut" (spCkCut CN CR)) (C_reached : Cal P w K mg base CX0 5 "reached" spReached) (C_greatest : Cal P w K mg base CX0 6 "greatest" spGreatest) :
    FnOk P w K mg base (L2.CX P w) 11 f fd ["web", "knot"] (spCut CN CR) := by
  refine F.ok sc_cut (fun vs H Q E h => by obtain ⟨a, r, k, rfl, _⟩ := h; rfl) (fun cdv A outer s H vs Q E hr h => ?_)
  have nd := sc_cut.nd
  have hu := hu_of hr
  obtain ⟨v, W, k, rfl, hW, ok, hk, qy, qn, qr⟩ := h
  have gok := gr_ok ok
  have fewW := ok.few
  refine ⟨_, 
    (pss_cons (ps_expr (pe_fn C_check_cut hr (by rfl) (passes_call (takes_of rfl rfl rfl rfl) (fun _ _ _ _ h => h)) (pa_cons (pv 0) (pa_cons (pv 1) pa_nil))))
    (PSs.nox (pss_cons (ps_set (i := 2) nd rfl (Or.inr rfl) (pe_fn C_reached hr (by rfl) pass0 (pa_cons (pv 0) (pa_cons (pv 1) (pa_cons (pe_fn C_greatest hr (by rfl) pass0 (pa_cons (pv 0) (pa_cons (pv 1) pa_nil))) pa_nil)))))
    (pss_one (ps_ret (pe_callTy call_tuple_of (by rfl) T.b_tuple (by decide +kernel) (pa_cons (pe_lc (own := [("other", 3)]) rfl nd (pi_range1 (by rfl) T.b_range (pa_cons (pe_callB (x_len K) (by rfl) T.b_len PySem.boot_len (pa_cons (pe_ix (x_tup K) (pv 0) pe_int (fun _ _ => rfl)) pa_nil)) pa_nil)) (blkOk_by (own := [("other", 3)]) (N := ["web", "knot", "came", "other"]) (sc := defScope (top 44)) (by decide +kernel)) (fun _ _ _ _ _ => (pg_name (i := 3) nd rfl (Or.inl rfl))) (fun _ _ _ _ _ => (pts_one (PW.pt (pw_and (pt_cmp (pc_din hu (pe_op op_mul pe_int (pv 3)) (pv 2))) (pw_and1 (pt_cmp (pc_dnotin hu (pe_op op_add (pe_op op_mul pe_int (pv 3)) pe_int) (pv 2)))))))) (fun _ _ _ _ _ => (pv 3))) pa_nil))))))), ?_⟩
  refine ⟨_, rfl, _, rfl, v, W, k, rfl, hW, ok, hk, fun c c2 x H1 s1 => ?_, qn, qr⟩
  refine ⟨_, rfl, _, rfl, _, rfl, _, rfl, v, W, k, rfl, hW.same s1, ok, hk, c2, fun H2 U u fl L s2 nU hU FL DN => ?_⟩
  have s3 := s1.trans s2
  refine ⟨v, W, k, U, u, fl, rfl, hW.same s3, ok, hU, FL, fun H3 D L2 s4 nD hD cm cl => ?_⟩
  have DN2 : FM.Done W.gr k u L2 := ⟨cm, cl, fun h => DN.not (cm.all (T := fun q => q ∈ L.map (·.1)) DN.src (fun a b ha st => DN.closed a ha b st) _ h)⟩
  have s5 := s3.trans s4
  obtain ⟨a, r, o, kt, vs, rfl, ha, hrt, ho, hkt, ek⟩ := (hW.same s5).ex
  have lv := ek.1
  refine ⟨_, rfl, a, _, 3, _, rfl, rfl, .of ha, at3, _, _, rfl, .inr ⟨_, .of hkt, rfl⟩, _, rfl, by omega, by omega, fun N nN => ?_⟩
  rw [Int.toNat_natCast, lv]
  refine lc_it walk_range (fun i H' => Acc H3 N (fun i => (((List.range W.gr.n).take i).filter (fun k => decide (FM.fr k ∈ L2.map (·.1)) && !decide (FM.bh k ∈ L2.map (·.1)))).map nV) i H') (Acc.start nN rfl) (fun _ _ _ _ => trivial) (fun i x H4 H5 hi p y => ?_) (fun H4 p => ?_)
  · obtain ⟨rfl, hx⟩ := y
    replace hx : x = nV i := hx.trans (congrArg V.int (Int.zero_add _))
    subst hx
    have st := cut_step W.gr.n L2 i hi
    have few : ((((List.range W.gr.n).take i).filter (fun k => decide (FM.fr k ∈ L2.map (·.1)) && !decide (FM.bh k ∈ L2.map (·.1)))).map nV).length < sizeLine := small1000 (by
      rw [List.length_map]
      refine Nat.le_trans (List.length_filter_le _ _) ?_
      rw [List.length_take]
      omega)
    refine ⟨rfl, _, rfl, _, _, rfl, rfl, .inl ⟨by decide, by decide⟩, _, rfl, D, _, rfl, DGet.k (k := .inl (2 * ((i : Nat) : Int))) (p.1 _ _ hD), _, rfl, ?_⟩
    rw [came_some]
    by_cases d1 : FM.fr i ∈ L2.map (·.1)
    · rw [decide_eq_true (show 2 * ((i : Nat) : Int) ∈ L2.map (·.1) from d1)]
      refine ⟨_, rfl, _, _, rfl, rfl, .inl ⟨by decide, by decide⟩, _, _, rfl, rfl, _, rfl, D, _, rfl, DGet.k (k := .inl (2 * ((i : Nat) : Int) + 1)) (p.1 _ _ hD), _, rfl, ?_⟩
      rw [came_some]
      by_cases d2 : FM.bh i ∈ L2.map (·.1)
      · rw [decide_eq_true (show 2 * ((i : Nat) : Int) + 1 ∈ L2.map (·.1) from d2)]
        exact Acc.pass p (Same.refl _) (by rw [st, decide_eq_true d1, decide_eq_true d2]; simp)
      · rw [decide_eq_false (show ¬ 2 * ((i : Nat) : Int) + 1 ∈ L2.map (·.1) from d2)]
        exact ⟨_, rfl, Acc.put nN p (Same.refl _) few (by rw [st, decide_eq_true d1, decide_eq_false d2]; simp)⟩
    · rw [decide_eq_false (show ¬ 2 * ((i : Nat) : Int) ∈ L2.map (·.1) from d1)]
      exact Acc.pass p (Same.refl _) (by rw [st, decide_eq_false d1]; simp)
  · obtain ⟨s6, h6⟩ := p
    refine ⟨N, _, rfl, .inl ⟨.of h6, fun l nl => ?_⟩⟩
    refine qy c c2 _ l u fl L2 ((s5.trans s6).trans (same_upd nl)) (Same.free (s5.trans s6) nl) ?_ FL DN2
    rw [upd_same]
    show some (HO.tup ((((List.range W.gr.n).take W.gr.n).filter (fun k => decide (FM.fr k ∈ L2.map (·.1)) && !decide (FM.bh k ∈ L2.map (·.1)))).map nV)) = _
    rw [List.take_of_length_le (by simp)]
    rfl
end
end K41
set_option maxHeartbeats 4000000
namespace K41
open PySem PySem.Spec PyProof.Rows L2
theorem op_eq_dec {G : FM.Gr} {t : Nat} {u : List PP} {fl : Nat} (F : FM.Flow G t u fl) {a b b' : Int} (h1 : (a, b) ∈ u) (h2 : (a, b') ∈ u) (na : a ≠ -1) : b = b' := by
  rcases (F.kp _ h1).1 with e | ⟨k, _, e | e⟩
  · exact absurd e na
  · have e : a = FM.fr k := e
    subst e
    exact ((FM.arc_fr (F.arc _ h1)).2.2).trans ((FM.arc_fr (F.arc _ h2)).2.2).symm
  · have e : a = FM.bh k := e
    subst e
    exact F.outU h1 h2
theorem _root_.FM.Own.into {G : FM.Gr} {t : Nat} {u : List PP} {r i k : Nat} (o : FM.Own G t u r i k) : ∃ z, (z, FM.fr k) ∈ u := by
  cases o with
  | base _ h => exact ⟨_, h⟩
  | step _ _ h => exact ⟨_, h⟩
theorem _root_.FM.Own.first {G : FM.Gr} {t : Nat} {u : List PP} {r i k : Nat} (o : FM.Own G t u r i k) (h0 : i = 0) : k ∈ G.roots := by
  cases o with
  | base h _ => exact h
  | step _ _ _ => exact absurd h0 (Nat.succ_ne_zero _)
/-- the dict that leads on along the used pairs -/
structure OI (u : List PP) (kvs : List (Key × V)) (i : Nat) : Prop where
  sound : ∀ a x, valV kvs (.inl a) = some x → ∃ b, x = .int b ∧ (a, b) ∈ u
  full : ∀ j a b, j < i → u[j]? = some (a, b) → a ≠ -1 → (valV kvs (.inl a)).isSome = true
  len : kvs.length ≤ i
theorem OI.put {u : List PP} {kvs : List (Key × V)} {i : Nat} (o : OI u kvs i) {a b : Int} (h : u[i]? = some (a, b)) : OI u (putK kvs (.inl a) (.int b)) (i + 1) := by
  refine ⟨fun x y hy => ?_, fun j x y hj hu hx => ?_, ?_⟩
  · rw [valV_put] at hy
    by_cases e : (Sum.inl x : Key) = .inl a
    · rw [if_pos e] at hy
      cases hy
      cases e
      exact ⟨b, rfl, List.mem_of_getElem? h⟩
    · rw [if_neg e] at hy
      exact o.sound x y hy
  · rw [valV_put]
    by_cases e : (Sum.inl x : Key) = .inl a
    · rw [if_pos e]
      rfl
    · rw [if_neg e]
      by_cases e2 : j = i
      · subst e2
        rw [h] at hu
        cases hu
        exact absurd rfl e
      · exact o.full j x y (by omega) hu hx
  · have := o.len
    unfold putK
    split
    · rw [List.length_map]
      omega
    · rw [List.length_append]
      simp
      omega
theorem OI.pass {u : List PP} {kvs : List (Key × V)} {i : Nat} (o : OI u kvs i) {b : Int} (h : u[i]? = some (-1, b)) : OI u kvs (i + 1) :=
  ⟨o.sound, fun j x y hj hu hx => by
    by_cases e2 : j = i
    · subst e2
      rw [h] at hu
      cases hu
      exact absurd rfl hx
    · exact o.full j x y (by omega) hu hx, Nat.le_succ_of_le o.len⟩
theorem OI.get {G : FM.Gr} {t : Nat} {u : List PP} {fl : Nat} (F : FM.Flow G t u fl) {kvs : List (Key × V)} (o : OI u kvs u.length) {a b : Int} (h : (a, b) ∈ u) (na : a ≠ -1) : valV kvs (.inl a) = some (.int b) := by
  obtain ⟨j, hj⟩ := List.getElem?_of_mem h
  obtain ⟨x, hx⟩ := Option.isSome_iff_exists.mp (o.full j a b (lt_of_get hj) hj na)
  obtain ⟨b', e, hb⟩ := o.sound a x hx
  rw [hx, e, op_eq_dec F h hb na]
/-- a road at v: its knots and the last one -/
def RoadAt (t : Nat) (H : Hp) (v : V) (p : Nat × List Nat) : Prop := ∃ q, v = .ref q ∧ H q = some (.tup ((p.2 ++ [t]).map nV))
theorem roadAt_st (t : Nat) : Steady (RoadAt t) := fun D H H' hl h v a ⟨q, e, ht⟩ => ⟨q, e, h q _ (fun z => by subst z; obtain ⟨l, hl⟩ := hl; rw [hl] at ht; cases ht) ht⟩
theorem RoadAt.same {t : Nat} {H H' : Hp} (s : Same H H') {v : V} {p : Nat × List Nat} (h : RoadAt t H v p) : RoadAt t H' v p := let ⟨q, e, h⟩ := h; ⟨q, e, s _ _ h⟩
/-- the roads that a flow shows, root by root -/
structure RoadsOf (G : FM.Gr) (t : Nat) (u : List PP) (roots : List Nat) (rs : List (Nat × List Nat)) : Prop where
  rts : rs.map (·.1) = roots.filter fun r => decide (((-1 : Int), FM.fr r) ∈ u)
  each : ∀ p ∈ rs, FM.RoadPre G t u p.1 p.2 ∧ FM.Own G t u p.1 p.2.length t ∧ p.2 ≠ []
section
variable {P : Program} {w : World} {K : PySem.W.Frag} {mg : Str → Option Value} {base : Heap} {f : Addr} {fd : FuncData} {CN CR : Addr}
def spApart (CN CR : Addr) : Sp := fun args H Q E => ∃ (v : V) (W : Wb) (k : Nat), args = [v, .int k] ∧ WbAt H v W ∧ WbOk W ∧ k < W.kns.length ∧
  (FM.Kept W.gr k → k ∉ W.roots → ∀ H' D vs rs u fl L, Same H H' → H D = none → H' D = some (.tup vs) → Each (RoadAt k H') vs rs → RoadsOf W.gr k u W.roots rs → FM.Flow W.gr k u fl → FM.Done W.gr k u L → Q (.ref D) H') ∧
  (¬ FM.Kept W.gr k → Out E CN H k) ∧ (FM.Kept W.gr k → k ∈ W.roots → Out E CR H k)
theorem RoadsOf.step {G : FM.Gr} {t : Nat} {u : List PP} {roots : List Nat} {i n : Nat} (h : roots[i]? = some n) {rs : List (Nat × List Nat)} (r : RoadsOf G t u (roots.take i) rs) {way : List Nat} (hin : ((-1 : Int), FM.fr n) ∈ u)
    (R : FM.RoadPre G t u n way) (o : FM.Own G t u n way.length t) (ne : way ≠ []) : RoadsOf G t u (roots.take (i + 1)) (rs ++ [(n, way)]) := by
  refine ⟨?_, fun p hp => ?_⟩
  · rw [take1 h, List.filter_append, List.map_append, r.rts]
    congr 1
    rw [List.filter_cons, if_pos (decide_eq_true hin)]
    rfl
  · rcases List.mem_append.mp hp with hp | hp
    · exact r.each p hp
    · rw [List.mem_singleton] at hp
      subst hp
      exact ⟨R, o, ne⟩
theorem RoadsOf.pass {G : FM.Gr} {t : Nat} {u : List PP} {roots : List Nat} {i n : Nat} (h : roots[i]? = some n) {rs : List (Nat × List Nat)} (r : RoadsOf G t u (roots.take i) rs) (hin : ((-1 : Int), FM.fr n) ∉ u) : RoadsOf G t u (roots.take (i + 1)) rs := by
  refine ⟨?_, r.each⟩
  rw [take1 h, List.filter_append, r.rts, List.filter_cons, if_neg (by rw [decide_eq_false hin]; exact Bool.false_ne_true)]
  simp
theorem sc_roads_apart : FnScope ["web", "knot", "used", "onto", "found", "root", "way", "place", "one", "other"] ["web", "knot"] (defScope (top 45)) := ⟨rfl, rfl, rfl, by decide +kernel, rfl, by decide +kernel, by decide +kernel⟩
theorem ok_roads_apart (F : FnP K "roads_apart" 45 f fd) (T : Txt w K mg) (C_check_cut : Cal P w K mg base (L2.CX P w) 10 "check_cut" (spCkCut CN CR)) (C_greatest : Cal P w K mg base CX0 6 "greatest" spGreatest) :
    FnOk P w K mg base (L2.CX P w) 11 f fd ["web", "knot"] (spApart CN CR) := by
  refine F.ok sc_roads_apart (fun vs H Q E h => by obtain ⟨a, r, k, rfl, _⟩ := h; rfl) (fun cdv A outer s H vs Q E hr h => ?_)
  have nd := sc_roads_apart.nd
  have hu := hu_of hr
  have hu65 := hu65_of hr
  obtain ⟨v, W, k, rfl, hW, ok, hk, qy, qn, qr⟩ := h
  have gok := gr_ok ok
  have fewW := ok.few
  have rl := ok.rl
  have gn : W.gr.n = W.kns.length := rfl
  refine ⟨_, 
    (pss_cons (ps_expr (pe_fn C_check_cut hr (by rfl) (passes_call (takes_of rfl rfl rfl rfl) (fun _ _ _ _ h => h)) (pa_cons (pv 0) (pa_cons (pv 1) pa_nil))))
    (PSs.nox (pss_cons (ps_set (i := 2) nd rfl (Or.inl rfl) (pe_fn C_greatest hr (by rfl) pass0 (pa_cons (pv 0) (pa_cons (pv 1) pa_nil))))
    (pss_cons (ps_setDc (own := [("one", 8), ("other", 9)]) (g := gTup K 2 (gCons (gName 8) (gCons (gName 9) gNil))) (i := 3) rfl nd rfl rfl (sw_trueD rfl rfl rfl (by decide +kernel)) (pi_list (pv 2)) (blkOk_by (own := [("one", 8), ("other", 9)]) (N := ["web", "knot", "used", "onto", "found", "root", "way", "place", "one", "other"]) (sc := defScope (top 45)) (by decide +kernel)) (fun _ _ _ _ _ => (pg_tup rfl (pgs_cons (pg_name (i := 8) nd rfl (Or.inl rfl)) (pgs_cons (pg_name (i := 9) nd rfl (Or.inl rfl)) pgs_nil)))) (fun _ _ _ _ _ => (pts_one (pt_cmpR op_ne (pv 8) (pe_un un_neg pe_int) (nomark _)))) (fun _ _ _ _ _ => (pv 8)) (fun _ _ _ _ _ => (pv 9)))
    (pss_cons (ps_set (i := 4) nd rfl (Or.inl rfl) (pe_lst pa_nil))
    (pss_cons (ps_for PassesOwn.never rfl (pi_tup (pe_ix (x_tup K) (pv 0) pe_int (fun _ _ => rfl))) (pg_name (i := 5) nd rfl (Or.inl rfl)) 
      (pss_one (ps_if (pt_cmpR (x_inD K hu65) (pe_tup (pa_cons (pe_un un_neg pe_int) (pa_cons (pe_op op_mul pe_int (pv 5)) pa_nil))) (pv 2) (by rfl)) 
        (pss_cons (ps_par (i := 6) (j := 7) rfl nd rfl rfl (by decide) rfl rfl (pa_cons (pe_tup pa_nil) (pa_cons (pe_op op_mul pe_int (pv 5)) pa_nil)) (by rfl))
        (pss_cons (ps_while PassesOwn.never (pt_cmpR op_ne (pv 7) (pe_op op_mul pe_int (pv 1)) (nomark _)) 
          (pss_cons (ps_aug (i := 6) nd rfl (Or.inl rfl) (pe_tup (pa_cons (pe_op op_fdiv (pv 7) pe_int) pa_nil)) ip_catA)
          (pss_one (ps_set (i := 7) nd rfl (Or.inl rfl) (pe_dget hu (pv 3) (pe_dget hu (pv 3) (pv 7) (fun _ _ => rfl)) (fun _ _ => rfl))))))
        (pss_one (ps_expr (pe_bm PySem.F.plainAttrs_list PySem.F.slot_list_append PySem.F.type_list_append mt_append (pv 4) (pa_cons (pe_op (x_catA K) (pv 6) (pe_tup (pa_cons (pv 1) pa_nil))) pa_nil)))))) pss_nil)))
    (pss_one (ps_ret (pe_callTy call_tuple_of (by rfl) T.b_tuple (by decide +kernel) (pa_cons (pv 4) pa_nil)))))))))), ?_⟩
  refine ⟨_, rfl, _, rfl, v, W, k, rfl, hW, ok, hk, fun c c2 x H1 s1 => ?_, qn, qr⟩
  refine ⟨_, rfl, _, rfl, v, W, k, rfl, hW.same s1, ok, hk, c2, fun H2 U u fl L s2 nU hU FL DN => ?_⟩
  have s3 := s1.trans s2
  have lu := flow_len gok FL (by omega)
  obtain ⟨us, hus, eu⟩ := id hU
  refine ⟨_, rfl, U, rfl, ⟨_, .of hus⟩, fun D nD => ?_⟩
  have nD0 : H D = none := Same.free s3 nD
  let Pd : Nat → Hp → Prop := fun i H' => Same H2 H' ∧ ∃ kvs, H' D = some (.dK kvs) ∧ OI u kvs i
  have lenU : us.length = u.length := eu.1
  refine ⟨fun i m H' => m = us.length - i ∧ i ≤ us.length ∧ Pd i H', ⟨us.length, by simp, Nat.zero_le _, same_upd nD, [], upd_same, fun a x h => (by cases h), fun j a b h => absurd h (Nat.not_lt_zero j), Nat.le_refl _⟩, ?_⟩
  rintro i m H' ⟨rfl, hi, sd, kvs, hkvs, oi⟩
  by_cases hlt : i < us.length
  · refine .inr ⟨⟨us, us[i], .of (sd _ _ hus), List.getElem?_eq_getElem hlt⟩, Pd (i + 1), fun H' p' => ⟨us.length - (i + 1), by omega, rfl, hlt, p'⟩, fun x H3 y => ?_⟩
    obtain ⟨rfl, hy⟩ := y
    obtain ⟨p, hp, pt, rfl, hpt⟩ := eu.back (hy us (.of (sd _ _ hus)))
    obtain ⟨a, b⟩ := p
    refine ⟨pt, _, rfl, .of (sd _ _ hpt), rfl, _, _, rfl, _, _, rfl, rfl, rfl, ?_⟩
    refine ⟨_, rfl, _, rfl, rfl, _, rfl, ?_⟩
    rw [decI]
    by_cases d2 : a = -1
    · subst d2
      rw [decide_eq_true rfl]
      exact ⟨sd, kvs, hkvs, oi.pass hp⟩
    · rw [decide_eq_false d2]
      refine ⟨_, rfl, _, rfl, kvs, .inl a, rfl, hkvs, ?_, Same.keep sd nD, _, upd_same, oi.put hp⟩
      have := oi.len
      exact small10 (by omega)
  · have ei : i = us.length := by omega
    subst ei
    refine .inl ⟨⟨us, .of (sd _ _ hus), Nat.le_refl _⟩, ?_⟩
    rw [lenU] at oi
    have s4 := s3.trans sd
    obtain ⟨wa, r, o, kt, vs, rfl, ha, hrt, ho, hkt, ek⟩ := (hW.same s4).ex
    refine ⟨Nat.zero_le _, fun N nN => ?_⟩
    have nN0 : H N = none := Same.free s4 nN
    have s5 : Same H' (upd H' N (.lst [])) := same_upd nN
    refine ⟨_, rfl, wa, _, 1, _, rfl, rfl, .of (s5 _ _ ha), at1, r, rfl, ⟨_, .of (s5 _ _ hrt)⟩, ?_⟩
    refine for_it walk_tup (fun i σ H3 => (∃ u1 u2 u3, σ = [some (.ref wa), some (.int (k : Nat)), some (.ref U), some (.ref D), some (.ref N), u1, u2, u3, none, none]) ∧ Same H' H3 ∧ ∃ ys rs, H3 N = some (.lst ys) ∧ Each (RoadAt k H3) ys rs ∧ RoadsOf W.gr k u (W.roots.take i) rs)
      ⟨⟨_, _, _, rfl⟩, s5, [], [], upd_same, .nil, ⟨rfl, fun _ h => (by cases h)⟩⟩ (fun i σ H3 _ p => .of (p.2.1 _ _ hrt)) (fun i x σ H3 H4 hi p y => ?_) (fun σ H3 p => ?_)
    · obtain ⟨⟨u1, u2, u3, rfl⟩, s6, ys, rs, hN, er, ro⟩ := p
      obtain ⟨rfl, hy⟩ := y
      rw [List.getElem?_map] at hy
      obtain ⟨n, hn, rfl⟩ := Option.map_eq_some_iff.mp hy
      have lrs : rs.length ≤ 200 := by
        have h1 : (rs.map (·.1)).length ≤ 200 := by
          rw [ro.rts]
          refine Nat.le_trans (List.length_filter_le _ _) ?_
          rw [List.length_take]
          omega
        simpa using h1
      refine ⟨_, rfl, _, rfl, _, _, rfl, rfl, .inl ⟨by decide, by decide⟩, (by show 2 ≤ sizeLine; decide), fun tp ntp => ⟨_, rfl, pairD (-1, FM.fr n), u.map pairD, pair_dp ⟨tp, rfl, upd_same⟩, used_dp (hU.same (sd.trans (s6.trans (same_upd ntp)))), pair_shaped _, pairs_shaped _, _, rfl, ?_⟩⟩
      rw [pair_any]
      have s7 : Same H4 (upd H4 tp (.tup [.int (-1), .int (FM.fr n)])) := same_upd ntp
      by_cases hin : ((-1 : Int), FM.fr n) ∈ u
      · rw [decide_eq_true hin]
        revert s7
        show Same H4 (upd H4 tp (.tup [.int (-1), .int (2 * (n : Int))])) → _
        generalize upd H4 tp (.tup [.int (-1), .int (2 * (n : Int))]) = H5
        intro s7
        refine ⟨Nat.zero_le _, fun wp nwp => ⟨_, rfl, _, _, rfl, rfl, .inl ⟨by decide, by decide⟩, _, _, rfl, ?_⟩⟩
        have s8 : Same H5 (upd H5 wp (.tup [])) := same_upd nwp
        have hwp : (upd H5 wp (.tup [])) wp = some (.tup []) := upd_same
        revert s8 hwp
        generalize upd H5 wp (.tup []) = H6
        intro s8 hwp
        let Pv : Nat → L2.St → Hp → Prop := fun m σ H7 => ∃ (wq : Addr) (way : List Nat) (j : Nat), σ = [some (.ref wa), some (.int (k : Nat)), some (.ref U), some (.ref D), some (.ref N), some (nV n), some (.ref wq), some (.int (FM.fr j)), none, none] ∧ Same H6 H7 ∧
          H7 wq = some (.tup (way.map nV)) ∧ FM.RoadPre W.gr k u n way ∧ FM.Own W.gr k u n way.length j ∧ m = W.gr.n - way.length
        refine ⟨Pv, ⟨_, wp, [], n, rfl, Same.refl _, hwp, ⟨fun i x h => (by simp at h), fun x h => (by cases h)⟩, .base (List.mem_of_getElem? hn) hin, rfl⟩, fun m σ H7 pv => ?_⟩
        obtain ⟨wq, way, j, rfl, s9, hwq, R, O, rfl⟩ := pv
        have s10 := s6.trans (s7.trans (s8.trans s9))
        refine ⟨_, rfl, _, rfl, _, _, rfl, rfl, .inl ⟨by decide, by decide⟩, rfl, _, rfl, ?_⟩
        rw [decI]
        by_cases cj : j = k
        · subst cj
          rw [decide_eq_true (show FM.fr j = 2 * (j : Int) from rfl)]
          have wl := R.len gok FL
          have wne : way ≠ [] := fun z => c2 (O.first (by rw [z]; rfl))
          refine ⟨_, rfl, .inl ⟨rfl, _, .of (s7.trans (s8.trans s9) _ _ hN)⟩, _, rfl, _, rfl, (by show 1 ≤ sizeLine; decide), fun tq ntq => ?_⟩
          have s11 : Same H7 (upd H7 tq (.tup [.int ((j : Nat) : Int)])) := same_upd ntq
          refine ⟨wq, tq, way.map nV, [nV j], rfl, rfl, .of (s11 _ _ hwq), .of upd_same, ?_, fun z => absurd z (by simpa using wne), fun _ z => (by cases z), fun _ _ p3 np3 => ?_⟩
          · rw [List.length_map]
            exact Nat.le_of_lt (small1000 (show way.length + 1 ≤ 1000 by omega))
          have s12 : Same H7 (upd (upd H7 tq (.tup [.int ((j : Nat) : Int)])) p3 (.tup (way.map nV ++ [nV j]))) := s11.trans (same_upd np3)
          have h12 : (upd (upd H7 tq (.tup [.int ((j : Nat) : Int)])) p3 (.tup (way.map nV ++ [nV j]))) p3 = some (.tup (way.map nV ++ [nV j])) := upd_same
          revert s12 h12
          generalize upd (upd H7 tq (.tup [.int ((j : Nat) : Int)])) p3 (.tup (way.map nV ++ [nV j])) = H8
          intro s12 h12
          have hN8 := s12 _ _ (s7.trans (s8.trans s9) _ _ hN)
          refine ⟨N, ys, .ref p3, rfl, rfl, hN8, ?_, ?_⟩
          · rw [er.1]
            exact small1000 (by omega)
          · refine ⟨⟨_, _, _, rfl⟩, ?_, ys ++ [.ref p3], rs ++ [(n, way)], upd_same, ?_, ro.step hn hin R O wne⟩
            · exact Same.keep (s6.trans (s7.trans (s8.trans (s9.trans s12)))) nN
            · have e1 : Each (RoadAt j H8) (ys ++ [.ref p3]) (rs ++ [(n, way)]) := (er.mono fun _ _ => RoadAt.same (s7.trans (s8.trans (s9.trans s12)))).snoc ⟨p3, rfl, by rw [h12, List.map_append]; rfl⟩
              exact e1.mono (roadAt_st j N H8 _ ⟨_, hN8⟩ fun b o nb eb => by rw [upd_ne nb]; exact eb)
        · rw [decide_eq_false (show ¬ FM.fr j = 2 * (k : Int) from fun e => cj (FM.fr_inj e))]
          refine ⟨fun σ' H'' => ∃ m', m' < W.gr.n - way.length ∧ Pv m' σ' H'', fun _ _ z => z, ?_⟩
          have R2 := R.snoc O cj
          have wl2 := R2.len gok FL
          rw [List.length_append] at wl2
          obtain ⟨z, hz⟩ := O.into
          have lt1 : W.gr.n - (way ++ [j]).length < W.gr.n - way.length := by
            rw [List.length_append]
            rw [List.length_singleton] at wl2 ⊢
            omega
          have thru := FL.thruIn cj hz
          obtain ⟨l, hl, out⟩ := FL.outThru thru
          have O2 : FM.Own W.gr k u n (way ++ [j]).length l := by rw [List.length_append]; exact .step O thru out
          have half : FM.fr j / 2 = ((j : Nat) : Int) := by unfold FM.fr; omega
          have g1 := OI.get FL oi thru (fun z => FM.fr_no z)
          have g2 := OI.get FL oi out (fun z => FM.bh_no z)
          refine ⟨_, rfl, _, rfl, _, _, rfl, rfl, ⟨by decide, by decide⟩, (by show 1 ≤ sizeLine; decide), fun tq ntq => ?_⟩
          have s11 : Same H7 (upd H7 tq (.tup [.int (FM.fr j / 2)])) := same_upd ntq
          have h11 : (upd H7 tq (.tup [.int (FM.fr j / 2)])) tq = some (.tup [nV j]) := by rw [upd_same, half]; rfl
          revert s11 h11
          show Same H7 (upd H7 tq (.tup [.int (FM.fr j / 2)])) → _
          generalize upd H7 tq (.tup [.int (FM.fr j / 2)]) = H8
          intro s11 h11
          have fin : ∀ wq2 H9, Same H8 H9 → H9 wq2 = some (.tup ((way ++ [j]).map nV)) → Pv (W.gr.n - (way ++ [j]).length) [some (.ref wa), some (.int (k : Nat)), some (.ref U), some (.ref D), some (.ref N), some (nV n), some (.ref wq2), some (.int (FM.fr l)), none, none] H9 := fun wq2 H9 s12 h12 => ⟨wq2, way ++ [j], l, rfl, (s9.trans s11).trans s12, h12, R2, O2, rfl⟩
          have dgets : ∀ H9, Same H8 H9 → H9 D = some (.dK kvs) := fun H9 s12 => s12 _ _ (s11 _ _ (s10 _ _ hkvs))
          refine ⟨wq, tq, way.map nV, [nV j], rfl, rfl, .of (s11 _ _ hwq), .of h11, ?_, (by simp), fun z => ?_, fun _ p3 np3 => ?_⟩
          · rw [List.length_map]
            exact Nat.le_of_lt (small1000 (show way.length + 1 ≤ 1000 by omega))
          · have z : way = [] := by simpa using z
            subst z
            refine ⟨_, rfl, _, rfl, _, rfl, D, .int (FM.bh j), rfl, by rw [← g1]; exact DGet.k (k := .inl (FM.fr j)) (dgets _ (Same.refl _)), D, .int (FM.fr l), rfl, by rw [← g2]; exact DGet.k (k := .inl (FM.bh j)) (dgets _ (Same.refl _)), ?_⟩
            exact ⟨_, lt1, fin tq H8 (Same.refl _) h11⟩
          · have s12 : Same H8 (upd H8 p3 (.tup (way.map nV ++ [nV j]))) := same_upd np3
            refine ⟨_, rfl, _, rfl, _, rfl, D, .int (FM.bh j), rfl, by rw [← g1]; exact DGet.k (k := .inl (FM.fr j)) (dgets _ s12), D, .int (FM.fr l), rfl, by rw [← g2]; exact DGet.k (k := .inl (FM.bh j)) (dgets _ s12), ?_⟩
            exact ⟨_, lt1, fin p3 _ s12 (by rw [upd_same, List.map_append]; rfl)⟩
      · rw [decide_eq_false hin]
        exact ⟨⟨_, _, _, rfl⟩, s6.trans s7, ys, rs, s7 _ _ hN, er.mono fun _ _ => RoadAt.same s7, ro.pass hn hin⟩
    · obtain ⟨⟨u1, u2, u3, rfl⟩, s6, ys, rs, hN, er, ro⟩ := p
      rw [List.length_map, List.take_length] at ro
      refine ⟨_, rfl, N, ys, rfl, .inl ⟨.of hN, fun D2 nD2 => ?_⟩⟩
      have s7 : Same H3 (upd H3 D2 (.tup ys)) := same_upd nD2
      exact qy c c2 _ D2 ys rs u fl L ((s4.trans s6).trans s7) (Same.free (s4.trans s6) nD2) upd_same (er.mono fun _ _ => RoadAt.same s7) ro FL DN
end
end K41
set_option maxHeartbeats 4000000
namespace K41
open PySem PySem.Spec PyProof.Rows L2
theorem cut2 (x y : V) (xs : List V) : cutV (x :: y :: xs) (some 2) none = xs := by
  unfold cutV
  rw [show HT.sIx (x :: y :: xs).length 0 (some 2) = min 2 (x :: y :: xs).length from HT.sIx_nat (x :: y :: xs).length 0 2, HT.sIx_none]
  rw [show min 2 (x :: y :: xs).length = 2 by rw [List.length_cons, List.length_cons]; omega]
  show (List.take ((x :: y :: xs).length - 2) xs) = xs
  rw [List.length_cons, List.length_cons, show xs.length + 1 + 1 - 2 = xs.length by omega]
  exact List.take_length
def placesK : List (Key × V) := [(.inr "call", .int 1), (.inr "try", .int 1), (.inr "jump", .int 1), (.inr "load", .int 2), (.inr "store", .int 2), (.inr "item", .int 2), (.inr "fill", .int 2), (.inr "take", .int 2), (.inr "pick", .int 2)]
theorem placesK_get : ∀ z ∈ words, (valV (mergeK [] placesK) (.inr z)).getD (.int 0) = .int ((placeOf z).getD 0) := by decide +kernel
section
variable {P : Program} {w : World} {K : PySem.W.Frag} {mg : Str → Option Value} {base : Heap} {f : Addr} {fd : FuncData}
theorem sc_law_is_whole : FnScope ["_law_thing"] ["_law_thing"] (defScope (top 52)) := ⟨rfl, rfl, rfl, by decide +kernel, rfl, by decide +kernel, by decide +kernel⟩
theorem ok_law_is_whole (F : FnP K "_law_is_whole" 52 f fd) (T : Txt w K mg) : FnOk P w K mg base CX0 1 f fd ["_law_thing"] spWhole := by
  refine F.ok sc_law_is_whole (fun vs H Q E h => by obtain ⟨x, rfl, _⟩ := h; rfl) (fun cdv A outer s H vs Q E hr h => ?_)
  have nd := sc_law_is_whole.nd
  obtain ⟨x, rfl, hx, q⟩ := h
  refine ⟨_, PSs.nox 
    (pss_one (ps_ret (pe_and (pe_callB (x_isi K) (by rfl) T.b_isinstance (by decide +kernel) (pa_cons (pv 0) (pa_cons (pe_bltn (v := .ty "int") (by rfl) T.b_int (by decide +kernel) rfl) pa_nil))) (pe_one (pe_not (pe_callB (x_isi K) (by rfl) T.b_isinstance (by decide +kernel) (pa_cons (pv 0) (pa_cons (pe_bltn (v := .ty "bool") (by rfl) T.b_bool (by decide +kernel) rfl) pa_nil)))))))), ?_⟩
  cases x with
  | int i => exact ⟨_, rfl, ⟨_, _, _, _, true, rfl, .ty _, tyI i, kit_ty (by decide +kernel), ⟨_, rfl, ⟨_, rfl, ⟨_, _, _, _, false, rfl, .ty _, tyI i, kit_ty (by decide +kernel), ⟨_, rfl, q⟩⟩⟩⟩⟩⟩
  | str z => exact ⟨_, rfl, ⟨_, _, _, _, false, rfl, .ty _, tyS z, kit_ty (by decide +kernel), ⟨_, rfl, q⟩⟩⟩
  | non => exact ⟨_, rfl, ⟨_, _, _, _, false, rfl, .ty _, tyN, kit_ty (by decide +kernel), ⟨_, rfl, q⟩⟩⟩
  | _ => exact absurd (show false = true from hx) Bool.false_ne_true
def spLPlace : Sp := fun vs H Q _ => ∃ (a : Addr) (z : Str) (args : List V), vs = [.ref a] ∧ H a = some (.tup (.str z :: args)) ∧ z ∈ words ∧ ∀ H', Same H H' → Q (.int ((placeOf z).getD 0)) H'
theorem sc_law_place : FnScope ["_law_row", "_law_places"] ["_law_row"] (defScope (top 55)) := ⟨rfl, rfl, rfl, by decide +kernel, rfl, by decide +kernel, by decide +kernel⟩
theorem ok_law_place (F : FnP K "_law_place" 55 f fd) (T : Txt w K mg) : FnOk P w K mg base CX0 1 f fd ["_law_row"] spLPlace := by
  refine F.ok sc_law_place (fun vs H Q E h => by obtain ⟨a, z, b, rfl, _⟩ := h; rfl) (fun cdv A outer s H vs Q E hr h => ?_)
  have nd := sc_law_place.nd
  have hu := hu_of hr
  obtain ⟨a, z, args, rfl, ha, hz, q⟩ := h
  refine ⟨_, PSs.nox 
    (pss_cons (ps_set (i := 1) nd rfl (Or.inl rfl) (pe_disp (pps_cons pe_str pe_int (pps_cons pe_str pe_int (pps_cons pe_str pe_int (pps_cons pe_str pe_int (pps_cons pe_str pe_int (pps_cons pe_str pe_int (pps_cons pe_str pe_int (pps_cons pe_str pe_int (pps_cons pe_str pe_int pps_nil))))))))) (by rfl) (by rfl) (fun z => by cases z) (by decide)))
    (pss_one (ps_ret (pe_dget2 hu (pv 1) (pe_ix (x_tup K) (pv 0) pe_int (fun _ _ => rfl)) pe_int ⟨by rfl, by rfl, by rfl, by rfl⟩)))), ?_⟩
  refine fun D nD => ⟨upd_same, placesK, rfl, by show 9 ≤ 15; decide, ?_⟩
  have s1 : Same H (upd (upd H D (.dK [])) D (.dK (mergeK [] placesK))) := Same.keep (same_upd nD) nD
  have hD : (upd (upd H D (.dK [])) D (.dK (mergeK [] placesK))) D = some (.dK (mergeK [] placesK)) := upd_same
  refine ⟨_, rfl, D, rfl, .inl ⟨_, .inl hD⟩, _, rfl, a, _, 0, _, rfl, rfl, .of (s1 _ _ ha), at0, _, DGet.k (k := .inr z) hD, ?_⟩
  rw [placesK_get z hz]
  exact q _ s1
def spLLeads : Sp := fun args H Q _ => ∃ (v : V) (W : Wb) (k : Nat), args = [v, .int k] ∧ WbAt H v W ∧ WbOk W ∧ k < W.kns.length ∧
  ∀ H' D, Same H H' → H D = none → H' D = some (.lst ((W.ld k).map nV)) → Q (.ref D) H'
theorem ld_eq {W : Wb} (ok : WbOk W) {k : Nat} {kn : Kn} (h : W.kns[k]? = some kn) : (W.ld k).map nV = ((asksOf kn).filterMap leadI).map V.int := by
  have nn : ∀ i ∈ (asksOf kn).filterMap leadI, 0 ≤ i := fun i hi => by
    obtain ⟨ask, hm, e⟩ := List.mem_filterMap.mp hi
    obtain ⟨_, _, f⟩ := ok.fit _ (List.mem_of_getElem? h) ask hm
    obtain ⟨j, _, e2, _⟩ := f i (leadI_some e)
    omega
  rw [ints_nats nn]
  unfold Wb.ld
  rw [h]
  show (ldL kn).map nV = _
  unfold ldL
  congr 1
  rw [List.map_filterMap]
theorem ld_len {W : Wb} (ok : WbOk W) {k : Nat} : (W.ld k).length ≤ 40 := by
  unfold Wb.ld
  split
  · rename_i kn h
    exact Nat.le_trans (List.length_filterMap_le _ _) (asks_len (ok.kn _ (List.mem_of_getElem? h)))
  · exact Nat.zero_le _
theorem sc_law_leads : FnScope ["_law_web_here", "_law_k", "_law_sort", "_law_body", "_law_item", "_law_row"] ["_law_web_here", "_law_k"] (defScope (top 71)) := ⟨rfl, rfl, rfl, by decide +kernel, rfl, by decide +kernel, by decide +kernel⟩
theorem ok_law_leads (F : FnP K "_law_leads" 71 f fd) (T : Txt w K mg) (C_law_is_whole : Cal P w K mg base CX0 1 "_law_is_whole" spWhole) (C_law_place : Cal P w K mg base CX0 1 "_law_place" spLPlace) : FnOk P w K mg base CX0 2 f fd ["_law_web_here", "_law_k"] spLLeads := by
  refine F.ok sc_law_leads (fun vs H Q E h => by obtain ⟨a, r, k, rfl, _⟩ := h; rfl) (fun cdv A outer s H vs Q E hr h => ?_)
  have nd := sc_law_leads.nd
  obtain ⟨_, W, k, rfl, hW, ok, hk, q⟩ := h
  obtain ⟨a, r, o, kt, vs, rfl, ha, hrt, ho, hkt, ek⟩ := id hW.ex
  obtain ⟨kn, hkn⟩ : ∃ kn, W.kns[k]? = some kn := ⟨_, List.getElem?_eq_getElem hk⟩
  have okk := ok.kn _ (List.mem_of_getElem? hkn)
  have le := ld_eq ok hkn
  obtain ⟨v, hv, hkv⟩ := ek.get hkn
  obtain ⟨ka, kl, kb, rfl, hka, hkl, hkb⟩ := id hkv.ex
  refine ⟨_, PSs.nox 
    (pss_cons (ps_asg (pe_slice (x_slA K) (pe_ix (x_tup K) (pe_ix (x_tup K) (pv 0) pe_int (fun _ _ => rfl)) (pv 1) (fun _ _ => rfl)) (po_some pe_int) po_none) (pg_tup rfl (pgs_cons (pg_name (i := 2) nd rfl (Or.inl rfl)) (pgs_cons (pg_name (i := 3) nd rfl (Or.inl rfl)) pgs_nil))))
    (pss_cons (ps_if (pt_cmpR op_eq (pv 2) pe_str (nomark _)) 
      (pss_one (ps_ret (pe_lc (own := [("_law_item", 4)]) rfl nd (pi_tup (pv 3)) (blkOk_by (own := [("_law_item", 4)]) (N := ["_law_web_here", "_law_k", "_law_sort", "_law_body", "_law_item", "_law_row"]) (sc := defScope (top 71)) (by decide +kernel)) (fun _ _ _ _ _ => (pg_name (i := 4) nd rfl (Or.inl rfl))) (fun _ _ _ _ _ => (pts_one (pt_val (pe_fn C_law_is_whole hr (by rfl) pass0 (pa_cons (pv 4) pa_nil))))) (fun _ _ _ _ _ => (pv 4))))) pss_nil)
    (pss_cons (ps_if (pt_cmpR op_ne (pv 2) pe_str (nomark _)) 
      (pss_one (ps_ret (pe_lst pa_nil))) pss_nil)
    (pss_one (ps_ret (pe_lc (own := [("_law_row", 5)]) rfl nd (pi_tup (pv 3)) (blkOk_by (own := [("_law_row", 5)]) (N := ["_law_web_here", "_law_k", "_law_sort", "_law_body", "_law_item", "_law_row"]) (sc := defScope (top 71)) (by decide +kernel)) (fun _ _ _ _ _ => (pg_name (i := 5) nd rfl (Or.inl rfl))) (fun _ _ _ _ _ => (pts_one (PW.pt (pw_and (pt_cmpR op_gt (pe_fn C_law_place hr (by rfl) pass0 (pa_cons (pv 5) pa_nil)) pe_int (nomark _)) (pw_and1 (pt_val (pe_fn C_law_is_whole hr (by rfl) pass0 (pa_cons (pe_ix (x_tup K) (pv 5) (pe_fn C_law_place hr (by rfl) pass0 (pa_cons (pv 5) pa_nil)) (fun _ _ => rfl)) pa_nil)))))))) (fun _ _ _ _ _ => (pe_ix (x_tup K) (pv 5) (pe_fn C_law_place hr (by rfl) pass0 (pa_cons (pv 5) pa_nil)) (fun _ _ => rfl))))))))), ?_⟩
  refine ⟨_, rfl, a, _, 3, _, rfl, rfl, .of ha, at3, _, rfl, kt, _, k, _, rfl, rfl, .of hkt, atI_n hv, _, rfl, ka, _, rfl, .of hka, fun z => ?_, fun _ p1 np1 => ?_⟩
  · have z1 := z.1
    rw [show HT.sIx [V.str "knot", V.ref kl, V.str kn.sort, kb].length 0 (some 2) = min 2 4 from HT.sIx_nat _ 0 2] at z1
    omega
  rw [cut2]
  have s1 : Same H (upd H p1 (.tup [.str kn.sort, kb])) := same_upd np1
  refine ⟨p1, _, rfl, .of upd_same, rfl, _, _, rfl, _, _, rfl, rfl, ?_⟩
  revert s1
  generalize upd H p1 (.tup [.str kn.sort, kb]) = H1
  intro s1
  refine ⟨_, rfl, rfl, _, rfl, ?_⟩
  have hkb1 := hkb.same s1
  obtain ⟨num, nm, sort, body⟩ := kn
  have bo : BdOk sort body := okk.body
  by_cases ht : sort = "table"
  · subst ht
    rw [seqT]
    cases body with
    | room n => exact absurd bo.1 (by decide +kernel)
    | code rows => exact absurd bo.1 (by decide +kernel)
    | flat xs =>
      obtain ⟨p, rfl, hp⟩ := hkb1
      have lx : xs.length ≤ 64 := by rcases bo with h | h <;> omega
      have io : ∀ x ∈ xs, ItemOk x := by
        rcases bo with h | ⟨h | h, _⟩
        · exact h.2.2.2
        · exact absurd h (by decide +kernel)
        · exact absurd h (by decide +kernel)
      refine ⟨_, rfl, p, rfl, ⟨_, .of hp⟩, fun D nD => ?_⟩
      refine lc_it walk_tup (fun i H' => Acc H1 D (fun i => ((xs.take i).filterMap fun x => (askItem x).bind leadI).map V.int) i H') (Acc.start nD rfl) (fun i H' _ p' => .of (p'.1 _ _ hp)) (fun i x H2 H3 hi p' y => ?_) (fun H2 p' => ?_)
      · obtain ⟨rfl, hx⟩ := y
        have tk := fm_take (g := fun x => (askItem x).bind leadI) hx
        have few : (((xs.take i).filterMap fun x => (askItem x).bind leadI).map V.int).length < sizeLine := small1000 (by rw [List.length_map]; exact Nat.le_trans (List.length_filterMap_le _ _) (by rw [List.length_take]; omega))
        have po : plain x = true := by rcases io x (List.mem_of_getElem? hx) with rfl | ⟨n, rfl⟩ | ⟨z, rfl, _⟩ <;> rfl
        refine ⟨rfl, _, rfl, x, rfl, po, _, rfl, ?_⟩
        cases x with
        | int i' => exact ⟨_, rfl, Acc.put nD p' (Same.refl _) few (by simp only [tk]; simp [askItem, leadI])⟩
        | str z => exact Acc.pass p' (Same.refl _) (by simp only [tk]; simp [askItem, leadI])
        | non => exact Acc.pass p' (Same.refl _) (by simp only [tk]; simp [askItem])
        | _ => exact absurd (show false = true from po) Bool.false_ne_true
      · obtain ⟨s2, h2⟩ := p'
        simp only [List.take_length] at h2
        refine q _ D (s1.trans s2) (Same.free s1 nD) ?_
        have e : asksOf ⟨num, nm, "table", .flat xs⟩ = xs.filterMap askItem := by
          show (if (Str.ofString "table") = "table" then xs.filterMap askItem else []) = _
          exact if_pos rfl
        rw [le, e, List.filterMap_filterMap]
        exact h2
  · rw [seqF ht]
    refine ⟨_, rfl, rfl, _, rfl, ?_⟩
    by_cases hc : sort = "code"
    · subst hc
      rw [seqT]
      cases body with
      | room n => exact absurd bo.1 (by decide +kernel)
      | flat xs => exact absurd bo (by rintro (⟨h, _⟩ | ⟨h | h, _⟩) <;> exact absurd h (by decide +kernel))
      | code rows =>
        obtain ⟨p, rvs, rfl, hp, er⟩ := hkb1
        obtain ⟨_, l1, l2, okr, _⟩ := bo
        refine ⟨_, rfl, p, rfl, ⟨_, .of hp⟩, fun D nD => ?_⟩
        refine lc_it walk_tup (fun i H' => Acc H1 D (fun i => ((rows.take i).filterMap fun r => (askRow r).bind leadI).map V.int) i H') (Acc.start nD rfl) (fun i H' _ p' => .of (p'.1 _ _ hp)) (fun i x H2 H3 hi p' y => ?_) (fun H2 p' => ?_)
        · obtain ⟨rfl, hx⟩ := y
          obtain ⟨rw', hr', q0, rfl, hq⟩ := er.back hx
          obtain ⟨z, args, sg, rfl, hz, hf, hla, hpo⟩ := (okr rw' (List.mem_of_getElem? hr')).ex
          have hq' := p'.1 _ _ hq
          have tk := fm_take (g := fun r => (askRow r).bind leadI) hr'
          have few : (((rows.take i).filterMap fun r => (askRow r).bind leadI).map V.int).length < sizeLine := small1000 (by rw [List.length_map]; exact Nat.le_trans (List.length_filterMap_le _ _) (by rw [List.length_take]; omega))
          refine ⟨rfl, _, rfl, q0, z, args, rfl, hq', hz, fun H4 s4 => ⟨_, _, rfl, rfl, _, rfl, ?_⟩⟩
          cases hpl : placeOf z with
          | none =>
            have e0 : decide ((0 : Int) < (Option.getD (none : Option Int) 0)) = false := by decide
            rw [e0]
            exact Acc.pass p' s4 (by simp only [tk]; simp [askRow, strV, wordV, hpl])
          | some n =>
            obtain ⟨b1, b2, b3⟩ := place_ok z hz n hpl
            obtain ⟨b4, b6, b5⟩ := b3 sg hf
            have e0 : decide ((0 : Int) < (Option.getD (some n) 0)) = true := decide_eq_true (by show 0 < n; omega)
            rw [e0]
            have hg := getD_cons (x := .str z) (args := args) b1 (by rw [hla]; exact b4)
            have po : plain ((V.str z :: args).getD n.toNat .non) = true := by
              have h1 : args[n.toNat - 1]? = some ((V.str z :: args).getD n.toNat .non) := by
                obtain ⟨m, hm⟩ : ∃ m, n.toNat = m + 1 := ⟨n.toNat - 1, by omega⟩
                rw [hm, Nat.add_sub_cancel, List.getD_cons_succ, List.getD_eq_getElem?_getD]
                have : m < args.length := by omega
                rw [List.getElem?_eq_getElem this]
                rfl
              have h2 := hpo (n.toNat - 1) 120 _ b6 h1
              unfold PartOk at h2
              rw [if_pos rfl] at h2
              rcases h2 with ⟨i', e⟩ | ⟨z', e, _⟩ <;> rw [e] <;> rfl
            refine ⟨_, rfl, _, rfl, q0, z, args, rfl, s4 _ _ hq', hz, fun H5 s5 => ?_⟩
            rw [hpl]
            refine ⟨q0, _, n, _, rfl, rfl, .of (s5 _ _ (s4 _ _ hq')), hg, _, rfl, po, _, rfl, ?_⟩
            have s6 := s4.trans s5
            have tk2 : (askRow (V.str z :: args)).bind leadI = leadI ((V.str z :: args).getD n.toNat .non, z, if isLS z then (V.str z :: args).getD 3 .non else .int 0) := by simp [askRow, strV, wordV, hpl]
            revert po tk2 hg
            generalize (V.str z :: args).getD n.toNat .non = x
            intro hg po tk2
            cases x with
            | int i' =>
              refine ⟨_, rfl, _, rfl, q0, z, args, rfl, s6 _ _ hq', hz, fun H6 s7 => ?_⟩
              rw [hpl]
              exact ⟨q0, _, n, _, rfl, rfl, .of (s7 _ _ (s6 _ _ hq')), hg, Acc.put nD p' (s6.trans s7) few (by simp only [tk, tk2]; simp [leadI])⟩
            | str z' => exact Acc.pass p' s6 (by simp only [tk, tk2]; simp [leadI])
            | non => exact Acc.pass p' s6 (by simp only [tk, tk2]; simp [leadI])
            | _ => exact absurd (show false = true from po) Bool.false_ne_true
        · obtain ⟨s2, h2⟩ := p'
          simp only [er.1, List.take_length] at h2
          refine q _ D (s1.trans s2) (Same.free s1 nD) ?_
          have e : asksOf ⟨num, nm, "code", .code rows⟩ = rows.filterMap askRow := rfl
          rw [le, e, List.filterMap_filterMap]
          exact h2
    · rw [seqF hc]
      refine ⟨Nat.zero_le _, fun D nD => q _ D (s1.trans (same_upd nD)) (Same.free s1 nD) ?_⟩
      have e : asksOf ⟨num, nm, sort, body⟩ = [] := by
        cases body with
        | room n => rfl
        | flat xs => exact if_neg ht
        | code rows => exact absurd bo.1 hc
      rw [upd_same, le, e]
      rfl
end
end K41
set_option maxHeartbeats 4000000
namespace K41
open PySem PySem.Spec PyProof.Rows L2
/-- a list or a tuple of numbers -/
def SeqN (H : Hp) (a : Addr) (l : List Nat) : Prop := H a = some (.lst (l.map nV)) ∨ H a = some (.tup (l.map nV))
theorem SeqN.same {H H' : Hp} (s : Same H H') {a : Addr} {l : List Nat} (h : SeqN H a l) : SeqN H' a l := h.imp (s _ _) (s _ _)
theorem SeqN.sq {K : PySem.W.Frag} {H : Hp} {a : Addr} {l : List Nat} (h : SeqN H a l) : SqL K H a (l.map nV) ∨ SqT K H a (l.map nV) := h.imp .of .of
section
variable {P : Program} {w : World} {K : PySem.W.Frag} {mg : Str → Option Value} {base : Heap} {f : Addr} {fd : FuncData}
def spFresh : Sp := fun args H Q _ => ∃ (S F Wo : Addr) (some' found wo : List Nat), args = [.ref S, .ref F, .ref Wo] ∧ H S = some (.lst (some'.map nV)) ∧ H F = some (.lst (found.map nV)) ∧ SeqN H Wo wo ∧ some'.length ≤ 1000 ∧
  ∀ H' D (fr : List Nat), Same H H' → H D = none → H' D = some (.lst (fr.map nV)) → fr.Nodup → (∀ k, k ∈ fr ↔ k ∈ some' ∧ k ∉ found ∧ k ∉ wo) → Q (.ref D) H'
theorem sc_law_fresh : FnScope ["_law_some", "_law_found", "_law_without", "_law_fresh_here", "_law_k"] ["_law_some", "_law_found", "_law_without"] (defScope (top 73)) := ⟨rfl, rfl, rfl, by decide +kernel, rfl, by decide +kernel, by decide +kernel⟩
theorem ok_law_fresh (F : FnP K "_law_fresh" 73 f fd) (T : Txt w K mg) : FnOk P w K mg base CX0 1 f fd ["_law_some", "_law_found", "_law_without"] spFresh := by
  refine F.ok sc_law_fresh (fun vs H Q E h => by obtain ⟨a, r, k, _, _, _, rfl, _⟩ := h; rfl) (fun cdv A outer s H vs Q E hr h => ?_)
  have nd := sc_law_fresh.nd
  obtain ⟨S, F', Wo, so, fo, wo, rfl, hS, hF, hW, few, q⟩ := h
  refine ⟨_, PSs.nox 
    (pss_cons (ps_set (i := 3) nd rfl (Or.inl rfl) (pe_lst pa_nil))
    (pss_cons (ps_for PassesOwn.never rfl (pi_list (pv 0)) (pg_name (i := 4) nd rfl (Or.inl rfl)) 
      (pss_one (ps_if (PW.pt (pw_and (pt_cmpR (x_notIn K) (pv 4) (pv 1) (by rfl)) (pw_and (pt_cmpR (x_notIn K) (pv 4) (pv 2) (by rfl)) (pw_and1 (pt_cmpR (x_notIn K) (pv 4) (pv 3) (by rfl)))))) 
        (pss_one (ps_expr (pe_bm PySem.F.plainAttrs_list PySem.F.slot_list_append PySem.F.type_list_append mt_append (pv 3) (pa_cons (pv 4) pa_nil)))) pss_nil)))
    (pss_one (ps_ret (pv 3))))), ?_⟩
  refine ⟨Nat.zero_le _, fun N nN => ?_⟩
  have sN : Same H (upd H N (.lst [])) := same_upd nN
  refine ⟨_, rfl, S, rfl, ⟨_, .of (sN _ _ hS)⟩, ?_⟩
  refine for_it walk_list (fun i σ H' => (∃ u, σ = [some (.ref S), some (.ref F'), some (.ref Wo), some (.ref N), u]) ∧ Same H H' ∧ ∃ fr : List Nat, H' N = some (.lst (fr.map nV)) ∧ fr.Nodup ∧ fr.length ≤ i ∧ (∀ k, k ∈ fr ↔ k ∈ so.take i ∧ k ∉ fo ∧ k ∉ wo))
    ⟨⟨_, rfl⟩, sN, [], upd_same, List.nodup_nil, Nat.le_refl _, fun k => by simp⟩ (fun i σ H' _ p => .of (p.2.1 _ _ hS)) (fun i x σ H1 H2 hi p y => ?_) (fun σ H1 p => ?_)
  · obtain ⟨⟨u, rfl⟩, s1, fr, hN, nf, lf, mf⟩ := p
    obtain ⟨rfl, hy⟩ := y
    rw [List.getElem?_map] at hy
    obtain ⟨n, hn, rfl⟩ := Option.map_eq_some_iff.mp hy
    have tk := take1 hn
    have il := lt_of_get hn
    refine ⟨_, rfl, _, rfl, F', _, rfl, .inl (.of (s1 _ _ hF)), rfl, nats_flat _, _, rfl, ?_⟩
    show if (!inV (nV n) (fo.map nV)) = true then _ else _
    rw [nats_in]
    have skip : ¬ (n ∉ fo ∧ n ∉ wo ∧ n ∉ fr) → (∃ u, [some (V.ref S), some (.ref F'), some (.ref Wo), some (.ref N), some (nV n)] = [some (V.ref S), some (.ref F'), some (.ref Wo), some (.ref N), u]) ∧ Same H H2 ∧ ∃ fr : List Nat, H2 N = some (.lst (fr.map nV)) ∧ fr.Nodup ∧ fr.length ≤ i + 1 ∧ (∀ k, k ∈ fr ↔ k ∈ so.take (i + 1) ∧ k ∉ fo ∧ k ∉ wo) := fun h => by
      refine ⟨⟨_, rfl⟩, s1, fr, hN, nf, Nat.le_succ_of_le lf, fun k => ?_⟩
      rw [mf k, tk, List.mem_append, List.mem_singleton]
      constructor
      · rintro ⟨h1, h2⟩
        exact ⟨.inl h1, h2⟩
      · rintro ⟨h1 | rfl, h2, h3⟩
        · exact ⟨h1, h2, h3⟩
        · have : k ∈ fr := Classical.byContradiction fun h4 => h ⟨h2, h3, h4⟩
          exact (mf k).mp this
    by_cases c1 : n ∈ fo
    · rw [decide_eq_true c1]
      exact skip fun z => z.1 c1
    rw [decide_eq_false c1]
    refine ⟨_, rfl, _, rfl, Wo, _, rfl, (hW.same s1).sq, rfl, nats_flat _, _, rfl, ?_⟩
    show if (!inV (nV n) (wo.map nV)) = true then _ else _
    rw [nats_in]
    by_cases c2 : n ∈ wo
    · rw [decide_eq_true c2]
      exact skip fun z => z.2.1 c2
    rw [decide_eq_false c2]
    refine ⟨_, rfl, _, rfl, N, _, rfl, .inl (.of hN), rfl, nats_flat _, _, rfl, ?_⟩
    show if (!inV (nV n) (fr.map nV)) = true then _ else _
    rw [nats_in]
    by_cases c3 : n ∈ fr
    · rw [decide_eq_true c3]
      exact skip fun z => z.2.2 c3
    rw [decide_eq_false c3]
    refine ⟨_, rfl, .inl ⟨rfl, _, .of hN⟩, _, rfl, N, _, _, rfl, rfl, hN, ?_, ?_⟩
    · rw [List.length_map]
      exact small10 (by omega)
    · refine ⟨⟨_, rfl⟩, Same.keep s1 nN, fr ++ [n], by rw [upd_same, List.map_append]; rfl, ?_, by rw [List.length_append]; simp; omega, fun k => ?_⟩
      · rw [List.nodup_append]
        exact ⟨nf, by simp, fun a ha b hb => by rw [List.mem_singleton] at hb; subst hb; rintro rfl; exact c3 ha⟩
      · rw [tk, List.mem_append, List.mem_append, List.mem_singleton, mf k]
        constructor
        · rintro (⟨h1, h2⟩ | rfl)
          · exact ⟨.inl h1, h2⟩
          · exact ⟨.inr rfl, c1, c2⟩
        · rintro ⟨h1 | rfl, h2⟩
          · exact .inl ⟨h1, h2⟩
          · exact .inr rfl
  · obtain ⟨⟨u, rfl⟩, s1, fr, hN, nf, lf, mf⟩ := p
    simp only [List.length_map, List.take_length] at mf
    exact ⟨_, rfl, q H1 N fr s1 nN hN nf mf⟩
def spReach : Sp := fun args H Q _ => ∃ (v : V) (W : Wb) (Wo : Addr) (wo : List Nat), args = [v, .ref Wo] ∧ WbAt H v W ∧ WbOk W ∧ SeqN H Wo wo ∧
  ∀ H' D (fo : List Nat), Same H H' → H D = none → H' D = some (.lst (fo.map nV)) → fo.Nodup → (∀ k, k ∈ fo ↔ FM.Ra W.gr (· ∈ wo) k) → Q (.ref D) H'
theorem filt_step {l : List Nat} {i n : Nat} (h : l[i]? = some n) (p : Nat → Bool) : (l.take (i + 1)).filter p = (l.take i).filter p ++ (if p n = true then [n] else []) := by
  rw [take1 h, List.filter_append]
  congr 1
  simp only [List.filter_cons, List.filter_nil]
theorem sc_law_reach : FnScope ["_law_web_here", "_law_without", "_law_found", "_law_turn", "_law_root"] ["_law_web_here", "_law_without"] (defScope (top 72)) := ⟨rfl, rfl, rfl, by decide +kernel, rfl, by decide +kernel, by decide +kernel⟩
theorem ok_law_reach (F : FnP K "_law_reach" 72 f fd) (T : Txt w K mg) (C_law_fresh : Cal P w K mg base CX0 1 "_law_fresh" spFresh) (C_law_leads : Cal P w K mg base CX0 2 "_law_leads" spLLeads) : FnOk P w K mg base CX0 3 f fd ["_law_web_here", "_law_without"] spReach := by
  refine F.ok sc_law_reach (fun vs H Q E h => by obtain ⟨a, r, k, _, rfl, _⟩ := h; rfl) (fun cdv A outer s H vs Q E hr h => ?_)
  have nd := sc_law_reach.nd
  obtain ⟨_, W, Wo, wo, rfl, hW, ok, hWo, q⟩ := h
  obtain ⟨a, r, o, kt, vs, rfl, ha, hrt, ho, hkt, ek⟩ := id hW.ex
  have gok := gr_ok ok
  have fewW := ok.few
  have rl := ok.rl
  have gn : W.gr.n = W.kns.length := rfl
  refine ⟨_, PSs.nox 
    (pss_cons (ps_setLc (own := [("_law_root", 4)]) (i := 2) rfl nd rfl rfl (sw_true rfl rfl rfl (by decide +kernel)) (pi_tup (pe_ix (x_tup K) (pv 0) pe_int (fun _ _ => rfl))) (blkOk_by (own := [("_law_root", 4)]) (N := ["_law_web_here", "_law_without", "_law_found", "_law_turn", "_law_root"]) (sc := defScope (top 72)) (by decide +kernel)) (fun _ _ _ _ _ => (pg_name (i := 4) nd rfl (Or.inl rfl))) (fun _ _ _ _ _ => (pts_one (pt_cmpR (x_notIn K) (pv 4) (pv 1) (by rfl)))) (fun _ _ _ _ _ => (pv 4)))
    (pss_cons (ps_for PassesOwn.never rfl (pi_range1 (by rfl) T.b_range (pa_cons (pe_callB (x_len K) (by rfl) T.b_len PySem.boot_len (pa_cons (pe_ix (x_tup K) (pv 0) pe_int (fun _ _ => rfl)) pa_nil)) pa_nil)) (pg_name (i := 3) nd rfl (Or.inl rfl)) 
      (pss_one (ps_if (pt_cmpR op_lt (pv 3) (pe_callB (x_len K) (by rfl) T.b_len PySem.boot_len (pa_cons (pv 2) pa_nil)) (nomark _)) 
        (pss_one (ps_set (i := 2) nd rfl (Or.inl rfl) (pe_op op_cat (pv 2) (pe_fn C_law_fresh hr (by rfl) pass0 (pa_cons (pe_fn C_law_leads hr (by rfl) pass0 (pa_cons (pv 0) (pa_cons (pe_ix (x_lst K) (pv 2) (pv 3) (fun _ _ => rfl)) pa_nil))) (pa_cons (pv 2) (pa_cons (pv 1) pa_nil))))))) pss_nil)))
    (pss_one (ps_ret (pv 2))))), ?_⟩
  refine ⟨_, rfl, a, _, 1, _, rfl, rfl, .of ha, at1, r, rfl, ⟨_, .of hrt⟩, fun D nD => ?_⟩
  refine lc_it walk_tup (fun i H' => Acc H D (fun i => ((W.roots.take i).filter fun n => !decide (n ∈ wo)).map nV) i H') (Acc.start nD rfl) (fun i H' _ p' => .of (p'.1 _ _ hrt)) (fun i x H2 H3 hi p' y => ?_) (fun H2 p' => ?_)
  · obtain ⟨rfl, hy⟩ := y
    rw [List.getElem?_map] at hy
    obtain ⟨n, hn, rfl⟩ := Option.map_eq_some_iff.mp hy
    have st := filt_step hn fun n => !decide (n ∈ wo)
    have few : (((W.roots.take i).filter fun n => !decide (n ∈ wo)).map nV).length < sizeLine := small1000 (by
      rw [List.length_map]
      refine Nat.le_trans (List.length_filter_le _ _) ?_
      rw [List.length_take]
      omega)
    refine ⟨rfl, _, rfl, _, rfl, Wo, _, rfl, (hWo.same p'.1).sq, rfl, nats_flat _, _, rfl, ?_⟩
    show if (!inV (nV n) (wo.map nV)) = true then _ else _
    rw [nats_in]
    by_cases c : n ∈ wo
    · rw [decide_eq_true c]
      exact Acc.pass p' (Same.refl _) (by rw [st, decide_eq_true c]; simp)
    · rw [decide_eq_false c]
      exact ⟨_, rfl, Acc.put nD p' (Same.refl _) few (by rw [st, decide_eq_false c]; simp)⟩
  · obtain ⟨s1, h1⟩ := p'
    simp only [List.length_map, List.take_length] at h1
    obtain ⟨a', r', o', kt', vs', e', ha', hrt', ho', hkt', ek'⟩ := (hW.same s1).ex
    cases e'
    refine ⟨_, rfl, a, _, 3, _, rfl, rfl, .of ha', at3, _, _, rfl, .inr ⟨_, .of hkt', rfl⟩, _, rfl, by omega, by have := ek'.1; omega, ?_⟩
    rw [Int.toNat_natCast, ek'.1]
    refine for_it walk_range (fun i σ H' => ∃ (u : Option V) (D : Addr) (fo : List Nat), σ = [some (.ref a), some (.ref Wo), some (.ref D), u, none] ∧ Same H H' ∧ H D = none ∧ H' D = some (.lst (fo.map nV)) ∧ fo.Nodup ∧ (∀ k ∈ fo, FM.Ra W.gr (· ∈ wo) k) ∧ (∀ k ∈ W.roots, k ∉ wo → k ∈ fo) ∧
        (∀ j k, j < i → fo[j]? = some k → ∀ l ∈ W.ld k, l ∉ wo → l ∈ fo))
      ⟨none, D, _, rfl, s1, nD, h1, gok.nd.sublist List.filter_sublist, fun k hk => ?_, fun k hk hw => ?_, fun j k h => absurd h (Nat.not_lt_zero j)⟩ (fun _ _ _ _ _ => trivial) (fun i x σ H3 H4 hi p y => ?_) (fun σ H3 p => ?_)
    · obtain ⟨h2, h3⟩ := List.mem_filter.mp hk
      exact .root h2 (by simpa using h3)
    · exact List.mem_filter.mpr ⟨hk, by simpa using hw⟩
    · obtain ⟨u, D, fo, rfl, s2, nD, hD, nf, ra, ro, cl⟩ := p
      obtain ⟨rfl, hx⟩ := y
      replace hx : x = nV i := hx.trans (congrArg V.int (Int.zero_add _))
      subst hx
      have lf : fo.length ≤ W.kns.length := by
        have := FM.len_le (l' := List.range W.gr.n) nf fun k hk => List.mem_range.mpr ((ra k hk).lt gok)
        simpa [gn] using this
      refine ⟨_, rfl, _, rfl, _, _, rfl, .inl ⟨_, .of hD, rfl⟩, _, _, rfl, rfl, _, rfl, ?_⟩
      rw [List.length_map]
      by_cases c : i < fo.length
      · rw [decide_eq_true (show ((i : Nat) : Int) < (fo.length : Nat) by omega)]
        obtain ⟨k, hk⟩ : ∃ k, fo[i]? = some k := ⟨_, List.getElem?_eq_getElem c⟩
        have hkV : (fo.map nV)[i]? = some (nV k) := by rw [List.getElem?_map, hk]; rfl
        have rk := ra k (List.mem_of_getElem? hk)
        refine ⟨_, rfl, _, rfl, _, rfl, _, rfl, D, _, i, _, rfl, rfl, .of hD, atI_n hkV, _, W, k, rfl, hW.same s2, ok, rk.lt gok, fun H5 D2 s3 nD2 hD2 => ?_⟩
        refine ⟨_, rfl, _, rfl, D2, D, Wo, W.ld k, fo, wo, rfl, hD2, s3 _ _ hD, (hWo.same s2).same s3, by have := ld_len ok (k := k); omega, fun H6 D3 fr s4 nD3 hD3 nfr mfr => ?_⟩
        have s5 := s2.trans (s3.trans s4)
        have nfo : (fo ++ fr).Nodup := by
          rw [List.nodup_append]
          exact ⟨nf, nfr, fun x hx y hy e => ((mfr y).mp hy).2.1 (e ▸ hx)⟩
        have ra2 : ∀ x ∈ fo ++ fr, FM.Ra W.gr (· ∈ wo) x := fun x hx => by
          rcases List.mem_append.mp hx with h | h
          · exact ra x h
          · obtain ⟨h1, _, h3⟩ := (mfr x).mp h
            exact .lead rk h1 h3
        have lf2 : (fo ++ fr).length ≤ W.kns.length := by
          have := FM.len_le (l' := List.range W.gr.n) nfo fun k hk => List.mem_range.mpr ((ra2 k hk).lt gok)
          simpa [gn] using this
        rw [List.length_append] at lf2
        refine ⟨D, D3, _, _, rfl, rfl, s4 _ _ (s3 _ _ hD), hD3, ?_, fun D4 nD4 => ?_⟩
        · rw [List.length_map, List.length_map]
          exact Nat.le_of_lt (small1000 (by omega))
        · refine ⟨_, D4, fo ++ fr, rfl, s5.trans (same_upd nD4), Same.free s5 nD4, by rw [upd_same, List.map_append], nfo, ra2, fun k hk hw => List.mem_append_left _ (ro k hk hw), fun j k' hj hjk l hl hw => ?_⟩
          by_cases e : j < i
          · rw [List.getElem?_append_left (by omega)] at hjk
            exact List.mem_append_left _ (cl j k' e hjk l hl hw)
          · have : j = i := by omega
            subst this
            rw [List.getElem?_append_left c, hk] at hjk
            cases hjk
            by_cases e2 : l ∈ fo
            · exact List.mem_append_left _ e2
            · exact List.mem_append_right _ ((mfr l).mpr ⟨hl, e2, hw⟩)
      · rw [decide_eq_false (show ¬ ((i : Nat) : Int) < (fo.length : Nat) by omega)]
        refine ⟨_, D, fo, rfl, s2, nD, hD, nf, ra, ro, fun j k' hj hjk l hl hw => ?_⟩
        by_cases e : j < i
        · exact cl j k' e hjk l hl hw
        · exact absurd (lt_of_get hjk) (by omega)
    · obtain ⟨u, D, fo, rfl, s2, nD, hD, nf, ra, ro, cl⟩ := p
      have lf : fo.length ≤ W.kns.length := by
        have := FM.len_le (l' := List.range W.gr.n) nf fun k hk => List.mem_range.mpr ((ra k hk).lt gok)
        simpa [gn] using this
      refine ⟨_, rfl, q H3 D fo s2 nD hD nf fun k => ⟨ra k, fun h => ?_⟩⟩
      have all : ∀ j, FM.Ra W.gr (· ∈ wo) j → j ∈ fo := fun j hj => by
        induction hj with
        | root h1 hw => exact ro _ h1 hw
        | lead _ h1 hw ih =>
          obtain ⟨i, hi⟩ := List.getElem?_of_mem ih
          have := lt_of_get hi
          exact cl i _ (by omega) hi _ h1 hw
      exact all k h
def spLKept : Sp := fun args H Q _ => ∃ (v : V) (W : Wb), args = [v] ∧ WbAt H v W ∧ WbOk W ∧
  ∀ H' D (ks : List Nat), Same H H' → H D = none → H' D = some (.lst (ks.map nV)) → ks.Pairwise (· < ·) → (∀ k, k ∈ ks ↔ FM.Kept W.gr k) → Q (.ref D) H'
theorem sc_law_kept : FnScope ["_law_web_here"] ["_law_web_here"] (defScope (top 74)) := ⟨rfl, rfl, rfl, by decide +kernel, rfl, by decide +kernel, by decide +kernel⟩
theorem ok_law_kept (F : FnP K "_law_kept" 74 f fd) (T : Txt w K mg) (C_law_reach : Cal P w K mg base CX0 3 "_law_reach" spReach) : FnOk P w K mg base CX0 4 f fd ["_law_web_here"] spLKept := by
  refine F.ok sc_law_kept (fun vs H Q E h => by obtain ⟨a, r, rfl, _⟩ := h; rfl) (fun cdv A outer s H vs Q E hr h => ?_)
  have nd := sc_law_kept.nd
  obtain ⟨v, W, rfl, hW, ok, q⟩ := h
  refine ⟨_, PSs.nox 
    (pss_one (ps_ret (pe_callB cr_sortedI (by rfl) T.b_sorted (by decide +kernel) (pa_cons (pe_fn C_law_reach hr (by rfl) pass0 (pa_cons (pv 0) (pa_cons (pe_lst pa_nil) pa_nil))) pa_nil)))), ?_⟩
  refine ⟨_, rfl, Nat.zero_le _, fun N nN => ?_⟩
  have s0 : Same H (upd H N (.lst [])) := same_upd nN
  refine ⟨v, W, N, [], rfl, hW.same s0, ok, .inl upd_same, fun H1 D fo s1 nD hD nf mf => ?_⟩
  refine ⟨D, fo.map fun n => ((n : Nat) : Int), rfl, .of (by rw [List.map_map]; exact hD), fun ns p pm asc np => ?_⟩
  have nn : ∀ i ∈ ns, 0 ≤ i := fun i hi => by
    obtain ⟨n, _, rfl⟩ := List.mem_map.mp (pm.mem_iff.mp hi)
    omega
  have nds : ns.Nodup := by
    refine (pm.nodup_iff).mpr ?_
    rw [List.nodup_iff_pairwise_ne, List.pairwise_map]
    exact (List.nodup_iff_pairwise_ne.mp nf).imp fun h e => h (by omega)
  refine q _ p (ns.map Int.toNat) ((s0.trans s1).trans (same_upd np)) (Same.free (s0.trans s1) np) (by rw [upd_same, ints_nats nn]) ?_ fun k => ?_
  · rw [List.pairwise_map]
    refine List.Pairwise.imp_of_mem (fun {x y} hx hy h => ?_) (List.Pairwise.and asc (List.nodup_iff_pairwise_ne.mp nds))
    have h1 := nn x hx
    have h2 := nn y hy
    have h3 := h.1
    have h4 := h.2
    omega
  · rw [List.mem_map]
    constructor
    · rintro ⟨i, hi, rfl⟩
      obtain ⟨n, hn, rfl⟩ := List.mem_map.mp (pm.mem_iff.mp hi)
      exact ((mf n).mp hn).kept
    · intro h
      have : FM.Ra W.gr (· ∈ ([] : List Nat)) k := h.mono fun _ z => by cases z
      exact ⟨(k : Int), pm.mem_iff.mpr (List.mem_map.mpr ⟨k, (mf k).mpr this, rfl⟩), rfl⟩
def spOnce : Sp := fun args H Q _ => ∃ (S : Addr) (l : List Nat), args = [.ref S] ∧ H S = some (.lst (l.map nV)) ∧ l.length ≤ 100000 ∧
  ∀ H' D (ds : List Nat), Same H H' → H D = none → H' D = some (.lst (ds.map nV)) → ds.Nodup → (∀ k, k ∈ ds ↔ k ∈ l) → (l.Nodup → ds = l) → Q (.ref D) H'
theorem sc_law_once : FnScope ["_law_some", "_law_at", "_law_k"] ["_law_some"] (defScope (top 75)) := ⟨rfl, rfl, rfl, by decide +kernel, rfl, by decide +kernel, by decide +kernel⟩
theorem ok_law_once (F : FnP K "_law_once" 75 f fd) (T : Txt w K mg) : FnOk P w K mg base CX0 1 f fd ["_law_some"] spOnce := by
  refine F.ok sc_law_once (fun vs H Q E h => by obtain ⟨a, r, rfl, _⟩ := h; rfl) (fun cdv A outer s H vs Q E hr h => ?_)
  have nd := sc_law_once.nd
  obtain ⟨S, l, rfl, hS, few, q⟩ := h
  refine ⟨_, PSs.nox 
    (pss_one (ps_ret (pe_lc (own := [("_law_at", 1), ("_law_k", 2)]) (g := gTup K 2 (gCons (gName 1) (gCons (gName 2) gNil))) rfl nd (pi_enum (by rfl) T.b_enumerate (pa_cons (pv 0) pa_nil)) (blkOk_by (own := [("_law_at", 1), ("_law_k", 2)]) (N := ["_law_some", "_law_at", "_law_k"]) (sc := defScope (top 75)) (by decide +kernel)) (fun _ _ _ _ _ => (pg_tup rfl (pgs_cons (pg_name (i := 1) nd rfl (Or.inl rfl)) (pgs_cons (pg_name (i := 2) nd rfl (Or.inl rfl)) pgs_nil)))) (fun _ _ _ _ _ => (pts_one (pt_cmpR (x_notIn K) (pv 2) (pe_slice (x_slL K) (pv 0) po_none (po_some (pv 1))) (by rfl)))) (fun _ _ _ _ _ => (pv 2))))), ?_⟩
  refine ⟨_, rfl, S, _, rfl, .of hS, fun D nD => ?_⟩
  refine lc_it walk_enum (fun i H' => Same H H' ∧ ∃ ds : List Nat, H' D = some (.lst (ds.map nV)) ∧ ds.Nodup ∧ ds.length ≤ i ∧ (∀ k, k ∈ ds ↔ k ∈ l.take i) ∧ (l.Nodup → ds = l.take i)) ⟨same_upd nD, [], upd_same, List.nodup_nil, Nat.le_refl _, fun k => by simp, fun _ => by simp⟩ (fun i H' _ p' => .of (p'.1 _ _ hS)) (fun i x H2 H3 hi p' y => ?_) (fun H2 p' => ?_)
  · obtain ⟨s1, ds, hD, nds, lds, mds, eds⟩ := p'
    obtain ⟨t, c, y, rfl, nt, rfl, hc, hy⟩ := y
    cases hc
    replace hy : (l.map nV)[i]? = some y := hy
    rw [List.getElem?_map] at hy
    obtain ⟨n, hn, rfl⟩ := Option.map_eq_some_iff.mp hy
    have il := lt_of_get hn
    have tk := take1 hn
    have s2 : Same H2 (upd H2 t (.tup [.int (i : Nat), nV n])) := same_upd nt
    refine ⟨t, _, rfl, .of upd_same, rfl, _, _, rfl, _, _, rfl, rfl, rfl, ?_⟩
    revert s2
    generalize upd H2 t (.tup [.int (i : Nat), nV n]) = H4
    intro s2
    have s3 := s1.trans s2
    refine ⟨_, rfl, _, rfl, _, rfl, _, rfl, S, _, rfl, .of (s3 _ _ hS), fun p np => ?_⟩
    rw [cutTo _ (by rw [List.length_map]; omega)]
    have s4 : Same H4 (upd H4 p (.lst ((l.map nV).take i))) := same_upd np
    refine ⟨p, (l.take i).map nV, rfl, .inl (.of (by rw [upd_same, List.map_take])), rfl, nats_flat _, _, rfl, ?_⟩
    show if (!inV (nV n) ((l.take i).map nV)) = true then _ else _
    rw [nats_in]
    by_cases c : n ∈ l.take i
    · rw [decide_eq_true c]
      refine ⟨s3.trans s4, ds, s4 _ _ (s2 _ _ hD), nds, Nat.le_succ_of_le lds, fun k => ?_, fun nl => ?_⟩
      · rw [mds k, tk, List.mem_append, List.mem_singleton]
        exact ⟨.inl, fun h => h.elim id fun e => e ▸ c⟩
      · exfalso
        obtain ⟨j, hj, hje⟩ := List.mem_iff_getElem.mp c
        rw [List.length_take] at hj
        rw [List.getElem_take] at hje
        have := List.pairwise_iff_getElem.mp (List.nodup_iff_pairwise_ne.mp nl) j i (by omega) il (by omega)
        rw [List.getElem?_eq_getElem il] at hn
        cases hn
        exact this hje
    · rw [decide_eq_false c]
      refine ⟨_, rfl, _, s4 _ _ (s2 _ _ hD), ?_, Same.keep (s3.trans s4) nD, ds ++ [n], by rw [upd_same, List.map_append]; rfl, ?_, by rw [List.length_append]; simp; omega, fun k => ?_, fun nl => ?_⟩
      · rw [List.length_map]
        exact small10 (by omega)
      · rw [List.nodup_append]
        exact ⟨nds, by simp, fun a ha b hb => by rw [List.mem_singleton] at hb; subst hb; rintro rfl; exact c ((mds a).mp ha)⟩
      · rw [tk, List.mem_append, List.mem_append, mds k]
      · rw [tk, eds nl]
  · obtain ⟨s1, ds, hD, nds, lds, mds, eds⟩ := p'
    simp only [List.length_map, List.take_length] at mds eds
    exact q H2 D ds s1 nD hD nds mds eds
end
end K41
set_option maxHeartbeats 4000000
namespace K41
open PySem PySem.Spec PyProof.Rows L2
theorem cutLast (xs : List V) (y : V) : cutV (xs ++ [y]) none (some (-1)) = xs := by
  unfold cutV
  have e1 : HT.sIx (xs ++ [y]).length (xs ++ [y]).length (some (-1)) = ((-1 : Int) + ((xs ++ [y]).length : Int)).toNat := by
    show (if (-1 : Int) < 0 then ((-1 : Int) + ((xs ++ [y]).length : Int)).toNat else min (-1 : Int).toNat (xs ++ [y]).length) = _
    exact if_pos (by decide)
  rw [HT.sIx_none, e1]
  have e : ((-1 : Int) + ((xs ++ [y]).length : Int)).toNat = xs.length := by rw [List.length_append]; simp; omega
  rw [e]
  simp
def NatsAt (H : Hp) (v : V) (C : List Nat) : Prop := ∃ q, v = .ref q ∧ H q = some (.tup (C.map nV))
theorem natsAt_st : Steady NatsAt := fun D H H' hl h v a ⟨q, e, ht⟩ => ⟨q, e, h q _ (fun z => by subst z; obtain ⟨l, hl⟩ := hl; rw [hl] at ht; cases ht) ht⟩
theorem NatsAt.same {H H' : Hp} (s : Same H H') {v : V} {C : List Nat} (h : NatsAt H v C) : NatsAt H' v C := let ⟨q, e, h⟩ := h; ⟨q, e, s _ _ h⟩
section
variable {P : Program} {w : World} {K : PySem.W.Frag} {mg : Str → Option Value} {base : Heap} {f : Addr} {fd : FuncData}
def spLAsc : Sp := fun args H Q _ => ∃ (A S : Addr) (l ks : List Nat), args = [.ref A, .ref S] ∧ H A = some (.tup (l.map nV)) ∧ H S = some (.lst (ks.map nV)) ∧ l.Pairwise (· < ·) ∧ (∀ k ∈ l, k ∈ ks) ∧ ∀ H', Same H H' → Q (.bl true) H'
theorem sc_law_is_ascending : FnScope ["_law_thing", "_law_some", "_law_at", "_law_k"] ["_law_thing", "_law_some"] (defScope (top 76)) := ⟨rfl, rfl, rfl, by decide +kernel, rfl, by decide +kernel, by decide +kernel⟩
theorem ok_law_is_ascending (F : FnP K "_law_is_ascending" 76 f fd) (T : Txt w K mg) (C_law_is_whole : Cal P w K mg base CX0 1 "_law_is_whole" spWhole) : FnOk P w K mg base CX0 2 f fd ["_law_thing", "_law_some"] spLAsc := by
  refine F.ok sc_law_is_ascending (fun vs H Q E h => by obtain ⟨a, r, c, _, rfl, _⟩ := h; rfl) (fun cdv A outer s H vs Q E hr h => ?_)
  have nd := sc_law_is_ascending.nd
  obtain ⟨a, S, ns, ks, rfl, ha, hS, asc, sub, q⟩ := h
  refine ⟨_, PSs.nox 
    (pss_cons (ps_if (pt_not (pt_val (pe_callB (x_isi K) (by rfl) T.b_isinstance (by decide +kernel) (pa_cons (pv 0) (pa_cons (pe_bltn (v := .ty "tuple") (by rfl) T.b_tuple (by decide +kernel) rfl) pa_nil))))) 
      (pss_one (ps_ret pe_bl)) pss_nil)
    (pss_cons (ps_for PassesOwn.never rfl (pi_enumT (by rfl) T.b_enumerate (pa_cons (pv 0) pa_nil)) (pg_tup rfl (pgs_cons (pg_name (i := 2) nd rfl (Or.inl rfl)) (pgs_cons (pg_name (i := 3) nd rfl (Or.inl rfl)) pgs_nil))) 
      (pss_one (ps_if (PW.pt (pw_or (pt_not (pt_val (pe_fn C_law_is_whole hr (by rfl) pass0 (pa_cons (pv 3) pa_nil)))) (pw_or (pt_cmpR (x_notIn K) (pv 3) (pv 1) (by rfl)) (pw_or1 (PW.pt (pw_and (pt_cmpR op_gt (pv 2) pe_int (nomark _)) (pw_and1 (pt_cmpR op_ge (pe_ix (x_tup K) (pv 0) (pe_op op_sub (pv 2) pe_int) (fun _ _ => rfl)) (pv 3) (nomark _))))))))) 
        (pss_one (ps_ret pe_bl)) pss_nil)))
    (pss_one (ps_ret pe_bl)))), ?_⟩
  refine ⟨_, rfl, _, _, _, _, true, rfl, .ty _, tyT ha, kit_ty (by decide +kernel), _, rfl, ?_⟩
  refine ⟨_, rfl, a, _, rfl, .of ha, ?_⟩
  refine for_it walkEnumT (fun i σ H' => (∃ u v, σ = [some (.ref a), some (.ref S), u, v]) ∧ Same H H') ⟨⟨_, _, rfl⟩, Same.refl _⟩ (fun i σ H' _ p => .of (p.2 _ _ ha)) (fun i x σ H1 H2 hi p y => ?_) (fun σ H1 p => q _ p.2)
  obtain ⟨⟨u, v, rfl⟩, s1⟩ := p
  obtain ⟨t, c, y, rfl, nt, rfl, hc, hy⟩ := y
  cases hc
  replace hy : (ns.map nV)[i]? = some y := hy
  rw [List.getElem?_map] at hy
  obtain ⟨n, hn, rfl⟩ := Option.map_eq_some_iff.mp hy
  have hm := sub n (List.mem_of_getElem? hn)
  have s2 : Same H1 (upd H1 t (.tup [.int (i : Nat), nV n])) := same_upd nt
  have s3 := s1.trans s2
  refine ⟨t, _, rfl, .of upd_same, rfl, _, _, rfl, _, _, rfl, rfl, ?_⟩
  refine ⟨_, rfl, _, rfl, rfl, _, rfl, ?_⟩
  refine ⟨_, rfl, _, rfl, S, _, rfl, .inl (.of (s3 _ _ hS)), rfl, nats_flat _, _, rfl, ?_⟩
  show if (!inV (nV n) (ks.map nV)) = true then _ else _
  rw [nats_in, decide_eq_true hm]
  refine ⟨_, rfl, _, _, rfl, rfl, _, rfl, ?_⟩
  by_cases h0 : (0 : Int) < (i : Nat)
  · rw [decide_eq_true h0]
    have hi' : i - 1 < ns.length := by have := lt_of_get hn; omega
    have hp : (ns.map nV)[i - 1]? = some (nV ns[i - 1]) := by rw [List.getElem?_map, List.getElem?_eq_getElem hi']; rfl
    have e : ((i : Nat) : Int) - 1 = ((i - 1 : Nat) : Int) := by omega
    refine ⟨_, rfl, _, rfl, _, _, rfl, rfl, a, _, (i - 1 : Nat), _, rfl, congrArg V.int e, .of (s3 _ _ ha), atI_n hp, _, rfl, _, _, rfl, rfl, _, rfl, ?_⟩
    have hlt : ns[i - 1] < n := by
      have hn' : i < ns.length := lt_of_get hn
      have := List.pairwise_iff_getElem.mp asc (i - 1) i hi' hn' (by omega)
      rw [List.getElem?_eq_getElem hn'] at hn
      cases hn
      exact this
    rw [decide_eq_false (show ¬ ((n : Nat) : Int) ≤ ((ns[i - 1] : Nat) : Int) by omega)]
    exact ⟨⟨_, _, rfl⟩, s3⟩
  · rw [decide_eq_false h0]
    exact ⟨⟨_, _, rfl⟩, s3⟩
/-- a road: each knot is a root or led to by the one before -/
structure WayOk (W : Wb) (way : List Nat) : Prop where
  ne : way ≠ []
  lt : ∀ k ∈ way, k < W.kns.length
  first : ∀ k, way[0]? = some k → k ∈ W.roots
  next : ∀ (i : Nat) (a b : Nat), way[i]? = some a → way[i + 1]? = some b → b ∈ W.ld a
def spLWay : Sp := fun args H Q _ => ∃ (v : V) (W : Wb) (A : Addr) (way : List Nat), args = [v, .ref A] ∧ WbAt H v W ∧ WbOk W ∧ H A = some (.tup (way.map nV)) ∧ WayOk W way ∧ ∀ H', Same H H' → Q (.bl true) H'
theorem sc_law_is_way : FnScope ["_law_web_here", "_law_thing", "_law_at", "_law_k"] ["_law_web_here", "_law_thing"] (defScope (top 77)) := ⟨rfl, rfl, rfl, by decide +kernel, rfl, by decide +kernel, by decide +kernel⟩
theorem ok_law_is_way (F : FnP K "_law_is_way" 77 f fd) (T : Txt w K mg) (C_law_is_whole : Cal P w K mg base CX0 1 "_law_is_whole" spWhole) (C_law_leads : Cal P w K mg base CX0 2 "_law_leads" spLLeads) : FnOk P w K mg base CX0 3 f fd ["_law_web_here", "_law_thing"] spLWay := by
  refine F.ok sc_law_is_way (fun vs H Q E h => by obtain ⟨a, r, c, _, rfl, _⟩ := h; rfl) (fun cdv A outer s H vs Q E hr h => ?_)
  have nd := sc_law_is_way.nd
  obtain ⟨_, W, a, ns, rfl, hW, ok, ha, wo, q⟩ := h
  obtain ⟨wa, r, o, kt, vs, rfl, hwa, hrt, ho, hkt, ek⟩ := id hW.ex
  have ne := wo.ne
  refine ⟨_, PSs.nox 
    (pss_cons (ps_if (PW.pt (pw_or (pt_not (pt_val (pe_callB (x_isi K) (by rfl) T.b_isinstance (by decide +kernel) (pa_cons (pv 1) (pa_cons (pe_bltn (v := .ty "tuple") (by rfl) T.b_tuple (by decide +kernel) rfl) pa_nil))))) (pw_or1 (pt_cmpR op_eq (pe_callB (x_len K) (by rfl) T.b_len PySem.boot_len (pa_cons (pv 1) pa_nil)) pe_int (nomark _))))) 
      (pss_one (ps_ret pe_bl)) pss_nil)
    (pss_cons (ps_for PassesOwn.never rfl (pi_enumT (by rfl) T.b_enumerate (pa_cons (pv 1) pa_nil)) (pg_tup rfl (pgs_cons (pg_name (i := 2) nd rfl (Or.inl rfl)) (pgs_cons (pg_name (i := 3) nd rfl (Or.inl rfl)) pgs_nil))) 
      (pss_one (ps_if (PW.pt (pw_or (pt_not (pt_val (pe_fn C_law_is_whole hr (by rfl) pass0 (pa_cons (pv 3) pa_nil)))) (pw_or1 (pt_cmpR (x_notIn K) (pv 3) (pe_ifExp (pt_cmpR op_eq (pv 2) pe_int (nomark _)) (pe_ix (x_tup K) (pv 0) pe_int (fun _ _ => rfl)) (pe_fn C_law_leads hr (by rfl) pass0 (pa_cons (pv 0) (pa_cons (pe_ix (x_tup K) (pv 1) (pe_op op_sub (pv 2) pe_int) (fun _ _ => rfl)) pa_nil)))) (by rfl))))) 
        (pss_one (ps_ret pe_bl)) pss_nil)))
    (pss_one (ps_ret pe_bl)))), ?_⟩
  refine ⟨_, rfl, _, _, _, _, true, rfl, .ty _, tyT ha, kit_ty (by decide +kernel), _, rfl, ?_⟩
  refine ⟨_, rfl, _, _, rfl, .inr ⟨_, .of ha, rfl⟩, rfl, _, rfl, ?_⟩
  rw [decI, decide_eq_false (by rw [List.length_map]; cases ns with | nil => exact absurd rfl ne | cons x l => simp; omega)]
  refine ⟨_, rfl, a, _, rfl, .of ha, ?_⟩
  refine for_it walkEnumT (fun i σ H' => (∃ u v, σ = [some (.ref wa), some (.ref a), u, v]) ∧ Same H H') ⟨⟨_, _, rfl⟩, Same.refl _⟩ (fun i σ H' _ p => .of (p.2 _ _ ha)) (fun i x σ H1 H2 hi p y => ?_) (fun σ H1 p => q _ p.2)
  obtain ⟨⟨u, v, rfl⟩, s1⟩ := p
  obtain ⟨t, c, y, rfl, nt, rfl, hc, hy⟩ := y
  cases hc
  replace hy : (ns.map nV)[i]? = some y := hy
  rw [List.getElem?_map] at hy
  obtain ⟨n, hn, rfl⟩ := Option.map_eq_some_iff.mp hy
  have s2 : Same H1 (upd H1 t (.tup [.int (i : Nat), nV n])) := same_upd nt
  have s3 := s1.trans s2
  refine ⟨t, _, rfl, .of upd_same, rfl, _, _, rfl, _, _, rfl, rfl, ?_⟩
  refine ⟨_, rfl, _, rfl, rfl, _, rfl, ?_⟩
  refine ⟨_, rfl, _, rfl, rfl, _, rfl, ?_⟩
  rw [decI]
  by_cases h0 : ((i : Nat) : Int) = 0
  · rw [decide_eq_true h0]
    have i0 : i = 0 := by omega
    subst i0
    refine ⟨_, rfl, wa, _, 1, _, rfl, rfl, .of (s3 _ _ hwa), at1, r, _, rfl, .inr (.of (s3 _ _ hrt)), rfl, nats_flat _, _, rfl, ?_⟩
    show if (!inV (nV n) (W.roots.map nV)) = true then _ else _
    rw [nats_in, decide_eq_true (wo.first n hn)]
    exact ⟨⟨_, _, rfl⟩, s3⟩
  · rw [decide_eq_false h0]
    have il := lt_of_get hn
    have hi' : i - 1 < ns.length := by omega
    have hg : ns[i - 1]? = some ns[i - 1] := List.getElem?_eq_getElem hi'
    have hp : (ns.map nV)[i - 1]? = some (nV ns[i - 1]) := by rw [List.getElem?_map, hg]; rfl
    have e : ((i : Nat) : Int) - 1 = ((i - 1 : Nat) : Int) := by omega
    have hld : n ∈ W.ld ns[i - 1] := wo.next (i - 1) _ _ hg (by rw [show i - 1 + 1 = i by omega]; exact hn)
    refine ⟨_, rfl, _, rfl, _, rfl, _, _, rfl, rfl, a, _, (i - 1 : Nat), _, rfl, congrArg V.int e, .of (s3 _ _ ha), atI_n hp, _, W, ns[i - 1], rfl, hW.same s3, ok, wo.lt _ (List.mem_of_getElem? hg), fun H3 D s4 nD hD => ?_⟩
    refine ⟨D, _, rfl, .inl (.of hD), rfl, nats_flat _, _, rfl, ?_⟩
    show if (!inV (nV n) ((W.ld ns[i - 1]).map nV)) = true then _ else _
    rw [nats_in, decide_eq_true hld]
    exact ⟨⟨_, _, rfl⟩, s3.trans s4⟩
def spFront : Sp := fun args H Q _ => ∃ (v : V) (W : Wb) (A : Addr) (lot : List Nat), args = [v, .ref A] ∧ WbAt H v W ∧ WbOk W ∧ H A = some (.tup (lot.map nV)) ∧ lot.length ≤ 1000 ∧
  ∀ H' (B : List Nat), Same H H' → B.Nodup → (∀ k, k ∈ B ↔ FM.Front W.gr (· ∈ lot) k) → Q (.int (B.length : Nat)) H'
theorem sc_law_in_front : FnScope ["_law_web_here", "_law_lot_here", "_law_found", "_law_met", "_law_k", "_law_other"] ["_law_web_here", "_law_lot_here"] (defScope (top 79)) := ⟨rfl, rfl, rfl, by decide +kernel, rfl, by decide +kernel, by decide +kernel⟩
theorem ok_law_in_front (F : FnP K "_law_in_front" 79 f fd) (T : Txt w K mg) (C_law_reach : Cal P w K mg base CX0 3 "_law_reach" spReach) (C_law_leads : Cal P w K mg base CX0 2 "_law_leads" spLLeads) (C_law_once : Cal P w K mg base CX0 1 "_law_once" spOnce) :
    FnOk P w K mg base CX0 4 f fd ["_law_web_here", "_law_lot_here"] spFront := by
  refine F.ok sc_law_in_front (fun vs H Q E h => by obtain ⟨a, r, c, _, rfl, _⟩ := h; rfl) (fun cdv A outer s H vs Q E hr h => ?_)
  have nd := sc_law_in_front.nd
  obtain ⟨_, W, a, lot, rfl, hW, ok, ha, ll, q⟩ := h
  obtain ⟨wa, r, o, kt, vs, rfl, hwa, hrt, ho, hkt, ek⟩ := id hW.ex
  have gok := gr_ok ok
  have fewW := ok.few
  have gn : W.gr.n = W.kns.length := rfl
  refine ⟨_, PSs.nox 
    (pss_cons (ps_set (i := 2) nd rfl (Or.inl rfl) (pe_fn C_law_reach hr (by rfl) pass0 (pa_cons (pv 0) (pa_cons (pv 1) pa_nil))))
    (pss_cons (ps_setLc (own := [("_law_k", 4)]) (i := 3) rfl nd rfl rfl (sw_true rfl rfl rfl (by decide +kernel)) (pi_tup (pv 1)) (blkOk_by (own := [("_law_k", 4)]) (N := ["_law_web_here", "_law_lot_here", "_law_found", "_law_met", "_law_k", "_law_other"]) (sc := defScope (top 79)) (by decide +kernel)) (fun _ _ _ _ _ => (pg_name (i := 4) nd rfl (Or.inl rfl))) (fun _ _ _ _ _ => (pts_one (pt_cmpR (x_in K) (pv 4) (pe_ix (x_tup K) (pv 0) pe_int (fun _ _ => rfl)) (by rfl)))) (fun _ _ _ _ _ => (pv 4)))
    (pss_cons (ps_for PassesOwn.never rfl (pi_list (pv 2)) (pg_name (i := 4) nd rfl (Or.inl rfl)) 
      (pss_one (ps_set (i := 3) nd rfl (Or.inl rfl) (pe_op op_cat (pv 3) (pe_lc (own := [("_law_other", 5)]) rfl nd (pi_list (pe_fn C_law_leads hr (by rfl) pass0 (pa_cons (pv 0) (pa_cons (pv 4) pa_nil)))) (blkOk_by (own := [("_law_other", 5)]) (N := ["_law_web_here", "_law_lot_here", "_law_found", "_law_met", "_law_k", "_law_other"]) (sc := defScope (top 79)) (by decide +kernel)) (fun _ _ _ _ _ => (pg_name (i := 5) nd rfl (Or.inl rfl))) (fun _ _ _ _ _ => (pts_one (pt_cmpR (x_in K) (pv 5) (pv 1) (by rfl)))) (fun _ _ _ _ _ => (pv 5)))))))
    (pss_one (ps_ret (pe_op op_add (pe_callB (x_len K) (by rfl) T.b_len PySem.boot_len (pa_cons (pv 2) pa_nil)) (pe_callB (x_len K) (by rfl) T.b_len PySem.boot_len (pa_cons (pe_fn C_law_once hr (by rfl) pass0 (pa_cons (pv 3) pa_nil)) pa_nil)))))))), ?_⟩
  refine ⟨_, rfl, _, rfl, _, W, a, lot, rfl, hW, ok, .inr ha, fun H1 D fo s1 nD hD nf mf => ?_⟩
  have lf : fo.length ≤ 200 := by
    have := FM.len_le (l' := List.range W.gr.n) nf fun k hk => List.mem_range.mpr (((mf k).mp hk).lt gok)
    simp at this
    omega
  refine ⟨_, rfl, a, rfl, ⟨_, .of (s1 _ _ ha)⟩, fun M nM => ?_⟩
  have nM0 : H M = none := Same.free s1 nM
  refine lc_it walk_tup (fun i H' => Acc H1 M (fun i => ((lot.take i).filter fun n => decide (n ∈ W.roots)).map nV) i H') (Acc.start nM rfl) (fun i H' _ p' => .of (p'.1 _ _ (s1 _ _ ha))) (fun i x H2 H3 hi p' y => ?_) (fun H2 p' => ?_)
  · obtain ⟨rfl, hy⟩ := y
    rw [List.getElem?_map] at hy
    obtain ⟨n, hn, rfl⟩ := Option.map_eq_some_iff.mp hy
    have st := filt_step hn fun n => decide (n ∈ W.roots)
    have few : (((lot.take i).filter fun n => decide (n ∈ W.roots)).map nV).length < sizeLine := small1000 (by
      rw [List.length_map]
      refine Nat.le_trans (List.length_filter_le _ _) ?_
      rw [List.length_take]
      omega)
    refine ⟨rfl, _, rfl, _, rfl, wa, _, 1, _, rfl, rfl, .of (p'.1 _ _ (s1 _ _ hwa)), at1, r, _, rfl, .inr (.of (p'.1 _ _ (s1 _ _ hrt))), rfl, nats_flat _, _, rfl, ?_⟩
    show if inV (nV n) (W.roots.map nV) = true then _ else _
    rw [nats_in]
    by_cases c : n ∈ W.roots
    · rw [decide_eq_true c]
      exact ⟨_, rfl, Acc.put nM p' (Same.refl _) few (by rw [st, decide_eq_true c]; simp)⟩
    · rw [decide_eq_false c]
      exact Acc.pass p' (Same.refl _) (by rw [st, decide_eq_false c]; simp)
  · obtain ⟨s2, hM⟩ := p'
    simp only [List.length_map, List.take_length] at hM
    have s3 := s1.trans s2
    refine ⟨_, rfl, D, rfl, ⟨_, .of (s2 _ _ hD)⟩, ?_⟩
    refine for_it walk_list (fun i σ H' => ∃ (u : Option V) (M : Addr) (me : List Nat), σ = [some (.ref wa), some (.ref a), some (.ref D), some (.ref M), u, none] ∧ Same H2 H' ∧ H' M = some (.lst (me.map nV)) ∧ me.length ≤ 1000 + 40 * i ∧
        (∀ x, x ∈ me ↔ x ∈ lot ∧ (x ∈ W.roots ∨ ∃ j ∈ fo.take i, x ∈ W.ld j)))
      ⟨none, M, _, rfl, Same.refl _, hM, Nat.le_trans (List.length_filter_le _ _) (by omega), fun x => by simp [List.mem_filter]⟩ (fun i σ H' _ p => by obtain ⟨_, _, _, _, s, _⟩ := p; exact .of (s _ _ (s2 _ _ hD))) (fun i x σ H3 H4 hi p y => ?_) (fun σ H3 p => ?_)
    · obtain ⟨u, M, me, rfl, s4, hM, lm, mm⟩ := p
      obtain ⟨rfl, hy⟩ := y
      rw [List.getElem?_map] at hy
      obtain ⟨n, hn, rfl⟩ := Option.map_eq_some_iff.mp hy
      have il := lt_of_get hn
      have rn := (mf n).mp (List.mem_of_getElem? hn)
      have s5 := s3.trans s4
      refine ⟨_, rfl, _, rfl, _, rfl, _, W, n, rfl, hW.same s5, ok, rn.lt gok, fun H5 D2 s6 nD2 hD2 => ⟨D2, rfl, ⟨_, .of hD2⟩, fun D3 nD3 => ?_⟩⟩
      have lld := ld_len ok (k := n)
      refine lc_it walk_list (fun i H' => Acc H5 D3 (fun i => (((W.ld n).take i).filter fun x => decide (x ∈ lot)).map nV) i H') (Acc.start nD3 rfl) (fun i H' _ p' => .of (p'.1 _ _ hD2)) (fun i x H6 H7 hi p' y => ?_) (fun H6 p' => ?_)
      · obtain ⟨rfl, hy⟩ := y
        rw [List.getElem?_map] at hy
        obtain ⟨x, hx, rfl⟩ := Option.map_eq_some_iff.mp hy
        have st := filt_step hx fun x => decide (x ∈ lot)
        have few : ((((W.ld n).take i).filter fun x => decide (x ∈ lot)).map nV).length < sizeLine := small1000 (by
          rw [List.length_map]
          refine Nat.le_trans (List.length_filter_le _ _) ?_
          rw [List.length_take]
          omega)
        refine ⟨rfl, _, rfl, _, rfl, a, _, rfl, .inr (.of (p'.1 _ _ (s6 _ _ (s5 _ _ ha)))), rfl, nats_flat _, _, rfl, ?_⟩
        show if inV (nV x) (lot.map nV) = true then _ else _
        rw [nats_in]
        by_cases c : x ∈ lot
        · rw [decide_eq_true c]
          exact ⟨_, rfl, Acc.put nD3 p' (Same.refl _) few (by rw [st, decide_eq_true c]; simp)⟩
        · rw [decide_eq_false c]
          exact Acc.pass p' (Same.refl _) (by rw [st, decide_eq_false c]; simp)
      · obtain ⟨s7, h7⟩ := p'
        simp only [List.length_map, List.take_length] at h7
        have lfi : ((W.ld n).filter fun x => decide (x ∈ lot)).length ≤ 40 := Nat.le_trans (List.length_filter_le _ _) lld
        refine ⟨M, D3, _, _, rfl, rfl, s7 _ _ (s6 _ _ hM), h7, ?_, fun D4 nD4 => ?_⟩
        · rw [List.length_map, List.length_map]
          exact Nat.le_of_lt (small10 (by omega))
        · refine ⟨_, D4, me ++ (W.ld n).filter fun x => decide (x ∈ lot), rfl, (s4.trans (s6.trans s7)).trans (same_upd nD4), by rw [upd_same, List.map_append], by rw [List.length_append]; omega, fun x => ?_⟩
          rw [take1 hn, List.mem_append, mm x, List.mem_filter, decide_eq_true_eq]
          constructor
          · rintro (⟨h1, h2 | ⟨j, h3, h4⟩⟩ | ⟨h1, h2⟩)
            · exact ⟨h1, .inl h2⟩
            · exact ⟨h1, .inr ⟨j, List.mem_append_left _ h3, h4⟩⟩
            · exact ⟨h2, .inr ⟨n, by simp, h1⟩⟩
          · rintro ⟨h1, h2 | ⟨j, h3, h4⟩⟩
            · exact .inl ⟨h1, .inl h2⟩
            · rw [List.mem_append, List.mem_singleton] at h3
              rcases h3 with h3 | rfl
              · exact .inl ⟨h1, .inr ⟨j, h3, h4⟩⟩
              · exact .inr ⟨h4, h1⟩
    · obtain ⟨u, M, me, rfl, s4, hM, lm, mm⟩ := p
      simp only [List.length_map, List.take_length] at mm lm
      refine ⟨_, rfl, _, _, rfl, .inl ⟨_, .of (s4 _ _ (s2 _ _ hD)), rfl⟩, ?_⟩
      refine ⟨_, rfl, M, me, rfl, hM, by omega, fun H5 D5 ds s5 nD5 hD5 nds mds _ => ?_⟩
      refine ⟨_, _, rfl, .inl ⟨_, .of hD5, rfl⟩, _, _, rfl, rfl, ?_⟩
      simp only [List.length_map]
      have e : ((fo.length : Nat) : Int) + ((ds.length : Nat) : Int) = (((fo ++ ds).length : Nat) : Int) := by rw [List.length_append]; omega
      have e2 : V.int (((fo.length : Nat) : Int) + ((ds.length : Nat) : Int)) = .int ((fo ++ ds).length : Nat) := congrArg V.int e
      rw [e2]
      refine q H5 (fo ++ ds) (s3.trans (s4.trans s5)) ?_ fun k => ?_
      · rw [List.nodup_append]
        exact ⟨nf, nds, fun x hx y hy e => ((mf x).mp hx).not (by have := ((mm y).mp ((mds y).mp hy)).1; rw [e]; exact this)⟩
      · rw [List.mem_append, mf k, mds k, mm k]
        constructor
        · rintro (h | ⟨_, h | ⟨j, hj, hl⟩⟩)
          · exact h.front
          · exact .inl h
          · exact .inr ⟨j, (mf j).mp hj, hl⟩
        · intro h
          by_cases c : k ∈ lot
          · refine .inr ⟨c, h.imp id fun ⟨j, hj, hl⟩ => ⟨j, (mf j).mpr hj, hl⟩⟩
          · exact .inl (h.ra c)
end
end K41
set_option maxHeartbeats 4000000
namespace K41
open PySem PySem.Spec PyProof.Rows L2
/-! ### lots: ascending parts of a list -/
def subs : List Nat → List (List Nat)
  | [] => [[]]
  | x :: xs => subs xs ++ (subs xs).map (x :: ·)
theorem subs_len : ∀ l : List Nat, (subs l).length = 2 ^ l.length
  | [] => rfl
  | x :: xs => by
    show (subs xs ++ (subs xs).map (x :: ·)).length = _
    rw [List.length_append, List.length_map, subs_len xs, List.length_cons, Nat.pow_succ]
    omega
theorem subs_nil : ∀ l : List Nat, [] ∈ subs l
  | [] => by simp [subs]
  | x :: xs => List.mem_append_left _ (subs_nil xs)
theorem subs_mem : ∀ {l C : List Nat}, l.Pairwise (· < ·) → C.Pairwise (· < ·) → (∀ k ∈ C, k ∈ l) → C ∈ subs l
  | l, [], _, _, _ => subs_nil l
  | [], y :: ys, _, _, h => by cases h y List.mem_cons_self
  | x :: xs, y :: ys, hl, hC, h => by
    rw [List.pairwise_cons] at hl hC
    rcases List.mem_cons.mp (h y List.mem_cons_self) with e | e
    · subst e
      refine List.mem_append_right _ (List.mem_map.mpr ⟨ys, subs_mem hl.2 hC.2 fun k hk => ?_, rfl⟩)
      rcases List.mem_cons.mp (h k (List.mem_cons_of_mem _ hk)) with e2 | e2
      · have := hC.1 k hk
        omega
      · exact e2
    · refine List.mem_append_left _ (subs_mem hl.2 (List.pairwise_cons.mpr hC) fun k hk => ?_)
      rcases List.mem_cons.mp (h k hk) with e2 | e2
      · have h1 := hl.1 y e
        rcases List.mem_cons.mp hk with e3 | e3
        · omega
        · have := hC.1 k e3
          omega
      · exact e2
/-- a lot of so many -/
structure LotOk (ks : List Nat) (m : Nat) (C : List Nat) : Prop where
  asc : C.Pairwise (· < ·)
  sub : ∀ k ∈ C, k ∈ ks
  len : C.length = m
theorem lots_len {ks : List Nat} (hk : ks.Pairwise (· < ·)) {Cs : List (List Nat)} (nd : Cs.Nodup) (h : ∀ C ∈ Cs, C.Pairwise (· < ·) ∧ ∀ k ∈ C, k ∈ ks) (few : ks.length ≤ 18) : Cs.length ≤ 262144 := by
  have h1 := FM.len_le (l' := subs ks) nd fun C hC => subs_mem hk (h C hC).1 (h C hC).2
  rw [subs_len] at h1
  have h2 : 2 ^ ks.length ≤ 2 ^ 18 := Nat.pow_le_pow_right (by decide) few
  have h3 : (2 : Nat) ^ 18 = 262144 := by decide
  omega
theorem lot_snoc {ks : List Nat} {m : Nat} {C : List Nat} (h : LotOk ks m C) {k : Nat} (hk : k ∈ ks) (hl : ∀ x, C.getLast? = some x → x < k) : LotOk ks (m + 1) (C ++ [k]) := by
  refine ⟨?_, fun x hx => ?_, by rw [List.length_append, h.len]; rfl⟩
  · rw [List.pairwise_append]
    refine ⟨h.asc, by simp, fun a ha b hb => ?_⟩
    rw [List.mem_singleton] at hb
    subst hb
    obtain ⟨i, hi, e⟩ := List.mem_iff_getElem.mp ha
    have hl0 : C ≠ [] := fun z => by subst z; simp at hi
    have e2 := hl (C.getLast hl0) (List.getLast?_eq_getLast hl0)
    by_cases c : i = C.length - 1
    · have : C.getLast hl0 = a := by rw [List.getLast_eq_getElem, ← e]; congr 1; exact c.symm
      omega
    · have := List.pairwise_iff_getElem.mp h.asc i (C.length - 1) hi (by omega) (by omega)
      rw [List.getLast_eq_getElem] at e2
      omega
  · rw [List.mem_append, List.mem_singleton] at hx
    rcases hx with hx | rfl
    · exact h.sub x hx
    · exact hk
section
variable {P : Program} {w : World} {K : PySem.W.Frag} {mg : Str → Option Value} {base : Heap} {f : Addr} {fd : FuncData}
def spChoices : Sp := fun args H Q _ => ∃ (S : Addr) (ks : List Nat) (m : Nat), args = [.ref S, .int m] ∧ H S = some (.lst (ks.map nV)) ∧ ks.Pairwise (· < ·) ∧ ks.length ≤ 18 ∧ m ≤ 1000 ∧
  ∀ H' D vs (Cs : List (List Nat)), Same H H' → H D = none → H' D = some (.lst vs) → Each (NatsAt H') vs Cs → (∀ C ∈ Cs, LotOk ks m C) → Q (.ref D) H'
theorem gt_last (C : List Nat) (k : Nat) (h : C ≠ []) : ((∀ x, C.getLast? = some x → x < k) ↔ C.getLast h < k) := by
  rw [List.getLast?_eq_getLast h]
  exact ⟨fun z => z _ rfl, fun z x e => by cases e; exact z⟩
/-- may be put behind the lot -/
def nextOk (C : List Nat) (k : Nat) : Bool := match C.getLast? with
  | none => true
  | some x => decide (x < k)
theorem nextOk_iff {C : List Nat} {k : Nat} : nextOk C k = true ↔ ∀ x, C.getLast? = some x → x < k := by
  unfold nextOk
  cases C.getLast? with
  | none => simp
  | some x => simp
theorem sc_law_choices : FnScope ["_law_some", "_law_size", "_law_many", "_law_found", "_law_k", "_law_turn", "_law_longer", "_law_lot_here"] ["_law_some", "_law_size"] (defScope (top 78)) := ⟨rfl, rfl, rfl, by decide +kernel, rfl, by decide +kernel, by decide +kernel⟩
theorem ok_law_choices (F : FnP K "_law_choices" 78 f fd) (T : Txt w K mg) : FnOk P w K mg base CX0 1 f fd ["_law_some", "_law_size"] spChoices := by
  refine F.ok sc_law_choices (fun vs H Q E h => by obtain ⟨a, r, c, rfl, _⟩ := h; rfl) (fun cdv A outer s H vs Q E hr h => ?_)
  have nd := sc_law_choices.nd
  have hu0 := hu0_of hr
  obtain ⟨S, ks, m, rfl, hS, asc, lk, lm, q⟩ := h
  refine ⟨_, PSs.nox 
    (pss_cons (ps_par (i := 2) (j := 3) rfl nd rfl rfl (by decide) rfl rfl (pa_cons pe_int (pa_cons (pe_lst (pa_cons (pe_tup pa_nil) pa_nil)) pa_nil)) (by rfl))
    (pss_cons (ps_for PassesOwn.never rfl (pi_range1 (by rfl) T.b_range (pa_cons (pv 1) pa_nil)) (pg_name (i := 4) nd rfl (Or.inl rfl)) 
      (pss_one (ps_set (i := 2) nd rfl (Or.inl rfl) (pe_op op_fdiv (pe_op op_mul (pv 2) (pe_op op_sub (pe_callB (x_len K) (by rfl) T.b_len PySem.boot_len (pa_cons (pv 0) pa_nil)) (pv 4))) (pe_op op_add (pv 4) pe_int)))))
    (pss_cons (ps_if (pt_cmpR op_gt (pv 2) pe_int (nomark _)) 
      (pss_one (ps_ret (pe_lst pa_nil))) pss_nil)
    (pss_cons (ps_for PassesOwn.never rfl (pi_range1 (by rfl) T.b_range (pa_cons (pv 1) pa_nil)) (pg_name (i := 5) nd rfl (Or.inl rfl)) 
      (pss_cons (ps_set (i := 6) nd rfl (Or.inl rfl) (pe_lst pa_nil))
      (pss_cons (ps_for PassesOwn.never rfl (pi_list (pv 3)) (pg_name (i := 7) nd rfl (Or.inr rfl)) 
        (pss_one (ps_set (i := 6) nd rfl (Or.inl rfl) (pe_op op_cat (pv 6) (pe_lc (own := [("_law_k", 4)]) rfl nd (pi_list (pv 0)) (blkOk_by (own := [("_law_k", 4)]) (N := ["_law_some", "_law_size", "_law_many", "_law_found", "_law_k", "_law_turn", "_law_longer", "_law_lot_here"]) (sc := defScope (top 78)) (by decide +kernel)) (fun _ _ _ _ _ => (pg_name (i := 4) nd rfl (Or.inl rfl))) (fun _ _ _ _ _ => (pts_one (PW.pt (pw_or (pt_cmpR (x_eqNilT K hu0) (pv 7) (pe_tup pa_nil) (nomark _)) (pw_or1 (pt_cmpR op_gt (pv 4) (pe_ix (x_tup K) (pv 7) (pe_un un_neg pe_int) (fun _ _ => rfl)) (nomark _))))))) (fun _ _ _ _ _ => (pe_op (x_catA K) (pv 7) (pe_tup (pa_cons (pv 4) pa_nil)))))))))
      (pss_one (ps_set (i := 3) nd rfl (Or.inl rfl) (pv 6))))))
    (pss_one (ps_ret (pv 3))))))), ?_⟩
  refine ⟨Nat.zero_le _, fun p0 np0 => ⟨(by show 1 ≤ sizeLine; decide), fun N nN => ⟨_, _, rfl, ?_⟩⟩⟩
  have s0 : Same H (upd (upd H p0 (.tup [])) N (.lst [.ref p0])) := (same_upd np0).trans (same_upd nN)
  have nN0 : H N = none := Same.free (same_upd np0) nN
  have hp0 : (upd (upd H p0 (.tup [])) N (.lst [.ref p0])) p0 = some (.tup []) := same_upd nN _ _ upd_same
  have hN0 : (upd (upd H p0 (.tup [])) N (.lst [.ref p0])) N = some (.lst [.ref p0]) := upd_same
  revert s0 hp0 hN0
  generalize upd (upd H p0 (.tup [])) N (.lst [.ref p0]) = H0
  intro s0 hp0 hN0
  refine ⟨_, rfl, _, rfl, by omega, by omega, ?_⟩
  rw [Int.toNat_natCast]
  refine for_it walk_range (fun i σ H' => (∃ z u, σ = [some (.ref S), some (.int (m : Nat)), some (.int z), some (.ref N), u, none, none, none]) ∧ H' = H0) ⟨⟨_, _, rfl⟩, rfl⟩ (fun _ _ _ _ _ => trivial) (fun i x σ H1 H2 hi p y => ?_) (fun σ H1 p => ?_)
  · obtain ⟨⟨z, u, rfl⟩, rfl⟩ := p
    obtain ⟨rfl, hx⟩ := y
    replace hx : x = nV i := hx.trans (congrArg V.int (Int.zero_add _))
    subst hx
    refine ⟨_, rfl, _, rfl, _, _, rfl, .inl ⟨_, .of (s0 _ _ hS), rfl⟩, _, rfl, _, _, rfl, rfl, _, _, rfl, rfl, .inr ?_, _, rfl, _, _, rfl, rfl, _, _, rfl, rfl, ?_, ⟨_, _, rfl⟩, rfl⟩
    · rw [List.length_map]
      exact ⟨by have : (2 : Int) ^ 64 = 18446744073709551616 := by decide
                omega, by have : (2 : Int) ^ 64 = 18446744073709551616 := by decide
                          omega⟩
    · exact ⟨by omega, by omega⟩
  · obtain ⟨⟨z, u, rfl⟩, rfl⟩ := p
    refine ⟨_, rfl, _, _, rfl, rfl, _, rfl, ?_⟩
    by_cases c : (250 : Int) < z
    · rw [decide_eq_true c]
      refine ⟨Nat.zero_le _, fun D nD => q _ D [] [] (s0.trans (same_upd nD)) (Same.free s0 nD) upd_same .nil fun C h => (by cases h)⟩
    · rw [decide_eq_false c]
      refine ⟨_, rfl, _, rfl, by omega, by omega, ?_⟩
      rw [Int.toNat_natCast]
      refine for_it walk_range (fun i σ H' => ∃ (u1 u2 u3 u4 : Option V) (F : Addr) (vs : List V) (Cs : List (List Nat)), σ = [some (.ref S), some (.int (m : Nat)), some (.int z), some (.ref F), u1, u2, u3, u4] ∧ Same H H' ∧ H F = none ∧ H' F = some (.lst vs) ∧ Each (NatsAt H') vs Cs ∧
          (∀ C ∈ Cs, LotOk ks i C) ∧ Cs.Nodup) ⟨_, _, _, _, N, _, [[]], rfl, s0, nN0, hN0, .cons ⟨p0, rfl, hp0⟩ .nil, fun C h => by rw [List.mem_singleton] at h; subst h; exact ⟨.nil, fun _ h => (by cases h), rfl⟩, by simp⟩
        (fun _ _ _ _ _ => trivial) (fun i x σ H1 H2 hi p y => ?_) (fun σ H1 p => ?_)
      · obtain ⟨u1, u2, u3, u4, F, vs, Cs, rfl, s1, nF, hF, eC, oC, nC⟩ := p
        obtain ⟨rfl, hx⟩ := y
        replace hx : x = nV i := hx.trans (congrArg V.int (Int.zero_add _))
        subst hx
        refine ⟨Nat.zero_le _, fun L nL => ?_⟩
        have s2 : Same H2 (upd H2 L (.lst [])) := same_upd nL
        refine ⟨_, rfl, F, rfl, ⟨_, .of (s2 _ _ hF)⟩, ?_⟩
        refine for_it walk_list (fun j σ H' => ∃ (u1 u4 : Option V) (L : Addr) (ws : List V) (Ls : List (List Nat)), σ = [some (.ref S), some (.int (m : Nat)), some (.int z), some (.ref F), u1, some (nV i), some (.ref L), u4] ∧ Same H2 H' ∧ H2 L = none ∧ H' L = some (.lst ws) ∧ Each (NatsAt H') ws Ls ∧
            (∀ C ∈ Ls, LotOk ks (i + 1) C ∧ ∃ C' ∈ Cs.take j, ∃ k, C = C' ++ [k]) ∧ Ls.Nodup) ⟨_, _, L, [], [], rfl, s2, nL, upd_same, .nil, fun C h => (by cases h), List.nodup_nil⟩
          (fun j σ H' _ p => by obtain ⟨_, _, _, _, _, _, s, _⟩ := p; exact .of (s _ _ hF)) (fun j x σ H3 H4 hj p y => ?_) (fun σ H3 p => ?_)
        · obtain ⟨u1, u4, L, ws, Ls, rfl, s3, nL, hL, eL, oL, nLs⟩ := p
          obtain ⟨rfl, hy⟩ := y
          obtain ⟨C, hC, ca, rfl, hca⟩ := eC.back hy
          have jl := lt_of_get hC
          have lC := oC C (List.mem_of_getElem? hC)
          have hca3 := s3 _ _ hca
          refine ⟨_, rfl, _, rfl, S, rfl, ⟨_, .of (s3 _ _ (s1 _ _ hS))⟩, fun D nD => ?_⟩
          let new : Nat → List (List Nat) := fun n => ((ks.take n).filter (nextOk C)).map fun k => C ++ [k]
          have newOk : ∀ n, ∀ X ∈ new n, LotOk ks (i + 1) X ∧ ∃ k, X = C ++ [k] := fun n X hX => by
            obtain ⟨k, hk, rfl⟩ := List.mem_map.mp hX
            obtain ⟨h1, h2⟩ := List.mem_filter.mp hk
            exact ⟨lot_snoc lC (List.mem_of_mem_take h1) (nextOk_iff.mp h2), k, rfl⟩
          refine lc_it walk_list (fun n H' => AccE NatsAt H4 D new n H') (AccE.start nD rfl) (fun n H' _ p' => .of (p'.1 _ _ (s3 _ _ (s1 _ _ hS)))) (fun n x H5 H6 hn p' y => ?_) (fun H5 p' => ?_)
          · obtain ⟨rfl, hy⟩ := y
            rw [List.getElem?_map] at hy
            obtain ⟨k, hk, rfl⟩ := Option.map_eq_some_iff.mp hy
            have st := filt_step hk (nextOk C)
            have few : (new n).length < sizeLine := small1000 (by
              simp only [new]
              rw [List.length_map]
              refine Nat.le_trans (List.length_filter_le _ _) ?_
              rw [List.length_take]
              omega)
            have hca5 := p'.1 _ _ hca3
            have lc1 : (C.map nV).length + [nV k].length ≤ sizeLine := by
              rw [List.length_map, lC.len]
              exact Nat.le_of_lt (small1000 (show i + 1 ≤ 1000 by omega))
            refine ⟨rfl, _, rfl, Nat.zero_le _, fun pe npe => ⟨ca, pe, _, rfl, rfl, .of (same_upd npe _ _ hca5), .of upd_same, _, rfl, ?_⟩⟩
            have s6 : Same H6 (upd H6 pe (.tup [])) := same_upd npe
            revert s6
            generalize upd H6 pe (.tup []) = H7
            intro s6
            have hca7 := s6 _ _ hca5
            by_cases c0 : C = []
            · subst c0
              refine ⟨_, rfl, _, rfl, (by show 1 ≤ sizeLine; decide), fun p2 np2 => ?_⟩
              refine ⟨ca, p2, [], [nV k], rfl, rfl, .of (same_upd np2 _ _ hca7), .of upd_same, (by show 1 ≤ sizeLine; decide), fun _ => ?_, fun z => absurd rfl z, fun z => absurd rfl z⟩
              exact AccE.put natsAt_st nD p' (s6.trans (same_upd np2)) few (a := [k]) (by simp only [new]; rw [st]; simp [nextOk]) ⟨p2, rfl, upd_same⟩
            · have hne : (C.map nV).isEmpty = false := by cases C with | nil => exact absurd rfl c0 | cons a b => rfl
              rw [hne]
              have hlast : atI (C.map nV) (-1) = some (nV (C.getLast c0)) := by
                refine atI_end ?_
                rw [List.length_map, List.getElem?_map, ← List.getLast?_eq_getElem?, List.getLast?_eq_getLast c0]
                rfl
              refine ⟨_, rfl, _, rfl, 1, rfl, ca, _, -1, _, rfl, rfl, .of hca7, hlast, _, _, rfl, rfl, _, rfl, ?_⟩
              have en : nextOk C k = decide (((C.getLast c0 : Nat) : Int) < (k : Nat)) := by
                unfold nextOk
                rw [List.getLast?_eq_getLast c0]
                exact decide_eq_decide.mpr (by omega)
              rw [← en]
              cases hk2 : nextOk C k with
              | false => exact AccE.pass natsAt_st p' s6 (by simp only [new]; rw [st, hk2]; simp)
              | true =>
                refine ⟨_, rfl, _, rfl, (by show 1 ≤ sizeLine; decide), fun p2 np2 => ?_⟩
                refine ⟨ca, p2, C.map nV, [nV k], rfl, rfl, .of (same_upd np2 _ _ hca7), .of upd_same, lc1, fun z => absurd z (by simpa using c0), fun _ z => (by cases z), fun _ _ p3 np3 => ?_⟩
                exact AccE.put natsAt_st nD p' (s6.trans ((same_upd np2).trans (same_upd np3))) few (a := C ++ [k]) (by simp only [new]; rw [st, hk2]; simp) ⟨p3, rfl, by rw [upd_same, List.map_append]; rfl⟩
          · obtain ⟨s5, ys, hD, eD⟩ := p'
            rw [List.length_map] at eD
            have nnew : (new ks.length).Nodup := by
              simp only [new]
              rw [List.nodup_iff_pairwise_ne, List.pairwise_map]
              refine List.Pairwise.imp_of_mem (fun {a b} _ _ h e => ?_) (((asc.sublist (List.take_sublist _ _)).sublist List.filter_sublist))
              have := List.append_cancel_left e
              have e3 : a = b := by simpa using this
              omega
            have nall : (Ls ++ new ks.length).Nodup := by
              rw [List.nodup_append]
              refine ⟨nLs, nnew, fun X hX Y hY e => ?_⟩
              subst e
              obtain ⟨_, C', hC', k1, e1⟩ := oL X hX
              obtain ⟨_, k2, e2⟩ := newOk _ X hY
              have e3 : C' = C := by
                rw [e1] at e2
                exact List.append_inj_left' e2 rfl
              subst e3
              obtain ⟨j', hj', hje⟩ := List.mem_iff_getElem.mp hC'
              rw [List.length_take] at hj'
              rw [List.getElem_take] at hje
              have := List.pairwise_iff_getElem.mp (List.nodup_iff_pairwise_ne.mp nC) j' j (by omega) jl (by omega)
              rw [List.getElem?_eq_getElem jl] at hC
              cases hC
              exact this hje
            have bound := lots_len asc nall (fun X hX => by
              rcases List.mem_append.mp hX with h | h
              · exact ⟨(oL X h).1.asc, (oL X h).1.sub⟩
              · exact ⟨(newOk _ X h).1.asc, (newOk _ X h).1.sub⟩) lk
            rw [List.length_append] at bound
            refine ⟨L, D, ws, ys, rfl, rfl, s5 _ _ hL, hD, ?_, fun D4 nD4 => ?_⟩
            · rw [eL.1, eD.1]
              exact Nat.le_of_lt (small10 (by omega))
            · have s6 : Same H5 (upd H5 D4 (.lst (ws ++ ys))) := same_upd nD4
              have s7 := s3.trans (s5.trans s6)
              refine ⟨_, _, D4, ws ++ ys, Ls ++ new ks.length, rfl, s7, Same.free (s3.trans s5) nD4, upd_same, (eL.mono fun _ _ => NatsAt.same (s5.trans s6)).append (eD.mono fun _ _ => NatsAt.same s6), fun X hX => ?_, nall⟩
              rcases List.mem_append.mp hX with h | h
              · obtain ⟨h1, C', h2, h3⟩ := oL X h
                exact ⟨h1, C', by rw [take1 hC]; exact List.mem_append_left _ h2, h3⟩
              · obtain ⟨h1, k, h2⟩ := newOk _ X h
                exact ⟨h1, C, by rw [take1 hC]; simp, k, h2⟩
        · obtain ⟨u1, u4, L, ws, Ls, rfl, s3, nL, hL, eL, oL, nLs⟩ := p
          refine ⟨_, rfl, _, _, _, _, L, ws, Ls, rfl, s1.trans s3, Same.free s1 nL, hL, eL, fun C hC => (oL C hC).1, nLs⟩
      · obtain ⟨u1, u2, u3, u4, F, vs, Cs, rfl, s1, nF, hF, eC, oC, nC⟩ := p
        exact ⟨_, rfl, q H1 F vs Cs s1 nF hF eC oC⟩
end
end K41
set_option maxHeartbeats 4000000
namespace K41
open PySem PySem.Spec PyProof.Rows L2
theorem sIx_neg1 (n d : Nat) : HT.sIx n d (some (-1)) = ((-1 : Int) + (n : Int)).toNat := by
  show (if (-1 : Int) < 0 then ((-1 : Int) + (n : Int)).toNat else min (-1 : Int).toNat n) = _
  exact if_pos (by decide)
section
variable {P : Program} {w : World} {K : PySem.W.Frag} {mg : Str → Option Value} {base : Heap} {f : Addr} {fd : FuncData}
def spLApart : Sp := fun args H Q _ => ∃ (v : V) (W : Wb) (k : Nat) (R : Addr) (vs : List V) (rs : List (Nat × List Nat)), args = [v, .int k, .ref R] ∧ WbAt H v W ∧ WbOk W ∧ H R = some (.tup vs) ∧ Each (RoadAt k H) vs rs ∧
  (∀ p ∈ rs, WayOk W (p.2 ++ [k]) ∧ p.2 ≠ []) ∧ (rs.flatMap (·.2)).Nodup ∧ k ∉ rs.flatMap (·.2) ∧ ∀ H', Same H H' → Q (.bl true) H'
theorem sc_law_are_apart : FnScope ["_law_web_here", "_law_k", "_law_roads", "_law_seen", "_law_way"] ["_law_web_here", "_law_k", "_law_roads"] (defScope (top 80)) := ⟨rfl, rfl, rfl, by decide +kernel, rfl, by decide +kernel, by decide +kernel⟩
theorem ok_law_are_apart (F : FnP K "_law_are_apart" 80 f fd) (T : Txt w K mg) (C_law_is_way : Cal P w K mg base CX0 3 "_law_is_way" spLWay) (C_law_once : Cal P w K mg base CX0 1 "_law_once" spOnce) : FnOk P w K mg base CX0 4 f fd ["_law_web_here", "_law_k", "_law_roads"] spLApart := by
  refine F.ok sc_law_are_apart (fun vs H Q E h => by obtain ⟨a, r, c, _, _, _, rfl, _⟩ := h; rfl) (fun cdv A outer s H vs Q E hr h => ?_)
  have nd := sc_law_are_apart.nd
  obtain ⟨v, W, k, R, vs, rs, rfl, hW, ok, hR, er, wo, nf, kf, q⟩ := h
  have fewW := ok.few
  have lfl : (rs.flatMap (·.2)).length ≤ 200 := by
    have := FM.len_le (l' := List.range W.kns.length) nf fun x hx => by
      obtain ⟨p, hp, hx⟩ := List.mem_flatMap.mp hx
      exact List.mem_range.mpr ((wo p hp).1.lt x (List.mem_append_left _ hx))
    rw [List.length_range] at this
    omega
  refine ⟨_, PSs.nox 
    (pss_cons (ps_set (i := 3) nd rfl (Or.inl rfl) (pe_lst pa_nil))
    (pss_cons (ps_for PassesOwn.never rfl (pi_tup (pv 2)) (pg_name (i := 4) nd rfl (Or.inl rfl)) 
      (pss_cons (ps_if (PW.pt (pw_or (pt_not (pt_val (pe_fn C_law_is_way hr (by rfl) pass0 (pa_cons (pv 0) (pa_cons (pv 4) pa_nil))))) (pw_or1 (pt_cmpR op_ne (pe_ix (x_tup K) (pv 4) (pe_un un_neg pe_int) (fun _ _ => rfl)) (pv 1) (nomark _))))) 
        (pss_one (ps_ret pe_bl)) pss_nil)
      (pss_one (ps_set (i := 3) nd rfl (Or.inl rfl) (pe_op op_cat (pv 3) (pe_callTy call_list_of (by rfl) T.b_list (by decide +kernel) (pa_cons (pe_slice (x_slA K) (pv 4) po_none (po_some (pe_un un_neg pe_int))) pa_nil)))))))
    (pss_one (ps_ret (pe_and (pe_cmpR op_eq (pe_callB (x_len K) (by rfl) T.b_len PySem.boot_len (pa_cons (pe_fn C_law_once hr (by rfl) pass0 (pa_cons (pv 3) pa_nil)) pa_nil)) (pe_callB (x_len K) (by rfl) T.b_len PySem.boot_len (pa_cons (pv 3) pa_nil)) (nomark _)) (pe_one (pe_cmpR (x_notIn K) (pv 1) (pv 3) (by rfl)))))))), ?_⟩
  refine ⟨Nat.zero_le _, fun N nN => ?_⟩
  have s0 : Same H (upd H N (.lst [])) := same_upd nN
  refine ⟨_, rfl, R, rfl, ⟨_, .of (s0 _ _ hR)⟩, ?_⟩
  refine for_it walk_tup (fun i σ H' => ∃ (u : Option V) (N : Addr), σ = [some v, some (.int (k : Nat)), some (.ref R), some (.ref N), u] ∧ Same H H' ∧ H' N = some (.lst (((rs.take i).flatMap (·.2)).map nV)))
    ⟨_, N, rfl, s0, upd_same⟩ (fun i σ H' _ p => by obtain ⟨_, _, _, s, _⟩ := p; exact .of (s _ _ hR)) (fun i x σ H1 H2 hi p y => ?_) (fun σ H1 p => ?_)
  · obtain ⟨u, N, rfl, s1, hN⟩ := p
    obtain ⟨rfl, hy⟩ := y
    obtain ⟨p, hp, q0, rfl, hq⟩ := er.back hy
    obtain ⟨w1, w2⟩ := wo p (List.mem_of_getElem? hp)
    have hq1 := s1 _ _ hq
    refine ⟨_, rfl, _, rfl, v, W, q0, p.2 ++ [k], rfl, hW.same s1, ok, hq1, w1, fun H3 s3 => ⟨_, rfl, ?_⟩⟩
    have hl : atI ((p.2 ++ [k]).map nV) (-1) = some (nV k) := by
      rw [List.map_append]
      exact atI_last _ _
    refine ⟨_, rfl, 1, rfl, q0, _, -1, _, rfl, rfl, .of (s3 _ _ hq1), hl, _, rfl, rfl, _, rfl, ?_⟩
    rw [show decide (nV k = V.int ((k : Nat) : Int)) = true from decide_eq_true rfl]
    refine ⟨_, rfl, _, rfl, 1, rfl, -1, rfl, q0, _, rfl, .of (s3 _ _ hq1), fun z => ?_, fun _ p1 np1 => ?_⟩
    · have z2 := z.2
      rw [sIx_neg1] at z2
      have : 1 ≤ ((p.2 ++ [k]).map nV).length := by rw [List.length_map, List.length_append]; simp
      omega
    rw [List.map_append, show ([k].map nV) = [nV k] from rfl, cutLast]
    have s4 : Same H3 (upd H3 p1 (.tup (p.2.map nV))) := same_upd np1
    refine ⟨p1, _, rfl, .inr (.of upd_same), fun L nL => ?_⟩
    have s5 : Same (upd H3 p1 (.tup (p.2.map nV))) (upd (upd H3 p1 (.tup (p.2.map nV))) L (.lst (p.2.map nV))) := same_upd nL
    have s6 := s3.trans (s4.trans s5)
    have tk : (rs.take (i + 1)).flatMap (·.2) = (rs.take i).flatMap (·.2) ++ p.2 := by rw [take1 hp, List.flatMap_append]; simp
    have le : ((rs.take i).flatMap (·.2) ++ p.2).length ≤ 200 := by
      rw [← tk]
      refine Nat.le_trans ?_ lfl
      have : (rs.flatMap (·.2)) = (rs.take (i + 1)).flatMap (·.2) ++ (rs.drop (i + 1)).flatMap (·.2) := by rw [← List.flatMap_append, List.take_append_drop]
      rw [this, List.length_append]
      omega
    refine ⟨N, L, _, _, rfl, rfl, s6 _ _ hN, upd_same, ?_, fun D4 nD4 => ?_⟩
    · rw [List.length_map, List.length_map, ← List.length_append]
      exact Nat.le_of_lt (small1000 (by omega))
    · exact ⟨_, D4, rfl, (s1.trans s6).trans (same_upd nD4), by rw [upd_same, tk, List.map_append]⟩
  · obtain ⟨u, N, rfl, s1, hN⟩ := p
    simp only [er.1, List.take_length] at hN
    refine ⟨_, rfl, N, _, rfl, hN, by omega, fun H3 D3 ds s3 nD3 hD3 nds mds eds => ?_⟩
    have e := eds nf
    subst e
    refine ⟨_, _, rfl, .inl ⟨_, .of hD3, rfl⟩, _, rfl, _, _, rfl, .inl ⟨_, .of (s3 _ _ hN), rfl⟩, rfl, _, rfl, ?_⟩
    rw [decide_eq_true rfl]
    refine ⟨_, rfl, _, rfl, N, _, rfl, .inl (.of (s3 _ _ hN)), rfl, nats_flat _, ?_⟩
    show Q (.bl (!inV (nV k) ((rs.flatMap (·.2)).map nV))) H3
    rw [nats_in, decide_eq_false kf]
    exact q _ (s1.trans s3)
end
end K41
set_option maxHeartbeats 4000000
namespace K41
open PySem PySem.Spec PyProof.Rows L2
/-! ### the draw: a dict at d, its list of great numbers at w, its cells at c -/
def drK (w c : Addr) (r t : Int) : List (Key × V) := [(.inr "wide", .ref w), (.inr "cells", .ref c), (.inr "rest", .int r), (.inr "turn", .int t)]
section
variable {w c : Addr} {r t r' t' : Int}
theorem dr_wide : valV (drK w c r t) (.inr "wide") = some (.ref w) := rfl
theorem dr_cells : valV (drK w c r t) (.inr "cells") = some (.ref c) := rfl
theorem dr_rest : valV (drK w c r t) (.inr "rest") = some (.int r) := rfl
theorem dr_turn : valV (drK w c r t) (.inr "turn") = some (.int t) := rfl
theorem dr_setR : putK (drK w c r t) (.inr "rest") (.int r') = drK w c r' t := rfl
theorem dr_setT : putK (drK w c r t) (.inr "turn") (.int t') = drK w c r t' := rfl
end
structure Dr (H : Hp) (d w c : Addr) (T : Nat) : Prop where
  ex : ∃ (r t : Int) (wide : List Int), H d = some (.dK (drK w c r t)) ∧ H w = some (.lst (wide.map V.int)) ∧ 0 ≤ t ∧ t ≤ T
  cells : ∃ cs : List Int, H c = some (.lst (cs.map V.int)) ∧ ∀ x ∈ cs, 0 ≤ x ∧ x < 2147483629
  ne : c ≠ w
def hid (H : Hp) (d w : Addr) : Hp := fun b => if b = d ∨ b = w then none else H b
/-- no part of the draw -/
def Frs (d w c N : Addr) : Prop := N ≠ d ∧ N ≠ w ∧ N ≠ c
section
variable {H H' H1 G : Hp} {d w c N : Addr} {T T' : Nat} {o : HO}
theorem hid_get {b : Addr} (h : hid H d w b = some o) : H b = some o := by
  unfold hid at h
  split at h
  · cases h
  · exact h
theorem hid_of {b : Addr} (h1 : b ≠ d) (h2 : b ≠ w) : hid H d w b = H b := by
  unfold hid
  rw [if_neg (fun z => z.elim h1 h2)]
theorem hid_same (s : Same H H') : Same (hid H d w) (hid H' d w) := fun b x h => by
  unfold hid at h ⊢
  split at h
  · cases h
  · rename_i n
    rw [if_neg n]
    exact s b x h
theorem hid_none {b : Addr} (h : H b = none) : hid H d w b = none := by
  unfold hid
  split
  · rfl
  · exact h
theorem Dr.same (D : Dr H d w c T) (s : Same H H') : Dr H' d w c T := by
  obtain ⟨r, t, wd, h1, h2, h3, h4⟩ := D.ex
  obtain ⟨cs, h5, h6⟩ := D.cells
  exact ⟨⟨r, t, wd, s _ _ h1, s _ _ h2, h3, h4⟩, ⟨cs, s _ _ h5, h6⟩, D.ne⟩
theorem Dr.mono (D : Dr H d w c T) (h : T ≤ T') : Dr H d w c T' := by
  obtain ⟨r, t, wd, h1, h2, h3, h4⟩ := D.ex
  exact ⟨⟨r, t, wd, h1, h2, h3, by omega⟩, D.cells, D.ne⟩
theorem Dr.frs (D : Dr H d w c T) (h : H N = none) : Frs d w c N := by
  obtain ⟨r, t, wd, h1, h2, _⟩ := D.ex
  obtain ⟨cs, h5, _⟩ := D.cells
  exact ⟨fun z => (by rw [z, h1] at h; cases h), fun z => (by rw [z, h2] at h; cases h), fun z => (by rw [z, h5] at h; cases h)⟩
theorem Dr.upd (D : Dr H d w c T) (f : Frs d w c N) : Dr (upd H N o) d w c T := by
  obtain ⟨r, t, wd, h1, h2, h3, h4⟩ := D.ex
  obtain ⟨cs, h5, h6⟩ := D.cells
  exact ⟨⟨r, t, wd, by rw [upd_ne f.1.symm]; exact h1, by rw [upd_ne f.2.1.symm]; exact h2, h3, h4⟩, ⟨cs, by rw [upd_ne f.2.2.symm]; exact h5, h6⟩, D.ne⟩
theorem hid_upd (f : Frs d w c N) : hid (upd H N o) d w = upd (hid H d w) N o := by
  funext b
  by_cases e : b = N
  · subst e
    rw [hid_of f.1 f.2.1, upd_same, upd_same]
  · rw [upd_ne e]
    unfold hid
    split
    · rfl
    · exact upd_ne e
theorem Dr.dw (D : Dr H d w c T) : d ≠ w := fun z => by
  obtain ⟨r, t, wd, h1, h2, _⟩ := D.ex
  rw [z, h2] at h1
  cases h1
theorem Dr.dc (D : Dr H d w c T) : d ≠ c := fun z => by
  obtain ⟨r, t, wd, h1, _⟩ := D.ex
  obtain ⟨cs, h5, _⟩ := D.cells
  rw [z, h5] at h1
  cases h1
/-- the draw's own dict is changed -/
theorem hid_d (x : HO) : hid (upd H d x) d w = hid H d w := by
  funext b
  unfold hid
  split
  · rfl
  · rename_i n
    exact upd_ne fun z => n (.inl z)
theorem hid_w (x : HO) : hid (upd H w x) d w = hid H d w := by
  funext b
  unfold hid
  split
  · rfl
  · rename_i n
    exact upd_ne fun z => n (.inr z)
theorem Dr.setD (D : Dr H d w c T) {r t : Int} (h0 : 0 ≤ t) (h1 : t ≤ T') : Dr (L2.upd H d (.dK (drK w c r t))) d w c T' := by
  obtain ⟨r0, t0, wd, g1, g2, g3, g4⟩ := D.ex
  obtain ⟨cs, g5, g6⟩ := D.cells
  exact ⟨⟨r, t, wd, upd_same, by rw [upd_ne D.dw.symm]; exact g2, h0, h1⟩, ⟨cs, by rw [upd_ne D.dc.symm]; exact g5, g6⟩, D.ne⟩
theorem Dr.setW (D : Dr H d w c T) (l : List Int) : Dr (L2.upd H w (.lst (l.map V.int))) d w c T := by
  obtain ⟨r0, t0, wd, g1, g2, g3, g4⟩ := D.ex
  obtain ⟨cs, g5, g6⟩ := D.cells
  exact ⟨⟨r0, t0, l, by rw [upd_ne D.dw]; exact g1, upd_same, g3, g4⟩, ⟨cs, by rw [upd_ne D.ne]; exact g5, g6⟩, D.ne⟩
end
section
variable {P : Program} {w : World} {K : PySem.W.Frag} {mg : Str → Option Value} {base : Heap} {f : Addr} {fd : FuncData}
def spMixed : Sp := fun args H Q _ => ∃ (d wa c : Addr) (n : Nat), args = [.ref d] ∧ Dr H d wa c n ∧ n + 1 ≤ 1000000 ∧
  ∀ H' z, Dr H' d wa c (n + 1) → Same (hid H d wa) (hid H' d wa) → Q (.int z) H'
theorem prime_ok : ∀ x ∈ ([2147483647, 2147483629, 2147483587, 2147483579] : List Int), 0 < x ∧ x ≤ 2147483647 := by decide
theorem sc_law_mixed : FnScope ["_law_draw", "_law_turn", "_law_found", "_law_prime", "_law_blend", "_law_grain"] ["_law_draw"] (defScope (top 48)) := ⟨rfl, rfl, rfl, by decide +kernel, rfl, by decide +kernel, by decide +kernel⟩
theorem ok_law_mixed (F : FnP K "_law_mixed" 48 f fd) (T : Txt w K mg) : FnOk P w K mg base CX0 1 f fd ["_law_draw"] spMixed := by
  refine F.ok sc_law_mixed (fun vs H Q E h => by obtain ⟨a, r, c, _, rfl, _⟩ := h; rfl) (fun cdv A outer s H vs Q E hr h => ?_)
  have nd := sc_law_mixed.nd
  have hu := hu_of hr
  obtain ⟨d, wa, c, n, rfl, D, hn, q⟩ := h
  obtain ⟨r, t, wd, h1, h2, h3, h4⟩ := D.ex
  refine ⟨_, PSs.nox 
    (pss_cons (ps_par (i := 1) (j := 2) rfl nd rfl rfl (by decide) rfl rfl (pa_cons (pe_op op_add (pe_dget hu (pv 0) pe_str (fun _ _ => rfl)) pe_int) (pa_cons pe_int pa_nil)) (by rfl))
    (pss_cons (ps_dput hu (pv 0) pe_str (pv 1) rfl)
    (pss_cons (ps_for PassesOwn.never rfl (pi_list (pe_lst (pa_cons pe_int (pa_cons pe_int (pa_cons pe_int (pa_cons pe_int pa_nil)))))) (pg_name (i := 3) nd rfl (Or.inl rfl)) 
      (pss_cons (ps_set (i := 4) nd rfl (Or.inl rfl) (pe_op op_add (pe_op op_mul pe_int (pv 1)) (pe_op op_fdiv (pv 3) pe_int)))
      (pss_cons (ps_for PassesOwn.never rfl (pi_list (pe_dget hu (pv 0) pe_str (fun _ _ => rfl))) (pg_name (i := 5) nd rfl (Or.inl rfl)) 
        (pss_one (ps_set (i := 4) nd rfl (Or.inl rfl) (pe_op op_mod (pe_callTy call_int1 (by rfl) T.b_int (by decide +kernel) (pa_cons (pe_op op_add (pe_op op_add (pe_op op_mul (pv 4) pe_int) (pv 5)) (pv 1)) pa_nil)) (pv 3)))))
      (pss_one (ps_set (i := 2) nd rfl (Or.inl rfl) (pe_op op_add (pe_op op_mul (pv 2) pe_int) (pe_op op_mod (pe_callTy call_int1 (by rfl) T.b_int (by decide +kernel) (pa_cons (pe_op op_pow (pv 4) pe_int) pa_nil)) (pv 3))))))))
    (pss_one (ps_ret (pv 2)))))), ?_⟩
  refine ⟨_, rfl, d, .int t, rfl, DGet.k (k := .inr "turn") h1, _, _, rfl, rfl, _, _, rfl, ?_⟩
  refine ⟨_, rfl, _, rfl, d, upd H d (.dK (drK wa c r (t + 1))), rfl, DPut.k (k := .inr "turn") h1 (by show 4 < sizeLine; decide), ?_⟩
  have D1 : Dr (upd H d (.dK (drK wa c r (t + 1)))) d wa c (n + 1) := D.setD (by omega) (by omega)
  have e1 : hid (upd H d (.dK (drK wa c r (t + 1)))) d wa = hid H d wa := hid_d _
  revert D1 e1
  generalize upd H d (.dK (drK wa c r (t + 1))) = H1
  intro D1 e1
  refine ⟨(by show 4 ≤ sizeLine; decide), fun N nN => ⟨N, rfl, ⟨_, .of upd_same⟩, ?_⟩⟩
  have s1 : Same H1 (upd H1 N (.lst [.int 2147483647, .int 2147483629, .int 2147483587, .int 2147483579])) := same_upd nN
  have hN : (upd H1 N (.lst [.int 2147483647, .int 2147483629, .int 2147483587, .int 2147483579])) N = some (.lst ([2147483647, 2147483629, 2147483587, 2147483579].map V.int)) := upd_same
  revert s1 hN
  generalize upd H1 N (.lst [.int 2147483647, .int 2147483629, .int 2147483587, .int 2147483579]) = H2
  intro s1 hN
  have D2 := D1.same s1
  obtain ⟨r2, t2, wd2, k1, k2, k3, k4⟩ := D2.ex
  obtain ⟨cs, k5, k6⟩ := D2.cells
  refine for_it (walk_list (K := K) (a := N) (xs := [2147483647, 2147483629, 2147483587, 2147483579].map V.int)) (fun i σ H' => (∃ z u3 u4 u5, σ = [some (.ref d), some (.int (t + 1)), some (.int z), u3, u4, u5]) ∧ H' = H2) ⟨⟨_, _, _, _, rfl⟩, rfl⟩ (fun i σ H' _ p => by rw [p.2]; exact .of hN) (fun i x σ H3 H4 hi p y => ?_) (fun σ H3 p => ?_)
  · obtain ⟨⟨z, u3, u4, u5, rfl⟩, rfl⟩ := p
    obtain ⟨rfl, hy⟩ := y
    rw [List.getElem?_map] at hy
    obtain ⟨p, hp, rfl⟩ := Option.map_eq_some_iff.mp hy
    obtain ⟨p0, p1⟩ := prime_ok p (List.mem_of_getElem? hp)
    refine ⟨_, rfl, _, _, rfl, rfl, .inl ⟨by decide, by decide⟩, _, rfl, _, _, rfl, rfl, ⟨by decide, by decide⟩, _, _, rfl, rfl, ?_⟩
    refine ⟨_, rfl, d, .ref c, rfl, by rw [← dr_cells (r := r2) (t := t2)]; exact DGet.k (k := .inr "cells") k1, c, rfl, ⟨_, .of k5⟩, ?_⟩
    have p37 : p / 37 ≤ 2147483647 := by omega
    have p37b : 0 ≤ p / 37 := by omega
    refine for_it (walk_list (K := K) (a := c) (xs := cs.map V.int)) (fun i σ H' => (∃ b u5, σ = [some (.ref d), some (.int (t + 1)), some (.int z), some (.int p), some (.int b), u5] ∧ 0 ≤ b ∧ b < 1000000000000) ∧ H' = H4) ⟨⟨_, _, rfl, by omega, by omega⟩, rfl⟩ (fun i σ H' _ p => by rw [p.2]; exact .of k5) (fun i x σ H5 H6 hi p' y => ?_) (fun σ H5 p' => ?_)
    · obtain ⟨⟨b, u5, rfl, b0, b1⟩, rfl⟩ := p'
      obtain ⟨rfl, hy⟩ := y
      rw [List.getElem?_map] at hy
      obtain ⟨g, hg, rfl⟩ := Option.map_eq_some_iff.mp hy
      refine ⟨_, rfl, _, _, rfl, rfl, .inr ⟨by decide, by decide⟩, _, rfl, _, _, rfl, rfl, _, rfl, _, _, rfl, rfl, .inl ⟨_, rfl, _, rfl, _, _, rfl, rfl, p0, ⟨_, _, rfl, ?_, ?_⟩, rfl⟩⟩
      · exact Int.emod_nonneg _ (by omega)
      · have := Int.emod_lt_of_pos ((b * 69621) + g + (t + 1)) p0
        omega
    · obtain ⟨⟨b, u5, rfl, b0, b1⟩, rfl⟩ := p'
      refine ⟨_, rfl, _, _, rfl, rfl, .inr ⟨by decide, by decide⟩, _, rfl, _, _, rfl, rfl, ⟨by decide, by decide, ?_⟩, .inl ⟨_, rfl, _, rfl, _, _, rfl, rfl, p0, _, _, rfl, rfl, ⟨_, _, _, _, rfl⟩, rfl⟩⟩
      have e64 : (2 : Nat) ^ 64 = 18446744073709551616 := by decide
      omega
  · obtain ⟨⟨z, u3, u4, u5, rfl⟩, rfl⟩ := p
    exact ⟨_, rfl, q H3 z D2 (by rw [← e1]; exact hid_same s1)⟩
end
end K41
set_option maxHeartbeats 4000000
namespace K41
open PySem PySem.Spec PyProof.Rows L2
section
variable {P : Program} {w : World} {K : PySem.W.Frag} {mg : Str → Option Value} {base : Heap} {f : Addr} {fd : FuncData}
def spTake : Sp := fun args H Q _ => ∃ (d wa c : Addr) (n : Nat) (m : Int), args = [.ref d, .int m] ∧ Dr H d wa c n ∧ n + 1 ≤ 1000000 ∧ 0 < m ∧ m < 1073741824 ∧
  ∀ H' z, Dr H' d wa c (n + 1) → Same (hid H d wa) (hid H' d wa) → 0 ≤ z → z < m → Q (.int z) H'
theorem sc_law_take : FnScope ["_law_draw", "_law_many", "_law_found"] ["_law_draw", "_law_many"] (defScope (top 49)) := ⟨rfl, rfl, rfl, by decide +kernel, rfl, by decide +kernel, by decide +kernel⟩
theorem ok_law_take (F : FnP K "_law_take" 49 f fd) (T : Txt w K mg) (C_law_mixed : Cal P w K mg base CX0 1 "_law_mixed" spMixed) : FnOk P w K mg base CX0 2 f fd ["_law_draw", "_law_many"] spTake := by
  refine F.ok sc_law_take (fun vs H Q E h => by obtain ⟨a, r, c, _, _, rfl, _⟩ := h; rfl) (fun cdv A outer s H vs Q E hr h => ?_)
  have nd := sc_law_take.nd
  have hu := hu_of hr
  have hu0 := hu0_of hr
  obtain ⟨d, wa, c, n, m, rfl, D, hn, m0, m1, q⟩ := h
  obtain ⟨r, t, wd, h1, h2, h3, h4⟩ := D.ex
  refine ⟨_, PSs.nox 
    (C8.pss_cut (ps_if (pt_cmpR op_eq (pe_dget hu (pv 0) pe_str (fun _ _ => rfl)) pe_int (nomark _)) 
      (pss_one (ps_dput hu (pv 0) pe_str (pe_ifExp (pt_cmpR (x_neNil K hu0) (pe_dget hu (pv 0) pe_str (fun _ _ => rfl)) (pe_lst pa_nil) (nomark _)) (pe_bm PySem.F.plainAttrs_list PySem.F.slot_list_pop PySem.F.type_list_pop mt_popAt (pe_dget hu (pv 0) pe_str (fun _ _ => rfl)) (pa_cons pe_int pa_nil)) (pe_fn C_law_mixed hr (by rfl) pass0 (pa_cons (pv 0) pa_nil))) rfl)) pss_nil)
    (pss_cons (ps_set (i := 2) nd rfl (Or.inl rfl) (pe_op op_mod (pe_callTy call_int1 (by rfl) T.b_int (by decide +kernel) (pa_cons (pe_dget hu (pv 0) pe_str (fun _ _ => rfl)) pa_nil)) (pv 1)))
    (pss_cons (ps_dput hu (pv 0) pe_str (pe_op op_fdiv (pe_dget hu (pv 0) pe_str (fun _ _ => rfl)) (pv 1)) rfl)
    (pss_one (ps_ret (pv 2)))))), ?_⟩
  refine ⟨fun σ' H' => σ' = [some (.ref d), some (.int m), none] ∧ Dr H' d wa c (n + 1) ∧ Same (hid H d wa) (hid H' d wa), ?_, fun σ' H' p => ?_⟩
  · refine ⟨_, rfl, d, .int r, rfl, DGet.k (k := .inr "rest") h1, rfl, _, rfl, ?_⟩
    rw [decI]
    by_cases c0 : r = 0
    · rw [decide_eq_true c0]
      refine ⟨_, rfl, d, .ref wa, rfl, DGet.k (k := .inr "wide") h1, Nat.zero_le _, fun l nl => ⟨wa, l, wd.map V.int, rfl, rfl, .of (same_upd nl _ _ h2), .of upd_same, _, rfl, ?_⟩⟩
      have s1 : Same H (upd H l (.lst [])) := same_upd nl
      revert s1
      generalize upd H l (.lst []) = H1
      intro s1
      have D1 := D.same s1
      have g1 := s1 _ _ h1
      have g2 := s1 _ _ h2
      cases wd with
      | nil =>
        refine ⟨_, rfl, d, wa, c, n, rfl, D1, hn, fun H2 z D2 s2 => ?_⟩
        obtain ⟨r2, t2, wd2, k1, k2, k3, k4⟩ := D2.ex
        refine ⟨_, rfl, d, upd H2 d (.dK (drK wa c z t2)), rfl, DPut.k (k := .inr "rest") k1 (by show 4 < sizeLine; decide), rfl, D2.setD k3 k4, ?_⟩
        rw [hid_d]
        exact (hid_same s1).trans s2
      | cons y ys =>
        refine ⟨_, rfl, d, .ref wa, rfl, DGet.k (k := .inr "wide") g1, .inl ⟨rfl, _, .of g2⟩, wa, _, 0, 0, .int y, rfl, rfl, g2, by decide, by decide, ?_, rfl, ?_⟩
        · unfold seqIndex?
          simp
        have D2 : Dr (upd H1 wa (.lst (ys.map V.int))) d wa c n := D1.setW ys
        have e2 : hid (upd H1 wa (.lst (ys.map V.int))) d wa = hid H1 d wa := hid_w _
        have g3 : (upd H1 wa (.lst (ys.map V.int))) d = some (.dK (drK wa c r t)) := by rw [upd_ne D.dw]; exact g1
        refine ⟨_, rfl, d, upd (upd H1 wa (.lst (ys.map V.int))) d (.dK (drK wa c y t)), rfl, DPut.k (k := .inr "rest") g3 (by show 4 < sizeLine; decide), rfl, D2.setD h3 (by omega), ?_⟩
        rw [hid_d, e2]
        exact hid_same s1
    · rw [decide_eq_false c0]
      exact ⟨rfl, D.mono (Nat.le_succ _), Same.refl _⟩
  · obtain ⟨rfl, D1, s1⟩ := p
    obtain ⟨r2, t2, wd2, k1, k2, k3, k4⟩ := D1.ex
    refine ⟨_, rfl, d, .int r2, rfl, DGet.k (k := .inr "rest") k1, .inl ⟨_, rfl, _, rfl, _, _, rfl, rfl, m0, ?_⟩⟩
    refine ⟨_, rfl, d, .int r2, rfl, DGet.k (k := .inr "rest") k1, _, rfl, _, _, rfl, rfl, ⟨m0, m1⟩, _, rfl, d, upd H' d (.dK (drK wa c (r2 / m) t2)), rfl, DPut.k (k := .inr "rest") k1 (by show 4 < sizeLine; decide), _, rfl, ?_⟩
    exact q _ _ (D1.setD k3 k4) (by rw [hid_d]; exact s1) (Int.emod_nonneg _ (by omega)) (Int.emod_lt_of_pos _ m0)
def spPick : Sp := fun args H Q _ => ∃ (d wa c S : Addr) (n : Nat) (xs : List V), args = [.ref d, .ref S] ∧ Dr H d wa c n ∧ n + 1 ≤ 1000000 ∧ hid H d wa S = some (.lst xs) ∧ xs ≠ [] ∧ xs.length ≤ 1000000 ∧
  ∀ H' x, Dr H' d wa c (n + 1) → Same (hid H d wa) (hid H' d wa) → x ∈ xs → Q x H'
theorem sc_law_pick : FnScope ["_law_draw", "_law_some"] ["_law_draw", "_law_some"] (defScope (top 50)) := ⟨rfl, rfl, rfl, by decide +kernel, rfl, by decide +kernel, by decide +kernel⟩
theorem ok_law_pick (F : FnP K "_law_pick" 50 f fd) (T : Txt w K mg) (C_law_take : Cal P w K mg base CX0 2 "_law_take" spTake) : FnOk P w K mg base CX0 3 f fd ["_law_draw", "_law_some"] spPick := by
  refine F.ok sc_law_pick (fun vs H Q E h => by obtain ⟨a, r, c, _, _, _, rfl, _⟩ := h; rfl) (fun cdv A outer s H vs Q E hr h => ?_)
  have nd := sc_law_pick.nd
  obtain ⟨d, wa, c, S, n, xs, rfl, D, hn, hS, ne, lx, q⟩ := h
  have hS0 := hid_get hS
  have lpos : 1 ≤ xs.length := by cases xs with | nil => exact absurd rfl ne | cons a b => simp
  refine ⟨_, PSs.nox 
    (pss_one (ps_ret (pe_ix (x_lst K) (pv 1) (pe_fn C_law_take hr (by rfl) pass0 (pa_cons (pv 0) (pa_cons (pe_callB (x_len K) (by rfl) T.b_len PySem.boot_len (pa_cons (pv 1) pa_nil)) pa_nil))) (fun _ _ => rfl)))), ?_⟩
  refine ⟨_, rfl, _, rfl, _, rfl, _, _, rfl, .inl ⟨_, .of hS0, rfl⟩, d, wa, c, n, (xs.length : Nat), rfl, D, hn, by omega, by omega, fun H1 z D1 s1 z0 z1 => ?_⟩
  obtain ⟨k, rfl⟩ := Int.eq_ofNat_of_zero_le z0
  have kl : k < xs.length := by omega
  have hk : xs[k]? = some xs[k] := List.getElem?_eq_getElem kl
  exact ⟨S, xs, k, xs[k], rfl, rfl, .of (hid_get (s1 _ _ hS)), atI_n hk, q _ _ D1 s1 (List.mem_of_getElem? hk)⟩
def spShuf : Sp := fun args H Q _ => ∃ (d wa c S : Addr) (n : Nat) (xs : List V), args = [.ref d, .ref S] ∧ Dr H d wa c n ∧ n + xs.length ≤ 1000000 ∧ hid H d wa S = some (.lst xs) ∧
  ∀ H' N ys, Dr H' d wa c (n + xs.length) → Same (hid H d wa) (hid H' d wa) → hid H d wa N = none → hid H' d wa N = some (.lst ys) → ys.Perm xs → Q (.ref N) H'
theorem perm_erase {α : Type} : ∀ {l : List α} {k : Nat} {x : α}, l[k]? = some x → (x :: l.eraseIdx k).Perm l
  | [], _, _, h => by simp at h
  | a :: l, 0, x, h => by
    cases h
    exact List.Perm.refl _
  | a :: l, k + 1, x, h => by
    have ih := perm_erase (l := l) (k := k) (x := x) (by simpa using h)
    exact (List.Perm.swap a x _).trans (ih.cons a)
theorem sc_law_shuffled : FnScope ["_law_draw", "_law_some", "_law_left", "_law_found"] ["_law_draw", "_law_some"] (defScope (top 51)) := ⟨rfl, rfl, rfl, by decide +kernel, rfl, by decide +kernel, by decide +kernel⟩
theorem ok_law_shuffled (F : FnP K "_law_shuffled" 51 f fd) (T : Txt w K mg) (C_law_take : Cal P w K mg base CX0 2 "_law_take" spTake) : FnOk P w K mg base CX0 3 f fd ["_law_draw", "_law_some"] spShuf := by
  refine F.ok sc_law_shuffled (fun vs H Q E h => by obtain ⟨a, r, c, _, _, _, rfl, _⟩ := h; rfl) (fun cdv A outer s H vs Q E hr h => ?_)
  have nd := sc_law_shuffled.nd
  have hu0 := hu0_of hr
  obtain ⟨d, wa, c, S, n, xs, rfl, D, hn, hS, q⟩ := h
  have hS0 := hid_get hS
  refine ⟨_, PSs.nox 
    (pss_cons (ps_par (i := 2) (j := 3) rfl nd rfl rfl (by decide) rfl rfl (pa_cons (pe_callTy call_list_of (by rfl) T.b_list (by decide +kernel) (pa_cons (pv 1) pa_nil)) (pa_cons (pe_lst pa_nil) pa_nil)) (by rfl))
    (pss_cons (ps_while PassesOwn.never (pt_cmpR (x_neNil K hu0) (pv 2) (pe_lst pa_nil) (nomark _)) 
      (pss_one (ps_expr (pe_bm PySem.F.plainAttrs_list PySem.F.slot_list_append PySem.F.type_list_append mt_append (pv 3) (pa_cons (pe_bm PySem.F.plainAttrs_list PySem.F.slot_list_pop PySem.F.type_list_pop mt_popAt (pv 2) (pa_cons (pe_fn C_law_take hr (by rfl) pass0 (pa_cons (pv 0) (pa_cons (pe_callB (x_len K) (by rfl) T.b_len PySem.boot_len (pa_cons (pv 2) pa_nil)) pa_nil))) pa_nil)) pa_nil)))))
    (pss_one (ps_ret (pv 3))))), ?_⟩
  refine ⟨_, rfl, S, xs, rfl, .inl (.of hS0), fun L nL => ⟨Nat.zero_le _, fun N nN => ⟨_, _, rfl, ?_⟩⟩⟩
  have s1 : Same H (upd H L (.lst xs)) := same_upd nL
  have s2 : Same (upd H L (.lst xs)) (upd (upd H L (.lst xs)) N (.lst [])) := same_upd nN
  have D1 := D.same s1
  have fL := D.frs nL
  have fN := D1.frs nN
  have ln : L ≠ N := fun z => by rw [← z, upd_same] at nN; cases nN
  have nN0 : H N = none := Same.free s1 nN
  let Pv : Nat → L2.St → Hp → Prop := fun m σ H' => ∃ left got : List V, σ = [some (.ref d), some (.ref S), some (.ref L), some (.ref N)] ∧ Dr H' d wa c (n + got.length) ∧ Same (hid H d wa) (hid H' d wa) ∧ H' L = some (.lst left) ∧ H' N = some (.lst got) ∧ (got ++ left).Perm xs ∧ m = left.length
  refine ⟨Pv, ⟨_, xs, [], rfl, D1.same s2, hid_same (s1.trans s2), s2 _ _ upd_same, upd_same, List.Perm.refl _, rfl⟩, fun m σ H' p => ?_⟩
  obtain ⟨left, got, rfl, D2, s3, hL, hN, pm, rfl⟩ := p
  have lens : got.length + left.length = xs.length := by rw [← List.length_append]; exact pm.length_eq
  refine ⟨_, rfl, Nat.zero_le _, fun e ne => ⟨L, e, left, rfl, rfl, .of (same_upd ne _ _ hL), .of upd_same, _, rfl, ?_⟩⟩
  have s4 : Same H' (upd H' e (.lst [])) := same_upd ne
  revert s4
  generalize upd H' e (.lst []) = H2
  intro s4
  cases left with
  | nil =>
    refine ⟨_, rfl, ?_⟩
    have lg : got.length = xs.length := by simpa using lens
    refine q H2 N got (by rw [← lg]; exact D2.same s4) (s3.trans (hid_same s4)) (hid_none nN0) (by rw [hid_of fN.1 fN.2.1]; exact s4 _ _ hN) (by simpa using pm)
  | cons y ys =>
    refine ⟨fun σ' H'' => ∃ m', m' < (y :: ys).length ∧ Pv m' σ' H'', fun _ _ z => z, ?_⟩
    refine ⟨_, rfl, .inl ⟨rfl, _, .of (s4 _ _ hN)⟩, _, rfl, .inl ⟨rfl, _, .of (s4 _ _ hL)⟩, _, rfl, _, rfl, _, _, rfl, .inl ⟨_, .of (s4 _ _ hL), rfl⟩, d, wa, c, n + got.length, ((y :: ys).length : Nat), rfl, D2.same s4, by simp at lens; omega, by rw [List.length_cons]; omega, by simp at lens ⊢; omega, fun H3 z D3 s5 z0 z1 => ?_⟩
    obtain ⟨k, rfl⟩ := Int.eq_ofNat_of_zero_le z0
    have kl : k < (y :: ys).length := by omega
    have hk : (y :: ys)[k]? = some (y :: ys)[k] := List.getElem?_eq_getElem kl
    have hL3 : H3 L = some (.lst (y :: ys)) := hid_get (s5 _ _ (by rw [hid_of fL.1 fL.2.1]; exact s4 _ _ hL))
    have hN3 : H3 N = some (.lst got) := hid_get (s5 _ _ (by rw [hid_of fN.1 fN.2.1]; exact s4 _ _ hN))
    have kl' := kl
    simp at kl' lens
    refine ⟨L, _, k, k, _, rfl, rfl, hL3, by omega, by omega, ?_, hk, ?_⟩
    · unfold seqIndex?
      have : ¬ ((k : Nat) : Int) < 0 := by omega
      simp [this]
      omega
    have D4 := D3.upd (o := .lst ((y :: ys).eraseIdx k)) fL
    have hN4 : (upd H3 L (.lst ((y :: ys).eraseIdx k))) N = some (.lst got) := by rw [upd_ne ln.symm]; exact hN3
    refine ⟨N, got, _, rfl, rfl, hN4, small10 (by omega), ?_⟩
    refine ⟨((y :: ys).eraseIdx k).length, ?_, (y :: ys).eraseIdx k, got ++ [(y :: ys)[k]], rfl, ?_, ?_, by rw [upd_ne ln]; exact upd_same, upd_same, ?_, rfl⟩
    · rw [List.length_eraseIdx, if_pos kl]
      simp
    · rw [List.length_append]
      exact D4.upd fN
    · have g1 : Same (hid H d wa) (hid H3 d wa) := (s3.trans (hid_same s4)).trans s5
      rw [hid_upd fN, hid_upd fL]
      exact Same.keep (Same.keep g1 (hid_none nL)) (hid_none nN0)
    · rw [List.append_assoc]
      exact ((perm_erase hk).append_left got).trans pm
def spLot : Sp := fun args H Q _ => ∃ (d wa c : Addr) (n m k : Nat), args = [.ref d, .int m, .int k] ∧ Dr H d wa c n ∧ n + 1 + m ≤ 1000000 ∧ 0 < k ∧ k ≤ m ∧ m ≤ 1000 ∧
  ∀ H' N (l : List Nat), Dr H' d wa c (n + 1 + m) → Same (hid H d wa) (hid H' d wa) → hid H d wa N = none → hid H' d wa N = some (.tup (l.map nV)) → l.Pairwise (· < ·) → (∀ x ∈ l, x < m) → Q (.ref N) H'
theorem cutTo2 (xs : List V) (k : Nat) : cutV xs none (some (k : Int)) = xs.take k := by
  unfold cutV
  rw [HT.sIx_none, HT.sIx_nat]
  by_cases h : k ≤ xs.length
  · rw [Nat.min_eq_left h]
    simp
  · rw [Nat.min_eq_right (by omega)]
    simp
    rw [List.take_of_length_le (by omega)]
def unV : V → Nat
  | .int i => i.toNat
  | _ => 0
theorem unV_nV (n : Nat) : unV (nV n) = n := rfl
theorem perm_nats {ys : List V} {l : List Nat} (h : ys.Perm (l.map nV)) : ∃ zs : List Nat, zs.Perm l ∧ ys = zs.map nV := by
  refine ⟨ys.map unV, ?_, ?_⟩
  · have := h.map unV
    rw [List.map_map] at this
    have e : (unV ∘ nV) = id := funext fun n => rfl
    rw [e, List.map_id] at this
    exact this
  · rw [List.map_map]
    have : ∀ y ∈ ys, (nV ∘ unV) y = y := fun y hy => by
      obtain ⟨n, _, rfl⟩ := List.mem_map.mp (h.mem_iff.mp hy)
      rfl
    exact (List.map_id ys).symm.trans (List.map_congr_left fun y hy => (this y hy).symm)
theorem rgV_nats (m : Nat) : rgV 0 (m : Nat) = (List.range m).map nV := by
  unfold rgV
  rw [show (((m : Nat) : Int) - 0).toNat = m by omega]
  refine List.map_congr_left fun i _ => ?_
  exact congrArg V.int (Int.zero_add _)
/-- ints ascending, as numbers -/
theorem asc_nats {ns : List Int} {l : List Nat} (pm : ns.Perm (l.map fun n => ((n : Nat) : Int))) (asc : ns.Pairwise (· ≤ ·)) (nd : l.Nodup) : ns.map V.int = (ns.map Int.toNat).map nV ∧ (ns.map Int.toNat).Pairwise (· < ·) ∧ ∀ x, x ∈ ns.map Int.toNat ↔ x ∈ l := by
  have nn : ∀ i ∈ ns, 0 ≤ i := fun i hi => by
    obtain ⟨n, _, rfl⟩ := List.mem_map.mp (pm.mem_iff.mp hi)
    omega
  have nds : ns.Nodup := by
    refine (pm.nodup_iff).mpr ?_
    rw [List.nodup_iff_pairwise_ne, List.pairwise_map]
    exact (List.nodup_iff_pairwise_ne.mp nd).imp fun h e => h (by omega)
  refine ⟨ints_nats nn, ?_, fun x => ?_⟩
  · rw [List.pairwise_map]
    refine List.Pairwise.imp_of_mem (fun {x y} hx hy h => ?_) (List.Pairwise.and asc (List.nodup_iff_pairwise_ne.mp nds))
    have h1 := nn x hx
    have h2 := nn y hy
    have h3 := h.1
    have h4 := h.2
    omega
  · rw [List.mem_map]
    constructor
    · rintro ⟨i, hi, rfl⟩
      obtain ⟨n, hn, rfl⟩ := List.mem_map.mp (pm.mem_iff.mp hi)
      exact hn
    · intro h
      exact ⟨(x : Int), pm.mem_iff.mpr (List.mem_map.mpr ⟨x, h, rfl⟩), rfl⟩
theorem sc_law_lot : FnScope ["_law_draw", "_law_many", "_law_most", "_law_size"] ["_law_draw", "_law_many", "_law_most"] (defScope (top 54)) := ⟨rfl, rfl, rfl, by decide +kernel, rfl, by decide +kernel, by decide +kernel⟩
theorem ok_law_lot (F : FnP K "_law_lot" 54 f fd) (T : Txt w K mg) (C_law_take : Cal P w K mg base CX0 2 "_law_take" spTake) (C_law_shuffled : Cal P w K mg base CX0 3 "_law_shuffled" spShuf) : FnOk P w K mg base CX0 4 f fd ["_law_draw", "_law_many", "_law_most"] spLot := by
  refine F.ok sc_law_lot (fun vs H Q E h => by obtain ⟨a, r, c, _, _, _, rfl, _⟩ := h; rfl) (fun cdv A outer s H vs Q E hr h => ?_)
  have nd := sc_law_lot.nd
  obtain ⟨d, wa, c, n, m, k, rfl, D, hn, k0, km, m1, q⟩ := h
  refine ⟨_, PSs.nox 
    (pss_cons (ps_set (i := 3) nd rfl (Or.inl rfl) (pe_op op_add pe_int (pe_fn C_law_take hr (by rfl) pass0 (pa_cons (pv 0) (pa_cons (pv 2) pa_nil)))))
    (pss_one (ps_ret (pe_callTy call_tuple_of (by rfl) T.b_tuple (by decide +kernel) (pa_cons (pe_callB cr_sortedI (by rfl) T.b_sorted (by decide +kernel) (pa_cons (pe_slice (x_slL K) (pe_fn C_law_shuffled hr (by rfl) pass0 (pa_cons (pv 0) (pa_cons (pe_listRg rfl (by rfl) T.b_list (prg_1 (by rfl) T.b_range (pv 1))) pa_nil))) po_none (po_some (pv 3))) pa_nil)) pa_nil))))), ?_⟩
  refine ⟨_, rfl, _, rfl, d, wa, c, n, k, rfl, D, by omega, by omega, by omega, fun H1 z D1 s1 z0 z1 => ⟨_, _, rfl, rfl, ?_⟩⟩
  obtain ⟨j, rfl⟩ := Int.eq_ofNat_of_zero_le z0
  refine ⟨_, rfl, _, rfl, m, rfl, RgOk.of_le (by omega) (by omega) (by omega) (by omega), fun L nL => ?_⟩
  rw [rgV_nats]
  have s2 : Same H1 (upd H1 L (.lst ((List.range m).map nV))) := same_upd nL
  have fL := D1.frs nL
  have hL : hid (upd H1 L (.lst ((List.range m).map nV))) d wa L = some (.lst ((List.range m).map nV)) := by rw [hid_of fL.1 fL.2.1]; exact upd_same
  refine ⟨d, wa, c, L, n + 1, (List.range m).map nV, rfl, D1.same s2, by simp; omega, hL, fun H3 N ys D3 s3 nN hN pm => ?_⟩
  obtain ⟨zs, pz, rfl⟩ := perm_nats pm
  rw [List.length_map, List.length_range] at D3
  refine ⟨_, rfl, _, rfl, N, _, rfl, .of (hid_get hN), fun p np => ?_⟩
  have ec : cutV (zs.map nV) none (some (1 + (j : Int))) = ((zs.take (1 + j)).map fun n => ((n : Nat) : Int)).map V.int := by
    rw [show (1 : Int) + (j : Int) = ((1 + j : Nat) : Int) by omega, cutTo2, ← List.map_take, List.map_map]
    rfl
  refine ⟨p, (zs.take (1 + j)).map fun n => ((n : Nat) : Int), rfl, .of (by rw [← ec]; exact upd_same), fun ns p2 pm2 asc np2 => ?_⟩
  have ndz : (zs.take (1 + j)).Nodup := ((pz.nodup_iff).mpr List.nodup_range).sublist (List.take_sublist _ _)
  obtain ⟨e1, e2, e3⟩ := asc_nats pm2 asc ndz
  refine ⟨p2, _, rfl, .inl ⟨.of upd_same, fun q2 nq2 => ?_⟩⟩
  have s4 : Same H3 (upd H3 p (.lst (cutV (zs.map nV) none (some (1 + (j : Int)))))) := same_upd np
  have s5 := s4.trans ((same_upd (o := .lst (ns.map V.int)) np2).trans (same_upd (o := .tup (ns.map V.int)) nq2))
  have fq := (D3.same (s4.trans (same_upd (o := .lst (ns.map V.int)) np2))).frs nq2
  have n0 : hid H d wa q2 = none := by
    have h1 : hid H3 d wa q2 = none := hid_none (Same.free (s4.trans (same_upd (o := .lst (ns.map V.int)) np2)) nq2)
    exact Same.free (s1.trans ((hid_same s2).trans s3)) h1
  refine q _ q2 (ns.map Int.toNat) (D3.same s5) ((s1.trans ((hid_same s2).trans s3)).trans (hid_same s5)) n0 (by rw [hid_of fq.1 fq.2.1, upd_same, e1]) e2 fun x hx => ?_
  exact List.mem_range.mp (pz.mem_iff.mp (List.mem_of_mem_take ((e3 x).mp hx)))
end
end K41
set_option maxHeartbeats 4000000
namespace K41
open PySem PySem.Spec PyProof.Rows L2
/-! ### where a def of the draw stands: begun at H0, now at H with at most n turns -/
structure Stp (d wa c : Addr) (H0 : Hp) (n : Nat) (H : Hp) : Prop where
  dr : Dr H d wa c n
  sub : Same (hid H0 d wa) (hid H d wa)
section
variable {d wa c N : Addr} {H0 H H' : Hp} {n n' : Nat} {o : HO}
theorem Stp.start (D : Dr H d wa c n) : Stp d wa c H n H := ⟨D, Same.refl _⟩
theorem Stp.same (s : Stp d wa c H0 n H) (t : Same H H') : Stp d wa c H0 n H' := ⟨s.dr.same t, s.sub.trans (hid_same t)⟩
theorem Stp.call (s : Stp d wa c H0 n H) (D : Dr H' d wa c n') (t : Same (hid H d wa) (hid H' d wa)) : Stp d wa c H0 n' H' := ⟨D, s.sub.trans t⟩
theorem Stp.mono (s : Stp d wa c H0 n H) (h : n ≤ n') : Stp d wa c H0 n' H := ⟨s.dr.mono h, s.sub⟩
theorem Stp.get (s : Stp d wa c H0 n H) {a : Addr} (h : hid H0 d wa a = some o) : H a = some o := hid_get (s.sub _ _ h)
theorem Stp.none (s : Stp d wa c H0 n H) (h : H N = Option.none) : hid H0 d wa N = Option.none := Same.free s.sub (hid_none h)
theorem Stp.frs (s : Stp d wa c H0 n H) (h : H N = Option.none) : Frs d wa c N := s.dr.frs h
theorem Stp.new (s : Stp d wa c H0 n H) (h : H N = Option.none) : Stp d wa c H0 n (upd H N o) := s.same (same_upd h)
theorem Stp.at (s : Stp d wa c H0 n H) (h : H N = Option.none) : hid (upd H N o) d wa N = some o := by
  have f := s.frs h
  rw [hid_of f.1 f.2.1]
  exact upd_same
/-- an own object is changed -/
theorem Stp.put (s : Stp d wa c H0 n H) (f : Frs d wa c N) (nN : hid H0 d wa N = Option.none) : Stp d wa c H0 n (upd H N o) := ⟨s.dr.upd f, by rw [hid_upd f]; exact Same.keep s.sub nN⟩
theorem hid_frs (f : Frs d wa c N) : hid H d wa N = H N := hid_of f.1 f.2.1
end
/-! ### what a row asks of sorts and lengths -/
abbrev Env' := List (Str × Int)
def FitsE (e : Env') (a : Ask) : Prop := a.2.1 ∈ askWords ∧ plain a.1 = true ∧ ∀ i, a.1 = .int i → ∃ (j : Nat) (s : Str) (l : Int), i = (j : Nat) ∧ e[j]? = some (s, l) ∧
  inV (.str s) ((askedL a.2.1).getD [.str "code"]) = true ∧ (isLS a.2.1 = true → ∃ n, a.2.2 = .int n ∧ n < l)
def RowFit (e : Env') (r : List V) : Prop := ∀ a, askRow r = some a → FitsE e a
theorem RowFit.plain {e : Env'} {z : Str} {args : List V} (h : placeOf z = none) : RowFit e (.str z :: args) := fun a ha => by
  simp [askRow, strV, wordV, h] at ha
theorem RowOk.of {m : Nat} {z : Str} {args : List V} {cs : List Nat} (hz : z ∈ words) (hf : formOf z = some ⟨cs.toArray⟩) (hl : args.length = cs.length) (hp : ∀ (i : Nat) (c : Nat) (v : V), cs[i]? = some c → args[i]? = some v → PartOk m c v) : RowOk m (.str z :: args) :=
  ⟨z, args, ⟨cs.toArray⟩, rfl, hz, hf, by simpa using hl, fun i c v h1 h2 => hp i c v (by simpa using h1) h2⟩
theorem RowOk.r0 {m : Nat} {z : Str} (hz : z ∈ words) (hf : formOf z = some ⟨([] : List Nat).toArray⟩) : RowOk m [.str z] := .of hz hf rfl fun i c v h => by simp at h
theorem RowOk.r1 {m : Nat} {z : Str} {c1 : Nat} {v1 : V} (hz : z ∈ words) (hf : formOf z = some ⟨[c1].toArray⟩) (h1 : PartOk m c1 v1) : RowOk m [.str z, v1] := .of hz hf rfl fun i c v h h' => by
  match i with
  | 0 => simp at h h'; subst h h'; exact h1
  | i + 1 => simp at h
theorem RowOk.r2 {m : Nat} {z : Str} {c1 c2 : Nat} {v1 v2 : V} (hz : z ∈ words) (hf : formOf z = some ⟨[c1, c2].toArray⟩) (h1 : PartOk m c1 v1) (h2 : PartOk m c2 v2) : RowOk m [.str z, v1, v2] := .of hz hf rfl fun i c v h h' => by
  match i with
  | 0 => simp at h h'; subst h h'; exact h1
  | 1 => simp at h h'; subst h h'; exact h2
  | i + 2 => simp at h
theorem RowOk.r3 {m : Nat} {z : Str} {c1 c2 c3 : Nat} {v1 v2 v3 : V} (hz : z ∈ words) (hf : formOf z = some ⟨[c1, c2, c3].toArray⟩) (h1 : PartOk m c1 v1) (h2 : PartOk m c2 v2) (h3 : PartOk m c3 v3) : RowOk m [.str z, v1, v2, v3] := .of hz hf rfl fun i c v h h' => by
  match i with
  | 0 => simp at h h'; subst h h'; exact h1
  | 1 => simp at h h'; subst h h'; exact h2
  | 2 => simp at h h'; subst h h'; exact h3
  | i + 3 => simp at h
theorem partE {m c : Nat} {i e : Int} (h1 : c ≠ 120) (h2 : c ≠ 110) (hs : (⟨#[c]⟩ : Str) ∈ signs4) (he : endOf ⟨#[c]⟩ = some e) (h0 : 0 ≤ i) (h : i < e) : PartOk m c (.int i) := by
  unfold PartOk
  rw [if_neg h1, if_neg h2]
  exact ⟨i, e, rfl, hs, he, h0, h⟩
theorem partR {m : Nat} {i : Int} (h0 : 0 ≤ i) (h : i < 4) : PartOk m 114 (.int i) := partE (by decide) (by decide) (by decide +kernel) (by decide +kernel : endOf ⟨#[114]⟩ = some 4) h0 h
theorem partP {m : Nat} {i : Int} (h0 : 0 ≤ i) (h : i < 2) : PartOk m 112 (.int i) := partE (by decide) (by decide) (by decide +kernel) (by decide +kernel : endOf ⟨#[112]⟩ = some 2) h0 h
theorem partC {m : Nat} {i : Int} (h0 : 0 ≤ i) (h : i < 64) : PartOk m 99 (.int i) := partE (by decide) (by decide) (by decide +kernel) (by decide +kernel : endOf ⟨#[99]⟩ = some 64) h0 h
theorem partF {m : Nat} {i : Int} (h0 : 0 ≤ i) (h : i < 63) : PartOk m 102 (.int i) := partE (by decide) (by decide) (by decide +kernel) (by decide +kernel : endOf ⟨#[102]⟩ = some 63) h0 h
theorem partN {m : Nat} {i : Int} (h0 : 0 ≤ i) (h : i < (m : Int)) : PartOk m 110 (.int i) := by
  unfold PartOk
  rw [if_neg (by decide), if_pos rfl]
  exact ⟨i, rfl, h0, h⟩
theorem partX {m : Nat} {v : V} (h : (∃ i, v = .int i) ∨ ∃ z, v = .str z ∧ isNm z = true) : PartOk m 120 v := by
  unfold PartOk
  rw [if_pos rfl]
  exact h
def plainWords : List Str := ["set", "set", "copy", "plus", "less", "ask", "show", "show", "goto", "if", "leap", "alike", "return"]
def pw1 : List V := [.str "ask", .str "show", .str "return"]
def pw2 : List V := [.str "goto", .str "leap"]
set_option synthInstance.maxSize 4000 in
set_option synthInstance.maxHeartbeats 2000000 in
/-- what the tests of plain_row tell of the word -/
theorem plain_word : ∀ z ∈ plainWords, z ∈ words ∧ placeOf z = none ∧ (inV (.str z) pw1 = true → z ≠ "return" → formOf z = some ⟨[114].toArray⟩) ∧ (z = "return" → formOf z = some ⟨([] : List Nat).toArray⟩) ∧
    (inV (.str z) pw1 = false → inV (.str z) pw2 = true → z = "goto" → formOf z = some ⟨[110].toArray⟩) ∧ (inV (.str z) pw1 = false → inV (.str z) pw2 = true → z ≠ "goto" → formOf z = some ⟨[112].toArray⟩) ∧
    (z = "alike" → formOf z = some ⟨[114, 112, 112].toArray⟩) ∧ (inV (.str z) pw1 = false → inV (.str z) pw2 = false → z ≠ "alike" → (z = "if" → formOf z = some ⟨[114, 110].toArray⟩) ∧ (z = "set" → formOf z = some ⟨[114, 99].toArray⟩) ∧ (z ≠ "if" → z ≠ "set" → formOf z = some ⟨[114, 114].toArray⟩)) := by decide +kernel
theorem decS (a b : Str) : decide (V.str a = V.str b) = decide (a = b) := decide_eq_decide.mpr ⟨fun h => V.str.inj h, fun h => by rw [h]⟩
section
variable {P : Program} {w : World} {K : PySem.W.Frag} {mg : Str → Option Value} {base : Heap} {f : Addr} {fd : FuncData}
def spRow (C : Nat) (H : Hp) (d wa c : Addr) (n m : Nat) (e : Env') (Q : VK) : Prop := ∀ H' q r, Dr H' d wa c (n + C) → Same (hid H d wa) (hid H' d wa) → hid H' d wa q = some (.tup r) → RowOk m r → RowFit e r → Q (.ref q) H'
def spPlain : Sp := fun args H Q _ => ∃ (d wa c : Addr) (n m : Nat), args = [.ref d, .int m] ∧ Dr H d wa c n ∧ n + 5 ≤ 1000000 ∧ 0 < m ∧ m ≤ 1000 ∧
  ∀ H' q r, Dr H' d wa c (n + 5) → Same (hid H d wa) (hid H' d wa) → hid H' d wa q = some (.tup r) → RowOk m r → (∀ e, RowFit e r) → Q (.ref q) H'
theorem sc_law_plain_row : FnScope ["_law_draw", "_law_many", "_law_word", "_law_r", "_law_s", "_law_n"] ["_law_draw", "_law_many"] (defScope (top 56)) := ⟨rfl, rfl, rfl, by decide +kernel, rfl, by decide +kernel, by decide +kernel⟩
theorem ok_law_plain_row (F : FnP K "_law_plain_row" 56 f fd) (T : Txt w K mg) (C_law_take : Cal P w K mg base CX0 2 "_law_take" spTake) (C_law_pick : Cal P w K mg base CX0 3 "_law_pick" spPick) : FnOk P w K mg base CX0 4 f fd ["_law_draw", "_law_many"] spPlain := by
  refine F.ok sc_law_plain_row (fun vs H Q E h => by obtain ⟨a, r, c, _, _, rfl, _⟩ := h; rfl) (fun cdv A outer s H vs Q E hr h => ?_)
  have nd := sc_law_plain_row.nd
  obtain ⟨d, wa, c, n, m, rfl, D, hn, m0, m1, q⟩ := h
  refine ⟨_, PSs.nox 
    (pss_cons (ps_set (i := 2) nd rfl (Or.inl rfl) (pe_fn C_law_pick hr (by rfl) pass0 (pa_cons (pv 0) (pa_cons (pe_lst (pa_cons pe_str (pa_cons pe_str (pa_cons pe_str (pa_cons pe_str (pa_cons pe_str (pa_cons pe_str (pa_cons pe_str (pa_cons pe_str (pa_cons pe_str (pa_cons pe_str (pa_cons pe_str (pa_cons pe_str (pa_cons pe_str pa_nil)))))))))))))) pa_nil))))
    (pss_cons (ps_par3 (i := 3) (j := 4) (l := 5) rfl nd rfl rfl rfl (by decide) (by decide) (by decide) rfl rfl rfl (pa_cons (pe_fn C_law_take hr (by rfl) pass0 (pa_cons (pv 0) (pa_cons pe_int pa_nil))) (pa_cons (pe_fn C_law_take hr (by rfl) pass0 (pa_cons (pv 0) (pa_cons pe_int pa_nil))) (pa_cons (pe_fn C_law_take hr (by rfl) pass0 (pa_cons (pv 0) (pa_cons (pv 1) pa_nil))) pa_nil))) (by rfl))
    (pss_cons (ps_if (pt_cmpR (x_in K) (pv 2) (pe_lst (pa_cons pe_str (pa_cons pe_str (pa_cons pe_str pa_nil)))) (by rfl)) 
      (pss_one (ps_ret (pe_ifExp (pt_cmpR op_ne (pv 2) pe_str (nomark _)) (pe_tup (pa_cons (pv 2) (pa_cons (pv 3) pa_nil))) (pe_tup (pa_cons (pv 2) pa_nil))))) pss_nil)
    (pss_cons (ps_if (pt_cmpR (x_in K) (pv 2) (pe_lst (pa_cons pe_str (pa_cons pe_str pa_nil))) (by rfl)) 
      (pss_one (ps_ret (pe_tup (pa_cons (pv 2) (pa_cons (pe_ifExp (pt_cmpR op_eq (pv 2) pe_str (nomark _)) (pv 5) (pe_op op_fdiv (pv 3) pe_int)) pa_nil))))) pss_nil)
    (pss_cons (ps_if (pt_cmpR op_eq (pv 2) pe_str (nomark _)) 
      (pss_one (ps_ret (pe_tup (pa_cons (pv 2) (pa_cons (pv 3) (pa_cons (pe_op op_fdiv (pv 4) pe_int) (pa_cons (pe_op op_mod (pe_op op_fdiv (pv 5) pe_int) pe_int) pa_nil))))))) pss_nil)
    (pss_one (ps_ret (pe_tup (pa_cons (pv 2) (pa_cons (pv 3) (pa_cons (pe_ifExp (pt_cmpR op_eq (pv 2) pe_str (nomark _)) (pv 5) (pe_ifExp (pt_cmpR op_eq (pv 2) pe_str (nomark _)) (pe_fn C_law_take hr (by rfl) pass0 (pa_cons (pv 0) (pa_cons pe_int pa_nil))) (pv 4))) pa_nil))))))))))), ?_⟩
  have S0 := Stp.start D
  refine ⟨_, rfl, (by show 13 ≤ sizeLine; decide), fun L nL => ?_⟩
  refine ⟨d, wa, c, L, n, plainWords.map V.str, rfl, (S0.new nL).dr, by omega, S0.at nL, by decide, by decide, fun H1 x D1 s1 hx => ?_⟩
  obtain ⟨z, hz, rfl⟩ := List.mem_map.mp hx
  obtain ⟨w1, w2, w3, w4, w5, w6, w7, w8⟩ := plain_word z hz
  have S1 := (S0.new nL).call D1 s1
  refine ⟨_, rfl, d, wa, c, n + 1, 4, rfl, S1.dr, by omega, by decide, by decide, fun H2 r D2 s2 r0 r1 => ?_⟩
  have S2 := S1.call D2 s2
  refine ⟨_, rfl, d, wa, c, n + 1 + 1, 4, rfl, S2.dr, by omega, by decide, by decide, fun H3 t D3 s3 t0 t1 => ?_⟩
  have S3 := S2.call D3 s3
  refine ⟨_, rfl, _, rfl, d, wa, c, n + 1 + 1 + 1, m, rfl, S3.dr, by omega, by omega, by omega, fun H4 k D4 s4 k0 k1 => ⟨_, _, _, rfl, ?_⟩⟩
  have S4 := S3.call D4 s4
  have fin : ∀ {n' : Nat} {H5 : Hp} {p : Addr} {row : List V}, n' ≤ n + 5 → Stp d wa c H n' H5 → H5 p = none → RowOk m row → (∀ e, RowFit e row) → Q (.ref p) (upd H5 p (.tup row)) := fun hn' S5 np h1 h2 => q _ _ _ ((S5.mono hn').new np).dr (S5.new np).sub (S5.at np) h1 h2
  have plf : ∀ {args : List V} (e : Env'), RowFit e (.str z :: args) := fun e => RowFit.plain w2
  refine ⟨_, rfl, (by show 3 ≤ sizeLine; decide), fun p1 np1 => ⟨p1, pw1, rfl, .inl (.of upd_same), rfl, by decide +kernel, _, rfl, ?_⟩⟩
  have S5 := S4.new (o := .lst [.str "ask", .str "show", .str "return"]) np1
  revert S5
  generalize upd H4 p1 (.lst [.str "ask", .str "show", .str "return"]) = H5
  intro S5
  show if inV (.str z) pw1 = true then _ else _
  cases b1 : inV (.str z) pw1 with
  | true =>
    refine ⟨_, rfl, rfl, _, rfl, ?_⟩
    rw [decS]
    by_cases c1 : z = "return"
    · rw [decide_eq_true c1]
      exact ⟨_, rfl, (by show 1 ≤ sizeLine; decide), fun p np => fin (by omega) S5 np (RowOk.r0 w1 (w4 c1)) plf⟩
    · rw [decide_eq_false c1]
      exact ⟨_, rfl, _, rfl, (by show 2 ≤ sizeLine; decide), fun p np => fin (by omega) S5 np (RowOk.r1 w1 (w3 b1 c1) (partR r0 r1)) plf⟩
  | false =>
    refine ⟨_, rfl, (by show 2 ≤ sizeLine; decide), fun p2 np2 => ⟨p2, pw2, rfl, .inl (.of upd_same), rfl, by decide +kernel, _, rfl, ?_⟩⟩
    have S6 := S5.new (o := .lst [.str "goto", .str "leap"]) np2
    revert S6
    generalize upd H5 p2 (.lst [.str "goto", .str "leap"]) = H6
    intro S6
    show if inV (.str z) pw2 = true then _ else _
    cases b2 : inV (.str z) pw2 with
    | true =>
      refine ⟨_, rfl, _, rfl, rfl, _, rfl, ?_⟩
      rw [decS]
      by_cases c1 : z = "goto"
      · rw [decide_eq_true c1]
        exact ⟨_, rfl, (by show 2 ≤ sizeLine; decide), fun p np => fin (by omega) S6 np (RowOk.r1 w1 (w5 b1 b2 c1) (partN k0 k1)) plf⟩
      · rw [decide_eq_false c1]
        exact ⟨_, rfl, _, _, rfl, rfl, ⟨by decide, by decide⟩, (by show 2 ≤ sizeLine; decide), fun p np => fin (by omega) S6 np (RowOk.r1 w1 (w6 b1 b2 c1) (partP (by omega) (by omega))) plf⟩
    | false =>
      refine ⟨_, rfl, rfl, _, rfl, ?_⟩
      rw [decS]
      by_cases c1 : z = "alike"
      · rw [decide_eq_true c1]
        exact ⟨_, rfl, _, rfl, _, rfl, _, _, rfl, rfl, ⟨by decide, by decide⟩, _, rfl, _, _, rfl, rfl, ⟨by decide, by decide⟩, _, _, rfl, rfl, (by show (0 : Int) < 2; decide), (by show 4 ≤ sizeLine; decide), fun p np => fin (by omega) S6 np (RowOk.r3 w1 (w7 c1) (partR r0 r1) (partP (by omega) (by omega)) (partP (by omega) (by omega))) plf⟩
      · rw [decide_eq_false c1]
        obtain ⟨v1, v2, v3⟩ := w8 b1 b2 c1
        refine ⟨_, rfl, _, rfl, _, rfl, rfl, _, rfl, ?_⟩
        rw [decS]
        by_cases c2 : z = "if"
        · rw [decide_eq_true c2]
          exact ⟨_, rfl, (by show 3 ≤ sizeLine; decide), fun p np => fin (by omega) S6 np (RowOk.r2 w1 (v1 c2) (partR r0 r1) (partN k0 k1)) plf⟩
        · rw [decide_eq_false c2]
          refine ⟨_, rfl, rfl, _, rfl, ?_⟩
          rw [decS]
          by_cases c3 : z = "set"
          · rw [decide_eq_true c3]
            refine ⟨_, rfl, d, wa, c, n + 1 + 1 + 1 + 1, 64, rfl, S6.dr, by omega, by decide, by decide, fun H7 g D7 s7 g0 g1 => ?_⟩
            exact ⟨(by show 3 ≤ sizeLine; decide), fun p np => fin (by omega) (S6.call D7 s7) np (RowOk.r2 w1 (v2 c3) (partR r0 r1) (partC g0 g1)) plf⟩
          · rw [decide_eq_false c3]
            exact ⟨_, rfl, (by show 3 ≤ sizeLine; decide), fun p np => fin (by omega) S6 np (RowOk.r2 w1 (v3 c2 c3) (partR r0 r1) (partR t0 t1)) plf⟩
end
end K41
set_option maxHeartbeats 4000000
namespace K41
open PySem PySem.Spec PyProof.Rows L2
/-- the places whose item has p -/
def idxs {α : Type} (p : α → Bool) (l : List α) (i : Nat) : List Nat := ((List.range l.length).take i).filter fun k => match l[k]? with
  | some x => p x
  | none => false
theorem idxs_step {α : Type} {p : α → Bool} {l : List α} {i : Nat} {x : α} (h : l[i]? = some x) : idxs p l (i + 1) = idxs p l i ++ (if p x = true then [i] else []) := by
  have hi := lt_of_get h
  unfold idxs
  rw [filt_step (show (List.range l.length)[i]? = some i by rw [List.getElem?_range hi])]
  rw [h]
theorem idxs_len {α : Type} (p : α → Bool) (l : List α) (i : Nat) : (idxs p l i).length ≤ i := by
  unfold idxs
  refine Nat.le_trans (List.length_filter_le _ _) ?_
  rw [List.length_take]
  omega
theorem idxs_mem {α : Type} {p : α → Bool} {l : List α} {k : Nat} : k ∈ idxs p l l.length ↔ ∃ x, l[k]? = some x ∧ p x = true := by
  unfold idxs
  rw [List.take_of_length_le (by simp), List.mem_filter, List.mem_range]
  constructor
  · rintro ⟨h1, h2⟩
    rw [List.getElem?_eq_getElem h1] at h2
    exact ⟨_, List.getElem?_eq_getElem h1, h2⟩
  · rintro ⟨x, h1, h2⟩
    exact ⟨lt_of_get h1, by rw [h1]; exact h2⟩
def isCode (s : Str) : Bool := decide (s = "code")
structure EnvAt (G : Hp) (S L : Addr) (so : List Str) (ls : List Int) : Prop where
  atS : G S = some (.lst (so.map V.str))
  atL : G L = some (.lst (ls.map V.int))
  len : so.length = ls.length
  few : so.length ≤ 1000
  pos : ∀ l ∈ ls, 0 < l ∧ l ≤ 64
def envOf (so : List Str) (ls : List Int) : Env' := so.zip ls
theorem env_get {so : List Str} {ls : List Int} {k : Nat} {s : Str} {l : Int} (h1 : so[k]? = some s) (h2 : ls[k]? = some l) : (envOf so ls)[k]? = some (s, l) := by
  unfold envOf
  rw [List.getElem?_zip_eq_some]
  exact ⟨h1, h2⟩
def lastWords : List Str := ["return", "return", "return", "return", "jump", "jump", "goto", "stop", "fail"]
set_option synthInstance.maxSize 4000 in
set_option synthInstance.maxHeartbeats 2000000 in
theorem last_word : ∀ z ∈ lastWords, z ∈ words ∧ inV (.str z) lastsL = true ∧ (z = "jump" → formOf z = some ⟨[120].toArray⟩) ∧ (z ≠ "jump" → placeOf z = none) ∧ (z ≠ "jump" → inV (.str z) [.str "goto", .str "fail"] = false → formOf z = some ⟨([] : List Nat).toArray⟩) ∧
    (z = "goto" → formOf z = some ⟨[110].toArray⟩) ∧ (inV (.str z) [.str "goto", .str "fail"] = true → z ≠ "goto" → formOf z = some ⟨[102].toArray⟩) := by decide +kernel
theorem jump_fit {e : Env'} {x : V} (hp : plain x = true) (h : ∀ i, x = .int i → ∃ (j : Nat) (s : Str) (l : Int), i = (j : Nat) ∧ e[j]? = some (s, l) ∧ s = "code") : RowFit e [.str "jump", x] := by
  intro a ha
  have e1 : askRow [.str "jump", x] = some (x, Str.ofString "jump", V.int 0) := rfl
  rw [e1] at ha
  cases ha
  refine ⟨(show Str.ofString "jump" ∈ askWords by decide +kernel), hp, fun i hi => ?_⟩
  obtain ⟨j, s, l, h1, h2, rfl⟩ := h i hi
  exact ⟨j, _, l, h1, h2, (show inV (V.str "code") ((askedL "jump").getD [V.str "code"]) = true by decide +kernel), fun z => absurd z (show ¬ isLS "jump" = true by decide +kernel)⟩
theorem far_nm : isNm "far" = true := by decide +kernel
theorem farther_nm : isNm "farther" = true := by decide +kernel
section
variable {P : Program} {w : World} {K : PySem.W.Frag} {mg : Str → Option Value} {base : Heap} {f : Addr} {fd : FuncData}
def spLast : Sp := fun args H Q _ => ∃ (d wa c S : Addr) (n m : Nat) (so : List Str), args = [.ref d, .ref S, .int m] ∧ Dr H d wa c n ∧ n + 3 ≤ 1000000 ∧ 0 < m ∧ m ≤ 1000 ∧ hid H d wa S = some (.lst (so.map V.str)) ∧ so.length ≤ 1000 ∧
  ∀ H' q r, Dr H' d wa c (n + 3) → Same (hid H d wa) (hid H' d wa) → hid H' d wa q = some (.tup r) → RowOk m r → (∀ ls, so.length = ls.length → RowFit (envOf so ls) r) → inV (wordV r) lastsL = true → Q (.ref q) H'
theorem sc_law_last_row : FnScope ["_law_draw", "_law_sorts", "_law_many", "_law_word", "_law_k", "_law_sort"] ["_law_draw", "_law_sorts", "_law_many"] (defScope (top 58)) := ⟨rfl, rfl, rfl, by decide +kernel, rfl, by decide +kernel, by decide +kernel⟩
theorem ok_law_last_row (F : FnP K "_law_last_row" 58 f fd) (T : Txt w K mg) (C_law_take : Cal P w K mg base CX0 2 "_law_take" spTake) (C_law_pick : Cal P w K mg base CX0 3 "_law_pick" spPick) : FnOk P w K mg base CX0 4 f fd ["_law_draw", "_law_sorts", "_law_many"] spLast := by
  refine F.ok sc_law_last_row (fun vs H Q E h => by obtain ⟨a, r, c, _, _, _, _, rfl, _⟩ := h; rfl) (fun cdv A outer s H vs Q E hr h => ?_)
  have nd := sc_law_last_row.nd
  obtain ⟨d, wa, c, S, n, m, so, rfl, D, hn, m0, m1, hS, ls0, q⟩ := h
  refine ⟨_, PSs.nox 
    (pss_cons (ps_set (i := 3) nd rfl (Or.inl rfl) (pe_fn C_law_pick hr (by rfl) pass0 (pa_cons (pv 0) (pa_cons (pe_lst (pa_cons pe_str (pa_cons pe_str (pa_cons pe_str (pa_cons pe_str (pa_cons pe_str (pa_cons pe_str (pa_cons pe_str (pa_cons pe_str (pa_cons pe_str pa_nil)))))))))) pa_nil))))
    (pss_cons (ps_if (pt_cmpR op_eq (pv 3) pe_str (nomark _)) 
      (pss_one (ps_ret (pe_tup (pa_cons (pv 3) (pa_cons (pe_fn C_law_pick hr (by rfl) pass0 (pa_cons (pv 0) (pa_cons (pe_op op_cat (pe_lc (own := [("_law_k", 4), ("_law_sort", 5)]) (g := gTup K 2 (gCons (gName 4) (gCons (gName 5) gNil))) rfl nd (pi_enum (by rfl) T.b_enumerate (pa_cons (pv 1) pa_nil)) (blkOk_by (own := [("_law_k", 4), ("_law_sort", 5)]) (N := ["_law_draw", "_law_sorts", "_law_many", "_law_word", "_law_k", "_law_sort"]) (sc := defScope (top 58)) (by decide +kernel)) (fun _ _ _ _ _ => (pg_tup rfl (pgs_cons (pg_name (i := 4) nd rfl (Or.inl rfl)) (pgs_cons (pg_name (i := 5) nd rfl (Or.inl rfl)) pgs_nil)))) (fun _ _ _ _ _ => (pts_one (pt_cmpR op_eq (pv 5) pe_str (nomark _)))) (fun _ _ _ _ _ => (pv 4))) (pe_lst (pa_cons pe_str pa_nil))) pa_nil))) pa_nil))))) pss_nil)
    (pss_cons (ps_if (pt_cmpR (x_in K) (pv 3) (pe_lst (pa_cons pe_str (pa_cons pe_str pa_nil))) (by rfl)) 
      (pss_one (ps_ret (pe_tup (pa_cons (pv 3) (pa_cons (pe_op op_fdiv (pe_fn C_law_take hr (by rfl) pass0 (pa_cons (pv 0) (pa_cons (pe_ifExp (pt_cmpR op_eq (pv 3) pe_str (nomark _)) (pv 2) pe_int) pa_nil))) (pe_op op_add pe_int (pe_op op_mul (pe_fn C_law_take hr (by rfl) pass0 (pa_cons (pv 0) (pa_cons pe_int pa_nil))) pe_int))) pa_nil))))) pss_nil)
    (pss_one (ps_ret (pe_tup (pa_cons (pv 3) pa_nil))))))), ?_⟩
  have S0 := Stp.start D
  refine ⟨_, rfl, (by show 9 ≤ sizeLine; decide), fun L nL => ?_⟩
  refine ⟨d, wa, c, L, n, lastWords.map V.str, rfl, (S0.new nL).dr, by omega, S0.at nL, by decide, by decide, fun H1 x D1 s1 hx => ?_⟩
  obtain ⟨z, hz, rfl⟩ := List.mem_map.mp hx
  obtain ⟨w1, w2, w3, w4, w5, w6, w7⟩ := last_word z hz
  have S1 := (S0.new nL).call D1 s1
  have fin : ∀ {n' : Nat} {H5 : Hp} {p : Addr} {args : List V}, n' ≤ n + 3 → Stp d wa c H n' H5 → H5 p = none → RowOk m (.str z :: args) → (∀ ls, so.length = ls.length → RowFit (envOf so ls) (.str z :: args)) → Q (.ref p) (upd H5 p (.tup (.str z :: args))) :=
    fun hn' S5 np h1 h2 => q _ _ _ ((S5.mono hn').new np).dr (S5.new np).sub (S5.at np) h1 h2 w2
  refine ⟨_, rfl, rfl, _, rfl, ?_⟩
  rw [decS]
  by_cases c1 : z = "jump"
  · rw [decide_eq_true c1]
    subst c1
    refine ⟨_, rfl, _, rfl, _, rfl, S, _, rfl, .of (S1.get hS), fun D2 nD2 => ?_⟩
    refine lc_it walk_enum (fun i H' => Acc H1 D2 (fun i => (idxs isCode so i).map nV) i H') (Acc.start nD2 rfl) (fun i H' _ p' => .of (p'.1 _ _ (S1.get hS))) (fun i x H3 H4 hi p' y => ?_) (fun H3 p' => ?_)
    · obtain ⟨t, cc, y, rfl, nt, rfl, hc, hy⟩ := y
      cases hc
      replace hy : (so.map V.str)[i]? = some y := hy
      rw [List.getElem?_map] at hy
      obtain ⟨s0, hs0, rfl⟩ := Option.map_eq_some_iff.mp hy
      have st := idxs_step (p := isCode) hs0
      have few : ((idxs isCode so i).map nV).length < sizeLine := small10 (by
        rw [List.length_map]
        have := idxs_len isCode so i
        rw [List.length_map] at hi
        omega)
      refine ⟨t, _, rfl, .of upd_same, rfl, _, _, rfl, _, _, rfl, rfl, rfl, ?_⟩
      have s2 : Same H3 (upd H3 t (.tup [.int (i : Nat), .str s0])) := same_upd nt
      refine ⟨_, rfl, rfl, _, rfl, ?_⟩
      rw [decS]
      by_cases c2 : s0 = "code"
      · rw [decide_eq_true c2]
        exact ⟨_, rfl, Acc.put nD2 p' s2 few (by rw [st, show isCode s0 = true from decide_eq_true c2]; simp; rfl)⟩
      · rw [decide_eq_false c2]
        exact Acc.pass p' s2 (by rw [st, show isCode s0 = false from decide_eq_false c2]; simp)
    · obtain ⟨s2, h2⟩ := p'
      rw [List.length_map] at h2
      refine ⟨(by show 1 ≤ sizeLine; decide), fun D3 nD3 => ⟨D2, D3, _, _, rfl, rfl, same_upd nD3 _ _ h2, upd_same, ?_, fun D4 nD4 => ?_⟩⟩
      · have := idxs_len isCode so so.length
        simp only [List.length_map]
        exact Nat.le_of_lt (small10 (show (idxs isCode so so.length).length + 1 ≤ 1000000 by omega))
      have S3 := (S1.same s2).new (o := .lst [.str "far"]) nD3
      have lid := idxs_len isCode so so.length
      refine ⟨d, wa, c, D4, n + 1, (idxs isCode so so.length).map nV ++ [.str "far"], rfl, (S3.new nD4).dr, by omega, S3.at nD4, by simp, by simp; omega, fun H5 x D5 s5 hx => ?_⟩
      have S5 := (S3.new nD4).call D5 s5
      refine ⟨(by show 2 ≤ sizeLine; decide), fun p np => ?_⟩
      rcases List.mem_append.mp hx with hx | hx
      · obtain ⟨k, hk, rfl⟩ := List.mem_map.mp hx
        obtain ⟨s0, h3, h4⟩ := idxs_mem.mp hk
        refine fin (by omega) S5 np (RowOk.r1 w1 (w3 rfl) (partX (.inl ⟨_, rfl⟩))) fun ls hl => jump_fit rfl fun i hi => ?_
        cases hi
        have kl := lt_of_get h3
        exact ⟨k, s0, ls[k]'(by omega), rfl, env_get h3 (List.getElem?_eq_getElem _), of_decide_eq_true h4⟩
      · rw [List.mem_singleton] at hx
        subst hx
        exact fin (by omega) S5 np (RowOk.r1 w1 (w3 rfl) (partX (.inr ⟨_, rfl, far_nm⟩))) fun ls hl => jump_fit rfl fun i hi => (by cases hi)
  · rw [decide_eq_false c1]
    have pf : ∀ {args : List V} (ls : List Int), so.length = ls.length → RowFit (envOf so ls) (.str z :: args) := fun ls _ => RowFit.plain (w4 c1)
    refine ⟨_, rfl, (by show 2 ≤ sizeLine; decide), fun p1 np1 => ⟨p1, [.str "goto", .str "fail"], rfl, .inl (.of upd_same), rfl, by decide +kernel, _, rfl, ?_⟩⟩
    have S5 := S1.new (o := .lst [.str "goto", .str "fail"]) np1
    revert S5
    generalize upd H1 p1 (.lst [.str "goto", .str "fail"]) = H5
    intro S5
    show if inV (.str z) [.str "goto", .str "fail"] = true then _ else _
    cases b1 : inV (.str z) [.str "goto", .str "fail"] with
    | false =>
      exact ⟨_, rfl, (by show 1 ≤ sizeLine; decide), fun p np => fin (by omega) S5 np (RowOk.r0 w1 (w5 c1 b1)) pf⟩
    | true =>
      refine ⟨_, rfl, _, rfl, _, rfl, rfl, _, rfl, ?_⟩
      rw [decS]
      have go : ∀ (b : Nat), 0 < b → b ≤ 1000 → (∀ g : Int, 0 ≤ g → g < b → RowOk m [.str z, .int g]) → ∀ (H6 : Hp) (g : Int), Dr H6 d wa c (n + 1 + 1) → Same (hid H5 d wa) (hid H6 d wa) → 0 ≤ g → g < b → ∀ (H7 : Hp) (g2 : Int), Dr H7 d wa c (n + 1 + 1 + 1) → Same (hid H6 d wa) (hid H7 d wa) → 0 ≤ g2 → g2 < 2 →
          (0 < 1 + g2 * 64 ∧ 1 + g2 * 64 < 1073741824) ∧ ([V.str z, V.int (g / (1 + g2 * 64))].length ≤ sizeLine ∧ ∀ p, H7 p = none → Q (.ref p) (upd H7 p (.tup [.str z, .int (g / (1 + g2 * 64))]))) := fun b b0 b1 rk H6 g D6 s6 g0 g1 H7 g2 D7 s7 e0 e1 => by
        refine ⟨⟨by omega, by omega⟩, (by show 2 ≤ sizeLine; decide), fun p np => fin (by omega) ((S5.call D6 s6).call D7 s7) np (rk _ ?_ ?_) pf⟩
        · exact Int.ediv_nonneg g0 (by omega)
        · exact Int.lt_of_le_of_lt (Int.ediv_le_self _ g0) g1
      by_cases c2 : z = "goto"
      · rw [decide_eq_true c2]
        refine ⟨_, rfl, d, wa, c, n + 1, m, rfl, S5.dr, by omega, by omega, by omega, fun H6 g D6 s6 g0 g1 => ?_⟩
        refine ⟨_, rfl, d, wa, c, n + 1 + 1, 2, rfl, D6, by omega, by decide, by decide, fun H7 g2 D7 s7 e0 e1 => ⟨_, _, rfl, rfl, .inr ⟨by decide, by decide⟩, _, _, rfl, rfl, _, _, rfl, rfl, ?_⟩⟩
        exact go m m0 m1 (fun g h0 h1 => RowOk.r1 w1 (w6 c2) (partN h0 h1)) H6 g D6 s6 g0 g1 H7 g2 D7 s7 e0 e1
      · rw [decide_eq_false c2]
        refine ⟨d, wa, c, n + 1, 63, rfl, S5.dr, by omega, by decide, by decide, fun H6 g D6 s6 g0 g1 => ?_⟩
        refine ⟨_, rfl, d, wa, c, n + 1 + 1, 2, rfl, D6, by omega, by decide, by decide, fun H7 g2 D7 s7 e0 e1 => ⟨_, _, rfl, rfl, .inr ⟨by decide, by decide⟩, _, _, rfl, rfl, _, _, rfl, rfl, ?_⟩⟩
        exact go 63 (by decide) (by decide) (fun g h0 h1 => RowOk.r1 w1 (w7 b1 c2) (partF h0 h1)) H6 g D6 s6 g0 g1 H7 g2 D7 s7 e0 e1
end
end K41
set_option maxHeartbeats 4000000
namespace K41
open PySem PySem.Spec PyProof.Rows L2
def ledWords : List Str := ["call", "call", "call", "call", "call", "call", "call", "try", "try", "jump", "take", "load", "load", "load", "item", "store", "fill", "pick", "pick"]
def askDK (l1 l2 l3 : Addr) : List (Key × V) := [(.inr "load", .ref l1), (.inr "store", .ref l2), (.inr "pick", .ref l3), (.inr "item", .ref l1), (.inr "fill", .ref l2)]
def lst1 : List V := [.str "const", .str "data", .str "room"]
def lst2 : List V := [.str "data", .str "room"]
def lst3 : List V := [.str "table"]
def lst0 : List V := [.str "code"]
/-- the list that the dict holds for the word -/
def ledList (z : Str) : List V := if z = "load" ∨ z = "item" then lst1 else if z = "store" ∨ z = "fill" then lst2 else if z = "pick" then lst3 else lst0
def ledRef (l0 l1 l2 l3 : Addr) (z : Str) : Addr := if z = "load" ∨ z = "item" then l1 else if z = "store" ∨ z = "fill" then l2 else if z = "pick" then l3 else l0
theorem led_get (l0 l1 l2 l3 : Addr) : ∀ z ∈ ledWords, (valV (askDK l1 l2 l3) (.inr z)).getD (.ref l0) = .ref (ledRef l0 l1 l2 l3 z) := by
  intro z hz
  simp only [ledWords, List.mem_cons, List.not_mem_nil, or_false] at hz
  rcases hz with rfl | rfl | rfl | rfl | rfl | rfl | rfl | rfl | rfl | rfl | rfl | rfl | rfl | rfl | rfl | rfl | rfl | rfl | rfl <;> rfl
theorem in_lst1 (s : Str) : inV (.str s) lst1 = inV (.str s) readL := by
  show (eqV (.str "const") (.str s) || (eqV (.str "data") (.str s) || (eqV (.str "room") (.str s) || false))) = (eqV (.str "data") (.str s) || (eqV (.str "room") (.str s) || (eqV (.str "const") (.str s) || false)))
  cases eqV (.str "const") (.str s) <;> cases eqV (.str "data") (.str s) <;> cases eqV (.str "room") (.str s) <;> rfl
theorem led_asked (z s : Str) (h : inV (.str s) (ledList z) = true) : inV (.str s) ((askedL z).getD [.str "code"]) = true := by
  unfold ledList at h
  unfold askedL
  by_cases c1 : z = "load" ∨ z = "item"
  · rw [if_pos c1] at h ⊢
    rw [in_lst1] at h
    exact h
  · rw [if_neg c1] at h ⊢
    by_cases c2 : z = "store" ∨ z = "fill"
    · rw [if_pos c2] at h ⊢
      exact h
    · rw [if_neg c2] at h ⊢
      by_cases c3 : z = "pick"
      · rw [if_pos c3] at h ⊢
        exact h
      · rw [if_neg c3] at h ⊢
        exact h
def lw1 : List V := [.str "call", .str "jump"]
def lw2 : List V := [.str "load", .str "store"]
set_option synthInstance.maxSize 4000 in
set_option synthInstance.maxHeartbeats 2000000 in
theorem led_word : ∀ z ∈ ledWords, z ∈ words ∧ z ∈ askWords ∧ (inV (.str z) lw1 = true → formOf z = some ⟨[120].toArray⟩ ∧ placeOf z = some 1 ∧ isLS z = false) ∧ (z = "try" → formOf z = some ⟨[120, 110].toArray⟩ ∧ placeOf z = some 1 ∧ isLS z = false) ∧
    (z = "take" → formOf z = some ⟨[112, 120].toArray⟩ ∧ placeOf z = some 2 ∧ isLS z = false) := by decide +kernel
set_option synthInstance.maxSize 4000 in
set_option synthInstance.maxHeartbeats 2000000 in
theorem led_word2 : ∀ z ∈ ledWords, (inV (.str z) lw2 = true → formOf z = some ⟨[114, 120, 99].toArray⟩ ∧ placeOf z = some 2) ∧
    (inV (.str z) lw1 = false → z ≠ "try" → z ≠ "take" → inV (.str z) lw2 = false → placeOf z = some 2 ∧ isLS z = false ∧ (z = "pick" → formOf z = some ⟨[112, 120, 114].toArray⟩) ∧ (z ≠ "pick" → formOf z = some ⟨[114, 120, 114].toArray⟩)) := by decide +kernel
section
variable {P : Program} {w : World} {K : PySem.W.Frag} {mg : Str → Option Value} {base : Heap} {f : Addr} {fd : FuncData}
def spLed : Sp := fun args H Q _ => ∃ (d wa c S L : Addr) (n m : Nat) (so : List Str) (ls : List Int), args = [.ref d, .ref S, .ref L, .int m] ∧ Dr H d wa c n ∧ n + 6 ≤ 1000000 ∧ 0 < m ∧ m ≤ 1000 ∧ EnvAt (hid H d wa) S L so ls ∧
  ∀ H' q r, Dr H' d wa c (n + 6) → Same (hid H d wa) (hid H' d wa) → hid H' d wa q = some (.tup r) → RowOk m r → RowFit (envOf so ls) r → Q (.ref q) H'
theorem sc_law_led_row : FnScope ["_law_draw", "_law_sorts", "_law_lengths_here", "_law_many", "_law_word", "_law_asked", "_law_some", "_law_lead", "_law_r", "_law_k", "_law_sort"] ["_law_draw", "_law_sorts", "_law_lengths_here", "_law_many"] (defScope (top 57)) := ⟨rfl, rfl, rfl, by decide +kernel, rfl, by decide +kernel, by decide +kernel⟩
theorem ok_law_led_row (F : FnP K "_law_led_row" 57 f fd) (T : Txt w K mg) (C_law_take : Cal P w K mg base CX0 2 "_law_take" spTake) (C_law_pick : Cal P w K mg base CX0 3 "_law_pick" spPick) (C_law_plain_row : Cal P w K mg base CX0 4 "_law_plain_row" spPlain) :
    FnOk P w K mg base CX0 5 f fd ["_law_draw", "_law_sorts", "_law_lengths_here", "_law_many"] spLed := by
  refine F.ok sc_law_led_row (fun vs H Q E h => by obtain ⟨a, r, c, _, _, _, _, _, _, rfl, _⟩ := h; rfl) (fun cdv A outer s H vs Q E hr h => ?_)
  have nd := sc_law_led_row.nd
  have hu := hu_of hr
  have hu0 := hu0_of hr
  obtain ⟨d, wa, c, S, L, n, m, so, ls, rfl, D, hn, m0, m1, eA, q⟩ := h
  refine ⟨_, PSs.nox 
    (pss_cons (ps_set (i := 4) nd rfl (Or.inr rfl) (pe_fn C_law_pick hr (by rfl) pass0 (pa_cons (pv 0) (pa_cons (pe_op op_cat (pe_op op_rep (pe_lst (pa_cons pe_str pa_nil)) pe_int) (pe_lst (pa_cons pe_str (pa_cons pe_str (pa_cons pe_str (pa_cons pe_str (pa_cons pe_str (pa_cons pe_str (pa_cons pe_str (pa_cons pe_str (pa_cons pe_str (pa_cons pe_str (pa_cons pe_str (pa_cons pe_str pa_nil)))))))))))))) pa_nil))))
    (pss_cons (ps_set (i := 5) nd rfl (Or.inr rfl) (pe_disp (pps_cons pe_str (pe_lst (pa_cons pe_str (pa_cons pe_str (pa_cons pe_str pa_nil)))) (pps_cons pe_str (pe_lst (pa_cons pe_str (pa_cons pe_str pa_nil))) (pps_cons pe_str (pe_lst (pa_cons pe_str pa_nil)) pps_nil))) (by rfl) (by rfl) (fun z => by cases z) (by decide)))
    (pss_cons (ps_asg (pe_tup (pa_cons (pe_dget hu (pv 5) pe_str (fun _ _ => rfl)) (pa_cons (pe_dget hu (pv 5) pe_str (fun _ _ => rfl)) pa_nil))) (pg_tup rfl (pgs_cons (pg_sub (pv 5) pe_str (set_dict hu)) (pgs_cons (pg_sub (pv 5) pe_str (set_dict hu)) pgs_nil))))
    (pss_cons (ps_setLc (own := [("_law_k", 9), ("_law_sort", 10)]) (g := gTup K 2 (gCons (gName 9) (gCons (gName 10) gNil))) (i := 6) rfl nd rfl rfl (sw_true rfl rfl rfl (by decide +kernel)) (pi_enum (by rfl) T.b_enumerate (pa_cons (pv 1) pa_nil)) (blkOk_by (own := [("_law_k", 9), ("_law_sort", 10)]) (N := ["_law_draw", "_law_sorts", "_law_lengths_here", "_law_many", "_law_word", "_law_asked", "_law_some", "_law_lead", "_law_r", "_law_k", "_law_sort"]) (sc := defScope (top 57)) (by decide +kernel)) (fun _ _ _ _ _ => (pg_tup rfl (pgs_cons (pg_name (i := 9) nd rfl (Or.inl rfl)) (pgs_cons (pg_name (i := 10) nd rfl (Or.inl rfl)) pgs_nil)))) (fun _ _ _ _ _ => (pts_one (pt_cmpR (x_in K) (pv 10) (pe_dget2 hu (pv 5) (pv 4) (pe_lst (pa_cons pe_str pa_nil)) ⟨by rfl, by rfl, by rfl, by rfl⟩) (by rfl)))) (fun _ _ _ _ _ => (pv 9)))
    (pss_cons (ps_if (pt_cmpR (x_eqNil K hu0) (pv 6) (pe_lst pa_nil) (nomark _)) 
      (pss_one (ps_ret (pe_fn C_law_plain_row hr (by rfl) pass0 (pa_cons (pv 0) (pa_cons (pv 3) pa_nil))))) pss_nil)
    (C8.pss_cut (ps_set (i := 7) nd rfl (Or.inl rfl) (pe_ifExp (pt_cmpR op_gt (pe_fn C_law_take hr (by rfl) pass0 (pa_cons (pv 0) (pa_cons pe_int pa_nil))) pe_int (nomark _)) (pe_fn C_law_pick hr (by rfl) pass0 (pa_cons (pv 0) (pa_cons (pv 6) pa_nil))) (pe_fn C_law_pick hr (by rfl) pass0 (pa_cons (pv 0) (pa_cons (pe_lst (pa_cons pe_str (pa_cons pe_str pa_nil))) pa_nil)))))
    (pss_cons (ps_set (i := 8) nd rfl (Or.inl rfl) (pe_fn C_law_take hr (by rfl) pass0 (pa_cons (pv 0) (pa_cons pe_int pa_nil))))
    (pss_cons (ps_if (pt_cmpR (x_in K) (pv 4) (pe_lst (pa_cons pe_str (pa_cons pe_str pa_nil))) (by rfl)) 
      (pss_one (ps_ret (pe_tup (pa_cons (pv 4) (pa_cons (pv 7) pa_nil))))) pss_nil)
    (pss_cons (ps_if (pt_cmpR op_eq (pv 4) pe_str (nomark _)) 
      (pss_one (ps_ret (pe_tup (pa_cons (pv 4) (pa_cons (pv 7) (pa_cons (pe_fn C_law_take hr (by rfl) pass0 (pa_cons (pv 0) (pa_cons (pv 3) pa_nil))) pa_nil)))))) pss_nil)
    (pss_cons (ps_if (pt_cmpR op_eq (pv 4) pe_str (nomark _)) 
      (pss_one (ps_ret (pe_tup (pa_cons (pv 4) (pa_cons (pe_op op_fdiv (pv 8) pe_int) (pa_cons (pv 7) pa_nil)))))) pss_nil)
    (pss_cons (ps_if (pt_cmpR (x_in K) (pv 4) (pe_lst (pa_cons pe_str (pa_cons pe_str pa_nil))) (by rfl)) 
      (pss_one (ps_ret (pe_tup (pa_cons (pv 4) (pa_cons (pv 8) (pa_cons (pv 7) (pa_cons (pe_fn C_law_take hr (by rfl) pass0 (pa_cons (pv 0) (pa_cons (pe_ifExp (pt_val (pe_callB (x_isi K) (by rfl) T.b_isinstance (by decide +kernel) (pa_cons (pv 7) (pa_cons (pe_bltn (v := .ty "str") (by rfl) T.b_str (by decide +kernel) rfl) pa_nil)))) pe_int (pe_ix (x_lst K) (pv 2) (pv 7) (fun _ _ => rfl))) pa_nil))) pa_nil))))))) pss_nil)
    (pss_one (ps_ret (pe_tup (pa_cons (pv 4) (pa_cons (pe_ifExp (pt_cmpR op_eq (pv 4) pe_str (nomark _)) (pe_op op_fdiv (pv 8) pe_int) (pv 8)) (pa_cons (pv 7) (pa_cons (pe_fn C_law_take hr (by rfl) pass0 (pa_cons (pv 0) (pa_cons pe_int pa_nil))) pa_nil)))))))))))))))))), ?_⟩
  have S0 := Stp.start D
  refine ⟨_, rfl, (by show 1 ≤ sizeLine; decide), fun a1 na1 => ?_⟩
  have S01 := S0.new (o := .lst [.str "call"]) na1
  refine ⟨a1, 7, _, rfl, rfl, upd_same, by decide, by decide, (by show 1 * 7 ≤ sizeLine; decide), fun a2 na2 => ?_⟩
  have S02 := S01.new (o := .lst (List.replicate (7 : Int).toNat [V.str "call"]).flatten) na2
  refine ⟨(by show 12 ≤ sizeLine; decide), fun a3 na3 => ?_⟩
  have S03 := S02.new (o := .lst [.str "try", .str "try", .str "jump", .str "take", .str "load", .str "load", .str "load", .str "item", .str "store", .str "fill", .str "pick", .str "pick"]) na3
  refine ⟨a2, a3, _, _, rfl, rfl, same_upd na3 _ _ upd_same, upd_same, (by show 19 ≤ sizeLine; decide), fun a4 na4 => ?_⟩
  refine ⟨d, wa, c, a4, n, ledWords.map V.str, rfl, (S03.new na4).dr, by omega, S03.at na4, by decide, by decide, fun H1 x D1 s1 hx => ?_⟩
  obtain ⟨z, hz, rfl⟩ := List.mem_map.mp hx
  obtain ⟨w1, w2, w3, w4, w5⟩ := led_word z hz
  obtain ⟨w6, w7⟩ := led_word2 z hz
  have S1 := (S03.new na4).call D1 s1
  -- the dict
  refine fun AD nAD => ?_
  have T0 := S1.new (o := .dK []) nAD
  have fAD := S1.frs nAD
  have hAD : hid H d wa AD = none := S1.none nAD
  refine ⟨(by show 3 ≤ sizeLine; decide), fun l1 nl1 => ⟨(by show 2 ≤ sizeLine; decide), fun l2 nl2 => ⟨(by show 1 ≤ sizeLine; decide), fun l3 nl3 => ?_⟩⟩⟩
  have T1 := T0.new (o := .lst [.str "const", .str "data", .str "room"]) nl1
  have T2 := T1.new (o := .lst [.str "data", .str "room"]) nl2
  have T3 := T2.new (o := .lst [.str "table"]) nl3
  have k1 : Same (upd H1 AD (.dK [])) (upd (upd (upd (upd H1 AD (.dK [])) l1 (.lst [.str "const", .str "data", .str "room"])) l2 (.lst [.str "data", .str "room"])) l3 (.lst [.str "table"])) := (same_upd nl1).trans ((same_upd nl2).trans (same_upd nl3))
  have g1 := (same_upd (o := .lst [.str "data", .str "room"]) nl2).trans (same_upd (o := .lst [.str "table"]) nl3) _ _ (upd_same (H := upd H1 AD (.dK [])) (a := l1) (o := .lst [.str "const", .str "data", .str "room"]))
  have g2 := same_upd (o := .lst [.str "table"]) nl3 _ _ (upd_same (H := upd (upd H1 AD (.dK [])) l1 (.lst [.str "const", .str "data", .str "room"])) (a := l2) (o := .lst [.str "data", .str "room"]))
  have g3 := upd_same (H := upd (upd (upd H1 AD (.dK [])) l1 (.lst [.str "const", .str "data", .str "room"])) l2 (.lst [.str "data", .str "room"])) (a := l3) (o := .lst [.str "table"])
  have gA := k1 _ _ (upd_same (H := H1) (a := AD) (o := .dK []))
  refine ⟨gA, [(.inr "load", .ref l1), (.inr "store", .ref l2), (.inr "pick", .ref l3)], rfl, (by show 3 ≤ 15; decide), ?_⟩
  have T4 := T3.put (o := .dK (mergeK [] [(.inr "load", .ref l1), (.inr "store", .ref l2), (.inr "pick", .ref l3)])) fAD hAD
  have n1 : l1 ≠ AD := (ne_of_none (upd_same (H := H1) (a := AD) (o := .dK [])) nl1).symm
  have n2 : l2 ≠ AD := (ne_of_none (same_upd nl1 _ _ (upd_same (H := H1) (a := AD) (o := .dK []))) nl2).symm
  have n3 : l3 ≠ AD := (ne_of_none (same_upd nl2 _ _ (same_upd nl1 _ _ (upd_same (H := H1) (a := AD) (o := .dK [])))) nl3).symm
  revert T3 T4 g1 g2 g3 gA
  generalize upd (upd (upd (upd H1 AD (.dK [])) l1 (.lst [.str "const", .str "data", .str "room"])) l2 (.lst [.str "data", .str "room"])) l3 (.lst [.str "table"]) = H5
  intro T3 g1 g2 g3 gA T4
  refine ⟨_, rfl, AD, .ref l1, rfl, DGet.k (k := .inr "load") upd_same, _, rfl, AD, .ref l2, rfl, DGet.k (k := .inr "store") upd_same, (by show 2 ≤ sizeLine; decide), fun tp ntp => ?_⟩
  have ntA : AD ≠ tp := ne_of_none upd_same ntp
  refine ⟨tp, _, rfl, .of upd_same, rfl, _, _, rfl, _, rfl, AD, _, rfl, DPut.k (k := .inr "item") (by rw [upd_ne ntA]; exact upd_same) (by show 3 < sizeLine; decide), _, _, rfl, _, rfl, AD, _, rfl, DPut.k (k := .inr "fill") upd_same (by show 4 < sizeLine; decide), rfl, ?_⟩
  have ap : ∀ b o, b ≠ AD → H5 b = some o → (upd (upd (upd (upd H5 AD (.dK (mergeK [] [(.inr "load", .ref l1), (.inr "store", .ref l2), (.inr "pick", .ref l3)]))) tp (.tup [.ref l1, .ref l2])) AD (.dK (putK (mergeK [] [(.inr "load", .ref l1), (.inr "store", .ref l2), (.inr "pick", .ref l3)]) (.inr "item") (.ref l1)))) AD (.dK (putK (putK (mergeK [] [(.inr "load", .ref l1), (.inr "store", .ref l2), (.inr "pick", .ref l3)]) (.inr "item") (.ref l1)) (.inr "fill") (.ref l2)))) b = some o := fun b o nb hb => by
    rw [upd_ne nb, upd_ne nb]
    exact same_upd ntp _ _ (by rw [upd_ne nb]; exact hb)
  have TF := ((T4.new (o := .tup [.ref l1, .ref l2]) ntp).put (o := .dK (putK (mergeK [] [(.inr "load", .ref l1), (.inr "store", .ref l2), (.inr "pick", .ref l3)]) (.inr "item") (.ref l1))) fAD hAD).put (o := .dK (putK (putK (mergeK [] [(.inr "load", .ref l1), (.inr "store", .ref l2), (.inr "pick", .ref l3)]) (.inr "item") (.ref l1)) (.inr "fill") (.ref l2))) fAD hAD
  have hF : (upd (upd (upd (upd H5 AD (.dK (mergeK [] [(.inr "load", .ref l1), (.inr "store", .ref l2), (.inr "pick", .ref l3)]))) tp (.tup [.ref l1, .ref l2])) AD (.dK (putK (mergeK [] [(.inr "load", .ref l1), (.inr "store", .ref l2), (.inr "pick", .ref l3)]) (.inr "item") (.ref l1)))) AD (.dK (putK (putK (mergeK [] [(.inr "load", .ref l1), (.inr "store", .ref l2), (.inr "pick", .ref l3)]) (.inr "item") (.ref l1)) (.inr "fill") (.ref l2)))) AD = some (.dK (askDK l1 l2 l3)) := upd_same
  replace g1 := ap _ _ n1 g1
  replace g2 := ap _ _ n2 g2
  replace g3 := ap _ _ n3 g3
  revert g1 g2 g3 hF TF
  clear ap
  generalize upd (upd (upd (upd H5 AD (.dK (mergeK [] [(.inr "load", .ref l1), (.inr "store", .ref l2), (.inr "pick", .ref l3)]))) tp (.tup [.ref l1, .ref l2])) AD (.dK (putK (mergeK [] [(.inr "load", .ref l1), (.inr "store", .ref l2), (.inr "pick", .ref l3)]) (.inr "item") (.ref l1)))) AD (.dK (putK (putK (mergeK [] [(.inr "load", .ref l1), (.inr "store", .ref l2), (.inr "pick", .ref l3)]) (.inr "item") (.ref l1)) (.inr "fill") (.ref l2))) = H6
  intro TF hF g1 g2 g3
  -- what the word may lead to
  let fit : Str → Bool := fun s => inV (.str s) (ledList z)
  refine ⟨_, rfl, S, _, rfl, .of (TF.get eA.atS), fun D2 nD2 => ?_⟩
  refine lc_it walk_enum (fun i H' => Acc H6 D2 (fun i => (idxs fit so i).map nV) i H') (Acc.start nD2 rfl) (fun i H' _ p' => .of (p'.1 _ _ (TF.get eA.atS))) (fun i x H3 H4 hi p' y => ?_) (fun H7 p' => ?_)
  · obtain ⟨t, cc, y, rfl, nt, rfl, hc, hy⟩ := y
    cases hc
    replace hy : (so.map V.str)[i]? = some y := hy
    rw [List.getElem?_map] at hy
    obtain ⟨s0, hs0, rfl⟩ := Option.map_eq_some_iff.mp hy
    have st := idxs_step (p := fit) hs0
    have few : ((idxs fit so i).map nV).length < sizeLine := small10 (by
      rw [List.length_map]
      have := idxs_len fit so i
      have := eA.few
      rw [List.length_map] at hi
      omega)
    have s2 : Same H3 (upd H3 t (.tup [.int (i : Nat), .str s0])) := same_upd nt
    refine ⟨t, _, rfl, .of upd_same, rfl, _, _, rfl, _, _, rfl, rfl, rfl, ?_⟩
    have s3 := p'.1.trans s2
    refine ⟨_, rfl, _, rfl, AD, rfl, .inl ⟨_, .inl (s3 _ _ hF)⟩, _, rfl, (by show 1 ≤ sizeLine; decide), fun l0 nl0 => ⟨_, DGet.k (k := .inr z) (same_upd nl0 _ _ (s3 _ _ hF)), ?_⟩⟩
    rw [led_get l0 l1 l2 l3 z hz]
    have s4 : Same (upd H3 t (.tup [.int (i : Nat), .str s0])) (upd (upd H3 t (.tup [.int (i : Nat), .str s0])) l0 (.lst [.str "code"])) := same_upd nl0
    have at' : (upd (upd H3 t (.tup [.int (i : Nat), .str s0])) l0 (.lst [.str "code"])) (ledRef l0 l1 l2 l3 z) = some (.lst (ledList z)) := by
      unfold ledRef ledList
      by_cases c1 : z = "load" ∨ z = "item"
      · rw [if_pos c1, if_pos c1]; exact s4 _ _ (s3 _ _ g1)
      · rw [if_neg c1, if_neg c1]
        by_cases c2 : z = "store" ∨ z = "fill"
        · rw [if_pos c2, if_pos c2]; exact s4 _ _ (s3 _ _ g2)
        · rw [if_neg c2, if_neg c2]
          by_cases c3 : z = "pick"
          · rw [if_pos c3, if_pos c3]; exact s4 _ _ (s3 _ _ g3)
          · rw [if_neg c3, if_neg c3]; exact upd_same
    have fl : (ledList z).all flatV = true := by
      unfold ledList
      split
      · decide
      · split
        · decide
        · split <;> decide
    refine ⟨_, _, rfl, .inl (.of at'), rfl, fl, _, rfl, ?_⟩
    show if inV (.str s0) (ledList z) = true then _ else _
    have ef : fit s0 = inV (.str s0) (ledList z) := rfl
    rw [← ef]
    cases c2 : fit s0 with
    | true => exact ⟨_, rfl, Acc.put nD2 p' (s2.trans s4) few (by rw [st, c2]; simp; rfl)⟩
    | false => exact Acc.pass p' (s2.trans s4) (by rw [st, c2]; simp)
  · obtain ⟨s7, h7⟩ := p'
    simp only [List.length_map] at h7
    have S7 := TF.same s7
    have l7 := idxs_len fit so so.length
    have lso := eA.few
    have h7h : hid H7 d wa D2 = some (.lst ((idxs fit so so.length).map nV)) := by
      have f2 := TF.frs nD2
      rw [hid_frs f2]
      exact h7
    refine ⟨_, rfl, Nat.zero_le _, fun em nem => ⟨D2, em, (idxs fit so so.length).map nV, rfl, rfl, .of (same_upd nem _ _ h7), .of upd_same, _, rfl, ?_⟩⟩
    have S8 := S7.new (o := .lst []) nem
    have h8 : hid (upd H7 em (.lst [])) d wa D2 = some (.lst ((idxs fit so so.length).map nV)) := hid_same (same_upd nem) _ _ h7h
    revert S8 h8
    generalize upd H7 em (.lst []) = H8
    intro S8 h8
    by_cases c0 : idxs fit so so.length = []
    · rw [c0]
      refine ⟨_, rfl, _, rfl, d, wa, c, n + 1, m, rfl, S8.dr, by omega, m0, m1, fun H9 q9 r9 D9 s9 h9 k1 k2 => q H9 q9 r9 D9 (S8.call D9 s9).sub h9 k1 (k2 _)⟩
    · have ne0 : ((idxs fit so so.length).map nV).isEmpty = false := by
        cases hq : idxs fit so so.length with
        | nil => exact absurd hq c0
        | cons a b => rfl
      rw [ne0]
      refine ⟨fun σ' H' => ∃ x : V, σ' = [some (.ref d), some (.ref S), some (.ref L), some (.int (m : Nat)), some (.str z), some (.ref AD), some (.ref D2), some x, none, none, none] ∧ Stp d wa c H (n + 1 + 1 + 1) H' ∧
        ((∃ k, x = nV k ∧ k ∈ idxs fit so so.length) ∨ ∃ zn, x = .str zn ∧ isNm zn = true), ?_, fun σ' H10 p => ?_⟩
      · refine ⟨_, rfl, d, wa, c, n + 1, 16, rfl, S8.dr, by omega, by decide, by decide, fun H9 g D9 s9 g0 g1' => ⟨_, _, rfl, rfl, _, rfl, ?_⟩⟩
        have S9 := S8.call D9 s9
        have h9 := s9 _ _ h8
        by_cases cg : 0 < g
        · rw [decide_eq_true cg]
          refine ⟨_, rfl, _, rfl, d, wa, c, D2, n + 1 + 1, (idxs fit so so.length).map nV, rfl, S9.dr, by omega, h9, by simpa using c0, by rw [List.length_map]; omega, fun H10 x D10 s10 hx => ?_⟩
          obtain ⟨k, hk, rfl⟩ := List.mem_map.mp hx
          exact ⟨_, rfl, S9.call D10 s10, .inl ⟨k, rfl, hk⟩⟩
        · rw [decide_eq_false cg]
          refine ⟨_, rfl, (by show 2 ≤ sizeLine; decide), fun fp nfp => ?_⟩
          refine ⟨d, wa, c, fp, n + 1 + 1, [.str "far", .str "farther"], rfl, (S9.new nfp).dr, by omega, S9.at nfp, by decide, by decide, fun H10 x D10 s10 hx => ?_⟩
          refine ⟨_, rfl, (S9.new nfp).call D10 s10, .inr ?_⟩
          rcases List.mem_cons.mp hx with rfl | hx
          · exact ⟨_, rfl, far_nm⟩
          · rw [List.mem_singleton] at hx
            exact ⟨_, hx, farther_nm⟩
      · obtain ⟨x, rfl, S10, hx⟩ := p
        have px : plain x = true := by rcases hx with ⟨k, rfl, _⟩ | ⟨zn, rfl, _⟩ <;> rfl
        have xx : PartOk m 120 x := partX (hx.imp (fun ⟨k, e, _⟩ => ⟨_, e⟩) (fun h => h))
        -- what a lead must fit
        have fits : ∀ (third : V), (isLS z = true → ∀ k s0 l0, x = nV k → so[k]? = some s0 → ls[k]? = some l0 → ∃ g, third = .int g ∧ g < l0) → FitsE (envOf so ls) (x, z, third) := fun third h3 => by
          refine ⟨w2, px, fun i hi => ?_⟩
          rcases hx with ⟨k, rfl, hk⟩ | ⟨zn, rfl, _⟩
          · cases hi
            obtain ⟨s0, h1, h2⟩ := idxs_mem.mp hk
            have kl := lt_of_get h1
            have hl := eA.len
            have h4 : ls[k]? = some (ls[k]'(by omega)) := List.getElem?_eq_getElem _
            exact ⟨k, s0, _, rfl, env_get h1 h4, led_asked z s0 h2, fun h => h3 h k s0 _ rfl h1 h4⟩
          · cases hi
        have fin : ∀ {n' : Nat} {H5 : Hp} {p : Addr} {args : List V} (third : V), n' ≤ n + 6 → Stp d wa c H n' H5 → H5 p = none → RowOk m (.str z :: args) → askRow (.str z :: args) = some (x, z, third) →
            (isLS z = true → ∀ k s0 l0, x = nV k → so[k]? = some s0 → ls[k]? = some l0 → ∃ g, third = .int g ∧ g < l0) → Q (.ref p) (upd H5 p (.tup (.str z :: args))) :=
          fun third hn' S5 np h1 h2 h3 => q _ _ _ ((S5.mono hn').new np).dr (S5.new np).sub (S5.at np) h1 fun a ha => by rw [h2] at ha; cases ha; exact fits third h3
        refine ⟨_, rfl, d, wa, c, n + 1 + 1 + 1, 4, rfl, S10.dr, by omega, by decide, by decide, fun H11 r D11 s11 r0 r1 => ?_⟩
        have S11 := S10.call D11 s11
        refine ⟨_, rfl, (by show 2 ≤ sizeLine; decide), fun p1 np1 => ⟨p1, lw1, rfl, .inl (.of upd_same), rfl, by decide +kernel, _, rfl, ?_⟩⟩
        have S12 := S11.new (o := .lst [.str "call", .str "jump"]) np1
        revert S12
        generalize upd H11 p1 (.lst [.str "call", .str "jump"]) = H12
        intro S12
        show if inV (.str z) lw1 = true then _ else _
        cases b1 : inV (.str z) lw1 with
        | true =>
          obtain ⟨v1, v2, v3⟩ := w3 b1
          refine ⟨_, rfl, _, rfl, (by show 2 ≤ sizeLine; decide), fun p np => fin (.int 0) (by omega) S12 np (RowOk.r1 w1 v1 xx) ?_ fun h => absurd h (by rw [v3]; exact Bool.false_ne_true)⟩
          simp [askRow, strV, wordV, v2, v3]
        | false =>
          refine ⟨_, rfl, rfl, _, rfl, ?_⟩
          rw [decS]
          by_cases c1 : z = "try"
          · rw [decide_eq_true c1]
            obtain ⟨v1, v2, v3⟩ := w4 c1
            refine ⟨_, rfl, _, rfl, _, rfl, _, rfl, d, wa, c, n + 1 + 1 + 1 + 1, m, rfl, S12.dr, by omega, by omega, by omega, fun H13 g D13 s13 g0 g1' => ?_⟩
            refine ⟨(by show 3 ≤ sizeLine; decide), fun p np => fin (.int 0) (by omega) (S12.call D13 s13) np (RowOk.r2 w1 v1 xx (partN g0 g1')) ?_ fun h => absurd h (by rw [v3]; exact Bool.false_ne_true)⟩
            simp [askRow, strV, wordV, v2, v3]
          · rw [decide_eq_false c1]
            refine ⟨_, rfl, rfl, _, rfl, ?_⟩
            rw [decS]
            by_cases c2 : z = "take"
            · rw [decide_eq_true c2]
              obtain ⟨v1, v2, v3⟩ := w5 c2
              refine ⟨_, rfl, _, rfl, _, _, rfl, rfl, ⟨by decide, by decide⟩, _, rfl, (by show 3 ≤ sizeLine; decide), fun p np => fin (.int 0) (by omega) S12 np (RowOk.r2 w1 v1 (partP (by omega) (by omega)) xx) ?_ fun h => absurd h (by rw [v3]; exact Bool.false_ne_true)⟩
              simp [askRow, strV, wordV, v2, v3]
            · rw [decide_eq_false c2]
              refine ⟨_, rfl, (by show 2 ≤ sizeLine; decide), fun p2 np2 => ⟨p2, lw2, rfl, .inl (.of upd_same), rfl, by decide +kernel, _, rfl, ?_⟩⟩
              have S13 := S12.new (o := .lst [.str "load", .str "store"]) np2
              revert S13
              generalize upd H12 p2 (.lst [.str "load", .str "store"]) = H13
              intro S13
              show if inV (.str z) lw2 = true then _ else _
              cases b2 : inV (.str z) lw2 with
              | true =>
                obtain ⟨v1, v2⟩ := w6 b2
                have hls : isLS z = true := by rw [← isLS_in]; exact b2
                rcases hx with ⟨k, rfl, hk⟩ | ⟨zn, rfl, hzn⟩
                · obtain ⟨s0, h1, h2⟩ := idxs_mem.mp hk
                  have kl := lt_of_get h1
                  have hl := eA.len
                  have h4 : ls[k]? = some (ls[k]'(by omega)) := List.getElem?_eq_getElem _
                  obtain ⟨l0, l1'⟩ := eA.pos _ (List.mem_of_getElem? h4)
                  have h5 : (ls.map V.int)[k]? = some (.int (ls[k]'(by omega))) := by rw [List.getElem?_map, h4]; rfl
                  refine ⟨_, rfl, _, rfl, _, rfl, _, rfl, _, rfl, _, _, _, _, false, rfl, .ty _, tyI _, kit_ty (by decide +kernel), _, rfl, ?_⟩
                  refine ⟨_, rfl, _, rfl, L, _, k, _, rfl, rfl, .of (S13.get eA.atL), atI_n h5, d, wa, c, n + 1 + 1 + 1 + 1, _, rfl, S13.dr, by omega, l0, by omega, fun H14 g D14 s14 g0 g1' => ?_⟩
                  refine ⟨(by show 4 ≤ sizeLine; decide), fun p np => fin (.int g) (by omega) (S13.call D14 s14) np (RowOk.r3 w1 v1 (partR r0 r1) xx (partC g0 (by omega))) ?_ fun _ k' s' l' e1 e2 e3 => ⟨g, rfl, ?_⟩⟩
                  · simp [askRow, strV, wordV, v2, hls]
                  · have : k' = k := by have := V.int.inj e1; omega
                    subst this
                    rw [h4] at e3
                    cases e3
                    exact g1'
                · refine ⟨_, rfl, _, rfl, _, rfl, _, rfl, _, rfl, _, _, _, _, true, rfl, .ty _, tyS _, kit_ty (by decide +kernel), _, rfl, ?_⟩
                  refine ⟨d, wa, c, n + 1 + 1 + 1 + 1, 3, rfl, S13.dr, by omega, by decide, by decide, fun H14 g D14 s14 g0 g1' => ?_⟩
                  refine ⟨(by show 4 ≤ sizeLine; decide), fun p np => fin (.int g) (by omega) (S13.call D14 s14) np (RowOk.r3 w1 v1 (partR r0 r1) xx (partC g0 (by omega))) ?_ fun _ k' s' l' e1 e2 e3 => (by cases e1)⟩
                  simp [askRow, strV, wordV, v2, hls]
              | false =>
                obtain ⟨v2, v3, v4, v5⟩ := w7 b1 c1 c2 b2
                refine ⟨_, rfl, _, rfl, rfl, _, rfl, ?_⟩
                rw [decS]
                by_cases c3 : z = "pick"
                · rw [decide_eq_true c3]
                  refine ⟨_, rfl, _, _, rfl, rfl, ⟨by decide, by decide⟩, _, rfl, _, rfl, d, wa, c, n + 1 + 1 + 1 + 1, 4, rfl, S13.dr, by omega, by decide, by decide, fun H14 g D14 s14 g0 g1' => ?_⟩
                  refine ⟨(by show 4 ≤ sizeLine; decide), fun p np => fin (.int 0) (by omega) (S13.call D14 s14) np (RowOk.r3 w1 (v4 c3) (partP (by omega) (by omega)) xx (partR g0 g1')) ?_ fun h => absurd h (by rw [v3]; exact Bool.false_ne_true)⟩
                  simp [askRow, strV, wordV, v2, v3]
                · rw [decide_eq_false c3]
                  refine ⟨_, rfl, _, rfl, _, rfl, d, wa, c, n + 1 + 1 + 1 + 1, 4, rfl, S13.dr, by omega, by decide, by decide, fun H14 g D14 s14 g0 g1' => ?_⟩
                  refine ⟨(by show 4 ≤ sizeLine; decide), fun p np => fin (.int 0) (by omega) (S13.call D14 s14) np (RowOk.r3 w1 (v5 c3) (partR r0 r1) xx (partR g0 g1')) ?_ fun h => absurd h (by rw [v3]; exact Bool.false_ne_true)⟩
                  simp [askRow, strV, wordV, v2, v3]
def spSome : Sp := fun args H Q _ => ∃ (d wa c S L : Addr) (n m : Nat) (so : List Str) (ls : List Int), args = [.ref d, .ref S, .ref L, .int m] ∧ Dr H d wa c n ∧ n + 7 ≤ 1000000 ∧ 0 < m ∧ m ≤ 1000 ∧ EnvAt (hid H d wa) S L so ls ∧
  ∀ H' q r, Dr H' d wa c (n + 7) → Same (hid H d wa) (hid H' d wa) → hid H' d wa q = some (.tup r) → RowOk m r → RowFit (envOf so ls) r → Q (.ref q) H'
theorem EnvAt.same {G G' : Hp} {S L : Addr} {so : List Str} {ls : List Int} (e : EnvAt G S L so ls) (s : Same G G') : EnvAt G' S L so ls := ⟨s _ _ e.atS, s _ _ e.atL, e.len, e.few, e.pos⟩
theorem sc_law_some_row : FnScope ["_law_draw", "_law_sorts", "_law_lengths_here", "_law_many"] ["_law_draw", "_law_sorts", "_law_lengths_here", "_law_many"] (defScope (top 59)) := ⟨rfl, rfl, rfl, by decide +kernel, rfl, by decide +kernel, by decide +kernel⟩
theorem ok_law_some_row (F : FnP K "_law_some_row" 59 f fd) (T : Txt w K mg) (C_law_take : Cal P w K mg base CX0 2 "_law_take" spTake) (C_law_plain_row : Cal P w K mg base CX0 4 "_law_plain_row" spPlain) (C_law_led_row : Cal P w K mg base CX0 5 "_law_led_row" spLed) :
    FnOk P w K mg base CX0 6 f fd ["_law_draw", "_law_sorts", "_law_lengths_here", "_law_many"] spSome := by
  refine F.ok sc_law_some_row (fun vs H Q E h => by obtain ⟨a, r, c, _, _, _, _, _, _, rfl, _⟩ := h; rfl) (fun cdv A outer s H vs Q E hr h => ?_)
  have nd := sc_law_some_row.nd
  obtain ⟨d, wa, c, S, L, n, m, so, ls, rfl, D, hn, m0, m1, eA, q⟩ := h
  refine ⟨_, PSs.nox 
    (pss_one (ps_ret (pe_ifExp (pt_cmpR op_lt (pe_fn C_law_take hr (by rfl) pass0 (pa_cons (pv 0) (pa_cons pe_int pa_nil))) pe_int (nomark _)) (pe_fn C_law_plain_row hr (by rfl) pass0 (pa_cons (pv 0) (pa_cons (pv 3) pa_nil))) (pe_fn C_law_led_row hr (by rfl) pass0 (pa_cons (pv 0) (pa_cons (pv 1) (pa_cons (pv 2) (pa_cons (pv 3) pa_nil)))))))), ?_⟩
  refine ⟨_, rfl, d, wa, c, n, 5, rfl, D, by omega, by decide, by decide, fun H1 g D1 s1 g0 g1 => ⟨_, _, rfl, rfl, _, rfl, ?_⟩⟩
  by_cases cg : g < 2
  · rw [decide_eq_true cg]
    exact ⟨_, rfl, _, rfl, d, wa, c, n + 1, m, rfl, D1, by omega, m0, m1, fun H2 p r D2 s2 hp k1 k2 => q H2 p r (D2.mono (by omega)) (s1.trans s2) hp k1 (k2 _)⟩
  · rw [decide_eq_false cg]
    exact ⟨_, rfl, _, rfl, _, rfl, _, rfl, d, wa, c, S, L, n + 1, m, so, ls, rfl, D1, by omega, m0, m1, eA.same s1, fun H2 p r D2 s2 hp k1 k2 => q H2 p r (D2.mono (by omega)) (s1.trans s2) hp k1 k2⟩
end
end K41
set_option maxHeartbeats 4000000
namespace K41
open PySem PySem.Spec PyProof.Rows L2
/-! ### a list that is filled while it is drawn -/
def AccD {α : Type} (R : Hp → V → α → Prop) (d wa c : Addr) (H0 : Hp) (D : Addr) (n : Nat) (as : List α) (H : Hp) : Prop := Stp d wa c H0 n H ∧ ∃ ys, H D = some (.lst ys) ∧ Each (R (hid H d wa)) ys as
section
variable {α : Type} {R : Hp → V → α → Prop} {d wa c D : Addr} {H0 H H4 : Hp} {n n' : Nat} {as : List α} {y : V} {a : α}
theorem AccD.start (s : Stp d wa c H0 n H) (nD : H D = none) : AccD R d wa c H0 D n [] (upd H D (.lst [])) := ⟨s.new nD, [], upd_same, .nil⟩
/-- told the same where all but the list at D stands -/
def StD (D : Addr) (R : Hp → V → α → Prop) : Prop := ∀ (H H' : Hp), (∃ l, H D = some (.lst l)) → (∀ b o, b ≠ D → H b = some o → H' b = some o) → ∀ v a, R H v a → R H' v a
theorem StD.same (st : StD D R) {H H' : Hp} (hl : ∃ l, H D = some (.lst l)) (s : Same H H') : ∀ v a, R H v a → R H' v a := st H H' hl fun b o _ e => s b o e
theorem StD.hid (st : StD D R) (f : Frs d wa c D) {ys : List V} {v : V} (hl : H D = some (.lst ys)) (h : R (hid H d wa) v a) {o : HO} : R (hid (upd H D o) d wa) v a := by
  rw [hid_upd f]
  exact st _ _ ⟨ys, by rw [hid_frs f]; exact hl⟩ (fun b o' nb e => by rw [upd_ne nb]; exact e) v a h
theorem AccD.put (st : StD D R) (f : Frs d wa c D) (nD : hid H0 d wa D = none) (p : AccD R d wa c H0 D n as H) (D4 : Dr H4 d wa c n') (s : Same (hid H d wa) (hid H4 d wa)) (few : as.length < sizeLine) (r : R (hid H4 d wa) y a) :
    ∃ l, H4 D = some (.lst l) ∧ l.length < sizeLine ∧ AccD R d wa c H0 D n' (as ++ [a]) (upd H4 D (.lst (l ++ [y]))) := by
  obtain ⟨s1, ys, hy, er⟩ := p
  have hy4 : H4 D = some (.lst ys) := hid_get (s _ _ (by rw [hid_frs f]; exact hy))
  refine ⟨ys, hy4, by rw [er.1]; exact few, (s1.call D4 s).put f nD, _, upd_same, ?_⟩
  have e4 : Each (R (hid H4 d wa)) ys as := er.mono (st.same ⟨ys, by rw [hid_frs f]; exact hy⟩ s)
  exact (e4.mono fun v b h => st.hid f hy4 h).snoc (st.hid f hy4 r)
theorem AccD.pass (st : StD D R) (f : Frs d wa c D) (p : AccD R d wa c H0 D n as H) (D4 : Dr H4 d wa c n') (s : Same (hid H d wa) (hid H4 d wa)) : AccD R d wa c H0 D n' as H4 := by
  obtain ⟨s1, ys, hy, er⟩ := p
  exact ⟨s1.call D4 s, ys, hid_get (s _ _ (by rw [hid_frs f]; exact hy)), er.mono (st.same ⟨ys, by rw [hid_frs f]; exact hy⟩ s)⟩
end
/-! ### another lead in a row -/
theorem askRow_eq {z : Str} {args : List V} {p : Int} (h : placeOf z = some p) : askRow (.str z :: args) = some ((V.str z :: args).getD p.toNat .non, z, if isLS z then (V.str z :: args).getD 3 .non else .int 0) := by
  simp [askRow, strV, wordV, h]
theorem set_split {α : Type} : ∀ (l : List α) (k : Nat) (x : α), k < l.length → l.take k ++ x :: l.drop (k + 1) = l.set k x
  | [], _, _, h => absurd h (Nat.not_lt_zero _)
  | a :: l, 0, x, _ => rfl
  | a :: l, k + 1, x, h => by
    show a :: (l.take k ++ x :: l.drop (k + 1)) = a :: l.set k x
    rw [set_split l k x (by simpa using h)]
theorem rowSet {m : Nat} {z : Str} {args : List V} {p : Int} (ok : RowOk m (.str z :: args)) (hp : placeOf z = some p) {x : V} (hx : PartOk m 120 x) :
    1 ≤ p ∧ p.toNat < (V.str z :: args).length ∧ (∃ args', (V.str z :: args).set p.toNat x = .str z :: args') ∧ RowOk m ((V.str z :: args).set p.toNat x) ∧
    askRow ((V.str z :: args).set p.toNat x) = some (x, z, if isLS z then (V.str z :: args).getD 3 .non else .int 0) := by
  obtain ⟨z', args', sg, e, hz, hf, hl, hpo⟩ := ok.ex
  cases e
  obtain ⟨b1, b2, b3⟩ := place_ok z hz p hp
  obtain ⟨b4, b5, b6⟩ := b3 sg hf
  obtain ⟨k, hk⟩ : ∃ k, p.toNat = k + 1 := ⟨p.toNat - 1, by omega⟩
  have hk1 : p.toNat - 1 = k := by omega
  rw [hk1] at b5
  have kl : k < args.length := by omega
  have es : (V.str z :: args).set p.toNat x = .str z :: args.set k x := by rw [hk]; rfl
  refine ⟨b1, by rw [List.length_cons]; omega, ⟨_, es⟩, ?_, ?_⟩
  · rw [es]
    refine ⟨z, args.set k x, sg, rfl, hz, hf, by rw [List.length_set]; exact hl, fun i c v h1 h2 => ?_⟩
    by_cases e : k = i
    · subst e
      rw [List.getElem?_set_self kl] at h2
      cases h2
      rw [b5] at h1
      cases h1
      exact hx
    · rw [List.getElem?_set_ne e] at h2
      exact hpo i c v h1 h2
  · rw [es, askRow_eq hp, hk]
    have e1 : (V.str z :: args.set k x).getD (k + 1) .non = x := by
      rw [List.getD_cons_succ, List.getD_eq_getElem?_getD, List.getElem?_set_self kl]
      rfl
    rw [e1]
    cases hls : isLS z with
    | false => rfl
    | true =>
      have : k ≠ 2 := by
        intro e
        have h3 := b6 hls
        have := (show ∀ z ∈ words, ∀ p, placeOf z = some p → isLS z = true → p = 2 by decide +kernel) z hz p hp hls
        omega
      have e2 : (V.str z :: args.set k x).getD 3 .non = (V.str z :: args).getD 3 .non := by
        rw [List.getD_cons_succ, List.getD_cons_succ, List.getD_eq_getElem?_getD, List.getD_eq_getElem?_getD, List.getElem?_set_ne this]
      rw [e2]
theorem cutFrom (xs : List V) {k : Nat} (h : k ≤ xs.length) : cutV xs (some (k : Int)) none = xs.drop k := by
  unfold cutV
  rw [HT.sIx_none, HT.sIx_nat, Nat.min_eq_left h]
  rw [List.take_of_length_le (by rw [List.length_drop]; omega)]
theorem row_lead {m : Nat} {z : Str} {args : List V} {p : Int} (ok : RowOk m (.str z :: args)) (hp : placeOf z = some p) : ∃ x, (V.str z :: args).getD p.toNat .non = x ∧ atI (.str z :: args) p = some x ∧ ((∃ i, x = .int i) ∨ ∃ zn, x = .str zn ∧ isNm zn = true) := by
  obtain ⟨z', args', sg, e, hz, hf, hl, hpo⟩ := ok.ex
  cases e
  obtain ⟨b1, b2, b3⟩ := place_ok z hz p hp
  obtain ⟨b4, b5, b6⟩ := b3 sg hf
  refine ⟨_, rfl, getD_cons b1 (by omega), ?_⟩
  obtain ⟨k, hk⟩ : ∃ k, p.toNat = k + 1 := ⟨p.toNat - 1, by omega⟩
  have hk1 : p.toNat - 1 = k := by omega
  rw [hk1] at b5
  have kl : k < args.length := by omega
  have h1 : args[k]? = some ((V.str z :: args).getD p.toNat .non) := by
    rw [hk, List.getD_cons_succ, List.getD_eq_getElem?_getD, List.getElem?_eq_getElem kl]
    rfl
  have h2 := hpo k 120 _ b5 h1
  unfold PartOk at h2
  rw [if_pos rfl] at h2
  exact h2
section
variable {P : Program} {w : World} {K : PySem.W.Frag} {mg : Str → Option Value} {base : Heap} {f : Addr} {fd : FuncData}
def spRepick : Sp := fun args H Q _ => ∃ (d wa c S L q0 : Addr) (n m : Nat) (so : List Str) (ls : List Int) (r : List V), args = [.ref d, .ref S, .ref L, .ref q0] ∧ Dr H d wa c n ∧ n + 2 ≤ 1000000 ∧ EnvAt (hid H d wa) S L so ls ∧
  hid H d wa q0 = some (.tup r) ∧ RowOk m r ∧ RowFit (envOf so ls) r ∧
  ∀ H' q r', Dr H' d wa c (n + 2) → Same (hid H d wa) (hid H' d wa) → hid H' d wa q = some (.tup r') → RowOk m r' → RowFit (envOf so ls) r' → wordV r' = wordV r → Q (.ref q) H'
theorem sc_law_repicked : FnScope ["_law_draw", "_law_sorts", "_law_lengths_here", "_law_row", "_law_at", "_law_some", "_law_k", "_law_sort"] ["_law_draw", "_law_sorts", "_law_lengths_here", "_law_row"] (defScope (top 60)) := ⟨rfl, rfl, rfl, by decide +kernel, rfl, by decide +kernel, by decide +kernel⟩
theorem ok_law_repicked (F : FnP K "_law_repicked" 60 f fd) (T : Txt w K mg) (C_law_take : Cal P w K mg base CX0 2 "_law_take" spTake) (C_law_pick : Cal P w K mg base CX0 3 "_law_pick" spPick) (C_law_place : Cal P w K mg base CX0 1 "_law_place" spLPlace) :
    FnOk P w K mg base CX0 4 f fd ["_law_draw", "_law_sorts", "_law_lengths_here", "_law_row"] spRepick := by
  refine F.ok sc_law_repicked (fun vs H Q E h => by obtain ⟨a, r, c, _, _, _, _, _, _, _, _, rfl, _⟩ := h; rfl) (fun cdv A outer s H vs Q E hr h => ?_)
  have nd := sc_law_repicked.nd
  obtain ⟨d, wa, c, S, L, q0, n, m, so, ls, r, rfl, D, hn, eA, hq0, ok, fit, q⟩ := h
  obtain ⟨z, args, sg, rfl, hz, _⟩ := id ok.ex
  refine ⟨_, PSs.nox 
    (pss_cons (ps_set (i := 4) nd rfl (Or.inr rfl) (pe_fn C_law_place hr (by rfl) pass0 (pa_cons (pv 3) pa_nil)))
    (C8.pss_cut (ps_if (PW.pt (pw_or (pt_cmpR op_eq (pv 4) pe_int (nomark _)) (pw_or (pt_val (pe_callB (x_isi K) (by rfl) T.b_isinstance (by decide +kernel) (pa_cons (pe_ix (x_tup K) (pv 3) (pv 4) (fun _ _ => rfl)) (pa_cons (pe_bltn (v := .ty "str") (by rfl) T.b_str (by decide +kernel) rfl) pa_nil)))) (pw_or1 (PW.pt (pw_and (pt_cmpR op_eq (pe_ix (x_tup K) (pv 3) pe_int (fun _ _ => rfl)) pe_str (nomark _)) (pw_and1 (pt_cmpR op_gt (pe_fn C_law_take hr (by rfl) pass0 (pa_cons (pv 0) (pa_cons pe_int pa_nil))) pe_int (nomark _))))))))) 
      (pss_one (ps_ret (pv 3))) pss_nil)
    (pss_cons (ps_setLc (own := [("_law_k", 6), ("_law_sort", 7)]) (g := gTup K 2 (gCons (gName 6) (gCons (gName 7) gNil))) (i := 5) rfl nd rfl rfl (sw_true rfl rfl rfl (by decide +kernel)) (pi_enum (by rfl) T.b_enumerate (pa_cons (pv 1) pa_nil)) (blkOk_by (own := [("_law_k", 6), ("_law_sort", 7)]) (N := ["_law_draw", "_law_sorts", "_law_lengths_here", "_law_row", "_law_at", "_law_some", "_law_k", "_law_sort"]) (sc := defScope (top 60)) (by decide +kernel)) (fun _ _ _ _ _ => (pg_tup rfl (pgs_cons (pg_name (i := 6) nd rfl (Or.inl rfl)) (pgs_cons (pg_name (i := 7) nd rfl (Or.inl rfl)) pgs_nil)))) (fun _ _ _ _ _ => (pts_one (PW.pt (pw_and (pt_cmpR op_eq (pv 7) (pe_ix (x_lst K) (pv 1) (pe_ix (x_tup K) (pv 3) (pv 4) (fun _ _ => rfl)) (fun _ _ => rfl)) (nomark _)) (pw_and1 (pt_cmpR op_ge (pe_ix (x_lst K) (pv 2) (pv 6) (fun _ _ => rfl)) (pe_ix (x_lst K) (pv 2) (pe_ix (x_tup K) (pv 3) (pv 4) (fun _ _ => rfl)) (fun _ _ => rfl)) (nomark _))))))) (fun _ _ _ _ _ => (pv 6)))
    (pss_one (ps_ret (pe_op (x_catA K) (pe_op (x_catA K) (pe_slice (x_slA K) (pv 3) po_none (po_some (pv 4))) (pe_tup (pa_cons (pe_fn C_law_pick hr (by rfl) pass0 (pa_cons (pv 0) (pa_cons (pv 5) pa_nil))) pa_nil))) (pe_slice (x_slA K) (pv 3) (po_some (pe_op op_add (pv 4) pe_int)) po_none))))))), ?_⟩
  have S0 := Stp.start D
  refine ⟨_, rfl, q0, z, args, rfl, S0.get hq0, hz, fun H1 s1 => ?_⟩
  have S1 := S0.same s1
  have keep : ∀ {n' : Nat} {H5 : Hp}, n' ≤ n + 2 → Stp d wa c H n' H5 → Q (.ref q0) H5 := fun hn' S5 => q _ _ _ (S5.mono hn').dr S5.sub (S5.sub _ _ hq0) ok fit rfl
  refine ⟨fun σ' H' => ∃ (p : Int) (j : Nat) (s : Str) (l : Int) (n' : Nat), placeOf z = some p ∧ σ' = [some (.ref d), some (.ref S), some (.ref L), some (.ref q0), some (.int p), none, none, none] ∧ n' ≤ n + 1 ∧ Stp d wa c H n' H' ∧ atI (.str z :: args) p = some (nV j) ∧ so[j]? = some s ∧ ls[j]? = some l ∧
    (∀ j' s' l', so[j']? = some s' → ls[j']? = some l' → s' = s → l ≤ l' → FitsE (envOf so ls) (nV j', z, if isLS z then (V.str z :: args).getD 3 .non else .int 0)), ?_, fun σ' H' pm => ?_⟩
  · refine ⟨_, rfl, rfl, _, rfl, ?_⟩
    rw [decI]
    cases hp : placeOf z with
    | none =>
      rw [decide_eq_true (by rfl)]
      exact ⟨_, rfl, keep (by omega) S1⟩
    | some p =>
      obtain ⟨x, ex, hx, xx⟩ := row_lead ok hp
      have b1 := (place_ok z hz p hp).1
      rw [decide_eq_false (show ¬ (Option.getD (some p) 0 = 0) from fun e => by have e : p = 0 := e; omega)]
      refine ⟨_, rfl, _, rfl, q0, _, p, x, rfl, rfl, .of (S1.get hq0), hx, ?_⟩
      rcases xx with ⟨i, rfl⟩ | ⟨zn, rfl, hzn⟩
      · refine ⟨_, _, _, _, false, rfl, .ty _, tyI i, kit_ty (by decide +kernel), _, rfl, ?_⟩
        have ask := askRow_eq (args := args) hp
        rw [ex] at ask
        obtain ⟨f1, f2, f3⟩ := fit _ ask
        obtain ⟨j, s, l, rfl, he, hin, hls⟩ := f3 i rfl
        obtain ⟨he1, he2⟩ := List.getElem?_zip_eq_some.mp he
        have all : ∀ j' s' l', so[j']? = some s' → ls[j']? = some l' → s' = s → l ≤ l' → FitsE (envOf so ls) (nV j', z, if isLS z then (V.str z :: args).getD 3 .non else .int 0) := fun j' s' l' h1 h2 h3 h4 => by
          refine ⟨f1, rfl, fun i hi => ?_⟩
          cases hi
          refine ⟨j', s', l', rfl, env_get h1 h2, by rw [h3]; exact hin, fun h => ?_⟩
          obtain ⟨g, hg, hl⟩ := hls h
          exact ⟨g, hg, by omega⟩
        refine ⟨_, rfl, q0, _, 0, _, rfl, rfl, .of (S1.get hq0), at0, rfl, _, rfl, ?_⟩
        rw [decS]
        by_cases c1 : z = "take"
        · rw [decide_eq_true c1]
          refine ⟨_, rfl, d, wa, c, n, 4, rfl, S1.dr, by omega, by decide, by decide, fun H2 g D2 s2 g0 g1 => ⟨_, _, rfl, rfl, _, rfl, ?_⟩⟩
          have S2 := S1.call D2 s2
          by_cases cg : 0 < g
          · rw [decide_eq_true cg]
            exact ⟨_, rfl, keep (by omega) S2⟩
          · rw [decide_eq_false cg]
            exact ⟨p, j, s, l, n + 1, rfl, rfl, Nat.le_refl _, S2, hx, he1, he2, all⟩
        · rw [decide_eq_false c1]
          exact ⟨p, j, s, l, n, rfl, rfl, by omega, S1, hx, he1, he2, all⟩
      · refine ⟨_, _, _, _, true, rfl, .ty _, tyS zn, kit_ty (by decide +kernel), _, rfl, ?_⟩
        exact ⟨_, rfl, keep (by omega) S1⟩
  · obtain ⟨p, j, s, l, n', hp, rfl, hn', S2, hx, hs, hl, all⟩ := pm
    let pr : Nat → Bool := fun k => match so[k]?, ls[k]? with
      | some s', some l' => decide (s' = s) && decide (l ≤ l')
      | _, _ => false
    have hlen := eA.len
    have hfew := eA.few
    have hjV : (so.map V.str)[j]? = some (.str s) := by rw [List.getElem?_map, hs]; rfl
    have hjL : (ls.map V.int)[j]? = some (.int l) := by rw [List.getElem?_map, hl]; rfl
    refine ⟨_, rfl, S, _, rfl, .of (S2.get eA.atS), fun D2 nD2 => ?_⟩
    refine lc_it walk_enum (fun i H3 => Acc H' D2 (fun i => (((List.range so.length).take i).filter pr).map nV) i H3) (Acc.start nD2 rfl) (fun i H3 _ p' => .of (p'.1 _ _ (S2.get eA.atS))) (fun i x H3 H4 hi p' y => ?_) (fun H7 p' => ?_)
    · obtain ⟨t, cc, y, rfl, nt, rfl, hc, hy⟩ := y
      cases hc
      replace hy : (so.map V.str)[i]? = some y := hy
      rw [List.getElem?_map] at hy
      obtain ⟨s0, hs0, rfl⟩ := Option.map_eq_some_iff.mp hy
      have il := lt_of_get hs0
      have hl0 : ls[i]? = some (ls[i]'(by omega)) := List.getElem?_eq_getElem _
      have hl0V : (ls.map V.int)[i]? = some (.int (ls[i]'(by omega))) := by rw [List.getElem?_map, hl0]; rfl
      have st := filt_step (show (List.range so.length)[i]? = some i by rw [List.getElem?_range il]) pr
      have few : ((((List.range so.length).take i).filter pr).map nV).length < sizeLine := small10 (by
        rw [List.length_map]
        refine Nat.le_trans (List.length_filter_le _ _) ?_
        rw [List.length_take]
        omega)
      have s3 : Same H3 (upd H3 t (.tup [.int (i : Nat), .str s0])) := same_upd nt
      have s4 := p'.1.trans s3
      refine ⟨t, _, rfl, .of upd_same, rfl, _, _, rfl, _, _, rfl, rfl, rfl, ?_⟩
      refine ⟨_, rfl, _, rfl, _, rfl, _, rfl, q0, _, p, _, rfl, rfl, .of (s4 _ _ (S2.get hq0)), hx, S, _, j, _, rfl, rfl, .of (s4 _ _ (S2.get eA.atS)), atI_n hjV, rfl, _, rfl, ?_⟩
      rw [decS]
      have epr : pr i = (decide (s0 = s) && decide (l ≤ ls[i]'(by omega))) := by
        simp only [pr]
        rw [hs0, hl0]
      by_cases c1 : s0 = s
      · rw [decide_eq_true c1]
        refine ⟨_, rfl, _, rfl, L, _, i, _, rfl, rfl, .of (s4 _ _ (S2.get eA.atL)), atI_n hl0V, _, rfl, _, rfl, _, rfl, q0, _, p, _, rfl, rfl, .of (s4 _ _ (S2.get hq0)), hx, L, _, j, _, rfl, rfl, .of (s4 _ _ (S2.get eA.atL)), atI_n hjL, _, _, rfl, rfl, _, rfl, ?_⟩
        by_cases c2 : l ≤ ls[i]'(by omega)
        · rw [decide_eq_true c2]
          exact ⟨_, rfl, Acc.put nD2 p' s3 few (by rw [st, epr, decide_eq_true c1, decide_eq_true c2]; simp; rfl)⟩
        · rw [decide_eq_false c2]
          exact Acc.pass p' s3 (by rw [st, epr, decide_eq_false c2]; simp)
      · rw [decide_eq_false c1]
        exact Acc.pass p' s3 (by rw [st, epr, decide_eq_false c1]; simp)
    · obtain ⟨s7, h7⟩ := p'
      simp only [List.length_map] at h7
      have etk : (List.range so.length).take so.length = List.range so.length := List.take_of_length_le (by simp)
      rw [etk] at h7
      have S7 := S2.same s7
      have h7h : hid H7 d wa D2 = some (.lst (((List.range so.length).filter pr).map nV)) := by
        rw [hid_frs (S2.frs nD2)]
        exact h7
      have hj : j ∈ (List.range so.length).filter pr := List.mem_filter.mpr ⟨List.mem_range.mpr (lt_of_get hs), by simp only [pr]; rw [hs, hl]; simp⟩
      have lfi : ((List.range so.length).filter pr).length ≤ so.length := Nat.le_trans (List.length_filter_le _ _) (by simp)
      obtain ⟨b1, b2, ⟨args', b3⟩, b4, b5⟩ := rowSet ok hp (x := nV j) (partX (.inl ⟨_, rfl⟩))
      obtain ⟨pn, rfl⟩ := Int.eq_ofNat_of_zero_le (show 0 ≤ p by omega)
      rw [Int.toNat_natCast] at b2
      -- row[:at]
      refine ⟨_, rfl, _, rfl, pn, rfl, q0, _, rfl, .of (S7.get hq0), fun zz => ?_, fun _ p1 np1 => ?_⟩
      · have z2 := zz.2
        rw [HT.sIx_nat, Nat.min_eq_left (by omega)] at z2
        omega
      rw [cutTo2]
      have S8 := S7.new (o := .tup ((V.str z :: args).take pn)) np1
      have h8 := hid_same (d := d) (w := wa) (same_upd (o := .tup ((V.str z :: args).take pn)) np1) _ _ h7h
      have a8 := upd_same (H := H7) (a := p1) (o := .tup ((V.str z :: args).take pn))
      revert S8 h8 a8
      generalize upd H7 p1 (.tup ((V.str z :: args).take pn)) = H8
      intro S8 h8 a8
      refine ⟨_, rfl, _, rfl, d, wa, c, D2, n', _, rfl, S8.dr, by omega, h8, ?_, by rw [List.length_map]; omega, fun H9 x D9 s9 hx9 => ?_⟩
      · intro e
        rw [List.map_eq_nil_iff] at e
        rw [e] at hj
        cases hj
      have S9 := S8.call D9 s9
      obtain ⟨k, hk, rfl⟩ := List.mem_map.mp hx9
      obtain ⟨hk1, hk2⟩ := List.mem_filter.mp hk
      have a9 : H9 p1 = some (.tup ((V.str z :: args).take pn)) := hid_get (s9 _ _ (by rw [hid_frs (S7.frs np1)]; exact a8))
      have nlen : ((V.str z :: args).take pn).length = pn := by rw [List.length_take]; omega
      have len19 : (V.str z :: args).length ≤ 1000 := by
        obtain ⟨z', args0, sg', e0, hz0, hf0, hl0, _⟩ := ok.ex
        cases e0
        have : ∀ s ∈ words, ∀ t, formOf s = some t → t.cps.size < 100 := by decide +kernel
        have := this z hz0 sg' hf0
        rw [List.length_cons]
        omega
      refine ⟨(by show 1 ≤ sizeLine; decide), fun p2 np2 => ?_⟩
      refine ⟨p1, p2, _, _, rfl, rfl, .of (same_upd np2 _ _ a9), .of upd_same, ?_, fun e => ?_, fun _ e => (by cases e), fun _ _ p3 np3 => ?_⟩
      · rw [nlen]
        exact Nat.le_of_lt (small1000 (show pn + 1 ≤ 1000 by omega))
      · have := congrArg List.length e
        rw [nlen] at this
        simp at this
        omega
      have S10 := (S9.new (o := .tup [nV k]) np2).new (o := .tup ((V.str z :: args).take pn ++ [nV k])) np3
      have a10 := upd_same (H := upd H9 p2 (.tup [nV k])) (a := p3) (o := .tup ((V.str z :: args).take pn ++ [nV k]))
      revert S10 a10
      generalize upd (upd H9 p2 (.tup [nV k])) p3 (.tup ((V.str z :: args).take pn ++ [nV k])) = H10
      intro S10 a10
      have done : ∀ {H5 : Hp} {q : Addr}, Stp d wa c H (n' + 1) H5 → hid H5 d wa q = some (.tup ((V.str z :: args).set pn (nV k))) → Q (.ref q) H5 := fun {H5 q'} S5 h5 => by
        obtain ⟨_, _, ⟨args2, b3⟩, b4, b5⟩ := rowSet ok hp (x := nV k) (partX (.inl ⟨_, rfl⟩))
        rw [Int.toNat_natCast] at b3 b4 b5
        refine q _ _ _ (S5.mono (by omega)).dr S5.sub h5 b4 (fun a ha => ?_) (by rw [b3]; rfl)
        rw [b5] at ha
        cases ha
        have h3 : ls[k]? = some (ls[k]'(by have := List.mem_range.mp hk1; omega)) := List.getElem?_eq_getElem _
        have h4 : so[k]? = some (so[k]'(List.mem_range.mp hk1)) := List.getElem?_eq_getElem _
        have h5' : pr k = true := hk2
        simp only [pr] at h5'
        rw [h3, h4] at h5'
        simp only [Bool.and_eq_true, decide_eq_true_eq] at h5'
        exact all k _ _ h4 h3 h5'.1 h5'.2
      have esp := set_split (V.str z :: args) pn (nV k) b2
      refine ⟨_, rfl, _, rfl, _, _, rfl, rfl, _, rfl, q0, _, rfl, .of (S10.get hq0), fun zz => ?_, fun _ p4 np4 => ?_⟩
      · have z1 : HT.sIx (V.str z :: args).length 0 (some ((pn + 1 : Nat) : Int)) = 0 := zz.1
        rw [HT.sIx_nat] at z1
        omega
      have ec : cutV (V.str z :: args) (some ((pn : Int) + 1)) none = (V.str z :: args).drop (pn + 1) := cutFrom _ (k := pn + 1) (by omega)
      rw [ec]
      have S11 := S10.new (o := .tup ((V.str z :: args).drop (pn + 1))) np4
      have a11 := same_upd (o := .tup ((V.str z :: args).drop (pn + 1))) np4 _ _ a10
      refine ⟨p3, p4, _, _, rfl, rfl, .of a11, .of upd_same, ?_, fun e => (by simp at e), fun _ e => ?_, fun _ _ p5 np5 => ?_⟩
      · rw [List.length_append, nlen, List.length_drop]
        exact Nat.le_of_lt (small1000 (by simp only [List.length_singleton]; omega))
      · refine done S11 ?_
        have f3 : hid (upd H10 p4 (.tup ((V.str z :: args).drop (pn + 1)))) d wa p3 = some (.tup ((V.str z :: args).take pn ++ [nV k])) := by
          have fr3 := (S9.new (o := .tup [nV k]) np2).frs np3
          rw [hid_frs fr3]
          exact a11
        rw [f3, ← esp, e]
      · refine done (S11.new np5) ?_
        rw [S11.at np5, ← esp, List.append_assoc]
        rfl
end
end K41
set_option maxHeartbeats 4000000
namespace K41
open PySem PySem.Spec PyProof.Rows L2
structure SkelOk (e : Env') (rows : List (List V)) : Prop where
  l1 : 1 ≤ rows.length
  l2 : rows.length ≤ 5
  ok : ∀ r ∈ rows, RowOk rows.length r ∧ RowFit e r
  last : inV (lastWord rows) lastsL = true
theorem last_snoc (rows : List (List V)) (r : List V) : lastWord (rows ++ [r]) = wordV r := by
  unfold lastWord
  rw [List.getLastD_eq_getLast?, List.getLast?_concat]
  rfl
section
variable {P : Program} {w : World} {K : PySem.W.Frag} {mg : Str → Option Value} {base : Heap} {f : Addr} {fd : FuncData}
def spSkel : Sp := fun args H Q _ => ∃ (d wa c S L : Addr) (n : Nat) (so : List Str) (ls : List Int), args = [.ref d, .ref S, .ref L] ∧ Dr H d wa c n ∧ n + 40 ≤ 1000000 ∧ EnvAt (hid H d wa) S L so ls ∧
  ∀ H' N vs rows, Dr H' d wa c (n + 40) → Same (hid H d wa) (hid H' d wa) → hid H d wa N = none → hid H' d wa N = some (.lst vs) → Each (RowAt (hid H' d wa)) vs rows → SkelOk (envOf so ls) rows → Q (.ref N) H'
theorem sc_law_skeleton : FnScope ["_law_draw", "_law_sorts", "_law_lengths_here", "_law_many", "_law_row"] ["_law_draw", "_law_sorts", "_law_lengths_here"] (defScope (top 61)) := ⟨rfl, rfl, rfl, by decide +kernel, rfl, by decide +kernel, by decide +kernel⟩
theorem ok_law_skeleton (F : FnP K "_law_skeleton" 61 f fd) (T : Txt w K mg) (C_law_take : Cal P w K mg base CX0 2 "_law_take" spTake) (C_law_some_row : Cal P w K mg base CX0 6 "_law_some_row" spSome) (C_law_last_row : Cal P w K mg base CX0 4 "_law_last_row" spLast) :
    FnOk P w K mg base CX0 7 f fd ["_law_draw", "_law_sorts", "_law_lengths_here"] spSkel := by
  refine F.ok sc_law_skeleton (fun vs H Q E h => by obtain ⟨a, r, c, _, _, _, _, _, rfl, _⟩ := h; rfl) (fun cdv A outer s H vs Q E hr h => ?_)
  have nd := sc_law_skeleton.nd
  obtain ⟨d, wa, c, S, L, n, so, ls, rfl, D, hn, eA, q⟩ := h
  refine ⟨_, PSs.nox 
    (pss_cons (ps_set (i := 3) nd rfl (Or.inr rfl) (pe_op op_add pe_int (pe_fn C_law_take hr (by rfl) pass0 (pa_cons (pv 0) (pa_cons pe_int pa_nil)))))
    (pss_one (ps_ret (pe_op op_cat (pe_lc (own := [("_law_row", 4)]) rfl nd (pi_range1 (by rfl) T.b_range (pa_cons (pe_op op_sub (pv 3) pe_int) pa_nil)) (blkOk_by (own := [("_law_row", 4)]) (N := ["_law_draw", "_law_sorts", "_law_lengths_here", "_law_many", "_law_row"]) (sc := defScope (top 61)) (by decide +kernel)) (fun _ _ _ _ _ => (pg_name (i := 4) nd rfl (Or.inl rfl))) (fun _ _ _ _ _ => pts_nil) (fun _ _ _ _ _ => (pe_fn C_law_some_row hr (by rfl) pass0 (pa_cons (pv 0) (pa_cons (pv 1) (pa_cons (pv 2) (pa_cons (pv 3) pa_nil))))))) (pe_lst (pa_cons (pe_fn C_law_last_row hr (by rfl) pass0 (pa_cons (pv 0) (pa_cons (pv 1) (pa_cons (pv 3) pa_nil)))) pa_nil)))))), ?_⟩
  have S0 := Stp.start D
  refine ⟨_, rfl, d, wa, c, n, 5, rfl, D, by omega, by decide, by decide, fun H1 g D1 s1 g0 g1 => ⟨_, _, rfl, rfl, ?_⟩⟩
  have S1 := S0.call D1 s1
  obtain ⟨k, rfl⟩ := Int.eq_ofNat_of_zero_le g0
  refine ⟨_, rfl, _, _, rfl, rfl, _, rfl, by omega, by omega, fun N nN => ?_⟩
  have fN := S1.frs nN
  have nN0 := S1.none nN
  have ek : (1 + ((k : Nat) : Int) - 1).toNat = k := by omega
  show ∃ W : Nat → Nat → Hp → Prop, (∃ m, W 0 m (upd H1 N (.lst []))) ∧ _
  rw [ek]
  refine lc_it walk_range (fun i H' => ∃ rows, rows.length = i ∧ AccD RowAt d wa c H N (n + 1 + 7 * i) rows H' ∧ ∀ r ∈ rows, RowOk (1 + k) r ∧ RowFit (envOf so ls) r) ⟨[], rfl, AccD.start S1 nN, fun r h => (by cases h)⟩ (fun _ _ _ _ => trivial) (fun i x H3 H4 hi p y => ?_) (fun H3 p => ?_)
  · obtain ⟨rfl, hx⟩ := y
    obtain ⟨rows, lr, ac, okr⟩ := p
    have S3 := ac.1
    refine ⟨rfl, _, rfl, _, rfl, _, rfl, _, rfl, d, wa, c, S, L, n + 1 + 7 * i, 1 + k, so, ls, congrArg (fun z => [V.ref d, V.ref S, V.ref L, V.int z]) (by omega), S3.dr, by omega, by omega, by omega, eA.same S3.sub, fun H5 q' r D5 s5 hq' k1 k2 => ?_⟩
    obtain ⟨l, h1, h2, h3⟩ := AccD.put (rowAt_st N) fN nN0 ac D5 s5 (small1000 (by omega)) (a := r) ⟨q', rfl, hq'⟩
    refine ⟨l, h1, h2, rows ++ [r], by rw [List.length_append, lr]; rfl, by rw [show n + 1 + 7 * (i + 1) = n + 1 + 7 * i + 7 by omega]; exact h3, fun r' hr' => ?_⟩
    rcases List.mem_append.mp hr' with hr' | hr'
    · exact okr r' hr'
    · rw [List.mem_singleton] at hr'
      subst hr'
      exact ⟨k1, k2⟩
  · obtain ⟨rows, lr, ⟨S3, ys, hN, ey⟩, okr⟩ := p
    refine ⟨_, rfl, _, rfl, _, rfl, d, wa, c, S, n + 1 + 7 * k, 1 + k, so, congrArg (fun z => [V.ref d, V.ref S, V.int z]) (by omega), S3.dr, by omega, by omega, by omega, (eA.same S3.sub).atS, eA.few, fun H5 q' r D5 s5 hq' k1 k2 k3 => ?_⟩
    have S5 := S3.call D5 s5
    have hN5 : hid H5 d wa N = some (.lst ys) := s5 _ _ (by rw [hid_frs fN]; exact hN)
    refine ⟨(by show 1 ≤ sizeLine; decide), fun p1 np1 => ?_⟩
    have S6 := S5.new (o := .lst [.ref q']) np1
    refine ⟨N, p1, ys, [.ref q'], rfl, rfl, same_upd np1 _ _ (hid_get hN5), upd_same, ?_, fun p2 np2 => ?_⟩
    · rw [ey.1, lr]
      exact Nat.le_of_lt (small1000 (show k + 1 ≤ 1000 by omega))
    have S7 := S6.new (o := .lst (ys ++ [.ref q'])) np2
    have s57 : Same (hid H5 d wa) (hid (upd (upd H5 p1 (.lst [.ref q'])) p2 (.lst (ys ++ [.ref q']))) d wa) := hid_same ((same_upd np1).trans (same_upd np2))
    refine q _ p2 (ys ++ [.ref q']) (rows ++ [r]) (S7.mono (by omega)).dr S7.sub (S6.none np2) (S6.at np2) ?_ ⟨by rw [List.length_append]; simp, by rw [List.length_append, lr]; simp; omega, fun r' hr' => ?_, by rw [last_snoc]; exact k3⟩
    · exact (ey.mono fun _ _ => RowAt.same (s5.trans s57)).snoc ⟨q', rfl, s57 _ _ hq'⟩
    · have el : (rows ++ [r]).length = 1 + k := by rw [List.length_append, lr]; simp; omega
      rw [el]
      rcases List.mem_append.mp hr' with hr' | hr'
      · exact okr r' hr'
      · rw [List.mem_singleton] at hr'
        subst hr'
        exact ⟨k1, k2 ls eA.len⟩
end
end K41
set_option maxHeartbeats 4000000
namespace K41
open PySem PySem.Spec PyProof.Rows L2
/-! ### patterns -/
structure Pt where
  s : Str
  l : Int
  bd : Bd
def lenB : Bd → Int
  | .room n => n
  | .flat xs => (xs.length : Nat)
  | .code rows => (rows.length : Nat)
def envP (ps : List Pt) : Env' := ps.map fun p => (p.s, p.l)
def patAsks (p : Pt) : List Ask := asksOf ⟨0, "", p.s, p.bd⟩
structure PatOk (e : Env') (p : Pt) : Prop where
  ok : BdOk p.s p.bd
  fit : ∀ a ∈ patAsks p, FitsE e a
  len : p.s ≠ "code" → lenB p.bd = p.l
  few : lenB p.bd ≤ 5
def PatAt (H : Hp) (v : V) (p : Pt) : Prop := ∃ t b, v = .ref t ∧ H t = some (.tup [.str p.s, b]) ∧ BdAt H b p.bd
theorem bdAt_st : ∀ {bd : Bd} (D : Addr) (H H' : Hp), (∃ l, H D = some (.lst l)) → (∀ b o, b ≠ D → H b = some o → H' b = some o) → ∀ v, BdAt H v bd → BdAt H' v bd
  | .room n, _, _, _, _, _, _, h => h
  | .flat xs, D, H, H', hl, hk, v, ⟨p, e, h⟩ => ⟨p, e, hk p _ (fun z => by subst z; obtain ⟨l, hl⟩ := hl; rw [hl] at h; cases h) h⟩
  | .code rows, D, H, H', hl, hk, v, ⟨p, vs, e, h, r⟩ => ⟨p, vs, e, hk p _ (fun z => by subst z; obtain ⟨l, hl⟩ := hl; rw [hl] at h; cases h) h, r.mono (rowAt_st D H H' hl hk)⟩
theorem patAt_st : Steady PatAt := fun D H H' hl hk v p ⟨t, b, e, h, hb⟩ => ⟨t, b, e, hk t _ (fun z => by subst z; obtain ⟨l, hl⟩ := hl; rw [hl] at h; cases h) h, bdAt_st D H H' hl hk b hb⟩
theorem PatAt.same {H H' : Hp} (s : Same H H') {v : V} {p : Pt} (h : PatAt H v p) : PatAt H' v p := let ⟨t, b, e, h1, h2⟩ := h; ⟨t, b, e, s _ _ h1, h2.same s⟩
def sortNames : List Str := ["code", "const", "table", "data", "room"]
theorem env_zip (ps : List Pt) : (ps.map (·.s)).zip (ps.map (·.l)) = envP ps := by
  induction ps with
  | nil => rfl
  | cons p ps ih =>
    show (p.s, p.l) :: (ps.map (·.s)).zip (ps.map (·.l)) = _
    rw [ih]
    rfl
theorem vals_acc {α : Type} {f : α → V} : Steady (fun (_ : Hp) (v : V) (a : α) => v = f a) := fun _ _ _ _ _ _ _ h => h
theorem Each.vals {α : Type} {f : α → V} : ∀ {vs : List V} {as : List α}, Each (fun v a => v = f a) vs as → vs = as.map f
  | [], [], _ => rfl
  | [], _ :: _, e => absurd e.1 (by simp)
  | _ :: _, [], e => absurd e.1 (by simp)
  | _ :: _, _ :: _, e => by rw [List.map_cons, ← e.tail.2.vals, e.tail.1]
section
variable {H H9 : Hp} {d wa a : Addr}
theorem hid_del : hid (del H a) d wa = del (hid H d wa) a := by
  funext b
  unfold hid del
  by_cases h1 : b = a <;> by_cases h2 : b = d ∨ b = wa <;> simp [h1, h2]
theorem same_delR {A B : Hp} (s : Same A B) (h : A a = none) : Same A (del B a) := fun b o e => by
  rw [del_ne (ne_of_none e h)]
  exact s b o e
theorem same_delL {B : Hp} : Same (del B a) B := fun b o e => by
  by_cases h : b = a
  · subst h
    rw [del_same] at e
    cases e
  · rw [del_ne h] at e
    exact e
end
theorem cells_tail (l : Nat) : True := trivial
section
variable {P : Program} {w : World} {K : PySem.W.Frag} {mg : Str → Option Value} {base : Heap} {f : Addr} {fd : FuncData}
def spPats : Sp := fun args H Q _ => ∃ (d wa c : Addr) (n : Nat), args = [.ref d] ∧ Dr H d wa c n ∧ n + 900 ≤ 1000000 ∧
  ∀ H' N vs ps, Dr H' d wa c (n + 900) → Same (hid H d wa) (hid H' d wa) → hid H' d wa N = some (.lst vs) → Each (PatAt (hid H' d wa)) vs ps → 1 ≤ ps.length → ps.length ≤ 12 → (∀ p ∈ ps, PatOk (envP ps) p) → Q (.ref N) H'
theorem sc_law_patterns : FnScope ["_law_draw", "_law_sorts", "_law_lengths_here", "_law_found", "_law_skeletons", "_law_k", "_law_sort", "_law_many", "_law_body", "_law_codes", "_law_rows", "_law_j", "_law_other", "_law_cell", "_law_item", "_law_row"] ["_law_draw"] (defScope (top 62)) := ⟨rfl, rfl, rfl, by decide +kernel, rfl, by decide +kernel, by decide +kernel⟩
theorem ok_law_patterns (F : FnP K "_law_patterns" 62 f fd) (T : Txt w K mg) (C_law_take : Cal P w K mg base CX0 2 "_law_take" spTake) (C_law_pick : Cal P w K mg base CX0 3 "_law_pick" spPick) (C_law_skeleton : Cal P w K mg base CX0 7 "_law_skeleton" spSkel) (C_law_repicked : Cal P w K mg base CX0 4 "_law_repicked" spRepick) :
    FnOk P w K mg base CX0 8 f fd ["_law_draw"] spPats := by
  refine F.ok sc_law_patterns (fun vs H Q E h => by obtain ⟨a, r, c, _, rfl, _⟩ := h; rfl) (fun cdv A outer s H vs Q E hr h => ?_)
  have nd := sc_law_patterns.nd
  obtain ⟨d, wa, c, n, rfl, D, hn, q⟩ := h
  refine ⟨_, PSs.nox 
    (pss_cons (ps_set (i := 1) nd rfl (Or.inr rfl) (pe_op op_rep (pe_lst (pa_cons pe_str pa_nil)) (pe_op op_add pe_int (pe_fn C_law_take hr (by rfl) pass0 (pa_cons (pv 0) (pa_cons pe_int pa_nil))))))
    (pss_cons (ps_set (i := 1) nd rfl (Or.inr rfl) (pe_op op_cat (pv 1) (pe_lc (own := [("_law_sort", 6)]) rfl nd (pi_list (pe_lst (pa_cons pe_str (pa_cons pe_str (pa_cons pe_str (pa_cons pe_str (pa_cons pe_str (pa_cons pe_str pa_nil)))))))) (blkOk_by (own := [("_law_sort", 6)]) (N := ["_law_draw", "_law_sorts", "_law_lengths_here", "_law_found", "_law_skeletons", "_law_k", "_law_sort", "_law_many", "_law_body", "_law_codes", "_law_rows", "_law_j", "_law_other", "_law_cell", "_law_item", "_law_row"]) (sc := defScope (top 62)) (by decide +kernel)) (fun _ _ _ _ _ => (pg_name (i := 6) nd rfl (Or.inl rfl))) (fun _ _ _ _ _ => (pts_one (pt_cmpR op_eq (pe_fn C_law_take hr (by rfl) pass0 (pa_cons (pv 0) (pa_cons pe_int pa_nil))) pe_int (nomark _)))) (fun _ _ _ _ _ => (pv 6)))))
    (pss_cons (ps_asg (pe_tup (pa_cons (pe_lc (own := [("_law_sort", 6)]) rfl nd (pi_list (pv 1)) (blkOk_by (own := [("_law_sort", 6)]) (N := ["_law_draw", "_law_sorts", "_law_lengths_here", "_law_found", "_law_skeletons", "_law_k", "_law_sort", "_law_many", "_law_body", "_law_codes", "_law_rows", "_law_j", "_law_other", "_law_cell", "_law_item", "_law_row"]) (sc := defScope (top 62)) (by decide +kernel)) (fun _ _ _ _ _ => (pg_name (i := 6) nd rfl (Or.inl rfl))) (fun _ _ _ _ _ => pts_nil) (fun _ _ _ _ _ => (pe_op op_add pe_int (pe_fn C_law_take hr (by rfl) pass0 (pa_cons (pv 0) (pa_cons pe_int pa_nil)))))) (pa_cons (pe_lst pa_nil) pa_nil))) (pg_tup rfl (pgs_cons (pg_name (i := 2) nd rfl (Or.inr rfl)) (pgs_cons (pg_name (i := 3) nd rfl (Or.inl rfl)) pgs_nil))))
    (pss_cons (ps_setLc (own := [("_law_k", 5)]) (i := 4) rfl nd rfl rfl (sw_true rfl rfl rfl (by decide +kernel)) (pi_range1 (by rfl) T.b_range (pa_cons (pe_op op_add pe_int (pe_fn C_law_take hr (by rfl) pass0 (pa_cons (pv 0) (pa_cons pe_int pa_nil)))) pa_nil)) (blkOk_by (own := [("_law_k", 5)]) (N := ["_law_draw", "_law_sorts", "_law_lengths_here", "_law_found", "_law_skeletons", "_law_k", "_law_sort", "_law_many", "_law_body", "_law_codes", "_law_rows", "_law_j", "_law_other", "_law_cell", "_law_item", "_law_row"]) (sc := defScope (top 62)) (by decide +kernel)) (fun _ _ _ _ _ => (pg_name (i := 5) nd rfl (Or.inl rfl))) (fun _ _ _ _ _ => pts_nil) (fun _ _ _ _ _ => (pe_fn C_law_skeleton hr (by rfl) pass0 (pa_cons (pv 0) (pa_cons (pv 1) (pa_cons (pv 2) pa_nil))))))
    (pss_cons (ps_for PassesOwn.never rfl (pi_enum (by rfl) T.b_enumerate (pa_cons (pv 1) pa_nil)) (pg_tup rfl (pgs_cons (pg_name (i := 5) nd rfl (Or.inl rfl)) (pgs_cons (pg_name (i := 6) nd rfl (Or.inl rfl)) pgs_nil))) 
      (pss_cons (ps_set (i := 7) nd rfl (Or.inl rfl) (pe_ix (x_lst K) (pv 2) (pv 5) (fun _ _ => rfl)))
      (pss_cons (ps_set (i := 8) nd rfl (Or.inl rfl) (pv 7))
      (C8.pss_cut (ps_if (pt_cmpR (x_in K) (pv 6) (pe_lst (pa_cons pe_str (pa_cons pe_str pa_nil))) (by rfl)) 
        (pss_one (ps_set (i := 8) nd rfl (Or.inl rfl) (pe_callTy call_tuple_of (by rfl) T.b_tuple (by decide +kernel) (pa_cons (pe_lc (own := [("_law_cell", 13)]) rfl nd (pi_range1 (by rfl) T.b_range (pa_cons (pv 7) pa_nil)) (blkOk_by (own := [("_law_cell", 13)]) (N := ["_law_draw", "_law_sorts", "_law_lengths_here", "_law_found", "_law_skeletons", "_law_k", "_law_sort", "_law_many", "_law_body", "_law_codes", "_law_rows", "_law_j", "_law_other", "_law_cell", "_law_item", "_law_row"]) (sc := defScope (top 62)) (by decide +kernel)) (fun _ _ _ _ _ => (pg_name (i := 13) nd rfl (Or.inl rfl))) (fun _ _ _ _ _ => pts_nil) (fun _ _ _ _ _ => (pe_op op_mul (pe_fn C_law_take hr (by rfl) pass0 (pa_cons (pv 0) (pa_cons pe_int pa_nil))) (pe_fn C_law_take hr (by rfl) pass0 (pa_cons (pv 0) (pa_cons pe_int pa_nil)))))) pa_nil)))) pss_nil)
      (C8.pss_cut (ps_if (pt_cmpR op_eq (pv 6) pe_str (nomark _)) 
        (pss_cons (ps_set (i := 9) nd rfl (Or.inr rfl) (pe_lc (own := [("_law_j", 11), ("_law_other", 12)]) (g := gTup K 2 (gCons (gName 11) (gCons (gName 12) gNil))) rfl nd (pi_enum (by rfl) T.b_enumerate (pa_cons (pv 1) pa_nil)) (blkOk_by (own := [("_law_j", 11), ("_law_other", 12)]) (N := ["_law_draw", "_law_sorts", "_law_lengths_here", "_law_found", "_law_skeletons", "_law_k", "_law_sort", "_law_many", "_law_body", "_law_codes", "_law_rows", "_law_j", "_law_other", "_law_cell", "_law_item", "_law_row"]) (sc := defScope (top 62)) (by decide +kernel)) (fun _ _ _ _ _ => (pg_tup rfl (pgs_cons (pg_name (i := 11) nd rfl (Or.inl rfl)) (pgs_cons (pg_name (i := 12) nd rfl (Or.inl rfl)) pgs_nil)))) (fun _ _ _ _ _ => (pts_one (pt_cmpR op_eq (pv 12) pe_str (nomark _)))) (fun _ _ _ _ _ => (pv 11))))
        (pss_one (ps_set (i := 8) nd rfl (Or.inl rfl) (pe_callTy call_tuple_of (by rfl) T.b_tuple (by decide +kernel) (pa_cons (pe_lc (own := [("_law_item", 14)]) rfl nd (pi_range1 (by rfl) T.b_range (pa_cons (pv 7) pa_nil)) (blkOk_by (own := [("_law_item", 14)]) (N := ["_law_draw", "_law_sorts", "_law_lengths_here", "_law_found", "_law_skeletons", "_law_k", "_law_sort", "_law_many", "_law_body", "_law_codes", "_law_rows", "_law_j", "_law_other", "_law_cell", "_law_item", "_law_row"]) (sc := defScope (top 62)) (by decide +kernel)) (fun _ _ _ _ _ => (pg_name (i := 14) nd rfl (Or.inl rfl))) (fun _ _ _ _ _ => pts_nil) (fun _ _ _ _ _ => (pe_fn C_law_pick hr (by rfl) pass0 (pa_cons (pv 0) (pa_cons (pe_op op_cat (pe_op op_cat (pv 9) (pv 9)) (pe_lst (pa_cons pe_non (pa_cons pe_str pa_nil)))) pa_nil))))) pa_nil))))) pss_nil)
      (C8.pss_cut (ps_if (pt_cmpR op_eq (pv 6) pe_str (nomark _)) 
        (C8.pss_cut (ps_set (i := 10) nd rfl (Or.inl rfl) (pe_ifExp (pt_cmpR op_gt (pe_fn C_law_take hr (by rfl) pass0 (pa_cons (pv 0) (pa_cons pe_int pa_nil))) pe_int (nomark _)) (pe_fn C_law_pick hr (by rfl) pass0 (pa_cons (pv 0) (pa_cons (pv 4) pa_nil))) (pe_fn C_law_skeleton hr (by rfl) pass0 (pa_cons (pv 0) (pa_cons (pv 1) (pa_cons (pv 2) pa_nil))))))
        (pss_one (ps_set (i := 8) nd rfl (Or.inl rfl) (pe_callTy call_tuple_of (by rfl) T.b_tuple (by decide +kernel) (pa_cons (pe_lc (own := [("_law_row", 15)]) rfl nd (pi_list (pv 10)) (blkOk_by (own := [("_law_row", 15)]) (N := ["_law_draw", "_law_sorts", "_law_lengths_here", "_law_found", "_law_skeletons", "_law_k", "_law_sort", "_law_many", "_law_body", "_law_codes", "_law_rows", "_law_j", "_law_other", "_law_cell", "_law_item", "_law_row"]) (sc := defScope (top 62)) (by decide +kernel)) (fun _ _ _ _ _ => (pg_name (i := 15) nd rfl (Or.inl rfl))) (fun _ _ _ _ _ => pts_nil) (fun _ _ _ _ _ => (pe_fn C_law_repicked hr (by rfl) pass0 (pa_cons (pv 0) (pa_cons (pv 1) (pa_cons (pv 2) (pa_cons (pv 15) pa_nil))))))) pa_nil))))) pss_nil)
      (pss_one (ps_expr (pe_bm PySem.F.plainAttrs_list PySem.F.slot_list_append PySem.F.type_list_append mt_append (pv 3) (pa_cons (pe_tup (pa_cons (pv 6) (pa_cons (pv 8) pa_nil))) pa_nil))))))))))
    (pss_one (ps_ret (pv 3)))))))), ?_⟩
  have S0 := Stp.start D
  refine ⟨(by show 1 ≤ sizeLine; decide), fun a1 na1 => ⟨_, rfl, d, wa, c, n, 6, rfl, (S0.new na1).dr, by omega, by decide, by decide, fun H1 g D1 s1 g0 g1 => ⟨_, _, rfl, rfl, ?_⟩⟩⟩
  have S1 := (S0.new (o := .lst [.str "code"]) na1).call D1 s1
  have h1 : H1 a1 = some (.lst [.str "code"]) := hid_get (s1 _ _ (S0.at na1))
  obtain ⟨k0, rfl⟩ := Int.eq_ofNat_of_zero_le g0
  refine ⟨a1, _, _, rfl, rfl, h1, by omega, by omega, ?_, fun a2 na2 => ?_⟩
  · have : (1 + ((k0 : Nat) : Int)).toNat = 1 + k0 := by omega
    rw [this]
    exact Nat.le_of_lt (small1000 (show 1 * (1 + k0) ≤ 1000 by omega))
  have ek : (List.replicate (1 + ((k0 : Nat) : Int)).toNat [V.str "code"]).flatten = (List.replicate (1 + k0) (Str.ofString "code")).map V.str := by
    rw [show (1 + ((k0 : Nat) : Int)).toNat = 1 + k0 by omega]
    generalize 1 + k0 = j
    induction j with
    | zero => rfl
    | succ j ih =>
      rw [List.replicate_succ, List.flatten_cons, ih, List.replicate_succ]
      rfl
  rw [ek]
  have S2 := S1.new (o := .lst ((List.replicate (1 + k0) (Str.ofString "code")).map V.str)) na2
  have h2 := S1.at (o := .lst ((List.replicate (1 + k0) (Str.ofString "code")).map V.str)) na2
  revert S2 h2
  generalize upd H1 a2 (.lst ((List.replicate (1 + k0) (Str.ofString "code")).map V.str)) = H2
  intro S2 h2
  refine ⟨_, rfl, (by show 6 ≤ sizeLine; decide), fun a3 na3 => ⟨a3, rfl, ⟨_, .of upd_same⟩, fun N nN => ?_⟩⟩
  have S3 := S2.new (o := .lst [.str "const", .str "const", .str "table", .str "table", .str "data", .str "room"]) na3
  have h3 := S2.at (o := .lst [.str "const", .str "const", .str "table", .str "table", .str "data", .str "room"]) na3
  have h2' := hid_same (d := d) (w := wa) (same_upd (o := .lst [.str "const", .str "const", .str "table", .str "table", .str "data", .str "room"]) na3) _ _ h2
  revert S3 h3 h2' nN
  generalize upd H2 a3 (.lst [.str "const", .str "const", .str "table", .str "table", .str "data", .str "room"]) = H3
  intro nN S3 h3 h2'
  have fN := S3.frs nN
  have nN0 := S3.none nN
  let six : List Str := ["const", "const", "table", "table", "data", "room"]
  refine lc_it (walk_list (K := K) (a := a3) (xs := six.map V.str)) (fun i H' => ∃ so : List Str, so.length ≤ i ∧ (∀ s ∈ so, s ∈ sortNames) ∧ AccD (fun _ v s => v = V.str s) d wa c H3 N (n + 1 + i) so H') ⟨[], Nat.le_refl _, fun s h => (by cases h), AccD.start (Stp.start S3.dr) nN⟩
    (fun i H' _ p' => by obtain ⟨so, _, _, ac⟩ := p'; exact .of (ac.1.get h3)) (fun i x H4 H5 hi p' y => ?_) (fun H4 p' => ?_)
  · obtain ⟨rfl, hy⟩ := y
    rw [List.getElem?_map] at hy
    obtain ⟨s0, hs0, rfl⟩ := Option.map_eq_some_iff.mp hy
    obtain ⟨so, lso, oks, ac⟩ := p'
    have hi6 : i < 6 := hi
    have s0ok : s0 ∈ sortNames := (show ∀ s ∈ six, s ∈ sortNames by decide) s0 (List.mem_of_getElem? hs0)
    refine ⟨rfl, _, rfl, d, wa, c, n + 1 + i, 3, rfl, ac.1.dr, by omega, by decide, by decide, fun H6 g D6 s6 g0 g1 => ⟨rfl, _, rfl, ?_⟩⟩
    rw [decI]
    by_cases cg : g = 0
    · rw [decide_eq_true cg]
      obtain ⟨l, e1, e2, e3⟩ := AccD.put (d := d) (wa := wa) (c := c) (vals_acc N) fN (hid_none nN) ac D6 s6 (small1000 (by omega)) (a := s0) rfl
      refine ⟨_, rfl, l, e1, e2, so ++ [s0], by rw [List.length_append]; simp; omega, fun s hs => ?_, e3⟩
      rcases List.mem_append.mp hs with hs | hs
      · exact oks s hs
      · rw [List.mem_singleton] at hs
        subst hs
        exact s0ok
    · rw [decide_eq_false cg]
      exact ⟨so, Nat.le_succ_of_le lso, oks, AccD.pass (d := d) (wa := wa) (c := c) (vals_acc N) fN ac D6 s6⟩
  · obtain ⟨so1, lso1, oks1, S4', ys, hN, ey⟩ := p'
    have ey := ey.vals
    subst ey
    have l6 : so1.length ≤ 6 := lso1
    have S4 : Stp d wa c H (n + 7) H4 := ⟨S4'.dr.mono (by show n + 1 + 6 ≤ n + 7; omega), S3.sub.trans S4'.sub⟩
    have h24 : H4 a2 = some (.lst ((List.replicate (1 + k0) (Str.ofString "code")).map V.str)) := S4'.get h2'
    refine ⟨a2, N, _, _, rfl, rfl, h24, hN, ?_, fun S nS => ?_⟩
    · simp only [List.length_map, List.length_replicate]
      exact Nat.le_of_lt (small1000 (by omega))
    rw [← List.map_append]
    obtain ⟨so, hso⟩ : ∃ so, so = List.replicate (1 + k0) (Str.ofString "code") ++ so1 := ⟨_, rfl⟩
    rw [← hso]
    have lso : 1 ≤ so.length ∧ so.length ≤ 12 := by rw [hso, List.length_append, List.length_replicate]; omega
    have oks : ∀ s ∈ so, s ∈ sortNames := fun s hs => by
      rw [hso] at hs
      rcases List.mem_append.mp hs with hs | hs
      · rw [List.eq_of_mem_replicate hs]
        decide
      · exact oks1 s hs
    have S5 := S4.new (o := .lst (so.map V.str)) nS
    have hS5 := S4.at (o := .lst (so.map V.str)) nS
    revert S5 hS5
    generalize upd H4 S (.lst (so.map V.str)) = H5
    intro S5 hS5
    clear nS
    refine ⟨_, rfl, S, rfl, ⟨_, .of (hid_get hS5)⟩, fun L nL => ?_⟩
    have fL := S5.frs nL
    refine lc_it (walk_list (K := K) (a := S) (xs := so.map V.str)) (fun i H' => ∃ ls : List Int, ls.length = i ∧ (∀ l ∈ ls, 0 < l ∧ l ≤ 3) ∧ AccD (fun _ v l => v = V.int l) d wa c H5 L (n + 7 + i) ls H') ⟨[], rfl, fun s h => (by cases h), AccD.start (Stp.start S5.dr) nL⟩
      (fun i H' _ p' => by obtain ⟨ls, _, _, ac⟩ := p'; exact .of (ac.1.get hS5)) (fun i x H6 H7 hi p' y => ?_) (fun H6 p' => ?_)
    · obtain ⟨rfl, hy⟩ := y
      obtain ⟨ls, lls, okl, ac⟩ := p'
      rw [List.length_map] at hi
      refine ⟨rfl, _, rfl, d, wa, c, n + 7 + i, 3, rfl, ac.1.dr, by omega, by decide, by decide, fun H8 g D8 s8 g0 g1 => ⟨_, _, rfl, rfl, ?_⟩⟩
      obtain ⟨l, e1, e2, e3⟩ := AccD.put (d := d) (wa := wa) (c := c) (vals_acc L) fL (hid_none nL) ac D8 s8 (small1000 (by omega)) (a := 1 + g) rfl
      refine ⟨l, e1, e2, ls ++ [1 + g], by rw [List.length_append, lls]; rfl, fun l' hl' => ?_, e3⟩
      rcases List.mem_append.mp hl' with hl' | hl'
      · exact okl l' hl'
      · rw [List.mem_singleton] at hl'
        omega
    · obtain ⟨ls, lls, okl, S6', ys, hL, ey⟩ := p'
      have ey := ey.vals
      subst ey
      rw [List.length_map] at lls S6'
      have S6 : Stp d wa c H (n + 19) H6 := ⟨S6'.dr.mono (by omega), S5.sub.trans S6'.sub⟩
      have hS6 := S6'.sub _ _ hS5
      have hL6 : hid H6 d wa L = some (.lst (ls.map V.int)) := by rw [hid_frs fL]; exact hL
      refine ⟨Nat.zero_le _, fun Fd nF => ⟨(by show 2 ≤ sizeLine; decide), fun tp ntp => ⟨tp, _, rfl, .of upd_same, rfl, _, _, rfl, _, _, rfl, rfl, ?_⟩⟩⟩
      have fF := S6.frs nF
      have nF0 : hid H d wa Fd = none := S6.none nF
      have S7 := (S6.new (o := .lst []) nF).new (o := .tup [.ref L, .ref Fd]) ntp
      have s67 : Same H6 (upd (upd H6 Fd (.lst [])) tp (.tup [.ref L, .ref Fd])) := (same_upd nF).trans (same_upd ntp)
      have hF7 : (upd (upd H6 Fd (.lst [])) tp (.tup [.ref L, .ref Fd])) Fd = some (.lst []) := same_upd ntp _ _ upd_same
      have hS7 := hid_same (d := d) (w := wa) s67 _ _ hS6
      have hL7 := hid_same (d := d) (w := wa) s67 _ _ hL6
      revert S7 hF7 hS7 hL7
      generalize upd (upd H6 Fd (.lst [])) tp (.tup [.ref L, .ref Fd]) = H7
      intro S7 hF7 hS7 hL7
      have eA : EnvAt (hid H7 d wa) S L so ls := ⟨hS7, hL7, by omega, by omega, fun l hl => by have := okl l hl; omega⟩
      refine ⟨_, rfl, d, wa, c, n + 19, 2, rfl, S7.dr, by omega, by decide, by decide, fun H8 g D8 s8 g0 g1 => ⟨_, _, rfl, rfl, _, rfl, by omega, by omega, fun Sk nSk => ?_⟩⟩
      have S8 := S7.call D8 s8
      have eA8 := eA.same s8
      have fS := S8.frs nSk
      let SkR : Hp → V → List (List V) → Prop := fun G v rows => ∃ N vs, v = .ref N ∧ N ≠ Sk ∧ N ≠ Fd ∧ G N = some (.lst vs) ∧ Each (RowAt G) vs rows
      have skS : StD Sk SkR := fun G G' hl hk v rows ⟨N, vs, e, ne, ne2, h, er⟩ => ⟨N, vs, e, ne, ne2, hk _ _ ne h, er.mono (rowAt_st Sk G G' hl hk)⟩
      refine lc_it walk_range (fun i H' => ∃ sks : List (List (List V)), sks.length = i ∧ (∀ r ∈ sks, SkelOk (envOf so ls) r) ∧ AccD SkR d wa c H8 Sk (n + 20 + 40 * i) sks H') ⟨[], rfl, fun s h => (by cases h), AccD.start (Stp.start S8.dr) nSk⟩
        (fun _ _ _ _ => trivial) (fun i x H9 H10 hi p' y => ?_) (fun H9 p' => ?_)
      · obtain ⟨rfl, hx⟩ := y
        obtain ⟨sks, lsk, oksk, ac⟩ := p'
        have i2 : i < 2 := by omega
        refine ⟨rfl, _, rfl, _, rfl, _, rfl, d, wa, c, S, L, n + 20 + 40 * i, so, ls, rfl, ac.1.dr, by omega, eA8.same ac.1.sub, fun H11 N11 vs rows D11 s11 nN11 h11 e11 ok11 => ?_⟩
        have ne : N11 ≠ Sk := fun z => by
          obtain ⟨_, ys, hy, _⟩ := ac
          rw [z, hid_frs fS, hy] at nN11
          cases nN11
        have ne2 : N11 ≠ Fd := fun z => by
          have h8 : hid H8 d wa Fd = some (.lst []) := s8 _ _ (by rw [hid_frs fF]; exact hF7)
          rw [z, ac.1.sub _ _ h8] at nN11
          cases nN11
        obtain ⟨l, e1, e2, e3⟩ := AccD.put skS fS (hid_none nSk) ac D11 s11 (small1000 (by omega)) (a := rows) ⟨N11, vs, rfl, ne, ne2, h11, e11⟩
        refine ⟨l, e1, e2, sks ++ [rows], by rw [List.length_append, lsk]; rfl, fun r hr => ?_, by rw [show n + 20 + 40 * (i + 1) = n + 20 + 40 * i + 40 by omega]; exact e3⟩
        rcases List.mem_append.mp hr with hr | hr
        · exact oksk r hr
        · rw [List.mem_singleton] at hr
          subst hr
          exact ok11
      · obtain ⟨sks, lsk, oksk, S9', ys, hSk, eSk⟩ := p'
        have lsk1 : 1 ≤ sks.length := by omega
        have lsk2 : sks.length ≤ 2 := by omega
        have S9 : Stp d wa c H (n + 100) H9 := ⟨S9'.dr.mono (by omega), S8.sub.trans S9'.sub⟩
        have eA9 := eA8.same S9'.sub
        clear lsk
        have hSk9 : hid H9 d wa Sk = some (.lst ys) := by rw [hid_frs fS]; exact hSk
        have hF8 : H8 Fd = some (.lst []) := hid_get (s8 _ _ (by rw [hid_frs fF]; exact hF7))
        have neF : Fd ≠ Sk := fun z => by rw [z, nSk] at hF8; cases hF8
        have hF9 : H9 Fd = some (.lst []) := hid_get (S9'.sub _ _ (by rw [hid_frs fF]; exact hF8))
        clear hF8
        refine ⟨_, rfl, S, _, rfl, .of (hid_get eA9.atS), ?_⟩
        -- what stands beside the list that is filled
        have dFd : hid (del H9 Fd) d wa = del (hid H9 d wa) Fd := hid_del
        have nS : S ≠ Fd := ne_of_none (hid_get hS6) nF
        have nL' : L ≠ Fd := ne_of_none (hid_get hL6) nF
        have eG : EnvAt (hid (del H9 Fd) d wa) S L so ls := by
          rw [dFd]
          exact ⟨by rw [del_ne nS]; exact eA9.atS, by rw [del_ne nL']; exact eA9.atL, eA9.len, eA9.few, eA9.pos⟩
        have skG : hid (del H9 Fd) d wa Sk = some (.lst ys) := by
          rw [dFd, del_ne neF.symm]
          exact hSk9
        have eSkG : Each (SkR (hid (del H9 Fd) d wa)) ys sks := eSk.mono fun v rows ⟨N, vs, e, ne, ne2, h, er⟩ => by
          rw [dFd]
          refine ⟨N, vs, e, ne, ne2, by rw [del_ne ne2]; exact h, er.mono fun v r ⟨q', e', h'⟩ => ⟨q', e', ?_⟩⟩
          rw [del_ne (fun z => ?_)]
          · exact h'
          · rw [z, hid_frs fF, hF9] at h'
            cases h'
        have sG : Stp d wa c (del H9 Fd) (n + 100) H9 := ⟨S9.dr, by rw [dFd]; exact same_delL⟩
        have nFG : hid (del H9 Fd) d wa Fd = none := by rw [dFd]; exact del_same
        have back : Same (hid H d wa) (hid (del H9 Fd) d wa) := by rw [dFd]; exact same_delR S9.sub nF0
        revert eG skG eSkG sG nFG back
        generalize del H9 Fd = G0
        intro eG skG eSkG sG nFG back
        refine for_it (walk_enum (K := K) (a := S) (xs := so.map V.str)) (fun i σ H' => (∃ u5 u6 u7 u8 u9 u10, σ = [some (.ref d), some (.ref S), some (.ref L), some (.ref Fd), some (.ref Sk), u5, u6, u7, u8, u9, u10, none, none, none, none, none]) ∧ ∃ ps : List Pt, ps.map (·.s) = so.take i ∧ ps.map (·.l) = ls.take i ∧ (∀ p ∈ ps, PatOk (envOf so ls) p) ∧
            AccD PatAt d wa c G0 Fd (n + 100 + 60 * i) ps H') ?_ ?_ ?_ ?_
        · exact ⟨⟨_, _, _, _, _, _, rfl⟩, [], by simp, by simp, fun p h => (by cases h), sG, [], hF9, .nil⟩
        · intro i σ H' _ p
          obtain ⟨_, _, _, _, _, ac⟩ := p
          exact .of (ac.1.get eG.atS)
        · intro i x σ H10 H11 hi p y
          obtain ⟨⟨u5, u6, u7, u8, u9, u10, rfl⟩, ps, ms, ml, okp, ac⟩ := p
          obtain ⟨t, cc, y', rfl, nt, rfl, hc, hy⟩ := y
          cases hc
          replace hy : (so.map V.str)[i]? = some y' := hy
          rw [List.getElem?_map] at hy
          obtain ⟨s0, hs0, rfl⟩ := Option.map_eq_some_iff.mp hy
          have il := lt_of_get hs0
          obtain ⟨l0, hl0⟩ : ∃ l0, ls[i]? = some l0 := ⟨_, List.getElem?_eq_getElem (by omega)⟩
          have hl0V : (ls.map V.int)[i]? = some (.int l0) := by rw [List.getElem?_map, hl0]; rfl
          obtain ⟨lp0, lp1⟩ := okl l0 (List.mem_of_getElem? hl0)
          obtain ⟨lk, rfl⟩ := Int.eq_ofNat_of_zero_le (show 0 ≤ l0 by omega)
          have s0ok := oks s0 (List.mem_of_getElem? hs0)
          have ac1 : AccD PatAt d wa c G0 Fd (n + 100 + 60 * i) ps (upd H10 t (.tup [.int (i : Nat), .str s0])) := AccD.pass (patAt_st Fd) fF ac (ac.1.new nt).dr (hid_same (same_upd nt))
          refine ⟨t, _, rfl, .of upd_same, rfl, _, _, rfl, _, _, rfl, rfl, ?_⟩
          revert ac1
          generalize upd H10 t (.tup [.int (i : Nat), .str s0]) = H12
          intro ac1
          refine ⟨_, rfl, _, rfl, L, _, i, _, rfl, rfl, .of (ac1.1.get eG.atL), atI_n hl0V, ?_⟩
          refine ⟨_, rfl, ?_⟩
          have nx := (by omega : so.length ≤ 12)
          let m0 := n + 100 + 60 * i
          refine ⟨fun σ' H' => ∃ b8, σ' = [some (.ref d), some (.ref S), some (.ref L), some (.ref Fd), some (.ref Sk), some (nV i), some (.str s0), some (.int (lk : Nat)), some b8, u9, u10, none, none, none, none, none] ∧ AccD PatAt d wa c G0 Fd (m0 + 6) ps H' ∧
            ((inV (.str s0) [.str "const", .str "data"] = true ∧ ∃ xs, BdAt (hid H' d wa) b8 (.flat xs) ∧ xs.length = lk ∧ ∀ x ∈ xs, CellOk x) ∨ (inV (.str s0) [.str "const", .str "data"] = false ∧ b8 = .int (lk : Nat))), ?_, fun σ' H13 p1 => ?_⟩
          · refine ⟨_, rfl, (by show 2 ≤ sizeLine; decide), fun p np => ⟨p, [.str "const", .str "data"], rfl, .inl (.of upd_same), rfl, by decide +kernel, _, rfl, ?_⟩⟩
            have ac2 : AccD PatAt d wa c G0 Fd m0 ps (upd H12 p (.lst [.str "const", .str "data"])) := AccD.pass (patAt_st Fd) fF ac1 (ac1.1.new np).dr (hid_same (same_upd np))
            revert ac2
            generalize upd H12 p (.lst [.str "const", .str "data"]) = H13
            intro ac2
            show if inV (.str s0) [.str "const", .str "data"] = true then _ else _
            cases b1 : inV (.str s0) [.str "const", .str "data"] with
            | false => exact ⟨_, rfl, ⟨ac2.1.mono (by omega), ac2.2⟩, .inr ⟨rfl, rfl⟩⟩
            | true =>
              refine ⟨_, rfl, _, rfl, by omega, by omega, fun D nD => ?_⟩
              rw [Int.toNat_natCast]
              have fD := ac2.1.frs nD
              refine lc_it walk_range (fun j H' => ∃ zs : List Int, zs.length = j ∧ (∀ z ∈ zs, 0 ≤ z ∧ z ≤ 63) ∧ AccD (fun _ v z => v = V.int z) d wa c H13 D (m0 + 2 * j) zs H') ⟨[], rfl, fun z h => (by cases h), AccD.start (Stp.start ac2.1.dr) nD⟩ (fun _ _ _ _ => trivial) (fun j x H14 H15 hj p' y => ?_) (fun H14 p' => ?_)
              · obtain ⟨rfl, _⟩ := y
                obtain ⟨zs, lz, okz, acz⟩ := p'
                refine ⟨rfl, _, rfl, d, wa, c, m0 + 2 * j, 2, rfl, acz.1.dr, by omega, by decide, by decide, fun H16 g1 D16 s16 e0 e1 => ⟨_, rfl, d, wa, c, m0 + 2 * j + 1, 64, rfl, D16, by omega, by decide, by decide, fun H17 g2 D17 s17 k0' k1' => ⟨_, _, rfl, rfl, .inl ⟨by omega, by omega⟩, ?_⟩⟩⟩
                obtain ⟨l, q1, q2, q3⟩ := AccD.put (d := d) (wa := wa) (c := c) (vals_acc D) fD (hid_none nD) acz D17 (s16.trans s17) (small1000 (by omega)) (a := g1 * g2) rfl
                have hz : 0 ≤ g1 * g2 ∧ g1 * g2 ≤ 63 := by
                  have : g1 = 0 ∨ g1 = 1 := by omega
                  rcases this with rfl | rfl <;> omega
                refine ⟨l, q1, q2, zs ++ [g1 * g2], by rw [List.length_append, lz]; rfl, fun z hz' => ?_, by rw [show m0 + 2 * (j + 1) = m0 + 2 * j + 1 + 1 by omega]; exact q3⟩
                rcases List.mem_append.mp hz' with hz' | hz'
                · exact okz z hz'
                · rw [List.mem_singleton] at hz'
                  subst hz'
                  exact hz
              · obtain ⟨zs, lz, okz, Sz, ys2, hD2, ey2⟩ := p'
                have ey2 := ey2.vals
                subst ey2
                refine ⟨D, _, rfl, .inl ⟨.of hD2, fun tt ntt => ?_⟩⟩
                have Sn := Sz.new (o := .tup (zs.map V.int)) ntt
                refine ⟨_, rfl, AccD.pass (patAt_st Fd) fF ac2 (Sn.mono (by omega)).dr Sn.sub, .inl ⟨rfl, zs.map V.int, ⟨tt, rfl, Sz.at ntt⟩, by rw [List.length_map, lz], fun x hx => ?_⟩⟩
                obtain ⟨z, hz, rfl⟩ := List.mem_map.mp hx
                exact ⟨z, rfl, okz z hz⟩
          obtain ⟨b8, rfl, ac2, d8⟩ := p1
          refine ⟨fun σ' H' => ∃ b8 u9, σ' = [some (.ref d), some (.ref S), some (.ref L), some (.ref Fd), some (.ref Sk), some (nV i), some (.str s0), some (.int (lk : Nat)), some b8, u9, u10, none, none, none, none, none] ∧ AccD PatAt d wa c G0 Fd (m0 + 9) ps H' ∧
            ((s0 = "table" ∧ ∃ xs, BdAt (hid H' d wa) b8 (.flat xs) ∧ xs.length = lk ∧ ∀ x ∈ xs, ItemOk x ∧ ∀ k, x = .int k → ∃ j : Nat, k = (j : Nat) ∧ so[j]? = some (Str.ofString "code")) ∨ (s0 ≠ "table" ∧
            ((inV (.str s0) [.str "const", .str "data"] = true ∧ ∃ xs, BdAt (hid H' d wa) b8 (.flat xs) ∧ xs.length = lk ∧ ∀ x ∈ xs, CellOk x) ∨ (inV (.str s0) [.str "const", .str "data"] = false ∧ b8 = .int (lk : Nat))))), ?_, fun σ' H14 p2 => ?_⟩
          · refine ⟨_, rfl, rfl, _, rfl, ?_⟩
            rw [decS]
            by_cases c1 : s0 = "table"
            · rw [decide_eq_true c1]
              refine ⟨_, rfl, S, _, rfl, .of (ac2.1.get eG.atS), fun D nD => ?_⟩
              refine lc_it walk_enum (fun i H' => Acc H13 D (fun i => (idxs isCode so i).map nV) i H') (Acc.start nD rfl) (fun i H' _ p' => .of (p'.1 _ _ (ac2.1.get eG.atS))) (fun j x H15 H16 hj p' y => ?_) (fun H15 p' => ?_)
              · obtain ⟨t2, cc2, y2, rfl, nt2, rfl, hc2, hy2⟩ := y
                cases hc2
                replace hy2 : (so.map V.str)[j]? = some y2 := hy2
                rw [List.getElem?_map] at hy2
                obtain ⟨s1', hs1, rfl⟩ := Option.map_eq_some_iff.mp hy2
                have st := idxs_step (p := isCode) hs1
                have few : ((idxs isCode so j).map nV).length < sizeLine := small10 (by
                  rw [List.length_map]
                  have := idxs_len isCode so j
                  rw [List.length_map] at hj
                  omega)
                have s2' : Same H15 (upd H15 t2 (.tup [.int (j : Nat), .str s1'])) := same_upd nt2
                refine ⟨t2, _, rfl, .of upd_same, rfl, _, _, rfl, _, _, rfl, rfl, rfl, ?_⟩
                refine ⟨_, rfl, rfl, _, rfl, ?_⟩
                rw [decS]
                by_cases c2 : s1' = "code"
                · rw [decide_eq_true c2]
                  exact ⟨_, rfl, Acc.put nD p' s2' few (by rw [st, show isCode s1' = true from decide_eq_true c2]; simp; rfl)⟩
                · rw [decide_eq_false c2]
                  exact Acc.pass p' s2' (by rw [st, show isCode s1' = false from decide_eq_false c2]; simp)
              · obtain ⟨s15, hD15⟩ := p'
                simp only [List.length_map] at hD15
                have lid := idxs_len isCode so so.length
                have ac3 : AccD PatAt d wa c G0 Fd (m0 + 6) ps H15 := AccD.pass (patAt_st Fd) fF ac2 (ac2.1.same s15).dr (hid_same s15)
                have fD := ac2.1.frs nD
                have hD15h : hid H15 d wa D = some (.lst ((idxs isCode so so.length).map nV)) := by rw [hid_frs fD]; exact hD15
                clear nD s15 hD15
                refine ⟨_, rfl, _, rfl, by omega, by omega, fun D3 nD3 => ?_⟩
                rw [Int.toNat_natCast]
                have f3 := ac3.1.frs nD3
                refine lc_it walk_range (fun j H' => ∃ xs : List V, xs.length = j ∧ (∀ x ∈ xs, ItemOk x ∧ ∀ k, x = .int k → ∃ j : Nat, k = (j : Nat) ∧ so[j]? = some (Str.ofString "code")) ∧ AccD (fun _ v (z : V) => v = z) d wa c H15 D3 (m0 + 6 + j) xs H') ⟨[], rfl, fun z h => (by cases h), AccD.start (Stp.start ac3.1.dr) nD3⟩ (fun _ _ _ _ => trivial) (fun j x H16 H17 hj p' y => ?_) (fun H16 p' => ?_)
                · obtain ⟨rfl, _⟩ := y
                  obtain ⟨xs, lx, okx, acx⟩ := p'
                  have hD17 : H17 D = some (.lst ((idxs isCode so so.length).map nV)) := acx.1.get hD15h
                  refine ⟨rfl, _, rfl, _, rfl, _, rfl, D, D, _, _, rfl, rfl, hD17, hD17, ?_, fun e1 ne1 => ⟨(by show 2 ≤ sizeLine; decide), fun e2 ne2 => ⟨e1, e2, _, _, rfl, rfl, same_upd ne2 _ _ upd_same, upd_same, ?_, fun e3 ne3 => ?_⟩⟩⟩
                  · simp only [List.length_map]
                    exact Nat.le_of_lt (small1000 (by omega))
                  · simp only [List.length_append, List.length_map]
                    exact Nat.le_of_lt (small1000 (show (idxs isCode so so.length).length + (idxs isCode so so.length).length + 2 ≤ 1000 by omega))
                  have Sx := ((acx.1.new (o := .lst ((idxs isCode so so.length).map nV ++ (idxs isCode so so.length).map nV)) ne1).new (o := .lst [.non, .str "far"]) ne2)
                  refine ⟨d, wa, c, e3, m0 + 6 + j, ((idxs isCode so so.length).map nV ++ (idxs isCode so so.length).map nV) ++ [.non, .str "far"], rfl, (Sx.new ne3).dr, by omega, Sx.at ne3, by simp, ?_, fun H18 x D18 s18 hx => ?_⟩
                  · simp only [List.length_append, List.length_map]
                    exact show (idxs isCode so so.length).length + (idxs isCode so so.length).length + 2 ≤ 1000000 by omega
                  have s17 : Same (hid H17 d wa) (hid H18 d wa) := (hid_same ((same_upd ne1).trans ((same_upd ne2).trans (same_upd ne3)))).trans s18
                  obtain ⟨l, q1, q2, q3⟩ := AccD.put (R := fun _ v (z : V) => v = z) (d := d) (wa := wa) (c := c) (fun _ _ _ _ _ _ h => h) f3 (hid_none nD3) acx D18 s17 (small1000 (by omega)) (a := x) rfl
                  refine ⟨l, q1, q2, xs ++ [x], by rw [List.length_append, lx]; rfl, fun x' hx' => ?_, by rw [show m0 + 6 + (j + 1) = m0 + 6 + j + 1 by omega]; exact q3⟩
                  rcases List.mem_append.mp hx' with hx' | hx'
                  · exact okx x' hx'
                  · rw [List.mem_singleton] at hx'
                    subst hx'
                    have code : ∀ y ∈ (idxs isCode so so.length).map nV, ItemOk y ∧ ∀ k, y = .int k → ∃ j : Nat, k = (j : Nat) ∧ so[j]? = some (Str.ofString "code") := fun y hy => by
                      obtain ⟨k, hk, rfl⟩ := List.mem_map.mp hy
                      obtain ⟨s', h1', h2'⟩ := idxs_mem.mp hk
                      refine ⟨.inr (.inl ⟨_, rfl⟩), fun k' e => ?_⟩
                      cases e
                      exact ⟨k, rfl, by rw [h1', of_decide_eq_true h2']⟩
                    rcases List.mem_append.mp hx with hx | hx
                    · rcases List.mem_append.mp hx with hx | hx
                      · exact code _ hx
                      · exact code _ hx
                    · rcases List.mem_cons.mp hx with rfl | hx
                      · exact ⟨.inl rfl, fun k e => (by cases e)⟩
                      · rw [List.mem_singleton] at hx
                        subst hx
                        exact ⟨.inr (.inr ⟨_, rfl, far_nm⟩), fun k e => (by cases e)⟩
                · obtain ⟨xs, lx, okx, Sx, ys2, hD2, ey2⟩ := p'
                  have ey2 := ey2.vals (f := fun x : V => x)
                  rw [List.map_id'] at ey2
                  subst ey2
                  refine ⟨D3, _, rfl, .inl ⟨.of hD2, fun tt ntt => ?_⟩⟩
                  have Sn := Sx.new (o := .tup ys2) ntt
                  exact ⟨_, _, rfl, AccD.pass (patAt_st Fd) fF ac3 (Sn.mono (by omega)).dr Sn.sub, .inl ⟨c1, ys2, ⟨tt, rfl, Sx.at ntt⟩, lx, okx⟩⟩
            · rw [decide_eq_false c1]
              exact ⟨_, _, rfl, ⟨ac2.1.mono (by omega), ac2.2⟩, .inr ⟨c1, d8⟩⟩
          obtain ⟨b8, u9, rfl, ac3, d9⟩ := p2
          refine ⟨fun σ' H' => ∃ b8 u9 u10, σ' = [some (.ref d), some (.ref S), some (.ref L), some (.ref Fd), some (.ref Sk), some (nV i), some (.str s0), some (.int (lk : Nat)), some b8, u9, u10, none, none, none, none, none] ∧ AccD PatAt d wa c G0 Fd (m0 + 60) ps H' ∧
            ∃ bd, BdAt (hid H' d wa) b8 bd ∧ PatOk (envOf so ls) ⟨s0, (lk : Nat), bd⟩, ?_, fun σ' H15 p3 => ?_⟩
          · refine ⟨_, rfl, rfl, _, rfl, ?_⟩
            rw [decS]
            by_cases c1 : s0 = "code"
            · rw [decide_eq_true c1]
              refine ⟨fun σ' H' => ∃ Rw vs rows, σ' = [some (.ref d), some (.ref S), some (.ref L), some (.ref Fd), some (.ref Sk), some (nV i), some (.str s0), some (.int (lk : Nat)), some b8, u9, some (.ref Rw), none, none, none, none, none] ∧ AccD PatAt d wa c G0 Fd (m0 + 50) ps H' ∧
                hid H' d wa Rw = some (.lst vs) ∧ Each (RowAt (hid H' d wa)) vs rows ∧ SkelOk (envOf so ls) rows, ?_, fun σ' H16 p4 => ?_⟩
              · refine ⟨_, rfl, d, wa, c, m0 + 9, 5, rfl, ac3.1.dr, by omega, by decide, by decide, fun H16 g D16 s16 g0 g1 => ⟨_, _, rfl, rfl, _, rfl, ?_⟩⟩
                have ac4 : AccD PatAt d wa c G0 Fd (m0 + 9 + 1) ps H16 := AccD.pass (patAt_st Fd) fF ac3 D16 s16
                by_cases cg : 0 < g
                · rw [decide_eq_true cg]
                  have lys : ys.length = sks.length := eSkG.1
                  refine ⟨_, rfl, _, rfl, d, wa, c, Sk, m0 + 9 + 1, ys, rfl, ac4.1.dr, by omega, ac4.1.sub _ _ skG, fun z => (by rw [z, List.length_nil] at lys; omega), by omega, fun H17 x D17 s17 hx => ?_⟩
                  obtain ⟨j, hj⟩ := List.getElem?_of_mem hx
                  obtain ⟨rows, hr1, N, vs, rfl, _, _, hN, eN⟩ := eSkG.back hj
                  have sub17 := ac4.1.sub.trans s17
                  exact ⟨N, vs, rows, rfl, AccD.pass (patAt_st Fd) fF ac4 (D17.mono (by omega)) s17, sub17 _ _ hN, eN.mono fun _ _ => RowAt.same sub17, oksk rows (List.mem_of_getElem? hr1)⟩
                · rw [decide_eq_false cg]
                  refine ⟨_, rfl, _, rfl, _, rfl, d, wa, c, S, L, m0 + 9 + 1, so, ls, rfl, ac4.1.dr, by omega, eG.same ac4.1.sub, fun H17 N vs rows D17 s17 nN17 hN eN okN => ?_⟩
                  exact ⟨N, vs, rows, rfl, AccD.pass (patAt_st Fd) fF ac4 (D17.mono (by omega)) s17, hN, eN, okN⟩
              · obtain ⟨Rw, vs, rows, rfl, ac4, hR, eR, okR⟩ := p4
                refine ⟨_, rfl, Rw, rfl, ⟨_, .of (hid_get hR)⟩, fun D3 nD3 => ?_⟩
                have f3 := ac4.1.frs nD3
                have lvs : vs.length = rows.length := eR.1
                have l5 := okR.l2
                refine lc_it (walk_list (K := K) (a := Rw) (xs := vs)) (fun j H' => ∃ rs : List (List V), rs.length = j ∧ (∀ r ∈ rs, RowOk rows.length r ∧ RowFit (envOf so ls) r) ∧ rs.map wordV = (rows.take j).map wordV ∧ AccD RowAt d wa c H16 D3 (m0 + 50 + 2 * j) rs H') ⟨[], rfl, fun z h => (by cases h), by simp, AccD.start (Stp.start ac4.1.dr) nD3⟩
                  (fun j H' _ p' => by obtain ⟨_, _, _, _, a⟩ := p'; exact .of (a.1.get hR)) (fun j x H17 H18 hj p' y => ?_) (fun H17 p' => ?_)
                · obtain ⟨rfl, hy⟩ := y
                  obtain ⟨rs, lr, okr, wr, acr⟩ := p'
                  obtain ⟨r, hr1, q0, rfl, hq0⟩ := eR.back hy
                  obtain ⟨ro1, ro2⟩ := okR.ok r (List.mem_of_getElem? hr1)
                  refine ⟨rfl, _, rfl, _, rfl, _, rfl, _, rfl, d, wa, c, S, L, q0, m0 + 50 + 2 * j, rows.length, so, ls, r, rfl, acr.1.dr, by omega, eG.same (ac4.1.sub.trans acr.1.sub), acr.1.sub _ _ hq0, ro1, ro2, fun H19 qq r' D19 s19 hq k1 k2 k3 => ?_⟩
                  obtain ⟨l, q1, q2, q3⟩ := AccD.put (rowAt_st D3) f3 (hid_none nD3) acr D19 s19 (small1000 (by omega)) (a := r') ⟨qq, rfl, hq⟩
                  refine ⟨l, q1, q2, rs ++ [r'], by rw [List.length_append, lr]; rfl, fun x hx => ?_, by rw [List.map_append, wr, take1 hr1, List.map_append, List.map_singleton, List.map_singleton, k3], by rw [show m0 + 50 + 2 * (j + 1) = m0 + 50 + 2 * j + 2 by omega]; exact q3⟩
                  rcases List.mem_append.mp hx with hx | hx
                  · exact okr x hx
                  · rw [List.mem_singleton] at hx
                    subst hx
                    exact ⟨k1, k2⟩
                · obtain ⟨rs, lr, okr, wr, Sr, ys2, hD2, ey2⟩ := p'
                  refine ⟨D3, _, rfl, .inl ⟨.of hD2, fun tt ntt => ?_⟩⟩
                  have Sn := Sr.new (o := .tup ys2) ntt
                  rw [lvs] at lr wr
                  rw [List.take_length] at wr
                  have lw : lastWord rs = lastWord rows := by
                    unfold lastWord
                    have h1 := getLastD_at (l := rs) (d := []) (by have := okR.l1; omega)
                    have h2 := getLastD_at (l := rows) (d := []) okR.l1
                    have h3 : (rs.map wordV)[rs.length - 1]? = some (wordV (rs.getLastD [])) := by rw [List.getElem?_map, h1]; rfl
                    have h4 : (rows.map wordV)[rows.length - 1]? = some (wordV (rows.getLastD [])) := by rw [List.getElem?_map, h2]; rfl
                    rw [wr, lr, h4] at h3
                    exact (Option.some.inj h3).symm
                  have l1 := okR.l1
                  refine ⟨_, _, _, rfl, AccD.pass (patAt_st Fd) fF ac4 (Sn.mono (by omega)).dr Sn.sub, .code rs, ⟨tt, ys2, rfl, Sr.at ntt, ey2.mono fun _ _ => RowAt.same (hid_same (same_upd ntt))⟩, ⟨⟨c1, by omega, by omega, fun r hr => by rw [lr]; exact (okr r hr).1, by rw [lw]; exact okR.last⟩, fun a ha => ?_, fun h => absurd c1 h, (by show ((rs.length : Nat) : Int) ≤ 5; omega)⟩⟩
                  obtain ⟨r, hr, e⟩ := List.mem_filterMap.mp (show a ∈ rs.filterMap askRow from ha)
                  exact (okr r hr).2 a e
            · rw [decide_eq_false c1]
              refine ⟨_, _, _, rfl, ⟨ac3.1.mono (by omega), ac3.2⟩, ?_⟩
              rcases d9 with ⟨ct, xs, hb, lx, okx⟩ | ⟨ct, ⟨cb, xs, hb, lx, okx⟩ | ⟨cb, rfl⟩⟩
              · refine ⟨.flat xs, hb, ⟨.inl ⟨ct, by omega, by omega, fun x hx => (okx x hx).1⟩, fun a ha => ?_, fun _ => congrArg (fun k : Nat => (k : Int)) lx, (by show ((xs.length : Nat) : Int) ≤ 5; omega)⟩⟩
                have e1 : patAsks ⟨s0, (lk : Nat), .flat xs⟩ = xs.filterMap askItem := if_pos ct
                rw [e1] at ha
                obtain ⟨x, hx, e⟩ := List.mem_filterMap.mp ha
                unfold askItem at e
                by_cases hn : x = .non
                · rw [if_pos hn] at e
                  cases e
                · rw [if_neg hn] at e
                  cases e
                  obtain ⟨io, ic⟩ := okx x hx
                  refine ⟨(show Str.ofString "item of" ∈ askWords by decide +kernel), ?_, fun k hk => ?_⟩
                  · rcases io with rfl | ⟨_, rfl⟩ | ⟨_, rfl, _⟩ <;> rfl
                  · obtain ⟨j, rfl, hj⟩ := ic k hk
                    have jl := lt_of_get hj
                    exact ⟨j, _, ls[j]'(by omega), rfl, env_get hj (List.getElem?_eq_getElem _), (show inV (V.str "code") ((askedL "item of").getD [V.str "code"]) = true by decide +kernel), fun h => absurd h (show ¬ isLS "item of" = true by decide +kernel)⟩
              · have dc : s0 = "data" ∨ s0 = "const" := by
                  have := (show ∀ s ∈ sortNames, inV (.str s) [.str "const", .str "data"] = true → s = "data" ∨ s = "const" by decide +kernel) s0 s0ok cb
                  exact this
                refine ⟨.flat xs, hb, ⟨.inr ⟨dc, by omega, by omega, okx⟩, fun a ha => ?_, fun _ => congrArg (fun k : Nat => (k : Int)) lx, (by show ((xs.length : Nat) : Int) ≤ 5; omega)⟩⟩
                have e1 : patAsks ⟨s0, (lk : Nat), .flat xs⟩ = [] := if_neg ct
                rw [e1] at ha
                cases ha
              · have cr : s0 = "room" := (show ∀ s ∈ sortNames, inV (.str s) [.str "const", .str "data"] = false → s ≠ "table" → s ≠ "code" → s = "room" by decide +kernel) s0 s0ok cb ct c1
                exact ⟨.room (lk : Nat), rfl, ⟨⟨cr, by omega, by omega⟩, fun a ha => (by cases ha), fun _ => rfl, (by show ((lk : Nat) : Int) ≤ 5; omega)⟩⟩
          · obtain ⟨b8, u9, u10, rfl, ac4, bd, hb, po⟩ := p3
            obtain ⟨Sx, ys2, hF2, ey2⟩ := id ac4
            refine ⟨_, rfl, .inl ⟨rfl, _, .of hF2⟩, _, rfl, _, rfl, (by show 2 ≤ sizeLine; decide), fun tt ntt => ?_⟩
            have lps : ps.length = i := by
              have := congrArg List.length ms
              rw [List.length_map, List.length_take] at this
              omega
            have Sn := Sx.new (o := .tup [.str s0, b8]) ntt
            obtain ⟨l, q1, q2, q3⟩ := AccD.put (patAt_st Fd) fF nFG ac4 Sn.dr (hid_same (same_upd ntt)) (small1000 (by omega)) (a := ⟨s0, (lk : Nat), bd⟩) ⟨tt, b8, rfl, Sx.at ntt, hb.same (hid_same (same_upd ntt))⟩
            refine ⟨Fd, l, .ref tt, rfl, rfl, q1, q2, ⟨_, _, _, _, _, _, rfl⟩, ps ++ [⟨s0, (lk : Nat), bd⟩], by rw [List.map_append, ms, take1 hs0]; rfl, by rw [List.map_append, ml, take1 hl0]; rfl, fun p hp => ?_, by rw [show n + 100 + 60 * (i + 1) = m0 + 60 by omega]; exact q3⟩
            rcases List.mem_append.mp hp with hp | hp
            · exact okp p hp
            · rw [List.mem_singleton] at hp
              subst hp
              exact po
        · intro σ H' p
          obtain ⟨⟨u5, u6, u7, u8, u9, u10, rfl⟩, ps, ms, ml, okp, S', ys', hF', e'⟩ := p
          have lsl : so.length = ls.length := by omega
          rw [List.length_map] at ms ml S'
          rw [List.take_length] at ms
          rw [List.take_of_length_le (by omega)] at ml
          have ee : envOf so ls = envP ps := by
            unfold envOf
            rw [← ms, ← ml, env_zip]
          have lps : ps.length = so.length := by rw [← ms, List.length_map]
          refine ⟨_, rfl, q H' Fd ys' ps (S'.mono (by omega)).dr (back.trans S'.sub) (by rw [hid_frs fF]; exact hF') e' (by omega) (by omega) ?_⟩
          rw [← ee]
          exact okp
end
end K41
set_option maxHeartbeats 4000000
namespace K41
open PySem PySem.Spec PyProof.Rows L2
/-! ### rows as data -/
def okP : V → Bool
  | .int _ => true
  | .str z => PyData.strOk z
  | .non => true
  | _ => false
def dOf : V → PyData
  | .int i => .int i
  | .str z => .str z
  | _ => .none
theorem dp_flat {K : PySem.W.Frag} {H : Hp} {x : V} (h : okP x = true) : Dp K H x (dOf x) := by
  cases x with
  | int i => exact .int i
  | str z => exact .str z
  | non => exact .non
  | _ => exact absurd (show false = true from h) Bool.false_ne_true
theorem dps_flat {K : PySem.W.Frag} {H : Hp} : ∀ {xs : List V}, (∀ x ∈ xs, okP x = true) → DpAll K H xs (xs.map dOf)
  | [], _ => .nil
  | x :: xs, h => .cons (dp_flat (h x List.mem_cons_self)) (dps_flat fun y hy => h y (List.mem_cons_of_mem _ hy))
theorem lay_flat : ∀ {xs : List V}, (∀ x ∈ xs, okP x = true) → PyData.canLayAll0 (xs.map dOf) = true ∧ PyData.depthAll (xs.map dOf) = 0
  | [], _ => ⟨rfl, by simp [PyData.depthAll]⟩
  | x :: xs, h => by
    have ih := lay_flat (xs := xs) fun y hy => h y (List.mem_cons_of_mem _ hy)
    have hx := h x List.mem_cons_self
    have h1 : PyData.canLay0 (dOf x) = true ∧ PyData.depth (dOf x) = 0 := by
      cases x with
      | int i => exact ⟨rfl, by simp [dOf, PyData.depth]⟩
      | str z => exact ⟨hx, by simp [dOf, PyData.depth]⟩
      | non => exact ⟨rfl, by simp [dOf, PyData.depth]⟩
      | _ => exact absurd (show false = true from hx) Bool.false_ne_true
    refine ⟨?_, ?_⟩
    · simp only [List.map_cons, PyData.canLayAll0, ih.1, h1.1, Bool.and_true]
    · simp only [List.map_cons, PyData.depthAll, ih.2, h1.2]
      omega
theorem shaped_flat {xs : List V} (h : ∀ x ∈ xs, okP x = true) : SeqAt.shaped (.tuple (xs.map dOf)) = true := by
  obtain ⟨h1, h2⟩ := lay_flat h
  show (PyData.canLayAll0 (xs.map dOf) && decide (PyData.depthAll (xs.map dOf) + 1 ≤ 64)) = true
  rw [h1, h2]
  decide
theorem row_okP {m : Nat} {r : List V} (ok : RowOk m r) : ∀ x ∈ r, okP x = true := by
  obtain ⟨z, args, sg, rfl, hz, hf, hl, hp⟩ := ok.ex
  intro x hx
  rcases List.mem_cons.mp hx with rfl | hx
  · exact (show ∀ z ∈ words, PyData.strOk z = true by decide +kernel) z hz
  · obtain ⟨i, hi⟩ := List.getElem?_of_mem hx
    have il := lt_of_get hi
    have h1 := hp i _ x (Array.getElem?_eq_getElem (by omega)) hi
    unfold PartOk at h1
    split at h1
    · rcases h1 with ⟨_, rfl⟩ | ⟨zn, rfl, hn⟩
      · rfl
      · exact strOk_nm hn
    · split at h1
      · obtain ⟨_, rfl, _⟩ := h1
        rfl
      · obtain ⟨_, _, rfl, _⟩ := h1
        rfl
/-! ### homes -/
def HomeAt (G : Hp) (v : V) (ks : List Nat) : Prop := ∃ N, v = .ref N ∧ G N = some (.lst (ks.map nV))
structure HomesAt (G : Hp) (A : Addr) (hs : List (List Nat)) : Prop where
  ex : ∃ vs, G A = some (.lst vs) ∧ Each (HomeAt G) vs hs
  ne : ∀ ks ∈ hs, ks ≠ [] ∧ ks.length ≤ 1000
theorem HomesAt.same {G G' : Hp} {A : Addr} {hs : List (List Nat)} (h : HomesAt G A hs) (s : Same G G') : HomesAt G' A hs := by
  obtain ⟨vs, h1, e⟩ := h.ex
  exact ⟨⟨vs, s _ _ h1, e.mono fun v ks ⟨N, e, h⟩ => ⟨N, e, s _ _ h⟩⟩, h.ne⟩
structure PatsAt (G : Hp) (A : Addr) (ps : List Pt) : Prop where
  ex : ∃ vs, G A = some (.lst vs) ∧ Each (PatAt G) vs ps
theorem PatsAt.same {G G' : Hp} {A : Addr} {ps : List Pt} (h : PatsAt G A ps) (s : Same G G') : PatsAt G' A ps := by
  obtain ⟨vs, h1, e⟩ := h.ex
  exact ⟨vs, s _ _ h1, e.mono fun _ _ => PatAt.same s⟩
/-- where the copies stand: those of the j-th pattern have its sort and length -/
def HomeOk (ps : List Pt) (hs : List (List Nat)) (e : Env') : Prop := ∀ (j : Nat) (ks : List Nat), hs[j]? = some ks → ∀ k ∈ ks, ∃ p, ps[j]? = some p ∧ e[k]? = some (p.s, lenB p.bd)
section
variable {P : Program} {w : World} {K : PySem.W.Frag} {mg : Str → Option Value} {base : Heap} {f : Addr} {fd : FuncData}
def spHome : Sp := fun args H Q _ => ∃ (d wa c A B : Addr) (n : Nat) (ps : List Pt) (hs : List (List Nat)) (x : V) (z : Str), args = [.ref d, .ref A, .ref B, x, .str z] ∧ Dr H d wa c n ∧ n + 2 ≤ 1000000 ∧ PatsAt (hid H d wa) A ps ∧ HomesAt (hid H d wa) B hs ∧ ps.length = hs.length ∧
  plain x = true ∧ (∀ i, x = .int i → ∃ j : Nat, i = (j : Nat) ∧ j < hs.length) ∧
  ∀ H' y, Dr H' d wa c (n + 2) → Same (hid H d wa) (hid H' d wa) → ((∀ i, x ≠ .int i) → y = x) → (∀ j : Nat, x = nV j → ∃ ks, hs[j]? = some ks ∧ ∃ k ∈ ks, y = nV k) → Q y H'
theorem sc_law_home : FnScope ["_law_draw", "_law_patterns_here", "_law_homes", "_law_j", "_law_word"] ["_law_draw", "_law_patterns_here", "_law_homes", "_law_j", "_law_word"] (defScope (top 63)) := ⟨rfl, rfl, rfl, by decide +kernel, rfl, by decide +kernel, by decide +kernel⟩
theorem ok_law_home (F : FnP K "_law_home" 63 f fd) (T : Txt w K mg) (C_law_take : Cal P w K mg base CX0 2 "_law_take" spTake) (C_law_pick : Cal P w K mg base CX0 3 "_law_pick" spPick) : FnOk P w K mg base CX0 4 f fd ["_law_draw", "_law_patterns_here", "_law_homes", "_law_j", "_law_word"] spHome := by
  refine F.ok sc_law_home (fun vs H Q E h => by obtain ⟨a, r, c, _, _, _, _, _, _, _, rfl, _⟩ := h; rfl) (fun cdv A outer s H vs Q E hr h => ?_)
  have nd := sc_law_home.nd
  obtain ⟨d, wa, c, A, B, n, ps, hs, x, z, rfl, D, hn, hA, hB, lph, px, hx, q⟩ := h
  refine ⟨_, PSs.nox 
    (pss_cons (ps_if (PW.pt (pw_or (pt_val (pe_callB (x_isi K) (by rfl) T.b_isinstance (by decide +kernel) (pa_cons (pv 3) (pa_cons (pe_bltn (v := .ty "str") (by rfl) T.b_str (by decide +kernel) rfl) pa_nil)))) (pw_or1 (pt_cmpR op_isN (pv 3) pe_non (nomark _))))) 
      (pss_one (ps_ret (pv 3))) pss_nil)
    (pss_cons (ps_if (PW.pt (pw_or (pt_cmpR (x_in K) (pe_ix (x_tup K) (pe_ix (x_lst K) (pv 1) (pv 3) (fun _ _ => rfl)) pe_int (fun _ _ => rfl)) (pe_lst (pa_cons pe_str (pa_cons pe_str pa_nil))) (by rfl)) (pw_or1 (pt_cmpR (x_in K) (pv 4) (pe_lst (pa_cons pe_str (pa_cons pe_str pa_nil))) (by rfl))))) 
      (pss_one (ps_ret (pe_ifExp (pt_cmpR op_gt (pe_fn C_law_take hr (by rfl) pass0 (pa_cons (pv 0) (pa_cons pe_int pa_nil))) pe_int (nomark _)) (pe_ix (x_lst K) (pe_ix (x_lst K) (pv 2) (pv 3) (fun _ _ => rfl)) pe_int (fun _ _ => rfl)) (pe_fn C_law_pick hr (by rfl) pass0 (pa_cons (pv 0) (pa_cons (pe_ix (x_lst K) (pv 2) (pv 3) (fun _ _ => rfl)) pa_nil)))))) pss_nil)
    (pss_one (ps_ret (pe_fn C_law_pick hr (by rfl) pass0 (pa_cons (pv 0) (pa_cons (pe_ix (x_lst K) (pv 2) (pv 3) (fun _ _ => rfl)) pa_nil))))))), ?_⟩
  have S0 := Stp.start D
  cases x with
  | str zz => exact ⟨_, rfl, _, _, _, _, true, rfl, .ty _, tyS zz, kit_ty (by decide +kernel), _, rfl, _, rfl, q _ _ (D.mono (by omega)) (Same.refl _) (fun _ => rfl) (fun j e => (by cases e))⟩
  | non =>
    refine ⟨_, rfl, _, _, _, _, false, rfl, .ty _, tyN, kit_ty (by decide +kernel), _, rfl, ?_⟩
    refine ⟨_, rfl, rfl, _, rfl, ?_⟩
    rw [decide_eq_true rfl]
    exact ⟨_, rfl, q _ _ (D.mono (by omega)) (Same.refl _) (fun _ => rfl) (fun j e => (by cases e))⟩
  | int i =>
    obtain ⟨j, rfl, jl⟩ := hx i rfl
    obtain ⟨pvs, hA1, eA⟩ := hA.ex
    obtain ⟨hvs, hB1, eB⟩ := hB.ex
    obtain ⟨p, hp⟩ : ∃ p, ps[j]? = some p := ⟨_, List.getElem?_eq_getElem (by omega)⟩
    obtain ⟨ks, hks⟩ : ∃ ks, hs[j]? = some ks := ⟨_, List.getElem?_eq_getElem jl⟩
    obtain ⟨pv', hpv, t, b, rfl, ht, _⟩ := eA.get hp
    obtain ⟨hv, hhv, N, rfl, hN⟩ := eB.get hks
    obtain ⟨kne, kl⟩ := hB.ne ks (List.mem_of_getElem? hks)
    refine ⟨_, rfl, _, _, _, _, false, rfl, .ty _, tyI _, kit_ty (by decide +kernel), _, rfl, ?_⟩
    refine ⟨_, rfl, rfl, _, rfl, ?_⟩
    rw [decide_eq_false (fun e => nomatch e)]
    have pick : ∀ {n' : Nat} {H1 : Hp}, n' ≤ n + 1 → Stp d wa c H n' H1 → spPick [.ref d, .ref N] H1 Q E0 := fun {n' H1} hn' S1 => by
      refine ⟨d, wa, c, N, n', ks.map nV, rfl, S1.dr, by omega, S1.sub _ _ hN, by simpa using kne, by rw [List.length_map]; omega, fun H2 y D2 s2 hy => ?_⟩
      have S2 := S1.call D2 s2
      refine q H2 y (D2.mono (by omega)) S2.sub (fun h => absurd rfl (h _)) fun j' e => ?_
      have : j' = j := by have := V.int.inj e; omega
      subst this
      obtain ⟨k, hk, rfl⟩ := List.mem_map.mp hy
      exact ⟨ks, hks, k, hk, rfl⟩
    have first : ∀ {n' : Nat} {H1 : Hp}, n' ≤ n + 1 → Stp d wa c H n' H1 → ∃ k r, ks = k :: r ∧ Q (nV k) H1 := fun {n' H1} hn' S1 => by
      cases hk : ks with
      | nil => exact absurd hk kne
      | cons k r =>
        refine ⟨k, r, rfl, q H1 _ (S1.mono (by omega)).dr S1.sub (fun h => absurd rfl (h _)) fun j' e => ?_⟩
        have : j' = j := by have := V.int.inj e; omega
        subst this
        exact ⟨ks, hks, k, by rw [hk]; exact List.mem_cons_self, rfl⟩
    have tail : ∀ {H1 : Hp}, Stp d wa c H n H1 → spTake [.ref d, .int 9] H1 (fun v H2 => ∃ g, v = .int g ∧ ∀ (b : Bool), True) E0 → True := fun _ _ => trivial
    refine ⟨_, rfl, _, rfl, A, _, j, _, rfl, rfl, .of (S0.get hA1), atI_n hpv, t, _, 0, _, rfl, rfl, .of (S0.get ht), at0, (by show 2 ≤ sizeLine; decide), fun p1 np1 => ⟨p1, [.str "data", .str "room"], rfl, .inl (.of upd_same), rfl, by decide +kernel, _, rfl, ?_⟩⟩
    have S1 := S0.new (o := .lst [.str "data", .str "room"]) np1
    revert S1
    generalize upd H p1 (.lst [.str "data", .str "room"]) = H1
    intro S1
    show if inV (.str p.s) [.str "data", .str "room"] = true then _ else _
    cases b1 : inV (.str p.s) [.str "data", .str "room"] with
    | true =>
      refine ⟨_, rfl, d, wa, c, n, 9, rfl, S1.dr, by omega, by decide, by decide, fun H2 g D2 s2 g0 g1 => ⟨_, _, rfl, rfl, _, rfl, ?_⟩⟩
      have S2 := S1.call D2 s2
      by_cases cg : 0 < g
      · rw [decide_eq_true cg]
        obtain ⟨k, r, e, hq⟩ := first (Nat.le_refl _) S2
        refine ⟨_, rfl, _, rfl, B, _, j, _, rfl, rfl, .of (S2.get hB1), atI_n hhv, N, _, 0, _, rfl, rfl, .of (S2.get hN), by rw [e]; exact at0, hq⟩
      · rw [decide_eq_false cg]
        exact ⟨_, rfl, _, rfl, _, rfl, B, _, j, _, rfl, rfl, .of (S2.get hB1), atI_n hhv, pick (Nat.le_refl _) S2⟩
    | false =>
      refine ⟨_, rfl, (by show 2 ≤ sizeLine; decide), fun p2 np2 => ⟨p2, [.str "take", .str "item of"], rfl, .inl (.of upd_same), rfl, by decide +kernel, _, rfl, ?_⟩⟩
      have S2 := S1.new (o := .lst [.str "take", .str "item of"]) np2
      revert S2
      generalize upd H1 p2 (.lst [.str "take", .str "item of"]) = H2
      intro S2
      show if inV (.str z) [.str "take", .str "item of"] = true then _ else _
      cases b2 : inV (.str z) [.str "take", .str "item of"] with
      | true =>
        refine ⟨_, rfl, d, wa, c, n, 9, rfl, S2.dr, by omega, by decide, by decide, fun H3 g D3 s3 g0 g1 => ⟨_, _, rfl, rfl, _, rfl, ?_⟩⟩
        have S3 := S2.call D3 s3
        by_cases cg : 0 < g
        · rw [decide_eq_true cg]
          obtain ⟨k, r, e, hq⟩ := first (Nat.le_refl _) S3
          refine ⟨_, rfl, _, rfl, B, _, j, _, rfl, rfl, .of (S3.get hB1), atI_n hhv, N, _, 0, _, rfl, rfl, .of (S3.get hN), by rw [e]; exact at0, hq⟩
        · rw [decide_eq_false cg]
          exact ⟨_, rfl, _, rfl, _, rfl, B, _, j, _, rfl, rfl, .of (S3.get hB1), atI_n hhv, pick (Nat.le_refl _) S3⟩
      | false =>
        exact ⟨_, rfl, _, rfl, _, rfl, B, _, j, _, rfl, rfl, .of (S2.get hB1), atI_n hhv, pick (by omega) S2⟩
  | _ => exact absurd (show false = true from px) Bool.false_ne_true
end
end K41
set_option maxHeartbeats 4000000
namespace K41
open PySem PySem.Spec PyProof.Rows L2
/-- y stands for x behind the copying: a pattern's number becomes a copy's -/
def Mv (hs : List (List Nat)) (x y : V) : Prop := ((∀ i, x ≠ .int i) → y = x) ∧ ∀ j : Nat, x = nV j → ∃ ks, hs[j]? = some ks ∧ ∃ k ∈ ks, y = nV k
theorem ls_asked {w s : Str} (h : isLS w = true) (hi : inV (.str s) ((askedL w).getD [.str "code"]) = true) : s ≠ "code" := by
  rintro rfl
  unfold isLS at h
  simp only [Bool.or_eq_true, decide_eq_true_eq] at h
  rcases h with rfl | rfl
  · exact absurd hi (show ¬ inV (V.str "code") ((askedL "load").getD [V.str "code"]) = true by decide +kernel)
  · exact absurd hi (show ¬ inV (V.str "code") ((askedL "store").getD [V.str "code"]) = true by decide +kernel)
theorem move {ps : List Pt} {hs : List (List Nat)} {e : Env'} (ho : HomeOk ps hs e) (okp : ∀ p ∈ ps, PatOk (envP ps) p) {x y : V} {w : Str} {c : V} (h : FitsE (envP ps) (x, w, c)) (m : Mv hs x y) : FitsE e (y, w, c) := by
  obtain ⟨h1, h2, h3⟩ := h
  by_cases hx : ∃ i, x = .int i
  · obtain ⟨i, rfl⟩ := hx
    obtain ⟨j, s, l, rfl, he, hin, hls⟩ := h3 i rfl
    obtain ⟨ks, hks, k, hk, rfl⟩ := m.2 j rfl
    obtain ⟨p, hp, hek⟩ := ho j ks hks k hk
    have e1 : (envP ps)[j]? = some (p.s, p.l) := by unfold envP; rw [List.getElem?_map, hp]; rfl
    rw [e1] at he
    cases he
    refine ⟨h1, rfl, fun i hi => ?_⟩
    cases hi
    refine ⟨k, _, _, rfl, hek, hin, fun hw => ?_⟩
    obtain ⟨g, hg, hl⟩ := hls hw
    have := (okp p (List.mem_of_getElem? hp)).len (ls_asked hw hin)
    exact ⟨g, hg, by omega⟩
  · have e := m.1 fun i z => hx ⟨i, z⟩
    subst e
    exact ⟨h1, h2, fun i hi => absurd ⟨i, hi⟩ hx⟩
theorem mv_item {hs : List (List Nat)} {x y : V} (h : ItemOk x) (hi : ∀ i, x = .int i → ∃ j : Nat, i = (j : Nat)) (m : Mv hs x y) : ItemOk y ∧ (y = .non ↔ x = .non) := by
  rcases h with rfl | ⟨i, rfl⟩ | ⟨z, rfl, hz⟩
  · have e := m.1 (fun i z => nomatch z)
    subst e
    exact ⟨.inl rfl, Iff.rfl⟩
  · obtain ⟨j, rfl⟩ := hi i rfl
    obtain ⟨_, _, k, _, rfl⟩ := m.2 j rfl
    exact ⟨.inr (.inl ⟨_, rfl⟩), ⟨fun z => (nomatch z), fun z => (nomatch z)⟩⟩
  · have e := m.1 (fun i z => nomatch z)
    subst e
    exact ⟨.inr (.inr ⟨_, rfl, hz⟩), Iff.rfl⟩
theorem table_asks (s : Str) (l : Int) (xs : List V) (h : s = "table") : patAsks ⟨s, l, .flat xs⟩ = xs.filterMap askItem := if_pos h
section
variable {P : Program} {w : World} {K : PySem.W.Frag} {mg : Str → Option Value} {base : Heap} {f : Addr} {fd : FuncData}
def spCopied : Sp := fun args H Q _ => ∃ (d wa c A B : Addr) (n j : Nat) (ps : List Pt) (hs : List (List Nat)) (p : Pt) (e : Env'), args = [.ref d, .ref A, .ref B, .int j] ∧ Dr H d wa c n ∧ n + 40 ≤ 1000000 ∧ PatsAt (hid H d wa) A ps ∧ HomesAt (hid H d wa) B hs ∧ ps.length = hs.length ∧
  ps[j]? = some p ∧ (∀ p ∈ ps, PatOk (envP ps) p) ∧ HomeOk ps hs e ∧
  ∀ H' b bd, Dr H' d wa c (n + 40) → Same (hid H d wa) (hid H' d wa) → BdAt (hid H' d wa) b bd → BdOk p.s bd → lenB bd = lenB p.bd → (∀ a ∈ patAsks ⟨p.s, 0, bd⟩, FitsE e a) → Q b H'
theorem sc_law_copied : FnScope ["_law_draw", "_law_patterns_here", "_law_homes", "_law_j", "_law_sort", "_law_body", "_law_rows", "_law_row", "_law_at", "_law_item"] ["_law_draw", "_law_patterns_here", "_law_homes", "_law_j"] (defScope (top 64)) := ⟨rfl, rfl, rfl, by decide +kernel, rfl, by decide +kernel, by decide +kernel⟩
theorem ok_law_copied (F : FnP K "_law_copied" 64 f fd) (T : Txt w K mg) (C_law_take : Cal P w K mg base CX0 2 "_law_take" spTake) (C_law_pick : Cal P w K mg base CX0 3 "_law_pick" spPick) (C_law_home : Cal P w K mg base CX0 4 "_law_home" spHome) (C_law_place : Cal P w K mg base CX0 1 "_law_place" spLPlace) :
    FnOk P w K mg base CX0 5 f fd ["_law_draw", "_law_patterns_here", "_law_homes", "_law_j"] spCopied := by
  refine F.ok sc_law_copied (fun vs H Q E h => by obtain ⟨a, r, c, _, _, _, _, _, _, _, _, rfl, _⟩ := h; rfl) (fun cdv A outer s H vs Q E hr h => ?_)
  have nd := sc_law_copied.nd
  obtain ⟨d, wa, c, A, B, n, j, ps, hs, p, e, rfl, D, hn, hA, hB, lph, hp, okp, ho, q⟩ := h
  refine ⟨_, PSs.nox 
    (pss_cons (ps_asg (pe_ix (x_lst K) (pv 1) (pv 3) (fun _ _ => rfl)) (pg_tup rfl (pgs_cons (pg_name (i := 4) nd rfl (Or.inl rfl)) (pgs_cons (pg_name (i := 5) nd rfl (Or.inl rfl)) pgs_nil))))
    (pss_cons (ps_if (pt_cmpR op_eq (pv 4) pe_str (nomark _)) 
      (pss_one (ps_ret (pe_callTy call_tuple_of (by rfl) T.b_tuple (by decide +kernel) (pa_cons (pe_lc (own := [("_law_item", 9)]) rfl nd (pi_tup (pv 5)) (blkOk_by (own := [("_law_item", 9)]) (N := ["_law_draw", "_law_patterns_here", "_law_homes", "_law_j", "_law_sort", "_law_body", "_law_rows", "_law_row", "_law_at", "_law_item"]) (sc := defScope (top 64)) (by decide +kernel)) (fun _ _ _ _ _ => (pg_name (i := 9) nd rfl (Or.inl rfl))) (fun _ _ _ _ _ => pts_nil) (fun _ _ _ _ _ => (pe_fn C_law_home hr (by rfl) pass0 (pa_cons (pv 0) (pa_cons (pv 1) (pa_cons (pv 2) (pa_cons (pv 9) (pa_cons pe_str pa_nil)))))))) pa_nil)))) pss_nil)
    (pss_cons (ps_if (pt_cmpR op_ne (pv 4) pe_str (nomark _)) 
      (pss_one (ps_ret (pv 5))) pss_nil)
    (pss_cons (ps_set (i := 6) nd rfl (Or.inl rfl) (pe_lst pa_nil))
    (pss_cons (ps_for PassesOwn.never rfl (pi_tup (pv 5)) (pg_name (i := 7) nd rfl (Or.inl rfl)) 
      (pss_cons (ps_set (i := 8) nd rfl (Or.inl rfl) (pe_fn C_law_place hr (by rfl) pass0 (pa_cons (pv 7) pa_nil)))
      (C8.pss_cut (ps_if (pt_cmpR op_gt (pv 8) pe_int (nomark _)) 
        (pss_one (ps_set (i := 7) nd rfl (Or.inl rfl) (pe_op (x_catA K) (pe_op (x_catA K) (pe_slice (x_slA K) (pv 7) po_none (po_some (pv 8))) (pe_tup (pa_cons (pe_fn C_law_home hr (by rfl) pass0 (pa_cons (pv 0) (pa_cons (pv 1) (pa_cons (pv 2) (pa_cons (pe_ix (x_tup K) (pv 7) (pv 8) (fun _ _ => rfl)) (pa_cons (pe_ix (x_tup K) (pv 7) pe_int (fun _ _ => rfl)) pa_nil)))))) pa_nil))) (pe_slice (x_slA K) (pv 7) (po_some (pe_op op_add (pv 8) pe_int)) po_none)))) 
        (pss_one (ps_if (PW.pt (pw_and (pt_cmpR (x_eqD K hr.units) (pv 7) (pe_tup (pa_cons pe_str (pa_cons pe_int pa_nil))) (nomark _)) (pw_and1 (pt_cmpR op_eq (pe_fn C_law_take hr (by rfl) pass0 (pa_cons (pv 0) (pa_cons pe_int pa_nil))) pe_int (nomark _))))) 
          (pss_one (ps_set (i := 7) nd rfl (Or.inl rfl) (pe_tup (pa_cons pe_str (pa_cons (pe_fn C_law_pick hr (by rfl) pass0 (pa_cons (pv 0) (pa_cons (pe_ix (x_lst K) (pv 2) (pv 3) (fun _ _ => rfl)) pa_nil))) pa_nil))))) pss_nil)))
      (pss_one (ps_expr (pe_bm PySem.F.plainAttrs_list PySem.F.slot_list_append PySem.F.type_list_append mt_append (pv 6) (pa_cons (pv 7) pa_nil)))))))
    (pss_one (ps_ret (pe_callTy call_tuple_of (by rfl) T.b_tuple (by decide +kernel) (pa_cons (pv 6) pa_nil))))))))), ?_⟩
  have S0 := Stp.start D
  have pok := okp p (List.mem_of_getElem? hp)
  obtain ⟨pvs, hA1, eA⟩ := hA.ex
  obtain ⟨pv', hpv, t, b, rfl, ht, hb⟩ := eA.get hp
  have jl := lt_of_get hp
  have lead_ok : ∀ {x : V} {w' : Str} {c' : V}, FitsE (envP ps) (x, w', c') → (∀ i, x = .int i → ∃ j : Nat, i = (j : Nat) ∧ j < hs.length) := fun {x w' c'} hf i hi => by
    obtain ⟨j', s, l, h1, h2, _⟩ := hf.2.2 i hi
    have := lt_of_get h2
    unfold envP at this
    rw [List.length_map] at this
    exact ⟨j', h1, by omega⟩
  refine ⟨_, rfl, _, rfl, A, _, j, _, rfl, rfl, .of (S0.get hA1), atI_n hpv, t, _, rfl, .of (S0.get ht), rfl, _, _, rfl, _, _, rfl, rfl, ?_⟩
  refine ⟨_, rfl, rfl, _, rfl, ?_⟩
  rw [decS]
  obtain ⟨s, l, bd⟩ := p
  have bo : BdOk s bd := pok.ok
  by_cases c1 : s = "table"
  · rw [decide_eq_true c1]
    cases bd with
    | room m => exact absurd (c1.symm.trans bo.1) (by decide +kernel)
    | code rows => exact absurd (c1.symm.trans bo.1) (by decide +kernel)
    | flat xs =>
      obtain ⟨pa, rfl, hpa⟩ := hb
      rcases bo with ⟨_, lx1, lx2, items⟩ | ⟨h | h, _⟩
      · have fits : ∀ x ∈ xs, x ≠ .non → FitsE (envP ps) (x, Str.ofString "item of", .int 0) := fun x hx hne => by
          refine pok.fit _ ?_
          rw [table_asks s l xs c1]
          exact List.mem_filterMap.mpr ⟨x, hx, if_neg hne⟩
        refine ⟨_, rfl, pa, rfl, ⟨_, .of (S0.get hpa)⟩, fun D1 nD1 => ?_⟩
        have f1 := S0.frs nD1
        refine lc_it (walk_tup (K := K) (a := pa) (xs := xs)) (fun i H' => AccD (fun _ v x => Mv hs x v) d wa c H D1 (n + 2 * i) (xs.take i) H') (AccD.start S0 nD1) (fun i H' _ p' => .of (p'.1.get hpa)) (fun i x H1 H2 hi p' y => ?_) (fun H1 p' => ?_)
        · obtain ⟨rfl, hx⟩ := y
          have hxm := List.mem_of_getElem? hx
          have io := items x hxm
          have il := lt_of_get hx
          have po : plain x = true := by rcases io with rfl | ⟨_, rfl⟩ | ⟨_, rfl, _⟩ <;> rfl
          have hint : ∀ i, x = .int i → ∃ j : Nat, i = (j : Nat) ∧ j < hs.length := fun i hi => lead_ok (fits x hxm (fun z => by rw [z] at hi; cases hi)) i hi
          refine ⟨rfl, _, rfl, _, rfl, _, rfl, _, rfl, d, wa, c, A, B, n + 2 * i, ps, hs, x, _, rfl, p'.1.dr, by omega, hA.same p'.1.sub, hB.same p'.1.sub, lph, po, hint, fun H3 y D3 s3 m1 m2 => ?_⟩
          obtain ⟨l', q1, q2, q3⟩ := AccD.put (R := fun _ v x => Mv hs x v) (d := d) (wa := wa) (c := c) (fun _ _ _ _ _ _ h => h) f1 (S0.none nD1) p' D3 s3 (small1000 (by rw [List.length_take]; omega)) (a := x) ⟨m1, m2⟩
          exact ⟨l', q1, q2, by rw [take1 hx, show n + 2 * (i + 1) = n + 2 * i + 2 by omega]; exact q3⟩
        · obtain ⟨S1, ys, hD1, em⟩ := p'
          rw [List.take_length] at em
          refine ⟨D1, _, rfl, .inl ⟨.of hD1, fun tt ntt => ?_⟩⟩
          have Sn := S1.new (o := .tup ys) ntt
          have lys : ys.length = xs.length := em.1
          refine q _ (.ref tt) (.flat ys) (Sn.mono (by omega)).dr Sn.sub ⟨tt, rfl, S1.at ntt⟩ (.inl ⟨c1, by omega, by omega, fun y hy => ?_⟩) (congrArg (fun k : Nat => (k : Int)) lys) fun a ha => ?_
          · obtain ⟨i, hi⟩ := List.getElem?_of_mem hy
            obtain ⟨x, hx, mv⟩ := em.back hi
            have hxm := List.mem_of_getElem? hx
            exact (mv_item (items x hxm) (fun i hi => let ⟨j, h, _⟩ := lead_ok (fits x hxm (fun z => by rw [z] at hi; cases hi)) i hi; ⟨j, h⟩) mv).1
          · rw [table_asks s 0 ys c1] at ha
            obtain ⟨y, hy, ea⟩ := List.mem_filterMap.mp ha
            unfold askItem at ea
            by_cases hn' : y = .non
            · rw [if_pos hn'] at ea
              cases ea
            · rw [if_neg hn'] at ea
              cases ea
              obtain ⟨i, hi⟩ := List.getElem?_of_mem hy
              obtain ⟨x, hx, mv⟩ := em.back hi
              have hxm := List.mem_of_getElem? hx
              have hxn : x ≠ .non := fun z => hn' (by rw [mv.1 (fun i e => by rw [z] at e; cases e), z])
              exact move ho okp (fits x hxm hxn) mv
      · exact absurd (c1.symm.trans h) (by decide +kernel)
      · exact absurd (c1.symm.trans h) (by decide +kernel)
  · rw [decide_eq_false c1]
    refine ⟨_, rfl, rfl, _, rfl, ?_⟩
    rw [decS]
    by_cases c2 : s = "code"
    · rw [decide_eq_true c2]
      cases bd with
      | room m => exact absurd (c2.symm.trans bo.1) (by decide +kernel)
      | flat xs =>
        rcases bo with ⟨h, _⟩ | ⟨h | h, _⟩ <;> exact absurd (c2.symm.trans h) (by decide +kernel)
      | code rows =>
        obtain ⟨_, l1, l2, okr, ll⟩ := bo
        obtain ⟨pa, rvs, rfl, hpa, er⟩ := hb
        have fits : ∀ r ∈ rows, RowFit (envP ps) r := fun r hr a ha => pok.fit a (List.mem_filterMap.mpr ⟨r, hr, ha⟩)
        have l5 : rows.length ≤ 5 := by
          have h : ((rows.length : Nat) : Int) ≤ 5 := pok.few
          omega
        refine ⟨Nat.zero_le _, fun N nN => ?_⟩
        have fN := S0.frs nN
        have nN0 := S0.none nN
        refine ⟨_, rfl, pa, rfl, ⟨_, .of ((S0.new (o := .lst []) nN).get hpa)⟩, ?_⟩
        refine for_it (walk_tup (K := K) (a := pa) (xs := rvs)) (fun i σ H' => (∃ u7 u8, σ = [some (.ref d), some (.ref A), some (.ref B), some (.int (j : Nat)), some (.str s), some (.ref pa), some (.ref N), u7, u8, none]) ∧ ∃ rs : List (List V), rs.length = i ∧ (∀ r ∈ rs, RowOk rows.length r ∧ RowFit e r) ∧
            (∀ (k : Nat) r r', rows[k]? = some r → rs[k]? = some r' → inV (wordV r) lastsL = true → inV (wordV r') lastsL = true) ∧ AccD RowAt d wa c H N (n + 2 * i) rs H') ?_ ?_ ?_ ?_
        · exact ⟨⟨_, _, rfl⟩, [], rfl, fun r h => (by cases h), fun k r r' _ h => (by simp at h), AccD.start S0 nN⟩
        · intro i σ H' _ p
          obtain ⟨_, rs, _, _, _, ac⟩ := p
          exact .of (ac.1.get hpa)
        · intro i x σ H1 H2 hi p y
          obtain ⟨⟨u7, u8, rfl⟩, rs, lr, okrs, lst, ac⟩ := p
          obtain ⟨rfl, hy⟩ := y
          obtain ⟨r, hr1, q0, rfl, hq0⟩ := er.back hy
          have hrm := List.mem_of_getElem? hr1
          have ro := okr r hrm
          have il := lt_of_get hr1
          obtain ⟨z, args, sg, rfl, hz, _⟩ := id ro.ex
          refine ⟨_, rfl, q0, z, args, rfl, ac.1.get hq0, hz, fun H3 s3 => ?_⟩
          have ac3 : AccD RowAt d wa c H N (n + 2 * i) rs H3 := AccD.pass (rowAt_st N) fN ac (ac.1.same s3).dr (hid_same s3)
          refine ⟨fun σ' H' => ∃ q' r' u8, σ' = [some (.ref d), some (.ref A), some (.ref B), some (.int (j : Nat)), some (.str s), some (.ref pa), some (.ref N), some (.ref q'), u8, none] ∧ AccD RowAt d wa c H N (n + 2 * i + 2) rs H' ∧ hid H' d wa q' = some (.tup r') ∧
            RowOk rows.length r' ∧ RowFit e r' ∧ (inV (.str z) lastsL = true → inV (wordV r') lastsL = true), ?_, fun σ' H4 pm => ?_⟩
          · refine ⟨_, rfl, _, _, rfl, rfl, _, rfl, ?_⟩
            cases hp2 : placeOf z with
            | some pz =>
              obtain ⟨x, ex, hx, xx⟩ := row_lead ro hp2
              have b1 := (place_ok z hz pz hp2).1
              rw [decide_eq_true (show (0 : Int) < Option.getD (some pz) 0 by show 0 < pz; omega)]
              have ask := askRow_eq (args := args) hp2
              rw [ex] at ask
              have fx := fits _ hrm _ ask
              have po : plain x = true := fx.2.1
              obtain ⟨pn, rfl⟩ := Int.eq_ofNat_of_zero_le (show 0 ≤ pz by omega)
              have b2 : pn < (V.str z :: args).length := by
                have := (rowSet ro hp2 (x := .int 0) (partX (.inl ⟨_, rfl⟩))).2.1
                rw [Int.toNat_natCast] at this
                exact this
              have nlen : ((V.str z :: args).take pn).length = pn := by rw [List.length_take]; omega
              have len19 : (V.str z :: args).length ≤ 1000 := by
                obtain ⟨z', args0, sg', e0, hz0, hf0, hl0, _⟩ := ro.ex
                cases e0
                have : ∀ s ∈ words, ∀ t, formOf s = some t → t.cps.size < 100 := by decide +kernel
                have := this z hz0 sg' hf0
                rw [List.length_cons]
                omega
              refine ⟨_, rfl, _, rfl, pn, rfl, q0, _, rfl, .of (ac3.1.get hq0), fun zz => ?_, fun _ p1 np1 => ?_⟩
              · have z2 := zz.2
                rw [HT.sIx_nat, Nat.min_eq_left (by omega)] at z2
                omega
              rw [cutTo2]
              have S8 := ac3.1.new (o := .tup ((V.str z :: args).take pn)) np1
              have a8 := ac3.1.at (o := .tup ((V.str z :: args).take pn)) np1
              have ac8 : AccD RowAt d wa c H N (n + 2 * i) rs (upd H3 p1 (.tup ((V.str z :: args).take pn))) := AccD.pass (rowAt_st N) fN ac3 S8.dr (hid_same (same_upd np1))
              revert S8 a8 ac8
              generalize upd H3 p1 (.tup ((V.str z :: args).take pn)) = H8
              intro S8 a8 ac8
              refine ⟨_, rfl, _, rfl, _, rfl, _, rfl, _, rfl, q0, _, pn, x, rfl, rfl, .of (S8.get hq0), hx, _, rfl, q0, _, 0, _, rfl, rfl, .of (S8.get hq0), at0, d, wa, c, A, B, n + 2 * i, ps, hs, x, z, rfl, S8.dr, by omega, hA.same S8.sub, hB.same S8.sub, lph, po, lead_ok fx, fun H9 y D9 s9 m1 m2 => ?_⟩
              have S9 := S8.call D9 s9
              have ac9 : AccD RowAt d wa c H N (n + 2 * i + 2) rs H9 := AccD.pass (rowAt_st N) fN ac8 D9 s9
              have a9 : H9 p1 = some (.tup ((V.str z :: args).take pn)) := hid_get (s9 _ _ a8)
              have py : PartOk rows.length 120 y := by
                rcases xx with ⟨k, rfl⟩ | ⟨zn, rfl, hzn⟩
                · obtain ⟨j', rfl, _⟩ := lead_ok fx k rfl
                  obtain ⟨_, _, k', _, rfl⟩ := m2 j' rfl
                  exact partX (.inl ⟨_, rfl⟩)
                · rw [m1 (fun i z => nomatch z)]
                  exact partX (.inr ⟨zn, rfl, hzn⟩)
              obtain ⟨_, _, ⟨args2, b3⟩, b4, b5⟩ := rowSet ro hp2 (x := y) py
              rw [Int.toNat_natCast] at b3 b4 b5
              refine ⟨(by show 1 ≤ sizeLine; decide), fun p2 np2 => ?_⟩
              refine ⟨p1, p2, _, _, rfl, rfl, .of (same_upd np2 _ _ a9), .of upd_same, ?_, fun ee => ?_, fun _ ee => (by cases ee), fun _ _ p3 np3 => ?_⟩
              · rw [nlen]
                exact Nat.le_of_lt (small1000 (show pn + 1 ≤ 1000 by omega))
              · have := congrArg List.length ee
                rw [nlen] at this
                simp at this
                omega
              have S10 := (S9.new (o := .tup [y]) np2).new (o := .tup ((V.str z :: args).take pn ++ [y])) np3
              have f3 := (S9.new (o := .tup [y]) np2).frs np3
              have a10 := upd_same (H := upd H9 p2 (.tup [y])) (a := p3) (o := .tup ((V.str z :: args).take pn ++ [y]))
              have ac10 : AccD RowAt d wa c H N (n + 2 * i + 2) rs (upd (upd H9 p2 (.tup [y])) p3 (.tup ((V.str z :: args).take pn ++ [y]))) := AccD.pass (rowAt_st N) fN ac9 S10.dr (hid_same ((same_upd np2).trans (same_upd np3)))
              revert S10 a10 ac10
              clear np3
              generalize upd (upd H9 p2 (.tup [y])) p3 (.tup ((V.str z :: args).take pn ++ [y])) = H10
              intro S10 a10 ac10
              have done : ∀ {H5 : Hp} {q' : Addr}, Same H10 H5 → hid H5 d wa q' = some (.tup ((V.str z :: args).set pn y)) → ∃ q2 r' u8, [some (V.ref d), some (V.ref A), some (V.ref B), some (V.int (j : Nat)), some (V.str s), some (V.ref pa), some (V.ref N), some (V.ref q'), some (V.int ((pn : Nat) : Int)), none] = [some (.ref d), some (.ref A), some (.ref B), some (.int (j : Nat)), some (.str s), some (.ref pa), some (.ref N), some (.ref q2), u8, none] ∧
                  AccD RowAt d wa c H N (n + 2 * i + 2) rs H5 ∧ hid H5 d wa q2 = some (.tup r') ∧ RowOk rows.length r' ∧ RowFit e r' ∧ (inV (.str z) lastsL = true → inV (wordV r') lastsL = true) := fun {H5 q'} sH h5 => by
                refine ⟨q', _, _, rfl, AccD.pass (rowAt_st N) fN ac10 (S10.same sH).dr (hid_same sH), h5, b4, fun a ha => ?_, fun h => ?_⟩
                · rw [b5] at ha
                  cases ha
                  exact move ho okp fx ⟨m1, m2⟩
                · rw [b3]
                  exact h
              have esp := set_split (V.str z :: args) pn y b2
              refine ⟨_, rfl, _, rfl, _, _, rfl, rfl, _, rfl, q0, _, rfl, .of (S10.get hq0), fun zz => ?_, fun _ p4 np4 => ?_⟩
              · have z1 : HT.sIx (V.str z :: args).length 0 (some ((pn + 1 : Nat) : Int)) = 0 := zz.1
                rw [HT.sIx_nat] at z1
                omega
              have ec : cutV (V.str z :: args) (some ((pn : Int) + 1)) none = (V.str z :: args).drop (pn + 1) := cutFrom _ (k := pn + 1) (by omega)
              show rCatA K _ _ (upd H10 p4 (.tup (cutV (V.str z :: args) (some ((pn : Int) + 1)) none))) _
              rw [ec]
              have a11 := same_upd (o := .tup ((V.str z :: args).drop (pn + 1))) np4 _ _ a10
              refine ⟨p3, p4, _, _, rfl, rfl, .of a11, .of upd_same, ?_, fun ee => (by simp at ee), fun _ ee => ?_, fun _ _ p5 np5 => ?_⟩
              · rw [List.length_append, nlen, List.length_drop]
                exact Nat.le_of_lt (small1000 (by simp only [List.length_singleton]; omega))
              · refine done (same_upd np4) ?_
                have h3 : hid (upd H10 p4 (.tup ((V.str z :: args).drop (pn + 1)))) d wa p3 = some (.tup ((V.str z :: args).take pn ++ [y])) := by
                  rw [hid_frs f3]
                  exact a11
                rw [h3, ← esp, ee]
              · refine done ((same_upd np4).trans (same_upd np5)) ?_
                rw [(S10.new np4).at np5, ← esp, List.append_assoc]
                rfl
            | none =>
              rw [decide_eq_false (show ¬ (0 : Int) < Option.getD (none : Option Int) 0 by decide)]
              have okd := row_okP ro
              refine ⟨_, rfl, (by show 2 ≤ sizeLine; decide), fun p1 np1 => ⟨.tuple ((V.str z :: args).map dOf), .tuple [.str "goto", .int 0], .tup (.of (same_upd np1 _ _ (ac3.1.get hq0))) (dps_flat okd), .tup (.of upd_same) (.cons (.str _) (.cons (.int _) .nil)), shaped_flat okd, by decide +kernel, _, rfl, ?_⟩⟩
              have S5 := ac3.1.new (o := .tup [.str "goto", .int 0]) np1
              have ac5 : AccD RowAt d wa c H N (n + 2 * i) rs (upd H3 p1 (.tup [.str "goto", .int 0])) := AccD.pass (rowAt_st N) fN ac3 S5.dr (hid_same (same_upd np1))
              revert S5 ac5
              generalize upd H3 p1 (.tup [.str "goto", .int 0]) = H5
              intro S5 ac5
              have same : ∀ {n' : Nat} {H6 : Hp}, n' ≤ n + 2 * i + 2 → AccD RowAt d wa c H N n' rs H6 → ∃ q2 r' u8, [some (V.ref d), some (V.ref A), some (V.ref B), some (V.int (j : Nat)), some (V.str s), some (V.ref pa), some (V.ref N), some (V.ref q0), some (V.int (Option.getD (none : Option Int) 0)), none] = [some (.ref d), some (.ref A), some (.ref B), some (.int (j : Nat)), some (.str s), some (.ref pa), some (.ref N), some (.ref q2), u8, none] ∧
                  AccD RowAt d wa c H N (n + 2 * i + 2) rs H6 ∧ hid H6 d wa q2 = some (.tup r') ∧ RowOk rows.length r' ∧ RowFit e r' ∧ (inV (.str z) lastsL = true → inV (wordV r') lastsL = true) := fun hn' ac6 =>
                ⟨q0, _, _, rfl, ⟨ac6.1.mono hn', ac6.2⟩, ac6.1.sub _ _ hq0, ro, RowFit.plain hp2, id⟩
              cases bq : PyData.eqv (.tuple ((V.str z :: args).map dOf)) (.tuple [.str "goto", .int 0]) with
              | false => exact same (by omega) ac5
              | true =>
                refine ⟨_, rfl, d, wa, c, n + 2 * i, 2, rfl, S5.dr, by omega, by decide, by decide, fun H6 g D6 s6 g0 g1 => ⟨rfl, _, rfl, ?_⟩⟩
                have S6 := S5.call D6 s6
                have ac6 : AccD RowAt d wa c H N (n + 2 * i + 1) rs H6 := AccD.pass (rowAt_st N) fN ac5 D6 s6
                rw [decI]
                by_cases cg : g = 0
                · rw [decide_eq_true cg]
                  obtain ⟨hvs, hB1, eB⟩ := hB.ex
                  obtain ⟨ks, hks⟩ : ∃ ks, hs[j]? = some ks := ⟨_, List.getElem?_eq_getElem (by omega)⟩
                  obtain ⟨hv, hhv, N', rfl, hN'⟩ := eB.get hks
                  obtain ⟨kne, kl⟩ := hB.ne ks (List.mem_of_getElem? hks)
                  refine ⟨_, rfl, _, rfl, _, rfl, B, _, j, _, rfl, rfl, .of (S6.get hB1), atI_n hhv, d, wa, c, N', n + 2 * i + 1, ks.map nV, rfl, S6.dr, by omega, S6.sub _ _ hN', by simpa using kne, by rw [List.length_map]; omega, fun H7 y D7 s7 hy => ?_⟩
                  obtain ⟨k, hk, rfl⟩ := List.mem_map.mp hy
                  have S7 := S6.call D7 s7
                  obtain ⟨p', hp', hek⟩ := ho j ks hks k hk
                  rw [hp] at hp'
                  cases hp'
                  refine ⟨(by show 2 ≤ sizeLine; decide), fun p2 np2 => ⟨p2, [.str "jump", nV k], _, rfl, AccD.pass (rowAt_st N) fN ac6 (S7.new np2).dr (s7.trans (hid_same (same_upd np2))), S7.at np2, ?_, ?_, fun _ => (by decide +kernel : inV (V.str "jump") lastsL = true)⟩⟩
                  · exact RowOk.r1 (by decide +kernel) (by decide +kernel : formOf "jump" = some ⟨[120].toArray⟩) (partX (.inl ⟨_, rfl⟩))
                  · exact jump_fit rfl fun i hi => by cases hi; exact ⟨k, _, _, rfl, hek, c2⟩
                · rw [decide_eq_false cg]
                  exact same (by omega) ac6
          · obtain ⟨q', r', u8', rfl, ac4, hq', k1, k2, k3⟩ := pm
            obtain ⟨Sx, ys2, hN2, ey2⟩ := id ac4
            obtain ⟨l', q1, q2, q3⟩ := AccD.put (rowAt_st N) fN nN0 ac4 Sx.dr (Same.refl _) (small1000 (by omega)) (a := r') ⟨q', rfl, hq'⟩
            refine ⟨_, rfl, .inl ⟨rfl, _, .of hN2⟩, _, rfl, N, l', _, rfl, rfl, q1, q2, ⟨_, _, rfl⟩, rs ++ [r'], by rw [List.length_append, lr]; rfl, fun x hx => ?_, fun k a a' h1 h2 h3 => ?_, by rw [show n + 2 * (i + 1) = n + 2 * i + 2 by omega]; exact q3⟩
            · rcases List.mem_append.mp hx with hx | hx
              · exact okrs x hx
              · rw [List.mem_singleton] at hx
                subst hx
                exact ⟨k1, k2⟩
            · by_cases ek : k < i
              · rw [List.getElem?_append_left (by omega)] at h2
                exact lst k a a' h1 h2 h3
              · have := lt_of_get h2
                rw [List.length_append] at this
                have ek2 : k = i := by simp at this; omega
                subst ek2
                rw [List.getElem?_append_right (by omega), lr, Nat.sub_self] at h2
                cases h2
                rw [hr1] at h1
                cases h1
                exact k3 h3
        · intro σ H' p
          obtain ⟨⟨u7, u8, rfl⟩, rs, lr, okrs, lst, Sx, ys2, hN2, ey2⟩ := p
          have lrv : rvs.length = rows.length := er.1
          rw [lrv] at lr
          refine ⟨_, rfl, N, _, rfl, .inl ⟨.of hN2, fun tt ntt => ?_⟩⟩
          have Sn := Sx.new (o := .tup ys2) ntt
          refine q _ (.ref tt) (.code rs) (Sn.mono (by omega)).dr Sn.sub ⟨tt, ys2, rfl, Sx.at ntt, ey2.mono fun _ _ => RowAt.same (hid_same (same_upd ntt))⟩ ⟨c2, by omega, by omega, fun r hr => by rw [lr]; exact (okrs r hr).1, ?_⟩ (congrArg (fun k : Nat => (k : Int)) lr) fun a ha => ?_
          · have h1 := getLastD_at (l := rs) (d := []) (by omega)
            have h2 := getLastD_at (l := rows) (d := []) l1
            rw [lr] at h1
            exact lst _ _ _ h2 h1 ll
          · obtain ⟨r, hr, ea⟩ := List.mem_filterMap.mp (show a ∈ rs.filterMap askRow from ha)
            exact (okrs r hr).2 a ea
    · rw [decide_eq_false c2]
      refine ⟨_, rfl, q H _ bd (D.mono (by omega)) (Same.refl _) hb bo rfl fun a ha => ?_⟩
      have e0 : patAsks ⟨s, 0, bd⟩ = [] := by
        cases bd with
        | room m => rfl
        | flat xs => exact if_neg c1
        | code rows => exact absurd bo.1 c2
      rw [e0] at ha
      cases ha
end
end K41
set_option maxHeartbeats 4000000
namespace K41
open PySem PySem.Spec PyProof.Rows L2
def sfx : List Str := ["", "q", "zz"]
def labN (k : Nat) (s : Str) : Str := (⟨#[lettersS.cps.toList.getD k 0]⟩ : Str) ++ s
theorem labN_ok : ∀ k ∈ List.range 26, ∀ s ∈ sfx, isNm (labN k s) = true ∧ (labN k s).cps.toList.headD 0 = 97 + k ∧ lettersS.cps.toList[k]? = some (lettersS.cps.toList.getD k 0) ∧ s.length ≤ 2 := by decide +kernel
structure LabsOk (m : Nat) (as : List (Int × Str)) : Prop where
  len : as.length = m
  nd : as.Nodup
  ok : ∀ a ∈ as, 0 ≤ a.1 ∧ isNm a.2 = true
def Raw (as : List (Int × Str)) : Prop := ∀ (j : Nat) a, as[j]? = some a → a.1 = 0 ∧ ∃ s ∈ sfx, a.2 = labN j s
theorem Raw.labs {as : List (Int × Str)} (h : Raw as) (l : as.length ≤ 26) : LabsOk as.length as := by
  have key : ∀ (j : Nat) a, as[j]? = some a → 0 ≤ a.1 ∧ isNm a.2 = true ∧ a.2.cps.toList.headD 0 = 97 + j := fun j a hj => by
    obtain ⟨h1, s, hs, h2⟩ := h j a hj
    have jl := lt_of_get hj
    obtain ⟨k1, k2, _⟩ := labN_ok j (List.mem_range.mpr (by omega)) s hs
    rw [h2]
    exact ⟨by omega, k1, k2⟩
  refine ⟨rfl, ?_, fun a ha => ?_⟩
  · have e : as.map (fun a => a.2.cps.toList.headD 0) = (List.range as.length).map (fun j => 97 + j) := by
      refine List.ext_getElem (by simp) fun i h1 h2 => ?_
      rw [List.length_map] at h1
      have := (key i _ (List.getElem?_eq_getElem h1)).2.2
      simpa using this
    have nd : ((List.range as.length).map (fun j => 97 + j)).Nodup := by
      rw [List.Nodup, List.pairwise_map]
      exact (List.nodup_range (n := as.length)).imp fun h z => h (by omega)
    rw [← e] at nd
    exact List.Pairwise.of_map _ (fun a b h z => h (by rw [z])) nd
  · obtain ⟨j, hj⟩ := List.getElem?_of_mem ha
    exact ⟨(key j a hj).1, (key j a hj).2.1⟩
theorem Raw.snoc {as : List (Int × Str)} (h : Raw as) {s : Str} (hs : s ∈ sfx) : Raw (as ++ [(0, labN as.length s)]) := fun j a hj => by
  by_cases c : j < as.length
  · rw [List.getElem?_append_left c] at hj
    exact h j a hj
  · have := lt_of_get hj
    rw [List.length_append] at this
    have e : j = as.length := by simp at this; omega
    subst e
    rw [List.getElem?_append_right (by omega), Nat.sub_self] at hj
    cases hj
    exact ⟨rfl, s, hs, rfl⟩
theorem each_perm {α : Type} {R : V → α → Prop} {xs ys : List V} (p : ys.Perm xs) : ∀ {as : List α}, Each R xs as → ∃ bs, bs.Perm as ∧ Each R ys bs := by
  induction p with
  | nil => intro as e; exact ⟨as, .refl _, e⟩
  | @cons x l1 l2 _ ih =>
    intro as e
    cases as with
    | nil => exact absurd e.1 (by simp)
    | cons a as =>
      obtain ⟨r, e⟩ := e.tail
      obtain ⟨bs, p, e⟩ := ih e
      exact ⟨a :: bs, p.cons a, .cons r e⟩
  | @swap x y l =>
    intro as e
    cases as with
    | nil => exact absurd e.1 (by simp)
    | cons a as =>
      obtain ⟨r, e⟩ := e.tail
      cases as with
      | nil => exact absurd e.1 (by simp)
      | cons b as =>
        obtain ⟨r', e⟩ := e.tail
        exact ⟨b :: a :: as, .swap _ _ _, .cons r' (.cons r e)⟩
  | trans _ _ ih1 ih2 =>
    intro as e
    obtain ⟨bs, p, e⟩ := ih2 e
    obtain ⟨cs, p', e⟩ := ih1 e
    exact ⟨cs, p'.trans p, e⟩
theorem LabsOk.perm {m : Nat} {as bs : List (Int × Str)} (h : LabsOk m as) (p : bs.Perm as) : LabsOk m bs := ⟨by rw [p.length_eq]; exact h.len, p.symm.nodup h.nd, fun a ha => h.ok a (p.mem_iff.mp ha)⟩
theorem labAt_stD (D : Addr) : StD D LabAt := fun H H' hl h v a => labAt_st D H H' hl h v a
section
variable {P : Program} {w : World} {K : PySem.W.Frag} {mg : Str → Option Value} {base : Heap} {f : Addr} {fd : FuncData}
def spLabels : Sp := fun args H Q _ => ∃ (d wa c : Addr) (n m : Nat), args = [.ref d, .int m] ∧ Dr H d wa c n ∧ n + 52 ≤ 1000000 ∧ m ≤ 26 ∧
  ∀ H' N vs as, Dr H' d wa c (n + 52) → Same (hid H d wa) (hid H' d wa) → hid H' d wa N = some (.lst vs) → Each (LabAt (hid H' d wa)) vs as → LabsOk m as → Q (.ref N) H'
theorem sc_law_labels : FnScope ["_law_draw", "_law_many", "_law_letters", "_law_k"] ["_law_draw", "_law_many"] (defScope (top 65)) := ⟨rfl, rfl, rfl, by decide +kernel, rfl, by decide +kernel, by decide +kernel⟩
theorem ok_law_labels (F : FnP K "_law_labels" 65 f fd) (T : Txt w K mg) (C_law_pick : Cal P w K mg base CX0 3 "_law_pick" spPick) (C_law_shuffled : Cal P w K mg base CX0 3 "_law_shuffled" spShuf) :
    FnOk P w K mg base CX0 4 f fd ["_law_draw", "_law_many"] spLabels := by
  refine F.ok sc_law_labels (fun vs H Q E h => by obtain ⟨a, r, c, _, _, rfl, _⟩ := h; rfl) (fun cdv A outer s H vs Q E hr h => ?_)
  have nd := sc_law_labels.nd
  obtain ⟨d, wa, c, n, m, rfl, D, hn, hm, q⟩ := h
  refine ⟨_, PSs.nox 
    (pss_cons (ps_set (i := 2) nd rfl (Or.inr rfl) pe_str)
    (pss_one (ps_ret (pe_fn C_law_shuffled hr (by rfl) pass0 (pa_cons (pv 0) (pa_cons (pe_lc (own := [("_law_k", 3)]) rfl nd (pi_range1 (by rfl) T.b_range (pa_cons (pv 1) pa_nil)) (blkOk_by (own := [("_law_k", 3)]) (N := ["_law_draw", "_law_many", "_law_letters", "_law_k"]) (sc := defScope (top 65)) (by decide +kernel)) (fun _ _ _ _ _ => (pg_name (i := 3) nd rfl (Or.inl rfl))) (fun _ _ _ _ _ => pts_nil) (fun _ _ _ _ _ => (pe_tup (pa_cons (pe_op op_fdiv (pv 3) pe_int) (pa_cons (pe_op op_add_str (pe_ix ix_str (pv 2) (pe_op op_mod (pe_callTy call_int1 (by rfl) T.b_int (by decide +kernel) (pa_cons (pv 3) pa_nil)) pe_int) (fun _ _ => rfl)) (pe_fn C_law_pick hr (by rfl) pass0 (pa_cons (pv 0) (pa_cons (pe_lst (pa_cons pe_str (pa_cons pe_str (pa_cons pe_str pa_nil)))) pa_nil)))) pa_nil))))) pa_nil)))))), ?_⟩
  have S0 := Stp.start D
  refine ⟨_, rfl, _, rfl, _, rfl, by omega, by omega, fun N nN => ?_⟩
  have fN := S0.frs nN
  have nN0 := S0.none nN
  show ∃ W : Nat → Nat → Hp → Prop, (∃ m, W 0 m (upd H N (.lst []))) ∧ _
  rw [Int.toNat_natCast]
  refine lc_it walk_range (fun i H' => ∃ as, as.length = i ∧ AccD LabAt d wa c H N (n + i) as H' ∧ Raw as) ⟨[], rfl, AccD.start S0 nN, fun j a h => (by simp at h)⟩ (fun _ _ _ _ => trivial) (fun i x H3 H4 hi p y => ?_) (fun H3 p => ?_)
  · obtain ⟨rfl, hx⟩ := y
    obtain ⟨as, rfl, ac, raw⟩ := p
    have S3 := ac.1
    replace hx : x = nV as.length := hx.trans (congrArg V.int (Int.zero_add _))
    subst hx
    have lk := labN_ok as.length (List.mem_range.mpr (by omega))
    have e1 : ((as.length : Nat) : Int) % 26 = ((as.length : Nat) : Int) := by omega
    have e0 : ((as.length : Nat) : Int) / 26 = 0 := by omega
    refine ⟨rfl, _, rfl, _, _, rfl, rfl, ⟨by decide, by decide⟩, _, rfl, _, rfl, .inl ⟨_, rfl, _, _, rfl, rfl, (by decide : (0 : Int) < 26), ?_⟩⟩
    refine ⟨lettersS, _, lettersS.cps.toList.getD as.length 0, rfl, rfl, by decide +kernel, (by rw [e1]; exact atI_nat (lk "" (by decide +kernel)).2.2.1), _, rfl, (by show 3 ≤ sizeLine; decide), fun p np => ⟨d, wa, c, p, n + as.length, [.str "", .str "q", .str "zz"], rfl, (S3.new np).dr, by omega, S3.at np, (by simp), (by decide), fun H5 y D5 s5 hy => ?_⟩⟩
    have S5 := (S3.new np).call D5 s5
    have ac5 : AccD LabAt d wa c H N (n + as.length + 1) as H5 := AccD.pass (labAt_stD N) fN ac D5 ((hid_same (same_upd np)).trans s5)
    obtain ⟨s, hs, rfl⟩ : ∃ s ∈ sfx, y = .str s := by
      simp only [List.mem_cons, List.not_mem_nil, or_false] at hy
      rcases hy with rfl | rfl | rfl
      · exact ⟨_, .head _, rfl⟩
      · exact ⟨_, .tail _ (.head _), rfl⟩
      · exact ⟨_, .tail _ (.tail _ (.head _)), rfl⟩
    obtain ⟨k1, k2, k3, k4⟩ := lk s hs
    refine ⟨_, _, rfl, rfl, Nat.le_of_lt (small1000 (by show 1 + s.length ≤ _; omega)), (by show 2 ≤ sizeLine; decide), fun t nt => ?_⟩
    obtain ⟨l, h1, h2, h3⟩ := AccD.put (labAt_stD N) fN nN0 ac5 (S5.new nt).dr (hid_same (same_upd nt)) (small1000 (by omega)) (a := ((0 : Int), labN as.length s)) ⟨t, rfl, (S5.at (o := .tup [.int (((as.length : Nat) : Int) / 26), .str (labN as.length s)]) nt).trans (by rw [e0])⟩
    exact ⟨l, h1, h2, _, by rw [List.length_append]; rfl, h3, raw.snoc hs⟩
  · obtain ⟨as, rfl, ⟨S3, ys, hN, ey⟩, raw⟩ := p
    have lab := raw.labs hm
    refine ⟨d, wa, c, N, n + as.length, ys, rfl, S3.dr, by rw [ey.1]; omega, by rw [hid_frs fN]; exact hN, fun H4 N' zs D4 s4 _ hN' pm => ?_⟩
    have S4 := S3.call D4 s4
    obtain ⟨bs, pb, eb⟩ := each_perm pm ey
    exact q H4 N' zs bs (D4.mono (by rw [ey.1]; omega)) S4.sub hN' (eb.mono fun _ _ ⟨t, e, ht⟩ => ⟨t, e, s4 _ _ ht⟩) (lab.perm pb)
end
end K41
set_option maxHeartbeats 4000000
namespace K41
open PySem PySem.Spec PyProof.Rows L2
/-! ### the knots of a web in the making -/
structure KnsOk (kns : List Kn) : Prop where
  l1 : 1 ≤ kns.length
  l2 : kns.length ≤ 26
  kn : ∀ k ∈ kns, KnOk k
  labs : (kns.map lab).Nodup
  fit : ∀ k ∈ kns, ∀ a ∈ asksOf k, FitsOk kns a
def envK (kns : List Kn) : Env' := kns.map fun k => (k.sort, lenK k)
theorem envK_of (kns : List Kn) : envOf (kns.map (·.sort)) (kns.map lenK) = envK kns := by
  unfold envOf envK
  induction kns with
  | nil => rfl
  | cons k kns ih => simp [ih]
theorem fits_e {kns : List Kn} {a : Ask} (h : FitsE (envK kns) a) : FitsOk kns a := by
  obtain ⟨h1, h2, h3⟩ := h
  refine ⟨h1, h2, fun i hi => ?_⟩
  obtain ⟨j, s, l, e, he, k1, k2⟩ := h3 i hi
  unfold envK at he
  rw [List.getElem?_map] at he
  cases hk : kns[j]? with
  | none => rw [hk] at he; cases he
  | some k =>
    rw [hk] at he
    cases he
    exact ⟨j, k, e, hk, k1, k2⟩
theorem e_fits {kns : List Kn} {a : Ask} (h : FitsOk kns a) : FitsE (envK kns) a := by
  obtain ⟨h1, h2, h3⟩ := h
  refine ⟨h1, h2, fun i hi => ?_⟩
  obtain ⟨j, k, e, he, k1, k2⟩ := h3 i hi
  exact ⟨j, k.sort, lenK k, e, by unfold envK; rw [List.getElem?_map, he]; rfl, k1, k2⟩
theorem len_pos {k : Kn} (h : KnOk k) : 0 < lenK k ∧ lenK k ≤ 64 := by
  obtain ⟨num, nm, sort, body⟩ := k
  have bo : BdOk sort body := h.body
  cases body with
  | room n => exact ⟨show 0 < n by have := bo.2.1; omega, bo.2.2⟩
  | flat xs =>
    show (0 : Int) < ((xs.length : Nat) : Int) ∧ ((xs.length : Nat) : Int) ≤ 64
    rcases bo with ⟨_, h1, h2, _⟩ | ⟨_, h1, h2, _⟩ <;> omega
  | code rows =>
    show (0 : Int) < ((rows.length : Nat) : Int) ∧ ((rows.length : Nat) : Int) ≤ 64
    obtain ⟨_, h1, h2, _⟩ := bo
    omega
section
variable {P : Program} {w : World} {K : PySem.W.Frag} {mg : Str → Option Value} {base : Heap} {f : Addr} {fd : FuncData}
def spLens : Sp := fun args H Q _ => ∃ (L : Addr) (vs : List V) (kns : List Kn), args = [.ref L] ∧ H L = some (.lst vs) ∧ Each (KnAt H) vs kns ∧ (∀ k ∈ kns, KnOk k) ∧ kns.length ≤ 1000 ∧
  ∀ H' N, Same H H' → H N = none → H' N = some (.lst ((kns.map lenK).map V.int)) → Q (.ref N) H'
theorem sc_law_lengths : FnScope ["_law_knots", "_law_knot"] ["_law_knots"] (defScope (top 66)) := ⟨rfl, rfl, rfl, by decide +kernel, rfl, by decide +kernel, by decide +kernel⟩
theorem ok_law_lengths (F : FnP K "_law_lengths" 66 f fd) (T : Txt w K mg) : FnOk P w K mg base CX0 1 f fd ["_law_knots"] spLens := by
  refine F.ok sc_law_lengths (fun vs H Q E h => by obtain ⟨a, r, c, rfl, _⟩ := h; rfl) (fun cdv A outer s H vs Q E hr h => ?_)
  have nd := sc_law_lengths.nd
  obtain ⟨L, vs, kns, rfl, hL, ek, okk, few, q⟩ := h
  refine ⟨_, PSs.nox 
    (pss_one (ps_ret (pe_lc (own := [("_law_knot", 1)]) rfl nd (pi_list (pv 0)) (blkOk_by (own := [("_law_knot", 1)]) (N := ["_law_knots", "_law_knot"]) (sc := defScope (top 66)) (by decide +kernel)) (fun _ _ _ _ _ => (pg_name (i := 1) nd rfl (Or.inl rfl))) (fun _ _ _ _ _ => pts_nil) (fun _ _ _ _ _ => (pe_ifExp (pt_cmpR op_eq (pe_ix (x_tup K) (pv 1) pe_int (fun _ _ => rfl)) pe_str (nomark _)) (pe_ix (x_tup K) (pv 1) pe_int (fun _ _ => rfl)) (pe_callB (x_len K) (by rfl) T.b_len PySem.boot_len (pa_cons (pe_ix (x_tup K) (pv 1) pe_int (fun _ _ => rfl)) pa_nil))))))), ?_⟩
  refine ⟨_, rfl, L, rfl, ⟨_, .of hL⟩, fun N nN => ?_⟩
  refine lc_it (walk_list (K := K) (a := L) (xs := vs)) (fun i H' => Acc H N (fun i => ((kns.take i).map lenK).map V.int) i H') (Acc.start nN rfl) (fun i H' _ p => .of (p.1 _ _ hL)) (fun i x H3 H4 hi p y => ?_) (fun H3 p => ?_)
  · obtain ⟨rfl, hy⟩ := y
    obtain ⟨k, hk, kt⟩ := ek.back hy
    obtain ⟨a, l, b, rfl, ha, hl, hb⟩ := kt.ex
    have il := lt_of_get hk
    have st : (((kns.take (i + 1)).map lenK).map V.int) = (((kns.take i).map lenK).map V.int) ++ [.int (lenK k)] := by rw [take1 hk]; simp
    have few' : (((kns.take i).map lenK).map V.int).length < sizeLine := small1000 (by rw [List.length_map, List.length_map, List.length_take]; omega)
    have bo : BdOk k.sort k.body := (okk k (List.mem_of_getElem? hk)).body
    refine ⟨rfl, _, rfl, a, _, 2, _, rfl, rfl, .of (p.1 _ _ ha), at2, rfl, _, rfl, ?_⟩
    obtain ⟨num, nm, sort, body⟩ := k
    cases body with
    | room n =>
      obtain ⟨rfl, _⟩ := bo
      obtain rfl := hb
      rw [seqT]
      exact ⟨_, rfl, a, _, 3, _, rfl, rfl, .of (p.1 _ _ ha), at3, Acc.put nN p (Same.refl _) few' st⟩
    | flat xs =>
      obtain ⟨p0, rfl, hp⟩ := hb
      rw [seqF (bo.not_room fun m z => nomatch z)]
      exact ⟨_, rfl, a, _, 3, _, rfl, rfl, .of (p.1 _ _ ha), at3, _, _, rfl, .inr ⟨_, .of (p.1 _ _ hp), rfl⟩, Acc.put nN p (Same.refl _) few' st⟩
    | code rows =>
      obtain ⟨p0, vs', rfl, hp, er⟩ := hb
      rw [seqF (bo.not_room fun m z => nomatch z)]
      exact ⟨_, rfl, a, _, 3, _, rfl, rfl, .of (p.1 _ _ ha), at3, _, _, rfl, .inr ⟨_, .of (p.1 _ _ hp), rfl⟩, by rw [er.1]; exact Acc.put nN p (Same.refl _) few' st⟩
  · have p2 := p.2
    simp only [ek.1, List.take_length] at p2
    exact q _ N p.1 nN p2
end
end K41
set_option maxHeartbeats 4000000
namespace K41
open PySem PySem.Spec PyProof.Rows L2
/-! ### any tuple that came of a cut or a sum -/
section
variable {K : PySem.W.Frag} {H : Hp} {Q : VK} {p p1 p2 : Addr} {xs ys : List V}
theorem cat_any (h1 : H p1 = some (.tup xs)) (h2 : H p2 = some (.tup ys)) (l : xs.length + ys.length ≤ 1000) (q : ∀ H' p, Same H H' → H' p = some (.tup (xs ++ ys)) → Q (.ref p) H') : rCatA K (.ref p1) (.ref p2) H Q :=
  ⟨p1, p2, xs, ys, rfl, rfl, .of h1, .of h2, Nat.le_of_lt (small1000 l), fun e => q _ _ (Same.refl _) (by rw [h2, e]; rfl), fun _ e => q _ _ (Same.refl _) (by rw [h1, e, List.append_nil]), fun _ _ p np => q _ p (same_upd np) upd_same⟩
theorem sl_any {lo hi : Option Int} (h : H p = some (.tup xs)) (q : ∀ H' p', Same H H' → H' p' = some (.tup (cutV xs lo hi)) → Q (.ref p') H') : rSlA K (.ref p) lo hi H Q :=
  ⟨p, xs, rfl, .of h, fun e => q _ _ (Same.refl _) (by
    rw [h]
    unfold cutV
    rw [e.1, e.2]
    show some (HO.tup xs) = some (.tup (xs.take (xs.length - 0)))
    rw [Nat.sub_zero, List.take_length]), fun _ p np => q _ p (same_upd np) upd_same⟩
end
theorem hid_tup {H : Hp} {d wa c q : Addr} {n : Nat} {xs : List V} (D : Dr H d wa c n) (h : H q = some (.tup xs)) : hid H d wa q = some (.tup xs) := by
  obtain ⟨r, t, wd, h1, h2, _⟩ := D.ex
  rw [hid_of (fun z => (by rw [z, h1] at h; cases h)) (fun z => (by rw [z, h2] at h; cases h))]
  exact h
theorem Each.set {α : Type} {R : V → α → Prop} {vs : List V} {as : List α} (e : Each R vs as) (i : Nat) {x : V} {a : α} (r : R x a) : Each R (vs.set i x) (as.set i a) := by
  refine ⟨by rw [List.length_set, List.length_set]; exact e.1, fun j v b h1 h2 => ?_⟩
  by_cases c : i = j
  · subst c
    have l1 := lt_of_get h1
    have l2 := lt_of_get h2
    rw [List.length_set] at l1 l2
    rw [List.getElem?_set_self l1] at h1
    rw [List.getElem?_set_self l2] at h2
    cases h1
    cases h2
    exact r
  · rw [List.getElem?_set_ne c] at h1 h2
    exact e.2 j v b h1 h2
theorem mem_set {α : Type} {l : List α} {i : Nat} {a x : α} (h : x ∈ l.set i a) : x ∈ l ∨ x = a := List.mem_or_eq_of_mem_set h
theorem KnsOk.set {kns : List Kn} (ok : KnsOk kns) {j : Nat} {k : Kn} (hk : kns[j]? = some k) {bd : Bd} (bo : BdOk k.sort bd) (le : lenB bd = lenK k) (ft : ∀ a ∈ asksOf ⟨k.num, k.nm, k.sort, bd⟩, FitsE (envK kns) a) : KnsOk (kns.set j ⟨k.num, k.nm, k.sort, bd⟩) := by
  have jl := lt_of_get hk
  have ko := ok.kn k (List.mem_of_getElem? hk)
  have lk : lenK ⟨k.num, k.nm, k.sort, bd⟩ = lenB bd := by cases bd <;> rfl
  have ee : envK (kns.set j ⟨k.num, k.nm, k.sort, bd⟩) = envK kns := by
    unfold envK
    rw [List.map_set]
    show (kns.map fun k => (k.sort, lenK k)).set j (k.sort, lenK ⟨k.num, k.nm, k.sort, bd⟩) = _
    rw [lk, le]
    refine List.ext_getElem? fun i => ?_
    by_cases c : j = i
    · subst c
      rw [List.getElem?_set_self (by simpa using jl), List.getElem?_map, hk]
      rfl
    · rw [List.getElem?_set_ne c]
  have el : (kns.set j ⟨k.num, k.nm, k.sort, bd⟩).map lab = kns.map lab := by
    rw [List.map_set]
    refine List.ext_getElem? fun i => ?_
    by_cases c : j = i
    · subst c
      rw [List.getElem?_set_self (by simpa using jl), List.getElem?_map, hk]
      rfl
    · rw [List.getElem?_set_ne c]
  refine ⟨by rw [List.length_set]; exact ok.l1, by rw [List.length_set]; exact ok.l2, fun x hx => ?_, by rw [el]; exact ok.labs, fun x hx a ha => ?_⟩
  · rcases mem_set hx with hx | rfl
    · exact ok.kn x hx
    · exact ⟨ko.num, ko.nm, bo⟩
  · refine fits_e ?_
    rw [ee]
    rcases mem_set hx with hx | rfl
    · exact e_fits (ok.fit x hx a ha)
    · exact ft a ha
section
variable {P : Program} {w : World} {K : PySem.W.Frag} {mg : Str → Option Value} {base : Heap} {f : Addr} {fd : FuncData}
def KnsAt (G : Hp) (N : Addr) (kns : List Kn) : Prop := ∃ vs, G N = some (.lst vs) ∧ Each (KnAt G) vs kns
theorem KnsAt.same {G G' : Hp} {N : Addr} {kns : List Kn} (h : KnsAt G N kns) (s : Same G G') : KnsAt G' N kns := let ⟨vs, h1, h2⟩ := h; ⟨vs, s _ _ h1, h2.mono fun _ _ => KnAt.same s⟩
def spSpoilt : Sp := fun args H Q _ => ∃ (d wa c L : Addr) (n : Nat) (kns : List Kn), args = [.ref d, .ref L] ∧ Dr H d wa c n ∧ n + 9 ≤ 1000000 ∧ KnsAt (hid H d wa) L kns ∧ KnsOk kns ∧
  ∀ H' N kns', Dr H' d wa c (n + 9) → Same (hid H d wa) (hid H' d wa) → KnsAt (hid H' d wa) N kns' → KnsOk kns' → kns'.length = kns.length → Q (.ref N) H'
theorem sc_law_spoilt : FnScope ["_law_draw", "_law_knots", "_law_k", "_law_sorts", "_law_lengths_here", "_law_word", "_law_label", "_law_sort", "_law_body", "_law_at", "_law_part", "_law_knot", "_law_j", "_law_other"] ["_law_draw", "_law_knots"] (defScope (top 67)) := ⟨rfl, rfl, rfl, by decide +kernel, rfl, by decide +kernel, by decide +kernel⟩
theorem ok_law_spoilt (F : FnP K "_law_spoilt" 67 f fd) (T : Txt w K mg) (C_law_take : Cal P w K mg base CX0 2 "_law_take" spTake) (C_law_pick : Cal P w K mg base CX0 3 "_law_pick" spPick) (C_law_lengths : Cal P w K mg base CX0 1 "_law_lengths" spLens) (C_law_last_row : Cal P w K mg base CX0 4 "_law_last_row" spLast)
    (C_law_some_row : Cal P w K mg base CX0 6 "_law_some_row" spSome) :
    FnOk P w K mg base CX0 7 f fd ["_law_draw", "_law_knots"] spSpoilt := by
  refine F.ok sc_law_spoilt (fun vs H Q E h => by obtain ⟨a, r, c, _, _, _, rfl, _⟩ := h; rfl) (fun cdv A outer s H vs Q E hr h => ?_)
  have nd := sc_law_spoilt.nd
  obtain ⟨d, wa, c, L, n, kns, rfl, D, hn, ⟨vs, hL, ek⟩, ok, q⟩ := h
  refine ⟨_, PSs.nox 
    (pss_cons (ps_par3 (i := 2) (j := 3) (l := 4) rfl nd rfl rfl rfl (by decide) (by decide) (by decide) rfl rfl rfl (pa_cons (pe_fn C_law_take hr (by rfl) pass0 (pa_cons (pv 0) (pa_cons (pe_callB (x_len K) (by rfl) T.b_len PySem.boot_len (pa_cons (pv 1) pa_nil)) pa_nil))) (pa_cons (pe_lc (own := [("_law_knot", 11)]) rfl nd (pi_list (pv 1)) (blkOk_by (own := [("_law_knot", 11)]) (N := ["_law_draw", "_law_knots", "_law_k", "_law_sorts", "_law_lengths_here", "_law_word", "_law_label", "_law_sort", "_law_body", "_law_at", "_law_part", "_law_knot", "_law_j", "_law_other"]) (sc := defScope (top 67)) (by decide +kernel)) (fun _ _ _ _ _ => (pg_name (i := 11) nd rfl (Or.inl rfl))) (fun _ _ _ _ _ => pts_nil) (fun _ _ _ _ _ => (pe_ix (x_tup K) (pv 11) pe_int (fun _ _ => rfl)))) (pa_cons (pe_fn C_law_lengths hr (by rfl) pass0 (pa_cons (pv 1) pa_nil)) pa_nil))) (by rfl))
    (pss_cons (ps_asg (pe_ix (x_lst K) (pv 1) (pv 2) (fun _ _ => rfl)) (pg_tup rfl (pgs_cons (pg_name (i := 5) nd rfl (Or.inl rfl)) (pgs_cons (pg_name (i := 6) nd rfl (Or.inl rfl)) (pgs_cons (pg_name (i := 7) nd rfl (Or.inl rfl)) (pgs_cons (pg_name (i := 8) nd rfl (Or.inl rfl)) pgs_nil))))))
    (pss_cons (ps_set (i := 9) nd rfl (Or.inl rfl) (pe_fn C_law_take hr (by rfl) pass0 (pa_cons (pv 0) (pa_cons (pe_ix (x_lst K) (pv 4) (pv 2) (fun _ _ => rfl)) pa_nil))))
    (C8.pss_cut (ps_if (pt_cmpR op_eq (pv 7) pe_str (nomark _)) 
      (pss_one (ps_set (i := 10) nd rfl (Or.inl rfl) (pe_fn C_law_take hr (by rfl) pass0 (pa_cons (pv 0) (pa_cons pe_int pa_nil))))) 
      (pss_one (ps_if (pt_cmpR op_eq (pv 7) pe_str (nomark _)) 
        (pss_one (ps_set (i := 10) nd rfl (Or.inl rfl) (pe_fn C_law_pick hr (by rfl) pass0 (pa_cons (pv 0) (pa_cons (pe_op op_cat (pe_lc (own := [("_law_j", 12), ("_law_other", 13)]) (g := gTup K 2 (gCons (gName 12) (gCons (gName 13) gNil))) rfl nd (pi_enum (by rfl) T.b_enumerate (pa_cons (pv 3) pa_nil)) (blkOk_by (own := [("_law_j", 12), ("_law_other", 13)]) (N := ["_law_draw", "_law_knots", "_law_k", "_law_sorts", "_law_lengths_here", "_law_word", "_law_label", "_law_sort", "_law_body", "_law_at", "_law_part", "_law_knot", "_law_j", "_law_other"]) (sc := defScope (top 67)) (by decide +kernel)) (fun _ _ _ _ _ => (pg_tup rfl (pgs_cons (pg_name (i := 12) nd rfl (Or.inl rfl)) (pgs_cons (pg_name (i := 13) nd rfl (Or.inl rfl)) pgs_nil)))) (fun _ _ _ _ _ => (pts_one (pt_cmpR op_eq (pv 13) pe_str (nomark _)))) (fun _ _ _ _ _ => (pv 12))) (pe_lst (pa_cons pe_non (pa_cons pe_str pa_nil)))) pa_nil))))) 
        (pss_one (ps_if (pt_cmpR op_eq (pv 7) pe_str (nomark _)) 
          (pss_one (ps_set (i := 10) nd rfl (Or.inl rfl) (pe_ifExp (pt_cmpR op_eq (pv 9) (pe_op op_sub (pe_callB (x_len K) (by rfl) T.b_len PySem.boot_len (pa_cons (pv 8) pa_nil)) pe_int) (nomark _)) (pe_fn C_law_last_row hr (by rfl) pass0 (pa_cons (pv 0) (pa_cons (pv 3) (pa_cons (pe_callB (x_len K) (by rfl) T.b_len PySem.boot_len (pa_cons (pv 8) pa_nil)) pa_nil)))) (pe_fn C_law_some_row hr (by rfl) pass0 (pa_cons (pv 0) (pa_cons (pv 3) (pa_cons (pv 4) (pa_cons (pe_callB (x_len K) (by rfl) T.b_len PySem.boot_len (pa_cons (pv 8) pa_nil)) pa_nil)))))))) 
          (pss_one (ps_ret (pe_callTy call_list_of (by rfl) T.b_list (by decide +kernel) (pa_cons (pv 1) pa_nil)))))))))
    (pss_one (ps_ret (pe_op op_cat (pe_op op_cat (pe_slice (x_slL K) (pv 1) po_none (po_some (pv 2))) (pe_lst (pa_cons (pe_tup (pa_cons (pv 5) (pa_cons (pv 6) (pa_cons (pv 7) (pa_cons (pe_op (x_catA K) (pe_op (x_catA K) (pe_slice (x_slA K) (pv 8) po_none (po_some (pv 9))) (pe_tup (pa_cons (pv 10) pa_nil))) (pe_slice (x_slA K) (pv 8) (po_some (pe_op op_add (pv 9) pe_int)) po_none)) pa_nil))))) pa_nil))) (pe_slice (x_slL K) (pv 1) (po_some (pe_op op_add (pv 2) pe_int)) po_none)))))))), ?_⟩
  have S0 := Stp.start D
  have l1 := ok.l1
  have l2 := ok.l2
  have lv := ek.1
  refine ⟨_, rfl, _, rfl, _, _, rfl, .inl ⟨_, .of (S0.get hL), rfl⟩, d, wa, c, n, (vs.length : Nat), rfl, D, by omega, by omega, by omega, fun H1 z D1 s1 z0 z1 => ?_⟩
  have S1 := S0.call D1 s1
  obtain ⟨j, rfl⟩ := Int.eq_ofNat_of_zero_le z0
  have jl : j < kns.length := by omega
  refine ⟨_, rfl, L, rfl, ⟨_, .of (S1.get hL)⟩, fun S nS => ?_⟩
  refine lc_it (walk_list (K := K) (a := L) (xs := vs)) (fun i H' => Acc H1 S (fun i => (((kns.take i).map (·.sort)).map V.str)) i H') (Acc.start nS rfl) (fun i H' _ p => .of (p.1 _ _ (S1.get hL))) (fun i x H3 H4 hi p y => ?_) (fun H3 p => ?_)
  · obtain ⟨rfl, hy⟩ := y
    obtain ⟨k, hk, kt⟩ := ek.back hy
    obtain ⟨a, l, b, rfl, ha, hl, hb⟩ := kt.ex
    refine ⟨rfl, _, rfl, a, _, 2, _, rfl, rfl, .of (p.1 _ _ (S1.get ha)), at2, Acc.put nS p (Same.refl _) (small1000 (by rw [List.length_map, List.length_map, List.length_take]; omega)) (by rw [take1 hk]; simp)⟩
  · have p2 := p.2
    simp only [lv, List.take_length] at p2
    have S3 := S1.same p.1
    have hS : hid H3 d wa S = some (.lst ((kns.map (·.sort)).map V.str)) := by rw [hid_frs (S1.frs nS)]; exact p2
    refine ⟨_, rfl, L, vs, kns, rfl, S3.get hL, ek.mono fun _ _ h => h.same fun _ _ h => S3.get h, ok.kn, by omega, fun H4 Ls s4 nL hLs => ?_⟩
    have S4 := S3.same s4
    have eA : EnvAt (hid H4 d wa) S Ls (kns.map (·.sort)) (kns.map lenK) := ⟨hid_same s4 _ _ hS, by rw [hid_frs (S3.frs nL)]; exact hLs, by simp, by simp; omega, fun l hl => by
      obtain ⟨k, hk, rfl⟩ := List.mem_map.mp hl
      exact len_pos (ok.kn k hk)⟩
    obtain ⟨k, hk⟩ : ∃ k, kns[j]? = some k := ⟨_, List.getElem?_eq_getElem jl⟩
    obtain ⟨kv, hkv, kt⟩ := ek.get hk
    obtain ⟨num, nm, sort, body⟩ := k
    obtain ⟨a, l, b, rfl, ha0, hl0, hb0⟩ := kt.ex
    have ha : hid H d wa a = some (.tup [.str "knot", .ref l, .str sort, b]) := ha0
    have hl : hid H d wa l = some (.tup [.int num, .str nm]) := hl0
    have hb : BdAt (hid H d wa) b body := hb0
    have hlk : (kns.map lenK)[j]? = some (lenK ⟨num, nm, sort, body⟩) := by rw [List.getElem?_map, hk]; rfl
    have hlv : ((kns.map lenK).map V.int)[j]? = some (.int (lenK ⟨num, nm, sort, body⟩)) := by rw [List.getElem?_map, hlk]; rfl
    refine ⟨_, _, _, rfl, _, rfl, _, rfl, L, vs, j, _, rfl, rfl, .of (S4.get hL), atI_n hkv, a, _, rfl, .of (S4.get ha), rfl, _, _, rfl, _, _, rfl, _, _, rfl, _, _, rfl, rfl, ?_⟩
    obtain ⟨lp, lq⟩ := len_pos (ok.kn _ (List.mem_of_getElem? hk))
    refine ⟨_, rfl, _, rfl, _, rfl, Ls, _, j, _, rfl, rfl, .of (hid_get eA.atL), atI_n hlv, d, wa, c, n + 1, lenK ⟨num, nm, sort, body⟩, rfl, S4.dr, by omega, by omega, by omega, fun H5 z D5 s5 z0 z1 => ?_⟩
    have S5 := S4.call D5 s5
    have e5 := eA.same s5
    obtain ⟨i, rfl⟩ := Int.eq_ofNat_of_zero_le z0
    have bo : BdOk sort body := (ok.kn _ (List.mem_of_getElem? hk)).body
    have kfit := ok.fit _ (List.mem_of_getElem? hk)
    refine ⟨fun σ' H' => ∃ part pa bvs bd, b = .ref pa ∧ hid H d wa pa = some (.tup bvs) ∧ i < bvs.length ∧ bvs.length ≤ 64 ∧
      σ' = [some (.ref d), some (.ref L), some (.int (j : Nat)), some (.ref S), some (.ref Ls), some (.str "knot"), some (.ref l), some (.str sort), some b, some (.int (i : Nat)), some part, none, none, none] ∧ Stp d wa c H (n + 9) H' ∧
      (∀ G q, Same (hid H' d wa) G → G q = some (.tup (bvs.set i part)) → BdAt G (.ref q) bd) ∧ BdOk sort bd ∧ lenB bd = lenK ⟨num, nm, sort, body⟩ ∧ ∀ a ∈ asksOf ⟨num, nm, sort, bd⟩, FitsE (envK kns) a, ?_, fun σ' H' p => ?_⟩
    · refine ⟨_, rfl, rfl, _, rfl, ?_⟩
      cases body with
      | room m =>
        obtain ⟨rfl, _⟩ := bo
        rw [decS, decide_eq_false (by decide +kernel)]
        refine ⟨_, rfl, rfl, _, rfl, ?_⟩
        rw [decS, decide_eq_false (by decide +kernel)]
        refine ⟨_, rfl, rfl, _, rfl, ?_⟩
        rw [decS, decide_eq_false (by decide +kernel)]
        refine ⟨_, rfl, L, vs, rfl, .inl (.of (S5.get hL)), fun N nN => ?_⟩
        have S6 := S5.new (o := .lst vs) nN
        exact q _ N kns (S6.mono (by omega)).dr S6.sub ⟨vs, S5.at nN, ek.mono fun _ _ h => h.same S6.sub⟩ ok rfl
      | flat xs =>
        obtain ⟨pa, rfl, hp⟩ := hb
        have il : i < xs.length := by
          have : ((i : Nat) : Int) < ((xs.length : Nat) : Int) := z1
          omega
        have xl : xs.length ≤ 64 := by
          have : ((xs.length : Nat) : Int) ≤ 64 := lq
          omega
        have fin : ∀ {part : V} {H6 : Hp}, Stp d wa c H (n + 9) H6 → BdOk sort (.flat (xs.set i part)) → (∀ a ∈ asksOf ⟨num, nm, sort, .flat (xs.set i part)⟩, FitsE (envK kns) a) →
            ∃ part' pa' bvs bd, V.ref pa = .ref pa' ∧ hid H d wa pa' = some (.tup bvs) ∧ i < bvs.length ∧ bvs.length ≤ 64 ∧
            [some (V.ref d), some (V.ref L), some (V.int (j : Nat)), some (V.ref S), some (V.ref Ls), some (V.str "knot"), some (V.ref l), some (V.str sort), some (V.ref pa), some (V.int (i : Nat)), some part, none, none, none] = [some (.ref d), some (.ref L), some (.int (j : Nat)), some (.ref S), some (.ref Ls), some (.str "knot"), some (.ref l), some (.str sort), some (V.ref pa), some (.int (i : Nat)), some part', none, none, none] ∧ Stp d wa c H (n + 9) H6 ∧
            (∀ G q, Same (hid H6 d wa) G → G q = some (.tup (bvs.set i part')) → BdAt G (.ref q) bd) ∧ BdOk sort bd ∧ lenB bd = lenK ⟨num, nm, sort, .flat xs⟩ ∧ ∀ a ∈ asksOf ⟨num, nm, sort, bd⟩, FitsE (envK kns) a := fun {part H6} S6 b1 b2 =>
          ⟨part, pa, xs, .flat (xs.set i part), rfl, hp, il, xl, rfl, S6, fun G q _ h => ⟨q, rfl, h⟩, b1, congrArg (fun k : Nat => (k : Int)) (List.length_set ..), b2⟩
        rw [decS]
        rcases bo with ⟨ct, x1, x2, okx⟩ | ⟨dc, x1, x2, okx⟩
        · rw [decide_eq_false (show ¬ sort = Str.ofString "const" from fun z => absurd (ct.symm.trans z) (by decide +kernel))]
          refine ⟨_, rfl, rfl, _, rfl, ?_⟩
          rw [decS, decide_eq_true ct]
          refine ⟨_, rfl, _, rfl, S, _, rfl, .of (hid_get e5.atS), fun D2 nD2 => ?_⟩
          have lso : (kns.map (·.sort)).length = kns.length := by simp
          refine lc_it walk_enum (fun i H' => Acc H5 D2 (fun i => (idxs isCode (kns.map (·.sort)) i).map nV) i H') (Acc.start nD2 rfl) (fun i H' _ p' => .of (p'.1 _ _ (hid_get e5.atS))) (fun i x H3 H4 hi p' y => ?_) (fun H6 p' => ?_)
          · obtain ⟨t, cc, y, rfl, nt, rfl, hc, hy⟩ := y
            cases hc
            replace hy : ((kns.map (·.sort)).map V.str)[i]? = some y := hy
            rw [List.getElem?_map] at hy
            obtain ⟨s0, hs0, rfl⟩ := Option.map_eq_some_iff.mp hy
            have st := idxs_step (p := isCode) hs0
            have few : ((idxs isCode (kns.map (·.sort)) i).map nV).length < sizeLine := small10 (by
              rw [List.length_map]
              have := idxs_len isCode (kns.map (·.sort)) i
              rw [List.length_map] at hi
              omega)
            refine ⟨t, _, rfl, .of upd_same, rfl, _, _, rfl, _, _, rfl, rfl, rfl, ?_⟩
            have s2 : Same H3 (upd H3 t (.tup [.int (i : Nat), .str s0])) := same_upd nt
            refine ⟨_, rfl, rfl, _, rfl, ?_⟩
            rw [decS]
            by_cases c2 : s0 = "code"
            · rw [decide_eq_true c2]
              exact ⟨_, rfl, Acc.put nD2 p' s2 few (by rw [st, show isCode s0 = true from decide_eq_true c2]; simp; rfl)⟩
            · rw [decide_eq_false c2]
              exact Acc.pass p' s2 (by rw [st, show isCode s0 = false from decide_eq_false c2]; simp)
          · obtain ⟨s2, h2⟩ := p'
            rw [List.length_map] at h2
            have lid := idxs_len isCode (kns.map (·.sort)) (kns.map (·.sort)).length
            refine ⟨(by show 2 ≤ sizeLine; decide), fun D3 nD3 => ⟨D2, D3, _, _, rfl, rfl, same_upd nD3 _ _ h2, upd_same, ?_, fun D4 nD4 => ?_⟩⟩
            · simp only [List.length_map] at lid ⊢
              exact Nat.le_of_lt (small1000 (show (idxs isCode (kns.map (·.sort)) kns.length).length + 2 ≤ 1000 by omega))
            have S6 := (S5.same s2).new (o := .lst [.non, .str "far"]) nD3
            refine ⟨d, wa, c, D4, n + 1 + 1, (idxs isCode (kns.map (·.sort)) (kns.map (·.sort)).length).map nV ++ [.non, .str "far"], rfl, (S6.new nD4).dr, by omega, S6.at nD4, by simp, by rw [List.length_append, List.length_map]; simp only [List.length_cons, List.length_nil]; omega, fun H7 x D7 s7 hx => ?_⟩
            have S7 := (S6.new nD4).call D7 s7
            have px : ItemOk x ∧ (x ≠ .non → FitsE (envK kns) (x, Str.ofString "item of", .int 0)) := by
              rcases List.mem_append.mp hx with hx | hx
              · obtain ⟨k, hk', rfl⟩ := List.mem_map.mp hx
                obtain ⟨s0, h3, h4⟩ := idxs_mem.mp hk'
                refine ⟨.inr (.inl ⟨_, rfl⟩), fun _ => ⟨(show Str.ofString "item of" ∈ askWords by decide +kernel), rfl, fun i' hi' => ?_⟩⟩
                cases hi'
                rw [List.getElem?_map] at h3
                cases hkk : kns[k]? with
                | none => rw [hkk] at h3; cases h3
                | some kk =>
                  rw [hkk] at h3
                  cases h3
                  have hcc : kk.sort = "code" := of_decide_eq_true h4
                  refine ⟨k, kk.sort, lenK kk, rfl, by unfold envK; rw [List.getElem?_map, hkk]; rfl, ?_, fun h => absurd h (show ¬ isLS "item of" = true by decide +kernel)⟩
                  rw [hcc]
                  exact (show inV (V.str "code") ((askedL "item of").getD [V.str "code"]) = true by decide +kernel)
              · simp only [List.mem_cons, List.not_mem_nil, or_false] at hx
                rcases hx with rfl | rfl
                · exact ⟨.inl rfl, fun z => absurd rfl z⟩
                · exact ⟨.inr (.inr ⟨_, rfl, far_nm⟩), fun _ => ⟨(show Str.ofString "item of" ∈ askWords by decide +kernel), rfl, fun i' hi' => (by cases hi')⟩⟩
            refine fin (S7.mono (by omega)) (.inl ⟨ct, by rw [List.length_set]; exact x1, by rw [List.length_set]; exact x2, fun y hy => ?_⟩) fun a' ha' => ?_
            · rcases mem_set hy with hy | rfl
              · exact okx y hy
              · exact px.1
            · have e1 : asksOf ⟨num, nm, sort, .flat (xs.set i x)⟩ = (xs.set i x).filterMap askItem := if_pos ct
              have e2 : asksOf ⟨num, nm, sort, .flat xs⟩ = xs.filterMap askItem := if_pos ct
              rw [e1] at ha'
              obtain ⟨y, hy, ey⟩ := List.mem_filterMap.mp ha'
              rcases mem_set hy with hy | rfl
              · exact e_fits (kfit a' (by rw [e2]; exact List.mem_filterMap.mpr ⟨y, hy, ey⟩))
              · unfold askItem at ey
                by_cases hn' : y = .non
                · rw [if_pos hn'] at ey
                  cases ey
                · rw [if_neg hn'] at ey
                  cases ey
                  exact px.2 hn'
        · have ct : sort ≠ "table" := fun z => by rcases dc with h | h <;> exact absurd (z.symm.trans h) (by decide +kernel)
          have noask : ∀ ys, asksOf ⟨num, nm, sort, .flat ys⟩ = [] := fun ys => if_neg ct
          rcases dc with cd | cc
          · rw [decide_eq_false (show ¬ sort = Str.ofString "const" from fun z => absurd (cd.symm.trans z) (by decide +kernel))]
            refine ⟨_, rfl, rfl, _, rfl, ?_⟩
            rw [decS, decide_eq_false ct]
            refine ⟨_, rfl, rfl, _, rfl, ?_⟩
            rw [decS, decide_eq_false (show ¬ sort = Str.ofString "code" from fun z => absurd (cd.symm.trans z) (by decide +kernel))]
            refine ⟨_, rfl, L, vs, rfl, .inl (.of (S5.get hL)), fun N nN => ?_⟩
            have S6 := S5.new (o := .lst vs) nN
            exact q _ N kns (S6.mono (by omega)).dr S6.sub ⟨vs, S5.at nN, ek.mono fun _ _ h => h.same S6.sub⟩ ok rfl
          · rw [decide_eq_true cc]
            refine ⟨_, rfl, d, wa, c, n + 1 + 1, 64, rfl, S5.dr, by omega, by decide, by decide, fun H6 g D6 s6 g0 g1 => ?_⟩
            refine fin ((S5.call D6 s6).mono (by omega)) (.inr ⟨.inr cc, by rw [List.length_set]; exact x1, by rw [List.length_set]; exact x2, fun y hy => ?_⟩) fun a' ha' => ?_
            · rcases mem_set hy with hy | rfl
              · exact okx y hy
              · exact ⟨g, rfl, g0, by omega⟩
            · rw [noask] at ha'
              cases ha'
      | code rows =>
        obtain ⟨pa, rvs, rfl, hp, er⟩ := hb
        obtain ⟨cc, x1, x2, okr, ll⟩ := bo
        have lr : rvs.length = rows.length := er.1
        have il : i < rows.length := by
          have : ((i : Nat) : Int) < ((rows.length : Nat) : Int) := z1
          omega
        have e1 : ∀ rs, asksOf ⟨num, nm, sort, .code rs⟩ = rs.filterMap askRow := fun _ => rfl
        have fin : ∀ {H6 : Hp} {q' : Addr} {r : List V}, Stp d wa c H (n + 9) H6 → hid H6 d wa q' = some (.tup r) → RowOk rows.length r → RowFit (envK kns) r → (i = rows.length - 1 → inV (wordV r) lastsL = true) →
            ∃ part' pa' bvs bd, V.ref pa = .ref pa' ∧ hid H d wa pa' = some (.tup bvs) ∧ i < bvs.length ∧ bvs.length ≤ 64 ∧
            [some (V.ref d), some (V.ref L), some (V.int (j : Nat)), some (V.ref S), some (V.ref Ls), some (V.str "knot"), some (V.ref l), some (V.str sort), some (V.ref pa), some (V.int (i : Nat)), some (V.ref q'), none, none, none] = [some (.ref d), some (.ref L), some (.int (j : Nat)), some (.ref S), some (.ref Ls), some (.str "knot"), some (.ref l), some (.str sort), some (V.ref pa), some (.int (i : Nat)), some part', none, none, none] ∧ Stp d wa c H (n + 9) H6 ∧
            (∀ G q, Same (hid H6 d wa) G → G q = some (.tup (bvs.set i part')) → BdAt G (.ref q) bd) ∧ BdOk sort bd ∧ lenB bd = lenK ⟨num, nm, sort, .code rows⟩ ∧ ∀ a ∈ asksOf ⟨num, nm, sort, bd⟩, FitsE (envK kns) a := fun {H6 q' r} S6 hq' b1 b2 b3 => by
          refine ⟨.ref q', pa, rvs, .code (rows.set i r), rfl, hp, by omega, by omega, rfl, S6, fun G q sg h => ⟨q, _, rfl, h, (er.mono fun _ _ h => RowAt.same (S6.sub.trans sg) h).set i ⟨q', rfl, sg _ _ hq'⟩⟩, ⟨cc, by rw [List.length_set]; exact x1, by rw [List.length_set]; exact x2, fun y hy => ?_, ?_⟩, congrArg (fun k : Nat => (k : Int)) (List.length_set ..), fun a' ha' => ?_⟩
          · rw [List.length_set]
            rcases mem_set hy with hy | rfl
            · exact okr y hy
            · exact b1
          · unfold lastWord
            have h1 := getLastD_at (l := rows.set i r) (d := []) (by rw [List.length_set]; exact x1)
            have h2 := getLastD_at (l := rows) (d := []) x1
            rw [List.length_set] at h1
            by_cases c1 : i = rows.length - 1
            · rw [← c1, List.getElem?_set_self il] at h1
              rw [← Option.some.inj h1]
              exact b3 c1
            · rw [List.getElem?_set_ne c1, h2] at h1
              rw [← Option.some.inj h1]
              exact ll
          · rw [e1] at ha'
            obtain ⟨y, hy, ey⟩ := List.mem_filterMap.mp ha'
            rcases mem_set hy with hy | rfl
            · exact e_fits (kfit a' (by rw [e1]; exact List.mem_filterMap.mpr ⟨y, hy, ey⟩))
            · exact b2 a' ey
        rw [decS, decide_eq_false (show ¬ sort = Str.ofString "const" from fun z => absurd (cc.symm.trans z) (by decide +kernel))]
        refine ⟨_, rfl, rfl, _, rfl, ?_⟩
        rw [decS, decide_eq_false (show ¬ sort = Str.ofString "table" from fun z => absurd (cc.symm.trans z) (by decide +kernel))]
        refine ⟨_, rfl, rfl, _, rfl, ?_⟩
        rw [decS, decide_eq_true cc]
        refine ⟨_, rfl, _, rfl, _, _, rfl, .inr ⟨_, .of (S5.get hp), rfl⟩, _, _, rfl, rfl, rfl, _, rfl, ?_⟩
        rw [decI]
        have ee := envK_of kns
        by_cases c1 : ((i : Nat) : Int) = ((rvs.length : Nat) : Int) - 1
        · rw [decide_eq_true c1]
          refine ⟨_, rfl, _, rfl, _, rfl, _, _, rfl, .inr ⟨_, .of (S5.get hp), rfl⟩, d, wa, c, S, n + 1 + 1, rvs.length, kns.map (·.sort), rfl, S5.dr, by omega, by omega, by omega, e5.atS, by simp; omega, fun H6 q' r D6 s6 hq' k1 k2 k3 => ?_⟩
          rw [lr] at k1
          refine fin ((S5.call D6 s6).mono (by omega)) hq' k1 ?_ fun _ => k3
          rw [← ee]
          exact k2 _ (by simp)
        · rw [decide_eq_false c1]
          refine ⟨_, rfl, _, rfl, _, rfl, _, rfl, _, _, rfl, .inr ⟨_, .of (S5.get hp), rfl⟩, d, wa, c, S, Ls, n + 1 + 1, rvs.length, kns.map (·.sort), kns.map lenK, rfl, S5.dr, by omega, by omega, by omega, e5, fun H6 q' r D6 s6 hq' k1 k2 => ?_⟩
          rw [lr] at k1
          refine fin (S5.call D6 s6) hq' k1 ?_ fun z => absurd (show ((i : Nat) : Int) = ((rvs.length : Nat) : Int) - 1 by omega) c1
          rw [← ee]
          exact k2
    · obtain ⟨part, pa, bvs, bd, rfl, hp, il, xl, rfl, S6, hbd, bo', le, ft⟩ := p
      have hkns := ok.set hk (bd := bd) bo' le ft
      have nlen : (vs.take j).length = j := by rw [List.length_take]; omega
      refine ⟨_, rfl, _, rfl, _, rfl, L, vs, rfl, .of (S6.get hL), fun a1 n1 => ?_⟩
      rw [cutTo2]
      refine ⟨_, rfl, _, rfl, _, rfl, _, rfl, _, rfl, _, rfl, ?_⟩
      refine sl_any (same_upd n1 _ _ (S6.get hp)) fun H7 q7 s7 h7 => ?_
      rw [cutTo2] at h7
      have s17 : Same H' H7 := (same_upd n1).trans s7
      have a17 := s7 _ _ (upd_same (H := H') (a := a1) (o := .lst (vs.take j)))
      refine ⟨_, rfl, (by show 1 ≤ sizeLine; decide), fun p2 n2 => ?_⟩
      refine cat_any (same_upd n2 _ _ h7) upd_same (by rw [List.length_take]; simp only [List.length_singleton]; omega) fun H9 q9 s9 h9 => ?_
      have s19 : Same H' H9 := s17.trans ((same_upd n2).trans s9)
      have a19 := s9 _ _ (same_upd (o := .tup [part]) n2 _ _ a17)
      refine ⟨_, rfl, _, rfl, _, _, rfl, rfl, _, rfl, ?_⟩
      unfold tNoPart
      refine sl_any (s19 _ _ (S6.get hp)) fun H10 q10 s10 h10 => ?_
      rw [show cutV bvs (some (((i : Nat) : Int) + 1)) none = bvs.drop (i + 1) from cutFrom _ (k := i + 1) (by omega)] at h10
      refine cat_any (s10 _ _ h9) h10 (by rw [List.length_append, List.length_take, List.length_drop]; simp only [List.length_singleton]; omega) fun H11 q11 s11 h11 => ?_
      have s111 : Same H' H11 := s19.trans (s10.trans s11)
      have a111 := s11 _ _ (s10 _ _ a19)
      rw [List.append_assoc, List.singleton_append, set_split bvs i part il] at h11
      have S11 := S6.same s111
      have hk11 := hbd (hid H11 d wa) q11 (hid_same s111) (hid_tup S11.dr h11)
      refine ⟨(by show 4 ≤ sizeLine; decide), fun p5 n5 => ⟨(by show 1 ≤ sizeLine; decide), fun p6 n6 => ?_⟩⟩
      have hv : KnAt (hid (upd H11 p5 (.tup [.str "knot", .ref l, .str sort, .ref q11])) d wa) (.ref p5) ⟨num, nm, sort, bd⟩ :=
        ⟨p5, l, .ref q11, rfl, S11.at n5, (S11.new n5).sub _ _ hl, hk11.same (hid_same (same_upd n5))⟩
      have a12 := same_upd (o := .lst [.ref p5]) n6 _ _ (same_upd (o := .tup [.str "knot", .ref l, .str sort, .ref q11]) n5 _ _ a111)
      refine ⟨a1, p6, _, _, rfl, rfl, a12, upd_same, Nat.le_of_lt (small1000 (by rw [nlen]; simp only [List.length_singleton]; omega)), fun p7 n7 => ?_⟩
      have S12 := ((S11.new (o := .tup [.str "knot", .ref l, .str sort, .ref q11]) n5).new (o := .lst [.ref p5]) n6).new (o := .lst (vs.take j ++ [.ref p5])) n7
      have hv12 := hv.same (hid_same ((same_upd (o := .lst [.ref p5]) n6).trans (same_upd (o := .lst (vs.take j ++ [.ref p5])) n7)))
      have a13 := upd_same (H := upd (upd H11 p5 (.tup [.str "knot", .ref l, .str sort, .ref q11])) p6 (.lst [.ref p5])) (a := p7) (o := .lst (vs.take j ++ [.ref p5]))
      revert S12 hv12 a13
      clear n7
      generalize upd (upd (upd H11 p5 (.tup [.str "knot", .ref l, .str sort, .ref q11])) p6 (.lst [.ref p5])) p7 (.lst (vs.take j ++ [.ref p5])) = H12
      intro S12 hv12 a13
      refine ⟨_, rfl, _, rfl, _, _, rfl, rfl, _, rfl, L, vs, rfl, .of (S12.get hL), fun p8 n8 => ?_⟩
      rw [show cutV vs (some (((j : Nat) : Int) + 1)) none = vs.drop (j + 1) from cutFrom _ (k := j + 1) (by omega)]
      refine ⟨p7, p8, _, _, rfl, rfl, same_upd n8 _ _ a13, upd_same, Nat.le_of_lt (small1000 (by rw [List.length_append, nlen, List.length_drop]; simp only [List.length_singleton]; omega)), fun p9 n9 => ?_⟩
      have S13 := (S12.new (o := .lst (vs.drop (j + 1))) n8)
      have S14 := S13.new (o := .lst (vs.take j ++ [.ref p5] ++ vs.drop (j + 1))) n9
      have s14 := (same_upd (o := .lst (vs.drop (j + 1))) n8).trans (same_upd (o := .lst (vs.take j ++ [.ref p5] ++ vs.drop (j + 1))) n9)
      refine q _ p9 (kns.set j ⟨num, nm, sort, bd⟩) S14.dr S14.sub ⟨_, S13.at n9, ?_⟩ hkns (List.length_set ..)
      rw [List.append_assoc, List.singleton_append, set_split vs j _ (by omega)] at s14 ⊢
      exact (ek.mono fun _ _ h => h.same (S12.sub.trans (hid_same s14))).set j (hv12.same (hid_same s14))
end
end K41
set_option maxHeartbeats 4000000
namespace K41
open PySem PySem.Spec PyProof.Rows L2
theorem KnsOk.wb {kns : List Kn} (ok : KnsOk kns) {ro ou : List Nat} (ra : ro.Pairwise (· < ·)) (rn : ∀ r ∈ ro, r < kns.length) (oa : ou.Pairwise (· < ·)) (oo : ∀ o ∈ ou, o ∈ ro) : WbOk ⟨ro, ou, kns⟩ :=
  ⟨Nat.le_trans ok.l2 (by decide), ok.kn, ok.labs, ok.fit, ra, rn, oa, oo⟩
section
variable {P : Program} {w : World} {K : PySem.W.Frag} {mg : Str → Option Value} {base : Heap} {f : Addr} {fd : FuncData}
def spRooted : Sp := fun args H Q _ => ∃ (d wa c L : Addr) (n : Nat) (kns : List Kn), args = [.ref d, .ref L] ∧ Dr H d wa c n ∧ n + 90 ≤ 1000000 ∧ KnsAt (hid H d wa) L kns ∧ KnsOk kns ∧
  ∀ H' a W, Dr H' d wa c (n + 90) → Same (hid H d wa) (hid H' d wa) → WbAt (hid H' d wa) (.ref a) W → WbOk W → W.kns = kns → Q (.ref a) H'
theorem sc_law_rooted : FnScope ["_law_draw", "_law_knots", "_law_roots", "_law_lap", "_law_found", "_law_k", "_law_root"] ["_law_draw", "_law_knots"] (defScope (top 68)) := ⟨rfl, rfl, rfl, by decide +kernel, rfl, by decide +kernel, by decide +kernel⟩
theorem ok_law_rooted (F : FnP K "_law_rooted" 68 f fd) (T : Txt w K mg) (C_law_take : Cal P w K mg base CX0 2 "_law_take" spTake) (C_law_pick : Cal P w K mg base CX0 3 "_law_pick" spPick) (C_law_lot : Cal P w K mg base CX0 4 "_law_lot" spLot) (C_law_reach : Cal P w K mg base CX0 3 "_law_reach" spReach) :
    FnOk P w K mg base CX0 5 f fd ["_law_draw", "_law_knots"] spRooted := by
  refine F.ok sc_law_rooted (fun vs H Q E h => by obtain ⟨a, r, c, _, _, _, rfl, _⟩ := h; rfl) (fun cdv A outer s H vs Q E hr h => ?_)
  have nd := sc_law_rooted.nd
  have hu0 := hu0_of hr
  obtain ⟨d, wa, c, L, n, kns, rfl, D, hn, ⟨vs, hL, ek⟩, ok, q⟩ := h
  refine ⟨_, PSs.nox 
    (pss_cons (ps_if (PW.pt (pw_or (pt_cmpR (x_eqNil K hu0) (pv 1) (pe_lst pa_nil) (nomark _)) (pw_or1 (pt_cmpR op_eq (pe_fn C_law_take hr (by rfl) pass0 (pa_cons (pv 0) (pa_cons pe_int pa_nil))) pe_int (nomark _))))) 
      (pss_one (ps_ret (pe_tup (pa_cons pe_str (pa_cons (pe_tup pa_nil) (pa_cons (pe_tup pa_nil) (pa_cons (pe_callTy call_tuple_of (by rfl) T.b_tuple (by decide +kernel) (pa_cons (pv 1) pa_nil)) pa_nil))))))) pss_nil)
    (pss_cons (ps_set (i := 2) nd rfl (Or.inl rfl) (pe_fn C_law_lot hr (by rfl) pass0 (pa_cons (pv 0) (pa_cons (pe_callB (x_len K) (by rfl) T.b_len PySem.boot_len (pa_cons (pv 1) pa_nil)) (pa_cons (pe_callB (call_min2 rfl) (by rfl) T.b_min (by decide +kernel) (pa_cons pe_int (pa_cons (pe_callB (x_len K) (by rfl) T.b_len PySem.boot_len (pa_cons (pv 1) pa_nil)) pa_nil))) pa_nil)))))
    (pss_cons (ps_for PassesOwn.never rfl (pi_range1 (by rfl) T.b_range (pa_cons pe_int pa_nil)) (pg_name (i := 3) nd rfl (Or.inl rfl)) 
      (pss_cons (ps_set (i := 4) nd rfl (Or.inr rfl) (pe_fn C_law_reach hr (by rfl) pass0 (pa_cons (pe_tup (pa_cons pe_str (pa_cons (pv 2) (pa_cons (pe_tup pa_nil) (pa_cons (pe_callTy call_tuple_of (by rfl) T.b_tuple (by decide +kernel) (pa_cons (pv 1) pa_nil)) pa_nil))))) (pa_cons (pe_lst pa_nil) pa_nil))))
      (pss_one (ps_if (pt_cmpR op_le (pe_callB (x_len K) (by rfl) T.b_len PySem.boot_len (pa_cons (pv 4) pa_nil)) (pe_op op_fdiv (pe_op op_mul (pe_callB (x_len K) (by rfl) T.b_len PySem.boot_len (pa_cons (pv 1) pa_nil)) pe_int) pe_int) (nomark _)) 
        (pss_one (ps_set (i := 2) nd rfl (Or.inl rfl) (pe_callTy call_tuple_of (by rfl) T.b_tuple (by decide +kernel) (pa_cons (pe_callB cr_sortedTu (by rfl) T.b_sorted (by decide +kernel) (pa_cons (pe_op (x_catA K) (pv 2) (pe_tup (pa_cons (pe_fn C_law_pick hr (by rfl) pass0 (pa_cons (pv 0) (pa_cons (pe_lc (own := [("_law_k", 5)]) rfl nd (pi_range1 (by rfl) T.b_range (pa_cons (pe_callB (x_len K) (by rfl) T.b_len PySem.boot_len (pa_cons (pv 1) pa_nil)) pa_nil)) (blkOk_by (own := [("_law_k", 5)]) (N := ["_law_draw", "_law_knots", "_law_roots", "_law_lap", "_law_found", "_law_k", "_law_root"]) (sc := defScope (top 68)) (by decide +kernel)) (fun _ _ _ _ _ => (pg_name (i := 5) nd rfl (Or.inl rfl))) (fun _ _ _ _ _ => (pts_one (pt_cmpR (x_notIn K) (pv 5) (pv 4) (by rfl)))) (fun _ _ _ _ _ => (pv 5))) pa_nil))) pa_nil))) pa_nil)) pa_nil)))) pss_nil))))
    (pss_one (ps_ret (pe_tup (pa_cons pe_str (pa_cons (pv 2) (pa_cons (pe_callTy call_tuple_of (by rfl) T.b_tuple (by decide +kernel) (pa_cons (pe_lc (own := [("_law_root", 6)]) rfl nd (pi_tup (pv 2)) (blkOk_by (own := [("_law_root", 6)]) (N := ["_law_draw", "_law_knots", "_law_roots", "_law_lap", "_law_found", "_law_k", "_law_root"]) (sc := defScope (top 68)) (by decide +kernel)) (fun _ _ _ _ _ => (pg_name (i := 6) nd rfl (Or.inl rfl))) (fun _ _ _ _ _ => (pts_one (pt_cmpR op_eq (pe_fn C_law_take hr (by rfl) pass0 (pa_cons (pv 0) (pa_cons pe_int pa_nil))) pe_int (nomark _)))) (fun _ _ _ _ _ => (pv 6))) pa_nil)) (pa_cons (pe_callTy call_tuple_of (by rfl) T.b_tuple (by decide +kernel) (pa_cons (pv 1) pa_nil)) pa_nil)))))))))), ?_⟩
  have S0 := Stp.start D
  have l1 := ok.l1
  have l2 := ok.l2
  have lv := ek.1
  refine ⟨_, rfl, Nat.zero_le _, fun e0 ne0 => ?_⟩
  refine ⟨L, e0, vs, rfl, rfl, .of (same_upd ne0 _ _ (S0.get hL)), .of upd_same, _, rfl, ?_⟩
  have ev : vs.isEmpty = false := by
    cases vs with
    | nil => simp at lv; omega
    | cons _ _ => rfl
  rw [ev]
  have S1 := S0.new (o := .lst []) ne0
  refine ⟨_, rfl, d, wa, c, n, 24, rfl, S1.dr, by omega, by decide, by decide, fun H2 z D2 s2 z0 z1 => ?_⟩
  have S2 := S1.call D2 s2
  refine ⟨rfl, _, rfl, ?_⟩
  rw [decI]
  by_cases c0 : z = 0
  · rw [decide_eq_true c0]
    refine ⟨Nat.zero_le _, fun p1 n1 => ⟨Nat.zero_le _, fun p2 n2 => ⟨_, rfl, L, vs, rfl, .inl ⟨.of (((S2.new n1).new n2).get hL), fun p3 n3 => ⟨(by show 4 ≤ sizeLine; decide), fun p4 n4 => ?_⟩⟩⟩⟩⟩
    have T1 := S2.new (o := .tup []) n1
    have T2 := T1.new (o := .tup []) n2
    have T3 := T2.new (o := .tup vs) n3
    have T4 := T3.new (o := .tup [.str "web", .ref p1, .ref p2, .ref p3]) n4
    exact q _ p4 ⟨[], [], kns⟩ (T4.mono (by omega)).dr T4.sub ⟨p4, p1, p2, p3, vs, rfl, T3.at n4, hid_same ((same_upd n2).trans ((same_upd n3).trans (same_upd n4))) _ _ (S2.at n1), hid_same ((same_upd n3).trans (same_upd n4)) _ _ (T1.at n2), hid_same (same_upd n4) _ _ (T2.at n3), ek.mono fun _ _ h => h.same T4.sub⟩
      (ok.wb .nil (fun r h => (by cases h)) .nil (fun r h => (by cases h))) rfl
  rw [decide_eq_false c0]
  obtain ⟨mk, hmk, k0, k1⟩ : ∃ mk : Nat, (if ((vs.length : Nat) : Int) < 3 then ((vs.length : Nat) : Int) else 3) = ((mk : Nat) : Int) ∧ 0 < mk ∧ mk ≤ vs.length := by
    by_cases c : ((vs.length : Nat) : Int) < 3
    · exact ⟨vs.length, if_pos c, by omega, Nat.le_refl _⟩
    · exact ⟨3, if_neg c, by omega, by omega⟩
  refine ⟨_, rfl, _, rfl, _, _, rfl, .inl ⟨_, .of (S2.get hL), rfl⟩, _, rfl, _, _, rfl, .inl ⟨_, .of (S2.get hL), rfl⟩, _, _, rfl, d, wa, c, n + 1, vs.length, mk, congrArg (fun z => [V.ref d, V.int (vs.length : Nat), V.int z]) hmk, S2.dr, by omega, k0, k1, by omega, fun H3 R ro D3 s3 _ hR pw lt => ?_⟩
  have S3 := S2.call D3 s3
  refine ⟨3, rfl, by decide, by decide, ?_⟩
  refine for_it walk_range (fun i σ H' => ∃ R u3 u4 ro, σ = [some (.ref d), some (.ref L), some (.ref R), u3, u4, none, none] ∧ Stp d wa c H (n + 30 + i) H' ∧ hid H' d wa R = some (.tup (ro.map nV)) ∧ ro.Pairwise (· < ·) ∧ ∀ r ∈ ro, r < kns.length)
    ⟨R, _, _, ro, rfl, S3.mono (by omega), hR, pw, by rw [← lv]; exact lt⟩ (fun _ _ _ _ _ => trivial) (fun i x σ H4 H5 hi p y => ?_) (fun σ H4 p => ?_)
  · obtain ⟨R, u3, u4, ro, rfl, S4, hR, pw, lt⟩ := p
    obtain ⟨rfl, hx⟩ := y
    refine ⟨_, rfl, Nat.zero_le _, fun p1 n1 => ⟨_, rfl, L, vs, rfl, .inl ⟨.of ((S4.new n1).get hL), fun p3 n3 => ⟨(by show 4 ≤ sizeLine; decide), fun p4 n4 => ⟨Nat.zero_le _, fun p5 n5 => ?_⟩⟩⟩⟩⟩
    have T1 := S4.new (o := .tup []) n1
    have T3 := T1.new (o := .tup vs) n3
    have T4 := T3.new (o := .tup [.str "web", .ref R, .ref p1, .ref p3]) n4
    have T5 := T4.new (o := .lst []) n5
    have hW : WbAt _ (.ref p4) ⟨ro, [], kns⟩ := ⟨p4, R, p1, p3, vs, rfl, same_upd (o := .lst []) n5 _ _ upd_same, ((same_upd (o := .tup []) n1).trans ((same_upd (o := .tup vs) n3).trans ((same_upd n4).trans (same_upd (o := .lst []) n5)))) _ _ (hid_get hR), ((same_upd (o := .tup vs) n3).trans ((same_upd n4).trans (same_upd (o := .lst []) n5))) _ _ upd_same, ((same_upd n4).trans (same_upd (o := .lst []) n5)) _ _ upd_same, ek.mono fun _ _ h => (h.same T5.sub).same fun _ _ h => hid_get h⟩
    have hR5 := hid_same ((same_upd (o := .tup []) n1).trans ((same_upd (o := .tup vs) n3).trans ((same_upd (o := .tup [.str "web", .ref R, .ref p1, .ref p3]) n4).trans (same_upd (o := .lst []) n5)))) _ _ hR
    refine ⟨.ref p4, ⟨ro, [], kns⟩, p5, [], rfl, hW, ok.wb pw lt .nil (fun r h => (by cases h)), .inl upd_same, fun H6 Df fo s6 nDf hDf ndf mf => ?_⟩
    have S6 := T5.same s6
    have hR6 := hid_same s6 _ _ hR5
    have fob : ∀ k ∈ fo, k < kns.length := fun k hk => by
      exact ((mf k).mp hk).lt (gr_ok (ok.wb pw lt .nil (fun r h => (by cases h))))
    have fol : fo.length ≤ kns.length := by
      have := FM.len_le ndf (l' := List.range kns.length) fun k hk => List.mem_range.mpr (fob k hk)
      simpa using this
    refine ⟨_, rfl, _, _, rfl, .inl ⟨_, .of hDf, rfl⟩, _, rfl, _, _, rfl, .inl ⟨_, .of (S6.get hL), rfl⟩, ?_⟩
    refine ⟨_, _, rfl, rfl, .inr ⟨by decide, by decide⟩, _, _, rfl, rfl, ⟨by decide, by decide⟩, _, _, rfl, rfl, _, rfl, ?_⟩
    cases hle : decide (((List.map nV fo).length : Int) ≤ ((vs.length : Nat) : Int) * 2 / 3) with
    | false => exact ⟨R, _, _, ro, rfl, S6.mono (by omega), hR6, pw, lt⟩
    | true =>
      replace hle := of_decide_eq_true hle
      rw [List.length_map] at hle
      refine ⟨_, rfl, _, rfl, _, rfl, _, _, rfl, .inl ⟨_, .of (S6.get hL), rfl⟩, _, rfl, by omega, by omega, fun N nN => ?_⟩
      show ∃ W : Nat → Nat → Hp → Prop, (∃ m, W 0 m (upd H6 N (.lst []))) ∧ _
      rw [Int.toNat_natCast]
      refine lc_it walk_range (fun i H' => Acc H6 N (fun i => (((List.range vs.length).take i).filter (fun k => !decide (k ∈ fo))).map nV) i H') (Acc.start nN rfl) (fun _ _ _ _ => trivial) (fun i x H7 H8 hi p y => ?_) (fun H7 p => ?_)
      · obtain ⟨rfl, hx⟩ := y
        replace hx : x = nV i := hx.trans (congrArg V.int (Int.zero_add _))
        subst hx
        have st := filt_step (show (List.range vs.length)[i]? = some i by rw [List.getElem?_range hi]) fun k => !decide (k ∈ fo)
        have few : (((List.range vs.length).take i).filter (fun k => !decide (k ∈ fo))).length ≤ 1000 := by
          refine Nat.le_trans (List.length_filter_le _ _) ?_
          rw [List.length_take, List.length_range]
          omega
        refine ⟨rfl, _, rfl, _, rfl, Df, _, rfl, .inl (.of (p.1 _ _ hDf)), rfl, nats_flat _, _, rfl, ?_⟩
        show if (!inV (nV i) (fo.map nV)) = true then _ else _
        rw [nats_in]
        by_cases c : i ∈ fo
        · rw [decide_eq_true c]
          exact Acc.pass p (Same.refl _) (by rw [st, decide_eq_true c]; simp)
        · rw [decide_eq_false c]
          exact ⟨_, rfl, Acc.put nN p (Same.refl _) (small1000 (by rw [List.length_map]; exact few)) (by rw [st, decide_eq_false c]; simp)⟩
      · obtain ⟨s7, h7⟩ := p
        simp only [List.length_range, List.take_length] at h7
        rw [List.take_of_length_le (by simp)] at h7
        have S7 := S6.same s7
        have fN := S6.frs nN
        have hN7 : hid H7 d wa N = some (.lst (((List.range vs.length).filter (fun k => !decide (k ∈ fo))).map nV)) := by rw [hid_frs fN]; exact h7
        refine ⟨d, wa, c, N, _, _, rfl, S7.dr, by omega, hN7, fun z => ?_, ?_, fun H8 x D8 s8 hx => ?_⟩
        · have : ∀ k ∈ List.range vs.length, k ∈ fo := fun k hk => Classical.byContradiction fun h => by
            have h2 : k ∈ (List.range vs.length).filter (fun k => !decide (k ∈ fo)) := List.mem_filter.mpr ⟨hk, by simp [h]⟩
            rw [List.map_eq_nil_iff.mp z] at h2
            cases h2
          have := FM.len_le List.nodup_range this
          rw [List.length_range] at this
          omega
        · rw [List.length_map]
          have := List.length_filter_le (fun k => !decide (k ∈ fo)) (List.range vs.length)
          rw [List.length_range] at this
          omega
        obtain ⟨k, hk, rfl⟩ := List.mem_map.mp hx
        obtain ⟨hk1, hk2⟩ := List.mem_filter.mp hk
        have kl := List.mem_range.mp hk1
        have knf : k ∉ fo := by simpa using hk2
        have knr : k ∉ ro := fun h => knf ((mf k).mpr (.root h (fun z => (by cases z))))
        have S8 := S7.call D8 s8
        have hR8 := s8 _ _ (hid_same s7 _ _ hR6)
        refine ⟨(by show 1 ≤ sizeLine; decide), fun p6 n6 => ?_⟩
        have rl : ro.length ≤ kns.length := by
          have := FM.len_le (pw.imp fun h => Nat.ne_of_lt h) (l' := List.range kns.length) fun k hk => List.mem_range.mpr (lt k hk)
          simpa using this
        refine cat_any (same_upd n6 _ _ (hid_get hR8)) upd_same (by rw [List.length_map]; simp only [List.length_singleton]; omega) fun H9 p9 s9 h9 => ?_
        have S9 := S8.same ((same_upd n6).trans s9)
        have e9 : ro.map nV ++ [nV k] = ((ro ++ [k]).map fun n => ((n : Nat) : Int)).map V.int := by rw [List.map_map, List.map_append]; rfl
        rw [e9] at h9
        refine ⟨p9, _, rfl, .of h9, fun ms p10 pm asc n10 => ?_⟩
        have ndz : (ro ++ [k]).Nodup := List.nodup_append.mpr ⟨pw.imp fun h => Nat.ne_of_lt h, by simp, fun a ha b hb e => by rw [List.mem_singleton] at hb; exact knr (by rw [← hb, ← e]; exact ha)⟩
        obtain ⟨e1, e2, e3⟩ := asc_nats pm asc ndz
        refine ⟨p10, _, rfl, .inl ⟨.of upd_same, fun p11 n11 => ?_⟩⟩
        have S10 := (S9.new (o := .lst (ms.map V.int)) n10).new (o := .tup (ms.map V.int)) n11
        refine ⟨p11, _, _, ms.map Int.toNat, rfl, S10.mono (by omega), by rw [(S9.new (o := .lst (ms.map V.int)) n10).at n11, e1], e2, fun r hr => ?_⟩
        rcases List.mem_append.mp ((e3 r).mp hr) with h | h
        · exact lt r h
        · rw [List.mem_singleton] at h
          omega
  · obtain ⟨R, u3, u4, ro, rfl, S4, hR, pw, lt⟩ := p
    refine ⟨_, rfl, _, rfl, R, rfl, ⟨_, .of (hid_get hR)⟩, fun N nN => ?_⟩
    have fN := S4.frs nN
    have nN0 := S4.none nN
    have st0 : StD N (fun (_ : Hp) (v : V) (x : Nat) => v = nV x) := fun _ _ _ _ _ _ h => h
    have rl : ro.length ≤ kns.length := by
      have := FM.len_le (pw.imp fun h => Nat.ne_of_lt h) (l' := List.range kns.length) fun k hk => List.mem_range.mpr (lt k hk)
      simpa using this
    refine lc_it (walk_tup (K := K) (a := R) (xs := ro.map nV)) (fun i H' => ∃ os : List Nat, os.Sublist (ro.take i) ∧ AccD (fun _ v x => v = nV x) d wa c H N (n + 30 + 3 + i) os H' ∧ Same (hid H4 d wa) (hid H' d wa)) ?_ (fun i H' _ p' => ?_) (fun i x H5 H6 hi p' y => ?_) (fun H5 p' => ?_)
    · exact ⟨[], List.nil_sublist _, AccD.start S4 nN, hid_same (same_upd nN)⟩
    · obtain ⟨_, _, _, s5⟩ := p'
      exact .of (hid_get (s5 _ _ hR))
    · obtain ⟨os, sub, ac, s5⟩ := p'
      obtain ⟨rfl, hy⟩ := y
      rw [List.getElem?_map] at hy
      obtain ⟨r, hr, rfl⟩ := Option.map_eq_some_iff.mp hy
      rw [List.length_map] at hi
      refine ⟨rfl, _, rfl, d, wa, c, n + 30 + 3 + i, 4, rfl, ac.1.dr, by omega, by decide, by decide, fun H7 g D7 s7 g0 g1 => ⟨rfl, _, rfl, ?_⟩⟩
      rw [decI]
      have s47 := s5.trans s7
      by_cases cg : g = 0
      · rw [decide_eq_true cg]
        have ol := sub.length_le
        rw [List.length_take] at ol
        obtain ⟨l, q1, q2, q3⟩ := AccD.put st0 fN nN0 ac D7 s7 (small1000 (by omega)) (y := nV r) (a := r) rfl
        refine ⟨_, rfl, l, q1, q2, os ++ [r], by rw [take1 hr]; exact sub.append (List.Sublist.refl _), q3, ?_⟩
        rw [hid_upd fN]
        exact Same.keep s47 (hid_none nN)
      · rw [decide_eq_false cg]
        exact ⟨os, sub.trans (by rw [take1 hr]; exact List.sublist_append_left _ _), AccD.pass st0 fN ac D7 s7, s47⟩
    · obtain ⟨os, sub, ⟨S5, ys, hN, ey⟩, s5⟩ := p'
      rw [List.length_map] at S5 sub
      have ey' := Each.vals ey
      subst ey'
      rw [List.take_length] at sub
      refine ⟨N, _, rfl, .inl ⟨.of hN, fun p1 n1 => ⟨_, rfl, L, vs, rfl, .inl ⟨.of ((S5.new n1).get hL), fun p3 n3 => ⟨(by show 4 ≤ sizeLine; decide), fun p4 n4 => ?_⟩⟩⟩⟩⟩
      have T1 := S5.new (o := .tup (os.map nV)) n1
      have T3 := T1.new (o := .tup vs) n3
      have T4 := T3.new (o := .tup [.str "web", .ref R, .ref p1, .ref p3]) n4
      exact q _ p4 ⟨ro, os, kns⟩ (T4.mono (by omega)).dr T4.sub ⟨p4, R, p1, p3, vs, rfl, T3.at n4, hid_same ((same_upd n1).trans ((same_upd n3).trans (same_upd n4))) _ _ (s5 _ _ hR), hid_same ((same_upd n3).trans (same_upd n4)) _ _ (S5.at n1), hid_same (same_upd n4) _ _ (T1.at n3), ek.mono fun _ _ h => h.same T4.sub⟩
        (ok.wb pw lt (pw.sublist sub) fun o ho => sub.subset ho) rfl
end
end K41
set_option maxHeartbeats 4000000
namespace K41
open PySem PySem.Spec PyProof.Rows L2
theorem knAt_st : Steady KnAt := fun D H H' hl hk v k h => by
  obtain ⟨a, l, b, e, h1, h2, h3⟩ := h.ex
  have ne : ∀ {x : Addr} {xs : List V}, H x = some (.tup xs) → x ≠ D := fun hx z => by
    subst z
    obtain ⟨l, hl⟩ := hl
    rw [hl] at hx
    cases hx
  exact ⟨a, l, b, e, hk _ _ (ne h1) h1, hk _ _ (ne h2) h2, bdAt_st D H H' hl hk b h3⟩
theorem each_ex {α : Type} : ∀ {vs : List V} {R : Nat → V → α → Prop}, (∀ i v, vs[i]? = some v → ∃ a, R i v a) → ∃ as : List α, vs.length = as.length ∧ ∀ i v a, vs[i]? = some v → as[i]? = some a → R i v a
  | [], _, _ => ⟨[], rfl, fun i v a h => by simp at h⟩
  | v :: vs, R, h => by
    obtain ⟨a, ha⟩ := h 0 v rfl
    obtain ⟨as, l, r⟩ := each_ex (vs := vs) (R := fun i => R (i + 1)) fun i v hv => h (i + 1) v (by simpa using hv)
    refine ⟨a :: as, by simp [l], fun i v' a' h1 h2 => ?_⟩
    cases i with
    | zero =>
      cases h1
      cases h2
      exact ha
    | succ i => exact r i v' a' (by simpa using h1) (by simpa using h2)
/-- a knot of a chain of m, at x -/
structure Ck (m x : Nat) (k : Kn) : Prop where
  num : k.num = (x : Nat)
  nm : k.nm = "q"
  sort : k.sort = "code"
  ok : KnOk k
  fit : ∀ a ∈ asksOf k, a.2.1 = "call" ∧ plain a.1 = true ∧ ∀ i, a.1 = .int i → ∃ j : Nat, i = (j : Nat) ∧ j < m
theorem ck_ok {m : Nat} {kns : List Kn} (l : kns.length = m) (m1 : 1 ≤ m) (m2 : m ≤ 26) (h : ∀ x k, kns[x]? = some k → Ck m x k) : KnsOk kns := by
  have at' : ∀ k ∈ kns, ∃ x, Ck m x k := fun k hk => by
    obtain ⟨x, hx⟩ := List.getElem?_of_mem hk
    exact ⟨x, h x k hx⟩
  refine ⟨by omega, by omega, fun k hk => let ⟨_, c⟩ := at' k hk; c.ok, ?_, fun k hk a ha => ?_⟩
  · have e : (kns.map lab).map (·.1) = (List.range kns.length).map (fun j => ((j : Nat) : Int)) := by
      refine List.ext_getElem (by simp) fun i h1 h2 => ?_
      rw [List.length_map, List.length_map] at h1
      have := (h i _ (List.getElem?_eq_getElem h1)).num
      simpa [lab] using this
    have nd : ((List.range kns.length).map (fun j => ((j : Nat) : Int))).Nodup := by
      rw [List.Nodup, List.pairwise_map]
      exact (List.nodup_range (n := kns.length)).imp fun h z => h (by omega)
    rw [← e] at nd
    exact List.Pairwise.of_map _ (fun a b h z => h (by rw [z])) nd
  · obtain ⟨x, c⟩ := at' k hk
    obtain ⟨f1, f2, f3⟩ := c.fit a ha
    refine ⟨?_, f2, fun i hi => ?_⟩
    · rw [f1]
      decide +kernel
    · obtain ⟨j, e, jl⟩ := f3 i hi
      have hj : kns[j]? = some (kns[j]'(by omega)) := List.getElem?_eq_getElem _
      refine ⟨j, _, e, hj, ?_, fun z => ?_⟩
      · rw [(h j _ hj).sort, f1]
        decide +kernel
      · rw [f1] at z
        exact absurd z (by decide +kernel)
end K41
set_option maxHeartbeats 4000000
namespace K41
open PySem PySem.Spec PyProof.Rows L2
theorem ixN_nat {n j : Nat} (h : j < n) : ixN n (j : Nat) = some j := by
  unfold ixN
  simp [h]
section
variable {P : Program} {w : World} {K : PySem.W.Frag} {mg : Str → Option Value} {base : Heap} {f : Addr} {fd : FuncData}
def spChain : Sp := fun args H Q _ => ∃ (d wa c : Addr) (n m : Nat), args = [.ref d, .int m] ∧ Dr H d wa c n ∧ n + 30 ≤ 1000000 ∧ 1 ≤ m ∧ m ≤ 20 ∧
  ∀ H' a v o r W, Dr H' d wa c (n + 30) → Same (hid H d wa) (hid H' d wa) → hid H' d wa a = some (.tup [v, o, r]) → WbAt (hid H' d wa) v W → WbOk W → W.kns.length = m → Q (.ref a) H'
theorem sc_law_chain : FnScope ["_law_draw", "_law_many", "_law_order", "_law_row", "_law_knots", "_law_k", "_law_call"] ["_law_draw", "_law_many"] (defScope (top 69)) := ⟨rfl, rfl, rfl, by decide +kernel, rfl, by decide +kernel, by decide +kernel⟩
theorem ok_law_chain (F : FnP K "_law_chain" 69 f fd) (T : Txt w K mg) (C_law_take : Cal P w K mg base CX0 2 "_law_take" spTake) (C_law_shuffled : Cal P w K mg base CX0 3 "_law_shuffled" spShuf) :
    FnOk P w K mg base CX0 4 f fd ["_law_draw", "_law_many"] spChain := by
  refine F.ok sc_law_chain (fun vs H Q E h => by obtain ⟨a, r, c, _, _, rfl, _⟩ := h; rfl) (fun cdv A outer s H vs Q E hr h => ?_)
  have nd := sc_law_chain.nd
  obtain ⟨d, wa, c, n, m, rfl, D, hn, m1, m2, q⟩ := h
  refine ⟨_, PSs.nox 
    (pss_cons (ps_par (i := 2) (j := 3) rfl nd rfl rfl (by decide) rfl rfl (pa_cons (pe_fn C_law_shuffled hr (by rfl) pass0 (pa_cons (pv 0) (pa_cons (pe_listRg rfl (by rfl) T.b_list (prg_1 (by rfl) T.b_range (pv 1))) pa_nil))) (pa_cons (pe_fn C_law_take hr (by rfl) pass0 (pa_cons (pv 0) (pa_cons pe_int pa_nil))) pa_nil)) (by rfl))
    (pss_cons (ps_set (i := 4) nd rfl (Or.inl rfl) (pe_op op_rep (pe_lst (pa_cons pe_non pa_nil)) (pv 1)))
    (pss_cons (ps_for PassesOwn.never rfl (pi_range1 (by rfl) T.b_range (pa_cons (pv 1) pa_nil)) (pg_name (i := 5) nd rfl (Or.inl rfl)) 
      (C8.pss_cut (ps_set (i := 6) nd rfl (Or.inl rfl) (pe_ifExp (pt_cmpR op_lt (pe_op op_add (pv 5) pe_int) (pv 1) (nomark _)) (pe_tup (pa_cons pe_str (pa_cons (pe_ix (x_lst K) (pv 2) (pe_op op_add (pv 5) pe_int) (fun _ _ => rfl)) pa_nil))) (pe_tup (pa_cons pe_str (pa_cons pe_int pa_nil)))))
      (pss_one (ps_asg (pe_tup (pa_cons pe_str (pa_cons (pe_tup (pa_cons (pe_ix (x_lst K) (pv 2) (pv 5) (fun _ _ => rfl)) (pa_cons pe_str pa_nil))) (pa_cons pe_str (pa_cons (pe_ifExp (pt_cmpR op_eq (pv 3) pe_int (nomark _)) (pe_tup (pa_cons (pv 6) (pa_cons (pe_tup (pa_cons pe_str pa_nil)) pa_nil))) (pe_tup (pa_cons (pe_tup (pa_cons pe_str (pa_cons pe_int pa_nil))) (pa_cons (pv 6) (pa_cons (pe_tup (pa_cons pe_str pa_nil)) pa_nil))))) pa_nil))))) (pg_sub (pv 4) (pe_ix (x_lst K) (pv 2) (pv 5) (fun _ _ => rfl)) set_list)))))
    (pss_one (ps_ret (pe_tup (pa_cons (pe_tup (pa_cons pe_str (pa_cons (pe_tup (pa_cons (pe_ix (x_lst K) (pv 2) pe_int (fun _ _ => rfl)) pa_nil)) (pa_cons (pe_tup pa_nil) (pa_cons (pe_callTy call_tuple_of (by rfl) T.b_tuple (by decide +kernel) (pa_cons (pv 4) pa_nil)) pa_nil))))) (pa_cons (pv 2) (pa_cons (pv 3) pa_nil))))))))), ?_⟩
  have S0 := Stp.start D
  refine ⟨_, rfl, _, rfl, m, rfl, RgOk.of_le (by omega) (by omega) (by omega) (by omega), fun L nL => ?_⟩
  rw [rgV_nats]
  have S1 := S0.new (o := .lst ((List.range m).map nV)) nL
  refine ⟨d, wa, c, L, n, (List.range m).map nV, rfl, S1.dr, by simp; omega, S0.at nL, fun H3 O ys D3 s3 _ hO pm => ?_⟩
  obtain ⟨zs, pz, rfl⟩ := perm_nats pm
  rw [List.length_map, List.length_range] at D3
  have S3 := S1.call D3 s3
  have zl : zs.length = m := by rw [pz.length_eq, List.length_range]
  have zb : ∀ x ∈ zs, x < m := fun x hx => List.mem_range.mp (pz.mem_iff.mp hx)
  have zn : zs.Nodup := pz.nodup_iff.mpr List.nodup_range
  refine ⟨_, rfl, d, wa, c, n + m, 2, rfl, S3.dr, by omega, by decide, by decide, fun H4 g D4 s4 g0 g1 => ⟨_, _, rfl, ?_⟩⟩
  have S4 := S3.call D4 s4
  have hO4 := s4 _ _ hO
  refine ⟨(by show 1 ≤ sizeLine; decide), fun p np => ⟨_, rfl, p, m, [.non], rfl, rfl, upd_same, by omega, by omega, Nat.le_of_lt (small1000 (by simp; omega)), fun N nN => ?_⟩⟩
  have S5 := S4.new (o := .lst [.non]) np
  have fN := S5.frs nN
  have nN0 := S5.none nN
  refine ⟨_, rfl, _, rfl, by omega, by omega, ?_⟩
  rw [Int.toNat_natCast]
  refine for_it walk_range (fun i σ H' => ∃ u5 u6, σ = [some (.ref d), some (.int m), some (.ref O), some (.int g), some (.ref N), u5, u6] ∧ Stp d wa c H (n + 30) H' ∧ Same (hid H4 d wa) (hid H' d wa) ∧ ∃ ys, H' N = some (.lst ys) ∧ ys.length = m ∧ ∀ x v, x ∈ zs.take i → ys[x]? = some v → ∃ k, KnAt (hid H' d wa) v k ∧ Ck m x k)
    ?_ (fun _ _ _ _ _ => trivial) (fun i x σ H6 H7 hi p' y => ?_) (fun σ H6 p' => ?_)
  · refine ⟨_, _, rfl, (S5.new nN).mono (by omega), hid_same ((same_upd np).trans (same_upd nN)), _, upd_same, by simp, fun x v h => (by simp at h)⟩
  · obtain ⟨u5, u6, rfl, S6, s6, ys, hN, yl, hy⟩ := p'
    obtain ⟨rfl, hx⟩ := y
    replace hx : x = nV i := hx.trans (congrArg V.int (Int.zero_add _))
    subst hx
    have il : i < zs.length := by omega
    obtain ⟨z, hz⟩ : ∃ z, zs[i]? = some z := ⟨_, List.getElem?_eq_getElem il⟩
    have hzv : (zs.map nV)[i]? = some (nV z) := by rw [List.getElem?_map, hz]; rfl
    have hzm := List.mem_of_getElem? hz
    have zm := zb z hzm
    have fin : ∀ {H9 : Hp} {tk : Addr} {k : Kn} {u6 : Option V}, Same H7 H9 → KnAt (hid H9 d wa) (.ref tk) k → Ck m z k →
        ∃ v5 v6, [some (V.ref d), some (.int m), some (.ref O), some (.int g), some (.ref N), some (nV i), u6] = [some (.ref d), some (.int m), some (.ref O), some (.int g), some (.ref N), v5, v6] ∧ Stp d wa c H (n + 30) (upd H9 N (.lst (ys.set z (.ref tk)))) ∧ Same (hid H4 d wa) (hid (upd H9 N (.lst (ys.set z (.ref tk)))) d wa) ∧
        ∃ ys', upd H9 N (.lst (ys.set z (.ref tk))) N = some (.lst ys') ∧ ys'.length = m ∧ ∀ x v, x ∈ zs.take (i + 1) → ys'[x]? = some v → ∃ k, KnAt (hid (upd H9 N (.lst (ys.set z (.ref tk)))) d wa) v k ∧ Ck m x k := fun {H9 tk k u6} s9 hk ck => by
      have S9 := S6.same s9
      have kp : ∀ v k', KnAt (hid H9 d wa) v k' → KnAt (hid (upd H9 N (.lst (ys.set z (.ref tk)))) d wa) v k' := fun v k' h => by
        rw [hid_upd fN]
        exact knAt_st N _ _ ⟨ys, by rw [hid_frs fN]; exact s9 _ _ hN⟩ (fun b o nb e => by rw [upd_ne nb]; exact e) v k' h
      refine ⟨_, _, rfl, S9.put fN nN0, by rw [hid_upd fN]; exact Same.keep (s6.trans (hid_same s9)) (hid_none (Same.free (same_upd np) nN)), _, upd_same, by rw [List.length_set]; exact yl, fun x v hx hv => ?_⟩
      by_cases e : z = x
      · subst e
        rw [List.getElem?_set_self (by omega)] at hv
        cases hv
        exact ⟨k, kp _ _ hk, ck⟩
      · rw [List.getElem?_set_ne e] at hv
        rw [take1 hz] at hx
        rcases List.mem_append.mp hx with hx | hx
        · obtain ⟨k', h1, h2⟩ := hy x v hx hv
          exact ⟨k', kp _ _ (h1.same (hid_same s9)), h2⟩
        · rw [List.mem_singleton] at hx
          exact absurd hx.symm e
    refine ⟨fun σ' H' => ∃ tc r, σ' = [some (.ref d), some (.int m), some (.ref O), some (.int g), some (.ref N), some (nV i), some (.ref tc)] ∧ Same H7 H' ∧ hid H' d wa tc = some (.tup r) ∧ (∀ q, RowOk q r) ∧ ∀ a, askRow r = some a → a.2.1 = "call" ∧ plain a.1 = true ∧ ∀ i, a.1 = .int i → ∃ j : Nat, i = (j : Nat) ∧ j < m, ?_, fun σ' H' p => ?_⟩
    · refine ⟨_, rfl, _, _, rfl, rfl, _, rfl, _, _, rfl, rfl, _, rfl, ?_⟩
      by_cases cm : ((i : Nat) : Int) + 1 < (m : Nat)
      · rw [decide_eq_true cm]
        obtain ⟨z', hz'⟩ : ∃ z, zs[i + 1]? = some z := ⟨_, List.getElem?_eq_getElem (by omega)⟩
        have hzv' : (zs.map nV)[i + 1]? = some (nV z') := by rw [List.getElem?_map, hz']; rfl
        have zm' := zb z' (List.mem_of_getElem? hz')
        refine ⟨_, rfl, _, rfl, _, _, rfl, rfl, O, _, ((i + 1 : Nat) : Int), _, rfl, rfl, .of (hid_get (s6 _ _ hO4)), atI_n hzv', (by show 2 ≤ sizeLine; decide), fun tc nc => ⟨tc, [.str "call", nV z'], rfl, same_upd nc, S6.at nc, fun q => RowOk.r1 (by decide +kernel) (by decide +kernel : formOf "call" = some ⟨[120].toArray⟩) (partX (.inl ⟨_, rfl⟩)), fun a ha => ?_⟩⟩
        rw [askRow_eq (show placeOf "call" = some 1 by decide +kernel)] at ha
        cases ha
        exact ⟨rfl, rfl, fun i hi => by cases hi; exact ⟨z', rfl, zm'⟩⟩
      · rw [decide_eq_false cm]
        refine ⟨(by show 2 ≤ sizeLine; decide), fun tc nc => ⟨tc, [.str "show", .int 1], rfl, same_upd nc, S6.at nc, fun q => RowOk.r1 (by decide +kernel) (by decide +kernel : formOf "show" = some ⟨[114].toArray⟩) (partR (by decide) (by decide)), fun a ha => ?_⟩⟩
        have hp : placeOf "show" = none := by decide +kernel
        simp [askRow, strV, wordV, hp] at ha
    · obtain ⟨tc, r, rfl, s8, htc, okr, ask⟩ := p
      have S8 := S6.same s8
      have hO8 := hid_same s8 _ _ (s6 _ _ hO4)
      refine ⟨_, rfl, _, rfl, O, _, ((i : Nat) : Int), _, rfl, rfl, .of (hid_get hO8), atI_n hzv, (by show 2 ≤ sizeLine; decide), fun tl nl => ⟨_, rfl, rfl, _, rfl, ?_⟩⟩
      have T1 := S8.new (o := .tup [nV z, .str "q"]) nl
      have hl := S8.at (o := .tup [nV z, .str "q"]) nl
      have retOk : ∀ q, RowOk q [.str "return"] := fun q => RowOk.r0 (by decide +kernel) (by decide +kernel)
      have noRet : askRow [.str "return"] = none := by
        have hp : placeOf "return" = none := by decide +kernel
        simp [askRow, strV, wordV, hp]
      have asks : ∀ {rows : List (List V)}, (∀ x ∈ rows, x = r ∨ askRow x = none) → ∀ a ∈ rows.filterMap askRow, a.2.1 = "call" ∧ plain a.1 = true ∧ ∀ i, a.1 = .int i → ∃ j : Nat, i = (j : Nat) ∧ j < m := fun {rows} h a ha => by
        obtain ⟨x, hx, e⟩ := List.mem_filterMap.mp ha
        rcases h x hx with rfl | h
        · exact ask a e
        · rw [h] at e
          cases e
      rw [decI]
      by_cases cg : g = 0
      · rw [decide_eq_true cg]
        refine ⟨_, rfl, (by show 1 ≤ sizeLine; decide), fun tr nr => ⟨(by show 2 ≤ sizeLine; decide), fun tb nb => ⟨(by show 4 ≤ sizeLine; decide), fun tk nk => ?_⟩⟩⟩
        have T2 := T1.new (o := .tup [.str "return"]) nr
        have T3 := T2.new (o := .tup [.ref tc, .ref tr]) nb
        have T4 := T3.new (o := .tup [.str "knot", .ref tl, .str "code", .ref tb]) nk
        have s24 := (same_upd (o := .tup [.ref tc, .ref tr]) nb).trans (same_upd (o := .tup [.str "knot", .ref tl, .str "code", .ref tb]) nk)
        have s14 := (same_upd (o := .tup [.str "return"]) nr).trans s24
        have s84 := s8.trans ((same_upd (o := .tup [nV z, .str "q"]) nl).trans s14)
        refine ⟨_, rfl, _, rfl, _, rfl, O, _, ((i : Nat) : Int), _, rfl, rfl, .of (hid_get (hid_same s84 _ _ (s6 _ _ hO4))), atI_n hzv, N, ys, _, z, rfl, rfl, s84 _ _ hN, ixN_nat (by omega), fin s84 (k := ⟨(z : Nat), "q", "code", .code [r, [.str "return"]]⟩) ⟨tk, tl, .ref tb, rfl, T3.at nk, hid_same s14 _ _ hl, tb, _, rfl, hid_same (same_upd nk) _ _ (T2.at nb), .cons ⟨tc, rfl, hid_same ((same_upd nl).trans s14) _ _ htc⟩ (.cons ⟨tr, rfl, hid_same s24 _ _ (T1.at nr)⟩ .nil)⟩ ⟨rfl, rfl, rfl, ⟨Int.natCast_nonneg _, (by decide +kernel : isNm "q" = true), rfl, by simp, by simp, fun x hx => ?_, (show inV (V.str "return") lastsL = true by decide +kernel)⟩, asks fun x hx => ?_⟩⟩
        · simp only [List.mem_cons, List.not_mem_nil, or_false] at hx
          rcases hx with rfl | rfl
          · exact okr _
          · exact retOk _
        · simp only [List.mem_cons, List.not_mem_nil, or_false] at hx
          rcases hx with rfl | rfl
          · exact .inl rfl
          · exact .inr noRet
      · rw [decide_eq_false cg]
        refine ⟨(by show 2 ≤ sizeLine; decide), fun ta na => ⟨_, rfl, (by show 1 ≤ sizeLine; decide), fun tr nr => ⟨(by show 3 ≤ sizeLine; decide), fun tb nb => ⟨(by show 4 ≤ sizeLine; decide), fun tk nk => ?_⟩⟩⟩⟩
        have Ta := T1.new (o := .tup [.str "ask", .int 2]) na
        have T2 := Ta.new (o := .tup [.str "return"]) nr
        have T3 := T2.new (o := .tup [.ref ta, .ref tc, .ref tr]) nb
        have T4 := T3.new (o := .tup [.str "knot", .ref tl, .str "code", .ref tb]) nk
        have s24 := (same_upd (o := .tup [.ref ta, .ref tc, .ref tr]) nb).trans (same_upd (o := .tup [.str "knot", .ref tl, .str "code", .ref tb]) nk)
        have sa4 := (same_upd (o := .tup [.str "return"]) nr).trans s24
        have s14 := (same_upd (o := .tup [.str "ask", .int 2]) na).trans sa4
        have s84 := s8.trans ((same_upd (o := .tup [nV z, .str "q"]) nl).trans s14)
        have askOk : ∀ q, RowOk q [.str "ask", .int 2] := fun q => RowOk.r1 (by decide +kernel) (by decide +kernel : formOf "ask" = some ⟨[114].toArray⟩) (partR (by decide) (by decide))
        have noAsk : askRow [.str "ask", .int 2] = none := by
          have hp : placeOf "ask" = none := by decide +kernel
          simp [askRow, strV, wordV, hp]
        refine ⟨_, rfl, _, rfl, _, rfl, O, _, ((i : Nat) : Int), _, rfl, rfl, .of (hid_get (hid_same s84 _ _ (s6 _ _ hO4))), atI_n hzv, N, ys, _, z, rfl, rfl, s84 _ _ hN, ixN_nat (by omega), fin s84 (k := ⟨(z : Nat), "q", "code", .code [[.str "ask", .int 2], r, [.str "return"]]⟩) ⟨tk, tl, .ref tb, rfl, T3.at nk, hid_same s14 _ _ hl, tb, _, rfl, hid_same (same_upd nk) _ _ (T2.at nb), .cons ⟨ta, rfl, hid_same sa4 _ _ (T1.at na)⟩ (.cons ⟨tc, rfl, hid_same ((same_upd nl).trans s14) _ _ htc⟩ (.cons ⟨tr, rfl, hid_same s24 _ _ (Ta.at nr)⟩ .nil))⟩ ⟨rfl, rfl, rfl, ⟨Int.natCast_nonneg _, (by decide +kernel : isNm "q" = true), rfl, by simp, by simp, fun x hx => ?_, (show inV (V.str "return") lastsL = true by decide +kernel)⟩, asks fun x hx => ?_⟩⟩
        · simp only [List.mem_cons, List.not_mem_nil, or_false] at hx
          rcases hx with rfl | rfl | rfl
          · exact askOk _
          · exact okr _
          · exact retOk _
        · simp only [List.mem_cons, List.not_mem_nil, or_false] at hx
          rcases hx with rfl | rfl | rfl
          · exact .inr noAsk
          · exact .inl rfl
          · exact .inr noRet
  · obtain ⟨u5, u6, rfl, S6, s6, ys, hN, yl, hy⟩ := p'
    have zpos : 0 < zs.length := by omega
    obtain ⟨z0, hz0⟩ : ∃ z, zs[0]? = some z := ⟨_, List.getElem?_eq_getElem zpos⟩
    have hzv : (zs.map nV)[0]? = some (nV z0) := by rw [List.getElem?_map, hz0]; rfl
    have hO6 := s6 _ _ hO4
    refine ⟨_, rfl, O, _, ((0 : Nat) : Int), _, rfl, rfl, .of (hid_get hO6), atI_n hzv, (by show 1 ≤ sizeLine; decide), fun p1 n1 => ⟨Nat.zero_le _, fun p2 n2 => ?_⟩⟩
    have T1 := S6.new (o := .tup [nV z0]) n1
    have T2 := T1.new (o := .tup []) n2
    refine ⟨_, rfl, N, ys, rfl, .inl ⟨.of (same_upd n2 _ _ (same_upd n1 _ _ hN)), fun p3 n3 => ⟨(by show 4 ≤ sizeLine; decide), fun p4 n4 => ⟨_, rfl, _, rfl, (by show 3 ≤ sizeLine; decide), fun p5 n5 => ?_⟩⟩⟩⟩
    have T3 := T2.new (o := .tup ys) n3
    have T4 := T3.new (o := .tup [.str "web", .ref p1, .ref p2, .ref p3]) n4
    have T5 := T4.new (o := .tup [.ref p4, .ref O, .int g]) n5
    obtain ⟨kns, el, er⟩ := each_ex (vs := ys) (R := fun x v k => KnAt (hid H6 d wa) v k ∧ Ck m x k) fun x v hv => hy x v (by
      have xl := lt_of_get hv
      rw [List.take_of_length_le (by omega)]
      exact pz.mem_iff.mpr (List.mem_range.mpr (by omega))) hv
    have kl : kns.length = m := by omega
    have ck : ∀ x k, kns[x]? = some k → Ck m x k := fun x k hk => by
      have xl := lt_of_get hk
      exact (er x _ k (List.getElem?_eq_getElem (by omega)) hk).2
    have okk := ck_ok kl m1 (by omega) ck
    refine q _ p5 (.ref p4) (.ref O) (.int g) ⟨[z0], [], kns⟩ T5.dr T5.sub (T4.at n5) ⟨p4, p1, p2, p3, ys, rfl, hid_same (same_upd n5) _ _ (T3.at n4), hid_same ((same_upd n2).trans ((same_upd n3).trans ((same_upd n4).trans (same_upd n5)))) _ _ (S6.at n1), hid_same ((same_upd n3).trans ((same_upd n4).trans (same_upd n5))) _ _ (T1.at n2), hid_same ((same_upd n4).trans (same_upd n5)) _ _ (T2.at n3), ⟨el, fun x v k h1 h2 => (er x v k h1 h2).1.same (hid_same ((same_upd n1).trans ((same_upd n2).trans ((same_upd n3).trans ((same_upd n4).trans (same_upd n5))))))⟩⟩
      (okk.wb (List.pairwise_singleton _ _) (fun r h => by rw [List.mem_singleton] at h; rw [h, kl]; exact zb _ (List.mem_of_getElem? hz0)) .nil (fun r h => (by cases h))) (by show kns.length = m; exact kl)
end
end K41
set_option maxHeartbeats 4000000
namespace K41
open PySem PySem.Spec PyProof.Rows L2
/-! ### the homes of the kinds -/
def homeI (kd : List Nat) (j i : Nat) : List Nat := (List.range i).filter fun k => decide (kd[k]? = some j)
theorem homeI_step {kd : List Nat} {j i x : Nat} (h : kd[i]? = some x) : homeI kd j (i + 1) = homeI kd j i ++ (if x = j then [i] else []) := by
  unfold homeI
  rw [List.range_succ, List.filter_append]
  congr 1
  by_cases c : x = j
  · rw [if_pos c]
    simp [h, c]
  · rw [if_neg c]
    simp [h, c]
theorem homeI_mem {kd : List Nat} {j i k : Nat} : k ∈ homeI kd j i ↔ k < i ∧ kd[k]? = some j := by
  unfold homeI
  simp
theorem homeI_len (kd : List Nat) (j i : Nat) : (homeI kd j i).length ≤ i := by
  unfold homeI
  refine Nat.le_trans (List.length_filter_le _ _) ?_
  simp
/-- the env that the copies stand in -/
def envC (ps : List Pt) (kd : List Nat) : Env' := kd.map fun j => ((ps.getD j ⟨"", 0, .room 0⟩).s, lenB (ps.getD j ⟨"", 0, .room 0⟩).bd)
theorem home_ok {ps : List Pt} {kd : List Nat} {m : Nat} (l : ps.length = m) : HomeOk ps ((List.range m).map fun j => homeI kd j kd.length) (envC ps kd) := by
  intro j ks hj k hk
  rw [List.getElem?_map] at hj
  obtain ⟨j', hj', rfl⟩ := Option.map_eq_some_iff.mp hj
  have jl := lt_of_get hj'
  rw [List.length_range] at jl
  rw [List.getElem?_range jl] at hj'
  cases hj'
  obtain ⟨kl, hk⟩ := homeI_mem.mp hk
  have hp : ps[j]? = some ps[j] := List.getElem?_eq_getElem (by omega)
  refine ⟨_, hp, ?_⟩
  unfold envC
  rw [List.getElem?_map, hk]
  show some ((ps.getD j _).s, lenB (ps.getD j _).bd) = _
  rw [List.getD_eq_getElem?_getD, hp]
  rfl
/-- a knot that is a copy: the i-th one -/
structure KnC (ps : List Pt) (kd : List Nat) (labs : List (Int × Str)) (i : Nat) (k : Kn) : Prop where
  lb : labs[i]? = some (lab k)
  env : (envC ps kd)[i]? = some (k.sort, lenK k)
  ok : KnOk k
  fit : ∀ a ∈ asksOf k, FitsE (envC ps kd) a
theorem ext_opt {α : Type} {l l' : List α} (h : l.length = l'.length) (e : ∀ (i : Nat) a, l[i]? = some a → l'[i]? = some a) : l = l' := by
  refine List.ext_getElem? fun i => ?_
  cases q : l[i]? with
  | some a => exact (e i a q).symm
  | none =>
    rw [List.getElem?_eq_none_iff] at q
    rw [List.getElem?_eq_none_iff.mpr (by omega)]
theorem knc_all {ps : List Pt} {kd : List Nat} {labs : List (Int × Str)} {kns : List Kn} (l : kns.length = kd.length) (h : ∀ (i : Nat) k, kns[i]? = some k → KnC ps kd labs i k) (lo : LabsOk kd.length labs) (l1 : 1 ≤ kd.length) (l2 : kd.length ≤ 26) : KnsOk kns := by
  have at' : ∀ k ∈ kns, ∃ i, KnC ps kd labs i k := fun k hk => by
    obtain ⟨x, hx⟩ := List.getElem?_of_mem hk
    exact ⟨x, h x k hx⟩
  have el : kns.map lab = labs := by
    refine ext_opt (by rw [List.length_map, lo.len, l]) fun i a ha => ?_
    rw [List.getElem?_map] at ha
    obtain ⟨k, hk, rfl⟩ := Option.map_eq_some_iff.mp ha
    exact (h i k hk).lb
  have ee : envK kns = envC ps kd := by
    refine ext_opt (by unfold envK envC; rw [List.length_map, List.length_map, l]) fun i a ha => ?_
    unfold envK at ha
    rw [List.getElem?_map] at ha
    obtain ⟨k, hk, rfl⟩ := Option.map_eq_some_iff.mp ha
    exact (h i k hk).env
  refine ⟨by omega, by omega, fun k hk => let ⟨_, c⟩ := at' k hk; c.ok, by rw [el]; exact lo.nd, fun k hk a ha => fits_e ?_⟩
  obtain ⟨_, c⟩ := at' k hk
  rw [ee]
  exact c.fit a ha
theorem home_ne {kd : List Nat} {j : Nat} (h : j ∈ kd) : homeI kd j kd.length ≠ [] := fun z => by
  obtain ⟨k, hk⟩ := List.getElem?_of_mem h
  have : k ∈ homeI kd j kd.length := homeI_mem.mpr ⟨lt_of_get hk, hk⟩
  rw [z] at this
  cases this
def spLWeb : Sp := fun args H Q _ => ∃ (d wa c : Addr) (n : Nat), args = [.ref d, .int 8] ∧ Dr H d wa c n ∧ n + 3000 ≤ 1000000 ∧
  ∀ H' v W, Dr H' d wa c (n + 3000) → Same (hid H d wa) (hid H' d wa) → WbAt (hid H' d wa) v W → WbOk W → W.kns.length ≤ 19 → Q v H'
end K41
set_option maxHeartbeats 4000000
namespace K41
open PySem PySem.Spec PyProof.Rows L2
theorem pi_enumK (K : PySem.W.Frag) {X : Cx} {e : Expr} {ta : TA} {p pos tpos : Pos} {elts : List Expr} {kk : Nat} (hK : X.K = K) (hg : Gl X "enumerate") (hm : X.mg "enumerate" = none) (ha : PA X [e] ta) (hs : starEach [e] X.env = [(false, eval e X.env)] := by rfl) :
    PI X (.Tuple elts kk tpos) (.Call (.Name "enumerate" p) [e] [] pos) (iEnum K ta) := hK ▸ pi_enum hg hm ha hs
section
variable {P : Program} {w : World} {K : PySem.W.Frag} {mg : Str → Option Value} {base : Heap} {f : Addr} {fd : FuncData}
theorem sc_law_web : FnScope ["_law_draw", "_law_most", "_law_patterns_here", "_law_many", "_law_kinds", "_law_homes", "_law_labels_here", "_law_knots", "_law_lap", "_law_k", "_law_j", "_law_kind"] ["_law_draw", "_law_most"] (defScope (top 70)) := ⟨rfl, rfl, rfl, by decide +kernel, rfl, by decide +kernel, by decide +kernel⟩
theorem ok_law_web (F : FnP K "_law_web" 70 f fd) (T : Txt w K mg) (C_law_take : Cal P w K mg base CX0 2 "_law_take" spTake) (C_law_pick : Cal P w K mg base CX0 3 "_law_pick" spPick) (C_law_shuffled : Cal P w K mg base CX0 3 "_law_shuffled" spShuf)
    (C_law_chain : Cal P w K mg base CX0 4 "_law_chain" spChain) (C_law_patterns : Cal P w K mg base CX0 8 "_law_patterns" spPats) (C_law_labels : Cal P w K mg base CX0 4 "_law_labels" spLabels) (C_law_copied : Cal P w K mg base CX0 5 "_law_copied" spCopied)
    (C_law_spoilt : Cal P w K mg base CX0 7 "_law_spoilt" spSpoilt) (C_law_rooted : Cal P w K mg base CX0 5 "_law_rooted" spRooted) :
    FnOk P w K mg base CX0 9 f fd ["_law_draw", "_law_most"] spLWeb := by
  refine F.ok sc_law_web (fun vs H Q E h => by obtain ⟨a, r, c, _, rfl, _⟩ := h; rfl) (fun cdv A outer s H vs Q E hr h => ?_)
  have nd := sc_law_web.nd
  obtain ⟨d, wa, c, n, rfl, D, hn, q⟩ := h
  refine ⟨_, PSs.nox 
    (pss_cons (ps_if (pt_cmpR op_eq (pe_fn C_law_take hr (by rfl) pass0 (pa_cons (pv 0) (pa_cons pe_int pa_nil))) pe_int (nomark _)) 
      (pss_one (ps_ret (pe_ix (x_tup K) (pe_fn C_law_chain hr (by rfl) pass0 (pa_cons (pv 0) (pa_cons (pe_op op_add pe_int (pe_fn C_law_take hr (by rfl) pass0 (pa_cons (pv 0) (pa_cons pe_int pa_nil)))) pa_nil))) pe_int (fun _ _ => rfl)))) pss_nil)
    (pss_cons (ps_set (i := 2) nd rfl (Or.inr rfl) (pe_fn C_law_patterns hr (by rfl) pass0 (pa_cons (pv 0) pa_nil)))
    (pss_cons (ps_set (i := 3) nd rfl (Or.inr rfl) (pe_callB (x_len K) (by rfl) T.b_len PySem.boot_len (pa_cons (pv 2) pa_nil)))
    (pss_cons (ps_set (i := 4) nd rfl (Or.inr rfl) (pe_fn C_law_shuffled hr (by rfl) pass0 (pa_cons (pv 0) (pa_cons (pe_op op_cat (pe_listRg rfl (by rfl) T.b_list (prg_1 (by rfl) T.b_range (pv 3))) (pe_lc (own := [("_law_k", 9)]) rfl nd (pi_range1 (by rfl) T.b_range (pa_cons (pe_fn C_law_take hr (by rfl) pass0 (pa_cons (pv 0) (pa_cons (pv 1) pa_nil))) pa_nil)) (blkOk_by (own := [("_law_k", 9)]) (N := ["_law_draw", "_law_most", "_law_patterns_here", "_law_many", "_law_kinds", "_law_homes", "_law_labels_here", "_law_knots", "_law_lap", "_law_k", "_law_j", "_law_kind"]) (sc := defScope (top 70)) (by decide +kernel)) (fun _ _ _ _ _ => (pg_name (i := 9) nd rfl (Or.inl rfl))) (fun _ _ _ _ _ => pts_nil) (fun _ _ _ _ _ => (pe_fn C_law_take hr (by rfl) pass0 (pa_cons (pv 0) (pa_cons (pv 3) pa_nil)))))) pa_nil))))
    (pss_cons (ps_set (i := 5) nd rfl (Or.inr rfl) (pe_lc (own := [("_law_j", 10)]) rfl nd (pi_range1 (by rfl) T.b_range (pa_cons (pv 3) pa_nil)) (blkOk_by (own := [("_law_j", 10)]) (N := ["_law_draw", "_law_most", "_law_patterns_here", "_law_many", "_law_kinds", "_law_homes", "_law_labels_here", "_law_knots", "_law_lap", "_law_k", "_law_j", "_law_kind"]) (sc := defScope (top 70)) (by decide +kernel)) (fun _ _ _ _ _ => (pg_name (i := 10) nd rfl (Or.inr rfl))) (fun _ _ _ _ _ => pts_nil) (fun _ _ _ _ _ => (pe_lc (own := [("_law_k", 9), ("_law_kind", 11)]) (g := gTup K 2 (gCons (gName 9) (gCons (gName 11) gNil))) rfl nd (pi_enumK K rfl (by rfl) T.b_enumerate (pa_cons (pv 4) pa_nil)) (blkOk_by (own := [("_law_k", 9), ("_law_kind", 11)]) (N := ["_law_draw", "_law_most", "_law_patterns_here", "_law_many", "_law_kinds", "_law_homes", "_law_labels_here", "_law_knots", "_law_lap", "_law_k", "_law_j", "_law_kind"]) (sc := { kind := .function, names := [(".0", .local), ("_law_j", .cell), ("enumerate", .globalImplicit), ("_law_kinds", .cell)], isGenerator := false, isCoroutine := false }) (by decide +kernel)) (fun _ _ _ _ _ => (pg_tup rfl (pgs_cons (pg_name (i := 9) nd rfl (Or.inl rfl)) (pgs_cons (pg_name (i := 11) nd rfl (Or.inl rfl)) pgs_nil)))) (fun _ _ _ _ _ => (pts_one (pt_cmpR op_eq (pv 11) (pv 10) (nomark _)))) (fun _ _ _ _ _ => (pv 9))))))
    (pss_cons (ps_set (i := 6) nd rfl (Or.inr rfl) (pe_fn C_law_labels hr (by rfl) pass0 (pa_cons (pv 0) (pa_cons (pe_callB (x_len K) (by rfl) T.b_len PySem.boot_len (pa_cons (pv 4) pa_nil)) pa_nil))))
    (pss_cons (ps_setLc (own := [("_law_k", 9), ("_law_j", 10)]) (g := gTup K 2 (gCons (gName 9) (gCons (gName 10) gNil))) (i := 7) rfl nd rfl rfl (sw_true rfl rfl rfl (by decide +kernel)) (pi_enum (by rfl) T.b_enumerate (pa_cons (pv 4) pa_nil)) (blkOk_by (own := [("_law_k", 9), ("_law_j", 10)]) (N := ["_law_draw", "_law_most", "_law_patterns_here", "_law_many", "_law_kinds", "_law_homes", "_law_labels_here", "_law_knots", "_law_lap", "_law_k", "_law_j", "_law_kind"]) (sc := defScope (top 70)) (by decide +kernel)) (fun _ _ _ _ _ => (pg_tup rfl (pgs_cons (pg_name (i := 9) nd rfl (Or.inl rfl)) (pgs_cons (pg_name (i := 10) nd rfl (Or.inl rfl)) pgs_nil)))) (fun _ _ _ _ _ => pts_nil) (fun _ _ _ _ _ => (pe_tup (pa_cons pe_str (pa_cons (pe_ix (x_lst K) (pv 6) (pv 9) (fun _ _ => rfl)) (pa_cons (pe_ix (x_tup K) (pe_ix (x_lst K) (pv 2) (pv 10) (fun _ _ => rfl)) pe_int (fun _ _ => rfl)) (pa_cons (pe_fn C_law_copied hr (by rfl) pass0 (pa_cons (pv 0) (pa_cons (pv 2) (pa_cons (pv 5) (pa_cons (pv 10) pa_nil))))) pa_nil)))))))
    (pss_cons (ps_for PassesOwn.never rfl (pi_range1 (by rfl) T.b_range (pa_cons (pe_fn C_law_pick hr (by rfl) pass0 (pa_cons (pv 0) (pa_cons (pe_lst (pa_cons pe_int (pa_cons pe_int (pa_cons pe_int (pa_cons pe_int (pa_cons pe_int (pa_cons pe_int pa_nil))))))) pa_nil))) pa_nil)) (pg_name (i := 8) nd rfl (Or.inl rfl)) 
      (pss_one (ps_set (i := 7) nd rfl (Or.inl rfl) (pe_fn C_law_spoilt hr (by rfl) pass0 (pa_cons (pv 0) (pa_cons (pv 7) pa_nil))))))
    (pss_one (ps_ret (pe_fn C_law_rooted hr (by rfl) pass0 (pa_cons (pv 0) (pa_cons (pv 7) pa_nil))))))))))))), ?_⟩
  have S0 := Stp.start D
  refine ⟨_, rfl, d, wa, c, n, 12, rfl, D, by omega, by decide, by decide, fun H1 z D1 s1 z0 z1 => ⟨rfl, _, rfl, ?_⟩⟩
  have S1 := S0.call D1 s1
  rw [decI]
  by_cases c0 : z = 0
  · rw [decide_eq_true c0]
    refine ⟨_, rfl, _, rfl, d, wa, c, n + 1, 14, rfl, D1, by omega, by decide, by decide, fun H2 g D2 s2 g0 g1 => ⟨_, _, rfl, rfl, ?_⟩⟩
    have S2 := S1.call D2 s2
    obtain ⟨k, rfl⟩ := Int.eq_ofNat_of_zero_le g0
    refine ⟨d, wa, c, n + 1 + 1, 2 + k, congrArg (fun z => [V.ref d, V.int z]) (by omega), D2, by omega, by omega, by omega, fun H3 a v o r W D3 s3 ha hW okW lW => ?_⟩
    exact ⟨a, _, 0, v, rfl, rfl, .of (hid_get ha), at0, q H3 v W (D3.mono (by omega)) (S2.call D3 s3).sub hW okW (by omega)⟩
  rw [decide_eq_false c0]
  refine ⟨_, rfl, d, wa, c, n + 1, rfl, D1, by omega, fun H2 A' pv ps D2 s2 hA' eP pl1 pl2 okp => ?_⟩
  have S2 := S1.call D2 s2
  refine ⟨_, rfl, _, _, rfl, .inl ⟨_, .of (hid_get hA'), rfl⟩, ?_⟩
  have lp : pv.length = ps.length := eP.1
  refine ⟨_, rfl, _, rfl, pv.length, rfl, RgOk.of_le (by omega) (by omega) (by omega) (by omega), fun L nL => ?_⟩
  rw [rgV_nats]
  have S3 := S2.new (o := .lst ((List.range pv.length).map nV)) nL
  have hL := S2.at (o := .lst ((List.range pv.length).map nV)) nL
  refine ⟨_, rfl, _, rfl, d, wa, c, n + 1 + 900, 8, rfl, S3.dr, by omega, by decide, by decide, fun H4 z D4 s4 z0 z1 => ⟨_, rfl, by omega, by omega, fun N nN => ?_⟩⟩
  have S4 := S3.call D4 s4
  obtain ⟨k, rfl⟩ := Int.eq_ofNat_of_zero_le z0
  have Z4 := (Stp.start S3.dr).call D4 s4
  have fN := S4.frs nN
  have nN0 := Z4.none nN
  have st0 : StD N (fun (_ : Hp) (v : V) (x : Nat) => v = nV x) := fun _ _ _ _ _ _ h => h
  show ∃ W : Nat → Nat → Hp → Prop, (∃ m, W 0 m (upd H4 N (.lst []))) ∧ _
  rw [Int.toNat_natCast]
  refine lc_it walk_range (fun i H' => ∃ os : List Nat, os.length = i ∧ (∀ x ∈ os, x < pv.length) ∧ AccD (fun _ v x => v = nV x) d wa c (upd H2 L (.lst ((List.range pv.length).map nV))) N (n + 1 + 900 + 1 + i) os H') ⟨[], rfl, fun x h => (by cases h), AccD.start Z4 nN⟩ (fun _ _ _ _ => trivial) (fun i x H5 H6 hi p y => ?_) (fun H5 p => ?_)
  · obtain ⟨rfl, hx⟩ := y
    obtain ⟨os, lo, ob, ac⟩ := p
    refine ⟨rfl, _, rfl, _, rfl, d, wa, c, n + 1 + 900 + 1 + i, pv.length, rfl, ac.1.dr, by omega, by omega, by omega, fun H7 g D7 s7 g0 g1 => ?_⟩
    obtain ⟨g, rfl⟩ := Int.eq_ofNat_of_zero_le g0
    obtain ⟨l, q1, q2, q3⟩ := AccD.put st0 fN nN0 ac D7 s7 (small1000 (by omega)) (y := nV g) (a := g) rfl
    exact ⟨l, q1, q2, os ++ [g], by rw [List.length_append, lo]; rfl, fun x hx => by
      rcases List.mem_append.mp hx with hx | hx
      · exact ob x hx
      · rw [List.mem_singleton] at hx
        omega, q3⟩
  · obtain ⟨os, lo, ob, S5, ys, hN, ey⟩ := p
    have ey' := Each.vals ey
    subst ey'
    have hL5 : H5 L = some (.lst ((List.range pv.length).map nV)) := S5.get hL
    have T5 : Stp d wa c H (n + 1 + 900 + 1 + k) H5 := ⟨S5.dr, S3.sub.trans S5.sub⟩
    refine ⟨L, N, _, _, rfl, rfl, hL5, hN, Nat.le_of_lt (small1000 (by simp only [List.length_map, List.length_range]; omega)), fun M nM => ?_⟩
    rw [← List.map_append]
    have T6 := T5.new (o := .lst ((List.range pv.length ++ os).map nV)) nM
    refine ⟨d, wa, c, M, n + 1 + 900 + 1 + k, _, rfl, T6.dr, by simp only [List.length_map, List.length_append, List.length_range]; omega, T5.at nM, fun H7 Kd zs D7 s7 _ hKd pm => ?_⟩
    obtain ⟨kd, pk, rfl⟩ := perm_nats pm
    have T7 := T6.call D7 s7
    have kl : kd.length = pv.length + k := by rw [pk.length_eq, List.length_append, List.length_range, lo]
    have kb : ∀ x ∈ kd, x < pv.length := fun x hx => by
      rcases List.mem_append.mp (pk.mem_iff.mp hx) with h | h
      · exact List.mem_range.mp h
      · exact ob x h
    have kall : ∀ j, j < pv.length → j ∈ kd := fun j hj => pk.mem_iff.mpr (List.mem_append.mpr (.inl (List.mem_range.mpr hj)))
    refine ⟨_, rfl, _, rfl, by omega, by omega, fun B nB => ?_⟩
    show ∃ W : Nat → Nat → Hp → Prop, (∃ m, W 0 m (upd H7 B (.lst []))) ∧ _
    rw [Int.toNat_natCast]
    have fB : Frs d wa c B := T7.frs nB
    refine lc_it walk_range (fun i H' => Same H7 H' ∧ ∃ ys, H' B = some (.lst ys) ∧ Each (fun v ks => ∃ N, v = .ref N ∧ N ≠ B ∧ hid H' d wa N = some (.lst (ks.map nV))) ys (((List.range pv.length).take i).map fun j => homeI kd j kd.length)) ⟨same_upd nB, [], upd_same, .nil⟩ (fun _ _ _ _ => trivial) (fun j x H8 H9 hj p y => ?_) (fun H8 p => ?_)
    · obtain ⟨rfl, hx⟩ := y
      replace hx : x = nV j := hx.trans (congrArg V.int (Int.zero_add _))
      subst hx
      obtain ⟨s8, hs, hB, eB⟩ := p
      have hK9 : H9 Kd = some (.lst (kd.map nV)) := s8 _ _ (hid_get hKd)
      refine ⟨rfl, _, rfl, Kd, _, rfl, .of hK9, fun D2 nD2 => ?_⟩
      have dB : D2 ≠ B := fun z => by rw [z, hB] at nD2; cases nD2
      refine lc_it walk_enum (fun i H' => Acc H9 D2 (fun i => (homeI kd j i).map nV) i H') (Acc.start nD2 rfl) (fun i H' _ p' => .of (p'.1 _ _ hK9)) (fun i x H10 H11 hi p' y => ?_) (fun H10 p' => ?_)
      · obtain ⟨t, cc, y, rfl, nt, rfl, hc, hy⟩ := y
        cases hc
        replace hy : (kd.map nV)[i]? = some y := hy
        rw [List.getElem?_map] at hy
        obtain ⟨x0, hx0, rfl⟩ := Option.map_eq_some_iff.mp hy
        have st := homeI_step (j := j) hx0
        rw [List.length_map] at hi
        have few : ((homeI kd j i).map nV).length < sizeLine := small1000 (by
          rw [List.length_map]
          have := homeI_len kd j i
          omega)
        refine ⟨t, _, rfl, .of upd_same, rfl, _, _, rfl, _, _, rfl, rfl, rfl, ?_⟩
        have s2 : Same H10 (upd H10 t (.tup [.int (i : Nat), nV x0])) := same_upd nt
        refine ⟨_, rfl, _, rfl, rfl, _, rfl, ?_⟩
        show if decide (V.int _ = V.int _) = true then _ else _
        rw [decI]
        by_cases c2 : x0 = j
        · rw [decide_eq_true (show ((x0 : Nat) : Int) = ((j : Nat) : Int) by rw [c2])]
          exact ⟨_, rfl, Acc.put nD2 p' s2 few (by rw [st, if_pos c2]; simp; rfl)⟩
        · rw [decide_eq_false (show ¬ ((x0 : Nat) : Int) = ((j : Nat) : Int) by omega)]
          exact Acc.pass p' s2 (by rw [st, if_neg c2]; simp)
      · obtain ⟨s10, h10⟩ := p'
        rw [List.length_map] at h10
        have hB10 := s10 _ _ hB
        refine ⟨hs, hB10, small1000 (by rw [eB.1, List.length_map, List.length_take]; omega), Same.keep (s8.trans s10) nB, _, upd_same, ?_⟩
        · rw [take1 (show (List.range pv.length)[j]? = some j by rw [List.getElem?_range hj]), List.map_append]
          have f2 : Frs d wa c D2 := (T7.same s8).frs nD2
          have e1 := eB.mono (R' := fun v ks => ∃ N, v = .ref N ∧ N ≠ B ∧ hid (upd H10 B (.lst (hs ++ [.ref D2]))) d wa N = some (.lst (ks.map nV))) fun v ks ⟨N', e, ne, h⟩ => ⟨N', e, ne, by rw [hid_upd fB, upd_ne ne]; exact hid_same s10 _ _ h⟩
          exact e1.snoc ⟨D2, rfl, dB, by rw [hid_frs f2, upd_ne dB]; exact h10⟩
    · obtain ⟨s8, hs, hB, eB⟩ := p
      rw [List.take_of_length_le (by simp)] at eB
      have T8 := T7.same s8
      have pl : (List.map nV (List.range pv.length ++ os)).length = pv.length + k := by rw [List.length_map, List.length_append, List.length_range, lo]
      rw [pl] at T8
      have hB8 : hid H8 d wa B = some (.lst hs) := by rw [hid_frs fB]; exact hB
      have hHo : HomesAt (hid H8 d wa) B ((List.range pv.length).map fun j => homeI kd j kd.length) := ⟨⟨hs, hB8, eB.mono fun v ks ⟨N', e, _, h⟩ => ⟨N', e, h⟩⟩, fun ks hks => by
        obtain ⟨j, hj, rfl⟩ := List.mem_map.mp hks
        have := homeI_len kd j kd.length
        exact ⟨home_ne (kall j (List.mem_range.mp hj)), by omega⟩⟩
      have hKd8 : hid H8 d wa Kd = some (.lst (kd.map nV)) := hid_same s8 _ _ hKd
      have c28 : Same (hid H2 d wa) (hid H8 d wa) := (hid_same (same_upd nL)).trans (S5.sub.trans ((hid_same (same_upd nM)).trans (s7.trans (hid_same s8))))
      have hPa8 : PatsAt (hid H8 d wa) A' ps := PatsAt.same ⟨pv, hA', eP⟩ c28
      refine ⟨_, rfl, _, rfl, _, _, rfl, .inl ⟨_, .of (hid_get hKd8), rfl⟩, d, wa, c, _, kd.length, congrArg (fun z : Nat => [V.ref d, V.int z]) (List.length_map _), T8.dr, by omega, by omega, fun H9 Lb lvs labs D9 s9 hLb eL okL => ?_⟩
      have T9 := T8.call D9 s9
      have hKd9 := s9 _ _ hKd8
      have hPa9 := hPa8.same s9
      have hHo9 := hHo.same s9
      have lhs : ps.length = ((List.range pv.length).map fun j => homeI kd j kd.length).length := by simp [lp]
      have ho := home_ok (ps := ps) (kd := kd) (m := pv.length) lp.symm
      have lpk : 1 ≤ kd.length := by omega
      refine ⟨_, rfl, Kd, _, rfl, .of (hid_get hKd9), fun Kn nKn => ?_⟩
      have fK := T9.frs nKn
      have nK0 := (Stp.start T9.dr).none nKn
      refine lc_it walk_enum (fun i H' => ∃ kns, kns.length = i ∧ (∀ (j : Nat) x, kns[j]? = some x → KnC ps kd labs j x) ∧ AccD KnAt d wa c H9 Kn (n + 1000 + 40 * i) kns H') ⟨[], rfl, fun j x h => (by simp at h), AccD.start ((Stp.start T9.dr).mono (by omega)) nKn⟩ (fun i H' _ p' => by obtain ⟨_, _, _, ac⟩ := p'; exact .of (ac.1.get hKd9)) (fun i x H10 H11 hi p' y => ?_) (fun H10 p' => ?_)
      · obtain ⟨t, cc, y, rfl, nt, rfl, hc, hy⟩ := y
        cases hc
        replace hy : (kd.map nV)[i]? = some y := hy
        rw [List.getElem?_map] at hy
        obtain ⟨j, hj, rfl⟩ := Option.map_eq_some_iff.mp hy
        obtain ⟨kns, lk, okc, ac⟩ := p'
        rw [List.length_map] at hi
        have jl := kb j (List.mem_of_getElem? hj)
        refine ⟨t, _, rfl, .of upd_same, rfl, _, _, rfl, _, _, rfl, rfl, rfl, ?_⟩
        have hT := (ac.1.new (o := .tup [.int (i : Nat), nV j]) nt)
        have ac1 : AccD KnAt d wa c H9 Kn (n + 1000 + 40 * i) kns (upd H10 t (.tup [.int (i : Nat), nV j])) := AccD.pass (knAt_st Kn) fK ac hT.dr (hid_same (same_upd nt))
        revert hT ac1
        generalize upd H10 t (.tup [.int (i : Nat), nV j]) = H12
        intro hT ac1
        have hp : ps[j]? = some ps[j] := List.getElem?_eq_getElem (by omega)
        obtain ⟨pv', hpv, t2, b2, rfl, ht2, hb2⟩ := eP.get hp
        have ht12 := hT.sub _ _ (s9 _ _ (c28 _ _ ht2))
        have il : i < labs.length := by rw [okL.len]; exact hi
        have lab1 : labs[i]? = some (labs[i]'(by rw [okL.len]; exact hi)) := List.getElem?_eq_getElem _
        obtain ⟨lv, hlv, l2, rfl, hl2⟩ := eL.get lab1
        have okl := okL.ok _ (List.mem_of_getElem? lab1)
        have hl12 := hT.sub _ _ hl2
        have hLb12 := hT.sub _ _ hLb
        have hPa12 := (hPa9.same hT.sub)
        obtain ⟨pvs, hA12, _⟩ := id hPa12.ex
        refine ⟨_, rfl, _, rfl, Lb, _, i, _, rfl, rfl, .of (hid_get hLb12), atI_n hlv, _, rfl, _, rfl, A', pv, j, _, rfl, rfl, .of (hid_get (hT.sub _ _ (s9 _ _ (c28 _ _ hA')))), atI_n hpv, t2, _, 0, _, rfl, rfl, .of (hid_get ht12), at0, ?_⟩
        refine ⟨_, rfl, _, rfl, _, rfl, _, rfl, d, wa, c, A', B, n + 1000 + 40 * i, j, ps, _, ps[j], envC ps kd, rfl, hT.dr, by omega, hPa12, hHo9.same hT.sub, lhs, hp, okp, ho, fun H13 b bd D13 s13 hb bo le ft => ?_⟩
        refine ⟨(by show 4 ≤ sizeLine; decide), fun tk ntk => ?_⟩
        have T13 := hT.call D13 s13
        have hk : KnAt (hid (upd H13 tk (.tup [.str "knot", .ref l2, .str (ps[j]).s, b])) d wa) (.ref tk) ⟨(labs[i]'(by rw [okL.len]; exact hi)).1, (labs[i]'(by rw [okL.len]; exact hi)).2, (ps[j]).s, bd⟩ :=
          ⟨tk, l2, b, rfl, T13.at ntk, hid_same (same_upd ntk) _ _ (s13 _ _ hl12), hb.same (hid_same (same_upd ntk))⟩
        obtain ⟨l, q1, q2, q3⟩ := AccD.put (knAt_st Kn) fK nK0 ac1 (T13.new (o := .tup [.str "knot", .ref l2, .str (ps[j]).s, b]) ntk).dr (s13.trans (hid_same (same_upd ntk))) (small1000 (by omega)) hk
        refine ⟨l, q1, q2, kns ++ [⟨labs[i].1, labs[i].2, (ps[j]).s, bd⟩], by rw [List.length_append, lk]; rfl, fun m x hx => ?_, by rw [show n + 1000 + 40 * (i + 1) = n + 1000 + 40 * i + 40 by omega]; exact q3⟩
        by_cases e : m < kns.length
        · rw [List.getElem?_append_left e] at hx
          exact okc m x hx
        · have := lt_of_get hx
          rw [List.length_append] at this
          have e2 : m = i := by simp at this; omega
          subst e2
          rw [List.getElem?_append_right (by omega), lk, Nat.sub_self] at hx
          cases hx
          refine ⟨lab1, ?_, ⟨okl.1, okl.2, bo⟩, ft⟩
          unfold envC
          rw [List.getElem?_map, hj]
          show some ((ps.getD j _).s, lenB (ps.getD j _).bd) = _
          rw [List.getD_eq_getElem?_getD, hp]
          have lk2 : ∀ (a : Int) (b : Str) (s : Str) (bd : Bd), lenK ⟨a, b, s, bd⟩ = lenB bd := fun a b s bd => by cases bd <;> rfl
          show some ((ps[j]).s, lenB (ps[j]).bd) = some ((ps[j]).s, lenK _)
          rw [lk2, le]
      · obtain ⟨kns, lk, okc, T10, ys, hKn, eK⟩ := p'
        rw [List.length_map] at lk T10
        have okk := knc_all lk okc okL lpk (by omega)
        have hKn10 : KnsAt (hid H10 d wa) Kn kns := ⟨ys, by rw [hid_frs fK]; exact hKn, eK⟩
        have T10' : Stp d wa c H (n + 2000) H10 := (T9.call T10.dr T10.sub).mono (by omega)
        refine ⟨_, rfl, (by show 6 ≤ sizeLine; decide), fun p np => ?_⟩
        refine ⟨d, wa, c, p, n + 2000, [.int 0, .int 0, .int 1, .int 1, .int 2, .int 3], rfl, (T10'.new np).dr, by omega, T10'.at np, (by simp), (by decide), fun H14 y D14 s14 hy => ?_⟩
        have T14 := (T10'.new (o := .lst [.int 0, .int 0, .int 1, .int 1, .int 2, .int 3]) np).call D14 s14
        obtain ⟨g, rfl, g3⟩ : ∃ g : Nat, y = nV g ∧ g ≤ 3 := by
          simp only [List.mem_cons, List.not_mem_nil, or_false] at hy
          rcases hy with rfl | rfl | rfl | rfl | rfl | rfl
          · exact ⟨0, rfl, by omega⟩
          · exact ⟨0, rfl, by omega⟩
          · exact ⟨1, rfl, by omega⟩
          · exact ⟨1, rfl, by omega⟩
          · exact ⟨2, rfl, by omega⟩
          · exact ⟨3, rfl, by omega⟩
        refine ⟨g, rfl, by omega, by omega, ?_⟩
        rw [Int.toNat_natCast]
        refine for_it walk_range (fun i σ H' => ∃ Kn u8 kns, σ = [some (.ref d), some (.int 8), some (.ref A'), some (.int (pv.length : Nat)), some (.ref Kd), some (.ref B), some (.ref Lb), some (.ref Kn), u8, none, none, none] ∧ Stp d wa c H (n + 2001 + 9 * i) H' ∧ KnsAt (hid H' d wa) Kn kns ∧ KnsOk kns ∧ kns.length ≤ 19)
          ⟨Kn, _, kns, rfl, T14.mono (by omega), (hKn10.same (hid_same (same_upd np))).same s14, okk, by omega⟩ (fun _ _ _ _ _ => trivial) (fun i x σ H15 H16 hi p y => ?_) (fun σ H15 p => ?_)
        · obtain ⟨Kn, u8, kns, rfl, T15, hk, okk, l19⟩ := p
          obtain ⟨rfl, hx⟩ := y
          exact ⟨_, rfl, _, rfl, d, wa, c, Kn, n + 2001 + 9 * i, kns, rfl, T15.dr, by omega, hk, okk, fun H17 N2 kns2 D17 s17 hk2 ok2 l2 => ⟨N2, _, kns2, rfl, (T15.call D17 s17).mono (by omega), hk2, ok2, by omega⟩⟩
        · obtain ⟨Kn, u8, kns, rfl, T15, hk, okk, l19⟩ := p
          exact ⟨_, rfl, _, rfl, d, wa, c, Kn, n + 2001 + 9 * g, kns, rfl, T15.dr, by omega, hk, okk, fun H17 a W D17 s17 hW okW eW => q H17 (.ref a) W (D17.mono (by omega)) (T15.sub.trans s17) hW okW (by rw [eW]; exact l19)⟩
end
end K41
set_option maxHeartbeats 4000000
namespace K41
open PySem PySem.Spec PyProof.Rows L2
theorem Same.lstq {K : PySem.W.Frag} {H H' : Hp} {a : Addr} {xs : List V} (e : Same H H') (h : SqL K H a xs) : SqL K H' a xs := by
  rcases h with (h | ⟨o, h⟩) | h
  · exact .inl (.inl (e _ _ h))
  · exact .inl (.inr ⟨o, e _ _ h⟩)
  · exact .inr h
section
variable {P : Program} {w : World} {K : PySem.W.Frag} {mg : Str → Option Value} {base : Heap} {f : Addr} {fd : FuncData}
def spBegun (K : PySem.W.Frag) : Sp := fun args H Q _ => ∃ (a : Addr) (ns : List Int), args = [.ref a] ∧ SqL K H a (ns.map V.int) ∧ ns.length ≤ 63 ∧
  ∀ H' d wa c, Same H H' → Dr H' d wa c 0 → Q (.ref d) H'
theorem sc_law_begun : FnScope ["_law_script", "_law_wide", "_law_grain"] ["_law_script"] (defScope (top 47)) := ⟨rfl, rfl, rfl, by decide +kernel, rfl, by decide +kernel, by decide +kernel⟩
theorem ok_law_begun (F : FnP K "_law_begun" 47 f fd) (T : Txt w K mg) : FnOk P w K mg base CX0 1 f fd ["_law_script"] (spBegun K) := by
  refine F.ok sc_law_begun (fun vs H Q E h => by obtain ⟨a, r, rfl, _⟩ := h; rfl) (fun cdv A outer s H vs Q E hr h => ?_)
  have nd := sc_law_begun.nd
  have hu := hu_of hr
  obtain ⟨a, ns, rfl, hS, few, q⟩ := h
  refine ⟨_, PSs.nox 
    (pss_cons (ps_setLc (own := [("_law_grain", 2)]) (i := 1) rfl nd rfl rfl (sw_true rfl rfl rfl (by decide +kernel)) (pi_list (pv 0)) (blkOk_by (own := [("_law_grain", 2)]) (N := ["_law_script", "_law_wide", "_law_grain"]) (sc := defScope (top 47)) (by decide +kernel)) (fun _ _ _ _ _ => (pg_name (i := 2) nd rfl (Or.inl rfl))) (fun _ _ _ _ _ => (pts_one (pt_cmpR op_ge (pe_callB call_abs (by rfl) T.b_abs (by decide +kernel) (pa_cons (pv 2) pa_nil)) (pe_op op_pow pe_int pe_int) (nomark _)))) (fun _ _ _ _ _ => (pe_op op_sub (pe_callB call_abs (by rfl) T.b_abs (by decide +kernel) (pa_cons (pv 2) pa_nil)) (pe_op op_pow pe_int pe_int))))
    (pss_one (ps_ret (pe_disp (pps_cons pe_str (pv 1) (pps_cons pe_str (pe_lc (own := [("_law_grain", 2)]) rfl nd (pi_list (pv 0)) (blkOk_by (own := [("_law_grain", 2)]) (N := ["_law_script", "_law_wide", "_law_grain"]) (sc := defScope (top 47)) (by decide +kernel)) (fun _ _ _ _ _ => (pg_name (i := 2) nd rfl (Or.inl rfl))) (fun _ _ _ _ _ => pts_nil) (fun _ _ _ _ _ => (pe_op op_mod (pe_callTy call_int1 (by rfl) T.b_int (by decide +kernel) (pa_cons (pe_callB call_abs (by rfl) T.b_abs (by decide +kernel) (pa_cons (pv 2) pa_nil)) pa_nil)) pe_int))) (pps_cons pe_str pe_int (pps_cons pe_str pe_int pps_nil)))) (by rfl) (by rfl) (fun z => by cases z) (by decide))))), ?_⟩
  refine ⟨_, rfl, a, rfl, ⟨_, hS⟩, fun D nD => ?_⟩
  refine lc_it walk_list (fun i H' => Same H H' ∧ ∃ l : List Int, H' D = some (.lst (l.map V.int)) ∧ l.length ≤ i) ⟨same_upd nD, [], upd_same, Nat.le_refl _⟩ (fun i H' _ p => Same.lstq p.1 hS) (fun i x H1 H2 hi p y => ?_) (fun H1 p => ?_)
  · obtain ⟨rfl, hy⟩ := y
    rw [List.getElem?_map] at hy
    obtain ⟨g, hg, rfl⟩ := Option.map_eq_some_iff.mp hy
    obtain ⟨s1, l, hD, ll⟩ := p
    rw [List.length_map] at hi
    refine ⟨rfl, _, rfl, _, rfl, _, _, rfl, rfl, ⟨by decide, by decide, by decide⟩, _, _, rfl, rfl, _, rfl, ?_⟩
    have few1 : ∀ l : List Int, l.length ≤ i → (l.map V.int).length < sizeLine := fun l h => small1000 (by rw [List.length_map]; omega)
    cases hc : decide ((10 : Int) ^ (18 : Int).toNat ≤ if g < 0 then -g else g) with
    | false => exact ⟨s1, l, hD, Nat.le_succ_of_le ll⟩
    | true =>
      refine ⟨_, rfl, _, rfl, _, _, rfl, rfl, ⟨by decide, by decide, by decide⟩, _, _, rfl, rfl, _, hD, few1 l ll, Same.keep s1 nD, l ++ [_], by rw [upd_same, List.map_append]; rfl, by rw [List.length_append]; simp; omega⟩
  · obtain ⟨s1, l, hD, ll⟩ := p
    rw [List.length_map] at ll
    refine fun p np => ?_
    have s2 : Same H1 (upd H1 p (.dK [])) := same_upd np
    have hp : (upd H1 p (.dK [])) p = some (.dK []) := upd_same
    revert s2 hp
    generalize upd H1 p (.dK []) = H2
    intro s2 hp
    have s3 := s1.trans s2
    have np0 : H p = none := Same.free s1 np
    refine ⟨_, rfl, _, rfl, a, rfl, ⟨_, Same.lstq s3 hS⟩, fun D2 nD2 => ?_⟩
    refine lc_it walk_list (fun i H' => Same H2 H' ∧ ∃ l : List Int, H' D2 = some (.lst (l.map V.int)) ∧ l.length ≤ i ∧ ∀ x ∈ l, 0 ≤ x ∧ x < 2147483629) ⟨same_upd nD2, [], upd_same, Nat.le_refl _, fun x h => (by cases h)⟩ (fun i H' _ p => Same.lstq (s3.trans p.1) hS) (fun i x H3 H4 hi p' y => ?_) (fun H3 p' => ?_)
    · obtain ⟨rfl, hy⟩ := y
      rw [List.getElem?_map] at hy
      obtain ⟨g, hg, rfl⟩ := Option.map_eq_some_iff.mp hy
      obtain ⟨s4, l2, hD2, ll2, b2⟩ := p'
      rw [List.length_map] at hi
      have few2 : (l2.map V.int).length < sizeLine := small1000 (by rw [List.length_map]; omega)
      refine ⟨rfl, _, rfl, _, rfl, .inl ⟨_, rfl, _, _, rfl, rfl, (by decide : (0 : Int) < 2147483629), _, hD2, few2, Same.keep s4 nD2, l2 ++ [_], by rw [upd_same, List.map_append]; rfl, by rw [List.length_append]; simp; omega, fun x hx => ?_⟩⟩
      rcases List.mem_append.mp hx with hx | hx
      · exact b2 x hx
      · rw [List.mem_singleton] at hx
        subst hx
        exact ⟨Int.emod_nonneg _ (by decide), Int.emod_lt_of_pos _ (by decide)⟩
    · obtain ⟨s4, l2, hD2, ll2, b2⟩ := p'
      refine ⟨s4 _ _ hp, drK D D2 0 0, rfl, by show 4 ≤ 15; decide, ?_⟩
      have sd : Same H (upd H3 p (.dK (drK D D2 0 0))) := Same.keep (s3.trans s4) np0
      have pD : D ≠ p := fun z => by
        have := s2 _ _ hD
        rw [z, hp] at this
        cases this
      have pD2 : D2 ≠ p := fun z => by
        have := s4 _ _ hp
        rw [← z, hD2] at this
        cases this
      have hD3 := s4 _ _ (s2 _ _ hD)
      refine q _ p D D2 sd ⟨⟨0, 0, l, upd_same, by rw [upd_ne pD]; exact hD3, Int.le_refl _, Int.le_refl _⟩, ⟨l2, by rw [upd_ne pD2]; exact hD2, b2⟩, fun z => ?_⟩
      have z1 : H2 D = some (.lst (l.map V.int)) := s2 _ _ hD
      rw [← z, nD2] at z1
      cases z1
end
end K41
set_option maxHeartbeats 4000000
namespace K41
open PySem PySem.Spec PyProof.Rows L2
/-! ### a local name that holds one of several defs, each with its promise and what it lets out -/
def tCallR (i : Nat) (S : Addr → Sp → Prop) (E : XK) (t : TA) : TE := fun σ H Q => ∃ f sp, σ[i]? = some (some (.ref f)) ∧ S f sp ∧ t σ H fun vs H1 => sp vs H1 Q E
structure HeldR (P : Program) (w : World) (K : PySem.W.Frag) (mg : Str → Option Value) (base : Heap) (CX : CXT) (k : Nat) (f : Addr) (sp : Sp) : Prop where
  ex : ∃ (fd : FuncData) (ps : List Str), FnOk P w K mg base CX k f fd ps sp ∧ PySem.W.keepIn K (.ref f) = true ∧ Binds K fd ps []
theorem pe_callR {X : Cx} {CX : CXT} {k i : Nat} {E : XK} {x : Str} {p pos : Pos} {e : Expr} {es : List Expr} {t : TA} {S : Addr → Sp → Prop} (A : ∀ f sp, S f sp → HeldR X.prog X.w X.K X.mg X.base CX k f sp) (hr : Room k X.A) (hN : X.N[i]? = some x) (hv : Vis X.env.scope x) (hx : Passes CX X E) (ha : PA X (e :: es) t)
    (hdb : (x == ("__debug__" : Str)) = false := by decide) (hcd : (x == ("__classdict__" : Str)) = false := by decide)
    (he : starEach (e :: es) X.env = (false, eval e X.env) :: starEach es X.env := by rfl) (hpl : (backTo pos (starEach es X.env)).any (·.1) = false := by rfl) : PE X (.Call (.Name x p) (e :: es) [] pos) (tCallR i S E t) := by
  refine ⟨fun pins s σ H Q I h => ?_⟩
  obtain ⟨f, sp, hs, hS, ht⟩ := h
  obtain ⟨fd, ps, F, hk, hb⟩ := (A f sp hS).ex
  refine (pe_callL (i := i) (f := f) (sp := sp) (dvs := []) (E := E) F hr hN hv hk hb .nil hx ha hdb hcd he hpl).run pins s σ H Q I ⟨hs, ?_⟩
  have e0 : (fun (vs : List V) (H1 : Hp) => sp (vs ++ []) H1 Q E) = fun vs H1 => sp vs H1 Q E := by
    funext vs H1
    rw [List.append_nil]
  show t σ H (fun vs H1 => sp (vs ++ []) H1 Q E)
  rw [e0]
  exact ht
/-! ### what stays where tables grow -/
open LamX (ExtN Tabs TabS)
theorem _root_.LamX.ExtN.tup {H H' : Hp} (e : ExtN H H') {a : Addr} {xs : List V} (h : H a = some (.tup xs)) : H' a = some (.tup xs) := e _ _ h fun _ z => nomatch z
theorem _root_.LamX.ExtN.lst {H H' : Hp} (e : ExtN H H') {a : Addr} {xs : List V} (h : H a = some (.lst xs)) : H' a = some (.lst xs) := e _ _ h fun _ z => nomatch z
/-- every tuple stays -/
def TupE (H H' : Hp) : Prop := ∀ (a : Addr) (xs : List V), H a = some (.tup xs) → H' a = some (.tup xs)
theorem row_tup {H H' : Hp} (e : TupE H H') {v : V} {r : List V} (h : RowAt H v r) : RowAt H' v r := let ⟨q, x, h⟩ := h; ⟨q, x, e _ _ h⟩
theorem bd_tup {H H' : Hp} (e : TupE H H') : ∀ {bd : Bd} {v : V}, BdAt H v bd → BdAt H' v bd
  | .room _, _, h => h
  | .flat _, _, ⟨p, x, h⟩ => ⟨p, x, e _ _ h⟩
  | .code _, _, ⟨p, vs, x, h, r⟩ => ⟨p, vs, x, e _ _ h, r.mono fun _ _ => row_tup e⟩
theorem kn_tup {H H' : Hp} (e : TupE H H') {v : V} {k : Kn} (h : KnAt H v k) : KnAt H' v k := by
  obtain ⟨a, l, b, x, h1, h2, h3⟩ := h.ex
  exact ⟨a, l, b, x, e _ _ h1, e _ _ h2, bd_tup e h3⟩
theorem wb_tup {H H' : Hp} (e : TupE H H') {v : V} {W : Wb} (h : WbAt H v W) : WbAt H' v W := by
  obtain ⟨a, r, o, kt, vs, x, h1, h2, h3, h4, ek⟩ := h.ex
  exact ⟨a, r, o, kt, vs, x, e _ _ h1, e _ _ h2, e _ _ h3, e _ _ h4, ek.mono fun _ _ => kn_tup e⟩
theorem wb_ext {H H' : Hp} (e : ExtN H H') {v : V} {W : Wb} (h : WbAt H v W) : WbAt H' v W := wb_tup (fun _ _ h => e.tup h) h
theorem tup_hid {H H' : Hp} {d w c : Addr} {n : Nat} (D : Dr H d w c n) (s : Same (hid H d w) (hid H' d w)) : TupE H H' := fun _ _ h => hid_get (s _ _ (hid_tup D h))
theorem dr_ext {H H' : Hp} (e : ExtN H H') {d w c : Addr} {n : Nat} (D : Dr H d w c n) : Dr H' d w c n := by
  obtain ⟨r, t, wd, h1, h2, h3, h4⟩ := D.ex
  obtain ⟨cs, h5, h6⟩ := D.cells
  exact ⟨⟨r, t, wd, e _ _ h1 (fun _ z => nomatch z), e.lst h2, h3, h4⟩, ⟨cs, e.lst h5, h6⟩, D.ne⟩
theorem tabs_hid {H : Hp} {d w c : Addr} {n : Nat} (D : Dr H d w c n) {T : List (Addr × Str)} (t : Tabs T H) : Tabs T (hid H d w) := by
  obtain ⟨r, tt, wd, h1, h2, _⟩ := D.ex
  have keep : ∀ {b : Addr} {o : HO}, H b = some o → (∀ kvs, o ≠ .dK kvs) → (∀ l, o ≠ .lst l) → hid H d w b = some o := fun {b o} e n1 n2 => by
    rw [hid_of (fun z => by rw [z, h1] at e; exact n1 _ (Option.some.inj e).symm) (fun z => by rw [z, h2] at e; exact n2 _ (Option.some.inj e).symm)]
    exact e
  intro p hp
  obtain ⟨ps, q1, q2, q3⟩ := t p hp
  refine ⟨ps, keep q1 (fun _ z => nomatch z) (fun _ z => nomatch z), q2, fun pos cv hc => ?_⟩
  obtain ⟨cc, e, hh⟩ := q3 pos cv hc
  exact ⟨cc, e, keep hh (fun _ z => by unfold LamX.CodeO at z; cases z) (fun _ z => by unfold LamX.CodeO at z; cases z)⟩
/-! ### the plain law of one knot -/
section
variable {W : Wb} {k : Nat} {u u2 L L2 : List PP} {fl fl2 : Nat}
theorem ways_ok (ok : WbOk W) {rs : List (Nat × List Nat)} (FL : FM.Flow W.gr k u fl) (ro : RoadsOf W.gr k u W.roots rs) : ∀ p ∈ rs, WayOk W (p.2 ++ [k]) ∧ p.2 ≠ [] := fun p hp => by
  obtain ⟨R, o, ne⟩ := ro.each p hp
  have gok := gr_ok ok
  have own : ∀ (i x : Nat), (p.2 ++ [k])[i]? = some x → FM.Own W.gr k u p.1 i x := fun i x h => by
    by_cases e : i < p.2.length
    · rw [List.getElem?_append_left e] at h
      exact R.own i x h
    · have := lt_of_get h
      rw [List.length_append] at this
      have e2 : i = p.2.length := by simp at this; omega
      subst e2
      rw [List.getElem?_append_right (by omega), Nat.sub_self] at h
      cases h
      exact o
  refine ⟨⟨by simp, fun x hx => ?_, fun x hx => (own 0 x hx).first rfl, fun i a b h1 h2 => (own i a h1).lead FL (own (i + 1) b h2)⟩, ne⟩
  obtain ⟨i, hi⟩ := List.getElem?_of_mem hx
  exact ((own i x hi).kept FL).lt gok
theorem ways_nd (ok : WbOk W) {rs : List (Nat × List Nat)} (FL : FM.Flow W.gr k u fl) (ro : RoadsOf W.gr k u W.roots rs) : (rs.flatMap (·.2)).Nodup ∧ k ∉ rs.flatMap (·.2) := by
  have gok := gr_ok ok
  have nr : (rs.map (·.1)).Nodup := by
    rw [ro.rts]
    exact gok.nd.sublist List.filter_sublist
  refine ⟨?_, fun h => ?_⟩
  · rw [List.nodup_iff_pairwise_ne, List.pairwise_flatMap]
    refine ⟨fun p hp => List.nodup_iff_pairwise_ne.mp ((ro.each p hp).1.nd FL), ?_⟩
    have pw := List.pairwise_map.mp (List.nodup_iff_pairwise_ne.mp nr)
    refine List.Pairwise.imp_of_mem (fun {p q} hp hq h x hx y hy e => ?_) pw
    subst e
    exact (ro.each p hp).1.apart FL (ro.each q hq).1 h x hx hy
  · obtain ⟨p, hp, hk⟩ := List.mem_flatMap.mp h
    exact (ro.each p hp).1.ne k hk rfl
theorem roads_len (ok : WbOk W) (hk : k < W.gr.n) {rs : List (Nat × List Nat)} (FL : FM.Flow W.gr k u fl) (DN : FM.Done W.gr k u L) (FL2 : FM.Flow W.gr k u2 fl2) (DN2 : FM.Done W.gr k u2 L2) (ro : RoadsOf W.gr k u2 W.roots rs) : rs.length = (FM.cutL W.gr.n L).length := by
  have gok := gr_ok ok
  have h1 : rs.length = fl2 := by
    rw [← FL2.begun gok, ← List.length_map (f := (·.1)), ro.rts]
    rfl
  have h2 := DN.size gok FL hk
  have h3 := DN2.size gok FL2 hk
  have h4 := FL2.le_cut gok hk (DN.cuts gok) DN.tout
  have h5 := FL.le_cut gok hk (DN2.cuts gok) DN2.tout
  omega
end
end K41
set_option maxHeartbeats 4000000
namespace K41
open PySem PySem.Spec PyProof.Rows L2
open LamX (ExtN Tabs TabS)
def qL : Str := Str.ofString "law" ++ ".<locals>." ++ "<lambda>"
theorem and2c {a b : Bool} (h : (a && b) = true) : a = true ∧ b = true := Bool.and_eq_true_iff.mp h
theorem two_ways {c : Bool} {A X E : Prop} (h1 : c = true → E) (hA : E → A) (h2 : (E → A) → c = false → X) : if c = true then A else X := by
  cases c with
  | true => exact hA (h1 rfl)
  | false => exact h2 hA rfl
section
variable {P : Program} {w : World} {K : PySem.W.Frag} {mg : Str → Option Value} {base : Heap} {f fE : Addr} {fd fdE : FuncData} {CN CR CS cL Pt : Addr}
def spLaw (K : PySem.W.Frag) (Pt : Addr) : Sp := fun args H Q _ => ∃ (a : Addr) (ns : List Int), args = [.ref a] ∧ SqL K H a (ns.map V.int) ∧ ns.length ≤ 63 ∧ H Pt = some (.tbl #[]) ∧ ∀ H', Q (.bl true) H'
theorem sc_law_error : FnScope ["_law_work", "_law_error_here", "caught"] ["_law_work"] (defScope (top 53)) := ⟨rfl, rfl, rfl, by decide +kernel, rfl, by decide +kernel, by decide +kernel⟩
theorem sc_law : FnScope ["_law_script", "_law_draw", "_law_turn", "_law_web_here", "_law_some", "_law_k", "_law_lot_here", "_law_roads", "_law_most", "_law_other", "_law_work", "_law_error_here", "_law_is_right", "_law_one"] ["_law_script"] (defScope (top 81)) := ⟨rfl, rfl, rfl, by decide +kernel, rfl, by decide +kernel, by decide +kernel⟩
theorem ok_law (F : FnP K "law" 81 f fd) (hcode : fd.code = .ref cL) (TB : LamX.TabB base mg cL Pt) (T : Txt w K mg) (FE : FnP K "_law_error" 53 fE fdE) (gE : mg "_law_error" = some (.ref fE)) (gS : mg "LinkError" = some (.ref CS))
    (g_NotKept : mg "NotKept" = some (.ref CN)) (g_Rooted : mg "Rooted" = some (.ref CR)) (xN : XIs K CN) (xR : XIs K CR) (iN : PySem.W.kitOne K (.ref CN) (.ref CN) = some true) (iR : PySem.W.kitOne K (.ref CR) (.ref CR) = some true)
    (eN : PySem.W.exmOne K (.ref CN) (.ref CS) = some true) (eR : PySem.W.exmOne K (.ref CR) (.ref CS) = some true) (nN : PySem.W.findIn K (.ref CN) "knot" = some none) (nR : PySem.W.findIn K (.ref CR) "knot" = some none)
    (C_cut : Cal P w K mg base (L2.CX P w) 11 "cut" (spCut CN CR)) (C_roads_apart : Cal P w K mg base (L2.CX P w) 11 "roads_apart" (spApart CN CR))
    (C_law_begun : Cal P w K mg base CX0 1 "_law_begun" (spBegun K)) (C_law_web : Cal P w K mg base CX0 9 "_law_web" spLWeb) (C_law_kept : Cal P w K mg base CX0 4 "_law_kept" spLKept) (C_law_is_ascending : Cal P w K mg base CX0 2 "_law_is_ascending" spLAsc)
    (C_law_reach : Cal P w K mg base CX0 3 "_law_reach" spReach) (C_law_are_apart : Cal P w K mg base CX0 4 "_law_are_apart" spLApart) (C_law_in_front : Cal P w K mg base CX0 4 "_law_in_front" spFront) (C_law_take : Cal P w K mg base CX0 2 "_law_take" spTake) (C_law_choices : Cal P w K mg base CX0 1 "_law_choices" spChoices) :
    FnOk P w K mg base CX0 14 f fd ["_law_script"] (spLaw K Pt) := by
  have bE : Binds K fdE ["_law_work"] [] := FE.bindsN fun _ _ _ _ _ _ us hl => match us, hl with | [_], _ => rfl
  obtain ⟨ocE, odE, dVE, kVE, docE, pmE, anE, cdvE, ctE, oslE, rfl, lkE, hcdE, _, _⟩ := FE.ex
  obtain ⟨oc, od, dV, kV, doc, pm, an, cdv, ct, osl, rfl, lk, hcd, _, _⟩ := F.ex
  have ec : cdv = .ref cL := hcode
  subst ec
  refine fn_of lk hcd sc_law (fun vs H Q E h => by obtain ⟨a, ns, rfl, _⟩ := h; rfl) fun A outer s H vs Q E hr h => ?_
  have nd := sc_law.nd
  obtain ⟨f_cut, fdc, psc, g_cut, kpc, bc, Fc⟩ := C_cut.ex
  obtain ⟨f_roads_apart, fda, psa, g_roads_apart, kpa, ba, Fa⟩ := C_roads_apart.ex
  let Sw : Addr → Sp → Prop := fun f sp => (f = f_cut ∧ sp = spCut CN CR) ∨ (f = f_roads_apart ∧ sp = spApart CN CR)
  have hSw : ∀ f sp, Sw f sp → HeldR P w K mg base (L2.CX P w) 11 f sp := fun f sp h => by
    rcases h with ⟨rfl, rfl⟩ | ⟨rfl, rfl⟩
    · exact ⟨_, _, Fc, kpc, bc⟩
    · exact ⟨_, _, Fa, kpa, ba⟩
  obtain ⟨a, ns, rfl, hS, few, hPt, q⟩ := h
  refine ⟨_, PSs.nox 
    (pss_cons (ps_set (i := 1) nd rfl (Or.inl rfl) (pe_fn C_law_begun hr (by rfl) pass0 (pa_cons (pv 0) pa_nil)))
    (pss_cons (ps_for PassesOwn.never rfl (pi_range1 (by rfl) T.b_range (pa_cons pe_int pa_nil)) (pg_name (i := 2) nd rfl (Or.inl rfl)) 
      (pss_cons (ps_set (i := 3) nd rfl (Or.inr rfl) (pe_fn C_law_web hr (by rfl) pass0 (pa_cons (pv 1) (pa_cons pe_int pa_nil))))
      (pss_cons (ps_set (i := 4) nd rfl (Or.inl rfl) (pe_fn C_law_kept hr (by rfl) pass0 (pa_cons (pv 3) pa_nil)))
      (pss_one (ps_for PassesOwn.never rfl (pi_range1 (by rfl) T.b_range (pa_cons (pe_callB (x_len K) (by rfl) T.b_len PySem.boot_len (pa_cons (pe_ix (x_tup K) (pv 3) pe_int (fun _ _ => rfl)) pa_nil)) pa_nil)) (pg_name (i := 5) nd rfl (Or.inr rfl)) 
        (pss_cons (ps_if (PW.pt (pw_or (pt_cmpR (x_notIn K) (pv 5) (pv 4) (by rfl)) (pw_or1 (pt_cmpR (x_in K) (pv 5) (pe_ix (x_tup K) (pv 3) pe_int (fun _ _ => rfl)) (by rfl))))) 
          (pss_cons (ps_for PassesOwn.never rfl (pi_list (pe_lst (pa_cons (C8.pe_gc (v := .ref f_cut) (by rfl) ⟨_, g_cut, rfl⟩) (pa_cons (C8.pe_gc (v := .ref f_roads_apart) (by rfl) ⟨_, g_roads_apart, rfl⟩) pa_nil)))) (pg_name (i := 10) nd rfl (Or.inr rfl)) 
            (pss_cons (ps_set (i := 11) nd rfl (Or.inl rfl) (LamX.pe_lamcall (T := [(Pt, qL)]) (TT := TTerr K CS) (t := fun E => tCallR 10 Sw E (tCons (tVar 3) (tCons (tVar 5) tNil))) (k := 11) (by rfl) gE FE.kp lkE hcdE bE sc_law_error rfl (Or.inl rfl) (err_gives sc_law_error rfl rfl rfl gS) TB rfl (List.mem_singleton.mpr rfl) (fun p hp _ => by rw [List.mem_singleton.mp hp]; rfl) hr (LamX.lamS_by (sc := defScope (top 81)) (by decide +kernel)) rfl (fun _ _ _ _ _ => rfl) (fun A outer s H E f c hr2 => pe_callR hSw hr2 rfl (Or.inr (Or.inr rfl)) (passes_call (takes_of rfl rfl rfl rfl) (fun _ _ _ _ h => h)) (pa_cons (pv 3) (pa_cons (pv 5) pa_nil)))))
            (pss_cons (ps_set (i := 12) nd rfl (Or.inl rfl) (pe_ifExp (pt_cmpR (x_in K) (pv 5) (pv 4) (by rfl)) (pe_callB call_isX (by rfl) T.b_isinstance (by decide +kernel) (pa_cons (pv 11) (pa_cons (C8.pe_gc (v := .ref CR) (by rfl) ⟨_, g_Rooted, rfl⟩) pa_nil))) (pe_callB call_isX (by rfl) T.b_isinstance (by decide +kernel) (pa_cons (pv 11) (pa_cons (C8.pe_gc (v := .ref CN) (by rfl) ⟨_, g_NotKept, rfl⟩) pa_nil)))))
            (pss_one (ps_if (PW.pt (pw_or (pt_not (pt_val (pv 12))) (pw_or1 (pt_cmpR op_ne (pe_xv (pv 11)) (pv 5) (nomark _))))) 
              (pss_one (ps_ret pe_bl)) pss_nil)))))
          (pss_one ps_continue)) pss_nil)
        (pss_cons (ps_par (i := 6) (j := 7) rfl nd rfl rfl (by decide) rfl rfl (pa_cons (pe_fn C_cut hr (by rfl) (passes_call LamX.takes0 (fun _ _ _ _ h => h)) (pa_cons (pv 3) (pa_cons (pv 5) pa_nil))) (pa_cons (pe_fn C_roads_apart hr (by rfl) (passes_call LamX.takes0 (fun _ _ _ _ h => h)) (pa_cons (pv 3) (pa_cons (pv 5) pa_nil))) pa_nil)) (by rfl))
        (pss_cons (ps_if (PW.pt (pw_or (pt_not (pt_val (pe_fn C_law_is_ascending hr (by rfl) pass0 (pa_cons (pv 6) (pa_cons (pv 4) pa_nil))))) (pw_or (pt_cmpR (x_in K) (pv 5) (pv 6) (by rfl)) (pw_or (pt_cmpR (x_in K) (pv 5) (pe_fn C_law_reach hr (by rfl) pass0 (pa_cons (pv 3) (pa_cons (pv 6) pa_nil))) (by rfl)) (pw_or1 (pt_not (pt_val (pe_callB (x_isi K) (by rfl) T.b_isinstance (by decide +kernel) (pa_cons (pv 7) (pa_cons (pe_bltn (v := .ty "tuple") (by rfl) T.b_tuple (by decide +kernel) rfl) pa_nil)))))))))) 
          (pss_one (ps_ret pe_bl)) pss_nil)
        (pss_cons (ps_if (PW.pt (pw_or (pt_cmpR op_ne (pe_callB (x_len K) (by rfl) T.b_len PySem.boot_len (pa_cons (pv 7) pa_nil)) (pe_callB (x_len K) (by rfl) T.b_len PySem.boot_len (pa_cons (pv 6) pa_nil)) (nomark _)) (pw_or1 (pt_not (pt_val (pe_fn C_law_are_apart hr (by rfl) pass0 (pa_cons (pv 3) (pa_cons (pv 5) (pa_cons (pv 7) pa_nil))))))))) 
          (pss_one (ps_ret pe_bl)) pss_nil)
        (pss_cons (ps_set (i := 8) nd rfl (Or.inl rfl) (pe_fn C_law_in_front hr (by rfl) pass0 (pa_cons (pv 3) (pa_cons (pv 6) pa_nil))))
        (pss_one (ps_for PassesOwn.never rfl (pi_list (pe_ifExp (pt_cmpR op_eq (pe_fn C_law_take hr (by rfl) pass0 (pa_cons (pv 1) (pa_cons pe_int pa_nil))) pe_int (nomark _)) (pe_fn C_law_choices hr (by rfl) pass0 (pa_cons (pe_lc (own := [("_law_one", 13)]) rfl nd (pi_list (pv 4)) (blkOk_by (own := [("_law_one", 13)]) (N := ["_law_script", "_law_draw", "_law_turn", "_law_web_here", "_law_some", "_law_k", "_law_lot_here", "_law_roads", "_law_most", "_law_other", "_law_work", "_law_error_here", "_law_is_right", "_law_one"]) (sc := defScope (top 81)) (by decide +kernel)) (fun _ _ _ _ _ => (pg_name (i := 13) nd rfl (Or.inl rfl))) (fun _ _ _ _ _ => (pts_one (pt_cmpR op_ne (pv 13) (pv 5) (nomark _)))) (fun _ _ _ _ _ => (pv 13))) (pa_cons (pe_callB (x_len K) (by rfl) T.b_len PySem.boot_len (pa_cons (pv 6) pa_nil)) pa_nil))) (pe_lst pa_nil))) (pg_name (i := 9) nd rfl (Or.inl rfl)) 
          (pss_one (ps_if (PW.pt (pw_and (pt_cmpR (op_neD hr.units) (pv 9) (pv 6) (nomark _)) (pw_and (pt_cmpR (x_notIn K) (pv 5) (pe_fn C_law_reach hr (by rfl) pass0 (pa_cons (pv 3) (pa_cons (pv 9) pa_nil))) (by rfl)) (pw_and1 (pt_cmpR op_le (pe_fn C_law_in_front hr (by rfl) pass0 (pa_cons (pv 3) (pa_cons (pv 9) pa_nil))) (pv 8) (nomark _)))))) 
            (pss_one (ps_ret pe_bl)) pss_nil))))))))))))))
    (pss_one (ps_ret pe_bl)))), ?_⟩
  refine ⟨_, rfl, a, ns, rfl, hS, few, fun H1 d wa c s1 D1 => ?_⟩
  have t1 : Tabs [(Pt, qL)] H1 := fun p hp => by
    rw [List.mem_singleton.mp hp]
    exact ⟨#[], s1 _ _ hPt, trivial, fun pos cv h => by cases h⟩
  refine ⟨2, rfl, by decide, by decide, ?_⟩
  refine for_it walk_range (fun i σ H' => (∃ u2 u3 u4 u5 u6 u7 u8 u9 u10 u11 u12, σ = [some (.ref a), some (.ref d), u2, u3, u4, u5, u6, u7, u8, u9, u10, u11, u12, none]) ∧ Dr H' d wa c (4000 * i) ∧ Tabs [(Pt, qL)] H')
    ⟨⟨_, _, _, _, _, _, _, _, _, _, _, rfl⟩, D1, t1⟩ (fun _ _ _ _ _ => trivial) (fun t x σ H2 H3 ht p y => ?_) (fun σ H2 p => q _)
  obtain ⟨⟨u2, u3, u4, u5, u6, u7, u8, u9, u10, u11, u12, rfl⟩, D2, t2⟩ := p
  obtain ⟨rfl, hx⟩ := y
  have tt : t < 2 := ht
  refine ⟨_, rfl, d, wa, c, 4000 * t, rfl, D2, by omega, fun H3 wv W D3 s3 hW0 okW lW => ?_⟩
  have t3 : Tabs [(Pt, qL)] H3 := ((tabs_hid D2 t2).ext s3).ext fun _ _ h => hid_get h
  have hW : WbAt H3 wv W := hW0.same fun _ _ h => hid_get h
  have gok := gr_ok okW
  refine ⟨_, rfl, wv, W, rfl, hW, okW, fun H4 Ks ks s4 nKs hKs asc mk => ?_⟩
  obtain ⟨wa', r, o, kt, vs, rfl, ha4, hrt4, ho4, hkt4, ek4⟩ := (hW.same s4).ex
  have lv := ek4.1
  refine ⟨_, rfl, wa', _, 3, _, rfl, rfl, .of ha4, at3, _, _, rfl, .inr ⟨_, .of hkt4, rfl⟩, _, rfl, by omega, by omega, ?_⟩
  rw [Int.toNat_natCast, lv]
  let Good : Nat → Hp → Prop := fun i H' => Dr H' d wa c (4000 * t + 3000 + i) ∧ Tabs [(Pt, qL)] H' ∧ WbAt H' (.ref wa') W ∧ H' Ks = some (.lst (ks.map nV))
  have keepG : ∀ {i : Nat} {H' H'' : Hp}, Good i H' → Same H' H'' → Good i H'' := fun {i H' H''} g s => ⟨g.1.same s, g.2.1.ext s, g.2.2.1.same s, s _ _ g.2.2.2⟩
  refine for_it walk_range (fun i σ H' => (∃ u5 u6 u7 u8 u9 u10 u11 u12, σ = [some (.ref a), some (.ref d), some x, some (.ref wa'), some (.ref Ks), u5, u6, u7, u8, u9, u10, u11, u12, none]) ∧ Good i H')
    ⟨⟨_, _, _, _, _, _, _, _, rfl⟩, D3.same s4, t3.ext s4, hW.same s4, hKs⟩ (fun _ _ _ _ _ => trivial) (fun k y σ H5 H6 hk p yy => ?_) (fun σ H5 p => ?_)
  · obtain ⟨⟨u5, u6, u7, u8, u9, u10, u11, u12, rfl⟩, G5⟩ := p
    obtain ⟨rfl, hy⟩ := yy
    replace hy : y = nV k := hy.trans (congrArg V.int (Int.zero_add _))
    subst hy
    refine ⟨_, rfl, _, rfl, Ks, _, rfl, .inl (.of G5.2.2.2), rfl, nats_flat _, _, rfl, ?_⟩
    show if (!inV (nV k) (ks.map nV)) = true then _ else _
    rw [nats_in]
    refine two_ways (E := k ∉ ks ∨ k ∈ W.roots) (fun h => .inl (by simpa using h)) (fun he => ?_) (fun errA hc => ?_)
    · obtain ⟨C, xC, iC, eC, nC, hC1, hC2, out⟩ : ∃ C, XIs K C ∧ PySem.W.kitOne K (.ref C) (.ref C) = some true ∧ PySem.W.exmOne K (.ref C) (.ref CS) = some true ∧ PySem.W.findIn K (.ref C) "knot" = some none ∧ (k ∈ ks → C = CR) ∧ (k ∉ ks → C = CN) ∧
          ∀ f sp, Sw f sp → ∀ H1 Q E, WbAt H1 (.ref wa') W → Out E C H1 k → sp [.ref wa', nV k] H1 Q E := by
        by_cases ck : k ∈ ks
        · have cr : k ∈ W.roots := he.resolve_left fun h => h ck
          refine ⟨CR, xR, iR, eR, nR, fun _ => rfl, fun h => absurd ck h, fun f sp h H1 Q E hW o => ?_⟩
          rcases h with ⟨_, rfl⟩ | ⟨_, rfl⟩
          · exact ⟨_, W, k, rfl, hW, okW, hk, fun _ h => absurd cr h, fun h => absurd ((mk k).mp ck) h, fun _ _ => o⟩
          · exact ⟨_, W, k, rfl, hW, okW, hk, fun _ h => absurd cr h, fun h => absurd ((mk k).mp ck) h, fun _ _ => o⟩
        · refine ⟨CN, xN, iN, eN, nN, fun h => absurd h ck, fun _ => rfl, fun f sp h H1 Q E hW o => ?_⟩
          rcases h with ⟨_, rfl⟩ | ⟨_, rfl⟩
          · exact ⟨_, W, k, rfl, hW, okW, hk, fun h => absurd ((mk k).mpr h) ck, fun _ => o, fun h => absurd ((mk k).mpr h) ck⟩
          · exact ⟨_, W, k, rfl, hW, okW, hk, fun h => absurd ((mk k).mpr h) ck, fun _ => o, fun h => absurd ((mk k).mpr h) ck⟩
      refine ⟨(by show 2 ≤ sizeLine; decide), fun pl np => ⟨pl, rfl, ⟨_, .of upd_same⟩, ?_⟩⟩
      have g0 : Good k (upd H6 pl (.lst [.ref f_cut, .ref f_roads_apart])) := keepG G5 (same_upd np)
      refine for_it (walk_list (K := K) (a := pl) (xs := [.ref f_cut, .ref f_roads_apart])) (fun j σ H' => (∃ u10 u11 u12, σ = [some (.ref a), some (.ref d), some x, some (.ref wa'), some (.ref Ks), some (nV k), u6, u7, u8, u9, u10, u11, u12, none]) ∧ Good k H' ∧ H' pl = some (.lst [.ref f_cut, .ref f_roads_apart]))
        ⟨⟨_, _, _, rfl⟩, g0, upd_same⟩ (fun j σ H' _ q => .of q.2.2) (fun j z σ H7 H8 hj q yz => ?_) (fun σ H7 q => ?_)
      · obtain ⟨⟨u10, u11, u12, rfl⟩, G7, hp7⟩ := q
        obtain ⟨rfl, hz⟩ := yz
        obtain ⟨fz, sp, rfl, hsp⟩ : ∃ fz sp, z = .ref fz ∧ Sw fz sp := by
          have hm := List.mem_of_getElem? hz
          simp only [List.mem_cons, List.not_mem_nil, or_false] at hm
          rcases hm with rfl | rfl
          · exact ⟨_, _, rfl, .inl ⟨rfl, rfl⟩⟩
          · exact ⟨_, _, rfl, .inr ⟨rfl, rfl⟩⟩
        refine ⟨G7.2.1, fun H8 e8 T8 => ?_⟩
        refine ⟨fz, sp, rfl, hsp, _, rfl, _, rfl, ?_⟩
        refine out fz sp hsp H8 _ _ (wb_ext e8 G7.2.2.1) ?_
        intro dd H9 s9 nd9 hd9
        refine ⟨eC, fun ea nea => ?_⟩
        have sE : Same H9 (upd H9 ea (ExV (.ref C) (some dd) ea)) := same_upd nea
        have hea : (upd H9 ea (ExV (.ref C) (some dd) ea)) ea = some (ExV (.ref C) (some dd) ea) := upd_same
        revert sE hea
        generalize upd H9 ea (ExV (.ref C) (some dd) ea) = H10
        intro sE hea
        have g10 : Good k H10 := ⟨((dr_ext e8 G7.1).same s9).same sE, (T8.ext s9).ext sE, ((wb_ext e8 G7.2.2.1).same s9).same sE, sE _ _ (s9 _ _ (e8.lst G7.2.2.2))⟩
        have hp10 := sE _ _ (s9 _ _ (e8.lst hp7))
        have hdd := sE _ _ hd9
        refine ⟨_, rfl, _, rfl, Ks, _, rfl, .inl (.of g10.2.2.2), rfl, nats_flat _, _, rfl, ?_⟩
        show if inV (nV k) (ks.map nV) = true then _ else _
        rw [nats_in]
        by_cases ck : k ∈ ks
        · rw [decide_eq_true ck]
          have e := hC1 ck
          subst e
          refine ⟨_, rfl, ea, C, dd, C, _, true, rfl, hea, hdd, xC, iC, ?_⟩
          refine ⟨_, rfl, true, rfl, ?_⟩
          refine ⟨_, rfl, ea, C, dd, _, nV k, rfl, hea, hdd, xC, nC, rfl, _, rfl, rfl, _, rfl, ?_⟩
          show if (!decide (nV k = nV k)) = true then _ else _
          rw [decide_eq_true (rfl : nV k = nV k)]
          exact ⟨⟨_, _, _, rfl⟩, g10, hp10⟩
        · rw [decide_eq_false ck]
          have e := hC2 ck
          subst e
          refine ⟨_, rfl, ea, C, dd, C, _, true, rfl, hea, hdd, xC, iC, ?_⟩
          refine ⟨_, rfl, true, rfl, ?_⟩
          refine ⟨_, rfl, ea, C, dd, _, nV k, rfl, hea, hdd, xC, nC, rfl, _, rfl, rfl, _, rfl, ?_⟩
          show if (!decide (nV k = nV k)) = true then _ else _
          rw [decide_eq_true (rfl : nV k = nV k)]
          exact ⟨⟨_, _, _, rfl⟩, g10, hp10⟩
      · obtain ⟨⟨u10, u11, u12, rfl⟩, G7, _⟩ := q
        exact ⟨⟨_, _, _, _, _, _, _, _, rfl⟩, G7.1.mono (by omega), G7.2⟩
    · have ck : k ∈ ks := by simpa using hc
      have kept := (mk k).mp ck
      obtain ⟨wa2, r2, o2, kt2, vs2, ew2, ha2, hrt2, ho2, hkt2, ek2⟩ := G5.2.2.1.ex
      cases ew2
      refine ⟨_, rfl, _, rfl, wa', _, 1, _, rfl, rfl, .of ha2, at1, r2, _, rfl, .inr (.of hrt2), rfl, nats_flat _, _, rfl, ?_⟩
      show if inV (nV k) (W.roots.map nV) = true then _ else _
      rw [nats_in]
      by_cases cr : k ∈ W.roots
      · rw [decide_eq_true cr]
        exact errA (.inr cr)
      rw [decide_eq_false cr]
      refine ⟨_, rfl, _, rfl, .ref wa', W, k, rfl, G5.2.2.1, okW, hk, fun _ _ H7 Lo u fl L s7 nLo hLo FL DN => ?_, fun h => absurd kept h, fun _ h => absurd h cr⟩
      have G7 := keepG G5 s7
      refine ⟨_, rfl, _, rfl, .ref wa', W, k, rfl, G7.2.2.1, okW, hk, fun _ _ H8 Rd rvs rs u' fl' L' s8 nRd hRd eR ro FL2 DN2 => ?_, fun h => absurd kept h, fun _ h => absurd h cr⟩
      refine ⟨_, _, rfl, ?_⟩
      have G8 := keepG G7 s8
      have hLo8 := s8 _ _ hLo
      have lotlen : (FM.cutL W.gr.n L).length ≤ 19 := by
        have := FM.len_le (l' := List.range W.gr.n) (FM.asc_nd (FM.cut_asc W.gr.n L)) fun x hx => List.mem_range.mpr (FM.mem_cut.mp hx).1
        rw [List.length_range] at this
        exact Nat.le_trans this lW
      refine ⟨_, rfl, _, rfl, Lo, Ks, FM.cutL W.gr.n L, ks, rfl, hLo8, G8.2.2.2, FM.cut_asc _ _, fun x hx => (mk x).mpr (DN.kept FL x hx), fun H9 s9 => ⟨_, rfl, ?_⟩⟩
      have G9 := keepG G8 s9
      have hLo9 := s9 _ _ hLo8
      refine ⟨_, rfl, _, rfl, Lo, _, rfl, .inr (.of hLo9), rfl, nats_flat _, _, rfl, ?_⟩
      show if inV (nV k) ((FM.cutL W.gr.n L).map nV) = true then _ else _
      rw [nats_in, decide_eq_false DN.tout]
      refine ⟨_, rfl, _, rfl, _, rfl, .ref wa', W, Lo, _, rfl, G9.2.2.1, okW, .inr hLo9, fun H10 Df fo s10 nDf hDf nfo mfo => ⟨Df, _, rfl, .inl (.of hDf), rfl, nats_flat _, _, rfl, ?_⟩⟩
      show if inV (nV k) (fo.map nV) = true then _ else _
      rw [nats_in, decide_eq_false (fun h => DN.cuts gok ((mfo k).mp h))]
      have G10 := keepG G9 s10
      have hLo10 := s10 _ _ hLo9
      have hRd10 := s10 _ _ (s9 _ _ hRd)
      refine ⟨_, rfl, _, _, _, _, true, rfl, .ty _, tyT hRd10, kit_ty (by decide +kernel), _, rfl, ?_⟩
      have lr := roads_len okW hk FL DN FL2 DN2 ro
      have el : rvs.length = ((FM.cutL W.gr.n L).map nV).length := by rw [List.length_map, eR.1, lr]
      refine ⟨_, rfl, _, _, rfl, .inr ⟨_, .of hRd10, rfl⟩, _, rfl, _, _, rfl, .inr ⟨_, .of hLo10, rfl⟩, rfl, _, rfl, ?_⟩
      rw [el, decide_eq_true rfl]
      obtain ⟨nds, nin⟩ := ways_nd okW FL2 ro
      refine ⟨_, rfl, _, rfl, _, rfl, .ref wa', W, k, Rd, rvs, rs, rfl, G10.2.2.1, okW, hRd10, eR.mono fun _ _ h => h.same (s9.trans s10), ways_ok okW FL2 ro, nds, nin, fun H11 s11 => ⟨_, rfl, ?_⟩⟩
      have G11 := keepG G10 s11
      have hLo11 := s11 _ _ hLo10
      refine ⟨_, rfl, _, rfl, .ref wa', W, Lo, _, rfl, G11.2.2.1, okW, hLo11, by omega, fun H12 A s12 nA mA => ?_⟩
      have G12 := keepG G11 s12
      have hLo12 := s12 _ _ hLo11
      refine ⟨_, rfl, d, wa, c, 4000 * t + 3000 + k, 3, rfl, G12.1, by omega, by decide, by decide, fun H13 z D13 s13 z0 z1 => ⟨rfl, _, rfl, ?_⟩⟩
      rw [decI]
      have fKs := D3.frs nKs
      have G13 : Good (k + 1) H13 := ⟨D13.mono (by omega), ((tabs_hid G12.1 G12.2.1).ext s13).ext fun _ _ h => hid_get h, wb_tup (tup_hid G12.1 s13) G12.2.2.1, hid_get (s13 _ _ (by rw [hid_frs fKs]; exact G12.2.2.2))⟩
      have hLo13 := tup_hid G12.1 s13 _ _ hLo12
      by_cases cz : z = 0
      · rw [decide_eq_true cz]
        refine ⟨_, rfl, Ks, rfl, ⟨_, .of G13.2.2.2⟩, fun Dc nDc => ?_⟩
        have kl : ks.length ≤ 19 := by
          have := FM.len_le (l' := List.range W.gr.n) (FM.asc_nd asc) fun x hx => List.mem_range.mpr (((mk x).mp hx).lt gok)
          rw [List.length_range] at this
          exact Nat.le_trans this lW
        refine lc_it walk_list (fun i H' => Acc H13 Dc (fun i => ((ks.take i).filter (fun n => !decide (n = k))).map nV) i H') (Acc.start nDc rfl) (fun i H' _ p => .of (p.1 _ _ G13.2.2.2)) (fun i x H14 H15 hi p y => ?_) (fun H14 p => ?_)
        · obtain ⟨rfl, hy⟩ := y
          rw [List.getElem?_map] at hy
          obtain ⟨n, hn, rfl⟩ := Option.map_eq_some_iff.mp hy
          have st := filt_step hn fun n => !decide (n = k)
          have few : (((ks.take i).filter fun n => !decide (n = k)).map nV).length < sizeLine := small1000 (by
            rw [List.length_map]
            refine Nat.le_trans (List.length_filter_le _ _) ?_
            rw [List.length_take]
            omega)
          refine ⟨rfl, _, rfl, _, rfl, rfl, _, rfl, ?_⟩
          show if (!decide (V.int ((n : Nat) : Int) = V.int ((k : Nat) : Int))) = true then _ else _
          rw [decI]
          by_cases cn : n = k
          · rw [decide_eq_true (show ((n : Nat) : Int) = ((k : Nat) : Int) by omega)]
            exact Acc.pass p (Same.refl _) (by rw [st, decide_eq_true cn]; simp)
          · rw [decide_eq_false (show ¬ ((n : Nat) : Int) = ((k : Nat) : Int) by omega)]
            exact ⟨_, rfl, Acc.put nDc p (Same.refl _) few (by rw [st, decide_eq_false cn]; simp)⟩
        · obtain ⟨s14, h14⟩ := p
          simp only [List.length_map, List.take_length] at h14
          have cs : (k :: ks.filter (fun n => !decide (n = k))).length ≤ W.gr.n := by
            have := FM.len_le (l := k :: ks.filter (fun n => !decide (n = k))) (l' := List.range W.gr.n) (List.nodup_cons.mpr ⟨fun h => by have := (List.mem_filter.mp h).2; simp at this, (FM.asc_nd asc).sublist List.filter_sublist⟩) fun x hx => by
              rcases List.mem_cons.mp hx with rfl | hx
              · exact List.mem_range.mpr hk
              · exact List.mem_range.mpr (((mk x).mp (List.mem_filter.mp hx).1).lt gok)
            rw [List.length_range] at this
            exact this
          have cs2 : (ks.filter (fun n => !decide (n = k))).length ≤ 18 := by
            have h1 : W.gr.n ≤ 19 := lW
            rw [List.length_cons] at cs
            omega
          refine ⟨_, rfl, _, _, rfl, .inr ⟨_, .of (s14 _ _ hLo13), rfl⟩, Dc, _, _, rfl, h14, asc.sublist List.filter_sublist, cs2, by rw [List.length_map]; omega, fun H15 Dl cvs Cs s15 nDl hDl eC oC => ?_⟩
          have G15 := keepG G13 (s14.trans s15)
          have hLo15 := s15 _ _ (s14 _ _ hLo13)
          refine ⟨Dl, rfl, ⟨_, .of hDl⟩, ?_⟩
          refine for_it (walk_list (K := K) (a := Dl) (xs := cvs)) (fun j σ H' => (∃ u9, σ = [some (.ref a), some (.ref d), some x, some (.ref wa'), some (.ref Ks), some (nV k), some (.ref Lo), some (.ref Rd), some (nV A.length), u9, u10, u11, u12, none]) ∧ Same H15 H')
            ⟨⟨_, rfl⟩, Same.refl _⟩ (fun j σ H' _ q => .of (q.2 _ _ hDl)) (fun j z σ H16 H17 hj q yz => ?_) (fun σ H16 q => ?_)
          · obtain ⟨⟨u9, rfl⟩, s16⟩ := q
            obtain ⟨rfl, hz⟩ := yz
            obtain ⟨C, hC, ca, rfl, hca⟩ := eC.back hz
            have lot := oC C (List.mem_of_getElem? hC)
            have G16 := keepG G15 s16
            have hLo16 := s16 _ _ hLo15
            have hca16 := s16 _ _ hca
            have okN : ∀ (l : List Nat) (v : V), v ∈ l.map nV → okP v = true := fun l v hv => by
              obtain ⟨_, _, rfl⟩ := List.mem_map.mp hv
              rfl
            refine ⟨_, rfl, _, rfl, .tuple ((C.map nV).map dOf), .tuple (((FM.cutL W.gr.n L).map nV).map dOf), .tup (.of hca16) (dps_flat (okN C)), .tup (.of hLo16) (dps_flat (okN _)), shaped_flat (okN C), shaped_flat (okN _), _, rfl, ?_⟩
            cases eqq : PyData.eqv (.tuple ((C.map nV).map dOf)) (.tuple (((FM.cutL W.gr.n L).map nV).map dOf)) with
            | true => exact ⟨⟨_, rfl⟩, s16⟩
            | false =>
              have ne : C ≠ FM.cutL W.gr.n L := fun e => by
                rw [e, SeqAt.eqv_refl _ (and2c (shaped_flat (okN (FM.cutL W.gr.n L)))).1] at eqq
                cases eqq
              refine ⟨_, rfl, _, rfl, _, rfl, .ref wa', W, ca, C, rfl, G16.2.2.1, okW, .inr hca16, fun H18 Df2 fo2 s18 nDf2 hDf2 nfo2 mfo2 => ⟨Df2, _, rfl, .inl (.of hDf2), rfl, nats_flat _, _, rfl, ?_⟩⟩
              show if (!inV (nV k) (fo2.map nV)) = true then _ else _
              rw [nats_in]
              by_cases kf : k ∈ fo2
              · rw [decide_eq_true kf]
                exact ⟨⟨_, rfl⟩, s16.trans s18⟩
              rw [decide_eq_false kf]
              have tC : k ∉ C := fun h => by
                have := (List.mem_filter.mp (lot.sub k h)).2
                simp at this
              have G18 := keepG G16 s18
              have ll : C.length = (FM.cutL W.gr.n L).length := by rw [lot.len, List.length_map]
              refine ⟨_, rfl, _, rfl, .ref wa', W, ca, C, rfl, G18.2.2.1, okW, s18 _ _ hca16, by omega, fun H19 B s19 nB mB => ⟨_, rfl, _, _, rfl, rfl, _, rfl, ?_⟩⟩
              have lt : A.length < B.length := DN.least gok FL hk lot.asc (fun h => kf ((mfo2 k).mpr h)) tC ll ne nA mA mB
              rw [decide_eq_false (show ¬ ((B.length : Nat) : Int) ≤ ((A.length : Nat) : Int) by omega)]
              exact ⟨⟨_, rfl⟩, s16.trans (s18.trans s19)⟩
          · obtain ⟨⟨u9, rfl⟩, s16⟩ := q
            exact ⟨⟨_, _, _, _, _, _, _, _, rfl⟩, keepG G15 s16⟩
      · rw [decide_eq_false cz]
        refine ⟨Nat.zero_le _, fun Dl nDl => ⟨Dl, rfl, ⟨_, .of upd_same⟩, ?_⟩⟩
        have G14 : Good (k + 1) (upd H13 Dl (.lst [])) := keepG G13 (same_upd nDl)
        refine for_it (walk_list (K := K) (a := Dl) (xs := [])) (fun j σ H' => (∃ u9, σ = [some (.ref a), some (.ref d), some x, some (.ref wa'), some (.ref Ks), some (nV k), some (.ref Lo), some (.ref Rd), some (nV A.length), u9, u10, u11, u12, none]) ∧ Same (upd H13 Dl (.lst [])) H')
          ⟨⟨_, rfl⟩, Same.refl _⟩ (fun j σ H' _ q => .of (q.2 _ _ upd_same)) (fun j z σ H16 H17 hj q yz => absurd hj (Nat.not_lt_zero j)) (fun σ H16 q => ?_)
        obtain ⟨⟨u9, rfl⟩, s16⟩ := q
        exact ⟨⟨_, _, _, _, _, _, _, _, rfl⟩, keepG G14 s16⟩
  · obtain ⟨⟨u5, u6, u7, u8, u9, u10, u11, u12, rfl⟩, G5⟩ := p
    have kl : W.kns.length ≤ 19 := lW
    exact ⟨⟨_, _, _, _, _, _, _, _, _, _, _, rfl⟩, G5.1.mono (by omega), G5.2.1⟩
end
end K41
set_option maxHeartbeats 4000000
namespace K41
open PySem PySem.Spec PyProof.Rows L2
/-! ### the head's facts, as the walks ask for them -/
theorem cal {P : Program} {w : World} {K : PySem.W.Frag} {mg : Str → Option Value} {base : Heap} {CX : CXT} {k i : Nat} {x : Str} {f : Addr} {fd : FuncData} {ps : List Str} {sp : Sp} (F : FnP K x i f fd) (g : mg x = some (.ref f)) (h : FnOk P w K mg base CX k f fd ps sp)
    (b : ∀ (kV doc pm : Value) (an : Option Addr) (cdv ct : Value) (us : List Value), us.length = ps.length → bindArgs (PySem.W.fnOf x x (defArgs (top i)) (defBody (top i)) (defScope (top i)) .none kV doc pm an cdv ct) ⟨us, []⟩ = pure (ps.zip us)) : Cal P w K mg base CX k x sp :=
  ⟨f, fd, ps, g, F.kp, F.bindsN b, h⟩
section
variable {w : World} {K : PySem.W.Frag} {h : Heap} {mg : Str → Option Value}
structure Told (K : PySem.W.Frag) : Prop where
  kept : ktB K (He.ga K "KEPT") keptL = true
  lasts : ktB K (He.ga K "LASTS") lastsL = true
  forms : kvB K (He.ga K "FORMS") words (fun z => (formOf z).map V.str) = true
  places : kvB K (He.ga K "PLACES") words (fun z => (placeOf z).map V.int) = true
  ends : kvB K (He.ga K "ENDS") signs4 (fun z => (endOf z).map V.int) = true
  ask : askB K = true
  ecN : ecB K (He.ga K "NotKept") "NotKept.__init__" fileS = true
  ecR : ecB K (He.ga K "Rooted") "Rooted.__init__" fileS = true
  xN : xisB K (He.ga K "NotKept") = true
  xR : xisB K (He.ga K "Rooted") = true
  iN : PySem.W.kitOne K (.ref (He.ga K "NotKept")) (.ref (He.ga K "NotKept")) = some true
  iR : PySem.W.kitOne K (.ref (He.ga K "Rooted")) (.ref (He.ga K "Rooted")) = some true
theorem told_of (h : tellB K = true) : Told K := by
  obtain ⟨h1, h⟩ := and2 h
  obtain ⟨h2, h⟩ := and2 h
  obtain ⟨h3, h⟩ := and2 h
  obtain ⟨h4, h⟩ := and2 h
  obtain ⟨h5, h⟩ := and2 h
  obtain ⟨h6, h⟩ := and2 h
  obtain ⟨h7, h⟩ := and2 h
  obtain ⟨h8, h⟩ := and2 h
  obtain ⟨h9, h⟩ := and2 h
  obtain ⟨h10, h⟩ := and2 h
  obtain ⟨h11, h12⟩ := and2 h
  exact ⟨h1, h2, h3, h4, h5, h6, h7, h8, h9, h10, of_decide_eq_true h11, of_decide_eq_true h12⟩
theorem ask_ok (X : K.In h) (c : SaysK w h K) (t : Told K) : KD K w (He.ga K "ASKED") askWords (askF K) ∧ ∀ z ∈ askWords, (∀ v, askF K z = some v → ∃ b xs, v = .ref b ∧ KT K b xs ∧ askedL z = some xs) ∧ (askF K z = none → askedL z = none) := by
  obtain ⟨a1, a2⟩ := and2 t.ask
  refine ⟨kvB_ok (c.t.tab 3 (t := (fun K => He.ga K "ASKED", ["load", "item", "store", "fill", "pick"])) rfl) a1, fun z hz => ?_⟩
  have h2 := List.all_eq_true.mp a2 z hz
  cases e : askF K z with
  | none =>
    rw [e] at h2
    cases e2 : askedL z with
    | none => exact ⟨fun v h => (by cases h), fun _ => rfl⟩
    | some xs =>
      rw [e2] at h2
      cases h2
  | some v =>
    rw [e] at h2
    refine ⟨fun v' hv => ?_, fun h => (by cases h)⟩
    cases hv
    cases v with
    | ref b =>
      cases e2 : askedL z with
      | none =>
        rw [e2] at h2
        cases h2
      | some xs =>
        rw [e2] at h2
        exact ⟨b, xs, rfl, ktB_ok h2, rfl⟩
    | _ => cases h2
theorem txt_of (X : K.In h) (G : h.Ns mainGlobals mg) (c : SaysK w h K) (t : Told K) : Txt w K mg := by
  have b0 : mg "abs" = none := He.free_ok X G (c.t.d.fact 0 (f := .free "abs") rfl)
  have b1 : mg "all" = none := He.free_ok X G (c.t.d.fact 1 (f := .free "all") rfl)
  have b2 : mg "bool" = none := He.free_ok X G (c.t.d.fact 2 (f := .free "bool") rfl)
  have b3 : mg "enumerate" = none := He.free_ok X G (c.t.d.fact 3 (f := .free "enumerate") rfl)
  have b4 : mg "int" = none := He.free_ok X G (c.t.d.fact 4 (f := .free "int") rfl)
  have b5 : mg "isinstance" = none := He.free_ok X G (c.t.d.fact 5 (f := .free "isinstance") rfl)
  have b6 : mg "len" = none := He.free_ok X G (c.t.d.fact 6 (f := .free "len") rfl)
  have b7 : mg "list" = none := He.free_ok X G (c.t.d.fact 7 (f := .free "list") rfl)
  have b8 : mg "min" = none := He.free_ok X G (c.t.d.fact 8 (f := .free "min") rfl)
  have b9 : mg "range" = none := He.free_ok X G (c.t.d.fact 9 (f := .free "range") rfl)
  have b10 : mg "set" = none := He.free_ok X G (c.t.d.fact 10 (f := .free "set") rfl)
  have b11 : mg "sorted" = none := He.free_ok X G (c.t.d.fact 11 (f := .free "sorted") rfl)
  have b12 : mg "str" = none := He.free_ok X G (c.t.d.fact 12 (f := .free "str") rfl)
  have b13 : mg "tuple" = none := He.free_ok X G (c.t.d.fact 13 (f := .free "tuple") rfl)
  have b14 : mg "zip" = none := He.free_ok X G (c.t.d.fact 14 (f := .free "zip") rfl)
  obtain ⟨t1, hL⟩ := He.str_ok X G (c.t.d.fact 16 (f := .str "LETTERS" lettersS) rfl)
  obtain ⟨t2, hM⟩ := He.int_ok X G (c.t.d.fact 17 (f := .int "MOST_KNOTS" 200) rfl)
  obtain ⟨k1, k2⟩ := ask_ok X c t
  exact ⟨b0, b1, b2, b3, b4, b5, b6, b7, b8, b9, b10, b11, b12, b13, b14, ⟨_, hL, t1, rfl⟩, ⟨_, hM, t2, rfl⟩, ⟨_, He.glo_ok X G (c.t.d.fact 18 (f := .glo "KEPT") rfl), ktB_ok t.kept⟩, ⟨_, He.glo_ok X G (c.t.d.fact 19 (f := .glo "LASTS") rfl), ktB_ok t.lasts⟩, ⟨_, He.glo_ok X G (c.t.d.fact 20 (f := .glo "FORMS") rfl), kvB_ok (c.t.tab 0 (t := (fun K => He.ga K "FORMS", formsL.map (·.1))) rfl) t.forms⟩,
    ⟨_, He.glo_ok X G (c.t.d.fact 21 (f := .glo "PLACES") rfl), kvB_ok (c.t.tab 1 (t := (fun K => He.ga K "PLACES", placesL.map (·.1))) rfl) t.places⟩, ⟨_, He.glo_ok X G (c.t.d.fact 22 (f := .glo "ENDS") rfl), kvB_ok (c.t.tab 2 (t := (fun K => He.ga K "ENDS", endsL.map (·.1))) rfl) t.ends⟩, ⟨_, _, He.glo_ok X G (c.t.d.fact 23 (f := .glo "ASKED") rfl), k1, k2⟩⟩
abbrev pw : Program := (PySem.Challenge.rw_onebase_k41_whole_fewest_knots_and_most).prog
theorem ini4 : ∃ (p1 p2 q0 q1 q2 q3 q4 q5 q6 q7 q8 q9 : Pos) (msg : Str) (j : Nat), defArgs (iniDef 4) = eA p1 p2 ∧ defBody (iniDef 4) = eB msg j q0 q1 q2 q3 q4 q5 q6 q7 q8 q9 ∧ (q2.endLine == q4.line) = true := ⟨_, _, _, _, _, _, _, _, _, _, _, _, _, _, rfl, rfl, rfl⟩
theorem ini5 : ∃ (p1 p2 q0 q1 q2 q3 q4 q5 q6 q7 q8 q9 : Pos) (msg : Str) (j : Nat), defArgs (iniDef 5) = eA p1 p2 ∧ defBody (iniDef 5) = eB msg j q0 q1 q2 q3 q4 q5 q6 q7 q8 q9 ∧ (q2.endLine == q4.line) = true := ⟨_, _, _, _, _, _, _, _, _, _, _, _, _, _, rfl, rfl, rfl⟩
theorem no_super : (pw.main.scope.names.lookup ("super" : Str)).isSome = false := by decide +kernel
theorem ecN_of (X : K.In h) (G : h.Ns mainGlobals mg) (c : SaysK w h K) (t : Told K) : EC pw K mg "NotKept" (He.ga K "NotKept") := by
  obtain ⟨p1, p2, q0, q1, q2, q3, q4, q5, q6, q7, q8, q9, msg, j, e1, e2, e3⟩ := ini4
  have hi := congrArg (fun l : List InitW => l.getD 0 none) c.ini
  have hw : initW K (fIn K (He.ga K "NotKept")) = initV "NotKept.__init__" (defArgs (iniDef 4)) (defBody (iniDef 4)) := hi
  rw [e1, e2] at hw
  exact ecB_ok (file := fileS) rfl e3 (He.glo_ok X G (c.t.d.fact 25 (f := .glo "NotKept") rfl)) (He.free_ok X G (c.t.d.fact 15 (f := .free "super") rfl)) no_super hw t.ecN
theorem ecR_of (X : K.In h) (G : h.Ns mainGlobals mg) (c : SaysK w h K) (t : Told K) : EC pw K mg "Rooted" (He.ga K "Rooted") := by
  obtain ⟨p1, p2, q0, q1, q2, q3, q4, q5, q6, q7, q8, q9, msg, j, e1, e2, e3⟩ := ini5
  have hi := congrArg (fun l : List InitW => l.getD 1 none) c.ini
  have hw : initW K (fIn K (He.ga K "Rooted")) = initV "Rooted.__init__" (defArgs (iniDef 5)) (defBody (iniDef 5)) := hi
  rw [e1, e2] at hw
  exact ecB_ok (file := fileS) rfl e3 (He.glo_ok X G (c.t.d.fact 26 (f := .glo "Rooted") rfl)) (He.free_ok X G (c.t.d.fact 15 (f := .free "super") rfl)) no_super hw t.ecR
theorem knotN (t : Told K) : PySem.W.findIn K (.ref (He.ga K "NotKept")) "knot" = some none := of_decide_eq_true (and2 (and2 (and2 (and2 (and2 (and2 t.ecN).2).2).2).2).2).1
theorem knotR (t : Told K) : PySem.W.findIn K (.ref (He.ga K "Rooted")) "knot" = some none := of_decide_eq_true (and2 (and2 (and2 (and2 (and2 (and2 t.ecR).2).2).2).2).2).1
theorem law_at (X : K.In h) (G : h.Ns mainGlobals mg) (c : SaysK w h K) : LamX.LawAtS PySem.Challenge.rw_onebase_k41_whole_fewest_knots_and_most w K CX0 14 63 "_law_script" mg (He.ga K "law") h := by
  have t := told_of c.more
  have T := txt_of X G c t
  have eN := ecN_of X G c t
  have eR := ecR_of X G c t
  obtain ⟨fd_is_name, F_is_name⟩ : ∃ fd, FnP K "is_name" 9 (He.ga K "is_name") fd := c.t.d.def_ 0 (d := dd 9 "is_name") rfl
  have g_is_name : mg "is_name" = some (.ref (He.ga K "is_name")) := He.glo_ok X G (c.t.d.fact 29 (f := .glo "is_name") rfl)
  obtain ⟨fd_is_number, F_is_number⟩ : ∃ fd, FnP K "is_number" 14 (He.ga K "is_number") fd := c.t.d.def_ 1 (d := dd 14 "is_number") rfl
  have g_is_number : mg "is_number" = some (.ref (He.ga K "is_number")) := He.glo_ok X G (c.t.d.fact 30 (f := .glo "is_number") rfl)
  obtain ⟨fd_is_part, F_is_part⟩ : ∃ fd, FnP K "is_part" 15 (He.ga K "is_part") fd := c.t.d.def_ 2 (d := dd 15 "is_part") rfl
  have g_is_part : mg "is_part" = some (.ref (He.ga K "is_part")) := He.glo_ok X G (c.t.d.fact 31 (f := .glo "is_part") rfl)
  obtain ⟨fd_is_whole, F_is_whole⟩ : ∃ fd, FnP K "is_whole" 21 (He.ga K "is_whole") fd := c.t.d.def_ 3 (d := dd 21 "is_whole") rfl
  have g_is_whole : mg "is_whole" = some (.ref (He.ga K "is_whole")) := He.glo_ok X G (c.t.d.fact 32 (f := .glo "is_whole") rfl)
  obtain ⟨fd_is_ascending, F_is_ascending⟩ : ∃ fd, FnP K "is_ascending" 22 (He.ga K "is_ascending") fd := c.t.d.def_ 4 (d := dd 22 "is_ascending") rfl
  have g_is_ascending : mg "is_ascending" = some (.ref (He.ga K "is_ascending")) := He.glo_ok X G (c.t.d.fact 33 (f := .glo "is_ascending") rfl)
  obtain ⟨fd_place_in, F_place_in⟩ : ∃ fd, FnP K "place_in" 23 (He.ga K "place_in") fd := c.t.d.def_ 5 (d := dd 23 "place_in") rfl
  have g_place_in : mg "place_in" = some (.ref (He.ga K "place_in")) := He.glo_ok X G (c.t.d.fact 34 (f := .glo "place_in") rfl)
  obtain ⟨fd_is_row_of, F_is_row_of⟩ : ∃ fd, FnP K "is_row_of" 24 (He.ga K "is_row_of") fd := c.t.d.def_ 6 (d := dd 24 "is_row_of") rfl
  have g_is_row_of : mg "is_row_of" = some (.ref (He.ga K "is_row_of")) := He.glo_ok X G (c.t.d.fact 35 (f := .glo "is_row_of") rfl)
  obtain ⟨fd_is_code, F_is_code⟩ : ∃ fd, FnP K "is_code" 25 (He.ga K "is_code") fd := c.t.d.def_ 7 (d := dd 25 "is_code") rfl
  have g_is_code : mg "is_code" = some (.ref (He.ga K "is_code")) := He.glo_ok X G (c.t.d.fact 36 (f := .glo "is_code") rfl)
  obtain ⟨fd_is_body, F_is_body⟩ : ∃ fd, FnP K "is_body" 26 (He.ga K "is_body") fd := c.t.d.def_ 8 (d := dd 26 "is_body") rfl
  have g_is_body : mg "is_body" = some (.ref (He.ga K "is_body")) := He.glo_ok X G (c.t.d.fact 37 (f := .glo "is_body") rfl)
  obtain ⟨fd_is_knot, F_is_knot⟩ : ∃ fd, FnP K "is_knot" 27 (He.ga K "is_knot") fd := c.t.d.def_ 9 (d := dd 27 "is_knot") rfl
  have g_is_knot : mg "is_knot" = some (.ref (He.ga K "is_knot")) := He.glo_ok X G (c.t.d.fact 38 (f := .glo "is_knot") rfl)
  obtain ⟨fd_length_of, F_length_of⟩ : ∃ fd, FnP K "length_of" 28 (He.ga K "length_of") fd := c.t.d.def_ 10 (d := dd 28 "length_of") rfl
  have g_length_of : mg "length_of" = some (.ref (He.ga K "length_of")) := He.glo_ok X G (c.t.d.fact 39 (f := .glo "length_of") rfl)
  obtain ⟨fd_asks, F_asks⟩ : ∃ fd, FnP K "asks" 29 (He.ga K "asks") fd := c.t.d.def_ 11 (d := dd 29 "asks") rfl
  have g_asks : mg "asks" = some (.ref (He.ga K "asks")) := He.glo_ok X G (c.t.d.fact 40 (f := .glo "asks") rfl)
  obtain ⟨fd_fits, F_fits⟩ : ∃ fd, FnP K "fits" 30 (He.ga K "fits") fd := c.t.d.def_ 12 (d := dd 30 "fits") rfl
  have g_fits : mg "fits" = some (.ref (He.ga K "fits")) := He.glo_ok X G (c.t.d.fact 41 (f := .glo "fits") rfl)
  obtain ⟨fd_is_web, F_is_web⟩ : ∃ fd, FnP K "is_web" 31 (He.ga K "is_web") fd := c.t.d.def_ 13 (d := dd 31 "is_web") rfl
  have g_is_web : mg "is_web" = some (.ref (He.ga K "is_web")) := He.glo_ok X G (c.t.d.fact 42 (f := .glo "is_web") rfl)
  obtain ⟨fd_check_web, F_check_web⟩ : ∃ fd, FnP K "check_web" 32 (He.ga K "check_web") fd := c.t.d.def_ 14 (d := dd 32 "check_web") rfl
  have g_check_web : mg "check_web" = some (.ref (He.ga K "check_web")) := He.glo_ok X G (c.t.d.fact 43 (f := .glo "check_web") rfl)
  obtain ⟨fd_check_knot, F_check_knot⟩ : ∃ fd, FnP K "check_knot" 33 (He.ga K "check_knot") fd := c.t.d.def_ 15 (d := dd 33 "check_knot") rfl
  have g_check_knot : mg "check_knot" = some (.ref (He.ga K "check_knot")) := He.glo_ok X G (c.t.d.fact 44 (f := .glo "check_knot") rfl)
  obtain ⟨fd_leads_of, F_leads_of⟩ : ∃ fd, FnP K "leads_of" 34 (He.ga K "leads_of") fd := c.t.d.def_ 16 (d := dd 34 "leads_of") rfl
  have g_leads_of : mg "leads_of" = some (.ref (He.ga K "leads_of")) := He.glo_ok X G (c.t.d.fact 45 (f := .glo "leads_of") rfl)
  obtain ⟨fd_roads_of, F_roads_of⟩ : ∃ fd, FnP K "roads_of" 36 (He.ga K "roads_of") fd := c.t.d.def_ 17 (d := dd 36 "roads_of") rfl
  have g_roads_of : mg "roads_of" = some (.ref (He.ga K "roads_of")) := He.glo_ok X G (c.t.d.fact 46 (f := .glo "roads_of") rfl)
  obtain ⟨fd_road_of, F_road_of⟩ : ∃ fd, FnP K "road_of" 37 (He.ga K "road_of") fd := c.t.d.def_ 18 (d := dd 37 "road_of") rfl
  have g_road_of : mg "road_of" = some (.ref (He.ga K "road_of")) := He.glo_ok X G (c.t.d.fact 47 (f := .glo "road_of") rfl)
  obtain ⟨fd_onward, F_onward⟩ : ∃ fd, FnP K "onward" 39 (He.ga K "onward") fd := c.t.d.def_ 19 (d := dd 39 "onward") rfl
  have g_onward : mg "onward" = some (.ref (He.ga K "onward")) := He.glo_ok X G (c.t.d.fact 48 (f := .glo "onward") rfl)
  obtain ⟨fd_reached, F_reached⟩ : ∃ fd, FnP K "reached" 40 (He.ga K "reached") fd := c.t.d.def_ 20 (d := dd 40 "reached") rfl
  have g_reached : mg "reached" = some (.ref (He.ga K "reached")) := He.glo_ok X G (c.t.d.fact 49 (f := .glo "reached") rfl)
  obtain ⟨fd_turned, F_turned⟩ : ∃ fd, FnP K "turned" 41 (He.ga K "turned") fd := c.t.d.def_ 21 (d := dd 41 "turned") rfl
  have g_turned : mg "turned" = some (.ref (He.ga K "turned")) := He.glo_ok X G (c.t.d.fact 50 (f := .glo "turned") rfl)
  obtain ⟨fd_greatest, F_greatest⟩ : ∃ fd, FnP K "greatest" 42 (He.ga K "greatest") fd := c.t.d.def_ 22 (d := dd 42 "greatest") rfl
  have g_greatest : mg "greatest" = some (.ref (He.ga K "greatest")) := He.glo_ok X G (c.t.d.fact 51 (f := .glo "greatest") rfl)
  obtain ⟨fd_check_cut, F_check_cut⟩ : ∃ fd, FnP K "check_cut" 43 (He.ga K "check_cut") fd := c.t.d.def_ 23 (d := dd 43 "check_cut") rfl
  have g_check_cut : mg "check_cut" = some (.ref (He.ga K "check_cut")) := He.glo_ok X G (c.t.d.fact 52 (f := .glo "check_cut") rfl)
  obtain ⟨fd_cut, F_cut⟩ : ∃ fd, FnP K "cut" 44 (He.ga K "cut") fd := c.t.d.def_ 24 (d := dd 44 "cut") rfl
  have g_cut : mg "cut" = some (.ref (He.ga K "cut")) := He.glo_ok X G (c.t.d.fact 53 (f := .glo "cut") rfl)
  obtain ⟨fd_roads_apart, F_roads_apart⟩ : ∃ fd, FnP K "roads_apart" 45 (He.ga K "roads_apart") fd := c.t.d.def_ 25 (d := dd 45 "roads_apart") rfl
  have g_roads_apart : mg "roads_apart" = some (.ref (He.ga K "roads_apart")) := He.glo_ok X G (c.t.d.fact 54 (f := .glo "roads_apart") rfl)
  obtain ⟨fd_law_begun, F_law_begun⟩ : ∃ fd, FnP K "_law_begun" 47 (He.ga K "_law_begun") fd := c.t.d.def_ 26 (d := dd 47 "_law_begun") rfl
  have g_law_begun : mg "_law_begun" = some (.ref (He.ga K "_law_begun")) := He.glo_ok X G (c.t.d.fact 55 (f := .glo "_law_begun") rfl)
  obtain ⟨fd_law_mixed, F_law_mixed⟩ : ∃ fd, FnP K "_law_mixed" 48 (He.ga K "_law_mixed") fd := c.t.d.def_ 27 (d := dd 48 "_law_mixed") rfl
  have g_law_mixed : mg "_law_mixed" = some (.ref (He.ga K "_law_mixed")) := He.glo_ok X G (c.t.d.fact 56 (f := .glo "_law_mixed") rfl)
  obtain ⟨fd_law_take, F_law_take⟩ : ∃ fd, FnP K "_law_take" 49 (He.ga K "_law_take") fd := c.t.d.def_ 28 (d := dd 49 "_law_take") rfl
  have g_law_take : mg "_law_take" = some (.ref (He.ga K "_law_take")) := He.glo_ok X G (c.t.d.fact 57 (f := .glo "_law_take") rfl)
  obtain ⟨fd_law_pick, F_law_pick⟩ : ∃ fd, FnP K "_law_pick" 50 (He.ga K "_law_pick") fd := c.t.d.def_ 29 (d := dd 50 "_law_pick") rfl
  have g_law_pick : mg "_law_pick" = some (.ref (He.ga K "_law_pick")) := He.glo_ok X G (c.t.d.fact 58 (f := .glo "_law_pick") rfl)
  obtain ⟨fd_law_shuffled, F_law_shuffled⟩ : ∃ fd, FnP K "_law_shuffled" 51 (He.ga K "_law_shuffled") fd := c.t.d.def_ 30 (d := dd 51 "_law_shuffled") rfl
  have g_law_shuffled : mg "_law_shuffled" = some (.ref (He.ga K "_law_shuffled")) := He.glo_ok X G (c.t.d.fact 59 (f := .glo "_law_shuffled") rfl)
  obtain ⟨fd_law_is_whole, F_law_is_whole⟩ : ∃ fd, FnP K "_law_is_whole" 52 (He.ga K "_law_is_whole") fd := c.t.d.def_ 31 (d := dd 52 "_law_is_whole") rfl
  have g_law_is_whole : mg "_law_is_whole" = some (.ref (He.ga K "_law_is_whole")) := He.glo_ok X G (c.t.d.fact 60 (f := .glo "_law_is_whole") rfl)
  obtain ⟨fd_law_error, F_law_error⟩ : ∃ fd, FnP K "_law_error" 53 (He.ga K "_law_error") fd := c.t.d.def_ 32 (d := dd 53 "_law_error") rfl
  have g_law_error : mg "_law_error" = some (.ref (He.ga K "_law_error")) := He.glo_ok X G (c.t.d.fact 61 (f := .glo "_law_error") rfl)
  obtain ⟨fd_law_lot, F_law_lot⟩ : ∃ fd, FnP K "_law_lot" 54 (He.ga K "_law_lot") fd := c.t.d.def_ 33 (d := dd 54 "_law_lot") rfl
  have g_law_lot : mg "_law_lot" = some (.ref (He.ga K "_law_lot")) := He.glo_ok X G (c.t.d.fact 62 (f := .glo "_law_lot") rfl)
  obtain ⟨fd_law_place, F_law_place⟩ : ∃ fd, FnP K "_law_place" 55 (He.ga K "_law_place") fd := c.t.d.def_ 34 (d := dd 55 "_law_place") rfl
  have g_law_place : mg "_law_place" = some (.ref (He.ga K "_law_place")) := He.glo_ok X G (c.t.d.fact 63 (f := .glo "_law_place") rfl)
  obtain ⟨fd_law_plain_row, F_law_plain_row⟩ : ∃ fd, FnP K "_law_plain_row" 56 (He.ga K "_law_plain_row") fd := c.t.d.def_ 35 (d := dd 56 "_law_plain_row") rfl
  have g_law_plain_row : mg "_law_plain_row" = some (.ref (He.ga K "_law_plain_row")) := He.glo_ok X G (c.t.d.fact 64 (f := .glo "_law_plain_row") rfl)
  obtain ⟨fd_law_led_row, F_law_led_row⟩ : ∃ fd, FnP K "_law_led_row" 57 (He.ga K "_law_led_row") fd := c.t.d.def_ 36 (d := dd 57 "_law_led_row") rfl
  have g_law_led_row : mg "_law_led_row" = some (.ref (He.ga K "_law_led_row")) := He.glo_ok X G (c.t.d.fact 65 (f := .glo "_law_led_row") rfl)
  obtain ⟨fd_law_last_row, F_law_last_row⟩ : ∃ fd, FnP K "_law_last_row" 58 (He.ga K "_law_last_row") fd := c.t.d.def_ 37 (d := dd 58 "_law_last_row") rfl
  have g_law_last_row : mg "_law_last_row" = some (.ref (He.ga K "_law_last_row")) := He.glo_ok X G (c.t.d.fact 66 (f := .glo "_law_last_row") rfl)
  obtain ⟨fd_law_some_row, F_law_some_row⟩ : ∃ fd, FnP K "_law_some_row" 59 (He.ga K "_law_some_row") fd := c.t.d.def_ 38 (d := dd 59 "_law_some_row") rfl
  have g_law_some_row : mg "_law_some_row" = some (.ref (He.ga K "_law_some_row")) := He.glo_ok X G (c.t.d.fact 67 (f := .glo "_law_some_row") rfl)
  obtain ⟨fd_law_repicked, F_law_repicked⟩ : ∃ fd, FnP K "_law_repicked" 60 (He.ga K "_law_repicked") fd := c.t.d.def_ 39 (d := dd 60 "_law_repicked") rfl
  have g_law_repicked : mg "_law_repicked" = some (.ref (He.ga K "_law_repicked")) := He.glo_ok X G (c.t.d.fact 68 (f := .glo "_law_repicked") rfl)
  obtain ⟨fd_law_skeleton, F_law_skeleton⟩ : ∃ fd, FnP K "_law_skeleton" 61 (He.ga K "_law_skeleton") fd := c.t.d.def_ 40 (d := dd 61 "_law_skeleton") rfl
  have g_law_skeleton : mg "_law_skeleton" = some (.ref (He.ga K "_law_skeleton")) := He.glo_ok X G (c.t.d.fact 69 (f := .glo "_law_skeleton") rfl)
  obtain ⟨fd_law_patterns, F_law_patterns⟩ : ∃ fd, FnP K "_law_patterns" 62 (He.ga K "_law_patterns") fd := c.t.d.def_ 41 (d := dd 62 "_law_patterns") rfl
  have g_law_patterns : mg "_law_patterns" = some (.ref (He.ga K "_law_patterns")) := He.glo_ok X G (c.t.d.fact 70 (f := .glo "_law_patterns") rfl)
  obtain ⟨fd_law_home, F_law_home⟩ : ∃ fd, FnP K "_law_home" 63 (He.ga K "_law_home") fd := c.t.d.def_ 42 (d := dd 63 "_law_home") rfl
  have g_law_home : mg "_law_home" = some (.ref (He.ga K "_law_home")) := He.glo_ok X G (c.t.d.fact 71 (f := .glo "_law_home") rfl)
  obtain ⟨fd_law_copied, F_law_copied⟩ : ∃ fd, FnP K "_law_copied" 64 (He.ga K "_law_copied") fd := c.t.d.def_ 43 (d := dd 64 "_law_copied") rfl
  have g_law_copied : mg "_law_copied" = some (.ref (He.ga K "_law_copied")) := He.glo_ok X G (c.t.d.fact 72 (f := .glo "_law_copied") rfl)
  obtain ⟨fd_law_labels, F_law_labels⟩ : ∃ fd, FnP K "_law_labels" 65 (He.ga K "_law_labels") fd := c.t.d.def_ 44 (d := dd 65 "_law_labels") rfl
  have g_law_labels : mg "_law_labels" = some (.ref (He.ga K "_law_labels")) := He.glo_ok X G (c.t.d.fact 73 (f := .glo "_law_labels") rfl)
  obtain ⟨fd_law_lengths, F_law_lengths⟩ : ∃ fd, FnP K "_law_lengths" 66 (He.ga K "_law_lengths") fd := c.t.d.def_ 45 (d := dd 66 "_law_lengths") rfl
  have g_law_lengths : mg "_law_lengths" = some (.ref (He.ga K "_law_lengths")) := He.glo_ok X G (c.t.d.fact 74 (f := .glo "_law_lengths") rfl)
  obtain ⟨fd_law_spoilt, F_law_spoilt⟩ : ∃ fd, FnP K "_law_spoilt" 67 (He.ga K "_law_spoilt") fd := c.t.d.def_ 46 (d := dd 67 "_law_spoilt") rfl
  have g_law_spoilt : mg "_law_spoilt" = some (.ref (He.ga K "_law_spoilt")) := He.glo_ok X G (c.t.d.fact 75 (f := .glo "_law_spoilt") rfl)
  obtain ⟨fd_law_rooted, F_law_rooted⟩ : ∃ fd, FnP K "_law_rooted" 68 (He.ga K "_law_rooted") fd := c.t.d.def_ 47 (d := dd 68 "_law_rooted") rfl
  have g_law_rooted : mg "_law_rooted" = some (.ref (He.ga K "_law_rooted")) := He.glo_ok X G (c.t.d.fact 76 (f := .glo "_law_rooted") rfl)
  obtain ⟨fd_law_chain, F_law_chain⟩ : ∃ fd, FnP K "_law_chain" 69 (He.ga K "_law_chain") fd := c.t.d.def_ 48 (d := dd 69 "_law_chain") rfl
  have g_law_chain : mg "_law_chain" = some (.ref (He.ga K "_law_chain")) := He.glo_ok X G (c.t.d.fact 77 (f := .glo "_law_chain") rfl)
  obtain ⟨fd_law_web, F_law_web⟩ : ∃ fd, FnP K "_law_web" 70 (He.ga K "_law_web") fd := c.t.d.def_ 49 (d := dd 70 "_law_web") rfl
  have g_law_web : mg "_law_web" = some (.ref (He.ga K "_law_web")) := He.glo_ok X G (c.t.d.fact 78 (f := .glo "_law_web") rfl)
  obtain ⟨fd_law_leads, F_law_leads⟩ : ∃ fd, FnP K "_law_leads" 71 (He.ga K "_law_leads") fd := c.t.d.def_ 50 (d := dd 71 "_law_leads") rfl
  have g_law_leads : mg "_law_leads" = some (.ref (He.ga K "_law_leads")) := He.glo_ok X G (c.t.d.fact 79 (f := .glo "_law_leads") rfl)
  obtain ⟨fd_law_reach, F_law_reach⟩ : ∃ fd, FnP K "_law_reach" 72 (He.ga K "_law_reach") fd := c.t.d.def_ 51 (d := dd 72 "_law_reach") rfl
  have g_law_reach : mg "_law_reach" = some (.ref (He.ga K "_law_reach")) := He.glo_ok X G (c.t.d.fact 80 (f := .glo "_law_reach") rfl)
  obtain ⟨fd_law_fresh, F_law_fresh⟩ : ∃ fd, FnP K "_law_fresh" 73 (He.ga K "_law_fresh") fd := c.t.d.def_ 52 (d := dd 73 "_law_fresh") rfl
  have g_law_fresh : mg "_law_fresh" = some (.ref (He.ga K "_law_fresh")) := He.glo_ok X G (c.t.d.fact 81 (f := .glo "_law_fresh") rfl)
  obtain ⟨fd_law_kept, F_law_kept⟩ : ∃ fd, FnP K "_law_kept" 74 (He.ga K "_law_kept") fd := c.t.d.def_ 53 (d := dd 74 "_law_kept") rfl
  have g_law_kept : mg "_law_kept" = some (.ref (He.ga K "_law_kept")) := He.glo_ok X G (c.t.d.fact 82 (f := .glo "_law_kept") rfl)
  obtain ⟨fd_law_once, F_law_once⟩ : ∃ fd, FnP K "_law_once" 75 (He.ga K "_law_once") fd := c.t.d.def_ 54 (d := dd 75 "_law_once") rfl
  have g_law_once : mg "_law_once" = some (.ref (He.ga K "_law_once")) := He.glo_ok X G (c.t.d.fact 83 (f := .glo "_law_once") rfl)
  obtain ⟨fd_law_is_ascending, F_law_is_ascending⟩ : ∃ fd, FnP K "_law_is_ascending" 76 (He.ga K "_law_is_ascending") fd := c.t.d.def_ 55 (d := dd 76 "_law_is_ascending") rfl
  have g_law_is_ascending : mg "_law_is_ascending" = some (.ref (He.ga K "_law_is_ascending")) := He.glo_ok X G (c.t.d.fact 84 (f := .glo "_law_is_ascending") rfl)
  obtain ⟨fd_law_is_way, F_law_is_way⟩ : ∃ fd, FnP K "_law_is_way" 77 (He.ga K "_law_is_way") fd := c.t.d.def_ 56 (d := dd 77 "_law_is_way") rfl
  have g_law_is_way : mg "_law_is_way" = some (.ref (He.ga K "_law_is_way")) := He.glo_ok X G (c.t.d.fact 85 (f := .glo "_law_is_way") rfl)
  obtain ⟨fd_law_choices, F_law_choices⟩ : ∃ fd, FnP K "_law_choices" 78 (He.ga K "_law_choices") fd := c.t.d.def_ 57 (d := dd 78 "_law_choices") rfl
  have g_law_choices : mg "_law_choices" = some (.ref (He.ga K "_law_choices")) := He.glo_ok X G (c.t.d.fact 86 (f := .glo "_law_choices") rfl)
  obtain ⟨fd_law_in_front, F_law_in_front⟩ : ∃ fd, FnP K "_law_in_front" 79 (He.ga K "_law_in_front") fd := c.t.d.def_ 58 (d := dd 79 "_law_in_front") rfl
  have g_law_in_front : mg "_law_in_front" = some (.ref (He.ga K "_law_in_front")) := He.glo_ok X G (c.t.d.fact 87 (f := .glo "_law_in_front") rfl)
  obtain ⟨fd_law_are_apart, F_law_are_apart⟩ : ∃ fd, FnP K "_law_are_apart" 80 (He.ga K "_law_are_apart") fd := c.t.d.def_ 59 (d := dd 80 "_law_are_apart") rfl
  have g_law_are_apart : mg "_law_are_apart" = some (.ref (He.ga K "_law_are_apart")) := He.glo_ok X G (c.t.d.fact 88 (f := .glo "_law_are_apart") rfl)
  obtain ⟨fd_law, F_law⟩ : ∃ fd, FnP K "law" 81 (He.ga K "law") fd := c.t.d.def_ 60 (d := dd 81 "law") rfl
  have g_law : mg "law" = some (.ref (He.ga K "law")) := He.glo_ok X G (c.t.d.fact 89 (f := .glo "law") rfl)
  refine ⟨fd_law, [He.cT K lawD], spLaw K (He.cT K lawD).2, fun p hp => ?_, fun p hp => ?_, fun p hp => ?_, fun s v => ?_, fun H a ns hl _ hT hS => ⟨a, ns, rfl, hS, hl, hT _ (List.mem_singleton.mpr rfl), fun _ => rfl⟩, fun base KB GB TB => ?_⟩
  · rw [List.mem_singleton.mp hp]
    exact c.empty
  · rw [List.mem_singleton.mp hp]
    exact c.out
  · rw [List.mem_singleton.mp hp]
    exact PySem.W.codeHd_of_K X c.hd
  · exact FunD.bindsA (ps := ["_law_script"]) F_law (fun _ _ _ _ _ _ us hl => match us, hl with | [_], _ => rfl) s [v] rfl
  have C_is_name : Cal pw w K mg base CX0 1 "is_name" (spName) := cal F_is_name g_is_name (ok_is_name F_is_name T) fun _ _ _ _ _ _ us hl => match us, hl with | [_], _ => rfl
  have C_is_number : Cal pw w K mg base CX0 1 "is_number" (spNumber) := cal F_is_number g_is_number (ok_is_number F_is_number T) fun _ _ _ _ _ _ us hl => match us, hl with | [_, _, _], _ => rfl
  have C_is_part : Cal pw w K mg base CX0 2 "is_part" (spPart) := cal F_is_part g_is_part (ok_is_part F_is_part T C_is_name C_is_number) fun _ _ _ _ _ _ us hl => match us, hl with | [_, _, _], _ => rfl
  have C_is_whole : Cal pw w K mg base CX0 1 "is_whole" (spWhole) := cal F_is_whole g_is_whole (ok_is_whole F_is_whole T) fun _ _ _ _ _ _ us hl => match us, hl with | [_], _ => rfl
  have C_is_ascending : Cal pw w K mg base CX0 2 "is_ascending" (spAsc) := cal F_is_ascending g_is_ascending (ok_is_ascending F_is_ascending T C_is_whole) fun _ _ _ _ _ _ us hl => match us, hl with | [_, _], _ => rfl
  have C_place_in : Cal pw w K mg base CX0 1 "place_in" (spPlace) := cal F_place_in g_place_in (ok_place_in F_place_in T) fun _ _ _ _ _ _ us hl => match us, hl with | [_], _ => rfl
  have C_is_row_of : Cal pw w K mg base CX0 3 "is_row_of" (spRowOf) := cal F_is_row_of g_is_row_of (ok_is_row_of F_is_row_of T C_is_part C_is_whole) fun _ _ _ _ _ _ us hl => match us, hl with | [_, _], _ => rfl
  have C_is_code : Cal pw w K mg base CX0 4 "is_code" (spCode) := cal F_is_code g_is_code (ok_is_code F_is_code T C_is_row_of) fun _ _ _ _ _ _ us hl => match us, hl with | [_], _ => rfl
  have C_is_body : Cal pw w K mg base CX0 5 "is_body" (spBody) := cal F_is_body g_is_body (ok_is_body F_is_body T C_is_code C_is_whole C_is_name) fun _ _ _ _ _ _ us hl => match us, hl with | [_, _], _ => rfl
  have C_is_knot : Cal pw w K mg base CX0 6 "is_knot" (spKnot) := cal F_is_knot g_is_knot (ok_is_knot F_is_knot T C_is_body C_is_whole C_is_name) fun _ _ _ _ _ _ us hl => match us, hl with | [_], _ => rfl
  have C_length_of : Cal pw w K mg base CX0 1 "length_of" (spLength) := cal F_length_of g_length_of (ok_length_of F_length_of T) fun _ _ _ _ _ _ us hl => match us, hl with | [_], _ => rfl
  have C_asks : Cal pw w K mg base CX0 2 "asks" (spAsks) := cal F_asks g_asks (ok_asks F_asks T C_place_in) fun _ _ _ _ _ _ us hl => match us, hl with | [_], _ => rfl
  have C_fits : Cal pw w K mg base CX0 2 "fits" (spFits) := cal F_fits g_fits (ok_fits F_fits T C_is_whole C_length_of) fun _ _ _ _ _ _ us hl => match us, hl with | [_, _, _, _], _ => rfl
  have C_is_web : Cal pw w K mg base CX0 7 "is_web" (spWeb) := cal F_is_web g_is_web (ok_is_web F_is_web T C_is_knot C_asks C_fits C_is_ascending) fun _ _ _ _ _ _ us hl => match us, hl with | [_], _ => rfl
  have C_check_web : Cal pw w K mg base CX0 8 "check_web" (spCkWeb) := cal F_check_web g_check_web (ok_check_web F_check_web T C_is_web) fun _ _ _ _ _ _ us hl => match us, hl with | [_], _ => rfl
  have C_check_knot : Cal pw w K mg base CX0 9 "check_knot" (spCkKnot) := cal F_check_knot g_check_knot (ok_check_knot F_check_knot T C_check_web C_is_whole) fun _ _ _ _ _ _ us hl => match us, hl with | [_, _], _ => rfl
  have C_leads_of : Cal pw w K mg base CX0 3 "leads_of" (spLeads) := cal F_leads_of g_leads_of (ok_leads_of F_leads_of T C_asks C_is_whole) fun _ _ _ _ _ _ us hl => match us, hl with | [_, _], _ => rfl
  have C_roads_of : Cal pw w K mg base CX0 4 "roads_of" (spRoads) := cal F_roads_of g_roads_of (ok_roads_of F_roads_of T C_leads_of) fun _ _ _ _ _ _ us hl => match us, hl with | [_, _], _ => rfl
  have C_road_of : Cal pw w K mg base (L2.CX pw w) 5 "road_of" ((spRoad (He.ga K "NotKept"))) := cal F_road_of g_road_of (ok_road_of F_road_of T eN C_roads_of) fun _ _ _ _ _ _ us hl => match us, hl with | [_, _], _ => rfl
  have C_onward : Cal pw w K mg base CX0 4 "onward" (spOnward) := cal F_onward g_onward (ok_onward F_onward T C_leads_of) fun _ _ _ _ _ _ us hl => match us, hl with | [_, _, _, _], _ => rfl
  have C_reached : Cal pw w K mg base CX0 5 "reached" (spReached) := cal F_reached g_reached (ok_reached F_reached T C_onward) fun _ _ _ _ _ _ us hl => match us, hl with | [_, _, _], _ => rfl
  have C_turned : Cal pw w K mg base CX0 1 "turned" (spTurned) := cal F_turned g_turned (ok_turned F_turned T) fun _ _ _ _ _ _ us hl => match us, hl with | [_, _, _], _ => rfl
  have C_greatest : Cal pw w K mg base CX0 6 "greatest" (spGreatest) := cal F_greatest g_greatest (ok_greatest F_greatest T C_reached C_turned) fun _ _ _ _ _ _ us hl => match us, hl with | [_, _], _ => rfl
  have C_check_cut : Cal pw w K mg base (L2.CX pw w) 10 "check_cut" ((spCkCut (He.ga K "NotKept") (He.ga K "Rooted"))) := cal F_check_cut g_check_cut (ok_check_cut F_check_cut T eR C_check_knot C_road_of) fun _ _ _ _ _ _ us hl => match us, hl with | [_, _], _ => rfl
  have C_cut : Cal pw w K mg base (L2.CX pw w) 11 "cut" ((spCut (He.ga K "NotKept") (He.ga K "Rooted"))) := cal F_cut g_cut (ok_cut F_cut T C_check_cut C_reached C_greatest) fun _ _ _ _ _ _ us hl => match us, hl with | [_, _], _ => rfl
  have C_roads_apart : Cal pw w K mg base (L2.CX pw w) 11 "roads_apart" ((spApart (He.ga K "NotKept") (He.ga K "Rooted"))) := cal F_roads_apart g_roads_apart (ok_roads_apart F_roads_apart T C_check_cut C_greatest) fun _ _ _ _ _ _ us hl => match us, hl with | [_, _], _ => rfl
  have C_law_begun : Cal pw w K mg base CX0 1 "_law_begun" ((spBegun K)) := cal F_law_begun g_law_begun (ok_law_begun F_law_begun T) fun _ _ _ _ _ _ us hl => match us, hl with | [_], _ => rfl
  have C_law_mixed : Cal pw w K mg base CX0 1 "_law_mixed" (spMixed) := cal F_law_mixed g_law_mixed (ok_law_mixed F_law_mixed T) fun _ _ _ _ _ _ us hl => match us, hl with | [_], _ => rfl
  have C_law_take : Cal pw w K mg base CX0 2 "_law_take" (spTake) := cal F_law_take g_law_take (ok_law_take F_law_take T C_law_mixed) fun _ _ _ _ _ _ us hl => match us, hl with | [_, _], _ => rfl
  have C_law_pick : Cal pw w K mg base CX0 3 "_law_pick" (spPick) := cal F_law_pick g_law_pick (ok_law_pick F_law_pick T C_law_take) fun _ _ _ _ _ _ us hl => match us, hl with | [_, _], _ => rfl
  have C_law_shuffled : Cal pw w K mg base CX0 3 "_law_shuffled" (spShuf) := cal F_law_shuffled g_law_shuffled (ok_law_shuffled F_law_shuffled T C_law_take) fun _ _ _ _ _ _ us hl => match us, hl with | [_, _], _ => rfl
  have C_law_is_whole : Cal pw w K mg base CX0 1 "_law_is_whole" (spWhole) := cal F_law_is_whole g_law_is_whole (ok_law_is_whole F_law_is_whole T) fun _ _ _ _ _ _ us hl => match us, hl with | [_], _ => rfl
  have C_law_lot : Cal pw w K mg base CX0 4 "_law_lot" (spLot) := cal F_law_lot g_law_lot (ok_law_lot F_law_lot T C_law_take C_law_shuffled) fun _ _ _ _ _ _ us hl => match us, hl with | [_, _, _], _ => rfl
  have C_law_place : Cal pw w K mg base CX0 1 "_law_place" (spLPlace) := cal F_law_place g_law_place (ok_law_place F_law_place T) fun _ _ _ _ _ _ us hl => match us, hl with | [_], _ => rfl
  have C_law_plain_row : Cal pw w K mg base CX0 4 "_law_plain_row" (spPlain) := cal F_law_plain_row g_law_plain_row (ok_law_plain_row F_law_plain_row T C_law_take C_law_pick) fun _ _ _ _ _ _ us hl => match us, hl with | [_, _], _ => rfl
  have C_law_led_row : Cal pw w K mg base CX0 5 "_law_led_row" (spLed) := cal F_law_led_row g_law_led_row (ok_law_led_row F_law_led_row T C_law_take C_law_pick C_law_plain_row) fun _ _ _ _ _ _ us hl => match us, hl with | [_, _, _, _], _ => rfl
  have C_law_last_row : Cal pw w K mg base CX0 4 "_law_last_row" (spLast) := cal F_law_last_row g_law_last_row (ok_law_last_row F_law_last_row T C_law_take C_law_pick) fun _ _ _ _ _ _ us hl => match us, hl with | [_, _, _], _ => rfl
  have C_law_some_row : Cal pw w K mg base CX0 6 "_law_some_row" (spSome) := cal F_law_some_row g_law_some_row (ok_law_some_row F_law_some_row T C_law_take C_law_plain_row C_law_led_row) fun _ _ _ _ _ _ us hl => match us, hl with | [_, _, _, _], _ => rfl
  have C_law_repicked : Cal pw w K mg base CX0 4 "_law_repicked" (spRepick) := cal F_law_repicked g_law_repicked (ok_law_repicked F_law_repicked T C_law_take C_law_pick C_law_place) fun _ _ _ _ _ _ us hl => match us, hl with | [_, _, _, _], _ => rfl
  have C_law_skeleton : Cal pw w K mg base CX0 7 "_law_skeleton" (spSkel) := cal F_law_skeleton g_law_skeleton (ok_law_skeleton F_law_skeleton T C_law_take C_law_some_row C_law_last_row) fun _ _ _ _ _ _ us hl => match us, hl with | [_, _, _], _ => rfl
  have C_law_patterns : Cal pw w K mg base CX0 8 "_law_patterns" (spPats) := cal F_law_patterns g_law_patterns (ok_law_patterns F_law_patterns T C_law_take C_law_pick C_law_skeleton C_law_repicked) fun _ _ _ _ _ _ us hl => match us, hl with | [_], _ => rfl
  have C_law_home : Cal pw w K mg base CX0 4 "_law_home" (spHome) := cal F_law_home g_law_home (ok_law_home F_law_home T C_law_take C_law_pick) fun _ _ _ _ _ _ us hl => match us, hl with | [_, _, _, _, _], _ => rfl
  have C_law_copied : Cal pw w K mg base CX0 5 "_law_copied" (spCopied) := cal F_law_copied g_law_copied (ok_law_copied F_law_copied T C_law_take C_law_pick C_law_home C_law_place) fun _ _ _ _ _ _ us hl => match us, hl with | [_, _, _, _], _ => rfl
  have C_law_labels : Cal pw w K mg base CX0 4 "_law_labels" (spLabels) := cal F_law_labels g_law_labels (ok_law_labels F_law_labels T C_law_pick C_law_shuffled) fun _ _ _ _ _ _ us hl => match us, hl with | [_, _], _ => rfl
  have C_law_lengths : Cal pw w K mg base CX0 1 "_law_lengths" (spLens) := cal F_law_lengths g_law_lengths (ok_law_lengths F_law_lengths T) fun _ _ _ _ _ _ us hl => match us, hl with | [_], _ => rfl
  have C_law_spoilt : Cal pw w K mg base CX0 7 "_law_spoilt" (spSpoilt) := cal F_law_spoilt g_law_spoilt (ok_law_spoilt F_law_spoilt T C_law_take C_law_pick C_law_lengths C_law_last_row C_law_some_row) fun _ _ _ _ _ _ us hl => match us, hl with | [_, _], _ => rfl
  have C_law_chain : Cal pw w K mg base CX0 4 "_law_chain" (spChain) := cal F_law_chain g_law_chain (ok_law_chain F_law_chain T C_law_take C_law_shuffled) fun _ _ _ _ _ _ us hl => match us, hl with | [_, _], _ => rfl
  have C_law_leads : Cal pw w K mg base CX0 2 "_law_leads" (spLLeads) := cal F_law_leads g_law_leads (ok_law_leads F_law_leads T C_law_is_whole C_law_place) fun _ _ _ _ _ _ us hl => match us, hl with | [_, _], _ => rfl
  have C_law_fresh : Cal pw w K mg base CX0 1 "_law_fresh" (spFresh) := cal F_law_fresh g_law_fresh (ok_law_fresh F_law_fresh T) fun _ _ _ _ _ _ us hl => match us, hl with | [_, _, _], _ => rfl
  have C_law_reach : Cal pw w K mg base CX0 3 "_law_reach" (spReach) := cal F_law_reach g_law_reach (ok_law_reach F_law_reach T C_law_fresh C_law_leads) fun _ _ _ _ _ _ us hl => match us, hl with | [_, _], _ => rfl
  have C_law_rooted : Cal pw w K mg base CX0 5 "_law_rooted" (spRooted) := cal F_law_rooted g_law_rooted (ok_law_rooted F_law_rooted T C_law_take C_law_pick C_law_lot C_law_reach) fun _ _ _ _ _ _ us hl => match us, hl with | [_, _], _ => rfl
  have C_law_web : Cal pw w K mg base CX0 9 "_law_web" (spLWeb) := cal F_law_web g_law_web (ok_law_web F_law_web T C_law_take C_law_pick C_law_shuffled C_law_chain C_law_patterns C_law_labels C_law_copied C_law_spoilt C_law_rooted) fun _ _ _ _ _ _ us hl => match us, hl with | [_, _], _ => rfl
  have C_law_kept : Cal pw w K mg base CX0 4 "_law_kept" (spLKept) := cal F_law_kept g_law_kept (ok_law_kept F_law_kept T C_law_reach) fun _ _ _ _ _ _ us hl => match us, hl with | [_], _ => rfl
  have C_law_once : Cal pw w K mg base CX0 1 "_law_once" (spOnce) := cal F_law_once g_law_once (ok_law_once F_law_once T) fun _ _ _ _ _ _ us hl => match us, hl with | [_], _ => rfl
  have C_law_is_ascending : Cal pw w K mg base CX0 2 "_law_is_ascending" (spLAsc) := cal F_law_is_ascending g_law_is_ascending (ok_law_is_ascending F_law_is_ascending T C_law_is_whole) fun _ _ _ _ _ _ us hl => match us, hl with | [_, _], _ => rfl
  have C_law_is_way : Cal pw w K mg base CX0 3 "_law_is_way" (spLWay) := cal F_law_is_way g_law_is_way (ok_law_is_way F_law_is_way T C_law_is_whole C_law_leads) fun _ _ _ _ _ _ us hl => match us, hl with | [_, _], _ => rfl
  have C_law_choices : Cal pw w K mg base CX0 1 "_law_choices" (spChoices) := cal F_law_choices g_law_choices (ok_law_choices F_law_choices T) fun _ _ _ _ _ _ us hl => match us, hl with | [_, _], _ => rfl
  have C_law_in_front : Cal pw w K mg base CX0 4 "_law_in_front" (spFront) := cal F_law_in_front g_law_in_front (ok_law_in_front F_law_in_front T C_law_reach C_law_leads C_law_once) fun _ _ _ _ _ _ us hl => match us, hl with | [_, _], _ => rfl
  have C_law_are_apart : Cal pw w K mg base CX0 4 "_law_are_apart" (spLApart) := cal F_law_are_apart g_law_are_apart (ok_law_are_apart F_law_are_apart T C_law_is_way C_law_once) fun _ _ _ _ _ _ us hl => match us, hl with | [_, _, _], _ => rfl
  have hcode : fd_law.code = .ref (He.cT K lawD).1 := by
    obtain ⟨oc, od, dV, kV, doc, pm, an, cdv, ct, osl, rfl, lk, hcd, _, _⟩ := F_law.ex
    obtain ⟨cc, rfl⟩ := He.codeIn_ref hcd
    show Value.ref cc = .ref (He.codeOf K lawD)
    rw [He.codeOf_eq (p := lawD) lk rfl]
  exact ok_law F_law hcode (TB _ (List.mem_singleton.mpr rfl)) T F_law_error g_law_error (He.glo_ok X G (c.t.d.fact 24 (f := .glo "LinkError") rfl)) (He.glo_ok X G (c.t.d.fact 25 (f := .glo "NotKept") rfl)) (He.glo_ok X G (c.t.d.fact 26 (f := .glo "Rooted") rfl)) (xisB_ok t.xN) (xisB_ok t.xR) t.iN t.iR (He.exm_ok (c.t.d.fact 27 (f := .exm "NotKept" "LinkError" true) rfl)) (He.exm_ok (c.t.d.fact 28 (f := .exm "Rooted" "LinkError" true) rfl)) (knotN t) (knotR t)
    C_cut C_roads_apart C_law_begun C_law_web C_law_kept C_law_is_ascending C_law_reach C_law_are_apart C_law_in_front C_law_take C_law_choices
end
end K41
open PySem PySem.W PySem.Calls PyProof.Rows
theorem PySem.Challenge.cw_onebase_k41_whole_fewest_knots_and_most_holds : PySem.Challenge.rw_onebase_k41_whole_fewest_knots_and_most.Holds := by
  w_on; o_law
  refine HandSHeadRun.head_any (r := OpenLaw.row PySem.Challenge.rw_onebase_k41_whole_fewest_knots_and_most) (q := K41.qv) (H := K41.hookK) (ob := K41.obK) (M := 6000) (loose := K41.names) (d := HandSHeadRun.topDef (OpenLaw.row PySem.Challenge.rw_onebase_k41_whole_fewest_knots_and_most).prog 81) (kwd := []) K41.obK_eq
    (by kernel_rfl) (fun s => by kernel_rfl) K41.run (by kernel_rfl) (by kernel_rfl) (by kernel_rfl) (by rfl) (by first | assumption | decide +kernel) (by decide +kernel) ⟨rfl, rfl, rfl, rfl, rfl, by decide +kernel⟩ ?hw ?hc
  case hw => w_witness2
  case hc =>
    refine LamX.walk_ofTsE (l := PySem.Challenge.rw_onebase_k41_whole_fewest_knots_and_most) (n := 63) (k := 14) (x := "_law_script") (CX := fun _ => L2.CX0) rfl (by decide) (by kernel_rfl) ⟨rfl, by decide, by decide⟩ ?F (fun _ _ _ _ _ z => z)
    intro w mg fa h Y G hmg0
    obtain ⟨K, KX, c⟩ := Y
    have hmg : mg ("law" : PySem.Str) = some (.ref fa) := by
      have e : (HandSHeadRun.topDef (OpenLaw.row PySem.Challenge.rw_onebase_k41_whole_fewest_knots_and_most).prog 81).name = ("law" : PySem.Str) := by kernel_rfl
      rw [← e]
      exact hmg0
    have e := hmg.symm.trans (He.glo_ok KX G (c.t.d.fact 89 (f := .glo "law") rfl))
    cases e
    exact ⟨K, KX, K41.law_at KX G c⟩
