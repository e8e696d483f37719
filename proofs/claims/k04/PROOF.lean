import PyProof.Rows.All
import Wide.All
import OpenK.AllK
import Wide.FinOn
import HandS.Zip
import HandS.Iter
import KE.GoesMore
import KE.GoesZip
import HandS.TupMul
import HandS.SortInts
import HandS.ForMost
import PyProof.StrBlock2
import HandS.Text
import PyProof.ReprRoads
import HandS.ForExc
import HandS.Lambda
import HandS.Wide
import HandS.TupAny
import HandS.Deep
import HandS.Conv
import HandS.TupLe
import HandS.IsInst
import HandS.ExcIs
import HandS.OwnEq
import HandS.Style
import HandS.BoundList
import HandS.List
import HandS.Strs
import HandS.Dict
import KE.KEqSeq
import HandS.MakeKw
import HandS.Defaults
import HandS.EndTab
import HandS.HeadWalk
import HandS.CallRecv
import HandS.HeadHook3
import HandS.HeadHook4
import PyProof.FitsInt
import KE.KStateDown
import Lean
import HandS.Ends
import HandS.Words
import HandS.WordsExc
import HandS.Head0
import HandS.Head1
import HandS.Head2
import HandS.HeadEnd
import PySem.Challenge.RW_swapheld_k04_whole_priced_and_renamed
set_option Elab.async false
section
set_option Elab.async false
set_option linter.all false
set_option maxRecDepth 100000
set_option maxHeartbeats 4000000
/-! DpS: enumerate over a tuple, zip over a list and a tuple. -/
namespace Dp
open PySem PySem.Spec PyProof.Rows L2
open AutoSeq1 (wpAny_loadPart')
abbrev tIt (l : Addr) : Obj := { cls := .type "tuple_iterator", data := .fields #[.ref l, .int 0 0] }
abbrev eOb (a : Addr) : Obj := { cls := .type "enumerate", data := .fields #[.none, .bool false, .ref a, rawInt 0, .none, .none] }
theorem newT_meets (l : Addr) (its : Array Value) (n : Nat) (dd : Option Addr) (sl : Array (Option Value)) :
    Meets (Builtin.«enumerate.__new__» ⟨[.type "enumerate", .ref l], []⟩) (fun _ R t => t.heap.get? l = some { cls := .type "tuple", dict := dd, data := .seq its n, slots := sl } ∧
      R (.ok (.ret (.ref (t.heap.push (tIt l)).objs.size))) { t with heap := (t.heap.push (tIt l)).push (eOb t.heap.objs.size) }) :=
  .of_wp fun prog w A R t q => by
    obtain ⟨hp, gs, dr, tk, os⟩ := t; obtain ⟨hl, q⟩ := q
    have hsub := sub_enumerate
    have hT : Heap.IsTuple (Shared.heap ⟨hp, gs, dr, tk, os⟩) l its := ⟨_, hl, rfl, n, rfl⟩
    wp_walk using wpAny_loadPart' hl
    refine wpAny_stack_any fun _ => wpAny_pure ?_
    split
    · rename_i c _ _ _ _ _
      cases (c == Value.type "enumerate")
      · wp_walk using wpAny_loadPart' hl, wpAny_pyIter_tuple hT
        exact ⟨_, rfl, q⟩
      · wp_walk using wpAny_loadPart' hl, wpAny_pyIter_tuple hT
        exact ⟨_, rfl, q⟩
    · wp_walk using wpAny_loadPart' hl, wpAny_pyIter_tuple hT
      exact ⟨_, rfl, q⟩
section
variable {prog : Program} {w : World} {A : Around} {E : Value → Shared → Prop} {s : Shared}
theorem call_enumT {l : Addr} {its : Array Value} {Q : Value → Shared → Prop} (hT : s.heap.IsTuple l its)
    (k : ∀ h', IsEnum h' (s.heap.objs.size + 1) s.heap.objs.size 0 .none → h'.IsTupleIter s.heap.objs.size l 0 → h'.objs.size = s.heap.objs.size + 2 → (∀ b o, s.heap.get? b = some o → h'.get? b = some o) → Q (.ref (s.heap.objs.size + 1)) { s with heap := h' }) :
    wpAny (model prog w) A (call (.type "enumerate") [.ref l]) Q E s := by
  obtain ⟨⟨c, dd, dt, sl⟩, hl, hc, n, hd⟩ := hT
  obtain rfl : c = .type "tuple" := hc
  obtain rfl : dt = .seq its n := hd
  refine callType_new F.called_enumerate (by decide) (F.typeCall_enumerate_1 _) (F.newCall_enumerate_1 _) (fun obj => F.args_object_init_2 obj _) F.entry_enumerate_new (newT_meets l its n dd sl) ⟨hl, ?_⟩
  have hz : (s.heap.push (tIt l)).objs.size = s.heap.objs.size + 1 := Heap.size_push ..
  show _ ∧ _
  rw [hz]
  have he : IsEnum ((s.heap.push (tIt l)).push (eOb s.heap.objs.size)) (s.heap.objs.size + 1) s.heap.objs.size 0 .none := by
    have e := Heap.get?_push_size (s.heap.push (tIt l)) (o := eOb s.heap.objs.size) rfl
    rw [hz] at e; exact e
  exact ⟨⟨_, he, rfl⟩, k _ he ⟨_, Heap.get?_push_of_some _ (Heap.get?_push_size _ rfl), rfl, rfl⟩ (by rw [Heap.size_push, hz]) fun b o x => Heap.get?_push_of_some _ (Heap.get?_push_of_some _ x)⟩
end
/-- behind the last item -/
theorem endD {prog : Program} {w : World} {A : Around} (hh : A.handled = none) (it a : Addr) (i : Nat) (its : Array Value) (hx : its[i]? = none) : Draws prog w A it [it, a] i (fun _ _ => True) (fun j h => j = i ∧ h.IsTupleIter it a i ∧ h.IsTuple a its) where
  live := fun _ _ st => let ⟨o, ho, _⟩ := st.2.1; ⟨o, ho⟩
  frame := fun _ _ _ st hk => ⟨st.1, st.2.1.at fun o e => hk it (by simp) o e, st.2.2.at fun o e => hk a (by simp) o e⟩
  item := fun j _ _ _ hj st _ => absurd hj (by rw [st.1]; exact Nat.lt_irrefl _)
  done := fun _ _ _ st hE => RZ.nextOf_tuple_end hh st.2.1 st.2.2 hx hE
/-- the tuple at a, each item in a new pair -/
def IteT (K : PySem.W.Frag) (a : Addr) : It :=
  ⟨fun i H => ∃ (xs : List V) (x : V), SqT K H a xs ∧ xs[i]? = some x, fun i H v H' => ∃ T x, v = .ref T ∧ H T = none ∧ H' = upd H T (.tup [.int (i : Nat), x]) ∧ ∀ xs, SqT K H a xs → xs[i]? = some x, fun i H => ∃ xs : List V, SqT K H a xs ∧ xs.length ≤ i⟩
theorem turn_enumT {P : Program} {w : World} {K : PySem.W.Frag} {elts : List Expr} {kk : Nat} {tpos : Pos} (a e it : Addr) :
    Turn P w K (.Tuple elts kk tpos) (IteT K a) [e, it] e (fun i h => (∃ old, IsEnum h e it ((i : Nat) : Int) old) ∧ h.IsTupleIter it a i ∧ e ≠ it ∧ a ≠ it ∧ e ≠ a) where
  mem := by simp
  obj := fun i h st b hb => by
    obtain ⟨⟨old, he⟩, ⟨o, ho, hc, hd⟩, _⟩ := st
    rcases (show b = e ∨ b = it by simpa using hb) with z | z
    · rw [z]; exact ⟨_, he, fun v q => nomatch q⟩
    · rw [z]; exact ⟨o, ho, fun v q => by rw [hd] at q; cases q⟩
  keep := fun i h h' st k => let ⟨⟨old, he⟩, hi, hne, h1, h2⟩ := st; ⟨⟨old, k e (by simp) _ he⟩, hi.at fun o q => k it (by simp) o q, hne, h1, h2⟩
  item := by
    intro X hP hw hK hc i pins s σ H E I hf st hg
    subst hP hw hK
    obtain ⟨⟨old, he⟩, hit, hne, hai, hea⟩ := st
    obtain ⟨xs, x, hq, hx⟩ := hg
    obtain ⟨its, rv, p, hz⟩ := I.tuple hq
    obtain ⟨u, hu, ru⟩ := rv.get hx
    have hel : e < s.heap.objs.size := Heap.lt_size he
    have hil : it < s.heap.objs.size := by obtain ⟨_, q, _⟩ := hit; exact Heap.lt_size q
    have hlt : i < its.toArray.size := by
      have := (List.getElem?_eq_some_iff.mp hu).1
      simpa using this
    refine wpAny_pyNext_enum_itemD (Draws.tuple (A := X.A.in1) (I.ok.hd hc) it a hai its.toArray) he ⟨hit, p⟩ hlt hne (by simp [hne, hea]) fun z h' tk hzx ho hst hT hsz hk => ?_
    have ez : z = u := by
      have : its[i]? = some z := by simpa using hzx
      rw [hu] at this; exact (Option.some.inj this).symm
    subst ez
    refine ⟨_, rfl, wpAny_letOwnedTupleGo_enum (s := { s with heap := h', toks := tk + 1 }) ho fun h'' he' sb => ?_⟩
    have hT2 : h''.get? s.heap.objs.size = some { cls := .type "tuple", data := .seq #[.int i tk, z] } := (sb.2 _ (Nat.ne_of_gt hel)).trans hT
    have new : ObjOk X.prog X.w (upd H s.heap.objs.size (.tup [.int (i : Nat), x])) h'' s.heap.objs.size (.tup [.int (i : Nat), x]) :=
      ⟨by show 2 ≤ sizeLine; decide, [.int i tk, z], .cons ⟨_, rfl⟩ (.cons ru .nil), ⟨_, hT2, rfl, _, rfl⟩⟩
    have I1 : Inv X pins σ (upd H s.heap.objs.size (.tup [.int (i : Nat), x])) { s with heap := h'', toks := tk + 1 } :=
      I.turnedNew (ch := [e, it]) (fun b ob hb q => (sb.2 b (fun z => hb (by simp [z]))).trans (hk b ob (fun z => hb (by simp [z])) (fun z => hb (by simp [z])) q)) hf (Nat.le_refl _) new
    refine ⟨.ref s.heap.objs.size, _, I1, rfl, ⟨_, x, rfl, I.hok.fresh (Nat.le_refl _), rfl, fun ys hy => ?_⟩, ⟨⟨z, ?_⟩, hst.1.at fun o q => (sb.2 it (Ne.symm hne)).trans q, hne, hai, hea⟩, fun b hb => ?_⟩
    · rw [I.tuple_inj hy hq]; exact hx
    · have e1 : ((i + 1 : Nat) : Int) = (i : Int) + 1 := by omega
      rw [e1]; exact he'
    · have hb' : b < s.heap.objs.size := by
        rcases (show b = e ∨ b = it by simpa using hb) with z | z
        · rw [z]; exact hel
        · rw [z]; exact hil
      rw [upd_ne (Nat.ne_of_lt hb')]
      exact (hf b hb).1
  done := by
    intro X hP hw hK hc i pins s σ H E I hf st hg
    subst hP hw hK
    obtain ⟨⟨old, he⟩, hit, hne, hai, hea⟩ := st
    obtain ⟨xs, hq, hx⟩ := hg
    obtain ⟨its, rv, p, hz⟩ := I.tuple hq
    obtain ⟨f0, f1, f2, f3, f4, f5⟩ := hf it (by simp)
    have hl := rv.length
    exact wpAny_pyNext_enum_endD (endD (A := X.A.in1) (I.ok.hd hc) it a i its.toArray (by simp; omega)) he ⟨rfl, hit, p⟩ fun h' eb => ⟨rfl, I.turned (t' := s.toks) (fun b o hb q => eb b o hb q) f0 f1 f3 f4 f5⟩
  self := fun A i s Q E st h => let ⟨⟨_, he⟩, _⟩ := st; wpAny_pyIter_enum he h
/-- enumerate over a list or a tuple -/
def iEnumA (K : PySem.W.Frag) (ta : TA) : TI := fun σ H R => ta σ H fun vs H1 => ∃ a xs, vs = [.ref a] ∧ ((SqL K H1 a xs ∧ R (Ite K a) H1) ∨ (SqT K H1 a xs ∧ R (IteT K a) H1))
theorem pi_enumA {X : Cx} {e : Expr} {ta : TA} {p pos tpos : Pos} {elts : List Expr} {kk : Nat} (hg : Gl X "enumerate") (hm : X.mg "enumerate" = none) (ha : PA X [e] ta) (hs : starEach [e] X.env = [(false, eval e X.env)] := by rfl) :
    PI X (.Tuple elts kk tpos) (.Call (.Name "enumerate" p) [e] [] pos) (iEnumA X.K ta) := by
  refine ⟨fun pins s σ H R I h => ?_⟩
  refine Call_ (ld_blt I hg hm boot_enumerate (PyProof.Rows.callWith_type1 (thn (ha.run pos pins s σ H _ I h) fun us s1 ⟨vs, H1, I1, r1, q1⟩ => ?_) hs rfl))
  obtain ⟨a, xs, rfl, q1⟩ := q1
  obtain ⟨u, rfl, ru⟩ := r1.one
  obtain rfl : u = Value.ref a := ru
  have fresh : ∀ b ∈ [s1.heap.objs.size + 1, s1.heap.objs.size], FpOk X pins H1 b := fun b hb => by
    have hle : s1.heap.objs.size ≤ b := by
      rcases (show b = s1.heap.objs.size + 1 ∨ b = s1.heap.objs.size by simpa using hb) with z | z
      · rw [z]; exact Nat.le_add_right _ _
      · rw [z]; exact Nat.le_refl _
    exact I1.fpOk hle (I1.hok.fresh hle)
  rcases q1 with ⟨hq, q⟩ | ⟨hq, q⟩
  · obtain ⟨its, rv, p', hz⟩ := I1.list hq
    refine call_enumerate_list p'.isList fun h' he hit hsz hk => wpAny_pyIter_enum he ?_
    have I2 : Inv X pins σ H1 { s1 with heap := h' } := I1.kept (t' := s1.toks) hk
    exact ⟨s1.heap.objs.size + 1, [s1.heap.objs.size + 1, s1.heap.objs.size], _, _, H1, rfl, I2, turn_enum a (s1.heap.objs.size + 1) s1.heap.objs.size, ⟨⟨.none, he⟩, hit, Nat.succ_ne_self _⟩, fresh, q⟩
  · obtain ⟨its, rv, p', hz⟩ := I1.tuple hq
    obtain ⟨o, ho, _⟩ := id p'
    have hla : a < s1.heap.objs.size := Heap.lt_size ho
    refine call_enumT p' fun h' he hit hsz hk => wpAny_pyIter_enum he ?_
    have I2 : Inv X pins σ H1 { s1 with heap := h' } := I1.kept (t' := s1.toks) hk
    exact ⟨s1.heap.objs.size + 1, [s1.heap.objs.size + 1, s1.heap.objs.size], _, _, H1, rfl, I2, turn_enumT a (s1.heap.objs.size + 1) s1.heap.objs.size, ⟨⟨.none, he⟩, hit, Nat.succ_ne_self _, Nat.ne_of_lt hla, Nat.ne_of_gt (Nat.lt_succ_of_lt hla)⟩, fresh, q⟩
/-- behind a list's last item -/
theorem endL {prog : Program} {w : World} {A : Around} (hh : A.handled = none) (it a : Addr) (i : Nat) (its : Array Value) (hx : its[i]? = none) : Draws prog w A it [it, a] i (fun _ _ => True) (fun j h => j = i ∧ h.IsListIter it a i ∧ h.IsList a its) where
  live := fun _ _ st => let ⟨o, ho, _⟩ := st.2.1; ⟨o, ho⟩
  frame := fun _ _ _ st hk => ⟨st.1, st.2.1.at fun o e => hk it (by simp) o e, st.2.2.at fun o e => hk a (by simp) o e⟩
  item := fun j _ _ _ hj st _ => absurd hj (by rw [st.1]; exact Nat.lt_irrefl _)
  done := fun _ _ _ st hE => wpAny_nextOf_list_end hh st.2.1 st.2.2 hx hE
/-- all apart -/
structure Apt (z TI TO i1 i2 a b : Addr) : Prop where
  p : ZipApart z TI TO i1 i2 a b
  n : a ≠ z ∧ a ≠ TO ∧ a ≠ i1 ∧ a ≠ i2 ∧ b ≠ z ∧ b ≠ TO ∧ b ≠ i1 ∧ b ≠ i2 ∧ i1 ≠ z ∧ i2 ≠ z ∧ i1 ≠ TO ∧ i2 ≠ TO ∧ i1 ≠ i2 ∧ TI ≠ z ∧ TO ≠ z ∧ TI ≠ TO ∧ TI ≠ i1 ∧ TI ≠ i2
theorem Apt.sep {z TI TO i1 i2 a b : Addr} (D : Apt z TI TO i1 i2 a b) : ZipSep2 z TI TO i1 i2 [i1, a] [i2, b] := by
  obtain ⟨n1, n2, n3, n4, n5, n6, n7, n8, n9, n10, n11, n12, n13, n14, n15, n16, n17, n18⟩ := D.n
  exact ⟨n14, n15, n16, n17, by simp, by simp [Ne.symm n9, Ne.symm n1], by simp [Ne.symm n11, Ne.symm n2], n18, by simp, by simp [Ne.symm n10, Ne.symm n5], by simp [Ne.symm n12, Ne.symm n6], by simp [n13, Ne.symm n7], by simp [Ne.symm n13, Ne.symm n4]⟩
theorem apt_of (n a b : Nat) (ha : a < n) (hb : b < n) : Apt (n + 4) (n + 2) (n + 3) n (n + 1) a b :=
  ⟨PySem.W.ktu_apart n a b ha hb, by refine ⟨?_, ?_, ?_, ?_, ?_, ?_, ?_, ?_, ?_, ?_, ?_, ?_, ?_, ?_, ?_, ?_, ?_, ?_⟩ <;> (show (_ : Nat) ≠ _; omega)⟩
/-- the list at a, the tuple at b: the items in new pairs -/
def ItzM (K : PySem.W.Frag) (a b : Addr) : It :=
  ⟨fun i H => ∃ (xs ys : List V) (x y : V), SqL K H a xs ∧ SqT K H b ys ∧ xs[i]? = some x ∧ ys[i]? = some y,
    fun i H v H' => ∃ T x y, v = .ref T ∧ H T = none ∧ H' = upd H T (.tup [x, y]) ∧ (∀ xs, SqL K H a xs → xs[i]? = some x) ∧ ∀ ys, SqT K H b ys → ys[i]? = some y,
    fun i H => ∃ xs ys : List V, SqL K H a xs ∧ SqT K H b ys ∧ (xs.length ≤ i ∨ ys.length ≤ i)⟩
theorem turn_zipM {P : Program} {w : World} {K : PySem.W.Frag} {elts : List Expr} {kk : Nat} {tpos : Pos} {a b z TI TO i1 i2 : Addr} (D : Apt z TI TO i1 i2 a b) :
    Turn P w K (.Tuple elts kk tpos) (ItzM K a b) [z, TI, TO, i1, i2] z (fun i h => IsZip h z TI TO .none ∧ IsTupOf2 h TI (.ref i1) (.ref i2) ∧ (∃ x y, IsTupOf2 h TO x y) ∧ h.IsListIter i1 a i ∧ h.IsTupleIter i2 b i) where
  mem := by simp
  obj := fun i h st c hc => by
    obtain ⟨hz, hTI, ⟨x, y, hTO⟩, ⟨o1, e1, _, d1⟩, ⟨o2, e2, _, d2⟩⟩ := st
    rcases (show c = z ∨ c = TI ∨ c = TO ∨ c = i1 ∨ c = i2 by simpa using hc) with q | q | q | q | q
    · rw [q]; exact ⟨_, hz, fun v q => nomatch q⟩
    · rw [q]; exact ⟨_, hTI, fun v q => nomatch q⟩
    · rw [q]; exact ⟨_, hTO, fun v q => nomatch q⟩
    · rw [q]; exact ⟨o1, e1, fun v q => by rw [d1] at q; cases q⟩
    · rw [q]; exact ⟨o2, e2, fun v q => by rw [d2] at q; cases q⟩
  keep := fun i h h' st k => by
    obtain ⟨hz, hTI, ⟨x, y, hTO⟩, h1, h2⟩ := st
    exact ⟨k z (by simp) _ hz, k TI (by simp) _ hTI, ⟨x, y, k TO (by simp) _ hTO⟩, h1.at fun o q => k i1 (by simp) o q, h2.at fun o q => k i2 (by simp) o q⟩
  item := by
    intro X hP hw hK hc i pins s σ H E I hf st hg
    subst hP hw hK
    obtain ⟨hz, hTI, ⟨x0, y0, hTO⟩, h1, h2⟩ := st
    obtain ⟨xs, ys, x, y, hqx, hqy, hx, hy⟩ := hg
    obtain ⟨its, rv, p, _⟩ := I.list hqx
    obtain ⟨its2, rv2, p2, _⟩ := I.tuple hqy
    obtain ⟨u, hu, ru⟩ := rv.get hx
    obtain ⟨u2, hu2, ru2⟩ := rv2.get hy
    obtain ⟨n1, n2, n3, n4, n5, n6, n7, n8, n9, n10, n11, n12, n13, n14, n15, n16, n17, n18⟩ := D.n
    have hzl : z < s.heap.objs.size := Heap.lt_size hz
    have lt1 : i < its.toArray.size := by have := (List.getElem?_eq_some_iff.mp hu).1; simpa using this
    have lt2 : i < its2.toArray.size := by have := (List.getElem?_eq_some_iff.mp hu2).1; simpa using this
    refine wpAny_pyNext_zipD2_item D.sep (Draws.list (A := X.A.in1) (I.ok.hd hc) i1 a n3 its.toArray) (Draws.tuple (A := X.A.in1) (I.ok.hd hc) i2 b n8 its2.toArray) hz hTI hTO ⟨h1, p.isList⟩ ⟨h2, p2⟩ lt1 lt2 fun v1 v2 h' tk q1 q2 z' TO' st1 st2 hT hsz hk => ?_
    have ev1 : v1 = u := by
      have q1 : its[i]? = some v1 := by simpa using q1
      rw [hu] at q1; exact (Option.some.inj q1).symm
    have ev2 : v2 = u2 := by
      have q2 : its2[i]? = some v2 := by simpa using q2
      rw [hu2] at q2; exact (Option.some.inj q2).symm
    subst ev1 ev2
    refine ⟨_, rfl, wpAny_letOwnedTupleGo_zip (s := { s with heap := h', toks := tk }) z' fun h'' z'' sb => ?_⟩
    have hT2 : h''.get? s.heap.objs.size = some { cls := .type "tuple", data := .seq #[v1, v2] } := (sb.2 _ (Nat.ne_of_gt hzl)).trans hT
    have new : ObjOk X.prog X.w (upd H s.heap.objs.size (.tup [x, y])) h'' s.heap.objs.size (.tup [x, y]) :=
      ⟨by show 2 ≤ sizeLine; decide, [v1, v2], .cons ru (.cons ru2 .nil), ⟨_, hT2, rfl, _, rfl⟩⟩
    have kk2 : ∀ c o, c ∉ [z, TI, TO, i1, i2] → s.heap.get? c = some o → h''.get? c = some o := fun c o hb q =>
      (sb.2 c (fun q' => hb (by simp [q']))).trans (hk c o (fun q' => hb (by simp [q'])) (fun q' => hb (by simp [q'])) (fun q' => hb (by simp [q'])) (fun q' => hb (by simp [q'])) q)
    have I1 : Inv X pins σ (upd H s.heap.objs.size (.tup [x, y])) { s with heap := h'', toks := tk } := I.turnedNew (t' := tk) (ch := [z, TI, TO, i1, i2]) kk2 hf (Nat.le_refl _) new
    refine ⟨.ref s.heap.objs.size, _, I1, rfl, ⟨_, x, y, rfl, I.hok.fresh (Nat.le_refl _), rfl, fun l hl => by rw [I.list_inj hl hqx]; exact hx, fun l hl => by rw [I.tuple_inj hl hqy]; exact hy⟩, ⟨z'', ?_, ⟨v1, v2, ?_⟩, ?_, ?_⟩, fun c hcm => ?_⟩
    · exact (sb.2 _ n14).trans (hk _ _ n14 n16 n17 n18 hTI)
    · exact (sb.2 _ n15).trans TO'
    · exact st1.1.at fun o q => (sb.2 _ n9).trans q
    · exact st2.1.at fun o q => (sb.2 _ n10).trans q
    · have hlt : c < s.heap.objs.size := by
        rcases (show c = z ∨ c = TI ∨ c = TO ∨ c = i1 ∨ c = i2 by simpa using hcm) with q | q | q | q | q
        · rw [q]; exact hzl
        · rw [q]; exact Heap.lt_size hTI
        · rw [q]; exact Heap.lt_size hTO
        · rw [q]; obtain ⟨_, e1, _⟩ := h1; exact Heap.lt_size e1
        · rw [q]; obtain ⟨_, e2, _⟩ := h2; exact Heap.lt_size e2
      rw [upd_ne (Nat.ne_of_lt hlt)]
      exact (hf c hcm).1
  done := by
    intro X hP hw hK hc i pins s σ H E I hf st hg
    subst hP hw hK
    obtain ⟨hz, hTI, ⟨x0, y0, hTO⟩, h1, h2⟩ := st
    obtain ⟨xs, ys, hqx, hqy, hend⟩ := hg
    obtain ⟨its, rv, p, _⟩ := I.list hqx
    obtain ⟨its2, rv2, p2, _⟩ := I.tuple hqy
    have l1 := rv.length
    have l2 := rv2.length
    obtain ⟨n1, n2, n3, n4, n5, n6, n7, n8, n9, n10, n11, n12, n13, n14, n15, n16, n17, n18⟩ := D.n
    have fin := fun (h' : Heap) (tk : Nat) (hk : ∀ c o, c ≠ z → c ≠ TO → c ≠ i1 → c ≠ i2 → s.heap.get? c = some o → h'.get? c = some o) =>
      I.turnedL (t' := tk) (ch := [z, TI, TO, i1, i2]) (fun c o hb q => hk c o (fun q' => hb (by simp [q'])) (fun q' => hb (by simp [q'])) (fun q' => hb (by simp [q'])) (fun q' => hb (by simp [q'])) q) hf
    by_cases c1 : xs.length ≤ i
    · have x1 : its.toArray[i]? = none := by simp; omega
      by_cases c2 : ys.length ≤ i
      · have x2 : its2.toArray[i]? = none := by simp; omega
        exact wpAny_pyNext_zipD2_end D.sep (endL (A := X.A.in1) (I.ok.hd hc) i1 a i its.toArray x1) (endD (A := X.A.in1) (I.ok.hd hc) i2 b i its2.toArray x2) hz hTI hTO ⟨rfl, h1, p.isList⟩ ⟨rfl, h2, p2⟩ (Nat.le_refl _) (Nat.le_refl _) (.inl rfl) fun h' tk hk => ⟨rfl, fin h' tk hk⟩
      · exact wpAny_pyNext_zipD2_end D.sep (endL (A := X.A.in1) (I.ok.hd hc) i1 a i its.toArray x1) (Draws.tuple (A := X.A.in1) (I.ok.hd hc) i2 b n8 its2.toArray) hz hTI hTO ⟨rfl, h1, p.isList⟩ ⟨h2, p2⟩ (Nat.le_refl _) (by simp; omega) (.inl rfl) fun h' tk hk => ⟨rfl, fin h' tk hk⟩
    · have c2 : ys.length ≤ i := hend.resolve_left c1
      have x2 : its2.toArray[i]? = none := by simp; omega
      exact wpAny_pyNext_zipD2_end D.sep (Draws.list (A := X.A.in1) (I.ok.hd hc) i1 a n3 its.toArray) (endD (A := X.A.in1) (I.ok.hd hc) i2 b i its2.toArray x2) hz hTI hTO ⟨h1, p.isList⟩ ⟨rfl, h2, p2⟩ (by simp; omega) (Nat.le_refl _) (.inr rfl) fun h' tk hk => ⟨rfl, fin h' tk hk⟩
  self := fun A i s Q E st h => wpAny_pyIter_zip st.1 h
/-- zip over lists, tuples, or a list and a tuple -/
def iZipM (K : PySem.W.Frag) (ta : TA) : TI := fun σ H R => ta σ H fun vs H1 => ∃ a b xs ys, vs = [.ref a, .ref b] ∧ ((SqL K H1 a xs ∧ SqL K H1 b ys ∧ R (Itz K a b) H1) ∨ (SqT K H1 a xs ∧ SqT K H1 b ys ∧ R (RZ.ItzT K a b) H1) ∨ (SqL K H1 a xs ∧ SqT K H1 b ys ∧ R (ItzM K a b) H1))
theorem pi_zipM {X : Cx} {e e2 : Expr} {ta : TA} {p pos tpos : Pos} {elts : List Expr} {kk : Nat} (hg : Gl X "zip") (hm : X.mg "zip" = none) (ha : PA X [e, e2] ta)
    (hs : starEach [e, e2] X.env = (false, eval e X.env) :: starEach [e2] X.env := by rfl) (hpl : (backTo pos (starEach [e2] X.env)).any (·.1) = false := by rfl) :
    PI X (.Tuple elts kk tpos) (.Call (.Name "zip" p) [e, e2] [] pos) (iZipM X.K ta) := by
  refine ⟨fun pins s σ H R I h => ?_⟩
  refine Call_ (ld_blt I hg hm PyProof.Rows.boot_zip (PyProof.Rows.callWith_type1 (thn (ha.run pos pins s σ H _ I h) fun us s1 ⟨vs, H1, I1, r1, q1⟩ => ?_) hs hpl))
  obtain ⟨a, b, xs, ys, rfl, q1⟩ := q1
  obtain ⟨u, v, rfl, ru, rv⟩ := vals2 r1
  obtain rfl : u = Value.ref a := ru
  obtain rfl : v = Value.ref b := rv
  have fresh : ∀ c ∈ [s1.heap.objs.size + 4, s1.heap.objs.size + 2, s1.heap.objs.size + 3, s1.heap.objs.size, s1.heap.objs.size + 1], FpOk X pins H1 c := fun c hcm => by
    have hle : s1.heap.objs.size ≤ c := by
      rcases (show c = s1.heap.objs.size + 4 ∨ c = s1.heap.objs.size + 2 ∨ c = s1.heap.objs.size + 3 ∨ c = s1.heap.objs.size ∨ c = s1.heap.objs.size + 1 by simpa using hcm) with z | z | z | z | z <;> rw [z] <;> first | exact Nat.le_refl _ | exact Nat.le_add_right _ _
    exact I1.fpOk hle (I1.hok.fresh hle)
  rcases q1 with ⟨hqx, hqy, q⟩ | ⟨hqx, hqy, q⟩ | ⟨hqx, hqy, q⟩
  · obtain ⟨its, rv, p1, _⟩ := I1.list hqx
    obtain ⟨its2, rv2, p2, _⟩ := I1.list hqy
    refine call_zip_2 p1.isList p2.isList fun h' hz hTI hTO h1 h2 hsz hk => wpAny_pyIter_zip hz ?_
    have I2 : Inv X pins σ H1 { s1 with heap := h' } := I1.kept (t' := s1.toks) hk
    exact ⟨_, [_, s1.heap.objs.size + 2, s1.heap.objs.size + 3, s1.heap.objs.size, s1.heap.objs.size + 1], _, _, H1, rfl, I2, turn_zip (PySem.W.ktu_apart s1.heap.objs.size a b p1.lt p2.lt), ⟨hz, hTI, ⟨_, _, hTO⟩, h1, h2⟩, fresh, q⟩
  · obtain ⟨its, rv, p1, _⟩ := I1.tuple hqx
    obtain ⟨its2, rv2, p2, _⟩ := I1.tuple hqy
    obtain ⟨o1, ho1, _⟩ := id p1
    obtain ⟨o2, ho2, _⟩ := id p2
    refine RZ.call_zipT (show s1.heap.IsTuple a its.toArray from p1) (show s1.heap.IsTuple b its2.toArray from p2) fun h' hz hTI hTO h1 h2 hsz hk => wpAny_pyIter_zip hz ?_
    have I2 : Inv X pins σ H1 { s1 with heap := h' } := I1.kept (t' := s1.toks) hk
    exact ⟨_, [_, s1.heap.objs.size + 2, s1.heap.objs.size + 3, s1.heap.objs.size, s1.heap.objs.size + 1], _, _, H1, rfl, I2, RZ.turn_zipT (PySem.W.ktu_apart s1.heap.objs.size a b (Heap.lt_size ho1) (Heap.lt_size ho2)), ⟨hz, hTI, ⟨_, _, hTO⟩, h1, h2⟩, fresh, q⟩
  · obtain ⟨its, rv, p1, _⟩ := I1.list hqx
    obtain ⟨its2, rv2, p2, _⟩ := I1.tuple hqy
    obtain ⟨o2, ho2, _⟩ := id p2
    refine zip_begins2 (begins_list a its.toArray) (begins_tuple b its2.toArray) p1.isList (show s1.heap.IsTuple b its2.toArray from p2) fun h' hz hTI hTO g1 g2 hsz hk => wpAny_pyIter_zip hz ?_
    have I2 : Inv X pins σ H1 { s1 with heap := h' } := I1.kept (t' := s1.toks) hk
    exact ⟨_, [_, s1.heap.objs.size + 2, s1.heap.objs.size + 3, s1.heap.objs.size, s1.heap.objs.size + 1], _, _, H1, rfl, I2, turn_zipM (apt_of s1.heap.objs.size a b p1.lt (Heap.lt_size ho2)), ⟨hz, hTI, ⟨_, _, hTO⟩, ⟨_, g1, rfl, rfl⟩, ⟨_, g2, rfl, rfl⟩⟩, fresh, q⟩
end Dp
end

section
set_option Elab.async false
set_option linter.all false
set_option maxRecDepth 100000
set_option maxHeartbeats 4000000
/-! DpT: a tuple, once or not at all. -/
namespace L2
open PySem PySem.Spec PyProof.Rows
theorem tuple_mulOne (l : Addr) (items : Array Value) (n : Nat) (dd : Option Addr) (sl : Array (Option Value)) (u : Tok) :
    Meets (Builtin.«tuple.__mul__» ⟨[.ref l, .int 1 u], []⟩) (fun _ R s => s.heap.get? l = some { cls := .type "tuple", dict := dd, data := .seq items n, slots := sl } ∧
      R (.ok (.ret (Value.ref l))) s) :=
  .of_wp fun prog w A R s h => by
    obtain ⟨hp, g, d, tk, os⟩ := s
    obtain ⟨hl, h⟩ := h
    have f1 := AutoSeq1.idx_int
    have c1 : (items.isEmpty || (1 : Int) == 1) = true := by simp
    wp_walk using wpAny_loadPart' hl
    repeat (first
      | (refine wpAny_ite_true (by simp) ?_; wp_walk using wpAny_loadPart' hl)
      | (refine wpAny_ite_false (by simp) ?_; wp_walk using wpAny_loadPart' hl))
    exact ⟨_, rfl, h⟩
theorem tuple_mulZero (l : Addr) (items : Array Value) (n : Nat) (dd : Option Addr) (sl : Array (Option Value)) (u : Tok) (hi : items.isEmpty = false) :
    Meets (Builtin.«tuple.__mul__» ⟨[.ref l, .int 0 u], []⟩) (fun _ R s => s.heap.get? l = some { cls := .type "tuple", dict := dd, data := .seq items n, slots := sl } ∧
      R (.ok (.ret (Value.ref s.heap.objs.size))) { s with heap := s.heap.push { cls := Value.type "tuple", data := Data.seq #[] }, toks := s.toks }) :=
  .of_wp fun prog w A R s h => by
    obtain ⟨hp, g, d, tk, os⟩ := s
    obtain ⟨hl, h⟩ := h
    have f1 := AutoSeq1.idx_int
    wp_walk using wpAny_loadPart' hl
    repeat (first
      | (refine wpAny_ite_false (by simp [hi]) ?_; wp_walk using wpAny_loadPart' hl)
      | (refine wpAny_ite_true (by simp [hi]) ?_; wp_walk using wpAny_loadPart' hl))
    exact ⟨_, rfl, h⟩
def rRepS (K : PySem.W.Frag) : R2 := fun x y H Q => ∃ l k xs, x = .ref l ∧ y = .int k ∧ SqT K H l xs ∧ xs ≠ [] ∧ ((k = 1 ∧ Q (.ref l) H) ∨ (k = 0 ∧ ∀ p, H p = none → Q (.ref p) (upd H p (.tup []))))
section
variable {X : Cx}
theorem op_repS : OpR X (binaryOp .Mult) (rRepS X.K) := by
  intro pins s σ H x y v u Q I rx ry h
  obtain ⟨l, k, xs, rfl, rfl, hT, hne, q⟩ := h
  cases rx
  obtain ⟨t, rfl⟩ := ry
  obtain ⟨its, r, ⟨⟨cls, dd, data, sl⟩, ho, hc, n, hd⟩, hs⟩ := I.tuple hT
  simp only at hc hd
  subst hc hd
  have hle : its.length = xs.length := r.length.symm
  have hn : its ≠ [] := fun e => hne (by
    rw [e] at hle
    exact List.eq_nil_of_length_eq_zero hle.symm)
  have hi : its.toArray.isEmpty = false := by
    cases its with
    | nil => exact absurd rfl hn
    | cons a b => rfl
  rcases q with ⟨rfl, q⟩ | ⟨rfl, q⟩
  · refine wpAny_binaryOp_repeat_ref (T := "tuple") (U := "int") (by decide) ⟨_, ho, rfl⟩ (fun s' => typeIs_int s' 1 t) noFill_tuple_mul F.fills_int_mul F.slot_int_rmul repeat_tuple F.slot_int_index.lookup
      (call_meets F.slot_int_rmul (typeIs_int s 1 t) F.entry_int_rmul (F.args_int_rmul_2 _ _) (int_rmul_tuple 1 t l its.toArray n dd sl)
        ⟨ho, rfl, ⟨_, ho, rfl⟩, call_meets F.slot_tuple_mul ⟨_, ho, rfl⟩ F.entry_tuple_mul (F.args_tuple_mul_2 _ _) (tuple_mulOne l its.toArray n dd sl t) ⟨ho, ?_⟩⟩)
    exact ⟨.ref l, H, I, rfl, q⟩
  · refine wpAny_binaryOp_repeat_ref (T := "tuple") (U := "int") (by decide) ⟨_, ho, rfl⟩ (fun s' => typeIs_int s' 0 t) noFill_tuple_mul F.fills_int_mul F.slot_int_rmul repeat_tuple F.slot_int_index.lookup
      (call_meets F.slot_int_rmul (typeIs_int s 0 t) F.entry_int_rmul (F.args_int_rmul_2 _ _) (int_rmul_tuple 0 t l its.toArray n dd sl)
        ⟨ho, rfl, ⟨_, ho, rfl⟩, call_meets F.slot_tuple_mul ⟨_, ho, rfl⟩ F.entry_tuple_mul (F.args_tuple_mul_2 _ _) (tuple_mulZero l its.toArray n dd sl t hi) ⟨ho, ?_⟩⟩)
    refine ⟨.ref s.heap.objs.size, _, I.laid (t' := s.toks) (o := .tup []) (fun b ob q => Heap.get?_push_of_some _ q) (Nat.le_refl _) ?_, rfl, q _ (I.hok.fresh (Nat.le_refl _))⟩
    exact ⟨Nat.zero_le _, _, .nil, IsTup.new _ _⟩
end
end L2
end

section
set_option Elab.async false
set_option linter.all false
set_option maxRecDepth 100000
set_option maxHeartbeats 4000000
/-! DpU: sorted over a tuple of ints. -/
namespace SrtO
open PySem PySem.Spec PyProof.Rows L2
section
variable {prog : Program} {w : World} {A : Around} {E : Value → Shared → Prop} {s : Shared}
theorem collect_tupD {l : Addr} {vs : List Value} {o : Obj} {n : Nat} {Q : List Value → Shared → Prop} (ho : s.heap.get? l = some o) (hc : o.cls = .type "tuple") (hd : o.data = .seq vs.toArray n)
    (h : Q vs { s with heap := (s.heap.push (seqObj "list" #[] 0)).update s.heap.objs.size (Obj.mapSeq (· ++ vs.toArray)) }) (hsz : vs.length ≤ sizeLine) :
    wpAny (model prog w) A (collect (.ref l)) Q E s := by
  unfold collect
  refine wpAny_bind (wpAny_runValue (codeAny_builtin entry_proto_collect' ?_))
  show wpAny _ _ (do again (.builtin "list.__iadd__" ⟨[← newList [], .ref l], []⟩)) _ _ s
  refine wpAny_bind (wpAny_newList (wpAny_pure ⟨Code.quiet_builtin _ (by decide +kernel), codeAny_builtin entry_list_iadd' ?_⟩))
  show wpAny _ _ (Builtin.List.listExtendWith (.ref s.heap.objs.size) (.ref l) (.ref s.heap.objs.size)) _ _ { s with heap := s.heap.push (seqObj "list" #[] 0) }
  unfold Builtin.List.listExtendWith
  have ho' : (s.heap.push (seqObj "list" #[] 0)).get? l = some o := Heap.get?_push_of_some _ ho
  refine wpAny_bind (wpAny_typeOf (T := "tuple") ⟨o, ho', hc⟩ ?_)
  have ht : (Value.type "tuple" == Value.type "tuple") = true := by rfl
  rw [if_pos (by rw [ht]; simp)]
  refine wpAny_bind (listItems_at ho' hd ?_)
  refine wpAny_bind (listItems_at (xs := #[]) (n := 0) (Heap.get?_push_size _ rfl) rfl ?_)
  rw [if_neg (by simp)]
  refine wpAny_bind (listUpdate_at (xs := #[]) (n := 0) (Heap.get?_push_size _ rfl) rfl ?_ (Nat.zero_le _) (by show (#[] ++ vs.toArray).size ≤ sizeLine + 1; simp only [Array.size_append, List.size_toArray, List.length_nil]; omega))
  refine wpAny_pure ?_
  show wpAny (model prog w) A (do
      let o ← load s.heap.objs.size
      match o.data with
      | .seq xs _ => pure xs.toList
      | _ => unsupported "internal:collect") Q E { s with heap := (s.heap.push (seqObj "list" #[] 0)).update s.heap.objs.size (Obj.mapSeq (· ++ vs.toArray)) }
  refine wpAny_bind (wpAny_load (get?_update_seq (Heap.get?_push_size _ rfl) _) ?_)
  show wpAny _ _ (pure ((#[] : Array Value) ++ vs.toArray).toList) Q E _
  rw [show ((#[] : Array Value) ++ vs.toArray).toList = vs by simp]
  exact wpAny_pure h
theorem sorted_ordT {l : Addr} {vs : List Value} {o : Obj} {n : Nat} {ltv : Value → Value → Bool} {Q : Value → Shared → Prop} (O : Swo ltv) (ho : s.heap.get? l = some o) (hc : o.cls = .type "tuple") (hd : o.data = .seq vs.toArray n) (hz : vs.length ≤ sizeLine)
    (hS : 2 ≤ vs.length → ∀ (h₁ : Heap) (a : Addr), h₁.get? a = some (seqObj "list" vs.toArray 0) → (∀ b o, s.heap.get? b = some o → b ≠ a ∧ h₁.get? b = some o) → SortableO prog w A.in1.in1 { s with heap := h₁ } a vs ltv)
    (h : ∀ out : List Value, Srtd ltv out → Stb ltv out vs → Q (.ref (s.heap.objs.size + 1)) { s with heap := sortedAll s.heap vs out.toArray }) :
    wpAny (model prog w) A (call (.builtin "sorted") [.ref l]) Q E s := by
  refine Calls.call_function_entry kind_sorted plain_sorted entry_sorted (args_sorted1 _) ?_
  unfold Builtin.«sorted»
  refine wpAny_bind (m := checkCount "sorted" 1 1 _) (wpAny_pure ?_)
  refine wpAny_bind (collect_tupD ho hc hd ?_ hz)
  refine wpAny_bind (wpAny_newList ?_ hz)
  have hsz : ((s.heap.push (seqObj "list" #[] 0)).update s.heap.objs.size (Obj.mapSeq (· ++ vs.toArray))).objs.size = s.heap.objs.size + 1 := by
    rw [Heap.size_update, size_push']
  have hoL : (((s.heap.push (seqObj "list" #[] 0)).update s.heap.objs.size (Obj.mapSeq (· ++ vs.toArray))).push (seqObj "list" vs.toArray 0)).get? (s.heap.objs.size + 1) = some (seqObj "list" vs.toArray 0) := by
    rw [← hsz]; exact Heap.get?_push_size _ rfl
  have keep : ∀ b o, s.heap.get? b = some o → b ≠ s.heap.objs.size + 1 ∧ (((s.heap.push (seqObj "list" #[] 0)).update s.heap.objs.size (Obj.mapSeq (· ++ vs.toArray))).push (seqObj "list" vs.toArray 0)).get? b = some o := fun b o q => by
    have hlt : b < s.heap.objs.size := Heap.lt_size q
    refine ⟨Nat.ne_of_lt (Nat.lt_succ_of_lt hlt), Heap.get?_push_of_some _ ?_⟩
    rw [Heap.get?_update_ne _ _ _ _ (Nat.ne_of_lt hlt)]
    exact Heap.get?_push_of_some _ q
  show wpAny _ _ _ _ _ { s with heap := ((s.heap.push (seqObj "list" #[] 0)).update s.heap.objs.size (Obj.mapSeq (· ++ vs.toArray))).push (seqObj "list" vs.toArray 0) }
  rw [hsz]
  refine wpAny_bind (wpAny_holding (wpAny_call_entry slot_list_sort ⟨_, hoL, rfl⟩ entry_list_sort (list_sort_ord O hoL hz (fun h2 => hS h2 _ _ hoL keep) fun out hs hb => ⟨_, rfl, ?_⟩) (args_list_sort _)))
  exact wpAny_pure ⟨_, rfl, h out hs hb⟩
end
end SrtO
namespace L2
open PySem PySem.Spec PyProof.Rows
def rSortedIT (K : PySem.W.Frag) : List V → Hp → VK → Prop := fun vs H Q => ∃ (a : Addr) (ns : List Int), vs = [V.ref a] ∧ SqT K H a (ns.map V.int) ∧
  ∀ (ns' : List Int) (p : Addr), ns'.Perm ns → ns'.Pairwise (· ≤ ·) → H p = none → Q (.ref p) (upd H p (.lst (ns'.map V.int)))
section
variable {X : Cx}
theorem cr_sortedIT : CallR X (.builtin "sorted") (rSortedIT X.K) := by
  intro pins s σ H vs us Q I r h
  obtain ⟨a, ns, rfl, hs, q⟩ := h
  obtain ⟨its, rv, ⟨⟨cls, dd, data, sl⟩, ho, hc, n, hd⟩, hz⟩ := I.tuple hs
  simp only at hc hd
  rw [Vals.ref1 r]
  have hi := rv.ints
  have hz' : its.length ≤ sizeLine := by rw [← rv.length]; exact hz
  refine SrtO.sorted_ordT SrtO.swo_int ho hc hd hz' (fun h2 h₁ a' _ _ => SrtO.ints_sortable hi h2) fun out h1 h2 => ?_
  obtain ⟨k1, k2, k3⟩ := SrtO.ints_out hi h1 h2
  obtain ⟨ep, he'⟩ := PyProof.Rows.sortedAll_at s.heap its out.toArray
  have hlen : ((out.map SrtO.iv).map V.int).length ≤ sizeLine := by
    rw [List.length_map, k2.length_eq]
    rw [List.length_map] at hz
    exact hz
  exact ⟨.ref _, upd H (s.heap.objs.size + 1) (.lst ((out.map SrtO.iv).map V.int)), I.laid (t' := s.toks) (fun _ _ => PyProof.Rows.sortedAll_old) (Nat.le_succ _) ⟨hlen, out, ep, vals_of_ints k1, he'⟩, rfl, q _ _ k2 k3 (I.hok.fresh (Nat.le_succ _))⟩
end
end L2
end

section
set_option maxHeartbeats 4000000
set_option Elab.async false
set_option linter.all false
set_option maxRecDepth 100000
/-! Dp0: plain data, runs that may ask for draws, small terms and what they come to. No program in sight. -/
namespace Dp
open PySem

inductive Ty where
  | none | int | bool | str | tuple | list | dict | cls (c : Nat) | exc (c : Nat) | valueError
  deriving DecidableEq
inductive BI where
  | len | sum | min | max | abs | int | all | any | repr | tuple | list | sorted
  deriving DecidableEq
inductive Tg where
  | n (i : Nat) | t (l : List Tg)
/-- constants of a text -/
inductive Cst where
  | non | bl (b : Bool) | int (i : Int) | str (x : Str)
/-! ### terms -/
mutual
inductive E where
  | c (k : Cst) | g (i : Nat) | gf (f : Nat) | v (i : Nat) | b (i : Nat)
  | tup (l : EL) | lst (l : EL) | dct
  | op (o : Operator) (a b : E) | neg (a : E) | cmp (o : CmpOp) (a b : E) | cmp2 (o p : CmpOp) (a b c : E)
  | and1 (a : E) | and (a r : E) | or1 (a : E) | or (a r : E) | not (a : E) | ite (c a b : E)
  | ix (a i : E) | sl (a : E) (lo hi : EO)
  | lc (own : List (Str × Nat)) (t : Tg) (s : Src) (c : EO) (e : E)
  | call (f : Nat) (l : EL) | callk (f : Nat) (l : EL) (ks : KL) (p : List Nat)
  | bi (b : BI) (l : EL) | seqR (tu : Bool) (s : Src) | isi (a : E) (t : Ty) | fld (a : E) (x : Str)
  | lam (e : E) | cau (a : E)
  | stv (i : Nat) | stnx (i : Nat) (e : E) | no | cv (i : Nat) (fs : List Nat) (l : EL)
  | rev (a : E) | idx (i : Nat) (e : E)
  | lc2 (own : List (Str × Nat)) (t : Tg) (s : Src) (t2 : Tg) (s2 : Src) (c : EO) (e : E)
inductive EL where
  | nil | cons (e : E) (l : EL)
inductive KL where
  | nil | cons (x : Str) (e : E) (l : KL)
inductive EO where
  | no | e (e : E)
inductive Src where
  | e (a : E) | rng1 (a : E) | rng2 (a b : E) | enum (a : E) | zip (a b : E) | stc (i : Nat)
end
mutual
inductive S where
  | set (i : Nat) (o : Bool) (e : E) | par (l : List (Nat × Bool)) (es : EL) | unp (t : List Tg) (e : E)
  | app (i : Nat) (e : E) | ife (c : E) (a b : SL) | for (t : Tg) (s : Src) (b : SL) | wh (c : E) (b : SL)
  | ret (e : E) | reto (i : Nat) | ex (e : E) | raise (c : Nat) (l : EL) | brk | cont
  | stw (i : Nat) (e : E) | tick (i t f : Nat) | sto (i : Nat) (a e : E) | pop (i j : Nat) (e : E) | sett (i : Nat) (e : E)
inductive SL where
  | nil | cons (s : S) (l : SL)
end
/-! ### how many calls a term makes at most, in calls of one cost -/
def lim : Nat := 1000000
/-- the turns of a while -/
def wturn : Nat := 1000000
def lcap : Nat := 10 ^ 40
mutual
def wE : E → Nat
  | .tup l => wL l
  | .lst l => wL l
  | .op _ a b => wE a + wE b
  | .neg a => wE a
  | .cmp _ a b => wE a + (wE b + 1)
  | .cmp2 _ _ a b c => wE a + (wE b + wE c)
  | .and1 a => wE a
  | .and a r => wE a + wE r
  | .or1 a => wE a
  | .or a r => wE a + wE r
  | .not a => wE a
  | .ite c a b => wE c + (wE a + wE b)
  | .ix a i => wE a + wE i
  | .sl a lo hi => wE a + (wO lo + wO hi)
  | .lc _ _ s c e => wI s + lim * (wO c + wE e)
  | .call _ l => wL l + 1
  | .callk _ l ks _ => wL l + (wK ks + 1)
  | .bi _ l => wL l
  | .seqR _ s => wI s
  | .isi a _ => wE a
  | .fld a _ => wE a
  | .cau a => wE a + lcap
  | .cv _ _ l => wL l + 1
  | .rev a => wE a
  | .idx _ a => wE a
  | .lc2 _ _ s _ s2 c e => wI s + 1000 * (wI s2 + 1000 * (wO c + wE e))
  | .stnx _ e => wE e
  | _ => 0
def wL : EL → Nat
  | .nil => 0
  | .cons e l => wE e + wL l
def wK : KL → Nat
  | .nil => 0
  | .cons _ e l => wE e + wK l
def wO : EO → Nat
  | .no => 0
  | .e e => wE e
def wI : Src → Nat
  | .e a => wE a
  | .rng1 a => wE a
  | .rng2 a b => wE a + wE b
  | .enum a => wE a
  | .zip a b => wE a + wE b
  | .stc _ => 0
end
mutual
def wS : S → Nat
  | .set _ _ e => wE e
  | .par _ es => wL es
  | .unp _ e => wE e
  | .app _ e => wE e
  | .ife c a b => wE c + (wSL a + wSL b)
  | .for _ s b => wI s + lim * wSL b
  | .wh c b => wturn * (wE c + wSL b)
  | .ret e => wE e
  | .reto _ => 0
  | .ex e => wE e
  | .raise _ l => wL l
  | .brk => 0
  | .cont => 0
  | .stw _ e => wE e
  | .tick _ _ _ => 1
  | .sto _ a e => wE e + wE a
  | .pop _ _ e => wE e
  | .sett _ e => wE e
def wSL : SL → Nat
  | .nil => 0
  | .cons s l => wS s + wSL l
end
inductive D where
  | non | bl (b : Bool) | int (i : Int) | str (x : Str) | tup (l : List D) | lst (l : List D) | dct
  | ins (c : Nat) (l : List D) | exc (c : Nat) (l : List D) | fn (f : Nat) | st | scr (n : Nat) | lm (e : E)
def Cst.d : Cst → D
  | .non => .non
  | .bl b => .bl b
  | .int i => .int i
  | .str x => .str x

/-- a run: it ends with a value, raises, goes wrong, asks for a number below n, or goes on with any whole numbers -/
inductive T (α : Type) where
  | ret (a : α) | exc (c : Nat) (l : List D) | bad | draw (n : Nat) (k : Nat → T α) | any (k : List Int → T α)

namespace T
def bind {α β : Type} : T α → (α → T β) → T β
  | .ret a, f => f a
  | .exc c l, _ => .exc c l
  | .bad, _ => .bad
  | .draw n k, f => .draw n fun r => bind (k r) f
  | .any k, f => .any fun r => bind (k r) f
/-- nothing may be raised -/
def nox {α : Type} : T α → T α
  | .ret a => .ret a
  | .exc _ _ => .bad
  | .bad => .bad
  | .draw n k => .draw n fun r => nox (k r)
  | .any k => .any fun r => nox (k r)
/-- what is raised as a value, None where nothing is -/
def caught (ok : Nat → Bool) : T D → T D
  | .ret _ => .ret .non
  | .exc c l => if ok c = true then .ret (.exc c l) else .bad
  | .bad => .bad
  | .draw n k => .draw n fun r => caught ok (k r)
  | .any k => .any fun r => caught ok (k r)
/-- the sizes that may be drawn below -/
def most : Nat := 2 ^ 200
/-- whatever is drawn; at most c draws -/
def wp {α : Type} : Nat → T α → (Nat → α → Prop) → (Nat → Nat → List D → Prop) → Prop
  | c, .ret a, Q, _ => Q c a
  | c, .exc e l, _, E => E c e l
  | _, .bad, _, _ => False
  | c, .draw n k, Q, E => 0 < c ∧ 0 < n ∧ n < most ∧ ∀ r, r < n → wp (c - 1) (k r) Q E
  | c, .any k, Q, E => ∀ l, wp c (k l) Q E
def need {α : Type} (b : Bool) (t : T α) : T α := if b = true then t else .bad

theorem wp_bind {α β : Type} {f : α → T β} {Q : Nat → β → Prop} {E : Nat → Nat → List D → Prop} : ∀ {c : Nat} {t : T α}, wp c (t.bind f) Q E ↔ wp c t (fun c a => wp c (f a) Q E) E
  | c, .ret a => Iff.rfl
  | c, .exc _ _ => Iff.rfl
  | c, .bad => Iff.rfl
  | c, .draw n k => by
    show (0 < c ∧ 0 < n ∧ n < most ∧ ∀ r, r < n → wp (c - 1) ((k r).bind f) Q E) ↔ (0 < c ∧ 0 < n ∧ n < most ∧ ∀ r, r < n → wp (c - 1) (k r) _ E)
    exact ⟨fun ⟨z, a, b, c⟩ => ⟨z, a, b, fun r h => wp_bind.mp (c r h)⟩, fun ⟨z, a, b, c⟩ => ⟨z, a, b, fun r h => wp_bind.mpr (c r h)⟩⟩
  | c, .any k => by
    show (∀ l, wp c ((k l).bind f) Q E) ↔ ∀ l, wp c (k l) _ E
    exact ⟨fun h l => wp_bind.mp (h l), fun h l => wp_bind.mpr (h l)⟩
theorem wp_mono {α : Type} {Q Q' : Nat → α → Prop} {E E' : Nat → Nat → List D → Prop} (hQ : ∀ c a, Q c a → Q' c a) (hE : ∀ k c l, E k c l → E' k c l) : ∀ {c : Nat} {t : T α}, wp c t Q E → wp c t Q' E'
  | c, .ret a, h => hQ c a h
  | c, .exc e l, h => hE c e l h
  | c, .bad, h => h
  | c, .draw n k, ⟨z, a, b, d⟩ => ⟨z, a, b, fun r h => wp_mono hQ hE (d r h)⟩
  | c, .any k, h => fun l => wp_mono hQ hE (h l)
theorem wp_nox {α : Type} {Q : Nat → α → Prop} {E : Nat → Nat → List D → Prop} : ∀ {c : Nat} {t : T α}, wp c t.nox Q E → wp c t Q fun _ _ _ => False
  | c, .ret a, h => h
  | c, .exc e l, h => h.elim
  | c, .bad, h => h
  | c, .draw n k, ⟨z, a, b, d⟩ => ⟨z, a, b, fun r h => wp_nox (d r h)⟩
  | c, .any k, h => fun l => wp_nox (h l)
theorem wp_need {α : Type} {c : Nat} {b : Bool} {t : T α} {Q : Nat → α → Prop} {E : Nat → Nat → List D → Prop} : wp c (need b t) Q E ↔ b = true ∧ wp c t Q E := by
  unfold need
  cases b <;> simp [wp]
theorem wp_caught {ok : Nat → Bool} {Q : Nat → D → Prop} {E : Nat → Nat → List D → Prop} : ∀ {c : Nat} {t : T D}, wp c (t.caught ok) Q E → wp c t (fun k _ => Q k .non) fun k c l => ok c = true ∧ Q k (.exc c l)
  | c, .ret a, h => h
  | c, .exc e l, h => by
    unfold caught at h
    split at h
    · rename_i z; exact ⟨z, h⟩
    · exact h.elim
  | c, .bad, h => h
  | c, .draw n k, ⟨z, a, b, d⟩ => ⟨z, a, b, fun r h => wp_caught (d r h)⟩
  | c, .any k, h => fun l => wp_caught (h l)

/-! ### the same, draws not counted; how many there are -/
def ok {α : Type} : T α → (α → Prop) → (Nat → List D → Prop) → Prop
  | .ret a, Q, _ => Q a
  | .exc c l, _, E => E c l
  | .bad, _, _ => False
  | .draw n k, Q, E => 0 < n ∧ n < most ∧ ∀ r, r < n → ok (k r) Q E
  | .any k, Q, E => ∀ l, ok (k l) Q E
theorem ok_bind {α β : Type} {f : α → T β} {Q : β → Prop} {E : Nat → List D → Prop} : ∀ {t : T α}, ok (t.bind f) Q E ↔ ok t (fun a => ok (f a) Q E) E
  | .ret a => Iff.rfl
  | .exc _ _ => Iff.rfl
  | .bad => Iff.rfl
  | .draw n k => by
    show (0 < n ∧ n < most ∧ ∀ r, r < n → ok ((k r).bind f) Q E) ↔ (0 < n ∧ n < most ∧ ∀ r, r < n → ok (k r) _ E)
    exact ⟨fun ⟨a, b, c⟩ => ⟨a, b, fun r h => ok_bind.mp (c r h)⟩, fun ⟨a, b, c⟩ => ⟨a, b, fun r h => ok_bind.mpr (c r h)⟩⟩
  | .any k => by
    show (∀ l, ok ((k l).bind f) Q E) ↔ ∀ l, ok (k l) _ E
    exact ⟨fun h l => ok_bind.mp (h l), fun h l => ok_bind.mpr (h l)⟩
theorem ok_mono {α : Type} {Q Q' : α → Prop} {E E' : Nat → List D → Prop} (hQ : ∀ a, Q a → Q' a) (hE : ∀ c l, E c l → E' c l) : ∀ {t : T α}, ok t Q E → ok t Q' E'
  | .ret a, h => hQ a h
  | .exc c l, h => hE c l h
  | .bad, h => h
  | .draw n k, ⟨a, b, c⟩ => ⟨a, b, fun r h => ok_mono hQ hE (c r h)⟩
  | .any k, h => fun l => ok_mono hQ hE (h l)
/-- at most c draws on every road -/
def few {α : Type} : T α → Nat → Prop
  | .draw n k, c => 0 < c ∧ ∀ r, r < n → few (k r) (c - 1)
  | .any k, c => ∀ l, few (k l) c
  | _, _ => True
theorem few_mono {α : Type} : ∀ {t : T α} {c d : Nat}, few t c → c ≤ d → few t d
  | .ret _, _, _, _, _ => trivial
  | .exc _ _, _, _, _, _ => trivial
  | .bad, _, _, _, _ => trivial
  | .draw n k, c, d, ⟨a, b⟩, h => ⟨by omega, fun r hr => few_mono (b r hr) (by omega)⟩
  | .any k, c, d, b, h => fun l => few_mono (b l) h
theorem few_bind {α β : Type} {f : α → T β} {b : Nat} (hf : ∀ a, few (f a) b) : ∀ {t : T α} {a : Nat}, few t a → few (t.bind f) (a + b)
  | .ret x, a, _ => few_mono (hf x) (by omega)
  | .exc _ _, _, _ => trivial
  | .bad, _, _ => trivial
  | .draw n k, a, ⟨h, q⟩ => ⟨by omega, fun r hr => few_mono (few_bind hf (q r hr)) (by omega)⟩
  | .any k, a, h => fun l => few_bind hf (h l)
theorem few_nox {α : Type} : ∀ {t : T α} {a : Nat}, few t a → few t.nox a
  | .ret x, a, _ => trivial
  | .exc _ _, _, _ => trivial
  | .bad, _, _ => trivial
  | .draw n k, a, ⟨h, q⟩ => ⟨h, fun r hr => few_nox (q r hr)⟩
  | .any k, a, h => fun l => few_nox (h l)
theorem few_caught {ok : Nat → Bool} : ∀ {t : T D} {a : Nat}, few t a → few (t.caught ok) a
  | .ret x, a, _ => trivial
  | .exc _ _, _, _ => by unfold caught; split <;> trivial
  | .bad, _, _ => trivial
  | .draw n k, a, ⟨h, q⟩ => ⟨h, fun r hr => few_caught (q r hr)⟩
  | .any k, a, h => fun l => few_caught (h l)
theorem few_need {α : Type} {b : Bool} {t : T α} {a : Nat} (h : few t a) : few (need b t) a := by
  unfold need; split
  · exact h
  · trivial
/-- few draws: they may be counted -/
theorem wp_of {α : Type} {Q : α → Prop} {E : Nat → List D → Prop} : ∀ {t : T α} {c : Nat}, ok t Q E → few t c → wp c t (fun _ a => Q a) (fun _ e l => E e l)
  | .ret a, c, h, _ => h
  | .exc e l, c, h, _ => h
  | .bad, c, h, _ => h
  | .draw n k, c, ⟨a, b, d⟩, ⟨z, q⟩ => ⟨z, a, b, fun r h => wp_of (d r h) (q r h)⟩
  | .any k, c, h, q => fun l => wp_of (h l) (q l)
end T

/-! ### plain data as the library has it -/
mutual
def D.py : D → Option PyData
  | .non => some .none
  | .bl b => some (.bool b)
  | .int i => some (.int i)
  | .str x => some (.str x)
  | .tup l => (D.pys l).map PyData.tuple
  | .lst l => (D.pys l).map PyData.list
  | .dct => some (.dict [])
  | _ => none
def D.pys : List D → Option (List PyData)
  | [] => some []
  | d :: l => match D.py d, D.pys l with | some p, some q => some (p :: q) | _, _ => none
end
/-! no list, no dict anywhere -/
mutual
def D.still : D → Bool
  | .lst _ => false
  | .dct => false
  | .tup l => D.stills l
  | .ins _ l => D.stills l
  | .exc _ l => D.stills l
  | _ => true
def D.stills : List D → Bool
  | [] => true
  | d :: l => D.still d && D.stills l
end
def D.isTrue : D → Bool
  | .bl true => true
  | _ => false

/-! ### the names' slots -/
inductive Slot where
  | no | v (d : D) | own (l : List D) | lm (k : Nat) | ot (l : List D)
abbrev Env := List Slot
def look (δ : Env) (i : Nat) : Slot := (δ[i]?).getD .no
mutual
def asg : Tg → D → Env → Option Env
  | .n i, d, δ => some (δ.set i (.v d))
  | .t l, .tup ds, δ => asgs l ds δ
  | .t _, _, _ => none
def asgs : List Tg → List D → Env → Option Env
  | [], [], δ => some δ
  | t :: l, d :: ds, δ => match asg t d δ with | some δ' => asgs l ds δ' | none => none
  | _, _, _ => none
end
def wipeE (δ : Env) : List Nat → Env
  | [] => δ
  | i :: l => (wipeE δ l).set i .no

/-! ### operations on data -/
def ok1 (i : Int) : Bool := decide (i.natAbs.log2 < 4000)
def small (i : Int) : Bool := decide (i.natAbs < 2 ^ 64)
def opD : Operator → D → D → T D
  | .Add, .int i, .int j => .ret (.int (i + j))
  | .Add, .tup l, .tup m => .need (decide (l.length + m.length ≤ lim)) (.ret (.tup (l ++ m)))
  | .Add, .lst l, .lst m => .need (decide (l.length + m.length ≤ lim)) (.ret (.lst (l ++ m)))
  | .Add, .str x, .str y => .need (decide (x.length + y.length ≤ lim)) (.ret (.str (x ++ y)))
  | .Sub, .int i, .int j => .ret (.int (i - j))
  | .Mult, .int i, .int j => .need ((ok1 i && ok1 j) || small i || small j) (.ret (.int (i * j)))
  | .Mult, .lst l, .int k => .need (decide (0 ≤ k) && decide (k ≤ 1000) && decide (l.length ≤ 1000)) (.ret (.lst (List.replicate k.toNat l).flatten))
  | .Mult, .tup l, .int k => .need (!l.isEmpty && decide (0 ≤ k) && decide (k ≤ 1000) && decide (l.length ≤ 1000)) (.ret (.tup (List.replicate k.toNat l).flatten))
  | .Mult, .str x, .int k => .need (decide (2 ≤ k) && decide (k ≤ 1000) && decide (1 ≤ x.length) && decide (x.length ≤ 1000)) (.ret (.str (Txt.mul x k)))
  | .FloorDiv, .int i, .int j => .need (decide (0 < j) && ok1 j) (.ret (.int (i / j)))
  | .Mod, .int i, .int j => .need (decide (0 < j)) (.ret (.int (i % j)))
  | .Pow, .int i, .int j => .need (decide (0 ≤ j) && decide (j ≤ 100) && decide (i.natAbs.log2 < 1000000)) (.ret (.int (i ^ j.toNat)))
  | _, _, _ => .bad
def eqD (a b : D) (k : Bool → D) : T D :=
  match a.py, b.py with
  | some p, some q => .need (SeqAt.shaped p && SeqAt.shaped q) (.ret (k (PyData.eqv p q)))
  | _, _ => .bad
def inD (a : D) (l : List D) (k : Bool → D) : T D :=
  match a.py, D.pys l with
  | some p, some q => .need (SeqAt.shaped p && SeqAt.shaped (.list q)) (.ret (k (q.any fun z => PyData.eqv z p)))
  | _, _ => .bad
def isD : D → D → Option Bool
  | .non, .non => some true
  | _, .non => some false
  | .bl a, .bl b => some (decide (a = b))
  | _, _ => none
def cmpD : CmpOp → D → D → T D
  | .Eq, a, b => eqD a b .bl
  | .NotEq, a, b => eqD a b fun c => .bl (!c)
  | .Lt, .int i, .int j => .ret (.bl (decide (i < j)))
  | .LtE, .int i, .int j => .ret (.bl (decide (i ≤ j)))
  | .Gt, .int i, .int j => .ret (.bl (decide (j < i)))
  | .GtE, .int i, .int j => .ret (.bl (decide (j ≤ i)))
  | .Is, a, b => match isD a b with | some c => .ret (.bl c) | none => .bad
  | .IsNot, a, b => match isD a b with | some c => .ret (.bl (!c)) | none => .bad
  | .In, a, .tup l => inD a l .bl
  | .In, a, .lst l => inD a l .bl
  | .NotIn, a, .tup l => inD a l fun c => .bl (!c)
  | .NotIn, a, .lst l => inD a l fun c => .bl (!c)
  | _, _, _ => .bad
/-- a place, from either end -/
def ixAt (l : List D) (i : Int) : Option D :=
  if 0 ≤ i then l[i.toNat]? else if -(l.length : Int) ≤ i then l[(i + l.length).toNat]? else none
def ixD : D → D → T D
  | .tup l, .int i => match ixAt l i with | some d => .ret d | none => .bad
  | .lst l, .int i => match ixAt l i with | some d => .ret d | none => .bad
  | _, _ => .bad
/-- where a slice begins or ends -/
def cutIx (n d : Nat) : Option Int → Nat
  | none => d
  | some i => if i < 0 then (i + n).toNat else min i.toNat n
def cutD (l : List D) (lo hi : Option Int) : List D :=
  (l.drop (cutIx l.length 0 lo)).take (cutIx l.length l.length hi - cutIx l.length 0 lo)
def slD : D → Option Int → Option Int → T D
  | .tup l, lo, hi => .ret (.tup (cutD l lo hi))
  | .lst l, lo, hi => .ret (.lst (cutD l lo hi))
  | _, _, _ => .bad
/-- the classes of the text: which lie below which; n of them -/
structure Cls where
  n : Nat
  sub : Nat → Nat → Bool
  exn : Nat → Bool
  /-- the def for ==, of a class that has its own -/
  eq : Nat → Option Nat := fun _ => none
/-- what kind of thing it is, of those that isinstance is asked of -/
def kindD : D → Option Ty
  | .non => some .none
  | .bl _ => some .bool
  | .int _ => some .int
  | .str _ => some .str
  | .tup _ => some .tuple
  | .lst _ => some .list
  | .dct => some .dict
  | .ins c _ => some (.cls c)
  | .exc c [] => some (.exc c)
  | _ => none
def isTy (G : Cls) : Ty → Ty → Bool
  | .int, .int => true
  | .bool, .int => true
  | .bool, .bool => true
  | .str, .str => true
  | .tuple, .tuple => true
  | .list, .list => true
  | .dict, .dict => true
  | .cls c, .cls c' => G.sub c c'
  | .exc c, .cls c' => G.sub c c'
  | .exc _, .valueError => true
  | _, _ => false
def kdIn (G : Cls) : Ty → Bool
  | .cls c => decide (c < G.n) && !G.exn c
  | .exc c => decide (c < G.n) && G.exn c
  | .valueError => false
  | _ => true
def tyIn (G : Cls) : Ty → Bool
  | .cls c => decide (c < G.n)
  | .exc _ => false
  | .none => false
  | _ => true
def isiD (G : Cls) (d : D) (t : Ty) : T D :=
  match kindD d with
  | some k =>   .need (kdIn G k && tyIn G t) (.ret (.bl (isTy G k t)))
  | none => .bad
def intsD : List D → Option (List Int)
  | [] => some []
  | .int i :: l => (intsD l).map (i :: ·)
  | _ :: _ => none
def blsD : List D → Option (List Bool)
  | [] => some []
  | .bl i :: l => (blsD l).map (i :: ·)
  | _ :: _ => none
def itemsD : D → Option (List D)
  | .tup l => some l
  | .lst l => some l
  | _ => none
def reprD (d : D) : T D :=
  match itemsD d, d.py with
  | some _, some p => .need (p.canLay0 && p.showable && decide (p.depth ≤ 60) && decide (p.shown.length ≤ sizeLine)) (.ret (.str p.shown))
  | _, _ => .bad
def maxL : Int → List Int → Int
  | m, [] => m
  | m, n :: l => maxL (if n > m then n else m) l
def minL : Int → List Int → Int
  | m, [] => m
  | m, n :: l => minL (if n < m then n else m) l
def insI (a : Int) : List Int → List Int
  | [] => [a]
  | b :: l => if a ≤ b then a :: b :: l else b :: insI a l
def isrt : List Int → List Int
  | [] => []
  | a :: l => insI a (isrt l)
theorem insI_perm (a : Int) : ∀ l : List Int, (insI a l).Perm (a :: l)
  | [] => .refl _
  | b :: l => by
    unfold insI
    split
    · exact .refl _
    · exact ((insI_perm a l).cons b).trans (.swap a b l)
theorem isrt_perm : ∀ l : List Int, (isrt l).Perm l
  | [] => .refl _
  | a :: l => (insI_perm a (isrt l)).trans ((isrt_perm l).cons a)
theorem insI_srt (a : Int) : ∀ l : List Int, l.Pairwise (· ≤ ·) → (insI a l).Pairwise (· ≤ ·)
  | [], _ => by simp [insI]
  | b :: l, h => by
    unfold insI
    obtain ⟨h1, h2⟩ := List.pairwise_cons.mp h
    split
    · rename_i hab
      refine List.pairwise_cons.mpr ⟨fun c hc => ?_, h⟩
      rcases List.mem_cons.mp hc with rfl | hc
      · exact hab
      · exact Int.le_trans hab (h1 c hc)
    · rename_i hab
      refine List.pairwise_cons.mpr ⟨fun c hc => ?_, insI_srt a l h2⟩
      rcases List.mem_cons.mp ((insI_perm a l).mem_iff.mp hc) with rfl | hc
      · omega
      · exact h1 c hc
theorem isrt_srt : ∀ l : List Int, (isrt l).Pairwise (· ≤ ·)
  | [] => .nil
  | a :: l => insI_srt a _ (isrt_srt l)
theorem srt_eq : ∀ {l m : List Int}, l.Perm m → l.Pairwise (· ≤ ·) → m.Pairwise (· ≤ ·) → l = m
  | [], m, h, _, _ => by rw [h.symm.eq_nil]
  | a :: l, [], h, _, _ => by have := h.eq_nil; cases this
  | a :: l, b :: m, h, h1, h2 => by
    obtain ⟨p1, p2⟩ := List.pairwise_cons.mp h1
    obtain ⟨q1, q2⟩ := List.pairwise_cons.mp h2
    have ab : a = b := by
      have ha : a ∈ b :: m := h.mem_iff.mp List.mem_cons_self
      have hb : b ∈ a :: l := h.mem_iff.mpr List.mem_cons_self
      rcases List.mem_cons.mp ha with e | ha
      · exact e
      · rcases List.mem_cons.mp hb with e | hb
        · exact e.symm
        · have := q1 a ha; have := p1 b hb; omega
    subst ab
    rw [srt_eq (List.Perm.cons_inv h) p2 q2]
theorem isrt_eq {l m : List Int} (h : m.Perm l) (hs : m.Pairwise (· ≤ ·)) : m = isrt l := srt_eq (h.trans (isrt_perm l).symm) hs (isrt_srt l)
def biD : BI → List D → T D
  | .len, [.scr n] => .ret (.int (n : Nat))
  | .len, [d] => match itemsD d with | some l => .ret (.int l.length) | none => .bad
  | .sum, [.lst l] => match intsD l with | some ns => .ret (.int ns.sum) | none => .bad
  | .min, [.int i, .int j] => .ret (.int (if j < i then j else i))
  | .max, [.int i, .int j] => .ret (.int (if j > i then j else i))
  | .min, [.lst l] => match intsD l with | some (n :: ns) => .ret (.int (minL n ns)) | _ => .bad
  | .max, [.lst l] => match intsD l with | some (n :: ns) => .ret (.int (maxL n ns)) | _ => .bad
  | .abs, [.int i] => .ret (.int (if i < 0 then -i else i))
  | .int, [.int i] => .ret (.int i)
  | .int, [.str x] => match PySem.intText? x with | some n => .need (decide (x.length ≤ 640)) (.ret (.int n)) | none => .bad
  | .all, [.lst l] => match blsD l with | some bs => .ret (.bl (bs.all id)) | none => .bad
  | .any, [.lst l] => match blsD l with | some bs => .ret (.bl (bs.any id)) | none => .bad
  | .repr, [d] => reprD d
  | .tuple, [.lst l] => .ret (.tup l)
  | .tuple, [.tup l] => .ret (.tup l)
  | .list, [.lst l] => .ret (.lst l)
  | .list, [.tup l] => .ret (.lst l)
  | .sorted, [.lst l] => match intsD l with | some ns => .ret (.lst ((isrt ns).map .int)) | none => .bad
  | .sorted, [.tup l] => match intsD l with | some ns => .ret (.lst ((isrt ns).map .int)) | none => .bad
  | _, _ => .bad

/-- an item of an own list, stored, taken out -/
def stoK (l : List D) (d : D) : D → Option (List D)
  | .int k => if 0 ≤ k ∧ k < l.length then some (l.set k.toNat d) else none
  | _ => none
def ixI : List Int → Int → Option Nat
  | [], _ => none
  | a :: l, z => if a = z then some 0 else (ixI l z).map (· + 1)
def idxK (l : List D) (x : D) : Option Nat := match x with
  | .int z => (match intsD l with | some ns => ixI ns z | none => none)
  | _ => none
def popK (l : List D) : D → Option (D × List D)
  | .int k => if 0 ≤ k then (match l[k.toNat]? with | some d => some (d, l.eraseIdx k.toNat) | none => none) else none
  | _ => none
/-- how a block ends -/
inductive Fl where
  | nx (δ : Env) | ret (d : D) | brk (δ : Env) | ct (δ : Env)

/-- what is around: the classes, calls of defs, bodies of lambdas, fields, constants -/
structure C where
  G : Cls
  call : Nat → List D → T D
  lam : E → Env → T D
  fld : Nat → Str → Nat
  con : Nat → D

/-- plain data, lists and exceptions aside -/
def eqArg (G : Cls) (y : D) : Bool := match y with
  | .lst _ => false
  | .exc _ _ => false
  | y => match kindD y with | some k => kdIn G k | none => false
/-- an own == -/
def ownEq (K : C) (neg : Bool) (c : Nat) (l : List D) (y : D) : T D := match K.G.eq c with
  | some f => .need (decide (c < K.G.n) && eqArg K.G y) ((T.nox (K.call f [.ins c l, y])).bind fun r => match r with | .bl b => .ret (.bl (if neg = true then !b else b)) | _ => .bad)
  | none => .bad
/-- a comparison -/
def cmpK (K : C) (o : CmpOp) (x y : D) : T D := match o, x with
  | .Eq, .ins c l => ownEq K false c l y
  | .NotEq, .ins c l => ownEq K true c l y
  | o, x => cmpD o x y
def lcL (cond : Env → T Bool) (elt : Env → T D) (t : Tg) (δ : Env) : List D → T (List D)
  | [] => .ret []
  | d :: ds => match asg t d δ with
    | none => .bad
    | some δ' => (cond δ').bind fun b => if b = true then (elt δ').bind fun y => (lcL cond elt t δ ds).bind fun ys => .ret (y :: ys) else lcL cond elt t δ ds
/-- two walks, one within the other; slots are those of the inner targets -/
def lcL2 (src : Env → T (List D)) (cond : Env → T Bool) (elt : Env → T D) (t t2 : Tg) (sl : List Nat) (δ : Env) : List D → T (List D)
  | [] => .ret []
  | d :: ds => match asg t d δ with
    | none => .bad
    | some δ' => (src δ').bind fun m => .need (decide (m.length ≤ 1000)) ((lcL cond elt t2 (wipeE δ' sl) m).bind fun ys => (lcL2 src cond elt t t2 sl δ ds).bind fun zs => .ret (ys ++ zs))
mutual
def slotsT : Tg → List Nat
  | .n i => [i]
  | .t l => slotsTs l
def slotsTs : List Tg → List Nat
  | [] => []
  | t :: l => slotsT t ++ slotsTs l
end
/-- how far the state's turns may go -/
def tb : Nat := 500000
def tmax : Int := ((2 ^ tb : Nat) : Int)
def isSt : Slot → Bool
  | .v .st => true
  | _ => false
def asB : D → T Bool
  | .bl b => .ret b
  | _ => .bad
def pick (l : List D) : List Nat → Option (List D)
  | [] => some []
  | i :: p => match l[i]?, pick l p with | some d, some ds => some (d :: ds) | _, _ => none
def rngD (lo hi : Int) : T (List D) := .need (decide (-(10 ^ 9) ≤ lo) && decide (lo ≤ 10 ^ 9) && decide (hi ≤ 10 ^ 9) && decide (-(10 ^ 9) ≤ hi) && decide (hi - lo ≤ lim)) (.ret ((List.range (hi - lo).toNat).map fun i => .int (lo + (i : Nat))))
def enumD : Nat → List D → List D
  | _, [] => []
  | k, d :: l => .tup [.int (k : Nat), d] :: enumD (k + 1) l
def zipD : List D → List D → List D
  | a :: l, b :: m => .tup [a, b] :: zipD l m
  | _, _ => []

mutual
def ev (K : C) : E → Env → T D
  | .c d, _ => .ret d.d
  | .g i, _ => .ret (K.con i)
  | .gf f, _ => .ret (.fn f)
  | .v i, δ => match look δ i with | .v d => .ret d | .ot l => .ret (.tup l) | _ => .bad
  | .b i, δ => match look δ i with | .own l => .ret (.lst l) | _ => .bad
  | .tup l, δ => (evs K l δ).bind fun ds => .ret (.tup ds)
  | .lst l, δ => (evs K l δ).bind fun ds => .ret (.lst ds)
  | .dct, _ => .ret .dct
  | .op o a b, δ => (ev K a δ).bind fun x => (ev K b δ).bind fun y => opD o x y
  | .neg a, δ => (ev K a δ).bind fun x => match x with | .int i => .ret (.int (-i)) | _ => .bad
  | .cmp o a b, δ => (ev K a δ).bind fun x => (ev K b δ).bind fun y => cmpK K o x y
  | .cmp2 o p a b c, δ => (ev K a δ).bind fun x => (ev K b δ).bind fun y => (cmpD o x y).bind fun z => match z with
      | .bl true => (ev K c δ).bind fun w => cmpD p y w
      | .bl false => .ret (.bl false)
      | _ => .bad
  | .and1 a, δ => (ev K a δ).bind fun x => (asB x).bind fun b => .ret (.bl b)
  | .and a r, δ => (ev K a δ).bind fun x => (asB x).bind fun b => if b = true then ev K r δ else .ret (.bl false)
  | .or1 a, δ => (ev K a δ).bind fun x => (asB x).bind fun b => .ret (.bl b)
  | .or a r, δ => (ev K a δ).bind fun x => (asB x).bind fun b => if b = true then .ret (.bl true) else ev K r δ
  | .not a, δ => (ev K a δ).bind fun x => (asB x).bind fun b => .ret (.bl (!b))
  | .ite c a b, δ => (ev K c δ).bind fun x => (asB x).bind fun k => if k = true then ev K a δ else ev K b δ
  | .ix a i, δ => (ev K a δ).bind fun x => (ev K i δ).bind fun y => ixD x y
  | .sl a lo hi, δ => (ev K a δ).bind fun x => (evo K lo δ).bind fun i => (evo K hi δ).bind fun j => slD x i j
  | .lc own t s c e, δ => (evsrc K s δ).bind fun l => .need (decide (l.length ≤ lim)) ((T.nox (lcL (fun δ' => evc K c δ') (fun δ' => ev K e δ') t (wipeE δ (own.map (·.2))) l)).bind fun ys => .ret (.lst ys))
  | .idx i a, δ => match look δ i with | .ot l => (ev K a δ).bind fun x => (match idxK l x with | some j => .ret (.int (j : Nat)) | none => .bad) | _ => .bad
  | .rev a, δ => (ev K a δ).bind fun x => match x with | .tup l => .ret (.tup l.reverse) | _ => .bad
  | .lc2 own t s t2 s2 c e, δ => (evsrc K s δ).bind fun l => .need (decide (l.length ≤ 1000)) ((T.nox (lcL2 (fun δ' => evsrc K s2 δ') (fun δ' => evc K c δ') (fun δ' => ev K e δ') t t2 (slotsT t2) (wipeE δ (own.map (·.2))) l)).bind fun ys => .ret (.lst ys))
  | .call f l, δ => (evs K l δ).bind fun ds => K.call f ds
  | .callk f l ks p, δ => (evs K l δ).bind fun ds => (evk K ks δ).bind fun zs => match pick (ds ++ zs) p with | some vs => K.call f vs | none => .bad
  | .bi b l, δ => (evs K l δ).bind fun ds => biD b ds
  | .seqR tu s, δ => (evsrc K s δ).bind fun ns => .ret (if tu = true then .tup ns else .lst ns)
  | .isi a t, δ => (ev K a δ).bind fun x => isiD K.G x t
  | .fld a x, δ => (ev K a δ).bind fun o => match o with
      | .ins c l => match l[K.fld c x]? with | some d => .ret d | none => .bad
      | _ => .bad
  | .lam e, _ => .ret (.lm e)
  | .cau a, δ => (ev K a δ).bind fun d => match d with | .lm e => (K.lam e δ).caught (fun c => decide (c < K.G.n) && K.G.exn c) | _ => .bad
  | .no, _ => .bad
  | .cv i fs l, δ => match look δ i with | .v (.fn f) => .need (decide (f ∈ fs)) ((evs K l δ).bind fun ds => K.call f ds) | _ => .bad
  | .stv i, δ => .need (isSt (look δ i)) (.any fun l => .ret (.int (l.headD 0)))
  | .stnx i e, δ => .need (isSt (look δ i)) (.any fun l => if l = [] then ev K e δ else .ret (.int (l.headD 0)))
def evs (K : C) : EL → Env → T (List D)
  | .nil, _ => .ret []
  | .cons e l, δ => (ev K e δ).bind fun d => (evs K l δ).bind fun ds => .ret (d :: ds)
def evk (K : C) : KL → Env → T (List D)
  | .nil, _ => .ret []
  | .cons _ e l, δ => (ev K e δ).bind fun d => (evk K l δ).bind fun ds => .ret (d :: ds)
/-- a slice's end -/
def evo (K : C) : EO → Env → T (Option Int)
  | .no, _ => .ret none
  | .e e, δ => (ev K e δ).bind fun x => match x with | .int i => .ret (some i) | _ => .bad
/-- a comprehension's test -/
def evc (K : C) : EO → Env → T Bool
  | .no, _ => .ret true
  | .e e, δ => (ev K e δ).bind fun x => asB x
/-- what is walked -/
def evsrc (K : C) : Src → Env → T (List D)
  | .e a, δ => (ev K a δ).bind fun x => match itemsD x with | some l => .ret l | none => .bad
  | .rng1 a, δ => (ev K a δ).bind fun x => match x with | .int j => rngD 0 j | _ => .bad
  | .rng2 a b, δ => (ev K a δ).bind fun x => (ev K b δ).bind fun y => match x, y with | .int i, .int j => rngD i j | _, _ => .bad
  | .enum a, δ => (ev K a δ).bind fun x => match x with | .lst l => .ret (enumD 0 l) | .tup l => .ret (enumD 0 l) | _ => .bad
  | .stc i, δ => .need (isSt (look δ i)) (.any fun l => .ret ((l.take 63).map D.int))
  | .zip a b, δ => (ev K a δ).bind fun x => (ev K b δ).bind fun y => match x, y with | .tup l, .tup m => .ret (zipD l m) | .lst l, .lst m => .ret (zipD l m) | .lst l, .tup m => .ret (zipD l m) | _, _ => .bad
end

def forL (body : Env → T Fl) (t : Tg) : List D → Env → T Fl
  | [], δ => .ret (.nx δ)
  | d :: ds, δ => match asg t d δ with
    | none => .bad
    | some δ' => (body δ').bind fun f => match f with
      | .nx δ2 => forL body t ds δ2
      | .ct δ2 => forL body t ds δ2
      | .brk δ2 => .ret (.nx δ2)
      | .ret d => .ret (.ret d)
def whL (c : Env → T Bool) (body : Env → T Fl) : Nat → Env → T Fl
  | 0, _ => .bad
  | n + 1, δ => (c δ).bind fun b => if b = true then (body δ).bind fun f => match f with
      | .nx δ2 => whL c body n δ2
      | .ct δ2 => whL c body n δ2
      | .brk δ2 => .ret (.nx δ2)
      | .ret d => .ret (.ret d)
    else .ret (.nx δ)
/-- a name takes what came -/
def take (δ : Env) (i : Nat) (o : Bool) (d : D) : T Env :=
  if o = true then match d with | .lst l => .ret (δ.set i (.own l)) | _ => .bad else .ret (δ.set i (.v d))
def takes (δ : Env) : List (Nat × Bool) → List D → T Env
  | [], [] => .ret δ
  | (i, o) :: r, d :: ds => (take δ i o d).bind fun δ' => takes δ' r ds
  | _, _ => .bad
mutual
def exs (K : C) : S → Env → T Fl
  | .set i o e, δ => (ev K e δ).bind fun d => (take δ i o d).bind fun δ' => .ret (.nx δ')
  | .par l es, δ => (evs K es δ).bind fun ds => (takes δ l ds).bind fun δ' => .ret (.nx δ')
  | .unp t e, δ => (ev K e δ).bind fun d => match asg (.t t) d δ with | some δ' => .ret (.nx δ') | none => .bad
  | .app i e, δ => match look δ i with | .own l => (ev K e δ).bind fun d => .need (decide (l.length < lim)) (.ret (.nx (δ.set i (.own (l ++ [d]))))) | _ => .bad
  | .ife c a b, δ => (ev K c δ).bind fun x => (asB x).bind fun k => if k = true then exl K a δ else exl K b δ
  | .for t s b, δ => (evsrc K s δ).bind fun l => .need (decide (l.length ≤ lim)) (forL (fun δ' => exl K b δ') t l δ)
  | .wh c b, δ => whL (fun δ' => (ev K c δ').bind asB) (fun δ' => exl K b δ') wturn δ
  | .ret e, δ => (ev K e δ).bind fun d => .ret (.ret d)
  | .reto i, δ => match look δ i with | .own l => .ret (.ret (.lst l)) | _ => .bad
  | .ex e, δ => (ev K e δ).bind fun _ => .ret (.nx δ)
  | .raise c l, δ => (evs K l δ).bind fun ds => .exc c ds
  | .brk, δ => .ret (.brk δ)
  | .cont, δ => .ret (.ct δ)
  | .stw i e, δ => (ev K e δ).bind fun d => match d with | .int _ => .need (isSt (look δ i)) (.ret (.nx δ)) | _ => .bad
  | .sto i a e, δ => match look δ i with | .own l => (ev K e δ).bind fun d => (ev K a δ).bind fun k => (match stoK l d k with | some l' => .ret (.nx (δ.set i (.own l'))) | none => .bad) | _ => .bad
  | .sett i e, δ => (ev K e δ).bind fun d => (match d with | .lst l => .ret (.nx (δ.set i (.ot l))) | _ => .bad)
  | .pop i j e, δ => match look δ i, look δ j with | .own l, .own m => (ev K e δ).bind fun k => (match popK m k with | some (d, m') => .need (decide (i ≠ j) && decide (l.length < lim) && decide (m.length ≤ lim)) (.ret (.nx ((δ.set j (.own m')).set i (.own (l ++ [d]))))) | none => .bad) | _, _ => .bad
  | .tick i t f, δ => .need (isSt (look δ i) && decide (t < δ.length)) (.draw 1 fun _ => .any fun l => .ret (.nx ((δ.set t (.v (.int (l.headD 0 % tmax + 1)))).set f (.v (.int 0)))))
def exl (K : C) : SL → Env → T Fl
  | .nil, δ => .ret (.nx δ)
  | .cons s l, δ => (exs K s δ).bind fun f => match f with
      | .nx δ' => exl K l δ'
      | .ret d => .ret (.ret d)
      | .brk δ' => .ret (.brk δ')
      | .ct δ' => .ret (.ct δ')
end

/-- a def: how many parameters, how many slots, its body -/
structure Fd where
  np : Nat
  ns : Nat
  body : SL
/-- a program's defs; the draw among them -/
inductive Fn where
  | fd (f : Fd) | draw | mk (c : Nat) (f : Fd) (fl : List Nat)
def entry (ns : Nat) (ds : List D) : Env := ds.map Slot.v ++ List.replicate (ns - ds.length) .no
def runBody (K : C) (f : Fd) (ds : List D) : T D :=
  .need (decide (ds.length = f.np)) ((exl { K with lam := fun e δ => .need (decide (wE e ≤ lcap)) (ev { K with lam := fun _ _ => .bad } e δ) } f.body (entry f.ns ds)).bind fun r => match r with
    | .nx _ => .ret .non
    | .ret d => .ret d
    | _ => .bad)
def Fn.bd : Fn → SL
  | .fd f => f.body
  | .draw => .nil
  | .mk _ f _ => f.body
/-- what stands in the slots -/
def slotsD (δ : Env) : List Nat → Option (List D)
  | [] => some []
  | i :: l => match look δ i, slotsD δ l with | .v d, some ds => some (d :: ds) | _, _ => none
/-- a class's __init__: its body ahead of the stores, then the fields from the slots fl; slot 0 is the new instance's own -/
def runMk (K : C) (c : Nat) (f : Fd) (fl : List Nat) (ds : List D) : T D :=
  .need (decide (ds.length + 1 = f.np)) ((exl { K with lam := fun e δ => .need (decide (wE e ≤ lcap)) (ev { K with lam := fun _ _ => .bad } e δ) } f.body (.lm 0 :: entry (f.ns - 1) ds)).bind fun r => match r with
    | .nx δ => match look δ 0, slotsD δ fl with | .lm 0, some l => .ret (.ins c l) | _, _ => .bad
    | _ => .bad)
structure Prg where
  G : Cls
  fld : Nat → Str → Nat
  con : Nat → D
  fns : Nat → Fn
/-- calls, k deep at most -/
def Prg.run (P : Prg) : Nat → Nat → List D → T D
  | 0, _, _ => .bad
  | k + 1, f, ds => match P.fns f with
    | .draw => if k < 6 then .bad else match ds with | [.st, .int n] => .draw n.toNat fun r => .ret (.int (r : Nat)) | _ => .bad
    | .fd fd => runBody ⟨P.G, P.run k, fun _ _ => .bad, P.fld, P.con⟩ fd ds
    | .mk c fd fl => match k with
      | 0 => .bad
      | j + 1 => runMk ⟨P.G, P.run j, fun _ _ => .bad, P.fld, P.con⟩ c fd fl ds
end Dp
end

section
set_option Elab.async false
set_option linter.all false
set_option maxRecDepth 100000
set_option maxHeartbeats 2000000
/-! Dp1: which values stand for which data, over a heap of which a part is frozen. -/
namespace Dp
open PySem PySem.Spec PyProof.Rows L2

/-- an exception that was caught: its class, its own dict -/
def ExV (cls : Value) (dd : Option Addr) (a : Addr) : HO := .ext fun h => ∃ (oe : Obj) (vs : Array Value), h.get? a = some oe ∧ oe.cls = cls ∧ oe.dict = dd ∧ oe.data = .fields vs

/-- where the text's classes and defs stand, their fields; where the draws' state stands -/
structure R where
  K : PySem.W.Frag
  ca : Nat → Addr
  fs : Nat → List Str
  fa : Nat → Addr
  st : Addr
  lam : E → Addr → Addr → HO
  lq : Str

abbrev Sub (F F' : Hp) : Prop := ∀ a o, F a = some o → F' a = some o
theorem Sub.refl (F : Hp) : Sub F F := fun _ _ h => h
theorem Sub.trans {F F' F'' : Hp} (a : Sub F F') (b : Sub F' F'') : Sub F F'' := fun c o h => b c o (a c o h)

mutual
def Rep (r : R) (F : Hp) : D → V → Prop
  | .non, v => v = .non
  | .bl b, v => v = .bl b
  | .int i, v => v = .int i
  | .str x, v => v = .str x
  | .tup l, v => ∃ p xs, v = .ref p ∧ SqT r.K F p xs ∧ Reps r F l xs
  | .lst l, v => ∃ p xs, v = .ref p ∧ F p = some (.lst xs) ∧ Reps r F l xs
  | .scr n, v => ∃ (p : Addr) (ns : List Int), v = .ref p ∧ SqL r.K F p (ns.map V.int) ∧ ns.length = n ∧ n ≤ 63
  | .dct, v => ∃ p, v = .ref p ∧ F p = some (.dK [])
  | .ins c l, v => ∃ p dx xs, v = .ref p ∧ F p = some (.ins (r.ca c) dx ((r.fs c).zip xs)) ∧ xs.length = (r.fs c).length ∧ Reps r F l xs
  | .exc c l, v => ∃ p dd, v = .ref p ∧ F p = some (ExV (.ref (r.ca c)) dd p) ∧ ((l = [] ∧ dd = none) ∨ l ≠ [] ∧ ∃ dx xs, dd = some dx ∧ F dx = some (.xd ((r.fs c).zip xs)) ∧ xs.length = (r.fs c).length ∧ Reps r F l xs)
  | .fn f, v => v = .ref (r.fa f)
  | .st, v => v = .ref r.st
  | .lm e, v => ∃ p c, v = .ref p ∧ F p = some (r.lam e c p) ∧ F c = some (LamX.CodeO c r.lq)
def Reps (r : R) (F : Hp) : List D → List V → Prop
  | [], xs => xs = []
  | d :: l, xs => ∃ x ys, xs = x :: ys ∧ Rep r F d x ∧ Reps r F l ys
end
theorem Sub.seqT {K : PySem.W.Frag} {F F' : Hp} (s : Sub F F') {a : Addr} {xs : List V} (h : SqT K F a xs) : SqT K F' a xs := by
  rcases h with (h | ⟨o, h⟩) | h
  · exact .inl (.inl (s _ _ h))
  · exact .inl (.inr ⟨o, s _ _ h⟩)
  · exact .inr h
theorem Sub.seqL {K : PySem.W.Frag} {F F' : Hp} (s : Sub F F') {a : Addr} {xs : List V} (h : SqL K F a xs) : SqL K F' a xs := by
  rcases h with (h | ⟨o, h⟩) | h
  · exact .inl (.inl (s _ _ h))
  · exact .inl (.inr ⟨o, s _ _ h⟩)
  · exact .inr h
mutual
theorem Rep.mono {r : R} {F F' : Hp} (s : Sub F F') : ∀ {d : D} {v : V}, Rep r F d v → Rep r F' d v
  | .non, _, h => h
  | .bl _, _, h => h
  | .int _, _, h => h
  | .str _, _, h => h
  | .fn _, _, h => h
  | .st, _, h => h
  | .lm e, _, ⟨p, c, a, b, d⟩ => ⟨p, c, a, s _ _ b, s _ _ d⟩
  | .dct, _, ⟨p, e, h⟩ => ⟨p, e, s _ _ h⟩
  | .tup l, _, ⟨p, xs, e, h, q⟩ => ⟨p, xs, e, s.seqT h, Reps.mono s q⟩
  | .lst l, _, ⟨p, xs, e, h, q⟩ => ⟨p, xs, e, s _ _ h, Reps.mono s q⟩
  | .scr n, _, ⟨p, xs, e, h, q⟩ => ⟨p, xs, e, s.seqL h, q⟩
  | .ins c l, _, ⟨p, dx, xs, e, h, z, q⟩ => ⟨p, dx, xs, e, s _ _ h, z, Reps.mono s q⟩
  | .exc c l, _, ⟨p, dd, e, h, q⟩ => ⟨p, dd, e, s _ _ h, q.elim .inl fun ⟨n, dx, xs, e1, e2, z, q⟩ => .inr ⟨n, dx, xs, e1, s _ _ e2, z, Reps.mono s q⟩⟩
theorem Reps.mono {r : R} {F F' : Hp} (s : Sub F F') : ∀ {l : List D} {xs : List V}, Reps r F l xs → Reps r F' l xs
  | [], _, h => h
  | _ :: _, _, ⟨x, ys, e, h, q⟩ => ⟨x, ys, e, Rep.mono s h, Reps.mono s q⟩
end
section
variable {r : R} {F : Hp}
theorem Reps.nil : Reps r F [] [] := by unfold Reps; rfl
theorem Reps.cons {d : D} {v : V} {l : List D} {xs : List V} (h : Rep r F d v) (q : Reps r F l xs) : Reps r F (d :: l) (v :: xs) := by unfold Reps; exact ⟨v, xs, rfl, h, q⟩
theorem Reps.nil_inv {xs : List V} (h : Reps r F [] xs) : xs = [] := by unfold Reps at h; exact h
theorem Reps.cons_inv {d : D} {l : List D} {xs : List V} (h : Reps r F (d :: l) xs) : ∃ x ys, xs = x :: ys ∧ Rep r F d x ∧ Reps r F l ys := by unfold Reps at h; exact h
theorem Reps.len : ∀ {l : List D} {xs : List V}, Reps r F l xs → xs.length = l.length
  | [], _, h => by rw [h.nil_inv]; rfl
  | d :: l, _, h => by obtain ⟨x, ys, rfl, _, q⟩ := h.cons_inv; simp [Reps.len q]
theorem Reps.get : ∀ {l : List D} {xs : List V} {i : Nat} {d : D}, Reps r F l xs → l[i]? = some d → ∃ x, xs[i]? = some x ∧ Rep r F d x
  | [], _, _, _, _, e => by simp at e
  | a :: l, _, i, d, h, e => by
    obtain ⟨x, ys, rfl, h1, q⟩ := h.cons_inv
    cases i with
    | zero => simp at e; subst e; exact ⟨x, rfl, h1⟩
    | succ i => exact Reps.get (i := i) q (by simpa using e)
theorem Reps.app : ∀ {l m : List D} {xs ys : List V}, Reps r F l xs → Reps r F m ys → Reps r F (l ++ m) (xs ++ ys)
  | [], _, _, _, h, q => by rw [h.nil_inv]; exact q
  | d :: l, _, _, _, h, q => by obtain ⟨x, zs, rfl, h1, h2⟩ := h.cons_inv; exact .cons h1 (Reps.app h2 q)
theorem Reps.drop : ∀ {l : List D} {xs : List V} (n : Nat), Reps r F l xs → Reps r F (l.drop n) (xs.drop n)
  | _, _, 0, h => h
  | [], _, n + 1, h => by rw [h.nil_inv]; exact .nil
  | d :: l, _, n + 1, h => by obtain ⟨x, zs, rfl, h1, h2⟩ := h.cons_inv; exact Reps.drop n h2
theorem Reps.take : ∀ {l : List D} {xs : List V} (n : Nat), Reps r F l xs → Reps r F (l.take n) (xs.take n)
  | _, _, 0, h => .nil
  | [], _, n + 1, h => by rw [h.nil_inv]; exact .nil
  | d :: l, _, n + 1, h => by obtain ⟨x, zs, rfl, h1, h2⟩ := h.cons_inv; exact .cons h1 (Reps.take n h2)
theorem Reps.flat {l : List D} {xs : List V} (h : Reps r F l xs) : ∀ n : Nat, Reps r F (List.replicate n l).flatten (List.replicate n xs).flatten
  | 0 => .nil
  | n + 1 => by
    rw [List.replicate_succ, List.replicate_succ, List.flatten_cons, List.flatten_cons]
    exact h.app (h.flat n)
theorem Reps.ints : ∀ {l : List D} {xs : List V} {ns : List Int}, Reps r F l xs → intsD l = some ns → xs = ns.map V.int
  | [], _, _, h, e => by rw [h.nil_inv]; cases e; rfl
  | d :: l, _, ns, h, e => by
    obtain ⟨x, zs, rfl, h1, h2⟩ := h.cons_inv
    cases d with
    | int i =>
      cases q : intsD l with
      | none => simp [intsD, q] at e
      | some ms =>
        simp [intsD, q] at e
        subst e
        rw [Reps.ints h2 q]
        have e1 : x = .int i := by unfold Rep at h1; exact h1
        rw [e1]; rfl
    | _ => simp [intsD] at e
theorem Reps.bls : ∀ {l : List D} {xs : List V} {ns : List Bool}, Reps r F l xs → blsD l = some ns → xs = ns.map V.bl
  | [], _, _, h, e => by rw [h.nil_inv]; cases e; rfl
  | d :: l, _, ns, h, e => by
    obtain ⟨x, zs, rfl, h1, h2⟩ := h.cons_inv
    cases d with
    | bl i =>
      cases q : blsD l with
      | none => simp [blsD, q] at e
      | some ms =>
        simp [blsD, q] at e
        subst e
        rw [Reps.bls h2 q]
        have e1 : x = .bl i := by unfold Rep at h1; exact h1
        rw [e1]; rfl
    | _ => simp [blsD] at e
theorem Rep.tupI {l : List D} {v : V} (h : Rep r F (.tup l) v) : ∃ p xs, v = .ref p ∧ SqT r.K F p xs ∧ Reps r F l xs := by unfold Rep at h; exact h
theorem Rep.lstI {l : List D} {v : V} (h : Rep r F (.lst l) v) : ∃ p xs, v = .ref p ∧ F p = some (.lst xs) ∧ Reps r F l xs := by unfold Rep at h; exact h
theorem Rep.intI {i : Int} {v : V} (h : Rep r F (.int i) v) : v = .int i := by unfold Rep at h; exact h
theorem Rep.blI {i : Bool} {v : V} (h : Rep r F (.bl i) v) : v = .bl i := by unfold Rep at h; exact h
theorem Rep.strI {i : Str} {v : V} (h : Rep r F (.str i) v) : v = .str i := by unfold Rep at h; exact h
theorem Rep.nonI {v : V} (h : Rep r F .non v) : v = .non := by unfold Rep at h; exact h
theorem Rep.int (i : Int) : Rep r F (.int i) (.int i) := by unfold Rep; rfl
theorem Rep.bl (i : Bool) : Rep r F (.bl i) (.bl i) := by unfold Rep; rfl
theorem Rep.str (i : Str) : Rep r F (.str i) (.str i) := by unfold Rep; rfl
theorem Rep.non : Rep r F .non .non := by unfold Rep; rfl
theorem Rep.tup {l : List D} {p : Addr} {xs : List V} (h : F p = some (.tup xs)) (q : Reps r F l xs) : Rep r F (.tup l) (.ref p) := by unfold Rep; exact ⟨p, xs, rfl, .inl (.inl h), q⟩
theorem Rep.lst {l : List D} {p : Addr} {xs : List V} (h : F p = some (.lst xs)) (q : Reps r F l xs) : Rep r F (.lst l) (.ref p) := by unfold Rep; exact ⟨p, xs, rfl, h, q⟩
end

/-! ### plain data: as the library reads it -/
mutual
theorem Rep.dp {r : R} {F : Hp} (hd : True) : ∀ {d : D} {v : V} {p : PyData}, Rep r F d v → d.py = some p → p.canLay0 = true → Dp r.K F v p
  | .non, _, _, h, e, _ => by rw [h.nonI]; simp [D.py] at e; subst e; exact .non
  | .bl b, _, _, h, e, _ => by rw [h.blI]; simp [D.py] at e; subst e; exact .bl b
  | .int b, _, _, h, e, _ => by rw [h.intI]; simp [D.py] at e; subst e; exact .int b
  | .str b, _, _, h, e, _ => by rw [h.strI]; simp [D.py] at e; subst e; exact .str b
  | .tup l, _, _, h, e, c => by
    obtain ⟨p, xs, rfl, h1, h2⟩ := h.tupI
    cases q : D.pys l with
    | none => simp [D.py, q] at e
    | some ps =>
      simp [D.py, q] at e; subst e
      exact .tup h1 (Reps.dps hd h2 q (by simpa [PyData.canLay0] using c))
  | .lst l, _, _, h, e, c => by
    obtain ⟨p, xs, rfl, h1, h2⟩ := h.lstI
    cases q : D.pys l with
    | none => simp [D.py, q] at e
    | some ps =>
      simp [D.py, q] at e; subst e
      exact .lst (.of h1) (Reps.dps hd h2 q (by simpa [PyData.canLay0] using c))
  | .dct, _, _, h, e, c => by simp [D.py] at e; subst e; simp [PyData.canLay0] at c
  | .ins _ _, _, _, h, e, _ => by simp [D.py] at e
  | .exc _ _, _, _, h, e, _ => by simp [D.py] at e
  | .fn _, _, _, h, e, _ => by simp [D.py] at e
  | .st, _, _, h, e, _ => by simp [D.py] at e
  | .scr _, _, _, h, e, _ => by simp [D.py] at e
  | .lm _, _, _, h, e, _ => by simp [D.py] at e
theorem Reps.dps {r : R} {F : Hp} (hd : True) : ∀ {l : List D} {xs : List V} {ps : List PyData}, Reps r F l xs → D.pys l = some ps → PyData.canLayAll0 ps = true → DpAll r.K F xs ps
  | [], _, _, h, e, _ => by rw [h.nil_inv]; simp [D.pys] at e; subst e; exact .nil
  | d :: l, _, _, h, e, c => by
    obtain ⟨x, ys, rfl, h1, h2⟩ := h.cons_inv
    cases q1 : D.py d with
    | none => simp [D.pys, q1] at e
    | some p =>
      cases q2 : D.pys l with
      | none => simp [D.pys, q1, q2] at e
      | some ps =>
        simp [D.pys, q1, q2] at e; subst e
        have c' : p.canLay0 = true ∧ PyData.canLayAll0 ps = true := by simpa [PyData.canLayAll0] using c
        exact .cons (Rep.dp hd h1 q1 c'.1) (Reps.dps hd h2 q2 c'.2)
end
end Dp
end

section
set_option Elab.async false
set_option linter.all false
set_option autoImplicit false
set_option maxRecDepth 100000
set_option maxHeartbeats 2000000
/-! Dp2: what is around, steps of the heap, the names' slots, the readings. -/
namespace Dp
open PySem PySem.Spec PyProof.Rows L2

/-- objects that are not plain data (the draws' state, tables of code objects), and what holds of them, where so many draws are left -/
structure Gd where
  r : R
  sp : Addr → Prop
  GI : Nat → Hp → Prop
/-- all stays but lists that a frame owns -/
def Grow (g : Gd) (H H' : Hp) : Prop := ∀ a o, H a = some o → H' a = some o ∨ (¬ g.sp a ∧ ∃ xs ys, o = .lst xs ∧ H' a = some (.lst ys))
structure Gd.Ok (g : Gd) : Prop where
  keep : ∀ c H H', g.GI c H → Grow g H H' → g.GI c H'
  there : ∀ c H a, g.GI c H → g.sp a → H a ≠ none
  ins : ∀ c (H : Hp) a C dx fs o, g.GI c H → H a = some (.ins C dx fs) → g.GI c (upd H a o)
/-- all stays but the special objects -/
def Ext (g : Gd) (H H' : Hp) : Prop := ∀ a o, H a = some o → g.sp a ∨ H' a = some o
/-- the lambdas of the def at hand, by their numbers -/
structure Lm (g : Gd) where
  L : Nat → V → Hp → Prop
  ext : ∀ k v H H', L k v H → Ext g H H' → L k v H'
  grow : ∀ k v H H', L k v H → Grow g H H' → L k v H'
/-- no lambdas -/
def noLm (g : Gd) : Lm g := ⟨fun _ _ _ => False, fun _ _ _ _ h _ => h, fun _ _ _ _ h _ => h⟩
/-- what may be frozen where it stands: no list, no instance of the text's classes -/
def Fz (u : HO) : Prop := (∀ xs, u ≠ .lst xs) ∧ ∀ C dx fs, u ≠ .ins C dx fs
structure Step (g : Gd) (F H : Hp) (c : Nat) (F' H' : Hp) : Prop where
  gi : g.GI c H'
  ext : Ext g H H'
  sub : Sub F F'
  frz : Sub F' H'
  nsp : ∀ a o, F' a = some o → ¬ g.sp a
  new : ∀ a o, F' a = some o → (∃ o', F a = some o') ∨ H a = none ∨ ∃ u, H a = some u ∧ Fz u
section
variable {g : Gd} {F H F' H' F'' H'' : Hp} {c k : Nat}
theorem Ext.refl (H : Hp) : Ext g H H := fun _ _ h => .inr h
theorem Ext.trans (a : Ext g H H') (b : Ext g H' H'') : Ext g H H'' := fun c o h => (a c o h).elim .inl fun q => b c o q
theorem Step.refl (gi : g.GI c H) (s : Sub F H) (n : ∀ a o, F a = some o → ¬ g.sp a) : Step g F H c F H := ⟨gi, .refl H, .refl F, s, n, fun a o h => .inl ⟨o, h⟩⟩
theorem Step.trans (a : Step g F H k F' H') (b : Step g F' H' c F'' H'') : Step g F H c F'' H'' := by
  refine ⟨b.gi, a.ext.trans b.ext, a.sub.trans b.sub, b.frz, b.nsp, fun c o h => ?_⟩
  rcases b.new c o h with ⟨o', q⟩ | q | ⟨v, q, nl⟩
  · exact a.new c o' q
  · cases e : H c with
    | none => exact .inr (.inl rfl)
    | some u =>
      rcases a.ext c u e with z | z
      · exact absurd z (b.nsp c o h)
      · rw [q] at z; cases z
  · cases e : H c with
    | none => exact .inr (.inl rfl)
    | some u =>
      rcases a.ext c u e with z | z
      · exact absurd z (b.nsp c o h)
      · rw [q] at z; cases z
        exact .inr (.inr ⟨_, rfl, nl⟩)
/-- from where one stands, the entry's heap kept in mind -/
theorem Step.here (a : Step g F H c F' H') : Step g F' H c F' H' := ⟨a.gi, a.ext, .refl _, a.frz, a.nsp, fun _ o h => .inl ⟨o, h⟩⟩
theorem Step.now (a : Step g F H c F' H') : Step g F' H' c F' H' := .refl a.gi a.frz a.nsp
/-- the same, of a step behind: the frozen part of the base may be less -/
theorem Step.less {G : Hp} (a : Step g F H c F' H') (s : Sub G F) (n : ∀ c o, F c = some o → (∃ o', G c = some o') ∨ H c = none ∨ ∃ u, H c = some u ∧ Fz u) : Step g G H c F' H' :=
  ⟨a.gi, a.ext, s.trans a.sub, a.frz, a.nsp, fun c o h => (a.new c o h).elim (fun ⟨o', q⟩ => n c o' q) .inr⟩
/-- an object is laid, not frozen -/
theorem Step.laid (ok : g.Ok) (gi : g.GI c H) (s : Sub F H) (n : ∀ a o, F a = some o → ¬ g.sp a) {p : Addr} {o : HO} (hp : H p = none) : Step g F H c F (upd H p o) := by
  have k : ∀ a u, H a = some u → upd H p o a = some u := fun a u e => by rw [upd_ne (ne_of_none e hp)]; exact e
  exact ⟨ok.keep c H _ gi fun a u e => .inl (k a u e), fun a u e => .inr (k a u e), .refl F, fun a u e => k a u (s a u e), n, fun a u e => .inl ⟨u, e⟩⟩
/-- an object that stands is frozen -/
theorem Step.freeze (a : Step g F H c F' H') {p : Addr} {o : HO} (h0 : H p = none) (hp : H' p = some o) (hf : F' p = none) (ns : ¬ g.sp p) : Step g F H c (upd F' p o) H' := by
  refine ⟨a.gi, a.ext, fun c u e => ?_, fun c u e => ?_, fun c u e => ?_, fun c u e => ?_⟩
  · have q := a.sub c u e
    rw [upd_ne (ne_of_none q hf)]; exact q
  · by_cases z : c = p
    · subst z; rw [upd_same] at e; cases e; exact hp
    · rw [upd_ne z] at e; exact a.frz c u e
  · by_cases z : c = p
    · subst z; exact ns
    · rw [upd_ne z] at e; exact a.nsp c u e
  · by_cases z : c = p
    · subst z; exact .inr (.inl h0)
    · rw [upd_ne z] at e; exact a.new c u e
/-- a thing that is no list is frozen where it stands -/
theorem Step.freezeX (a : Step g F H c F' H') {p : Addr} {o : HO} (hp : H' p = some o) (hf : F' p = none) (ns : ¬ g.sp p) (nl : Fz o) (h0 : H p = none ∨ H p = some o) : Step g F H c (upd F' p o) H' := by
  refine ⟨a.gi, a.ext, fun c u e => ?_, fun c u e => ?_, fun c u e => ?_, fun c u e => ?_⟩
  · have q := a.sub c u e
    rw [upd_ne (ne_of_none q hf)]; exact q
  · by_cases z : c = p
    · subst z; rw [upd_same] at e; cases e; exact hp
    · rw [upd_ne z] at e; exact a.frz c u e
  · by_cases z : c = p
    · subst z; exact ns
    · rw [upd_ne z] at e; exact a.nsp c u e
  · by_cases z : c = p
    · subst z; exact .inr (h0.imp id fun q => ⟨_, q, nl⟩)
    · rw [upd_ne z] at e; exact a.new c u e
theorem sub_upd {F : Hp} {p : Addr} {o : HO} (h : F p = none) : Sub F (upd F p o) := fun a u e => by rw [upd_ne (ne_of_none e h)]; exact e
/-- a new object, not special -/
theorem nsp_new (ok : g.Ok) (gi : g.GI c H) {p : Addr} (hp : H p = none) : ¬ g.sp p := fun z => ok.there c H p gi z hp
/-- laid and frozen -/
theorem Step.born (ok : g.Ok) (gi : g.GI c H) (s : Sub F H) (n : ∀ a o, F a = some o → ¬ g.sp a) {p : Addr} {o : HO} (hp : H p = none) : Step g F H c (upd F p o) (upd H p o) := by
  have hf : F p = none := by
    cases e : F p with
    | none => rfl
    | some u => rw [s p u e] at hp; cases hp
  exact (Step.laid ok gi s n hp).freeze hp upd_same hf (nsp_new ok gi hp)
end

/-! ### the slots -/
def SlotOk (g : Gd) (M : Lm g) (H0 F H : Hp) (x : Option (Option V)) : Slot → Prop
  | .no => True
  | .v d => ∃ v, x = some (some v) ∧ Rep g.r F d v
  | .own l => ∃ p xs, x = some (some (.ref p)) ∧ H p = some (.lst xs) ∧ Reps g.r F l xs ∧ F p = none ∧ H0 p = none ∧ ¬ g.sp p
  | .lm k => ∃ v, x = some (some v) ∧ M.L k v H
  | .ot l => ∃ (p : Addr) (o : Obj) (xs : List V), x = some (some (.ref p)) ∧ o.cls = .type "tuple" ∧ o.dict = none ∧ F p = some (.frz o (.tup xs)) ∧ Reps g.r F l xs
structure EnvOk (g : Gd) (M : Lm g) (H0 F H : Hp) (σ : L2.St) (δ : Env) : Prop where
  len : σ.length = δ.length
  at_ : ∀ i, SlotOk g M H0 F H σ[i]? (look δ i)
  apart : ∀ i j l m p, i ≠ j → look δ i = .own l → look δ j = .own m → σ[i]? = some (some (.ref p)) → σ[j]? = some (some (.ref p)) → False
section
variable {g : Gd} {M : Lm g} {H0 F H F' H' : Hp} {σ : L2.St} {δ : Env} {c : Nat}
theorem SlotOk.step {x : Option (Option V)} {sl : Slot} (h : SlotOk g M H0 F H x sl) (s : Step g F H c F' H') : SlotOk g M H0 F' H' x sl := by
  cases sl with
  | no => trivial
  | v d => obtain ⟨v, e, q⟩ := h; exact ⟨v, e, q.mono s.sub⟩
  | own l =>
    obtain ⟨p, xs, e, h1, h2, h3, h4, h5⟩ := h
    refine ⟨p, xs, e, (s.ext p _ h1).resolve_left h5, h2.mono s.sub, ?_, h4, h5⟩
    cases q : F' p with
    | none => rfl
    | some u =>
      rcases s.new p u q with ⟨o, z⟩ | z | ⟨u, z, nl⟩
      · rw [h3] at z; cases z
      · rw [h1] at z; cases z
      · rw [h1] at z; cases z; exact absurd rfl (nl.1 _)
  | lm k => obtain ⟨v, e, q⟩ := h; exact ⟨v, e, M.ext k v _ _ q s.ext⟩
  | ot l => obtain ⟨p, o, xs, e, c, d, h1, h2⟩ := h; exact ⟨p, o, xs, e, c, d, s.sub _ _ h1, h2.mono s.sub⟩
theorem EnvOk.step (h : EnvOk g M H0 F H σ δ) (s : Step g F H c F' H') : EnvOk g M H0 F' H' σ δ := ⟨h.len, fun i => (h.at_ i).step s, h.apart⟩
theorem look_set_self {δ : Env} {i : Nat} {s : Slot} (h : i < δ.length) : look (δ.set i s) i = s := by
  unfold look; rw [List.getElem?_set_self h]; rfl
theorem look_set_ne {δ : Env} {i j : Nat} {s : Slot} (h : i ≠ j) : look (δ.set i s) j = look δ j := by
  unfold look; rw [List.getElem?_set_ne h]
theorem look_lt {δ : Env} {i : Nat} {s : Slot} (h : look δ i = s) (hs : s ≠ .no) : i < δ.length := by
  unfold look at h
  by_cases q : i < δ.length
  · exact q
  · rw [List.getElem?_eq_none (by omega)] at h; exact absurd h.symm hs
/-- a name takes plain data -/
theorem EnvOk.setV (h : EnvOk g M H0 F H σ δ) {i : Nat} {d : D} {v : V} (hi : i < δ.length) (q : Rep g.r F d v) : EnvOk g M H0 F H (σ.set i (some v)) (δ.set i (.v d)) := by
  refine ⟨by simp [h.len], fun j => ?_, fun a b l m p hab ha hb h1 h2 => ?_⟩
  · by_cases e : i = j
    · subst e
      rw [look_set_self hi, List.getElem?_set_self (by rw [h.len]; exact hi)]
      exact ⟨v, rfl, q⟩
    · rw [look_set_ne e, List.getElem?_set_ne e]; exact h.at_ j
  · have na : i ≠ a := fun e => by subst e; rw [look_set_self hi] at ha; cases ha
    have nb : i ≠ b := fun e => by subst e; rw [look_set_self hi] at hb; cases hb
    rw [look_set_ne na] at ha
    rw [look_set_ne nb] at hb
    rw [List.getElem?_set_ne na] at h1
    rw [List.getElem?_set_ne nb] at h2
    exact h.apart a b l m p hab ha hb h1 h2
/-- a name takes a tuple -/
theorem EnvOk.setT (h : EnvOk g M H0 F H σ δ) {i : Nat} {l : List D} {p : Addr} {o : Obj} {xs : List V} (hi : i < δ.length) (hc : o.cls = .type "tuple") (hd : o.dict = none) (h1 : F p = some (.frz o (.tup xs))) (q : Reps g.r F l xs) : EnvOk g M H0 F H (σ.set i (some (.ref p))) (δ.set i (.ot l)) := by
  refine ⟨by simp [h.len], fun j => ?_, fun a b l m p hab ha hb e1 e2 => ?_⟩
  · by_cases e : i = j
    · subst e
      rw [look_set_self hi, List.getElem?_set_self (by rw [h.len]; exact hi)]
      exact ⟨p, o, xs, rfl, hc, hd, h1, q⟩
    · rw [look_set_ne e, List.getElem?_set_ne e]; exact h.at_ j
  · have na : i ≠ a := fun e => by subst e; rw [look_set_self hi] at ha; cases ha
    have nb : i ≠ b := fun e => by subst e; rw [look_set_self hi] at hb; cases hb
    rw [look_set_ne na] at ha
    rw [look_set_ne nb] at hb
    rw [List.getElem?_set_ne na] at e1
    rw [List.getElem?_set_ne nb] at e2
    exact h.apart a b l m p hab ha hb e1 e2
/-- a name is forgotten -/
theorem EnvOk.forget (h : EnvOk g M H0 F H σ δ) {i : Nat} (x : Option V) : EnvOk g M H0 F H (σ.set i x) (δ.set i .no) := by
  refine ⟨by simp [h.len], fun j => ?_, fun a b l m p hab ha hb h1 h2 => ?_⟩
  · by_cases e : i = j
    · subst e
      by_cases hi : i < δ.length
      · rw [look_set_self hi]; trivial
      · have e : look (δ.set i .no) i = .no := by
          unfold look
          rw [List.getElem?_eq_none (l := δ.set i .no) (by simp; omega)]
          rfl
        rw [e]; trivial
    · rw [look_set_ne e, List.getElem?_set_ne e]; exact h.at_ j
  · have hn : ∀ c k, look (δ.set i .no) c = .own k → i ≠ c := fun c k z e => by
      subst e
      have := look_lt z (fun z => by cases z)
      rw [look_set_self (by simpa using this)] at z; cases z
    have na := hn a l ha
    have nb := hn b m hb
    rw [look_set_ne na] at ha
    rw [look_set_ne nb] at hb
    rw [List.getElem?_set_ne na] at h1
    rw [List.getElem?_set_ne nb] at h2
    exact h.apart a b l m p hab ha hb h1 h2
theorem EnvOk.wipe (h : EnvOk g M H0 F H σ δ) : ∀ l : List Nat, EnvOk g M H0 F H (wipe σ l) (wipeE δ l)
  | [] => h
  | i :: l => (EnvOk.wipe h l).forget none
/-- a name takes a list of its own -/
theorem EnvOk.setOwn (h : EnvOk g M H0 F H σ δ) {i : Nat} {l : List D} {p : Addr} {xs : List V} (hi : i < δ.length) (h1 : H p = some (.lst xs)) (h2 : Reps g.r F l xs) (h3 : F p = none) (h4 : H0 p = none) (h5 : ¬ g.sp p)
    (ap : ∀ j m, i ≠ j → look δ j = .own m → σ[j]? ≠ some (some (.ref p))) : EnvOk g M H0 F H (σ.set i (some (.ref p))) (δ.set i (.own l)) := by
  have hs : i < σ.length := by rw [h.len]; exact hi
  refine ⟨by simp [h.len], fun j => ?_, fun a b l' m q hab ha hb e1 e2 => ?_⟩
  · by_cases e : i = j
    · subst e
      rw [look_set_self hi, List.getElem?_set_self hs]
      exact ⟨p, xs, rfl, h1, h2, h3, h4, h5⟩
    · rw [look_set_ne e, List.getElem?_set_ne e]; exact h.at_ j
  · by_cases ia : i = a
    · subst ia
      rw [List.getElem?_set_self hs] at e1
      rw [look_set_ne hab] at hb
      rw [List.getElem?_set_ne hab] at e2
      cases e1
      exact ap b m hab hb e2
    · by_cases ib : i = b
      · subst ib
        rw [List.getElem?_set_self hs] at e2
        rw [look_set_ne ia] at ha
        rw [List.getElem?_set_ne ia] at e1
        cases e2
        exact ap a l' ia ha e1
      · rw [look_set_ne ia] at ha
        rw [look_set_ne ib] at hb
        rw [List.getElem?_set_ne ia] at e1
        rw [List.getElem?_set_ne ib] at e2
        exact h.apart a b l' m q hab ha hb e1 e2
/-- a list of a name's own is written -/
theorem EnvOk.write (h : EnvOk g M H0 F H σ δ) (fr : Sub F H) {i : Nat} {l l' : List D} {p : Addr} {ys : List V} (hl : look δ i = .own l) (hp : σ[i]? = some (some (.ref p))) (lk : ∀ k v, M.L k v H → M.L k v (upd H p (.lst ys))) (q : Reps g.r F l' ys) :
    EnvOk g M H0 F (upd H p (.lst ys)) σ (δ.set i (.own l')) := by
  have hi := look_lt hl (fun z => by cases z)
  have A := h.at_ i
  rw [hl] at A
  obtain ⟨p', xs, e, h1, h2, h3, h4, h5⟩ := A
  rw [hp] at e; cases e
  refine ⟨by simp [h.len], fun j => ?_, fun a b l1 m q hab ha hb e1 e2 => ?_⟩
  · by_cases e : i = j
    · subst e
      rw [look_set_self hi]
      exact ⟨p, ys, hp, upd_same, q, h3, h4, h5⟩
    · rw [look_set_ne e]
      have B := h.at_ j
      cases hj : look δ j with
      | no => trivial
      | v d => rw [hj] at B; exact B
      | ot l => rw [hj] at B; exact B
      | lm k => rw [hj] at B; obtain ⟨v, e1, q1⟩ := B; exact ⟨v, e1, lk k v q1⟩
      | own m =>
        rw [hj] at B
        obtain ⟨p2, zs, e1, k1, k2, k3, k4, k5⟩ := B
        have np : p2 ≠ p := fun z => by subst z; exact h.apart i j l m p2 e hl hj hp e1
        exact ⟨p2, zs, e1, by rw [upd_ne np]; exact k1, k2, k3, k4, k5⟩
  · have ha' : ∃ l2, look δ a = .own l2 := by
      by_cases ia : i = a
      · subst ia; exact ⟨l, hl⟩
      · rw [look_set_ne ia] at ha; exact ⟨_, ha⟩
    have hb' : ∃ l2, look δ b = .own l2 := by
      by_cases ia : i = b
      · subst ia; exact ⟨l, hl⟩
      · rw [look_set_ne ia] at hb; exact ⟨_, hb⟩
    obtain ⟨l2, ha'⟩ := ha'
    obtain ⟨l3, hb'⟩ := hb'
    exact h.apart a b l2 l3 q hab ha' hb' e1 e2
end
end Dp
end

section
set_option Elab.async false
set_option linter.all false
set_option autoImplicit false
set_option maxRecDepth 100000
set_option maxHeartbeats 4000000
/-! Dp3: operations by values. -/
namespace Dp
open PySem PySem.Spec PyProof.Rows L2

abbrev Nsp (g : Gd) (F : Hp) : Prop := ∀ a o, F a = some o → ¬ g.sp a
/-- an operand: plain data, or a list that only stands -/
def RepB (g : Gd) (F H : Hp) : D → V → Prop
  | .lst l, v => ∃ p xs, v = .ref p ∧ H p = some (.lst xs) ∧ Reps g.r F l xs ∧ ¬ g.sp p
  | d, v => Rep g.r F d v
/-- what came: plain data; a new list is not frozen yet (o) -/
def Post (g : Gd) (o : Bool) (F' H H' : Hp) (d : D) (v : V) : Prop :=
  match o, d with
  | true, .lst l => ∃ p xs, v = .ref p ∧ H' p = some (.lst xs) ∧ Reps g.r F' l xs ∧ F' p = none ∧ H p = none
  | _, d => Rep g.r F' d v
/-- an exception that flies -/
def RepX (g : Gd) (F : Hp) (c : Nat) (l : List D) (cls : Value) (dd : Option Addr) : Prop :=
  cls = .ref (g.r.ca c) ∧ ((l = [] ∧ dd = none) ∨ l ≠ [] ∧ ∃ dx xs, dd = some dx ∧ F dx = some (.xd ((g.r.fs c).zip xs)) ∧ xs.length = (g.r.fs c).length ∧ Reps g.r F l xs)
section
variable {g : Gd} {F H F' H' F2 H2 : Hp}
theorem Rep.toB (s : Sub F H) (n : Nsp g F) {d : D} {v : V} (h : Rep g.r F d v) : RepB g F H d v := by
  cases d with
  | lst l => obtain ⟨p, xs, e, h1, h2⟩ := h.lstI; exact ⟨p, xs, e, s _ _ h1, h2, n _ _ h1⟩
  | _ => exact h
theorem RepB.step {d : D} {v : V} (h : RepB g F H d v) {k : Nat} (s : Step g F H k F' H') : RepB g F' H' d v := by
  cases d with
  | lst l => obtain ⟨p, xs, e, h1, h2, h3⟩ := h; exact ⟨p, xs, e, (s.ext _ _ h1).resolve_left h3, h2.mono s.sub, h3⟩
  | _ => exact Rep.mono s.sub h
/-- for what the library reads -/
theorem RepB.dp (s : Sub F H) {d : D} {v : V} {p : PyData} (h : RepB g F H d v) (e : d.py = some p) (c : p.canLay0 = true) : Dp g.r.K H v p := by
  cases d with
  | lst l =>
    obtain ⟨q, xs, rfl, h1, h2, h3⟩ := h
    cases z : D.pys l with
    | none => simp [D.py, z] at e
    | some ps =>
      simp [D.py, z] at e; subst e
      exact .lst (.of h1) (Reps.dps trivial (h2.mono s) z (by simpa [PyData.canLay0] using c))
  | _ => exact Rep.dp trivial (Rep.mono s h) e c
theorem RepB.nl {d : D} {v : V} (h : RepB g F H d v) (n : ∀ l, d ≠ .lst l) : Rep g.r F d v := by
  cases d with
  | lst l => exact absurd rfl (n l)
  | _ => exact h
theorem RepB.intI {i : Int} {v : V} (h : RepB g F H (.int i) v) : v = .int i := Rep.intI (show Rep g.r F _ _ from h)
theorem RepB.blI {i : Bool} {v : V} (h : RepB g F H (.bl i) v) : v = .bl i := Rep.blI (show Rep g.r F _ _ from h)
theorem RepB.strI {i : Str} {v : V} (h : RepB g F H (.str i) v) : v = .str i := Rep.strI (show Rep g.r F _ _ from h)
theorem RepB.nonI {v : V} (h : RepB g F H .non v) : v = .non := Rep.nonI (show Rep g.r F _ _ from h)
theorem RepB.tupI {l : List D} {v : V} (h : RepB g F H (.tup l) v) : ∃ p xs, v = .ref p ∧ SqT g.r.K F p xs ∧ Reps g.r F l xs := Rep.tupI (show Rep g.r F _ _ from h)
theorem Post.rep {d : D} {v : V} {o : Bool} (h : Rep g.r F' d v) (n : ∀ l, d ≠ .lst l) : Post g o F' H H' d v := by
  cases d with
  | lst l => exact absurd rfl (n l)
  | _ => cases o <;> exact h
/-- freezing what came -/
theorem Post.freeze {k j : Nat} (ok : g.Ok) (gi : g.GI k H) {d : D} {v : V} (s : Step g F H j F' H') (h : Post g true F' H H' d v) : ∃ F2, Step g F H j F2 H' ∧ Sub F' F2 ∧ Rep g.r F2 d v := by
  cases d with
  | lst l =>
    obtain ⟨p, xs, rfl, h1, h2, h3, h4⟩ := h
    exact ⟨upd F' p (.lst xs), s.freeze h4 h1 h3 (nsp_new ok gi h4), sub_upd h3, Rep.lst upd_same (h2.mono (sub_upd h3))⟩
  | _ => exact ⟨F', s, .refl _, h⟩
end

section
variable {g : Gd} {o : Bool} {F' H H' : Hp}
theorem Post.int (i : Int) : Post g o F' H H' (.int i) (.int i) := Post.rep (Rep.int i) (fun _ h => by cases h)
theorem Post.bl (i : Bool) : Post g o F' H H' (.bl i) (.bl i) := Post.rep (Rep.bl i) (fun _ h => by cases h)
theorem Post.str (i : Str) : Post g o F' H H' (.str i) (.str i) := Post.rep (Rep.str i) (fun _ h => by cases h)
theorem Post.non : Post g o F' H H' .non .non := Post.rep Rep.non (fun _ h => by cases h)
theorem Post.of {d : D} {v : V} (h : Rep g.r F' d v) : Post g false F' H H' d v := by cases d <;> exact h
end
/-- what is asked of the context -/
structure Cok (g : Gd) (X : Cx) : Prop where
  ok : g.Ok
  K : X.K = g.r.K
  nd : X.N.Nodup
  calm : X.calm = true
  gds : X.A.guards = some []
  un : X.A.units + 66 < cLine
def rOp (g : Gd) (o : Bool) (op : D → D → T D) : R2 := fun x y H Q => ∃ n F a b E, g.GI n H ∧ Sub F H ∧ Nsp g F ∧ RepB g F H a x ∧ RepB g F H b y ∧
  T.wp n (op a b) (fun c d => ∀ v F' H', Step g F H c F' H' → Post g o F' H H' d v → Q v H') E
theorem lim_line : lim ≤ sizeLine := by rw [sizeLine_eq]; decide
theorem bits_le {a : Int} (h : a.natAbs.log2 < 1000000) : Builtin.Int.intBits a ≤ 1000000 := by
  have h2 : Builtin.Int.intBits a ≤ a.natAbs.log2 + 1 := intBits_le Nat.lt_log2_self
  omega
theorem op_powB {X : Cx} : OpR X (binaryOp .Pow) (rI (fun i j => 0 ≤ j ∧ j ≤ 100 ∧ i.natAbs.log2 < 1000000) fun i j => .int (i ^ j.toNat)) := opI fun i j _ _ _ _ _ hc q => by
  refine pow_int hc.1 ?_ q
  have hb := bits_le hc.2.2
  have h1 : (Builtin.Int.intBits i : Int) * j ≤ 1000000 * j := Int.mul_le_mul_of_nonneg_right (by omega) hc.1
  have := hc.2.1
  omega
/-- a text, several times -/
theorem op_mulS {X : Cx} : OpR X (binaryOp .Mult) (fun x y H Q => ∃ (a : Str) (k : Int), x = .str a ∧ y = .int k ∧ 2 ≤ k ∧ k ≤ 1000 ∧ 1 ≤ a.length ∧ a.length ≤ 1000 ∧ Q (.str (Txt.mul a k)) H) := by
  intro pins s σ H x y v u Q I rx ry h
  obtain ⟨a, k, rfl, rfl, h1, h2, h3, h4, q⟩ := h
  obtain ⟨t, rfl⟩ := rx
  obtain ⟨t', rfl⟩ := ry
  refine PySem.SB.mul ⟨?_, fun _ _ => ?_, fun _ _ => ?_⟩ (fun t' tk => ⟨.str (Txt.mul a k), H, I.tok _, ⟨_, rfl⟩, q⟩)
  · simp; omega
  · have h5 : (1000 : Int) ≤ (2 ^ 63 - 1) / k := by
      rw [Int.le_ediv_iff_mul_le (by omega)]
      have : 1000 * k ≤ 1000 * 1000 := Int.mul_le_mul_of_nonneg_left h2 (by decide)
      exact Int.le_trans this (by decide)
    omega
  · have h5 : a.length * k.toNat ≤ 1000 * 1000 := Nat.mul_le_mul h4 (by omega)
    unfold Builtin.Str.tooLong
    rw [sizeLine_eq]
    exact decide_eq_false (by omega)
theorem op_D {g : Gd} {X : Cx} (C : Cok g X) (o : Operator) : OpR X (binaryOp o) (rOp g true (opD o)) := by
  have hl := lim_line
  intro pins s σ H x y v u Q I rx ry ⟨n, F, a, b, E, gi, sb, ns, ra, rb, w⟩
  have st := Step.refl gi sb ns
  unfold opD at w
  split at w
  · -- ints: +
    cases RepB.intI ra
    cases RepB.intI rb
    exact op_add pins s σ H _ _ v u Q I rx ry ⟨_, _, rfl, rfl, w _ F H st (Post.int _)⟩
  · -- tuples: +
    rename_i l m
    obtain ⟨hz, w⟩ := T.wp_need.mp w
    have hz := of_decide_eq_true hz
    obtain ⟨p, xs, rfl, h1, h2⟩ := Rep.tupI (show Rep g.r F (.tup l) x from ra)
    obtain ⟨q, ys, rfl, k1, k2⟩ := Rep.tupI (show Rep g.r F (.tup m) y from rb)
    refine op_catA pins s σ H _ _ v u Q I rx ry ⟨p, q, xs, ys, rfl, rfl, by rw [C.K]; exact sb.seqT h1, by rw [C.K]; exact sb.seqT k1, by rw [h2.len, k2.len]; omega, fun e => ?_, fun _ e => ?_, fun _ _ t nt => ?_⟩
    · subst e
      have e2 : l = [] := by have := h2.len; cases l with | nil => rfl | cons _ _ => simp at this
      subst e2
      exact w _ F H st rb
    · subst e
      have e2 : m = [] := by have := k2.len; cases m with | nil => rfl | cons _ _ => simp at this
      subst e2
      refine w _ F H st ?_
      rw [List.append_nil]; exact ra
    · have b := Step.born C.ok gi sb ns (o := .tup (xs ++ ys)) nt
      exact w _ _ _ b (Rep.tup upd_same ((h2.app k2).mono b.sub))
  · -- lists: +
    rename_i l m
    obtain ⟨hz, w⟩ := T.wp_need.mp w
    have hz := of_decide_eq_true hz
    obtain ⟨p, xs, rfl, h1, h2, h3⟩ := ra
    obtain ⟨q, ys, rfl, k1, k2, k3⟩ := rb
    refine op_cat pins s σ H _ _ v u Q I rx ry ⟨p, q, xs, ys, rfl, rfl, h1, k1, by rw [h2.len, k2.len]; omega, fun t nt => ?_⟩
    have ld := Step.laid C.ok gi sb ns (o := .lst (xs ++ ys)) nt
    refine w _ F _ ld ⟨t, xs ++ ys, rfl, upd_same, h2.app k2, ?_, nt⟩
    cases e : F t with
    | none => rfl
    | some o => rw [sb t o e] at nt; cases nt
  · -- texts: +
    rename_i z1 z2
    obtain ⟨hz, w⟩ := T.wp_need.mp w
    have hz := of_decide_eq_true hz
    cases RepB.strI ra
    cases RepB.strI rb
    exact op_add_str pins s σ H _ _ v u Q I rx ry ⟨_, _, rfl, rfl, by omega, w _ F H st (Post.str _)⟩
  · cases RepB.intI ra
    cases RepB.intI rb
    exact op_sub pins s σ H _ _ v u Q I rx ry ⟨_, _, rfl, rfl, w _ F H st (Post.int _)⟩
  · rename_i i j
    obtain ⟨hz, w⟩ := T.wp_need.mp w
    unfold ok1 small at hz
    simp only [Bool.or_eq_true, Bool.and_eq_true, decide_eq_true_eq] at hz
    cases RepB.intI ra
    cases RepB.intI rb
    rcases hz with (hz | hz) | hz
    · exact op_mulW pins s σ H _ _ v u Q I rx ry ⟨_, _, rfl, rfl, by unfold CMulW; omega, w _ F H st (Post.int _)⟩
    · exact op_mul pins s σ H _ _ v u Q I rx ry ⟨_, _, rfl, rfl, .inl ⟨by omega, by omega⟩, w _ F H st (Post.int _)⟩
    · exact op_mul pins s σ H _ _ v u Q I rx ry ⟨_, _, rfl, rfl, .inr ⟨by omega, by omega⟩, w _ F H st (Post.int _)⟩
  · -- lists: times
    rename_i l k
    obtain ⟨hz, w⟩ := T.wp_need.mp w
    rw [Bool.and_eq_true, Bool.and_eq_true] at hz
    have h1 := of_decide_eq_true hz.1.1
    have h2 := of_decide_eq_true hz.1.2
    have h3 := of_decide_eq_true hz.2
    obtain ⟨p, xs, rfl, e1, e2, e3⟩ := ra
    cases RepB.intI rb
    refine op_rep pins s σ H _ _ v u Q I rx ry ⟨p, k, xs, rfl, rfl, e1, by omega, by omega, ?_, fun t nt => ?_⟩
    · rw [e2.len]
      have : l.length * k.toNat ≤ 1000 * 1000 := Nat.mul_le_mul h3 (by omega)
      have hs : sizeLine = 16777216 := sizeLine_eq
      omega
    · have ld := Step.laid C.ok gi sb ns (o := .lst (List.replicate k.toNat xs).flatten) nt
      refine w _ F _ ld ⟨t, _, rfl, upd_same, e2.flat _, ?_, nt⟩
      cases e : F t with
      | none => rfl
      | some o => rw [sb t o e] at nt; cases nt
  · -- tuples: times
    rename_i l k
    obtain ⟨hz, w⟩ := T.wp_need.mp w
    simp only [Bool.and_eq_true, decide_eq_true_eq, Bool.not_eq_true', List.isEmpty_eq_false_iff] at hz
    obtain ⟨⟨⟨h1, h2⟩, h3⟩, h4⟩ := hz
    obtain ⟨p, xs, rfl, e1, e2⟩ := Rep.tupI (show Rep g.r F (.tup l) x from ra)
    cases RepB.intI rb
    have hne : xs ≠ [] := by
      intro z
      have := e2.len
      rw [z] at this
      exact h1 (List.eq_nil_of_length_eq_zero this.symm)
    by_cases k1 : k = 1
    · subst k1
      refine L2.op_repS pins s σ H _ _ v u Q I rx ry ⟨p, 1, xs, rfl, rfl, by rw [C.K]; exact sb.seqT e1, hne, .inl ⟨rfl, ?_⟩⟩
      refine w _ F H st ?_
      have e : (List.replicate (Int.toNat 1) l).flatten = l := by simp
      rw [e]; exact ra
    by_cases k0 : k = 0
    · subst k0
      refine L2.op_repS pins s σ H _ _ v u Q I rx ry ⟨p, 0, xs, rfl, rfl, by rw [C.K]; exact sb.seqT e1, hne, .inr ⟨rfl, fun t nt => ?_⟩⟩
      have b := Step.born C.ok gi sb ns (o := .tup []) nt
      exact w _ _ _ b (Rep.tup upd_same .nil)
    have h2 : 2 ≤ k := by omega
    refine op_repT pins s σ H _ _ v u Q I rx ry ⟨p, k, xs, rfl, rfl, by rw [C.K]; exact sb.seqT e1, hne, h2, h3, by rw [e2.len]; exact h4, fun t nt => ?_⟩
    have b := Step.born C.ok gi sb ns (o := .tup (List.replicate k.toNat xs).flatten) nt
    exact w _ _ _ b (Rep.tup upd_same ((e2.flat _).mono b.sub))
  · obtain ⟨hz, w⟩ := T.wp_need.mp w
    simp only [Bool.and_eq_true, decide_eq_true_eq] at hz
    obtain ⟨⟨⟨h1, h2⟩, h3⟩, h4⟩ := hz
    cases RepB.strI ra
    cases RepB.intI rb
    exact op_mulS pins s σ H _ _ v u Q I rx ry ⟨_, _, rfl, rfl, h1, h2, h3, h4, w _ F H st (Post.str _)⟩
  · obtain ⟨hz, w⟩ := T.wp_need.mp w
    unfold ok1 at hz
    rw [Bool.and_eq_true] at hz
    have h1 := of_decide_eq_true hz.1
    have h2 := of_decide_eq_true hz.2
    cases RepB.intI ra
    cases RepB.intI rb
    exact op_fdivW pins s σ H _ _ v u Q I rx ry ⟨_, _, rfl, rfl, ⟨h1, by omega⟩, w _ F H st (Post.int _)⟩
  · obtain ⟨hz, w⟩ := T.wp_need.mp w
    have hz := of_decide_eq_true hz
    cases RepB.intI ra
    cases RepB.intI rb
    exact op_mod pins s σ H _ _ v u Q I rx ry ⟨_, _, rfl, rfl, hz, w _ F H st (Post.int _)⟩
  · obtain ⟨hz, w⟩ := T.wp_need.mp w
    rw [Bool.and_eq_true, Bool.and_eq_true] at hz
    have h1 := of_decide_eq_true hz.1.1
    have h2 := of_decide_eq_true hz.1.2
    have h3 := of_decide_eq_true hz.2
    cases RepB.intI ra
    cases RepB.intI rb
    exact op_powB pins s σ H _ _ v u Q I rx ry ⟨_, _, rfl, rfl, ⟨h1, by omega, h3⟩, w _ F H st (Post.int _)⟩
  · exact w.elim

/-- an operation that gives a truth -/
theorem rOp_bl {g : Gd} {F H : Hp} {Q : VK} {n : Nat} {E : Nat → Nat → List D → Prop} {b : Bool} (st : Step g F H n F H) (w : T.wp n (.ret (.bl b)) (fun c d => ∀ v F' H', Step g F H c F' H' → Post g true F' H H' d v → Q v H') E) : Q (.bl b) H := w _ F H st (Post.bl b)
theorem isD_some {a b : D} {c : Bool} (h : isD a b = some c) : (b = .non ∧ ((a = .non ∧ c = true) ∨ (a ≠ .non ∧ c = false))) ∨ ∃ x y, a = .bl x ∧ b = .bl y ∧ c = decide (x = y) := by
  unfold isD at h
  split at h
  · cases h; exact .inl ⟨rfl, .inl ⟨rfl, rfl⟩⟩
  · rename_i n
    cases h
    exact .inl ⟨rfl, .inr ⟨n, rfl⟩⟩
  · cases h; exact .inr ⟨_, _, rfl, rfl, rfl⟩
  · cases h
theorem RepB.ne_non {g : Gd} {F H : Hp} {a : D} {v : V} (h : RepB g F H a v) (n : a ≠ .non) : v ≠ .non := by
  intro e
  subst e
  cases a with
  | non => exact n rfl
  | lst l => obtain ⟨p, xs, e, _⟩ := h; cases e
  | bl b => cases h.blI
  | int b => cases h.intI
  | str b => cases h.strI
  | tup l => obtain ⟨p, xs, e, _⟩ := h.tupI; cases e
  | dct => have h : Rep g.r F .dct .non := h; unfold Rep at h; obtain ⟨p, e, _⟩ := h; cases e
  | ins c l => have h : Rep g.r F (.ins c l) .non := h; unfold Rep at h; obtain ⟨p, dx, xs, e, _⟩ := h; cases e
  | exc c l => have h : Rep g.r F (.exc c l) .non := h; unfold Rep at h; obtain ⟨p, dx, e, _⟩ := h; cases e
  | fn f => have h : Rep g.r F (.fn f) .non := h; unfold Rep at h; cases h
  | st => have h : Rep g.r F .st .non := h; unfold Rep at h; cases h
  | scr m => have h : Rep g.r F (.scr m) .non := h; unfold Rep at h; obtain ⟨p, xs, e, _⟩ := h; cases e
  | lm m => have h : Rep g.r F (.lm m) .non := h; unfold Rep at h; obtain ⟨p, c, e, _⟩ := h; cases e
theorem is_dec {g : Gd} {F H : Hp} {a b : D} {c : Bool} {x y : V} (h : isD a b = some c) (ra : RepB g F H a x) (rb : RepB g F H b y) : (y = .non ∧ c = decide (x = .non)) ∨ ∃ i j, x = .bl i ∧ y = .bl j ∧ c = decide (i = j) := by
  rcases isD_some h with ⟨e, h2⟩ | ⟨i, j, rfl, rfl, rfl⟩
  · subst e
    refine .inl ⟨rb.nonI, ?_⟩
    rcases h2 with ⟨rfl, rfl⟩ | ⟨n, rfl⟩
    · rw [ra.nonI]; rfl
    · exact (decide_eq_false (ra.ne_non n)).symm
  · exact .inr ⟨i, j, ra.blI, rb.blI, rfl⟩
theorem cmp_D {g : Gd} {X : Cx} (C : Cok g X) (o : CmpOp) : OpR X (compareOp o) (rOp g true (cmpD o)) := by
  have un := C.un
  intro pins s σ H x y v u Q I rx ry ⟨n, F, a, b, E, gi, sb, ns, ra, rb, w⟩
  have st := Step.refl gi sb ns
  have inn : ∀ {neg : Bool} {a : D} {l : List D} {k : Bool → D}, RepB g F H a x → (RepB g F H (.tup l) y ∨ RepB g F H (.lst l) y) → (k = fun c => .bl (if neg = true then !c else c)) →
      T.wp n (inD a l k) (fun c d => ∀ v F' H', Step g F H c F' H' → Post g true F' H H' d v → Q v H') E → wpAny (model X.prog X.w) X.A (compareOp (if neg = true then .NotIn else .In) v u) (EP X pins σ Q) X.xe s := by
    intro neg a l k ra rb hk w
    unfold inD at w
    split at w
    · rename_i p q e1 e2
      obtain ⟨hz, w⟩ := T.wp_need.mp w
      rw [Bool.and_eq_true] at hz
      have c1 := SeqAt.canLay_of_shaped hz.1
      have c2 : PyData.canLayAll0 q = true := by simpa [PyData.canLay0] using SeqAt.canLay_of_shaped hz.2
      have rm := PyProof.Rows.room_in_shaped (A := X.A) (xs := q) hz.1 (by omega)
      have da := ra.dp sb e1 c1
      rw [← C.K] at da
      obtain ⟨as, r1⟩ := Dp.reads I p x v da rx
      subst hk
      have fin := rOp_bl st w
      rcases rb with rb | rb
      · have db := rb.dp (p := .tuple q) sb (by simp [D.py, e2]) (by simpa [PyData.canLay0] using c2)
        rw [← C.K] at db
        obtain ⟨bs, r2⟩ := Dp.reads I (.tuple q) y u db ry
        cases neg with
        | false => exact SeqAt.in_tuple_reads r2 r1 c2 c1 rm ⟨.bl _, H, I, rfl, fin⟩
        | true => exact SeqAt.notIn_tuple_reads r2 r1 c2 c1 rm ⟨.bl _, H, I, rfl, fin⟩
      · have db := rb.dp (p := .list q) sb (by simp [D.py, e2]) (by simpa [PyData.canLay0] using c2)
        rw [← C.K] at db
        obtain ⟨bs, r2⟩ := Dp.reads I (.list q) y u db ry
        cases neg with
        | false => exact SeqAt.in_list_reads r2 r1 c2 c1 rm ⟨.bl _, H, I, rfl, fin⟩
        | true => exact SeqAt.notIn_list_reads r2 r1 c2 c1 rm ⟨.bl _, H, I, rfl, fin⟩
    · exact w.elim
  have eqn : ∀ {k : Bool → D} {R : Bool → Prop}, (∀ c, k c = .bl c ∨ k c = .bl (!c)) → T.wp n (eqD a b k) (fun c d => ∀ v F' H', Step g F H c F' H' → Post g true F' H H' d v → Q v H') E →
      ∃ d e, Dp X.K H x d ∧ Dp X.K H y e ∧ SeqAt.shaped d = true ∧ SeqAt.shaped e = true ∧ T.wp n (.ret (k (PyData.eqv d e))) (fun c d => ∀ v F' H', Step g F H c F' H' → Post g true F' H H' d v → Q v H') E := by
    intro k R _ w
    unfold eqD at w
    split at w
    · rename_i p q e1 e2
      obtain ⟨hz, w⟩ := T.wp_need.mp w
      rw [Bool.and_eq_true] at hz
      refine ⟨p, q, ?_, ?_, hz.1, hz.2, w⟩
      · rw [C.K]; exact ra.dp sb e1 (SeqAt.canLay_of_shaped hz.1)
      · rw [C.K]; exact rb.dp sb e2 (SeqAt.canLay_of_shaped hz.2)
    · exact w.elim
  unfold cmpD at w
  split at w
  · obtain ⟨d, e, h1, h2, h3, h4, w⟩ := eqn (R := fun _ => True) (fun c => .inl rfl) w
    exact op_eqD (by omega) pins s σ H x y v u Q I rx ry ⟨d, e, h1, h2, h3, h4, rOp_bl st w⟩
  · obtain ⟨d, e, h1, h2, h3, h4, w⟩ := eqn (R := fun _ => True) (fun c => .inr rfl) w
    exact op_neD (by omega) pins s σ H x y v u Q I rx ry ⟨d, e, h1, h2, h3, h4, rOp_bl st w⟩
  · exact op_lt pins s σ H x y v u Q I rx ry ⟨_, _, ra.intI, rb.intI, rOp_bl st w⟩
  · exact op_le pins s σ H x y v u Q I rx ry ⟨_, _, ra.intI, rb.intI, rOp_bl st w⟩
  · exact op_gt pins s σ H x y v u Q I rx ry ⟨_, _, ra.intI, rb.intI, rOp_bl st w⟩
  · exact op_ge pins s σ H x y v u Q I rx ry ⟨_, _, ra.intI, rb.intI, rOp_bl st w⟩
  · split at w
    · rename_i c hc
      rcases is_dec hc ra rb with ⟨e, rfl⟩ | ⟨i, j, e1, e2, rfl⟩
      · exact op_isN pins s σ H x y v u Q I rx ry ⟨e, rOp_bl st w⟩
      · exact op_is_bl pins s σ H x y v u Q I rx ry ⟨i, j, e1, e2, rOp_bl st w⟩
    · exact w.elim
  · split at w
    · rename_i c hc
      rcases is_dec hc ra rb with ⟨e, rfl⟩ | ⟨i, j, e1, e2, rfl⟩
      · exact op_notN pins s σ H x y v u Q I rx ry ⟨e, rOp_bl st w⟩
      · exact op_isnot_bl pins s σ H x y v u Q I rx ry ⟨i, j, e1, e2, rOp_bl st w⟩
    · exact w.elim
  · exact inn (neg := false) ra (.inl rb) rfl w
  · exact inn (neg := false) ra (.inr rb) rfl w
  · exact inn (neg := true) ra (.inl rb) rfl w
  · exact inn (neg := true) ra (.inr rb) rfl w
  · exact w.elim

/-! ### places, slices -/
theorem ixAt_atI {xs : List V} {l : List D} {i : Int} {d : D} {g : Gd} {F : Hp} (h : Reps g.r F l xs) (e : ixAt l i = some d) : ∃ v, L2.atI xs i = some v ∧ Rep g.r F d v := by
  have hl := h.len
  have key : ∀ j : Nat, l[j]? = some d → L2.ixN xs.length i = some j → ∃ v, L2.atI xs i = some v ∧ Rep g.r F d v := fun j e1 e2 => by
    obtain ⟨v, q, r⟩ := h.get e1
    exact ⟨v, by unfold L2.atI; rw [e2]; exact q, r⟩
  unfold ixAt at e
  split at e
  · rename_i h0
    have hlt := (List.getElem?_eq_some_iff.mp e).1
    refine key _ e ?_
    unfold L2.ixN
    rw [if_pos h0, if_pos (by omega)]
  · split at e
    · rename_i h0 h1
      have hlt := (List.getElem?_eq_some_iff.mp e).1
      refine key _ e ?_
      unfold L2.ixN
      rw [if_neg h0, if_pos (by omega), hl]
    · cases e
theorem ix_D {g : Gd} {X : Cx} (C : Cok g X) : L2.IxR X (rOp g false ixD) := by
  intro value slice pins s σ H x y v u Q I rx ry ⟨n, F, a, b, E, gi, sb, ns, ra, rb, w⟩ hs
  have st := Step.refl gi sb ns
  unfold ixD at w
  split at w
  · split at w
    · rename_i d hd
      obtain ⟨p, xs, rfl, h1, h2⟩ := ra.tupI
      obtain ⟨z, e, r⟩ := ixAt_atI h2 hd
      refine ix_tup value slice pins s σ H _ _ v u Q I rx ry ⟨p, xs, _, z, rfl, rb.intI, by rw [C.K]; exact sb.seqT h1, e, ?_⟩ hs
      exact w z F H st (Post.of r)
    · exact w.elim
  · split at w
    · rename_i d hd
      obtain ⟨p, xs, rfl, h1, h2, h3⟩ := ra
      obtain ⟨z, e, r⟩ := ixAt_atI h2 hd
      refine ix_list value slice pins s σ H _ _ v u Q I rx ry ⟨p, xs, _, z, rfl, rb.intI, .of h1, e, ?_⟩ hs
      exact w z F H st (Post.of r)
    · exact w.elim
  · exact w.elim

theorem cutIx_eq (n d : Nat) (o : Option Int) : cutIx n d o = HT.sIx n d o := by cases o <;> rfl
theorem cut_reps {g : Gd} {F : Hp} {l : List D} {xs : List V} (h : Reps g.r F l xs) (lo hi : Option Int) : Reps g.r F (cutD l lo hi) (cutV xs lo hi) := by
  unfold cutD cutV
  rw [cutIx_eq, cutIx_eq, h.len]
  exact (h.drop _).take _
def rSlD (g : Gd) : V → Option Int → Option Int → Hp → VK → Prop := fun x lo hi H Q => ∃ n F a E, g.GI n H ∧ Sub F H ∧ Nsp g F ∧ RepB g F H a x ∧
  T.wp n (slD a lo hi) (fun c d => ∀ v F' H', Step g F H c F' H' → Post g true F' H H' d v → Q v H') E
theorem none_sub {F H : Hp} (sb : Sub F H) {t : Addr} (nt : H t = none) : F t = none := by
  cases e : F t with
  | none => rfl
  | some o => rw [sb t o e] at nt; cases nt
theorem sl_D {g : Gd} {X : Cx} (C : Cok g X) : SlR X (rSlD g) := by
  intro pins s σ H x v vl vu lo hi sl Q I rx hs pl pu ⟨n, F, a, E, gi, sb, ns, ra, w⟩
  have st := Step.refl gi sb ns
  unfold slD at w
  split at w
  · rename_i l
    obtain ⟨p, xs, rfl, h1, h2⟩ := ra.tupI
    refine sl_tupA pins s σ H _ v vl vu lo hi sl Q I rx hs pl pu ⟨p, xs, rfl, by rw [C.K]; exact sb.seqT h1, fun hw => ?_, fun _ t nt => ?_⟩
    · have e : cutD l lo hi = l := by
        unfold cutD
        rw [cutIx_eq, cutIx_eq, ← h2.len, hw.1, hw.2, List.drop_zero, h2.len]
        exact List.take_length
      refine w _ F H st (Post.rep ?_ (fun _ z => by cases z))
      rw [e]; exact ra
    · have b := Step.born C.ok gi sb ns (o := .tup (cutV xs lo hi)) nt
      exact w _ _ _ b (Post.rep (Rep.tup upd_same ((cut_reps h2 lo hi).mono b.sub)) (fun _ z => by cases z))
  · rename_i l
    obtain ⟨p, xs, rfl, h1, h2, h3⟩ := ra
    refine sl_list pins s σ H _ v vl vu lo hi sl Q I rx hs pl pu ⟨p, xs, rfl, .of h1, fun t nt => ?_⟩
    exact w _ F _ (Step.laid C.ok gi sb ns nt) ⟨t, _, rfl, upd_same, cut_reps h2 lo hi, none_sub sb nt, nt⟩
  · exact w.elim

/-! ### built-in functions -/
theorem noDict_hsm' {d : PyData} {as : List Addr} (h : d.canLay0 = true) : d.hasDict = true → sysModules ∉ as := PyData.noDict_hsm (PyData.hasDict_of_canLay d h)
def RepBs (g : Gd) (F H : Hp) : List D → List V → Prop
  | [], xs => xs = []
  | d :: l, xs => ∃ x ys, xs = x :: ys ∧ RepB g F H d x ∧ RepBs g F H l ys
theorem RepBs.one {g : Gd} {F H : Hp} {d : D} {xs : List V} (h : RepBs g F H [d] xs) : ∃ x, xs = [x] ∧ RepB g F H d x := by
  obtain ⟨x, ys, rfl, h1, h2⟩ := h
  exact ⟨x, by rw [show ys = [] from h2], h1⟩
theorem RepBs.two {g : Gd} {F H : Hp} {d e : D} {xs : List V} (h : RepBs g F H [d, e] xs) : ∃ x y, xs = [x, y] ∧ RepB g F H d x ∧ RepB g F H e y := by
  obtain ⟨x, ys, rfl, h1, h2⟩ := h
  obtain ⟨y, rfl, h3⟩ := RepBs.one h2
  exact ⟨x, y, rfl, h1, h3⟩
def biVal : BI → Value
  | .len => .builtin "len"
  | .sum => .builtin "sum"
  | .min => .builtin "min"
  | .max => .builtin "max"
  | .abs => .builtin "abs"
  | .all => .builtin "all"
  | .any => .builtin "any"
  | .repr => .builtin "repr"
  | .int => .type "int"
  | .tuple => .type "tuple"
  | .list => .type "list"
  | .sorted => .builtin "sorted"
theorem maxL_mem : ∀ (l : List Int) (m : Int), maxL m l ∈ m :: l ∧ ∀ y ∈ m :: l, y ≤ maxL m l
  | [], m => ⟨by simp [maxL], fun y hy => by simp at hy; rw [hy]; exact Int.le_refl _⟩
  | n :: l, m => by
    unfold maxL
    by_cases h : n > m
    · rw [if_pos h]
      obtain ⟨a, b⟩ := maxL_mem l n
      refine ⟨List.mem_cons_of_mem _ a, fun y hy => ?_⟩
      rcases List.mem_cons.mp hy with rfl | hy
      · exact Int.le_trans (Int.le_of_lt h) (b n List.mem_cons_self)
      · exact b y hy
    · rw [if_neg h]
      obtain ⟨a, b⟩ := maxL_mem l m
      refine ⟨?_, fun y hy => ?_⟩
      · rcases List.mem_cons.mp a with e | e
        · rw [e]; exact List.mem_cons_self
        · exact List.mem_cons_of_mem _ (List.mem_cons_of_mem _ e)
      · rcases List.mem_cons.mp hy with rfl | hy
        · exact b _ List.mem_cons_self
        · rcases List.mem_cons.mp hy with rfl | hy
          · exact Int.le_trans (Int.not_lt.mp h) (b m List.mem_cons_self)
          · exact b y (List.mem_cons_of_mem _ hy)
theorem minL_mem : ∀ (l : List Int) (m : Int), minL m l ∈ m :: l ∧ ∀ y ∈ m :: l, minL m l ≤ y
  | [], m => ⟨by simp [minL], fun y hy => by simp at hy; rw [hy]; exact Int.le_refl _⟩
  | n :: l, m => by
    unfold minL
    by_cases h : n < m
    · rw [if_pos h]
      obtain ⟨a, b⟩ := minL_mem l n
      refine ⟨List.mem_cons_of_mem _ a, fun y hy => ?_⟩
      rcases List.mem_cons.mp hy with rfl | hy
      · exact Int.le_trans (b n List.mem_cons_self) (Int.le_of_lt h)
      · exact b y hy
    · rw [if_neg h]
      obtain ⟨a, b⟩ := minL_mem l m
      refine ⟨?_, fun y hy => ?_⟩
      · rcases List.mem_cons.mp a with e | e
        · rw [e]; exact List.mem_cons_self
        · exact List.mem_cons_of_mem _ (List.mem_cons_of_mem _ e)
      · rcases List.mem_cons.mp hy with rfl | hy
        · exact b _ List.mem_cons_self
        · rcases List.mem_cons.mp hy with rfl | hy
          · exact Int.le_trans (b m List.mem_cons_self) (Int.not_lt.mp h)
          · exact b y (List.mem_cons_of_mem _ hy)
theorem maxL_eq {n m : Int} {ns : List Int} (hm : m ∈ n :: ns) (h : ∀ y ∈ n :: ns, y ≤ m) : m = maxL n ns := by
  obtain ⟨a, b⟩ := maxL_mem ns n
  exact Int.le_antisymm (b m hm) (h _ a)
theorem minL_eq {n m : Int} {ns : List Int} (hm : m ∈ n :: ns) (h : ∀ y ∈ n :: ns, m ≤ y) : m = minL n ns := by
  obtain ⟨a, b⟩ := minL_mem ns n
  exact Int.le_antisymm (h _ a) (b m hm)
def rBi (g : Gd) (b : BI) : List V → Hp → VK → Prop := fun xs H Q => ∃ n F l E, g.GI n H ∧ Sub F H ∧ Nsp g F ∧ RepBs g F H l xs ∧
  T.wp n (biD b l) (fun c d => ∀ v F' H', Step g F H c F' H' → Post g true F' H H' d v → Q v H') E
theorem Reps.ofInts {r : R} {F : Hp} : ∀ ns : List Int, Reps r F (ns.map D.int) (ns.map V.int)
  | [] => .nil
  | n :: ns => .cons (Rep.int n) (Reps.ofInts ns)
theorem bi_D {g : Gd} {X : Cx} (C : Cok g X) (b : BI) : CallR X (biVal b) (rBi g b) := by
  have un := C.un
  intro pins s σ H xs us Q I rx ⟨n, F, l, E, gi, sb, ns, ra, w⟩
  have st := Step.refl gi sb ns
  unfold biD at w
  split at w
  · rename_i n
    obtain ⟨x, rfl, h⟩ := ra.one
    have h : Rep g.r F (.scr n) x := h
    unfold Rep at h
    obtain ⟨p, xs, rfl, h1, rfl, _⟩ := h
    exact call_len pins s σ H _ us Q I rx ⟨.ref p, (xs.map V.int).length, rfl, .inl ⟨_, by rw [C.K]; exact sb.seqL h1, rfl⟩, by rw [List.length_map]; exact w _ F H st (Post.int _)⟩
  · rename_i d _
    obtain ⟨x, rfl, h⟩ := ra.one
    split at w
    · rename_i l hl
      have key : ∃ p xs, x = .ref p ∧ (SqL X.K H p xs ∨ SqT X.K H p xs) ∧ xs.length = l.length := by
        cases d with
        | tup m => cases hl; obtain ⟨p, xs, rfl, h1, h2⟩ := h.tupI; exact ⟨p, xs, rfl, .inr (by rw [C.K]; exact sb.seqT h1), h2.len⟩
        | lst m => cases hl; obtain ⟨p, xs, rfl, h1, h2, _⟩ := h; exact ⟨p, xs, rfl, .inl (.of h1), h2.len⟩
        | _ => cases hl
      obtain ⟨p, xs, rfl, h1, h2⟩ := key
      refine call_len pins s σ H _ us Q I rx ⟨.ref p, xs.length, rfl, ?_, ?_⟩
      · rcases h1 with h1 | h1
        · exact .inl ⟨xs, h1, rfl⟩
        · exact .inr ⟨xs, h1, rfl⟩
      · rw [h2]; exact w _ F H st (Post.int _)
    · exact w.elim
  · obtain ⟨x, rfl, p, xs, rfl, h1, h2, h3⟩ := ra.one
    split at w
    · rename_i ks hk
      rw [h2.ints hk] at h1
      exact cr_sum C.calm pins s σ H _ us Q I rx ⟨p, ks, rfl, .of h1, w _ F H st (Post.int _)⟩
    · exact w.elim
  · obtain ⟨x, y, rfl, h1, h2⟩ := ra.two
    exact call_min2 C.calm pins s σ H _ us Q I rx ⟨_, _, by rw [h1.intI, h2.intI], w _ F H st (Post.int _)⟩
  · obtain ⟨x, y, rfl, h1, h2⟩ := ra.two
    exact call_max2 C.calm pins s σ H _ us Q I rx ⟨_, _, by rw [h1.intI, h2.intI], w _ F H st (Post.int _)⟩
  · obtain ⟨x, rfl, p, xs, rfl, h1, h2, h3⟩ := ra.one
    split at w
    · rename_i n ns hk
      rw [h2.ints hk] at h1
      refine cr_min C.calm pins s σ H _ us Q I rx ⟨p, n :: ns, rfl, .of h1, by simp, fun m hm hle => ?_⟩
      have : m = minL n ns := minL_eq hm hle
      rw [this]
      exact w _ F H st (Post.int _)
    · exact w.elim
  · obtain ⟨x, rfl, p, xs, rfl, h1, h2, h3⟩ := ra.one
    split at w
    · rename_i n ns hk
      rw [h2.ints hk] at h1
      refine cr_max C.calm pins s σ H _ us Q I rx ⟨p, n :: ns, rfl, .of h1, by simp, fun m hm hle => ?_⟩
      have : m = maxL n ns := maxL_eq hm hle
      rw [this]
      exact w _ F H st (Post.int _)
    · exact w.elim
  · obtain ⟨x, rfl, h1⟩ := ra.one
    exact call_abs pins s σ H _ us Q I rx ⟨_, by rw [h1.intI], w _ F H st (Post.int _)⟩
  · obtain ⟨x, rfl, h1⟩ := ra.one
    exact call_int1 pins s σ H _ us Q I rx (.inl ⟨_, by rw [h1.intI], w _ F H st (Post.int _)⟩)
  · obtain ⟨x, rfl, h1⟩ := ra.one
    split at w
    · rename_i n hn
      obtain ⟨hz, w⟩ := T.wp_need.mp w
      exact call_int_str pins s σ H _ us Q I rx ⟨_, _, by rw [h1.strI], hn, of_decide_eq_true hz, w _ F H st (Post.int _)⟩
    · exact w.elim
  · obtain ⟨x, rfl, p, xs, rfl, h1, h2, h3⟩ := ra.one
    split at w
    · rename_i ks hk
      rw [h2.bls hk] at h1
      exact cr_all C.calm pins s σ H _ us Q I rx ⟨p, ks, rfl, .of h1, w _ F H st (Post.bl _)⟩
    · exact w.elim
  · obtain ⟨x, rfl, p, xs, rfl, h1, h2, h3⟩ := ra.one
    split at w
    · rename_i ks hk
      rw [h2.bls hk] at h1
      exact cr_any C.calm pins s σ H _ us Q I rx ⟨p, ks, rfl, .of h1, w _ F H st (Post.bl _)⟩
    · exact w.elim
  · -- repr
    rename_i d
    obtain ⟨x, rfl, h⟩ := ra.one
    unfold reprD at w
    split at w
    · rename_i l p hl hp
      obtain ⟨hz, w⟩ := T.wp_need.mp w
      rw [Bool.and_eq_true, Bool.and_eq_true, Bool.and_eq_true] at hz
      obtain ⟨⟨⟨c1, c2⟩, c3⟩, c4⟩ := hz
      have c3 := of_decide_eq_true c3
      have c4 := of_decide_eq_true c4
      have dp := h.dp sb hp c1
      rw [← C.K] at dp
      obtain ⟨u, rfl, ru⟩ := vals1 rx
      obtain ⟨as, rd⟩ := Dp.reads I p x u dp ru
      have isr : ∃ a, x = .ref a := by
        cases d with
        | tup m => obtain ⟨p, xs, rfl, _⟩ := h.tupI; exact ⟨p, rfl⟩
        | lst m => obtain ⟨p, xs, rfl, _⟩ := h; exact ⟨p, rfl⟩
        | _ => cases hl
      obtain ⟨a, rfl⟩ := isr
      cases ru
      refine repr_of_reads' (h₀ := s.heap) rd c2 (noDict_hsm' c1) C.gds (by omega) (fun _ _ z => z) (fun h' u tk k => ?_) c4
      exact ⟨.str p.shown, H, I.kept k, ⟨_, rfl⟩, w _ F H st (Post.str _)⟩
    · exact w.elim
  · obtain ⟨x, rfl, p, xs, rfl, h1, h2, h3⟩ := ra.one
    refine call_tuple_of pins s σ H _ us Q I rx ⟨p, xs, rfl, .inl ⟨.of h1, fun t nt => ?_⟩⟩
    have b := Step.born C.ok gi sb ns (o := .tup xs) nt
    exact w _ _ _ b (Post.rep (Rep.tup upd_same (h2.mono b.sub)) (fun _ z => by cases z))
  · obtain ⟨x, rfl, h⟩ := ra.one
    obtain ⟨p, xs, rfl, h1, h2⟩ := h.tupI
    exact call_tuple_of pins s σ H _ us Q I rx ⟨p, xs, rfl, .inr ⟨by rw [C.K]; exact sb.seqT h1, w _ F H st (Post.rep h (fun _ z => by cases z))⟩⟩
  · obtain ⟨x, rfl, p, xs, rfl, h1, h2, h3⟩ := ra.one
    refine call_list_of pins s σ H _ us Q I rx ⟨p, xs, rfl, .inl (.of h1), fun t nt => ?_⟩
    exact w _ F _ (Step.laid C.ok gi sb ns nt) ⟨t, _, rfl, upd_same, h2, none_sub sb nt, nt⟩
  · obtain ⟨x, rfl, h⟩ := ra.one
    obtain ⟨p, xs, rfl, h1, h2⟩ := h.tupI
    refine call_list_of pins s σ H _ us Q I rx ⟨p, xs, rfl, .inr (by rw [C.K]; exact sb.seqT h1), fun t nt => ?_⟩
    exact w _ F _ (Step.laid C.ok gi sb ns nt) ⟨t, _, rfl, upd_same, h2, none_sub sb nt, nt⟩
  · obtain ⟨x, rfl, p, xs, rfl, h1, h2, h3⟩ := ra.one
    split at w
    · rename_i ks hk
      rw [h2.ints hk] at h1
      refine cr_sortedI pins s σ H _ us Q I rx ⟨p, ks, rfl, .of h1, fun ns' t pm so nt => ?_⟩
      rw [isrt_eq pm so]
      exact w _ F _ (Step.laid C.ok gi sb ns nt) ⟨t, _, rfl, upd_same, Reps.ofInts _, none_sub sb nt, nt⟩
    · exact w.elim
  · obtain ⟨x, rfl, h⟩ := ra.one
    obtain ⟨p, xs, rfl, h1, h2⟩ := h.tupI
    split at w
    · rename_i ks hk
      rw [h2.ints hk] at h1
      refine L2.cr_sortedIT pins s σ H _ us Q I rx ⟨p, ks, rfl, by rw [C.K]; exact sb.seqT h1, fun ns' t pm so nt => ?_⟩
      rw [isrt_eq pm so]
      exact w _ F _ (Step.laid C.ok gi sb ns nt) ⟨t, _, rfl, upd_same, Reps.ofInts _, none_sub sb nt, nt⟩
    · exact w.elim
  · exact w.elim

/-! ### isinstance -/
def tyVal (g : Gd) : Ty → Value
  | .none => .type "NoneType"
  | .int => .type "int"
  | .bool => .type "bool"
  | .str => .type "str"
  | .tuple => .type "tuple"
  | .list => .type "list"
  | .dict => .type "dict"
  | .cls c => .ref (g.r.ca c)
  | .exc c => .ref (g.r.ca c)
  | .valueError => .type "ValueError"
/-- the classes' facts -/
structure InsC (K : PySem.W.Frag) (C : Addr) : Prop where
  cl : L2.Cls K C
  ha : PySem.W.findIn K (.ref C) "__class__" = some (some (.builtin "object.__class__"))
  hn : PySem.W.specialIn K (.builtin "object.__class__") "__get__" = some (some (.builtin "getset_descriptor.__get__"))
  ht : PySem.W.takesIn K (.builtin "object.__class__") = some true
  hm : PySem.W.mroIn K C (.type "object") = some true
structure KOk (g : Gd) (G : Dp.Cls) : Prop where
  kit : ∀ k t, kdIn G k = true → tyIn G t = true → PySem.W.kitOne g.r.K (tyVal g k) (tyVal g t) = some (isTy G k t)
  ins : ∀ c, c < G.n → G.exn c = false → InsC g.r.K (g.r.ca c)
  exc : ∀ c, c < G.n → G.exn c = true → ExcC g.r.K (g.r.ca c)
theorem isi_D {g : Gd} {X : Cx} {G : Dp.Cls} (C : Cok g X) (KO : KOk g G) {pins : List (Addr × Obj)} {s : Shared} {σ : L2.St} {H F : Hp} {d : D} {t : Ty} {v : V} {u : Value} {Q : VK} {n : Nat} {Ex : Nat → Nat → List D → Prop}
    (I : L2.Inv X pins σ H s) (r : RelV v u) (gi : g.GI n H) (sb : Sub F H) (ns : Nsp g F) (ra : RepB g F H d v) (w : T.wp n (isiD G d t) (fun c d => ∀ v F' H', Step g F H c F' H' → Post g true F' H H' d v → Q v H') Ex) :
    wpAny (model X.prog X.w) X.A (call (.builtin "isinstance") [u, tyVal g t]) (EP X pins σ Q) X.xe s := by
  have st := Step.refl gi sb ns
  unfold isiD at w
  split at w
  · rename_i k hk
    obtain ⟨hz, w⟩ := T.wp_need.mp w
    rw [Bool.and_eq_true] at hz
    have kit := KO.kit k t hz.1 hz.2
    have fin := rOp_bl st w
    have go : ∀ {x : V}, x = v → TyX X.K H x (tyVal g k) → wpAny (model X.prog X.w) X.A (call (.builtin "isinstance") [u, tyVal g t]) (EP X pins σ Q) X.xe s := fun {x} e ty => by
      subst e
      obtain ⟨P, Z, p, hx⟩ := kit_of I r ty
      exact PySem.W.kia_one Z I.kIn p (by rw [C.K]; exact kit) hx fun tk => ⟨.bl _, H, I.tok tk, rfl, fin⟩
    cases d with
    | non => cases hk; exact go ra.nonI.symm (.base .non)
    | bl b => cases hk; exact go ra.blI.symm (.base (.bl b))
    | int b => cases hk; exact go ra.intI.symm (.base (.int b))
    | str b => cases hk; exact go ra.strI.symm (.base (.str b))
    | tup l =>
      cases hk
      obtain ⟨p, xs, rfl, h1, h2⟩ := ra.tupI
      rcases h1 with (h1 | ⟨o, h1⟩) | ⟨o, its, n, h1, h2, _⟩
      · exact go rfl (.base (.tup (sb _ _ h1)))
      · exact go rfl (.fTuple (sb _ _ h1))
      · exact go rfl (.kTuple (by rw [C.K]; exact h1) h2)
    | lst l =>
      cases hk
      obtain ⟨p, xs, rfl, h1, _⟩ := ra
      exact go rfl (.base (.lst h1))
    | dct =>
      cases hk
      have h : Rep g.r F .dct v := ra
      unfold Rep at h
      obtain ⟨p, rfl, h1⟩ := h
      exact go rfl (.base (.dK (sb _ _ h1)))
    | ins c l =>
      cases hk
      have h : Rep g.r F (.ins c l) v := ra
      unfold Rep at h
      obtain ⟨p, dx, xs, rfl, h1, _⟩ := h
      have hz1 := hz.1
      simp only [kdIn, Bool.and_eq_true, decide_eq_true_eq, Bool.not_eq_true'] at hz1
      have f := KO.ins c hz1.1 hz1.2
      rw [← C.K] at f
      exact go rfl (.base (.ins (sb _ _ h1) f.cl f.ha f.hn f.ht f.hm))
    | exc c l =>
      cases l with
      | cons _ _ => cases hk
      | nil =>
        cases hk
        have h : Rep g.r F (.exc c []) v := ra
        unfold Rep at h
        obtain ⟨p, dd, rfl, h1, h2⟩ := h
        have hz1 := hz.1
        simp only [kdIn, Bool.and_eq_true, decide_eq_true_eq] at hz1
        have f := KO.exc c hz1.1 hz1.2
        rw [← C.K] at f
        cases r
        rcases h2 with ⟨_, rfl⟩ | ⟨nl, _⟩
        · obtain ⟨⟨oe, vs, e1, e2, e3, e4⟩, _⟩ := I.hok p _ (sb _ _ h1)
          have J : PySem.W.InstAt s.heap p oe (g.r.ca c) none := by
            obtain ⟨oc, od, oda, osl⟩ := oe
            dsimp only at e2 e3 e4
            subst e2 e3 e4
            exact ⟨e1, rfl, rfl, trivial⟩
          exact PySem.W.kia_one (PySem.W.handS_kitx_exc f.hg f.hk f.hs f.hd f.ha f.hn f.ht f.hm) I.kIn J (by rw [C.K]; exact kit) (fun z => nomatch z) fun tk => ⟨.bl _, H, I.tok tk, rfl, fin⟩
        · exact absurd rfl nl
    | _ => cases hk
  · exact w.elim
end Dp
end

section
set_option Elab.async false
set_option linter.all false
set_option autoImplicit false
set_option maxRecDepth 100000
set_option maxHeartbeats 4000000
/-! Dp4: readings of terms; each construct of an expression. -/
namespace Dp
open PySem PySem.Spec PyProof.Rows L2

structure At (g : Gd) (M : Lm g) (k : Nat) (H0 F H : Hp) (σ : L2.St) (δ : Env) : Prop where
  gi : g.GI k H
  sb : Sub F H
  ns : Nsp g F
  env : EnvOk g M H0 F H σ δ
section
variable {g : Gd} {M : Lm g} {H0 F H F' H' F1 H1 : Hp} {σ : L2.St} {δ : Env} {W : WX} {n j : Nat}
theorem At.step (A : At g M n H0 F H σ δ) (s : Step g F H j F' H') : At g M j H0 F' H' σ δ := ⟨s.gi, s.frz, s.nsp, A.env.step s⟩
theorem At.now (A : At g M n H0 F H σ δ) : Step g F H n F H := .refl A.gi A.sb A.ns
/-- what is wanted of an exception -/
abbrev wX (g : Gd) (W : WX) (F H : Hp) (σ : L2.St) : Nat → Nat → List D → Prop := fun k c l => ∀ cls dd F' H', Step g F H k F' H' → RepX g F' c l cls dd → W cls dd σ H'
theorem wX.step (s : Step g F H n F1 H1) {k c : Nat} {l : List D} (h : wX g W F H σ k c l) : wX g W F1 H1 σ k c l := fun cls dd F' H' s' r => h cls dd F' H' (s.trans s') r
def tD (g : Gd) (M : Lm g) (W : WX) (o : Bool) (t : Env → T D) : TE := fun σ H Q => ∃ n H0 F δ, At g M n H0 F H σ δ ∧ T.wp n (t δ) (fun k d => ∀ v F' H', Step g F H k F' H' → Post g o F' H H' d v → Q v H') (wX g W F H σ)
def tDB (g : Gd) (M : Lm g) (W : WX) (t : Env → T D) : TE := fun σ H Q => ∃ n H0 F δ, At g M n H0 F H σ δ ∧ T.wp n (t δ) (fun k d => ∀ v F' H', Step g F H k F' H' → RepB g F' H' d v → Q v H') (wX g W F H σ)
def tDT (g : Gd) (M : Lm g) (W : WX) (t : Env → T Bool) : TT := fun σ H Q => ∃ n H0 F δ, At g M n H0 F H σ δ ∧ T.wp n (t δ) (fun k b => ∀ F' H', Step g F H k F' H' → Q b H') (wX g W F H σ)
def tDA (g : Gd) (M : Lm g) (W : WX) (n : Nat) (t : Env → T (List D)) : TA := fun σ H Q => ∃ q H0 F δ, At g M q H0 F H σ δ ∧ T.wp q (t δ) (fun k ds => ∀ vs F' H', Step g F H k F' H' → Reps g.r F' ds vs → vs.length = n → Q vs H') (wX g W F H σ)
def tDAB (g : Gd) (M : Lm g) (W : WX) (t : Env → T (List D)) : TA := fun σ H Q => ∃ n H0 F δ, At g M n H0 F H σ δ ∧ T.wp n (t δ) (fun k ds => ∀ vs F' H', Step g F H k F' H' → RepBs g F' H' ds vs → Q vs H') (wX g W F H σ)
def tDO (g : Gd) (M : Lm g) (W : WX) (t : Env → T (Option Int)) : TO := fun σ H Q => ∃ n H0 F δ, At g M n H0 F H σ δ ∧ T.wp n (t δ) (fun k o => ∀ F' H', Step g F H k F' H' → Q o H') (wX g W F H σ)

theorem imE {X : Cx} {e : Expr} {t t' : TE} (h : PE X e t) (i : ∀ σ H Q, t' σ H Q → t σ H Q) : PE X e t' := ⟨fun pins s σ H Q I q => h.run pins s σ H Q I (i σ H Q q)⟩
theorem imT {X : Cx} {e : Expr} {t t' : TT} (h : PT X e t) (i : ∀ σ H Q, t' σ H Q → t σ H Q) : PT X e t' := ⟨fun pins s σ H Q I q => h.run pins s σ H Q I (i σ H Q q)⟩
theorem imW {X : Cx} {e : Expr} {t t' : TT} (h : PW X e t) (i : ∀ σ H Q, t' σ H Q → t σ H Q) : PW X e t' := ⟨fun w pins s σ H Q I q => h.run w pins s σ H Q I (i σ H Q q)⟩
theorem imA {X : Cx} {e : List Expr} {t t' : TA} (h : PA X e t) (i : ∀ σ H Q, t' σ H Q → t σ H Q) : PA X e t' := ⟨fun p pins s σ H Q I q => h.run p pins s σ H Q I (i σ H Q q)⟩
theorem imS {X : Cx} {e : Stmt} {t t' : TS} (h : PS X e t) (i : ∀ D σ H, t' D σ H → t D σ H) : PS X e t' := ⟨fun pins s σ H D I q => h.run pins s σ H D I (i D σ H q)⟩
theorem imSs {X : Cx} {e : List Stmt} {t t' : TS} (h : PSs X e t) (i : ∀ D σ H, t' D σ H → t D σ H) : PSs X e t' := ⟨fun pins s σ H D I q => h.run pins s σ H D I (i D σ H q)⟩

theorem none_back (ok : g.Ok) (gi : g.GI n H) (s : Step g F H j F1 H1) {p : Addr} (h : H1 p = none) : H p = none := by
  cases e : H p with
  | none => rfl
  | some o =>
    rcases s.ext p o e with z | z
    · exact absurd h (ok.there _ H1 p s.gi z)
    · rw [h] at z; cases z
/-- what came a step later came -/
theorem Post.back (ok : g.Ok) (gi : g.GI n H) (s : Step g F H j F1 H1) {o : Bool} {d : D} {v : V} (h : Post g o F' H1 H' d v) : Post g o F' H H' d v := by
  cases o with
  | false => cases d <;> exact h
  | true =>
    cases d with
    | lst l =>
      obtain ⟨p, xs, e, h1, h2, h3, h4⟩ := h
      exact ⟨p, xs, e, h1, h2, h3, none_back ok gi s h4⟩
    | _ => exact h
theorem Post.toB (ok : g.Ok) (gi : g.GI n H) (s : Step g F H j F' H') {d : D} {v : V} (h : Post g true F' H H' d v) : RepB g F' H' d v := by
  cases d with
  | lst l =>
    obtain ⟨p, xs, e, h1, h2, h3, h4⟩ := h
    exact ⟨p, xs, e, h1, h2, nsp_new ok gi h4⟩
  | _ => exact h
theorem Post.toB' (ok : g.Ok) (gi : g.GI n H) (s : Step g F H j F' H') {o : Bool} {d : D} {v : V} (h : Post g o F' H H' d v) : RepB g F' H' d v := by
  cases o with
  | true => exact h.toB ok gi s
  | false =>
    have h : Rep g.r F' d v := by cases d <;> exact h
    exact h.toB s.frz s.nsp
theorem frzE {X : Cx} {e : Expr} {t : Env → T D} (ok : g.Ok) (h : PE X e (tD g M W true t)) : PE X e (tD g M W false t) :=
  imE h fun σ H Q ⟨n, H0, F, δ, A, w⟩ => ⟨_, H0, F, δ, A, T.wp_mono (fun _ d k v F' H' s p => by
    obtain ⟨F2, s2, _, r⟩ := p.freeze ok A.gi s
    exact k v F2 H' s2 (Post.of r)) (fun _ _ _ h => h) w⟩
theorem frzO {X : Cx} {e : Expr} {t : Env → T D} (ok : g.Ok) {o : Bool} (h : PE X e (tD g M W o t)) : PE X e (tD g M W false t) := by
  cases o with
  | false => exact h
  | true => exact frzE ok h
theorem toBE {X : Cx} {e : Expr} {t : Env → T D} {o : Bool} (ok : g.Ok) (h : PE X e (tD g M W o t)) : PE X e (tDB g M W t) :=
  imE h fun σ H Q ⟨n, H0, F, δ, A, w⟩ => ⟨_, H0, F, δ, A, T.wp_mono (fun _ d k v F' H' s p => k v F' H' s (p.toB' ok A.gi s)) (fun _ _ _ h => h) w⟩
/-- no exception is wished for -/
theorem wX.never {k c : Nat} {l : List D} (h : False) : wX g W F H σ k c l := h.elim

/-- two operands, one behind the other -/
theorem two_B {β : Type} {ta tb : Env → T D} {f : D → D → T β} {R : V → V → Hp → Prop} {K : Nat → β → Prop}
    (A : At g M n H0 F H σ δ) (w : T.wp n ((ta δ).bind fun x => (tb δ).bind fun y => f x y) K (wX g W F H σ))
    (fin : ∀ m a b x y F2 H2, Step g F H m F2 H2 → RepB g F2 H2 a x → RepB g F2 H2 b y → T.wp m (f a b) K (wX g W F H σ) → R x y H2) :
    tDB g M W ta σ H fun x H1 => tDB g M W tb σ H1 fun y H2 => R x y H2 := by
  refine ⟨_, H0, F, δ, A, T.wp_mono (fun _ a wa x F1 H1 s1 ra => ?_) (fun _ _ _ h => h) (T.wp_bind.mp w)⟩
  refine ⟨_, H0, F1, δ, A.step s1, T.wp_mono (fun _ b wb y F2 H2 s2 rb => ?_) (fun _ _ _ h => wX.step s1 h) (T.wp_bind.mp wa)⟩
  exact fin _ a b x y F2 H2 (s1.trans s2) (ra.step s2) rb wb
theorem one_B {ta : Env → T D} {β : Type} {f : D → T β} {R : V → Hp → Prop} {K : Nat → β → Prop}
    (A : At g M n H0 F H σ δ) (w : T.wp n ((ta δ).bind f) K (wX g W F H σ))
    (fin : ∀ m a x F2 H2, Step g F H m F2 H2 → RepB g F2 H2 a x → T.wp m (f a) K (wX g W F H σ) → R x H2) : tDB g M W ta σ H R :=
  ⟨_, H0, F, δ, A, T.wp_mono (fun _ a wa x F1 H1 s1 ra => fin _ a x F1 H1 s1 ra wa) (fun _ _ _ h => h) (T.wp_bind.mp w)⟩
end

/-! ### constructs -/
section
variable {g : Gd} {M : Lm g} {W : WX} {X : Cx} {pos : Pos} {a b c : Expr} {ta tb tc : Env → T D}
/-- the continuation, a step later -/
theorem later {F H F1 H1 : Hp} {Q : VK} {o : Bool} {n j m : Nat} (ok : g.Ok) (gi : g.GI n H) (s1 : Step g F H j F1 H1) {d : D} (k : ∀ v F' H', Step g F H m F' H' → Post g o F' H H' d v → Q v H') :
    ∀ v F' H', Step g F1 H1 m F' H' → Post g o F' H1 H' d v → Q v H' := fun v F' H' s p => k v F' H' (s1.trans s) (p.back ok gi s1)
theorem s_op (C : Cok g X) {o : Operator} (ha : PE X a (tDB g M W ta)) (hb : PE X b (tDB g M W tb)) :
    PE X (.BinOp a o b pos) (tD g M W true fun δ => (ta δ).bind fun x => (tb δ).bind fun y => opD o x y) := by
  refine imE (pe_op (op_D C o) ha hb) fun σ H Q ⟨n, H0, F, δ, A, w⟩ => ?_
  exact two_B A w fun _ d e x y F2 H2 s2 rd re wf => ⟨_, F2, d, e, _, s2.gi, s2.frz, s2.nsp, rd, re, T.wp_mono (fun _ _ k => later C.ok A.gi s2 k) (fun _ _ _ h => h) wf⟩
theorem s_neg (C : Cok g X) (ha : PE X a (tDB g M W ta)) : PE X (.UnaryOp .USub a pos) (tD g M W true fun δ => (ta δ).bind fun x => match x with | .int i => .ret (.int (-i)) | _ => .bad) := by
  refine imE (pe_un un_neg ha) fun σ H Q ⟨n, H0, F, δ, A, w⟩ => ?_
  refine one_B A w fun _ d x F2 H2 s2 rd wf => ?_
  split at wf
  · exact ⟨_, rd.intI, wf _ F2 H2 s2 (Post.int _)⟩
  · exact wf.elim
theorem s_cmp (C : Cok g X) {o : CmpOp} {f : D → D → T D} (hop : OpR X (compareOp o) (rOp g true f)) (ha : PE X a (tDB g M W ta)) (hb : PE X b (tDB g M W tb)) (hm : behindInMarks o b = false) :
    PE X (.Compare a [o] [b] pos) (tD g M W true fun δ => (ta δ).bind fun x => (tb δ).bind fun y => f x y) := by
  refine imE (pe_cmpR hop ha hb hm) fun σ H Q ⟨n, H0, F, δ, A, w⟩ => ?_
  exact two_B A w fun _ d e x y F2 H2 s2 rd re wf => ⟨_, F2, d, e, _, s2.gi, s2.frz, s2.nsp, rd, re, T.wp_mono (fun _ _ k => later C.ok A.gi s2 k) (fun _ _ _ h => h) wf⟩
/-- a test's operand -/
theorem asB_wp {n : Nat} {d : D} {K : Nat → Bool → Prop} {E : Nat → Nat → List D → Prop} (h : T.wp n (asB d) K E) : ∃ k, d = .bl k ∧ K n k := by
  cases d with
  | bl k => exact ⟨k, rfl, h⟩
  | _ => exact h.elim
/-- a comparison comes to a truth -/
theorem cmp_bl {n : Nat} {o : CmpOp} {x y : D} {K : Nat → D → Prop} {E : Nat → Nat → List D → Prop} (h : T.wp n (cmpD o x y) K E) : ∃ k, cmpD o x y = .ret (.bl k) ∧ K n (.bl k) := by
  have inn : ∀ {a : D} {l : List D} {k : Bool → D}, (∀ c, ∃ z, k c = .bl z) → T.wp n (inD a l k) K E → ∃ z, inD a l k = .ret (.bl z) ∧ K n (.bl z) := by
    intro a l k hk w
    unfold inD at w ⊢
    split at w
    · rename_i p q e1 e2
      obtain ⟨hz, w⟩ := T.wp_need.mp w
      obtain ⟨z, e⟩ := hk (q.any fun z => PyData.eqv z p)
      rw [e] at w ⊢
      exact ⟨z, by unfold T.need; rw [if_pos hz], w⟩
    · exact w.elim
  have eqn : ∀ {k : Bool → D}, (∀ c, ∃ z, k c = .bl z) → T.wp n (eqD x y k) K E → ∃ z, eqD x y k = .ret (.bl z) ∧ K n (.bl z) := by
    intro k hk w
    unfold eqD at w ⊢
    split at w
    · rename_i p q e1 e2
      obtain ⟨hz, w⟩ := T.wp_need.mp w
      obtain ⟨z, e⟩ := hk (PyData.eqv p q)
      rw [e] at w ⊢
      exact ⟨z, by unfold T.need; rw [if_pos hz], w⟩
    · exact w.elim
  unfold cmpD at h ⊢
  split at h
  · exact eqn (fun c => ⟨c, rfl⟩) h
  · exact eqn (fun c => ⟨!c, rfl⟩) h
  · exact ⟨_, rfl, h⟩
  · exact ⟨_, rfl, h⟩
  · exact ⟨_, rfl, h⟩
  · exact ⟨_, rfl, h⟩
  · split at h
    · exact ⟨_, rfl, h⟩
    · exact h.elim
  · split at h
    · exact ⟨_, rfl, h⟩
    · exact h.elim
  · exact inn (fun c => ⟨c, rfl⟩) h
  · exact inn (fun c => ⟨c, rfl⟩) h
  · exact inn (fun c => ⟨!c, rfl⟩) h
  · exact inn (fun c => ⟨!c, rfl⟩) h
  · exact h.elim

/-! ### tests -/
theorem t_val {t : Env → T D} {o : Bool} (h : PE X a (tDB g M W t)) (he : ∀ whole, isTrue a X.env whole = (do let v ← whole; standAt a.pos; holding [v] (truthy v))) : PT X a (tDT g M W fun δ => (t δ).bind asB) := by
  refine imT (pt_val h he) fun σ H Q ⟨n, H0, F, δ, A, w⟩ => ?_
  refine one_B A w fun _ d x F2 H2 s2 rd wf => ?_
  obtain ⟨k, rfl, q⟩ := asB_wp wf
  exact ⟨k, rd.blI, q F2 H2 s2⟩
theorem t_cmp (C : Cok g X) {o : CmpOp} {f : D → D → T D} (hop : OpR X (compareOp o) (rOp g true f)) (ha : PE X a (tDB g M W ta)) (hb : PE X b (tDB g M W tb)) (hm : behindInMarks o b = false) :
    PT X (.Compare a [o] [b] pos) (tDT g M W fun δ => ((ta δ).bind fun x => (tb δ).bind fun y => f x y).bind asB) := by
  refine imT (pt_cmpR hop ha hb hm) fun σ H Q ⟨n, H0, F, δ, A, w⟩ => ?_
  have w := T.wp_bind.mp w
  exact two_B A w fun _ d e x y F2 H2 s2 rd re wf => by
    refine ⟨_, F2, d, e, wX g W F H σ, s2.gi, s2.frz, s2.nsp, rd, re, T.wp_mono (fun c z hz => ?_) (fun _ _ _ h => h) wf⟩
    intro v F' H' s' p
    obtain ⟨k, rfl, q⟩ := asB_wp hz
    exact ⟨k, (show RepB g F' H' (.bl k) v from p).blI, q F' H' (s2.trans s')⟩
theorem t_and {r : Expr} {rest : List Expr} {tr : Env → T D} (ha : PT X a (tDT g M W fun δ => (ta δ).bind asB)) (hr : PW X (.BoolOp .And (r :: rest) pos) (tDT g M W fun δ => (tr δ).bind asB)) :
    PW X (.BoolOp .And (a :: r :: rest) pos) (tDT g M W fun δ => ((ta δ).bind fun x => (asB x).bind fun k => if k = true then tr δ else .ret (.bl false)).bind asB) := by
  refine imW (pw_and ha hr) fun σ H Q ⟨n, H0, F, δ, A, w⟩ => ?_
  have w1 := T.wp_bind.mp (T.wp_bind.mp w)
  refine ⟨_, H0, F, δ, A, T.wp_bind.mpr (T.wp_mono (fun _ x hx => T.wp_mono (fun _ k hk F' H' s' => ?_) (fun _ _ _ h => h) (T.wp_bind.mp hx)) (fun _ _ _ h => h) w1)⟩
  cases k with
  | false => exact hk F' H' s'
  | true => exact ⟨_, H0, F', δ, A.step s', T.wp_bind.mpr (T.wp_mono (fun _ y hy => T.wp_mono (fun _ b hb F2 H2 s2 => hb F2 H2 (s'.trans s2)) (fun _ _ _ h => wX.step s' h) hy) (fun _ _ _ h => wX.step s' h) hk)⟩
theorem t_or {r : Expr} {rest : List Expr} {tr : Env → T D} (ha : PT X a (tDT g M W fun δ => (ta δ).bind asB)) (hr : PW X (.BoolOp .Or (r :: rest) pos) (tDT g M W fun δ => (tr δ).bind asB)) :
    PW X (.BoolOp .Or (a :: r :: rest) pos) (tDT g M W fun δ => ((ta δ).bind fun x => (asB x).bind fun k => if k = true then .ret (.bl true) else tr δ).bind asB) := by
  refine imW (pw_or ha hr) fun σ H Q ⟨n, H0, F, δ, A, w⟩ => ?_
  have w1 := T.wp_bind.mp (T.wp_bind.mp w)
  refine ⟨_, H0, F, δ, A, T.wp_bind.mpr (T.wp_mono (fun _ x hx => T.wp_mono (fun _ k hk F' H' s' => ?_) (fun _ _ _ h => h) (T.wp_bind.mp hx)) (fun _ _ _ h => h) w1)⟩
  cases k with
  | true => exact hk F' H' s'
  | false => exact ⟨_, H0, F', δ, A.step s', T.wp_bind.mpr (T.wp_mono (fun _ y hy => T.wp_mono (fun _ b hb F2 H2 s2 => hb F2 H2 (s'.trans s2)) (fun _ _ _ h => wX.step s' h) hy) (fun _ _ _ h => wX.step s' h) hk)⟩
theorem asB_asB {n : Nat} {t : T D} {K : Nat → Bool → Prop} {E : Nat → Nat → List D → Prop} (w : T.wp n ((t.bind fun x => (asB x).bind fun b => .ret (.bl b)).bind asB) K E) : T.wp n (t.bind asB) K E := by
  have w1 := T.wp_bind.mp (T.wp_bind.mp w)
  exact T.wp_bind.mpr (T.wp_mono (fun _ x hx => T.wp_mono (fun _ k hk => hk) (fun _ _ _ h => h) (T.wp_bind.mp hx)) (fun _ _ _ h => h) w1)
theorem t_and1 (ha : PT X a (tDT g M W fun δ => (ta δ).bind asB)) : PW X (.BoolOp .And [a] pos) (tDT g M W fun δ => ((ta δ).bind fun x => (asB x).bind fun b => .ret (.bl b)).bind asB) :=
  imW (pw_and1 ha) fun σ H Q ⟨n, H0, F, δ, A, w⟩ => ⟨_, H0, F, δ, A, asB_asB w⟩
theorem t_or1 (ha : PT X a (tDT g M W fun δ => (ta δ).bind asB)) : PW X (.BoolOp .Or [a] pos) (tDT g M W fun δ => ((ta δ).bind fun x => (asB x).bind fun b => .ret (.bl b)).bind asB) :=
  imW (pw_or1 ha) fun σ H Q ⟨n, H0, F, δ, A, w⟩ => ⟨_, H0, F, δ, A, asB_asB w⟩
theorem t_not (ha : PT X a (tDT g M W fun δ => (ta δ).bind asB)) : PT X (.UnaryOp .Not a pos) (tDT g M W fun δ => ((ta δ).bind fun x => (asB x).bind fun b => .ret (.bl (!b))).bind asB) := by
  refine imT (pt_not ha) fun σ H Q ⟨n, H0, F, δ, A, w⟩ => ?_
  have w1 := T.wp_bind.mp (T.wp_bind.mp w)
  exact ⟨_, H0, F, δ, A, T.wp_bind.mpr (T.wp_mono (fun _ x hx => T.wp_mono (fun _ k hk F' H' s' => hk F' H' s') (fun _ _ _ h => h) (T.wp_bind.mp hx)) (fun _ _ _ h => h) w1)⟩

/-! ### the same as values -/
theorem s_and {r : Expr} {rest : List Expr} {tr : Env → T D} (C : Cok g X) (ha : PE X a (tDB g M W ta)) (hr : PE X (.BoolOp .And (r :: rest) pos) (tD g M W false tr)) :
    PE X (.BoolOp .And (a :: r :: rest) pos) (tD g M W false fun δ => (ta δ).bind fun x => (asB x).bind fun k => if k = true then tr δ else .ret (.bl false)) := by
  refine imE (pe_and ha hr) fun σ H Q ⟨n, H0, F, δ, A, w⟩ => ?_
  refine one_B A w fun _ d x F2 H2 s2 rd wf => ?_
  obtain ⟨k, rfl, q⟩ := asB_wp (T.wp_bind.mp wf)
  refine ⟨k, rd.blI, ?_⟩
  cases k with
  | false => exact q _ F2 H2 s2 (Post.bl false)
  | true => exact ⟨_, H0, F2, δ, A.step s2, T.wp_mono (fun _ _ k => later C.ok A.gi s2 k) (fun _ _ _ h => wX.step s2 h) q⟩
theorem s_or {r : Expr} {rest : List Expr} {tr : Env → T D} (C : Cok g X) (ha : PE X a (tDB g M W ta)) (hr : PE X (.BoolOp .Or (r :: rest) pos) (tD g M W false tr)) :
    PE X (.BoolOp .Or (a :: r :: rest) pos) (tD g M W false fun δ => (ta δ).bind fun x => (asB x).bind fun k => if k = true then .ret (.bl true) else tr δ) := by
  refine imE (pe_or ha hr) fun σ H Q ⟨n, H0, F, δ, A, w⟩ => ?_
  refine one_B A w fun _ d x F2 H2 s2 rd wf => ?_
  obtain ⟨k, rfl, q⟩ := asB_wp (T.wp_bind.mp wf)
  refine ⟨k, rd.blI, ?_⟩
  cases k with
  | true => exact q _ F2 H2 s2 (Post.bl true)
  | false => exact ⟨_, H0, F2, δ, A.step s2, T.wp_mono (fun _ _ k => later C.ok A.gi s2 k) (fun _ _ _ h => wX.step s2 h) q⟩
theorem s_one {op : BoolOp} (ha : PE X a (tDB g M W ta)) : PE X (.BoolOp op [a] pos) (tD g M W false fun δ => (ta δ).bind fun x => (asB x).bind fun b => .ret (.bl b)) := by
  refine imE (pe_one ha) fun σ H Q ⟨n, H0, F, δ, A, w⟩ => ?_
  refine one_B A w fun _ d x F2 H2 s2 rd wf => ?_
  obtain ⟨k, rfl, q⟩ := asB_wp (T.wp_bind.mp wf)
  rw [rd.blI]
  exact q _ F2 H2 s2 (Post.bl k)
theorem s_not (ha : PE X a (tDB g M W ta)) : PE X (.UnaryOp .Not a pos) (tD g M W false fun δ => (ta δ).bind fun x => (asB x).bind fun b => .ret (.bl (!b))) := by
  refine imE (pe_not ha) fun σ H Q ⟨n, H0, F, δ, A, w⟩ => ?_
  refine one_B A w fun _ d x F2 H2 s2 rd wf => ?_
  obtain ⟨k, rfl, q⟩ := asB_wp (T.wp_bind.mp wf)
  exact ⟨k, rd.blI, q _ F2 H2 s2 (Post.bl _)⟩
theorem s_ite (C : Cok g X) (hc : PT X c (tDT g M W fun δ => (tc δ).bind asB)) (ha : PE X a (tD g M W false ta)) (hb : PE X b (tD g M W false tb)) :
    PE X (.IfExp c a b pos) (tD g M W false fun δ => (tc δ).bind fun x => (asB x).bind fun k => if k = true then ta δ else tb δ) := by
  refine imE (pe_ifExp hc ha hb) fun σ H Q ⟨n, H0, F, δ, A, w⟩ => ?_
  refine ⟨_, H0, F, δ, A, T.wp_bind.mpr (T.wp_mono (fun _ x hx => T.wp_mono (fun _ k hk F' H' s' => ?_) (fun _ _ _ h => h) (T.wp_bind.mp hx)) (fun _ _ _ h => h) (T.wp_bind.mp w))⟩
  cases k with
  | true => exact ⟨_, H0, F', δ, A.step s', T.wp_mono (fun _ _ k => later C.ok A.gi s' k) (fun _ _ _ h => wX.step s' h) hk⟩
  | false => exact ⟨_, H0, F', δ, A.step s', T.wp_mono (fun _ _ k => later C.ok A.gi s' k) (fun _ _ _ h => wX.step s' h) hk⟩
theorem s_cmp2 (C : Cok g X) {o p : CmpOp} (ha : PE X a (tDB g M W ta)) (hb : PE X b (tDB g M W tb)) (hc : PE X c (tDB g M W tc)) (hm : lastMarks [o, p] [b, c] = false) :
    PE X (.Compare a [o, p] [b, c] pos) (tD g M W true fun δ => (ta δ).bind fun x => (tb δ).bind fun y => (cmpD o x y).bind fun z => match z with
      | .bl true => (tc δ).bind fun w => cmpD p y w
      | .bl false => .ret (.bl false)
      | _ => .bad) := by
  refine imE (pe_chain (cmp_D C o) (cmp_D C p) ha hb hc hm) fun σ H Q ⟨n, H0, F, δ, A, w⟩ => ?_
  refine ⟨_, H0, F, δ, A, T.wp_mono (fun _ a wa x F1 H1 s1 ra => ?_) (fun _ _ _ h => h) (T.wp_bind.mp w)⟩
  refine ⟨_, H0, F1, δ, A.step s1, T.wp_mono (fun _ b wb y F2 H2 s2 rb => ?_) (fun _ _ _ h => wX.step s1 h) (T.wp_bind.mp wa)⟩
  have s12 := s1.trans s2
  obtain ⟨k, ek, q⟩ := cmp_bl (T.wp_bind.mp wb)
  refine ⟨_, F2, a, b, wX g W F H σ, s2.gi, s2.frz, s2.nsp, ra.step s2, rb, ?_⟩
  rw [ek]
  intro v F3 H3 s3 pv
  refine ⟨k, (show RepB g F3 H3 (.bl k) v from pv).blI, ?_⟩
  have s13 := s12.trans s3
  cases k with
  | false => exact q _ F3 H3 s13 (Post.bl false)
  | true =>
    refine ⟨_, H0, F3, δ, A.step s13, T.wp_mono (fun _ c wc z F4 H4 s4 rc => ?_) (fun _ _ _ h => wX.step s13 h) (T.wp_bind.mp q)⟩
    have s14 := s13.trans s4
    exact ⟨_, F4, b, c, _, s4.gi, s4.frz, s4.nsp, (rb.step s3).step s4, rc, T.wp_mono (fun _ _ k => later C.ok A.gi s14 k) (fun _ _ _ h => h) wc⟩
theorem t_cmp2 (C : Cok g X) {o p : CmpOp} (ha : PE X a (tDB g M W ta)) (hb : PE X b (tDB g M W tb)) (hc : PE X c (tDB g M W tc)) (hm : lastMarks [o, p] [b, c] = false) :
    PT X (.Compare a [o, p] [b, c] pos) (tDT g M W fun δ => ((ta δ).bind fun x => (tb δ).bind fun y => (cmpD o x y).bind fun z => match z with
      | .bl true => (tc δ).bind fun w => cmpD p y w
      | .bl false => .ret (.bl false)
      | _ => .bad).bind asB) := by
  refine imT (pt_chain (cmp_D C o) (cmp_D C p) ha hb hc hm) fun σ H Q ⟨n, H0, F, δ, A, w⟩ => ?_
  have w := T.wp_bind.mp w
  refine ⟨_, H0, F, δ, A, T.wp_mono (fun _ a wa x F1 H1 s1 ra => ?_) (fun _ _ _ h => h) (T.wp_bind.mp w)⟩
  refine ⟨_, H0, F1, δ, A.step s1, T.wp_mono (fun _ b wb y F2 H2 s2 rb => ?_) (fun _ _ _ h => wX.step s1 h) (T.wp_bind.mp wa)⟩
  have s12 := s1.trans s2
  obtain ⟨k, ek, q⟩ := cmp_bl (T.wp_bind.mp wb)
  refine ⟨_, F2, a, b, wX g W F H σ, s2.gi, s2.frz, s2.nsp, ra.step s2, rb, ?_⟩
  rw [ek]
  intro v F3 H3 s3 pv
  refine ⟨k, (show RepB g F3 H3 (.bl k) v from pv).blI, ?_⟩
  have s13 := s12.trans s3
  cases k with
  | false => exact ⟨false, rfl, q F3 H3 s13⟩
  | true =>
    refine ⟨_, H0, F3, δ, A.step s13, T.wp_mono (fun _ c wc z F4 H4 s4 rc => ?_) (fun _ _ _ h => wX.step s13 h) (T.wp_bind.mp q)⟩
    have s14 := s13.trans s4
    obtain ⟨k2, ek2, q2⟩ := cmp_bl wc
    refine ⟨_, F4, b, c, wX g W F H σ, s4.gi, s4.frz, s4.nsp, (rb.step s3).step s4, rc, ?_⟩
    rw [ek2]
    intro v2 F5 H5 s5 pv2
    exact ⟨k2, (show RepB g F5 H5 (.bl k2) v2 from pv2).blI, q2 F5 H5 (s14.trans s5)⟩
end
end Dp
end

section
set_option Elab.async false
set_option linter.all false
set_option autoImplicit false
set_option maxRecDepth 100000
set_option maxHeartbeats 4000000
/-! Dp5: names, displays, places, slices, built-ins, what is walked. -/
namespace Dp
open PySem PySem.Spec PyProof.Rows L2
section
variable {g : Gd} {M : Lm g} {W : WX} {X : Cx} {pos : Pos} {a b c : Expr} {ta tb tc : Env → T D}

theorem s_ret {d : D} {v : V} {x : Expr} (h : PE X x (tC v)) (r : ∀ F, Rep g.r F d v) : PE X x (tD g M W false fun _ => .ret d) :=
  imE h fun σ H Q ⟨n, H0, F, δ, A, w⟩ => w v F H A.now (Post.of (r F))
theorem s_var {i : Nat} {x : Str} (hN : X.N[i]? = some x) (hv : Vis X.env.scope x) (hd : (x == ("__debug__" : Str)) = false) (hcd : (x == ("__classdict__" : Str)) = false) :
    PE X (.Name x pos) (tD g M W false fun δ => match look δ i with | .v d => .ret d | .ot l => .ret (.tup l) | _ => .bad) := by
  refine imE (pe_var hN hv hd hcd) fun σ H Q ⟨n, H0, F, δ, A, w⟩ => ?_
  have B := A.env.at_ i
  dsimp only at w
  split at w
  · rename_i d e
    rw [e] at B
    obtain ⟨v, e1, r⟩ := B
    exact ⟨v, e1, w v F H A.now (Post.of r)⟩
  · rename_i l e
    rw [e] at B
    obtain ⟨p, o, xs, e1, _, _, h1, r⟩ := B
    refine ⟨.ref p, e1, w (.ref p) F H A.now (Post.of ?_)⟩
    unfold Rep
    exact ⟨p, xs, rfl, .inl (.inr ⟨o, h1⟩), r⟩
  · exact w.elim
theorem s_bor {i : Nat} {x : Str} (hN : X.N[i]? = some x) (hv : Vis X.env.scope x) (hd : (x == ("__debug__" : Str)) = false) (hcd : (x == ("__classdict__" : Str)) = false) :
    PE X (.Name x pos) (tDB g M W fun δ => match look δ i with | .own l => .ret (.lst l) | _ => .bad) := by
  refine imE (pe_var hN hv hd hcd) fun σ H Q ⟨n, H0, F, δ, A, w⟩ => ?_
  have B := A.env.at_ i
  dsimp only at w
  split at w
  · rename_i l e
    rw [e] at B
    obtain ⟨p, xs, e1, h1, h2, h3, h4, h5⟩ := B
    exact ⟨.ref p, e1, w (.ref p) F H A.now ⟨p, xs, rfl, h1, h2, h5⟩⟩
  · exact w.elim
theorem a_nil : PA X [] (tDA g M W 0 fun _ => .ret []) := imA pa_nil fun σ H Q ⟨n, H0, F, δ, A, w⟩ => w [] F H A.now .nil rfl
theorem a_cons {es : List Expr} {n : Nat} {tr : Env → T (List D)} (ha : PE X a (tD g M W false ta)) (hr : PA X es (tDA g M W n tr)) (hs : starEach (a :: es) X.env = (false, eval a X.env) :: starEach es X.env) :
    PA X (a :: es) (tDA g M W (n + 1) fun δ => (ta δ).bind fun d => (tr δ).bind fun ds => .ret (d :: ds)) := by
  refine imA (pa_cons ha hr hs) fun σ H Q ⟨n, H0, F, δ, A, w⟩ => ?_
  refine ⟨_, H0, F, δ, A, T.wp_mono (fun _ d wd v F1 H1 s1 r1 => ?_) (fun _ _ _ h => h) (T.wp_bind.mp w)⟩
  have r1 : Rep g.r F1 d v := by cases d <;> exact r1
  refine ⟨_, H0, F1, δ, A.step s1, T.wp_mono (fun _ ds wds vs F2 H2 s2 r2 e2 => ?_) (fun _ _ _ h => wX.step s1 h) (T.wp_bind.mp wd)⟩
  exact wds (v :: vs) F2 H2 (s1.trans s2) (.cons (r1.mono s2.sub) r2) (by simp [e2])
theorem b_nil : PA X [] (tDAB g M W fun _ => .ret []) := imA pa_nil fun σ H Q ⟨n, H0, F, δ, A, w⟩ => w [] F H A.now rfl
theorem RepBs.step {F H F' H' : Hp} {j : Nat} : ∀ {l : List D} {vs : List V}, RepBs g F H l vs → Step g F H j F' H' → RepBs g F' H' l vs
  | [], _, h, _ => h
  | d :: l, _, ⟨x, ys, e, h1, h2⟩, s => ⟨x, ys, e, h1.step s, RepBs.step h2 s⟩
theorem b_cons {es : List Expr} {tr : Env → T (List D)} (ha : PE X a (tDB g M W ta)) (hr : PA X es (tDAB g M W tr)) (hs : starEach (a :: es) X.env = (false, eval a X.env) :: starEach es X.env) :
    PA X (a :: es) (tDAB g M W fun δ => (ta δ).bind fun d => (tr δ).bind fun ds => .ret (d :: ds)) := by
  refine imA (pa_cons ha hr hs) fun σ H Q ⟨n, H0, F, δ, A, w⟩ => ?_
  refine ⟨_, H0, F, δ, A, T.wp_mono (fun _ d wd v F1 H1 s1 r1 => ?_) (fun _ _ _ h => h) (T.wp_bind.mp w)⟩
  refine ⟨_, H0, F1, δ, A.step s1, T.wp_mono (fun _ ds wds vs F2 H2 s2 r2 => ?_) (fun _ _ _ h => wX.step s1 h) (T.wp_bind.mp wd)⟩
  exact wds (v :: vs) F2 H2 (s1.trans s2) ⟨v, vs, rfl, r1.step s2, r2⟩
theorem s_tup {es : List Expr} {k n : Nat} {t : Env → T (List D)} (C : Cok g X) (ha : PA X es (tDA g M W n t)) (hn : n ≤ 1000) : PE X (.Tuple es k pos) (tD g M W false fun δ => (t δ).bind fun ds => .ret (.tup ds)) := by
  refine imE (pe_tup ha) fun σ H Q ⟨n, H0, F, δ, A, w⟩ => ?_
  refine ⟨_, H0, F, δ, A, T.wp_mono (fun _ ds wd vs F1 H1 s1 r1 e1 => ⟨by rw [e1, sizeLine_eq]; omega, fun p np => ?_⟩) (fun _ _ _ h => h) (T.wp_bind.mp w)⟩
  have b := Step.born C.ok s1.gi s1.frz s1.nsp (o := .tup vs) np
  exact wd _ _ _ (s1.trans b) (Post.of (Rep.tup upd_same (r1.mono b.sub)))
theorem s_lst {es : List Expr} {n : Nat} {t : Env → T (List D)} (C : Cok g X) (ha : PA X es (tDA g M W n t)) (hn : n ≤ 1000) : PE X (.List es pos) (tD g M W true fun δ => (t δ).bind fun ds => .ret (.lst ds)) := by
  refine imE (pe_lst ha) fun σ H Q ⟨n, H0, F, δ, A, w⟩ => ?_
  refine ⟨_, H0, F, δ, A, T.wp_mono (fun _ ds wd vs F1 H1 s1 r1 e1 => ⟨by rw [e1, sizeLine_eq]; omega, fun p np => ?_⟩) (fun _ _ _ h => h) (T.wp_bind.mp w)⟩
  have b := Step.laid C.ok s1.gi s1.frz s1.nsp (o := .lst vs) np
  exact wd _ _ _ (s1.trans b) ⟨p, vs, rfl, upd_same, r1, none_sub s1.frz np, none_back C.ok A.gi s1 np⟩
theorem s_dct (C : Cok g X) : PE X (.Dict [] [] pos) (tD g M W false fun _ => .ret .dct) := by
  refine imE pe_dnewK fun σ H Q ⟨n, H0, F, δ, A, w⟩ p np => ?_
  have b := Step.born C.ok A.gi A.sb A.ns (o := .dK []) np
  refine w _ _ _ b (Post.of ?_)
  unfold Rep
  exact ⟨p, rfl, upd_same⟩
theorem s_ix (C : Cok g X) (ha : PE X a (tDB g M W ta)) (hb : PE X b (tDB g M W tb)) (hs : PlainIx b) :
    PE X (.Subscript a b pos) (tD g M W false fun δ => (ta δ).bind fun x => (tb δ).bind fun y => ixD x y) := by
  refine imE (pe_ix (ix_D C) ha hb hs) fun σ H Q ⟨n, H0, F, δ, A, w⟩ => ?_
  exact two_B A w fun _ d e x y F2 H2 s2 rd re wf => ⟨_, F2, d, e, _, s2.gi, s2.frz, s2.nsp, rd, re, T.wp_mono (fun _ _ k => later C.ok A.gi s2 k) (fun _ _ _ h => h) wf⟩
theorem o_no : PO X none (tDO g M W fun _ => .ret none) := ⟨fun pins s σ H Q I ⟨n, H0, F, δ, A, w⟩ => po_none.run pins s σ H Q I (w F H A.now)⟩
theorem o_e (ha : PE X a (tDB g M W ta)) : PO X (some a) (tDO g M W fun δ => (ta δ).bind fun x => match x with | .int i => .ret (some i) | _ => .bad) := by
  refine ⟨fun pins s σ H Q I ⟨n, H0, F, δ, A, w⟩ => (po_some ha).run pins s σ H Q I ?_⟩
  refine one_B A w fun _ d x F2 H2 s2 rd wf => ?_
  split at wf
  · exact ⟨_, rd.intI, wf F2 H2 s2⟩
  · exact wf.elim
theorem s_sl {lo hi : Option Expr} {p2 : Pos} {tl th : Env → T (Option Int)} (C : Cok g X) (ha : PE X a (tDB g M W ta)) (hl : PO X lo (tDO g M W tl)) (hh : PO X hi (tDO g M W th)) :
    PE X (.Subscript a (.Slice lo hi none p2) pos) (tD g M W true fun δ => (ta δ).bind fun x => (tl δ).bind fun i => (th δ).bind fun j => slD x i j) := by
  refine imE (pe_slice (sl_D C) ha hl hh) fun σ H Q ⟨n, H0, F, δ, A, w⟩ => ?_
  refine ⟨_, H0, F, δ, A, T.wp_mono (fun _ d wd x F1 H1 s1 r1 => ?_) (fun _ _ _ h => h) (T.wp_bind.mp w)⟩
  refine ⟨_, H0, F1, δ, A.step s1, T.wp_mono (fun _ i wi F2 H2 s2 => ?_) (fun _ _ _ h => wX.step s1 h) (T.wp_bind.mp wd)⟩
  have s12 := s1.trans s2
  refine ⟨_, H0, F2, δ, A.step s12, T.wp_mono (fun _ j wj F3 H3 s3 => ?_) (fun _ _ _ h => wX.step s12 h) (T.wp_bind.mp wi)⟩
  have s13 := s12.trans s3
  exact ⟨_, F3, d, _, s13.gi, s13.frz, s13.nsp, (r1.step s2).step s3, T.wp_mono (fun _ _ k => later C.ok A.gi s13 k) (fun _ _ _ h => h) wj⟩
/-- a built-in of values called -/
theorem s_bi {bi : BI} {x : Str} {p : Pos} {e : Expr} {es : List Expr} {t : Env → T (List D)} (C : Cok g X) (hg : Gl X x) (hm : X.mg x = none) (hv : bootBuiltins x = some (biVal bi)) (ha : PA X (e :: es) (tDAB g M W t)) (hn : x ≠ "__name__") (hdb : (x == ("__debug__" : Str)) = false)
    (he : starEach (e :: es) X.env = (false, eval e X.env) :: starEach es X.env) (hpl : (backTo pos (starEach es X.env)).any (·.1) = false) :
    PE X (.Call (.Name x p) (e :: es) [] pos) (tD g M W true fun δ => (t δ).bind fun ds => biD bi ds) := by
  have fin : PE X (.Call (.Name x p) (e :: es) [] pos) (tCB (rBi g bi) (tDAB g M W t)) := by
    have h := bi_D C bi
    cases bi <;> first | exact pe_callB h hg hm hv ha hn hdb he hpl | exact pe_callTy h hg hm hv ha hn hdb he hpl
  refine imE fin fun σ H Q ⟨n, H0, F, δ, A, w⟩ => ?_
  refine ⟨_, H0, F, δ, A, T.wp_mono (fun _ ds wd vs F1 H1 s1 r1 => ?_) (fun _ _ _ h => h) (T.wp_bind.mp w)⟩
  exact ⟨_, F1, ds, _, s1.gi, s1.frz, s1.nsp, r1, T.wp_mono (fun _ _ k => later C.ok A.gi s1 k) (fun _ _ _ h => h) wd⟩
/-- e.f of an instance -/
theorem zip_lookup {r : R} {F : Hp} : ∀ {ks : List Str} {xs : List V} {l : List D} {i : Nat} {x : Str} {d : D}, ks.Nodup → Reps r F l xs → ks[i]? = some x → l[i]? = some d → ∃ v, (ks.zip xs).lookup x = some v ∧ Rep r F d v
  | [], _, _, _, _, _, _, _, h, _ => by simp at h
  | k :: ks, _, [], i, x, d, _, _, _, h => by simp at h
  | k :: ks, _, e :: l, 0, x, d, nd, h, h1, h2 => by
    obtain ⟨v, ys, rfl, r1, r2⟩ := h.cons_inv
    simp at h1 h2; subst h1; subst h2
    exact ⟨v, by simp [List.lookup], r1⟩
  | k :: ks, _, e :: l, i + 1, x, d, nd, h, h1, h2 => by
    obtain ⟨v, ys, rfl, r1, r2⟩ := h.cons_inv
    obtain ⟨nk, nd⟩ := List.nodup_cons.mp nd
    have hx : x ∈ ks := List.mem_of_getElem? (by simpa using h1)
    obtain ⟨w, e1, e2⟩ := zip_lookup (i := i) nd r2 (by simpa using h1) (by simpa using h2)
    refine ⟨w, ?_, e2⟩
    have ne : (x == k) = false := beq_eq_false_iff_ne.mpr fun z => nk (z ▸ hx)
    simp [List.lookup, ne, e1]
end

/-! ### what is walked -/
/-- the places of l come, one behind another; fz: what is walked is frozen -/
def Yields (g : Gd) (fz : Bool) (J : It) (F H : Hp) (l : List D) : Prop := ∀ k F' H', g.GI k H' → Sub F F' → Sub F' H' → Nsp g F' → (fz = false → Ext g H H') →
  (∀ (i : Nat) (d : D), l[i]? = some d → J.go i H' ∧ ∀ x H2, J.yld i H' x H2 → ∃ F2, Step g F' H' k F2 H2 ∧ Rep g.r F2 d x) ∧ ∀ i, l.length ≤ i → J.stop i H'
def iD (g : Gd) (M : Lm g) (W : WX) (fz : Bool) (t : Env → T (List D)) : TI := fun σ H R => ∃ n H0 F δ, At g M n H0 F H σ δ ∧ T.wp n (t δ) (fun k l => ∀ J F' H', Step g F H k F' H' → Yields g fz J F' H' l → R J H') (wX g W F H σ)
section
variable {g : Gd} {M : Lm g} {W : WX} {X : Cx} {pos : Pos} {a b c tg : Expr} {ta tb tc : Env → T D}
theorem imI {e : Expr} {t t' : TI} (h : PI X tg e t) (i : ∀ σ H R, t' σ H R → t σ H R) : PI X tg e t' := ⟨fun pins s σ H R I q => h.run pins s σ H R I (i σ H R q)⟩
theorem y_list {K : PySem.W.Frag} {F H : Hp} {p : Addr} {xs : List V} {l : List D} {fz : Bool} (h : H p = some (.lst xs)) (hf : fz = true → F p = some (.lst xs)) (ns : ¬ g.sp p) (r : Reps g.r F l xs) : Yields g fz (Itl K p) F H l := by
  intro k F' H' gi sf sh nsp ex
  have hp : H' p = some (.lst xs) := by
    cases fz with
    | true => exact sh _ _ (sf _ _ (hf rfl))
    | false => exact (ex rfl p _ h).resolve_left ns
  have st := Step.refl gi sh nsp
  refine ⟨fun i d e => ?_, fun i e => ⟨xs, .of hp, by rw [r.len]; exact e⟩⟩
  obtain ⟨v, e1, e2⟩ := r.get e
  refine ⟨⟨xs, v, .of hp, e1⟩, fun x H2 y => ?_⟩
  obtain ⟨rfl, y⟩ := y
  have e3 := y xs (.of hp)
  rw [e1] at e3; cases e3
  exact ⟨F', st, e2.mono sf⟩
theorem y_tup {K : PySem.W.Frag} {F H : Hp} {p : Addr} {xs : List V} {l : List D} {fz : Bool} (h : SqT K F p xs) (r : Reps g.r F l xs) : Yields g fz (Itt K p) F H l := by
  intro k F' H' gi sf sh nsp ex
  have hp : SqT K H' p xs := Sub.seqT sh (Sub.seqT sf h)
  have st := Step.refl gi sh nsp
  refine ⟨fun i d e => ?_, fun i e => ⟨xs, hp, by rw [r.len]; exact e⟩⟩
  obtain ⟨v, e1, e2⟩ := r.get e
  refine ⟨⟨xs, v, hp, e1⟩, fun x H2 y => ?_⟩
  obtain ⟨rfl, y⟩ := y
  have e3 := y xs hp
  rw [e1] at e3; cases e3
  exact ⟨F', st, e2.mono sf⟩
theorem rng_get {lo hi : Int} {i : Nat} {d : D} (e : ((List.range (hi - lo).toNat).map fun i => D.int (lo + (i : Nat)))[i]? = some d) : i < (hi - lo).toNat ∧ d = .int (lo + (i : Nat)) := by
  rw [List.getElem?_map] at e
  by_cases h : i < (hi - lo).toNat
  · rw [List.getElem?_range h] at e
    exact ⟨h, (Option.some.inj e).symm⟩
  · rw [List.getElem?_eq_none (by simpa using h)] at e; cases e
theorem y_rng {F H : Hp} {lo hi : Int} {fz : Bool} : Yields g fz (Itr lo (hi - lo).toNat) F H ((List.range (hi - lo).toNat).map fun i => .int (lo + (i : Nat))) := by
  intro k F' H' gi sf sh nsp ex
  have st := Step.refl gi sh nsp
  refine ⟨fun i d e => ?_, fun i e => by
    show (hi - lo).toNat ≤ i
    rw [List.length_map, List.length_range] at e
    exact e⟩
  obtain ⟨h, rfl⟩ := rng_get e
  refine ⟨h, fun x H2 y => ?_⟩
  obtain ⟨rfl, rfl⟩ := y
  exact ⟨F', st, Rep.int _⟩
/-- a list or tuple by an expression, frozen -/
theorem seq_PI {e : Expr} {t : TE} {K : PySem.W.Frag} (h : PE X e t) (hK : X.K = K) : PI X tg e (fun σ H R => t σ H fun x H1 => ∃ p, x = .ref p ∧ ((∃ xs, SqL K H1 p xs ∧ R (Itl K p) H1) ∨ ∃ xs, SqT K H1 p xs ∧ R (Itt K p) H1)) := by
  subst hK
  refine ⟨fun pins s σ H R I q => ?_⟩
  refine thn (h.run pins s σ H _ I q) fun v s1 ⟨x, H1, I1, r1, p, e, q1⟩ => ?_
  subst e
  rcases q1 with ⟨xs, h1, h2⟩ | ⟨xs, h1, h2⟩
  · have pe : PE X e (fun _ _ Q => False) := ⟨fun _ _ _ _ _ _ z => z.elim⟩
    cases r1
    obtain ⟨its, rv, pl, hz⟩ := I1.list h1
    refine wpAny_pyIter_list pl.isList ?_
    refine ⟨s1.heap.objs.size, [s1.heap.objs.size], _, _, H1, rfl, I1.kept (t' := s1.toks) fun b o e => Heap.get?_push_of_some _ e, turn_list p _, ⟨_, Heap.get?_push_size _ rfl, rfl, rfl⟩, fun b hb => ?_, h2⟩
    have e : b = s1.heap.objs.size := by simpa using hb
    subst e
    exact I1.fpOk (Nat.le_refl _) (I1.hok.fresh (Nat.le_refl _))
  · cases r1
    obtain ⟨its, rv, pl, hz⟩ := I1.tuple h1
    refine wpAny_pyIter_tuple (show s1.heap.IsTuple p its.toArray from pl) ?_
    refine ⟨s1.heap.objs.size, [s1.heap.objs.size], _, _, H1, rfl, I1.kept (t' := s1.toks) fun b o e => Heap.get?_push_of_some _ e, turn_tuple p _, ⟨_, Heap.get?_push_size _ rfl, rfl, rfl⟩, fun b hb => ?_, h2⟩
    have e : b = s1.heap.objs.size := by simpa using hb
    subst e
    exact I1.fpOk (Nat.le_refl _) (I1.hok.fresh (Nat.le_refl _))
theorem i_e (C : Cok g X) (ha : PE X a (tDB g M W ta)) : PI X tg a (iD g M W false fun δ => (ta δ).bind fun x => match itemsD x with | some l => .ret l | none => .bad) := by
  refine imI (seq_PI ha C.K) fun σ H R ⟨n, H0, F, δ, A, w⟩ => ?_
  refine one_B A w fun _ d x F2 H2 s2 rd wf => ?_
  split at wf
  · rename_i l hl
    cases d with
    | tup m =>
      cases hl
      obtain ⟨p, xs, rfl, h1, h2⟩ := rd.tupI
      exact ⟨p, rfl, .inr ⟨xs, Sub.seqT s2.frz h1, wf _ F2 H2 s2 (y_tup h1 h2)⟩⟩
    | lst m =>
      cases hl
      obtain ⟨p, xs, rfl, h1, h2, h3⟩ := rd
      exact ⟨p, rfl, .inl ⟨xs, .of h1, wf _ F2 H2 s2 (y_list h1 (fun z => by cases z) h3 h2)⟩⟩
    | _ => cases hl
  · exact wf.elim
theorem i_ef (C : Cok g X) (ha : PE X a (tD g M W false ta)) : PI X tg a (iD g M W true fun δ => (ta δ).bind fun x => match itemsD x with | some l => .ret l | none => .bad) := by
  refine imI (seq_PI ha C.K) fun σ H R ⟨n, H0, F, δ, A, w⟩ => ?_
  refine ⟨_, H0, F, δ, A, T.wp_mono (fun _ d wf x F2 H2 s2 rd => ?_) (fun _ _ _ h => h) (T.wp_bind.mp w)⟩
  have rd : Rep g.r F2 d x := by cases d <;> exact rd
  split at wf
  · rename_i l hl
    cases d with
    | tup m =>
      cases hl
      obtain ⟨p, xs, rfl, h1, h2⟩ := rd.tupI
      exact ⟨p, rfl, .inr ⟨xs, Sub.seqT s2.frz h1, wf _ F2 H2 s2 (y_tup h1 h2)⟩⟩
    | lst m =>
      cases hl
      obtain ⟨p, xs, rfl, h1, h2⟩ := rd.lstI
      exact ⟨p, rfl, .inl ⟨xs, .of (s2.frz _ _ h1), wf _ F2 H2 s2 (y_list (s2.frz _ _ h1) (fun _ => h1) (s2.nsp _ _ h1) h2)⟩⟩
    | _ => cases hl
  · exact wf.elim
theorem rngD_wp {n : Nat} {lo hi : Int} {K : Nat → List D → Prop} {E : Nat → Nat → List D → Prop} (h : T.wp n (rngD lo hi) K E) : -(10 ^ 9) ≤ lo ∧ lo ≤ 10 ^ 9 ∧ hi ≤ 10 ^ 9 ∧ -(10 ^ 9) ≤ hi ∧ hi - lo ≤ lim ∧ K n ((List.range (hi - lo).toNat).map fun i => .int (lo + (i : Nat))) := by
  unfold rngD at h
  obtain ⟨hz, h⟩ := T.wp_need.mp h
  simp only [Bool.and_eq_true, decide_eq_true_eq] at hz
  exact ⟨hz.1.1.1.1, hz.1.1.1.2, hz.1.1.2, hz.1.2, hz.2, h⟩
theorem i_rng1 {p : Pos} {fz : Bool} (hg : Gl X "range") (hm : X.mg "range" = none) (ha : PE X a (tDB g M W ta)) (hs : starEach [a] X.env = [(false, eval a X.env)]) :
    PI X tg (.Call (.Name "range" p) [a] [] pos) (iD g M W fz fun δ => (ta δ).bind fun x => match x with | .int j => rngD 0 j | _ => .bad) := by
  refine imI (pi_range1 hg hm (pa_cons ha pa_nil hs) hs) fun σ H R ⟨n, H0, F, δ, A, w⟩ => ?_
  refine one_B A w fun _ d x F2 H2 s2 rd wf => ?_
  split at wf
  · rename_i j
    obtain ⟨h1, h2, h3, h4, h5, k⟩ := rngD_wp wf
    refine ⟨j, by rw [rd.intI], by omega, by omega, ?_⟩
    have y := y_rng (g := g) (F := F2) (H := H2) (lo := 0) (hi := j) (fz := fz)
    rw [Int.sub_zero] at y k
    exact k _ F2 H2 s2 y
  · exact wf.elim
theorem i_rng2 {p : Pos} {fz : Bool} (hg : Gl X "range") (hm : X.mg "range" = none) (ha : PE X a (tDB g M W ta)) (hb : PE X b (tDB g M W tb)) (hs : starEach [a, b] X.env = [(false, eval a X.env), (false, eval b X.env)]) (hs2 : starEach [b] X.env = [(false, eval b X.env)]) :
    PI X tg (.Call (.Name "range" p) [a, b] [] pos) (iD g M W fz fun δ => (ta δ).bind fun x => (tb δ).bind fun y => match x, y with | .int i, .int j => rngD i j | _, _ => .bad) := by
  refine imI (pi_range2 hg hm (pa_cons ha (pa_cons hb pa_nil hs2) (by rw [hs, hs2])) hs hs2) fun σ H R ⟨n, H0, F, δ, A, w⟩ => ?_
  refine two_B A w fun _ d e x y F2 H2 s2 rd re wf => ?_
  split at wf
  · rename_i i j
    obtain ⟨h1, h2, h3, h4, h5, k⟩ := rngD_wp wf
    exact ⟨i, j, by rw [rd.intI, re.intI], ⟨by omega, by omega, by omega, by omega⟩, k _ F2 H2 s2 y_rng⟩
  · exact wf.elim
end
end Dp
end

section
set_option Elab.async false
set_option linter.all false
set_option autoImplicit false
set_option maxRecDepth 100000
set_option maxHeartbeats 4000000
/-! Dp6: targets, enumerate, zip, ranges as lists, comprehensions, isinstance. -/
namespace Dp
open PySem PySem.Spec PyProof.Rows L2

/-! ### targets -/
section
variable {g : Gd} {M : Lm g} {W : WX} {X : Cx} {pos : Pos} {H0 F H F' H' : Hp} {σ : L2.St} {δ : Env}
theorem EnvOk.setV' (h : EnvOk g M H0 F H σ δ) {i : Nat} {d : D} {v : V} (q : Rep g.r F d v) : EnvOk g M H0 F H (σ.set i (some v)) (δ.set i (.v d)) := by
  by_cases hi : i < δ.length
  · exact h.setV hi q
  · have e1 : σ.set i (some v) = σ := List.set_eq_of_length_le (by rw [h.len]; omega)
    have e2 : δ.set i (.v d) = δ := List.set_eq_of_length_le (by omega)
    rw [e1, e2]; exact h
def gD (g : Gd) (M : Lm g) (t : Tg) : TG := fun v σ H Q => ∃ H0 F δ d δ', EnvOk g M H0 F H σ δ ∧ Rep g.r F d v ∧ Sub F H ∧ asg t d δ = some δ' ∧
  ∀ σ', EnvOk g M H0 F H σ' δ' → σ'.length = σ.length → (∀ j, j ∉ slotsT t → σ'[j]? = σ[j]?) → Q σ' H
def gDs (g : Gd) (M : Lm g) (t : List Tg) : TGs := fun vs σ H Q => ∃ H0 F δ ds δ', EnvOk g M H0 F H σ δ ∧ Reps g.r F ds vs ∧ Sub F H ∧ asgs t ds δ = some δ' ∧
  ∀ σ', EnvOk g M H0 F H σ' δ' → σ'.length = σ.length → (∀ j, j ∉ slotsTs t → σ'[j]? = σ[j]?) → Q σ' H
theorem imG {e : Expr} {t t' : TG} (h : PG X e t) (i : ∀ v σ H Q, t' v σ H Q → t v σ H Q) : PG X e t' := ⟨fun pins s σ H v u Q I r q => h.run pins s σ H v u Q I r (i v σ H Q q)⟩
theorem imGs {e : List Expr} {t t' : TGs} (h : PGs X e t) (i : ∀ v σ H Q, t' v σ H Q → t v σ H Q) : PGs X e t' := ⟨fun pins s σ H v u Q I r q => h.run pins s σ H v u Q I r (i v σ H Q q)⟩
theorem g_n {i : Nat} {x : Str} (nd : X.N.Nodup) (hi : X.N[i]? = some x) (hx : Loc X.env.scope x) (hf : X.fn x = true ∨ X.env.scope.names.lookup x = some .local) : PG X (.Name x pos) (gD g M (.n i)) := by
  refine imG (pg_name nd hi hx hf) fun v σ H Q ⟨H0, F, δ, d, δ', A, r, sb, e, k⟩ => ?_
  have e : δ.set i (.v d) = δ' := by simpa [asg] using e
  subst e
  refine k _ (A.setV' r) (by simp) fun j hj => ?_
  have hj : i ≠ j := fun z => hj (by subst z; simp [slotsT])
  exact List.getElem?_set_ne hj
theorem g_nil : PGs X [] (gDs g M []) := by
  refine imGs pgs_nil fun vs σ H Q ⟨H0, F, δ, ds, δ', A, r, sb, e, k⟩ => ?_
  cases ds with
  | nil => have e : δ = δ' := by simpa [asgs] using e
           subst e
           exact ⟨r.nil_inv, k _ A rfl fun _ _ => rfl⟩
  | cons _ _ => simp [asgs] at e
theorem g_cons {x : Expr} {xs : List Expr} {t : Tg} {ts : List Tg} (h1 : PG X x (gD g M t)) (h2 : PGs X xs (gDs g M ts)) (hs : (assignEach (x :: xs) X.env).map (·.2) = assign x X.env :: (assignEach xs X.env).map (·.2)) : PGs X (x :: xs) (gDs g M (t :: ts)) := by
  refine imGs (pgs_cons h1 h2 hs) fun vs σ H Q ⟨H0, F, δ, ds, δ', A, r, sb, e, k⟩ => ?_
  cases ds with
  | nil => simp [asgs] at e
  | cons d ds =>
    obtain ⟨v, ys, rfl, r1, r2⟩ := r.cons_inv
    cases q : asg t d δ with
    | none => simp [asgs, q] at e
    | some δ1 =>
      have e : asgs ts ds δ1 = some δ' := by simpa [asgs, q] using e
      refine ⟨v, ys, rfl, H0, F, δ, d, δ1, A, r1, sb, q, fun σ1 A1 l1 f1 => ?_⟩
      refine ⟨H0, F, δ1, ds, δ', A1, r2, sb, e, fun σ2 A2 l2 f2 => k σ2 A2 (l2.trans l1) fun j hj => ?_⟩
      have hj1 : j ∉ slotsT t := fun z => hj (by simp [slotsTs, z])
      have hj2 : j ∉ slotsTs ts := fun z => hj (by simp [slotsTs, z])
      exact (f2 j hj2).trans (f1 j hj1)
theorem g_t {es : List Expr} {k : Nat} {ts : List Tg} (C : Cok g X) (h : PGs X es (gDs g M ts)) (hn : (assignEach es X.env).length = ts.length) (hst : (assignEach es X.env).findIdx? (·.1) = none) : PG X (.Tuple es k pos) (gD g M (.t ts)) := by
  refine imG (pg_tup C.calm h hn hst) fun v σ H Q ⟨H0, F, δ, d, δ', A, r, sb, e, k⟩ => ?_
  cases d with
  | tup ds =>
    obtain ⟨p, xs, rfl, h1, h2⟩ := r.tupI
    have e : asgs ts ds δ = some δ' := by simpa [asg] using e
    have hl : ∀ (ts : List Tg) (ds : List D) (δ δ' : Env), asgs ts ds δ = some δ' → ts.length = ds.length := by
      intro ts
      induction ts with
      | nil => intro ds δ δ' e; cases ds with
        | nil => rfl
        | cons _ _ => simp [asgs] at e
      | cons t ts ih => intro ds δ δ' e; cases ds with
        | nil => simp [asgs] at e
        | cons d ds =>
          cases q : asg t d δ with
          | none => simp [asgs, q] at e
          | some δ1 =>
            have e : asgs ts ds δ1 = some δ' := by simpa [asgs, q] using e
            simp [ih ds δ1 δ' e]
    refine ⟨p, xs, rfl, by rw [C.K]; exact Sub.seqT sb h1, by rw [h2.len, ← hl ts ds δ δ' e], H0, F, δ, ds, δ', A, h2, sb, e, fun σ' A' l' f' => k σ' A' l' fun j hj => f' j (by simpa [slotsT] using hj)⟩
  | _ => simp [asg] at e
theorem wipe_get (σ : L2.St) (j : Nat) : ∀ vs : List Nat, (wipe σ vs)[j]? = if j ∈ vs ∧ j < σ.length then some none else σ[j]?
  | [] => by simp [wipe]
  | v :: vs => by
    show ((wipe σ vs).set v none)[j]? = _
    by_cases e : v = j
    · subst e
      by_cases hv : v < σ.length
      · rw [List.getElem?_set_self (by rw [wipe_length]; exact hv), if_pos ⟨by simp, hv⟩]
      · rw [List.getElem?_eq_none (by simp [wipe_length]; omega), if_neg (fun z => hv z.2), List.getElem?_eq_none (by omega)]
    · rw [List.getElem?_set_ne e, wipe_get σ j vs]
      have : (j ∈ v :: vs) ↔ j ∈ vs := by simp [Ne.symm e]
      simp only [this]
theorem wipe_same {σ σ2 : L2.St} {vs : List Nat} (hl : σ2.length = σ.length) (hf : ∀ j, j ∉ vs → σ2[j]? = (wipe σ vs)[j]?) : wipe σ2 vs = wipe σ vs := by
  refine List.ext_getElem? fun j => ?_
  rw [wipe_get, wipe_get, hl]
  by_cases h : j ∈ vs
  · by_cases q : j < σ.length
    · rw [if_pos ⟨h, q⟩, if_pos ⟨h, q⟩]
    · rw [if_neg (fun z => q z.2), if_neg (fun z => q z.2), List.getElem?_eq_none (by omega), List.getElem?_eq_none (by omega)]
  · have e := hf j h
    rw [wipe_get, if_neg (fun z => h z.1)] at e
    rw [if_neg (fun z => h z.1), if_neg (fun z => h z.1)]
    exact e
end

/-! ### enumerate, zip -/
section
variable {g : Gd} {M : Lm g} {W : WX} {X : Cx} {pos : Pos} {a b c tg : Expr} {ta tb tc : Env → T D}
theorem enum_get : ∀ {l : List D} {k i : Nat} {d : D}, (enumD k l)[i]? = some d → ∃ e, l[i]? = some e ∧ d = .tup [.int ((k + i : Nat)), e]
  | [], _, _, _, h => by simp [enumD] at h
  | e :: l, k, 0, d, h => by simp [enumD] at h; exact ⟨e, rfl, by rw [← h]; simp⟩
  | e :: l, k, i + 1, d, h => by
    have h : (enumD (k + 1) l)[i]? = some d := by simpa [enumD] using h
    obtain ⟨e', h1, h2⟩ := enum_get h
    exact ⟨e', by simpa using h1, by rw [h2]; congr 3; omega⟩
theorem enum_len : ∀ (l : List D) (k : Nat), (enumD k l).length = l.length
  | [], _ => rfl
  | _ :: l, k => by simp [enumD, enum_len l (k + 1)]
/-- a new tuple of what is known -/
theorem born_tup {k : Nat} (ok : g.Ok) {F H : Hp} (gi : g.GI k H) (sb : Sub F H) (ns : Nsp g F) {T : Addr} (nT : H T = none) {l : List D} {xs : List V} (r : Reps g.r F l xs) : ∃ F2, Step g F H k F2 (upd H T (.tup xs)) ∧ Rep g.r F2 (.tup l) (.ref T) := by
  have b := Step.born ok gi sb ns (o := .tup xs) nT
  exact ⟨_, b, Rep.tup upd_same (r.mono b.sub)⟩
/-- an operand, or (fz) frozen data -/
def tS (g : Gd) (M : Lm g) (W : WX) (fz : Bool) (t : Env → T D) : TE := if fz = true then tD g M W false t else tDB g M W t
theorem one_S {β : Type} {fz : Bool} {ta : Env → T D} {f : D → T β} {R : V → Hp → Prop} {K : Nat → β → Prop} {H0 F H : Hp} {σ : L2.St} {δ : Env} {n : Nat}
    (A : At g M n H0 F H σ δ) (w : T.wp n ((ta δ).bind f) K (wX g W F H σ))
    (fin : ∀ m a x F2 H2, Step g F H m F2 H2 → RepB g F2 H2 a x → (fz = true → Rep g.r F2 a x) → T.wp m (f a) K (wX g W F H σ) → R x H2) : tS g M W fz ta σ H R := by
  cases fz with
  | false => exact one_B A w fun _ a x F2 H2 s r wf => fin _ a x F2 H2 s r (fun z => by cases z) wf
  | true =>
    refine ⟨_, H0, F, δ, A, T.wp_mono (fun _ d wd x F2 H2 s r => ?_) (fun _ _ _ h => h) (T.wp_bind.mp w)⟩
    have r : Rep g.r F2 d x := by cases d <;> exact r
    exact fin _ d x F2 H2 s (r.toB s.frz s.nsp) (fun _ => r) wd
theorem two_S {β : Type} {fz : Bool} {ta tb : Env → T D} {f : D → D → T β} {R : V → V → Hp → Prop} {K : Nat → β → Prop} {H0 F H : Hp} {σ : L2.St} {δ : Env} {n : Nat}
    (A : At g M n H0 F H σ δ) (w : T.wp n ((ta δ).bind fun x => (tb δ).bind fun y => f x y) K (wX g W F H σ))
    (fin : ∀ m a b x y F2 H2, Step g F H m F2 H2 → RepB g F2 H2 a x → RepB g F2 H2 b y → (fz = true → Rep g.r F2 a x ∧ Rep g.r F2 b y) → T.wp m (f a b) K (wX g W F H σ) → R x y H2) :
    tS g M W fz ta σ H fun x H1 => tS g M W fz tb σ H1 fun y H2 => R x y H2 := by
  refine one_S A w fun _ a x F1 H1 s1 ra fa wa => ?_
  have A1 := A.step s1
  cases fz with
  | false => exact ⟨_, H0, F1, δ, A1, T.wp_mono (fun _ b wb y F2 H2 s2 rb => fin _ a b x y F2 H2 (s1.trans s2) (ra.step s2) rb (fun z => by cases z) wb) (fun _ _ _ h => wX.step s1 h) (T.wp_bind.mp wa)⟩
  | true =>
    refine ⟨_, H0, F1, δ, A1, T.wp_mono (fun _ b wb y F2 H2 s2 rb => ?_) (fun _ _ _ h => wX.step s1 h) (T.wp_bind.mp wa)⟩
    have rb : Rep g.r F2 b y := by cases b <;> exact rb
    exact fin _ a b x y F2 H2 (s1.trans s2) (ra.step s2) (rb.toB s2.frz s2.nsp) (fun _ => ⟨(fa rfl).mono s2.sub, rb⟩) wb
/-- a list that is walked stands -/
theorem lst_there {fz : Bool} {F H F' H' : Hp} {q : Addr} {xs : List V} (h1 : H q = some (.lst xs)) (hf : fz = true → F q = some (.lst xs)) (ns : ¬ g.sp q) (sf : Sub F F') (sh : Sub F' H') (ex : fz = false → Ext g H H') : H' q = some (.lst xs) := by
  cases fz with
  | true => exact sh _ _ (sf _ _ (hf rfl))
  | false => exact (ex rfl q _ h1).resolve_left ns
theorem frz_of {F : Hp} {l : List D} {q : Addr} {xs : List V} {H : Hp} (sb : Sub F H) (h1 : H q = some (.lst xs)) (r : Rep g.r F (.lst l) (.ref q)) : F q = some (.lst xs) := by
  obtain ⟨p, ys, e, k1, _⟩ := r.lstI
  cases e
  have := sb _ _ k1
  rw [h1] at this; cases this
  exact k1
theorem i_enum {p tpos : Pos} {elts : List Expr} {kk : Nat} {fz : Bool} (C : Cok g X) (hg : Gl X "enumerate") (hm : X.mg "enumerate" = none) (ha : PE X a (tS g M W fz ta)) (hs : starEach [a] X.env = [(false, eval a X.env)]) :
    PI X (.Tuple elts kk tpos) (.Call (.Name "enumerate" p) [a] [] pos) (iD g M W fz fun δ => (ta δ).bind fun x => match x with | .lst l => .ret (enumD 0 l) | .tup l => .ret (enumD 0 l) | _ => .bad) := by
  refine imI (pi_enumA hg hm (pa_cons ha pa_nil hs) hs) fun σ H R ⟨n, H0, F, δ, A, w⟩ => ?_
  refine one_S A w fun _ d x F2 H2 s2 rd rf wf => ?_
  split at wf
  · rename_i l
    obtain ⟨q, xs, rfl, h1, h2, h3⟩ := rd
    refine ⟨q, xs, rfl, .inl ⟨.of h1, wf _ F2 H2 s2 fun k F' H' gi sf sh nsp ex => ?_⟩⟩
    have hp : H' q = some (.lst xs) := lst_there h1 (fun z => frz_of s2.frz h1 (rf z)) h3 sf sh ex
    refine ⟨fun i d e => ?_, fun i e => ⟨xs, .of hp, by rw [h2.len]; rw [enum_len] at e; exact e⟩⟩
    obtain ⟨e', e1, rfl⟩ := enum_get e
    obtain ⟨v, k1, k2⟩ := h2.get e1
    refine ⟨⟨xs, v, .of hp, k1⟩, fun x H3 ⟨T, y, e2, nT, e3, e4⟩ => ?_⟩
    have e5 := e4 xs (.of hp)
    rw [k1] at e5; cases e5
    subst e2 e3
    rw [Nat.zero_add]
    exact born_tup C.ok gi sh nsp nT (.cons (Rep.int _) (.cons (k2.mono sf) .nil))
  · rename_i l
    obtain ⟨q, xs, rfl, h1, h2⟩ := rd.tupI
    refine ⟨q, xs, rfl, .inr ⟨by rw [C.K]; exact Sub.seqT s2.frz h1, wf _ F2 H2 s2 fun k F' H' gi sf sh nsp ex => ?_⟩⟩
    have hp : SqT X.K H' q xs := by rw [C.K]; exact Sub.seqT sh (Sub.seqT sf h1)
    refine ⟨fun i d e => ?_, fun i e => ⟨xs, hp, by rw [h2.len]; rw [enum_len] at e; exact e⟩⟩
    obtain ⟨e', e1, rfl⟩ := enum_get e
    obtain ⟨v, k1, k2⟩ := h2.get e1
    refine ⟨⟨xs, v, hp, k1⟩, fun x H3 ⟨T, y, e2, nT, e3, e4⟩ => ?_⟩
    have e5 := e4 xs hp
    rw [k1] at e5; cases e5
    subst e2 e3
    rw [Nat.zero_add]
    exact born_tup C.ok gi sh nsp nT (.cons (Rep.int _) (.cons (k2.mono sf) .nil))
  · exact wf.elim
theorem zip_get : ∀ {l m : List D} {i : Nat} {d : D}, (zipD l m)[i]? = some d → ∃ e f, l[i]? = some e ∧ m[i]? = some f ∧ d = .tup [e, f]
  | [], _, _, _, h => by simp [zipD] at h
  | _ :: _, [], _, _, h => by simp [zipD] at h
  | e :: l, f :: m, 0, d, h => by simp [zipD] at h; exact ⟨e, f, rfl, rfl, h.symm⟩
  | e :: l, f :: m, i + 1, d, h => by
    have h : (zipD l m)[i]? = some d := by simpa [zipD] using h
    obtain ⟨e', f', h1, h2, h3⟩ := zip_get h
    exact ⟨e', f', by simpa using h1, by simpa using h2, h3⟩
theorem zip_len : ∀ (l m : List D), (zipD l m).length = min l.length m.length
  | [], m => by simp [zipD]
  | _ :: _, [] => by simp [zipD]
  | _ :: l, _ :: m => by simp [zipD, zip_len l m]
theorem i_zip {p tpos : Pos} {elts : List Expr} {kk : Nat} {fz : Bool} (C : Cok g X) (hg : Gl X "zip") (hm : X.mg "zip" = none) (ha : PE X a (tS g M W fz ta)) (hb : PE X b (tS g M W fz tb))
    (hs : starEach [a, b] X.env = (false, eval a X.env) :: starEach [b] X.env) (hs2 : starEach [b] X.env = [(false, eval b X.env)]) (hpl : (backTo pos (starEach [b] X.env)).any (·.1) = false) :
    PI X (.Tuple elts kk tpos) (.Call (.Name "zip" p) [a, b] [] pos) (iD g M W fz fun δ => (ta δ).bind fun x => (tb δ).bind fun y => match x, y with | .tup l, .tup m => .ret (zipD l m) | .lst l, .lst m => .ret (zipD l m) | .lst l, .tup m => .ret (zipD l m) | _, _ => .bad) := by
  refine imI (pi_zipM hg hm (pa_cons ha (pa_cons hb pa_nil hs2) hs) hs hpl) fun σ H R ⟨n, H0, F, δ, A, w⟩ => ?_
  refine two_S A w fun _ d e x y F2 H2 s2 rd re rf wf => ?_
  split at wf
  · rename_i l m
    obtain ⟨q, xs, rfl, h1, h2⟩ := rd.tupI
    obtain ⟨q2, ys, rfl, k1, k2⟩ := re.tupI
    refine ⟨q, q2, xs, ys, rfl, .inr (.inl ⟨by rw [C.K]; exact Sub.seqT s2.frz h1, by rw [C.K]; exact Sub.seqT s2.frz k1, wf _ F2 H2 s2 fun k F' H' gi sf sh nsp ex => ?_⟩)⟩
    have hp : SqT X.K H' q xs := by rw [C.K]; exact Sub.seqT sh (Sub.seqT sf h1)
    have hp2 : SqT X.K H' q2 ys := by rw [C.K]; exact Sub.seqT sh (Sub.seqT sf k1)
    refine ⟨fun i d e => ?_, fun i e => ⟨xs, ys, hp, hp2, by rw [h2.len, k2.len]; rw [zip_len] at e; omega⟩⟩
    obtain ⟨e', f', e1, e2, rfl⟩ := zip_get e
    obtain ⟨v, v1, v2⟩ := h2.get e1
    obtain ⟨z, z1, z2⟩ := k2.get e2
    refine ⟨⟨xs, ys, v, z, hp, hp2, v1, z1⟩, fun x H3 ⟨T, y1, y2, e3, nT, e4, e5, e6⟩ => ?_⟩
    have e7 := e5 xs hp
    have e8 := e6 ys hp2
    rw [v1] at e7; cases e7
    rw [z1] at e8; cases e8
    subst e3 e4
    exact born_tup C.ok gi sh nsp nT (.cons (v2.mono sf) (.cons (z2.mono sf) .nil))
  · rename_i l m
    obtain ⟨q, xs, rfl, h1, h2, h3⟩ := rd
    obtain ⟨q2, ys, rfl, k1, k2, k3⟩ := re
    refine ⟨q, q2, xs, ys, rfl, .inl ⟨.of h1, .of k1, wf _ F2 H2 s2 fun k F' H' gi sf sh nsp ex => ?_⟩⟩
    have hp : H' q = some (.lst xs) := lst_there h1 (fun z => frz_of s2.frz h1 (rf z).1) h3 sf sh ex
    have hp2 : H' q2 = some (.lst ys) := lst_there k1 (fun z => frz_of s2.frz k1 (rf z).2) k3 sf sh ex
    refine ⟨fun i d e => ?_, fun i e => ⟨xs, ys, .of hp, .of hp2, by rw [h2.len, k2.len]; rw [zip_len] at e; omega⟩⟩
    obtain ⟨e', f', e1, e2, rfl⟩ := zip_get e
    obtain ⟨v, v1, v2⟩ := h2.get e1
    obtain ⟨z, z1, z2⟩ := k2.get e2
    refine ⟨⟨xs, ys, v, z, .of hp, .of hp2, v1, z1⟩, fun x H3 ⟨T, y1, y2, e3, nT, e4, e5, e6⟩ => ?_⟩
    have e7 := e5 xs (.of hp)
    have e8 := e6 ys (.of hp2)
    rw [v1] at e7; cases e7
    rw [z1] at e8; cases e8
    subst e3 e4
    exact born_tup C.ok gi sh nsp nT (.cons (v2.mono sf) (.cons (z2.mono sf) .nil))
  · rename_i l m
    obtain ⟨q, xs, rfl, h1, h2, h3⟩ := rd
    obtain ⟨q2, ys, rfl, k1, k2⟩ := re.tupI
    refine ⟨q, q2, xs, ys, rfl, .inr (.inr ⟨.of h1, by rw [C.K]; exact Sub.seqT s2.frz k1, wf _ F2 H2 s2 fun k F' H' gi sf sh nsp ex => ?_⟩)⟩
    have hp : H' q = some (.lst xs) := lst_there h1 (fun z => frz_of s2.frz h1 (rf z).1) h3 sf sh ex
    have hp2 : SqT X.K H' q2 ys := by rw [C.K]; exact Sub.seqT sh (Sub.seqT sf k1)
    refine ⟨fun i d e => ?_, fun i e => ⟨xs, ys, .of hp, hp2, by rw [h2.len, k2.len]; rw [zip_len] at e; omega⟩⟩
    obtain ⟨e', f', e1, e2, rfl⟩ := zip_get e
    obtain ⟨v, v1, v2⟩ := h2.get e1
    obtain ⟨z, z1, z2⟩ := k2.get e2
    refine ⟨⟨xs, ys, v, z, .of hp, hp2, v1, z1⟩, fun x H3 ⟨T, y1, y2, e3, nT, e4, e5, e6⟩ => ?_⟩
    have e7 := e5 xs (.of hp)
    have e8 := e6 ys hp2
    rw [v1] at e7; cases e7
    rw [z1] at e8; cases e8
    subst e3 e4
    exact born_tup C.ok gi sh nsp nT (.cons (v2.mono sf) (.cons (z2.mono sf) .nil))
  · exact wf.elim
end
end Dp
end

section
set_option Elab.async false
set_option linter.all false
set_option autoImplicit false
set_option maxRecDepth 100000
set_option maxHeartbeats 4000000
/-! Dp7: ranges as lists, isinstance, comprehensions. -/
namespace Dp
open PySem PySem.Spec PyProof.Rows L2
section
variable {g : Gd} {M : Lm g} {W : WX} {X : Cx} {pos : Pos} {a b c tg : Expr} {ta tb tc : Env → T D}
theorem rgV_reps {F : Hp} {lo hi : Int} : Reps g.r F ((List.range (hi - lo).toNat).map fun i => D.int (lo + (i : Nat))) (rgV lo hi) := by
  have key : ∀ ns : List Nat, Reps g.r F (ns.map fun i => D.int (lo + (i : Nat))) (ns.map fun i => V.int (lo + (i : Nat))) := by
    intro ns
    induction ns with
    | nil => exact .nil
    | cons n ns ih => exact .cons (Rep.int _) ih
  exact key _
theorem s_seqR {tu : Bool} {e : Expr} {x : Str} {p : Pos} {te : L2.St → Hp → (Int → Int → Hp → Prop) → Prop} {t : Env → T (List D)} (C : Cok g X) (hx : x = if tu = true then "tuple" else "list") (hg : Gl X x) (hm : X.mg x = none) (he : PRg X e te)
    (na : starEach [e] X.env = (false, eval e X.env) :: starEach [] X.env)
    (hw : ∀ {n : Nat} {H0 F H : Hp} {σ : L2.St} {δ : Env} {K : Nat → List D → Prop} {R : Int → Int → Hp → Prop}, At g M n H0 F H σ δ → T.wp n (t δ) K (wX g W F H σ) →
      (∀ m lo hi F2 H2, Step g F H m F2 H2 → RgOk lo hi → K m ((List.range (hi - lo).toNat).map fun i => D.int (lo + (i : Nat))) → R lo hi H2) → te σ H R) :
    PE X (.Call (.Name x p) [e] [] pos) (tD g M W true fun δ => (t δ).bind fun ns => .ret (if tu = true then .tup ns else .lst ns)) := by
  cases tu with
  | true =>
    subst hx
    refine imE (pe_tupRg C.calm hg hm he na) fun σ H Q ⟨nn, H0, F, δ, A, w⟩ => ?_
    refine hw A (T.wp_bind.mp w) fun _ lo hi F2 H2 s2 ok k => ⟨ok, fun q nq => ?_⟩
    have b := Step.born C.ok s2.gi s2.frz s2.nsp (o := .tup (rgV lo hi)) nq
    exact k _ _ _ (s2.trans b) (Post.rep (Rep.tup upd_same rgV_reps) fun _ z => by cases z)
  | false =>
    subst hx
    refine imE (pe_listRg C.calm hg hm he na) fun σ H Q ⟨nn, H0, F, δ, A, w⟩ => ?_
    refine hw A (T.wp_bind.mp w) fun _ lo hi F2 H2 s2 ok k => ⟨ok, fun q nq => ?_⟩
    have b := Step.laid C.ok s2.gi s2.frz s2.nsp (o := .lst (rgV lo hi)) nq
    exact k _ _ _ (s2.trans b) ⟨q, _, rfl, upd_same, rgV_reps, none_sub s2.frz nq, none_back C.ok A.gi s2 nq⟩
theorem lim_24 : lim ≤ 2 ^ 24 := by decide
theorem s_seqR1 {tu : Bool} {x : Str} {p p2 pos2 : Pos} (C : Cok g X) (hx : x = if tu = true then "tuple" else "list") (hg : Gl X x) (hm : X.mg x = none) (hgr : Gl X "range") (hmr : X.mg "range" = none) (ha : PE X a (tDB g M W ta))
    (na : starEach [a] X.env = (false, eval a X.env) :: starEach [] X.env) (na2 : ∀ e es, starEach [.Call e es [] pos2] X.env = (false, eval (.Call e es [] pos2) X.env) :: starEach [] X.env) :
    PE X (.Call (.Name x p) [.Call (.Name "range" p2) [a] [] pos2] [] pos) (tD g M W true fun δ => ((ta δ).bind fun x => match x with | .int j => rngD 0 j | _ => .bad).bind fun ns => .ret (if tu = true then .tup ns else .lst ns)) := by
  have hl := lim_24
  refine s_seqR C hx hg hm (prg_1 hgr hmr ha na) (na2 _ _) fun {n H0 F H σ δ K R} A w k => ?_
  refine one_B A w fun _ d x F2 H2 s2 rd wf => ?_
  split at wf
  · rename_i j
    obtain ⟨h1, h2, h3, h4, h5, q⟩ := rngD_wp wf
    exact ⟨j, rd.intI, k _ 0 j F2 H2 s2 ⟨by omega, by omega, by omega, by omega, by omega⟩ q⟩
  · exact wf.elim
theorem s_seqR2 {tu : Bool} {x : Str} {p p2 pos2 : Pos} (C : Cok g X) (hx : x = if tu = true then "tuple" else "list") (hg : Gl X x) (hm : X.mg x = none) (hgr : Gl X "range") (hmr : X.mg "range" = none) (ha : PE X a (tDB g M W ta)) (hb : PE X b (tDB g M W tb))
    (na : starEach [a, b] X.env = (false, eval a X.env) :: starEach [b] X.env) (nb : starEach [b] X.env = (false, eval b X.env) :: starEach [] X.env) (hp : (backTo pos2 (starEach [b] X.env)).any (·.1) = false) (na2 : ∀ e es, starEach [.Call e es [] pos2] X.env = (false, eval (.Call e es [] pos2) X.env) :: starEach [] X.env) :
    PE X (.Call (.Name x p) [.Call (.Name "range" p2) [a, b] [] pos2] [] pos) (tD g M W true fun δ => ((ta δ).bind fun x => (tb δ).bind fun y => match x, y with | .int i, .int j => rngD i j | _, _ => .bad).bind fun ns => .ret (if tu = true then .tup ns else .lst ns)) := by
  have hl := lim_24
  refine s_seqR C hx hg hm (prg_2 hgr hmr ha hb na nb hp) (na2 _ _) fun {n H0 F H σ δ K R} A w k => ?_
  refine two_B A w fun _ d e x y F2 H2 s2 rd re wf => ?_
  split at wf
  · rename_i i j
    obtain ⟨h1, h2, h3, h4, h5, q⟩ := rngD_wp wf
    exact ⟨i, j, rd.intI, re.intI, k _ i j F2 H2 s2 ⟨by omega, by omega, by omega, by omega, by omega⟩ q⟩
  · exact wf.elim

/-! ### isinstance -/
def tyV (g : Gd) : Ty → V
  | .none => .ty "NoneType"
  | .int => .ty "int"
  | .bool => .ty "bool"
  | .str => .ty "str"
  | .tuple => .ty "tuple"
  | .list => .ty "list"
  | .dict => .ty "dict"
  | .cls c => .ref (g.r.ca c)
  | .exc c => .ref (g.r.ca c)
  | .valueError => .ty "ValueError"
theorem tyV_rel {t : Ty} {u : Value} (r : L2.RelV (tyV g t) u) : u = tyVal g t := by cases t <;> exact r
theorem s_isi {G : Dp.Cls} {t : Ty} {p : Pos} {te : Expr} (C : Cok g X) (KO : KOk g G) (hg : Gl X "isinstance") (hm : X.mg "isinstance" = none) (ha : PE X a (tDB g M W ta)) (ht : PE X te (tC (tyV g t)))
    (hs : starEach [a, te] X.env = (false, eval a X.env) :: starEach [te] X.env) (hs2 : starEach [te] X.env = [(false, eval te X.env)]) (hpl : (backTo pos (starEach [te] X.env)).any (·.1) = false) :
    PE X (.Call (.Name "isinstance" p) [a, te] [] pos) (tD g M W true fun δ => (ta δ).bind fun x => isiD G x t) := by
  have hc : CallR X (.builtin "isinstance") (fun xs H Q => ∃ n x F d E, xs = [x, tyV g t] ∧ g.GI n H ∧ Sub F H ∧ Nsp g F ∧ RepB g F H d x ∧ T.wp n (isiD G d t) (fun k d => ∀ v F' H', Step g F H k F' H' → Post g true F' H H' d v → Q v H') E) := by
    intro pins s σ H xs us Q I r ⟨n, x, F, d, E, e, gi, sb, ns, rd, w⟩
    subst e
    obtain ⟨u1, u2, rfl, r1, r2⟩ := vals2 r
    rw [tyV_rel r2]
    exact isi_D C KO I r1 gi sb ns rd w
  refine imE (pe_callB hc hg hm (by decide +kernel) (pa_cons ha (pa_cons ht pa_nil hs2) hs) (by decide) (by decide) hs hpl) fun σ H Q ⟨nn, H0, F, δ, A, w⟩ => ?_
  refine one_B A w fun _ d x F2 H2 s2 rd wf => ?_
  exact ⟨_, x, F2, d, _, rfl, s2.gi, s2.frz, s2.nsp, rd, T.wp_mono (fun _ _ k => later C.ok A.gi s2 k) (fun _ _ _ h => h) wf⟩

/-! ### comprehensions -/
/-- a list that is filled, new since F, H -/
theorem Step.wr {n : Nat} (ok : g.Ok) {F H F' H' : Hp} (s : Step g F H n F' H') {p : Addr} {xs ys : List V} (h0 : H p = none) (hf : F' p = none) (hp : H' p = some (.lst xs)) (ns : ¬ g.sp p) : Step g F H n F' (upd H' p (.lst ys)) := by
  refine ⟨ok.keep n H' _ s.gi fun a u e => ?_, fun a u e => ?_, s.sub, fun a u e => ?_, s.nsp, s.new⟩
  · by_cases z : a = p
    · subst z; rw [hp] at e; cases e; exact .inr ⟨ns, xs, ys, rfl, upd_same⟩
    · exact .inl (by rw [upd_ne z]; exact e)
  · have z : a ≠ p := fun z => by subst z; rw [h0] at e; cases e
    rw [upd_ne z]; exact s.ext a u e
  · have z : a ≠ p := fun z => by subst z; rw [hf] at e; cases e
    rw [upd_ne z]; exact s.frz a u e
theorem takesF {X : Cx} : L2.Takes X (fun _ _ _ _ => False) := fun _ _ x => by
  obtain ⟨_, _, _, _, _, _, _, _, _, _, _, _, _, _, _, _, z⟩ := x
  exact z.elim
abbrev W0 : WX := fun _ _ _ _ => False
def tDTs (g : Gd) (M : Lm g) (t : Env → T Bool) : TT := tDT g M W0 t
theorem c_nil : PTs X [] (tDT g M W fun _ => .ret true) := ⟨fun pins s σ H Q I ⟨nn, H0, F, δ, A, w⟩ => pts_nil.run pins s σ H Q I (w F H A.now)⟩
theorem lc_im {own : List Nat} {t : Tg} {ts : Env → T (List D)} {tcc : Env → T Bool} {te : Env → T D} {fz : Bool} (C : Cok g X) (hst : ∀ j ∈ slotsT t, j ∈ own) {σ : L2.St} {H : Hp} {Q : VK} (q : tD g M W true (fun δ => (ts δ).bind fun l => .need (decide (l.length ≤ lim)) ((T.nox (lcL tcc te t (wipeE δ own) l)).bind fun ys => .ret (.lst ys))) σ H Q) :
    tLc (iD g M W fz ts) (gD g M t) (tDT g M W0 tcc) (tD g M W0 false te) own σ H Q := by
  obtain ⟨nn, H0, F, δ, A, w⟩ := q
  refine ⟨_, H0, F, δ, A, T.wp_mono (fun _ l wl J F1 H1 s1 y => ?_) (fun _ _ _ h => h) (T.wp_bind.mp w)⟩
  obtain ⟨hz, wl⟩ := T.wp_need.mp wl
  have hz := of_decide_eq_true hz
  have wl := T.wp_nox (T.wp_bind.mp wl)
  intro L nL
  have hlim := lim_line
  have fL : F1 L = none := none_sub s1.frz nL
  have nsL : ¬ g.sp L := nsp_new C.ok s1.gi nL
  have st0 : Step g F1 H1 _ F1 (upd H1 L (.lst [])) := Step.laid C.ok s1.gi s1.frz s1.nsp nL
  refine ⟨fun i m H' => m = l.length - i ∧ i ≤ l.length ∧ ∃ n F' acc dn, acc.length ≤ i ∧ H' L = some (.lst acc) ∧ Reps g.r F' dn acc ∧ F' L = none ∧ Step g F1 H1 n F' H' ∧
      T.wp n (lcL tcc te t (wipeE δ own) (l.drop i)) (fun k ys => ∀ v F2 H2, Step g F H k F2 H2 → Post g true F2 H H2 (.lst (dn ++ ys)) v → Q v H2) (fun _ _ _ => False),
    ⟨l.length, rfl, Nat.zero_le _, _, F1, [], [], Nat.le_refl _, upd_same, .nil, fL, st0, by
      rw [List.drop_zero]
      exact T.wp_mono (fun _ ys k => k) (fun _ _ _ h => h) wl⟩, ?_⟩
  rintro i m H' ⟨rfl, hi, nq, F', acc, dn, ha, hL, r, hf, st, wr⟩
  have yy := y _ F' H' st.gi st.sub st.frz st.nsp (fun _ => st.ext)
  by_cases hlt : i < l.length
  · have hd : l[i]? = some l[i] := List.getElem?_eq_getElem hlt
    obtain ⟨hgo, hy⟩ := yy.1 i _ hd
    refine .inr ⟨hgo, fun H'' => (l.length - (i + 1) = l.length - (i + 1)) ∧ i + 1 ≤ l.length ∧ ∃ n F' acc dn, acc.length ≤ i + 1 ∧ H'' L = some (.lst acc) ∧ Reps g.r F' dn acc ∧ F' L = none ∧ Step g F1 H1 n F' H'' ∧
      T.wp n (lcL tcc te t (wipeE δ own) (l.drop (i + 1))) (fun k ys => ∀ v F2 H2, Step g F H k F2 H2 → Post g true F2 H H2 (.lst (dn ++ ys)) v → Q v H2) (fun _ _ _ => False),
      fun H'' h => ⟨_, by omega, h⟩, fun x H2 yx => ?_⟩
    obtain ⟨F2, s2, rx⟩ := hy x H2 yx
    rw [List.drop_eq_getElem_cons hlt] at wr
    unfold lcL at wr
    split at wr
    · exact wr.elim
    · rename_i δ' eδ
      have env2 : EnvOk g M H0 F2 H2 (wipe σ own) (wipeE δ own) := ((A.env.step (s1.trans st)).step s2).wipe _
      refine ⟨H0, F2, wipeE δ own, l[i], δ', env2, rx, s2.frz, eδ, fun σ2 e2 l2 f2 => ?_⟩
      refine ⟨wipe_same (by rw [l2, wipe_length]) (fun j hj => f2 j fun z => hj (hst j z)), ?_⟩
      have A2 : At g M _ H0 F2 H2 σ2 δ' := ⟨s2.gi, s2.frz, s2.nsp, e2⟩
      have st2 := st.trans s2
      refine ⟨_, H0, F2, δ', A2, T.wp_mono (fun nb b wb F3 H3 s3 => ?_) (fun _ _ _ h => h.elim) (T.wp_bind.mp wr)⟩
      have st3 := st2.trans s3
      have hL3 : H3 L = some (.lst acc) := ((s2.trans s3).ext L _ hL).resolve_left nsL
      have fL3 : F3 L = none := by
        cases q : F3 L with
        | none => rfl
        | some o =>
          rcases (s2.trans s3).new L o q with ⟨o', z⟩ | z | ⟨u, z, nl⟩
          · rw [hf] at z; cases z
          · rw [hL] at z; cases z
          · rw [hL] at z; cases z; exact absurd rfl (nl.1 _)
      cases b with
      | false =>
        refine ⟨rfl, hlt, _, F3, acc, dn, by omega, hL3, r.mono (s2.trans s3).sub, fL3, st3, ?_⟩
        simpa using wb
      | true =>
        have wb : T.wp nb ((te δ').bind fun y => (lcL tcc te t (wipeE δ own) (l.drop (i + 1))).bind fun ys => .ret (y :: ys)) (fun k ys => ∀ v F2 H2, Step g F H k F2 H2 → Post g true F2 H H2 (.lst (dn ++ ys)) v → Q v H2) (fun _ _ _ => False) := by simpa using wb
        refine ⟨_, H0, F3, δ', A2.step s3, T.wp_mono (fun _ y wy v F4 H4 s4 ry => ?_) (fun _ _ _ h => h.elim) (T.wp_bind.mp wb)⟩
        have ry : Rep g.r F4 y v := by cases y <;> exact ry
        have st4 := st3.trans s4
        have hL4 : H4 L = some (.lst acc) := (s4.ext L _ hL3).resolve_left nsL
        have fL4 : F4 L = none := by
          cases q : F4 L with
          | none => rfl
          | some o =>
            rcases s4.new L o q with ⟨o', z⟩ | z | ⟨u, z, nl⟩
            · rw [fL3] at z; cases z
            · rw [hL3] at z; cases z
            · rw [hL3] at z; cases z; exact absurd rfl (nl.1 _)
        refine ⟨acc, hL4, by omega, rfl, hlt, _, F4, acc ++ [v], dn ++ [y], by simp; omega, upd_same, ?_, fL4, st4.wr C.ok nL fL4 hL4 nsL, ?_⟩
        · exact (r.mono ((s2.trans s3).trans s4).sub).app (.cons ry .nil)
        · refine T.wp_mono (fun nk ys k v F5 H5 s5 p => ?_) (fun _ _ _ h => h) (T.wp_bind.mp wy)
          have k : ∀ v F2 H2, Step g F H nk F2 H2 → Post g true F2 H H2 (.lst (dn ++ (y :: ys))) v → Q v H2 := k
          exact k v F5 H5 s5 (by rw [List.append_assoc] at p; exact p)
  · have e : i = l.length := by omega
    subst e
    refine .inl ⟨yy.2 _ (Nat.le_refl _), ?_⟩
    rw [List.drop_length] at wr
    have wr : ∀ v F2 H2, Step g F H nq F2 H2 → Post g true F2 H H2 (.lst (dn ++ [])) v → Q v H2 := wr
    refine wr (.ref L) F' H' (s1.trans st) ?_
    rw [List.append_nil]
    exact ⟨L, acc, rfl, hL, r, hf, none_back C.ok A.gi s1 nL⟩
theorem s_lc {elt iter : Expr} {ifs : List Expr} {scope : Scope} {own : List (Str × Nat)} {t : Tg} {ts : Env → T (List D)} {tcc : Env → T Bool} {te : Env → T D} {fz : Bool} (C : Cok g X) (hi : PI X tg iter (iD g M W fz ts)) (ok : BlkOk X.N X.env.scope scope own)
    (hst : ∀ j ∈ slotsT t, j ∈ own.map (·.2))
    (hg : ∀ (s : Shared) (H : Hp) (C : Addr) (cl : List (Str × Addr)) (fp : List Addr), PG (X.blk s H scope (compEnvC scope cl C X.env) fp) tg (gD g M t))
    (ht : ∀ (s : Shared) (H : Hp) (C : Addr) (cl : List (Str × Addr)) (fp : List Addr), PTs (X.blk s H scope (compEnvC scope cl C X.env) fp) ifs (tDT g M W0 tcc))
    (he : ∀ (s : Shared) (H : Hp) (C : Addr) (cl : List (Str × Addr)) (fp : List Addr), PE (X.blk s H scope (compEnvC scope cl C X.env) fp) elt (tD g M W0 false te)) (hs : ∀ x, foldedSetIterable iter X.env x = pure x) :
    PE X (.ListComp elt [⟨tg, iter, ifs, 0⟩] scope pos) (tD g M W true fun δ => (ts δ).bind fun l => .need (decide (l.length ≤ lim)) ((T.nox (lcL tcc te t (wipeE δ (own.map (·.2))) l)).bind fun ys => .ret (.lst ys))) :=
  imE (pe_lc C.calm C.nd hi ok hg ht he hs) fun σ H Q q => lc_im C hst q
end
end Dp
end

section
set_option Elab.async false
set_option linter.all false
set_option autoImplicit false
set_option maxRecDepth 100000
set_option maxHeartbeats 4000000
/-! DpW: comprehensions of two walks. -/
namespace Dp
open PySem PySem.Spec PyProof.Rows L2
section
variable {g : Gd} {M : Lm g} {W : WX} {X : Cx} {pos : Pos} {tg tg1 : Expr}
/-- what is being laid stays out of the frozen part -/
theorem kept_none {F H F2 H2 : Hp} {n : Nat} {L : Addr} {acc : List V} (s : Step g F H n F2 H2) (hL : H L = some (.lst acc)) (hf : F L = none) : F2 L = none := by
  cases q : F2 L with
  | none => rfl
  | some o =>
    rcases s.new L o q with ⟨o', z⟩ | z | ⟨u, z, nl⟩
    · rw [hf] at z; cases z
    · rw [hL] at z; cases z
    · rw [hL] at z; cases z; exact absurd rfl (nl.1 _)
mutual
theorem asg_v : ∀ (t : Tg) (d : D) (δ δ' : Env), asg t d δ = some δ' → ∀ j, (j ∉ slotsT t → look δ' j = look δ j) ∧ (j ∈ slotsT t → look δ' j = .no ∨ ∃ d, look δ' j = .v d)
  | .n i, d, δ, δ', h, j => by
    have h : some (δ.set i (.v d)) = some δ' := h
    cases h
    refine ⟨fun z => look_set_ne (fun e => z (by subst e; simp [slotsT])), fun z => ?_⟩
    have e : j = i := by simpa [slotsT] using z
    subst e
    by_cases hl : j < δ.length
    · exact .inr ⟨d, look_set_self hl⟩
    · refine .inl ?_
      unfold look
      rw [List.getElem?_eq_none (by simp; omega)]; rfl
  | .t l, .tup ds, δ, δ', h, j => by
    have h : asgs l ds δ = some δ' := h
    have := asgs_v l ds δ δ' h j
    exact this
  | .t l, .non, _, _, h, _ => by cases h
  | .t l, .bl _, _, _, h, _ => by cases h
  | .t l, .int _, _, _, h, _ => by cases h
  | .t l, .str _, _, _, h, _ => by cases h
  | .t l, .lst _, _, _, h, _ => by cases h
  | .t l, .dct, _, _, h, _ => by cases h
  | .t l, .ins _ _, _, _, h, _ => by cases h
  | .t l, .exc _ _, _, _, h, _ => by cases h
  | .t l, .fn _, _, _, h, _ => by cases h
  | .t l, .st, _, _, h, _ => by cases h
  | .t l, .scr _, _, _, h, _ => by cases h
  | .t l, .lm _, _, _, h, _ => by cases h
theorem asgs_v : ∀ (l : List Tg) (ds : List D) (δ δ' : Env), asgs l ds δ = some δ' → ∀ j, (j ∉ slotsTs l → look δ' j = look δ j) ∧ (j ∈ slotsTs l → look δ' j = .no ∨ ∃ d, look δ' j = .v d)
  | [], [], δ, δ', h, j => by
    have h : some δ = some δ' := h
    cases h
    exact ⟨fun _ => rfl, fun z => by simp [slotsTs] at z⟩
  | [], _ :: _, _, _, h, _ => by cases h
  | _ :: _, [], _, _, h, _ => by cases h
  | t :: l, d :: ds, δ, δ', h, j => by
    have h : (match asg t d δ with | some δ1 => asgs l ds δ1 | none => none) = some δ' := h
    cases q : asg t d δ with
    | none => rw [q] at h; cases h
    | some δ1 =>
      rw [q] at h
      obtain ⟨a1, a2⟩ := asg_v t d δ δ1 q j
      obtain ⟨b1, b2⟩ := asgs_v l ds δ1 δ' h j
      refine ⟨fun z => ?_, fun z => ?_⟩
      · have z : ¬ (j ∈ slotsT t ++ slotsTs l) := z
        rw [List.mem_append, not_or] at z
        rw [b1 z.2, a1 z.1]
      · by_cases hj : j ∈ slotsTs l
        · exact b2 hj
        · have z : j ∈ slotsT t ++ slotsTs l := z
          rw [b1 hj]
          exact a2 ((List.mem_append.mp z).resolve_right hj)
end
theorem EnvOk.later {H0 F2 H2 F5 H5 : Hp} {σ1 σ2 : L2.St} {δ1 δ' : Env} (e2 : EnvOk g M H0 F2 H2 σ2 δ') (b : EnvOk g M H0 F5 H5 σ1 δ1) (sub : Sub F2 F5) (h : ∀ i, (∃ d, look δ' i = .v d) ∨ look δ' i = .no ∨ (look δ' i = look δ1 i ∧ σ2[i]? = σ1[i]?)) : EnvOk g M H0 F5 H5 σ2 δ' := by
  refine ⟨e2.len, fun i => ?_, e2.apart⟩
  rcases h i with ⟨d, e⟩ | e | ⟨e, q⟩
  · have := e2.at_ i
    rw [e] at this ⊢
    obtain ⟨v, e1, r⟩ := this
    exact ⟨v, e1, r.mono sub⟩
  · rw [e]; trivial
  · rw [e, q]; exact b.at_ i
theorem lc2_im {own : List Nat} {t t2 : Tg} {ts ts2 : Env → T (List D)} {tcc : Env → T Bool} {te : Env → T D} {fz : Bool} (C : Cok g X) (hst : ∀ j ∈ slotsT t, j ∈ own) {σ : L2.St} {H : Hp} {Q : VK}
    (q : tD g M W true (fun δ => (ts δ).bind fun l => .need (decide (l.length ≤ 1000)) ((T.nox (lcL2 ts2 tcc te t t2 (slotsT t2) (wipeE δ own) l)).bind fun ys => .ret (.lst ys))) σ H Q) :
    tLc2 (iD g M W fz ts) (gD g M t) (tDT g M W0 fun _ => .ret true) (iD g M W0 true ts2) (gD g M t2) (tDT g M W0 tcc) (tD g M W0 false te) own (slotsT t2) σ H Q := by
  obtain ⟨nn, H0, F, δ, A, w⟩ := q
  refine ⟨_, H0, F, δ, A, T.wp_mono (fun _ l wl J F1 H1 s1 y => ?_) (fun _ _ _ h => h) (T.wp_bind.mp w)⟩
  obtain ⟨hz, wl⟩ := T.wp_need.mp wl
  have hz := of_decide_eq_true hz
  have wl := T.wp_nox (T.wp_bind.mp wl)
  intro L nL
  have hlim := lim_line
  have hlm : lim = 1000000 := rfl
  have fL : F1 L = none := none_sub s1.frz nL
  have nsL : ¬ g.sp L := nsp_new C.ok s1.gi nL
  have st0 : Step g F1 H1 _ F1 (upd H1 L (.lst [])) := Step.laid C.ok s1.gi s1.frz s1.nsp nL
  refine ⟨fun i m H' => m = l.length - i ∧ i ≤ l.length ∧ ∃ n F' acc dn, acc.length ≤ i * 1000 ∧ H' L = some (.lst acc) ∧ Reps g.r F' dn acc ∧ F' L = none ∧ Step g F1 H1 n F' H' ∧
      T.wp n (lcL2 ts2 tcc te t t2 (slotsT t2) (wipeE δ own) (l.drop i)) (fun k ys => ∀ v F2 H2, Step g F H k F2 H2 → Post g true F2 H H2 (.lst (dn ++ ys)) v → Q v H2) (fun _ _ _ => False),
    ⟨l.length, rfl, Nat.zero_le _, _, F1, [], [], Nat.zero_le _, upd_same, .nil, fL, st0, by
      rw [List.drop_zero]
      exact T.wp_mono (fun _ ys k => k) (fun _ _ _ h => h) wl⟩, ?_⟩
  rintro i m H' ⟨rfl, hi, nq, F', acc, dn, ha, hL, r, hf, st, wr⟩
  have yy := y _ F' H' st.gi st.sub st.frz st.nsp (fun _ => st.ext)
  by_cases hlt : i < l.length
  · have hd : l[i]? = some l[i] := List.getElem?_eq_getElem hlt
    obtain ⟨hgo, hy⟩ := yy.1 i _ hd
    refine .inr ⟨hgo, fun H'' => (l.length - (i + 1) = l.length - (i + 1)) ∧ i + 1 ≤ l.length ∧ ∃ n F' acc dn, acc.length ≤ (i + 1) * 1000 ∧ H'' L = some (.lst acc) ∧ Reps g.r F' dn acc ∧ F' L = none ∧ Step g F1 H1 n F' H'' ∧
      T.wp n (lcL2 ts2 tcc te t t2 (slotsT t2) (wipeE δ own) (l.drop (i + 1))) (fun k ys => ∀ v F2 H2, Step g F H k F2 H2 → Post g true F2 H H2 (.lst (dn ++ ys)) v → Q v H2) (fun _ _ _ => False),
      fun H'' h => ⟨_, by omega, h⟩, fun x H2 yx => ?_⟩
    obtain ⟨F2, s2, rx⟩ := hy x H2 yx
    rw [List.drop_eq_getElem_cons hlt] at wr
    unfold lcL2 at wr
    split at wr
    · exact wr.elim
    · rename_i δ' eδ
      have env2 : EnvOk g M H0 F2 H2 (wipe σ own) (wipeE δ own) := ((A.env.step (s1.trans st)).step s2).wipe _
      refine ⟨H0, F2, wipeE δ own, l[i], δ', env2, rx, s2.frz, eδ, fun σ2 e2 l2 f2 => ?_⟩
      refine ⟨wipe_same (by rw [l2, wipe_length]) (fun j hj => f2 j fun z => hj (hst j z)), ?_⟩
      have A2 : At g M _ H0 F2 H2 σ2 δ' := ⟨s2.gi, s2.frz, s2.nsp, e2⟩
      have st2 := st.trans s2
      refine ⟨_, H0, F2, δ', A2, fun F3 H3 s3 => ?_⟩
      have st3 := st2.trans s3
      dsimp only
      rw [if_pos rfl]
      refine ⟨_, H0, F3, δ', A2.step s3, T.wp_mono (fun _ m2 wm J1 F4 H4 s4 y1 => ?_) (fun _ _ _ h => h.elim) (T.wp_bind.mp wr)⟩
      obtain ⟨hzm, wm⟩ := T.wp_need.mp wm
      have hzm := of_decide_eq_true hzm
      have st4 := st3.trans s4
      have s24 := (s2.trans s3).trans s4
      have hL4 : H4 L = some (.lst acc) := (s24.ext L _ hL).resolve_left nsL
      have fL4 : F4 L = none := kept_none s24 hL hf
      have s34 := s3.trans s4
      refine ⟨fun j k H' => k = m2.length - j ∧ j ≤ m2.length ∧ ∃ n F' acc dn, acc.length ≤ i * 1000 + j ∧ H' L = some (.lst acc) ∧ Reps g.r F' dn acc ∧ F' L = none ∧ Sub F4 F' ∧ Step g F1 H1 n F' H' ∧
          T.wp n ((lcL tcc te t2 (wipeE δ' (slotsT t2)) (m2.drop j)).bind fun ys => (lcL2 ts2 tcc te t t2 (slotsT t2) (wipeE δ own) (l.drop (i + 1))).bind fun zs => .ret (ys ++ zs)) (fun k ys => ∀ v F2 H2, Step g F H k F2 H2 → Post g true F2 H H2 (.lst (dn ++ ys)) v → Q v H2) (fun _ _ _ => False),
        ⟨m2.length, rfl, Nat.zero_le _, _, F4, acc, dn, by omega, hL4, r.mono s24.sub, fL4, .refl _, st4, by rw [List.drop_zero]; exact wm⟩, ?_⟩
      rintro j k H5 ⟨rfl, hj, nq5, F5, acc5, dn5, ha5, hL5, r5, hf5, sb5, st5, wr5⟩
      have yy1 := y1 _ F5 H5 st5.gi sb5 st5.frz st5.nsp (fun z => by cases z)
      by_cases hlt1 : j < m2.length
      · have hd1 : m2[j]? = some m2[j] := List.getElem?_eq_getElem hlt1
        obtain ⟨hgo1, hy1⟩ := yy1.1 j _ hd1
        refine .inr ⟨hgo1, fun H'' => (m2.length - (j + 1) = m2.length - (j + 1)) ∧ j + 1 ≤ m2.length ∧ ∃ n F' acc dn, acc.length ≤ i * 1000 + (j + 1) ∧ H'' L = some (.lst acc) ∧ Reps g.r F' dn acc ∧ F' L = none ∧ Sub F4 F' ∧ Step g F1 H1 n F' H'' ∧
          T.wp n ((lcL tcc te t2 (wipeE δ' (slotsT t2)) (m2.drop (j + 1))).bind fun ys => (lcL2 ts2 tcc te t t2 (slotsT t2) (wipeE δ own) (l.drop (i + 1))).bind fun zs => .ret (ys ++ zs)) (fun k ys => ∀ v F2 H2, Step g F H k F2 H2 → Post g true F2 H H2 (.lst (dn ++ ys)) v → Q v H2) (fun _ _ _ => False),
          fun H'' h => ⟨_, by omega, h⟩, fun x H6 yx => ?_⟩
        obtain ⟨F6, s6, rx1⟩ := hy1 x H6 yx
        rw [List.drop_eq_getElem_cons hlt1] at wr5
        unfold lcL at wr5
        split at wr5
        · exact wr5.elim
        · rename_i δ'' eδ2
          have eb : EnvOk g M H0 F5 H5 (wipe σ own) (wipeE δ own) := (A.env.step (s1.trans st5)).wipe _
          have e5 : EnvOk g M H0 F5 H5 σ2 δ' := e2.later eb (s34.sub.trans sb5) fun i => by
            obtain ⟨a1, a2⟩ := asg_v _ _ _ _ eδ i
            by_cases hi : i ∈ slotsT t
            · rcases a2 hi with z | z
              · exact .inr (.inl z)
              · exact .inl z
            · exact .inr (.inr ⟨a1 hi, f2 i hi⟩)
          have env6 : EnvOk g M H0 F6 H6 (wipe σ2 (slotsT t2)) (wipeE δ' (slotsT t2)) := (e5.step s6).wipe _
          refine ⟨H0, F6, wipeE δ' (slotsT t2), m2[j], δ'', env6, rx1, s6.frz, eδ2, fun σ3 e3 l3 f3 => ?_⟩
          refine ⟨wipe_same (by rw [l3, wipe_length]) (fun j hj => f3 j hj), ?_⟩
          have A6 : At g M _ H0 F6 H6 σ3 δ'' := ⟨s6.gi, s6.frz, s6.nsp, e3⟩
          refine ⟨_, H0, F6, δ'', A6, T.wp_mono (fun nb b wb F7 H7 s7 => ?_) (fun _ _ _ h => h.elim) (T.wp_bind.mp (T.wp_bind.mp wr5))⟩
          have st7 := (st5.trans s6).trans s7
          have s67 := s6.trans s7
          have hL7 : H7 L = some (.lst acc5) := (s67.ext L _ hL5).resolve_left nsL
          have fL7 : F7 L = none := kept_none s67 hL5 hf5
          cases b with
          | false =>
            refine ⟨rfl, hlt1, _, F7, acc5, dn5, by omega, hL7, r5.mono s67.sub, fL7, sb5.trans s67.sub, st7, ?_⟩
            simpa using T.wp_bind.mpr wb
          | true =>
            have wb : T.wp nb ((te δ'').bind fun y => (lcL tcc te t2 (wipeE δ' (slotsT t2)) (m2.drop (j + 1))).bind fun ys => .ret (y :: ys)) (fun c a => T.wp c ((lcL2 ts2 tcc te t t2 (slotsT t2) (wipeE δ own) (l.drop (i + 1))).bind fun zs => .ret (a ++ zs)) (fun k ys => ∀ v F2 H2, Step g F H k F2 H2 → Post g true F2 H H2 (.lst (dn5 ++ ys)) v → Q v H2) (fun _ _ _ => False)) (fun _ _ _ => False) := by simpa using wb
            refine ⟨_, H0, F7, δ'', A6.step s7, T.wp_mono (fun _ y wy v F8 H8 s8 ry => ?_) (fun _ _ _ h => h.elim) (T.wp_bind.mp wb)⟩
            have ry : Rep g.r F8 y v := by cases y <;> exact ry
            have st8 := st7.trans s8
            have hL8 : H8 L = some (.lst acc5) := (s8.ext L _ hL7).resolve_left nsL
            have fL8 : F8 L = none := kept_none s8 hL7 fL7
            have hi1 : i * 1000 ≤ 999 * 1000 := Nat.mul_le_mul_right _ (by omega)
            refine ⟨acc5, hL8, by omega, rfl, hlt1, _, F8, acc5 ++ [v], dn5 ++ [y], by simp; omega, upd_same, ?_, fL8, sb5.trans (s67.trans s8).sub, st8.wr C.ok nL fL8 hL8 nsL, ?_⟩
            · exact (r5.mono (s67.trans s8).sub).app (.cons ry .nil)
            · refine T.wp_bind.mpr (T.wp_mono (fun nk ys k => ?_) (fun _ _ _ h => h) (T.wp_bind.mp wy))
              have k : T.wp nk ((lcL2 ts2 tcc te t t2 (slotsT t2) (wipeE δ own) (l.drop (i + 1))).bind fun zs => .ret ((y :: ys) ++ zs)) (fun k ys => ∀ v F2 H2, Step g F H k F2 H2 → Post g true F2 H H2 (.lst (dn5 ++ ys)) v → Q v H2) (fun _ _ _ => False) := k
              refine T.wp_bind.mpr (T.wp_mono (fun nk2 zs k2 v F9 H9 s9 p => ?_) (fun _ _ _ h => h) (T.wp_bind.mp k))
              have k2 : ∀ v F2 H2, Step g F H nk2 F2 H2 → Post g true F2 H H2 (.lst (dn5 ++ ((y :: ys) ++ zs))) v → Q v H2 := k2
              exact k2 v F9 H9 s9 (by rw [List.append_assoc] at p; exact p)
      · have e : j = m2.length := by omega
        subst e
        rw [List.drop_length] at wr5
        have wr5 : T.wp nq5 ((lcL2 ts2 tcc te t t2 (slotsT t2) (wipeE δ own) (l.drop (i + 1))).bind fun zs => .ret ([] ++ zs)) (fun k ys => ∀ v F2 H2, Step g F H k F2 H2 → Post g true F2 H H2 (.lst (dn5 ++ ys)) v → Q v H2) (fun _ _ _ => False) := wr5
        refine .inl ⟨yy1.2 _ (Nat.le_refl _), rfl, hlt, _, F5, acc5, dn5, by rw [Nat.add_mul]; omega, hL5, r5, hf5, st5, ?_⟩
        exact T.wp_mono (fun _ _ k => k) (fun _ _ _ h => h) (T.wp_bind.mp wr5)
  · have e : i = l.length := by omega
    subst e
    refine .inl ⟨yy.2 _ (Nat.le_refl _), ?_⟩
    rw [List.drop_length] at wr
    have wr : ∀ v F2 H2, Step g F H nq F2 H2 → Post g true F2 H H2 (.lst (dn ++ [])) v → Q v H2 := wr
    refine wr (.ref L) F' H' (s1.trans st) ?_
    rw [List.append_nil]
    exact ⟨L, acc, rfl, hL, r, hf, none_back C.ok A.gi s1 nL⟩
theorem s_lc2 {elt iter iter1 : Expr} {scope : Scope} {ifs : List Expr} {own : List (Str × Nat)} {t t2 : Tg} {ts ts2 : Env → T (List D)} {tcc : Env → T Bool} {te : Env → T D} {fz : Bool} (C : Cok g X) (hi : PI X tg iter (iD g M W fz ts)) (ok : BlkOk X.N X.env.scope scope own)
    (hst : ∀ j ∈ slotsT t, j ∈ own.map (·.2)) (hst2 : ∀ j ∈ slotsT t2, j ∈ own.map (·.2))
    (hg : ∀ (s : Shared) (H : Hp) (C : Addr) (cl : List (Str × Addr)) (fp : List Addr), PG (X.blk s H scope (compEnvC scope cl C X.env) fp) tg (gD g M t))
    (ht0 : ∀ (s : Shared) (H : Hp) (C : Addr) (cl : List (Str × Addr)) (fp : List Addr), PTs (X.blk s H scope (compEnvC scope cl C X.env) fp) [] (tDT g M W0 fun _ => .ret true))
    (hi1 : ∀ (s : Shared) (H : Hp) (C : Addr) (cl : List (Str × Addr)) (fp : List Addr), PI (X.blk s H scope (compEnvC scope cl C X.env) fp) tg1 iter1 (iD g M W0 true ts2))
    (hg1 : ∀ (s : Shared) (H : Hp) (C : Addr) (cl : List (Str × Addr)) (fp : List Addr), PG (X.blk s H scope (compEnvC scope cl C X.env) fp) tg1 (gD g M t2))
    (ht : ∀ (s : Shared) (H : Hp) (C : Addr) (cl : List (Str × Addr)) (fp : List Addr), PTs (X.blk s H scope (compEnvC scope cl C X.env) fp) ifs (tDT g M W0 tcc))
    (he : ∀ (s : Shared) (H : Hp) (C : Addr) (cl : List (Str × Addr)) (fp : List Addr), PE (X.blk s H scope (compEnvC scope cl C X.env) fp) elt (tD g M W0 false te)) (hs : ∀ x, foldedSetIterable iter X.env x = pure x) (hs1 : ∀ env x, foldedSetIterable iter1 env x = pure x) :
    PE X (.ListComp elt [⟨tg, iter, [], 0⟩, ⟨tg1, iter1, ifs, 0⟩] scope pos) (tD g M W true fun δ => (ts δ).bind fun l => .need (decide (l.length ≤ 1000)) ((T.nox (lcL2 ts2 tcc te t t2 (slotsT t2) (wipeE δ (own.map (·.2))) l)).bind fun ys => .ret (.lst ys))) :=
  imE (pe_lc2 C.calm C.nd hi ok hst2 hg ht0 hi1 hg1 ht he hs hs1) fun σ H Q q => lc2_im C hst q
end
end Dp
end

section
set_option Elab.async false
set_option linter.all false
set_option maxRecDepth 100000
set_option maxHeartbeats 4000000
/-! DpX: a tuple or a list turned about: x[::-1]. -/
namespace HT
open PySem PySem.Spec PyProof.Rows
section
variable {prog : Program} {w : World} {A : Around} {E : Value → Shared → Prop} {s : Shared}
theorem adjust_rev (n : Nat) : Builtin.Slice.sliceAdjust none none (-1) (n : Int) = ((n : Int) - 1, -1) := rfl
theorem places_rev (n : Nat) : Builtin.Slice.slicePlaces ((n : Int) - 1) (-1) (-1) = n := by
  unfold Builtin.Slice.slicePlaces
  have h1 : ¬ ((-1 : Int) > 0) := by omega
  simp only [h1, if_false]
  split
  · have : ((n : Int) - 1 - -1 - 1) / (- -1) = (n : Int) - 1 := by
      rw [show (- -1 : Int) = 1 by rfl, Int.ediv_one]; omega
    rw [this]; omega
  · omega
theorem sliceApplied_rev {sl : Addr} {vs : Value} {n : Nat} {Q : Int × Int × Nat → Shared → Prop} (hs : s.heap.IsSliceOf sl .none .none vs) (ps : IsPart vs (some (-1)))
    (h : Q ((n : Int) - 1, -1, n) s) : wpAny (model prog w) A (Builtin.Slice.sliceApplied (.ref sl) (pure (n : Int))) Q E s := by
  obtain ⟨os, hos, hcs, hds⟩ := id hs
  unfold Builtin.Slice.sliceApplied Builtin.Slice.sliceFields
  refine wpAny_bind (wpAny_bind (wpAny_field hos hds (x := .none) rfl (wpAny_bind (wpAny_field hos hds (x := .none) rfl (wpAny_bind (wpAny_field hos hds (x := vs) rfl (wpAny_pure ?_)))))))
  refine wpAny_bind (slicePart_ ps ?_)
  show wpAny _ _ (if ((-1 : Int) == 0) = true then _ else _) _ _ s
  rw [if_neg (by decide)]
  refine wpAny_bind (slicePart_ .none (wpAny_bind (slicePart_ .none (wpAny_bind (wpAny_pure ?_)))))
  show wpAny _ _ (match Builtin.Slice.sliceAdjust none none (-1) (n : Int) with | (lo, hi) => pure (lo, (-1 : Int), Builtin.Slice.slicePlaces lo hi (-1))) _ _ s
  rw [adjust_rev n]
  show wpAny _ _ (pure ((n : Int) - 1, (-1 : Int), Builtin.Slice.slicePlaces ((n : Int) - 1) (-1) (-1))) _ _ s
  rw [places_rev]
  exact wpAny_pure h
theorem pick_rev (xs : Array Value) : ((List.range xs.size).filterMap fun (m : Nat) => xs[((xs.size : Int) - 1 + (m : Int) * (-1)).toNat]?).toArray = xs.toList.reverse.toArray := by
  congr 1
  apply List.ext_getElem?
  intro i
  by_cases hi : i < xs.size
  · have key : ∀ (l : List Nat), (∀ m ∈ l, m < xs.size) → (l.filterMap fun (m : Nat) => xs[((xs.size : Int) - 1 + (m : Int) * (-1)).toNat]?) = l.map fun m => xs.toList.reverse.getD m .none := by
      intro l
      induction l with
      | nil => intro _; rfl
      | cons m l ih =>
        intro h
        have hm := h m List.mem_cons_self
        have e : ((xs.size : Int) - 1 + (m : Int) * (-1)).toNat = xs.size - 1 - m := by omega
        have hlt : xs.size - 1 - m < xs.size := by omega
        rw [List.filterMap_cons, e, Array.getElem?_eq_getElem hlt]
        dsimp only
        rw [ih fun m hm => h m (List.mem_cons_of_mem _ hm), List.map_cons]
        congr 1
        rw [List.getD_eq_getElem?_getD, List.getElem?_reverse (by simpa using hm)]
        simp [Array.getElem?_eq_getElem hlt]
    rw [key _ fun m hm => by simpa using hm]
    rw [List.getElem?_map, List.getElem?_range hi]
    have hr : i < xs.toList.reverse.length := by simpa using hi
    rw [List.getElem?_eq_getElem hr]
    simp [List.getD_eq_getElem?_getD, List.getElem?_eq_getElem hr]
  · have h1 : xs.toList.reverse.length ≤ i := by simpa using hi
    rw [List.getElem?_eq_none h1, List.getElem?_eq_none]
    refine Nat.le_trans (List.length_filterMap_le _ _) ?_
    simpa using hi
theorem getItem_tuple_rev {t sl : Addr} {items : Array Value} {vs : Value} {Q : Value → Shared → Prop} (ht : IsTup s.heap t items) (hs : s.heap.IsSliceOf sl .none .none vs) (ps : IsPart vs (some (-1)))
    (h : Q (.ref s.heap.objs.size) { s with heap := s.heap.push { cls := .type "tuple", data := .seq items.toList.reverse.toArray } })
    (hsz : items.size ≤ sizeLine) : wpAny (model prog w) A (getItem (.ref t) (.ref sl)) Q E s := by
  have htake : sizeOk (.seq items.toList.reverse.toArray) := by
    show items.toList.reverse.toArray.size ≤ sizeLine
    simpa using hsz
  obtain ⟨os, hos, hcs, hds⟩ := id hs
  have hTs : s.TypeIs (.ref sl) "slice" := ⟨os, hos, hcs⟩
  unfold getItem
  try with_reducible refine wpAny_holding ?_
  first | refine wpAny_bind (wpAny_pure ?_) | skip
  refine wpAny_bind (wpAny_sequenceKey ht.typeIs (by decide) ?_)
  refine wpAny_bind (wpAny_callSpecial?_slot (name := Str.ofString "__getitem__") ht.typeIs PyProof.Rows.slot_tuple_getitem
    (wpAny_call_entry PyProof.Rows.slot_tuple_getitem ht.typeIs entry_tuple_getitem ?_ (args_tuple_getitem _ _)))
  show wpAny _ _ (Builtin.Tuple.tupleItemsOf (.ref t) >>= _) _ _ s
  refine wpAny_bind (tupleItemsOf_ ht ?_)
  refine wpAny_bind (wpAny_typeOf hTs ?_)
  rw [if_pos (by decide)]
  refine wpAny_bind (sliceApplied_rev hs ps ?_)
  have hno : ¬ (((((items.size : Nat) : Int) - 1) == 0 && (-1 : Int) == 1 && items.size == items.size) = true) := by
    intro q
    rw [Bool.and_eq_true, Bool.and_eq_true] at q
    exact absurd (eq_of_beq q.1.2) (by decide)
  show wpAny _ _ (if ((((items.size : Nat) : Int) - 1) == 0 && (-1 : Int) == 1 && items.size == items.size) = true then _ else _) _ _ s
  rw [if_neg hno, pick_rev]
  first
    | exact wpAny_bind (m := Builtin.Tuple.tupleExact _) (wpAny_newObj_type (wpAny_pure ⟨_, rfl, wpAny_pure h⟩) htake)
    | exact wpAny_bind (m := Builtin.Tuple.tupleExact _) (wpAny_newObj_type (wpAny_bind (wpAny_pure (wpAny_pure ⟨_, rfl, wpAny_pure h⟩))) htake)
    | exact wpAny_bind (wpAny_bind (m := Builtin.Tuple.tupleExact _) (wpAny_newObj_type (wpAny_pure (wpAny_pure ⟨_, rfl, wpAny_pure h⟩)) htake))
    | exact wpAny_bind (wpAny_bind (m := Builtin.Tuple.tupleExact _) (wpAny_newObj_type (wpAny_pure ⟨_, rfl, wpAny_pure h⟩) htake))
end
end HT
namespace L2
open PySem PySem.Spec PyProof.Rows
section
variable {X : Cx} {pos p2 : Pos} {e st : Expr}
def tRev (K : PySem.W.Frag) (te : TE) (ts : TO) : TE := fun σ H Q => te σ H fun x H1 => ts σ H1 fun o H2 => o = some (-1) ∧ ∃ a xs, x = .ref a ∧ SqT K H2 a xs ∧ ∀ p, H2 p = none → Q (.ref p) (upd H2 p (.tup xs.reverse))
theorem pe_rev {te : TE} {ts : TO} (he : PE X e te) (hs : PO X (some st) ts) : PE X (.Subscript e (.Slice none none (some st) p2) pos) (tRev X.K te ts) := by
  refine ⟨fun pins s σ H Q I h => ?_⟩
  refine Subscript_ (thn (he.run pins s σ H _ I h) fun v s1 ⟨x, H1, I1, r1, q1⟩ => ?_)
  refine wpAny_Slice ?_
  rw [evalPart_none]
  refine wpAny_pure ?_
  refine wpAny_pure ?_
  refine thn (hs.run pins s1 σ H1 _ I1 q1) fun vs s3 ⟨o, H3, I3, pu, q3⟩ => ?_
  obtain ⟨rfl, a, xs, rfl, hx, q⟩ := q3
  cases r1
  have I4 : Inv X pins σ H3 { s3 with heap := s3.heap.push { cls := .type "slice", data := .fields #[.none, .none, vs] } } := I3.kept (t' := s3.toks) fun b ob q => Heap.get?_push_of_some _ q
  obtain ⟨its, r, ht, hz⟩ := I4.tuple hx
  have hlen : its.toArray.size = xs.length := by rw [List.size_toArray]; exact r.length.symm
  show wpAny (model X.prog X.w) X.A (subscriptTail e (.Slice none none (some st) p2) (.ref a) (.ref s3.heap.objs.size)) (EP X pins σ Q) X.xe { s3 with heap := s3.heap.push { cls := .type "slice", data := .fields #[.none, .none, vs] } }
  refine tail_any (ops := [.ref a, .ref s3.heap.objs.size]) ht.typeIs PyProof.Rows.slot_tuple_getitem.lookup ?_ (by with_unfolding_all rfl)
  refine HT.getItem_tuple_rev ht (Heap.IsSliceOf.new ..) pu ?_ (by rw [hlen]; exact hz)
  refine ⟨.ref _, _, I4.laid (t' := s3.toks) (o := .tup xs.reverse) (fun b ob q => Heap.get?_push_of_some _ q) (Nat.le_refl _) ?_, rfl, q _ (I4.hok.fresh (Nat.le_refl _))⟩
  exact ⟨by simpa using hz, _, r.reverse, IsTup.new _ _⟩
end
end L2
end

section
set_option Elab.async false
set_option linter.all false
set_option autoImplicit false
set_option maxRecDepth 100000
set_option maxHeartbeats 4000000
/-! Dp8: calls of the text's defs. -/
namespace Dp
open PySem PySem.Spec PyProof.Rows L2

/-- room, behind a built-in too -/
def RoomI (k : Nat) (A : Around) : Prop := Room k A ∧ Room k A.in1
theorem roomI {k : Nat} {A : Around} (r : Room (k + 1) A) (env : PySem.Env) : RoomI k (A.deeper env) :=
  ⟨r.deeper env, r.hd, by have := r.dp; show A.depth + 1 + 3 * k + 5 < _; omega, by have := r.un; show A.units + 3 + 1 + 16 * k + 200 < _; omega⟩
/-- a def's promise, where no repr is on its way -/
structure FnG (P : Program) (w : World) (K : PySem.W.Frag) (mg : Str → Option Value) (base : Heap) (k : Nat) (f : Addr) (fd : FuncData) (ps : List Str) (sp : Sp) : Prop where
  len : ∀ vs H Q E, sp vs H Q E → vs.length = ps.length
  go : ∀ (A : Around) (outer : List PySem.Env) (s : Shared) (H : Hp) (args : Args) (us : List Value) (vs : List V) (Q : VK) (E : XK), Room k A → A.guards = some [] → Env0 P w K mg base A outer s H → BindsTo s fd args (ps.zip us) → Vals vs us → sp vs H Q E →
    codeAny (model P w) A (.call (.ref f) args) (CR (L2.CX P w) outer P w H s Q E) s
/-- plain data in, plain data out -/
def spD (g : Gd) (np : Nat) (call : List D → T D) : Sp := fun vs H Q E => vs.length = np ∧ ∃ n F ds, g.GI n H ∧ Sub F H ∧ Nsp g F ∧ Reps g.r F ds vs ∧
  T.wp n (call ds) (fun k d => ∀ v F' H', Step g F H k F' H' → Rep g.r F' d v → Q v H') (fun k c l => ∀ cls dd F' H', Step g F H k F' H' → RepX g F' c l cls dd → E cls dd H')
/-- the values at the places p -/
def PickV {α : Type} (l : List α) (p : List Nat) (zs : List α) : Prop := zs.map some = p.map fun (i : Nat) => l[i]?
def nsB : Expr → Bool
  | .Starred _ _ => false
  | _ => true
theorem star_cons {e : Expr} {es : List Expr} {env : PySem.Env} (h : nsB e = true) : starEach (e :: es) env = (false, eval e env) :: starEach es env := by
  cases e <;> first | rfl | cases h
theorem star_any {pos : Pos} {env : PySem.Env} : ∀ {es : List Expr}, es.all nsB = true → (backTo pos (starEach es env)).any (·.1) = false
  | [], _ => rfl
  | e :: es, h => by
    rw [List.all_cons, Bool.and_eq_true] at h
    rw [star_cons h.1]
    show (false || (backTo pos (starEach es env)).any (·.1)) = false
    rw [star_any h.2]; rfl
def kwB : List Keyword → List Str → Bool
  | [], [] => true
  | ⟨some x, _, _⟩ :: r, y :: l => decide (x = y) && kwB r l
  | _, _ => false
theorem kw_all {pos : Pos} {env : PySem.Env} : ∀ {kws : List Keyword} {ks : List Str}, kwB kws ks = true → (backToKw pos (keywordEach kws env)).all (·.1.isSome) = true ∧ (backToKw pos (keywordEach kws env)).filterMap (·.1) = ks ∧ (backToKw pos (keywordEach kws env)).any (·.1.isNone) = false
  | [], [], _ => ⟨rfl, rfl, rfl⟩
  | [], _ :: _, h => by cases h
  | ⟨none, _, _⟩ :: _, _, h => by cases h
  | ⟨some x, e, p⟩ :: r, [], h => by cases h
  | ⟨some x, e, p⟩ :: r, y :: l, h => by
    rw [kwB, Bool.and_eq_true, decide_eq_true_eq] at h
    obtain ⟨rfl, h⟩ := h
    obtain ⟨h1, h2, h3⟩ := kw_all (pos := pos) (env := env) h
    refine ⟨?_, ?_, ?_⟩
    · show (true && (backToKw pos (keywordEach r env)).all (·.1.isSome)) = true
      rw [h1]; rfl
    · show x :: (backToKw pos (keywordEach r env)).filterMap (·.1) = x :: l
      rw [h2]
    · show (false || (backToKw pos (keywordEach r env)).any (·.1.isNone)) = false
      rw [h3]; rfl
section
variable {g : Gd} {M : Lm g} {W : WX} {X : Cx} {pos : Pos} {a b c : Expr} {ta tb tc : Env → T D}
theorem run_fnG {pins : List (Addr × Obj)} {σ : L2.St} {H : Hp} {s : Shared} {Q : VK} {us : List Value} {vs : List V} {k : Nat} {f : Addr} {fd : FuncData} {ps : List Str} {sp : Sp} {args : Args} {E : XK} (F : FnG X.prog X.w X.K X.mg X.base k f fd ps sp) (hr : Room k X.A) (hg : X.A.guards = some [])
    (tk : L2.Takes X W) (I : L2.Inv X pins σ H s) (hb : BindsTo s fd args (ps.zip us)) (r : Vals vs us) (hE : ∀ cls d H', E cls d H' → W cls d σ H') (h : sp vs H Q E) : codeAny (model X.prog X.w) X.A (.call (.ref f) args) (fun r s' => match r with | .ok (.ret u) => EP X pins σ Q u s' | .ok _ => False | .error e => X.xe e s') s := by
  refine codeAny_mono (F.go X.A X.stack s H args us vs Q E hr hg I.env0 hb r h) fun r s' hq => ?_
  cases r with
  | error e => exact tk _ _ (XE.of_call I hE hq)
  | ok fl =>
    cases fl with
    | ret u => exact I.after hq
    | next => exact False.elim hq
    | brk => exact False.elim hq
    | cont => exact False.elim hq
end
/-- a def of the text (or a class with an __init__ of its own), called: by place, by keywords -/
structure Cal (g : Gd) (P : Program) (w : World) (K : PySem.W.Frag) (mg : Str → Option Value) (base : Heap) (k : Nat) (f np : Nat) (call : List D → T D) (kws : List (Nat × List Str × List Nat)) : Prop where
  pos : ∀ (X : Cx) (W : WX) (pins : List (Addr × Obj)) (σ : L2.St) (s : Shared) (H : Hp) (us : List Value) (vs : List V) (Q : VK), X.prog = P → X.w = w → X.K = K → X.mg = mg → X.base = base → Room k X.A → X.A.guards = some [] → L2.Takes X W → L2.Inv X pins σ H s → Vals vs us →
    spD g np call vs H Q (fun cls dd H' => W cls dd σ H') → wpAny (model X.prog X.w) X.A (PySem.call (.ref (g.r.fa f)) us []) (EP X pins σ Q) X.xe s
  kwd : ∀ e ∈ kws, ∀ (X : Cx) (W : WX) (pins : List (Addr × Obj)) (σ : L2.St) (s : Shared) (H : Hp) (us ws zs : List Value) (vs : List V) (Q : VK), X.prog = P → X.w = w → X.K = K → X.mg = mg → X.base = base → Room k X.A → X.A.guards = some [] → L2.Takes X W → L2.Inv X pins σ H s →
    us.length = e.1 → ws.length = e.2.1.length → PickV (us ++ ws) e.2.2 zs → Vals vs zs → spD g np call vs H Q (fun cls dd H' => W cls dd σ H') → wpAny (model X.prog X.w) X.A (PySem.call (.ref (g.r.fa f)) us (e.2.1.zip ws)) (EP X pins σ Q) X.xe s
  kp : PySem.W.keepIn K (.ref (g.r.fa f)) = true
theorem Cal.of {g : Gd} {P : Program} {w : World} {K : PySem.W.Frag} {mg : Str → Option Value} {base : Heap} {k f np : Nat} {call : List D → T D} {kws : List (Nat × List Str × List Nat)}
    (ex : ∃ (fd : FuncData) (ps : List Str), ps.length = np ∧ FnG P w K mg base k (g.r.fa f) fd ps (spD g np call) ∧ (∀ (s : Shared) (us : List Value), K.In s.heap → us.length = np → BindsTo s fd ⟨us, []⟩ (ps.zip us)) ∧
      ∀ e ∈ kws, ∀ (s : Shared) (us ws zs : List Value), K.In s.heap → us.length = e.1 → ws.length = e.2.1.length → PickV (us ++ ws) e.2.2 zs → BindsTo s fd ⟨us, e.2.1.zip ws⟩ (ps.zip zs))
    (kp : PySem.W.keepIn K (.ref (g.r.fa f)) = true) : Cal g P w K mg base k f np call kws := by
  obtain ⟨fd, ps, hps, FG, hb, hbk⟩ := ex
  refine ⟨fun X W pins σ s H us vs Q e1 e2 e3 e4 e5 hr hg tk I r h => ?_, fun e he X W pins σ s H us ws zs vs Q e1 e2 e3 e4 e5 hr hg tk I h1 h2 h3 r h => ?_, kp⟩
  · subst e1 e2 e3 e4 e5
    exact wpAny_call (run_fnG FG hr hg tk I (hb s us I.kIn (by rw [← r.length]; exact h.1)) r (fun _ _ _ h => h) h)
  · subst e1 e2 e3 e4 e5
    exact wpAny_call (run_fnG FG hr hg tk I (hbk e he s us ws zs I.kIn h1 h2 h3) r (fun _ _ _ h => h) h)
section
variable {g : Gd} {M : Lm g} {W : WX} {X : Cx} {pos : Pos} {a b c : Expr} {ta tb tc : Env → T D}
/-- the promise, from what the arguments came to -/
theorem sp_of {call : List D → T D} {n : Nat} {ds : List D} {vs : List V} {Q : VK} {H0 F H F1 H1 : Hp} {m : Nat} {σ : L2.St} {δ : Env} (s1 : Step g F H m F1 H1) (r1 : Reps g.r F1 ds vs) (hn : vs.length = n)
    (w : T.wp m (call ds) (fun k d => ∀ v F' H', Step g F H k F' H' → Post g false F' H H' d v → Q v H') (wX g W F H σ)) : spD g n call vs H1 Q (fun cls dd H' => W cls dd σ H') :=
  ⟨hn, _, F1, ds, s1.gi, s1.frz, s1.nsp, r1, T.wp_mono (fun _ d k v F' H' s' rv => k v F' H' (s1.trans s') (Post.of rv)) (fun _ c l k cls dd F' H' s' rx => k cls dd F' H' (s1.trans s') rx) w⟩
theorem s_call {x : Str} {p : Pos} {e : Expr} {es : List Expr} {n k f : Nat} {call : List D → T D} {kws : List (Nat × List Str × List Nat)} {t : Env → T (List D)} (C : Cok g X) (hr : Room k X.A) (tk : L2.Takes X W) (F : Cal g X.prog X.w X.K X.mg X.base k f n call kws)
    (hg : Gl X x) (hm : X.mg x = some (.ref (g.r.fa f))) (hdb : (x == ("__debug__" : Str)) = false) (ha : PA X (e :: es) (tDA g M W n t)) (hs : (e :: es).all nsB = true) :
    PE X (.Call (.Name x p) (e :: es) [] pos) (tD g M W false fun δ => (t δ).bind fun ds => call ds) := by
  refine ⟨fun pins s σ H Q I ⟨_, H0, F', δ, A, w⟩ => ?_⟩
  have q : tDA g M W n t σ H fun vs H1 => spD g n call vs H1 Q (fun cls dd H' => W cls dd σ H') :=
    ⟨_, H0, F', δ, A, T.wp_mono (fun _ ds wd vs F1 H1 s1 r1 e1 => sp_of (H0 := H0) (δ := δ) s1 r1 e1 wd) (fun _ _ _ h => h) (T.wp_bind.mp w)⟩
  refine wpAny_Call_Name_kw (ld_glob I hg hm ?_ hdb)
  rw [List.all_cons, Bool.and_eq_true] at hs
  refine PySem.W.callWith_K (h₀ := X.base) I.ok.mod.kin F.kp (thn (ha.run pos pins s σ H _ I q) fun us s1 ⟨vs, H1, I1, r, q⟩ => ⟨I1.kIn, ?_⟩) (star_cons hs.1) (star_any hs.2)
  have hu : us.length = n := by rw [← r.length]; exact q.1
  exact F.pos X W pins σ s1 H1 us vs Q rfl rfl rfl rfl rfl hr C.gds tk I1 r q
theorem s_call0 {x : Str} {p : Pos} {k f : Nat} {call : List D → T D} {kws : List (Nat × List Str × List Nat)} (C : Cok g X) (hr : Room k X.A) (tk : L2.Takes X W) (F : Cal g X.prog X.w X.K X.mg X.base k f 0 call kws)
    (hg : Gl X x) (hm : X.mg x = some (.ref (g.r.fa f))) (hdb : (x == ("__debug__" : Str)) = false) :
    PE X (.Call (.Name x p) [] [] pos) (tD g M W false fun δ => (T.ret ([] : List D)).bind fun ds => call ds) := by
  refine ⟨fun pins s σ H Q I ⟨_, H0, F', δ, A, w⟩ => ?_⟩
  refine wpAny_Call_Name_kw (ld_glob I hg hm ?_ hdb)
  refine PySem.W.callWith_K0 I.kIn F.kp ?_
  exact F.pos X W pins σ s H [] [] Q rfl rfl rfl rfl rfl hr C.gds tk I .nil (sp_of (H0 := H0) (δ := δ) A.now .nil rfl w)
theorem Reps.rev {r : R} {F : Hp} : ∀ {l : List D} {xs : List V}, Reps r F l xs → Reps r F l.reverse xs.reverse
  | [], _, h => by rw [h.nil_inv]; exact .nil
  | d :: l, _, h => by
    obtain ⟨x, ys, rfl, h1, h2⟩ := h.cons_inv
    rw [List.reverse_cons, List.reverse_cons]
    exact (Reps.rev h2).app (.cons h1 .nil)
/-- x[::-1] -/
theorem s_rev {e st : Expr} {p2 : Pos} {te : Env → T D} (C : Cok g X) (he : PE X e (tD g M W false te)) (hs : PE X st (tD g M W false fun _ => .ret (.int (-1)))) :
    PE X (.Subscript e (.Slice none none (some st) p2) pos) (tD g M W false fun δ => (te δ).bind fun x => match x with | .tup l => .ret (.tup l.reverse) | _ => .bad) := by
  refine ⟨fun pins s σ H Q I ⟨nn, H0, F, δ, A, w⟩ => (pe_rev he (po_some hs)).run pins s σ H Q I ⟨_, H0, F, δ, A, T.wp_mono (fun _ d wd v F1 H1 s1 r1 => ?_) (fun _ _ _ h => h) (T.wp_bind.mp w)⟩⟩
  have r1 : Rep g.r F1 d v := by cases d <;> exact r1
  cases d with
  | tup l =>
    refine ⟨_, H0, F1, δ, A.step s1, fun u F2 H2 s2 r2 => ?_⟩
    have r2 : u = .int (-1) := by unfold Post at r2; exact r2.intI
    subst r2
    refine ⟨-1, rfl, rfl, ?_⟩
    obtain ⟨p, xs, rfl, h1, h2⟩ := (r1.mono s2.sub).tupI
    refine ⟨p, xs, rfl, by rw [C.K]; exact s2.frz.seqT h1, fun t nt => ?_⟩
    have b := Step.born C.ok s2.gi s2.frz s2.nsp (o := .tup xs.reverse) nt
    exact wd _ _ _ ((s1.trans s2).trans b) (Post.of (Rep.tup upd_same ((Reps.rev h2).mono b.sub)))
  | _ => exact wd.elim
/-- a call of what a name holds -/
theorem s_cv {x : Str} {p : Pos} {e : Expr} {es : List Expr} {n k i : Nat} {fs : List Nat} {call : Nat → List D → T D} {kws : Nat → List (Nat × List Str × List Nat)} {t : Env → T (List D)} {tv : Env → T D} (C : Cok g X) (hr : Room k X.A) (tk : L2.Takes X W) (F : ∀ f ∈ fs, Cal g X.prog X.w X.K X.mg X.base k f n (call f) (kws f))
    (hv : PE X (.Name x p) (tD g M W false tv)) (htv : ∀ δ d, look δ i = .v d → tv δ = .ret d) (ha : PA X (e :: es) (tDA g M W n t)) (hs : (e :: es).all nsB = true) :
    PE X (.Call (.Name x p) (e :: es) [] pos) (tD g M W false fun δ => match look δ i with | .v (.fn f) => T.need (decide (f ∈ fs)) ((t δ).bind fun ds => call f ds) | _ => .bad) := by
  refine ⟨fun pins s σ H Q I ⟨nn, H0, F', δ, A, w⟩ => ?_⟩
  dsimp only at w
  split at w
  · rename_i f hl
    obtain ⟨hf, w⟩ := T.wp_need.mp w
    have hf := of_decide_eq_true hf
    have Fc := F f hf
    have e0 := htv δ _ hl
    refine wpAny_Call_Name_kw (thn (hv.run pins s σ H (fun v H1 => ∃ F1, v = .ref (g.r.fa f) ∧ Step g F' H nn F1 H1) I ⟨nn, H0, F', δ, A, by rw [e0]; exact fun v F1 H1 s1 r1 => ⟨F1, by unfold Post at r1; unfold Rep at r1; exact r1, s1⟩⟩) fun u s1 ⟨v, H1, I1, r, F1, hv1, st1⟩ => ?_)
    subst hv1
    have hu : u = .ref (g.r.fa f) := r
    subst hu
    have q : tDA g M W n t σ H1 fun vs H2 => spD g n (call f) vs H2 Q (fun cls dd H' => W cls dd σ H') :=
      ⟨_, H0, F1, δ, A.step st1, T.wp_mono (fun _ ds wd vs F2 H2 s2 r2 e2 => sp_of (H0 := H0) (δ := δ) (st1.trans s2) r2 e2 wd) (fun _ _ _ h => wX.step st1 h) (T.wp_bind.mp w)⟩
    rw [List.all_cons, Bool.and_eq_true] at hs
    refine PySem.W.callWith_K (h₀ := X.base) I1.ok.mod.kin Fc.kp (thn (ha.run pos pins s1 σ H1 _ I1 q) fun us s2 ⟨vs, H2, I2, r2, q2⟩ => ⟨I2.kIn, ?_⟩) (star_cons hs.1) (star_any hs.2)
    have hu : us.length = n := by rw [← r2.length]; exact q2.1
    exact Fc.pos X W pins σ s2 H2 us vs Q rfl rfl rfl rfl rfl hr C.gds tk I2 r2 q2
  · exact w.elim
/-! keywords -/
theorem PickV.rel {l : List V} {us : List Value} (r : Vals l us) : ∀ {p : List Nat} {zs : List V}, PickV l p zs → ∃ ys, PickV us p ys ∧ Vals zs ys
  | [], [], _ => ⟨[], rfl, .nil⟩
  | [], z :: zs, h => by cases h
  | i :: p, [], h => by cases h
  | i :: p, z :: zs, h => by
    unfold PickV at h
    simp only [List.map_cons, List.cons.injEq] at h
    obtain ⟨u, h1, h2⟩ := r.get h.1.symm
    obtain ⟨ys, h3, h4⟩ := PickV.rel r (p := p) (zs := zs) h.2
    exact ⟨u :: ys, by unfold PickV at h3 ⊢; simp only [List.map_cons, h1, h3], .cons h2 h4⟩
theorem pick_reps {r : R} {F : Hp} {l : List D} {vs : List V} (h : Reps r F l vs) : ∀ {p : List Nat} {ds : List D}, pick l p = some ds → ∃ zs, PickV vs p zs ∧ Reps r F ds zs
  | [], ds, e => by cases e; exact ⟨[], rfl, .nil⟩
  | i :: p, ds, e => by
    cases h1 : l[i]? with
    | none => simp [pick, h1] at e
    | some d =>
      cases h2 : pick l p with
      | none => simp [pick, h1, h2] at e
      | some ds' =>
        simp [pick, h1, h2] at e; subst e
        obtain ⟨v, e1, e2⟩ := h.get h1
        obtain ⟨zs, e3, e4⟩ := pick_reps h h2
        exact ⟨v :: zs, by unfold PickV at e3 ⊢; simp only [List.map_cons, e1, e3], .cons e2 e4⟩
theorem PickV.len {α : Type} {l : List α} {p : List Nat} {zs : List α} (h : PickV l p zs) : zs.length = p.length := by
  have := congrArg List.length h
  simpa using this
def tDK (g : Gd) (M : Lm g) (W : WX) (n : Nat) (t : Env → T (List D)) : TA := tDA g M W n t
theorem imK {e : List Keyword} {t t' : TA} (h : PK X e t) (i : ∀ σ H Q, t' σ H Q → t σ H Q) : PK X e t' := ⟨fun p pins s σ H Q I q => h.run p pins s σ H Q I (i σ H Q q)⟩
theorem k_nil : PK X [] (tDA g M W 0 fun _ => .ret []) := imK pk_nil fun σ H Q ⟨nn, H0, F, δ, A, w⟩ => w [] F H A.now .nil rfl
theorem k_cons {nm : Option Str} {kp : Pos} {es : List Keyword} {n : Nat} {tr : Env → T (List D)} (ha : PE X a (tD g M W false ta)) (hr : PK X es (tDA g M W n tr)) :
    PK X (⟨nm, a, kp⟩ :: es) (tDA g M W (n + 1) fun δ => (ta δ).bind fun d => (tr δ).bind fun ds => .ret (d :: ds)) := by
  refine imK (pk_cons ha hr) fun σ H Q ⟨nn, H0, F, δ, A, w⟩ => ?_
  refine ⟨_, H0, F, δ, A, T.wp_mono (fun _ d wd v F1 H1 s1 r1 => ?_) (fun _ _ _ h => h) (T.wp_bind.mp w)⟩
  have r1 : Rep g.r F1 d v := by cases d <;> exact r1
  refine ⟨_, H0, F1, δ, A.step s1, T.wp_mono (fun _ ds wds vs F2 H2 s2 r2 e2 => ?_) (fun _ _ _ h => wX.step s1 h) (T.wp_bind.mp wd)⟩
  exact wds (v :: vs) F2 H2 (s1.trans s2) (.cons (r1.mono s2.sub) r2) (by simp [e2])
theorem s_callk {x : Str} {p : Pos} {es : List Expr} {kws : List Keyword} {n m j k f : Nat} {ks : List Str} {pm : List Nat} {call : List D → T D} {kk : List (Nat × List Str × List Nat)} {t tk' : Env → T (List D)} (C : Cok g X) (hr : Room k X.A) (tk : L2.Takes X W) (F : Cal g X.prog X.w X.K X.mg X.base k f n call kk)
    (hg : Gl X x) (hm : X.mg x = some (.ref (g.r.fa f))) (hdb : (x == ("__debug__" : Str)) = false) (ha : (es = [] ∧ m = 0 ∧ t = fun _ => .ret []) ∨ ∃ e r, es = e :: r ∧ PA X es (tDA g M W m t)) (hs : es.all nsB = true) (hk : PK X kws (tDA g M W j tk')) (hkb : kwB kws ks = true) (hj : ks.length = j)
    (hin : (m, ks, pm) ∈ kk) (hpm : pm.length = n) :
    PE X (.Call (.Name x p) es kws pos) (tD g M W false fun δ => (t δ).bind fun ds => (tk' δ).bind fun zs => match pick (ds ++ zs) pm with | some vs => call vs | none => .bad) := by
  have hbk := F.kwd _ hin
  refine ⟨fun pins s σ H Q I ⟨_, H0, F', δ, A, w⟩ => ?_⟩
  refine wpAny_Call_Name_kw (ld_glob I hg hm ?_ hdb)
  obtain ⟨ka, kf, kn⟩ := kw_all (pos := pos) (env := X.env) hkb
  have fin : ∀ {us ws : List Value} {vs zs : List V} {F1 H1 F2 H2 : Hp} {ds dz : List D} {s2 : Shared}, L2.Inv X pins σ H2 s2 → Vals vs us → Vals zs ws → vs.length = m → zs.length = j → ∀ {nn : Nat}, Step g F' H nn F2 H2 → Reps g.r F2 ds vs → Reps g.r F2 dz zs →
      T.wp nn (match pick (ds ++ dz) pm with | some vs => call vs | none => .bad) (fun k d => ∀ v F'' H', Step g F' H k F'' H' → Post g false F'' H H' d v → Q v H') (wX g W F' H σ) →
      wpAny (model X.prog X.w) X.A (PySem.call (.ref (g.r.fa f)) us (ks.zip ws)) (EP X pins σ Q) X.xe s2 := by
    intro us ws vs zs F1 H1 F2 H2 ds dz s2 I2 rv rz e1 e2 nq st r1 r2 wl
    cases q : pick (ds ++ dz) pm with
    | none => rw [q] at wl; exact wl.elim
    | some xs =>
      rw [q] at wl
      obtain ⟨ys, h1, h2⟩ := pick_reps (r1.app r2) q
      obtain ⟨ls, h3, h4⟩ := PickV.rel (rv.append rz) h1
      have hx := h1.len
      exact hbk X W pins σ s2 H2 us ws ls _ Q rfl rfl rfl rfl rfl hr C.gds tk I2 (by rw [← rv.length]; exact e1) (by rw [← rz.length, e2]; exact hj.symm) h3 h4 (sp_of (H0 := H0) (δ := δ) st h2 (by rw [hx]; exact hpm) wl)
  rcases ha with ⟨rfl, rfl, rfl⟩ | ⟨e, r, rfl, ha⟩
  · refine PySem.W.callWith_KW0 (h₀ := X.base) I.ok.mod.kin F.kp ka ?_ (by rw [kn]; rfl)
    have q : tDA g M W j tk' σ H fun zs H2 => ∃ nn F2 dz, Step g F' H nn F2 H2 ∧ Reps g.r F2 dz zs ∧ zs.length = j ∧ T.wp nn (match pick ([] ++ dz) pm with | some vs => call vs | none => .bad) (fun k d => ∀ v F'' H', Step g F' H k F'' H' → Post g false F'' H H' d v → Q v H') (wX g W F' H σ) :=
      ⟨_, H0, F', δ, A, T.wp_mono (fun _ dz wd zs F2 H2 s2 r2 e2 => ⟨_, F2, dz, s2, r2, e2, wd⟩) (fun _ _ _ h => h) (T.wp_bind.mp w)⟩
    refine thn (hk.run pos pins s σ H _ I q) fun ws s2 ⟨zs, H2, I2, rz, nq, F2, dz, st, r2, e2, wl⟩ => ⟨I2.kIn, ?_⟩
    rw [kf]
    exact fin (F1 := F') (H1 := H) (us := []) (vs := []) (ds := []) I2 .nil rz rfl e2 st .nil r2 wl
  · rw [List.all_cons, Bool.and_eq_true] at hs
    have q : tDA g M W m t σ H fun vs H1 => tDA g M W j tk' σ H1 fun zs H2 => ∃ nn F2 ds dz, Step g F' H nn F2 H2 ∧ Reps g.r F2 ds vs ∧ Reps g.r F2 dz zs ∧ vs.length = m ∧ zs.length = j ∧ T.wp nn (match pick (ds ++ dz) pm with | some vs => call vs | none => .bad) (fun k d => ∀ v F'' H', Step g F' H k F'' H' → Post g false F'' H H' d v → Q v H') (wX g W F' H σ) :=
      ⟨_, H0, F', δ, A, T.wp_mono (fun _ ds wd vs F1 H1 s1 r1 e1 => ⟨_, H0, F1, δ, A.step s1, T.wp_mono (fun _ dz wz zs F2 H2 s2 r2 e2 => ⟨_, F2, ds, dz, s1.trans s2, r1.mono s2.sub, r2, e1, e2, wz⟩) (fun _ _ _ h => wX.step s1 h) (T.wp_bind.mp wd)⟩) (fun _ _ _ h => h) (T.wp_bind.mp w)⟩
    refine PySem.W.callWith_KW (h₀ := X.base) I.ok.mod.kin F.kp ka (thn (ha.run pos pins s σ H _ I q) fun us s1 ⟨vs, H1, I1, rv, q1⟩ => ?_) (by rw [star_any (by rw [List.all_cons, hs.1, hs.2]; rfl), kn]; rfl) (star_cons hs.1)
    refine thn (hk.run pos pins s1 σ H1 _ I1 q1) fun ws s2 ⟨zs, H2, I2, rz, nq, F2, ds, dz, st, r1, r2, e1, e2, wl⟩ => ⟨I2.kIn, ?_⟩
    rw [kf]
    exact fin (F1 := F') (H1 := H1) I2 rv rz e1 e2 st r1 r2 wl
end
end Dp
end

section
set_option Elab.async false
set_option linter.all false
set_option autoImplicit false
set_option maxRecDepth 100000
set_option maxHeartbeats 4000000
/-! DpR: == and != of instances by an own __eq__. -/
namespace Dp
open PySem PySem.Spec PyProof.Rows L2
section
variable {prog : Program} {w : World} {A : Around} {E : Value → Shared → Prop} {s : Shared} {K : PySem.W.Frag} {x C L f : Addr} {h₀ : Heap} {m : Str → Option Value} {ox : Obj} {od : Option Obj} {b tb : Value}
open PySem.W
theorem ifBound_ne {M : Model} {args : List Value} {Q : Option Value → Shared → Prop} (X : K.In s.heap) (I : PySem.W.InstAt s.heap x ox C od) (hs : PySem.W.findIn K (.ref C) "__ne__" = some (some (.builtin "object.__ne__")))
    (h : wpAny M A (call (.builtin "object.__ne__") (.ref x :: args)) (fun v => Q (some v)) E s) : wpAny M A (callSpecialIfBound? (.ref x) "__ne__" args) Q E s := by
  simp only [callSpecialIfBound?, bindSpecialIfBound?]
  refine wpAny_holding (wpAny_bind (wpAny_bind (wpAny_bind (I.type.here ((PySem.W.looks_findIn X hs).here ?_)))))
  refine wpAny_bind (wpAny_askSetting (wpAny_ite ?_))
  have fin : wpAny M A (call (.builtin "object.__ne__") ([.ref x] ++ args) >>= fun v => pure (some v)) Q E s := wpAny_bind (wpAny_mono h (fun v s' h' => wpAny_pure h') fun _ _ h' => h')
  split
  · exact wpAny_bind (wpAny_of_eq (PySem.F.cmp_object.ne.bind _) (wpAny_pure (by exact fin)))
  · exact wpAny_tryCatch (wpAny_bind (wpAny_of_eq (PySem.F.cmp_object.ne.bind _) (wpAny_pure (by exact fin))))
/-- object.__ne__ asks the own __eq__ -/
theorem call_ne {Q : Value → Shared → Prop} (hu : A.in1.units < cLine) (X : K.In s.heap) (I : PySem.W.InstAt s.heap x ox C od) (hm : PySem.W.mroIn K C (.type "object") = some true) (hs : PySem.W.findIn K (.ref C) "__eq__" = some (some (.ref f))) (hf : PySem.W.isFn K (.ref f) = true)
    (h : wpAny (model prog w) A.in1 (call (.ref f) [.ref x, b]) (fun v s' => ∃ c, v = .bool c ∧ Q (.bool (!c)) s') E s) :
    wpAny (model prog w) A (call (.builtin "object.__ne__") [.ref x, b]) Q E s := by
  refine wpAny_call (codeAny_call_builtin PySem.F.cmp_object.ne.plain PySem.F.cmpEntry_ne (PySem.W.check_slot PySem.F.cmpKind_ne PySem.F.cmpSplit_ne (I.type.andThen (PySem.W.looks_mroIn X hm)) (PySem.F.cmpArgs_ne _ _) ?_))
  unfold Builtin.«object.__ne__»
  repeat (first | with_reducible refine wpAny_cRoomFor hu ?_ | with_reducible refine wpAny_bind (ifBound_K X I hs hf (wpAny_mono h (fun v s' hv => ?_) fun _ _ e => e)) | wp_step)
  obtain ⟨c, rfl, q⟩ := hv
  repeat (first | with_reducible refine wpAny_truthy_bool ?_ | wp_step)
  exact q
theorem rc_ne {Q : Value → Shared → Prop} (hu : A.units < cLine) (hu1 : A.in1.units < cLine) (F : Fr h₀ L s.heap m) (X₀ : K.In h₀) (I : PySem.W.InstAt s.heap x ox C od) (hb : Looks (model prog w) s.heap (typeOf b) tb) (hn : PySem.W.notFirst K C tb = true)
    (hm : PySem.W.mroIn K C (.type "object") = some true) (hne : PySem.W.findIn K (.ref C) "__ne__" = some (some (.builtin "object.__ne__"))) (hs : PySem.W.findIn K (.ref C) "__eq__" = some (some (.ref f))) (hf : PySem.W.isFn K (.ref f) = true)
    (h : wpAny (model prog w) A.in1 (call (.ref f) [.ref x, b]) (fun v s' => ∃ c, v = .bool c ∧ Q (.bool (!c)) s') E s) : wpAny (model prog w) A (richCompare .NotEq (.ref x) b) Q E s := by
  have X := X₀.keeps F.keep
  have one : wpAny (model prog w) A (tryCompare (.ref x) (cmpInfo .NotEq).2.1 b) (fun r s' => ∃ v, r = some v ∧ Q v s') E s := by
    unfold tryCompare
    refine wpAny_bind (ifBound_ne X I hne (call_ne (Q := fun v s' => (∃ c, v = .bool c) ∧ Q v s') hu1 X I hm hs hf (wpAny_mono h (fun v s' ⟨c, e, q⟩ => ⟨c, e, ⟨_, rfl⟩, q⟩) fun _ _ e => e) |> fun z => wpAny_mono z (fun v s' hv => ?_) fun _ _ e => e))
    obtain ⟨⟨c, rfl⟩, q⟩ := hv
    exact wpAny_pure ⟨_, rfl, q⟩
  unfold richCompare
  simp only [oneThing_ref]
  refine wpAny_holding (wpAny_bind (wpAny_cRoomFor hu ?_))
  refine wpAny_bind (I.type.here (wpAny_bind (hb.here ?_)))
  split
  · rename_i q
    have e : PySem.W.subIn K tb (.ref C) = some false := by
      rcases Bool.or_eq_true_iff.mp hn with e | e
      · rw [beq_iff_eq.mp e] at q; simp at q
      · exact beq_iff_eq.mp e
    refine wpAny_bind ((PySem.W.looks_subIn X e).here ?_)
    simp only [Bool.false_eq_true, if_false]
    refine wpAny_bind (wpAny_mono one (fun r s' z => ?_) fun _ _ e => e)
    obtain ⟨v, rfl, hq⟩ := z
    exact wpAny_pure hq
  · refine wpAny_bind (wpAny_pure ?_)
    simp only [Bool.false_eq_true, if_false]
    refine wpAny_bind (wpAny_mono one (fun r s' z => ?_) fun _ _ e => e)
    obtain ⟨v, rfl, hq⟩ := z
    exact wpAny_pure hq
end
/-- the == of a class: its def, where it stands -/
structure EqI (g : Gd) (P : Program) (w : World) (K : PySem.W.Frag) (mg : Str → Option Value) (base : Heap) (k : Nat) (G : Dp.Cls) (call : Nat → List D → T D) (c f : Nat) : Prop where
  fn : ∃ (fd : FuncData) (ps : List Str), ps.length = 2 ∧ FnG P w K mg base k (g.r.fa f) fd ps (spD g 2 (call f)) ∧ ∀ (s : Shared) (us : List Value), K.In s.heap → us.length = 2 → BindsTo s fd ⟨us, []⟩ (ps.zip us)
  eq : PySem.W.findIn K (.ref (g.r.ca c)) "__eq__" = some (some (.ref (g.r.fa f)))
  isf : PySem.W.isFn K (.ref (g.r.fa f)) = true
  ne : PySem.W.findIn K (.ref (g.r.ca c)) "__ne__" = some (some (.builtin "object.__ne__"))
  ob : PySem.W.mroIn K (g.r.ca c) (.type "object") = some true
  nf : ∀ t, kdIn G t = true → PySem.W.notFirst K (g.r.ca c) (tyVal g t) = true
section
variable {g : Gd} {X : Cx} {G : Dp.Cls}
/-- what a value's type is -/
theorem ty_of {H F : Hp} {d : D} {t : Ty} {v : V} (C : Cok g X) (KO : KOk g G) (sb : Sub F H) (ra : RepB g F H d v) (hk : kindD d = some t) (hz : kdIn G t = true) (ne : ∀ c l, d ≠ .exc c l) : TyX X.K H v (tyVal g t) := by
  cases d with
  | non => cases hk; rw [ra.nonI]; exact .base .non
  | bl b => cases hk; rw [ra.blI]; exact .base (.bl b)
  | int b => cases hk; rw [ra.intI]; exact .base (.int b)
  | str b => cases hk; rw [ra.strI]; exact .base (.str b)
  | tup l =>
    cases hk
    obtain ⟨p, xs, rfl, h1, h2⟩ := ra.tupI
    rcases h1 with (h1 | ⟨o, h1⟩) | ⟨o, its, n, h1, h2, _⟩
    · exact .base (.tup (sb _ _ h1))
    · exact .fTuple (sb _ _ h1)
    · exact .kTuple (by rw [C.K]; exact h1) h2
  | lst l =>
    cases hk
    obtain ⟨p, xs, rfl, h1, _⟩ := ra
    exact .base (.lst h1)
  | dct =>
    cases hk
    have h : Rep g.r F .dct v := ra
    unfold Rep at h
    obtain ⟨p, rfl, h1⟩ := h
    exact .base (.dK (sb _ _ h1))
  | ins c l =>
    cases hk
    have h : Rep g.r F (.ins c l) v := ra
    unfold Rep at h
    obtain ⟨p, dx, xs, rfl, h1, _⟩ := h
    simp only [kdIn, Bool.and_eq_true, decide_eq_true_eq, Bool.not_eq_true'] at hz
    have f := KO.ins c hz.1 hz.2
    rw [← C.K] at f
    exact .base (.ins (sb _ _ h1) f.cl f.ha f.hn f.ht f.hm)
  | exc c l => exact absurd rfl (ne c l)
  | _ => cases hk
/-- an own ==, asked -/
theorem eq_E {k : Nat} {call : Nat → List D → T D} {c f : Nat} (C : Cok g X) (KO : KOk g G) (hr : RoomI k X.A) (Q1 : EqI g X.prog X.w X.K X.mg X.base k G call c f) (neg : Bool) {pins : List (Addr × Obj)} {s : Shared} {σ : L2.St} {H F : Hp} {l : List D} {e : D} {t : Ty} {x y : V} {u v : Value} {Q : VK} {n : Nat} {E : Nat → Nat → List D → Prop}
    (I : L2.Inv X pins σ H s) (rx : RelV x u) (ry : RelV y v) (gi : g.GI n H) (sb : Sub F H) (ns : Nsp g F) (ra : Rep g.r F (.ins c l) x) (rb : RepB g F H e y) (r2 : Rep g.r F e y) (hk : kindD e = some t) (hz : kdIn G t = true) (hne : ∀ c l, e ≠ .exc c l)
    (w : T.wp n (T.nox (call f [.ins c l, e])) (fun c d => ∃ b, d = .bl b ∧ ∀ v F' H', Step g F H c F' H' → Post g true F' H H' (.bl (if neg = true then !b else b)) v → Q v H') E) :
    wpAny (model X.prog X.w) X.A (compareOp (if neg = true then .NotEq else .Eq) u v) (EP X pins σ Q) X.xe s := by
  have st2 := Step.refl gi sb ns
  unfold Rep at ra
  obtain ⟨p, dx, xs, rfl, h1, hlen, hrs⟩ := ra
  obtain rfl : u = Value.ref p := rx
  have hp : H p = some (.ins (g.r.ca c) dx ((g.r.fs c).zip xs)) := sb _ _ h1
  obtain ⟨mA, J, _⟩ := ins_get I.hok hp
  obtain ⟨od, J, _⟩ := J.look
  obtain ⟨m, hF⟩ := I.fr
  obtain ⟨P, Z, hP, _⟩ := kit_of I ry (ty_of C KO sb rb hk hz hne)
  have hty := Z.ty (model X.prog X.w) s.heap I.kIn hP
  have nf := Q1.nf t hz
  obtain ⟨fd, ps, hps, FG, hb⟩ := Q1.fn
  have wn := T.wp_nox w
  -- the call, anywhere with room
  have go : ∀ (A : Around) (Q' : VK), Room k A → A.frames = X.A.frames → A.guards = some [] → (∀ b v' F' H', Step g F H v' F' H' → (∀ v, Post g true F' H H' (.bl (if neg = true then !b else b)) v → Q v H') → Q' (.bl b) H') →
      wpAny (model X.prog X.w) A (PySem.call (.ref (g.r.fa f)) [.ref p, v]) (EP X pins σ Q') X.xe s := by
    intro A Q' hrA hfr hgA hq
    have e0 : Env0 X.prog X.w X.K X.mg X.base A X.stack s H := by
      have e := I.env0
      exact ⟨by rw [hfr]; exact e.frames, e.mod, e.bs, e.bsz, e.funs, e.frf, e.hok, e.bare⟩
    have rr : Vals [V.ref p, y] [Value.ref p, v] := .cons rfl (.cons ry .nil)
    have hsp : spD g 2 (call f) [V.ref p, y] H Q' (fun _ _ _ => False) := by
      refine ⟨rfl, n, F, [.ins c l, e], gi, st2.frz, st2.nsp, .cons ?_ (.cons r2 .nil), T.wp_mono (fun k1 d ⟨b, eb, q⟩ v' F' H' s' rv => ?_) (fun _ _ _ h => h.elim) wn⟩
      · unfold Rep; exact ⟨p, dx, xs, rfl, st2.sub _ _ h1, hlen, hrs.mono st2.sub⟩
      · subst eb
        have ev : v' = .bl b := rv.blI
        subst ev
        exact hq b _ F' H' s' fun v pv => q v F' H' (st2.trans s') pv
    refine wpAny_call (codeAny_mono (FG.go A X.stack s H ⟨[.ref p, v], []⟩ [.ref p, v] [.ref p, y] Q' _ hrA hgA e0 (hb s [.ref p, v] I.kIn rfl) rr hsp) fun r s' hq => ?_)
    cases r with
    | error er => obtain ⟨_, _, _, _, _, _, _, _, _, _, _, _, z⟩ := hq; exact z.elim
    | ok fl =>
      cases fl with
      | ret w => exact I.after hq
      | next => exact False.elim hq
      | brk => exact False.elim hq
      | cont => exact False.elim hq
  cases neg with
  | false =>
    show wpAny (model X.prog X.w) X.A (richCompare .Eq (.ref p) v) (EP X pins σ Q) X.xe s
    refine PySem.W.cmp_K (op := .Eq) hr.1.units0 hF I.ok.mod.kin J hty nf Q1.eq Q1.isf ?_
    refine wpAny_mono (go X.A (fun v H' => (∃ b, v = .bl b) ∧ Q v H') hr.1 rfl C.gds fun b n' F' H' s' q => ⟨⟨b, rfl⟩, q _ (Post.bl _)⟩) (fun u s' hq => ?_) fun _ _ x => x
    obtain ⟨v', H', I', rv, ⟨b, rfl⟩, q⟩ := hq
    obtain rfl : u = Value.bool b := rv
    exact ⟨.bl b, H', I', rfl, q⟩
  | true =>
    show wpAny (model X.prog X.w) X.A (richCompare .NotEq (.ref p) v) (EP X pins σ Q) X.xe s
    refine rc_ne hr.1.units0 hr.2.units0 hF I.ok.mod.kin J hty nf Q1.ob Q1.ne Q1.eq Q1.isf ?_
    refine wpAny_mono (go X.A.in1 (fun v H' => ∃ b, v = .bl b ∧ Q (.bl (!b)) H') hr.2 rfl C.gds fun b n' F' H' s' q => ⟨b, rfl, q _ (Post.bl _)⟩) (fun u s' hq => ?_) fun _ _ x => x
    obtain ⟨v', H', I', rv, b, rfl, q⟩ := hq
    obtain rfl : u = Value.bool b := rv
    exact ⟨b, rfl, .bl (!b), H', I', rfl, q⟩
/-- a comparison, the own == among them -/
theorem cmp_K {k : Nat} {cc : Dp.C} (C : Cok g X) (KO : KOk g cc.G) (hr : RoomI k X.A) (hE : ∀ c f, c < cc.G.n → cc.G.eq c = some f → EqI g X.prog X.w X.K X.mg X.base k cc.G cc.call c f) (o : CmpOp) : OpR X (compareOp o) (rOp g true (cmpK cc o)) := by
  intro pins s σ H x y v u Q I rx ry ⟨n, F, a, b, E, gi, sb, ns, ra, rb, w⟩
  have own : ∀ (neg : Bool) (c : Nat) (l : List D), a = .ins c l → T.wp n (ownEq cc neg c l b) (fun c d => ∀ v F' H', Step g F H c F' H' → Post g true F' H H' d v → Q v H') E → wpAny (model X.prog X.w) X.A (compareOp (if neg = true then .NotEq else .Eq) v u) (EP X pins σ Q) X.xe s := by
    intro neg c l e w0
    clear w
    subst e
    unfold ownEq at w0
    split at w0
    · rename_i f hf
      obtain ⟨hz, w0⟩ := T.wp_need.mp w0
      rw [Bool.and_eq_true, decide_eq_true_eq] at hz
      obtain ⟨hc, hz⟩ := hz
      have key : ∃ t, kindD b = some t ∧ kdIn cc.G t = true ∧ (∀ c l, b ≠ .exc c l) ∧ Rep g.r F b y := by
        unfold eqArg at hz
        split at hz
        · cases hz
        · cases hz
        · rename_i n1 n2
          split at hz
          · rename_i t ht
            refine ⟨t, ht, hz, n2, ?_⟩
            exact rb.nl n1
          · cases hz
      obtain ⟨t, h1, h2, h3, h4⟩ := key
      refine eq_E C KO hr (hE c f hc hf) neg I rx ry gi sb ns (show Rep g.r F (.ins c l) x from ra) rb h4 h1 h2 h3 (T.wp_mono (fun k1 d hd => ?_) (fun _ _ _ h => h) (T.wp_bind.mp w0))
      cases d with
      | bl b => exact ⟨b, rfl, hd⟩
      | _ => exact hd.elim
    · exact w0.elim
  unfold cmpK at w
  split at w
  · exact own false _ _ rfl w
  · exact own true _ _ rfl w
  · exact cmp_D C o pins s σ H x y v u Q I rx ry ⟨n, F, a, b, E, gi, sb, ns, ra, rb, w⟩
end
end Dp
end

section
set_option Elab.async false
set_option linter.all false
set_option autoImplicit false
set_option maxRecDepth 100000
set_option maxHeartbeats 4000000
/-! Dp9: statements. -/
namespace Dp
open PySem PySem.Spec PyProof.Rows L2
/-- what is wanted behind a block, by how it ends -/
def finR (g : Gd) (M : Lm g) (Dn : Ends) (Fb H0 : Hp) (n : Nat) : Fl → Prop
  | .nx δ => ∀ σ' F' H', Step g Fb H0 n F' H' → EnvOk g M H0 F' H' σ' δ → Dn.nx σ' H'
  | .ret d => ∀ v F' H', Step g Fb H0 n F' H' → Rep g.r F' d v → Dn.rt v H'
  | .brk δ => ∀ σ' F' H', Step g Fb H0 n F' H' → EnvOk g M H0 F' H' σ' δ → Dn.bk σ' H'
  | .ct δ => ∀ σ' F' H', Step g Fb H0 n F' H' → EnvOk g M H0 F' H' σ' δ → Dn.ct σ' H'
def finX (g : Gd) (W : WX) (Fb H0 : Hp) : Nat → Nat → List D → Prop := fun n c l => ∀ cls dd σ' F' H', Step g Fb H0 n F' H' → RepX g F' c l cls dd → W cls dd σ' H'
def sD (g : Gd) (M : Lm g) (W : WX) (t : Env → T Fl) : TS := fun Dn σ H => ∃ n Fb H0 F δ, Step g Fb H0 n F H ∧ EnvOk g M H0 F H σ δ ∧ T.wp n (t δ) (finR g M Dn Fb H0) (finX g W Fb H0)
section
variable {g : Gd} {M : Lm g} {W : WX} {X : Cx} {pos : Pos} {Fb H0 F H F' H' F1 H1 : Hp} {σ : L2.St} {δ : Env} {Dn : Ends} {n j : Nat}
theorem finX.wx (st : Step g Fb H0 n F H) {k c : Nat} {l : List D} (h : finX g W Fb H0 k c l) : wX g W F H σ k c l := fun cls dd F' H' s r => h cls dd σ F' H' (st.trans s) r
theorem toAt (st : Step g Fb H0 n F H) (en : EnvOk g M H0 F H σ δ) : At g M n H0 F H σ δ := ⟨st.gi, st.frz, st.nsp, en⟩
theorem finX.base (st : Step g Fb H0 n F1 H1) {k c : Nat} {l : List D} (h : finX g W Fb H0 k c l) : finX g W F1 H0 k c l := fun cls dd σ' F' H' s r => h cls dd σ' F' H' (s.less st.sub st.new) r
theorem finR.base (st : Step g Fb H0 n F1 H1) {k : Nat} {f : Fl} (h : finR g M Dn Fb H0 k f) : finR g M Dn F1 H0 k f := by
  cases f with
  | nx δ => exact fun σ' F' H' s e => h σ' F' H' (s.less st.sub st.new) e
  | ret d => exact fun v F' H' s r => h v F' H' (s.less st.sub st.new) r
  | brk δ => exact fun σ' F' H' s e => h σ' F' H' (s.less st.sub st.new) e
  | ct δ => exact fun σ' F' H' s e => h σ' F' H' (s.less st.sub st.new) e

theorem none_bk (ok : g.Ok) (s : Step g Fb H0 n F H) {p : Addr} (h : H p = none) : H0 p = none := by
  cases e : H0 p with
  | none => rfl
  | some o =>
    rcases s.ext p o e with z | z
    · exact absurd h (ok.there _ H p s.gi z)
    · rw [h] at z; cases z

/-! blocks -/
theorem ss_nil : PSs X [] (sD g M W fun δ => .ret (.nx δ)) := imSs pss_nil fun Dn σ H ⟨nn, Fb, H0, F, δ, st, en, w⟩ => w σ F H st en
theorem ss_cons {s : Stmt} {r : List Stmt} {t u : Env → T Fl} (h1 : PS X s (sD g M W t)) (h2 : PSs X r (sD g M W u)) :
    PSs X (s :: r) (sD g M W fun δ => (t δ).bind fun f => match f with
      | .nx δ' => u δ'
      | .ret d => .ret (.ret d)
      | .brk δ' => .ret (.brk δ')
      | .ct δ' => .ret (.ct δ')) := by
  refine imSs (pss_cons h1 h2) fun Dn σ H ⟨nn, Fb, H0, F, δ, st, en, w⟩ => ?_
  refine ⟨_, Fb, H0, F, δ, st, en, T.wp_mono (fun _ f hf => ?_) (fun _ _ _ h => h) (T.wp_bind.mp w)⟩
  cases f with
  | nx δ' => exact fun σ' F' H' s' e' => ⟨_, Fb, H0, F', δ', s', e', hf⟩
  | ret d => exact hf
  | brk δ' => exact hf
  | ct δ' => exact hf
theorem st_brk : PS X (.Break pos) (sD g M W fun δ => .ret (.brk δ)) := imS ps_break fun Dn σ H ⟨nn, Fb, H0, F, δ, st, en, w⟩ => w σ F H st en
theorem st_cont : PS X (.Continue pos) (sD g M W fun δ => .ret (.ct δ)) := imS ps_continue fun Dn σ H ⟨nn, Fb, H0, F, δ, st, en, w⟩ => w σ F H st en
theorem st_pass {t : Stmt} (h : PS X t tNext) : PS X t (sD g M W fun δ => .ret (.nx δ)) := imS h fun Dn σ H ⟨nn, Fb, H0, F, δ, st, en, w⟩ => w σ F H st en
theorem st_if {c : Expr} {a b : List Stmt} {tc : Env → T D} {ta tb : Env → T Fl} (hc : PT X c (tDT g M W fun δ => (tc δ).bind asB)) (ha : PSs X a (sD g M W ta)) (hb : PSs X b (sD g M W tb)) :
    PS X (.If c a b pos) (sD g M W fun δ => (tc δ).bind fun x => (asB x).bind fun k => if k = true then ta δ else tb δ) := by
  refine imS (ps_if hc ha hb) fun Dn σ H ⟨nn, Fb, H0, F, δ, st, en, w⟩ => ?_
  have w1 := T.wp_bind.mp w
  refine ⟨_, H0, F, δ, toAt st en, T.wp_bind.mpr (T.wp_mono (fun _ x hx => T.wp_mono (fun _ k hk F' H' s' => ?_) (fun _ _ _ h => finX.wx st h) (T.wp_bind.mp hx)) (fun _ _ _ h => finX.wx st h) w1)⟩
  cases k with
  | true => exact ⟨_, Fb, H0, F', δ, st.trans s', en.step s', hk⟩
  | false => exact ⟨_, Fb, H0, F', δ, st.trans s', en.step s', hk⟩
theorem st_ret {e : Expr} {te : Env → T D} (he : PE X e (tD g M W false te)) : PS X (.Return (some e) pos) (sD g M W fun δ => (te δ).bind fun d => .ret (.ret d)) := by
  refine imS (ps_ret he) fun Dn σ H ⟨nn, Fb, H0, F, δ, st, en, w⟩ => ?_
  refine ⟨_, H0, F, δ, toAt st en, T.wp_mono (fun _ d hd v F' H' s' p => hd v F' H' (st.trans s') (by cases d <;> exact p)) (fun _ _ _ h => finX.wx st h) (T.wp_bind.mp w)⟩
theorem st_retN : PS X (.Return none pos) (sD g M W fun δ => (T.ret .non).bind fun d => .ret (.ret d)) :=
  imS ps_retN fun Dn σ H ⟨nn, Fb, H0, F, δ, st, en, w⟩ => w .non F H st Rep.non
/-- a list of one's own is given back -/
theorem st_reto {i : Nat} {x : Str} {p2 : Pos} (hN : X.N[i]? = some x) (hv : Vis X.env.scope x) (hd : (x == ("__debug__" : Str)) = false) (hcd : (x == ("__classdict__" : Str)) = false) :
    PS X (.Return (some (.Name x p2)) pos) (sD g M W fun δ => match look δ i with | .own l => .ret (.ret (.lst l)) | _ => .bad) := by
  refine imS (ps_ret (pe_var hN hv hd hcd)) fun Dn σ H ⟨nn, Fb, H0, F, δ, st, en, w⟩ => ?_
  have B := en.at_ i
  dsimp only at w
  split at w
  · rename_i l e
    rw [e] at B
    obtain ⟨p, xs, e1, h1, h2, h3, h4, h5⟩ := B
    exact ⟨.ref p, e1, w (.ref p) _ H (st.freeze h4 h1 h3 h5) (Rep.lst upd_same (h2.mono (sub_upd h3)))⟩
  · exact w.elim
theorem st_ex {e : Expr} {te : Env → T D} (he : PE X e (tD g M W false te)) (hs : swapsWith e none pos.line X.env = pure false) : PS X (.Expr e pos) (sD g M W fun δ => (te δ).bind fun _ => .ret (.nx δ)) := by
  refine imS (ps_expr he hs) fun Dn σ H ⟨nn, Fb, H0, F, δ, st, en, w⟩ => ?_
  exact ⟨_, H0, F, δ, toAt st en, T.wp_mono (fun _ d hd v F' H' s' p => hd σ F' H' (st.trans s') (en.step s')) (fun _ _ _ h => finX.wx st h) (T.wp_bind.mp w)⟩
theorem st_raise {s : Stmt} {c : Nat} (h : PS X s (fun _ σ H => W (.ref (g.r.ca c)) none σ H)) : PS X s (sD g M W fun δ => (T.ret ([] : List D)).bind fun ds => .exc c ds) :=
  imS h fun Dn σ H ⟨nn, Fb, H0, F, δ, st, en, w⟩ => w _ _ σ F H st ⟨rfl, .inl ⟨rfl, rfl⟩⟩

/-! names -/
theorem EnvOk.setOwn' (h : EnvOk g M H0 F H σ δ) {i : Nat} {l : List D} {p : Addr} {xs : List V} (h1 : H p = some (.lst xs)) (h2 : Reps g.r F l xs) (h3 : F p = none) (h4 : H0 p = none) (h5 : ¬ g.sp p)
    (ap : ∀ j m, look δ j = .own m → σ[j]? ≠ some (some (.ref p))) : EnvOk g M H0 F H (σ.set i (some (.ref p))) (δ.set i (.own l)) := by
  by_cases hi : i < δ.length
  · exact h.setOwn hi h1 h2 h3 h4 h5 fun j m _ e => ap j m e
  · have e1 : σ.set i (some (.ref p)) = σ := List.set_eq_of_length_le (by rw [h.len]; omega)
    have e2 : δ.set i (.own l) = δ := List.set_eq_of_length_le (by omega)
    rw [e1, e2]; exact h
/-- no name's own list is v -/
def Away (σ : L2.St) (δ : Env) (v : V) : Prop := ∀ j m, look δ j = .own m → σ[j]? ≠ some (some v)
theorem away_of (ok : g.Ok) (en : EnvOk g M H0 F H σ δ) {v : V} (h : ∀ p, v = .ref p → H p = none) : Away σ δ v := fun j m e1 e2 => by
  have B := en.at_ j
  rw [e1] at B
  obtain ⟨p, xs, e3, k, _⟩ := B
  rw [e2] at e3
  have e4 : v = .ref p := Option.some.inj (Option.some.inj e3)
  have := h p e4
  rw [k] at this; cases this
theorem take_ok {m q : Nat} (ok : g.Ok) {K : Nat → Env → Prop} {E : Nat → Nat → List D → Prop} {i : Nat} {o : Bool} {d : D} {v : V} (st : Step g Fb H0 n F H) (gi : g.GI q H) (s : Step g F H j F' H') (en : EnvOk g M H0 F' H' σ δ) (aw : o = true → Away σ δ v) (p : Post g o F' H H' d v) (w : T.wp m (take δ i o d) K E) :
    ∃ δ', K m δ' ∧ EnvOk g M H0 F' H' (σ.set i (some v)) δ' ∧ (∀ z, z ≠ v ∨ o = false → Away σ δ z → Away (σ.set i (some v)) δ' z) := by
  have ee := en
  cases o with
  | false =>
    have w : K m (δ.set i (.v d)) := w
    refine ⟨_, w, ee.setV' (by cases d <;> exact p), fun z _ az j m e1 e2 => ?_⟩
    have ne : i ≠ j := fun q => by
      subst q
      have := look_lt e1 (fun z => by cases z)
      rw [look_set_self (by simpa using this)] at e1; cases e1
    rw [look_set_ne ne] at e1
    rw [List.getElem?_set_ne ne] at e2
    exact az j m e1 e2
  | true =>
    cases d with
    | lst l =>
      have w : K m (δ.set i (.own l)) := w
      obtain ⟨q, xs, rfl, h1, h2, h3, h4⟩ := p
      refine ⟨_, w, ee.setOwn' h1 h2 h3 (none_bk ok st h4) (nsp_new ok gi h4) (aw rfl), fun z hz az j m e1 e2 => ?_⟩
      by_cases ne : i = j
      · subst ne
        have hi := look_lt e1 (fun z => by cases z)
        have hi2 : i < σ.length := by rw [en.len]; simpa using hi
        rw [List.getElem?_set_self hi2] at e2
        rcases hz with hz | hz
        · exact hz (Option.some.inj (Option.some.inj e2)).symm
        · cases hz
      · rw [look_set_ne ne] at e1
        rw [List.getElem?_set_ne ne] at e2
        exact az j m e1 e2
    | _ => exact w.elim
theorem set_fin (C : Cok g X) {i : Nat} {o : Bool} {d : D} {v : V} (st : Step g Fb H0 n F H) (en : EnvOk g M H0 F H σ δ) (s : Step g F H j F' H') (p : Post g o F' H H' d v) (w : T.wp j ((take δ i o d).bind fun δ' => .ret (.nx δ')) (finR g M Dn Fb H0) (finX g W Fb H0)) : Dn.nx (σ.set i (some v)) H' := by
  have aw : o = true → Away σ δ v := fun ho => by
    subst ho
    cases d with
    | lst l =>
      obtain ⟨q, xs, rfl, h1, h2, h3, h4⟩ := p
      exact away_of C.ok en (fun p e => by cases e; exact h4)
    | _ => exact w.elim
  obtain ⟨δ', k, e, _⟩ := take_ok C.ok st st.gi s (en.step s) aw p (T.wp_bind.mp w)
  exact k _ F' H' (st.trans s) e
/-! assignments -/
theorem st_set (C : Cok g X) {i : Nat} {x : Str} {e : Expr} {o : Bool} {te : Env → T D} {p2 : Pos} (hi : X.N[i]? = some x) (hx : Loc X.env.scope x) (he : PE X e (tD g M W o te)) (hs : swapsWith e (some (.Name x p2)) pos.line X.env = pure false) (hf : X.fn x = true ∨ X.env.scope.names.lookup x = some .local) :
    PS X (.Assign [.Name x p2] e pos) (sD g M W fun δ => (te δ).bind fun d => (take δ i o d).bind fun δ' => .ret (.nx δ')) := by
  refine imS (ps_set C.nd hi hx he hs hf) fun Dn σ H ⟨nn, Fb, H0, F, δ, st, en, w⟩ => ?_
  refine ⟨_, H0, F, δ, toAt st en, T.wp_mono (fun _ d hd v F' H' s' p => ?_) (fun _ _ _ h => finX.wx st h) (T.wp_bind.mp w)⟩
  exact set_fin C st en s' p hd
theorem st_setLc (C : Cok g X) {i : Nat} {y : Str} {py spos : Pos} {elt tg iter : Expr} {ifs : List Expr} {scope : Scope} {own : List (Str × Nat)} {o : Bool} {t : Tg} {ts : Env → T (List D)} {tcc : Env → T Bool} {te : Env → T D} {fz : Bool} (hy : X.N[i]? = some y) (hyl : X.env.scope.names.lookup y = some .local)
    (hsw : swapsWith (.ListComp elt [⟨tg, iter, ifs, 0⟩] scope pos) (some (.Name y py)) spos.line X.env = pure true) (hi : PI X tg iter (iD g M W fz ts)) (ok : BlkOk X.N X.env.scope scope own)
    (hst : ∀ j ∈ slotsT t, j ∈ own.map (·.2))
    (hg : ∀ (s : Shared) (H : Hp) (C : Addr) (cl : List (Str × Addr)) (fp : List Addr), PG (X.blk s H scope (compEnvC scope cl C X.env) fp) tg (gD g M t))
    (ht : ∀ (s : Shared) (H : Hp) (C : Addr) (cl : List (Str × Addr)) (fp : List Addr), PTs (X.blk s H scope (compEnvC scope cl C X.env) fp) ifs (tDT g M W0 tcc))
    (he : ∀ (s : Shared) (H : Hp) (C : Addr) (cl : List (Str × Addr)) (fp : List Addr), PE (X.blk s H scope (compEnvC scope cl C X.env) fp) elt (tD g M W0 false te)) (hs : ∀ x, foldedSetIterable iter X.env x = pure x) :
    PS X (.Assign [.Name y py] (.ListComp elt [⟨tg, iter, ifs, 0⟩] scope pos) spos) (sD g M W fun δ => ((ts δ).bind fun l => .need (decide (l.length ≤ lim)) ((T.nox (lcL tcc te t (wipeE δ (own.map (·.2))) l)).bind fun ys => .ret (.lst ys))).bind fun d => (take δ i o d).bind fun δ' => .ret (.nx δ')) := by
  refine imS (ps_setLc C.calm C.nd hy hyl hsw hi ok hg ht he hs) fun Dn σ H ⟨nn, Fb, H0, F, δ, st, en, w⟩ => ?_
  refine lc_im (Q := fun x H1 => gName i x σ H1 Dn.nx) C hst ?_
  refine ⟨_, H0, F, δ, toAt st en, T.wp_mono (fun _ d hd v F' H' s' p => ?_) (fun _ _ _ h => finX.wx st h) (T.wp_bind.mp w)⟩
  cases o with
  | true => exact set_fin C st en s' p hd
  | false =>
    obtain ⟨F2, s2, _, r⟩ := p.freeze C.ok st.gi s'
    exact set_fin C st en s2 (Post.of r) hd
theorem st_setLc2 (C : Cok g X) {i : Nat} {y : Str} {py spos : Pos} {elt tg iter tg1 iter1 : Expr} {ifs : List Expr} {scope : Scope} {own : List (Str × Nat)} {o : Bool} {t t2 : Tg} {ts ts2 : Env → T (List D)} {tcc : Env → T Bool} {te : Env → T D} {fz : Bool} (hy : X.N[i]? = some y) (hyl : X.env.scope.names.lookup y = some .local)
    (hsw : swapsWith (.ListComp elt [⟨tg, iter, [], 0⟩, ⟨tg1, iter1, ifs, 0⟩] scope pos) (some (.Name y py)) spos.line X.env = pure true) (hi : PI X tg iter (iD g M W fz ts)) (ok : BlkOk X.N X.env.scope scope own)
    (hst : ∀ j ∈ slotsT t, j ∈ own.map (·.2)) (hst2 : ∀ j ∈ slotsT t2, j ∈ own.map (·.2))
    (hg : ∀ (s : Shared) (H : Hp) (C : Addr) (cl : List (Str × Addr)) (fp : List Addr), PG (X.blk s H scope (compEnvC scope cl C X.env) fp) tg (gD g M t))
    (ht0 : ∀ (s : Shared) (H : Hp) (C : Addr) (cl : List (Str × Addr)) (fp : List Addr), PTs (X.blk s H scope (compEnvC scope cl C X.env) fp) [] (tDT g M W0 fun _ => .ret true))
    (hi1 : ∀ (s : Shared) (H : Hp) (C : Addr) (cl : List (Str × Addr)) (fp : List Addr), PI (X.blk s H scope (compEnvC scope cl C X.env) fp) tg1 iter1 (iD g M W0 true ts2))
    (hg1 : ∀ (s : Shared) (H : Hp) (C : Addr) (cl : List (Str × Addr)) (fp : List Addr), PG (X.blk s H scope (compEnvC scope cl C X.env) fp) tg1 (gD g M t2))
    (ht : ∀ (s : Shared) (H : Hp) (C : Addr) (cl : List (Str × Addr)) (fp : List Addr), PTs (X.blk s H scope (compEnvC scope cl C X.env) fp) ifs (tDT g M W0 tcc))
    (he : ∀ (s : Shared) (H : Hp) (C : Addr) (cl : List (Str × Addr)) (fp : List Addr), PE (X.blk s H scope (compEnvC scope cl C X.env) fp) elt (tD g M W0 false te)) (hs : ∀ x, foldedSetIterable iter X.env x = pure x) (hs1 : ∀ env x, foldedSetIterable iter1 env x = pure x) :
    PS X (.Assign [.Name y py] (.ListComp elt [⟨tg, iter, [], 0⟩, ⟨tg1, iter1, ifs, 0⟩] scope pos) spos) (sD g M W fun δ => ((ts δ).bind fun l => .need (decide (l.length ≤ 1000)) ((T.nox (lcL2 ts2 tcc te t t2 (slotsT t2) (wipeE δ (own.map (·.2))) l)).bind fun ys => .ret (.lst ys))).bind fun d => (take δ i o d).bind fun δ' => .ret (.nx δ')) := by
  refine imS (ps_setLc2 C.calm C.nd hy hyl hsw hi ok hst2 hg ht0 hi1 hg1 ht he hs hs1) fun Dn σ H ⟨nn, Fb, H0, F, δ, st, en, w⟩ => ?_
  refine lc2_im (Q := fun x H1 => gName i x σ H1 Dn.nx) C hst ?_
  refine ⟨_, H0, F, δ, toAt st en, T.wp_mono (fun _ d hd v F' H' s' p => ?_) (fun _ _ _ h => finX.wx st h) (T.wp_bind.mp w)⟩
  cases o with
  | true => exact set_fin C st en s' p hd
  | false =>
    obtain ⟨F2, s2, _, r⟩ := p.freeze C.ok st.gi s'
    exact set_fin C st en s2 (Post.of r) hd
theorem st_unp (C : Cok g X) {tg e : Expr} {t : List Tg} {te : Env → T D} (he : PE X e (tD g M W false te)) (hg : PG X tg (gD g M (.t t))) (hs : swapsWithSole [tg] e pos.line X.env = pure false) (hw : swappedStores [tg] e X.env = pure none) (h1 : (assignEach [tg] X.env).map (·.2) = [assign tg X.env]) :
    PS X (.Assign [tg] e pos) (sD g M W fun δ => (te δ).bind fun d => match asg (.t t) d δ with | some δ' => .ret (.nx δ') | none => .bad) := by
  refine imS (ps_asg he hg hs hw h1) fun Dn σ H ⟨nn, Fb, H0, F, δ, st, en, w⟩ => ?_
  refine ⟨_, H0, F, δ, toAt st en, T.wp_mono (fun _ d hd v F' H' s' p => ?_) (fun _ _ _ h => finX.wx st h) (T.wp_bind.mp w)⟩
  have p : Rep g.r F' d v := by cases d <;> exact p
  split at hd
  · rename_i δ' e
    exact ⟨H0, F', δ, d, δ', en.step s', p, s'.frz, e, fun σ' e' _ _ => hd σ' F' H' (st.trans s') e'⟩
  · exact hd.elim

/-! several names at once -/
def Posts (g : Gd) (F' H H' : Hp) : List Bool → List D → List V → Prop
  | [], [], [] => True
  | o :: os, d :: ds, v :: vs => Post g o F' H H' d v ∧ Posts g F' H H' os ds vs ∧ (o = true → ∀ p l, d = .lst l → v = .ref p → ∀ (j : Nat) m, os[j]? = some true → ds[j]? = some (.lst m) → vs[j]? ≠ some (.ref p))
  | _, _, _ => False
def tDP (g : Gd) (M : Lm g) (W : WX) (os : List Bool) (t : Env → T (List D)) : TA := fun σ H Q => ∃ q H0 F δ, At g M q H0 F H σ δ ∧ T.wp q (t δ) (fun k ds => ∀ vs F' H', Step g F H k F' H' → Posts g F' H H' os ds vs → Q vs H') (wX g W F H σ)
theorem p_nil : PA X [] (tDP g M W [] fun _ => .ret []) := imA pa_nil fun σ H Q ⟨nn, H0, F, δ, A, w⟩ => w [] F H A.now trivial
theorem Post.keep {o : Bool} {d : D} {v : V} {F1 H1 F2 H2 : Hp} {m q : Nat} (gi : g.GI q H) (ok : g.Ok) (s1 : Step g F H n F1 H1) (s : Step g F1 H1 m F2 H2) (p : Post g o F1 H H1 d v) : Post g o F2 H H2 d v := by
  cases o with
  | false =>
    have p : Rep g.r F1 d v := by cases d <;> exact p
    exact Post.of (p.mono s.sub)
  | true =>
    cases d with
    | lst l =>
      obtain ⟨q, xs, rfl, h1, h2, h3, h4⟩ := p
      have ns := nsp_new ok gi h4
      refine ⟨q, xs, rfl, (s.ext q _ h1).resolve_left ns, h2.mono s.sub, ?_, h4⟩
      cases e : F2 q with
      | none => rfl
      | some u =>
        rcases s.new q u e with ⟨o, z⟩ | z | ⟨u, z, nl⟩
        · rw [h3] at z; cases z
        · rw [h1] at z; cases z
        · rw [h1] at z; cases z; exact absurd rfl (nl.1 _)
    | _ => exact Rep.mono s.sub (show Rep g.r F1 _ v from p)
theorem Posts.back (ok : g.Ok) (gi : g.GI j H) (s : Step g F H n F1 H1) : ∀ {os : List Bool} {ds : List D} {vs : List V}, Posts g F' H1 H' os ds vs → Posts g F' H H' os ds vs
  | [], [], [], _ => trivial
  | o :: os, d :: ds, v :: vs, ⟨h1, h2, h3⟩ => ⟨h1.back ok gi s, h2.back ok gi s, h3⟩
theorem Posts.len : ∀ {os : List Bool} {ds : List D} {vs : List V}, Posts g F' H H' os ds vs → os.length = vs.length ∧ ds.length = vs.length
  | [], [], [], _ => ⟨rfl, rfl⟩
  | o :: os, d :: ds, v :: vs, ⟨h1, h2, h3⟩ => by obtain ⟨a, b⟩ := h2.len; exact ⟨by simp [a], by simp [b]⟩
/-- what is new stood nowhere -/
theorem Posts.new : ∀ {os : List Bool} {ds : List D} {vs : List V} {j : Nat} {p : Addr} {d : D}, Posts g F' H H' os ds vs → os[j]? = some true → vs[j]? = some (.ref p) → ds[j]? = some d → (∃ l, d = .lst l) → H p = none
  | [], [], [], j, p, d, _, h, _, _, _ => by simp at h
  | o :: os, d :: ds, v :: vs, 0, p, d', ⟨h1, h2, h3⟩, e1, e2, e3, ⟨l, e4⟩ => by
    simp at e1 e2 e3; subst e1 e2 e3 e4
    obtain ⟨q, xs, e, _, _, _, k⟩ := h1
    cases e; exact k
  | o :: os, d :: ds, v :: vs, j + 1, p, d', ⟨h1, h2, h3⟩, e1, e2, e3, e4 => Posts.new h2 (by simpa using e1) (by simpa using e2) (by simpa using e3) e4
theorem p_cons (C : Cok g X) {a : Expr} {es : List Expr} {o : Bool} {os : List Bool} {ta : Env → T D} {tr : Env → T (List D)} (ha : PE X a (tD g M W o ta)) (hr : PA X es (tDP g M W os tr)) (hs : starEach (a :: es) X.env = (false, eval a X.env) :: starEach es X.env) :
    PA X (a :: es) (tDP g M W (o :: os) fun δ => (ta δ).bind fun d => (tr δ).bind fun ds => .ret (d :: ds)) := by
  refine imA (pa_cons ha hr hs) fun σ H Q ⟨nn, H0, F, δ, A, w⟩ => ?_
  refine ⟨_, H0, F, δ, A, T.wp_mono (fun _ d wd v F1 H1 s1 r1 => ?_) (fun _ _ _ h => h) (T.wp_bind.mp w)⟩
  refine ⟨_, H0, F1, δ, A.step s1, T.wp_mono (fun _ ds wds vs F2 H2 s2 r2 => ?_) (fun _ _ _ h => wX.step s1 h) (T.wp_bind.mp wd)⟩
  refine wds (v :: vs) F2 H2 (s1.trans s2) ⟨r1.keep A.gi C.ok s1 s2, r2.back C.ok A.gi s1, fun ho p l ed ev j m e1 e2 e3 => ?_⟩
  subst ho ed ev
  obtain ⟨q, xs, e, h1, h2, h3, h4⟩ := r1
  cases e
  have := r2.new e1 e3 e2 ⟨m, rfl⟩
  rw [h1] at this; cases this
def sets (σ : L2.St) : List Nat → List V → L2.St
  | i :: is, v :: vs => sets (σ.set i (some v)) is vs
  | _, _ => σ
theorem takes_ok {m : Nat} (ok : g.Ok) {K : Nat → Env → Prop} {E : Nat → Nat → List D → Prop} (st : Step g Fb H0 n F H) (s : Step g F H j F' H') : ∀ {l : List (Nat × Bool)} {ds : List D} {vs : List V} {σ : L2.St} {δ : Env}, EnvOk g M H0 F' H' σ δ → Posts g F' H H' (l.map (·.2)) ds vs →
    (∀ (j : Nat) m v, (l.map (·.2))[j]? = some true → ds[j]? = some (.lst m) → vs[j]? = some v → Away σ δ v) → T.wp m (takes δ l ds) K E → ∃ δ', K m δ' ∧ EnvOk g M H0 F' H' (sets σ (l.map (·.1)) vs) δ'
  | [], [], [], σ, δ, en, _, _, w => ⟨δ, w, en⟩
  | [], _ :: _, _, _, _, _, _, _, w => w.elim
  | _ :: _, [], _, _, _, _, _, _, w => w.elim
  | (i, o) :: r, d :: ds, [], _, _, _, p, _, _ => by exact p.elim
  | (i, o) :: r, d :: ds, v :: vs, σ, δ, en, ⟨p1, p2, p3⟩, ap, w => by
    have w : T.wp m ((take δ i o d).bind fun δ' => takes δ' r ds) K E := w
    have w := T.wp_bind.mp w
    have hd : o = true → ∃ l, d = .lst l := fun ho => by
      subst ho
      cases d with
      | lst l => exact ⟨l, rfl⟩
      | _ => exact w.elim
    obtain ⟨δ1, w1, en1, aw⟩ := take_ok ok st st.gi s en (fun ho => by
      obtain ⟨l, rfl⟩ := hd ho
      subst ho
      exact ap 0 l v rfl rfl rfl) p1 w
    refine takes_ok ok st s (l := r) en1 p2 (fun j m z e1 e2 e3 => aw z ?_ (ap (j + 1) m z e1 e2 e3)) w1
    cases o with
    | false => exact .inr rfl
    | true =>
      obtain ⟨l, rfl⟩ := hd rfl
      obtain ⟨q, xs, rfl, _⟩ := p1
      exact .inl fun e => p3 rfl q l rfl rfl j m e1 e2 (e ▸ e3)
theorem par_fin (C : Cok g X) {l : List (Nat × Bool)} {ds : List D} {vs : List V} (st : Step g Fb H0 n F H) (en : EnvOk g M H0 F H σ δ) (s : Step g F H j F' H') (p : Posts g F' H H' (l.map (·.2)) ds vs) (w : T.wp j ((takes δ l ds).bind fun δ' => .ret (.nx δ')) (finR g M Dn Fb H0) (finX g W Fb H0)) : Dn.nx (sets σ (l.map (·.1)) vs) H' := by
  obtain ⟨δ', k, e⟩ := takes_ok C.ok st s (en.step s) p (fun j m v e1 e2 e3 => away_of C.ok en fun q e => by subst e; exact p.new e1 e3 e2 ⟨m, rfl⟩) (T.wp_bind.mp w)
  exact k _ F' H' (st.trans s) e
theorem st_par2 (C : Cok g X) {i j : Nat} {oi oj : Bool} {x y : Str} {a b : Expr} {px py pt : Pos} {kt k2 pt2} {t : Env → T (List D)} (hi : X.N[i]? = some x) (hj : X.N[j]? = some y) (hij : i ≠ j)
    (hx : X.env.scope.names.lookup x = some .local) (hy : X.env.scope.names.lookup y = some .local) (ha : PA X [a, b] (tDP g M W [oi, oj] t))
    (hw : swappedStores [.Tuple [.Name x px, .Name y py] kt pt] (.Tuple [a, b] k2 pt2) X.env = pure (some [x, y])) :
    PS X (.Assign [.Tuple [.Name x px, .Name y py] kt pt] (.Tuple [a, b] k2 pt2) pos) (sD g M W fun δ => (t δ).bind fun ds => (takes δ [(i, oi), (j, oj)] ds).bind fun δ' => .ret (.nx δ')) := by
  refine imS (ps_par C.calm C.nd hi hj hij hx hy ha hw) fun Dn σ H ⟨nn, Fb, H0, F, δ, st, en, w⟩ => ?_
  refine ⟨_, H0, F, δ, toAt st en, T.wp_mono (fun _ ds hd vs F' H' s' p => ?_) (fun _ _ _ h => finX.wx st h) (T.wp_bind.mp w)⟩
  have fin := par_fin C st en s' (l := [(i, oi), (j, oj)]) p hd
  match vs, p with
  | [v1, v2], p => exact ⟨v1, v2, rfl, fin⟩
  | [], p => exact absurd p.len.1 (by simp)
  | [_], p => exact absurd p.len.1 (by simp)
  | _ :: _ :: _ :: _, p => exact absurd p.len.1 (by simp)
theorem st_par3 (C : Cok g X) {i j k : Nat} {oi oj ok : Bool} {x y z : Str} {a b c : Expr} {px py pz pt : Pos} {kt k2 pt2} {t : Env → T (List D)} (hi : X.N[i]? = some x) (hj : X.N[j]? = some y) (hk : X.N[k]? = some z) (hij : i ≠ j) (hik : i ≠ k) (hjk : j ≠ k)
    (hx : X.env.scope.names.lookup x = some .local) (hy : X.env.scope.names.lookup y = some .local) (hz : X.env.scope.names.lookup z = some .local) (ha : PA X [a, b, c] (tDP g M W [oi, oj, ok] t))
    (hw : swappedStores [.Tuple [.Name x px, .Name y py, .Name z pz] kt pt] (.Tuple [a, b, c] k2 pt2) X.env = pure (some [x, y, z])) :
    PS X (.Assign [.Tuple [.Name x px, .Name y py, .Name z pz] kt pt] (.Tuple [a, b, c] k2 pt2) pos) (sD g M W fun δ => (t δ).bind fun ds => (takes δ [(i, oi), (j, oj), (k, ok)] ds).bind fun δ' => .ret (.nx δ')) := by
  refine imS (ps_par3 C.calm C.nd hi hj hk hij hik hjk hx hy hz ha hw) fun Dn σ H ⟨nn, Fb, H0, F, δ, st, en, w⟩ => ?_
  refine ⟨_, H0, F, δ, toAt st en, T.wp_mono (fun _ ds hd vs F' H' s' p => ?_) (fun _ _ _ h => finX.wx st h) (T.wp_bind.mp w)⟩
  have fin := par_fin C st en s' (l := [(i, oi), (j, oj), (k, ok)]) p hd
  match vs, p with
  | [v1, v2, v3], p => exact ⟨v1, v2, v3, rfl, fin⟩
  | [], p => exact absurd p.len.1 (by simp)
  | [_], p => exact absurd p.len.1 (by simp)
  | [_, _], p => exact absurd p.len.1 (by simp)
  | _ :: _ :: _ :: _ :: _, p => exact absurd p.len.1 (by simp)

/-! append -/
theorem st_app (C : Cok g X) {i : Nat} {x : Str} {e : Expr} {te : Env → T D} {p1 ap cp : Pos} (hN : X.N[i]? = some x) (hv : Vis X.env.scope x) (hd : (x == ("__debug__" : Str)) = false) (hcd : (x == ("__classdict__" : Str)) = false) (he : PE X e (tD g M W false te))
    (hbase : attributeBase (.Name x p1) "append" X.env (eval (.Name x p1) X.env) = eval (.Name x p1) X.env)
    (hfew : ((backTo cp (starEach [e] X.env)).all (fun x => !x.1) && (backToKw cp (keywordEach [] X.env)).all (fun x => x.1.isSome)
      && decide (([e] : List Expr).length + ([] : List Keyword).length + (if ([] : List Keyword).isEmpty then 0 else 1) < 30)) = true)
    (hline : (ap.endLine == cp.line) = true) (hs : starEach [e] X.env = [(false, eval e X.env)]) :
    PS X (.Expr (.Call (.Attribute (.Name x p1) "append" ap) [e] [] cp) pos) (sD g M W fun δ => match look δ i with | .own l => (te δ).bind fun d => .need (decide (l.length < lim)) (.ret (.nx (δ.set i (.own (l ++ [d]))))) | _ => .bad) := by
  have hmt : MtR X "list.append" rAppend := mt_append
  refine imS (ps_expr (pe_bm PySem.F.plainAttrs_list PySem.F.slot_list_append PySem.F.type_list_append hmt (pe_var hN hv hd hcd) (pa_cons he pa_nil hs) hbase hfew hline hs rfl) rfl) fun Dn σ H ⟨nn, Fb, H0, F, δ, st, en, w⟩ => ?_
  have B := en.at_ i
  dsimp only at w
  split at w
  · rename_i l e
    rw [e] at B
    obtain ⟨p, xs, e1, h1, h2, h3, h4, h5⟩ := B
    refine ⟨.ref p, e1, by rw [C.K]; exact .inl ⟨rfl, xs, .of h1⟩, _, H0, F, δ, toAt st en, T.wp_mono (fun _ d hd v F' H' s' r => ?_) (fun _ _ _ h => finX.wx st h) (T.wp_bind.mp w)⟩
    have r : Rep g.r F' d v := by cases d <;> exact r
    obtain ⟨hz, hd⟩ := T.wp_need.mp hd
    have hz := of_decide_eq_true hz
    have hl := lim_line
    have en' := en.step s'
    have B := en'.at_ i
    rw [e] at B
    obtain ⟨p', xs', e1', k1, k2, k3, k4, k5⟩ := B
    rw [e1] at e1'; cases e1'
    have s2 := (st.trans s').wr C.ok (ys := xs' ++ [v]) k4 k3 k1 k5
    have gr : Grow g H' (upd H' p (.lst (xs' ++ [v]))) := fun a u ea => by
      by_cases z : a = p
      · subst z; rw [k1] at ea; cases ea; exact .inr ⟨k5, _, _, rfl, upd_same⟩
      · exact .inl (by rw [upd_ne z]; exact ea)
    exact ⟨p, xs', v, rfl, rfl, k1, by rw [k2.len]; omega, hd σ F' _ s2 (en'.write s'.frz e e1 (fun k w q => M.grow k w _ _ q gr) (k2.app (.cons r .nil)))⟩
  · exact w.elim

/-! loops -/
theorem st_for (C : Cok g X) {tg iter : Expr} {body : List Stmt} {t : Tg} {ts : Env → T (List D)} {tb : Env → T Fl} (hp : PassesOwn (model X.prog X.w) X.A X.env X.xe) (hi : PI X tg iter (iD g M W true ts)) (hg : PG X tg (gD g M t)) (hb : PSs X body (sD g M W tb)) (hs : ∀ x, foldedSetIterable iter X.env x = pure x) :
    PS X (.For tg iter body [] pos) (sD g M W fun δ => (ts δ).bind fun l => .need (decide (l.length ≤ lim)) (forL tb t l δ)) := by
  refine imS (ps_for hp C.calm hi hg hb hs) fun Dn σ H ⟨nn, Fb, H0, F, δ, st, en, w⟩ => ?_
  refine ⟨_, H0, F, δ, toAt st en, T.wp_mono (fun _ l wl J F1 H1 s1 y => ?_) (fun _ _ _ h => finX.wx st h) (T.wp_bind.mp w)⟩
  have st1 := st.trans s1
  obtain ⟨_, wl⟩ := T.wp_need.mp wl
  refine ⟨fun i m σ' H' => m = l.length - i ∧ i ≤ l.length ∧ ∃ nq F' δ', Step g F1 H0 nq F' H' ∧ EnvOk g M H0 F' H' σ' δ' ∧ T.wp nq (forL tb t (l.drop i) δ') (finR g M Dn Fb H0) (finX g W Fb H0),
    ⟨l.length, rfl, Nat.zero_le _, _, F1, δ, st1.here, en.step s1, wl⟩, ?_⟩
  rintro i m σ' H' ⟨rfl, hi, nq, F', δ', s', en', wr⟩
  have yy := y _ F' H' s'.gi s'.sub s'.frz s'.nsp (fun z => by cases z)
  by_cases hlt : i < l.length
  · have hd : l[i]? = some l[i] := List.getElem?_eq_getElem hlt
    obtain ⟨hgo, hy⟩ := yy.1 i _ hd
    refine .inr ⟨hgo, fun σ'' H'' => i + 1 ≤ l.length ∧ ∃ nq F' δ', Step g F1 H0 nq F' H'' ∧ EnvOk g M H0 F' H'' σ'' δ' ∧ T.wp nq (forL tb t (l.drop (i + 1)) δ') (finR g M Dn Fb H0) (finX g W Fb H0),
      fun σ'' H'' h => ⟨_, by omega, rfl, h⟩, fun x H2 yx => ?_⟩
    obtain ⟨F2, s2, rx⟩ := hy x H2 yx
    rw [List.drop_eq_getElem_cons hlt] at wr
    unfold forL at wr
    split at wr
    · exact wr.elim
    · rename_i δ2 e2
      refine ⟨H0, F2, δ', l[i], δ2, en'.step s2, rx, s2.frz, e2, fun σ2 en2 _ _ => ?_⟩
      refine ⟨_, F1, H0, F2, δ2, s'.trans s2, en2, T.wp_mono (fun _ f hf => ?_) (fun _ _ _ h => h.base st1) (T.wp_bind.mp wr)⟩
      cases f with
      | nx δ3 => exact fun σ3 F3 H3 s3 en3 => ⟨hlt, _, F3, δ3, s3, en3, hf⟩
      | ct δ3 => exact fun σ3 F3 H3 s3 en3 => ⟨hlt, _, F3, δ3, s3, en3, hf⟩
      | brk δ3 => exact fun σ3 F3 H3 s3 en3 => hf σ3 F3 H3 (s3.less st1.sub st1.new) en3
      | ret d => exact fun v F3 H3 s3 r3 => hf v F3 H3 (s3.less st1.sub st1.new) r3
  · have e : i = l.length := by omega
    subst e
    rw [List.drop_length] at wr
    exact .inl ⟨yy.2 _ (Nat.le_refl _), wr σ' F' H' (s'.less st1.sub st1.new) en'⟩
theorem st_wh (C : Cok g X) {c : Expr} {body : List Stmt} {n : Nat} {tc : Env → T Bool} {tb : Env → T Fl} (hp : PassesOwn (model X.prog X.w) X.A X.env X.xe) (hc : PT X c (tDT g M W tc)) (hb : PSs X body (sD g M W tb)) :
    PS X (.While c body [] pos) (sD g M W fun δ => whL tc tb n δ) := by
  refine imS (ps_while hp hc hb) fun Dn σ H ⟨nn, Fb, H0, F, δ, st, en, w⟩ => ?_
  refine ⟨fun m σ' H' => ∃ nq F' δ', Step g Fb H0 nq F' H' ∧ EnvOk g M H0 F' H' σ' δ' ∧ T.wp nq (whL tc tb m δ') (finR g M Dn Fb H0) (finX g W Fb H0), ⟨n, _, F, δ, st, en, w⟩, ?_⟩
  rintro m σ' H' ⟨nq, F', δ', s', en', wr⟩
  cases m with
  | zero => exact wr.elim
  | succ m =>
    have wr := T.wp_bind.mp (show T.wp nq ((tc δ').bind _) _ _ from wr)
    refine ⟨_, H0, F', δ', toAt s' en', T.wp_mono (fun _ b hb F2 H2 s2 => ?_) (fun _ _ _ h => finX.wx s' h) wr⟩
    cases b with
    | false => exact hb σ' F2 H2 (s'.trans s2) (en'.step s2)
    | true =>
      refine ⟨fun σ'' H'' => ∃ nq F' δ', Step g Fb H0 nq F' H'' ∧ EnvOk g M H0 F' H'' σ'' δ' ∧ T.wp nq (whL tc tb m δ') (finR g M Dn Fb H0) (finX g W Fb H0), fun σ'' H'' h => ⟨m, by omega, h⟩, ?_⟩
      refine ⟨_, Fb, H0, F2, δ', s'.trans s2, en'.step s2, T.wp_mono (fun _ f hf => ?_) (fun _ _ _ h => h) (T.wp_bind.mp hb)⟩
      cases f with
      | nx δ3 => exact fun σ3 F3 H3 s3 en3 => ⟨_, F3, δ3, s3, en3, hf⟩
      | ct δ3 => exact fun σ3 F3 H3 s3 en3 => ⟨_, F3, δ3, s3, en3, hf⟩
      | brk δ3 => exact hf
      | ret d => exact hf
end
end Dp
end

section
set_option Elab.async false
set_option linter.all false
set_option autoImplicit false
set_option maxRecDepth 100000
set_option maxHeartbeats 4000000
/-! DpV: items of an own list, stored, taken out. -/
namespace Dp
open PySem PySem.Spec PyProof.Rows L2
theorem Reps.set {r : R} {F : Hp} : ∀ {l : List D} {xs : List V} {d : D} {v : V} (n : Nat), Reps r F l xs → Rep r F d v → Reps r F (l.set n d) (xs.set n v)
  | [], _, _, _, n, h, _ => by rw [h.nil_inv]; exact .nil
  | a :: l, _, d, v, n, h, q => by
    obtain ⟨x, ys, rfl, h1, h2⟩ := h.cons_inv
    cases n with
    | zero => exact .cons q h2
    | succ n => exact .cons h1 (Reps.set n h2 q)
theorem Reps.erase {r : R} {F : Hp} : ∀ {l : List D} {xs : List V} (n : Nat), Reps r F l xs → Reps r F (l.eraseIdx n) (xs.eraseIdx n)
  | [], _, n, h => by rw [h.nil_inv]; exact .nil
  | a :: l, _, n, h => by
    obtain ⟨x, ys, rfl, h1, h2⟩ := h.cons_inv
    cases n with
    | zero => exact h2
    | succ n => exact .cons h1 (Reps.erase n h2)
section
variable {g : Gd} {M : Lm g} {W : WX} {X : Cx} {pos : Pos}
theorem st_sto (C : Cok g X) {i : Nat} {x : Str} {e ie : Expr} {te ti : Env → T D} {p1 sp : Pos} (hN : X.N[i]? = some x) (hv : Vis X.env.scope x) (hd : (x == ("__debug__" : Str)) = false) (hcd : (x == ("__classdict__" : Str)) = false) (he : PE X e (tD g M W false te)) (hi : PE X ie (tD g M W false ti))
    (ha : ∀ v, assign (.Subscript (.Name x p1) ie sp) X.env v = (do
      let ov ← holding [v] (eval (.Name x p1) X.env)
      let iv ← holding [v, ov] (eval ie X.env)
      standAt sp
      holding [v, ov, iv] (setItem ov iv v)
      release [v, ov, iv] []))
    (hs : swapsWithSole [.Subscript (.Name x p1) ie sp] e pos.line X.env = pure false) (hw : swappedStores [.Subscript (.Name x p1) ie sp] e X.env = pure none)
    (h1 : (assignEach [.Subscript (.Name x p1) ie sp] X.env).map (·.2) = [assign (.Subscript (.Name x p1) ie sp) X.env]) :
    PS X (.Assign [.Subscript (.Name x p1) ie sp] e pos) (sD g M W fun δ => match look δ i with | .own l => (te δ).bind fun d => (ti δ).bind fun k => (match stoK l d k with | some l' => .ret (.nx (δ.set i (.own l'))) | none => .bad) | _ => .bad) := by
  refine imS (ps_asg he (pg_sub (pe_var hN hv hd hcd) hi set_list ha) hs hw h1) fun Dn σ H ⟨nn, Fb, H0, F, δ, st, en, w⟩ => ?_
  have B := en.at_ i
  dsimp only at w
  split at w
  · rename_i l e0
    rw [e0] at B
    obtain ⟨p, xs, e1, hh1, h2, h3, h4, h5⟩ := B
    refine ⟨_, H0, F, δ, toAt st en, T.wp_mono (fun _ d wd v F' H' s' r => ?_) (fun _ _ _ h => finX.wx st h) (T.wp_bind.mp w)⟩
    have r : Rep g.r F' d v := by cases d <;> exact r
    refine ⟨.ref p, e1, ?_⟩
    have en1 := en.step s'
    refine ⟨_, H0, F', δ, ⟨s'.gi, s'.frz, s'.nsp, en1⟩, T.wp_mono (fun _ kd wk kv F2 H2 s2 rk => ?_) (fun _ _ _ h => finX.wx (st.trans s') h) (T.wp_bind.mp wd)⟩
    have rk : Rep g.r F2 kd kv := by cases kd <;> exact rk
    split at wk
    · rename_i l' hst
      cases kd with
      | int k =>
        have hst : (if 0 ≤ k ∧ k < (l.length : Int) then some (l.set k.toNat d) else none) = some l' := hst
        by_cases hk : 0 ≤ k ∧ k < (l.length : Int)
        · rw [if_pos hk] at hst
          cases hst
          have s02 := s'.trans s2
          have en2 := en1.step s2
          have B := en2.at_ i
          rw [e0] at B
          obtain ⟨p', xs', e1', k1, k2, k3, k4, k5⟩ := B
          rw [e1] at e1'; cases e1'
          have r2 := r.mono s2.sub
          have s3 := (st.trans s02).wr C.ok (ys := xs'.set k.toNat v) k4 k3 k1 k5
          have gr : Grow g H2 (upd H2 p (.lst (xs'.set k.toNat v))) := fun a u ea => by
            by_cases z : a = p
            · subst z; rw [k1] at ea; cases ea; exact .inr ⟨k5, _, _, rfl, upd_same⟩
            · exact .inl (by rw [upd_ne z]; exact ea)
          have hix : ixN xs'.length k = some k.toNat := by
            unfold ixN
            rw [if_pos hk.1, k2.len, if_pos hk.2]
          exact ⟨p, xs', k, k.toNat, rfl, rk.intI, k1, hix, wk σ F2 _ s3 (en2.write s2.frz e0 e1 (fun k w q => M.grow k w _ _ q gr) (k2.set k.toNat r2))⟩
        · rw [if_neg hk] at hst; cases hst
      | _ => cases hst
    · exact wk.elim
  · exact w.elim
theorem st_pop (C : Cok g X) {i j : Nat} {x y : Str} {e : Expr} {te : Env → T D} {p1 p2 ap ap2 cp cp2 : Pos} (hN : X.N[i]? = some x) (hv : Vis X.env.scope x) (hd : (x == ("__debug__" : Str)) = false) (hcd : (x == ("__classdict__" : Str)) = false)
    (hN2 : X.N[j]? = some y) (hv2 : Vis X.env.scope y) (hd2 : (y == ("__debug__" : Str)) = false) (hcd2 : (y == ("__classdict__" : Str)) = false) (he : PE X e (tD g M W false te))
    (hline : (ap.endLine == cp.line) = true) (hline2 : (ap2.endLine == cp2.line) = true) (hs2 : starEach [e] X.env = [(false, eval e X.env)]) :
    PS X (.Expr (.Call (.Attribute (.Name x p1) "append" ap) [.Call (.Attribute (.Name y p2) "pop" ap2) [e] [] cp2] [] cp) pos) (sD g M W fun δ => match look δ i, look δ j with | .own l, .own m => (te δ).bind fun k => (match popK m k with | some (d, m') => .need (decide (i ≠ j) && decide (l.length < lim) && decide (m.length ≤ lim)) (.ret (.nx ((δ.set j (.own m')).set i (.own (l ++ [d]))))) | none => .bad) | _, _ => .bad) := by
  have hmt : MtR X "list.append" rAppend := mt_append
  have hmp : MtM X "list.pop" rPopAt := mt_popAt
  have inner : PE X (.Call (.Attribute (.Name y p2) "pop" ap2) [e] [] cp2) _ := pe_bm PySem.F.plainAttrs_list PySem.F.slot_list_pop PySem.F.type_list_pop hmp (pe_var hN2 hv2 hd2 hcd2) (pa_cons he pa_nil hs2) rfl (by rw [hs2]; rfl) hline2 hs2 rfl
  refine imS (ps_expr (pe_bm PySem.F.plainAttrs_list PySem.F.slot_list_append PySem.F.type_list_append hmt (pe_var hN hv hd hcd) (pa_cons inner pa_nil rfl) rfl rfl hline rfl rfl) rfl) fun Dn σ H ⟨nn, Fb, H0, F, δ, st, en, w⟩ => ?_
  have B := en.at_ i
  have B2 := en.at_ j
  dsimp only at w
  split at w
  · rename_i l m e0 e02
    rw [e0] at B
    rw [e02] at B2
    obtain ⟨p, xs, e1, hh1, h2, h3, h4, h5⟩ := B
    obtain ⟨q, ys, e2, g1, g2, g3, g4, g5⟩ := B2
    refine ⟨.ref p, e1, by rw [C.K]; exact .inl ⟨rfl, xs, .of hh1⟩, .ref q, e2, by rw [C.K]; exact .inl ⟨rfl, ys, .of g1⟩, _, H0, F, δ, toAt st en, T.wp_mono (fun _ kd wk kv F' H' s' rk => ?_) (fun _ _ _ h => finX.wx st h) (T.wp_bind.mp w)⟩
    have rk : Rep g.r F' kd kv := by cases kd <;> exact rk
    split at wk
    · rename_i d m' hpk
      obtain ⟨hz, wk⟩ := T.wp_need.mp wk
      simp only [Bool.and_eq_true, decide_eq_true_eq] at hz
      obtain ⟨⟨hij, hz⟩, hzm⟩ := hz
      cases kd with
      | int k =>
        have hpk : (if 0 ≤ k then (match m[k.toNat]? with | some d => some (d, m.eraseIdx k.toNat) | none => none) else none) = some (d, m') := hpk
        by_cases hk0 : 0 ≤ k
        · rw [if_pos hk0] at hpk
          cases hd' : m[k.toNat]? with
          | some d0 =>
            rw [hd'] at hpk
            cases hpk
            have en' := en.step s'
            have B2 := en'.at_ j
            rw [e02] at B2
            obtain ⟨q', ys', e2', k1, k2, k3, k4, k5⟩ := B2
            rw [e2] at e2'; cases e2'
            obtain ⟨v, hv', rv⟩ := k2.get hd'
            have hlt : k.toNat < ys'.length := (List.getElem?_eq_some_iff.mp hv').1
            have hl := lim_line
            have hlm : lim = 1000000 := rfl
            have hyl : ys'.length ≤ 1000000 := by rw [k2.len, ← hlm]; exact hzm
            have s2 := (st.trans s').wr C.ok (ys := ys'.eraseIdx k.toNat) k4 k3 k1 k5
            have gr : Grow g H' (upd H' q (.lst (ys'.eraseIdx k.toNat))) := fun a u ea => by
              by_cases z : a = q
              · subst z; rw [k1] at ea; cases ea; exact .inr ⟨k5, _, _, rfl, upd_same⟩
              · exact .inl (by rw [upd_ne z]; exact ea)
            have en2 := en'.write s'.frz e02 e2 (fun k w q => M.grow k w _ _ q gr) (k2.erase k.toNat)
            have hsi : seqIndex? k ys'.length = some k.toNat := by
              unfold seqIndex?
              have h1 : ¬ k < 0 := by omega
              rw [if_neg h1, if_pos (by simp; omega)]
            refine ⟨q, ys', k, k.toNat, v, rfl, by rw [rk.intI], k1, by omega, by omega, hsi, hv', ?_⟩
            have e0' : look (δ.set j (.own (m.eraseIdx k.toNat))) i = .own l := by
              unfold look at e0 ⊢
              rw [List.getElem?_set_ne (fun z => hij z.symm)]; exact e0
            have B3 := en2.at_ i
            rw [e0'] at B3
            obtain ⟨p', xs', e1', b1, b2, b3, b4, b5⟩ := B3
            rw [e1] at e1'; cases e1'
            have s3 := s2.wr C.ok (ys := xs' ++ [v]) b4 b3 b1 b5
            have gr2 : Grow g (upd H' q (.lst (ys'.eraseIdx k.toNat))) (upd (upd H' q (.lst (ys'.eraseIdx k.toNat))) p (.lst (xs' ++ [v]))) := fun a u ea => by
              by_cases z : a = p
              · subst z; rw [b1] at ea; cases ea; exact .inr ⟨b5, _, _, rfl, upd_same⟩
              · exact .inl (by rw [upd_ne z]; exact ea)
            exact ⟨p, xs', v, rfl, rfl, b1, by rw [b2.len]; omega, wk σ F' _ s3 (en2.write s2.frz e0' e1 (fun k w q => M.grow k w _ _ q gr2) (b2.app (.cons rv .nil)))⟩
          | none => rw [hd'] at hpk; cases hpk
        · rw [if_neg hk0] at hpk; cases hpk
      | _ => cases hpk
    · exact wk.elim
  · exact w.elim
end
end Dp
end

section
set_option Elab.async false
set_option linter.all false
set_option autoImplicit false
set_option maxRecDepth 100000
set_option maxHeartbeats 4000000
/-! DpY: a tuple whose object is known: x = tuple(l), x.index(k). -/
namespace Dp
open PySem PySem.Spec PyProof.Rows L2
theorem ixI_ok : ∀ {ns : List Int} {z : Int} {j : Nat}, ixI ns z = some j → ns[j]? = some z ∧ ∀ m, m < j → ns[m]? ≠ some z
  | [], _, _, h => by cases h
  | a :: l, z, j, h => by
    unfold ixI at h
    split at h
    · rename_i e; cases h; subst e; exact ⟨rfl, fun m h => absurd h (Nat.not_lt_zero _)⟩
    · rename_i ne
      cases q : ixI l z with
      | none => rw [q] at h; cases h
      | some k =>
        rw [q] at h; cases h
        obtain ⟨a1, a2⟩ := ixI_ok q
        refine ⟨a1, fun m hm => ?_⟩
        cases m with
        | zero => intro e; exact ne (Option.some.inj e)
        | succ m => exact a2 m (by simp only at hm; omega)
theorem flat_ints (ys : List Int) : (ys.map V.int).all flatV = true := by
  rw [List.all_map]
  exact List.all_eq_true.mpr fun _ _ => rfl
section
variable {X : Cx}
theorem call_tuple_frz : CallR X (.type "tuple") (fun xs H Q => ∃ p ys, xs = [.ref p] ∧ SqL X.K H p ys ∧ ∀ (l : Addr) (o : Obj), H l = none → o.cls = .type "tuple" → o.dict = none → Q (.ref l) (upd H l (.frz o (.tup ys)))) := by
  intro pins s σ H xs us Q I r h
  obtain ⟨p, ys, rfl, hq, q⟩ := h
  obtain ⟨u, rfl, rx⟩ := vals1 r
  cases rx
  obtain ⟨its, r', pl, hz⟩ := I.list hq
  have hlen := r'.length
  refine call_tuple_list pl.isList (fun h' kp => ?_) (by simp only [List.size_toArray] <;> omega)
  have I1 : Inv X pins σ H { s with heap := h' } := I.kept (t' := s.toks) kp
  have I2 : Inv X pins σ (upd H h'.objs.size (.frz { cls := .type "tuple", data := .seq its.toArray } (.tup ys))) { s with heap := h'.push { cls := .type "tuple", data := .seq its.toArray } } :=
    I1.laid (t' := s.toks) (fun b o e => Heap.get?_push_of_some _ e) (Nat.le_refl _) (show ObjOk X.prog X.w _ _ _ (.frz _ (.tup ys)) from ⟨Heap.get?_push_size _ rfl, hz, its, r', IsTup.new _ _⟩)
  exact ⟨.ref h'.objs.size, _, I2, rfl, q _ _ (I1.hok.fresh (Nat.le_refl _)) rfl rfl⟩
/-- t.index(x), the first place, numbers -/
theorem mt_tup_indexI : MtR X "tuple.index" (fun x xs H Q => ∃ p, ∃ ys : List Int, ∃ z j, x = .ref p ∧ xs = [.int z] ∧ SqT X.K H p (ys.map V.int) ∧ ys[j]? = some z ∧ (∀ m, m < j → ys[m]? ≠ some z) ∧ Q (.int (j : Nat)) H) := by
  intro pins s σ H x xs v us Q I rx rs h
  obtain ⟨p, ys, z, j, rfl, rfl, hq, hy, hno, q⟩ := h
  cases rx
  obtain ⟨u, rfl, t, rfl⟩ := vals1 rs
  obtain ⟨its, r, pl, hz⟩ := I.tuple hq
  obtain ⟨⟨cls, dd, dt, sl⟩, ho, hc, n, hd⟩ := pl
  simp only at hc hd
  subst hc
  subst hd
  have hl : its.toArray.size = ys.length := by rw [List.size_toArray, ← r.length, List.length_map]
  have hj : j < its.toArray.size := by rw [hl]; exact (List.getElem?_eq_some_iff.mp hy).1
  have at' : ∀ (m : Nat) (hm : m < its.toArray.size), ∃ y t', ys[m]? = some y ∧ its.toArray[m] = Value.int y t' := fun m hm => by
    have hm' : m < ys.length := by rw [← hl]; exact hm
    obtain ⟨w, hw, t', hw'⟩ := r.get (i := m) (x := .int ys[m]) (by simp [hm'])
    refine ⟨ys[m], t', List.getElem?_eq_getElem hm', ?_⟩
    have e := (List.getElem?_eq_some_iff.mp hw).2
    rw [← hw', ← e]
    simp
  refine call_meets PySem.F.slot_tuple_index ⟨_, ho, rfl⟩ PySem.F.entry_tuple_index (PySem.F.args_tuple_index_2 _ _) (TI.tuple_indexAt p its.toArray n dd sl (.int z t) (eqU (.int z)) j hj ?_ ?_)
    ⟨ho, fun w hw => mem_eqAt (x := .int z) ⟨t, rfl⟩ rfl r (flat_ints ys) w (by simpa using hw), ⟨.int (j : Nat), H, I.tok _, ⟨_, rfl⟩, q⟩⟩
  · obtain ⟨y, t', h1, h2⟩ := at' j hj
    rw [hy] at h1
    cases h1
    rw [h2]
    show (z == z) = true
    exact beq_self_eq_true z
  · intro m hm hmj
    obtain ⟨y, t', h1, h2⟩ := at' m hm
    rw [h2]
    show (y == z) = false
    exact beq_eq_false_iff_ne.mpr fun e => hno m hmj (e ▸ h1)
def tBMF (T : String) (r : V → List V → Hp → VK → Prop) (to : TE) (t : TA) : TE := fun σ H Q => to σ H fun x H1 => (∃ (p : Addr) (o : Obj) (u : HO), x = .ref p ∧ H1 p = some (.frz o u) ∧ o.cls = .type T ∧ o.dict = none) ∧ t σ H1 fun xs H2 => r x xs H2 Q
variable {o e : Expr} {es : List Expr} {to : TE} {t : TA} {name : Str} {apos cpos : Pos} {T id : String} {r : V → List V → Hp → VK → Prop}
theorem pe_bmF (pa : PlainAttrs T) (slot : PySem.Slot T name id) (hty : typeOf (.builtin id) = pure (.type "method_descriptor")) (hm : MtR X id r) (ho : PE X o to) (ha : PA X (e :: es) t)
    (hbase : attributeBase o name X.env (eval o X.env) = eval o X.env := by rfl)
    (hfew : ((backTo cpos (starEach (e :: es) X.env)).all (fun x => !x.1) && (backToKw cpos (keywordEach [] X.env)).all (fun x => x.1.isSome)
      && decide ((e :: es).length + ([] : List Keyword).length + (if ([] : List Keyword).isEmpty then 0 else 1) < 30)) = true := by rfl)
    (hline : (apos.endLine == cpos.line) = true := by rfl) (hs : starEach (e :: es) X.env = (false, eval e X.env) :: starEach es X.env := by rfl) (hplain : (backTo cpos (starEach es X.env)).any (·.1) = false := by rfl) :
    PE X (.Call (.Attribute o name apos) (e :: es) [] cpos) (tBMF T r to t) := by
  refine ⟨fun pins s σ H Q I h => ?_⟩
  refine wpAny_Call_method_late hbase hfew hline rfl (thn (ho.run pins s σ H _ I h) fun v s1 ⟨x, H1, I1, r1, ty, q1⟩ => ?_)
  obtain ⟨p, ob, u, rfl, hp, hc, hd⟩ := ty
  cases r1
  have hg : s1.heap.get? p = some ob := (I1.hok _ _ hp).1
  refine ⟨T, id, pa, slot, hty, ⟨ob, hg, hc⟩, fun a e => by cases e; exact ⟨ob, hg, hd⟩, ?_⟩
  have hA := ha.run cpos pins s1 σ H1 _ I1 q1
  rw [hs] at hA ⊢
  refine Calls.callWith_builtin (by show (false || (backTo cpos (starEach es X.env)).any (·.1)) = false; rw [hplain] <;> rfl) (Calls.evalArgs_plain ?_)
  exact thn hA fun us s2 ⟨vs, H2, I2, r2, q2⟩ => hm pins s2 σ H2 (V.ref p) vs (Value.ref p) us Q I2 rfl r2 q2
end
section
variable {g : Gd} {M : Lm g} {W : WX} {X : Cx} {pos : Pos}
theorem s_idx (C : Cok g X) {i : Nat} {x : Str} {e : Expr} {te : Env → T D} {p1 ap cp : Pos} (hN : X.N[i]? = some x) (hv : Vis X.env.scope x) (hd : (x == ("__debug__" : Str)) = false) (hcd : (x == ("__classdict__" : Str)) = false) (he : PE X e (tD g M W false te))
    (hline : (ap.endLine == cp.line) = true) (hs : starEach [e] X.env = [(false, eval e X.env)]) :
    PE X (.Call (.Attribute (.Name x p1) "index" ap) [e] [] cp) (tD g M W false fun δ => match look δ i with | .ot l => (te δ).bind fun k => (match idxK l k with | some j => .ret (.int (j : Nat)) | none => .bad) | _ => .bad) := by
  have hmt := @mt_tup_indexI X
  refine imE (pe_bmF PySem.F.plainAttrs_tuple PySem.F.slot_tuple_index PySem.F.type_tuple_index hmt (pe_var hN hv hd hcd) (pa_cons he pa_nil hs) rfl (by rw [hs]; rfl) hline hs rfl) fun σ H Q ⟨n, H0, F, δ, A, w⟩ => ?_
  have B := A.env.at_ i
  dsimp only at w
  split at w
  · rename_i l e0
    rw [e0] at B
    obtain ⟨p, o, xs, e1, hc, hdn, h1, h2⟩ := B
    refine ⟨.ref p, e1, ⟨p, o, _, rfl, A.sb _ _ h1, hc, hdn⟩, _, H0, F, δ, A, T.wp_mono (fun _ kd wk kv F2 H2 s2 rk => ?_) (fun _ _ _ h => h) (T.wp_bind.mp w)⟩
    have rk : Rep g.r F2 kd kv := by cases kd <;> exact rk
    split at wk
    · rename_i j hj
      cases kd with
      | int z =>
        have hj : (match intsD l with | some ns => ixI ns z | none => none) = some j := hj
        split at hj
        · rename_i ns hns
          obtain ⟨a1, a2⟩ := ixI_ok hj
          have ex := h2.ints hns
          subst ex
          refine ⟨p, ns, z, j, rfl, by rw [rk.intI], .inl (.inr ⟨o, s2.frz _ _ (s2.sub _ _ h1)⟩), a1, a2, wk _ F2 H2 s2 (Post.of (Rep.int _))⟩
        · cases hj
      | _ => cases hj
    · exact wk.elim
  · exact w.elim
theorem st_sett (C : Cok g X) {i : Nat} {x y : Str} {e : Expr} {te : Env → T D} {p2 p : Pos} {cp : Pos} (hi : X.N[i]? = some x) (hx : Loc X.env.scope x) (hg : Gl X y) (hm : X.mg y = none) (hv : bootBuiltins y = some (.type "tuple")) (hn : y ≠ "__name__") (hdb : (y == ("__debug__" : Str)) = false)
    (he : PE X e (tD g M W false te)) (hs : starEach [e] X.env = [(false, eval e X.env)]) (hf : X.fn x = true ∨ X.env.scope.names.lookup x = some .local) :
    PS X (.Assign [.Name x p2] (.Call (.Name y p) [e] [] cp) pos) (sD g M W fun δ => (te δ).bind fun d => (match d with | .lst l => .ret (.nx (δ.set i (.ot l))) | _ => .bad)) := by
  refine imS (ps_set C.nd hi hx (pe_callTy call_tuple_frz hg hm hv (pa_cons he pa_nil hs) hn hdb hs rfl) rfl hf) fun Dn σ H ⟨nn, Fb, H0, F, δ, st, en, w⟩ => ?_
  refine ⟨_, H0, F, δ, toAt st en, T.wp_mono (fun _ d wd v F' H' s' r => ?_) (fun _ _ _ h => finX.wx st h) (T.wp_bind.mp w)⟩
  have r : Rep g.r F' d v := by cases d <;> exact r
  cases d with
  | lst l =>
    obtain ⟨q, xs, rfl, h1, h2⟩ := r
    refine ⟨q, xs, rfl, .of (s'.frz _ _ h1), fun t o nt hc hd => ?_⟩
    have b := Step.born C.ok s'.gi s'.frz s'.nsp (o := .frz o (.tup xs)) nt
    have en2 := (en.step s').step b
    by_cases hil : i < δ.length
    · exact wd _ _ _ ((st.trans s').trans b) (en2.setT hil hc hd upd_same (h2.mono b.sub))
    · have e1 : σ.set i (some (.ref t)) = σ := List.set_eq_of_length_le (by rw [en.len]; omega)
      have e2 : δ.set i (.ot l) = δ := List.set_eq_of_length_le (by omega)
      have wd := wd (σ.set i (some (.ref t))) _ _ ((st.trans s').trans b) (by rw [e1, e2]; exact en2)
      exact wd
  | _ => exact wd.elim
end
end Dp
end

section
set_option Elab.async false
set_option linter.all false
set_option autoImplicit false
set_option maxRecDepth 100000
set_option maxHeartbeats 4000000
/-! DpA: the state of the draws. -/
namespace Dp
open PySem PySem.Spec PyProof.Rows L2
def stK (pg pc : Addr) (le tu : Int) : List (L2.Key × V) := [(.inr "great", .ref pg), (.inr "cells", .ref pc), (.inr "left", .int le), (.inr "turn", .int tu)]
structure StAt (st pg pc : Addr) (ce gr : List Int) (le tu : Int) (H : Hp) : Prop where
  d : H st = some (.dK (stK pg pc le tu))
  g : H pg = some (.lst (gr.map V.int))
  c : H pc = some (.lst (ce.map V.int))
structure StG (g : Gd) : Prop where
  ex : ∃ (pg pc : Addr) (ce : List Int), g.sp g.r.st ∧ g.sp pg ∧ pg ≠ g.r.st ∧ pc ≠ g.r.st ∧ pc ≠ pg ∧ ce.length ≤ 63 ∧
    (∀ k H, g.GI k H → ∃ gr le tu, StAt g.r.st pg pc ce gr le tu H ∧ 0 ≤ tu ∧ tu + k < tmax) ∧
    (∀ k j H H' gr le tu, g.GI k H → StAt g.r.st pg pc ce gr le tu H' → 0 ≤ tu → tu + (j : Nat) < tmax → (∀ a, a ≠ g.r.st → a ≠ pg → H' a = H a) → g.GI j H')
theorem isSt_ok {s : Slot} (h : isSt s = true) : s = .v .st := by
  cases s with
  | v d => cases d <;> first | rfl | cases h
  | _ => cases h
section
variable {g : Gd} {M : Lm g} {W : WX} {X : Cx} {pos : Pos} {Fb H0 F H F' H' F1 H1 : Hp} {σ : L2.St} {δ : Env} {Dn : Ends} {n j : Nat}
theorem st_get {pg pc : Addr} {le tu : Int} {H : Hp} {st : Addr} (h : H st = some (.dK (stK pg pc le tu))) :
    DGet H st (.str "great") (some (.ref pg)) ∧ DGet H st (.str "cells") (some (.ref pc)) ∧ DGet H st (.str "left") (some (.int le)) ∧ DGet H st (.str "turn") (some (.int tu)) := by
  refine ⟨?_, ?_, ?_, ?_⟩
  · exact .inl ⟨_, .inr "great", .inl h, rfl, by rfl⟩
  · exact .inl ⟨_, .inr "cells", .inl h, rfl, by rfl⟩
  · exact .inl ⟨_, .inr "left", .inl h, rfl, by rfl⟩
  · exact .inl ⟨_, .inr "turn", .inl h, rfl, by rfl⟩
theorem slot_st (en : EnvOk g M H0 F H σ δ) {i : Nat} (h : isSt (look δ i) = true) : σ[i]? = some (some (.ref g.r.st)) := by
  have B := en.at_ i
  rw [isSt_ok h] at B
  obtain ⟨v, e, r⟩ := B
  unfold Rep at r
  rw [e, r]
theorem noSl_str {x : Str} {j : Nat} {p : Pos} : NoSl (.Constant (.str x) j p) := fun _ _ => rfl
variable {i : Nat} {x : Str} {p1 p2 : Pos} {kk : Nat}
theorem s_stv (C : Cok g X) (S : StG g) (hN : X.N[i]? = some x) (hv : Vis X.env.scope x) (hd : (x == ("__debug__" : Str)) = false) (hcd : (x == ("__classdict__" : Str)) = false) :
    PE X (.Subscript (.Name x p1) (.Constant (.str "left") kk p2) pos) (tD g M W false fun δ => .need (isSt (look δ i)) (.any fun l => .ret (.int (l.headD 0)))) := by
  obtain ⟨pg, pc, ce, s1, s2, s3, s4, s5, s6, hI, hP⟩ := S.ex
  have hu := C.un
  refine imE (pe_dget (by omega) (pe_var hN hv hd hcd) pe_str noSl_str) fun σ H Q ⟨nn, H0, F, δ, A, w⟩ => ?_
  obtain ⟨hz, w⟩ := T.wp_need.mp w
  obtain ⟨gr, le, tu, sa, _, _⟩ := hI _ _ A.gi
  have w : ∀ v F' H', Step g F H nn F' H' → Post g false F' H H' (.int le) v → Q v H' := w [le]
  exact ⟨.ref g.r.st, slot_st A.env hz, g.r.st, .int le, rfl, (st_get sa.d).2.2.1, w _ F H A.now (Post.int _)⟩
/-- the state's dict or the list of the great ones is written -/
theorem st_step (S : StG g) (st : Step g Fb H0 n F H) {pg : Addr} {H' : Hp} (s1 : g.sp g.r.st) (s2 : g.sp pg) (gi : g.GI j H') (k : ∀ a, a ≠ g.r.st → a ≠ pg → H' a = H a) : Step g Fb H0 j F H' := by
  have ke : ∀ a o, H a = some o → g.sp a ∨ H' a = some o := fun a o e => by
    by_cases z1 : a = g.r.st
    · exact .inl (z1 ▸ s1)
    · by_cases z2 : a = pg
      · exact .inl (z2 ▸ s2)
      · exact .inr (by rw [k a z1 z2]; exact e)
  refine ⟨gi, st.ext.trans ke, st.sub, fun a o e => ?_, st.nsp, st.new⟩
  exact (ke a o (st.frz a o e)).resolve_left (st.nsp a o e)
theorem EnvOk.keepH (en : EnvOk g M H0 F H σ δ) {pg : Addr} {H' : Hp} (s1 : g.sp g.r.st) (s2 : g.sp pg) (k : ∀ a, a ≠ g.r.st → a ≠ pg → H' a = H a) : EnvOk g M H0 F H' σ δ := by
  have ke : Ext g H H' := fun a o e => by
    by_cases z1 : a = g.r.st
    · exact .inl (z1 ▸ s1)
    · by_cases z2 : a = pg
      · exact .inl (z2 ▸ s2)
      · exact .inr (by rw [k a z1 z2]; exact e)
  refine ⟨en.len, fun i => ?_, en.apart⟩
  have B := en.at_ i
  cases q : look δ i with
  | no => trivial
  | v d => rw [q] at B; exact B
  | ot l => rw [q] at B; exact B
  | own l =>
    rw [q] at B
    obtain ⟨p, xs, e, h1, h2, h3, h4, h5⟩ := B
    exact ⟨p, xs, e, (ke p _ h1).resolve_left h5, h2, h3, h4, h5⟩
  | lm k => rw [q] at B; obtain ⟨v, e, l⟩ := B; exact ⟨v, e, M.ext k v _ _ l ke⟩
theorem put_left {pg pc : Addr} {le tu z : Int} : putK (stK pg pc le tu) (.inr "left") (.int z) = stK pg pc z tu := by rfl
theorem put_turn {pg pc : Addr} {le tu z : Int} : putK (stK pg pc le tu) (.inr "turn") (.int z) = stK pg pc le z := by rfl
theorem stK_line {pg pc : Addr} {le tu : Int} : (stK pg pc le tu).length < sizeLine := by rw [sizeLine_eq]; show 4 < _; omega
theorem st_stw (C : Cok g X) (S : StG g) {e : Expr} {te : Env → T D} (hN : X.N[i]? = some x) (hv : Vis X.env.scope x) (hd : (x == ("__debug__" : Str)) = false) (hcd : (x == ("__classdict__" : Str)) = false) (he : PE X e (tD g M W false te)) {p3 : Pos}
    (hs : swapsWith e (some (.Subscript (.Name x p1) (.Constant (.str "left") kk p2) p3)) pos.line X.env = pure false) :
    PS X (.Assign [.Subscript (.Name x p1) (.Constant (.str "left") kk p2) p3] e pos) (sD g M W fun δ => (te δ).bind fun d => match d with | .int _ => .need (isSt (look δ i)) (.ret (.nx δ)) | _ => .bad) := by
  obtain ⟨pg, pc, ce, s1, s2, s3, s4, s5, s6, hI, hP⟩ := S.ex
  have hu := C.un
  refine imS (ps_dput (by omega) (pe_var hN hv hd hcd) pe_str he hs) fun Dn σ H ⟨nn, Fb, H0, F, δ, st, en, w⟩ => ?_
  refine ⟨_, H0, F, δ, toAt st en, T.wp_mono (fun q d hd v F' H' s' r => ?_) (fun _ _ _ h => finX.wx st h) (T.wp_bind.mp w)⟩
  have r : Rep g.r F' d v := by cases d <;> exact r
  split at hd
  · rename_i z _
    obtain ⟨hz, hd⟩ := T.wp_need.mp hd
    have en' := en.step s'
    obtain ⟨gr, le, tu, sa, t0, t1⟩ := hI _ _ s'.gi
    have sa' : StAt g.r.st pg pc ce gr z tu (upd H' g.r.st (.dK (stK pg pc z tu))) := ⟨upd_same, by rw [upd_ne s3]; exact sa.g, by rw [upd_ne s4]; exact sa.c⟩
    have kp : ∀ a, a ≠ g.r.st → a ≠ pg → upd H' g.r.st (.dK (stK pg pc z tu)) a = H' a := fun a a1 _ => upd_ne a1
    have gi := hP _ q _ _ _ _ _ s'.gi sa' t0 t1 kp
    refine ⟨.ref g.r.st, slot_st en' hz, g.r.st, _, rfl, .inl ⟨_, .inr "left", sa.d, rfl, stK_line, rfl⟩, ?_⟩
    rw [r.intI, put_left]
    exact hd σ F' _ (st_step S (st.trans s') s1 s2 gi kp) (en'.keepH s1 s2 kp)
  · exact hd.elim
/-- for cell in state['cells'] -/
theorem i_stc (C : Cok g X) (S : StG g) {tg : Expr} {fz : Bool} (hN : X.N[i]? = some x) (hv : Vis X.env.scope x) (hd : (x == ("__debug__" : Str)) = false) (hcd : (x == ("__classdict__" : Str)) = false) :
    PI X tg (.Subscript (.Name x p1) (.Constant (.str "cells") kk p2) pos) (iD g M W fz fun δ => .need (isSt (look δ i)) (.any fun l => .ret ((l.take 63).map D.int))) := by
  obtain ⟨pg, pc, ce, s1, s2, s3, s4, s5, s6, hI, hP⟩ := S.ex
  have hu := C.un
  refine imI (seq_PI (pe_dget (by omega) (pe_var hN hv hd hcd) pe_str noSl_str) C.K) fun σ H R ⟨nn, H0, F, δ, A, w⟩ => ?_
  obtain ⟨hz, w⟩ := T.wp_need.mp w
  obtain ⟨gr, le, tu, sa, _, _⟩ := hI _ _ A.gi
  have w : ∀ J F' H', Step g F H nn F' H' → Yields g fz J F' H' ((ce.take 63).map D.int) → R J H' := w ce
  rw [List.take_of_length_le s6] at w
  refine ⟨.ref g.r.st, slot_st A.env hz, g.r.st, .ref pc, rfl, (st_get sa.d).2.1, pc, rfl, .inl ⟨_, .of sa.c, w _ F H A.now ?_⟩⟩
  intro k F' H' gi sf sh nsp ex
  obtain ⟨gr', le', tu', sa', _, _⟩ := hI _ _ gi
  have stp := Step.refl gi sh nsp
  refine ⟨fun m d e => ?_, fun m e => ⟨_, .of sa'.c, by simpa using e⟩⟩
  rw [List.getElem?_map] at e
  cases q : ce[m]? with
  | none => rw [q] at e; cases e
  | some z =>
    rw [q] at e
    have e : D.int z = d := Option.some.inj e
    subst e
    have hv : (ce.map V.int)[m]? = some (.int z) := by rw [List.getElem?_map, q]; rfl
    refine ⟨⟨_, _, .of sa'.c, hv⟩, fun v H2 y => ?_⟩
    obtain ⟨rfl, y⟩ := y
    have e3 := y _ (.of sa'.c)
    rw [hv] at e3; cases e3
    exact ⟨F', stp, Rep.int z⟩
/-- turn, found = (state['turn'] + 1, 0), then state['turn'] = turn -/
theorem st_tick (C : Cok g X) (S : StG g) {it jf : Nat} {xt xf : Str} {q1 q2 q3 q4 q5 q6 q7 q8 q9 r1 r2 r3 r4 r5 pos2 : Pos} {k1 k2 k3 k4 k5 k6 : Nat} (hN : X.N[i]? = some x) (hv : Vis X.env.scope x) (hd : (x == ("__debug__" : Str)) = false) (hcd : (x == ("__classdict__" : Str)) = false)
    (ht : X.N[it]? = some xt) (hf : X.N[jf]? = some xf) (hvt : X.env.scope.names.lookup xt = some .local) (hvf : X.env.scope.names.lookup xf = some .local) (hdt : (xt == ("__debug__" : Str)) = false) (hct : (xt == ("__classdict__" : Str)) = false) (ne : it ≠ jf) (nei : it ≠ i) (nji : jf ≠ i)
    (hw : swappedStores [.Tuple [.Name xt q1, .Name xf q2] k1 q3] (.Tuple [.BinOp (.Subscript (.Name x q4) (.Constant (.str "turn") k2 q5) q6) .Add (.Constant (.int 1) k3 q7) q8, .Constant (.int 0) k4 q9] k5 r1) X.env = pure (some [xt, xf]))
    {rest : List Stmt} {u : Env → T Fl} (hr : PSs X rest (sD g M W u)) :
    PSs X (.Assign [.Tuple [.Name xt q1, .Name xf q2] k1 q3] (.Tuple [.BinOp (.Subscript (.Name x q4) (.Constant (.str "turn") k2 q5) q6) .Add (.Constant (.int 1) k3 q7) q8, .Constant (.int 0) k4 q9] k5 r1) pos :: .Assign [.Subscript (.Name x r2) (.Constant (.str "turn") k6 r3) r4] (.Name xt r5) pos2 :: rest)
      (sD g M W fun δ => (T.need (α := Fl) (isSt (look δ i) && decide (it < δ.length)) (.draw 1 fun _ => .any fun l => .ret (.nx ((δ.set it (.v (.int (l.headD 0 % tmax + 1)))).set jf (.v (.int 0)))))).bind fun f => match f with
      | .nx δ' => u δ'
      | .ret d => .ret (.ret d)
      | .brk δ' => .ret (.brk δ')
      | .ct δ' => .ret (.ct δ')) := by
  obtain ⟨pg, pc, ce, s1, s2, s3, s4, s5, s6, hI, hP⟩ := S.ex
  have hu := C.un
  have e0 : PE X (.BinOp (.Subscript (.Name x q4) (.Constant (.str "turn") k2 q5) q6) .Add (.Constant (.int 1) k3 q7) q8) _ := pe_op op_add (pe_dget (by omega) (pe_var hN hv hd hcd) pe_str noSl_str) pe_int
  have h1 := ps_par (pos := pos) C.calm C.nd ht hf ne hvt hvf (pa_cons e0 (pa_cons (pe_int (i := 0) (j := k4) (pos := q9)) pa_nil rfl) rfl) hw rfl
  have h2 : PS X (.Assign [.Subscript (.Name x r2) (.Constant (.str "turn") k6 r3) r4] (.Name xt r5) pos2) _ := ps_dput (by omega) (pe_var hN hv hd hcd) pe_str (pe_var ht (.inl hvt) hdt hct) rfl
  refine imSs (pss_cons h1 (pss_cons h2 hr)) fun Dn σ H ⟨nn, Fb, H0, F, δ, st, en, w⟩ => ?_
  have w := T.wp_bind.mp w
  obtain ⟨hz, w⟩ := T.wp_need.mp w
  simp only [Bool.and_eq_true, decide_eq_true_eq] at hz
  obtain ⟨hz, hlt⟩ := hz
  obtain ⟨w0, _, _, w⟩ := w
  have w := w 0 (by omega)
  have hσ := slot_st en hz
  obtain ⟨gr, le, tu, sa, t0, t1⟩ := hI _ _ st.gi
  have w : T.wp (nn - 1) (u ((δ.set it (.v (.int (tu % tmax + 1)))).set jf (.v (.int 0)))) (finR g M Dn Fb H0) (finX g W Fb H0) := w [tu]
  have et : tu % tmax = tu := Int.emod_eq_of_lt t0 (by omega)
  rw [et] at w
  have sa' : StAt g.r.st pg pc ce gr le (tu + 1) (upd H g.r.st (.dK (stK pg pc le (tu + 1)))) := ⟨upd_same, by rw [upd_ne s3]; exact sa.g, by rw [upd_ne s4]; exact sa.c⟩
  have kp : ∀ a, a ≠ g.r.st → a ≠ pg → upd H g.r.st (.dK (stK pg pc le (tu + 1))) a = H a := fun a a1 _ => upd_ne a1
  have gi := hP _ (nn - 1) _ _ _ _ _ st.gi sa' (by omega) (by omega) kp
  have en1 : EnvOk g M H0 F H ((σ.set it (some (.int (tu + 1)))).set jf (some (.int 0))) ((δ.set it (.v (.int (tu + 1)))).set jf (.v (.int 0))) := (en.setV' (Rep.int _)).setV' (Rep.int _)
  have st1 := st_step S st s1 s2 gi kp
  refine ⟨.ref g.r.st, hσ, g.r.st, .int tu, rfl, (st_get sa.d).2.2.2, ?_⟩
  refine ⟨_, _, rfl, rfl, .int (tu + 1), .int 0, rfl, ?_⟩
  have l1 : ((σ.set it (some (V.int (tu + 1)))).set jf (some (.int 0)))[it]? = some (some (.int (tu + 1))) := by
    rw [List.getElem?_set_ne (Ne.symm ne), List.getElem?_set_self (by rw [en.len]; exact hlt)]
  have l2 : ((σ.set it (some (V.int (tu + 1)))).set jf (some (.int 0)))[i]? = some (some (.ref g.r.st)) := by
    rw [List.getElem?_set_ne nji, List.getElem?_set_ne nei]; exact hσ
  exact ⟨_, l1, .ref g.r.st, l2, g.r.st, _, rfl, .inl ⟨_, .inr "turn", sa.d, rfl, stK_line, rfl⟩, by rw [put_turn]; exact ⟨_, Fb, H0, F, _, st1, en1.keepH s1 s2 kp, w⟩⟩
theorem dp_ints {K : PySem.W.Frag} {H : Hp} : ∀ ns : List Int, DpAll K H (ns.map V.int) (ns.map PyData.int)
  | [] => .nil
  | n :: ns => .cons (.int n) (dp_ints ns)
/-- state['great'].pop(0) if state['great'] != [] else e -/
theorem s_stnx (C : Cok g X) (S : StG g) {e : Expr} {te : Env → T D} {q1 q2 q3 q4 q5 q6 q7 q8 q9 : Pos} {k1 k2 k3 : Nat} (hN : X.N[i]? = some x) (hv : Vis X.env.scope x) (hd : (x == ("__debug__" : Str)) = false) (hcd : (x == ("__classdict__" : Str)) = false)
    (he : PE X e (tD g M W false te)) (hl : (q7.endLine == q9.line) = true) :
    PE X (.IfExp (.Compare (.Subscript (.Name x q1) (.Constant (.str "great") k1 q2) q3) [.NotEq] [.List [] q4] q5) (.Call (.Attribute (.Subscript (.Name x p1) (.Constant (.str "great") k2 p2) q6) "pop" q7) [.Constant (.int 0) k3 q8] [] q9) e pos)
      (tD g M W false fun δ => .need (isSt (look δ i)) (.any fun l => if l = [] then te δ else .ret (.int (l.headD 0)))) := by
  obtain ⟨pg, pc, ce, s1, s2, s3, s4, s5, s6, hI, hP⟩ := S.ex
  have hu := C.un
  have g1 : PE X (.Subscript (.Name x q1) (.Constant (.str "great") k1 q2) q3) _ := pe_dget (by omega) (pe_var hN hv hd hcd) pe_str noSl_str
  have g2 : PE X (.Subscript (.Name x p1) (.Constant (.str "great") k2 p2) q6) _ := pe_dget (by omega) (pe_var hN hv hd hcd) pe_str noSl_str
  have hmt : MtR X "list.pop" rPopAt := mt_popAt
  have c1 : PT X (.Compare (.Subscript (.Name x q1) (.Constant (.str "great") k1 q2) q3) [.NotEq] [.List [] q4] q5) _ := pt_cmpR (op_neD (by omega)) g1 (pe_lst pa_nil) rfl
  have b1 : PE X (.Call (.Attribute (.Subscript (.Name x p1) (.Constant (.str "great") k2 p2) q6) "pop" q7) [.Constant (.int 0) k3 q8] [] q9) _ := pe_bm PySem.F.plainAttrs_list PySem.F.slot_list_pop PySem.F.type_list_pop hmt g2 (pa_cons pe_int pa_nil rfl) rfl rfl hl rfl rfl
  refine imE (pe_ifExp c1 b1 he) fun σ H Q ⟨nn, H0, F, δ, A, w⟩ => ?_
  obtain ⟨hz, w⟩ := T.wp_need.mp w
  obtain ⟨gr, le, tu, sa, t0, t1⟩ := hI _ _ A.gi
  have hσ := slot_st A.env hz
  refine ⟨.ref g.r.st, hσ, g.r.st, .ref pg, rfl, (st_get sa.d).1, ?_⟩
  refine ⟨by rw [sizeLine_eq]; show 0 ≤ _; omega, fun p np => ?_⟩
  have npg : pg ≠ p := ne_of_none sa.g np
  have h1 : upd H p (.lst []) pg = some (.lst (gr.map V.int)) := by rw [upd_ne npg]; exact sa.g
  refine ⟨.list (gr.map PyData.int), .list [], .lst (.of h1) (dp_ints gr), .lst (.of upd_same) .nil, PySem.W.ke_shaped_ints gr, PySem.W.ke_shaped_ints [], ?_⟩
  have ld := Step.laid C.ok A.gi A.sb A.ns (o := .lst []) np
  refine ⟨_, rfl, ?_⟩
  cases gr with
  | nil =>
    have e1 : (!PyData.eqv (.list (([] : List Int).map PyData.int)) (.list [])) = false := by decide
    rw [e1]
    have w : T.wp nn (te δ) (fun c d => ∀ v F' H', Step g F H c F' H' → Post g false F' H H' d v → Q v H') (wX g W F H σ) := w []
    exact ⟨_, H0, F, δ, A.step ld, T.wp_mono (fun _ _ k => later C.ok A.gi ld k) (fun _ _ _ h => wX.step ld h) w⟩
  | cons z gr =>
    have e1 : (!PyData.eqv (.list ((z :: gr).map PyData.int)) (.list [])) = true := by rfl
    rw [e1]
    have w : ∀ v F' H', Step g F H nn F' H' → Post g false F' H H' (.int z) v → Q v H' := w [z]
    have d1 : upd H p (.lst []) g.r.st = some (.dK (stK pg pc le tu)) := by rw [upd_ne (ne_of_none sa.d np)]; exact sa.d
    refine ⟨.ref g.r.st, hσ, g.r.st, .ref pg, rfl, (st_get d1).1, .inl ⟨rfl, _, .of h1⟩, ?_⟩
    refine ⟨pg, (z :: gr).map V.int, 0, 0, .int z, rfl, rfl, h1, by decide, by decide, by simp [seqIndex?], rfl, ?_⟩
    have kp : ∀ a, a ≠ g.r.st → a ≠ pg → upd (upd H p (.lst [])) pg (.lst (((z :: gr).map V.int).eraseIdx 0)) a = upd H p (.lst []) a := fun a _ a2 => upd_ne a2
    have sa' : StAt g.r.st pg pc ce gr le tu (upd (upd H p (.lst [])) pg (.lst (((z :: gr).map V.int).eraseIdx 0))) := ⟨by rw [upd_ne (Ne.symm s3)]; exact d1, upd_same, by rw [upd_ne s5, upd_ne (ne_of_none sa.c np)]; exact sa.c⟩
    have gi := hP _ nn _ _ _ _ _ ld.gi sa' t0 t1 kp
    exact w _ F _ (st_step S ld s1 s2 gi kp) (Post.int z)
end
end Dp
end

section
set_option Elab.async false
set_option linter.all false
set_option autoImplicit false
set_option maxRecDepth 100000
set_option maxHeartbeats 4000000
/-! Dp10: from syntax to terms. -/
namespace Dp
open PySem PySem.Spec PyProof.Rows L2

/-- what a global name is -/
inductive GV where
  | fn (f : Nat) | cls (c : Nat) | con (i : Nat) | cau
/-- what is known of a block: its names' slots, its scope, the names whose lists are its own, the globals, the defs' keywords, what may be raised -/
structure Kx where
  N : List Str
  sc : Scope
  fn : Str → Bool
  own : List Str
  gl : List (Str × GV)
  np : Nat → Nat
  kw : Nat → List (Nat × List Str × List Nat)
  rs : Nat → Bool
  lmOn : Bool := false
  /-- the class that a def of the table makes -/
  cf : Nat → Option Nat := fun _ => none
def ixOf : List Str → Str → Option Nat
  | [], _ => none
  | y :: l, x => if y = x then some 0 else (ixOf l x).map (· + 1)
theorem ixOf_ok : ∀ {l : List Str} {x : Str} {i : Nat}, ixOf l x = some i → l[i]? = some x
  | [], _, _, h => by cases h
  | y :: l, x, i, h => by
    unfold ixOf at h
    split at h
    · rename_i e; cases h; subst e; rfl
    · cases q : ixOf l x with
      | none => rw [q] at h; cases h
      | some j => rw [q] at h; cases h; exact ixOf_ok (l := l) q
namespace Kx
def kd (kx : Kx) (x : Str) : Option NameKind := kx.sc.names.lookup x
def vis (kx : Kx) (x : Str) : Bool := (match kx.kd x with | some .local => true | some .cell => true | some .free => true | _ => false) && !(x == ("__debug__" : Str)) && !(x == ("__classdict__" : Str))
def loc (kx : Kx) (x : Str) : Bool := match kx.kd x with | some .local => true | some .cell => kx.fn x | _ => false
def lcl (kx : Kx) (x : Str) : Bool := match kx.kd x with | some .local => true | _ => false
def glb (kx : Kx) (x : Str) : Bool := (match kx.kd x with | some .globalImplicit => true | _ => false) && !(x == ("__debug__" : Str)) && !decide (x = ("__name__" : Str))
def isOwn (kx : Kx) (x : Str) : Bool := decide (x ∈ kx.own)
def isOt (kx : Kx) (x : Str) : Bool := decide ((⟨#[35] ++ x.cps⟩ : Str) ∈ kx.own)
/-- a comprehension's block -/
def blk (kx : Kx) (scope : Scope) : Kx := { kx with sc := relS scope kx.sc, fn := fun x => scope.names.lookup x == some .cell, lmOn := false }
/-- a lambda's body -/
def lamb (kx : Kx) (scope : Scope) : Kx := { kx with sc := scope, fn := fun _ => false, lmOn := false }
end Kx
/-- built-in names that may be met -/
def bls : List Str := ["isinstance", "range", "enumerate", "zip", "len", "sum", "min", "max", "abs", "int", "all", "any", "repr", "tuple", "list", "bool", "str", "dict", "ValueError", "sorted"]
def biOf (x : Str) : Option BI :=
  if x = ("len" : Str) then some .len else if x = ("sum" : Str) then some .sum else if x = ("min" : Str) then some .min else if x = ("max" : Str) then some .max
  else if x = ("abs" : Str) then some .abs else if x = ("int" : Str) then some .int else if x = ("all" : Str) then some .all else if x = ("any" : Str) then some .any
  else if x = ("repr" : Str) then some .repr else if x = ("tuple" : Str) then some .tuple else if x = ("list" : Str) then some .list else if x = ("sorted" : Str) then some .sorted else none
theorem biOf_ok {x : Str} {b : BI} (h : biOf x = some b) : bootBuiltins x = some (biVal b) ∧ x ∈ bls := by
  unfold biOf at h
  iterate 12 (split at h; · rename_i e; subst e; cases h; exact ⟨by decide +kernel, by decide +kernel⟩)
  cases h
def tyOf (x : Str) : Option Ty :=
  if x = ("int" : Str) then some .int else if x = ("bool" : Str) then some .bool else if x = ("str" : Str) then some .str else if x = ("tuple" : Str) then some .tuple
  else if x = ("list" : Str) then some .list else if x = ("dict" : Str) then some .dict else if x = ("ValueError" : Str) then some .valueError else none
theorem tyOf_ok {g : Gd} {x : Str} {t : Ty} (h : tyOf x = some t) : ∃ n, bootBuiltins x = some (.type n) ∧ tyV g t = .ty n ∧ x ∈ bls := by
  unfold tyOf at h
  iterate 7 (split at h; · rename_i e; subst e; cases h; exact ⟨_, by decide +kernel, rfl, by decide +kernel⟩)
  cases h
/-- the class that a name stands for -/
def tyAt (kx : Kx) : Expr → Option Ty
  | .Name x _ => if kx.glb x = true then (match kx.gl.lookup x with | some (.cls c) => some (.cls c) | some (.fn f) => (kx.cf f).map .cls | none => tyOf x | _ => none) else none
  | _ => none
def plainIxB : Expr → Bool
  | .Slice .. => false
  | _ => true
theorem plainIx_ok {b : Expr} (h : plainIxB b = true) : PlainIx b := by
  intro o i
  cases b <;> first | rfl | cases h
def notSet : Expr → Bool
  | .Set .. => false
  | _ => true
theorem notSet_ok {e : Expr} {env : PySem.Env} (h : notSet e = true) : ∀ x, foldedSetIterable e env x = pure x := by
  intro x
  cases e <;> first | rfl | cases h
/-- a test of the plain kind -/
def tvB : Expr → Bool
  | .UnaryOp .Not _ _ => false
  | .BoolOp .. => false
  | .IfExp .. => false
  | .Compare .. => false
  | _ => true
theorem tv_ok {a : Expr} {env : PySem.Env} (h : tvB a = true) : ∀ whole, isTrue a env whole = (do let v ← whole; standAt a.pos; holding [v] (truthy v)) := by
  intro whole
  cases a with
  | UnaryOp o x p => cases o <;> first | rfl | cases h
  | BoolOp _ _ _ => cases h
  | IfExp _ _ _ _ => cases h
  | Compare _ _ _ _ => cases h
  | _ => rfl
/-- the natural kind of what comes: a new list is not frozen yet -/
def fl : E → Bool
  | .op .. => true
  | .neg .. => true
  | .cmp .. => true
  | .cmp2 .. => true
  | .lst .. => true
  | .sl .. => true
  | .lc .. => true
  | .lc2 .. => true
  | .bi .. => true
  | .seqR .. => true
  | .isi .. => true
  | _ => false
def ownOf (kx : Kx) : List (Str × NameKind) → List (Str × Nat)
  | [] => []
  | (x, k) :: r => match k, ixOf kx.N x with
    | .local, some i => (x, i) :: ownOf kx r
    | .cell, some i => (x, i) :: ownOf kx r
    | _, _ => ownOf kx r
mutual
def cG (kx : Kx) : Nat → Expr → Option Tg
  | n + 1, .Name x _ => if kx.loc x = true then (if kx.isOwn x = true then none else (ixOf kx.N x).map .n) else none
  | n + 1, .Tuple es _ _ => (cGs kx n es).map .t
  | _, _ => none
def cGs (kx : Kx) : Nat → List Expr → Option (List Tg)
  | n + 1, [] => some []
  | n + 1, e :: es => if nsB e = true then (match cG kx n e, cGs kx n es with | some t, some ts => some (t :: ts) | _, _ => none) else none
  | _, _ => none
end
/-- one argument: a range -/
def isRg (kx : Kx) : List Expr → Bool
  | [.Call (.Name x _) es [] _] => decide (x = ("range" : Str)) && kx.glb x && (kx.gl.lookup x).isNone && es.all nsB
  | _ => false
def nmOf : Expr → Option Str
  | .Name x _ => some x
  | _ => none
/-- state['left'] -/
def leftOf : Expr → Expr → Option Str
  | .Name x _, .Constant (.str k) _ _ => if k = ("left" : Str) then some x else none
  | _, _ => none
def cellsOf : Expr → Option Str
  | .Subscript (.Name x _) (.Constant (.str k) _ _) _ => if k = ("cells" : Str) then some x else none
  | _ => none
/-- state['great'].pop(0) if state['great'] != [] else .. -/
def nxOf : Expr → Expr → Option Str
  | .Compare (.Subscript (.Name x _) (.Constant (.str k1) _ _) _) [.NotEq] [.List [] _] _, .Call (.Attribute (.Subscript (.Name y _) (.Constant (.str k2) _ _) _) m a) [.Constant (.int 0) _ _] [] c =>
    if y = x ∧ k1 = ("great" : Str) ∧ k2 = ("great" : Str) ∧ m = ("pop" : Str) ∧ (a.endLine == c.line) = true then some x else none
  | _, _ => none
/-- no parameter; captured names only -/
def lamB (kx : Kx) (p : Arguments) (scope : Scope) : Bool := p.posonlyargs.isEmpty && p.args.isEmpty && p.vararg.isNone && p.kwonlyargs.isEmpty && p.kw_defaults.isEmpty && p.kwarg.isNone && p.defaults.isEmpty && LamX.lamSB kx.sc scope
/-- the defs of so many parameters -/
def cands (kx : Kx) (n : Nat) : List Nat := kx.gl.filterMap fun p => match kx.gl.lookup p.1 with
  | some (.fn f) => if kx.np f = n then some f else none
  | _ => none
theorem cands_ok {kx : Kx} {n f : Nat} (h : f ∈ cands kx n) : (∃ x, kx.gl.lookup x = some (.fn f)) ∧ kx.np f = n := by
  unfold cands at h
  obtain ⟨p, _, e⟩ := List.mem_filterMap.mp h
  split at e
  · rename_i f' hf
    split at e
    · rename_i hn
      cases e
      exact ⟨⟨_, hf⟩, hn⟩
    · cases e
  · cases e
mutual
/-- a value -/
def cE : Nat → Kx → Expr → Option E
  | n + 1, kx, .Constant .none _ _ => some (.c .non)
  | n + 1, kx, .Constant (.bool b) _ _ => some (.c (.bl b))
  | n + 1, kx, .Constant (.int i) _ _ => some (.c (.int i))
  | n + 1, kx, .Constant (.str x) _ _ => some (.c (.str x))
  | n + 1, kx, .Name x _ => if kx.vis x = true then (if kx.isOwn x = true then none else (ixOf kx.N x).map .v)
      else if kx.glb x = true then (match kx.gl.lookup x with | some (.con i) => some (.g i) | some (.fn f) => some (.gf f) | _ => none) else none
  | n + 1, kx, .Tuple es _ _ => if es.length ≤ 1000 then (cL n kx es).map .tup else none
  | n + 1, kx, .List es _ => if es.length ≤ 1000 then (cL n kx es).map .lst else none
  | n + 1, kx, .Dict [] [] _ => some .dct
  | n + 1, kx, .BinOp a o b _ => match cO n kx a, cO n kx b with | some x, some y => some (.op o x y) | _, _ => none
  | n + 1, kx, .UnaryOp .USub a _ => (cO n kx a).map .neg
  | n + 1, kx, .UnaryOp .Not a _ => (cO n kx a).map .not
  | n + 1, kx, .Compare a [o] [b] _ => if behindInMarks o b = true then none else match cO n kx a, cO n kx b with | some x, some y => some (.cmp o x y) | _, _ => none
  | n + 1, kx, .Compare a [o, p] [b, c] _ => if lastMarks [o, p] [b, c] = true then none else match cO n kx a, cO n kx b, cO n kx c with | some x, some y, some z => some (.cmp2 o p x y z) | _, _, _ => none
  | n + 1, kx, .BoolOp .And [a] _ => (cO n kx a).map .and1
  | n + 1, kx, .BoolOp .Or [a] _ => (cO n kx a).map .or1
  | n + 1, kx, .BoolOp .And (a :: r :: l) pos => match cO n kx a, cE n kx (.BoolOp .And (r :: l) pos) with | some x, some y => some (.and x y) | _, _ => none
  | n + 1, kx, .BoolOp .Or (a :: r :: l) pos => match cO n kx a, cE n kx (.BoolOp .Or (r :: l) pos) with | some x, some y => some (.or x y) | _, _ => none
  | n + 1, kx, .IfExp c a b _ => match nxOf c a with
    | some x => if kx.vis x = true then (match ixOf kx.N x, cE n kx b with | some i, some y => some (.stnx i y) | _, _ => none) else none
    | none => match cT n kx c, cE n kx a, cE n kx b with | some x, some y, some z => some (.ite x y z) | _, _, _ => none
  | n + 1, kx, .Subscript a (.Slice lo hi none _) _ => match cO n kx a, cQ n kx lo, cQ n kx hi with | some x, some y, some z => some (.sl x y z) | _, _, _ => none
  | n + 1, kx, .Subscript a (.Slice none none (some (.UnaryOp .USub (.Constant (.int 1) _ _) _)) _) _ => (cE n kx a).map .rev
  | n + 1, kx, .Subscript a (.Slice lo hi (some _) _) _ => some .no
  | n + 1, kx, .Subscript a b _ => match leftOf a b with
    | some x => if kx.vis x = true then (ixOf kx.N x).map .stv else none
    | none => if plainIxB b = true then (match cO n kx a, cO n kx b with | some x, some y => some (.ix x y) | _, _ => none) else none
  | n + 1, kx, .ListComp e [⟨tg, it, ifs, 0⟩] scope _ => if blkC kx.N kx.sc scope (ownOf kx scope.names) = true ∧ notSet it = true then
      (match cI n kx false tg it, cG (kx.blk scope) n tg, cC n (kx.blk scope) ifs, cE n (kx.blk scope) e with
        | some s, some t, some c, some y => if (slotsT t).all (fun j => decide (j ∈ (ownOf kx scope.names).map (·.2))) = true then some (.lc (ownOf kx scope.names) t s c y) else none
        | _, _, _, _ => none) else none
  | n + 1, kx, .ListComp e [⟨tg, it, [], 0⟩, ⟨tg1, it1, ifs, 0⟩] scope _ => if blkC kx.N kx.sc scope (ownOf kx scope.names) = true ∧ notSet it = true ∧ notSet it1 = true then
      (match cI n kx false tg it, cG (kx.blk scope) n tg, cI n (kx.blk scope) true tg1 it1, cG (kx.blk scope) n tg1, cC n (kx.blk scope) ifs, cE n (kx.blk scope) e with
        | some s, some t, some s2, some t2, some c, some y => if (slotsT t).all (fun j => decide (j ∈ (ownOf kx scope.names).map (·.2))) = true ∧ (slotsT t2).all (fun j => decide (j ∈ (ownOf kx scope.names).map (·.2))) = true then some (.lc2 (ownOf kx scope.names) t s t2 s2 c y) else none
        | _, _, _, _, _, _ => none) else none
  | n + 1, kx, .Attribute (.Name x p) f _ => (cE n kx (.Name x p)).map (.fld · f)
  | n + 1, kx, .Call (.Name x _) es ks _ => if kx.glb x = true then (match kx.gl.lookup x with
      | some (.fn f) => if es.all nsB = true then (match ks with
          | [] => if es.length = kx.np f then (cL n kx es).map (.call f) else none
          | _ :: _ => match cL n kx es, cK n kx ks, (kx.kw f).find? (fun e => decide (e.1 = es.length) && kwB ks e.2.1) with
              | some l, some z, some e => if e.2.2.length = kx.np f then some (.callk f l z e.2.2) else none
              | _, _, _ => none) else none
      | none => if es.all nsB = true then (match ks with
          | [] => if x = ("isinstance" : Str) then (match es with
              | [a, te] => match cO n kx a, tyAt kx te with | some y, some t => some (.isi y t) | _, _ => none
              | _ => none)
            else if (x = ("tuple" : Str) ∨ x = ("list" : Str)) ∧ isRg kx es = true then (match es with
              | [.Call _ [a] _ _] => (cO n kx a).map fun y => .seqR (decide (x = ("tuple" : Str))) (.rng1 y)
              | [.Call _ [a, b] _ _] => match cO n kx a, cO n kx b with | some y, some z => some (.seqR (decide (x = ("tuple" : Str))) (.rng2 y z)) | _, _ => none
              | _ => none)
            else (match biOf x, es with
              | some b, e :: es => (cB n kx (e :: es)).map (.bi b)
              | _, _ => none)
          | _ => none) else none
      | some .cau => (match es, ks with
          | [a], [] => if kx.lmOn = true ∧ nsB a = true then (cE n kx a).map .cau else none
          | _, _ => none)
      | _ => none) else if kx.vis x = true ∧ kx.isOwn x = false ∧ es.all nsB = true ∧ ks = [] then (match es, ixOf kx.N x, cL n kx es with
      | _ :: _, some i, some l => some (.cv i (cands kx es.length) l)
      | _, _, _ => none) else none
  | n + 1, kx, .Call (.Attribute (.Name x _) m ap) [a] [] cp => if m = ("index" : Str) ∧ kx.vis x = true ∧ kx.isOt x = true ∧ nsB a = true ∧ (ap.endLine == cp.line) = true then (match ixOf kx.N x, cE n kx a with
      | some i, some y => some (.idx i y)
      | _, _ => none) else none
  | n + 1, kx, .Lambda p b scope _ => if kx.lmOn = true ∧ lamB kx p scope = true then (cE n (kx.lamb scope) b).map .lam else none
  | _, _, _ => none
/-- an operand -/
def cO : Nat → Kx → Expr → Option E
  | n + 1, kx, e => match nmOf e with
    | some x => if kx.vis x = true ∧ kx.isOwn x = true then (ixOf kx.N x).map .b else cE n kx e
    | none => cE n kx e
  | _, _, _ => none
/-- a test -/
def cT : Nat → Kx → Expr → Option E
  | n + 1, kx, .Compare a [o] [b] _ => if behindInMarks o b = true then none else match cO n kx a, cO n kx b with | some x, some y => some (.cmp o x y) | _, _ => none
  | n + 1, kx, .Compare a [o, p] [b, c] _ => if lastMarks [o, p] [b, c] = true then none else match cO n kx a, cO n kx b, cO n kx c with | some x, some y, some z => some (.cmp2 o p x y z) | _, _, _ => none
  | n + 1, kx, .UnaryOp .Not a _ => (cT n kx a).map .not
  | n + 1, kx, .BoolOp .And [a] _ => (cT n kx a).map .and1
  | n + 1, kx, .BoolOp .Or [a] _ => (cT n kx a).map .or1
  | n + 1, kx, .BoolOp .And (a :: r :: l) pos => match cT n kx a, cT n kx (.BoolOp .And (r :: l) pos) with | some x, some y => some (.and x y) | _, _ => none
  | n + 1, kx, .BoolOp .Or (a :: r :: l) pos => match cT n kx a, cT n kx (.BoolOp .Or (r :: l) pos) with | some x, some y => some (.or x y) | _, _ => none
  | n + 1, kx, e => if tvB e = true then cO n kx e else none
  | _, _, _ => none
/-- values, frozen -/
def cL : Nat → Kx → List Expr → Option EL
  | n + 1, kx, [] => some .nil
  | n + 1, kx, e :: es => if nsB e = true then (match cE n kx e, cL n kx es with | some x, some l => some (.cons x l) | _, _ => none) else none
  | _, _, _ => none
/-- operands -/
def cB : Nat → Kx → List Expr → Option EL
  | n + 1, kx, [] => some .nil
  | n + 1, kx, e :: es => if nsB e = true then (match cO n kx e, cB n kx es with | some x, some l => some (.cons x l) | _, _ => none) else none
  | _, _, _ => none
def cK : Nat → Kx → List Keyword → Option KL
  | n + 1, kx, [] => some .nil
  | n + 1, kx, ⟨some x, e, _⟩ :: es => match cE n kx e, cK n kx es with | some y, some l => some (.cons x y l) | _, _ => none
  | _, _, _ => none
def cQ : Nat → Kx → Option Expr → Option EO
  | n + 1, kx, none => some .no
  | n + 1, kx, some e => (cO n kx e).map .e
  | _, _, _ => none
/-- a comprehension's tests -/
def cC : Nat → Kx → List Expr → Option EO
  | n + 1, kx, [] => some .no
  | n + 1, kx, [e] => (cT n kx e).map .e
  | _, _, _ => none
/-- what is walked -/
def cI : Nat → Kx → Bool → Expr → Expr → Option Src
  | n + 1, kx, fz, tg, .Call (.Name x p) es ks pos => if kx.glb x = true ∧ kx.gl.lookup x = none then (
      if x = ("range" : Str) then (match es, ks with
        | [a], [] => if nsB a = true then (cO n kx a).map .rng1 else none
        | [a, b], [] => if nsB a = true ∧ nsB b = true then (match cO n kx a, cO n kx b with | some y, some z => some (.rng2 y z) | _, _ => none) else none
        | _, _ => none)
      else if x = ("enumerate" : Str) then (match es, ks, tg with
        | [a], [], .Tuple _ _ _ => if nsB a = true then ((if fz = true then cE n kx a else cO n kx a).map .enum) else none
        | _, _, _ => none)
      else if x = ("zip" : Str) then (match es, ks, tg with
        | [a, b], [], .Tuple _ _ _ => if nsB a = true ∧ nsB b = true then (match (if fz = true then cE n kx a else cO n kx a), (if fz = true then cE n kx b else cO n kx b) with | some y, some z => some (.zip y z) | _, _ => none) else none
        | _, _, _ => none)
      else (cE n kx (.Call (.Name x p) es ks pos)).map .e) else (cE n kx (.Call (.Name x p) es ks pos)).map .e
  | n + 1, kx, fz, tg, e => match cellsOf e with
    | some x => if kx.vis x = true then (ixOf kx.N x).map .stc else none
    | none => (if fz = true then cE n kx e else cO n kx e).map .e
  | _, _, _, _, _ => none
end
end Dp
end

section
set_option Elab.async false
set_option linter.all false
set_option autoImplicit false
set_option maxRecDepth 100000
set_option maxHeartbeats 4000000
/-! Dp11: the terms are the syntax's: expressions. -/
namespace Dp
open PySem PySem.Spec PyProof.Rows L2

/-- what a global name's value is -/
def GlOk (g : Gd) (cc : Dp.C) (mg : Str → Option Value) (x : Str) : GV → Prop
  | .fn f => mg x = some (.ref (g.r.fa f))
  | .cls c => mg x = some (.ref (g.r.ca c))
  | .con i => ∃ v u, mg x = some u ∧ RelV v u ∧ ∀ F, Rep g.r F (cc.con i) v
  | .cau => True
structure RsOk (X : Cx) (C : Addr) : Prop where
  ex : ∃ (B newId initId : String) (bmB : List Value), ExcBaseFacts B newId initId bmB ∧ PySem.W.excIn X.K C bmB newId = true
  kp : PySem.W.keepIn X.K (.ref C) = true
  rs : Raises X (.ref C)
/-- the text's own classes: where they are made, what fields they have -/
structure ClOk (g : Gd) (cc : Dp.C) (cf : Nat → Option Nat) (K : PySem.W.Frag) : Prop where
  cf : ∀ f c, cf f = some c → g.r.fa f = g.r.ca c
  fk : ∀ c x, cc.fld c x < (g.r.fs c).length → (g.r.fs c)[cc.fld c x]? = some x ∧ (g.r.fs c).Nodup ∧ L2.Cls K (g.r.ca c) ∧ NoAttr K (g.r.ca c) x
structure XOk (g : Gd) (cc : Dp.C) (M : Lm g) (W : WX) (kx : Kx) (X : Cx) : Prop where
  cok : Cok g X
  kok : KOk g cc.G
  N : X.N = kx.N
  sc : X.env.scope = kx.sc
  fnf : ∀ x, kx.fn x = true → X.fn x = true
  tk : L2.Takes X W
  call : ∃ k, RoomI k X.A ∧ ∀ f, (∃ x, kx.gl.lookup x = some (.fn f)) → Cal g X.prog X.w X.K X.mg X.base k f (kx.np f) (cc.call f) (kx.kw f)
  gl : ∀ x v, kx.gl.lookup x = some v → GlOk g cc X.mg x v
  bl : ∀ x ∈ bls, kx.gl.lookup x = none → X.mg x = none
  rs : ∀ c, kx.rs c = true → RsOk X (g.r.ca c)
  st : StG g
  cl : ClOk g cc kx.cf X.K
  eqi : ∃ k, RoomI k X.A ∧ ∀ c f, c < cc.G.n → cc.G.eq c = some f → EqI g X.prog X.w X.K X.mg X.base k cc.G cc.call c f
  lmk : kx.lmOn = true → ∀ {n : Nat} {p : Arguments} {b : Expr} {scope : Scope} {pos : Pos} {e : E}, cE n (kx.lamb scope) b = some e → lamB kx p scope = true → PE X (.Lambda p b scope pos) (tD g M W false fun _ => .ret (.lm e))
  cau : kx.lmOn = true → ∀ {x : Str} {p pos : Pos} {a : Expr} {ta : Env → T D}, kx.gl.lookup x = some .cau → kx.glb x = true → nsB a = true → PE X a (tD g M W false ta) →
    PE X (.Call (.Name x p) [a] [] pos) (tD g M W false fun δ => (ta δ).bind fun d => match d with | .lm e => (cc.lam e δ).caught (fun c => decide (c < cc.G.n) && cc.G.exn c) | _ => .bad)
section
variable {g : Gd} {cc : Dp.C} {M : Lm g} {W : WX} {kx : Kx} {X : Cx}
theorem XOk.cmp (h : XOk g cc M W kx X) (o : CmpOp) : OpR X (compareOp o) (rOp g true (cmpK cc o)) := by
  obtain ⟨k, r, q⟩ := h.eqi
  exact cmp_K h.cok h.kok r q o
theorem XOk.kd (h : XOk g cc M W kx X) (x : Str) : X.env.scope.names.lookup x = kx.kd x := by rw [h.sc]; rfl
theorem XOk.ix (h : XOk g cc M W kx X) {x : Str} {i : Nat} (e : ixOf kx.N x = some i) : X.N[i]? = some x := by rw [h.N]; exact ixOf_ok e
theorem XOk.vis (h : XOk g cc M W kx X) {x : Str} (e : kx.vis x = true) : Vis X.env.scope x ∧ (x == ("__debug__" : Str)) = false ∧ (x == ("__classdict__" : Str)) = false := by
  unfold Kx.vis at e
  simp only [Bool.and_eq_true, Bool.not_eq_true'] at e
  obtain ⟨⟨a, b⟩, c⟩ := e
  refine ⟨?_, b, c⟩
  unfold Vis
  rw [h.kd x]
  split at a <;> simp_all
theorem XOk.loc (h : XOk g cc M W kx X) {x : Str} (e : kx.loc x = true) : L2.Loc X.env.scope x ∧ (X.fn x = true ∨ X.env.scope.names.lookup x = some .local) := by
  unfold Kx.loc at e
  unfold L2.Loc
  rw [h.kd x]
  split at e
  · rename_i q; exact ⟨.inl q, .inr q⟩
  · rename_i q; exact ⟨.inr q, .inl (h.fnf x e)⟩
  · cases e
theorem XOk.lcl (h : XOk g cc M W kx X) {x : Str} (e : kx.lcl x = true) : X.env.scope.names.lookup x = some .local := by
  unfold Kx.lcl at e
  rw [h.kd x]
  split at e
  · assumption
  · cases e
theorem XOk.glb (h : XOk g cc M W kx X) {x : Str} (e : kx.glb x = true) : Gl X x ∧ (x == ("__debug__" : Str)) = false ∧ x ≠ ("__name__" : Str) := by
  unfold Kx.glb at e
  simp only [Bool.and_eq_true, Bool.not_eq_true', decide_eq_false_iff_not] at e
  obtain ⟨⟨a, b⟩, c⟩ := e
  refine ⟨?_, b, c⟩
  show X.env.scope.names.lookup x = _
  rw [h.kd x]
  split at a
  · assumption
  · cases a
/-- in a comprehension's block -/
theorem XOk.blk (h : XOk g cc M W kx X) (s : Shared) (H : Hp) (scope : Scope) (C : Addr) (cl : List (Str × Addr)) (fp : List Addr) : XOk g cc M W0 (kx.blk scope) (X.blk s H scope (compEnvC scope cl C X.env) fp) := by
  refine ⟨⟨h.cok.ok, h.cok.K, h.cok.nd, h.cok.calm, h.cok.gds, h.cok.un⟩, h.kok, h.N, ?_, fun x e => e, takesF, h.call, h.gl, h.bl, fun c hc => ?_, h.st, h.cl, h.eqi, (fun z => by cases z), (fun z => by cases z)⟩
  · show relS scope X.env.scope = relS scope kx.sc
    rw [h.sc]
  · obtain ⟨a, b, c⟩ := h.rs c hc
    exact ⟨a, b, c⟩
end
/-! targets -/
theorem asg_map {e : Expr} {es : List Expr} {env : PySem.Env} (h : nsB e = true) : assignEach (e :: es) env = (false, assign e env) :: assignEach es env := by
  cases e <;> first | rfl | cases h
theorem asg_len {env : PySem.Env} : ∀ (es : List Expr), (assignEach es env).length = es.length
  | [] => rfl
  | e :: es => by cases e <;> exact congrArg Nat.succ (asg_len es)
theorem asg_star {env : PySem.Env} : ∀ {es : List Expr}, es.all nsB = true → (assignEach es env).findIdx? (·.1) = none
  | [], _ => rfl
  | e :: es, h => by
    rw [List.all_cons, Bool.and_eq_true] at h
    rw [asg_map h.1, List.findIdx?_cons]
    simp [asg_star h.2]
theorem tgt_ok (kx : Kx) (n : Nat) : (∀ {g : Gd} {cc : Dp.C} {M : Lm g} {W : WX} {X : Cx} {e : Expr} {t : Tg}, XOk g cc M W kx X → cG kx n e = some t → PG X e (gD g M t)) ∧
    (∀ {g : Gd} {cc : Dp.C} {M : Lm g} {W : WX} {X : Cx} {es : List Expr} {ts : List Tg}, XOk g cc M W kx X → cGs kx n es = some ts → PGs X es (gDs g M ts) ∧ es.all nsB = true ∧ es.length = ts.length) := by
  induction n with
  | zero =>
    refine ⟨fun {g cc M W X e t} k h => ?_, fun {g cc M W X es ts} k h => ?_⟩
    · cases e <;> (unfold cG at h; cases h)
    · cases es <;> (unfold cGs at h; cases h)
  | succ n ih =>
    refine ⟨fun {g cc M W X e t} k h => ?_, fun {g cc M W X es ts} k h => ?_⟩
    · cases e with
      | Name x p =>
        unfold cG at h
        split at h
        · rename_i hl
          split at h
          · cases h
          · cases q : ixOf kx.N x with
            | none => rw [q] at h; cases h
            | some i =>
              rw [q] at h; cases h
              exact g_n k.cok.nd (k.ix q) (k.loc hl).1 (k.loc hl).2
        · cases h
      | Tuple es kk p =>
        unfold cG at h
        cases q : cGs kx n es with
        | none => rw [q] at h; cases h
        | some ts =>
          rw [q] at h; cases h
          obtain ⟨a, b, c⟩ := ih.2 k q
          exact g_t k.cok a (by rw [asg_len, c]) (asg_star b)
      | _ => unfold cG at h; cases h
    · cases es with
      | nil => unfold cGs at h; cases h; exact ⟨g_nil, rfl, rfl⟩
      | cons e es =>
        unfold cGs at h
        split at h
        · rename_i hn
          split at h
          · rename_i t ts h1 h2
            cases h
            obtain ⟨a, b, c⟩ := ih.2 k h2
            exact ⟨g_cons (ih.1 k h1) a (by rw [asg_map hn]; rfl), by rw [List.all_cons, hn, b]; rfl, by simp [c]⟩
          · cases h
        · cases h
end Dp
end

section
set_option Elab.async false
set_option linter.all false
set_option autoImplicit false
set_option maxRecDepth 100000
set_option maxHeartbeats 4000000
/-! Dp12: the terms are the syntax's: expressions. -/
namespace Dp
open PySem PySem.Spec PyProof.Rows L2

structure Snd (n : Nat) : Prop where
  fE : ∀ {g : Gd} {cc : Dp.C} {M : Lm g} {W : WX} {kx : Kx} {X : Cx} {x : Expr} {e : E}, XOk g cc M W kx X → cE n kx x = some e → PE X x (tD g M W (fl e) (ev cc e))
  fO : ∀ {g : Gd} {cc : Dp.C} {M : Lm g} {W : WX} {kx : Kx} {X : Cx} {x : Expr} {e : E}, XOk g cc M W kx X → cO n kx x = some e → PE X x (tDB g M W (ev cc e))
  fT : ∀ {g : Gd} {cc : Dp.C} {M : Lm g} {W : WX} {kx : Kx} {X : Cx} {x : Expr} {e : E}, XOk g cc M W kx X → cT n kx x = some e → PT X x (tDT g M W fun δ => (ev cc e δ).bind asB)
  fWh : ∀ {g : Gd} {cc : Dp.C} {M : Lm g} {W : WX} {kx : Kx} {X : Cx} {op : BoolOp} {l : List Expr} {pos : Pos} {e : E}, XOk g cc M W kx X → cT n kx (.BoolOp op l pos) = some e → PW X (.BoolOp op l pos) (tDT g M W fun δ => (ev cc e δ).bind asB)
  fL : ∀ {g : Gd} {cc : Dp.C} {M : Lm g} {W : WX} {kx : Kx} {X : Cx} {xs : List Expr} {l : EL}, XOk g cc M W kx X → cL n kx xs = some l → PA X xs (tDA g M W xs.length (evs cc l)) ∧ xs.all nsB = true
  fB : ∀ {g : Gd} {cc : Dp.C} {M : Lm g} {W : WX} {kx : Kx} {X : Cx} {xs : List Expr} {l : EL}, XOk g cc M W kx X → cB n kx xs = some l → PA X xs (tDAB g M W (evs cc l)) ∧ xs.all nsB = true
  fK : ∀ {g : Gd} {cc : Dp.C} {M : Lm g} {W : WX} {kx : Kx} {X : Cx} {xs : List Keyword} {l : KL}, XOk g cc M W kx X → cK n kx xs = some l → PK X xs (tDA g M W xs.length (evk cc l))
  fQ : ∀ {g : Gd} {cc : Dp.C} {M : Lm g} {W : WX} {kx : Kx} {X : Cx} {x : Option Expr} {e : EO}, XOk g cc M W kx X → cQ n kx x = some e → PO X x (tDO g M W (evo cc e))
  fCc : ∀ {g : Gd} {cc : Dp.C} {M : Lm g} {W : WX} {kx : Kx} {X : Cx} {xs : List Expr} {e : EO}, XOk g cc M W kx X → cC n kx xs = some e → PTs X xs (tDT g M W (evc cc e))
  fI : ∀ {g : Gd} {cc : Dp.C} {M : Lm g} {W : WX} {kx : Kx} {X : Cx} {fz : Bool} {tg x : Expr} {s : Src}, XOk g cc M W kx X → cI n kx fz tg x = some s → PI X tg x (iD g M W fz (evsrc cc s))
theorem omap {α β : Type} {o : Option α} {f : α → β} {b : β} (h : o.map f = some b) : ∃ a, o = some a ∧ f a = b := by
  cases o with
  | none => cases h
  | some a => exact ⟨a, rfl, by cases h; rfl⟩
section
variable {g : Gd} {cc : Dp.C} {M : Lm g} {W : WX} {kx : Kx} {X : Cx} {n : Nat}
theorem snd0 : Snd 0 := by
  constructor
  · intro g cc M W kx X x e _ h; unfold cE at h; cases h
  · intro g cc M W kx X x e _ h; unfold cO at h; cases h
  · intro g cc M W kx X x e _ h; unfold cT at h; cases h
  · intro g cc M W kx X x l p e _ h; unfold cT at h; cases h
  · intro g cc M W kx X x e _ h; unfold cL at h; cases h
  · intro g cc M W kx X x e _ h; unfold cB at h; cases h
  · intro g cc M W kx X x e _ h; unfold cK at h; cases h
  · intro g cc M W kx X x e _ h; unfold cQ at h; cases h
  · intro g cc M W kx X x e _ h; unfold cC at h; cases h
  · intro g cc M W kx X fz tg x e _ h; unfold cI at h; cases h
theorem snd_L (S : Snd n) {xs : List Expr} {l : EL} (k : XOk g cc M W kx X) (h : cL (n + 1) kx xs = some l) : PA X xs (tDA g M W xs.length (evs cc l)) ∧ xs.all nsB = true := by
  cases xs with
  | nil => unfold cL at h; cases h; exact ⟨a_nil, rfl⟩
  | cons x xs =>
    unfold cL at h
    split at h
    · rename_i hn
      split at h
      · rename_i e l h1 h2
        cases h
        obtain ⟨a, b⟩ := S.fL k h2
        exact ⟨a_cons (frzO k.cok.ok (S.fE k h1)) a (star_cons hn), by rw [List.all_cons, hn, b]; rfl⟩
      · cases h
    · cases h
theorem snd_B (S : Snd n) {xs : List Expr} {l : EL} (k : XOk g cc M W kx X) (h : cB (n + 1) kx xs = some l) : PA X xs (tDAB g M W (evs cc l)) ∧ xs.all nsB = true := by
  cases xs with
  | nil => unfold cB at h; cases h; exact ⟨b_nil, rfl⟩
  | cons x xs =>
    unfold cB at h
    split at h
    · rename_i hn
      split at h
      · rename_i e l h1 h2
        cases h
        obtain ⟨a, b⟩ := S.fB k h2
        exact ⟨b_cons (S.fO k h1) a (star_cons hn), by rw [List.all_cons, hn, b]; rfl⟩
      · cases h
    · cases h
theorem snd_K (S : Snd n) {xs : List Keyword} {l : KL} (k : XOk g cc M W kx X) (h : cK (n + 1) kx xs = some l) : PK X xs (tDA g M W xs.length (evk cc l)) := by
  cases xs with
  | nil => unfold cK at h; cases h; exact k_nil
  | cons x xs =>
    obtain ⟨nm, e, p⟩ := x
    cases nm with
    | none => unfold cK at h; cases h
    | some nm =>
      unfold cK at h
      split at h
      · rename_i e l h1 h2
        cases h
        exact k_cons (frzO k.cok.ok (S.fE k h1)) (S.fK k h2)
      · cases h
theorem snd_Q (S : Snd n) {x : Option Expr} {e : EO} (k : XOk g cc M W kx X) (h : cQ (n + 1) kx x = some e) : PO X x (tDO g M W (evo cc e)) := by
  cases x with
  | none => unfold cQ at h; cases h; exact o_no
  | some x =>
    unfold cQ at h
    obtain ⟨a, h1, rfl⟩ := omap h
    exact o_e (S.fO k h1)
theorem snd_C (S : Snd n) {xs : List Expr} {e : EO} (k : XOk g cc M W kx X) (h : cC (n + 1) kx xs = some e) : PTs X xs (tDT g M W (evc cc e)) := by
  cases xs with
  | nil => unfold cC at h; cases h; exact c_nil
  | cons x xs =>
    cases xs with
    | nil =>
      unfold cC at h
      obtain ⟨a, h1, rfl⟩ := omap h
      exact pts_one (S.fT k h1)
    | cons y ys => unfold cC at h; cases h
theorem snd_O (S : Snd n) {x : Expr} {e : E} (k : XOk g cc M W kx X) (h : cO (n + 1) kx x = some e) : PE X x (tDB g M W (ev cc e)) := by
  unfold cO at h
  split at h
  · rename_i y hy
    split at h
    · rename_i hz
      obtain ⟨i, h1, rfl⟩ := omap h
      cases x with
      | Name z p =>
        unfold nmOf at hy; cases hy
        obtain ⟨a, b, c⟩ := k.vis hz.1
        exact s_bor (k.ix h1) a b c
      | _ => unfold nmOf at hy; cases hy
    · exact toBE k.cok.ok (S.fE k h)
  · exact toBE k.cok.ok (S.fE k h)
theorem snd_W (S : Snd n) {op : BoolOp} {l : List Expr} {pos : Pos} {e : E} (k : XOk g cc M W kx X) (h : cT (n + 1) kx (.BoolOp op l pos) = some e) : PW X (.BoolOp op l pos) (tDT g M W fun δ => (ev cc e δ).bind asB) := by
  cases l with
  | nil => cases op <;> (unfold cT at h; simp [tvB] at h)
  | cons a l =>
    cases l with
    | nil =>
      cases op with
      | And => unfold cT at h; obtain ⟨x, h1, rfl⟩ := omap h; exact t_and1 (S.fT k h1)
      | Or => unfold cT at h; obtain ⟨x, h1, rfl⟩ := omap h; exact t_or1 (S.fT k h1)
    | cons r l =>
      cases op with
      | And =>
        unfold cT at h
        split at h
        · rename_i x y h1 h2; cases h; exact t_and (S.fT k h1) (S.fWh k h2)
        · cases h
      | Or =>
        unfold cT at h
        split at h
        · rename_i x y h1 h2; cases h; exact t_or (S.fT k h1) (S.fWh k h2)
        · cases h
theorem snd_T (S : Snd n) {x : Expr} {e : E} (k : XOk g cc M W kx X) (h : cT (n + 1) kx x = some e) : PT X x (tDT g M W fun δ => (ev cc e δ).bind asB) := by
  unfold cT at h
  split at h
  all_goals (try (have hh := Nat.succ.inj (by assumption : n + 1 = _ + 1); subst hh))
  · split at h
    · cases h
    · rename_i hm
      split at h
      · rename_i x y h1 h2
        cases h
        exact t_cmp k.cok (k.cmp _) (S.fO k h1) (S.fO k h2) (by simpa using hm)
      · cases h
  · split at h
    · cases h
    · rename_i hm
      split at h
      · rename_i x y z h1 h2 h3
        cases h
        exact t_cmp2 k.cok (S.fO k h1) (S.fO k h2) (S.fO k h3) (by simpa using hm)
      · cases h
  · obtain ⟨x, h1, rfl⟩ := omap h; exact t_not (S.fT k h1)
  · exact (snd_W S (op := .And) k (by unfold cT; exact h)).pt
  · exact (snd_W S (op := .Or) k (by unfold cT; exact h)).pt
  · exact (snd_W S (op := .And) k (by unfold cT; exact h)).pt
  · exact (snd_W S (op := .Or) k (by unfold cT; exact h)).pt
  · split at h
    · rename_i ht
      exact t_val (o := false) (S.fO k h) (tv_ok ht)
    · cases h
  · cases h
end
end Dp
end

section
set_option Elab.async false
set_option linter.all false
set_option autoImplicit false
set_option maxRecDepth 100000
set_option maxHeartbeats 4000000
/-! Dp13: the terms are the syntax's: calls, values. -/
namespace Dp
open PySem PySem.Spec PyProof.Rows L2
section
variable {g : Gd} {cc : Dp.C} {M : Lm g} {W : WX} {kx : Kx} {X : Cx} {n : Nat}
theorem star_one {e : Expr} {env : PySem.Env} (h : nsB e = true) : starEach [e] env = [(false, eval e env)] := star_cons h
theorem bls_mem : ("isinstance" : Str) ∈ bls ∧ ("range" : Str) ∈ bls ∧ ("enumerate" : Str) ∈ bls ∧ ("zip" : Str) ∈ bls ∧ ("tuple" : Str) ∈ bls ∧ ("list" : Str) ∈ bls := by decide +kernel
theorem snd_I (S : Snd n) {fz : Bool} {tg x : Expr} {s : Src} (k : XOk g cc M W kx X) (h : cI (n + 1) kx fz tg x = some s) : PI X tg x (iD g M W fz (evsrc cc s)) := by
  have plain : ∀ {x : Expr}, (if fz = true then cE n kx x else cO n kx x).map Src.e = some s → PI X tg x (iD g M W fz (evsrc cc s)) := fun {x} h => by
    obtain ⟨e, h1, rfl⟩ := omap h
    cases fz with
    | true => exact i_ef k.cok (frzO k.cok.ok (S.fE k h1))
    | false => exact i_e k.cok (S.fO k h1)
  have plain2 : ∀ {x : Expr}, (cE n kx x).map Src.e = some s → PI X tg x (iD g M W fz (evsrc cc s)) := fun {x} h => by
    obtain ⟨e, h1, rfl⟩ := omap h
    cases fz with
    | true => exact i_ef k.cok (frzO k.cok.ok (S.fE k h1))
    | false => exact i_e k.cok (toBE k.cok.ok (S.fE k h1))
  have opS : ∀ {x : Expr} {e : E}, (if fz = true then cE n kx x else cO n kx x) = some e → PE X x (tS g M W fz (ev cc e)) := fun {x e} h => by
    cases fz with
    | true => exact frzO k.cok.ok (S.fE k h)
    | false => exact S.fO k h
  unfold cI at h
  split at h
  all_goals (try (have hh := Nat.succ.inj (by assumption : n + 1 = _ + 1); subst hh))
  · split at h
    · rename_i hg
      obtain ⟨g1, g2, g3⟩ := k.glb hg.1
      have hb := fun hx => k.bl _ hx hg.2
      split at h
      · rename_i hx; subst hx
        split at h
        · split at h
          · rename_i hn
            obtain ⟨e, h1, rfl⟩ := omap h
            exact i_rng1 g1 (hb bls_mem.2.1) (S.fO k h1) (star_one hn)
          · cases h
        · split at h
          · rename_i hn
            split at h
            · rename_i y z h1 h2
              cases h
              exact i_rng2 g1 (hb bls_mem.2.1) (S.fO k h1) (S.fO k h2) (by rw [star_cons hn.1, star_one hn.2]) (star_one hn.2)
            · cases h
          · cases h
        · cases h
      · split at h
        · rename_i hx; subst hx
          split at h
          · split at h
            · rename_i hn
              obtain ⟨e, h1, rfl⟩ := omap h
              exact i_enum k.cok g1 (hb bls_mem.2.2.1) (opS h1) (star_one hn)
            · cases h
          · cases h
        · split at h
          · rename_i hx; subst hx
            split at h
            · split at h
              · rename_i hn
                split at h
                · rename_i y z h1 h2
                  cases h
                  refine i_zip k.cok g1 (hb bls_mem.2.2.2.1) (opS h1) (opS h2) (star_cons hn.1) (star_one hn.2) (star_any (es := [_]) ?_)
                  simp [hn.2]
                · cases h
              · cases h
            · cases h
          · exact plain2 h
    · exact plain2 h
  · split at h
    · rename_i y hy
      split at h
      · rename_i hv
        obtain ⟨i, h1, rfl⟩ := omap h
        obtain ⟨a, b, c⟩ := k.vis hv
        unfold cellsOf at hy
        split at hy
        · split at hy
          · rename_i hk
            cases hy; subst hk
            exact i_stc k.cok k.st (k.ix h1) a b c
          · cases hy
        · cases hy
      · cases h
    · exact plain h
  · cases h
theorem kwB_len : ∀ {ks : List Keyword} {l : List Str}, kwB ks l = true → l.length = ks.length
  | [], [], _ => rfl
  | [], _ :: _, h => by cases h
  | ⟨none, _, _⟩ :: _, _, h => by cases h
  | ⟨some x, e, p⟩ :: r, [], h => by cases h
  | ⟨some x, e, p⟩ :: r, y :: l, h => by
    rw [kwB, Bool.and_eq_true] at h
    simp [kwB_len h.2]
theorem isRg_ok {es : List Expr} (h : isRg kx es = true) : ∃ p as pos, es = [.Call (.Name "range" p) as [] pos] ∧ kx.glb "range" = true ∧ kx.gl.lookup ("range" : Str) = none ∧ as.all nsB = true := by
  unfold isRg at h
  split at h
  · simp only [Bool.and_eq_true, decide_eq_true_eq] at h
    obtain ⟨⟨⟨rfl, h2⟩, h3⟩, h4⟩ := h
    exact ⟨_, _, _, rfl, h2, by simpa using h3, h4⟩
  · cases h
theorem tyAt_ok {te : Expr} {t : Ty} (k : XOk g cc M W kx X) (h : tyAt kx te = some t) : PE X te (tC (tyV g t)) := by
  unfold tyAt at h
  split at h
  · split at h
    · rename_i x p hg
      obtain ⟨g1, g2, g3⟩ := k.glb hg
      split at h
      · rename_i c hc
        cases h
        exact pe_glob g1 (k.gl _ _ hc) rfl g2
      · rename_i f hf
        cases q : kx.cf f with
        | none => rw [q] at h; cases h
        | some c =>
          rw [q] at h
          cases h
          have e := k.cl.cf f c q
          have e2 : X.mg x = some (.ref (g.r.ca c)) := by rw [← e]; exact k.gl _ _ hf
          exact pe_glob g1 e2 rfl g2
      · rename_i hn
        obtain ⟨nm, b1, b2, b3⟩ := tyOf_ok (g := g) h
        rw [b2]
        exact pe_bltn g1 (k.bl _ b3 hn) b1 rfl g3 g2
      · cases h
    · cases h
  · cases h
theorem snd_call (S : Snd n) {x : Str} {p pos : Pos} {es : List Expr} {ks : List Keyword} {e : E} (k : XOk g cc M W kx X) (h : cE (n + 1) kx (.Call (.Name x p) es ks pos) = some e) : PE X (.Call (.Name x p) es ks pos) (tD g M W (fl e) (ev cc e)) := by
  unfold cE at h
  split at h
  · rename_i hg
    obtain ⟨g1, g2, g3⟩ := k.glb hg
    split at h
    · rename_i f hf
      obtain ⟨lv, ⟨room, _⟩, cal⟩ := k.call
      have cal := cal f ⟨x, hf⟩
      split at h
      · rename_i hn
        split at h
        · split at h
          · rename_i hl
            obtain ⟨l, h1, rfl⟩ := omap h
            obtain ⟨a, b⟩ := S.fL k h1
            cases es with
            | nil =>
              rw [show kx.np f = 0 from hl.symm] at cal
              have e0 : l = .nil := by
                cases n with
                | zero => unfold cL at h1; cases h1
                | succ n => unfold cL at h1; cases h1; rfl
              subst e0
              exact s_call0 k.cok room k.tk cal g1 (k.gl _ _ hf) g2
            | cons e es =>
              rw [← hl] at cal
              exact s_call k.cok room k.tk cal g1 (k.gl _ _ hf) g2 a b
          · cases h
        · split at h
          · rename_i l z en h1 h2 h3
            split at h
            · rename_i hp
              cases h
              obtain ⟨a, b⟩ := S.fL k h1
              have hm := List.mem_of_find?_eq_some h3
              have hq := List.find?_some h3
              simp only [Bool.and_eq_true, decide_eq_true_eq] at hq
              obtain ⟨m, ks', pm⟩ := en
              obtain ⟨q1, q2⟩ := hq
              dsimp only at q1 q2 hp
              subst q1
              refine s_callk k.cok room k.tk cal g1 (k.gl _ _ hf) g2 ?_ hn (S.fK k h2) q2 ?_ hm hp
              · cases es with
                | nil =>
                  refine .inl ⟨rfl, rfl, ?_⟩
                  have e0 : l = .nil := by
                    cases n with
                    | zero => unfold cL at h1; cases h1
                    | succ n => unfold cL at h1; cases h1; rfl
                  subst e0
                  rfl
                | cons e r => exact .inr ⟨e, r, rfl, a⟩
              · exact kwB_len q2
            · cases h
          · cases h
      · cases h
    · rename_i hf
      have hb := fun hx => k.bl x hx hf
      split at h
      · rename_i hn
        split at h
        · split at h
          · rename_i hx; subst hx
            split at h
            · split at h
              · rename_i a te y t h1 h2
                cases h
                simp only [List.all_cons, List.all_nil, Bool.and_true, Bool.and_eq_true] at hn
                exact s_isi k.cok k.kok g1 (hb bls_mem.1) (S.fO k h1) (tyAt_ok k h2) (star_cons hn.1) (star_one hn.2) (star_any (es := [_]) (by simp [hn.2]))
              · cases h
            · cases h
          · split at h
            · rename_i hx
              obtain ⟨rp, as, rpos, e1, e2, e3, e4⟩ := isRg_ok hx.2
              obtain ⟨r1, r2, r3⟩ := k.glb e2
              have hr := k.bl _ bls_mem.2.1 e3
              have hmx : X.mg x = none := by
                rcases hx.1 with rfl | rfl
                · exact hb bls_mem.2.2.2.2.1
                · exact hb bls_mem.2.2.2.2.2
              have hxx : x = Str.ofString (if decide (x = ("tuple" : Str)) = true then "tuple" else "list") := by
                rcases hx.1 with rfl | rfl
                · decide +kernel
                · decide +kernel
              subst e1
              split at h
              · rename_i q
                cases q
                obtain ⟨y, h1, rfl⟩ := omap h
                simp only [List.all_cons, List.all_nil, Bool.and_true] at e4
                exact s_seqR1 k.cok hxx g1 hmx r1 hr (S.fO k h1) (star_one e4) (fun _ _ => rfl)
              · rename_i q
                cases q
                split at h
                · rename_i y z h1 h2
                  cases h
                  simp only [List.all_cons, List.all_nil, Bool.and_true, Bool.and_eq_true] at e4
                  exact s_seqR2 k.cok hxx g1 hmx r1 hr (S.fO k h1) (S.fO k h2) (by rw [star_cons e4.1]) (star_one e4.2) (star_any (es := [_]) (by simp [e4.2])) (fun _ _ => rfl)
                · cases h
              · cases h
            · split at h
              · rename_i b e es hbi _
                obtain ⟨y, h1, rfl⟩ := omap h
                obtain ⟨b1, b2⟩ := biOf_ok hbi
                obtain ⟨a, c⟩ := S.fB k h1
                rw [List.all_cons, Bool.and_eq_true] at c
                exact s_bi k.cok g1 (hb b2) b1 a g3 g2 (star_cons c.1) (star_any c.2)
              · cases h
        · cases h
      · cases h
    · rename_i hf
      split at h
      · split at h
        · rename_i hn
          obtain ⟨y, h1, rfl⟩ := omap h
          exact k.cau hn.1 hf hg hn.2 (frzO k.cok.ok (S.fE k h1))
        · cases h
      · cases h
    · cases h
  · split at h
    · rename_i hx
      obtain ⟨hv, ho, hn, rfl⟩ := hx
      split at h
      · rename_i i l h1 h2
        cases h
        obtain ⟨a, b, c⟩ := k.vis hv
        obtain ⟨q1, q2⟩ := S.fL k h2
        obtain ⟨lv, ⟨room, _⟩, cal⟩ := k.call
        refine s_cv (call := cc.call) (kws := kx.kw) k.cok room k.tk (fun f hf => ?_) (s_var (k.ix h1) a b c) (fun δ d hd => ?_) q1 q2
        · obtain ⟨hx, hnp⟩ := cands_ok hf
          have := cal f hx
          rw [hnp] at this
          exact this
        · show (match look δ i with | .v d => T.ret d | .ot l => .ret (.tup l) | _ => .bad) = _
          rw [hd]
      · cases h
    · cases h
theorem snd_lc (S : Snd n) {x : Expr} {gs : List Comprehension} (hgs : gs.length = 1) {sc : Scope} {pos : Pos} {e : E} (k : XOk g cc M W kx X) (h : cE (n + 1) kx (.ListComp x gs sc pos) = some e) :
    ∃ tg it ifs s t c y, gs = [⟨tg, it, ifs, 0⟩] ∧ e = .lc (ownOf kx sc.names) t s c y ∧ PI X tg it (iD g M W false (evsrc cc s)) ∧ BlkOk X.N X.env.scope sc (ownOf kx sc.names) ∧ (∀ j ∈ slotsT t, j ∈ (ownOf kx sc.names).map (·.2)) ∧
    (∀ (s : Shared) (H : Hp) (C : Addr) (cl : List (Str × Addr)) (fp : List Addr), PG (X.blk s H sc (compEnvC sc cl C X.env) fp) tg (gD g M t)) ∧
    (∀ (s : Shared) (H : Hp) (C : Addr) (cl : List (Str × Addr)) (fp : List Addr), PTs (X.blk s H sc (compEnvC sc cl C X.env) fp) ifs (tDT g M W0 (evc cc c))) ∧
    (∀ (s : Shared) (H : Hp) (C : Addr) (cl : List (Str × Addr)) (fp : List Addr), PE (X.blk s H sc (compEnvC sc cl C X.env) fp) x (tD g M W0 false (ev cc y))) ∧ ∀ x, foldedSetIterable it X.env x = pure x := by
  unfold cE at h
  split at h
  all_goals (try (rename_i q1 q2; cases q2))
  all_goals (try (cases h; done))
  all_goals (try (cases hgs; done))
  have hh := Nat.succ.inj q1
  subst hh
  split at h
  · rename_i hz
    split at h
    · rename_i s t c y h1 h2 h3 h4
      split at h
      · rename_i hs
        cases h
        refine ⟨_, _, _, s, t, c, y, rfl, rfl, S.fI k h1, ?_, fun j hj => ?_, fun s' H C cl fp => (tgt_ok _ n).1 (k.blk s' H sc C cl fp) h2, fun s' H C cl fp => S.fCc (k.blk s' H sc C cl fp) h3, fun s' H C cl fp => frzO k.cok.ok (S.fE (k.blk s' H sc C cl fp) h4), notSet_ok hz.2⟩
        · rw [k.N, k.sc]; exact blkOk_by hz.1
        · have := List.all_eq_true.mp hs j hj
          simpa using this
      · cases h
    · cases h
  · cases h
theorem snd_lc2 (S : Snd n) {x : Expr} {gs : List Comprehension} (hgs : gs.length ≠ 1) {sc : Scope} {pos : Pos} {e : E} (k : XOk g cc M W kx X) (h : cE (n + 1) kx (.ListComp x gs sc pos) = some e) :
    ∃ tg it tg1 it1 ifs s t s2 t2 c y, gs = [⟨tg, it, [], 0⟩, ⟨tg1, it1, ifs, 0⟩] ∧ e = .lc2 (ownOf kx sc.names) t s t2 s2 c y ∧ PI X tg it (iD g M W false (evsrc cc s)) ∧ BlkOk X.N X.env.scope sc (ownOf kx sc.names) ∧ (∀ j ∈ slotsT t, j ∈ (ownOf kx sc.names).map (·.2)) ∧ (∀ j ∈ slotsT t2, j ∈ (ownOf kx sc.names).map (·.2)) ∧
    (∀ (s : Shared) (H : Hp) (C : Addr) (cl : List (Str × Addr)) (fp : List Addr), PG (X.blk s H sc (compEnvC sc cl C X.env) fp) tg (gD g M t)) ∧
    (∀ (s : Shared) (H : Hp) (C : Addr) (cl : List (Str × Addr)) (fp : List Addr), PI (X.blk s H sc (compEnvC sc cl C X.env) fp) tg1 it1 (iD g M W0 true (evsrc cc s2))) ∧
    (∀ (s : Shared) (H : Hp) (C : Addr) (cl : List (Str × Addr)) (fp : List Addr), PG (X.blk s H sc (compEnvC sc cl C X.env) fp) tg1 (gD g M t2)) ∧
    (∀ (s : Shared) (H : Hp) (C : Addr) (cl : List (Str × Addr)) (fp : List Addr), PTs (X.blk s H sc (compEnvC sc cl C X.env) fp) ifs (tDT g M W0 (evc cc c))) ∧
    (∀ (s : Shared) (H : Hp) (C : Addr) (cl : List (Str × Addr)) (fp : List Addr), PE (X.blk s H sc (compEnvC sc cl C X.env) fp) x (tD g M W0 false (ev cc y))) ∧ (∀ x, foldedSetIterable it X.env x = pure x) ∧ ∀ env x, foldedSetIterable it1 env x = pure x := by
  unfold cE at h
  split at h
  all_goals (try (rename_i q1 q2; cases q2))
  all_goals (try (cases h; done))
  all_goals (try (exact absurd rfl hgs))
  have hh := Nat.succ.inj q1
  subst hh
  split at h
  · rename_i hz
    split at h
    · rename_i s t s2 t2 c y h1 h2 h3 h4 h5 h6
      split at h
      · rename_i hs
        cases h
        refine ⟨_, _, _, _, _, s, t, s2, t2, c, y, rfl, rfl, S.fI k h1, ?_, fun j hj => ?_, fun j hj => ?_, fun s' H C cl fp => (tgt_ok _ n).1 (k.blk s' H sc C cl fp) h2, fun s' H C cl fp => S.fI (k.blk s' H sc C cl fp) h3, fun s' H C cl fp => (tgt_ok _ n).1 (k.blk s' H sc C cl fp) h4, fun s' H C cl fp => S.fCc (k.blk s' H sc C cl fp) h5, fun s' H C cl fp => frzO k.cok.ok (S.fE (k.blk s' H sc C cl fp) h6), notSet_ok hz.2.1, fun env x => notSet_ok hz.2.2 x⟩
        · rw [k.N, k.sc]; exact blkOk_by hz.1
        · have := List.all_eq_true.mp hs.1 j hj
          simpa using this
        · have := List.all_eq_true.mp hs.2 j hj
          simpa using this
      · cases h
    · cases h
  · cases h
theorem zipL {α β : Type} [BEq α] [LawfulBEq α] : ∀ {ks : List α} {vs : List β} {i : Nat} {k : α} {v : β}, ks.Nodup → ks[i]? = some k → vs[i]? = some v → (ks.zip vs).lookup k = some v
  | [], _, _, _, _, _, h, _ => by simp at h
  | _ :: _, [], _, _, _, _, _, h => by simp at h
  | k :: ks, v :: vs, 0, k', v', nd, h1, h2 => by
    simp at h1 h2; subst h1; subst h2
    simp [List.lookup]
  | k :: ks, v :: vs, i + 1, k', v', nd, h1, h2 => by
    obtain ⟨nk, nd⟩ := List.nodup_cons.mp nd
    have h1 : ks[i]? = some k' := by simpa using h1
    have hx : k' ∈ ks := List.mem_of_getElem? h1
    have ne : (k' == k) = false := beq_eq_false_iff_ne.mpr fun z => nk (z ▸ hx)
    rw [List.zip_cons_cons, List.lookup_cons, ne]
    exact zipL (i := i) nd h1 (by simpa using h2)
theorem s_fld {x f : Str} {p pos : Pos} {ta : Env → T D} (k : XOk g cc M W kx X) (ha : PE X (.Name x p) (tD g M W false ta)) :
    PE X (.Attribute (.Name x p) f pos) (tD g M W false fun δ => (ta δ).bind fun o => match o with | .ins c l => (match l[cc.fld c f]? with | some d => .ret d | none => .bad) | _ => .bad) := by
  refine ⟨fun pins s σ H Q I ⟨nn, H0, F, δ, A, w⟩ => (pe_fld ha rfl).run pins s σ H Q I ⟨_, H0, F, δ, A, T.wp_mono (fun _ d wd v F1 H1 s1 r1 => ?_) (fun _ _ _ h => h) (T.wp_bind.mp w)⟩⟩
  have r1 : Rep g.r F1 d v := by cases d <;> exact r1
  cases d with
  | ins c l =>
    unfold Rep at r1
    obtain ⟨p, dx, xs, rfl, hp, hlen, hr⟩ := r1
    have wd : T.wp _ (match l[cc.fld c f]? with | some d => T.ret d | none => T.bad) (fun k d => ∀ v F' H', Step g F H k F' H' → Post g false F' H H' d v → Q v H') (wX g W F H σ) := wd
    cases q : l[cc.fld c f]? with
    | none => rw [q] at wd; exact wd.elim
    | some d =>
      rw [q] at wd
      have hl := hr.len
      have hlt : cc.fld c f < (g.r.fs c).length := by
        have := (List.getElem?_eq_some_iff.mp q).1
        omega
      obtain ⟨e1, nd, hc, na⟩ := k.cl.fk c f hlt
      obtain ⟨v, e2, rv⟩ := hr.get q
      refine ⟨p, g.r.ca c, dx, _, v, rfl, s1.frz _ _ hp, hc, na, zipL nd e1 e2, ?_⟩
      exact wd v F1 H1 s1 (Post.of rv)
  | _ => exact False.elim wd
theorem snd_E (S : Snd n) {x : Expr} {e : E} (k : XOk g cc M W kx X) (h : cE (n + 1) kx x = some e) : PE X x (tD g M W (fl e) (ev cc e)) := by
  have h0 := h
  unfold cE at h
  split at h
  all_goals (try (have hh := Nat.succ.inj (by assumption : n + 1 = _ + 1); subst hh))
  · cases h; exact s_ret pe_non fun _ => Rep.non
  · cases h; exact s_ret pe_bl fun _ => Rep.bl _
  · cases h; exact s_ret pe_int fun _ => Rep.int _
  · cases h; exact s_ret pe_str fun _ => Rep.str _
  · split at h
    · rename_i hv
      split at h
      · cases h
      · obtain ⟨i, h1, rfl⟩ := omap h
        obtain ⟨a, b, c⟩ := k.vis hv
        exact s_var (k.ix h1) a b c
    · split at h
      · rename_i hg
        obtain ⟨g1, g2, g3⟩ := k.glb hg
        split at h
        · rename_i i hi
          cases h
          obtain ⟨v, u, m1, m2, m3⟩ := k.gl _ _ hi
          exact s_ret (pe_glob g1 m1 m2 g2) m3
        · rename_i f hi
          cases h
          exact s_ret (pe_glob g1 (k.gl _ _ hi) (show L2.RelV (.ref (g.r.fa f)) _ from rfl) g2) (fun F => by show Rep _ _ (.fn f) (.ref (g.r.fa f)); unfold Rep; rfl)
        · cases h
      · cases h
  · split at h
    · rename_i hl
      obtain ⟨l, h1, rfl⟩ := omap h
      exact s_tup k.cok (S.fL k h1).1 hl
    · cases h
  · split at h
    · rename_i hl
      obtain ⟨l, h1, rfl⟩ := omap h
      exact s_lst k.cok (S.fL k h1).1 hl
    · cases h
  · cases h; exact s_dct k.cok
  · split at h
    · rename_i x y h1 h2
      cases h
      exact s_op k.cok (S.fO k h1) (S.fO k h2)
    · cases h
  · obtain ⟨y, h1, rfl⟩ := omap h
    exact s_neg k.cok (S.fO k h1)
  · obtain ⟨y, h1, rfl⟩ := omap h
    exact s_not (S.fO k h1)
  · split at h
    · cases h
    · rename_i hm
      split at h
      · rename_i x y h1 h2
        cases h
        exact s_cmp k.cok (k.cmp _) (S.fO k h1) (S.fO k h2) (by simpa using hm)
      · cases h
  · split at h
    · cases h
    · rename_i hm
      split at h
      · rename_i x y z h1 h2 h3
        cases h
        exact s_cmp2 k.cok (S.fO k h1) (S.fO k h2) (S.fO k h3) (by simpa using hm)
      · cases h
  · obtain ⟨y, h1, rfl⟩ := omap h; exact s_one (S.fO k h1)
  · obtain ⟨y, h1, rfl⟩ := omap h; exact s_one (S.fO k h1)
  · split at h
    · rename_i x y h1 h2
      cases h
      exact s_and k.cok (S.fO k h1) (frzO k.cok.ok (S.fE k h2))
    · cases h
  · split at h
    · rename_i x y h1 h2
      cases h
      exact s_or k.cok (S.fO k h1) (frzO k.cok.ok (S.fE k h2))
    · cases h
  · split at h
    · rename_i y hy
      split at h
      · rename_i hv
        split at h
        · rename_i i z h1 h2
          cases h
          obtain ⟨a, b, c⟩ := k.vis hv
          unfold nxOf at hy
          split at hy
          · split at hy
            · rename_i hk
              obtain ⟨e1, e2, e3, e4, e5⟩ := hk
              cases hy; subst e1 e2 e3 e4
              exact s_stnx k.cok k.st (k.ix h1) a b c (frzO k.cok.ok (S.fE k h2)) e5
            · cases hy
          · cases hy
        · cases h
      · cases h
    · split at h
      · rename_i x y z h1 h2 h3
        cases h
        exact s_ite k.cok (S.fT k h1) (frzO k.cok.ok (S.fE k h2)) (frzO k.cok.ok (S.fE k h3))
      · cases h
  · split at h
    · rename_i x y z h1 h2 h3
      cases h
      exact s_sl k.cok (S.fO k h1) (S.fQ k h2) (S.fQ k h3)
    · cases h
  · obtain ⟨y, h1, rfl⟩ := omap h
    exact s_rev k.cok (frzO k.cok.ok (S.fE k h1)) (frzO (o := true) k.cok.ok (s_neg k.cok (ta := fun _ => .ret (.int 1)) (imE pe_int fun σ H Q ⟨_, _, F, _, A, w⟩ => w (.int 1) F H A.now (show Rep g.r F (.int 1) (.int 1) from Rep.int 1))))
  · cases h; exact ⟨fun _ _ _ _ _ _ ⟨_, _, _, _, _, w⟩ => w.elim⟩
  · split at h
    · rename_i y hy
      split at h
      · rename_i hv
        obtain ⟨i, h1, rfl⟩ := omap h
        obtain ⟨a, b, c⟩ := k.vis hv
        unfold leftOf at hy
        split at hy
        · split at hy
          · rename_i hk
            cases hy; subst hk
            exact s_stv k.cok k.st (k.ix h1) a b c
          · cases hy
        · cases hy
      · cases h
    · split at h
      · rename_i hp
        split at h
        · rename_i x y h1 h2
          cases h
          exact s_ix k.cok (S.fO k h1) (S.fO k h2) (plainIx_ok hp)
        · cases h
      · cases h
  · obtain ⟨tg, it, ifs, s, t, c, y, e1, rfl, a1, a2, a3, a4, a5, a6, a7⟩ := snd_lc S rfl k h0
    cases e1
    exact s_lc k.cok a1 a2 a3 a4 a5 a6 a7
  · obtain ⟨tg, it, tg1, it1, ifs, s, t, s2, t2, c, y, e1, rfl, a1, a2, a3, a3', a4, a4i, a4', a5, a6, a7, a8⟩ := snd_lc2 S (by intro z; cases z) k h0
    cases e1
    exact s_lc2 k.cok a1 a2 a3 a3' a4 (fun _ _ _ _ _ => c_nil) a4i a4' a5 a6 a7 a8
  · obtain ⟨y, h1, rfl⟩ := omap h
    exact s_fld k (frzO k.cok.ok (S.fE k h1))
  · exact snd_call S k h0
  · split at h
    · rename_i hz
      obtain ⟨z1, z2, z3, z4, z5⟩ := hz
      split at h
      · rename_i i y h1 h2
        cases h; subst z1
        obtain ⟨a, b, c⟩ := k.vis z2
        exact s_idx k.cok (k.ix h1) a b c (frzO k.cok.ok (S.fE k h2)) z5 (star_one z4)
      · cases h
    · cases h
  · split at h
    · rename_i hn
      obtain ⟨y, h1, rfl⟩ := omap h
      exact k.lmk hn.1 h1 hn.2
    · cases h
  · cases h
theorem snd : ∀ n, Snd n
  | 0 => snd0
  | n + 1 => have S := snd n; ⟨snd_E S, snd_O S, snd_T S, snd_W S, snd_L S, snd_B S, snd_K S, snd_Q S, snd_C S, snd_I S⟩
end
end Dp
end

section
set_option Elab.async false
set_option linter.all false
set_option autoImplicit false
set_option maxRecDepth 100000
set_option maxHeartbeats 4000000
/-! Dp14: the terms are the syntax's: statements. -/
namespace Dp
open PySem PySem.Spec PyProof.Rows L2

def isComp : Expr → Bool
  | .ListComp .. => true
  | .SetComp .. => true
  | .DictComp .. => true
  | _ => false
theorem noSwap {e : Expr} {t : Option Expr} {l : Nat} {env : PySem.Env} (h : isComp e = false) : swapsWith e t l env = pure false := by
  cases e <;> first | rfl | cases h
/-- a list comprehension whose stores are exchanged -/
def swB (kx : Kx) (x : Str) (px : Pos) : Expr → Bool
  | .ListComp _ _ sc p => kx.lcl x && (px.line == p.line) && !(sc.names.any fun y => y.1 == x && (y.2 == .local || y.2 == .cell))
  | _ => false
def isLC : Expr → Bool
  | .ListComp .. => true
  | _ => false
/-- all are names, local, on one line, apart -/
def parB (kx : Kx) (l : Nat) : List Expr → List Str → Bool
  | [], _ => true
  | .Name x p :: r, seen => kx.lcl x && (p.line == l) && !decide (x ∈ seen) && parB kx l r (x :: seen)
  | _, _ => false
def parN (kx : Kx) : List Expr → Option (List (Nat × Bool))
  | [] => some []
  | .Name x _ :: r => match ixOf kx.N x, parN kx r with | some i, some l => some ((i, kx.isOwn x) :: l) | _, _ => none
  | _ => none
section
variable {g : Gd} {cc : Dp.C} {M : Lm g} {W : WX} {kx : Kx} {X : Cx} {n : Nat}
theorem sw_yes (k : XOk g cc M W kx X) (hk : X.env.scope.kind = .function) {x : Str} {px : Pos} {e : Expr} {l : Nat} (h : swB kx x px e = true) : swapsWith e (some (.Name x px)) l X.env = pure true := by
  unfold swB at h
  split at h
  · simp only [Bool.and_eq_true, Bool.not_eq_true'] at h
    exact sw_true hk (k.lcl h.1.1) h.1.2 h.2
  · cases h
theorem sw_no (k : XOk g cc M W kx X) (hk : X.env.scope.kind = .function) {x : Str} {px : Pos} {e : Expr} {l : Nat} (hl : isLC e = true) (h : swB kx x px e = false) : swapsWith e (some (.Name x px)) l X.env = pure false := by
  cases e with
  | ListComp a b sc p =>
    have hb : X.env.blockKind = .function := by unfold Env.blockKind; rw [hk]; rfl
    have hx : X.env.kindOf x = kx.kd x := k.kd x
    unfold swB at h
    unfold swapsWith
    simp only [hb, hx, Expr.pos]
    unfold Kx.lcl at h
    cases hq : kx.kd x with
    | none => rfl
    | some q =>
      rw [hq] at h
      cases q with
      | «local» => exact congrArg pure h
      | _ => rfl
  | _ => cases hl
/-- t, f = (x['turn'] + 1, 0), then x['turn'] = t -/
def tickOf : Stmt → List Stmt → Option (Str × Str × Str × List Stmt)
  | .Assign [.Tuple [.Name t p, .Name f q] _ _] (.Tuple [.BinOp (.Subscript (.Name x _) (.Constant (.str k) _ _) _) .Add (.Constant (.int 1) _ _) _, .Constant (.int 0) _ _] _ _) _, .Assign [.Subscript (.Name y _) (.Constant (.str k2) _ _) _] (.Name t2 _) _ :: r =>
    if y = x ∧ t2 = t ∧ k = ("turn" : Str) ∧ k2 = ("turn" : Str) ∧ (q.line == p.line) = true then some (x, t, f, r) else none
  | _, _ => none
/-- x.append(a) -/
def appOf : Expr → Option (Str × Expr × Pos × Pos)
  | .Call (.Attribute (.Name x _) m ap) [a] [] cp => if m = ("append" : Str) then some (x, a, ap, cp) else none
  | _ => none
/-- tuple(a), for a name whose tuple is asked for places -/
def otOf (kx : Kx) (x : Str) : Expr → Option Expr
  | .Call (.Name y _) [a] [] _ => if kx.isOt x = true ∧ kx.loc x = true ∧ kx.glb y = true ∧ kx.gl.lookup y = none ∧ y = ("tuple" : Str) ∧ nsB a = true then some a else none
  | _ => none
/-- y.pop(b) -/
def popOf : Expr → Option (Str × Expr × Pos × Pos)
  | .Call (.Attribute (.Name x _) m ap) [a] [] cp => if m = ("pop" : Str) then some (x, a, ap, cp) else none
  | _ => none
def isTup : Expr → Bool
  | .Tuple .. => true
  | _ => false
theorem nsB_any : ∀ {vs : List Expr}, vs.all nsB = true → (vs.any fun | .Starred .. => true | _ => false) = false
  | [], _ => rfl
  | v :: vs, h => by
    rw [List.all_cons, Bool.and_eq_true] at h
    rw [List.any_cons, nsB_any h.2]
    cases v <;> first | rfl | exact absurd h.1 (by simp [nsB])
theorem sp_two (k : XOk g cc M W kx X) (hk : X.env.scope.kind = .function) {x y : Str} {px py pt pt2 : Pos} {a b : Expr} {kt k2} (hx : kx.lcl x = true) (hy : kx.lcl y = true) (hl : (py.line == px.line) = true) (ne : y ≠ x) (hs : [a, b].all nsB = true) (h1 : [a, b].all (foldedForSure 8) = false) (h2 : [a, b].all (constantsAlone 8) = false) :
    swappedStores [.Tuple [.Name x px, .Name y py] kt pt] (.Tuple [a, b] k2 pt2) X.env = pure (some [x, y]) := by
  have hb : X.env.blockKind = .function := by unfold Env.blockKind; rw [hk]; rfl
  have kx' : X.env.kindOf x = some .local := k.lcl hx
  have ky' : X.env.kindOf y = some .local := k.lcl hy
  have e := nsB_any hs
  have ll : py.line = px.line := by simpa using hl
  unfold swappedStores
  simp only [List.length_cons, List.length_nil, hb, e, List.head?_cons, Option.map_some, Option.getD_some, Expr.pos, List.filterMap_cons, List.filterMap_nil, kx', ky', ll, h1, h2]
  have ne2 : ¬ (x = y) := fun z => ne z.symm
  have ed : ([x, y] : List Str).eraseDups = [x, y] := by
    simp [List.eraseDups_cons, ne]
  simp only [List.all_cons, List.all_nil, Bool.and_true, Bool.and_eq_true] at hs
  simp [ed]
  rintro (z | z)
  · cases a <;> first | cases z; done | exact absurd hs.1 (by simp [nsB])
  · cases b <;> first | cases z; done | exact absurd hs.2 (by simp [nsB])
theorem sp_three (k : XOk g cc M W kx X) (hk : X.env.scope.kind = .function) {x y z : Str} {px py pz pt pt2 : Pos} {a b c : Expr} {kt k2} (hx : kx.lcl x = true) (hy : kx.lcl y = true) (hz : kx.lcl z = true) (hl : (py.line == px.line) = true) (hl2 : (pz.line == px.line) = true) (ne : y ≠ x) (ne1 : z ≠ x) (ne2 : z ≠ y) (hs : [a, b, c].all nsB = true) (h1 : [a, b, c].all (foldedForSure 8) = false) (h2 : [a, b, c].all (constantsAlone 8) = false) :
    swappedStores [.Tuple [.Name x px, .Name y py, .Name z pz] kt pt] (.Tuple [a, b, c] k2 pt2) X.env = pure (some [x, y, z]) := by
  have hb : X.env.blockKind = .function := by unfold Env.blockKind; rw [hk]; rfl
  have kx' : X.env.kindOf x = some .local := k.lcl hx
  have ky' : X.env.kindOf y = some .local := k.lcl hy
  have kz' : X.env.kindOf z = some .local := k.lcl hz
  have ll : py.line = px.line := by simpa using hl
  have ll2 : pz.line = px.line := by simpa using hl2
  unfold swappedStores
  simp only [List.length_cons, List.length_nil, hb, List.head?_cons, Option.map_some, Option.getD_some, Expr.pos, List.filterMap_cons, List.filterMap_nil, kx', ky', kz', ll, ll2, h1, h2]
  have ed : ([x, y, z] : List Str).eraseDups = [x, y, z] := by
    simp [List.eraseDups_cons, ne, ne1, ne2]
  simp only [List.all_cons, List.all_nil, Bool.and_true, Bool.and_eq_true] at hs
  simp [ed]
  rintro (q | q | q)
  · cases a <;> first | cases q; done | exact absurd hs.1 (by simp [nsB])
  · cases b <;> first | cases q; done | exact absurd hs.2.1 (by simp [nsB])
  · cases c <;> first | cases q; done | exact absurd hs.2.2 (by simp [nsB])
theorem sp_folded {X : Cx} {ts vs : List Expr} {kt k2} {pt pt2 : Pos} (h1 : vs.all (foldedForSure 8) = true) : swappedStores [.Tuple ts kt pt] (.Tuple vs k2 pt2) X.env = pure none := by
  unfold swappedStores
  dsimp only
  split
  · rfl
  · split
    · rfl
    · split
      · rfl
      · first | rw [if_pos h1] | simp [h1]
        
theorem fm_lt {α β : Type} {f : α → Option β} : ∀ {l : List α}, (∃ t ∈ l, f t = none) → (l.filterMap f).length < l.length
  | [], ⟨t, h, _⟩ => by cases h
  | a :: l, ⟨t, h, e⟩ => by
    have le : (l.filterMap f).length ≤ l.length := List.length_filterMap_le f l
    rcases List.mem_cons.mp h with rfl | h
    · rw [List.filterMap_cons, e]; simp only [List.length_cons]; omega
    · have ih := fm_lt (f := f) ⟨t, h, e⟩
      rw [List.filterMap_cons]
      split <;> simp only [List.length_cons] <;> omega
/-- some target is no local name -/
def celB (kx : Kx) (ts : List Expr) : Bool := ts.any fun t => match t with | .Name x _ => !kx.lcl x | _ => true
theorem sp_cell (k : XOk g cc M W kx X) {ts vs : List Expr} {kt k2} {pt pt2 : Pos} (h : celB kx ts = true) : swappedStores [.Tuple ts kt pt] (.Tuple vs k2 pt2) X.env = pure none := by
  obtain ⟨t, ht, e⟩ := List.any_eq_true.mp h
  unfold swappedStores
  dsimp only
  split
  · rfl
  · split
    · rfl
    · rw [if_pos]
      rw [Bool.or_eq_true]
      refine .inl ?_
      rw [bne_iff_ne]
      refine Nat.ne_of_lt (fm_lt ⟨t, ht, ?_⟩)
      cases t with
      | Name x p =>
        have hx : X.env.kindOf x = kx.kd x := k.kd x
        have e : (!kx.lcl x) = true := e
        unfold Kx.lcl at e
        show (if (X.env.kindOf x == some .local && _) = true then some x else none) = none
        rw [hx]
        cases q : kx.kd x with
        | none => rfl
        | some z =>
          rw [q] at e
          cases z with
          | «local» => cases e
          | _ => rfl
      | _ => rfl
theorem sp_many {X : Cx} {ts vs : List Expr} {kt k2} {pt pt2 : Pos} (h1 : 3 < ts.length) : swappedStores [.Tuple ts kt pt] (.Tuple vs k2 pt2) X.env = pure none := by
  unfold swappedStores
  dsimp only
  rw [if_pos]
  have a : (ts.length == 2) = false := by simp; omega
  have b : (ts.length == 3) = false := by simp; omega
  rw [a, b]; rfl
theorem sp_not {X : Cx} {t e : Expr} (h : isTup e = false) : swappedStores [t] e X.env = pure none := by
  unfold swappedStores
  cases e <;> first | cases h; done | (cases t <;> rfl)
end

def cP : Nat → Kx → List Bool → List Expr → Option EL
  | n + 1, kx, [], [] => some .nil
  | n + 1, kx, o :: os, e :: es => if nsB e = true then (match cE n kx e, cP n kx os es with | some x, some l => if o = true ∧ fl x = false then none else some (.cons x l) | _, _ => none) else none
  | _, _, _, _ => none
mutual
def cS (kx : Kx) : Nat → Stmt → Option S
  | n + 1, .Assign [.Name x px] e _ => (match otOf kx x e with
    | some a => (match ixOf kx.N x, cE n kx a with | some i, some y => some (.sett i y) | _, _ => none)
    | none => if kx.loc x = true ∧ (isLC e = true ∨ isComp e = false) then (match ixOf kx.N x, cE n kx e with
      | some i, some y => if kx.isOwn x = true ∧ fl y = false then none else some (.set i (kx.isOwn x) y)
      | _, _ => none) else none)
  | n + 1, .Assign [.Tuple ts kt pt] e _ => if isTup e = false then (if isLC e = true ∨ isComp e = false then (match cG kx n (.Tuple ts kt pt), cE n kx e with
        | some (.t l), some y => some (.unp l y)
        | _, _ => none) else none)
      else (match e with
        | .Tuple vs k2 pt2 => if vs.all (foldedForSure 8) = true ∨ 3 < ts.length ∨ celB kx ts = true then (match cG kx n (.Tuple ts kt pt), cE n kx (.Tuple vs k2 pt2) with
            | some (.t l), some y => some (.unp l y)
            | _, _ => none)
          else if vs.all nsB = true ∧ vs.all (constantsAlone 8) = false then (match ts, vs with
            | [.Name x px, .Name y py], [a, b] => if kx.lcl x = true ∧ kx.lcl y = true ∧ (py.line == px.line) = true ∧ y ≠ x then (match ixOf kx.N x, ixOf kx.N y, cP n kx [kx.isOwn x, kx.isOwn y] [a, b] with
                | some i, some j, some l => some (.par [(i, kx.isOwn x), (j, kx.isOwn y)] l)
                | _, _, _ => none) else none
            | [.Name x px, .Name y py, .Name z pz], [a, b, c] => if kx.lcl x = true ∧ kx.lcl y = true ∧ kx.lcl z = true ∧ (py.line == px.line) = true ∧ (pz.line == px.line) = true ∧ y ≠ x ∧ z ≠ x ∧ z ≠ y then (match ixOf kx.N x, ixOf kx.N y, ixOf kx.N z, cP n kx [kx.isOwn x, kx.isOwn y, kx.isOwn z] [a, b, c] with
                | some i, some j, some k, some l => some (.par [(i, kx.isOwn x), (j, kx.isOwn y), (k, kx.isOwn z)] l)
                | _, _, _, _ => none) else none
            | _, _ => none)
          else none
        | _ => none)
  | n + 1, .Expr e pos => (match appOf e with
      | some (x, a, ap, cp) => (match popOf a with
          | some (y, b, ap2, cp2) => if kx.vis x = true ∧ kx.isOwn x = true ∧ kx.vis y = true ∧ kx.isOwn y = true ∧ nsB b = true ∧ (ap.endLine == cp.line) = true ∧ (ap2.endLine == cp2.line) = true then (match ixOf kx.N x, ixOf kx.N y, cE n kx b with
              | some i, some j, some z => some (.pop i j z)
              | _, _, _ => none) else none
          | none => if kx.vis x = true ∧ kx.isOwn x = true ∧ nsB a = true ∧ (ap.endLine == cp.line) = true then (match ixOf kx.N x, cE n kx a with
              | some i, some y => some (.app i y)
              | _, _ => none) else none)
      | none => if isComp e = false then (cE n kx e).map .ex else none)
  | n + 1, .Return (some e) _ => (match nmOf e with
      | some x => if kx.vis x = true ∧ kx.isOwn x = true then (ixOf kx.N x).map .reto else (cE n kx e).map .ret
      | none => (cE n kx e).map .ret)
  | n + 1, .Return none _ => some (.ret (.c .non))
  | n + 1, .If c a b _ => (match cT n kx c, cSs kx n a, cSs kx n b with | some x, some y, some z => some (.ife x y z) | _, _, _ => none)
  | n + 1, .For tg it b [] _ => if notSet it = true then (match cG kx n tg, cI n kx true tg it, cSs kx n b with | some t, some s, some y => some (.for t s y) | _, _, _ => none) else none
  | n + 1, .While c b [] _ => (match cT n kx c, cSs kx n b with | some x, some y => some (.wh x y) | _, _ => none)
  | n + 1, .Raise (some (.Call (.Name x _) [.Constant (.str _) _ _] [] _)) none _ => if kx.glb x = true then (match kx.gl.lookup x with
      | some (.cls c) => if kx.rs c = true then some (.raise c .nil) else none
      | _ => none) else none
  | n + 1, .Assign [.Subscript (.Name x _) (.Constant (.str k) _ _) _] e _ => if k = ("left" : Str) ∧ kx.vis x = true ∧ isComp e = false then (match ixOf kx.N x, cE n kx e with
      | some i, some y => some (.stw i y)
      | _, _ => none) else none
  | n + 1, .Break _ => some .brk
  | n + 1, .Continue _ => some .cont
  | n + 1, .Assign [.Subscript (.Name x _) ie _] e _ => if kx.vis x = true ∧ kx.isOwn x = true ∧ plainIxB ie = true ∧ isComp e = false then (match ixOf kx.N x, cE n kx ie, cE n kx e with
      | some i, some a, some y => some (.sto i a y)
      | _, _, _ => none) else none
  | _, _ => none
def cSs (kx : Kx) : Nat → List Stmt → Option SL
  | n + 1, [] => some .nil
  | n + 1, s :: l => (match tickOf s l with
      | some (x, t, f, r) => if kx.vis x = true ∧ kx.lcl t = true ∧ kx.lcl f = true ∧ kx.vis t = true ∧ t ≠ f ∧ t ≠ x ∧ f ≠ x ∧ kx.isOwn t = false ∧ kx.isOwn f = false then (match ixOf kx.N x, ixOf kx.N t, ixOf kx.N f, cSs kx n r with
          | some i, some a, some b, some y => some (.cons (.tick i a b) y)
          | _, _, _, _ => none) else none
      | none => (match cSs kx n l with
          | some y => (match cS kx n s with
              | some x => some (.cons x y)
              | none => some (.cons (.ex .no) y))
          | none => none))
  | _, _ => none
end
end Dp
end

section
set_option Elab.async false
set_option linter.all false
set_option autoImplicit false
set_option maxRecDepth 100000
set_option maxHeartbeats 4000000
/-! Dp15: the terms are the syntax's: statements. -/
namespace Dp
open PySem PySem.Spec PyProof.Rows L2
theorem sto_ha {x : Str} {p1 sp : Pos} {ie : Expr} {env : PySem.Env} (h : plainIxB ie = true) {v : Value} : assign (.Subscript (.Name x p1) ie sp) env v = (do
      let ov ← holding [v] (eval (.Name x p1) env)
      let iv ← holding [v, ov] (eval ie env)
      standAt sp
      holding [v, ov, iv] (setItem ov iv v)
      release [v, ov, iv] []) := by
  cases ie <;> first | rfl | cases h
theorem sole_no {x : Str} {p1 sp : Pos} {ie e : Expr} {n : Nat} {env : PySem.Env} (h : isComp e = false) : swapsWithSole [.Subscript (.Name x p1) ie sp] e n env = pure false := by
  cases e <;> first | rfl | cases h
structure SOk (g : Gd) (cc : Dp.C) (M : Lm g) (W : WX) (kx : Kx) (X : Cx) : Prop where
  k : XOk g cc M W kx X
  fn : X.env.scope.kind = .function
  ps : PassesOwn (model X.prog X.w) X.A X.env X.xe
structure Snt (n : Nat) : Prop where
  f1 : ∀ {g : Gd} {cc : Dp.C} {M : Lm g} {W : WX} {kx : Kx} {X : Cx} {s : Stmt} {t : S}, SOk g cc M W kx X → cS kx n s = some t → PS X s (sD g M W (exs cc t))
  fs : ∀ {g : Gd} {cc : Dp.C} {M : Lm g} {W : WX} {kx : Kx} {X : Cx} {s : List Stmt} {t : SL}, SOk g cc M W kx X → cSs kx n s = some t → PSs X s (sD g M W (exl cc t))
section
variable {g : Gd} {cc : Dp.C} {M : Lm g} {W : WX} {kx : Kx} {X : Cx} {n : Nat}
theorem sndP (k : XOk g cc M W kx X) : ∀ (n : Nat) {os : List Bool} {es : List Expr} {l : EL}, cP n kx os es = some l → PA X es (tDP g M W os (evs cc l))
  | 0, _, _, _, h => by unfold cP at h; cases h
  | n + 1, [], [], l, h => by unfold cP at h; cases h; exact p_nil
  | n + 1, [], _ :: _, l, h => by unfold cP at h; cases h
  | n + 1, _ :: _, [], l, h => by unfold cP at h; cases h
  | n + 1, o :: os, e :: es, l, h => by
    unfold cP at h
    split at h
    · rename_i hn
      split at h
      · rename_i x l h1 h2
        split at h
        · cases h
        · rename_i hf
          cases h
          refine p_cons k.cok ?_ (sndP k n h2) (star_cons hn)
          have he := (snd n).fE k h1
          cases o with
          | false => exact frzO k.cok.ok he
          | true =>
            have : fl x = true := by
              cases q : fl x with
              | true => rfl
              | false => exact absurd ⟨rfl, q⟩ hf
            rw [this] at he
            exact he
      · cases h
    · cases h
theorem snt_fs (S : Snt n) {s : List Stmt} {t : SL} (k : SOk g cc M W kx X) (h : cSs kx (n + 1) s = some t) : PSs X s (sD g M W (exl cc t)) := by
  cases s with
  | nil => unfold cSs at h; cases h; exact ss_nil
  | cons s l =>
    unfold cSs at h
    split at h
    · rename_i x t f r ht
      split at h
      · rename_i hz
        obtain ⟨z1, z2, z3, z4, z5, z6, z7, z8, z9⟩ := hz
        split at h
        · rename_i i a b y h1 h2 h3 h4
          cases h
          obtain ⟨v1, v2, v3⟩ := k.k.vis z1
          obtain ⟨_, u2, u3⟩ := k.k.vis z4
          have nd : ∀ {x y : Str} {i j : Nat}, ixOf kx.N x = some i → ixOf kx.N y = some j → x ≠ y → i ≠ j := fun {x y i j} q1 q2 ne z => by
            subst z
            have q1 := ixOf_ok q1
            have q2 := ixOf_ok q2
            rw [q1] at q2
            exact ne (Option.some.inj q2)
          unfold tickOf at ht
          split at ht
          · split at ht
            · rename_i hk
              obtain ⟨e1, e2, e3, e4, e5⟩ := hk
              cases ht; subst e1 e2 e3 e4
              exact st_tick k.k.cok k.k.st (k.k.ix h1) v1 v2 v3 (k.k.ix h2) (k.k.ix h3) (k.k.lcl z2) (k.k.lcl z3) u2 u3 (nd h2 h3 z5) (nd h2 h1 z6) (nd h3 h1 z7) (sp_two k.k k.fn z2 z3 e5 (Ne.symm z5) rfl rfl (by simp [constantsAlone, v2])) (S.fs k h4)
            · cases ht
          · cases ht
        · cases h
      · cases h
    · split at h
      · rename_i y h2
        split at h
        · rename_i x h1
          cases h
          exact ss_cons (S.f1 k h1) (S.fs k h2)
        · cases h
          exact ss_cons ⟨fun _ _ _ _ _ _ ⟨_, _, _, _, _, _, _, w⟩ => w.elim⟩ (S.fs k h2)
      · cases h
theorem swTup {e : Expr} {ts : List Expr} {kt} {pt : Pos} {l : Nat} {env : PySem.Env} (h : isLC e = true ∨ isComp e = false) : swapsWithSole [.Tuple ts kt pt] e l env = pure false := by
  show swapsWith e (some (.Tuple ts kt pt)) l env = _
  rcases h with h | h
  · cases e <;> first | rfl | cases h
  · exact noSwap h
theorem snt_f1 (S : Snt n) {s : Stmt} {t : Dp.S} (k : SOk g cc M W kx X) (h : cS kx (n + 1) s = some t) : PS X s (sD g M W (exs cc t)) := by
  have kk := k.k
  have F := snd n
  unfold cS at h
  split at h
  all_goals (try (have hh := Nat.succ.inj (by assumption : n + 1 = _ + 1); subst hh))
  · rename_i x px e pos _
    split at h
    · rename_i a hot
      split at h
      · rename_i i y h1 h2
        cases h
        unfold otOf at hot
        split at hot
        · split at hot
          · rename_i hz
            obtain ⟨z1, z2, z3, z4, z5, z6⟩ := hz
            cases hot; subst z5
            obtain ⟨l1, l2⟩ := kk.loc z2
            obtain ⟨g1, g2, g3⟩ := kk.glb z3
            obtain ⟨b1, b2⟩ := biOf_ok (x := "tuple") (b := .tuple) (by decide +kernel)
            exact st_sett kk.cok (kk.ix h1) l1 g1 (kk.bl _ b2 z4) b1 g3 g2 (frzO kk.cok.ok (F.fE kk h2)) (star_one z6) l2
          · cases hot
        · cases hot
      · cases h
    split at h
    · rename_i hl
      split at h
      · rename_i i y h1 h2
        split at h
        · cases h
        · rename_i ho
          cases h
          obtain ⟨l1, l2⟩ := kk.loc hl.1
          have hpe : PE X e (tD g M W (kx.isOwn x) (ev cc y)) := by
            have he := F.fE kk h2
            cases q : kx.isOwn x with
            | false => exact frzO kk.cok.ok he
            | true =>
              have : fl y = true := by
                cases z : fl y with
                | true => rfl
                | false => exact absurd ⟨q, z⟩ ho
              rw [this] at he; exact he
          have plain : swapsWith e (some (.Name x px)) pos.line X.env = pure false → PS X (.Assign [.Name x px] e pos) (sD g M W (exs cc (.set i (kx.isOwn x) y))) := fun hs => st_set kk.cok (kk.ix h1) l1 hpe hs l2
          by_cases hc : isLC e = true
          · cases hsw : swB kx x px e with
            | false => exact plain (sw_no kk k.fn hc hsw)
            | true =>
              cases e with
              | ListComp el gs sc ps =>
                cases n with
                | zero => unfold cE at h2; cases h2
                | succ n =>
                  have hloc : X.env.scope.names.lookup x = some .local := by
                    unfold swB at hsw
                    simp only [Bool.and_eq_true] at hsw
                    exact kk.lcl hsw.1.1
                  by_cases hgs : gs.length = 1
                  · obtain ⟨tg, it, ifs, s', t', c, y', e1, rfl, a1, a2, a3, a4, a5, a6, a7⟩ := snd_lc (snd n) hgs kk h2
                    cases e1
                    exact st_setLc kk.cok (kk.ix h1) hloc (sw_yes kk k.fn hsw) a1 a2 a3 a4 a5 a6 a7
                  · obtain ⟨tg, it, tg1, it1, ifs, s', t', s2', t2', c, y', e1, rfl, a1, a2, a3, a3', a4, a4i, a4', a5, a6, a7, a8⟩ := snd_lc2 (snd n) hgs kk h2
                    cases e1
                    exact st_setLc2 kk.cok (kk.ix h1) hloc (sw_yes kk k.fn hsw) a1 a2 a3 a3' a4 (fun _ _ _ _ _ => c_nil) a4i a4' a5 a6 a7 a8
              | _ => cases hc
          · exact plain (noSwap (hl.2.resolve_left hc))
      · cases h
    · cases h
  · rename_i ts kt pt e pos _
    split at h
    · rename_i ht
      split at h
      · rename_i hc
        split at h
        · rename_i l y h1 h2
          cases h
          exact st_unp kk.cok (frzO kk.cok.ok (F.fE kk h2)) ((tgt_ok _ n).1 kk h1) (swTup hc) (sp_not ht) (by rfl)
        · cases h
      · cases h
    · split at h
      · rename_i vs k2 pt2 _
        split at h
        · rename_i hf
          split at h
          · rename_i l y h1 h2
            cases h
            refine st_unp kk.cok (frzO kk.cok.ok (F.fE kk h2)) ((tgt_ok _ n).1 kk h1) (swTup (.inr rfl)) ?_ (by rfl)
            rcases hf with hf | hf | hf
            · exact sp_folded hf
            · exact sp_many hf
            · exact sp_cell kk hf
          · cases h
        · rename_i hf
          have hf2 : vs.all (foldedForSure 8) = false := by
            cases q : vs.all (foldedForSure 8) with
            | false => rfl
            | true => exact absurd (.inl q) hf
          clear hf
          split at h
          · rename_i hn
            split at h
            · rename_i x px y py a b _ _
              split at h
              · rename_i hz
                split at h
                · rename_i i j l h1 h2 h3
                  cases h
                  have nij : i ≠ j := fun z => by
                    subst z
                    have q1 := ixOf_ok h1
                    have q2 := ixOf_ok h2
                    rw [q1] at q2
                    exact hz.2.2.2 (Option.some.inj q2).symm
                  exact st_par2 kk.cok (kk.ix h1) (kk.ix h2) nij (kk.lcl hz.1) (kk.lcl hz.2.1) (sndP kk n h3) (sp_two kk k.fn hz.1 hz.2.1 hz.2.2.1 hz.2.2.2 hn.1 hf2 hn.2)
                · cases h
              · cases h
            · rename_i x px y py z pz a b c _ _
              split at h
              · rename_i hz
                split at h
                · rename_i i j m l h1 h2 h3 h4
                  cases h
                  have nd : ∀ {x y : Str} {i j : Nat}, ixOf kx.N x = some i → ixOf kx.N y = some j → y ≠ x → i ≠ j := fun {x y i j} q1 q2 ne z => by
                    subst z
                    have q1 := ixOf_ok q1
                    have q2 := ixOf_ok q2
                    rw [q1] at q2
                    exact ne (Option.some.inj q2).symm
                  obtain ⟨z1, z2, z3, z4, z5, z6, z7, z8⟩ := hz
                  exact st_par3 kk.cok (kk.ix h1) (kk.ix h2) (kk.ix h3) (nd h1 h2 z6) (nd h1 h3 z7) (nd h2 h3 z8) (kk.lcl z1) (kk.lcl z2) (kk.lcl z3) (sndP kk n h4) (sp_three kk k.fn z1 z2 z3 z4 z5 z6 z7 z8 hn.1 hf2 hn.2)
                · cases h
              · cases h
            · cases h
          · cases h
      · cases h
  · rename_i e pos _
    split at h
    · rename_i x a ap cp hap
      split at h
      · rename_i y b ap2 cp2 hpop
        split at h
        · rename_i hz
          split at h
          · rename_i i j z h1 h2 h3
            cases h
            obtain ⟨z1, z2, z3, z4, z5, z6, z7⟩ := hz
            obtain ⟨v1, v2, v3⟩ := kk.vis z1
            obtain ⟨w1, w2, w3⟩ := kk.vis z3
            unfold appOf at hap
            split at hap
            · rename_i x' p1 m ap' a' cp'
              split at hap
              · rename_i hm
                cases hap
                subst hm
                unfold popOf at hpop
                split at hpop
                · rename_i y' p2 m2 ap2' b' cp2'
                  split at hpop
                  · rename_i hm2
                    cases hpop
                    subst hm2
                    exact st_pop kk.cok (kk.ix h1) v1 v2 v3 (kk.ix h2) w1 w2 w3 (frzO kk.cok.ok (F.fE kk h3)) z6 z7 (star_one (env := X.env) z5)
                  · cases hpop
                · cases hpop
              · cases hap
            · cases hap
          · cases h
        · cases h
      split at h
      · rename_i hz
        split at h
        · rename_i i y h1 h2
          cases h
          obtain ⟨v1, v2, v3⟩ := kk.vis hz.1
          unfold appOf at hap
          split at hap
          · rename_i x' p1 m ap' a' cp'
            split at hap
            · rename_i hm
              cases hap
              subst hm
              have hs := star_one (env := X.env) hz.2.2.1
              refine st_app kk.cok (kk.ix h1) v1 v2 v3 (frzO kk.cok.ok (F.fE kk h2)) rfl ?_ hz.2.2.2 hs
              rw [hs]; rfl
            · cases hap
          · cases hap
        · cases h
      · cases h
    · split at h
      · rename_i hc
        obtain ⟨y, h1, rfl⟩ := omap h
        exact st_ex (frzO kk.cok.ok (F.fE kk h1)) (noSwap (by simpa using hc))
      · cases h
  · rename_i e pos _
    split at h
    · rename_i x hx
      split at h
      · rename_i hz
        obtain ⟨i, h1, rfl⟩ := omap h
        obtain ⟨v1, v2, v3⟩ := kk.vis hz.1
        cases e with
        | Name y p => unfold nmOf at hx; cases hx; exact st_reto (kk.ix h1) v1 v2 v3
        | _ => unfold nmOf at hx; cases hx
      · obtain ⟨y, h1, rfl⟩ := omap h
        exact st_ret (frzO kk.cok.ok (F.fE kk h1))
    · obtain ⟨y, h1, rfl⟩ := omap h
      exact st_ret (frzO kk.cok.ok (F.fE kk h1))
  · cases h; exact st_retN
  · split at h
    · rename_i x y z h1 h2 h3
      cases h
      exact st_if (F.fT kk h1) (S.fs k h2) (S.fs k h3)
    · cases h
  · split at h
    · rename_i hn
      split at h
      · rename_i t s y h1 h2 h3
        cases h
        exact st_for kk.cok k.ps (F.fI kk h2) ((tgt_ok _ n).1 kk h1) (S.fs k h3) (notSet_ok hn)
      · cases h
    · cases h
  · split at h
    · rename_i x y h1 h2
      cases h
      exact st_wh kk.cok k.ps (F.fT kk h1) (S.fs k h2)
    · cases h
  · split at h
    · rename_i hg
      obtain ⟨g1, g2, g3⟩ := kk.glb hg
      split at h
      · rename_i c hc
        split at h
        · rename_i hr
          cases h
          obtain ⟨⟨B, nw, it, bm, q1, q2⟩, q3, q4⟩ := kk.rs c hr
          exact st_raise (ps_raise kk.cok.calm kk.tk (pmk_own q1 q2 (kk.gl _ _ hc) q3 q4 g1 g2))
        · cases h
      · cases h
    · cases h
  · split at h
    · rename_i hz
      obtain ⟨e1, z1, z2⟩ := hz
      split at h
      · rename_i i y h1 h2
        cases h; subst e1
        obtain ⟨v1, v2, v3⟩ := kk.vis z1
        exact st_stw kk.cok kk.st (kk.ix h1) v1 v2 v3 (frzO kk.cok.ok (F.fE kk h2)) (noSwap z2)
      · cases h
    · cases h
  · cases h; exact st_brk
  · cases h; exact st_cont
  · split at h
    · rename_i hz
      obtain ⟨z1, z2, z3, z4⟩ := hz
      split at h
      · rename_i i a y h1 h2 h3
        cases h
        obtain ⟨v1, v2, v3⟩ := kk.vis z1
        refine st_sto kk.cok (kk.ix h1) v1 v2 v3 (frzO kk.cok.ok (F.fE kk h3)) (frzO kk.cok.ok (F.fE kk h2)) ?_ ?_ rfl rfl
        · exact fun v => sto_ha z3
        · exact sole_no z4
      · cases h
    · cases h
  · cases h
theorem snt : ∀ n, Snt n
  | 0 => by
    constructor
    · intro g cc M W kx X s t _ h; unfold cS at h; cases h
    · intro g cc M W kx X s t _ h; unfold cSs at h; cases h
  | n + 1 => have S := snt n; ⟨snt_f1 S, snt_fs S⟩
end
end Dp
end

section
set_option Elab.async false
set_option linter.all false
set_option autoImplicit false
set_option maxRecDepth 100000
set_option maxHeartbeats 4000000
/-! Dp16: a def by its term. -/
namespace Dp
open PySem PySem.Spec PyProof.Rows L2
section
variable {P : Program} {w : World} {K : PySem.W.Frag} {mg : Str → Option Value} {base : Heap}
theorem FnG.mono {j k : Nat} {f : Addr} {fd : FuncData} {ps : List Str} {sp : Sp} (F : FnG P w K mg base j f fd ps sp) (h : j ≤ k) : FnG P w K mg base k f fd ps sp :=
  ⟨F.len, fun A o s H ar us vs Q E room gu e b v q => F.go A o s H ar us vs Q E (room.mono h) gu e b v q⟩
/-- a def by its body, where no repr is on its way -/
theorem fnG_of {k : Nat} {f : Addr} {name qual : Str} {pars : Arguments} {body : List Stmt} {scope : Scope} {dV kV doc pm cdv ct oc : Value} {an od : Option Addr} {osl : Array (Option Value)} {N ps : List Str} {sp : Sp}
    (lk : K.lookup f = some ⟨oc, od, .func (PySem.W.fnOf name qual pars body scope dV kV doc pm an cdv ct), osl⟩) (hc : PySem.W.codeIn K cdv qual = true) (SC : FnScope N ps scope) (hl : ∀ vs H Q E, sp vs H Q E → vs.length = ps.length)
    (hb : ∀ (A : Around) (up : List PySem.Env) (s : Shared) (H : Hp) (vs : List V) (Q : VK) (E : XK), RoomI k (A.deeper (envOfC qual scope s.heap.objs.size f cdv)) → A.guards = some [] → sp vs H Q E →
      ∃ t, PSs (cxOf (L2.CX P w) P w K mg base N qual scope f cdv A up s H E) body t ∧ t { nx := fun _ H' => Q .non H', rt := Q } (start N vs) H) :
    FnG P w K mg base (k + 1) f (PySem.W.fnOf name qual pars body scope dV kV doc pm an cdv ct) ps sp := by
  refine ⟨hl, fun A up s0 H ar us vs Q E room gu en bt rel q => ?_⟩
  have kin : K.In s0.heap := en.mod.kin.keeps fun a o z => (en.bs a o z).1
  have nl : s0.heap.NoLimit := en.mod.nolimit.keeps fun a o z => (en.bs a o z).1
  have kinds : ∀ y ∈ ps.zip us, scope.names.lookup y.1 = some .local ∨ (scope.names.lookup y.1 = some .cell ∧ ((cellsFrom (s0.heap.objs.size + 1) scope.names []).lookup y.1).isSome = true) := by
    rintro ⟨m, u⟩ hm
    exact (SC.par m (List.of_mem_zip hm).1).imp id fun c => ⟨c, PySem.W.cellsFrom_some _ _ _ (.inl c)⟩
  refine codeAny_call_function room.depth (kin _ _ lk) rfl SC.co SC.gen rfl (PySem.W.codeRec_of kin hc) (bt _ _ _ _ ?_)
  refine wpAny_newFunctionEnv_cells SC.kind kinds fun env e1 s1 x => ?_
  subst e1
  refine ⟨nl.keeps x.toInCall.keep, codeAny_func ?_⟩
  obtain ⟨t, hP, ht⟩ := hb A up s0 H vs Q E (roomI room _) gu q
  have st : L2.Inv (cxOf (L2.CX P w) P w K mg base N qual scope f cdv A up s0 H E) [] (start N vs) H s1 := inv_start SC room.hd en (hl _ _ _ _ q) rel x
  refine wpAny_mono (hP.run [] s1 (start N vs) H _ st ht) (fun fw s2 z => ?_) fun _ _ z => z
  cases fw with
  | ret u =>
    obtain ⟨v, _, H', J, r, y⟩ := z
    exact ⟨v, H', J.os, J.bare, J.base, J.hok, r, y⟩
  | next =>
    obtain ⟨_, H', J, y⟩ := z
    exact ⟨.non, H', J.os, J.bare, J.base, J.hok, rfl, y⟩
  | brk => exact z.elim fun _ z => z.elim fun _ z => z.2.elim
  | cont => exact z.elim fun _ z => z.elim fun _ z => z.2.elim
end
theorem entry_len (ns : Nat) (ds : List D) (h : ds.length ≤ ns) : (entry ns ds).length = ns := by
  unfold entry; rw [List.length_append, List.length_map, List.length_replicate]; omega
theorem look_entry {ns i : Nat} {ds : List D} : look (entry ns ds) i = match ds[i]? with | some d => .v d | none => .no := by
  unfold look entry
  by_cases h : i < ds.length
  · rw [List.getElem?_append_left (by simpa using h), List.getElem?_map]
    cases q : ds[i]? with
    | none => rw [List.getElem?_eq_none_iff] at q; omega
    | some d => rfl
  · rw [List.getElem?_append_right (by simpa using h), List.getElem?_eq_none (l := ds) (by omega)]
    by_cases z : i - (ds.map Slot.v).length < ns - ds.length
    · rw [List.getElem?_replicate_of_lt z]; rfl
    · rw [List.getElem?_eq_none (by simpa using z)]; rfl
theorem env_entry {g : Gd} {M : Lm g} {H0 F H : Hp} {N : List Str} {vs : List V} {ds : List D} (r : Reps g.r F ds vs) (hn : vs.length ≤ N.length) : EnvOk g M H0 F H (L2.start N vs) (entry N.length ds) := by
  have hl := r.len
  refine ⟨?_, fun i => ?_, fun i j l m p _ e1 _ _ _ => ?_⟩
  · rw [entry_len _ _ (by omega)]
    unfold L2.start
    rw [List.length_append, List.length_map, List.length_replicate]; omega
  · rw [look_entry]
    cases q : ds[i]? with
    | none => trivial
    | some d =>
      obtain ⟨v, e1, e2⟩ := r.get q
      refine ⟨v, ?_, e2⟩
      unfold L2.start
      have hi : i < vs.length := (List.getElem?_eq_some_iff.mp e1).1
      rw [List.getElem?_append_left (by simpa using hi), List.getElem?_map, e1]
      rfl
  · rw [look_entry] at e1
    split at e1 <;> cases e1
/-- the def that stands at f -/
structure DefAt (K : PySem.W.Frag) (f : Addr) (N ps : List Str) (scope : Scope) (body : List Stmt) (fd : FuncData) : Prop where
  sc : FnScope N ps scope
  ex : ∃ (name qual : Str) (pars : Arguments) (dV kV doc pm cdv ct oc : Value) (an od : Option Addr) (osl : Array (Option Value)), fd = PySem.W.fnOf name qual pars body scope dV kV doc pm an cdv ct ∧ K.lookup f = some ⟨oc, od, .func fd, osl⟩ ∧ PySem.W.codeIn K cdv qual = true
section
variable {P : Program} {w : World} {K : PySem.W.Frag} {mg : Str → Option Value} {base : Heap}
/-- the body's promise by its term: M the lambdas that it makes -/
theorem fnG_D {k : Nat} {f : Addr} {N ps : List Str} {scope : Scope} {body : List Stmt} {fd : FuncData} {g : Gd} {cc : Dp.C} {tm : Fd} (da : DefAt K f N ps scope body fd) (hnp : tm.np = ps.length) (hns : tm.ns = N.length)
    (hb : ∀ (A : Around) (up : List PySem.Env) (s : Shared) (H : Hp) (E : XK) (qual : Str) (cdv : Value), RoomI k (A.deeper (envOfC qual scope s.heap.objs.size f cdv)) → A.guards = some [] →
      ∃ M, PSs (cxOf (L2.CX P w) P w K mg base N qual scope f cdv A up s H E) body (sD g M (fun cls d _ H' => E cls d H') (fun δ => exl { cc with lam := fun e δ => .need (decide (wE e ≤ lcap)) (ev { cc with lam := fun _ _ => .bad } e δ) } tm.body δ))) :
    FnG P w K mg base (k + 1) f fd ps (spD g ps.length (runBody cc tm)) := by
  obtain ⟨name, qual, pars, dV, kV, doc, pm, cdv, ct, oc, an, od, osl, rfl, lk, hc⟩ := da.ex
  have hpl : ps.length ≤ N.length := by have := congrArg List.length da.sc.pre; rw [List.length_take] at this; omega
  refine fnG_of lk hc da.sc (fun vs H Q E q => q.1) fun A up s H vs Q E room gu q => ?_
  obtain ⟨hn, nn, F, ds, gi, sb, ns, r, wp⟩ := q
  obtain ⟨M, hM⟩ := hb A up s H E qual cdv room gu
  refine ⟨_, hM, nn, F, H, F, entry N.length ds, .refl gi sb ns, env_entry r (by rw [hn]; exact hpl), ?_⟩
  unfold runBody at wp
  obtain ⟨_, wp⟩ := T.wp_need.mp wp
  rw [hns] at wp
  refine T.wp_mono (fun _ fw hf => ?_) (fun _ c l h => fun cls dd _ F' H' s' rx => h cls dd F' H' s' rx) (T.wp_bind.mp wp)
  cases fw with
  | nx δ => exact fun _ F' H' s' _ => hf _ F' H' s' Rep.non
  | ret d => exact hf
  | brk δ => exact hf.elim
  | ct δ => exact hf.elim
end
end Dp
end

section
set_option Elab.async false
set_option linter.all false
set_option autoImplicit false
set_option maxRecDepth 100000
set_option maxHeartbeats 4000000
/-! Dp17: arguments to parameters. -/
namespace Dp
open PySem PySem.Spec PyProof.Rows L2
abbrev Sl := List (Str × Value)
def KwGo (ps : List Str) : Sl → Sl → Prop
  | [], _ => True
  | kv :: r, s => ps.contains kv.1 = true ∧ (s.lookup kv.1).isSome = false ∧ KwGo ps r (s ++ [kv])
theorem loop_go {ps : List Str} {f : (Str × Value) → Sl × Sl → Sem (ForInStep (Sl × Sl))} (hf : ∀ kv s, ps.contains kv.1 = true → (s.1.lookup kv.1).isSome = false → f kv s = pure (.yield (s.1 ++ [kv], s.2))) : ∀ (kw s ex : Sl), KwGo ps kw s → forIn kw (s, ex) f = pure (s ++ kw, ex)
  | [], s, ex, _ => by rw [List.append_nil]; rfl
  | kv :: r, s, ex, ⟨h1, h2, h3⟩ => by
    rw [List.forIn_cons, hf kv (s, ex) h1 h2, pure_bind]
    show forIn r (s ++ [kv], ex) f = _
    rw [loop_go hf r _ ex h3, List.append_assoc]; rfl
theorem bind_any {name qual : Str} {pars : Arguments} {body : List Stmt} {scope : Scope} {kV doc pm cdv ct : Value} {an : Option Addr} {us : List Value} {kw : Sl} {ps : List Str} {out : Sl}
    (h1 : pars.posonlyargs = []) (h2 : pars.args.map (·.arg) = ps) (h3 : pars.vararg = none) (h4 : pars.kwonlyargs = []) (h5 : pars.kwarg = none) (hl : us.length ≤ ps.length) (go : KwGo ps kw (ps.zip us))
    (hs : ∀ n ∈ ps, ((ps.zip us ++ kw).lookup n).isSome = true) (ho : ps.filterMap (fun n => ((ps.zip us ++ kw).lookup n).map (n, ·)) = out) :
    bindArgs (PySem.W.fnOf name qual pars body scope .none kV doc pm an cdv ct) ⟨us, kw⟩ = pure out := by
  unfold bindArgs PySem.W.fnOf
  simp only [h1, h2, h3, h4, h5, List.map_nil, List.nil_append, List.append_nil, Option.isSome_none]
  rw [loop_go (ps := ps) (fun kv s a b => ?_) kw _ _ go, pure_bind]
  · have e0 : (decide (us.length > ps.length) && (none : Option Arg).isNone) = false := by
      rw [decide_eq_false (by omega)]; rfl
    have e1 : (List.filter (fun n => (List.lookup n (ps.zip us ++ kw)).isNone) ps) = [] := by
      refine List.filter_eq_nil_iff.mpr fun n hn => ?_
      have := hs n hn
      cases q : List.lookup n (ps.zip us ++ kw) with
      | none => rw [q] at this; cases this
      | some _ => simp
    have e2 : seqItems? Value.none = (pure none : Sem (Option (Array Value))) := rfl
    rw [e2, pure_bind]
    simp only [e0]
    simp only [Option.getD_none, List.length_nil, Nat.sub_zero, List.drop_nil, List.take_length, e1, List.isEmpty_nil, Bool.not_true, List.drop_length, List.zip_nil_left, List.forIn_nil, pure_bind, Nat.zero_sub, Bool.false_eq_true, if_false, ho]
  · simp only [a, b, Bool.true_or, if_true, Bool.false_eq_true, if_false]
theorem zipL_get {α β : Type} [BEq α] [LawfulBEq α] : ∀ {ks : List α} {vs : List β} {i : Nat} {k : α} {v : β}, ks.Nodup → ks[i]? = some k → vs[i]? = some v → (ks.zip vs).lookup k = some v
  | [], _, _, _, _, _, h, _ => by simp at h
  | _ :: _, [], _, _, _, _, _, h => by simp at h
  | k :: ks, v :: vs, 0, k', v', nd, h1, h2 => by
    simp at h1 h2; subst h1; subst h2
    simp [List.lookup]
  | k :: ks, v :: vs, i + 1, k', v', nd, h1, h2 => by
    obtain ⟨nk, nd⟩ := List.nodup_cons.mp nd
    have h1 : ks[i]? = some k' := by simpa using h1
    have hx : k' ∈ ks := List.mem_of_getElem? h1
    have ne : (k' == k) = false := beq_eq_false_iff_ne.mpr fun z => nk (z ▸ hx)
    rw [List.zip_cons_cons, List.lookup_cons, ne]
    exact zipL_get (i := i) nd h1 (by simpa using h2)
theorem zip_cut {α β : Type} : ∀ (ps : List α) (us : List β), ps.zip us = (ps.take us.length).zip us
  | [], us => by simp
  | _ :: _, [] => by simp
  | p :: ps, u :: us => by simp [← zip_cut ps us]
/-- m by place, ks by name: the parameters ps get the places pm -/
def kwOk (ps : List Str) (m : Nat) (ks : List Str) (pm : List Nat) : Bool :=
  decide (m ≤ ps.length) && decide ((ps.take m ++ ks).Nodup) && decide (pm.map (fun i => (ps.take m ++ ks)[i]?) = ps.map some) && ks.all (fun x => ps.contains x)
theorem kw_go {ps : List Str} : ∀ {ks : List Str} {ws : List Value} {done : List Str} {s : Sl}, ks.length = ws.length → (done ++ ks).Nodup → s.map (·.1) = done → ks.all (fun x => ps.contains x) = true → KwGo ps (ks.zip ws) s
  | [], _, _, _, _, _, _, _ => trivial
  | k :: ks, [], _, _, h, _, _, _ => by cases h
  | k :: ks, w :: ws, done, s, h, nd, e, hc => by
    rw [List.all_cons, Bool.and_eq_true] at hc
    refine ⟨hc.1, ?_, kw_go (done := done ++ [k]) (by simpa using h) (by simpa using nd) (by simp [e]) hc.2⟩
    cases q : s.lookup k with
    | none => rfl
    | some v =>
      have hm := PySem.mem_of_lookup q
      have hk : k ∈ done := by rw [← e]; exact List.mem_map.mpr ⟨_, hm, rfl⟩
      have := (List.nodup_append.mp nd).2.2 k hk k (by simp)
      exact absurd rfl this
theorem fm_zip {ps : List Str} {l : Sl} : ∀ {zs : List Value}, ps.length = zs.length → (∀ (j : Nat) n z, ps[j]? = some n → zs[j]? = some z → l.lookup n = some z) → ps.filterMap (fun n => (l.lookup n).map (n, ·)) = ps.zip zs := by
  induction ps with
  | nil => intro zs h _; cases zs <;> rfl
  | cons p ps ih =>
    intro zs h k
    cases zs with
    | nil => cases h
    | cons z zs =>
      have e := k 0 p z rfl rfl
      rw [List.filterMap_cons, e, List.zip_cons_cons]
      show (p, z) :: _ = _
      rw [ih (zs := zs) (by simpa using h) fun j n z a b => k (j + 1) n z (by simpa using a) (by simpa using b)]
theorem kw_bind {name qual : Str} {pars : Arguments} {body : List Stmt} {scope : Scope} {kV doc pm cdv ct : Value} {an : Option Addr} {us ws zs : List Value} {ps ks : List Str} {m : Nat} {p : List Nat}
    (h1 : pars.posonlyargs = []) (h2 : pars.args.map (·.arg) = ps) (h3 : pars.vararg = none) (h4 : pars.kwonlyargs = []) (h5 : pars.kwarg = none) (hk : kwOk ps m ks p = true) (hu : us.length = m) (hw : ws.length = ks.length) (hz : PickV (us ++ ws) p zs) :
    bindArgs (PySem.W.fnOf name qual pars body scope .none kV doc pm an cdv ct) ⟨us, ks.zip ws⟩ = pure (ps.zip zs) := by
  unfold kwOk at hk
  simp only [Bool.and_eq_true, decide_eq_true_eq] at hk
  obtain ⟨⟨⟨k1, k2⟩, k3⟩, k4⟩ := hk
  have e1 : ps.zip us = (ps.take m).zip us := by
    rw [← hu]
    exact zip_cut ps us
  have e2 : ps.zip us ++ ks.zip ws = (ps.take m ++ ks).zip (us ++ ws) := by
    rw [e1, List.zip_append (by rw [List.length_take]; omega)]
  have lz : ps.length = zs.length := by
    have a := congrArg List.length k3
    have b := hz.len
    simp at a; omega
  have key : ∀ (j : Nat) n z, ps[j]? = some n → zs[j]? = some z → (ps.zip us ++ ks.zip ws).lookup n = some z := by
    intro j n z a b
    rw [e2]
    have c : (p.map fun i => (ps.take m ++ ks)[i]?)[j]? = some (some n) := by rw [k3, List.getElem?_map, a]; rfl
    rw [List.getElem?_map] at c
    cases q : p[j]? with
    | none => rw [q] at c; cases c
    | some i =>
      rw [q] at c
      have c : (ps.take m ++ ks)[i]? = some n := by simpa using c
      unfold PickV at hz
      have d : (zs.map some)[j]? = some (some z) := by rw [List.getElem?_map, b]; rfl
      rw [hz, List.getElem?_map, q] at d
      have d : (us ++ ws)[i]? = some z := by simpa using d
      exact zipL_get k2 c d
  refine bind_any h1 h2 h3 h4 h5 (by omega) ?_ ?_ (fm_zip lz key)
  · refine kw_go (done := ps.take m) hw.symm k2 ?_ k4
    rw [e1, List.map_fst_zip (by rw [List.length_take]; omega)]
  · intro n hn
    obtain ⟨j, hj⟩ := List.getElem?_of_mem hn
    have hj2 : j < zs.length := by rw [← lz]; exact (List.getElem?_eq_some_iff.mp hj).1
    rw [key j n _ hj (List.getElem?_eq_getElem hj2)]; rfl
theorem pl_bind {name qual : Str} {pars : Arguments} {body : List Stmt} {scope : Scope} {kV doc pm cdv ct : Value} {an : Option Addr} {us : List Value} {ps : List Str}
    (h1 : pars.posonlyargs = []) (h2 : pars.args.map (·.arg) = ps) (h3 : pars.vararg = none) (h4 : pars.kwonlyargs = []) (h5 : pars.kwarg = none) (nd : ps.Nodup) (hl : us.length = ps.length) :
    bindArgs (PySem.W.fnOf name qual pars body scope .none kV doc pm an cdv ct) ⟨us, []⟩ = pure (ps.zip us) := by
  have key : ∀ (j : Nat) n z, ps[j]? = some n → us[j]? = some z → (ps.zip us ++ []).lookup n = some z := fun j n z a b => by
    rw [List.append_nil]; exact zipL_get nd a b
  refine bind_any h1 h2 h3 h4 h5 (by omega) trivial (fun n hn => ?_) (fm_zip hl.symm key)
  obtain ⟨j, hj⟩ := List.getElem?_of_mem hn
  have hj2 : j < us.length := by rw [hl]; exact (List.getElem?_eq_some_iff.mp hj).1
  rw [key j n _ hj (List.getElem?_eq_getElem hj2)]; rfl
end Dp
end

section
set_option Elab.async false
set_option linter.all false
set_option autoImplicit false
set_option maxRecDepth 100000
set_option maxHeartbeats 4000000
/-! DpQ: classes with an __init__ of their own: checks, then the stores of the fields. -/
namespace Dp
open PySem PySem.Spec PyProof.Rows L2
def putAll : List (Str × V) → List (Str × V) → List (Str × V)
  | fs, [] => fs
  | fs, q :: r => putAll (putF q.1 q.2 fs) r
theorem putF_new {f : Str} {v : V} : ∀ {fs : List (Str × V)}, f ∉ fs.map (·.1) → putF f v fs = fs ++ [(f, v)]
  | [], _ => rfl
  | (g, x) :: r, h => by
    have h1 : g ≠ f := fun z => h (by simp [z])
    have h2 : f ∉ r.map (·.1) := fun z => h (by simp at z ⊢; exact .inr z)
    show (if g = f then (g, v) :: r else (g, x) :: putF f v r) = _
    rw [if_neg h1, putF_new h2]; rfl
theorem putAll_new : ∀ {l fs : List (Str × V)}, ((fs ++ l).map (·.1)).Nodup → putAll fs l = fs ++ l
  | [], fs, _ => by simp [putAll]
  | q :: r, fs, h => by
    have h' : (((fs ++ [q]) ++ r).map (·.1)).Nodup := by simpa using h
    have nf : q.1 ∉ fs.map (·.1) := by
      intro z
      rw [List.map_append, List.nodup_append] at h
      exact h.2.2 q.1 z q.1 (by simp) rfl
    show putAll (putF q.1 q.2 fs) r = _
    rw [putF_new nf]
    show putAll (fs ++ [q]) r = _
    rw [putAll_new h']; simp
/-- self.f = x, ..: names and slots -/
def stB (kx : Kx) : List Stmt → List (Str × Nat) → Bool
  | [], [] => true
  | .Assign [.Attribute (.Name s _) f _] (.Name x _) _ :: r, (g, i) :: l => decide (f = g) && (decide (ixOf kx.N s = some 0) && kx.vis s) && (decide (ixOf kx.N x = some i) && kx.vis x) && stB kx r l
  | _, _ => false
/-- the stores -/
def sSt (K : PySem.W.Frag) (st : List (Str × Nat)) : TS := fun D σ H => ∃ (a C dx : Addr) (fs : List (Str × V)) (vs : List V), σ[0]? = some (some (.ref a)) ∧ H a = some (.ins C dx fs) ∧ L2.Cls K C ∧ (∀ q ∈ st, NoAttr K C q.1) ∧ fs.length + st.length < 1000 ∧
  vs.map (fun v => some (some v)) = st.map (fun q => σ[q.2]?) ∧ D.nx σ (upd H a (.ins C dx (putAll fs ((st.map (·.1)).zip vs))))
theorem pss_st {X : Cx} {kx : Kx} (hN : kx.N = X.N) (vis : ∀ x, kx.vis x = true → Vis X.env.scope x ∧ (x == ("__debug__" : Str)) = false ∧ (x == ("__classdict__" : Str)) = false) :
    ∀ {l : List Stmt} {st : List (Str × Nat)}, stB kx l st = true → PSs X l (sSt X.K st)
  | [], [], _ => by
    refine ⟨fun pins s σ H Dn I ⟨a, C, dx, fs, vs, h1, h2, h3, h4, h5, h6, h7⟩ => ?_⟩
    have e : vs = [] := by cases vs <;> first | rfl | cases h6
    subst e
    refine pss_nil.run pins s σ H Dn I ?_
    have e2 : upd H a (.ins C dx fs) = H := by
      funext b; unfold upd; split
      · rename_i z; rw [z, h2]
      · rfl
    rw [show putAll fs ((([] : List (Str × Nat)).map (·.1)).zip []) = fs from rfl, e2] at h7
    exact h7
  | st :: r, [], h => by
    unfold stB at h
    split at h <;> first | cases h; done | simp_all
  | [], q :: l, h => by cases h
  | st :: r, (g, i) :: l, h => by
    unfold stB at h
    split at h
    · rename_i e1 e2; cases e1
    · rename_i s p0 f p1 x p2 p3 r' g' i' l' e1 e2
      cases e1; cases e2
      simp only [Bool.and_eq_true, decide_eq_true_eq] at h
      obtain ⟨⟨⟨hf, hs, vs⟩, hx, vx⟩, hr⟩ := h
      subst hf
      obtain ⟨a1, a2, a3⟩ := vis s vs
      obtain ⟨b1, b2, b3⟩ := vis x vx
      have n0 := ixOf_ok hs
      have n1 := ixOf_ok hx
      rw [hN] at n0 n1
      have w1 : PS X (.Assign [.Attribute (.Name s p0) f p1] (.Name x p2) p3) (sFld X.K (tVar 0) (tVar i) f) := ps_fld (pe_var n0 a1 a2 a3) (pe_var n1 b1 b2 b3) (noSwap rfl)
      have ih := pss_st hN vis hr
      refine ⟨fun pins s σ H Dn I ⟨a, C, dx, fs, vs, h1, h2, h3, h4, h5, h6, h7⟩ => (pss_cons w1 ih).run pins s σ H Dn I ?_⟩
      cases vs with
      | nil => cases h6
      | cons v vs =>
        simp only [List.map_cons, List.cons.injEq] at h6
        refine ⟨v, h6.1.symm, .ref a, h1, a, C, dx, fs, rfl, h2, h3, h4 (f, i) (by simp), by simp at h5; omega, ?_⟩
        have hl := length_putF f v fs
        refine ⟨a, C, dx, putF f v fs, vs, h1, upd_same, h3, fun q hq => h4 q (by simp [hq]), by simp at h5; omega, h6.2, ?_⟩
        rw [upd_upd]
        exact h7
    · cases h
theorem execs_append (l2 : List Stmt) (env : PySem.Env) : ∀ l1 : List Stmt, execs (l1 ++ l2) env = (do match ← execs l1 env with | .next => execs l2 env | f => pure f)
  | [] => by
    show execs l2 env = _
    rw [execs_nil, pure_bind]
  | st :: r => by
    rw [List.cons_append, execs_cons, execs_cons, bind_assoc]
    congr 1
    funext f
    cases f with
    | next => exact execs_append l2 env r
    | ret v => rw [pure_bind]
    | brk => rw [pure_bind]
    | cont => rw [pure_bind]
theorem pss_append {X : Cx} {l1 l2 : List Stmt} {t u : TS} (h1 : PSs X l1 t) (h2 : PSs X l2 u) : PSs X (l1 ++ l2) (tSeq t u) := by
  refine ⟨fun pins s σ H D I h => ?_⟩
  rw [execs_append]
  refine wpAny_bind (thn (h1.run pins s σ H { D with nx := u D } I h) fun f s1 q => ?_)
  cases f with
  | next =>
    obtain ⟨σ', H', I', q⟩ := q
    exact h2.run pins s1 σ' H' D I' q
  | ret v => exact wpAny_pure q
  | brk => exact wpAny_pure q
  | cont => exact wpAny_pure q
/-- the new instance ahead of the arguments -/
def spInit (g : Gd) (C : Addr) (np : Nat) (call : List D → T D) : Sp := fun vs0 H0 Q0 E => ∃ (x dx : Addr) (H : Hp) (vs : List V) (Q : VK), vs0 = .ref x :: vs ∧ H0 = upd (upd H dx (.own x)) x (.ins C dx []) ∧ H x = none ∧ H dx = none ∧ dx ≠ x ∧ (∀ H', Q (.ref x) H' → Q0 .non H') ∧ spD g np call vs H Q E
section
variable {g : Gd} {X : Cx}
theorem run_mk {W : WX} {k : Nat} {fI C : Addr} {fd : FuncData} {ps0 : List Str} {pins : List (Addr × Obj)} {σ : L2.St} {H : Hp} {s : Shared} {Q : VK} {us zs : List Value} {kw : List (Str × Value)} {vs : List V} {np : Nat} {call : List D → T D}
    (M : Mk X.K C fI) (F : FnG X.prog X.w X.K X.mg X.base k fI fd ps0 (spInit g C np call)) (hr : Room (k + 1) X.A) (hg : X.A.guards = some []) (tk : L2.Takes X W) (I : L2.Inv X pins σ H s)
    (hb : ∀ (s : Shared) (u : Value), X.K.In s.heap → BindsTo s fd ⟨u :: us, kw⟩ (ps0.zip (u :: zs))) (r : Vals vs zs) (h : spD g np call vs H Q (fun cls dd H' => W cls dd σ H')) :
    wpAny (model X.prog X.w) X.A (PySem.call (.ref C) us kw) (EP X pins σ Q) X.xe s := by
  have hq : spInit g C np call (.ref (s.heap.objs.size + 1) :: vs) (upd (upd H s.heap.objs.size (.own (s.heap.objs.size + 1))) (s.heap.objs.size + 1) (.ins C s.heap.objs.size [])) (fun v H2 => v = .non ∧ Q (.ref (s.heap.objs.size + 1)) H2) (fun cls dd H' => W cls dd σ H') :=
    ⟨_, _, H, vs, Q, rfl, rfl, I.hok.fresh (Nat.le_succ _), I.hok.fresh (Nat.le_refl _), Nat.ne_of_lt (Nat.lt_succ_self _), fun H' q => ⟨rfl, q⟩, h⟩
  have I2 := Inv.made (C := C) I
  have r2 : Vals (V.ref (s.heap.objs.size + 1) :: vs) (Value.ref (s.heap.objs.size + 1) :: zs) := .cons rfl r
  have gu : (X.A.under (.builtin "type.__call__" ⟨.ref C :: us, kw⟩)).guards = some [] := by
    unfold Around.under pushGuards
    rw [hg]
    rfl
  refine wpAny_call (make_map (f := fI) I.kIn M.makes M.init (beq_iff_eq.mp M.fn) (codeAny_mono (F.go _ X.stack _ _ ⟨Value.ref (s.heap.objs.size + 1) :: us, kw⟩ (Value.ref (s.heap.objs.size + 1) :: zs) _ _ _ (hr.make C us kw) gu
    (I2.env0.make C us kw) (hb _ (Value.ref (s.heap.objs.size + 1)) I2.kIn) r2 hq) fun r s' hq' => ?_))
  cases r with
  | error e => exact tk _ _ (XE.of_call I2 (fun _ _ _ h => h) hq')
  | ok fl =>
    cases fl with
    | ret u =>
      obtain ⟨v, H', I3, rv, ev, q3⟩ := I2.after hq'
      subst ev
      exact ⟨rv, ⟨V.ref (s.heap.objs.size + 1), H', I3, rfl, q3⟩⟩
    | next => exact False.elim hq'
    | brk => exact False.elim hq'
    | cont => exact False.elim hq'
/-- the new instance, as long as no field is stored -/
def selfLm (g : Gd) (x C dx : Addr) : Lm g where
  L := fun _ v H => v = .ref x ∧ H x = some (.ins C dx []) ∧ ¬ g.sp x
  ext := fun k v H H' ⟨a, b, c⟩ e => ⟨a, (e x _ b).resolve_left c, c⟩
  grow := fun k v H H' ⟨a, b, c⟩ e => ⟨a, ((e x _ b).elim (fun z => z) (fun ⟨_, _, _, z, _⟩ => by cases z)), c⟩
theorem start_cons {N : List Str} {v : V} {vs : List V} (h : 0 < N.length) : L2.start N (v :: vs) = some v :: L2.start N.tail vs := by
  unfold L2.start
  rw [List.length_tail]
  show some v :: (vs.map some ++ List.replicate (N.length - (vs.length + 1)) none) = _
  rw [show N.length - (vs.length + 1) = N.length - 1 - vs.length by omega]
theorem env_self {x C dx : Addr} {F H : Hp} {H0 : Hp} {N : List Str} {vs : List V} {ds : List D} (hx : H x = some (.ins C dx [])) (ns : ¬ g.sp x) (r : Reps g.r F ds vs) (hn : vs.length + 1 ≤ N.length) :
    EnvOk g (selfLm g x C dx) H0 F H (L2.start N (.ref x :: vs)) (.lm 0 :: entry (N.length - 1) ds) := by
  have e := env_entry (g := g) (M := selfLm g x C dx) (H0 := H0) (F := F) (H := H) (N := N.tail) r (by rw [List.length_tail]; omega)
  rw [List.length_tail] at e
  rw [start_cons (by omega)]
  refine ⟨by simp [e.len], fun i => ?_, fun i j l m p ne e1 e2 h1 h2 => ?_⟩
  · cases i with
    | zero => exact ⟨.ref x, rfl, (show (_ ∧ _ ∧ _) from ⟨rfl, hx, ns⟩)⟩
    | succ i => exact e.at_ i
  · cases i with
    | zero => exact absurd e1 (by intro z; cases z)
    | succ i =>
      cases j with
      | zero => exact absurd e2 (by intro z; cases z)
      | succ j => exact e.apart i j l m p (fun z => ne (by rw [z])) e1 e2 h1 h2
theorem slotsD_ok {M : Lm g} {H0 F H : Hp} {σ : L2.St} {δ : Env} (en : EnvOk g M H0 F H σ δ) : ∀ {fl : List Nat} {ds : List D}, slotsD δ fl = some ds → ∃ vs : List V, Reps g.r F ds vs ∧ vs.map (fun v => some (some v)) = fl.map (fun i => σ[i]?)
  | [], ds, h => by cases h; exact ⟨[], .nil, rfl⟩
  | i :: fl, ds, h => by
    unfold slotsD at h
    split at h
    · rename_i d ds' e1 e2
      cases h
      obtain ⟨vs, h1, h2⟩ := slotsD_ok en e2
      have := en.at_ i
      rw [e1] at this
      obtain ⟨v, a, b⟩ := this
      exact ⟨v :: vs, .cons b h1, by simp [h2, a]⟩
    · cases h
theorem fnG_init {P : Program} {w : World} {K : PySem.W.Frag} {mg : Str → Option Value} {base : Heap} {k : Nat} {fI : Addr} {N ps : List Str} {scope : Scope} {body pre post : List Stmt} {fd : FuncData} {cc : Dp.C} {tm : Fd} {c : Nat} {st : List (Str × Nat)}
    (da : DefAt K fI N ps scope body fd) (ok : g.Ok) (hp : 0 < ps.length) (hns : tm.ns = N.length) (hK : g.r.K = K) (cls : L2.Cls K (g.r.ca c)) (na : ∀ q ∈ st, NoAttr K (g.r.ca c) q.1) (hfs : g.r.fs c = st.map (·.1)) (nd : (st.map (·.1)).Nodup) (hl : st.length < 1000) (hbody : body = pre ++ post)
    (hb : ∀ (A : Around) (up : List PySem.Env) (s : Shared) (H : Hp) (E : XK) (qual : Str) (cdv : Value) (M : Lm g), RoomI k (A.deeper (envOfC qual scope s.heap.objs.size fI cdv)) → A.guards = some [] →
      PSs (cxOf (L2.CX P w) P w K mg base N qual scope fI cdv A up s H E) pre (sD g M (fun cls d _ H' => E cls d H') (fun δ => exl { cc with lam := fun e δ => .need (decide (wE e ≤ lcap)) (ev { cc with lam := fun _ _ => .bad } e δ) } tm.body δ)) ∧
      PSs (cxOf (L2.CX P w) P w K mg base N qual scope fI cdv A up s H E) post (sSt K st)) :
    FnG P w K mg base (k + 1) fI fd ps (spInit g (g.r.ca c) (ps.length - 1) (runMk cc c tm (st.map (·.2)))) := by
  obtain ⟨name, qual, pars, dV, kV, doc, pm, cdv, ct, oc, an, od, osl, rfl, lk, hc⟩ := da.ex
  have hpl : ps.length ≤ N.length := by have := congrArg List.length da.sc.pre; rw [List.length_take] at this; omega
  refine fnG_of lk hc da.sc (fun vs H Q E q => ?_) fun A up s H0 vs0 Q0 E room gu q => ?_
  · obtain ⟨x, dx, H, vs', Q', rfl, _, _, _, _, _, hn, _⟩ := q
    simp; omega
  obtain ⟨x, dx, H, vs, Q, rfl, rfl, hx, hdx, hne, hQ, hn, nn, F, ds, gi, sb, ns, r, wp⟩ := q
  have h1 : Step g F H nn F (upd H dx (.own x)) := Step.laid ok gi sb ns hdx
  have hx1 : (upd H dx (.own x)) x = none := by rw [upd_ne (Ne.symm hne)]; exact hx
  have h2 : Step g F (upd H dx (.own x)) nn F (upd (upd H dx (.own x)) x (.ins (g.r.ca c) dx [])) := Step.laid ok h1.gi h1.frz ns hx1
  have nsx : ¬ g.sp x := nsp_new ok gi hx
  obtain ⟨p1, p2⟩ := hb A up s (upd (upd H dx (.own x)) x (.ins (g.r.ca c) dx [])) E qual cdv (selfLm g x (g.r.ca c) dx) room gu
  rw [hbody]
  refine ⟨_, pss_append p1 p2, nn, F, _, F, .lm 0 :: entry (N.length - 1) ds, .refl h2.gi h2.frz ns, env_self upd_same nsx r (by omega), ?_⟩
  unfold runMk at wp
  obtain ⟨_, wp⟩ := T.wp_need.mp wp
  rw [hns] at wp
  refine T.wp_mono (fun k1 fw hf => ?_) (fun _ c l h => fun cls dd _ F' H' s' rx => h cls dd F' H' ((h1.trans h2).trans s') rx) (T.wp_bind.mp wp)
  cases fw with
  | ret d => exact hf.elim
  | brk δ => exact hf.elim
  | ct δ => exact hf.elim
  | nx δ =>
    intro σ' F' H' s' en
    have hf : T.wp k1 (match look δ 0, slotsD δ (st.map (·.2)) with | .lm 0, some l => T.ret (D.ins c l) | _, _ => T.bad) (fun k d => ∀ v F' H', Step g F H k F' H' → Rep g.r F' d v → Q v H') (fun k c l => ∀ cls dd F' H', Step g F H k F' H' → RepX g F' c l cls dd → E cls dd H') := hf
    split at hf
    · rename_i l e0 e1
      have h0 := en.at_ 0
      rw [e0] at h0
      obtain ⟨v, ev, rfl, hxx, _⟩ := h0
      obtain ⟨ws, rw1, rw2⟩ := slotsD_ok en e1
      have hlen : ws.length = st.length := by have := congrArg List.length rw2; simpa using this
      have nd2 : (((st.map (·.1)).zip ws).map (·.1)).Nodup := by
        rw [List.map_fst_zip (by simp [hlen])]; exact nd
      refine ⟨x, g.r.ca c, dx, [], ws, ev, hxx, cls, na, by simp; omega, by rw [rw2, List.map_map]; rfl, ?_⟩
      rw [putAll_new (by simpa using nd2), List.nil_append]
      have fx : F' x = none := by
        cases q : F' x with
        | none => rfl
        | some u =>
          rcases s'.new x u q with ⟨o, z⟩ | z | ⟨u', z, nl⟩
          · have := sb x o z; rw [hx] at this; cases this
          · rw [upd_same] at z; cases z
          · rw [upd_same] at z; cases z; exact absurd rfl (nl.2 _ _ _)
      refine hQ _ (hf (.ref x) (upd F' x (.ins (g.r.ca c) dx ((st.map (·.1)).zip ws))) (upd H' x (.ins (g.r.ca c) dx ((st.map (·.1)).zip ws))) ?_ ?_)
      · have s0 := (h1.trans h2).trans s'
        refine ⟨ok.ins _ _ _ _ _ _ _ s0.gi hxx, fun a o e => ?_, fun a o e => ?_, fun a o e => ?_, fun a o e => ?_, fun a o e => ?_⟩
        · have ne : a ≠ x := fun z => by rw [z, hx] at e; cases e
          rcases s0.ext a o e with z | z
          · exact .inl z
          · exact .inr (by rw [upd_ne ne]; exact z)
        · have ne : a ≠ x := fun z => by
            have := sb a o e
            rw [z, hx] at this; cases this
          rw [upd_ne ne]; exact s0.sub a o e
        · by_cases z : a = x
          · subst z; rw [upd_same] at e; rw [upd_same]; exact e
          · rw [upd_ne z] at e; rw [upd_ne z]; exact s0.frz a o e
        · by_cases z : a = x
          · subst z; exact nsx
          · rw [upd_ne z] at e; exact s0.nsp a o e
        · by_cases z : a = x
          · subst z; exact .inr (.inl hx)
          · rw [upd_ne z] at e; exact s0.new a o e
      · unfold Rep
        refine ⟨x, dx, ws, rfl, ?_, by rw [hfs]; simp [hlen], ?_⟩
        · rw [upd_same, hfs]
        · exact rw1.mono (sub_upd fx)
    · exact hf.elim
end
end Dp
end

section
set_option Elab.async false
set_option linter.all false
set_option autoImplicit false
set_option maxRecDepth 100000
set_option maxHeartbeats 4000000
/-! Dp18: the text's defs by their terms. -/
namespace Dp
open PySem PySem.Spec PyProof.Rows L2

structure DefE where
  params : Arguments
  body : List Stmt
  scope : Scope
  N : List Str
  ps : List Str
  own : List Str
  kws : List (Nat × List Str × List Nat)
  tm : Fd
  /-- a class's __init__: the class, its fields by slots -/
  ini : Option (Nat × List (Str × Nat)) := none
  /-- the method's name, where it stands in a class -/
  mt : Option Str := none
namespace DefE
def st (d : DefE) : List (Str × Nat) := match d.ini with | some (_, l) => l | none => []
def pre (d : DefE) : List Stmt := d.body.take (d.body.length - d.st.length)
def post (d : DefE) : List Stmt := d.body.drop (d.body.length - d.st.length)
def fn (d : DefE) : Fn := match d.ini with | some (c, l) => .mk c d.tm (l.map (·.2)) | none => .fd d.tm
def np (d : DefE) : Nat := match d.ini with | some _ => d.ps.length - 1 | none => d.ps.length
def kwB (d : DefE) : Bool := match d.ini with
  | some _ => d.kws.all fun e => kwOk d.ps (e.1 + 1) e.2.1 (0 :: e.2.2.map (· + 1))
  | none => d.kws.all fun e => kwOk d.ps e.1 e.2.1 e.2.2
def mkB (d : DefE) : Bool := match d.ini with
  | some (_, l) => decide (0 < d.ps.length) && decide ((l.map (·.1)).Nodup) && decide (l.length < 1000) && decide (l ≠ [])
  | none => true
end DefE
/-- a text: its defs (none: the draw), its globals, what it raises, its terms, the draw's def, the place of the one that it calls -/
structure Mo where
  tab : List (Option DefE)
  gl : List (Str × GV)
  rs : List Nat
  P : Prg
  dr : DefE
  bl : Nat
  fsl : List (Nat × List Str) := []
namespace Mo
def np (m : Mo) (f : Nat) : Nat := match m.tab[f]? with | some (some d) => d.np | _ => 2
def kw (m : Mo) (f : Nat) : List (Nat × List Str × List Nat) := match m.tab[f]? with | some (some d) => d.kws | _ => []
def fs (m : Mo) (c : Nat) : List Str := (m.fsl.lookup c).getD []
def cf (m : Mo) (f : Nat) : Option Nat := match m.tab[f]? with | some (some d) => d.ini.map (·.1) | _ => none
def kx (m : Mo) (d : DefE) : Kx := ⟨d.N, d.scope, fun _ => true, d.own, m.gl, m.np, m.kw, fun c => decide (c ∈ m.rs), false, m.cf⟩
end Mo
/-- the place of a field; behind a thousand: the def for == -/
def fldN (fsl : List (Nat × List Str)) (eq : Nat → Nat) (c : Nat) (x : Str) : Nat := if x = ("__eq__" : Str) then 1000 + eq c else match ixOf ((fsl.lookup c).getD []) x with | some i => i | none => 1000
theorem fldN_ok {fsl : List (Nat × List Str)} {eq : Nat → Nat} {c : Nat} {x : Str} (hl : ((fsl.lookup c).getD []).length ≤ 1000) (h : fldN fsl eq c x < ((fsl.lookup c).getD []).length) : ((fsl.lookup c).getD [])[fldN fsl eq c x]? = some x := by
  unfold fldN at h ⊢
  split
  · rename_i e; rw [if_pos e] at h; omega
  · rename_i e
    rw [if_neg e] at h
    split
    · rename_i i hi; exact ixOf_ok hi
    · rename_i hi; rw [hi] at h; dsimp only at h; omega
/-- a def's entry is well made -/
structure DefE.Ok (m : Mo) (d : DefE) : Prop where
  a1 : d.params.posonlyargs = []
  a2 : d.params.args.map (·.arg) = d.ps
  a3 : d.params.vararg = none
  a4 : d.params.kwonlyargs = []
  a5 : d.params.kwarg = none
  sc : C8.scC d.N d.ps d.scope = true
  kw : d.kwB = true
  np : d.tm.np = d.ps.length
  ns : d.tm.ns = d.N.length
  tm : cSs (m.kx d) 200 d.pre = some d.tm.body
  po : stB (m.kx d) d.post d.st = true
  iok : d.mkB = true
/-- classes that are raised -/
structure RsK (K : PySem.W.Frag) (C : Addr) : Prop where
  ex : ∃ (B newId initId : String) (bmB : List Value), ExcBaseFacts B newId initId bmB ∧ PySem.W.excIn K C bmB newId = true
  kp : PySem.W.keepIn K (.ref C) = true
  sb : PySem.W.subIn K (.ref C) (.type "BaseException") = some true
  ty : PySem.W.typeIn K (.ref C) = some (.type "type")
def GlK (g : Gd) (con : Nat → D) (mg : Str → Option Value) (x : Str) : GV → Prop
  | .fn f => mg x = some (.ref (g.r.fa f))
  | .cls c => mg x = some (.ref (g.r.ca c))
  | .con i => ∃ v u, mg x = some u ∧ RelV v u ∧ ∀ F, Rep g.r F (con i) v
  | .cau => True
/-- where a def's code stands -/
def FnK (g : Gd) (f : Nat) (d : DefE) : Prop := match d.ini with
  | none => ∃ (name qual : Str) (fd : FuncData), FunD g.r.K name qual d.params d.body d.scope [] [] (g.r.fa f) fd
  | some (c, l) => g.r.fa f = g.r.ca c ∧ L2.Cls g.r.K (g.r.ca c) ∧ (∀ q ∈ l, NoAttr g.r.K (g.r.ca c) q.1) ∧ g.r.fs c = l.map (·.1) ∧ ∃ (name qual : Str) (fd : FuncData) (fI : Addr), FunD g.r.K name qual d.params d.body d.scope [] [] fI fd ∧ Mk g.r.K (g.r.ca c) fI
structure Fx (m : Mo) (g : Gd) (mg : Str → Option Value) : Prop where
  ok : g.Ok
  kok : KOk g m.P.G
  gl : ∀ x v, m.gl.lookup x = some v → GlK g m.P.con mg x v
  bl : ∀ x ∈ bls, m.gl.lookup x = none → mg x = none
  rs : ∀ c ∈ m.rs, RsK g.r.K (g.r.ca c)
  df : ∀ f d, m.tab[f]? = some (some d) → d.Ok m ∧ m.P.fns f = d.fn ∧ FnK g f d
  tb : ∀ x f, m.gl.lookup x = some (.fn f) → m.tab[f]? ≠ none
  st : StG g
  fk : ∀ c x, m.P.fld c x < (g.r.fs c).length → (g.r.fs c)[m.P.fld c x]? = some x ∧ (g.r.fs c).Nodup ∧ L2.Cls g.r.K (g.r.ca c) ∧ NoAttr g.r.K (g.r.ca c) x
  eqk : ∀ c f, c < m.P.G.n → m.P.G.eq c = some f → (∃ d, m.tab[f]? = some (some d) ∧ d.ini = none ∧ d.ps.length = 2) ∧ PySem.W.findIn g.r.K (.ref (g.r.ca c)) "__eq__" = some (some (.ref (g.r.fa f))) ∧ PySem.W.isFn g.r.K (.ref (g.r.fa f)) = true ∧
    PySem.W.findIn g.r.K (.ref (g.r.ca c)) "__ne__" = some (some (.builtin "object.__ne__")) ∧ PySem.W.mroIn g.r.K (g.r.ca c) (.type "object") = some true ∧ ∀ t, kdIn m.P.G t = true → PySem.W.notFirst g.r.K (g.r.ca c) (tyVal g t) = true
theorem Fx.cf {m : Mo} {g : Gd} {mg : Str → Option Value} (fx : Fx m g mg) {f c : Nat} (h : m.cf f = some c) : g.r.fa f = g.r.ca c := by
  unfold Mo.cf at h
  split at h
  · rename_i d hd
    obtain ⟨_, _, hF⟩ := fx.df f d hd
    unfold FnK at hF
    cases q : d.ini with
    | none => rw [q] at h; cases h
    | some z =>
      obtain ⟨c', l⟩ := z
      rw [q] at h hF
      cases h
      exact hF.1
  · cases h
section
variable {P : Program} {w : World} {mg : Str → Option Value} {base : Heap} {m : Mo} {g : Gd}
/-- the calls k deep -/
abbrev Cals (m : Mo) (g : Gd) (P : Program) (w : World) (mg : Str → Option Value) (base : Heap) (k : Nat) : Prop := ∀ f, (∃ x, m.gl.lookup x = some (.fn f)) → Cal g P w g.r.K mg base k f (m.np f) (m.P.run k f) (m.kw f)
/-- the == of the classes, k deep -/
abbrev Eqs (m : Mo) (g : Gd) (P : Program) (w : World) (mg : Str → Option Value) (base : Heap) (k : Nat) : Prop := ∀ c f, c < m.P.G.n → m.P.G.eq c = some f → EqI g P w g.r.K mg base k m.P.G (m.P.run k) c f
/-- the context of a def's body -/
theorem sok_of {k : Nat} {cc : Dp.C} {M : Lm g} {d : DefE} {f : Addr} {A : Around} {up : List PySem.Env} {s : Shared} {H : Hp} {E : XK} {qual : Str} {cdv : Value} (fx : Fx m g mg) (S : FnScope d.N d.ps d.scope) (h1 : cc.G = m.P.G) (h2 : cc.con = m.P.con) (h3 : cc.call = m.P.run k) (h4 : cc.fld = m.P.fld)
    (cal : Cals m g P w mg base k) (eqs : Eqs m g P w mg base k) (room : RoomI k (A.deeper (envOfC qual d.scope s.heap.objs.size f cdv))) (gu : A.guards = some []) : SOk g cc M (fun cls d _ H' => E cls d H') (m.kx d) (cxOf (L2.CX P w) P w g.r.K mg base d.N qual d.scope f cdv A up s H E) := by
  refine ⟨⟨⟨fx.ok, rfl, S.nd, rfl, gu, ?_⟩, ?_, rfl, rfl, fun _ _ => rfl, ?_, ⟨k, room, ?_⟩, ?_, fx.bl, ?_, fx.st, ⟨fun f c h => fx.cf h, fun c x h => by rw [h4] at h ⊢; exact fx.fk c x h⟩, ⟨k, room, by rw [h1, h3]; exact eqs⟩, (fun z => by cases z), (fun z => by cases z)⟩, S.kind, passes_of rfl⟩
  · have := room.1.un
    show (A.deeper _).units + 66 < cLine
    omega
  · rw [h1]; exact fx.kok
  · exact takes_of rfl rfl rfl rfl
  · intro f hf
    rw [h3]; exact cal f hf
  · intro x v hx
    have := fx.gl x v hx
    cases v with
    | fn f => exact this
    | cls c => exact this
    | con i => obtain ⟨a, b, q1, q2, q3⟩ := this; exact ⟨a, b, q1, q2, by rw [h2]; exact q3⟩
    | cau => trivial
  · intro c hc
    have hc : decide (c ∈ m.rs) = true := hc
    obtain ⟨a, b, q1, q2⟩ := fx.rs c (of_decide_eq_true hc)
    exact ⟨a, b, raises_own q1 q2⟩
theorem fng_of {k f : Nat} {d : DefE} (fx : Fx m g mg) (hd : m.tab[f]? = some (some d)) (hm : d.ini = none) (cal : Cals m g P w mg base k) (eqs : Eqs m g P w mg base k) :
    (∃ (fd : FuncData) (ps : List Str), ps.length = d.ps.length ∧ FnG P w g.r.K mg base (k + 1) (g.r.fa f) fd ps (spD g d.ps.length (m.P.run (k + 1) f)) ∧ (∀ (s : Shared) (us : List Value), g.r.K.In s.heap → us.length = d.ps.length → BindsTo s fd ⟨us, []⟩ (ps.zip us)) ∧
      ∀ e ∈ d.kws, ∀ (s : Shared) (us ws zs : List Value), g.r.K.In s.heap → us.length = e.1 → ws.length = e.2.1.length → PickV (us ++ ws) e.2.2 zs → BindsTo s fd ⟨us, e.2.1.zip ws⟩ (ps.zip zs)) ∧ PySem.W.keepIn g.r.K (.ref (g.r.fa f)) = true := by
  obtain ⟨ok, hf, hF⟩ := fx.df f d hd
  have est : d.st = [] := by unfold DefE.st; rw [hm]
  have epre : d.pre = d.body := by unfold DefE.pre; rw [est]; simp
  have okw : d.kws.all (fun e => kwOk d.ps e.1 e.2.1 e.2.2) = true := by have := ok.kw; unfold DefE.kwB at this; rw [hm] at this; exact this
  have hf : m.P.fns f = .fd d.tm := by rw [hf]; unfold DefE.fn; rw [hm]
  obtain ⟨name, qual, fd, F⟩ : ∃ (name qual : Str) (fd : FuncData), FunD g.r.K name qual d.params d.body d.scope [] [] (g.r.fa f) fd := by unfold FnK at hF; rw [hm] at hF; exact hF
  have S := C8.fnScope_by ok.sc
  have hrun : m.P.run (k + 1) f = runBody ⟨m.P.G, m.P.run k, fun _ _ => .bad, m.P.fld, m.P.con⟩ d.tm := by
    funext ds
    unfold Prg.run
    rw [hf]
  obtain ⟨oc, od, dV, kV, doc, pm, an, cdv, ct, osl, rfl, lk, hcd, dfl, kwd⟩ := F.ex
  have edV : dV = .none := by
    rcases dfl with ⟨_, e⟩ | ⟨e, _⟩
    · exact e
    · exact absurd rfl e
  subst edV
  rw [hrun]
  refine ⟨⟨PySem.W.fnOf name qual d.params d.body d.scope .none kV doc pm an cdv ct, d.ps, rfl, ?_, fun s us _ hl => .of_eq (pl_bind ok.a1 ok.a2 ok.a3 ok.a4 ok.a5 ?_ hl), fun e he s us ws zs _ h1 h2 h3 => .of_eq (kw_bind ok.a1 ok.a2 ok.a3 ok.a4 ok.a5 (List.all_eq_true.mp okw e he) h1 h2 h3)⟩, F.kp⟩
  · refine fnG_D ⟨S, name, qual, d.params, .none, kV, doc, pm, cdv, ct, oc, an, od, osl, rfl, lk, hcd⟩ ok.np ok.ns fun A up s H E q2 cd2 room gu => ⟨noLm g, ?_⟩
    have := ok.tm
    rw [epre] at this
    exact (snt 200).fs (sok_of (k := k) fx S rfl rfl rfl rfl cal eqs room gu) this
  · have := S.pre
    rw [← this]
    exact S.nd.sublist (List.take_sublist _ _)
theorem cal_of {k f : Nat} {d : DefE} (fx : Fx m g mg) (hd : m.tab[f]? = some (some d)) (hm : d.ini = none) (cal : Cals m g P w mg base k) (eqs : Eqs m g P w mg base k) : Cal g P w g.r.K mg base (k + 1) f (m.np f) (m.P.run (k + 1) f) (m.kw f) := by
  have hnp : m.np f = d.ps.length := by unfold Mo.np; rw [hd]; show d.np = _; unfold DefE.np; rw [hm]
  have hkw : m.kw f = d.kws := by unfold Mo.kw; rw [hd]
  obtain ⟨h1, h2⟩ := fng_of fx hd hm cal eqs
  rw [hnp, hkw]
  exact .of h1 h2
theorem eq_of {k : Nat} (fx : Fx m g mg) (cal : Cals m g P w mg base k) (eqs : Eqs m g P w mg base k) : Eqs m g P w mg base (k + 1) := by
  intro c f hc hf
  obtain ⟨⟨d, hd, hi, hl⟩, e1, e2, e3, e4, e5⟩ := fx.eqk c f hc hf
  obtain ⟨⟨fd, ps, a1, a2, a3, _⟩, _⟩ := fng_of fx hd hi cal eqs
  rw [hl] at a1 a2 a3
  exact ⟨⟨fd, ps, a1, a2, a3⟩, e1, e2, e3, e4, e5⟩
theorem eq_0 (fx : Fx m g mg) : Eqs m g P w mg base 0 := by
  intro c f hc hf
  obtain ⟨⟨d, hd, hi, hl⟩, e1, e2, e3, e4, e5⟩ := fx.eqk c f hc hf
  obtain ⟨ok, _, hF⟩ := fx.df f d hd
  obtain ⟨name, qual, fd, F⟩ : ∃ (name qual : Str) (fd : FuncData), FunD g.r.K name qual d.params d.body d.scope [] [] (g.r.fa f) fd := by unfold FnK at hF; rw [hi] at hF; exact hF
  have S := C8.fnScope_by ok.sc
  obtain ⟨oc, od, dV, kV, doc, pm, an, cdv, ct, osl, rfl, lk, hcd, dfl, kwd⟩ := F.ex
  have edV : dV = .none := by
    rcases dfl with ⟨_, e⟩ | ⟨e, _⟩
    · exact e
    · exact absurd rfl e
  subst edV
  refine ⟨⟨PySem.W.fnOf name qual d.params d.body d.scope .none kV doc pm an cdv ct, d.ps, hl, ⟨fun vs H Q E h => h.1.trans hl.symm, fun A up s H ar us vs Q E _ _ _ _ _ h => ?_⟩, fun s us _ hl2 => .of_eq (pl_bind ok.a1 ok.a2 ok.a3 ok.a4 ok.a5 ?_ (hl2.trans hl.symm))⟩, e1, e2, e3, e4, e5⟩
  · obtain ⟨_, _, _, ds, _, _, _, _, wp⟩ := h
    exact wp.elim
  · have := S.pre
    rw [← this]
    exact S.nd.sublist (List.take_sublist _ _)
theorem pick_cons {α : Type} {l : List α} {u : α} {p : List Nat} {zs : List α} (h : PickV l p zs) : PickV (u :: l) (0 :: p.map (· + 1)) (u :: zs) := by
  unfold PickV at h ⊢
  simp only [List.map_cons, h, List.map_map]
  rfl
/-- a class, called -/
theorem cal_mk {k f c : Nat} {d : DefE} {l : List (Str × Nat)} (fx : Fx m g mg) (hd : m.tab[f]? = some (some d)) (hm : d.ini = some (c, l)) (cal : Cals m g P w mg base k) (eqs : Eqs m g P w mg base k) : Cal g P w g.r.K mg base (k + 2) f (m.np f) (m.P.run (k + 2) f) (m.kw f) := by
  obtain ⟨ok, hf, hF⟩ := fx.df f d hd
  have est : d.st = l := by unfold DefE.st; rw [hm]
  have okw : d.kws.all (fun e => kwOk d.ps (e.1 + 1) e.2.1 (0 :: e.2.2.map (· + 1))) = true := by have := ok.kw; unfold DefE.kwB at this; rw [hm] at this; exact this
  have hf : m.P.fns f = .mk c d.tm (l.map (·.2)) := by rw [hf]; unfold DefE.fn; rw [hm]
  unfold FnK at hF
  rw [hm] at hF
  obtain ⟨efa, hcls, hna, hfs, name, qual, fd, fI, F, M⟩ := hF
  have hmk := ok.iok
  unfold DefE.mkB at hmk
  rw [hm] at hmk
  simp only [Bool.and_eq_true, decide_eq_true_eq] at hmk
  obtain ⟨⟨⟨m1, m2⟩, m3⟩, _⟩ := hmk
  have S := C8.fnScope_by ok.sc
  have hnp : m.np f = d.ps.length - 1 := by unfold Mo.np; rw [hd]; show d.np = _; unfold DefE.np; rw [hm]
  have hkw : m.kw f = d.kws := by unfold Mo.kw; rw [hd]
  have hrun : m.P.run (k + 2) f = runMk ⟨m.P.G, m.P.run k, fun _ _ => .bad, m.P.fld, m.P.con⟩ c d.tm (l.map (·.2)) := by
    funext ds
    unfold Prg.run
    rw [hf]
  obtain ⟨oc, od, dV, kV, doc, pm, an, cdv, ct, osl, rfl, lk, hcd, dfl, kwd⟩ := F.ex
  have edV : dV = .none := by
    rcases dfl with ⟨_, e⟩ | ⟨e, _⟩
    · exact e
    · exact absurd rfl e
  subst edV
  have nd : d.ps.Nodup := by
    have := S.pre
    rw [← this]
    exact S.nd.sublist (List.take_sublist _ _)
  rw [hrun, hnp, hkw]
  have FG : FnG P w g.r.K mg base (k + 1) fI (PySem.W.fnOf name qual d.params d.body d.scope .none kV doc pm an cdv ct) d.ps (spInit g (g.r.ca c) (d.ps.length - 1) (runMk ⟨m.P.G, m.P.run k, fun _ _ => .bad, m.P.fld, m.P.con⟩ c d.tm (l.map (·.2)))) := by
    refine fnG_init (pre := d.pre) (post := d.post) ⟨S, name, qual, d.params, .none, kV, doc, pm, cdv, ct, oc, an, od, osl, rfl, lk, hcd⟩ fx.ok m1 ok.ns rfl hcls hna hfs m2 m3 (by unfold DefE.pre DefE.post; rw [List.take_append_drop]) fun A up s H E q2 cd2 M room gu => ?_
    have so := sok_of (M := M) (cc := ⟨m.P.G, m.P.run k, fun e δ => .need (decide (wE e ≤ lcap)) (ev ⟨m.P.G, m.P.run k, fun _ _ => .bad, m.P.fld, m.P.con⟩ e δ), m.P.fld, m.P.con⟩) (k := k) (up := up) (H := H) (E := E) fx S rfl rfl rfl rfl cal eqs room gu
    refine ⟨(snt 200).fs so ok.tm, ?_⟩
    have hpo := ok.po
    rw [est] at hpo
    refine pss_st (kx := m.kx d) rfl (fun x hv => ?_) hpo
    unfold Kx.vis at hv
    simp only [Bool.and_eq_true, Bool.not_eq_true'] at hv
    obtain ⟨⟨z, b⟩, e⟩ := hv
    refine ⟨?_, b, e⟩
    unfold Vis
    show d.scope.names.lookup x = _ ∨ d.scope.names.lookup x = _ ∨ d.scope.names.lookup x = _
    unfold Kx.kd at z
    have ez : (m.kx d).sc = d.scope := rfl
    rw [ez] at z
    split at z <;> simp_all
  refine ⟨fun X W pins σ s H us vs Q e1 e2 e3 e4 e5 hr hg tk I r h => ?_, fun e he X W pins σ s H us ws zs vs Q e1 e2 e3 e4 e5 hr hg tk I h1 h2 h3 r h => ?_, by rw [efa]; exact M.kp⟩
  · subst e1 e2 e4 e5
    rw [efa]
    rw [← e3] at FG M
    refine run_mk (g := g) M FG hr hg tk I (fun s u kin => ?_) r h
    refine .of_eq (pl_bind ok.a1 ok.a2 ok.a3 ok.a4 ok.a5 nd ?_)
    have := h.1
    rw [r.length] at this
    simp; omega
  · subst e1 e2 e4 e5
    rw [efa]
    rw [← e3] at FG M
    refine run_mk (g := g) M FG hr hg tk I (fun s u kin => ?_) r h
    exact .of_eq (kw_bind ok.a1 ok.a2 ok.a3 ok.a4 ok.a5 (List.all_eq_true.mp okw e he) (by simp [h1]) h2 (pick_cons h3))
/-- a def that goes wrong where no calls are left -/
theorem cal_bad {f np k : Nat} {call : List D → T D} {kws : List (Nat × List Str × List Nat)} (hbad : ∀ ds, call ds = .bad) (kp : PySem.W.keepIn g.r.K (.ref (g.r.fa f)) = true) : Cal g P w g.r.K mg base k f np call kws := by
  refine ⟨fun X W pins σ s H us vs Q e1 e2 e3 e4 e5 hr hg tk I r h => ?_, fun e he X W pins σ s H us ws zs vs Q e1 e2 e3 e4 e5 hr hg tk I h1 h2 h3 r h => ?_, kp⟩
  · obtain ⟨_, _, _, ds, _, _, _, _, wp⟩ := h
    rw [hbad] at wp
    exact wp.elim
  · obtain ⟨_, _, _, ds, _, _, _, _, wp⟩ := h
    rw [hbad] at wp
    exact wp.elim
theorem fnK_kp {f : Nat} {d : DefE} (h : FnK g f d) : PySem.W.keepIn g.r.K (.ref (g.r.fa f)) = true := by
  unfold FnK at h
  split at h
  · obtain ⟨_, _, _, F⟩ := h; exact F.kp
  · obtain ⟨e, _, _, _, _, _, _, _, _, M⟩ := h; rw [e]; exact M.kp
/-- all calls, by the draw's -/
theorem calsE (fx : Fx m g mg) (d0 : ∀ f, m.tab[f]? = some none → Cal g P w g.r.K mg base 0 f (m.np f) (m.P.run 0 f) (m.kw f)) (dw : ∀ k f, m.tab[f]? = some none → Cals m g P w mg base k → Eqs m g P w mg base k → Cal g P w g.r.K mg base (k + 1) f (m.np f) (m.P.run (k + 1) f) (m.kw f)) : ∀ k, Cals m g P w mg base k ∧ Eqs m g P w mg base k
  | 0 => ⟨fun f ⟨x, hx⟩ => by
    cases q : m.tab[f]? with
    | none => exact absurd q (fx.tb x f hx)
    | some o =>
      cases o with
      | none => exact d0 f q
      | some d =>
        obtain ⟨ok, hf, hF⟩ := fx.df f d q
        exact cal_bad (fun _ => rfl) (fnK_kp hF), eq_0 fx⟩
  | 1 => by
    obtain ⟨c0, e0⟩ := calsE fx d0 dw 0
    refine ⟨fun f ⟨x, hx⟩ => ?_, eq_of fx c0 e0⟩
    cases q : m.tab[f]? with
    | none => exact absurd q (fx.tb x f hx)
    | some o =>
      cases o with
      | none => exact dw 0 f q c0 e0
      | some d =>
        cases hi : d.ini with
        | none => exact cal_of fx q hi c0 e0
        | some z =>
          obtain ⟨c, l⟩ := z
          obtain ⟨ok, hf, hF⟩ := fx.df f d q
          refine cal_bad (fun ds => ?_) (fnK_kp hF)
          have hf2 : m.P.fns f = .mk c d.tm (l.map (·.2)) := by rw [hf]; unfold DefE.fn; rw [hi]
          unfold Prg.run
          rw [hf2]
  | k + 2 => by
    obtain ⟨c0, e0⟩ := calsE fx d0 dw k
    obtain ⟨c1, e1⟩ := calsE fx d0 dw (k + 1)
    refine ⟨fun f ⟨x, hx⟩ => ?_, eq_of fx c1 e1⟩
    cases q : m.tab[f]? with
    | none => exact absurd q (fx.tb x f hx)
    | some o =>
      cases o with
      | none => exact dw (k + 1) f q c1 e1
      | some d =>
        cases hi : d.ini with
        | none => exact cal_of fx q hi c1 e1
        | some z => exact cal_mk fx q hi c0 e0
end
end Dp
end

section
set_option Elab.async false
set_option linter.all false
set_option autoImplicit false
set_option maxRecDepth 100000
set_option maxHeartbeats 4000000
/-! Dp19: the draws. -/
namespace Dp
open PySem PySem.Spec PyProof.Rows L2

def el (l : List E) : EL := l.foldr EL.cons .nil
def sl (l : List S) : SL := l.foldr SL.cons .nil
def cI' (i : Int) : E := .c (.int i)
def blendIn : SL := sl [.set 4 false (.op .Mod (.bi .int (el [.op .Add (.op .Add (.op .Mult (.v 4) (cI' 69621)) (.v 5)) (.v 1)])) (.v 3))]
def blendBody : SL := sl [.set 4 false (.op .Add (.op .Mult (cI' 39373) (.v 1)) (.op .FloorDiv (.v 3) (cI' 67))), .for (.n 5) (.stc 0) blendIn,
  .set 2 false (.op .Add (.op .Mult (.v 2) (cI' 2147483647)) (.op .Mod (.bi .int (el [.op .Pow (.v 4) (cI' 5)])) (.v 3)))]
def blendSL : SL := sl [.tick 0 1 2, .for (.n 3) (.e (.lst (el [cI' 2147482661, cI' 2147482621, cI' 2147482591]))) blendBody, .ret (.v 2)]
def drawSL (b : Nat) : SL := sl [.ife (.cmp .Eq (.stv 0) (cI' 0)) (sl [.stw 0 (.stnx 0 (.call b (el [.v 0])))]) .nil,
  .set 2 false (.op .Mod (.bi .int (el [.stv 0])) (.v 1)), .stw 0 (.op .FloorDiv (.stv 0) (.v 1)), .ret (.v 2)]

/-! ### what the blending comes to -/
section
variable {K : Dp.C} {st t f b p c : D}
/-- a whole number of bounded length -/
def Sm (b : Int) : Prop := b.natAbs.log2 < 999999
theorem sm_of {b : Int} {e : Nat} (h : b.natAbs < 2 ^ e) (he : e ≤ 999999) : Sm b := by
  unfold Sm
  by_cases z : b.natAbs = 0
  · rw [z]; decide
  · have := (Nat.log2_lt z).mpr h
    omega
theorem sm_small {b : Int} (h0 : 0 ≤ b) (h1 : b < 2147483648) : Sm b := by
  have e : (2:Nat)^31 = 2147483648 := by decide
  exact sm_of (e := 31) (by omega) (by omega)
theorem sm_start {t p : Int} (h0 : 0 < t) (h1 : t ≤ tmax) (p0 : 0 ≤ p) (p1 : p < 2147483648) : Sm (39373 * t + p / 67) := by
  refine sm_of (e := tb + 17) ?_ (by unfold tb; omega)
  have e31 : (2 : Nat) ^ 31 ≤ 2 ^ tb := Nat.pow_le_pow_right (by omega) (by unfold tb; omega)
  have e31' : (2 : Nat) ^ 31 = 2147483648 := by decide
  have h2 : t ≤ ((2 ^ tb : Nat) : Int) := h1
  have e17 : (2 : Nat) ^ (tb + 17) = 2 ^ tb * 131072 := by rw [Nat.pow_add]
  rw [e17]
  generalize (2 : Nat) ^ tb = z at *
  have : 0 ≤ p / 67 := Int.ediv_nonneg p0 (by omega)
  have : p / 67 ≤ p := by omega
  omega
/-- the cells, one behind another -/
theorem cells_run {E : Nat → Nat → List D → Prop} {n : Nat} {sd fd : D} {ti pi : Int} (p0 : 0 < pi) (p1 : pi < 2147483648) {Q : Nat → Fl → Prop} : ∀ (l : List Int) (bi : Int) (s5 : Slot), Sm bi →
    (∀ b' s5', Sm b' → Q n (.nx [.v sd, .v (.int ti), .v fd, .v (.int pi), .v (.int b'), s5'])) →
    T.wp n (forL (fun δ' => exl K blendIn δ') (.n 5) (l.map D.int) [.v sd, .v (.int ti), .v fd, .v (.int pi), .v (.int bi), s5]) Q E
  | [], bi, s5, h, q => q bi s5 h
  | z :: l, bi, s5, h, q => by
    have ok67 : small 69621 = true := by decide
    have hp : decide (0 < pi) = true := decide_eq_true p0
    have step : exl K blendIn [.v sd, .v (.int ti), .v fd, .v (.int pi), .v (.int bi), .v (.int z)] = .ret (.nx [.v sd, .v (.int ti), .v fd, .v (.int pi), .v (.int ((bi * 69621 + z + ti) % pi)), .v (.int z)]) := by
      simp [blendIn, sl, el, cI', Cst.d, exl, exs, ev, evs, look, T.bind, opD, biD, take, T.need, ok67, p0]
    show T.wp n ((exl K blendIn [.v sd, .v (.int ti), .v fd, .v (.int pi), .v (.int bi), .v (.int z)]).bind _) Q E
    rw [step]
    exact cells_run p0 p1 l _ _ (sm_small (Int.emod_nonneg _ (by omega)) (Int.lt_trans (Int.emod_lt_of_pos _ p0) p1)) q
theorem el_run (K : Dp.C) (δ : Env) : evsrc K (.e (.lst (el [cI' 2147482661, cI' 2147482621, cI' 2147482591]))) δ = .ret [.int 2147482661, .int 2147482621, .int 2147482591] := by
  simp [el, cI', Cst.d, evsrc, ev, evs, T.bind, itemsD]
/-- one prime -/
theorem prime_run {E : Nat → Nat → List D → Prop} {n : Nat} {ti pi fi : Int} (p0 : 0 < pi) (p1 : pi < 2147483648) (t0 : 0 < ti) (t1 : ti ≤ tmax) {Q : Nat → Fl → Prop} (s4 s5 : Slot)
    (q : ∀ f' s4' s5', Q n (.nx [.v .st, .v (.int ti), .v (.int f'), .v (.int pi), s4', s5'])) :
    T.wp n (exl K blendBody [.v .st, .v (.int ti), .v (.int fi), .v (.int pi), s4, s5]) Q E := by
  have sm1 : small 39373 = true := by decide
  have sm2 : small 2147483647 = true := by decide
  have o67 : ok1 67 = true := by decide
  have hsm := sm_start t0 t1 (Int.le_of_lt p0) p1
  have first : exs K (.set 4 false (.op .Add (.op .Mult (cI' 39373) (.v 1)) (.op .FloorDiv (.v 3) (cI' 67)))) [.v .st, .v (.int ti), .v (.int fi), .v (.int pi), s4, s5] = .ret (.nx [.v .st, .v (.int ti), .v (.int fi), .v (.int pi), .v (.int (39373 * ti + pi / 67)), s5]) := by
    simp [cI', Cst.d, exs, ev, look, T.bind, opD, take, T.need, sm1, o67]
  have last : ∀ b', Sm b' → ∀ s5', exs K (.set 2 false (.op .Add (.op .Mult (.v 2) (cI' 2147483647)) (.op .Mod (.bi .int (el [.op .Pow (.v 4) (cI' 5)])) (.v 3)))) [.v .st, .v (.int ti), .v (.int fi), .v (.int pi), .v (.int b'), s5'] =
      .ret (.nx [.v .st, .v (.int ti), .v (.int (fi * 2147483647 + b' ^ 5 % pi)), .v (.int pi), .v (.int b'), s5']) := by
    intro b' hb s5'
    have hb' : b'.natAbs.log2 < 1000000 := by unfold Sm at hb; omega
    simp [el, cI', Cst.d, exs, ev, evs, look, T.bind, opD, biD, take, T.need, sm2, p0, hb']
  show T.wp n ((exs K _ _).bind _) Q E
  rw [first]
  show T.wp n ((exs K (.for (.n 5) (.stc 0) blendIn) _).bind _) Q E
  refine T.wp_bind.mpr ?_
  show T.wp n ((T.need true (T.any fun l => T.ret ((l.take 63).map D.int))).bind fun l => .need (decide (l.length ≤ lim)) (forL (fun δ' => exl K blendIn δ') (.n 5) l [.v .st, .v (.int ti), .v (.int fi), .v (.int pi), .v (.int (39373 * ti + pi / 67)), s5])) _ E
  intro l
  refine T.wp_need.mpr ⟨?_, ?_⟩
  · refine decide_eq_true ?_
    rw [List.length_map, List.length_take]
    have : (63 : Nat) ≤ lim := by decide
    omega
  refine cells_run p0 p1 (l.take 63) _ _ hsm fun b' s5' hb => ?_
  show T.wp n ((exs K _ _).bind _) Q E
  rw [last b' hb s5']
  exact q _ _ _
/-- the blending: one turn more, a whole number comes -/
theorem blend_run {E : Nat → Nat → List D → Prop} {n : Nat} (hn : 0 < n) {Q : Nat → Fl → Prop} (q : ∀ i, Q (n - 1) (.ret (.int i))) : T.wp n (exl K blendSL (entry 6 [.st])) Q E := by
  show T.wp n ((exs K (.tick 0 1 2) [.v .st, .no, .no, .no, .no, .no]).bind _) Q E
  refine T.wp_bind.mpr ?_
  show T.wp n (T.need true _) _ E
  refine ⟨hn, by decide, by decide, fun r hr l => ?_⟩
  have t0 : 0 ≤ l.headD 0 % tmax := Int.emod_nonneg _ (by unfold tmax; have := Nat.two_pow_pos tb; omega)
  have t1 : l.headD 0 % tmax < tmax := Int.emod_lt_of_pos _ (by unfold tmax; have := Nat.two_pow_pos tb; omega)
  show T.wp (n - 1) ((exs K (.for (.n 3) (.e (.lst (el [cI' 2147482661, cI' 2147482621, cI' 2147482591]))) blendBody) [.v .st, .v (.int (l.headD 0 % tmax + 1)), .v (.int 0), .no, .no, .no]).bind _) Q E
  generalize l.headD 0 % tmax = t at t0 t1 ⊢
  refine T.wp_bind.mpr ?_
  show T.wp (n - 1) ((evsrc K _ _).bind fun l => .need (decide (l.length ≤ lim)) (forL (fun δ' => exl K blendBody δ') (.n 3) l [.v .st, .v (.int (t + 1)), .v (.int 0), .no, .no, .no])) _ E
  rw [el_run]
  refine T.wp_need.mpr ⟨by decide, ?_⟩
  show T.wp (n - 1) ((exl K blendBody [.v .st, .v (.int (t + 1)), .v (.int 0), .v (.int 2147482661), .no, .no]).bind _) _ E
  refine T.wp_bind.mpr (prime_run (by omega) (by omega) (by omega) (by omega) _ _ fun f1 a1 b1 => ?_)
  show T.wp (n - 1) ((exl K blendBody [.v .st, .v (.int (t + 1)), .v (.int f1), .v (.int 2147482621), a1, b1]).bind _) _ E
  refine T.wp_bind.mpr (prime_run (by omega) (by omega) (by omega) (by omega) _ _ fun f2 a2 b2 => ?_)
  show T.wp (n - 1) ((exl K blendBody [.v .st, .v (.int (t + 1)), .v (.int f2), .v (.int 2147482591), a2, b2]).bind _) _ E
  refine T.wp_bind.mpr (prime_run (by omega) (by omega) (by omega) (by omega) _ _ fun f3 a3 b3 => ?_)
  exact q f3
/-- the draw's body: a number below z comes -/
theorem draw_run {E : Nat → Nat → List D → Prop} {n b : Nat} {z : Int} {Q : Nat → Fl → Prop} (z0 : 0 < z) (zz : ok1 z = true) (hc : ∀ {Q' : Nat → D → Prop}, (∀ i, Q' (n - 1) (.int i)) → T.wp n (K.call b [.st]) Q' E)
    (q : ∀ r, 0 ≤ r → r < z → Q (n - 1) (.ret (.int r)) ∧ Q n (.ret (.int r))) : T.wp n (exl K (drawSL b) [.v .st, .v (.int z), .no]) Q E := by
  have zd : decide (0 < z) = true := decide_eq_true z0
  have rest : ∀ m, (m = n - 1 ∨ m = n) → T.wp m (exl K (sl [.set 2 false (.op .Mod (.bi .int (el [.stv 0])) (.v 1)), .stw 0 (.op .FloorDiv (.stv 0) (.v 1)), .ret (.v 2)]) [.v .st, .v (.int z), .no]) Q E := by
    intro m hm
    show T.wp m ((exs K (.set 2 false (.op .Mod (.bi .int (el [.stv 0])) (.v 1))) [.v .st, .v (.int z), .no]).bind _) Q E
    refine T.wp_bind.mpr ?_
    intro l
    show T.wp m (((T.need (decide (0 < z)) (T.ret (D.int (l.headD 0 % z)))).bind fun d => (take [.v .st, .v (.int z), .no] 2 false d).bind fun δ' => T.ret (Fl.nx δ'))) _ E
    rw [zd]
    show T.wp m ((exs K (.stw 0 (.op .FloorDiv (.stv 0) (.v 1))) [.v .st, .v (.int z), .v (.int (l.headD 0 % z))]).bind _) Q E
    refine T.wp_bind.mpr ?_
    intro l2
    show T.wp m ((T.need (decide (0 < z) && ok1 z) (T.ret (D.int (l2.headD 0 / z)))).bind _) _ E
    rw [zd, zz]
    have := q _ (Int.emod_nonneg (l.headD 0) (by omega)) (Int.emod_lt_of_pos (l.headD 0) z0)
    show Q m _
    rcases hm with rfl | rfl
    · exact this.1
    · exact this.2
  show T.wp n ((exs K (.ife (.cmp .Eq (.stv 0) (cI' 0)) (sl [.stw 0 (.stnx 0 (.call b (el [.v 0])))]) .nil) [.v .st, .v (.int z), .no]).bind _) Q E
  refine T.wp_bind.mpr ?_
  refine T.wp_bind.mpr ?_
  intro l
  have e0 : cmpD .Eq (.int (l.headD 0)) (.int 0) = .ret (.bl (PyData.eqv (.int (l.headD 0)) (.int 0))) := rfl
  show T.wp n ((cmpD .Eq (.int (l.headD 0)) (.int 0)).bind fun x => (asB x).bind fun k => if k = true then exl K (sl [.stw 0 (.stnx 0 (.call b (el [.v 0])))]) [.v .st, .v (.int z), .no] else exl K .nil [.v .st, .v (.int z), .no]) _ E
  rw [e0]
  show T.wp n (if PyData.eqv (.int (l.headD 0)) (.int 0) = true then exl K (sl [.stw 0 (.stnx 0 (.call b (el [.v 0])))]) [.v .st, .v (.int z), .no] else exl K .nil [.v .st, .v (.int z), .no]) _ E
  cases PyData.eqv (.int (l.headD 0)) (.int 0) with
  | false => exact rest n (.inr rfl)
  | true =>
    show T.wp n ((exs K (.stw 0 (.stnx 0 (.call b (el [.v 0])))) [.v .st, .v (.int z), .no]).bind _) _ E
    refine T.wp_bind.mpr ?_
    refine T.wp_bind.mpr ?_
    intro l3
    show T.wp n (if l3 = [] then (evs K (el [.v 0]) [.v .st, .v (.int z), .no]).bind fun ds => K.call b ds else T.ret (D.int (l3.headD 0))) _ E
    by_cases h3 : l3 = []
    · rw [if_pos h3]
      show T.wp n (K.call b [.st]) _ E
      exact hc fun i => rest (n - 1) (.inl rfl)
    · rw [if_neg h3]
      exact rest n (.inr rfl)
end
/-- the draw's def, the blending's -/
structure DrOk (m : Mo) : Prop where
  a1 : m.dr.params.posonlyargs = []
  a2 : m.dr.params.args.map (·.arg) = m.dr.ps
  a3 : m.dr.params.vararg = none
  a4 : m.dr.params.kwonlyargs = []
  a5 : m.dr.params.kwarg = none
  sc : C8.scC m.dr.N m.dr.ps m.dr.scope = true
  np : m.dr.ps.length = 2
  ns : m.dr.N.length = 3
  tm : cSs (m.kx m.dr) 200 m.dr.body = some (drawSL m.bl)
  bl : m.P.fns m.bl = .fd ⟨1, 6, blendSL⟩
  pf : ∀ f, m.tab[f]? = some none → m.P.fns f = .draw
section
variable {P : Program} {w : World} {mg : Str → Option Value} {base : Heap} {m : Mo} {g : Gd}
theorem draw_cal (fx : Fx m g mg) (dr : DrOk m) {f : Nat} (hf : m.tab[f]? = some none) (hF : ∃ (name qual : Str) (fd : FuncData), FunD g.r.K name qual m.dr.params m.dr.body m.dr.scope [] [] (g.r.fa f) fd) :
    Cal g P w g.r.K mg base 0 f (m.np f) (m.P.run 0 f) (m.kw f) ∧ ∀ k, Cals m g P w mg base k → Eqs m g P w mg base k → Cal g P w g.r.K mg base (k + 1) f (m.np f) (m.P.run (k + 1) f) (m.kw f) := by
  have hnp : m.np f = m.dr.ps.length := by unfold Mo.np; rw [hf, dr.np]
  have hkw : m.kw f = [] := by unfold Mo.kw; rw [hf]
  rw [hkw]
  have hkp : PySem.W.keepIn g.r.K (.ref (g.r.fa f)) = true := by
    obtain ⟨_, _, _, F⟩ := hF; exact F.kp
  refine ⟨cal_bad (fun _ => rfl) hkp, fun k cal eqs => ?_⟩
  by_cases hk : k < 6
  · refine cal_bad (fun ds => ?_) hkp
    unfold Prg.run
    rw [dr.pf f hf]
    exact if_pos hk
  · have hrun : ∀ ds, m.P.run (k + 1) f ds = match ds with | [.st, .int n] => .draw n.toNat fun r => .ret (.int (r : Nat)) | _ => .bad := fun ds => by
      unfold Prg.run
      rw [dr.pf f hf]
      exact if_neg hk
    obtain ⟨name, qual, fd, F⟩ := hF
    have S := C8.fnScope_by dr.sc
    obtain ⟨oc, od, dV, kV, doc, pm, an, cdv, ct, osl, rfl, lk, hcd, dfl, kwd⟩ := F.ex
    have edV : dV = .none := by
      rcases dfl with ⟨_, e⟩ | ⟨e, _⟩
      · exact e
      · exact absurd rfl e
    subst edV
    rw [hnp]
    have hpl : m.dr.ps.length ≤ m.dr.N.length := by rw [dr.np, dr.ns]; omega
    refine .of ⟨PySem.W.fnOf name qual m.dr.params m.dr.body m.dr.scope .none kV doc pm an cdv ct, m.dr.ps, rfl, ?_, fun s us _ hl => .of_eq (pl_bind dr.a1 dr.a2 dr.a3 dr.a4 dr.a5 ?_ hl), fun e he => by cases he⟩ F.kp
    · refine fnG_of lk hcd S (fun vs H Q E q => q.1) fun A up s H vs Q E room gu q => ?_
      obtain ⟨hn, nn, Fz, ds, gi, sb, ns, r, wp⟩ := q
      rw [hrun] at wp
      let cc : Dp.C := ⟨m.P.G, m.P.run k, fun _ _ => .bad, m.P.fld, m.P.con⟩
      have sok := sok_of (P := P) (w := w) (mg := mg) (base := base) (cc := cc) (M := noLm g) (d := m.dr) (f := g.r.fa f) (up := up) (s := s) (H := H) (E := E) fx S rfl rfl rfl rfl cal eqs room gu
      refine ⟨_, (snt 200).fs sok dr.tm, nn, Fz, H, Fz, entry m.dr.N.length ds, .refl gi sb ns, env_entry r (by rw [hn]; exact hpl), ?_⟩
      split at wp
      · rename_i z
        obtain ⟨w0, w1, w2, w3⟩ := wp
        have z0 : 0 < z := by omega
        have zz : ok1 z = true := by
          unfold ok1
          refine decide_eq_true ?_
          have h1 : z.natAbs < 2 ^ 200 := by unfold T.most at w2; omega
          have := (Nat.log2_lt (by omega : z.natAbs ≠ 0)).mpr h1
          omega
        have e3 : entry m.dr.N.length [.st, .int z] = [.v .st, .v (.int z), .no] := by rw [dr.ns]; rfl
        rw [e3]
        refine draw_run z0 zz (fun {Q'} hq => ?_) fun i i0 i1 => ?_
        · obtain ⟨k', rfl⟩ : ∃ k', k = k' + 1 := ⟨k - 1, by omega⟩
          show T.wp nn (m.P.run (k' + 1) m.bl [.st]) Q' _
          unfold Prg.run
          rw [dr.bl]
          show T.wp nn (T.need true _) Q' _
          exact T.wp_bind.mpr (blend_run w0 fun i => hq i)
        · have w4 : ∀ v F' H', Step g Fz H (nn - 1) F' H' → Rep g.r F' (.int ((i.toNat : Nat) : Int)) v → Q v H' := w3 i.toNat (by omega)
          have ei : ((i.toNat : Nat) : Int) = i := by omega
          rw [ei] at w4
          refine ⟨w4, fun v F' H' s' rv => w4 v F' H' ?_ rv⟩
          obtain ⟨pg, pc, ce, s1, s2, s3, s4, s5, s6, hI, hP⟩ := fx.st.ex
          obtain ⟨gr, le, tu, sa, t0, t1⟩ := hI _ _ s'.gi
          exact ⟨hP _ _ _ _ _ _ _ s'.gi sa t0 (by omega) (fun _ _ _ => rfl), s'.ext, s'.sub, s'.frz, s'.nsp, s'.new⟩
      · exact wp.elim
    · have := S.pre
      rw [← this]
      exact S.nd.sublist (List.take_sublist _ _)
end
end Dp
end

section
set_option Elab.async false
set_option linter.all false
set_option autoImplicit false
set_option maxRecDepth 100000
set_option maxHeartbeats 4000000
/-! DpB: an exception that is caught and kept. -/
namespace Dp
open PySem PySem.Spec PyProof.Rows L2
section
variable {X : Cx} {pins : List (Addr × Obj)} {σ : L2.St} {H : Hp} {s : Shared}
/-- an object that stands outside is taken in -/
theorem inv_track {a : Addr} {oe : Obj} {o : HO} (I : L2.Inv X ((a, oe) :: pins) σ H s) (nw : X.s_0.heap.get? a = none) (ho : ∀ H', ObjOk X.prog X.w H' s.heap a o) (hp : ∀ p ∈ X.pn ++ pins, p.1 ≠ a) : L2.Inv X pins σ (upd H a o) s := by
  obtain ⟨ha, na, nl, nf, nc⟩ := I.pin (a, oe) (List.mem_append_right _ List.mem_cons_self)
  dsimp only at ha na nl nf nc
  have ne : ∀ b u, X.s_0.heap.get? b = some u → b ≠ a := fun b u e z => by rw [z, nw] at e; cases e
  have kp : ∀ b u, H b = some u → upd H a o b = some u := fun b u e => by rw [upd_ne (ne_of_none e na)]; exact e
  have cn : ∀ x c, X.env.cells.lookup x = some c → c ≠ a := fun x c e z => by
    obtain ⟨v, oc, hoc, hd⟩ := I.cell x c e
    rw [z, ha] at hoc; cases hoc
    exact nc v hd
  refine ⟨I.ok, I.os, I.bare, ⟨I.base.keep, I.base.slot, fun b u e n hx => ?_, I.base.there, fun b xs e => kp _ _ (I.base.tups b xs e), fun b u v e => kp _ _ (I.base.frzs b u v e), fun b ps e => ?_⟩, I.loc, I.cell, ?_, fun x c e => ?_, fun p hm => ?_, fun b u e => ?_, I.len⟩
  · rw [upd_ne (ne b u e)]; exact I.base.free b u e n hx
  · obtain ⟨more, z⟩ := I.base.tbls b ps e
    exact ⟨more, kp _ _ z⟩
  · rw [upd_ne (Ne.symm nl)]; exact I.free
  · rw [upd_ne (cn x c e)]; exact I.freeC x c e
  · have hm2 : p ∈ X.pn ++ ((a, oe) :: pins) := by
      rcases List.mem_append.mp hm with z | z
      · exact List.mem_append_left _ z
      · exact List.mem_append_right _ (List.mem_cons_of_mem _ z)
    obtain ⟨e1, e2, e3, e4, e5⟩ := I.pin p hm2
    exact ⟨e1, by rw [upd_ne (hp p hm)]; exact e2, e3, e4, e5⟩
  · by_cases hb : b = a
    · subst hb
      rw [upd_same] at e; cases e
      exact ho _
    · rw [upd_ne hb] at e
      exact (I.hok b u e).stay (fun c w hc q => q) (fun c q => kp _ _ q) fun c xs q => kp _ _ q
theorem exV_ok {P : Program} {w : World} {H : Hp} {h : Heap} {a : Addr} {oe : Obj} {cls : Value} {d : Option Addr} {vs : Array Value} (e : h.get? a = some oe) (z : Zc cls d oe) (hd : oe.data = .fields vs) : ObjOk P w H h a (ExV cls d a) :=
  ⟨⟨oe, vs, e, z.1, z.2, hd⟩, ⟨oe, e⟩, fun h1 h2 ⟨oe, vs, e1, e2, e3, e4⟩ st => ⟨oe, vs, st _ e1, e2, e3, e4⟩⟩
end
section
variable {X : Cx} {x n y : Str} {c : Value} {i j : Nat} {body : List Stmt} {np pos pos' py pn2 ps : Pos} {tb : WX → TS}
/-- what is wished of an exception of the body -/
def wKeep (K : PySem.W.Frag) (c : Value) (i j : Nat) (D : Ends) : WX := fun cls d σ H => PySem.W.exmOne K cls c = some true ∧ ∀ a, H a = none → D.nx (((σ.set i (some (.ref a))).set j (some (.ref a))).set i none) (upd H a (ExV cls d a))
/-- try: body / except x as n: y = n -/
theorem try_keep (hs : X.stack = X.env :: X.outer) (hf : X.env.frame = some X.env.locals) (hex : X.ex = []) (hN : X.N.Nodup) (hi : X.N[i]? = some n) (hj : X.N[j]? = some y) (hln : X.env.kindOf n = some .local) (hly : X.env.kindOf y = some .local) (hdn : (n == ("__debug__" : Str)) = false) (hcn : (n == ("__classdict__" : Str)) = false) (hc : Names X x c)
    (hb : ∀ (W : WX) (pn : List (Addr × Obj)) (xe : Value → Shared → Prop), L2.Takes (X.tr pn xe) W → PassesOwn (model X.prog X.w) X.A X.env xe → PSs (X.tr pn xe) body (tb W)) :
    PS X (.Try body [.ExceptHandler (some (.Name x np)) (some n) [.Assign [.Name y py] (.Name n pn2) ps] pos'] [] [] pos) (fun D σ H => tb (wKeep X.K c i j D) D σ H) := by
  refine ⟨fun pins s σ H D I h => ?_⟩
  have ok := I.ok
  have frm : X.A.frames = some (X.env :: X.outer) := by rw [ok.frames, hs]
  refine wpAny_Try_except ?_
  refine wpAny_mono ((hb (wKeep X.K c i j D) (X.pn ++ pins) (fun e s₁ => wpAny (model X.prog X.w) X.A (noteFrame e X.env) (fun _ s₂ => wpAny (model X.prog X.w) X.A (setFlight e none) (fun _ s₃ =>
    wpAny (model X.prog X.w) X.A (handleBy e X.env [.ExceptHandler (some (.Name x np)) (some n) [.Assign [.Name y py] (.Name n pn2) ps] pos']) (SP X pins D) X.xe s₃) X.xe s₂) X.xe s₁) (fun u s' xx => ?_) PassesOwn.looking).run [] s σ H D (I.toTry _) h) (fun f s1 hsp => ?_) (fun e s1 he => he)
  · obtain ⟨a, B, sI, pins', σ', H', cls, d, rfl, J', nb, up, sky, na, os, ag, hb1, hyes⟩ := xx
    have J : L2.Inv X pins σ' H' sI := J'.ofTry ok
    have sky' : Sky B (X.env :: X.outer) a (Zc cls d) X.env.locals s'.heap := by rw [← hs]; exact sky
    show wpAny (model X.prog X.w) X.A (noteFrame (.ref a) X.env) _ _ _
    refine Sky.land Zc.steady frm hf sky' fun h3 fl3 up3 => ?_
    have J3 : L2.Inv X pins σ' H' { s' with heap := h3 } := J.landed nb fl3.1 (up.trans up3) os ag
    obtain ⟨oe3, vs3, he3, hz3, hd3⟩ := fl3.there
    have nfr : a ∉ frs (X.env :: X.outer) := fun hm => by
      obtain ⟨_, o', e', hnf⟩ := fl3.2.2.1.mem hm
      rw [he3] at e'; cases e'
      exact hnf _ hd3
    have nL : a ≠ X.env.locals := fun z => nfr (List.mem_filterMap.mpr ⟨X.env, List.mem_cons_self, by rw [hf, z]⟩)
    have nF : a ∉ X.fs := fun hm => by
      obtain ⟨e, he, q⟩ := List.mem_filterMap.mp hm
      exact nfr (List.mem_filterMap.mpr ⟨e, List.mem_cons_of_mem _ he, q⟩)
    have nB : B.get? a = none := fl3.2.1
    have notOld : ∀ b o, sI.heap.get? b = some o → b ∉ frs (X.env :: X.outer) → b ≠ a := fun b o e hb z => by
      have := nb b o e (by rw [hs]; exact hb)
      rw [z, nB] at this; cases this
    have nw : X.s_0.heap.get? a = none := by
      cases q : X.s_0.heap.get? a with
      | none => rfl
      | some o =>
        obtain ⟨o', e'⟩ := J.base.there a o q (by rw [hex]; simp)
        exact absurd rfl (notOld a o' e' nfr)
    have np' : ∀ p ∈ X.pn ++ pins, p.1 ≠ a := fun p hp => by
      obtain ⟨e1, e2, e3, e4, e5⟩ := J.pin p hp
      refine notOld p.1 p.2 e1 fun hm => ?_
      obtain ⟨e, he, q⟩ := List.mem_filterMap.mp hm
      rcases List.mem_cons.mp he with rfl | he
      · rw [hf] at q; exact e3 (Option.some.inj q).symm
      · exact e4 (List.mem_filterMap.mpr ⟨e, he, q⟩)
    have S3 := J3.suite he3 hd3 na nL nF
    refine wpAny_handleBy_cons (codeAny_handlers_test ?_) (by intro q; cases q)
    have LT : PySem.W.Looks (model X.prog X.w) h3 (typeOf (.ref a)) cls := fun A Q E s k q => wpAny_typeOf_ref (k _ _ he3) (by rw [hz3.1]; exact q)
    have LM := PySem.W.exm_one (M := model X.prog X.w) (J3.kIn) LT hb1
    have test : ∀ {Q : Value → Shared → Prop} {E : Value → Shared → Prop}, Q c { s' with heap := h3 } → wpAny (model X.prog X.w) (X.A.mark (some (.ref a))) (eval (.Name x np) X.env) Q E { s' with heap := h3 } := fun {Q E} q => by
      obtain ⟨hg, hdbg, hm | ⟨hm, hv, hnn⟩⟩ := hc
      · exact ld_glob (X := X.suite a ((a, oe3) :: (X.pn ++ pins))) S3 hg hm q hdbg
      · exact ld_blt (X := X.suite a ((a, oe3) :: (X.pn ++ pins))) S3 hg hm hv q hnn hdbg
    refine test (LM.here ?_)
    refine codeAny_handlers_suite_as ?_
    refine HandSPX.lands_againZ fl3 fun h4 fl4 up4 => ?_
    have J4 : L2.Inv X pins σ' H' { s' with heap := h4 } := J.landed nb fl4.1 ((up.trans up3).trans up4) os ag
    obtain ⟨oe4, vs4, he4, hz4, hd4⟩ := fl4.there
    have S4 := J4.suite he4 hd4 na nL nF
    refine store_ok (X := X.suite a ((a, oe4) :: (X.pn ++ pins))) (v := .ref a) S4 hN hi (.inl hln) rfl (fun s5 S5 => ?_) (.inr hln)
    have hps : PS (X.suite a ((a, oe4) :: (X.pn ++ pins))) (.Assign [.Name y py] (.Name n pn2) ps) _ := ps_set hN hj (.inl hly) (pe_var hi (.inl hln) hdn hcn) rfl (.inr hly)
    have hi5 : i < σ'.length := by rw [J4.len]; exact (List.getElem?_eq_some_iff.mp hi).1
    refine wpAny_mono ((pss_one hps).run [] s5 _ H' { nx := fun σ6 H6 => σ6 = (σ'.set i (some (.ref a))).set j (some (.ref a)) ∧ H6 = H', rt := fun _ _ => False } S5 ⟨.ref a, List.getElem?_set_self hi5, rfl, rfl⟩) (fun f s6 hsp => ?_) (fun _ _ z => False.elim z)
    cases f with
    | next =>
      obtain ⟨σ6, H6, S6, e6, e7⟩ := hsp
      subst e6 e7
      have U6 : L2.Inv X ((a, oe4) :: pins) ((σ'.set i (some (.ref a))).set j (some (.ref a))) H6 s6 := by
        refine (S6.unsuite ok).pins_of fun p hp => ?_
        have P6 := S6.pin p
        refine P6 ?_
        rw [List.append_nil]
        rcases List.mem_cons.mp hp with z | z
        · rw [z]; exact List.mem_cons_self
        · exact List.mem_cons_of_mem _ (List.mem_append_right _ z)
      refine gone_ok U6 hN hi hln fun s7 J7 => ?_
      obtain ⟨ha7, _⟩ := J7.pin (a, oe4) (List.mem_append_right _ List.mem_cons_self)
      exact ⟨_, _, inv_track (o := ExV cls d a) J7 nw (fun H' => exV_ok ha7 hz4 hd4) np', hyes a na⟩
    | brk => exact hsp.elim fun _ z => z.elim fun _ z => z.2.elim
    | cont => exact hsp.elim fun _ z => z.elim fun _ z => z.2.elim
    | ret u => exact hsp.elim fun _ z => z.elim fun _ z => z.elim fun _ z => z.2.2.elim
  · cases f with
    | next =>
      obtain ⟨σ', H', J', q⟩ := hsp
      exact wpAny_execs_nil ⟨σ', H', J'.ofTry ok, q⟩
    | brk =>
      obtain ⟨σ', H', J', q⟩ := hsp
      exact ⟨σ', H', J'.ofTry ok, q⟩
    | cont =>
      obtain ⟨σ', H', J', q⟩ := hsp
      exact ⟨σ', H', J'.ofTry ok, q⟩
    | ret u =>
      obtain ⟨v, σ', H', J', r, q⟩ := hsp
      exact ⟨v, σ', H', J'.ofTry ok, r, q⟩
end
end Dp
end

section
set_option Elab.async false
set_option linter.all false
set_option autoImplicit false
set_option maxRecDepth 100000
set_option maxHeartbeats 4000000
/-! DpC: lambdas. -/
namespace Dp
open PySem PySem.Spec PyProof.Rows L2 LamX
/-- the function object of a lambda of the block at hand: its term is e -/
def FunX (q : Str) (cells : List (Str × Addr)) (kx : Kx) (e : E) (c f : Addr) : HO := .ext fun h => ∃ (p : Arguments) (b : Expr) (scope : Scope) (pm ctv : Value) (n : Nat), h.get? f = some (PySem.W.kla_obj "<lambda>" q p b scope (cloFrom cells scope.names []) pm c ctv) ∧ lamB kx p scope = true ∧ cE n (kx.lamb scope) b = some e
theorem funX_ok {P : Program} {w : World} {H : Hp} {h : Heap} {q : Str} {cells : List (Str × Addr)} {kx : Kx} {e : E} {c f : Addr} {p : Arguments} {b : Expr} {scope : Scope} {pm ctv : Value} {n : Nat}
    (hf : h.get? f = some (PySem.W.kla_obj "<lambda>" q p b scope (cloFrom cells scope.names []) pm c ctv)) (hp : lamB kx p scope = true) (he : cE n (kx.lamb scope) b = some e) : ObjOk P w H h f (FunX q cells kx e c f) :=
  ⟨⟨p, b, scope, pm, ctv, n, hf, hp, he⟩, ⟨_, hf⟩, fun h1 h2 ⟨p, b, scope, pm, ctv, n, z1, z2, z3⟩ st => ⟨p, b, scope, pm, ctv, n, st _ z1, z2, z3⟩⟩
theorem lamB_ok {kx : Kx} {p : Arguments} {scope : Scope} (h : lamB kx p scope = true) : p = ⟨[], [], none, [], [], none, []⟩ ∧ lamSB kx.sc scope = true := by
  unfold lamB at h
  simp only [Bool.and_eq_true, List.isEmpty_iff, Option.isNone_iff_eq_none] at h
  obtain ⟨⟨⟨⟨⟨⟨⟨h1, h2⟩, h3⟩, h4⟩, h5⟩, h6⟩, h7⟩, h8⟩ := h
  obtain ⟨a, b, c, d, e, f, g⟩ := p
  dsimp only at h1 h2 h3 h4 h5 h6 h7
  subst h1 h2 h3 h4 h5 h6 h7
  exact ⟨rfl, h8⟩
section
variable {X : Cx} {pins : List (Addr × Obj)} {σ : L2.St} {H : Hp} {s : Shared}
/-- the lambda's object is made and taken in -/
theorem lam_new {c P : Addr} {p : Arguments} {b : Expr} {scope : Scope} {pos : Pos} {kx : Kx} {e : E} {n : Nat} {Ex : Value → Shared → Prop} {Q : Value → Shared → Prop} (I : L2.Inv X pins σ H s) (TB : TabB X.base X.mg c P) (hcode : X.env.code = .ref c) (hT : TabS H P (X.env.qual ++ "<lambda>"))
    (hp : lamB kx p scope = true) (he : cE n (kx.lamb scope) b = some e) (hfree : ∀ y ∈ scope.names, y.2 = .free → ∃ c, X.env.cells.lookup y.1 = some c)
    (h : ∀ (f c' : Addr) (H1 : Hp) (s' : Shared), L2.Inv X pins σ H1 s' → (∀ a o, H a = some o → a ≠ P → H1 a = some o) → TabS H1 P (X.env.qual ++ "<lambda>") → H f = none → H1 f = some (FunX (X.env.qual ++ "<lambda>") X.env.cells kx e c' f) →
      (H c' = none ∨ H c' = some (CodeO c' (X.env.qual ++ "<lambda>"))) → H1 c' = some (CodeO c' (X.env.qual ++ "<lambda>")) → f ≠ c' → f ≠ P → c' ≠ P → Q (.ref f) s') :
    wpAny (model X.prog X.w) X.A (eval (.Lambda p b scope pos) X.env) Q Ex s := by
  obtain ⟨ps, hP, ht, ha⟩ := hT
  have hdef : defaultsOf p X.env = ([], []) := by rw [(lamB_ok hp).1]; rfl
  refine PySem.W.kla_eval hdef ?_
  have bP : s.heap.BuiltinsAt X.mg P := TB.bm.keeps I.bk
  have hP' : s.heap.get? P = some { cls := .none, data := .fields ps } := I.hok P _ hP
  have cne : ∀ (c : Addr) (q : Str) (ps : Array Value), CodeO c q ≠ .tbl ps := fun c q ps => codeO_ne ps
  cases hc : codeAmong pos ps.toList with
  | none =>
    refine PySem.W.kla_makeFunction (mg := X.mg) (c := c) (P := P) (ps := ps) (closure_ok hfree) I.ok.glob (I.mod.glob.keeps I.bk) hcode (TB.code.keeps I.bk) hP' ht hc TB.gP bP fun c' ctv h' tk hx hge hlt hrec htb => ?_
    obtain ⟨c2, oc, vs, t, e2, hoc, hd, hv⟩ := hrec
    cases e2
    have nC : H c' = none := I.hok.fresh hge
    have nPc : P ≠ c' := ne_of_none hP nC
    have I1 := inv_table (t' := tk) (more := #[rawInt pos.line, rawInt pos.col, .ref c']) (h' := h') I hP hx htb hge ⟨oc, vs, t, hoc, hd, hv⟩
    have nf1 : upd (upd H P (.tbl (ps ++ #[rawInt pos.line, rawInt pos.col, .ref c']))) c' (CodeO c' (X.env.qual ++ "<lambda>")) h'.objs.size = none := I1.hok.fresh (Nat.le_refl _)
    have fc : h'.objs.size ≠ c' := fun z => by rw [z, upd_same] at nf1; cases nf1
    have fP : h'.objs.size ≠ P := fun z => by rw [z, upd_ne nPc, upd_same] at nf1; cases nf1
    have nf : H h'.objs.size = none := by rw [upd_ne fc, upd_ne fP] at nf1; exact nf1
    have new := Heap.get?_push_size h' (o := PySem.W.kla_obj "<lambda>" (X.env.qual ++ "<lambda>") p b scope (cloFrom X.env.cells scope.names []) ((X.mg "__name__").getD .none) c' ctv) rfl
    have I2 := I1.laid (a := h'.objs.size) (o := FunX (X.env.qual ++ "<lambda>") X.env.cells kx e c' h'.objs.size) (h' := h'.push (PySem.W.kla_obj "<lambda>" (X.env.qual ++ "<lambda>") p b scope (cloFrom X.env.cells scope.names []) ((X.mg "__name__").getD .none) c' ctv)) (t' := tk) (fun _ _ q => Heap.get?_push_of_some _ q) (Nat.le_refl _) (funX_ok new hp he)
    have kp : ∀ a o, H a = some o → a ≠ P → upd (upd (upd H P (.tbl (ps ++ #[rawInt pos.line, rawInt pos.col, .ref c']))) c' (CodeO c' (X.env.qual ++ "<lambda>"))) h'.objs.size (FunX (X.env.qual ++ "<lambda>") X.env.cells kx e c' h'.objs.size) a = some o := fun a o z na => by
      rw [upd_ne (ne_of_none z nf), upd_ne (ne_of_none z nC), upd_ne na]; exact z
    have atc : upd (upd (upd H P (.tbl (ps ++ #[rawInt pos.line, rawInt pos.col, .ref c']))) c' (CodeO c' (X.env.qual ++ "<lambda>"))) h'.objs.size (FunX (X.env.qual ++ "<lambda>") X.env.cells kx e c' h'.objs.size) c' = some (CodeO c' (X.env.qual ++ "<lambda>")) := by
      rw [upd_ne (Ne.symm fc), upd_same]
    refine h h'.objs.size c' _ _ I2 kp ⟨_, by rw [upd_ne (Ne.symm fP), upd_ne nPc, upd_same], ?_, fun p' cv hcv => ?_⟩ nf upd_same (.inl nC) atc fc fP (Ne.symm nPc)
    · have eL : (ps ++ #[rawInt pos.line, rawInt pos.col, .ref c']).toList = ps.toList ++ [rawInt pos.line, rawInt pos.col, .ref c'] := by simp
      rw [eL]; exact PySem.TriplesOk_snoc _ _ _ _ ht
    · have eL : (ps ++ #[rawInt pos.line, rawInt pos.col, .ref c']).toList = ps.toList ++ [rawInt pos.line, rawInt pos.col, .ref c'] := by simp
      rw [eL] at hcv
      rcases among_app _ ht hcv with z | z
      · obtain ⟨c0, e1, e2⟩ := ha p' cv z
        exact ⟨c0, e1, kp _ _ e2 fun z2 => by rw [z2, hP] at e2; exact cne _ _ _ (Option.some.inj e2).symm⟩
      · exact ⟨c', z, atc⟩
  | some cv =>
    obtain ⟨c', ec, hco⟩ := ha pos cv hc
    subst ec
    refine PySem.W.kla_makeFunctionHit (mg := X.mg) (c := c) (P := P) (ps := ps) (closure_ok hfree) I.ok.glob (I.mod.glob.keeps I.bk) hcode (TB.code.keeps I.bk) hP' ht hc bP fun ctv h' tk hx hsz => ?_
    have I1 : L2.Inv X pins σ H { s with heap := h', toks := tk } := I.kept hx
    have nf : H h'.objs.size = none := I1.hok.fresh (Nat.le_refl _)
    have new := Heap.get?_push_size h' (o := PySem.W.kla_obj "<lambda>" (X.env.qual ++ "<lambda>") p b scope (cloFrom X.env.cells scope.names []) ((X.mg "__name__").getD .none) c' ctv) rfl
    have I2 := I1.laid (a := h'.objs.size) (o := FunX (X.env.qual ++ "<lambda>") X.env.cells kx e c' h'.objs.size) (h' := h'.push (PySem.W.kla_obj "<lambda>" (X.env.qual ++ "<lambda>") p b scope (cloFrom X.env.cells scope.names []) ((X.mg "__name__").getD .none) c' ctv)) (t' := tk) (fun _ _ q => Heap.get?_push_of_some _ q) (Nat.le_refl _) (funX_ok new hp he)
    have kp : ∀ a o, H a = some o → upd H h'.objs.size (FunX (X.env.qual ++ "<lambda>") X.env.cells kx e c' h'.objs.size) a = some o := fun a o z => by rw [upd_ne (ne_of_none z nf)]; exact z
    have fc : h'.objs.size ≠ c' := fun z => by rw [z, hco] at nf; cases nf
    have fP : h'.objs.size ≠ P := fun z => by rw [z, hP] at nf; cases nf
    have cP : c' ≠ P := fun z => by rw [z, hP] at hco; exact cne _ _ _ (Option.some.inj hco).symm
    exact h h'.objs.size c' _ _ I2 (fun a o z _ => kp a o z) ⟨ps, kp _ _ hP, ht, fun p' cv hcv => by
      obtain ⟨c0, e1, e2⟩ := ha p' cv hcv
      exact ⟨c0, e1, kp _ _ e2⟩⟩ nf upd_same (.inr hco) (kp _ _ hco) fc fP cP
end
end Dp
end

section
set_option Elab.async false
set_option linter.all false
set_option autoImplicit false
set_option maxRecDepth 100000
set_option maxHeartbeats 4000000
/-! DpD: lambdas as terms, called by the def that catches. -/
namespace Dp
open PySem PySem.Spec PyProof.Rows L2 LamX
structure TabG (g : Gd) (P : Addr) (q : Str) : Prop where
  sp : g.sp P
  tb : ∀ k H, g.GI k H → TabS H P q
  put : ∀ k H H', g.GI k H → TabS H' P q → (∀ a o, H a = some o → a ≠ P → H' a = some o) → g.GI k H'
  no : ∀ k H c, g.GI k H → g.sp c → H c ≠ some (CodeO c q)
/-- a frame that makes lambdas -/
structure LamFr (g : Gd) (kx : Kx) (X : Cx) (c P : Addr) : Prop where
  code : X.env.code = .ref c
  tb : TabB X.base X.mg c P
  q : X.env.qual ++ "<lambda>" = g.r.lq
  lam : ∀ e c' f, g.r.lam e c' f = FunX g.r.lq X.env.cells kx e c' f
  tab : TabG g P g.r.lq
  sc : X.env.scope = kx.sc
theorem funX_nl {q : Str} {cells : List (Str × Addr)} {kx : Kx} {e : E} {c f : Addr} : Fz (FunX q cells kx e c f) := ⟨fun _ z => (by unfold FunX at z; cases z), fun _ _ _ z => by unfold FunX at z; cases z⟩
theorem codeO_nl {c : Addr} {q : Str} : Fz (CodeO c q) := ⟨fun _ z => (by unfold CodeO at z; cases z), fun _ _ _ z => by unfold CodeO at z; cases z⟩
section
variable {g : Gd} {M : Lm g} {W : WX} {X : Cx} {kx : Kx} {c P : Addr}
theorem Step.frz2 {F H F' H' : Hp} {k : Nat} (s : Step g F H k F' H') {p : Addr} {o : HO} (hp : H' p = some o) (ns : ¬ g.sp p) (nl : Fz o) (h0 : H p = none ∨ H p = some o) : ∃ F2, Step g F H k F2 H' ∧ Sub F' F2 ∧ F2 p = some o := by
  cases q : F' p with
  | none => exact ⟨_, s.freezeX hp q ns nl h0, sub_upd q, upd_same⟩
  | some u =>
    have := s.frz p u q
    rw [hp] at this; cases this
    exact ⟨F', s, .refl _, q⟩
theorem s_lam (lf : LamFr g kx X c P) (ok : g.Ok) {n : Nat} {p : Arguments} {b : Expr} {scope : Scope} {pos : Pos} {e : E} (he : cE n (kx.lamb scope) b = some e) (hp : lamB kx p scope = true) :
    PE X (.Lambda p b scope pos) (tD g M W false fun _ => .ret (.lm e)) := by
  have L : LamS X.env.scope scope := by rw [lf.sc]; exact lamS_by (lamB_ok hp).2
  refine ⟨fun pins s σ H Q I ⟨nn, H0, F, δ, A, w⟩ => ?_⟩
  have hT := lf.tab.tb _ _ A.gi
  refine lam_new (kx := kx) (e := e) I lf.tb lf.code (by rw [lf.q]; exact hT) hp he (L.has I.ok) fun f c' H1 s' I1 kp T1 nf hf hc' hc1 fc fP cP => ?_
  rw [lf.q] at T1 hf hc' hc1
  have gi := lf.tab.put _ _ _ A.gi T1 kp
  have st : Step g F H nn F H1 := by
    refine ⟨gi, fun a o z => ?_, .refl F, fun a o z => ?_, A.ns, fun a o z => .inl ⟨o, z⟩⟩
    · by_cases ha : a = P
      · exact .inl (ha ▸ lf.tab.sp)
      · exact .inr (kp a o z ha)
    · exact kp a o (A.sb a o z) fun ha => A.ns a o z (ha ▸ lf.tab.sp)
  have nsf : ¬ g.sp f := nsp_new ok A.gi nf
  have nsc : ¬ g.sp c' := fun z => lf.tab.no _ _ _ gi z hc1
  obtain ⟨F2, st2, _, hF2⟩ := st.frz2 hc1 nsc codeO_nl hc'
  obtain ⟨F3, st3, sb3, hF3⟩ := st2.frz2 hf nsf funX_nl (.inl nf)
  refine ⟨.ref f, H1, I1, rfl, w (.ref f) F3 H1 st3 (Post.of ?_)⟩
  unfold Rep
  exact ⟨f, c', rfl, by rw [lf.lam]; exact hF3, sb3 _ _ hF2⟩
end
/-! ### the lambda called, in the frame of the def that got it -/
section
variable {g : Gd} {M : Lm g} {X : Cx} {kx : Kx} {c P : Addr} {cc : Dp.C} {W : WX}
/-- what the lambda's body asks -/
structure LamK (g : Gd) (cc : Dp.C) (kx : Kx) (X : Cx) (k : Nat) : Prop where
  ok : g.Ok
  K : X.K = g.r.K
  nd : X.N.Nodup
  N : X.N = kx.N
  gu : X.A.guards = some []
  kok : KOk g cc.G
  call : ∀ f, (∃ x, kx.gl.lookup x = some (.fn f)) → Cal g X.prog X.w X.K X.mg X.base k f (kx.np f) (cc.call f) (kx.kw f)
  gl : ∀ x v, kx.gl.lookup x = some v → GlOk g cc X.mg x v
  bl : ∀ x ∈ bls, kx.gl.lookup x = none → X.mg x = none
  rs : ∀ c, kx.rs c = true → RsOk X (g.r.ca c)
  st : StG g
  cl : ClOk g cc kx.cf X.K
  eqi : ∀ c f, c < cc.G.n → cc.G.eq c = some f → EqI g X.prog X.w X.K X.mg X.base k cc.G cc.call c f
/-- a lambda's body without lambdas -/
abbrev flat (cc : Dp.C) : Dp.C := { cc with lam := fun _ _ => .bad }
theorem lam_xok {k : Nat} (lk : LamK g cc kx X k) {A : Around} {up : List PySem.Env} {s : Shared} {H : Hp} {E : XK} {scope : Scope} {f c' : Addr} (hA : A.guards = some []) (room : RoomI k (A.deeper (lamEnv X scope s.heap.objs.size f c'))) :
    XOk g (flat cc) M (fun cls d _ H' => E cls d H') (kx.lamb scope) (lamCx X A up s H E scope f c') := by
  refine ⟨⟨lk.ok, lk.K, lk.nd, rfl, hA, ?_⟩, lk.kok, lk.N, rfl, (fun x z => by cases z), ?_, ⟨k, room, lk.call⟩, ?_, lk.bl, fun c hc => ?_, lk.st, ⟨lk.cl.cf, lk.cl.fk⟩, ⟨k, room, lk.eqi⟩, (fun z => by cases z), (fun z => by cases z)⟩
  · have := room.1.un
    show (A.deeper _).units + 66 < cLine
    omega
  · exact takes_of rfl rfl rfl rfl
  · intro x v hx
    have := lk.gl x v hx
    cases v <;> exact this
  · obtain ⟨a, b, q⟩ := lk.rs c hc
    exact ⟨a, b, q⟩
theorem act_lam {CXg : CXT} {Eg : XK} {Ng : List Str} {qg : Str} {sg : Scope} {ga : Addr} {cdg : Value} {pins : List (Addr × Obj)} {σ : L2.St} {H F H0 : Hp} {s : Shared} {δ : Env} {k n0 i : Nat} {a : Str} {pn : List (Addr × Obj)} {xe : Value → Shared → Prop} {p1 p2 : Pos}
    (lf : LamFr g kx X c P) (lk : LamK g cc kx X k) (I : L2.Inv X pins σ H s) (At0 : At g M n0 H0 F H σ δ)
    (tk : L2.Takes ((cxOf CXg X.prog X.w X.K X.mg X.base Ng qg sg ga cdg X.A X.stack s H Eg).tr pn xe) W) (room : Room (k + 1) (X.A.deeper (envOfC qg sg s.heap.objs.size ga cdg)))
    (hN : Ng[i]? = some a) (hv : Vis sg a) (hd : (a == ("__debug__" : Str)) = false) (hcd : (a == ("__classdict__" : Str)) = false) :
    PE ((cxOf CXg X.prog X.w X.K X.mg X.base Ng qg sg ga cdg X.A X.stack s H Eg).tr pn xe) (.Call (.Name a p1) [] [] p2) (fun σZ HZ Q => ∃ f e n F', σZ[i]? = some (some (.ref f)) ∧ Step g F H n F' HZ ∧ Rep g.r F' (.lm e) (.ref f) ∧
      T.wp n (ev (flat cc) e δ) (fun k d => ∀ v F2 H2, Step g F' HZ k F2 H2 → Rep g.r F2 d v → Q v H2) (fun k c l => ∀ cls dd F2 H2, Step g F' HZ k F2 H2 → RepX g F2 c l cls dd → W cls dd σZ H2)) := by
  refine ⟨fun pinsZ sZ σZ HZ Q IZ ⟨f, e, nn, F', hs, stp, rp, w⟩ => ?_⟩
  refine wpAny_Call_Name_kw (thn ((pe_var (pos := p1) (i := i) hN hv hd hcd).run pinsZ sZ σZ HZ (fun v H1 => v = .ref f ∧ H1 = HZ) IZ ⟨.ref f, hs, rfl, rfl⟩) fun u s1 ⟨v, H1, I1, r1, ev', eH⟩ => ?_)
  subst ev' eH
  obtain rfl : u = Value.ref f := r1
  unfold Rep at rp
  obtain ⟨p, c', e1, hF, hC⟩ := rp
  cases e1
  have hf1 := stp.frz _ _ hF
  have hc1 := stp.frz _ _ hC
  rw [lf.lam] at hf1
  obtain ⟨⟨pa, b, scope, pm, ctv, nf, of1, hp, he⟩, _, _⟩ := I1.hok f _ hf1
  obtain ⟨⟨oc, vs, t, hoc, hdc, hvc⟩, _, _⟩ := I1.hok c' _ hc1
  have L : LamS X.env.scope scope := by rw [lf.sc]; exact lamS_by (lamB_ok hp).2
  have hbind : bindArgs (PySem.W.kla_fn "<lambda>" g.r.lq pa b scope (cloFrom X.env.cells scope.names []) pm (.ref c') ctv) ⟨[], []⟩ = pure [] := by
    rw [(lamB_ok hp).1]; rfl
  refine PySem.W.callWith_F0 ⟨_, _, _, _, of1⟩ ?_
  have un : Un (frs X.stack) [] H H1 s.heap s1.heap := I1.base
  let EZ : XK := fun cls d H2 => W cls d σZ H2
  have rc : codeAny (model X.prog X.w) (X.A.deeper (envOfC qg sg s.heap.objs.size ga cdg)) (.call (.ref f) ⟨[], []⟩) (CR (L2.CX X.prog X.w) (envOfC qg sg s.heap.objs.size ga cdg :: X.stack) X.prog X.w H1 s1 Q EZ) s1 := by
    refine PySem.W.kla_callFunE room.depth of1 rfl L.co L.gen rfl ⟨c', oc, vs, t, rfl, hoc, hdc, hvc⟩ ?_
    rw [hbind]
    refine wpAny_pure (wpAny_newFunctionEnv (fun y hy => (L.own y hy).2) (fun y hy => absurd hy (by simp)) (fun h₁ hns hsb => ⟨I1.nolimit.fresh _ hsb, ?_⟩) L.kind)
    rw [← lf.q]
    show codeAny _ _ (.expr b (lamEnv X scope s1.heap.objs.size f c')) _ _
    have kp : ∀ b o, s1.heap.get? b = some o → h₁.get? b = some o := fun b o e => hsb.extBut b o (Nat.ne_of_lt (Heap.lt_size e)) (Heap.get?_push_of_some _ e)
    have J := lam_start2 (E := EZ) (f := f) (c' := c') (tk := s1.toks + ([] : List (Str × Value)).length) I L I1.env0 room.hd un hns kp
    have xo := lam_xok (M := M) (E := EZ) (up := envOfC qg sg s.heap.objs.size ga cdg :: X.stack) (s := s1) (H := H1) (scope := scope) (f := f) (c' := c') (A := X.A.deeper (envOfC qg sg s.heap.objs.size ga cdg)) lk lk.gu (roomI room _)
    have pe := frzO lk.ok ((snd nf).fE xo he)
    refine PySem.W.kla_codeExpr (wpAny_mono (pe.run [] _ _ H1 Q J ⟨nn, H0, F', δ, At0.step stp, T.wp_mono (fun k d hd v F2 H2 s2 r => hd v F2 H2 s2 (by cases d <;> exact r)) (fun k c l h => h) w⟩) (fun v s' hq => ?_) fun e s' hq => hq)
    obtain ⟨w', H', J', rv, q⟩ := hq
    exact ⟨w', H', J'.os, J'.bare, J'.base, J'.hok, rv, q⟩
  refine wpAny_call (codeAny_mono rc fun r s' hq => ?_)
  cases r with
  | error e => exact tk _ _ (XE.of_call I1 (fun _ _ _ z => z) hq)
  | ok fl =>
    cases fl with
    | ret u => exact I1.after hq
    | next => exact False.elim hq
    | brk => exact False.elim hq
    | cont => exact False.elim hq
end
end Dp
end

section
set_option Elab.async false
set_option linter.all false
set_option autoImplicit false
set_option maxRecDepth 100000
set_option maxHeartbeats 4000000
/-! DpE: the def that catches. -/
namespace Dp
open PySem PySem.Spec PyProof.Rows L2 LamX
/-- def f(work): caught = None; try: work() / except SwapError as error: caught = error; return caught -/
inductive CauBody : List Stmt → Prop where
  | mk (j : Nat) (p1 p2 p3 p4 p5 p6 p7 p8 p9 q1 q2 q3 q4 q5 : Pos) : CauBody [.Assign [.Name "caught" p1] (.Constant .none j p2) p3,
      .Try [.Expr (.Call (.Name "work" p4) [] [] p5) p6] [.ExceptHandler (some (.Name "SwapError" p7)) (some "error") [.Assign [.Name "caught" p8] (.Name "error" p9) q1] q2] [] [] q3, .Return (some (.Name "caught" q4)) q5]
def cauN : List Str := ["work", "caught", "error"]
/-- the def that catches stands at fc; the class that it catches at cs -/
structure CauD (g : Gd) (G : Dp.Cls) (K : PySem.W.Frag) (mg : Str → Option Value) (fc cs : Addr) : Prop where
  df : ∃ (name qual : Str) (pars : Arguments) (body : List Stmt) (scope : Scope) (fd : FuncData), FunD K name qual pars body scope [] [] fc fd ∧ pars.posonlyargs = [] ∧ pars.args.map (·.arg) = (["work"] : List Str) ∧ pars.vararg = none ∧ pars.kwonlyargs = [] ∧ pars.kwarg = none ∧
    CauBody body ∧ C8.scC cauN ["work"] scope = true ∧ scope.names.lookup ("work" : Str) = some .local ∧ scope.names.lookup ("caught" : Str) = some .local ∧ scope.names.lookup ("error" : Str) = some .local ∧ scope.names.lookup ("SwapError" : Str) = some .globalImplicit
  ms : mg "SwapError" = some (.ref cs)
  ex : ∀ c, c < G.n → G.exn c = true → PySem.W.exmOne K (.ref (g.r.ca c)) (.ref cs) = some true
section
variable {g : Gd} {M : Lm g} {W : WX} {X : Cx} {kx : Kx} {c P : Addr} {cc : Dp.C}
theorem s_cau {fc cs : Addr} {k : Nat} {x : Str} {p pos : Pos} {a : Expr} {ta : Env → T D} (lf : LamFr g kx X c P) (lk : LamK g cc kx X k) (cd : CauD g cc.G X.K X.mg fc cs) (hlam : ∀ e δ, ∃ b, cc.lam e δ = T.need b (ev (flat cc) e δ)) (room : Room (k + 2) X.A)
    (hg : Gl X x) (hm : X.mg x = some (.ref fc)) (hdb : (x == ("__debug__" : Str)) = false) (hn : nsB a = true) (ha : PE X a (tD g M W false ta)) :
    PE X (.Call (.Name x p) [a] [] pos) (tD g M W false fun δ => (ta δ).bind fun d => match d with | .lm e => (cc.lam e δ).caught (fun c => decide (c < cc.G.n) && cc.G.exn c) | _ => .bad) := by
  obtain ⟨name, qual, pars, body, scope, fd, F, b1, b2, b3, b4, b5, hbody, hsc, lw, lc, le, ls⟩ := cd.df
  have S := C8.fnScope_by hsc
  obtain ⟨oc, od, dV, kV, doc, pm, an, cdv, ct, osl, rfl, lk2, hcd, dfl, kwd⟩ := F.ex
  have edV : dV = .none := by
    rcases dfl with ⟨_, e⟩ | ⟨e, _⟩
    · exact e
    · exact absurd rfl e
  subst edV
  refine ⟨fun pins s σ H Q I ⟨nn, H0, F0, δ, A, w⟩ => ?_⟩
  refine wpAny_Call_Name_kw (ld_glob I hg hm ?_ hdb)
  have q : tD g M W false ta σ H fun v H1 => ∃ n1 F1 d, Step g F0 H n1 F1 H1 ∧ Rep g.r F1 d v ∧ T.wp n1 (match d with | .lm e => (cc.lam e δ).caught (fun c => decide (c < cc.G.n) && cc.G.exn c) | _ => .bad) (fun k d => ∀ v F' H', Step g F0 H k F' H' → Post g false F' H H' d v → Q v H') (wX g W F0 H σ) :=
    ⟨nn, H0, F0, δ, A, T.wp_mono (fun _ d hd v F1 H1 s1 r1 => ⟨_, F1, d, s1, by cases d <;> exact r1, hd⟩) (fun _ _ _ h => h) (T.wp_bind.mp w)⟩
  have hpa : PA X [a] _ := pa_cons ha pa_nil (star_one hn)
  refine PySem.W.callWith_K (h₀ := X.base) I.ok.mod.kin F.kp (thn (hpa.run pos pins s σ H (fun vs H1 => ∃ v, vs = [v] ∧ ∃ n1 F1 d, Step g F0 H n1 F1 H1 ∧ Rep g.r F1 d v ∧ T.wp n1 (match d with | .lm e => (cc.lam e δ).caught (fun c => decide (c < cc.G.n) && cc.G.exn c) | _ => .bad) (fun k d => ∀ v F' H', Step g F0 H k F' H' → Post g false F' H H' d v → Q v H') (wX g W F0 H σ)) I ?_) fun us s1 ⟨vs, H1, I1, r, v, ev, n1, F1, d, st1, rd, wd⟩ => ⟨I1.kIn, ?_⟩) (star_cons hn) rfl
  · obtain ⟨nn', H0', F0', δ', A', w'⟩ := q
    exact ⟨nn', H0', F0', δ', A', T.wp_mono (fun _ d hd v F' H' s' p' => ⟨v, rfl, hd v F' H' s' p'⟩) (fun _ _ _ h => h) w'⟩
  subst ev
  cases d with
  | lm e =>
    have rd' := rd
    unfold Rep at rd'
    obtain ⟨f, c', rfl, _, _⟩ := rd'
    obtain ⟨u, eu, ru⟩ := r.one
    subst eu
    obtain rfl : u = Value.ref f := ru
    have A1 : At g M n1 H0 F1 H1 σ δ := A.step st1
    have wd : T.wp n1 ((cc.lam e δ).caught (fun c => decide (c < cc.G.n) && cc.G.exn c)) (fun k d => ∀ v F' H', Step g F0 H k F' H' → Post g false F' H H' d v → Q v H') (wX g W F0 H σ) := wd
    obtain ⟨bq, hlq⟩ := hlam e δ
    rw [hlq] at wd
    obtain ⟨_, wd⟩ := T.wp_need.mp (T.wp_caught wd)
    refine wpAny_call (codeAny_mono (run_ofS (CX := L2.CX X.prog X.w) (N := cauN) (ps := ["work"]) (us := [.ref f]) (vs := [.ref f]) (Q := Q) (E := fun _ _ _ => False) (k := k + 1) lk2 hcd S room I1.env0 (.of_eq (pl_bind b1 b2 b3 b4 b5 (by decide) rfl)) (.cons rfl .nil) rfl fun hr => ?_) fun r s' hq => ?_)
    · cases hbody with
      | mk j p1 p2 p3 p4 p5 p6 p7 p8 p9 q1 q2 q3 q4 q5 =>
        let Z : Cx := cxOf (L2.CX X.prog X.w) X.prog X.w X.K X.mg X.base cauN qual scope fc cdv X.A X.stack s1 H1 (fun _ _ _ => False)
        have h1 : PS Z (.Assign [.Name "caught" p1] (.Constant .none j p2) p3) _ := ps_set (i := 1) S.nd rfl (.inl lc) pe_non rfl (.inr lc)
        have h2 : PS Z (.Try [.Expr (.Call (.Name "work" p4) [] [] p5) p6] [.ExceptHandler (some (.Name "SwapError" p7)) (some "error") [.Assign [.Name "caught" p8] (.Name "error" p9) q1] q2] [] [] q3) _ :=
          try_keep (X := Z) (i := 2) (j := 1) (c := .ref cs) rfl rfl rfl S.nd rfl rfl le lc (by decide +kernel) (by decide +kernel) ⟨ls, by decide +kernel, .inl cd.ms⟩ fun W' pn xe tk _ => pss_one (ps_expr (act_lam (i := 0) (a := "work") lf lk I1 A1 tk hr rfl (.inl lw) (by decide +kernel) (by decide +kernel)) rfl)
        have h3 : PS Z (.Return (some (.Name "caught" q4)) q5) _ := ps_ret (pe_var (i := 1) rfl (.inl lc) (by decide +kernel) (by decide +kernel))
        refine ⟨_, pss_cons h1 (pss_cons h2 (pss_one h3)), ?_⟩
        refine ⟨f, e, n1, F1, rfl, A1.now, rd, T.wp_mono (fun m d hd v F2 H2 s2 r2 => ?_) (fun m ce l hd cls dd F2 H2 s2 rx => ?_) wd⟩
        · exact ⟨.non, rfl, hd .non F2 H2 (st1.trans s2) (Post.of Rep.non)⟩
        · obtain ⟨hok, hd⟩ := hd
          simp only [Bool.and_eq_true, decide_eq_true_eq] at hok
          obtain ⟨e1, e2⟩ := rx
          refine ⟨by rw [e1]; exact cd.ex ce hok.1 hok.2, fun b nb => ⟨.ref b, rfl, ?_⟩⟩
          have bn := Step.born lk.ok s2.gi s2.frz s2.nsp (o := ExV cls dd b) nb
          refine hd (.ref b) _ _ ((st1.trans s2).trans bn) (Post.of ?_)
          unfold Rep
          refine ⟨b, dd, rfl, by rw [← e1]; exact upd_same, e2.elim .inl fun ⟨z, dx, xs, z1, z2, z3, z4⟩ => .inr ⟨z, dx, xs, z1, bn.sub _ _ z2, z3, z4.mono bn.sub⟩⟩
    · cases r with
      | error e =>
        exact (show False from by
          obtain ⟨_, _, _, _, _, _, _, _, _, _, _, _, z⟩ := hq
          exact z).elim
      | ok fl =>
        cases fl with
        | ret u => exact I1.after hq
        | next => exact False.elim hq
        | brk => exact False.elim hq
        | cont => exact False.elim hq
  | _ => exact wd.elim
end
end Dp
end

section
set_option Elab.async false
set_option linter.all false
set_option autoImplicit false
set_option maxRecDepth 100000
set_option maxHeartbeats 4000000
/-! DpF: the state is made. -/
namespace Dp
open PySem PySem.Spec PyProof.Rows L2
section
variable {g : Gd} {M : Lm g} {W : WX} {X : Cx} {pos : Pos}
/-- the script walked -/
theorem i_scr (C : Cok g X) {tg : Expr} {i : Nat} {x : Str} (hN : X.N[i]? = some x) (hv : Vis X.env.scope x) (hd : (x == ("__debug__" : Str)) = false) (hcd : (x == ("__classdict__" : Str)) = false) :
    PI X tg (.Name x pos) (iD g M W true fun δ => match look δ i with | .v (.scr n) => .any fun l => .ret ((l.take 63).map D.int) | _ => .bad) := by
  refine imI (seq_PI (pe_var hN hv hd hcd) C.K) fun σ H R ⟨nn, H0, F, δ, A, w⟩ => ?_
  have B := A.env.at_ i
  dsimp only at w
  split at w
  · rename_i n e
    rw [e] at B
    obtain ⟨v, e1, r⟩ := B
    unfold Rep at r
    obtain ⟨p, ns, rfl, h1, rfl, h63⟩ := r
    have w : ∀ J F' H', Step g F H nn F' H' → Yields g true J F' H' ((ns.take 63).map D.int) → R J H' := w ns
    rw [List.take_of_length_le h63] at w
    refine ⟨.ref p, e1, p, rfl, .inl ⟨_, A.sb.seqL h1, w _ F H A.now ?_⟩⟩
    intro k F' H' gi sf sh nsp _
    have hp : SqL g.r.K H' p (ns.map V.int) := Sub.seqL sh (Sub.seqL sf h1)
    have stp := Step.refl gi sh nsp
    refine ⟨fun m d e => ?_, fun m e => ⟨_, hp, by simpa using e⟩⟩
    rw [List.getElem?_map] at e
    cases q : ns[m]? with
    | none => rw [q] at e; cases e
    | some z =>
      rw [q] at e
      have e : D.int z = d := Option.some.inj e
      subst e
      have hv : (ns.map V.int)[m]? = some (.int z) := by rw [List.getElem?_map, q]; rfl
      refine ⟨⟨_, _, hp, hv⟩, fun v H2 y => ?_⟩
      obtain ⟨rfl, y⟩ := y
      have e3 := y _ hp
      rw [hv] at e3; cases e3
      exact ⟨F', stp, Rep.int z⟩
  · exact w.elim
end
/-- abs(cell) -/
abbrev absT : Env → T D := fun δ => ((match look δ 2 with | .v d => .ret d | .ot l => .ret (.tup l) | _ => .bad : T D).bind fun d => (T.ret ([] : List D)).bind fun ds => .ret (d :: ds)).bind fun ds => biD .abs ds
abbrev tenT : Env → T D := fun _ => (T.ret (D.int 10)).bind fun x => (T.ret (D.int 18)).bind fun y => opD .Pow x y
abbrev lessT : Env → T D := fun δ => (absT δ).bind fun x => (tenT δ).bind fun y => opD .Sub x y
abbrev geT : Env → T Bool := fun δ => ((absT δ).bind fun x => (tenT δ).bind fun y => cmpD .GtE x y).bind asB
def iabs (i : Int) : Int := if i < 0 then -i else i
theorem lc_great {c : Env → T Bool} {e : Env → T D} {f : Int → Int} (hc : ∀ (a b : Slot) i, ∃ k, c [a, b, .v (.int i)] = .ret k) (he : ∀ (a b : Slot) i, e [a, b, .v (.int i)] = .ret (.int (f i))) (a b : Slot) : ∀ l : List Int, ∃ gr : List Int, gr.length ≤ l.length ∧ lcL c e (.n 2) [a, b, .no] (l.map D.int) = .ret (gr.map D.int)
  | [] => ⟨[], Nat.le_refl _, rfl⟩
  | i :: l => by
    obtain ⟨gr, hlen, h⟩ := lc_great hc he a b l
    obtain ⟨k, hk⟩ := hc a b i
    cases k with
    | true =>
      refine ⟨f i :: gr, by simp; omega, ?_⟩
      show ((c [a, b, .v (.int i)]).bind fun k => if k = true then (e [a, b, .v (.int i)]).bind fun y => (lcL c e (.n 2) [a, b, .no] (l.map D.int)).bind fun ys => .ret (y :: ys) else lcL c e (.n 2) [a, b, .no] (l.map D.int)) = _
      rw [hk, he, h]; rfl
    | false =>
      refine ⟨gr, by simp; omega, ?_⟩
      show ((c [a, b, .v (.int i)]).bind fun k => if k = true then (e [a, b, .v (.int i)]).bind fun y => (lcL c e (.n 2) [a, b, .no] (l.map D.int)).bind fun ys => .ret (y :: ys) else lcL c e (.n 2) [a, b, .no] (l.map D.int)) = _
      rw [hk, h]; rfl
theorem abs_run (a b : Slot) (i : Int) : absT [a, b, .v (.int i)] = .ret (.int (iabs i)) := rfl
theorem ten_run (δ : Env) : tenT δ = .ret (.int (10 ^ 18)) := by
  have h : (decide ((10 : Int).natAbs.log2 < 1000000)) = true := by decide
  show T.need (decide ((0 : Int) ≤ 18) && decide ((18 : Int) ≤ 100) && decide ((10 : Int).natAbs.log2 < 1000000)) _ = _
  rw [h]; rfl
theorem less_run (a b : Slot) (i : Int) : lessT [a, b, .v (.int i)] = .ret (.int (iabs i - 10 ^ 18)) := by
  show ((absT _).bind _) = _
  rw [abs_run]
  show ((T.ret (D.int (iabs i))).bind fun x => (tenT [a, b, .v (.int i)]).bind fun y => opD .Sub x y) = _
  rw [ten_run]; rfl
theorem ge_run (a b : Slot) (i : Int) : geT [a, b, .v (.int i)] = .ret (decide ((10 : Int) ^ 18 ≤ iabs i)) := by
  show (((absT _).bind _).bind asB) = _
  rw [abs_run]
  show (((T.ret (D.int (iabs i))).bind fun x => (tenT [a, b, .v (.int i)]).bind fun y => cmpD .GtE x y).bind asB) = _
  rw [ten_run]; rfl
/-- the body of the def that makes the state -/
inductive BegBody : List Stmt → Scope → Scope → Prop where
  | mk (a b c d e f h i : Nat) (s1 s2 : Scope) (p1 p2 p3 p4 p5 p6 p7 p8 p9 q1 q2 q3 q4 q5 q6 q7 q8 q9 r1 r2 r3 r4 r5 r6 r7 r8 r9 t1 t2 t3 t4 t5 t6 t7 : Pos) (hl : (p1.line == q9.line) = true) : BegBody
    [.Assign [.Name "great" p1] (.ListComp (.BinOp (.Call (.Name "abs" p2) [.Name "cell" p3] [] p4) .Sub (.BinOp (.Constant (.int 10) a p5) .Pow (.Constant (.int 18) b p6) p7) p8)
      [⟨.Name "cell" p9, .Name "script" q1, [.Compare (.Call (.Name "abs" q2) [.Name "cell" q3] [] q4) [.GtE] [.BinOp (.Constant (.int 10) c q5) .Pow (.Constant (.int 18) d q6) q7] q8], 0⟩] s1 q9) r1,
     .Return (some (.Dict [some (.Constant (.str "great") e r2), some (.Constant (.str "cells") f r3), some (.Constant (.str "left") h r4), some (.Constant (.str "turn") i r5)]
      [.Name "great" r6, .ListComp (.Call (.Name "abs" r7) [.Name "cell" r8] [] r9) [⟨.Name "cell" t1, .Name "script" t2, [], 0⟩] s2 t3, .Constant (.int 0) e t4, .Constant (.int 0) e t5] t6)) t7] s1 s2
theorem ints_map : ∀ l : List Int, intsD (l.map D.int) = some l
  | [] => rfl
  | z :: l => by simp [intsD, ints_map l]
def begN : List Str := ["script", "great", "cell"]
def begOwn : List (Str × Nat) := [("cell", 2)]
/-- what is looked at -/
def begB (scope s1 s2 : Scope) : Bool := C8.scC begN ["script"] scope && blkC begN scope s1 begOwn && blkC begN scope s2 begOwn && decide (scope.names.lookup ("script" : Str) = some .local) && decide (scope.names.lookup ("great" : Str) = some .local) &&
  decide ((relS s1 scope).names.lookup ("abs" : Str) = some .globalImplicit) && decide ((relS s1 scope).names.lookup ("cell" : Str) = some .local) && decide ((relS s2 scope).names.lookup ("abs" : Str) = some .globalImplicit) && decide ((relS s2 scope).names.lookup ("cell" : Str) = some .local) &&
  !(s1.names.any fun y => y.1 == ("great" : Str) && (y.2 == .local || y.2 == .cell))
def spB (K : PySem.W.Frag) : Sp := fun vs H Q _ => ∃ (a : Addr) (ns : List Int), vs = [.ref a] ∧ ns.length ≤ 63 ∧ SqL K H a (ns.map V.int) ∧
  ∀ pst pg pc gr ce H', StAt pst pg pc ce gr 0 0 H' → pc ≠ pg → ce.length ≤ 63 → (∀ b o, H b = some o → H' b = some o) → Q (.ref pst) H'
/-- a world without special objects -/
def g0 (K : PySem.W.Frag) : Gd := ⟨⟨K, fun _ => 0, fun _ => [], fun _ => 0, 0, fun _ _ _ => .lst [], ""⟩, fun _ => False, fun _ _ => True⟩
theorem g0_ok (K : PySem.W.Frag) : (g0 K).Ok := ⟨fun _ _ _ _ _ => trivial, fun _ _ _ _ z => z.elim, fun _ _ _ _ _ _ _ _ _ => trivial⟩
theorem pl_lc {n : Nat} {c : Env → T Bool} {e : Env → T D} {f : Int → Int} (hc : ∀ (a b : Slot) i, ∃ k, c [a, b, .v (.int i)] = .ret k) (he : ∀ (a b : Slot) i, e [a, b, .v (.int i)] = .ret (.int (f i))) (m : Nat) (b x : Slot) {Q : Nat → D → Prop} {E : Nat → Nat → List D → Prop} (q : ∀ gr : List Int, gr.length ≤ 63 → Q n (.lst (gr.map D.int))) :
    T.wp n (((fun δ : Env => (match look δ 0 with | .v (.scr _) => .any fun l => .ret ((l.take 63).map D.int) | _ => .bad : T (List D))) [.v (.scr m), b, x]).bind fun l => .need (decide (l.length ≤ lim)) ((T.nox (lcL c e (.n 2) (wipeE [.v (.scr m), b, x] (begOwn.map (·.2))) l)).bind fun ys => .ret (.lst ys))) Q E := by
  intro l
  obtain ⟨gr, hlen, h⟩ := lc_great hc he (.v (.scr m)) b (l.take 63)
  rw [List.length_take] at hlen
  have hl : decide (((l.take 63).map D.int).length ≤ lim) = true := by
    refine decide_eq_true ?_
    rw [List.length_map, List.length_take]
    have : (63 : Nat) ≤ lim := by decide
    omega
  show T.wp n (T.need (decide (((l.take 63).map D.int).length ≤ lim)) ((T.nox (lcL c e (.n 2) [.v (.scr m), b, .no] ((l.take 63).map D.int))).bind fun ys => .ret (.lst ys))) Q E
  rw [hl, h]
  exact q gr (by omega)
section
variable {P : Program} {w : World} {mg : Str → Option Value} {base : Heap} {K : PySem.W.Frag}
theorem beg_fn {k : Nat} {fa : Addr} {name qual : Str} {pars : Arguments} {body : List Stmt} {scope s1 s2 : Scope} {fd : FuncData} (F : FunD K name qual pars body scope [] [] fa fd) (hb : BegBody body s1 s2) (hB : begB scope s1 s2 = true) (ha : mg "abs" = none) :
    FnG P w K mg base (k + 1) fa fd ["script"] (spB K) := by
  unfold begB at hB
  simp only [Bool.and_eq_true, decide_eq_true_eq, Bool.not_eq_true'] at hB
  obtain ⟨⟨⟨⟨⟨⟨⟨⟨⟨b1, b2⟩, b3⟩, b4⟩, b5⟩, b6⟩, b7⟩, b8⟩, b9⟩, b10⟩ := hB
  have S := C8.fnScope_by b1
  obtain ⟨oc, od, dV, kV, doc, pm, an, cdv, ct, osl, rfl, lk, hcd, dfl, kwd⟩ := F.ex
  refine fnG_of lk hcd S (fun vs H Q E h => by obtain ⟨a, ns, rfl, _⟩ := h; rfl) fun A up s H vs Q E room gu h => ?_
  obtain ⟨a, ns, rfl, h63, hS, hQ⟩ := h
  cases hb with
  | mk ka kb kc kd ke kf kh ki s1 s2 p1 p2 p3 p4 p5 p6 p7 p8 p9 q1 q2 q3 q4 q5 q6 q7 q8 q9 r1 r2 r3 r4 r5 r6 r7 r8 r9 t1 t2 t3 t4 t5 t6 t7 hl =>
    let Z : Cx := cxOf (L2.CX P w) P w K mg base begN qual scope fa cdv A up s H E
    have un : (A.deeper (envOfC qual scope s.heap.objs.size fa cdv)).units + 66 < cLine := by have := room.1.un; omega
    have C : Cok (g0 K) Z := ⟨g0_ok K, rfl, S.nd, rfl, gu, un⟩
    have vs0 : Vis Z.env.scope "script" := .inl b4
    have vg : Vis Z.env.scope "great" := .inl b5
    have d0 : (("script" : Str) == ("__debug__" : Str)) = false := by decide +kernel
    have c0 : (("script" : Str) == ("__classdict__" : Str)) = false := by decide +kernel
    have dg : (("great" : Str) == ("__debug__" : Str)) = false := by decide +kernel
    have cg : (("great" : Str) == ("__classdict__" : Str)) = false := by decide +kernel
    have dc : (("cell" : Str) == ("__debug__" : Str)) = false := by decide +kernel
    have cc0 : (("cell" : Str) == ("__classdict__" : Str)) = false := by decide +kernel
    have da : (("abs" : Str) == ("__debug__" : Str)) = false := by decide +kernel
    have na : ("abs" : Str) ≠ "__name__" := by decide +kernel
    have M := noLm (g0 K)
    -- a block of a comprehension
    have CB : ∀ (sc : Scope) (s' : Shared) (H' : Hp) (Cc : Addr) (cl : List (Str × Addr)) (fp : List Addr), Cok (g0 K) (Z.blk s' H' sc (compEnvC sc cl Cc Z.env) fp) := fun _ _ _ _ _ _ => ⟨g0_ok K, rfl, S.nd, rfl, gu, un⟩
    have absP : ∀ (sc : Scope) (s' : Shared) (H' : Hp) (Cc : Addr) (cl : List (Str × Addr)) (fp : List Addr) (x1 x2 x3 : Pos), (relS sc scope).names.lookup ("abs" : Str) = some .globalImplicit → (relS sc scope).names.lookup ("cell" : Str) = some .local →
        PE (Z.blk s' H' sc (compEnvC sc cl Cc Z.env) fp) (.Call (.Name "abs" x1) [.Name "cell" x2] [] x3) (tD (g0 K) M W0 true absT) := fun sc s' H' Cc cl fp x1 x2 x3 e1 e2 =>
      s_bi (bi := .abs) (CB sc s' H' Cc cl fp) e1 ha (by decide +kernel) (b_cons (toBE (g0_ok K) (s_var (i := 2) rfl (.inl e2) dc cc0)) b_nil rfl) na da rfl rfl
    have tenP : ∀ (sc : Scope) (s' : Shared) (H' : Hp) (Cc : Addr) (cl : List (Str × Addr)) (fp : List Addr) (y1 y2 : Nat) (x1 x2 x3 : Pos), PE (Z.blk s' H' sc (compEnvC sc cl Cc Z.env) fp) (.BinOp (.Constant (.int 10) y1 x1) .Pow (.Constant (.int 18) y2 x2) x3) (tD (g0 K) M W0 true tenT) :=
      fun sc s' H' Cc cl fp y1 y2 x1 x2 x3 => s_op (CB sc s' H' Cc cl fp) (toBE (g0_ok K) (s_ret pe_int fun _ => Rep.int _)) (toBE (g0_ok K) (s_ret pe_int fun _ => Rep.int _))
    have h1 : PS Z _ _ := st_setLc (o := false) (own := begOwn) (spos := r1) (W := W0) (M := M) C (i := 1) (y := "great") rfl b5 (sw_true (pos := q9) (l := r1.line) (env := Z.env) S.kind b5 hl b10) (i_scr (pos := q1) (i := 0) C rfl vs0 d0 c0) (blkOk_by b2) (t := .n 2) (by decide)
      (fun s' H' Cc cl fp => g_n (x := "cell") (pos := p9) S.nd rfl (.inl b7) (.inr b7))
      (fun s' H' Cc cl fp => pts_one (t_cmp (o := .GtE) (pos := q8) (CB s1 s' H' Cc cl fp) (cmp_D (CB s1 s' H' Cc cl fp) _) (toBE (g0_ok K) (absP s1 s' H' Cc cl fp q2 q3 q4 b6 b7)) (toBE (g0_ok K) (tenP s1 s' H' Cc cl fp kc kd q5 q6 q7)) rfl))
      (fun s' H' Cc cl fp => frzE (g0_ok K) (s_op (o := .Sub) (pos := p8) (CB s1 s' H' Cc cl fp) (toBE (g0_ok K) (absP s1 s' H' Cc cl fp p2 p3 p4 b6 b7)) (toBE (g0_ok K) (tenP s1 s' H' Cc cl fp ka kb p5 p6 p7)))) (fun _ => rfl)
    have h2 : PE Z (.ListComp (.Call (.Name "abs" r7) [.Name "cell" r8] [] r9) [⟨.Name "cell" t1, .Name "script" t2, [], 0⟩] s2 t3) _ := s_lc (own := begOwn) (W := W0) (M := M) C (i_scr (i := 0) C rfl vs0 d0 c0) (blkOk_by b3) (t := .n 2) (by decide)
      (fun s' H' Cc cl fp => g_n (x := "cell") (pos := t1) S.nd rfl (.inl b9) (.inr b9)) (fun s' H' Cc cl fp => c_nil) (fun s' H' Cc cl fp => frzE (g0_ok K) (absP s2 s' H' Cc cl fp r7 r8 r9 b8 b9)) (fun _ => rfl)
    have hD : PE Z (.Dict [some (.Constant (.str "great") ke r2), some (.Constant (.str "cells") kf r3), some (.Constant (.str "left") kh r4), some (.Constant (.str "turn") ki r5)] [.Name "great" r6, .ListComp (.Call (.Name "abs" r7) [.Name "cell" r8] [] r9) [⟨.Name "cell" t1, .Name "script" t2, [], 0⟩] s2 t3, .Constant (.int 0) ke t4, .Constant (.int 0) ke t5] t6) _ :=
      pe_disp (pps_cons pe_str (pe_var (i := 1) rfl vg dg cg) (pps_cons pe_str h2 (pps_cons pe_str pe_int (pps_cons pe_str pe_int pps_nil)))) rfl rfl (by simp) (by show 4 ≤ 15; omega)
    refine ⟨_, pss_cons h1 (pss_one (ps_ret hD)), ?_⟩
    let F0 : Hp := fun b => if b = a then H a else none
    have sb0 : Sub F0 H := fun b o e => by
      by_cases z : b = a
      · subst z; simpa [F0] using e
      · simp [F0, z] at e
    have hSF : SqL K F0 a (ns.map V.int) := by
      have e : F0 a = H a := by simp [F0]
      rcases hS with (h | ⟨o, h⟩) | h
      · exact .inl (.inl (e.trans h))
      · exact .inl (.inr ⟨o, e.trans h⟩)
      · exact .inr h
    have en : EnvOk (g0 K) M H F0 H (L2.start begN [.ref a]) [.v (.scr ns.length), .no, .no] := by
      have r : Reps (g0 K).r F0 [.scr ns.length] [.ref a] := .cons (by unfold Rep; exact ⟨a, ns, rfl, hSF, rfl, h63⟩) .nil
      exact env_entry (N := begN) r (by show 1 ≤ 3; omega)
    have st0 : Step (g0 K) F0 H 0 F0 H := .refl trivial sb0 fun _ _ _ z => z
    refine ⟨0, F0, H, F0, _, st0, en, ?_⟩
    refine T.wp_bind.mpr (pl_lc (f := fun i => iabs i - 10 ^ 18) (fun a b i => ⟨_, ge_run a b i⟩) less_run ns.length .no .no fun gr _ => ?_)
    show finR (g0 K) M _ F0 H 0 (.nx [.v (.scr ns.length), .v (.lst (gr.map D.int)), .no])
    intro σ1 F1 H1 s1' en1 p np
    have B := en1.at_ 1
    obtain ⟨v, e1, rv⟩ := B
    obtain ⟨pg, xs, rfl, g1, g2⟩ := rv.lstI
    have hxs := Reps.ints (ns := gr) g2 (ints_map gr)
    subst hxs
    refine ⟨.ref pg, e1, ?_⟩
    have ld : Step (g0 K) F1 H1 0 F1 (upd H1 p (.dK [])) := Step.laid (g0_ok K) trivial s1'.frz s1'.nsp np
    have st2 := s1'.trans ld
    refine ⟨0, H, F1, _, ⟨trivial, ld.frz, fun _ _ _ z => z, en1.step ld⟩, pl_lc (f := iabs) (fun a b i => ⟨true, rfl⟩) (fun a b i => abs_run a b i) ns.length _ _ fun ce h63c => ?_⟩
    intro v2 F2 H2 s2' p2
    obtain ⟨pc, ys, rfl, k1, k2, k3, k4⟩ := p2
    have hys := Reps.ints (ns := ce) k2 (ints_map ce)
    subst hys
    have hpg : H1 pg = some (.lst (gr.map V.int)) := s1'.frz _ _ g1
    have pgp : pg ≠ p := ne_of_none hpg np
    have pcp : pc ≠ p := fun z => by subst z; rw [upd_same] at k4; cases k4
    have pgc : pc ≠ pg := fun z => by subst z; rw [upd_ne pcp] at k4; rw [hpg] at k4; cases k4
    have kp2 : ∀ b o, upd H1 p (.dK []) b = some o → H2 b = some o := fun b o e => (s2'.ext b o e).resolve_left fun z => z
    have hp2 := kp2 p _ upd_same
    refine ⟨hp2, [(.inr "great", .ref pg), (.inr "cells", .ref pc), (.inr "left", .int 0), (.inr "turn", .int 0)], rfl, by show 4 ≤ 15; omega, ?_⟩
    refine hQ p pg pc gr ce _ ⟨upd_same, ?_, ?_⟩ pgc h63c fun b o e => ?_
    · rw [upd_ne pgp]; exact kp2 pg _ (by rw [upd_ne pgp]; exact hpg)
    · rw [upd_ne pcp]; exact k1
    · have h1 : H1 b = some o := (s1'.ext b o e).resolve_left fun z => z
      have bp : b ≠ p := ne_of_none h1 np
      rw [upd_ne bp]
      exact kp2 b o (by rw [upd_ne bp]; exact h1)
end
end Dp
end

section
set_option Elab.async false
set_option linter.all false
set_option autoImplicit false
set_option maxRecDepth 100000
set_option maxHeartbeats 4000000
/-! DpG: how many draws there are at most. -/
namespace Dp
open PySem
open T
theorem few_bind' {α β : Type} {f : α → T β} {a b n : Nat} {t : T α} (ht : few t a) (hf : ∀ x, few (f x) b) (h : a + b ≤ n) : few (t.bind f) n := few_mono (few_bind hf ht) h
theorem few_opD (o : Operator) (a b : D) : few (opD o a b) 0 := by unfold opD; split <;> first | trivial | exact few_need trivial
theorem few_eqD (a b : D) (k : Bool → D) : few (eqD a b k) 0 := by unfold eqD; split <;> first | trivial | exact few_need trivial
theorem few_inD (a : D) (l : List D) (k : Bool → D) : few (inD a l k) 0 := by unfold inD; split <;> first | trivial | exact few_need trivial
theorem few_cmpD (o : CmpOp) (a b : D) : few (cmpD o a b) 0 := by unfold cmpD; split <;> first | trivial | exact few_eqD _ _ _ | exact few_inD _ _ _ | (split <;> trivial)
theorem few_ixD (a b : D) : few (ixD a b) 0 := by unfold ixD; split <;> first | trivial | (split <;> trivial)
theorem few_slD (a : D) (b c : Option Int) : few (slD a b c) 0 := by unfold slD; split <;> trivial
theorem few_isiD (G : Cls) (a : D) (t : Ty) : few (isiD G a t) 0 := by unfold isiD; split <;> first | trivial | exact few_need trivial
theorem few_reprD (a : D) : few (reprD a) 0 := by unfold reprD; split <;> first | trivial | exact few_need trivial
theorem few_biD (b : BI) (l : List D) : few (biD b l) 0 := by unfold biD; split <;> first | trivial | exact few_reprD _ | (split <;> first | trivial | exact few_need trivial)
theorem few_asB (d : D) : few (asB d) 0 := by unfold asB; split <;> trivial
theorem few_rngD (a b : Int) : few (rngD a b) 0 := by unfold rngD; exact few_need trivial
theorem few_lcL {c : Env → T Bool} {e : Env → T D} {t : Tg} {a b : Nat} (hc : ∀ δ, few (c δ) a) (he : ∀ δ, few (e δ) b) (δ : Env) : ∀ l : List D, few (lcL c e t δ l) (l.length * (a + b))
  | [] => trivial
  | d :: l => by
    unfold lcL
    split
    · trivial
    · have ih := few_lcL (t := t) hc he δ l
      refine few_bind' (hc _) (b := b + l.length * (a + b)) (fun k => ?_) (by rw [List.length_cons, Nat.add_mul]; omega)
      split
      · exact few_bind' (he _) (b := l.length * (a + b)) (fun y => few_bind' ih (b := 0) (fun ys => trivial) (Nat.le_refl _)) (Nat.le_refl _)
      · exact few_mono ih (by omega)
theorem few_lcL2 {src : Env → T (List D)} {c : Env → T Bool} {e : Env → T D} {t t2 : Tg} {sl : List Nat} {a b d : Nat} (hs : ∀ δ, few (src δ) d) (hc : ∀ δ, few (c δ) a) (he : ∀ δ, few (e δ) b) (δ : Env) : ∀ l : List D, few (lcL2 src c e t t2 sl δ l) (l.length * (d + 1000 * (a + b)))
  | [] => trivial
  | x :: l => by
    unfold lcL2
    split
    · trivial
    · rename_i δ' _
      refine few_bind' (hs δ') (b := 1000 * (a + b) + l.length * (d + 1000 * (a + b))) (fun m => ?_) (by rw [List.length_cons, Nat.add_mul, Nat.one_mul]; generalize l.length * (d + 1000 * (a + b)) = z; omega)
      unfold T.need
      split
      · rename_i h
        have h := of_decide_eq_true h
        refine few_bind' (few_lcL hc he _ m) (b := l.length * (d + 1000 * (a + b))) (fun ys => few_bind' (few_lcL2 hs hc he δ l) (b := 0) (fun _ => trivial) (Nat.le_refl _)) ?_
        have := Nat.mul_le_mul_right (a + b) h
        omega
      · trivial
theorem few_forL {b : Env → T Fl} {t : Tg} {a : Nat} (hb : ∀ δ, few (b δ) a) : ∀ (l : List D) (δ : Env), few (forL b t l δ) (l.length * a)
  | [], _ => trivial
  | d :: l, δ => by
    unfold forL
    split
    · trivial
    · refine few_bind' (hb _) (b := l.length * a) (fun f => ?_) (by rw [List.length_cons, Nat.add_mul]; omega)
      cases f with
      | nx δ => exact few_forL hb l δ
      | ct δ => exact few_forL hb l δ
      | brk δ => trivial
      | ret d => trivial
theorem few_whL {c : Env → T Bool} {b : Env → T Fl} {a d : Nat} (hc : ∀ δ, few (c δ) a) (hb : ∀ δ, few (b δ) d) : ∀ (n : Nat) (δ : Env), few (whL c b n δ) (n * (a + d))
  | 0, _ => trivial
  | n + 1, δ => by
    unfold whL
    refine few_bind' (hc _) (b := d + n * (a + d)) (fun k => ?_) (by rw [Nat.add_mul]; omega)
    split
    · refine few_bind' (hb _) (b := n * (a + d)) (fun f => ?_) (Nat.le_refl _)
      cases f with
      | nx δ => exact few_whL hc hb n δ
      | ct δ => exact few_whL hc hb n δ
      | brk δ => trivial
      | ret d => trivial
    · trivial
theorem few_take (δ : Env) (i : Nat) (o : Bool) (d : D) : few (take δ i o d) 0 := by
  unfold Dp.take
  split
  · split <;> trivial
  · trivial
theorem few_takes : ∀ (l : List (Nat × Bool)) (ds : List D) (δ : Env), few (takes δ l ds) 0
  | [], [], _ => trivial
  | [], _ :: _, _ => trivial
  | _ :: _, [], _ => trivial
  | (i, o) :: r, d :: ds, δ => few_bind' (few_take δ i o d) (fun δ' => few_takes r ds δ') (Nat.le_refl _)
section
variable {K : C} {c : Nat}
theorem few_ownEq (hc : ∀ f ds, few (K.call f ds) c) (neg : Bool) (i : Nat) (l : List D) (y : D) : few (ownEq K neg i l y) c := by
  unfold ownEq
  split
  · exact few_need (few_bind' (few_nox (hc _ _)) (b := 0) (fun r => by split <;> trivial) (Nat.le_refl _))
  · trivial
theorem few_cmpK (hc : ∀ f ds, few (K.call f ds) c) (o : CmpOp) (x y : D) : few (cmpK K o x y) c := by
  unfold cmpK
  split
  · exact few_ownEq hc _ _ _ _
  · exact few_ownEq hc _ _ _ _
  · exact few_mono (few_cmpD _ _ _) (Nat.zero_le _)
mutual
theorem few_ev (hc : ∀ f ds, few (K.call f ds) c) (hl : ∀ e δ, few (K.lam e δ) (lcap * c)) : ∀ (e : E) (δ : Env), few (ev K e δ) (wE e * c)
  | .c _, _ => trivial
  | .g _, _ => trivial
  | .gf _, _ => trivial
  | .v i, δ => by unfold ev; split <;> trivial
  | .b i, δ => by unfold ev; split <;> trivial
  | .dct, _ => trivial
  | .lam _, _ => trivial
  | .tup l, δ => few_bind' (few_evs hc hl l δ) (b := 0) (fun _ => trivial) (Nat.le_refl _)
  | .lst l, δ => few_bind' (few_evs hc hl l δ) (b := 0) (fun _ => trivial) (Nat.le_refl _)
  | .op o a b, δ => few_bind' (few_ev hc hl a δ) (b := wE b * c) (fun x => few_bind' (few_ev hc hl b δ) (b := 0) (fun y => few_opD o x y) (Nat.le_refl _)) (by simp only [wE, Nat.add_mul]; omega)
  | .neg a, δ => few_bind' (few_ev hc hl a δ) (b := 0) (fun x => by split <;> trivial) (Nat.le_refl _)
  | .cmp o a b, δ => few_bind' (few_ev hc hl a δ) (b := wE b * c + c) (fun x => few_bind' (few_ev hc hl b δ) (b := c) (fun y => few_cmpK hc o x y) (Nat.le_refl _)) (by simp only [wE, Nat.add_mul]; omega)
  | .cmp2 o p a b d, δ => few_bind' (few_ev hc hl a δ) (b := wE b * c + wE d * c) (fun x => few_bind' (few_ev hc hl b δ) (b := wE d * c) (fun y => few_bind' (few_cmpD o x y) (b := wE d * c) (fun z => by
      split
      · exact few_bind' (few_ev hc hl d δ) (b := 0) (fun w => few_cmpD p y w) (Nat.le_refl _)
      · trivial
      · trivial) (by omega)) (Nat.le_refl _)) (by simp only [wE, Nat.add_mul]; omega)
  | .and1 a, δ => few_bind' (few_ev hc hl a δ) (b := 0) (fun x => few_bind' (few_asB x) (b := 0) (fun _ => trivial) (Nat.le_refl _)) (Nat.le_refl _)
  | .or1 a, δ => few_bind' (few_ev hc hl a δ) (b := 0) (fun x => few_bind' (few_asB x) (b := 0) (fun _ => trivial) (Nat.le_refl _)) (Nat.le_refl _)
  | .not a, δ => few_bind' (few_ev hc hl a δ) (b := 0) (fun x => few_bind' (few_asB x) (b := 0) (fun _ => trivial) (Nat.le_refl _)) (Nat.le_refl _)
  | .and a r, δ => few_bind' (few_ev hc hl a δ) (b := wE r * c) (fun x => few_bind' (few_asB x) (b := wE r * c) (fun k => by
      split
      · exact few_ev hc hl r δ
      · trivial) (by omega)) (by simp only [wE, Nat.add_mul]; omega)
  | .or a r, δ => few_bind' (few_ev hc hl a δ) (b := wE r * c) (fun x => few_bind' (few_asB x) (b := wE r * c) (fun k => by
      split
      · trivial
      · exact few_ev hc hl r δ) (by omega)) (by simp only [wE, Nat.add_mul]; omega)
  | .ite t a b, δ => few_bind' (few_ev hc hl t δ) (b := wE a * c + wE b * c) (fun x => few_bind' (few_asB x) (b := wE a * c + wE b * c) (fun k => by
      split
      · exact few_mono (few_ev hc hl a δ) (by omega)
      · exact few_mono (few_ev hc hl b δ) (by omega)) (by omega)) (by simp only [wE, Nat.add_mul]; omega)
  | .ix a b, δ => few_bind' (few_ev hc hl a δ) (b := wE b * c) (fun x => few_bind' (few_ev hc hl b δ) (b := 0) (fun y => few_ixD x y) (Nat.le_refl _)) (by simp only [wE, Nat.add_mul]; omega)
  | .sl a lo hi, δ => few_bind' (few_ev hc hl a δ) (b := wO lo * c + wO hi * c) (fun x => few_bind' (few_evo hc hl lo δ) (b := wO hi * c) (fun i => few_bind' (few_evo hc hl hi δ) (b := 0) (fun j => few_slD x i j) (Nat.le_refl _)) (Nat.le_refl _)) (by simp only [wE, Nat.add_mul]; omega)
  | .lc own t s cd e, δ => few_bind' (few_evsrc hc hl s δ) (b := lim * (wO cd * c + wE e * c)) (fun l => by
      unfold T.need
      split
      · rename_i h
        have h := of_decide_eq_true h
        refine few_bind' (few_nox (few_lcL (fun δ' => few_evc hc hl cd δ') (fun δ' => few_ev hc hl e δ') _ l)) (b := 0) (fun _ => trivial) ?_
        exact Nat.mul_le_mul_right _ h
      · trivial) (by simp only [wE, Nat.add_mul, Nat.mul_assoc]; omega)
  | .idx i a, δ => by
    unfold ev
    split
    · exact few_bind' (few_ev hc hl a δ) (b := 0) (fun x => by split <;> trivial) (Nat.le_refl _)
    · trivial
  | .rev a, δ => few_bind' (few_ev hc hl a δ) (b := 0) (fun x => by split <;> trivial) (Nat.le_refl _)
  | .lc2 own t s t2 s2 cd e, δ => few_bind' (few_evsrc hc hl s δ) (b := 1000 * (wI s2 * c + 1000 * (wO cd * c + wE e * c))) (fun l => by
      unfold T.need
      split
      · rename_i h
        have h := of_decide_eq_true h
        refine few_bind' (few_nox (few_lcL2 (fun δ' => few_evsrc hc hl s2 δ') (fun δ' => few_evc hc hl cd δ') (fun δ' => few_ev hc hl e δ') _ l)) (b := 0) (fun _ => trivial) ?_
        exact Nat.mul_le_mul_right _ h
      · trivial) (by simp only [wE, Nat.add_mul, Nat.mul_assoc]; omega)
  | .call f l, δ => few_bind' (few_evs hc hl l δ) (b := c) (fun ds => hc f ds) (by simp only [wE, Nat.add_mul]; omega)
  | .callk f l ks p, δ => few_bind' (few_evs hc hl l δ) (b := wK ks * c + c) (fun ds => few_bind' (few_evk hc hl ks δ) (b := c) (fun zs => by
      split
      · exact hc f _
      · trivial) (Nat.le_refl _)) (by simp only [wE, Nat.add_mul]; omega)
  | .bi b l, δ => few_bind' (few_evs hc hl l δ) (b := 0) (fun ds => few_biD b ds) (Nat.le_refl _)
  | .seqR tu s, δ => few_bind' (few_evsrc hc hl s δ) (b := 0) (fun _ => trivial) (Nat.le_refl _)
  | .isi a t, δ => few_bind' (few_ev hc hl a δ) (b := 0) (fun x => few_isiD _ x t) (Nat.le_refl _)
  | .no, _ => trivial
  | .cv i fs l, δ => by
    unfold ev
    split
    · exact few_need (few_bind' (few_evs hc hl l δ) (b := c) (fun ds => hc _ ds) (by simp only [wE, Nat.add_mul]; omega))
    · trivial
  | .fld a x, δ => few_bind' (few_ev hc hl a δ) (b := 0) (fun o => by split <;> first | trivial | (split <;> trivial)) (Nat.le_refl _)
  | .cau a, δ => few_bind' (few_ev hc hl a δ) (b := lcap * c) (fun d => by
      split
      · exact few_caught (hl _ _)
      · trivial) (by simp only [wE, Nat.add_mul]; omega)
  | .stv i, δ => by unfold ev; exact few_need fun _ => trivial
  | .stnx i e, δ => by
    unfold ev
    refine few_need fun l => ?_
    show few (if l = [] then ev K e δ else T.ret (D.int (l.headD 0))) (wE e * c)
    split
    · exact few_ev hc hl e δ
    · trivial
theorem few_evs (hc : ∀ f ds, few (K.call f ds) c) (hl : ∀ e δ, few (K.lam e δ) (lcap * c)) : ∀ (l : EL) (δ : Env), few (evs K l δ) (wL l * c)
  | .nil, _ => trivial
  | .cons e l, δ => few_bind' (few_ev hc hl e δ) (b := wL l * c) (fun d => few_bind' (few_evs hc hl l δ) (b := 0) (fun _ => trivial) (Nat.le_refl _)) (by simp only [wL, Nat.add_mul]; omega)
theorem few_evk (hc : ∀ f ds, few (K.call f ds) c) (hl : ∀ e δ, few (K.lam e δ) (lcap * c)) : ∀ (l : KL) (δ : Env), few (evk K l δ) (wK l * c)
  | .nil, _ => trivial
  | .cons _ e l, δ => few_bind' (few_ev hc hl e δ) (b := wK l * c) (fun d => few_bind' (few_evk hc hl l δ) (b := 0) (fun _ => trivial) (Nat.le_refl _)) (by simp only [wK, Nat.add_mul]; omega)
theorem few_evo (hc : ∀ f ds, few (K.call f ds) c) (hl : ∀ e δ, few (K.lam e δ) (lcap * c)) : ∀ (l : EO) (δ : Env), few (evo K l δ) (wO l * c)
  | .no, _ => trivial
  | .e e, δ => few_bind' (few_ev hc hl e δ) (b := 0) (fun x => by split <;> trivial) (Nat.le_refl _)
theorem few_evc (hc : ∀ f ds, few (K.call f ds) c) (hl : ∀ e δ, few (K.lam e δ) (lcap * c)) : ∀ (l : EO) (δ : Env), few (evc K l δ) (wO l * c)
  | .no, _ => trivial
  | .e e, δ => few_bind' (few_ev hc hl e δ) (b := 0) (fun x => few_asB x) (Nat.le_refl _)
theorem few_evsrc (hc : ∀ f ds, few (K.call f ds) c) (hl : ∀ e δ, few (K.lam e δ) (lcap * c)) : ∀ (s : Src) (δ : Env), few (evsrc K s δ) (wI s * c)
  | .e a, δ => few_bind' (few_ev hc hl a δ) (b := 0) (fun x => by split <;> trivial) (Nat.le_refl _)
  | .rng1 a, δ => few_bind' (few_ev hc hl a δ) (b := 0) (fun x => by split <;> first | trivial | exact few_rngD _ _) (Nat.le_refl _)
  | .rng2 a b, δ => few_bind' (few_ev hc hl a δ) (b := wE b * c) (fun x => few_bind' (few_ev hc hl b δ) (b := 0) (fun y => by split <;> first | trivial | exact few_rngD _ _) (Nat.le_refl _)) (by simp only [wI, Nat.add_mul]; omega)
  | .enum a, δ => few_bind' (few_ev hc hl a δ) (b := 0) (fun x => by split <;> trivial) (Nat.le_refl _)
  | .zip a b, δ => few_bind' (few_ev hc hl a δ) (b := wE b * c) (fun x => few_bind' (few_ev hc hl b δ) (b := 0) (fun y => by split <;> trivial) (Nat.le_refl _)) (by simp only [wI, Nat.add_mul]; omega)
  | .stc i, δ => by unfold evsrc; exact few_need fun _ => trivial
end
mutual
theorem few_exs (hc : ∀ f ds, few (K.call f ds) c) (hl : ∀ e δ, few (K.lam e δ) (lcap * c)) (c1 : 1 ≤ c) : ∀ (s : S) (δ : Env), few (exs K s δ) (wS s * c)
  | .set i o e, δ => few_bind' (few_ev hc hl e δ) (b := 0) (fun d => few_bind' (few_take δ i o d) (b := 0) (fun _ => trivial) (Nat.le_refl _)) (Nat.le_refl _)
  | .par l es, δ => few_bind' (few_evs hc hl es δ) (b := 0) (fun ds => few_bind' (few_takes l ds δ) (b := 0) (fun _ => trivial) (Nat.le_refl _)) (Nat.le_refl _)
  | .unp t e, δ => few_bind' (few_ev hc hl e δ) (b := 0) (fun d => by split <;> trivial) (Nat.le_refl _)
  | .app i e, δ => by
    unfold exs
    split
    · exact few_bind' (few_ev hc hl e δ) (b := 0) (fun d => few_need trivial) (Nat.le_refl _)
    · trivial
  | .ife t a b, δ => few_bind' (few_ev hc hl t δ) (b := wSL a * c + wSL b * c) (fun x => few_bind' (few_asB x) (b := wSL a * c + wSL b * c) (fun k => by
      split
      · exact few_mono (few_exl hc hl c1 a δ) (by omega)
      · exact few_mono (few_exl hc hl c1 b δ) (by omega)) (by omega)) (by simp only [wS, Nat.add_mul]; omega)
  | .for t s b, δ => few_bind' (few_evsrc hc hl s δ) (b := lim * (wSL b * c)) (fun l => by
      unfold T.need
      split
      · rename_i h
        exact few_mono (few_forL (fun δ' => few_exl hc hl c1 b δ') l δ) (Nat.mul_le_mul_right _ (of_decide_eq_true h))
      · trivial) (by simp only [wS, Nat.add_mul, Nat.mul_assoc]; omega)
  | .wh t b, δ => few_mono (few_whL (fun δ' => few_bind' (few_ev hc hl t δ') (b := 0) (fun x => few_asB x) (Nat.le_refl _)) (fun δ' => few_exl hc hl c1 b δ') wturn δ) (by simp only [wS, Nat.add_mul, Nat.mul_assoc, Nat.mul_add]; omega)
  | .ret e, δ => few_bind' (few_ev hc hl e δ) (b := 0) (fun _ => trivial) (Nat.le_refl _)
  | .reto i, δ => by unfold exs; split <;> trivial
  | .ex e, δ => few_bind' (few_ev hc hl e δ) (b := 0) (fun _ => trivial) (Nat.le_refl _)
  | .raise k l, δ => few_bind' (few_evs hc hl l δ) (b := 0) (fun _ => trivial) (Nat.le_refl _)
  | .brk, _ => trivial
  | .cont, _ => trivial
  | .stw i e, δ => few_bind' (few_ev hc hl e δ) (b := 0) (fun d => by split <;> first | trivial | exact few_need trivial) (Nat.le_refl _)
  | .sto i a e, δ => by
    unfold exs
    split
    · refine few_bind' (few_ev hc hl e δ) (b := wE a * c) (fun d => few_bind' (few_ev hc hl a δ) (b := 0) (fun k => by split <;> trivial) (Nat.le_refl _)) (by simp only [wS, Nat.add_mul]; omega)
    · trivial
  | .pop i j e, δ => by
    unfold exs
    split
    · refine few_bind' (few_ev hc hl e δ) (b := 0) (fun k => by split <;> first | trivial | exact few_need trivial) (Nat.le_refl _)
    · trivial
  | .sett i e, δ => few_bind' (few_ev hc hl e δ) (b := 0) (fun d => by split <;> trivial) (Nat.le_refl _)
  | .tick i t f, δ => by
    unfold exs
    refine few_need ⟨by simp only [wS]; omega, fun r _ l => trivial⟩
theorem few_exl (hc : ∀ f ds, few (K.call f ds) c) (hl : ∀ e δ, few (K.lam e δ) (lcap * c)) (c1 : 1 ≤ c) : ∀ (s : SL) (δ : Env), few (exl K s δ) (wSL s * c)
  | .nil, _ => trivial
  | .cons s l, δ => few_bind' (few_exs hc hl c1 s δ) (b := wSL l * c) (fun f => by
      cases f with
      | nx δ => exact few_exl hc hl c1 l δ
      | ret d => trivial
      | brk δ => trivial
      | ct δ => trivial) (by simp only [wSL, Nat.add_mul]; omega)
end
/-- a lambda's body, weighed -/
theorem few_lam (hc : ∀ f ds, few (K.call f ds) c) (e : E) (δ : Env) : few (T.need (decide (wE e ≤ lcap)) (ev { K with lam := fun _ _ => .bad } e δ)) (lcap * c) := by
  unfold T.need
  split
  · rename_i h
    have := few_ev (K := { K with lam := fun _ _ => .bad }) hc (fun _ _ => trivial) e δ
    exact few_mono this (Nat.mul_le_mul_right _ (of_decide_eq_true h))
  · trivial
end
/-- the greatest weight that is let through -/
def wmax : Nat := 10 ^ 60
theorem few_run (P : Prg) (hw : ∀ f, wSL (P.fns f).bd ≤ wmax) : ∀ (k f : Nat) (ds : List D), few (P.run k f ds) (wmax ^ k)
  | 0, f, ds => trivial
  | k + 1, f, ds => by
    have c1 : 1 ≤ wmax ^ k := Nat.pos_of_ne_zero (by intro h; have := Nat.pow_eq_zero.mp h; exact absurd this.1 (by decide))
    unfold Prg.run
    split
    · split
      · trivial
      · split
        · refine ⟨?_, fun r _ => trivial⟩
          have : wmax ^ (k + 1) = wmax ^ k * wmax := rfl
          rw [this]
          exact Nat.mul_pos (by omega) (by decide)
        · trivial
    · rename_i d hd
      unfold runBody
      refine few_need (few_bind' (few_exl (c := wmax ^ k) (fun f ds => few_run P hw k f ds) (fun e δ => few_lam (fun f ds => few_run P hw k f ds) e δ) c1 d.body _) (b := 0) (fun r => by cases r <;> trivial) ?_)
      have : wmax ^ (k + 1) = wmax * wmax ^ k := by rw [Nat.pow_succ, Nat.mul_comm]
      rw [this, Nat.add_zero]
      refine Nat.mul_le_mul_right _ ?_
      have := hw f; rw [hd] at this; exact this
    · rename_i c d fl hd
      split
      · trivial
      · rename_i j
        unfold runMk
        have c2 : 1 ≤ wmax ^ j := Nat.pos_of_ne_zero (by intro h; have := Nat.pow_eq_zero.mp h; exact absurd this.1 (by decide))
        refine few_need (few_bind' (few_exl (c := wmax ^ j) (fun f ds => few_run P hw j f ds) (fun e δ => few_lam (fun f ds => few_run P hw j f ds) e δ) c2 d.body _) (b := 0) (fun r => by cases r <;> first | trivial | (dsimp only; split <;> trivial)) ?_)
        have e1 : wmax ^ (j + 1 + 1) = wmax * wmax * wmax ^ j := by rw [Nat.pow_succ, Nat.pow_succ, Nat.mul_assoc, Nat.mul_comm]
        rw [e1, Nat.add_zero]
        have := hw f; rw [hd] at this
        exact Nat.mul_le_mul_right _ (Nat.le_trans this (Nat.le_mul_of_pos_left _ (by decide)))
theorem wmax_tmax {k : Nat} (h : k ≤ 60) : ((wmax ^ k : Nat) : Int) < tmax := by
  have e1 : wmax ≤ 2 ^ 200 := by decide
  have e2 : wmax ^ k ≤ (2 ^ 200) ^ k := Nat.pow_le_pow_left e1 k
  have e3 : ((2 : Nat) ^ 200) ^ k = 2 ^ (200 * k) := (Nat.pow_mul 2 200 k).symm
  have e4 : (2 : Nat) ^ (200 * k) < 2 ^ tb := Nat.pow_lt_pow_right (by omega) (by unfold tb; omega)
  unfold tmax
  generalize (2 : Nat) ^ tb = z at *
  omega
end Dp
end

section
set_option Elab.async false
set_option linter.all false
set_option autoImplicit false
set_option maxRecDepth 100000
set_option maxHeartbeats 4000000
/-! DpH: the law's def. -/
namespace Dp
open PySem PySem.Spec PyProof.Rows L2 LamX
/-- the law's world: the draws' state at r.st, its lists, the tables of code objects -/
def gL (r : R) (pg pc : Addr) (ce : List Int) (tabs : List Addr) : Gd where
  r := r
  sp := fun a => a = r.st ∨ a = pg ∨ a = pc ∨ a ∈ tabs
  GI := fun k H => (∃ gr le tu, StAt r.st pg pc ce gr le tu H ∧ 0 ≤ tu ∧ tu + (k : Nat) < tmax) ∧ ∀ P ∈ tabs, TabS H P r.lq
section
variable {r : R} {pg pc : Addr} {ce : List Int} {tabs : List Addr}
theorem codeO_ne_dK {c : Addr} {q : Str} {l : List (L2.Key × V)} : CodeO c q ≠ .dK l := fun z => by unfold CodeO at z; cases z
theorem tab_grow {H H' : Hp} {P : Addr} {q : Str} (t : TabS H P q) (k : ∀ a o, H a = some o → (∀ xs, o ≠ .lst xs) → H' a = some o) : TabS H' P q := by
  obtain ⟨ps, h1, h2, h3⟩ := t
  refine ⟨ps, k _ _ h1 (fun _ z => by cases z), h2, fun pos cv h => ?_⟩
  obtain ⟨c, e1, e2⟩ := h3 pos cv h
  exact ⟨c, e1, k _ _ e2 codeO_nl.1⟩
theorem codeO_ni {c : Addr} {q : Str} {C dx : Addr} {fs : List (Str × V)} : CodeO c q ≠ .ins C dx fs := fun z => by unfold CodeO at z; cases z
theorem tab_keepI {H H' : Hp} {P : Addr} {q : Str} (t : TabS H P q) (k : ∀ a o, H a = some o → (∀ C dx fs, o ≠ .ins C dx fs) → H' a = some o) : TabS H' P q := by
  obtain ⟨ps, h1, h2, h3⟩ := t
  refine ⟨ps, k _ _ h1 (fun _ _ _ z => by cases z), h2, fun pos cv h => ?_⟩
  obtain ⟨c, e1, e2⟩ := h3 pos cv h
  exact ⟨c, e1, k _ _ e2 fun _ _ _ => codeO_ni⟩
theorem gL_ok : (gL r pg pc ce tabs).Ok := by
  refine ⟨fun c H H' ⟨⟨gr, le, tu, sa, t0, t1⟩, ht⟩ gw => ⟨⟨gr, le, tu, ⟨?_, ?_, ?_⟩, t0, t1⟩, fun P hP => ?_⟩, fun c H a ⟨⟨gr, le, tu, sa, _, _⟩, ht⟩ hs => ?_, fun c H a C dx fs o ⟨⟨gr, le, tu, sa, t0, t1⟩, ht⟩ e => ?_⟩
  · rcases gw _ _ sa.d with z | ⟨_, xs, ys, z, _⟩
    · exact z
    · cases z
  · rcases gw _ _ sa.g with z | ⟨z, _⟩
    · exact z
    · exact absurd (.inr (.inl rfl)) z
  · rcases gw _ _ sa.c with z | ⟨z, _⟩
    · exact z
    · exact absurd (.inr (.inr (.inl rfl))) z
  · refine tab_grow (ht P hP) fun a o e nl => ?_
    rcases gw a o e with z | ⟨_, xs, ys, z, _⟩
    · exact z
    · exact absurd z (nl xs)
  · rcases hs with rfl | rfl | rfl | hs
    · rw [sa.d]; simp
    · rw [sa.g]; simp
    · rw [sa.c]; simp
    · obtain ⟨ps, h1, _⟩ := ht a hs
      rw [h1]; simp
  · have up : ∀ b u, H b = some u → (∀ C dx fs, u ≠ .ins C dx fs) → upd H a o b = some u := fun b u h1 h2 => by
      have ne : b ≠ a := fun z => by
        subst z; rw [e] at h1; cases h1; exact h2 _ _ _ rfl
      rw [upd_ne ne]; exact h1
    exact ⟨⟨gr, le, tu, ⟨up _ _ sa.d (fun _ _ _ z => by cases z), up _ _ sa.g (fun _ _ _ z => by cases z), up _ _ sa.c (fun _ _ _ z => by cases z)⟩, t0, t1⟩, fun P hP => tab_keepI (ht P hP) up⟩
theorem gL_st (h1 : pg ≠ r.st) (h2 : pc ≠ r.st) (h3 : pc ≠ pg) (h4 : ce.length ≤ 63) (hn : ∀ P ∈ tabs, P ≠ r.st ∧ P ≠ pg ∧ P ≠ pc) : StG (gL r pg pc ce tabs) := by
  refine ⟨pg, pc, ce, .inl rfl, .inr (.inl rfl), h1, h2, h3, h4, fun k H h => h.1, fun k j H H' gr le tu h sa t0 t1 kp => ⟨⟨gr, le, tu, sa, t0, t1⟩, fun P hP => ?_⟩⟩
  obtain ⟨⟨gr', le', tu', sa', _, _⟩, ht⟩ := h
  obtain ⟨ps, e1, e2, e3⟩ := ht P hP
  obtain ⟨n1, n2, n3⟩ := hn P hP
  refine ⟨ps, by rw [kp P n1 n2]; exact e1, e2, fun pos cv hc => ?_⟩
  obtain ⟨c, c1, c2⟩ := e3 pos cv hc
  refine ⟨c, c1, ?_⟩
  have m1 : c ≠ (gL r pg pc ce tabs).r.st := fun z => by
    have := sa'.d
    rw [show r.st = c from z.symm, c2] at this
    exact codeO_ne_dK (Option.some.inj this)
  have m2 : c ≠ pg := fun z => by
    have := sa'.g
    rw [← z, c2] at this
    exact codeO_nl.1 _ (Option.some.inj this)
  rw [kp c m1 m2]; exact c2
theorem gL_tab {P : Addr} (h : tabs = [P]) (hn : P ≠ r.st ∧ P ≠ pg ∧ P ≠ pc) : TabG (gL r pg pc ce tabs) P (gL r pg pc ce tabs).r.lq := by
  subst h
  refine ⟨.inr (.inr (.inr (by simp))), fun k H h => h.2 P (by simp), fun k H H' ⟨⟨gr, le, tu, sa, t0, t1⟩, ht⟩ hT kp => ⟨⟨gr, le, tu, ⟨kp _ _ sa.d (Ne.symm hn.1), kp _ _ sa.g (Ne.symm hn.2.1), kp _ _ sa.c (Ne.symm hn.2.2)⟩, t0, t1⟩, fun P' hP' => ?_⟩, fun k H c ⟨⟨gr, le, tu, sa, _, _⟩, ht⟩ hs e => ?_⟩
  · have e : P' = P := by simpa using hP'
    subst e; exact hT
  · rcases hs with rfl | rfl | rfl | hs
    · rw [sa.d] at e; exact codeO_ne_dK (Option.some.inj e).symm
    · rw [sa.g] at e; exact codeO_nl.1 _ (Option.some.inj e).symm
    · rw [sa.c] at e; exact codeO_nl.1 _ (Option.some.inj e).symm
    · have ec : c = P := by simpa using hs
      subst ec
      obtain ⟨ps, h1, _⟩ := ht c (by simp)
      rw [h1] at e
      exact codeO_ne ps (Option.some.inj e).symm
end
/-- where things stand, q the lambdas' name, cells the law's -/
def rL (K : PySem.W.Frag) (ca : Nat → Addr) (fs : Nat → List Str) (fa : Nat → Addr) (q : Str) (cells : List (Str × Addr)) (kx : Kx) (pst : Addr) : R := ⟨K, ca, fs, fa, pst, fun e c f => FunX q cells kx e c f, q⟩
section
variable {K : PySem.W.Frag} {ca : Nat → Addr} {fs : Nat → List Str} {fa : Nat → Addr} {q : Str} {cells : List (Str × Addr)} {kx : Kx} {pst pg pc : Addr} {ce : List Int} {tabs : List Addr}
theorem rL_lq : (gL (rL K ca fs fa q cells kx pst) pg pc ce tabs).r.lq = q := rfl
theorem rL_lam (e : E) (c f : Addr) : (gL (rL K ca fs fa q cells kx pst) pg pc ce tabs).r.lam e c f = FunX (gL (rL K ca fs fa q cells kx pst) pg pc ce tabs).r.lq cells kx e c f := rfl
/-- the law's frame makes lambdas -/
theorem rL_fr {X : Cx} {c PT : Addr} (h1 : X.env.code = .ref c) (h2 : TabB X.base X.mg c PT) (h3 : X.env.qual ++ "<lambda>" = q) (h4 : X.env.cells = cells) (h5 : X.env.scope = kx.sc) (hT : tabs = [PT]) (hn : PT ≠ pst ∧ PT ≠ pg ∧ PT ≠ pc) : LamFr (gL (rL K ca fs fa q cells kx pst) pg pc ce tabs) kx X c PT :=
  ⟨h1, h2, h3.trans rL_lq.symm, fun e c f => by rw [rL_lam, h4], gL_tab hT hn, h5⟩
end
/-- the calls' context at the law's level -/
def ccL (m : Mo) (k : Nat) : Dp.C := ⟨m.P.G, m.P.run k, fun e δ => T.need (decide (wE e ≤ lcap)) (ev ⟨m.P.G, m.P.run k, fun _ _ => .bad, m.P.fld, m.P.con⟩ e δ), m.P.fld, m.P.con⟩
/-- what the law's def is asked of -/
def spLaw (K : PySem.W.Frag) (tabs : List Addr) : Sp := fun vs H Q _ => ∃ (a : Addr) (ns : List Int), vs = [.ref a] ∧ ns.length ≤ 63 ∧ SqL K H a (ns.map V.int) ∧ (∀ o, H a = some o → ∃ ob u, o = .frz ob u) ∧ (∀ P ∈ tabs, H P = some (.tbl #[])) ∧ ∀ H', Q (.bl true) H'
/-- a text's law -/
structure LawE where
  params : Arguments
  scope : Scope
  N : List Str
  own : List Str
  rest : List Stmt
  tm : SL
  lm : Bool
def LawE.kx (m : Mo) (l : LawE) : Kx := ⟨l.N, l.scope, fun _ => true, l.own, m.gl, m.np, m.kw, fun c => decide (c ∈ m.rs), l.lm, m.cf⟩
structure LawE.Ok (m : Mo) (l : LawE) : Prop where
  sc : C8.scC l.N ["script"] l.scope = true
  n0 : l.N[0]? = some ("script" : Str)
  n1 : l.N[1]? = some ("state" : Str)
  v0 : (l.kx m).vis "script" = true
  v1 : (l.kx m).loc "state" = true
  vb : (l.kx m).glb "_law_begun" = true
  tm : cSs (l.kx m) 200 l.rest = some l.tm
  w : wSL l.tm ≤ wmax
  wd : ∀ f, wSL (m.P.fns f).bd ≤ wmax
/-- the lambdas' side: the law's code object, its table, the def that catches -/
structure LamD (m : Mo) (K : PySem.W.Frag) (ca : Nat → Addr) (mg : Str → Option Value) (base : Heap) (fd : FuncData) (PT : Addr) : Prop where
  ex : ∃ (c fc cs : Addr), fd.code = .ref c ∧ TabB base mg c PT ∧ (∀ g : Gd, g.r.ca = ca → CauD g m.P.G K mg fc cs) ∧ ∀ x, m.gl.lookup x = some .cau → mg x = some (.ref fc)
section
variable {P : Program} {w : World} {mg : Str → Option Value} {base : Heap} {K : PySem.W.Frag} {m : Mo} {ca : Nat → Addr} {fs : Nat → List Str} {fa : Nat → Addr}
/-- the rest of the law's body -/
theorem law_sok {L : LawE} {g : Gd} {fL : Addr} {qual : Str} {cdv : Value} {kk : Nat} {A : Around} {up : List PySem.Env} {s : Shared} {H : Hp} {E : XK} (ok : L.Ok m) (fxg : Fx m g mg) (S : FnScope L.N ["script"] L.scope) (cal : Cals m g P w mg base kk) (eqs : Eqs m g P w mg base kk)
    (room : RoomI (kk + 2) (A.deeper (envOfC qual L.scope s.heap.objs.size fL cdv))) (gu : A.guards = some []) (hK : g.r.K = K)
    (lmk : L.lm = true → ∃ c PT fc cs, LamFr g (L.kx m) (cxOf (L2.CX P w) P w K mg base L.N qual L.scope fL cdv A up s H E) c PT ∧ CauD g m.P.G K mg fc cs ∧ ∀ x, m.gl.lookup x = some .cau → mg x = some (.ref fc)) :
    PSs (cxOf (L2.CX P w) P w K mg base L.N qual L.scope fL cdv A up s H E) L.rest (sD g (noLm g) (fun cls d _ H' => E cls d H') (exl (ccL m kk) L.tm)) := by
  subst hK
  have glk : ∀ x v, m.gl.lookup x = some v → GlOk g (ccL m kk) mg x v := fun x v hx => by
    have := fxg.gl x v hx
    cases v with
    | fn f => exact this
    | cls c => exact this
    | con i => exact this
    | cau => trivial
  have rsk : ∀ c, (L.kx m).rs c = true → RsOk (cxOf (L2.CX P w) P w g.r.K mg base L.N qual L.scope fL cdv A up s H E) (g.r.ca c) := fun c hc => by
    have hc : decide (c ∈ m.rs) = true := hc
    obtain ⟨x1, x2, q1, q2⟩ := fxg.rs c (of_decide_eq_true hc)
    exact ⟨x1, x2, raises_own q1 q2⟩
  have un : (A.deeper (envOfC qual L.scope s.heap.objs.size fL cdv)).units + 66 < cLine := by have := room.1.un; omega
  have clk : ClOk g (ccL m kk) (L.kx m).cf g.r.K := ⟨fun f c h => fxg.cf h, fun c x h => fxg.fk c x h⟩
  have lkk : LamK g (ccL m kk) (L.kx m) (cxOf (L2.CX P w) P w g.r.K mg base L.N qual L.scope fL cdv A up s H E) kk := ⟨fxg.ok, rfl, S.nd, rfl, gu, fxg.kok, cal, glk, fxg.bl, rsk, fxg.st, clk, eqs⟩
  refine (snt 200).fs ⟨⟨⟨fxg.ok, rfl, S.nd, rfl, gu, un⟩, fxg.kok, rfl, rfl, fun _ _ => rfl, takes_of rfl rfl rfl rfl, ⟨kk, ⟨room.1.mono (by omega), room.2.mono (by omega)⟩, cal⟩, glk, fxg.bl, rsk, fxg.st, clk, ⟨kk, ⟨room.1.mono (by omega), room.2.mono (by omega)⟩, eqs⟩, fun hl => ?_, fun hl => ?_⟩, S.kind, passes_of rfl⟩ ok.tm
  · obtain ⟨c, PT, fc, cs, lf, _, _⟩ := lmk hl
    intro n p b scope pos e he hp
    exact s_lam lf fxg.ok he hp
  · obtain ⟨c, PT, fc, cs, lf, cd, e4⟩ := lmk hl
    intro x p pos a ta hx hg hn hpa
    have hg2 : Gl (cxOf (L2.CX P w) P w g.r.K mg base L.N qual L.scope fL cdv A up s H E) x ∧ (x == ("__debug__" : Str)) = false := by
      unfold Kx.glb at hg
      simp only [Bool.and_eq_true, Bool.not_eq_true', decide_eq_false_iff_not] at hg
      obtain ⟨⟨z, b⟩, c⟩ := hg
      refine ⟨?_, b⟩
      show L.scope.names.lookup _ = _
      unfold Kx.kd at z
      have ez : (L.kx m).sc = L.scope := rfl
      rw [ez] at z
      split at z
      · assumption
      · cases z
    exact s_cau lf lkk cd (fun e δ => ⟨_, rfl⟩) room.1 hg2.1 (e4 x hx) hg2.2 hn hpa
theorem law_fnG {L : LawE} {fL fb : Addr} {name qual : Str} {s1 s2 : Scope} {tabs : List Addr} {p1 p2 p3 p4 p5 : Pos} {fdL fdB : FuncData} {kk : Nat} (ok : L.Ok m) (dr : DrOk m)
    (fx : ∀ g : Gd, g.r.K = K → g.r.ca = ca → g.r.fs = fs → g.r.fa = fa → g.Ok → StG g → Fx m g mg)
    (drF : ∀ f, m.tab[f]? = some none → ∃ (name qual : Str) (fd : FuncData), FunD K name qual m.dr.params m.dr.body m.dr.scope [] [] (fa f) fd)
    (FL : FunD K name qual L.params (.Assign [.Name "state" p1] (.Call (.Name "_law_begun" p2) [.Name "script" p3] [] p4) p5 :: L.rest) L.scope [] [] fL fdL)
    (mb : mg "_law_begun" = some (.ref fb)) (FB : ∃ (name qual : Str) (pars : Arguments) (body : List Stmt) (scope : Scope), FunD K name qual pars body scope [] [] fb fdB ∧ BegBody body s1 s2 ∧ begB scope s1 s2 = true ∧ pars.posonlyargs = [] ∧ pars.args.map (·.arg) = (["script"] : List Str) ∧ pars.vararg = none ∧ pars.kwonlyargs = [] ∧ pars.kwarg = none) (ha : mg "abs" = none)
    (lam : L.lm = false ∧ tabs = [] ∨ ∃ PT, tabs = [PT] ∧ LamD m K ca mg base fdL PT) (hkk : kk + 1 ≤ 60)
    (plain : ∀ n, n ≤ 63 → T.ok (exl (ccL m kk) L.tm (entry L.N.length [.scr n, .st])) (fun fl => fl = .ret (.bl true)) (fun _ _ => False)) :
    FnG P w K mg base (kk + 3) fL fdL ["script"] (spLaw K tabs) := by
  have S := C8.fnScope_by ok.sc
  obtain ⟨oc, od, dV, kV, doc, pm, an, cdv, ct, osl, rfl, lk, hcd, dfl, kwd⟩ := FL.ex
  obtain ⟨nameB, qualB, parsB, bodyB, scopeB, FB, bb, bB, a1, a2, a3, a4, a5⟩ := FB
  have G := beg_fn (P := P) (w := w) (base := base) (k := kk) FB bb bB ha
  have bindB : ∀ (s : Shared) (us : List Value), us.length = 1 → BindsTo s fdB ⟨us, []⟩ ((["script"] : List Str).zip us) := fun s us hl => by
    obtain ⟨oc, od, dV, kV, doc, pm, an, cdv, ct, osl, rfl, lk, hcd, dfl, kwd⟩ := FB.ex
    have edV : dV = .none := by
      rcases dfl with ⟨_, e⟩ | ⟨e, _⟩
      · exact e
      · exact absurd rfl e
    subst edV
    exact .of_eq (pl_bind a1 a2 a3 a4 a5 (by decide) hl)
  refine fnG_of lk hcd S (fun vs H Q E h => by obtain ⟨a, ns, rfl, _⟩ := h; rfl) fun A up s H vs Q E room gu h => ?_
  obtain ⟨a, ns, rfl, h63, hS, hfz, hT, hQ⟩ := h
  let Z : Cx := cxOf (L2.CX P w) P w K mg base L.N qual L.scope fL cdv A up s H E
  -- what a global name of the law's block is
  have kvis : ∀ {x : Str}, (L.kx m).vis x = true → Vis Z.env.scope x ∧ (x == ("__debug__" : Str)) = false ∧ (x == ("__classdict__" : Str)) = false := fun {x} e => by
    unfold Kx.vis at e
    simp only [Bool.and_eq_true, Bool.not_eq_true'] at e
    obtain ⟨⟨z, b⟩, c⟩ := e
    refine ⟨?_, b, c⟩
    unfold Vis
    show L.scope.names.lookup x = _ ∨ L.scope.names.lookup x = _ ∨ L.scope.names.lookup x = _
    unfold Kx.kd at z
    have ez : (L.kx m).sc = L.scope := rfl
    rw [ez] at z
    split at z <;> simp_all
  have hb : Gl Z "_law_begun" ∧ (("_law_begun" : Str) == ("__debug__" : Str)) = false := by
    have e := ok.vb
    unfold Kx.glb at e
    simp only [Bool.and_eq_true, Bool.not_eq_true', decide_eq_false_iff_not] at e
    obtain ⟨⟨z, b⟩, c⟩ := e
    refine ⟨?_, b⟩
    show L.scope.names.lookup _ = _
    unfold Kx.kd at z
    have ez : (L.kx m).sc = L.scope := rfl
    rw [ez] at z
    split at z
    · assumption
    · cases z
  have hst : L2.Loc Z.env.scope "state" ∧ (Z.fn "state" = true ∨ Z.env.scope.names.lookup ("state" : Str) = some .local) := by
    have e := ok.v1
    unfold Kx.loc at e
    refine ⟨?_, .inl rfl⟩
    show L.scope.names.lookup _ = _ ∨ L.scope.names.lookup _ = _
    unfold Kx.kd at e
    have ez : (L.kx m).sc = L.scope := rfl
    rw [ez] at e
    split at e
    · exact .inl (by assumption)
    · exact .inr (by assumption)
    · cases e
  obtain ⟨v0, d0, c0⟩ := kvis ok.v0
  -- the state is made
  have tk0 : L2.Takes Z (fun cls d _ H' => E cls d H') := takes_of rfl rfl rfl rfl
  have room1 : Room (kk + 1) Z.A := room.1.mono (by omega)
  have hcall : PE Z (.Call (.Name "_law_begun" p2) [.Name "script" p3] [] p4) (fun σ H Q => ∃ v, σ[0]? = some (some v) ∧ spB K [v] H Q (fun _ _ _ => False)) := by
    refine ⟨fun pins s σ H Q I ⟨v, hv, hsp⟩ => ?_⟩
    refine wpAny_Call_Name_kw (ld_glob I hb.1 mb ?_ hb.2)
    have hpa : PA Z [.Name "script" p3] _ := pa_cons (pe_var (i := 0) ok.n0 v0 d0 c0) pa_nil rfl
    refine PySem.W.callWith_K (h₀ := Z.base) I.ok.mod.kin FB.kp (thn (hpa.run p4 pins s σ H (fun vs H1 => vs = [v] ∧ H1 = H) I ⟨v, hv, rfl, rfl⟩) fun us s1 ⟨vs, H1, I1, r, e1, e2⟩ => ⟨I1.kIn, ?_⟩) rfl rfl
    subst e1 e2
    obtain ⟨u, rfl, ru⟩ := r.one
    exact wpAny_call (run_fnG (X := Z) G room1 gu tk0 I1 (bindB s1 [u] rfl) (.cons ru .nil) (fun _ _ _ z => z.elim) hsp)
  have h1 : PS Z (.Assign [.Name "state" p1] (.Call (.Name "_law_begun" p2) [.Name "script" p3] [] p4) p5) _ := ps_set (i := 1) S.nd ok.n1 hst.1 hcall rfl hst.2
  -- the rest, wherever the state stands
  obtain ⟨q, hq⟩ : ∃ q : Str, (envOfC qual L.scope s.heap.objs.size fL cdv).qual ++ "<lambda>" = q := ⟨_, rfl⟩
  obtain ⟨cells, hcells⟩ : ∃ cells, (envOfC qual L.scope s.heap.objs.size fL cdv).cells = cells := ⟨_, rfl⟩
  have hrest : ∀ pst pg pc ce, pg ≠ pst → pc ≠ pst → pc ≠ pg → ce.length ≤ 63 → (∀ T ∈ tabs, T ≠ pst ∧ T ≠ pg ∧ T ≠ pc) → PSs Z L.rest (sD (gL (rL K ca fs fa q cells (L.kx m) pst) pg pc ce tabs) (noLm _) (fun cls d _ H' => E cls d H') (exl (ccL m kk) L.tm)) := by
    intro pst pg pc ce n1 n2 n3 n4 n5
    have stg : StG (gL (rL K ca fs fa q cells (L.kx m) pst) pg pc ce tabs) := gL_st n1 n2 n3 n4 n5
    have fxg := fx (gL (rL K ca fs fa q cells (L.kx m) pst) pg pc ce tabs) rfl rfl rfl rfl gL_ok stg
    have calE : ∀ k, Cals m (gL (rL K ca fs fa q cells (L.kx m) pst) pg pc ce tabs) P w mg base k ∧ Eqs m (gL (rL K ca fs fa q cells (L.kx m) pst) pg pc ce tabs) P w mg base k := calsE fxg (fun f hf => (draw_cal fxg dr hf (drF f hf)).1) (fun k f hf => (draw_cal fxg dr hf (drF f hf)).2 k)
    refine law_sok ok fxg S (calE kk).1 (calE kk).2 room gu rfl (fun hl => ?_)
    rcases lam with ⟨z, _⟩ | ⟨PT, eT, hD⟩
    · rw [hl] at z; cases z
    · obtain ⟨c, fc, cs, e1, e2, e3, e4⟩ := hD.ex
      have e1' : cdv = .ref c := e1
      have n6 := n5 PT (by rw [eT]; exact List.mem_cons_self)
      have f1 : LamFr (gL (rL K ca fs fa q cells (L.kx m) pst) pg pc ce tabs) (L.kx m) (cxOf (L2.CX P w) P w K mg base L.N qual L.scope fL cdv A up s H E) c PT := rL_fr (by exact e1') (by exact e2) (by exact hq) (by exact hcells) rfl eT n6
      have f2 : CauD (gL (rL K ca fs fa q cells (L.kx m) pst) pg pc ce tabs) m.P.G K mg fc cs := e3 _ rfl
      exact ⟨c, PT, fc, cs, f1, f2, e4⟩
  let t2 : TS := fun Dn σ H => ∃ pst pg pc ce, (pg ≠ pst ∧ pc ≠ pst ∧ pc ≠ pg ∧ ce.length ≤ 63 ∧ ∀ T ∈ tabs, T ≠ pst ∧ T ≠ pg ∧ T ≠ pc) ∧ sD (gL (rL K ca fs fa q cells (L.kx m) pst) pg pc ce tabs) (noLm _) (fun cls d _ H' => E cls d H') (exl (ccL m kk) L.tm) Dn σ H
  have h2 : PSs Z L.rest t2 := ⟨fun pins s σ H Dn I ⟨pst, pg, pc, ce, ⟨n1, n2, n3, n4, n5⟩, h⟩ => (hrest pst pg pc ce n1 n2 n3 n4 n5).run pins s σ H Dn I h⟩
  refine ⟨_, pss_cons h1 h2, ?_⟩
  have hN2 : 2 ≤ L.N.length := by
    have := (List.getElem?_eq_some_iff.mp ok.n1).1
    omega
  have e0 : (L2.start L.N [V.ref a])[0]? = some (some (.ref a)) := rfl
  refine ⟨.ref a, e0, a, ns, rfl, h63, hS, fun pst pg pc gr ce H' sa npg n4 kp => ?_⟩
  have F0h : ∀ o, H a = some o → H' a = some o := fun o e => kp a o e
  -- the tables stand apart from the state
  have hT' : ∀ T ∈ tabs, H' T = some (.tbl #[]) := fun T hm => kp T _ (hT T hm)
  have n1 : pg ≠ pst := fun z => by have := sa.g; rw [z, sa.d] at this; cases this
  have n2 : pc ≠ pst := fun z => by have := sa.c; rw [z, sa.d] at this; cases this
  have n5 : ∀ T ∈ tabs, T ≠ pst ∧ T ≠ pg ∧ T ≠ pc := fun T hm => by
    have h := hT' T hm
    refine ⟨fun z => ?_, fun z => ?_, fun z => ?_⟩
    · rw [z, sa.d] at h; cases h
    · rw [z, sa.g] at h; cases h
    · rw [z, sa.c] at h; cases h
  refine ⟨pst, pg, pc, ce, ⟨n1, n2, npg, n4, n5⟩, ?_⟩
  let F0 : Hp := fun b => if b = a then H a else none
  have F0e : ∀ b o, F0 b = some o → b = a ∧ H a = some o := fun b o e => by
    by_cases z : b = a
    · exact ⟨z, by simpa [F0, z] using e⟩
    · simp [F0, z] at e
  have sb0 : Sub F0 H' := fun b o e => by
    obtain ⟨rfl, e⟩ := F0e b o e
    exact kp _ _ e
  have hSF : SqL K F0 a (ns.map V.int) := by
    have e : F0 a = H a := by simp [F0]
    rcases hS with (h | ⟨o, h⟩) | h
    · exact .inl (.inl (e.trans h))
    · exact .inl (.inr ⟨o, e.trans h⟩)
    · exact .inr h
  have gi : (gL (rL K ca fs fa q cells (L.kx m) pst) pg pc ce tabs).GI (wmax ^ (kk + 1)) H' := ⟨⟨gr, 0, 0, sa, Int.le_refl _, by have := wmax_tmax hkk; omega⟩, fun T hm => TabS.nil (hT' T hm)⟩
  have nsp : ∀ b o, F0 b = some o → ¬ (gL (rL K ca fs fa q cells (L.kx m) pst) pg pc ce tabs).sp b := fun b o e hs => by
    obtain ⟨rfl, e⟩ := F0e b o e
    have e' := kp _ _ e
    obtain ⟨ob, u, rfl⟩ := hfz o e
    rcases hs with z | z | z | z
    · rw [show b = pst from z, sa.d] at e'; cases e'
    · rw [z, sa.g] at e'; cases e'
    · rw [z, sa.c] at e'; cases e'
    · rw [hT' _ z] at e'; cases e'
  have st0 : Step (gL (rL K ca fs fa q cells (L.kx m) pst) pg pc ce tabs) F0 H' (wmax ^ (kk + 1)) F0 H' := .refl gi sb0 nsp
  have hσ : (L2.start L.N [V.ref a]).set 1 (some (.ref pst)) = L2.start L.N [V.ref a, V.ref pst] := by
    unfold L2.start
    obtain ⟨q, hq⟩ : ∃ q, L.N.length = q + 2 := ⟨L.N.length - 2, by omega⟩
    rw [hq]
    show (some (V.ref a) :: List.replicate (q + 1) none).set 1 (some (.ref pst)) = [some (V.ref a), some (V.ref pst)] ++ List.replicate q none
    rw [List.replicate_succ]; rfl
  have reps : Reps (gL (rL K ca fs fa q cells (L.kx m) pst) pg pc ce tabs).r F0 [.scr ns.length, .st] [.ref a, .ref pst] :=
    .cons (by unfold Rep; exact ⟨a, ns, rfl, hSF, rfl, h63⟩) (.cons (by unfold Rep; rfl) .nil)
  have en : EnvOk (gL (rL K ca fs fa q cells (L.kx m) pst) pg pc ce tabs) (noLm _) H' F0 H' ((L2.start L.N [V.ref a]).set 1 (some (.ref pst))) (entry L.N.length [.scr ns.length, .st]) := by
    rw [hσ]; exact env_entry reps (by simpa using hN2)
  refine ⟨_, F0, H', F0, _, st0, en, ?_⟩
  have c1 : 1 ≤ wmax ^ kk := Nat.pos_of_ne_zero (by intro h; have := Nat.pow_eq_zero.mp h; exact absurd this.1 (by decide))
  have fw : T.few (exl (ccL m kk) L.tm (entry L.N.length [.scr ns.length, .st])) (wmax ^ (kk + 1)) := by
    refine T.few_mono (few_exl (K := ccL m kk) (c := wmax ^ kk) (fun f ds => few_run m.P ok.wd kk f ds) (fun e δ => ?_) c1 L.tm _) ?_
    · exact few_lam (K := ⟨m.P.G, m.P.run kk, fun _ _ => .bad, m.P.fld, m.P.con⟩) (fun f ds => few_run m.P ok.wd kk f ds) e δ
    · rw [Nat.pow_succ, Nat.mul_comm]
      exact Nat.mul_le_mul_left _ ok.w
  refine T.wp_mono (fun k fl hfl => ?_) (fun _ _ _ z => z.elim) (T.wp_of (plain ns.length h63) fw)
  subst hfl
  intro v F' H'' s' rv
  rw [rv.blI]
  exact hQ H''
end
end Dp
end

section
set_option Elab.async false
set_option linter.all false
set_option autoImplicit false
set_option maxRecDepth 100000
set_option maxHeartbeats 4000000
/-! DpI: the end: the law is called. -/
namespace Dp
open PySem PySem.Spec PyProof.Rows L2 LamX
section
variable {P : Program} {w : World} {K : PySem.W.Frag} {mg mb : Str → Option Value} {k : Nat} {fa a : Addr} {cs : List (Addr × Addr)} {fd : FuncData} {s₁ : Shared} {vs : List Value} {ns : List Int}
/-- a law's def, called with the script: what it asks is met -/
theorem law_end (kin : K.In s₁.heap) (nsG : s₁.heap.Ns mainGlobals mg) (nsB : s₁.heap.Ns builtinsNs mb) (hbb : ∀ x : Str, x ≠ "__name__" → mb x = bootBuiltins x) (nl : s₁.heap.NoLimit) (hg : s₁.gens = #[])
    (tb0 : ∀ p ∈ cs, s₁.heap.get? p.2 = some { cls := .none, data := .fields #[] }) (tbK : ∀ p ∈ cs, K.lookup p.2 = none) (hd : ∀ p ∈ cs, PySem.W.CodeHd s₁.heap p.1 p.2)
    (hbm : ∃ (bm : Addr) (ob : Obj), mg "__builtins__" = some (.ref bm) ∧ bm ≠ builtinsNs ∧ s₁.heap.get? bm = some ob ∧ ob.cls = .type "module" ∧ ob.dict = some builtinsNs ∧ ob.data = .plain)
    (scr : s₁.heap.get? a = some { cls := .type "list", data := .seq vs.toArray }) (isn : IntsAre vs ns) (h63 : ns.length ≤ 63) (room : Room k callerA)
    (F : ∀ base : Heap, K.In base → base.Ns mainGlobals mg → (∀ p ∈ cs, TabB base mg p.1 p.2) → FnG P w K mg base k fa fd ["script"] (spLaw K (cs.map (·.2)))) (bind : ∀ (s : Shared) (u : Value), BindsTo s fd ⟨[u], []⟩ [("script", u)]) :
    codeAny (model P w) callerA (.call (.ref fa) ⟨[.ref a], []⟩) (fun r s' => r = .ok (.ret (.bool true)) ∧ OldK s₁.heap s'.heap ∧ s'.os = s₁.os ∧ AllBare s'.gens) s₁ := by
  have rel := vals_ints isn
  have len := isn.length
  have line : ns.length ≤ sizeLine := by rw [sizeLine_eq]; omega
  have tabAt : ∀ b : Addr, b ∈ cs.map (·.2) → s₁.heap.get? b = some { cls := .none, data := .fields #[] } := fun b hb => by
    obtain ⟨p, hp, rfl⟩ := List.mem_map.mp hb
    exact tb0 p hp
  have apart : a ∉ cs.map (·.2) := fun z => by
    have q := tabAt a z
    rw [scr] at q
    exact absurd (congrArg Obj.data (Option.some.inj q)) (by intro z; cases z)
  have inT : ∀ p ∈ cs, p.2 ∈ cs.map (·.2) := fun p hp => List.mem_map.mpr ⟨p, hp, rfl⟩
  have walk : ∀ H : Hp, (∀ b ∈ cs.map (·.2), H b = some (.tbl #[])) → (∀ b, H b = none ∨ b ∈ cs.map (·.2) ∨ b = a ∧ ∃ o, H b = some (.frz o (.lst (ns.map V.int))) ∧ K.lookup a = none) → SqL K H a (ns.map V.int) → HOk P w H s₁.heap →
      codeAny (model P w) callerA (.call (.ref fa) ⟨[.ref a], []⟩) (fun r s' => r = .ok (.ret (.bool true)) ∧ OldK s₁.heap s'.heap ∧ s'.os = s₁.os ∧ AllBare s'.gens) s₁ := by
    intro H hT hO hS hok
    have tracked : ∀ b, H b ≠ none → b = a ∨ b ∈ cs.map (·.2) := fun b h => by
      rcases hO b with z | z | ⟨z, _⟩
      · exact absurd z h
      · exact .inr z
      · exact .inl z
    -- what is neither a sequence nor a table is not tracked
    have free : ∀ {b : Addr} {o : Obj}, s₁.heap.get? b = some o → (∀ l n, o.data ≠ .seq l n) → o.data ≠ .fields #[] → H b = none := fun {b o} e h1 h2 => by
      cases q : H b with
      | none => rfl
      | some u =>
        rcases tracked b (by rw [q]; simp) with rfl | z
        · rw [scr] at e; cases e; exact absurd rfl (h1 _ _)
        · rw [tabAt b z] at e; cases e; exact absurd rfl h2
    have dictFree : ∀ {b : Addr} {o : Obj} {es : Array DictEntry} {n : Nat}, s₁.heap.get? b = some o → o.data = .dict es n → H b = none := fun {b o es n} e d =>
      free e (fun l m z => by rw [d] at z; cases z) (fun z => by rw [d] at z; cases z)
    have under : ∀ {b : Addr} {o : Obj}, s₁.heap.get? b = some o → H b = none → (hidT s₁.heap H).get? b = some o := fun e n => hidT_get e n
    have nsU : ∀ {b : Addr} {f : Str → Option Value}, s₁.heap.Ns b f → (hidT s₁.heap H).Ns b f := fun {b f} ⟨o, es, n, e, d, r⟩ => ⟨o, es, n, under e (dictFree e d), d, r⟩
    have kinU : K.In (hidT s₁.heap H) := fun b o e => under (kin b o e) (by
      cases q : H b with
      | none => rfl
      | some u =>
        rcases hO b with z | z | ⟨z, ob, h1, h2⟩
        · rw [q] at z; cases z
        · obtain ⟨p, hp, rfl⟩ := List.mem_map.mp z
          rw [tbK p hp] at e; cases e
        · rw [z, h2] at e; cases e)
    have mo : L2.Mod K mg (hidT s₁.heap H) := ⟨kinU, nsU nsG, ⟨mb, nsU nsB, hbb⟩, let ⟨mc, h1, h2⟩ := nl; ⟨mc, nsU h1, h2⟩⟩
    have tabs : ∀ p ∈ cs, TabB (hidT s₁.heap H) mg p.1 p.2 := fun p hp => by
      have e0 := tb0 p hp
      refine ⟨?_, ?_, fun z => ?_⟩
      · obtain ⟨o, us, file, tf, fl, tg, inF, text, tt, e1, c1, d1, d2, r⟩ := hd p hp
        refine ⟨o, us, file, tf, fl, tg, inF, text, tt, under e1 (free e1 (fun l n z => by rw [d1] at z; cases z) fun z => ?_), c1, d1, d2, r⟩
        rw [d1] at z; cases z
        simp at d2
      · obtain ⟨bm, ob, b1, b2, b3, b4, b5, b6⟩ := hbm
        refine ⟨bm, ob, b1, b2, fun q => ?_, fun q => ?_, under b3 (free b3 (fun l n z => by rw [b6] at z; cases z) fun z => by rw [b6] at z; cases z), b4, b5, b6⟩
        · obtain ⟨o, es, n, e, d, _⟩ := nsG
          rw [q, e] at b3; cases b3
          rw [d] at b6; cases b6
        · rw [q, e0] at b3; cases b3
          cases b6
      · obtain ⟨o, es, n, e, d, _⟩ := nsG
        rw [z, e0] at e; cases e
        cases d
    have ent : Env0 P w K mg (hidT s₁.heap H) callerA [] s₁ H := ⟨rfl, mo, fun b o e => of_hidT e, Nat.le_of_eq (hidT_size _ _), trivial, fun b hb => absurd (show b ∈ ([] : List Addr) from hb) (by simp), hok, .of_eq hg⟩
    have sp : spLaw K (cs.map (·.2)) [.ref a] H (fun v _ => v = .bl true) (fun _ _ _ => False) := by
      refine ⟨a, ns, rfl, h63, hS, fun o e => ?_, fun T hm => hT T hm, fun _ => rfl⟩
      rcases hO a with z | z | ⟨_, ob, h1, _⟩
      · rw [e] at z; cases z
      · exact absurd z apart
      · rw [e] at h1; cases h1
        exact ⟨_, _, rfl⟩
    refine codeAny_mono ((F _ kinU (nsU nsG) tabs).go callerA [] s₁ H ⟨[.ref a], []⟩ [.ref a] [.ref a] _ _ room rfl ent (bind s₁ (.ref a)) (.cons rfl .nil) sp) fun r s' h => ?_
    cases r with
    | error e =>
      obtain ⟨_, _, _, _, _, _, _, _, _, _, _, _, z⟩ := h
      exact z.elim
    | ok fl =>
      cases fl with
      | next => exact False.elim h
      | brk => exact False.elim h
      | cont => exact False.elim h
      | ret u =>
        obtain ⟨v, H', os, bare, un, hok', r', q⟩ := h
        have q : v = .bl true := q
        subst q
        obtain rfl : u = Value.bool true := r'
        have same : ∀ b o, b ∉ cs.map (·.2) → s₁.heap.get? b = some o → s'.heap.get? b = some o := fun b o nb e => by
          rcases hO b with z | z | ⟨rfl, ob, z, _⟩
          · exact un.keep b o e z (fun z => by cases z) (by simp)
          · exact absurd z nb
          · obtain ⟨e1, _⟩ := hok b _ z
            obtain ⟨e2, _⟩ := hok' b _ (un.frzs b ob _ z)
            rw [e] at e1; cases e1
            exact e2
        have more : ∀ p ∈ cs, ∃ x : Array Value, s'.heap.get? p.2 = some { cls := .none, data := .fields x } := fun p hp => by
          obtain ⟨x, z⟩ := un.tbls p.2 #[] (hT p.2 (inT p hp))
          exact ⟨_, hok' p.2 _ z⟩
        refine ⟨rfl, ⟨fun b o e => ?_, fun b o e => ?_⟩, os, bare⟩
        · by_cases hb : b ∈ cs.map (·.2)
          · obtain ⟨p, hp, rfl⟩ := List.mem_map.mp hb
            obtain ⟨x, hx⟩ := more p hp
            rw [tb0 p hp] at e; cases e
            exact .inr (.inl ⟨((hd p hp).tab (tb0 p hp)).isCodeTable, rfl, #[], x, rfl, by rw [Array.empty_append]; exact hx⟩)
          · exact .inl (same b o hb e)
        · by_cases hb : b ∈ cs.map (·.2)
          · obtain ⟨p, hp, rfl⟩ := List.mem_map.mp hb
            obtain ⟨x, hx⟩ := more p hp
            exact ⟨_, hx⟩
          · exact ⟨o, same b o hb e⟩
  cases hk : K.lookup a with
  | some o =>
    have e := kin a o hk
    rw [scr] at e; cases e
    refine walk (fun b => if b ∈ cs.map (·.2) then some (.tbl #[]) else none) (fun b hb => if_pos hb) (fun b => ?_) (.inr ⟨_, vs.toArray, _, hk, rfl, rfl, rfl, by rw [List.size_toArray, len]; exact line, by simpa using rel⟩) (fun b u z => ?_)
    · by_cases hb : b ∈ cs.map (·.2)
      · exact .inr (.inl hb)
      · exact .inl (if_neg hb)
    · by_cases hb : b ∈ cs.map (·.2)
      · have z' := (if_pos hb).symm.trans z
        cases z'
        exact tabAt b hb
      · have z' := (if_neg hb).symm.trans z
        cases z'
  | none =>
    refine walk (fun b => if b = a then some (.frz { cls := .type "list", data := .seq vs.toArray } (.lst (ns.map V.int))) else if b ∈ cs.map (·.2) then some (.tbl #[]) else none) (fun b hb => (if_neg (show ¬ b = a from fun z => apart (z ▸ hb))).trans (if_pos hb)) (fun b => ?_) (.inl (.inr ⟨_, if_pos rfl⟩)) (fun b u z => ?_)
    · by_cases hb : b = a
      · exact .inr (.inr ⟨hb, _, if_pos hb, hk⟩)
      · by_cases hb2 : b ∈ cs.map (·.2)
        · exact .inr (.inl hb2)
        · exact .inl ((if_neg hb).trans (if_neg hb2))
    · by_cases hb : b = a
      · have z' := (if_pos hb).symm.trans z
        cases z'
        rw [hb]
        exact ⟨scr, by rw [List.length_map]; exact line, vs, _, rel, scr⟩
      · have z1 := (if_neg hb).symm.trans z
        by_cases hb2 : b ∈ cs.map (·.2)
        · have z' := (if_pos hb2).symm.trans z1
          cases z'
          exact tabAt b hb2
        · have z' := (if_neg hb2).symm.trans z1
          cases z'
end
/-- what is known of the law's def at the head's heap -/
def LawAtG (l : PySem.W.OpenLaw) (w : World) (K : PySem.W.Frag) (k : Nat) (mg : Str → Option Value) (fa : Addr) (h : Heap) : Prop :=
  ∃ (fd : FuncData) (cs : List (Addr × Addr)), (∀ p ∈ cs, h.get? p.2 = some { cls := .none, data := .fields #[] }) ∧ (∀ p ∈ cs, K.lookup p.2 = none) ∧ (∀ p ∈ cs, PySem.W.CodeHd h p.1 p.2) ∧ (∀ (s : Shared) (u : Value), BindsTo s fd ⟨[u], []⟩ [("script", u)]) ∧
    ∀ base : Heap, K.In base → base.Ns mainGlobals mg → (∀ p ∈ cs, TabB base mg p.1 p.2) → FnG l.prog w K mg base k fa fd ["script"] (spLaw K (cs.map (·.2)))
theorem law_walk {l : PySem.W.OpenLaw} {k : Nat} {q : Program} {loose : List Str} {XP : (Str → Option Value) → Heap → Prop} {YP : World → Heap → Prop} {d : DefRec} (hn : l.most = some 63) (hdf : d.params.defaults = []) (room : Room k callerA)
    (F : ∀ (w : World) (mg : Str → Option Value) (fa : Addr) (h : Heap), YP w h → h.Ns mainGlobals mg → mg d.name = some (.ref fa) → ∃ K : PySem.W.Frag, K.In h ∧ LawAtG l w K k mg fa h) :
    PySem.W.WalkO q loose XP YP l.row.toRowW d [] (fun f vs => PySem.call f vs) := by
  refine Att.attach_callB hn hdf fun w s₀ s₁ mg mb fa o pm cd doc a vs ns G Y ho hd hcd hmg hobj hints hlen hbits hg => ?_
  obtain ⟨K, KX, fd, cs, h1, h2, h3, h4, h5⟩ := F w mg fa _ Y G.T.g hmg
  exact law_end KX G.T.g G.T.b G.T.builtins G.T.nolimit hg h1 h2 h3 G.T.bmain hobj hints hlen room h5 h4
end Dp
end

section
set_option Elab.async false
set_option linter.all false
set_option autoImplicit false
set_option maxRecDepth 100000
set_option maxHeartbeats 4000000
/-! DpJ: the head's facts, to what the law asks. -/
namespace Dp
open PySem PySem.Spec PyProof.Rows L2 LamX He
def tyL (n : Nat) : List Ty := [.none, .int, .bool, .str, .tuple, .list, .dict, .valueError] ++ ((List.range n).map Ty.cls ++ (List.range n).map Ty.exc)
def vK (ca : Nat → Addr) : Ty → Value
  | .none => .type "NoneType"
  | .int => .type "int"
  | .bool => .type "bool"
  | .str => .type "str"
  | .tuple => .type "tuple"
  | .list => .type "list"
  | .dict => .type "dict"
  | .cls c => .ref (ca c)
  | .exc c => .ref (ca c)
  | .valueError => .type "ValueError"
theorem tyL_kd {G : Dp.Cls} {t : Ty} (h : kdIn G t = true) : t ∈ tyL G.n := by
  cases t with
  | cls c => simp [kdIn] at h; simp [tyL, h.1]
  | exc c => simp [kdIn] at h; simp [tyL, h.1]
  | _ => simp [tyL]
theorem tyL_ty {G : Dp.Cls} {t : Ty} (h : tyIn G t = true) : t ∈ tyL G.n := by
  cases t with
  | cls c => simp [tyIn] at h; simp [tyL, h]
  | exc c => simp [tyIn] at h
  | _ => simp [tyL]
def kitB (G : Dp.Cls) (ca : Nat → Addr) (K : PySem.W.Frag) : Bool := (tyL G.n).all fun k => (tyL G.n).all fun t => !(kdIn G k && tyIn G t) || decide (PySem.W.kitOne K (vK ca k) (vK ca t) = some (isTy G k t))
def insCB (K : PySem.W.Frag) (C : Addr) : Bool := PySem.W.plainGet K C Str.empty && PySem.W.hasDictIn K C && PySem.W.plainOver K C && eqO (PySem.W.findIn K (.ref C) "__setattr__") (some (some (.builtin "object.__setattr__"))) &&
  eqO (PySem.W.findIn K (.ref C) "__class__") (some (some (.builtin "object.__class__"))) && eqO (PySem.W.specialIn K (.builtin "object.__class__") "__get__") (some (some (.builtin "getset_descriptor.__get__"))) && decide (PySem.W.takesIn K (.builtin "object.__class__") = some true) && decide (PySem.W.mroIn K C (.type "object") = some true)
def excCB (K : PySem.W.Frag) (C : Addr) : Bool := eqO (PySem.W.findIn K (.ref C) "__getattribute__") (some (some (.builtin "BaseException.__getattribute__"))) && eqO (PySem.W.findIn K (.ref C) "__getattr__") (some none) && decide (PySem.W.subIn K (.ref C) (.type "BaseException") = some true) && PySem.W.hasDictIn K C &&
  eqO (PySem.W.findIn K (.ref C) "__class__") (some (some (.builtin "object.__class__"))) && eqO (PySem.W.specialIn K (.builtin "object.__class__") "__get__") (some (some (.builtin "getset_descriptor.__get__"))) && decide (PySem.W.takesIn K (.builtin "object.__class__") = some true) && decide (PySem.W.mroIn K C (.type "object") = some true)
theorem insCB_ok {K : PySem.W.Frag} {C : Addr} (h : insCB K C = true) : InsC K C := by
  unfold insCB at h
  simp only [Bool.and_eq_true, decide_eq_true_eq] at h
  obtain ⟨⟨⟨⟨⟨⟨⟨h1, h2⟩, h3⟩, h4⟩, h5⟩, h6⟩, h7⟩, h8⟩ := h
  exact ⟨⟨h1, h2, h3, eqO_ok h4⟩, eqO_ok h5, eqO_ok h6, h7, h8⟩
theorem excCB_ok {K : PySem.W.Frag} {C : Addr} (h : excCB K C = true) : ExcC K C := by
  unfold excCB at h
  simp only [Bool.and_eq_true, decide_eq_true_eq] at h
  obtain ⟨⟨⟨⟨⟨⟨⟨h1, h2⟩, h3⟩, h4⟩, h5⟩, h6⟩, h7⟩, h8⟩ := h
  exact ⟨eqO_ok h1, eqO_ok h2, h3, h4, eqO_ok h5, eqO_ok h6, h7, h8⟩
/-- the classes, looked at -/
def clsB (G : Dp.Cls) (ca : Nat → Addr) (K : PySem.W.Frag) : Bool := kitB G ca K && (List.range G.n).all fun c => if G.exn c = true then excCB K (ca c) else insCB K (ca c)
theorem clsB_ok {G : Dp.Cls} {g : Gd} (h : clsB G g.r.ca g.r.K = true) : KOk g G := by
  unfold clsB at h
  rw [Bool.and_eq_true] at h
  obtain ⟨h1, h2⟩ := h
  refine ⟨fun k t a b => ?_, fun c hc he => ?_, fun c hc he => ?_⟩
  · have := List.all_eq_true.mp (List.all_eq_true.mp h1 k (tyL_kd a)) t (tyL_ty b)
    rw [a, b] at this
    have e : PySem.W.kitOne g.r.K (vK g.r.ca k) (vK g.r.ca t) = some (isTy G k t) := by simpa using this
    have ek : ∀ t, vK g.r.ca t = tyVal g t := fun t => by cases t <;> rfl
    rw [ek, ek] at e; exact e
  · have := List.all_eq_true.mp h2 c (by simpa using hc)
    rw [he] at this
    exact insCB_ok this
  · have := List.all_eq_true.mp h2 c (by simpa using hc)
    rw [he] at this
    exact excCB_ok this
/-- the names of the defs (of a class: its name; of a method: the class and the method), classes, whole constants -/
structure Nm where
  dn : List (Str × Option Str)
  cn : List Str
  kn : List (Str × Int)
def faOf (K : PySem.W.Frag) (nm : Nm) (f : Nat) : Addr := fAd K (nm.dn.getD f (Str.empty, none))
def caOf (K : PySem.W.Frag) (nm : Nm) (c : Nat) : Addr := ga K (nm.cn.getD c Str.empty)
def gloL (l : List (Str × Option Str)) : List Fa := l.filterMap fun q => match q.2 with | none => some (Fa.glo q.1) | some _ => none
def faL (m : Mo) (nm : Nm) : List Fa := gloL nm.dn ++ (nm.cn.map Fa.glo ++ (nm.kn.map (fun q => Fa.int q.1 q.2) ++ ((bls.filter fun x => (m.gl.lookup x).isNone).map Fa.free ++ (m.rs.map (fun c => Fa.exc (nm.cn.getD c Str.empty)) ++ [.glo "_law_begun"]))))
def defOf (x : Str) (p : Arguments) (b : List Stmt) (sc : Scope) : DefD := ⟨(x, none), x, x, p, b, sc, [], []⟩
/-- where the code of the def is -/
def atOf (d : DefE) (q : Str × Option Str) : Str × Option Str := match d.ini with | some _ => (q.1, some "__init__") | none => q
def defAt (q : Str × Option Str) (p : Arguments) (b : List Stmt) (sc : Scope) : DefD := ⟨q, q.2.getD q.1, match q.2 with | some x => q.1 ++ ("." : Str) ++ x | none => q.1, p, b, sc, [], []⟩
def fnL (m : Mo) (nm : Nm) : List DefD := (m.tab.zip nm.dn).map fun q => defAt (atOf (q.1.getD m.dr) q.2) (q.1.getD m.dr).params (q.1.getD m.dr).body (q.1.getD m.dr).scope
def glB (m : Mo) (nm : Nm) : Bool := m.gl.all fun q => match q.2 with
  | .fn f => decide (nm.dn[f]? = some (q.1, none)) && decide (f < m.tab.length)
  | .cls c => decide (nm.cn[c]? = some q.1)
  | .con i => decide ((nm.kn[i]?).map (·.1) = some q.1)
  | .cau => decide (q.1 = ("_law_caught" : Str))
/-- the classes that are made: seen in the text -/
def iniB (m : Mo) (nm : Nm) : Bool := decide (m.dr.ini = none) && (m.tab.zip nm.dn).all fun q => match q.1 with
  | some d => (match d.ini with | some (c, l) => decide (m.fs c = l.map (·.1)) && decide (q.2 = (nm.cn.getD c Str.empty, none)) | none => true)
  | none => true
/-- the classes that are made: seen in the fragment -/
def mkIB (m : Mo) (nm : Nm) (K : PySem.W.Frag) : Bool := m.tab.all fun o => match o with
  | some d => (match d.ini with
    | some (c, _) => PySem.W.makesIn K (caOf K nm c) && eqO (PySem.W.findIn K (.ref (caOf K nm c)) "__init__") (some (some (.ref (fAd K (nm.cn.getD c Str.empty, some "__init__"))))) && PySem.W.isFn K (.ref (fAd K (nm.cn.getD c Str.empty, some "__init__"))) && PySem.W.keepIn K (.ref (caOf K nm c))
    | none => true)
  | none => true
def fsIB (m : Mo) (nm : Nm) (K : PySem.W.Frag) : Bool := m.fsl.all fun q => PySem.W.plainGet K (caOf K nm q.1) Str.empty && PySem.W.hasDictIn K (caOf K nm q.1) && PySem.W.plainOver K (caOf K nm q.1) && eqO (PySem.W.findIn K (.ref (caOf K nm q.1)) "__setattr__") (some (some (.builtin "object.__setattr__"))) &&
  decide (q.2.length ≤ 1000) && decide q.2.Nodup && q.2.all fun f => eqO (PySem.W.findIn K (.ref (caOf K nm q.1)) f) (some none)
/-- the == of the classes: seen in the text; in the fragment -/
def eqTB (m : Mo) : Bool := (List.range m.P.G.n).all fun c => match m.P.G.eq c with
  | some f => (match m.tab[f]? with | some (some d) => d.ini.isNone && decide (d.ps.length = 2) | _ => false)
  | none => true
def eqIB (m : Mo) (nm : Nm) (K : PySem.W.Frag) : Bool := (List.range m.P.G.n).all fun c => match m.P.G.eq c with
  | some f => eqO (PySem.W.findIn K (.ref (caOf K nm c)) "__eq__") (some (some (.ref (faOf K nm f)))) && PySem.W.isFn K (.ref (faOf K nm f)) && eqO (PySem.W.findIn K (.ref (caOf K nm c)) "__ne__") (some (some (.builtin "object.__ne__"))) &&
    decide (PySem.W.mroIn K (caOf K nm c) (.type "object") = some true) && (tyL m.P.G.n).all fun k => !kdIn m.P.G k || PySem.W.notFirst K (caOf K nm c) (vK (caOf K nm) k)
  | none => true
/-- a text and its names -/
structure MoOk (m : Mo) (nm : Nm) : Prop where
  gl : glB m nm = true
  con : ∀ i x z, nm.kn[i]? = some (x, z) → m.P.con i = .int z
  len : m.tab.length = nm.dn.length
  df : ∀ f d, m.tab[f]? = some (some d) → d.Ok m ∧ m.P.fns f = d.fn
  ini : iniB m nm = true
  fld : ∃ e, m.P.fld = fldN m.fsl e
  eqt : eqTB m = true
theorem mem_lookupN {α : Type} {c : Nat} {x : α} : ∀ {l : List (Nat × α)}, l.lookup c = some x → (c, x) ∈ l
  | [], h => by cases h
  | (k, y) :: l, h => by
    rw [List.lookup_cons] at h
    cases e : c == k with
    | true =>
      rw [e] at h
      have := eq_of_beq e
      cases h; subst this; simp
    | false =>
      rw [e] at h
      exact List.mem_cons_of_mem _ (mem_lookupN h)
theorem getD_of {α : Type} {l : List α} {i : Nat} {x d : α} (h : l[i]? = some x) : l.getD i d = x := by rw [List.getD_eq_getElem?_getD, h]; rfl
section
variable {m : Mo} {nm : Nm} {K : PySem.W.Frag} {h : Heap} {mg : Str → Option Value} {fa : List Fa} {fn : List DefD}
theorem fn_at0 (mo : MoOk m nm) (sd : SaysD fa fn K) (hfn : ∀ d ∈ fnL m nm, d ∈ fn) {f : Nat} {o : Option DefE} (e : m.tab[f]? = some o) : ∃ q, nm.dn[f]? = some q ∧ (o, q) ∈ m.tab.zip nm.dn ∧ ∃ (name qual : Str) (fd : FuncData), FunD K name qual (o.getD m.dr).params (o.getD m.dr).body (o.getD m.dr).scope [] [] (fAd K (atOf (o.getD m.dr) q)) fd := by
  have hf : f < nm.dn.length := by rw [← mo.len]; exact (List.getElem?_eq_some_iff.mp e).1
  have ex : nm.dn[f]? = some nm.dn[f] := List.getElem?_eq_getElem hf
  have mem : (o, nm.dn[f]) ∈ m.tab.zip nm.dn := by
    refine List.mem_of_getElem? (i := f) ?_
    rw [List.getElem?_zip_eq_some]
    exact ⟨e, ex⟩
  obtain ⟨fd, F⟩ := sd.defs (hfn _ (List.mem_map.mpr ⟨_, mem, rfl⟩))
  exact ⟨_, ex, mem, _, _, fd, F⟩
theorem fn_at (mo : MoOk m nm) (sd : SaysD fa fn K) (hfn : ∀ d ∈ fnL m nm, d ∈ fn) {f : Nat} {o : Option DefE} (e : m.tab[f]? = some o) (hi : (o.getD m.dr).ini = none) : ∃ (name qual : Str) (fd : FuncData), FunD K name qual (o.getD m.dr).params (o.getD m.dr).body (o.getD m.dr).scope [] [] (faOf K nm f) fd := by
  obtain ⟨q, ex, _, name, qual, fd, F⟩ := fn_at0 mo sd hfn e
  have ea : faOf K nm f = fAd K (atOf (o.getD m.dr) q) := by
    unfold faOf atOf
    rw [getD_of ex, hi]
  rw [ea]
  exact ⟨_, _, fd, F⟩
theorem mkI_ok (mo : MoOk m nm) (sd : SaysD fa fn K) (hfn : ∀ d ∈ fnL m nm, d ∈ fn) (hI : mkIB m nm K = true) {f c : Nat} {d : DefE} {l : List (Str × Nat)} (e : m.tab[f]? = some (some d)) (hi : d.ini = some (c, l)) :
    m.fs c = l.map (·.1) ∧ faOf K nm f = caOf K nm c ∧ ∃ (name qual : Str) (fd : FuncData) (fI : Addr), FunD K name qual d.params d.body d.scope [] [] fI fd ∧ Mk K (caOf K nm c) fI := by
  obtain ⟨q, ex, mem, name, qual, fd, F⟩ := fn_at0 mo sd hfn e
  have h1 := mo.ini
  unfold iniB at h1
  rw [Bool.and_eq_true] at h1
  have h1 := List.all_eq_true.mp h1.2 _ mem
  dsimp only at h1
  rw [hi] at h1
  dsimp only at h1
  rw [Bool.and_eq_true, decide_eq_true_eq, decide_eq_true_eq] at h1
  have h2 := List.all_eq_true.mp hI _ (List.mem_of_getElem? e)
  dsimp only at h2
  rw [hi] at h2
  dsimp only at h2
  simp only [Bool.and_eq_true] at h2
  obtain ⟨⟨⟨k1, k2⟩, k3⟩, k4⟩ := h2
  obtain ⟨e1, e2⟩ := h1
  subst e2
  refine ⟨e1, by unfold faOf; rw [getD_of ex]; rfl, name, qual, fd, fAd K (nm.cn.getD c Str.empty, some "__init__"), ?_, k1, eqO_ok k2, k3, k4⟩
  have : atOf d (nm.cn.getD c Str.empty, none) = (nm.cn.getD c Str.empty, some ("__init__" : Str)) := by unfold atOf; rw [hi]
  have F : FunD K name qual d.params d.body d.scope [] [] (fAd K (atOf d (nm.cn.getD c Str.empty, none))) fd := F
  rw [this] at F
  exact F
theorem fsI_ok (hI : fsIB m nm K = true) {c : Nat} (h : m.fs c ≠ []) : (m.fs c).length ≤ 1000 ∧ (m.fs c).Nodup ∧ L2.Cls K (caOf K nm c) ∧ ∀ x ∈ m.fs c, NoAttr K (caOf K nm c) x := by
  unfold Mo.fs at h ⊢
  cases q : m.fsl.lookup c with
  | none => rw [q] at h; exact absurd rfl h
  | some l =>
    have hm := mem_lookupN q
    have h2 := List.all_eq_true.mp hI _ hm
    simp only [Bool.and_eq_true, decide_eq_true_eq] at h2
    obtain ⟨⟨⟨⟨⟨⟨k1, k2⟩, k3⟩, k4⟩, k5⟩, k6⟩, k7⟩ := h2
    exact ⟨k5, k6, ⟨k1, k2, k3, eqO_ok k4⟩, fun x hx => eqO_ok (List.all_eq_true.mp k7 x hx)⟩
theorem fx_of (mo : MoOk m nm) (KX : K.In h) (G : h.Ns mainGlobals mg) (sd : SaysD fa fn K) (hfa : ∀ f ∈ faL m nm, f ∈ fa) (hfn : ∀ d ∈ fnL m nm, d ∈ fn) (hcls : clsB m.P.G (caOf K nm) K = true) (hI : mkIB m nm K = true) (hJ : fsIB m nm K = true) (hQ : eqIB m nm K = true) :
    ∀ g : Gd, g.r.K = K → g.r.ca = caOf K nm → g.r.fs = m.fs → g.r.fa = faOf K nm → g.Ok → StG g → Fx m g mg := by
  intro g e1 e2 e4 e3 ok st
  have hfact : ∀ {f : Fa}, f ∈ faL m nm → f.ok K = true := fun hf => sd.facts (hfa _ hf)
  refine ⟨ok, clsB_ok (by rw [e1, e2]; exact hcls), fun x v hx => ?_, fun x hx hn => ?_, fun c hc => ?_, fun f d hd => ?_, fun x f hx hn => ?_, st, fun c x h => ?_, fun c f hc hf => ?_⟩
  · have hm := PySem.mem_of_lookup hx
    have hg := List.all_eq_true.mp mo.gl _ hm
    cases v with
    | fn f =>
      simp only [Bool.and_eq_true, decide_eq_true_eq] at hg
      show mg x = some (.ref (g.r.fa f))
      rw [e3]
      unfold faOf
      rw [getD_of hg.1]
      exact glo_ok KX G (hfact (List.mem_append_left _ (List.mem_filterMap.mpr ⟨(x, none), List.mem_of_getElem? hg.1, rfl⟩)))
    | cls c =>
      have hg := of_decide_eq_true hg
      show mg x = some (.ref (g.r.ca c))
      rw [e2]
      unfold caOf
      rw [getD_of hg]
      exact glo_ok KX G (hfact (List.mem_append_right _ (List.mem_append_left _ (List.mem_map.mpr ⟨x, List.mem_of_getElem? hg, rfl⟩))))
    | con i =>
      have hg := of_decide_eq_true hg
      cases q : nm.kn[i]? with
      | none => rw [q] at hg; cases hg
      | some p =>
        obtain ⟨y, z⟩ := p
        rw [q] at hg
        have hy : y = x := Option.some.inj hg
        subst hy
        obtain ⟨t, ht⟩ := int_ok KX G (hfact (f := .int y z) (List.mem_append_right _ (List.mem_append_right _ (List.mem_append_left _ (List.mem_map.mpr ⟨(y, z), List.mem_of_getElem? q, rfl⟩)))))
        exact ⟨.int z, _, ht, ⟨_, rfl⟩, fun F => by rw [mo.con i y z q]; exact Rep.int z⟩
    | cau => trivial
  · refine free_ok KX G (hfact (List.mem_append_right _ (List.mem_append_right _ (List.mem_append_right _ (List.mem_append_left _ (List.mem_map.mpr ⟨x, ?_, rfl⟩))))))
    exact List.mem_filter.mpr ⟨hx, by rw [hn]; rfl⟩
  · have := hfact (f := .exc (nm.cn.getD c Str.empty)) (List.mem_append_right _ (List.mem_append_right _ (List.mem_append_right _ (List.mem_append_right _ (List.mem_append_left _ (List.mem_map.mpr ⟨c, hc, rfl⟩))))))
    obtain ⟨q1, q2, q3, q4⟩ := exc_ok this
    rw [e1, e2]
    exact ⟨⟨_, _, _, _, PySem.F.excBase_ValueError, q1⟩, q2, q3, q4⟩
  · obtain ⟨d1, d2⟩ := mo.df f d hd
    refine ⟨d1, d2, ?_⟩
    unfold FnK
    cases hi : d.ini with
    | none =>
      obtain ⟨name, qual, fd, F⟩ := fn_at mo sd hfn hd hi
      rw [e1, e3]
      exact ⟨name, qual, fd, F⟩
    | some z =>
      obtain ⟨c, l⟩ := z
      obtain ⟨a1, a2, a3⟩ := mkI_ok mo sd hfn hI hd hi
      rw [e1, e2, e3, e4]
      dsimp only
      by_cases hl : m.fs c = []
      · have : l = [] := by
          rw [hl] at a1
          cases l with
          | nil => rfl
          | cons _ _ => cases a1
        subst this
        have hz := d1.iok
        unfold DefE.mkB at hz
        rw [hi] at hz
        simp at hz
      · obtain ⟨_, _, b3, b4⟩ := fsI_ok hJ hl
        refine ⟨a2, b3, fun q hq => b4 _ (by rw [a1]; exact List.mem_map.mpr ⟨q, hq, rfl⟩), a1, a3⟩
  · have hm := PySem.mem_of_lookup hx
    have hg := List.all_eq_true.mp mo.gl _ hm
    simp only [Bool.and_eq_true, decide_eq_true_eq] at hg
    have := List.getElem?_eq_none_iff.mp hn
    omega
  · rw [e4] at h ⊢
    rw [e1, e2]
    have hne : m.fs c ≠ [] := fun z => by rw [z] at h; exact absurd h (Nat.not_lt_zero _)
    obtain ⟨b1, b2, b3, b4⟩ := fsI_ok hJ hne
    obtain ⟨e, he⟩ := mo.fld
    have h1 : (m.fs c)[m.P.fld c x]? = some x := by rw [he] at h ⊢; exact fldN_ok b1 h
    exact ⟨h1, b2, b3, b4 x (List.mem_of_getElem? h1)⟩
  · have h1 := List.all_eq_true.mp mo.eqt c (by simpa using hc)
    have h2 := List.all_eq_true.mp hQ c (by simpa using hc)
    try dsimp only at h1 h2
    rw [hf] at h1 h2
    dsimp only at h1 h2
    simp only [Bool.and_eq_true, decide_eq_true_eq] at h2
    obtain ⟨⟨⟨⟨k1, k2⟩, k3⟩, k4⟩, k5⟩ := h2
    rw [e1, e2, e3]
    refine ⟨?_, eqO_ok k1, k2, eqO_ok k3, k4, fun t ht => ?_⟩
    · split at h1
      · rename_i d hd
        rw [Bool.and_eq_true, decide_eq_true_eq, Option.isNone_iff_eq_none] at h1
        exact ⟨d, hd, h1.1, h1.2⟩
      · cases h1
    · have := List.all_eq_true.mp k5 t (tyL_kd ht)
      rw [ht] at this
      have ek : vK (caOf K nm) t = tyVal g t := by cases t <;> first | rfl | (show Value.ref _ = Value.ref _; rw [e2])
      rw [ek] at this
      simpa using this
end
end Dp
end

section
set_option Elab.async false
set_option linter.all false
set_option autoImplicit false
set_option maxRecDepth 100000
set_option maxHeartbeats 4000000
/-! DpK: a law, by its tables. -/
namespace Dp
open PySem PySem.Spec PyProof.Rows L2 LamX He
/-- what is looked at in the fragment -/
def exB (m : Mo) (nm : Nm) (K : PySem.W.Frag) : Bool := (clsB m.P.G (caOf K nm) K && (mkIB m nm K && (fsIB m nm K && eqIB m nm K))) && (List.range m.P.G.n).all fun c => !m.P.G.exn c || decide (PySem.W.exmOne K (.ref (caOf K nm c)) (.ref (ga K "SwapError")) = some true)
/-- the three defs of a law that are not terms: the one that makes the state, the one that catches, the law's -/
structure Tri where
  pb : Arguments
  bb : List Stmt
  sb : Scope
  s1 : Scope
  s2 : Scope
  pc : Arguments
  bc : List Stmt
  sc : Scope
  bl : List Stmt
def fnAll (m : Mo) (nm : Nm) (L : LawE) (t : Tri) : List DefD := fnL m nm ++ ([defOf "_law_begun" t.pb t.bb t.sb] ++ ((if L.lm = true then [defOf "_law_caught" t.pc t.bc t.sc] else []) ++ [defOf "law" L.params t.bl L.scope]))
def faAll (m : Mo) (nm : Nm) (L : LawE) : List Fa := faL m nm ++ ((if L.lm = true then [Fa.glo "_law_caught", Fa.glo "SwapError"] else []) ++ [Fa.glo "law", Fa.free "abs"])
def tfOf (L : LawE) : List Defn := if L.lm = true then [("law", none)] else []
def plainP (p : Arguments) (x : Str) : Bool := p.posonlyargs.isEmpty && decide (p.args.map (·.arg) = [x]) && p.vararg.isNone && p.kwonlyargs.isEmpty && p.kwarg.isNone
theorem plainP_ok {p : Arguments} {x : Str} (h : plainP p x = true) : p.posonlyargs = [] ∧ p.args.map (·.arg) = [x] ∧ p.vararg = none ∧ p.kwonlyargs = [] ∧ p.kwarg = none := by
  unfold plainP at h
  simp only [Bool.and_eq_true, List.isEmpty_iff, Option.isNone_iff_eq_none, decide_eq_true_eq] at h
  obtain ⟨⟨⟨⟨h1, h2⟩, h3⟩, h4⟩, h5⟩ := h
  exact ⟨h1, h2, h3, h4, h5⟩
/-- what is seen of the three by looking -/
structure TriOk (m : Mo) (L : LawE) (t : Tri) : Prop where
  b1 : plainP t.pb "script" = true
  b2 : BegBody t.bb t.s1 t.s2
  b3 : begB t.sb t.s1 t.s2 = true
  l1 : plainP L.params "script" = true
  l2 : ∃ p1 p2 p3 p4 p5 : Pos, t.bl = .Assign [.Name "state" p1] (.Call (.Name "_law_begun" p2) [.Name "script" p3] [] p4) p5 :: L.rest
  c : L.lm = true → plainP t.pc "work" = true ∧ CauBody t.bc ∧ C8.scC cauN ["work"] t.sc = true ∧ t.sc.names.lookup ("work" : Str) = some .local ∧ t.sc.names.lookup ("caught" : Str) = some .local ∧ t.sc.names.lookup ("error" : Str) = some .local ∧ t.sc.names.lookup ("SwapError" : Str) = some .globalImplicit
section
variable {m : Mo} {nm : Nm} {L : LawE} {t : Tri} {K : PySem.W.Frag} {h : Heap} {mg : Str → Option Value} {l : PySem.W.OpenLaw} {w : World} {kk : Nat} {fa : Addr}
theorem law_at (mo : MoOk m nm) (lo : L.Ok m) (dr : DrOk m) (tr : TriOk m L t) (hkk : kk + 1 ≤ 60) (plain : ∀ n, n ≤ 63 → T.ok (exl (ccL m kk) L.tm (entry L.N.length [.scr n, .st])) (fun fl => fl = .ret (.bl true)) (fun _ _ => False))
    (KX : K.In h) (G : h.Ns mainGlobals mg) (hfa : mg ("law" : Str) = some (.ref fa)) (sx : SaysX (faAll m nm L) (fnAll m nm L t) [] (tfOf L) (exB m nm) w h K) : LawAtG l w K (kk + 3) mg fa h := by
  have sd := sx.t.d
  have hf : ∀ {f : Fa}, f ∈ faAll m nm L → f.ok K = true := fun z => sd.facts z
  have e0 := hfa.symm.trans (glo_ok KX G (hf (f := .glo "law") (List.mem_append_right _ (List.mem_append_right _ (by simp)))))
  cases e0
  have hex := sx.more
  unfold exB at hex
  rw [Bool.and_eq_true, Bool.and_eq_true, Bool.and_eq_true, Bool.and_eq_true] at hex
  have fx := fx_of mo KX G sd (fun f z => List.mem_append_left _ z) (fun d z => List.mem_append_left _ z) hex.1.1 hex.1.2.1 hex.1.2.2.1 hex.1.2.2.2
  obtain ⟨fdB, FB⟩ := sd.defs (d := defOf "_law_begun" t.pb t.bb t.sb) (List.mem_append_right _ (List.mem_append_left _ (by simp)))
  obtain ⟨fdL, FL⟩ := sd.defs (d := defOf "law" L.params t.bl L.scope) (List.mem_append_right _ (List.mem_append_right _ (List.mem_append_right _ (by simp))))
  obtain ⟨p1, p2, p3, p4, p5, ebl⟩ := tr.l2
  obtain ⟨x1, x2, x3, x4, x5⟩ := plainP_ok tr.l1
  obtain ⟨y1, y2, y3, y4, y5⟩ := plainP_ok tr.b1
  have hab := free_ok KX G (hf (f := .free "abs") (List.mem_append_right _ (List.mem_append_right _ (by simp))))
  have hbg := glo_ok KX G (hf (f := .glo "_law_begun") (List.mem_append_left _ (by unfold faL; simp)))
  have SL := C8.fnScope_by lo.sc
  refine ⟨fdL, (tfOf L).map (He.cT K), fun p hp => ?_, fun p hp => ?_, fun p hp => ?_, fun s u => ?_, fun base hK hG hT => ?_⟩
  · obtain ⟨d, hd, rfl⟩ := List.mem_map.mp hp
    exact sx.empty d hd
  · obtain ⟨d, hd, rfl⟩ := List.mem_map.mp hp
    exact sx.out d hd
  · obtain ⟨d, hd, rfl⟩ := List.mem_map.mp hp
    exact PySem.W.codeHd_of_K KX (sx.hd d hd)
  · obtain ⟨oc, od, dV, kV, doc, pm, an, cdv, ct, osl, rfl, lk, hcd, dfl, kwd⟩ := FL.ex
    have edV : dV = .none := by
      rcases dfl with ⟨_, e⟩ | ⟨e, _⟩
      · exact e
      · exact absurd rfl e
    subst edV
    exact .of_eq (pl_bind (us := [u]) x1 x2 x3 x4 x5 (by decide) rfl)
  · have FL' : FunD K "law" "law" L.params (.Assign [.Name "state" p1] (.Call (.Name "_law_begun" p2) [.Name "script" p3] [] p4) p5 :: L.rest) L.scope [] [] (ga K "law") fdL := by
      rw [← ebl]; exact FL
    have FB' : FunD K "_law_begun" "_law_begun" t.pb t.bb t.sb [] [] (ga K "_law_begun") fdB := FB
    refine law_fnG (ca := caOf K nm) (fs := m.fs) (fa := faOf K nm) (fb := ga K "_law_begun") (fdB := fdB) lo dr (fun g e1 e2 e3 e4 ok st => fx g e1 e2 e3 e4 ok st) (fun f hfn => fn_at mo sd (fun d z => List.mem_append_left _ z) hfn (by have := mo.ini; unfold iniB at this; rw [Bool.and_eq_true] at this; exact of_decide_eq_true this.1)) FL' hbg ⟨_, _, _, _, _, FB', tr.b2, tr.b3, y1, y2, y3, y4, y5⟩ hab ?_ hkk plain
    cases hl : L.lm with
    | false => exact .inl ⟨rfl, by unfold tfOf; rw [hl]; rfl⟩
    | true =>
      have etf : tfOf L = [(("law" : Str), none)] := by unfold tfOf; rw [hl]; rfl
      refine .inr ⟨(He.cT K (("law" : Str), none)).2, by rw [etf]; rfl, ?_⟩
      obtain ⟨c1, c2, c3, c4, c5, c6, c7⟩ := tr.c hl
      obtain ⟨z1, z2, z3, z4, z5⟩ := plainP_ok c1
      obtain ⟨fdC, FC⟩ := sd.defs (d := defOf "_law_caught" t.pc t.bc t.sc) (List.mem_append_right _ (List.mem_append_right _ (List.mem_append_left _ (by rw [hl]; simp))))
      have hcau := glo_ok KX G (hf (f := .glo "_law_caught") (List.mem_append_right _ (List.mem_append_left _ (by rw [hl]; simp))))
      have hsw := glo_ok KX G (hf (f := .glo "SwapError") (List.mem_append_right _ (List.mem_append_left _ (by rw [hl]; simp))))
      obtain ⟨oc, od, dV, kV, doc, pm, an, cdv, ct, osl, efd, lk, hcd, dfl, kwd⟩ := FL.ex
      obtain ⟨c, ec⟩ := codeIn_ref hcd
      have ecode : fdL.code = .ref c := by rw [efd]; exact ec
      have hco : codeOf K (("law" : Str), none) = c := codeOf_eq lk ecode
      have hTB := hT (He.cT K (("law" : Str), none)) (by rw [etf]; simp)
      refine ⟨c, ga K "_law_caught", ga K "SwapError", ecode, ?_, fun g eg => ?_, fun x hx => ?_⟩
      · have : (He.cT K (("law" : Str), none)).1 = c := hco
        rw [← this]; exact hTB
      · refine ⟨⟨"_law_caught", "_law_caught", t.pc, t.bc, t.sc, fdC, FC, z1, z2, z3, z4, z5, c2, c3, c4, c5, c6, c7⟩, hsw, fun c hc he => ?_⟩
        have := List.all_eq_true.mp hex.2 c (by simpa using hc)
        rw [he] at this
        rw [eg]
        simpa using this
      · have hm := PySem.mem_of_lookup hx
        have hg := List.all_eq_true.mp mo.gl _ hm
        have hg : x = "_law_caught" := of_decide_eq_true hg
        rw [hg]; exact hcau
end
end Dp
end

section
set_option maxHeartbeats 4000000
set_option Elab.async false
set_option linter.all false
set_option autoImplicit false
set_option maxRecDepth 100000
/-! DpL: looking at a run by a Bool; loops by what stays. -/
namespace Dp
open PySem
def allN : Nat → (Nat → Bool) → Bool
  | 0, _ => true
  | n + 1, f => f n && allN n f
theorem allN_ok {f : Nat → Bool} : ∀ {n : Nat}, allN n f = true → ∀ r, r < n → f r = true
  | 0, _, r, h => by omega
  | n + 1, h, r, hr => by
    unfold allN at h
    rw [Bool.and_eq_true] at h
    by_cases e : r = n
    · rw [e]; exact h.1
    · exact allN_ok h.2 r (by omega)
namespace T
/-- a look at all draws -/
def chk {α : Type} (q : α → Bool) : T α → Bool
  | .ret a => q a
  | .exc _ _ => false
  | .bad => false
  | .draw n k => Nat.ble 1 n && (Nat.ble n 1000000000 && allN n fun r => chk q (k r))
  | .any _ => false
theorem chk_ok {α : Type} {q : α → Bool} : ∀ {t : T α}, chk q t = true → ok t (fun a => q a = true) (fun _ _ => False)
  | .ret a, h => h
  | .exc _ _, h => by cases h
  | .bad, h => by cases h
  | .any _, h => by cases h
  | .draw n k, h => by
    have h : (Nat.ble 1 n && (Nat.ble n 1000000000 && allN n fun r => chk q (k r))) = true := h
    rw [Bool.and_eq_true, Bool.and_eq_true] at h
    refine ⟨Nat.le_of_ble_eq_true h.1, Nat.lt_of_le_of_lt (Nat.le_of_ble_eq_true h.2.1) (by unfold most; decide +kernel), fun r hr => chk_ok (allN_ok h.2.2 r hr)⟩
end T
/-- what a loop's body has to do, and what is left behind the loop -/
def flNx (I : Env → Prop) (P : Fl → Prop) : Fl → Prop
  | .nx δ => I δ
  | .ct δ => I δ
  | .brk δ => P (.nx δ)
  | .ret d => P (.ret d)
theorem ok_forL {body : Env → T Fl} {t : Tg} {I : Env → Prop} {P : Fl → Prop} {E : Nat → List D → Prop} (h0 : ∀ δ, I δ → P (.nx δ)) : ∀ (ds : List D), (∀ d ∈ ds, ∀ δ, I δ → ∃ δ', asg t d δ = some δ' ∧ T.ok (body δ') (flNx I P) E) → ∀ δ, I δ → T.ok (forL body t ds δ) P E
  | [], _, δ, i => h0 δ i
  | d :: ds, h, δ, i => by
    obtain ⟨δ', e, k⟩ := h d List.mem_cons_self δ i
    unfold forL
    rw [e]
    refine T.ok_bind.mpr (T.ok_mono (fun f hf => ?_) (fun _ _ z => z) k)
    cases f with
    | nx δ2 => exact ok_forL h0 ds (fun d hd => h d (List.mem_cons_of_mem _ hd)) δ2 hf
    | ct δ2 => exact ok_forL h0 ds (fun d hd => h d (List.mem_cons_of_mem _ hd)) δ2 hf
    | brk δ2 => exact hf
    | ret d => exact hf
end Dp
namespace Dp
open PySem
mutual
/-- the same data, by a look (lambdas are never the same) -/
def D.same : D → D → Bool
  | .non, .non => true
  | .bl a, .bl b => a == b
  | .int a, .int b => decide (a = b)
  | .str a, .str b => decide (a = b)
  | .tup a, .tup b => D.sames a b
  | .lst a, .lst b => D.sames a b
  | .dct, .dct => true
  | _, _ => false
def D.sames : List D → List D → Bool
  | [], [] => true
  | a :: l, b :: m => D.same a b && D.sames l m
  | _, _ => false
end
mutual
theorem D.same_ok : ∀ {a b : D}, D.same a b = true → a = b
  | .non, b, h => by cases b <;> simp_all [D.same]
  | .bl x, b, h => by cases b <;> simp_all [D.same]
  | .int x, b, h => by cases b <;> simp_all [D.same]
  | .str x, b, h => by cases b <;> simp_all [D.same]
  | .tup x, b, h => by
    cases b with
    | tup y => exact congrArg D.tup (D.sames_ok (by simpa [D.same] using h))
    | _ => simp [D.same] at h
  | .lst x, b, h => by
    cases b with
    | lst y => exact congrArg D.lst (D.sames_ok (by simpa [D.same] using h))
    | _ => simp [D.same] at h
  | .dct, b, h => by cases b <;> simp_all [D.same]
  | .ins _ _, b, h => by cases b <;> simp [D.same] at h
  | .exc _ _, b, h => by cases b <;> simp [D.same] at h
  | .fn _, b, h => by cases b <;> simp [D.same] at h
  | .st, b, h => by cases b <;> simp [D.same] at h
  | .scr _, b, h => by cases b <;> simp [D.same] at h
  | .lm _, b, h => by cases b <;> simp [D.same] at h
theorem D.sames_ok : ∀ {a b : List D}, D.sames a b = true → a = b
  | [], b, h => by cases b <;> simp_all [D.sames]
  | x :: l, b, h => by
    cases b with
    | nil => simp [D.sames] at h
    | cons y m =>
      simp only [D.sames, Bool.and_eq_true] at h
      rw [D.same_ok h.1, D.sames_ok h.2]
end
def D.oneOf (l : List D) (d : D) : Bool := l.any fun x => D.same x d
theorem D.oneOf_ok {l : List D} {d : D} (h : D.oneOf l d = true) : d ∈ l := by
  unfold D.oneOf at h
  obtain ⟨x, hx, e⟩ := List.any_eq_true.mp h
  rw [← D.same_ok e]; exact hx
/-- how a block goes on -/
def flS (R : Env → Prop) (P : Fl → Prop) : Fl → Prop
  | .nx δ => R δ
  | .ret d => P (.ret d)
  | .brk δ => P (.brk δ)
  | .ct δ => P (.ct δ)
theorem ok_cons {K : C} {s : S} {l : SL} {δ : Env} {P : Fl → Prop} {E : Nat → List D → Prop} (h : T.ok (exs K s δ) (flS (fun δ' => T.ok (exl K l δ') P E) P) E) : T.ok (exl K (.cons s l) δ) P E := by
  unfold exl
  refine T.ok_bind.mpr (T.ok_mono (fun f hf => ?_) (fun _ _ z => z) h)
  cases f <;> exact hf
end Dp

namespace Dp
open PySem
/-- a block's run, not to be looked into -/
structure OkL (K : C) (l : SL) (δ : Env) (P : Fl → Prop) (E : Nat → List D → Prop) : Prop where
  ok : T.ok (exl K l δ) P E
section
variable {K : C} {s : S} {l : SL} {δ δ' : Env} {P : Fl → Prop} {E : Nat → List D → Prop}
theorem OkL.nil (h : P (.nx δ)) : OkL K .nil δ P E := ⟨h⟩
theorem OkL.step (e : exs K s δ = .ret (.nx δ')) (h : OkL K l δ' P E) : OkL K (.cons s l) δ P E := by
  refine ⟨ok_cons ?_⟩
  rw [e]; exact h.ok
theorem OkL.cons (Q : Env → Prop) (h : T.ok (exs K s δ) (flS Q P) E) (k : ∀ δ', Q δ' → OkL K l δ' P E) : OkL K (.cons s l) δ P E := by
  refine ⟨ok_cons (T.ok_mono (fun fl hf => ?_) (fun _ _ z => z) h)⟩
  cases fl with
  | nx δ => exact (k δ hf).ok
  | ret _ => exact hf
  | brk _ => exact hf
  | ct _ => exact hf
theorem OkL.chk {q : Fl → Bool} (h : T.chk q (exs K s δ) = true) (k : ∀ fl, q fl = true → ∃ δ', fl = .nx δ' ∧ OkL K l δ' P fun _ _ => False) : OkL K (.cons s l) δ P fun _ _ => False := by
  refine ⟨ok_cons (T.ok_mono (fun fl hf => ?_) (fun _ _ z => z) (T.chk_ok h))⟩
  obtain ⟨δ', rfl, w⟩ := k fl hf
  exact w.ok
theorem OkL.chk2 {a b : S} {q : Fl → Bool} (h : T.chk q (exl K (.cons a (.cons b .nil)) δ) = true) (k : ∀ fl, q fl = true → ∃ δ', fl = .nx δ' ∧ OkL K l δ' P fun _ _ => False) : OkL K (.cons a (.cons b l)) δ P fun _ _ => False := by
  have h2 : T.ok (exl K (.cons a (.cons b .nil)) δ) (flS (fun δ' => T.ok (exl K l δ') P fun _ _ => False) P) (fun _ _ => False) := T.ok_mono (fun fl hf => by
    obtain ⟨δ', rfl, w⟩ := k fl hf
    exact w.ok) (fun _ _ z => z) (T.chk_ok h)
  refine ⟨ok_cons (T.ok_mono (fun fl hf => ?_) (fun _ _ z => z) (T.ok_bind.mp h2))⟩
  cases fl with
  | nx δ1 =>
    refine ok_cons (T.ok_mono (fun fl hf => ?_) (fun _ _ z => z) (T.ok_bind.mp hf))
    cases fl <;> exact hf
  | ret d => exact hf
  | brk d => exact hf
  | ct d => exact hf
end
end Dp
end

section
set_option maxHeartbeats 4000000
set_option Elab.async false
set_option linter.all false
set_option autoImplicit false
set_option maxRecDepth 100000
/-! DpM: what repr gives is no longer than this. -/
namespace Dp
open PySem
def good (x : Str) (n : Nat) : Prop := x.length ≤ n ∧ PyData.strOk x = true
theorem good_append {x y : Str} {a b : Nat} (hx : good x a) (hy : good y b) : good (x ++ y) (a + b) := by
  refine ⟨by rw [Str.length_append]; exact Nat.add_le_add hx.1 hy.1, ?_⟩
  have e : (x ++ y).cps = x.cps ++ y.cps := rfl
  unfold PyData.strOk
  rw [e, Array.all_append]
  have h1 := hx.2
  have h2 := hy.2
  unfold PyData.strOk at h1 h2
  rw [h1, h2]; rfl
theorem good_mono {x : Str} {a b : Nat} (h : good x a) (k : a ≤ b) : good x b := ⟨Nat.le_trans h.1 k, h.2⟩
theorem good_ofString (s : String) : good (Str.ofString s) s.length := by
  refine ⟨by rw [ofString_length]; exact Nat.le_refl _, ?_⟩
  rw [Str.ofString_eq_toList]
  unfold PyData.strOk
  simp only [List.all_toArray, List.all_map, List.all_eq_true, Function.comp, decide_eq_true_eq]
  intro c _
  have h := c.valid
  have : c.toNat < 0x110000 := by
    rcases h with h | h
    · exact Nat.lt_trans h (by decide)
    · exact h.2
  exact this
inductive F2 {α β : Type} (R : α → β → Prop) : List α → List β → Prop
  | nil : F2 R [] []
  | cons {a : α} {b : β} {l : List α} {m : List β} : R a b → F2 R l m → F2 R (a :: l) (b :: m)
mutual
def wt : PyData → Nat
  | .none => 5
  | .bool _ => 5
  | .int _ => 2000
  | .str x => (reprText x).length
  | .list xs => wts xs + 2
  | .tuple xs => wts xs + 3
  | .dict _ => 0
def wts : List PyData → Nat
  | [] => 0
  | x :: xs => wt x + 2 + wts xs
end
mutual
/-- strings whose repr is no fault, ints of few bits, no dict -/
def rk : PyData → Bool
  | .none => true
  | .bool _ => true
  | .int i => decide (i.natAbs.log2 < 1920)
  | .str x => PyData.strOk x && PyData.strOk (reprText x)
  | .list xs => rks xs
  | .tuple xs => rks xs
  | .dict _ => false
def rks : List PyData → Bool
  | [] => true
  | x :: xs => rk x && rks xs
end
theorem good_join : ∀ {ts : List Str} {ns : List Nat}, F2 good ts ns → good (Str.join ", " ts) (ns.map (· + 2)).sum
  | [], _, .nil => ⟨Nat.zero_le _, by decide +kernel⟩
  | [x], _, .cons h .nil => by
    refine good_mono h ?_
    simp
  | x :: y :: r, _, .cons (b := n) h t => by
    have ih := good_join t
    have e : Str.join ", " (x :: y :: r) = x ++ (", " : String) ++ Str.join ", " (y :: r) := rfl
    rw [e]
    refine good_mono (good_append (good_append h (good_ofString ", ")) ih) ?_
    simp
    have : (", " : String).length = 2 := rfl
    omega
theorem good_textFrom : ∀ {ts : List Str} {ns : List Nat} (k : Nat) (acc : Str) (a : Nat), F2 good ts ns → good acc a → good (textFrom k acc ts) (a + (ns.map (· + 2)).sum)
  | [], _, k, acc, a, .nil, h => good_mono h (by simp)
  | x :: r, _, k, acc, a, .cons (b := n) h t, ha => by
    have e : textFrom k acc (x :: r) = textFrom (k + 1) (acc ++ (if k > 0 then ", " else "" : String) ++ x) r := rfl
    rw [e]
    refine good_mono (good_textFrom (k + 1) _ (a + 2 + n) t (good_append (good_append ha (good_mono (good_ofString _) ?_)) h)) ?_
    · split
      · exact Nat.le_refl 2
      · exact Nat.zero_le 2
    · simp; omega
theorem wts_sum : ∀ xs : List PyData, wts xs = ((xs.map wt).map (· + 2)).sum
  | [] => rfl
  | x :: xs => by
    show wt x + 2 + wts xs = _
    rw [wts_sum xs]; simp
mutual
theorem good_shown : ∀ {p : PyData}, rk p = true → good p.shown (wt p)
  | .none, _ => by
    show good (Str.ofString "None") 5
    exact good_mono (good_ofString _) (by decide)
  | .bool b, _ => by
    cases b
    · exact good_mono (good_ofString "False") (by decide)
    · exact good_mono (good_ofString "True") (by decide)
  | .int i, h => by
    have h : decide (i.natAbs.log2 < 1920) = true := h
    exact good_mono (good_ofString (toString i)) (Nat.le_trans (int_text_length_le (k := 1920) (by decide) (of_decide_eq_true h)) (by show (1921 : Nat) ≤ 2000; decide))
  | .str x, h => by
    have h : (PyData.strOk x && PyData.strOk (reprText x)) = true := h
    rw [Bool.and_eq_true] at h
    exact ⟨Nat.le_refl _, h.2⟩
  | .list xs, h => by
    have ih := good_shownAll (xs := xs) h
    show good (textFrom 0 "[" (PyData.shownAll xs) ++ ("]" : String)) (wts xs + 2)
    rw [wts_sum]
    refine good_mono (good_append (good_textFrom 0 _ 1 ih (good_ofString "[")) (good_ofString "]")) ?_
    have : ("]" : String).length = 1 := rfl
    omega
  | .tuple xs, h => by
    have ih := good_shownAll (xs := xs) h
    show good ((Str.ofString "(") ++ Str.join ", " (PyData.shownAll xs) ++ Str.ofString (if (PyData.shownAll xs).length == 1 then ",)" else ")")) (wts xs + 3)
    rw [wts_sum]
    have e1 : (if ((PyData.shownAll xs).length == 1) = true then ",)" else ")" : String).length ≤ 2 := by
      split
      · exact Nat.le_refl 2
      · exact (by decide : 1 ≤ 2)
    refine good_mono (good_append (good_append (good_ofString "(") (good_join ih)) (good_mono (good_ofString _) e1)) ?_
    have : ("(" : String).length = 1 := rfl
    omega
  | .dict _, h => by cases h
theorem good_shownAll : ∀ {xs : List PyData}, rks xs = true → F2 good (PyData.shownAll xs) (xs.map wt)
  | [], _ => .nil
  | x :: xs, h => by
    have h : (rk x && rks xs) = true := h
    rw [Bool.and_eq_true] at h
    exact .cons (good_shown h.1) (good_shownAll h.2)
end
mutual
theorem rk_lay : ∀ {p : PyData}, rk p = true → p.canLay0 = true
  | .none, _ => by simp only [PyData.canLay0]
  | .bool b, _ => by simp only [PyData.canLay0]
  | .int i, h => by simp only [PyData.canLay0]
  | .str x, h => by
    have h : (PyData.strOk x && PyData.strOk (reprText x)) = true := h
    rw [Bool.and_eq_true] at h
    simpa only [PyData.canLay0] using h.1
  | .list xs, h => by simpa only [PyData.canLay0] using rks_lay (xs := xs) h
  | .tuple xs, h => by simpa only [PyData.canLay0] using rks_lay (xs := xs) h
  | .dict _, h => by cases h
theorem rks_lay : ∀ {xs : List PyData}, rks xs = true → PyData.canLayAll0 xs = true
  | [], _ => by simp only [PyData.canLayAll0]
  | x :: xs, h => by
    have h : (rk x && rks xs) = true := h
    rw [Bool.and_eq_true] at h
    simp only [PyData.canLayAll0, rk_lay h.1, rks_lay h.2, Bool.and_self]
end
mutual
theorem rk_show : ∀ {p : PyData}, rk p = true → p.showable = true
  | .none, _ => by simp only [PyData.showable]
  | .bool b, _ => by simp only [PyData.showable]
  | .int i, h => by
    have h : decide (i.natAbs.log2 < 1920) = true := h
    simpa only [PyData.showable] using h
  | .str x, h => by simp only [PyData.showable]
  | .list xs, h => by simpa only [PyData.showable] using rks_show (xs := xs) h
  | .tuple xs, h => by simpa only [PyData.showable] using rks_show (xs := xs) h
  | .dict _, h => by cases h
theorem rks_show : ∀ {xs : List PyData}, rks xs = true → PyData.showableAll xs = true
  | [], _ => by simp only [PyData.showableAll]
  | x :: xs, h => by
    have h : (rk x && rks xs) = true := h
    rw [Bool.and_eq_true] at h
    simp only [PyData.showableAll, rk_show h.1, rks_show h.2, Bool.and_self]
end
/-- a value that may be shown -/
def rOk (d : D) : Bool := (itemsD d).isSome && match d.py with
  | some p => rk p && (Nat.ble p.depth 60 && Nat.ble (wt p) 16000000)
  | none => false
/-- what repr gives -/
def rS (d : D) : Str := match d.py with
  | some p => p.shown
  | none => Str.empty
theorem reprD_ok {d : D} (h : rOk d = true) : reprD d = .ret (.str (rS d)) ∧ PyData.strOk (rS d) = true := by
  unfold rOk at h
  rw [Bool.and_eq_true] at h
  obtain ⟨h0, h⟩ := h
  unfold reprD rS
  cases e : itemsD d with
  | none => rw [e] at h0; cases h0
  | some l =>
    cases e2 : d.py with
    | none => rw [e2] at h; cases h
    | some p =>
      rw [e2] at h
      simp only [Bool.and_eq_true] at h
      obtain ⟨k, k1, k2⟩ := h
      have g := good_shown k
      refine ⟨?_, g.2⟩
      have b1 : decide (p.depth ≤ 60) = true := decide_eq_true (Nat.le_of_ble_eq_true k1)
      have b2 : decide (p.shown.length ≤ sizeLine) = true := decide_eq_true (by rw [sizeLine_eq]; exact Nat.le_trans g.1 (Nat.le_trans (Nat.le_of_ble_eq_true k2) (by decide)))
      change T.need (p.canLay0 && p.showable && decide (p.depth ≤ 60) && decide (p.shown.length ≤ sizeLine)) (.ret (D.str p.shown)) = .ret (D.str p.shown)
      rw [rk_lay k, rk_show k, b1, b2]; rfl
theorem eqS {s : Str} (h : PyData.strOk s = true) (k : Bool → D) : eqD (D.str s) (D.str s) k = .ret (k true) := by
  unfold eqD
  have e : SeqAt.shaped (.str s) = true := by
    unfold SeqAt.shaped
    simp only [PyData.canLay0, h, PyData.depth, Bool.true_and]
    rfl
  show T.need (SeqAt.shaped (.str s) && SeqAt.shaped (.str s)) (.ret (k (PyData.eqv (PyData.str s) (PyData.str s)))) = _
  rw [e]
  have : PyData.eqv (.str s) (.str s) = true := by simp [PyData.eqv]
  rw [this]; rfl
/-- two reprs of one value -/
theorem ne_repr {d : D} (h : rOk d = true) : (reprD d).bind (fun x => (reprD d).bind fun y => cmpD .NotEq x y) = .ret (.bl false) := by
  obtain ⟨e, k⟩ := reprD_ok h
  rw [e]
  exact eqS k (fun c => .bl (!c))
end Dp
namespace Dp
open PySem
section
variable {K : C} {δ : Env}
theorem ev_bi1 {b : BI} {a : E} {d : D} (h : ev K a δ = .ret d) : ev K (.bi b (.cons a .nil)) δ = biD b [d] := by
  show ((ev K a δ).bind fun d => (T.ret []).bind fun ds => T.ret (d :: ds)).bind _ = _
  rw [h]; rfl
theorem ev_cmp {o : CmpOp} {a b : E} {x y : D} (h1 : ev K a δ = .ret x) (h2 : ev K b δ = .ret y) : ev K (.cmp o a b) δ = cmpK K o x y := by
  show ((ev K a δ).bind fun x => (ev K b δ).bind fun y => cmpK K o x y) = _
  rw [h1]
  show ((ev K b δ).bind fun y => cmpK K o x y) = _
  rw [h2]; rfl
theorem ev_ne_repr {a b : E} {d : D} (h1 : ev K a δ = .ret d) (h2 : ev K b δ = .ret d) (h : rOk d = true) : ev K (.cmp .NotEq (.bi .repr (.cons a .nil)) (.bi .repr (.cons b .nil))) δ = .ret (.bl false) := by
  obtain ⟨e, k⟩ := reprD_ok h
  have e1 : biD .repr [d] = .ret (D.str (rS d)) := e
  rw [ev_cmp ((ev_bi1 h1).trans e1) ((ev_bi1 h2).trans e1)]
  exact eqS k (fun c => .bl (!c))
theorem exs_ife {c : E} {a b : SL} {v : Bool} (h : ev K c δ = .ret (.bl v)) : exs K (.ife c a b) δ = if v = true then exl K a δ else exl K b δ := by
  show ((ev K c δ).bind fun x => (asB x).bind fun k => if k = true then exl K a δ else exl K b δ) = _
  rw [h]; rfl
end
end Dp
end

section
set_option maxHeartbeats 4000000
set_option Elab.async false
set_option linter.all false
set_option autoImplicit false
set_option maxRecDepth 100000
/-! DpN: what terms come to, step by step; loops over pure bodies; draws. -/
namespace Dp
open PySem
section
variable {α β γ : Type}
@[simp] theorem bind_ret (a : α) (f : α → T β) : T.bind (.ret a) f = f a := rfl
@[simp] theorem bind_exc (c : Nat) (l : List D) (f : α → T β) : T.bind (.exc c l) f = .exc c l := rfl
@[simp] theorem bind_bad (f : α → T β) : T.bind .bad f = .bad := rfl
@[simp] theorem bind_draw (n : Nat) (k : Nat → T α) (f : α → T β) : T.bind (.draw n k) f = .draw n fun r => T.bind (k r) f := rfl
@[simp] theorem need_true (t : T α) : T.need true t = t := rfl
@[simp] theorem need_false (t : T α) : T.need false t = .bad := rfl
@[simp] theorem bind_bind : ∀ (t : T α) (f : α → T β) (g : β → T γ), T.bind (T.bind t f) g = T.bind t fun a => T.bind (f a) g
  | .ret a, f, g => rfl
  | .exc _ _, f, g => rfl
  | .bad, f, g => rfl
  | .draw n k, f, g => congrArg (T.draw n) (funext fun r => bind_bind (k r) f g)
  | .any k, f, g => congrArg T.any (funext fun r => bind_bind (k r) f g)
@[simp] theorem nox_ret (a : α) : T.nox (.ret a) = .ret a := rfl
@[simp] theorem ok_ret (a : α) (Q : α → Prop) (E : Nat → List D → Prop) : T.ok (.ret a) Q E = Q a := rfl
@[simp] theorem asB_bl (b : Bool) : asB (.bl b) = .ret b := rfl
@[simp] theorem look_z (s : Slot) (l : Env) : look (s :: l) 0 = s := rfl
@[simp] theorem look_s (s : Slot) (l : Env) (i : Nat) : look (s :: l) (i + 1) = look l i := rfl
end
section
variable (K : C) (δ : Env)
@[simp] theorem ev_c (k : Cst) : ev K (.c k) δ = .ret k.d := rfl
@[simp] theorem ev_g (i : Nat) : ev K (.g i) δ = .ret (K.con i) := rfl
@[simp] theorem ev_v (i : Nat) : ev K (.v i) δ = match look δ i with | .v d => .ret d | .ot l => .ret (.tup l) | _ => .bad := rfl
@[simp] theorem ev_b (i : Nat) : ev K (.b i) δ = match look δ i with | .own l => .ret (.lst l) | _ => .bad := rfl
@[simp] theorem ev_tup (l : EL) : ev K (.tup l) δ = (evs K l δ).bind fun ds => .ret (.tup ds) := rfl
@[simp] theorem ev_lst (l : EL) : ev K (.lst l) δ = (evs K l δ).bind fun ds => .ret (.lst ds) := rfl
@[simp] theorem ev_dct : ev K .dct δ = .ret .dct := rfl
@[simp] theorem ev_op (o : Operator) (a b : E) : ev K (.op o a b) δ = (ev K a δ).bind fun x => (ev K b δ).bind fun y => opD o x y := rfl
@[simp] theorem ev_neg (a : E) : ev K (.neg a) δ = (ev K a δ).bind fun x => match x with | .int i => .ret (.int (-i)) | _ => .bad := rfl
@[simp] theorem ev_cmp' (o : CmpOp) (a b : E) : ev K (.cmp o a b) δ = (ev K a δ).bind fun x => (ev K b δ).bind fun y => cmpK K o x y := rfl
/-- the second half of a chain -/
def chainD (z : D) (x : T D) : T D := match z with
  | .bl true => x
  | .bl false => .ret (.bl false)
  | _ => .bad
@[simp] theorem chain_bl (b : Bool) (x : T D) : chainD (.bl b) x = if b = true then x else .ret (.bl false) := by cases b <;> rfl
@[simp] theorem ev_cmp2 (o p : CmpOp) (a b c : E) : ev K (.cmp2 o p a b c) δ = (ev K a δ).bind fun x => (ev K b δ).bind fun y => (cmpD o x y).bind fun z => chainD z ((ev K c δ).bind fun w => cmpD p y w) := rfl
@[simp] theorem bind_ite {α β : Type} (c : Prop) [Decidable c] (a b : T α) (f : α → T β) : T.bind (if c then a else b) f = if c then T.bind a f else T.bind b f := by split <;> rfl
theorem ret_ite {α : Type} (c : Prop) [Decidable c] (a b : α) : (if c then T.ret a else T.ret b) = T.ret (if c then a else b) := by split <;> rfl
@[simp] theorem ev_and1 (a : E) : ev K (.and1 a) δ = (ev K a δ).bind fun x => (asB x).bind fun b => .ret (.bl b) := rfl
@[simp] theorem ev_and (a r : E) : ev K (.and a r) δ = (ev K a δ).bind fun x => (asB x).bind fun b => if b = true then ev K r δ else .ret (.bl false) := rfl
@[simp] theorem ev_or1 (a : E) : ev K (.or1 a) δ = (ev K a δ).bind fun x => (asB x).bind fun b => .ret (.bl b) := rfl
@[simp] theorem ev_or (a r : E) : ev K (.or a r) δ = (ev K a δ).bind fun x => (asB x).bind fun b => if b = true then .ret (.bl true) else ev K r δ := rfl
@[simp] theorem ev_not (a : E) : ev K (.not a) δ = (ev K a δ).bind fun x => (asB x).bind fun b => .ret (.bl (!b)) := rfl
@[simp] theorem ev_ite (c a b : E) : ev K (.ite c a b) δ = (ev K c δ).bind fun x => (asB x).bind fun k => if k = true then ev K a δ else ev K b δ := rfl
@[simp] theorem ev_ix (a i : E) : ev K (.ix a i) δ = (ev K a δ).bind fun x => (ev K i δ).bind fun y => ixD x y := rfl
@[simp] theorem ev_sl (a : E) (lo hi : EO) : ev K (.sl a lo hi) δ = (ev K a δ).bind fun x => (evo K lo δ).bind fun i => (evo K hi δ).bind fun j => slD x i j := rfl
@[simp] theorem ev_call (f : Nat) (l : EL) : ev K (.call f l) δ = (evs K l δ).bind fun ds => K.call f ds := rfl
@[simp] theorem ev_callk (f : Nat) (l : EL) (ks : KL) (p : List Nat) : ev K (.callk f l ks p) δ = (evs K l δ).bind fun ds => (evk K ks δ).bind fun zs => match pick (ds ++ zs) p with | some vs => K.call f vs | none => .bad := rfl
@[simp] theorem ev_bi (b : BI) (l : EL) : ev K (.bi b l) δ = (evs K l δ).bind fun ds => biD b ds := rfl
@[simp] theorem ev_seqR (tu : Bool) (s : Src) : ev K (.seqR tu s) δ = (evsrc K s δ).bind fun ns => .ret (if tu = true then .tup ns else .lst ns) := rfl
@[simp] theorem ev_isi (a : E) (t : Ty) : ev K (.isi a t) δ = (ev K a δ).bind fun x => isiD K.G x t := rfl
theorem ev_cv {K : C} {δ : Env} {i f : Nat} {fs : List Nat} {l : EL} (h : look δ i = .v (.fn f)) (h2 : decide (f ∈ fs) = true) : ev K (.cv i fs l) δ = (evs K l δ).bind fun ds => K.call f ds := by
  show (match look δ i with | .v (.fn f) => T.need (decide (f ∈ fs)) ((evs K l δ).bind fun ds => K.call f ds) | _ => .bad) = _
  rw [h]; dsimp only; rw [h2]; rfl
@[simp] theorem ev_gf (f : Nat) : ev K (.gf f) δ = .ret (.fn f) := rfl
@[simp] theorem ev_lam (e : E) : ev K (.lam e) δ = .ret (.lm e) := rfl
@[simp] theorem evs_nil : evs K .nil δ = .ret [] := rfl
@[simp] theorem evs_cons (e : E) (l : EL) : evs K (.cons e l) δ = (ev K e δ).bind fun d => (evs K l δ).bind fun ds => .ret (d :: ds) := rfl
@[simp] theorem evk_nil : evk K .nil δ = .ret [] := rfl
@[simp] theorem evk_cons (x : Str) (e : E) (l : KL) : evk K (.cons x e l) δ = (ev K e δ).bind fun d => (evk K l δ).bind fun ds => .ret (d :: ds) := rfl
@[simp] theorem evo_no : evo K .no δ = .ret none := rfl
@[simp] theorem evo_e (e : E) : evo K (.e e) δ = (ev K e δ).bind fun x => match x with | .int i => .ret (some i) | _ => .bad := rfl
@[simp] theorem evc_no : evc K .no δ = .ret true := rfl
@[simp] theorem evc_e (e : E) : evc K (.e e) δ = (ev K e δ).bind fun x => asB x := rfl
@[simp] theorem exl_nil : exl K .nil δ = .ret (.nx δ) := rfl
theorem exl_cons (s : S) (l : SL) : exl K (.cons s l) δ = (exs K s δ).bind fun f => match f with
      | .nx δ' => exl K l δ'
      | .ret d => .ret (.ret d)
      | .brk δ' => .ret (.brk δ')
      | .ct δ' => .ret (.ct δ') := rfl
@[simp] theorem exl_ret (e : E) (l : SL) : exl K (.cons (.ret e) l) δ = (ev K e δ).bind fun d => .ret (.ret d) := by
  rw [exl_cons]
  show ((ev K e δ).bind fun d => T.ret (Fl.ret d)).bind _ = _
  rw [bind_bind]; rfl
@[simp] theorem exl_ex (e : E) (l : SL) : exl K (.cons (.ex e) l) δ = (ev K e δ).bind fun _ => exl K l δ := by
  rw [exl_cons]
  show ((ev K e δ).bind fun _ => T.ret (Fl.nx δ)).bind _ = _
  rw [bind_bind]; rfl
@[simp] theorem exl_raise (c : Nat) (l : SL) : exl K (.cons (.raise c .nil) l) δ = .exc c [] := rfl
@[simp] theorem exl_set (i : Nat) (e : E) (l : SL) : exl K (.cons (.set i false e) l) δ = (ev K e δ).bind fun d => exl K l (δ.set i (.v d)) := by
  rw [exl_cons]
  show ((ev K e δ).bind fun d => T.ret (Fl.nx (δ.set i (.v d)))).bind _ = _
  rw [bind_bind]; rfl
@[simp] theorem exl_ife (c : E) (a b l : SL) : exl K (.cons (.ife c a b) l) δ = (ev K c δ).bind fun x => (asB x).bind fun k => (if k = true then exl K a δ else exl K b δ).bind fun f => match f with
      | .nx δ' => exl K l δ'
      | .ret d => .ret (.ret d)
      | .brk δ' => .ret (.brk δ')
      | .ct δ' => .ret (.ct δ') := by
  rw [exl_cons]
  show ((ev K c δ).bind fun x => (asB x).bind fun k => if k = true then exl K a δ else exl K b δ).bind _ = _
  rw [bind_bind]; simp only [bind_bind]
end
section
@[simp] theorem cd_non : Cst.non.d = .non := rfl
@[simp] theorem cd_bl (b : Bool) : (Cst.bl b).d = .bl b := rfl
@[simp] theorem cd_int (i : Int) : (Cst.int i).d = .int i := rfl
@[simp] theorem cd_str (x : Str) : (Cst.str x).d = .str x := rfl
@[simp] theorem op_addI (i j : Int) : opD .Add (.int i) (.int j) = .ret (.int (i + j)) := rfl
@[simp] theorem op_subI (i j : Int) : opD .Sub (.int i) (.int j) = .ret (.int (i - j)) := rfl
@[simp] theorem op_mulI (i j : Int) : opD .Mult (.int i) (.int j) = .need ((ok1 i && ok1 j) || small i || small j) (.ret (.int (i * j))) := rfl
@[simp] theorem op_addT (l m : List D) : opD .Add (.tup l) (.tup m) = .need (decide (l.length + m.length ≤ lim)) (.ret (.tup (l ++ m))) := rfl
@[simp] theorem op_addL (l m : List D) : opD .Add (.lst l) (.lst m) = .need (decide (l.length + m.length ≤ lim)) (.ret (.lst (l ++ m))) := rfl
@[simp] theorem op_addS (l m : Str) : opD .Add (.str l) (.str m) = .need (decide (l.length + m.length ≤ lim)) (.ret (.str (l ++ m))) := rfl
@[simp] theorem op_divI (i j : Int) : opD .FloorDiv (.int i) (.int j) = .need (decide (0 < j) && ok1 j) (.ret (.int (i / j))) := rfl
@[simp] theorem op_modI (i j : Int) : opD .Mod (.int i) (.int j) = .need (decide (0 < j)) (.ret (.int (i % j))) := rfl
@[simp] theorem op_pow18 : opD .Pow (.int 10) (.int 18) = .ret (.int 1000000000000000000) := by kernel_rfl
@[simp] theorem op_pow6 : opD .Pow (.int 10) (.int 6) = .ret (.int 1000000) := by kernel_rfl
@[simp] theorem cK_non (K : C) (o : CmpOp) (y : D) : cmpK K o .non y = cmpD o .non y := by cases o <;> rfl
@[simp] theorem cK_bl (K : C) (o : CmpOp) (x : Bool) (y : D) : cmpK K o (.bl x) y = cmpD o (.bl x) y := by cases o <;> rfl
@[simp] theorem cK_int (K : C) (o : CmpOp) (x : Int) (y : D) : cmpK K o (.int x) y = cmpD o (.int x) y := by cases o <;> rfl
@[simp] theorem cK_str (K : C) (o : CmpOp) (x : Str) (y : D) : cmpK K o (.str x) y = cmpD o (.str x) y := by cases o <;> rfl
@[simp] theorem cK_tup (K : C) (o : CmpOp) (x : List D) (y : D) : cmpK K o (.tup x) y = cmpD o (.tup x) y := by cases o <;> rfl
@[simp] theorem cK_lst (K : C) (o : CmpOp) (x : List D) (y : D) : cmpK K o (.lst x) y = cmpD o (.lst x) y := by cases o <;> rfl
@[simp] theorem cK_dct (K : C) (o : CmpOp) (y : D) : cmpK K o .dct y = cmpD o .dct y := by cases o <;> rfl
@[simp] theorem cD_lt (i j : Int) : cmpD .Lt (.int i) (.int j) = .ret (.bl (decide (i < j))) := rfl
@[simp] theorem cD_le (i j : Int) : cmpD .LtE (.int i) (.int j) = .ret (.bl (decide (i ≤ j))) := rfl
@[simp] theorem cD_gt (i j : Int) : cmpD .Gt (.int i) (.int j) = .ret (.bl (decide (j < i))) := rfl
@[simp] theorem cD_ge (i j : Int) : cmpD .GtE (.int i) (.int j) = .ret (.bl (decide (j ≤ i))) := rfl
theorem eqD_py {a b : D} {p q : PyData} {k : Bool → D} (h1 : a.py = some p) (h2 : b.py = some q) : eqD a b k = .need (SeqAt.shaped p && SeqAt.shaped q) (.ret (k (PyData.eqv p q))) := by
  unfold eqD; rw [h1, h2]
theorem py_int (i : Int) : (D.int i).py = some (.int i) := by simp only [D.py]
theorem eq_int (i j : Int) (k : Bool → D) : eqD (.int i) (.int j) k = .ret (k (decide (i = j))) := by
  rw [eqD_py (py_int i) (py_int j)]
  have e : PyData.eqv (.int i) (.int j) = decide (i = j) := by
    simp only [PyData.eqv]
    by_cases h : i = j <;> simp [h]
  rw [e]; rfl
@[simp] theorem cD_eqI (i j : Int) : cmpD .Eq (.int i) (.int j) = .ret (.bl (decide (i = j))) := eq_int i j _
@[simp] theorem cD_neI (i j : Int) : cmpD .NotEq (.int i) (.int j) = .ret (.bl (!decide (i = j))) := eq_int i j (fun c => .bl (!c))
/-- is it None -/
def D.isN : D → Bool
  | .non => true
  | _ => false
@[simp] theorem cD_is (d : D) : cmpD .Is d .non = .ret (.bl d.isN) := by cases d <;> rfl
@[simp] theorem cD_isnot (d : D) : cmpD .IsNot d .non = .ret (.bl (!d.isN)) := by cases d <;> rfl
@[simp] theorem cK_is (K : C) (d : D) : cmpK K .Is d .non = .ret (.bl d.isN) := by cases d <;> rfl
@[simp] theorem cK_isnot (K : C) (d : D) : cmpK K .IsNot d .non = .ret (.bl (!d.isN)) := by cases d <;> rfl
@[simp] theorem bi_len1 (l : List D) : biD .len [.tup l] = .ret (.int l.length) := rfl
@[simp] theorem bi_len2 (l : List D) : biD .len [.lst l] = .ret (.int l.length) := rfl
@[simp] theorem bi_tup (l : List D) : biD .tuple [.lst l] = .ret (.tup l) := rfl
end
section
variable (K : C) (δ : Env)
theorem ev_lc (own : List (Str × Nat)) (t : Tg) (s : Src) (c : EO) (e : E) : ev K (.lc own t s c e) δ = (evsrc K s δ).bind fun l => .need (decide (l.length ≤ lim)) ((T.nox (lcL (fun δ' => evc K c δ') (fun δ' => ev K e δ') t (wipeE δ (own.map (·.2))) l)).bind fun ys => .ret (.lst ys)) := rfl
@[simp] theorem src_e (a : E) : evsrc K (.e a) δ = (ev K a δ).bind fun x => match itemsD x with | some l => .ret l | none => .bad := rfl
@[simp] theorem src_r1 (a : E) : evsrc K (.rng1 a) δ = (ev K a δ).bind fun x => match x with | .int j => rngD 0 j | _ => .bad := rfl
@[simp] theorem src_en (a : E) : evsrc K (.enum a) δ = (ev K a δ).bind fun x => match x with | .lst l => .ret (enumD 0 l) | .tup l => .ret (enumD 0 l) | _ => .bad := rfl
@[simp] theorem src_zip (a b : E) : evsrc K (.zip a b) δ = (ev K a δ).bind fun x => (ev K b δ).bind fun y => match x, y with | .tup l, .tup m => .ret (zipD l m) | .lst l, .lst m => .ret (zipD l m) | .lst l, .tup m => .ret (zipD l m) | _, _ => .bad := rfl
@[simp] theorem items_t (l : List D) : itemsD (.tup l) = some l := rfl
@[simp] theorem items_l (l : List D) : itemsD (.lst l) = some l := rfl
end
/-! ### loops whose body is a plain map -/
theorem lcL_pure {c : Env → T Bool} {e : Env → T D} {t : Tg} {δ : Env} {p : D → Bool} {f : D → D} : ∀ (l : List D), (∀ d ∈ l, ∃ δ', asg t d δ = some δ' ∧ c δ' = .ret (p d) ∧ (p d = true → e δ' = .ret (f d))) → lcL c e t δ l = .ret ((l.filter p).map f)
  | [], _ => rfl
  | d :: l, h => by
    obtain ⟨δ', h1, h2, h3⟩ := h d List.mem_cons_self
    have ih := lcL_pure (p := p) (f := f) l fun d hd => h d (List.mem_cons_of_mem _ hd)
    unfold lcL
    rw [h1]
    dsimp only
    rw [h2, bind_ret]
    by_cases hp : p d = true
    · rw [if_pos hp, h3 hp, bind_ret, ih, bind_ret, List.filter_cons_of_pos hp]; rfl
    · rw [if_neg hp, ih, List.filter_cons_of_neg hp]
/-- draws among them: what holds of each -/
theorem lcL_ok {c : Env → T Bool} {e : Env → T D} {t : Tg} {δ : Env} {R : D → D → Prop} : ∀ (l : List D), (∀ d ∈ l, ∃ δ', asg t d δ = some δ' ∧ c δ' = .ret true ∧ T.ok (e δ') (R d) (fun _ _ => False)) → T.ok (lcL c e t δ l) (fun ys => F2 R l ys) (fun _ _ => False)
  | [], _ => .nil
  | d :: l, h => by
    obtain ⟨δ', h1, h2, h3⟩ := h d List.mem_cons_self
    have ih := lcL_ok (R := R) l fun d hd => h d (List.mem_cons_of_mem _ hd)
    unfold lcL
    rw [h1]
    dsimp only
    rw [h2, bind_ret, if_pos rfl]
    refine T.ok_bind.mpr (T.ok_mono (fun y hy => ?_) (fun _ _ z => z) h3)
    exact T.ok_bind.mpr (T.ok_mono (fun ys hys => .cons hy hys) (fun _ _ z => z) ih)
theorem ok_nox {α : Type} {Q : α → Prop} : ∀ {t : T α}, T.ok t Q (fun _ _ => False) → T.ok t.nox Q (fun _ _ => False)
  | .ret a, h => h
  | .exc _ _, h => h.elim
  | .bad, h => h
  | .draw n k, ⟨a, b, c⟩ => ⟨a, b, fun r hr => ok_nox (c r hr)⟩
  | .any k, h => fun l => ok_nox (h l)
/-- as many ones as there are -/
theorem pys_ones : ∀ l : List D, D.pys (l.map fun _ => D.int 1) = some (l.map fun _ => PyData.int 1)
  | [] => by simp only [List.map_nil, D.pys]
  | _ :: l => by simp only [List.map_cons, D.pys, pys_ones l, D.py]
theorem lay_ones : ∀ l : List D, PyData.canLayAll0 (l.map fun _ => PyData.int 1) = true ∧ PyData.depthAll (l.map fun _ => PyData.int 1) = 0
  | [] => by simp only [List.map_nil, PyData.canLayAll0, PyData.depthAll, and_self]
  | _ :: l => by
    obtain ⟨a, b⟩ := lay_ones l
    simp only [List.map_cons, PyData.canLayAll0, PyData.canLay0, PyData.depthAll, PyData.depth, a, b, Bool.and_self, Nat.max_self, and_self]
theorem ones_ne (l : List D) : cmpD .NotEq (.lst (l.map fun _ => .int 1)) (.lst []) = .ret (.bl (!l.isEmpty)) := by
  have h1 : (D.lst (l.map fun _ => D.int 1)).py = some (.list (l.map fun _ => PyData.int 1)) := by simp only [D.py, pys_ones, Option.map_some]
  have h2 : (D.lst []).py = some (.list []) := by simp only [D.py, D.pys, Option.map_some]
  obtain ⟨a, b⟩ := lay_ones l
  have e : cmpD .NotEq (.lst (l.map fun _ => .int 1)) (.lst []) = eqD (.lst (l.map fun _ => .int 1)) (.lst []) (fun c => .bl (!c)) := rfl
  rw [e, eqD_py h1 h2]
  have s1 : SeqAt.shaped (.list (l.map fun _ => PyData.int 1)) = true := by
    unfold SeqAt.shaped
    simp only [PyData.canLay0, PyData.depth, a, b]; rfl
  rw [s1]
  have s2 : SeqAt.shaped (.list []) = true := by kernel_rfl
  rw [s2]
  cases l with
  | nil => simp [PyData.eqv, PyData.eqvAll]
  | cons _ _ => simp [PyData.eqv, PyData.eqvAll]
/-- a call of a def, its body's end read -/
def fin : Fl → T D
  | .nx _ => .ret .non
  | .ret d => .ret d
  | _ => .bad
@[simp] theorem fin_ret (d : D) : fin (.ret d) = .ret d := rfl
@[simp] theorem fin_nx (δ : Env) : fin (.nx δ) = .ret .non := rfl
theorem run_fd {P : Prg} {k f : Nat} {fd : Fd} (h : P.fns f = .fd fd) (ds : List D) : P.run (k + 1) f ds = runBody ⟨P.G, P.run k, fun _ _ => .bad, P.fld, P.con⟩ fd ds := by
  unfold Prg.run; rw [h]
/-- the context of a def's body -/
abbrev Prg.K (P : Prg) (k : Nat) : C := ⟨P.G, P.run k, fun e δ => T.need (decide (wE e ≤ lcap)) (ev ⟨P.G, P.run k, fun _ _ => .bad, P.fld, P.con⟩ e δ), P.fld, P.con⟩
theorem run_go {P : Prg} {k f np ns : Nat} {b : SL} (h : P.fns f = .fd ⟨np, ns, b⟩) {ds : List D} (hl : ds.length = np) : P.run (k + 1) f ds = (exl (P.K k) b (entry ns ds)).bind fin := by
  rw [run_fd h]
  unfold runBody
  rw [decide_eq_true hl]
  show T.bind _ _ = T.bind _ _
  congr 1
end Dp
namespace Dp
open PySem
section
variable (G : Dp.Cls)
/-- plain kinds: what isinstance may be asked of -/
def pk : D → Bool
  | .non => true
  | .bl _ => true
  | .int _ => true
  | .str _ => true
  | .tup _ => true
  | .lst _ => true
  | .dct => true
  | _ => false
def D.isI : D → Bool
  | .int _ => true
  | .bl _ => true
  | _ => false
def D.isB : D → Bool
  | .bl _ => true
  | _ => false
def D.isT : D → Bool
  | .tup _ => true
  | _ => false
theorem isi_int {d : D} (h : pk d = true) : isiD G d .int = .ret (.bl d.isI) := by cases d <;> first | rfl | cases h
theorem isi_bool {d : D} (h : pk d = true) : isiD G d .bool = .ret (.bl d.isB) := by cases d <;> first | rfl | cases h
theorem isi_tuple {d : D} (h : pk d = true) : isiD G d .tuple = .ret (.bl d.isT) := by cases d <;> first | rfl | cases h
@[simp] theorem isi_ii (i : Int) : isiD G (.int i) .int = .ret (.bl true) := rfl
@[simp] theorem isi_ib (i : Int) : isiD G (.int i) .bool = .ret (.bl false) := rfl
@[simp] theorem isi_it (i : Int) : isiD G (.int i) .tuple = .ret (.bl false) := rfl
@[simp] theorem isi_tt (i : List D) : isiD G (.tup i) .tuple = .ret (.bl true) := rfl
@[simp] theorem pk_int (i : Int) : pk (.int i) = true := rfl
@[simp] theorem pk_tup (l : List D) : pk (.tup l) = true := rfl
@[simp] theorem pk_non : pk .non = true := rfl
@[simp] theorem isI_int (i : Int) : D.isI (.int i) = true := rfl
@[simp] theorem isB_int (i : Int) : D.isB (.int i) = false := rfl
@[simp] theorem isT_tup (i : List D) : D.isT (.tup i) = true := rfl
@[simp] theorem isN_int (i : Int) : D.isN (.int i) = false := rfl
@[simp] theorem isN_non : D.isN .non = true := rfl
end
end Dp

namespace Dp
open PySem
theorem nox_of {α : Type} {t : T α} {a : α} (h : t = .ret a) : t.nox = .ret a := by rw [h]; rfl
/-- a comprehension over plain things -/
theorem lc_pure {K : C} {δ : Env} {own : List (Str × Nat)} {t : Tg} {s : Src} {c : EO} {e : E} {l : List D} (p : D → Bool) (f : D → D) (hs : evsrc K s δ = .ret l) (hl : l.length ≤ lim)
    (h : ∀ d ∈ l, ∃ δ', asg t d (wipeE δ (own.map (·.2))) = some δ' ∧ evc K c δ' = .ret (p d) ∧ (p d = true → ev K e δ' = .ret (f d))) : ev K (.lc own t s c e) δ = .ret (.lst ((l.filter p).map f)) := by
  rw [ev_lc, hs, bind_ret, decide_eq_true hl, need_true, nox_of (lcL_pure l h)]; rfl
theorem filt_empty (l : List D) (p : D → Bool) : (l.filter p).isEmpty = !l.any p := by
  induction l with
  | nil => rfl
  | cons d l ih => cases h : p d <;> simp [h, ih]
theorem filt_true (l : List D) : l.filter (fun _ => true) = l := List.filter_eq_self.mpr fun _ _ => rfl
theorem lc_ok {K : C} {δ : Env} {own : List (Str × Nat)} {t : Tg} {s : Src} {e : E} {l : List D} (R : D → D → Prop) (hs : evsrc K s δ = .ret l) (hl : l.length ≤ lim)
    (h : ∀ d ∈ l, ∃ δ', asg t d (wipeE δ (own.map (·.2))) = some δ' ∧ T.ok (ev K e δ') (R d) (fun _ _ => False)) : T.ok (ev K (.lc own t s .no e) δ) (fun y => ∃ ys, y = .lst ys ∧ F2 R l ys) (fun _ _ => False) := by
  rw [ev_lc, hs, bind_ret, decide_eq_true hl, need_true]
  refine T.ok_bind.mpr (T.ok_mono (fun ys hys => ⟨ys, rfl, hys⟩) (fun _ _ z => z) (ok_nox (lcL_ok l fun d hd => ?_)))
  obtain ⟨δ', h1, h2⟩ := h d hd
  exact ⟨δ', h1, rfl, h2⟩
theorem F2.len {α β : Type} {R : α → β → Prop} : ∀ {l : List α} {m : List β}, F2 R l m → l.length = m.length
  | _, _, .nil => rfl
  | _, _, .cons _ t => congrArg Nat.succ (F2.len t)
theorem F2.all {α β : Type} {R : α → β → Prop} {Q : β → Prop} (h : ∀ a b, R a b → Q b) : ∀ {l : List α} {m : List β}, F2 R l m → ∀ b ∈ m, Q b
  | _, _, .nil, b, hb => by cases hb
  | _, _, .cons x t, b, hb => by
    rcases List.mem_cons.mp hb with rfl | hb
    · exact h _ _ x
    · exact F2.all h t b hb
theorem run_mkP {P : Prg} {k f c np ns : Nat} {b : SL} {fl : List Nat} (h : P.fns f = .mk c ⟨np, ns, b⟩ fl) {ds : List D} (hl : ds.length + 1 = np) :
    P.run (k + 2) f ds = (exl (P.K k) b (.lm 0 :: entry (ns - 1) ds)).bind fun r => match r with
      | .nx δ => match look δ 0, slotsD δ fl with | .lm 0, some l => .ret (.ins c l) | _, _ => .bad
      | _ => .bad := by
  unfold Prg.run
  rw [h]
  dsimp only
  unfold runMk
  rw [decide_eq_true hl, need_true]
  try rfl
end Dp
namespace Dp
open PySem
/-- a value that repr may show: its depth, its width -/
def rkD (d : D) (a b : Nat) : Prop := ∃ p, d.py = some p ∧ rk p = true ∧ p.depth ≤ a ∧ wt p ≤ b
theorem rkD_all : ∀ {l : List D} {a b : Nat}, (∀ d ∈ l, rkD d a b) → ∃ ps, D.pys l = some ps ∧ rks ps = true ∧ PyData.depthAll ps ≤ a ∧ wts ps ≤ l.length * (b + 2)
  | [], a, b, _ => ⟨[], by simp only [D.pys], rfl, by simp only [PyData.depthAll]; exact Nat.zero_le _, Nat.zero_le _⟩
  | d :: l, a, b, h => by
    obtain ⟨p, h1, h2, h3, h4⟩ := h d List.mem_cons_self
    obtain ⟨ps, k1, k2, k3, k4⟩ := rkD_all (l := l) fun d hd => h d (List.mem_cons_of_mem _ hd)
    refine ⟨p :: ps, by simp only [D.pys, h1, k1], ?_, ?_, ?_⟩
    · show (rk p && rks ps) = true
      rw [h2, k2]; rfl
    · simp only [PyData.depthAll]; omega
    · show wt p + 2 + wts ps ≤ (l.length + 1) * (b + 2)
      rw [Nat.add_mul]; omega
theorem rkD_tup {l : List D} {a b : Nat} (h : ∀ d ∈ l, rkD d a b) : rkD (.tup l) (a + 1) (l.length * (b + 2) + 3) := by
  obtain ⟨ps, k1, k2, k3, k4⟩ := rkD_all h
  refine ⟨.tuple ps, by simp only [D.py, k1, Option.map_some], k2, by simp only [PyData.depth]; omega, ?_⟩
  show wts ps + 3 ≤ _
  omega
theorem rkD_lst {l : List D} {a b : Nat} (h : ∀ d ∈ l, rkD d a b) : rkD (.lst l) (a + 1) (l.length * (b + 2) + 2) := by
  obtain ⟨ps, k1, k2, k3, k4⟩ := rkD_all h
  refine ⟨.list ps, by simp only [D.py, k1, Option.map_some], k2, by simp only [PyData.depth]; omega, ?_⟩
  show wts ps + 2 ≤ _
  omega
theorem rkD_int {i : Int} (h : i.natAbs < 2 ^ 1900) : rkD (.int i) 0 2000 := by
  refine ⟨.int i, by simp only [D.py], ?_, by simp only [PyData.depth]; exact Nat.le_refl _, Nat.le_refl _⟩
  show decide (i.natAbs.log2 < 1920) = true
  refine decide_eq_true ?_
  by_cases z : i.natAbs = 0
  · rw [z]; decide
  · exact (Nat.log2_lt z).mpr (Nat.lt_trans h (Nat.pow_lt_pow_right (by decide) (by decide)))
theorem rkD_non : rkD .non 0 2000 := ⟨.none, by simp only [D.py], rfl, by simp only [PyData.depth]; exact Nat.le_refl _, by show 5 ≤ 2000; decide⟩
theorem rkD_mono {d : D} {a b a' b' : Nat} (h : rkD d a b) (h1 : a ≤ a') (h2 : b ≤ b') : rkD d a' b' := let ⟨p, k1, k2, k3, k4⟩ := h; ⟨p, k1, k2, Nat.le_trans k3 h1, Nat.le_trans k4 h2⟩
theorem rOk_lst {l : List D} {a b : Nat} (h : ∀ d ∈ l, rkD d a b) (ha : a < 60) (hb : l.length * (b + 2) + 2 ≤ 16000000) : rOk (.lst l) = true := by
  obtain ⟨p, k1, k2, k3, k4⟩ := rkD_lst h
  unfold rOk
  rw [k1]
  show (true && (rk p && (Nat.ble p.depth 60 && Nat.ble (wt p) 16000000))) = true
  rw [k2, Nat.ble_eq_true_of_le (Nat.le_trans k3 ha), Nat.ble_eq_true_of_le (Nat.le_trans k4 hb)]; rfl
end Dp
namespace Dp
open PySem
section
variable (K : C) (δ : Env)
@[simp] theorem exl_seto (i : Nat) (e : E) (l : SL) : exl K (.cons (.set i true e) l) δ = (ev K e δ).bind fun d => match d with | .lst xs => exl K l (δ.set i (.own xs)) | _ => .bad := by
  rw [exl_cons]
  show ((ev K e δ).bind fun d => (take δ i true d).bind fun δ' => T.ret (Fl.nx δ')).bind _ = _
  rw [bind_bind]
  congr 1
  funext d
  cases d <;> rfl
@[simp] theorem exl_app (i : Nat) (e : E) (l : SL) : exl K (.cons (.app i e) l) δ = match look δ i with | .own xs => (ev K e δ).bind fun d => .need (decide (xs.length < lim)) (exl K l (δ.set i (.own (xs ++ [d])))) | _ => .bad := by
  rw [exl_cons]
  show T.bind (match look δ i with | .own xs => (ev K e δ).bind fun d => T.need (decide (xs.length < lim)) (.ret (Fl.nx (δ.set i (.own (xs ++ [d]))))) | _ => .bad) _ = _
  cases look δ i with
  | own xs =>
    dsimp only
    rw [bind_bind]
    congr 1
    funext d
    cases decide (xs.length < lim) <;> rfl
  | _ => rfl
@[simp] theorem exl_par (p : List (Nat × Bool)) (es : EL) (l : SL) : exl K (.cons (.par p es) l) δ = (evs K es δ).bind fun ds => (takes δ p ds).bind fun δ' => exl K l δ' := by
  rw [exl_cons]
  show ((evs K es δ).bind fun ds => (takes δ p ds).bind fun δ' => T.ret (Fl.nx δ')).bind _ = _
  rw [bind_bind]; simp only [bind_bind]; rfl
@[simp] theorem exl_unp (t : List Tg) (e : E) (l : SL) : exl K (.cons (.unp t e) l) δ = (ev K e δ).bind fun d => match asg (.t t) d δ with | some δ' => exl K l δ' | none => .bad := by
  rw [exl_cons]
  show ((ev K e δ).bind fun d => match asg (.t t) d δ with | some δ' => T.ret (Fl.nx δ') | none => .bad).bind _ = _
  rw [bind_bind]
  congr 1
  funext d
  cases asg (.t t) d δ <;> rfl
end
/-- how a turn may end: it goes on, or the def's value is there -/
def flI (I : Env → Prop) (P : Fl → Prop) : Fl → Prop
  | .nx δ => I δ
  | .ret d => P (.ret d)
  | _ => False
theorem ok_forLi {body : Env → T Fl} {t : Tg} {I : Nat → Env → Prop} {P : Fl → Prop} {E : Nat → List D → Prop} : ∀ (ds : List D) (k : Nat), (∀ i d, ds[i]? = some d → ∀ δ, I (k + i) δ → ∃ δ', asg t d δ = some δ' ∧ T.ok (body δ') (flI (I (k + i + 1)) P) E) → (∀ δ, I (k + ds.length) δ → P (.nx δ)) → ∀ δ, I k δ → T.ok (forL body t ds δ) P E
  | [], k, _, h0, δ, i => h0 δ i
  | d :: ds, k, h, h0, δ, i => by
    obtain ⟨δ', e, q⟩ := h 0 d rfl δ i
    unfold forL
    rw [e]
    refine T.ok_bind.mpr (T.ok_mono (fun f hf => ?_) (fun _ _ z => z) q)
    cases f with
    | nx δ2 =>
      refine ok_forLi ds (k + 1) (fun i d hd δ hi => ?_) (fun δ hi => h0 δ ?_) δ2 hf
      · have := h (i + 1) d (by simpa using hd) δ (by rw [show k + (i + 1) = k + 1 + i by omega]; exact hi)
        rw [show k + 1 + i + 1 = k + (i + 1) + 1 by omega]; exact this
      · rw [show k + (d :: ds).length = k + 1 + ds.length by simp; omega]; exact hi
    | ret d => exact hf
    | brk _ => exact hf.elim
    | ct _ => exact hf.elim
/-- a loop, then the rest -/
theorem ok_for {K : C} {t : Tg} {s : Src} {b l : SL} {δ : Env} {ds : List D} {I : Nat → Env → Prop} {P : Fl → Prop} {E : Nat → List D → Prop} (hs : evsrc K s δ = .ret ds) (hl : ds.length ≤ lim) (h0 : I 0 δ)
    (hb : ∀ i d, ds[i]? = some d → ∀ δ, I i δ → ∃ δ', asg t d δ = some δ' ∧ T.ok (exl K b δ') (flI (I (i + 1)) P) E) (hk : ∀ δ, I ds.length δ → T.ok (exl K l δ) P E) : T.ok (exl K (.cons (.for t s b) l) δ) P E := by
  rw [exl_cons]
  show T.ok (((evsrc K s δ).bind fun l => T.need (decide (l.length ≤ lim)) (forL (fun δ' => exl K b δ') t l δ)).bind _) P E
  rw [hs, bind_ret, decide_eq_true hl, need_true]
  refine T.ok_bind.mpr (ok_forLi (I := I) (P := fun f => T.ok (match f with | .nx δ' => exl K l δ' | .ret d => .ret (.ret d) | .brk δ' => .ret (.brk δ') | .ct δ' => .ret (.ct δ')) P E) ds 0 (fun i d hd δ hi => ?_) (fun δ hi => ?_) δ h0)
  · rw [Nat.zero_add] at hi ⊢
    obtain ⟨δ', e, q⟩ := hb i d hd δ hi
    exact ⟨δ', e, T.ok_mono (fun f hf => by cases f <;> exact hf) (fun _ _ z => z) q⟩
  · rw [Nat.zero_add] at hi
    exact hk δ hi
end Dp
namespace Dp
open PySem
/-- a comprehension with a test, draws among its items -/
theorem lcL_okc {c : Env → T Bool} {e : Env → T D} {t : Tg} {δ : Env} {R : D → Prop} : ∀ (l : List D), (∀ d ∈ l, ∃ δ', asg t d δ = some δ' ∧ ∃ b, c δ' = .ret b ∧ (b = true → T.ok (e δ') R (fun _ _ => False))) → T.ok (lcL c e t δ l) (fun ys => ys.length ≤ l.length ∧ ∀ y ∈ ys, R y) (fun _ _ => False)
  | [], _ => ⟨Nat.le_refl _, fun y h => by cases h⟩
  | d :: l, h => by
    obtain ⟨δ', h1, b, h2, h3⟩ := h d List.mem_cons_self
    have ih := lcL_okc (R := R) l fun d hd => h d (List.mem_cons_of_mem _ hd)
    unfold lcL
    rw [h1]
    dsimp only
    rw [h2, bind_ret]
    cases b with
    | true =>
      rw [if_pos rfl]
      refine T.ok_bind.mpr (T.ok_mono (fun y hy => ?_) (fun _ _ z => z) (h3 rfl))
      refine T.ok_bind.mpr (T.ok_mono (fun ys hys => ?_) (fun _ _ z => z) ih)
      refine ⟨by simp; exact hys.1, fun z hz => ?_⟩
      rcases List.mem_cons.mp hz with rfl | hz
      · exact hy
      · exact hys.2 z hz
    | false =>
      rw [if_neg (by decide)]
      exact T.ok_mono (fun ys hys => ⟨Nat.le_trans hys.1 (by simp), hys.2⟩) (fun _ _ z => z) ih
theorem lc_okc {K : C} {δ : Env} {own : List (Str × Nat)} {t : Tg} {s : Src} {c : EO} {e : E} {l : List D} (R : D → Prop) (hs : evsrc K s δ = .ret l) (hl : l.length ≤ lim)
    (h : ∀ d ∈ l, ∃ δ', asg t d (wipeE δ (own.map (·.2))) = some δ' ∧ ∃ b, evc K c δ' = .ret b ∧ (b = true → T.ok (ev K e δ') R (fun _ _ => False))) : T.ok (ev K (.lc own t s c e) δ) (fun y => ∃ ys, y = .lst ys ∧ ys.length ≤ l.length ∧ ∀ y ∈ ys, R y) (fun _ _ => False) := by
  rw [ev_lc, hs, bind_ret, decide_eq_true hl, need_true]
  exact T.ok_bind.mpr (T.ok_mono (fun ys hys => ⟨ys, rfl, hys⟩) (fun _ _ z => z) (ok_nox (lcL_okc l h)))
/-- what surely comes, comes -/
theorem ret_of_ok {α : Type} {t : T α} {a : α} {Q : α → Prop} {E : Nat → List D → Prop} (h : t = .ret a) (q : Q a) : T.ok t Q E := by rw [h]; exact q
end Dp
end

section
set_option Elab.async false
set_option linter.all false
set_option autoImplicit false
set_option maxRecDepth 100000
set_option maxHeartbeats 4000000
/-! Ok0: runs that end so; a block's statements one by one. -/
namespace Dp
open PySem
/-- a run that ends so: not to be looked into -/
structure Okb {α : Type} (t : T α) (Q : α → Prop) : Prop where
  ok : T.ok t Q (fun _ _ => False)
section
variable {α β : Type} {Q : α → Prop}
theorem okb_draw {n : Nat} {k : Nat → T α} (h0 : 0 < n) (h1 : n < 1000000000) (h : ∀ r, r < n → Okb (k r) Q) : Okb (.draw n k) Q :=
  ⟨h0, Nat.lt_trans h1 (by unfold T.most; decide +kernel), fun r hr => (h r hr).ok⟩
theorem okb_ret {a : α} (h : Q a) : Okb (.ret a) Q := ⟨h⟩
/-- one step of a run, by what is known of it -/
theorem okb_by {t : T β} {f : β → T α} {R : β → Prop} (h : Okb t R) (k : ∀ a, R a → Okb (f a) Q) : Okb (t.bind f) Q :=
  ⟨T.ok_bind.mpr (T.ok_mono (fun a z => (k a z).ok) (fun _ _ z => z) h.ok)⟩
end
section
variable {K : C} {s : S} {l : SL} {δ δ' : Env} {Q : Fl → Prop}
theorem okl_nil (h : Q (.nx δ)) : Okb (exl K .nil δ) Q := ⟨h⟩
theorem okl_step (e : exs K s δ = .ret (.nx δ')) (h : Okb (exl K l δ') Q) : Okb (exl K (.cons s l) δ) Q := by
  refine ⟨?_⟩
  rw [exl_cons, e]; exact h.ok
theorem okl_by {R : Fl → Prop} (h : Okb (exs K s δ) R) (k : ∀ fl, R fl → ∃ δ', fl = .nx δ' ∧ Okb (exl K l δ') Q) : Okb (exl K (.cons s l) δ) Q := by
  rw [exl_cons]
  refine okb_by h fun fl hf => ?_
  obtain ⟨δ', rfl, w⟩ := k fl hf
  exact w
theorem exs_set' {i : Nat} {e : E} {d : D} (h : ev K e δ = .ret d) : exs K (.set i false e) δ = .ret (.nx (δ.set i (.v d))) := by
  show ((ev K e δ).bind fun d => (take δ i false d).bind fun δ' => T.ret (Fl.nx δ')) = _
  rw [h]; rfl
theorem exs_skip {c : E} {a : SL} (h : ev K c δ = .ret (.bl false)) : exs K (.ife c a .nil) δ = .ret (.nx δ) := by
  rw [exs_ife h]; rfl
theorem ev_or_f {a r : E} (h : ev K a δ = .ret (.bl false)) (k : ev K r δ = .ret (.bl false)) : ev K (.or a r) δ = .ret (.bl false) := by
  rw [ev_or, h, bind_ret, asB_bl, bind_ret, k]; rfl
theorem ev_or1_f {a : E} (h : ev K a δ = .ret (.bl false)) : ev K (.or1 a) δ = .ret (.bl false) := by
  rw [ev_or1, h]; rfl
theorem ev_not_b {a : E} {b : Bool} (h : ev K a δ = .ret (.bl b)) : ev K (.not a) δ = .ret (.bl (!b)) := by
  rw [ev_not, h]; rfl
theorem eq_bl (a b : Bool) : cmpD .Eq (.bl a) (.bl b) = .ret (.bl (a == b)) := by cases a <;> cases b <;> kernel_rfl
theorem ne_bl (a b : Bool) : cmpD .NotEq (.bl a) (.bl b) = .ret (.bl (!(a == b))) := by cases a <;> cases b <;> kernel_rfl
theorem exs_unp {t : List Tg} {e : E} {d : D} (h : ev K e δ = .ret d) (h2 : asg (.t t) d δ = some δ') : exs K (.unp t e) δ = .ret (.nx δ') := by
  show ((ev K e δ).bind fun d => match asg (.t t) d δ with | some δ' => T.ret (Fl.nx δ') | none => .bad) = _
  rw [h, bind_ret, h2]
theorem ev_call1 {f : Nat} {a : E} {x : D} (h : ev K a δ = .ret x) : ev K (.call f (.cons a .nil)) δ = K.call f [x] := by
  rw [ev_call, evs_cons, h]; rfl
theorem ev_call2 {f : Nat} {a b : E} {x y : D} (h : ev K a δ = .ret x) (k : ev K b δ = .ret y) : ev K (.call f (.cons a (.cons b .nil))) δ = K.call f [x, y] := by
  rw [ev_call, evs_cons, h, bind_ret, evs_cons, k]; rfl
theorem ev_call3 {f : Nat} {a b c : E} {x y z : D} (h : ev K a δ = .ret x) (k : ev K b δ = .ret y) (l : ev K c δ = .ret z) : ev K (.call f (.cons a (.cons b (.cons c .nil)))) δ = K.call f [x, y, z] := by
  rw [ev_call, evs_cons, h, bind_ret, evs_cons, k, bind_ret, evs_cons, l]; rfl
theorem ev_callk1 {f : Nat} {s : Str} {a : E} {x : D} (h : ev K a δ = .ret x) : ev K (.callk f .nil (.cons s a .nil) [0]) δ = K.call f [x] := by
  rw [ev_callk, evs_nil, bind_ret, evk_cons, h]; rfl
theorem ev_callk2 {f : Nat} {s t : Str} {a b : E} {x y : D} (h : ev K a δ = .ret x) (k : ev K b δ = .ret y) : ev K (.callk f .nil (.cons s a (.cons t b .nil)) [1, 0]) δ = K.call f [y, x] := by
  rw [ev_callk, evs_nil, bind_ret, evk_cons, h, bind_ret, evk_cons, k]; rfl
theorem ev_tup2 {a b : E} {x y : D} (h : ev K a δ = .ret x) (k : ev K b δ = .ret y) : ev K (.tup (.cons a (.cons b .nil))) δ = .ret (.tup [x, y]) := by
  rw [ev_tup, evs_cons, h, bind_ret, evs_cons, k]; rfl
theorem evs_2 {a b : E} {x y : D} (h : ev K a δ = .ret x) (k : ev K b δ = .ret y) : evs K (.cons a (.cons b .nil)) δ = .ret [x, y] := by
  rw [evs_cons, h, bind_ret, evs_cons, k]; rfl
theorem ev_lst2 {a b : E} {x y : D} (h : ev K a δ = .ret x) (k : ev K b δ = .ret y) : ev K (.lst (.cons a (.cons b .nil))) δ = .ret (.lst [x, y]) := by
  rw [ev_lst, evs_2 h k]; rfl
end
section
variable {K : C} {s : S} {l : SL} {δ δ' : Env} {Q : Fl → Prop}
theorem okb_mono {α : Type} {t : T α} {Q R : α → Prop} (h : Okb t Q) (k : ∀ a, Q a → R a) : Okb t R := ⟨T.ok_mono k (fun _ _ z => z) h.ok⟩
theorem okb_of {α : Type} {t : T α} {a : α} {Q : α → Prop} (h : t = .ret a) (q : Q a) : Okb t Q := by rw [h]; exact ⟨q⟩
/-- a loop that always goes on -/
theorem okb_forL {body : Env → T Fl} {t : Tg} {I : Nat → Env → Prop} : ∀ (ds : List D) (k : Nat), (∀ i d, ds[i]? = some d → ∀ δ, I (k + i) δ → ∃ δ', asg t d δ = some δ' ∧ Okb (body δ') (fun fl => ∃ δ2, fl = .nx δ2 ∧ I (k + i + 1) δ2)) → ∀ δ, I k δ → Okb (forL body t ds δ) (fun fl => ∃ δ2, fl = .nx δ2 ∧ I (k + ds.length) δ2)
  | [], k, _, δ, i => ⟨⟨δ, rfl, i⟩⟩
  | d :: ds, k, h, δ, i => by
    obtain ⟨δ', e, q⟩ := h 0 d rfl δ i
    unfold forL
    rw [e]
    refine okb_by q fun fl hf => ?_
    obtain ⟨δ2, rfl, hi⟩ := hf
    refine okb_mono (okb_forL ds (k + 1) (fun i d hd δ hi => ?_) δ2 hi) fun fl hf => ?_
    · have := h (i + 1) d (by simpa using hd) δ (by rw [show k + (i + 1) = k + 1 + i by omega]; exact hi)
      rw [show k + 1 + i + 1 = k + (i + 1) + 1 by omega]; exact this
    · obtain ⟨δ3, rfl, hi⟩ := hf
      exact ⟨δ3, rfl, by rw [show k + (d :: ds).length = k + 1 + ds.length by simp; omega]; exact hi⟩
theorem okb_for {t : Tg} {s : Src} {b : SL} {ds : List D} (I : Nat → Env → Prop) (hs : evsrc K s δ = .ret ds) (hl : ds.length ≤ lim) (h0 : I 0 δ)
    (hb : ∀ i d, ds[i]? = some d → ∀ δ, I i δ → ∃ δ', asg t d δ = some δ' ∧ Okb (exl K b δ') (fun fl => ∃ δ2, fl = .nx δ2 ∧ I (i + 1) δ2)) : Okb (exs K (.for t s b) δ) (fun fl => ∃ δ2, fl = .nx δ2 ∧ I ds.length δ2) := by
  show Okb ((evsrc K s δ).bind fun l => T.need (decide (l.length ≤ lim)) (forL (fun δ' => exl K b δ') t l δ)) _
  rw [hs, bind_ret, decide_eq_true hl, need_true]
  have := okb_forL (body := fun δ' => exl K b δ') (t := t) (I := I) ds 0 (fun i d hd δ hi => by rw [Nat.zero_add] at hi ⊢; exact hb i d hd δ hi) δ h0
  rw [Nat.zero_add] at this
  exact this
theorem okb_set {i : Nat} {e : E} {R : D → Prop} (h : Okb (ev K e δ) R) : Okb (exs K (.set i false e) δ) (fun fl => ∃ d, R d ∧ fl = .nx (δ.set i (.v d))) := by
  show Okb ((ev K e δ).bind fun d => (take δ i false d).bind fun δ' => T.ret (Fl.nx δ')) _
  exact okb_by h fun d hd => ⟨⟨d, hd, rfl⟩⟩
theorem skip1 {c : E} {a : SL} (h : ev K c δ = .ret (.bl false)) : exl K (.cons (.ife c a .nil) .nil) δ = .ret (.nx δ) := by
  rw [exl_cons, exs_skip h]; rfl
theorem eqSn (x : Str) (h : PyData.strOk x = true) : cmpD .NotEq (.str x) (.str x) = .ret (.bl false) := eqS h (fun c => .bl (!c))
theorem caught_exc {ok : Nat → Bool} {c : Nat} (h : ok c = true) : (T.exc c [] : T D).caught ok = .ret (.exc c []) := by
  show (if ok c = true then T.ret (D.exc c []) else T.bad) = _
  rw [if_pos h]
theorem caught_ret {ok : Nat → Bool} {d : D} : (T.ret d).caught ok = .ret .non := rfl
end
section
variable {K : C} {s : S} {l : SL} {δ δ' : Env} {Q : Fl → Prop}
theorem exs_par2 {i j : Nat} {a b : E} {x y : D} (h : ev K a δ = .ret x) (k : ev K b δ = .ret y) : exs K (.par [(i, false), (j, false)] (.cons a (.cons b .nil))) δ = .ret (.nx ((δ.set i (.v x)).set j (.v y))) := by
  show ((evs K _ δ).bind fun ds => (takes δ [(i, false), (j, false)] ds).bind fun δ' => T.ret (Fl.nx δ')) = _
  rw [evs_2 h k]; rfl
theorem exs_if_t {c : E} {a b : SL} (h : ev K c δ = .ret (.bl true)) : exs K (.ife c a b) δ = exl K a δ := by
  rw [exs_ife h]; rfl
theorem exl_2 {s t : S} {δ1 δ2 : Env} (h : exs K s δ = .ret (.nx δ1)) (k : exs K t δ1 = .ret (.nx δ2)) : exl K (.cons s (.cons t .nil)) δ = .ret (.nx δ2) := by
  rw [exl_cons, h, bind_ret]
  show exl K (.cons t .nil) δ1 = _
  rw [exl_cons, k]; rfl
end
theorem zipD_get : ∀ (a b : List D) (i : Nat) (d : D), (zipD a b)[i]? = some d → ∃ x y, a[i]? = some x ∧ b[i]? = some y ∧ d = .tup [x, y]
  | [], b, i, d, h => by simp [zipD] at h
  | x :: a, [], i, d, h => by simp [zipD] at h
  | x :: a, y :: b, 0, d, h => by simp [zipD] at h; exact ⟨x, y, rfl, rfl, h.symm⟩
  | x :: a, y :: b, i + 1, d, h => by
    have h : (zipD a b)[i]? = some d := by simpa [zipD] using h
    obtain ⟨p, q, h1, h2, h3⟩ := zipD_get a b i d h
    exact ⟨p, q, by simpa using h1, by simpa using h2, h3⟩
theorem zipD_len : ∀ (a b : List D), (zipD a b).length ≤ b.length
  | [], b => Nat.zero_le _
  | x :: a, [] => Nat.le_refl _
  | x :: a, y :: b => Nat.succ_le_succ (zipD_len a b)
theorem rokF {d : D} (h : rkD d 2 1000000) : rOk (.lst [d, d]) = true := by
  refine rOk_lst (a := 2) (b := 1000000) (fun e he => ?_) (by decide) (by simp)
  simp only [List.mem_cons, List.not_mem_nil, or_false, or_self] at he
  subst he; exact h
/-- parts of a term -/
def hd : SL → S
  | .cons s _ => s
  | .nil => .brk
def tl : SL → SL
  | .cons _ l => l
  | .nil => .nil
def fb : S → SL
  | .for _ _ b => b
  | _ => .nil
/-- a comprehension, item by item -/
theorem lcL_ix {e : Env → T D} {t : Tg} {δ : Env} : ∀ (ds ys : List D), ds.length = ys.length → (∀ (i : Nat) (d y : D), ds[i]? = some d → ys[i]? = some y → ∃ δ', asg t d δ = some δ' ∧ e δ' = .ret y) → lcL (fun _ => .ret true) e t δ ds = .ret ys
  | [], [], _, _ => rfl
  | [], _ :: _, h, _ => by cases h
  | _ :: _, [], h, _ => by cases h
  | d :: ds, y :: ys, h, k => by
    obtain ⟨δ', h1, h2⟩ := k 0 d y rfl rfl
    have ih := lcL_ix (e := e) (t := t) (δ := δ) ds ys (Nat.succ.inj h) fun i d y hd hy => k (i + 1) d y (by simpa using hd) (by simpa using hy)
    unfold lcL
    rw [h1]
    dsimp only
    rw [bind_ret, if_pos rfl, h2, bind_ret, ih, bind_ret]
theorem lc_ix {K : C} {δ : Env} {own : List (Str × Nat)} {t : Tg} {s : Src} {e : E} {ds : List D} (ys : List D) (hs : evsrc K s δ = .ret ds) (hl : ds.length ≤ lim) (hy : ds.length = ys.length)
    (h : ∀ (i : Nat) (d y : D), ds[i]? = some d → ys[i]? = some y → ∃ δ', asg t d (wipeE δ (own.map (·.2))) = some δ' ∧ ev K e δ' = .ret y) : ev K (.lc own t s .no e) δ = .ret (.lst ys) := by
  rw [ev_lc, hs, bind_ret, decide_eq_true hl, need_true]
  show ((T.nox (lcL (fun _ => T.ret true) (fun δ' => ev K e δ') t (wipeE δ (own.map (·.2))) ds)).bind fun ys => T.ret (D.lst ys)) = _
  rw [nox_of (lcL_ix ds ys hy h)]; rfl
end Dp
end

section
set_option maxHeartbeats 4000000
set_option Elab.async false
set_option linter.all false
set_option autoImplicit false
set_option maxRecDepth 100000
/-! Fr0: fractions in plain Lean; the loop of the greatest common divisor. -/
namespace Dp
open PySem
structure Fq where
  n : Int
  d : Int
namespace Fq
def D (f : Fq) : Dp.D := .tup [.int f.n, .int f.d]
def mk' (u l : Int) : Fq := ⟨u / (Int.gcd u l : Nat), l / (Int.gcd u l : Nat)⟩
def plus (a b : Fq) : Fq := mk' (a.n * b.d + b.n * a.d) (a.d * b.d)
def minus (a b : Fq) : Fq := mk' (a.n * b.d - b.n * a.d) (a.d * b.d)
def below (a b : Fq) : Bool := decide (a.n * b.d < b.n * a.d)
def sum (l : List Fq) : Fq := l.foldl plus ⟨0, 1⟩
/-- bounds of bits -/
structure bd (k : Nat) (f : Fq) : Prop where
  n : f.n.natAbs < 2 ^ k
  p : 0 < f.d
  d : f.d.natAbs < 2 ^ k
theorem bd.mono {k m : Nat} {f : Fq} (h : bd k f) (hk : k ≤ m) : bd m f :=
  have := Nat.pow_le_pow_right (show 0 < 2 by decide) hk
  ⟨Nat.lt_of_lt_of_le h.n this, h.p, Nat.lt_of_lt_of_le h.d this⟩
theorem div_abs (u : Int) {g : Nat} : (u / (g : Nat)).natAbs ≤ u.natAbs := by
  exact Int.natAbs_ediv_le_natAbs u g
theorem mk_bd {k : Nat} {u l : Int} (h1 : u.natAbs < 2 ^ k) (h2 : 0 < l) (h3 : l.natAbs < 2 ^ k) : bd k (mk' u l) := by
  refine ⟨Nat.lt_of_le_of_lt (div_abs u) h1, ?_, Nat.lt_of_le_of_lt (div_abs l) h3⟩
  have hd : ((Int.gcd u l : Nat) : Int) ∣ l := Int.gcd_dvd_right ..
  have hg : 0 < ((Int.gcd u l : Nat) : Int) := by
    have : 0 < Int.gcd u l := Int.gcd_pos_of_ne_zero_right _ (by omega)
    omega
  exact Int.ediv_pos_of_pos_of_dvd h2 (by omega) hd
theorem mul_abs {a b : Int} {i j : Nat} (h : a.natAbs < 2 ^ i) (k : b.natAbs < 2 ^ j) : (a * b).natAbs < 2 ^ (i + j) := by
  rw [Int.natAbs_mul, Nat.pow_add]
  exact Nat.mul_lt_mul'' h k
theorem add_abs {a b : Int} {i : Nat} (h : a.natAbs < 2 ^ i) (k : b.natAbs < 2 ^ i) : (a + b).natAbs < 2 ^ (i + 1) := by
  rw [Nat.pow_succ]; omega
theorem sub_abs {a b : Int} {i : Nat} (h : a.natAbs < 2 ^ i) (k : b.natAbs < 2 ^ i) : (a - b).natAbs < 2 ^ (i + 1) := by
  rw [Nat.pow_succ]; omega
theorem plus_bd {i j : Nat} {a b : Fq} (h : bd i a) (k : bd j b) : bd (i + j + 1) (plus a b) := by
  refine mk_bd (add_abs (mul_abs h.n k.d) (by rw [Nat.add_comm]; exact mul_abs k.n h.d)) (Int.mul_pos h.p k.p) ?_
  exact Nat.lt_of_lt_of_le (mul_abs h.d k.d) (Nat.pow_le_pow_right (by decide) (by omega))
theorem minus_bd {i j : Nat} {a b : Fq} (h : bd i a) (k : bd j b) : bd (i + j + 1) (minus a b) := by
  refine mk_bd (sub_abs (mul_abs h.n k.d) (by rw [Nat.add_comm]; exact mul_abs k.n h.d)) (Int.mul_pos h.p k.p) ?_
  exact Nat.lt_of_lt_of_le (mul_abs h.d k.d) (Nat.pow_le_pow_right (by decide) (by omega))
theorem foldl_bd {k : Nat} : ∀ (l : List Fq) (a : Fq) (i : Nat), bd i a → (∀ f ∈ l, bd k f) → bd (i + l.length * (k + 1)) (l.foldl plus a)
  | [], a, i, h, _ => h.mono (Nat.le_add_right _ _)
  | f :: l, a, i, h, hl => by
    have := foldl_bd l (plus a f) (i + k + 1) (plus_bd h (hl f List.mem_cons_self)) fun g hg => hl g (List.mem_cons_of_mem _ hg)
    refine this.mono ?_
    rw [List.length_cons, Nat.succ_mul]; omega
theorem sum_bd {k m : Nat} {l : List Fq} (h : ∀ f ∈ l, bd k f) (hl : l.length ≤ m) : bd (1 + m * (k + 1)) (sum l) := by
  refine (foldl_bd (k := k) l ⟨0, 1⟩ 1 ⟨by decide, by decide, by decide⟩ h).mono ?_
  exact Nat.add_le_add_left (Nat.mul_le_mul_right _ hl) _
end Fq
/-! ### the loop -/
theorem gcd_wh {c : Env → T Bool} {b : Env → T Fl} (hc : ∀ x y : Nat, c [.v (.int (x : Nat)), .v (.int (y : Nat))] = .ret (decide (y ≠ 0))) (hb : ∀ x y : Nat, y ≠ 0 → b [.v (.int (x : Nat)), .v (.int (y : Nat))] = .ret (.nx [.v (.int (y : Nat)), .v (.int ((x % y : Nat) : Nat))])) :
    ∀ (k n x y : Nat), y < 2 ^ k → 2 * k + 1 ≤ n → whL c b n [.v (.int (x : Nat)), .v (.int (y : Nat))] = .ret (.nx [.v (.int ((Nat.gcd x y : Nat) : Nat)), .v (.int ((0 : Nat) : Nat))]) := by
  have stop : ∀ n x : Nat, 1 ≤ n → whL c b n [.v (.int (x : Nat)), .v (.int ((0 : Nat) : Nat))] = .ret (.nx [.v (.int (x : Nat)), .v (.int ((0 : Nat) : Nat))]) := fun n x hn => by
    obtain ⟨m, rfl⟩ : ∃ m, n = m + 1 := ⟨n - 1, by omega⟩
    show ((c _).bind _) = _
    rw [hc]; rfl
  have go : ∀ n x y : Nat, y ≠ 0 → whL c b (n + 1) [.v (.int (x : Nat)), .v (.int (y : Nat))] = whL c b n [.v (.int (y : Nat)), .v (.int ((x % y : Nat) : Nat))] := fun n x y hy => by
    show ((c _).bind _) = _
    rw [hc, bind_ret, decide_eq_true hy, if_pos rfl, hb x y hy]; rfl
  intro k
  induction k with
  | zero =>
    intro n x y h hn
    have : y = 0 := by simpa using h
    subst this
    rw [stop n x (by omega), Nat.gcd_zero_right]
  | succ k ih =>
    intro n x y h hn
    by_cases hy : y = 0
    · subst hy; rw [stop n x (by omega), Nat.gcd_zero_right]
    · obtain ⟨m, rfl⟩ : ∃ m, n = m + 2 := ⟨n - 2, by omega⟩
      rw [go (m + 1) x y hy]
      by_cases hr : x % y = 0
      · rw [hr, stop (m + 1) y (by omega)]
        rw [Nat.gcd_comm x y, Nat.gcd_rec y x, hr, Nat.gcd_zero_left]
      · rw [go m y (x % y) hr, ih m (x % y) (y % (x % y)) ?_ (by omega)]
        · congr 6
          rw [Nat.gcd_comm x y, Nat.gcd_rec y x, Nat.gcd_comm (x % y) y, Nat.gcd_comm y (x % y), Nat.gcd_rec (x % y) y, Nat.gcd_comm]
        · have h1 : x % y < y := Nat.mod_lt _ (by omega)
          have h2 : y % (x % y) < x % y := Nat.mod_lt _ (by omega)
          have h3 : y % (x % y) + x % y ≤ y := by
            have := Nat.mod_add_div y (x % y)
            have h4 : 1 ≤ y / (x % y) := (Nat.one_le_div_iff (by omega)).mpr (by omega)
            have h5 : x % y ≤ (x % y) * (y / (x % y)) := Nat.le_mul_of_pos_right _ h4
            omega
          rw [Nat.pow_succ] at h; omega
/-! ### loops that surely come to something -/
theorem forL_eq {body : Env → T Fl} {t : Tg} {I : Nat → Env → Prop} : ∀ (ds : List D) (k : Nat), (∀ i d, ds[i]? = some d → ∀ δ, I (k + i) δ → ∃ δ' δ2, asg t d δ = some δ' ∧ body δ' = .ret (.nx δ2) ∧ I (k + i + 1) δ2) → ∀ δ, I k δ → ∃ δ3, forL body t ds δ = .ret (.nx δ3) ∧ I (k + ds.length) δ3
  | [], k, _, δ, i => ⟨δ, rfl, i⟩
  | d :: ds, k, h, δ, i => by
    obtain ⟨δ', δ2, e, q, hi⟩ := h 0 d rfl δ i
    obtain ⟨δ3, e3, h3⟩ := forL_eq (body := body) (t := t) ds (k + 1) (fun i d hd δ hi => by
      have := h (i + 1) d (by simpa using hd) δ (by rw [show k + (i + 1) = k + 1 + i by omega]; exact hi)
      rw [show k + 1 + i + 1 = k + (i + 1) + 1 by omega]; exact this) δ2 hi
    refine ⟨δ3, ?_, by rw [show k + (d :: ds).length = k + 1 + ds.length by simp; omega]; exact h3⟩
    unfold forL
    rw [e]
    dsimp only
    rw [q, bind_ret]
    exact e3
section
variable {K : C} {s : S} {l : SL} {δ δ' : Env}
theorem exl_for_eq {t : Tg} {sr : Src} {b : SL} {ds : List D} (I : Nat → Env → Prop) (hs : evsrc K sr δ = .ret ds) (hl : ds.length ≤ lim) (h0 : I 0 δ)
    (hb : ∀ i d, ds[i]? = some d → ∀ δ, I i δ → ∃ δ' δ2, asg t d δ = some δ' ∧ exl K b δ' = .ret (.nx δ2) ∧ I (i + 1) δ2) : ∃ δ3, I ds.length δ3 ∧ exl K (.cons (.for t sr b) l) δ = exl K l δ3 := by
  obtain ⟨δ3, e3, h3⟩ := forL_eq (body := fun δ' => exl K b δ') (t := t) (I := I) ds 0 (fun i d hd δ hi => by rw [Nat.zero_add] at hi ⊢; exact hb i d hd δ hi) δ h0
  rw [Nat.zero_add] at h3
  refine ⟨δ3, h3, ?_⟩
  rw [exl_cons]
  show (((evsrc K sr δ).bind fun l => T.need (decide (l.length ≤ lim)) (forL (fun δ' => exl K b δ') t l δ)).bind _) = _
  rw [hs, bind_ret, decide_eq_true hl, need_true, e3, bind_ret]
theorem exl_wh (c : E) (b : SL) : exl K (.cons (.wh c b) l) δ = (whL (fun δ' => (ev K c δ').bind asB) (fun δ' => exl K b δ') wturn δ).bind fun f => match f with
      | .nx δ' => exl K l δ'
      | .ret d => .ret (.ret d)
      | .brk δ' => .ret (.brk δ')
      | .ct δ' => .ret (.ct δ') := rfl
end
theorem bi_abs (i : Int) : biD .abs [.int i] = .ret (.int (i.natAbs : Nat)) := by
  show T.ret (D.int (if i < 0 then -i else i)) = _
  split <;> (congr 2; omega)
@[simp] theorem bi_int (i : Int) : biD .int [.int i] = .ret (.int i) := rfl
theorem ok1_of {i : Int} (h : i.natAbs < 2 ^ 3000) : ok1 i = true := by
  refine decide_eq_true ?_
  by_cases z : i.natAbs = 0
  · rw [z]; decide
  · exact (Nat.log2_lt z).mpr (Nat.lt_trans h (Nat.pow_lt_pow_right (by decide) (by decide)))
theorem mul_ok {a b : Int} (ha : a.natAbs < 2 ^ 3000) (hb : b.natAbs < 2 ^ 3000) : opD .Mult (.int a) (.int b) = .ret (.int (a * b)) := by
  rw [op_mulI, ok1_of ha, ok1_of hb]; rfl
theorem fdiv_ok (u : Int) {g : Nat} (h0 : 0 < g) (h : g < 2 ^ 3000) : opD .FloorDiv (.int u) (.int (g : Nat)) = .ret (.int (u / (g : Nat))) := by
  rw [op_divI, ok1_of (by simpa using h), decide_eq_true (by omega : (0 : Int) < (g : Nat))]; rfl
theorem foldl_take {α β : Type} (f : α → β → α) (a : α) {l : List β} {k : Nat} {b : β} (h : l[k]? = some b) : (l.take (k + 1)).foldl f a = f ((l.take k).foldl f a) b := by
  rw [List.take_add_one, h]
  simp [List.foldl_append]
end Dp
end

section
set_option Elab.async false
set_option linter.all false
set_option maxRecDepth 100000
set_option maxHeartbeats 0
namespace Lw
open PySem Dp
def top (i : Nat) : Stmt := PySem.Challenge.pw_swapheld_k04_whole_priced_and_renamed.main.body.getD i (.Pass ⟨0, 0, 0, 0⟩)
def meth (i j : Nat) : Stmt := match top i with
  | .ClassDef _ _ _ b _ _ _ _ _ _ _ => b.getD j (.Pass ⟨0, 0, 0, 0⟩)
  | s => s
def gl : List (Str × GV) := [(("is_whole" : PySem.Str), Dp.GV.fn 0), (("is_number" : PySem.Str), Dp.GV.fn 1), (("is_int" : PySem.Str), Dp.GV.fn 2), (("common" : PySem.Str), Dp.GV.fn 3), (("is_fraction" : PySem.Str), Dp.GV.fn 4), (("lowest" : PySem.Str), Dp.GV.fn 5), (("summed" : PySem.Str), Dp.GV.fn 6), (("lessened" : PySem.Str), Dp.GV.fn 7), (("below" : PySem.Str), Dp.GV.fn 8), (("total" : PySem.Str), Dp.GV.fn 9), (("need_many" : PySem.Str), Dp.GV.fn 10), (("number_at" : PySem.Str), Dp.GV.fn 11), (("lot_by" : PySem.Str), Dp.GV.fn 12), (("are_worths" : PySem.Str), Dp.GV.fn 13), (("need_table" : PySem.Str), Dp.GV.fn 14), (("are_prices" : PySem.Str), Dp.GV.fn 15), (("need_prices" : PySem.Str), Dp.GV.fn 16), (("gain_at" : PySem.Str), Dp.GV.fn 17), (("best_gain" : PySem.Str), Dp.GV.fn 18), (("best_lots" : PySem.Str), Dp.GV.fn 19), (("are_whole_prices" : PySem.Str), Dp.GV.fn 20), (("priced" : PySem.Str), Dp.GV.fn 21), (("renamed" : PySem.Str), Dp.GV.fn 22), (("_law_blended" : PySem.Str), Dp.GV.fn 23), (("_law_draw" : PySem.Str), Dp.GV.fn 24), (("_law_pick" : PySem.Str), Dp.GV.fn 25), (("_law_mixed" : PySem.Str), Dp.GV.fn 26), (("_law_tb_number" : PySem.Str), Dp.GV.fn 27), (("_law_tb_lots" : PySem.Str), Dp.GV.fn 28), (("_law_tb_prices" : PySem.Str), Dp.GV.fn 29), (("_law_tb_dear" : PySem.Str), Dp.GV.fn 30), (("_law_tb_any" : PySem.Str), Dp.GV.fn 31), (("_law_tb_rising" : PySem.Str), Dp.GV.fn 32), (("_law_tb_cover" : PySem.Str), Dp.GV.fn 33), (("_law_tb_cut" : PySem.Str), Dp.GV.fn 34), (("_law_tb_holes" : PySem.Str), Dp.GV.fn 35), (("_law_tb_table" : PySem.Str), Dp.GV.fn 36), (("_law_tb_made" : PySem.Str), Dp.GV.fn 37), (("_law_tb_named" : PySem.Str), Dp.GV.fn 38), (("_law_tb_no_table" : PySem.Str), Dp.GV.fn 39), (("_law_tk_kind" : PySem.Str), Dp.GV.fn 40), (("Table" : PySem.Str), Dp.GV.fn 41), (("SwapError" : PySem.Str), Dp.GV.cls 0), (("BadLot" : PySem.Str), Dp.GV.cls 1), (("BadMany" : PySem.Str), Dp.GV.cls 2), (("BadNames" : PySem.Str), Dp.GV.cls 3), (("BadPrices" : PySem.Str), Dp.GV.cls 4), (("BadTable" : PySem.Str), Dp.GV.cls 5), (("BadWorths" : PySem.Str), Dp.GV.cls 6), (("MOST_DIGITS" : PySem.Str), Dp.GV.con 0), (("MOST_THINGS" : PySem.Str), Dp.GV.con 1), (("MOST_WORTH" : PySem.Str), Dp.GV.con 2), (("_law_caught" : PySem.Str), Dp.GV.cau)]
def b0 : SL := SL.cons (S.ret (E.and (E.isi (E.v 0) Ty.int) (E.and (E.not (E.isi (E.v 0) Ty.bool)) (E.and1 (E.cmp2 CmpOp.Lt CmpOp.Lt (E.neg (E.op Operator.Pow (E.c (Cst.int 10)) (E.c (Cst.int 18)))) (E.v 0) (E.op Operator.Pow (E.c (Cst.int 10)) (E.c (Cst.int 18)))))))) SL.nil
def b1 : SL := SL.cons (S.ret (E.and (E.call 0 (EL.cons (E.v 0) EL.nil)) (E.and1 (E.cmp2 CmpOp.LtE CmpOp.LtE (E.v 1) (E.v 0) (E.v 2))))) SL.nil
def b2 : SL := SL.cons (S.ret (E.and (E.isi (E.v 0) Ty.int) (E.and (E.not (E.isi (E.v 0) Ty.bool)) (E.and1 (E.cmp CmpOp.LtE (E.bi BI.abs (EL.cons (E.v 0) EL.nil)) (E.bi BI.int (EL.cons (E.op Operator.Mult (E.c (Cst.str ("9"))) (E.g 0)) EL.nil))))))) SL.nil
def b3 : SL := SL.cons (S.par [(0, false), (1, false)] (EL.cons (E.bi BI.abs (EL.cons (E.v 0) EL.nil)) (EL.cons (E.bi BI.abs (EL.cons (E.v 1) EL.nil)) EL.nil))) (SL.cons (S.wh (E.cmp CmpOp.NotEq (E.v 1) (E.c (Cst.int 0))) (SL.cons (S.par [(0, false), (1, false)] (EL.cons (E.v 1) (EL.cons (E.op Operator.Mod (E.v 0) (E.v 1)) EL.nil))) SL.nil)) (SL.cons (S.ret (E.v 0)) SL.nil))
def b4 : SL := SL.cons (S.ife (E.or (E.not (E.isi (E.v 0) Ty.tuple)) (E.or (E.cmp CmpOp.NotEq (E.bi BI.len (EL.cons (E.v 0) EL.nil)) (E.c (Cst.int 2))) (E.or (E.not (E.call 2 (EL.cons (E.ix (E.v 0) (E.c (Cst.int 0))) EL.nil))) (E.or1 (E.not (E.call 2 (EL.cons (E.ix (E.v 0) (E.c (Cst.int 1))) EL.nil))))))) (SL.cons (S.ret (E.c (Cst.bl false))) SL.nil) SL.nil) (SL.cons (S.ret (E.and (E.cmp CmpOp.GtE (E.ix (E.v 0) (E.c (Cst.int 1))) (E.c (Cst.int 1))) (E.and1 (E.cmp CmpOp.Eq (E.call 3 (EL.cons (E.ix (E.v 0) (E.c (Cst.int 0))) (EL.cons (E.ix (E.v 0) (E.c (Cst.int 1))) EL.nil))) (E.c (Cst.int 1)))))) SL.nil)
def b5 : SL := SL.cons (S.set 2 false (E.ite (E.cmp CmpOp.Gt (E.v 1) (E.c (Cst.int 0))) (E.call 3 (EL.cons (E.v 0) (EL.cons (E.v 1) EL.nil))) (E.neg (E.call 3 (EL.cons (E.v 0) (EL.cons (E.v 1) EL.nil)))))) (SL.cons (S.ret (E.tup (EL.cons (E.op Operator.FloorDiv (E.v 0) (E.v 2)) (EL.cons (E.op Operator.FloorDiv (E.v 1) (E.v 2)) EL.nil)))) SL.nil)
def b6 : SL := SL.cons (S.ret (E.call 5 (EL.cons (E.op Operator.Add (E.op Operator.Mult (E.ix (E.v 0) (E.c (Cst.int 0))) (E.ix (E.v 1) (E.c (Cst.int 1)))) (E.op Operator.Mult (E.ix (E.v 1) (E.c (Cst.int 0))) (E.ix (E.v 0) (E.c (Cst.int 1))))) (EL.cons (E.op Operator.Mult (E.ix (E.v 0) (E.c (Cst.int 1))) (E.ix (E.v 1) (E.c (Cst.int 1)))) EL.nil)))) SL.nil
def b7 : SL := SL.cons (S.ret (E.call 5 (EL.cons (E.op Operator.Sub (E.op Operator.Mult (E.ix (E.v 0) (E.c (Cst.int 0))) (E.ix (E.v 1) (E.c (Cst.int 1)))) (E.op Operator.Mult (E.ix (E.v 1) (E.c (Cst.int 0))) (E.ix (E.v 0) (E.c (Cst.int 1))))) (EL.cons (E.op Operator.Mult (E.ix (E.v 0) (E.c (Cst.int 1))) (E.ix (E.v 1) (E.c (Cst.int 1)))) EL.nil)))) SL.nil
def b8 : SL := SL.cons (S.ret (E.cmp CmpOp.Lt (E.op Operator.Mult (E.ix (E.v 0) (E.c (Cst.int 0))) (E.ix (E.v 1) (E.c (Cst.int 1)))) (E.op Operator.Mult (E.ix (E.v 1) (E.c (Cst.int 0))) (E.ix (E.v 0) (E.c (Cst.int 1)))))) SL.nil
def b9 : SL := SL.cons (S.set 1 false (E.tup (EL.cons (E.c (Cst.int 0)) (EL.cons (E.c (Cst.int 1)) EL.nil)))) (SL.cons (S.for (Tg.n 2) (Src.e (E.v 0)) (SL.cons (S.set 1 false (E.call 6 (EL.cons (E.v 1) (EL.cons (E.v 2) EL.nil)))) SL.nil)) (SL.cons (S.ret (E.v 1)) SL.nil))
def b10 : SL := SL.cons (S.ife (E.not (E.call 1 (EL.cons (E.v 0) (EL.cons (E.c (Cst.int 1)) (EL.cons (E.g 1) EL.nil))))) (SL.cons (S.raise 2 EL.nil) SL.nil) SL.nil) SL.nil
def b11 : SL := SL.cons (S.ret (E.bi BI.sum (EL.cons (E.lc [(("thing"), 1)] (Tg.n 1) (Src.e (E.v 0)) EO.no (E.ix (E.tup (EL.cons (E.c (Cst.int 1)) (EL.cons (E.c (Cst.int 2)) (EL.cons (E.c (Cst.int 4)) (EL.cons (E.c (Cst.int 8)) (EL.cons (E.c (Cst.int 16)) (EL.cons (E.c (Cst.int 32)) EL.nil))))))) (E.v 1))) EL.nil))) SL.nil
def b12 : SL := SL.cons (S.par [(2, true), (3, false)] (EL.cons (E.lst EL.nil) (EL.cons (E.v 1) EL.nil))) (SL.cons (S.for (Tg.n 4) (Src.rng1 (E.v 0)) (SL.cons (S.ife (E.cmp CmpOp.Eq (E.op Operator.Mod (E.v 3) (E.c (Cst.int 2))) (E.c (Cst.int 1))) (SL.cons (S.app 2 (E.v 4)) SL.nil) SL.nil) (SL.cons (S.set 3 false (E.op Operator.FloorDiv (E.v 3) (E.c (Cst.int 2)))) SL.nil))) (SL.cons (S.ret (E.bi BI.tuple (EL.cons (E.b 2) EL.nil))) SL.nil))
def b13 : SL := SL.cons (S.ife (E.or (E.not (E.isi (E.v 1) Ty.tuple)) (E.or1 (E.cmp CmpOp.NotEq (E.bi BI.len (EL.cons (E.v 1) EL.nil)) (E.ix (E.tup (EL.cons (E.c (Cst.int 1)) (EL.cons (E.c (Cst.int 2)) (EL.cons (E.c (Cst.int 4)) (EL.cons (E.c (Cst.int 8)) (EL.cons (E.c (Cst.int 16)) (EL.cons (E.c (Cst.int 32)) (EL.cons (E.c (Cst.int 64)) EL.nil)))))))) (E.v 0))))) (SL.cons (S.ret (E.c (Cst.bl false))) SL.nil) SL.nil) (SL.cons (S.ife (E.not (E.bi BI.all (EL.cons (E.lc [(("worth"), 2)] (Tg.n 2) (Src.e (E.v 1)) EO.no (E.or (E.cmp CmpOp.Is (E.v 2) (E.c Cst.non)) (E.or1 (E.call 1 (EL.cons (E.v 2) (EL.cons (E.neg (E.g 2)) (EL.cons (E.g 2) EL.nil))))))) EL.nil))) (SL.cons (S.ret (E.c (Cst.bl false))) SL.nil) SL.nil) (SL.cons (S.ret (E.cmp CmpOp.NotEq (E.lc [(("worth"), 2)] (Tg.n 2) (Src.e (E.v 1)) (EO.e (E.cmp CmpOp.IsNot (E.v 2) (E.c Cst.non))) (E.c (Cst.int 1))) (E.lst EL.nil))) SL.nil))
def b14 : SL := SL.cons (S.ife (E.not (E.isi (E.v 0) (Ty.cls 7))) (SL.cons (S.raise 5 EL.nil) SL.nil) SL.nil) SL.nil
def b15 : SL := SL.cons (S.ret (E.and (E.isi (E.v 1) Ty.tuple) (E.and (E.cmp CmpOp.Eq (E.bi BI.len (EL.cons (E.v 1) EL.nil)) (E.v 0)) (E.and1 (E.bi BI.all (EL.cons (E.lc [(("price"), 2)] (Tg.n 2) (Src.e (E.v 1)) EO.no (E.call 4 (EL.cons (E.v 2) EL.nil))) EL.nil)))))) SL.nil
def b16 : SL := SL.cons (S.ife (E.not (E.call 15 (EL.cons (E.fld (E.v 0) ("many")) (EL.cons (E.v 1) EL.nil)))) (SL.cons (S.raise 4 EL.nil) SL.nil) SL.nil) SL.nil
def b17 : SL := SL.cons (S.set 3 false (E.call 9 (EL.cons (E.lc [(("thing"), 4)] (Tg.n 4) (Src.e (E.call 12 (EL.cons (E.fld (E.v 0) ("many")) (EL.cons (E.v 2) EL.nil)))) EO.no (E.ix (E.v 1) (E.v 4))) EL.nil))) (SL.cons (S.ret (E.call 7 (EL.cons (E.tup (EL.cons (E.ix (E.fld (E.v 0) ("worths")) (E.v 2)) (EL.cons (E.c (Cst.int 1)) EL.nil))) (EL.cons (E.v 3) EL.nil)))) SL.nil)
def b18 : SL := SL.cons (S.ex (E.call 14 (EL.cons (E.v 0) EL.nil))) (SL.cons (S.ex (E.call 16 (EL.cons (E.v 0) (EL.cons (E.v 1) EL.nil)))) (SL.cons (S.set 2 false (E.lc [(("at"), 3), (("worth"), 4)] (Tg.t [Tg.n 3, Tg.n 4]) (Src.enum (E.fld (E.v 0) ("worths"))) (EO.e (E.cmp CmpOp.IsNot (E.v 4) (E.c Cst.non))) (E.call 17 (EL.cons (E.v 0) (EL.cons (E.v 1) (EL.cons (E.v 3) EL.nil)))))) (SL.cons (S.set 5 false (E.ix (E.v 2) (E.c (Cst.int 0)))) (SL.cons (S.for (Tg.n 6) (Src.e (E.v 2)) (SL.cons (S.set 5 false (E.ite (E.call 8 (EL.cons (E.v 5) (EL.cons (E.v 6) EL.nil))) (E.v 6) (E.v 5))) SL.nil)) (SL.cons (S.ret (E.v 5)) SL.nil)))))
def b19 : SL := SL.cons (S.par [(2, false), (3, true)] (EL.cons (E.call 18 (EL.cons (E.v 0) (EL.cons (E.v 1) EL.nil))) (EL.cons (E.lst EL.nil) EL.nil))) (SL.cons (S.for (Tg.t [Tg.n 4, Tg.n 5]) (Src.enum (E.fld (E.v 0) ("worths"))) (SL.cons (S.ife (E.and (E.cmp CmpOp.IsNot (E.v 5) (E.c Cst.non)) (E.and1 (E.cmp CmpOp.Eq (E.call 17 (EL.cons (E.v 0) (EL.cons (E.v 1) (EL.cons (E.v 4) EL.nil)))) (E.v 2)))) (SL.cons (S.app 3 (E.call 12 (EL.cons (E.fld (E.v 0) ("many")) (EL.cons (E.v 4) EL.nil)))) SL.nil) SL.nil) SL.nil)) (SL.cons (S.ret (E.bi BI.tuple (EL.cons (E.b 3) EL.nil))) SL.nil))
def b20 : SL := SL.cons (S.ife (E.or (E.not (E.isi (E.v 1) Ty.tuple)) (E.or1 (E.cmp CmpOp.NotEq (E.bi BI.len (EL.cons (E.v 1) EL.nil)) (E.v 0)))) (SL.cons (S.ret (E.c (Cst.bl false))) SL.nil) SL.nil) (SL.cons (S.ret (E.bi BI.all (EL.cons (E.lc [(("price"), 2)] (Tg.n 2) (Src.e (E.v 1)) EO.no (E.call 1 (EL.cons (E.v 2) (EL.cons (E.neg (E.g 2)) (EL.cons (E.g 2) EL.nil))))) EL.nil))) SL.nil)
def b21 : SL := SL.cons (S.ex (E.call 14 (EL.cons (E.v 0) EL.nil))) (SL.cons (S.ife (E.not (E.call 20 (EL.cons (E.fld (E.v 0) ("many")) (EL.cons (E.v 1) EL.nil)))) (SL.cons (S.raise 4 EL.nil) SL.nil) SL.nil) (SL.cons (S.set 2 true (E.lst EL.nil)) (SL.cons (S.for (Tg.t [Tg.n 3, Tg.n 4]) (Src.enum (E.fld (E.v 0) ("worths"))) (SL.cons (S.set 5 false (E.bi BI.sum (EL.cons (E.lc [(("thing"), 6)] (Tg.n 6) (Src.e (E.call 12 (EL.cons (E.fld (E.v 0) ("many")) (EL.cons (E.v 3) EL.nil)))) EO.no (E.ix (E.v 1) (E.v 6))) EL.nil))) (SL.cons (S.app 2 (E.ite (E.cmp CmpOp.Is (E.v 4) (E.c Cst.non)) (E.c Cst.non) (E.op Operator.Sub (E.v 4) (E.v 5)))) SL.nil))) (SL.cons (S.ret (E.call 41 (EL.cons (E.fld (E.v 0) ("many")) (EL.cons (E.bi BI.tuple (EL.cons (E.b 2) EL.nil)) EL.nil)))) SL.nil))))
def b22 : SL := SL.cons (S.ex (E.call 14 (EL.cons (E.v 0) EL.nil))) (SL.cons (S.set 2 false (E.and (E.isi (E.v 1) Ty.tuple) (E.and1 (E.bi BI.all (EL.cons (E.lc [(("name"), 3)] (Tg.n 3) (Src.e (E.v 1)) EO.no (E.call 1 (EL.cons (E.v 3) (EL.cons (E.c (Cst.int 0)) (EL.cons (E.op Operator.Sub (E.fld (E.v 0) ("many")) (E.c (Cst.int 1))) EL.nil))))) EL.nil))))) (SL.cons (S.ife (E.or (E.not (E.v 2)) (E.or1 (E.cmp CmpOp.NotEq (E.bi BI.sorted (EL.cons (E.v 1) EL.nil)) (E.seqR false (Src.rng1 (E.fld (E.v 0) ("many"))))))) (SL.cons (S.raise 3 EL.nil) SL.nil) SL.nil) (SL.cons (S.set 4 true (E.op Operator.Mult (E.lst (EL.cons (E.c Cst.non) EL.nil)) (E.bi BI.len (EL.cons (E.fld (E.v 0) ("worths")) EL.nil)))) (SL.cons (S.for (Tg.t [Tg.n 5, Tg.n 6]) (Src.enum (E.fld (E.v 0) ("worths"))) (SL.cons (S.sto 4 (E.call 11 (EL.cons (E.bi BI.tuple (EL.cons (E.lc [(("thing"), 7)] (Tg.n 7) (Src.e (E.call 12 (EL.cons (E.fld (E.v 0) ("many")) (EL.cons (E.v 5) EL.nil)))) EO.no (E.ix (E.v 1) (E.v 7))) EL.nil)) EL.nil)) (E.v 6)) SL.nil)) (SL.cons (S.ret (E.call 41 (EL.cons (E.fld (E.v 0) ("many")) (EL.cons (E.bi BI.tuple (EL.cons (E.b 4) EL.nil)) EL.nil)))) SL.nil)))))
def b23 : SL := SL.cons (S.tick 0 1 2) (SL.cons (S.for (Tg.n 3) (Src.e (E.lst (EL.cons (E.c (Cst.int 2147482661)) (EL.cons (E.c (Cst.int 2147482621)) (EL.cons (E.c (Cst.int 2147482591)) EL.nil))))) (SL.cons (S.set 4 false (E.op Operator.Add (E.op Operator.Mult (E.c (Cst.int 39373)) (E.v 1)) (E.op Operator.FloorDiv (E.v 3) (E.c (Cst.int 67))))) (SL.cons (S.for (Tg.n 5) (Src.stc 0) (SL.cons (S.set 4 false (E.op Operator.Mod (E.bi BI.int (EL.cons (E.op Operator.Add (E.op Operator.Add (E.op Operator.Mult (E.v 4) (E.c (Cst.int 69621))) (E.v 5)) (E.v 1)) EL.nil)) (E.v 3))) SL.nil)) (SL.cons (S.set 2 false (E.op Operator.Add (E.op Operator.Mult (E.v 2) (E.c (Cst.int 2147483647))) (E.op Operator.Mod (E.bi BI.int (EL.cons (E.op Operator.Pow (E.v 4) (E.c (Cst.int 5))) EL.nil)) (E.v 3)))) SL.nil)))) (SL.cons (S.ret (E.v 2)) SL.nil))
def b24 : SL := SL.cons (S.ife (E.cmp CmpOp.Eq (E.stv 0) (E.c (Cst.int 0))) (SL.cons (S.stw 0 (E.stnx 0 (E.call 23 (EL.cons (E.v 0) EL.nil)))) SL.nil) SL.nil) (SL.cons (S.set 2 false (E.op Operator.Mod (E.bi BI.int (EL.cons (E.stv 0) EL.nil)) (E.v 1))) (SL.cons (S.stw 0 (E.op Operator.FloorDiv (E.stv 0) (E.v 1))) (SL.cons (S.ret (E.v 2)) SL.nil)))
def b25 : SL := SL.cons (S.ret (E.ix (E.v 1) (E.call 24 (EL.cons (E.v 0) (EL.cons (E.bi BI.len (EL.cons (E.v 1) EL.nil)) EL.nil))))) SL.nil
def b26 : SL := SL.cons (S.par [(2, true), (3, true)] (EL.cons (E.bi BI.list (EL.cons (E.v 1) EL.nil)) (EL.cons (E.lst EL.nil) EL.nil))) (SL.cons (S.wh (E.cmp CmpOp.NotEq (E.b 2) (E.lst EL.nil)) (SL.cons (S.pop 3 2 (E.call 24 (EL.cons (E.v 0) (EL.cons (E.bi BI.len (EL.cons (E.b 2) EL.nil)) EL.nil)))) SL.nil)) (SL.cons (S.reto 3) SL.nil))
def b27 : SL := SL.cons (S.ret (E.bi BI.sum (EL.cons (E.lc [(("thing"), 1)] (Tg.n 1) (Src.e (E.v 0)) EO.no (E.ix (E.tup (EL.cons (E.c (Cst.int 1)) (EL.cons (E.c (Cst.int 2)) (EL.cons (E.c (Cst.int 4)) (EL.cons (E.c (Cst.int 8)) (EL.cons (E.c (Cst.int 16)) (EL.cons (E.c (Cst.int 32)) EL.nil))))))) (E.v 1))) EL.nil))) SL.nil
def b28 : SL := SL.cons (S.set 1 false (E.lst (EL.cons (E.tup EL.nil) EL.nil))) (SL.cons (S.for (Tg.n 2) (Src.rng1 (E.v 0)) (SL.cons (S.set 1 false (E.op Operator.Add (E.v 1) (E.lc [(("lot"), 3)] (Tg.n 3) (Src.e (E.v 1)) EO.no (E.op Operator.Add (E.v 3) (E.tup (EL.cons (E.v 2) EL.nil)))))) SL.nil)) (SL.cons (S.ret (E.v 1)) SL.nil))
def b29 : SL := SL.cons (S.ret (E.bi BI.tuple (EL.cons (E.lc [(("thing"), 3)] (Tg.n 3) (Src.rng1 (E.v 1)) EO.no (E.op Operator.Sub (E.call 24 (EL.cons (E.v 0) (EL.cons (E.op Operator.Add (E.op Operator.Mult (E.c (Cst.int 2)) (E.v 2)) (E.c (Cst.int 1))) EL.nil))) (E.v 2))) EL.nil))) SL.nil
def b30 : SL := SL.cons (S.ret (E.bi BI.sum (EL.cons (E.lc [(("thing"), 2)] (Tg.n 2) (Src.e (E.v 1)) EO.no (E.ix (E.v 0) (E.v 2))) EL.nil))) SL.nil
def b31 : SL := SL.cons (S.ret (E.bi BI.tuple (EL.cons (E.lc [(("lot"), 3)] (Tg.n 3) (Src.e (E.call 28 (EL.cons (E.v 1) EL.nil))) EO.no (E.op Operator.Sub (E.call 24 (EL.cons (E.v 0) (EL.cons (E.op Operator.Add (E.op Operator.Mult (E.c (Cst.int 2)) (E.v 2)) (E.c (Cst.int 1))) EL.nil))) (E.v 2))) EL.nil))) SL.nil
def b32 : SL := SL.cons (S.set 3 true (E.lst EL.nil)) (SL.cons (S.for (Tg.n 4) (Src.e (E.call 28 (EL.cons (E.v 1) EL.nil))) (SL.cons (S.set 5 false (E.lc [(("at"), 6)] (Tg.n 6) (Src.rng1 (E.bi BI.len (EL.cons (E.v 4) EL.nil))) EO.no (E.ix (E.b 3) (E.call 27 (EL.cons (E.op Operator.Add (E.sl (E.v 4) EO.no (EO.e (E.v 6))) (E.sl (E.v 4) (EO.e (E.op Operator.Add (E.v 6) (E.c (Cst.int 1)))) EO.no)) EL.nil))))) (SL.cons (S.app 3 (E.ite (E.cmp CmpOp.NotEq (E.v 4) (E.tup EL.nil)) (E.op Operator.Add (E.bi BI.max (EL.cons (E.v 5) EL.nil)) (E.call 24 (EL.cons (E.v 0) (EL.cons (E.v 2) EL.nil)))) (E.c (Cst.int 0)))) SL.nil))) (SL.cons (S.ret (E.bi BI.tuple (EL.cons (E.b 3) EL.nil))) SL.nil))
def b33 : SL := SL.cons (S.set 3 false (E.op Operator.Add (E.c (Cst.int 1)) (E.call 24 (EL.cons (E.v 0) (EL.cons (E.c (Cst.int 5)) EL.nil))))) (SL.cons (S.set 4 false (E.lc [(("thing"), 6)] (Tg.n 6) (Src.rng1 (E.v 1)) EO.no (E.lc [(("spot"), 5)] (Tg.n 5) (Src.rng1 (E.v 3)) EO.no (E.call 24 (EL.cons (E.v 0) (EL.cons (E.c (Cst.int 2)) EL.nil)))))) (SL.cons (S.unp [Tg.n 7, Tg.n 8] (E.tup (EL.cons (E.lc [(("spot"), 5)] (Tg.n 5) (Src.rng1 (E.v 3)) EO.no (E.call 24 (EL.cons (E.v 0) (EL.cons (E.v 2) EL.nil)))) (EL.cons (E.call 29 (EL.cons (E.v 0) (EL.cons (E.v 1) (EL.cons (E.v 2) EL.nil)))) EL.nil)))) (SL.cons (S.set 9 true (E.lst EL.nil)) (SL.cons (S.for (Tg.n 10) (Src.e (E.call 28 (EL.cons (E.v 1) EL.nil))) (SL.cons (S.set 11 false (E.lc [(("spot"), 5)] (Tg.n 5) (Src.rng1 (E.v 3)) (EO.e (E.cmp CmpOp.NotEq (E.lc [(("thing"), 6)] (Tg.n 6) (Src.e (E.v 10)) (EO.e (E.cmp CmpOp.Eq (E.ix (E.ix (E.v 4) (E.v 6)) (E.v 5)) (E.c (Cst.int 1)))) (E.c (Cst.int 1))) (E.lst EL.nil))) (E.ix (E.v 7) (E.v 5)))) (SL.cons (S.app 9 (E.op Operator.Sub (E.bi BI.sum (EL.cons (E.v 11) EL.nil)) (E.call 30 (EL.cons (E.v 8) (EL.cons (E.v 10) EL.nil))))) SL.nil))) (SL.cons (S.ret (E.bi BI.tuple (EL.cons (E.b 9) EL.nil))) SL.nil)))))
def b34 : SL := SL.cons (S.set 3 false (E.lst EL.nil)) (SL.cons (S.for (Tg.n 4) (Src.rng1 (E.v 1)) (SL.cons (S.set 3 false (E.op Operator.Add (E.v 3) (E.lc [(("other"), 5)] (Tg.n 5) (Src.rng1 (E.v 1)) (EO.e (E.cmp CmpOp.NotEq (E.v 5) (E.v 4))) (E.tup (EL.cons (E.v 4) (EL.cons (E.v 5) (EL.cons (E.op Operator.Mult (E.call 24 (EL.cons (E.v 0) (EL.cons (E.v 2) EL.nil))) (E.call 24 (EL.cons (E.v 0) (EL.cons (E.c (Cst.int 2)) EL.nil)))) EL.nil))))))) SL.nil)) (SL.cons (S.par [(6, false), (7, true)] (EL.cons (E.call 29 (EL.cons (E.v 0) (EL.cons (E.v 1) (EL.cons (E.v 2) EL.nil)))) (EL.cons (E.lst EL.nil) EL.nil))) (SL.cons (S.for (Tg.n 8) (Src.e (E.call 28 (EL.cons (E.v 1) EL.nil))) (SL.cons (S.set 9 false (E.lc [(("one"), 4), (("other"), 5), (("weight"), 10)] (Tg.t [Tg.n 4, Tg.n 5, Tg.n 10]) (Src.e (E.v 3)) (EO.e (E.and (E.cmp CmpOp.In (E.v 4) (E.v 8)) (E.and1 (E.cmp CmpOp.NotIn (E.v 5) (E.v 8))))) (E.v 10))) (SL.cons (S.app 7 (E.op Operator.Add (E.bi BI.sum (EL.cons (E.v 9) EL.nil)) (E.call 30 (EL.cons (E.v 6) (EL.cons (E.v 8) EL.nil))))) SL.nil))) (SL.cons (S.ret (E.bi BI.tuple (EL.cons (E.b 7) EL.nil))) SL.nil))))
def b35 : SL := SL.cons (S.set 3 false (E.lc [(("worth"), 4)] (Tg.n 4) (Src.e (E.v 2)) EO.no (E.ite (E.cmp CmpOp.Eq (E.call 24 (EL.cons (E.v 0) (EL.cons (E.c (Cst.int 4)) EL.nil))) (E.c (Cst.int 0))) (E.c Cst.non) (E.v 4)))) (SL.cons (S.ret (E.ite (E.cmp CmpOp.NotEq (E.lc [(("worth"), 4)] (Tg.n 4) (Src.e (E.v 3)) (EO.e (E.cmp CmpOp.IsNot (E.v 4) (E.c Cst.non))) (E.c (Cst.int 1))) (E.lst EL.nil)) (E.bi BI.tuple (EL.cons (E.v 3) EL.nil)) (E.v 2))) SL.nil)
def b36 : SL := SL.cons (S.par [(2, false), (3, false), (4, false)] (EL.cons (E.op Operator.Add (E.c (Cst.int 1)) (E.call 24 (EL.cons (E.v 0) (EL.cons (E.v 1) EL.nil)))) (EL.cons (E.call 24 (EL.cons (E.v 0) (EL.cons (E.c (Cst.int 6)) EL.nil))) (EL.cons (E.call 25 (EL.cons (E.v 0) (EL.cons (E.lst (EL.cons (E.c (Cst.int 1)) (EL.cons (E.c (Cst.int 3)) (EL.cons (E.c (Cst.int 20)) (EL.cons (E.c (Cst.int 1000)) EL.nil))))) EL.nil))) EL.nil)))) (SL.cons (S.ife (E.cmp CmpOp.Eq (E.v 3) (E.c (Cst.int 0))) (SL.cons (S.ret (E.tup (EL.cons (E.v 2) (EL.cons (E.call 32 (EL.cons (E.v 0) (EL.cons (E.v 2) (EL.cons (E.v 4) EL.nil)))) EL.nil)))) SL.nil) SL.nil) (SL.cons (S.ife (E.cmp CmpOp.Eq (E.v 3) (E.c (Cst.int 1))) (SL.cons (S.ret (E.tup (EL.cons (E.v 2) (EL.cons (E.call 33 (EL.cons (E.v 0) (EL.cons (E.v 2) (EL.cons (E.v 4) EL.nil)))) EL.nil)))) SL.nil) SL.nil) (SL.cons (S.ife (E.cmp CmpOp.Eq (E.v 3) (E.c (Cst.int 2))) (SL.cons (S.ret (E.tup (EL.cons (E.v 2) (EL.cons (E.call 34 (EL.cons (E.v 0) (EL.cons (E.v 2) (EL.cons (E.v 4) EL.nil)))) EL.nil)))) SL.nil) SL.nil) (SL.cons (S.set 5 false (E.call 31 (EL.cons (E.v 0) (EL.cons (E.v 2) (EL.cons (E.v 4) EL.nil))))) (SL.cons (S.ret (E.tup (EL.cons (E.v 2) (EL.cons (E.ite (E.cmp CmpOp.Eq (E.v 3) (E.c (Cst.int 3))) (E.call 35 (EL.cons (E.v 0) (EL.cons (E.v 2) (EL.cons (E.v 5) EL.nil)))) (E.v 5)) EL.nil)))) SL.nil)))))
def b37 : SL := SL.cons (S.ret (E.call 41 (EL.cons (E.ix (E.v 0) (E.c (Cst.int 0))) (EL.cons (E.ix (E.v 0) (E.c (Cst.int 1))) EL.nil)))) SL.nil
def b38 : SL := SL.cons (S.unp [Tg.n 2, Tg.n 3] (E.v 0)) (SL.cons (S.set 4 true (E.op Operator.Mult (E.lst (EL.cons (E.c Cst.non) EL.nil)) (E.bi BI.len (EL.cons (E.v 3) EL.nil)))) (SL.cons (S.for (Tg.t [Tg.n 5, Tg.n 6]) (Src.zip (E.call 28 (EL.cons (E.v 2) EL.nil)) (E.v 3)) (SL.cons (S.sto 4 (E.call 27 (EL.cons (E.lc [(("thing"), 7)] (Tg.n 7) (Src.e (E.v 5)) EO.no (E.ix (E.v 1) (E.v 7))) EL.nil)) (E.v 6)) SL.nil)) (SL.cons (S.ret (E.tup (EL.cons (E.v 2) (EL.cons (E.bi BI.tuple (EL.cons (E.b 4) EL.nil)) EL.nil)))) SL.nil)))
def b39 : SL := SL.cons (S.ret (E.call 25 (EL.cons (E.v 0) (EL.cons (E.lst (EL.cons (E.c Cst.non) (EL.cons (E.c (Cst.int 0)) (EL.cons (E.c (Cst.bl true)) (EL.cons (E.tup EL.nil) (EL.cons (E.lst EL.nil) (EL.cons E.dct (EL.cons (E.c (Cst.str ("table"))) (EL.cons (E.tup (EL.cons (E.c (Cst.int 1)) (EL.cons (E.tup (EL.cons (E.c (Cst.int 0)) (EL.cons (E.c (Cst.int 0)) EL.nil))) EL.nil))) (EL.cons (E.op Operator.Pow (E.c (Cst.int 10)) (E.c (Cst.int 18))) EL.nil)))))))))) EL.nil)))) SL.nil
def b40 : SL := SL.cons (S.ife (E.and (E.cmp CmpOp.IsNot (E.v 0) (E.c Cst.non)) (E.and1 (E.or (E.not (E.isi (E.v 0) (Ty.cls 0))) (E.or1 (E.not (E.isi (E.v 0) Ty.valueError)))))) (SL.cons (S.ret (E.c (Cst.str ("foreign ")))) SL.nil) SL.nil) (SL.cons (S.set 1 false (E.ite (E.isi (E.v 0) (Ty.cls 2)) (E.c (Cst.str ("many "))) (E.c (Cst.str (""))))) (SL.cons (S.set 1 false (E.op Operator.Add (E.op Operator.Add (E.v 1) (E.ite (E.isi (E.v 0) (Ty.cls 6)) (E.c (Cst.str ("worths "))) (E.c (Cst.str (""))))) (E.ite (E.isi (E.v 0) (Ty.cls 5)) (E.c (Cst.str ("table "))) (E.c (Cst.str ("")))))) (SL.cons (S.set 1 false (E.op Operator.Add (E.op Operator.Add (E.v 1) (E.ite (E.isi (E.v 0) (Ty.cls 1)) (E.c (Cst.str ("lot "))) (E.c (Cst.str (""))))) (E.ite (E.isi (E.v 0) (Ty.cls 4)) (E.c (Cst.str ("prices "))) (E.c (Cst.str ("")))))) (SL.cons (S.ret (E.op Operator.Add (E.v 1) (E.ite (E.isi (E.v 0) (Ty.cls 3)) (E.c (Cst.str ("names "))) (E.c (Cst.str ("")))))) SL.nil))))
def b41 : SL := SL.cons (S.ex (E.call 10 (EL.cons (E.v 1) EL.nil))) (SL.cons (S.ife (E.not (E.call 13 (EL.cons (E.v 1) (EL.cons (E.v 2) EL.nil)))) (SL.cons (S.raise 6 EL.nil) SL.nil) SL.nil) SL.nil)
def b42 : SL := SL.cons (S.ret (E.and (E.isi (E.v 1) (Ty.cls 7)) (E.and1 (E.cmp CmpOp.Eq (E.tup (EL.cons (E.fld (E.v 0) ("many")) (EL.cons (E.fld (E.v 0) ("worths")) EL.nil))) (E.tup (EL.cons (E.fld (E.v 1) ("many")) (EL.cons (E.fld (E.v 1) ("worths")) EL.nil))))))) SL.nil
def bL : SL := SL.cons (S.for (Tg.n 2) (Src.rng1 (E.op Operator.Add (E.c (Cst.int 4)) (E.bi BI.min (EL.cons (E.bi BI.len (EL.cons (E.v 0) EL.nil)) (EL.cons (E.c (Cst.int 6)) EL.nil))))) (SL.cons (S.unp [Tg.n 3, Tg.n 4] (E.call 36 (EL.cons (E.v 1) (EL.cons (E.c (Cst.int 6)) EL.nil)))) (SL.cons (S.unp [Tg.n 5, Tg.n 6] (E.tup (EL.cons (E.call 41 (EL.cons (E.v 3) (EL.cons (E.v 4) EL.nil))) (EL.cons (E.call 28 (EL.cons (E.v 3) EL.nil)) EL.nil)))) (SL.cons (S.set 7 false (E.call 29 (EL.cons (E.v 1) (EL.cons (E.v 3) (EL.cons (E.call 25 (EL.cons (E.v 1) (EL.cons (E.lst (EL.cons (E.c (Cst.int 2)) (EL.cons (E.c (Cst.int 50)) (EL.cons (E.op Operator.Pow (E.c (Cst.int 10)) (E.c (Cst.int 5))) EL.nil)))) EL.nil))) EL.nil))))) (SL.cons (S.set 8 false (E.bi BI.tuple (EL.cons (E.lc [(("lot"), 9), (("worth"), 10)] (Tg.t [Tg.n 9, Tg.n 10]) (Src.zip (E.v 6) (E.v 4)) EO.no (E.ite (E.cmp CmpOp.Is (E.v 10) (E.c Cst.non)) (E.c Cst.non) (E.op Operator.Sub (E.v 10) (E.call 30 (EL.cons (E.v 7) (EL.cons (E.v 9) EL.nil)))))) EL.nil))) (SL.cons (S.set 11 false (E.call 21 (EL.cons (E.v 5) (EL.cons (E.v 7) EL.nil)))) (SL.cons (S.ife (E.or (E.not (E.cmp CmpOp.Eq (E.v 11) (E.call 41 (EL.cons (E.v 3) (EL.cons (E.v 8) EL.nil))))) (E.or (E.not (E.cmp CmpOp.Eq (E.callk 21 EL.nil (KL.cons ("prices") (E.v 7) (KL.cons ("table") (E.v 5) KL.nil)) [1, 0]) (E.v 11))) (E.or1 (E.not (E.cmp CmpOp.Eq (E.v 5) (E.call 41 (EL.cons (E.v 3) (EL.cons (E.v 4) EL.nil)))))))) (SL.cons (S.ret (E.c (Cst.bl false))) SL.nil) SL.nil) (SL.cons (S.ife (E.not (E.cmp CmpOp.Eq (E.call 21 (EL.cons (E.v 11) (EL.cons (E.bi BI.tuple (EL.cons (E.lc [(("price"), 12)] (Tg.n 12) (Src.e (E.v 7)) EO.no (E.neg (E.v 12))) EL.nil)) EL.nil))) (E.v 5))) (SL.cons (S.ret (E.c (Cst.bl false))) SL.nil) SL.nil) (SL.cons (S.ife (E.cmp CmpOp.NotEq (E.call 19 (EL.cons (E.v 11) (EL.cons (E.op Operator.Mult (E.tup (EL.cons (E.tup (EL.cons (E.c (Cst.int 0)) (EL.cons (E.c (Cst.int 1)) EL.nil))) EL.nil)) (E.v 3)) EL.nil))) (E.call 19 (EL.cons (E.v 5) (EL.cons (E.bi BI.tuple (EL.cons (E.lc [(("price"), 12)] (Tg.n 12) (Src.e (E.v 7)) EO.no (E.tup (EL.cons (E.v 12) (EL.cons (E.c (Cst.int 1)) EL.nil)))) EL.nil)) EL.nil)))) (SL.cons (S.ret (E.c (Cst.bl false))) SL.nil) SL.nil) (SL.cons (S.sett 13 (E.call 26 (EL.cons (E.v 1) (EL.cons (E.seqR false (Src.rng1 (E.v 3))) EL.nil)))) (SL.cons (S.set 14 false (E.bi BI.tuple (EL.cons (E.lc [(("thing"), 15)] (Tg.n 15) (Src.rng1 (E.v 3)) EO.no (E.idx 13 (E.v 15))) EL.nil))) (SL.cons (S.set 16 false (E.call 22 (EL.cons (E.v 5) (EL.cons (E.v 13) EL.nil)))) (SL.cons (S.ife (E.or (E.not (E.cmp CmpOp.Eq (E.v 16) (E.call 37 (EL.cons (E.call 38 (EL.cons (E.tup (EL.cons (E.v 3) (EL.cons (E.v 4) EL.nil))) (EL.cons (E.v 13) EL.nil))) EL.nil)))) (E.or1 (E.not (E.cmp CmpOp.Eq (E.callk 22 EL.nil (KL.cons ("names") (E.v 14) (KL.cons ("table") (E.v 16) KL.nil)) [1, 0]) (E.v 5))))) (SL.cons (S.ret (E.c (Cst.bl false))) SL.nil) SL.nil) (SL.cons (S.unp [Tg.n 17, Tg.n 18] (E.tup (EL.cons (E.call 39 (EL.cons (E.v 1) EL.nil)) (EL.cons (E.seqR true (Src.rng1 (E.v 3))) EL.nil)))) (SL.cons (S.set 19 false (E.call 25 (EL.cons (E.v 1) (EL.cons (E.lst (EL.cons (E.c Cst.non) (EL.cons (E.op Operator.Add (E.v 18) (E.tup (EL.cons (E.c (Cst.int 0)) EL.nil))) (EL.cons (E.bi BI.list (EL.cons (E.v 18) EL.nil)) (EL.cons (E.op Operator.Add (E.sl (E.v 18) (EO.e (E.c (Cst.int 1))) EO.no) (E.tup (EL.cons (E.op Operator.Add (E.op Operator.Pow (E.c (Cst.int 10)) (E.c (Cst.int 6))) (E.c (Cst.int 1))) EL.nil))) (EL.cons (E.op Operator.Add (E.sl (E.v 18) (EO.e (E.c (Cst.int 1))) EO.no) (E.tup (EL.cons (E.c (Cst.bl true)) EL.nil))) (EL.cons (E.op Operator.Add (E.sl (E.v 18) (EO.e (E.c (Cst.int 1))) EO.no) (E.tup (EL.cons (E.tup (EL.cons (E.c (Cst.int 0)) (EL.cons (E.c (Cst.int 1)) EL.nil))) EL.nil))) (EL.cons (E.c (Cst.int 0)) EL.nil)))))))) EL.nil)))) (SL.cons (S.set 20 false (E.call 25 (EL.cons (E.v 1) (EL.cons (E.lst (EL.cons (E.c Cst.non) (EL.cons (E.op Operator.Add (E.v 18) (E.tup (EL.cons (E.v 3) EL.nil))) (EL.cons (E.bi BI.list (EL.cons (E.v 18) EL.nil)) (EL.cons (E.op Operator.Add (E.sl (E.v 18) (EO.e (E.c (Cst.int 1))) EO.no) (E.tup (EL.cons (E.v 3) EL.nil))) (EL.cons (E.op Operator.Add (E.sl (E.v 18) (EO.e (E.c (Cst.int 1))) EO.no) (E.tup (EL.cons (E.c Cst.non) EL.nil))) (EL.cons (E.op Operator.Add (E.sl (E.v 18) (EO.e (E.c (Cst.int 1))) EO.no) (E.tup (EL.cons (E.neg (E.c (Cst.int 1))) EL.nil))) (EL.cons (E.c (Cst.int 0)) (EL.cons (E.op Operator.Add (E.v 18) (E.tup (EL.cons (E.c (Cst.int 0)) EL.nil))) EL.nil))))))))) EL.nil)))) (SL.cons (S.set 21 false (E.call 41 (EL.cons (E.v 3) (EL.cons (E.op Operator.Mult (E.tup (EL.cons (E.op Operator.Pow (E.c (Cst.int 10)) (E.c (Cst.int 6))) EL.nil)) (E.bi BI.len (EL.cons (E.v 4) EL.nil))) EL.nil)))) (SL.cons (S.for (Tg.t [Tg.n 22, Tg.n 8]) (Src.e (E.lst (EL.cons (E.tup (EL.cons (E.lam (E.call 21 (EL.cons (E.v 17) (EL.cons (E.c Cst.non) EL.nil)))) (EL.cons (E.c (Cst.str ("table "))) EL.nil))) (EL.cons (E.tup (EL.cons (E.lam (E.call 22 (EL.cons (E.v 17) (EL.cons (E.c Cst.non) EL.nil)))) (EL.cons (E.c (Cst.str ("table "))) EL.nil))) (EL.cons (E.tup (EL.cons (E.lam (E.call 21 (EL.cons (E.v 5) (EL.cons (E.v 19) EL.nil)))) (EL.cons (E.c (Cst.str ("prices "))) EL.nil))) (EL.cons (E.tup (EL.cons (E.lam (E.call 22 (EL.cons (E.v 5) (EL.cons (E.v 20) EL.nil)))) (EL.cons (E.c (Cst.str ("names "))) EL.nil))) (EL.cons (E.tup (EL.cons (E.lam (E.call 21 (EL.cons (E.v 21) (EL.cons (E.op Operator.Add (E.tup (EL.cons (E.neg (E.c (Cst.int 1))) EL.nil)) (E.op Operator.Mult (E.tup (EL.cons (E.c (Cst.int 0)) EL.nil)) (E.op Operator.Sub (E.v 3) (E.c (Cst.int 1))))) EL.nil)))) (EL.cons (E.c (Cst.str ("worths "))) EL.nil))) EL.nil))))))) (SL.cons (S.ife (E.cmp CmpOp.NotEq (E.call 40 (EL.cons (E.cau (E.v 22)) EL.nil)) (E.v 8)) (SL.cons (S.ret (E.c (Cst.bl false))) SL.nil) SL.nil) SL.nil)) SL.nil)))))))))))))))))) (SL.cons (S.ret (E.c (Cst.bl true))) SL.nil)
def d0 : DefE := ⟨C8.fnArgs (top 1), C8.fnBody (top 1), C8.fnScope (top 1), ["value"], ["value"], [], [], ⟨1, 1, b0⟩, none, none⟩
def d1 : DefE := ⟨C8.fnArgs (top 2), C8.fnBody (top 2), C8.fnScope (top 2), ["value", "least", "most"], ["value", "least", "most"], [], [], ⟨3, 3, b1⟩, none, none⟩
def d2 : DefE := ⟨C8.fnArgs (top 13), C8.fnBody (top 13), C8.fnScope (top 13), ["value"], ["value"], [], [], ⟨1, 1, b2⟩, none, none⟩
def d3 : DefE := ⟨C8.fnArgs (top 14), C8.fnBody (top 14), C8.fnScope (top 14), ["one", "other"], ["one", "other"], [], [], ⟨2, 2, b3⟩, none, none⟩
def d4 : DefE := ⟨C8.fnArgs (top 15), C8.fnBody (top 15), C8.fnScope (top 15), ["value"], ["value"], [], [], ⟨1, 1, b4⟩, none, none⟩
def d5 : DefE := ⟨C8.fnArgs (top 16), C8.fnBody (top 16), C8.fnScope (top 16), ["upper", "lower", "shared"], ["upper", "lower"], [], [], ⟨2, 3, b5⟩, none, none⟩
def d6 : DefE := ⟨C8.fnArgs (top 17), C8.fnBody (top 17), C8.fnScope (top 17), ["one", "other"], ["one", "other"], [], [], ⟨2, 2, b6⟩, none, none⟩
def d7 : DefE := ⟨C8.fnArgs (top 18), C8.fnBody (top 18), C8.fnScope (top 18), ["one", "other"], ["one", "other"], [], [], ⟨2, 2, b7⟩, none, none⟩
def d8 : DefE := ⟨C8.fnArgs (top 19), C8.fnBody (top 19), C8.fnScope (top 19), ["one", "other"], ["one", "other"], [], [], ⟨2, 2, b8⟩, none, none⟩
def d9 : DefE := ⟨C8.fnArgs (top 20), C8.fnBody (top 20), C8.fnScope (top 20), ["several", "found", "one"], ["several"], [], [], ⟨1, 3, b9⟩, none, none⟩
def d10 : DefE := ⟨C8.fnArgs (top 23), C8.fnBody (top 23), C8.fnScope (top 23), ["many"], ["many"], [], [], ⟨1, 1, b10⟩, none, none⟩
def d11 : DefE := ⟨C8.fnArgs (top 24), C8.fnBody (top 24), C8.fnScope (top 24), ["lot", "thing"], ["lot"], [], [], ⟨1, 2, b11⟩, none, none⟩
def d12 : DefE := ⟨C8.fnArgs (top 25), C8.fnBody (top 25), C8.fnScope (top 25), ["many", "number", "found", "rest", "thing"], ["many", "number"], ["found"], [], ⟨2, 5, b12⟩, none, none⟩
def d13 : DefE := ⟨C8.fnArgs (top 28), C8.fnBody (top 28), C8.fnScope (top 28), ["many", "value", "worth"], ["many", "value"], [], [], ⟨2, 3, b13⟩, none, none⟩
def d14 : DefE := ⟨C8.fnArgs (top 30), C8.fnBody (top 30), C8.fnScope (top 30), ["table"], ["table"], [], [], ⟨1, 1, b14⟩, none, none⟩
def d15 : DefE := ⟨C8.fnArgs (top 31), C8.fnBody (top 31), C8.fnScope (top 31), ["many", "value", "price"], ["many", "value"], [], [], ⟨2, 3, b15⟩, none, none⟩
def d16 : DefE := ⟨C8.fnArgs (top 32), C8.fnBody (top 32), C8.fnScope (top 32), ["table", "prices"], ["table", "prices"], [], [], ⟨2, 2, b16⟩, none, none⟩
def d17 : DefE := ⟨C8.fnArgs (top 33), C8.fnBody (top 33), C8.fnScope (top 33), ["table", "prices", "number", "dear", "thing"], ["table", "prices", "number"], [], [], ⟨3, 5, b17⟩, none, none⟩
def d18 : DefE := ⟨C8.fnArgs (top 34), C8.fnBody (top 34), C8.fnScope (top 34), ["table", "prices", "some", "at", "worth", "most", "gain"], ["table", "prices"], [], [], ⟨2, 7, b18⟩, none, none⟩
def d19 : DefE := ⟨C8.fnArgs (top 35), C8.fnBody (top 35), C8.fnScope (top 35), ["table", "prices", "most", "found", "at", "worth"], ["table", "prices"], ["found"], [], ⟨2, 6, b19⟩, none, none⟩
def d20 : DefE := ⟨C8.fnArgs (top 36), C8.fnBody (top 36), C8.fnScope (top 36), ["many", "value", "price"], ["many", "value"], [], [], ⟨2, 3, b20⟩, none, none⟩
def d21 : DefE := ⟨C8.fnArgs (top 37), C8.fnBody (top 37), C8.fnScope (top 37), ["table", "prices", "worths", "at", "worth", "dear", "thing"], ["table", "prices"], ["worths"], [(0, ["prices", "table"], [1, 0])], ⟨2, 7, b21⟩, none, none⟩
def d22 : DefE := ⟨C8.fnArgs (top 38), C8.fnBody (top 38), C8.fnScope (top 38), ["table", "names", "whole", "name", "worths", "at", "worth", "thing"], ["table", "names"], ["worths"], [(0, ["names", "table"], [1, 0])], ⟨2, 8, b22⟩, none, none⟩
def d23 : DefE := ⟨C8.fnArgs (top 41), C8.fnBody (top 41), C8.fnScope (top 41), ["state", "turn", "found", "prime", "blend", "cell"], ["state"], [], [], ⟨1, 6, b23⟩, none, none⟩
def d24 : DefE := ⟨C8.fnArgs (top 42), C8.fnBody (top 42), C8.fnScope (top 42), ["state", "size_here", "found"], ["state", "size_here"], [], [], ⟨2, 3, b24⟩, none, none⟩
def d25 : DefE := ⟨C8.fnArgs (top 43), C8.fnBody (top 43), C8.fnScope (top 43), ["state", "several"], ["state", "several"], [], [], ⟨2, 2, b25⟩, none, none⟩
def d26 : DefE := ⟨C8.fnArgs (top 44), C8.fnBody (top 44), C8.fnScope (top 44), ["state", "several", "left", "found"], ["state", "several"], ["found", "left"], [], ⟨2, 4, b26⟩, none, none⟩
def d27 : DefE := ⟨C8.fnArgs (top 46), C8.fnBody (top 46), C8.fnScope (top 46), ["lot", "thing"], ["lot"], [], [], ⟨1, 2, b27⟩, none, none⟩
def d28 : DefE := ⟨C8.fnArgs (top 47), C8.fnBody (top 47), C8.fnScope (top 47), ["many", "found", "thing", "lot"], ["many"], [], [], ⟨1, 4, b28⟩, none, none⟩
def d29 : DefE := ⟨C8.fnArgs (top 48), C8.fnBody (top 48), C8.fnScope (top 48), ["state", "many", "most", "thing"], ["state", "many", "most"], [], [], ⟨3, 4, b29⟩, none, none⟩
def d30 : DefE := ⟨C8.fnArgs (top 49), C8.fnBody (top 49), C8.fnScope (top 49), ["prices", "lot", "thing"], ["prices", "lot"], [], [], ⟨2, 3, b30⟩, none, none⟩
def d31 : DefE := ⟨C8.fnArgs (top 50), C8.fnBody (top 50), C8.fnScope (top 50), ["state", "many", "most", "lot"], ["state", "many", "most"], [], [], ⟨3, 4, b31⟩, none, none⟩
def d32 : DefE := ⟨C8.fnArgs (top 51), C8.fnBody (top 51), C8.fnScope (top 51), ["state", "many", "most", "found", "lot", "below_here", "at"], ["state", "many", "most"], ["found"], [], ⟨3, 7, b32⟩, none, none⟩
def d33 : DefE := ⟨C8.fnArgs (top 52), C8.fnBody (top 52), C8.fnScope (top 52), ["state", "many", "most", "spots", "had", "spot", "thing", "weight", "prices", "found", "lot", "some"], ["state", "many", "most"], ["found"], [], ⟨3, 12, b33⟩, none, none⟩
def d34 : DefE := ⟨C8.fnArgs (top 53), C8.fnBody (top 53), C8.fnScope (top 53), ["state", "many", "most", "darts", "one", "other", "prices", "found", "lot", "some", "weight"], ["state", "many", "most"], ["found"], [], ⟨3, 11, b34⟩, none, none⟩
def d35 : DefE := ⟨C8.fnArgs (top 54), C8.fnBody (top 54), C8.fnScope (top 54), ["state", "many", "worths", "found", "worth"], ["state", "many", "worths"], [], [], ⟨3, 5, b35⟩, none, none⟩
def d36 : DefE := ⟨C8.fnArgs (top 55), C8.fnBody (top 55), C8.fnScope (top 55), ["state", "most", "many", "way", "reach", "worths"], ["state", "most"], [], [], ⟨2, 6, b36⟩, none, none⟩
def d37 : DefE := ⟨C8.fnArgs (top 56), C8.fnBody (top 56), C8.fnScope (top 56), ["told_here"], ["told_here"], [], [], ⟨1, 1, b37⟩, none, none⟩
def d38 : DefE := ⟨C8.fnArgs (top 57), C8.fnBody (top 57), C8.fnScope (top 57), ["told_here", "names", "many", "worths", "found", "lot", "worth", "thing"], ["told_here", "names"], ["found"], [], ⟨2, 8, b38⟩, none, none⟩
def d39 : DefE := ⟨C8.fnArgs (top 58), C8.fnBody (top 58), C8.fnScope (top 58), ["state"], ["state"], [], [], ⟨1, 1, b39⟩, none, none⟩
def d40 : DefE := ⟨C8.fnArgs (top 59), C8.fnBody (top 59), C8.fnScope (top 59), ["error", "found"], ["error"], [], [], ⟨1, 2, b40⟩, none, none⟩
def d41 : DefE := ⟨C8.fnArgs (meth 29 0), C8.fnBody (meth 29 0), C8.fnScope (meth 29 0), ["self", "many", "worths"], ["self", "many", "worths"], [], [], ⟨3, 3, b41⟩, some (7, [("many", 1), ("worths", 2)]), some "__init__"⟩
def d42 : DefE := ⟨C8.fnArgs (meth 29 1), C8.fnBody (meth 29 1), C8.fnScope (meth 29 1), ["self", "other"], ["self", "other"], [], [], ⟨2, 2, b42⟩, none, some "__eq__"⟩
def tab : List (Option DefE) := [some d0, some d1, some d2, some d3, some d4, some d5, some d6, some d7, some d8, some d9, some d10, some d11, some d12, some d13, some d14, some d15, some d16, some d17, some d18, some d19, some d20, some d21, some d22, some d23, none, some d25, some d26, some d27, some d28, some d29, some d30, some d31, some d32, some d33, some d34, some d35, some d36, some d37, some d38, some d39, some d40, some d41, some d42]
def fns : Nat → Fn
  | 0 => .fd ⟨1, 1, b0⟩
  | 1 => .fd ⟨3, 3, b1⟩
  | 2 => .fd ⟨1, 1, b2⟩
  | 3 => .fd ⟨2, 2, b3⟩
  | 4 => .fd ⟨1, 1, b4⟩
  | 5 => .fd ⟨2, 3, b5⟩
  | 6 => .fd ⟨2, 2, b6⟩
  | 7 => .fd ⟨2, 2, b7⟩
  | 8 => .fd ⟨2, 2, b8⟩
  | 9 => .fd ⟨1, 3, b9⟩
  | 10 => .fd ⟨1, 1, b10⟩
  | 11 => .fd ⟨1, 2, b11⟩
  | 12 => .fd ⟨2, 5, b12⟩
  | 13 => .fd ⟨2, 3, b13⟩
  | 14 => .fd ⟨1, 1, b14⟩
  | 15 => .fd ⟨2, 3, b15⟩
  | 16 => .fd ⟨2, 2, b16⟩
  | 17 => .fd ⟨3, 5, b17⟩
  | 18 => .fd ⟨2, 7, b18⟩
  | 19 => .fd ⟨2, 6, b19⟩
  | 20 => .fd ⟨2, 3, b20⟩
  | 21 => .fd ⟨2, 7, b21⟩
  | 22 => .fd ⟨2, 8, b22⟩
  | 23 => .fd ⟨1, 6, b23⟩
  | 24 => .draw
  | 25 => .fd ⟨2, 2, b25⟩
  | 26 => .fd ⟨2, 4, b26⟩
  | 27 => .fd ⟨1, 2, b27⟩
  | 28 => .fd ⟨1, 4, b28⟩
  | 29 => .fd ⟨3, 4, b29⟩
  | 30 => .fd ⟨2, 3, b30⟩
  | 31 => .fd ⟨3, 4, b31⟩
  | 32 => .fd ⟨3, 7, b32⟩
  | 33 => .fd ⟨3, 12, b33⟩
  | 34 => .fd ⟨3, 11, b34⟩
  | 35 => .fd ⟨3, 5, b35⟩
  | 36 => .fd ⟨2, 6, b36⟩
  | 37 => .fd ⟨1, 1, b37⟩
  | 38 => .fd ⟨2, 8, b38⟩
  | 39 => .fd ⟨1, 1, b39⟩
  | 40 => .fd ⟨1, 2, b40⟩
  | 41 => .mk 7 ⟨3, 3, b41⟩ [1, 2]
  | 42 => .fd ⟨2, 2, b42⟩
  | _ => .draw
def G : Dp.Cls := ⟨8, fun a b => ([true, false, false, false, false, false, false, false, true, true, false, false, false, false, false, false, true, false, true, false, false, false, false, false, true, false, false, true, false, false, false, false, true, false, false, false, true, false, false, false, true, false, false, false, false, true, false, false, true, false, false, false, false, false, true, false, false, false, false, false, false, false, false, true] : List Bool).getD (a * 8 + b) false, fun c => ([true, true, true, true, true, true, true, false] : List Bool).getD c false, fun c => if c = 7 then some 42 else none⟩
def con : Nat → D
  | 0 => .int 400
  | 1 => .int 6
  | 2 => .int 1000000
  | _ => .non
def fsl : List (Nat × List Str) := [(7, ["many", "worths"])]
def eqf (c : Nat) : Nat := 0
def P : Prg := ⟨G, fldN fsl eqf, con, fns⟩
def m : Mo := ⟨tab, gl, [2, 3, 4, 5, 6], P, d24, 23, fsl⟩
def nm : Nm := ⟨[(("is_whole" : PySem.Str), none), (("is_number" : PySem.Str), none), (("is_int" : PySem.Str), none), (("common" : PySem.Str), none), (("is_fraction" : PySem.Str), none), (("lowest" : PySem.Str), none), (("summed" : PySem.Str), none), (("lessened" : PySem.Str), none), (("below" : PySem.Str), none), (("total" : PySem.Str), none), (("need_many" : PySem.Str), none), (("number_at" : PySem.Str), none), (("lot_by" : PySem.Str), none), (("are_worths" : PySem.Str), none), (("need_table" : PySem.Str), none), (("are_prices" : PySem.Str), none), (("need_prices" : PySem.Str), none), (("gain_at" : PySem.Str), none), (("best_gain" : PySem.Str), none), (("best_lots" : PySem.Str), none), (("are_whole_prices" : PySem.Str), none), (("priced" : PySem.Str), none), (("renamed" : PySem.Str), none), (("_law_blended" : PySem.Str), none), (("_law_draw" : PySem.Str), none), (("_law_pick" : PySem.Str), none), (("_law_mixed" : PySem.Str), none), (("_law_tb_number" : PySem.Str), none), (("_law_tb_lots" : PySem.Str), none), (("_law_tb_prices" : PySem.Str), none), (("_law_tb_dear" : PySem.Str), none), (("_law_tb_any" : PySem.Str), none), (("_law_tb_rising" : PySem.Str), none), (("_law_tb_cover" : PySem.Str), none), (("_law_tb_cut" : PySem.Str), none), (("_law_tb_holes" : PySem.Str), none), (("_law_tb_table" : PySem.Str), none), (("_law_tb_made" : PySem.Str), none), (("_law_tb_named" : PySem.Str), none), (("_law_tb_no_table" : PySem.Str), none), (("_law_tk_kind" : PySem.Str), none), (("Table" : PySem.Str), none), (("Table" : PySem.Str), some ("__eq__" : PySem.Str))], ["SwapError", "BadLot", "BadMany", "BadNames", "BadPrices", "BadTable", "BadWorths", "Table"], [("MOST_DIGITS", 400), ("MOST_THINGS", 6), ("MOST_WORTH", 1000000)]⟩
def L : LawE := ⟨C8.fnArgs (top 60), C8.fnScope (top 60), ["script", "state", "turn", "many", "worths", "made", "lots_here", "prices", "due", "lot", "worth", "other", "price", "names", "back", "thing", "later", "odd", "good", "bad", "far", "edge", "work"], ["#names"], (C8.fnBody (top 60)).drop 1, bL, true⟩
def lcScope : Expr → Scope
  | .ListComp _ _ sc _ => sc
  | _ => ⟨.function, [], false, false, []⟩
def bs1 : Scope := match C8.fnBody (top 40) with | .Assign _ e _ :: _ => lcScope e | _ => ⟨.function, [], false, false, []⟩
def bs2 : Scope := match C8.fnBody (top 40) with | [_, .Return (some (.Dict _ (_ :: e :: _) _)) _] => lcScope e | _ => ⟨.function, [], false, false, []⟩
def t : Tri := ⟨C8.fnArgs (top 40), C8.fnBody (top 40), C8.fnScope (top 40), bs1, bs2, C8.fnArgs (top 45), C8.fnBody (top 45), C8.fnScope (top 45), C8.fnBody (top 60)⟩
theorem ok0 : d0.Ok m := ⟨rfl, by kernel_rfl, rfl, rfl, rfl, by kernel_rfl, by kernel_rfl, rfl, rfl, by kernel_rfl, by kernel_rfl, by kernel_rfl⟩
theorem ok1 : d1.Ok m := ⟨rfl, by kernel_rfl, rfl, rfl, rfl, by kernel_rfl, by kernel_rfl, rfl, rfl, by kernel_rfl, by kernel_rfl, by kernel_rfl⟩
theorem ok2 : d2.Ok m := ⟨rfl, by kernel_rfl, rfl, rfl, rfl, by kernel_rfl, by kernel_rfl, rfl, rfl, by kernel_rfl, by kernel_rfl, by kernel_rfl⟩
theorem ok3 : d3.Ok m := ⟨rfl, by kernel_rfl, rfl, rfl, rfl, by kernel_rfl, by kernel_rfl, rfl, rfl, by kernel_rfl, by kernel_rfl, by kernel_rfl⟩
theorem ok4 : d4.Ok m := ⟨rfl, by kernel_rfl, rfl, rfl, rfl, by kernel_rfl, by kernel_rfl, rfl, rfl, by kernel_rfl, by kernel_rfl, by kernel_rfl⟩
theorem ok5 : d5.Ok m := ⟨rfl, by kernel_rfl, rfl, rfl, rfl, by kernel_rfl, by kernel_rfl, rfl, rfl, by kernel_rfl, by kernel_rfl, by kernel_rfl⟩
theorem ok6 : d6.Ok m := ⟨rfl, by kernel_rfl, rfl, rfl, rfl, by kernel_rfl, by kernel_rfl, rfl, rfl, by kernel_rfl, by kernel_rfl, by kernel_rfl⟩
theorem ok7 : d7.Ok m := ⟨rfl, by kernel_rfl, rfl, rfl, rfl, by kernel_rfl, by kernel_rfl, rfl, rfl, by kernel_rfl, by kernel_rfl, by kernel_rfl⟩
theorem ok8 : d8.Ok m := ⟨rfl, by kernel_rfl, rfl, rfl, rfl, by kernel_rfl, by kernel_rfl, rfl, rfl, by kernel_rfl, by kernel_rfl, by kernel_rfl⟩
theorem ok9 : d9.Ok m := ⟨rfl, by kernel_rfl, rfl, rfl, rfl, by kernel_rfl, by kernel_rfl, rfl, rfl, by kernel_rfl, by kernel_rfl, by kernel_rfl⟩
theorem ok10 : d10.Ok m := ⟨rfl, by kernel_rfl, rfl, rfl, rfl, by kernel_rfl, by kernel_rfl, rfl, rfl, by kernel_rfl, by kernel_rfl, by kernel_rfl⟩
theorem ok11 : d11.Ok m := ⟨rfl, by kernel_rfl, rfl, rfl, rfl, by kernel_rfl, by kernel_rfl, rfl, rfl, by kernel_rfl, by kernel_rfl, by kernel_rfl⟩
theorem ok12 : d12.Ok m := ⟨rfl, by kernel_rfl, rfl, rfl, rfl, by kernel_rfl, by kernel_rfl, rfl, rfl, by kernel_rfl, by kernel_rfl, by kernel_rfl⟩
theorem ok13 : d13.Ok m := ⟨rfl, by kernel_rfl, rfl, rfl, rfl, by kernel_rfl, by kernel_rfl, rfl, rfl, by kernel_rfl, by kernel_rfl, by kernel_rfl⟩
theorem ok14 : d14.Ok m := ⟨rfl, by kernel_rfl, rfl, rfl, rfl, by kernel_rfl, by kernel_rfl, rfl, rfl, by kernel_rfl, by kernel_rfl, by kernel_rfl⟩
theorem ok15 : d15.Ok m := ⟨rfl, by kernel_rfl, rfl, rfl, rfl, by kernel_rfl, by kernel_rfl, rfl, rfl, by kernel_rfl, by kernel_rfl, by kernel_rfl⟩
theorem ok16 : d16.Ok m := ⟨rfl, by kernel_rfl, rfl, rfl, rfl, by kernel_rfl, by kernel_rfl, rfl, rfl, by kernel_rfl, by kernel_rfl, by kernel_rfl⟩
theorem ok17 : d17.Ok m := ⟨rfl, by kernel_rfl, rfl, rfl, rfl, by kernel_rfl, by kernel_rfl, rfl, rfl, by kernel_rfl, by kernel_rfl, by kernel_rfl⟩
theorem ok18 : d18.Ok m := ⟨rfl, by kernel_rfl, rfl, rfl, rfl, by kernel_rfl, by kernel_rfl, rfl, rfl, by kernel_rfl, by kernel_rfl, by kernel_rfl⟩
theorem ok19 : d19.Ok m := ⟨rfl, by kernel_rfl, rfl, rfl, rfl, by kernel_rfl, by kernel_rfl, rfl, rfl, by kernel_rfl, by kernel_rfl, by kernel_rfl⟩
theorem ok20 : d20.Ok m := ⟨rfl, by kernel_rfl, rfl, rfl, rfl, by kernel_rfl, by kernel_rfl, rfl, rfl, by kernel_rfl, by kernel_rfl, by kernel_rfl⟩
theorem ok21 : d21.Ok m := ⟨rfl, by kernel_rfl, rfl, rfl, rfl, by kernel_rfl, by kernel_rfl, rfl, rfl, by kernel_rfl, by kernel_rfl, by kernel_rfl⟩
theorem ok22 : d22.Ok m := ⟨rfl, by kernel_rfl, rfl, rfl, rfl, by kernel_rfl, by kernel_rfl, rfl, rfl, by kernel_rfl, by kernel_rfl, by kernel_rfl⟩
theorem ok23 : d23.Ok m := ⟨rfl, by kernel_rfl, rfl, rfl, rfl, by kernel_rfl, by kernel_rfl, rfl, rfl, by kernel_rfl, by kernel_rfl, by kernel_rfl⟩
theorem ok25 : d25.Ok m := ⟨rfl, by kernel_rfl, rfl, rfl, rfl, by kernel_rfl, by kernel_rfl, rfl, rfl, by kernel_rfl, by kernel_rfl, by kernel_rfl⟩
theorem ok26 : d26.Ok m := ⟨rfl, by kernel_rfl, rfl, rfl, rfl, by kernel_rfl, by kernel_rfl, rfl, rfl, by kernel_rfl, by kernel_rfl, by kernel_rfl⟩
theorem ok27 : d27.Ok m := ⟨rfl, by kernel_rfl, rfl, rfl, rfl, by kernel_rfl, by kernel_rfl, rfl, rfl, by kernel_rfl, by kernel_rfl, by kernel_rfl⟩
theorem ok28 : d28.Ok m := ⟨rfl, by kernel_rfl, rfl, rfl, rfl, by kernel_rfl, by kernel_rfl, rfl, rfl, by kernel_rfl, by kernel_rfl, by kernel_rfl⟩
theorem ok29 : d29.Ok m := ⟨rfl, by kernel_rfl, rfl, rfl, rfl, by kernel_rfl, by kernel_rfl, rfl, rfl, by kernel_rfl, by kernel_rfl, by kernel_rfl⟩
theorem ok30 : d30.Ok m := ⟨rfl, by kernel_rfl, rfl, rfl, rfl, by kernel_rfl, by kernel_rfl, rfl, rfl, by kernel_rfl, by kernel_rfl, by kernel_rfl⟩
theorem ok31 : d31.Ok m := ⟨rfl, by kernel_rfl, rfl, rfl, rfl, by kernel_rfl, by kernel_rfl, rfl, rfl, by kernel_rfl, by kernel_rfl, by kernel_rfl⟩
theorem ok32 : d32.Ok m := ⟨rfl, by kernel_rfl, rfl, rfl, rfl, by kernel_rfl, by kernel_rfl, rfl, rfl, by kernel_rfl, by kernel_rfl, by kernel_rfl⟩
theorem ok33 : d33.Ok m := ⟨rfl, by kernel_rfl, rfl, rfl, rfl, by kernel_rfl, by kernel_rfl, rfl, rfl, by kernel_rfl, by kernel_rfl, by kernel_rfl⟩
theorem ok34 : d34.Ok m := ⟨rfl, by kernel_rfl, rfl, rfl, rfl, by kernel_rfl, by kernel_rfl, rfl, rfl, by kernel_rfl, by kernel_rfl, by kernel_rfl⟩
theorem ok35 : d35.Ok m := ⟨rfl, by kernel_rfl, rfl, rfl, rfl, by kernel_rfl, by kernel_rfl, rfl, rfl, by kernel_rfl, by kernel_rfl, by kernel_rfl⟩
theorem ok36 : d36.Ok m := ⟨rfl, by kernel_rfl, rfl, rfl, rfl, by kernel_rfl, by kernel_rfl, rfl, rfl, by kernel_rfl, by kernel_rfl, by kernel_rfl⟩
theorem ok37 : d37.Ok m := ⟨rfl, by kernel_rfl, rfl, rfl, rfl, by kernel_rfl, by kernel_rfl, rfl, rfl, by kernel_rfl, by kernel_rfl, by kernel_rfl⟩
theorem ok38 : d38.Ok m := ⟨rfl, by kernel_rfl, rfl, rfl, rfl, by kernel_rfl, by kernel_rfl, rfl, rfl, by kernel_rfl, by kernel_rfl, by kernel_rfl⟩
theorem ok39 : d39.Ok m := ⟨rfl, by kernel_rfl, rfl, rfl, rfl, by kernel_rfl, by kernel_rfl, rfl, rfl, by kernel_rfl, by kernel_rfl, by kernel_rfl⟩
theorem ok40 : d40.Ok m := ⟨rfl, by kernel_rfl, rfl, rfl, rfl, by kernel_rfl, by kernel_rfl, rfl, rfl, by kernel_rfl, by kernel_rfl, by kernel_rfl⟩
theorem ok41 : d41.Ok m := ⟨rfl, by kernel_rfl, rfl, rfl, rfl, by kernel_rfl, by kernel_rfl, rfl, rfl, by kernel_rfl, by kernel_rfl, by kernel_rfl⟩
theorem ok42 : d42.Ok m := ⟨rfl, by kernel_rfl, rfl, rfl, rfl, by kernel_rfl, by kernel_rfl, rfl, rfl, by kernel_rfl, by kernel_rfl, by kernel_rfl⟩
theorem mo : MoOk m nm where
  gl := by kernel_rfl
  con := fun i x z h => by
    match i, h with
    | 0, h => cases h; rfl
    | 1, h => cases h; rfl
    | 2, h => cases h; rfl
    | _ + 3, h => cases h
  len := rfl
  ini := by kernel_rfl
  fld := ⟨_, rfl⟩
  eqt := by kernel_rfl
  df := fun f d h => by
    match f, h with
    | 0, h => cases h; exact ⟨ok0, rfl⟩
    | 1, h => cases h; exact ⟨ok1, rfl⟩
    | 2, h => cases h; exact ⟨ok2, rfl⟩
    | 3, h => cases h; exact ⟨ok3, rfl⟩
    | 4, h => cases h; exact ⟨ok4, rfl⟩
    | 5, h => cases h; exact ⟨ok5, rfl⟩
    | 6, h => cases h; exact ⟨ok6, rfl⟩
    | 7, h => cases h; exact ⟨ok7, rfl⟩
    | 8, h => cases h; exact ⟨ok8, rfl⟩
    | 9, h => cases h; exact ⟨ok9, rfl⟩
    | 10, h => cases h; exact ⟨ok10, rfl⟩
    | 11, h => cases h; exact ⟨ok11, rfl⟩
    | 12, h => cases h; exact ⟨ok12, rfl⟩
    | 13, h => cases h; exact ⟨ok13, rfl⟩
    | 14, h => cases h; exact ⟨ok14, rfl⟩
    | 15, h => cases h; exact ⟨ok15, rfl⟩
    | 16, h => cases h; exact ⟨ok16, rfl⟩
    | 17, h => cases h; exact ⟨ok17, rfl⟩
    | 18, h => cases h; exact ⟨ok18, rfl⟩
    | 19, h => cases h; exact ⟨ok19, rfl⟩
    | 20, h => cases h; exact ⟨ok20, rfl⟩
    | 21, h => cases h; exact ⟨ok21, rfl⟩
    | 22, h => cases h; exact ⟨ok22, rfl⟩
    | 23, h => cases h; exact ⟨ok23, rfl⟩
    | 24, h => cases h
    | 25, h => cases h; exact ⟨ok25, rfl⟩
    | 26, h => cases h; exact ⟨ok26, rfl⟩
    | 27, h => cases h; exact ⟨ok27, rfl⟩
    | 28, h => cases h; exact ⟨ok28, rfl⟩
    | 29, h => cases h; exact ⟨ok29, rfl⟩
    | 30, h => cases h; exact ⟨ok30, rfl⟩
    | 31, h => cases h; exact ⟨ok31, rfl⟩
    | 32, h => cases h; exact ⟨ok32, rfl⟩
    | 33, h => cases h; exact ⟨ok33, rfl⟩
    | 34, h => cases h; exact ⟨ok34, rfl⟩
    | 35, h => cases h; exact ⟨ok35, rfl⟩
    | 36, h => cases h; exact ⟨ok36, rfl⟩
    | 37, h => cases h; exact ⟨ok37, rfl⟩
    | 38, h => cases h; exact ⟨ok38, rfl⟩
    | 39, h => cases h; exact ⟨ok39, rfl⟩
    | 40, h => cases h; exact ⟨ok40, rfl⟩
    | 41, h => cases h; exact ⟨ok41, rfl⟩
    | 42, h => cases h; exact ⟨ok42, rfl⟩
    | _ + 43, h => cases h
theorem drk : DrOk m := ⟨rfl, by kernel_rfl, rfl, rfl, rfl, by kernel_rfl, rfl, rfl, by kernel_rfl, by kernel_rfl, fun f h => by
    match f, h with
    | 0, h => cases h
    | 1, h => cases h
    | 2, h => cases h
    | 3, h => cases h
    | 4, h => cases h
    | 5, h => cases h
    | 6, h => cases h
    | 7, h => cases h
    | 8, h => cases h
    | 9, h => cases h
    | 10, h => cases h
    | 11, h => cases h
    | 12, h => cases h
    | 13, h => cases h
    | 14, h => cases h
    | 15, h => cases h
    | 16, h => cases h
    | 17, h => cases h
    | 18, h => cases h
    | 19, h => cases h
    | 20, h => cases h
    | 21, h => cases h
    | 22, h => cases h
    | 23, h => cases h
    | 24, h => rfl
    | 25, h => cases h
    | 26, h => cases h
    | 27, h => cases h
    | 28, h => cases h
    | 29, h => cases h
    | 30, h => cases h
    | 31, h => cases h
    | 32, h => cases h
    | 33, h => cases h
    | 34, h => cases h
    | 35, h => cases h
    | 36, h => cases h
    | 37, h => cases h
    | 38, h => cases h
    | 39, h => cases h
    | 40, h => cases h
    | 41, h => cases h
    | 42, h => cases h
    | _ + 43, h => cases h⟩
theorem lok : L.Ok m := ⟨by kernel_rfl, rfl, rfl, by kernel_rfl, by kernel_rfl, by kernel_rfl, by kernel_rfl, by decide +kernel, fun f => by
    match f with
    | 0 => decide +kernel
    | 1 => decide +kernel
    | 2 => decide +kernel
    | 3 => decide +kernel
    | 4 => decide +kernel
    | 5 => decide +kernel
    | 6 => decide +kernel
    | 7 => decide +kernel
    | 8 => decide +kernel
    | 9 => decide +kernel
    | 10 => decide +kernel
    | 11 => decide +kernel
    | 12 => decide +kernel
    | 13 => decide +kernel
    | 14 => decide +kernel
    | 15 => decide +kernel
    | 16 => decide +kernel
    | 17 => decide +kernel
    | 18 => decide +kernel
    | 19 => decide +kernel
    | 20 => decide +kernel
    | 21 => decide +kernel
    | 22 => decide +kernel
    | 23 => decide +kernel
    | 24 => decide +kernel
    | 25 => decide +kernel
    | 26 => decide +kernel
    | 27 => decide +kernel
    | 28 => decide +kernel
    | 29 => decide +kernel
    | 30 => decide +kernel
    | 31 => decide +kernel
    | 32 => decide +kernel
    | 33 => decide +kernel
    | 34 => decide +kernel
    | 35 => decide +kernel
    | 36 => decide +kernel
    | 37 => decide +kernel
    | 38 => decide +kernel
    | 39 => decide +kernel
    | 40 => decide +kernel
    | 41 => decide +kernel
    | 42 => decide +kernel
    | _ + 43 => exact Nat.zero_le _⟩
theorem trk : TriOk m L t := ⟨by kernel_rfl, .mk _ _ _ _ _ _ _ _ _ _ _ _ _ _ _ _ _ _ _ _ _ _ _ _ _ _ _ _ _ _ _ _ _ _ _ _ _ _ _ _ _ _ _ _ (by kernel_rfl), by kernel_rfl, by kernel_rfl, ⟨_, _, _, _, _, rfl⟩, fun _ => ⟨by kernel_rfl, .mk _ _ _ _ _ _ _ _ _ _ _ _ _ _ _, by kernel_rfl, by kernel_rfl, by kernel_rfl, by kernel_rfl, by kernel_rfl⟩⟩
end Lw
end

section
set_option maxHeartbeats 4000000
set_option Elab.async false
set_option linter.all false
set_option maxRecDepth 100000
namespace Lw
open PySem Dp
def isW : D → Bool
  | .int i => decide (-1000000000000000000 < i) && decide (i < 1000000000000000000)
  | _ => false
theorem run0 (j : Nat) (d : D) (h : pk d = true) : P.run (j + 1) 0 [d] = .ret (.bl (isW d)) := by
  rw [run_go (P := P) (np := 1) (ns := 1) (b := b0) rfl rfl]
  cases d with
  | int i =>
    show T.bind (exl _ b0 [.v (.int i)]) fin = _
    unfold b0
    simp [isW]
    split <;> (simp_all <;> omega)
  | non => kernel_rfl
  | bl b => cases b <;> kernel_rfl
  | str s => kernel_rfl
  | tup l => kernel_rfl
  | lst l => kernel_rfl
  | dct => kernel_rfl
  | _ => cases h
theorem con1 : P.con 1 = .int 6 := rfl
theorem con2 : P.con 2 = .int 1000000 := rfl
/-- a number from a to b -/
def isNum (a b : Int) : D → Bool
  | .int i => (decide (-1000000000000000000 < i) && decide (i < 1000000000000000000)) && (decide (a ≤ i) && decide (i ≤ b))
  | _ => false
theorem call_K (j f : Nat) (ds : List D) : (P.K j).call f ds = P.run j f ds := rfl
theorem run1 (j : Nat) (d : D) (a b : Int) (h : pk d = true) : P.run (j + 2) 1 [d, .int a, .int b] = .ret (.bl (isNum a b d)) := by
  rw [run_go (P := P) (np := 3) (ns := 3) (b := b1) rfl rfl]
  show T.bind (exl _ b1 [.v d, .v (.int a), .v (.int b)]) fin = _
  unfold b1
  simp only [exl_ret, ev_and, ev_call, evs_cons, evs_nil, ev_v, look_z, bind_ret, run0 j d h, asB_bl]
  cases d with
  | int i =>
    simp [isW, isNum]
    split <;> (try split) <;> (simp_all <;> omega)
  | _ => simp [isW, isNum]
theorem run10 (j : Nat) (d : D) (h : pk d = true) : P.run (j + 3) 10 [d] = if isNum 1 6 d = true then .ret .non else .exc 2 [] := by
  rw [run_go (P := P) (np := 1) (ns := 1) (b := b10) rfl rfl]
  show T.bind (exl _ b10 [.v d]) fin = _
  unfold b10
  simp [con1, run1 j d 1 6 h]
  cases isNum 1 6 d <;> simp
/-- a worth that may stand -/
def okw (d : D) : Bool := d.isN || isNum (-1000000) 1000000 d
def goodW (m : Nat) : D → Bool
  | .tup ws => decide (ws.length = 2 ^ m) && (ws.all okw && ws.any fun d => !d.isN)
  | _ => false
theorem pow_t (m : Nat) (h1 : 1 ≤ m) (h2 : m ≤ 6) : ixD (.tup [.int 1, .int 2, .int 4, .int 8, .int 16, .int 32, .int 64]) (.int (m : Nat)) = .ret (.int (2 ^ m : Nat)) := by
  match m, h1, h2 with
  | 1, _, _ => kernel_rfl
  | 2, _, _ => kernel_rfl
  | 3, _, _ => kernel_rfl
  | 4, _, _ => kernel_rfl
  | 5, _, _ => kernel_rfl
  | 6, _, _ => kernel_rfl
theorem all_map (ws : List D) (f : D → Bool) : blsD (ws.map fun d => D.bl (f d)) = some (ws.map f) := by
  induction ws with
  | nil => rfl
  | cons d l ih => show (blsD (l.map fun d => D.bl (f d))).map (f d :: ·) = _; rw [ih]; rfl
theorem bi_all_map (ws : List D) (f : D → Bool) : biD .all [.lst (ws.map fun d => D.bl (f d))] = .ret (.bl (ws.all f)) := by
  show (match blsD (ws.map fun d => D.bl (f d)) with | some bs => T.ret (D.bl (bs.all id)) | none => T.bad) = _
  rw [all_map]
  simp [List.all_map]
theorem run13 (j m : Nat) (h1 : 1 ≤ m) (h2 : m ≤ 6) (v : D) (hv : pk v = true) (hi : ∀ ws, v = .tup ws → ∀ d ∈ ws, pk d = true) : P.run (j + 3) 13 [.int (m : Nat), v] = .ret (.bl (goodW m v)) := by
  rw [run_go (P := P) (np := 2) (ns := 3) (b := b13) rfl rfl]
  show T.bind (exl _ b13 [.v (.int (m : Nat)), .v v, .no]) fin = _
  unfold b13
  cases v with
  | tup ws =>
    have hi := hi ws rfl
    simp [pow_t m h1 h2]
    by_cases hl : ws.length = 2 ^ m
    · have hl2 : ws.length ≤ lim := by
        rw [hl]
        exact Nat.le_trans (Nat.pow_le_pow_right (by decide) h2) (by decide)
      have e1 : ev (P.K (j + 2)) (E.lc [(("worth" : Str), 2)] (Tg.n 2) (Src.e (E.v 1)) EO.no (E.or (E.cmp CmpOp.Is (E.v 2) (E.c Cst.non)) (E.or1 (E.call 1 (EL.cons (E.v 2) (EL.cons (E.neg (E.g 2)) (EL.cons (E.g 2) EL.nil))))))) [Slot.v (D.int (m : Nat)), Slot.v (D.tup ws), Slot.no] = .ret (.lst (ws.map fun d => D.bl (okw d))) := by
        rw [lc_pure (l := ws) (fun _ => true) (fun d => D.bl (okw d)) (by simp) hl2 fun d hd => ?_]
        · rw [filt_true]
        · refine ⟨_, rfl, rfl, fun _ => ?_⟩
          show ev _ _ [_, _, Slot.v d] = _
          simp [con2, run1 j d _ _ (hi d hd), okw]
          cases d.isN <;> simp
      have e2 : ev (P.K (j + 2)) (E.lc [(("worth" : Str), 2)] (Tg.n 2) (Src.e (E.v 1)) (EO.e (E.cmp CmpOp.IsNot (E.v 2) (E.c Cst.non))) (E.c (Cst.int 1))) [Slot.v (D.int (m : Nat)), Slot.v (D.tup ws), Slot.no] = .ret (.lst ((ws.filter fun d => !d.isN).map fun _ => D.int 1)) := by
        rw [lc_pure (l := ws) (fun d => !d.isN) (fun _ => D.int 1) (by simp) hl2 fun d hd => ?_]
        refine ⟨_, rfl, ?_, fun _ => rfl⟩
        show evc _ _ [_, _, Slot.v d] = _
        simp
      have hl3 : (ws.length : Int) = 2 ^ m := by rw [hl]; norm_cast
      have e3 := bi_all_map ws okw
      have e4 := ones_ne (ws.filter fun d => !d.isN)
      rw [filt_empty, Bool.not_not] at e4
      have eg : goodW m (.tup ws) = (ws.all okw && ws.any fun d => !d.isN) := by
        show (decide (ws.length = 2 ^ m) && _) = _
        rw [decide_eq_true hl, Bool.true_and]
      rw [eg]
      generalize (ws.all okw) = A at e3 ⊢
      generalize (ws.any fun d => !d.isN) = B at e4 ⊢
      simp [hl3, e1, e2, e3, e4]
      cases A <;> simp
    · have hl3 : ¬ (ws.length : Int) = 2 ^ m := by intro z; exact hl (by exact_mod_cast z)
      simp [hl3, goodW, hl]
  | int i => kernel_rfl
  | non => kernel_rfl
  | bl b => kernel_rfl
  | str i => kernel_rfl
  | lst i => kernel_rfl
  | dct => kernel_rfl
  | _ => cases hv
/-- how many things a value says -/
theorem isNum_int {a b : Int} {d : D} (h : isNum a b d = true) : ∃ i : Int, d = .int i ∧ a ≤ i ∧ i ≤ b := by
  cases d with
  | int i => simp [isNum] at h; exact ⟨i, rfl, h.2.1, h.2.2⟩
  | _ => cases h
/-- a table is made -/
def mkT (many worths : D) : T D := if isNum 1 6 many = true then (match many with
  | .int i => if goodW i.toNat worths = true then .ret (.ins 7 [many, worths]) else .exc 6 []
  | _ => .bad) else .exc 2 []
theorem run41 (j : Nat) (many v : D) (hm : pk many = true) (hv : pk v = true) (hi : ∀ ws, v = .tup ws → ∀ d ∈ ws, pk d = true) : P.run (j + 6) 41 [many, v] = mkT many v := by
  rw [run_mkP (P := P) (c := 7) (np := 3) (ns := 3) (b := b41) (fl := [1, 2]) rfl rfl]
  show T.bind (exl _ b41 [.lm 0, .v many, .v v]) _ = _
  unfold b41 mkT
  simp [run10 (j + 1) many hm]
  by_cases h : isNum 1 6 many = true
  · obtain ⟨i, rfl, h1, h2⟩ := isNum_int h
    have e : i = ((i.toNat : Nat) : Int) := by omega
    have r7 := run13 (j + 1) i.toNat (by omega) (by omega) v hv hi
    rw [← e] at r7
    simp [h, r7]
    cases goodW i.toNat v <;> simp [slotsD]
  · simp [h]
/-- the lots by their numbers -/
def lots : Nat → List D
  | 0 => [.tup []]
  | n + 1 => lots n ++ (lots n).map fun d => match d with | .tup l => .tup (l ++ [.int n]) | d => d
theorem run28 (j m : Nat) (h : m ≤ 6) : P.run (j + 1) 28 [.int (m : Nat)] = .ret (.lst (lots m)) := by
  match m, h with
  | 0, _ => kernel_rfl
  | 1, _ => kernel_rfl
  | 2, _ => kernel_rfl
  | 3, _ => kernel_rfl
  | 4, _ => kernel_rfl
  | 5, _ => kernel_rfl
  | 6, _ => kernel_rfl
def lotN (i : Nat) : D := (lots 6).getD i .non
/-- the lots of fewer things are the first ones -/
theorem lots_get : allN 7 (fun m => allN (2 ^ m) fun i => D.same ((lots m).getD i .non) (lotN i)) = true := by kernel_rfl
theorem lots_len : allN 7 (fun m => Nat.beq (lots m).length (2 ^ m)) = true := by kernel_rfl
theorem num5 (j : Nat) : allN 64 (fun i => match P.run (j + 1) 11 [lotN i] with | .ret (.int n) => decide (n = (i : Nat)) | _ => false) = true := by kernel_rfl
theorem num21 (j : Nat) : allN 64 (fun i => match P.run (j + 1) 27 [lotN i] with | .ret (.int n) => decide (n = (i : Nat)) | _ => false) = true := by kernel_rfl
theorem by6 (j : Nat) : allN 7 (fun m => allN (2 ^ m) fun i => match P.run (j + 1) 12 [.int (m : Nat), .int (i : Nat)] with | .ret d => D.same d (lotN i) | _ => false) = true := by kernel_rfl
end Lw
end

section
set_option Elab.async false
set_option linter.all false
set_option maxRecDepth 100000
set_option maxHeartbeats 4000000
namespace Lw
open PySem Dp
theorem gc_wh (K : Dp.C) (e : E) (he : ∀ x y : Nat, ev K e [.v (.int (x : Nat)), .v (.int (y : Nat))] = .ret (.int (x : Nat))) (x y : Nat) (h : y < 2 ^ 3000) :
    whL (fun δ' => (ev K (.cmp .NotEq (.v 1) (.c (.int 0))) δ').bind asB) (fun δ' => exl K (.cons (.par [(0, false), (1, false)] (.cons (.v 1) (.cons (.op .Mod e (.v 1)) .nil))) .nil) δ') wturn [.v (.int (x : Nat)), .v (.int (y : Nat))] = .ret (.nx [.v (.int ((Nat.gcd x y : Nat) : Nat)), .v (.int ((0 : Nat) : Nat))]) := by
  refine gcd_wh (fun x y => ?_) (fun x y hy => ?_) 3000 wturn x y h (by show 6001 ≤ 1000000; omega)
  · simp only [ev_cmp', ev_v, look_s, look_z, ev_c, cd_int, bind_ret, cK_int, cD_neI, asB_bl]
    congr 1
    by_cases hy : y = 0
    · simp [hy]
    · simp [hy]
  · have hp : (0 : Int) < (y : Nat) := by omega
    simp only [exl_par, evs_cons, evs_nil, ev_v, look_s, look_z, ev_op, he, bind_ret, op_modI, decide_eq_true hp, need_true, takes, take, Bool.false_eq_true, if_false, List.set_cons_succ, List.set_cons_zero, exl_nil]
    rfl
theorem run3 (j : Nat) (u l : Int) (hl : l.natAbs < 2 ^ 3000) : P.run (j + 1) 3 [.int u, .int l] = .ret (.int (Int.gcd u l : Nat)) := by
  rw [run_go (P := P) (np := 2) (ns := 2) (b := b3) rfl rfl]
  show T.bind (exl _ b3 [.v (.int u), .v (.int l)]) fin = _
  unfold b3
  simp only [exl_par, evs_cons, evs_nil, ev_bi, ev_v, look_s, look_z, bind_ret, bi_abs, takes, take, Bool.false_eq_true, if_false, List.set_cons_succ, List.set_cons_zero]
  rw [exl_wh, gc_wh (P.K j) (.v 0) (fun _ _ => rfl) _ _ hl]
  simp only [bind_ret, exl_ret, ev_v, look_z, fin_ret]
  rfl
theorem gcd_pos {u l : Int} (h : 0 < l) : 0 < Int.gcd u l := Int.gcd_pos_of_ne_zero_right _ (by omega)
theorem gcd_lt {u l : Int} (h : 0 < l) (hl : l.natAbs < 2 ^ 3000) : Int.gcd u l < 2 ^ 3000 :=
  Nat.lt_of_le_of_lt (Nat.le_of_dvd (by omega) (Nat.gcd_dvd_right u.natAbs l.natAbs)) hl
theorem run5 (j : Nat) (u l : Int) (h : 0 < l) (hl : l.natAbs < 2 ^ 3000) : P.run (j + 2) 5 [.int u, .int l] = .ret (Fq.mk' u l).D := by
  rw [run_go (P := P) (np := 2) (ns := 3) (b := b5) rfl rfl]
  show T.bind (exl _ b5 [.v (.int u), .v (.int l), .no]) fin = _
  unfold b5
  simp only [exl_set, ev_ite, ev_cmp', ev_v, look_s, look_z, ev_c, cd_int, bind_ret, cK_int, cD_gt, asB_bl, decide_eq_true h, if_true, ev_call, evs_cons, evs_nil, call_K, run3 j u l hl, List.set_cons_succ, List.set_cons_zero, exl_ret, ev_tup, ev_op, fdiv_ok _ (gcd_pos h) (gcd_lt h hl), fin_ret]
  rfl
section
variable {k : Nat} {a b : Fq} (ha : a.bd k) (hb : b.bd k) (hk : 2 * k + 1 ≤ 2900)
include ha hb hk
theorem pw_le {x i : Nat} (h : x < 2 ^ i) (hi : i ≤ 2900) : x < 2 ^ 3000 := Nat.lt_of_lt_of_le h (Nat.pow_le_pow_right (by decide) (by omega))
omit ha hb hk in
theorem ixn (f : Fq) : ixD f.D (.int 0) = .ret (.int f.n) := rfl
omit ha hb hk in
theorem ixd (f : Fq) : ixD f.D (.int 1) = .ret (.int f.d) := rfl
theorem fr_muls : opD .Mult (.int a.n) (.int b.d) = .ret (.int (a.n * b.d)) ∧ opD .Mult (.int b.n) (.int a.d) = .ret (.int (b.n * a.d)) ∧ opD .Mult (.int a.d) (.int b.d) = .ret (.int (a.d * b.d)) ∧ 0 < a.d * b.d ∧ (a.d * b.d).natAbs < 2 ^ 3000 := by
  have h1 : ∀ {x : Nat}, x < 2 ^ k → x < 2 ^ 3000 := fun h => Nat.lt_of_lt_of_le h (Nat.pow_le_pow_right (by decide) (by omega))
  exact ⟨mul_ok (h1 ha.n) (h1 hb.d), mul_ok (h1 hb.n) (h1 ha.d), mul_ok (h1 ha.d) (h1 hb.d), Int.mul_pos ha.p hb.p, Nat.lt_of_lt_of_le (Fq.mul_abs ha.d hb.d) (Nat.pow_le_pow_right (by decide) (by omega))⟩
theorem run6 (j : Nat) : P.run (j + 3) 6 [a.D, b.D] = .ret (Fq.plus a b).D := by
  rw [run_go (P := P) (np := 2) (ns := 2) (b := b6) rfl rfl]
  show T.bind (exl _ b6 [.v a.D, .v b.D]) fin = _
  unfold b6
  obtain ⟨e1, e2, e3, h1, h2⟩ := fr_muls ha hb hk
  simp only [exl_ret, ev_call, evs_cons, evs_nil, ev_op, ev_ix, ev_v, look_s, look_z, ev_c, cd_int, bind_ret, ixn, ixd, e1, e2, e3, op_addI, op_subI, call_K]
  rw [run5 j _ _ h1 h2]; rfl
theorem run7 (j : Nat) : P.run (j + 3) 7 [a.D, b.D] = .ret (Fq.minus a b).D := by
  rw [run_go (P := P) (np := 2) (ns := 2) (b := b7) rfl rfl]
  show T.bind (exl _ b7 [.v a.D, .v b.D]) fin = _
  unfold b7
  obtain ⟨e1, e2, e3, h1, h2⟩ := fr_muls ha hb hk
  simp only [exl_ret, ev_call, evs_cons, evs_nil, ev_op, ev_ix, ev_v, look_s, look_z, ev_c, cd_int, bind_ret, ixn, ixd, e1, e2, e3, op_addI, op_subI, call_K]
  rw [run5 j _ _ h1 h2]; rfl
theorem run8 (j : Nat) : P.run (j + 1) 8 [a.D, b.D] = .ret (.bl (Fq.below a b)) := by
  rw [run_go (P := P) (np := 2) (ns := 2) (b := b8) rfl rfl]
  show T.bind (exl _ b8 [.v a.D, .v b.D]) fin = _
  unfold b8
  obtain ⟨e1, e2, e3, h1, h2⟩ := fr_muls ha hb hk
  simp only [exl_ret, ev_cmp', ev_op, ev_ix, ev_v, look_s, look_z, ev_c, cd_int, bind_ret, ixn, ixd, e1, e2, cK_int, cD_lt, fin_ret]
  rfl
end
/-- the sum of some: the state of the loop -/
def SI (z : D) (l : List Fq) (i : Nat) (δ : Dp.Env) : Prop := ∃ s, δ = [.v z, .v ((l.take i).foldl Fq.plus ⟨0, 1⟩).D, s]
theorem bd0 : Fq.bd 1 ⟨0, 1⟩ := ⟨by decide, by decide, by decide⟩
theorem take_bd {k : Nat} {l : List Fq} (h : ∀ f ∈ l, f.bd k) (hl : l.length ≤ 6) (i : Nat) : Fq.bd (1 + 6 * (k + 1)) ((l.take i).foldl Fq.plus ⟨0, 1⟩) :=
  Fq.sum_bd (fun f hf => h f (List.mem_of_mem_take hf)) (by rw [List.length_take]; omega)
theorem run9 (j : Nat) {k : Nat} {l : List Fq} (h : ∀ f ∈ l, f.bd k) (hl : l.length ≤ 6) (hk : 2 * (1 + 6 * (k + 1)) + 1 ≤ 2900) : P.run (j + 4) 9 [.lst (l.map Fq.D)] = .ret (Fq.sum l).D := by
  rw [run_go (P := P) (np := 1) (ns := 3) (b := b9) rfl rfl]
  show T.bind (exl _ b9 [.v (.lst (l.map Fq.D)), .no, .no]) fin = _
  unfold b9
  simp only [exl_set, ev_tup, evs_cons, evs_nil, ev_c, cd_int, bind_ret, List.set_cons_succ, List.set_cons_zero]
  obtain ⟨δ3, ⟨s, rfl⟩, e⟩ := exl_for_eq (K := P.K (j + 3)) (t := .n 2) (sr := .e (.v 0)) (b := (.cons (.set 1 false (.call 6 (.cons (.v 1) (.cons (.v 2) .nil)))) .nil)) (l := (.cons (.ret (.v 1)) .nil)) (δ := [.v (.lst (l.map Fq.D)), .v (.tup [.int 0, .int 1]), .no]) (ds := l.map Fq.D) (SI (.lst (l.map Fq.D)) l) rfl (by rw [List.length_map]; exact Nat.le_trans hl (by decide)) ⟨_, rfl⟩ (fun i d hd δ hi => by
    obtain ⟨s, rfl⟩ := hi
    rw [List.getElem?_map] at hd
    cases q : l[i]? with
    | none => rw [q] at hd; cases hd
    | some f =>
      rw [q] at hd
      cases hd
      refine ⟨_, _, rfl, ?_, ⟨.v f.D, rfl⟩⟩
      have hb := (h f (List.mem_of_getElem? q)).mono (show k ≤ 1 + 6 * (k + 1) by omega)
      have := run6 (take_bd h hl i) hb hk j
      show exl _ _ [_, _, Slot.v f.D] = _
      simp only [exl_set, ev_call, evs_cons, evs_nil, ev_v, look_s, look_z, bind_ret, call_K, this, List.set_cons_succ, List.set_cons_zero, exl_nil, foldl_take _ _ q])
  rw [e]
  simp only [exl_ret, ev_v, look_s, look_z, bind_ret, fin_ret, List.length_map, List.take_length]
  rfl
end Lw
end

section
set_option maxHeartbeats 4000000
set_option Elab.async false
set_option linter.all false
set_option maxRecDepth 100000
namespace Lw
open PySem Dp
theorem len_lots {m : Nat} (h : m ≤ 6) : (lots m).length = 2 ^ m := by
  have := allN_ok lots_len m (by omega)
  exact Nat.eq_of_beq_eq_true this
theorem lots_at {m i : Nat} (h : m ≤ 6) (hi : i < 2 ^ m) : (lots m)[i]? = some (lotN i) := by
  have e := D.same_ok (allN_ok (allN_ok lots_get m (by omega)) i hi)
  rw [List.getD_eq_getElem?_getD] at e
  have hl : i < (lots m).length := by rw [len_lots h]; exact hi
  rw [List.getElem?_eq_getElem hl] at e ⊢
  exact congrArg some e
theorem p64 {m i : Nat} (h : m ≤ 6) (hi : i < 2 ^ m) : i < 64 := Nat.lt_of_lt_of_le hi (Nat.pow_le_pow_right (by decide) h)
theorem run11 (j i : Nat) (h : i < 64) : P.run (j + 1) 11 [lotN i] = .ret (.int (i : Nat)) := by
  have e := allN_ok (num5 j) i h
  split at e
  · rename_i n hn; rw [hn, of_decide_eq_true e]
  · cases e
theorem run27 (j i : Nat) (h : i < 64) : P.run (j + 1) 27 [lotN i] = .ret (.int (i : Nat)) := by
  have e := allN_ok (num21 j) i h
  split at e
  · rename_i n hn; rw [hn, of_decide_eq_true e]
  · cases e
theorem run12 (j m i : Nat) (h : m ≤ 6) (hi : i < 2 ^ m) : P.run (j + 1) 12 [.int (m : Nat), .int (i : Nat)] = .ret (lotN i) := by
  have e := allN_ok (allN_ok (by6 j) m (by omega)) i hi
  split at e
  · rename_i n hn; rw [hn, D.same_ok e]
  · cases e
/-- a table as the law draws it -/
structure Good (m : Nat) (ws : List D) : Prop where
  h1 : 1 ≤ m
  h6 : m ≤ 6
  len : ws.length = 2 ^ m
  ok : ∀ d ∈ ws, okw d = true
  some : ∃ d ∈ ws, d.isN = false
def tb (m : Nat) (ws : List D) : D := .ins 7 [.int (m : Nat), .tup ws]
theorem okw_pk {d : D} (h : okw d = true) : pk d = true := by
  cases d <;> first | rfl | (simp [okw, D.isN, isNum] at h)
theorem Good.gw {m : Nat} {ws : List D} (g : Good m ws) : goodW m (.tup ws) = true := by
  show (decide (ws.length = 2 ^ m) && (ws.all okw && ws.any fun d => !d.isN)) = true
  rw [decide_eq_true g.len, List.all_eq_true.mpr g.ok, Bool.true_and, Bool.true_and]
  obtain ⟨d, hd, e⟩ := g.some
  exact List.any_eq_true.mpr ⟨d, hd, by rw [e]; rfl⟩
theorem num16 {m : Nat} (h1 : 1 ≤ m) (h6 : m ≤ 6) : isNum 1 6 (.int (m : Nat)) = true := by
  simp [isNum]; omega
theorem Good.made {m : Nat} {ws : List D} (g : Good m ws) (j : Nat) : P.run (j + 6) 41 [.int (m : Nat), .tup ws] = .ret (tb m ws) := by
  rw [run41 j _ _ rfl rfl fun l e d hd => by cases e; exact okw_pk (g.ok d hd)]
  unfold mkT
  rw [if_pos (num16 g.h1 g.h6)]
  dsimp only
  rw [show (Int.toNat ((m : Nat) : Int)) = m from rfl, if_pos g.gw]; rfl
theorem run14 (j m : Nat) (ws : List D) : P.run (j + 1) 14 [tb m ws] = .ret .non := by kernel_rfl
theorem run14x (j : Nat) (d : D) (h : pk d = true) : P.run (j + 1) 14 [d] = .exc 5 [] := by
  cases d <;> first | (cases h; done) | kernel_rfl
@[simp] theorem ev_fld (K : C) (δ : Dp.Env) (a : E) (x : Str) : ev K (.fld a x) δ = (ev K a δ).bind fun o => match o with
      | .ins c l => (match l[K.fld c x]? with | some d => .ret d | none => .bad)
      | _ => .bad := rfl
theorem fld0 (j : Nat) (δ : Dp.Env) (m : Nat) (ws : List D) (a : E) (h : ev (P.K j) a δ = .ret (tb m ws)) : ev (P.K j) (.fld a ("many" : Str)) δ = .ret (.int (m : Nat)) := by
  rw [ev_fld, h]; kernel_rfl
theorem fld1 (j : Nat) (δ : Dp.Env) (m : Nat) (ws : List D) (a : E) (h : ev (P.K j) a δ = .ret (tb m ws)) : ev (P.K j) (.fld a ("worths" : Str)) δ = .ret (.tup ws) := by
  rw [ev_fld, h]; kernel_rfl
end Lw
end

section
set_option maxHeartbeats 4000000
set_option Elab.async false
set_option linter.all false
set_option maxRecDepth 100000
namespace Lw
open PySem Dp
/-- the lots with a worth, from the number k on -/
def hadF : Nat → List D → List D
  | _, [] => []
  | k, d :: l => if d.isN = true then hadF (k + 1) l else lotN k :: hadF (k + 1) l
def wN : D → Bool
  | .tup [_, w] => !w.isN
  | _ => false
def fst : D → D
  | .tup [l, _] => l
  | d => d
def fstN : D → D
  | .tup [.int i, _] => lotN i.toNat
  | d => d
theorem enum_had : ∀ (l : List D) (k : Nat), ((enumD k l).filter wN).map fstN = hadF k l
  | [], _ => rfl
  | d :: l, k => by
    show (((.tup [.int (k : Nat), d]) :: enumD (k + 1) l).filter wN).map fstN = if d.isN = true then hadF (k + 1) l else lotN k :: hadF (k + 1) l
    have ih := enum_had l (k + 1)
    cases h : d.isN with
    | true =>
      have e : wN (.tup [.int (k : Nat), d]) = false := by show (!d.isN) = false; rw [h]; rfl
      rw [List.filter_cons_of_neg (by rw [e]; decide), ih]; rfl
    | false =>
      have e : wN (.tup [.int (k : Nat), d]) = true := by show (!d.isN) = true; rw [h]; rfl
      rw [List.filter_cons_of_pos e, List.map_cons, ih]; rfl
theorem zip_had : ∀ (l L : List D) (k : Nat), (∀ i, i < l.length → L[i]? = some (lotN (k + i))) → ((zipD L l).filter wN).map fst = hadF k l
  | [], [], _, _ => rfl
  | [], _ :: _, _, _ => rfl
  | d :: l, [], k, h => by have := h 0 (by simp); cases this
  | d :: l, x :: L, k, h => by
    have hx : x = lotN k := by have := h 0 (by simp); simpa using this
    subst hx
    show (((.tup [lotN k, d]) :: zipD L l).filter wN).map fst = if d.isN = true then hadF (k + 1) l else lotN k :: hadF (k + 1) l
    have ih := zip_had l L (k + 1) fun i hi => by
      have := h (i + 1) (by simp; omega)
      rw [show k + 1 + i = k + (i + 1) by omega]; simpa using this
    cases h : d.isN with
    | true =>
      have e : wN (.tup [lotN k, d]) = false := by show (!d.isN) = false; rw [h]; rfl
      rw [List.filter_cons_of_neg (by rw [e]; decide), ih]; rfl
    | false =>
      have e : wN (.tup [lotN k, d]) = true := by show (!d.isN) = true; rw [h]; rfl
      rw [List.filter_cons_of_pos e, List.map_cons, ih]; rfl
theorem enum_mem {l : List D} {d : D} (h : d ∈ enumD 0 l) : ∃ (i : Nat) (w : D), i < l.length ∧ d = .tup [.int (i : Nat), w] ∧ w ∈ l := by
  obtain ⟨i, hi⟩ := List.getElem?_of_mem h
  obtain ⟨w, h1, h2⟩ := enum_get hi
  exact ⟨i, w, (List.getElem?_eq_some_iff.mp h1).1, by rw [h2]; simp, List.mem_of_getElem? h1⟩
theorem lim64 {m : Nat} (h : m ≤ 6) : 2 ^ m ≤ lim := Nat.le_trans (Nat.pow_le_pow_right (by decide) h) (by decide)
/-! None among them -/
/-- the words of a caught error -/
def wordOf : Nat → Str
  | 1 => "lot "
  | 2 => "many "
  | 5 => "table "
  | 6 => "worths "
  | _ => ""
theorem run40 (j : Nat) : P.run (j + 1) 40 [.non] = .ret (.str "") ∧ P.run (j + 1) 40 [.exc 1 []] = .ret (.str "lot ") ∧ P.run (j + 1) 40 [.exc 2 []] = .ret (.str "many ") ∧ P.run (j + 1) 40 [.exc 5 []] = .ret (.str "table ") ∧ P.run (j + 1) 40 [.exc 6 []] = .ret (.str "worths ") :=
  ⟨by kernel_rfl, by kernel_rfl, by kernel_rfl, by kernel_rfl, by kernel_rfl⟩
end Lw
end

section
set_option maxHeartbeats 4000000
set_option Elab.async false
set_option linter.all false
set_option maxRecDepth 100000
namespace Lw
open PySem Dp
/-- a worth as the library has it -/
def pyW : D → PyData
  | .int i => .int i
  | _ => .none
theorem okw_cases {d : D} (h : okw d = true) : d = .non ∨ ∃ i : Int, d = .int i ∧ -1000000 ≤ i ∧ i ≤ 1000000 := by
  cases d with
  | non => exact .inl rfl
  | int i => simp [okw, D.isN, isNum] at h; exact .inr ⟨i, rfl, h.2.1, h.2.2⟩
  | _ => simp [okw, D.isN, isNum] at h
theorem okw_py {d : D} (h : okw d = true) : d.py = some (pyW d) := by
  rcases okw_cases h with rfl | ⟨i, rfl, _⟩ <;> simp only [D.py, pyW]
theorem pys_W : ∀ {ws : List D}, (∀ d ∈ ws, okw d = true) → D.pys ws = some (ws.map pyW)
  | [], _ => by simp only [D.pys, List.map_nil]
  | d :: l, h => by simp only [D.pys, List.map_cons, okw_py (h d List.mem_cons_self), pys_W fun d hd => h d (List.mem_cons_of_mem _ hd)]
theorem lay_W : ∀ (ws : List D), PyData.canLayAll0 (ws.map pyW) = true ∧ PyData.depthAll (ws.map pyW) = 0
  | [] => by simp only [List.map_nil, PyData.canLayAll0, PyData.depthAll, and_self]
  | d :: l => by
    obtain ⟨a, b⟩ := lay_W l
    have : PyData.canLay0 (pyW d) = true ∧ (pyW d).depth = 0 := by cases d <;> simp only [pyW, PyData.canLay0, PyData.depth, and_self]
    simp only [List.map_cons, PyData.canLayAll0, PyData.depthAll, this.1, this.2, a, b, Bool.and_self, Nat.max_self, and_self]
theorem py_tupW {ws : List D} (h : ∀ d ∈ ws, okw d = true) : (D.tup ws).py = some (.tuple (ws.map pyW)) := by simp only [D.py, pys_W h, Option.map_some]
theorem shaped_W (ws : List D) : SeqAt.shaped (.list (ws.map pyW)) = true := by
  obtain ⟨a, b⟩ := lay_W ws
  unfold SeqAt.shaped
  simp only [PyData.canLay0, PyData.depth, a, b]; rfl
theorem none_in : ∀ {ws : List D}, (∀ d ∈ ws, okw d = true) → ((ws.map pyW).any fun z => PyData.eqv z .none) = ws.any D.isN
  | [], _ => rfl
  | d :: l, h => by
    have ih := none_in (ws := l) fun d hd => h d (List.mem_cons_of_mem _ hd)
    have : PyData.eqv (pyW d) .none = d.isN := by
      rcases okw_cases (h d List.mem_cons_self) with rfl | ⟨i, rfl, _⟩ <;> simp [pyW, PyData.eqv, D.isN]
    rw [List.map_cons, List.any_cons, List.any_cons, this, ih]
/-- two rows of worths -/
theorem eqv_W : ∀ {ws vs : List D}, (∀ d ∈ ws, okw d = true) → (∀ d ∈ vs, okw d = true) → (PyData.eqvAll (ws.map pyW) (vs.map pyW) = true ↔ ws = vs)
  | [], [], _, _ => by simp [PyData.eqvAll]
  | [], _ :: _, _, _ => by simp [PyData.eqvAll]
  | _ :: _, [], _, _ => by simp [PyData.eqvAll]
  | d :: l, e :: k, h, q => by
    have ih := eqv_W (ws := l) (vs := k) (fun d hd => h d (List.mem_cons_of_mem _ hd)) fun d hd => q d (List.mem_cons_of_mem _ hd)
    have : PyData.eqv (pyW d) (pyW e) = true ↔ d = e := by
      rcases okw_cases (h d List.mem_cons_self) with rfl | ⟨i, rfl, _⟩ <;> rcases okw_cases (q e List.mem_cons_self) with rfl | ⟨i2, rfl, _⟩ <;> simp [pyW, PyData.eqv]
    simp only [List.map_cons, PyData.eqvAll, Bool.and_eq_true, this, ih, List.cons.injEq]
theorem rkW {d : D} (h : okw d = true) : rkD d 0 2000 := by
  rcases okw_cases h with rfl | ⟨i, rfl, h1, h2⟩
  · exact rkD_non
  · exact rkD_int (Nat.lt_of_le_of_lt (by omega : i.natAbs ≤ 1000000) (by decide +kernel))
theorem rkWs {m : Nat} {ws : List D} (g : Good m ws) : rkD (.tup ws) 1 200000 := by
  refine rkD_mono (rkD_tup fun d hd => rkW (g.ok d hd)) (Nat.le_refl _) ?_
  have : ws.length ≤ 64 := by rw [g.len]; exact Nat.pow_le_pow_right (by decide) g.h6
  omega
theorem rok_mw {m : Nat} {ws : List D} (g : Good m ws) : rOk (.lst [.int (m : Nat), .tup ws]) = true := by
  refine rOk_lst (a := 1) (b := 200000) (fun d hd => ?_) (by decide) (by simp)
  simp only [List.mem_cons, List.not_mem_nil, or_false] at hd
  rcases hd with rfl | rfl
  · exact rkD_mono (rkD_int (Nat.lt_of_le_of_lt (by have := g.h6; omega : ((m : Nat) : Int).natAbs ≤ 1000000) (by decide +kernel))) (by decide) (by decide)
  · exact rkWs g
theorem rok_2 {d : D} (h : okw d = true) : rOk (.lst [d, d]) = true := by
  refine rOk_lst (a := 0) (b := 2000) (fun e he => ?_) (by decide) (by simp)
  simp only [List.mem_cons, List.not_mem_nil, or_false, or_self] at he
  subst he; exact rkW h
theorem lot_rk : allN 64 (fun i => match (lotN i).py with | some p => rk p && (Nat.ble p.depth 1 && Nat.ble (wt p) 13000) | none => false) = true := by kernel_rfl
theorem rk_lot {i : Nat} (h : i < 64) : rkD (lotN i) 1 13000 := by
  have e := allN_ok lot_rk i h
  split at e
  · rename_i p hp
    rw [Bool.and_eq_true, Bool.and_eq_true] at e
    exact ⟨p, hp, e.1, Nat.le_of_ble_eq_true e.2.1, Nat.le_of_ble_eq_true e.2.2⟩
  · cases e
theorem had_mem : ∀ {l : List D} {k : Nat} {d : D}, d ∈ hadF k l → ∃ i, i < l.length ∧ d = lotN (k + i)
  | [], _, _, h => by cases h
  | e :: l, k, d, h => by
    have h : d ∈ (if e.isN = true then hadF (k + 1) l else lotN k :: hadF (k + 1) l) := h
    have tail : d ∈ hadF (k + 1) l → ∃ i, i < (e :: l).length ∧ d = lotN (k + i) := fun h => by
      obtain ⟨i, h1, h2⟩ := had_mem h
      exact ⟨i + 1, by simp; omega, by rw [h2]; congr 1; omega⟩
    split at h
    · exact tail h
    · rcases List.mem_cons.mp h with rfl | h
      · exact ⟨0, by simp, rfl⟩
      · exact tail h
theorem had_len : ∀ (l : List D) (k : Nat), (hadF k l).length ≤ l.length
  | [], _ => Nat.le_refl _
  | e :: l, k => by
    show (if e.isN = true then hadF (k + 1) l else lotN k :: hadF (k + 1) l).length ≤ _
    have := had_len l (k + 1)
    split <;> simp <;> omega
theorem rok_had {m : Nat} {ws : List D} (g : Good m ws) : rOk (.lst [.tup (hadF 0 ws), .tup (hadF 0 ws)]) = true := by
  have hl : ws.length ≤ 64 := by rw [g.len]; exact Nat.pow_le_pow_right (by decide) g.h6
  have h1 := had_len ws 0
  refine rOk_lst (a := 2) (b := 1000000) (fun e he => ?_) (by decide) (by simp)
  simp only [List.mem_cons, List.not_mem_nil, or_false, or_self] at he
  subst he
  refine rkD_mono (rkD_tup (a := 1) (b := 13000) fun d hd => ?_) (Nat.le_refl _) (by omega)
  obtain ⟨i, h1, rfl⟩ := had_mem hd
  rw [Nat.zero_add]
  exact rk_lot (by omega)
end Lw
end

section
set_option maxHeartbeats 4000000
set_option Elab.async false
set_option linter.all false
set_option maxRecDepth 100000
namespace Lw
open PySem Dp
/-! ### draws -/
theorem run24 (j n : Nat) : P.run (j + 7) 24 [.st, .int (n : Nat)] = .draw n fun r => .ret (.int (r : Nat)) := by
  unfold Prg.run
  show (if j + 6 < 6 then T.bad else _) = _
  rw [if_neg (by omega)]; rfl
theorem draw_ok {j n : Nat} (h1 : 0 < n) (h2 : n < 1000000000) : T.ok (P.run (j + 7) 24 [.st, .int (n : Nat)]) (fun d => ∃ r : Nat, r < n ∧ d = .int (r : Nat)) (fun _ _ => False) := by
  rw [run24]
  exact ⟨h1, Nat.lt_trans h2 (by unfold T.most; decide +kernel), fun r hr => ⟨r, hr, rfl⟩⟩
theorem ix_lst {l : List D} {r : Nat} (h : r < l.length) : ∃ d ∈ l, ixD (.lst l) (.int (r : Nat)) = .ret d := by
  refine ⟨l[r], List.getElem_mem h, ?_⟩
  show (match ixAt l (r : Nat) with | some d => T.ret d | none => T.bad) = _
  unfold ixAt
  rw [if_pos (by omega), show ((r : Nat) : Int).toNat = r from rfl, List.getElem?_eq_getElem h]
theorem ix_tup {l : List D} {r : Nat} {d : D} (h : l[r]? = some d) : ixD (.tup l) (.int (r : Nat)) = .ret d := by
  show (match ixAt l (r : Nat) with | some d => T.ret d | none => T.bad) = _
  unfold ixAt
  rw [if_pos (by omega), show ((r : Nat) : Int).toNat = r from rfl, h]
theorem ix_lst' {l : List D} {r : Nat} {d : D} (h : l[r]? = some d) : ixD (.lst l) (.int (r : Nat)) = .ret d := by
  show (match ixAt l (r : Nat) with | some d => T.ret d | none => T.bad) = _
  unfold ixAt
  rw [if_pos (by omega), show ((r : Nat) : Int).toNat = r from rfl, h]
theorem pick_ok {j : Nat} {l : List D} (h1 : 0 < l.length) (h2 : l.length < 1000000000) : T.ok (P.run (j + 8) 25 [.st, .lst l]) (fun d => d ∈ l) (fun _ _ => False) := by
  rw [run_go (P := P) (np := 2) (ns := 2) (b := b25) rfl rfl]
  show T.ok (T.bind (exl _ b25 [.v .st, .v (.lst l)]) fin) _ _
  unfold b25
  simp only [exl_ret, ev_ix, ev_call, ev_bi, evs_cons, evs_nil, ev_v, look_z, look_s, bind_ret, bi_len2, call_K, run24, bind_draw]
  refine ⟨h1, Nat.lt_trans h2 (by unfold T.most; decide +kernel), fun r hr => ?_⟩
  obtain ⟨d, hd, e⟩ := ix_lst hr
  dsimp only
  rw [e]; exact hd
theorem rng_map (n : Nat) (h : n ≤ 1000) : rngD 0 (n : Nat) = .ret ((List.range n).map fun (i : Nat) => D.int (i : Nat)) := by
  unfold rngD
  have e : (decide (-(10 ^ 9) ≤ (0 : Int)) && decide ((0 : Int) ≤ 10 ^ 9) && decide (((n : Nat) : Int) ≤ 10 ^ 9) && decide (-(10 ^ 9) ≤ ((n : Nat) : Int)) && decide (((n : Nat) : Int) - 0 ≤ lim)) = true := by
    have : lim = 1000000 := rfl
    simp only [Bool.and_eq_true, decide_eq_true_eq, this]; omega
  rw [e, need_true]
  have e2 : ((((n : Nat) : Int)) - 0).toNat = n := by omega
  rw [e2]
  congr 1
  refine List.map_congr_left fun i _ => ?_
  rw [Int.zero_add]
/-- whole, no further from 0 than b -/
def inB (b : Nat) (d : D) : Prop := ∃ i : Int, d = .int i ∧ -(b : Int) ≤ i ∧ i ≤ b
/-- one draw between -b and b -/
theorem sym_ok {j b i : Nat} {δ : Dp.Env} (h : b ≤ 100000) (h0 : look δ 0 = .v .st) (h2 : look δ i = .v (.int (b : Nat))) :
    T.ok (ev (P.K (j + 7)) (.op .Sub (.call 24 (.cons (.v 0) (.cons (.op .Add (.op .Mult (.c (.int 2)) (.v i)) (.c (.int 1))) .nil))) (.v i)) δ) (inB b) (fun _ _ => False) := by
  have e : (small 2 : Bool) = true := by decide +kernel
  have e2 : (2 * ((b : Nat) : Int) + 1) = ((2 * b + 1 : Nat) : Int) := by omega
  simp only [ev_op, ev_call, evs_cons, evs_nil, ev_v, ev_c, cd_int, h0, h2, bind_ret, op_mulI, e, Bool.or_true, Bool.true_or, need_true, op_addI, call_K, e2, run24, bind_draw, op_subI]
  refine ⟨by omega, Nat.lt_of_le_of_lt (by omega : 2 * b + 1 ≤ 200001) (by unfold T.most; decide +kernel), fun r hr => ⟨_, rfl, by omega, by omega⟩⟩
theorem run29_ok {j m b : Nat} (h1 : m ≤ 6) (h : b ≤ 100000) : T.ok (P.run (j + 8) 29 [.st, .int (m : Nat), .int (b : Nat)]) (fun d => ∃ ps, d = .tup ps ∧ ps.length = m ∧ ∀ p ∈ ps, inB b p) (fun _ _ => False) := by
  rw [run_go (P := P) (np := 3) (ns := 4) (b := b29) rfl rfl]
  show T.ok (T.bind (exl _ b29 [.v .st, .v (.int (m : Nat)), .v (.int (b : Nat)), .no]) fin) _ _
  unfold b29
  have e := rng_map m (by omega)
  simp only [exl_ret, ev_bi, evs_cons, evs_nil, bind_bind]
  refine T.ok_bind.mpr (T.ok_mono (fun y hy => ?_) (fun _ _ z => z) (lc_ok (l := (List.range m).map fun (i : Nat) => D.int (i : Nat)) (fun _ p => inB b p) (by simp [e]) (by simp; exact Nat.le_trans h1 (by decide)) fun d hd => ⟨_, rfl, ?_⟩))
  · obtain ⟨ys, rfl, hf⟩ := hy
    simp only [bind_ret, bi_tup]
    exact ⟨ys, rfl, by rw [← hf.len]; simp, F2.all (Q := inB b) (fun _ _ h => h) hf⟩
  · exact sym_ok (by omega) rfl rfl
theorem run31_ok {j m b : Nat} (h1 : m ≤ 6) (h : b ≤ 1000) : T.ok (P.run (j + 8) 31 [.st, .int (m : Nat), .int (b : Nat)]) (fun d => ∃ ps, d = .tup ps ∧ ps.length = 2 ^ m ∧ ∀ p ∈ ps, inB b p) (fun _ _ => False) := by
  rw [run_go (P := P) (np := 3) (ns := 4) (b := b31) rfl rfl]
  show T.ok (T.bind (exl _ b31 [.v .st, .v (.int (m : Nat)), .v (.int (b : Nat)), .no]) fin) _ _
  unfold b31
  have e := run28 (j + 6) m h1
  simp only [exl_ret, ev_bi, evs_cons, evs_nil, bind_bind]
  refine T.ok_bind.mpr (T.ok_mono (fun y hy => ?_) (fun _ _ z => z) (lc_ok (l := lots m) (fun _ p => inB b p) (by simp [e]) (by rw [len_lots h1]; exact lim64 h1) fun d hd => ⟨_, rfl, ?_⟩))
  · obtain ⟨ys, rfl, hf⟩ := hy
    simp only [bind_ret, bi_tup]
    exact ⟨ys, rfl, by rw [← hf.len, len_lots h1], F2.all (Q := inB b) (fun _ _ h => h) hf⟩
  · exact sym_ok (by omega) rfl rfl
end Lw
end

section
set_option maxHeartbeats 4000000
set_option Elab.async false
set_option linter.all false
set_option maxRecDepth 100000
namespace Lw
open PySem Dp
/-! ### rising -/
def lotL (k : Nat) : List D := match lotN k with | .tup l => l | _ => []
theorem lotL_ok : allN 64 (fun k => D.same (lotN k) (.tup (lotL k)) && (Nat.ble (lotL k).length 6 && (Nat.beq k 0 || Nat.ble 1 (lotL k).length))) = true := by kernel_rfl
theorem lotL_eq {k : Nat} (h : k < 64) : lotN k = .tup (lotL k) ∧ (lotL k).length ≤ 6 ∧ (k ≠ 0 → 1 ≤ (lotL k).length) := by
  have e := allN_ok lotL_ok k h
  rw [Bool.and_eq_true, Bool.and_eq_true] at e
  refine ⟨D.same_ok e.1, Nat.le_of_ble_eq_true e.2.1, fun z => ?_⟩
  rcases Bool.or_eq_true_iff.mp e.2.2 with q | q
  · exact absurd (Nat.eq_of_beq_eq_true q) z
  · exact Nat.le_of_ble_eq_true q
theorem ne_e : allN 64 (fun k => match cmpD .NotEq (.tup (lotL k)) (.tup []) with | .ret (.bl b) => b == !Nat.beq k 0 | _ => false) = true := by kernel_rfl
theorem ne_empty {k : Nat} (h : k < 64) : cmpD .NotEq (.tup (lotL k)) (.tup []) = .ret (.bl (!Nat.beq k 0)) := by
  have e := allN_ok ne_e k h
  split at e
  · rename_i b hb; rw [hb, eq_of_beq e]
  · cases e
/-- a lot without the thing at a place comes ahead -/
theorem less21 (j : Nat) : allN 64 (fun k => allN (lotL k).length fun a => match P.run (j + 1) 27 [.tup (cutD (lotL k) none (some (a : Nat)) ++ cutD (lotL k) (some ((a : Nat) + 1)) none)] with | .ret (.int n) => decide (0 ≤ n) && decide (n < (k : Nat)) | _ => false) = true := by kernel_rfl
theorem less_at (j k a : Nat) (h : k < 64) (ha : a < (lotL k).length) : ∃ n : Nat, n < k ∧ P.run (j + 1) 27 [.tup (cutD (lotL k) none (some (a : Nat)) ++ cutD (lotL k) (some ((a : Nat) + 1)) none)] = .ret (.int (n : Nat)) := by
  have e := allN_ok (allN_ok (less21 j) k h) a ha
  split at e
  · rename_i n hn
    rw [Bool.and_eq_true, decide_eq_true_eq, decide_eq_true_eq] at e
    exact ⟨n.toNat, by omega, by rw [hn]; congr 2; omega⟩
  · cases e
/-- whole, from 0 to b -/
def inP (b : Nat) (d : D) : Prop := ∃ i : Int, d = .int i ∧ 0 ≤ i ∧ i ≤ b
theorem ints_of {b : Nat} : ∀ {l : List D}, (∀ d ∈ l, inP b d) → ∃ ns : List Int, intsD l = some ns ∧ ns.length = l.length ∧ ∀ n ∈ ns, 0 ≤ n ∧ n ≤ b
  | [], _ => ⟨[], rfl, rfl, fun n h => by cases h⟩
  | d :: l, h => by
    obtain ⟨i, rfl, h1, h2⟩ := h d List.mem_cons_self
    obtain ⟨ns, e1, e2, e3⟩ := ints_of (l := l) fun d hd => h d (List.mem_cons_of_mem _ hd)
    refine ⟨i :: ns, by show (intsD l).map (i :: ·) = _; rw [e1]; rfl, by simp [e2], fun n hn => ?_⟩
    rcases List.mem_cons.mp hn with rfl | hn
    · exact ⟨h1, h2⟩
    · exact e3 n hn
theorem max_of {b : Nat} {l : List D} (h : ∀ d ∈ l, inP b d) (hl : 1 ≤ l.length) : ∃ i : Int, biD .max [.lst l] = .ret (.int i) ∧ 0 ≤ i ∧ i ≤ b := by
  obtain ⟨ns, e1, e2, e3⟩ := ints_of h
  cases ns with
  | nil => simp at e2; omega
  | cons n ns =>
    refine ⟨maxL n ns, ?_, e3 _ (maxL_mem ns n).1⟩
    show (match intsD l with | some (n :: ns) => T.ret (D.int (maxL n ns)) | _ => .bad) = _
    rw [e1]
def RI (m b k : Nat) (δ : Dp.Env) : Prop := ∃ xs s4 s5 s6, δ = [.v .st, .v (.int (m : Nat)), .v (.int (b : Nat)), .own xs, s4, s5, s6] ∧ xs.length = k ∧ ∀ x ∈ xs, inP (k * b) x
theorem run32_ok {j m b : Nat} (h1 : m ≤ 6) (hb0 : 1 ≤ b) (h : b ≤ 1000) : T.ok (P.run (j + 8) 32 [.st, .int (m : Nat), .int (b : Nat)]) (fun d => ∃ ps, d = .tup ps ∧ ps.length = 2 ^ m ∧ ∀ p ∈ ps, inP 64000 p) (fun _ _ => False) := by
  rw [run_go (P := P) (np := 3) (ns := 7) (b := b32) rfl rfl]
  show T.ok (T.bind (exl _ b32 [.v .st, .v (.int (m : Nat)), .v (.int (b : Nat)), .no, .no, .no, .no]) fin) _ _
  unfold b32
  simp only [exl_seto, ev_lst, evs_nil, bind_ret]
  refine T.ok_bind.mpr ?_
  have e22 := run28 (j + 6) m h1
  have hm : 2 ^ m ≤ 64 := Nat.pow_le_pow_right (by decide) h1
  refine ok_for (ds := lots m) (I := RI m b) (by simp [e22]) (by rw [len_lots h1]; exact lim64 h1) ⟨[], .no, .no, .no, rfl, rfl, fun x hx => by cases hx⟩ (fun k d hd δ hi => ?_) (fun δ hi => ?_)
  · have hk : k < 2 ^ m := by rw [← len_lots h1]; exact (List.getElem?_eq_some_iff.mp hd).1
    rw [lots_at h1 hk] at hd
    cases hd
    have hk64 : k < 64 := p64 h1 hk
    obtain ⟨xs, s4, s5, s6, rfl, hl, hx⟩ := hi
    obtain ⟨q1, q2, q3⟩ := lotL_eq hk64
    refine ⟨_, rfl, ?_⟩
    show T.ok (exl _ _ [.v .st, .v (.int (m : Nat)), .v (.int (b : Nat)), .own xs, .v (lotN k), s5, s6]) _ _
    rw [q1]
    -- the worths of the lots without one thing
    have elc : ∃ ys, ev (P.K (j + 7)) (.lc [(("at" : Str), 6)] (.n 6) (.rng1 (.bi .len (.cons (.v 4) .nil))) .no (.ix (.b 3) (.call 27 (.cons (.op .Add (.sl (.v 4) .no (.e (.v 6))) (.sl (.v 4) (.e (.op .Add (.v 6) (.c (.int 1)))) .no)) .nil)))) [.v .st, .v (.int (m : Nat)), .v (.int (b : Nat)), .own xs, .v (.tup (lotL k)), s5, s6] = .ret (.lst ys) ∧ ys.length = (lotL k).length ∧ ∀ y ∈ ys, inP (k * b) y := by
      have er := rng_map (lotL k).length (by omega)
      have hg : ∀ a : Nat, a < (lotL k).length → ∃ y ∈ xs, ev (P.K (j + 7)) (.ix (.b 3) (.call 27 (.cons (.op .Add (.sl (.v 4) .no (.e (.v 6))) (.sl (.v 4) (.e (.op .Add (.v 6) (.c (.int 1)))) .no)) .nil))) [.v .st, .v (.int (m : Nat)), .v (.int (b : Nat)), .own xs, .v (.tup (lotL k)), s5, .v (.int (a : Nat))] = .ret y := by
        intro a ha
        obtain ⟨n, hn, e⟩ := less_at (j + 6) k a hk64 ha
        obtain ⟨y, hy, ey⟩ := ix_lst (l := xs) (r := n) (by omega)
        refine ⟨y, hy, ?_⟩
        have hs : ∀ lo hi, slD (.tup (lotL k)) lo hi = .ret (.tup (cutD (lotL k) lo hi)) := fun _ _ => rfl
        have hll : decide ((cutD (lotL k) none (some (a : Nat))).length + (cutD (lotL k) (some ((a : Nat) + 1)) none).length ≤ lim) = true := by
          refine decide_eq_true (Nat.le_trans (m := 6 + 6) (Nat.add_le_add ?_ ?_) (by decide)) <;> unfold cutD <;> rw [List.length_take, List.length_drop] <;> omega
        simp only [ev_ix, ev_b, look_s, look_z, bind_ret, ev_call, evs_cons, evs_nil, ev_op, ev_sl, ev_v, ev_c, cd_int, evo_no, evo_e, hs, op_addI, op_addT, hll, need_true, call_K, e, ey]
      refine ⟨((List.range (lotL k).length).map fun (i : Nat) => D.int (i : Nat)).map (fun d => match ev (P.K (j + 7)) (.ix (.b 3) (.call 27 (.cons (.op .Add (.sl (.v 4) .no (.e (.v 6))) (.sl (.v 4) (.e (.op .Add (.v 6) (.c (.int 1)))) .no)) .nil))) [.v .st, .v (.int (m : Nat)), .v (.int (b : Nat)), .own xs, .v (.tup (lotL k)), s5, .v d] with | .ret y => y | _ => .non), ?_, by simp, fun y hy => ?_⟩
      · rw [lc_pure (l := (List.range (lotL k).length).map fun (i : Nat) => D.int (i : Nat)) (fun _ => true) (fun d => match ev (P.K (j + 7)) (.ix (.b 3) (.call 27 (.cons (.op .Add (.sl (.v 4) .no (.e (.v 6))) (.sl (.v 4) (.e (.op .Add (.v 6) (.c (.int 1)))) .no)) .nil))) [.v .st, .v (.int (m : Nat)), .v (.int (b : Nat)), .own xs, .v (.tup (lotL k)), s5, .v d] with | .ret y => y | _ => .non) (by simp [er]) (by simp; exact Nat.le_trans q2 (by decide)) fun d hd => ?_, filt_true]
        obtain ⟨a, ha, rfl⟩ := List.mem_map.mp hd
        obtain ⟨y, hy, e⟩ := hg a (by simpa using ha)
        refine ⟨_, rfl, rfl, fun _ => ?_⟩
        show ev (P.K (j + 7)) _ [.v .st, .v (.int (m : Nat)), .v (.int (b : Nat)), .own xs, .v (.tup (lotL k)), s5, .v (.int (a : Nat))] = _
        rw [e]
      · obtain ⟨d, hd, rfl⟩ := List.mem_map.mp hy
        obtain ⟨a, ha, rfl⟩ := List.mem_map.mp hd
        obtain ⟨y, hy, e⟩ := hg a (by simpa using ha)
        rw [e]; exact hx y hy
    obtain ⟨ys, ey, yl, yb⟩ := elc
    simp only [exl_set, ey, bind_ret, List.set_cons_succ, List.set_cons_zero, exl_app, look_s, look_z, ev_ite, ev_cmp', ev_v, ev_tup, evs_nil, cK_tup, ne_empty hk64, asB_bl]
    have hlx : decide (xs.length < lim) = true := decide_eq_true (by rw [hl]; exact Nat.lt_of_lt_of_le hk64 (by decide))
    have put : ∀ i : Int, 0 ≤ i → i ≤ ((k + 1) * b : Nat) → RI m b (k + 1) [.v .st, .v (.int (m : Nat)), .v (.int (b : Nat)), .own (xs ++ [.int i]), .v (.tup (lotL k)), .v (.lst ys), s6] := fun i i1 i2 => by
      refine ⟨_, _, _, _, rfl, by simp [hl], fun x hx' => ?_⟩
      rcases List.mem_append.mp hx' with hx' | hx'
      · obtain ⟨z, rfl, z1, z2⟩ := hx x hx'
        refine ⟨z, rfl, z1, Int.le_trans z2 ?_⟩
        have : k * b ≤ (k + 1) * b := Nat.mul_le_mul_right _ (by omega)
        omega
      · simp only [List.mem_singleton] at hx'; subst hx'; exact ⟨i, rfl, i1, i2⟩
    by_cases hk0 : k = 0
    · subst hk0
      simp only [show (!Nat.beq 0 0) = false from rfl, ev_c, cd_int, bind_ret, hlx, need_true, exl_nil, Bool.false_eq_true, if_false]
      exact put 0 (by omega) (by omega)
    · have hk1 : (!Nat.beq k 0) = true := by cases k with | zero => exact absurd rfl hk0 | succ _ => rfl
      obtain ⟨i, ei, i1, i2⟩ := max_of yb (by rw [yl]; exact q3 hk0)
      simp only [hk1, if_true, ev_op, ev_bi, evs_cons, evs_nil, ev_v, look_s, look_z, bind_ret, ei, ev_call, call_K, run24, bind_draw, op_addI, hlx, need_true, exl_nil]
      refine ⟨by omega, Nat.lt_of_le_of_lt h (by unfold T.most; decide +kernel), fun r hr => put _ (by omega) ?_⟩
      have : (k + 1) * b = k * b + b := by rw [Nat.add_mul, Nat.one_mul]
      omega
  · obtain ⟨xs, s4, s5, s6, rfl, hl, hx⟩ := hi
    rw [len_lots h1] at hl hx
    simp only [exl_ret, ev_bi, evs_cons, evs_nil, ev_b, look_s, look_z, bind_ret, bi_tup]
    refine ⟨xs, rfl, hl, fun p hp => ?_⟩
    obtain ⟨i, rfl, i1, i2⟩ := hx p hp
    refine ⟨i, rfl, i1, Int.le_trans i2 ?_⟩
    have : 2 ^ m * b ≤ 64 * 1000 := Nat.mul_le_mul hm h
    omega
end Lw
end

section
set_option maxHeartbeats 4000000
set_option Elab.async false
set_option linter.all false
set_option maxRecDepth 100000
namespace Lw
open PySem Dp
theorem sum_of {b : Nat} : ∀ {l : List D}, (∀ d ∈ l, inB b d) → ∃ ns : List Int, intsD l = some ns ∧ -((l.length * b : Nat) : Int) ≤ ns.sum ∧ ns.sum ≤ ((l.length * b : Nat) : Int)
  | [], _ => ⟨[], rfl, by simp, by simp⟩
  | d :: l, h => by
    obtain ⟨i, rfl, h1, h2⟩ := h d List.mem_cons_self
    obtain ⟨ns, e1, e2, e3⟩ := sum_of (l := l) fun d hd => h d (List.mem_cons_of_mem _ hd)
    have : ((.int i :: l : List D)).length * b = l.length * b + b := by rw [List.length_cons, Nat.add_mul, Nat.one_mul]
    refine ⟨i :: ns, by show (intsD l).map (i :: ·) = _; rw [e1]; rfl, ?_, ?_⟩ <;> rw [this, List.sum_cons] <;> omega
theorem bi_sum {b c : Nat} {l : List D} (h : ∀ d ∈ l, inB b d) (hl : l.length ≤ c) : ∃ s : Int, biD .sum [.lst l] = .ret (.int s) ∧ -((c * b : Nat) : Int) ≤ s ∧ s ≤ ((c * b : Nat) : Int) := by
  obtain ⟨ns, e1, e2, e3⟩ := sum_of h
  have : l.length * b ≤ c * b := Nat.mul_le_mul_right _ hl
  refine ⟨ns.sum, ?_, by omega, by omega⟩
  show (match intsD l with | some ns => T.ret (D.int ns.sum) | none => T.bad) = _
  rw [e1]
theorem lot_in : allN 7 (fun m => allN (2 ^ m) fun k => (lotL k).all fun d => match d with | .int t => decide (0 ≤ t) && decide (t < (m : Nat)) | _ => false) = true := by kernel_rfl
theorem lot_th {m k : Nat} (h : m ≤ 6) (hk : k < 2 ^ m) {d : D} (hd : d ∈ lotL k) : ∃ t : Nat, t < m ∧ d = .int (t : Nat) := by
  have e := List.all_eq_true.mp (allN_ok (allN_ok lot_in m (by omega)) k hk) d hd
  split at e
  · rename_i t
    rw [Bool.and_eq_true, decide_eq_true_eq, decide_eq_true_eq] at e
    exact ⟨t.toNat, by omega, by congr 1; omega⟩
  · cases e
theorem run30 (j m k b : Nat) (ps : List D) (h : m ≤ 6) (hk : k < 2 ^ m) (hl : ps.length = m) (hp : ∀ p ∈ ps, inB b p) : ∃ s : Int, P.run (j + 1) 30 [.tup ps, lotN k] = .ret (.int s) ∧ -((6 * b : Nat) : Int) ≤ s ∧ s ≤ ((6 * b : Nat) : Int) := by
  obtain ⟨q1, q2, q3⟩ := lotL_eq (p64 h hk)
  have hg : ∀ d ∈ lotL k, ∃ y ∈ ps, ev (P.K j) (.ix (.v 0) (.v 2)) [.v (.tup ps), .v (.tup (lotL k)), .v d] = .ret y := by
    intro d hd
    obtain ⟨t, ht, rfl⟩ := lot_th h hk hd
    have : t < ps.length := by omega
    refine ⟨ps[t], List.getElem_mem this, ?_⟩
    simp only [ev_ix, ev_v, look_z, look_s, bind_ret]
    exact ix_tup (List.getElem?_eq_getElem this)
  let f : D → D := fun d => match ev (P.K j) (.ix (.v 0) (.v 2)) [.v (.tup ps), .v (.tup (lotL k)), .v d] with | .ret y => y | _ => .non
  have elc : ev (P.K j) (.lc [(("thing" : Str), 2)] (.n 2) (.e (.v 1)) .no (.ix (.v 0) (.v 2))) [.v (.tup ps), .v (.tup (lotL k)), .no] = .ret (.lst ((lotL k).map f)) := by
    rw [lc_pure (l := lotL k) (fun _ => true) f (by simp) (Nat.le_trans q2 (by decide)) fun d hd => ?_, filt_true]
    obtain ⟨y, hy, e⟩ := hg d hd
    refine ⟨_, rfl, rfl, fun _ => ?_⟩
    show ev (P.K j) (.ix (.v 0) (.v 2)) [.v (.tup ps), .v (.tup (lotL k)), .v d] = .ret (f d)
    show _ = T.ret (match ev (P.K j) (.ix (.v 0) (.v 2)) [.v (.tup ps), .v (.tup (lotL k)), .v d] with | .ret y => y | _ => .non)
    rw [e]
  obtain ⟨s, e1, e2, e3⟩ := bi_sum (b := b) (c := 6) (l := (lotL k).map f) (fun d hd => by
    obtain ⟨x, hx, rfl⟩ := List.mem_map.mp hd
    obtain ⟨y, hy, e⟩ := hg x hx
    show inB b (match ev (P.K j) (.ix (.v 0) (.v 2)) [.v (.tup ps), .v (.tup (lotL k)), .v x] with | .ret y => y | _ => .non)
    rw [e]; exact hp y hy) (by simp; exact q2)
  refine ⟨s, ?_, e2, e3⟩
  rw [run_go (P := P) (np := 2) (ns := 3) (b := b30) rfl rfl, q1]
  show T.bind (exl _ b30 [.v (.tup ps), .v (.tup (lotL k)), .no]) fin = _
  unfold b30
  simp only [exl_ret, ev_bi, evs_cons, evs_nil, elc, bind_ret, e1, fin_ret]
/-! ### any, with holes -/
theorem run35_ok {j m : Nat} {ws : List D} (g : Good m ws) (Q : D → Prop) (q0 : Q .non) (qs : ∀ d ∈ ws, Q d) : T.ok (P.run (j + 8) 35 [.st, .int (m : Nat), .tup ws]) (fun d => ∃ vs, d = .tup vs ∧ Good m vs ∧ ∀ d ∈ vs, Q d) (fun _ _ => False) := by
  rw [run_go (P := P) (np := 3) (ns := 5) (b := b35) rfl rfl]
  show T.ok (T.bind (exl _ b35 [.v .st, .v (.int (m : Nat)), .v (.tup ws), .no, .no]) fin) _ _
  unfold b35
  have hl : ws.length ≤ lim := by rw [g.len]; exact lim64 g.h6
  simp only [exl_set, bind_bind]
  refine T.ok_bind.mpr (T.ok_mono (fun y hy => ?_) (fun _ _ z => z) (lc_ok (l := ws) (fun _ p => okw p = true ∧ Q p) (by simp) hl fun d hd => ⟨_, rfl, ?_⟩))
  · obtain ⟨vs, rfl, hf⟩ := hy
    have hv := F2.all (Q := fun p => okw p = true ∧ Q p) (fun _ _ h => h) hf
    have hvl : vs.length = 2 ^ m := by rw [← hf.len, g.len]
    have e2 : ev (P.K (j + 7)) (.lc [(("worth" : Str), 4)] (.n 4) (.e (.v 3)) (.e (.cmp .IsNot (.v 4) (.c .non))) (.c (.int 1))) [.v .st, .v (.int (m : Nat)), .v (.tup ws), .v (.lst vs), .no] = .ret (.lst ((vs.filter fun d => !d.isN).map fun _ => D.int 1)) := by
      rw [lc_pure (l := vs) (fun d => !d.isN) (fun _ => D.int 1) (by simp) (by rw [hvl]; exact lim64 g.h6) fun d hd => ?_]
      refine ⟨_, rfl, ?_, fun _ => rfl⟩
      show evc _ _ [_, _, _, _, Slot.v d] = _
      simp
    have e4 := ones_ne (vs.filter fun d => !d.isN)
    rw [filt_empty, Bool.not_not] at e4
    show T.ok (T.bind (exl _ _ [.v .st, .v (.int (m : Nat)), .v (.tup ws), .v (.lst vs), .no]) fin) _ _
    simp only [exl_ret, ev_ite, ev_cmp', e2, ev_lst, evs_nil, bind_ret, cK_lst, e4, asB_bl]
    by_cases hz : (vs.any fun d => !d.isN) = true
    · rw [hz]
      simp only [if_true, ev_bi, evs_cons, evs_nil, ev_v, look_s, look_z, bind_ret, bi_tup]
      obtain ⟨d, hd, e⟩ := List.any_eq_true.mp hz
      exact ⟨vs, rfl, ⟨g.h1, g.h6, hvl, fun d hd => (hv d hd).1, d, hd, by cases q : d.isN <;> simp_all⟩, fun d hd => (hv d hd).2⟩
    · have hz : (vs.any fun d => !d.isN) = false := by cases q : (vs.any fun d => !d.isN) <;> simp_all
      rw [hz]
      simp only [Bool.false_eq_true, if_false, ev_v, look_s, look_z, bind_ret]
      exact ⟨ws, rfl, g, qs⟩
  · show T.ok (ev _ _ [.v .st, .v (.int (m : Nat)), .v (.tup ws), .no, .v d]) _ _
    have e4 : ((4 : Nat) : Int) = 4 := rfl
    have r := run24 j 4
    rw [e4] at r
    simp only [ev_ite, ev_cmp', ev_call, evs_cons, evs_nil, ev_v, ev_c, cd_int, look_s, look_z, bind_ret, call_K, r, bind_draw, cK_int, cD_eqI, asB_bl]
    refine ⟨by decide, by unfold T.most; decide +kernel, fun r hr => ?_⟩
    by_cases hz : ((r : Nat) : Int) = 0
    · simp only [hz, decide_true, if_true, cd_non]; exact ⟨rfl, q0⟩
    · simp only [hz, decide_false, Bool.false_eq_true, if_false]; exact ⟨g.ok d hd, qs d hd⟩
end Lw
end

section
set_option maxHeartbeats 4000000
set_option Elab.async false
set_option linter.all false
set_option maxRecDepth 100000
namespace Lw
open PySem Dp
/-- a row of so many things -/
def rowOf (n : Nat) (Q : D → Prop) (d : D) : Prop := ∃ l, d = .lst l ∧ l.length = n ∧ ∀ x ∈ l, Q x
/-- a list of so many draws -/
theorem draws_ok {j b s : Nat} {nm : Str} {i is : Nat} {δ : Dp.Env} {eb : E} (hb0 : 1 ≤ b) (hb : b ≤ 1000) (hs : s ≤ 1000) (e1 : look δ is = .v (.int (s : Nat)))
    (h0 : ∀ x, look ((wipeE δ [i]).set i (.v x)) 0 = .v .st) (ea : ∀ x, ev (P.K (j + 7)) eb ((wipeE δ [i]).set i (.v x)) = .ret (.int (b : Nat))) :
    T.ok (ev (P.K (j + 7)) (.lc [(nm, i)] (.n i) (.rng1 (.v is)) .no (.call 24 (.cons (.v 0) (.cons eb .nil)))) δ) (rowOf s (inP 1000)) (fun _ _ => False) := by
  have er := rng_map s hs
  refine T.ok_mono (fun y hy => ?_) (fun _ _ z => z) (lc_ok (l := (List.range s).map fun (i : Nat) => D.int (i : Nat)) (fun _ p => inP 1000 p) (by simp only [src_r1, ev_v, e1, bind_ret, er]) (by simp; exact Nat.le_trans hs (by decide)) fun d hd => ⟨_, rfl, ?_⟩)
  · obtain ⟨ys, rfl, hf⟩ := hy
    exact ⟨ys, rfl, by rw [← hf.len]; simp, F2.all (Q := inP 1000) (fun _ _ h => h) hf⟩
  · show T.ok (ev _ _ ((wipeE δ [i]).set i (.v d))) _ _
    simp only [ev_call, evs_cons, evs_nil, ev_v, h0, ea, bind_ret, call_K, run24, bind_draw]
    exact ⟨by omega, Nat.lt_of_le_of_lt hb (by unfold T.most; decide +kernel), fun r hr => ⟨_, rfl, by omega, by omega⟩⟩
theorem row_at {n t : Nat} {Q : D → Prop} {l : List D} (hl : l.length = n) (h : ∀ x ∈ l, Q x) (ht : t < n) : ∃ y, Q y ∧ ixD (.lst l) (.int (t : Nat)) = .ret y := by
  obtain ⟨y, hy, e⟩ := ix_lst (l := l) (r := t) (by omega)
  exact ⟨y, h y hy, e⟩
theorem spot_had {j m b s sp k : Nat} {hd wg ps xs : List D} {s6 s11 : Dp.Slot} (h1 : m ≤ 6) (hk : k < 2 ^ m) (hsp : sp < s) (hdl : hd.length = m) (hdr : ∀ x ∈ hd, rowOf s (inP 1000) x) :
    ∃ c, evc (P.K (j + 8)) (.e (.cmp .NotEq (.lc [(("thing" : Str), 6)] (.n 6) (.e (.v 10)) (.e (.cmp .Eq (.ix (.ix (.v 4) (.v 6)) (.v 5)) (.c (.int 1)))) (.c (.int 1))) (.lst .nil))) [.v .st, .v (.int (m : Nat)), .v (.int (b : Nat)), .v (.int (s : Nat)), .v (.lst hd), .v (.int (sp : Nat)), s6, .v (.lst wg), .v (.tup ps), .own xs, .v (lotN k), s11] = .ret c := by
  obtain ⟨q1, q2, q3⟩ := lotL_eq (p64 h1 hk)
  rw [q1]
  let pr : D → Bool := fun d => match evc (P.K (j + 8)) (.e (.cmp .Eq (.ix (.ix (.v 4) (.v 6)) (.v 5)) (.c (.int 1)))) [.v .st, .v (.int (m : Nat)), .v (.int (b : Nat)), .v (.int (s : Nat)), .v (.lst hd), .v (.int (sp : Nat)), .v d, .v (.lst wg), .v (.tup ps), .own xs, .v (.tup (lotL k)), s11] with | .ret b => b | _ => false
  have elc : ev (P.K (j + 8)) (.lc [(("thing" : Str), 6)] (.n 6) (.e (.v 10)) (.e (.cmp .Eq (.ix (.ix (.v 4) (.v 6)) (.v 5)) (.c (.int 1)))) (.c (.int 1))) [.v .st, .v (.int (m : Nat)), .v (.int (b : Nat)), .v (.int (s : Nat)), .v (.lst hd), .v (.int (sp : Nat)), s6, .v (.lst wg), .v (.tup ps), .own xs, .v (.tup (lotL k)), s11] = .ret (.lst (((lotL k).filter pr).map fun _ => D.int 1)) := by
    rw [lc_pure (l := lotL k) pr (fun _ => D.int 1) (by simp) (Nat.le_trans q2 (by decide)) fun d hd2 => ?_]
    obtain ⟨t, ht, rfl⟩ := lot_th h1 hk hd2
    obtain ⟨row, ⟨rl, rfl, rll, rlr⟩, e1⟩ := row_at hdl hdr ht
    obtain ⟨y, ⟨z, rfl, _⟩, e2⟩ := row_at rll rlr hsp
    refine ⟨_, rfl, ?_, fun _ => rfl⟩
    have ee : evc (P.K (j + 8)) (.e (.cmp .Eq (.ix (.ix (.v 4) (.v 6)) (.v 5)) (.c (.int 1)))) [.v .st, .v (.int (m : Nat)), .v (.int (b : Nat)), .v (.int (s : Nat)), .v (.lst hd), .v (.int (sp : Nat)), .v (.int (t : Nat)), .v (.lst wg), .v (.tup ps), .own xs, .v (.tup (lotL k)), s11] = .ret (decide (z = 1)) := by
      simp only [evc_e, ev_cmp', ev_ix, ev_v, look_s, look_z, bind_ret, e1, e2, ev_c, cd_int, cK_int, cD_eqI, asB_bl]
    show evc (P.K (j + 8)) _ [.v .st, .v (.int (m : Nat)), .v (.int (b : Nat)), .v (.int (s : Nat)), .v (.lst hd), .v (.int (sp : Nat)), .v (.int (t : Nat)), .v (.lst wg), .v (.tup ps), .own xs, .v (.tup (lotL k)), s11] = .ret (match evc (P.K (j + 8)) (.e (.cmp .Eq (.ix (.ix (.v 4) (.v 6)) (.v 5)) (.c (.int 1)))) [.v .st, .v (.int (m : Nat)), .v (.int (b : Nat)), .v (.int (s : Nat)), .v (.lst hd), .v (.int (sp : Nat)), .v (.int (t : Nat)), .v (.lst wg), .v (.tup ps), .own xs, .v (.tup (lotL k)), s11] with | .ret b => b | _ => false)
    rw [ee]
  refine ⟨!((lotL k).filter pr).isEmpty, ?_⟩
  rw [evc_e, ev_cmp', elc]
  simp only [bind_ret, ev_lst, evs_nil, cK_lst, ones_ne, asB_bl]
def CI (m b s : Nat) (hd wg ps : List D) (k : Nat) (δ : Dp.Env) : Prop := ∃ xs s5 s6 s10 s11, δ = [.v .st, .v (.int (m : Nat)), .v (.int (b : Nat)), .v (.int (s : Nat)), .v (.lst hd), s5, s6, .v (.lst wg), .v (.tup ps), .own xs, s10, s11] ∧ xs.length = k ∧ ∀ x ∈ xs, inB 20000 x
theorem spot_sum {j m b s k : Nat} {hd wg ps xs : List D} {s5 s6 s11 : Dp.Slot} (h1 : m ≤ 6) (hk : k < 2 ^ m) (hs1 : s ≤ 5) (hdl : hd.length = m) (hdr : ∀ x ∈ hd, rowOf s (inP 1000) x) (wgl : wg.length = s) (wgr : ∀ x ∈ wg, inP 1000 x) :
    T.ok (ev (P.K (j + 8)) (.lc [(("spot" : Str), 5)] (.n 5) (.rng1 (.v 3)) (.e (.cmp .NotEq (.lc [(("thing" : Str), 6)] (.n 6) (.e (.v 10)) (.e (.cmp .Eq (.ix (.ix (.v 4) (.v 6)) (.v 5)) (.c (.int 1)))) (.c (.int 1))) (.lst .nil))) (.ix (.v 7) (.v 5))) [.v .st, .v (.int (m : Nat)), .v (.int (b : Nat)), .v (.int (s : Nat)), .v (.lst hd), s5, s6, .v (.lst wg), .v (.tup ps), .own xs, .v (lotN k), s11])
      (fun y => ∃ ys, y = .lst ys ∧ ys.length ≤ s ∧ ∀ y ∈ ys, inB 1000 y) (fun _ _ => False) := by
  refine T.ok_mono (fun sm hsm => ?_) (fun _ _ z => z) (lc_okc (l := (List.range s).map fun (i : Nat) => D.int (i : Nat)) (inB 1000) (by simp [rng_map s (by omega)]) (by simp; exact Nat.le_trans hs1 (by decide)) fun d hdd => ⟨_, rfl, ?_⟩)
  · obtain ⟨ys, rfl, yl, yb⟩ := hsm; exact ⟨ys, rfl, by simpa using yl, yb⟩
  · obtain ⟨sp, hsp, rfl⟩ := List.mem_map.mp hdd
    have hsp : sp < s := by simpa using hsp
    show ∃ b', evc _ _ [.v .st, .v (.int (m : Nat)), .v (.int (b : Nat)), .v (.int (s : Nat)), .v (.lst hd), .v (.int (sp : Nat)), s6, .v (.lst wg), .v (.tup ps), .own xs, .v (lotN k), s11] = .ret b' ∧ (b' = true → T.ok (ev _ _ [.v .st, .v (.int (m : Nat)), .v (.int (b : Nat)), .v (.int (s : Nat)), .v (.lst hd), .v (.int (sp : Nat)), s6, .v (.lst wg), .v (.tup ps), .own xs, .v (lotN k), s11]) _ _)
    obtain ⟨c, hc⟩ := spot_had (j := j) (b := b) (sp := sp) (s6 := s6) (s11 := s11) (wg := wg) (ps := ps) (xs := xs) h1 hk hsp hdl hdr
    refine ⟨c, hc, fun _ => ?_⟩
    obtain ⟨y, ⟨z, rfl, z1, z2⟩, e2⟩ := row_at wgl wgr hsp
    simp only [ev_ix, ev_v, look_s, look_z, bind_ret, e2]
    exact ⟨z, rfl, by omega, by omega⟩
theorem run33_ok {j m b : Nat} (h1 : m ≤ 6) (hb0 : 1 ≤ b) (hb : b ≤ 1000) : T.ok (P.run (j + 9) 33 [.st, .int (m : Nat), .int (b : Nat)]) (fun d => ∃ ps, d = .tup ps ∧ ps.length = 2 ^ m ∧ ∀ p ∈ ps, inB 20000 p) (fun _ _ => False) := by
  rw [run_go (P := P) (np := 3) (ns := 12) (b := b33) rfl rfl]
  show T.ok (T.bind (exl _ b33 [.v .st, .v (.int (m : Nat)), .v (.int (b : Nat)), .no, .no, .no, .no, .no, .no, .no, .no, .no]) fin) _ _
  unfold b33
  have e5 : ((5 : Nat) : Int) = 5 := rfl
  have r := run24 (j + 1) 5
  rw [e5] at r
  rw [exl_set]
  simp only [ev_op, ev_c, cd_int, bind_ret, ev_call, evs_cons, evs_nil, ev_v, look_z, call_K, r, bind_draw, op_addI, List.set_cons_succ, List.set_cons_zero]
  refine ⟨by decide, by unfold T.most; decide +kernel, fun s0 hs0 => ?_⟩
  have es : (1 + ((s0 : Nat) : Int)) = ((s0 + 1 : Nat) : Int) := by omega
  dsimp only
  rw [es]
  generalize hs : s0 + 1 = s
  have hs1 : s ≤ 5 := by omega
  -- which things have which spots
  rw [exl_set]
  rw [bind_bind]
  refine T.ok_bind.mpr (T.ok_mono (fun hd0 hhd => ?_) (fun _ _ z => z) (lc_ok (l := (List.range m).map fun (i : Nat) => D.int (i : Nat)) (fun _ p => rowOf s (inP 1000) p) (by simp [rng_map m (by omega)]) (by simp; exact Nat.le_trans h1 (by decide)) fun d hd => ⟨_, rfl, draws_ok (j := j + 1) (b := 2) (by decide) (by decide) (by omega) rfl (fun x => rfl) (fun x => rfl)⟩))
  obtain ⟨hd, rfl, hdF⟩ := hhd
  have hdl : hd.length = m := by rw [← hdF.len]; simp
  have hdr := F2.all (Q := rowOf s (inP 1000)) (fun _ _ h => h) hdF
  show T.ok (T.bind (exl _ _ [.v .st, .v (.int (m : Nat)), .v (.int (b : Nat)), .v (.int (s : Nat)), .v (.lst hd), .no, .no, .no, .no, .no, .no, .no]) fin) _ _
  rw [exl_unp]
  rw [ev_tup]
  simp only [evs_cons, evs_nil, bind_bind]
  refine T.ok_bind.mpr (T.ok_mono (fun wg0 hwg => ?_) (fun _ _ z => z) (draws_ok (j := j + 1) (b := b) (s := s) hb0 hb (by omega) rfl (fun x => rfl) (fun x => rfl)))
  obtain ⟨wg, rfl, wgl, wgr⟩ := hwg
  simp only [ev_call, evs_cons, evs_nil, ev_v, look_z, look_s, bind_ret, call_K, bind_bind]
  refine T.ok_bind.mpr (T.ok_mono (fun ps0 hps => ?_) (fun _ _ z => z) (run29_ok (j := j) h1 (by omega)))
  obtain ⟨ps, rfl, psl, psr⟩ := hps
  show T.ok (T.bind (exl _ _ [.v .st, .v (.int (m : Nat)), .v (.int (b : Nat)), .v (.int (s : Nat)), .v (.lst hd), .no, .no, .v (.lst wg), .v (.tup ps), .no, .no, .no]) fin) _ _
  simp only [exl_seto, ev_lst, evs_nil, bind_ret]
  refine T.ok_bind.mpr ?_
  have e22 := run28 (j + 7) m h1
  refine ok_for (ds := lots m) (I := CI m b s hd wg ps) (by simp [e22]) (by rw [len_lots h1]; exact lim64 h1) ⟨[], .no, .no, .no, .no, rfl, rfl, fun x hx => by cases hx⟩ (fun k d hdk δ hi => ?_) (fun δ hi => ?_)
  · have hk : k < 2 ^ m := by rw [← len_lots h1]; exact (List.getElem?_eq_some_iff.mp hdk).1
    rw [lots_at h1 hk] at hdk
    cases hdk
    obtain ⟨xs, s5, s6, s10, s11, rfl, hl, hx⟩ := hi
    obtain ⟨q1, q2, q3⟩ := lotL_eq (p64 h1 hk)
    refine ⟨_, rfl, ?_⟩
    show T.ok (exl _ _ [.v .st, .v (.int (m : Nat)), .v (.int (b : Nat)), .v (.int (s : Nat)), .v (.lst hd), s5, s6, .v (.lst wg), .v (.tup ps), .own xs, .v (lotN k), s11]) _ _
    rw [exl_set]
    refine T.ok_bind.mpr (T.ok_mono (fun sm hsm => ?_) (fun _ _ z => z) (spot_sum (j := j) h1 hk hs1 hdl hdr wgl wgr))
    obtain ⟨ys, rfl, yl, yb⟩ := hsm
    obtain ⟨t1, u1, u2, u3⟩ := bi_sum (b := 1000) (c := 5) yb (Nat.le_trans yl hs1)
    obtain ⟨t2, v1, v2, v3⟩ := run30 (j + 7) m k b ps h1 hk psl psr
    have hlx : decide (xs.length < lim) = true := decide_eq_true (by rw [hl]; exact Nat.lt_of_lt_of_le (p64 h1 hk) (by decide))
    show T.ok (exl _ _ [.v .st, .v (.int (m : Nat)), .v (.int (b : Nat)), .v (.int (s : Nat)), .v (.lst hd), s5, s6, .v (.lst wg), .v (.tup ps), .own xs, .v (lotN k), .v (.lst ys)]) _ _
    simp only [exl_app, look_s, look_z, ev_op, ev_bi, evs_cons, evs_nil, ev_v, bind_ret, u1, ev_call, call_K, v1, op_subI, hlx, need_true, exl_nil]
    refine ⟨_, _, _, _, _, rfl, by simp [hl], fun x hx' => ?_⟩
    rcases List.mem_append.mp hx' with hx' | hx'
    · exact hx x hx'
    · simp only [List.mem_singleton] at hx'; subst hx'; exact ⟨_, rfl, by omega, by omega⟩
  · obtain ⟨xs, s5, s6, s10, s11, rfl, hl, hx⟩ := hi
    rw [len_lots h1] at hl
    simp only [exl_ret, ev_bi, evs_cons, evs_nil, ev_b, look_s, look_z, bind_ret, bi_tup]
    exact ⟨xs, rfl, hl, hx⟩
end Lw
end

section
set_option maxHeartbeats 4000000
set_option Elab.async false
set_option linter.all false
set_option maxRecDepth 100000
namespace Lw
open PySem Dp
/-- a dart: from one thing to another, with a weight -/
def dartP (m b : Nat) (d : D) : Prop := ∃ t u : Nat, ∃ w : Int, d = .tup [.int (t : Nat), .int (u : Nat), .int w] ∧ t < m ∧ u < m ∧ 0 ≤ w ∧ w ≤ b
theorem in_lot : allN 64 (fun k => allN 6 fun t => match cmpD .In (.int (t : Nat)) (lotN k), cmpD .NotIn (.int (t : Nat)) (lotN k) with | .ret (.bl _), .ret (.bl _) => true | _, _ => false) = true := by kernel_rfl
theorem in_lot_at {k t : Nat} (hk : k < 64) (ht : t < 6) : ∃ a b : Bool, cmpD .In (.int (t : Nat)) (lotN k) = .ret (.bl a) ∧ cmpD .NotIn (.int (t : Nat)) (lotN k) = .ret (.bl b) := by
  have e := allN_ok (allN_ok in_lot k hk) t ht
  split at e
  · rename_i a b ha hb; exact ⟨a, b, ha, hb⟩
  · cases e
theorem dart_ok {j m b t u : Nat} {s3 s6 s7 s8 s9 s10 : Dp.Slot} (hb0 : 1 ≤ b) (hb : b ≤ 1000) (ht : t < m) (hu : u < m) :
    T.ok (ev (P.K (j + 7)) (.tup (.cons (.v 4) (.cons (.v 5) (.cons (.op .Mult (.call 24 (.cons (.v 0) (.cons (.v 2) .nil))) (.call 24 (.cons (.v 0) (.cons (.c (.int 2)) .nil)))) .nil)))) [.v .st, .v (.int (m : Nat)), .v (.int (b : Nat)), s3, .v (.int (t : Nat)), .v (.int (u : Nat)), s6, s7, s8, s9, s10]) (dartP m b) (fun _ _ => False) := by
  have e2 : ((2 : Nat) : Int) = 2 := rfl
  have r2 := run24 j 2
  rw [e2] at r2
  simp only [ev_tup, evs_cons, evs_nil, ev_v, look_s, look_z, bind_ret, ev_op, ev_call, ev_c, cd_int, call_K, run24 j b, r2, bind_draw]
  refine ⟨by omega, Nat.lt_of_le_of_lt hb (by unfold T.most; decide +kernel), fun x hx => ?_⟩
  dsimp only
  refine ⟨by decide, by unfold T.most; decide +kernel, fun y hy => ?_⟩
  dsimp only
  have hs : small ((y : Nat) : Int) = true := by
    have : y = 0 ∨ y = 1 := by omega
    rcases this with rfl | rfl <;> decide +kernel
  have hw : 0 ≤ ((x : Nat) : Int) * ((y : Nat) : Int) ∧ ((x : Nat) : Int) * ((y : Nat) : Int) ≤ b := by
    have : y = 0 ∨ y = 1 := by omega
    rcases this with rfl | rfl <;> constructor <;> simp <;> omega
  simp only [op_mulI, hs, Bool.or_true, need_true, bind_ret]
  exact ⟨t, u, _, rfl, ht, hu, hw.1, hw.2⟩
theorem darts_of {j m b t : Nat} {s3 s5 s6 s7 s8 s9 s10 : Dp.Slot} (h1 : m ≤ 6) (hb0 : 1 ≤ b) (hb : b ≤ 1000) (ht : t < m) :
    T.ok (ev (P.K (j + 7)) (.lc [(("other" : Str), 5)] (.n 5) (.rng1 (.v 1)) (.e (.cmp .NotEq (.v 5) (.v 4))) (.tup (.cons (.v 4) (.cons (.v 5) (.cons (.op .Mult (.call 24 (.cons (.v 0) (.cons (.v 2) .nil))) (.call 24 (.cons (.v 0) (.cons (.c (.int 2)) .nil)))) .nil))))) [.v .st, .v (.int (m : Nat)), .v (.int (b : Nat)), s3, .v (.int (t : Nat)), s5, s6, s7, s8, s9, s10])
      (fun y => ∃ ys, y = .lst ys ∧ ys.length ≤ m ∧ ∀ y ∈ ys, dartP m b y) (fun _ _ => False) := by
  refine T.ok_mono (fun sm hsm => ?_) (fun _ _ z => z) (lc_okc (l := (List.range m).map fun (i : Nat) => D.int (i : Nat)) (dartP m b) (by simp [rng_map m (by omega)]) (by simp; exact Nat.le_trans h1 (by decide)) fun d hdd => ⟨_, rfl, ?_⟩)
  · obtain ⟨ys, rfl, yl, yb⟩ := hsm; exact ⟨ys, rfl, by simpa using yl, yb⟩
  · obtain ⟨u, hu, rfl⟩ := List.mem_map.mp hdd
    have hu : u < m := by simpa using hu
    show ∃ b', evc _ _ [.v .st, .v (.int (m : Nat)), .v (.int (b : Nat)), s3, .v (.int (t : Nat)), .v (.int (u : Nat)), s6, s7, s8, s9, s10] = .ret b' ∧ (b' = true → T.ok (ev _ _ [.v .st, .v (.int (m : Nat)), .v (.int (b : Nat)), s3, .v (.int (t : Nat)), .v (.int (u : Nat)), s6, s7, s8, s9, s10]) _ _)
    refine ⟨!decide (((u : Nat) : Int) = ((t : Nat) : Int)), ?_, fun _ => dart_ok hb0 hb ht hu⟩
    simp only [evc_e, ev_cmp', ev_v, look_s, look_z, bind_ret, cK_int, cD_neI, asB_bl]
theorem cut_sum {j m b k : Nat} {ds xs : List D} {s4 s5 s6 s9 s10 : Dp.Slot} (h1 : m ≤ 6) (hk : k < 2 ^ m) (hdl : ds.length ≤ 36) (hdr : ∀ x ∈ ds, dartP m b x) :
    T.ok (ev (P.K (j + 7)) (.lc [(("one" : Str), 4), (("other" : Str), 5), (("weight" : Str), 10)] (.t [.n 4, .n 5, .n 10]) (.e (.v 3)) (.e (.and (.cmp .In (.v 4) (.v 8)) (.and1 (.cmp .NotIn (.v 5) (.v 8))))) (.v 10)) [.v .st, .v (.int (m : Nat)), .v (.int (b : Nat)), .v (.lst ds), s4, s5, s6, .own xs, .v (lotN k), s9, s10])
      (fun y => ∃ ys, y = .lst ys ∧ ys.length ≤ 36 ∧ ∀ y ∈ ys, inB b y) (fun _ _ => False) := by
  have hl : ds.length ≤ lim := Nat.le_trans hdl (by decide)
  refine T.ok_mono (fun sm hsm => ?_) (fun _ _ z => z) (lc_okc (l := ds) (inB b) (by simp) hl fun d hdd => ?_)
  · obtain ⟨ys, rfl, yl, yb⟩ := hsm; exact ⟨ys, rfl, Nat.le_trans yl hdl, yb⟩
  · obtain ⟨t, u, w, rfl, ht, hu, w0, w1⟩ := hdr d hdd
    refine ⟨_, rfl, ?_⟩
    show ∃ b', evc _ _ [.v .st, .v (.int (m : Nat)), .v (.int (b : Nat)), .v (.lst ds), .v (.int (t : Nat)), .v (.int (u : Nat)), s6, .own xs, .v (lotN k), s9, .v (.int w)] = .ret b' ∧ (b' = true → T.ok (ev _ _ [.v .st, .v (.int (m : Nat)), .v (.int (b : Nat)), .v (.lst ds), .v (.int (t : Nat)), .v (.int (u : Nat)), s6, .own xs, .v (lotN k), s9, .v (.int w)]) _ _)
    obtain ⟨a1, _, e1, _⟩ := in_lot_at (p64 h1 hk) (t := t) (by omega)
    obtain ⟨_, a2, _, e2⟩ := in_lot_at (p64 h1 hk) (t := u) (by omega)
    refine ⟨a1 && a2, ?_, fun _ => ?_⟩
    · simp only [evc_e, ev_and, ev_and1, ev_cmp', ev_v, look_s, look_z, bind_ret, cK_int, e1, e2, asB_bl]
      cases a1 <;> rfl
    · simp only [ev_v, look_s, look_z]
      exact ⟨w, rfl, by omega, by omega⟩
def D1 (m b k : Nat) (δ : Dp.Env) : Prop := ∃ ds s4 s5, δ = [.v .st, .v (.int (m : Nat)), .v (.int (b : Nat)), .v (.lst ds), s4, s5, .no, .no, .no, .no, .no] ∧ ds.length ≤ k * m ∧ ∀ x ∈ ds, dartP m b x
def D2 (m b : Nat) (ds ps : List D) (k : Nat) (δ : Dp.Env) : Prop := ∃ xs s4 s5 s8 s9 s10, δ = [.v .st, .v (.int (m : Nat)), .v (.int (b : Nat)), .v (.lst ds), s4, s5, .v (.tup ps), .own xs, s8, s9, s10] ∧ xs.length = k ∧ ∀ x ∈ xs, inB 50000 x
theorem run34_ok {j m b : Nat} (h1 : m ≤ 6) (hb0 : 1 ≤ b) (hb : b ≤ 1000) : T.ok (P.run (j + 9) 34 [.st, .int (m : Nat), .int (b : Nat)]) (fun d => ∃ ps, d = .tup ps ∧ ps.length = 2 ^ m ∧ ∀ p ∈ ps, inB 50000 p) (fun _ _ => False) := by
  rw [run_go (P := P) (np := 3) (ns := 11) (b := b34) rfl rfl]
  show T.ok (T.bind (exl _ b34 [.v .st, .v (.int (m : Nat)), .v (.int (b : Nat)), .no, .no, .no, .no, .no, .no, .no, .no]) fin) _ _
  unfold b34
  simp only [exl_set, ev_lst, evs_nil, bind_ret]
  refine T.ok_bind.mpr ?_
  refine ok_for (ds := (List.range m).map fun (i : Nat) => D.int (i : Nat)) (I := D1 m b) (by simp [rng_map m (by omega)]) (by simp; exact Nat.le_trans h1 (by decide)) ⟨[], .no, .no, rfl, by simp, fun x hx => by cases hx⟩ (fun k d hdk δ hi => ?_) (fun δ hi => ?_)
  · have hk : k < m := by simpa using (List.getElem?_eq_some_iff.mp hdk).1
    have : d = .int (k : Nat) := by
      obtain ⟨_, e⟩ := List.getElem?_eq_some_iff.mp hdk
      rw [← e]; simp
    subst this
    obtain ⟨ds, s4, s5, rfl, hl, hx⟩ := hi
    refine ⟨_, rfl, ?_⟩
    show T.ok (exl _ _ [.v .st, .v (.int (m : Nat)), .v (.int (b : Nat)), .v (.lst ds), .v (.int (k : Nat)), s5, .no, .no, .no, .no, .no]) _ _
    rw [exl_set, ev_op]
    simp only [ev_v, look_s, look_z, bind_ret, bind_bind]
    refine T.ok_bind.mpr (T.ok_mono (fun y hy => ?_) (fun _ _ z => z) (darts_of (j := j + 1) h1 hb0 hb hk))
    obtain ⟨ys, rfl, yl, yb⟩ := hy
    have h36 : ds.length + ys.length ≤ (k + 1) * m := by rw [Nat.succ_mul]; exact Nat.add_le_add hl yl
    have h36' : (k + 1) * m ≤ 36 := Nat.le_trans (Nat.mul_le_mul (show k + 1 ≤ 6 by omega) h1) (by decide)
    have hd : decide (ds.length + ys.length ≤ lim) = true := decide_eq_true (Nat.le_trans h36 (Nat.le_trans h36' (by decide)))
    simp only [op_addL, hd, need_true, bind_ret, exl_nil]
    refine ⟨_, _, _, rfl, by simpa using h36, fun x hx' => ?_⟩
    rcases List.mem_append.mp hx' with hx' | hx'
    · exact hx x hx'
    · exact yb x hx'
  · obtain ⟨ds, s4, s5, rfl, hl, hdr⟩ := hi
    have hdl : ds.length ≤ 36 := by
      simp at hl
      exact Nat.le_trans hl (Nat.le_trans (Nat.mul_le_mul h1 h1) (by decide))
    rw [exl_par]
    simp only [evs_cons, evs_nil, ev_call, ev_v, ev_lst, look_s, look_z, bind_ret, call_K, bind_bind]
    refine T.ok_bind.mpr (T.ok_mono (fun ps0 hps => ?_) (fun _ _ z => z) (run29_ok (j := j) h1 (by omega)))
    obtain ⟨ps, rfl, psl, psr⟩ := hps
    show T.ok (exl _ _ [.v .st, .v (.int (m : Nat)), .v (.int (b : Nat)), .v (.lst ds), s4, s5, .v (.tup ps), .own [], .no, .no, .no]) _ _
    have e22 := run28 (j + 7) m h1
    refine ok_for (ds := lots m) (I := D2 m b ds ps) (by simp [e22]) (by rw [len_lots h1]; exact lim64 h1) ⟨[], _, _, _, _, _, rfl, rfl, fun x hx => by cases hx⟩ (fun k d hdk δ hi => ?_) (fun δ hi => ?_)
    · have hk : k < 2 ^ m := by rw [← len_lots h1]; exact (List.getElem?_eq_some_iff.mp hdk).1
      rw [lots_at h1 hk] at hdk
      cases hdk
      obtain ⟨xs, s4, s5, s8, s9, s10, rfl, hl, hx⟩ := hi
      refine ⟨_, rfl, ?_⟩
      show T.ok (exl _ _ [.v .st, .v (.int (m : Nat)), .v (.int (b : Nat)), .v (.lst ds), s4, s5, .v (.tup ps), .own xs, .v (lotN k), s9, s10]) _ _
      rw [exl_set]
      refine T.ok_bind.mpr (T.ok_mono (fun sm hsm => ?_) (fun _ _ z => z) (cut_sum (j := j + 1) h1 hk hdl hdr))
      obtain ⟨ys, rfl, yl, yb⟩ := hsm
      obtain ⟨t1, u1, u2, u3⟩ := bi_sum (b := b) (c := 36) yb yl
      obtain ⟨t2, v1, v2, v3⟩ := run30 (j + 7) m k b ps h1 hk psl psr
      have hlx : decide (xs.length < lim) = true := decide_eq_true (by rw [hl]; exact Nat.lt_of_lt_of_le (p64 h1 hk) (by decide))
      show T.ok (exl _ _ [.v .st, .v (.int (m : Nat)), .v (.int (b : Nat)), .v (.lst ds), s4, s5, .v (.tup ps), .own xs, .v (lotN k), .v (.lst ys), s10]) _ _
      simp only [exl_app, look_s, look_z, ev_op, ev_bi, evs_cons, evs_nil, ev_v, bind_ret, u1, ev_call, call_K, v1, op_addI, hlx, need_true, exl_nil]
      refine ⟨_, _, _, _, _, _, rfl, by simp [hl], fun x hx' => ?_⟩
      rcases List.mem_append.mp hx' with hx' | hx'
      · exact hx x hx'
      · simp only [List.mem_singleton] at hx'; subst hx'; exact ⟨_, rfl, by omega, by omega⟩
    · obtain ⟨xs, s4, s5, s8, s9, s10, rfl, hl, hx⟩ := hi
      rw [len_lots h1] at hl
      simp only [exl_ret, ev_bi, evs_cons, evs_nil, ev_b, look_s, look_z, bind_ret, bi_tup]
      exact ⟨xs, rfl, hl, hx⟩
end Lw
end

section
set_option Elab.async false
set_option linter.all false
set_option maxRecDepth 100000
set_option maxHeartbeats 4000000
namespace Lw
open PySem Dp
theorem good_ints {m b : Nat} {ws : List D} (h1 : 1 ≤ m) (h6 : m ≤ 6) (hl : ws.length = 2 ^ m) (hb : b ≤ 1000000) (h : ∀ d ∈ ws, inB b d) : Good m ws := by
  refine ⟨h1, h6, hl, fun d hd => ?_, ?_⟩
  · obtain ⟨i, rfl, h1, h2⟩ := h d hd
    have a : -1000000 ≤ i := by omega
    have c : i ≤ 1000000 := by omega
    simp [okw, D.isN, isNum, a, c]
    omega
  · cases ws with
    | nil =>
      have : 0 < 2 ^ m := Nat.pos_of_ne_zero (by simp)
      simp at hl; omega
    | cons d l =>
      obtain ⟨i, rfl, _⟩ := h d List.mem_cons_self
      exact ⟨_, List.mem_cons_self, rfl⟩
theorem inP_B {b : Nat} {d : D} (h : inP b d) : inB b d := by
  obtain ⟨i, rfl, h1, h2⟩ := h; exact ⟨i, rfl, by omega, h2⟩
/-- a table as it is told -/
def smW (d : D) : Prop := d = .non ∨ inB 64000 d
theorem smW_B {b : Nat} (h : b ≤ 64000) {d : D} (q : inB b d) : smW d := by
  obtain ⟨i, rfl, h1, h2⟩ := q
  exact .inr ⟨i, rfl, by omega, by omega⟩
def toldP (d : D) : Prop := ∃ m ws, d = .tup [.int (m : Nat), .tup ws] ∧ Good m ws ∧ ∀ d ∈ ws, smW d
theorem reach4 {d : D} (h : d ∈ [D.int 1, .int 3, .int 20, .int 1000]) : ∃ b : Nat, d = .int (b : Nat) ∧ 1 ≤ b ∧ b ≤ 1000 := by
  simp only [List.mem_cons, List.not_mem_nil, or_false] at h
  rcases h with rfl | rfl | rfl | rfl
  · exact ⟨1, rfl, by decide, by decide⟩
  · exact ⟨3, rfl, by decide, by decide⟩
  · exact ⟨20, rfl, by decide, by decide⟩
  · exact ⟨1000, rfl, by decide, by decide⟩
def b36t : SL := SL.cons (S.ife (E.cmp CmpOp.Eq (E.v 3) (E.c (Cst.int 0))) (SL.cons (S.ret (E.tup (EL.cons (E.v 2) (EL.cons (E.call 32 (EL.cons (E.v 0) (EL.cons (E.v 2) (EL.cons (E.v 4) EL.nil)))) EL.nil)))) SL.nil) SL.nil) (SL.cons (S.ife (E.cmp CmpOp.Eq (E.v 3) (E.c (Cst.int 1))) (SL.cons (S.ret (E.tup (EL.cons (E.v 2) (EL.cons (E.call 33 (EL.cons (E.v 0) (EL.cons (E.v 2) (EL.cons (E.v 4) EL.nil)))) EL.nil)))) SL.nil) SL.nil) (SL.cons (S.ife (E.cmp CmpOp.Eq (E.v 3) (E.c (Cst.int 2))) (SL.cons (S.ret (E.tup (EL.cons (E.v 2) (EL.cons (E.call 34 (EL.cons (E.v 0) (EL.cons (E.v 2) (EL.cons (E.v 4) EL.nil)))) EL.nil)))) SL.nil) SL.nil) (SL.cons (S.set 5 false (E.call 31 (EL.cons (E.v 0) (EL.cons (E.v 2) (EL.cons (E.v 4) EL.nil))))) (SL.cons (S.ret (E.tup (EL.cons (E.v 2) (EL.cons (E.ite (E.cmp CmpOp.Eq (E.v 3) (E.c (Cst.int 3))) (E.call 35 (EL.cons (E.v 0) (EL.cons (E.v 2) (EL.cons (E.v 5) EL.nil)))) (E.v 5)) EL.nil)))) SL.nil))))
theorem tail30 {j m b w : Nat} (h1 : 1 ≤ m) (h6 : m ≤ 6) (hb1 : 1 ≤ b) (hb2 : b ≤ 1000) : T.ok (T.bind (exl (P.K (j + 9)) b36t [.v .st, .v (.int 6), .v (.int (m : Nat)), .v (.int (w : Nat)), .v (.int (b : Nat)), .no]) fin) toldP (fun _ _ => False) := by
  unfold b36t
  by_cases w0 : ((w : Nat) : Int) = 0
  · simp only [exl_ife, ev_cmp', ev_v, ev_c, cd_int, look_s, look_z, bind_ret, cK_int, cD_eqI, asB_bl, w0, decide_true, if_true, exl_ret, ev_tup, evs_cons, evs_nil, ev_call, call_K, bind_bind]
    refine T.ok_bind.mpr (T.ok_mono (fun d hd => ?_) (fun _ _ z => z) (run32_ok (j := j + 1) h6 hb1 hb2))
    obtain ⟨ps, rfl, pl, pb⟩ := hd
    exact ⟨m, ps, rfl, good_ints h1 h6 pl (by decide) fun d hd => inP_B (pb d hd), fun d hd => smW_B (by decide) (inP_B (pb d hd))⟩
  by_cases w1 : ((w : Nat) : Int) = 1
  · simp only [exl_ife, ev_cmp', ev_v, ev_c, cd_int, look_s, look_z, bind_ret, cK_int, cD_eqI, asB_bl, w0, w1, decide_true, decide_false, Bool.false_eq_true, if_false, if_true, exl_ret, exl_nil, ev_tup, evs_cons, evs_nil, ev_call, call_K, bind_bind, show ¬((1 : Int) = 0) by decide]
    refine T.ok_bind.mpr (T.ok_mono (fun d hd => ?_) (fun _ _ z => z) (run33_ok (j := j) h6 hb1 hb2))
    obtain ⟨ps, rfl, pl, pb⟩ := hd
    exact ⟨m, ps, rfl, good_ints h1 h6 pl (by decide) pb, fun d hd => smW_B (by decide) (pb d hd)⟩
  by_cases w2 : ((w : Nat) : Int) = 2
  · simp only [exl_ife, ev_cmp', ev_v, ev_c, cd_int, look_s, look_z, bind_ret, cK_int, cD_eqI, asB_bl, w0, w1, w2, decide_true, decide_false, Bool.false_eq_true, if_false, if_true, exl_ret, exl_nil, ev_tup, evs_cons, evs_nil, ev_call, call_K, bind_bind, show ¬((2 : Int) = 0) by decide, show ¬((2 : Int) = 1) by decide]
    refine T.ok_bind.mpr (T.ok_mono (fun d hd => ?_) (fun _ _ z => z) (run34_ok (j := j) h6 hb1 hb2))
    obtain ⟨ps, rfl, pl, pb⟩ := hd
    exact ⟨m, ps, rfl, good_ints h1 h6 pl (by decide) pb, fun d hd => smW_B (by decide) (pb d hd)⟩
  simp only [exl_ife, ev_cmp', ev_v, ev_c, cd_int, look_s, look_z, bind_ret, cK_int, cD_eqI, asB_bl, w0, w1, w2, decide_false, Bool.false_eq_true, if_false, exl_nil, exl_set, ev_call, evs_cons, evs_nil, call_K, bind_bind]
  refine T.ok_bind.mpr (T.ok_mono (fun d hd => ?_) (fun _ _ z => z) (run31_ok (j := j + 1) h6 hb2))
  obtain ⟨ps, rfl, pl, pb⟩ := hd
  have g := good_ints h1 h6 pl (by omega) pb
  simp only [List.set_cons_succ, List.set_cons_zero]
  by_cases w3 : ((w : Nat) : Int) = 3
  · simp only [exl_ret, ev_tup, ev_ite, ev_cmp', ev_v, ev_c, cd_int, look_s, look_z, bind_ret, cK_int, cD_eqI, asB_bl, w3, decide_true, if_true, evs_cons, evs_nil, ev_call, call_K, bind_bind]
    refine T.ok_bind.mpr (T.ok_mono (fun d hd => ?_) (fun _ _ z => z) (run35_ok (j := j + 1) g smW (.inl rfl) fun d hd => smW_B (by omega) (pb d hd)))
    obtain ⟨vs, rfl, gv⟩ := hd
    exact ⟨m, vs, rfl, gv⟩
  · simp only [exl_ret, ev_tup, ev_ite, ev_cmp', ev_v, ev_c, cd_int, look_s, look_z, bind_ret, cK_int, cD_eqI, asB_bl, w3, decide_false, Bool.false_eq_true, if_false, evs_cons, evs_nil]
    exact ⟨m, ps, rfl, g, fun d hd => smW_B (by omega) (pb d hd)⟩
theorem run36_ok {j : Nat} : T.ok (P.run (j + 10) 36 [.st, .int 6]) toldP (fun _ _ => False) := by
  rw [run_go (P := P) (np := 2) (ns := 6) (b := b36) rfl rfl]
  show T.ok (T.bind (exl _ b36 [.v .st, .v (.int 6), .no, .no, .no, .no]) fin) _ _
  rw [show b36 = SL.cons (S.par [(2, false), (3, false), (4, false)] (EL.cons (E.op Operator.Add (E.c (Cst.int 1)) (E.call 24 (EL.cons (E.v 0) (EL.cons (E.v 1) EL.nil)))) (EL.cons (E.call 24 (EL.cons (E.v 0) (EL.cons (E.c (Cst.int 6)) EL.nil))) (EL.cons (E.call 25 (EL.cons (E.v 0) (EL.cons (E.lst (EL.cons (E.c (Cst.int 1)) (EL.cons (E.c (Cst.int 3)) (EL.cons (E.c (Cst.int 20)) (EL.cons (E.c (Cst.int 1000)) EL.nil))))) EL.nil))) EL.nil)))) b36t from rfl]
  have e6 : ((6 : Nat) : Int) = 6 := rfl
  have r6 := run24 (j + 2) 6
  rw [e6] at r6
  rw [exl_par]
  simp only [evs_cons, evs_nil, ev_op, ev_call, ev_v, ev_c, ev_lst, cd_int, look_s, look_z, bind_ret, call_K, r6, bind_draw, op_addI, bind_bind]
  refine ⟨by decide, by unfold T.most; decide +kernel, fun r hr => ?_⟩
  dsimp only
  refine ⟨by decide, by unfold T.most; decide +kernel, fun w hw => ?_⟩
  dsimp only
  have es : (1 + ((r : Nat) : Int)) = ((r + 1 : Nat) : Int) := by omega
  rw [es]
  generalize hm : r + 1 = m
  have h1 : 1 ≤ m := by omega
  have h6 : m ≤ 6 := by omega
  refine T.ok_bind.mpr (T.ok_mono (fun b0 hb0 => ?_) (fun _ _ z => z) (pick_ok (j := j + 1) (l := [.int 1, .int 3, .int 20, .int 1000]) (by decide) (by decide)))
  obtain ⟨b, rfl, hb1, hb2⟩ := reach4 hb0
  simp only [bind_ret, takes, take, Bool.false_eq_true, if_false, List.set_cons_succ, List.set_cons_zero, bind_bind]
  exact tail30 h1 h6 hb1 hb2
end Lw
end

section
set_option Elab.async false
set_option linter.all false
set_option maxRecDepth 100000
set_option maxHeartbeats 4000000
namespace Lw
open PySem Dp
def noTab : List D := [.non, .int 0, .bl true, .tup [], .lst [], .dct, .str ("table"), .tup [.int 1, .tup [.int 0, .int 0]], .int 1000000000000000000]
theorem noTab_pk : noTab.all pk = true := by kernel_rfl
theorem run39_ok {j : Nat} : T.ok (P.run (j + 9) 39 [.st]) (fun d => pk d = true) (fun _ _ => False) := by
  rw [run_go (P := P) (np := 1) (ns := 1) (b := b39) rfl rfl]
  show T.ok (T.bind (exl _ b39 [.v .st]) fin) _ _
  unfold b39
  simp only [exl_ret, ev_call, evs_cons, evs_nil, ev_v, ev_lst, ev_c, ev_tup, ev_dct, ev_op, cd_int, cd_non, cd_bl, cd_str, op_pow18, look_z, look_s, bind_ret, call_K, bind_bind]
  refine T.ok_bind.mpr (T.ok_mono (fun d hd => ?_) (fun _ _ z => z) (pick_ok (j := j) (l := noTab) (by decide) (by decide)))
  exact List.all_eq_true.mp noTab_pk d hd
theorem chk_to {α : Type} {q : α → Bool} {Q : α → Prop} {t : T α} (h : T.chk q t = true) (hq : ∀ a, q a = true → Q a) : T.ok t Q (fun _ _ => False) := T.ok_mono hq (fun _ _ z => z) (T.chk_ok h)
end Lw
end

section
set_option Elab.async false
set_option linter.all false
set_option maxRecDepth 100000
set_option maxHeartbeats 4000000
namespace Lw
open PySem Dp
theorem bigN (j : Nat) (δ : Dp.Env) : ev (P.K j) (E.bi BI.int (EL.cons (E.op Operator.Mult (E.c (Cst.str ("9"))) (E.g 0)) EL.nil)) δ = .ret (.int (10 ^ 400 - 1)) := by kernel_rfl
theorem run2 (j : Nat) (i : Int) (h : i.natAbs < 2 ^ 1000) : P.run (j + 1) 2 [.int i] = .ret (.bl true) := by
  rw [run_go (P := P) (np := 1) (ns := 1) (b := b2) rfl rfl]
  show T.bind (exl _ b2 [.v (.int i)]) fin = _
  unfold b2
  have hk : ((2 ^ 1000 : Nat) : Int) ≤ 10 ^ 400 - 1 := by decide +kernel
  have h2 : ((i.natAbs : Nat) : Int) ≤ 10 ^ 400 - 1 := by
    have : ((i.natAbs : Nat) : Int) < ((2 ^ 1000 : Nat) : Int) := Int.ofNat_lt.mpr h
    omega
  have e := bigN j [.v (.int i)]
  generalize (10 ^ 400 - 1 : Int) = N at e h2
  rw [exl_ret, ev_and, ev_isi, ev_v, look_z, bind_ret, isi_ii, bind_ret, asB_bl, bind_ret, if_pos rfl, ev_and, ev_not, ev_isi, ev_v, look_z, bind_ret, isi_ib, bind_ret, asB_bl, bind_ret, bind_ret, asB_bl, bind_ret, Bool.not_false, if_pos rfl, ev_and1]
  rw [ev_cmp (x := .int (i.natAbs : Nat)) (y := .int N) (by rw [ev_bi1 (d := .int i) rfl, bi_abs]) e, cK_int, cD_le, decide_eq_true h2]
  rfl
/-- a fraction in lowest terms -/
structure Red (f : Fq) : Prop where
  bd : f.bd 17
  g : Int.gcd f.n f.d = 1
theorem run4 (j : Nat) {f : Fq} (h : Red f) : P.run (j + 2) 4 [f.D] = .ret (.bl true) := by
  rw [run_go (P := P) (np := 1) (ns := 1) (b := b4) rfl rfl]
  generalize hq : b4 = bb
  show T.bind (exl _ bb [.v f.D]) fin = _
  subst hq
  unfold b4
  have k1 : ∀ {x : Nat}, x < 2 ^ 17 → x < 2 ^ 1000 := fun h => Nat.lt_of_lt_of_le h (Nat.pow_le_pow_right (by decide) (by decide))
  have e1 := run2 j f.n (k1 h.bd.n)
  have e2 := run2 j f.d (k1 h.bd.d)
  have e3 := run3 j f.n f.d (Nat.lt_of_lt_of_le h.bd.d (Nat.pow_le_pow_right (by decide) (by decide)))
  have it : isiD (P.K (j + 1)).G f.D .tuple = .ret (.bl true) := rfl
  have il : biD .len [f.D] = .ret (.int 2) := rfl
  have hd : (1 : Int) ≤ f.d := h.bd.p
  rw [h.g] at e3
  simp only [exl_ife, ev_or, ev_or1, ev_not, ev_isi, ev_v, look_z, bind_ret, it, asB_bl, Bool.not_true, Bool.false_eq_true, if_false, ev_cmp', ev_bi, evs_cons, evs_nil, il, ev_c, cd_int, cK_int, cD_neI, decide_true, ev_call, ev_ix, ixn, ixd, call_K, e1, e2, e3, exl_nil, exl_ret, ev_and, ev_and1, cD_ge, decide_eq_true hd, if_true, cD_eqI]
  rfl
structure Pr (m : Nat) (fs : List Fq) : Prop where
  len : fs.length = m
  red : ∀ f ∈ fs, Red f
/-- prices as data -/
abbrev prD (fs : List Fq) : D := .tup (fs.map Fq.D)
section
variable {m : Nat} {ws : List D} {fs : List Fq}
theorem run15 (j : Nat) (p : Pr m fs) (h6 : m ≤ 6) : P.run (j + 3) 15 [.int (m : Nat), prD fs] = .ret (.bl true) := by
  rw [run_go (P := P) (np := 2) (ns := 3) (b := b15) rfl rfl]
  generalize hq : b15 = bb
  show T.bind (exl _ bb [.v (.int (m : Nat)), .v (prD fs), .no]) fin = _
  subst hq
  unfold b15
  have e1 : ev (P.K (j + 2)) (E.lc [(("price" : Str), 2)] (Tg.n 2) (Src.e (E.v 1)) EO.no (E.call 4 (EL.cons (E.v 2) EL.nil))) [.v (.int (m : Nat)), .v (prD fs), .no] = .ret (.lst ((fs.map Fq.D).map fun _ => D.bl true)) := by
    rw [lc_pure (l := fs.map Fq.D) (fun _ => true) (fun _ => D.bl true) rfl (by rw [List.length_map, p.len]; exact Nat.le_trans h6 (by decide)) fun d hd => ?_, filt_true]
    obtain ⟨f, hf, rfl⟩ := List.mem_map.mp hd
    refine ⟨_, rfl, rfl, fun _ => ?_⟩
    show ev _ _ [_, _, Slot.v f.D] = _
    simp only [ev_call, evs_cons, evs_nil, ev_v, look_s, look_z, bind_ret, call_K, run4 j (p.red f hf)]
  have e2 := bi_all_map (fs.map Fq.D) (fun _ => true)
  have hall : ((fs.map Fq.D).all fun _ => true) = true := by simp
  rw [hall] at e2
  have il : biD .len [prD fs] = .ret (.int (m : Nat)) := by
    show T.ret (D.int ((fs.map Fq.D).length : Nat)) = _
    rw [List.length_map, p.len]
  have it : isiD (P.K (j + 2)).G (prD fs) .tuple = .ret (.bl true) := rfl
  simp only [exl_ret, ev_and, ev_and1, ev_isi, ev_v, look_s, look_z, bind_ret, it, asB_bl, if_true, ev_cmp', ev_bi, evs_cons, evs_nil, il, cK_int, cD_eqI, decide_true, e1, e2]
  rfl
theorem run16 (j : Nat) (p : Pr m fs) (h6 : m ≤ 6) : P.run (j + 4) 16 [tb m ws, prD fs] = .ret .non := by
  rw [run_go (P := P) (np := 2) (ns := 2) (b := b16) rfl rfl]
  show T.bind (exl _ b16 [.v (tb m ws), .v (prD fs)]) fin = _
  unfold b16
  have e := fld0 (j + 3) [Slot.v (tb m ws), Slot.v (prD fs)] m ws (.v 0) rfl
  simp [-ev_fld, e, run15 j p h6, call_K]
/-! ### gains -/
def lotT (k : Nat) : List Nat := (lotL k).map fun d => match d with | .int t => t.toNat | _ => 0
theorem lotT_ok : allN 64 (fun k => D.same (.tup (lotL k)) (.tup ((lotT k).map fun (t : Nat) => .int (t : Nat)))) = true := by kernel_rfl
theorem lotT_eq {k : Nat} (h : k < 64) : lotL k = (lotT k).map fun (t : Nat) => .int (t : Nat) := by
  have e := D.same_ok (allN_ok lotT_ok k h)
  exact D.tup.inj e
theorem lotT_th {k m : Nat} (h6 : m ≤ 6) (hk : k < 2 ^ m) {t : Nat} (ht : t ∈ lotT k) : t < m := by
  have hm : D.int (t : Nat) ∈ lotL k := by rw [lotT_eq (p64 h6 hk)]; exact List.mem_map.mpr ⟨t, ht, rfl⟩
  obtain ⟨u, hu, e⟩ := lot_th h6 hk hm
  cases e; omega
def gF (fs : List Fq) (k : Nat) : List Fq := (lotT k).map fun t => fs.getD t ⟨0, 1⟩
def gain (fs : List Fq) (k : Nat) (w : Int) : Fq := Fq.minus ⟨w, 1⟩ (Fq.sum (gF fs k))
theorem gF_red (p : Pr m fs) (h6 : m ≤ 6) {k : Nat} (hk : k < 2 ^ m) : ∀ f ∈ gF fs k, f.bd 17 := fun f hf => by
  obtain ⟨t, ht, rfl⟩ := List.mem_map.mp hf
  have : t < fs.length := by rw [p.len]; exact lotT_th h6 hk ht
  rw [List.getD_eq_getElem?_getD, List.getElem?_eq_getElem this]
  exact (p.red _ (List.getElem_mem this)).bd
theorem gF_len {k : Nat} (h : k < 64) : (gF fs k).length ≤ 6 := by
  have := (lotL_eq h).2.1
  unfold gF lotT
  simpa using this
theorem lc_prices (p : Pr m fs) (h6 : m ≤ 6) {j k : Nat} (hk : k < 2 ^ m) {own : List (Str × Nat)} {sr : Src} {δ : Dp.Env} (i : Nat) (hs : evsrc (P.K j) sr δ = .ret (lotL k)) (ha : ∀ d, asg (.n i) d (wipeE δ (own.map (·.2))) = some ((wipeE δ (own.map (·.2))).set i (.v d)))
    (hp : ∀ d, look ((wipeE δ (own.map (·.2))).set i (.v d)) 1 = .v (prD fs)) (hi : ∀ d, look ((wipeE δ (own.map (·.2))).set i (.v d)) i = .v d) : ev (P.K j) (.lc own (.n i) sr .no (.ix (.v 1) (.v i))) δ = .ret (.lst ((gF fs k).map Fq.D)) := by
  rw [lc_pure (l := lotL k) (fun _ => true) (fun d => match d with | .int t => (fs.getD t.toNat ⟨0, 1⟩).D | _ => .non) hs (Nat.le_trans (lotL_eq (p64 h6 hk)).2.1 (by decide)) fun d hd => ?_, filt_true]
  · rw [lotT_eq (p64 h6 hk), gF, List.map_map, List.map_map]; rfl
  · obtain ⟨t, ht, rfl⟩ := lot_th h6 hk hd
    refine ⟨_, ha _, rfl, fun _ => ?_⟩
    have hl : t < fs.length := by rw [p.len]; exact ht
    have : ixD (prD fs) (.int (t : Nat)) = .ret (fs.getD t ⟨0, 1⟩).D := by
      refine ix_tup ?_
      rw [List.getElem?_map, List.getElem?_eq_getElem hl, List.getD_eq_getElem?_getD, List.getElem?_eq_getElem hl]; rfl
    simp only [ev_ix, ev_v, hp, hi, bind_ret, this]
    rfl
theorem w_bd {w : Int} (h1 : -1000000 ≤ w) (h2 : w ≤ 1000000) : Fq.bd 21 ⟨w, 1⟩ :=
  ⟨by show w.natAbs < 2097152; omega, by show (0 : Int) < 1; decide, by show 1 < 2097152; decide⟩
theorem sum_bd' (p : Pr m fs) (h6 : m ≤ 6) {k : Nat} (hk : k < 2 ^ m) : Fq.bd 109 (Fq.sum (gF fs k)) := Fq.sum_bd (k := 17) (m := 6) (gF_red p h6 hk) (gF_len (p64 h6 hk))
theorem gain_bd (p : Pr m fs) (h6 : m ≤ 6) {k : Nat} (hk : k < 2 ^ m) {w : Int} (h1 : -1000000 ≤ w) (h2 : w ≤ 1000000) : Fq.bd 131 (gain fs k w) := Fq.minus_bd (i := 21) (j := 109) (w_bd h1 h2) (sum_bd' p h6 hk)
theorem run17 (j : Nat) (g : Good m ws) (p : Pr m fs) {k : Nat} (hk : k < 2 ^ m) {w : Int} (hw : ws[k]? = some (.int w)) : P.run (j + 5) 17 [tb m ws, prD fs, .int (k : Nat)] = .ret (gain fs k w).D := by
  rw [run_go (P := P) (np := 3) (ns := 5) (b := b17) rfl rfl]
  show T.bind (exl _ b17 [.v (tb m ws), .v (prD fs), .v (.int (k : Nat)), .no, .no]) fin = _
  unfold b17
  have f0 := fld0 (j + 4) [.v (tb m ws), .v (prD fs), .v (.int (k : Nat)), .no, .no] m ws (.v 0) rfl
  have e6 := run12 (j + 3) m k g.h6 hk
  rw [(lotL_eq (p64 g.h6 hk)).1] at e6
  have hs : evsrc (P.K (j + 4)) (.e (.call 12 (.cons (.fld (.v 0) ("many" : Str)) (.cons (.v 2) .nil)))) [.v (tb m ws), .v (prD fs), .v (.int (k : Nat)), .no, .no] = .ret (lotL k) := by
    rw [src_e, ev_call, evs_cons, f0, bind_ret, evs_cons, ev_v, look_s, look_s, look_z, evs_nil]
    simp only [bind_ret, call_K, e6]
    rfl
  have e1 := lc_prices p g.h6 hk (j := j + 4) (own := [(("thing" : Str), 4)]) 4 hs (fun _ => rfl) (fun _ => rfl) (fun _ => rfl)
  have e2 := run9 j (k := 17) (l := gF fs k) (gF_red p g.h6 hk) (gF_len (p64 g.h6 hk)) (by decide)
  obtain ⟨hb1, hb2⟩ : -1000000 ≤ w ∧ w ≤ 1000000 := by
    have := g.ok _ (List.mem_of_getElem? hw)
    rcases okw_cases this with h | ⟨i, h, hb1, hb2⟩
    · cases h
    · cases h; exact ⟨hb1, hb2⟩
  have e3 := run7 (k := 109) ((w_bd hb1 hb2).mono (by decide)) (sum_bd' p g.h6 hk) (by decide) (j + 1)
  have e4 : ixD (.tup ws) (.int (k : Nat)) = .ret (.int w) := ix_tup hw
  have f1 := fld1 (j + 4) [.v (tb m ws), .v (prD fs), .v (.int (k : Nat)), .v (Fq.sum (gF fs k)).D, .no] m ws (.v 0) rfl
  have e3' : P.run (j + 4) 7 [.tup [.int w, .int 1], (Fq.sum (gF fs k)).D] = .ret (gain fs k w).D := e3
  rw [exl_set, ev_call, evs_cons, e1, bind_ret, evs_nil, bind_ret, bind_ret, call_K, e2, bind_ret]
  simp only [List.set_cons_succ, List.set_cons_zero]
  rw [exl_ret, ev_call, evs_cons, ev_tup, evs_cons, ev_ix, f1]
  simp only [evs_cons, evs_nil, ev_v, look_s, look_z, bind_ret, e4, ev_c, cd_int, call_K, e3', fin_ret]
/-- a gain as data: None where the lot is not to be had -/
def go (fs : List Fq) (k : Nat) : D → Option Fq
  | .int w => some (gain fs k w)
  | _ => none
def oD : Option Fq → D
  | some f => f.D
  | none => .non
end
end Lw
end

section
set_option Elab.async false
set_option linter.all false
set_option maxRecDepth 100000
set_option maxHeartbeats 4000000
namespace Lw
open PySem Dp
/-- all gains from the number k on -/
def gos (fs : List Fq) : Nat → List D → List (Option Fq)
  | _, [] => []
  | k, d :: l => go fs k d :: gos fs (k + 1) l
theorem gos_len (fs : List Fq) : ∀ (l : List D) (k : Nat), (gos fs k l).length = l.length
  | [], _ => rfl
  | _ :: l, k => congrArg Nat.succ (gos_len fs l (k + 1))
theorem gos_get (fs : List Fq) : ∀ (l : List D) (k i : Nat) (d : D), l[i]? = some d → (gos fs k l)[i]? = some (go fs (k + i) d)
  | [], _, _, _, h => by simp at h
  | e :: l, k, 0, d, h => by simp at h; subst h; rfl
  | e :: l, k, i + 1, d, h => by
    have := gos_get fs l (k + 1) i d (by simpa using h)
    rw [show k + (i + 1) = k + 1 + i by omega]
    simpa [gos] using this
/-- those of the lots that are to be had -/
def some' (l : List (Option Fq)) : List Fq := l.filterMap id
def better (a b : Fq) : Fq := if Fq.below a b then b else a
def betterO (a : Fq) : Option Fq → Fq
  | some b => better a b
  | none => a
theorem fold_some : ∀ (l : List (Option Fq)) (a : Fq), l.foldl betterO a = (some' l).foldl better a
  | [], _ => rfl
  | none :: l, a => fold_some l a
  | some b :: l, a => fold_some l (better a b)
/-- the greatest gain -/
def most (l : List Fq) : Fq := match l with
  | [] => ⟨0, 1⟩
  | a :: l => (a :: l).foldl better a
theorem better_bd {k : Nat} {a b : Fq} (h : a.bd k) (q : b.bd k) : (better a b).bd k := by
  unfold better; split <;> assumption
theorem foldb_bd {k : Nat} : ∀ (l : List Fq) (a : Fq), a.bd k → (∀ f ∈ l, f.bd k) → (l.foldl better a).bd k
  | [], _, h, _ => h
  | b :: l, a, h, q => foldb_bd l _ (better_bd h (q b List.mem_cons_self)) fun f hf => q f (List.mem_cons_of_mem _ hf)
section
variable {m : Nat} {ws : List D} {fs : List Fq}
theorem go_bd (g : Good m ws) (p : Pr m fs) {i : Nat} {d : D} (hd : ws[i]? = some d) {f : Fq} (h : go fs i d = some f) : f.bd 131 := by
  have hi : i < 2 ^ m := by rw [← g.len]; exact (List.getElem?_eq_some_iff.mp hd).1
  rcases okw_cases (g.ok _ (List.mem_of_getElem? hd)) with rfl | ⟨w, rfl, hb1, hb2⟩
  · cases h
  · cases h; exact gain_bd p g.h6 hi hb1 hb2
theorem some_bd (g : Good m ws) (p : Pr m fs) : ∀ f ∈ some' (gos fs 0 ws), f.bd 131 := fun f hf => by
  obtain ⟨o, ho, e⟩ := List.mem_filterMap.mp hf
  obtain ⟨i, hi⟩ := List.getElem?_of_mem ho
  have hl : i < ws.length := by
    have := (List.getElem?_eq_some_iff.mp hi).1
    rwa [gos_len] at this
  have := gos_get fs ws 0 i _ (List.getElem?_eq_getElem hl)
  rw [this] at hi
  cases hi
  rw [Nat.zero_add] at e
  exact go_bd g p (List.getElem?_eq_getElem hl) e
theorem some_ne (g : Good m ws) : some' (gos fs 0 ws) ≠ [] := by
  obtain ⟨d, hd, hn⟩ := g.some
  obtain ⟨i, hi⟩ := List.getElem?_of_mem hd
  have := gos_get fs ws 0 i _ hi
  rcases okw_cases (g.ok _ hd) with rfl | ⟨w, rfl, _⟩
  · cases hn
  · intro z
    have hm : some (gain fs (0 + i) w) ∈ gos fs 0 ws := List.mem_of_getElem? this
    have : gain fs (0 + i) w ∈ some' (gos fs 0 ws) := List.mem_filterMap.mpr ⟨_, hm, rfl⟩
    rw [z] at this; cases this
theorem most_bd (g : Good m ws) (p : Pr m fs) : (most (some' (gos fs 0 ws))).bd 131 := by
  have h := some_bd g p
  have hn := some_ne (fs := fs) g
  cases e : some' (gos fs 0 ws) with
  | nil => exact absurd e hn
  | cons a l =>
    rw [e] at h
    exact foldb_bd _ _ (h a List.mem_cons_self) h
/-- the table's own row of gains -/
def fN : D → D → D := fun x d => match d with
  | .tup [.int i, .int w] => match x with | .tup l => .tup l | d => d
  | d => d
def gN (fs : List Fq) : D → D
  | .tup [.int i, .int w] => (gain fs i.toNat w).D
  | d => d
theorem enum_gain (fs : List Fq) : ∀ (l : List D) (k : Nat), (∀ d ∈ l, okw d = true) → ((enumD k l).filter wN).map (gN fs) = (some' (gos fs k l)).map Fq.D
  | [], _, _ => rfl
  | d :: l, k, h => by
    have ih := enum_gain fs l (k + 1) fun d hd => h d (List.mem_cons_of_mem _ hd)
    show (((.tup [.int (k : Nat), d]) :: enumD (k + 1) l).filter wN).map (gN fs) = _
    rcases okw_cases (h d List.mem_cons_self) with rfl | ⟨w, rfl, _⟩
    · have e : wN (.tup [.int (k : Nat), .non]) = false := rfl
      rw [List.filter_cons_of_neg (by rw [e]; decide), ih]; rfl
    · have e : wN (.tup [.int (k : Nat), .int w]) = true := rfl
      rw [List.filter_cons_of_pos e, List.map_cons, ih]; rfl
/-- the loop for the greatest one -/
def MI (a b c e : Dp.Slot) (z : Fq) (l : List Fq) (i : Nat) (δ : Dp.Env) : Prop := ∃ s, δ = [a, b, .v (.lst (l.map Fq.D)), c, e, .v ((l.take i).foldl better z).D, s]
theorem run18 (j : Nat) (g : Good m ws) (p : Pr m fs) : P.run (j + 6) 18 [tb m ws, prD fs] = .ret (most (some' (gos fs 0 ws))).D := by
  rw [run_go (P := P) (np := 2) (ns := 7) (b := b18) rfl rfl]
  show T.bind (exl _ b18 [.v (tb m ws), .v (prD fs), .no, .no, .no, .no, .no]) fin = _
  unfold b18
  have n1 := run14 (j + 4) m ws
  have n2 := run16 (ws := ws) (j + 1) p g.h6
  have f1 := fld1 (j + 5) [.v (tb m ws), .v (prD fs), .no, .no, .no, .no, .no] m ws (.v 0) rfl
  have hs : evsrc (P.K (j + 5)) (.enum (.fld (.v 0) ("worths" : Str))) [.v (tb m ws), .v (prD fs), .no, .no, .no, .no, .no] = .ret (enumD 0 ws) := by rw [src_en, f1]; rfl
  have e1 := lc_pure (K := P.K (j + 5)) (own := [(("at" : Str), 3), (("worth" : Str), 4)]) (t := .t [.n 3, .n 4]) (c := .e (.cmp .IsNot (.v 4) (.c .non))) (e := .call 17 (.cons (.v 0) (.cons (.v 1) (.cons (.v 3) .nil)))) wN (gN fs) hs (by rw [enum_len, g.len]; exact lim64 g.h6) fun d hd => by
    obtain ⟨i, hi0⟩ := List.getElem?_of_mem hd
    obtain ⟨w, h1, h2⟩ := enum_get hi0
    have h2 : d = .tup [.int (i : Nat), w] := by rw [h2]; simp
    subst h2
    have hi : i < 2 ^ m := by rw [← g.len]; exact (List.getElem?_eq_some_iff.mp h1).1
    refine ⟨_, rfl, ?_, fun hw => ?_⟩
    · show evc _ _ [_, _, _, _, Slot.v w, _, _] = _
      simp [wN]
    · rcases okw_cases (g.ok _ (List.mem_of_getElem? h1)) with rfl | ⟨w, rfl, _⟩
      · cases hw
      · show ev _ _ [Slot.v (tb m ws), Slot.v (prD fs), _, Slot.v (.int (i : Nat)), Slot.v (.int w), _, _] = _
        have e6 := run17 j g p hi h1
        simp only [ev_call, evs_cons, evs_nil, ev_v, look_s, look_z, bind_ret, call_K, e6]
        rfl
  rw [enum_gain fs ws 0 g.ok] at e1
  have hbd := some_bd g p
  have hne := some_ne (fs := fs) g
  cases hG : some' (gos fs 0 ws) with
  | nil => exact absurd hG hne
  | cons a l =>
  rw [hG] at e1 hbd
  have ha : ixD (.lst ((a :: l).map Fq.D)) (.int 0) = .ret a.D := rfl
  rw [exl_ex, ev_call1 (x := tb m ws) rfl, call_K, n1, bind_ret, exl_ex, ev_call2 (x := tb m ws) (y := prD fs) rfl rfl, call_K, n2, bind_ret, exl_set, e1, bind_ret]
  simp only [List.set_cons_succ, List.set_cons_zero]
  rw [exl_set, ev_ix, ev_v, look_s, look_s, look_z]
  simp only [bind_ret, ev_c, cd_int, ha, List.set_cons_succ, List.set_cons_zero]
  obtain ⟨δ3, ⟨s, rfl⟩, e⟩ := exl_for_eq (K := P.K (j + 5)) (t := .n 6) (sr := .e (.v 2)) (b := (.cons (.set 5 false (.ite (.call 8 (.cons (.v 5) (.cons (.v 6) .nil))) (.v 6) (.v 5))) .nil)) (l := (.cons (.ret (.v 5)) .nil)) (δ := [.v (tb m ws), .v (prD fs), .v (.lst ((a :: l).map Fq.D)), .no, .no, .v a.D, .no]) (ds := (a :: l).map Fq.D) (MI (.v (tb m ws)) (.v (prD fs)) .no .no a (a :: l)) rfl (by
      have hl : (some' (gos fs 0 ws)).length ≤ (gos fs 0 ws).length := List.length_filterMap_le _ _
      rw [hG, gos_len, g.len] at hl
      rw [List.length_map]
      exact Nat.le_trans hl (lim64 g.h6)) ⟨_, rfl⟩ (fun i d hd δ hi => by
    obtain ⟨s, rfl⟩ := hi
    rw [List.getElem?_map] at hd
    cases q : (a :: l)[i]? with
    | none => rw [q] at hd; cases hd
    | some f =>
      rw [q] at hd
      cases hd
      refine ⟨_, _, rfl, ?_, ⟨.v f.D, rfl⟩⟩
      have hf := hbd f (List.mem_of_getElem? q)
      have hz := foldb_bd ((a :: l).take i) a (hbd a List.mem_cons_self) fun f hf => hbd f (List.mem_of_mem_take hf)
      have e9 := run8 hz hf (by decide) (j + 4)
      show exl _ _ [_, _, _, _, _, _, Slot.v f.D] = _
      rw [foldl_take _ _ q]
      generalize ((a :: l).take i).foldl better a = z at *
      simp only [exl_set, ev_ite, ev_call, evs_cons, evs_nil, ev_v, look_s, look_z, bind_ret, call_K, e9, asB_bl]
      unfold better
      cases Fq.below z f <;> simp only [if_true, Bool.false_eq_true, if_false, bind_ret, List.set_cons_succ, List.set_cons_zero, exl_nil])
  rw [e]
  simp only [exl_ret, ev_v, look_s, look_z, bind_ret, fin_ret, List.length_map, List.take_length]
  rfl
/-! ### equal fractions -/
def eqF (a b : Fq) : Bool := decide (a.n = b.n) && decide (a.d = b.d)
theorem py_F (f : Fq) : f.D.py = some (.tuple [.int f.n, .int f.d]) := by simp [Fq.D, D.py, D.pys]
theorem shp_F (f : Fq) : SeqAt.shaped (.tuple [.int f.n, .int f.d]) = true := by
  unfold SeqAt.shaped
  simp [PyData.canLay, PyData.canLay0, PyData.canLayAll0, PyData.depth, PyData.depthAll]
theorem eqv_F (a b : Fq) : PyData.eqv (.tuple [.int a.n, .int a.d]) (.tuple [.int b.n, .int b.d]) = eqF a b := by
  simp [PyData.eqv, PyData.eqvAll, eqF]
  by_cases h1 : a.n = b.n <;> by_cases h2 : a.d = b.d <;> simp [h1, h2]
theorem cmp_F (a b : Fq) : cmpD .Eq a.D b.D = .ret (.bl (eqF a b)) := by
  show eqD a.D b.D .bl = _
  rw [eqD_py (py_F a) (py_F b), shp_F, shp_F, eqv_F]; rfl
theorem cmp_NF (b : Fq) : cmpD .Eq .non b.D = .ret (.bl false) := by
  show eqD .non b.D .bl = _
  rw [eqD_py (p := .none) (by simp only [D.py]) (py_F b), shp_F]
  have : SeqAt.shaped .none = true := by kernel_rfl
  rw [this]
  simp [PyData.eqv]
/-- the lots with just this gain, from the number k on -/
def due (z : Fq) : Nat → List (Option Fq) → List D
  | _, [] => []
  | k, some f :: l => if eqF f z then lotN k :: due z (k + 1) l else due z (k + 1) l
  | k, none :: l => due z (k + 1) l
theorem due_take (z : Fq) : ∀ (l : List (Option Fq)) (k i : Nat) (o : Option Fq), l[i]? = some o → due z k (l.take (i + 1)) = due z k (l.take i) ++ (match o with | some f => if eqF f z then [lotN (k + i)] else [] | none => [])
  | [], _, _, _, h => by simp at h
  | a :: l, k, 0, o, h => by
    simp at h; subst h
    cases a with
    | none => rfl
    | some f => simp [due]
  | a :: l, k, i + 1, o, h => by
    have := due_take z l (k + 1) i o (by simpa using h)
    rw [show k + (i + 1) = k + 1 + i by omega]
    cases a with
    | none => simpa [due] using this
    | some f =>
      simp only [List.take_succ_cons, due]
      split <;> simp [this]
theorem due_len (z : Fq) : ∀ (l : List (Option Fq)) (k : Nat), (due z k l).length ≤ l.length
  | [], _ => Nat.le_refl _
  | some f :: l, k => by
    have := due_len z l (k + 1)
    unfold due; split <;> simp <;> omega
  | none :: l, k => Nat.le_trans (due_len z l (k + 1)) (Nat.le_succ _)
def BI' (a b c : Dp.Slot) (z : Fq) (l : List (Option Fq)) (i : Nat) (δ : Dp.Env) : Prop := ∃ s t, δ = [a, b, c, .own (due z 0 (l.take i)), s, t]
theorem run19 (j : Nat) (g : Good m ws) (p : Pr m fs) : P.run (j + 7) 19 [tb m ws, prD fs] = .ret (.tup (due (most (some' (gos fs 0 ws))) 0 (gos fs 0 ws))) := by
  rw [run_go (P := P) (np := 2) (ns := 6) (b := b19) rfl rfl]
  show T.bind (exl _ b19 [.v (tb m ws), .v (prD fs), .no, .no, .no, .no]) fin = _
  unfold b19
  have e0 := run18 j g p
  generalize hz : most (some' (gos fs 0 ws)) = z at e0 ⊢
  rw [exl_par]
  simp only [evs_cons, evs_nil, ev_call, ev_v, ev_lst, look_s, look_z, bind_ret, call_K, e0, takes, take, Bool.false_eq_true, if_false, if_true, List.set_cons_succ, List.set_cons_zero]
  have f1 := fld1 (j + 6) [.v (tb m ws), .v (prD fs), .v z.D, .own [], .no, .no] m ws (.v 0) rfl
  have hs : evsrc (P.K (j + 6)) (.enum (.fld (.v 0) ("worths" : Str))) [.v (tb m ws), .v (prD fs), .v z.D, .own [], .no, .no] = .ret (enumD 0 ws) := by rw [src_en, f1]; rfl
  obtain ⟨δ3, ⟨s, t, rfl⟩, e⟩ := exl_for_eq (K := P.K (j + 6)) (t := .t [.n 4, .n 5]) (sr := .enum (.fld (.v 0) ("worths" : Str)))
    (b := (.cons (.ife (.and (.cmp .IsNot (.v 5) (.c .non)) (.and1 (.cmp .Eq (.call 17 (.cons (.v 0) (.cons (.v 1) (.cons (.v 4) .nil)))) (.v 2)))) (.cons (.app 3 (.call 12 (.cons (.fld (.v 0) ("many" : Str)) (.cons (.v 4) .nil)))) .nil) .nil) .nil)) (l := (.cons (.ret (.bi .tuple (.cons (.b 3) .nil))) .nil))
    (BI' (.v (tb m ws)) (.v (prD fs)) (.v z.D) z (gos fs 0 ws)) hs (by rw [enum_len, g.len]; exact lim64 g.h6) ⟨_, _, rfl⟩ (fun i d hd δ hi => by
    obtain ⟨s, t, rfl⟩ := hi
    obtain ⟨w, h1, h2⟩ := enum_get hd
    have h2 : d = .tup [.int (i : Nat), w] := by rw [h2]; simp
    subst h2
    have hi : i < 2 ^ m := by rw [← g.len]; exact (List.getElem?_eq_some_iff.mp h1).1
    have hg := gos_get fs ws 0 i _ h1
    rw [Nat.zero_add] at hg
    have ht := due_take z _ 0 i _ hg
    rw [Nat.zero_add] at ht
    have hlen : decide ((due z 0 ((gos fs 0 ws).take i)).length < lim) = true := by
      refine decide_eq_true (Nat.lt_of_le_of_lt (due_len z _ _) ?_)
      rw [List.length_take]
      exact Nat.lt_of_le_of_lt (Nat.min_le_left _ _) (Nat.lt_of_lt_of_le (p64 g.h6 hi) (by decide))
    refine ⟨_, _, rfl, ?_, ⟨.v (.int (i : Nat)), .v w, rfl⟩⟩
    show exl _ _ [Slot.v (tb m ws), Slot.v (prD fs), Slot.v z.D, Slot.own _, Slot.v (.int (i : Nat)), Slot.v w] = _
    rw [ht]
    rcases okw_cases (g.ok _ (List.mem_of_getElem? h1)) with rfl | ⟨w, rfl, _⟩
    · simp only [exl_ife, ev_and, ev_cmp', ev_v, look_s, look_z, ev_c, cd_non, bind_ret, cK_isnot, isN_non, Bool.not_true, asB_bl, Bool.false_eq_true, if_false, exl_nil, go, List.append_nil]
    · have e6 := run17 (j + 1) g p hi h1
      have el := run12 (j + 5) m i g.h6 hi
      have f0 := fld0 (j + 6) [.v (tb m ws), .v (prD fs), .v z.D, .own (due z 0 ((gos fs 0 ws).take i)), .v (.int (i : Nat)), .v (.int w)] m ws (.v 0) rfl
      have ec := cmp_F (gain fs i w) z
      have ect : cmpK (P.K (j + 6)) .Eq (gain fs i w).D z.D = .ret (.bl (eqF (gain fs i w) z)) := ec
      simp only [exl_ife, ev_and, ev_and1, ev_cmp', ev_v, look_s, look_z, ev_c, cd_non, bind_ret, cK_isnot, isN_int, Bool.not_false, asB_bl, if_true, ev_call, evs_cons, evs_nil, call_K, e6, ect, go]
      cases eqF (gain fs i w) z
      · simp only [Bool.false_eq_true, if_false, exl_nil, bind_ret, List.append_nil]
      · simp only [if_true, exl_app, look_s, look_z, ev_call, evs_cons, evs_nil, f0, ev_v, bind_ret, call_K, el, hlen, need_true, exl_nil, List.set_cons_succ, List.set_cons_zero])
  rw [e]
  have hn : (enumD 0 ws).length = (gos fs 0 ws).length := by rw [enum_len, gos_len]
  rw [hn, List.take_length]
  simp only [exl_ret, ev_bi, evs_cons, evs_nil, ev_b, look_s, look_z, bind_ret, bi_tup, fin_ret]
end
end Lw
end

section
set_option Elab.async false
set_option linter.all false
set_option maxRecDepth 100000
set_option maxHeartbeats 4000000
namespace Lw
open PySem Dp
theorem dr {β : Type} {j n : Nat} {i : Int} {f : D → T β} {Q : β → Prop} (hi : i = (n : Nat)) (h0 : 0 < n) (h1 : n < 1000000000) (h : ∀ r : Nat, r < n → Okb (f (.int (r : Nat))) Q) : Okb ((P.run (j + 7) 24 [.st, .int i]).bind f) Q := by
  subst hi
  rw [run24, bind_draw]
  exact okb_draw h0 h1 fun r hr => h r hr
theorem pk_ok {j : Nat} {l : List D} (h1 : 0 < l.length) (h2 : l.length < 1000000000) : Okb (P.run (j + 8) 25 [.st, .lst l]) (fun d => d ∈ l) := ⟨pick_ok h1 h2⟩
theorem red_mk {u l : Int} (h1 : u.natAbs < 2 ^ 17) (h2 : 0 < l) (h3 : l.natAbs < 2 ^ 17) : Red (Fq.mk' u l) := by
  refine ⟨Fq.mk_bd h1 h2 h3, ?_⟩
  exact Int.gcd_ediv_gcd_ediv_gcd (by exact gcd_pos h2)
def frP (d : D) : Prop := ∃ f : Fq, d = f.D ∧ Red f
theorem red_int {i : Int} (h : i.natAbs ≤ 1000) : Red ⟨i, 1⟩ := ⟨⟨by show i.natAbs < 131072; omega, by show (0 : Int) < 1; decide, by show 1 < 131072; decide⟩, by simp⟩
/-! ### wrong values -/
def noPrB (i m : Nat) (d : D) : Bool := match P.run (i + 3) 15 [.int (m : Nat), d] with | .ret (.bl b) => !b | _ => false
def noPr (i m : Nat) (d : D) : Prop := P.run (i + 3) 15 [.int (m : Nat), d] = .ret (.bl false)
theorem noPr_of {i m : Nat} {d : D} (e : noPrB i m d = true) : noPr i m d := by
  unfold noPrB at e
  split at e
  · rename_i b hb
    cases b with
    | false => exact hb
    | true => cases e
  · cases e
section
variable {m : Nat} {ws : List D} {fs : List Fq}
theorem run16x (j : Nat) {d : D} (h : noPr j m d) : P.run (j + 4) 16 [tb m ws, d] = .exc 4 [] := by
  rw [run_go (P := P) (np := 2) (ns := 2) (b := b16) rfl rfl]
  show T.bind (exl _ b16 [.v (tb m ws), .v d]) fin = _
  unfold b16
  have h : P.run (j + 3) 15 [.int (m : Nat), d] = .ret (.bl false) := h
  have e := fld0 (j + 3) [Slot.v (tb m ws), Slot.v d] m ws (.v 0) rfl
  simp [-ev_fld, e, h, call_K]
  try rfl
theorem run18x (j : Nat) (d e : D) (h : pk d = true) : P.run (j + 2) 18 [d, e] = .exc 5 [] := by
  rw [run_go (P := P) (np := 2) (ns := 7) (b := b18) rfl rfl]
  show T.bind (exl _ b18 [.v d, .v e, .no, .no, .no, .no, .no]) fin = _
  unfold b18
  rw [exl_ex, ev_call1 (x := d) rfl, call_K, run14x j d h]; rfl
theorem run18p (j : Nat) {d : D} (h : noPr j m d) : P.run (j + 5) 18 [tb m ws, d] = .exc 4 [] := by
  rw [run_go (P := P) (np := 2) (ns := 7) (b := b18) rfl rfl]
  show T.bind (exl _ b18 [.v (tb m ws), .v d, .no, .no, .no, .no, .no]) fin = _
  unfold b18
  rw [exl_ex, ev_call1 (x := tb m ws) rfl, call_K, run14 (j + 3) m ws, bind_ret, exl_ex, ev_call2 (x := tb m ws) (y := d) rfl rfl, call_K, run16x j h]; rfl
theorem run19x (j : Nat) (d e : D) (h : pk d = true) : P.run (j + 3) 19 [d, e] = .exc 5 [] := by
  rw [run_go (P := P) (np := 2) (ns := 6) (b := b19) rfl rfl]
  show T.bind (exl _ b19 [.v d, .v e, .no, .no, .no, .no]) fin = _
  unfold b19
  rw [exl_par, evs_cons, ev_call2 (x := d) (y := e) rfl rfl, call_K, run18x j d e h]; rfl
theorem run19p (j : Nat) {d : D} (h : noPr j m d) : P.run (j + 6) 19 [tb m ws, d] = .exc 4 [] := by
  rw [run_go (P := P) (np := 2) (ns := 6) (b := b19) rfl rfl]
  show T.bind (exl _ b19 [.v (tb m ws), .v d, .no, .no, .no, .no]) fin = _
  unfold b19
  rw [exl_par, evs_cons, ev_call2 (x := tb m ws) (y := d) rfl rfl, call_K, run18p j h]; rfl
end
end Lw
end

section
set_option Elab.async false
set_option linter.all false
set_option maxRecDepth 100000
set_option maxHeartbeats 4000000
namespace Lw
open PySem Dp
/-- whole prices as data -/
abbrev psD (ps : List Int) : D := .tup (ps.map D.int)
theorem intsD_map : ∀ l : List Int, intsD (l.map D.int) = some l
  | [] => rfl
  | a :: l => by show (intsD (l.map D.int)).map (a :: ·) = _; rw [intsD_map l]; rfl
theorem bi_sumI (l : List Int) : biD .sum [.lst (l.map D.int)] = .ret (.int l.sum) := by
  show (match intsD (l.map D.int) with | some ns => T.ret (D.int ns.sum) | none => T.bad) = _
  rw [intsD_map]
def dearL (ps : List Int) (k : Nat) : List Int := (lotT k).map fun t => ps.getD t 0
def dear (ps : List Int) (k : Nat) : Int := (dearL ps k).sum
theorem lc_ints {m : Nat} {ps : List Int} (hl : ps.length = m) (h6 : m ≤ 6) {K : Dp.C} {k : Nat} (hk : k < 2 ^ m) {own : List (Str × Nat)} {sr : Src} {δ : Dp.Env} (a i : Nat) (hs : evsrc K sr δ = .ret (lotL k))
    (hp : ∀ d, look ((wipeE δ (own.map (·.2))).set i (.v d)) a = .v (psD ps)) (hi : ∀ d, look ((wipeE δ (own.map (·.2))).set i (.v d)) i = .v d) : ev K (.lc own (.n i) sr .no (.ix (.v a) (.v i))) δ = .ret (.lst ((dearL ps k).map D.int)) := by
  rw [lc_pure (l := lotL k) (fun _ => true) (fun d => match d with | .int t => .int (ps.getD t.toNat 0) | _ => .non) hs (Nat.le_trans (lotL_eq (p64 h6 hk)).2.1 (by decide)) fun d hd => ?_, filt_true]
  · rw [lotT_eq (p64 h6 hk), dearL, List.map_map, List.map_map]; rfl
  · obtain ⟨t, ht, rfl⟩ := lot_th h6 hk hd
    refine ⟨_, rfl, rfl, fun _ => ?_⟩
    have hl : t < ps.length := by rw [hl]; exact ht
    have : ixD (psD ps) (.int (t : Nat)) = .ret (.int (ps.getD t 0)) := by
      refine ix_tup ?_
      rw [List.getElem?_map, List.getElem?_eq_getElem hl, List.getD_eq_getElem?_getD, List.getElem?_eq_getElem hl]; rfl
    simp only [ev_ix, ev_v, hp, hi, bind_ret, this]
    rfl
theorem sum_le {b : Nat} : ∀ {l : List Int}, (∀ x ∈ l, x.natAbs ≤ b) → l.sum.natAbs ≤ l.length * b
  | [], _ => by simp
  | a :: l, h => by
    have h1 := h a List.mem_cons_self
    have h2 := sum_le (l := l) fun x hx => h x (List.mem_cons_of_mem _ hx)
    rw [List.sum_cons, List.length_cons, Nat.add_mul, Nat.one_mul]
    omega
theorem dear_le {b k : Nat} {ps : List Int} (hk : k < 64) (h : ∀ x ∈ ps, x.natAbs ≤ b) : (dear ps k).natAbs ≤ 6 * b := by
  refine Nat.le_trans (sum_le (b := b) fun x hx => ?_) (Nat.mul_le_mul_right _ ?_)
  · obtain ⟨t, _, rfl⟩ := List.mem_map.mp hx
    rw [List.getD_eq_getElem?_getD]
    by_cases q : t < ps.length
    · rw [List.getElem?_eq_getElem q]; exact h _ (List.getElem_mem q)
    · rw [List.getElem?_eq_none (by omega)]; simp
  · have := (lotL_eq hk).2.1
    unfold dearL lotT
    simpa using this
theorem run30e (j : Nat) {m k : Nat} {ps : List Int} (hl : ps.length = m) (h6 : m ≤ 6) (hk : k < 2 ^ m) : P.run (j + 1) 30 [psD ps, lotN k] = .ret (.int (dear ps k)) := by
  obtain ⟨q1, q2, q3⟩ := lotL_eq (p64 h6 hk)
  rw [run_go (P := P) (np := 2) (ns := 3) (b := b30) rfl rfl, q1]
  show T.bind (exl _ b30 [.v (psD ps), .v (.tup (lotL k)), .no]) fin = _
  unfold b30
  have e := lc_ints (K := P.K j) hl h6 hk (own := [(("thing" : Str), 2)]) (sr := .e (.v 1)) (δ := [.v (psD ps), .v (.tup (lotL k)), .no]) 0 2 rfl (fun _ => rfl) (fun _ => rfl)
  rw [exl_ret, ev_bi1 e, bi_sumI, bind_ret]
  rfl
structure Ps (m : Nat) (ps : List Int) : Prop where
  len : ps.length = m
  le : ∀ p ∈ ps, p.natAbs ≤ 1000000
theorem run20 (j : Nat) {m : Nat} {ps : List Int} (p : Ps m ps) (h6 : m ≤ 6) : P.run (j + 3) 20 [.int (m : Nat), psD ps] = .ret (.bl true) := by
  rw [run_go (P := P) (np := 2) (ns := 3) (b := b20) rfl rfl]
  show T.bind (exl _ b20 [.v (.int (m : Nat)), .v (psD ps), .no]) fin = _
  unfold b20
  have e1 : ev (P.K (j + 2)) (E.lc [(("price" : Str), 2)] (Tg.n 2) (Src.e (E.v 1)) EO.no (E.call 1 (EL.cons (E.v 2) (EL.cons (E.neg (E.g 2)) (EL.cons (E.g 2) EL.nil))))) [.v (.int (m : Nat)), .v (psD ps), .no] = .ret (.lst ((ps.map D.int).map fun _ => D.bl true)) := by
    rw [lc_pure (l := ps.map D.int) (fun _ => true) (fun _ => D.bl true) rfl (by rw [List.length_map, p.len]; exact Nat.le_trans h6 (by decide)) fun d hd => ?_, filt_true]
    obtain ⟨f, hf, rfl⟩ := List.mem_map.mp hd
    refine ⟨_, rfl, rfl, fun _ => ?_⟩
    show ev _ _ [_, _, Slot.v (.int f)] = _
    have hb := p.le f hf
    have hn : isNum (-1000000) 1000000 (.int f) = true := by
      have : -1000000 ≤ f ∧ f ≤ 1000000 := by omega
      simp [isNum]; omega
    have r := run1 j (.int f) (-1000000) 1000000 rfl
    rw [hn] at r
    simp [con2, call_K, r]
  have e2 := bi_all_map (ps.map D.int) (fun _ => true)
  have hall : ((ps.map D.int).all fun _ => true) = true := by simp
  rw [hall] at e2
  have il : biD .len [psD ps] = .ret (.int (m : Nat)) := by
    show T.ret (D.int ((ps.map D.int).length : Nat)) = _
    rw [List.length_map, p.len]
  have it : isiD (P.K (j + 2)).G (psD ps) .tuple = .ret (.bl true) := rfl
  simp only [exl_ife, ev_or, ev_or1, ev_not, ev_isi, ev_v, look_s, look_z, bind_ret, it, asB_bl, Bool.not_true, Bool.false_eq_true, if_false, ev_cmp', ev_bi, evs_cons, evs_nil, il, cK_int, cD_neI, decide_true, exl_nil, exl_ret, e1, e2]
  rfl
/-- a worth less its prices -/
def pw (ps : List Int) (k : Nat) : D → D
  | .int w => .int (w - dear ps k)
  | d => d
def pricedL (ps : List Int) : Nat → List D → List D
  | _, [] => []
  | k, d :: l => pw ps k d :: pricedL ps (k + 1) l
theorem pricedL_len (ps : List Int) : ∀ (l : List D) (k : Nat), (pricedL ps k l).length = l.length
  | [], _ => rfl
  | _ :: l, k => congrArg Nat.succ (pricedL_len ps l (k + 1))
theorem pricedL_get (ps : List Int) : ∀ (l : List D) (k i : Nat), (pricedL ps k l)[i]? = (l[i]?).map (pw ps (k + i))
  | [], _, _ => by simp [pricedL]
  | e :: l, k, 0 => by simp [pricedL]
  | e :: l, k, i + 1 => by
    have := pricedL_get ps l (k + 1) i
    rw [show k + (i + 1) = k + 1 + i by omega]
    simpa [pricedL] using this
theorem pricedL_app (ps : List Int) : ∀ (l r : List D) (k : Nat), pricedL ps k (l ++ r) = pricedL ps k l ++ pricedL ps (k + l.length) r
  | [], r, k => rfl
  | e :: l, r, k => by
    have := pricedL_app ps l r (k + 1)
    rw [List.cons_append, pricedL, this, pricedL, List.length_cons, List.cons_append, show k + (l.length + 1) = k + 1 + l.length by omega]
theorem pricedL_take (ps : List Int) (l : List D) {i : Nat} {d : D} (h : l[i]? = some d) : pricedL ps 0 (l.take (i + 1)) = pricedL ps 0 (l.take i) ++ [pw ps i d] := by
  obtain ⟨hl, rfl⟩ := List.getElem?_eq_some_iff.mp h
  rw [List.take_succ_eq_append_getElem hl, pricedL_app, List.length_take, Nat.zero_add, Nat.min_eq_left (Nat.le_of_lt hl)]
  rfl
def PI' (a b : Dp.Slot) (ps : List Int) (ws : List D) (i : Nat) (δ : Dp.Env) : Prop := ∃ s t u, δ = [a, b, .own (pricedL ps 0 (ws.take i)), s, t, u, .no]
theorem run21 (j : Nat) {m : Nat} {ws : List D} {ps : List Int} (g : Good m ws) (p : Ps m ps) : P.run (j + 7) 21 [tb m ws, psD ps] = mkT (.int (m : Nat)) (.tup (pricedL ps 0 ws)) := by
  rw [run_go (P := P) (np := 2) (ns := 7) (b := b21) rfl rfl]
  show T.bind (exl _ b21 [.v (tb m ws), .v (psD ps), .no, .no, .no, .no, .no]) fin = _
  unfold b21
  have n1 := run14 (j + 5) m ws
  have n2 := run20 (j + 3) p g.h6
  have f0 := fld0 (j + 6) [.v (tb m ws), .v (psD ps), .no, .no, .no, .no, .no] m ws (.v 0) rfl
  rw [exl_ex, ev_call1 (x := tb m ws) rfl, call_K, n1, bind_ret, exl_ife, ev_not, ev_call2 (x := .int (m : Nat)) (y := psD ps) f0 rfl, call_K, n2]
  simp only [bind_ret, asB_bl, Bool.not_true, Bool.false_eq_true, if_false, exl_nil]
  rw [exl_seto, ev_lst]
  simp only [evs_nil, bind_ret, List.set_cons_succ, List.set_cons_zero]
  have f1 := fld1 (j + 6) [.v (tb m ws), .v (psD ps), .own [], .no, .no, .no, .no] m ws (.v 0) rfl
  have hs : evsrc (P.K (j + 6)) (.enum (.fld (.v 0) ("worths" : Str))) [.v (tb m ws), .v (psD ps), .own [], .no, .no, .no, .no] = .ret (enumD 0 ws) := by rw [src_en, f1]; rfl
  obtain ⟨δ3, ⟨s, t, u, rfl⟩, e⟩ := exl_for_eq (K := P.K (j + 6)) (t := .t [.n 3, .n 4]) (sr := .enum (.fld (.v 0) ("worths" : Str)))
    (b := (.cons (.set 5 false (.bi .sum (.cons (.lc [(("thing" : Str), 6)] (.n 6) (.e (.call 12 (.cons (.fld (.v 0) ("many" : Str)) (.cons (.v 3) .nil)))) .no (.ix (.v 1) (.v 6))) .nil))) (.cons (.app 2 (.ite (.cmp .Is (.v 4) (.c .non)) (.c .non) (.op .Sub (.v 4) (.v 5)))) .nil)))
    (l := (.cons (.ret (.call 41 (.cons (.fld (.v 0) ("many" : Str)) (.cons (.bi .tuple (.cons (.b 2) .nil)) .nil)))) .nil)) (PI' (.v (tb m ws)) (.v (psD ps)) ps ws) hs (by rw [enum_len, g.len]; exact lim64 g.h6) ⟨_, _, _, rfl⟩ (fun i d hd δ hi => by
    obtain ⟨s, t, u, rfl⟩ := hi
    obtain ⟨w, h1, h2⟩ := enum_get hd
    have h2 : d = .tup [.int (i : Nat), w] := by rw [h2]; simp
    subst h2
    have hi : i < 2 ^ m := by rw [← g.len]; exact (List.getElem?_eq_some_iff.mp h1).1
    have ht := pricedL_take ps ws h1
    have hlen : decide ((pricedL ps 0 (ws.take i)).length < lim) = true := by
      refine decide_eq_true ?_
      rw [pricedL_len, List.length_take]
      exact Nat.lt_of_le_of_lt (Nat.min_le_left _ _) (Nat.lt_of_lt_of_le (p64 g.h6 hi) (by decide))
    refine ⟨_, _, rfl, ?_, ⟨.v (.int (i : Nat)), .v w, .v (.int (dear ps i)), rfl⟩⟩
    show exl _ _ [Slot.v (tb m ws), Slot.v (psD ps), Slot.own _, Slot.v (.int (i : Nat)), Slot.v w, u, Slot.no] = _
    rw [ht]
    have el := run12 (j + 5) m i g.h6 hi
    obtain ⟨q1, q2, q3⟩ := lotL_eq (p64 g.h6 hi)
    rw [q1] at el
    have f0 := fld0 (j + 6) [.v (tb m ws), .v (psD ps), .own (pricedL ps 0 (ws.take i)), .v (.int (i : Nat)), .v w, u, .no] m ws (.v 0) rfl
    have hsr : evsrc (P.K (j + 6)) (.e (.call 12 (.cons (.fld (.v 0) ("many" : Str)) (.cons (.v 3) .nil)))) [.v (tb m ws), .v (psD ps), .own (pricedL ps 0 (ws.take i)), .v (.int (i : Nat)), .v w, u, .no] = .ret (lotL i) := by
      rw [src_e, ev_call2 (x := .int (m : Nat)) (y := .int (i : Nat)) f0 rfl, call_K, el]; rfl
    have elc := lc_ints (K := P.K (j + 6)) p.len g.h6 hi (own := [(("thing" : Str), 6)]) 1 6 hsr (fun _ => rfl) (fun _ => rfl)
    rw [exl_set, ev_bi1 elc, bi_sumI, bind_ret]
    simp only [List.set_cons_succ, List.set_cons_zero]
    rw [exl_app]
    simp only [look_s, look_z]
    show (T.bind (ev _ _ [Slot.v (tb m ws), Slot.v (psD ps), Slot.own _, Slot.v (.int (i : Nat)), Slot.v w, Slot.v (.int (dear ps i)), Slot.no]) _) = _
    rcases okw_cases (g.ok _ (List.mem_of_getElem? h1)) with rfl | ⟨w, rfl, _⟩
    · simp only [ev_ite, ev_cmp', ev_v, look_s, look_z, ev_c, cd_non, bind_ret, cK_is, isN_non, asB_bl, if_true, hlen, need_true, exl_nil, List.set_cons_succ, List.set_cons_zero]
      rfl
    · simp only [ev_ite, ev_cmp', ev_v, look_s, look_z, ev_c, cd_non, bind_ret, cK_is, isN_int, asB_bl, Bool.false_eq_true, if_false, ev_op, op_subI, hlen, need_true, exl_nil, List.set_cons_succ, List.set_cons_zero]
      rfl)
  rw [e]
  have hn : (enumD 0 ws).length = ws.length := enum_len ..
  rw [hn, List.take_length]
  have f0 := fld0 (j + 6) [.v (tb m ws), .v (psD ps), .own (pricedL ps 0 ws), s, t, u, .no] m ws (.v 0) rfl
  have et : ev (P.K (j + 6)) (.bi .tuple (.cons (.b 2) .nil)) [.v (tb m ws), .v (psD ps), .own (pricedL ps 0 ws), s, t, u, .no] = .ret (.tup (pricedL ps 0 ws)) := by
    rw [ev_bi1 (d := .lst (pricedL ps 0 ws)) rfl, bi_tup]
  rw [exl_ret, ev_call2 f0 et, call_K, run41 j _ _ rfl rfl fun l e d hd => ?_]
  · unfold mkT
    split
    · dsimp only
      split <;> rfl
    · rfl
  · cases e
    obtain ⟨i, hi⟩ := List.getElem?_of_mem hd
    rw [pricedL_get] at hi
    cases q : ws[i]? with
    | none => rw [q] at hi; cases hi
    | some w =>
      rw [q] at hi
      cases hi
      rcases okw_cases (g.ok _ (List.mem_of_getElem? q)) with rfl | ⟨w, rfl, _⟩ <;> rfl
end Lw
end

section
set_option Elab.async false
set_option linter.all false
set_option maxRecDepth 100000
set_option maxHeartbeats 4000000
namespace Lw
open PySem Dp
theorem shaped_T (m : Nat) (ws : List D) : SeqAt.shaped (.tuple [.int (m : Nat), .tuple (ws.map pyW)]) = true := by
  obtain ⟨a, b⟩ := lay_W ws
  unfold SeqAt.shaped
  simp [PyData.canLay, PyData.canLay0, PyData.canLayAll0, PyData.depth, PyData.depthAll, a, b]
theorem py_T {m : Nat} {ws : List D} (g : Good m ws) : (D.tup [.int (m : Nat), .tup ws]).py = some (.tuple [.int (m : Nat), .tuple (ws.map pyW)]) := by simp [D.py, pys_W g.ok, D.pys]
theorem eq_tabs {m n : Nat} {ws vs : List D} (g : Good m ws) (h : Good n vs) : ∃ b : Bool, cmpD .Eq (.tup [.int (m : Nat), .tup ws]) (.tup [.int (n : Nat), .tup vs]) = .ret (.bl b) ∧ (b = true ↔ m = n ∧ ws = vs) := by
  refine ⟨PyData.eqv (.tuple [.int (m : Nat), .tuple (ws.map pyW)]) (.tuple [.int (n : Nat), .tuple (vs.map pyW)]), ?_, ?_⟩
  · show eqD _ _ _ = _
    unfold eqD
    rw [py_T g, py_T h]
    show T.need (SeqAt.shaped _ && SeqAt.shaped _) _ = _
    rw [shaped_T, shaped_T]; rfl
  · simp [PyData.eqv, PyData.eqvAll, eqv_W g.ok h.ok]
    try omega
end Lw
end

section
set_option Elab.async false
set_option linter.all false
set_option maxRecDepth 100000
set_option maxHeartbeats 4000000
namespace Lw
open PySem Dp
theorem run42 (j : Nat) {m n : Nat} {ws vs : List D} (g : Good m ws) (h : Good n vs) : ∃ b : Bool, P.run (j + 2) 42 [tb m ws, tb n vs] = .ret (.bl b) ∧ (b = true ↔ m = n ∧ ws = vs) := by
  obtain ⟨b, e, hb⟩ := eq_tabs g h
  refine ⟨b, ?_, hb⟩
  rw [run_go (P := P) (np := 2) (ns := 2) (b := b42) rfl rfl]
  generalize hq : b42 = bb
  show T.bind (exl _ bb [.v (tb m ws), .v (tb n vs)]) fin = _
  subst hq
  unfold b42
  have i7 : ev (P.K (j + 1)) (.isi (.v 1) (.cls 7)) [.v (tb m ws), .v (tb n vs)] = .ret (.bl true) := by kernel_rfl
  have v1 : ev (P.K (j + 1)) (.tup (.cons (.fld (.v 0) ("many" : Str)) (.cons (.fld (.v 0) ("worths" : Str)) .nil))) [.v (tb m ws), .v (tb n vs)] = .ret (.tup [.int (m : Nat), .tup ws]) := by kernel_rfl
  have v2 : ev (P.K (j + 1)) (.tup (.cons (.fld (.v 1) ("many" : Str)) (.cons (.fld (.v 1) ("worths" : Str)) .nil))) [.v (tb m ws), .v (tb n vs)] = .ret (.tup [.int (n : Nat), .tup vs]) := by kernel_rfl
  rw [exl_ret, ev_and, i7, bind_ret, asB_bl, bind_ret, if_pos rfl, ev_and1, ev_cmp', v1, bind_ret, v2, bind_ret, cK_tup, e, bind_ret, asB_bl, bind_ret, bind_ret]
  kernel_rfl
end Lw
end

section
set_option Elab.async false
set_option linter.all false
set_option maxRecDepth 100000
set_option maxHeartbeats 4000000
namespace Lw
open PySem Dp
theorem own_of {j m : Nat} {ws : List D} {y : D} {b neg : Bool} (hy : eqArg (P.K j).G y = true) (h : P.run j 42 [tb m ws, y] = .ret (.bl b)) : ownEq (P.K j) neg 7 [.int (m : Nat), .tup ws] y = .ret (.bl (if neg = true then !b else b)) := by
  have e : ownEq (P.K j) neg 7 [.int (m : Nat), .tup ws] y = .need (decide (7 < (P.K j).G.n) && eqArg (P.K j).G y) ((T.nox (P.run j 42 [tb m ws, y])).bind fun r => match r with | .bl b => .ret (.bl (if neg = true then !b else b)) | _ => .bad) := by kernel_rfl
  have e7 : decide (7 < (P.K j).G.n) = true := by kernel_rfl
  rw [e, e7, hy, h]; rfl
theorem cmp_tabs (j : Nat) {m n : Nat} {ws vs : List D} (g : Good m ws) (h : Good n vs) : ∃ b : Bool, cmpK (P.K (j + 2)) .Eq (tb m ws) (tb n vs) = .ret (.bl b) ∧ cmpK (P.K (j + 2)) .NotEq (tb m ws) (tb n vs) = .ret (.bl (!b)) ∧ (b = true ↔ m = n ∧ ws = vs) := by
  obtain ⟨b, e, hb⟩ := run42 j g h
  have hy : eqArg (P.K (j + 2)).G (tb n vs) = true := by kernel_rfl
  exact ⟨b, own_of (neg := false) hy e, own_of (neg := true) hy e, hb⟩
end Lw
end

section
set_option Elab.async false
set_option linter.all false
set_option maxRecDepth 100000
set_option maxHeartbeats 4000000
namespace Lw
open PySem Dp
def wh (i : Int) : Fq := ⟨i, 1⟩
theorem mk_wh (i : Int) : Fq.mk' i 1 = wh i := by
  unfold Fq.mk' wh
  have : Int.gcd i 1 = 1 := by simp
  rw [this]; simp
theorem plus_wh (a b : Int) : Fq.plus (wh a) (wh b) = wh (a + b) := by
  show Fq.mk' (a * 1 + b * 1) (1 * 1) = _
  rw [Int.mul_one, Int.mul_one, Int.one_mul, mk_wh]
theorem minus_wh (a b : Int) : Fq.minus (wh a) (wh b) = wh (a - b) := by
  show Fq.mk' (a * 1 - b * 1) (1 * 1) = _
  rw [Int.mul_one, Int.mul_one, Int.one_mul, mk_wh]
theorem fold_wh : ∀ (l : List Int) (a : Int), (l.map wh).foldl Fq.plus (wh a) = wh (a + l.sum)
  | [], a => by simp
  | b :: l, a => by
    rw [List.map_cons, List.foldl_cons, plus_wh, fold_wh l, List.sum_cons, Int.add_assoc]
theorem sum_wh (l : List Int) : Fq.sum (l.map wh) = wh l.sum := by
  have := fold_wh l 0
  rw [Int.zero_add] at this
  exact this
theorem gF_wh (ps : List Int) (k : Nat) : gF (ps.map wh) k = (dearL ps k).map wh := by
  unfold gF dearL
  rw [List.map_map]
  refine List.map_congr_left fun t _ => ?_
  rw [List.getD_eq_getElem?_getD, List.getElem?_map, Function.comp, List.getD_eq_getElem?_getD]
  cases ps[t]? <;> rfl
theorem gain_wh (ps : List Int) (k : Nat) (w : Int) : gain (ps.map wh) k w = wh (w - dear ps k) := by
  unfold gain
  rw [gF_wh, sum_wh]
  exact minus_wh w _
theorem dear_zero (m k : Nat) : dear (List.replicate m 0) k = 0 := by
  unfold dear dearL
  have : (lotT k).map (fun t => (List.replicate m (0 : Int)).getD t 0) = (lotT k).map fun _ => 0 := by
    refine List.map_congr_left fun t _ => ?_
    rw [List.getD_eq_getElem?_getD, List.getElem?_replicate]
    split <;> rfl
  rw [this]
  induction lotT k with
  | nil => rfl
  | cons a l ih => rw [List.map_cons, List.sum_cons, ih]; rfl
theorem gos_priced (m : Nat) (ps : List Int) : ∀ (l : List D) (k : Nat), gos ((List.replicate m 0).map wh) k (pricedL ps k l) = gos (ps.map wh) k l
  | [], _ => rfl
  | d :: l, k => by
    have ih := gos_priced m ps l (k + 1)
    show go _ k (pw ps k d) :: gos _ (k + 1) (pricedL ps (k + 1) l) = go _ k d :: _
    rw [ih]
    congr 1
    cases d <;> first | rfl | skip
    rename_i w
    show some (gain _ k (w - dear ps k)) = some (gain _ k w)
    rw [gain_wh, gain_wh, dear_zero, Int.sub_zero]
theorem pr_wh {m : Nat} {ps : List Int} (hl : ps.length = m) (h : ∀ p ∈ ps, p.natAbs ≤ 100000) : Pr m (ps.map wh) := by
  refine ⟨by rw [List.length_map, hl], fun f hf => ?_⟩
  obtain ⟨p, hp, rfl⟩ := List.mem_map.mp hf
  have := h p hp
  exact ⟨⟨by show p.natAbs < 131072; omega, by show (0 : Int) < 1; decide, by show 1 < 131072; decide⟩, by show Int.gcd p 1 = 1; simp⟩
theorem prD_wh (ps : List Int) : prD (ps.map wh) = .tup (ps.map fun p => .tup [.int p, .int 1]) := by
  show D.tup ((ps.map wh).map Fq.D) = _
  rw [List.map_map]; rfl
/-- the best lots of the priced table at no prices are those at these prices -/
theorem best_same (j : Nat) {m : Nat} {ws : List D} {ps : List Int} (g : Good m ws) (g2 : Good m (pricedL ps 0 ws)) (hl : ps.length = m) (h : ∀ p ∈ ps, p.natAbs ≤ 100000) :
    P.run (j + 7) 19 [tb m (pricedL ps 0 ws), prD ((List.replicate m 0).map wh)] = P.run (j + 7) 19 [tb m ws, prD (ps.map wh)] := by
  rw [run19 j g2 (pr_wh (by simp) (by intro p hp; rw [List.eq_of_mem_replicate hp]; decide)), run19 j g (pr_wh hl h), gos_priced]
/-- a table of small worths, priced -/
theorem good_priced {m : Nat} {ws : List D} {ps : List Int} (g : Good m ws) (hs : ∀ d ∈ ws, smW d) (h : ∀ p ∈ ps, p.natAbs ≤ 100000) : Good m (pricedL ps 0 ws) := by
  refine ⟨g.h1, g.h6, by rw [pricedL_len, g.len], fun d hd => ?_, ?_⟩
  · obtain ⟨i, hi⟩ := List.getElem?_of_mem hd
    rw [pricedL_get] at hi
    cases q : ws[i]? with
    | none => rw [q] at hi; cases hi
    | some w =>
      rw [q] at hi
      cases hi
      have hi : i < 2 ^ m := by rw [← g.len]; exact (List.getElem?_eq_some_iff.mp q).1
      rcases hs _ (List.mem_of_getElem? q) with rfl | ⟨w, rfl, h1, h2⟩
      · rfl
      · have hd := dear_le (p64 g.h6 hi) h
        rw [Nat.zero_add]
        have a : -1000000 ≤ w - dear ps i ∧ w - dear ps i ≤ 1000000 := by omega
        show okw (.int (w - dear ps i)) = true
        generalize w - dear ps i = z at a
        simp [okw, D.isN, isNum]; omega
  · obtain ⟨d, hd, hn⟩ := g.some
    obtain ⟨i, hi⟩ := List.getElem?_of_mem hd
    refine ⟨pw ps i d, List.mem_of_getElem? (i := i) (by rw [pricedL_get, hi, Nat.zero_add]; rfl), ?_⟩
    cases d <;> first | exact hn | rfl
/-- prices and their opposites lead back -/
theorem dear_neg (ps : List Int) (k : Nat) : dear (ps.map fun p => -p) k = -dear ps k := by
  unfold dear dearL
  induction lotT k with
  | nil => rfl
  | cons t l ih =>
    rw [List.map_cons, List.sum_cons, ih, List.map_cons, List.sum_cons, List.getD_eq_getElem?_getD, List.getD_eq_getElem?_getD, List.getElem?_map]
    cases ps[t]? <;> simp <;> omega
theorem priced_back (ps : List Int) : ∀ (l : List D) (k : Nat), pricedL (ps.map fun p => -p) k (pricedL ps k l) = l
  | [], _ => rfl
  | d :: l, k => by
    show pw _ k (pw ps k d) :: pricedL _ (k + 1) (pricedL ps (k + 1) l) = _
    rw [priced_back ps l]
    congr 1
    cases d <;> first | rfl | skip
    rename_i w
    show D.int (w - dear ps k - dear _ k) = _
    rw [dear_neg]; congr 1; omega
end Lw
end

section
set_option Elab.async false
set_option linter.all false
set_option maxRecDepth 100000
set_option maxHeartbeats 4000000
namespace Lw
open PySem Dp
/-! ### names: permutations of few things -/
/-- the number of the lot of number k under other names -/
def pK : List Nat → Nat → Nat
  | [], _ => 0
  | s :: l, k => (k % 2) * 2 ^ s + pK l (k / 2)
/-- the place of i, by numbers -/
def ixN : List Nat → Nat → Nat
  | [], _ => 0
  | a :: l, i => if Nat.beq a i = true then 0 else ixN l i + 1
def invN (m : Nat) (σ : List Nat) : List Nat := (List.range m).map (ixN σ)
def irt (σ : List Nat) : List Int := isrt (σ.map fun (n : Nat) => (n : Int))
def sameI : List Int → Nat → Nat → Bool
  | [], _, 0 => true
  | a :: l, k, n + 1 => (match a with | .ofNat x => Nat.beq x k | _ => false) && sameI l (k + 1) n
  | _, _, _ => false
def goodP (m : Nat) (σ : List Nat) : Bool :=
  let τ := invN m σ
  (allN (2 ^ m) fun k => Nat.beq (pK τ (pK σ k)) k && Nat.blt (pK σ k) (2 ^ m)) && (sameI (irt σ) 0 m && (sameI (irt τ) 0 m && τ.all fun t => Nat.blt t m))
def allP (m : Nat) (f : List Nat → Bool) : Nat → List Nat → Bool
  | 0, acc => f acc
  | n + 1, acc => (List.range m).all fun x => acc.contains x || allP m f n (x :: acc)
theorem allP_ok {m : Nat} {f : List Nat → Bool} : ∀ (n : Nat) (pre acc : List Nat), pre.length = n → (∀ x ∈ pre, x < m) → (pre ++ acc).Nodup → allP m f n acc = true → f (pre ++ acc) = true
  | 0, pre, acc, hl, _, _, h => by
    have : pre = [] := List.eq_nil_of_length_eq_zero hl
    subst this; exact h
  | n + 1, pre, acc, hl, hx, nd, h => by
    have hne : pre ≠ [] := by intro z; subst z; cases hl
    obtain ⟨q, x, rfl⟩ : ∃ q x, pre = q ++ [x] := ⟨_, _, (List.dropLast_concat_getLast hne).symm⟩
    have hl2 : q.length = n := by simpa using hl
    have hxm := hx x (by simp)
    have e := List.all_eq_true.mp h x (List.mem_range.mpr hxm)
    have hna : acc.contains x = false := by
      cases c : acc.contains x with
      | false => rfl
      | true =>
        have := List.contains_iff_mem.mp c
        have := (List.nodup_append.mp nd).2.2 x (by simp) x this
        exact absurd rfl this
    rw [hna, Bool.false_or] at e
    have := allP_ok n q (x :: acc) hl2 (fun y hy => hx y (by simp [hy])) (by simpa using nd) e
    simpa using this
end Lw
end

section
set_option maxHeartbeats 4000000
set_option Elab.async false
set_option linter.all false
set_option maxRecDepth 100000
namespace Lw
open PySem Dp
theorem good_all : allN 6 (fun m => allP (m + 1) (goodP (m + 1)) (m + 1) []) = true := by kernel_rfl
end Lw
end

section
set_option Elab.async false
set_option linter.all false
set_option maxRecDepth 100000
set_option maxHeartbeats 4000000
namespace Lw
open PySem Dp
/-! ### plain facts of names -/
def lotB : Nat → Nat → Nat → List Nat
  | 0, _, _ => []
  | n + 1, t, k => if k % 2 = 1 then t :: lotB n (t + 1) (k / 2) else lotB n (t + 1) (k / 2)
def nums (l : List Nat) : List Int := l.map fun (n : Nat) => (n : Int)
theorem lotB_ok : allN 7 (fun m => allN (2 ^ m) fun k => decide (lotT k = lotB m 0 k)) = true := by kernel_rfl
theorem lotB_sum : ∀ (s p : List Nat) (k : Nat), ((lotB s.length p.length k).map fun t => 2 ^ ((p ++ s).getD t 0)).sum = pK s k
  | [], _, _ => rfl
  | a :: s, p, k => by
    have ih := lotB_sum s (p ++ [a]) (k / 2)
    rw [List.append_assoc, List.singleton_append, List.length_append, List.length_singleton] at ih
    have ha : (p ++ a :: s).getD p.length 0 = a := by
      rw [List.getD_eq_getElem?_getD, List.getElem?_append_right (Nat.le_refl _), Nat.sub_self]; rfl
    show ((if k % 2 = 1 then p.length :: lotB s.length (p.length + 1) (k / 2) else lotB s.length (p.length + 1) (k / 2)).map fun t => 2 ^ ((p ++ a :: s).getD t 0)).sum = (k % 2) * 2 ^ a + pK s (k / 2)
    by_cases h : k % 2 = 1
    · rw [if_pos h, List.map_cons, List.sum_cons, ih, ha, h, Nat.one_mul]
    · have h0 : k % 2 = 0 := by omega
      rw [if_neg h, ih, h0, Nat.zero_mul, Nat.zero_add]
theorem pK_sum {m k : Nat} {σ : List Nat} (hl : σ.length = m) (h6 : m ≤ 6) (hk : k < 2 ^ m) : ((lotT k).map fun t => 2 ^ (σ.getD t 0)).sum = pK σ k := by
  have e := of_decide_eq_true (allN_ok (allN_ok lotB_ok m (by omega)) k hk)
  have := lotB_sum σ [] k
  rw [e, ← hl]; exact this
theorem dearL_nums (σ : List Nat) (k : Nat) : dearL (nums σ) k = nums ((lotT k).map fun t => σ.getD t 0) := by
  unfold dearL nums
  rw [List.map_map]
  refine List.map_congr_left fun t _ => ?_
  rw [List.getD_eq_getElem?_getD, List.getElem?_map, Function.comp, List.getD_eq_getElem?_getD]
  cases σ[t]? <;> rfl
theorem sameI_ok : ∀ (l : List Int) (k n : Nat), sameI l k n = true → l = nums (List.range' k n)
  | [], _, 0, _ => rfl
  | [], _, n + 1, h => by cases h
  | a :: l, k, 0, h => by cases h
  | a :: l, k, n + 1, h => by
    unfold sameI at h
    rw [Bool.and_eq_true] at h
    have ih := sameI_ok l (k + 1) n h.2
    cases a with
    | ofNat x =>
      have := Nat.eq_of_beq_eq_true h.1
      subst this
      rw [ih]; rfl
    | negSucc x => cases h.1
theorem isrt_perm : ∀ l : List Int, (isrt l).Perm l
  | [] => .refl _
  | a :: l => (insI_perm a (isrt l)).trans ((isrt_perm l).cons a)
theorem ixI_ixN : ∀ (σ : List Nat) (i : Nat), i ∈ σ → ixI (nums σ) (i : Int) = some (ixN σ i)
  | [], _, h => by cases h
  | a :: l, i, h => by
    show (if ((a : Nat) : Int) = (i : Int) then some 0 else (ixI (nums l) i).map (· + 1)) = some (if Nat.beq a i = true then 0 else ixN l i + 1)
    by_cases e : a = i
    · subst e
      rw [if_pos rfl, if_pos (Nat.beq_refl a)]
    · rw [if_neg (by omega), if_neg (fun z => e (Nat.eq_of_beq_eq_true z))]
      rcases List.mem_cons.mp h with q | q
      · exact absurd q.symm e
      · rw [ixI_ixN l i q]; rfl
/-- names of so many things -/
structure Nm (m : Nat) (σ : List Nat) : Prop where
  h1 : 1 ≤ m
  h6 : m ≤ 6
  len : σ.length = m
  lt : ∀ x ∈ σ, x < m
  nd : σ.Nodup
theorem Nm.good {m : Nat} {σ : List Nat} (h : Nm m σ) : goodP m σ = true := by
  have e := allN_ok good_all (m - 1) (by have := h.h1; have := h.h6; omega)
  rw [show m - 1 + 1 = m by have := h.h1; omega] at e
  have := allP_ok m σ [] h.len h.lt (by simpa using h.nd) e
  simpa using this
section
variable {m : Nat} {σ : List Nat}
theorem Nm.parts (h : Nm m σ) : (∀ k, k < 2 ^ m → pK (invN m σ) (pK σ k) = k ∧ pK σ k < 2 ^ m) ∧ isrt (nums σ) = nums (List.range m) ∧ isrt (nums (invN m σ)) = nums (List.range m) ∧ ∀ t ∈ invN m σ, t < m := by
  have g := h.good
  unfold goodP at g
  rw [Bool.and_eq_true, Bool.and_eq_true, Bool.and_eq_true] at g
  obtain ⟨g1, g2, g3, g4⟩ := g
  refine ⟨fun k hk => ?_, ?_, ?_, fun t ht => ?_⟩
  · have e := allN_ok g1 k hk
    rw [Bool.and_eq_true] at e
    exact ⟨Nat.eq_of_beq_eq_true e.1, Nat.le_of_ble_eq_true e.2⟩
  · have := sameI_ok _ _ _ g2
    rw [← List.range_eq_range'] at this
    exact this
  · have := sameI_ok _ _ _ g3
    rw [← List.range_eq_range'] at this
    exact this
  · exact Nat.le_of_ble_eq_true (List.all_eq_true.mp g4 t ht)
theorem nums_nodup {l : List Nat} (h : (nums l).Nodup) : l.Nodup := by
  unfold nums at h
  rw [List.Nodup, List.pairwise_map] at h
  exact h.imp fun hab z => hab (by rw [z])
theorem range_nodup (m : Nat) : (nums (List.range m)).Nodup := by
  unfold nums
  rw [List.Nodup, List.pairwise_map]
  exact (List.nodup_range (n := m)).imp fun hab z => hab (by omega)
theorem Nm.inv (h : Nm m σ) : Nm m (invN m σ) := by
  obtain ⟨_, _, h3, h4⟩ := h.parts
  refine ⟨h.h1, h.h6, by simp [invN], h4, nums_nodup ?_⟩
  exact (isrt_perm (nums (invN m σ))).nodup_iff.mp (by rw [h3]; exact range_nodup m)
theorem Nm.mem (h : Nm m σ) {i : Nat} (hi : i < m) : i ∈ σ := by
  obtain ⟨_, h2, _⟩ := h.parts
  have p := isrt_perm (nums σ)
  rw [h2] at p
  have : ((i : Nat) : Int) ∈ nums σ := p.mem_iff.mp (List.mem_map.mpr ⟨i, List.mem_range.mpr hi, rfl⟩)
  obtain ⟨x, hx, e⟩ := List.mem_map.mp this
  have : x = i := by omega
  subst this; exact hx
/-! ### worths under other names -/
def setL (σ : List Nat) : Nat → List D → List D → List D
  | _, [], L => L
  | k, d :: l, L => setL σ (k + 1) l (L.set (pK σ k) d)
theorem setL_len (σ : List Nat) : ∀ (l : List D) (k : Nat) (L : List D), (setL σ k l L).length = L.length
  | [], _, _ => rfl
  | d :: l, k, L => by rw [setL, setL_len σ l, List.length_set]
theorem setL_app (σ : List Nat) : ∀ (l r : List D) (k : Nat) (L : List D), setL σ k (l ++ r) L = setL σ (k + l.length) r (setL σ k l L)
  | [], r, k, L => rfl
  | d :: l, r, k, L => by
    rw [List.cons_append, setL, setL_app σ l r, setL, List.length_cons, show k + (l.length + 1) = k + 1 + l.length by omega]
theorem setL_away (σ : List Nat) (p : Nat) : ∀ (l : List D) (k : Nat) (L : List D), (∀ i, i < l.length → pK σ (k + i) ≠ p) → (setL σ k l L)[p]? = L[p]?
  | [], _, _, _ => rfl
  | d :: l, k, L, h => by
    rw [setL, setL_away σ p l (k + 1) _ fun i hi => by
      have := h (i + 1) (by simp; omega)
      rwa [show k + (i + 1) = k + 1 + i by omega] at this]
    exact List.getElem?_set_ne (h 0 (by simp))
theorem setL_at (σ : List Nat) : ∀ (l : List D) (k : Nat) (L : List D), (∀ i, i < l.length → pK σ (k + i) < L.length) → (∀ a b, a < l.length → b < l.length → pK σ (k + a) = pK σ (k + b) → a = b) → ∀ i, i < l.length → (setL σ k l L)[pK σ (k + i)]? = l[i]?
  | [], _, _, _, _, i, hi => by cases hi
  | d :: l, k, L, hr, hj, 0, _ => by
    rw [setL, setL_away σ _ l (k + 1) _ fun i hi z => ?_, Nat.add_zero, List.getElem?_set_self (by have h0 := hr 0 (by simp); rwa [Nat.add_zero] at h0)]
    · rfl
    · rw [show k + 1 + i = k + (i + 1) by omega] at z
      have := hj (i + 1) 0 (by simp; omega) (by simp) z
      omega
  | d :: l, k, L, hr, hj, i + 1, hi => by
    rw [setL, show k + (i + 1) = k + 1 + i by omega]
    have := setL_at σ l (k + 1) (L.set (pK σ k) d) (fun i hi => by rw [List.length_set, show k + 1 + i = k + (i + 1) by omega]; exact hr _ (by simp; omega)) (fun a b ha hb e => by
      rw [show k + 1 + a = k + (a + 1) by omega, show k + 1 + b = k + (b + 1) by omega] at e
      have := hj (a + 1) (b + 1) (by simp; omega) (by simp; omega) e
      omega) i (by simpa using hi)
    rw [this]; rfl
def newW (σ : List Nat) (ws : List D) : List D := setL σ 0 ws (List.replicate ws.length .non)
theorem newW_len (ws : List D) : (newW σ ws).length = ws.length := by unfold newW; rw [setL_len]; simp
theorem Nm.at_ (h : Nm m σ) {ws : List D} (hl : ws.length = 2 ^ m) {k : Nat} (hk : k < 2 ^ m) : (newW σ ws)[pK σ k]? = ws[k]? := by
  obtain ⟨h1, _⟩ := h.parts
  have := setL_at σ ws 0 (List.replicate ws.length .non) (fun i hi => by rw [Nat.zero_add, List.length_replicate, hl]; exact (h1 i (by omega)).2) (fun a b ha hb e => by
    rw [Nat.zero_add, Nat.zero_add] at e
    rw [← (h1 a (by omega)).1, e, (h1 b (by omega)).1]) k (by omega)
  rwa [Nat.zero_add] at this
/-- names and their inverse lead back -/
theorem Nm.back (h : Nm m σ) {ws : List D} (hl : ws.length = 2 ^ m) : newW (invN m σ) (newW σ ws) = ws := by
  obtain ⟨h1, _⟩ := h.parts
  have hl2 : (newW σ ws).length = 2 ^ m := by rw [newW_len, hl]
  refine List.ext_getElem? fun k => ?_
  by_cases hk : k < 2 ^ m
  · have e := h.inv.at_ hl2 (h1 k hk).2
    rw [(h1 k hk).1] at e
    rw [e, h.at_ hl hk]
  · rw [List.getElem?_eq_none (by rw [newW_len, hl2]; omega), List.getElem?_eq_none (by omega)]
theorem setL_mem (σ : List Nat) (Q : D → Prop) : ∀ (l : List D) (k : Nat) (L : List D), (∀ d ∈ l, Q d) → (∀ d ∈ L, Q d) → ∀ d ∈ setL σ k l L, Q d
  | [], _, _, _, h, d, hd => h d hd
  | e :: l, k, L, h, q, d, hd => setL_mem σ Q l (k + 1) _ (fun d hd => h d (List.mem_cons_of_mem _ hd)) (fun d hd => by
    rcases List.mem_or_eq_of_mem_set hd with z | z
    · exact q d z
    · subst z; exact h _ List.mem_cons_self) d hd
theorem Nm.table (h : Nm m σ) {ws : List D} (g : Good m ws) : Good m (newW σ ws) := by
  refine ⟨g.h1, g.h6, by rw [newW_len, g.len], setL_mem σ (fun d => okw d = true) ws 0 _ g.ok fun d hd => ?_, ?_⟩
  · rw [List.eq_of_mem_replicate hd]; rfl
  · obtain ⟨d, hd, hn⟩ := g.some
    obtain ⟨i, hi⟩ := List.getElem?_of_mem hd
    have hl := (List.getElem?_eq_some_iff.mp hi).1
    have := h.at_ g.len (k := i) (by rw [← g.len]; exact hl)
    rw [hi] at this
    exact ⟨d, List.mem_of_getElem? this, hn⟩
end
end Lw
end

section
set_option Elab.async false
set_option linter.all false
set_option maxRecDepth 100000
set_option maxHeartbeats 4000000
namespace Lw
open PySem Dp
/-! ### renamed tables -/
theorem exl_sto {K : Dp.C} {δ : Dp.Env} (i : Nat) (a e : E) (l : SL) {xs xs' : List D} {d k : D} (h1 : look δ i = .own xs) (h2 : ev K e δ = .ret d) (h3 : ev K a δ = .ret k) (h4 : stoK xs d k = some xs') : exl K (.cons (.sto i a e) l) δ = exl K l (δ.set i (.own xs')) := by
  rw [exl_cons]
  show (T.bind (match look δ i with | .own l => (ev K e δ).bind fun d => (ev K a δ).bind fun k => (match stoK l d k with | some l' => T.ret (Fl.nx (δ.set i (.own l'))) | none => .bad) | _ => .bad) _) = _
  rw [h1, h2, h3]
  dsimp only
  rw [bind_ret, bind_ret, h4]
  rfl
theorem pow5 {x : Nat} (h : x < 6) : ixD (.tup [.int 1, .int 2, .int 4, .int 8, .int 16, .int 32]) (.int (x : Nat)) = .ret (.int ((2 ^ x : Nat) : Int)) := by
  match x, h with
  | 0, _ => kernel_rfl
  | 1, _ => kernel_rfl
  | 2, _ => kernel_rfl
  | 3, _ => kernel_rfl
  | 4, _ => kernel_rfl
  | 5, _ => kernel_rfl
theorem sum_cast : ∀ l : List Nat, (l.map fun (n : Nat) => (n : Int)).sum = ((l.sum : Nat) : Int)
  | [] => rfl
  | a :: l => by rw [List.map_cons, List.sum_cons, sum_cast l, List.sum_cons]; omega
theorem pow_lc {K : Dp.C} {xs : List Nat} (h : ∀ x ∈ xs, x < 6) (hl : xs.length ≤ lim) {d0 : D} (hi : itemsD d0 = some ((nums xs).map D.int)) :
    ev K (.lc [(("thing" : Str), 1)] (.n 1) (.e (.v 0)) .no (.ix (.tup (.cons (.c (.int 1)) (.cons (.c (.int 2)) (.cons (.c (.int 4)) (.cons (.c (.int 8)) (.cons (.c (.int 16)) (.cons (.c (.int 32)) .nil))))))) (.v 1))) [.v d0, .no] = .ret (.lst ((nums (xs.map fun x => 2 ^ x)).map D.int)) := by
  have hs : evsrc K (.e (.v 0)) [.v d0, .no] = .ret ((nums xs).map D.int) := by
    simp only [src_e, ev_v, look_z, bind_ret, hi]
  rw [lc_pure (l := (nums xs).map D.int) (fun _ => true) (fun d => match d with | .int t => .int ((2 ^ t.toNat : Nat) : Int) | _ => .non) hs (by simpa [nums] using hl) fun d hd => ?_, filt_true]
  · unfold nums
    rw [List.map_map, List.map_map, List.map_map, List.map_map]; rfl
  · obtain ⟨i, hi, rfl⟩ := List.mem_map.mp hd
    obtain ⟨x, hx, rfl⟩ := List.mem_map.mp hi
    refine ⟨_, rfl, rfl, fun _ => ?_⟩
    show ev _ _ [_, Slot.v (.int (x : Nat))] = _
    simp only [ev_ix, ev_tup, evs_cons, evs_nil, ev_c, cd_int, ev_v, look_s, look_z, bind_ret, pow5 (h x hx)]
    rfl
theorem run11g (j : Nat) {xs : List Nat} (h : ∀ x ∈ xs, x < 6) (hl : xs.length ≤ lim) : P.run (j + 1) 11 [psD (nums xs)] = .ret (.int (((xs.map fun x => 2 ^ x).sum : Nat) : Int)) := by
  rw [run_go (P := P) (np := 1) (ns := 2) (b := b11) rfl rfl]
  show T.bind (exl _ b11 [.v (psD (nums xs)), .no]) fin = _
  unfold b11
  rw [exl_ret, ev_bi1 (pow_lc h hl rfl), bi_sumI]
  unfold nums
  rw [sum_cast]; rfl
theorem run27g (j : Nat) {xs : List Nat} (h : ∀ x ∈ xs, x < 6) (hl : xs.length ≤ lim) : P.run (j + 1) 27 [.lst ((nums xs).map D.int)] = .ret (.int (((xs.map fun x => 2 ^ x).sum : Nat) : Int)) := by
  rw [run_go (P := P) (np := 1) (ns := 2) (b := b27) rfl rfl]
  show T.bind (exl _ b27 [.v (.lst ((nums xs).map D.int)), .no]) fin = _
  unfold b27
  rw [exl_ret, ev_bi1 (pow_lc h hl rfl), bi_sumI]
  unfold nums
  rw [sum_cast]; rfl
section
variable {m : Nat} {σ : List Nat} {ws : List D}
theorem Nm.lotL (h : Nm m σ) {k : Nat} (hk : k < 2 ^ m) : (∀ x ∈ (lotT k).map fun t => σ.getD t 0, x < 6) ∧ ((lotT k).map fun t => σ.getD t 0).length ≤ lim := by
  refine ⟨fun x hx => ?_, ?_⟩
  · obtain ⟨t, ht, rfl⟩ := List.mem_map.mp hx
    have : t < σ.length := by rw [h.len]; exact lotT_th h.h6 hk ht
    rw [List.getD_eq_getElem?_getD, List.getElem?_eq_getElem this]
    have := h.lt _ (List.getElem_mem this)
    exact Nat.lt_of_lt_of_le this h.h6
  · have := (lotL_eq (p64 h.h6 hk)).2.1
    have e : ((lotT k).map fun t => σ.getD t 0).length ≤ 6 := by unfold lotT; simpa using this
    exact Nat.le_trans e (by decide)
theorem nums_len (σ : List Nat) : (nums σ).length = σ.length := by simp [nums]
theorem rep_non (n : Nat) (h : n ≤ 1000) : opD .Mult (.lst [.non]) (.int (n : Nat)) = .ret (.lst (List.replicate n .non)) := by
  show T.need (decide (0 ≤ ((n : Nat) : Int)) && decide (((n : Nat) : Int) ≤ 1000) && decide (([D.non] : List D).length ≤ 1000)) (T.ret (D.lst (List.replicate (Int.toNat n) [D.non]).flatten)) = _
  rw [decide_eq_true (by omega : 0 ≤ ((n : Nat) : Int)), decide_eq_true (by omega : ((n : Nat) : Int) ≤ 1000), decide_eq_true (by simp : ([D.non] : List D).length ≤ 1000)]
  show T.ret (D.lst (List.replicate n [D.non]).flatten) = _
  congr 2
  induction n with
  | zero => rfl
  | succ n ih => rw [List.replicate_succ, List.flatten_cons, ih (by omega), List.replicate_succ]; rfl
theorem stoK_ok {L : List D} {d : D} {p : Nat} (h : p < L.length) : stoK L d (.int (p : Nat)) = some (L.set p d) := by
  show (if 0 ≤ ((p : Nat) : Int) ∧ ((p : Nat) : Int) < L.length then some (L.set (Int.toNat p) d) else none) = _
  rw [if_pos ⟨by omega, by omega⟩]; rfl
theorem ne_rng (K : Dp.C) {m : Nat} (h1 : 1 ≤ m) (h6 : m ≤ 6) : cmpK K .NotEq (.lst ((nums (List.range m)).map D.int)) (.lst ((nums (List.range m)).map D.int)) = .ret (.bl false) := by
  match m, h1, h6 with
  | 1, _, _ => kernel_rfl
  | 2, _, _ => kernel_rfl
  | 3, _, _ => kernel_rfl
  | 4, _, _ => kernel_rfl
  | 5, _, _ => kernel_rfl
  | 6, _, _ => kernel_rfl
theorem num_in {m x : Nat} (h : x < m) (h6 : m ≤ 6) : isNum 0 ((m : Nat) - 1) (.int (x : Nat)) = true := by
  have a : (0 : Int) ≤ (x : Nat) := by omega
  have b : ((x : Nat) : Int) ≤ (m : Nat) - 1 := by omega
  have c : ((m : Nat) : Int) - 1 < 6 := by omega
  generalize ((m : Nat) : Int) - 1 = y at *
  generalize ((x : Nat) : Int) = z at *
  simp [isNum]; omega
theorem rng_nums {K : Dp.C} {a : E} {δ : Dp.Env} {m : Nat} (h : ev K a δ = .ret (.int (m : Nat))) (hm : m ≤ 1000) : evsrc K (.rng1 a) δ = .ret ((nums (List.range m)).map D.int) := by
  have e : (nums (List.range m)).map D.int = (List.range m).map fun (i : Nat) => D.int (i : Nat) := by
    unfold nums; rw [List.map_map]; rfl
  have r := rng_map m hm
  rw [src_r1, h, bind_ret, e]
  dsimp only
  generalize rngD 0 ((m : Nat) : Int) = t at r ⊢
  exact r
def RnI (a b c d : Dp.Slot) (σ : List Nat) (ws : List D) (i : Nat) (δ : Dp.Env) : Prop := ∃ s t, δ = [a, b, c, d, .own (setL σ 0 (ws.take i) (List.replicate ws.length .non)), s, t, .no]
theorem setL_take (σ : List Nat) (l : List D) (L : List D) {i : Nat} {d : D} (h : l[i]? = some d) : setL σ 0 (l.take (i + 1)) L = (setL σ 0 (l.take i) L).set (pK σ i) d := by
  obtain ⟨hl, rfl⟩ := List.getElem?_eq_some_iff.mp h
  rw [List.take_succ_eq_append_getElem hl, setL_app, List.length_take, Nat.zero_add, Nat.min_eq_left (Nat.le_of_lt hl)]
  rfl
theorem run22 (j : Nat) (g : Good m ws) (h : Nm m σ) : P.run (j + 7) 22 [tb m ws, psD (nums σ)] = .ret (tb m (newW σ ws)) := by
  rw [run_go (P := P) (np := 2) (ns := 8) (b := b22) rfl rfl]
  generalize hq : b22 = bb
  show T.bind (exl _ bb [.v (tb m ws), .v (psD (nums σ)), .no, .no, .no, .no, .no, .no]) fin = _
  subst hq
  unfold b22
  have n1 := run14 (j + 5) m ws
  have f0 : ∀ δ : Dp.Env, look δ 0 = .v (tb m ws) → ev (P.K (j + 6)) (.fld (.v 0) ("many" : Str)) δ = .ret (.int (m : Nat)) := fun δ hδ => fld0 (j + 6) δ m ws (.v 0) (by rw [ev_v, hδ])
  have f1 : ∀ δ : Dp.Env, look δ 0 = .v (tb m ws) → ev (P.K (j + 6)) (.fld (.v 0) ("worths" : Str)) δ = .ret (.tup ws) := fun δ hδ => fld1 (j + 6) δ m ws (.v 0) (by rw [ev_v, hδ])
  have e1 : ev (P.K (j + 6)) (.lc [(("name" : Str), 3)] (.n 3) (.e (.v 1)) .no (.call 1 (.cons (.v 3) (.cons (.c (.int 0)) (.cons (.op .Sub (.fld (.v 0) ("many" : Str)) (.c (.int 1))) .nil))))) [.v (tb m ws), .v (psD (nums σ)), .no, .no, .no, .no, .no, .no] = .ret (.lst (((nums σ).map D.int).map fun _ => D.bl true)) := by
    rw [lc_pure (l := (nums σ).map D.int) (fun _ => true) (fun _ => D.bl true) rfl (by rw [List.length_map, nums_len, h.len]; exact Nat.le_trans h.h6 (by decide)) fun d hd => ?_, filt_true]
    obtain ⟨i, hi, rfl⟩ := List.mem_map.mp hd
    obtain ⟨x, hx, rfl⟩ := List.mem_map.mp hi
    refine ⟨_, rfl, rfl, fun _ => ?_⟩
    show ev _ _ [Slot.v (tb m ws), _, _, Slot.v (.int (x : Nat)), _, _, _, _] = _
    have hb := h.lt x hx
    have h6 := h.h6
    have hn : isNum 0 ((m : Nat) - 1) (.int (x : Nat)) = true := num_in hb h6
    have r := run1 (j + 4) (.int (x : Nat)) 0 ((m : Nat) - 1) rfl
    rw [hn] at r
    have o : ev (P.K (j + 6)) (.op .Sub (.fld (.v 0) ("many" : Str)) (.c (.int 1))) [Slot.v (tb m ws), .v (psD (nums σ)), .no, .v (.int (x : Nat)), .no, .no, .no, .no] = .ret (.int ((m : Nat) - 1)) := by
      rw [ev_op, f0 _ rfl, bind_ret, ev_c, bind_ret, cd_int, op_subI]
    rw [ev_call3 (x := .int (x : Nat)) (y := .int 0) (z := .int ((m : Nat) - 1)) rfl rfl o, call_K, r]
  have e2 := bi_all_map ((nums σ).map D.int) (fun _ => true)
  have hall : (((nums σ).map D.int).all fun _ => true) = true := by simp
  rw [hall] at e2
  have it : isiD (P.K (j + 6)).G (psD (nums σ)) .tuple = .ret (.bl true) := rfl
  rw [exl_ex, ev_call1 (x := tb m ws) rfl, call_K, n1, bind_ret, exl_set, ev_and, ev_isi, ev_v, look_s, look_z]
  simp only [bind_ret, it, asB_bl, if_true]
  rw [ev_and1, ev_bi1 e1, e2, bind_ret]
  simp only [bind_ret, asB_bl, List.set_cons_succ, List.set_cons_zero]
  have hso : biD .sorted [psD (nums σ)] = .ret (.lst ((nums (List.range m)).map D.int)) := by
    show (match intsD ((nums σ).map D.int) with | some ns => T.ret (D.lst ((isrt ns).map .int)) | none => .bad) = _
    rw [intsD_map, ← h.parts.2.1]
  have hrg : evsrc (P.K (j + 6)) (.rng1 (.fld (.v 0) ("many" : Str))) [.v (tb m ws), .v (psD (nums σ)), .v (.bl true), .no, .no, .no, .no, .no] = .ret ((nums (List.range m)).map D.int) := by
    exact rng_nums (f0 _ rfl) (by have := h.h6; omega)
  rw [exl_ife, ev_or, ev_not, ev_v, look_s, look_s, look_z]
  simp only [bind_ret, asB_bl, Bool.not_true, Bool.false_eq_true, if_false]
  rw [ev_or1, ev_cmp', ev_bi1 (d := psD (nums σ)) rfl, hso, bind_ret, ev_seqR, hrg, bind_ret]
  simp only [Bool.false_eq_true, if_false, bind_ret]
  rw [ne_rng _ h.h1 h.h6]
  simp only [bind_ret, asB_bl, Bool.false_eq_true, if_false, exl_nil]
  have hle : ws.length ≤ 1000 := by rw [g.len]; exact Nat.le_trans (Nat.pow_le_pow_right (by decide) g.h6) (by decide)
  have il : ev (P.K (j + 6)) (.bi .len (.cons (.fld (.v 0) ("worths" : Str)) .nil)) [.v (tb m ws), .v (psD (nums σ)), .v (.bl true), .no, .no, .no, .no, .no] = .ret (.int (ws.length : Nat)) := by
    rw [ev_bi1 (f1 _ rfl)]; rfl
  rw [exl_seto, ev_op, ev_lst, evs_cons, ev_c, evs_nil, il]
  simp only [bind_ret, cd_non, rep_non ws.length hle, List.set_cons_succ, List.set_cons_zero]
  have hs : evsrc (P.K (j + 6)) (.enum (.fld (.v 0) ("worths" : Str))) [.v (tb m ws), .v (psD (nums σ)), .v (.bl true), .no, .own (List.replicate ws.length .non), .no, .no, .no] = .ret (enumD 0 ws) := by rw [src_en, f1 _ rfl]; rfl
  obtain ⟨δ3, ⟨s, t, rfl⟩, e⟩ := exl_for_eq (K := P.K (j + 6)) (t := .t [.n 5, .n 6]) (sr := .enum (.fld (.v 0) ("worths" : Str)))
    (b := (.cons (.sto 4 (.call 11 (.cons (.bi .tuple (.cons (.lc [(("thing" : Str), 7)] (.n 7) (.e (.call 12 (.cons (.fld (.v 0) ("many" : Str)) (.cons (.v 5) .nil)))) .no (.ix (.v 1) (.v 7))) .nil)) .nil)) (.v 6)) .nil))
    (l := (.cons (.ret (.call 41 (.cons (.fld (.v 0) ("many" : Str)) (.cons (.bi .tuple (.cons (.b 4) .nil)) .nil)))) .nil)) (RnI (.v (tb m ws)) (.v (psD (nums σ))) (.v (.bl true)) .no σ ws) hs (by rw [enum_len, g.len]; exact lim64 g.h6) ⟨_, _, rfl⟩ (fun i d hd δ hi => by
    obtain ⟨s, t, rfl⟩ := hi
    obtain ⟨w, h1, h2⟩ := enum_get hd
    have h2 : d = .tup [.int (i : Nat), w] := by rw [h2]; simp
    subst h2
    have hi : i < 2 ^ m := by rw [← g.len]; exact (List.getElem?_eq_some_iff.mp h1).1
    refine ⟨_, _, rfl, ?_, ⟨.v (.int (i : Nat)), .v w, rfl⟩⟩
    show exl _ _ [Slot.v (tb m ws), Slot.v (psD (nums σ)), Slot.v (.bl true), Slot.no, Slot.own _, Slot.v (.int (i : Nat)), Slot.v w, Slot.no] = _
    rw [setL_take σ ws _ h1]
    have el := run12 (j + 5) m i g.h6 hi
    rw [(lotL_eq (p64 g.h6 hi)).1] at el
    generalize hL : setL σ 0 (ws.take i) (List.replicate ws.length .non) = L
    have hLl : L.length = 2 ^ m := by rw [← hL, setL_len, List.length_replicate, g.len]
    have hsr : evsrc (P.K (j + 6)) (.e (.call 12 (.cons (.fld (.v 0) ("many" : Str)) (.cons (.v 5) .nil)))) [.v (tb m ws), .v (psD (nums σ)), .v (.bl true), .no, .own L, .v (.int (i : Nat)), .v w, .no] = .ret (lotL i) := by
      rw [src_e, ev_call2 (x := .int (m : Nat)) (y := .int (i : Nat)) (f0 _ rfl) rfl, call_K, el]; rfl
    have elc := lc_ints (K := P.K (j + 6)) (ps := nums σ) (by rw [nums_len, h.len]) g.h6 hi (own := [(("thing" : Str), 7)]) 1 7 hsr (fun _ => rfl) (fun _ => rfl)
    obtain ⟨q1, q2⟩ := h.lotL hi
    have en := run11g (j + 5) q1 q2
    have e5 : (((lotT i).map fun t => σ.getD t 0).map fun x => 2 ^ x).sum = pK σ i := by rw [List.map_map]; exact pK_sum h.len h.h6 hi
    rw [e5] at en
    rw [dearL_nums] at elc
    have hp := (h.parts.1 i hi).2
    rw [exl_sto (d := w) (k := .int (pK σ i : Nat)) (xs := L) (xs' := L.set (pK σ i) w) 4 _ _ _ rfl rfl (by
      rw [ev_call1 (x := psD (nums ((lotT i).map fun t => σ.getD t 0))) (by rw [ev_bi1 elc, bi_tup]), call_K, en]) (stoK_ok (by rw [hLl]; exact hp))]
    rfl)
  rw [e]
  have hn : (enumD 0 ws).length = ws.length := enum_len ..
  rw [hn, List.take_length]
  have gw := (h.table g).made (j)
  have et : ev (P.K (j + 6)) (.bi .tuple (.cons (.b 4) .nil)) [.v (tb m ws), .v (psD (nums σ)), .v (.bl true), .no, .own (setL σ 0 ws (List.replicate ws.length .non)), s, t, .no] = .ret (.tup (newW σ ws)) := by
    rw [ev_bi1 (d := .lst (newW σ ws)) rfl, bi_tup]
  rw [exl_ret, ev_call2 (f0 _ rfl) et, call_K, gw]
  rfl
end
end Lw
end

section
set_option Elab.async false
set_option linter.all false
set_option maxRecDepth 100000
set_option maxHeartbeats 4000000
namespace Lw
open PySem Dp
theorem zipD_eq : ∀ (a b : List D), a.length = b.length → (zipD a b).length = b.length
  | [], [], _ => rfl
  | [], _ :: _, h => by cases h
  | _ :: _, [], h => by cases h
  | x :: a, y :: b, h => congrArg Nat.succ (zipD_eq a b (by simpa using h))
section
variable {m : Nat} {σ : List Nat} {ws : List D}
def SnI (a b c d : Dp.Slot) (σ : List Nat) (ws : List D) (i : Nat) (δ : Dp.Env) : Prop := ∃ s t, δ = [a, b, c, d, .own (setL σ 0 (ws.take i) (List.replicate ws.length .non)), s, t, .no]
theorem run38 (j : Nat) (g : Good m ws) (h : Nm m σ) : P.run (j + 3) 38 [.tup [.int (m : Nat), .tup ws], psD (nums σ)] = .ret (.tup [.int (m : Nat), .tup (newW σ ws)]) := by
  rw [run_go (P := P) (np := 2) (ns := 8) (b := b38) rfl rfl]
  generalize hq : b38 = bb
  show T.bind (exl _ bb [.v (.tup [.int (m : Nat), .tup ws]), .v (psD (nums σ)), .no, .no, .no, .no, .no, .no]) fin = _
  subst hq
  unfold b38
  have hle : ws.length ≤ 1000 := by rw [g.len]; exact Nat.le_trans (Nat.pow_le_pow_right (by decide) g.h6) (by decide)
  rw [exl_unp, ev_v, look_z, bind_ret]
  show T.bind (exl _ _ [.v (.tup [.int (m : Nat), .tup ws]), .v (psD (nums σ)), .v (.int (m : Nat)), .v (.tup ws), .no, .no, .no, .no]) fin = _
  have il : ev (P.K (j + 2)) (.bi .len (.cons (.v 3) .nil)) [.v (.tup [.int (m : Nat), .tup ws]), .v (psD (nums σ)), .v (.int (m : Nat)), .v (.tup ws), .no, .no, .no, .no] = .ret (.int (ws.length : Nat)) := by
    rw [ev_bi1 (d := .tup ws) rfl]; rfl
  rw [exl_seto, ev_op, ev_lst, evs_cons, ev_c, evs_nil, il]
  simp only [bind_ret, cd_non, rep_non ws.length hle, List.set_cons_succ, List.set_cons_zero]
  have hs : evsrc (P.K (j + 2)) (.zip (.call 28 (.cons (.v 2) .nil)) (.v 3)) [.v (.tup [.int (m : Nat), .tup ws]), .v (psD (nums σ)), .v (.int (m : Nat)), .v (.tup ws), .own (List.replicate ws.length .non), .no, .no, .no] = .ret (zipD (lots m) ws) := by
    rw [src_zip, ev_call1 (x := .int (m : Nat)) rfl, call_K, run28 (j + 1) m g.h6, bind_ret, ev_v]
    rfl
  have hz : (zipD (lots m) ws).length = ws.length := zipD_eq _ _ (by rw [len_lots g.h6, g.len])
  obtain ⟨δ3, ⟨s, t, rfl⟩, e⟩ := exl_for_eq (K := P.K (j + 2)) (t := .t [.n 5, .n 6]) (sr := .zip (.call 28 (.cons (.v 2) .nil)) (.v 3))
    (b := (.cons (.sto 4 (.call 27 (.cons (.lc [(("thing" : Str), 7)] (.n 7) (.e (.v 5)) .no (.ix (.v 1) (.v 7))) .nil)) (.v 6)) .nil))
    (l := (.cons (.ret (.tup (.cons (.v 2) (.cons (.bi .tuple (.cons (.b 4) .nil)) .nil)))) .nil)) (SnI (.v (.tup [.int (m : Nat), .tup ws])) (.v (psD (nums σ))) (.v (.int (m : Nat))) (.v (.tup ws)) σ ws) hs (by rw [hz, g.len]; exact lim64 g.h6) ⟨_, _, rfl⟩ (fun i d hd δ hi => by
    obtain ⟨s, t, rfl⟩ := hi
    obtain ⟨x, w, h0, h1, rfl⟩ := zipD_get _ _ _ _ hd
    have hi : i < 2 ^ m := by rw [← g.len]; exact (List.getElem?_eq_some_iff.mp h1).1
    rw [lots_at g.h6 hi] at h0
    have h0 : lotN i = x := Option.some.inj h0
    subst h0
    refine ⟨_, _, rfl, ?_, ⟨.v (lotN i), .v w, rfl⟩⟩
    rw [setL_take σ ws _ h1]
    generalize hL : setL σ 0 (ws.take i) (List.replicate ws.length .non) = L
    have hLl : L.length = 2 ^ m := by rw [← hL, setL_len, List.length_replicate, g.len]
    show exl _ _ [Slot.v _, Slot.v (psD (nums σ)), Slot.v _, Slot.v _, Slot.own L, Slot.v (lotN i), Slot.v w, Slot.no] = _
    have el : itemsD (lotN i) = some (lotL i) := by rw [(lotL_eq (p64 g.h6 hi)).1]; rfl
    have hsr : evsrc (P.K (j + 2)) (.e (.v 5)) [.v (.tup [.int (m : Nat), .tup ws]), .v (psD (nums σ)), .v (.int (m : Nat)), .v (.tup ws), .own L, .v (lotN i), .v w, .no] = .ret (lotL i) := by
      rw [src_e, ev_v, look_s, look_s, look_s, look_s, look_s, look_z, bind_ret, el]
    have elc := lc_ints (K := P.K (j + 2)) (ps := nums σ) (by rw [nums_len, h.len]) g.h6 hi (own := [(("thing" : Str), 7)]) 1 7 hsr (fun _ => rfl) (fun _ => rfl)
    obtain ⟨q1, q2⟩ := h.lotL hi
    have en := run27g (j + 1) q1 q2
    have e5 : (((lotT i).map fun t => σ.getD t 0).map fun x => 2 ^ x).sum = pK σ i := by rw [List.map_map]; exact pK_sum h.len h.h6 hi
    rw [e5] at en
    rw [dearL_nums] at elc
    have hp := (h.parts.1 i hi).2
    rw [exl_sto (d := w) (k := .int (pK σ i : Nat)) (xs := L) (xs' := L.set (pK σ i) w) 4 _ _ _ rfl rfl (by
      rw [ev_call1 elc, call_K, en]) (stoK_ok (by rw [hLl]; exact hp))]
    rfl)
  rw [e, hz, List.take_length]
  have et : ev (P.K (j + 2)) (.bi .tuple (.cons (.b 4) .nil)) [.v (.tup [.int (m : Nat), .tup ws]), .v (psD (nums σ)), .v (.int (m : Nat)), .v (.tup ws), .own (setL σ 0 ws (List.replicate ws.length .non)), s, t, .no] = .ret (.tup (newW σ ws)) := by
    rw [ev_bi1 (d := .lst (newW σ ws)) rfl, bi_tup]
  rw [exl_ret, ev_tup, evs_cons, ev_v, look_s, look_s, look_z, bind_ret, evs_cons, et, bind_ret, evs_nil]
  rfl
theorem run37 (j : Nat) (g : Good m ws) : P.run (j + 7) 37 [.tup [.int (m : Nat), .tup ws]] = .ret (tb m ws) := by
  rw [run_go (P := P) (np := 1) (ns := 1) (b := b37) rfl rfl]
  show T.bind (exl _ b37 [.v (.tup [.int (m : Nat), .tup ws])]) fin = _
  unfold b37
  rw [exl_ret, ev_call2 (x := .int (m : Nat)) (y := .tup ws) rfl rfl, call_K, g.made j]
  rfl
/-! ### a drawn order -/
theorem ne_nil {l : List D} (h : ∀ d ∈ l, okw d = true) : cmpD .NotEq (.lst l) (.lst []) = .ret (.bl (!l.isEmpty)) := by
  show eqD (.lst l) (.lst []) (fun b => .bl (!b)) = _
  have e1 : (D.lst l).py = some (.list (l.map pyW)) := by simp only [D.py, pys_W h, Option.map_some]
  have e2 : (D.lst []).py = some (.list []) := by simp only [D.py, D.pys, Option.map_some]
  have s2 : SeqAt.shaped (.list []) = true := shaped_W []
  rw [eqD_py e1 e2, shaped_W, s2]
  cases l <;> simp [PyData.eqv, PyData.eqvAll]
theorem cond26 (K : Dp.C) (a b d : Dp.Slot) (l : List D) (h : ∀ d ∈ l, okw d = true) : (ev K (.cmp .NotEq (.b 2) (.lst .nil)) [a, b, .own l, d]).bind asB = .ret (!l.isEmpty) := by
  rw [ev_cmp', ev_b, look_s, look_s, look_z, ev_lst, evs_nil]
  simp only [bind_ret, cK_lst, ne_nil h, asB_bl]
theorem erase_perm {α : Type} : ∀ (l : List α) (r : Nat) (h : r < l.length), (l[r] :: l.eraseIdx r).Perm l
  | [], _, h => by cases h
  | a :: l, 0, _ => .refl _
  | a :: l, r + 1, h => by
    have ih := erase_perm l r (by simpa using h)
    exact (List.Perm.swap a _ _).trans (ih.cons a)
theorem exl_pop {K : Dp.C} {δ : Dp.Env} (i j : Nat) (e : E) (l : SL) {xs ys : List D} {t : T D} (h1 : look δ i = .own xs) (h2 : look δ j = .own ys) (h3 : ev K e δ = t) : exl K (.cons (.pop i j e) l) δ = t.bind fun k => match popK ys k with
    | some (d, m') => T.need (decide (i ≠ j) && decide (xs.length < lim) && decide (ys.length ≤ lim)) (exl K l ((δ.set j (.own m')).set i (.own (xs ++ [d]))))
    | none => .bad := by
  rw [exl_cons]
  show T.bind (match look δ i, look δ j with | .own l, .own m => (ev K e δ).bind fun k => (match popK m k with | some (d, m') => T.need (decide (i ≠ j) && decide (l.length < lim) && decide (m.length ≤ lim)) (T.ret (Fl.nx ((δ.set j (.own m')).set i (.own (l ++ [d]))))) | none => .bad) | _, _ => .bad) _ = _
  rw [h1, h2, h3]
  dsimp only
  rw [bind_bind]
  congr 1
  funext k
  cases popK ys k with
  | none => rfl
  | some p =>
    obtain ⟨d, m'⟩ := p
    dsimp only
    cases (decide (i ≠ j) && decide (xs.length < lim) && decide (ys.length ≤ lim)) <;> rfl
def mixB : SL := .cons (.pop 3 2 (.call 24 (.cons (.v 0) (.cons (.bi .len (.cons (.b 2) .nil)) .nil)))) .nil
def mixC : E := .cmp .NotEq (.b 2) (.lst .nil)
theorem mixed_wh (j : Nat) (d0 : D) : ∀ (n : Nat) (left acc : List D) (f : Nat), (∀ d ∈ left, okw d = true) → left.length = n → n < f → acc.length + n ≤ 1000 →
    Okb (whL (fun δ' => (ev (P.K (j + 7)) mixC δ').bind asB) (fun δ' => exl (P.K (j + 7)) mixB δ') f [.v .st, .v d0, .own left, .own acc]) (fun fl => ∃ acc' : List D, fl = .nx [.v .st, .v d0, .own [], .own acc'] ∧ acc'.Perm (acc ++ left))
  | n, left, acc, 0, _, _, h, _ => absurd h (Nat.not_lt_zero _)
  | 0, left, acc, f + 1, hk, hl, _, _ => by
    have : left = [] := List.eq_nil_of_length_eq_zero hl
    subst this
    unfold whL
    rw [show (ev (P.K (j + 7)) mixC [.v .st, .v d0, .own [], .own acc]).bind asB = .ret false from cond26 _ _ _ _ _ hk, bind_ret, if_neg (by decide)]
    exact okb_ret ⟨acc, rfl, by simp⟩
  | n + 1, left, acc, f + 1, hk, hl, hf, hb => by
    unfold whL
    have he : left.isEmpty = false := by cases left with | nil => cases hl | cons _ _ => rfl
    rw [show (ev (P.K (j + 7)) mixC [.v .st, .v d0, .own left, .own acc]).bind asB = .ret true from by rw [show mixC = E.cmp .NotEq (.b 2) (.lst .nil) from rfl, cond26 _ _ _ _ _ hk, he]; rfl, bind_ret, if_pos rfl]
    have ek : ev (P.K (j + 7)) (.call 24 (.cons (.v 0) (.cons (.bi .len (.cons (.b 2) .nil)) .nil))) [.v .st, .v d0, .own left, .own acc] = .draw (n + 1) fun r => .ret (.int (r : Nat)) := by
      rw [ev_call2 (x := .st) (y := .int (left.length : Nat)) rfl (by rw [ev_bi1 (d := .lst left) rfl]; rfl), call_K, hl, run24]
    unfold mixB
    rw [exl_pop 3 2 _ _ rfl rfl ek, bind_draw, bind_draw]
    refine okb_draw (by omega) (by omega) fun r hr => ?_
    have hr' : r < left.length := by omega
    have hp : popK left (.int (r : Nat)) = some (left[r], left.eraseIdx r) := by
      show (if 0 ≤ ((r : Nat) : Int) then (match left[Int.toNat r]? with | some d => some (d, left.eraseIdx (Int.toNat r)) | none => none) else none) = _
      rw [if_pos (by omega), Int.toNat_natCast, List.getElem?_eq_getElem hr']
    rw [bind_ret, hp]
    have h1 : decide (acc.length < lim) = true := decide_eq_true (by have : lim = 1000000 := rfl; omega)
    have h2 : decide (left.length ≤ lim) = true := decide_eq_true (by have : lim = 1000000 := rfl; omega)
    simp only [h1, h2, Bool.and_true]
    rw [show decide ((3 : Nat) ≠ 2) = true from rfl, need_true, exl_nil, bind_ret]
    have ih := mixed_wh j d0 n (left.eraseIdx r) (acc ++ [left[r]]) f (fun d hd => hk d (List.mem_of_mem_eraseIdx hd)) (by rw [List.length_eraseIdx_of_lt hr']; omega) (by omega) (by simp; omega)
    refine okb_mono ih fun fl h => ?_
    obtain ⟨acc', e, p⟩ := h
    refine ⟨acc', e, p.trans ?_⟩
    rw [List.append_assoc]
    exact List.Perm.append_left _ (erase_perm left r hr')
end
end Lw
end

section
set_option Elab.async false
set_option linter.all false
set_option maxRecDepth 100000
set_option maxHeartbeats 4000000
namespace Lw
open PySem Dp
theorem nums_of {m : Nat} {l : List D} (h : l.Perm ((nums (List.range m)).map D.int)) : ∃ σ : List Nat, l = (nums σ).map D.int ∧ σ.length = m ∧ (∀ x ∈ σ, x < m) ∧ σ.Nodup := by
  let f : D → Nat := fun d => match d with | .int i => i.toNat | _ => 0
  have hm : ∀ d ∈ l, ∃ x, x < m ∧ d = .int ((x : Nat) : Int) := fun d hd => by
    obtain ⟨i, hi, rfl⟩ := List.mem_map.mp (h.mem_iff.mp hd)
    obtain ⟨x, hx, rfl⟩ := List.mem_map.mp hi
    exact ⟨x, List.mem_range.mp hx, rfl⟩
  have e1 : l = (nums (l.map f)).map D.int := by
    unfold nums
    rw [List.map_map, List.map_map]
    conv => lhs; rw [← List.map_id l]
    refine List.map_congr_left fun d hd => ?_
    obtain ⟨x, _, rfl⟩ := hm d hd
    rfl
  have p := h.map f
  have e2 : ((nums (List.range m)).map D.int).map f = List.range m := by
    unfold nums
    rw [List.map_map, List.map_map]
    conv => rhs; rw [← List.map_id (List.range m)]
    exact List.map_congr_left fun x _ => rfl
  rw [e2] at p
  exact ⟨l.map f, e1, by rw [p.length_eq]; simp, fun x hx => List.mem_range.mp (p.mem_iff.mp hx), p.nodup_iff.mpr List.nodup_range⟩
theorem run26_ok (j m : Nat) (h1 : 1 ≤ m) (h6 : m ≤ 6) : Okb (P.run (j + 8) 26 [.st, .lst ((nums (List.range m)).map D.int)]) (fun d => ∃ σ, d = .lst ((nums σ).map D.int) ∧ Nm m σ) := by
  rw [run_go (P := P) (np := 2) (ns := 4) (b := b26) rfl rfl]
  generalize hq : b26 = bb
  show Okb (T.bind (exl _ bb [.v .st, .v (.lst ((nums (List.range m)).map D.int)), .no, .no]) fin) _
  subst hq
  have hb : b26 = .cons (.par [(2, true), (3, true)] (.cons (.bi .list (.cons (.v 1) .nil)) (.cons (.lst .nil) .nil))) (.cons (.wh mixC mixB) (.cons (.reto 3) .nil)) := rfl
  rw [hb]
  generalize hL : (nums (List.range m)).map D.int = L
  have hlen : L.length = m := by rw [← hL]; simp [nums]
  have hok : ∀ d ∈ L, okw d = true := fun d hd => by
    rw [← hL] at hd
    obtain ⟨i, hi, rfl⟩ := List.mem_map.mp hd
    obtain ⟨x, hx, rfl⟩ := List.mem_map.mp hi
    have := List.mem_range.mp hx
    have a : -1000000 ≤ ((x : Nat) : Int) ∧ ((x : Nat) : Int) ≤ 1000000 := by omega
    generalize ((x : Nat) : Int) = z at a
    simp [okw, D.isN, isNum]; omega
  have el : ev (P.K (j + 7)) (.bi .list (.cons (.v 1) .nil)) [.v .st, .v (.lst L), .no, .no] = .ret (.lst L) := by
    rw [ev_bi1 (d := .lst L) rfl]; rfl
  rw [exl_par]
  simp only [evs_cons, evs_nil, el, ev_lst, bind_ret, takes, take, if_true, List.set_cons_succ, List.set_cons_zero]
  rw [exl_wh, bind_bind]
  refine okb_by (mixed_wh j (.lst L) m L [] wturn hok hlen (by have : wturn = 1000000 := rfl; omega) (by simp; omega)) fun fl hfl => ?_
  obtain ⟨acc', rfl, p⟩ := hfl
  rw [List.nil_append] at p
  dsimp only
  subst hL
  obtain ⟨σ, e, q1, q2, q3⟩ := nums_of p
  refine okb_of (a := .lst acc') ?_ ⟨σ, by rw [e], h1, h6, q1, q2, q3⟩
  rfl
/-! ### where a name stands -/
theorem idx_ok {m : Nat} {σ : List Nat} (h : Nm m σ) {i : Nat} (hi : i < m) : idxK ((nums σ).map D.int) (.int (i : Nat)) = some (ixN σ i) := by
  show (match intsD ((nums σ).map D.int) with | some ns => ixI ns (i : Nat) | none => none) = _
  rw [intsD_map]
  exact ixI_ixN σ i (h.mem hi)
end Lw
end

section
set_option Elab.async false
set_option linter.all false
set_option maxRecDepth 100000
set_option maxHeartbeats 4000000
namespace Lw
open PySem Dp
def body : SL := fb (hd bL)
def st (i : Nat) : S := match i with
  | 0 => hd body
  | 1 => hd (tl (body))
  | 2 => hd (tl (tl (body)))
  | 3 => hd (tl (tl (tl (body))))
  | 4 => hd (tl (tl (tl (tl (body)))))
  | 5 => hd (tl (tl (tl (tl (tl (body))))))
  | 6 => hd (tl (tl (tl (tl (tl (tl (body)))))))
  | 7 => hd (tl (tl (tl (tl (tl (tl (tl (body))))))))
  | 8 => hd (tl (tl (tl (tl (tl (tl (tl (tl (body)))))))))
  | 9 => hd (tl (tl (tl (tl (tl (tl (tl (tl (tl (body))))))))))
  | 10 => hd (tl (tl (tl (tl (tl (tl (tl (tl (tl (tl (body)))))))))))
  | 11 => hd (tl (tl (tl (tl (tl (tl (tl (tl (tl (tl (tl (body))))))))))))
  | 12 => hd (tl (tl (tl (tl (tl (tl (tl (tl (tl (tl (tl (tl (body)))))))))))))
  | 13 => hd (tl (tl (tl (tl (tl (tl (tl (tl (tl (tl (tl (tl (tl (body))))))))))))))
  | 14 => hd (tl (tl (tl (tl (tl (tl (tl (tl (tl (tl (tl (tl (tl (tl (body)))))))))))))))
  | 15 => hd (tl (tl (tl (tl (tl (tl (tl (tl (tl (tl (tl (tl (tl (tl (tl (body))))))))))))))))
  | 16 => hd (tl (tl (tl (tl (tl (tl (tl (tl (tl (tl (tl (tl (tl (tl (tl (tl (body)))))))))))))))))
  | _ => .brk
theorem body_eq : body = .cons (st 0) (.cons (st 1) (.cons (st 2) (.cons (st 3) (.cons (st 4) (.cons (st 5) (.cons (st 6) (.cons (st 7) (.cons (st 8) (.cons (st 9) (.cons (st 10) (.cons (st 11) (.cons (st 12) (.cons (st 13) (.cons (st 14) (.cons (st 15) (.cons (st 16) (.nil))))))))))))))))) := rfl
abbrev KL : Dp.C := P.K 20
theorem kc1 {f : Nat} {a : E} {x r : D} {δ : Dp.Env} (h : ev KL a δ = .ret x) (e : P.run 20 f [x] = .ret r) : ev KL (.call f (.cons a .nil)) δ = .ret r := by rw [ev_call1 h, call_K, e]
theorem kc2 {f : Nat} {a b : E} {x y r : D} {δ : Dp.Env} (h : ev KL a δ = .ret x) (k : ev KL b δ = .ret y) (e : P.run 20 f [x, y] = .ret r) : ev KL (.call f (.cons a (.cons b .nil))) δ = .ret r := by rw [ev_call2 h k, call_K, e]
theorem kc3 {f : Nat} {a b c : E} {x y z r : D} {δ : Dp.Env} (h : ev KL a δ = .ret x) (k : ev KL b δ = .ret y) (l : ev KL c δ = .ret z) (e : P.run 20 f [x, y, z] = .ret r) : ev KL (.call f (.cons a (.cons b (.cons c .nil)))) δ = .ret r := by rw [ev_call3 h k l, call_K, e]
theorem kk2 {f : Nat} {s t : Str} {a b : E} {x y r : D} {δ : Dp.Env} (h : ev KL a δ = .ret x) (k : ev KL b δ = .ret y) (e : P.run 20 f [y, x] = .ret r) : ev KL (.callk f .nil (.cons s a (.cons t b .nil)) [1, 0]) δ = .ret r := by rw [ev_callk2 h k, call_K, e]
theorem kk3 {f : Nat} {s t u : Str} {a b c : E} {x y z r : D} {δ : Dp.Env} (h : ev KL a δ = .ret x) (k : ev KL b δ = .ret y) (l : ev KL c δ = .ret z) (e : P.run 20 f [z, y, x] = .ret r) : ev KL (.callk f .nil (.cons s a (.cons t b (.cons u c .nil))) [2, 1, 0]) δ = .ret r := by
  rw [ev_callk, evs_nil, bind_ret, evk_cons, h, bind_ret, evk_cons, k, bind_ret, evk_cons, l, ← e]; rfl
theorem kcmp {o : CmpOp} {a b : E} {x y r : D} {δ : Dp.Env} (h : ev KL a δ = .ret x) (k : ev KL b δ = .ret y) (e : cmpK (P.K 20) o x y = .ret r) : ev KL (.cmp o a b) δ = .ret r := by rw [ev_cmp h k, e]
abbrev KV : Dp.C := ⟨P.G, P.run 20, fun _ _ => .bad, P.fld, P.con⟩
def okx (c : Nat) : Bool := decide (c < P.G.n) && P.G.exn c
theorem kcau {a e : E} {δ : Dp.Env} {t r : T D} (h : ev KL a δ = .ret (.lm e)) (hw : decide (wE e ≤ lcap) = true) (k : ev KV e δ = t) (q : t.caught okx = r) : ev KL (.cau a) δ = r := by
  show ((ev KL a δ).bind fun d => match d with | .lm e => (KL.lam e δ).caught (fun c => decide (c < P.G.n) && P.G.exn c) | _ => .bad) = _
  rw [h, bind_ret]
  show (T.need (decide (wE e ≤ lcap)) (ev KV e δ)).caught okx = _
  rw [hw, need_true, k, q]
theorem kv3 {f : Nat} {a b c : E} {x y z : D} {r : T D} {δ : Dp.Env} (h : ev KV a δ = .ret x) (k : ev KV b δ = .ret y) (l : ev KV c δ = .ret z) (e : P.run 20 f [x, y, z] = r) : ev KV (.call f (.cons a (.cons b (.cons c .nil)))) δ = r := by rw [ev_call3 h k l, ← e]
section
variable (N : Nat) (x2 x3 x4 x5 x6 x7 x8 x9 x10 x11 x12 x13 x14 x15 x16 x17 x18 x19 x20 x21 x22 : Dp.Slot) {m : Nat} {ws : List D} {ps : List Int}
theorem o36 : Okb (P.run 20 36 [.st, .int 6]) toldP := by
  generalize ht : P.run 20 36 [.st, .int 6] = t
  have h := run36_ok (j := 10)
  rw [ht] at h
  exact ⟨h⟩
theorem t0 : Okb (exs KL (st 0) [.v (.scr N), .v .st, x2, x3, x4, x5, x6, x7, x8, x9, x10, x11, x12, x13, x14, x15, x16, x17, x18, x19, x20, x21, x22]) (fun fl => ∃ m ws, (Good m ws ∧ ∀ d ∈ ws, smW d) ∧ fl = .nx [.v (.scr N), .v .st, x2, .v (.int (m : Nat)), .v (.tup ws), x5, x6, x7, x8, x9, x10, x11, x12, x13, x14, x15, x16, x17, x18, x19, x20, x21, x22]) := by
  show Okb ((ev KL (.call 36 (.cons (.v 1) (.cons (.c (.int 6)) .nil))) [.v (.scr N), .v .st, x2, x3, x4, x5, x6, x7, x8, x9, x10, x11, x12, x13, x14, x15, x16, x17, x18, x19, x20, x21, x22]).bind _) _
  rw [ev_call2 (x := .st) (y := .int 6) rfl rfl, call_K]
  refine okb_by o36 fun d hd => ?_
  obtain ⟨m, ws, rfl, g, q⟩ := hd
  exact okb_of rfl ⟨m, ws, ⟨g, q⟩, rfl⟩
theorem t1 (g : Good m ws) : exs KL (st 1) [.v (.scr N), .v .st, x2, .v (.int (m : Nat)), .v (.tup ws), x5, x6, x7, x8, x9, x10, x11, x12, x13, x14, x15, x16, x17, x18, x19, x20, x21, x22] = .ret (.nx [.v (.scr N), .v .st, x2, .v (.int (m : Nat)), .v (.tup ws), .v (tb m ws), .v (.lst (lots m)), x7, x8, x9, x10, x11, x12, x13, x14, x15, x16, x17, x18, x19, x20, x21, x22]) := by
  have e1 := g.made 14
  have e2 := run28 19 m g.h6
  exact exs_unp (d := .tup [tb m ws, .lst (lots m)]) (ev_tup2 (kc2 rfl rfl e1) (kc1 rfl e2)) rfl
theorem o29 {b : Nat} (h6 : m ≤ 6) (hb : b ≤ 100000) : Okb (P.run 20 29 [.st, .int (m : Nat), .int (b : Nat)]) (fun d => ∃ ps : List Int, d = psD ps ∧ ps.length = m ∧ ∀ p ∈ ps, p.natAbs ≤ 100000) := by
  generalize ht : P.run 20 29 [.st, .int (m : Nat), .int (b : Nat)] = t
  have h := run29_ok (j := 12) (m := m) (b := b) h6 hb
  rw [ht] at h
  refine okb_mono ⟨h⟩ fun d hd => ?_
  obtain ⟨l, rfl, hl, hi⟩ := hd
  clear ht h
  have : ∀ (l : List D), (∀ p ∈ l, inB b p) → ∃ ps : List Int, l = ps.map D.int ∧ ∀ p ∈ ps, p.natAbs ≤ 100000 := fun l => by
    induction l with
    | nil => intro _; exact ⟨[], rfl, fun f hf => by cases hf⟩
    | cons a l ih =>
      intro h
      obtain ⟨i, rfl, a1, a2⟩ := h a List.mem_cons_self
      obtain ⟨fs, rfl, hfs⟩ := ih fun b hb => h b (List.mem_cons_of_mem _ hb)
      refine ⟨i :: fs, rfl, fun x hx => ?_⟩
      rcases List.mem_cons.mp hx with rfl | hx
      · omega
      · exact hfs x hx
  obtain ⟨ps, rfl, hp⟩ := this l hi
  exact ⟨ps, rfl, by simpa using hl, hp⟩
theorem t2 (h6 : m ≤ 6) : Okb (exs KL (st 2) [.v (.scr N), .v .st, x2, .v (.int (m : Nat)), .v (.tup ws), .v (tb m ws), .v (.lst (lots m)), x7, x8, x9, x10, x11, x12, x13, x14, x15, x16, x17, x18, x19, x20, x21, x22]) (fun fl => ∃ ps : List Int, (ps.length = m ∧ ∀ p ∈ ps, p.natAbs ≤ 100000) ∧ fl = .nx [.v (.scr N), .v .st, x2, .v (.int (m : Nat)), .v (.tup ws), .v (tb m ws), .v (.lst (lots m)), .v (psD ps), x8, x9, x10, x11, x12, x13, x14, x15, x16, x17, x18, x19, x20, x21, x22]) := by
  have h2 : Okb (ev KL (.call 29 (.cons (.v 1) (.cons (.v 3) (.cons (.call 25 (.cons (.v 1) (.cons (.lst (.cons (.c (.int 2)) (.cons (.c (.int 50)) (.cons (.op .Pow (.c (.int 10)) (.c (.int 5))) .nil)))) .nil))) .nil)))) [.v (.scr N), .v .st, x2, .v (.int (m : Nat)), .v (.tup ws), .v (tb m ws), .v (.lst (lots m)), x7, x8, x9, x10, x11, x12, x13, x14, x15, x16, x17, x18, x19, x20, x21, x22]) (fun d => ∃ ps : List Int, d = psD ps ∧ ps.length = m ∧ ∀ p ∈ ps, p.natAbs ≤ 100000) := by
    have el : ev KL (.lst (.cons (.c (.int 2)) (.cons (.c (.int 50)) (.cons (.op .Pow (.c (.int 10)) (.c (.int 5))) .nil)))) [.v (.scr N), .v .st, x2, .v (.int (m : Nat)), .v (.tup ws), .v (tb m ws), .v (.lst (lots m)), x7, x8, x9, x10, x11, x12, x13, x14, x15, x16, x17, x18, x19, x20, x21, x22] = .ret (.lst [.int 2, .int 50, .int 100000]) := by kernel_rfl
    rw [ev_call, evs_cons, ev_v, look_s, look_z, bind_ret, evs_cons, ev_v, look_s, look_s, look_s, look_z, bind_ret, evs_cons, ev_call2 (x := .st) rfl el, call_K]
    simp only [bind_bind, evs_nil, bind_ret]
    refine okb_by (pk_ok (j := 12) (l := [.int 2, .int 50, .int 100000]) (by decide) (by decide)) fun b hb => ?_
    have hc : ∃ c : Nat, b = .int (c : Nat) ∧ c ≤ 100000 := by
      simp only [List.mem_cons, List.not_mem_nil, or_false] at hb
      rcases hb with rfl | rfl | rfl
      · exact ⟨2, rfl, by decide⟩
      · exact ⟨50, rfl, by decide⟩
      · exact ⟨100000, rfl, by decide⟩
    obtain ⟨c, rfl, c1⟩ := hc
    exact o29 h6 c1
  refine okb_mono (okb_set (i := 7) h2) fun fl hf => ?_
  obtain ⟨d, ⟨ps, rfl, hp⟩, rfl⟩ := hf
  exact ⟨ps, hp, rfl⟩
/-- a pair of a lot and its worth, priced -/
def zpf (ps : List Int) : D → D
  | .tup [lot, .int w] => .int (w - match P.run 1 30 [psD ps, lot] with | .ret (.int s) => s | _ => 0)
  | .tup [_, d] => d
  | d => d
theorem zip_priced (hl : ps.length = m) (g : Good m ws) : (zipD (lots m) ws).map (zpf ps) = pricedL ps 0 ws := by
  have hz : (zipD (lots m) ws).length = ws.length := zipD_eq _ _ (by rw [len_lots g.h6, g.len])
  refine List.ext_getElem? fun i => ?_
  rw [List.getElem?_map, pricedL_get, Nat.zero_add]
  by_cases hi : i < ws.length
  · have hi2 : i < (zipD (lots m) ws).length := by rw [hz]; exact hi
    obtain ⟨x, y, h1, h2, h3⟩ := zipD_get _ _ _ _ (List.getElem?_eq_getElem hi2)
    have him : i < 2 ^ m := by rw [← g.len]; exact hi
    rw [List.getElem?_eq_getElem hi2, h3, h2]
    rw [lots_at g.h6 him] at h1
    have h1 : lotN i = x := Option.some.inj h1
    subst h1
    show some (zpf ps (.tup [lotN i, y])) = some (pw ps i y)
    rcases okw_cases (g.ok _ (List.mem_of_getElem? h2)) with rfl | ⟨w, rfl, _⟩
    · rfl
    · show some (D.int (w - match P.run 1 30 [psD ps, lotN i] with | .ret (.int s) => s | _ => 0)) = _
      rw [run30e 0 hl g.h6 him]; rfl
  · rw [List.getElem?_eq_none (by omega), List.getElem?_eq_none (by omega)]; rfl
theorem t3 (hl : ps.length = m) (g : Good m ws) : exs KL (st 3) [.v (.scr N), .v .st, x2, .v (.int (m : Nat)), .v (.tup ws), .v (tb m ws), .v (.lst (lots m)), .v (psD ps), x8, x9, x10, x11, x12, x13, x14, x15, x16, x17, x18, x19, x20, x21, x22] = .ret (.nx [.v (.scr N), .v .st, x2, .v (.int (m : Nat)), .v (.tup ws), .v (tb m ws), .v (.lst (lots m)), .v (psD ps), .v (.tup (pricedL ps 0 ws)), x9, x10, x11, x12, x13, x14, x15, x16, x17, x18, x19, x20, x21, x22]) := by
  have hz : (zipD (lots m) ws).length = ws.length := zipD_eq _ _ (by rw [len_lots g.h6, g.len])
  have e := lc_pure (K := KL) (own := [(("lot" : Str), 9), (("worth" : Str), 10)]) (t := .t [.n 9, .n 10]) (s := .zip (.v 6) (.v 4)) (c := .no) (e := .ite (.cmp .Is (.v 10) (.c .non)) (.c .non) (.op .Sub (.v 10) (.call 30 (.cons (.v 7) (.cons (.v 9) .nil))))) (δ := [.v (.scr N), .v .st, x2, .v (.int (m : Nat)), .v (.tup ws), .v (tb m ws), .v (.lst (lots m)), .v (psD ps), x8, x9, x10, x11, x12, x13, x14, x15, x16, x17, x18, x19, x20, x21, x22]) (l := zipD (lots m) ws) (fun _ => true) (zpf ps) rfl (by rw [hz, g.len]; exact lim64 g.h6) (fun d hd => by
    obtain ⟨i, hi0⟩ := List.getElem?_of_mem hd
    obtain ⟨x, y, h1, h2, rfl⟩ := zipD_get _ _ _ _ hi0
    have him : i < 2 ^ m := by rw [← g.len]; exact (List.getElem?_eq_some_iff.mp h2).1
    rw [lots_at g.h6 him] at h1
    have h1 : lotN i = x := Option.some.inj h1
    subst h1
    refine ⟨_, rfl, rfl, fun _ => ?_⟩
    show ev KL _ [.v (.scr N), .v .st, x2, .v (.int (m : Nat)), .v (.tup ws), .v (tb m ws), .v (.lst (lots m)), .v (psD ps), x8, .v (lotN i), .v y, x11, x12, x13, x14, x15, x16, x17, x18, x19, x20, x21, x22] = _
    have er : P.run 20 30 [psD ps, lotN i] = .ret (.int (dear ps i)) := run30e 19 hl g.h6 him
    have e1 : P.run 1 30 [psD ps, lotN i] = .ret (.int (dear ps i)) := run30e 0 hl g.h6 him
    have ec : ev KL (.call 30 (.cons (.v 7) (.cons (.v 9) .nil))) [.v (.scr N), .v .st, x2, .v (.int (m : Nat)), .v (.tup ws), .v (tb m ws), .v (.lst (lots m)), .v (psD ps), x8, .v (lotN i), .v y, x11, x12, x13, x14, x15, x16, x17, x18, x19, x20, x21, x22] = .ret (.int (dear ps i)) := kc2 rfl rfl er
    rcases okw_cases (g.ok _ (List.mem_of_getElem? h2)) with rfl | ⟨w, rfl, _⟩
    · rfl
    · show _ = T.ret (D.int (w - match P.run 1 30 [psD ps, lotN i] with | .ret (.int s) => s | _ => 0))
      rw [e1, ev_ite, ev_cmp (x := .int w) (y := .non) rfl rfl, cK_is, isN_int, bind_ret, asB_bl, bind_ret, if_neg (by decide), ev_op, ec]
      rfl)
  rw [filt_true, zip_priced hl g] at e
  show (T.bind (ev KL (.bi .tuple (.cons _ .nil)) _) _) = _
  rw [ev_bi1 e, bi_tup, bind_ret]
  rfl
end
end Lw
end

section
set_option Elab.async false
set_option linter.all false
set_option maxRecDepth 100000
set_option maxHeartbeats 4000000
namespace Lw
open PySem Dp
theorem orf {a r : E} {δ : Dp.Env} (h : ev KL a δ = .ret (.bl false)) (k : ev KL r δ = .ret (.bl false)) : ev KL (.or a r) δ = .ret (.bl false) := by
  rw [ev_or, h, bind_ret, asB_bl, bind_ret, if_neg (by decide), k]
theorem notf {a : E} {δ : Dp.Env} (h : ev KL a δ = .ret (.bl true)) : ev KL (.not a) δ = .ret (.bl false) := by
  rw [ev_not, h, bind_ret, asB_bl, bind_ret]; rfl
theorem mk_good {m : Nat} {ws : List D} (g : Good m ws) : mkT (.int (m : Nat)) (.tup ws) = .ret (tb m ws) := by
  unfold mkT
  rw [if_pos (num16 g.h1 g.h6)]
  dsimp only
  rw [show (Int.toNat ((m : Nat) : Int)) = m from rfl, if_pos g.gw]; rfl
theorem eq_tb {m : Nat} {ws : List D} (g : Good m ws) : cmpK (P.K 20) .Eq (tb m ws) (tb m ws) = .ret (.bl true) := by
  obtain ⟨b, e, _, hb⟩ := cmp_tabs 18 g g
  rw [hb.mpr ⟨rfl, rfl⟩] at e
  exact e
section
variable (N : Nat) (x2 x3 x4 x5 x6 x7 x8 x9 x10 x11 x12 x13 x14 x15 x16 x17 x18 x19 x20 x21 x22 : Dp.Slot) {m : Nat} {ws : List D} {ps : List Int}
theorem psOf (hl : ps.length = m) (h : ∀ p ∈ ps, p.natAbs ≤ 100000) : Ps m ps := ⟨hl, fun p hp => by have := h p hp; omega⟩
theorem o21 (g : Good m ws) (g2 : Good m (pricedL ps 0 ws)) (q : Ps m ps) : P.run 20 21 [tb m ws, psD ps] = .ret (tb m (pricedL ps 0 ws)) := by
  rw [run21 13 g q, mk_good g2]
theorem t4 (g : Good m ws) (g2 : Good m (pricedL ps 0 ws)) (q : Ps m ps) : exs KL (st 4) [.v (.scr N), .v .st, x2, .v (.int (m : Nat)), .v (.tup ws), .v (tb m ws), .v (.lst (lots m)), .v (psD ps), .v (.tup (pricedL ps 0 ws)), x9, x10, x11, x12, x13, x14, x15, x16, x17, x18, x19, x20, x21, x22] = .ret (.nx [.v (.scr N), .v .st, x2, .v (.int (m : Nat)), .v (.tup ws), .v (tb m ws), .v (.lst (lots m)), .v (psD ps), .v (.tup (pricedL ps 0 ws)), x9, x10, .v (tb m (pricedL ps 0 ws)), x12, x13, x14, x15, x16, x17, x18, x19, x20, x21, x22]) := exs_set' (i := 11) (kc2 rfl rfl (o21 g g2 q))
theorem t5 (g : Good m ws) (g2 : Good m (pricedL ps 0 ws)) (q : Ps m ps) : exs KL (st 5) [.v (.scr N), .v .st, x2, .v (.int (m : Nat)), .v (.tup ws), .v (tb m ws), .v (.lst (lots m)), .v (psD ps), .v (.tup (pricedL ps 0 ws)), x9, x10, .v (tb m (pricedL ps 0 ws)), x12, x13, x14, x15, x16, x17, x18, x19, x20, x21, x22] = .ret (.nx [.v (.scr N), .v .st, x2, .v (.int (m : Nat)), .v (.tup ws), .v (tb m ws), .v (.lst (lots m)), .v (psD ps), .v (.tup (pricedL ps 0 ws)), x9, x10, .v (tb m (pricedL ps 0 ws)), x12, x13, x14, x15, x16, x17, x18, x19, x20, x21, x22]) := by
  have e1 := o21 g g2 q
  exact exs_skip (orf (notf (kcmp rfl (kc2 rfl rfl (g2.made 14)) (eq_tb g2))) (orf (notf (kcmp (kk2 rfl rfl e1) rfl (eq_tb g2))) (ev_or1_f (notf (kcmp rfl (kc2 rfl rfl (g.made 14)) (eq_tb g))))))
theorem t6 (g : Good m ws) (g2 : Good m (pricedL ps 0 ws)) (hl : ps.length = m) (h : ∀ p ∈ ps, p.natAbs ≤ 100000) : exs KL (st 6) [.v (.scr N), .v .st, x2, .v (.int (m : Nat)), .v (.tup ws), .v (tb m ws), .v (.lst (lots m)), .v (psD ps), .v (.tup (pricedL ps 0 ws)), x9, x10, .v (tb m (pricedL ps 0 ws)), x12, x13, x14, x15, x16, x17, x18, x19, x20, x21, x22] = .ret (.nx [.v (.scr N), .v .st, x2, .v (.int (m : Nat)), .v (.tup ws), .v (tb m ws), .v (.lst (lots m)), .v (psD ps), .v (.tup (pricedL ps 0 ws)), x9, x10, .v (tb m (pricedL ps 0 ws)), x12, x13, x14, x15, x16, x17, x18, x19, x20, x21, x22]) := by
  have q : Ps m (ps.map fun p => -p) := ⟨by simp [hl], fun p hp => by
    obtain ⟨x, hx, rfl⟩ := List.mem_map.mp hp
    have := h x hx
    omega⟩
  have b := priced_back ps ws 0
  have e1 := o21 (ps := ps.map fun p => -p) g2 (by rw [b]; exact g) q
  rw [b] at e1
  have e := lc_pure (K := KL) (own := [(("price" : Str), 12)]) (t := .n 12) (s := .e (.v 7)) (c := .no) (e := .neg (.v 12)) (δ := [.v (.scr N), .v .st, x2, .v (.int (m : Nat)), .v (.tup ws), .v (tb m ws), .v (.lst (lots m)), .v (psD ps), .v (.tup (pricedL ps 0 ws)), x9, x10, .v (tb m (pricedL ps 0 ws)), x12, x13, x14, x15, x16, x17, x18, x19, x20, x21, x22]) (l := ps.map D.int) (fun _ => true) (fun d => match d with | .int i => .int (-i) | d => d) rfl (by simp only [List.length_map]; rw [hl]; exact Nat.le_trans g.h6 (by decide)) (fun d hd => by
    obtain ⟨i, _, rfl⟩ := List.mem_map.mp hd
    exact ⟨_, rfl, rfl, fun _ => rfl⟩)
  rw [filt_true, List.map_map] at e
  have e2 : (ps.map ((fun d => match d with | .int i => D.int (-i) | d => d) ∘ D.int)) = (ps.map fun p => -p).map D.int := by rw [List.map_map]; rfl
  rw [e2] at e
  refine exs_skip (notf (kcmp (kc2 rfl ?_ e1) rfl (eq_tb g)))
  rw [ev_bi1 e, bi_tup]
end
end Lw
end

section
set_option Elab.async false
set_option linter.all false
set_option maxRecDepth 100000
set_option maxHeartbeats 4000000
namespace Lw
open PySem Dp
theorem lot_py : allN 64 (fun i => match (lotN i).py with | some p => PyData.eqv p p && (PyData.canLay0 p && Nat.ble p.depth 1) | none => false) = true := by kernel_rfl
theorem pys_lots : ∀ l : List D, (∀ d ∈ l, ∃ i, i < 64 ∧ d = lotN i) → ∃ qs, D.pys l = some qs ∧ PyData.eqvAll qs qs = true ∧ PyData.canLayAll0 qs = true ∧ PyData.depthAll qs ≤ 1
  | [], _ => ⟨[], by simp only [D.pys], by simp only [PyData.eqvAll], by simp only [PyData.canLayAll0], by simp only [PyData.depthAll]; omega⟩
  | d :: l, h => by
    obtain ⟨qs, e1, e2, e3, e4⟩ := pys_lots l fun d hd => h d (List.mem_cons_of_mem _ hd)
    obtain ⟨i, hi, rfl⟩ := h d List.mem_cons_self
    have e := allN_ok lot_py i hi
    split at e
    · rename_i q hq
      rw [Bool.and_eq_true, Bool.and_eq_true] at e
      have hd := Nat.le_of_ble_eq_true e.2.2
      refine ⟨q :: qs, by simp only [D.pys, hq, e1], by simp only [PyData.eqvAll, e.1, e2, Bool.and_self], by simp only [PyData.canLayAll0, e.2.1, e3, Bool.and_self], ?_⟩
      simp only [PyData.depthAll]; omega
    · cases e
theorem ne_lots (l : List D) (h : ∀ d ∈ l, ∃ i, i < 64 ∧ d = lotN i) : cmpK (P.K 20) .NotEq (.tup l) (.tup l) = .ret (.bl false) := by
  obtain ⟨qs, e1, e2, e3, e4⟩ := pys_lots l h
  have ep : (D.tup l).py = some (.tuple qs) := by simp only [D.py, e1, Option.map_some]
  have es : SeqAt.shaped (.tuple qs) = true := by
    unfold SeqAt.shaped
    simp only [PyData.canLay0, e3, PyData.depth, Bool.true_and]
    exact decide_eq_true (by omega)
  rw [cK_tup]
  show eqD (.tup l) (.tup l) (fun b => .bl (!b)) = _
  rw [eqD_py ep ep, es]
  simp only [PyData.eqv, e2]
  rfl
theorem due_mem (z : Fq) : ∀ (l : List (Option Fq)) (k : Nat) (d : D), d ∈ due z k l → ∃ i, i < l.length ∧ d = lotN (k + i)
  | [], _, _, h => by cases h
  | o :: l, k, d, h => by
    have tail : d ∈ due z (k + 1) l → ∃ i, i < (o :: l).length ∧ d = lotN (k + i) := fun h => by
      obtain ⟨i, h1, h2⟩ := due_mem z l (k + 1) d h
      exact ⟨i + 1, by simp; omega, by rw [h2]; congr 1; omega⟩
    cases o with
    | none => exact tail h
    | some f =>
      unfold due at h
      split at h
      · rcases List.mem_cons.mp h with rfl | h
        · exact ⟨0, by simp, rfl⟩
        · exact tail h
      · exact tail h
theorem zero_pr (K : Dp.C) {m : Nat} (h1 : 1 ≤ m) (h6 : m ≤ 6) : opD .Mult (.tup [.tup [.int 0, .int 1]]) (.int (m : Nat)) = .ret (prD ((List.replicate m 0).map wh)) := by
  match m, h1, h6 with
  | 1, _, _ => kernel_rfl
  | 2, _, _ => kernel_rfl
  | 3, _, _ => kernel_rfl
  | 4, _, _ => kernel_rfl
  | 5, _, _ => kernel_rfl
  | 6, _, _ => kernel_rfl
section
variable (N : Nat) (x2 x3 x4 x5 x6 x7 x8 x9 x10 x11 x12 x13 x14 x15 x16 x17 x18 x19 x20 x21 x22 : Dp.Slot) {m : Nat} {ws : List D} {ps : List Int}
theorem t7 (g : Good m ws) (g2 : Good m (pricedL ps 0 ws)) (hl : ps.length = m) (h : ∀ p ∈ ps, p.natAbs ≤ 100000) : exs KL (st 7) [.v (.scr N), .v .st, x2, .v (.int (m : Nat)), .v (.tup ws), .v (tb m ws), .v (.lst (lots m)), .v (psD ps), .v (.tup (pricedL ps 0 ws)), x9, x10, .v (tb m (pricedL ps 0 ws)), x12, x13, x14, x15, x16, x17, x18, x19, x20, x21, x22] = .ret (.nx [.v (.scr N), .v .st, x2, .v (.int (m : Nat)), .v (.tup ws), .v (tb m ws), .v (.lst (lots m)), .v (psD ps), .v (.tup (pricedL ps 0 ws)), x9, x10, .v (tb m (pricedL ps 0 ws)), x12, x13, x14, x15, x16, x17, x18, x19, x20, x21, x22]) := by
  have r2 : P.run 20 19 [tb m ws, prD (ps.map wh)] = .ret (.tup (due (most (some' (gos (ps.map wh) 0 ws))) 0 (gos (ps.map wh) 0 ws))) := run19 13 g (pr_wh hl h)
  have r1 : P.run 20 19 [tb m (pricedL ps 0 ws), prD ((List.replicate m 0).map wh)] = _ := best_same 13 g g2 hl h
  have r1 := r1.trans r2
  have hm : ∀ d ∈ due (most (some' (gos (ps.map wh) 0 ws))) 0 (gos (ps.map wh) 0 ws), ∃ i, i < 64 ∧ d = lotN i := fun d hd => by
    obtain ⟨i, hi, rfl⟩ := due_mem _ _ _ _ hd
    rw [gos_len, g.len] at hi
    exact ⟨0 + i, by have := p64 g.h6 hi; omega, rfl⟩
  generalize due (most (some' (gos (ps.map wh) 0 ws))) 0 (gos (ps.map wh) 0 ws) = X at *
  have e := lc_pure (K := KL) (own := [(("price" : Str), 12)]) (t := .n 12) (s := .e (.v 7)) (c := .no) (e := .tup (.cons (.v 12) (.cons (.c (.int 1)) .nil))) (δ := [.v (.scr N), .v .st, x2, .v (.int (m : Nat)), .v (.tup ws), .v (tb m ws), .v (.lst (lots m)), .v (psD ps), .v (.tup (pricedL ps 0 ws)), x9, x10, .v (tb m (pricedL ps 0 ws)), x12, x13, x14, x15, x16, x17, x18, x19, x20, x21, x22]) (l := ps.map D.int) (fun _ => true) (fun d => .tup [d, .int 1]) rfl (by simp only [List.length_map]; rw [hl]; exact Nat.le_trans g.h6 (by decide)) (fun d hd => ⟨_, rfl, rfl, fun _ => rfl⟩)
  rw [filt_true, List.map_map] at e
  have z : ev KL (.op .Mult (.tup (.cons (.tup (.cons (.c (.int 0)) (.cons (.c (.int 1)) .nil))) .nil)) (.v 3)) [.v (.scr N), .v .st, x2, .v (.int (m : Nat)), .v (.tup ws), .v (tb m ws), .v (.lst (lots m)), .v (psD ps), .v (.tup (pricedL ps 0 ws)), x9, x10, .v (tb m (pricedL ps 0 ws)), x12, x13, x14, x15, x16, x17, x18, x19, x20, x21, x22] = .ret (prD ((List.replicate m 0).map wh)) := by
    rw [ev_op, show ev KL (.tup (.cons (.tup (.cons (.c (.int 0)) (.cons (.c (.int 1)) .nil))) .nil)) [.v (.scr N), .v .st, x2, .v (.int (m : Nat)), .v (.tup ws), .v (tb m ws), .v (.lst (lots m)), .v (psD ps), .v (.tup (pricedL ps 0 ws)), x9, x10, .v (tb m (pricedL ps 0 ws)), x12, x13, x14, x15, x16, x17, x18, x19, x20, x21, x22] = .ret (.tup [.tup [.int 0, .int 1]]) from rfl, bind_ret, show ev KL (.v 3) [.v (.scr N), .v .st, x2, .v (.int (m : Nat)), .v (.tup ws), .v (tb m ws), .v (.lst (lots m)), .v (psD ps), .v (.tup (pricedL ps 0 ws)), x9, x10, .v (tb m (pricedL ps 0 ws)), x12, x13, x14, x15, x16, x17, x18, x19, x20, x21, x22] = .ret (.int (m : Nat)) from rfl, bind_ret, zero_pr KL g.h1 g.h6]
  refine exs_skip (kcmp (kc2 rfl z r1) (kc2 rfl ?_ r2) (ne_lots X hm))
  rw [ev_bi1 e, bi_tup, prD_wh]
  rfl
end
end Lw
end

section
set_option Elab.async false
set_option linter.all false
set_option maxRecDepth 100000
set_option maxHeartbeats 4000000
namespace Lw
open PySem Dp
section
variable (N : Nat) (x2 x3 x4 x5 x6 x7 x8 x9 x10 x11 x12 x13 x14 x15 x16 x17 x18 x19 x20 x21 x22 : Dp.Slot) {m : Nat} {ws : List D} {ps : List Int} {σ : List Nat}
theorem o26 (h1 : 1 ≤ m) (h6 : m ≤ 6) : Okb (P.run 20 26 [.st, .lst ((nums (List.range m)).map D.int)]) (fun d => ∃ σ, d = .lst ((nums σ).map D.int) ∧ Nm m σ) := by
  have h := run26_ok 12 m h1 h6
  generalize P.run (12 + 8) 26 [.st, .lst ((nums (List.range m)).map D.int)] = t at h
  exact h
theorem t8 (h1 : 1 ≤ m) (h6 : m ≤ 6) : Okb (exs KL (st 8) [.v (.scr N), .v .st, x2, .v (.int (m : Nat)), .v (.tup ws), .v (tb m ws), .v (.lst (lots m)), .v (psD ps), .v (.tup (pricedL ps 0 ws)), x9, x10, .v (tb m (pricedL ps 0 ws)), x12, x13, x14, x15, x16, x17, x18, x19, x20, x21, x22]) (fun fl => ∃ σ, Nm m σ ∧ fl = .nx [.v (.scr N), .v .st, x2, .v (.int (m : Nat)), .v (.tup ws), .v (tb m ws), .v (.lst (lots m)), .v (psD ps), .v (.tup (pricedL ps 0 ws)), x9, x10, .v (tb m (pricedL ps 0 ws)), x12, .ot ((nums σ).map D.int), x14, x15, x16, x17, x18, x19, x20, x21, x22]) := by
  have er : ev KL (.seqR false (.rng1 (.v 3))) [.v (.scr N), .v .st, x2, .v (.int (m : Nat)), .v (.tup ws), .v (tb m ws), .v (.lst (lots m)), .v (psD ps), .v (.tup (pricedL ps 0 ws)), x9, x10, .v (tb m (pricedL ps 0 ws)), x12, x13, x14, x15, x16, x17, x18, x19, x20, x21, x22] = .ret (.lst ((nums (List.range m)).map D.int)) := by
    rw [ev_seqR, rng_nums (m := m) rfl (by omega), bind_ret]; rfl
  show Okb ((ev KL (.call 26 (.cons (.v 1) (.cons (.seqR false (.rng1 (.v 3))) .nil))) [.v (.scr N), .v .st, x2, .v (.int (m : Nat)), .v (.tup ws), .v (tb m ws), .v (.lst (lots m)), .v (psD ps), .v (.tup (pricedL ps 0 ws)), x9, x10, .v (tb m (pricedL ps 0 ws)), x12, x13, x14, x15, x16, x17, x18, x19, x20, x21, x22]).bind _) _
  rw [ev_call2 (x := .st) rfl er, call_K]
  refine okb_by (o26 h1 h6) fun d hd => ?_
  obtain ⟨σ, rfl, h⟩ := hd
  exact okb_of rfl ⟨σ, h, rfl⟩
theorem t9 (h : Nm m σ) : exs KL (st 9) [.v (.scr N), .v .st, x2, .v (.int (m : Nat)), .v (.tup ws), .v (tb m ws), .v (.lst (lots m)), .v (psD ps), .v (.tup (pricedL ps 0 ws)), x9, x10, .v (tb m (pricedL ps 0 ws)), x12, .ot ((nums σ).map D.int), x14, x15, x16, x17, x18, x19, x20, x21, x22] = .ret (.nx [.v (.scr N), .v .st, x2, .v (.int (m : Nat)), .v (.tup ws), .v (tb m ws), .v (.lst (lots m)), .v (psD ps), .v (.tup (pricedL ps 0 ws)), x9, x10, .v (tb m (pricedL ps 0 ws)), x12, .ot ((nums σ).map D.int), .v (psD (nums (invN m σ))), x15, x16, x17, x18, x19, x20, x21, x22]) := by
  have e := lc_pure (K := KL) (own := [(("thing" : Str), 15)]) (t := .n 15) (s := .rng1 (.v 3)) (c := .no) (e := .idx 13 (.v 15)) (δ := [.v (.scr N), .v .st, x2, .v (.int (m : Nat)), .v (.tup ws), .v (tb m ws), .v (.lst (lots m)), .v (psD ps), .v (.tup (pricedL ps 0 ws)), x9, x10, .v (tb m (pricedL ps 0 ws)), x12, .ot ((nums σ).map D.int), x14, x15, x16, x17, x18, x19, x20, x21, x22]) (l := (nums (List.range m)).map D.int) (fun _ => true) (fun d => match d with | .int i => .int ((ixN σ i.toNat : Nat) : Int) | d => d) (rng_nums rfl (by have := h.h6; omega)) (by simp only [List.length_map, nums_len, List.length_range]; exact Nat.le_trans h.h6 (by decide)) (fun d hd => by
    obtain ⟨i, hi, rfl⟩ := List.mem_map.mp hd
    obtain ⟨x, hx, rfl⟩ := List.mem_map.mp hi
    refine ⟨_, rfl, rfl, fun _ => ?_⟩
    have ix := idx_ok h (List.mem_range.mp hx)
    show ((ev KL (.v 15) [.v (.scr N), .v .st, x2, .v (.int (m : Nat)), .v (.tup ws), .v (tb m ws), .v (.lst (lots m)), .v (psD ps), .v (.tup (pricedL ps 0 ws)), x9, x10, .v (tb m (pricedL ps 0 ws)), x12, .ot ((nums σ).map D.int), x14, .v (.int (x : Nat)), x16, x17, x18, x19, x20, x21, x22]).bind fun k => match idxK ((nums σ).map D.int) k with | some j => T.ret (D.int (j : Nat)) | none => .bad) = _
    rw [show ev KL (.v 15) [.v (.scr N), .v .st, x2, .v (.int (m : Nat)), .v (.tup ws), .v (tb m ws), .v (.lst (lots m)), .v (psD ps), .v (.tup (pricedL ps 0 ws)), x9, x10, .v (tb m (pricedL ps 0 ws)), x12, .ot ((nums σ).map D.int), x14, .v (.int (x : Nat)), x16, x17, x18, x19, x20, x21, x22] = .ret (.int (x : Nat)) from rfl, bind_ret, ix]
    rfl)
  rw [filt_true, List.map_map] at e
  have e2 : (nums (List.range m)).map ((fun d => match d with | .int i => D.int ((ixN σ i.toNat : Nat) : Int) | d => d) ∘ D.int) = (nums (invN m σ)).map D.int := by
    unfold nums invN
    rw [List.map_map, List.map_map, List.map_map]; rfl
  rw [e2] at e
  refine exs_set' (i := 14) ?_
  rw [ev_bi1 e, bi_tup]
theorem t10 (g : Good m ws) (h : Nm m σ) : exs KL (st 10) [.v (.scr N), .v .st, x2, .v (.int (m : Nat)), .v (.tup ws), .v (tb m ws), .v (.lst (lots m)), .v (psD ps), .v (.tup (pricedL ps 0 ws)), x9, x10, .v (tb m (pricedL ps 0 ws)), x12, .ot ((nums σ).map D.int), .v (psD (nums (invN m σ))), x15, x16, x17, x18, x19, x20, x21, x22] = .ret (.nx [.v (.scr N), .v .st, x2, .v (.int (m : Nat)), .v (.tup ws), .v (tb m ws), .v (.lst (lots m)), .v (psD ps), .v (.tup (pricedL ps 0 ws)), x9, x10, .v (tb m (pricedL ps 0 ws)), x12, .ot ((nums σ).map D.int), .v (psD (nums (invN m σ))), x15, .v (tb m (newW σ ws)), x17, x18, x19, x20, x21, x22]) := exs_set' (i := 16) (kc2 rfl rfl (run22 13 g h))
theorem t11 (g : Good m ws) (h : Nm m σ) : exs KL (st 11) [.v (.scr N), .v .st, x2, .v (.int (m : Nat)), .v (.tup ws), .v (tb m ws), .v (.lst (lots m)), .v (psD ps), .v (.tup (pricedL ps 0 ws)), x9, x10, .v (tb m (pricedL ps 0 ws)), x12, .ot ((nums σ).map D.int), .v (psD (nums (invN m σ))), x15, .v (tb m (newW σ ws)), x17, x18, x19, x20, x21, x22] = .ret (.nx [.v (.scr N), .v .st, x2, .v (.int (m : Nat)), .v (.tup ws), .v (tb m ws), .v (.lst (lots m)), .v (psD ps), .v (.tup (pricedL ps 0 ws)), x9, x10, .v (tb m (pricedL ps 0 ws)), x12, .ot ((nums σ).map D.int), .v (psD (nums (invN m σ))), x15, .v (tb m (newW σ ws)), x17, x18, x19, x20, x21, x22]) := by
  have g3 := h.table g
  have e1 : P.run 20 38 [.tup [.int (m : Nat), .tup ws], psD (nums σ)] = .ret (.tup [.int (m : Nat), .tup (newW σ ws)]) := run38 17 g h
  have e2 : P.run 20 37 [.tup [.int (m : Nat), .tup (newW σ ws)]] = .ret (tb m (newW σ ws)) := run37 13 g3
  have e3 : P.run 20 22 [tb m (newW σ ws), psD (nums (invN m σ))] = .ret (tb m ws) := by
    have := run22 13 g3 h.inv
    rw [h.back g.len] at this
    exact this
  exact exs_skip (orf (notf (kcmp rfl (kc1 (kc2 rfl rfl e1) e2) (eq_tb g3))) (ev_or1_f (notf (kcmp (kk2 rfl rfl e3) rfl (eq_tb g)))))
end
end Lw
end

section
set_option Elab.async false
set_option linter.all false
set_option maxRecDepth 100000
set_option maxHeartbeats 4000000
namespace Lw
open PySem Dp
def rngL (m : Nat) : List D := (nums (List.range m)).map D.int
def badL (m : Nat) : List D := [.non, .tup (rngL m ++ [.int 0]), .lst (rngL m), .tup ((rngL m).drop 1 ++ [.int 1000001]), .tup ((rngL m).drop 1 ++ [.bl true]), .tup ((rngL m).drop 1 ++ [.tup [.int 0, .int 1]]), .int 0]
def farL (m : Nat) : List D := [.non, .tup (rngL m ++ [.int m]), .lst (rngL m), .tup ((rngL m).drop 1 ++ [.int m]), .tup ((rngL m).drop 1 ++ [.non]), .tup ((rngL m).drop 1 ++ [.int (-1)]), .int 0, .tup (rngL m ++ [.int 0])]
theorem bad_ok : allN 6 (fun m => (badL (m + 1)).all fun d => match P.run 19 20 [.int ((m + 1 : Nat) : Int), d] with | .ret (.bl b) => !b | _ => false) = true := by kernel_rfl
theorem far_ok (ws : List D) : allN 6 (fun m => (farL (m + 1)).all fun d => match P.run 20 22 [tb (m + 1) ws, d] with | .exc 3 [] => true | _ => false) = true := by kernel_rfl
section
variable (N : Nat) (x2 x3 x4 x5 x6 x7 x8 x9 x10 x11 x12 x13 x14 x15 x16 x17 x18 x19 x20 x21 x22 : Dp.Slot) {m : Nat} {ws : List D} {ps : List Int} {σ : List Nat} {o bd fr : D}
theorem o39 : Okb (P.run 20 39 [.st]) (fun d => pk d = true) := by
  have h := run39_ok (j := 11)
  generalize P.run (11 + 9) 39 [.st] = t at h
  exact ⟨h⟩
theorem t12 (h6 : m ≤ 6) : Okb (exs KL (st 12) [.v (.scr N), .v .st, x2, .v (.int (m : Nat)), .v (.tup ws), .v (tb m ws), .v (.lst (lots m)), .v (psD ps), .v (.tup (pricedL ps 0 ws)), x9, x10, .v (tb m (pricedL ps 0 ws)), x12, .ot ((nums σ).map D.int), .v (psD (nums (invN m σ))), x15, .v (tb m (newW σ ws)), x17, x18, x19, x20, x21, x22]) (fun fl => ∃ o, pk o = true ∧ fl = .nx [.v (.scr N), .v .st, x2, .v (.int (m : Nat)), .v (.tup ws), .v (tb m ws), .v (.lst (lots m)), .v (psD ps), .v (.tup (pricedL ps 0 ws)), x9, x10, .v (tb m (pricedL ps 0 ws)), x12, .ot ((nums σ).map D.int), .v (psD (nums (invN m σ))), x15, .v (tb m (newW σ ws)), .v o, .v (.tup ((nums (List.range m)).map D.int)), x19, x20, x21, x22]) := by
  have er : ev KL (.seqR true (.rng1 (.v 3))) [.v (.scr N), .v .st, x2, .v (.int (m : Nat)), .v (.tup ws), .v (tb m ws), .v (.lst (lots m)), .v (psD ps), .v (.tup (pricedL ps 0 ws)), x9, x10, .v (tb m (pricedL ps 0 ws)), x12, .ot ((nums σ).map D.int), .v (psD (nums (invN m σ))), x15, .v (tb m (newW σ ws)), x17, x18, x19, x20, x21, x22] = .ret (.tup ((nums (List.range m)).map D.int)) := by
    rw [ev_seqR, rng_nums (m := m) rfl (by omega), bind_ret]; rfl
  show Okb ((ev KL (.tup (.cons (.call 39 (.cons (.v 1) .nil)) (.cons (.seqR true (.rng1 (.v 3))) .nil))) [.v (.scr N), .v .st, x2, .v (.int (m : Nat)), .v (.tup ws), .v (tb m ws), .v (.lst (lots m)), .v (psD ps), .v (.tup (pricedL ps 0 ws)), x9, x10, .v (tb m (pricedL ps 0 ws)), x12, .ot ((nums σ).map D.int), .v (psD (nums (invN m σ))), x15, .v (tb m (newW σ ws)), x17, x18, x19, x20, x21, x22]).bind _) _
  rw [ev_tup, evs_cons, ev_call1 (x := .st) rfl, call_K, evs_cons, er]
  simp only [bind_bind]
  refine okb_by o39 fun d hd => ?_
  simp only [bind_ret, evs_nil]
  exact okb_of rfl ⟨d, hd, rfl⟩
def lstE : S → E
  | .set _ _ (.call _ (.cons _ (.cons e _))) => e
  | _ => .no
theorem el13 (h1 : 1 ≤ m) (h6 : m ≤ 6) : ev KL (lstE (st 13)) [.v (.scr N), .v .st, x2, .v (.int (m : Nat)), .v (.tup ws), .v (tb m ws), .v (.lst (lots m)), .v (psD ps), .v (.tup (pricedL ps 0 ws)), x9, x10, .v (tb m (pricedL ps 0 ws)), x12, .ot ((nums σ).map D.int), .v (psD (nums (invN m σ))), x15, .v (tb m (newW σ ws)), .v o, .v (.tup ((nums (List.range m)).map D.int)), x19, x20, x21, x22] = .ret (.lst (badL m)) := by
  match m, h1, h6 with
  | 1, _, _ => kernel_rfl
  | 2, _, _ => kernel_rfl
  | 3, _, _ => kernel_rfl
  | 4, _, _ => kernel_rfl
  | 5, _, _ => kernel_rfl
  | 6, _, _ => kernel_rfl
theorem el14 (h1 : 1 ≤ m) (h6 : m ≤ 6) : ev KL (lstE (st 14)) [.v (.scr N), .v .st, x2, .v (.int (m : Nat)), .v (.tup ws), .v (tb m ws), .v (.lst (lots m)), .v (psD ps), .v (.tup (pricedL ps 0 ws)), x9, x10, .v (tb m (pricedL ps 0 ws)), x12, .ot ((nums σ).map D.int), .v (psD (nums (invN m σ))), x15, .v (tb m (newW σ ws)), .v o, .v (.tup ((nums (List.range m)).map D.int)), .v bd, x20, x21, x22] = .ret (.lst (farL m)) := by
  match m, h1, h6 with
  | 1, _, _ => kernel_rfl
  | 2, _, _ => kernel_rfl
  | 3, _, _ => kernel_rfl
  | 4, _, _ => kernel_rfl
  | 5, _, _ => kernel_rfl
  | 6, _, _ => kernel_rfl
theorem t13 (h1 : 1 ≤ m) (h6 : m ≤ 6) : Okb (exs KL (st 13) [.v (.scr N), .v .st, x2, .v (.int (m : Nat)), .v (.tup ws), .v (tb m ws), .v (.lst (lots m)), .v (psD ps), .v (.tup (pricedL ps 0 ws)), x9, x10, .v (tb m (pricedL ps 0 ws)), x12, .ot ((nums σ).map D.int), .v (psD (nums (invN m σ))), x15, .v (tb m (newW σ ws)), .v o, .v (.tup ((nums (List.range m)).map D.int)), x19, x20, x21, x22]) (fun fl => ∃ bd, bd ∈ badL m ∧ fl = .nx [.v (.scr N), .v .st, x2, .v (.int (m : Nat)), .v (.tup ws), .v (tb m ws), .v (.lst (lots m)), .v (psD ps), .v (.tup (pricedL ps 0 ws)), x9, x10, .v (tb m (pricedL ps 0 ws)), x12, .ot ((nums σ).map D.int), .v (psD (nums (invN m σ))), x15, .v (tb m (newW σ ws)), .v o, .v (.tup ((nums (List.range m)).map D.int)), .v bd, x20, x21, x22]) := by
  show Okb ((ev KL (.call 25 (.cons (.v 1) (.cons (lstE (st 13)) .nil))) [.v (.scr N), .v .st, x2, .v (.int (m : Nat)), .v (.tup ws), .v (tb m ws), .v (.lst (lots m)), .v (psD ps), .v (.tup (pricedL ps 0 ws)), x9, x10, .v (tb m (pricedL ps 0 ws)), x12, .ot ((nums σ).map D.int), .v (psD (nums (invN m σ))), x15, .v (tb m (newW σ ws)), .v o, .v (.tup ((nums (List.range m)).map D.int)), x19, x20, x21, x22]).bind _) _
  rw [ev_call2 (x := .st) rfl (el13 N _ _ _ _ _ _ _ _ _ h1 h6), call_K]
  refine okb_by (pk_ok (j := 12) (by simp [badL]) (by simp [badL])) fun d hd => ?_
  exact okb_of rfl ⟨d, hd, rfl⟩
theorem t14 (h1 : 1 ≤ m) (h6 : m ≤ 6) : Okb (exs KL (st 14) [.v (.scr N), .v .st, x2, .v (.int (m : Nat)), .v (.tup ws), .v (tb m ws), .v (.lst (lots m)), .v (psD ps), .v (.tup (pricedL ps 0 ws)), x9, x10, .v (tb m (pricedL ps 0 ws)), x12, .ot ((nums σ).map D.int), .v (psD (nums (invN m σ))), x15, .v (tb m (newW σ ws)), .v o, .v (.tup ((nums (List.range m)).map D.int)), .v bd, x20, x21, x22]) (fun fl => ∃ fr, fr ∈ farL m ∧ fl = .nx [.v (.scr N), .v .st, x2, .v (.int (m : Nat)), .v (.tup ws), .v (tb m ws), .v (.lst (lots m)), .v (psD ps), .v (.tup (pricedL ps 0 ws)), x9, x10, .v (tb m (pricedL ps 0 ws)), x12, .ot ((nums σ).map D.int), .v (psD (nums (invN m σ))), x15, .v (tb m (newW σ ws)), .v o, .v (.tup ((nums (List.range m)).map D.int)), .v bd, .v fr, x21, x22]) := by
  show Okb ((ev KL (.call 25 (.cons (.v 1) (.cons (lstE (st 14)) .nil))) [.v (.scr N), .v .st, x2, .v (.int (m : Nat)), .v (.tup ws), .v (tb m ws), .v (.lst (lots m)), .v (psD ps), .v (.tup (pricedL ps 0 ws)), x9, x10, .v (tb m (pricedL ps 0 ws)), x12, .ot ((nums σ).map D.int), .v (psD (nums (invN m σ))), x15, .v (tb m (newW σ ws)), .v o, .v (.tup ((nums (List.range m)).map D.int)), .v bd, x20, x21, x22]).bind _) _
  rw [ev_call2 (x := .st) rfl (el14 N _ _ _ _ _ _ _ _ h1 h6), call_K]
  refine okb_by (pk_ok (j := 12) (by simp [farL]) (by simp [farL])) fun d hd => ?_
  exact okb_of rfl ⟨d, hd, rfl⟩
end
end Lw
end

section
set_option Elab.async false
set_option linter.all false
set_option maxRecDepth 100000
set_option maxHeartbeats 4000000
namespace Lw
open PySem Dp
abbrev edW (n : Nat) : List D := List.replicate n (.int 1000000)
theorem rep_mil (n : Nat) (h : n ≤ 1000) : opD .Mult (.tup [.int 1000000]) (.int (n : Nat)) = .ret (.tup (edW n)) := by
  show T.need (!([D.int 1000000] : List D).isEmpty && decide (0 ≤ ((n : Nat) : Int)) && decide (((n : Nat) : Int) ≤ 1000) && decide (([D.int 1000000] : List D).length ≤ 1000)) (T.ret (D.tup (List.replicate (Int.toNat n) [D.int 1000000]).flatten)) = _
  rw [decide_eq_true (by omega : 0 ≤ ((n : Nat) : Int)), decide_eq_true (by omega : ((n : Nat) : Int) ≤ 1000), decide_eq_true (by simp : ([D.int 1000000] : List D).length ≤ 1000)]
  show T.ret (D.tup (List.replicate n [D.int 1000000]).flatten) = _
  congr 2
  induction n with
  | zero => rfl
  | succ n ih => rw [List.replicate_succ, List.flatten_cons, ih (by omega)]; rfl
theorem good_edge {m : Nat} {ws : List D} (g : Good m ws) : Good m (edW ws.length) := by
  refine good_ints (b := 1000000) g.h1 g.h6 (by simp [g.len]) (by decide) fun d hd => ?_
  rw [List.eq_of_mem_replicate hd]
  exact ⟨1000000, rfl, by omega, by omega⟩
section
variable (N : Nat) (x2 x3 x4 x5 x6 x7 x8 x9 x10 x11 x12 x13 x14 x15 x16 x17 x18 x19 x20 x21 x22 : Dp.Slot) {m : Nat} {ws : List D} {ps : List Int} {σ : List Nat} {o bd fr : D}
theorem t15 (g : Good m ws) : exs KL (st 15) [.v (.scr N), .v .st, x2, .v (.int (m : Nat)), .v (.tup ws), .v (tb m ws), .v (.lst (lots m)), .v (psD ps), .v (.tup (pricedL ps 0 ws)), x9, x10, .v (tb m (pricedL ps 0 ws)), x12, .ot ((nums σ).map D.int), .v (psD (nums (invN m σ))), x15, .v (tb m (newW σ ws)), .v o, .v (.tup ((nums (List.range m)).map D.int)), .v bd, .v fr, x21, x22] = .ret (.nx [.v (.scr N), .v .st, x2, .v (.int (m : Nat)), .v (.tup ws), .v (tb m ws), .v (.lst (lots m)), .v (psD ps), .v (.tup (pricedL ps 0 ws)), x9, x10, .v (tb m (pricedL ps 0 ws)), x12, .ot ((nums σ).map D.int), .v (psD (nums (invN m σ))), x15, .v (tb m (newW σ ws)), .v o, .v (.tup ((nums (List.range m)).map D.int)), .v bd, .v fr, .v (tb m (List.replicate ws.length (.int 1000000))), x22]) := by
  have hle : ws.length ≤ 1000 := by rw [g.len]; exact Nat.le_trans (Nat.pow_le_pow_right (by decide) g.h6) (by decide)
  have il : ev KL (.bi .len (.cons (.v 4) .nil)) [.v (.scr N), .v .st, x2, .v (.int (m : Nat)), .v (.tup ws), .v (tb m ws), .v (.lst (lots m)), .v (psD ps), .v (.tup (pricedL ps 0 ws)), x9, x10, .v (tb m (pricedL ps 0 ws)), x12, .ot ((nums σ).map D.int), .v (psD (nums (invN m σ))), x15, .v (tb m (newW σ ws)), .v o, .v (.tup ((nums (List.range m)).map D.int)), .v bd, .v fr, x21, x22] = .ret (.int (ws.length : Nat)) := by
    rw [ev_bi1 (d := .tup ws) rfl]; rfl
  have ip : ev KL (.tup (.cons (.op .Pow (.c (.int 10)) (.c (.int 6))) .nil)) [.v (.scr N), .v .st, x2, .v (.int (m : Nat)), .v (.tup ws), .v (tb m ws), .v (.lst (lots m)), .v (psD ps), .v (.tup (pricedL ps 0 ws)), x9, x10, .v (tb m (pricedL ps 0 ws)), x12, .ot ((nums σ).map D.int), .v (psD (nums (invN m σ))), x15, .v (tb m (newW σ ws)), .v o, .v (.tup ((nums (List.range m)).map D.int)), .v bd, .v fr, x21, x22] = .ret (.tup [.int 1000000]) := by kernel_rfl
  refine exs_set' (i := 21) (kc2 rfl ?_ ((good_edge g).made 14))
  rw [ev_op, ip, bind_ret, il, bind_ret, rep_mil _ hle]
end
end Lw
end

section
set_option Elab.async false
set_option linter.all false
set_option maxRecDepth 100000
set_option maxHeartbeats 4000000
namespace Lw
open PySem Dp
theorem kd_t : P.run 20 40 [.exc 5 []] = .ret (.str "table ") := by kernel_rfl
theorem kd_p : P.run 20 40 [.exc 4 []] = .ret (.str "prices ") := by kernel_rfl
theorem kd_n : P.run 20 40 [.exc 3 []] = .ret (.str "names ") := by kernel_rfl
theorem kd_w : P.run 20 40 [.exc 6 []] = .ret (.str "worths ") := by kernel_rfl
theorem ne_t : cmpK (P.K 20) .NotEq (.str "table ") (.str "table ") = .ret (.bl false) := by kernel_rfl
theorem ne_p : cmpK (P.K 20) .NotEq (.str "prices ") (.str "prices ") = .ret (.bl false) := by kernel_rfl
theorem ne_n : cmpK (P.K 20) .NotEq (.str "names ") (.str "names ") = .ret (.bl false) := by kernel_rfl
theorem ne_w : cmpK (P.K 20) .NotEq (.str "worths ") (.str "worths ") = .ret (.bl false) := by kernel_rfl
theorem kv2 {f : Nat} {a b : E} {x y : D} {r : T D} {δ : Dp.Env} (h : ev KV a δ = .ret x) (k : ev KV b δ = .ret y) (e : P.run 20 f [x, y] = r) : ev KV (.call f (.cons a (.cons b .nil))) δ = r := by rw [ev_call2 h k, ← e]
theorem run21x (j : Nat) (d e : D) (h : pk d = true) : P.run (j + 3) 21 [d, e] = .exc 5 [] := by
  rw [run_go (P := P) (np := 2) (ns := 7) (b := b21) rfl rfl]
  show T.bind (exl _ b21 [.v d, .v e, .no, .no, .no, .no, .no]) fin = _
  unfold b21
  rw [exl_ex, ev_call1 (x := d) rfl, call_K, run14x (j + 1) d h]; rfl
theorem run22x (j : Nat) (d e : D) (h : pk d = true) : P.run (j + 3) 22 [d, e] = .exc 5 [] := by
  rw [run_go (P := P) (np := 2) (ns := 8) (b := b22) rfl rfl]
  generalize hq : b22 = bb
  show T.bind (exl _ bb [.v d, .v e, .no, .no, .no, .no, .no, .no]) fin = _
  subst hq
  unfold b22
  rw [exl_ex, ev_call1 (x := d) rfl, call_K, run14x (j + 1) d h]; rfl
section
variable {m : Nat} {ws : List D}
theorem run20b (h1 : 1 ≤ m) (h6 : m ≤ 6) {d : D} (h : d ∈ badL m) : P.run 19 20 [.int (m : Nat), d] = .ret (.bl false) := by
  have e := allN_ok bad_ok (m - 1) (by omega)
  rw [show m - 1 + 1 = m by omega] at e
  have e := List.all_eq_true.mp e d h
  split at e
  · rename_i b hb
    cases b with
    | false => exact hb
    | true => cases e
  · cases e
theorem run21p (h1 : 1 ≤ m) (h6 : m ≤ 6) {d : D} (h : d ∈ badL m) : P.run 20 21 [tb m ws, d] = .exc 4 [] := by
  rw [run_go (P := P) (np := 2) (ns := 7) (b := b21) rfl rfl]
  show T.bind (exl (P.K 19) b21 [.v (tb m ws), .v d, .no, .no, .no, .no, .no]) fin = _
  unfold b21
  have f0 := fld0 19 [.v (tb m ws), .v d, .no, .no, .no, .no, .no] m ws (.v 0) rfl
  rw [exl_ex, ev_call1 (x := tb m ws) rfl, call_K, run14 18 m ws, bind_ret, exl_ife, ev_not, ev_call2 (x := .int (m : Nat)) (y := d) f0 rfl, call_K, run20b h1 h6 h]
  rfl
theorem run22f (h1 : 1 ≤ m) (h6 : m ≤ 6) {d : D} (h : d ∈ farL m) : P.run 20 22 [tb m ws, d] = .exc 3 [] := by
  have e := allN_ok (far_ok ws) (m - 1) (by omega)
  rw [show m - 1 + 1 = m by omega] at e
  have e := List.all_eq_true.mp e d h
  generalize P.run 20 22 [tb m ws, d] = t at e ⊢
  split at e
  · rfl
  · cases e
def edP (m : Nat) : List Int := -1 :: List.replicate (m - 1) 0
theorem edge_bad : allN 6 (fun m => !goodW (m + 1) (.tup (pricedL (edP (m + 1)) 0 (edW (2 ^ (m + 1)))))) = true := by kernel_rfl
theorem run21e (g : Good m ws) : P.run 20 21 [tb m (edW ws.length), psD (edP m)] = .exc 6 [] := by
  have h1 := g.h1
  have h6 := g.h6
  have q : Ps m (edP m) := ⟨by simp [edP]; omega, fun p hp => by
    rcases List.mem_cons.mp hp with rfl | hp
    · decide
    · rw [List.eq_of_mem_replicate hp]; decide⟩
  have r : P.run 20 21 [tb m (edW ws.length), psD (edP m)] = mkT (.int (m : Nat)) (.tup (pricedL (edP m) 0 (edW ws.length))) := run21 13 (good_edge g) q
  have e := allN_ok edge_bad (m - 1) (by omega)
  rw [show m - 1 + 1 = m by omega, ← g.len] at e
  rw [r]
  unfold mkT
  rw [if_pos (num16 h1 h6)]
  dsimp only
  rw [show (Int.toNat ((m : Nat) : Int)) = m from rfl]
  generalize goodW m (.tup (pricedL (edP m) 0 (edW ws.length))) = b at e ⊢
  cases b with
  | false => rfl
  | true => cases e
theorem ed_ev (K : Dp.C) (h1 : 1 ≤ m) (h6 : m ≤ 6) {δ : Dp.Env} (h : look δ 3 = .v (.int (m : Nat))) : ev K (.op .Add (.tup (.cons (.neg (.c (.int 1))) .nil)) (.op .Mult (.tup (.cons (.c (.int 0)) .nil)) (.op .Sub (.v 3) (.c (.int 1))))) δ = .ret (psD (edP m)) := by
  have i1 : ev K (.op .Sub (.v 3) (.c (.int 1))) δ = .ret (.int ((m : Nat) - 1)) := by
    rw [ev_op, ev_v, h]; rfl
  rw [ev_op, ev_op, i1]
  match m, h1, h6 with
  | 1, _, _ => kernel_rfl
  | 2, _, _ => kernel_rfl
  | 3, _, _ => kernel_rfl
  | 4, _, _ => kernel_rfl
  | 5, _, _ => kernel_rfl
  | 6, _, _ => kernel_rfl
end
end Lw
end

section
set_option Elab.async false
set_option linter.all false
set_option maxRecDepth 100000
set_option maxHeartbeats 4000000
namespace Lw
open PySem Dp
section
variable (N : Nat) (x2 x3 x4 x5 x6 x7 x8 x9 x10 x11 x12 x13 x14 x15 x16 x17 x18 x19 x20 x21 x22 : Dp.Slot) {m : Nat} {ws : List D} {ps : List Int} {σ : List Nat} {o bd fr : D}
def I16 (m : Nat) (ws : List D) (ps : List Int) (σ : List Nat) (o bd fr : D) (i : Nat) (δ : Dp.Env) : Prop := ∃ s t, δ = [.v (.scr N), .v .st, x2, .v (.int (m : Nat)), .v (.tup ws), .v (tb m ws), .v (.lst (lots m)), .v (psD ps), t, x9, x10, .v (tb m (pricedL ps 0 ws)), x12, .ot ((nums σ).map D.int), .v (psD (nums (invN m σ))), x15, .v (tb m (newW σ ws)), .v o, .v (.tup ((nums (List.range m)).map D.int)), .v bd, .v fr, .v (tb m (List.replicate ws.length (.int 1000000))), s]
theorem t16 (g : Good m ws) (ho : pk o = true) (hb : bd ∈ badL m) (hf : fr ∈ farL m) : Okb (exs KL (st 16) [.v (.scr N), .v .st, x2, .v (.int (m : Nat)), .v (.tup ws), .v (tb m ws), .v (.lst (lots m)), .v (psD ps), .v (.tup (pricedL ps 0 ws)), x9, x10, .v (tb m (pricedL ps 0 ws)), x12, .ot ((nums σ).map D.int), .v (psD (nums (invN m σ))), x15, .v (tb m (newW σ ws)), .v o, .v (.tup ((nums (List.range m)).map D.int)), .v bd, .v fr, .v (tb m (List.replicate ws.length (.int 1000000))), x22]) (fun fl => ∃ s t : Dp.Slot, fl = .nx [.v (.scr N), .v .st, x2, .v (.int (m : Nat)), .v (.tup ws), .v (tb m ws), .v (.lst (lots m)), .v (psD ps), t, x9, x10, .v (tb m (pricedL ps 0 ws)), x12, .ot ((nums σ).map D.int), .v (psD (nums (invN m σ))), x15, .v (tb m (newW σ ws)), .v o, .v (.tup ((nums (List.range m)).map D.int)), .v bd, .v fr, .v (tb m (List.replicate ws.length (.int 1000000))), s]) := by
  refine okb_mono (okb_for (ds := [.tup [.lm (.call 21 (.cons (.v 17) (.cons (.c .non) .nil))), .str "table "], .tup [.lm (.call 22 (.cons (.v 17) (.cons (.c .non) .nil))), .str "table "], .tup [.lm (.call 21 (.cons (.v 5) (.cons (.v 19) .nil))), .str "prices "], .tup [.lm (.call 22 (.cons (.v 5) (.cons (.v 20) .nil))), .str "names "], .tup [.lm (.call 21 (.cons (.v 21) (.cons (.op .Add (.tup (.cons (.neg (.c (.int 1))) .nil)) (.op .Mult (.tup (.cons (.c (.int 0)) .nil)) (.op .Sub (.v 3) (.c (.int 1))))) .nil))), .str "worths "]]) (I16 N x2 x9 x10 x12 x15 m ws ps σ o bd fr) rfl (by decide) ⟨_, _, rfl⟩ fun i d hd δ hi => ?_) fun fl hf => ?_
  · obtain ⟨s, t, rfl⟩ := hi
    match i, hd with
    | 0, hd =>
      cases hd
      refine ⟨_, rfl, okb_of (skip1 ?_) ⟨_, rfl, ⟨_, _, rfl⟩⟩⟩
      exact kcmp (kc1 (kcau rfl (by decide +kernel) (kv2 rfl rfl (run21x 17 o .non ho)) (caught_exc (by decide +kernel))) kd_t) rfl ne_t
    | 1, hd =>
      cases hd
      refine ⟨_, rfl, okb_of (skip1 ?_) ⟨_, rfl, ⟨_, _, rfl⟩⟩⟩
      exact kcmp (kc1 (kcau rfl (by decide +kernel) (kv2 rfl rfl (run22x 17 o .non ho)) (caught_exc (by decide +kernel))) kd_t) rfl ne_t
    | 2, hd =>
      cases hd
      refine ⟨_, rfl, okb_of (skip1 ?_) ⟨_, rfl, ⟨_, _, rfl⟩⟩⟩
      exact kcmp (kc1 (kcau rfl (by decide +kernel) (kv2 rfl rfl (run21p g.h1 g.h6 hb)) (caught_exc (by decide +kernel))) kd_p) rfl ne_p
    | 3, hd =>
      cases hd
      refine ⟨_, rfl, okb_of (skip1 ?_) ⟨_, rfl, ⟨_, _, rfl⟩⟩⟩
      exact kcmp (kc1 (kcau rfl (by decide +kernel) (kv2 rfl rfl (run22f g.h1 g.h6 hf)) (caught_exc (by decide +kernel))) kd_n) rfl ne_n
    | 4, hd =>
      cases hd
      refine ⟨_, rfl, okb_of (skip1 ?_) ⟨_, rfl, ⟨_, _, rfl⟩⟩⟩
      exact kcmp (kc1 (kcau rfl (by decide +kernel) (kv2 rfl (ed_ev KV g.h1 g.h6 rfl) (run21e g)) (caught_exc (by decide +kernel))) kd_w) rfl ne_w
    | i + 5, hd => cases hd
  · obtain ⟨δ2, rfl, s, t, rfl⟩ := hf
    exact ⟨s, t, rfl⟩
end
def Inv (N : Nat) (δ : Dp.Env) : Prop := ∃ x2 x3 x4 x5 x6 x7 x8 x9 x10 x11 x12 x13 x14 x15 x16 x17 x18 x19 x20 x21 x22 : Dp.Slot, δ = [.v (.scr N), .v .st, x2, x3, x4, x5, x6, x7, x8, x9, x10, x11, x12, x13, x14, x15, x16, x17, x18, x19, x20, x21, x22]
theorem turn (N : Nat) {δ : Dp.Env} (hi : Inv N δ) : Okb (exl KL body δ) (fun fl => ∃ δ', fl = .nx δ' ∧ Inv N δ') := by
  obtain ⟨x2, x3, x4, x5, x6, x7, x8, x9, x10, x11, x12, x13, x14, x15, x16, x17, x18, x19, x20, x21, x22, rfl⟩ := hi
  rw [body_eq]
  refine okl_by (t0 _ _ _ _ _ _ _ _ _ _ _ _ _ _ _ _ _ _ _ _ _ _) fun fl hf => ?_
  obtain ⟨m, ws, ⟨g, hsm⟩, rfl⟩ := hf
  refine ⟨_, rfl, ?_⟩
  refine okl_step (t1 _ _ _ _ _ _ _ _ _ _ _ _ _ _ _ _ _ _ _ _ g) ?_
  refine okl_by (t2 _ _ _ _ _ _ _ _ _ _ _ _ _ _ _ _ _ _ g.h6) fun fl hf => ?_
  obtain ⟨ps, ⟨hl, hle⟩, rfl⟩ := hf
  refine ⟨_, rfl, ?_⟩
  have g2 := good_priced g hsm hle
  have q := psOf hl hle
  refine okl_step (t3 _ _ _ _ _ _ _ _ _ _ _ _ _ _ _ _ _ hl g) ?_
  refine okl_step (t4 _ _ _ _ _ _ _ _ _ _ _ _ _ _ _ _ g g2 q) ?_
  refine okl_step (t5 _ _ _ _ _ _ _ _ _ _ _ _ _ _ _ g g2 q) ?_
  refine okl_step (t6 _ _ _ _ _ _ _ _ _ _ _ _ _ _ _ g g2 hl hle) ?_
  refine okl_step (t7 _ _ _ _ _ _ _ _ _ _ _ _ _ _ _ g g2 hl hle) ?_
  refine okl_by (t8 _ _ _ _ _ _ _ _ _ _ _ _ _ _ _ g.h1 g.h6) fun fl hf => ?_
  obtain ⟨σ, hn, rfl⟩ := hf
  refine ⟨_, rfl, ?_⟩
  refine okl_step (t9 _ _ _ _ _ _ _ _ _ _ _ _ _ _ hn) ?_
  refine okl_step (t10 _ _ _ _ _ _ _ _ _ _ _ _ _ g hn) ?_
  refine okl_step (t11 _ _ _ _ _ _ _ _ _ _ _ _ g hn) ?_
  refine okl_by (t12 _ _ _ _ _ _ _ _ _ _ _ _ g.h6) fun fl hf => ?_
  obtain ⟨o, ho, rfl⟩ := hf
  refine ⟨_, rfl, ?_⟩
  refine okl_by (t13 _ _ _ _ _ _ _ _ _ _ g.h1 g.h6) fun fl hf => ?_
  obtain ⟨bd, hb, rfl⟩ := hf
  refine ⟨_, rfl, ?_⟩
  refine okl_by (t14 _ _ _ _ _ _ _ _ _ g.h1 g.h6) fun fl hf => ?_
  obtain ⟨fr, hfr, rfl⟩ := hf
  refine ⟨_, rfl, ?_⟩
  refine okl_step (t15 _ _ _ _ _ _ _ _ g) ?_
  refine okl_by (t16 _ _ _ _ _ _ _ g ho hb hfr) fun fl hf => ?_
  obtain ⟨s, t, rfl⟩ := hf
  exact ⟨_, rfl, okl_nil ⟨_, rfl, ⟨_, _, _, _, _, _, _, _, _, _, _, _, _, _, _, _, _, _, _, _, _, rfl⟩⟩⟩
def kk : Nat := 20
def rsrc : Src := match hd bL with
  | .for _ s _ => s
  | _ => .stc 0
def endL : SL := tl bL
theorem bL_eq : bL = .cons (.for (.n 2) rsrc body) endL := rfl
theorem end_eq (N : Nat) (x2 x3 x4 x5 x6 x7 x8 x9 x10 x11 x12 x13 x14 x15 x16 x17 x18 x19 x20 x21 x22 : Dp.Slot) : exl KL endL [.v (.scr N), .v .st, x2, x3, x4, x5, x6, x7, x8, x9, x10, x11, x12, x13, x14, x15, x16, x17, x18, x19, x20, x21, x22] = .ret (.ret (.bl true)) := by kernel_rfl
def smallRet : T (List D) → Bool
  | .ret l => Nat.ble l.length 20
  | _ => false
theorem rsrc_ok : allN 64 (fun n => smallRet (evsrc KL rsrc (entry 23 [.scr n, .st]))) = true := by kernel_rfl
theorem plain0 (n : Nat) (hn : n ≤ 63) : Okb (exl KL bL (entry 23 [.scr n, .st])) (fun fl => fl = .ret (.bl true)) := by
  have hr := allN_ok rsrc_ok n (by omega)
  have hr : smallRet (evsrc KL rsrc (entry 23 [.scr n, .st])) = true := hr
  rw [bL_eq]
  cases hs : evsrc KL rsrc (entry 23 [.scr n, .st]) with
  | ret l =>
    rw [hs] at hr
    have hl : l.length ≤ lim := Nat.le_trans (Nat.le_of_ble_eq_true hr) (by decide)
    refine okl_by (okb_for (fun _ δ => Inv n δ) hs hl ⟨_, _, _, _, _, _, _, _, _, _, _, _, _, _, _, _, _, _, _, _, _, rfl⟩ fun i d hd δ hi => ?_) fun fl hf => ?_
    · obtain ⟨x2, x3, x4, x5, x6, x7, x8, x9, x10, x11, x12, x13, x14, x15, x16, x17, x18, x19, x20, x21, x22, rfl⟩ := hi
      exact ⟨_, rfl, turn n ⟨_, _, _, _, _, _, _, _, _, _, _, _, _, _, _, _, _, _, _, _, _, rfl⟩⟩
    · obtain ⟨δ2, rfl, hi⟩ := hf
      obtain ⟨x2, x3, x4, x5, x6, x7, x8, x9, x10, x11, x12, x13, x14, x15, x16, x17, x18, x19, x20, x21, x22, rfl⟩ := hi
      exact ⟨_, rfl, okb_of (end_eq _ _ _ _ _ _ _ _ _ _ _ _ _ _ _ _ _ _ _ _ _ _) rfl⟩
  | exc _ _ => rw [hs] at hr; cases hr
  | bad => rw [hs] at hr; cases hr
  | draw _ _ => rw [hs] at hr; cases hr
  | any _ => rw [hs] at hr; cases hr
theorem plain : ∀ n, n ≤ 63 → T.ok (exl (ccL m kk) L.tm (entry L.N.length [.scr n, .st])) (fun fl => fl = .ret (.bl true)) (fun _ _ => False) := fun n hn => (plain0 n hn).ok
end Lw
end

section
set_option Elab.async false
set_option linter.all false
set_option maxRecDepth 100000
set_option maxHeartbeats 0
namespace Lw
open PySem PySem.Spec PyProof.Rows L2 Dp
abbrev R : PySem.W.OpenRow := PySem.W.OpenLaw.row PySem.Challenge.rw_swapheld_k04_whole_priced_and_renamed
abbrev hk : PySem.W.Hook := He.hookX 5 (faAll m nm L) (fnAll m nm L t) [] (tfOf L) (exB m nm)
def ob (s : PySem.W.SharedT) : He.AlX := He.obsX 5 (faAll m nm L) (fnAll m nm L t) [] (tfOf L) (exB m nm) (HandSHeadRun.getT s)
theorem ob_eq (s : PySem.W.SharedT) : ob s = hk.obs s.abs := He.obsX_eq (HandSHeadRun.getT_eq s)
def loose : List Str := [("is_whole" : PySem.Str), ("is_number" : PySem.Str), ("SwapError" : PySem.Str), ("BadLot" : PySem.Str), ("BadMany" : PySem.Str), ("BadNames" : PySem.Str), ("BadPrices" : PySem.Str), ("BadTable" : PySem.Str), ("BadWorths" : PySem.Str), ("MOST_DIGITS" : PySem.Str), ("is_int" : PySem.Str), ("common" : PySem.Str), ("is_fraction" : PySem.Str), ("lowest" : PySem.Str), ("summed" : PySem.Str), ("lessened" : PySem.Str), ("below" : PySem.Str), ("total" : PySem.Str), ("MOST_THINGS" : PySem.Str), ("need_many" : PySem.Str), ("number_at" : PySem.Str), ("lot_by" : PySem.Str), ("MOST_WORTH" : PySem.Str), ("are_worths" : PySem.Str), ("Table" : PySem.Str), ("need_table" : PySem.Str), ("are_prices" : PySem.Str), ("need_prices" : PySem.Str), ("gain_at" : PySem.Str), ("best_gain" : PySem.Str), ("best_lots" : PySem.Str), ("are_whole_prices" : PySem.Str), ("priced" : PySem.Str), ("renamed" : PySem.Str), ("_law_begun" : PySem.Str), ("_law_blended" : PySem.Str), ("_law_draw" : PySem.Str), ("_law_pick" : PySem.Str), ("_law_mixed" : PySem.Str), ("_law_caught" : PySem.Str), ("_law_tb_number" : PySem.Str), ("_law_tb_lots" : PySem.Str), ("_law_tb_prices" : PySem.Str), ("_law_tb_dear" : PySem.Str), ("_law_tb_any" : PySem.Str), ("_law_tb_rising" : PySem.Str), ("_law_tb_cover" : PySem.Str), ("_law_tb_cut" : PySem.Str), ("_law_tb_holes" : PySem.Str), ("_law_tb_table" : PySem.Str), ("_law_tb_made" : PySem.Str), ("_law_tb_named" : PySem.Str), ("_law_tb_no_table" : PySem.Str), ("_law_tk_kind" : PySem.Str)]
theorem run (w : World) : HandSHeadRun.RunEq R (PySem.W.view R.prog [60]) hk ob 6000 loose w := by
  intro os
  kernel_rfl
end Lw
open PySem PySem.W PySem.Calls PyProof.Rows
theorem PySem.Challenge.cw_swapheld_k04_whole_priced_and_renamed_holds : PySem.Challenge.rw_swapheld_k04_whole_priced_and_renamed.Holds := by
  w_on; o_law
  refine HandSHeadRun.head_any (r := OpenLaw.row PySem.Challenge.rw_swapheld_k04_whole_priced_and_renamed) (q := view (OpenLaw.row PySem.Challenge.rw_swapheld_k04_whole_priced_and_renamed).prog [60]) (H := Lw.hk) (ob := Lw.ob) (M := 6000) (loose := Lw.loose) (d := HandSHeadRun.topDef (OpenLaw.row PySem.Challenge.rw_swapheld_k04_whole_priced_and_renamed).prog 60) (kwd := []) Lw.ob_eq
    (by kernel_rfl) (fun s => by kernel_rfl) Lw.run (by kernel_rfl) (by kernel_rfl) (by kernel_rfl) (by rfl) (by first | assumption | decide +kernel) (by decide +kernel) ⟨rfl, rfl, rfl, rfl, rfl, by decide +kernel⟩ ?hw ?hc
  case hw => w_witness2
  case hc =>
    refine Dp.law_walk (l := PySem.Challenge.rw_swapheld_k04_whole_priced_and_renamed) (k := Lw.kk + 3) rfl (by kernel_rfl) ⟨rfl, by decide, by decide⟩ ?F
    intro w mg fa h Y G hmg0
    obtain ⟨K, KX, c⟩ := Y
    have hmg : mg ("law" : PySem.Str) = some (.ref fa) := by
      have e : (HandSHeadRun.topDef (OpenLaw.row PySem.Challenge.rw_swapheld_k04_whole_priced_and_renamed).prog 60).name = ("law" : PySem.Str) := by kernel_rfl
      rw [← e]
      exact hmg0
    exact ⟨K, KX, Dp.law_at Lw.mo Lw.lok Lw.drk Lw.trk (by decide) Lw.plain KX G hmg c⟩
end
