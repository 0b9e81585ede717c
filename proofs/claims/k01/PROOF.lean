import PyProof.Rows.All
import Wide.All
import OpenK.AllK
import Wide.FinOn
import KE.GoesMore
import PyProof.EnumMake
import PyProof.Draws
import HandS.Iter
import HandS.Zip
import KE.GoesZip
import KE.KRevSl
import HandS.List
import HandS.Style
import HandS.TupAny
import HandS.ForMost
import HandS.TupMul
import HandS.Conv
import HandS.IsInst
import HandS.Deep
import HandS.CallLocal
import HandS.Flow
import HandS.SortInts
import HandS.More
import HandS.HeadEnd
import HandS.Defaults
import HandS.Head0
import HandS.Head1
import HandS.Head2
import HandS.HeadHook1
import HandS.HeadHook2
import HandS.HeadHook3
import HandS.HeadHook4
import KE.KStateDown
import PySem.Challenge.RW_armreaches_k01_links_and_frames_recogniz
set_option Elab.async false
set_option linter.all false
set_option maxRecDepth 100000
set_option maxHeartbeats 0
set_option autoImplicit false
/-! MPV: enumerate over a tuple. -/
namespace MP
open PySem PySem.Spec PyProof.Rows L2
open Sem (wp)
open AutoSeq1 (wpAny_loadPart')
theorem meets_enumT (l : Addr) (items : Array Value) (n : Nat) (dct : Option Addr) (sl : Array (Option Value)) :
    Meets (Builtin.«enumerate.__new__» ⟨[.type "enumerate", .ref l], []⟩) (fun _ R s => s.heap.get? l = some { cls := .type "tuple", dict := dct, data := .seq items n, slots := sl } ∧
      R (.ok (.ret (.ref (s.heap.push { cls := .type "tuple_iterator", data := .fields #[.ref l, .int 0 0] }).objs.size)))
        { s with heap := (s.heap.push { cls := .type "tuple_iterator", data := .fields #[.ref l, .int 0 0] }).push { cls := .type "enumerate", data := .fields #[.none, .bool false, .ref s.heap.objs.size, rawInt 0, .none, .none] } }) :=
  .of_wp fun prog w A R s h => by
    obtain ⟨hp, g, d, tk, os⟩ := s; obtain ⟨hl, h⟩ := h
    have hsub := sub_enumerate
    have hL : Heap.IsTuple (Shared.heap ⟨hp, g, d, tk, os⟩) l items := ⟨_, hl, rfl, n, rfl⟩
    wp_walk using wpAny_loadPart' hl
    refine wpAny_stack_any fun st => wpAny_pure ?_
    split
    · rename_i c _ _ _ _ _
      cases (c == Value.type "enumerate")
      · wp_walk using wpAny_loadPart' hl, wpAny_pyIter_tuple hL
        exact ⟨_, rfl, h⟩
      · wp_walk using wpAny_loadPart' hl, wpAny_pyIter_tuple hL
        exact ⟨_, rfl, h⟩
    · wp_walk using wpAny_loadPart' hl, wpAny_pyIter_tuple hL
      exact ⟨_, rfl, h⟩
theorem call_enumT {prog : Program} {w : World} {A : Around} {E : Value → Shared → Prop} {s : Shared} {l : Addr} {items : Array Value} {Q : Value → Shared → Prop} (hL : s.heap.IsTuple l items)
    (h : ∀ h', IsEnum h' (s.heap.objs.size + 1) s.heap.objs.size 0 .none → h'.IsTupleIter s.heap.objs.size l 0 → h'.objs.size = s.heap.objs.size + 2 →
      (∀ b o, s.heap.get? b = some o → h'.get? b = some o) → Q (.ref (s.heap.objs.size + 1)) { s with heap := h' }) :
    wpAny (model prog w) A (call (.type "enumerate") [.ref l]) Q E s := by
  obtain ⟨⟨c, dct, dt, sl⟩, hl, hc, n, hd⟩ := hL
  replace hc : c = .type "tuple" := hc
  replace hd : dt = .seq items n := hd
  subst hc hd
  refine callType_new F.called_enumerate (by decide) (F.typeCall_enumerate_1 _) (F.newCall_enumerate_1 _) (fun obj => F.args_object_init_2 obj _) F.entry_enumerate_new
    (meets_enumT l items n dct sl) ⟨hl, ?_⟩
  have hz : (s.heap.push { cls := .type "tuple_iterator", data := .fields #[.ref l, .int 0 0] }).objs.size = s.heap.objs.size + 1 := Heap.size_push ..
  show _ ∧ _
  rw [hz]
  have he : IsEnum ((s.heap.push { cls := .type "tuple_iterator", data := .fields #[.ref l, .int 0 0] }).push
      { cls := .type "enumerate", data := .fields #[.none, .bool false, .ref s.heap.objs.size, rawInt 0, .none, .none] }) (s.heap.objs.size + 1) s.heap.objs.size 0 .none := by
    have := Heap.get?_push_size (s.heap.push { cls := .type "tuple_iterator", data := .fields #[.ref l, .int 0 0] })
      (o := { cls := .type "enumerate", data := .fields #[.none, .bool false, .ref s.heap.objs.size, rawInt 0, .none, .none] }) rfl
    rw [hz] at this; exact this
  refine ⟨⟨_, he, rfl⟩, h _ he ⟨_, Heap.get?_push_of_some _ (Heap.get?_push_size _ rfl), rfl, rfl⟩ (by rw [Heap.size_push, hz]) fun b o x => Heap.get?_push_of_some _ (Heap.get?_push_of_some _ x)⟩
/-- the tuple's iterator at its end -/
theorem draws_end {prog : Program} {w : World} {A : Around} (hh : A.handled = none) {it t : Addr} {i : Nat} {items : Array Value} (hx : items[i]? = none) :
    Draws prog w A it [it, t] 0 (fun _ _ => False) (fun _ h => h.IsTupleIter it t i ∧ h.IsTuple t items) where
  live := fun _ _ st => let ⟨o, ho, _⟩ := st.1; ⟨o, ho⟩
  frame := fun _ _ _ st hk => ⟨st.1.at fun o e => hk it (by simp) o e, st.2.at fun o e => hk t (by simp) o e⟩
  item := fun i s Q E hi st hQ => by omega
  done := fun s Q E st hE => wpAny_nextOf_tuple_end hh st.1 st.2 hx hE
def IteT (K : PySem.W.Frag) (a : Addr) : It :=
  ⟨fun i H => ∃ (xs : List V) (x : V), SqT K H a xs ∧ xs[i]? = some x, fun i H v H' => ∃ T x, v = .ref T ∧ H T = none ∧ H' = upd H T (.tup [.int (i : Nat), x]) ∧ ∀ xs, SqT K H a xs → xs[i]? = some x, fun i H => ∃ xs : List V, SqT K H a xs ∧ xs.length ≤ i⟩
theorem turn_enumT {P : Program} {w : World} {K : PySem.W.Frag} {elts : List Expr} {kk : Nat} {tpos : Pos} (a e it : Addr) :
    Turn P w K (.Tuple elts kk tpos) (IteT K a) [e, it] e (fun i h => (∃ old, IsEnum h e it ((i : Nat) : Int) old) ∧ h.IsTupleIter it a i ∧ e ≠ it ∧ e ≠ a ∧ a ≠ it) where
  mem := by simp
  obj := fun i h st b hb => by
    obtain ⟨⟨old, he⟩, ⟨o, ho, hc, hd⟩, _⟩ := st
    have e' : b = e ∨ b = it := by simpa using hb
    rcases e' with z | z
    · rw [z]; exact ⟨_, he, fun v q => nomatch q⟩
    · rw [z]; exact ⟨o, ho, fun v q => by rw [hd] at q; cases q⟩
  keep := fun i h h' st k => let ⟨⟨old, he⟩, hi, hne⟩ := st; ⟨⟨old, k e (by simp) _ he⟩, hi.at fun o q => k it (by simp) o q, hne⟩
  item := by
    intro X hP hw hK hc i pins s σ H E I hf st hg
    subst hP hw hK
    obtain ⟨⟨old, he⟩, hit, hne, hea, hai⟩ := st
    obtain ⟨xs, x, hq, hx⟩ := hg
    obtain ⟨its, rv, p, hz⟩ := I.tuple hq
    obtain ⟨u, hu, ru⟩ := rv.get hx
    have hel : e < s.heap.objs.size := Heap.lt_size he
    have hil : it < s.heap.objs.size := by obtain ⟨_, q, _⟩ := hit; exact Heap.lt_size q
    have hlt : i < its.toArray.size := by
      have := (List.getElem?_eq_some_iff.mp hu).1
      simpa using this
    refine wpAny_pyNext_enum_itemD (Draws.tuple (show X.A.in1.handled = none from I.ok.hd hc) it a hai its.toArray) he ⟨hit, p⟩ hlt hne (by simp [hne, hea]) fun x' h' tk hP' ho hit' hT hsz hk => ?_
    have ex : x' = u := by
      have h1 : its.toArray[i]? = some x' := hP'
      rw [List.getElem?_toArray, hu] at h1
      exact (Option.some.inj h1).symm
    subst ex
    refine ⟨_, rfl, wpAny_letOwnedTupleGo_enum (s := { s with heap := h', toks := tk + 1 }) ho fun h'' he' sb => ?_⟩
    have hT2 : h''.get? s.heap.objs.size = some { cls := .type "tuple", data := .seq #[.int i tk, x'] } := (sb.2 _ (Nat.ne_of_gt hel)).trans hT
    have new : ObjOk X.prog X.w (upd H s.heap.objs.size (.tup [.int (i : Nat), x])) h'' s.heap.objs.size (.tup [.int (i : Nat), x]) :=
      ⟨by show 2 ≤ sizeLine; decide, [.int i tk, x'], .cons ⟨_, rfl⟩ (.cons ru .nil), ⟨_, hT2, rfl, _, rfl⟩⟩
    have I1 : Inv X pins σ (upd H s.heap.objs.size (.tup [.int (i : Nat), x])) { s with heap := h'', toks := tk + 1 } :=
      I.turnedNew (ch := [e, it]) (fun b ob hb q => (sb.2 b (fun z => hb (by simp [z]))).trans (hk b ob (fun z => hb (by simp [z])) (fun z => hb (by simp [z])) q)) hf (Nat.le_refl _) new
    refine ⟨.ref s.heap.objs.size, _, I1, rfl, ⟨_, x, rfl, I.hok.fresh (Nat.le_refl _), rfl, fun ys hy => by rw [I.tuple_inj hy hq]; exact hx⟩, ⟨⟨x', ?_⟩, hit'.1.at fun o q => (sb.2 it (Ne.symm hne)).trans q, hne, hea, hai⟩, fun b hb => ?_⟩
    · have e1 : ((i + 1 : Nat) : Int) = (i : Int) + 1 := by omega
      rw [e1]; exact he'
    · have hb' : b < s.heap.objs.size := by
        have e' : b = e ∨ b = it := by simpa using hb
        rcases e' with z | z
        · rw [z]; exact hel
        · rw [z]; exact hil
      rw [upd_ne (Nat.ne_of_lt hb')]
      exact (hf b hb).1
  done := by
    intro X hP hw hK hc i pins s σ H E I hf st hg
    subst hP hw hK
    obtain ⟨⟨old, he⟩, hit, hne, hea, hai⟩ := st
    obtain ⟨xs, hq, hx⟩ := hg
    obtain ⟨its, rv, p, hz⟩ := I.tuple hq
    obtain ⟨f0, f1, f2, f3, f4, f5⟩ := hf it (by simp)
    have hl := rv.length
    exact wpAny_pyNext_enum_endD (draws_end (show X.A.in1.handled = none from I.ok.hd hc) (items := its.toArray) (i := i) (t := a) (by simp; omega)) he ⟨hit, p⟩ fun h' eb => ⟨rfl, I.turned (t' := s.toks) (fun b o hb q => eb b o hb q) f0 f1 f3 f4 f5⟩
  self := fun A i s Q E st h => let ⟨⟨_, he⟩, _⟩ := st; wpAny_pyIter_enum he h
def iEnumA (K : PySem.W.Frag) (ta : TA) : TI := fun σ H R => ta σ H fun vs H1 => ∃ a xs, vs = [.ref a] ∧ ((SqL K H1 a xs ∧ R (Ite K a) H1) ∨ (SqT K H1 a xs ∧ R (IteT K a) H1))
theorem pi_enumA {X : Cx} {e : Expr} {ta : TA} {p pos tpos : Pos} {elts : List Expr} {kk : Nat} (hg : Gl X "enumerate") (hm : X.mg "enumerate" = none) (ha : PA X [e] ta) (hs : starEach [e] X.env = [(false, eval e X.env)] := by rfl) :
    PI X (.Tuple elts kk tpos) (.Call (.Name "enumerate" p) [e] [] pos) (iEnumA X.K ta) := by
  refine ⟨fun pins s σ H R I h => ?_⟩
  refine Call_ (ld_blt I hg hm boot_enumerate (PyProof.Rows.callWith_type1 (thn (ha.run pos pins s σ H _ I h) fun us s1 ⟨vs, H1, I1, r1, q1⟩ => ?_) hs rfl))
  obtain ⟨a, xs, ex, q1⟩ := q1
  subst ex
  cases r1 with
  | cons r rr =>
    cases rr
    cases r
    rcases q1 with ⟨hq, q⟩ | ⟨hq, q⟩
    · obtain ⟨its, rv, p', hz⟩ := I1.list hq
      refine call_enumerate_list p'.isList fun h' he hit hsz hk => wpAny_pyIter_enum he ?_
      have I2 : Inv X pins σ H1 { s1 with heap := h' } := I1.kept (t' := s1.toks) hk
      refine ⟨s1.heap.objs.size + 1, [s1.heap.objs.size + 1, s1.heap.objs.size], _, _, H1, rfl, I2, turn_enum a (s1.heap.objs.size + 1) s1.heap.objs.size, ⟨⟨.none, he⟩, hit, Nat.succ_ne_self _⟩, fun b hb => ?_, q⟩
      have e' : b = s1.heap.objs.size + 1 ∨ b = s1.heap.objs.size := by simpa using hb
      have hle : s1.heap.objs.size ≤ b := by
        rcases e' with z | z
        · rw [z]; exact Nat.le_add_right _ _
        · rw [z]; exact Nat.le_refl _
      exact I1.fpOk hle (I1.hok.fresh hle)
    · obtain ⟨its, rv, p', hz⟩ := I1.tuple hq
      obtain ⟨oa, hoa, _⟩ := id p'
      have hal : a < s1.heap.objs.size := Heap.lt_size hoa
      refine call_enumT p' fun h' he hit hsz hk => wpAny_pyIter_enum he ?_
      have I2 : Inv X pins σ H1 { s1 with heap := h' } := I1.kept (t' := s1.toks) hk
      refine ⟨s1.heap.objs.size + 1, [s1.heap.objs.size + 1, s1.heap.objs.size], _, _, H1, rfl, I2, turn_enumT a (s1.heap.objs.size + 1) s1.heap.objs.size, ⟨⟨.none, he⟩, hit, Nat.succ_ne_self _, Nat.ne_of_gt (Nat.lt_succ_of_lt hal), Nat.ne_of_lt hal⟩, fun b hb => ?_, q⟩
      have e' : b = s1.heap.objs.size + 1 ∨ b = s1.heap.objs.size := by simpa using hb
      have hle : s1.heap.objs.size ≤ b := by
        rcases e' with z | z
        · rw [z]; exact Nat.le_add_right _ _
        · rw [z]; exact Nat.le_refl _
      exact I1.fpOk hle (I1.hok.fresh hle)
end MP

/-! MPW: zip of a tuple and a list. -/
namespace MP
open PySem PySem.Spec PyProof.Rows L2
def ItzM (K : PySem.W.Frag) (a b : Addr) : It :=
  ⟨fun i H => ∃ (xs ys : List V) (x y : V), SqT K H a xs ∧ SqL K H b ys ∧ xs[i]? = some x ∧ ys[i]? = some y,
    fun i H v H' => ∃ T x y, v = .ref T ∧ H T = none ∧ H' = upd H T (.tup [x, y]) ∧ (∀ xs, SqT K H a xs → xs[i]? = some x) ∧ ∀ ys, SqL K H b ys → ys[i]? = some y,
    fun i H => ∃ xs ys : List V, SqT K H a xs ∧ SqL K H b ys ∧ i = min xs.length ys.length⟩
theorem turn_zipM {P : Program} {w : World} {K : PySem.W.Frag} {elts : List Expr} {kk : Nat} {tpos : Pos} {a b z TI TO i1 i2 : Addr} (D : ZipSep2 z TI TO i1 i2 [i1, a] [i2, b]) (hai : a ≠ i1) (hbi : b ≠ i2) :
    Turn P w K (.Tuple elts kk tpos) (ItzM K a b) [z, TI, TO, i1, i2] z (fun i h => IsZip h z TI TO .none ∧ IsPair h TI (.ref i1) (.ref i2) ∧ (∃ x y, IsPair h TO x y) ∧ h.IsTupleIter i1 a i ∧ h.IsListIter i2 b i) where
  mem := by simp
  obj := fun i h st c hc => by
    obtain ⟨hz, hTI, ⟨x, y, hTO⟩, ⟨o1, e1, _, d1⟩, ⟨o2, e2, _, d2⟩⟩ := st
    have e' : c = z ∨ c = TI ∨ c = TO ∨ c = i1 ∨ c = i2 := by simpa using hc
    rcases e' with q | q | q | q | q
    · rw [q]; exact ⟨_, hz, fun v q => nomatch q⟩
    · rw [q]; exact ⟨_, hTI, fun v q => nomatch q⟩
    · rw [q]; exact ⟨_, hTO, fun v q => nomatch q⟩
    · rw [q]; exact ⟨o1, e1, fun v q => by rw [d1] at q; cases q⟩
    · rw [q]; exact ⟨o2, e2, fun v q => by rw [d2] at q; cases q⟩
  keep := fun i h h' st k => by
    obtain ⟨hz, hTI, ⟨x, y, hTO⟩, h1, h2⟩ := st
    exact ⟨k z (by simp) _ hz, k TI (by simp) _ hTI, ⟨x, y, k TO (by simp) _ hTO⟩, h1.at fun o q => k i1 (by simp) o q, h2.at fun o q => k i2 (by simp) o q⟩
  item := by
    intro X hP hw hK hc i pins s σ H E I hf st hg
    subst hP hw hK
    obtain ⟨hz, hTI, ⟨x0, y0, hTO⟩, h1, h2⟩ := st
    obtain ⟨xs, ys, x, y, hqx, hqy, hx, hy⟩ := hg
    obtain ⟨its, rv, p, _⟩ := I.tuple hqx
    obtain ⟨its2, rv2, p2, _⟩ := I.list hqy
    obtain ⟨u, hu, ru⟩ := rv.get hx
    obtain ⟨u2, hu2, ru2⟩ := rv2.get hy
    have hzl : z < s.heap.objs.size := Heap.lt_size hz
    have lt1 : i < its.toArray.size := by simpa using (List.getElem?_eq_some_iff.mp hu).1
    have lt2 : i < its2.toArray.size := by simpa using (List.getElem?_eq_some_iff.mp hu2).1
    have hh : X.A.in1.handled = none := I.ok.hd hc
    refine wpAny_pyNext_zipD2_item D (Draws.tuple hh i1 a hai its.toArray) (Draws.list hh i2 b hbi its2.toArray) hz hTI hTO ⟨h1, p⟩ ⟨h2, p2.isList⟩ lt1 lt2 fun x1 x2 h' tk q1 q2 z' TO' h1' h2' hT hsz hk => ?_
    have ex1 : x1 = u := by
      have q : its.toArray[i]? = some x1 := q1
      rw [List.getElem?_toArray, hu] at q
      exact (Option.some.inj q).symm
    have ex2 : x2 = u2 := by
      have q : its2.toArray[i]? = some x2 := q2
      rw [List.getElem?_toArray, hu2] at q
      exact (Option.some.inj q).symm
    subst ex1 ex2
    refine ⟨_, rfl, wpAny_letOwnedTupleGo_zip (s := { s with heap := h', toks := tk }) z' fun h'' z'' sb => ?_⟩
    have hT2 : h''.get? s.heap.objs.size = some { cls := .type "tuple", data := .seq #[x1, x2] } := (sb.2 _ (Nat.ne_of_gt hzl)).trans hT
    have new : ObjOk X.prog X.w (upd H s.heap.objs.size (.tup [x, y])) h'' s.heap.objs.size (.tup [x, y]) :=
      ⟨by show 2 ≤ sizeLine; decide, [x1, x2], .cons ru (.cons ru2 .nil), ⟨_, hT2, rfl, _, rfl⟩⟩
    have I1 : Inv X pins σ (upd H s.heap.objs.size (.tup [x, y])) { s with heap := h'', toks := tk } :=
      I.turnedNew (t' := tk) (ch := [z, TI, TO, i1, i2]) (fun c o hb q => (sb.2 c (fun q' => hb (by simp [q']))).trans (hk c o (fun q' => hb (by simp [q'])) (fun q' => hb (by simp [q'])) (fun q' => hb (by simp [q'])) (fun q' => hb (by simp [q'])) q)) hf (Nat.le_refl _) new
    refine ⟨.ref s.heap.objs.size, _, I1, rfl, ⟨_, x, y, rfl, I.hok.fresh (Nat.le_refl _), rfl, fun l hl => by rw [I.tuple_inj hl hqx]; exact hx, fun l hl => by rw [I.list_inj hl hqy]; exact hy⟩, ⟨z'', ?_, ⟨x1, x2, ?_⟩, ?_, ?_⟩, fun c hcm => ?_⟩
    · exact (sb.2 _ D.TIz).trans (hk _ _ D.TIz D.TITO D.TIi1 D.TIi2 hTI)
    · exact (sb.2 _ D.TOz).trans TO'
    · exact h1'.1.at fun o q => (sb.2 _ (Ne.symm D.zi1)).trans q
    · exact h2'.1.at fun o q => (sb.2 _ (Ne.symm D.zi2)).trans q
    · have hlt : c < s.heap.objs.size := by
        have e' : c = z ∨ c = TI ∨ c = TO ∨ c = i1 ∨ c = i2 := by simpa using hcm
        rcases e' with q | q | q | q | q
        · rw [q]; exact hzl
        · rw [q]; exact Heap.lt_size hTI
        · rw [q]; exact Heap.lt_size hTO
        · rw [q]; obtain ⟨_, e1, _⟩ := h1; exact Heap.lt_size e1
        · rw [q]; obtain ⟨_, e2, _⟩ := h2; exact Heap.lt_size e2
      rw [upd_ne (Nat.ne_of_lt hlt)]
      exact (hf c hcm).1
  done := by
    intro X hP hw hK hc i pins s σ H E I hf st hg
    subst hP hw hK
    obtain ⟨hz, hTI, ⟨x0, y0, hTO⟩, h1, h2⟩ := st
    obtain ⟨xs, ys, hqx, hqy, hend⟩ := hg
    obtain ⟨its, rv, p, _⟩ := I.tuple hqx
    obtain ⟨its2, rv2, p2, _⟩ := I.list hqy
    have l1 := rv.length
    have l2 := rv2.length
    have hh : X.A.in1.handled = none := I.ok.hd hc
    exact wpAny_pyNext_zipD2_end D (Draws.tuple hh i1 a hai its.toArray) (Draws.list hh i2 b hbi its2.toArray) hz hTI hTO ⟨h1, p⟩ ⟨h2, p2.isList⟩ (by simp; omega) (by simp; omega) (by simp; omega) fun h' tk hk => ⟨rfl, I.turnedL (t' := tk) (ch := [z, TI, TO, i1, i2]) (fun c o hb q =>
      hk c o (fun q' => hb (by simp [q'])) (fun q' => hb (by simp [q'])) (fun q' => hb (by simp [q'])) (fun q' => hb (by simp [q'])) q) hf⟩
  self := fun A i s Q E st h => wpAny_pyIter_zip st.1 h
theorem sep_of {n a b : Addr} (ha : a < n) (hb : b < n) : ZipSep2 (n + 4) (n + 2) (n + 3) n (n + 1) [n, a] [n + 1, b] := by
  have e : ∀ k, (a : Nat) ≠ n + k := fun k z => Nat.lt_irrefl _ (Nat.lt_of_lt_of_le (z ▸ ha : n + k < n) (Nat.le_add_right _ _))
  have f : ∀ k, (b : Nat) ≠ n + k := fun k z => Nat.lt_irrefl _ (Nat.lt_of_lt_of_le (z ▸ hb : n + k < n) (Nat.le_add_right _ _))
  have ad : ∀ {i j : Nat}, i ≠ j → (n : Nat) + i ≠ n + j := fun h z => h (Nat.add_left_cancel z)
  have a0 : ∀ {i : Nat}, i ≠ 0 → (n : Nat) + i ≠ n := fun h z => h (Nat.add_left_cancel (z.trans (Nat.add_zero n).symm))
  refine ⟨ad (by decide), ad (by decide), ad (by decide), a0 (by decide), by simp, ?_, ?_, ad (by decide), by simp, ?_, ?_, ?_, ?_⟩
  all_goals (rw [List.mem_cons, List.mem_singleton]; rintro (z | z))
  all_goals first
    | exact a0 (by decide) z
    | exact ad (by decide) z
    | exact e _ z.symm
    | exact f _ z.symm
    | exact a0 (i := 1) (by decide) z.symm
    | exact e 0 z.symm
    | exact f 0 z.symm
    | exact e 1 z.symm
def iZipM (K : PySem.W.Frag) (ta : TA) : TI := fun σ H R => ta σ H fun vs H1 => ∃ a b xs ys, vs = [.ref a, .ref b] ∧ ((SqL K H1 a xs ∧ SqL K H1 b ys ∧ R (Itz K a b) H1) ∨ (SqT K H1 a xs ∧ SqT K H1 b ys ∧ R (RZ.ItzT K a b) H1) ∨ (SqT K H1 a xs ∧ SqL K H1 b ys ∧ R (ItzM K a b) H1))
theorem pi_zipM {X : Cx} {e e2 : Expr} {ta : TA} {p pos tpos : Pos} {elts : List Expr} {kk : Nat} (hg : Gl X "zip") (hm : X.mg "zip" = none) (ha : PA X [e, e2] ta)
    (hs : starEach [e, e2] X.env = (false, eval e X.env) :: starEach [e2] X.env := by rfl) (hpl : (backTo pos (starEach [e2] X.env)).any (·.1) = false := by rfl) :
    PI X (.Tuple elts kk tpos) (.Call (.Name "zip" p) [e, e2] [] pos) (iZipM X.K ta) := by
  refine ⟨fun pins s σ H R I h => ?_⟩
  refine Call_ (ld_blt I hg hm PyProof.Rows.boot_zip (PyProof.Rows.callWith_type1 (thn (ha.run pos pins s σ H _ I h) fun us s1 ⟨vs, H1, I1, r1, q1⟩ => ?_) hs hpl))
  obtain ⟨a, b, xs, ys, ex, q1⟩ := q1
  subst ex
  cases r1 with
  | cons r rr =>
    cases rr with
    | cons r' rr =>
      cases rr
      cases r
      cases r'
      have fresh5 : ∀ c, c ∈ [s1.heap.objs.size + 4, s1.heap.objs.size + 2, s1.heap.objs.size + 3, s1.heap.objs.size, s1.heap.objs.size + 1] → FpOk X pins H1 c := fun c hcm => by
        have e' : c = s1.heap.objs.size + 4 ∨ c = s1.heap.objs.size + 2 ∨ c = s1.heap.objs.size + 3 ∨ c = s1.heap.objs.size ∨ c = s1.heap.objs.size + 1 := by simpa using hcm
        have hle : s1.heap.objs.size ≤ c := by
          rcases e' with z | z | z | z | z
          · rw [z]; exact Nat.le_add_right _ _
          · rw [z]; exact Nat.le_add_right _ _
          · rw [z]; exact Nat.le_add_right _ _
          · rw [z]; exact Nat.le_refl _
          · rw [z]; exact Nat.le_add_right _ _
        exact I1.fpOk hle (I1.hok.fresh hle)
      rcases q1 with ⟨hqx, hqy, q⟩ | ⟨hqx, hqy, q⟩ | ⟨hqx, hqy, q⟩
      · obtain ⟨its, rv, p1, _⟩ := I1.list hqx
        obtain ⟨its2, rv2, p2, _⟩ := I1.list hqy
        refine call_zip_2 p1.isList p2.isList fun h' hz hTI hTO h1 h2 hsz hk => wpAny_pyIter_zip hz ?_
        have I2 : Inv X pins σ H1 { s1 with heap := h' } := I1.kept (t' := s1.toks) hk
        exact ⟨s1.heap.objs.size + 4, [s1.heap.objs.size + 4, s1.heap.objs.size + 2, s1.heap.objs.size + 3, s1.heap.objs.size, s1.heap.objs.size + 1], _, _, H1, rfl, I2, turn_zip (PySem.W.ktu_apart s1.heap.objs.size a b p1.lt p2.lt), ⟨hz, hTI, ⟨_, _, hTO⟩, h1, h2⟩, fresh5, q⟩
      · obtain ⟨its, rv, p1, _⟩ := I1.tuple hqx
        obtain ⟨its2, rv2, p2, _⟩ := I1.tuple hqy
        obtain ⟨o1, ho1, _⟩ := id p1
        obtain ⟨o2, ho2, _⟩ := id p2
        refine RZ.call_zipT (show s1.heap.IsTuple a its.toArray from p1) (show s1.heap.IsTuple b its2.toArray from p2) fun h' hz hTI hTO h1 h2 hsz hk => wpAny_pyIter_zip hz ?_
        have I2 : Inv X pins σ H1 { s1 with heap := h' } := I1.kept (t' := s1.toks) hk
        exact ⟨s1.heap.objs.size + 4, [s1.heap.objs.size + 4, s1.heap.objs.size + 2, s1.heap.objs.size + 3, s1.heap.objs.size, s1.heap.objs.size + 1], _, _, H1, rfl, I2, RZ.turn_zipT (PySem.W.ktu_apart s1.heap.objs.size a b (Heap.lt_size ho1) (Heap.lt_size ho2)), ⟨hz, hTI, ⟨_, _, hTO⟩, h1, h2⟩, fresh5, q⟩
      · obtain ⟨its, rv, p1, _⟩ := I1.tuple hqx
        obtain ⟨its2, rv2, p2, _⟩ := I1.list hqy
        obtain ⟨o1, ho1, _⟩ := id p1
        have la : a < s1.heap.objs.size := Heap.lt_size ho1
        have lb : b < s1.heap.objs.size := p2.lt
        refine zip_begins2 (begins_tuple a its.toArray) (begins_list b its2.toArray) p1 p2.isList fun h' hz hTI hTO g1 g2 hsz hk => wpAny_pyIter_zip hz ?_
        have I2 : Inv X pins σ H1 { s1 with heap := h' } := I1.kept (t' := s1.toks) hk
        exact ⟨s1.heap.objs.size + 4, [s1.heap.objs.size + 4, s1.heap.objs.size + 2, s1.heap.objs.size + 3, s1.heap.objs.size, s1.heap.objs.size + 1], _, _, H1, rfl, I2, turn_zipM (sep_of la lb) (Nat.ne_of_lt la) (Nat.ne_of_lt (Nat.lt_succ_of_lt lb)), ⟨hz, hTI, ⟨_, _, hTO⟩, ⟨_, g1, rfl, rfl⟩, ⟨_, g2, rfl, rfl⟩⟩, fresh5, q⟩
end MP

/-! MPT: the other way round, x[::-1]. -/
namespace MP
open PySem PySem.Spec PyProof.Rows L2
theorem pick_rev (xs : Array Value) : ((List.range xs.size).filterMap fun (m : Nat) => xs[(((xs.size : Int) - 1) + (m : Int) * (-1)).toNat]?).toArray = xs.toList.reverse.toArray := by
  have e : ((List.range xs.size).filterMap fun (m : Nat) => xs[(((xs.size : Int) - 1) + (m : Int) * (-1)).toNat]?) = ((List.range xs.size).map (fun k => xs.size - 1 - k)).filterMap (xs[·]?) := by
    rw [List.filterMap_map]
    congr 1
    funext m
    simp only [Function.comp]
    congr 1
    omega
  rw [e, PySem.W.krv_range, List.filterMap_reverse, PySem.W.krv_all]
section
variable {prog : Program} {w : World} {A : Around} {E : Value → Shared → Prop} {s : Shared}
theorem applied_rev {sl : Addr} {vl vu vs : Value} {n : Nat} {Q : Int × Int × Nat → Shared → Prop} (hs : s.heap.IsSliceOf sl vl vu vs) (pl : IsPart vl none) (pu : IsPart vu none) (ps : IsPart vs (some (-1)))
    (h : Q ((n : Int) - 1, -1, n) s) : wpAny (model prog w) A (Builtin.Slice.sliceApplied (.ref sl) (pure (n : Int))) Q E s := by
  obtain ⟨os, hos, hcs, hds⟩ := id hs
  unfold Builtin.Slice.sliceApplied Builtin.Slice.sliceFields
  refine wpAny_bind (wpAny_bind (wpAny_field hos hds (x := vl) rfl (wpAny_bind (wpAny_field hos hds (x := vu) rfl (wpAny_bind (wpAny_field hos hds (x := vs) rfl (wpAny_pure ?_)))))))
  refine wpAny_bind (HT.slicePart_ ps ?_)
  show wpAny _ _ (if ((-1 : Int) == 0) = true then _ else _) _ _ s
  rw [if_neg (by decide)]
  refine wpAny_bind (HT.slicePart_ pl (wpAny_bind (HT.slicePart_ pu (wpAny_bind (wpAny_pure ?_)))))
  have e1 : Builtin.Slice.sliceAdjust none none (-1) (n : Int) = ((n : Int) - 1, -1) := rfl
  have e2 : Builtin.Slice.slicePlaces ((n : Int) - 1) (-1) (-1) = n := by
    unfold Builtin.Slice.slicePlaces
    have h1 : ¬ ((-1 : Int) > 0) := by omega
    simp only [h1, if_false]
    split
    · have : (-(-1 : Int)) = 1 := rfl
      simp only [this, Int.ediv_one]
      omega
    · omega
  show wpAny _ _ (match Builtin.Slice.sliceAdjust none none (-1) (n : Int) with | (lo, hi) => pure (lo, (-1 : Int), Builtin.Slice.slicePlaces lo hi (-1))) _ _ s
  rw [e1]
  show wpAny _ _ (pure ((n : Int) - 1, (-1 : Int), Builtin.Slice.slicePlaces ((n : Int) - 1) (-1) (-1))) _ _ s
  rw [e2]
  exact wpAny_pure h
theorem getItem_tuple_rev {t sl : Addr} {items : Array Value} {vl vu vs : Value} {Q : Value → Shared → Prop} (ht : IsTup s.heap t items) (hs : s.heap.IsSliceOf sl vl vu vs) (pl : IsPart vl none) (pu : IsPart vu none) (ps : IsPart vs (some (-1)))
    (h : Q (.ref s.heap.objs.size) { s with heap := s.heap.push { cls := .type "tuple", data := .seq items.toList.reverse.toArray } })
    (hsz : items.size ≤ sizeLine) : wpAny (model prog w) A (getItem (.ref t) (.ref sl)) Q E s := by
  have htake : sizeOk (.seq items.toList.reverse.toArray) := by
    show items.toList.reverse.toArray.size ≤ sizeLine
    rw [List.size_toArray, List.length_reverse, Array.length_toList]
    exact hsz
  obtain ⟨os, hos, hcs, hds⟩ := id hs
  have hTs : s.TypeIs (.ref sl) "slice" := ⟨os, hos, hcs⟩
  unfold getItem
  try with_reducible refine wpAny_holding ?_
  first | refine wpAny_bind (wpAny_pure ?_) | skip
  refine wpAny_bind (wpAny_sequenceKey ht.typeIs (by decide) ?_)
  refine wpAny_bind (wpAny_callSpecial?_slot (name := Str.ofString "__getitem__") ht.typeIs PyProof.Rows.slot_tuple_getitem
    (wpAny_call_entry PyProof.Rows.slot_tuple_getitem ht.typeIs PyProof.Rows.entry_tuple_getitem ?_ (PyProof.Rows.args_tuple_getitem _ _)))
  show wpAny _ _ (Builtin.Tuple.tupleItemsOf (.ref t) >>= _) _ _ s
  refine wpAny_bind (tupleItemsOf_ ht ?_)
  refine wpAny_bind (wpAny_typeOf hTs ?_)
  rw [if_pos (by decide)]
  refine wpAny_bind (applied_rev hs pl pu ps ?_)
  have hno : ¬ ((((items.size : Int) - 1) == 0 && (-1 : Int) == 1 && items.size == items.size) = true) := by
    intro q
    rw [Bool.and_eq_true, Bool.and_eq_true] at q
    exact absurd q.1.2 (by decide)
  show wpAny _ _ (if (((items.size : Int) - 1) == 0 && (-1 : Int) == 1 && items.size == items.size) = true then _ else _) _ _ s
  rw [if_neg hno, pick_rev]
  first
    | exact wpAny_bind (m := Builtin.Tuple.tupleExact _) (wpAny_newObj_type (wpAny_pure ⟨_, rfl, wpAny_pure h⟩) htake)
    | exact wpAny_bind (m := Builtin.Tuple.tupleExact _) (wpAny_newObj_type (wpAny_bind (wpAny_pure (wpAny_pure ⟨_, rfl, wpAny_pure h⟩))) htake)
    | exact wpAny_bind (wpAny_bind (m := Builtin.Tuple.tupleExact _) (wpAny_newObj_type (wpAny_pure (wpAny_pure ⟨_, rfl, wpAny_pure h⟩)) htake))
    | exact wpAny_bind (wpAny_bind (m := Builtin.Tuple.tupleExact _) (wpAny_newObj_type (wpAny_pure ⟨_, rfl, wpAny_pure h⟩) htake))
end
def tRevA (K : PySem.W.Frag) (te : TE) : TE := fun σ H Q => te σ H fun x H1 => ∃ a xs, x = .ref a ∧ ((SqL K H1 a xs ∧ ∀ p, H1 p = none → Q (.ref p) (upd H1 p (.lst xs.reverse))) ∨ (SqT K H1 a xs ∧ ∀ p, H1 p = none → Q (.ref p) (upd H1 p (.tup xs.reverse))))
theorem pe_revA {X : Cx} {e : Expr} {te : TE} {k : Nat} {p1 p2 p3 pos : Pos} (he : PE X e te) : PE X (.Subscript e (.Slice none none (some (.UnaryOp .USub (.Constant (.int 1) k p1) p2)) p3) pos) (tRevA X.K te) := by
  refine ⟨fun pins s σ H Q I h => ?_⟩
  refine Subscript_ (thn (he.run pins s σ H _ I h) fun v s1 ⟨x, H1, I1, r1, q1⟩ => ?_)
  obtain ⟨a, xs, ex, q⟩ := q1
  subst ex
  cases r1
  have hst : PO X (some (.UnaryOp .USub (.Constant (.int 1) k p1) p2)) (tPart (tUn (rU fun i => .int (-i)) (tC (.int 1)))) := po_some (pe_un un_neg pe_int)
  refine wpAny_Slice (thn (po_none.run pins s1 σ H1 (fun o H2 => o = none ∧ H2 = H1) I1 ⟨rfl, rfl⟩) fun vl s2 ⟨l, H2, I2, pl, el, e2⟩ => ?_)
  subst el e2
  refine thn (po_none.run pins s2 σ H2 (fun o H3 => o = none ∧ H3 = H2) I2 ⟨rfl, rfl⟩) fun vu s3 ⟨u, H3, I3, pu, eu, e3⟩ => ?_
  subst eu e3
  refine thn (hst.run pins s3 σ H3 (fun o H4 => o = some (-1) ∧ H4 = H3) I3 ⟨1, rfl, -1, rfl, rfl, rfl⟩) fun vs s4 ⟨o, H4, I4, ps, eo, e4⟩ => ?_
  subst eo e4
  have I5 : Inv X pins σ H4 { s4 with heap := s4.heap.push { cls := .type "slice", data := .fields #[vl, vu, vs] } } := I4.kept (t' := s4.toks) fun b ob q => Heap.get?_push_of_some _ q
  show wpAny (model X.prog X.w) X.A (subscriptTail e (.Slice none none (some (.UnaryOp .USub (.Constant (.int 1) k p1) p2)) p3) (.ref a) (.ref s4.heap.objs.size)) (EP X pins σ Q) X.xe { s4 with heap := s4.heap.push { cls := .type "slice", data := .fields #[vl, vu, vs] } }
  rcases q with ⟨hx, q⟩ | ⟨hx, q⟩
  · obtain ⟨its, r, ht, hz⟩ := I5.list hx
    have hlen := r.length
    refine tail_any (ops := [.ref a, .ref s4.heap.objs.size]) ht.isList.typeIs (PySem.slot_list_getitem.lookup) ?_ (by with_unfolding_all rfl)
    refine wpAny_getItem_list_slice ht.isList (Heap.IsSliceOf.new _ vl vu vs) pl pu ps (by decide) ?_ (by rw [List.size_toArray]; omega)
    rw [PySem.W.krv_pick]
    refine ⟨.ref _, _, I5.laid (t' := s4.toks) (o := .lst xs.reverse) (fun b ob q => Heap.get?_push_of_some _ q) (Nat.le_refl _) ?_, rfl, q _ (I5.hok.fresh (Nat.le_refl _))⟩
    exact ⟨by rw [List.length_reverse]; exact hz, _, 0, r.reverse, Heap.get?_push_size _ rfl⟩
  · obtain ⟨its, r, ht, hz⟩ := I5.tuple hx
    have hlen := r.length
    refine tail_any (ops := [.ref a, .ref s4.heap.objs.size]) ht.typeIs (PyProof.Rows.slot_tuple_getitem.lookup) ?_ (by with_unfolding_all rfl)
    refine getItem_tuple_rev ht (Heap.IsSliceOf.new _ vl vu vs) pl pu ps ?_ (by rw [List.size_toArray]; omega)
    refine ⟨.ref _, _, I5.laid (t' := s4.toks) (o := .tup xs.reverse) (fun b ob q => Heap.get?_push_of_some _ q) (Nat.le_refl _) ?_, rfl, q _ (I5.hok.fresh (Nat.le_refl _))⟩
    exact ⟨by rw [List.length_reverse]; exact hz, _, r.reverse, IsTup.new _ _⟩
end MP

/-! MPA: the data, the small language, its evaluator. -/
namespace MP
open PySem

/-- data without a heap -/
inductive D where
  | non | bl (b : Bool) | int (i : Int) | str (s : Str) | tup (xs : List D) | lst (xs : List D) | rol (xs : List D) | fn (g : Nat) | cell (i : Nat)

mutual
def D.eqb : D → D → Bool
  | .non, .non => true
  | .bl a, .bl b => a == b
  | .bl a, .int j => (if a then 1 else 0) == j
  | .int i, .bl b => i == (if b then 1 else 0)
  | .int i, .int j => i == j
  | .str x, .str y => x == y
  | .lst xs, .lst ys => D.eqbs xs ys
  | .tup xs, .tup ys => D.eqbs xs ys
  | _, _ => false
def D.eqbs : List D → List D → Bool
  | [], [] => true
  | x :: xs, y :: ys => D.eqb x y && D.eqbs xs ys
  | _, _ => false
end
mutual
/-- plain data: no def, no cell, not the script -/
def D.pl : D → Bool
  | .rol _ | .fn _ | .cell _ => false
  | .tup xs | .lst xs => D.pls xs
  | _ => true
def D.pls : List D → Bool
  | [] => true
  | x :: xs => D.pl x && D.pls xs
end
mutual
def D.dep : D → Nat
  | .tup xs | .lst xs => D.deps xs + 1
  | _ => 0
def D.deps : List D → Nat
  | [] => 0
  | x :: xs => max (D.dep x) (D.deps xs)
end
/-- data that == compares -/
def D.cmp (d : D) : Bool := d.pl && decide (d.dep ≤ 60)
def D.flat : D → Bool
  | .non | .bl _ | .int _ | .str _ => true
  | _ => false

abbrev lim : Nat := 1000000
abbrev Store := List (List D)
inductive Sl where
  | no | v (d : D) | o (ds : List D)
abbrev Env := List Sl

/-- operators and comparisons -/
inductive O2 where
  | add | sub | mul | fdiv | mod | pow | eq | ne | lt | le | gt | ge | isin | notin
  deriving DecidableEq
/-- built-ins of one argument -/
inductive B1 where
  | len | abs | sum | max | min | all | any | int | list | tuple | repr | srt
  deriving DecidableEq
inductive B2 where
  | max | min
  deriving DecidableEq
inductive Ty where
  | int | bool | str | tuple | list
  deriving DecidableEq

def mulOk (i j : Int) : Bool := (decide (-(2 ^ 64) < i) && decide (i < 2 ^ 64)) || (decide (-(2 ^ 64) < j) && decide (j < 2 ^ 64))
def op2 : O2 → D → D → Option D
  | .add, .int i, .int j => some (.int (i + j))
  | .add, .str s, .str t => if s.length + t.length ≤ lim then some (.str (s ++ t)) else none
  | .add, .tup xs, .tup ys => if xs.length + ys.length ≤ lim then some (.tup (xs ++ ys)) else none
  | .add, .lst xs, .lst ys => if xs.length + ys.length ≤ lim then some (.lst (xs ++ ys)) else none
  | .sub, .int i, .int j => some (.int (i - j))
  | .mul, .int i, .int j => if mulOk i j then some (.int (i * j)) else none
  | .mul, .tup xs, .int k => if decide (xs.length ≠ 0) && decide (2 ≤ k) && decide (k ≤ 1000) && decide (xs.length ≤ 1000) then some (.tup (List.replicate k.toNat xs).flatten) else none
  | .fdiv, .int i, .int j => if decide (0 < j) && decide (j < 1073741824) then some (.int (i / j)) else none
  | .mod, .int i, .int j => if 0 < j then some (.int (i % j)) else none
  | .pow, .int i, .int j => if decide (0 ≤ j) && decide (j ≤ 1000000) && decide (i.natAbs < 2 ^ 64) then some (.int (i ^ j.toNat)) else none
  | .eq, a, b => if a.cmp && b.cmp then some (.bl (D.eqb a b)) else none
  | .ne, a, b => if a.cmp && b.cmp then some (.bl (!D.eqb a b)) else none
  | .lt, .int i, .int j => some (.bl (decide (i < j)))
  | .le, .int i, .int j => some (.bl (decide (i ≤ j)))
  | .gt, .int i, .int j => some (.bl (decide (j < i)))
  | .ge, .int i, .int j => some (.bl (decide (j ≤ i)))
  | .isin, a, .lst ds => if a.cmp && (D.lst ds).cmp then some (.bl (ds.any fun z => D.eqb z a)) else none
  | .isin, a, .tup ds => if a.flat && ds.all D.flat then some (.bl (ds.any fun z => D.eqb z a)) else none
  | .notin, a, .lst ds => if a.cmp && (D.lst ds).cmp then some (.bl (!ds.any fun z => D.eqb z a)) else none
  | .notin, a, .tup ds => if a.flat && ds.all D.flat then some (.bl (!ds.any fun z => D.eqb z a)) else none
  | _, _, _ => none

/-- all dInts -/
def dInts : List D → Option (List Int)
  | [] => some []
  | .int i :: r => (dInts r).map (i :: ·)
  | _ => none
def dBls : List D → Option (List Bool)
  | [] => some []
  | .bl i :: r => (dBls r).map (i :: ·)
  | _ => none
def maxI : List Int → Int
  | [] => 0
  | [x] => x
  | x :: r => if x ≤ maxI r then maxI r else x
def minI : List Int → Int
  | [] => 0
  | [x] => x
  | x :: r => if minI r ≤ x then minI r else x
/-- ascending -/
def insI (x : Int) : List Int → List Int
  | [] => [x]
  | y :: r => if x ≤ y then x :: y :: r else y :: insI x r
def srtI : List Int → List Int
  | [] => []
  | x :: r => insI x (srtI r)
/-- without repeats -/
def nubI : List Int → List Int
  | [] => []
  | x :: r => if x ∈ r then nubI r else x :: nubI r
def bi1 : B1 → D → Option D
  | .repr, .bl b => some (.str (if b then "True" else "False"))
  | .srt, .lst xs => (dInts xs).map fun is => .lst ((srtI is).map .int)
  | .len, .tup xs => some (.int xs.length)
  | .len, .lst xs => some (.int xs.length)
  | .len, .rol xs => some (.int xs.length)
  | .len, .str s => some (.int s.length)
  | .abs, .int i => some (.int (if i < 0 then -i else i))
  | .sum, .lst xs => (dInts xs).map fun is => .int is.sum
  | .max, .lst xs => (dInts xs).bind fun is => if is.length = 0 then none else some (.int (maxI is))
  | .min, .lst xs => (dInts xs).bind fun is => if is.length = 0 then none else some (.int (minI is))
  | .all, .lst xs => (dBls xs).map fun bs => .bl (bs.all id)
  | .any, .lst xs => (dBls xs).map fun bs => .bl (bs.any id)
  | .int, .int i => some (.int i)
  | .int, .bl b => some (.int (if b then 1 else 0))
  | .list, .lst xs => some (.lst xs)
  | .list, .tup xs => some (.lst xs)
  | .tuple, .lst xs => some (.tup xs)
  | .tuple, .tup xs => some (.tup xs)
  | _, _ => none
def bi2 : B2 → D → D → Option D
  | .max, .int i, .int j => some (.int (if j > i then j else i))
  | .min, .int i, .int j => some (.int (if j < i then j else i))
  | _, _, _ => none
def isTy : Ty → D → Option Bool
  | _, .fn _ => none
  | _, .cell _ => none
  | .int, .int _ => some true
  | .int, .bl _ => some true
  | .bool, .bl _ => some true
  | .str, .str _ => some true
  | .tuple, .tup _ => some true
  | .list, .lst _ => some true
  | .list, .rol _ => some true
  | _, _ => some false
def isTys (ts : List Ty) (d : D) : Option Bool := ts.foldr (fun t r => match isTy t d, r with
  | some a, some b => some (a || b)
  | _, _ => none) (some false)

def ixG {α : Type} (xs : List α) (i : Int) : Option α := L2.atI xs i
def ix (S : Store) : D → D → Option D
  | .tup xs, .int i => L2.atI xs i
  | .lst xs, .int i => L2.atI xs i
  | .rol xs, .int i => L2.atI xs i
  | .str s, .int i => (L2.atI s.cps.toList i).map fun c => .str ⟨#[c]⟩
  | .cell j, .int i => (S[j]?).bind fun xs => L2.atI xs i
  | _, _ => none
def cutD (xs : List D) (lo hi : Option Int) : List D := (xs.drop (HT.sIx xs.length 0 lo)).take (HT.sIx xs.length xs.length hi - HT.sIx xs.length 0 lo)
def slc : D → Option Int → Option Int → Option D
  | .tup xs, lo, hi => some (.tup (cutD xs lo hi))
  | .lst xs, lo, hi => some (.lst (cutD xs lo hi))
  | _, _, _ => none

/-- a target: a name, or several -/
inductive Tg where
  | nm (i : Nat) | tp (is : List Nat)
  deriving DecidableEq
def setMany : List Nat → List D → Env → Option Env
  | [], [], δ => some δ
  | i :: is, d :: ds, δ => setMany is ds (δ.set i (.v d))
  | _, _, _ => none
def asg : Tg → D → Env → Option Env
  | .nm i, d, δ => some (δ.set i (.v d))
  | .tp is, .tup ds, δ => setMany is ds δ
  | .tp is, .lst ds, δ => none
  | _, _, _ => none
def Tg.slots : Tg → List Nat
  | .nm i => [i]
  | .tp is => is
def wipeE (δ : Env) : List Nat → Env
  | [] => δ
  | v :: vs => (wipeE δ vs).set v .no

mutual
inductive E where
  | var (i : Nat)
  | cn | cb (b : Bool) | ci (i : Int) | cs (s : Str)
  | glob (x : Str)
  | tup (es : Es) | lst (es : Es) | newc (es : Es)
  | op (o : O2) (a b : E)
  | isN (a : E) | notN (a : E)
  | neg (a : E) | nt (a : E)
  | and (a b : E) | or (a b : E)
  | chain (o1 o2 : O2) (a b c : E)
  | ite (c a b : E)
  | call (f : Nat) (es : Es)
  | calll (i : Nat) (es : Es)
  | b1 (f : B1) (a : E) | b2 (f : B2) (a b : E)
  | isi (a : E) (ts : List Ty)
  | ix (a i : E)
  | sl (a : E) (lo hi : Es)
  | lc (elt : E) (tg : Tg) (src : Sr) (cond : Es)
  | lrng (es : Es)
  | olen (i : Nat) | oix (i : Nat) (e : E)
  | inD (neg : Bool) (x : Str) (a : E) | getD (x : Str) (a : E)
  | calld (f : Nat) (es : Es) (ds : List Int)
  | osl (i : Nat) (lo hi : Es)
  | lzip (a b : E)
  | rev (a : E)
  | isB (neg : Bool) (a : E) (b : Bool)
  | sset (a : E)
  | cnew (a : E) | clen (a : E) | cpop (a i : E) | cnil (neg : Bool) (a : E)
inductive Es where
  | nil | cons (e : E) (es : Es)
inductive Sr where
  | it (e : E) | rng (es : Es) | enum (e : E) | zip (a b : E)
end

inductive Out where
  | nx (δ : Env) (S : Store) | rt (d : D) (S : Store) | bk (δ : Env) (S : Store) | ct (δ : Env) (S : Store)

def range2 (a b : Int) : List D := (List.range (b - a).toNat).map fun i => .int (a + (i : Nat))
def rangeOf : List D → Option (List D)
  | [.int j] => if decide (-(2 ^ 62) ≤ j) && decide (j ≤ lim) then some (range2 0 j) else none
  | [.int i, .int j] => if decide (-(2 ^ 62) ≤ i) && decide (i < 2 ^ 62) && decide (-(2 ^ 62) ≤ j) && decide (j < 2 ^ 62) && decide (j - i ≤ lim) then some (range2 i j) else none
  | _ => none
def zipD : List D → List D → List D
  | x :: xs, y :: ys => .tup [x, y] :: zipD xs ys
  | _, _ => []
def enumD : Nat → List D → List D
  | _, [] => []
  | n, x :: xs => .tup [.int n, x] :: enumD (n + 1) xs
def enumOf : D → Option (List D)
  | .lst xs => some (enumD 0 xs)
  | .tup xs => some (enumD 0 xs)
  | _ => none
def zipOf : D → D → Option (List D)
  | .lst xs, .lst ys => some (zipD xs ys)
  | .tup xs, .tup ys => some (zipD xs ys)
  | .tup xs, .lst ys => some (zipD xs ys)
  | _, _ => none
def revOf : D → Option D
  | .lst xs => some (.lst xs.reverse)
  | .tup xs => some (.tup xs.reverse)
  | _ => none
def ssetOf : D → Option D
  | .lst xs => (dInts xs).bind fun is => if is.length ≤ 60 then some (.lst ((srtI (nubI is)).map .int)) else none
  | .tup xs => (dInts xs).bind fun is => if is.length ≤ 60 then some (.lst ((srtI (nubI is)).map .int)) else none
  | _ => none
def itemsOf : D → Option (List D)
  | .tup xs => some xs
  | .lst xs => some xs
  | .str s => some (s.cps.toList.map fun c => .str ⟨#[c]⟩)
  | _ => none
def optI : List D → Option (Option Int)
  | [] => some none
  | [.int i] => some (some i)
  | _ => none
def testOf : List D → Option Bool
  | [] => some true
  | [.bl b] => some b
  | _ => none

/-- the loop of a comprehension -/
def lcGo (f : Env → Store → Option (D × Store)) (c : Env → Store → Option (List D × Store)) (tg : Tg) (δ : Env) : List D → Store → Option (List D × Store)
  | [], S => some ([], S)
  | d :: ds, S => match asg tg d δ with
    | none => none
    | some δ1 => match c δ1 S with
      | none => none
      | some (t, S1) => match testOf t with
        | none => none
        | some false => lcGo f c tg δ ds S1
        | some true => match f δ1 S1 with
          | none => none
          | some (x, S2) => match lcGo f c tg δ ds S2 with
            | none => none
            | some (xs, S3) => some (x :: xs, S3)

/-- the module's values, its tables with text keys -/
structure GV where
  c : Str → Option D
  t : Str → Option (List (Str × D))
abbrev CallT := Nat → List D → Store → Option (D × Store)
section
variable (gv : GV) (cl : CallT)
mutual
def ev : E → Env → Store → Option (D × Store)
  | .var i, δ, S => match δ[i]? with
    | some (.v d) => some (d, S)
    | _ => none
  | .cn, _, S => some (.non, S)
  | .cb b, _, S => some (.bl b, S)
  | .ci i, _, S => some (.int i, S)
  | .cs s, _, S => some (.str s, S)
  | .glob x, _, S => match gv.c x with
    | some d => some (d, S)
    | none => none
  | .tup es, δ, S => match evs es δ S with
    | some (ds, S1) => some (.tup ds, S1)
    | none => none
  | .lst es, δ, S => match evs es δ S with
    | some (ds, S1) => some (.lst ds, S1)
    | none => none
  | .newc es, δ, S => match evs es δ S with
    | some (ds, S1) => some (.cell S1.length, S1 ++ [ds])
    | none => none
  | .op o a b, δ, S => match ev a δ S with
    | none => none
    | some (x, S1) => match ev b δ S1 with
      | none => none
      | some (y, S2) => match op2 o x y with
        | none => none
        | some z => some (z, S2)
  | .isN a, δ, S => match ev a δ S with
    | none => none
    | some (.non, S1) => some (.bl true, S1)
    | some (_, S1) => some (.bl false, S1)
  | .notN a, δ, S => match ev a δ S with
    | none => none
    | some (.non, S1) => some (.bl false, S1)
    | some (_, S1) => some (.bl true, S1)
  | .neg a, δ, S => match ev a δ S with
    | some (.int i, S1) => some (.int (-i), S1)
    | _ => none
  | .nt a, δ, S => match ev a δ S with
    | some (.bl b, S1) => some (.bl (!b), S1)
    | _ => none
  | .and a b, δ, S => match ev a δ S with
    | some (.bl true, S1) => (match ev b δ S1 with
      | some (.bl c, S2) => some (.bl c, S2)
      | _ => none)
    | some (.bl false, S1) => some (.bl false, S1)
    | _ => none
  | .or a b, δ, S => match ev a δ S with
    | some (.bl false, S1) => (match ev b δ S1 with
      | some (.bl c, S2) => some (.bl c, S2)
      | _ => none)
    | some (.bl true, S1) => some (.bl true, S1)
    | _ => none
  | .chain o1 o2 a b c, δ, S => match ev a δ S with
    | none => none
    | some (x, S1) => match ev b δ S1 with
      | none => none
      | some (y, S2) => match op2 o1 x y with
        | some (.bl true) => (match ev c δ S2 with
          | none => none
          | some (z, S3) => match op2 o2 y z with
            | some (.bl r) => some (.bl r, S3)
            | _ => none)
        | some (.bl false) => some (.bl false, S2)
        | _ => none
  | .ite c a b, δ, S => match ev c δ S with
    | some (.bl true, S1) => ev a δ S1
    | some (.bl false, S1) => ev b δ S1
    | _ => none
  | .call f es, δ, S => match evs es δ S with
    | none => none
    | some (ds, S1) => cl f ds S1
  | .calll i es, δ, S => match δ[i]? with
    | some (.v (.fn g)) => (match evs es δ S with
      | none => none
      | some (ds, S1) => cl g ds S1)
    | _ => none
  | .b1 f a, δ, S => match ev a δ S with
    | none => none
    | some (x, S1) => match bi1 f x with
      | none => none
      | some z => some (z, S1)
  | .b2 f a b, δ, S => match ev a δ S with
    | none => none
    | some (x, S1) => match ev b δ S1 with
      | none => none
      | some (y, S2) => match bi2 f x y with
        | none => none
        | some z => some (z, S2)
  | .isi a ts, δ, S => match ev a δ S with
    | none => none
    | some (x, S1) => match isTys ts x with
      | none => none
      | some b => some (.bl b, S1)
  | .ix a i, δ, S => match ev a δ S with
    | none => none
    | some (x, S1) => match ev i δ S1 with
      | none => none
      | some (y, S2) => match ix S2 x y with
        | none => none
        | some z => some (z, S2)
  | .sl a lo hi, δ, S => match ev a δ S with
    | none => none
    | some (x, S1) => match evs lo δ S1 with
      | none => none
      | some (l, S2) => match evs hi δ S2 with
        | none => none
        | some (h, S3) => match optI l, optI h with
          | some l, some h => (match slc x l h with
            | none => none
            | some z => some (z, S3))
          | _, _ => none
  | .lc elt tg src cond, δ, S => match evr src δ S with
    | none => none
    | some (ds, S1) => match lcGo (ev elt) (evs cond) tg (wipeE δ tg.slots) ds S1 with
      | none => none
      | some (xs, S2) => some (.lst xs, S2)
  | .lrng es, δ, S => match evs es δ S with
    | none => none
    | some (ds, S1) => match rangeOf ds with
      | none => none
      | some xs => some (.lst xs, S1)
  | .olen i, δ, S => match δ[i]? with
    | some (.o ds) => some (.int ds.length, S)
    | _ => none
  | .oix i e, δ, S => match ev e δ S with
    | some (.int k, S1) => (match δ[i]? with
      | some (.o ds) => (match L2.atI ds k with
        | some d => some (d, S1)
        | none => none)
      | _ => none)
    | _ => none
  | .inD neg x a, δ, S => match ev a δ S with
    | some (.str z, S1) => (match gv.t x with
      | some kvs => some (.bl (if neg then !(kvs.lookup z).isSome else (kvs.lookup z).isSome), S1)
      | none => none)
    | _ => none
  | .getD x a, δ, S => match ev a δ S with
    | some (.str z, S1) => (match gv.t x with
      | some kvs => (match kvs.lookup z with
        | some d => some (d, S1)
        | none => none)
      | none => none)
    | _ => none
  | .calld f es ds, δ, S => match evs es δ S with
    | none => none
    | some (xs, S1) => cl f (xs ++ ds.map .int) S1
  | .osl i lo hi, δ, S => match evs lo δ S with
    | none => none
    | some (l, S1) => match evs hi δ S1 with
      | none => none
      | some (h, S2) => match optI l, optI h, δ[i]? with
        | some l, some h, some (.o ds) => some (.lst (cutD ds l h), S2)
        | _, _, _ => none
  | .lzip a b, δ, S => match ev a δ S with
    | none => none
    | some (x, S1) => match ev b δ S1 with
      | none => none
      | some (y, S2) => match zipOf x y with
        | none => none
        | some ds => some (.lst ds, S2)
  | .rev a, δ, S => match ev a δ S with
    | none => none
    | some (x, S1) => match revOf x with
      | none => none
      | some z => some (z, S1)
  | .isB neg a b, δ, S => match ev a δ S with
    | some (.bl c, S1) => some (.bl (if neg then !(c == b) else c == b), S1)
    | _ => none
  | .sset a, δ, S => match ev a δ S with
    | none => none
    | some (x, S1) => match ssetOf x with
      | none => none
      | some z => some (z, S1)
  | .cnew a, δ, S => match ev a δ S with
    | none => none
    | some (x, S1) => match bi1 .list x with
      | some (.lst ds) => some (.cell S1.length, S1 ++ [ds])
      | _ => none
  | .clen a, δ, S => match ev a δ S with
    | some (.cell c, S1) => (match S1[c]? with
      | some ds => some (.int ds.length, S1)
      | none => none)
    | _ => none
  | .cpop a i, δ, S => match ev a δ S with
    | some (.cell c, S1) => (match ev i δ S1 with
      | some (.int k, S2) => (match S2[c]? with
        | some ds => if decide (0 ≤ k) && decide (k ≤ 1000000) then (match ds[k.toNat]? with
            | some d => some (d, S2.set c (ds.eraseIdx k.toNat))
            | none => none) else none
        | none => none)
      | _ => none)
    | _ => none
  | .cnil neg a, δ, S => match ev a δ S with
    | some (.cell c, S1) => (match S1[c]? with
      | some ds => if (D.lst ds).cmp then some (.bl (if neg then !ds.isEmpty else ds.isEmpty), S1) else none
      | none => none)
    | _ => none
def evs : Es → Env → Store → Option (List D × Store)
  | .nil, _, S => some ([], S)
  | .cons e es, δ, S => match ev e δ S with
    | none => none
    | some (d, S1) => match evs es δ S1 with
      | none => none
      | some (ds, S2) => some (d :: ds, S2)
def evr : Sr → Env → Store → Option (List D × Store)
  | .it e, δ, S => match ev e δ S with
    | none => none
    | some (d, S1) => match itemsOf d with
      | none => none
      | some ds => some (ds, S1)
  | .rng es, δ, S => match evs es δ S with
    | none => none
    | some (ds, S1) => match rangeOf ds with
      | none => none
      | some xs => some (xs, S1)
  | .enum e, δ, S => match ev e δ S with
    | none => none
    | some (d, S1) => match enumOf d with
      | none => none
      | some ds => some (ds, S1)
  | .zip a b, δ, S => match ev a δ S with
    | none => none
    | some (x, S1) => match ev b δ S1 with
      | none => none
      | some (y, S2) => match zipOf x y with
        | none => none
        | some ds => some (ds, S2)
end
end
end MP

/-! MPB: statements and defs of the small language. -/
namespace MP
open PySem

mutual
inductive Sm where
  | set (i : Nat) (e : E)
  | own (i : Nat) (e : E)
  | frz (i : Nat)
  | unp (is : List Nat) (e : E)
  | par (i j : Nat) (a b : E)
  | unp2 (i : Nat) (js : List Nat) (e : E)
  | app (i : Nat) (e : E)
  | oset (i : Nat) (j e : E)
  | cset (a j e : E)
  | ifs (c : E) (a b : Ss)
  | fors (tg : Tg) (src : Sr) (body : Ss)
  | whil (c : E) (body : Ss)
  | ret (e : E) | retn
  | brk | cnt | pas
  | expr (e : E)
  | rais
inductive Ss where
  | nil | cons (s : Sm) (r : Ss)
end

/-- the loop of a for -/
def forGo (f : Env → Store → Option Out) (tg : Tg) : List D → Env → Store → Option Out
  | [], δ, S => some (.nx δ S)
  | d :: ds, δ, S => match asg tg d δ with
    | none => none
    | some δ1 => match f δ1 S with
      | none => none
      | some (.nx δ2 S2) => forGo f tg ds δ2 S2
      | some (.ct δ2 S2) => forGo f tg ds δ2 S2
      | some (.bk δ2 S2) => some (.nx δ2 S2)
      | some (.rt d S2) => some (.rt d S2)
/-- the loop of a while, so many turns at most -/
def whGo (c : Env → Store → Option (D × Store)) (f : Env → Store → Option Out) : Nat → Env → Store → Option Out
  | 0, _, _ => none
  | n + 1, δ, S => match c δ S with
    | some (.bl true, S1) => (match f δ S1 with
      | none => none
      | some (.nx δ2 S2) => whGo c f n δ2 S2
      | some (.ct δ2 S2) => whGo c f n δ2 S2
      | some (.bk δ2 S2) => some (.nx δ2 S2)
      | some (.rt d S2) => some (.rt d S2))
    | some (.bl false, S1) => some (.nx δ S1)
    | _ => none
def turns : Nat := 1000000
section
variable (gv : GV) (cl : CallT)
mutual
def exc : Sm → Env → Store → Option Out
  | .set i e, δ, S => match ev gv cl e δ S with
    | some (d, S1) => some (.nx (δ.set i (.v d)) S1)
    | none => none
  | .own i e, δ, S => match ev gv cl e δ S with
    | some (.lst ds, S1) => some (.nx (δ.set i (.o ds)) S1)
    | _ => none
  | .frz i, δ, S => match δ[i]? with
    | some (.o ds) => some (.nx (δ.set i (.v (.lst ds))) S)
    | some (.v _) => some (.nx δ S)
    | _ => none
  | .unp is e, δ, S => match ev gv cl e δ S with
    | some (.tup ds, S1) => (match setMany is ds δ with
      | some δ1 => some (.nx δ1 S1)
      | none => none)
    | _ => none
  | .par i j a b, δ, S => match ev gv cl a δ S with
    | some (x, S1) => (match ev gv cl b δ S1 with
      | some (y, S2) => some (.nx ((δ.set i (.v x)).set j (.v y)) S2)
      | none => none)
    | none => none
  | .unp2 i js e, δ, S => match ev gv cl e δ S with
    | some (.tup [x, .tup ds], S1) => (match setMany js ds (δ.set i (.v x)) with
      | some δ1 => some (.nx δ1 S1)
      | none => none)
    | _ => none
  | .app i e, δ, S => match ev gv cl e δ S with
    | some (d, S1) => (match δ[i]? with
      | some (.o ds) => if ds.length < lim then some (.nx (δ.set i (.o (ds ++ [d]))) S1) else none
      | _ => none)
    | none => none
  | .oset i j e, δ, S => match ev gv cl e δ S with
    | some (d, S1) => (match ev gv cl j δ S1 with
      | some (.int k, S2) => (match δ[i]? with
        | some (.o ds) => (match L2.ixN ds.length k with
          | some n => some (.nx (δ.set i (.o (ds.set n d))) S2)
          | none => none)
        | _ => none)
      | _ => none)
    | none => none
  | .cset a j e, δ, S => match ev gv cl e δ S with
    | some (d, S1) => (match ev gv cl a δ S1 with
      | some (.cell c, S2) => (match ev gv cl j δ S2 with
        | some (.int k, S3) => (match S3[c]? with
          | some ds => (match L2.ixN ds.length k with
            | some n => some (.nx δ (S3.set c (ds.set n d)))
            | none => none)
          | none => none)
        | _ => none)
      | _ => none)
    | none => none
  | .ifs c a b, δ, S => match ev gv cl c δ S with
    | some (.bl true, S1) => excs a δ S1
    | some (.bl false, S1) => excs b δ S1
    | _ => none
  | .fors tg src body, δ, S => match evr gv cl src δ S with
    | some (ds, S1) => forGo (excs body) tg ds δ S1
    | none => none
  | .whil c body, δ, S => whGo (ev gv cl c) (excs body) turns δ S
  | .ret e, δ, S => match ev gv cl e δ S with
    | some (d, S1) => some (.rt d S1)
    | none => none
  | .retn, δ, S => some (.rt .non S)
  | .brk, δ, S => some (.bk δ S)
  | .cnt, δ, S => some (.ct δ S)
  | .pas, δ, S => some (.nx δ S)
  | .expr e, δ, S => match ev gv cl e δ S with
    | some (_, S1) => some (.nx δ S1)
    | none => none
  | .rais, _, _ => none
def excs : Ss → Env → Store → Option Out
  | .nil, δ, S => some (.nx δ S)
  | .cons s r, δ, S => match exc s δ S with
    | some (.nx δ1 S1) => excs r δ1 S1
    | o => o
end
end
/-- a def: how many parameters, how many names, the body -/
structure Fd where
  np : Nat
  nn : Nat
  body : Ss
def envOf (fd : Fd) (ds : List D) : Env := ds.map .v ++ List.replicate (fd.nn - ds.length) .no
section
variable (gv : GV) (pr : Nat → Option Fd)
/-- a call, so many deep at most -/
def ec : Nat → CallT
  | 0, _, _, _ => none
  | n + 1, f, ds, S => match pr f with
    | none => none
    | some fd => if ds.length = fd.np then match excs gv (ec n) fd.body (envOf fd ds) S with
        | some (.nx _ S1) => some (.non, S1)
        | some (.rt d S1) => some (d, S1)
        | _ => none
      else none
end
end MP

/-! MPC: data and values, the ghost heap of what never changes, steps. -/
namespace MP
open PySem L2

section
variable (K : PySem.W.Frag) (cf : Nat → Option Addr) (ι : List Addr) (F : Hp)
mutual
inductive R : D → V → Prop
  | non : R .non .non
  | bl (b : Bool) : R (.bl b) (.bl b)
  | int (i : Int) : R (.int i) (.int i)
  | str {s : Str} : s.length ≤ lim → PyData.strOk s = true → R (.str s) (.str s)
  | fn {g : Nat} {a : Addr} : cf g = some a → R (.fn g) (.ref a)
  | cell {i : Nat} {a : Addr} : ι[i]? = some a → R (.cell i) (.ref a)
  | tup {a : Addr} {ds : List D} {vs : List V} : SqT K F a vs → RL ds vs → ds.length ≤ lim → R (.tup ds) (.ref a)
  | lst {a : Addr} {ds : List D} {vs : List V} : F a = some (.lst vs) → RL ds vs → ds.length ≤ lim → R (.lst ds) (.ref a)
  | rol {a : Addr} {ds : List D} {vs : List V} : SqL K F a vs → RL ds vs → ds.length ≤ lim → R (.rol ds) (.ref a)
inductive RL : List D → List V → Prop
  | nil : RL [] []
  | cons {d : D} {v : V} {ds : List D} {vs : List V} : R d v → RL ds vs → RL (d :: ds) (v :: vs)
end
end

section
variable {K : PySem.W.Frag} {cf : Nat → Option Addr} {ι ι' : List Addr} {F F' H H' : Hp}
theorem sqt_mono {a : Addr} {vs : List V} (e : ∀ a o, F a = some o → F' a = some o) (h : SqT K F a vs) : SqT K F' a vs := by
  rcases h with (h | ⟨o, h⟩) | h
  · exact .inl (.inl (e _ _ h))
  · exact .inl (.inr ⟨o, e _ _ h⟩)
  · exact .inr h
theorem sql_mono {a : Addr} {vs : List V} (e : ∀ a o, F a = some o → F' a = some o) (h : SqL K F a vs) : SqL K F' a vs := by
  rcases h with (h | ⟨o, h⟩) | h
  · exact .inl (.inl (e _ _ h))
  · exact .inl (.inr ⟨o, e _ _ h⟩)
  · exact .inr h
mutual
theorem R.mono (hi : ∃ t, ι' = ι ++ t) (e : ∀ a o, F a = some o → F' a = some o) : ∀ {d : D} {v : V}, R K cf ι F d v → R K cf ι' F' d v
  | _, _, .non => .non
  | _, _, .bl b => .bl b
  | _, _, .int i => .int i
  | _, _, .str h1 h2 => .str h1 h2
  | _, _, .fn h => .fn h
  | _, _, .cell h => .cell (by
      obtain ⟨t, rfl⟩ := hi
      rw [List.getElem?_append_left (List.getElem?_eq_some_iff.mp h).1]
      exact h)
  | _, _, .tup h1 h2 h3 => .tup (sqt_mono e h1) (RL.mono hi e h2) h3
  | _, _, .lst h1 h2 h3 => .lst (e _ _ h1) (RL.mono hi e h2) h3
  | _, _, .rol h1 h2 h3 => .rol (sql_mono e h1) (RL.mono hi e h2) h3
theorem RL.mono (hi : ∃ t, ι' = ι ++ t) (e : ∀ a o, F a = some o → F' a = some o) : ∀ {d : List D} {v : List V}, RL K cf ι F d v → RL K cf ι' F' d v
  | _, _, .nil => .nil
  | _, _, .cons h1 h2 => .cons (R.mono hi e h1) (RL.mono hi e h2)
end
theorem RL.length : ∀ {ds : List D} {vs : List V}, RL K cf ι F ds vs → ds.length = vs.length
  | _, _, .nil => rfl
  | _, _, .cons _ h => congrArg Nat.succ (RL.length h)
theorem RL.append : ∀ {ds es : List D} {vs ws : List V}, RL K cf ι F ds vs → RL K cf ι F es ws → RL K cf ι F (ds ++ es) (vs ++ ws)
  | _, _, _, _, .nil, h => h
  | _, _, _, _, .cons h1 h2, h => .cons h1 (RL.append h2 h)
theorem RL.get : ∀ {ds : List D} {vs : List V} {i : Nat} {d : D}, RL K cf ι F ds vs → ds[i]? = some d → ∃ v, vs[i]? = some v ∧ R K cf ι F d v
  | _, _, _, _, .nil, e => by simp at e
  | _, _, 0, _, .cons h _, e => by simp at e; subst e; exact ⟨_, rfl, h⟩
  | _, _, i + 1, _, .cons _ h, e => by
    obtain ⟨v, h1, h2⟩ := RL.get (i := i) h (by simpa using e)
    exact ⟨v, by simpa using h1, h2⟩
theorem RL.get' : ∀ {ds : List D} {vs : List V} {i : Nat} {v : V}, RL K cf ι F ds vs → vs[i]? = some v → ∃ d, ds[i]? = some d ∧ R K cf ι F d v
  | _, _, _, _, .nil, e => by simp at e
  | _, _, 0, _, .cons h _, e => by simp at e; subst e; exact ⟨_, rfl, h⟩
  | _, _, i + 1, _, .cons _ h, e => by
    obtain ⟨d, h1, h2⟩ := RL.get' (i := i) h (by simpa using e)
    exact ⟨d, by simpa using h1, h2⟩
theorem RL.take : ∀ {ds : List D} {vs : List V} (n : Nat), RL K cf ι F ds vs → RL K cf ι F (ds.take n) (vs.take n)
  | _, _, 0, _ => .nil
  | _, _, _ + 1, .nil => .nil
  | _, _, n + 1, .cons r t => .cons r (RL.take n t)
theorem RL.drop : ∀ {ds : List D} {vs : List V} (n : Nat), RL K cf ι F ds vs → RL K cf ι F (ds.drop n) (vs.drop n)
  | _, _, 0, r => r
  | _, _, _ + 1, .nil => .nil
  | _, _, n + 1, .cons _ t => RL.drop n t
theorem RL.set {d : D} {v : V} (r : R K cf ι F d v) : ∀ {ds : List D} {vs : List V} (i : Nat), RL K cf ι F ds vs → RL K cf ι F (ds.set i d) (vs.set i v)
  | _, _, _, .nil => .nil
  | _, _, 0, .cons _ t => .cons r t
  | _, _, i + 1, .cons q t => .cons q (RL.set r i t)
theorem RL.rep {ds : List D} {vs : List V} (r : RL K cf ι F ds vs) : ∀ n : Nat, RL K cf ι F (List.replicate n ds).flatten (List.replicate n vs).flatten
  | 0 => .nil
  | n + 1 => by
    rw [List.replicate_succ, List.replicate_succ, List.flatten_cons, List.flatten_cons]
    exact r.append (RL.rep r n)
theorem RL.map_int : ∀ (is : List Int), RL K cf ι F (is.map .int) (is.map .int)
  | [] => .nil
  | i :: is => .cons (.int i) (RL.map_int is)
theorem dInts_eq : ∀ {ds : List D} {is : List Int}, dInts ds = some is → ds = is.map .int
  | [], is, h => by simp [dInts] at h; subst h; rfl
  | d :: ds, is, h => by
    cases d with
    | int i =>
      simp only [dInts, Option.map_eq_some_iff] at h
      obtain ⟨js, h1, rfl⟩ := h
      rw [dInts_eq h1]; rfl
    | _ => simp [dInts] at h
theorem dBls_eq : ∀ {ds : List D} {is : List Bool}, dBls ds = some is → ds = is.map .bl
  | [], is, h => by simp [dBls] at h; subst h; rfl
  | d :: ds, is, h => by
    cases d with
    | bl i =>
      simp only [dBls, Option.map_eq_some_iff] at h
      obtain ⟨js, h1, rfl⟩ := h
      rw [dBls_eq h1]; rfl
    | _ => simp [dBls] at h
theorem RL.ints : ∀ {is : List Int} {vs : List V}, RL K cf ι F (is.map .int) vs → vs = is.map .int
  | [], _, h => by cases h; rfl
  | i :: is, _, h => by
    cases h with
    | cons h1 h2 =>
      cases h1
      rw [RL.ints h2]; rfl
theorem RL.bls : ∀ {is : List Bool} {vs : List V}, RL K cf ι F (is.map .bl) vs → vs = is.map .bl
  | [], _, h => by cases h; rfl
  | i :: is, _, h => by
    cases h with
    | cons h1 h2 =>
      cases h1
      rw [RL.bls h2]; rfl
end

/-- the store, the frozen part of the heap, the heap -/
structure Gd (K : PySem.W.Frag) (cf : Nat → Option Addr) (S : Store) (ι : List Addr) (F H : Hp) : Prop where
  sub : ∀ a o, F a = some o → H a = some o
  cells : ∀ (i : Nat) (c : List D), S[i]? = some c → ∃ a vs, ι[i]? = some a ∧ H a = some (.lst vs) ∧ RL K cf ι F c vs
  out : ∀ a, a ∈ ι → F a = none ∧ H a ≠ none
  inj : ι.Nodup
  len : ι.length = S.length
/-- from one state to a later one -/
structure Stp (ι : List Addr) (F H : Hp) (ι' : List Addr) (F' H' : Hp) : Prop where
  io : ∃ t, ι' = ι ++ t
  fm : ∀ a o, F a = some o → F' a = some o
  fn : ∀ a o, F' a = some o → F a = some o ∨ H a = none
  nw : ∀ a, a ∈ ι' → a ∈ ι ∨ H a = none
  fr : ∀ a o, H a = some o → a ∉ ι → H' a = some o
  dm : ∀ a, H' a = none → H a = none
section
variable {K : PySem.W.Frag} {cf : Nat → Option Addr} {ι ι' ι1 ι2 : List Addr} {F F' F1 F2 H H' H1 H2 : Hp} {S : Store}
theorem Stp.refl : Stp ι F H ι F H := ⟨⟨[], by simp⟩, fun _ _ h => h, fun _ _ h => .inl h, fun _ h => .inl h, fun _ _ h _ => h, fun _ h => h⟩
theorem Stp.trans (a : Stp ι F H ι1 F1 H1) (b : Stp ι1 F1 H1 ι2 F2 H2) : Stp ι F H ι2 F2 H2 := by
  obtain ⟨t, rfl⟩ := a.io
  obtain ⟨u, rfl⟩ := b.io
  refine ⟨⟨t ++ u, by simp⟩, fun x o h => b.fm x o (a.fm x o h), fun x o h => ?_, fun x h => ?_, fun x o h hn => ?_, fun x h => a.dm x (b.dm x h)⟩
  · rcases b.fn x o h with h | h
    · exact a.fn x o h
    · exact .inr (a.dm x h)
  · rcases b.nw x h with h | h
    · exact a.nw x h
    · exact .inr (a.dm x h)
  · refine b.fr x o (a.fr x o h hn) fun hm => ?_
    rcases a.nw x hm with h' | h'
    · exact hn h'
    · rw [h] at h'; cases h'
theorem R.step {d : D} {v : V} (h : R K cf ι F d v) (a : Stp ι F H ι1 F1 H1) : R K cf ι1 F1 d v := h.mono a.io a.fm
theorem RL.step {d : List D} {v : List V} (h : RL K cf ι F d v) (a : Stp ι F H ι1 F1 H1) : RL K cf ι1 F1 d v := h.mono a.io a.fm
/-- a new frozen object -/
theorem Gd.new (g : Gd K cf S ι F H) {p : Addr} {o : HO} (hp : H p = none) : Gd K cf S ι (upd F p o) (upd H p o) ∧ Stp ι F H ι (upd F p o) (upd H p o) := by
  have hF : F p = none := by
    cases q : F p with
    | none => rfl
    | some u => rw [g.sub _ _ q] at hp; cases hp
  have hpi : p ∉ ι := fun hm => (g.out p hm).2 hp
  have fm : ∀ a u, F a = some u → upd F p o a = some u := fun a u h => by rw [upd_ne (ne_of_none h hF)]; exact h
  refine ⟨⟨fun a u h => ?_, fun i c h => ?_, fun a ha => ?_, g.inj, g.len⟩, ⟨⟨[], by simp⟩, fm, fun a u h => ?_, fun a h => .inl h, fun a u h _ => ?_, fun a h => ?_⟩⟩
  · by_cases e : a = p
    · subst e; rw [upd_same] at h ⊢; exact h
    · rw [upd_ne e] at h ⊢; exact g.sub _ _ h
  · obtain ⟨a, vs, h1, h2, h3⟩ := g.cells i c h
    exact ⟨a, vs, h1, by rw [upd_ne (ne_of_none h2 hp)]; exact h2, h3.mono ⟨[], by simp⟩ fm⟩
  · have e : a ≠ p := fun e => hpi (e ▸ ha)
    rw [upd_ne e, upd_ne e]; exact g.out a ha
  · by_cases e : a = p
    · subst e; exact .inr hp
    · rw [upd_ne e] at h; exact .inl h
  · rw [upd_ne (ne_of_none h hp)]; exact h
  · by_cases e : a = p
    · subst e; exact hp
    · rw [upd_ne e] at h; exact h
/-- what one sees of the slots -/
structure Slt (K : PySem.W.Frag) (cf : Nat → Option Addr) (ι : List Addr) (F H : Hp) (B : Hp) (δ : Env) (σ : L2.St) : Prop where
  len : σ.length = δ.length
  val : ∀ (i : Nat) (d : D), δ[i]? = some (.v d) → ∃ v, σ[i]? = some (some v) ∧ R K cf ι F d v
  own : ∀ (i : Nat) (ds : List D), δ[i]? = some (.o ds) → ∃ a vs, σ[i]? = some (some (.ref a)) ∧ H a = some (.lst vs) ∧ RL K cf ι F ds vs ∧ F a = none ∧ a ∉ ι ∧ B a = none ∧ ds.length ≤ lim
  apart : ∀ (i j : Nat) (x y : List D) (a : Addr), δ[i]? = some (.o x) → δ[j]? = some (.o y) → σ[i]? = some (some (.ref a)) → σ[j]? = some (some (.ref a)) → i = j
theorem Slt.step {B : Hp} {δ : Env} {σ : L2.St} (h : Slt K cf ι F H B δ σ) (a : Stp ι F H ι1 F1 H1) : Slt K cf ι1 F1 H1 B δ σ := by
  refine ⟨h.len, fun i d e => ?_, fun i ds e => ?_, h.apart⟩
  · obtain ⟨v, h1, h2⟩ := h.val i d e
    exact ⟨v, h1, h2.step a⟩
  · obtain ⟨x, vs, h1, h2, h3, h4, h5, h6, h7⟩ := h.own i ds e
    refine ⟨x, vs, h1, a.fr x _ h2 h5, h3.step a, ?_, fun hm => ?_, h6, h7⟩
    · cases q : F1 x with
      | none => rfl
      | some u =>
        rcases a.fn x u q with z | z
        · rw [h4] at z; cases z
        · rw [h2] at z; cases z
    · rcases a.nw x hm with z | z
      · exact h5 z
      · rw [h2] at z; cases z
end

/-! ### readings by the evaluator -/
section
variable (K : PySem.W.Frag) (cf : Nat → Option Addr)
abbrev EvT := Env → Store → Option (D × Store)
def tE (f : EvT) : TE := fun σ H Q => ∃ ι F B δ S d S', Gd K cf S ι F H ∧ Slt K cf ι F H B δ σ ∧ f δ S = some (d, S') ∧
  ∀ v ι' F' H', Stp ι F H ι' F' H' → Gd K cf S' ι' F' H' → R K cf ι' F' d v → Q v H'
def tT (f : EvT) : TT := fun σ H Q => ∃ ι F B δ S b S', Gd K cf S ι F H ∧ Slt K cf ι F H B δ σ ∧ f δ S = some (.bl b, S') ∧
  ∀ ι' F' H', Stp ι F H ι' F' H' → Gd K cf S' ι' F' H' → Q b H'
def tA (f : Env → Store → Option (List D × Store)) : TA := fun σ H Q => ∃ ι F B δ S d S', Gd K cf S ι F H ∧ Slt K cf ι F H B δ σ ∧ f δ S = some (d, S') ∧
  ∀ v ι' F' H', Stp ι F H ι' F' H' → Gd K cf S' ι' F' H' → RL K cf ι' F' d v → Q v H'
/-- an operation on values -/
def rD (f : D → Option D) : V → Hp → VK → Prop := fun x H Q => ∃ ι F S dx d, Gd K cf S ι F H ∧ R K cf ι F dx x ∧ f dx = some d ∧
  ∀ v ι' F' H', Stp ι F H ι' F' H' → Gd K cf S ι' F' H' → R K cf ι' F' d v → Q v H'
def rD2 (f : D → D → Option D) : R2 := fun x y H Q => ∃ ι F S dx dy d, Gd K cf S ι F H ∧ R K cf ι F dx x ∧ R K cf ι F dy y ∧ f dx dy = some d ∧
  ∀ v ι' F' H', Stp ι F H ι' F' H' → Gd K cf S ι' F' H' → R K cf ι' F' d v → Q v H'
end
section
variable {X : Cx}
theorem _root_.L2.PE.imp {e : Expr} {t u : TE} (h : PE X e t) (k : ∀ σ H Q, u σ H Q → t σ H Q) : PE X e u := ⟨fun pins s σ H Q I q => h.run pins s σ H Q I (k _ _ _ q)⟩
theorem _root_.L2.PT.imp {e : Expr} {t u : TT} (h : PT X e t) (k : ∀ σ H Q, u σ H Q → t σ H Q) : PT X e u := ⟨fun pins s σ H Q I q => h.run pins s σ H Q I (k _ _ _ q)⟩
theorem _root_.L2.PA.imp {e : List Expr} {t u : TA} (h : PA X e t) (k : ∀ σ H Q, u σ H Q → t σ H Q) : PA X e u := ⟨fun pos pins s σ H Q I q => h.run pos pins s σ H Q I (k _ _ _ q)⟩
theorem _root_.L2.PS.imp {e : Stmt} {t u : TS} (h : PS X e t) (k : ∀ D σ H, u D σ H → t D σ H) : PS X e u := ⟨fun pins s σ H Q I q => h.run pins s σ H Q I (k _ _ _ q)⟩
theorem _root_.L2.PSs.imp {e : List Stmt} {t u : TS} (h : PSs X e t) (k : ∀ D σ H, u D σ H → t D σ H) : PSs X e u := ⟨fun pins s σ H Q I q => h.run pins s σ H Q I (k _ _ _ q)⟩
end
/-! from data to the library's data -/
mutual
def D.pd : D → PyData
  | .bl b => .bool b
  | .int i => .int i
  | .str s => .str s
  | .tup xs => .tuple (D.pds xs)
  | .lst xs => .list (D.pds xs)
  | _ => .none
def D.pds : List D → List PyData
  | [] => []
  | x :: xs => D.pd x :: D.pds xs
end
mutual
theorem eqb_pd : ∀ (a b : D), a.pl = true → b.pl = true → PyData.eqv a.pd b.pd = D.eqb a b
  | .non, b, _, hb => by cases b <;> simp_all [D.pd, D.eqb, PyData.eqv, D.pl]
  | .bl x, b, _, hb => by cases b <;> simp_all [D.pd, D.eqb, PyData.eqv, D.pl]
  | .int x, b, _, hb => by cases b <;> simp_all [D.pd, D.eqb, PyData.eqv, D.pl]
  | .str x, b, _, hb => by cases b <;> simp_all [D.pd, D.eqb, PyData.eqv, D.pl]
  | .tup xs, b, ha, hb => by
    cases b with
    | tup ys =>
      simp only [D.pl] at ha hb
      simp only [D.pd, D.eqb, PyData.eqv]
      exact eqbs_pds xs ys ha hb
    | _ => simp_all [D.pd, D.eqb, PyData.eqv, D.pl]
  | .lst xs, b, ha, hb => by
    cases b with
    | lst ys =>
      simp only [D.pl] at ha hb
      simp only [D.pd, D.eqb, PyData.eqv]
      exact eqbs_pds xs ys ha hb
    | _ => simp_all [D.pd, D.eqb, PyData.eqv, D.pl]
  | .rol _, _, ha, _ => by simp [D.pl] at ha
  | .fn _, _, ha, _ => by simp [D.pl] at ha
  | .cell _, _, ha, _ => by simp [D.pl] at ha
theorem eqbs_pds : ∀ (a b : List D), D.pls a = true → D.pls b = true → PyData.eqvAll (D.pds a) (D.pds b) = D.eqbs a b
  | [], [], _, _ => rfl
  | [], _ :: _, _, _ => by simp [D.pds, D.eqbs, PyData.eqvAll]
  | _ :: _, [], _, _ => by simp [D.pds, D.eqbs, PyData.eqvAll]
  | a :: as, b :: bs, ha, hb => by
    simp only [D.pls, Bool.and_eq_true] at ha hb
    simp only [D.pds, D.eqbs, PyData.eqvAll]
    rw [eqb_pd a b ha.1 hb.1, eqbs_pds as bs ha.2 hb.2]
end
mutual
theorem dep_pd : ∀ a : D, a.pd.depth ≤ a.dep
  | .non | .bl _ | .int _ | .str _ | .rol _ | .fn _ | .cell _ => by simp [D.pd, D.dep, PyData.depth]
  | .tup xs => by
    have := deps_pds xs
    simp only [D.pd, D.dep, PyData.depth]; omega
  | .lst xs => by
    have := deps_pds xs
    simp only [D.pd, D.dep, PyData.depth]; omega
theorem deps_pds : ∀ a : List D, PyData.depthAll (D.pds a) ≤ D.deps a
  | [] => by simp [D.pds, D.deps, PyData.depthAll]
  | x :: xs => by
    have h1 := dep_pd x
    have h2 := deps_pds xs
    simp only [D.pds, D.deps, PyData.depthAll]; omega
end
section
variable {K : PySem.W.Frag} {cf : Nat → Option Addr} {ι : List Addr} {F H : Hp}
mutual
theorem R.dp (sub : ∀ a o, F a = some o → H a = some o) : ∀ {d : D} {v : V}, R K cf ι F d v → d.pl = true → Dp K H v d.pd ∧ d.pd.canLay0 = true
  | _, _, .non, _ => ⟨.non, rfl⟩
  | _, _, .bl b, _ => ⟨.bl b, rfl⟩
  | _, _, .int i, _ => ⟨.int i, rfl⟩
  | _, _, .str _ h, _ => ⟨.str _, by simpa [D.pd, PyData.canLay0] using h⟩
  | _, _, .fn _, h => by simp [D.pl] at h
  | _, _, .cell _, h => by simp [D.pl] at h
  | _, _, .rol _ _ _, h => by simp [D.pl] at h
  | _, _, .tup h1 h2 _, h => by
    simp only [D.pl] at h
    obtain ⟨a, b⟩ := RL.dp sub h2 h
    simp only [D.pd, PyData.canLay0]
    exact ⟨.tup (sqt_mono sub h1) a, b⟩
  | _, _, .lst h1 h2 _, h => by
    simp only [D.pl] at h
    obtain ⟨a, b⟩ := RL.dp sub h2 h
    simp only [D.pd, PyData.canLay0]
    exact ⟨.lst (SqL.of (sub _ _ h1)) a, b⟩
theorem RL.dp (sub : ∀ a o, F a = some o → H a = some o) : ∀ {d : List D} {v : List V}, RL K cf ι F d v → D.pls d = true → DpAll K H v (D.pds d) ∧ PyData.canLayAll0 (D.pds d) = true
  | _, _, .nil, _ => ⟨.nil, rfl⟩
  | _, _, .cons h1 h2, h => by
    simp only [D.pls, Bool.and_eq_true] at h
    obtain ⟨a, b⟩ := R.dp sub h1 h.1
    obtain ⟨c, e⟩ := RL.dp sub h2 h.2
    simp only [D.pds, PyData.canLayAll0]
    exact ⟨.cons a c, by rw [b, e]; rfl⟩
end
theorem R.shaped {d : D} {v : V} (h : R K cf ι F d v) (c : d.cmp = true) : SeqAt.shaped d.pd = true := by
  simp only [D.cmp, Bool.and_eq_true, decide_eq_true_eq] at c
  have h1 := (h.dp (H := F) (fun _ _ h => h) c.1).2
  have h2 := dep_pd d
  unfold SeqAt.shaped
  rw [h1, decide_eq_true (by omega)]
  rfl
end
end MP

/-! MPD: operators and built-ins on values. -/
namespace MP
open PySem L2

def o2bin : O2 → Option Operator
  | .add => some .Add
  | .sub => some .Sub
  | .mul => some .Mult
  | .fdiv => some .FloorDiv
  | .mod => some .Mod
  | .pow => some .Pow
  | _ => none
def o2cmp : O2 → Option CmpOp
  | .eq => some .Eq
  | .ne => some .NotEq
  | .lt => some .Lt
  | .le => some .LtE
  | .gt => some .Gt
  | .ge => some .GtE
  | .isin => some .In
  | .notin => some .NotIn
  | _ => none

theorem lim_sz {n : Nat} (h : n ≤ lim) : n ≤ sizeLine := Nat.le_trans h (by decide)
theorem strOk_append {s t : Str} (h1 : PyData.strOk s = true) (h2 : PyData.strOk t = true) : PyData.strOk (s ++ t) = true := by
  unfold PyData.strOk at *
  show (s.cps ++ t.cps).all _ = true
  rw [Array.all_append, h1, h2]; rfl
theorem str_app_len (s t : Str) : (s ++ t).length = s.length + t.length := by
  show (s.cps ++ t.cps).size = _
  rw [Array.size_append]; rfl
section
variable {X : Cx} {cf : Nat → Option Addr}
theorem R.tupOf {ι : List Addr} {F : Hp} {K : PySem.W.Frag} {p : Addr} {ds : List D} {vs : List V} (h : RL K cf ι F ds vs) (hl : ds.length ≤ lim) (hp : F p = some (.tup vs)) : R K cf ι F (.tup ds) (.ref p) := .tup (SqT.of hp) h hl

theorem eqV_D {K : PySem.W.Frag} {ι : List Addr} {F : Hp} {a b : D} {x y : V} (hx : R K cf ι F a x) (hy : R K cf ι F b y) (fa : a.flat = true) (fb : b.flat = true) : eqV x y = D.eqb a b ∧ flatV x = true ∧ flatV y = true := by
  cases a <;> simp [D.flat] at fa <;> cases b <;> simp [D.flat] at fb <;> cases hx <;> cases hy <;> simp [eqV, D.eqb, flatV]
theorem any_eqV {K : PySem.W.Frag} {ι : List Addr} {F : Hp} {a : D} {x : V} (hx : R K cf ι F a x) (fa : a.flat = true) : ∀ {ds : List D} {vs : List V}, RL K cf ι F ds vs → ds.all D.flat = true → inV x vs = ds.any (fun z => D.eqb z a) ∧ vs.all flatV = true
  | _, _, .nil, _ => ⟨rfl, rfl⟩
  | _, _, .cons h1 h2, h => by
    simp only [List.all_cons, Bool.and_eq_true] at h
    obtain ⟨e1, e2, e3⟩ := eqV_D h1 hx h.1 fa
    obtain ⟨e4, e5⟩ := any_eqV hx fa h2 h.2
    unfold inV at *
    simp only [List.any_cons, List.all_cons, e1, e4, e2, e5, Bool.and_self, and_self]
theorem any_eqD {ds : List D} {a : D} (ha : a.pl = true) (h : D.pls ds = true) : (D.pds ds).any (fun z => PyData.eqv z a.pd) = ds.any fun z => D.eqb z a := by
  induction ds with
  | nil => rfl
  | cons d ds ih =>
    simp only [D.pls, Bool.and_eq_true] at h
    simp only [D.pds, List.any_cons]
    rw [eqb_pd d a h.1 ha, ih h.2]

theorem op_bin (hc : X.calm = true) : ∀ {o : O2} {op : Operator}, o2bin o = some op → OpR X (binaryOp op) (rD2 X.K cf (op2 o)) := by
  intro o op ho pins s σ H x y v u Q I rx ry h
  obtain ⟨ι, F, S, dx, dy, d, G, hx, hy, hg, k⟩ := h
  cases o <;> simp only [o2bin, Option.some.injEq, reduceCtorEq] at ho <;> subst ho
  case add =>
    cases dx <;> cases dy <;> simp only [op2, reduceCtorEq] at hg
    case int.int i j =>
      cases hx; cases hy; cases hg
      exact op_add pins s σ H _ _ v u Q I rx ry ⟨i, j, rfl, rfl, k _ _ _ _ .refl G (.int _)⟩
    case str.str i j =>
      cases hx with | str l1 o1 => cases hy with | str l2 o2 =>
      split at hg
      · rename_i hl
        cases hg
        exact op_add_str pins s σ H _ _ v u Q I rx ry ⟨i, j, rfl, rfl, lim_sz hl, k _ _ _ _ .refl G (.str (by rw [str_app_len]; exact hl) (strOk_append o1 o2))⟩
      · cases hg
    case tup.tup xs ys =>
      cases hx with | tup a1 a2 a3 => cases hy with | tup b1 b2 b3 =>
      split at hg
      · rename_i hl
        cases hg
        refine op_catA pins s σ H _ _ v u Q I rx ry ⟨_, _, _, _, rfl, rfl, sqt_mono G.sub a1, sqt_mono G.sub b1, by rw [← a2.length, ← b2.length]; exact lim_sz hl, fun e => ?_, fun _ e => ?_, fun _ _ p hp => ?_⟩
        · subst e
          cases a2
          exact k _ _ _ _ .refl G (.tup b1 b2 b3)
        · subst e
          cases b2
          rw [List.append_nil] at k
          exact k _ _ _ _ .refl G (.tup a1 a2 a3)
        · obtain ⟨G', st⟩ := G.new (o := .tup _) hp
          exact k _ _ _ _ st G' (.tupOf ((a2.append b2).step st) (by rw [List.length_append]; exact hl) upd_same)
      · cases hg
    case lst.lst xs ys =>
      cases hx with | lst a1 a2 a3 => cases hy with | lst b1 b2 b3 =>
      split at hg
      · rename_i hl
        cases hg
        refine op_cat pins s σ H _ _ v u Q I rx ry ⟨_, _, _, _, rfl, rfl, G.sub _ _ a1, G.sub _ _ b1, by rw [← a2.length, ← b2.length]; exact lim_sz hl, fun p hp => ?_⟩
        obtain ⟨G', st⟩ := G.new (o := .lst _) hp
        exact k _ _ _ _ st G' (.lst upd_same ((a2.append b2).step st) (by rw [List.length_append]; exact hl))
      · cases hg
  case sub =>
    cases dx <;> cases dy <;> simp only [op2, reduceCtorEq] at hg
    cases hx; cases hy; cases hg
    exact op_sub pins s σ H _ _ v u Q I rx ry ⟨_, _, rfl, rfl, k _ _ _ _ .refl G (.int _)⟩
  case mul =>
    cases dx <;> cases dy <;> simp only [op2, reduceCtorEq] at hg
    case int.int i j =>
      cases hx; cases hy
      split at hg
      · rename_i hm
        cases hg
        refine op_mul pins s σ H _ _ v u Q I rx ry ⟨_, _, rfl, rfl, ?_, k _ _ _ _ .refl G (.int _)⟩
        simp only [mulOk, Bool.or_eq_true, Bool.and_eq_true, decide_eq_true_eq] at hm
        exact hm
      · cases hg
    case tup.int xs j =>
      cases hy
      cases hx with | tup a1 a2 a3 =>
      split at hg
      · rename_i hm
        cases hg
        simp only [Bool.and_eq_true, decide_eq_true_eq] at hm
        obtain ⟨⟨⟨h1, h2⟩, h3⟩, h4⟩ := hm
        refine op_repT pins s σ H _ _ v u Q I rx ry ⟨_, _, _, rfl, rfl, sqt_mono G.sub a1, fun e => h1 ?_, h2, h3, by rw [← a2.length]; exact h4, fun p hp => ?_⟩
        · rw [a2.length, e]; rfl
        · obtain ⟨G', st⟩ := G.new (o := .tup _) hp
          refine k _ _ _ _ st G' (.tupOf ((a2.rep _).step st) ?_ upd_same)
          have e : (List.replicate j.toNat xs).flatten.length = j.toNat * xs.length := by simp
          rw [e]
          have h5 : j.toNat ≤ 1000 := by omega
          exact Nat.mul_le_mul h5 h4
      · cases hg
  case fdiv =>
    cases dx <;> cases dy <;> simp only [op2, reduceCtorEq] at hg
    cases hx; cases hy
    split at hg
    · rename_i hm
      cases hg
      simp only [Bool.and_eq_true, decide_eq_true_eq] at hm
      exact op_fdiv pins s σ H _ _ v u Q I rx ry ⟨_, _, rfl, rfl, hm, k _ _ _ _ .refl G (.int _)⟩
    · cases hg
  case mod =>
    cases dx <;> cases dy <;> simp only [op2, reduceCtorEq] at hg
    cases hx; cases hy
    split at hg
    · rename_i hm
      cases hg
      exact op_mod pins s σ H _ _ v u Q I rx ry ⟨_, _, rfl, rfl, hm, k _ _ _ _ .refl G (.int _)⟩
    · cases hg
  case pow =>
    cases dx <;> cases dy <;> simp only [op2, reduceCtorEq] at hg
    cases hx; cases hy
    split at hg
    · rename_i hm
      cases hg
      simp only [Bool.and_eq_true, decide_eq_true_eq] at hm
      exact op_pow pins s σ H _ _ v u Q I rx ry ⟨_, _, rfl, rfl, ⟨hm.1.1, hm.1.2, hm.2⟩, k _ _ _ _ .refl G (.int _)⟩
    · cases hg

theorem op_cmp (hu : X.A.units + 65 < cLine) : ∀ {o : O2} {op : CmpOp}, o2cmp o = some op → OpR X (compareOp op) (rD2 X.K cf (op2 o)) := by
  intro o op ho pins s σ H x y v u Q I rx ry h
  obtain ⟨ι, F, S, dx, dy, d, G, hx, hy, hg, k⟩ := h
  have hu2 : X.A.units + 64 < cLine := by omega
  cases o <;> simp only [o2cmp, Option.some.injEq, reduceCtorEq] at ho <;> subst ho
  case eq =>
    simp only [op2] at hg
    split at hg
    · rename_i hm
      cases hg
      simp only [Bool.and_eq_true] at hm
      have c1 := hx.shaped hm.1
      have c2 := hy.shaped hm.2
      have p1 : dx.pl = true := (Bool.and_eq_true_iff.mp hm.1).1
      have p2 : dy.pl = true := (Bool.and_eq_true_iff.mp hm.2).1
      refine op_eqD hu2 pins s σ H _ _ v u Q I rx ry ⟨_, _, (hx.dp G.sub p1).1, (hy.dp G.sub p2).1, c1, c2, ?_⟩
      rw [eqb_pd _ _ p1 p2]
      exact k _ _ _ _ .refl G (.bl _)
    · cases hg
  case ne =>
    simp only [op2] at hg
    split at hg
    · rename_i hm
      cases hg
      simp only [Bool.and_eq_true] at hm
      have c1 := hx.shaped hm.1
      have c2 := hy.shaped hm.2
      have p1 : dx.pl = true := (Bool.and_eq_true_iff.mp hm.1).1
      have p2 : dy.pl = true := (Bool.and_eq_true_iff.mp hm.2).1
      refine op_neD hu2 pins s σ H _ _ v u Q I rx ry ⟨_, _, (hx.dp G.sub p1).1, (hy.dp G.sub p2).1, c1, c2, ?_⟩
      rw [eqb_pd _ _ p1 p2]
      exact k _ _ _ _ .refl G (.bl _)
    · cases hg
  case lt =>
    cases dx <;> cases dy <;> simp only [op2, reduceCtorEq] at hg
    cases hx; cases hy; cases hg
    exact op_lt pins s σ H _ _ v u Q I rx ry ⟨_, _, rfl, rfl, k _ _ _ _ .refl G (.bl _)⟩
  case le =>
    cases dx <;> cases dy <;> simp only [op2, reduceCtorEq] at hg
    cases hx; cases hy; cases hg
    exact op_le pins s σ H _ _ v u Q I rx ry ⟨_, _, rfl, rfl, k _ _ _ _ .refl G (.bl _)⟩
  case gt =>
    cases dx <;> cases dy <;> simp only [op2, reduceCtorEq] at hg
    cases hx; cases hy; cases hg
    exact op_gt pins s σ H _ _ v u Q I rx ry ⟨_, _, rfl, rfl, k _ _ _ _ .refl G (.bl _)⟩
  case ge =>
    cases dx <;> cases dy <;> simp only [op2, reduceCtorEq] at hg
    cases hx; cases hy; cases hg
    exact op_ge pins s σ H _ _ v u Q I rx ry ⟨_, _, rfl, rfl, k _ _ _ _ .refl G (.bl _)⟩
  case isin =>
    cases dy <;> simp only [op2, reduceCtorEq] at hg
    case lst ds =>
      split at hg
      · rename_i hm
        cases hg
        simp only [Bool.and_eq_true] at hm
        have c1 := hx.shaped hm.1
        have c2 := hy.shaped hm.2
        have p1 : dx.pl = true := (Bool.and_eq_true_iff.mp hm.1).1
        have p2 : (D.lst ds).pl = true := (Bool.and_eq_true_iff.mp hm.2).1
        have p3 : D.pls ds = true := by simpa [D.pl] using p2
        refine op_inD hu pins s σ H _ _ v u Q I rx ry ⟨_, D.pds ds, (hx.dp G.sub p1).1, (hy.dp G.sub p2).1, c1, c2, ?_⟩
        rw [any_eqD p1 p3]
        exact k _ _ _ _ .refl G (.bl _)
      · cases hg
    case tup ds =>
      split at hg
      · rename_i hm
        cases hg
        simp only [Bool.and_eq_true] at hm
        cases hy with | tup b1 b2 b3 =>
        obtain ⟨e1, e2⟩ := any_eqV hx hm.1 b2 hm.2
        refine op_in_seq pins s σ H _ _ v u Q I rx ry ⟨_, _, rfl, .inr (sqt_mono G.sub b1), (eqV_D hx hx hm.1 hm.1).2.1, e2, ?_⟩
        rw [if_neg (by decide), e1]
        exact k _ _ _ _ .refl G (.bl _)
      · cases hg
  case notin =>
    cases dy <;> simp only [op2, reduceCtorEq] at hg
    case lst ds =>
      split at hg
      · rename_i hm
        cases hg
        simp only [Bool.and_eq_true] at hm
        have c1 := hx.shaped hm.1
        have c2 := hy.shaped hm.2
        have p1 : dx.pl = true := (Bool.and_eq_true_iff.mp hm.1).1
        have p2 : (D.lst ds).pl = true := (Bool.and_eq_true_iff.mp hm.2).1
        have p3 : D.pls ds = true := by simpa [D.pl] using p2
        refine op_notInD hu pins s σ H _ _ v u Q I rx ry ⟨_, D.pds ds, (hx.dp G.sub p1).1, (hy.dp G.sub p2).1, c1, c2, ?_⟩
        rw [any_eqD p1 p3]
        exact k _ _ _ _ .refl G (.bl _)
      · cases hg
    case tup ds =>
      split at hg
      · rename_i hm
        cases hg
        simp only [Bool.and_eq_true] at hm
        cases hy with | tup b1 b2 b3 =>
        obtain ⟨e1, e2⟩ := any_eqV hx hm.1 b2 hm.2
        refine op_notIn_seq pins s σ H _ _ v u Q I rx ry ⟨_, _, rfl, .inr (sqt_mono G.sub b1), (eqV_D hx hx hm.1 hm.1).2.1, e2, ?_⟩
        rw [if_pos rfl, e1]
        exact k _ _ _ _ .refl G (.bl _)
      · cases hg
end
end MP

/-! MPE: built-ins, subscripts, slices, isinstance. -/
namespace MP
open PySem L2

def b1val : B1 → Value
  | .len => .builtin "len"
  | .abs => .builtin "abs"
  | .sum => .builtin "sum"
  | .max => .builtin "max"
  | .min => .builtin "min"
  | .all => .builtin "all"
  | .any => .builtin "any"
  | .int => .type "int"
  | .list => .type "list"
  | .tuple => .type "tuple"
  | .repr => .builtin "repr"
  | .srt => .builtin "sorted"
def b1nm : B1 → Str
  | .len => "len"
  | .abs => "abs"
  | .sum => "sum"
  | .max => "max"
  | .min => "min"
  | .all => "all"
  | .any => "any"
  | .int => "int"
  | .list => "list"
  | .tuple => "tuple"
  | .repr => "repr"
  | .srt => "sorted"
def b2val : B2 → Value
  | .max => .builtin "max"
  | .min => .builtin "min"
def b2nm : B2 → Str
  | .max => "max"
  | .min => "min"
theorem maxI_is : ∀ {ns : List Int}, ns ≠ [] → maxI ns ∈ ns ∧ ∀ y, y ∈ ns → y ≤ maxI ns
  | [], h => absurd rfl h
  | [x], _ => ⟨by simp [maxI], fun y hy => by simp at hy; subst hy; exact Int.le_refl _⟩
  | x :: z :: r, _ => by
    obtain ⟨h1, h2⟩ := maxI_is (ns := z :: r) (by simp)
    simp only [maxI]
    split
    · exact ⟨List.mem_cons_of_mem _ h1, fun y hy => by
        rcases List.mem_cons.mp hy with rfl | hy
        · assumption
        · exact h2 y hy⟩
    · refine ⟨List.mem_cons_self, fun y hy => ?_⟩
      rcases List.mem_cons.mp hy with rfl | hy
      · exact Int.le_refl _
      · have := h2 y hy; omega
theorem minI_is : ∀ {ns : List Int}, ns ≠ [] → minI ns ∈ ns ∧ ∀ y, y ∈ ns → minI ns ≤ y
  | [], h => absurd rfl h
  | [x], _ => ⟨by simp [minI], fun y hy => by simp at hy; subst hy; exact Int.le_refl _⟩
  | x :: z :: r, _ => by
    obtain ⟨h1, h2⟩ := minI_is (ns := z :: r) (by simp)
    simp only [minI]
    split
    · exact ⟨List.mem_cons_of_mem _ h1, fun y hy => by
        rcases List.mem_cons.mp hy with rfl | hy
        · assumption
        · exact h2 y hy⟩
    · refine ⟨List.mem_cons_self, fun y hy => ?_⟩
      rcases List.mem_cons.mp hy with rfl | hy
      · exact Int.le_refl _
      · have := h2 y hy; omega
theorem insI_perm (x : Int) : ∀ l, (insI x l).Perm (x :: l)
  | [] => .refl _
  | y :: r => by
    unfold insI
    split
    · exact .refl _
    · exact ((insI_perm x r).cons y).trans (.swap x y r)
theorem srtI_perm : ∀ l, (srtI l).Perm l
  | [] => .refl _
  | x :: r => (insI_perm x _).trans ((srtI_perm r).cons x)
theorem insI_sorted (x : Int) : ∀ {l : List Int}, l.Pairwise (· ≤ ·) → (insI x l).Pairwise (· ≤ ·)
  | [], _ => List.pairwise_singleton _ _
  | y :: r, h => by
    have h' := List.pairwise_cons.mp h
    unfold insI
    split
    · rename_i c
      refine List.pairwise_cons.mpr ⟨fun z hz => ?_, h⟩
      rcases List.mem_cons.mp hz with rfl | hz
      · exact c
      · exact Int.le_trans c (h'.1 z hz)
    · rename_i c
      refine List.pairwise_cons.mpr ⟨fun z hz => ?_, insI_sorted x h'.2⟩
      rcases List.mem_cons.mp ((insI_perm x r).mem_iff.mp hz) with rfl | hz
      · omega
      · exact h'.1 z hz
theorem srtI_sorted : ∀ l : List Int, (srtI l).Pairwise (· ≤ ·)
  | [] => .nil
  | x :: r => insI_sorted x (srtI_sorted r)
theorem sorted_eq : ∀ {a b : List Int}, a.Perm b → a.Pairwise (· ≤ ·) → b.Pairwise (· ≤ ·) → a = b
  | [], b, p, _, _ => (List.perm_nil.mp p.symm).symm
  | x :: a, [], p, _, _ => absurd (List.perm_nil.mp p) (by simp)
  | x :: a, y :: b, p, ha, hb => by
    have h1 := List.pairwise_cons.mp ha
    have h2 := List.pairwise_cons.mp hb
    have e : x = y := by
      rcases List.mem_cons.mp (p.mem_iff.mp List.mem_cons_self) with e | m
      · exact e
      · rcases List.mem_cons.mp (p.mem_iff.mpr List.mem_cons_self) with e | m'
        · exact e.symm
        · have q1 := h2.1 x m
          have q2 := h1.1 y m'
          omega
    subst e
    rw [sorted_eq ((List.perm_cons x).mp p) h1.2 h2.2]
section
variable {X : Cx} {cf : Nat → Option Addr}
def rB1 (K : PySem.W.Frag) (cf : Nat → Option Addr) (f : D → Option D) : List V → Hp → VK → Prop := fun xs H Q => ∃ x, xs = [x] ∧ rD K cf f x H Q
theorem call_b1 (hc : X.calm = true) : ∀ f : B1, CallR X (b1val f) (rB1 X.K cf (bi1 f)) := by
  intro f pins s σ H xs us Q I r h
  obtain ⟨x, rfl, ι, F, S, dx, d, G, hx, hg, k⟩ := h
  cases f
  case len =>
    cases dx <;> simp only [bi1, reduceCtorEq, Option.some.injEq] at hg <;> subst hg
    · cases hx with | str l1 o1 =>
      exact call_len pins s σ H _ us Q I r ⟨_, _, rfl, ⟨lim_sz l1, rfl⟩, k _ _ _ _ .refl G (.int _)⟩
    · cases hx with | tup a1 a2 a3 =>
      exact call_len pins s σ H _ us Q I r ⟨_, _, rfl, .inr ⟨_, sqt_mono G.sub a1, rfl⟩, by rw [← a2.length]; exact k _ _ _ _ .refl G (.int _)⟩
    · cases hx with | lst a1 a2 a3 =>
      exact call_len pins s σ H _ us Q I r ⟨_, _, rfl, .inl ⟨_, SqL.of (G.sub _ _ a1), rfl⟩, by rw [← a2.length]; exact k _ _ _ _ .refl G (.int _)⟩
    · cases hx with | rol a1 a2 a3 =>
      exact call_len pins s σ H _ us Q I r ⟨_, _, rfl, .inl ⟨_, sql_mono G.sub a1, rfl⟩, by rw [← a2.length]; exact k _ _ _ _ .refl G (.int _)⟩
  case abs =>
    cases dx <;> simp only [bi1, reduceCtorEq, Option.some.injEq] at hg
    subst hg
    cases hx
    exact call_abs pins s σ H _ us Q I r ⟨_, rfl, k _ _ _ _ .refl G (.int _)⟩
  case sum =>
    cases dx <;> simp only [bi1, reduceCtorEq, Option.map_eq_some_iff] at hg
    obtain ⟨is, e, rfl⟩ := hg
    cases hx with | lst a1 a2 a3 =>
    rw [dInts_eq e] at a2
    have e2 := a2.ints
    subst e2
    exact cr_sum hc pins s σ H _ us Q I r ⟨_, _, rfl, SqL.of (G.sub _ _ a1), k _ _ _ _ .refl G (.int _)⟩
  case max =>
    cases dx <;> simp only [bi1, reduceCtorEq, Option.bind_eq_some_iff] at hg
    obtain ⟨is, e, hg⟩ := hg
    split at hg
    · cases hg
    · rename_i hne
      cases hg
      cases hx with | lst a1 a2 a3 =>
      rw [dInts_eq e] at a2
      have e2 := a2.ints
      subst e2
      refine cr_max hc pins s σ H _ us Q I r ⟨_, _, rfl, SqL.of (G.sub _ _ a1), by omega, fun m h1 h2 => ?_⟩
      obtain ⟨h3, h4⟩ := maxI_is (ns := is) (by intro e; subst e; exact hne rfl)
      have : m = maxI is := Int.le_antisymm (h4 m h1) (h2 _ h3)
      subst this
      exact k _ _ _ _ .refl G (.int _)
  case min =>
    cases dx <;> simp only [bi1, reduceCtorEq, Option.bind_eq_some_iff] at hg
    obtain ⟨is, e, hg⟩ := hg
    split at hg
    · cases hg
    · rename_i hne
      cases hg
      cases hx with | lst a1 a2 a3 =>
      rw [dInts_eq e] at a2
      have e2 := a2.ints
      subst e2
      refine cr_min hc pins s σ H _ us Q I r ⟨_, _, rfl, SqL.of (G.sub _ _ a1), by omega, fun m h1 h2 => ?_⟩
      obtain ⟨h3, h4⟩ := minI_is (ns := is) (by intro e; subst e; exact hne rfl)
      have : m = minI is := Int.le_antisymm (h2 _ h3) (h4 m h1)
      subst this
      exact k _ _ _ _ .refl G (.int _)
  case all =>
    cases dx <;> simp only [bi1, reduceCtorEq, Option.map_eq_some_iff] at hg
    obtain ⟨is, e, rfl⟩ := hg
    cases hx with | lst a1 a2 a3 =>
    rw [dBls_eq e] at a2
    have e2 := a2.bls
    subst e2
    exact cr_all hc pins s σ H _ us Q I r ⟨_, _, rfl, SqL.of (G.sub _ _ a1), k _ _ _ _ .refl G (.bl _)⟩
  case any =>
    cases dx <;> simp only [bi1, reduceCtorEq, Option.map_eq_some_iff] at hg
    obtain ⟨is, e, rfl⟩ := hg
    cases hx with | lst a1 a2 a3 =>
    rw [dBls_eq e] at a2
    have e2 := a2.bls
    subst e2
    exact cr_any hc pins s σ H _ us Q I r ⟨_, _, rfl, SqL.of (G.sub _ _ a1), k _ _ _ _ .refl G (.bl _)⟩
  case int =>
    cases dx <;> simp only [bi1, reduceCtorEq, Option.some.injEq] at hg <;> subst hg <;> cases hx
    · exact call_int1 pins s σ H _ us Q I r (.inr ⟨_, rfl, k _ _ _ _ .refl G (.int _)⟩)
    · exact call_int1 pins s σ H _ us Q I r (.inl ⟨_, rfl, k _ _ _ _ .refl G (.int _)⟩)
  case list =>
    cases dx <;> simp only [bi1, reduceCtorEq, Option.some.injEq] at hg <;> subst hg
    · cases hx with | tup a1 a2 a3 =>
      refine call_list_of pins s σ H _ us Q I r ⟨_, _, rfl, .inr (sqt_mono G.sub a1), fun p hp => ?_⟩
      obtain ⟨G', st⟩ := G.new (o := .lst _) hp
      exact k _ _ _ _ st G' (.lst upd_same (a2.step st) a3)
    · cases hx with | lst a1 a2 a3 =>
      refine call_list_of pins s σ H _ us Q I r ⟨_, _, rfl, .inl (SqL.of (G.sub _ _ a1)), fun p hp => ?_⟩
      obtain ⟨G', st⟩ := G.new (o := .lst _) hp
      exact k _ _ _ _ st G' (.lst upd_same (a2.step st) a3)
  case tuple =>
    cases dx <;> simp only [bi1, reduceCtorEq, Option.some.injEq] at hg <;> subst hg
    · cases hx with | tup a1 a2 a3 =>
      exact call_tuple_of pins s σ H _ us Q I r ⟨_, _, rfl, .inr ⟨sqt_mono G.sub a1, k _ _ _ _ .refl G (.tup a1 a2 a3)⟩⟩
    · cases hx with | lst a1 a2 a3 =>
      refine call_tuple_of pins s σ H _ us Q I r ⟨_, _, rfl, .inl ⟨SqL.of (G.sub _ _ a1), fun p hp => ?_⟩⟩
      obtain ⟨G', st⟩ := G.new (o := .tup _) hp
      exact k _ _ _ _ st G' (.tupOf (a2.step st) a3 upd_same)
  case repr =>
    cases dx <;> simp only [bi1, reduceCtorEq, Option.some.injEq] at hg
    subst hg
    cases hx
    cases r with | cons r1 r2 =>
    cases r2
    cases r1
    rename_i b
    have hR : R X.K cf ι F (.str (if b then "True" else "False")) (.str (if b then "True" else "False")) := by
      cases b
      · exact .str (by decide +kernel) (by decide +kernel)
      · exact .str (by decide +kernel) (by decide +kernel)
    exact PySem.P.repr_of_bool ⟨.str _, H, I.tok _, ⟨_, rfl⟩, k _ _ _ _ .refl G hR⟩
  case srt =>
    cases dx <;> simp only [bi1, reduceCtorEq, Option.map_eq_some_iff] at hg
    obtain ⟨is, e, rfl⟩ := hg
    cases hx with | lst a1 a2 a3 =>
    have hl := a3
    rw [dInts_eq e] at a2 hl
    have e2 := a2.ints
    subst e2
    refine cr_sortedI pins s σ H _ us Q I r ⟨_, _, rfl, SqL.of (G.sub _ _ a1), fun ns' p hp hs hn => ?_⟩
    have e3 : ns' = srtI is := sorted_eq (hp.trans (srtI_perm is).symm) hs (srtI_sorted is)
    subst e3
    obtain ⟨G', st⟩ := G.new (o := .lst _) hn
    refine k _ _ _ _ st G' (.lst upd_same (RL.map_int _) ?_)
    rw [List.length_map, (srtI_perm is).length_eq]
    rw [List.length_map] at hl
    exact hl
def rB2 (K : PySem.W.Frag) (cf : Nat → Option Addr) (f : D → D → Option D) : List V → Hp → VK → Prop := fun xs H Q => ∃ x y, xs = [x, y] ∧ rD2 K cf f x y H Q
theorem call_b2 (hc : X.calm = true) : ∀ f : B2, CallR X (b2val f) (rB2 X.K cf (bi2 f)) := by
  intro f pins s σ H xs us Q I r h
  obtain ⟨x, y, rfl, ι, F, S, dx, dy, d, G, hx, hy, hg, k⟩ := h
  cases f
  case max =>
    cases dx <;> cases dy <;> simp only [bi2, reduceCtorEq, Option.some.injEq] at hg
    subst hg
    cases hx; cases hy
    exact call_max2 hc pins s σ H _ us Q I r ⟨_, _, rfl, k _ _ _ _ .refl G (.int _)⟩
  case min =>
    cases dx <;> cases dy <;> simp only [bi2, reduceCtorEq, Option.some.injEq] at hg
    subst hg
    cases hx; cases hy
    exact call_min2 hc pins s σ H _ us Q I r ⟨_, _, rfl, k _ _ _ _ .refl G (.int _)⟩
theorem atI_RL {K : PySem.W.Frag} {ι : List Addr} {F : Hp} {ds : List D} {vs : List V} {i : Int} {d : D} (h : RL K cf ι F ds vs) (e : atI ds i = some d) : ∃ v, atI vs i = some v ∧ R K cf ι F d v := by
  unfold atI at *
  rw [← h.length]
  cases q : ixN ds.length i with
  | none => rw [q] at e; cases e
  | some j =>
    rw [q] at e
    exact h.get e
def rIxD (K : PySem.W.Frag) (cf : Nat → Option Addr) : R2 := fun x y H Q => ∃ ι F S dx dy d, Gd K cf S ι F H ∧ R K cf ι F dx x ∧ R K cf ι F dy y ∧ ix S dx dy = some d ∧
  ∀ v ι' F' H', Stp ι F H ι' F' H' → Gd K cf S ι' F' H' → R K cf ι' F' d v → Q v H'
theorem strOk_one {s : Str} {c : Nat} {i : Nat} (h : PyData.strOk s = true) (e : s.cps.toList[i]? = some c) : PyData.strOk (⟨#[c]⟩ : Str) = true := by
  have hm : c ∈ s.cps := by
    have := List.mem_of_getElem? e
    simpa using this
  have h2 : c < 0x110000 := by
    have := (Array.all_eq_true_iff_forall_mem.mp h) c hm
    simpa using this
  simp [PyData.strOk, h2]
theorem ix_all : IxR X (rIxD X.K cf) := by
  intro value slice pins s σ H x y v u Q I rx ry h hs
  obtain ⟨ι, F, S, dx, dy, d, G, hx, hy, hg, k⟩ := h
  cases dx <;> cases dy <;> simp only [ix, reduceCtorEq, Option.map_eq_some_iff, Option.bind_eq_some_iff] at hg
  case tup.int xs i =>
    cases hy
    cases hx with | tup a1 a2 a3 =>
    obtain ⟨w, h1, h2⟩ := atI_RL a2 hg
    exact ix_tup value slice pins s σ H _ _ v u Q I rx ry ⟨_, _, _, _, rfl, rfl, sqt_mono G.sub a1, h1, k _ _ _ _ .refl G h2⟩ hs
  case lst.int xs i =>
    cases hy
    cases hx with | lst a1 a2 a3 =>
    obtain ⟨w, h1, h2⟩ := atI_RL a2 hg
    exact ix_list value slice pins s σ H _ _ v u Q I rx ry ⟨_, _, _, _, rfl, rfl, SqL.of (G.sub _ _ a1), h1, k _ _ _ _ .refl G h2⟩ hs
  case rol.int xs i =>
    cases hy
    cases hx with | rol a1 a2 a3 =>
    obtain ⟨w, h1, h2⟩ := atI_RL a2 hg
    exact ix_list value slice pins s σ H _ _ v u Q I rx ry ⟨_, _, _, _, rfl, rfl, sql_mono G.sub a1, h1, k _ _ _ _ .refl G h2⟩ hs
  case str.int z i =>
    cases hy
    cases hx with | str l1 o1 =>
    obtain ⟨c, h1, rfl⟩ := hg
    refine ix_str value slice pins s σ H _ _ v u Q I rx ry ⟨_, _, _, rfl, rfl, lim_sz l1, h1, k _ _ _ _ .refl G (.str (by show 1 ≤ lim; decide) ?_)⟩ hs
    obtain ⟨j, _, h2, _⟩ := atI_get h1
    exact strOk_one o1 h2
  case cell.int j i =>
    cases hy
    cases hx with | cell a1 =>
    obtain ⟨xs, h1, h2⟩ := hg
    obtain ⟨a, vs, h3, h4, h5⟩ := G.cells _ _ h1
    rw [a1] at h3
    cases h3
    obtain ⟨w, h6, h7⟩ := atI_RL h5 h2
    exact ix_list value slice pins s σ H _ _ v u Q I rx ry ⟨_, _, _, _, rfl, rfl, SqL.of h4, h6, k _ _ _ _ .refl G h7⟩ hs
theorem cutD_RL {K : PySem.W.Frag} {ι : List Addr} {F : Hp} {ds : List D} {vs : List V} {lo hi : Option Int} (h : RL K cf ι F ds vs) : RL K cf ι F (cutD ds lo hi) (cutV vs lo hi) := by
  unfold cutD cutV
  rw [h.length]
  exact (h.drop _).take _
theorem cutD_len (ds : List D) (lo hi : Option Int) : (cutD ds lo hi).length ≤ ds.length := by
  unfold cutD
  rw [List.length_take, List.length_drop]
  omega
def rSlD (K : PySem.W.Frag) (cf : Nat → Option Addr) : V → Option Int → Option Int → Hp → VK → Prop := fun x lo hi H Q => ∃ ι F S dx d, Gd K cf S ι F H ∧ R K cf ι F dx x ∧ slc dx lo hi = some d ∧
  ∀ v ι' F' H', Stp ι F H ι' F' H' → Gd K cf S ι' F' H' → R K cf ι' F' d v → Q v H'
theorem sl_all : SlR X (rSlD X.K cf) := by
  intro pins s σ H x v vl vu lo hi sl Q I rx hs pl pu h
  obtain ⟨ι, F, S, dx, d, G, hx, hg, k⟩ := h
  cases dx <;> simp only [slc, reduceCtorEq, Option.some.injEq] at hg <;> subst hg
  · rename_i ds
    cases hx with | tup a1 a2 a3 =>
    refine sl_tupA pins s σ H _ v vl vu lo hi sl Q I rx hs pl pu ⟨_, _, rfl, sqt_mono G.sub a1, fun hw => ?_, fun _ p hp => ?_⟩
    · refine k _ _ _ _ .refl G ?_
      have e : cutD ds lo hi = ds := by
        unfold cutD
        rw [a2.length, hw.1, hw.2, List.drop_zero, Nat.sub_zero, ← a2.length, List.take_length]
      rw [e]
      exact .tup a1 a2 a3
    · obtain ⟨G', st⟩ := G.new (o := .tup _) hp
      exact k _ _ _ _ st G' (.tupOf ((cutD_RL a2).step st) (Nat.le_trans (cutD_len _ _ _) a3) upd_same)
  · rename_i ds
    cases hx with | lst a1 a2 a3 =>
    refine sl_list pins s σ H _ v vl vu lo hi sl Q I rx hs pl pu ⟨_, _, rfl, SqL.of (G.sub _ _ a1), fun p hp => ?_⟩
    obtain ⟨G', st⟩ := G.new (o := .lst _) hp
    exact k _ _ _ _ st G' (.lst upd_same ((cutD_RL a2).step st) (Nat.le_trans (cutD_len _ _ _) a3))

/-! ### isinstance -/
def Ty.nm : Ty → String
  | .int => "int"
  | .bool => "bool"
  | .str => "str"
  | .tuple => "tuple"
  | .list => "list"
def D.ty : D → Option String
  | .non => some "NoneType"
  | .bl _ => some "bool"
  | .int _ => some "int"
  | .str _ => some "str"
  | .tup _ => some "tuple"
  | .lst _ | .rol _ => some "list"
  | .fn _ | .cell _ => none
theorem R.tyx {S : Store} {ι : List Addr} {F H : Hp} {K : PySem.W.Frag} {d : D} {x : V} {n : String} (G : Gd K cf S ι F H) (h : R K cf ι F d x) (e : d.ty = some n) : TyX K H x (.type n) := by
  cases h <;> simp only [D.ty, Option.some.injEq, reduceCtorEq] at e <;> subst e
  case non => exact .base .non
  case bl => exact .base (.bl _)
  case int => exact .base (.int _)
  case str => exact .base (.str _)
  case tup a1 a2 a3 =>
    rcases a1 with (h | ⟨o, h⟩) | ⟨o, its, n, h1, h2, h3⟩
    · exact .base (.tup (G.sub _ _ h))
    · exact .fTuple (G.sub _ _ h)
    · exact .kTuple h1 h2
  case lst a1 a2 a3 => exact .base (.lst (G.sub _ _ a1))
  case rol a1 a2 a3 =>
    rcases a1 with (h | ⟨o, h⟩) | ⟨o, its, n, h1, h2, h3⟩
    · exact .base (.lst (G.sub _ _ h))
    · exact .base (.frz (G.sub _ _ h))
    · exact .kList h1 h2
theorem isTy_kit : ∀ (t : Ty) (d : D) (n : String) (b : Bool), d.ty = some n → isTy t d = some b → kitB n t.nm = some b := by
  intro t d n b e h
  cases d <;> simp only [D.ty, Option.some.injEq, reduceCtorEq] at e <;> subst e <;> cases t <;> simp only [isTy, Option.some.injEq] at h <;> subst h <;> decide +kernel
theorem isTy_ty {t : Ty} {d : D} {b : Bool} (h : isTy t d = some b) : ∃ n, d.ty = some n := by
  cases d <;> first | exact ⟨_, rfl⟩ | (cases t <;> simp [isTy] at h)
end
end MP

/-! MPF: how readings are put together. -/
namespace MP
open PySem L2

section
variable {K : PySem.W.Frag} {cf : Nat → Option Addr} {gv : GV} {cl : CallT} {σ : L2.St} {H : Hp} {Q : VK}
theorem tE_var {i : Nat} (h : tE K cf (ev gv cl (.var i)) σ H Q) : tVar i σ H Q := by
  obtain ⟨ι, F, B, δ, S, d, S', G, L, e, k⟩ := h
  simp only [ev] at e
  split at e
  · rename_i d' hd
    cases e
    obtain ⟨v, h1, h2⟩ := L.val _ _ hd
    exact ⟨v, h1, k _ _ _ _ .refl G h2⟩
  · cases e
theorem tE_const {c : E} {d : D} {v : V} (hc : ∀ δ S, ev gv cl c δ S = some (d, S)) (hr : ∀ ι F, R K cf ι F d v) (h : tE K cf (ev gv cl c) σ H Q) : tC v σ H Q := by
  obtain ⟨ι, F, B, δ, S, d', S', G, L, e, k⟩ := h
  rw [hc] at e
  cases e
  exact k _ _ _ _ .refl G (hr _ _)
theorem tE_op {o : O2} {a b : E} (h : tE K cf (ev gv cl (.op o a b)) σ H Q) : tOp (rD2 K cf (op2 o)) (tE K cf (ev gv cl a)) (tE K cf (ev gv cl b)) σ H Q := by
  obtain ⟨ι, F, B, δ, S, d, S', G, L, e, k⟩ := h
  simp only [ev] at e
  split at e
  · cases e
  · rename_i x S1 ea
    split at e
    · cases e
    · rename_i y S2 eb
      split at e
      · cases e
      · rename_i z ez
        cases e
        refine ⟨ι, F, B, δ, S, x, S1, G, L, ea, fun v1 ι1 F1 H1 s1 G1 r1 => ?_⟩
        refine ⟨ι1, F1, B, δ, S1, y, _, G1, L.step s1, eb, fun v2 ι2 F2 H2 s2 G2 r2 => ?_⟩
        exact ⟨ι2, F2, _, x, y, _, G2, r1.step s2, r2, ez, fun v ι' F' H' s3 G3 r3 => k _ _ _ _ ((s1.trans s2).trans s3) G3 r3⟩
theorem tE_isN {a : E} (h : tE K cf (ev gv cl (.isN a)) σ H Q) : tIsN (tE K cf (ev gv cl a)) σ H Q := by
  obtain ⟨ι, F, B, δ, S, d, S', G, L, e, k⟩ := h
  simp only [ev] at e
  split at e
  · cases e
  · rename_i S1 ea
    cases e
    refine ⟨ι, F, B, δ, S, _, _, G, L, ea, fun v ι' F' H' s G' r => ?_⟩
    cases r
    exact k _ _ _ _ s G' (.bl _)
  · rename_i x S1 hx ea
    cases e
    refine ⟨ι, F, B, δ, S, _, _, G, L, ea, fun v ι' F' H' s G' r => ?_⟩
    have e2 : decide (v = V.non) = false := decide_eq_false fun e => by subst e; cases r; exact hx rfl
    show Q (.bl (decide (v = V.non))) H'
    rw [e2]
    exact k _ _ _ _ s G' (.bl _)
theorem tE_notN {a : E} (h : tE K cf (ev gv cl (.notN a)) σ H Q) : tNotN (tE K cf (ev gv cl a)) σ H Q := by
  obtain ⟨ι, F, B, δ, S, d, S', G, L, e, k⟩ := h
  simp only [ev] at e
  split at e
  · cases e
  · rename_i S1 ea
    cases e
    refine ⟨ι, F, B, δ, S, _, _, G, L, ea, fun v ι' F' H' s G' r => ?_⟩
    cases r
    exact k _ _ _ _ s G' (.bl _)
  · rename_i x S1 hx ea
    cases e
    refine ⟨ι, F, B, δ, S, _, _, G, L, ea, fun v ι' F' H' s G' r => ?_⟩
    have e2 : decide (v = V.non) = false := decide_eq_false fun e => by subst e; cases r; exact hx rfl
    show Q (.bl (!decide (v = V.non))) H'
    rw [e2]
    exact k _ _ _ _ s G' (.bl _)
theorem tE_neg {a : E} (h : tE K cf (ev gv cl (.neg a)) σ H Q) : tUn (rU fun i => .int (-i)) (tE K cf (ev gv cl a)) σ H Q := by
  obtain ⟨ι, F, B, δ, S, d, S', G, L, e, k⟩ := h
  simp only [ev] at e
  split at e
  · rename_i i S1 ea
    cases e
    refine ⟨ι, F, B, δ, S, _, _, G, L, ea, fun v ι' F' H' s G' r => ?_⟩
    cases r
    exact ⟨_, rfl, k _ _ _ _ s G' (.int _)⟩
  · cases e
theorem tE_nt {a : E} (h : tE K cf (ev gv cl (.nt a)) σ H Q) : tNotV (tE K cf (ev gv cl a)) σ H Q := by
  obtain ⟨ι, F, B, δ, S, d, S', G, L, e, k⟩ := h
  simp only [ev] at e
  split at e
  · rename_i i S1 ea
    cases e
    refine ⟨ι, F, B, δ, S, _, _, G, L, ea, fun v ι' F' H' s G' r => ?_⟩
    cases r
    exact ⟨_, rfl, k _ _ _ _ s G' (.bl _)⟩
  · cases e
theorem tT_nt {a : E} {Q : Bool → Hp → Prop} (h : tT K cf (ev gv cl (.nt a)) σ H Q) : tNot (tT K cf (ev gv cl a)) σ H Q := by
  obtain ⟨ι, F, B, δ, S, d, S', G, L, e, k⟩ := h
  simp only [ev] at e
  split at e
  · rename_i i S1 ea
    cases e
    exact ⟨ι, F, B, δ, S, _, _, G, L, ea, fun ι' F' H' s G' => k _ _ _ s G'⟩
  · cases e
theorem tE_and {a b : E} (h : tE K cf (ev gv cl (.and a b)) σ H Q) : tAndV (tE K cf (ev gv cl a)) (tE K cf (ev gv cl b)) σ H Q := by
  obtain ⟨ι, F, B, δ, S, d, S', G, L, e, k⟩ := h
  simp only [ev] at e
  split at e
  · rename_i S1 ea
    split at e
    · rename_i c S2 eb
      cases e
      refine ⟨ι, F, B, δ, S, _, _, G, L, ea, fun v ι1 F1 H1 s1 G1 r => ?_⟩
      cases r
      exact ⟨true, rfl, by
        refine iteT ?_
        exact ⟨ι1, F1, B, δ, S1, _, _, G1, L.step s1, eb, fun v ι' F' H' s2 G2 r2 => k _ _ _ _ (s1.trans s2) G2 r2⟩⟩
    · cases e
  · rename_i S1 ea
    cases e
    refine ⟨ι, F, B, δ, S, _, _, G, L, ea, fun v ι1 F1 H1 s1 G1 r => ?_⟩
    cases r
    exact ⟨false, rfl, by
      refine iteF ?_
      exact k _ _ _ _ s1 G1 (.bl _)⟩
  · cases e
theorem tE_or {a b : E} (h : tE K cf (ev gv cl (.or a b)) σ H Q) : tOrV (tE K cf (ev gv cl a)) (tE K cf (ev gv cl b)) σ H Q := by
  obtain ⟨ι, F, B, δ, S, d, S', G, L, e, k⟩ := h
  simp only [ev] at e
  split at e
  · rename_i S1 ea
    split at e
    · rename_i c S2 eb
      cases e
      refine ⟨ι, F, B, δ, S, _, _, G, L, ea, fun v ι1 F1 H1 s1 G1 r => ?_⟩
      cases r
      exact ⟨false, rfl, by
        refine iteF ?_
        exact ⟨ι1, F1, B, δ, S1, _, _, G1, L.step s1, eb, fun v ι' F' H' s2 G2 r2 => k _ _ _ _ (s1.trans s2) G2 r2⟩⟩
    · cases e
  · rename_i S1 ea
    cases e
    refine ⟨ι, F, B, δ, S, _, _, G, L, ea, fun v ι1 F1 H1 s1 G1 r => ?_⟩
    cases r
    exact ⟨true, rfl, by
      refine iteT ?_
      exact k _ _ _ _ s1 G1 (.bl _)⟩
  · cases e
theorem tT_and {a b : E} {Q : Bool → Hp → Prop} (h : tT K cf (ev gv cl (.and a b)) σ H Q) : tAnd (tT K cf (ev gv cl a)) (tT K cf (ev gv cl b)) σ H Q := by
  obtain ⟨ι, F, B, δ, S, d, S', G, L, e, k⟩ := h
  simp only [ev] at e
  split at e
  · rename_i S1 ea
    split at e
    · rename_i c S2 eb
      cases e
      refine ⟨ι, F, B, δ, S, _, _, G, L, ea, fun ι1 F1 H1 s1 G1 => ?_⟩
      refine iteT ?_
      exact ⟨ι1, F1, B, δ, S1, _, _, G1, L.step s1, eb, fun ι' F' H' s2 G2 => k _ _ _ (s1.trans s2) G2⟩
    · cases e
  · rename_i S1 ea
    cases e
    refine ⟨ι, F, B, δ, S, _, _, G, L, ea, fun ι1 F1 H1 s1 G1 => ?_⟩
    refine iteF ?_
    exact k _ _ _ s1 G1
  · cases e
theorem tT_or {a b : E} {Q : Bool → Hp → Prop} (h : tT K cf (ev gv cl (.or a b)) σ H Q) : tOr (tT K cf (ev gv cl a)) (tT K cf (ev gv cl b)) σ H Q := by
  obtain ⟨ι, F, B, δ, S, d, S', G, L, e, k⟩ := h
  simp only [ev] at e
  split at e
  · rename_i S1 ea
    split at e
    · rename_i c S2 eb
      cases e
      refine ⟨ι, F, B, δ, S, _, _, G, L, ea, fun ι1 F1 H1 s1 G1 => ?_⟩
      refine iteF ?_
      exact ⟨ι1, F1, B, δ, S1, _, _, G1, L.step s1, eb, fun ι' F' H' s2 G2 => k _ _ _ (s1.trans s2) G2⟩
    · cases e
  · rename_i S1 ea
    cases e
    refine ⟨ι, F, B, δ, S, _, _, G, L, ea, fun ι1 F1 H1 s1 G1 => ?_⟩
    refine iteT ?_
    exact k _ _ _ s1 G1
  · cases e
/-- a test by its value -/
theorem tT_tB {a : E} {Q : Bool → Hp → Prop} (h : tT K cf (ev gv cl a) σ H Q) : tB (tE K cf (ev gv cl a)) σ H Q := by
  obtain ⟨ι, F, B, δ, S, d, S', G, L, e, k⟩ := h
  refine ⟨ι, F, B, δ, S, _, _, G, L, e, fun v ι1 F1 H1 s1 G1 r => ?_⟩
  cases r
  exact ⟨_, rfl, k _ _ _ s1 G1⟩
theorem tE_chain {o1 o2 : O2} {a b c : E} (h : tE K cf (ev gv cl (.chain o1 o2 a b c)) σ H Q) : tChain (rD2 K cf (op2 o1)) (rD2 K cf (op2 o2)) (tE K cf (ev gv cl a)) (tE K cf (ev gv cl b)) (tE K cf (ev gv cl c)) σ H Q := by
  obtain ⟨ι, F, B, δ, S, d, S', G, L, e, k⟩ := h
  simp only [ev] at e
  split at e
  · cases e
  · rename_i x S1 ea
    split at e
    · cases e
    · rename_i y S2 eb
      refine ⟨ι, F, B, δ, S, x, S1, G, L, ea, fun v1 ι1 F1 H1 s1 G1 r1 => ?_⟩
      refine ⟨ι1, F1, B, δ, S1, y, _, G1, L.step s1, eb, fun v2 ι2 F2 H2 s2 G2 r2 => ?_⟩
      split at e
      · rename_i ez
        split at e
        · cases e
        · rename_i z S3 ec
          split at e
          · rename_i r er
            cases e
            refine ⟨ι2, F2, _, x, y, _, G2, r1.step s2, r2, ez, fun v ι3 F3 H3 s3 G3 r3 => ?_⟩
            cases r3
            refine ⟨true, rfl, ?_⟩
            refine iteT ?_
            refine ⟨ι3, F3, B, δ, _, z, _, G3, L.step ((s1.trans s2).trans s3), ec, fun v4 ι4 F4 H4 s4 G4 r4 => ?_⟩
            exact ⟨ι4, F4, _, y, z, _, G4, (r2.step s3).step s4, r4, er, fun v ι' F' H' s5 G5 r5 => k _ _ _ _ (((s1.trans s2).trans s3).trans (s4.trans s5)) G5 r5⟩
          · cases e
      · rename_i ez
        cases e
        refine ⟨ι2, F2, _, x, y, _, G2, r1.step s2, r2, ez, fun v ι3 F3 H3 s3 G3 r3 => ?_⟩
        cases r3
        refine ⟨false, rfl, ?_⟩
        refine iteF ?_
        exact k _ _ _ _ ((s1.trans s2).trans s3) G3 (.bl _)
      · cases e
theorem tE_ite {c a b : E} (h : tE K cf (ev gv cl (.ite c a b)) σ H Q) : tIf (tT K cf (ev gv cl c)) (tE K cf (ev gv cl a)) (tE K cf (ev gv cl b)) σ H Q := by
  obtain ⟨ι, F, B, δ, S, d, S', G, L, e, k⟩ := h
  simp only [ev] at e
  split at e
  · rename_i S1 ea
    refine ⟨ι, F, B, δ, S, _, _, G, L, ea, fun ι1 F1 H1 s1 G1 => ?_⟩
    refine iteT ?_
    exact ⟨ι1, F1, B, δ, S1, _, _, G1, L.step s1, e, fun v ι' F' H' s2 G2 r2 => k _ _ _ _ (s1.trans s2) G2 r2⟩
  · rename_i S1 ea
    refine ⟨ι, F, B, δ, S, _, _, G, L, ea, fun ι1 F1 H1 s1 G1 => ?_⟩
    refine iteF ?_
    exact ⟨ι1, F1, B, δ, S1, _, _, G1, L.step s1, e, fun v ι' F' H' s2 G2 r2 => k _ _ _ _ (s1.trans s2) G2 r2⟩
  · cases e
theorem tA_nil {Q : List V → Hp → Prop} (h : tA K cf (evs gv cl .nil) σ H Q) : tNil σ H Q := by
  obtain ⟨ι, F, B, δ, S, d, S', G, L, e, k⟩ := h
  simp only [evs] at e
  cases e
  exact k _ _ _ _ .refl G .nil
theorem tA_cons {a : E} {es : Es} {Q : List V → Hp → Prop} (h : tA K cf (evs gv cl (.cons a es)) σ H Q) : tCons (tE K cf (ev gv cl a)) (tA K cf (evs gv cl es)) σ H Q := by
  obtain ⟨ι, F, B, δ, S, d, S', G, L, e, k⟩ := h
  simp only [evs] at e
  split at e
  · cases e
  · rename_i x S1 ea
    split at e
    · cases e
    · rename_i xs S2 eb
      cases e
      refine ⟨ι, F, B, δ, S, _, _, G, L, ea, fun v ι1 F1 H1 s1 G1 r1 => ?_⟩
      exact ⟨ι1, F1, B, δ, S1, _, _, G1, L.step s1, eb, fun vs ι2 F2 H2 s2 G2 r2 => k _ _ _ _ (s1.trans s2) G2 (.cons (r1.step s2) r2)⟩
end
end MP

/-! MPG: displays, calls, subscripts, sources, comprehensions. -/
namespace MP
open PySem L2

def Es.len : Es → Nat
  | .nil => 0
  | .cons _ es => es.len + 1
theorem evs_len {gv : GV} {cl : CallT} : ∀ (es : Es) {δ : Env} {S S' : Store} {ds : List D}, evs gv cl es δ S = some (ds, S') → ds.length = es.len
  | .nil, _, _, _, _, h => by simp only [evs] at h; cases h; rfl
  | .cons e es, _, _, _, _, h => by
    simp only [evs] at h
    split at h
    · cases h
    · split at h
      · cases h
      · rename_i eb
        cases h
        simp only [List.length_cons, Es.len]
        rw [evs_len es eb]
/-- what a call keeps -/
def spD (K : PySem.W.Frag) (cf : Nat → Option Addr) (cl : CallT) (g : Nat) : Sp := fun vs H Q _ => ∃ ι F S ds d S', Gd K cf S ι F H ∧ RL K cf ι F ds vs ∧ cl g ds S = some (d, S') ∧
  ∀ v ι' F' H', Stp ι F H ι' F' H' → Gd K cf S' ι' F' H' → R K cf ι' F' d v → Q v H'
section
variable {K : PySem.W.Frag} {cf : Nat → Option Addr} {ι ι' : List Addr} {F F' H H' : Hp} {S : Store}
/-- a new cell -/
theorem Gd.cell (g : Gd K cf S ι F H) {p : Addr} {ds : List D} {vs : List V} (hp : H p = none) (r : RL K cf ι F ds vs) : Gd K cf (S ++ [ds]) (ι ++ [p]) F (upd H p (.lst vs)) ∧ Stp ι F H (ι ++ [p]) F (upd H p (.lst vs)) := by
  have hF : F p = none := by
    cases q : F p with
    | none => rfl
    | some u => rw [g.sub _ _ q] at hp; cases hp
  have hpi : p ∉ ι := fun hm => (g.out p hm).2 hp
  refine ⟨⟨fun a u h => ?_, fun i c h => ?_, fun a ha => ?_, ?_, by simp [g.len]⟩, ⟨⟨[p], rfl⟩, fun _ _ h => h, fun a u h => .inl h, fun a h => ?_, fun a u h _ => ?_, fun a h => ?_⟩⟩
  · rw [upd_ne (ne_of_none h hF)]; exact g.sub _ _ h
  · by_cases hi : i < S.length
    · rw [List.getElem?_append_left hi] at h
      obtain ⟨a, ws, h1, h2, h3⟩ := g.cells i c h
      refine ⟨a, ws, ?_, by rw [upd_ne (ne_of_none h2 hp)]; exact h2, h3.mono ⟨[p], rfl⟩ fun _ _ h => h⟩
      rw [List.getElem?_append_left (by rw [g.len]; exact hi)]; exact h1
    · have e : i = S.length := by
        have := (List.getElem?_eq_some_iff.mp h).1
        simp at this; omega
      subst e
      simp at h
      subst h
      refine ⟨p, vs, ?_, upd_same, r.mono ⟨[p], rfl⟩ fun _ _ h => h⟩
      rw [← g.len]; simp
  · rcases List.mem_append.mp ha with ha | ha
    · have e : a ≠ p := fun e => hpi (e ▸ ha)
      rw [upd_ne e]; exact g.out a ha
    · simp at ha; subst ha
      exact ⟨hF, by rw [upd_same]; simp⟩
  · rw [List.nodup_append]
    exact ⟨g.inj, by simp, fun a ha b hb => by simp at hb; subst hb; exact fun e => hpi (e ▸ ha)⟩
  · rcases List.mem_append.mp h with h | h
    · exact .inl h
    · simp at h; subst h; exact .inr hp
  · rw [upd_ne (ne_of_none h hp)]; exact h
  · by_cases e : a = p
    · subst e; exact hp
    · rw [upd_ne e] at h; exact h
/-- an object that is not frozen becomes so -/
theorem Gd.freeze (g : Gd K cf S ι F H) {p : Addr} {o : HO} (hp : H p = some o) (hF : F p = none) (hpi : p ∉ ι) : Gd K cf S ι (upd F p o) H := by
  have fm : ∀ a u, F a = some u → upd F p o a = some u := fun a u h => by rw [upd_ne (ne_of_none h hF)]; exact h
  refine ⟨fun a u h => ?_, fun i c h => ?_, fun a ha => ?_, g.inj, g.len⟩
  · by_cases e : a = p
    · subst e; rw [upd_same] at h; rw [hp]; exact h
    · rw [upd_ne e] at h; exact g.sub _ _ h
  · obtain ⟨a, vs, h1, h2, h3⟩ := g.cells i c h
    exact ⟨a, vs, h1, h2, h3.mono ⟨[], by simp⟩ fm⟩
  · have e : a ≠ p := fun e => hpi (e ▸ ha)
    rw [upd_ne e]; exact g.out a ha
/-- an object that is neither frozen nor a cell changes -/
theorem Gd.write (g : Gd K cf S ι F H) {p : Addr} {o u : HO} (hp : H p = some u) (hF : F p = none) (hpi : p ∉ ι) : Gd K cf S ι F (upd H p o) := by
  refine ⟨fun a u h => ?_, fun i c h => ?_, fun a ha => ?_, g.inj, g.len⟩
  · rw [upd_ne (ne_of_none h hF)]; exact g.sub _ _ h
  · obtain ⟨a, vs, h1, h2, h3⟩ := g.cells i c h
    refine ⟨a, vs, h1, ?_, h3⟩
    rw [upd_ne fun e => hpi ?_]
    · exact h2
    · exact e ▸ List.mem_of_getElem? h1
  · have e : a ≠ p := fun e => hpi (e ▸ ha)
    rw [upd_ne e]; exact g.out a ha
/-- .. where it was not there at the beginning -/
theorem Stp.write {ι0 : List Addr} {F0 H0 : Hp} (st : Stp ι0 F0 H0 ι F H) {p : Addr} {o u : HO} (h0 : H0 p = none) (hp : H p = some u) : Stp ι0 F0 H0 ι F (upd H p o) := by
  refine ⟨st.io, st.fm, st.fn, st.nw, fun a w h hn => ?_, fun a h => ?_⟩
  · rw [upd_ne (ne_of_none h h0)]; exact st.fr a w h hn
  · by_cases e : a = p
    · subst e; exact h0
    · rw [upd_ne e] at h; exact st.dm a h
theorem Stp.freeze {ι0 : List Addr} {F0 H0 : Hp} (st : Stp ι0 F0 H0 ι F H) {p : Addr} {o : HO} (h0 : H0 p = none) (hF : F p = none) : Stp ι0 F0 H0 ι (upd F p o) H := by
  refine ⟨st.io, fun a w h => ?_, fun a w h => ?_, st.nw, st.fr, st.dm⟩
  · rw [upd_ne (ne_of_none (st.fm a w h) hF)]; exact st.fm a w h
  · by_cases e : a = p
    · subst e; exact .inr h0
    · rw [upd_ne e] at h; exact st.fn a w h
end
section
variable {K : PySem.W.Frag} {cf : Nat → Option Addr} {gv : GV} {cl : CallT} {σ : L2.St} {H : Hp} {Q : VK}
theorem tE_tup {es : Es} (hl : es.len ≤ 1000) (h : tE K cf (ev gv cl (.tup es)) σ H Q) : tTup (tA K cf (evs gv cl es)) σ H Q := by
  obtain ⟨ι, F, B, δ, S, d, S', G, L, e, k⟩ := h
  simp only [ev] at e
  split at e
  · rename_i ds S1 ea
    cases e
    have hn := evs_len es ea
    refine ⟨ι, F, B, δ, S, _, _, G, L, ea, fun vs ι1 F1 H1 s1 G1 r => ⟨by rw [← r.length, hn]; exact Nat.le_trans hl (by decide), fun p hp => ?_⟩⟩
    obtain ⟨G', st⟩ := G1.new (o := .tup vs) hp
    exact k _ _ _ _ (s1.trans st) G' (.tupOf (r.step st) (by rw [hn]; exact Nat.le_trans hl (by decide)) upd_same)
  · cases e
theorem tE_lst {es : Es} (hl : es.len ≤ 1000) (h : tE K cf (ev gv cl (.lst es)) σ H Q) : tLst (tA K cf (evs gv cl es)) σ H Q := by
  obtain ⟨ι, F, B, δ, S, d, S', G, L, e, k⟩ := h
  simp only [ev] at e
  split at e
  · rename_i ds S1 ea
    cases e
    have hn := evs_len es ea
    refine ⟨ι, F, B, δ, S, _, _, G, L, ea, fun vs ι1 F1 H1 s1 G1 r => ⟨by rw [← r.length, hn]; exact Nat.le_trans hl (by decide), fun p hp => ?_⟩⟩
    obtain ⟨G', st⟩ := G1.new (o := .lst vs) hp
    exact k _ _ _ _ (s1.trans st) G' (.lst upd_same (r.step st) (by rw [hn]; exact Nat.le_trans hl (by decide)))
  · cases e
theorem tE_newc {es : Es} (hl : es.len ≤ 1000) (h : tE K cf (ev gv cl (.newc es)) σ H Q) : tLst (tA K cf (evs gv cl es)) σ H Q := by
  obtain ⟨ι, F, B, δ, S, d, S', G, L, e, k⟩ := h
  simp only [ev] at e
  split at e
  · rename_i ds S1 ea
    cases e
    have hn := evs_len es ea
    refine ⟨ι, F, B, δ, S, _, _, G, L, ea, fun vs ι1 F1 H1 s1 G1 r => ⟨by rw [← r.length, hn]; exact Nat.le_trans hl (by decide), fun p hp => ?_⟩⟩
    obtain ⟨G', st⟩ := G1.cell hp r
    exact k _ _ _ _ (s1.trans st) G' (.cell (by rw [← G1.len]; simp))
  · cases e
theorem tE_call {f : Nat} {es : Es} (h : tE K cf (ev gv cl (.call f es)) σ H Q) : tCall (spD K cf cl f) [] E0 (tA K cf (evs gv cl es)) σ H Q := by
  obtain ⟨ι, F, B, δ, S, d, S', G, L, e, k⟩ := h
  simp only [ev] at e
  split at e
  · cases e
  · rename_i ds S1 ea
    refine ⟨ι, F, B, δ, S, _, _, G, L, ea, fun vs ι1 F1 H1 s1 G1 r => ?_⟩
    show spD K cf cl f (vs ++ []) H1 Q E0
    rw [List.append_nil]
    exact ⟨ι1, F1, S1, ds, _, _, G1, r, e, fun v ι' F' H' s2 G2 r2 => k _ _ _ _ (s1.trans s2) G2 r2⟩
theorem tE_b1 {f : B1} {a : E} (h : tE K cf (ev gv cl (.b1 f a)) σ H Q) : tCB (rB1 K cf (bi1 f)) (tCons (tE K cf (ev gv cl a)) tNil) σ H Q := by
  obtain ⟨ι, F, B, δ, S, d, S', G, L, e, k⟩ := h
  simp only [ev] at e
  split at e
  · cases e
  · rename_i x S1 ea
    split at e
    · cases e
    · rename_i z ez
      cases e
      refine ⟨ι, F, B, δ, S, _, _, G, L, ea, fun v ι1 F1 H1 s1 G1 r => ⟨v, rfl, ι1, F1, _, x, _, G1, r, ez, fun v ι' F' H' s2 G2 r2 => k _ _ _ _ (s1.trans s2) G2 r2⟩⟩
theorem tE_b2 {f : B2} {a b : E} (h : tE K cf (ev gv cl (.b2 f a b)) σ H Q) : tCB (rB2 K cf (bi2 f)) (tCons (tE K cf (ev gv cl a)) (tCons (tE K cf (ev gv cl b)) tNil)) σ H Q := by
  obtain ⟨ι, F, B, δ, S, d, S', G, L, e, k⟩ := h
  simp only [ev] at e
  split at e
  · cases e
  · rename_i x S1 ea
    split at e
    · cases e
    · rename_i y S2 eb
      split at e
      · cases e
      · rename_i z ez
        cases e
        refine ⟨ι, F, B, δ, S, _, _, G, L, ea, fun v ι1 F1 H1 s1 G1 r1 => ?_⟩
        refine ⟨ι1, F1, B, δ, S1, _, _, G1, L.step s1, eb, fun w ι2 F2 H2 s2 G2 r2 => ?_⟩
        exact ⟨v, w, rfl, ι2, F2, _, x, y, _, G2, r1.step s2, r2, ez, fun v ι' F' H' s3 G3 r3 => k _ _ _ _ ((s1.trans s2).trans s3) G3 r3⟩
theorem tE_ix {a b : E} (h : tE K cf (ev gv cl (.ix a b)) σ H Q) : tOp (rIxD K cf) (tE K cf (ev gv cl a)) (tE K cf (ev gv cl b)) σ H Q := by
  obtain ⟨ι, F, B, δ, S, d, S', G, L, e, k⟩ := h
  simp only [ev] at e
  split at e
  · cases e
  · rename_i x S1 ea
    split at e
    · cases e
    · rename_i y S2 eb
      split at e
      · cases e
      · rename_i z ez
        cases e
        refine ⟨ι, F, B, δ, S, _, _, G, L, ea, fun v ι1 F1 H1 s1 G1 r1 => ?_⟩
        refine ⟨ι1, F1, B, δ, S1, _, _, G1, L.step s1, eb, fun w ι2 F2 H2 s2 G2 r2 => ?_⟩
        exact ⟨ι2, F2, _, x, y, _, G2, r1.step s2, r2, ez, fun v ι' F' H' s3 G3 r3 => k _ _ _ _ ((s1.trans s2).trans s3) G3 r3⟩
/-- a part of a slice -/
def tO (K : PySem.W.Frag) (cf : Nat → Option Addr) (f : Env → Store → Option (List D × Store)) : TO := fun σ H Q => ∃ ι F B δ S ds o S', Gd K cf S ι F H ∧ Slt K cf ι F H B δ σ ∧ f δ S = some (ds, S') ∧ optI ds = some o ∧
  ∀ ι' F' H', Stp ι F H ι' F' H' → Gd K cf S' ι' F' H' → Q o H'
theorem tO_nil {Q : Option Int → Hp → Prop} (h : tO K cf (evs gv cl .nil) σ H Q) : tNoPart σ H Q := by
  obtain ⟨ι, F, B, δ, S, ds, o, S', G, L, e, eo, k⟩ := h
  simp only [evs] at e
  cases e
  simp only [optI] at eo
  cases eo
  exact k _ _ _ .refl G
theorem tO_one {a : E} {Q : Option Int → Hp → Prop} (h : tO K cf (evs gv cl (.cons a .nil)) σ H Q) : tPart (tE K cf (ev gv cl a)) σ H Q := by
  obtain ⟨ι, F, B, δ, S, ds, o, S', G, L, e, eo, k⟩ := h
  simp only [evs] at e
  split at e
  · cases e
  · rename_i x S1 ea
    cases e
    refine ⟨ι, F, B, δ, S, _, _, G, L, ea, fun v ι1 F1 H1 s1 G1 r1 => ?_⟩
    cases x <;> simp only [optI, reduceCtorEq, Option.some.injEq] at eo
    subst eo
    cases r1
    exact ⟨_, rfl, k _ _ _ s1 G1⟩
theorem tE_sl {a : E} {lo hi : Es} (h : tE K cf (ev gv cl (.sl a lo hi)) σ H Q) : tSl (rSlD K cf) (tE K cf (ev gv cl a)) (tO K cf (evs gv cl lo)) (tO K cf (evs gv cl hi)) σ H Q := by
  obtain ⟨ι, F, B, δ, S, d, S', G, L, e, k⟩ := h
  simp only [ev] at e
  split at e
  · cases e
  · rename_i x S1 ea
    split at e
    · cases e
    · rename_i l S2 el
      split at e
      · cases e
      · rename_i u S3 eu
        split at e
        · rename_i l' u' ol ou
          split at e
          · cases e
          · rename_i z ez
            cases e
            refine ⟨ι, F, B, δ, S, _, _, G, L, ea, fun v ι1 F1 H1 s1 G1 r1 => ?_⟩
            refine ⟨ι1, F1, B, δ, S1, _, _, _, G1, L.step s1, el, ol, fun ι2 F2 H2 s2 G2 => ?_⟩
            refine ⟨ι2, F2, B, δ, S2, _, _, _, G2, (L.step s1).step s2, eu, ou, fun ι3 F3 H3 s3 G3 => ?_⟩
            exact ⟨ι3, F3, _, x, _, G3, (r1.step s2).step s3, ez, fun v ι' F' H' s4 G4 r4 => k _ _ _ _ ((s1.trans s2).trans (s3.trans s4)) G4 r4⟩
        · cases e
theorem tE_olen {i : Nat} (h : tE K cf (ev gv cl (.olen i)) σ H Q) : tCB (fun xs H Q => ∃ x n, xs = [x] ∧ LenV K x H n ∧ Q (.int n) H) (tCons (tVar i) tNil) σ H Q := by
  obtain ⟨ι, F, B, δ, S, d, S', G, L, e, k⟩ := h
  simp only [ev] at e
  split at e
  · rename_i ds hd
    cases e
    obtain ⟨a, vs, h1, h2, h3, _⟩ := L.own _ _ hd
    exact ⟨_, h1, _, _, rfl, .inl ⟨_, SqL.of h2, rfl⟩, by rw [← h3.length]; exact k _ _ _ _ .refl G (.int _)⟩
  · cases e
theorem tE_oix {i : Nat} {a : E} (h : tE K cf (ev gv cl (.oix i a)) σ H Q) : tOp (rIxL K) (tVar i) (tE K cf (ev gv cl a)) σ H Q := by
  obtain ⟨ι, F, B, δ, S, d, S', G, L, e, k⟩ := h
  simp only [ev] at e
  split at e
  · rename_i j S1 ea
    split at e
    · rename_i ds hd
      split at e
      · rename_i x hx
        cases e
        obtain ⟨a, vs, h1, h2, h3, _⟩ := L.own _ _ hd
        refine ⟨_, h1, ι, F, B, δ, S, _, _, G, L, ea, fun v ι1 F1 H1 s1 G1 r1 => ?_⟩
        cases r1
        obtain ⟨a', vs', h1', h2', h3', _⟩ := (L.step s1).own _ _ hd
        rw [h1] at h1'
        cases h1'
        obtain ⟨w, h4, h5⟩ := atI_RL h3' hx
        exact ⟨_, _, _, _, rfl, rfl, SqL.of h2', h4, k _ _ _ _ s1 G1 h5⟩
      · cases e
    · cases e
  · cases e
/-- isinstance, one type -/
theorem tE_isi1 {a : E} {t : Ty} (h : tE K cf (ev gv cl (.isi a [t])) σ H Q) : tCB (rIsi K) (tCons (tE K cf (ev gv cl a)) (tCons (tC (.ty t.nm)) tNil)) σ H Q := by
  obtain ⟨ι, F, B, δ, S, d, S', G, L, e, k⟩ := h
  simp only [ev] at e
  split at e
  · cases e
  · rename_i x S1 ea
    split at e
    · cases e
    · rename_i b eb
      cases e
      refine ⟨ι, F, B, δ, S, _, _, G, L, ea, fun v ι1 F1 H1 s1 G1 r => ?_⟩
      simp only [isTys, List.foldr_cons, List.foldr_nil] at eb
      split at eb
      · rename_i b1 b2 e1 e2
        cases e2
        cases eb
        obtain ⟨n, hn⟩ := isTy_ty e1
        rw [Bool.or_false] at k
        exact ⟨v, _, _, _, _, rfl, .ty _, r.tyx G1 hn, isTy_kit _ _ _ _ hn e1, k _ _ _ _ s1 G1 (.bl _)⟩
      · cases eb
theorem isTys_kit {ts : List Ty} {d : D} {b : Bool} {n : String} (hn : d.ty = some n) (h : isTys ts d = some b) : PySem.W.kitAny K (.type n) (ts.map fun t => Value.type t.nm) = some b := by
  induction ts generalizing b with
  | nil => cases h; rfl
  | cons t ts ih =>
    simp only [isTys, List.foldr_cons] at h
    split at h
    · rename_i b1 b2 e1 e2
      cases h
      have h2 := ih (show isTys ts d = some b2 from e2)
      refine kitAny_cons (kit_ty (isTy_kit _ _ _ _ hn e1)) (fun z => by subst z; simpa using h2) (fun z => by subst z; rfl)
    · cases h
theorem paired_ty : ∀ ts : List Ty, Paired ClsV (ts.map fun t => V.ty t.nm) (ts.map fun t => Value.type t.nm)
  | [] => .nil
  | t :: ts => .cons (.ty _) (paired_ty ts)
/-- several -/
def tTys : List Ty → TA
  | [] => tNil
  | t :: ts => tCons (tC (.ty t.nm)) (tTys ts)
theorem tTys_go : ∀ (ts : List Ty) {Q : List V → Hp → Prop}, Q (ts.map fun t => V.ty t.nm) H → tTys ts σ H Q
  | [], _, h => h
  | t :: ts, _, h => tTys_go ts (Q := fun xs H2 => _) h
theorem tE_isis {a : E} {ts : List Ty} (hl : ts.length ≤ 1000) (hne : ts ≠ []) (h : tE K cf (ev gv cl (.isi a ts)) σ H Q) : tCB (rIsiT K) (tCons (tE K cf (ev gv cl a)) (tCons (tTup (tTys ts)) tNil)) σ H Q := by
  obtain ⟨ι, F, B, δ, S, d, S', G, L, e, k⟩ := h
  simp only [ev] at e
  split at e
  · cases e
  · rename_i x S1 ea
    split at e
    · cases e
    · rename_i b eb
      cases e
      refine ⟨ι, F, B, δ, S, _, _, G, L, ea, fun v ι1 F1 H1 s1 G1 r => ?_⟩
      refine tTys_go ts ⟨by rw [List.length_map]; exact Nat.le_trans hl (by decide), fun p hp => ?_⟩
      obtain ⟨G', st⟩ := G1.new (o := .tup (ts.map fun t => V.ty t.nm)) hp
      cases ts with
      | nil => exact absurd rfl hne
      | cons t ts =>
        have hn : ∃ n, x.ty = some n := by
          have eb' := eb
          simp only [isTys, List.foldr_cons] at eb'
          split at eb'
          · rename_i b1 b2 e1 e2
            exact isTy_ty e1
          · cases eb'
        obtain ⟨n, hn⟩ := hn
        refine ⟨v, _, _, _, _, _, rfl, upd_same, paired_ty _, (r.step st).tyx G' hn, isTys_kit hn eb, k _ _ _ _ (s1.trans st) G' (.bl _)⟩
end
end MP

/-! MPH: targets, sources, comprehensions. -/
namespace MP
open PySem L2

def notStar : Expr → Bool
  | .Starred _ _ => false
  | _ => true
theorem starEach_ns {e : Expr} {es : List Expr} {env : PySem.Env} (h : notStar e = true) : starEach (e :: es) env = (false, eval e env) :: starEach es env := by
  cases e <;> first | rfl | cases h
theorem backTo_ns {pos : Pos} {env : PySem.Env} : ∀ {es : List Expr}, es.all notStar = true → (backTo pos (starEach es env)).any (·.1) = false
  | [], _ => rfl
  | e :: es, h => by
    simp only [List.all_cons, Bool.and_eq_true] at h
    rw [starEach_ns h.1]
    show (false || (backTo pos (starEach es env)).any (·.1)) = false
    rw [backTo_ns h.2]; rfl
theorem pac {X : Cx} {e : Expr} {es : List Expr} {te : TE} {t : TA} (ns : notStar e = true) (he : PE X e te) (h : PA X es t) : PA X (e :: es) (tCons te t) := pa_cons he h (starEach_ns ns)
/-! ### targets -/
def gNms : List Nat → TGs
  | [] => gNil
  | i :: is => gCons (gName i) (gNms is)
def tG (K : PySem.W.Frag) : Tg → TG
  | .nm i => gName i
  | .tp is => gTup K is.length (gNms is)
section
variable {K : PySem.W.Frag} {cf : Nat → Option Addr} {ι : List Addr} {F H B : Hp}
theorem get_set {α : Type} {l : List α} {i j : Nat} {x : α} : (l.set i x)[j]? = if i = j ∧ i < l.length then some x else l[j]? := by
  rw [List.getElem?_set]
  by_cases h : i = j
  · subst h
    by_cases h2 : i < l.length
    · rw [if_pos rfl, if_pos h2, if_pos ⟨rfl, h2⟩]
    · rw [if_pos rfl, if_neg h2, if_neg (fun z => h2 z.2)]
      rw [List.getElem?_eq_none (by omega)]
  · rw [if_neg h, if_neg (fun z => h z.1)]
theorem Slt.setv {δ : Env} {σ : L2.St} (L : Slt K cf ι F H B δ σ) {d : D} {v : V} (r : R K cf ι F d v) (i : Nat) : Slt K cf ι F H B (δ.set i (.v d)) (σ.set i (some v)) := by
  have hl := L.len
  refine ⟨by simp [hl], fun j e h => ?_, fun j ds h => ?_, fun j k x y a h1 h2 h3 h4 => ?_⟩
  · rw [get_set] at h ⊢
    split at h
    · rename_i c
      rw [if_pos ⟨c.1, by rw [hl]; exact c.2⟩]
      cases h
      exact ⟨v, rfl, r⟩
    · rename_i c
      rw [if_neg (fun z => c ⟨z.1, by rw [← hl]; exact z.2⟩)]
      exact L.val j e h
  · rw [get_set] at h ⊢
    split at h
    · cases h
    · rename_i c
      rw [if_neg (fun z => c ⟨z.1, by rw [← hl]; exact z.2⟩)]
      exact L.own j ds h
  · rw [get_set] at h1 h2 h3 h4
    split at h1
    · cases h1
    · rename_i c
      split at h2
      · cases h2
      · rename_i c'
        rw [if_neg (fun z => c ⟨z.1, by rw [← hl]; exact z.2⟩)] at h3
        rw [if_neg (fun z => c' ⟨z.1, by rw [← hl]; exact z.2⟩)] at h4
        exact L.apart j k x y a h1 h2 h3 h4
theorem Slt.seto {δ : Env} {σ : L2.St} (L : Slt K cf ι F H B δ σ) {ds : List D} {vs : List V} {a : Addr} (h1 : H a = some (.lst vs)) (h2 : RL K cf ι F ds vs) (h3 : F a = none) (h4 : a ∉ ι) (h5 : B a = none) (h6 : ds.length ≤ lim)
    (ap : ∀ (j : Nat) (x : List D), δ[j]? = some (.o x) → σ[j]? ≠ some (some (.ref a))) (i : Nat) : Slt K cf ι F H B (δ.set i (.o ds)) (σ.set i (some (.ref a))) := by
  have hl := L.len
  refine ⟨by simp [hl], fun j e h => ?_, fun j es h => ?_, fun j k x y b e1 e2 e3 e4 => ?_⟩
  · rw [get_set] at h ⊢
    split at h
    · cases h
    · rename_i c
      rw [if_neg (fun z => c ⟨z.1, by rw [← hl]; exact z.2⟩)]
      exact L.val j e h
  · rw [get_set] at h ⊢
    split at h
    · rename_i c
      rw [if_pos ⟨c.1, by rw [hl]; exact c.2⟩]
      cases h
      exact ⟨a, vs, rfl, h1, h2, h3, h4, h5, h6⟩
    · rename_i c
      rw [if_neg (fun z => c ⟨z.1, by rw [← hl]; exact z.2⟩)]
      exact L.own j es h
  · rw [get_set] at e1 e2 e3 e4
    split at e1
    · rename_i c
      rw [if_pos ⟨c.1, by rw [hl]; exact c.2⟩] at e3
      cases e3
      split at e2
      · rename_i c'
        exact c.1.symm.trans c'.1
      · rename_i c'
        rw [if_neg (fun z => c' ⟨z.1, by rw [← hl]; exact z.2⟩)] at e4
        exact absurd e4 (ap k y e2)
    · rename_i c
      rw [if_neg (fun z => c ⟨z.1, by rw [← hl]; exact z.2⟩)] at e3
      split at e2
      · rename_i c'
        rw [if_pos ⟨c'.1, by rw [hl]; exact c'.2⟩] at e4
        cases e4
        exact absurd e3 (ap j x e1)
      · rename_i c'
        rw [if_neg (fun z => c' ⟨z.1, by rw [← hl]; exact z.2⟩)] at e4
        exact L.apart j k x y b e1 e2 e3 e4
/-- same slots but at some -/
def OffSame (vs : List Nat) (σ σ' : L2.St) : Prop := σ.length = σ'.length ∧ ∀ i, i ∉ vs → σ[i]? = σ'[i]?
theorem wipe_eq : ∀ {vs : List Nat} {σ σ' : L2.St}, OffSame vs σ σ' → wipe σ vs = wipe σ' vs := by
  intro vs σ σ' h
  apply List.ext_getElem?
  intro i
  have key : ∀ (vs : List Nat) (τ : L2.St) (i : Nat), (wipe τ vs)[i]? = if i ∈ vs ∧ i < τ.length then some none else τ[i]? := by
    intro vs
    induction vs with
    | nil => intro τ i; simp [wipe]
    | cons v vs ih =>
      intro τ i
      show ((wipe τ vs).set v none)[i]? = _
      rw [get_set, wipe_length, ih]
      by_cases h1 : v = i
      · subst h1
        by_cases h2 : v < τ.length
        · simp [h2]
        · simp [h2]
      · have : (i ∈ v :: vs) ↔ i ∈ vs := by
          rw [List.mem_cons]
          exact ⟨fun z => z.resolve_left fun e => h1 e.symm, .inr⟩
        rw [if_neg (fun z => h1 z.1)]
        simp only [this]
  rw [key, key, h.1]
  by_cases hi : i ∈ vs
  · by_cases h2 : i < σ'.length
    · rw [if_pos ⟨hi, h2⟩, if_pos ⟨hi, h2⟩]
    · rw [if_neg (fun z => h2 z.2), if_neg (fun z => h2 z.2), List.getElem?_eq_none (by have := h.1; omega), List.getElem?_eq_none (by omega)]
  · rw [if_neg (fun z => hi z.1), if_neg (fun z => hi z.1)]
    exact h.2 i hi
theorem off_refl (vs : List Nat) (σ : L2.St) : OffSame vs σ σ := ⟨rfl, fun _ _ => rfl⟩
theorem off_set {vs : List Nat} {σ σ' : L2.St} {i : Nat} {x : Option V} (h : OffSame vs σ σ') (hi : i ∈ vs) : OffSame vs σ (σ'.set i x) := by
  refine ⟨by rw [List.length_set]; exact h.1, fun j hj => ?_⟩
  rw [get_set, if_neg (fun (z : i = j ∧ _) => hj (z.1 ▸ hi))]
  exact h.2 j hj
theorem off_wipe (vs : List Nat) (σ : L2.St) : ∀ ws, (∀ w, w ∈ ws → w ∈ vs) → OffSame vs σ (wipe σ ws)
  | [], _ => off_refl _ _
  | w :: ws, h => off_set (off_wipe vs σ ws fun x hx => h x (List.mem_cons_of_mem _ hx)) (h w List.mem_cons_self)
theorem gNms_go {vs : List Nat} {σ0 : L2.St} {Q : L2.St → Hp → Prop} : ∀ {is : List Nat} {ds : List D} {xs : List V} {δ δ1 : Env} {σ : L2.St}, setMany is ds δ = some δ1 → RL K cf ι F ds xs → Slt K cf ι F H B δ σ → OffSame vs σ0 σ → (∀ i, i ∈ is → i ∈ vs) →
    (∀ σ1, Slt K cf ι F H B δ1 σ1 → OffSame vs σ0 σ1 → Q σ1 H) → gNms is xs σ H Q
  | [], [], _, _, _, _, e, r, L, o, _, k => by
    cases r
    simp only [setMany] at e
    cases e
    exact ⟨rfl, k _ L o⟩
  | [], _ :: _, _, _, _, _, e, _, _, _, _, _ => by simp [setMany] at e
  | _ :: _, [], _, _, _, _, e, _, _, _, _, _ => by simp [setMany] at e
  | i :: is, d :: ds, _, _, _, _, e, r, L, o, m, k => by
    cases r with
    | cons r1 r2 =>
      simp only [setMany] at e
      refine ⟨_, _, rfl, ?_⟩
      exact gNms_go (is := is) e r2 (L.setv r1 i) (off_set o (m i List.mem_cons_self)) (fun j hj => m j (List.mem_cons_of_mem _ hj)) k
theorem setMany_len : ∀ {is : List Nat} {ds : List D} {δ δ1 : Env}, setMany is ds δ = some δ1 → is.length = ds.length
  | [], [], _, _, _ => rfl
  | [], _ :: _, _, _, e => by simp [setMany] at e
  | _ :: _, [], _, _, e => by simp [setMany] at e
  | i :: is, d :: ds, _, _, e => by
    simp only [setMany] at e
    simp [setMany_len e]
theorem tG_go {σ0 σ : L2.St} {Q : L2.St → Hp → Prop} {tg : Tg} {d : D} {x : V} {δ δ1 : Env} {S : Store} (G : Gd K cf S ι F H) (e : asg tg d δ = some δ1) (r : R K cf ι F d x) (L : Slt K cf ι F H B δ σ) (o : OffSame tg.slots σ0 σ)
    (k : ∀ σ1, Slt K cf ι F H B δ1 σ1 → OffSame tg.slots σ0 σ1 → Q σ1 H) : tG K tg x σ H Q := by
  cases tg with
  | nm i =>
    simp only [asg] at e
    cases e
    exact k _ (L.setv r i) (off_set o (by simp [Tg.slots]))
  | tp is =>
    cases d <;> simp only [asg, reduceCtorEq] at e
    cases r with | tup a1 a2 a3 =>
    refine ⟨_, _, rfl, sqt_mono G.sub a1, ?_, ?_⟩
    · rw [← a2.length, setMany_len e]
    · exact gNms_go e a2 L o (fun i hi => hi) k
theorem Slt.wipe {δ : Env} {σ : L2.St} (L : Slt K cf ι F H B δ σ) : ∀ vs : List Nat, Slt K cf ι F H B (wipeE δ vs) (wipe σ vs)
  | [] => L
  | v :: vs => by
    have L' := L.wipe vs
    have hl := L'.len
    show Slt K cf ι F H B ((wipeE δ vs).set v .no) ((L2.wipe σ vs).set v none)
    refine ⟨by simp [hl], fun j e h => ?_, fun j ds h => ?_, fun j k x y a h1 h2 h3 h4 => ?_⟩
    · rw [get_set] at h ⊢
      split at h
      · cases h
      · rename_i c
        rw [if_neg (fun z => c ⟨z.1, by rw [← hl]; exact z.2⟩)]
        exact L'.val j e h
    · rw [get_set] at h ⊢
      split at h
      · cases h
      · rename_i c
        rw [if_neg (fun z => c ⟨z.1, by rw [← hl]; exact z.2⟩)]
        exact L'.own j ds h
    · rw [get_set] at h1 h2 h3 h4
      split at h1
      · cases h1
      · rename_i c
        split at h2
        · cases h2
        · rename_i c'
          rw [if_neg (fun z => c ⟨z.1, by rw [← hl]; exact z.2⟩)] at h3
          rw [if_neg (fun z => c' ⟨z.1, by rw [← hl]; exact z.2⟩)] at h4
          exact L'.apart j k x y a h1 h2 h3 h4
end

/-! ### sources -/
def Walk (K : PySem.W.Frag) (cf : Nat → Option Addr) (J : It) (ds : List D) (ι0 : List Addr) (F0 : Hp) : Prop := ∀ (i : Nat) (ι : List Addr) (F : Hp) (S : Store) (H : Hp), (∃ t, ι = ι0 ++ t) → (∀ a o, F0 a = some o → F a = some o) → Gd K cf S ι F H →
  (∀ d, ds[i]? = some d → J.go i H ∧ ∀ x H', J.yld i H x H' → ∃ F', Stp ι F H ι F' H' ∧ Gd K cf S ι F' H' ∧ R K cf ι F' d x) ∧ (ds.length = i → J.stop i H)
def WalkL (K : PySem.W.Frag) (cf : Nat → Option Addr) (J : It) (ds : List D) (ι0 : List Addr) (F0 : Hp) : Prop := ∀ (i : Nat) (ι : List Addr) (F : Hp) (S : Store) (H : Hp), (∃ t, ι = ι0 ++ t) → (∀ a o, F0 a = some o → F a = some o) → Gd K cf S ι F H →
  (∀ d, ds[i]? = some d → J.go i H ∧ ∀ x H', J.yld i H x H' → ∃ F', Stp ι F H ι F' H' ∧ Gd K cf S ι F' H' ∧ R K cf ι F' d x) ∧ (ds.length ≤ i → J.stop i H)
theorem WalkL.w {K : PySem.W.Frag} {cf : Nat → Option Addr} {J : It} {ds : List D} {ι0 : List Addr} {F0 : Hp} (h : WalkL K cf J ds ι0 F0) : Walk K cf J ds ι0 F0 := fun i ι F S H a b c => ⟨(h i ι F S H a b c).1, fun e => (h i ι F S H a b c).2 (Nat.le_of_eq e)⟩
def tI (K : PySem.W.Frag) (cf : Nat → Option Addr) (f : Env → Store → Option (List D × Store)) : TI := fun σ H Q => ∃ ι F B δ S ds S', Gd K cf S ι F H ∧ Slt K cf ι F H B δ σ ∧ f δ S = some (ds, S') ∧
  ∀ J ι' F' H', Stp ι F H ι' F' H' → Gd K cf S' ι' F' H' → Walk K cf J ds ι' F' → ds.length ≤ lim → Q J H'
section
variable {K : PySem.W.Frag} {cf : Nat → Option Addr} {ι0 : List Addr} {F0 : Hp}
theorem walk_list {a : Addr} {ds : List D} {vs : List V} (h : F0 a = some (.lst vs)) (r : RL K cf ι0 F0 ds vs) : WalkL K cf (Itl K a) ds ι0 F0 := by
  intro i ι F S H hi hf G
  have hs : SqL K H a vs := SqL.of (G.sub _ _ (hf _ _ h))
  refine ⟨fun d hd => ?_, fun hl => ⟨vs, hs, by rw [← r.length]; exact hl⟩⟩
  obtain ⟨v, h1, h2⟩ := r.get hd
  refine ⟨⟨vs, v, hs, h1⟩, fun x H' y => ?_⟩
  obtain ⟨rfl, y⟩ := y
  have e := y vs hs
  rw [h1] at e
  cases e
  exact ⟨F, .refl, G, h2.mono hi hf⟩
theorem walk_tup {a : Addr} {ds : List D} {vs : List V} (h : SqT K F0 a vs) (r : RL K cf ι0 F0 ds vs) : WalkL K cf (Itt K a) ds ι0 F0 := by
  intro i ι F S H hi hf G
  have hs : SqT K H a vs := sqt_mono G.sub (sqt_mono hf h)
  refine ⟨fun d hd => ?_, fun hl => ⟨vs, hs, by rw [← r.length]; exact hl⟩⟩
  obtain ⟨v, h1, h2⟩ := r.get hd
  refine ⟨⟨vs, v, hs, h1⟩, fun x H' y => ?_⟩
  obtain ⟨rfl, y⟩ := y
  have e := y vs hs
  rw [h1] at e
  cases e
  exact ⟨F, .refl, G, h2.mono hi hf⟩
theorem walk_str {z : Str} (o : PyData.strOk z = true) : WalkL K cf (Its z) (z.cps.toList.map fun c => .str ⟨#[c]⟩) ι0 F0 := by
  intro i ι F S H hi hf G
  refine ⟨fun d hd => ?_, fun hl => by simpa [Its] using hl⟩
  rw [List.getElem?_map] at hd
  simp only [Option.map_eq_some_iff] at hd
  obtain ⟨c, hc, rfl⟩ := hd
  have hlt := (List.getElem?_eq_some_iff.mp hc).1
  refine ⟨by simpa [Its] using hlt, fun x H' y => ?_⟩
  obtain ⟨rfl, c', h1, rfl⟩ := y
  have e : z.cps.toList[i]? = some c' := by simpa using h1
  rw [hc] at e
  cases e
  exact ⟨F, .refl, G, .str (by show 1 ≤ lim; decide) (strOk_one o hc)⟩
theorem walk_rng {lo : Int} {n : Nat} : WalkL K cf (Itr lo n) ((List.range n).map fun i => .int (lo + (i : Nat))) ι0 F0 := by
  intro i ι F S H hi hf G
  refine ⟨fun d hd => ?_, fun hl => by simpa [Itr] using hl⟩
  rw [List.getElem?_map] at hd
  simp only [Option.map_eq_some_iff] at hd
  obtain ⟨c, hc, rfl⟩ := hd
  have hlt := (List.getElem?_eq_some_iff.mp hc).1
  rw [List.length_range] at hlt
  rw [List.getElem?_range hlt] at hc
  cases hc
  refine ⟨hlt, fun x H' y => ?_⟩
  obtain ⟨rfl, rfl⟩ := y
  exact ⟨F, .refl, G, .int _⟩
theorem enumD_get : ∀ {ds : List D} {n i : Nat} {d : D}, (enumD n ds)[i]? = some d → ∃ e, ds[i]? = some e ∧ d = .tup [.int ((n + i : Nat)), e]
  | [], _, _, _, h => by simp [enumD] at h
  | x :: xs, n, 0, _, h => by simp [enumD] at h; subst h; exact ⟨x, rfl, rfl⟩
  | x :: xs, n, i + 1, _, h => by
    simp only [enumD, List.getElem?_cons_succ] at h
    obtain ⟨e, h1, h2⟩ := enumD_get h
    refine ⟨e, by simpa using h1, ?_⟩
    rw [h2]
    congr 3
    omega
theorem enumD_len : ∀ (ds : List D) (n : Nat), (enumD n ds).length = ds.length
  | [], _ => rfl
  | _ :: xs, n => congrArg Nat.succ (enumD_len xs (n + 1))
/-- a new tuple of two -/
theorem pair_new {ι : List Addr} {F H : Hp} {S : Store} (G : Gd K cf S ι F H) {T : Addr} {x y : V} {d e : D} (hT : H T = none) (h1 : R K cf ι F d x) (h2 : R K cf ι F e y) :
    ∃ F', Stp ι F H ι F' (upd H T (.tup [x, y])) ∧ Gd K cf S ι F' (upd H T (.tup [x, y])) ∧ R K cf ι F' (.tup [d, e]) (.ref T) := by
  obtain ⟨G', st⟩ := G.new (o := .tup [x, y]) hT
  exact ⟨_, st, G', .tupOf (.cons (h1.step st) (.cons (h2.step st) .nil)) (by show 2 ≤ lim; decide) upd_same⟩
theorem walk_enum {a : Addr} {ds : List D} {vs : List V} (h : F0 a = some (.lst vs)) (r : RL K cf ι0 F0 ds vs) : WalkL K cf (Ite K a) (enumD 0 ds) ι0 F0 := by
  intro i ι F S H hi hf G
  have hs : SqL K H a vs := SqL.of (G.sub _ _ (hf _ _ h))
  refine ⟨fun d hd => ?_, fun hl => ⟨vs, hs, by rw [← r.length]; rw [enumD_len] at hl; exact hl⟩⟩
  obtain ⟨e, he, rfl⟩ := enumD_get hd
  obtain ⟨v, h1, h2⟩ := r.get he
  refine ⟨⟨vs, v, hs, h1⟩, fun x H' y => ?_⟩
  obtain ⟨T, w, rfl, hT, rfl, y⟩ := y
  have q := y vs hs
  rw [h1] at q
  cases q
  have z : ((0 + i : Nat) : Int) = (i : Nat) := by simp
  rw [z]
  exact pair_new G hT (.int _) (h2.mono hi hf)
theorem walk_enumT {a : Addr} {ds : List D} {vs : List V} (h : SqT K F0 a vs) (r : RL K cf ι0 F0 ds vs) : WalkL K cf (IteT K a) (enumD 0 ds) ι0 F0 := by
  intro i ι F S H hi hf G
  have hs : SqT K H a vs := sqt_mono G.sub (sqt_mono hf h)
  refine ⟨fun d hd => ?_, fun hl => ⟨vs, hs, by rw [← r.length]; rw [enumD_len] at hl; exact hl⟩⟩
  obtain ⟨e, he, rfl⟩ := enumD_get hd
  obtain ⟨v, h1, h2⟩ := r.get he
  refine ⟨⟨vs, v, hs, h1⟩, fun x H' y => ?_⟩
  obtain ⟨T, w, rfl, hT, rfl, y⟩ := y
  have q := y vs hs
  rw [h1] at q
  cases q
  have z : ((0 + i : Nat) : Int) = (i : Nat) := by simp
  rw [z]
  exact pair_new G hT (.int _) (h2.mono hi hf)
theorem zipD_get : ∀ {ds es : List D} {i : Nat} {d : D}, (zipD ds es)[i]? = some d → ∃ x y, ds[i]? = some x ∧ es[i]? = some y ∧ d = .tup [x, y]
  | [], _, _, _, h => by simp [zipD] at h
  | _ :: _, [], _, _, h => by simp [zipD] at h
  | x :: xs, y :: ys, 0, _, h => by simp [zipD] at h; subst h; exact ⟨x, y, rfl, rfl, rfl⟩
  | x :: xs, y :: ys, i + 1, _, h => by
    simp only [zipD, List.getElem?_cons_succ] at h
    obtain ⟨a, b, h1, h2, h3⟩ := zipD_get h
    exact ⟨a, b, by simpa using h1, by simpa using h2, h3⟩
theorem zipD_len : ∀ (ds es : List D), (zipD ds es).length = min ds.length es.length
  | [], _ => by simp [zipD]
  | _ :: _, [] => by simp [zipD]
  | x :: xs, y :: ys => by
    simp only [zipD, List.length_cons, zipD_len xs ys]
    omega
theorem walk_zipL {a b : Addr} {ds es : List D} {vs ws : List V} (h : F0 a = some (.lst vs)) (r : RL K cf ι0 F0 ds vs) (h' : F0 b = some (.lst ws)) (r' : RL K cf ι0 F0 es ws) : WalkL K cf (Itz K a b) (zipD ds es) ι0 F0 := by
  intro i ι F S H hi hf G
  have hs : SqL K H a vs := SqL.of (G.sub _ _ (hf _ _ h))
  have hs' : SqL K H b ws := SqL.of (G.sub _ _ (hf _ _ h'))
  refine ⟨fun d hd => ?_, fun hl => ⟨vs, ws, hs, hs', by rw [← r.length, ← r'.length]; rw [zipD_len] at hl; omega⟩⟩
  obtain ⟨p, q, hp, hq, rfl⟩ := zipD_get hd
  obtain ⟨v, h1, h2⟩ := r.get hp
  obtain ⟨w, h3, h4⟩ := r'.get hq
  refine ⟨⟨vs, ws, v, w, hs, hs', h1, h3⟩, fun x H' y => ?_⟩
  obtain ⟨T, v', w', rfl, hT, rfl, y1, y2⟩ := y
  have q1 := y1 vs hs
  rw [h1] at q1
  cases q1
  have q2 := y2 ws hs'
  rw [h3] at q2
  cases q2
  exact pair_new G hT (h2.mono hi hf) (h4.mono hi hf)
theorem walk_zipM {a b : Addr} {ds es : List D} {vs ws : List V} (h : SqT K F0 a vs) (r : RL K cf ι0 F0 ds vs) (h' : F0 b = some (.lst ws)) (r' : RL K cf ι0 F0 es ws) : Walk K cf (ItzM K a b) (zipD ds es) ι0 F0 := by
  intro i ι F S H hi hf G
  have hs : SqT K H a vs := sqt_mono G.sub (sqt_mono hf h)
  have hs' : SqL K H b ws := SqL.of (G.sub _ _ (hf _ _ h'))
  refine ⟨fun d hd => ?_, fun hl => ⟨vs, ws, hs, hs', by rw [← r.length, ← r'.length]; rw [zipD_len] at hl; omega⟩⟩
  obtain ⟨p, q, hp, hq, rfl⟩ := zipD_get hd
  obtain ⟨v, h1, h2⟩ := r.get hp
  obtain ⟨w, h3, h4⟩ := r'.get hq
  refine ⟨⟨vs, ws, v, w, hs, hs', h1, h3⟩, fun x H' y => ?_⟩
  obtain ⟨T, v', w', rfl, hT, rfl, y1, y2⟩ := y
  have q1 := y1 vs hs
  rw [h1] at q1
  cases q1
  have q2 := y2 ws hs'
  rw [h3] at q2
  cases q2
  exact pair_new G hT (h2.mono hi hf) (h4.mono hi hf)
theorem walk_zipT {a b : Addr} {ds es : List D} {vs ws : List V} (h : SqT K F0 a vs) (r : RL K cf ι0 F0 ds vs) (h' : SqT K F0 b ws) (r' : RL K cf ι0 F0 es ws) : WalkL K cf (RZ.ItzT K a b) (zipD ds es) ι0 F0 := by
  intro i ι F S H hi hf G
  have hs : SqT K H a vs := sqt_mono G.sub (sqt_mono hf h)
  have hs' : SqT K H b ws := sqt_mono G.sub (sqt_mono hf h')
  refine ⟨fun d hd => ?_, fun hl => ⟨vs, ws, hs, hs', by rw [← r.length, ← r'.length]; rw [zipD_len] at hl; omega⟩⟩
  obtain ⟨p, q, hp, hq, rfl⟩ := zipD_get hd
  obtain ⟨v, h1, h2⟩ := r.get hp
  obtain ⟨w, h3, h4⟩ := r'.get hq
  refine ⟨⟨vs, ws, v, w, hs, hs', h1, h3⟩, fun x H' y => ?_⟩
  obtain ⟨T, v', w', rfl, hT, rfl, y1, y2⟩ := y
  have q1 := y1 vs hs
  rw [h1] at q1
  cases q1
  have q2 := y2 ws hs'
  rw [h3] at q2
  cases q2
  exact pair_new G hT (h2.mono hi hf) (h4.mono hi hf)
end
section
variable {X : Cx} {cf : Nat → Option Addr} {gv : GV} {cl : CallT}
theorem pi_it {e : Expr} {a : E} {tg : Expr} (he : PE X e (tE X.K cf (ev gv cl a))) : PI X tg e (tI X.K cf (evr gv cl (.it a))) := by
  refine ⟨fun pins s σ H Q I h => ?_⟩
  obtain ⟨ι, F, B, δ, S, ds, S', G, L, e, k⟩ := h
  simp only [evr] at e
  split at e
  · cases e
  · rename_i d S1 ea
    split at e
    · cases e
    · rename_i xs ex
      cases e
      cases d <;> simp only [itemsOf, reduceCtorEq, Option.some.injEq] at ex <;> subst ex
      · refine (pi_str he).run pins s σ H Q I ⟨ι, F, B, δ, S, _, _, G, L, ea, fun v ι1 F1 H1 s1 G1 r1 => ?_⟩
        cases r1 with | str l1 o1 =>
        exact ⟨_, rfl, k _ _ _ _ s1 G1 (walk_str o1).w (by rw [List.length_map, Array.length_toList]; exact l1)⟩
      · refine (pi_tup he).run pins s σ H Q I ⟨ι, F, B, δ, S, _, _, G, L, ea, fun v ι1 F1 H1 s1 G1 r1 => ?_⟩
        cases r1 with | tup a1 a2 a3 =>
        exact ⟨_, rfl, ⟨_, sqt_mono G1.sub a1⟩, k _ _ _ _ s1 G1 (walk_tup a1 a2).w a3⟩
      · refine (pi_list he).run pins s σ H Q I ⟨ι, F, B, δ, S, _, _, G, L, ea, fun v ι1 F1 H1 s1 G1 r1 => ?_⟩
        cases r1 with | lst a1 a2 a3 =>
        exact ⟨_, rfl, ⟨_, SqL.of (G1.sub _ _ a1)⟩, k _ _ _ _ s1 G1 (walk_list a1 a2).w a3⟩
theorem range2_len (a b : Int) : (range2 a b).length = (b - a).toNat := by simp [range2]
theorem pi_rng1 {e : Expr} {a : E} {tg : Expr} {p pos : Pos} (hg : Gl X "range") (hm : X.mg "range" = none) (he : PE X e (tE X.K cf (ev gv cl a))) (ns : notStar e = true) :
    PI X tg (.Call (.Name "range" p) [e] [] pos) (tI X.K cf (evr gv cl (.rng (.cons a .nil)))) := by
  refine ⟨fun pins s σ H Q I h => ?_⟩
  obtain ⟨ι, F, B, δ, S, ds, S', G, L, e, k⟩ := h
  simp only [evr, evs] at e
  split at e
  · cases e
  · rename_i es S1 ea
    split at ea
    · cases ea
    · rename_i d S2 ed
      cases ea
      split at e
      · cases e
      · rename_i xs ex
        cases e
        cases d <;> simp only [rangeOf, reduceCtorEq] at ex
        split at ex
        · rename_i c
          simp only [Bool.and_eq_true, decide_eq_true_eq] at c
          cases ex
          refine (pi_range1 hg hm (pac ns he pa_nil) (starEach_ns ns)).run pins s σ H Q I ⟨ι, F, B, δ, S, _, _, G, L, ed, fun v ι1 F1 H1 s1 G1 r1 => ?_⟩
          cases r1
          refine ⟨_, rfl, c.1, Int.lt_of_le_of_lt c.2 (by decide), k _ _ _ _ s1 G1 ?_ ?_⟩
          · unfold range2
            rw [Int.sub_zero]
            exact walk_rng.w
          · rw [range2_len]
            have := c.2
            show _ ≤ lim
            omega
        · cases ex
theorem pi_rng2 {e1 e2 : Expr} {a b : E} {tg : Expr} {p pos : Pos} (hg : Gl X "range") (hm : X.mg "range" = none) (h1 : PE X e1 (tE X.K cf (ev gv cl a))) (h2 : PE X e2 (tE X.K cf (ev gv cl b)))
    (ns1 : notStar e1 = true) (ns2 : notStar e2 = true) :
    PI X tg (.Call (.Name "range" p) [e1, e2] [] pos) (tI X.K cf (evr gv cl (.rng (.cons a (.cons b .nil))))) := by
  refine ⟨fun pins s σ H Q I h => ?_⟩
  obtain ⟨ι, F, B, δ, S, ds, S', G, L, e, k⟩ := h
  simp only [evr] at e
  split at e
  · cases e
  · rename_i es S1 ea
    split at e
    · cases e
    · rename_i xs ex
      cases e
      refine (pi_range2 hg hm (pac ns1 h1 (pac ns2 h2 pa_nil)) (by rw [starEach_ns ns1, starEach_ns ns2]; rfl) (starEach_ns ns2)).run pins s σ H Q I ?_
      have q : tA X.K cf (evs gv cl (.cons a (.cons b .nil))) σ H (fun vs H1 => ∃ i j : Int, vs = [.int i, .int j] ∧ (-(2 ^ 62) ≤ i ∧ i < 2 ^ 62 ∧ -(2 ^ 62) ≤ j ∧ j < 2 ^ 62) ∧ Q (Itr i (j - i).toNat) H1) := by
        refine ⟨ι, F, B, δ, S, _, _, G, L, ea, fun vs ι1 F1 H1 s1 G1 r1 => ?_⟩
        have hl := evs_len _ ea
        match es, hl, ex, r1 with
        | [d1, d2], _, ex, .cons q1 (.cons q2 .nil) =>
          cases d1 <;> cases d2 <;> simp only [rangeOf, reduceCtorEq] at ex
          split at ex
          · rename_i c
            simp only [Bool.and_eq_true, decide_eq_true_eq] at c
            cases ex
            cases q1
            cases q2
            refine ⟨_, _, rfl, ⟨c.1.1.1.1, c.1.1.1.2, c.1.1.2, c.1.2⟩, k _ _ _ _ s1 G1 walk_rng.w ?_⟩
            rw [range2_len]
            have := c.2
            show _ ≤ lim
            omega
          · cases ex
      exact tA_cons q |> fun z => by
        obtain ⟨ι, F, B, δ, S, d, S', G, L, e, k⟩ := z
        refine ⟨ι, F, B, δ, S, d, S', G, L, e, fun v ι1 F1 H1 s1 G1 r1 => ?_⟩
        obtain ⟨ι, F, B, δ, S, d, S', G, L, e, k⟩ := tA_cons (k v ι1 F1 H1 s1 G1 r1)
        refine ⟨ι, F, B, δ, S, d, S', G, L, e, fun v ι1 F1 H1 s1 G1 r1 => ?_⟩
        exact tA_nil (k v ι1 F1 H1 s1 G1 r1)
theorem pi_enumD {e : Expr} {a : E} {elts : List Expr} {kk : Nat} {tpos p pos : Pos} (hg : Gl X "enumerate") (hm : X.mg "enumerate" = none) (he : PE X e (tE X.K cf (ev gv cl a))) (ns : notStar e = true) :
    PI X (.Tuple elts kk tpos) (.Call (.Name "enumerate" p) [e] [] pos) (tI X.K cf (evr gv cl (.enum a))) := by
  refine ⟨fun pins s σ H Q I h => ?_⟩
  obtain ⟨ι, F, B, δ, S, ds, S', G, L, e, k⟩ := h
  simp only [evr] at e
  split at e
  · cases e
  · rename_i d S1 ea
    split at e
    · cases e
    · rename_i xs ex
      cases e
      cases d <;> simp only [enumOf, reduceCtorEq, Option.some.injEq] at ex <;> subst ex
      · refine (pi_enumA hg hm (pac ns he pa_nil) (starEach_ns ns)).run pins s σ H Q I ⟨ι, F, B, δ, S, _, _, G, L, ea, fun v ι1 F1 H1 s1 G1 r1 => ?_⟩
        cases r1 with | tup a1 a2 a3 =>
        exact ⟨_, _, rfl, .inr ⟨sqt_mono G1.sub a1, k _ _ _ _ s1 G1 (walk_enumT a1 a2).w (by rw [enumD_len]; exact a3)⟩⟩
      · refine (pi_enumA hg hm (pac ns he pa_nil) (starEach_ns ns)).run pins s σ H Q I ⟨ι, F, B, δ, S, _, _, G, L, ea, fun v ι1 F1 H1 s1 G1 r1 => ?_⟩
        cases r1 with | lst a1 a2 a3 =>
        exact ⟨_, _, rfl, .inl ⟨SqL.of (G1.sub _ _ a1), k _ _ _ _ s1 G1 (walk_enum a1 a2).w (by rw [enumD_len]; exact a3)⟩⟩
theorem pi_zipD {e1 e2 : Expr} {a b : E} {elts : List Expr} {kk : Nat} {tpos p pos : Pos} (hg : Gl X "zip") (hm : X.mg "zip" = none) (h1 : PE X e1 (tE X.K cf (ev gv cl a))) (h2 : PE X e2 (tE X.K cf (ev gv cl b)))
    (ns1 : notStar e1 = true) (ns2 : notStar e2 = true) : PI X (.Tuple elts kk tpos) (.Call (.Name "zip" p) [e1, e2] [] pos) (tI X.K cf (evr gv cl (.zip a b))) := by
  refine ⟨fun pins s σ H Q I h => ?_⟩
  obtain ⟨ι, F, B, δ, S, ds, S', G, L, e, k⟩ := h
  simp only [evr] at e
  split at e
  · cases e
  · rename_i x S1 ea
    split at e
    · cases e
    · rename_i y S2 eb
      split at e
      · cases e
      · rename_i xs ex
        cases e
        refine (pi_zipM hg hm (pac ns1 h1 (pac ns2 h2 pa_nil)) (starEach_ns ns1) (backTo_ns (by simp [ns2]))).run pins s σ H Q I ⟨ι, F, B, δ, S, _, _, G, L, ea, fun v ι1 F1 H1 s1 G1 r1 => ?_⟩
        refine ⟨ι1, F1, B, δ, S1, _, _, G1, L.step s1, eb, fun w ι2 F2 H2 s2 G2 r2 => ?_⟩
        have r1' := r1.step s2
        cases x <;> cases y <;> simp only [zipOf, reduceCtorEq, Option.some.injEq] at ex <;> subst ex
        · cases r1' with | tup a1 a2 a3 => cases r2 with | tup b1 b2 b3 =>
          exact ⟨_, _, _, _, rfl, .inr (.inl ⟨sqt_mono G2.sub a1, sqt_mono G2.sub b1, k _ _ _ _ (s1.trans s2) G2 (walk_zipT a1 a2 b1 b2).w (by rw [zipD_len]; omega)⟩)⟩
        · cases r1' with | tup a1 a2 a3 => cases r2 with | lst b1 b2 b3 =>
          exact ⟨_, _, _, _, rfl, .inr (.inr ⟨sqt_mono G2.sub a1, SqL.of (G2.sub _ _ b1), k _ _ _ _ (s1.trans s2) G2 (walk_zipM a1 a2 b1 b2) (by rw [zipD_len]; omega)⟩)⟩
        · cases r1' with | lst a1 a2 a3 => cases r2 with | lst b1 b2 b3 =>
          exact ⟨_, _, _, _, rfl, .inl ⟨SqL.of (G2.sub _ _ a1), SqL.of (G2.sub _ _ b1), k _ _ _ _ (s1.trans s2) G2 (walk_zipL a1 a2 b1 b2).w (by rw [zipD_len]; omega)⟩⟩
/-- within a comprehension, ahead of turn i -/
def LcI (K : PySem.W.Frag) (cf : Nat → Option Addr) (go : List D → Store → Option (List D × Store)) (ds total : List D) (S' : Store) (ι1 : List Addr) (F1 H1 : Hp) (Dl : Addr) (i : Nat) (H : Hp) : Prop :=
  i ≤ ds.length ∧ ∃ ι2 F2 S3 acc vs xs, Stp ι1 F1 H1 ι2 F2 H ∧ Gd K cf S3 ι2 F2 H ∧ F2 Dl = none ∧ Dl ∉ ι2 ∧ H Dl = some (.lst vs) ∧ RL K cf ι2 F2 acc vs ∧ acc.length ≤ i ∧ go (ds.drop i) S3 = some (xs, S') ∧ acc ++ xs = total
def tCond (K : PySem.W.Frag) (cf : Nat → Option Addr) (gv : GV) (cl : CallT) : Es → TT
  | .cons c .nil => tT K cf (ev gv cl c)
  | _ => tYes
theorem keepD {ι' ι'' : List Addr} {F' H' F'' H4 : Hp} {Dl : Addr} {o : HO} (z : Stp ι' F' H' ι'' F'' H4) (h1 : H' Dl = some o) (h2 : F' Dl = none) (h3 : Dl ∉ ι') : H4 Dl = some o ∧ F'' Dl = none ∧ Dl ∉ ι'' := by
  refine ⟨z.fr _ _ h1 h3, ?_, fun hm => ?_⟩
  · cases q : F'' Dl with
    | none => rfl
    | some u =>
      rcases z.fn _ _ q with w | w
      · rw [h2] at w; cases w
      · rw [h1] at w; cases w
  · rcases z.nw _ hm with w | w
    · exact h3 w
    · rw [h1] at w; cases w
/-- the tests of a clause -/
theorem cond_go {K : PySem.W.Frag} {σ : L2.St} {H B F : Hp} {ι : List Addr} {δ : Env} {S S' : Store} {cond : Es} {t : List D} {b : Bool} {Q : Bool → Hp → Prop} (G : Gd K cf S ι F H) (L : Slt K cf ι F H B δ σ) (et : evs gv cl cond δ S = some (t, S')) (eb : testOf t = some b)
    (k : ∀ ι4 F4 H4, Stp ι F H ι4 F4 H4 → Gd K cf S' ι4 F4 H4 → Q b H4) : tCond K cf gv cl cond σ H Q := by
  cases cond with
  | nil =>
    simp only [evs] at et
    cases et
    simp only [testOf] at eb
    cases eb
    exact k _ _ _ .refl G
  | cons c cs =>
    cases cs with
    | nil =>
      simp only [evs] at et
      split at et
      · cases et
      · rename_i z S5 ec
        cases et
        cases z <;> simp only [testOf, reduceCtorEq, Option.some.injEq] at eb
        subst eb
        exact ⟨_, _, B, δ, _, _, _, G, L, ec, fun ι' F' H'' s' G' => k _ _ _ s' G'⟩
    | cons c2 cs2 =>
      have hl := evs_len _ et
      simp only [Es.len] at hl
      match t, hl, eb with
      | _ :: _ :: _, _, eb => simp [testOf] at eb
/-- a new list, not yet frozen -/
def tN (K : PySem.W.Frag) (cf : Nat → Option Addr) (f : EvT) : TE := fun σ H Q => ∃ ι F B δ S ds S', Gd K cf S ι F H ∧ Slt K cf ι F H B δ σ ∧ f δ S = some (.lst ds, S') ∧
  ∀ p vs ι' F' H', Stp ι F H ι' F' H' → Gd K cf S' ι' F' H' → F' p = none → p ∉ ι' → H p = none → H' p = some (.lst vs) → RL K cf ι' F' ds vs → ds.length ≤ lim → Q (.ref p) H'
theorem tN_of {K : PySem.W.Frag} {σ : L2.St} {H : Hp} {Q : VK} {f : EvT} (h : tE K cf f σ H Q) (hl : ∀ δ S d S', f δ S = some (d, S') → ∃ ds, d = .lst ds) : tN K cf f σ H Q := by
  obtain ⟨ι, F, B, δ, S, d, S', G, L, e, k⟩ := h
  obtain ⟨ds, rfl⟩ := hl _ _ _ _ e
  refine ⟨ι, F, B, δ, S, ds, S', G, L, e, fun p vs ι' F' H' st G' h1 h2 h3 h4 h5 h6 => ?_⟩
  refine k _ _ _ _ (st.freeze h3 h1 (o := .lst vs)) (G'.freeze h4 h1 h2) (.lst upd_same (h5.mono ⟨[], by simp⟩ fun a u h => ?_) h6)
  rw [upd_ne (ne_of_none h h1)]; exact h
/-- a comprehension -/
theorem tN_lc {elt : E} {tg : Tg} {src : Sr} {cond : Es} {K : PySem.W.Frag} {σ : L2.St} {H : Hp} {Q : VK} (h : tN K cf (ev gv cl (.lc elt tg src cond)) σ H Q) :
    tLc (tI K cf (evr gv cl src)) (tG K tg) (tCond K cf gv cl cond) (tE K cf (ev gv cl elt)) tg.slots σ H Q := by
  obtain ⟨ι, F, B, δ, S, total, S', G, L, e, k⟩ := h
  simp only [ev] at e
  split at e
  · cases e
  · rename_i ds S1 ea
    split at e
    · cases e
    · rename_i total' S2 el
      cases e
      refine ⟨ι, F, B, δ, S, ds, S1, G, L, ea, fun J ι1 F1 H1 s1 G1 wk hz => ?_⟩
      intro Dl hD
      have L1 := L.step s1
      have hDi : Dl ∉ ι1 := fun hm => (G1.out _ hm).2 hD
      have hDF : F1 Dl = none := by
        cases q : F1 Dl with
        | none => rfl
        | some u => rw [G1.sub _ _ q] at hD; cases hD
      generalize hgoe : lcGo (ev gv cl elt) (evs gv cl cond) tg (wipeE δ tg.slots) = go at el
      refine ⟨fun i m H' => m = ds.length - i ∧ LcI K cf go ds total S' ι1 F1 H1 Dl i H', ⟨ds.length, rfl, Nat.zero_le _, ι1, F1, S1, [], [], total, ?_, ?_, hDF, hDi, upd_same, .nil, Nat.zero_le _, by rw [List.drop_zero]; exact el, rfl⟩, ?_⟩
      · refine ⟨⟨[], by simp⟩, fun _ _ h => h, fun _ _ h => .inl h, fun _ h => .inl h, fun a u h _ => ?_, fun a h => ?_⟩
        · rw [upd_ne (ne_of_none h hD)]; exact h
        · by_cases e : a = Dl
          · subst e; exact hD
          · rw [upd_ne e] at h; exact h
      · refine ⟨fun a u h => ?_, fun i c h => ?_, fun a ha => ?_, G1.inj, G1.len⟩
        · rw [upd_ne (ne_of_none h hDF)]; exact G1.sub _ _ h
        · obtain ⟨a, vs, h1, h2, h3⟩ := G1.cells i c h
          exact ⟨a, vs, h1, by rw [upd_ne (ne_of_none h2 hD)]; exact h2, h3⟩
        · have e : a ≠ Dl := fun e => hDi (e ▸ ha)
          rw [upd_ne e]; exact G1.out a ha
      · rintro i m H' ⟨rfl, hi, ι2, F2, S3, acc, vs, xs, st, G2, hF2, hι2, hvs, hacc, hlen, hgo, htot⟩
        have W := wk i ι2 F2 S3 H' st.io st.fm G2
        by_cases hlt : i < ds.length
        · have hd : ds[i]? = some ds[i] := List.getElem?_eq_getElem hlt
          obtain ⟨gon, yl⟩ := W.1 _ hd
          rw [List.drop_eq_getElem_cons hlt] at hgo
          refine .inr ⟨gon, LcI K cf go ds total S' ι1 F1 H1 Dl (i + 1), fun H'' z => ⟨_, by omega, rfl, z⟩, fun x H3 y => ?_⟩
          obtain ⟨F3, st3, G3, rx⟩ := yl x H3 y
          obtain ⟨d3, f3, n3⟩ := keepD st3 hvs hF2 hι2
          have Lw : Slt K cf ι2 F3 H3 B (wipeE δ tg.slots) (wipe σ tg.slots) := (L1.step (st.trans st3)).wipe _
          rw [← hgoe] at hgo
          simp only [lcGo] at hgo
          split at hgo
          · cases hgo
          · rename_i δ1 eas
            refine tG_go (σ0 := wipe σ tg.slots) G3 eas rx Lw (off_refl _ _) fun σ2 L2' o2 => ⟨?_, ?_⟩
            · have e1 : wipe (wipe σ tg.slots) tg.slots = wipe σ tg.slots := (wipe_eq (off_wipe tg.slots σ tg.slots fun _ h => h)).symm
              rw [← wipe_eq o2]; exact e1
            · split at hgo
              · cases hgo
              · rename_i t S4 et
                split at hgo
                · cases hgo
                · rename_i eb
                  refine cond_go G3 L2' et eb fun ι4 F4 H4 s4 G4 => ?_
                  obtain ⟨d4, f4, n4⟩ := keepD s4 d3 f3 n3
                  rw [hgoe] at hgo
                  exact iteF ⟨hlt, ι4, F4, S4, acc, vs, xs, (st.trans st3).trans s4, G4, f4, n4, d4, (hacc.step st3).step s4, by omega, hgo, htot⟩
                · rename_i eb
                  split at hgo
                  · cases hgo
                  · rename_i y5 S5 e5
                    split at hgo
                    · cases hgo
                    · rename_i ys S6 e6
                      cases hgo
                      rw [hgoe] at e6
                      refine cond_go G3 L2' et eb fun ι4 F4 H4 s4 G4 => ?_
                      obtain ⟨d4, f4, n4⟩ := keepD s4 d3 f3 n3
                      refine iteT ⟨ι4, F4, B, δ1, S4, _, _, G4, L2'.step s4, e5, fun v ι5 F5 H5 s5 G5 r5 => ?_⟩
                      obtain ⟨d5, f5, n5⟩ := keepD s5 d4 f4 n4
                      have hacc5 := ((hacc.step st3).step s4).step s5
                      refine ⟨vs, d5, ?_, hlt, ι5, F5, S5, acc ++ [y5], vs ++ [v], ys, ?_, ?_, f5, n5, upd_same, hacc5.append (.cons r5 .nil), ?_, e6, ?_⟩
                      · rw [← hacc.length]
                        have : acc.length ≤ lim := by omega
                        exact Nat.lt_of_le_of_lt this (by decide)
                      · exact Stp.write ((st.trans st3).trans (s4.trans s5)) hD d5
                      · exact G5.write d5 f5 n5
                      · rw [List.length_append]; simp; omega
                      · rw [List.append_assoc]; exact htot
        · have e : i = ds.length := by omega
          subst e
          refine .inl ⟨W.2 rfl, ?_⟩
          rw [List.drop_length, ← hgoe] at hgo
          simp only [lcGo] at hgo
          cases hgo
          rw [List.append_nil] at htot
          subst htot
          have hH : H Dl = none := s1.dm _ hD
          exact k _ _ _ _ _ (s1.trans st) G2 hF2 hι2 hH hvs hacc (Nat.le_trans hlen hz)
theorem tE_lc {elt : E} {tg : Tg} {src : Sr} {cond : Es} {K : PySem.W.Frag} {σ : L2.St} {H : Hp} {Q : VK} (h : tE K cf (ev gv cl (.lc elt tg src cond)) σ H Q) :
    tLc (tI K cf (evr gv cl src)) (tG K tg) (tCond K cf gv cl cond) (tE K cf (ev gv cl elt)) tg.slots σ H Q := by
  refine tN_lc (tN_of h fun δ S d S' e => ?_)
  simp only [ev] at e
  split at e
  · cases e
  · split at e
    · cases e
    · cases e; exact ⟨_, rfl⟩
/-- a new unfrozen list from the heap -/
theorem new_unf {K : PySem.W.Frag} {ι : List Addr} {F H : Hp} {S : Store} (G : Gd K cf S ι F H) {p : Addr} {o : HO} (hp : H p = none) : Stp ι F H ι F (upd H p o) ∧ Gd K cf S ι F (upd H p o) ∧ F p = none ∧ p ∉ ι := by
  have hi : p ∉ ι := fun hm => (G.out _ hm).2 hp
  have hF : F p = none := by
    cases q : F p with
    | none => rfl
    | some u => rw [G.sub _ _ q] at hp; cases hp
  refine ⟨⟨⟨[], by simp⟩, fun _ _ h => h, fun _ _ h => .inl h, fun _ h => .inl h, fun a u h _ => ?_, fun a h => ?_⟩, ⟨fun a u h => ?_, fun i c h => ?_, fun a ha => ?_, G.inj, G.len⟩, hF, hi⟩
  · rw [upd_ne (ne_of_none h hp)]; exact h
  · by_cases e : a = p
    · subst e; exact hp
    · rw [upd_ne e] at h; exact h
  · rw [upd_ne (ne_of_none h hF)]; exact G.sub _ _ h
  · obtain ⟨a, vs, h1, h2, h3⟩ := G.cells i c h
    exact ⟨a, vs, h1, by rw [upd_ne (ne_of_none h2 hp)]; exact h2, h3⟩
  · have e : a ≠ p := fun e => hi (e ▸ ha)
    rw [upd_ne e]; exact G.out a ha
theorem tN_lst {es : Es} {K : PySem.W.Frag} {σ : L2.St} {H : Hp} {Q : VK} (hl : es.len ≤ 1000) (h : tN K cf (ev gv cl (.lst es)) σ H Q) : tLst (tA K cf (evs gv cl es)) σ H Q := by
  obtain ⟨ι, F, B, δ, S, d, S', G, L, e, k⟩ := h
  simp only [ev] at e
  split at e
  · rename_i ds S1 ea
    cases e
    have hn := evs_len es ea
    refine ⟨ι, F, B, δ, S, _, _, G, L, ea, fun vs ι1 F1 H1 s1 G1 r => ⟨by rw [← r.length, hn]; exact Nat.le_trans hl (by decide), fun p hp => ?_⟩⟩
    obtain ⟨st, G', hF, hi⟩ := new_unf (o := .lst vs) G1 hp
    exact k _ _ _ _ _ (s1.trans st) G' hF hi (s1.dm _ hp) upd_same r (by rw [hn]; exact Nat.le_trans hl (by decide))
  · cases e
theorem tN_list {a : E} {K : PySem.W.Frag} {σ : L2.St} {H : Hp} {Q : VK} (h : tN K cf (ev gv cl (.b1 .list a)) σ H Q) :
    tCB (fun xs H Q => ∃ p ys, xs = [.ref p] ∧ (SqL K H p ys ∨ SqT K H p ys) ∧ ∀ l, H l = none → Q (.ref l) (upd H l (.lst ys))) (tCons (tE K cf (ev gv cl a)) tNil) σ H Q := by
  obtain ⟨ι, F, B, δ, S, d, S', G, L, e, k⟩ := h
  simp only [ev] at e
  split at e
  · cases e
  · rename_i x S1 ea
    split at e
    · cases e
    · rename_i z ez
      cases e
      refine ⟨ι, F, B, δ, S, _, _, G, L, ea, fun v ι1 F1 H1 s1 G1 r => ?_⟩
      cases x <;> simp only [bi1, reduceCtorEq, Option.some.injEq, D.lst.injEq] at ez <;> subst ez
      · cases r with | tup a1 a2 a3 =>
        refine ⟨_, _, rfl, .inr (sqt_mono G1.sub a1), fun p hp => ?_⟩
        obtain ⟨st, G', hF, hi⟩ := new_unf (o := .lst _) G1 hp
        exact k _ _ _ _ _ (s1.trans st) G' hF hi (s1.dm _ hp) upd_same a2 a3
      · cases r with | lst a1 a2 a3 =>
        refine ⟨_, _, rfl, .inl (SqL.of (G1.sub _ _ a1)), fun p hp => ?_⟩
        obtain ⟨st, G', hF, hi⟩ := new_unf (o := .lst _) G1 hp
        exact k _ _ _ _ _ (s1.trans st) G' hF hi (s1.dm _ hp) upd_same a2 a3
theorem tN_add {a b : E} {K : PySem.W.Frag} {σ : L2.St} {H : Hp} {Q : VK} (h : tN K cf (ev gv cl (.op .add a b)) σ H Q) : tOp rCat (tE K cf (ev gv cl a)) (tE K cf (ev gv cl b)) σ H Q := by
  obtain ⟨ι, F, B, δ, S, d, S', G, L, e, k⟩ := h
  simp only [ev] at e
  split at e
  · cases e
  · rename_i x S1 ea
    split at e
    · cases e
    · rename_i y S2 eb
      split at e
      · cases e
      · rename_i z ez
        cases e
        refine ⟨ι, F, B, δ, S, _, _, G, L, ea, fun v ι1 F1 H1 s1 G1 r1 => ?_⟩
        refine ⟨ι1, F1, B, δ, S1, _, _, G1, L.step s1, eb, fun w ι2 F2 H2 s2 G2 r2 => ?_⟩
        have r1' := r1.step s2
        cases x <;> cases y <;> simp only [op2, reduceCtorEq] at ez
        · cases ez
        · split at ez <;> cases ez
        · split at ez <;> cases ez
        · rename_i xs ys
          cases r1' with | lst a1 a2 a3 => cases r2 with | lst b1 b2 b3 =>
          split at ez
          · rename_i hl
            cases ez
            refine ⟨_, _, _, _, rfl, rfl, G2.sub _ _ a1, G2.sub _ _ b1, by rw [← a2.length, ← b2.length]; exact Nat.le_trans hl (by decide), fun p hp => ?_⟩
            obtain ⟨st, G', hF, hi⟩ := new_unf (o := .lst _) G2 hp
            exact k _ _ _ _ _ ((s1.trans s2).trans st) G' hF hi (s1.dm _ (s2.dm _ hp)) upd_same (a2.append b2) (by rw [List.length_append]; exact hl)
          · cases ez
end
end MP

/-! MPI: the mirror of expressions, and that it is sound. -/
namespace MP
open PySem L2

/-- how a law's text is linked: the defs by number and name, the names that hold a value, the built-ins in use -/
structure Lnk where
  fns : List (Nat × Str)
  gls : List (Str × D)
  tabs : List (Str × List (Str × D))
  blts : List Str
  dfs : List (Nat × List Int)
def Lnk.gv (L : Lnk) : GV := ⟨fun x => L.gls.lookup x, fun x => L.tabs.lookup x⟩

def visB (sc : Scope) (x : Str) : Bool := match sc.names.lookup x with
  | some .local | some .cell | some .free => true
  | _ => false
def glB (sc : Scope) (x : Str) : Bool := decide (sc.names.lookup x = some .globalImplicit) && !(x == ("__debug__" : Str))
def nmB (N : List Str) (sc : Scope) (i : Nat) (x : Str) : Bool := decide (N[i]? = some x) && visB sc x && !(x == ("__debug__" : Str)) && !(x == ("__classdict__" : Str))
def bltB (L : Lnk) (sc : Scope) (x nm : Str) : Bool := decide (x = nm) && glB sc x && decide (x ∈ L.blts)
def notSlice : Expr → Bool
  | .Slice _ _ _ _ => false
  | _ => true
def notSet : Expr → Bool
  | .Set _ _ _ => false
  | _ => true
def notIf : Expr → Bool
  | .IfExp _ _ _ _ => false
  | _ => true
def plainT : Expr → Bool
  | .UnaryOp .Not _ _ | .BoolOp _ _ _ | .IfExp _ _ _ _ | .Compare _ _ _ _ => false
  | _ => true
/-- names of types, written one by one -/
def tysB (L : Lnk) (sc : Scope) : List Expr → List Ty → Bool
  | [], [] => true
  | .Name x _ :: es, t :: ts => bltB L sc x (Str.ofString t.nm) && tysB L sc es ts
  | _, _ => false
/-- a target in a block: sc its own scope as it runs, raw: the names that are the block's own cells -/
def tgNmB (N : List Str) (sc : Scope) (fnB : Str → Bool) (i : Nat) (x : Str) : Bool := decide (N[i]? = some x) && (decide (sc.names.lookup x = some .local) || (decide (sc.names.lookup x = some .cell) && fnB x))
def tgNmsB (N : List Str) (sc : Scope) (fnB : Str → Bool) : List Expr → List Nat → Bool
  | [], [] => true
  | .Name x _ :: es, i :: is => tgNmB N sc fnB i x && tgNmsB N sc fnB es is
  | _, _ => false
def tgB (N : List Str) (sc : Scope) (fnB : Str → Bool) : Expr → Tg → Bool
  | .Name x _, .nm i => tgNmB N sc fnB i x
  | .Tuple es _ _, .tp is => tgNmsB N sc fnB es is
  | _, _ => false
def ownZip : List Expr → List Nat → List (Str × Nat)
  | .Name x _ :: es, i :: is => (x, i) :: ownZip es is
  | _, _ => []
def ownOf : Expr → Tg → List (Str × Nat)
  | .Name x _, .nm i => [(x, i)]
  | .Tuple es _ _, .tp is => ownZip es is
  | _, _ => []
def rngB (L : Lnk) (sc : Scope) : Expr → Option (List Expr)
  | .Call (.Name x _) es [] _ => if bltB L sc x "range" then some es else none
  | _ => none
def isTup : Expr → Bool
  | .Tuple _ _ _ => true
  | _ => false

section
variable (L : Lnk) (N : List Str)
mutual
def mE (sc : Scope) : E → Expr → Bool
  | .var i, .Name x _ => nmB N sc i x
  | .cn, .Constant .none _ _ => true
  | .cb b, .Constant (.bool c) _ _ => b == c
  | .ci i, .Constant (.int j) _ _ => decide (i = j)
  | .cs s, .Constant (.str t) _ _ => decide (s = t) && decide (s.length ≤ lim) && PyData.strOk s
  | .glob x, .Name y _ => decide (x = y) && glB sc y
  | .tup es, .Tuple xs _ _ => mEs sc es xs && decide (es.len ≤ 1000)
  | .lst es, .List xs _ => mEs sc es xs && decide (es.len ≤ 1000)
  | .newc es, .List xs _ => mEs sc es xs && decide (es.len ≤ 1000)
  | .op o a b, .BinOp x op y _ => decide (o2bin o = some op) && mE sc a x && mE sc b y
  | .op o a b, .Compare x [c] [y] _ => decide (o2cmp o = some c) && mE sc a x && mE sc b y && notSet y
  | .isN a, .Compare x [.Is] [.Constant .none _ _] _ => mE sc a x
  | .notN a, .Compare x [.IsNot] [.Constant .none _ _] _ => mE sc a x
  | .neg a, .UnaryOp .USub x _ => mE sc a x
  | .nt a, .UnaryOp .Not x _ => mE sc a x && notIf x
  | .and a b, .BoolOp .And (x :: y :: r) p => mE sc a x && notIf x && (match r with
    | [] => mE sc b y && notIf y
    | _ :: _ => mE sc b (.BoolOp .And (y :: r) p))
  | .or a b, .BoolOp .Or (x :: y :: r) p => mE sc a x && notIf x && (match r with
    | [] => mE sc b y && notIf y
    | _ :: _ => mE sc b (.BoolOp .Or (y :: r) p))
  | .chain o1 o2 a b c, .Compare x [c1, c2] [y, z] _ => decide (o2cmp o1 = some c1) && decide (o2cmp o2 = some c2) && mE sc a x && mE sc b y && mE sc c z && notSet y && notSet z
  | .ite c a b, .IfExp t x y _ => mE sc c t && mE sc a x && mE sc b y && notIf t
  | .call f es, .Call (.Name x _) (y :: ys) [] _ => decide ((f, x) ∈ L.fns) && glB sc x && mEs sc es (y :: ys)
  | .calll i es, .Call (.Name x _) (y :: ys) [] _ => nmB N sc i x && mEs sc es (y :: ys)
  | .b1 f a, .Call (.Name x _) [y] [] _ => bltB L sc x (b1nm f) && mE sc a y
  | .b2 f a b, .Call (.Name x _) [y, z] [] _ => bltB L sc x (b2nm f) && mE sc a y && mE sc b z
  | .isi a ts, .Call (.Name x _) [y, t] [] _ => bltB L sc x "isinstance" && mE sc a y && (match t with
    | .Name z p => tysB L sc [.Name z p] ts
    | .Tuple es _ _ => tysB L sc es ts && decide (2 ≤ ts.length) && decide (ts.length ≤ 1000)
    | _ => false)
  | .ix a b, .Subscript x y _ => mE sc a x && mE sc b y && notSlice y
  | .sl a lo hi, .Subscript x (.Slice l h none _) _ => mE sc a x && mO sc lo l && mO sc hi h
  | .lc elt tg src cond, .ListComp x [⟨t, it, ifs, 0⟩] scope _ => mR sc src t it && blkC N sc scope (ownOf t tg) && decide ((ownOf t tg).map (·.2) = tg.slots) && tgB N (relS scope sc) (fun x => scope.names.lookup x == some .cell) t tg &&
      mE (relS scope sc) elt x && mC (relS scope sc) cond ifs && notSet it
  | .lrng es, .Call (.Name x _) [r] [] _ => bltB L sc x "list" && (match rngB L sc r with
    | some ys => mEs sc es ys && decide (1 ≤ ys.length) && decide (ys.length ≤ 2)
    | none => false)
  | .olen i, .Call (.Name x _) [.Name y _] [] _ => bltB L sc x "len" && nmB N sc i y
  | .oix i e, .Subscript (.Name x _) y _ => nmB N sc i x && mE sc e y && notSlice y
  | .inD neg x a, .Compare y [c] [.Name z _] _ => decide (x = z) && glB sc z && mE sc a y && (match neg with
    | true => decide (c = .NotIn)
    | false => decide (c = .In))
  | .getD x a, .Subscript (.Name z _) y _ => decide (x = z) && glB sc z && mE sc a y && notSlice y
  | .calld f es ds, .Call (.Name x _) (y :: ys) [] _ => decide ((f, x) ∈ L.fns) && decide (L.dfs.lookup f = some ds) && glB sc x && mEs sc es (y :: ys)
  | .osl i lo hi, .Subscript (.Name x _) (.Slice l h none _) _ => nmB N sc i x && mO sc lo l && mO sc hi h
  | .rev a, .Subscript x (.Slice none none (some (.UnaryOp .USub (.Constant (.int 1) _ _) _)) _) _ => mE sc a x
  | .isB neg a b, .Compare x [c] [.Constant (.bool b') _ _] _ => mE sc a x && b == b' && (match neg with
    | true => decide (c = .IsNot)
    | false => decide (c = .Is))
  | .cnew a, .Call (.Name x _) [y] [] _ => bltB L sc x "list" && mE sc a y
  | .clen a, .Call (.Name x _) [y] [] _ => bltB L sc x "len" && mE sc a y
  | .cpop a i, .Call (.Attribute (.Name ox op) nm apos) [y] [] p2 => decide (nm = "pop") && mE sc a (.Name ox op) && mE sc i y && (apos.endLine == p2.line)
  | .cnil neg a, .Compare x [c] [.List [] _] _ => mE sc a x && (match neg with
    | true => decide (c = .NotEq)
    | false => decide (c = .Eq))
  | _, _ => false
def mEs (sc : Scope) : Es → List Expr → Bool
  | .nil, [] => true
  | .cons e es, x :: xs => mE sc e x && mEs sc es xs
  | _, _ => false
/-- a slice's part -/
def mO (sc : Scope) : Es → Option Expr → Bool
  | .nil, none => true
  | .cons e .nil, some x => mE sc e x
  | _, _ => false
/-- a clause's tests -/
def mC (sc : Scope) : Es → List Expr → Bool
  | .nil, [] => true
  | .cons e .nil, [x] => mE sc e x && notIf x
  | _, _ => false
/-- a source, with the target that it is walked to -/
def mR (sc : Scope) : Sr → Expr → Expr → Bool
  | .it e, _, x => mE sc e x
  | .rng es, _, x => (match rngB L sc x with
    | some ys => mEs sc es ys && decide (1 ≤ ys.length) && decide (ys.length ≤ 2)
    | none => false)
  | .enum e, t, .Call (.Name x _) [y] [] _ => bltB L sc x "enumerate" && mE sc e y && isTup t
  | .zip a b, t, .Call (.Name x _) [y, z] [] _ => bltB L sc x "zip" && mE sc a y && mE sc b z && isTup t
  | _, _, _ => false
end
end
end MP

/-! MPJ: the mirror of expressions is sound. -/
namespace MP
open PySem L2

section
variable {L : Lnk} {N : List Str} {sc : Scope} {x : Expr}
theorem ns_of {e : E} (h : mE L N sc e x = true) : notStar x = true := by
  cases x <;> first | rfl | (cases e <;> simp [mE] at h)
theorem nsall_of : ∀ {es : Es} {xs : List Expr}, mEs L N sc es xs = true → xs.all notStar = true
  | .nil, [], _ => rfl
  | .nil, _ :: _, h => by simp [mEs] at h
  | .cons _ _, [], h => by simp [mEs] at h
  | .cons e es, x :: xs, h => by
    simp only [mEs, Bool.and_eq_true] at h
    simp only [List.all_cons, ns_of h.1, nsall_of h.2, Bool.and_self]
theorem i_var {i : Nat} (h : mE L N sc (.var i) x = true) : ∃ y p, x = .Name y p ∧ nmB N sc i y = true := by
  unfold mE at h; split at h
  all_goals first | (rename_i q; cases q; done) | cases h | skip
  all_goals (rename_i q; cases q; exact ⟨_, _, rfl, h⟩)
theorem i_cn (h : mE L N sc .cn x = true) : ∃ k p, x = .Constant .none k p := by
  unfold mE at h; split at h
  all_goals first | (rename_i q; cases q; done) | cases h | skip
  all_goals exact ⟨_, _, rfl⟩
theorem i_cb {b : Bool} (h : mE L N sc (.cb b) x = true) : ∃ k p, x = .Constant (.bool b) k p := by
  unfold mE at h; split at h
  all_goals first | (rename_i q; cases q; done) | (exact Bool.noConfusion h) | skip
  all_goals (rename_i q; cases q; cases (beq_iff_eq.mp h); exact ⟨_, _, rfl⟩)
theorem i_ci {i : Int} (h : mE L N sc (.ci i) x = true) : ∃ k p, x = .Constant (.int i) k p := by
  unfold mE at h; split at h
  all_goals first | (rename_i q; cases q; done) | (exact Bool.noConfusion h) | skip
  all_goals (rename_i q; cases q; cases (of_decide_eq_true h); exact ⟨_, _, rfl⟩)
theorem i_cs {s : Str} (h : mE L N sc (.cs s) x = true) : ∃ k p, x = .Constant (.str s) k p ∧ s.length ≤ lim ∧ PyData.strOk s = true := by
  unfold mE at h; split at h
  all_goals first | (rename_i q; cases q; done) | (exact Bool.noConfusion h) | skip
  all_goals (rename_i q; cases q; simp only [Bool.and_eq_true, decide_eq_true_eq] at h; obtain ⟨⟨rfl, h2⟩, h3⟩ := h; exact ⟨_, _, rfl, h2, h3⟩)
theorem i_glob {y : Str} (h : mE L N sc (.glob y) x = true) : ∃ p, x = .Name y p ∧ glB sc y = true := by
  unfold mE at h; split at h
  all_goals first | (rename_i q; cases q; done) | (exact Bool.noConfusion h) | skip
  all_goals (rename_i q; cases q; simp only [Bool.and_eq_true, decide_eq_true_eq] at h; obtain ⟨rfl, h2⟩ := h; exact ⟨_, rfl, h2⟩)
theorem i_tup {es : Es} (h : mE L N sc (.tup es) x = true) : ∃ xs k p, x = .Tuple xs k p ∧ mEs L N sc es xs = true ∧ es.len ≤ 1000 := by
  unfold mE at h; split at h
  all_goals first | (rename_i q; cases q; done) | (exact Bool.noConfusion h) | skip
  all_goals (rename_i q; cases q; simp only [Bool.and_eq_true, decide_eq_true_eq] at h; exact ⟨_, _, _, rfl, h⟩)
theorem i_lst {es : Es} (h : mE L N sc (.lst es) x = true) : ∃ xs p, x = .List xs p ∧ mEs L N sc es xs = true ∧ es.len ≤ 1000 := by
  unfold mE at h; split at h
  all_goals first | (rename_i q; cases q; done) | (exact Bool.noConfusion h) | skip
  all_goals (rename_i q; cases q; simp only [Bool.and_eq_true, decide_eq_true_eq] at h; exact ⟨_, _, rfl, h⟩)
theorem i_newc {es : Es} (h : mE L N sc (.newc es) x = true) : ∃ xs p, x = .List xs p ∧ mEs L N sc es xs = true ∧ es.len ≤ 1000 := by
  unfold mE at h; split at h
  all_goals first | (rename_i q; cases q; done) | (exact Bool.noConfusion h) | skip
  all_goals (rename_i q; cases q; simp only [Bool.and_eq_true, decide_eq_true_eq] at h; exact ⟨_, _, rfl, h⟩)
theorem i_op {o : O2} {a b : E} (h : mE L N sc (.op o a b) x = true) : (∃ l op r p, x = .BinOp l op r p ∧ o2bin o = some op ∧ mE L N sc a l = true ∧ mE L N sc b r = true) ∨
    ∃ l c r p, x = .Compare l [c] [r] p ∧ o2cmp o = some c ∧ mE L N sc a l = true ∧ mE L N sc b r = true ∧ notSet r = true := by
  unfold mE at h; split at h
  all_goals first | (rename_i q; cases q; done) | (exact Bool.noConfusion h) | skip
  all_goals (rename_i q; cases q; simp only [Bool.and_eq_true, decide_eq_true_eq] at h)
  · exact .inl ⟨_, _, _, _, rfl, h.1.1, h.1.2, h.2⟩
  · exact .inr ⟨_, _, _, _, rfl, h.1.1.1, h.1.1.2, h.1.2, h.2⟩
theorem i_isN {a : E} (h : mE L N sc (.isN a) x = true) : ∃ l k p1 p, x = .Compare l [.Is] [.Constant .none k p1] p ∧ mE L N sc a l = true := by
  unfold mE at h; split at h
  all_goals first | (rename_i q; cases q; done) | (exact Bool.noConfusion h) | skip
  all_goals (rename_i q; cases q; exact ⟨_, _, _, _, rfl, h⟩)
theorem i_notN {a : E} (h : mE L N sc (.notN a) x = true) : ∃ l k p1 p, x = .Compare l [.IsNot] [.Constant .none k p1] p ∧ mE L N sc a l = true := by
  unfold mE at h; split at h
  all_goals first | (rename_i q; cases q; done) | (exact Bool.noConfusion h) | skip
  all_goals (rename_i q; cases q; exact ⟨_, _, _, _, rfl, h⟩)
theorem i_neg {a : E} (h : mE L N sc (.neg a) x = true) : ∃ l p, x = .UnaryOp .USub l p ∧ mE L N sc a l = true := by
  unfold mE at h; split at h
  all_goals first | (rename_i q; cases q; done) | (exact Bool.noConfusion h) | skip
  all_goals (rename_i q; cases q; exact ⟨_, _, rfl, h⟩)
theorem i_nt {a : E} (h : mE L N sc (.nt a) x = true) : ∃ l p, x = .UnaryOp .Not l p ∧ mE L N sc a l = true ∧ notIf l = true := by
  unfold mE at h; split at h
  all_goals first | (rename_i q; cases q; done) | (exact Bool.noConfusion h) | skip
  all_goals (rename_i q; cases q; simp only [Bool.and_eq_true] at h; exact ⟨_, _, rfl, h⟩)
theorem i_and {a b : E} (h : mE L N sc (.and a b) x = true) : ∃ l y r p, x = .BoolOp .And (l :: y :: r) p ∧ mE L N sc a l = true ∧ notIf l = true ∧ ((r = [] ∧ mE L N sc b y = true ∧ notIf y = true) ∨ (r ≠ [] ∧ mE L N sc b (.BoolOp .And (y :: r) p) = true)) := by
  unfold mE at h; split at h
  all_goals first | (rename_i q; cases q; done) | (exact Bool.noConfusion h) | skip
  all_goals (rename_i q; cases q; simp only [Bool.and_eq_true] at h; refine ⟨_, _, _, _, rfl, h.1.1, h.1.2, ?_⟩; obtain ⟨h1, h2⟩ := h; split at h2; (simp only [Bool.and_eq_true] at h2; exact .inl ⟨rfl, h2⟩); exact .inr ⟨by simp, h2⟩)
theorem i_or {a b : E} (h : mE L N sc (.or a b) x = true) : ∃ l y r p, x = .BoolOp .Or (l :: y :: r) p ∧ mE L N sc a l = true ∧ notIf l = true ∧ ((r = [] ∧ mE L N sc b y = true ∧ notIf y = true) ∨ (r ≠ [] ∧ mE L N sc b (.BoolOp .Or (y :: r) p) = true)) := by
  unfold mE at h; split at h
  all_goals first | (rename_i q; cases q; done) | (exact Bool.noConfusion h) | skip
  all_goals (rename_i q; cases q; simp only [Bool.and_eq_true] at h; refine ⟨_, _, _, _, rfl, h.1.1, h.1.2, ?_⟩; obtain ⟨h1, h2⟩ := h; split at h2; (simp only [Bool.and_eq_true] at h2; exact .inl ⟨rfl, h2⟩); exact .inr ⟨by simp, h2⟩)
theorem i_chain {o1 o2 : O2} {a b c : E} (h : mE L N sc (.chain o1 o2 a b c) x = true) : ∃ l c1 c2 y z p, x = .Compare l [c1, c2] [y, z] p ∧ o2cmp o1 = some c1 ∧ o2cmp o2 = some c2 ∧ mE L N sc a l = true ∧ mE L N sc b y = true ∧ mE L N sc c z = true ∧ notSet y = true ∧ notSet z = true := by
  unfold mE at h; split at h
  all_goals first | (rename_i q; cases q; done) | (exact Bool.noConfusion h) | skip
  all_goals (rename_i q; cases q; simp only [Bool.and_eq_true, decide_eq_true_eq] at h; exact ⟨_, _, _, _, _, _, rfl, h.1.1.1.1.1.1, h.1.1.1.1.1.2, h.1.1.1.1.2, h.1.1.1.2, h.1.1.2, h.1.2, h.2⟩)
theorem i_ite {c a b : E} (h : mE L N sc (.ite c a b) x = true) : ∃ t y z p, x = .IfExp t y z p ∧ mE L N sc c t = true ∧ mE L N sc a y = true ∧ mE L N sc b z = true ∧ notIf t = true := by
  unfold mE at h; split at h
  all_goals first | (rename_i q; cases q; done) | (exact Bool.noConfusion h) | skip
  all_goals (rename_i q; cases q; simp only [Bool.and_eq_true, decide_eq_true_eq] at h; exact ⟨_, _, _, _, rfl, h.1.1.1, h.1.1.2, h.1.2, h.2⟩)
theorem i_call {f : Nat} {es : Es} (h : mE L N sc (.call f es) x = true) : ∃ y p z zs p2, x = .Call (.Name y p) (z :: zs) [] p2 ∧ (f, y) ∈ L.fns ∧ glB sc y = true ∧ mEs L N sc es (z :: zs) = true := by
  unfold mE at h; split at h
  all_goals first | (rename_i q; cases q; done) | (exact Bool.noConfusion h) | skip
  all_goals (rename_i q; cases q; simp only [Bool.and_eq_true, decide_eq_true_eq] at h; exact ⟨_, _, _, _, _, rfl, h.1.1, h.1.2, h.2⟩)
theorem i_calll {i : Nat} {es : Es} (h : mE L N sc (.calll i es) x = true) : ∃ y p z zs p2, x = .Call (.Name y p) (z :: zs) [] p2 ∧ nmB N sc i y = true ∧ mEs L N sc es (z :: zs) = true := by
  unfold mE at h; split at h
  all_goals first | (rename_i q; cases q; done) | (exact Bool.noConfusion h) | skip
  all_goals (rename_i q; cases q; simp only [Bool.and_eq_true, decide_eq_true_eq] at h; exact ⟨_, _, _, _, _, rfl, h.1, h.2⟩)
theorem i_b1 {f : B1} {a : E} (h : mE L N sc (.b1 f a) x = true) : ∃ y p z p2, x = .Call (.Name y p) [z] [] p2 ∧ bltB L sc y (b1nm f) = true ∧ mE L N sc a z = true := by
  unfold mE at h; split at h
  all_goals first | (rename_i q; cases q; done) | (exact Bool.noConfusion h) | skip
  all_goals (rename_i q; cases q; simp only [Bool.and_eq_true, decide_eq_true_eq] at h; exact ⟨_, _, _, _, rfl, h.1, h.2⟩)
theorem i_b2 {f : B2} {a b : E} (h : mE L N sc (.b2 f a b) x = true) : ∃ y p z w p2, x = .Call (.Name y p) [z, w] [] p2 ∧ bltB L sc y (b2nm f) = true ∧ mE L N sc a z = true ∧ mE L N sc b w = true := by
  unfold mE at h; split at h
  all_goals first | (rename_i q; cases q; done) | (exact Bool.noConfusion h) | skip
  all_goals (rename_i q; cases q; simp only [Bool.and_eq_true, decide_eq_true_eq] at h; exact ⟨_, _, _, _, _, rfl, h.1.1, h.1.2, h.2⟩)
theorem i_isi {a : E} {ts : List Ty} (h : mE L N sc (.isi a ts) x = true) : ∃ y p z t p2, x = .Call (.Name y p) [z, t] [] p2 ∧ bltB L sc y "isinstance" = true ∧ mE L N sc a z = true ∧
    ((∃ w q, t = .Name w q ∧ tysB L sc [.Name w q] ts = true) ∨ ∃ es k q, t = .Tuple es k q ∧ tysB L sc es ts = true ∧ 2 ≤ ts.length ∧ ts.length ≤ 1000) := by
  unfold mE at h; split at h
  all_goals first | (rename_i q; cases q; done) | (exact Bool.noConfusion h) | skip
  all_goals (rename_i q; cases q; simp only [Bool.and_eq_true, decide_eq_true_eq] at h; obtain ⟨⟨h1, h2⟩, h3⟩ := h; refine ⟨_, _, _, _, _, rfl, h1, h2, ?_⟩; split at h3)
  · exact .inl ⟨_, _, rfl, h3⟩
  · simp only [Bool.and_eq_true, decide_eq_true_eq] at h3
    exact .inr ⟨_, _, _, rfl, h3.1.1, h3.1.2, h3.2⟩
  · exact Bool.noConfusion h3
theorem i_ix {a b : E} (h : mE L N sc (.ix a b) x = true) : ∃ y z p, x = .Subscript y z p ∧ mE L N sc a y = true ∧ mE L N sc b z = true ∧ notSlice z = true := by
  unfold mE at h; split at h
  all_goals first | (rename_i q; cases q; done) | (exact Bool.noConfusion h) | skip
  all_goals (rename_i q; cases q; simp only [Bool.and_eq_true, decide_eq_true_eq] at h; exact ⟨_, _, _, rfl, h.1.1, h.1.2, h.2⟩)
theorem i_sl {a : E} {lo hi : Es} (h : mE L N sc (.sl a lo hi) x = true) : ∃ y l u p2 p, x = .Subscript y (.Slice l u none p2) p ∧ mE L N sc a y = true ∧ mO L N sc lo l = true ∧ mO L N sc hi u = true := by
  unfold mE at h; split at h
  all_goals first | (rename_i q; cases q; done) | (exact Bool.noConfusion h) | skip
  all_goals (rename_i q; cases q; simp only [Bool.and_eq_true, decide_eq_true_eq] at h; exact ⟨_, _, _, _, _, rfl, h.1.1, h.1.2, h.2⟩)
theorem i_lc {elt : E} {tg : Tg} {src : Sr} {cond : Es} (h : mE L N sc (.lc elt tg src cond) x = true) : ∃ y t it ifs scope p, x = .ListComp y [⟨t, it, ifs, 0⟩] scope p ∧ mR L N sc src t it = true ∧ blkC N sc scope (ownOf t tg) = true ∧ (ownOf t tg).map (·.2) = tg.slots ∧
    tgB N (relS scope sc) (fun x => scope.names.lookup x == some .cell) t tg = true ∧ mE L N (relS scope sc) elt y = true ∧ mC L N (relS scope sc) cond ifs = true ∧ notSet it = true := by
  unfold mE at h; split at h
  all_goals first | (rename_i q; cases q; done) | (exact Bool.noConfusion h) | skip
  all_goals (rename_i q; cases q; simp only [Bool.and_eq_true, decide_eq_true_eq] at h; exact ⟨_, _, _, _, _, _, rfl, h.1.1.1.1.1.1, h.1.1.1.1.1.2, h.1.1.1.1.2, h.1.1.1.2, h.1.1.2, h.1.2, h.2⟩)
theorem i_lrng {es : Es} (h : mE L N sc (.lrng es) x = true) : ∃ y p r p2 ys, x = .Call (.Name y p) [r] [] p2 ∧ bltB L sc y "list" = true ∧ rngB L sc r = some ys ∧ mEs L N sc es ys = true ∧ 1 ≤ ys.length ∧ ys.length ≤ 2 := by
  unfold mE at h; split at h
  all_goals first | (rename_i q; cases q; done) | (exact Bool.noConfusion h) | skip
  all_goals (rename_i q; cases q; simp only [Bool.and_eq_true, decide_eq_true_eq] at h; obtain ⟨h1, h2⟩ := h; split at h2)
  · rename_i ys hys
    simp only [Bool.and_eq_true, decide_eq_true_eq] at h2
    exact ⟨_, _, _, _, _, rfl, h1, hys, h2.1.1, h2.1.2, h2.2⟩
  · exact Bool.noConfusion h2
theorem i_olen {i : Nat} (h : mE L N sc (.olen i) x = true) : ∃ y p z p2 p3, x = .Call (.Name y p) [.Name z p2] [] p3 ∧ bltB L sc y "len" = true ∧ nmB N sc i z = true := by
  unfold mE at h; split at h
  all_goals first | (rename_i q; cases q; done) | (exact Bool.noConfusion h) | skip
  all_goals (rename_i q; cases q; simp only [Bool.and_eq_true, decide_eq_true_eq] at h; exact ⟨_, _, _, _, _, rfl, h.1, h.2⟩)
theorem i_oix {i : Nat} {e : E} (h : mE L N sc (.oix i e) x = true) : ∃ y p z p2, x = .Subscript (.Name y p) z p2 ∧ nmB N sc i y = true ∧ mE L N sc e z = true ∧ notSlice z = true := by
  unfold mE at h; split at h
  all_goals first | (rename_i q; cases q; done) | (exact Bool.noConfusion h) | skip
  all_goals (rename_i q; cases q; simp only [Bool.and_eq_true, decide_eq_true_eq] at h; exact ⟨_, _, _, _, rfl, h.1.1, h.1.2, h.2⟩)
theorem i_inD {neg : Bool} {y : Str} {a : E} (h : mE L N sc (.inD neg y a) x = true) : ∃ l p p2, x = .Compare l [if neg then .NotIn else .In] [.Name y p] p2 ∧ glB sc y = true ∧ mE L N sc a l = true := by
  unfold mE at h; split at h
  all_goals first | (rename_i q; cases q; done) | (exact Bool.noConfusion h) | skip
  all_goals (rename_i q; cases q; simp only [Bool.and_eq_true, decide_eq_true_eq] at h; obtain ⟨⟨⟨rfl, h1⟩, h2⟩, h3⟩ := h)
  cases neg
  · simp only [decide_eq_true_eq] at h3; subst h3; exact ⟨_, _, _, rfl, h1, h2⟩
  · simp only [decide_eq_true_eq] at h3; subst h3; exact ⟨_, _, _, rfl, h1, h2⟩
theorem i_getD {y : Str} {a : E} (h : mE L N sc (.getD y a) x = true) : ∃ z p p2, x = .Subscript (.Name y p) z p2 ∧ glB sc y = true ∧ mE L N sc a z = true ∧ notSlice z = true := by
  unfold mE at h; split at h
  all_goals first | (rename_i q; cases q; done) | (exact Bool.noConfusion h) | skip
  all_goals (rename_i q; cases q; simp only [Bool.and_eq_true, decide_eq_true_eq] at h; obtain ⟨⟨⟨rfl, h1⟩, h2⟩, h3⟩ := h; exact ⟨_, _, _, rfl, h1, h2, h3⟩)
theorem i_calld {f : Nat} {es : Es} {ds : List Int} (h : mE L N sc (.calld f es ds) x = true) : ∃ y p z zs p2, x = .Call (.Name y p) (z :: zs) [] p2 ∧ (f, y) ∈ L.fns ∧ L.dfs.lookup f = some ds ∧ glB sc y = true ∧ mEs L N sc es (z :: zs) = true := by
  unfold mE at h; split at h
  all_goals first | (rename_i q; cases q; done) | (exact Bool.noConfusion h) | skip
  all_goals (rename_i q; cases q; simp only [Bool.and_eq_true, decide_eq_true_eq] at h; exact ⟨_, _, _, _, _, rfl, h.1.1.1, h.1.1.2, h.1.2, h.2⟩)
theorem i_osl {i : Nat} {lo hi : Es} (h : mE L N sc (.osl i lo hi) x = true) : ∃ y p l u p2 p3, x = .Subscript (.Name y p) (.Slice l u none p2) p3 ∧ nmB N sc i y = true ∧ mO L N sc lo l = true ∧ mO L N sc hi u = true := by
  unfold mE at h; split at h
  all_goals first | (rename_i q; cases q; done) | (exact Bool.noConfusion h) | skip
  all_goals (rename_i q; cases q; simp only [Bool.and_eq_true, decide_eq_true_eq] at h; exact ⟨_, _, _, _, _, _, rfl, h.1.1, h.1.2, h.2⟩)
theorem i_rev {a : E} (h : mE L N sc (.rev a) x = true) : ∃ y k p1 p2 p3 p, x = .Subscript y (.Slice none none (some (.UnaryOp .USub (.Constant (.int 1) k p1) p2)) p3) p ∧ mE L N sc a y = true := by
  unfold mE at h; split at h
  all_goals first | (rename_i q; cases q; done) | (exact Bool.noConfusion h) | skip
  all_goals (rename_i q; cases q; exact ⟨_, _, _, _, _, _, rfl, h⟩)
theorem i_isB {neg b : Bool} {a : E} (h : mE L N sc (.isB neg a b) x = true) : ∃ l k p1 p, x = .Compare l [if neg then .IsNot else .Is] [.Constant (.bool b) k p1] p ∧ mE L N sc a l = true := by
  unfold mE at h; split at h
  all_goals first | (rename_i q; cases q; done) | (exact Bool.noConfusion h) | skip
  all_goals (rename_i q; cases q; simp only [Bool.and_eq_true] at h; obtain ⟨⟨h1, h2⟩, h3⟩ := h; cases (beq_iff_eq.mp h2); cases neg <;> (simp only [decide_eq_true_eq] at h3; subst h3; exact ⟨_, _, _, _, rfl, h1⟩))
theorem i_cnew {a : E} (h : mE L N sc (.cnew a) x = true) : ∃ y p z p2, x = .Call (.Name y p) [z] [] p2 ∧ bltB L sc y "list" = true ∧ mE L N sc a z = true := by
  unfold mE at h; split at h
  all_goals first | (rename_i q; cases q; done) | (exact Bool.noConfusion h) | skip
  all_goals (rename_i q; cases q; simp only [Bool.and_eq_true] at h; exact ⟨_, _, _, _, rfl, h.1, h.2⟩)
theorem i_clen {a : E} (h : mE L N sc (.clen a) x = true) : ∃ y p z p2, x = .Call (.Name y p) [z] [] p2 ∧ bltB L sc y "len" = true ∧ mE L N sc a z = true := by
  unfold mE at h; split at h
  all_goals first | (rename_i q; cases q; done) | (exact Bool.noConfusion h) | skip
  all_goals (rename_i q; cases q; simp only [Bool.and_eq_true] at h; exact ⟨_, _, _, _, rfl, h.1, h.2⟩)
theorem i_cpop {a i : E} (h : mE L N sc (.cpop a i) x = true) : ∃ ox op apos y p2, x = .Call (.Attribute (.Name ox op) "pop" apos) [y] [] p2 ∧ mE L N sc a (.Name ox op) = true ∧ mE L N sc i y = true ∧ (apos.endLine == p2.line) = true := by
  unfold mE at h; split at h
  all_goals first | (rename_i q; cases q; done) | (exact Bool.noConfusion h) | skip
  all_goals (rename_i q; cases q; simp only [Bool.and_eq_true, decide_eq_true_eq] at h; obtain ⟨⟨⟨rfl, h1⟩, h2⟩, h3⟩ := h; exact ⟨_, _, _, _, _, rfl, h1, h2, h3⟩)
theorem i_cnil {neg : Bool} {a : E} (h : mE L N sc (.cnil neg a) x = true) : ∃ l p1 p, x = .Compare l [if neg then .NotEq else .Eq] [.List [] p1] p ∧ mE L N sc a l = true := by
  unfold mE at h; split at h
  all_goals first | (rename_i q; cases q; done) | (exact Bool.noConfusion h) | skip
  all_goals (rename_i q; cases q; simp only [Bool.and_eq_true] at h; obtain ⟨h1, h3⟩ := h; cases neg <;> (simp only [decide_eq_true_eq] at h3; subst h3; exact ⟨_, _, _, rfl, h1⟩))
theorem i_lzip {a b : E} (h : mE L N sc (.lzip a b) x = true) : False := by
  unfold mE at h; exact Bool.noConfusion h
theorem i_sset {a : E} (h : mE L N sc (.sset a) x = true) : False := by
  unfold mE at h; exact Bool.noConfusion h
end
end MP

/-! MPK: soundness of the mirror of expressions. -/
namespace MP
open PySem L2

structure Cxt (L : Lnk) (cf : Nat → Option Addr) (cl : CallT) (n : Nat) (X : Cx) : Prop where
  nd : X.N.Nodup
  calm : X.calm = true
  room : Room n X.A
  fns : ∀ f x, (f, x) ∈ L.fns → ∃ a fd ps, X.mg x = some (.ref a) ∧ cf f = some a ∧ PySem.W.keepIn X.K (.ref a) = true ∧ Binds X.K fd ps [] ∧ (∀ ds, L.dfs.lookup f = some ds → ∃ dv, Vals (ds.map V.int) dv ∧ Binds X.K fd ps dv) ∧ FnOk X.prog X.w X.K X.mg X.base CX0 n a fd ps (spD X.K cf cl f)
  cfs : ∀ f a, cf f = some a → ∃ x, (f, x) ∈ L.fns
  gls : ∀ x d, L.gls.lookup x = some d → ∃ u v, X.mg x = some u ∧ RelV v u ∧ ∀ ι F, R X.K cf ι F d v
  blts : ∀ x, x ∈ L.blts → X.mg x = none
  tabs : ∀ x kvs, L.tabs.lookup x = some kvs → ∃ a es m, X.mg x = some (.ref a) ∧ KDict X.K X.w a es m ∧ ∀ z, (kvs.lookup z = none → PySem.W.nsIn X.K a z = some none) ∧ ∀ d, kvs.lookup z = some d → ∃ u v, PySem.W.nsIn X.K a z = some (some u) ∧ RelV v u ∧ ∀ ι F, R X.K cf ι F d v
section
variable {L : Lnk} {cf : Nat → Option Addr} {cl : CallT} {n : Nat} {X : Cx}
theorem Cxt.blk (C : Cxt L cf cl n X) (s : Shared) (H : Hp) (scope : Scope) (cenv : PySem.Env) (fp : List Addr) : Cxt L cf cl n (X.blk s H scope cenv fp) :=
  ⟨C.nd, C.calm, C.room, C.fns, C.cfs, C.gls, C.blts, C.tabs⟩
theorem vis_of {sc : Scope} {x : Str} (h : visB sc x = true) : Vis sc x := by
  unfold visB at h
  split at h
  · rename_i e; exact .inl e
  · rename_i e; exact .inr (.inl e)
  · rename_i e; exact .inr (.inr e)
  · cases h
theorem nm_of {N : List Str} {sc : Scope} {i : Nat} {x : Str} (h : nmB N sc i x = true) : N[i]? = some x ∧ Vis sc x ∧ (x == ("__debug__" : Str)) = false ∧ (x == ("__classdict__" : Str)) = false := by
  simp only [nmB, Bool.and_eq_true, decide_eq_true_eq, Bool.not_eq_true'] at h
  exact ⟨h.1.1.1, vis_of h.1.1.2, h.1.2, h.2⟩
theorem gl_of {x : Str} (h : glB X.env.scope x = true) : Gl X x ∧ (x == ("__debug__" : Str)) = false := by
  simp only [glB, Bool.and_eq_true, decide_eq_true_eq, Bool.not_eq_true'] at h
  exact ⟨h.1, h.2⟩
theorem blt_of (C : Cxt L cf cl n X) {x nm : Str} (h : bltB L X.env.scope x nm = true) : x = nm ∧ Gl X x ∧ (x == ("__debug__" : Str)) = false ∧ X.mg x = none := by
  simp only [bltB, Bool.and_eq_true, decide_eq_true_eq] at h
  exact ⟨h.1.1, (gl_of h.1.2).1, (gl_of h.1.2).2, C.blts _ h.2⟩
theorem boot_b1 (f : B1) : bootBuiltins (b1nm f) = some (b1val f) := by cases f <;> decide +kernel
theorem boot_b2 (f : B2) : bootBuiltins (b2nm f) = some (b2val f) := by cases f <;> decide +kernel
theorem boot_ty (t : Ty) : bootBuiltins (Str.ofString t.nm) = some (.type t.nm) := by cases t <;> decide +kernel
theorem b1_nn (f : B1) : b1nm f ≠ "__name__" := by cases f <;> decide +kernel
theorem b2_nn (f : B2) : b2nm f ≠ "__name__" := by cases f <;> decide +kernel
theorem ty_nn (t : Ty) : Str.ofString t.nm ≠ "__name__" := by cases t <;> decide +kernel
theorem beh_ns {op : CmpOp} {e : Expr} (h : notSet e = true) : behindInMarks op e = false := by
  cases e <;> first | rfl | cases h
theorem last_ns {op op' : CmpOp} {a b : Expr} (h : notSet b = true) : lastMarks [op, op'] [a, b] = false := by
  show behindInMarks op' b = false
  exact beh_ns h
theorem plainIx_of {e : Expr} (h : notSlice e = true) : PlainIx e := by
  intro o i
  cases e <;> first | rfl | cases h
theorem PW.of_bool {op : BoolOp} {vs : List Expr} {p : Pos} {t : TT} (h : PT X (.BoolOp op vs p) t) : PW X (.BoolOp op vs p) t := ⟨fun whole => h.run⟩
/-- a call by a value of two kinds of built-ins -/
theorem pe_cb1 (C : Cxt L cf cl n X) {f : B1} {x : Str} {p pos : Pos} {e : Expr} {t : TA} (hb : bltB L X.env.scope x (b1nm f) = true) (ha : PA X [e] t) (ns : notStar e = true) : PE X (.Call (.Name x p) [e] [] pos) (tCB (rB1 X.K cf (bi1 f)) t) := by
  obtain ⟨rfl, hg, hd, hm⟩ := blt_of C hb
  have hbt := boot_b1 f
  have hr := call_b1 (cf := cf) C.calm f
  have hn := b1_nn f
  cases f <;> first
    | exact pe_callB hr hg hm hbt ha hn hd (starEach_ns ns) rfl
    | exact pe_callTy hr hg hm hbt ha hn hd (starEach_ns ns) rfl
theorem pe_cb2 (C : Cxt L cf cl n X) {f : B2} {x : Str} {p pos : Pos} {e e2 : Expr} {t : TA} (hb : bltB L X.env.scope x (b2nm f) = true) (ha : PA X [e, e2] t) (ns : notStar e = true) (ns2 : notStar e2 = true) : PE X (.Call (.Name x p) [e, e2] [] pos) (tCB (rB2 X.K cf (bi2 f)) t) := by
  obtain ⟨rfl, hg, hd, hm⟩ := blt_of C hb
  have hbt := boot_b2 f
  have hr := call_b2 (cf := cf) C.calm f
  have hn := b2_nn f
  cases f <;> exact pe_callB hr hg hm hbt ha hn hd (starEach_ns ns) (backTo_ns (by simp [ns2]))
theorem pa_tys (C : Cxt L cf cl n X) : ∀ {es : List Expr} {ts : List Ty}, tysB L X.env.scope es ts = true → PA X es (tTys ts) ∧ es.all notStar = true
  | [], [], _ => ⟨pa_nil, rfl⟩
  | [], _ :: _, h => by simp [tysB] at h
  | e :: es, [], h => by cases e <;> simp [tysB] at h
  | e :: es, t :: ts, h => by
    cases e <;> simp only [tysB, Bool.and_eq_true, reduceCtorEq, Bool.false_eq_true] at h
    obtain ⟨h1, h2⟩ := h
    obtain ⟨q1, q2⟩ := pa_tys C h2
    obtain ⟨rfl, hg, hd, hm⟩ := blt_of C h1
    exact ⟨pac rfl (pe_bltn (v := .ty t.nm) hg hm (boot_ty t) rfl (ty_nn t) hd) q1, by simp [q2, notStar]⟩
/-- targets -/
theorem pg_nm {N : List Str} {sc : Scope} {fnB : Str → Bool} {i : Nat} {x : Str} {p : Pos} (nd : X.N.Nodup) (hN : X.N = N) (hs : X.env.scope = sc) (hf : X.fn = fnB) (h : tgNmB N sc fnB i x = true) : PG X (.Name x p) (gName i) := by
  subst hN hs hf
  simp only [tgNmB, Bool.and_eq_true, Bool.or_eq_true, decide_eq_true_eq] at h
  obtain ⟨h1, h2⟩ := h
  rcases h2 with h2 | ⟨h2, h3⟩
  · exact pg_name nd h1 (.inl h2) (.inr h2)
  · exact pg_name nd h1 (.inr h2) (.inl h3)
theorem pgs_nms {N : List Str} {sc : Scope} {fnB : Str → Bool} (nd : X.N.Nodup) (hN : X.N = N) (hs : X.env.scope = sc) (hf : X.fn = fnB) : ∀ {es : List Expr} {is : List Nat}, tgNmsB N sc fnB es is = true → PGs X es (gNms is) ∧ (assignEach es X.env).length = is.length ∧ (assignEach es X.env).findIdx? (·.1) = none
  | [], [], _ => ⟨pgs_nil, rfl, rfl⟩
  | [], _ :: _, h => by simp [tgNmsB] at h
  | e :: es, [], h => by cases e <;> simp [tgNmsB] at h
  | e :: es, i :: is, h => by
    cases e <;> simp only [tgNmsB, Bool.and_eq_true, reduceCtorEq, Bool.false_eq_true] at h
    rename_i y q
    obtain ⟨q1, q2, q3⟩ := pgs_nms nd hN hs hf h.2
    refine ⟨pgs_cons (pg_nm nd hN hs hf h.1) q1 rfl, ?_, ?_⟩
    · show (assignEach es X.env).length + 1 = _
      rw [q2]; rfl
    · show List.findIdx? (·.1) ((false, assign (.Name y q) X.env) :: assignEach es X.env) = none
      rw [List.findIdx?_cons]
      simp [q3]
theorem pg_tg {N : List Str} {sc : Scope} {fnB : Str → Bool} {t : Expr} {tg : Tg} (C : Cxt L cf cl n X) (hN : X.N = N) (hs : X.env.scope = sc) (hf : X.fn = fnB) (h : tgB N sc fnB t tg = true) : PG X t (tG X.K tg) := by
  cases t <;> cases tg <;> simp only [tgB, reduceCtorEq, Bool.false_eq_true] at h
  · exact pg_nm C.nd hN hs hf h
  · obtain ⟨q1, q2, q3⟩ := pgs_nms C.nd hN hs hf h
    exact pg_tup C.calm q1 q2 q3
end
end MP

/-! MPL: soundness of the mirror of expressions: the induction. -/
namespace MP
open PySem L2

section
variable {L : Lnk} {cf : Nat → Option Addr} {cl : CallT} {n : Nat}
theorem plain_he {e : Expr} {env : PySem.Env} (h : plainT e = true) : ∀ whole, isTrue e env whole = (do let v ← whole; standAt e.pos; holding [v] (truthy v)) := by
  intro whole
  cases e <;> first
    | rfl
    | cases h
    | (rename_i op _ _; cases op <;> first | rfl | cases h)
theorem pt_pe {X : Cx} {x : Expr} {gv : GV} {e : E} (h : PE X x (tE X.K cf (ev gv cl e))) (pl : plainT x = true) : PT X x (tT X.K cf (ev gv cl e)) := (pt_val h (plain_he pl)).imp fun _ _ _ => tT_tB
theorem range2_map (a b : Int) : range2 a b = (((List.range (b - a).toNat).map fun i => (a + (i : Nat) : Int)).map D.int) := by unfold range2; rw [List.map_map]; rfl
theorem rgV_map (a b : Int) : rgV a b = (((List.range (b - a).toNat).map fun i => (a + (i : Nat) : Int)).map V.int) := by unfold rgV; rw [List.map_map]; rfl
theorem evRng1 {X : Cx} {gv : GV} {a : E} {σ : L2.St} {H : Hp} {Q : VK} (h : tE X.K cf (ev gv cl (.lrng (.cons a .nil))) σ H Q) : tLstRg (tRg1 (tE X.K cf (ev gv cl a))) σ H Q := by
  obtain ⟨ι, F, B, δ, S, d, S', G, L, e, k⟩ := h
  simp only [ev, evs] at e
  split at e
  · cases e
  · rename_i ds S1 ea
    split at ea
    · cases ea
    · rename_i x S2 ex
      cases ea
      split at e
      · cases e
      · rename_i xs er
        cases e
        refine ⟨ι, F, B, δ, S, _, _, G, L, ex, fun v ι1 F1 H1 s1 G1 r1 => ?_⟩
        cases x <;> simp only [rangeOf, reduceCtorEq] at er
        split at er
        · rename_i c
          simp only [Bool.and_eq_true, decide_eq_true_eq] at c
          cases er
          cases r1
          have h1 := c.1
          have h2 := c.2
          have h3 : (lim : Int) = 1000000 := rfl
          refine ⟨_, rfl, ⟨by omega, by omega, h1, by omega, by omega⟩, fun p hp => ?_⟩
          obtain ⟨G', st⟩ := G1.new (o := .lst _) hp
          refine k _ _ _ _ (s1.trans st) G' (.lst upd_same ?_ ?_)
          · rw [range2_map, rgV_map]; exact RL.map_int _
          · rw [range2_len]; omega
        · cases er
theorem evRng2 {X : Cx} {gv : GV} {a b : E} {σ : L2.St} {H : Hp} {Q : VK} (h : tE X.K cf (ev gv cl (.lrng (.cons a (.cons b .nil)))) σ H Q) : tLstRg (tRg2 (tE X.K cf (ev gv cl a)) (tE X.K cf (ev gv cl b))) σ H Q := by
  obtain ⟨ι, F, B, δ, S, d, S', G, L, e, k⟩ := h
  simp only [ev, evs] at e
  split at e
  · cases e
  · rename_i ds S1 ea
    split at ea
    · cases ea
    · rename_i x S2 ex
      split at ea
      · cases ea
      · rename_i ys S3 ey
        cases ea
        split at ey
        · cases ey
        · rename_i y S4 eyy
          cases ey
          split at e
          · cases e
          · rename_i xs er
            cases e
            refine ⟨ι, F, B, δ, S, _, _, G, L, ex, fun v ι1 F1 H1 s1 G1 r1 => ?_⟩
            refine ⟨ι1, F1, B, δ, _, _, _, G1, L.step s1, eyy, fun w ι2 F2 H2 s2 G2 r2 => ?_⟩
            cases x <;> cases y <;> simp only [rangeOf, reduceCtorEq] at er
            split at er
            · rename_i c
              simp only [Bool.and_eq_true, decide_eq_true_eq] at c
              cases er
              cases r1
              cases r2
              obtain ⟨⟨⟨⟨h1, h2⟩, h4⟩, h5⟩, h6⟩ := c
              have h3 : (lim : Int) = 1000000 := rfl
              refine ⟨_, _, rfl, rfl, ⟨h1, h2, h4, h5, by omega⟩, fun p hp => ?_⟩
              obtain ⟨G', st⟩ := G2.new (o := .lst _) hp
              refine k _ _ _ _ ((s1.trans s2).trans st) G' (.lst upd_same ?_ ?_)
              · rw [range2_map, rgV_map]; exact RL.map_int _
              · rw [range2_len]; omega
            · cases er
theorem rng_inv {X : Cx} (C : Cxt L cf cl n X) {r : Expr} {ys : List Expr} (h : rngB L X.env.scope r = some ys) : ∃ p p2, r = .Call (.Name "range" p) ys [] p2 ∧ Gl X "range" ∧ X.mg "range" = none := by
  unfold rngB at h
  split at h
  · split at h
    · rename_i hb
      cases h
      obtain ⟨rfl, hg, _, hm⟩ := blt_of C hb
      exact ⟨_, _, rfl, hg, hm⟩
    · cases h
  · cases h
/-- a call of a def that a slot holds -/
theorem pe_cl {X : Cx} (C : Cxt L cf cl n X) {gv : GV} {i : Nat} {es : Es} {y : Str} {p p2 : Pos} {z : Expr} {zs : List Expr} (hn : nmB X.N X.env.scope i y = true) (ha : PA X (z :: zs) (tA X.K cf (evs gv cl es))) (ns : (z :: zs).all notStar = true) :
    PE X (.Call (.Name y p) (z :: zs) [] p2) (tE X.K cf (ev gv cl (.calll i es))) := by
  refine ⟨fun pins s σ H Q I h => ?_⟩
  obtain ⟨ι, F, B, δ, S, d, S', G, L', e, k⟩ := h
  simp only [ev] at e
  split at e
  · rename_i g hd
    split at e
    · cases e
    · rename_i ds S1 ea
      obtain ⟨v, h1, h2⟩ := L'.val _ _ hd
      cases h2 with | fn hcf =>
      rename_i a
      obtain ⟨x, hx⟩ := C.cfs _ _ hcf
      obtain ⟨a', fd, ps, hm, hcf', hk, hb, _, hF⟩ := C.fns _ _ hx
      rw [hcf] at hcf'
      cases hcf'
      obtain ⟨q1, q2, q3, q4⟩ := nm_of hn
      simp only [List.all_cons, Bool.and_eq_true] at ns
      refine (pe_callL (i := i) (E := E0) hF C.room q1 q2 hk hb .nil pass0 ha q3 q4 (starEach_ns ns.1) (backTo_ns ns.2)).run pins s σ H Q I ⟨h1, ι, F, B, δ, S, _, _, G, L', ea, fun vs ι1 F1 H1 s1 G1 r1 => ?_⟩
      show spD X.K cf cl g (vs ++ []) H1 Q E0
      rw [List.append_nil]
      exact ⟨ι1, F1, S1, ds, _, _, G1, r1, e, fun v ι' F' H' s2 G2 r2 => k _ _ _ _ (s1.trans s2) G2 r2⟩
  · cases e

theorem pe_inD {X : Cx} (C : Cxt L cf cl n X) {neg : Bool} {y : Str} {a : E} {l : Expr} {p p2 : Pos} (hg : glB X.env.scope y = true) (ha : PE X l (tE X.K cf (ev L.gv cl a))) :
    PE X (.Compare l [if neg then .NotIn else .In] [.Name y p] p2) (tE X.K cf (ev L.gv cl (.inD neg y a))) ∧ PT X (.Compare l [if neg then .NotIn else .In] [.Name y p] p2) (tT X.K cf (ev L.gv cl (.inD neg y a))) := by
  have key : ∀ (σ : L2.St) (H : Hp) (Q : VK), tE X.K cf (ev L.gv cl (.inD neg y a)) σ H Q → ∃ b es m, X.mg y = some (.ref b) ∧ KDict X.K X.w b es m ∧ tE X.K cf (ev L.gv cl a) σ H (fun x H2 => ∃ (z : Str) (r : Option Value), x = .str z ∧ V.ref b = .ref b ∧ PySem.W.nsIn X.K b z = some r ∧ Q (.bl (if neg then !r.isSome else r.isSome)) H2) := by
    intro σ H Q h
    obtain ⟨ι, F, B, δ, S, d, S', G, L', e, k⟩ := h
    simp only [ev] at e
    split at e
    · rename_i z S1 ea
      split at e
      · rename_i kvs hk
        cases e
        obtain ⟨b, es, m, hm, hD, hz⟩ := C.tabs _ _ hk
        refine ⟨b, es, m, hm, hD, ι, F, B, δ, S, _, _, G, L', ea, fun v ι1 F1 H1 s1 G1 r1 => ?_⟩
        cases r1
        cases hl : kvs.lookup z with
        | none =>
          rw [hl] at k
          exact ⟨z, none, rfl, rfl, (hz z).1 hl, k _ _ _ _ s1 G1 (.bl _)⟩
        | some d =>
          obtain ⟨u, v, h1, _⟩ := (hz z).2 d hl
          rw [hl] at k
          exact ⟨z, some u, rfl, rfl, h1, k _ _ _ _ s1 G1 (.bl _)⟩
      · cases e
    · cases e
  obtain ⟨hgl, hd⟩ := gl_of hg
  constructor
  · refine ⟨fun pins s σ H Q I h => ?_⟩
    obtain ⟨b, es, m, hm, hD, q⟩ := key σ H Q h
    cases neg
    · exact (pe_cmpR (op_in_kd hD) ha (pe_glob (v := .ref b) hgl hm rfl hd) rfl).run pins s σ H Q I q
    · exact (pe_cmpR (op_notIn_kd hD) ha (pe_glob (v := .ref b) hgl hm rfl hd) rfl).run pins s σ H Q I q
  · refine ⟨fun pins s σ H Q I h => ?_⟩
    obtain ⟨b, es, m, hm, hD, q⟩ := key σ H _ (tT_tB h)
    cases neg
    · exact (pt_cmpR (op_in_kd hD) ha (pe_glob (v := .ref b) hgl hm rfl hd) rfl).run pins s σ H Q I q
    · exact (pt_cmpR (op_notIn_kd hD) ha (pe_glob (v := .ref b) hgl hm rfl hd) rfl).run pins s σ H Q I q
theorem pe_getD {X : Cx} (C : Cxt L cf cl n X) {y : Str} {a : E} {l : Expr} {p p2 : Pos} (hg : glB X.env.scope y = true) (ha : PE X l (tE X.K cf (ev L.gv cl a))) (ns : notSlice l = true) :
    PE X (.Subscript (.Name y p) l p2) (tE X.K cf (ev L.gv cl (.getD y a))) := by
  obtain ⟨hgl, hd⟩ := gl_of hg
  refine ⟨fun pins s σ H Q I h => ?_⟩
  obtain ⟨ι, F, B, δ, S, d, S', G, L', e, k⟩ := h
  simp only [ev] at e
  split at e
  · rename_i z S1 ea
    split at e
    · rename_i kvs hk
      split at e
      · rename_i d' hl
        cases e
        obtain ⟨b, es, m, hm, hD, hz⟩ := C.tabs _ _ hk
        obtain ⟨u, v, h1, h2, h3⟩ := (hz z).2 _ hl
        refine (pe_ix ix_kdict (pe_glob (v := .ref b) hgl hm rfl hd) ha (plainIx_of ns)).run pins s σ H Q I ⟨ι, F, B, δ, S, _, _, G, L', ea, fun w ι1 F1 H1 s1 G1 r1 => ?_⟩
        cases r1
        exact ⟨b, z, v, rfl, rfl, ⟨_, _, u, hD.at_, hD.lit, h1, h2⟩, k _ _ _ _ s1 G1 (h3 _ _)⟩
      · cases e
    · cases e
  · cases e
theorem isTup_inv {t : Expr} (h : isTup t = true) : ∃ es k p, t = .Tuple es k p := by
  cases t <;> first | exact ⟨_, _, _, rfl⟩ | cases h
theorem tE_imp {K : PySem.W.Frag} {f : EvT} {σ : L2.St} {H : Hp} {Q Q' : VK} (h : tE K cf f σ H Q) (k : ∀ x H, Q x H → Q' x H) : tE K cf f σ H Q' := by
  obtain ⟨ι, F, B, δ, S, d, S', G, L, e, q⟩ := h
  exact ⟨ι, F, B, δ, S, d, S', G, L, e, fun v ι' F' H' a b c => k _ _ (q v ι' F' H' a b c)⟩
/-- a cell is written -/
theorem Gd.cset {K : PySem.W.Frag} {S : Store} {ι : List Addr} {F H : Hp} (g : Gd K cf S ι F H) {c : Nat} {a : Addr} {ds : List D} {vs : List V} (hc : c < S.length) (ha : ι[c]? = some a) (r : RL K cf ι F ds vs) : Gd K cf (S.set c ds) ι F (upd H a (.lst vs)) := by
  have hm : a ∈ ι := List.mem_of_getElem? ha
  refine ⟨fun b u h => ?_, fun i x h => ?_, fun b hb => ?_, g.inj, by rw [List.length_set]; exact g.len⟩
  · rw [upd_ne fun e => ?_]
    · exact g.sub _ _ h
    · subst e; rw [(g.out _ hm).1] at h; cases h
  · rw [get_set] at h
    split at h
    · rename_i q
      cases h
      exact ⟨a, vs, by rw [← q.1]; exact ha, upd_same, r⟩
    · rename_i q
      obtain ⟨b, ws, h1, h2, h3⟩ := g.cells i x h
      refine ⟨b, ws, h1, ?_, h3⟩
      rw [upd_ne fun e => ?_]
      · exact h2
      · subst e
        have := nd_ix g.inj ha h1
        exact q ⟨this, hc⟩
  · by_cases e : b = a
    · subst e; exact ⟨(g.out _ hb).1, by rw [upd_same]; simp⟩
    · rw [upd_ne e]; exact g.out b hb
theorem tE_calld {K : PySem.W.Frag} {gv : GV} {σ : L2.St} {H : Hp} {Q : VK} {f : Nat} {es : Es} {ds : List Int} (h : tE K cf (ev gv cl (.calld f es ds)) σ H Q) : tCall (spD K cf cl f) (ds.map V.int) E0 (tA K cf (evs gv cl es)) σ H Q := by
  obtain ⟨ι, F, B, δ, S, d, S', G, L, e, k⟩ := h
  simp only [ev] at e
  split at e
  · cases e
  · rename_i xs S1 ea
    refine ⟨ι, F, B, δ, S, _, _, G, L, ea, fun vs ι1 F1 H1 s1 G1 r1 => ?_⟩
    exact ⟨ι1, F1, S1, xs ++ ds.map .int, _, _, G1, r1.append (RL.map_int ds), e, fun v ι' F' H' s2 G2 r2 => k _ _ _ _ (s1.trans s2) G2 r2⟩
theorem tE_osl {K : PySem.W.Frag} {gv : GV} {σ : L2.St} {H : Hp} {Q : VK} {i : Nat} {lo hi : Es} (h : tE K cf (ev gv cl (.osl i lo hi)) σ H Q) : tSl (rSlL K) (tVar i) (tO K cf (evs gv cl lo)) (tO K cf (evs gv cl hi)) σ H Q := by
  obtain ⟨ι, F, B, δ, S, d, S', G, L, e, k⟩ := h
  simp only [ev] at e
  split at e
  · cases e
  · rename_i l S1 el
    split at e
    · cases e
    · rename_i u S2 eu
      split at e
      · rename_i l' u' ds ol ou hd
        cases e
        obtain ⟨a, vs, h1, h2, h3, _⟩ := L.own _ _ hd
        refine ⟨_, h1, ι, F, B, δ, S, _, _, _, G, L, el, ol, fun ι1 F1 H1 s1 G1 => ?_⟩
        refine ⟨ι1, F1, B, δ, S1, _, _, _, G1, L.step s1, eu, ou, fun ι2 F2 H2 s2 G2 => ?_⟩
        obtain ⟨a', vs', h1', h2', h3', _, _, _, h7'⟩ := ((L.step s1).step s2).own _ _ hd
        rw [h1] at h1'
        cases h1'
        refine ⟨_, _, rfl, SqL.of h2', fun p hp => ?_⟩
        obtain ⟨G', st⟩ := G2.new (o := .lst _) hp
        exact k _ _ _ _ ((s1.trans s2).trans st) G' (.lst upd_same ((cutD_RL h3').step st) (Nat.le_trans (cutD_len _ _ _) h7'))
      · cases e
theorem RL.rev {K : PySem.W.Frag} {ι : List Addr} {F : Hp} : ∀ {ds : List D} {vs : List V}, RL K cf ι F ds vs → RL K cf ι F ds.reverse vs.reverse
  | _, _, .nil => .nil
  | _, _, .cons r t => by
    rw [List.reverse_cons, List.reverse_cons]
    exact (RL.rev t).append (.cons r .nil)
theorem RL.erase {K : PySem.W.Frag} {ι : List Addr} {F : Hp} : ∀ {ds : List D} {vs : List V} (k : Nat), RL K cf ι F ds vs → RL K cf ι F (ds.eraseIdx k) (vs.eraseIdx k)
  | _, _, _, .nil => .nil
  | _, _, 0, .cons r t => t
  | _, _, k + 1, .cons r t => .cons r (RL.erase k t)
theorem tE_rev {K : PySem.W.Frag} {gv : GV} {σ : L2.St} {H : Hp} {Q : VK} {a : E} (h : tE K cf (ev gv cl (.rev a)) σ H Q) : tRevA K (tE K cf (ev gv cl a)) σ H Q := by
  obtain ⟨ι, F, B, δ, S, d, S', G, L, e, k⟩ := h
  simp only [ev] at e
  split at e
  · cases e
  · rename_i x S1 ea
    split at e
    · cases e
    · rename_i z ez
      cases e
      refine ⟨ι, F, B, δ, S, _, _, G, L, ea, fun v ι1 F1 H1 s1 G1 r1 => ?_⟩
      cases x <;> simp only [revOf, reduceCtorEq, Option.some.injEq] at ez <;> subst ez
      · cases r1 with | tup a1 a2 a3 =>
        refine ⟨_, _, rfl, .inr ⟨sqt_mono G1.sub a1, fun p hp => ?_⟩⟩
        obtain ⟨G', st⟩ := G1.new (o := .tup _) hp
        exact k _ _ _ _ (s1.trans st) G' (.tupOf (a2.rev.step st) (by rw [List.length_reverse]; exact a3) upd_same)
      · cases r1 with | lst a1 a2 a3 =>
        refine ⟨_, _, rfl, .inl ⟨SqL.of (G1.sub _ _ a1), fun p hp => ?_⟩⟩
        obtain ⟨G', st⟩ := G1.new (o := .lst _) hp
        exact k _ _ _ _ (s1.trans st) G' (.lst upd_same (a2.rev.step st) (by rw [List.length_reverse]; exact a3))
theorem pe_isB {X : Cx} {gv : GV} {neg b : Bool} {a : E} {l : Expr} {k : Nat} {p1 p : Pos} (ha : PE X l (tE X.K cf (ev gv cl a))) :
    PE X (.Compare l [if neg then .IsNot else .Is] [.Constant (.bool b) k p1] p) (tE X.K cf (ev gv cl (.isB neg a b))) ∧ PT X (.Compare l [if neg then .IsNot else .Is] [.Constant (.bool b) k p1] p) (tT X.K cf (ev gv cl (.isB neg a b))) := by
  have key : ∀ (σ : L2.St) (H : Hp) (Q : VK), tE X.K cf (ev gv cl (.isB neg a b)) σ H Q → tE X.K cf (ev gv cl a) σ H (fun x H2 => ∃ c : Bool, x = .bl c ∧ Q (.bl (if neg then !decide (c = b) else decide (c = b))) H2) := by
    intro σ H Q h
    obtain ⟨ι, F, B, δ, S, d, S', G, L', e, kk⟩ := h
    simp only [ev] at e
    split at e
    · rename_i c S1 ea
      cases e
      refine ⟨ι, F, B, δ, S, _, _, G, L', ea, fun v ι1 F1 H1 s1 G1 r1 => ?_⟩
      cases r1
      refine ⟨c, rfl, ?_⟩
      have e2 : (c == b) = decide (c = b) := by cases c <;> cases b <;> rfl
      rw [e2] at kk
      exact kk _ _ _ _ s1 G1 (.bl _)
    · cases e
  constructor
  · refine ⟨fun pins s σ H Q I h => ?_⟩
    have q := key σ H Q h
    cases neg
    · exact (pe_cmpR op_isBl ha pe_bl rfl).run pins s σ H Q I (tE_imp q fun x H2 ⟨c, e1, e2⟩ => ⟨c, b, e1, rfl, e2⟩)
    · exact (pe_cmpR op_notBl ha pe_bl rfl).run pins s σ H Q I (tE_imp q fun x H2 ⟨c, e1, e2⟩ => ⟨c, b, e1, rfl, e2⟩)
  · refine ⟨fun pins s σ H Q I h => ?_⟩
    have q := key σ H _ (tT_tB h)
    cases neg
    · exact (pt_cmpR op_isBl ha pe_bl rfl).run pins s σ H Q I (tE_imp q fun x H2 ⟨c, e1, e2⟩ => ⟨c, b, e1, rfl, e2⟩)
    · exact (pt_cmpR op_notBl ha pe_bl rfl).run pins s σ H Q I (tE_imp q fun x H2 ⟨c, e1, e2⟩ => ⟨c, b, e1, rfl, e2⟩)
theorem tE_cnew {K : PySem.W.Frag} {gv : GV} {σ : L2.St} {H : Hp} {Q : VK} {a : E} (h : tE K cf (ev gv cl (.cnew a)) σ H Q) :
    tCB (fun xs H Q => ∃ p ys, xs = [.ref p] ∧ (SqL K H p ys ∨ SqT K H p ys) ∧ ∀ l, H l = none → Q (.ref l) (upd H l (.lst ys))) (tCons (tE K cf (ev gv cl a)) tNil) σ H Q := by
  obtain ⟨ι, F, B, δ, S, d, S', G, L, e, k⟩ := h
  simp only [ev] at e
  split at e
  · cases e
  · rename_i x S1 ea
    split at e
    · rename_i ds ez
      cases e
      refine ⟨ι, F, B, δ, S, _, _, G, L, ea, fun v ι1 F1 H1 s1 G1 r => ?_⟩
      cases x <;> simp only [bi1, reduceCtorEq, Option.some.injEq, D.lst.injEq] at ez <;> subst ez
      · cases r with | tup a1 a2 a3 =>
        refine ⟨_, _, rfl, .inr (sqt_mono G1.sub a1), fun p hp => ?_⟩
        obtain ⟨G', st⟩ := G1.cell hp a2
        exact k _ _ _ _ (s1.trans st) G' (.cell (by rw [← G1.len]; simp))
      · cases r with | lst a1 a2 a3 =>
        refine ⟨_, _, rfl, .inl (SqL.of (G1.sub _ _ a1)), fun p hp => ?_⟩
        obtain ⟨G', st⟩ := G1.cell hp a2
        exact k _ _ _ _ (s1.trans st) G' (.cell (by rw [← G1.len]; simp))
    · cases e
theorem tE_clen {K : PySem.W.Frag} {gv : GV} {σ : L2.St} {H : Hp} {Q : VK} {a : E} (h : tE K cf (ev gv cl (.clen a)) σ H Q) : tCB (fun xs H Q => ∃ x n, xs = [x] ∧ LenV K x H n ∧ Q (.int n) H) (tCons (tE K cf (ev gv cl a)) tNil) σ H Q := by
  obtain ⟨ι, F, B, δ, S, d, S', G, L, e, k⟩ := h
  simp only [ev] at e
  split at e
  · rename_i c S1 ea
    split at e
    · rename_i ds hd
      cases e
      refine ⟨ι, F, B, δ, S, _, _, G, L, ea, fun v ι1 F1 H1 s1 G1 r1 => ?_⟩
      cases r1 with | cell hc =>
      obtain ⟨p, vs, h1, h2, h3⟩ := G1.cells _ _ hd
      rw [hc] at h1
      cases h1
      exact ⟨_, _, rfl, .inl ⟨_, SqL.of h2, rfl⟩, by rw [← h3.length]; exact k _ _ _ _ s1 G1 (.int _)⟩
    · cases e
  · cases e
theorem Stp.cellw {ι ι' : List Addr} {F F' H H' : Hp} (s : Stp ι F H ι' F' H') {p : Addr} {o : HO} (hm : p ∈ ι') : Stp ι F H ι' F' (upd H' p o) := by
  refine ⟨s.io, s.fm, s.fn, s.nw, fun x u h hn => ?_, fun x h => ?_⟩
  · rw [upd_ne fun e => ?_]
    · exact s.fr x u h hn
    · subst e
      rcases s.nw _ hm with z | z
      · exact hn z
      · rw [h] at z; cases z
  · by_cases e : x = p
    · subst e; rw [upd_same] at h; cases h
    · rw [upd_ne e] at h; exact s.dm x h
theorem tE_cpop {K : PySem.W.Frag} {gv : GV} {σ : L2.St} {H : Hp} {Q : VK} {a i : E} (h : tE K cf (ev gv cl (.cpop a i)) σ H Q) : tBM K "list" rPopAt (tE K cf (ev gv cl a)) (tCons (tE K cf (ev gv cl i)) tNil) σ H Q := by
  obtain ⟨ι, F, B, δ, S, d, S', G, L, e, k⟩ := h
  simp only [ev] at e
  split at e
  · rename_i c S1 ea
    split at e
    · rename_i j S2 ei
      split at e
      · rename_i ds hd
        split at e
        · rename_i hj
          split at e
          · rename_i x hx
            cases e
            refine ⟨ι, F, B, δ, S, _, _, G, L, ea, fun v ι1 F1 H1 s1 G1 r1 => ?_⟩
            cases r1 with | cell hc =>
            rename_i q
            have hq : q ∈ ι1 := List.mem_of_getElem? hc
            have hcl : c < S1.length := by rw [← G1.len]; exact (List.getElem?_eq_some_iff.mp hc).1
            obtain ⟨p0, vs0, h10, h20, h30⟩ := G1.cells c S1[c] (List.getElem?_eq_getElem hcl)
            rw [hc] at h10
            cases h10
            refine ⟨.inl ⟨rfl, _, SqL.of h20⟩, ι1, F1, B, δ, S1, _, _, G1, L.step s1, ei, fun w ι2 F2 H2 s2 G2 r2 => ?_⟩
            cases r2
            obtain ⟨p, vs, h1, h2, h3⟩ := G2.cells _ _ hd
            have hp : ι2[c]? = some q := by
              obtain ⟨t, rfl⟩ := s2.io
              rw [List.getElem?_append_left (List.getElem?_eq_some_iff.mp hc).1]; exact hc
            rw [hp] at h1
            cases h1
            obtain ⟨y, hy, ry⟩ := h3.get hx
            have hm : q ∈ ι2 := List.mem_of_getElem? hp
            have hlen : j.toNat < vs.length := (List.getElem?_eq_some_iff.mp hy).1
            simp only [Bool.and_eq_true, decide_eq_true_eq] at hj
            have hs : seqIndex? j vs.length = some j.toNat := by
              have c1 : (if j < 0 then j + (vs.length : Int) else j) = j := if_neg (by omega)
              unfold seqIndex?
              simp only [c1]
              exact if_pos (by simp only [Bool.and_eq_true, decide_eq_true_eq]; omega)
            refine ⟨q, vs, j, j.toNat, y, rfl, rfl, h2, by omega, ?_, hs, hy, ?_⟩
            · omega
            · exact k _ _ _ _ ((s1.trans s2).cellw hm) (G2.cset (List.getElem?_eq_some_iff.mp hd).1 hp (h3.erase _)) ry
          · cases e
        · cases e
      · cases e
    · cases e
  · cases e
theorem pe_cnil {X : Cx} {gv : GV} {neg : Bool} {a : E} {l : Expr} {p1 p : Pos} (hu : X.A.units + 64 < cLine) (ha : PE X l (tE X.K cf (ev gv cl a))) :
    PE X (.Compare l [if neg then .NotEq else .Eq] [.List [] p1] p) (tE X.K cf (ev gv cl (.cnil neg a))) ∧ PT X (.Compare l [if neg then .NotEq else .Eq] [.List [] p1] p) (tT X.K cf (ev gv cl (.cnil neg a))) := by
  have key : ∀ (σ : L2.St) (H : Hp) (Q : VK), tE X.K cf (ev gv cl (.cnil neg a)) σ H Q → tE X.K cf (ev gv cl a) σ H (fun x H1 => ∃ ps : List PyData, Dp X.K H1 x (.list ps) ∧ SeqAt.shaped (.list ps) = true ∧ ∀ q, H1 q = none → Dp X.K (upd H1 q (.lst [])) x (.list ps) ∧ Q (.bl (if neg then !PyData.eqv (.list ps) (.list []) else PyData.eqv (.list ps) (.list []))) (upd H1 q (.lst []))) := by
    intro σ H Q h
    obtain ⟨ι, F, B, δ, S, d, S', G, L', e, kk⟩ := h
    simp only [ev] at e
    split at e
    · rename_i c S1 ea
      split at e
      · rename_i ds hd
        split at e
        · rename_i hcmp
          cases e
          refine ⟨ι, F, B, δ, S, _, _, G, L', ea, fun v ι1 F1 H1 s1 G1 r1 => ?_⟩
          cases r1 with | cell hc =>
          obtain ⟨p0, vs, h1, h2, h3⟩ := G1.cells _ _ hd
          rw [hc] at h1
          cases h1
          simp only [D.cmp, Bool.and_eq_true, decide_eq_true_eq, D.pl, D.dep] at hcmp
          obtain ⟨q1, q2⟩ := RL.dp G1.sub h3 hcmp.1
          have sh : SeqAt.shaped (.list (D.pds ds)) = true := by
            have h4 := deps_pds ds
            have h5 := of_decide_eq_true hcmp.2
            unfold SeqAt.shaped
            simp only [PyData.canLay0, PyData.depth, q2, Bool.true_and, decide_eq_true_eq, Bool.and_eq_true]
            exact decide_eq_true (by omega)
          refine ⟨D.pds ds, .lst (SqL.of h2) q1, sh, fun q hq => ?_⟩
          obtain ⟨st, G', hF, hi⟩ := new_unf (o := .lst []) G1 hq
          obtain ⟨p1', vs1, k1, k2, k3⟩ := G'.cells _ _ hd
          rw [hc] at k1
          cases k1
          obtain ⟨w1, _⟩ := RL.dp G'.sub k3 hcmp.1
          refine ⟨.lst (SqL.of k2) w1, ?_⟩
          have e2 : PyData.eqv (.list (D.pds ds)) (.list []) = ds.isEmpty := by
            cases ds <;> rfl
          rw [e2]
          exact kk _ _ _ _ (s1.trans st) G' (.bl _)
        · cases e
      · cases e
    · cases e
  have sh0 : SeqAt.shaped (.list []) = true := by decide +kernel
  constructor
  · refine ⟨fun pins s σ H Q I h => ?_⟩
    have q := key σ H Q h
    cases neg
    · exact (pe_cmpR (L2.op_eqD hu) ha (pe_lst pa_nil) rfl).run pins s σ H Q I (tE_imp q fun x H2 ⟨ps, e1, e2, e3⟩ => ⟨Nat.zero_le _, fun p hp => ⟨_, _, (e3 p hp).1, .lst (SqL.of upd_same) .nil, e2, sh0, (e3 p hp).2⟩⟩)
    · exact (pe_cmpR (L2.op_neD hu) ha (pe_lst pa_nil) rfl).run pins s σ H Q I (tE_imp q fun x H2 ⟨ps, e1, e2, e3⟩ => ⟨Nat.zero_le _, fun p hp => ⟨_, _, (e3 p hp).1, .lst (SqL.of upd_same) .nil, e2, sh0, (e3 p hp).2⟩⟩)
  · refine ⟨fun pins s σ H Q I h => ?_⟩
    have q := key σ H _ (tT_tB h)
    cases neg
    · exact (pt_cmpR (L2.op_eqD hu) ha (pe_lst pa_nil) rfl).run pins s σ H Q I (tE_imp q fun x H2 ⟨ps, e1, e2, e3⟩ => ⟨Nat.zero_le _, fun p hp => ⟨_, _, (e3 p hp).1, .lst (SqL.of upd_same) .nil, e2, sh0, (e3 p hp).2⟩⟩)
    · exact (pt_cmpR (L2.op_neD hu) ha (pe_lst pa_nil) rfl).run pins s σ H Q I (tE_imp q fun x H2 ⟨ps, e1, e2, e3⟩ => ⟨Nat.zero_le _, fun p hp => ⟨_, _, (e3 p hp).1, .lst (SqL.of upd_same) .nil, e2, sh0, (e3 p hp).2⟩⟩)
end
end MP

/-! MPL: soundness of the mirror of expressions: the induction. -/
namespace MP
open PySem L2

section
variable {L : Lnk} {cf : Nat → Option Addr} {cl : CallT} {n : Nat}
theorem both {X : Cx} {x : Expr} {gv : GV} {e : E} (P : PE X x (tE X.K cf (ev gv cl e))) (pl : plainT x = true) : PE X x (tE X.K cf (ev gv cl e)) ∧ (notIf x = true → PT X x (tT X.K cf (ev gv cl e))) := ⟨P, fun _ => pt_pe P pl⟩
mutual
theorem sB : ∀ (e : E) {X : Cx} (x : Expr), Cxt L cf cl n X → mE L X.N X.env.scope e x = true → PE X x (tE X.K cf (ev L.gv cl e)) ∧ (notIf x = true → PT X x (tT X.K cf (ev L.gv cl e)))
  | .var i, X, x, C, h => by
    obtain ⟨y, p, rfl, h'⟩ := i_var h
    obtain ⟨q1, q2, q3, q4⟩ := nm_of h'
    exact both ((pe_var q1 q2 q3 q4).imp fun _ _ _ => tE_var) rfl
  | .cn, X, x, C, h => by
    obtain ⟨k, p, rfl⟩ := i_cn h
    exact both (pe_non.imp fun _ _ _ => tE_const (fun _ _ => rfl) fun _ _ => .non) rfl
  | .cb b, X, x, C, h => by
    obtain ⟨k, p, rfl⟩ := i_cb h
    exact both (pe_bl.imp fun _ _ _ => tE_const (fun _ _ => rfl) fun _ _ => .bl _) rfl
  | .ci i, X, x, C, h => by
    obtain ⟨k, p, rfl⟩ := i_ci h
    exact both (pe_int.imp fun _ _ _ => tE_const (fun _ _ => rfl) fun _ _ => .int _) rfl
  | .cs s, X, x, C, h => by
    obtain ⟨k, p, rfl, h1, h2⟩ := i_cs h
    exact both (pe_str.imp fun _ _ _ => tE_const (fun _ _ => rfl) fun _ _ => .str h1 h2) rfl
  | .glob y, X, x, C, h => by
    obtain ⟨p, rfl, h'⟩ := i_glob h
    obtain ⟨hg, hd⟩ := gl_of h'
    have P : PE X (.Name y p) (tE X.K cf (ev L.gv cl (.glob y))) := by
      refine ⟨fun pins s σ H Q I q => ?_⟩
      obtain ⟨ι, F, B, δ, S, d, S', G, L', e, k⟩ := q
      simp only [ev] at e
      split at e
      · rename_i d' hl
        cases e
        obtain ⟨u, v, h1, h2, h3⟩ := C.gls _ _ hl
        exact (pe_glob hg h1 h2 hd).run pins s σ H Q I (k _ _ _ _ .refl G (h3 _ _))
      · cases e
    exact both P rfl
  | .tup es, X, x, C, h => by
    obtain ⟨xs, k, p, rfl, h', hl⟩ := i_tup h
    exact both ((pe_tup (sA es xs C h')).imp fun _ _ _ => tE_tup hl) rfl
  | .lst es, X, x, C, h => by
    obtain ⟨xs, p, rfl, h', hl⟩ := i_lst h
    exact both ((pe_lst (sA es xs C h')).imp fun _ _ _ => tE_lst hl) rfl
  | .newc es, X, x, C, h => by
    obtain ⟨xs, p, rfl, h', hl⟩ := i_newc h
    exact both ((pe_lst (sA es xs C h')).imp fun _ _ _ => tE_newc hl) rfl
  | .op o a b, X, x, C, h => by
    rcases i_op h with ⟨l, op, r, p, rfl, ho, ha, hb⟩ | ⟨l, c, r, p, rfl, ho, ha, hb, ns⟩
    · exact both ((pe_op (op_bin C.calm ho) (sB a l C ha).1 (sB b r C hb).1).imp fun _ _ _ => tE_op) rfl
    · have hu : X.A.units + 65 < cLine := by have := C.room.un; omega
      have hA := (sB a l C ha).1
      have hB := (sB b r C hb).1
      exact ⟨(pe_cmpR (op_cmp hu ho) hA hB (beh_ns ns)).imp fun _ _ _ => tE_op, fun _ => (pt_cmpR (op_cmp hu ho) hA hB (beh_ns ns)).imp fun _ _ _ q => tE_op (tT_tB q)⟩
  | .isN a, X, x, C, h => by
    obtain ⟨l, k, p1, p, rfl, ha⟩ := i_isN h
    have hA := (sB a l C ha).1
    exact ⟨(pe_cmp (pc_isN hA) rfl).imp fun _ _ _ => tE_isN, fun _ => (pt_cmp (pc_isN hA) rfl).imp fun _ _ _ q => tE_isN (tT_tB q)⟩
  | .notN a, X, x, C, h => by
    obtain ⟨l, k, p1, p, rfl, ha⟩ := i_notN h
    have hA := (sB a l C ha).1
    exact ⟨(pe_cmp (pc_notN hA) rfl).imp fun _ _ _ => tE_notN, fun _ => (pt_cmp (pc_notN hA) rfl).imp fun _ _ _ q => tE_notN (tT_tB q)⟩
  | .neg a, X, x, C, h => by
    obtain ⟨l, p, rfl, ha⟩ := i_neg h
    exact both ((pe_un un_neg (sB a l C ha).1).imp fun _ _ _ => tE_neg) rfl
  | .nt a, X, x, C, h => by
    obtain ⟨l, p, rfl, ha, hi⟩ := i_nt h
    have hA := sB a l C ha
    exact ⟨(pe_not hA.1).imp fun _ _ _ => tE_nt, fun _ => (pt_not (hA.2 hi)).imp fun _ _ _ => tT_nt⟩
  | .and a b, X, x, C, h => by
    obtain ⟨l, y, r, p, rfl, ha, hi, h'⟩ := i_and h
    have hA := sB a l C ha
    rcases h' with ⟨rfl, hb, hi2⟩ | ⟨hr, hb⟩
    · have hB := sB b y C hb
      exact ⟨(pe_and hA.1 (pe_one hB.1)).imp fun _ _ _ => tE_and, fun _ => (pw_and (hA.2 hi) (pw_and1 (hB.2 hi2))).pt.imp fun _ _ _ => tT_and⟩
    · have hB := sB b _ C hb
      exact ⟨(pe_and hA.1 hB.1).imp fun _ _ _ => tE_and, fun _ => (pw_and (hA.2 hi) (PW.of_bool (hB.2 rfl))).pt.imp fun _ _ _ => tT_and⟩
  | .or a b, X, x, C, h => by
    obtain ⟨l, y, r, p, rfl, ha, hi, h'⟩ := i_or h
    have hA := sB a l C ha
    rcases h' with ⟨rfl, hb, hi2⟩ | ⟨hr, hb⟩
    · have hB := sB b y C hb
      exact ⟨(pe_or hA.1 (pe_one hB.1)).imp fun _ _ _ => tE_or, fun _ => (pw_or (hA.2 hi) (pw_or1 (hB.2 hi2))).pt.imp fun _ _ _ => tT_or⟩
    · have hB := sB b _ C hb
      exact ⟨(pe_or hA.1 hB.1).imp fun _ _ _ => tE_or, fun _ => (pw_or (hA.2 hi) (PW.of_bool (hB.2 rfl))).pt.imp fun _ _ _ => tT_or⟩
  | .chain o1 o2 a b c, X, x, C, h => by
    obtain ⟨l, c1, c2, y, z, p, rfl, h1, h2, ha, hb, hc, n1, n2⟩ := i_chain h
    have hu : X.A.units + 65 < cLine := by have := C.room.un; omega
    have hA := (sB a l C ha).1
    have hB := (sB b y C hb).1
    have hC := (sB c z C hc).1
    exact ⟨(pe_chain (op_cmp hu h1) (op_cmp hu h2) hA hB hC (last_ns n2)).imp fun _ _ _ => tE_chain, fun _ => (pt_chain (op_cmp hu h1) (op_cmp hu h2) hA hB hC (last_ns n2)).imp fun _ _ _ q => tE_chain (tT_tB q)⟩
  | .ite c a b, X, x, C, h => by
    obtain ⟨t, y, z, p, rfl, hc, ha, hb, hi⟩ := i_ite h
    exact ⟨(pe_ifExp ((sB c t C hc).2 hi) (sB a y C ha).1 (sB b z C hb).1).imp fun _ _ _ => tE_ite, fun z => by cases z⟩
  | .call f es, X, x, C, h => by
    obtain ⟨y, p, z, zs, p2, rfl, hf, hg, ha⟩ := i_call h
    obtain ⟨a, fd, ps, hm, hcf, hk, hb, _, hF⟩ := C.fns _ _ hf
    have ns := nsall_of ha
    simp only [List.all_cons, Bool.and_eq_true] at ns
    exact both ((pe_call (pos := p2) (p := p) (E := E0) hF C.room (gl_of hg).1 hm hk hb .nil pass0 (sA es _ C ha) (gl_of hg).2 (starEach_ns ns.1) (backTo_ns ns.2)).imp fun _ _ _ => tE_call) rfl
  | .calll i es, X, x, C, h => by
    obtain ⟨y, p, z, zs, p2, rfl, hn, ha⟩ := i_calll h
    exact both (pe_cl C hn (sA es _ C ha) (nsall_of ha)) rfl
  | .b1 f a, X, x, C, h => by
    obtain ⟨y, p, z, p2, rfl, hb, ha⟩ := i_b1 h
    exact both ((pe_cb1 C hb (pac (ns_of ha) (sB a z C ha).1 pa_nil) (ns_of ha)).imp fun _ _ _ => tE_b1) rfl
  | .b2 f a b, X, x, C, h => by
    obtain ⟨y, p, z, w, p2, rfl, hb, ha, hc⟩ := i_b2 h
    exact both ((pe_cb2 C hb (pac (ns_of ha) (sB a z C ha).1 (pac (ns_of hc) (sB b w C hc).1 pa_nil)) (ns_of ha) (ns_of hc)).imp fun _ _ _ => tE_b2) rfl
  | .isi a ts, X, x, C, h => by
    obtain ⟨y, p, z, t, p2, rfl, hb, ha, ht⟩ := i_isi h
    obtain ⟨rfl, hg, hd, hm⟩ := blt_of C hb
    have hA := (sB a z C ha).1
    have bt : bootBuiltins ("isinstance" : Str) = some (.builtin "isinstance") := by decide +kernel
    rcases ht with ⟨w, q, rfl, ht⟩ | ⟨es, k, q, rfl, ht, h2, h3⟩
    · cases ts with
      | nil => simp [tysB] at ht
      | cons t ts =>
        cases ts with
        | nil =>
          obtain ⟨q1, _⟩ := pa_tys C ht
          exact both ((pe_callB (pos := p2) (p := p) call_isi hg hm bt (pac (ns_of ha) hA q1) (by decide +kernel) hd (starEach_ns (ns_of ha)) rfl).imp fun _ _ _ => tE_isi1) rfl
        | cons t2 ts => simp [tysB] at ht
    · obtain ⟨q1, q2⟩ := pa_tys C ht
      have hne : ts ≠ [] := by rintro rfl; simp at h2
      exact both ((pe_callB (pos := p2) (p := p) call_isiT hg hm bt (pac (ns_of ha) hA (pac rfl (pe_tup q1) pa_nil)) (by decide +kernel) hd (starEach_ns (ns_of ha)) rfl).imp fun _ _ _ => tE_isis h3 hne) rfl
  | .ix a b, X, x, C, h => by
    obtain ⟨y, z, p, rfl, ha, hb, ns⟩ := i_ix h
    exact both ((pe_ix ix_all (sB a y C ha).1 (sB b z C hb).1 (plainIx_of ns)).imp fun _ _ _ => tE_ix) rfl
  | .sl a lo hi, X, x, C, h => by
    obtain ⟨y, l, u, p2, p, rfl, ha, hl, hu⟩ := i_sl h
    exact both ((pe_slice sl_all (sB a y C ha).1 (sO lo l C hl) (sO hi u C hu)).imp fun _ _ _ => tE_sl) rfl
  | .lc elt tg src cond, X, x, C, h => by
    obtain ⟨y, t, it, ifs, scope, p, rfl, hr, hb, ho, ht, he, hc, hs⟩ := i_lc h
    have P : PE X (.ListComp y [⟨t, it, ifs, 0⟩] scope p) (tLc (tI X.K cf (evr L.gv cl src)) (tG X.K tg) (tCond X.K cf L.gv cl cond) (tE X.K cf (ev L.gv cl elt)) tg.slots) := by
      rw [← ho]
      refine pe_lc C.calm C.nd (sR src it C hr) (blkOk_by hb) (fun s H c cl' fp => ?_) (fun s H c cl' fp => ?_) (fun s H c cl' fp => ?_) fun v => ?_
      · exact pg_tg (C.blk s H scope _ fp) rfl rfl rfl ht
      · exact sC cond ifs (C.blk s H scope _ fp) hc
      · exact (sB elt y (C.blk s H scope _ fp) he).1
      · cases it <;> first | rfl | cases hs
    exact both (P.imp fun _ _ _ => tE_lc) rfl
  | .lrng .nil, X, x, C, h => by
    obtain ⟨y, p, r, p2, ys, rfl, hb, hr, ha, h1, h2⟩ := i_lrng h
    cases ys <;> simp [mEs] at ha h1
  | .lrng (.cons a .nil), X, x, C, h => by
    obtain ⟨y, p, r, p2, ys, rfl, hb, hr, ha, h1, h2⟩ := i_lrng h
    obtain ⟨rfl, hg, hd, hm⟩ := blt_of C hb
    obtain ⟨p3, p4, rfl, hg2, hm2⟩ := rng_inv C hr
    match ys, ha with
    | [z], ha =>
      simp only [mEs, Bool.and_eq_true] at ha
      exact both ((pe_listRg (p := p) (pos := p2) C.calm hg hm (prg_1 (p := p3) (pos := p4) hg2 hm2 (sB a z C ha.1).1 (starEach_ns (ns_of ha.1))) rfl).imp fun _ _ _ => evRng1) rfl
    | [], ha => simp [mEs] at ha
    | _ :: _ :: _, ha => simp [mEs] at ha
  | .lrng (.cons a (.cons b .nil)), X, x, C, h => by
    obtain ⟨y, p, r, p2, ys, rfl, hb, hr, ha, h1, h2⟩ := i_lrng h
    obtain ⟨rfl, hg, hd, hm⟩ := blt_of C hb
    obtain ⟨p3, p4, rfl, hg2, hm2⟩ := rng_inv C hr
    match ys, ha with
    | [z, w], ha =>
      simp only [mEs, Bool.and_eq_true] at ha
      exact both ((pe_listRg (p := p) (pos := p2) C.calm hg hm (prg_2 (p := p3) (pos := p4) hg2 hm2 (sB a z C ha.1).1 (sB b w C ha.2.1).1 (starEach_ns (ns_of ha.1)) (starEach_ns (ns_of ha.2.1)) (backTo_ns (by simp [ns_of ha.2.1]))) rfl).imp fun _ _ _ => evRng2) rfl
    | [], ha => simp [mEs] at ha
    | [_], ha => simp [mEs] at ha
    | _ :: _ :: _ :: _, ha => simp [mEs] at ha
  | .lrng (.cons a (.cons b (.cons c cs))), X, x, C, h => by
    obtain ⟨y, p, r, p2, ys, rfl, hb, hr, ha, h1, h2⟩ := i_lrng h
    match ys, ha with
    | [], ha => simp [mEs] at ha
    | [_], ha => simp [mEs] at ha
    | [_, _], ha => simp [mEs] at ha
    | _ :: _ :: _ :: _, ha => simp at h2
  | .olen i, X, x, C, h => by
    obtain ⟨y, p, z, p2, p3, rfl, hb, hn⟩ := i_olen h
    obtain ⟨rfl, hg, hd, hm⟩ := blt_of C hb
    obtain ⟨q1, q2, q3, q4⟩ := nm_of hn
    exact both ((pe_callB (p := p) (pos := p3) call_len hg hm boot_len (pac rfl (pe_var q1 q2 q3 q4) pa_nil) (by decide +kernel) hd rfl rfl).imp fun _ _ _ => tE_olen) rfl
  | .oix i e, X, x, C, h => by
    obtain ⟨y, p, z, p2, rfl, hn, he, ns⟩ := i_oix h
    obtain ⟨q1, q2, q3, q4⟩ := nm_of hn
    exact both ((pe_ix ix_list (pe_var (pos := p) q1 q2 q3 q4) (sB e z C he).1 (plainIx_of ns)).imp fun _ _ _ => tE_oix) rfl
  | .inD neg y a, X, x, C, h => by
    obtain ⟨l, p, p2, rfl, hg, ha⟩ := i_inD h
    have q := pe_inD (neg := neg) (p := p) (p2 := p2) C hg (sB a l C ha).1
    exact ⟨q.1, fun _ => q.2⟩
  | .getD y a, X, x, C, h => by
    obtain ⟨z, p, p2, rfl, hg, ha, ns⟩ := i_getD h
    exact both (pe_getD C hg (sB a z C ha).1 ns) rfl
  | .calld f es ds, X, x, C, h => by
    obtain ⟨y, p, z, zs, p2, rfl, hf, hl, hg, ha⟩ := i_calld h
    obtain ⟨a, fd, ps, hm, hcf, hk, _, hb, hF⟩ := C.fns _ _ hf
    obtain ⟨dv, q1, q2⟩ := hb _ hl
    have ns := nsall_of ha
    simp only [List.all_cons, Bool.and_eq_true] at ns
    exact both ((pe_call (pos := p2) (p := p) (E := E0) hF C.room (gl_of hg).1 hm hk q2 q1 pass0 (sA es _ C ha) (gl_of hg).2 (starEach_ns ns.1) (backTo_ns ns.2)).imp fun _ _ _ => tE_calld) rfl
  | .osl i lo hi, X, x, C, h => by
    obtain ⟨y, p, l, u, p2, p3, rfl, hn, hl, hu⟩ := i_osl h
    obtain ⟨q1, q2, q3, q4⟩ := nm_of hn
    exact both ((pe_slice sl_list (pe_var (pos := p) q1 q2 q3 q4) (sO lo l C hl) (sO hi u C hu)).imp fun _ _ _ => tE_osl) rfl
  | .rev a, X, x, C, h => by
    obtain ⟨y, k, p1, p2, p3, p, rfl, ha⟩ := i_rev h
    exact both ((pe_revA (sB a y C ha).1).imp fun _ _ _ => tE_rev) rfl
  | .isB neg a b, X, x, C, h => by
    obtain ⟨l, k, p1, p, rfl, ha⟩ := i_isB h
    have q := pe_isB (neg := neg) (b := b) (k := k) (p1 := p1) (p := p) (sB a l C ha).1
    exact ⟨q.1, fun _ => q.2⟩
  | .cnew b, X, x, C, h => by
    obtain ⟨y, p, z, p2, rfl, hb, ha⟩ := i_cnew h
    obtain ⟨rfl, hg, hd, hm⟩ := blt_of C hb
    exact both ((pe_callTy (p := p) (pos := p2) call_list_of hg hm (boot_b1 .list) (pac (ns_of ha) (sB b z C ha).1 pa_nil) (b1_nn .list) hd (starEach_ns (ns_of ha)) rfl).imp fun _ _ _ => tE_cnew) rfl
  | .clen a, X, x, C, h => by
    obtain ⟨y, p, z, p2, rfl, hb, ha⟩ := i_clen h
    obtain ⟨rfl, hg, hd, hm⟩ := blt_of C hb
    exact both ((pe_callB (p := p) (pos := p2) call_len hg hm boot_len (pac (ns_of ha) (sB a z C ha).1 pa_nil) (by decide +kernel) hd (starEach_ns (ns_of ha)) rfl).imp fun _ _ _ => tE_clen) rfl
  | .cpop a i, X, x, C, h => by
    obtain ⟨ox, op, apos, y, p2, rfl, ha, hi, hl⟩ := i_cpop h
    have ns := ns_of hi
    exact both ((pe_bm PySem.F.plainAttrs_list PySem.F.slot_list_pop PySem.F.type_list_pop mt_popAt (sB a (.Name ox op) C ha).1 (pac ns (sB i y C hi).1 pa_nil) rfl (by rw [starEach_ns ns]; rfl) hl (starEach_ns ns) rfl).imp fun _ _ _ => tE_cpop) rfl
  | .cnil neg a, X, x, C, h => by
    obtain ⟨l, p1, p, rfl, ha⟩ := i_cnil h
    have hu : X.A.units + 64 < cLine := by have := C.room.un; omega
    have q := pe_cnil (neg := neg) (p1 := p1) (p := p) hu (sB a l C ha).1
    exact ⟨q.1, fun _ => q.2⟩
  | .lzip a b, X, x, C, h => (i_lzip h).elim
  | .sset a, X, x, C, h => (i_sset h).elim
theorem sA : ∀ (es : Es) {X : Cx} (xs : List Expr), Cxt L cf cl n X → mEs L X.N X.env.scope es xs = true → PA X xs (tA X.K cf (evs L.gv cl es))
  | .nil, X, [], C, h => pa_nil.imp fun _ _ _ => tA_nil
  | .nil, X, _ :: _, C, h => by simp [mEs] at h
  | .cons e es, X, [], C, h => by simp [mEs] at h
  | .cons e es, X, x :: xs, C, h => by
    simp only [mEs, Bool.and_eq_true] at h
    exact (pac (ns_of h.1) (sB e x C h.1).1 (sA es xs C h.2)).imp fun _ _ _ => tA_cons
theorem sO : ∀ (es : Es) {X : Cx} (x : Option Expr), Cxt L cf cl n X → mO L X.N X.env.scope es x = true → PO X x (tO X.K cf (evs L.gv cl es))
  | .nil, X, none, C, h => ⟨fun pins s σ H Q I q => po_none.run pins s σ H Q I (tO_nil q)⟩
  | .nil, X, some _, C, h => by simp [mO] at h
  | .cons e .nil, X, none, C, h => by simp [mO] at h
  | .cons e .nil, X, some x, C, h => by
    simp only [mO] at h
    exact ⟨fun pins s σ H Q I q => (po_some (sB e x C h).1).run pins s σ H Q I (tO_one q)⟩
  | .cons e (.cons e2 es), X, x, C, h => by cases x <;> simp [mO] at h
theorem sC : ∀ (es : Es) {X : Cx} (xs : List Expr), Cxt L cf cl n X → mC L X.N X.env.scope es xs = true → PTs X xs (tCond X.K cf L.gv cl es)
  | .nil, X, [], C, h => pts_nil
  | .nil, X, _ :: _, C, h => by simp [mC] at h
  | .cons e .nil, X, [], C, h => by simp [mC] at h
  | .cons e .nil, X, [x], C, h => by
    simp only [mC, Bool.and_eq_true] at h
    exact pts_one ((sB e x C h.1).2 h.2)
  | .cons e .nil, X, _ :: _ :: _, C, h => by simp [mC] at h
  | .cons e (.cons e2 es), X, xs, C, h => by cases xs <;> simp [mC] at h
theorem sR : ∀ (r : Sr) {X : Cx} {t : Expr} (x : Expr), Cxt L cf cl n X → mR L X.N X.env.scope r t x = true → PI X t x (tI X.K cf (evr L.gv cl r))
  | .it e, X, t, x, C, h => by
    simp only [mR] at h
    exact pi_it (sB e x C h).1
  | .rng .nil, X, t, x, C, h => by
    simp only [mR] at h
    split at h
    · rename_i ys _
      cases ys <;> simp [mEs] at h
    · cases h
  | .rng (.cons a .nil), X, t, x, C, h => by
    simp only [mR] at h
    split at h
    · rename_i ys hr
      obtain ⟨p3, p4, rfl, hg2, hm2⟩ := rng_inv C hr
      match ys, h with
      | [z], h =>
        simp only [mEs, Bool.and_eq_true] at h
        exact pi_rng1 hg2 hm2 (sB a z C h.1.1.1).1 (ns_of h.1.1.1)
      | [], h => simp [mEs] at h
      | _ :: _ :: _, h => simp [mEs] at h
    · cases h
  | .rng (.cons a (.cons b .nil)), X, t, x, C, h => by
    simp only [mR] at h
    split at h
    · rename_i ys hr
      obtain ⟨p3, p4, rfl, hg2, hm2⟩ := rng_inv C hr
      match ys, h with
      | [z, w], h =>
        simp only [mEs, Bool.and_eq_true] at h
        exact pi_rng2 hg2 hm2 (sB a z C h.1.1.1).1 (sB b w C h.1.1.2.1).1 (ns_of h.1.1.1) (ns_of h.1.1.2.1)
      | [], h => simp [mEs] at h
      | [_], h => simp [mEs] at h
      | _ :: _ :: _ :: _, h => simp [mEs] at h
    · cases h
  | .rng (.cons a (.cons b (.cons c cs))), X, t, x, C, h => by
    simp only [mR] at h
    split at h
    · rename_i ys hr
      match ys, h with
      | [], h => simp [mEs] at h
      | [_], h => simp [mEs] at h
      | [_, _], h => simp [mEs] at h
      | _ :: _ :: _ :: _, h => simp at h
    · cases h
  | .enum e, X, t, x, C, h => by
    unfold mR at h
    split at h
    all_goals first | (rename_i q; cases q; done) | (exact Bool.noConfusion h) | skip
    rename_i q; cases q
    simp only [Bool.and_eq_true] at h
    obtain ⟨⟨h1, h2⟩, h3⟩ := h
    obtain ⟨rfl, hg, hd, hm⟩ := blt_of C h1
    obtain ⟨_, _, _, rfl⟩ := isTup_inv h3
    exact pi_enumD hg hm (sB e _ C h2).1 (ns_of h2)
  | .zip a b, X, t, x, C, h => by
    unfold mR at h
    split at h
    all_goals first | (rename_i q; cases q; done) | (exact Bool.noConfusion h) | skip
    rename_i q; cases q
    simp only [Bool.and_eq_true] at h
    obtain ⟨⟨⟨h1, h2⟩, h4⟩, h3⟩ := h
    obtain ⟨rfl, hg, hd, hm⟩ := blt_of C h1
    obtain ⟨_, _, _, rfl⟩ := isTup_inv h3
    exact pi_zipD hg hm (sB a _ C h2).1 (sB b _ C h4).1 (ns_of h2) (ns_of h4)
end
end
end MP

/-! MPM: the mirror of statements, and readings of statements. -/
namespace MP
open PySem L2

def notComp : Expr → Bool
  | .ListComp _ _ _ _ | .SetComp _ _ _ _ | .DictComp _ _ _ _ _ => false
  | _ => true
def notTup : Expr → Bool
  | .Tuple _ _ _ => false
  | _ => true
/-- how a comprehension's value is stored: by the exchange, or plainly -/
def swapB (sc : Scope) (y : Str) (py : Pos) : Expr → Option Bool
  | .ListComp _ _ scope p => some (decide (sc.names.lookup y = some .local) && py.line == p.line && !(scope.names.any fun (n, k) => n == y && (k == .local || k == .cell)))
  | .SetComp _ _ _ _ | .DictComp _ _ _ _ _ => none
  | _ => some false
/-- two plain local names, from two expressions, stored the other way round -/
def parB (sc : Scope) : Expr → Expr → Expr → Expr → Bool
  | .Name x px, .Name y py, v, w => decide (sc.names.lookup x = some .local) && decide (sc.names.lookup y = some .local) && px.line == py.line && decide (x ≠ y) && !(foldedForSure 8 v && foldedForSure 8 w) && !(constantsAlone 8 v && constantsAlone 8 w)
  | _, _, _, _ => false
def namesOf (sc : Scope) (line : Nat) (ts : List Expr) : List Str := ts.filterMap fun
  | .Name id pos => if sc.names.lookup id == some .local && pos.line == line then some id else none
  | _ => none
/-- several targets, one of them no plain local: no exchange -/
def unpB (sc : Scope) (ts : List Expr) : Expr → Bool
  | .Tuple vs _ _ => !(ts.length == 2 || ts.length == 3) || vs.length != ts.length || (namesOf sc ((ts.head?.map (·.pos.line)).getD 0) ts).length != ts.length
  | _ => true
def isLst : E → Bool
  | .lst _ | .lc _ _ _ _ => true
  | .b1 .list _ => true
  | .op .add _ _ => true
  | _ => false

section
variable (L : Lnk) (N : List Str)
mutual
def mS (sc : Scope) : Sm → Stmt → Bool
  | .set i e, .Assign [.Name y py] v _ => tgNmB N sc (fun _ => true) i y && mE L N sc e v && (match swapB sc y py v with
    | some _ => true
    | none => false)
  | .own i e, .Assign [.Name y py] v _ => tgNmB N sc (fun _ => true) i y && mE L N sc e v && (match swapB sc y py v with
    | some _ => true
    | none => false) && isLst e
  | .unp is e, .Assign [.Tuple ts _ _] v _ => tgNmsB N sc (fun _ => true) ts is && mE L N sc e v && unpB sc ts v
  | .par i j a b, .Assign [.Tuple [t1, t2] _ _] (.Tuple [v, w] _ _) _ => tgNmB' sc i t1 && tgNmB' sc j t2 && mE L N sc a v && mE L N sc b w && parB sc t1 t2 v w && decide (i ≠ j)
  | .unp2 i js e, .Assign [.Tuple [.Name y py, .Tuple ts k p] k2 p2] v _ => tgNmB N sc (fun _ => true) i y && tgNmsB N sc (fun _ => true) ts js && mE L N sc e v && unpB sc [.Name y py, .Tuple ts k p] v
  | .app i e, .Expr (.Call (.Attribute (.Name x _) nm apos) [v] [] p2) _ => decide (nm = "append") && nmB N sc i x && mE L N sc e v && (apos.endLine == p2.line)
  | .oset i j e, .Assign [.Subscript (.Name x _) y _] v _ => nmB N sc i x && mE L N sc j y && mE L N sc e v && notSlice y && notComp v
  | .cset a j e, .Assign [.Subscript x y _] v _ => mE L N sc a x && mE L N sc j y && mE L N sc e v && notSlice y && notComp v
  | .ifs c a b, .If t xs ys _ => mE L N sc c t && notIf t && mSs sc a xs && mSs sc b ys
  | .fors tg src body, .For t it xs [] _ => mR L N sc src t it && tgB N sc (fun _ => true) t tg && mSs sc body xs && notSet it
  | .whil c body, .While t xs [] _ => mE L N sc c t && notIf t && mSs sc body xs
  | .ret e, .Return (some v) _ => mE L N sc e v
  | .retn, .Return none _ => true
  | .brk, .Break _ => true
  | .cnt, .Continue _ => true
  | .pas, .Pass _ => true
  | .expr e, .Expr v _ => mE L N sc e v && notComp v
  | .rais, .Raise _ _ _ => true
  | _, _ => false
where tgNmB' (sc : Scope) (i : Nat) : Expr → Bool
  | .Name x _ => tgNmB N sc (fun _ => true) i x
  | _ => false
def mSs (sc : Scope) : Ss → List Stmt → Bool
  | .nil, [] => true
  | .cons (.frz i) r, xs => mSs sc r xs
  | .cons s r, x :: xs => mS sc s x && mSs sc r xs
  | _, _ => false
end
end

/-- what is wanted behind -/
def OK (K : PySem.W.Frag) (cf : Nat → Option Addr) (ι0 : List Addr) (F0 B : Hp) (D : Ends) : Out → Prop
  | .nx δ' S' => ∀ σ' ι' F' H', Stp ι0 F0 B ι' F' H' → Gd K cf S' ι' F' H' → Slt K cf ι' F' H' B δ' σ' → D.nx σ' H'
  | .rt d S' => ∀ v ι' F' H', Stp ι0 F0 B ι' F' H' → Gd K cf S' ι' F' H' → R K cf ι' F' d v → D.rt v H'
  | .bk δ' S' => ∀ σ' ι' F' H', Stp ι0 F0 B ι' F' H' → Gd K cf S' ι' F' H' → Slt K cf ι' F' H' B δ' σ' → D.bk σ' H'
  | .ct δ' S' => ∀ σ' ι' F' H', Stp ι0 F0 B ι' F' H' → Gd K cf S' ι' F' H' → Slt K cf ι' F' H' B δ' σ' → D.ct σ' H'
def tS (K : PySem.W.Frag) (cf : Nat → Option Addr) (f : Env → Store → Option Out) : TS := fun D σ H => ∃ ι0 F0 B ι F δ S o, Stp ι0 F0 B ι F H ∧ Gd K cf S ι F H ∧ Slt K cf ι F H B δ σ ∧ f δ S = some o ∧ OK K cf ι0 F0 B D o
section
variable {K : PySem.W.Frag} {cf : Nat → Option Addr} {gv : GV} {cl : CallT} {Dn : Ends} {σ : L2.St} {H : Hp}
theorem tS_nil (h : tS K cf (excs gv cl .nil) Dn σ H) : tNext Dn σ H := by
  obtain ⟨ι0, F0, B, ι, F, δ, S, o, st, G, L, e, k⟩ := h
  simp only [excs] at e
  cases e
  exact k _ _ _ _ st G L
theorem tS_cons {s : Sm} {r : Ss} (h : tS K cf (excs gv cl (.cons s r)) Dn σ H) : tSeq (tS K cf (exc gv cl s)) (tS K cf (excs gv cl r)) Dn σ H := by
  obtain ⟨ι0, F0, B, ι, F, δ, S, o, st, G, L, e, k⟩ := h
  simp only [excs] at e
  split at e
  · rename_i δ1 S1 e1
    exact ⟨ι0, F0, B, ι, F, δ, S, _, st, G, L, e1, fun σ' ι' F' H' st' G' L' => ⟨ι0, F0, B, ι', F', δ1, S1, o, st', G', L', e, k⟩⟩
  · rename_i hne
    refine ⟨ι0, F0, B, ι, F, δ, S, o, st, G, L, e, ?_⟩
    cases o with
    | nx δ1 S1 => exact absurd e (hne δ1 S1)
    | rt d S1 => exact k
    | bk δ1 S1 => exact k
    | ct δ1 S1 => exact k
theorem Slt.frz {ι : List Addr} {F H B : Hp} {δ : Env} {S : Store} (G : Gd K cf S ι F H) (L : Slt K cf ι F H B δ σ) {i : Nat} {ds : List D} (hd : δ[i]? = some (.o ds)) :
    ∃ a vs, H a = some (.lst vs) ∧ F a = none ∧ a ∉ ι ∧ B a = none ∧ Gd K cf S ι (upd F a (.lst vs)) H ∧ Slt K cf ι (upd F a (.lst vs)) H B (δ.set i (.v (.lst ds))) σ := by
  obtain ⟨a, vs, h1, h2, h3, h4, h5, h6, h7⟩ := L.own _ _ hd
  have fm : ∀ b u, F b = some u → upd F a (.lst vs) b = some u := fun b u h => by rw [upd_ne (ne_of_none h h4)]; exact h
  have r : R K cf ι (upd F a (.lst vs)) (.lst ds) (.ref a) := .lst upd_same (h3.mono ⟨[], by simp⟩ fm) h7
  have hi := (List.getElem?_eq_some_iff.mp hd).1
  refine ⟨a, vs, h2, h4, h5, h6, G.freeze h2 h4 h5, by simp [L.len], fun j d h => ?_, fun j es h => ?_, fun j k x y b e1 e2 e3 e4 => ?_⟩
  · rw [get_set] at h
    split at h
    · rename_i c
      cases h
      rw [← c.1]
      exact ⟨_, h1, r⟩
    · obtain ⟨v, q1, q2⟩ := L.val j d h
      exact ⟨v, q1, q2.mono ⟨[], by simp⟩ fm⟩
  · rw [get_set] at h
    split at h
    · cases h
    · rename_i c
      obtain ⟨b, ws, q1, q2, q3, q4, q5, q6, q7⟩ := L.own j es h
      have hba : b ≠ a := fun e => by
        subst e
        have := L.apart _ _ _ _ _ hd h h1 q1
        exact c ⟨this, hi⟩
      exact ⟨b, ws, q1, q2, q3.mono ⟨[], by simp⟩ fm, by rw [upd_ne hba]; exact q4, q5, q6, q7⟩
  · rw [get_set] at e1 e2
    split at e1
    · cases e1
    · split at e2
      · cases e2
      · exact L.apart j k x y b e1 e2 e3 e4
theorem tS_frz {i : Nat} {r : Ss} (h : tS K cf (excs gv cl (.cons (.frz i) r)) Dn σ H) : tS K cf (excs gv cl r) Dn σ H := by
  obtain ⟨ι0, F0, B, ι, F, δ, S, o, st, G, L, e, k⟩ := h
  simp only [excs, exc] at e
  cases hd : δ[i]? with
  | none => rw [hd] at e; simp only at e; cases e
  | some s =>
    rw [hd] at e
    cases s with
    | no => simp only at e; cases e
    | v d =>
      simp only at e
      exact ⟨ι0, F0, B, ι, F, δ, S, o, st, G, L, e, k⟩
    | o ds =>
      simp only at e
      obtain ⟨a, vs, h1, h2, h3, h4, G', L'⟩ := L.frz G hd
      exact ⟨ι0, F0, B, ι, upd F a (.lst vs), _, S, o, st.freeze h4 h2, G', L', e, k⟩
theorem tS_set {i : Nat} {e : E} (h : tS K cf (exc gv cl (.set i e)) Dn σ H) : tAsg (tE K cf (ev gv cl e)) (gName i) Dn σ H := by
  obtain ⟨ι0, F0, B, ι, F, δ, S, o, st, G, L, q, k⟩ := h
  simp only [exc] at q
  split at q
  · rename_i d S1 ea
    cases q
    exact ⟨ι, F, B, δ, S, _, _, G, L, ea, fun v ι' F' H' s' G' r => k _ _ _ _ (st.trans s') G' ((L.step s').setv r i)⟩
  · cases q
theorem tS_unp {is : List Nat} {e : E} (h : tS K cf (exc gv cl (.unp is e)) Dn σ H) : tAsg (tE K cf (ev gv cl e)) (tG K (.tp is)) Dn σ H := by
  obtain ⟨ι0, F0, B, ι, F, δ, S, o, st, G, L, q, k⟩ := h
  simp only [exc] at q
  split at q
  · rename_i ds S1 ea
    split at q
    · rename_i δ1 hs
      cases q
      refine ⟨ι, F, B, δ, S, _, _, G, L, ea, fun v ι' F' H' s' G' r => ?_⟩
      exact tG_go (σ0 := σ) (tg := .tp is) (d := .tup ds) G' hs r (L.step s') (off_refl _ _) fun σ1 L1 _ => k _ _ _ _ (st.trans s') G' L1
    · cases q
  · cases q
theorem tS_unp2 {i : Nat} {js : List Nat} {e : E} (h : tS K cf (exc gv cl (.unp2 i js e)) Dn σ H) : tAsg (tE K cf (ev gv cl e)) (gTup K 2 (gCons (gName i) (gCons (gTup K js.length (gNms js)) gNil))) Dn σ H := by
  obtain ⟨ι0, F0, B, ι, F, δ, S, o, st, G, L, q, k⟩ := h
  simp only [exc] at q
  split at q
  · rename_i x ds S1 ea
    split at q
    · rename_i δ1 hs
      cases q
      refine ⟨ι, F, B, δ, S, _, _, G, L, ea, fun v ι' F' H' s' G' r => ?_⟩
      cases r with | tup a1 a2 a3 =>
      cases a2 with | cons r1 a2 =>
      cases a2 with | cons r2 a2 =>
      cases a2
      cases r2 with | tup b1 b2 b3 =>
      refine ⟨_, _, rfl, sqt_mono G'.sub a1, rfl, _, _, rfl, _, _, rfl, _, _, rfl, sqt_mono G'.sub b1, by rw [← b2.length, setMany_len hs], ?_⟩
      exact gNms_go (vs := js) (σ0 := σ.set i (some _)) hs b2 ((L.step s').setv r1 i) (off_refl _ _) (fun i hi => hi) fun σ1 L1 _ => ⟨rfl, k _ _ _ _ (st.trans s') G' L1⟩
    · cases q
  · cases q
theorem tS_par {i j : Nat} {a b : E} (h : tS K cf (exc gv cl (.par i j a b)) Dn σ H) : tPar i j (tCons (tE K cf (ev gv cl a)) (tCons (tE K cf (ev gv cl b)) tNil)) Dn σ H := by
  obtain ⟨ι0, F0, B, ι, F, δ, S, o, st, G, L, q, k⟩ := h
  simp only [exc] at q
  split at q
  · rename_i x S1 ea
    split at q
    · rename_i y S2 eb
      cases q
      refine ⟨ι, F, B, δ, S, _, _, G, L, ea, fun v ι1 F1 H1 s1 G1 r1 => ?_⟩
      refine ⟨ι1, F1, B, δ, S1, _, _, G1, L.step s1, eb, fun w ι2 F2 H2 s2 G2 r2 => ?_⟩
      exact ⟨v, w, rfl, k _ _ _ _ (st.trans (s1.trans s2)) G2 ((((L.step s1).step s2).setv (r1.step s2) i).setv r2 j)⟩
    · cases q
  · cases q
theorem tS_app {i : Nat} {e : E} (h : tS K cf (exc gv cl (.app i e)) Dn σ H) : tDrop (tBM K "list" rAppend (tVar i) (tCons (tE K cf (ev gv cl e)) tNil)) Dn σ H := by
  obtain ⟨ι0, F0, B, ι, F, δ, S, o, st, G, L, q, k⟩ := h
  simp only [exc] at q
  split at q
  · rename_i d S1 ea
    split at q
    · rename_i ds hd
      split at q
      · rename_i hl
        cases q
        obtain ⟨a, vs, h1, h2, h3, h4, h5, h6, h7⟩ := L.own _ _ hd
        refine ⟨_, h1, .inl ⟨rfl, _, SqL.of h2⟩, ι, F, B, δ, S, _, _, G, L, ea, fun v ι1 F1 H1 s1 G1 r1 => ?_⟩
        have L1 := L.step s1
        obtain ⟨a', vs', h1', h2', h3', h4', h5', h6', h7'⟩ := L1.own _ _ hd
        rw [h1] at h1'
        cases h1'
        have hz : vs'.length < sizeLine := by
          rw [← h3'.length]
          exact Nat.lt_of_lt_of_le hl (by decide)
        refine ⟨a, vs', v, rfl, rfl, h2', hz, ?_⟩
        refine k _ _ _ _ ((st.trans s1).write h6 h2') (G1.write h2' h4' h5') ?_
        have hlen : i < δ.length := (List.getElem?_eq_some_iff.mp hd).1
        -- the slots behind
        have L2' : Slt K cf ι1 F1 (upd H1 a (.lst (vs' ++ [v]))) B (δ.set i (.o (ds ++ [d]))) (σ.set i (some (.ref a))) := by
          refine ⟨by simp [L.len], fun j x hj => ?_, fun j es hj => ?_, fun j l x y b e1 e2 e3 e4 => ?_⟩
          · rw [get_set] at hj ⊢
            split at hj
            · cases hj
            · rename_i c
              rw [if_neg (fun z => c ⟨z.1, by rw [← L.len]; exact z.2⟩)]
              exact L1.val j x hj
          · rw [get_set] at hj ⊢
            split at hj
            · rename_i c
              cases hj
              rw [if_pos ⟨c.1, by rw [L.len]; exact c.2⟩]
              exact ⟨a, _, rfl, upd_same, h3'.append (.cons r1 .nil), h4', h5', h6', by rw [List.length_append]; exact hl⟩
            · rename_i c
              rw [if_neg (fun z => c ⟨z.1, by rw [← L.len]; exact z.2⟩)]
              obtain ⟨b, ws, q1, q2, q3, q4, q5, q6, q7⟩ := L1.own j es hj
              have hba : b ≠ a := fun e => by
                subst e
                exact c ⟨L.apart _ _ _ _ _ hd hj h1 q1, hlen⟩
              exact ⟨b, ws, q1, by rw [upd_ne hba]; exact q2, q3, q4, q5, q6, q7⟩
          · rw [get_set] at e1 e2 e3 e4
            split at e1
            · rename_i c
              rw [if_pos ⟨c.1, by rw [L.len]; exact c.2⟩] at e3
              cases e3
              split at e2
              · rename_i c'
                exact c.1.symm.trans c'.1
              · rename_i c'
                rw [if_neg (fun z => c' ⟨z.1, by rw [← L.len]; exact z.2⟩)] at e4
                exact absurd ⟨L.apart _ _ _ _ _ hd e2 h1 e4, hlen⟩ c'
            · rename_i c
              rw [if_neg (fun z => c ⟨z.1, by rw [← L.len]; exact z.2⟩)] at e3
              split at e2
              · rename_i c'
                rw [if_pos ⟨c'.1, by rw [L.len]; exact c'.2⟩] at e4
                cases e4
                exact absurd ⟨L.apart _ _ _ _ _ hd e1 h1 e3, hlen⟩ c
              · rename_i c'
                rw [if_neg (fun z => c' ⟨z.1, by rw [← L.len]; exact z.2⟩)] at e4
                exact L.apart j l x y b e1 e2 e3 e4
        have e0 : σ.set i (some (.ref a)) = σ := by
          apply List.ext_getElem?
          intro j
          rw [get_set]
          split
          · rename_i c; rw [← c.1, h1]
          · rfl
        rw [e0] at L2'
        exact L2'
      · cases q
    · cases q
  · cases q
end
end MP

/-! MPN: readings of the other statements, loops. -/
namespace MP
open PySem L2
section
variable {K : PySem.W.Frag} {cf : Nat → Option Addr} {gv : GV} {cl : CallT} {Dn : Ends} {σ : L2.St} {H : Hp}
theorem Slt.mut {ι : List Addr} {F B : Hp} {δ : Env} (L : Slt K cf ι F H B δ σ) {i : Nat} {ds es : List D} {a : Addr} {ws : List V} (hd : δ[i]? = some (.o ds)) (h1 : σ[i]? = some (some (.ref a))) (r : RL K cf ι F es ws) (hl : es.length ≤ lim) :
    Slt K cf ι F (upd H a (.lst ws)) B (δ.set i (.o es)) σ := by
  obtain ⟨a', vs', h1', h2', h3', h4', h5', h6', h7'⟩ := L.own _ _ hd
  rw [h1] at h1'
  cases h1'
  have hlen : i < δ.length := (List.getElem?_eq_some_iff.mp hd).1
  refine ⟨by simp [L.len], fun j x hj => ?_, fun j fs hj => ?_, fun j l x y b e1 e2 e3 e4 => ?_⟩
  · rw [get_set] at hj
    split at hj
    · cases hj
    · exact L.val j x hj
  · rw [get_set] at hj
    split at hj
    · rename_i c
      cases hj
      exact ⟨a, _, by rw [← c.1]; exact h1, upd_same, r, h4', h5', h6', hl⟩
    · rename_i c
      obtain ⟨b, vs, q1, q2, q3, q4, q5, q6, q7⟩ := L.own j fs hj
      have hba : b ≠ a := fun e => by
        subst e
        exact c ⟨L.apart _ _ _ _ _ hd hj h1 q1, hlen⟩
      exact ⟨b, vs, q1, by rw [upd_ne hba]; exact q2, q3, q4, q5, q6, q7⟩
  · have own_of : ∀ {m : Nat} {z : List D}, (δ.set i (.o es))[m]? = some (.o z) → ∃ z', δ[m]? = some (.o z') := fun {m z} e => by
      rw [get_set] at e
      split at e
      · rename_i c; exact ⟨ds, by rw [← c.1]; exact hd⟩
      · exact ⟨z, e⟩
    obtain ⟨x', e1'⟩ := own_of e1
    obtain ⟨y', e2'⟩ := own_of e2
    exact L.apart j l x' y' b e1' e2' e3 e4
theorem set_self_of {i : Nat} {x : Option V} (h : σ[i]? = some x) : σ.set i x = σ := by
  apply List.ext_getElem?
  intro j
  rw [get_set]
  split
  · rename_i c; rw [← c.1, h]
  · rfl
theorem ixN_lt {n : Nat} {k : Int} {j : Nat} (h : ixN n k = some j) : j < n := (ixN_seq h).2.1
theorem tS_own {i : Nat} {e : E} (h : tS K cf (exc gv cl (.own i e)) Dn σ H) : tAsg (tN K cf (ev gv cl e)) (gName i) Dn σ H := by
  obtain ⟨ι0, F0, B, ι, F, δ, S, o, st, G, L, q, k⟩ := h
  simp only [exc] at q
  split at q
  · rename_i ds S1 ea
    cases q
    refine ⟨ι, F, B, δ, S, _, _, G, L, ea, fun p vs ι' F' H' s' G' h1 h2 h3 h4 h5 h6 => ?_⟩
    have hB : B p = none := st.dm _ h3
    refine k _ _ _ _ (st.trans s') G' ((L.step s').seto h4 h5 h1 h2 hB h6 (fun j x hj e => ?_) i)
    obtain ⟨b, ws, q1, q2, _⟩ := L.own j x hj
    rw [q1] at e
    cases e
    rw [h3] at q2
    cases q2
  · cases q
theorem tS_oset {i : Nat} {j e : E} (h : tS K cf (exc gv cl (.oset i j e)) Dn σ H) : tAsg (tE K cf (ev gv cl e)) (gSub (tVar i) (tE K cf (ev gv cl j)) rSetL) Dn σ H := by
  obtain ⟨ι0, F0, B, ι, F, δ, S, o, st, G, L, q, k⟩ := h
  simp only [exc] at q
  split at q
  · rename_i d S1 ea
    split at q
    · rename_i m S2 eb
      split at q
      · rename_i ds hd
        split at q
        · rename_i n hn
          cases q
          refine ⟨ι, F, B, δ, S, _, _, G, L, ea, fun v ι1 F1 H1 s1 G1 r1 => ?_⟩
          obtain ⟨a, vs, h1, h2, h3, h4, h5, h6, h7⟩ := (L.step s1).own _ _ hd
          refine ⟨_, h1, ι1, F1, B, δ, S1, _, _, G1, L.step s1, eb, fun w ι2 F2 H2 s2 G2 r2 => ?_⟩
          cases r2
          have L2 := (L.step s1).step s2
          obtain ⟨a', vs', h1', h2', h3', h4', h5', h6', h7'⟩ := L2.own _ _ hd
          rw [h1] at h1'
          cases h1'
          refine ⟨_, _, _, n, rfl, rfl, h2', by rw [← h3'.length]; exact hn, ?_⟩
          exact k _ _ _ _ ((st.trans (s1.trans s2)).write h6' h2') (G2.write h2' h4' h5') (L2.mut hd h1 (RL.set (r1.step s2) n h3') (by rw [List.length_set]; exact h7'))
        · cases q
      · cases q
    · cases q
  · cases q
theorem tS_cset {a j e : E} (h : tS K cf (exc gv cl (.cset a j e)) Dn σ H) : tAsg (tE K cf (ev gv cl e)) (gSub (tE K cf (ev gv cl a)) (tE K cf (ev gv cl j)) rSetL) Dn σ H := by
  obtain ⟨ι0, F0, B, ι, F, δ, S, o, st, G, L, q, k⟩ := h
  simp only [exc] at q
  split at q
  · rename_i d S1 ea
    split at q
    · rename_i c S2 eb
      split at q
      · rename_i m S3 ec
        split at q
        · rename_i ds hds
          split at q
          · rename_i n hn
            cases q
            refine ⟨ι, F, B, δ, S, _, _, G, L, ea, fun v ι1 F1 H1 s1 G1 r1 => ?_⟩
            refine ⟨ι1, F1, B, δ, S1, _, _, G1, L.step s1, eb, fun w ι2 F2 H2 s2 G2 r2 => ?_⟩
            refine ⟨ι2, F2, B, δ, S2, _, _, G2, (L.step s1).step s2, ec, fun z ι3 F3 H3 s3 G3 r3 => ?_⟩
            cases r3
            cases r2 with | cell r2 =>
            rename_i p
            obtain ⟨p', vs, h1, h2, h3⟩ := G3.cells _ _ hds
            have hp : ι3[c]? = some p := by
              obtain ⟨t, rfl⟩ := s3.io
              rw [List.getElem?_append_left (List.getElem?_eq_some_iff.mp r2).1]; exact r2
            rw [hp] at h1
            cases h1
            refine ⟨_, _, _, n, rfl, rfl, h2, by rw [← h3.length]; exact hn, ?_⟩
            have r' : RL K cf ι3 F3 (ds.set n d) (vs.set n v) := RL.set ((r1.step s2).step s3) n h3
            have hm : p ∈ ι3 := List.mem_of_getElem? hp
            have s := st.trans (s1.trans (s2.trans s3))
            have L3 := ((L.step s1).step s2).step s3
            -- the step that writes a cell
            have w' : Stp ι0 F0 B ι3 F3 (upd H3 p (.lst (vs.set n v))) := by
              refine ⟨s.io, s.fm, s.fn, s.nw, fun x u h hn => ?_, fun x h => ?_⟩
              · rw [upd_ne fun e => ?_]
                · exact s.fr x u h hn
                · subst e
                  rcases s.nw _ hm with z | z
                  · exact hn z
                  · rw [h] at z; cases z
              · by_cases e : x = p
                · subst e; rw [upd_same] at h; cases h
                · rw [upd_ne e] at h; exact s.dm x h
            refine k _ _ _ _ w' (G3.cset (List.getElem?_eq_some_iff.mp hds).1 hp r') ?_
            refine ⟨L3.len, L3.val, fun i x hx => ?_, L3.apart⟩
            obtain ⟨b, ws, q1, q2, q3, q4, q5, q6, q7⟩ := L3.own i x hx
            exact ⟨b, ws, q1, by rw [upd_ne (fun (e : b = p) => q5 (by rw [e]; exact hm))]; exact q2, q3, q4, q5, q6, q7⟩
          · cases q
        · cases q
      · cases q
    · cases q
  · cases q
theorem tS_ifs {c : E} {a b : Ss} (h : tS K cf (exc gv cl (.ifs c a b)) Dn σ H) : tIfS (tT K cf (ev gv cl c)) (tS K cf (excs gv cl a)) (tS K cf (excs gv cl b)) Dn σ H := by
  obtain ⟨ι0, F0, B, ι, F, δ, S, o, st, G, L, q, k⟩ := h
  simp only [exc] at q
  split at q
  · rename_i S1 ea
    refine ⟨ι, F, B, δ, S, _, _, G, L, ea, fun ι1 F1 H1 s1 G1 => ?_⟩
    exact iteT ⟨ι0, F0, B, ι1, F1, δ, S1, o, st.trans s1, G1, L.step s1, q, k⟩
  · rename_i S1 ea
    refine ⟨ι, F, B, δ, S, _, _, G, L, ea, fun ι1 F1 H1 s1 G1 => ?_⟩
    exact iteF ⟨ι0, F0, B, ι1, F1, δ, S1, o, st.trans s1, G1, L.step s1, q, k⟩
  · cases q
theorem tS_ret {e : E} (h : tS K cf (exc gv cl (.ret e)) Dn σ H) : tRet (tE K cf (ev gv cl e)) Dn σ H := by
  obtain ⟨ι0, F0, B, ι, F, δ, S, o, st, G, L, q, k⟩ := h
  simp only [exc] at q
  split at q
  · rename_i d S1 ea
    cases q
    exact ⟨ι, F, B, δ, S, _, _, G, L, ea, fun v ι1 F1 H1 s1 G1 r1 => k _ _ _ _ (st.trans s1) G1 r1⟩
  · cases q
theorem tS_retn (h : tS K cf (exc gv cl .retn) Dn σ H) : tRetN Dn σ H := by
  obtain ⟨ι0, F0, B, ι, F, δ, S, o, st, G, L, q, k⟩ := h
  simp only [exc] at q
  cases q
  exact k _ _ _ _ st G .non
theorem tS_brk (h : tS K cf (exc gv cl .brk) Dn σ H) : tBreak Dn σ H := by
  obtain ⟨ι0, F0, B, ι, F, δ, S, o, st, G, L, q, k⟩ := h
  simp only [exc] at q
  cases q
  exact k _ _ _ _ st G L
theorem tS_cnt (h : tS K cf (exc gv cl .cnt) Dn σ H) : tCont Dn σ H := by
  obtain ⟨ι0, F0, B, ι, F, δ, S, o, st, G, L, q, k⟩ := h
  simp only [exc] at q
  cases q
  exact k _ _ _ _ st G L
theorem tS_pas (h : tS K cf (exc gv cl .pas) Dn σ H) : tNext Dn σ H := by
  obtain ⟨ι0, F0, B, ι, F, δ, S, o, st, G, L, q, k⟩ := h
  simp only [exc] at q
  cases q
  exact k _ _ _ _ st G L
theorem tS_expr {e : E} (h : tS K cf (exc gv cl (.expr e)) Dn σ H) : tDrop (tE K cf (ev gv cl e)) Dn σ H := by
  obtain ⟨ι0, F0, B, ι, F, δ, S, o, st, G, L, q, k⟩ := h
  simp only [exc] at q
  split at q
  · rename_i d S1 ea
    cases q
    exact ⟨ι, F, B, δ, S, _, _, G, L, ea, fun v ι1 F1 H1 s1 G1 r1 => k _ _ _ _ (st.trans s1) G1 (L.step s1)⟩
  · cases q
theorem tS_rais (h : tS K cf (exc gv cl .rais) Dn σ H) : tNever Dn σ H := by
  obtain ⟨ι0, F0, B, ι, F, δ, S, o, st, G, L, q, k⟩ := h
  simp only [exc] at q
  cases q
/-- the base moved forward -/
theorem Stp.rebase {ι0 ι1 : List Addr} {F0 F1 B H1 : Hp} (a : Stp ι0 F0 B ι1 F1 H1) : Stp ι1 F1 B ι1 F1 H1 :=
  ⟨⟨[], by simp⟩, fun _ _ h => h, fun _ _ h => .inl h, fun _ h => .inl h, fun x o h hn => a.fr x o h fun hm => hn (by obtain ⟨t, rfl⟩ := a.io; exact List.mem_append_left _ hm), a.dm⟩
theorem Stp.over {ι0 ι1 ι2 : List Addr} {F0 F1 F2 B H1 H2 : Hp} (a : Stp ι0 F0 B ι1 F1 H1) (b : Stp ι1 F1 B ι2 F2 H2) : Stp ι0 F0 B ι2 F2 H2 := by
  obtain ⟨t, ht⟩ := a.io
  obtain ⟨u, hu⟩ := b.io
  refine ⟨⟨t ++ u, by rw [hu, ht, List.append_assoc]⟩, fun x o h => b.fm x o (a.fm x o h), fun x o h => ?_, fun x h => ?_, fun x o h hn => ?_, b.dm⟩
  · rcases b.fn x o h with z | z
    · exact a.fn x o z
    · exact .inr z
  · rcases b.nw x h with z | z
    · exact a.nw x z
    · exact .inr z
  · refine b.fr x o h fun hm => ?_
    rcases a.nw x hm with z | z
    · exact hn z
    · rw [h] at z; cases z
theorem OK.over {ι0 ι1 : List Addr} {F0 F1 B H1 : Hp} {Dn : Ends} {o : Out} (a : Stp ι0 F0 B ι1 F1 H1) (k : OK K cf ι0 F0 B Dn o) : OK K cf ι1 F1 B Dn o := by
  cases o with
  | nx δ S => exact fun σ' ι' F' H' st => k σ' ι' F' H' (a.over st)
  | rt d S => exact fun σ' ι' F' H' st => k σ' ι' F' H' (a.over st)
  | bk δ S => exact fun σ' ι' F' H' st => k σ' ι' F' H' (a.over st)
  | ct δ S => exact fun σ' ι' F' H' st => k σ' ι' F' H' (a.over st)
/-- in a for, ahead of turn i -/
def FrI (K : PySem.W.Frag) (cf : Nat → Option Addr) (go : List D → Env → Store → Option Out) (ds : List D) (o : Out) (ι1 : List Addr) (F1 B : Hp) (i : Nat) (σ : L2.St) (H : Hp) : Prop :=
  i ≤ ds.length ∧ ∃ ι F δ S, Stp ι1 F1 B ι F H ∧ Gd K cf S ι F H ∧ Slt K cf ι F H B δ σ ∧ go (ds.drop i) δ S = some o
theorem tS_fors {tg : Tg} {src : Sr} {body : Ss} (h : tS K cf (exc gv cl (.fors tg src body)) Dn σ H) : tFor (tI K cf (evr gv cl src)) (tG K tg) (tS K cf (excs gv cl body)) Dn σ H := by
  obtain ⟨ι0, F0, B, ι, F, δ, S, o, st, G, L, q, k⟩ := h
  simp only [exc] at q
  split at q
  · rename_i ds S1 ea
    refine ⟨ι, F, B, δ, S, ds, S1, G, L, ea, fun J ι1 F1 H1 s1 G1 wk hz => ?_⟩
    have stb := st.trans s1
    have kb := k.over stb
    generalize hgo : forGo (excs gv cl body) tg = go at q
    refine ⟨fun i m σ' H' => m = ds.length - i ∧ FrI K cf go ds o ι1 F1 B i σ' H', ⟨ds.length, rfl, Nat.zero_le _, ι1, F1, δ, S1, stb.rebase, G1, L.step s1, by rw [List.drop_zero]; exact q⟩, ?_⟩
    rintro i m σ' H' ⟨rfl, hi, ι2, F2, δ2, S2, st2, G2, L2, hg⟩
    have W := wk i ι2 F2 S2 H' st2.io st2.fm G2
    by_cases hlt : i < ds.length
    · obtain ⟨gon, yl⟩ := W.1 _ (List.getElem?_eq_getElem hlt)
      rw [List.drop_eq_getElem_cons hlt, ← hgo] at hg
      refine .inr ⟨gon, FrI K cf go ds o ι1 F1 B (i + 1), fun σ3 H3 z => ⟨_, by omega, rfl, z⟩, fun x H3 y => ?_⟩
      obtain ⟨F3, st3, G3, rx⟩ := yl x H3 y
      simp only [forGo] at hg
      split at hg
      · cases hg
      · rename_i δ3 eas
        refine tG_go (σ0 := σ') G3 eas rx (L2.step st3) (off_refl _ _) fun σ4 L4 _ => ?_
        split at hg
        · cases hg
        · rename_i δ5 S5 e5
          refine ⟨ι1, F1, B, ι2, F3, δ3, S2, _, st2.trans st3, G3, L4, e5, fun σ6 ι6 F6 H6 st6 G6 L6 => ?_⟩
          rw [hgo] at hg
          exact ⟨hlt, ι6, F6, δ5, S5, st6, G6, L6, hg⟩
        · rename_i δ5 S5 e5
          refine ⟨ι1, F1, B, ι2, F3, δ3, S2, _, st2.trans st3, G3, L4, e5, fun σ6 ι6 F6 H6 st6 G6 L6 => ?_⟩
          rw [hgo] at hg
          exact ⟨hlt, ι6, F6, δ5, S5, st6, G6, L6, hg⟩
        · rename_i δ5 S5 e5
          cases hg
          exact ⟨ι1, F1, B, ι2, F3, δ3, S2, _, st2.trans st3, G3, L4, e5, kb⟩
        · rename_i d5 S5 e5
          cases hg
          exact ⟨ι1, F1, B, ι2, F3, δ3, S2, _, st2.trans st3, G3, L4, e5, kb⟩
    · have e : i = ds.length := by omega
      subst e
      refine .inl ⟨W.2 rfl, ?_⟩
      rw [List.drop_length, ← hgo] at hg
      simp only [forGo] at hg
      cases hg
      exact kb _ _ _ _ st2 G2 L2
  · cases q
theorem tS_whil {c : E} {body : Ss} (h : tS K cf (exc gv cl (.whil c body)) Dn σ H) : tWhile (tT K cf (ev gv cl c)) (tS K cf (excs gv cl body)) Dn σ H := by
  obtain ⟨ι0, F0, B, ι, F, δ, S, o, st, G, L, q, k⟩ := h
  simp only [exc] at q
  refine ⟨fun m σ' H' => ∃ ι F δ S, Stp ι0 F0 B ι F H' ∧ Gd K cf S ι F H' ∧ Slt K cf ι F H' B δ σ' ∧ whGo (ev gv cl c) (excs gv cl body) m δ S = some o, ⟨turns, ι, F, δ, S, st, G, L, q⟩, ?_⟩
  rintro m σ' H' ⟨ι1, F1, δ1, S1, st1, G1, L1, hg⟩
  cases m with
  | zero => simp only [whGo] at hg; cases hg
  | succ m =>
    simp only [whGo] at hg
    split at hg
    · rename_i S2 ec
      refine ⟨ι1, F1, B, δ1, S1, _, _, G1, L1, ec, fun ι2 F2 H2 s2 G2 => ?_⟩
      refine iteT ⟨fun σ3 H3 => ∃ ι F δ S, Stp ι0 F0 B ι F H3 ∧ Gd K cf S ι F H3 ∧ Slt K cf ι F H3 B δ σ3 ∧ whGo (ev gv cl c) (excs gv cl body) m δ S = some o, fun σ3 H3 z => ⟨m, Nat.lt_succ_self _, z⟩, ?_⟩
      split at hg
      · cases hg
      · rename_i δ5 S5 e5
        exact ⟨ι0, F0, B, ι2, F2, δ1, S2, _, st1.trans s2, G2, L1.step s2, e5, fun σ6 ι6 F6 H6 st6 G6 L6 => ⟨ι6, F6, δ5, S5, st6, G6, L6, hg⟩⟩
      · rename_i δ5 S5 e5
        exact ⟨ι0, F0, B, ι2, F2, δ1, S2, _, st1.trans s2, G2, L1.step s2, e5, fun σ6 ι6 F6 H6 st6 G6 L6 => ⟨ι6, F6, δ5, S5, st6, G6, L6, hg⟩⟩
      · rename_i δ5 S5 e5
        cases hg
        exact ⟨ι0, F0, B, ι2, F2, δ1, S2, _, st1.trans s2, G2, L1.step s2, e5, k⟩
      · rename_i d5 S5 e5
        cases hg
        exact ⟨ι0, F0, B, ι2, F2, δ1, S2, _, st1.trans s2, G2, L1.step s2, e5, k⟩
    · rename_i S2 ec
      cases hg
      refine ⟨ι1, F1, B, δ1, S1, _, _, G1, L1, ec, fun ι2 F2 H2 s2 G2 => ?_⟩
      exact iteF (k _ _ _ _ (st1.trans s2) G2 (L1.step s2))
    · cases hg
end
end MP

/-! MPO: soundness of the mirror of statements. -/
namespace MP
open PySem L2

structure Cxs (L : Lnk) (cf : Nat → Option Addr) (cl : CallT) (n : Nat) (X : Cx) : Prop extends Cxt L cf cl n X where
  hp : PassesOwn (model X.prog X.w) X.A X.env X.xe
  fn : X.fn = fun _ => true
  kind : X.env.scope.kind = .function
section
variable {L : Lnk} {cf : Nat → Option Addr} {cl : CallT} {n : Nat} {X : Cx}
theorem swaps_plain {v : Expr} {t : Option Expr} {l : Nat} {env : PySem.Env} (h : notComp v = true) : swapsWith v t l env = pure false := by
  cases v <;> first | rfl | cases h
theorem bk_of {env : PySem.Env} (h : env.scope.kind = .function) : env.blockKind = .function := by
  unfold Env.blockKind; rw [h]; rfl
theorem swaps_lc {elt : Expr} {gs : List Comprehension} {scope : Scope} {pos py : Pos} {y : Str} {l : Nat} {env : PySem.Env} : swapsWith (.ListComp elt gs scope pos) (some (.Name y py)) l env =
    pure (env.blockKind == .function && env.kindOf y == some .local && py.line == pos.line && !(scope.names.any fun (n, k) => n == y && (k == .local || k == .cell))) := rfl
theorem sole_tup {ts : List Expr} {k : Nat} {p : Pos} {v : Expr} {l : Nat} {env : PySem.Env} : swapsWithSole [.Tuple ts k p] v l env = pure false := by
  cases v <;> rfl
theorem sole_sub {o i : Expr} {p : Pos} {v : Expr} {l : Nat} {env : PySem.Env} : swapsWithSole [.Subscript o i p] v l env = pure false := by
  cases v <;> rfl
theorem stores_sub {o i : Expr} {p : Pos} {v : Expr} {env : PySem.Env} : swappedStores [.Subscript o i p] v env = pure none := by
  cases v <;> rfl
theorem names_eq {env : PySem.Env} {line : Nat} (ts : List Expr) : (ts.filterMap fun
    | .Name id pos => if env.kindOf id == some .local && pos.line == line then some id else none
    | _ => none) = namesOf env.scope line ts := rfl
theorem stores_unp {ts : List Expr} {k : Nat} {p : Pos} {v : Expr} {env : PySem.Env} (hk : env.scope.kind = .function) (h : unpB env.scope ts v = true) : swappedStores [.Tuple ts k p] v env = pure none := by
  cases v <;> first | rfl | skip
  rename_i vs k2 p2
  simp only [unpB, Bool.or_eq_true] at h
  have hb := bk_of hk
  show (do
    if !(ts.length == 2 || ts.length == 3) || vs.length != ts.length || env.blockKind != .function then return none
    if vs.any fun | .Starred .. => true | _ => false then return none
    let line := (ts.head?.map (·.pos.line)).getD 0
    let names := namesOf env.scope line ts
    if names.length != ts.length || names.eraseDups.length != names.length then return none
    if vs.all (foldedForSure 8) then return none
    if vs.all (constantsAlone 8) then unsupported "assign.tuple-of-constant-expressions:order-of-the-stores"
    return some names : Sem (Option (List Str))) = pure none
  by_cases h1 : (!(ts.length == 2 || ts.length == 3) || vs.length != ts.length || env.blockKind != .function) = true
  · rw [if_pos h1]
  · rw [if_neg h1]
    by_cases h2 : (vs.any fun | .Starred .. => true | _ => false) = true
    · simp only [h2, if_true]
    · rw [if_neg h2]
      have h3 : ((namesOf env.scope ((ts.head?.map (·.pos.line)).getD 0) ts).length != ts.length) = true := by
        rcases h with (h | h) | h
        · exact absurd (by simp only [Bool.or_eq_true]; exact .inl (.inl h)) h1
        · exact absurd (by simp only [Bool.or_eq_true]; exact .inl (.inr h)) h1
        · exact h
      simp only [h3, Bool.true_or, if_true]
theorem stores_par {x y : Str} {px py pt : Pos} {kt k2 : Nat} {pt2 : Pos} {v w : Expr} {env : PySem.Env} (hk : env.scope.kind = .function) (nv : notStar v = true) (nw : notStar w = true) (h : parB env.scope (.Name x px) (.Name y py) v w = true) :
    swappedStores [.Tuple [.Name x px, .Name y py] kt pt] (.Tuple [v, w] k2 pt2) env = pure (some [x, y]) := by
  simp only [parB, Bool.and_eq_true, decide_eq_true_eq, Bool.not_eq_true', beq_iff_eq] at h
  obtain ⟨⟨⟨⟨⟨hx, hy⟩, hl⟩, hne⟩, hf⟩, hc⟩ := h
  have hb := bk_of hk
  have kx : env.kindOf x = some .local := hx
  have ky : env.kindOf y = some .local := hy
  have q : ∀ f : Expr → Bool, (∀ u, notStar u = true → f u = false) → [v, w].any f = false := fun f hf => by
    simp only [List.any_cons, List.any_nil, hf v nv, hf w nw, Bool.or_self]
  have hf2 : [v, w].all (foldedForSure 8) = false := by simpa using hf
  have hc2 : [v, w].all (constantsAlone 8) = false := by simpa using hc
  unfold swappedStores
  simp only [hb, hf2, hc2, kx, ky, List.length_cons, List.length_nil, List.head?_cons, Option.map_some, Option.getD_some, Expr.pos, List.filterMap_cons, List.filterMap_nil, beq_self_eq_true, hl, Bool.and_self, if_true]
  have he : ([x, y] : List Str).eraseDups = [x, y] := by
    have : (y == x) = false := by simpa using fun e => hne e.symm
    simp [List.eraseDups_cons, this]
  simp only [he]
  rw [q _ (fun u hu => by cases u <;> first | rfl | cases hu)]
  rfl
theorem sN {e : E} {x : Expr} (C : Cxt L cf cl n X) (hl : isLst e = true) (nc : notComp x = true) (h : mE L X.N X.env.scope e x = true) : PE X x (tN X.K cf (ev L.gv cl e)) := by
  cases e <;> simp only [isLst, Bool.false_eq_true] at hl
  case lst es =>
    obtain ⟨xs, p, rfl, h', hl'⟩ := i_lst h
    exact ((pe_lst (sA es xs C h')).imp fun _ _ _ => tN_lst hl')
  case op o a b =>
    cases o <;> simp only [Bool.false_eq_true] at hl
    rcases i_op h with ⟨l, op, r, p, rfl, ho, ha, hb⟩ | ⟨l, c, r, p, rfl, ho, ha, hb, ns⟩
    · simp only [o2bin, Option.some.injEq] at ho
      subst ho
      exact ((pe_op op_cat (sB a l C ha).1 (sB b r C hb).1).imp fun _ _ _ => tN_add)
    · simp only [o2cmp, reduceCtorEq] at ho
  case b1 f a =>
    cases f <;> simp only [Bool.false_eq_true] at hl
    obtain ⟨y, p, z, p2, rfl, hb, ha⟩ := i_b1 h
    obtain ⟨rfl, hg, hd, hm⟩ := blt_of C hb
    exact ((pe_callTy (p := p) (pos := p2) call_list_of hg hm (boot_b1 .list) (pac (ns_of ha) (sB a z C ha).1 pa_nil) (b1_nn .list) hd (starEach_ns (ns_of ha)) rfl).imp fun _ _ _ => tN_list)
  case lc elt tg src cond =>
    obtain ⟨y, t, it, ifs, scope, p, rfl, _⟩ := i_lc h
    cases nc
end
end MP

/-! MPP: soundness of the mirror of statements: the induction; defs. -/
namespace MP
open PySem L2
section
variable {L : Lnk} {cf : Nat → Option Addr} {cl : CallT} {n : Nat} {N : List Str} {sc : Scope} {x : Stmt}
theorem j_set {i : Nat} {e : E} (h : mS L N sc (.set i e) x = true) : ∃ y py v p, x = .Assign [.Name y py] v p ∧ tgNmB N sc (fun _ => true) i y = true ∧ mE L N sc e v = true ∧ (swapB sc y py v).isSome = true := by
  unfold mS at h; split at h
  all_goals first | (rename_i q; cases q; done) | (exact Bool.noConfusion h) | skip
  all_goals (rename_i q; cases q; simp only [Bool.and_eq_true] at h; refine ⟨_, _, _, _, rfl, h.1.1, h.1.2, ?_⟩; obtain ⟨h1, h2⟩ := h; split at h2; (rename_i z; rw [z]; rfl); exact Bool.noConfusion h2)
theorem j_own {i : Nat} {e : E} (h : mS L N sc (.own i e) x = true) : ∃ y py v p, x = .Assign [.Name y py] v p ∧ tgNmB N sc (fun _ => true) i y = true ∧ mE L N sc e v = true ∧ (swapB sc y py v).isSome = true ∧ isLst e = true := by
  unfold mS at h; split at h
  all_goals first | (rename_i q; cases q; done) | (exact Bool.noConfusion h) | skip
  all_goals (rename_i q; cases q; simp only [Bool.and_eq_true] at h; refine ⟨_, _, _, _, rfl, h.1.1.1, h.1.1.2, ?_, h.2⟩; obtain ⟨⟨h1, h2⟩, h3⟩ := h; split at h2; (rename_i z; rw [z]; rfl); exact Bool.noConfusion h2)
theorem j_unp {is : List Nat} {e : E} (h : mS L N sc (.unp is e) x = true) : ∃ ts k p v p2, x = .Assign [.Tuple ts k p] v p2 ∧ tgNmsB N sc (fun _ => true) ts is = true ∧ mE L N sc e v = true ∧ unpB sc ts v = true := by
  unfold mS at h; split at h
  all_goals first | (rename_i q; cases q; done) | (exact Bool.noConfusion h) | skip
  all_goals (rename_i q; cases q; simp only [Bool.and_eq_true] at h; exact ⟨_, _, _, _, _, rfl, h.1.1, h.1.2, h.2⟩)
theorem j_unp2 {i : Nat} {js : List Nat} {e : E} (h : mS L N sc (.unp2 i js e) x = true) : ∃ y py ts k p k2 p2 v p3, x = .Assign [.Tuple [.Name y py, .Tuple ts k p] k2 p2] v p3 ∧ tgNmB N sc (fun _ => true) i y = true ∧ tgNmsB N sc (fun _ => true) ts js = true ∧ mE L N sc e v = true ∧ unpB sc [.Name y py, .Tuple ts k p] v = true := by
  unfold mS at h; split at h
  all_goals first | (rename_i q; cases q; done) | (exact Bool.noConfusion h) | skip
  all_goals (rename_i q; cases q; simp only [Bool.and_eq_true] at h; exact ⟨_, _, _, _, _, _, _, _, _, rfl, h.1.1.1, h.1.1.2, h.1.2, h.2⟩)
theorem j_par {i j : Nat} {a b : E} (h : mS L N sc (.par i j a b) x = true) : ∃ t1 t2 k p v w k2 p2 p3, x = .Assign [.Tuple [t1, t2] k p] (.Tuple [v, w] k2 p2) p3 ∧ mS.tgNmB' N sc i t1 = true ∧ mS.tgNmB' N sc j t2 = true ∧ mE L N sc a v = true ∧ mE L N sc b w = true ∧ parB sc t1 t2 v w = true ∧ i ≠ j := by
  unfold mS at h; split at h
  all_goals first | (rename_i q; cases q; done) | (exact Bool.noConfusion h) | skip
  all_goals (rename_i q; cases q; simp only [Bool.and_eq_true, decide_eq_true_eq] at h; exact ⟨_, _, _, _, _, _, _, _, _, rfl, h.1.1.1.1.1, h.1.1.1.1.2, h.1.1.1.2, h.1.1.2, h.1.2, h.2⟩)
theorem j_app {i : Nat} {e : E} (h : mS L N sc (.app i e) x = true) : ∃ y p apos v p2 p3, x = .Expr (.Call (.Attribute (.Name y p) "append" apos) [v] [] p2) p3 ∧ nmB N sc i y = true ∧ mE L N sc e v = true ∧ (apos.endLine == p2.line) = true := by
  unfold mS at h; split at h
  all_goals first | (rename_i q; cases q; done) | (exact Bool.noConfusion h) | skip
  all_goals (rename_i q; cases q; simp only [Bool.and_eq_true, decide_eq_true_eq] at h; obtain ⟨⟨⟨rfl, h1⟩, h2⟩, h3⟩ := h; exact ⟨_, _, _, _, _, _, rfl, h1, h2, h3⟩)
theorem j_oset {i : Nat} {j e : E} (h : mS L N sc (.oset i j e) x = true) : ∃ y p z p2 v p3, x = .Assign [.Subscript (.Name y p) z p2] v p3 ∧ nmB N sc i y = true ∧ mE L N sc j z = true ∧ mE L N sc e v = true ∧ notSlice z = true := by
  unfold mS at h; split at h
  all_goals first | (rename_i q; cases q; done) | (exact Bool.noConfusion h) | skip
  all_goals (rename_i q; cases q; simp only [Bool.and_eq_true, decide_eq_true_eq] at h; exact ⟨_, _, _, _, _, _, rfl, h.1.1.1.1, h.1.1.1.2, h.1.1.2, h.1.2⟩)
theorem j_cset {a j e : E} (h : mS L N sc (.cset a j e) x = true) : ∃ y z p2 v p3, x = .Assign [.Subscript y z p2] v p3 ∧ mE L N sc a y = true ∧ mE L N sc j z = true ∧ mE L N sc e v = true ∧ notSlice z = true := by
  unfold mS at h; split at h
  all_goals first | (rename_i q; cases q; done) | (exact Bool.noConfusion h) | skip
  all_goals (rename_i q; cases q; simp only [Bool.and_eq_true, decide_eq_true_eq] at h; exact ⟨_, _, _, _, _, rfl, h.1.1.1.1, h.1.1.1.2, h.1.1.2, h.1.2⟩)
theorem j_ifs {c : E} {a b : Ss} (h : mS L N sc (.ifs c a b) x = true) : ∃ t xs ys p, x = .If t xs ys p ∧ mE L N sc c t = true ∧ notIf t = true ∧ mSs L N sc a xs = true ∧ mSs L N sc b ys = true := by
  unfold mS at h; split at h
  all_goals first | (rename_i q; cases q; done) | (exact Bool.noConfusion h) | skip
  all_goals (rename_i q; cases q; simp only [Bool.and_eq_true, decide_eq_true_eq] at h; exact ⟨_, _, _, _, rfl, h.1.1.1, h.1.1.2, h.1.2, h.2⟩)
theorem j_fors {tg : Tg} {src : Sr} {b : Ss} (h : mS L N sc (.fors tg src b) x = true) : ∃ t it xs p, x = .For t it xs [] p ∧ mR L N sc src t it = true ∧ tgB N sc (fun _ => true) t tg = true ∧ mSs L N sc b xs = true ∧ notSet it = true := by
  unfold mS at h; split at h
  all_goals first | (rename_i q; cases q; done) | (exact Bool.noConfusion h) | skip
  all_goals (rename_i q; cases q; simp only [Bool.and_eq_true, decide_eq_true_eq] at h; exact ⟨_, _, _, _, rfl, h.1.1.1, h.1.1.2, h.1.2, h.2⟩)
theorem j_whil {c : E} {b : Ss} (h : mS L N sc (.whil c b) x = true) : ∃ t xs p, x = .While t xs [] p ∧ mE L N sc c t = true ∧ notIf t = true ∧ mSs L N sc b xs = true := by
  unfold mS at h; split at h
  all_goals first | (rename_i q; cases q; done) | (exact Bool.noConfusion h) | skip
  all_goals (rename_i q; cases q; simp only [Bool.and_eq_true, decide_eq_true_eq] at h; exact ⟨_, _, _, rfl, h.1.1, h.1.2, h.2⟩)
theorem j_ret {e : E} (h : mS L N sc (.ret e) x = true) : ∃ v p, x = .Return (some v) p ∧ mE L N sc e v = true := by
  unfold mS at h; split at h
  all_goals first | (rename_i q; cases q; done) | (exact Bool.noConfusion h) | skip
  all_goals (rename_i q; cases q; exact ⟨_, _, rfl, h⟩)
theorem j_retn (h : mS L N sc .retn x = true) : ∃ p, x = .Return none p := by
  unfold mS at h; split at h
  all_goals first | (rename_i q; cases q; done) | (exact Bool.noConfusion h) | skip
  all_goals exact ⟨_, rfl⟩
theorem j_brk (h : mS L N sc .brk x = true) : ∃ p, x = .Break p := by
  unfold mS at h; split at h
  all_goals first | (rename_i q; cases q; done) | (exact Bool.noConfusion h) | skip
  all_goals exact ⟨_, rfl⟩
theorem j_cnt (h : mS L N sc .cnt x = true) : ∃ p, x = .Continue p := by
  unfold mS at h; split at h
  all_goals first | (rename_i q; cases q; done) | (exact Bool.noConfusion h) | skip
  all_goals exact ⟨_, rfl⟩
theorem j_pas (h : mS L N sc .pas x = true) : ∃ p, x = .Pass p := by
  unfold mS at h; split at h
  all_goals first | (rename_i q; cases q; done) | (exact Bool.noConfusion h) | skip
  all_goals exact ⟨_, rfl⟩
theorem j_expr {e : E} (h : mS L N sc (.expr e) x = true) : ∃ v p, x = .Expr v p ∧ mE L N sc e v = true ∧ notComp v = true := by
  unfold mS at h; split at h
  all_goals first | (rename_i q; cases q; done) | (exact Bool.noConfusion h) | skip
  all_goals (rename_i q; cases q; simp only [Bool.and_eq_true] at h; exact ⟨_, _, rfl, h⟩)
theorem tgloc {X : Cx} (C : Cxs L cf cl n X) {i : Nat} {y : Str} (h : tgNmB X.N X.env.scope (fun _ => true) i y = true) : X.N[i]? = some y ∧ Loc X.env.scope y := by
  simp only [tgNmB, Bool.and_eq_true, Bool.or_eq_true, decide_eq_true_eq, and_true] at h
  exact ⟨h.1, h.2⟩
theorem notComp_swap {y : Str} {py : Pos} {v : Expr} (h : (swapB sc y py v).isSome = true) : notComp v = true ∨ ∃ e g s p, v = .ListComp e g s p := by
  cases v <;> first | exact .inl rfl | exact .inr ⟨_, _, _, _, rfl⟩ | cases h
/-- y = [.. for ..] -/
theorem ps_lc {X : Cx} (C : Cxs L cf cl n X) {elt : E} {tg : Tg} {src : Sr} {cond : Es} {y : Str} {py spos : Pos} {i : Nat} {v : Expr} (ht : tgNmB X.N X.env.scope (fun _ => true) i y = true) (h : mE L X.N X.env.scope (.lc elt tg src cond) v = true) :
    PS X (.Assign [.Name y py] v spos) (tAsg (tLc (tI X.K cf (evr L.gv cl src)) (tG X.K tg) (tCond X.K cf L.gv cl cond) (tE X.K cf (ev L.gv cl elt)) tg.slots) (gName i)) := by
  obtain ⟨z, t, it, ifs, scope, p, rfl, hr, hb, ho, htg, he, hc, hs⟩ := i_lc h
  obtain ⟨hi, hl⟩ := tgloc C ht
  have c := C.toCxt
  have hset : ∀ v, foldedSetIterable it X.env v = pure v := fun v => by cases it <;> first | rfl | cases hs
  rw [← ho]
  cases hsw : (X.env.blockKind == .function && X.env.kindOf y == some .local && py.line == p.line && !(scope.names.any fun (n, k) => n == y && (k == .local || k == .cell))) with
  | true =>
    have hy : X.env.scope.names.lookup y = some .local := by
      simp only [Bool.and_eq_true, beq_iff_eq] at hsw
      exact hsw.1.1.2
    refine ps_setLc c.calm c.nd hi hy (by rw [swaps_lc, hsw]) (sR src it c hr) (blkOk_by hb) (fun s H q cl' fp => ?_) (fun s H q cl' fp => ?_) (fun s H q cl' fp => ?_) hset
    · exact pg_tg (c.blk s H scope _ fp) rfl rfl rfl htg
    · exact sC cond ifs (c.blk s H scope _ fp) hc
    · exact (sB elt z (c.blk s H scope _ fp) he).1
  | false =>
    refine ps_set c.nd hi hl ?_ (by rw [swaps_lc, hsw]) (.inl (by rw [C.fn]))
    refine pe_lc c.calm c.nd (sR src it c hr) (blkOk_by hb) (fun s H q cl' fp => ?_) (fun s H q cl' fp => ?_) (fun s H q cl' fp => ?_) hset
    · exact pg_tg (c.blk s H scope _ fp) rfl rfl rfl htg
    · exact sC cond ifs (c.blk s H scope _ fp) hc
    · exact (sB elt z (c.blk s H scope _ fp) he).1

mutual
theorem sS : ∀ (s : Sm) {X : Cx} (x : Stmt), Cxs L cf cl n X → mS L X.N X.env.scope s x = true → PS X x (tS X.K cf (exc L.gv cl s))
  | .set i e, X, x, C, h => by
    obtain ⟨y, py, v, p, rfl, ht, he, hs⟩ := j_set h
    obtain ⟨hi, hl⟩ := tgloc C ht
    rcases notComp_swap hs with nc | ⟨e', g, s', p', rfl⟩
    · exact (ps_set C.nd hi hl (sB e v C.toCxt he).1 (swaps_plain nc) (.inl (by rw [C.fn]))).imp fun _ _ _ => tS_set
    · have : ∃ elt tg src cond, e = .lc elt tg src cond := by
        cases e <;> first | exact ⟨_, _, _, _, rfl⟩ | (simp [mE] at he; done)
      obtain ⟨elt, tg, src, cond, rfl⟩ := this
      exact (ps_lc C ht he).imp fun _ _ _ q => tE_lc (tS_set q)
  | .own i e, X, x, C, h => by
    obtain ⟨y, py, v, p, rfl, ht, he, hs, hl'⟩ := j_own h
    obtain ⟨hi, hl⟩ := tgloc C ht
    rcases notComp_swap hs with nc | ⟨e', g, s', p', rfl⟩
    · exact (ps_set C.nd hi hl (sN C.toCxt hl' nc he) (swaps_plain nc) (.inl (by rw [C.fn]))).imp fun _ _ _ => tS_own
    · have : ∃ elt tg src cond, e = .lc elt tg src cond := by
        cases e <;> first | exact ⟨_, _, _, _, rfl⟩ | (simp [mE] at he; done)
      obtain ⟨elt, tg, src, cond, rfl⟩ := this
      exact (ps_lc C ht he).imp fun _ _ _ q => tN_lc (tS_own q)
  | .frz i, X, x, C, h => by unfold mS at h; cases h
  | .unp is e, X, x, C, h => by
    obtain ⟨ts, k, p, v, p2, rfl, ht, he, hu⟩ := j_unp h
    obtain ⟨q1, q2, q3⟩ := pgs_nms C.nd rfl rfl C.fn ht
    exact (ps_asg (sB e v C.toCxt he).1 (pg_tup C.calm q1 q2 q3) sole_tup (stores_unp C.kind hu) rfl).imp fun _ _ _ => tS_unp
  | .unp2 i js e, X, x, C, h => by
    obtain ⟨y, py, ts, k, p, k2, p2, v, p3, rfl, hy, ht, he, hu⟩ := j_unp2 h
    obtain ⟨q1, q2, q3⟩ := pgs_nms C.nd rfl rfl C.fn ht
    exact (ps_asg (sB e v C.toCxt he).1 (pg_tup C.calm (pgs_cons (pg_nm C.nd rfl rfl C.fn hy) (pgs_cons (pg_tup C.calm q1 q2 q3) pgs_nil rfl) rfl) rfl rfl) sole_tup (stores_unp C.kind hu) rfl).imp fun _ _ _ => tS_unp2
  | .par i j a b, X, x, C, h => by
    obtain ⟨t1, t2, k, p, v, w, k2, p2, p3, rfl, h1, h2, ha, hb, hp, hij⟩ := j_par h
    cases t1 <;> simp only [mS.tgNmB', Bool.false_eq_true] at h1
    cases t2 <;> simp only [mS.tgNmB', Bool.false_eq_true] at h2
    have hp' := hp
    simp only [parB, Bool.and_eq_true, decide_eq_true_eq] at hp'
    exact (ps_par C.calm C.nd (tgloc C h1).1 (tgloc C h2).1 hij hp'.1.1.1.1.1 hp'.1.1.1.1.2 (pac (ns_of ha) (sB a v C.toCxt ha).1 (pac (ns_of hb) (sB b w C.toCxt hb).1 pa_nil)) (stores_par C.kind (ns_of ha) (ns_of hb) hp) sole_tup).imp fun _ _ _ => tS_par
  | .app i e, X, x, C, h => by
    obtain ⟨y, p, apos, v, p2, p3, rfl, hn, he, hl⟩ := j_app h
    obtain ⟨q1, q2, q3, q4⟩ := nm_of hn
    have ns := ns_of he
    exact (ps_expr (pe_bm PySem.F.plainAttrs_list PySem.F.slot_list_append PySem.F.type_list_append mt_append (pe_var (pos := p) q1 q2 q3 q4) (pac ns (sB e v C.toCxt he).1 pa_nil) rfl (by rw [starEach_ns ns]; rfl) hl (starEach_ns ns) rfl) rfl).imp fun _ _ _ => tS_app
  | .oset i j e, X, x, C, h => by
    obtain ⟨y, p, z, p2, v, p3, rfl, hn, hj, he, ns⟩ := j_oset h
    obtain ⟨q1, q2, q3, q4⟩ := nm_of hn
    exact (ps_asg (sB e v C.toCxt he).1 (pg_sub (pe_var (pos := p) q1 q2 q3 q4) (sB j z C.toCxt hj).1 set_list (fun v => by cases z <;> first | rfl | cases ns)) sole_sub stores_sub rfl).imp fun _ _ _ => tS_oset
  | .cset a j e, X, x, C, h => by
    obtain ⟨y, z, p2, v, p3, rfl, ha, hj, he, ns⟩ := j_cset h
    exact (ps_asg (sB e v C.toCxt he).1 (pg_sub (sB a y C.toCxt ha).1 (sB j z C.toCxt hj).1 set_list (fun v => by cases z <;> first | rfl | cases ns)) sole_sub stores_sub rfl).imp fun _ _ _ => tS_cset
  | .ifs c a b, X, x, C, h => by
    obtain ⟨t, xs, ys, p, rfl, hc, hi, ha, hb⟩ := j_ifs h
    exact (ps_if ((sB c t C.toCxt hc).2 hi) (sSs a xs C ha) (sSs b ys C hb)).imp fun _ _ _ => tS_ifs
  | .fors tg src body, X, x, C, h => by
    obtain ⟨t, it, xs, p, rfl, hr, ht, hb, hs⟩ := j_fors h
    exact (ps_for C.hp C.calm (sR src it C.toCxt hr) (pg_tg C.toCxt rfl rfl C.fn ht) (sSs body xs C hb) (fun v => by cases it <;> first | rfl | cases hs)).imp fun _ _ _ => tS_fors
  | .whil c body, X, x, C, h => by
    obtain ⟨t, xs, p, rfl, hc, hi, hb⟩ := j_whil h
    exact (ps_while C.hp ((sB c t C.toCxt hc).2 hi) (sSs body xs C hb)).imp fun _ _ _ => tS_whil
  | .ret e, X, x, C, h => by
    obtain ⟨v, p, rfl, he⟩ := j_ret h
    exact (ps_ret (sB e v C.toCxt he).1).imp fun _ _ _ => tS_ret
  | .retn, X, x, C, h => by
    obtain ⟨p, rfl⟩ := j_retn h
    exact ps_retN.imp fun _ _ _ => tS_retn
  | .brk, X, x, C, h => by
    obtain ⟨p, rfl⟩ := j_brk h
    exact ps_break.imp fun _ _ _ => tS_brk
  | .cnt, X, x, C, h => by
    obtain ⟨p, rfl⟩ := j_cnt h
    exact ps_continue.imp fun _ _ _ => tS_cnt
  | .pas, X, x, C, h => by
    obtain ⟨p, rfl⟩ := j_pas h
    exact ps_pass.imp fun _ _ _ => tS_pas
  | .expr e, X, x, C, h => by
    obtain ⟨v, p, rfl, he, nc⟩ := j_expr h
    exact (ps_expr (sB e v C.toCxt he).1 (swaps_plain nc)).imp fun _ _ _ => tS_expr
  | .rais, X, x, C, h => ps_never.imp fun _ _ _ => tS_rais
theorem sSs : ∀ (ss : Ss) {X : Cx} (xs : List Stmt), Cxs L cf cl n X → mSs L X.N X.env.scope ss xs = true → PSs X xs (tS X.K cf (excs L.gv cl ss))
  | .nil, X, [], C, h => pss_nil.imp fun _ _ _ => tS_nil
  | .nil, X, _ :: _, C, h => by simp [mSs] at h
  | .cons s r, X, xs, C, h => by
    unfold mSs at h
    split at h
    · rename_i q; cases q
    · rename_i q
      cases q
      exact (sSs r _ C h).imp fun _ _ _ => tS_frz
    · rename_i q
      cases q
      simp only [Bool.and_eq_true] at h
      exact (pss_cons (sS s _ C h.1) (sSs r _ C h.2)).imp fun _ _ _ => tS_cons
    · exact Bool.noConfusion h
end
end
end MP

/-! MPQ: defs, the table of a law. -/
namespace MP
open PySem L2

/-- a def of the text: its name, its number, its statement, its names (parameters first), how many parameters -/
structure Dd where
  f : Nat
  x : Str
  st : Stmt
  N : List Str
  np : Nat
  dfs : List Int := []
def Dd.ps (d : Dd) : List Str := d.N.take d.np
def nodupB : List Str → Bool
  | [] => true
  | x :: xs => !decide (x ∈ xs) && nodupB xs
theorem nodup_of : ∀ {xs : List Str}, nodupB xs = true → xs.Nodup
  | [], _ => List.nodup_nil
  | x :: xs, h => by
    simp only [nodupB, Bool.and_eq_true, Bool.not_eq_true', decide_eq_false_iff_not] at h
    exact List.nodup_cons.mpr ⟨h.1, nodup_of h.2⟩
def kindB (k : ScopeKind) : Bool := match k with
  | .function => true
  | _ => false
def parmB (sc : Scope) (x : Str) : Bool := match sc.names.lookup x with
  | some .local | some .cell => true
  | _ => false
def freeB : NameKind → Bool
  | .free => false
  | _ => true
def Dd.chk (L : Lnk) (d : Dd) (fd : Fd) : Bool :=
  kindB (defScope d.st).kind && !(defScope d.st).isCoroutine && !(defScope d.st).isGenerator && nodupB d.N && decide (d.np ≤ d.N.length) && d.ps.all (parmB (defScope d.st)) && (defScope d.st).names.all (fun y => freeB y.2) &&
    mSs L d.N (defScope d.st) fd.body (defBody d.st) && decide (fd.np = d.np) && decide (fd.nn = d.N.length)
section
variable {L : Lnk} {cf : Nat → Option Addr} {pr : Nat → Option Fd}
theorem Dd.scope {d : Dd} {fd : Fd} (h : d.chk L fd = true) : FnScope d.N d.ps (defScope d.st) ∧ mSs L d.N (defScope d.st) fd.body (defBody d.st) = true ∧ fd.np = d.ps.length ∧ fd.nn = d.N.length := by
  simp only [Dd.chk, Bool.and_eq_true, Bool.not_eq_true', decide_eq_true_eq, List.all_eq_true] at h
  obtain ⟨⟨⟨⟨⟨⟨⟨⟨⟨h1, h2⟩, h3⟩, h4⟩, h5⟩, h6⟩, h7⟩, h8⟩, h9⟩, h10⟩ := h
  have hl : d.ps.length = d.np := by unfold Dd.ps; rw [List.length_take]; omega
  refine ⟨⟨?_, h2, h3, nodup_of h4, ?_, fun x hx => ?_, fun y hy e => ?_⟩, h8, by rw [hl]; exact h9, h10⟩
  · cases e : (defScope d.st).kind <;> rw [e] at h1 <;> first | rfl | cases h1
  · rw [hl]; rfl
  · have := h6 x hx
    unfold parmB at this
    split at this
    · rename_i e; exact .inl e
    · rename_i e; exact .inr e
    · cases this
  · have := h7 y hy
    rw [e] at this
    cases this
/-- what stands behind the top: the def at its place -/
structure At (K : PySem.W.Frag) (mg : Str → Option Value) (cf : Nat → Option Addr) (d : Dd) (a : Addr) (fd : FuncData) : Prop where
  gl : mg d.x = some (.ref a)
  cf : cf d.f = some a
  fn : FunD K d.x d.x (defArgs d.st) (defBody d.st) (defScope d.st) (d.dfs.map V.int) [] a fd
  bs : Binds K fd d.ps []
  bd : d.dfs ≠ [] → ∃ dv, Vals (d.dfs.map V.int) dv ∧ Binds K fd d.ps dv
structure Linked (L : Lnk) (pr : Nat → Option Fd) (tab : List Dd) (w : World) (K : PySem.W.Frag) (mg : Str → Option Value) (cf : Nat → Option Addr) : Prop where
  defs : ∀ d, d ∈ tab → ∃ a fd, At K mg cf d a fd
  chk : ∀ d, d ∈ tab → ∃ fd, pr d.f = some fd ∧ d.chk L fd = true
  fns : ∀ f x, (f, x) ∈ L.fns → ∃ d, d ∈ tab ∧ d.f = f ∧ d.x = x ∧ ∀ ds, L.dfs.lookup f = some ds → d.dfs = ds ∧ ds ≠ []
  cfs : ∀ f a, cf f = some a → ∃ x, (f, x) ∈ L.fns
  gls : ∀ x d, L.gls.lookup x = some d → ∃ u v, mg x = some u ∧ RelV v u ∧ ∀ ι F, R K cf ι F d v
  blts : ∀ x, x ∈ L.blts → mg x = none
  tabs : ∀ x kvs, L.tabs.lookup x = some kvs → ∃ a es m, mg x = some (.ref a) ∧ KDict K w a es m ∧ ∀ z, (kvs.lookup z = none → PySem.W.nsIn K a z = some none) ∧ ∀ d, kvs.lookup z = some d → ∃ u v, PySem.W.nsIn K a z = some (some u) ∧ RelV v u ∧ ∀ ι F, R K cf ι F d v
theorem map_get {α β : Type} {f : α → β} {l : List α} {i : Nat} {y : β} (h : (l.map f)[i]? = some y) : ∃ x, l[i]? = some x ∧ y = f x := by
  rw [List.getElem?_map] at h
  cases e : l[i]? with
  | none => rw [e] at h; cases h
  | some x => rw [e] at h; cases h; exact ⟨x, rfl, rfl⟩
theorem slt_start {K : PySem.W.Frag} {ι : List Addr} {F H : Hp} {ds : List D} {vs : List V} {fd : Fd} {N : List Str} (r : RL K cf ι F ds vs) (hn : fd.nn = N.length) : Slt K cf ι F H H (envOf fd ds) (L2.start N vs) := by
  have hl := r.length
  have key : ∀ (i : Nat) (s : Sl), (envOf fd ds)[i]? = some s → (∃ d, s = .v d ∧ ds[i]? = some d) ∨ s = .no := fun i s h => by
    unfold envOf at h
    by_cases hi : i < ds.length
    · rw [List.getElem?_append_left (by simpa using hi)] at h
      obtain ⟨d, h1, h2⟩ := map_get h
      exact .inl ⟨d, h2, h1⟩
    · rw [List.getElem?_append_right (by simpa using hi), List.getElem?_replicate] at h
      split at h
      · cases h; exact .inr rfl
      · cases h
  refine ⟨?_, fun i d h => ?_, fun i es h => ?_, fun i j x y a h => ?_⟩
  · unfold L2.start envOf
    simp only [List.length_append, List.length_map, List.length_replicate]
    rw [hl, hn]
  · rcases key i _ h with ⟨d', e, h1⟩ | e
    · cases e
      obtain ⟨v, h2, h3⟩ := r.get h1
      refine ⟨v, ?_, h3⟩
      unfold L2.start
      rw [List.getElem?_append_left (by simpa using (List.getElem?_eq_some_iff.mp h2).1), List.getElem?_map, h2]
      rfl
    · cases e
  · rcases key i _ h with ⟨d', e, h1⟩ | e <;> cases e
  · rcases key i _ h with ⟨d', e, h1⟩ | e <;> cases e
theorem all_ok {tab : List Dd} {P : Program} {w : World} {K : PySem.W.Frag} {mg : Str → Option Value} {base : Heap} (Lk : Linked L pr tab w K mg cf) :
    ∀ (n : Nat) (d : Dd) (a : Addr) (fd : FuncData), d ∈ tab → At K mg cf d a fd → FnOk P w K mg base CX0 n a fd d.ps (spD K cf (ec L.gv pr n) d.f)
  | 0, d, a, fd, hd, hA => by
    have no : ∀ vs H Q E, ¬ spD K cf (ec L.gv pr 0) d.f vs H Q E := fun vs H Q E h => by
      obtain ⟨ι, F, S, ds, r, S', _, _, e, _⟩ := h
      simp only [ec] at e
      cases e
    exact ⟨fun vs H Q E h => absurd h (no vs H Q E), fun A outer s H args us vs Q E _ _ _ _ h => absurd h (no vs H Q E)⟩
  | n + 1, d, a, fd, hd, hA => by
    obtain ⟨fm, hpr, hck⟩ := Lk.chk d hd
    obtain ⟨sc, hm, hnp, hnn⟩ := Dd.scope hck
    have len : ∀ vs H Q E, spD K cf (ec L.gv pr (n + 1)) d.f vs H Q E → vs.length = d.ps.length := fun vs H Q E h => by
      obtain ⟨ι, F, S, ds, r, S', _, rl, e, _⟩ := h
      simp only [ec, hpr] at e
      split at e
      · rename_i hl
        rw [← rl.length, hl, hnp]
      · cases e
    refine hA.fn.ok sc len fun cdv A outer s H vs Q E hr h => ⟨tS K cf (excs L.gv (ec L.gv pr n) fm.body), PSs.nox ?_, ?_⟩
    · have C : Cxs L cf (ec L.gv pr n) n (cxOf CX0 P w K mg base d.N d.x (defScope d.st) a cdv A outer s H E).nox :=
        ⟨⟨sc.nd, rfl, hr, fun f x hf => by
          obtain ⟨d', h1, h2, h3, h4⟩ := Lk.fns f x hf
          obtain ⟨a', fd', hA'⟩ := Lk.defs d' h1
          subst h2 h3
          exact ⟨a', fd', d'.ps, hA'.gl, hA'.cf, hA'.fn.kp, hA'.bs, fun ds hds => by
            obtain ⟨e1, e2⟩ := h4 ds hds
            subst e1
            exact hA'.bd e2, all_ok Lk n d' a' fd' h1 hA'⟩, Lk.cfs, Lk.gls, Lk.blts, Lk.tabs⟩, PassesOwn.never, rfl, sc.kind⟩
      exact sSs fm.body _ C hm
    · obtain ⟨ι, F, S, ds, r, S', G, rl, e, k⟩ := h
      simp only [ec, hpr] at e
      split at e
      · split at e
        · rename_i δ1 S1 eb
          cases e
          exact ⟨ι, F, H, ι, F, _, S, _, .refl, G, slt_start rl hnn, eb, fun σ' ι' F' H' st G' _ => k _ _ _ _ st G' .non⟩
        · rename_i d1 S1 eb
          cases e
          exact ⟨ι, F, H, ι, F, _, S, _, .refl, G, slt_start rl hnn, eb, fun v ι' F' H' st G' r => k _ _ _ _ st G' r⟩
        · cases e
      · cases e
/-- the law's def, at the script -/
theorem law_sp {K : PySem.W.Frag} {cl : CallT} {f : Nat} {H : Hp} {a : Addr} {ns : List Int} {S' : Store} (hS : SqL K H a (ns.map V.int)) (hl : ns.length ≤ 63) (h : cl f [.rol (ns.map .int)] [] = some (.bl true, S')) :
    spD K cf cl f [.ref a] H (fun v _ => v = .bl true) (fun _ _ _ => False) := by
  refine ⟨[], H, [], _, _, _, ⟨fun _ _ h => h, fun i c h => by simp at h, fun a h => by simp at h, List.nodup_nil, rfl⟩, .cons (.rol hS (RL.map_int ns) ?_) .nil, h, fun v ι' F' H' st G' r => ?_⟩
  · rw [List.length_map]
    exact Nat.le_trans hl (by decide)
  · cases r; rfl
end
end MP

/-! MPR: the link of a law's text with what its top has left. -/
namespace MP
open PySem L2

/-- flat data against a value of the model -/
def flatB : D → Value → Bool
  | .non, .none => true
  | .bl b, .bool c => b == c
  | .int i, .int j _ => decide (i = j)
  | .str x, .str y _ => decide (x = y) && decide (x.length ≤ lim) && PyData.strOk x
  | _, _ => false
theorem flatB_ok {d : D} {u : Value} (h : flatB d u = true) : ∃ v, RelV v u ∧ ∀ K cf ι F, R K cf ι F d v := by
  cases d <;> cases u <;> simp only [flatB, Bool.false_eq_true] at h
  · exact ⟨.non, rfl, fun _ _ _ _ => .non⟩
  · rw [← beq_iff_eq.mp h]; exact ⟨.bl _, rfl, fun _ _ _ _ => .bl _⟩
  · cases of_decide_eq_true h; exact ⟨.int _, ⟨_, rfl⟩, fun _ _ _ _ => .int _⟩
  · simp only [Bool.and_eq_true, decide_eq_true_eq] at h
    obtain ⟨⟨rfl, h2⟩, h3⟩ := h
    exact ⟨.str _, ⟨_, rfl⟩, fun _ _ _ _ => .str h2 h3⟩
def flatsB : List D → List Value → Bool
  | [], [] => true
  | d :: ds, u :: us => flatB d u && flatsB ds us
  | _, _ => false
theorem flatsB_ok : ∀ {ds : List D} {us : List Value}, flatsB ds us = true → ∃ vs, Vals vs us ∧ ∀ K cf ι F, RL K cf ι F ds vs
  | [], [], _ => ⟨[], .nil, fun _ _ _ _ => .nil⟩
  | [], _ :: _, h => by simp [flatsB] at h
  | _ :: _, [], h => by simp [flatsB] at h
  | d :: ds, u :: us, h => by
    simp only [flatsB, Bool.and_eq_true] at h
    obtain ⟨v, h1, h2⟩ := flatB_ok h.1
    obtain ⟨vs, h3, h4⟩ := flatsB_ok h.2
    exact ⟨v :: vs, .cons h1 h3, fun K cf ι F => .cons (h2 K cf ι F) (h4 K cf ι F)⟩
/-- the entries of a table with text keys -/
def entsB : List DictEntry → List (Str × D) → Bool
  | [], [] => true
  | e :: es, (k, d) :: r => (match e.key with
    | .str x _ => decide (x = k)
    | _ => false) && flatB d e.val && entsB es r
  | _, _ => false
theorem entsB_ok (z : Str) : ∀ {es : List DictEntry} {kvs : List (Str × D)}, entsB es kvs = true → es.any (·.refKey) = false ∧ (kvs.lookup z = none → es.find? (·.key.isStr z) = none) ∧
    ∀ d, kvs.lookup z = some d → ∃ e v, es.find? (·.key.isStr z) = some e ∧ RelV v e.val ∧ ∀ K cf ι F, R K cf ι F d v
  | [], [], _ => ⟨rfl, fun _ => rfl, fun d h => by simp at h⟩
  | [], _ :: _, h => by simp [entsB] at h
  | _ :: _, [], h => by simp [entsB] at h
  | e :: es, (k, d) :: r, h => by
    simp only [entsB, Bool.and_eq_true] at h
    obtain ⟨⟨h1, h2⟩, h3⟩ := h
    obtain ⟨i1, i2, i3⟩ := entsB_ok z h3
    obtain ⟨hash, key, val⟩ := e
    cases key <;> simp only [Bool.false_eq_true] at h1
    rename_i x t
    cases of_decide_eq_true h1
    have hk : (Value.str k t).isStr z = (z == k) := by
      show (k == z) = (z == k)
      rw [Bool.beq_comm]
    refine ⟨by simpa [DictEntry.refKey] using i1, fun hn => ?_, fun d' hd => ?_⟩
    · rw [List.lookup_cons] at hn
      rw [List.find?_cons]
      simp only [hk]
      cases q : z == k with
      | true => rw [q] at hn; cases hn
      | false => rw [q] at hn; exact i2 hn
    · rw [List.lookup_cons] at hd
      rw [List.find?_cons]
      simp only [hk]
      cases q : z == k with
      | true =>
        rw [q] at hd
        cases hd
        obtain ⟨v, h4, h5⟩ := flatB_ok h2
        exact ⟨_, v, rfl, h4, h5⟩
      | false => rw [q] at hd; exact i3 d' hd
def tabB (K : PySem.W.Frag) (q : Str × List (Str × D)) : Bool := match K.lookup (He.ga K q.1) with
  | some ⟨_, _, .dict es _, _⟩ => entsB es.toList q.2
  | _ => false
theorem tabB_ok {K : PySem.W.Frag} {x : Str} {kvs : List (Str × D)} (h : tabB K (x, kvs) = true) (z : Str) : (kvs.lookup z = none → PySem.W.nsIn K (He.ga K x) z = some none) ∧
    ∀ d, kvs.lookup z = some d → ∃ u v, PySem.W.nsIn K (He.ga K x) z = some (some u) ∧ RelV v u ∧ ∀ cf ι F, R K cf ι F d v := by
  unfold tabB at h
  unfold PySem.W.nsIn
  split at h
  · rename_i es n _ hl
    rw [hl]
    obtain ⟨i1, i2, i3⟩ := entsB_ok z h
    refine ⟨fun hn => ?_, fun d hd => ?_⟩
    · simp only [i2 hn, i1]
      rfl
    · obtain ⟨e, v, h1, h2, h3⟩ := i3 d hd
      exact ⟨e.val, v, by simp only [h1], h2, fun cf ι F => h3 K cf ι F⟩
  · cases h
/-- a value of the module -/
def glsB (K : PySem.W.Frag) (L : Lnk) (q : Str × D) : Bool := match q.2 with
  | .int i => (He.Fa.int q.1 i).ok K
  | .fn f => decide (L.fns.lookup f = some q.1) && (He.Fa.glo q.1).ok K
  | .tup ds => (He.Fa.glo q.1).ok K && decide (ds.length ≤ lim) && (match K.lookup (He.ga K q.1) with
    | some ⟨.type c, _, .seq its _, _⟩ => decide (c = "tuple") && decide (its.size ≤ sizeLine) && flatsB ds its.toList
    | _ => false)
  | _ => false
/-- where a def stands -/
def cfOf (K : PySem.W.Frag) (L : Lnk) (f : Nat) : Option Addr := (L.fns.lookup f).map (He.ga K)
theorem glsB_ok {K : PySem.W.Frag} {L : Lnk} {h : Heap} {mg : Str → Option Value} (X : K.In h) (G : h.Ns mainGlobals mg) {x : Str} {d : D} (c : glsB K L (x, d) = true) :
    ∃ u v, mg x = some u ∧ RelV v u ∧ ∀ ι F, R K (cfOf K L) ι F d v := by
  unfold glsB at c
  cases d <;> simp only [Bool.false_eq_true] at c
  · obtain ⟨t, ht⟩ := He.int_ok X G c
    exact ⟨_, .int _, ht, ⟨_, rfl⟩, fun _ _ => .int _⟩
  · rename_i ds
    simp only [Bool.and_eq_true, decide_eq_true_eq] at c
    obtain ⟨⟨c1, c2⟩, c3⟩ := c
    split at c3
    · rename_i cn dd its n sl hl
      simp only [Bool.and_eq_true, decide_eq_true_eq] at c3
      obtain ⟨⟨e1, e2⟩, e3⟩ := c3
      subst e1
      obtain ⟨vs, q1, q2⟩ := flatsB_ok e3
      refine ⟨_, .ref (He.ga K x), He.glo_ok X G c1, rfl, fun ι F => .tup (.inr ⟨_, its, n, hl, rfl, rfl, e2, q1⟩) (q2 K (cfOf K L) ι F) c2⟩
    · cases c3
  · rename_i f
    simp only [Bool.and_eq_true, decide_eq_true_eq] at c
    refine ⟨_, .ref (He.ga K x), He.glo_ok X G c.2, rfl, fun ι F => .fn ?_⟩
    unfold cfOf
    rw [c.1]; rfl
/-- how a def's arguments bind -/
def BindOk (d : Dd) : Prop := (d.dfs = [] → ∀ (kV doc pm : Value) (an : Option Addr) (cdv ct : Value) (us : List Value), us.length = d.ps.length → bindArgs (PySem.W.fnOf d.x d.x (defArgs d.st) (defBody d.st) (defScope d.st) .none kV doc pm an cdv ct) ⟨us, []⟩ = pure (d.ps.zip us)) ∧
  (d.dfs ≠ [] → ∀ (n j : Nat), n + (d.dfs.length - j) = d.ps.length → (j = 0 ∨ j = d.dfs.length) → ∀ (T : Addr) (kV doc pm : Value) (an : Option Addr) (cdv ct : Value) (us its : List Value), us.length = n → its.length = d.dfs.length →
    ∃ k, bindArgs (PySem.W.fnOf d.x d.x (defArgs d.st) (defBody d.st) (defScope d.st) (.ref T) kV doc pm an cdv ct) ⟨us, []⟩ = seqItems? (.ref T) >>= k ∧ k (some its.toArray) = pure (d.ps.zip (us ++ its.drop j)))
theorem bind_none {d : Dd} (e : d.dfs = []) (h : ∀ (kV doc pm : Value) (an : Option Addr) (cdv ct : Value) (us : List Value), us.length = d.ps.length → bindArgs (PySem.W.fnOf d.x d.x (defArgs d.st) (defBody d.st) (defScope d.st) .none kV doc pm an cdv ct) ⟨us, []⟩ = pure (d.ps.zip us)) : BindOk d := ⟨fun _ => h, fun h2 => absurd e h2⟩
def ddD (d : Dd) : He.DefD := ⟨(d.x, none), d.x, d.x, defArgs d.st, defBody d.st, defScope d.st, d.dfs.map .int, []⟩
theorem ddD_dvs {K : PySem.W.Frag} {d : Dd} : (ddD d).dvs K = d.dfs.map V.int := by
  show (d.dfs.map He.Dv.int).map (He.Dv.v K) = _
  rw [List.map_map]; rfl
def faOf (tab : List Dd) (blts : List Str) : List He.Fa := tab.map (fun d => .glo d.x) ++ blts.map .free ++ []
def tsOf (L : Lnk) : List He.Tab := L.tabs.map fun q => (fun K => He.ga K q.1, q.2.map (·.1))
def faAll (L : Lnk) (tab : List Dd) : List He.Fa := tab.map (fun d => .glo d.x) ++ (L.blts.map .free ++ L.tabs.map fun q => .glo q.1)
def exOf (L : Lnk) (K : PySem.W.Frag) : Bool := L.gls.all (glsB K L) && L.tabs.all (tabB K)
theorem lookup_mem' {α : Type} : ∀ {l : List (Str × α)} {x : Str} {y : α}, l.lookup x = some y → (x, y) ∈ l
  | [], _, _, h => by simp at h
  | (k, v) :: r, x, y, h => by
    rw [List.lookup_cons] at h
    cases q : x == k with
    | true => rw [q] at h; cases h; rw [beq_iff_eq.mp q]; exact List.mem_cons_self
    | false => rw [q] at h; exact List.mem_cons_of_mem _ (lookup_mem' h)
theorem lookupN_mem {α : Type} : ∀ {l : List (Nat × α)} {x : Nat} {y : α}, l.lookup x = some y → (x, y) ∈ l
  | [], _, _, h => by simp at h
  | (k, v) :: r, x, y, h => by
    rw [List.lookup_cons] at h
    cases q : x == k with
    | true => rw [q] at h; cases h; rw [beq_iff_eq.mp q]; exact List.mem_cons_self
    | false => rw [q] at h; exact List.mem_cons_of_mem _ (lookupN_mem h)
theorem linked_of {L : Lnk} {pr : Nat → Option Fd} {tab : List Dd} {w : World} {K : PySem.W.Frag} {h : Heap} {mg : Str → Option Value} (X : K.In h) (G : h.Ns mainGlobals mg) (hL : L.fns = tab.map fun d => (d.f, d.x))
    (c : He.SaysX (faAll L tab) (tab.map ddD) (tsOf L) [] (exOf L) w h K) (hb : ∀ d, d ∈ tab → BindOk d) (hck : tab.all (fun d => (match pr d.f with
      | some fd => d.chk L fd
      | none => false) && decide (L.fns.lookup d.f = some d.x) && (decide (d.dfs.length ≤ d.np ∧ d.np = d.ps.length) && (match L.dfs.lookup d.f with
      | some ds => decide (d.dfs = ds ∧ ds ≠ [])
      | none => true))) = true) : Linked L pr tab w K mg (cfOf K L) := by
  have hc := List.all_eq_true.mp hck
  have fact : ∀ {f : He.Fa}, f ∈ faAll L tab → f.ok K = true := fun hf => He.SaysD.facts c.t.d hf
  have ex := c.more
  simp only [exOf, Bool.and_eq_true, List.all_eq_true] at ex
  refine ⟨fun d hd => ?_, fun d hd => ?_, fun f x hf => ?_, fun f a hf => ?_, fun x d hx => ?_, fun x hx => ?_, fun x kvs hx => ?_⟩
  · have q := hc d hd
    simp only [Bool.and_eq_true, decide_eq_true_eq] at q
    obtain ⟨fd, F0⟩ := He.SaysD.defs c.t.d (List.mem_map.mpr ⟨d, hd, rfl⟩ : ddD d ∈ tab.map ddD)
    rw [ddD_dvs] at F0
    have F : FunD K d.x d.x (defArgs d.st) (defBody d.st) (defScope d.st) (d.dfs.map V.int) [] (He.ga K d.x) fd := F0
    have key : Binds K fd d.ps [] ∧ (d.dfs ≠ [] → ∃ dv, Vals (d.dfs.map V.int) dv ∧ Binds K fd d.ps dv) := by
      obtain ⟨hb1, hb2⟩ := hb d hd
      have hle := q.2.1
      by_cases e : d.dfs = []
      · rw [e] at F
        exact ⟨FunD.bindsN F (hb1 e), fun h => absurd e h⟩
      · have hne2 : d.dfs.map V.int ≠ [] := by simpa using e
        have hl : (d.dfs.map V.int).length = d.dfs.length := List.length_map ..
        obtain ⟨d1, r1, b1⟩ := FunD.binds1 (ps := d.ps) F d.ps.length d.dfs.length hne2 (by omega) (fun T kV doc pm an cdv ct us its h1 h2 => hb2 e _ _ (by omega) (.inr rfl) T kV doc pm an cdv ct us its h1 (by rw [← hl]; exact h2))
        obtain ⟨d2, r2, b2⟩ := FunD.binds1 (ps := d.ps) F (d.ps.length - d.dfs.length) 0 hne2 (by omega) (fun T kV doc pm an cdv ct us its h1 h2 => hb2 e _ _ (by omega) (.inl rfl) T kV doc pm an cdv ct us its h1 (by rw [← hl]; exact h2))
        rw [List.drop_of_length_le (by omega)] at r1
        cases r1
        exact ⟨b1, fun _ => ⟨d2, r2, b2⟩⟩
    refine ⟨He.ga K d.x, fd, He.glo_ok X G (fact (List.mem_append_left _ (List.mem_map.mpr ⟨d, hd, rfl⟩))), ?_, F, key.1, key.2⟩
    unfold cfOf
    rw [q.1.2]; rfl
  · have q := hc d hd
    simp only [Bool.and_eq_true, decide_eq_true_eq] at q
    obtain ⟨⟨q1, _⟩, _⟩ := q
    split at q1
    · rename_i fd hfd; exact ⟨fd, hfd, q1⟩
    · cases q1
  · rw [hL] at hf
    obtain ⟨d, h1, h2⟩ := List.mem_map.mp hf
    cases h2
    refine ⟨d, h1, rfl, rfl, fun ds hds => ?_⟩
    have q := hc d h1
    simp only [Bool.and_eq_true] at q
    have q2 := q.2.2
    rw [hds] at q2
    exact of_decide_eq_true q2
  · unfold cfOf at hf
    simp only [Option.map_eq_some_iff] at hf
    obtain ⟨x, h1, _⟩ := hf
    exact ⟨x, lookupN_mem h1⟩
  · exact glsB_ok X G (ex.1 _ (lookup_mem' hx))
  · exact He.free_ok X G (fact (List.mem_append_right _ (List.mem_append_left _ (List.mem_map.mpr ⟨x, hx, rfl⟩))))
  · have hm := lookup_mem' hx
    obtain ⟨i, hi, e⟩ := List.mem_iff_getElem.mp (List.mem_map.mpr ⟨_, hm, rfl⟩ : (fun K => He.ga K x, kvs.map (·.1)) ∈ tsOf L)
    obtain ⟨es, n, D⟩ := c.t.tab i (t := (fun K => He.ga K x, kvs.map (·.1))) (by show (L.tabs.map fun q => (fun K => He.ga K q.1, q.2.map (·.1)))[i]? = _; rw [List.getElem?_eq_getElem hi, e])
    refine ⟨He.ga K x, es, n, He.glo_ok X G (fact (List.mem_append_right _ (List.mem_append_right _ (List.mem_map.mpr ⟨_, hm, rfl⟩)))), D, fun z => ?_⟩
    obtain ⟨h1, h2⟩ := tabB_ok (ex.2 _ hm) z
    refine ⟨h1, fun d hd => ?_⟩
    obtain ⟨u, v, h3, h4, h5⟩ := h2 d hd
    exact ⟨u, v, h3, h4, fun ι F => h5 _ ι F⟩
/-- the law's def -/
theorem law_ok {L : Lnk} {pr : Nat → Option Fd} {tab : List Dd} {P : Program} {w : World} {K : PySem.W.Frag} {mg : Str → Option Value} {cf : Nat → Option Addr} {dl : Dd} {n : Nat} (Lk : Linked L pr tab w K mg cf) (hd : dl ∈ tab) (hps : dl.ps = [("script" : Str)]) (hnd : dl.dfs = []) {fa : Addr} (hfa : mg dl.x = some (.ref fa)) (hbd : BindOk dl)
    (hlaw : ∀ ns : List Int, ns.length ≤ 63 → ∃ S', ec L.gv pr n dl.f [.rol (ns.map .int)] [] = some (.bl true, S')) :
    ∃ (fd : FuncData) (sp : Sp), (∀ (s : Shared) (u : Value), BindsTo s fd ⟨[u], []⟩ [(("script" : Str), u)]) ∧
        (∀ (H : Hp) (a : Addr) (ns : List Int), ns.length ≤ 63 → Only H → SqL K H a (ns.map V.int) → sp [.ref a] H (fun v _ => v = .bl true) fun _ _ _ => False) ∧
        ∀ base : Heap, K.In base → base.Ns mainGlobals mg → FnOk P w K mg base CX0 n fa fd [("script" : Str)] sp := by
  obtain ⟨a, fd, hA⟩ := Lk.defs dl hd
  have e := hA.gl
  rw [hfa] at e
  cases e
  refine ⟨fd, spD K cf (ec L.gv pr n) dl.f, fun s u => ?_, fun H a ns hl _ hS => ?_, fun base _ _ => ?_⟩
  · have F := hA.fn
    rw [hnd] at F
    have q := FunD.bindsA (ps := dl.ps) F (hbd.1 hnd) s [u] (by rw [hps]; rfl)
    rw [hps] at q
    exact q
  · obtain ⟨S', h⟩ := hlaw ns hl
    exact law_sp hS hl h
  · have q := all_ok (P := P) (base := base) Lk n dl fa fd hd hA
    rw [hps] at q
    exact q
end MP

/-! MPS: what a text of the small language keeps, by its parts. -/
namespace MP
open PySem

/-- None -/
def D.nn : D → Bool
  | .non => true
  | _ => false
def inK (neg : Bool) (kvs : List (Str × D)) (z : Str) : Bool := if neg then !(kvs.lookup z).isSome else (kvs.lookup z).isSome
def getK (kvs : List (Str × D)) (z : Str) : Option D := kvs.lookup z
def WC (cl : CallT) (f : Nat) (ds : List D) (S : Store) (Q : D → Store → Prop) : Prop := ∃ d S', cl f ds S = some (d, S') ∧ Q d S'
section
variable (gv : GV) (cl : CallT)
def WE (e : E) (δ : Env) (S : Store) (Q : D → Store → Prop) : Prop := ∃ d S', ev gv cl e δ S = some (d, S') ∧ Q d S'
def WL (es : Es) (δ : Env) (S : Store) (Q : List D → Store → Prop) : Prop := ∃ d S', evs gv cl es δ S = some (d, S') ∧ Q d S'
def WR (r : Sr) (δ : Env) (S : Store) (Q : List D → Store → Prop) : Prop := ∃ d S', evr gv cl r δ S = some (d, S') ∧ Q d S'
def WS (s : Sm) (δ : Env) (S : Store) (Q : Out → Prop) : Prop := ∃ o, exc gv cl s δ S = some o ∧ Q o
def WB (s : Ss) (δ : Env) (S : Store) (Q : Out → Prop) : Prop := ∃ o, excs gv cl s δ S = some o ∧ Q o
end
def WG (f : Env → Store → Option (D × Store)) (c : Env → Store → Option (List D × Store)) (tg : Tg) (δ : Env) (ds : List D) (S : Store) (Q : List D → Store → Prop) : Prop := ∃ d S', lcGo f c tg δ ds S = some (d, S') ∧ Q d S'
def WF (f : Env → Store → Option Out) (tg : Tg) (ds : List D) (δ : Env) (S : Store) (Q : Out → Prop) : Prop := ∃ o, forGo f tg ds δ S = some o ∧ Q o
def WW (c : Env → Store → Option (D × Store)) (f : Env → Store → Option Out) (n : Nat) (δ : Env) (S : Store) (Q : Out → Prop) : Prop := ∃ o, whGo c f n δ S = some o ∧ Q o

section
variable {gv : GV} {cl : CallT} {δ : Env} {S : Store} {Q : D → Store → Prop} {QL : List D → Store → Prop} {QO : Out → Prop}

theorem we_var {i : Nat} : WE gv cl (.var i) δ S Q ↔ ∃ d, δ[i]? = some (.v d) ∧ Q d S := by
  unfold WE
  constructor
  · rintro ⟨d, S', h, q⟩
    simp only [ev] at h
    split at h
    · rename_i e; cases h; exact ⟨_, e, q⟩
    · cases h
  · rintro ⟨d, h, q⟩
    exact ⟨d, S, by simp only [ev, h], q⟩
theorem we_cn : WE gv cl .cn δ S Q ↔ Q .non S := by
  unfold WE; simp only [ev]; exact ⟨fun ⟨_, _, h, q⟩ => by cases h; exact q, fun q => ⟨_, _, rfl, q⟩⟩
theorem we_cb {b : Bool} : WE gv cl (.cb b) δ S Q ↔ Q (.bl b) S := by
  unfold WE; simp only [ev]; exact ⟨fun ⟨_, _, h, q⟩ => by cases h; exact q, fun q => ⟨_, _, rfl, q⟩⟩
theorem we_ci {i : Int} : WE gv cl (.ci i) δ S Q ↔ Q (.int i) S := by
  unfold WE; simp only [ev]; exact ⟨fun ⟨_, _, h, q⟩ => by cases h; exact q, fun q => ⟨_, _, rfl, q⟩⟩
theorem we_cs {s : Str} : WE gv cl (.cs s) δ S Q ↔ Q (.str s) S := by
  unfold WE; simp only [ev]; exact ⟨fun ⟨_, _, h, q⟩ => by cases h; exact q, fun q => ⟨_, _, rfl, q⟩⟩
theorem we_glob {x : Str} : WE gv cl (.glob x) δ S Q ↔ ∃ d, gv.c x = some d ∧ Q d S := by
  unfold WE
  constructor
  · rintro ⟨d, S', h, q⟩
    simp only [ev] at h
    split at h
    · rename_i e; cases h; exact ⟨_, e, q⟩
    · cases h
  · rintro ⟨d, h, q⟩
    exact ⟨d, S, by simp only [ev, h], q⟩
theorem we_tup {es : Es} : WE gv cl (.tup es) δ S Q ↔ WL gv cl es δ S fun ds S1 => Q (.tup ds) S1 := by
  unfold WE WL
  constructor
  · rintro ⟨d, S', h, q⟩
    simp only [ev] at h
    split at h
    · rename_i e; cases h; exact ⟨_, _, e, q⟩
    · cases h
  · rintro ⟨d, S', h, q⟩
    exact ⟨_, _, by simp only [ev, h], q⟩
theorem we_lst {es : Es} : WE gv cl (.lst es) δ S Q ↔ WL gv cl es δ S fun ds S1 => Q (.lst ds) S1 := by
  unfold WE WL
  constructor
  · rintro ⟨d, S', h, q⟩
    simp only [ev] at h
    split at h
    · rename_i e; cases h; exact ⟨_, _, e, q⟩
    · cases h
  · rintro ⟨d, S', h, q⟩
    exact ⟨_, _, by simp only [ev, h], q⟩
theorem we_newc {es : Es} : WE gv cl (.newc es) δ S Q ↔ WL gv cl es δ S fun ds S1 => Q (.cell S1.length) (S1 ++ [ds]) := by
  unfold WE WL
  constructor
  · rintro ⟨d, S', h, q⟩
    simp only [ev] at h
    split at h
    · rename_i e; cases h; exact ⟨_, _, e, q⟩
    · cases h
  · rintro ⟨d, S', h, q⟩
    exact ⟨_, _, by simp only [ev, h], q⟩
theorem we_op {o : O2} {a b : E} : WE gv cl (.op o a b) δ S Q ↔ WE gv cl a δ S fun x S1 => WE gv cl b δ S1 fun y S2 => ∃ z, op2 o x y = some z ∧ Q z S2 := by
  unfold WE
  constructor
  · rintro ⟨d, S', h, q⟩
    simp only [ev] at h
    split at h
    · cases h
    · rename_i e1
      split at h
      · cases h
      · rename_i e2
        split at h
        · cases h
        · rename_i e3; cases h; exact ⟨_, _, e1, _, _, e2, _, e3, q⟩
  · rintro ⟨x, S1, h1, y, S2, h2, z, h3, q⟩
    exact ⟨_, _, by simp only [ev, h1, h2, h3], q⟩
theorem we_isN {a : E} : WE gv cl (.isN a) δ S Q ↔ WE gv cl a δ S fun x S1 => Q (.bl x.nn) S1 := by
  unfold WE
  constructor
  · rintro ⟨d, S', h, q⟩
    simp only [ev] at h
    split at h
    · cases h
    · rename_i e1; cases h; exact ⟨_, _, e1, q⟩
    · rename_i x S1 hn e1
      cases h
      refine ⟨_, _, e1, ?_⟩
      cases x <;> first | exact q | exact (hn rfl).elim
  · rintro ⟨x, S1, h1, q⟩
    refine ⟨_, _, ?_, q⟩
    simp only [ev, h1]
    cases x <;> rfl
theorem we_notN {a : E} : WE gv cl (.notN a) δ S Q ↔ WE gv cl a δ S fun x S1 => Q (.bl !x.nn) S1 := by
  unfold WE
  constructor
  · rintro ⟨d, S', h, q⟩
    simp only [ev] at h
    split at h
    · cases h
    · rename_i e1; cases h; exact ⟨_, _, e1, q⟩
    · rename_i x S1 hn e1
      cases h
      refine ⟨_, _, e1, ?_⟩
      cases x <;> first | exact q | exact (hn rfl).elim
  · rintro ⟨x, S1, h1, q⟩
    refine ⟨_, _, ?_, q⟩
    simp only [ev, h1]
    cases x <;> rfl
theorem we_neg {a : E} : WE gv cl (.neg a) δ S Q ↔ WE gv cl a δ S fun x S1 => ∃ i, x = .int i ∧ Q (.int (-i)) S1 := by
  unfold WE
  constructor
  · rintro ⟨d, S', h, q⟩
    simp only [ev] at h
    split at h
    · rename_i e; cases h; exact ⟨_, _, e, _, rfl, q⟩
    · cases h
  · rintro ⟨x, S1, h1, i, rfl, q⟩
    exact ⟨_, _, by simp only [ev, h1], q⟩
theorem we_nt {a : E} : WE gv cl (.nt a) δ S Q ↔ WE gv cl a δ S fun x S1 => ∃ b, x = .bl b ∧ Q (.bl (!b)) S1 := by
  unfold WE
  constructor
  · rintro ⟨d, S', h, q⟩
    simp only [ev] at h
    split at h
    · rename_i e; cases h; exact ⟨_, _, e, _, rfl, q⟩
    · cases h
  · rintro ⟨x, S1, h1, i, rfl, q⟩
    exact ⟨_, _, by simp only [ev, h1], q⟩
theorem we_and {a b : E} : WE gv cl (.and a b) δ S Q ↔ WE gv cl a δ S fun x S1 => ∃ u, x = .bl u ∧ (u = true → WE gv cl b δ S1 fun y S2 => ∃ v, y = .bl v ∧ Q (.bl v) S2) ∧ (u = false → Q (.bl false) S1) := by
  unfold WE
  constructor
  · rintro ⟨d, S', h, q⟩
    simp only [ev] at h
    split at h
    · rename_i e
      split at h
      · rename_i e2; cases h; exact ⟨_, _, e, _, rfl, fun _ => ⟨_, _, e2, _, rfl, q⟩, fun h => by cases h⟩
      · cases h
    · rename_i e; cases h; exact ⟨_, _, e, _, rfl, fun h => by (cases h), fun _ => q⟩
    · cases h
  · rintro ⟨x, S1, h1, u, rfl, ht, hf⟩
    cases u
    · exact ⟨_, _, by simp only [ev, h1], hf rfl⟩
    · obtain ⟨y, S2, h2, v, rfl, q⟩ := ht rfl
      exact ⟨_, _, by simp only [ev, h1, h2], q⟩
theorem we_or {a b : E} : WE gv cl (.or a b) δ S Q ↔ WE gv cl a δ S fun x S1 => ∃ u, x = .bl u ∧ (u = false → WE gv cl b δ S1 fun y S2 => ∃ v, y = .bl v ∧ Q (.bl v) S2) ∧ (u = true → Q (.bl true) S1) := by
  unfold WE
  constructor
  · rintro ⟨d, S', h, q⟩
    simp only [ev] at h
    split at h
    · rename_i e
      split at h
      · rename_i e2; cases h; exact ⟨_, _, e, _, rfl, fun _ => ⟨_, _, e2, _, rfl, q⟩, fun h => by cases h⟩
      · cases h
    · rename_i e; cases h; exact ⟨_, _, e, _, rfl, fun h => by (cases h), fun _ => q⟩
    · cases h
  · rintro ⟨x, S1, h1, u, rfl, ht, hf⟩
    cases u
    · obtain ⟨y, S2, h2, v, rfl, q⟩ := ht rfl
      exact ⟨_, _, by simp only [ev, h1, h2], q⟩
    · exact ⟨_, _, by simp only [ev, h1], hf rfl⟩
theorem we_chain {o1 o2 : O2} {a b c : E} : WE gv cl (.chain o1 o2 a b c) δ S Q ↔ WE gv cl a δ S fun x S1 => WE gv cl b δ S1 fun y S2 => ∃ u, op2 o1 x y = some (.bl u) ∧ (u = true → WE gv cl c δ S2 fun z S3 => ∃ r, op2 o2 y z = some (.bl r) ∧ Q (.bl r) S3) ∧ (u = false → Q (.bl false) S2) := by
  unfold WE
  constructor
  · rintro ⟨d, S', h, q⟩
    simp only [ev] at h
    split at h
    · cases h
    · rename_i e1
      split at h
      · cases h
      · rename_i e2
        split at h
        · rename_i e3
          split at h
          · cases h
          · rename_i e4
            split at h
            · rename_i e5; cases h; exact ⟨_, _, e1, _, _, e2, _, e3, fun _ => ⟨_, _, e4, _, e5, q⟩, fun h => by cases h⟩
            · cases h
        · rename_i e3; cases h; exact ⟨_, _, e1, _, _, e2, _, e3, fun h => by (cases h), fun _ => q⟩
        · cases h
  · rintro ⟨x, S1, h1, y, S2, h2, u, h3, ht, hf⟩
    cases u
    · exact ⟨_, _, by simp only [ev, h1, h2, h3], hf rfl⟩
    · obtain ⟨z, S3, h4, r, h5, q⟩ := ht rfl
      exact ⟨_, _, by simp only [ev, h1, h2, h3, h4, h5], q⟩
theorem we_ite {c a b : E} : WE gv cl (.ite c a b) δ S Q ↔ WE gv cl c δ S fun x S1 => ∃ u, x = .bl u ∧ (u = true → WE gv cl a δ S1 Q) ∧ (u = false → WE gv cl b δ S1 Q) := by
  unfold WE
  constructor
  · rintro ⟨d, S', h, q⟩
    simp only [ev] at h
    split at h
    · rename_i e; exact ⟨_, _, e, _, rfl, fun _ => ⟨_, _, h, q⟩, fun h => by cases h⟩
    · rename_i e; exact ⟨_, _, e, _, rfl, fun h => by (cases h), fun _ => ⟨_, _, h, q⟩⟩
    · cases h
  · rintro ⟨x, S1, h1, u, rfl, ht, hf⟩
    cases u
    · obtain ⟨d, S', h, q⟩ := hf rfl
      exact ⟨_, _, by simp only [ev, h1, h], q⟩
    · obtain ⟨d, S', h, q⟩ := ht rfl
      exact ⟨_, _, by simp only [ev, h1, h], q⟩
theorem we_call {f : Nat} {es : Es} : WE gv cl (.call f es) δ S Q ↔ WL gv cl es δ S fun ds S1 => WC cl f ds S1 Q := by
  unfold WE WL WC
  constructor
  · rintro ⟨d, S', h, q⟩
    simp only [ev] at h
    split at h
    · cases h
    · rename_i e; exact ⟨_, _, e, _, _, h, q⟩
  · rintro ⟨ds, S1, h1, d, S', h, q⟩
    exact ⟨_, _, by simp only [ev, h1, h], q⟩
theorem we_calll {i : Nat} {es : Es} : WE gv cl (.calll i es) δ S Q ↔ ∃ g, δ[i]? = some (.v (.fn g)) ∧ WL gv cl es δ S fun ds S1 => WC cl g ds S1 Q := by
  unfold WE WL WC
  constructor
  · rintro ⟨d, S', h, q⟩
    simp only [ev] at h
    split at h
    · rename_i e0
      split at h
      · cases h
      · rename_i e; exact ⟨_, e0, _, _, e, _, _, h, q⟩
    · cases h
  · rintro ⟨g, h0, ds, S1, h1, d, S', h, q⟩
    exact ⟨_, _, by simp only [ev, h0, h1, h], q⟩
theorem we_b1 {f : B1} {a : E} : WE gv cl (.b1 f a) δ S Q ↔ WE gv cl a δ S fun x S1 => ∃ z, bi1 f x = some z ∧ Q z S1 := by
  unfold WE
  constructor
  · rintro ⟨d, S', h, q⟩
    simp only [ev] at h
    split at h
    · cases h
    · rename_i e1
      split at h
      · cases h
      · rename_i e3; cases h; exact ⟨_, _, e1, _, e3, q⟩
  · rintro ⟨x, S1, h1, z, h3, q⟩
    exact ⟨_, _, by simp only [ev, h1, h3], q⟩
theorem we_b2 {f : B2} {a b : E} : WE gv cl (.b2 f a b) δ S Q ↔ WE gv cl a δ S fun x S1 => WE gv cl b δ S1 fun y S2 => ∃ z, bi2 f x y = some z ∧ Q z S2 := by
  unfold WE
  constructor
  · rintro ⟨d, S', h, q⟩
    simp only [ev] at h
    split at h
    · cases h
    · rename_i e1
      split at h
      · cases h
      · rename_i e2
        split at h
        · cases h
        · rename_i e3; cases h; exact ⟨_, _, e1, _, _, e2, _, e3, q⟩
  · rintro ⟨x, S1, h1, y, S2, h2, z, h3, q⟩
    exact ⟨_, _, by simp only [ev, h1, h2, h3], q⟩
theorem we_isi {a : E} {ts : List Ty} : WE gv cl (.isi a ts) δ S Q ↔ WE gv cl a δ S fun x S1 => ∃ b, isTys ts x = some b ∧ Q (.bl b) S1 := by
  unfold WE
  constructor
  · rintro ⟨d, S', h, q⟩
    simp only [ev] at h
    split at h
    · cases h
    · rename_i e1
      split at h
      · cases h
      · rename_i e3; cases h; exact ⟨_, _, e1, _, e3, q⟩
  · rintro ⟨x, S1, h1, z, h3, q⟩
    exact ⟨_, _, by simp only [ev, h1, h3], q⟩
theorem we_ix {a b : E} : WE gv cl (.ix a b) δ S Q ↔ WE gv cl a δ S fun x S1 => WE gv cl b δ S1 fun y S2 => ∃ z, ix S2 x y = some z ∧ Q z S2 := by
  unfold WE
  constructor
  · rintro ⟨d, S', h, q⟩
    simp only [ev] at h
    split at h
    · cases h
    · rename_i e1
      split at h
      · cases h
      · rename_i e2
        split at h
        · cases h
        · rename_i e3; cases h; exact ⟨_, _, e1, _, _, e2, _, e3, q⟩
  · rintro ⟨x, S1, h1, y, S2, h2, z, h3, q⟩
    exact ⟨_, _, by simp only [ev, h1, h2, h3], q⟩
theorem we_sl {a : E} {lo hi : Es} : WE gv cl (.sl a lo hi) δ S Q ↔ WE gv cl a δ S fun x S1 => WL gv cl lo δ S1 fun l S2 => WL gv cl hi δ S2 fun h S3 => ∃ l', optI l = some l' ∧ ∃ h', optI h = some h' ∧ ∃ z, slc x l' h' = some z ∧ Q z S3 := by
  unfold WE WL
  constructor
  · rintro ⟨d, S', h, q⟩
    simp only [ev] at h
    split at h
    · cases h
    · rename_i e1
      split at h
      · cases h
      · rename_i e2
        split at h
        · cases h
        · rename_i e3
          split at h
          · rename_i e4 e5
            split at h
            · cases h
            · rename_i e6; cases h; exact ⟨_, _, e1, _, _, e2, _, _, e3, _, e4, _, e5, _, e6, q⟩
          · cases h
  · rintro ⟨x, S1, h1, l, S2, h2, hh, S3, h3, l', h4, h', h5, z, h6, q⟩
    exact ⟨_, _, by simp only [ev, h1, h2, h3, h4, h5, h6], q⟩
theorem we_lc {elt : E} {tg : Tg} {src : Sr} {cond : Es} : WE gv cl (.lc elt tg src cond) δ S Q ↔ WR gv cl src δ S fun ds S1 => WG (ev gv cl elt) (evs gv cl cond) tg (wipeE δ tg.slots) ds S1 fun xs S2 => Q (.lst xs) S2 := by
  unfold WE WR WG
  constructor
  · rintro ⟨d, S', h, q⟩
    simp only [ev] at h
    split at h
    · cases h
    · rename_i e1
      split at h
      · cases h
      · rename_i e3; cases h; exact ⟨_, _, e1, _, _, e3, q⟩
  · rintro ⟨x, S1, h1, z, S2, h3, q⟩
    exact ⟨_, _, by simp only [ev, h1, h3], q⟩
theorem we_lrng {es : Es} : WE gv cl (.lrng es) δ S Q ↔ WL gv cl es δ S fun ds S1 => ∃ xs, rangeOf ds = some xs ∧ Q (.lst xs) S1 := by
  unfold WE WL
  constructor
  · rintro ⟨d, S', h, q⟩
    simp only [ev] at h
    split at h
    · cases h
    · rename_i e1
      split at h
      · cases h
      · rename_i e3; cases h; exact ⟨_, _, e1, _, e3, q⟩
  · rintro ⟨x, S1, h1, z, h3, q⟩
    exact ⟨_, _, by simp only [ev, h1, h3], q⟩
theorem we_olen {i : Nat} : WE gv cl (.olen i) δ S Q ↔ ∃ ds, δ[i]? = some (.o ds) ∧ Q (.int ds.length) S := by
  unfold WE
  constructor
  · rintro ⟨d, S', h, q⟩
    simp only [ev] at h
    split at h
    · rename_i e; cases h; exact ⟨_, e, q⟩
    · cases h
  · rintro ⟨d, h, q⟩
    exact ⟨_, _, by simp only [ev, h], q⟩
theorem we_oix {i : Nat} {e : E} : WE gv cl (.oix i e) δ S Q ↔ WE gv cl e δ S fun y S1 => ∃ k, y = .int k ∧ ∃ ds, δ[i]? = some (.o ds) ∧ ∃ d, L2.atI ds k = some d ∧ Q d S1 := by
  unfold WE
  constructor
  · rintro ⟨d, S', h, q⟩
    simp only [ev] at h
    split at h
    · rename_i e1
      split at h
      · rename_i e2
        split at h
        · rename_i e3; cases h; exact ⟨_, _, e1, _, rfl, _, e2, _, e3, q⟩
        · cases h
      · cases h
    · cases h
  · rintro ⟨y, S1, h1, k, rfl, ds, h2, d, h3, q⟩
    exact ⟨_, _, by simp only [ev, h1, h2, h3], q⟩
theorem we_inD {neg : Bool} {x : Str} {a : E} : WE gv cl (.inD neg x a) δ S Q ↔ WE gv cl a δ S fun y S1 => ∃ z, y = .str z ∧ ∃ kvs, gv.t x = some kvs ∧ Q (.bl (inK neg kvs z)) S1 := by
  unfold WE
  constructor
  · rintro ⟨d, S', h, q⟩
    simp only [ev] at h
    split at h
    · rename_i e1
      split at h
      · rename_i e2; cases h; exact ⟨_, _, e1, _, rfl, _, e2, q⟩
      · cases h
    · cases h
  · rintro ⟨y, S1, h1, k, rfl, ds, h2, q⟩
    exact ⟨_, _, by simp only [ev, h1, h2, inK], q⟩
theorem we_getD {x : Str} {a : E} : WE gv cl (.getD x a) δ S Q ↔ WE gv cl a δ S fun y S1 => ∃ z, y = .str z ∧ ∃ kvs, gv.t x = some kvs ∧ ∃ d, getK kvs z = some d ∧ Q d S1 := by
  unfold WE
  constructor
  · rintro ⟨d, S', h, q⟩
    simp only [ev] at h
    split at h
    · rename_i e1
      split at h
      · rename_i e2
        split at h
        · rename_i e3; cases h; exact ⟨_, _, e1, _, rfl, _, e2, _, e3, q⟩
        · cases h
      · cases h
    · cases h
  · rintro ⟨y, S1, h1, k, rfl, ds, h2, d, h3, q⟩
    exact ⟨_, _, by (unfold getK at h3; simp only [ev, h1, h2, h3]), q⟩
theorem we_calld {f : Nat} {es : Es} {ds : List Int} : WE gv cl (.calld f es ds) δ S Q ↔ WL gv cl es δ S fun xs S1 => WC cl f (xs ++ ds.map .int) S1 Q := by
  unfold WE WL WC
  constructor
  · rintro ⟨d, S', h, q⟩
    simp only [ev] at h
    split at h
    · cases h
    · rename_i e; exact ⟨_, _, e, _, _, h, q⟩
  · rintro ⟨ds, S1, h1, d, S', h, q⟩
    exact ⟨_, _, by simp only [ev, h1, h], q⟩
theorem we_osl {i : Nat} {lo hi : Es} : WE gv cl (.osl i lo hi) δ S Q ↔ WL gv cl lo δ S fun l S1 => WL gv cl hi δ S1 fun h S2 => ∃ l', optI l = some l' ∧ ∃ h', optI h = some h' ∧ ∃ ds, δ[i]? = some (.o ds) ∧ Q (.lst (cutD ds l' h')) S2 := by
  unfold WE WL
  constructor
  · rintro ⟨d, S', h, q⟩
    simp only [ev] at h
    split at h
    · cases h
    · rename_i e1
      split at h
      · cases h
      · rename_i e2
        split at h
        · rename_i e3 e4 e5; cases h; exact ⟨_, _, e1, _, _, e2, _, e3, _, e4, _, e5, q⟩
        · cases h
  · rintro ⟨l, S1, h1, hh, S2, h2, l', h3, h', h4, ds, h5, q⟩
    exact ⟨_, _, by simp only [ev, h1, h2, h3, h4, h5], q⟩
theorem we_rev {a : E} : WE gv cl (.rev a) δ S Q ↔ WE gv cl a δ S fun x S1 => ∃ z, revOf x = some z ∧ Q z S1 := by
  unfold WE
  constructor
  · rintro ⟨d, S', h, q⟩
    simp only [ev] at h
    split at h
    · cases h
    · rename_i e1
      split at h
      · cases h
      · rename_i e3; cases h; exact ⟨_, _, e1, _, e3, q⟩
  · rintro ⟨x, S1, h1, z, h3, q⟩
    exact ⟨_, _, by simp only [ev, h1, h3], q⟩
theorem we_isB {neg b : Bool} {a : E} : WE gv cl (.isB neg a b) δ S Q ↔ WE gv cl a δ S fun x S1 => ∃ c, x = .bl c ∧ Q (.bl (if neg then !(c == b) else c == b)) S1 := by
  unfold WE
  constructor
  · rintro ⟨d, S', h, q⟩
    simp only [ev] at h
    split at h
    · rename_i e1; cases h; exact ⟨_, _, e1, _, rfl, q⟩
    · cases h
  · rintro ⟨x, S1, h1, c, rfl, q⟩
    exact ⟨_, _, by simp only [ev, h1], q⟩
theorem we_cnew {a : E} : WE gv cl (.cnew a) δ S Q ↔ WE gv cl a δ S fun x S1 => ∃ ds, bi1 .list x = some (.lst ds) ∧ Q (.cell S1.length) (S1 ++ [ds]) := by
  unfold WE
  constructor
  · rintro ⟨d, S', h, q⟩
    simp only [ev] at h
    split at h
    · cases h
    · rename_i e1
      split at h
      · rename_i e2; cases h; exact ⟨_, _, e1, _, e2, q⟩
      · cases h
  · rintro ⟨x, S1, h1, c, h2, q⟩
    exact ⟨_, _, by simp only [ev, h1, h2], q⟩
theorem we_clen {a : E} : WE gv cl (.clen a) δ S Q ↔ WE gv cl a δ S fun x S1 => ∃ c, x = .cell c ∧ ∃ ds, S1[c]? = some ds ∧ Q (.int ds.length) S1 := by
  unfold WE
  constructor
  · rintro ⟨d, S', h, q⟩
    simp only [ev] at h
    split at h
    · rename_i e1
      split at h
      · rename_i e2; cases h; exact ⟨_, _, e1, _, rfl, _, e2, q⟩
      · cases h
    · cases h
  · rintro ⟨x, S1, h1, c, rfl, ds, h2, q⟩
    exact ⟨_, _, by simp only [ev, h1, h2], q⟩
theorem we_cnil {neg : Bool} {a : E} : WE gv cl (.cnil neg a) δ S Q ↔ WE gv cl a δ S fun x S1 => ∃ c, x = .cell c ∧ ∃ ds, S1[c]? = some ds ∧ (D.lst ds).cmp = true ∧ Q (.bl (if neg then !ds.isEmpty else ds.isEmpty)) S1 := by
  unfold WE
  constructor
  · rintro ⟨d, S', h, q⟩
    simp only [ev] at h
    split at h
    · rename_i e1
      split at h
      · rename_i e2
        split at h
        · rename_i e3; cases h; exact ⟨_, _, e1, _, rfl, _, e2, e3, q⟩
        · cases h
      · cases h
    · cases h
  · rintro ⟨x, S1, h1, c, rfl, ds, h2, h3, q⟩
    exact ⟨_, _, by simp only [ev, h1, h2, h3, if_true], q⟩
theorem we_cpop {a i : E} : WE gv cl (.cpop a i) δ S Q ↔ WE gv cl a δ S fun x S1 => ∃ c, x = .cell c ∧ WE gv cl i δ S1 fun y S2 => ∃ k, y = .int k ∧ (0 ≤ k ∧ k ≤ 1000000) ∧ ∃ ds, S2[c]? = some ds ∧ ∃ d, ds[k.toNat]? = some d ∧ Q d (S2.set c (ds.eraseIdx k.toNat)) := by
  unfold WE
  constructor
  · rintro ⟨d, S', h, q⟩
    simp only [ev] at h
    split at h
    · rename_i e1
      split at h
      · rename_i e2
        split at h
        · rename_i e3
          split at h
          · rename_i e4
            split at h
            · rename_i e5
              cases h
              simp only [Bool.and_eq_true, decide_eq_true_eq] at e4
              exact ⟨_, _, e1, _, rfl, _, _, e2, _, rfl, e4, _, e3, _, e5, q⟩
            · cases h
          · cases h
        · cases h
      · cases h
    · cases h
  · rintro ⟨x, S1, h1, c, rfl, y, S2, h2, k, rfl, h4, ds, h3, d, h5, q⟩
    refine ⟨_, _, ?_, q⟩
    simp only [ev, h1, h2, h3]
    rw [if_pos (by simp only [Bool.and_eq_true, decide_eq_true_eq]; exact h4), h5]
theorem wl_nil : WL gv cl .nil δ S QL ↔ QL [] S := by
  unfold WL; simp only [evs]; exact ⟨fun ⟨_, _, h, q⟩ => by cases h; exact q, fun q => ⟨_, _, rfl, q⟩⟩
theorem wl_cons {e : E} {es : Es} : WL gv cl (.cons e es) δ S QL ↔ WE gv cl e δ S fun d S1 => WL gv cl es δ S1 fun ds S2 => QL (d :: ds) S2 := by
  unfold WL WE
  constructor
  · rintro ⟨d, S', h, q⟩
    simp only [evs] at h
    split at h
    · cases h
    · rename_i e1
      split at h
      · cases h
      · rename_i e3; cases h; exact ⟨_, _, e1, _, _, e3, q⟩
  · rintro ⟨x, S1, h1, z, S2, h3, q⟩
    exact ⟨_, _, by simp only [evs, h1, h3], q⟩
theorem wr_it {e : E} : WR gv cl (.it e) δ S QL ↔ WE gv cl e δ S fun d S1 => ∃ ds, itemsOf d = some ds ∧ QL ds S1 := by
  unfold WR WE
  constructor
  · rintro ⟨d, S', h, q⟩
    simp only [evr] at h
    split at h
    · cases h
    · rename_i e1
      split at h
      · cases h
      · rename_i e3; cases h; exact ⟨_, _, e1, _, e3, q⟩
  · rintro ⟨x, S1, h1, z, h3, q⟩
    exact ⟨_, _, by simp only [evr, h1, h3], q⟩
theorem wr_rng {es : Es} : WR gv cl (.rng es) δ S QL ↔ WL gv cl es δ S fun d S1 => ∃ ds, rangeOf d = some ds ∧ QL ds S1 := by
  unfold WR WL
  constructor
  · rintro ⟨d, S', h, q⟩
    simp only [evr] at h
    split at h
    · cases h
    · rename_i e1
      split at h
      · cases h
      · rename_i e3; cases h; exact ⟨_, _, e1, _, e3, q⟩
  · rintro ⟨x, S1, h1, z, h3, q⟩
    exact ⟨_, _, by simp only [evr, h1, h3], q⟩
theorem wr_enum {e : E} : WR gv cl (.enum e) δ S QL ↔ WE gv cl e δ S fun d S1 => ∃ ds, enumOf d = some ds ∧ QL ds S1 := by
  unfold WR WE
  constructor
  · rintro ⟨d, S', h, q⟩
    simp only [evr] at h
    split at h
    · cases h
    · rename_i e1
      split at h
      · cases h
      · rename_i e3; cases h; exact ⟨_, _, e1, _, e3, q⟩
  · rintro ⟨x, S1, h1, z, h3, q⟩
    exact ⟨_, _, by simp only [evr, h1, h3], q⟩
theorem wr_zip {a b : E} : WR gv cl (.zip a b) δ S QL ↔ WE gv cl a δ S fun x S1 => WE gv cl b δ S1 fun y S2 => ∃ ds, zipOf x y = some ds ∧ QL ds S2 := by
  unfold WR WE
  constructor
  · rintro ⟨d, S', h, q⟩
    simp only [evr] at h
    split at h
    · cases h
    · rename_i e1
      split at h
      · cases h
      · rename_i e2
        split at h
        · cases h
        · rename_i e3; cases h; exact ⟨_, _, e1, _, _, e2, _, e3, q⟩
  · rintro ⟨x, S1, h1, y, S2, h2, z, h3, q⟩
    exact ⟨_, _, by simp only [evr, h1, h2, h3], q⟩
/-! statements -/
theorem ws_set {i : Nat} {e : E} : WS gv cl (.set i e) δ S QO ↔ WE gv cl e δ S fun d S1 => QO (.nx (δ.set i (.v d)) S1) := by
  unfold WS WE
  constructor
  · rintro ⟨o, h, q⟩
    simp only [exc] at h
    split at h
    · rename_i e; cases h; exact ⟨_, _, e, q⟩
    · cases h
  · rintro ⟨d, S', h, q⟩
    exact ⟨_, by simp only [exc, h], q⟩
theorem ws_own {i : Nat} {e : E} : WS gv cl (.own i e) δ S QO ↔ WE gv cl e δ S fun d S1 => ∃ ds, d = .lst ds ∧ QO (.nx (δ.set i (.o ds)) S1) := by
  unfold WS WE
  constructor
  · rintro ⟨o, h, q⟩
    simp only [exc] at h
    split at h
    · rename_i e; cases h; exact ⟨_, _, e, _, rfl, q⟩
    · cases h
  · rintro ⟨d, S', h, ds, rfl, q⟩
    exact ⟨_, by simp only [exc, h], q⟩
theorem ws_frz_o {i : Nat} {ds : List D} (h : δ[i]? = some (.o ds)) : WS gv cl (.frz i) δ S QO ↔ QO (.nx (δ.set i (.v (.lst ds))) S) := by
  unfold WS; simp only [exc, h]; exact ⟨fun ⟨_, h, q⟩ => by cases h; exact q, fun q => ⟨_, rfl, q⟩⟩
theorem ws_frz {i : Nat} : WS gv cl (.frz i) δ S QO ↔ ∃ x, δ[i]? = some x ∧ ((∃ ds, x = .o ds ∧ QO (.nx (δ.set i (.v (.lst ds))) S)) ∨ ∃ d, x = .v d ∧ QO (.nx δ S)) := by
  unfold WS
  constructor
  · rintro ⟨o, h, q⟩
    simp only [exc] at h
    split at h
    · rename_i e; cases h; exact ⟨_, e, .inl ⟨_, rfl, q⟩⟩
    · rename_i e; cases h; exact ⟨_, e, .inr ⟨_, rfl, q⟩⟩
    · cases h
  · rintro ⟨x, h, ⟨ds, rfl, q⟩ | ⟨d, rfl, q⟩⟩
    · exact ⟨_, by simp only [exc, h], q⟩
    · exact ⟨_, by simp only [exc, h], q⟩
theorem ws_unp {is : List Nat} {e : E} : WS gv cl (.unp is e) δ S QO ↔ WE gv cl e δ S fun d S1 => ∃ ds, d = .tup ds ∧ ∃ δ1, setMany is ds δ = some δ1 ∧ QO (.nx δ1 S1) := by
  unfold WS WE
  constructor
  · rintro ⟨o, h, q⟩
    simp only [exc] at h
    split at h
    · rename_i e
      split at h
      · rename_i e2; cases h; exact ⟨_, _, e, _, rfl, _, e2, q⟩
      · cases h
    · cases h
  · rintro ⟨d, S', h, ds, rfl, δ1, h2, q⟩
    exact ⟨_, by simp only [exc, h, h2], q⟩
theorem ws_unp2 {i : Nat} {js : List Nat} {e : E} : WS gv cl (.unp2 i js e) δ S QO ↔ WE gv cl e δ S fun d S1 => ∃ x ds, d = .tup [x, .tup ds] ∧ ∃ δ1, setMany js ds (δ.set i (.v x)) = some δ1 ∧ QO (.nx δ1 S1) := by
  unfold WS WE
  constructor
  · rintro ⟨o, h, q⟩
    simp only [exc] at h
    split at h
    · rename_i e
      split at h
      · rename_i e2; cases h; exact ⟨_, _, e, _, _, rfl, _, e2, q⟩
      · cases h
    · cases h
  · rintro ⟨d, S', h, x, ds, rfl, δ1, h2, q⟩
    exact ⟨_, by simp only [exc, h, h2], q⟩
theorem ws_par {i j : Nat} {a b : E} : WS gv cl (.par i j a b) δ S QO ↔ WE gv cl a δ S fun x S1 => WE gv cl b δ S1 fun y S2 => QO (.nx ((δ.set i (.v x)).set j (.v y)) S2) := by
  unfold WS WE
  constructor
  · rintro ⟨o, h, q⟩
    simp only [exc] at h
    split at h
    · rename_i e
      split at h
      · rename_i e2; cases h; exact ⟨_, _, e, _, _, e2, q⟩
      · cases h
    · cases h
  · rintro ⟨x, S1, h1, y, S2, h2, q⟩
    exact ⟨_, by simp only [exc, h1, h2], q⟩
theorem ws_app {i : Nat} {e : E} : WS gv cl (.app i e) δ S QO ↔ WE gv cl e δ S fun d S1 => ∃ ds, δ[i]? = some (.o ds) ∧ ds.length < lim ∧ QO (.nx (δ.set i (.o (ds ++ [d]))) S1) := by
  unfold WS WE
  constructor
  · rintro ⟨o, h, q⟩
    simp only [exc] at h
    split at h
    · rename_i e
      split at h
      · rename_i e2
        split at h
        · rename_i e3; cases h; exact ⟨_, _, e, _, e2, e3, q⟩
        · cases h
      · cases h
    · cases h
  · rintro ⟨d, S', h, ds, h2, h3, q⟩
    exact ⟨_, by simp only [exc, h, h2, if_pos h3], q⟩
theorem ws_oset {i : Nat} {j e : E} : WS gv cl (.oset i j e) δ S QO ↔ WE gv cl e δ S fun d S1 => WE gv cl j δ S1 fun y S2 => ∃ k, y = .int k ∧ ∃ ds, δ[i]? = some (.o ds) ∧ ∃ n, L2.ixN ds.length k = some n ∧ QO (.nx (δ.set i (.o (ds.set n d))) S2) := by
  unfold WS WE
  constructor
  · rintro ⟨o, h, q⟩
    simp only [exc] at h
    split at h
    · rename_i e
      split at h
      · rename_i e2
        split at h
        · rename_i e3
          split at h
          · rename_i e4; cases h; exact ⟨_, _, e, _, _, e2, _, rfl, _, e3, _, e4, q⟩
          · cases h
        · cases h
      · cases h
    · cases h
  · rintro ⟨d, S', h, y, S2, h1, k, rfl, ds, h2, n, h3, q⟩
    exact ⟨_, by simp only [exc, h, h1, h2, h3], q⟩
theorem ws_cset {a j e : E} : WS gv cl (.cset a j e) δ S QO ↔ WE gv cl e δ S fun d S1 => WE gv cl a δ S1 fun x S2 => ∃ c, x = .cell c ∧ WE gv cl j δ S2 fun y S3 => ∃ k, y = .int k ∧ ∃ ds, S3[c]? = some ds ∧ ∃ n, L2.ixN ds.length k = some n ∧ QO (.nx δ (S3.set c (ds.set n d))) := by
  unfold WS WE
  constructor
  · rintro ⟨o, h, q⟩
    simp only [exc] at h
    split at h
    · rename_i e
      split at h
      · rename_i e2
        split at h
        · rename_i e3
          split at h
          · rename_i e4
            split at h
            · rename_i e5; cases h; exact ⟨_, _, e, _, _, e2, _, rfl, _, _, e3, _, rfl, _, e4, _, e5, q⟩
            · cases h
          · cases h
        · cases h
      · cases h
    · cases h
  · rintro ⟨d, S', h, x, S2, h1, c, rfl, y, S3, h2, k, rfl, ds, h3, n, h4, q⟩
    exact ⟨_, by simp only [exc, h, h1, h2, h3, h4], q⟩
theorem ws_ifs {c : E} {a b : Ss} : WS gv cl (.ifs c a b) δ S QO ↔ WE gv cl c δ S fun x S1 => ∃ u, x = .bl u ∧ (u = true → WB gv cl a δ S1 QO) ∧ (u = false → WB gv cl b δ S1 QO) := by
  unfold WS WE WB
  constructor
  · rintro ⟨d, h, q⟩
    simp only [exc] at h
    split at h
    · rename_i e; exact ⟨_, _, e, _, rfl, fun _ => ⟨_, h, q⟩, fun h => by cases h⟩
    · rename_i e; exact ⟨_, _, e, _, rfl, fun h => by (cases h), fun _ => ⟨_, h, q⟩⟩
    · cases h
  · rintro ⟨x, S1, h1, u, rfl, ht, hf⟩
    cases u
    · obtain ⟨d, h, q⟩ := hf rfl
      exact ⟨_, by simp only [exc, h1, h], q⟩
    · obtain ⟨d, h, q⟩ := ht rfl
      exact ⟨_, by simp only [exc, h1, h], q⟩
theorem ws_fors {tg : Tg} {src : Sr} {body : Ss} : WS gv cl (.fors tg src body) δ S QO ↔ WR gv cl src δ S fun ds S1 => WF (excs gv cl body) tg ds δ S1 QO := by
  unfold WS WR WF
  constructor
  · rintro ⟨o, h, q⟩
    simp only [exc] at h
    split at h
    · rename_i e; exact ⟨_, _, e, _, h, q⟩
    · cases h
  · rintro ⟨d, S', h, o, h2, q⟩
    exact ⟨_, by simp only [exc, h, h2], q⟩
theorem ws_whil {c : E} {body : Ss} : WS gv cl (.whil c body) δ S QO ↔ WW (ev gv cl c) (excs gv cl body) turns δ S QO := by
  unfold WS WW; simp only [exc]
theorem ws_ret {e : E} : WS gv cl (.ret e) δ S QO ↔ WE gv cl e δ S fun d S1 => QO (.rt d S1) := by
  unfold WS WE
  constructor
  · rintro ⟨o, h, q⟩
    simp only [exc] at h
    split at h
    · rename_i e; cases h; exact ⟨_, _, e, q⟩
    · cases h
  · rintro ⟨d, S', h, q⟩
    exact ⟨_, by simp only [exc, h], q⟩
theorem ws_retn : WS gv cl .retn δ S QO ↔ QO (.rt .non S) := by
  unfold WS; simp only [exc]; exact ⟨fun ⟨_, h, q⟩ => by cases h; exact q, fun q => ⟨_, rfl, q⟩⟩
theorem ws_brk : WS gv cl .brk δ S QO ↔ QO (.bk δ S) := by
  unfold WS; simp only [exc]; exact ⟨fun ⟨_, h, q⟩ => by cases h; exact q, fun q => ⟨_, rfl, q⟩⟩
theorem ws_cnt : WS gv cl .cnt δ S QO ↔ QO (.ct δ S) := by
  unfold WS; simp only [exc]; exact ⟨fun ⟨_, h, q⟩ => by cases h; exact q, fun q => ⟨_, rfl, q⟩⟩
theorem ws_pas : WS gv cl .pas δ S QO ↔ QO (.nx δ S) := by
  unfold WS; simp only [exc]; exact ⟨fun ⟨_, h, q⟩ => by cases h; exact q, fun q => ⟨_, rfl, q⟩⟩
theorem ws_expr {e : E} : WS gv cl (.expr e) δ S QO ↔ WE gv cl e δ S fun _ S1 => QO (.nx δ S1) := by
  unfold WS WE
  constructor
  · rintro ⟨o, h, q⟩
    simp only [exc] at h
    split at h
    · rename_i e; cases h; exact ⟨_, _, e, q⟩
    · cases h
  · rintro ⟨d, S', h, q⟩
    exact ⟨_, by simp only [exc, h], q⟩
theorem wb_nil : WB gv cl .nil δ S QO ↔ QO (.nx δ S) := by
  unfold WB; simp only [excs]; exact ⟨fun ⟨_, h, q⟩ => by cases h; exact q, fun q => ⟨_, rfl, q⟩⟩
/-- what comes behind a statement -/
def thn (gv : GV) (cl : CallT) (r : Ss) (QO : Out → Prop) : Out → Prop
  | .nx δ S => WB gv cl r δ S QO
  | .rt d S => QO (.rt d S)
  | .bk δ S => QO (.bk δ S)
  | .ct δ S => QO (.ct δ S)
theorem wb_cons {s : Sm} {r : Ss} : WB gv cl (.cons s r) δ S QO ↔ WS gv cl s δ S (thn gv cl r QO) := by
  unfold WB WS
  simp only [excs]
  constructor
  · rintro ⟨o, h, q⟩
    split at h
    · rename_i e; exact ⟨_, e, _, h, q⟩
    · rename_i hn
      refine ⟨o, h, ?_⟩
      cases o with
      | nx δ1 S1 => exact absurd h (hn _ _)
      | _ => exact q
  · rintro ⟨o, h, q⟩
    cases o with
    | nx δ1 S1 =>
      obtain ⟨o2, h2, q2⟩ := q
      exact ⟨o2, by simp only [h, h2], q2⟩
    | _ => exact ⟨_, by rw [h], q⟩
theorem thn_nx {r : Ss} : thn gv cl r QO (.nx δ S) ↔ WB gv cl r δ S QO := Iff.rfl
theorem thn_rt {r : Ss} {d : D} : thn gv cl r QO (.rt d S) ↔ QO (.rt d S) := Iff.rfl
theorem thn_bk {r : Ss} : thn gv cl r QO (.bk δ S) ↔ QO (.bk δ S) := Iff.rfl
theorem thn_ct {r : Ss} : thn gv cl r QO (.ct δ S) ↔ QO (.ct δ S) := Iff.rfl
/-- what a def answers -/
def fin (Q : D → Store → Prop) : Out → Prop
  | .nx _ S => Q .non S
  | .rt d S => Q d S
  | _ => False
theorem fin_nx : fin Q (.nx δ S) ↔ Q .non S := Iff.rfl
theorem fin_rt {d : D} : fin Q (.rt d S) ↔ Q d S := Iff.rfl
theorem fin_bk : fin Q (.bk δ S) ↔ False := Iff.rfl
theorem fin_ct : fin Q (.ct δ S) ↔ False := Iff.rfl
/-- a turn's end -/
def turn (I : Env → Store → Prop) (QO : Out → Prop) : Out → Prop
  | .nx δ S => I δ S
  | .ct δ S => I δ S
  | .bk δ S => QO (.nx δ S)
  | .rt d S => QO (.rt d S)
variable {I : Env → Store → Prop}
theorem turn_nx : turn I QO (.nx δ S) ↔ I δ S := Iff.rfl
theorem turn_ct : turn I QO (.ct δ S) ↔ I δ S := Iff.rfl
theorem turn_bk : turn I QO (.bk δ S) ↔ QO (.nx δ S) := Iff.rfl
theorem turn_rt {d : D} : turn I QO (.rt d S) ↔ QO (.rt d S) := Iff.rfl
theorem WF_nil {f : Env → Store → Option Out} {tg : Tg} : WF f tg [] δ S QO ↔ QO (.nx δ S) := by
  unfold WF; simp only [forGo]; exact ⟨fun ⟨_, h, q⟩ => by cases h; exact q, fun q => ⟨_, rfl, q⟩⟩
theorem WF_cons {tg : Tg} {b : Ss} {d : D} {ds : List D} : WF (excs gv cl b) tg (d :: ds) δ S QO ↔ ∃ δ1, asg tg d δ = some δ1 ∧ WB gv cl b δ1 S (turn (fun δ S => WF (excs gv cl b) tg ds δ S QO) QO) := by
  unfold WF WB
  simp only [forGo]
  constructor
  · rintro ⟨o, h, q⟩
    split at h
    · cases h
    · rename_i e
      split at h
      · cases h
      · rename_i e1; exact ⟨_, e, _, e1, o, h, q⟩
      · rename_i e1; exact ⟨_, e, _, e1, o, h, q⟩
      · rename_i e1; cases h; exact ⟨_, e, _, e1, q⟩
      · rename_i e1; cases h; exact ⟨_, e, _, e1, q⟩
  · rintro ⟨δ1, h1, o, h2, q⟩
    cases o with
    | nx δ S => obtain ⟨o, h3, q⟩ := q; exact ⟨_, by simp only [h1, h2, h3], q⟩
    | ct δ S => obtain ⟨o, h3, q⟩ := q; exact ⟨_, by simp only [h1, h2, h3], q⟩
    | bk δ S => exact ⟨_, by simp only [h1, h2], q⟩
    | rt d S => exact ⟨_, by simp only [h1, h2], q⟩
end
section
variable {gv : GV} {cl : CallT}
theorem WB.mono {b : Ss} {δ : Env} {S : Store} {Q Q' : Out → Prop} (h : WB gv cl b δ S Q) (k : ∀ o, Q o → Q' o) : WB gv cl b δ S Q' := by
  obtain ⟨o, h, q⟩ := h; exact ⟨o, h, k o q⟩
theorem WE.mono {b : E} {δ : Env} {S : Store} {Q Q' : D → Store → Prop} (h : WE gv cl b δ S Q) (k : ∀ d S, Q d S → Q' d S) : WE gv cl b δ S Q' := by
  obtain ⟨o, S', h, q⟩ := h; exact ⟨o, S', h, k o S' q⟩
theorem WL.mono {b : Es} {δ : Env} {S : Store} {Q Q' : List D → Store → Prop} (h : WL gv cl b δ S Q) (k : ∀ d S, Q d S → Q' d S) : WL gv cl b δ S Q' := by
  obtain ⟨o, S', h, q⟩ := h; exact ⟨o, S', h, k o S' q⟩
theorem WC.mono {f : Nat} {ds : List D} {S : Store} {Q Q' : D → Store → Prop} (h : WC cl f ds S Q) (k : ∀ d S, Q d S → Q' d S) : WC cl f ds S Q' := by
  obtain ⟨o, S', h, q⟩ := h; exact ⟨o, S', h, k o S' q⟩
theorem wc_of {f : Nat} {ds : List D} {S S' : Store} {d : D} {Q : D → Store → Prop} (h : cl f ds S = some (d, S')) : WC cl f ds S Q ↔ Q d S' := by
  unfold WC; rw [h]; exact ⟨fun ⟨_, _, h, q⟩ => by cases h; exact q, fun q => ⟨_, _, rfl, q⟩⟩
theorem of_wc {f : Nat} {ds : List D} {S S' : Store} {d : D} (h : WC cl f ds S fun x T => x = d ∧ T = S') : cl f ds S = some (d, S') := by
  obtain ⟨_, _, h, rfl, rfl⟩ := h; exact h
/-- a def -/
theorem wc_def {pr : Nat → Option Fd} {n f : Nat} {fd : Fd} {ds : List D} {S : Store} {Q : D → Store → Prop} (hf : pr f = some fd) (hl : ds.length = fd.np) : WC (ec gv pr (n + 1)) f ds S Q ↔ WB gv (ec gv pr n) fd.body (envOf fd ds) S (fin Q) := by
  unfold WC WB
  simp only [ec, hf, if_pos hl]
  constructor
  · rintro ⟨d, S', h, q⟩
    split at h
    · rename_i e; cases h; exact ⟨_, e, q⟩
    · rename_i e; cases h; exact ⟨_, e, q⟩
    · cases h
  · rintro ⟨o, h, q⟩
    cases o with
    | nx => exact ⟨_, _, by rw [h], q⟩
    | rt => exact ⟨_, _, by rw [h], q⟩
    | bk => exact q.elim
    | ct => exact q.elim
theorem wc_def' {pr : Nat → Option Fd} {n f : Nat} {fd : Fd} {ds : List D} {S : Store} {Q : D → Store → Prop} (hn : 0 < n) (hf : pr f = some fd) (hl : ds.length = fd.np) : WC (ec gv pr n) f ds S Q ↔ WB gv (ec gv pr (n - 1)) fd.body (envOf fd ds) S (fin Q) := by
  obtain ⟨m, rfl⟩ : ∃ m, n = m + 1 := ⟨n - 1, by omega⟩
  exact wc_def hf hl
/-- a for's loop by what it keeps -/
theorem WF_inv {α : Type} (enc : α → D) {tg : Tg} {b : Ss} {QO : Out → Prop} (I : List α → Env → Store → Prop) : ∀ {post pre : List α} {δ : Env} {S : Store}, I pre δ S →
    (∀ pre' x post', pre ++ post = pre' ++ x :: post' → ∀ δ S, I pre' δ S → ∃ δ1, asg tg (enc x) δ = some δ1 ∧ WB gv cl b δ1 S (turn (I (pre' ++ [x])) QO)) → (∀ δ S, I (pre ++ post) δ S → QO (.nx δ S)) → WF (excs gv cl b) tg (post.map enc) δ S QO
  | [], pre, δ, S, h0, hs, he => by
    rw [List.map_nil, WF_nil]
    exact he _ _ (by simpa using h0)
  | x :: xs, pre, δ, S, h0, hs, he => by
    rw [List.map_cons, WF_cons]
    obtain ⟨δ1, h1, h2⟩ := hs pre x xs rfl δ S h0
    refine ⟨δ1, h1, h2.mono fun o => ?_⟩
    have next : ∀ δ S, I (pre ++ [x]) δ S → WF (excs gv cl b) tg (xs.map enc) δ S QO := fun δ S h => WF_inv enc I h (fun p y q e => hs p y q (by simpa using e)) fun δ S h => he δ S (by simpa using h)
    cases o with
    | nx δ S => exact next δ S
    | ct δ S => exact next δ S
    | bk δ S => exact id
    | rt d S => exact id
theorem wf_inv {α : Type} (enc : α → D) (xs : List α) {tg : Tg} {b : Ss} {QO : Out → Prop} {δ : Env} {S : Store} (I : List α → Env → Store → Prop) (h0 : I [] δ S)
    (hs : ∀ pre x post, xs = pre ++ x :: post → ∀ δ S, I pre δ S → ∃ δ1, asg tg (enc x) δ = some δ1 ∧ WB gv cl b δ1 S (turn (I (pre ++ [x])) QO)) (he : ∀ δ S, I xs δ S → QO (.nx δ S)) : WF (excs gv cl b) tg (xs.map enc) δ S QO :=
  WF_inv enc I h0 (fun p y q e => hs p y q e) he
/-- a loop whose turns keep a thing, whatever the item -/
theorem wf_keep {tg : Tg} {b : Ss} {QO : Out → Prop} (I : Env → Store → Prop) : ∀ {ds : List D} {δ : Env} {S : Store}, I δ S →
    (∀ d, d ∈ ds → ∀ δ S, I δ S → ∃ δ1, asg tg d δ = some δ1 ∧ WB gv cl b δ1 S (turn I QO)) → (∀ δ S, I δ S → QO (.nx δ S)) → WF (excs gv cl b) tg ds δ S QO
  | [], δ, S, h0, hs, he => by rw [WF_nil]; exact he _ _ h0
  | d :: ds, δ, S, h0, hs, he => by
    rw [WF_cons]
    obtain ⟨δ1, h1, h2⟩ := hs d List.mem_cons_self δ S h0
    refine ⟨δ1, h1, h2.mono fun o => ?_⟩
    have next : ∀ δ S, I δ S → WF (excs gv cl b) tg ds δ S QO := fun δ S h => wf_keep I h (fun d hd => hs d (List.mem_cons_of_mem _ hd)) he
    cases o with
    | nx δ S => exact next δ S
    | ct δ S => exact next δ S
    | bk δ S => exact id
    | rt d S => exact id
/-- a while's loop by a measure -/
theorem ww_inv {c : E} {b : Ss} {QO : Out → Prop} (I : Nat → Env → Store → Prop)
    (h : ∀ k δ S, I k δ S → WE gv cl c δ S fun d S1 => ∃ u, d = .bl u ∧ (u = false → QO (.nx δ S1)) ∧ (u = true → WB gv cl b δ S1 (turn (fun δ S => ∃ k', k' < k ∧ I k' δ S) QO))) : ∀ (N k : Nat) (δ : Env) (S : Store), I k δ S → k < N → WW (ev gv cl c) (excs gv cl b) N δ S QO
  | 0, k, δ, S, _, hk => by omega
  | N + 1, k, δ, S, hi, hk => by
    obtain ⟨d, S1, h1, u, rfl, hf, ht⟩ := h k δ S hi
    unfold WW
    cases u
    · exact ⟨_, by simp only [whGo, h1], hf rfl⟩
    · obtain ⟨o, h2, q⟩ := ht rfl
      cases o with
      | nx δ2 S2 =>
        obtain ⟨k', hk', hi'⟩ := q
        obtain ⟨o, h3, q⟩ := ww_inv I h N k' δ2 S2 hi' (by omega)
        exact ⟨_, by simp only [whGo, h1, h2, h3], q⟩
      | ct δ2 S2 =>
        obtain ⟨k', hk', hi'⟩ := q
        obtain ⟨o, h3, q⟩ := ww_inv I h N k' δ2 S2 hi' (by omega)
        exact ⟨_, by simp only [whGo, h1, h2, h3], q⟩
      | bk δ2 S2 => exact ⟨_, by simp only [whGo, h1, h2], q⟩
      | rt d S2 => exact ⟨_, by simp only [whGo, h1, h2], q⟩
/-! comprehensions -/
theorem wg_nil {f : Env → Store → Option (D × Store)} {c : Env → Store → Option (List D × Store)} {tg : Tg} {δ : Env} {S : Store} {Q : List D → Store → Prop} : WG f c tg δ [] S Q ↔ Q [] S := by
  unfold WG; simp only [lcGo]; exact ⟨fun ⟨_, _, h, q⟩ => by cases h; exact q, fun q => ⟨_, _, rfl, q⟩⟩
theorem wg_cons {e : E} {c : Es} {tg : Tg} {δ : Env} {S : Store} {d : D} {ds : List D} {Q : List D → Store → Prop} : WG (ev gv cl e) (evs gv cl c) tg δ (d :: ds) S Q ↔ ∃ δ1, asg tg d δ = some δ1 ∧ WL gv cl c δ1 S fun t S1 => ∃ u, testOf t = some u ∧
    (u = false → WG (ev gv cl e) (evs gv cl c) tg δ ds S1 Q) ∧ (u = true → WE gv cl e δ1 S1 fun x S2 => WG (ev gv cl e) (evs gv cl c) tg δ ds S2 fun xs S3 => Q (x :: xs) S3) := by
  unfold WG WL WE
  simp only [lcGo]
  constructor
  · rintro ⟨o, S', h, q⟩
    split at h
    · cases h
    · rename_i e1
      split at h
      · cases h
      · rename_i e2
        split at h
        · cases h
        · rename_i e3; exact ⟨_, e1, _, _, e2, _, e3, fun _ => ⟨_, _, h, q⟩, fun h => by cases h⟩
        · rename_i e3
          split at h
          · cases h
          · rename_i e4
            split at h
            · cases h
            · rename_i e5; cases h; exact ⟨_, e1, _, _, e2, _, e3, fun h => by (cases h), fun _ => ⟨_, _, e4, _, _, e5, q⟩⟩
  · rintro ⟨δ1, h1, t, S1, h2, u, h3, hf, ht⟩
    cases u
    · obtain ⟨xs, S', h4, q⟩ := hf rfl
      exact ⟨_, _, by simp only [h1, h2, h3, h4], q⟩
    · obtain ⟨x, S2, h4, xs, S3, h5, q⟩ := ht rfl
      exact ⟨_, _, by simp only [h1, h2, h3, h4, h5], q⟩
/-- a comprehension that leaves the cells alone -/
theorem wg_map {α : Type} (enc g : α → D) (p : α → Bool) {e : E} {c : Es} {tg : Tg} {δ : Env} {S : Store} : ∀ {xs : List α} {Q : List D → Store → Prop}, (∀ x, x ∈ xs → ∃ δ1, asg tg (enc x) δ = some δ1 ∧ WL gv cl c δ1 S fun t S1 => S1 = S ∧ testOf t = some (p x) ∧ (p x = true → WE gv cl e δ1 S fun y S2 => y = g x ∧ S2 = S)) →
    Q ((xs.filter p).map g) S → WG (ev gv cl e) (evs gv cl c) tg δ (xs.map enc) S Q
  | [], Q, h, q => by rw [List.map_nil, wg_nil]; exact q
  | x :: xs, Q, h, q => by
    rw [List.map_cons, wg_cons]
    obtain ⟨δ1, h1, h2⟩ := h x List.mem_cons_self
    have hr := fun y hy => h y (List.mem_cons_of_mem _ hy)
    refine ⟨δ1, h1, h2.mono ?_⟩
    rintro t S1 ⟨rfl, h3, h4⟩
    refine ⟨_, h3, fun hf => wg_map enc g p hr ?_, fun ht => (h4 ht).mono ?_⟩
    · rw [List.filter_cons_of_neg (by rw [hf]; decide)] at q; exact q
    · rintro y S2 ⟨rfl, rfl⟩
      refine wg_map enc g p hr ?_
      rw [List.filter_cons_of_pos ht] at q; exact q
theorem wg_all {α : Type} (enc g : α → D) {e : E} {tg : Tg} {δ : Env} {S : Store} {xs : List α} {Q : List D → Store → Prop} (h : ∀ x, x ∈ xs → ∃ δ1, asg tg (enc x) δ = some δ1 ∧ WE gv cl e δ1 S fun y S2 => y = g x ∧ S2 = S) (q : Q (xs.map g) S) : WG (ev gv cl e) (evs gv cl .nil) tg δ (xs.map enc) S Q := by
  refine wg_map enc g (fun _ => true) (fun x hx => ?_) (by rw [List.filter_eq_self.mpr (fun _ _ => rfl)]; exact q)
  obtain ⟨δ1, h1, h2⟩ := h x hx
  exact ⟨δ1, h1, wl_nil.mpr ⟨rfl, rfl, fun _ => h2⟩⟩
/-- a comprehension that keeps a thing of the cells -/
theorem wg_inv {e : E} {tg : Tg} {δ : Env} (I : Store → List D → Prop) : ∀ {ds : List D} {S : Store} {pre : List D} {Q : List D → Store → Prop}, I S pre → (∀ d, d ∈ ds → ∀ S pre, I S pre → ∃ δ1, asg tg d δ = some δ1 ∧ WE gv cl e δ1 S fun y S2 => I S2 (pre ++ [y])) →
    (∀ S xs, I S (pre ++ xs) → xs.length = ds.length → Q xs S) → WG (ev gv cl e) (evs gv cl .nil) tg δ ds S Q
  | [], S, pre, Q, h0, hs, q => by rw [wg_nil]; exact q _ _ (by simpa using h0) rfl
  | d :: ds, S, pre, Q, h0, hs, q => by
    rw [wg_cons]
    obtain ⟨δ1, h1, h2⟩ := hs d List.mem_cons_self S pre h0
    refine ⟨δ1, h1, wl_nil.mpr ⟨true, rfl, fun h => (by cases h), fun _ => h2.mono fun y S2 hy => ?_⟩⟩
    exact wg_inv I hy (fun d hd => hs d (List.mem_cons_of_mem _ hd)) fun S xs h hl => q _ _ (by simpa using h) (by simp [hl])
end
end MP

namespace MP
open PySem

abbrev F.is_integer : Nat := 0
abbrev F.is_link : Nat := 1
abbrev F.is_joint : Nat := 2
abbrev F.has_form : Nat := 3
abbrev F.leaves : Nat := 4
abbrev F.is_frame : Nat := 5
abbrev F._law_cell_at : Nat := 6
abbrev F._law_draws : Nat := 7
abbrev F._law_bag : Nat := 8
abbrev F._law_bags : Nat := 9
abbrev F._law_take : Nat := 10
abbrev F._law_far_draw : Nat := 11
abbrev F._law_from : Nat := 12
abbrev F._law_spoilt : Nat := 13
abbrev F._law_odd : Nat := 14
abbrev F._law_link : Nat := 15
abbrev F._law_frame : Nat := 16
abbrev F._law_links : Nat := 17
abbrev F._law_link_good : Nat := 18
abbrev F._law_depth : Nat := 19
abbrev F._law_frame_good : Nat := 20
abbrev F.law_k01 : Nat := 21

def fd_is_integer : Fd := { np := 3, nn := 3, body := (.cons (.ret (.and (.isi (.var 0) [.int]) (.and (.nt (.isi (.var 0) [.bool])) (.chain .le .le (.var 1) (.var 0) (.var 2))))) .nil) }
def fd_is_link : Fd := { np := 1, nn := 3, body := (.cons (.ifs (.or (.nt (.isi (.var 0) [.tuple])) (.or (.op .eq (.var 0) (.tup .nil)) (.or (.nt (.isi (.ix (.var 0) (.ci 0)) [.str])) (.inD true "SIZES" (.ix (.var 0) (.ci 0)))))) (.cons (.ret (.cb false)) .nil) .nil) (.cons (.set 1 (.sl (.var 0) (.cons (.ci 1) .nil) .nil)) (.cons (.ifs (.or (.op .ne (.b1 .len (.var 1)) (.getD "SIZES" (.ix (.var 0) (.ci 0)))) (.nt (.b1 .all (.lc (.call F.is_integer (.cons (.var 2) (.cons (.ci 0) (.cons (.glob "MOST_LENGTH") .nil)))) (.nm 2) (.it (.var 1)) .nil)))) (.cons (.ret (.cb false)) .nil) .nil) (.cons (.ret (.op .le (.ix (.var 1) (.ci 0)) (.ix (.var 1) (.neg (.ci 1))))) .nil)))) }
def fd_is_joint : Fd := { np := 1, nn := 1, body := (.cons (.ifs (.or (.nt (.isi (.var 0) [.tuple])) (.nt (.chain .le .le (.ci 3) (.b1 .len (.var 0)) (.ci 7)))) (.cons (.ret (.cb false)) .nil) .nil) (.cons (.ret (.and (.isi (.ix (.var 0) (.ci 0)) [.str]) (.op .isin (.ix (.var 0) (.ci 0)) (.tup (.cons (.cs "row") (.cons (.cs "side") .nil)))))) .nil)) }
def fd_has_form : Fd := { np := 3, nn := 4, body := (.cons (.ifs (.calll 2 (.cons (.var 0) .nil)) (.cons (.ret (.op .ge (.var 1) (.ci 1))) .nil) .nil) (.cons (.ifs (.or (.nt (.call F.is_joint (.cons (.var 0) .nil))) (.op .lt (.var 1) (.ci 2))) (.cons (.ret (.cb false)) .nil) .nil) (.cons (.ret (.b1 .all (.lc (.call F.has_form (.cons (.var 3) (.cons (.op .sub (.var 1) (.ci 1)) (.cons (.var 2) .nil)))) (.nm 3) (.it (.sl (.var 0) (.cons (.ci 1) .nil) .nil)) .nil))) .nil))) }
def fd_leaves : Fd := { np := 1, nn := 3, body := (.cons (.ifs (.nt (.call F.is_joint (.cons (.var 0) .nil))) (.cons (.ret (.lst (.cons (.var 0) .nil))) .nil) .nil) (.cons (.set 1 (.lst .nil)) (.cons (.fors (.nm 2) (.it (.sl (.var 0) (.cons (.ci 1) .nil) .nil)) (.cons (.set 1 (.op .add (.var 1) (.call F.leaves (.cons (.var 2) .nil)))) .nil)) (.cons (.ret (.var 1)) .nil)))) }
def fd_is_frame : Fd := { np := 1, nn := 1, body := (.cons (.ret (.and (.call F.has_form (.cons (.var 0) (.cons (.glob "MOST_DEEP") (.cons (.glob "is_link") .nil)))) (.op .le (.b1 .len (.call F.leaves (.cons (.var 0) .nil))) (.glob "MOST_LINKS")))) .nil) }
def fd__law_cell_at : Fd := { np := 2, nn := 2, body := (.cons (.ifs (.op .lt (.var 1) (.b1 .len (.var 0))) (.cons (.ret (.ix (.var 0) (.var 1))) .nil) .nil) (.cons (.ret (.ci 0)) .nil)) }
def fd__law_draws : Fd := { np := 3, nn := 7, body := (.cons (.own 3 (.lst .nil)) (.cons (.set 4 (.op .mul (.var 0) (.b1 .int (.op .ge (.var 0) (.op .pow (.ci 10) (.ci 18)))))) (.cons (.set 5 (.op .mod (.var 0) (.ci 2305843009213693951))) (.cons (.fors (.nm 6) (.rng (.cons (.op .add (.var 1) (.ci 3)) .nil)) (.cons (.set 5 (.op .mod (.op .add (.op .add (.op .add (.op .mul (.var 5) (.var 5)) (.op .mul (.ci 48271) (.var 5))) (.var 6)) (.ci 1)) (.ci 2305843009213693951))) (.cons (.ifs (.and (.op .gt (.var 6) (.ci 2)) (.op .gt (.var 4) (.ci 0))) (.cons (.app 3 (.op .mod (.var 4) (.var 2))) (.cons (.set 4 (.op .fdiv (.var 4) (.var 2))) .nil)) (.cons (.ifs (.op .gt (.var 6) (.ci 2)) (.cons (.app 3 (.op .mod (.op .fdiv (.var 5) (.ci 4096)) (.var 2))) .nil) .nil) .nil)) .nil))) (.cons (.frz 3) (.cons (.ret (.var 3)) .nil)))))) }
def fd__law_bag : Fd := { np := 2, nn := 2, body := (.cons (.ret (.newc (.cons (.call F._law_draws (.cons (.call F._law_cell_at (.cons (.var 0) (.cons (.var 1) .nil))) (.cons (.ci 400) (.cons (.ci 1000) .nil)))) (.cons (.ci 0) .nil)))) .nil) }
def fd__law_bags : Fd := { np := 2, nn := 3, body := (.cons (.ret (.lc (.call F._law_bag (.cons (.var 0) (.cons (.var 2) .nil))) (.nm 2) (.rng (.cons (.b2 .max (.ci 1) (.b2 .min (.var 1) (.b1 .len (.var 0)))) .nil)) .nil)) .nil) }
def fd__law_take : Fd := { np := 2, nn := 2, body := (.cons (.cset (.var 0) (.ci 1) (.op .add (.ix (.var 0) (.ci 1)) (.ci 1))) (.cons (.ret (.op .mod (.ix (.ix (.var 0) (.ci 0)) (.op .mod (.ix (.var 0) (.ci 1)) (.b1 .len (.ix (.var 0) (.ci 0))))) (.var 1))) .nil)) }
def fd__law_far_draw : Fd := { np := 2, nn := 4, body := (.cons (.par 2 3 (.ci 0) (.var 1)) (.cons (.whil (.op .gt (.var 3) (.ci 0)) (.cons (.par 2 3 (.op .add (.op .mul (.ci 1000) (.var 2)) (.call F._law_take (.cons (.var 0) (.cons (.ci 1000) .nil)))) (.op .fdiv (.var 3) (.ci 1000))) .nil)) (.cons (.ret (.ix (.lst (.cons (.op .mod (.var 2) (.var 1)) (.cons (.ci 0) (.cons (.op .sub (.var 1) (.ci 1)) (.cons (.op .mod (.var 2) (.var 1)) .nil))))) (.call F._law_take (.cons (.var 0) (.cons (.ci 4) .nil))))) .nil))) }
def fd__law_from : Fd := { np := 3, nn := 3, body := (.cons (.ret (.and (.isi (.var 0) [.int]) (.and (.nt (.isi (.var 0) [.bool])) (.and (.op .le (.var 1) (.var 0)) (.op .le (.var 0) (.var 2)))))) .nil) }
def fd__law_spoilt : Fd := { np := 2, nn := 5, body := (.cons (.ifs (.or (.nt (.isi (.var 0) [.tuple, .list])) (.or (.op .eq (.b1 .len (.var 0)) (.ci 0)) (.or (.op .lt (.b1 .len (.var 1)) (.ci 9)) (.op .eq (.op .mod (.ix (.var 1) (.ci 0)) (.ci 9)) (.ci 0))))) (.cons (.ret (.call F._law_odd (.cons (.sl (.var 1) (.cons (.ci 1) .nil) .nil) .nil))) .nil) .nil) (.cons (.own 2 (.b1 .list (.var 0))) (.cons (.set 3 (.op .mod (.ix (.var 1) (.ci 1)) (.olen 2))) (.cons (.set 4 (.op .mod (.ix (.var 1) (.ci 2)) (.ci 12))) (.cons (.ifs (.op .eq (.var 4) (.ci 0)) (.cons (.own 2 (.op .add (.osl 2 .nil (.cons (.var 3) .nil)) (.osl 2 (.cons (.op .add (.var 3) (.ci 1)) .nil) .nil))) .nil) (.cons (.ifs (.op .eq (.var 4) (.ci 1)) (.cons (.own 2 (.op .add (.osl 2 .nil (.cons (.op .add (.var 3) (.ci 1)) .nil)) (.osl 2 (.cons (.var 3) .nil) .nil))) .nil) (.cons (.ifs (.op .eq (.var 4) (.ci 2)) (.cons (.own 2 (.op .add (.osl 2 (.cons (.var 3) .nil) .nil) (.osl 2 .nil (.cons (.var 3) .nil)))) .nil) (.cons (.ifs (.op .eq (.var 4) (.ci 3)) (.cons (.own 2 (.op .add (.op .add (.osl 2 .nil (.cons (.var 3) .nil)) (.lst (.cons (.call F._law_odd (.cons (.sl (.var 1) (.cons (.ci 3) .nil) .nil) .nil)) .nil))) (.osl 2 (.cons (.var 3) .nil) .nil))) .nil) (.cons (.ifs (.op .gt (.var 4) (.ci 4)) (.cons (.oset 2 (.var 3) (.call F._law_spoilt (.cons (.oix 2 (.var 3)) (.cons (.sl (.var 1) (.cons (.ci 4) .nil) .nil) .nil)))) .nil) .nil) .nil)) .nil)) .nil)) .nil)) (.cons (.ifs (.op .eq (.isi (.var 0) [.tuple]) (.op .eq (.var 4) (.ci 4))) (.cons (.frz 2) (.cons (.ret (.var 2)) .nil)) .nil) (.cons (.frz 2) (.cons (.ret (.b1 .tuple (.var 2))) .nil)))))))) }
def fd__law_odd : Fd := { np := 1, nn := 2, body := (.cons (.set 1 (.lst (.cons .cn (.cons (.cb true) (.cons (.cb false) (.cons (.neg (.ci 1)) (.cons (.ci 0) (.cons (.ci 1) (.cons (.ci 2) (.cons (.op .add (.op .pow (.ci 10) (.ci 9)) (.ci 1)) (.cons (.op .add (.op .pow (.ci 10) (.ci 12)) (.ci 1)) (.cons (.op .pow (.ci 10) (.ci 30)) .nil)))))))))))) (.cons (.set 1 (.op .add (.var 1) (.lst (.cons (.cs "") (.cons (.cs "bar") (.cons (.cs "arm") (.cons (.tup .nil) (.cons (.lst .nil) (.cons (.tup (.cons (.ci 1) .nil)) (.cons (.tup (.cons (.cs "bar") .nil)) (.cons (.tup (.cons (.cs "bar") (.cons (.ci 5) .nil))) (.cons (.lst (.cons (.cs "bar") (.cons (.ci 5) .nil))) (.cons (.tup (.cons (.cs "bar") (.cons (.neg (.ci 1)) .nil))) .nil))))))))))))) (.cons (.set 1 (.op .add (.var 1) (.lst (.cons (.tup (.cons (.cs "bar") (.cons (.ci 5) (.cons (.ci 6) .nil)))) (.cons (.tup (.cons (.cs "piston") (.cons (.ci 5) (.cons (.ci 3) .nil)))) (.cons (.tup (.cons (.cs "cut") (.cons (.ci 1) (.cons (.ci 1) .nil)))) (.cons (.tup (.cons (.cs "cable") (.cons (.cb true) .nil))) (.cons (.tup (.cons (.cs "rope") (.cons (.ci 3) .nil))) (.cons (.tup (.cons (.cs "bar") (.cons (.cs "5") .nil))) .nil))))))))) (.cons (.set 1 (.op .add (.var 1) (.lst (.cons (.tup (.cons (.cs "row") (.cons (.tup (.cons (.cs "bar") (.cons (.ci 1) .nil))) .nil))) (.cons (.tup (.cons (.cs "side") (.cons (.tup (.cons (.cs "bar") (.cons (.ci 1) .nil))) (.cons (.tup (.cons (.cs "bar") (.cons (.ci 2) .nil))) .nil)))) (.cons (.tup (.cons (.cs "row") .nil)) (.cons (.tup (.cons (.cs "row") (.cons (.tup (.cons (.cs "bar") (.cons (.ci 1) .nil))) (.cons .cn .nil)))) .nil))))))) (.cons (.set 1 (.op .add (.var 1) (.lst (.cons (.lst (.cons (.cs "row") (.cons (.tup (.cons (.cs "bar") (.cons (.ci 1) .nil))) (.cons (.tup (.cons (.cs "bar") (.cons (.ci 1) .nil))) .nil)))) (.cons (.tup (.cons (.cs "ring") (.cons (.tup (.cons (.cs "bar") (.cons (.ci 1) .nil))) (.cons (.tup (.cons (.cs "bar") (.cons (.ci 1) .nil))) .nil)))) (.cons (.tup (.cons (.tup (.cons (.cs "bar") (.cons (.ci 1) .nil))) (.cons (.tup (.cons (.cs "bar") (.cons (.ci 2) .nil))) .nil))) .nil)))))) (.cons (.ret (.ix (.var 1) (.op .mod (.op .add (.ix (.var 0) (.ci 0)) (.op .mul (.ci 7) (.ix (.var 0) (.ci 1)))) (.b1 .len (.var 1))))) .nil)))))) }
def fd__law_link : Fd := { np := 2, nn := 4, body := (.cons (.par 2 3 (.ix (.lst (.cons (.cs "bar") (.cons (.cs "piston") (.cons (.cs "cable") (.cons (.cs "strut") (.cons (.cs "cut") (.cons (.cs "bar") .nil))))))) (.call F._law_take (.cons (.var 0) (.cons (.ci 6) .nil)))) (.call F._law_far_draw (.cons (.var 0) (.cons (.op .add (.var 1) (.ci 1)) .nil)))) (.cons (.ifs (.op .isin (.var 2) (.tup (.cons (.cs "piston") (.cons (.cs "cut") .nil)))) (.cons (.ret (.tup (.cons (.var 2) (.cons (.var 3) (.cons (.op .add (.var 3) (.call F._law_far_draw (.cons (.var 0) (.cons (.op .add (.op .sub (.var 1) (.var 3)) (.ci 1)) .nil)))) .nil))))) .nil) .nil) (.cons (.ret (.tup (.cons (.var 2) (.cons (.var 3) .nil)))) .nil))) }
def fd__law_frame : Fd := { np := 4, nn := 7, body := (.cons (.ifs (.or (.op .lt (.var 1) (.ci 2)) (.or (.op .lt (.var 2) (.ci 2)) (.op .eq (.call F._law_take (.cons (.var 0) (.cons (.ci 5) .nil))) (.ci 0)))) (.cons (.ret (.call F._law_link (.cons (.var 0) (.cons (.var 3) .nil)))) .nil) .nil) (.cons (.set 4 (.op .add (.ci 2) (.call F._law_take (.cons (.var 0) (.cons (.op .sub (.b2 .min (.var 1) (.ci 6)) (.ci 1)) .nil))))) (.cons (.set 5 (.tup (.cons (.ix (.lst (.cons (.cs "row") (.cons (.cs "side") .nil))) (.call F._law_take (.cons (.var 0) (.cons (.ci 2) .nil)))) .nil))) (.cons (.fors (.nm 6) (.rng (.cons (.var 4) .nil)) (.cons (.set 5 (.op .add (.var 5) (.tup (.cons (.call F._law_frame (.cons (.var 0) (.cons (.op .fdiv (.var 1) (.var 4)) (.cons (.op .sub (.var 2) (.ci 1)) (.cons (.var 3) .nil))))) .nil)))) .nil)) (.cons (.ret (.var 5)) .nil))))) }
def fd__law_links : Fd := { np := 1, nn := 3, body := (.cons (.ifs (.op .notin (.ix (.var 0) (.ci 0)) (.tup (.cons (.cs "row") (.cons (.cs "side") .nil)))) (.cons (.ret (.lst (.cons (.var 0) .nil))) .nil) .nil) (.cons (.set 1 (.lst .nil)) (.cons (.fors (.nm 2) (.it (.sl (.var 0) (.cons (.ci 1) .nil) .nil)) (.cons (.set 1 (.op .add (.var 1) (.call F._law_links (.cons (.var 2) .nil)))) .nil)) (.cons (.ret (.var 1)) .nil)))) }
def fd__law_link_good : Fd := { np := 1, nn := 2, body := (.cons (.ifs (.or (.nt (.isi (.var 0) [.tuple])) (.or (.op .lt (.b1 .len (.var 0)) (.ci 2)) (.nt (.isi (.ix (.var 0) (.ci 0)) [.str])))) (.cons (.ret (.cb false)) .nil) .nil) (.cons (.ifs (.op .ne (.lc (.var 1) (.nm 1) (.it (.sl (.var 0) (.cons (.ci 1) .nil) .nil)) (.cons (.nt (.call F._law_from (.cons (.var 1) (.cons (.ci 0) (.cons (.op .pow (.ci 10) (.ci 9)) .nil))))) .nil)) (.lst .nil)) (.cons (.ret (.cb false)) .nil) .nil) (.cons (.ifs (.op .isin (.ix (.var 0) (.ci 0)) (.tup (.cons (.cs "bar") (.cons (.cs "cable") (.cons (.cs "strut") .nil))))) (.cons (.ret (.op .eq (.b1 .len (.var 0)) (.ci 2))) .nil) .nil) (.cons (.ret (.and (.op .isin (.ix (.var 0) (.ci 0)) (.tup (.cons (.cs "piston") (.cons (.cs "cut") .nil)))) (.and (.op .eq (.b1 .len (.var 0)) (.ci 3)) (.op .le (.ix (.var 0) (.ci 1)) (.ix (.var 0) (.ci 2)))))) .nil)))) }
def fd__law_depth : Fd := { np := 1, nn := 2, body := (.cons (.ifs (.call F._law_link_good (.cons (.var 0) .nil)) (.cons (.ret (.ci 1)) .nil) .nil) (.cons (.ifs (.or (.nt (.isi (.var 0) [.tuple])) (.or (.nt (.chain .le .le (.ci 3) (.b1 .len (.var 0)) (.ci 7))) (.nt (.isi (.ix (.var 0) (.ci 0)) [.str])))) (.cons (.ret (.ci 99)) .nil) .nil) (.cons (.ifs (.op .notin (.ix (.var 0) (.ci 0)) (.tup (.cons (.cs "row") (.cons (.cs "side") .nil)))) (.cons (.ret (.ci 99)) .nil) .nil) (.cons (.ret (.op .add (.ci 1) (.b1 .max (.lc (.call F._law_depth (.cons (.var 1) .nil)) (.nm 1) (.it (.sl (.var 0) (.cons (.ci 1) .nil) .nil)) .nil)))) .nil)))) }
def fd__law_frame_good : Fd := { np := 1, nn := 1, body := (.cons (.ret (.and (.op .le (.call F._law_depth (.cons (.var 0) .nil)) (.ci 6)) (.op .le (.b1 .len (.call F._law_links (.cons (.var 0) .nil))) (.ci 30)))) .nil) }
def fd_law_k01 : Fd := { np := 1, nn := 9, body := (.cons (.fors (.nm 1) (.it (.call F._law_bags (.cons (.var 0) (.cons (.ci 8) .nil)))) (.cons (.set 2 (.call F._law_frame (.cons (.var 1) (.cons (.ci 12) (.cons (.ci 4) (.cons (.ix (.lst (.cons (.ci 9) (.cons (.op .pow (.ci 10) (.ci 9)) .nil))) (.call F._law_take (.cons (.var 1) (.cons (.ci 2) .nil)))) .nil)))))) (.cons (.fors (.nm 3) (.rng (.cons (.ci 12) .nil)) (.cons (.set 4 (.lc (.call F._law_take (.cons (.var 1) (.cons (.ci 1000) .nil))) (.nm 8) (.rng (.cons (.ci 20) .nil)) .nil)) (.cons (.set 5 (.ix (.lst (.cons (.var 2) (.cons (.call F._law_spoilt (.cons (.var 2) (.cons (.var 4) .nil))) (.cons (.call F._law_odd (.cons (.var 4) .nil)) (.cons (.tup (.cons (.cs "row") (.cons (.var 2) (.cons (.call F._law_odd (.cons (.var 4) .nil)) .nil)))) .nil))))) (.call F._law_take (.cons (.var 1) (.cons (.ci 4) .nil))))) (.cons (.ifs (.op .ne (.b1 .repr (.call F.is_frame (.cons (.var 5) .nil))) (.b1 .repr (.call F._law_frame_good (.cons (.var 5) .nil)))) (.cons (.ret (.cb false)) .nil) .nil) (.cons (.set 5 (.ix (.lst (.cons (.call F._law_link (.cons (.var 1) (.cons (.op .pow (.ci 10) (.ci 9)) .nil))) (.cons (.call F._law_spoilt (.cons (.tup (.cons (.cs "piston") (.cons (.ci 2) (.cons (.ci 9) .nil)))) (.cons (.var 4) .nil))) (.cons (.call F._law_odd (.cons (.var 4) .nil)) .nil)))) (.call F._law_take (.cons (.var 1) (.cons (.ci 3) .nil))))) (.cons (.ifs (.op .ne (.b1 .repr (.call F.is_link (.cons (.var 5) .nil))) (.b1 .repr (.call F._law_link_good (.cons (.var 5) .nil)))) (.cons (.ret (.cb false)) .nil) .nil) .nil)))))) .nil))) (.cons (.set 6 (.op .add (.tup (.cons (.cs "side") .nil)) (.op .mul (.tup (.cons (.tup (.cons (.cs "bar") (.cons (.ci 1) .nil))) .nil)) (.ci 6)))) (.cons (.set 7 (.tup (.cons (.cs "bar") (.cons (.ci 0) .nil)))) (.cons (.fors (.nm 3) (.rng (.cons (.ci 5) .nil)) (.cons (.set 7 (.tup (.cons (.cs "row") (.cons (.var 7) (.cons (.tup (.cons (.cs "cable") (.cons (.op .pow (.ci 10) (.ci 9)) .nil))) .nil))))) .nil)) (.cons (.ifs (.op .ne (.lst (.cons (.call F.is_frame (.cons (.op .add (.tup (.cons (.cs "row") .nil)) (.op .mul (.tup (.cons (.var 6) .nil)) (.ci 5))) .nil)) (.cons (.call F.is_frame (.cons (.op .add (.tup (.cons (.cs "row") (.cons (.tup (.cons (.cs "bar") (.cons (.ci 1) .nil))) .nil))) (.op .mul (.tup (.cons (.var 6) .nil)) (.ci 5))) .nil)) .nil))) (.lst (.cons (.cb true) (.cons (.cb false) .nil)))) (.cons (.ret (.cb false)) .nil) .nil) (.cons (.ret (.op .eq (.lst (.cons (.call F.is_frame (.cons (.var 7) .nil)) (.cons (.call F.is_frame (.cons (.tup (.cons (.cs "side") (.cons (.var 7) (.cons (.var 7) .nil)))) .nil)) (.cons (.call F.is_frame (.cons (.op .add (.var 6) (.tup (.cons (.tup (.cons (.cs "bar") (.cons (.ci 1) .nil))) .nil))) .nil)) .nil)))) (.lst (.cons (.cb true) (.cons (.cb false) (.cons (.cb false) .nil)))))) .nil)))))) }

def prl : List (Option Fd) := [some fd_is_integer, some fd_is_link, some fd_is_joint, some fd_has_form, some fd_leaves, some fd_is_frame, some fd__law_cell_at, some fd__law_draws, some fd__law_bag, some fd__law_bags, some fd__law_take, some fd__law_far_draw, some fd__law_from, some fd__law_spoilt, some fd__law_odd, some fd__law_link, some fd__law_frame, some fd__law_links, some fd__law_link_good, some fd__law_depth, some fd__law_frame_good, some fd_law_k01]
def pr (n : Nat) : Option Fd := (prl[n]?).getD none
def gls : List (Str × D) := [("MOST_DEEP", .int 6), ("MOST_LENGTH", .int 1000000000), ("MOST_LINKS", .int 30), ("is_link", .fn F.is_link)]
def tbs : List (Str × List (Str × D)) := [("SIZES", [("bar", .int 1), ("piston", .int 2), ("cable", .int 1), ("strut", .int 1), ("cut", .int 2)])]
def gv : GV := ⟨fun x => gls.lookup x, fun x => tbs.lookup x⟩
abbrev call (n f : Nat) (ds : List D) (S : Store) : Option (D × Store) := ec gv pr n f ds S
theorem pr_is_integer : pr F.is_integer = some fd_is_integer := rfl
theorem pr_is_link : pr F.is_link = some fd_is_link := rfl
theorem pr_is_joint : pr F.is_joint = some fd_is_joint := rfl
theorem pr_has_form : pr F.has_form = some fd_has_form := rfl
theorem pr_leaves : pr F.leaves = some fd_leaves := rfl
theorem pr_is_frame : pr F.is_frame = some fd_is_frame := rfl
theorem pr__law_cell_at : pr F._law_cell_at = some fd__law_cell_at := rfl
theorem pr__law_draws : pr F._law_draws = some fd__law_draws := rfl
theorem pr__law_bag : pr F._law_bag = some fd__law_bag := rfl
theorem pr__law_bags : pr F._law_bags = some fd__law_bags := rfl
theorem pr__law_take : pr F._law_take = some fd__law_take := rfl
theorem pr__law_far_draw : pr F._law_far_draw = some fd__law_far_draw := rfl
theorem pr__law_from : pr F._law_from = some fd__law_from := rfl
theorem pr__law_spoilt : pr F._law_spoilt = some fd__law_spoilt := rfl
theorem pr__law_odd : pr F._law_odd = some fd__law_odd := rfl
theorem pr__law_link : pr F._law_link = some fd__law_link := rfl
theorem pr__law_frame : pr F._law_frame = some fd__law_frame := rfl
theorem pr__law_links : pr F._law_links = some fd__law_links := rfl
theorem pr__law_link_good : pr F._law_link_good = some fd__law_link_good := rfl
theorem pr__law_depth : pr F._law_depth = some fd__law_depth := rfl
theorem pr__law_frame_good : pr F._law_frame_good = some fd__law_frame_good := rfl
theorem pr_law_k01 : pr F.law_k01 = some fd_law_k01 := rfl
end MP

/-! SpA: small facts of operators, links and frames as data. -/
namespace MP
open PySem

theorem nn_non : D.nn .non = true := rfl
theorem nn_int {i : Int} : D.nn (.int i) = false := rfl
theorem nn_bl {i : Bool} : D.nn (.bl i) = false := rfl
theorem nn_str {i : Str} : D.nn (.str i) = false := rfl
theorem nn_tup {i : List D} : D.nn (.tup i) = false := rfl
theorem nn_lst {i : List D} : D.nn (.lst i) = false := rfl
theorem op_add {i j : Int} : op2 .add (.int i) (.int j) = some (.int (i + j)) := rfl
theorem op_addT {xs ys : List D} : op2 .add (.tup xs) (.tup ys) = if xs.length + ys.length ≤ lim then some (.tup (xs ++ ys)) else none := rfl
theorem op_addL {xs ys : List D} : op2 .add (.lst xs) (.lst ys) = if xs.length + ys.length ≤ lim then some (.lst (xs ++ ys)) else none := rfl
theorem p10_6 : op2 .pow (.int 10) (.int 6) = some (.int 1000000) := rfl
theorem p10_7 : op2 .pow (.int 10) (.int 7) = some (.int 10000000) := rfl
theorem p10_8 : op2 .pow (.int 10) (.int 8) = some (.int 100000000) := rfl
theorem p10_9 : op2 .pow (.int 10) (.int 9) = some (.int 1000000000) := rfl
theorem p10_10 : op2 .pow (.int 10) (.int 10) = some (.int 10000000000) := rfl
theorem p10_11 : op2 .pow (.int 10) (.int 11) = some (.int 100000000000) := rfl
theorem p10_12 : op2 .pow (.int 10) (.int 12) = some (.int 1000000000000) := rfl
theorem op_sub {i j : Int} : op2 .sub (.int i) (.int j) = some (.int (i - j)) := rfl
theorem op_mul {i j : Int} : op2 .mul (.int i) (.int j) = if mulOk i j then some (.int (i * j)) else none := rfl
theorem op_fdiv {i j : Int} : op2 .fdiv (.int i) (.int j) = if decide (0 < j) && decide (j < 1073741824) then some (.int (i / j)) else none := rfl
theorem op_mod {i j : Int} : op2 .mod (.int i) (.int j) = if 0 < j then some (.int (i % j)) else none := rfl
theorem op_lt {i j : Int} : op2 .lt (.int i) (.int j) = some (.bl (decide (i < j))) := rfl
theorem op_le {i j : Int} : op2 .le (.int i) (.int j) = some (.bl (decide (i ≤ j))) := rfl
theorem op_gt {i j : Int} : op2 .gt (.int i) (.int j) = some (.bl (decide (j < i))) := rfl
theorem op_ge {i j : Int} : op2 .ge (.int i) (.int j) = some (.bl (decide (j ≤ i))) := rfl
theorem op_eqI {i j : Int} : op2 .eq (.int i) (.int j) = some (.bl (decide (i = j))) := by
  simp only [op2, D.cmp, D.pl, D.dep, D.eqb, Nat.zero_le, decide_true, Bool.and_self, if_true]; rw [show (i == j) = decide (i = j) from rfl]
theorem op_neI {i j : Int} : op2 .ne (.int i) (.int j) = some (.bl (!decide (i = j))) := by
  simp only [op2, D.cmp, D.pl, D.dep, D.eqb, Nat.zero_le, decide_true, Bool.and_self, if_true]; rw [show (i == j) = decide (i = j) from rfl]
theorem op_eqS {i j : Str} : op2 .eq (.str i) (.str j) = some (.bl (decide (i = j))) := by
  simp only [op2, D.cmp, D.pl, D.dep, D.eqb, Nat.zero_le, decide_true, Bool.and_self, if_true]; rw [show (i == j) = decide (i = j) from rfl]
theorem op_neS {i j : Str} : op2 .ne (.str i) (.str j) = some (.bl (!decide (i = j))) := by
  simp only [op2, D.cmp, D.pl, D.dep, D.eqb, Nat.zero_le, decide_true, Bool.and_self, if_true]; rw [show (i == j) = decide (i = j) from rfl]
theorem len_tup {xs : List D} : bi1 .len (.tup xs) = some (.int xs.length) := rfl
theorem len_lst {xs : List D} : bi1 .len (.lst xs) = some (.int xs.length) := rfl
theorem len_rol {xs : List D} : bi1 .len (.rol xs) = some (.int xs.length) := rfl
theorem abs_int {i : Int} : bi1 .abs (.int i) = some (.int (if i < 0 then -i else i)) := rfl
theorem int_int {i : Int} : bi1 .int (.int i) = some (.int i) := rfl
theorem int_bl {i : Bool} : bi1 .int (.bl i) = some (.int (if i then 1 else 0)) := rfl
theorem max2 {i j : Int} : bi2 .max (.int i) (.int j) = some (.int (max i j)) := by
  show some (D.int (if j > i then j else i)) = _
  congr 2; split <;> omega
theorem min2 {i j : Int} : bi2 .min (.int i) (.int j) = some (.int (min i j)) := by
  show some (D.int (if j < i then j else i)) = _
  congr 2; split <;> omega
theorem atI_0 {α : Type} {x : α} {xs : List α} : L2.atI (x :: xs) 0 = some x := by simp [L2.atI, L2.ixN]
theorem atI_nat {α : Type} {xs : List α} {k : Nat} (h : k < xs.length) : L2.atI xs (k : Int) = xs[k]? := by
  simp only [L2.atI, L2.ixN]
  rw [if_pos (by omega), if_pos (by omega)]
  simp
theorem atI_int {α : Type} {xs : List α} {k : Int} (h0 : 0 ≤ k) (h : k < xs.length) : L2.atI xs k = xs[k.toNat]? := by
  simp only [L2.atI, L2.ixN]
  rw [if_pos (by omega), if_pos (by omega)]
  simp
theorem atI_1 {α : Type} {x y : α} {xs : List α} : L2.atI (x :: y :: xs) 1 = some y := by
  rw [atI_int (by omega) (by simp; omega)]; rfl
theorem atI_2 {α : Type} {x y z : α} {xs : List α} : L2.atI (x :: y :: z :: xs) 2 = some z := by
  rw [atI_int (by omega) (by simp; omega)]; rfl
theorem atI_last {α : Type} {xs : List α} (h : xs ≠ []) : L2.atI xs (-1) = xs.getLast? := by
  have : 0 < xs.length := List.length_pos_iff.mpr h
  simp only [L2.atI, L2.ixN]
  rw [if_neg (by omega), if_pos (by omega), List.getLast?_eq_getElem?]
  show xs[(-1 + (xs.length : Int)).toNat]? = _
  congr 1
  omega
theorem cutD_from {xs : List D} {k : Nat} : cutD xs (some (k : Int)) none = xs.drop k := by
  unfold cutD
  rw [HT.sIx_nat, HT.sIx_none]
  by_cases h : k ≤ xs.length
  · rw [Nat.min_eq_left h, List.take_of_length_le (by rw [List.length_drop]; omega)]
  · rw [Nat.min_eq_right (by omega), List.drop_of_length_le (Nat.le_refl _), List.drop_of_length_le (by omega)]; simp
theorem cutD_to {xs : List D} {k : Nat} : cutD xs none (some (k : Int)) = xs.take k := by
  unfold cutD
  rw [HT.sIx_nat, HT.sIx_none]
  rw [List.drop_zero, Nat.sub_zero]
  by_cases h : k ≤ xs.length
  · rw [Nat.min_eq_left h]
  · rw [Nat.min_eq_right (by omega), List.take_of_length_le (Nat.le_refl _), List.take_of_length_le (by omega)]
theorem cutD_1 {x : D} {xs : List D} : cutD (x :: xs) (some 1) none = xs := cutD_from (k := 1)
theorem it_int_non  : isTys [.int] (.non) = some false := rfl
theorem it_int_bl {b : Bool} : isTys [.int] (.bl b) = some true := rfl
theorem it_int_int {i : Int} : isTys [.int] (.int i) = some true := rfl
theorem it_int_str {s : Str} : isTys [.int] (.str s) = some false := rfl
theorem it_int_tup {xs : List D} : isTys [.int] (.tup xs) = some false := rfl
theorem it_int_lst {xs : List D} : isTys [.int] (.lst xs) = some false := rfl
theorem it_int_rol {xs : List D} : isTys [.int] (.rol xs) = some false := rfl
theorem it_bool_non  : isTys [.bool] (.non) = some false := rfl
theorem it_bool_bl {b : Bool} : isTys [.bool] (.bl b) = some true := rfl
theorem it_bool_int {i : Int} : isTys [.bool] (.int i) = some false := rfl
theorem it_bool_str {s : Str} : isTys [.bool] (.str s) = some false := rfl
theorem it_bool_tup {xs : List D} : isTys [.bool] (.tup xs) = some false := rfl
theorem it_bool_lst {xs : List D} : isTys [.bool] (.lst xs) = some false := rfl
theorem it_bool_rol {xs : List D} : isTys [.bool] (.rol xs) = some false := rfl
theorem it_str_non  : isTys [.str] (.non) = some false := rfl
theorem it_str_bl {b : Bool} : isTys [.str] (.bl b) = some false := rfl
theorem it_str_int {i : Int} : isTys [.str] (.int i) = some false := rfl
theorem it_str_str {s : Str} : isTys [.str] (.str s) = some true := rfl
theorem it_str_tup {xs : List D} : isTys [.str] (.tup xs) = some false := rfl
theorem it_str_lst {xs : List D} : isTys [.str] (.lst xs) = some false := rfl
theorem it_str_rol {xs : List D} : isTys [.str] (.rol xs) = some false := rfl
theorem it_tuple_non  : isTys [.tuple] (.non) = some false := rfl
theorem it_tuple_bl {b : Bool} : isTys [.tuple] (.bl b) = some false := rfl
theorem it_tuple_int {i : Int} : isTys [.tuple] (.int i) = some false := rfl
theorem it_tuple_str {s : Str} : isTys [.tuple] (.str s) = some false := rfl
theorem it_tuple_tup {xs : List D} : isTys [.tuple] (.tup xs) = some true := rfl
theorem it_tuple_lst {xs : List D} : isTys [.tuple] (.lst xs) = some false := rfl
theorem it_tuple_rol {xs : List D} : isTys [.tuple] (.rol xs) = some false := rfl
theorem it_list_non  : isTys [.list] (.non) = some false := rfl
theorem it_list_bl {b : Bool} : isTys [.list] (.bl b) = some false := rfl
theorem it_list_int {i : Int} : isTys [.list] (.int i) = some false := rfl
theorem it_list_str {s : Str} : isTys [.list] (.str s) = some false := rfl
theorem it_list_tup {xs : List D} : isTys [.list] (.tup xs) = some false := rfl
theorem it_list_lst {xs : List D} : isTys [.list] (.lst xs) = some true := rfl
theorem it_list_rol {xs : List D} : isTys [.list] (.rol xs) = some true := rfl
theorem ix_tup {S : Store} {xs : List D} {i : Int} : ix S (.tup xs) (.int i) = L2.atI xs i := rfl
theorem ix_lst {S : Store} {xs : List D} {i : Int} : ix S (.lst xs) (.int i) = L2.atI xs i := rfl
theorem ix_rol {S : Store} {xs : List D} {i : Int} : ix S (.rol xs) (.int i) = L2.atI xs i := rfl
theorem ix_cell {S : Store} {j : Nat} {i : Int} : ix S (.cell j) (.int i) = (S[j]?).bind fun xs => L2.atI xs i := rfl
theorem op_inS2 {x a b : Str} : op2 .isin (.str x) (.tup [.str a, .str b]) = some (.bl (decide (a = x) || (decide (b = x)))) := by
  simp only [op2, D.flat, List.all_cons, List.all_nil, List.any_cons, List.any_nil, D.eqb, Bool.and_self, if_true, Bool.or_false]
  rfl
theorem sl_tup {xs : List D} {l h : Option Int} : slc (.tup xs) l h = some (.tup (cutD xs l h)) := rfl
theorem sl_lst {xs : List D} {l h : Option Int} : slc (.lst xs) l h = some (.lst (cutD xs l h)) := rfl
theorem items_tup {xs : List D} : itemsOf (.tup xs) = some xs := rfl
theorem items_lst {xs : List D} : itemsOf (.lst xs) = some xs := rfl
theorem cutD_from1 {xs : List D} {k : Nat} : cutD xs (some ((k : Int) + 1)) none = xs.drop (k + 1) := cutD_from (k := k + 1)
theorem pls_of : ∀ {xs : List D}, (∀ x, x ∈ xs → x.pl = true) → D.pls xs = true
  | [], _ => rfl
  | x :: xs, h => by simp only [D.pls, h x List.mem_cons_self, pls_of fun y hy => h y (List.mem_cons_of_mem _ hy), Bool.and_self]
theorem deps_of {n : Nat} : ∀ {xs : List D}, (∀ x, x ∈ xs → x.dep ≤ n) → D.deps xs ≤ n
  | [], _ => Nat.zero_le _
  | x :: xs, h => Nat.max_le.mpr ⟨h x List.mem_cons_self, deps_of fun y hy => h y (List.mem_cons_of_mem _ hy)⟩
theorem cmp_lst {α : Type} {f : α → D} {xs : List α} {n : Nat} (h : ∀ x, x ∈ xs → (f x).pl = true ∧ (f x).dep ≤ n) (hn : n ≤ 59) : D.cmp (.lst (xs.map f)) = true := by
  simp only [D.cmp, D.pl, D.dep, Bool.and_eq_true, decide_eq_true_eq]
  refine ⟨pls_of fun y hy => ?_, ?_⟩
  · obtain ⟨x, hx, rfl⟩ := List.mem_map.mp hy; exact (h x hx).1
  · have := deps_of (n := n) (xs := xs.map f) fun y hy => by obtain ⟨x, hx, rfl⟩ := List.mem_map.mp hy; exact (h x hx).2
    exact decide_eq_true (Nat.succ_le_succ (Nat.le_trans this hn))
theorem cmp_int {i : Int} : D.cmp (.int i) = true := rfl
theorem cmp_non : D.cmp .non = true := rfl
theorem cmp_str {s : Str} : D.cmp (.str s) = true := rfl
theorem cmp_dInts {xs : List Int} : D.cmp (.lst (xs.map .int)) = true := cmp_lst (n := 0) (fun _ _ => ⟨rfl, Nat.le_refl _⟩) (by decide)
theorem cmp_nilL : D.cmp (.lst []) = true := rfl
theorem op_isinL {a : D} {ds : List D} (h1 : a.cmp = true) (h2 : D.cmp (.lst ds) = true) : op2 .isin a (.lst ds) = some (.bl (ds.any fun z => D.eqb z a)) := by
  show (if a.cmp && (D.lst ds).cmp then _ else _) = _
  rw [h1, h2]; rfl
theorem op_notinL {a : D} {ds : List D} (h1 : a.cmp = true) (h2 : D.cmp (.lst ds) = true) : op2 .notin a (.lst ds) = some (.bl (!ds.any fun z => D.eqb z a)) := by
  show (if a.cmp && (D.lst ds).cmp then _ else _) = _
  rw [h1, h2]; rfl
theorem op_eqD {a b : D} (h1 : a.cmp = true) (h2 : b.cmp = true) : op2 .eq a b = some (.bl (D.eqb a b)) := by
  show (if a.cmp && b.cmp then _ else _) = _
  rw [h1, h2]; rfl
theorem op_neD {a b : D} (h1 : a.cmp = true) (h2 : b.cmp = true) : op2 .ne a b = some (.bl (!D.eqb a b)) := by
  show (if a.cmp && b.cmp then _ else _) = _
  rw [h1, h2]; rfl
theorem dInts_map : ∀ {xs : List Int}, dInts (xs.map .int) = some xs
  | [] => rfl
  | x :: xs => by simp only [List.map_cons, dInts, dInts_map, Option.map_some]
theorem dBls_map : ∀ {xs : List Bool}, dBls (xs.map .bl) = some xs
  | [] => rfl
  | x :: xs => by simp only [List.map_cons, dBls, dBls_map, Option.map_some]
theorem sum_ints {xs : List Int} : bi1 .sum (.lst (xs.map .int)) = some (.int xs.sum) := by simp only [bi1, dInts_map, Option.map_some]
theorem max_ints {xs : List Int} (h : xs ≠ []) : bi1 .max (.lst (xs.map .int)) = some (.int (maxI xs)) := by
  simp only [bi1, dInts_map, Option.bind_some]; rw [if_neg (by simpa using h)]
theorem min_ints {xs : List Int} (h : xs ≠ []) : bi1 .min (.lst (xs.map .int)) = some (.int (minI xs)) := by
  simp only [bi1, dInts_map, Option.bind_some]; rw [if_neg (by simpa using h)]
theorem all_bls {xs : List Bool} : bi1 .all (.lst (xs.map .bl)) = some (.bl (xs.all id)) := by simp only [bi1, dBls_map, Option.map_some]
theorem any_bls {xs : List Bool} : bi1 .any (.lst (xs.map .bl)) = some (.bl (xs.any id)) := by simp only [bi1, dBls_map, Option.map_some]
theorem eqbs_ints : ∀ {xs ys : List Int}, D.eqbs (xs.map .int) (ys.map .int) = decide (xs = ys)
  | [], [] => rfl
  | [], _ :: _ => rfl
  | _ :: _, [] => rfl
  | x :: xs, y :: ys => by
    simp only [List.map_cons, D.eqbs, D.eqb, eqbs_ints, List.cons.injEq, Bool.decide_and]; rfl
theorem eqb_ints {xs ys : List Int} : D.eqb (.lst (xs.map .int)) (.lst (ys.map .int)) = decide (xs = ys) := by simp only [D.eqb, eqbs_ints]
theorem eqb_nilL {α : Type} {f : α → D} : ∀ {xs : List α}, D.eqb (.lst (xs.map f)) (.lst []) = xs.isEmpty
  | [] => rfl
  | _ :: _ => rfl
theorem eqb_nilL' : ∀ {xs : List D}, D.eqb (.lst xs) (.lst []) = xs.isEmpty
  | [] => rfl
  | _ :: _ => rfl
theorem isin_ints {a : Int} {xs : List Int} : op2 .isin (.int a) (.lst (xs.map .int)) = some (.bl (decide (a ∈ xs))) := by
  rw [op_isinL rfl cmp_dInts, List.any_map]
  congr 2
  rw [Bool.eq_iff_iff]
  simp only [List.any_eq_true, Function.comp, decide_eq_true_eq]
  constructor
  · rintro ⟨x, hx, e⟩
    have e : (x == a) = true := e
    rw [beq_iff_eq] at e; rw [← e]; exact hx
  · exact fun h => ⟨a, h, beq_self_eq_true a⟩
theorem range_1 {j : Int} (h0 : 0 ≤ j) (h1 : j ≤ 1000000) : rangeOf [.int j] = some ((List.range j.toNat).map fun i => .int (i : Nat)) := by
  show (if decide (-(2 ^ 62) ≤ j) && decide (j ≤ lim) then some (range2 0 j) else none) = _
  rw [if_pos (by simp; omega)]
  unfold range2
  simp
theorem range_2 {i j : Int} (h0 : 0 ≤ i) (h2 : i ≤ 1000000000000) (h1 : j - i ≤ 1000000) (h3 : -1000 ≤ j) : rangeOf [.int i, .int j] = some ((List.range (j - i).toNat).map fun (k : Nat) => .int (i + (k : Int))) := by
  show (if decide (-(2 ^ 62) ≤ i) && decide (i < 2 ^ 62) && decide (-(2 ^ 62) ≤ j) && decide (j < 2 ^ 62) && decide (j - i ≤ lim) then some (range2 i j) else none) = _
  rw [if_pos (by simp; omega)]
  rfl
theorem range_12 {m : Nat} (h : m ≤ 1000) : rangeOf [.int 1, .int ((m : Int) + 1)] = some ((List.range m).map fun (k : Nat) => .int ((k + 1 : Nat) : Int)) := by
  rw [range_2 (by decide) (by decide) (by omega) (by omega), show ((m : Int) + 1 - 1).toNat = m by omega]
  refine congrArg some (List.map_congr_left fun k _ => ?_)
  congr 1
  omega
theorem enumD_eq {α : Type} (f : α → D) : ∀ (xs : List α) (k : Nat), enumD k (xs.map f) = (xs.zipIdx k).map fun p => .tup [.int p.2, f p.1]
  | [], _ => rfl
  | x :: xs, k => by rw [List.map_cons, enumD, enumD_eq f xs (k + 1)]; rfl
theorem enum_lst {α : Type} {f : α → D} {xs : List α} : enumOf (.lst (xs.map f)) = some (xs.zipIdx.map fun p => .tup [.int p.2, f p.1]) := by
  rw [enumOf, enumD_eq]
section
variable {gv : GV} {cl : CallT}
theorem wb_if_no {c : E} {a r : Ss} {δ : Env} {S : Store} {QO : Out → Prop} (h : WE gv cl c δ S fun d S' => d = .bl false ∧ S' = S) (k : WB gv cl r δ S QO) : WB gv cl (.cons (.ifs c a .nil) r) δ S QO := by
  rw [wb_cons, ws_ifs]
  refine h.mono ?_
  rintro d S' ⟨rfl, rfl⟩
  refine ⟨false, rfl, fun h => (by cases h), fun _ => ?_⟩
  rw [wb_nil]
  exact k
theorem wb_set {i : Nat} {e : E} {r : Ss} {d : D} {δ : Env} {S : Store} {QO : Out → Prop} (h : WE gv cl e δ S fun x S' => x = d ∧ S' = S) (k : WB gv cl r (δ.set i (.v d)) S QO) : WB gv cl (.cons (.set i e) r) δ S QO := by
  rw [wb_cons, ws_set]
  refine h.mono ?_
  rintro x S' ⟨rfl, rfl⟩
  exact k
theorem WF_range (enc : Nat → D) {tg : Tg} {b : Ss} {QO : Out → Prop} (I : Nat → Env → Store → Prop) : ∀ (m k : Nat) {δ : Env} {S : Store}, I k δ S →
    (∀ j, k ≤ j → j < k + m → ∀ δ S, I j δ S → ∃ δ1, asg tg (enc j) δ = some δ1 ∧ WB gv cl b δ1 S (turn (I (j + 1)) QO)) → (∀ δ S, I (k + m) δ S → QO (.nx δ S)) → WF (excs gv cl b) tg ((List.range' k m).map enc) δ S QO
  | 0, k, δ, S, h0, hs, he => by rw [List.range'_zero, List.map_nil, WF_nil]; exact he _ _ h0
  | m + 1, k, δ, S, h0, hs, he => by
    rw [List.range'_succ, List.map_cons, WF_cons]
    obtain ⟨δ1, h1, h2⟩ := hs k (Nat.le_refl _) (by omega) δ S h0
    refine ⟨δ1, h1, h2.mono fun o => ?_⟩
    have next : ∀ δ S, I (k + 1) δ S → WF (excs gv cl b) tg ((List.range' (k + 1) m).map enc) δ S QO := fun δ S h => WF_range enc I m (k + 1) h (fun j h1 h2 => hs j (by omega) (by omega)) fun δ S h => he δ S (by rw [show k + (m + 1) = k + 1 + m by omega]; exact h)
    cases o with
    | nx δ S => exact next δ S
    | ct δ S => exact next δ S
    | bk δ S => exact id
    | rt d S => exact id
theorem wf_range (enc : Nat → D) (m : Nat) {tg : Tg} {b : Ss} {QO : Out → Prop} {δ : Env} {S : Store} (I : Nat → Env → Store → Prop) (h0 : I 0 δ S)
    (hs : ∀ j, j < m → ∀ δ S, I j δ S → ∃ δ1, asg tg (enc j) δ = some δ1 ∧ WB gv cl b δ1 S (turn (I (j + 1)) QO)) (he : ∀ δ S, I m δ S → QO (.nx δ S)) : WF (excs gv cl b) tg ((List.range m).map enc) δ S QO := by
  rw [List.range_eq_range']
  exact WF_range enc I m 0 h0 (fun j _ h => hs j (by omega)) (by rw [Nat.zero_add]; exact he)
theorem wf_enum {α : Type} (f : α → D) (xs : List α) {tg : Tg} {b : Ss} {QO : Out → Prop} {δ : Env} {S : Store} (I : Nat → Env → Store → Prop) (h0 : I 0 δ S)
    (hs : ∀ j x, xs[j]? = some x → ∀ δ S, I j δ S → ∃ δ1, asg tg (.tup [.int (j : Nat), f x]) δ = some δ1 ∧ WB gv cl b δ1 S (turn (I (j + 1)) QO)) (he : ∀ δ S, I xs.length δ S → QO (.nx δ S)) : WF (excs gv cl b) tg (xs.zipIdx.map fun p => .tup [.int p.2, f p.1]) δ S QO := by
  cases xs with
  | nil => rw [List.zipIdx_nil, List.map_nil, WF_nil]; exact he _ _ h0
  | cons x0 r =>
    have e : ((x0 :: r).zipIdx.map fun p => D.tup [.int p.2, f p.1]) = (List.range (x0 :: r).length).map fun i => .tup [.int (i : Nat), f ((x0 :: r).getD i x0)] := by
      apply List.ext_getElem?
      intro i
      simp only [List.getElem?_map, List.getElem?_zipIdx]
      by_cases h : i < (x0 :: r).length
      · rw [List.getElem?_range h]; simp [List.getElem?_eq_getElem h]
      · have h2 := Nat.le_of_not_lt h
        rw [List.getElem?_eq_none h2, List.getElem?_eq_none (by simpa using h2)]; rfl
    rw [e]
    refine wf_range _ _ I h0 (fun j hj δ S hI => ?_) he
    have := hs j (x0 :: r)[j] (List.getElem?_eq_getElem hj) δ S hI
    simpa [List.getD_eq_getElem?_getD, List.getElem?_eq_getElem hj] using this
end
/-! links and frames -/
inductive Kd where
  | bar | piston | cable | strut | cut
  deriving DecidableEq
def Kd.s : Kd → Str
  | .bar => "bar"
  | .piston => "piston"
  | .cable => "cable"
  | .strut => "strut"
  | .cut => "cut"
theorem Kd.ty : ∀ k : Kd, (k.s : Str) ≠ "row" ∧ (k.s : Str) ≠ "side" := by
  intro k; cases k <;> decide +kernel
theorem Kd.inj : ∀ {a b : Kd}, (a.s = b.s) = (a = b) := by
  intro a b; cases a <;> cases b <;> simp only [eq_iff_iff] <;> decide +kernel
theorem Kd.is_cable {k : Kd} : (k.s = ("cable" : Str)) = (k = .cable) := Kd.inj (b := .cable)
theorem Kd.is_strut {k : Kd} : (k.s = ("strut" : Str)) = (k = .strut) := Kd.inj (b := .strut)
theorem Kd.is_bar {k : Kd} : (k.s = ("bar" : Str)) = (k = .bar) := Kd.inj (b := .bar)
theorem Kd.is_piston {k : Kd} : (k.s = ("piston" : Str)) = (k = .piston) := Kd.inj (b := .piston)
theorem Kd.is_cut {k : Kd} : (k.s = ("cut" : Str)) = (k = .cut) := Kd.inj (b := .cut)
theorem Kd.is_row {k : Kd} : (k.s = ("row" : Str)) = False := by simp [(Kd.ty k).1]
theorem Kd.is_side {k : Kd} : (k.s = ("side" : Str)) = False := by simp [(Kd.ty k).2]
theorem row_side : (("row" : Str) = ("side" : Str)) = False := by simp only [eq_iff_iff]; decide +kernel
theorem side_row : (("side" : Str) = ("row" : Str)) = False := by simp only [eq_iff_iff]; decide +kernel
def Kd.two : Kd → Bool
  | .piston | .cut => true
  | _ => false
structure Lk where
  k : Kd
  lo : Int
  hi : Int
  deriving DecidableEq
def Lk.d (l : Lk) : D := if l.k.two then .tup [.str l.k.s, .int l.lo, .int l.hi] else .tup [.str l.k.s, .int l.lo]
structure Lk.ok (M : Int) (l : Lk) : Prop where
  lo : 0 ≤ l.lo
  le : l.lo ≤ l.hi
  hi : l.hi ≤ M
  one : l.k.two = false → l.hi = l.lo
inductive Fr where
  | leaf (l : Lk) | jt (row : Bool) (ps : List Fr)
def jw (row : Bool) : Str := if row then "row" else "side"
mutual
def Fr.d : Fr → D
  | .leaf l => l.d
  | .jt r ps => .tup (.str (jw r) :: Fr.ds ps)
def Fr.ds : List Fr → List D
  | [] => []
  | p :: ps => Fr.d p :: Fr.ds ps
end
mutual
def Fr.dep : Fr → Nat
  | .leaf _ => 1
  | .jt _ ps => Fr.deps ps + 1
def Fr.deps : List Fr → Nat
  | [] => 0
  | p :: ps => max (Fr.dep p) (Fr.deps ps)
end
mutual
def Fr.lks : Fr → List Lk
  | .leaf l => [l]
  | .jt _ ps => Fr.lkss ps
def Fr.lkss : List Fr → List Lk
  | [] => []
  | p :: ps => Fr.lks p ++ Fr.lkss ps
end
mutual
/-- joints of 2 to 6 parts, links of lengths up to M -/
def Fr.ok (M : Int) : Fr → Prop
  | .leaf l => l.ok M
  | .jt _ ps => 2 ≤ ps.length ∧ ps.length ≤ 6 ∧ Fr.oks M ps
def Fr.oks (M : Int) : List Fr → Prop
  | [] => True
  | p :: ps => Fr.ok M p ∧ Fr.oks M ps
end
theorem Fr.ds_eq : ∀ ps : List Fr, Fr.ds ps = ps.map Fr.d
  | [] => rfl
  | p :: ps => by rw [Fr.ds, Fr.ds_eq ps]; rfl
theorem Fr.lkss_eq : ∀ ps : List Fr, Fr.lkss ps = ps.flatMap Fr.lks
  | [] => rfl
  | p :: ps => by rw [Fr.lkss, Fr.lkss_eq ps]; rfl
theorem Fr.oks_iff {M : Int} : ∀ {ps : List Fr}, Fr.oks M ps ↔ ∀ p, p ∈ ps → Fr.ok M p
  | [] => by simp [Fr.oks]
  | p :: ps => by rw [Fr.oks, Fr.oks_iff]; simp
theorem Fr.dep_le {p : Fr} : ∀ {ps : List Fr}, p ∈ ps → Fr.dep p ≤ Fr.deps ps
  | q :: ps, h => by
    rcases List.mem_cons.mp h with rfl | h
    · exact Nat.le_max_left _ _
    · exact Nat.le_trans (Fr.dep_le h) (Nat.le_max_right _ _)
theorem Fr.deps_le {n : Nat} : ∀ {ps : List Fr}, (∀ p, p ∈ ps → Fr.dep p ≤ n) → Fr.deps ps ≤ n
  | [], _ => Nat.zero_le _
  | q :: ps, h => Nat.max_le.mpr ⟨h q List.mem_cons_self, Fr.deps_le fun p hp => h p (List.mem_cons_of_mem _ hp)⟩
theorem Fr.dep_pos : ∀ f : Fr, 0 < f.dep
  | .leaf _ => Nat.one_pos
  | .jt _ _ => Nat.succ_pos _
mutual
theorem Fr.ind {P : Fr → Prop} (hl : ∀ l, P (.leaf l)) (hj : ∀ r ps, (∀ p, p ∈ ps → P p) → P (.jt r ps)) : ∀ f, P f
  | .leaf l => hl l
  | .jt r ps => hj r ps (Fr.inds hl hj ps)
theorem Fr.inds {P : Fr → Prop} (hl : ∀ l, P (.leaf l)) (hj : ∀ r ps, (∀ p, p ∈ ps → P p) → P (.jt r ps)) : ∀ ps : List Fr, ∀ p, p ∈ ps → P p
  | [], _, h => nomatch h
  | q :: ps, p, h => (List.mem_cons.mp h).elim (fun e => e ▸ Fr.ind hl hj q) fun h => Fr.inds hl hj ps p h
end
theorem Fr.ok_mono {M N : Int} (h : M ≤ N) (f : Fr) : f.ok M → f.ok N := by
  refine Fr.ind (P := fun f => f.ok M → f.ok N) (fun l q => ?_) (fun r ps ih q => ?_) f
  · simp only [Fr.ok] at q ⊢
    exact ⟨q.lo, q.le, by have := q.hi; omega, q.one⟩
  · simp only [Fr.ok, Fr.oks_iff] at q ⊢
    exact ⟨q.1, q.2.1, fun p hp => ih p hp (q.2.2 p hp)⟩
end MP

/-! SpB: the program's functions of frames, on frames. -/
namespace MP
open PySem
def szs : List (Str × D) := [("bar", .int 1), ("piston", .int 2), ("cable", .int 1), ("strut", .int 1), ("cut", .int 2)]
theorem gv_SIZES : gv.t "SIZES" = some szs := by rfl
theorem gv_ML : gv.c "MOST_LENGTH" = some (.int 1000000000) := by rfl
theorem gv_MK : gv.c "MOST_LINKS" = some (.int 30) := by rfl
theorem gv_MD : gv.c "MOST_DEEP" = some (.int 6) := by rfl
theorem gv_isl : gv.c "is_link" = some (.fn F.is_link) := by rfl
theorem szs_kd (k : Kd) : getK szs k.s = some (.int (if k.two then 2 else 1)) := by cases k <;> rfl
theorem szs_in {k : Kd} {b : Bool} : inK b szs k.s = !b := by cases k <;> cases b <;> rfl
theorem szs_jw {r b : Bool} : inK b szs (jw r) = b := by cases r <;> cases b <;> rfl
theorem all_true {α : Type} {xs : List α} : bi1 .all (.lst (xs.map fun _ => .bl true)) = some (.bl true) := by
  have : (xs.map fun _ => D.bl true) = (xs.map fun _ => true).map D.bl := by rw [List.map_map]; rfl
  rw [this, all_bls]
  simp
theorem sp_is_integer {n : Nat} (hn : 1 ≤ n) {v lo hi : Int} {S : Store} : ec gv pr n F.is_integer [.int v, .int lo, .int hi] S = some (.bl (decide (lo ≤ v) && decide (v ≤ hi)), S) := by
  refine of_wc ?_
  rw [wc_def' hn pr_is_integer rfl]
  simp only [fd_is_integer, we_var, we_cn, we_cb, we_ci, we_cs, we_glob, we_tup, we_lst, we_newc, we_op, we_isN, we_notN, we_neg, we_nt, we_and, we_or, we_chain, we_ite, we_call, we_calll, we_b1, we_b2, we_isi, we_ix, we_sl, we_lc, we_lrng, we_olen, we_oix, we_inD, we_getD, we_calld, we_osl, we_rev, we_isB, we_cnew, we_clen, we_cpop, we_cnil, wl_nil, wl_cons, wr_it, wr_rng, wr_enum, wr_zip, ws_set, ws_own, ws_frz, ws_unp, ws_unp2, ws_par, ws_app, ws_oset, ws_cset, ws_ifs, ws_fors, ws_whil, ws_ret, ws_retn, ws_brk, ws_cnt, ws_pas, ws_expr, wb_nil, wb_cons, thn_nx, thn_rt, thn_bk, thn_ct, fin_nx, fin_rt, turn_nx, turn_ct, turn_bk, turn_rt, List.set_cons_zero, List.set_cons_succ, List.set_nil, List.getElem?_cons_zero, List.getElem?_cons_succ, Option.some.injEq, Sl.v.injEq, Sl.o.injEq, D.bl.injEq, D.int.injEq, D.str.injEq, D.tup.injEq, D.lst.injEq, D.cell.injEq, D.fn.injEq, exists_eq_left, exists_eq_left', exists_eq_right, List.length_cons, List.length_nil, Nat.reduceAdd, Nat.reduceSub, List.replicate_succ, List.replicate_zero, List.map_cons, List.map_nil, List.cons_append, List.nil_append, List.append_nil, true_and, and_true, false_and, and_false, forall_const, Bool.true_eq_false, Bool.false_eq_true, Bool.not_true, Bool.not_false, setMany, asg, Tg.slots, wipeE, optI, testOf, ne_eq, not_true_eq_false, not_false_eq_true, exists_const, reduceCtorEq, false_or, or_false, true_or, or_true, exists_false, Int.reduceLT, Int.reduceLE, Int.reduceNeg, Int.reduceAdd, Int.reduceSub, decide_true, decide_false, Bool.and_true, Bool.true_and, Bool.and_false, Bool.false_and, Bool.or_true, Bool.true_or, Bool.or_false, Bool.false_or, false_implies, true_implies, if_true, if_false, ite_true, ite_false, implies_true, envOf, op_add, op_addT, op_addL, op_sub, op_mul, op_fdiv, op_mod, op_lt, op_le, op_gt, op_ge, op_eqI, op_neI, op_eqS, op_neS, len_tup, len_lst, len_rol, abs_int, max2, min2, int_int, int_bl, nn_non, nn_int, nn_bl, nn_str, nn_tup, nn_lst, ix_tup, ix_lst, ix_rol, ix_cell, op_inS2, sl_tup, sl_lst, items_tup, items_lst, atI_0, atI_1, atI_2, cutD_1, cutD_from1, cutD_to, p10_6, p10_7, p10_8, p10_9, p10_10, p10_11, p10_12, sum_ints, all_bls, any_bls, eqb_ints, eqb_nilL, isin_ints, enum_lst, cmp_int, cmp_non, cmp_str, cmp_dInts, cmp_nilL, it_int_non, it_int_bl, it_int_int, it_int_str, it_int_tup, it_int_lst, it_int_rol, it_bool_non, it_bool_bl, it_bool_int, it_bool_str, it_bool_tup, it_bool_lst, it_bool_rol, it_str_non, it_str_bl, it_str_int, it_str_str, it_str_tup, it_str_lst, it_str_rol, it_tuple_non, it_tuple_bl, it_tuple_int, it_tuple_str, it_tuple_tup, it_tuple_lst, it_tuple_rol, it_list_non, it_list_bl, it_list_int, it_list_str, it_list_tup, it_list_lst, it_list_rol]
  by_cases h : lo ≤ v <;> simp [h]
theorem sp_is_joint_leaf {n : Nat} (hn : 1 ≤ n) {l : Lk} {S : Store} : ec gv pr n F.is_joint [l.d] S = some (.bl false, S) := by
  refine of_wc ?_
  rw [wc_def' hn pr_is_joint rfl]
  have h1 : ¬ ("row" : Str) = l.k.s := fun h => (Kd.ty l.k).1 h.symm
  have h2 : ¬ ("side" : Str) = l.k.s := fun h => (Kd.ty l.k).2 h.symm
  unfold Lk.d
  split
  all_goals simp [fd_is_joint, we_var, we_cn, we_cb, we_ci, we_cs, we_glob, we_tup, we_lst, we_newc, we_op, we_isN, we_notN, we_neg, we_nt, we_and, we_or, we_chain, we_ite, we_call, we_calll, we_b1, we_b2, we_isi, we_ix, we_sl, we_lc, we_lrng, we_olen, we_oix, we_inD, we_getD, we_calld, we_osl, we_rev, we_isB, we_cnew, we_clen, we_cpop, we_cnil, wl_nil, wl_cons, wr_it, wr_rng, wr_enum, wr_zip, ws_set, ws_own, ws_frz, ws_unp, ws_unp2, ws_par, ws_app, ws_oset, ws_cset, ws_ifs, ws_fors, ws_whil, ws_ret, ws_retn, ws_brk, ws_cnt, ws_pas, ws_expr, wb_nil, wb_cons, thn_nx, thn_rt, thn_bk, thn_ct, fin_nx, fin_rt, turn_nx, turn_ct, turn_bk, turn_rt, List.set_cons_zero, List.set_cons_succ, List.set_nil, List.getElem?_cons_zero, List.getElem?_cons_succ, Option.some.injEq, Sl.v.injEq, Sl.o.injEq, D.bl.injEq, D.int.injEq, D.str.injEq, D.tup.injEq, D.lst.injEq, D.cell.injEq, D.fn.injEq, exists_eq_left, exists_eq_left', exists_eq_right, List.length_cons, List.length_nil, Nat.reduceAdd, Nat.reduceSub, List.replicate_succ, List.replicate_zero, List.map_cons, List.map_nil, List.cons_append, List.nil_append, List.append_nil, true_and, and_true, false_and, and_false, forall_const, Bool.true_eq_false, Bool.false_eq_true, Bool.not_true, Bool.not_false, setMany, asg, Tg.slots, wipeE, optI, testOf, ne_eq, not_true_eq_false, not_false_eq_true, exists_const, reduceCtorEq, false_or, or_false, true_or, or_true, exists_false, Int.reduceLT, Int.reduceLE, Int.reduceNeg, Int.reduceAdd, Int.reduceSub, decide_true, decide_false, Bool.and_true, Bool.true_and, Bool.and_false, Bool.false_and, Bool.or_true, Bool.true_or, Bool.or_false, Bool.false_or, false_implies, true_implies, if_true, if_false, ite_true, ite_false, implies_true, envOf, op_add, op_addT, op_addL, op_sub, op_mul, op_fdiv, op_mod, op_lt, op_le, op_gt, op_ge, op_eqI, op_neI, op_eqS, op_neS, len_tup, len_lst, len_rol, abs_int, max2, min2, int_int, int_bl, nn_non, nn_int, nn_bl, nn_str, nn_tup, nn_lst, ix_tup, ix_lst, ix_rol, ix_cell, op_inS2, sl_tup, sl_lst, items_tup, items_lst, atI_0, atI_1, atI_2, cutD_1, cutD_from1, cutD_to, p10_6, p10_7, p10_8, p10_9, p10_10, p10_11, p10_12, sum_ints, all_bls, any_bls, eqb_ints, eqb_nilL, isin_ints, enum_lst, cmp_int, cmp_non, cmp_str, cmp_dInts, cmp_nilL, it_int_non, it_int_bl, it_int_int, it_int_str, it_int_tup, it_int_lst, it_int_rol, it_bool_non, it_bool_bl, it_bool_int, it_bool_str, it_bool_tup, it_bool_lst, it_bool_rol, it_str_non, it_str_bl, it_str_int, it_str_str, it_str_tup, it_str_lst, it_str_rol, it_tuple_non, it_tuple_bl, it_tuple_int, it_tuple_str, it_tuple_tup, it_tuple_lst, it_tuple_rol, it_list_non, it_list_bl, it_list_int, it_list_str, it_list_tup, it_list_lst, it_list_rol, h1, h2]
theorem sp_is_joint_jt {n : Nat} (hn : 1 ≤ n) {r : Bool} {ps : List Fr} (h2 : 2 ≤ ps.length) (h6 : ps.length ≤ 6) {S : Store} : ec gv pr n F.is_joint [(Fr.jt r ps).d] S = some (.bl true, S) := by
  refine of_wc ?_
  rw [wc_def' hn pr_is_joint rfl]
  simp [fd_is_joint, we_var, we_cn, we_cb, we_ci, we_cs, we_glob, we_tup, we_lst, we_newc, we_op, we_isN, we_notN, we_neg, we_nt, we_and, we_or, we_chain, we_ite, we_call, we_calll, we_b1, we_b2, we_isi, we_ix, we_sl, we_lc, we_lrng, we_olen, we_oix, we_inD, we_getD, we_calld, we_osl, we_rev, we_isB, we_cnew, we_clen, we_cpop, we_cnil, wl_nil, wl_cons, wr_it, wr_rng, wr_enum, wr_zip, ws_set, ws_own, ws_frz, ws_unp, ws_unp2, ws_par, ws_app, ws_oset, ws_cset, ws_ifs, ws_fors, ws_whil, ws_ret, ws_retn, ws_brk, ws_cnt, ws_pas, ws_expr, wb_nil, wb_cons, thn_nx, thn_rt, thn_bk, thn_ct, fin_nx, fin_rt, turn_nx, turn_ct, turn_bk, turn_rt, List.set_cons_zero, List.set_cons_succ, List.set_nil, List.getElem?_cons_zero, List.getElem?_cons_succ, Option.some.injEq, Sl.v.injEq, Sl.o.injEq, D.bl.injEq, D.int.injEq, D.str.injEq, D.tup.injEq, D.lst.injEq, D.cell.injEq, D.fn.injEq, exists_eq_left, exists_eq_left', exists_eq_right, List.length_cons, List.length_nil, Nat.reduceAdd, Nat.reduceSub, List.replicate_succ, List.replicate_zero, List.map_cons, List.map_nil, List.cons_append, List.nil_append, List.append_nil, true_and, and_true, false_and, and_false, forall_const, Bool.true_eq_false, Bool.false_eq_true, Bool.not_true, Bool.not_false, setMany, asg, Tg.slots, wipeE, optI, testOf, ne_eq, not_true_eq_false, not_false_eq_true, exists_const, reduceCtorEq, false_or, or_false, true_or, or_true, exists_false, Int.reduceLT, Int.reduceLE, Int.reduceNeg, Int.reduceAdd, Int.reduceSub, decide_true, decide_false, Bool.and_true, Bool.true_and, Bool.and_false, Bool.false_and, Bool.or_true, Bool.true_or, Bool.or_false, Bool.false_or, false_implies, true_implies, if_true, if_false, ite_true, ite_false, implies_true, envOf, op_add, op_addT, op_addL, op_sub, op_mul, op_fdiv, op_mod, op_lt, op_le, op_gt, op_ge, op_eqI, op_neI, op_eqS, op_neS, len_tup, len_lst, len_rol, abs_int, max2, min2, int_int, int_bl, nn_non, nn_int, nn_bl, nn_str, nn_tup, nn_lst, ix_tup, ix_lst, ix_rol, ix_cell, op_inS2, sl_tup, sl_lst, items_tup, items_lst, atI_0, atI_1, atI_2, cutD_1, cutD_from1, cutD_to, p10_6, p10_7, p10_8, p10_9, p10_10, p10_11, p10_12, sum_ints, all_bls, any_bls, eqb_ints, eqb_nilL, isin_ints, enum_lst, cmp_int, cmp_non, cmp_str, cmp_dInts, cmp_nilL, it_int_non, it_int_bl, it_int_int, it_int_str, it_int_tup, it_int_lst, it_int_rol, it_bool_non, it_bool_bl, it_bool_int, it_bool_str, it_bool_tup, it_bool_lst, it_bool_rol, it_str_non, it_str_bl, it_str_int, it_str_str, it_str_tup, it_str_lst, it_str_rol, it_tuple_non, it_tuple_bl, it_tuple_int, it_tuple_str, it_tuple_tup, it_tuple_lst, it_tuple_rol, it_list_non, it_list_bl, it_list_int, it_list_str, it_list_tup, it_list_lst, it_list_rol, Fr.d, Fr.ds_eq, jw]
  refine ⟨by omega, by omega, by cases r <;> simp⟩
theorem lk_ne {l : Lk} : D.eqb l.d (.tup []) = false ∧ D.cmp l.d = true := by
  unfold Lk.d; split <;> exact ⟨rfl, rfl⟩
theorem sp_is_link {n : Nat} (hn : 2 ≤ n) {l : Lk} (h : l.ok 1000000000) {S : Store} : ec gv pr n F.is_link [l.d] S = some (.bl true, S) := by
  refine of_wc ?_
  rw [wc_def' (by omega) pr_is_link rfl]
  have e1 : ∀ {v : Int}, 0 ≤ v → v ≤ 1000000000 → ∀ {S : Store} {Q : D → Store → Prop}, WC (ec gv pr (n - 1)) F.is_integer [.int v, .int 0, .int 1000000000] S Q ↔ Q (.bl true) S := fun h1 h2 => by
    intro S Q
    rw [wc_of (sp_is_integer (by omega))]
    simp [h1, h2]
  have h3 := h.lo
  have h4 := h.le
  have h5 := h.hi
  have l1 := (lk_ne (l := l)).1
  have l2 := (lk_ne (l := l)).2
  by_cases ht : l.k.two = true
  · have ed : l.d = .tup [.str l.k.s, .int l.lo, .int l.hi] := if_pos ht
    rw [ed] at l1 l2 ⊢
    have e2 := op_eqD l2 (show D.cmp (.tup []) = true from rfl)
    rw [l1] at e2
    simp [fd_is_link, we_var, we_cn, we_cb, we_ci, we_cs, we_glob, we_tup, we_lst, we_newc, we_op, we_isN, we_notN, we_neg, we_nt, we_and, we_or, we_chain, we_ite, we_call, we_calll, we_b1, we_b2, we_isi, we_ix, we_sl, we_lc, we_lrng, we_olen, we_oix, we_inD, we_getD, we_calld, we_osl, we_rev, we_isB, we_cnew, we_clen, we_cpop, we_cnil, wl_nil, wl_cons, wr_it, wr_rng, wr_enum, wr_zip, ws_set, ws_own, ws_frz, ws_unp, ws_unp2, ws_par, ws_app, ws_oset, ws_cset, ws_ifs, ws_fors, ws_whil, ws_ret, ws_retn, ws_brk, ws_cnt, ws_pas, ws_expr, wb_nil, wb_cons, thn_nx, thn_rt, thn_bk, thn_ct, fin_nx, fin_rt, turn_nx, turn_ct, turn_bk, turn_rt, List.set_cons_zero, List.set_cons_succ, List.set_nil, List.getElem?_cons_zero, List.getElem?_cons_succ, Option.some.injEq, Sl.v.injEq, Sl.o.injEq, D.bl.injEq, D.int.injEq, D.str.injEq, D.tup.injEq, D.lst.injEq, D.cell.injEq, D.fn.injEq, exists_eq_left, exists_eq_left', exists_eq_right, List.length_cons, List.length_nil, Nat.reduceAdd, Nat.reduceSub, List.replicate_succ, List.replicate_zero, List.map_cons, List.map_nil, List.cons_append, List.nil_append, List.append_nil, true_and, and_true, false_and, and_false, forall_const, Bool.true_eq_false, Bool.false_eq_true, Bool.not_true, Bool.not_false, setMany, asg, Tg.slots, wipeE, optI, testOf, ne_eq, not_true_eq_false, not_false_eq_true, exists_const, reduceCtorEq, false_or, or_false, true_or, or_true, exists_false, Int.reduceLT, Int.reduceLE, Int.reduceNeg, Int.reduceAdd, Int.reduceSub, decide_true, decide_false, Bool.and_true, Bool.true_and, Bool.and_false, Bool.false_and, Bool.or_true, Bool.true_or, Bool.or_false, Bool.false_or, false_implies, true_implies, if_true, if_false, ite_true, ite_false, implies_true, envOf, op_add, op_addT, op_addL, op_sub, op_mul, op_fdiv, op_mod, op_lt, op_le, op_gt, op_ge, op_eqI, op_neI, op_eqS, op_neS, len_tup, len_lst, len_rol, abs_int, max2, min2, int_int, int_bl, nn_non, nn_int, nn_bl, nn_str, nn_tup, nn_lst, ix_tup, ix_lst, ix_rol, ix_cell, op_inS2, sl_tup, sl_lst, items_tup, items_lst, atI_0, atI_1, atI_2, cutD_1, cutD_from1, cutD_to, p10_6, p10_7, p10_8, p10_9, p10_10, p10_11, p10_12, sum_ints, all_bls, any_bls, eqb_ints, eqb_nilL, isin_ints, enum_lst, cmp_int, cmp_non, cmp_str, cmp_dInts, cmp_nilL, it_int_non, it_int_bl, it_int_int, it_int_str, it_int_tup, it_int_lst, it_int_rol, it_bool_non, it_bool_bl, it_bool_int, it_bool_str, it_bool_tup, it_bool_lst, it_bool_rol, it_str_non, it_str_bl, it_str_int, it_str_str, it_str_tup, it_str_lst, it_str_rol, it_tuple_non, it_tuple_bl, it_tuple_int, it_tuple_str, it_tuple_tup, it_tuple_lst, it_tuple_rol, it_list_non, it_list_bl, it_list_int, it_list_str, it_list_tup, it_list_lst, it_list_rol, e2, gv_SIZES, szs_kd, szs_in, gv_ML, ht, wg_cons, wg_nil, e1 h3 (by omega : l.lo ≤ 1000000000), e1 (by omega : 0 ≤ l.hi) h5, bi1, dBls]
    simp [L2.atI, L2.ixN, h4, we_var, we_cn, we_cb, we_ci, we_cs, we_glob, we_tup, we_lst, we_newc, we_op, we_isN, we_notN, we_neg, we_nt, we_and, we_or, we_chain, we_ite, we_call, we_calll, we_b1, we_b2, we_isi, we_ix, we_sl, we_lc, we_lrng, we_olen, we_oix, we_inD, we_getD, we_calld, we_osl, we_rev, we_isB, we_cnew, we_clen, we_cpop, we_cnil, wl_nil, wl_cons, wr_it, wr_rng, wr_enum, wr_zip, ws_set, ws_own, ws_frz, ws_unp, ws_unp2, ws_par, ws_app, ws_oset, ws_cset, ws_ifs, ws_fors, ws_whil, ws_ret, ws_retn, ws_brk, ws_cnt, ws_pas, ws_expr, wb_nil, wb_cons, thn_nx, thn_rt, thn_bk, thn_ct, fin_nx, fin_rt, turn_nx, turn_ct, turn_bk, turn_rt, List.set_cons_zero, List.set_cons_succ, List.set_nil, List.getElem?_cons_zero, List.getElem?_cons_succ, Option.some.injEq, Sl.v.injEq, Sl.o.injEq, D.bl.injEq, D.int.injEq, D.str.injEq, D.tup.injEq, D.lst.injEq, D.cell.injEq, D.fn.injEq, exists_eq_left, exists_eq_left', exists_eq_right, List.length_cons, List.length_nil, Nat.reduceAdd, Nat.reduceSub, List.replicate_succ, List.replicate_zero, List.map_cons, List.map_nil, List.cons_append, List.nil_append, List.append_nil, true_and, and_true, false_and, and_false, forall_const, Bool.true_eq_false, Bool.false_eq_true, Bool.not_true, Bool.not_false, setMany, asg, Tg.slots, wipeE, optI, testOf, ne_eq, not_true_eq_false, not_false_eq_true, exists_const, reduceCtorEq, false_or, or_false, true_or, or_true, exists_false, Int.reduceLT, Int.reduceLE, Int.reduceNeg, Int.reduceAdd, Int.reduceSub, decide_true, decide_false, Bool.and_true, Bool.true_and, Bool.and_false, Bool.false_and, Bool.or_true, Bool.true_or, Bool.or_false, Bool.false_or, false_implies, true_implies, if_true, if_false, ite_true, ite_false, implies_true, envOf, op_add, op_addT, op_addL, op_sub, op_mul, op_fdiv, op_mod, op_lt, op_le, op_gt, op_ge, op_eqI, op_neI, op_eqS, op_neS, len_tup, len_lst, len_rol, abs_int, max2, min2, int_int, int_bl, nn_non, nn_int, nn_bl, nn_str, nn_tup, nn_lst, ix_tup, ix_lst, ix_rol, ix_cell, op_inS2, sl_tup, sl_lst, items_tup, items_lst, atI_0, atI_1, atI_2, cutD_1, cutD_from1, cutD_to, p10_6, p10_7, p10_8, p10_9, p10_10, p10_11, p10_12, sum_ints, all_bls, any_bls, eqb_ints, eqb_nilL, isin_ints, enum_lst, cmp_int, cmp_non, cmp_str, cmp_dInts, cmp_nilL, it_int_non, it_int_bl, it_int_int, it_int_str, it_int_tup, it_int_lst, it_int_rol, it_bool_non, it_bool_bl, it_bool_int, it_bool_str, it_bool_tup, it_bool_lst, it_bool_rol, it_str_non, it_str_bl, it_str_int, it_str_str, it_str_tup, it_str_lst, it_str_rol, it_tuple_non, it_tuple_bl, it_tuple_int, it_tuple_str, it_tuple_tup, it_tuple_lst, it_tuple_rol, it_list_non, it_list_bl, it_list_int, it_list_str, it_list_tup, it_list_lst, it_list_rol]
  · have ed : l.d = .tup [.str l.k.s, .int l.lo] := if_neg ht
    rw [ed] at l1 l2 ⊢
    have e2 := op_eqD l2 (show D.cmp (.tup []) = true from rfl)
    rw [l1] at e2
    simp [fd_is_link, we_var, we_cn, we_cb, we_ci, we_cs, we_glob, we_tup, we_lst, we_newc, we_op, we_isN, we_notN, we_neg, we_nt, we_and, we_or, we_chain, we_ite, we_call, we_calll, we_b1, we_b2, we_isi, we_ix, we_sl, we_lc, we_lrng, we_olen, we_oix, we_inD, we_getD, we_calld, we_osl, we_rev, we_isB, we_cnew, we_clen, we_cpop, we_cnil, wl_nil, wl_cons, wr_it, wr_rng, wr_enum, wr_zip, ws_set, ws_own, ws_frz, ws_unp, ws_unp2, ws_par, ws_app, ws_oset, ws_cset, ws_ifs, ws_fors, ws_whil, ws_ret, ws_retn, ws_brk, ws_cnt, ws_pas, ws_expr, wb_nil, wb_cons, thn_nx, thn_rt, thn_bk, thn_ct, fin_nx, fin_rt, turn_nx, turn_ct, turn_bk, turn_rt, List.set_cons_zero, List.set_cons_succ, List.set_nil, List.getElem?_cons_zero, List.getElem?_cons_succ, Option.some.injEq, Sl.v.injEq, Sl.o.injEq, D.bl.injEq, D.int.injEq, D.str.injEq, D.tup.injEq, D.lst.injEq, D.cell.injEq, D.fn.injEq, exists_eq_left, exists_eq_left', exists_eq_right, List.length_cons, List.length_nil, Nat.reduceAdd, Nat.reduceSub, List.replicate_succ, List.replicate_zero, List.map_cons, List.map_nil, List.cons_append, List.nil_append, List.append_nil, true_and, and_true, false_and, and_false, forall_const, Bool.true_eq_false, Bool.false_eq_true, Bool.not_true, Bool.not_false, setMany, asg, Tg.slots, wipeE, optI, testOf, ne_eq, not_true_eq_false, not_false_eq_true, exists_const, reduceCtorEq, false_or, or_false, true_or, or_true, exists_false, Int.reduceLT, Int.reduceLE, Int.reduceNeg, Int.reduceAdd, Int.reduceSub, decide_true, decide_false, Bool.and_true, Bool.true_and, Bool.and_false, Bool.false_and, Bool.or_true, Bool.true_or, Bool.or_false, Bool.false_or, false_implies, true_implies, if_true, if_false, ite_true, ite_false, implies_true, envOf, op_add, op_addT, op_addL, op_sub, op_mul, op_fdiv, op_mod, op_lt, op_le, op_gt, op_ge, op_eqI, op_neI, op_eqS, op_neS, len_tup, len_lst, len_rol, abs_int, max2, min2, int_int, int_bl, nn_non, nn_int, nn_bl, nn_str, nn_tup, nn_lst, ix_tup, ix_lst, ix_rol, ix_cell, op_inS2, sl_tup, sl_lst, items_tup, items_lst, atI_0, atI_1, atI_2, cutD_1, cutD_from1, cutD_to, p10_6, p10_7, p10_8, p10_9, p10_10, p10_11, p10_12, sum_ints, all_bls, any_bls, eqb_ints, eqb_nilL, isin_ints, enum_lst, cmp_int, cmp_non, cmp_str, cmp_dInts, cmp_nilL, it_int_non, it_int_bl, it_int_int, it_int_str, it_int_tup, it_int_lst, it_int_rol, it_bool_non, it_bool_bl, it_bool_int, it_bool_str, it_bool_tup, it_bool_lst, it_bool_rol, it_str_non, it_str_bl, it_str_int, it_str_str, it_str_tup, it_str_lst, it_str_rol, it_tuple_non, it_tuple_bl, it_tuple_int, it_tuple_str, it_tuple_tup, it_tuple_lst, it_tuple_rol, it_list_non, it_list_bl, it_list_int, it_list_str, it_list_tup, it_list_lst, it_list_rol, e2, gv_SIZES, szs_kd, szs_in, gv_ML, ht, wg_cons, wg_nil, e1 h3 (by omega : l.lo ≤ 1000000000), bi1, dBls]
    simp [L2.atI, L2.ixN, h4, we_var, we_cn, we_cb, we_ci, we_cs, we_glob, we_tup, we_lst, we_newc, we_op, we_isN, we_notN, we_neg, we_nt, we_and, we_or, we_chain, we_ite, we_call, we_calll, we_b1, we_b2, we_isi, we_ix, we_sl, we_lc, we_lrng, we_olen, we_oix, we_inD, we_getD, we_calld, we_osl, we_rev, we_isB, we_cnew, we_clen, we_cpop, we_cnil, wl_nil, wl_cons, wr_it, wr_rng, wr_enum, wr_zip, ws_set, ws_own, ws_frz, ws_unp, ws_unp2, ws_par, ws_app, ws_oset, ws_cset, ws_ifs, ws_fors, ws_whil, ws_ret, ws_retn, ws_brk, ws_cnt, ws_pas, ws_expr, wb_nil, wb_cons, thn_nx, thn_rt, thn_bk, thn_ct, fin_nx, fin_rt, turn_nx, turn_ct, turn_bk, turn_rt, List.set_cons_zero, List.set_cons_succ, List.set_nil, List.getElem?_cons_zero, List.getElem?_cons_succ, Option.some.injEq, Sl.v.injEq, Sl.o.injEq, D.bl.injEq, D.int.injEq, D.str.injEq, D.tup.injEq, D.lst.injEq, D.cell.injEq, D.fn.injEq, exists_eq_left, exists_eq_left', exists_eq_right, List.length_cons, List.length_nil, Nat.reduceAdd, Nat.reduceSub, List.replicate_succ, List.replicate_zero, List.map_cons, List.map_nil, List.cons_append, List.nil_append, List.append_nil, true_and, and_true, false_and, and_false, forall_const, Bool.true_eq_false, Bool.false_eq_true, Bool.not_true, Bool.not_false, setMany, asg, Tg.slots, wipeE, optI, testOf, ne_eq, not_true_eq_false, not_false_eq_true, exists_const, reduceCtorEq, false_or, or_false, true_or, or_true, exists_false, Int.reduceLT, Int.reduceLE, Int.reduceNeg, Int.reduceAdd, Int.reduceSub, decide_true, decide_false, Bool.and_true, Bool.true_and, Bool.and_false, Bool.false_and, Bool.or_true, Bool.true_or, Bool.or_false, Bool.false_or, false_implies, true_implies, if_true, if_false, ite_true, ite_false, implies_true, envOf, op_add, op_addT, op_addL, op_sub, op_mul, op_fdiv, op_mod, op_lt, op_le, op_gt, op_ge, op_eqI, op_neI, op_eqS, op_neS, len_tup, len_lst, len_rol, abs_int, max2, min2, int_int, int_bl, nn_non, nn_int, nn_bl, nn_str, nn_tup, nn_lst, ix_tup, ix_lst, ix_rol, ix_cell, op_inS2, sl_tup, sl_lst, items_tup, items_lst, atI_0, atI_1, atI_2, cutD_1, cutD_from1, cutD_to, p10_6, p10_7, p10_8, p10_9, p10_10, p10_11, p10_12, sum_ints, all_bls, any_bls, eqb_ints, eqb_nilL, isin_ints, enum_lst, cmp_int, cmp_non, cmp_str, cmp_dInts, cmp_nilL, it_int_non, it_int_bl, it_int_int, it_int_str, it_int_tup, it_int_lst, it_int_rol, it_bool_non, it_bool_bl, it_bool_int, it_bool_str, it_bool_tup, it_bool_lst, it_bool_rol, it_str_non, it_str_bl, it_str_int, it_str_str, it_str_tup, it_str_lst, it_str_rol, it_tuple_non, it_tuple_bl, it_tuple_int, it_tuple_str, it_tuple_tup, it_tuple_lst, it_tuple_rol, it_list_non, it_list_bl, it_list_int, it_list_str, it_list_tup, it_list_lst, it_list_rol]
theorem fr_pl : ∀ f : Fr, f.d.pl = true := Fr.ind (fun l => by show l.d.pl = true; unfold Lk.d; split <;> rfl) (fun r ps ih => by
  simp only [Fr.d, Fr.ds_eq, D.pl, D.pls, Bool.true_and]
  refine pls_of fun x hx => ?_
  obtain ⟨p, hp, rfl⟩ := List.mem_map.mp hx
  exact ih p hp)
theorem fr_dep : ∀ f : Fr, f.d.dep ≤ f.dep := Fr.ind (fun l => by show l.d.dep ≤ 1; unfold Lk.d; split <;> exact Nat.le_refl _) (fun r ps ih => by
  simp only [Fr.d, Fr.ds_eq, D.dep, D.deps, Fr.dep]
  have : D.deps (ps.map Fr.d) ≤ Fr.deps ps := deps_of fun x hx => by
    obtain ⟨p, hp, rfl⟩ := List.mem_map.mp hx
    exact Nat.le_trans (ih p hp) (Fr.dep_le hp)
  omega)
theorem fr_cmp {f : Fr} (h : f.dep ≤ 60) : D.cmp f.d = true := by
  unfold D.cmp
  rw [fr_pl, Bool.true_and]
  exact decide_eq_true (Nat.le_trans (fr_dep f) h)
theorem sp_is_link_jt {n : Nat} (hn : 1 ≤ n) {r : Bool} {ps : List Fr} (hd : (Fr.jt r ps).dep ≤ 60) {S : Store} : ec gv pr n F.is_link [(Fr.jt r ps).d] S = some (.bl false, S) := by
  refine of_wc ?_
  rw [wc_def' (by omega) pr_is_link rfl]
  have l2 := fr_cmp hd
  rw [Fr.d] at l2 ⊢
  have e2 := op_eqD l2 (show D.cmp (.tup []) = true from rfl)
  have e3 : D.eqb (.tup (.str (jw r) :: Fr.ds ps)) (.tup []) = false := rfl
  rw [e3] at e2
  simp [fd_is_link, we_var, we_cn, we_cb, we_ci, we_cs, we_glob, we_tup, we_lst, we_newc, we_op, we_isN, we_notN, we_neg, we_nt, we_and, we_or, we_chain, we_ite, we_call, we_calll, we_b1, we_b2, we_isi, we_ix, we_sl, we_lc, we_lrng, we_olen, we_oix, we_inD, we_getD, we_calld, we_osl, we_rev, we_isB, we_cnew, we_clen, we_cpop, we_cnil, wl_nil, wl_cons, wr_it, wr_rng, wr_enum, wr_zip, ws_set, ws_own, ws_frz, ws_unp, ws_unp2, ws_par, ws_app, ws_oset, ws_cset, ws_ifs, ws_fors, ws_whil, ws_ret, ws_retn, ws_brk, ws_cnt, ws_pas, ws_expr, wb_nil, wb_cons, thn_nx, thn_rt, thn_bk, thn_ct, fin_nx, fin_rt, turn_nx, turn_ct, turn_bk, turn_rt, List.set_cons_zero, List.set_cons_succ, List.set_nil, List.getElem?_cons_zero, List.getElem?_cons_succ, Option.some.injEq, Sl.v.injEq, Sl.o.injEq, D.bl.injEq, D.int.injEq, D.str.injEq, D.tup.injEq, D.lst.injEq, D.cell.injEq, D.fn.injEq, exists_eq_left, exists_eq_left', exists_eq_right, List.length_cons, List.length_nil, Nat.reduceAdd, Nat.reduceSub, List.replicate_succ, List.replicate_zero, List.map_cons, List.map_nil, List.cons_append, List.nil_append, List.append_nil, true_and, and_true, false_and, and_false, forall_const, Bool.true_eq_false, Bool.false_eq_true, Bool.not_true, Bool.not_false, setMany, asg, Tg.slots, wipeE, optI, testOf, ne_eq, not_true_eq_false, not_false_eq_true, exists_const, reduceCtorEq, false_or, or_false, true_or, or_true, exists_false, Int.reduceLT, Int.reduceLE, Int.reduceNeg, Int.reduceAdd, Int.reduceSub, decide_true, decide_false, Bool.and_true, Bool.true_and, Bool.and_false, Bool.false_and, Bool.or_true, Bool.true_or, Bool.or_false, Bool.false_or, false_implies, true_implies, if_true, if_false, ite_true, ite_false, implies_true, envOf, op_add, op_addT, op_addL, op_sub, op_mul, op_fdiv, op_mod, op_lt, op_le, op_gt, op_ge, op_eqI, op_neI, op_eqS, op_neS, len_tup, len_lst, len_rol, abs_int, max2, min2, int_int, int_bl, nn_non, nn_int, nn_bl, nn_str, nn_tup, nn_lst, ix_tup, ix_lst, ix_rol, ix_cell, op_inS2, sl_tup, sl_lst, items_tup, items_lst, atI_0, atI_1, atI_2, cutD_1, cutD_from1, cutD_to, p10_6, p10_7, p10_8, p10_9, p10_10, p10_11, p10_12, sum_ints, all_bls, any_bls, eqb_ints, eqb_nilL, isin_ints, enum_lst, cmp_int, cmp_non, cmp_str, cmp_dInts, cmp_nilL, it_int_non, it_int_bl, it_int_int, it_int_str, it_int_tup, it_int_lst, it_int_rol, it_bool_non, it_bool_bl, it_bool_int, it_bool_str, it_bool_tup, it_bool_lst, it_bool_rol, it_str_non, it_str_bl, it_str_int, it_str_str, it_str_tup, it_str_lst, it_str_rol, it_tuple_non, it_tuple_bl, it_tuple_int, it_tuple_str, it_tuple_tup, it_tuple_lst, it_tuple_rol, it_list_non, it_list_bl, it_list_int, it_list_str, it_list_tup, it_list_lst, it_list_rol, e2, gv_SIZES, szs_jw]
theorem sp_has_form (f : Fr) : ∀ {n : Nat} {dp : Int} {S : Store}, f.ok 1000000000 → (f.dep : Int) ≤ dp → dp ≤ 60 → f.dep + 2 ≤ n → ec gv pr n F.has_form [f.d, .int dp, .fn F.is_link] S = some (.bl true, S) := by
  refine Fr.ind (P := fun f => ∀ {n : Nat} {dp : Int} {S : Store}, f.ok 1000000000 → (f.dep : Int) ≤ dp → dp ≤ 60 → f.dep + 2 ≤ n → ec gv pr n F.has_form [f.d, .int dp, .fn F.is_link] S = some (.bl true, S)) (fun l n dp S h1 h2 h3 h4 => ?_) (fun r ps ih n dp S h1 h2 h3 h4 => ?_) f
  · refine of_wc ?_
    simp only [Fr.ok, Fr.dep] at h1 h2 h4
    rw [wc_def' (by omega) pr_has_form rfl]
    simp [fd_has_form, we_var, we_cn, we_cb, we_ci, we_cs, we_glob, we_tup, we_lst, we_newc, we_op, we_isN, we_notN, we_neg, we_nt, we_and, we_or, we_chain, we_ite, we_call, we_calll, we_b1, we_b2, we_isi, we_ix, we_sl, we_lc, we_lrng, we_olen, we_oix, we_inD, we_getD, we_calld, we_osl, we_rev, we_isB, we_cnew, we_clen, we_cpop, we_cnil, wl_nil, wl_cons, wr_it, wr_rng, wr_enum, wr_zip, ws_set, ws_own, ws_frz, ws_unp, ws_unp2, ws_par, ws_app, ws_oset, ws_cset, ws_ifs, ws_fors, ws_whil, ws_ret, ws_retn, ws_brk, ws_cnt, ws_pas, ws_expr, wb_nil, wb_cons, thn_nx, thn_rt, thn_bk, thn_ct, fin_nx, fin_rt, turn_nx, turn_ct, turn_bk, turn_rt, List.set_cons_zero, List.set_cons_succ, List.set_nil, List.getElem?_cons_zero, List.getElem?_cons_succ, Option.some.injEq, Sl.v.injEq, Sl.o.injEq, D.bl.injEq, D.int.injEq, D.str.injEq, D.tup.injEq, D.lst.injEq, D.cell.injEq, D.fn.injEq, exists_eq_left, exists_eq_left', exists_eq_right, List.length_cons, List.length_nil, Nat.reduceAdd, Nat.reduceSub, List.replicate_succ, List.replicate_zero, List.map_cons, List.map_nil, List.cons_append, List.nil_append, List.append_nil, true_and, and_true, false_and, and_false, forall_const, Bool.true_eq_false, Bool.false_eq_true, Bool.not_true, Bool.not_false, setMany, asg, Tg.slots, wipeE, optI, testOf, ne_eq, not_true_eq_false, not_false_eq_true, exists_const, reduceCtorEq, false_or, or_false, true_or, or_true, exists_false, Int.reduceLT, Int.reduceLE, Int.reduceNeg, Int.reduceAdd, Int.reduceSub, decide_true, decide_false, Bool.and_true, Bool.true_and, Bool.and_false, Bool.false_and, Bool.or_true, Bool.true_or, Bool.or_false, Bool.false_or, false_implies, true_implies, if_true, if_false, ite_true, ite_false, implies_true, envOf, op_add, op_addT, op_addL, op_sub, op_mul, op_fdiv, op_mod, op_lt, op_le, op_gt, op_ge, op_eqI, op_neI, op_eqS, op_neS, len_tup, len_lst, len_rol, abs_int, max2, min2, int_int, int_bl, nn_non, nn_int, nn_bl, nn_str, nn_tup, nn_lst, ix_tup, ix_lst, ix_rol, ix_cell, op_inS2, sl_tup, sl_lst, items_tup, items_lst, atI_0, atI_1, atI_2, cutD_1, cutD_from1, cutD_to, p10_6, p10_7, p10_8, p10_9, p10_10, p10_11, p10_12, sum_ints, all_bls, any_bls, eqb_ints, eqb_nilL, isin_ints, enum_lst, cmp_int, cmp_non, cmp_str, cmp_dInts, cmp_nilL, it_int_non, it_int_bl, it_int_int, it_int_str, it_int_tup, it_int_lst, it_int_rol, it_bool_non, it_bool_bl, it_bool_int, it_bool_str, it_bool_tup, it_bool_lst, it_bool_rol, it_str_non, it_str_bl, it_str_int, it_str_str, it_str_tup, it_str_lst, it_str_rol, it_tuple_non, it_tuple_bl, it_tuple_int, it_tuple_str, it_tuple_tup, it_tuple_lst, it_tuple_rol, it_list_non, it_list_bl, it_list_int, it_list_str, it_list_tup, it_list_lst, it_list_rol, Fr.d, wc_of (sp_is_link (by omega : 2 ≤ n - 1) h1)]
    omega
  · refine of_wc ?_
    simp only [Fr.ok, Fr.dep, Fr.oks_iff] at h1 h2 h4
    rw [wc_def' (by omega) pr_has_form rfl]
    have hd : (Fr.jt r ps).dep ≤ 60 := by simp only [Fr.dep]; omega
    simp only [fd_has_form, we_var, we_cn, we_cb, we_ci, we_cs, we_glob, we_tup, we_lst, we_newc, we_op, we_isN, we_notN, we_neg, we_nt, we_and, we_or, we_chain, we_ite, we_call, we_calll, we_b1, we_b2, we_isi, we_ix, we_sl, we_lc, we_lrng, we_olen, we_oix, we_inD, we_getD, we_calld, we_osl, we_rev, we_isB, we_cnew, we_clen, we_cpop, we_cnil, wl_nil, wl_cons, wr_it, wr_rng, wr_enum, wr_zip, ws_set, ws_own, ws_frz, ws_unp, ws_unp2, ws_par, ws_app, ws_oset, ws_cset, ws_ifs, ws_fors, ws_whil, ws_ret, ws_retn, ws_brk, ws_cnt, ws_pas, ws_expr, wb_nil, wb_cons, thn_nx, thn_rt, thn_bk, thn_ct, fin_nx, fin_rt, turn_nx, turn_ct, turn_bk, turn_rt, List.set_cons_zero, List.set_cons_succ, List.set_nil, List.getElem?_cons_zero, List.getElem?_cons_succ, Option.some.injEq, Sl.v.injEq, Sl.o.injEq, D.bl.injEq, D.int.injEq, D.str.injEq, D.tup.injEq, D.lst.injEq, D.cell.injEq, D.fn.injEq, exists_eq_left, exists_eq_left', exists_eq_right, List.length_cons, List.length_nil, Nat.reduceAdd, Nat.reduceSub, List.replicate_succ, List.replicate_zero, List.map_cons, List.map_nil, List.cons_append, List.nil_append, List.append_nil, true_and, and_true, false_and, and_false, forall_const, Bool.true_eq_false, Bool.false_eq_true, Bool.not_true, Bool.not_false, setMany, asg, Tg.slots, wipeE, optI, testOf, ne_eq, not_true_eq_false, not_false_eq_true, exists_const, reduceCtorEq, false_or, or_false, true_or, or_true, exists_false, Int.reduceLT, Int.reduceLE, Int.reduceNeg, Int.reduceAdd, Int.reduceSub, decide_true, decide_false, Bool.and_true, Bool.true_and, Bool.and_false, Bool.false_and, Bool.or_true, Bool.true_or, Bool.or_false, Bool.false_or, false_implies, true_implies, if_true, if_false, ite_true, ite_false, implies_true, envOf, op_add, op_addT, op_addL, op_sub, op_mul, op_fdiv, op_mod, op_lt, op_le, op_gt, op_ge, op_eqI, op_neI, op_eqS, op_neS, len_tup, len_lst, len_rol, abs_int, max2, min2, int_int, int_bl, nn_non, nn_int, nn_bl, nn_str, nn_tup, nn_lst, ix_tup, ix_lst, ix_rol, ix_cell, op_inS2, sl_tup, sl_lst, items_tup, items_lst, atI_0, atI_1, atI_2, cutD_1, cutD_from1, cutD_to, p10_6, p10_7, p10_8, p10_9, p10_10, p10_11, p10_12, sum_ints, all_bls, any_bls, eqb_ints, eqb_nilL, isin_ints, enum_lst, cmp_int, cmp_non, cmp_str, cmp_dInts, cmp_nilL, it_int_non, it_int_bl, it_int_int, it_int_str, it_int_tup, it_int_lst, it_int_rol, it_bool_non, it_bool_bl, it_bool_int, it_bool_str, it_bool_tup, it_bool_lst, it_bool_rol, it_str_non, it_str_bl, it_str_int, it_str_str, it_str_tup, it_str_lst, it_str_rol, it_tuple_non, it_tuple_bl, it_tuple_int, it_tuple_str, it_tuple_tup, it_tuple_lst, it_tuple_rol, it_list_non, it_list_bl, it_list_int, it_list_str, it_list_tup, it_list_lst, it_list_rol, wc_of (sp_is_link_jt (by omega : 1 ≤ n - 1) hd), wc_of (sp_is_joint_jt (by omega : 1 ≤ n - 1) h1.1 h1.2.1)]
    simp only [Fr.d, Fr.ds_eq]
    have hps : 0 < Fr.deps ps := by
      cases ps with
      | nil => simp at h1
      | cons p r => have := Fr.dep_pos p; have := Fr.dep_le (p := p) (ps := p :: r) List.mem_cons_self; omega
    rw [decide_eq_false (by omega : ¬ dp < 2)]
    simp only [we_var, we_cn, we_cb, we_ci, we_cs, we_glob, we_tup, we_lst, we_newc, we_op, we_isN, we_notN, we_neg, we_nt, we_and, we_or, we_chain, we_ite, we_call, we_calll, we_b1, we_b2, we_isi, we_ix, we_sl, we_lc, we_lrng, we_olen, we_oix, we_inD, we_getD, we_calld, we_osl, we_rev, we_isB, we_cnew, we_clen, we_cpop, we_cnil, wl_nil, wl_cons, wr_it, wr_rng, wr_enum, wr_zip, ws_set, ws_own, ws_frz, ws_unp, ws_unp2, ws_par, ws_app, ws_oset, ws_cset, ws_ifs, ws_fors, ws_whil, ws_ret, ws_retn, ws_brk, ws_cnt, ws_pas, ws_expr, wb_nil, wb_cons, thn_nx, thn_rt, thn_bk, thn_ct, fin_nx, fin_rt, turn_nx, turn_ct, turn_bk, turn_rt, List.set_cons_zero, List.set_cons_succ, List.set_nil, List.getElem?_cons_zero, List.getElem?_cons_succ, Option.some.injEq, Sl.v.injEq, Sl.o.injEq, D.bl.injEq, D.int.injEq, D.str.injEq, D.tup.injEq, D.lst.injEq, D.cell.injEq, D.fn.injEq, exists_eq_left, exists_eq_left', exists_eq_right, List.length_cons, List.length_nil, Nat.reduceAdd, Nat.reduceSub, List.replicate_succ, List.replicate_zero, List.map_cons, List.map_nil, List.cons_append, List.nil_append, List.append_nil, true_and, and_true, false_and, and_false, forall_const, Bool.true_eq_false, Bool.false_eq_true, Bool.not_true, Bool.not_false, setMany, asg, Tg.slots, wipeE, optI, testOf, ne_eq, not_true_eq_false, not_false_eq_true, exists_const, reduceCtorEq, false_or, or_false, true_or, or_true, exists_false, Int.reduceLT, Int.reduceLE, Int.reduceNeg, Int.reduceAdd, Int.reduceSub, decide_true, decide_false, Bool.and_true, Bool.true_and, Bool.and_false, Bool.false_and, Bool.or_true, Bool.true_or, Bool.or_false, Bool.false_or, false_implies, true_implies, if_true, if_false, ite_true, ite_false, implies_true, envOf, op_add, op_addT, op_addL, op_sub, op_mul, op_fdiv, op_mod, op_lt, op_le, op_gt, op_ge, op_eqI, op_neI, op_eqS, op_neS, len_tup, len_lst, len_rol, abs_int, max2, min2, int_int, int_bl, nn_non, nn_int, nn_bl, nn_str, nn_tup, nn_lst, ix_tup, ix_lst, ix_rol, ix_cell, op_inS2, sl_tup, sl_lst, items_tup, items_lst, atI_0, atI_1, atI_2, cutD_1, cutD_from1, cutD_to, p10_6, p10_7, p10_8, p10_9, p10_10, p10_11, p10_12, sum_ints, all_bls, any_bls, eqb_ints, eqb_nilL, isin_ints, enum_lst, cmp_int, cmp_non, cmp_str, cmp_dInts, cmp_nilL, it_int_non, it_int_bl, it_int_int, it_int_str, it_int_tup, it_int_lst, it_int_rol, it_bool_non, it_bool_bl, it_bool_int, it_bool_str, it_bool_tup, it_bool_lst, it_bool_rol, it_str_non, it_str_bl, it_str_int, it_str_str, it_str_tup, it_str_lst, it_str_rol, it_tuple_non, it_tuple_bl, it_tuple_int, it_tuple_str, it_tuple_tup, it_tuple_lst, it_tuple_rol, it_list_non, it_list_bl, it_list_int, it_list_str, it_list_tup, it_list_lst, it_list_rol]
    refine wg_all Fr.d (fun _ => .bl true) (fun p hp => ⟨_, rfl, ?_⟩) ?_
    · have hp2 := Fr.dep_le hp
      simp only [we_var, we_cn, we_cb, we_ci, we_cs, we_glob, we_tup, we_lst, we_newc, we_op, we_isN, we_notN, we_neg, we_nt, we_and, we_or, we_chain, we_ite, we_call, we_calll, we_b1, we_b2, we_isi, we_ix, we_sl, we_lc, we_lrng, we_olen, we_oix, we_inD, we_getD, we_calld, we_osl, we_rev, we_isB, we_cnew, we_clen, we_cpop, we_cnil, wl_nil, wl_cons, wr_it, wr_rng, wr_enum, wr_zip, ws_set, ws_own, ws_frz, ws_unp, ws_unp2, ws_par, ws_app, ws_oset, ws_cset, ws_ifs, ws_fors, ws_whil, ws_ret, ws_retn, ws_brk, ws_cnt, ws_pas, ws_expr, wb_nil, wb_cons, thn_nx, thn_rt, thn_bk, thn_ct, fin_nx, fin_rt, turn_nx, turn_ct, turn_bk, turn_rt, List.set_cons_zero, List.set_cons_succ, List.set_nil, List.getElem?_cons_zero, List.getElem?_cons_succ, Option.some.injEq, Sl.v.injEq, Sl.o.injEq, D.bl.injEq, D.int.injEq, D.str.injEq, D.tup.injEq, D.lst.injEq, D.cell.injEq, D.fn.injEq, exists_eq_left, exists_eq_left', exists_eq_right, List.length_cons, List.length_nil, Nat.reduceAdd, Nat.reduceSub, List.replicate_succ, List.replicate_zero, List.map_cons, List.map_nil, List.cons_append, List.nil_append, List.append_nil, true_and, and_true, false_and, and_false, forall_const, Bool.true_eq_false, Bool.false_eq_true, Bool.not_true, Bool.not_false, setMany, asg, Tg.slots, wipeE, optI, testOf, ne_eq, not_true_eq_false, not_false_eq_true, exists_const, reduceCtorEq, false_or, or_false, true_or, or_true, exists_false, Int.reduceLT, Int.reduceLE, Int.reduceNeg, Int.reduceAdd, Int.reduceSub, decide_true, decide_false, Bool.and_true, Bool.true_and, Bool.and_false, Bool.false_and, Bool.or_true, Bool.true_or, Bool.or_false, Bool.false_or, false_implies, true_implies, if_true, if_false, ite_true, ite_false, implies_true, envOf, op_add, op_addT, op_addL, op_sub, op_mul, op_fdiv, op_mod, op_lt, op_le, op_gt, op_ge, op_eqI, op_neI, op_eqS, op_neS, len_tup, len_lst, len_rol, abs_int, max2, min2, int_int, int_bl, nn_non, nn_int, nn_bl, nn_str, nn_tup, nn_lst, ix_tup, ix_lst, ix_rol, ix_cell, op_inS2, sl_tup, sl_lst, items_tup, items_lst, atI_0, atI_1, atI_2, cutD_1, cutD_from1, cutD_to, p10_6, p10_7, p10_8, p10_9, p10_10, p10_11, p10_12, sum_ints, all_bls, any_bls, eqb_ints, eqb_nilL, isin_ints, enum_lst, cmp_int, cmp_non, cmp_str, cmp_dInts, cmp_nilL, it_int_non, it_int_bl, it_int_int, it_int_str, it_int_tup, it_int_lst, it_int_rol, it_bool_non, it_bool_bl, it_bool_int, it_bool_str, it_bool_tup, it_bool_lst, it_bool_rol, it_str_non, it_str_bl, it_str_int, it_str_str, it_str_tup, it_str_lst, it_str_rol, it_tuple_non, it_tuple_bl, it_tuple_int, it_tuple_str, it_tuple_tup, it_tuple_lst, it_tuple_rol, it_list_non, it_list_bl, it_list_int, it_list_str, it_list_tup, it_list_lst, it_list_rol, wc_of (ih p hp (dp := dp - 1) (n := n - 1) (h1.2.2 p hp) (by have := Fr.dep_le hp; omega) (by omega) (by have := Fr.dep_le hp; omega))]
    · simp only [all_true, we_var, we_cn, we_cb, we_ci, we_cs, we_glob, we_tup, we_lst, we_newc, we_op, we_isN, we_notN, we_neg, we_nt, we_and, we_or, we_chain, we_ite, we_call, we_calll, we_b1, we_b2, we_isi, we_ix, we_sl, we_lc, we_lrng, we_olen, we_oix, we_inD, we_getD, we_calld, we_osl, we_rev, we_isB, we_cnew, we_clen, we_cpop, we_cnil, wl_nil, wl_cons, wr_it, wr_rng, wr_enum, wr_zip, ws_set, ws_own, ws_frz, ws_unp, ws_unp2, ws_par, ws_app, ws_oset, ws_cset, ws_ifs, ws_fors, ws_whil, ws_ret, ws_retn, ws_brk, ws_cnt, ws_pas, ws_expr, wb_nil, wb_cons, thn_nx, thn_rt, thn_bk, thn_ct, fin_nx, fin_rt, turn_nx, turn_ct, turn_bk, turn_rt, List.set_cons_zero, List.set_cons_succ, List.set_nil, List.getElem?_cons_zero, List.getElem?_cons_succ, Option.some.injEq, Sl.v.injEq, Sl.o.injEq, D.bl.injEq, D.int.injEq, D.str.injEq, D.tup.injEq, D.lst.injEq, D.cell.injEq, D.fn.injEq, exists_eq_left, exists_eq_left', exists_eq_right, List.length_cons, List.length_nil, Nat.reduceAdd, Nat.reduceSub, List.replicate_succ, List.replicate_zero, List.map_cons, List.map_nil, List.cons_append, List.nil_append, List.append_nil, true_and, and_true, false_and, and_false, forall_const, Bool.true_eq_false, Bool.false_eq_true, Bool.not_true, Bool.not_false, setMany, asg, Tg.slots, wipeE, optI, testOf, ne_eq, not_true_eq_false, not_false_eq_true, exists_const, reduceCtorEq, false_or, or_false, true_or, or_true, exists_false, Int.reduceLT, Int.reduceLE, Int.reduceNeg, Int.reduceAdd, Int.reduceSub, decide_true, decide_false, Bool.and_true, Bool.true_and, Bool.and_false, Bool.false_and, Bool.or_true, Bool.true_or, Bool.or_false, Bool.false_or, false_implies, true_implies, if_true, if_false, ite_true, ite_false, implies_true, envOf, op_add, op_addT, op_addL, op_sub, op_mul, op_fdiv, op_mod, op_lt, op_le, op_gt, op_ge, op_eqI, op_neI, op_eqS, op_neS, len_tup, len_lst, len_rol, abs_int, max2, min2, int_int, int_bl, nn_non, nn_int, nn_bl, nn_str, nn_tup, nn_lst, ix_tup, ix_lst, ix_rol, ix_cell, op_inS2, sl_tup, sl_lst, items_tup, items_lst, atI_0, atI_1, atI_2, cutD_1, cutD_from1, cutD_to, p10_6, p10_7, p10_8, p10_9, p10_10, p10_11, p10_12, sum_ints, all_bls, any_bls, eqb_ints, eqb_nilL, isin_ints, enum_lst, cmp_int, cmp_non, cmp_str, cmp_dInts, cmp_nilL, it_int_non, it_int_bl, it_int_int, it_int_str, it_int_tup, it_int_lst, it_int_rol, it_bool_non, it_bool_bl, it_bool_int, it_bool_str, it_bool_tup, it_bool_lst, it_bool_rol, it_str_non, it_str_bl, it_str_int, it_str_str, it_str_tup, it_str_lst, it_str_rol, it_tuple_non, it_tuple_bl, it_tuple_int, it_tuple_str, it_tuple_tup, it_tuple_lst, it_tuple_rol, it_list_non, it_list_bl, it_list_int, it_list_str, it_list_tup, it_list_lst, it_list_rol]
theorem sp_leaves (f : Fr) : ∀ {n : Nat} {S : Store}, f.ok 1000000000 → f.lks.length ≤ 100000 → f.dep + 1 ≤ n → ec gv pr n F.leaves [f.d] S = some (.lst (f.lks.map Lk.d), S) := by
  refine Fr.ind (P := fun f => ∀ {n : Nat} {S : Store}, f.ok 1000000000 → f.lks.length ≤ 100000 → f.dep + 1 ≤ n → ec gv pr n F.leaves [f.d] S = some (.lst (f.lks.map Lk.d), S)) (fun l n S h1 h2 h3 => ?_) (fun r ps ih n S h1 h2 h3 => ?_) f
  · refine of_wc ?_
    simp only [Fr.dep] at h3
    rw [wc_def' (by omega) pr_leaves rfl]
    simp [fd_leaves, we_var, we_cn, we_cb, we_ci, we_cs, we_glob, we_tup, we_lst, we_newc, we_op, we_isN, we_notN, we_neg, we_nt, we_and, we_or, we_chain, we_ite, we_call, we_calll, we_b1, we_b2, we_isi, we_ix, we_sl, we_lc, we_lrng, we_olen, we_oix, we_inD, we_getD, we_calld, we_osl, we_rev, we_isB, we_cnew, we_clen, we_cpop, we_cnil, wl_nil, wl_cons, wr_it, wr_rng, wr_enum, wr_zip, ws_set, ws_own, ws_frz, ws_unp, ws_unp2, ws_par, ws_app, ws_oset, ws_cset, ws_ifs, ws_fors, ws_whil, ws_ret, ws_retn, ws_brk, ws_cnt, ws_pas, ws_expr, wb_nil, wb_cons, thn_nx, thn_rt, thn_bk, thn_ct, fin_nx, fin_rt, turn_nx, turn_ct, turn_bk, turn_rt, List.set_cons_zero, List.set_cons_succ, List.set_nil, List.getElem?_cons_zero, List.getElem?_cons_succ, Option.some.injEq, Sl.v.injEq, Sl.o.injEq, D.bl.injEq, D.int.injEq, D.str.injEq, D.tup.injEq, D.lst.injEq, D.cell.injEq, D.fn.injEq, exists_eq_left, exists_eq_left', exists_eq_right, List.length_cons, List.length_nil, Nat.reduceAdd, Nat.reduceSub, List.replicate_succ, List.replicate_zero, List.map_cons, List.map_nil, List.cons_append, List.nil_append, List.append_nil, true_and, and_true, false_and, and_false, forall_const, Bool.true_eq_false, Bool.false_eq_true, Bool.not_true, Bool.not_false, setMany, asg, Tg.slots, wipeE, optI, testOf, ne_eq, not_true_eq_false, not_false_eq_true, exists_const, reduceCtorEq, false_or, or_false, true_or, or_true, exists_false, Int.reduceLT, Int.reduceLE, Int.reduceNeg, Int.reduceAdd, Int.reduceSub, decide_true, decide_false, Bool.and_true, Bool.true_and, Bool.and_false, Bool.false_and, Bool.or_true, Bool.true_or, Bool.or_false, Bool.false_or, false_implies, true_implies, if_true, if_false, ite_true, ite_false, implies_true, envOf, op_add, op_addT, op_addL, op_sub, op_mul, op_fdiv, op_mod, op_lt, op_le, op_gt, op_ge, op_eqI, op_neI, op_eqS, op_neS, len_tup, len_lst, len_rol, abs_int, max2, min2, int_int, int_bl, nn_non, nn_int, nn_bl, nn_str, nn_tup, nn_lst, ix_tup, ix_lst, ix_rol, ix_cell, op_inS2, sl_tup, sl_lst, items_tup, items_lst, atI_0, atI_1, atI_2, cutD_1, cutD_from1, cutD_to, p10_6, p10_7, p10_8, p10_9, p10_10, p10_11, p10_12, sum_ints, all_bls, any_bls, eqb_ints, eqb_nilL, isin_ints, enum_lst, cmp_int, cmp_non, cmp_str, cmp_dInts, cmp_nilL, it_int_non, it_int_bl, it_int_int, it_int_str, it_int_tup, it_int_lst, it_int_rol, it_bool_non, it_bool_bl, it_bool_int, it_bool_str, it_bool_tup, it_bool_lst, it_bool_rol, it_str_non, it_str_bl, it_str_int, it_str_str, it_str_tup, it_str_lst, it_str_rol, it_tuple_non, it_tuple_bl, it_tuple_int, it_tuple_str, it_tuple_tup, it_tuple_lst, it_tuple_rol, it_list_non, it_list_bl, it_list_int, it_list_str, it_list_tup, it_list_lst, it_list_rol, Fr.d, Fr.lks, wc_of (sp_is_joint_leaf (by omega : 1 ≤ n - 1))]
  · refine of_wc ?_
    simp only [Fr.ok, Fr.dep, Fr.oks_iff, Fr.lks, Fr.lkss_eq] at h1 h2 h3
    rw [wc_def' (by omega) pr_leaves rfl]
    simp only [fd_leaves, we_var, we_cn, we_cb, we_ci, we_cs, we_glob, we_tup, we_lst, we_newc, we_op, we_isN, we_notN, we_neg, we_nt, we_and, we_or, we_chain, we_ite, we_call, we_calll, we_b1, we_b2, we_isi, we_ix, we_sl, we_lc, we_lrng, we_olen, we_oix, we_inD, we_getD, we_calld, we_osl, we_rev, we_isB, we_cnew, we_clen, we_cpop, we_cnil, wl_nil, wl_cons, wr_it, wr_rng, wr_enum, wr_zip, ws_set, ws_own, ws_frz, ws_unp, ws_unp2, ws_par, ws_app, ws_oset, ws_cset, ws_ifs, ws_fors, ws_whil, ws_ret, ws_retn, ws_brk, ws_cnt, ws_pas, ws_expr, wb_nil, wb_cons, thn_nx, thn_rt, thn_bk, thn_ct, fin_nx, fin_rt, turn_nx, turn_ct, turn_bk, turn_rt, List.set_cons_zero, List.set_cons_succ, List.set_nil, List.getElem?_cons_zero, List.getElem?_cons_succ, Option.some.injEq, Sl.v.injEq, Sl.o.injEq, D.bl.injEq, D.int.injEq, D.str.injEq, D.tup.injEq, D.lst.injEq, D.cell.injEq, D.fn.injEq, exists_eq_left, exists_eq_left', exists_eq_right, List.length_cons, List.length_nil, Nat.reduceAdd, Nat.reduceSub, List.replicate_succ, List.replicate_zero, List.map_cons, List.map_nil, List.cons_append, List.nil_append, List.append_nil, true_and, and_true, false_and, and_false, forall_const, Bool.true_eq_false, Bool.false_eq_true, Bool.not_true, Bool.not_false, setMany, asg, Tg.slots, wipeE, optI, testOf, ne_eq, not_true_eq_false, not_false_eq_true, exists_const, reduceCtorEq, false_or, or_false, true_or, or_true, exists_false, Int.reduceLT, Int.reduceLE, Int.reduceNeg, Int.reduceAdd, Int.reduceSub, decide_true, decide_false, Bool.and_true, Bool.true_and, Bool.and_false, Bool.false_and, Bool.or_true, Bool.true_or, Bool.or_false, Bool.false_or, false_implies, true_implies, if_true, if_false, ite_true, ite_false, implies_true, envOf, op_add, op_addT, op_addL, op_sub, op_mul, op_fdiv, op_mod, op_lt, op_le, op_gt, op_ge, op_eqI, op_neI, op_eqS, op_neS, len_tup, len_lst, len_rol, abs_int, max2, min2, int_int, int_bl, nn_non, nn_int, nn_bl, nn_str, nn_tup, nn_lst, ix_tup, ix_lst, ix_rol, ix_cell, op_inS2, sl_tup, sl_lst, items_tup, items_lst, atI_0, atI_1, atI_2, cutD_1, cutD_from1, cutD_to, p10_6, p10_7, p10_8, p10_9, p10_10, p10_11, p10_12, sum_ints, all_bls, any_bls, eqb_ints, eqb_nilL, isin_ints, enum_lst, cmp_int, cmp_non, cmp_str, cmp_dInts, cmp_nilL, it_int_non, it_int_bl, it_int_int, it_int_str, it_int_tup, it_int_lst, it_int_rol, it_bool_non, it_bool_bl, it_bool_int, it_bool_str, it_bool_tup, it_bool_lst, it_bool_rol, it_str_non, it_str_bl, it_str_int, it_str_str, it_str_tup, it_str_lst, it_str_rol, it_tuple_non, it_tuple_bl, it_tuple_int, it_tuple_str, it_tuple_tup, it_tuple_lst, it_tuple_rol, it_list_non, it_list_bl, it_list_int, it_list_str, it_list_tup, it_list_lst, it_list_rol, wc_of (sp_is_joint_jt (by omega : 1 ≤ n - 1) h1.1 h1.2.1)]
    simp only [Fr.d, Fr.ds_eq, we_var, we_cn, we_cb, we_ci, we_cs, we_glob, we_tup, we_lst, we_newc, we_op, we_isN, we_notN, we_neg, we_nt, we_and, we_or, we_chain, we_ite, we_call, we_calll, we_b1, we_b2, we_isi, we_ix, we_sl, we_lc, we_lrng, we_olen, we_oix, we_inD, we_getD, we_calld, we_osl, we_rev, we_isB, we_cnew, we_clen, we_cpop, we_cnil, wl_nil, wl_cons, wr_it, wr_rng, wr_enum, wr_zip, ws_set, ws_own, ws_frz, ws_unp, ws_unp2, ws_par, ws_app, ws_oset, ws_cset, ws_ifs, ws_fors, ws_whil, ws_ret, ws_retn, ws_brk, ws_cnt, ws_pas, ws_expr, wb_nil, wb_cons, thn_nx, thn_rt, thn_bk, thn_ct, fin_nx, fin_rt, turn_nx, turn_ct, turn_bk, turn_rt, List.set_cons_zero, List.set_cons_succ, List.set_nil, List.getElem?_cons_zero, List.getElem?_cons_succ, Option.some.injEq, Sl.v.injEq, Sl.o.injEq, D.bl.injEq, D.int.injEq, D.str.injEq, D.tup.injEq, D.lst.injEq, D.cell.injEq, D.fn.injEq, exists_eq_left, exists_eq_left', exists_eq_right, List.length_cons, List.length_nil, Nat.reduceAdd, Nat.reduceSub, List.replicate_succ, List.replicate_zero, List.map_cons, List.map_nil, List.cons_append, List.nil_append, List.append_nil, true_and, and_true, false_and, and_false, forall_const, Bool.true_eq_false, Bool.false_eq_true, Bool.not_true, Bool.not_false, setMany, asg, Tg.slots, wipeE, optI, testOf, ne_eq, not_true_eq_false, not_false_eq_true, exists_const, reduceCtorEq, false_or, or_false, true_or, or_true, exists_false, Int.reduceLT, Int.reduceLE, Int.reduceNeg, Int.reduceAdd, Int.reduceSub, decide_true, decide_false, Bool.and_true, Bool.true_and, Bool.and_false, Bool.false_and, Bool.or_true, Bool.true_or, Bool.or_false, Bool.false_or, false_implies, true_implies, if_true, if_false, ite_true, ite_false, implies_true, envOf, op_add, op_addT, op_addL, op_sub, op_mul, op_fdiv, op_mod, op_lt, op_le, op_gt, op_ge, op_eqI, op_neI, op_eqS, op_neS, len_tup, len_lst, len_rol, abs_int, max2, min2, int_int, int_bl, nn_non, nn_int, nn_bl, nn_str, nn_tup, nn_lst, ix_tup, ix_lst, ix_rol, ix_cell, op_inS2, sl_tup, sl_lst, items_tup, items_lst, atI_0, atI_1, atI_2, cutD_1, cutD_from1, cutD_to, p10_6, p10_7, p10_8, p10_9, p10_10, p10_11, p10_12, sum_ints, all_bls, any_bls, eqb_ints, eqb_nilL, isin_ints, enum_lst, cmp_int, cmp_non, cmp_str, cmp_dInts, cmp_nilL, it_int_non, it_int_bl, it_int_int, it_int_str, it_int_tup, it_int_lst, it_int_rol, it_bool_non, it_bool_bl, it_bool_int, it_bool_str, it_bool_tup, it_bool_lst, it_bool_rol, it_str_non, it_str_bl, it_str_int, it_str_str, it_str_tup, it_str_lst, it_str_rol, it_tuple_non, it_tuple_bl, it_tuple_int, it_tuple_str, it_tuple_tup, it_tuple_lst, it_tuple_rol, it_list_non, it_list_bl, it_list_int, it_list_str, it_list_tup, it_list_lst, it_list_rol]
    refine wf_inv Fr.d ps (fun pre δ S1 => S1 = S ∧ ∃ x, δ = [.v (.tup (.str (jw r) :: ps.map Fr.d)), .v (.lst ((pre.flatMap Fr.lks).map Lk.d)), x]) ⟨rfl, _, rfl⟩ ?_ ?_
    · rintro pre p post rfl δ S1 ⟨rfl, x, rfl⟩
      have hl : (pre.flatMap Fr.lks).length + p.lks.length ≤ 100000 := by
        simp only [List.flatMap_append, List.flatMap_cons, List.length_append] at h2
        omega
      have hp : p ∈ pre ++ p :: post := by simp
      have hp2 := Fr.dep_le hp
      refine ⟨_, rfl, ?_⟩
      simp only [we_var, we_cn, we_cb, we_ci, we_cs, we_glob, we_tup, we_lst, we_newc, we_op, we_isN, we_notN, we_neg, we_nt, we_and, we_or, we_chain, we_ite, we_call, we_calll, we_b1, we_b2, we_isi, we_ix, we_sl, we_lc, we_lrng, we_olen, we_oix, we_inD, we_getD, we_calld, we_osl, we_rev, we_isB, we_cnew, we_clen, we_cpop, we_cnil, wl_nil, wl_cons, wr_it, wr_rng, wr_enum, wr_zip, ws_set, ws_own, ws_frz, ws_unp, ws_unp2, ws_par, ws_app, ws_oset, ws_cset, ws_ifs, ws_fors, ws_whil, ws_ret, ws_retn, ws_brk, ws_cnt, ws_pas, ws_expr, wb_nil, wb_cons, thn_nx, thn_rt, thn_bk, thn_ct, fin_nx, fin_rt, turn_nx, turn_ct, turn_bk, turn_rt, List.set_cons_zero, List.set_cons_succ, List.set_nil, List.getElem?_cons_zero, List.getElem?_cons_succ, Option.some.injEq, Sl.v.injEq, Sl.o.injEq, D.bl.injEq, D.int.injEq, D.str.injEq, D.tup.injEq, D.lst.injEq, D.cell.injEq, D.fn.injEq, exists_eq_left, exists_eq_left', exists_eq_right, List.length_cons, List.length_nil, Nat.reduceAdd, Nat.reduceSub, List.replicate_succ, List.replicate_zero, List.map_cons, List.map_nil, List.cons_append, List.nil_append, List.append_nil, true_and, and_true, false_and, and_false, forall_const, Bool.true_eq_false, Bool.false_eq_true, Bool.not_true, Bool.not_false, setMany, asg, Tg.slots, wipeE, optI, testOf, ne_eq, not_true_eq_false, not_false_eq_true, exists_const, reduceCtorEq, false_or, or_false, true_or, or_true, exists_false, Int.reduceLT, Int.reduceLE, Int.reduceNeg, Int.reduceAdd, Int.reduceSub, decide_true, decide_false, Bool.and_true, Bool.true_and, Bool.and_false, Bool.false_and, Bool.or_true, Bool.true_or, Bool.or_false, Bool.false_or, false_implies, true_implies, if_true, if_false, ite_true, ite_false, implies_true, envOf, op_add, op_addT, op_addL, op_sub, op_mul, op_fdiv, op_mod, op_lt, op_le, op_gt, op_ge, op_eqI, op_neI, op_eqS, op_neS, len_tup, len_lst, len_rol, abs_int, max2, min2, int_int, int_bl, nn_non, nn_int, nn_bl, nn_str, nn_tup, nn_lst, ix_tup, ix_lst, ix_rol, ix_cell, op_inS2, sl_tup, sl_lst, items_tup, items_lst, atI_0, atI_1, atI_2, cutD_1, cutD_from1, cutD_to, p10_6, p10_7, p10_8, p10_9, p10_10, p10_11, p10_12, sum_ints, all_bls, any_bls, eqb_ints, eqb_nilL, isin_ints, enum_lst, cmp_int, cmp_non, cmp_str, cmp_dInts, cmp_nilL, it_int_non, it_int_bl, it_int_int, it_int_str, it_int_tup, it_int_lst, it_int_rol, it_bool_non, it_bool_bl, it_bool_int, it_bool_str, it_bool_tup, it_bool_lst, it_bool_rol, it_str_non, it_str_bl, it_str_int, it_str_str, it_str_tup, it_str_lst, it_str_rol, it_tuple_non, it_tuple_bl, it_tuple_int, it_tuple_str, it_tuple_tup, it_tuple_lst, it_tuple_rol, it_list_non, it_list_bl, it_list_int, it_list_str, it_list_tup, it_list_lst, it_list_rol, wc_of (ih p hp (n := n - 1) (S := S1) (h1.2.2 p hp) (by omega) (by omega)), List.length_map]
      rw [if_pos (by show _ ≤ 1000000; omega)]
      simp
    · rintro δ S1 ⟨rfl, x, rfl⟩
      simp [we_var, we_cn, we_cb, we_ci, we_cs, we_glob, we_tup, we_lst, we_newc, we_op, we_isN, we_notN, we_neg, we_nt, we_and, we_or, we_chain, we_ite, we_call, we_calll, we_b1, we_b2, we_isi, we_ix, we_sl, we_lc, we_lrng, we_olen, we_oix, we_inD, we_getD, we_calld, we_osl, we_rev, we_isB, we_cnew, we_clen, we_cpop, we_cnil, wl_nil, wl_cons, wr_it, wr_rng, wr_enum, wr_zip, ws_set, ws_own, ws_frz, ws_unp, ws_unp2, ws_par, ws_app, ws_oset, ws_cset, ws_ifs, ws_fors, ws_whil, ws_ret, ws_retn, ws_brk, ws_cnt, ws_pas, ws_expr, wb_nil, wb_cons, thn_nx, thn_rt, thn_bk, thn_ct, fin_nx, fin_rt, turn_nx, turn_ct, turn_bk, turn_rt, List.set_cons_zero, List.set_cons_succ, List.set_nil, List.getElem?_cons_zero, List.getElem?_cons_succ, Option.some.injEq, Sl.v.injEq, Sl.o.injEq, D.bl.injEq, D.int.injEq, D.str.injEq, D.tup.injEq, D.lst.injEq, D.cell.injEq, D.fn.injEq, exists_eq_left, exists_eq_left', exists_eq_right, List.length_cons, List.length_nil, Nat.reduceAdd, Nat.reduceSub, List.replicate_succ, List.replicate_zero, List.map_cons, List.map_nil, List.cons_append, List.nil_append, List.append_nil, true_and, and_true, false_and, and_false, forall_const, Bool.true_eq_false, Bool.false_eq_true, Bool.not_true, Bool.not_false, setMany, asg, Tg.slots, wipeE, optI, testOf, ne_eq, not_true_eq_false, not_false_eq_true, exists_const, reduceCtorEq, false_or, or_false, true_or, or_true, exists_false, Int.reduceLT, Int.reduceLE, Int.reduceNeg, Int.reduceAdd, Int.reduceSub, decide_true, decide_false, Bool.and_true, Bool.true_and, Bool.and_false, Bool.false_and, Bool.or_true, Bool.true_or, Bool.or_false, Bool.false_or, false_implies, true_implies, if_true, if_false, ite_true, ite_false, implies_true, envOf, op_add, op_addT, op_addL, op_sub, op_mul, op_fdiv, op_mod, op_lt, op_le, op_gt, op_ge, op_eqI, op_neI, op_eqS, op_neS, len_tup, len_lst, len_rol, abs_int, max2, min2, int_int, int_bl, nn_non, nn_int, nn_bl, nn_str, nn_tup, nn_lst, ix_tup, ix_lst, ix_rol, ix_cell, op_inS2, sl_tup, sl_lst, items_tup, items_lst, atI_0, atI_1, atI_2, cutD_1, cutD_from1, cutD_to, p10_6, p10_7, p10_8, p10_9, p10_10, p10_11, p10_12, sum_ints, all_bls, any_bls, eqb_ints, eqb_nilL, isin_ints, enum_lst, cmp_int, cmp_non, cmp_str, cmp_dInts, cmp_nilL, it_int_non, it_int_bl, it_int_int, it_int_str, it_int_tup, it_int_lst, it_int_rol, it_bool_non, it_bool_bl, it_bool_int, it_bool_str, it_bool_tup, it_bool_lst, it_bool_rol, it_str_non, it_str_bl, it_str_int, it_str_str, it_str_tup, it_str_lst, it_str_rol, it_tuple_non, it_tuple_bl, it_tuple_int, it_tuple_str, it_tuple_tup, it_tuple_lst, it_tuple_rol, it_list_non, it_list_bl, it_list_int, it_list_str, it_list_tup, it_list_lst, it_list_rol, Fr.lks, Fr.lkss_eq]
structure Fr.fit (f : Fr) : Prop where
  ok : f.ok 1000000000
  dep : f.dep ≤ 6
  lks : f.lks.length ≤ 30
theorem sp_is_frame {n : Nat} (hn : 9 ≤ n) {f : Fr} (h : f.fit) {S : Store} : ec gv pr n F.is_frame [f.d] S = some (.bl true, S) := by
  refine of_wc ?_
  have h1 := h.dep
  have h2 := h.lks
  rw [wc_def' (by omega) pr_is_frame rfl]
  simp only [fd_is_frame, we_var, we_cn, we_cb, we_ci, we_cs, we_glob, we_tup, we_lst, we_newc, we_op, we_isN, we_notN, we_neg, we_nt, we_and, we_or, we_chain, we_ite, we_call, we_calll, we_b1, we_b2, we_isi, we_ix, we_sl, we_lc, we_lrng, we_olen, we_oix, we_inD, we_getD, we_calld, we_osl, we_rev, we_isB, we_cnew, we_clen, we_cpop, we_cnil, wl_nil, wl_cons, wr_it, wr_rng, wr_enum, wr_zip, ws_set, ws_own, ws_frz, ws_unp, ws_unp2, ws_par, ws_app, ws_oset, ws_cset, ws_ifs, ws_fors, ws_whil, ws_ret, ws_retn, ws_brk, ws_cnt, ws_pas, ws_expr, wb_nil, wb_cons, thn_nx, thn_rt, thn_bk, thn_ct, fin_nx, fin_rt, turn_nx, turn_ct, turn_bk, turn_rt, List.set_cons_zero, List.set_cons_succ, List.set_nil, List.getElem?_cons_zero, List.getElem?_cons_succ, Option.some.injEq, Sl.v.injEq, Sl.o.injEq, D.bl.injEq, D.int.injEq, D.str.injEq, D.tup.injEq, D.lst.injEq, D.cell.injEq, D.fn.injEq, exists_eq_left, exists_eq_left', exists_eq_right, List.length_cons, List.length_nil, Nat.reduceAdd, Nat.reduceSub, List.replicate_succ, List.replicate_zero, List.map_cons, List.map_nil, List.cons_append, List.nil_append, List.append_nil, true_and, and_true, false_and, and_false, forall_const, Bool.true_eq_false, Bool.false_eq_true, Bool.not_true, Bool.not_false, setMany, asg, Tg.slots, wipeE, optI, testOf, ne_eq, not_true_eq_false, not_false_eq_true, exists_const, reduceCtorEq, false_or, or_false, true_or, or_true, exists_false, Int.reduceLT, Int.reduceLE, Int.reduceNeg, Int.reduceAdd, Int.reduceSub, decide_true, decide_false, Bool.and_true, Bool.true_and, Bool.and_false, Bool.false_and, Bool.or_true, Bool.true_or, Bool.or_false, Bool.false_or, false_implies, true_implies, if_true, if_false, ite_true, ite_false, implies_true, envOf, op_add, op_addT, op_addL, op_sub, op_mul, op_fdiv, op_mod, op_lt, op_le, op_gt, op_ge, op_eqI, op_neI, op_eqS, op_neS, len_tup, len_lst, len_rol, abs_int, max2, min2, int_int, int_bl, nn_non, nn_int, nn_bl, nn_str, nn_tup, nn_lst, ix_tup, ix_lst, ix_rol, ix_cell, op_inS2, sl_tup, sl_lst, items_tup, items_lst, atI_0, atI_1, atI_2, cutD_1, cutD_from1, cutD_to, p10_6, p10_7, p10_8, p10_9, p10_10, p10_11, p10_12, sum_ints, all_bls, any_bls, eqb_ints, eqb_nilL, isin_ints, enum_lst, cmp_int, cmp_non, cmp_str, cmp_dInts, cmp_nilL, it_int_non, it_int_bl, it_int_int, it_int_str, it_int_tup, it_int_lst, it_int_rol, it_bool_non, it_bool_bl, it_bool_int, it_bool_str, it_bool_tup, it_bool_lst, it_bool_rol, it_str_non, it_str_bl, it_str_int, it_str_str, it_str_tup, it_str_lst, it_str_rol, it_tuple_non, it_tuple_bl, it_tuple_int, it_tuple_str, it_tuple_tup, it_tuple_lst, it_tuple_rol, it_list_non, it_list_bl, it_list_int, it_list_str, it_list_tup, it_list_lst, it_list_rol, gv_MD, gv_isl, gv_MK, wc_of (sp_has_form f (n := n - 1) (dp := 6) h.ok (by omega) (by omega) (by omega)), wc_of (sp_leaves f (n := n - 1) h.ok (by omega) (by omega)), List.length_map]
  simp; omega
end MP

/-! SpC: stretches. -/
namespace MP
open PySem
def hD : Option Int → D
  | none => .non
  | some h => .int h
abbrev Iv := Int × Option Int
def qD (q : Iv) : D := .tup [.int q.1, hD q.2]
def rgD : Option Iv → D
  | none => .non
  | some q => qD q
def Lk.rg (l : Lk) : Iv := if l.k = .cable then (0, some l.lo) else if l.k = .strut then (l.lo, none) else (l.lo, some l.hi)
def leastOf (hs : List (Option Int)) : Option Int := if hs.filterMap id = [] then none else some (minI (hs.filterMap id))
def sumOf (hs : List (Option Int)) : Option Int := if none ∈ hs then none else some (hs.filterMap id).sum
def bothOf (qs : List Iv) : Option Iv := match leastOf (qs.map (·.2)) with
  | none => some (maxI (qs.map (·.1)), none)
  | some h => if maxI (qs.map (·.1)) ≤ h then some (maxI (qs.map (·.1)), some h) else none
def others (qs : List Iv) (k : Nat) : List (Option Int) := (qs.take k ++ qs.drop (k + 1)).map (·.2)
def lowTo (qs : List Iv) : Nat → Int
  | 0 => 0
  | k + 1 => match qs[k]?, sumOf (others qs k) with
    | some q, some r => max (lowTo qs k) (q.1 - r)
    | _, _ => lowTo qs k
def behindOf (qs : List Iv) : Iv := (lowTo qs qs.length, sumOf (qs.map (·.2)))
def togOf (row : Bool) (rs : List (Option Iv)) : Option Iv := if none ∈ rs then none else if row then some (behindOf (rs.filterMap id)) else bothOf (rs.filterMap id)
mutual
def Fr.st : Fr → Option Iv
  | .leaf l => some l.rg
  | .jt row ps => togOf row (Fr.sts ps)
def Fr.sts : List Fr → List (Option Iv)
  | [] => []
  | p :: ps => Fr.st p :: Fr.sts ps
end
theorem Fr.sts_eq : ∀ ps : List Fr, Fr.sts ps = ps.map Fr.st
  | [] => rfl
  | p :: ps => by rw [Fr.sts, Fr.sts_eq ps]; rfl
theorem hD_cmp {h : Option Int} : (hD h).pl = true ∧ (hD h).dep ≤ 0 := by cases h <;> exact ⟨rfl, Nat.le_refl _⟩
theorem qD_cmp {q : Iv} : (qD q).pl = true ∧ (qD q).dep ≤ 1 := by
  obtain ⟨a, b⟩ := q
  cases b <;> exact ⟨rfl, Nat.le_refl _⟩
theorem rgD_cmp {q : Option Iv} : (rgD q).pl = true ∧ (rgD q).dep ≤ 1 := by
  cases q with
  | none => exact ⟨rfl, Nat.zero_le _⟩
  | some q => exact qD_cmp
theorem cmp_hs {hs : List (Option Int)} : D.cmp (.lst (hs.map hD)) = true := cmp_lst (fun _ _ => hD_cmp) (by decide)
theorem cmp_rs {hs : List (Option Iv)} : D.cmp (.lst (hs.map rgD)) = true := cmp_lst (fun _ _ => rgD_cmp) (by decide)
theorem cmp_qs {hs : List Iv} : D.cmp (.lst (hs.map qD)) = true := cmp_lst (fun _ _ => qD_cmp) (by decide)
theorem eqb_hD {h : Option Int} : D.eqb (hD h) .non = decide (h = none) := by cases h <;> rfl
theorem eqb_rgD {h : Option Iv} : D.eqb (rgD h) .non = decide (h = none) := by cases h <;> rfl
theorem any_mem {α : Type} [DecidableEq α] {xs : List α} {y : α} {p : α → Bool} (h : ∀ x, p x = decide (x = y)) : xs.any p = decide (y ∈ xs) := by
  rw [Bool.eq_iff_iff]
  simp only [List.any_eq_true, decide_eq_true_eq, h]
  exact ⟨fun ⟨x, h1, h2⟩ => h2 ▸ h1, fun h => ⟨_, h, rfl⟩⟩
theorem isin_hs {hs : List (Option Int)} : op2 .isin .non (.lst (hs.map hD)) = some (.bl (decide (none ∈ hs))) := by
  rw [op_isinL rfl cmp_hs, List.any_map, any_mem (y := none) (p := (fun z => D.eqb z D.non) ∘ hD) (fun x => (eqb_hD : D.eqb (hD x) .non = _))]
  exact congrArg (fun b => some (D.bl b)) (decide_eq_decide.mpr Iff.rfl)
theorem isin_rs {hs : List (Option Iv)} : op2 .isin .non (.lst (hs.map rgD)) = some (.bl (decide (none ∈ hs))) := by
  rw [op_isinL rfl cmp_rs, List.any_map, any_mem (y := none) (p := (fun z => D.eqb z D.non) ∘ rgD) (fun x => (eqb_rgD : D.eqb (rgD x) .non = _))]
  exact congrArg (fun b => some (D.bl b)) (decide_eq_decide.mpr Iff.rfl)
theorem isin_qs {qs : List Iv} : op2 .isin .non (.lst (qs.map qD)) = some (.bl false) := by
  rw [op_isinL rfl cmp_qs, List.any_map]
  congr 2
  rw [List.any_eq_false]
  intro q _
  simp [D.eqb, qD]
theorem hs_ints : ∀ {hs : List (Option Int)}, none ∉ hs → hs.map hD = (hs.filterMap id).map D.int
  | [], _ => rfl
  | none :: hs, h => by simp at h
  | some x :: hs, h => by
    simp only [List.map_cons, List.filterMap_cons, id]
    rw [hs_ints (by simp at h; exact h)]; rfl
theorem rs_qs : ∀ {hs : List (Option Iv)}, none ∉ hs → hs.map rgD = (hs.filterMap id).map qD
  | [], _ => rfl
  | none :: hs, h => by simp at h
  | some x :: hs, h => by
    simp only [List.map_cons, List.filterMap_cons, id]
    rw [rs_qs (by simp at h; exact h)]; rfl
theorem hD_nn {h : Option Int} : (hD h).nn = h.isNone := by cases h <;> rfl
theorem rgD_nn {h : Option Iv} : (rgD h).nn = h.isNone := by cases h <;> rfl
theorem qD_0 {q : Iv} {S : Store} : ix S (qD q) (.int 0) = some (.int q.1) := by simp [qD, we_var, we_cn, we_cb, we_ci, we_cs, we_glob, we_tup, we_lst, we_newc, we_op, we_isN, we_notN, we_neg, we_nt, we_and, we_or, we_chain, we_ite, we_call, we_calll, we_b1, we_b2, we_isi, we_ix, we_sl, we_lc, we_lrng, we_olen, we_oix, we_inD, we_getD, we_calld, we_osl, we_rev, we_isB, we_cnew, we_clen, we_cpop, we_cnil, wl_nil, wl_cons, wr_it, wr_rng, wr_enum, wr_zip, ws_set, ws_own, ws_frz, ws_unp, ws_unp2, ws_par, ws_app, ws_oset, ws_cset, ws_ifs, ws_fors, ws_whil, ws_ret, ws_retn, ws_brk, ws_cnt, ws_pas, ws_expr, wb_nil, wb_cons, thn_nx, thn_rt, thn_bk, thn_ct, fin_nx, fin_rt, turn_nx, turn_ct, turn_bk, turn_rt, List.set_cons_zero, List.set_cons_succ, List.set_nil, List.getElem?_cons_zero, List.getElem?_cons_succ, Option.some.injEq, Sl.v.injEq, Sl.o.injEq, D.bl.injEq, D.int.injEq, D.str.injEq, D.tup.injEq, D.lst.injEq, D.cell.injEq, D.fn.injEq, exists_eq_left, exists_eq_left', exists_eq_right, List.length_cons, List.length_nil, Nat.reduceAdd, Nat.reduceSub, List.replicate_succ, List.replicate_zero, List.map_cons, List.map_nil, List.cons_append, List.nil_append, List.append_nil, true_and, and_true, false_and, and_false, forall_const, Bool.true_eq_false, Bool.false_eq_true, Bool.not_true, Bool.not_false, setMany, asg, Tg.slots, wipeE, optI, testOf, ne_eq, not_true_eq_false, not_false_eq_true, exists_const, reduceCtorEq, false_or, or_false, true_or, or_true, exists_false, Int.reduceLT, Int.reduceLE, Int.reduceNeg, Int.reduceAdd, Int.reduceSub, decide_true, decide_false, Bool.and_true, Bool.true_and, Bool.and_false, Bool.false_and, Bool.or_true, Bool.true_or, Bool.or_false, Bool.false_or, false_implies, true_implies, if_true, if_false, ite_true, ite_false, implies_true, envOf, op_add, op_addT, op_addL, op_sub, op_mul, op_fdiv, op_mod, op_lt, op_le, op_gt, op_ge, op_eqI, op_neI, op_eqS, op_neS, len_tup, len_lst, len_rol, abs_int, max2, min2, int_int, int_bl, nn_non, nn_int, nn_bl, nn_str, nn_tup, nn_lst, ix_tup, ix_lst, ix_rol, ix_cell, op_inS2, sl_tup, sl_lst, items_tup, items_lst, atI_0, atI_1, atI_2, cutD_1, cutD_from1, cutD_to, p10_6, p10_7, p10_8, p10_9, p10_10, p10_11, p10_12, sum_ints, all_bls, any_bls, eqb_ints, eqb_nilL, isin_ints, enum_lst, cmp_int, cmp_non, cmp_str, cmp_dInts, cmp_nilL, it_int_non, it_int_bl, it_int_int, it_int_str, it_int_tup, it_int_lst, it_int_rol, it_bool_non, it_bool_bl, it_bool_int, it_bool_str, it_bool_tup, it_bool_lst, it_bool_rol, it_str_non, it_str_bl, it_str_int, it_str_str, it_str_tup, it_str_lst, it_str_rol, it_tuple_non, it_tuple_bl, it_tuple_int, it_tuple_str, it_tuple_tup, it_tuple_lst, it_tuple_rol, it_list_non, it_list_bl, it_list_int, it_list_str, it_list_tup, it_list_lst, it_list_rol]
theorem qD_1 {q : Iv} {S : Store} : ix S (qD q) (.int 1) = some (hD q.2) := by simp [qD, we_var, we_cn, we_cb, we_ci, we_cs, we_glob, we_tup, we_lst, we_newc, we_op, we_isN, we_notN, we_neg, we_nt, we_and, we_or, we_chain, we_ite, we_call, we_calll, we_b1, we_b2, we_isi, we_ix, we_sl, we_lc, we_lrng, we_olen, we_oix, we_inD, we_getD, we_calld, we_osl, we_rev, we_isB, we_cnew, we_clen, we_cpop, we_cnil, wl_nil, wl_cons, wr_it, wr_rng, wr_enum, wr_zip, ws_set, ws_own, ws_frz, ws_unp, ws_unp2, ws_par, ws_app, ws_oset, ws_cset, ws_ifs, ws_fors, ws_whil, ws_ret, ws_retn, ws_brk, ws_cnt, ws_pas, ws_expr, wb_nil, wb_cons, thn_nx, thn_rt, thn_bk, thn_ct, fin_nx, fin_rt, turn_nx, turn_ct, turn_bk, turn_rt, List.set_cons_zero, List.set_cons_succ, List.set_nil, List.getElem?_cons_zero, List.getElem?_cons_succ, Option.some.injEq, Sl.v.injEq, Sl.o.injEq, D.bl.injEq, D.int.injEq, D.str.injEq, D.tup.injEq, D.lst.injEq, D.cell.injEq, D.fn.injEq, exists_eq_left, exists_eq_left', exists_eq_right, List.length_cons, List.length_nil, Nat.reduceAdd, Nat.reduceSub, List.replicate_succ, List.replicate_zero, List.map_cons, List.map_nil, List.cons_append, List.nil_append, List.append_nil, true_and, and_true, false_and, and_false, forall_const, Bool.true_eq_false, Bool.false_eq_true, Bool.not_true, Bool.not_false, setMany, asg, Tg.slots, wipeE, optI, testOf, ne_eq, not_true_eq_false, not_false_eq_true, exists_const, reduceCtorEq, false_or, or_false, true_or, or_true, exists_false, Int.reduceLT, Int.reduceLE, Int.reduceNeg, Int.reduceAdd, Int.reduceSub, decide_true, decide_false, Bool.and_true, Bool.true_and, Bool.and_false, Bool.false_and, Bool.or_true, Bool.true_or, Bool.or_false, Bool.false_or, false_implies, true_implies, if_true, if_false, ite_true, ite_false, implies_true, envOf, op_add, op_addT, op_addL, op_sub, op_mul, op_fdiv, op_mod, op_lt, op_le, op_gt, op_ge, op_eqI, op_neI, op_eqS, op_neS, len_tup, len_lst, len_rol, abs_int, max2, min2, int_int, int_bl, nn_non, nn_int, nn_bl, nn_str, nn_tup, nn_lst, ix_tup, ix_lst, ix_rol, ix_cell, op_inS2, sl_tup, sl_lst, items_tup, items_lst, atI_0, atI_1, atI_2, cutD_1, cutD_from1, cutD_to, p10_6, p10_7, p10_8, p10_9, p10_10, p10_11, p10_12, sum_ints, all_bls, any_bls, eqb_ints, eqb_nilL, isin_ints, enum_lst, cmp_int, cmp_non, cmp_str, cmp_dInts, cmp_nilL, it_int_non, it_int_bl, it_int_int, it_int_str, it_int_tup, it_int_lst, it_int_rol, it_bool_non, it_bool_bl, it_bool_int, it_bool_str, it_bool_tup, it_bool_lst, it_bool_rol, it_str_non, it_str_bl, it_str_int, it_str_str, it_str_tup, it_str_lst, it_str_rol, it_tuple_non, it_tuple_bl, it_tuple_int, it_tuple_str, it_tuple_tup, it_tuple_lst, it_tuple_rol, it_list_non, it_list_bl, it_list_int, it_list_str, it_list_tup, it_list_lst, it_list_rol]
end MP

/-! SpR: the laws' own draws. -/
namespace MP
open PySem
def Bag (c : List D) : Prop := ∃ (xs : List Int) (k : Int), c = [.lst (xs.map .int), .int k] ∧ xs.length = 400 ∧ 0 ≤ k
def Bgs (L : Nat) (S : Store) : Prop := L ≤ S.length ∧ ∀ i, i < L → ∃ c, S[i]? = some c ∧ Bag c
theorem Bgs.app {L : Nat} {S : Store} (h : Bgs L S) (T : Store) : Bgs L (S ++ T) := ⟨by rw [List.length_append]; have := h.1; omega, fun i hi => by
  obtain ⟨c, h1, h2⟩ := h.2 i hi
  exact ⟨c, by rw [List.getElem?_append_left (List.getElem?_eq_some_iff.mp h1).1]; exact h1, h2⟩⟩
theorem Bgs.set {L : Nat} {S : Store} (h : Bgs L S) {i : Nat} (hi : L ≤ i) (c : List D) : Bgs L (S.set i c) := ⟨by rw [List.length_set]; exact h.1, fun j hj => by
  obtain ⟨d, h1, h2⟩ := h.2 j hj
  exact ⟨d, by rw [List.getElem?_set, if_neg (by omega)]; exact h1, h2⟩⟩
theorem sp_cell_at {n : Nat} (hn : 1 ≤ n) {ns : List Int} {k : Nat} {S : Store} : WC (ec gv pr n) F._law_cell_at [.rol (ns.map .int), .int (k : Nat)] S fun d S' => S' = S ∧ ∃ i, d = .int i := by
  rw [wc_def' hn pr__law_cell_at rfl]
  simp only [fd__law_cell_at, we_var, we_cn, we_cb, we_ci, we_cs, we_glob, we_tup, we_lst, we_newc, we_op, we_isN, we_notN, we_neg, we_nt, we_and, we_or, we_chain, we_ite, we_call, we_calll, we_b1, we_b2, we_isi, we_ix, we_sl, we_lc, we_lrng, we_olen, we_oix, we_inD, we_getD, we_calld, we_osl, we_rev, we_isB, we_cnew, we_clen, we_cpop, we_cnil, wl_nil, wl_cons, wr_it, wr_rng, wr_enum, wr_zip, ws_set, ws_own, ws_frz, ws_unp, ws_unp2, ws_par, ws_app, ws_oset, ws_cset, ws_ifs, ws_fors, ws_whil, ws_ret, ws_retn, ws_brk, ws_cnt, ws_pas, ws_expr, wb_nil, wb_cons, thn_nx, thn_rt, thn_bk, thn_ct, fin_nx, fin_rt, turn_nx, turn_ct, turn_bk, turn_rt, List.set_cons_zero, List.set_cons_succ, List.set_nil, List.getElem?_cons_zero, List.getElem?_cons_succ, Option.some.injEq, Sl.v.injEq, Sl.o.injEq, D.bl.injEq, D.int.injEq, D.str.injEq, D.tup.injEq, D.lst.injEq, D.cell.injEq, D.fn.injEq, exists_eq_left, exists_eq_left', exists_eq_right, List.length_cons, List.length_nil, Nat.reduceAdd, Nat.reduceSub, List.replicate_succ, List.replicate_zero, List.map_cons, List.map_nil, List.cons_append, List.nil_append, List.append_nil, true_and, and_true, false_and, and_false, forall_const, Bool.true_eq_false, Bool.false_eq_true, Bool.not_true, Bool.not_false, setMany, asg, Tg.slots, wipeE, optI, testOf, ne_eq, not_true_eq_false, not_false_eq_true, exists_const, reduceCtorEq, false_or, or_false, true_or, or_true, exists_false, Int.reduceLT, Int.reduceLE, Int.reduceNeg, Int.reduceAdd, Int.reduceSub, decide_true, decide_false, Bool.and_true, Bool.true_and, Bool.and_false, Bool.false_and, Bool.or_true, Bool.true_or, Bool.or_false, Bool.false_or, false_implies, true_implies, if_true, if_false, ite_true, ite_false, implies_true, envOf, op_add, op_addT, op_addL, op_sub, op_mul, op_fdiv, op_mod, op_lt, op_le, op_gt, op_ge, op_eqI, op_neI, op_eqS, op_neS, len_tup, len_lst, len_rol, abs_int, max2, min2, int_int, int_bl, nn_non, nn_int, nn_bl, nn_str, nn_tup, nn_lst, ix_tup, ix_lst, ix_rol, ix_cell, op_inS2, sl_tup, sl_lst, items_tup, items_lst, atI_0, atI_1, atI_2, cutD_1, cutD_from1, cutD_to, p10_6, p10_7, p10_8, p10_9, p10_10, p10_11, p10_12, sum_ints, all_bls, any_bls, eqb_ints, eqb_nilL, isin_ints, enum_lst, cmp_int, cmp_non, cmp_str, cmp_dInts, cmp_nilL, it_int_non, it_int_bl, it_int_int, it_int_str, it_int_tup, it_int_lst, it_int_rol, it_bool_non, it_bool_bl, it_bool_int, it_bool_str, it_bool_tup, it_bool_lst, it_bool_rol, it_str_non, it_str_bl, it_str_int, it_str_str, it_str_tup, it_str_lst, it_str_rol, it_tuple_non, it_tuple_bl, it_tuple_int, it_tuple_str, it_tuple_tup, it_tuple_lst, it_tuple_rol, it_list_non, it_list_bl, it_list_int, it_list_str, it_list_tup, it_list_lst, it_list_rol, List.length_map]
  refine ⟨fun h => ?_, fun h => ?_⟩
  · have h := of_decide_eq_true h
    rw [atI_nat (by simpa using h)]
    rw [List.getElem?_map, List.getElem?_eq_getElem (by simpa using h)]
    exact ⟨_, rfl, _, rfl⟩
  · exact ⟨_, rfl⟩
theorem sp_draws {n : Nat} (hn : 1 ≤ n) {i : Int} {S : Store} : WC (ec gv pr n) F._law_draws [.int i, .int 400, .int 1000] S fun d S' => S' = S ∧ ∃ xs : List Int, d = .lst (xs.map .int) ∧ xs.length = 400 := by
  rw [wc_def' hn pr__law_draws rfl]
  simp only [fd__law_draws, we_var, we_cn, we_cb, we_ci, we_cs, we_glob, we_tup, we_lst, we_newc, we_op, we_isN, we_notN, we_neg, we_nt, we_and, we_or, we_chain, we_ite, we_call, we_calll, we_b1, we_b2, we_isi, we_ix, we_sl, we_lc, we_lrng, we_olen, we_oix, we_inD, we_getD, we_calld, we_osl, we_rev, we_isB, we_cnew, we_clen, we_cpop, we_cnil, wl_nil, wl_cons, wr_it, wr_rng, wr_enum, wr_zip, ws_set, ws_own, ws_frz, ws_unp, ws_unp2, ws_par, ws_app, ws_oset, ws_cset, ws_ifs, ws_fors, ws_whil, ws_ret, ws_retn, ws_brk, ws_cnt, ws_pas, ws_expr, wb_nil, wb_cons, thn_nx, thn_rt, thn_bk, thn_ct, fin_nx, fin_rt, turn_nx, turn_ct, turn_bk, turn_rt, List.set_cons_zero, List.set_cons_succ, List.set_nil, List.getElem?_cons_zero, List.getElem?_cons_succ, Option.some.injEq, Sl.v.injEq, Sl.o.injEq, D.bl.injEq, D.int.injEq, D.str.injEq, D.tup.injEq, D.lst.injEq, D.cell.injEq, D.fn.injEq, exists_eq_left, exists_eq_left', exists_eq_right, List.length_cons, List.length_nil, Nat.reduceAdd, Nat.reduceSub, List.replicate_succ, List.replicate_zero, List.map_cons, List.map_nil, List.cons_append, List.nil_append, List.append_nil, true_and, and_true, false_and, and_false, forall_const, Bool.true_eq_false, Bool.false_eq_true, Bool.not_true, Bool.not_false, setMany, asg, Tg.slots, wipeE, optI, testOf, ne_eq, not_true_eq_false, not_false_eq_true, exists_const, reduceCtorEq, false_or, or_false, true_or, or_true, exists_false, Int.reduceLT, Int.reduceLE, Int.reduceNeg, Int.reduceAdd, Int.reduceSub, decide_true, decide_false, Bool.and_true, Bool.true_and, Bool.and_false, Bool.false_and, Bool.or_true, Bool.true_or, Bool.or_false, Bool.false_or, false_implies, true_implies, if_true, if_false, ite_true, ite_false, implies_true, envOf, op_add, op_addT, op_addL, op_sub, op_mul, op_fdiv, op_mod, op_lt, op_le, op_gt, op_ge, op_eqI, op_neI, op_eqS, op_neS, len_tup, len_lst, len_rol, abs_int, max2, min2, int_int, int_bl, nn_non, nn_int, nn_bl, nn_str, nn_tup, nn_lst, ix_tup, ix_lst, ix_rol, ix_cell, op_inS2, sl_tup, sl_lst, items_tup, items_lst, atI_0, atI_1, atI_2, cutD_1, cutD_from1, cutD_to, p10_6, p10_7, p10_8, p10_9, p10_10, p10_11, p10_12, sum_ints, all_bls, any_bls, eqb_ints, eqb_nilL, isin_ints, enum_lst, cmp_int, cmp_non, cmp_str, cmp_dInts, cmp_nilL, it_int_non, it_int_bl, it_int_int, it_int_str, it_int_tup, it_int_lst, it_int_rol, it_bool_non, it_bool_bl, it_bool_int, it_bool_str, it_bool_tup, it_bool_lst, it_bool_rol, it_str_non, it_str_bl, it_str_int, it_str_str, it_str_tup, it_str_lst, it_str_rol, it_tuple_non, it_tuple_bl, it_tuple_int, it_tuple_str, it_tuple_tup, it_tuple_lst, it_tuple_rol, it_list_non, it_list_bl, it_list_int, it_list_str, it_list_tup, it_list_lst, it_list_rol]
  have p0 : ∀ {a b : Int}, b = 10 → op2 .pow (.int b) (.int 18) = some (.int 1000000000000000000) := fun h => by subst h; rfl
  have m0 : ∀ {a b : Int}, -18446744073709551616 < b → b < 18446744073709551616 → mulOk a b = true := fun {a b} h1 h2 => by
    unfold mulOk; simp only [Bool.or_eq_true, Bool.and_eq_true, decide_eq_true_eq]; exact .inr ⟨h1, h2⟩
  rw [p0 (a := 0) rfl]
  simp only [we_var, we_cn, we_cb, we_ci, we_cs, we_glob, we_tup, we_lst, we_newc, we_op, we_isN, we_notN, we_neg, we_nt, we_and, we_or, we_chain, we_ite, we_call, we_calll, we_b1, we_b2, we_isi, we_ix, we_sl, we_lc, we_lrng, we_olen, we_oix, we_inD, we_getD, we_calld, we_osl, we_rev, we_isB, we_cnew, we_clen, we_cpop, we_cnil, wl_nil, wl_cons, wr_it, wr_rng, wr_enum, wr_zip, ws_set, ws_own, ws_frz, ws_unp, ws_unp2, ws_par, ws_app, ws_oset, ws_cset, ws_ifs, ws_fors, ws_whil, ws_ret, ws_retn, ws_brk, ws_cnt, ws_pas, ws_expr, wb_nil, wb_cons, thn_nx, thn_rt, thn_bk, thn_ct, fin_nx, fin_rt, turn_nx, turn_ct, turn_bk, turn_rt, List.set_cons_zero, List.set_cons_succ, List.set_nil, List.getElem?_cons_zero, List.getElem?_cons_succ, Option.some.injEq, Sl.v.injEq, Sl.o.injEq, D.bl.injEq, D.int.injEq, D.str.injEq, D.tup.injEq, D.lst.injEq, D.cell.injEq, D.fn.injEq, exists_eq_left, exists_eq_left', exists_eq_right, List.length_cons, List.length_nil, Nat.reduceAdd, Nat.reduceSub, List.replicate_succ, List.replicate_zero, List.map_cons, List.map_nil, List.cons_append, List.nil_append, List.append_nil, true_and, and_true, false_and, and_false, forall_const, Bool.true_eq_false, Bool.false_eq_true, Bool.not_true, Bool.not_false, setMany, asg, Tg.slots, wipeE, optI, testOf, ne_eq, not_true_eq_false, not_false_eq_true, exists_const, reduceCtorEq, false_or, or_false, true_or, or_true, exists_false, Int.reduceLT, Int.reduceLE, Int.reduceNeg, Int.reduceAdd, Int.reduceSub, decide_true, decide_false, Bool.and_true, Bool.true_and, Bool.and_false, Bool.false_and, Bool.or_true, Bool.true_or, Bool.or_false, Bool.false_or, false_implies, true_implies, if_true, if_false, ite_true, ite_false, implies_true, envOf, op_add, op_addT, op_addL, op_sub, op_mul, op_fdiv, op_mod, op_lt, op_le, op_gt, op_ge, op_eqI, op_neI, op_eqS, op_neS, len_tup, len_lst, len_rol, abs_int, max2, min2, int_int, int_bl, nn_non, nn_int, nn_bl, nn_str, nn_tup, nn_lst, ix_tup, ix_lst, ix_rol, ix_cell, op_inS2, sl_tup, sl_lst, items_tup, items_lst, atI_0, atI_1, atI_2, cutD_1, cutD_from1, cutD_to, p10_6, p10_7, p10_8, p10_9, p10_10, p10_11, p10_12, sum_ints, all_bls, any_bls, eqb_ints, eqb_nilL, isin_ints, enum_lst, cmp_int, cmp_non, cmp_str, cmp_dInts, cmp_nilL, it_int_non, it_int_bl, it_int_int, it_int_str, it_int_tup, it_int_lst, it_int_rol, it_bool_non, it_bool_bl, it_bool_int, it_bool_str, it_bool_tup, it_bool_lst, it_bool_rol, it_str_non, it_str_bl, it_str_int, it_str_str, it_str_tup, it_str_lst, it_str_rol, it_tuple_non, it_tuple_bl, it_tuple_int, it_tuple_str, it_tuple_tup, it_tuple_lst, it_tuple_rol, it_list_non, it_list_bl, it_list_int, it_list_str, it_list_tup, it_list_lst, it_list_rol]
  have m01 : ∀ {a : Int} {c : Bool}, mulOk a (if c = true then 1 else 0) = true := fun {a c} => by cases c <;> exact m0 (by decide) (by decide)
  rw [m01, if_pos (by decide)]
  simp only [we_var, we_cn, we_cb, we_ci, we_cs, we_glob, we_tup, we_lst, we_newc, we_op, we_isN, we_notN, we_neg, we_nt, we_and, we_or, we_chain, we_ite, we_call, we_calll, we_b1, we_b2, we_isi, we_ix, we_sl, we_lc, we_lrng, we_olen, we_oix, we_inD, we_getD, we_calld, we_osl, we_rev, we_isB, we_cnew, we_clen, we_cpop, we_cnil, wl_nil, wl_cons, wr_it, wr_rng, wr_enum, wr_zip, ws_set, ws_own, ws_frz, ws_unp, ws_unp2, ws_par, ws_app, ws_oset, ws_cset, ws_ifs, ws_fors, ws_whil, ws_ret, ws_retn, ws_brk, ws_cnt, ws_pas, ws_expr, wb_nil, wb_cons, thn_nx, thn_rt, thn_bk, thn_ct, fin_nx, fin_rt, turn_nx, turn_ct, turn_bk, turn_rt, List.set_cons_zero, List.set_cons_succ, List.set_nil, List.getElem?_cons_zero, List.getElem?_cons_succ, Option.some.injEq, Sl.v.injEq, Sl.o.injEq, D.bl.injEq, D.int.injEq, D.str.injEq, D.tup.injEq, D.lst.injEq, D.cell.injEq, D.fn.injEq, exists_eq_left, exists_eq_left', exists_eq_right, List.length_cons, List.length_nil, Nat.reduceAdd, Nat.reduceSub, List.replicate_succ, List.replicate_zero, List.map_cons, List.map_nil, List.cons_append, List.nil_append, List.append_nil, true_and, and_true, false_and, and_false, forall_const, Bool.true_eq_false, Bool.false_eq_true, Bool.not_true, Bool.not_false, setMany, asg, Tg.slots, wipeE, optI, testOf, ne_eq, not_true_eq_false, not_false_eq_true, exists_const, reduceCtorEq, false_or, or_false, true_or, or_true, exists_false, Int.reduceLT, Int.reduceLE, Int.reduceNeg, Int.reduceAdd, Int.reduceSub, decide_true, decide_false, Bool.and_true, Bool.true_and, Bool.and_false, Bool.false_and, Bool.or_true, Bool.true_or, Bool.or_false, Bool.false_or, false_implies, true_implies, if_true, if_false, ite_true, ite_false, implies_true, envOf, op_add, op_addT, op_addL, op_sub, op_mul, op_fdiv, op_mod, op_lt, op_le, op_gt, op_ge, op_eqI, op_neI, op_eqS, op_neS, len_tup, len_lst, len_rol, abs_int, max2, min2, int_int, int_bl, nn_non, nn_int, nn_bl, nn_str, nn_tup, nn_lst, ix_tup, ix_lst, ix_rol, ix_cell, op_inS2, sl_tup, sl_lst, items_tup, items_lst, atI_0, atI_1, atI_2, cutD_1, cutD_from1, cutD_to, p10_6, p10_7, p10_8, p10_9, p10_10, p10_11, p10_12, sum_ints, all_bls, any_bls, eqb_ints, eqb_nilL, isin_ints, enum_lst, cmp_int, cmp_non, cmp_str, cmp_dInts, cmp_nilL, it_int_non, it_int_bl, it_int_int, it_int_str, it_int_tup, it_int_lst, it_int_rol, it_bool_non, it_bool_bl, it_bool_int, it_bool_str, it_bool_tup, it_bool_lst, it_bool_rol, it_str_non, it_str_bl, it_str_int, it_str_str, it_str_tup, it_str_lst, it_str_rol, it_tuple_non, it_tuple_bl, it_tuple_int, it_tuple_str, it_tuple_tup, it_tuple_lst, it_tuple_rol, it_list_non, it_list_bl, it_list_int, it_list_str, it_list_tup, it_list_lst, it_list_rol]
  rw [range_1 (by decide) (by decide)]
  simp only [we_var, we_cn, we_cb, we_ci, we_cs, we_glob, we_tup, we_lst, we_newc, we_op, we_isN, we_notN, we_neg, we_nt, we_and, we_or, we_chain, we_ite, we_call, we_calll, we_b1, we_b2, we_isi, we_ix, we_sl, we_lc, we_lrng, we_olen, we_oix, we_inD, we_getD, we_calld, we_osl, we_rev, we_isB, we_cnew, we_clen, we_cpop, we_cnil, wl_nil, wl_cons, wr_it, wr_rng, wr_enum, wr_zip, ws_set, ws_own, ws_frz, ws_unp, ws_unp2, ws_par, ws_app, ws_oset, ws_cset, ws_ifs, ws_fors, ws_whil, ws_ret, ws_retn, ws_brk, ws_cnt, ws_pas, ws_expr, wb_nil, wb_cons, thn_nx, thn_rt, thn_bk, thn_ct, fin_nx, fin_rt, turn_nx, turn_ct, turn_bk, turn_rt, List.set_cons_zero, List.set_cons_succ, List.set_nil, List.getElem?_cons_zero, List.getElem?_cons_succ, Option.some.injEq, Sl.v.injEq, Sl.o.injEq, D.bl.injEq, D.int.injEq, D.str.injEq, D.tup.injEq, D.lst.injEq, D.cell.injEq, D.fn.injEq, exists_eq_left, exists_eq_left', exists_eq_right, List.length_cons, List.length_nil, Nat.reduceAdd, Nat.reduceSub, List.replicate_succ, List.replicate_zero, List.map_cons, List.map_nil, List.cons_append, List.nil_append, List.append_nil, true_and, and_true, false_and, and_false, forall_const, Bool.true_eq_false, Bool.false_eq_true, Bool.not_true, Bool.not_false, setMany, asg, Tg.slots, wipeE, optI, testOf, ne_eq, not_true_eq_false, not_false_eq_true, exists_const, reduceCtorEq, false_or, or_false, true_or, or_true, exists_false, Int.reduceLT, Int.reduceLE, Int.reduceNeg, Int.reduceAdd, Int.reduceSub, decide_true, decide_false, Bool.and_true, Bool.true_and, Bool.and_false, Bool.false_and, Bool.or_true, Bool.true_or, Bool.or_false, Bool.false_or, false_implies, true_implies, if_true, if_false, ite_true, ite_false, implies_true, envOf, op_add, op_addT, op_addL, op_sub, op_mul, op_fdiv, op_mod, op_lt, op_le, op_gt, op_ge, op_eqI, op_neI, op_eqS, op_neS, len_tup, len_lst, len_rol, abs_int, max2, min2, int_int, int_bl, nn_non, nn_int, nn_bl, nn_str, nn_tup, nn_lst, ix_tup, ix_lst, ix_rol, ix_cell, op_inS2, sl_tup, sl_lst, items_tup, items_lst, atI_0, atI_1, atI_2, cutD_1, cutD_from1, cutD_to, p10_6, p10_7, p10_8, p10_9, p10_10, p10_11, p10_12, sum_ints, all_bls, any_bls, eqb_ints, eqb_nilL, isin_ints, enum_lst, cmp_int, cmp_non, cmp_str, cmp_dInts, cmp_nilL, it_int_non, it_int_bl, it_int_int, it_int_str, it_int_tup, it_int_lst, it_int_rol, it_bool_non, it_bool_bl, it_bool_int, it_bool_str, it_bool_tup, it_bool_lst, it_bool_rol, it_str_non, it_str_bl, it_str_int, it_str_str, it_str_tup, it_str_lst, it_str_rol, it_tuple_non, it_tuple_bl, it_tuple_int, it_tuple_str, it_tuple_tup, it_tuple_lst, it_tuple_rol, it_list_non, it_list_bl, it_list_int, it_list_str, it_list_tup, it_list_lst, it_list_rol]
  refine wf_range _ _ (fun k δ S1 => S1 = S ∧ ∃ (xs : List Int) (r s : Int) (x6 : Sl), δ = [.v (.int i), .v (.int 400), .v (.int 1000), .o (xs.map .int), .v (.int r), .v (.int s), x6] ∧ xs.length = k - 3 ∧ 0 ≤ s ∧ s < 2305843009213693951) ⟨rfl, [], _, _, _, rfl, rfl, by omega, by omega⟩ ?_ ?_
  · rintro k hk δ S1 ⟨rfl, xs, r, s, x6, rfl, hl, h0, h1⟩
    refine ⟨_, rfl, ?_⟩
    simp only [we_var, we_cn, we_cb, we_ci, we_cs, we_glob, we_tup, we_lst, we_newc, we_op, we_isN, we_notN, we_neg, we_nt, we_and, we_or, we_chain, we_ite, we_call, we_calll, we_b1, we_b2, we_isi, we_ix, we_sl, we_lc, we_lrng, we_olen, we_oix, we_inD, we_getD, we_calld, we_osl, we_rev, we_isB, we_cnew, we_clen, we_cpop, we_cnil, wl_nil, wl_cons, wr_it, wr_rng, wr_enum, wr_zip, ws_set, ws_own, ws_frz, ws_unp, ws_unp2, ws_par, ws_app, ws_oset, ws_cset, ws_ifs, ws_fors, ws_whil, ws_ret, ws_retn, ws_brk, ws_cnt, ws_pas, ws_expr, wb_nil, wb_cons, thn_nx, thn_rt, thn_bk, thn_ct, fin_nx, fin_rt, turn_nx, turn_ct, turn_bk, turn_rt, List.set_cons_zero, List.set_cons_succ, List.set_nil, List.getElem?_cons_zero, List.getElem?_cons_succ, Option.some.injEq, Sl.v.injEq, Sl.o.injEq, D.bl.injEq, D.int.injEq, D.str.injEq, D.tup.injEq, D.lst.injEq, D.cell.injEq, D.fn.injEq, exists_eq_left, exists_eq_left', exists_eq_right, List.length_cons, List.length_nil, Nat.reduceAdd, Nat.reduceSub, List.replicate_succ, List.replicate_zero, List.map_cons, List.map_nil, List.cons_append, List.nil_append, List.append_nil, true_and, and_true, false_and, and_false, forall_const, Bool.true_eq_false, Bool.false_eq_true, Bool.not_true, Bool.not_false, setMany, asg, Tg.slots, wipeE, optI, testOf, ne_eq, not_true_eq_false, not_false_eq_true, exists_const, reduceCtorEq, false_or, or_false, true_or, or_true, exists_false, Int.reduceLT, Int.reduceLE, Int.reduceNeg, Int.reduceAdd, Int.reduceSub, decide_true, decide_false, Bool.and_true, Bool.true_and, Bool.and_false, Bool.false_and, Bool.or_true, Bool.true_or, Bool.or_false, Bool.false_or, false_implies, true_implies, if_true, if_false, ite_true, ite_false, implies_true, envOf, op_add, op_addT, op_addL, op_sub, op_mul, op_fdiv, op_mod, op_lt, op_le, op_gt, op_ge, op_eqI, op_neI, op_eqS, op_neS, len_tup, len_lst, len_rol, abs_int, max2, min2, int_int, int_bl, nn_non, nn_int, nn_bl, nn_str, nn_tup, nn_lst, ix_tup, ix_lst, ix_rol, ix_cell, op_inS2, sl_tup, sl_lst, items_tup, items_lst, atI_0, atI_1, atI_2, cutD_1, cutD_from1, cutD_to, p10_6, p10_7, p10_8, p10_9, p10_10, p10_11, p10_12, sum_ints, all_bls, any_bls, eqb_ints, eqb_nilL, isin_ints, enum_lst, cmp_int, cmp_non, cmp_str, cmp_dInts, cmp_nilL, it_int_non, it_int_bl, it_int_int, it_int_str, it_int_tup, it_int_lst, it_int_rol, it_bool_non, it_bool_bl, it_bool_int, it_bool_str, it_bool_tup, it_bool_lst, it_bool_rol, it_str_non, it_str_bl, it_str_int, it_str_str, it_str_tup, it_str_lst, it_str_rol, it_tuple_non, it_tuple_bl, it_tuple_int, it_tuple_str, it_tuple_tup, it_tuple_lst, it_tuple_rol, it_list_non, it_list_bl, it_list_int, it_list_str, it_list_tup, it_list_lst, it_list_rol]
    rw [m0 (a := s) (by omega) (by omega), m0 (a := 48271) (by omega) (by omega)]
    have hm : ∀ z : Int, 0 ≤ z % 2305843009213693951 ∧ z % 2305843009213693951 < 2305843009213693951 := fun z => by omega
    by_cases h2 : k > 2
    · rw [decide_eq_true (by omega : (2 : Int) < (k : Nat))]
      simp only [we_var, we_cn, we_cb, we_ci, we_cs, we_glob, we_tup, we_lst, we_newc, we_op, we_isN, we_notN, we_neg, we_nt, we_and, we_or, we_chain, we_ite, we_call, we_calll, we_b1, we_b2, we_isi, we_ix, we_sl, we_lc, we_lrng, we_olen, we_oix, we_inD, we_getD, we_calld, we_osl, we_rev, we_isB, we_cnew, we_clen, we_cpop, we_cnil, wl_nil, wl_cons, wr_it, wr_rng, wr_enum, wr_zip, ws_set, ws_own, ws_frz, ws_unp, ws_unp2, ws_par, ws_app, ws_oset, ws_cset, ws_ifs, ws_fors, ws_whil, ws_ret, ws_retn, ws_brk, ws_cnt, ws_pas, ws_expr, wb_nil, wb_cons, thn_nx, thn_rt, thn_bk, thn_ct, fin_nx, fin_rt, turn_nx, turn_ct, turn_bk, turn_rt, List.set_cons_zero, List.set_cons_succ, List.set_nil, List.getElem?_cons_zero, List.getElem?_cons_succ, Option.some.injEq, Sl.v.injEq, Sl.o.injEq, D.bl.injEq, D.int.injEq, D.str.injEq, D.tup.injEq, D.lst.injEq, D.cell.injEq, D.fn.injEq, exists_eq_left, exists_eq_left', exists_eq_right, List.length_cons, List.length_nil, Nat.reduceAdd, Nat.reduceSub, List.replicate_succ, List.replicate_zero, List.map_cons, List.map_nil, List.cons_append, List.nil_append, List.append_nil, true_and, and_true, false_and, and_false, forall_const, Bool.true_eq_false, Bool.false_eq_true, Bool.not_true, Bool.not_false, setMany, asg, Tg.slots, wipeE, optI, testOf, ne_eq, not_true_eq_false, not_false_eq_true, exists_const, reduceCtorEq, false_or, or_false, true_or, or_true, exists_false, Int.reduceLT, Int.reduceLE, Int.reduceNeg, Int.reduceAdd, Int.reduceSub, decide_true, decide_false, Bool.and_true, Bool.true_and, Bool.and_false, Bool.false_and, Bool.or_true, Bool.true_or, Bool.or_false, Bool.false_or, false_implies, true_implies, if_true, if_false, ite_true, ite_false, implies_true, envOf, op_add, op_addT, op_addL, op_sub, op_mul, op_fdiv, op_mod, op_lt, op_le, op_gt, op_ge, op_eqI, op_neI, op_eqS, op_neS, len_tup, len_lst, len_rol, abs_int, max2, min2, int_int, int_bl, nn_non, nn_int, nn_bl, nn_str, nn_tup, nn_lst, ix_tup, ix_lst, ix_rol, ix_cell, op_inS2, sl_tup, sl_lst, items_tup, items_lst, atI_0, atI_1, atI_2, cutD_1, cutD_from1, cutD_to, p10_6, p10_7, p10_8, p10_9, p10_10, p10_11, p10_12, sum_ints, all_bls, any_bls, eqb_ints, eqb_nilL, isin_ints, enum_lst, cmp_int, cmp_non, cmp_str, cmp_dInts, cmp_nilL, it_int_non, it_int_bl, it_int_int, it_int_str, it_int_tup, it_int_lst, it_int_rol, it_bool_non, it_bool_bl, it_bool_int, it_bool_str, it_bool_tup, it_bool_lst, it_bool_rol, it_str_non, it_str_bl, it_str_int, it_str_str, it_str_tup, it_str_lst, it_str_rol, it_tuple_non, it_tuple_bl, it_tuple_int, it_tuple_str, it_tuple_tup, it_tuple_lst, it_tuple_rol, it_list_non, it_list_bl, it_list_int, it_list_str, it_list_tup, it_list_lst, it_list_rol]
      have hl2 : (xs.map D.int).length < lim := by rw [List.length_map]; show _ < 1000000; omega
      refine ⟨fun h => ?_, fun h => ?_⟩
      · exact ⟨hl2, xs ++ [r % 1000], r / 1000, _, _, by rw [List.map_append]; rfl, by rw [List.length_append, List.length_singleton]; omega, (hm _).1, (hm _).2⟩
      · refine ⟨hl2, xs ++ [_], r, _, _, by rw [List.map_append]; rfl, by rw [List.length_append, List.length_singleton]; omega, (hm _).1, (hm _).2⟩
    · rw [decide_eq_false (by omega : ¬ (2 : Int) < (k : Nat))]
      simp only [we_var, we_cn, we_cb, we_ci, we_cs, we_glob, we_tup, we_lst, we_newc, we_op, we_isN, we_notN, we_neg, we_nt, we_and, we_or, we_chain, we_ite, we_call, we_calll, we_b1, we_b2, we_isi, we_ix, we_sl, we_lc, we_lrng, we_olen, we_oix, we_inD, we_getD, we_calld, we_osl, we_rev, we_isB, we_cnew, we_clen, we_cpop, we_cnil, wl_nil, wl_cons, wr_it, wr_rng, wr_enum, wr_zip, ws_set, ws_own, ws_frz, ws_unp, ws_unp2, ws_par, ws_app, ws_oset, ws_cset, ws_ifs, ws_fors, ws_whil, ws_ret, ws_retn, ws_brk, ws_cnt, ws_pas, ws_expr, wb_nil, wb_cons, thn_nx, thn_rt, thn_bk, thn_ct, fin_nx, fin_rt, turn_nx, turn_ct, turn_bk, turn_rt, List.set_cons_zero, List.set_cons_succ, List.set_nil, List.getElem?_cons_zero, List.getElem?_cons_succ, Option.some.injEq, Sl.v.injEq, Sl.o.injEq, D.bl.injEq, D.int.injEq, D.str.injEq, D.tup.injEq, D.lst.injEq, D.cell.injEq, D.fn.injEq, exists_eq_left, exists_eq_left', exists_eq_right, List.length_cons, List.length_nil, Nat.reduceAdd, Nat.reduceSub, List.replicate_succ, List.replicate_zero, List.map_cons, List.map_nil, List.cons_append, List.nil_append, List.append_nil, true_and, and_true, false_and, and_false, forall_const, Bool.true_eq_false, Bool.false_eq_true, Bool.not_true, Bool.not_false, setMany, asg, Tg.slots, wipeE, optI, testOf, ne_eq, not_true_eq_false, not_false_eq_true, exists_const, reduceCtorEq, false_or, or_false, true_or, or_true, exists_false, Int.reduceLT, Int.reduceLE, Int.reduceNeg, Int.reduceAdd, Int.reduceSub, decide_true, decide_false, Bool.and_true, Bool.true_and, Bool.and_false, Bool.false_and, Bool.or_true, Bool.true_or, Bool.or_false, Bool.false_or, false_implies, true_implies, if_true, if_false, ite_true, ite_false, implies_true, envOf, op_add, op_addT, op_addL, op_sub, op_mul, op_fdiv, op_mod, op_lt, op_le, op_gt, op_ge, op_eqI, op_neI, op_eqS, op_neS, len_tup, len_lst, len_rol, abs_int, max2, min2, int_int, int_bl, nn_non, nn_int, nn_bl, nn_str, nn_tup, nn_lst, ix_tup, ix_lst, ix_rol, ix_cell, op_inS2, sl_tup, sl_lst, items_tup, items_lst, atI_0, atI_1, atI_2, cutD_1, cutD_from1, cutD_to, p10_6, p10_7, p10_8, p10_9, p10_10, p10_11, p10_12, sum_ints, all_bls, any_bls, eqb_ints, eqb_nilL, isin_ints, enum_lst, cmp_int, cmp_non, cmp_str, cmp_dInts, cmp_nilL, it_int_non, it_int_bl, it_int_int, it_int_str, it_int_tup, it_int_lst, it_int_rol, it_bool_non, it_bool_bl, it_bool_int, it_bool_str, it_bool_tup, it_bool_lst, it_bool_rol, it_str_non, it_str_bl, it_str_int, it_str_str, it_str_tup, it_str_lst, it_str_rol, it_tuple_non, it_tuple_bl, it_tuple_int, it_tuple_str, it_tuple_tup, it_tuple_lst, it_tuple_rol, it_list_non, it_list_bl, it_list_int, it_list_str, it_list_tup, it_list_lst, it_list_rol]
      exact ⟨xs, _, _, _, rfl, by omega, (hm _).1, (hm _).2⟩
  · rintro δ S1 ⟨rfl, xs, r, s, x6, rfl, hl, h0, h1⟩
    simp only [we_var, we_cn, we_cb, we_ci, we_cs, we_glob, we_tup, we_lst, we_newc, we_op, we_isN, we_notN, we_neg, we_nt, we_and, we_or, we_chain, we_ite, we_call, we_calll, we_b1, we_b2, we_isi, we_ix, we_sl, we_lc, we_lrng, we_olen, we_oix, we_inD, we_getD, we_calld, we_osl, we_rev, we_isB, we_cnew, we_clen, we_cpop, we_cnil, wl_nil, wl_cons, wr_it, wr_rng, wr_enum, wr_zip, ws_set, ws_own, ws_frz, ws_unp, ws_unp2, ws_par, ws_app, ws_oset, ws_cset, ws_ifs, ws_fors, ws_whil, ws_ret, ws_retn, ws_brk, ws_cnt, ws_pas, ws_expr, wb_nil, wb_cons, thn_nx, thn_rt, thn_bk, thn_ct, fin_nx, fin_rt, turn_nx, turn_ct, turn_bk, turn_rt, List.set_cons_zero, List.set_cons_succ, List.set_nil, List.getElem?_cons_zero, List.getElem?_cons_succ, Option.some.injEq, Sl.v.injEq, Sl.o.injEq, D.bl.injEq, D.int.injEq, D.str.injEq, D.tup.injEq, D.lst.injEq, D.cell.injEq, D.fn.injEq, exists_eq_left, exists_eq_left', exists_eq_right, List.length_cons, List.length_nil, Nat.reduceAdd, Nat.reduceSub, List.replicate_succ, List.replicate_zero, List.map_cons, List.map_nil, List.cons_append, List.nil_append, List.append_nil, true_and, and_true, false_and, and_false, forall_const, Bool.true_eq_false, Bool.false_eq_true, Bool.not_true, Bool.not_false, setMany, asg, Tg.slots, wipeE, optI, testOf, ne_eq, not_true_eq_false, not_false_eq_true, exists_const, reduceCtorEq, false_or, or_false, true_or, or_true, exists_false, Int.reduceLT, Int.reduceLE, Int.reduceNeg, Int.reduceAdd, Int.reduceSub, decide_true, decide_false, Bool.and_true, Bool.true_and, Bool.and_false, Bool.false_and, Bool.or_true, Bool.true_or, Bool.or_false, Bool.false_or, false_implies, true_implies, if_true, if_false, ite_true, ite_false, implies_true, envOf, op_add, op_addT, op_addL, op_sub, op_mul, op_fdiv, op_mod, op_lt, op_le, op_gt, op_ge, op_eqI, op_neI, op_eqS, op_neS, len_tup, len_lst, len_rol, abs_int, max2, min2, int_int, int_bl, nn_non, nn_int, nn_bl, nn_str, nn_tup, nn_lst, ix_tup, ix_lst, ix_rol, ix_cell, op_inS2, sl_tup, sl_lst, items_tup, items_lst, atI_0, atI_1, atI_2, cutD_1, cutD_from1, cutD_to, p10_6, p10_7, p10_8, p10_9, p10_10, p10_11, p10_12, sum_ints, all_bls, any_bls, eqb_ints, eqb_nilL, isin_ints, enum_lst, cmp_int, cmp_non, cmp_str, cmp_dInts, cmp_nilL, it_int_non, it_int_bl, it_int_int, it_int_str, it_int_tup, it_int_lst, it_int_rol, it_bool_non, it_bool_bl, it_bool_int, it_bool_str, it_bool_tup, it_bool_lst, it_bool_rol, it_str_non, it_str_bl, it_str_int, it_str_str, it_str_tup, it_str_lst, it_str_rol, it_tuple_non, it_tuple_bl, it_tuple_int, it_tuple_str, it_tuple_tup, it_tuple_lst, it_tuple_rol, it_list_non, it_list_bl, it_list_int, it_list_str, it_list_tup, it_list_lst, it_list_rol]
    exact ⟨xs, rfl, hl⟩
theorem sp_bag {n : Nat} (hn : 2 ≤ n) {ns : List Int} {k : Nat} {S : Store} : WC (ec gv pr n) F._law_bag [.rol (ns.map .int), .int (k : Nat)] S fun d S' => d = .cell S.length ∧ ∃ c, Bag c ∧ S' = S ++ [c] := by
  rw [wc_def' (by omega) pr__law_bag rfl]
  simp only [fd__law_bag, we_var, we_cn, we_cb, we_ci, we_cs, we_glob, we_tup, we_lst, we_newc, we_op, we_isN, we_notN, we_neg, we_nt, we_and, we_or, we_chain, we_ite, we_call, we_calll, we_b1, we_b2, we_isi, we_ix, we_sl, we_lc, we_lrng, we_olen, we_oix, we_inD, we_getD, we_calld, we_osl, we_rev, we_isB, we_cnew, we_clen, we_cpop, we_cnil, wl_nil, wl_cons, wr_it, wr_rng, wr_enum, wr_zip, ws_set, ws_own, ws_frz, ws_unp, ws_unp2, ws_par, ws_app, ws_oset, ws_cset, ws_ifs, ws_fors, ws_whil, ws_ret, ws_retn, ws_brk, ws_cnt, ws_pas, ws_expr, wb_nil, wb_cons, thn_nx, thn_rt, thn_bk, thn_ct, fin_nx, fin_rt, turn_nx, turn_ct, turn_bk, turn_rt, List.set_cons_zero, List.set_cons_succ, List.set_nil, List.getElem?_cons_zero, List.getElem?_cons_succ, Option.some.injEq, Sl.v.injEq, Sl.o.injEq, D.bl.injEq, D.int.injEq, D.str.injEq, D.tup.injEq, D.lst.injEq, D.cell.injEq, D.fn.injEq, exists_eq_left, exists_eq_left', exists_eq_right, List.length_cons, List.length_nil, Nat.reduceAdd, Nat.reduceSub, List.replicate_succ, List.replicate_zero, List.map_cons, List.map_nil, List.cons_append, List.nil_append, List.append_nil, true_and, and_true, false_and, and_false, forall_const, Bool.true_eq_false, Bool.false_eq_true, Bool.not_true, Bool.not_false, setMany, asg, Tg.slots, wipeE, optI, testOf, ne_eq, not_true_eq_false, not_false_eq_true, exists_const, reduceCtorEq, false_or, or_false, true_or, or_true, exists_false, Int.reduceLT, Int.reduceLE, Int.reduceNeg, Int.reduceAdd, Int.reduceSub, decide_true, decide_false, Bool.and_true, Bool.true_and, Bool.and_false, Bool.false_and, Bool.or_true, Bool.true_or, Bool.or_false, Bool.false_or, false_implies, true_implies, if_true, if_false, ite_true, ite_false, implies_true, envOf, op_add, op_addT, op_addL, op_sub, op_mul, op_fdiv, op_mod, op_lt, op_le, op_gt, op_ge, op_eqI, op_neI, op_eqS, op_neS, len_tup, len_lst, len_rol, abs_int, max2, min2, int_int, int_bl, nn_non, nn_int, nn_bl, nn_str, nn_tup, nn_lst, ix_tup, ix_lst, ix_rol, ix_cell, op_inS2, sl_tup, sl_lst, items_tup, items_lst, atI_0, atI_1, atI_2, cutD_1, cutD_from1, cutD_to, p10_6, p10_7, p10_8, p10_9, p10_10, p10_11, p10_12, sum_ints, all_bls, any_bls, eqb_ints, eqb_nilL, isin_ints, enum_lst, cmp_int, cmp_non, cmp_str, cmp_dInts, cmp_nilL, it_int_non, it_int_bl, it_int_int, it_int_str, it_int_tup, it_int_lst, it_int_rol, it_bool_non, it_bool_bl, it_bool_int, it_bool_str, it_bool_tup, it_bool_lst, it_bool_rol, it_str_non, it_str_bl, it_str_int, it_str_str, it_str_tup, it_str_lst, it_str_rol, it_tuple_non, it_tuple_bl, it_tuple_int, it_tuple_str, it_tuple_tup, it_tuple_lst, it_tuple_rol, it_list_non, it_list_bl, it_list_int, it_list_str, it_list_tup, it_list_lst, it_list_rol]
  refine (sp_cell_at (by omega)).mono ?_
  rintro d S1 ⟨rfl, i, rfl⟩
  refine (sp_draws (by omega)).mono ?_
  rintro d S2 ⟨rfl, xs, rfl, hl⟩
  simp only [we_var, we_cn, we_cb, we_ci, we_cs, we_glob, we_tup, we_lst, we_newc, we_op, we_isN, we_notN, we_neg, we_nt, we_and, we_or, we_chain, we_ite, we_call, we_calll, we_b1, we_b2, we_isi, we_ix, we_sl, we_lc, we_lrng, we_olen, we_oix, we_inD, we_getD, we_calld, we_osl, we_rev, we_isB, we_cnew, we_clen, we_cpop, we_cnil, wl_nil, wl_cons, wr_it, wr_rng, wr_enum, wr_zip, ws_set, ws_own, ws_frz, ws_unp, ws_unp2, ws_par, ws_app, ws_oset, ws_cset, ws_ifs, ws_fors, ws_whil, ws_ret, ws_retn, ws_brk, ws_cnt, ws_pas, ws_expr, wb_nil, wb_cons, thn_nx, thn_rt, thn_bk, thn_ct, fin_nx, fin_rt, turn_nx, turn_ct, turn_bk, turn_rt, List.set_cons_zero, List.set_cons_succ, List.set_nil, List.getElem?_cons_zero, List.getElem?_cons_succ, Option.some.injEq, Sl.v.injEq, Sl.o.injEq, D.bl.injEq, D.int.injEq, D.str.injEq, D.tup.injEq, D.lst.injEq, D.cell.injEq, D.fn.injEq, exists_eq_left, exists_eq_left', exists_eq_right, List.length_cons, List.length_nil, Nat.reduceAdd, Nat.reduceSub, List.replicate_succ, List.replicate_zero, List.map_cons, List.map_nil, List.cons_append, List.nil_append, List.append_nil, true_and, and_true, false_and, and_false, forall_const, Bool.true_eq_false, Bool.false_eq_true, Bool.not_true, Bool.not_false, setMany, asg, Tg.slots, wipeE, optI, testOf, ne_eq, not_true_eq_false, not_false_eq_true, exists_const, reduceCtorEq, false_or, or_false, true_or, or_true, exists_false, Int.reduceLT, Int.reduceLE, Int.reduceNeg, Int.reduceAdd, Int.reduceSub, decide_true, decide_false, Bool.and_true, Bool.true_and, Bool.and_false, Bool.false_and, Bool.or_true, Bool.true_or, Bool.or_false, Bool.false_or, false_implies, true_implies, if_true, if_false, ite_true, ite_false, implies_true, envOf, op_add, op_addT, op_addL, op_sub, op_mul, op_fdiv, op_mod, op_lt, op_le, op_gt, op_ge, op_eqI, op_neI, op_eqS, op_neS, len_tup, len_lst, len_rol, abs_int, max2, min2, int_int, int_bl, nn_non, nn_int, nn_bl, nn_str, nn_tup, nn_lst, ix_tup, ix_lst, ix_rol, ix_cell, op_inS2, sl_tup, sl_lst, items_tup, items_lst, atI_0, atI_1, atI_2, cutD_1, cutD_from1, cutD_to, p10_6, p10_7, p10_8, p10_9, p10_10, p10_11, p10_12, sum_ints, all_bls, any_bls, eqb_ints, eqb_nilL, isin_ints, enum_lst, cmp_int, cmp_non, cmp_str, cmp_dInts, cmp_nilL, it_int_non, it_int_bl, it_int_int, it_int_str, it_int_tup, it_int_lst, it_int_rol, it_bool_non, it_bool_bl, it_bool_int, it_bool_str, it_bool_tup, it_bool_lst, it_bool_rol, it_str_non, it_str_bl, it_str_int, it_str_str, it_str_tup, it_str_lst, it_str_rol, it_tuple_non, it_tuple_bl, it_tuple_int, it_tuple_str, it_tuple_tup, it_tuple_lst, it_tuple_rol, it_list_non, it_list_bl, it_list_int, it_list_str, it_list_tup, it_list_lst, it_list_rol]
  exact ⟨_, ⟨xs, 0, rfl, hl, by omega⟩, rfl⟩
theorem sp_bags {n : Nat} (hn : 3 ≤ n) {ns : List Int} {lm : Int} (h1 : 1 ≤ lm) (h2 : lm ≤ 1000) : WC (ec gv pr n) F._law_bags [.rol (ns.map .int), .int lm] [] fun d S' => ∃ m, 1 ≤ m ∧ d = .lst ((List.range m).map .cell) ∧ Bgs m S' := by
  rw [wc_def' (by omega) pr__law_bags rfl]
  simp only [fd__law_bags, we_var, we_cn, we_cb, we_ci, we_cs, we_glob, we_tup, we_lst, we_newc, we_op, we_isN, we_notN, we_neg, we_nt, we_and, we_or, we_chain, we_ite, we_call, we_calll, we_b1, we_b2, we_isi, we_ix, we_sl, we_lc, we_lrng, we_olen, we_oix, we_inD, we_getD, we_calld, we_osl, we_rev, we_isB, we_cnew, we_clen, we_cpop, we_cnil, wl_nil, wl_cons, wr_it, wr_rng, wr_enum, wr_zip, ws_set, ws_own, ws_frz, ws_unp, ws_unp2, ws_par, ws_app, ws_oset, ws_cset, ws_ifs, ws_fors, ws_whil, ws_ret, ws_retn, ws_brk, ws_cnt, ws_pas, ws_expr, wb_nil, wb_cons, thn_nx, thn_rt, thn_bk, thn_ct, fin_nx, fin_rt, turn_nx, turn_ct, turn_bk, turn_rt, List.set_cons_zero, List.set_cons_succ, List.set_nil, List.getElem?_cons_zero, List.getElem?_cons_succ, Option.some.injEq, Sl.v.injEq, Sl.o.injEq, D.bl.injEq, D.int.injEq, D.str.injEq, D.tup.injEq, D.lst.injEq, D.cell.injEq, D.fn.injEq, exists_eq_left, exists_eq_left', exists_eq_right, List.length_cons, List.length_nil, Nat.reduceAdd, Nat.reduceSub, List.replicate_succ, List.replicate_zero, List.map_cons, List.map_nil, List.cons_append, List.nil_append, List.append_nil, true_and, and_true, false_and, and_false, forall_const, Bool.true_eq_false, Bool.false_eq_true, Bool.not_true, Bool.not_false, setMany, asg, Tg.slots, wipeE, optI, testOf, ne_eq, not_true_eq_false, not_false_eq_true, exists_const, reduceCtorEq, false_or, or_false, true_or, or_true, exists_false, Int.reduceLT, Int.reduceLE, Int.reduceNeg, Int.reduceAdd, Int.reduceSub, decide_true, decide_false, Bool.and_true, Bool.true_and, Bool.and_false, Bool.false_and, Bool.or_true, Bool.true_or, Bool.or_false, Bool.false_or, false_implies, true_implies, if_true, if_false, ite_true, ite_false, implies_true, envOf, op_add, op_addT, op_addL, op_sub, op_mul, op_fdiv, op_mod, op_lt, op_le, op_gt, op_ge, op_eqI, op_neI, op_eqS, op_neS, len_tup, len_lst, len_rol, abs_int, max2, min2, int_int, int_bl, nn_non, nn_int, nn_bl, nn_str, nn_tup, nn_lst, ix_tup, ix_lst, ix_rol, ix_cell, op_inS2, sl_tup, sl_lst, items_tup, items_lst, atI_0, atI_1, atI_2, cutD_1, cutD_from1, cutD_to, p10_6, p10_7, p10_8, p10_9, p10_10, p10_11, p10_12, sum_ints, all_bls, any_bls, eqb_ints, eqb_nilL, isin_ints, enum_lst, cmp_int, cmp_non, cmp_str, cmp_dInts, cmp_nilL, it_int_non, it_int_bl, it_int_int, it_int_str, it_int_tup, it_int_lst, it_int_rol, it_bool_non, it_bool_bl, it_bool_int, it_bool_str, it_bool_tup, it_bool_lst, it_bool_rol, it_str_non, it_str_bl, it_str_int, it_str_str, it_str_tup, it_str_lst, it_str_rol, it_tuple_non, it_tuple_bl, it_tuple_int, it_tuple_str, it_tuple_tup, it_tuple_lst, it_tuple_rol, it_list_non, it_list_bl, it_list_int, it_list_str, it_list_tup, it_list_lst, it_list_rol]
  rw [range_1 (by omega) (by omega)]
  simp only [we_var, we_cn, we_cb, we_ci, we_cs, we_glob, we_tup, we_lst, we_newc, we_op, we_isN, we_notN, we_neg, we_nt, we_and, we_or, we_chain, we_ite, we_call, we_calll, we_b1, we_b2, we_isi, we_ix, we_sl, we_lc, we_lrng, we_olen, we_oix, we_inD, we_getD, we_calld, we_osl, we_rev, we_isB, we_cnew, we_clen, we_cpop, we_cnil, wl_nil, wl_cons, wr_it, wr_rng, wr_enum, wr_zip, ws_set, ws_own, ws_frz, ws_unp, ws_unp2, ws_par, ws_app, ws_oset, ws_cset, ws_ifs, ws_fors, ws_whil, ws_ret, ws_retn, ws_brk, ws_cnt, ws_pas, ws_expr, wb_nil, wb_cons, thn_nx, thn_rt, thn_bk, thn_ct, fin_nx, fin_rt, turn_nx, turn_ct, turn_bk, turn_rt, List.set_cons_zero, List.set_cons_succ, List.set_nil, List.getElem?_cons_zero, List.getElem?_cons_succ, Option.some.injEq, Sl.v.injEq, Sl.o.injEq, D.bl.injEq, D.int.injEq, D.str.injEq, D.tup.injEq, D.lst.injEq, D.cell.injEq, D.fn.injEq, exists_eq_left, exists_eq_left', exists_eq_right, List.length_cons, List.length_nil, Nat.reduceAdd, Nat.reduceSub, List.replicate_succ, List.replicate_zero, List.map_cons, List.map_nil, List.cons_append, List.nil_append, List.append_nil, true_and, and_true, false_and, and_false, forall_const, Bool.true_eq_false, Bool.false_eq_true, Bool.not_true, Bool.not_false, setMany, asg, Tg.slots, wipeE, optI, testOf, ne_eq, not_true_eq_false, not_false_eq_true, exists_const, reduceCtorEq, false_or, or_false, true_or, or_true, exists_false, Int.reduceLT, Int.reduceLE, Int.reduceNeg, Int.reduceAdd, Int.reduceSub, decide_true, decide_false, Bool.and_true, Bool.true_and, Bool.and_false, Bool.false_and, Bool.or_true, Bool.true_or, Bool.or_false, Bool.false_or, false_implies, true_implies, if_true, if_false, ite_true, ite_false, implies_true, envOf, op_add, op_addT, op_addL, op_sub, op_mul, op_fdiv, op_mod, op_lt, op_le, op_gt, op_ge, op_eqI, op_neI, op_eqS, op_neS, len_tup, len_lst, len_rol, abs_int, max2, min2, int_int, int_bl, nn_non, nn_int, nn_bl, nn_str, nn_tup, nn_lst, ix_tup, ix_lst, ix_rol, ix_cell, op_inS2, sl_tup, sl_lst, items_tup, items_lst, atI_0, atI_1, atI_2, cutD_1, cutD_from1, cutD_to, p10_6, p10_7, p10_8, p10_9, p10_10, p10_11, p10_12, sum_ints, all_bls, any_bls, eqb_ints, eqb_nilL, isin_ints, enum_lst, cmp_int, cmp_non, cmp_str, cmp_dInts, cmp_nilL, it_int_non, it_int_bl, it_int_int, it_int_str, it_int_tup, it_int_lst, it_int_rol, it_bool_non, it_bool_bl, it_bool_int, it_bool_str, it_bool_tup, it_bool_lst, it_bool_rol, it_str_non, it_str_bl, it_str_int, it_str_str, it_str_tup, it_str_lst, it_str_rol, it_tuple_non, it_tuple_bl, it_tuple_int, it_tuple_str, it_tuple_tup, it_tuple_lst, it_tuple_rol, it_list_non, it_list_bl, it_list_int, it_list_str, it_list_tup, it_list_lst, it_list_rol]
  refine wg_inv (pre := []) (fun S pre => (S.length = pre.length ∧ Bgs pre.length S) ∧ pre = (List.range pre.length).map .cell) ⟨⟨rfl, Nat.le_refl _, fun i h => by simp at h⟩, rfl⟩ ?_ ?_
  · intro d hd S pre ⟨⟨hl, hB⟩, hp⟩
    obtain ⟨k, _, rfl⟩ := List.mem_map.mp hd
    refine ⟨_, rfl, ?_⟩
    simp only [we_var, we_cn, we_cb, we_ci, we_cs, we_glob, we_tup, we_lst, we_newc, we_op, we_isN, we_notN, we_neg, we_nt, we_and, we_or, we_chain, we_ite, we_call, we_calll, we_b1, we_b2, we_isi, we_ix, we_sl, we_lc, we_lrng, we_olen, we_oix, we_inD, we_getD, we_calld, we_osl, we_rev, we_isB, we_cnew, we_clen, we_cpop, we_cnil, wl_nil, wl_cons, wr_it, wr_rng, wr_enum, wr_zip, ws_set, ws_own, ws_frz, ws_unp, ws_unp2, ws_par, ws_app, ws_oset, ws_cset, ws_ifs, ws_fors, ws_whil, ws_ret, ws_retn, ws_brk, ws_cnt, ws_pas, ws_expr, wb_nil, wb_cons, thn_nx, thn_rt, thn_bk, thn_ct, fin_nx, fin_rt, turn_nx, turn_ct, turn_bk, turn_rt, List.set_cons_zero, List.set_cons_succ, List.set_nil, List.getElem?_cons_zero, List.getElem?_cons_succ, Option.some.injEq, Sl.v.injEq, Sl.o.injEq, D.bl.injEq, D.int.injEq, D.str.injEq, D.tup.injEq, D.lst.injEq, D.cell.injEq, D.fn.injEq, exists_eq_left, exists_eq_left', exists_eq_right, List.length_cons, List.length_nil, Nat.reduceAdd, Nat.reduceSub, List.replicate_succ, List.replicate_zero, List.map_cons, List.map_nil, List.cons_append, List.nil_append, List.append_nil, true_and, and_true, false_and, and_false, forall_const, Bool.true_eq_false, Bool.false_eq_true, Bool.not_true, Bool.not_false, setMany, asg, Tg.slots, wipeE, optI, testOf, ne_eq, not_true_eq_false, not_false_eq_true, exists_const, reduceCtorEq, false_or, or_false, true_or, or_true, exists_false, Int.reduceLT, Int.reduceLE, Int.reduceNeg, Int.reduceAdd, Int.reduceSub, decide_true, decide_false, Bool.and_true, Bool.true_and, Bool.and_false, Bool.false_and, Bool.or_true, Bool.true_or, Bool.or_false, Bool.false_or, false_implies, true_implies, if_true, if_false, ite_true, ite_false, implies_true, envOf, op_add, op_addT, op_addL, op_sub, op_mul, op_fdiv, op_mod, op_lt, op_le, op_gt, op_ge, op_eqI, op_neI, op_eqS, op_neS, len_tup, len_lst, len_rol, abs_int, max2, min2, int_int, int_bl, nn_non, nn_int, nn_bl, nn_str, nn_tup, nn_lst, ix_tup, ix_lst, ix_rol, ix_cell, op_inS2, sl_tup, sl_lst, items_tup, items_lst, atI_0, atI_1, atI_2, cutD_1, cutD_from1, cutD_to, p10_6, p10_7, p10_8, p10_9, p10_10, p10_11, p10_12, sum_ints, all_bls, any_bls, eqb_ints, eqb_nilL, isin_ints, enum_lst, cmp_int, cmp_non, cmp_str, cmp_dInts, cmp_nilL, it_int_non, it_int_bl, it_int_int, it_int_str, it_int_tup, it_int_lst, it_int_rol, it_bool_non, it_bool_bl, it_bool_int, it_bool_str, it_bool_tup, it_bool_lst, it_bool_rol, it_str_non, it_str_bl, it_str_int, it_str_str, it_str_tup, it_str_lst, it_str_rol, it_tuple_non, it_tuple_bl, it_tuple_int, it_tuple_str, it_tuple_tup, it_tuple_lst, it_tuple_rol, it_list_non, it_list_bl, it_list_int, it_list_str, it_list_tup, it_list_lst, it_list_rol]
    refine (sp_bag (by omega)).mono ?_
    rintro d S1 ⟨rfl, c, hc, rfl⟩
    refine ⟨⟨by simp [hl], by simp [hl], fun i hi => ?_⟩, ?_⟩
    · by_cases c2 : i < pre.length
      · exact (hB.app [c]).2 i c2
      · have e : i = S.length := by rw [List.length_append, List.length_singleton] at hi; omega
        subst e
        exact ⟨c, by simp, hc⟩
    · rw [List.length_append, List.length_singleton, List.range_succ, List.map_append, ← hp, hl]; rfl
  · rintro S xs ⟨⟨_, hB⟩, hp⟩ hl
    simp only [List.length_map, List.length_range, List.nil_append] at hl hB hp
    exact ⟨xs.length, by rw [hl]; omega, by rw [← hp], hB⟩
theorem sp_take {n : Nat} (hn : 1 ≤ n) {L c : Nat} {S : Store} (hB : Bgs L S) (hc : c < L) {m : Int} (hm : 0 < m) : WC (ec gv pr n) F._law_take [.cell c, .int m] S fun d S' => Bgs L S' ∧ ∃ v, d = .int v ∧ 0 ≤ v ∧ v < m := by
  obtain ⟨hl, hb⟩ := hB
  rw [wc_def' hn pr__law_take rfl]
  have hc2 : c < S.length := by omega
  obtain ⟨c0, eS, xs, k, rfl, hx, hk⟩ := hb c hc
  have i1 : L2.ixN 2 1 = some 1 := rfl
  simp only [fd__law_take, we_var, we_cn, we_cb, we_ci, we_cs, we_glob, we_tup, we_lst, we_newc, we_op, we_isN, we_notN, we_neg, we_nt, we_and, we_or, we_chain, we_ite, we_call, we_calll, we_b1, we_b2, we_isi, we_ix, we_sl, we_lc, we_lrng, we_olen, we_oix, we_inD, we_getD, we_calld, we_osl, we_rev, we_isB, we_cnew, we_clen, we_cpop, we_cnil, wl_nil, wl_cons, wr_it, wr_rng, wr_enum, wr_zip, ws_set, ws_own, ws_frz, ws_unp, ws_unp2, ws_par, ws_app, ws_oset, ws_cset, ws_ifs, ws_fors, ws_whil, ws_ret, ws_retn, ws_brk, ws_cnt, ws_pas, ws_expr, wb_nil, wb_cons, thn_nx, thn_rt, thn_bk, thn_ct, fin_nx, fin_rt, turn_nx, turn_ct, turn_bk, turn_rt, List.set_cons_zero, List.set_cons_succ, List.set_nil, List.getElem?_cons_zero, List.getElem?_cons_succ, Option.some.injEq, Sl.v.injEq, Sl.o.injEq, D.bl.injEq, D.int.injEq, D.str.injEq, D.tup.injEq, D.lst.injEq, D.cell.injEq, D.fn.injEq, exists_eq_left, exists_eq_left', exists_eq_right, List.length_cons, List.length_nil, Nat.reduceAdd, Nat.reduceSub, List.replicate_succ, List.replicate_zero, List.map_cons, List.map_nil, List.cons_append, List.nil_append, List.append_nil, true_and, and_true, false_and, and_false, forall_const, Bool.true_eq_false, Bool.false_eq_true, Bool.not_true, Bool.not_false, setMany, asg, Tg.slots, wipeE, optI, testOf, ne_eq, not_true_eq_false, not_false_eq_true, exists_const, reduceCtorEq, false_or, or_false, true_or, or_true, exists_false, Int.reduceLT, Int.reduceLE, Int.reduceNeg, Int.reduceAdd, Int.reduceSub, decide_true, decide_false, Bool.and_true, Bool.true_and, Bool.and_false, Bool.false_and, Bool.or_true, Bool.true_or, Bool.or_false, Bool.false_or, false_implies, true_implies, if_true, if_false, ite_true, ite_false, implies_true, envOf, op_add, op_addT, op_addL, op_sub, op_mul, op_fdiv, op_mod, op_lt, op_le, op_gt, op_ge, op_eqI, op_neI, op_eqS, op_neS, len_tup, len_lst, len_rol, abs_int, max2, min2, int_int, int_bl, nn_non, nn_int, nn_bl, nn_str, nn_tup, nn_lst, ix_tup, ix_lst, ix_rol, ix_cell, op_inS2, sl_tup, sl_lst, items_tup, items_lst, atI_0, atI_1, atI_2, cutD_1, cutD_from1, cutD_to, p10_6, p10_7, p10_8, p10_9, p10_10, p10_11, p10_12, sum_ints, all_bls, any_bls, eqb_ints, eqb_nilL, isin_ints, enum_lst, cmp_int, cmp_non, cmp_str, cmp_dInts, cmp_nilL, it_int_non, it_int_bl, it_int_int, it_int_str, it_int_tup, it_int_lst, it_int_rol, it_bool_non, it_bool_bl, it_bool_int, it_bool_str, it_bool_tup, it_bool_lst, it_bool_rol, it_str_non, it_str_bl, it_str_int, it_str_str, it_str_tup, it_str_lst, it_str_rol, it_tuple_non, it_tuple_bl, it_tuple_int, it_tuple_str, it_tuple_tup, it_tuple_lst, it_tuple_rol, it_list_non, it_list_bl, it_list_int, it_list_str, it_list_tup, it_list_lst, it_list_rol, eS, Option.bind_some, i1]
  have e2 : (S.set c [.lst (xs.map .int), .int (k + 1)])[c]? = some [.lst (xs.map .int), .int (k + 1)] := by rw [List.getElem?_set_self hc2]
  simp only [e2, Option.bind_some, we_var, we_cn, we_cb, we_ci, we_cs, we_glob, we_tup, we_lst, we_newc, we_op, we_isN, we_notN, we_neg, we_nt, we_and, we_or, we_chain, we_ite, we_call, we_calll, we_b1, we_b2, we_isi, we_ix, we_sl, we_lc, we_lrng, we_olen, we_oix, we_inD, we_getD, we_calld, we_osl, we_rev, we_isB, we_cnew, we_clen, we_cpop, we_cnil, wl_nil, wl_cons, wr_it, wr_rng, wr_enum, wr_zip, ws_set, ws_own, ws_frz, ws_unp, ws_unp2, ws_par, ws_app, ws_oset, ws_cset, ws_ifs, ws_fors, ws_whil, ws_ret, ws_retn, ws_brk, ws_cnt, ws_pas, ws_expr, wb_nil, wb_cons, thn_nx, thn_rt, thn_bk, thn_ct, fin_nx, fin_rt, turn_nx, turn_ct, turn_bk, turn_rt, List.set_cons_zero, List.set_cons_succ, List.set_nil, List.getElem?_cons_zero, List.getElem?_cons_succ, Option.some.injEq, Sl.v.injEq, Sl.o.injEq, D.bl.injEq, D.int.injEq, D.str.injEq, D.tup.injEq, D.lst.injEq, D.cell.injEq, D.fn.injEq, exists_eq_left, exists_eq_left', exists_eq_right, List.length_cons, List.length_nil, Nat.reduceAdd, Nat.reduceSub, List.replicate_succ, List.replicate_zero, List.map_cons, List.map_nil, List.cons_append, List.nil_append, List.append_nil, true_and, and_true, false_and, and_false, forall_const, Bool.true_eq_false, Bool.false_eq_true, Bool.not_true, Bool.not_false, setMany, asg, Tg.slots, wipeE, optI, testOf, ne_eq, not_true_eq_false, not_false_eq_true, exists_const, reduceCtorEq, false_or, or_false, true_or, or_true, exists_false, Int.reduceLT, Int.reduceLE, Int.reduceNeg, Int.reduceAdd, Int.reduceSub, decide_true, decide_false, Bool.and_true, Bool.true_and, Bool.and_false, Bool.false_and, Bool.or_true, Bool.true_or, Bool.or_false, Bool.false_or, false_implies, true_implies, if_true, if_false, ite_true, ite_false, implies_true, envOf, op_add, op_addT, op_addL, op_sub, op_mul, op_fdiv, op_mod, op_lt, op_le, op_gt, op_ge, op_eqI, op_neI, op_eqS, op_neS, len_tup, len_lst, len_rol, abs_int, max2, min2, int_int, int_bl, nn_non, nn_int, nn_bl, nn_str, nn_tup, nn_lst, ix_tup, ix_lst, ix_rol, ix_cell, op_inS2, sl_tup, sl_lst, items_tup, items_lst, atI_0, atI_1, atI_2, cutD_1, cutD_from1, cutD_to, p10_6, p10_7, p10_8, p10_9, p10_10, p10_11, p10_12, sum_ints, all_bls, any_bls, eqb_ints, eqb_nilL, isin_ints, enum_lst, cmp_int, cmp_non, cmp_str, cmp_dInts, cmp_nilL, it_int_non, it_int_bl, it_int_int, it_int_str, it_int_tup, it_int_lst, it_int_rol, it_bool_non, it_bool_bl, it_bool_int, it_bool_str, it_bool_tup, it_bool_lst, it_bool_rol, it_str_non, it_str_bl, it_str_int, it_str_str, it_str_tup, it_str_lst, it_str_rol, it_tuple_non, it_tuple_bl, it_tuple_int, it_tuple_str, it_tuple_tup, it_tuple_lst, it_tuple_rol, it_list_non, it_list_bl, it_list_int, it_list_str, it_list_tup, it_list_lst, it_list_rol, List.length_map, hx]
  rw [if_pos (by decide)]
  simp only [we_var, we_cn, we_cb, we_ci, we_cs, we_glob, we_tup, we_lst, we_newc, we_op, we_isN, we_notN, we_neg, we_nt, we_and, we_or, we_chain, we_ite, we_call, we_calll, we_b1, we_b2, we_isi, we_ix, we_sl, we_lc, we_lrng, we_olen, we_oix, we_inD, we_getD, we_calld, we_osl, we_rev, we_isB, we_cnew, we_clen, we_cpop, we_cnil, wl_nil, wl_cons, wr_it, wr_rng, wr_enum, wr_zip, ws_set, ws_own, ws_frz, ws_unp, ws_unp2, ws_par, ws_app, ws_oset, ws_cset, ws_ifs, ws_fors, ws_whil, ws_ret, ws_retn, ws_brk, ws_cnt, ws_pas, ws_expr, wb_nil, wb_cons, thn_nx, thn_rt, thn_bk, thn_ct, fin_nx, fin_rt, turn_nx, turn_ct, turn_bk, turn_rt, List.set_cons_zero, List.set_cons_succ, List.set_nil, List.getElem?_cons_zero, List.getElem?_cons_succ, Option.some.injEq, Sl.v.injEq, Sl.o.injEq, D.bl.injEq, D.int.injEq, D.str.injEq, D.tup.injEq, D.lst.injEq, D.cell.injEq, D.fn.injEq, exists_eq_left, exists_eq_left', exists_eq_right, List.length_cons, List.length_nil, Nat.reduceAdd, Nat.reduceSub, List.replicate_succ, List.replicate_zero, List.map_cons, List.map_nil, List.cons_append, List.nil_append, List.append_nil, true_and, and_true, false_and, and_false, forall_const, Bool.true_eq_false, Bool.false_eq_true, Bool.not_true, Bool.not_false, setMany, asg, Tg.slots, wipeE, optI, testOf, ne_eq, not_true_eq_false, not_false_eq_true, exists_const, reduceCtorEq, false_or, or_false, true_or, or_true, exists_false, Int.reduceLT, Int.reduceLE, Int.reduceNeg, Int.reduceAdd, Int.reduceSub, decide_true, decide_false, Bool.and_true, Bool.true_and, Bool.and_false, Bool.false_and, Bool.or_true, Bool.true_or, Bool.or_false, Bool.false_or, false_implies, true_implies, if_true, if_false, ite_true, ite_false, implies_true, envOf, op_add, op_addT, op_addL, op_sub, op_mul, op_fdiv, op_mod, op_lt, op_le, op_gt, op_ge, op_eqI, op_neI, op_eqS, op_neS, len_tup, len_lst, len_rol, abs_int, max2, min2, int_int, int_bl, nn_non, nn_int, nn_bl, nn_str, nn_tup, nn_lst, ix_tup, ix_lst, ix_rol, ix_cell, op_inS2, sl_tup, sl_lst, items_tup, items_lst, atI_0, atI_1, atI_2, cutD_1, cutD_from1, cutD_to, p10_6, p10_7, p10_8, p10_9, p10_10, p10_11, p10_12, sum_ints, all_bls, any_bls, eqb_ints, eqb_nilL, isin_ints, enum_lst, cmp_int, cmp_non, cmp_str, cmp_dInts, cmp_nilL, it_int_non, it_int_bl, it_int_int, it_int_str, it_int_tup, it_int_lst, it_int_rol, it_bool_non, it_bool_bl, it_bool_int, it_bool_str, it_bool_tup, it_bool_lst, it_bool_rol, it_str_non, it_str_bl, it_str_int, it_str_str, it_str_tup, it_str_lst, it_str_rol, it_tuple_non, it_tuple_bl, it_tuple_int, it_tuple_str, it_tuple_tup, it_tuple_lst, it_tuple_rol, it_list_non, it_list_bl, it_list_int, it_list_str, it_list_tup, it_list_lst, it_list_rol]
  have hj : 0 ≤ (k + 1) % (400 : Int) ∧ (k + 1) % (400 : Int) < 400 := by omega
  rw [show (((400 : Nat) : Int)) = 400 from rfl, atI_int hj.1 (by simp [hx]; omega), List.getElem?_map, List.getElem?_eq_getElem (by rw [hx]; omega)]
  simp only [Option.map_some, we_var, we_cn, we_cb, we_ci, we_cs, we_glob, we_tup, we_lst, we_newc, we_op, we_isN, we_notN, we_neg, we_nt, we_and, we_or, we_chain, we_ite, we_call, we_calll, we_b1, we_b2, we_isi, we_ix, we_sl, we_lc, we_lrng, we_olen, we_oix, we_inD, we_getD, we_calld, we_osl, we_rev, we_isB, we_cnew, we_clen, we_cpop, we_cnil, wl_nil, wl_cons, wr_it, wr_rng, wr_enum, wr_zip, ws_set, ws_own, ws_frz, ws_unp, ws_unp2, ws_par, ws_app, ws_oset, ws_cset, ws_ifs, ws_fors, ws_whil, ws_ret, ws_retn, ws_brk, ws_cnt, ws_pas, ws_expr, wb_nil, wb_cons, thn_nx, thn_rt, thn_bk, thn_ct, fin_nx, fin_rt, turn_nx, turn_ct, turn_bk, turn_rt, List.set_cons_zero, List.set_cons_succ, List.set_nil, List.getElem?_cons_zero, List.getElem?_cons_succ, Option.some.injEq, Sl.v.injEq, Sl.o.injEq, D.bl.injEq, D.int.injEq, D.str.injEq, D.tup.injEq, D.lst.injEq, D.cell.injEq, D.fn.injEq, exists_eq_left, exists_eq_left', exists_eq_right, List.length_cons, List.length_nil, Nat.reduceAdd, Nat.reduceSub, List.replicate_succ, List.replicate_zero, List.map_cons, List.map_nil, List.cons_append, List.nil_append, List.append_nil, true_and, and_true, false_and, and_false, forall_const, Bool.true_eq_false, Bool.false_eq_true, Bool.not_true, Bool.not_false, setMany, asg, Tg.slots, wipeE, optI, testOf, ne_eq, not_true_eq_false, not_false_eq_true, exists_const, reduceCtorEq, false_or, or_false, true_or, or_true, exists_false, Int.reduceLT, Int.reduceLE, Int.reduceNeg, Int.reduceAdd, Int.reduceSub, decide_true, decide_false, Bool.and_true, Bool.true_and, Bool.and_false, Bool.false_and, Bool.or_true, Bool.true_or, Bool.or_false, Bool.false_or, false_implies, true_implies, if_true, if_false, ite_true, ite_false, implies_true, envOf, op_add, op_addT, op_addL, op_sub, op_mul, op_fdiv, op_mod, op_lt, op_le, op_gt, op_ge, op_eqI, op_neI, op_eqS, op_neS, len_tup, len_lst, len_rol, abs_int, max2, min2, int_int, int_bl, nn_non, nn_int, nn_bl, nn_str, nn_tup, nn_lst, ix_tup, ix_lst, ix_rol, ix_cell, op_inS2, sl_tup, sl_lst, items_tup, items_lst, atI_0, atI_1, atI_2, cutD_1, cutD_from1, cutD_to, p10_6, p10_7, p10_8, p10_9, p10_10, p10_11, p10_12, sum_ints, all_bls, any_bls, eqb_ints, eqb_nilL, isin_ints, enum_lst, cmp_int, cmp_non, cmp_str, cmp_dInts, cmp_nilL, it_int_non, it_int_bl, it_int_int, it_int_str, it_int_tup, it_int_lst, it_int_rol, it_bool_non, it_bool_bl, it_bool_int, it_bool_str, it_bool_tup, it_bool_lst, it_bool_rol, it_str_non, it_str_bl, it_str_int, it_str_str, it_str_tup, it_str_lst, it_str_rol, it_tuple_non, it_tuple_bl, it_tuple_int, it_tuple_str, it_tuple_tup, it_tuple_lst, it_tuple_rol, it_list_non, it_list_bl, it_list_int, it_list_str, it_list_tup, it_list_lst, it_list_rol]
  rw [if_pos hm]
  simp only [we_var, we_cn, we_cb, we_ci, we_cs, we_glob, we_tup, we_lst, we_newc, we_op, we_isN, we_notN, we_neg, we_nt, we_and, we_or, we_chain, we_ite, we_call, we_calll, we_b1, we_b2, we_isi, we_ix, we_sl, we_lc, we_lrng, we_olen, we_oix, we_inD, we_getD, we_calld, we_osl, we_rev, we_isB, we_cnew, we_clen, we_cpop, we_cnil, wl_nil, wl_cons, wr_it, wr_rng, wr_enum, wr_zip, ws_set, ws_own, ws_frz, ws_unp, ws_unp2, ws_par, ws_app, ws_oset, ws_cset, ws_ifs, ws_fors, ws_whil, ws_ret, ws_retn, ws_brk, ws_cnt, ws_pas, ws_expr, wb_nil, wb_cons, thn_nx, thn_rt, thn_bk, thn_ct, fin_nx, fin_rt, turn_nx, turn_ct, turn_bk, turn_rt, List.set_cons_zero, List.set_cons_succ, List.set_nil, List.getElem?_cons_zero, List.getElem?_cons_succ, Option.some.injEq, Sl.v.injEq, Sl.o.injEq, D.bl.injEq, D.int.injEq, D.str.injEq, D.tup.injEq, D.lst.injEq, D.cell.injEq, D.fn.injEq, exists_eq_left, exists_eq_left', exists_eq_right, List.length_cons, List.length_nil, Nat.reduceAdd, Nat.reduceSub, List.replicate_succ, List.replicate_zero, List.map_cons, List.map_nil, List.cons_append, List.nil_append, List.append_nil, true_and, and_true, false_and, and_false, forall_const, Bool.true_eq_false, Bool.false_eq_true, Bool.not_true, Bool.not_false, setMany, asg, Tg.slots, wipeE, optI, testOf, ne_eq, not_true_eq_false, not_false_eq_true, exists_const, reduceCtorEq, false_or, or_false, true_or, or_true, exists_false, Int.reduceLT, Int.reduceLE, Int.reduceNeg, Int.reduceAdd, Int.reduceSub, decide_true, decide_false, Bool.and_true, Bool.true_and, Bool.and_false, Bool.false_and, Bool.or_true, Bool.true_or, Bool.or_false, Bool.false_or, false_implies, true_implies, if_true, if_false, ite_true, ite_false, implies_true, envOf, op_add, op_addT, op_addL, op_sub, op_mul, op_fdiv, op_mod, op_lt, op_le, op_gt, op_ge, op_eqI, op_neI, op_eqS, op_neS, len_tup, len_lst, len_rol, abs_int, max2, min2, int_int, int_bl, nn_non, nn_int, nn_bl, nn_str, nn_tup, nn_lst, ix_tup, ix_lst, ix_rol, ix_cell, op_inS2, sl_tup, sl_lst, items_tup, items_lst, atI_0, atI_1, atI_2, cutD_1, cutD_from1, cutD_to, p10_6, p10_7, p10_8, p10_9, p10_10, p10_11, p10_12, sum_ints, all_bls, any_bls, eqb_ints, eqb_nilL, isin_ints, enum_lst, cmp_int, cmp_non, cmp_str, cmp_dInts, cmp_nilL, it_int_non, it_int_bl, it_int_int, it_int_str, it_int_tup, it_int_lst, it_int_rol, it_bool_non, it_bool_bl, it_bool_int, it_bool_str, it_bool_tup, it_bool_lst, it_bool_rol, it_str_non, it_str_bl, it_str_int, it_str_str, it_str_tup, it_str_lst, it_str_rol, it_tuple_non, it_tuple_bl, it_tuple_int, it_tuple_str, it_tuple_tup, it_tuple_lst, it_tuple_rol, it_list_non, it_list_bl, it_list_int, it_list_str, it_list_tup, it_list_lst, it_list_rol]
  refine ⟨⟨by simp [hl], fun i hi => ?_⟩, Int.emod_nonneg _ (by omega), Int.emod_lt_of_pos _ hm⟩
  by_cases e : c = i
  · subst e
    exact ⟨_, e2, xs, k + 1, rfl, hx, by omega⟩
  · rw [List.getElem?_set, if_neg e]
    exact hb i hi
theorem sp_far {n : Nat} (hn : 2 ≤ n) {L c : Nat} {S : Store} (hB : Bgs L S) (hc : c < L) {m : Int} (hm : 0 < m) (hm2 : m ≤ 1000000000000000) : WC (ec gv pr n) F._law_far_draw [.cell c, .int m] S fun d S' => Bgs L S' ∧ ∃ v, d = .int v ∧ 0 ≤ v ∧ v < m := by
  rw [wc_def' (by omega) pr__law_far_draw rfl]
  simp only [fd__law_far_draw, we_var, we_cn, we_cb, we_ci, we_cs, we_glob, we_tup, we_lst, we_newc, we_op, we_isN, we_notN, we_neg, we_nt, we_and, we_or, we_chain, we_ite, we_call, we_calll, we_b1, we_b2, we_isi, we_ix, we_sl, we_lc, we_lrng, we_olen, we_oix, we_inD, we_getD, we_calld, we_osl, we_rev, we_isB, we_cnew, we_clen, we_cpop, we_cnil, wl_nil, wl_cons, wr_it, wr_rng, wr_enum, wr_zip, ws_set, ws_own, ws_frz, ws_unp, ws_unp2, ws_par, ws_app, ws_oset, ws_cset, ws_ifs, ws_fors, ws_whil, ws_ret, ws_retn, ws_brk, ws_cnt, ws_pas, ws_expr, wb_nil, wb_cons, thn_nx, thn_rt, thn_bk, thn_ct, fin_nx, fin_rt, turn_nx, turn_ct, turn_bk, turn_rt, List.set_cons_zero, List.set_cons_succ, List.set_nil, List.getElem?_cons_zero, List.getElem?_cons_succ, Option.some.injEq, Sl.v.injEq, Sl.o.injEq, D.bl.injEq, D.int.injEq, D.str.injEq, D.tup.injEq, D.lst.injEq, D.cell.injEq, D.fn.injEq, exists_eq_left, exists_eq_left', exists_eq_right, List.length_cons, List.length_nil, Nat.reduceAdd, Nat.reduceSub, List.replicate_succ, List.replicate_zero, List.map_cons, List.map_nil, List.cons_append, List.nil_append, List.append_nil, true_and, and_true, false_and, and_false, forall_const, Bool.true_eq_false, Bool.false_eq_true, Bool.not_true, Bool.not_false, setMany, asg, Tg.slots, wipeE, optI, testOf, ne_eq, not_true_eq_false, not_false_eq_true, exists_const, reduceCtorEq, false_or, or_false, true_or, or_true, exists_false, Int.reduceLT, Int.reduceLE, Int.reduceNeg, Int.reduceAdd, Int.reduceSub, decide_true, decide_false, Bool.and_true, Bool.true_and, Bool.and_false, Bool.false_and, Bool.or_true, Bool.true_or, Bool.or_false, Bool.false_or, false_implies, true_implies, if_true, if_false, ite_true, ite_false, implies_true, envOf, op_add, op_addT, op_addL, op_sub, op_mul, op_fdiv, op_mod, op_lt, op_le, op_gt, op_ge, op_eqI, op_neI, op_eqS, op_neS, len_tup, len_lst, len_rol, abs_int, max2, min2, int_int, int_bl, nn_non, nn_int, nn_bl, nn_str, nn_tup, nn_lst, ix_tup, ix_lst, ix_rol, ix_cell, op_inS2, sl_tup, sl_lst, items_tup, items_lst, atI_0, atI_1, atI_2, cutD_1, cutD_from1, cutD_to, p10_6, p10_7, p10_8, p10_9, p10_10, p10_11, p10_12, sum_ints, all_bls, any_bls, eqb_ints, eqb_nilL, isin_ints, enum_lst, cmp_int, cmp_non, cmp_str, cmp_dInts, cmp_nilL, it_int_non, it_int_bl, it_int_int, it_int_str, it_int_tup, it_int_lst, it_int_rol, it_bool_non, it_bool_bl, it_bool_int, it_bool_str, it_bool_tup, it_bool_lst, it_bool_rol, it_str_non, it_str_bl, it_str_int, it_str_str, it_str_tup, it_str_lst, it_str_rol, it_tuple_non, it_tuple_bl, it_tuple_int, it_tuple_str, it_tuple_tup, it_tuple_lst, it_tuple_rol, it_list_non, it_list_bl, it_list_int, it_list_str, it_list_tup, it_list_lst, it_list_rol]
  refine ww_inv (fun k δ S => k ≤ 6 ∧ ∃ f u : Int, δ = [.v (.cell c), .v (.int m), .v (.int f), .v (.int u)] ∧ Bgs L S ∧ 0 ≤ u ∧ u < 1000 ^ k) ?_ turns 6 _ _ ⟨by omega, 0, m, rfl, hB, by omega, by show m < 1000000000000000000; omega⟩ (by decide)
  rintro k δ S1 ⟨hk, f, u, rfl, hB1, h0, hu⟩
  simp only [we_var, we_cn, we_cb, we_ci, we_cs, we_glob, we_tup, we_lst, we_newc, we_op, we_isN, we_notN, we_neg, we_nt, we_and, we_or, we_chain, we_ite, we_call, we_calll, we_b1, we_b2, we_isi, we_ix, we_sl, we_lc, we_lrng, we_olen, we_oix, we_inD, we_getD, we_calld, we_osl, we_rev, we_isB, we_cnew, we_clen, we_cpop, we_cnil, wl_nil, wl_cons, wr_it, wr_rng, wr_enum, wr_zip, ws_set, ws_own, ws_frz, ws_unp, ws_unp2, ws_par, ws_app, ws_oset, ws_cset, ws_ifs, ws_fors, ws_whil, ws_ret, ws_retn, ws_brk, ws_cnt, ws_pas, ws_expr, wb_nil, wb_cons, thn_nx, thn_rt, thn_bk, thn_ct, fin_nx, fin_rt, turn_nx, turn_ct, turn_bk, turn_rt, List.set_cons_zero, List.set_cons_succ, List.set_nil, List.getElem?_cons_zero, List.getElem?_cons_succ, Option.some.injEq, Sl.v.injEq, Sl.o.injEq, D.bl.injEq, D.int.injEq, D.str.injEq, D.tup.injEq, D.lst.injEq, D.cell.injEq, D.fn.injEq, exists_eq_left, exists_eq_left', exists_eq_right, List.length_cons, List.length_nil, Nat.reduceAdd, Nat.reduceSub, List.replicate_succ, List.replicate_zero, List.map_cons, List.map_nil, List.cons_append, List.nil_append, List.append_nil, true_and, and_true, false_and, and_false, forall_const, Bool.true_eq_false, Bool.false_eq_true, Bool.not_true, Bool.not_false, setMany, asg, Tg.slots, wipeE, optI, testOf, ne_eq, not_true_eq_false, not_false_eq_true, exists_const, reduceCtorEq, false_or, or_false, true_or, or_true, exists_false, Int.reduceLT, Int.reduceLE, Int.reduceNeg, Int.reduceAdd, Int.reduceSub, decide_true, decide_false, Bool.and_true, Bool.true_and, Bool.and_false, Bool.false_and, Bool.or_true, Bool.true_or, Bool.or_false, Bool.false_or, false_implies, true_implies, if_true, if_false, ite_true, ite_false, implies_true, envOf, op_add, op_addT, op_addL, op_sub, op_mul, op_fdiv, op_mod, op_lt, op_le, op_gt, op_ge, op_eqI, op_neI, op_eqS, op_neS, len_tup, len_lst, len_rol, abs_int, max2, min2, int_int, int_bl, nn_non, nn_int, nn_bl, nn_str, nn_tup, nn_lst, ix_tup, ix_lst, ix_rol, ix_cell, op_inS2, sl_tup, sl_lst, items_tup, items_lst, atI_0, atI_1, atI_2, cutD_1, cutD_from1, cutD_to, p10_6, p10_7, p10_8, p10_9, p10_10, p10_11, p10_12, sum_ints, all_bls, any_bls, eqb_ints, eqb_nilL, isin_ints, enum_lst, cmp_int, cmp_non, cmp_str, cmp_dInts, cmp_nilL, it_int_non, it_int_bl, it_int_int, it_int_str, it_int_tup, it_int_lst, it_int_rol, it_bool_non, it_bool_bl, it_bool_int, it_bool_str, it_bool_tup, it_bool_lst, it_bool_rol, it_str_non, it_str_bl, it_str_int, it_str_str, it_str_tup, it_str_lst, it_str_rol, it_tuple_non, it_tuple_bl, it_tuple_int, it_tuple_str, it_tuple_tup, it_tuple_lst, it_tuple_rol, it_list_non, it_list_bl, it_list_int, it_list_str, it_list_tup, it_list_lst, it_list_rol]
  refine ⟨fun h => ?_, fun h => ?_⟩
  · simp only [if_pos hm, we_var, we_cn, we_cb, we_ci, we_cs, we_glob, we_tup, we_lst, we_newc, we_op, we_isN, we_notN, we_neg, we_nt, we_and, we_or, we_chain, we_ite, we_call, we_calll, we_b1, we_b2, we_isi, we_ix, we_sl, we_lc, we_lrng, we_olen, we_oix, we_inD, we_getD, we_calld, we_osl, we_rev, we_isB, we_cnew, we_clen, we_cpop, we_cnil, wl_nil, wl_cons, wr_it, wr_rng, wr_enum, wr_zip, ws_set, ws_own, ws_frz, ws_unp, ws_unp2, ws_par, ws_app, ws_oset, ws_cset, ws_ifs, ws_fors, ws_whil, ws_ret, ws_retn, ws_brk, ws_cnt, ws_pas, ws_expr, wb_nil, wb_cons, thn_nx, thn_rt, thn_bk, thn_ct, fin_nx, fin_rt, turn_nx, turn_ct, turn_bk, turn_rt, List.set_cons_zero, List.set_cons_succ, List.set_nil, List.getElem?_cons_zero, List.getElem?_cons_succ, Option.some.injEq, Sl.v.injEq, Sl.o.injEq, D.bl.injEq, D.int.injEq, D.str.injEq, D.tup.injEq, D.lst.injEq, D.cell.injEq, D.fn.injEq, exists_eq_left, exists_eq_left', exists_eq_right, List.length_cons, List.length_nil, Nat.reduceAdd, Nat.reduceSub, List.replicate_succ, List.replicate_zero, List.map_cons, List.map_nil, List.cons_append, List.nil_append, List.append_nil, true_and, and_true, false_and, and_false, forall_const, Bool.true_eq_false, Bool.false_eq_true, Bool.not_true, Bool.not_false, setMany, asg, Tg.slots, wipeE, optI, testOf, ne_eq, not_true_eq_false, not_false_eq_true, exists_const, reduceCtorEq, false_or, or_false, true_or, or_true, exists_false, Int.reduceLT, Int.reduceLE, Int.reduceNeg, Int.reduceAdd, Int.reduceSub, decide_true, decide_false, Bool.and_true, Bool.true_and, Bool.and_false, Bool.false_and, Bool.or_true, Bool.true_or, Bool.or_false, Bool.false_or, false_implies, true_implies, if_true, if_false, ite_true, ite_false, implies_true, envOf, op_add, op_addT, op_addL, op_sub, op_mul, op_fdiv, op_mod, op_lt, op_le, op_gt, op_ge, op_eqI, op_neI, op_eqS, op_neS, len_tup, len_lst, len_rol, abs_int, max2, min2, int_int, int_bl, nn_non, nn_int, nn_bl, nn_str, nn_tup, nn_lst, ix_tup, ix_lst, ix_rol, ix_cell, op_inS2, sl_tup, sl_lst, items_tup, items_lst, atI_0, atI_1, atI_2, cutD_1, cutD_from1, cutD_to, p10_6, p10_7, p10_8, p10_9, p10_10, p10_11, p10_12, sum_ints, all_bls, any_bls, eqb_ints, eqb_nilL, isin_ints, enum_lst, cmp_int, cmp_non, cmp_str, cmp_dInts, cmp_nilL, it_int_non, it_int_bl, it_int_int, it_int_str, it_int_tup, it_int_lst, it_int_rol, it_bool_non, it_bool_bl, it_bool_int, it_bool_str, it_bool_tup, it_bool_lst, it_bool_rol, it_str_non, it_str_bl, it_str_int, it_str_str, it_str_tup, it_str_lst, it_str_rol, it_tuple_non, it_tuple_bl, it_tuple_int, it_tuple_str, it_tuple_tup, it_tuple_lst, it_tuple_rol, it_list_non, it_list_bl, it_list_int, it_list_str, it_list_tup, it_list_lst, it_list_rol]
    refine (sp_take (by omega) hB1 hc (by decide)).mono ?_
    rintro d S2 ⟨hB2, v, rfl, hv0, hv1⟩
    have b1 := Int.emod_nonneg f (show m ≠ 0 by omega)
    have b2 := Int.emod_lt_of_pos f hm
    have hv : v = 0 ∨ v = 1 ∨ v = 2 ∨ v = 3 := by omega
    rcases hv with rfl | rfl | rfl | rfl
    · exact ⟨_, rfl, hB2, _, rfl, b1, b2⟩
    · exact ⟨_, rfl, hB2, _, rfl, by omega, by omega⟩
    · exact ⟨_, rfl, hB2, _, rfl, by omega, by omega⟩
    · exact ⟨_, rfl, hB2, _, rfl, b1, b2⟩
  · have h := of_decide_eq_true h
    have hm1 : mulOk 1000 f = true := by unfold mulOk; simp
    rw [hm1]
    simp only [we_var, we_cn, we_cb, we_ci, we_cs, we_glob, we_tup, we_lst, we_newc, we_op, we_isN, we_notN, we_neg, we_nt, we_and, we_or, we_chain, we_ite, we_call, we_calll, we_b1, we_b2, we_isi, we_ix, we_sl, we_lc, we_lrng, we_olen, we_oix, we_inD, we_getD, we_calld, we_osl, we_rev, we_isB, we_cnew, we_clen, we_cpop, we_cnil, wl_nil, wl_cons, wr_it, wr_rng, wr_enum, wr_zip, ws_set, ws_own, ws_frz, ws_unp, ws_unp2, ws_par, ws_app, ws_oset, ws_cset, ws_ifs, ws_fors, ws_whil, ws_ret, ws_retn, ws_brk, ws_cnt, ws_pas, ws_expr, wb_nil, wb_cons, thn_nx, thn_rt, thn_bk, thn_ct, fin_nx, fin_rt, turn_nx, turn_ct, turn_bk, turn_rt, List.set_cons_zero, List.set_cons_succ, List.set_nil, List.getElem?_cons_zero, List.getElem?_cons_succ, Option.some.injEq, Sl.v.injEq, Sl.o.injEq, D.bl.injEq, D.int.injEq, D.str.injEq, D.tup.injEq, D.lst.injEq, D.cell.injEq, D.fn.injEq, exists_eq_left, exists_eq_left', exists_eq_right, List.length_cons, List.length_nil, Nat.reduceAdd, Nat.reduceSub, List.replicate_succ, List.replicate_zero, List.map_cons, List.map_nil, List.cons_append, List.nil_append, List.append_nil, true_and, and_true, false_and, and_false, forall_const, Bool.true_eq_false, Bool.false_eq_true, Bool.not_true, Bool.not_false, setMany, asg, Tg.slots, wipeE, optI, testOf, ne_eq, not_true_eq_false, not_false_eq_true, exists_const, reduceCtorEq, false_or, or_false, true_or, or_true, exists_false, Int.reduceLT, Int.reduceLE, Int.reduceNeg, Int.reduceAdd, Int.reduceSub, decide_true, decide_false, Bool.and_true, Bool.true_and, Bool.and_false, Bool.false_and, Bool.or_true, Bool.true_or, Bool.or_false, Bool.false_or, false_implies, true_implies, if_true, if_false, ite_true, ite_false, implies_true, envOf, op_add, op_addT, op_addL, op_sub, op_mul, op_fdiv, op_mod, op_lt, op_le, op_gt, op_ge, op_eqI, op_neI, op_eqS, op_neS, len_tup, len_lst, len_rol, abs_int, max2, min2, int_int, int_bl, nn_non, nn_int, nn_bl, nn_str, nn_tup, nn_lst, ix_tup, ix_lst, ix_rol, ix_cell, op_inS2, sl_tup, sl_lst, items_tup, items_lst, atI_0, atI_1, atI_2, cutD_1, cutD_from1, cutD_to, p10_6, p10_7, p10_8, p10_9, p10_10, p10_11, p10_12, sum_ints, all_bls, any_bls, eqb_ints, eqb_nilL, isin_ints, enum_lst, cmp_int, cmp_non, cmp_str, cmp_dInts, cmp_nilL, it_int_non, it_int_bl, it_int_int, it_int_str, it_int_tup, it_int_lst, it_int_rol, it_bool_non, it_bool_bl, it_bool_int, it_bool_str, it_bool_tup, it_bool_lst, it_bool_rol, it_str_non, it_str_bl, it_str_int, it_str_str, it_str_tup, it_str_lst, it_str_rol, it_tuple_non, it_tuple_bl, it_tuple_int, it_tuple_str, it_tuple_tup, it_tuple_lst, it_tuple_rol, it_list_non, it_list_bl, it_list_int, it_list_str, it_list_tup, it_list_lst, it_list_rol]
    refine (sp_take (by omega) hB1 hc (by decide)).mono ?_
    rintro d S2 ⟨hB2, v, rfl, hv0, hv1⟩
    simp only [we_var, we_cn, we_cb, we_ci, we_cs, we_glob, we_tup, we_lst, we_newc, we_op, we_isN, we_notN, we_neg, we_nt, we_and, we_or, we_chain, we_ite, we_call, we_calll, we_b1, we_b2, we_isi, we_ix, we_sl, we_lc, we_lrng, we_olen, we_oix, we_inD, we_getD, we_calld, we_osl, we_rev, we_isB, we_cnew, we_clen, we_cpop, we_cnil, wl_nil, wl_cons, wr_it, wr_rng, wr_enum, wr_zip, ws_set, ws_own, ws_frz, ws_unp, ws_unp2, ws_par, ws_app, ws_oset, ws_cset, ws_ifs, ws_fors, ws_whil, ws_ret, ws_retn, ws_brk, ws_cnt, ws_pas, ws_expr, wb_nil, wb_cons, thn_nx, thn_rt, thn_bk, thn_ct, fin_nx, fin_rt, turn_nx, turn_ct, turn_bk, turn_rt, List.set_cons_zero, List.set_cons_succ, List.set_nil, List.getElem?_cons_zero, List.getElem?_cons_succ, Option.some.injEq, Sl.v.injEq, Sl.o.injEq, D.bl.injEq, D.int.injEq, D.str.injEq, D.tup.injEq, D.lst.injEq, D.cell.injEq, D.fn.injEq, exists_eq_left, exists_eq_left', exists_eq_right, List.length_cons, List.length_nil, Nat.reduceAdd, Nat.reduceSub, List.replicate_succ, List.replicate_zero, List.map_cons, List.map_nil, List.cons_append, List.nil_append, List.append_nil, true_and, and_true, false_and, and_false, forall_const, Bool.true_eq_false, Bool.false_eq_true, Bool.not_true, Bool.not_false, setMany, asg, Tg.slots, wipeE, optI, testOf, ne_eq, not_true_eq_false, not_false_eq_true, exists_const, reduceCtorEq, false_or, or_false, true_or, or_true, exists_false, Int.reduceLT, Int.reduceLE, Int.reduceNeg, Int.reduceAdd, Int.reduceSub, decide_true, decide_false, Bool.and_true, Bool.true_and, Bool.and_false, Bool.false_and, Bool.or_true, Bool.true_or, Bool.or_false, Bool.false_or, false_implies, true_implies, if_true, if_false, ite_true, ite_false, implies_true, envOf, op_add, op_addT, op_addL, op_sub, op_mul, op_fdiv, op_mod, op_lt, op_le, op_gt, op_ge, op_eqI, op_neI, op_eqS, op_neS, len_tup, len_lst, len_rol, abs_int, max2, min2, int_int, int_bl, nn_non, nn_int, nn_bl, nn_str, nn_tup, nn_lst, ix_tup, ix_lst, ix_rol, ix_cell, op_inS2, sl_tup, sl_lst, items_tup, items_lst, atI_0, atI_1, atI_2, cutD_1, cutD_from1, cutD_to, p10_6, p10_7, p10_8, p10_9, p10_10, p10_11, p10_12, sum_ints, all_bls, any_bls, eqb_ints, eqb_nilL, isin_ints, enum_lst, cmp_int, cmp_non, cmp_str, cmp_dInts, cmp_nilL, it_int_non, it_int_bl, it_int_int, it_int_str, it_int_tup, it_int_lst, it_int_rol, it_bool_non, it_bool_bl, it_bool_int, it_bool_str, it_bool_tup, it_bool_lst, it_bool_rol, it_str_non, it_str_bl, it_str_int, it_str_str, it_str_tup, it_str_lst, it_str_rol, it_tuple_non, it_tuple_bl, it_tuple_int, it_tuple_str, it_tuple_tup, it_tuple_lst, it_tuple_rol, it_list_non, it_list_bl, it_list_int, it_list_str, it_list_tup, it_list_lst, it_list_rol]
    have hk1 : 1 ≤ k := by
      rcases k with _ | k
      · simp at hu; omega
      · omega
    refine ⟨k - 1, by omega, by omega, _, _, rfl, hB2, by omega, ?_⟩
    have : (1000 : Int) ^ k = 1000 * 1000 ^ (k - 1) := by
      obtain ⟨j, rfl⟩ : ∃ j, k = j + 1 := ⟨k - 1, by omega⟩
      rw [Nat.add_sub_cancel, Int.pow_succ, Int.mul_comm]
    omega
end MP

/-! SpS: drawn links and frames. -/
namespace MP
open PySem
theorem at_lt {α : Type} (xs : List α) {v : Int} (h0 : 0 ≤ v) (h1 : v < xs.length) : ∃ x, L2.atI xs v = some x ∧ x ∈ xs := by
  rw [atI_int h0 h1, List.getElem?_eq_getElem (by omega)]
  exact ⟨_, rfl, List.getElem_mem _⟩
theorem two_eq (k : Kd) : (decide (("piston" : Str) = k.s) || decide (("cut" : Str) = k.s)) = k.two := by cases k <;> decide +kernel
theorem sp_link {n : Nat} (hn : 3 ≤ n) {L c : Nat} {S : Store} (hB : Bgs L S) (hc : c < L) {w : Int} (hw : 0 ≤ w) (hw2 : w ≤ 1000000000) : WC (ec gv pr n) F._law_link [.cell c, .int w] S fun d S' => Bgs L S' ∧ ∃ l : Lk, d = l.d ∧ l.ok w := by
  rw [wc_def' (by omega) pr__law_link rfl]
  simp only [fd__law_link, we_var, we_cn, we_cb, we_ci, we_cs, we_glob, we_tup, we_lst, we_newc, we_op, we_isN, we_notN, we_neg, we_nt, we_and, we_or, we_chain, we_ite, we_call, we_calll, we_b1, we_b2, we_isi, we_ix, we_sl, we_lc, we_lrng, we_olen, we_oix, we_inD, we_getD, we_calld, we_osl, we_rev, we_isB, we_cnew, we_clen, we_cpop, we_cnil, wl_nil, wl_cons, wr_it, wr_rng, wr_enum, wr_zip, ws_set, ws_own, ws_frz, ws_unp, ws_unp2, ws_par, ws_app, ws_oset, ws_cset, ws_ifs, ws_fors, ws_whil, ws_ret, ws_retn, ws_brk, ws_cnt, ws_pas, ws_expr, wb_nil, wb_cons, thn_nx, thn_rt, thn_bk, thn_ct, fin_nx, fin_rt, turn_nx, turn_ct, turn_bk, turn_rt, List.set_cons_zero, List.set_cons_succ, List.set_nil, List.getElem?_cons_zero, List.getElem?_cons_succ, Option.some.injEq, Sl.v.injEq, Sl.o.injEq, D.bl.injEq, D.int.injEq, D.str.injEq, D.tup.injEq, D.lst.injEq, D.cell.injEq, D.fn.injEq, exists_eq_left, exists_eq_left', exists_eq_right, List.length_cons, List.length_nil, Nat.reduceAdd, Nat.reduceSub, List.replicate_succ, List.replicate_zero, List.map_cons, List.map_nil, List.cons_append, List.nil_append, List.append_nil, true_and, and_true, false_and, and_false, forall_const, Bool.true_eq_false, Bool.false_eq_true, Bool.not_true, Bool.not_false, setMany, asg, Tg.slots, wipeE, optI, testOf, ne_eq, not_true_eq_false, not_false_eq_true, exists_const, reduceCtorEq, false_or, or_false, true_or, or_true, exists_false, Int.reduceLT, Int.reduceLE, Int.reduceNeg, Int.reduceAdd, Int.reduceSub, decide_true, decide_false, Bool.and_true, Bool.true_and, Bool.and_false, Bool.false_and, Bool.or_true, Bool.true_or, Bool.or_false, Bool.false_or, false_implies, true_implies, if_true, if_false, ite_true, ite_false, implies_true, envOf, op_add, op_addT, op_addL, op_sub, op_mul, op_fdiv, op_mod, op_lt, op_le, op_gt, op_ge, op_eqI, op_neI, op_eqS, op_neS, len_tup, len_lst, len_rol, abs_int, max2, min2, int_int, int_bl, nn_non, nn_int, nn_bl, nn_str, nn_tup, nn_lst, ix_tup, ix_lst, ix_rol, ix_cell, op_inS2, sl_tup, sl_lst, items_tup, items_lst, atI_0, atI_1, atI_2, cutD_1, cutD_from1, cutD_to, p10_6, p10_7, p10_8, p10_9, p10_10, p10_11, p10_12, sum_ints, all_bls, any_bls, eqb_ints, eqb_nilL, isin_ints, enum_lst, cmp_int, cmp_non, cmp_str, cmp_dInts, cmp_nilL, it_int_non, it_int_bl, it_int_int, it_int_str, it_int_tup, it_int_lst, it_int_rol, it_bool_non, it_bool_bl, it_bool_int, it_bool_str, it_bool_tup, it_bool_lst, it_bool_rol, it_str_non, it_str_bl, it_str_int, it_str_str, it_str_tup, it_str_lst, it_str_rol, it_tuple_non, it_tuple_bl, it_tuple_int, it_tuple_str, it_tuple_tup, it_tuple_lst, it_tuple_rol, it_list_non, it_list_bl, it_list_int, it_list_str, it_list_tup, it_list_lst, it_list_rol]
  refine (sp_take (by omega) hB hc (by decide)).mono ?_
  rintro d S1 ⟨hB1, v, rfl, hv0, hv1⟩
  simp only [we_var, we_cn, we_cb, we_ci, we_cs, we_glob, we_tup, we_lst, we_newc, we_op, we_isN, we_notN, we_neg, we_nt, we_and, we_or, we_chain, we_ite, we_call, we_calll, we_b1, we_b2, we_isi, we_ix, we_sl, we_lc, we_lrng, we_olen, we_oix, we_inD, we_getD, we_calld, we_osl, we_rev, we_isB, we_cnew, we_clen, we_cpop, we_cnil, wl_nil, wl_cons, wr_it, wr_rng, wr_enum, wr_zip, ws_set, ws_own, ws_frz, ws_unp, ws_unp2, ws_par, ws_app, ws_oset, ws_cset, ws_ifs, ws_fors, ws_whil, ws_ret, ws_retn, ws_brk, ws_cnt, ws_pas, ws_expr, wb_nil, wb_cons, thn_nx, thn_rt, thn_bk, thn_ct, fin_nx, fin_rt, turn_nx, turn_ct, turn_bk, turn_rt, List.set_cons_zero, List.set_cons_succ, List.set_nil, List.getElem?_cons_zero, List.getElem?_cons_succ, Option.some.injEq, Sl.v.injEq, Sl.o.injEq, D.bl.injEq, D.int.injEq, D.str.injEq, D.tup.injEq, D.lst.injEq, D.cell.injEq, D.fn.injEq, exists_eq_left, exists_eq_left', exists_eq_right, List.length_cons, List.length_nil, Nat.reduceAdd, Nat.reduceSub, List.replicate_succ, List.replicate_zero, List.map_cons, List.map_nil, List.cons_append, List.nil_append, List.append_nil, true_and, and_true, false_and, and_false, forall_const, Bool.true_eq_false, Bool.false_eq_true, Bool.not_true, Bool.not_false, setMany, asg, Tg.slots, wipeE, optI, testOf, ne_eq, not_true_eq_false, not_false_eq_true, exists_const, reduceCtorEq, false_or, or_false, true_or, or_true, exists_false, Int.reduceLT, Int.reduceLE, Int.reduceNeg, Int.reduceAdd, Int.reduceSub, decide_true, decide_false, Bool.and_true, Bool.true_and, Bool.and_false, Bool.false_and, Bool.or_true, Bool.true_or, Bool.or_false, Bool.false_or, false_implies, true_implies, if_true, if_false, ite_true, ite_false, implies_true, envOf, op_add, op_addT, op_addL, op_sub, op_mul, op_fdiv, op_mod, op_lt, op_le, op_gt, op_ge, op_eqI, op_neI, op_eqS, op_neS, len_tup, len_lst, len_rol, abs_int, max2, min2, int_int, int_bl, nn_non, nn_int, nn_bl, nn_str, nn_tup, nn_lst, ix_tup, ix_lst, ix_rol, ix_cell, op_inS2, sl_tup, sl_lst, items_tup, items_lst, atI_0, atI_1, atI_2, cutD_1, cutD_from1, cutD_to, p10_6, p10_7, p10_8, p10_9, p10_10, p10_11, p10_12, sum_ints, all_bls, any_bls, eqb_ints, eqb_nilL, isin_ints, enum_lst, cmp_int, cmp_non, cmp_str, cmp_dInts, cmp_nilL, it_int_non, it_int_bl, it_int_int, it_int_str, it_int_tup, it_int_lst, it_int_rol, it_bool_non, it_bool_bl, it_bool_int, it_bool_str, it_bool_tup, it_bool_lst, it_bool_rol, it_str_non, it_str_bl, it_str_int, it_str_str, it_str_tup, it_str_lst, it_str_rol, it_tuple_non, it_tuple_bl, it_tuple_int, it_tuple_str, it_tuple_tup, it_tuple_lst, it_tuple_rol, it_list_non, it_list_bl, it_list_int, it_list_str, it_list_tup, it_list_lst, it_list_rol]
  obtain ⟨x, hx, hm⟩ := at_lt [D.str ("bar" : Str), D.str ("piston" : Str), D.str ("cable" : Str), D.str ("strut" : Str), D.str ("cut" : Str), D.str ("bar" : Str)] hv0 (by simpa using hv1)
  obtain ⟨kd, rfl⟩ : ∃ k : Kd, x = .str k.s := by
    simp only [List.mem_cons, List.not_mem_nil, or_false] at hm
    rcases hm with rfl | rfl | rfl | rfl | rfl | rfl
    · exact ⟨.bar, rfl⟩
    · exact ⟨.piston, rfl⟩
    · exact ⟨.cable, rfl⟩
    · exact ⟨.strut, rfl⟩
    · exact ⟨.cut, rfl⟩
    · exact ⟨.bar, rfl⟩
  simp only [hx, we_var, we_cn, we_cb, we_ci, we_cs, we_glob, we_tup, we_lst, we_newc, we_op, we_isN, we_notN, we_neg, we_nt, we_and, we_or, we_chain, we_ite, we_call, we_calll, we_b1, we_b2, we_isi, we_ix, we_sl, we_lc, we_lrng, we_olen, we_oix, we_inD, we_getD, we_calld, we_osl, we_rev, we_isB, we_cnew, we_clen, we_cpop, we_cnil, wl_nil, wl_cons, wr_it, wr_rng, wr_enum, wr_zip, ws_set, ws_own, ws_frz, ws_unp, ws_unp2, ws_par, ws_app, ws_oset, ws_cset, ws_ifs, ws_fors, ws_whil, ws_ret, ws_retn, ws_brk, ws_cnt, ws_pas, ws_expr, wb_nil, wb_cons, thn_nx, thn_rt, thn_bk, thn_ct, fin_nx, fin_rt, turn_nx, turn_ct, turn_bk, turn_rt, List.set_cons_zero, List.set_cons_succ, List.set_nil, List.getElem?_cons_zero, List.getElem?_cons_succ, Option.some.injEq, Sl.v.injEq, Sl.o.injEq, D.bl.injEq, D.int.injEq, D.str.injEq, D.tup.injEq, D.lst.injEq, D.cell.injEq, D.fn.injEq, exists_eq_left, exists_eq_left', exists_eq_right, List.length_cons, List.length_nil, Nat.reduceAdd, Nat.reduceSub, List.replicate_succ, List.replicate_zero, List.map_cons, List.map_nil, List.cons_append, List.nil_append, List.append_nil, true_and, and_true, false_and, and_false, forall_const, Bool.true_eq_false, Bool.false_eq_true, Bool.not_true, Bool.not_false, setMany, asg, Tg.slots, wipeE, optI, testOf, ne_eq, not_true_eq_false, not_false_eq_true, exists_const, reduceCtorEq, false_or, or_false, true_or, or_true, exists_false, Int.reduceLT, Int.reduceLE, Int.reduceNeg, Int.reduceAdd, Int.reduceSub, decide_true, decide_false, Bool.and_true, Bool.true_and, Bool.and_false, Bool.false_and, Bool.or_true, Bool.true_or, Bool.or_false, Bool.false_or, false_implies, true_implies, if_true, if_false, ite_true, ite_false, implies_true, envOf, op_add, op_addT, op_addL, op_sub, op_mul, op_fdiv, op_mod, op_lt, op_le, op_gt, op_ge, op_eqI, op_neI, op_eqS, op_neS, len_tup, len_lst, len_rol, abs_int, max2, min2, int_int, int_bl, nn_non, nn_int, nn_bl, nn_str, nn_tup, nn_lst, ix_tup, ix_lst, ix_rol, ix_cell, op_inS2, sl_tup, sl_lst, items_tup, items_lst, atI_0, atI_1, atI_2, cutD_1, cutD_from1, cutD_to, p10_6, p10_7, p10_8, p10_9, p10_10, p10_11, p10_12, sum_ints, all_bls, any_bls, eqb_ints, eqb_nilL, isin_ints, enum_lst, cmp_int, cmp_non, cmp_str, cmp_dInts, cmp_nilL, it_int_non, it_int_bl, it_int_int, it_int_str, it_int_tup, it_int_lst, it_int_rol, it_bool_non, it_bool_bl, it_bool_int, it_bool_str, it_bool_tup, it_bool_lst, it_bool_rol, it_str_non, it_str_bl, it_str_int, it_str_str, it_str_tup, it_str_lst, it_str_rol, it_tuple_non, it_tuple_bl, it_tuple_int, it_tuple_str, it_tuple_tup, it_tuple_lst, it_tuple_rol, it_list_non, it_list_bl, it_list_int, it_list_str, it_list_tup, it_list_lst, it_list_rol]
  refine (sp_far (by omega) hB1 hc (by omega) (by omega)).mono ?_
  rintro d S2 ⟨hB2, lo, rfl, h0, h1⟩
  simp only [we_var, we_cn, we_cb, we_ci, we_cs, we_glob, we_tup, we_lst, we_newc, we_op, we_isN, we_notN, we_neg, we_nt, we_and, we_or, we_chain, we_ite, we_call, we_calll, we_b1, we_b2, we_isi, we_ix, we_sl, we_lc, we_lrng, we_olen, we_oix, we_inD, we_getD, we_calld, we_osl, we_rev, we_isB, we_cnew, we_clen, we_cpop, we_cnil, wl_nil, wl_cons, wr_it, wr_rng, wr_enum, wr_zip, ws_set, ws_own, ws_frz, ws_unp, ws_unp2, ws_par, ws_app, ws_oset, ws_cset, ws_ifs, ws_fors, ws_whil, ws_ret, ws_retn, ws_brk, ws_cnt, ws_pas, ws_expr, wb_nil, wb_cons, thn_nx, thn_rt, thn_bk, thn_ct, fin_nx, fin_rt, turn_nx, turn_ct, turn_bk, turn_rt, List.set_cons_zero, List.set_cons_succ, List.set_nil, List.getElem?_cons_zero, List.getElem?_cons_succ, Option.some.injEq, Sl.v.injEq, Sl.o.injEq, D.bl.injEq, D.int.injEq, D.str.injEq, D.tup.injEq, D.lst.injEq, D.cell.injEq, D.fn.injEq, exists_eq_left, exists_eq_left', exists_eq_right, List.length_cons, List.length_nil, Nat.reduceAdd, Nat.reduceSub, List.replicate_succ, List.replicate_zero, List.map_cons, List.map_nil, List.cons_append, List.nil_append, List.append_nil, true_and, and_true, false_and, and_false, forall_const, Bool.true_eq_false, Bool.false_eq_true, Bool.not_true, Bool.not_false, setMany, asg, Tg.slots, wipeE, optI, testOf, ne_eq, not_true_eq_false, not_false_eq_true, exists_const, reduceCtorEq, false_or, or_false, true_or, or_true, exists_false, Int.reduceLT, Int.reduceLE, Int.reduceNeg, Int.reduceAdd, Int.reduceSub, decide_true, decide_false, Bool.and_true, Bool.true_and, Bool.and_false, Bool.false_and, Bool.or_true, Bool.true_or, Bool.or_false, Bool.false_or, false_implies, true_implies, if_true, if_false, ite_true, ite_false, implies_true, envOf, op_add, op_addT, op_addL, op_sub, op_mul, op_fdiv, op_mod, op_lt, op_le, op_gt, op_ge, op_eqI, op_neI, op_eqS, op_neS, len_tup, len_lst, len_rol, abs_int, max2, min2, int_int, int_bl, nn_non, nn_int, nn_bl, nn_str, nn_tup, nn_lst, ix_tup, ix_lst, ix_rol, ix_cell, op_inS2, sl_tup, sl_lst, items_tup, items_lst, atI_0, atI_1, atI_2, cutD_1, cutD_from1, cutD_to, p10_6, p10_7, p10_8, p10_9, p10_10, p10_11, p10_12, sum_ints, all_bls, any_bls, eqb_ints, eqb_nilL, isin_ints, enum_lst, cmp_int, cmp_non, cmp_str, cmp_dInts, cmp_nilL, it_int_non, it_int_bl, it_int_int, it_int_str, it_int_tup, it_int_lst, it_int_rol, it_bool_non, it_bool_bl, it_bool_int, it_bool_str, it_bool_tup, it_bool_lst, it_bool_rol, it_str_non, it_str_bl, it_str_int, it_str_str, it_str_tup, it_str_lst, it_str_rol, it_tuple_non, it_tuple_bl, it_tuple_int, it_tuple_str, it_tuple_tup, it_tuple_lst, it_tuple_rol, it_list_non, it_list_bl, it_list_int, it_list_str, it_list_tup, it_list_lst, it_list_rol]
  have et : (decide (("piston" : Str) = kd.s) || decide (("cut" : Str) = kd.s)) = kd.two := by
    exact two_eq kd
  rw [et]
  refine ⟨fun h => ?_, fun h => ?_⟩
  · refine (sp_far (by omega) hB2 hc (by omega) (by omega)).mono ?_
    rintro d S3 ⟨hB3, e, rfl, he0, he1⟩
    simp only [we_var, we_cn, we_cb, we_ci, we_cs, we_glob, we_tup, we_lst, we_newc, we_op, we_isN, we_notN, we_neg, we_nt, we_and, we_or, we_chain, we_ite, we_call, we_calll, we_b1, we_b2, we_isi, we_ix, we_sl, we_lc, we_lrng, we_olen, we_oix, we_inD, we_getD, we_calld, we_osl, we_rev, we_isB, we_cnew, we_clen, we_cpop, we_cnil, wl_nil, wl_cons, wr_it, wr_rng, wr_enum, wr_zip, ws_set, ws_own, ws_frz, ws_unp, ws_unp2, ws_par, ws_app, ws_oset, ws_cset, ws_ifs, ws_fors, ws_whil, ws_ret, ws_retn, ws_brk, ws_cnt, ws_pas, ws_expr, wb_nil, wb_cons, thn_nx, thn_rt, thn_bk, thn_ct, fin_nx, fin_rt, turn_nx, turn_ct, turn_bk, turn_rt, List.set_cons_zero, List.set_cons_succ, List.set_nil, List.getElem?_cons_zero, List.getElem?_cons_succ, Option.some.injEq, Sl.v.injEq, Sl.o.injEq, D.bl.injEq, D.int.injEq, D.str.injEq, D.tup.injEq, D.lst.injEq, D.cell.injEq, D.fn.injEq, exists_eq_left, exists_eq_left', exists_eq_right, List.length_cons, List.length_nil, Nat.reduceAdd, Nat.reduceSub, List.replicate_succ, List.replicate_zero, List.map_cons, List.map_nil, List.cons_append, List.nil_append, List.append_nil, true_and, and_true, false_and, and_false, forall_const, Bool.true_eq_false, Bool.false_eq_true, Bool.not_true, Bool.not_false, setMany, asg, Tg.slots, wipeE, optI, testOf, ne_eq, not_true_eq_false, not_false_eq_true, exists_const, reduceCtorEq, false_or, or_false, true_or, or_true, exists_false, Int.reduceLT, Int.reduceLE, Int.reduceNeg, Int.reduceAdd, Int.reduceSub, decide_true, decide_false, Bool.and_true, Bool.true_and, Bool.and_false, Bool.false_and, Bool.or_true, Bool.true_or, Bool.or_false, Bool.false_or, false_implies, true_implies, if_true, if_false, ite_true, ite_false, implies_true, envOf, op_add, op_addT, op_addL, op_sub, op_mul, op_fdiv, op_mod, op_lt, op_le, op_gt, op_ge, op_eqI, op_neI, op_eqS, op_neS, len_tup, len_lst, len_rol, abs_int, max2, min2, int_int, int_bl, nn_non, nn_int, nn_bl, nn_str, nn_tup, nn_lst, ix_tup, ix_lst, ix_rol, ix_cell, op_inS2, sl_tup, sl_lst, items_tup, items_lst, atI_0, atI_1, atI_2, cutD_1, cutD_from1, cutD_to, p10_6, p10_7, p10_8, p10_9, p10_10, p10_11, p10_12, sum_ints, all_bls, any_bls, eqb_ints, eqb_nilL, isin_ints, enum_lst, cmp_int, cmp_non, cmp_str, cmp_dInts, cmp_nilL, it_int_non, it_int_bl, it_int_int, it_int_str, it_int_tup, it_int_lst, it_int_rol, it_bool_non, it_bool_bl, it_bool_int, it_bool_str, it_bool_tup, it_bool_lst, it_bool_rol, it_str_non, it_str_bl, it_str_int, it_str_str, it_str_tup, it_str_lst, it_str_rol, it_tuple_non, it_tuple_bl, it_tuple_int, it_tuple_str, it_tuple_tup, it_tuple_lst, it_tuple_rol, it_list_non, it_list_bl, it_list_int, it_list_str, it_list_tup, it_list_lst, it_list_rol]
    exact ⟨hB3, ⟨kd, lo, lo + e⟩, by rw [Lk.d, if_pos h], ⟨h0, by show lo ≤ lo + e; omega, by show lo + e ≤ w; omega, fun h' => absurd h (by rw [show kd.two = false from h']; decide)⟩⟩
  · exact ⟨hB2, ⟨kd, lo, lo⟩, by rw [Lk.d, if_neg (by rw [show kd.two = false from h]; decide)], ⟨h0, Int.le_refl _, by show lo ≤ w; omega, fun _ => rfl⟩⟩
theorem Fr.lkss_app : ∀ {a b : List Fr}, (Fr.lkss (a ++ b)).length = (Fr.lkss a).length + (Fr.lkss b).length := by
  intro a b; simp only [Fr.lkss_eq, List.flatMap_append, List.length_append]
theorem sp_frame {w : Int} (hw : 0 ≤ w) (hw2 : w ≤ 1000000000) {L c : Nat} (hc : c < L) : ∀ (k : Nat) {n : Nat} {S : Store} {m dp : Int}, k + 4 ≤ n → dp ≤ (k : Int) → 1 ≤ m → m ≤ 1000 → Bgs L S →
    WC (ec gv pr n) F._law_frame [.cell c, .int m, .int dp, .int w] S fun d S' => Bgs L S' ∧ ∃ f : Fr, d = f.d ∧ f.ok w ∧ (f.dep : Int) ≤ max 1 dp ∧ (f.lks.length : Int) ≤ m
  | k, n, S, m, dp, hn, hk, hm, hm2, hB => by
    have leaf : ∀ S1, Bgs L S1 → WC (ec gv pr (n - 1)) F._law_link [.cell c, .int w] S1 fun d S' => Bgs L S' ∧ ∃ f : Fr, d = f.d ∧ f.ok w ∧ (f.dep : Int) ≤ max 1 dp ∧ (f.lks.length : Int) ≤ m := fun S1 hB1 => by
      refine (sp_link (by omega) hB1 hc hw hw2).mono ?_
      rintro d S2 ⟨hB2, l, rfl, hl⟩
      exact ⟨hB2, .leaf l, rfl, hl, by simp only [Fr.dep]; omega, by simp [Fr.lks]; omega⟩
    rw [wc_def' (by omega) pr__law_frame rfl]
    simp only [fd__law_frame, we_var, we_cn, we_cb, we_ci, we_cs, we_glob, we_tup, we_lst, we_newc, we_op, we_isN, we_notN, we_neg, we_nt, we_and, we_or, we_chain, we_ite, we_call, we_calll, we_b1, we_b2, we_isi, we_ix, we_sl, we_lc, we_lrng, we_olen, we_oix, we_inD, we_getD, we_calld, we_osl, we_rev, we_isB, we_cnew, we_clen, we_cpop, we_cnil, wl_nil, wl_cons, wr_it, wr_rng, wr_enum, wr_zip, ws_set, ws_own, ws_frz, ws_unp, ws_unp2, ws_par, ws_app, ws_oset, ws_cset, ws_ifs, ws_fors, ws_whil, ws_ret, ws_retn, ws_brk, ws_cnt, ws_pas, ws_expr, wb_nil, wb_cons, thn_nx, thn_rt, thn_bk, thn_ct, fin_nx, fin_rt, turn_nx, turn_ct, turn_bk, turn_rt, List.set_cons_zero, List.set_cons_succ, List.set_nil, List.getElem?_cons_zero, List.getElem?_cons_succ, Option.some.injEq, Sl.v.injEq, Sl.o.injEq, D.bl.injEq, D.int.injEq, D.str.injEq, D.tup.injEq, D.lst.injEq, D.cell.injEq, D.fn.injEq, exists_eq_left, exists_eq_left', exists_eq_right, List.length_cons, List.length_nil, Nat.reduceAdd, Nat.reduceSub, List.replicate_succ, List.replicate_zero, List.map_cons, List.map_nil, List.cons_append, List.nil_append, List.append_nil, true_and, and_true, false_and, and_false, forall_const, Bool.true_eq_false, Bool.false_eq_true, Bool.not_true, Bool.not_false, setMany, asg, Tg.slots, wipeE, optI, testOf, ne_eq, not_true_eq_false, not_false_eq_true, exists_const, reduceCtorEq, false_or, or_false, true_or, or_true, exists_false, Int.reduceLT, Int.reduceLE, Int.reduceNeg, Int.reduceAdd, Int.reduceSub, decide_true, decide_false, Bool.and_true, Bool.true_and, Bool.and_false, Bool.false_and, Bool.or_true, Bool.true_or, Bool.or_false, Bool.false_or, false_implies, true_implies, if_true, if_false, ite_true, ite_false, implies_true, envOf, op_add, op_addT, op_addL, op_sub, op_mul, op_fdiv, op_mod, op_lt, op_le, op_gt, op_ge, op_eqI, op_neI, op_eqS, op_neS, len_tup, len_lst, len_rol, abs_int, max2, min2, int_int, int_bl, nn_non, nn_int, nn_bl, nn_str, nn_tup, nn_lst, ix_tup, ix_lst, ix_rol, ix_cell, op_inS2, sl_tup, sl_lst, items_tup, items_lst, atI_0, atI_1, atI_2, cutD_1, cutD_from1, cutD_to, p10_6, p10_7, p10_8, p10_9, p10_10, p10_11, p10_12, sum_ints, all_bls, any_bls, eqb_ints, eqb_nilL, isin_ints, enum_lst, cmp_int, cmp_non, cmp_str, cmp_dInts, cmp_nilL, it_int_non, it_int_bl, it_int_int, it_int_str, it_int_tup, it_int_lst, it_int_rol, it_bool_non, it_bool_bl, it_bool_int, it_bool_str, it_bool_tup, it_bool_lst, it_bool_rol, it_str_non, it_str_bl, it_str_int, it_str_str, it_str_tup, it_str_lst, it_str_rol, it_tuple_non, it_tuple_bl, it_tuple_int, it_tuple_str, it_tuple_tup, it_tuple_lst, it_tuple_rol, it_list_non, it_list_bl, it_list_int, it_list_str, it_list_tup, it_list_lst, it_list_rol]
    refine ⟨fun h1 => ⟨fun h2 => ?_, fun _ => leaf _ hB⟩, fun _ => leaf _ hB⟩
    have h1 := of_decide_eq_false h1
    have h2 := of_decide_eq_false h2
    refine (sp_take (by omega) hB hc (by decide)).mono ?_
    rintro d S1 ⟨hB1, v, rfl, hv0, hv1⟩
    simp only [we_var, we_cn, we_cb, we_ci, we_cs, we_glob, we_tup, we_lst, we_newc, we_op, we_isN, we_notN, we_neg, we_nt, we_and, we_or, we_chain, we_ite, we_call, we_calll, we_b1, we_b2, we_isi, we_ix, we_sl, we_lc, we_lrng, we_olen, we_oix, we_inD, we_getD, we_calld, we_osl, we_rev, we_isB, we_cnew, we_clen, we_cpop, we_cnil, wl_nil, wl_cons, wr_it, wr_rng, wr_enum, wr_zip, ws_set, ws_own, ws_frz, ws_unp, ws_unp2, ws_par, ws_app, ws_oset, ws_cset, ws_ifs, ws_fors, ws_whil, ws_ret, ws_retn, ws_brk, ws_cnt, ws_pas, ws_expr, wb_nil, wb_cons, thn_nx, thn_rt, thn_bk, thn_ct, fin_nx, fin_rt, turn_nx, turn_ct, turn_bk, turn_rt, List.set_cons_zero, List.set_cons_succ, List.set_nil, List.getElem?_cons_zero, List.getElem?_cons_succ, Option.some.injEq, Sl.v.injEq, Sl.o.injEq, D.bl.injEq, D.int.injEq, D.str.injEq, D.tup.injEq, D.lst.injEq, D.cell.injEq, D.fn.injEq, exists_eq_left, exists_eq_left', exists_eq_right, List.length_cons, List.length_nil, Nat.reduceAdd, Nat.reduceSub, List.replicate_succ, List.replicate_zero, List.map_cons, List.map_nil, List.cons_append, List.nil_append, List.append_nil, true_and, and_true, false_and, and_false, forall_const, Bool.true_eq_false, Bool.false_eq_true, Bool.not_true, Bool.not_false, setMany, asg, Tg.slots, wipeE, optI, testOf, ne_eq, not_true_eq_false, not_false_eq_true, exists_const, reduceCtorEq, false_or, or_false, true_or, or_true, exists_false, Int.reduceLT, Int.reduceLE, Int.reduceNeg, Int.reduceAdd, Int.reduceSub, decide_true, decide_false, Bool.and_true, Bool.true_and, Bool.and_false, Bool.false_and, Bool.or_true, Bool.true_or, Bool.or_false, Bool.false_or, false_implies, true_implies, if_true, if_false, ite_true, ite_false, implies_true, envOf, op_add, op_addT, op_addL, op_sub, op_mul, op_fdiv, op_mod, op_lt, op_le, op_gt, op_ge, op_eqI, op_neI, op_eqS, op_neS, len_tup, len_lst, len_rol, abs_int, max2, min2, int_int, int_bl, nn_non, nn_int, nn_bl, nn_str, nn_tup, nn_lst, ix_tup, ix_lst, ix_rol, ix_cell, op_inS2, sl_tup, sl_lst, items_tup, items_lst, atI_0, atI_1, atI_2, cutD_1, cutD_from1, cutD_to, p10_6, p10_7, p10_8, p10_9, p10_10, p10_11, p10_12, sum_ints, all_bls, any_bls, eqb_ints, eqb_nilL, isin_ints, enum_lst, cmp_int, cmp_non, cmp_str, cmp_dInts, cmp_nilL, it_int_non, it_int_bl, it_int_int, it_int_str, it_int_tup, it_int_lst, it_int_rol, it_bool_non, it_bool_bl, it_bool_int, it_bool_str, it_bool_tup, it_bool_lst, it_bool_rol, it_str_non, it_str_bl, it_str_int, it_str_str, it_str_tup, it_str_lst, it_str_rol, it_tuple_non, it_tuple_bl, it_tuple_int, it_tuple_str, it_tuple_tup, it_tuple_lst, it_tuple_rol, it_list_non, it_list_bl, it_list_int, it_list_str, it_list_tup, it_list_lst, it_list_rol]
    refine ⟨fun _ => leaf _ hB1, fun _ => ?_⟩
    refine (sp_take (by omega) hB1 hc (by omega)).mono ?_
    rintro d S2 ⟨hB2, t, rfl, ht0, ht1⟩
    simp only [we_var, we_cn, we_cb, we_ci, we_cs, we_glob, we_tup, we_lst, we_newc, we_op, we_isN, we_notN, we_neg, we_nt, we_and, we_or, we_chain, we_ite, we_call, we_calll, we_b1, we_b2, we_isi, we_ix, we_sl, we_lc, we_lrng, we_olen, we_oix, we_inD, we_getD, we_calld, we_osl, we_rev, we_isB, we_cnew, we_clen, we_cpop, we_cnil, wl_nil, wl_cons, wr_it, wr_rng, wr_enum, wr_zip, ws_set, ws_own, ws_frz, ws_unp, ws_unp2, ws_par, ws_app, ws_oset, ws_cset, ws_ifs, ws_fors, ws_whil, ws_ret, ws_retn, ws_brk, ws_cnt, ws_pas, ws_expr, wb_nil, wb_cons, thn_nx, thn_rt, thn_bk, thn_ct, fin_nx, fin_rt, turn_nx, turn_ct, turn_bk, turn_rt, List.set_cons_zero, List.set_cons_succ, List.set_nil, List.getElem?_cons_zero, List.getElem?_cons_succ, Option.some.injEq, Sl.v.injEq, Sl.o.injEq, D.bl.injEq, D.int.injEq, D.str.injEq, D.tup.injEq, D.lst.injEq, D.cell.injEq, D.fn.injEq, exists_eq_left, exists_eq_left', exists_eq_right, List.length_cons, List.length_nil, Nat.reduceAdd, Nat.reduceSub, List.replicate_succ, List.replicate_zero, List.map_cons, List.map_nil, List.cons_append, List.nil_append, List.append_nil, true_and, and_true, false_and, and_false, forall_const, Bool.true_eq_false, Bool.false_eq_true, Bool.not_true, Bool.not_false, setMany, asg, Tg.slots, wipeE, optI, testOf, ne_eq, not_true_eq_false, not_false_eq_true, exists_const, reduceCtorEq, false_or, or_false, true_or, or_true, exists_false, Int.reduceLT, Int.reduceLE, Int.reduceNeg, Int.reduceAdd, Int.reduceSub, decide_true, decide_false, Bool.and_true, Bool.true_and, Bool.and_false, Bool.false_and, Bool.or_true, Bool.true_or, Bool.or_false, Bool.false_or, false_implies, true_implies, if_true, if_false, ite_true, ite_false, implies_true, envOf, op_add, op_addT, op_addL, op_sub, op_mul, op_fdiv, op_mod, op_lt, op_le, op_gt, op_ge, op_eqI, op_neI, op_eqS, op_neS, len_tup, len_lst, len_rol, abs_int, max2, min2, int_int, int_bl, nn_non, nn_int, nn_bl, nn_str, nn_tup, nn_lst, ix_tup, ix_lst, ix_rol, ix_cell, op_inS2, sl_tup, sl_lst, items_tup, items_lst, atI_0, atI_1, atI_2, cutD_1, cutD_from1, cutD_to, p10_6, p10_7, p10_8, p10_9, p10_10, p10_11, p10_12, sum_ints, all_bls, any_bls, eqb_ints, eqb_nilL, isin_ints, enum_lst, cmp_int, cmp_non, cmp_str, cmp_dInts, cmp_nilL, it_int_non, it_int_bl, it_int_int, it_int_str, it_int_tup, it_int_lst, it_int_rol, it_bool_non, it_bool_bl, it_bool_int, it_bool_str, it_bool_tup, it_bool_lst, it_bool_rol, it_str_non, it_str_bl, it_str_int, it_str_str, it_str_tup, it_str_lst, it_str_rol, it_tuple_non, it_tuple_bl, it_tuple_int, it_tuple_str, it_tuple_tup, it_tuple_lst, it_tuple_rol, it_list_non, it_list_bl, it_list_int, it_list_str, it_list_tup, it_list_lst, it_list_rol]
    refine (sp_take (by omega) hB2 hc (by decide)).mono ?_
    rintro d S3 ⟨hB3, r, rfl, hr0, hr1⟩
    simp only [we_var, we_cn, we_cb, we_ci, we_cs, we_glob, we_tup, we_lst, we_newc, we_op, we_isN, we_notN, we_neg, we_nt, we_and, we_or, we_chain, we_ite, we_call, we_calll, we_b1, we_b2, we_isi, we_ix, we_sl, we_lc, we_lrng, we_olen, we_oix, we_inD, we_getD, we_calld, we_osl, we_rev, we_isB, we_cnew, we_clen, we_cpop, we_cnil, wl_nil, wl_cons, wr_it, wr_rng, wr_enum, wr_zip, ws_set, ws_own, ws_frz, ws_unp, ws_unp2, ws_par, ws_app, ws_oset, ws_cset, ws_ifs, ws_fors, ws_whil, ws_ret, ws_retn, ws_brk, ws_cnt, ws_pas, ws_expr, wb_nil, wb_cons, thn_nx, thn_rt, thn_bk, thn_ct, fin_nx, fin_rt, turn_nx, turn_ct, turn_bk, turn_rt, List.set_cons_zero, List.set_cons_succ, List.set_nil, List.getElem?_cons_zero, List.getElem?_cons_succ, Option.some.injEq, Sl.v.injEq, Sl.o.injEq, D.bl.injEq, D.int.injEq, D.str.injEq, D.tup.injEq, D.lst.injEq, D.cell.injEq, D.fn.injEq, exists_eq_left, exists_eq_left', exists_eq_right, List.length_cons, List.length_nil, Nat.reduceAdd, Nat.reduceSub, List.replicate_succ, List.replicate_zero, List.map_cons, List.map_nil, List.cons_append, List.nil_append, List.append_nil, true_and, and_true, false_and, and_false, forall_const, Bool.true_eq_false, Bool.false_eq_true, Bool.not_true, Bool.not_false, setMany, asg, Tg.slots, wipeE, optI, testOf, ne_eq, not_true_eq_false, not_false_eq_true, exists_const, reduceCtorEq, false_or, or_false, true_or, or_true, exists_false, Int.reduceLT, Int.reduceLE, Int.reduceNeg, Int.reduceAdd, Int.reduceSub, decide_true, decide_false, Bool.and_true, Bool.true_and, Bool.and_false, Bool.false_and, Bool.or_true, Bool.true_or, Bool.or_false, Bool.false_or, false_implies, true_implies, if_true, if_false, ite_true, ite_false, implies_true, envOf, op_add, op_addT, op_addL, op_sub, op_mul, op_fdiv, op_mod, op_lt, op_le, op_gt, op_ge, op_eqI, op_neI, op_eqS, op_neS, len_tup, len_lst, len_rol, abs_int, max2, min2, int_int, int_bl, nn_non, nn_int, nn_bl, nn_str, nn_tup, nn_lst, ix_tup, ix_lst, ix_rol, ix_cell, op_inS2, sl_tup, sl_lst, items_tup, items_lst, atI_0, atI_1, atI_2, cutD_1, cutD_from1, cutD_to, p10_6, p10_7, p10_8, p10_9, p10_10, p10_11, p10_12, sum_ints, all_bls, any_bls, eqb_ints, eqb_nilL, isin_ints, enum_lst, cmp_int, cmp_non, cmp_str, cmp_dInts, cmp_nilL, it_int_non, it_int_bl, it_int_int, it_int_str, it_int_tup, it_int_lst, it_int_rol, it_bool_non, it_bool_bl, it_bool_int, it_bool_str, it_bool_tup, it_bool_lst, it_bool_rol, it_str_non, it_str_bl, it_str_int, it_str_str, it_str_tup, it_str_lst, it_str_rol, it_tuple_non, it_tuple_bl, it_tuple_int, it_tuple_str, it_tuple_tup, it_tuple_lst, it_tuple_rol, it_list_non, it_list_bl, it_list_int, it_list_str, it_list_tup, it_list_lst, it_list_rol]
    obtain ⟨x, hx, hmx⟩ := at_lt [D.str ("row" : Str), D.str ("side" : Str)] hr0 (by simpa using hr1)
    obtain ⟨rw', rfl⟩ : ∃ b : Bool, x = .str (jw b) := by
      simp only [List.mem_cons, List.not_mem_nil, or_false] at hmx
      rcases hmx with rfl | rfl
      · exact ⟨true, rfl⟩
      · exact ⟨false, rfl⟩
    simp only [hx, we_var, we_cn, we_cb, we_ci, we_cs, we_glob, we_tup, we_lst, we_newc, we_op, we_isN, we_notN, we_neg, we_nt, we_and, we_or, we_chain, we_ite, we_call, we_calll, we_b1, we_b2, we_isi, we_ix, we_sl, we_lc, we_lrng, we_olen, we_oix, we_inD, we_getD, we_calld, we_osl, we_rev, we_isB, we_cnew, we_clen, we_cpop, we_cnil, wl_nil, wl_cons, wr_it, wr_rng, wr_enum, wr_zip, ws_set, ws_own, ws_frz, ws_unp, ws_unp2, ws_par, ws_app, ws_oset, ws_cset, ws_ifs, ws_fors, ws_whil, ws_ret, ws_retn, ws_brk, ws_cnt, ws_pas, ws_expr, wb_nil, wb_cons, thn_nx, thn_rt, thn_bk, thn_ct, fin_nx, fin_rt, turn_nx, turn_ct, turn_bk, turn_rt, List.set_cons_zero, List.set_cons_succ, List.set_nil, List.getElem?_cons_zero, List.getElem?_cons_succ, Option.some.injEq, Sl.v.injEq, Sl.o.injEq, D.bl.injEq, D.int.injEq, D.str.injEq, D.tup.injEq, D.lst.injEq, D.cell.injEq, D.fn.injEq, exists_eq_left, exists_eq_left', exists_eq_right, List.length_cons, List.length_nil, Nat.reduceAdd, Nat.reduceSub, List.replicate_succ, List.replicate_zero, List.map_cons, List.map_nil, List.cons_append, List.nil_append, List.append_nil, true_and, and_true, false_and, and_false, forall_const, Bool.true_eq_false, Bool.false_eq_true, Bool.not_true, Bool.not_false, setMany, asg, Tg.slots, wipeE, optI, testOf, ne_eq, not_true_eq_false, not_false_eq_true, exists_const, reduceCtorEq, false_or, or_false, true_or, or_true, exists_false, Int.reduceLT, Int.reduceLE, Int.reduceNeg, Int.reduceAdd, Int.reduceSub, decide_true, decide_false, Bool.and_true, Bool.true_and, Bool.and_false, Bool.false_and, Bool.or_true, Bool.true_or, Bool.or_false, Bool.false_or, false_implies, true_implies, if_true, if_false, ite_true, ite_false, implies_true, envOf, op_add, op_addT, op_addL, op_sub, op_mul, op_fdiv, op_mod, op_lt, op_le, op_gt, op_ge, op_eqI, op_neI, op_eqS, op_neS, len_tup, len_lst, len_rol, abs_int, max2, min2, int_int, int_bl, nn_non, nn_int, nn_bl, nn_str, nn_tup, nn_lst, ix_tup, ix_lst, ix_rol, ix_cell, op_inS2, sl_tup, sl_lst, items_tup, items_lst, atI_0, atI_1, atI_2, cutD_1, cutD_from1, cutD_to, p10_6, p10_7, p10_8, p10_9, p10_10, p10_11, p10_12, sum_ints, all_bls, any_bls, eqb_ints, eqb_nilL, isin_ints, enum_lst, cmp_int, cmp_non, cmp_str, cmp_dInts, cmp_nilL, it_int_non, it_int_bl, it_int_int, it_int_str, it_int_tup, it_int_lst, it_int_rol, it_bool_non, it_bool_bl, it_bool_int, it_bool_str, it_bool_tup, it_bool_lst, it_bool_rol, it_str_non, it_str_bl, it_str_int, it_str_str, it_str_tup, it_str_lst, it_str_rol, it_tuple_non, it_tuple_bl, it_tuple_int, it_tuple_str, it_tuple_tup, it_tuple_lst, it_tuple_rol, it_list_non, it_list_bl, it_list_int, it_list_str, it_list_tup, it_list_lst, it_list_rol]
    rw [range_1 (by omega) (by omega)]
    simp only [we_var, we_cn, we_cb, we_ci, we_cs, we_glob, we_tup, we_lst, we_newc, we_op, we_isN, we_notN, we_neg, we_nt, we_and, we_or, we_chain, we_ite, we_call, we_calll, we_b1, we_b2, we_isi, we_ix, we_sl, we_lc, we_lrng, we_olen, we_oix, we_inD, we_getD, we_calld, we_osl, we_rev, we_isB, we_cnew, we_clen, we_cpop, we_cnil, wl_nil, wl_cons, wr_it, wr_rng, wr_enum, wr_zip, ws_set, ws_own, ws_frz, ws_unp, ws_unp2, ws_par, ws_app, ws_oset, ws_cset, ws_ifs, ws_fors, ws_whil, ws_ret, ws_retn, ws_brk, ws_cnt, ws_pas, ws_expr, wb_nil, wb_cons, thn_nx, thn_rt, thn_bk, thn_ct, fin_nx, fin_rt, turn_nx, turn_ct, turn_bk, turn_rt, List.set_cons_zero, List.set_cons_succ, List.set_nil, List.getElem?_cons_zero, List.getElem?_cons_succ, Option.some.injEq, Sl.v.injEq, Sl.o.injEq, D.bl.injEq, D.int.injEq, D.str.injEq, D.tup.injEq, D.lst.injEq, D.cell.injEq, D.fn.injEq, exists_eq_left, exists_eq_left', exists_eq_right, List.length_cons, List.length_nil, Nat.reduceAdd, Nat.reduceSub, List.replicate_succ, List.replicate_zero, List.map_cons, List.map_nil, List.cons_append, List.nil_append, List.append_nil, true_and, and_true, false_and, and_false, forall_const, Bool.true_eq_false, Bool.false_eq_true, Bool.not_true, Bool.not_false, setMany, asg, Tg.slots, wipeE, optI, testOf, ne_eq, not_true_eq_false, not_false_eq_true, exists_const, reduceCtorEq, false_or, or_false, true_or, or_true, exists_false, Int.reduceLT, Int.reduceLE, Int.reduceNeg, Int.reduceAdd, Int.reduceSub, decide_true, decide_false, Bool.and_true, Bool.true_and, Bool.and_false, Bool.false_and, Bool.or_true, Bool.true_or, Bool.or_false, Bool.false_or, false_implies, true_implies, if_true, if_false, ite_true, ite_false, implies_true, envOf, op_add, op_addT, op_addL, op_sub, op_mul, op_fdiv, op_mod, op_lt, op_le, op_gt, op_ge, op_eqI, op_neI, op_eqS, op_neS, len_tup, len_lst, len_rol, abs_int, max2, min2, int_int, int_bl, nn_non, nn_int, nn_bl, nn_str, nn_tup, nn_lst, ix_tup, ix_lst, ix_rol, ix_cell, op_inS2, sl_tup, sl_lst, items_tup, items_lst, atI_0, atI_1, atI_2, cutD_1, cutD_from1, cutD_to, p10_6, p10_7, p10_8, p10_9, p10_10, p10_11, p10_12, sum_ints, all_bls, any_bls, eqb_ints, eqb_nilL, isin_ints, enum_lst, cmp_int, cmp_non, cmp_str, cmp_dInts, cmp_nilL, it_int_non, it_int_bl, it_int_int, it_int_str, it_int_tup, it_int_lst, it_int_rol, it_bool_non, it_bool_bl, it_bool_int, it_bool_str, it_bool_tup, it_bool_lst, it_bool_rol, it_str_non, it_str_bl, it_str_int, it_str_str, it_str_tup, it_str_lst, it_str_rol, it_tuple_non, it_tuple_bl, it_tuple_int, it_tuple_str, it_tuple_tup, it_tuple_lst, it_tuple_rol, it_list_non, it_list_bl, it_list_int, it_list_str, it_list_tup, it_list_lst, it_list_rol]
    have hcnt : (2 + t).toNat ≤ 6 ∧ 2 ≤ (2 + t).toNat ∧ ((2 + t).toNat : Int) = 2 + t := by omega
    have hdv : 1 ≤ m / (2 + t) := by rw [Int.le_ediv_iff_mul_le (by omega)]; omega
    have hdm : m / (2 + t) ≤ m := Int.ediv_le_self _ (by omega)
    have hk2 : 1 ≤ k := by omega
    have hmul : (2 + t) * (m / (2 + t)) ≤ m := Int.mul_ediv_self_le (by omega)
    refine wf_range _ _ (fun j δ S => Bgs L S ∧ ∃ (ps : List Fr) (x6 : Sl), δ = [.v (.cell c), .v (.int m), .v (.int dp), .v (.int w), .v (.int (2 + t)), .v (.tup (.str (jw rw') :: ps.map Fr.d)), x6] ∧ ps.length = j ∧ (∀ p, p ∈ ps → p.ok w ∧ (p.dep : Int) ≤ max 1 (dp - 1)) ∧ ((Fr.lkss ps).length : Int) ≤ (j : Int) * (m / (2 + t))) ⟨hB3, [], _, rfl, rfl, by simp, by simp [Fr.lkss]⟩ ?_ ?_
    · rintro j hj δ S4 ⟨hB4, ps, x6, rfl, hl, hp, hs⟩
      refine ⟨_, rfl, ?_⟩
      simp only [we_var, we_cn, we_cb, we_ci, we_cs, we_glob, we_tup, we_lst, we_newc, we_op, we_isN, we_notN, we_neg, we_nt, we_and, we_or, we_chain, we_ite, we_call, we_calll, we_b1, we_b2, we_isi, we_ix, we_sl, we_lc, we_lrng, we_olen, we_oix, we_inD, we_getD, we_calld, we_osl, we_rev, we_isB, we_cnew, we_clen, we_cpop, we_cnil, wl_nil, wl_cons, wr_it, wr_rng, wr_enum, wr_zip, ws_set, ws_own, ws_frz, ws_unp, ws_unp2, ws_par, ws_app, ws_oset, ws_cset, ws_ifs, ws_fors, ws_whil, ws_ret, ws_retn, ws_brk, ws_cnt, ws_pas, ws_expr, wb_nil, wb_cons, thn_nx, thn_rt, thn_bk, thn_ct, fin_nx, fin_rt, turn_nx, turn_ct, turn_bk, turn_rt, List.set_cons_zero, List.set_cons_succ, List.set_nil, List.getElem?_cons_zero, List.getElem?_cons_succ, Option.some.injEq, Sl.v.injEq, Sl.o.injEq, D.bl.injEq, D.int.injEq, D.str.injEq, D.tup.injEq, D.lst.injEq, D.cell.injEq, D.fn.injEq, exists_eq_left, exists_eq_left', exists_eq_right, List.length_cons, List.length_nil, Nat.reduceAdd, Nat.reduceSub, List.replicate_succ, List.replicate_zero, List.map_cons, List.map_nil, List.cons_append, List.nil_append, List.append_nil, true_and, and_true, false_and, and_false, forall_const, Bool.true_eq_false, Bool.false_eq_true, Bool.not_true, Bool.not_false, setMany, asg, Tg.slots, wipeE, optI, testOf, ne_eq, not_true_eq_false, not_false_eq_true, exists_const, reduceCtorEq, false_or, or_false, true_or, or_true, exists_false, Int.reduceLT, Int.reduceLE, Int.reduceNeg, Int.reduceAdd, Int.reduceSub, decide_true, decide_false, Bool.and_true, Bool.true_and, Bool.and_false, Bool.false_and, Bool.or_true, Bool.true_or, Bool.or_false, Bool.false_or, false_implies, true_implies, if_true, if_false, ite_true, ite_false, implies_true, envOf, op_add, op_addT, op_addL, op_sub, op_mul, op_fdiv, op_mod, op_lt, op_le, op_gt, op_ge, op_eqI, op_neI, op_eqS, op_neS, len_tup, len_lst, len_rol, abs_int, max2, min2, int_int, int_bl, nn_non, nn_int, nn_bl, nn_str, nn_tup, nn_lst, ix_tup, ix_lst, ix_rol, ix_cell, op_inS2, sl_tup, sl_lst, items_tup, items_lst, atI_0, atI_1, atI_2, cutD_1, cutD_from1, cutD_to, p10_6, p10_7, p10_8, p10_9, p10_10, p10_11, p10_12, sum_ints, all_bls, any_bls, eqb_ints, eqb_nilL, isin_ints, enum_lst, cmp_int, cmp_non, cmp_str, cmp_dInts, cmp_nilL, it_int_non, it_int_bl, it_int_int, it_int_str, it_int_tup, it_int_lst, it_int_rol, it_bool_non, it_bool_bl, it_bool_int, it_bool_str, it_bool_tup, it_bool_lst, it_bool_rol, it_str_non, it_str_bl, it_str_int, it_str_str, it_str_tup, it_str_lst, it_str_rol, it_tuple_non, it_tuple_bl, it_tuple_int, it_tuple_str, it_tuple_tup, it_tuple_lst, it_tuple_rol, it_list_non, it_list_bl, it_list_int, it_list_str, it_list_tup, it_list_lst, it_list_rol]
      rw [decide_eq_true (by omega : 0 < 2 + t), decide_eq_true (by omega : 2 + t < 1073741824)]
      simp only [we_var, we_cn, we_cb, we_ci, we_cs, we_glob, we_tup, we_lst, we_newc, we_op, we_isN, we_notN, we_neg, we_nt, we_and, we_or, we_chain, we_ite, we_call, we_calll, we_b1, we_b2, we_isi, we_ix, we_sl, we_lc, we_lrng, we_olen, we_oix, we_inD, we_getD, we_calld, we_osl, we_rev, we_isB, we_cnew, we_clen, we_cpop, we_cnil, wl_nil, wl_cons, wr_it, wr_rng, wr_enum, wr_zip, ws_set, ws_own, ws_frz, ws_unp, ws_unp2, ws_par, ws_app, ws_oset, ws_cset, ws_ifs, ws_fors, ws_whil, ws_ret, ws_retn, ws_brk, ws_cnt, ws_pas, ws_expr, wb_nil, wb_cons, thn_nx, thn_rt, thn_bk, thn_ct, fin_nx, fin_rt, turn_nx, turn_ct, turn_bk, turn_rt, List.set_cons_zero, List.set_cons_succ, List.set_nil, List.getElem?_cons_zero, List.getElem?_cons_succ, Option.some.injEq, Sl.v.injEq, Sl.o.injEq, D.bl.injEq, D.int.injEq, D.str.injEq, D.tup.injEq, D.lst.injEq, D.cell.injEq, D.fn.injEq, exists_eq_left, exists_eq_left', exists_eq_right, List.length_cons, List.length_nil, Nat.reduceAdd, Nat.reduceSub, List.replicate_succ, List.replicate_zero, List.map_cons, List.map_nil, List.cons_append, List.nil_append, List.append_nil, true_and, and_true, false_and, and_false, forall_const, Bool.true_eq_false, Bool.false_eq_true, Bool.not_true, Bool.not_false, setMany, asg, Tg.slots, wipeE, optI, testOf, ne_eq, not_true_eq_false, not_false_eq_true, exists_const, reduceCtorEq, false_or, or_false, true_or, or_true, exists_false, Int.reduceLT, Int.reduceLE, Int.reduceNeg, Int.reduceAdd, Int.reduceSub, decide_true, decide_false, Bool.and_true, Bool.true_and, Bool.and_false, Bool.false_and, Bool.or_true, Bool.true_or, Bool.or_false, Bool.false_or, false_implies, true_implies, if_true, if_false, ite_true, ite_false, implies_true, envOf, op_add, op_addT, op_addL, op_sub, op_mul, op_fdiv, op_mod, op_lt, op_le, op_gt, op_ge, op_eqI, op_neI, op_eqS, op_neS, len_tup, len_lst, len_rol, abs_int, max2, min2, int_int, int_bl, nn_non, nn_int, nn_bl, nn_str, nn_tup, nn_lst, ix_tup, ix_lst, ix_rol, ix_cell, op_inS2, sl_tup, sl_lst, items_tup, items_lst, atI_0, atI_1, atI_2, cutD_1, cutD_from1, cutD_to, p10_6, p10_7, p10_8, p10_9, p10_10, p10_11, p10_12, sum_ints, all_bls, any_bls, eqb_ints, eqb_nilL, isin_ints, enum_lst, cmp_int, cmp_non, cmp_str, cmp_dInts, cmp_nilL, it_int_non, it_int_bl, it_int_int, it_int_str, it_int_tup, it_int_lst, it_int_rol, it_bool_non, it_bool_bl, it_bool_int, it_bool_str, it_bool_tup, it_bool_lst, it_bool_rol, it_str_non, it_str_bl, it_str_int, it_str_str, it_str_tup, it_str_lst, it_str_rol, it_tuple_non, it_tuple_bl, it_tuple_int, it_tuple_str, it_tuple_tup, it_tuple_lst, it_tuple_rol, it_list_non, it_list_bl, it_list_int, it_list_str, it_list_tup, it_list_lst, it_list_rol]
      refine (sp_frame hw hw2 hc (k - 1) (n := n - 1) (m := m / (2 + t)) (dp := dp - 1) (by omega) (by omega) hdv (by omega) hB4).mono ?_
      rintro d S5 ⟨hB5, f, rfl, f1, f2, f3⟩
      simp only [we_var, we_cn, we_cb, we_ci, we_cs, we_glob, we_tup, we_lst, we_newc, we_op, we_isN, we_notN, we_neg, we_nt, we_and, we_or, we_chain, we_ite, we_call, we_calll, we_b1, we_b2, we_isi, we_ix, we_sl, we_lc, we_lrng, we_olen, we_oix, we_inD, we_getD, we_calld, we_osl, we_rev, we_isB, we_cnew, we_clen, we_cpop, we_cnil, wl_nil, wl_cons, wr_it, wr_rng, wr_enum, wr_zip, ws_set, ws_own, ws_frz, ws_unp, ws_unp2, ws_par, ws_app, ws_oset, ws_cset, ws_ifs, ws_fors, ws_whil, ws_ret, ws_retn, ws_brk, ws_cnt, ws_pas, ws_expr, wb_nil, wb_cons, thn_nx, thn_rt, thn_bk, thn_ct, fin_nx, fin_rt, turn_nx, turn_ct, turn_bk, turn_rt, List.set_cons_zero, List.set_cons_succ, List.set_nil, List.getElem?_cons_zero, List.getElem?_cons_succ, Option.some.injEq, Sl.v.injEq, Sl.o.injEq, D.bl.injEq, D.int.injEq, D.str.injEq, D.tup.injEq, D.lst.injEq, D.cell.injEq, D.fn.injEq, exists_eq_left, exists_eq_left', exists_eq_right, List.length_cons, List.length_nil, Nat.reduceAdd, Nat.reduceSub, List.replicate_succ, List.replicate_zero, List.map_cons, List.map_nil, List.cons_append, List.nil_append, List.append_nil, true_and, and_true, false_and, and_false, forall_const, Bool.true_eq_false, Bool.false_eq_true, Bool.not_true, Bool.not_false, setMany, asg, Tg.slots, wipeE, optI, testOf, ne_eq, not_true_eq_false, not_false_eq_true, exists_const, reduceCtorEq, false_or, or_false, true_or, or_true, exists_false, Int.reduceLT, Int.reduceLE, Int.reduceNeg, Int.reduceAdd, Int.reduceSub, decide_true, decide_false, Bool.and_true, Bool.true_and, Bool.and_false, Bool.false_and, Bool.or_true, Bool.true_or, Bool.or_false, Bool.false_or, false_implies, true_implies, if_true, if_false, ite_true, ite_false, implies_true, envOf, op_add, op_addT, op_addL, op_sub, op_mul, op_fdiv, op_mod, op_lt, op_le, op_gt, op_ge, op_eqI, op_neI, op_eqS, op_neS, len_tup, len_lst, len_rol, abs_int, max2, min2, int_int, int_bl, nn_non, nn_int, nn_bl, nn_str, nn_tup, nn_lst, ix_tup, ix_lst, ix_rol, ix_cell, op_inS2, sl_tup, sl_lst, items_tup, items_lst, atI_0, atI_1, atI_2, cutD_1, cutD_from1, cutD_to, p10_6, p10_7, p10_8, p10_9, p10_10, p10_11, p10_12, sum_ints, all_bls, any_bls, eqb_ints, eqb_nilL, isin_ints, enum_lst, cmp_int, cmp_non, cmp_str, cmp_dInts, cmp_nilL, it_int_non, it_int_bl, it_int_int, it_int_str, it_int_tup, it_int_lst, it_int_rol, it_bool_non, it_bool_bl, it_bool_int, it_bool_str, it_bool_tup, it_bool_lst, it_bool_rol, it_str_non, it_str_bl, it_str_int, it_str_str, it_str_tup, it_str_lst, it_str_rol, it_tuple_non, it_tuple_bl, it_tuple_int, it_tuple_str, it_tuple_tup, it_tuple_lst, it_tuple_rol, it_list_non, it_list_bl, it_list_int, it_list_str, it_list_tup, it_list_lst, it_list_rol, List.length_map]
      rw [if_pos (by show _ ≤ 1000000; omega)]
      simp only [we_var, we_cn, we_cb, we_ci, we_cs, we_glob, we_tup, we_lst, we_newc, we_op, we_isN, we_notN, we_neg, we_nt, we_and, we_or, we_chain, we_ite, we_call, we_calll, we_b1, we_b2, we_isi, we_ix, we_sl, we_lc, we_lrng, we_olen, we_oix, we_inD, we_getD, we_calld, we_osl, we_rev, we_isB, we_cnew, we_clen, we_cpop, we_cnil, wl_nil, wl_cons, wr_it, wr_rng, wr_enum, wr_zip, ws_set, ws_own, ws_frz, ws_unp, ws_unp2, ws_par, ws_app, ws_oset, ws_cset, ws_ifs, ws_fors, ws_whil, ws_ret, ws_retn, ws_brk, ws_cnt, ws_pas, ws_expr, wb_nil, wb_cons, thn_nx, thn_rt, thn_bk, thn_ct, fin_nx, fin_rt, turn_nx, turn_ct, turn_bk, turn_rt, List.set_cons_zero, List.set_cons_succ, List.set_nil, List.getElem?_cons_zero, List.getElem?_cons_succ, Option.some.injEq, Sl.v.injEq, Sl.o.injEq, D.bl.injEq, D.int.injEq, D.str.injEq, D.tup.injEq, D.lst.injEq, D.cell.injEq, D.fn.injEq, exists_eq_left, exists_eq_left', exists_eq_right, List.length_cons, List.length_nil, Nat.reduceAdd, Nat.reduceSub, List.replicate_succ, List.replicate_zero, List.map_cons, List.map_nil, List.cons_append, List.nil_append, List.append_nil, true_and, and_true, false_and, and_false, forall_const, Bool.true_eq_false, Bool.false_eq_true, Bool.not_true, Bool.not_false, setMany, asg, Tg.slots, wipeE, optI, testOf, ne_eq, not_true_eq_false, not_false_eq_true, exists_const, reduceCtorEq, false_or, or_false, true_or, or_true, exists_false, Int.reduceLT, Int.reduceLE, Int.reduceNeg, Int.reduceAdd, Int.reduceSub, decide_true, decide_false, Bool.and_true, Bool.true_and, Bool.and_false, Bool.false_and, Bool.or_true, Bool.true_or, Bool.or_false, Bool.false_or, false_implies, true_implies, if_true, if_false, ite_true, ite_false, implies_true, envOf, op_add, op_addT, op_addL, op_sub, op_mul, op_fdiv, op_mod, op_lt, op_le, op_gt, op_ge, op_eqI, op_neI, op_eqS, op_neS, len_tup, len_lst, len_rol, abs_int, max2, min2, int_int, int_bl, nn_non, nn_int, nn_bl, nn_str, nn_tup, nn_lst, ix_tup, ix_lst, ix_rol, ix_cell, op_inS2, sl_tup, sl_lst, items_tup, items_lst, atI_0, atI_1, atI_2, cutD_1, cutD_from1, cutD_to, p10_6, p10_7, p10_8, p10_9, p10_10, p10_11, p10_12, sum_ints, all_bls, any_bls, eqb_ints, eqb_nilL, isin_ints, enum_lst, cmp_int, cmp_non, cmp_str, cmp_dInts, cmp_nilL, it_int_non, it_int_bl, it_int_int, it_int_str, it_int_tup, it_int_lst, it_int_rol, it_bool_non, it_bool_bl, it_bool_int, it_bool_str, it_bool_tup, it_bool_lst, it_bool_rol, it_str_non, it_str_bl, it_str_int, it_str_str, it_str_tup, it_str_lst, it_str_rol, it_tuple_non, it_tuple_bl, it_tuple_int, it_tuple_str, it_tuple_tup, it_tuple_lst, it_tuple_rol, it_list_non, it_list_bl, it_list_int, it_list_str, it_list_tup, it_list_lst, it_list_rol]
      refine ⟨hB5, ps ++ [f], _, by rw [List.map_append]; rfl, by simp [hl], fun p hp' => ?_, ?_⟩
      · rcases List.mem_append.mp hp' with h | h
        · exact hp p h
        · rw [List.mem_singleton.mp h]; exact ⟨f1, f2⟩
      · rw [Fr.lkss_app]
        simp only [Fr.lkss, List.append_nil]
        have e : ((j + 1 : Nat) : Int) * (m / (2 + t)) = (j : Int) * (m / (2 + t)) + m / (2 + t) := by
          rw [Int.natCast_add, Int.add_mul]; simp
        rw [e]
        omega
    · rintro δ S4 ⟨hB4, ps, x6, rfl, hl, hp, hs⟩
      simp only [we_var, we_cn, we_cb, we_ci, we_cs, we_glob, we_tup, we_lst, we_newc, we_op, we_isN, we_notN, we_neg, we_nt, we_and, we_or, we_chain, we_ite, we_call, we_calll, we_b1, we_b2, we_isi, we_ix, we_sl, we_lc, we_lrng, we_olen, we_oix, we_inD, we_getD, we_calld, we_osl, we_rev, we_isB, we_cnew, we_clen, we_cpop, we_cnil, wl_nil, wl_cons, wr_it, wr_rng, wr_enum, wr_zip, ws_set, ws_own, ws_frz, ws_unp, ws_unp2, ws_par, ws_app, ws_oset, ws_cset, ws_ifs, ws_fors, ws_whil, ws_ret, ws_retn, ws_brk, ws_cnt, ws_pas, ws_expr, wb_nil, wb_cons, thn_nx, thn_rt, thn_bk, thn_ct, fin_nx, fin_rt, turn_nx, turn_ct, turn_bk, turn_rt, List.set_cons_zero, List.set_cons_succ, List.set_nil, List.getElem?_cons_zero, List.getElem?_cons_succ, Option.some.injEq, Sl.v.injEq, Sl.o.injEq, D.bl.injEq, D.int.injEq, D.str.injEq, D.tup.injEq, D.lst.injEq, D.cell.injEq, D.fn.injEq, exists_eq_left, exists_eq_left', exists_eq_right, List.length_cons, List.length_nil, Nat.reduceAdd, Nat.reduceSub, List.replicate_succ, List.replicate_zero, List.map_cons, List.map_nil, List.cons_append, List.nil_append, List.append_nil, true_and, and_true, false_and, and_false, forall_const, Bool.true_eq_false, Bool.false_eq_true, Bool.not_true, Bool.not_false, setMany, asg, Tg.slots, wipeE, optI, testOf, ne_eq, not_true_eq_false, not_false_eq_true, exists_const, reduceCtorEq, false_or, or_false, true_or, or_true, exists_false, Int.reduceLT, Int.reduceLE, Int.reduceNeg, Int.reduceAdd, Int.reduceSub, decide_true, decide_false, Bool.and_true, Bool.true_and, Bool.and_false, Bool.false_and, Bool.or_true, Bool.true_or, Bool.or_false, Bool.false_or, false_implies, true_implies, if_true, if_false, ite_true, ite_false, implies_true, envOf, op_add, op_addT, op_addL, op_sub, op_mul, op_fdiv, op_mod, op_lt, op_le, op_gt, op_ge, op_eqI, op_neI, op_eqS, op_neS, len_tup, len_lst, len_rol, abs_int, max2, min2, int_int, int_bl, nn_non, nn_int, nn_bl, nn_str, nn_tup, nn_lst, ix_tup, ix_lst, ix_rol, ix_cell, op_inS2, sl_tup, sl_lst, items_tup, items_lst, atI_0, atI_1, atI_2, cutD_1, cutD_from1, cutD_to, p10_6, p10_7, p10_8, p10_9, p10_10, p10_11, p10_12, sum_ints, all_bls, any_bls, eqb_ints, eqb_nilL, isin_ints, enum_lst, cmp_int, cmp_non, cmp_str, cmp_dInts, cmp_nilL, it_int_non, it_int_bl, it_int_int, it_int_str, it_int_tup, it_int_lst, it_int_rol, it_bool_non, it_bool_bl, it_bool_int, it_bool_str, it_bool_tup, it_bool_lst, it_bool_rol, it_str_non, it_str_bl, it_str_int, it_str_str, it_str_tup, it_str_lst, it_str_rol, it_tuple_non, it_tuple_bl, it_tuple_int, it_tuple_str, it_tuple_tup, it_tuple_lst, it_tuple_rol, it_list_non, it_list_bl, it_list_int, it_list_str, it_list_tup, it_list_lst, it_list_rol]
      refine ⟨hB4, .jt rw' ps, by rw [Fr.d, Fr.ds_eq], ?_, ?_, ?_⟩
      · simp only [Fr.ok, Fr.oks_iff]
        exact ⟨by omega, by omega, fun p h => (hp p h).1⟩
      · simp only [Fr.dep]
        have : Fr.deps ps ≤ (max 1 (dp - 1)).toNat := Fr.deps_le fun p h => by have := (hp p h).2; omega
        omega
      · simp only [Fr.lks]
        rw [hcnt.2.2] at hs
        omega
end MP

/-! SpT: the sets of all distances, as the laws make them. -/
namespace MP
open PySem
def irange (a b : Int) : List Int := (List.range (b + 1 - a).toNat).map fun (k : Nat) => a + (k : Int)
theorem mem_irange {a b x : Int} : x ∈ irange a b ↔ a ≤ x ∧ x ≤ b := by
  unfold irange
  simp only [List.mem_map, List.mem_range]
  constructor
  · rintro ⟨k, hk, rfl⟩; omega
  · intro h; exact ⟨(x - a).toNat, by omega, by omega⟩
theorem irange_nil {a b : Int} (h : b < a) : irange a b = [] := by
  unfold irange; rw [show (b + 1 - a).toNat = 0 by omega]; rfl
theorem irange_cons {a b : Int} (h : a ≤ b) : irange a b = a :: irange (a + 1) b := by
  unfold irange
  rw [show (b + 1 - a).toNat = (b + 1 - (a + 1)).toNat + 1 by omega, List.range_succ_eq_map, List.map_cons, List.map_map]
  simp only [List.cons.injEq]
  refine ⟨by simp, ?_⟩
  apply List.map_congr_left
  intro k _
  simp only [Function.comp]
  omega
theorem irange_filter : ∀ (n : Nat) {lo hi a b : Int} {p : Int → Bool}, (hi + 1 - lo).toNat ≤ n → lo ≤ a → b ≤ hi → (∀ x, lo ≤ x → x ≤ hi → (p x = true ↔ a ≤ x ∧ x ≤ b)) → (irange lo hi).filter p = irange a b
  | 0, lo, hi, a, b, p, hn, h1, h2, hp => by rw [irange_nil (by omega), irange_nil (by omega)]; rfl
  | n + 1, lo, hi, a, b, p, hn, h1, h2, hp => by
    by_cases h : lo ≤ hi
    · rw [irange_cons h]
      have hl := hp lo (Int.le_refl _) h
      by_cases ha : a ≤ lo
      · have e : a = lo := by omega
        subst e
        by_cases hb : a ≤ b
        · rw [List.filter_cons_of_pos (hl.mpr ⟨Int.le_refl _, hb⟩), irange_cons hb, irange_filter n (a := a + 1) (b := b) (by omega) (Int.le_refl _) h2 fun x q1 q2 => (hp x (by omega) q2).trans (by omega)]
        · rw [List.filter_cons_of_neg (fun q => by have := (hl.mp q).2; omega), irange_nil (by omega : b < a), irange_filter n (a := a + 1) (b := b) (by omega) (Int.le_refl _) h2 fun x q1 q2 => (hp x (by omega) q2).trans (by omega), irange_nil (by omega)]
      · rw [List.filter_cons_of_neg (fun q => by have := (hl.mp q).1; omega)]
        exact irange_filter n (by omega) (by omega) h2 fun x q1 q2 => hp x (by omega) q2
    · rw [irange_nil (by omega), irange_nil (by omega)]; rfl
theorem irange_flt {lo hi a b : Int} {p : Int → Bool} (h1 : lo ≤ a) (h2 : b ≤ hi) (hp : ∀ x, lo ≤ x → x ≤ hi → (p x = true ↔ a ≤ x ∧ x ≤ b)) : (irange lo hi).filter p = irange a b := irange_filter _ (Nat.le_refl _) h1 h2 hp
/-- how many below k are in own -/
def cnt (own : List Int) (k : Nat) : Nat := ((List.range k).filter fun (i : Nat) => decide ((i : Int) ∈ own)).length
theorem cnt_succ {own : List Int} {k : Nat} : cnt own (k + 1) = cnt own k + (if ((k : Nat) : Int) ∈ own then 1 else 0) := by
  unfold cnt
  rw [List.range_succ, List.filter_append, List.length_append]
  congr 1
  by_cases h : ((k : Nat) : Int) ∈ own <;> simp [h]
theorem cnt_mono {own : List Int} {i j : Nat} (h : i ≤ j) : cnt own i ≤ cnt own j := by
  induction j with
  | zero => rw [Nat.le_zero.mp h]; exact Nat.le_refl _
  | succ j ih =>
    by_cases e : i = j + 1
    · rw [e]; exact Nat.le_refl _
    · have := ih (by omega); rw [cnt_succ]; omega
theorem cnt_lt {own : List Int} {i j : Nat} : cnt own i < cnt own j ↔ ∃ x : Nat, i ≤ x ∧ x < j ∧ (x : Int) ∈ own := by
  induction j with
  | zero => constructor
            · intro h; simp [cnt] at h
            · rintro ⟨x, _, h, _⟩; omega
  | succ j ih =>
    rw [cnt_succ]
    constructor
    · intro h
      by_cases h2 : cnt own i < cnt own j
      · obtain ⟨x, h3, h4, h5⟩ := ih.mp h2; exact ⟨x, h3, by omega, h5⟩
      · by_cases h3 : ((j : Nat) : Int) ∈ own
        · refine ⟨j, ?_, by omega, h3⟩
          rcases Nat.lt_or_ge j i with h4 | h4
          · have := cnt_mono (own := own) (i := j + 1) (j := i) h4; rw [cnt_succ, if_pos h3] at this; rw [if_pos h3] at h; omega
          · exact h4
        · rw [if_neg h3] at h; omega
    · rintro ⟨x, h3, h4, h5⟩
      by_cases e : x = j
      · subst e; have := cnt_mono (own := own) h3; rw [if_pos h5]; omega
      · have := ih.mpr ⟨x, h3, by omega, h5⟩; split <;> omega
def hit (mx : Int) (found own : List Int) (d : Int) : Bool := found.any fun one => decide (cnt own (one - d).natAbs < cnt own ((min (one + d) mx).toNat + 1))
end MP

/-! SpU: the sets are the stretches. -/
namespace MP
open PySem
theorem le_maxI : ∀ {xs : List Int} {x : Int}, x ∈ xs → x ≤ maxI xs
  | [y], x, h => by rw [List.mem_singleton.mp h]; exact Int.le_refl _
  | y :: z :: r, x, h => by
    have ih : ∀ {x}, x ∈ z :: r → x ≤ maxI (z :: r) := fun h => le_maxI h
    have e : maxI (y :: z :: r) = if y ≤ maxI (z :: r) then maxI (z :: r) else y := rfl
    rw [e]
    rcases List.mem_cons.mp h with rfl | h
    · split <;> omega
    · have := ih h; split <;> omega
theorem maxI_mem : ∀ {xs : List Int}, xs ≠ [] → maxI xs ∈ xs
  | [y], _ => List.mem_singleton.mpr rfl
  | y :: z :: r, _ => by
    have e : maxI (y :: z :: r) = if y ≤ maxI (z :: r) then maxI (z :: r) else y := rfl
    rw [e]
    split
    · exact List.mem_cons_of_mem _ (maxI_mem (by simp))
    · exact List.mem_cons_self
theorem minI_le : ∀ {xs : List Int} {x : Int}, x ∈ xs → minI xs ≤ x
  | [y], x, h => by rw [List.mem_singleton.mp h]; exact Int.le_refl _
  | y :: z :: r, x, h => by
    have ih : ∀ {x}, x ∈ z :: r → minI (z :: r) ≤ x := fun h => minI_le h
    have e : minI (y :: z :: r) = if minI (z :: r) ≤ y then minI (z :: r) else y := rfl
    rw [e]
    rcases List.mem_cons.mp h with rfl | h
    · split <;> omega
    · have := ih h; split <;> omega
theorem minI_mem : ∀ {xs : List Int}, xs ≠ [] → minI xs ∈ xs
  | [y], _ => List.mem_singleton.mpr rfl
  | y :: z :: r, _ => by
    have e : minI (y :: z :: r) = if minI (z :: r) ≤ y then minI (z :: r) else y := rfl
    rw [e]
    split
    · exact List.mem_cons_of_mem _ (minI_mem (by simp))
    · exact List.mem_cons_self
theorem maxI_le {xs : List Int} {d : Int} (h : xs ≠ []) : maxI xs ≤ d ↔ ∀ x, x ∈ xs → x ≤ d :=
  ⟨fun q x hx => Int.le_trans (le_maxI hx) q, fun q => q _ (maxI_mem h)⟩
theorem le_minI {xs : List Int} {d : Int} (h : xs ≠ []) : d ≤ minI xs ↔ ∀ x, x ∈ xs → d ≤ x :=
  ⟨fun q x hx => Int.le_trans q (minI_le hx), fun q => q _ (minI_mem h)⟩
/-- the ends of a stretch: below b, the upper one from the lower one to h -/
structure Fine (b h : Int) (q : Iv) : Prop where
  lo : 0 ≤ q.1
  up : q.1 ≤ b
  hi : ∀ x, q.2 = some x → q.1 ≤ x ∧ x ≤ h
theorem others_app {qs : List Iv} {q : Iv} {k : Nat} (h : k < qs.length) : others (qs ++ [q]) k = others qs k ++ [q.2] := by
  unfold others
  rw [List.take_append_of_le_length (by omega), List.drop_append_of_le_length (by omega)]
  simp
theorem others_last {qs : List Iv} {q : Iv} : others (qs ++ [q]) qs.length = qs.map (·.2) := by
  unfold others
  rw [List.take_append_of_le_length (Nat.le_refl _), List.take_length, List.drop_of_length_le (by simp)]
  simp
theorem sumOf_app {hs : List (Option Int)} {h : Option Int} : sumOf (hs ++ [h]) = match sumOf hs, h with
    | some a, some b => some (a + b)
    | _, _ => none := by
  unfold sumOf
  cases h with
  | none => simp
  | some b =>
    by_cases hn : none ∈ hs
    · simp [hn]
    · simp [hn, List.filterMap_append, List.sum_append]
theorem lowTo_nonneg {qs : List Iv} : ∀ {k : Nat}, 0 ≤ lowTo qs k
  | 0 => Int.le_refl _
  | k + 1 => by
    unfold lowTo
    split
    · have := lowTo_nonneg (qs := qs) (k := k); omega
    · exact lowTo_nonneg
theorem sum_nonneg : ∀ {xs : List Int}, (∀ x, x ∈ xs → 0 ≤ x) → 0 ≤ xs.sum
  | [], _ => Int.le_refl _
  | x :: xs, h => by
    have := sum_nonneg fun y hy => h y (List.mem_cons_of_mem _ hy)
    have := h x List.mem_cons_self
    rw [List.sum_cons]; omega
theorem sumOf_nonneg {hs : List (Option Int)} (h : ∀ x, some x ∈ hs → 0 ≤ x) {s : Int} (e : sumOf hs = some s) : 0 ≤ s := by
  unfold sumOf at e
  split at e
  · cases e
  · cases e
    exact sum_nonneg fun x hx => by
      obtain ⟨y, hy, e⟩ := List.mem_filterMap.mp hx
      exact h x (by rw [show y = some x from e] at hy; exact hy)
theorem mem_others {qs : List Iv} {k : Nat} {h : Option Int} (m : h ∈ others qs k) : ∃ q, q ∈ qs ∧ q.2 = h := by
  unfold others at m
  obtain ⟨q, hq, e⟩ := List.mem_map.mp m
  refine ⟨q, ?_, e⟩
  rcases List.mem_append.mp hq with h | h
  · exact List.mem_of_mem_take h
  · exact List.mem_of_mem_drop h
theorem lowTo_le {b : Int} (hb : 0 ≤ b) {qs : List Iv} (h : ∀ q, q ∈ qs → q.1 ≤ b ∧ ∀ x, q.2 = some x → 0 ≤ x) : ∀ {k : Nat}, lowTo qs k ≤ b
  | 0 => hb
  | k + 1 => by
    have ih := lowTo_le hb h (k := k)
    unfold lowTo
    split
    · rename_i q r hq hr
      have h1 := (h q (List.mem_of_getElem? hq)).1
      have := sumOf_nonneg (fun x hx => by obtain ⟨q, hq, e⟩ := mem_others hx; exact (h q hq).2 x e) hr
      omega
    · exact ih
theorem lowTo_app {qs : List Iv} {q : Iv} (hq : ∀ x, q.2 = some x → 0 ≤ x) : ∀ {k : Nat}, k ≤ qs.length → lowTo (qs ++ [q]) k = match q.2 with
    | some e => max 0 (lowTo qs k - e)
    | none => 0
  | 0, _ => by
    cases e : q.2 with
    | none => rfl
    | some x => have := hq x e; simp only [lowTo]; omega
  | k + 1, hk => by
    have ih := lowTo_app (qs := qs) hq (k := k) (by omega)
    have hk2 : k < qs.length := by omega
    simp only [lowTo]
    rw [others_app (qs := qs) hk2, sumOf_app, List.getElem?_append_left hk2, List.getElem?_eq_getElem hk2, ih]
    cases e : q.2 with
    | none => simp
    | some x =>
      cases hs : sumOf (others qs k) with
      | none => simp
      | some r => simp only; omega
/-- one more stretch behind -/
def jn (p q : Iv) : Iv := (max (match q.2 with
    | some e => max 0 (p.1 - e)
    | none => 0) (match p.2 with
    | some b => q.1 - b
    | none => 0), match p.2, q.2 with
    | some b, some e => some (b + e)
    | _, _ => none)
theorem behind_app {qs : List Iv} {q : Iv} (hq : ∀ x, q.2 = some x → 0 ≤ x) : behindOf (qs ++ [q]) = jn (behindOf qs) q := by
  unfold behindOf jn
  rw [List.length_append, List.length_singleton]
  simp only [lowTo]
  rw [others_last, List.getElem?_append_right (Nat.le_refl _), Nat.sub_self, lowTo_app hq (Nat.le_refl _), List.map_append]
  show (_, sumOf (qs.map (·.2) ++ [q.2])) = _
  rw [sumOf_app]
  simp only [List.getElem?_cons_zero]
  cases hs : sumOf (qs.map (·.2)) with
  | none =>
    cases e : q.2 with
    | none => simp
    | some x => simp
  | some s =>
    cases e : q.2 with
    | none => simp
    | some x => simp
theorem jn_fine {b h1 h2 : Int} {p q : Iv} (fp : Fine b h1 p) (fq : Fine b h2 q) : Fine b (h1 + h2) (jn p q) := by
  obtain ⟨pl, ph⟩ := p
  obtain ⟨ql, qh⟩ := q
  have p1 := fp.lo; have p2 := fp.up; have p3 := fp.hi
  have q1 := fq.lo; have q2 := fq.up; have q3 := fq.hi
  simp only at p1 p2 p3 q1 q2 q3
  cases ph with
  | none => cases qh with
    | none => exact ⟨by simp [jn], by simp [jn]; omega, fun x hx => by simp [jn] at hx⟩
    | some e => have := q3 e rfl; exact ⟨by simp [jn]; omega, by simp [jn]; omega, fun x hx => by simp [jn] at hx⟩
  | some b' => cases qh with
    | none => have := p3 b' rfl; exact ⟨by simp [jn]; omega, by simp [jn]; omega, fun x hx => by simp [jn] at hx⟩
    | some e =>
      have := p3 b' rfl; have := q3 e rfl
      exact ⟨by simp [jn]; omega, by simp [jn]; omega, fun x hx => by simp [jn] at hx ⊢; omega⟩
def hv (mx : Int) (o : Option Int) : Int := min (o.getD mx) mx
def setOf (mx : Int) : Option Iv → List Int
  | none => []
  | some q => irange q.1 (hv mx q.2)
theorem hit_iff {mx : Int} {found own : List Int} {d : Int} (hf : ∀ x, x ∈ found → 0 ≤ x ∧ x ≤ mx) (ho : ∀ x, x ∈ own → 0 ≤ x ∧ x ≤ mx) (hd : 0 ≤ d) : hit mx found own d = true ↔ ∃ x, x ∈ found ∧ ∃ y, y ∈ own ∧ x - d ≤ y ∧ d - x ≤ y ∧ y ≤ x + d := by
  unfold hit
  simp only [List.any_eq_true, decide_eq_true_eq]
  constructor
  · rintro ⟨x, hx, h⟩
    obtain ⟨y, h1, h2, h3⟩ := cnt_lt.mp h
    have := hf x hx
    exact ⟨x, hx, y, h3, by omega, by omega, by omega⟩
  · rintro ⟨x, hx, y, hy, h1, h2, h3⟩
    have := hf x hx
    have := ho y hy
    exact ⟨x, hx, cnt_lt.mpr ⟨y.toNat, by omega, by omega, by rw [Int.toNat_of_nonneg (by omega)]; exact hy⟩⟩
theorem setOf_le {mx : Int} {r : Option Iv} (h : ∀ q, r = some q → 0 ≤ q.1) : ∀ x, x ∈ setOf mx r → 0 ≤ x ∧ x ≤ mx := by
  cases r with
  | none => simp [setOf]
  | some q =>
    intro x hx
    have := mem_irange.mp hx
    have := h q rfl
    unfold hv at *
    omega
theorem join_set {mx b h1 h2 : Int} {p q : Iv} (hb : b ≤ mx) (hh : h1 + h2 ≤ mx) (hh1 : h1 ≤ mx) (hh2 : h2 ≤ mx) (fp : Fine b h1 p) (fq : Fine b h2 q) : (irange 0 mx).filter (hit mx (setOf mx (some p)) (setOf mx (some q))) = setOf mx (some (jn p q)) := by
  obtain ⟨pl, ph⟩ := p
  obtain ⟨ql, qh⟩ := q
  have p1 := fp.lo; have p2 := fp.up; have p3 := fp.hi
  have q1 := fq.lo; have q2 := fq.up; have q3 := fq.hi
  simp only at p1 p2 p3 q1 q2 q3
  have vN : hv mx none = mx := by unfold hv; simp
  have vS : ∀ x, x ≤ mx → hv mx (some x) = x := fun x h => by unfold hv; simp; omega
  have hp : pl ≤ hv mx ph ∧ hv mx ph ≤ mx := by
    cases ph with
    | none => rw [vN]; omega
    | some x => have := p3 x rfl; rw [vS x (by omega)]; omega
  have hq : ql ≤ hv mx qh ∧ hv mx qh ≤ mx := by
    cases qh with
    | none => rw [vN]; omega
    | some x => have := q3 x rfl; rw [vS x (by omega)]; omega
  have e : setOf mx (some (jn (pl, ph) (ql, qh))) = irange (max 0 (max (pl - hv mx qh) (ql - hv mx ph))) (min (hv mx ph + hv mx qh) mx) := by
    cases ph with
    | none => cases qh with
      | none => simp only [setOf, jn, vN]; congr 1 <;> omega
      | some y => have := q3 y rfl; simp only [setOf, jn, vN, vS y (by omega)]; congr 1 <;> omega
    | some x => cases qh with
      | none => have := p3 x rfl; simp only [setOf, jn, vN, vS x (by omega)]; congr 1 <;> omega
      | some y => have := q3 y rfl; have := p3 x rfl; simp only [setOf, jn, vN, vS x (by omega), vS y (by omega), vS (x + y) (by omega)]; congr 1 <;> omega
  rw [e]
  refine irange_flt (by omega) (by omega) fun d h0 h40 => ?_
  rw [hit_iff (setOf_le fun q e => by cases e; exact p1) (setOf_le fun q e => by cases e; exact q1) h0]
  simp only [setOf, mem_irange]
  generalize hv mx ph = B at *
  generalize hv mx qh = E at *
  constructor
  · rintro ⟨x, ⟨x1, x2⟩, y, ⟨y1, y2⟩, h3, h4, h5⟩
    omega
  · rintro ⟨h3, h4⟩
    by_cases c1 : B - E ≤ d ∧ E - B ≤ d
    · exact ⟨B, ⟨hp.1, Int.le_refl _⟩, E, ⟨hq.1, Int.le_refl _⟩, by omega, by omega, by omega⟩
    · by_cases c2 : d < B - E
      · exact ⟨d + E, by omega, E, ⟨hq.1, Int.le_refl _⟩, by omega, by omega, by omega⟩
      · exact ⟨B, ⟨hp.1, Int.le_refl _⟩, d + B, by omega, by omega, by omega, by omega⟩
theorem snoc_ind {α : Type} {P : List α → Prop} (h0 : P []) (h1 : ∀ xs x, P xs → P (xs ++ [x])) (xs : List α) : P xs := by
  have : ∀ ys : List α, P ys.reverse := fun ys => by
    induction ys with
    | nil => exact h0
    | cons y ys ih => rw [List.reverse_cons]; exact h1 _ _ ih
  rw [← List.reverse_reverse xs]; exact this _
theorem behind_fine {α : Type} (g : α → Iv) (w : α → Int) {b : Int} (hb : 0 ≤ b) (xs : List α) : (∀ x, x ∈ xs → Fine b (w x) (g x)) → Fine b (xs.map w).sum (behindOf (xs.map g)) := by
  refine snoc_ind (P := fun xs => (∀ x, x ∈ xs → Fine b (w x) (g x)) → Fine b (xs.map w).sum (behindOf (xs.map g))) (fun _ => ⟨Int.le_refl _, hb, fun x hx => by cases hx; exact ⟨Int.le_refl _, Int.le_refl _⟩⟩) (fun xs x ih h => ?_) xs
  have fq := h x (by simp)
  have fp := ih fun y hy => h y (by simp [hy])
  rw [List.map_append, List.map_append, List.map_cons, List.map_nil, List.map_cons, List.map_nil, behind_app fun y hy => Int.le_trans fq.lo (fq.hi y hy).1, List.sum_append]
  simpa using jn_fine fp fq
theorem least_none {hs : List (Option Int)} (e : leastOf hs = none) : ∀ h, h ∈ hs → h = none := by
  unfold leastOf at e
  split at e
  · rename_i e2
    intro h hh
    cases h with
    | none => rfl
    | some x =>
      have : x ∈ hs.filterMap id := List.mem_filterMap.mpr ⟨some x, hh, rfl⟩
      rw [e2] at this; simp at this
  · cases e
theorem least_some {hs : List (Option Int)} {m : Int} (e : leastOf hs = some m) : some m ∈ hs ∧ ∀ x, some x ∈ hs → m ≤ x := by
  unfold leastOf at e
  split at e
  · cases e
  · rename_i h
    cases e
    refine ⟨?_, fun x hx => minI_le (List.mem_filterMap.mpr ⟨_, hx, rfl⟩)⟩
    obtain ⟨y, hy, e⟩ := List.mem_filterMap.mp (minI_mem h)
    rw [show y = _ from e] at hy; exact hy
theorem both_fine {b h : Int} {qs : List Iv} (hq : qs ≠ []) (hf : ∀ q, q ∈ qs → Fine b h q) {r : Iv} (e : bothOf qs = some r) : Fine b h r := by
  have hm : maxI (qs.map (·.1)) ∈ qs.map (·.1) := maxI_mem (by simpa using hq)
  obtain ⟨q0, hq0, e0⟩ := List.mem_map.mp hm
  have h0 := (hf q0 hq0).lo
  have h1 := (hf q0 hq0).up
  rw [e0] at h0 h1
  unfold bothOf at e
  split at e
  · cases e; exact ⟨h0, h1, fun x hx => by cases hx⟩
  · rename_i m em
    split at e
    · rename_i hle
      cases e
      refine ⟨h0, h1, fun x hx => ?_⟩
      cases hx
      obtain ⟨q, hq, e⟩ := List.mem_map.mp (least_some em).1
      exact ⟨hle, ((hf q hq).hi m e).2⟩
    · cases e
theorem both_set {mx b h : Int} (m0 : 0 ≤ mx) (hh : h ≤ mx) (hb : b ≤ mx) {qs : List Iv} (hq : qs ≠ []) (hf : ∀ q, q ∈ qs → Fine b h q) : (irange 0 mx).filter (fun d => qs.all fun q => decide (d ∈ setOf mx (some q))) = setOf mx (bothOf qs) := by
  have hne : qs.map (·.1) ≠ [] := by simpa using hq
  have hmem : ∀ d, (qs.all fun q => decide (d ∈ setOf mx (some q))) = true ↔ maxI (qs.map (·.1)) ≤ d ∧ ∀ q, q ∈ qs → d ≤ hv mx q.2 := fun d => by
    rw [maxI_le hne]
    simp only [List.all_eq_true, decide_eq_true_eq, setOf, mem_irange, List.mem_map]
    constructor
    · intro h; exact ⟨fun x ⟨q, hq, e⟩ => e ▸ (h q hq).1, fun q hq => (h q hq).2⟩
    · intro h q hq; exact ⟨h.1 _ ⟨q, hq, rfl⟩, h.2 q hq⟩
  have hm : maxI (qs.map (·.1)) ∈ qs.map (·.1) := maxI_mem hne
  obtain ⟨q0, hq0, e0⟩ := List.mem_map.mp hm
  have h0 := (hf q0 hq0).lo
  have h1 := (hf q0 hq0).up
  rw [e0] at h0 h1
  unfold bothOf
  cases em : leastOf (qs.map (·.2)) with
  | none =>
    have vN : hv mx none = mx := by unfold hv; simp
    simp only [setOf, vN]
    refine irange_flt h0 (Int.le_refl _) fun d d0 d1 => (hmem d).trans ?_
    have := least_none em
    constructor
    · exact fun q => ⟨q.1, d1⟩
    · exact fun q => ⟨q.1, fun p hp => by rw [this p.2 (List.mem_map.mpr ⟨p, hp, rfl⟩), vN]; exact d1⟩
  | some m =>
    obtain ⟨l1, l2⟩ := least_some em
    obtain ⟨q1, hq1, e1⟩ := List.mem_map.mp l1
    have hm40 := (hf q1 hq1).hi m e1
    have vm : hv mx (some m) = m := by unfold hv; simp; omega
    have key : ∀ d, d ≤ mx → ((∀ q, q ∈ qs → d ≤ hv mx q.2) ↔ d ≤ m) := fun d d1 => by
      constructor
      · intro q; have := q q1 hq1; rw [e1, vm] at this; exact this
      · intro q p hp
        unfold hv
        cases e : p.2 with
        | none => simp; omega
        | some x => have := l2 x (by rw [← e]; exact List.mem_map.mpr ⟨p, hp, rfl⟩); simp; omega
    simp only
    by_cases hc : maxI (qs.map (·.1)) ≤ m
    · rw [if_pos hc]
      simp only [setOf, vm]
      refine irange_flt h0 (by omega) fun d d0 d1 => (hmem d).trans ?_
      rw [key d d1]
    · rw [if_neg hc]
      show _ = []
      rw [irange_flt h0 (b := m) (by omega) fun d d0 d1 => (hmem d).trans (by rw [key d d1]), irange_nil (by omega)]
theorem lks_le {p : Fr} : ∀ {ps : List Fr}, p ∈ ps → p.lks.length ≤ (Fr.lkss ps).length
  | q :: ps, h => by
    rw [Fr.lkss, List.length_append]
    rcases List.mem_cons.mp h with rfl | h
    · omega
    · have := lks_le h; omega
def totOf (ls : List Lk) : Int := (ls.map (·.hi)).sum
def Fr.tot (f : Fr) : Int := totOf f.lks
theorem totOf_app {a b : List Lk} : totOf (a ++ b) = totOf a + totOf b := by
  unfold totOf; rw [List.map_append, List.sum_append]
theorem tots_eq : ∀ ps : List Fr, (ps.map Fr.tot).sum = totOf (Fr.lkss ps)
  | [] => rfl
  | p :: ps => by rw [List.map_cons, List.sum_cons, tots_eq ps, Fr.lkss, totOf_app]; rfl
theorem lks_ok {M : Int} : ∀ f : Fr, f.ok M → ∀ l, l ∈ f.lks → l.ok M := by
  refine Fr.ind (fun l h k hk => ?_) (fun r ps ih h k hk => ?_)
  · rw [Fr.lks, List.mem_singleton] at hk; rw [hk]; exact h
  · simp only [Fr.ok, Fr.oks_iff] at h
    rw [Fr.lks, Fr.lkss_eq] at hk
    obtain ⟨p, hp, hk⟩ := List.mem_flatMap.mp hk
    exact ih p hp (h.2.2 p hp) k hk
theorem totOf_nonneg {M : Int} {ls : List Lk} (h : ∀ l, l ∈ ls → l.ok M) : 0 ≤ totOf ls := sum_nonneg fun x hx => by
  obtain ⟨l, hl, rfl⟩ := List.mem_map.mp hx
  have := (h l hl).lo; have := (h l hl).le; omega
theorem totOf_le {M : Int} (hM : 0 ≤ M) : ∀ {ls : List Lk}, (∀ l, l ∈ ls → l.ok M) → totOf ls ≤ M * ls.length
  | [], _ => by simp [totOf]
  | l :: ls, h => by
    have := totOf_le hM fun k hk => h k (List.mem_cons_of_mem _ hk)
    have h2 := (h l List.mem_cons_self).hi
    unfold totOf at *
    rw [List.map_cons, List.sum_cons, List.length_cons, Int.natCast_add, Int.mul_add]
    simp; omega
theorem tot_part {M : Int} {ps : List Fr} (h : ∀ p, p ∈ ps → p.ok M) {p : Fr} (hp : p ∈ ps) : p.tot ≤ totOf (Fr.lkss ps) := by
  rw [← tots_eq]
  have nn : ∀ q, q ∈ ps → 0 ≤ q.tot := fun q hq => totOf_nonneg (lks_ok q (h q hq))
  clear h
  induction ps with
  | nil => cases hp
  | cons q ps ih =>
    rw [List.map_cons, List.sum_cons]
    have h1 : 0 ≤ (ps.map Fr.tot).sum := sum_nonneg fun x hx => by
      obtain ⟨r, hr, rfl⟩ := List.mem_map.mp hx
      exact nn r (List.mem_cons_of_mem _ hr)
    have h2 := nn q List.mem_cons_self
    rcases List.mem_cons.mp hp with rfl | hp
    · omega
    · have := ih hp fun r hr => nn r (List.mem_cons_of_mem _ hr); omega
theorem Fine.mono {b b' h h' : Int} {q : Iv} (f : Fine b h q) (hb : b ≤ b') (hh : h ≤ h') : Fine b' h' q :=
  ⟨f.lo, Int.le_trans f.up hb, fun x hx => ⟨(f.hi x hx).1, Int.le_trans (f.hi x hx).2 hh⟩⟩
theorem st_get {ps : List Fr} (hn : none ∉ ps.map Fr.st) {p : Fr} (hp : p ∈ ps) : p.st = some (p.st.getD (0, none)) := by
  cases e : p.st with
  | none => exact absurd (List.mem_map.mpr ⟨p, hp, e⟩) hn
  | some q => rfl
theorem getD_map {ps : List Fr} (h : none ∉ ps.map Fr.st) : (ps.map Fr.st).filterMap id = ps.map fun p => p.st.getD (0, none) := by
  induction ps with
  | nil => rfl
  | cons p ps ih =>
    simp only [List.map_cons, List.mem_cons, not_or] at h
    obtain ⟨q, hq⟩ : ∃ q, p.st = some q := by
      cases e : p.st with
      | none => exact absurd e.symm h.1
      | some q => exact ⟨q, rfl⟩
    simp only [List.map_cons, List.filterMap_cons, id, hq, Option.getD_some]
    rw [← ih h.2]
theorem st_fine {M : Int} : ∀ f : Fr, f.ok M → ∀ q, f.st = some q → Fine f.tot f.tot q := by
  refine Fr.ind (fun l h q e => ?_) (fun r ps ih h q e => ?_)
  · simp only [Fr.ok] at h
    have h1 := h.lo; have h2 := h.le; have h3 := h.hi
    simp only [Fr.st] at e
    cases e
    have ht : (Fr.leaf l).tot = l.hi := by simp [Fr.tot, totOf, Fr.lks]
    rw [ht]
    unfold Lk.rg
    split
    · exact ⟨Int.le_refl _, (by omega : (0 : Int) ≤ l.hi), fun x hx => by cases hx; exact ⟨h1, h2⟩⟩
    · split
      · exact ⟨h1, h2, fun x hx => by cases hx⟩
      · exact ⟨h1, h2, fun x hx => by cases hx; exact ⟨h2, Int.le_refl _⟩⟩
  · simp only [Fr.ok, Fr.oks_iff] at h
    simp only [Fr.st, Fr.sts_eq, togOf] at e
    split at e
    · cases e
    · rename_i hn
      rw [getD_map hn] at e
      have et : (Fr.jt r ps).tot = totOf (Fr.lkss ps) := rfl
      have hf : ∀ p, p ∈ ps → Fine (Fr.jt r ps).tot p.tot (p.st.getD (0, none)) := fun p hp =>
        (ih p hp (h.2.2 p hp) _ (st_get hn hp)).mono (tot_part h.2.2 hp) (Int.le_refl _)
      have h0 : 0 ≤ (Fr.jt r ps).tot := totOf_nonneg (M := M) (lks_ok (.jt r ps) (by simp only [Fr.ok, Fr.oks_iff]; exact h))
      split at e
      · cases e
        have := behind_fine (fun p : Fr => p.st.getD (0, none)) Fr.tot h0 ps hf
        rw [tots_eq] at this; exact this
      · refine both_fine (by intro q; simp at q; simp [q] at h) (fun q hq => ?_) e
        obtain ⟨p, hp, rfl⟩ := List.mem_map.mp hq
        exact (hf p hp).mono (Int.le_refl _) (tot_part h.2.2 hp)
end MP

/-! SpV: the sets that the laws make are the stretches. -/
namespace MP
open PySem
theorem jw_side {r : Bool} : (jw r = ("side" : Str)) = (r = false) := by cases r <;> simp [jw, row_side]
theorem jw_row {r : Bool} : (jw r = ("row" : Str)) = (r = true) := by cases r <;> simp [jw, side_row]
theorem range_2' {i j : Int} (h0 : 0 ≤ i) (h2 : i ≤ 1000) (h1 : j ≤ 1000) (h3 : -1000 ≤ j) : rangeOf [.int i, .int (j + 1)] = some ((irange i j).map .int) := by
  rw [range_2 h0 (by omega) (by omega) (by omega)]
  unfold irange; rw [List.map_map]; rfl
theorem range_1' {mx : Int} (h0 : 0 ≤ mx) (h1 : mx ≤ 1000) : rangeOf [.int (mx + 1)] = some ((irange 0 mx).map .int) := by
  rw [range_1 (by omega) (by omega)]
  unfold irange; rw [List.map_map]
  rw [show mx + 1 - 0 = mx + 1 by omega]
  refine congrArg some (List.map_congr_left fun k _ => ?_)
  simp only [Function.comp, Int.zero_add]
theorem togOf_lo {rs : List (Option Iv)} {q : Iv} (e : togOf true rs = some q) : 0 ≤ q.1 := by
  unfold togOf at e
  split at e
  · cases e
  · cases e; exact lowTo_nonneg
theorem row_step {M mx : Int} (m0 : 0 ≤ mx) {ps : List Fr} {p : Fr} (hp : ∀ q, q ∈ ps ++ [p] → q.ok M) (hl : totOf (Fr.lkss (ps ++ [p])) ≤ mx) :
    (irange 0 mx).filter (hit mx (setOf mx (togOf true (ps.map Fr.st))) (setOf mx p.st)) = setOf mx (togOf true ((ps ++ [p]).map Fr.st)) := by
  rw [Fr.lkss_eq, List.flatMap_append, ← Fr.lkss_eq, totOf_app] at hl
  simp only [List.flatMap_cons, List.flatMap_nil, List.append_nil] at hl
  have n1 : 0 ≤ totOf (Fr.lkss ps) := by
    rw [← tots_eq]
    exact sum_nonneg fun x hx => by
      obtain ⟨r, hr, rfl⟩ := List.mem_map.mp hx
      exact totOf_nonneg (lks_ok r (hp r (List.mem_append_left _ hr)))
  have n2 : 0 ≤ totOf p.lks := totOf_nonneg (lks_ok p (hp p (by simp)))
  by_cases hn : none ∈ ps.map Fr.st
  · have e1 : togOf true (ps.map Fr.st) = none := if_pos hn
    have e2 : togOf true ((ps ++ [p]).map Fr.st) = none := if_pos (by rw [List.map_append]; exact List.mem_append_left _ hn)
    rw [e1, e2]
    show List.filter (fun d => hit mx [] _ d) _ = []
    rw [List.filter_eq_nil_iff]; intro d _; simp [hit]
  · have e1 : togOf true (ps.map Fr.st) = some (behindOf (ps.map fun p => p.st.getD (0, none))) := by unfold togOf; rw [if_neg hn, if_pos rfl, getD_map hn]
    have fp : Fine mx (totOf (Fr.lkss ps)) (behindOf (ps.map fun p => p.st.getD (0, none))) := by
      have := behind_fine (fun p : Fr => p.st.getD (0, none)) Fr.tot m0 ps fun q hq =>
        (st_fine q (hp q (List.mem_append_left _ hq)) _ (st_get hn hq)).mono (by have := tot_part (fun r hr => hp r (List.mem_append_left _ hr)) hq; omega) (Int.le_refl _)
      rw [tots_eq] at this; exact this
    rw [e1]
    cases eq : p.st with
    | none =>
      have e2 : togOf true ((ps ++ [p]).map Fr.st) = none := if_pos (by rw [List.map_append, List.map_singleton, eq]; simp)
      rw [e2]
      show List.filter (fun d => hit mx _ [] d) _ = []
      rw [List.filter_eq_nil_iff]; intro d _
      have c0 : ∀ k, cnt [] k = 0 := fun k => by unfold cnt; simp
      unfold hit
      simp [c0]
    | some q =>
      have fq := (st_fine p (hp p (by simp)) q eq).mono (show p.tot ≤ mx by show totOf p.lks ≤ mx; omega) (Int.le_refl _)
      have hn2 : none ∉ (ps ++ [p]).map Fr.st := by
        rw [List.map_append, List.map_singleton, eq]; simp only [List.mem_append, List.mem_singleton, not_or]; exact ⟨hn, by simp⟩
      have e2 : togOf true ((ps ++ [p]).map Fr.st) = some (jn (behindOf (ps.map fun p => p.st.getD (0, none))) q) := by
        unfold togOf; rw [if_neg hn2, if_pos rfl, getD_map hn2, List.map_append, List.map_singleton, eq, Option.getD_some, behind_app fun x hx => Int.le_trans fq.lo (fq.hi x hx).1]
      rw [e2]
      have ht : p.tot = totOf p.lks := rfl
      exact join_set (b := mx) (Int.le_refl _) (by omega) (by omega) (by omega) fp fq
theorem side_set {M mx : Int} (m0 : 0 ≤ mx) {ps : List Fr} (hne : ps ≠ []) (hp : ∀ q, q ∈ ps → q.ok M) (hl : totOf (Fr.lkss ps) ≤ mx) : (irange 0 mx).filter (fun d => ps.all fun p => decide (d ∈ setOf mx p.st)) = setOf mx (togOf false (ps.map Fr.st)) := by
  by_cases hn : none ∈ ps.map Fr.st
  · have e2 : togOf false (ps.map Fr.st) = none := if_pos hn
    rw [e2]
    obtain ⟨p, hp, e⟩ := List.mem_map.mp hn
    show _ = []
    rw [List.filter_eq_nil_iff]
    intro d _ h
    have := List.all_eq_true.mp h p hp
    rw [e] at this
    simp [setOf] at this
  · have e2 : togOf false (ps.map Fr.st) = bothOf (ps.map fun p => p.st.getD (0, none)) := by
      unfold togOf; rw [if_neg hn, getD_map hn]; rfl
    rw [e2, ← both_set (b := mx) (h := mx) m0 (Int.le_refl _) (Int.le_refl _) (by simpa using hne) (fun q hq => by
      obtain ⟨p, hp', rfl⟩ := List.mem_map.mp hq
      have h2 := tot_part hp hp'
      exact (st_fine p (hp p hp') _ (st_get hn hp')).mono (by omega) (by omega))]
    refine List.filter_congr fun d _ => ?_
    rw [List.all_map, Bool.eq_iff_iff]
    simp only [List.all_eq_true, Function.comp]
    constructor
    · intro h p hp; have := h p hp; rw [st_get hn hp] at this; exact this
    · intro h p hp; have := h p hp; rw [st_get hn hp]; exact this
theorem setOf_unit {mx : Int} (m0 : 0 ≤ mx) : setOf mx (togOf true []) = [0] := by
  have e : togOf true [] = some (0, some 0) := rfl
  have v : hv mx (some 0) = 0 := by unfold hv; simp; omega
  rw [e]
  show irange 0 (hv mx (some 0)) = _
  rw [v]; rfl
theorem irange_eq_nil {a b : Int} : irange a b = [] ↔ b < a := by
  constructor
  · intro h
    by_cases c : a ≤ b
    · rw [irange_cons c] at h; cases h
    · omega
  · exact irange_nil
theorem irange_head {a b : Int} (h : a ≤ b) : L2.atI ((irange a b).map D.int) 0 = some (.int a) := by
  rw [irange_cons h]; exact atI_0
theorem irange_last {a b : Int} (h : a ≤ b) : L2.atI ((irange a b).map D.int) (-1) = some (.int b) := by
  rw [atI_last (by rw [irange_cons h]; simp)]
  unfold irange
  rw [List.getLast?_map, List.getLast?_map, show (b + 1 - a).toNat = (b - a).toNat + 1 by omega, List.range_succ, List.getLast?_concat]
  simp; omega
end MP

/-! SpW: distances in stretches, plain links, telling distances. -/
namespace MP
open PySem
def inR : Option Iv → Int → Bool
  | none, _ => false
  | some q, d => decide (q.1 ≤ d) && (match q.2 with
    | none => true
    | some h => decide (d ≤ h))
structure Vd (q : Iv) : Prop where
  lo : 0 ≤ q.1
  hi : ∀ x, q.2 = some x → q.1 ≤ x
def VdO (r : Option Iv) : Prop := ∀ q, r = some q → Vd q
theorem st_vd {M : Int} {f : Fr} (h : f.ok M) : VdO f.st := fun q e => ⟨(st_fine f h q e).lo, fun x hx => ((st_fine f h q e).hi x hx).1⟩
theorem eqb_hDs {a b : Option Int} : D.eqb (hD a) (hD b) = decide (a = b) := by
  cases a <;> cases b <;> simp [hD, D.eqb]
  rfl
theorem eqb_qDs {a b : Iv} : D.eqb (qD a) (qD b) = decide (a = b) := by
  obtain ⟨a1, a2⟩ := a; obtain ⟨b1, b2⟩ := b
  simp only [qD, D.eqb, D.eqbs, eqb_hDs, Bool.and_true, Prod.mk.injEq, Bool.decide_and]; rfl
theorem eqb_rgDs {a b : Option Iv} : D.eqb (rgD a) (rgD b) = decide (a = b) := by
  cases a with
  | none => cases b with
    | none => rfl
    | some b => simp [rgD, qD, D.eqb]
  | some a => cases b with
    | none => simp [rgD, qD, D.eqb]
    | some b => simp only [rgD, eqb_qDs, Option.some.injEq]
theorem cmp_rgD {a : Option Iv} : D.cmp (rgD a) = true := by
  cases a with
  | none => rfl
  | some q => obtain ⟨a, b⟩ := q; cases b <;> rfl
theorem cmp_hD {a : Option Int} : D.cmp (hD a) = true := by cases a <;> rfl
theorem op_eqR {a b : Option Iv} : op2 .eq (rgD a) (rgD b) = some (.bl (decide (a = b))) := by rw [op_eqD cmp_rgD cmp_rgD, eqb_rgDs]
theorem op_neR {a b : Option Iv} : op2 .ne (rgD a) (rgD b) = some (.bl (!decide (a = b))) := by rw [op_neD cmp_rgD cmp_rgD, eqb_rgDs]
theorem op_eqH {a b : Option Int} : op2 .eq (hD a) (hD b) = some (.bl (decide (a = b))) := by rw [op_eqD cmp_hD cmp_hD, eqb_hDs]
theorem op_neH {a b : Option Int} : op2 .ne (hD a) (hD b) = some (.bl (!decide (a = b))) := by rw [op_neD cmp_hD cmp_hD, eqb_hDs]
theorem op_eqIH {a : Int} {b : Option Int} : op2 .eq (.int a) (hD b) = some (.bl (decide (some a = b))) := op_eqH (a := some a)
theorem op_eqB {a b : Bool} : op2 .eq (.bl a) (.bl b) = some (.bl (a == b)) := by rw [op_eqD rfl rfl]; rfl
theorem op_neB {a b : Bool} : op2 .ne (.bl a) (.bl b) = some (.bl (!(a == b))) := by rw [op_neD rfl rfl]; rfl
def plainOf : Option Iv → Option Lk
  | none => none
  | some (a, none) => some ⟨.strut, a, a⟩
  | some (a, some b) => if a = b then some ⟨.bar, a, a⟩ else if a = 0 then some ⟨.cable, b, b⟩ else some ⟨.piston, a, b⟩
def lkD : Option Lk → D
  | none => .non
  | some l => l.d
def candOf (a b : Option Iv) : List Int := ([a, b].filterMap fun r => r.map (·.1)) ++ ([a, b].filterMap fun r => r.bind fun q => q.2.map (· + 1))
def tellOf (a b : Option Iv) : Option Int := if (candOf a b).filter (fun d => inR a d != inR b d) = [] then none else some (minI ((candOf a b).filter fun d => inR a d != inR b d))
theorem plain_st {r : Option Iv} (h : VdO r) {l : Lk} (e : plainOf r = some l) : (Fr.leaf l).st = r := by
  cases r with
  | none => cases e
  | some q =>
    obtain ⟨a, b⟩ := q
    have hv := h (a, b) rfl
    cases b with
    | none => cases e; rfl
    | some b =>
      simp only [plainOf] at e
      split at e
      · rename_i hab; cases e; simp [Fr.st, Lk.rg, hab]
      · split at e
        · rename_i h0; cases e; simp [Fr.st, Lk.rg, h0]
        · cases e; simp [Fr.st, Lk.rg]
theorem plain_none {r : Option Iv} : plainOf r = none ↔ r = none := by
  rcases r with _ | ⟨a, _ | b⟩
  · simp [plainOf]
  · simp [plainOf]
  · simp only [plainOf]; split
    · simp
    · split <;> simp
theorem plain_ok {r : Option Iv} {T : Int} (h : ∀ q, r = some q → Fine T T q) {l : Lk} (e : plainOf r = some l) : l.ok T := by
  rcases r with _ | ⟨a, _ | b⟩
  · cases e
  · cases e
    have f := h _ rfl
    exact ⟨f.lo, Int.le_refl _, f.up, fun _ => rfl⟩
  · have f := h _ rfl
    have f1 := f.lo; have f2 := f.up; have f3 := f.hi b rfl
    simp only at f1 f2 f3
    simp only [plainOf] at e
    split at e
    · cases e; exact ⟨f1, Int.le_refl _, f2, fun _ => rfl⟩
    · split at e
      · cases e; exact ⟨(by omega : 0 ≤ b), Int.le_refl _, f3.2, fun _ => rfl⟩
      · cases e; exact ⟨f1, f3.1, f3.2, fun h => by cases h⟩
theorem plain_inj {a b : Option Iv} (ha : VdO a) (hb : VdO b) : plainOf a = plainOf b ↔ a = b := by
  refine ⟨fun e => ?_, fun e => by rw [e]⟩
  cases h : plainOf a with
  | none => rw [h] at e; rw [plain_none.mp h, plain_none.mp e.symm]
  | some l => rw [← plain_st ha h, ← plain_st hb (e ▸ h)]
theorem cand_lo {a b r : Option Iv} {q : Iv} (h : r = a ∨ r = b) (e : r = some q) : q.1 ∈ candOf a b := by
  refine List.mem_append_left _ (List.mem_filterMap.mpr ⟨r, ?_, by rw [e]; rfl⟩)
  rcases h with rfl | rfl <;> simp
theorem cand_hi {a b r : Option Iv} {q : Iv} {x : Int} (h : r = a ∨ r = b) (e : r = some q) (e2 : q.2 = some x) : x + 1 ∈ candOf a b := by
  refine List.mem_append_right _ (List.mem_filterMap.mpr ⟨r, ?_, by rw [e]; simp [e2]⟩)
  rcases h with rfl | rfl <;> simp
theorem inR_iff {r : Option Iv} {d : Int} : inR r d = true ↔ ∃ q, r = some q ∧ q.1 ≤ d ∧ ∀ h, q.2 = some h → d ≤ h := by
  cases r with
  | none => simp [inR]
  | some q =>
    obtain ⟨a, b⟩ := q
    cases b <;> simp [inR]
theorem cand_half {a b : Option Iv} {r s : Option Iv} (hr : (r = a ∧ s = b) ∨ (r = b ∧ s = a)) (vr : VdO r) (vs : VdO s) {d : Int} (h1 : inR r d = true) (h2 : inR s d = false) : ∃ c, c ∈ candOf a b ∧ c ≤ d ∧ inR r c ≠ inR s c := by
  have hra : r = a ∨ r = b := by rcases hr with ⟨h, _⟩ | ⟨h, _⟩ <;> simp [h]
  have hsa : s = a ∨ s = b := by rcases hr with ⟨_, h⟩ | ⟨_, h⟩ <;> simp [h]
  obtain ⟨⟨l, h⟩, rfl, e1, e2⟩ := inR_iff.mp h1
  simp only at e1 e2
  have vq := (vr _ rfl).hi
  have inl : inR (some (l, h)) l = true := inR_iff.mpr ⟨_, rfl, Int.le_refl _, fun x hx => vq x hx⟩
  by_cases c : inR s l = false
  · exact ⟨l, cand_lo hra rfl, e1, by rw [inl, c]; decide⟩
  · obtain ⟨⟨l', h'⟩, rfl, f1, f2⟩ := inR_iff.mp (by simpa using c : inR s l = true)
    simp only at f1 f2
    cases h' with
    | none =>
      have : inR (some (l', none)) d = true := inR_iff.mpr ⟨_, rfl, by show l' ≤ d; omega, fun x hx => by cases hx⟩
      rw [this] at h2; cases h2
    | some x =>
      have q1 := f2 x rfl
      have q2 : ¬ d ≤ x := fun q => by
        have : inR (some (l', some x)) d = true := inR_iff.mpr ⟨_, rfl, by show l' ≤ d; omega, fun y hy => by cases hy; exact q⟩
        rw [this] at h2; cases h2
      refine ⟨x + 1, cand_hi hsa rfl rfl, by omega, ?_⟩
      have i1 : inR (some (l, h)) (x + 1) = true := inR_iff.mpr ⟨_, rfl, by show l ≤ x + 1; omega, fun y hy => by have := e2 y hy; omega⟩
      have i2 : inR (some (l', some x)) (x + 1) = false := by
        cases e : inR (some (l', some x)) (x + 1) with
        | false => rfl
        | true => obtain ⟨q, hq, _, g⟩ := inR_iff.mp e; cases hq; have := g x rfl; omega
      rw [i1, i2]; decide
theorem cand_key {a b : Option Iv} (ha : VdO a) (hb : VdO b) {d : Int} (hd : inR a d ≠ inR b d) : ∃ c, c ∈ candOf a b ∧ c ≤ d ∧ inR a c ≠ inR b c := by
  cases e1 : inR a d with
  | true =>
    cases e2 : inR b d with
    | true => rw [e1, e2] at hd; exact absurd rfl hd
    | false => exact cand_half (.inl ⟨rfl, rfl⟩) ha hb e1 e2
  | false =>
    cases e2 : inR b d with
    | false => rw [e1, e2] at hd; exact absurd rfl hd
    | true =>
      obtain ⟨c, h1, h2, h3⟩ := cand_half (a := a) (b := b) (.inr ⟨rfl, rfl⟩) hb ha e2 e1
      exact ⟨c, h1, h2, Ne.symm h3⟩
theorem cand_nonneg {a b : Option Iv} (ha : VdO a) (hb : VdO b) {c : Int} (h : c ∈ candOf a b) : 0 ≤ c := by
  have v : ∀ r, r ∈ [a, b] → VdO r := fun r hr => by
    simp only [List.mem_cons, List.not_mem_nil, or_false] at hr
    rcases hr with rfl | rfl
    · exact ha
    · exact hb
  rcases List.mem_append.mp h with h | h
  · obtain ⟨r, hr, e⟩ := List.mem_filterMap.mp h
    cases r with
    | none => cases e
    | some q => cases e; exact (v _ hr q rfl).lo
  · obtain ⟨r, hr, e⟩ := List.mem_filterMap.mp h
    rcases r with _ | ⟨x, _ | y⟩
    · cases e
    · cases e
    · cases e
      have := (v _ hr (x, some y) rfl)
      have h1 := this.lo; have h2 := this.hi y rfl
      simp only at h1 h2
      show 0 ≤ y + 1
      omega
theorem st_ext {a b : Option Iv} (ha : VdO a) (hb : VdO b) (h : ∀ d, 0 ≤ d → inR a d = inR b d) : a = b := by
  have one : ∀ {a b : Option Iv}, VdO a → VdO b → (∀ d, 0 ≤ d → inR a d = inR b d) → ∀ q, a = some q → ∃ p, b = some p ∧ p.1 ≤ q.1 ∧ ∀ x, p.2 = some x → ∃ y, q.2 = some y ∧ y ≤ x := by
    intro a b ha hb h q e
    subst e
    have v := ha q rfl
    obtain ⟨p, e, p1, p2⟩ := inR_iff.mp ((h q.1 v.lo).symm.trans (inR_iff.mpr ⟨q, rfl, Int.le_refl _, fun x hx => v.hi x hx⟩))
    refine ⟨p, e, p1, fun x hx => ?_⟩
    cases hy : q.2 with
    | none =>
      have v1 := v.lo
      have v2 := p2 x hx
      have m : 0 ≤ x + 1 := by omega
      have : inR (some q) (x + 1) = true := inR_iff.mpr ⟨q, rfl, by omega, fun y e => by rw [hy] at e; cases e⟩
      obtain ⟨p', e', _, g⟩ := inR_iff.mp ((h _ m).symm.trans this)
      rw [e] at e'; cases e'
      have := g x hx; omega
    | some y =>
      refine ⟨y, rfl, ?_⟩
      have v1 := v.lo
      have v3 := v.hi y hy
      have : inR (some q) y = true := inR_iff.mpr ⟨q, rfl, v3, fun z e => by rw [hy] at e; cases e; exact Int.le_refl _⟩
      obtain ⟨p', e', _, g⟩ := inR_iff.mp ((h y (by omega)).symm.trans this)
      rw [e] at e'; cases e'
      exact g x hx
  cases a with
  | none =>
    cases b with
    | none => rfl
    | some p => obtain ⟨q, e, _⟩ := one hb ha (fun d hd => (h d hd).symm) p rfl; cases e
  | some q =>
    obtain ⟨p, e, h1, h2⟩ := one ha hb h q rfl
    obtain ⟨q', e', h3, h4⟩ := one hb ha (fun d hd => (h d hd).symm) p e
    cases e'
    rw [e]
    obtain ⟨q1, q2⟩ := q
    obtain ⟨p1, p2⟩ := p
    simp only at h1 h2 h3 h4
    have : q1 = p1 := by omega
    subst this
    cases q2 with
    | none => cases p2 with
      | none => rfl
      | some x => obtain ⟨y, e, _⟩ := h2 x rfl; cases e
    | some y => cases p2 with
      | none => obtain ⟨x, e, _⟩ := h4 y rfl; cases e
      | some x =>
        obtain ⟨y', e1, e2⟩ := h2 x rfl
        obtain ⟨x', e3, e4⟩ := h4 y rfl
        cases e1; cases e3
        rw [show x = y by omega]
/-- the least distance in one of the two alone -/
theorem tell_none {a b : Option Iv} (ha : VdO a) (hb : VdO b) : tellOf a b = none ↔ a = b := by
  have e : tellOf a b = if (candOf a b).filter (fun d => inR a d != inR b d) = [] then none else some (minI ((candOf a b).filter fun d => inR a d != inR b d)) := rfl
  rw [e]
  constructor
  · intro h
    split at h
    · rename_i h0
      refine st_ext ha hb fun d _ => ?_
      by_cases c : inR a d = inR b d
      · exact c
      · obtain ⟨x, h1, h2, h3⟩ := cand_key ha hb c
        rw [List.filter_eq_nil_iff] at h0
        exact absurd (by simpa using h3) (h0 x h1)
    · cases h
  · rintro rfl
    rw [if_pos]
    rw [List.filter_eq_nil_iff]; intro x _; simp
theorem tell_some {a b : Option Iv} (ha : VdO a) (hb : VdO b) {t : Int} (h : tellOf a b = some t) : 0 ≤ t ∧ inR a t ≠ inR b t ∧ ∀ d, d < t → inR a d = inR b d := by
  have e : tellOf a b = if (candOf a b).filter (fun d => inR a d != inR b d) = [] then none else some (minI ((candOf a b).filter fun d => inR a d != inR b d)) := rfl
  rw [e] at h
  split at h
  · cases h
  · rename_i hne
    cases h
    have hm := minI_mem hne
    obtain ⟨m1, m2⟩ := List.mem_filter.mp hm
    refine ⟨cand_nonneg ha hb m1, by simpa using m2, fun d hd => ?_⟩
    by_cases c : inR a d = inR b d
    · exact c
    · obtain ⟨x, h1, h2, h3⟩ := cand_key ha hb c
      have := minI_le (List.mem_filter.mpr ⟨h1, by simpa using h3⟩ : x ∈ (candOf a b).filter fun d => inR a d != inR b d)
      omega
theorem tell_comm {a b : Option Iv} (ha : VdO a) (hb : VdO b) : tellOf a b = tellOf b a := by
  cases e1 : tellOf a b with
  | none => rw [(tell_none hb ha).mpr ((tell_none ha hb).mp e1).symm]
  | some t =>
    cases e2 : tellOf b a with
    | none => rw [(tell_none ha hb).mpr ((tell_none hb ha).mp e2).symm] at e1; cases e1
    | some u =>
      obtain ⟨_, h2, h3⟩ := tell_some ha hb e1
      obtain ⟨_, k2, k3⟩ := tell_some hb ha e2
      have : t = u := by
        rcases Int.lt_trichotomy t u with h | h | h
        · exact absurd (k3 t h).symm h2
        · exact h
        · exact absurd (h3 u h).symm k2
      rw [this]
end MP

/-! SpX: the links of a frame, listed and exchanged. -/
namespace MP
open PySem
theorem jw_in' {r : Bool} : (decide (("row" : Str) = jw r) || decide (("side" : Str) = jw r)) = true := by cases r <;> simp [jw]
theorem lk_notin' {l : Lk} : (decide (("row" : Str) = l.k.s) || decide (("side" : Str) = l.k.s)) = false := by
  have h1 : ¬ ("row" : Str) = l.k.s := fun h => (Kd.ty l.k).1 h.symm
  have h2 : ¬ ("side" : Str) = l.k.s := fun h => (Kd.ty l.k).2 h.symm
  simp [h1, h2]
theorem lk_ix0 {l : Lk} {S : Store} : ix S l.d (.int 0) = some (.str l.k.s) := by unfold Lk.d; split <;> simp [we_var, we_cn, we_cb, we_ci, we_cs, we_glob, we_tup, we_lst, we_newc, we_op, we_isN, we_notN, we_neg, we_nt, we_and, we_or, we_chain, we_ite, we_call, we_calll, we_b1, we_b2, we_isi, we_ix, we_sl, we_lc, we_lrng, we_olen, we_oix, we_inD, we_getD, we_calld, we_osl, we_rev, we_isB, we_cnew, we_clen, we_cpop, we_cnil, wl_nil, wl_cons, wr_it, wr_rng, wr_enum, wr_zip, ws_set, ws_own, ws_frz, ws_unp, ws_unp2, ws_par, ws_app, ws_oset, ws_cset, ws_ifs, ws_fors, ws_whil, ws_ret, ws_retn, ws_brk, ws_cnt, ws_pas, ws_expr, wb_nil, wb_cons, thn_nx, thn_rt, thn_bk, thn_ct, fin_nx, fin_rt, turn_nx, turn_ct, turn_bk, turn_rt, List.set_cons_zero, List.set_cons_succ, List.set_nil, List.getElem?_cons_zero, List.getElem?_cons_succ, Option.some.injEq, Sl.v.injEq, Sl.o.injEq, D.bl.injEq, D.int.injEq, D.str.injEq, D.tup.injEq, D.lst.injEq, D.cell.injEq, D.fn.injEq, exists_eq_left, exists_eq_left', exists_eq_right, List.length_cons, List.length_nil, Nat.reduceAdd, Nat.reduceSub, List.replicate_succ, List.replicate_zero, List.map_cons, List.map_nil, List.cons_append, List.nil_append, List.append_nil, true_and, and_true, false_and, and_false, forall_const, Bool.true_eq_false, Bool.false_eq_true, Bool.not_true, Bool.not_false, setMany, asg, Tg.slots, wipeE, optI, testOf, ne_eq, not_true_eq_false, not_false_eq_true, exists_const, reduceCtorEq, false_or, or_false, true_or, or_true, exists_false, Int.reduceLT, Int.reduceLE, Int.reduceNeg, Int.reduceAdd, Int.reduceSub, decide_true, decide_false, Bool.and_true, Bool.true_and, Bool.and_false, Bool.false_and, Bool.or_true, Bool.true_or, Bool.or_false, Bool.false_or, false_implies, true_implies, if_true, if_false, ite_true, ite_false, implies_true, envOf, op_add, op_addT, op_addL, op_sub, op_mul, op_fdiv, op_mod, op_lt, op_le, op_gt, op_ge, op_eqI, op_neI, op_eqS, op_neS, len_tup, len_lst, len_rol, abs_int, max2, min2, int_int, int_bl, nn_non, nn_int, nn_bl, nn_str, nn_tup, nn_lst, ix_tup, ix_lst, ix_rol, ix_cell, op_inS2, sl_tup, sl_lst, items_tup, items_lst, atI_0, atI_1, atI_2, cutD_1, cutD_from1, cutD_to, p10_6, p10_7, p10_8, p10_9, p10_10, p10_11, p10_12, sum_ints, all_bls, any_bls, eqb_ints, eqb_nilL, isin_ints, enum_lst, cmp_int, cmp_non, cmp_str, cmp_dInts, cmp_nilL, it_int_non, it_int_bl, it_int_int, it_int_str, it_int_tup, it_int_lst, it_int_rol, it_bool_non, it_bool_bl, it_bool_int, it_bool_str, it_bool_tup, it_bool_lst, it_bool_rol, it_str_non, it_str_bl, it_str_int, it_str_str, it_str_tup, it_str_lst, it_str_rol, it_tuple_non, it_tuple_bl, it_tuple_int, it_tuple_str, it_tuple_tup, it_tuple_lst, it_tuple_rol, it_list_non, it_list_bl, it_list_int, it_list_str, it_list_tup, it_list_lst, it_list_rol]
theorem op_notinP {x a b : Str} : op2 .notin (.str x) (.tup [.str a, .str b]) = some (.bl !(decide (a = x) || (decide (b = x)))) := by
  simp only [op2, D.flat, List.all_cons, List.all_nil, List.any_cons, List.any_nil, D.eqb, Bool.and_self, if_true, Bool.or_false]
  rfl
theorem sp_links {M : Int} (f : Fr) : ∀ {n : Nat} {S : Store}, f.ok M → f.lks.length ≤ 100000 → f.dep ≤ n → ec gv pr n F._law_links [f.d] S = some (.lst (f.lks.map Lk.d), S) := by
  refine Fr.ind (P := fun f => ∀ {n : Nat} {S : Store}, f.ok M → f.lks.length ≤ 100000 → f.dep ≤ n → ec gv pr n F._law_links [f.d] S = some (.lst (f.lks.map Lk.d), S)) (fun l n S h1 h2 h3 => ?_) (fun r ps ih n S h1 h2 h3 => ?_) f
  · refine of_wc ?_
    simp only [Fr.dep] at h3
    rw [wc_def' (by omega) pr__law_links rfl]
    simp only [fd__law_links, we_var, we_cn, we_cb, we_ci, we_cs, we_glob, we_tup, we_lst, we_newc, we_op, we_isN, we_notN, we_neg, we_nt, we_and, we_or, we_chain, we_ite, we_call, we_calll, we_b1, we_b2, we_isi, we_ix, we_sl, we_lc, we_lrng, we_olen, we_oix, we_inD, we_getD, we_calld, we_osl, we_rev, we_isB, we_cnew, we_clen, we_cpop, we_cnil, wl_nil, wl_cons, wr_it, wr_rng, wr_enum, wr_zip, ws_set, ws_own, ws_frz, ws_unp, ws_unp2, ws_par, ws_app, ws_oset, ws_cset, ws_ifs, ws_fors, ws_whil, ws_ret, ws_retn, ws_brk, ws_cnt, ws_pas, ws_expr, wb_nil, wb_cons, thn_nx, thn_rt, thn_bk, thn_ct, fin_nx, fin_rt, turn_nx, turn_ct, turn_bk, turn_rt, List.set_cons_zero, List.set_cons_succ, List.set_nil, List.getElem?_cons_zero, List.getElem?_cons_succ, Option.some.injEq, Sl.v.injEq, Sl.o.injEq, D.bl.injEq, D.int.injEq, D.str.injEq, D.tup.injEq, D.lst.injEq, D.cell.injEq, D.fn.injEq, exists_eq_left, exists_eq_left', exists_eq_right, List.length_cons, List.length_nil, Nat.reduceAdd, Nat.reduceSub, List.replicate_succ, List.replicate_zero, List.map_cons, List.map_nil, List.cons_append, List.nil_append, List.append_nil, true_and, and_true, false_and, and_false, forall_const, Bool.true_eq_false, Bool.false_eq_true, Bool.not_true, Bool.not_false, setMany, asg, Tg.slots, wipeE, optI, testOf, ne_eq, not_true_eq_false, not_false_eq_true, exists_const, reduceCtorEq, false_or, or_false, true_or, or_true, exists_false, Int.reduceLT, Int.reduceLE, Int.reduceNeg, Int.reduceAdd, Int.reduceSub, decide_true, decide_false, Bool.and_true, Bool.true_and, Bool.and_false, Bool.false_and, Bool.or_true, Bool.true_or, Bool.or_false, Bool.false_or, false_implies, true_implies, if_true, if_false, ite_true, ite_false, implies_true, envOf, op_add, op_addT, op_addL, op_sub, op_mul, op_fdiv, op_mod, op_lt, op_le, op_gt, op_ge, op_eqI, op_neI, op_eqS, op_neS, len_tup, len_lst, len_rol, abs_int, max2, min2, int_int, int_bl, nn_non, nn_int, nn_bl, nn_str, nn_tup, nn_lst, ix_tup, ix_lst, ix_rol, ix_cell, op_inS2, sl_tup, sl_lst, items_tup, items_lst, atI_0, atI_1, atI_2, cutD_1, cutD_from1, cutD_to, p10_6, p10_7, p10_8, p10_9, p10_10, p10_11, p10_12, sum_ints, all_bls, any_bls, eqb_ints, eqb_nilL, isin_ints, enum_lst, cmp_int, cmp_non, cmp_str, cmp_dInts, cmp_nilL, it_int_non, it_int_bl, it_int_int, it_int_str, it_int_tup, it_int_lst, it_int_rol, it_bool_non, it_bool_bl, it_bool_int, it_bool_str, it_bool_tup, it_bool_lst, it_bool_rol, it_str_non, it_str_bl, it_str_int, it_str_str, it_str_tup, it_str_lst, it_str_rol, it_tuple_non, it_tuple_bl, it_tuple_int, it_tuple_str, it_tuple_tup, it_tuple_lst, it_tuple_rol, it_list_non, it_list_bl, it_list_int, it_list_str, it_list_tup, it_list_lst, it_list_rol, Fr.d, lk_ix0, op_notinP, lk_notin', Fr.lks]
  · refine of_wc ?_
    simp only [Fr.ok, Fr.dep, Fr.oks_iff, Fr.lks, Fr.lkss_eq] at h1 h2 h3
    rw [wc_def' (by omega) pr__law_links rfl]
    simp only [fd__law_links, we_var, we_cn, we_cb, we_ci, we_cs, we_glob, we_tup, we_lst, we_newc, we_op, we_isN, we_notN, we_neg, we_nt, we_and, we_or, we_chain, we_ite, we_call, we_calll, we_b1, we_b2, we_isi, we_ix, we_sl, we_lc, we_lrng, we_olen, we_oix, we_inD, we_getD, we_calld, we_osl, we_rev, we_isB, we_cnew, we_clen, we_cpop, we_cnil, wl_nil, wl_cons, wr_it, wr_rng, wr_enum, wr_zip, ws_set, ws_own, ws_frz, ws_unp, ws_unp2, ws_par, ws_app, ws_oset, ws_cset, ws_ifs, ws_fors, ws_whil, ws_ret, ws_retn, ws_brk, ws_cnt, ws_pas, ws_expr, wb_nil, wb_cons, thn_nx, thn_rt, thn_bk, thn_ct, fin_nx, fin_rt, turn_nx, turn_ct, turn_bk, turn_rt, List.set_cons_zero, List.set_cons_succ, List.set_nil, List.getElem?_cons_zero, List.getElem?_cons_succ, Option.some.injEq, Sl.v.injEq, Sl.o.injEq, D.bl.injEq, D.int.injEq, D.str.injEq, D.tup.injEq, D.lst.injEq, D.cell.injEq, D.fn.injEq, exists_eq_left, exists_eq_left', exists_eq_right, List.length_cons, List.length_nil, Nat.reduceAdd, Nat.reduceSub, List.replicate_succ, List.replicate_zero, List.map_cons, List.map_nil, List.cons_append, List.nil_append, List.append_nil, true_and, and_true, false_and, and_false, forall_const, Bool.true_eq_false, Bool.false_eq_true, Bool.not_true, Bool.not_false, setMany, asg, Tg.slots, wipeE, optI, testOf, ne_eq, not_true_eq_false, not_false_eq_true, exists_const, reduceCtorEq, false_or, or_false, true_or, or_true, exists_false, Int.reduceLT, Int.reduceLE, Int.reduceNeg, Int.reduceAdd, Int.reduceSub, decide_true, decide_false, Bool.and_true, Bool.true_and, Bool.and_false, Bool.false_and, Bool.or_true, Bool.true_or, Bool.or_false, Bool.false_or, false_implies, true_implies, if_true, if_false, ite_true, ite_false, implies_true, envOf, op_add, op_addT, op_addL, op_sub, op_mul, op_fdiv, op_mod, op_lt, op_le, op_gt, op_ge, op_eqI, op_neI, op_eqS, op_neS, len_tup, len_lst, len_rol, abs_int, max2, min2, int_int, int_bl, nn_non, nn_int, nn_bl, nn_str, nn_tup, nn_lst, ix_tup, ix_lst, ix_rol, ix_cell, op_inS2, sl_tup, sl_lst, items_tup, items_lst, atI_0, atI_1, atI_2, cutD_1, cutD_from1, cutD_to, p10_6, p10_7, p10_8, p10_9, p10_10, p10_11, p10_12, sum_ints, all_bls, any_bls, eqb_ints, eqb_nilL, isin_ints, enum_lst, cmp_int, cmp_non, cmp_str, cmp_dInts, cmp_nilL, it_int_non, it_int_bl, it_int_int, it_int_str, it_int_tup, it_int_lst, it_int_rol, it_bool_non, it_bool_bl, it_bool_int, it_bool_str, it_bool_tup, it_bool_lst, it_bool_rol, it_str_non, it_str_bl, it_str_int, it_str_str, it_str_tup, it_str_lst, it_str_rol, it_tuple_non, it_tuple_bl, it_tuple_int, it_tuple_str, it_tuple_tup, it_tuple_lst, it_tuple_rol, it_list_non, it_list_bl, it_list_int, it_list_str, it_list_tup, it_list_lst, it_list_rol, Fr.d, Fr.ds_eq, op_notinP, jw_in']
    refine wf_inv Fr.d ps (fun pre δ S1 => S1 = S ∧ ∃ x, δ = [.v (.tup (.str (jw r) :: ps.map Fr.d)), .v (.lst ((pre.flatMap Fr.lks).map Lk.d)), x]) ⟨rfl, _, rfl⟩ ?_ ?_
    · rintro pre p post rfl δ S1 ⟨rfl, x, rfl⟩
      have hl : (pre.flatMap Fr.lks).length + p.lks.length ≤ 100000 := by
        simp only [List.flatMap_append, List.flatMap_cons, List.length_append] at h2
        omega
      have hp : p ∈ pre ++ p :: post := by simp
      have hp2 := Fr.dep_le hp
      refine ⟨_, rfl, ?_⟩
      simp only [we_var, we_cn, we_cb, we_ci, we_cs, we_glob, we_tup, we_lst, we_newc, we_op, we_isN, we_notN, we_neg, we_nt, we_and, we_or, we_chain, we_ite, we_call, we_calll, we_b1, we_b2, we_isi, we_ix, we_sl, we_lc, we_lrng, we_olen, we_oix, we_inD, we_getD, we_calld, we_osl, we_rev, we_isB, we_cnew, we_clen, we_cpop, we_cnil, wl_nil, wl_cons, wr_it, wr_rng, wr_enum, wr_zip, ws_set, ws_own, ws_frz, ws_unp, ws_unp2, ws_par, ws_app, ws_oset, ws_cset, ws_ifs, ws_fors, ws_whil, ws_ret, ws_retn, ws_brk, ws_cnt, ws_pas, ws_expr, wb_nil, wb_cons, thn_nx, thn_rt, thn_bk, thn_ct, fin_nx, fin_rt, turn_nx, turn_ct, turn_bk, turn_rt, List.set_cons_zero, List.set_cons_succ, List.set_nil, List.getElem?_cons_zero, List.getElem?_cons_succ, Option.some.injEq, Sl.v.injEq, Sl.o.injEq, D.bl.injEq, D.int.injEq, D.str.injEq, D.tup.injEq, D.lst.injEq, D.cell.injEq, D.fn.injEq, exists_eq_left, exists_eq_left', exists_eq_right, List.length_cons, List.length_nil, Nat.reduceAdd, Nat.reduceSub, List.replicate_succ, List.replicate_zero, List.map_cons, List.map_nil, List.cons_append, List.nil_append, List.append_nil, true_and, and_true, false_and, and_false, forall_const, Bool.true_eq_false, Bool.false_eq_true, Bool.not_true, Bool.not_false, setMany, asg, Tg.slots, wipeE, optI, testOf, ne_eq, not_true_eq_false, not_false_eq_true, exists_const, reduceCtorEq, false_or, or_false, true_or, or_true, exists_false, Int.reduceLT, Int.reduceLE, Int.reduceNeg, Int.reduceAdd, Int.reduceSub, decide_true, decide_false, Bool.and_true, Bool.true_and, Bool.and_false, Bool.false_and, Bool.or_true, Bool.true_or, Bool.or_false, Bool.false_or, false_implies, true_implies, if_true, if_false, ite_true, ite_false, implies_true, envOf, op_add, op_addT, op_addL, op_sub, op_mul, op_fdiv, op_mod, op_lt, op_le, op_gt, op_ge, op_eqI, op_neI, op_eqS, op_neS, len_tup, len_lst, len_rol, abs_int, max2, min2, int_int, int_bl, nn_non, nn_int, nn_bl, nn_str, nn_tup, nn_lst, ix_tup, ix_lst, ix_rol, ix_cell, op_inS2, sl_tup, sl_lst, items_tup, items_lst, atI_0, atI_1, atI_2, cutD_1, cutD_from1, cutD_to, p10_6, p10_7, p10_8, p10_9, p10_10, p10_11, p10_12, sum_ints, all_bls, any_bls, eqb_ints, eqb_nilL, isin_ints, enum_lst, cmp_int, cmp_non, cmp_str, cmp_dInts, cmp_nilL, it_int_non, it_int_bl, it_int_int, it_int_str, it_int_tup, it_int_lst, it_int_rol, it_bool_non, it_bool_bl, it_bool_int, it_bool_str, it_bool_tup, it_bool_lst, it_bool_rol, it_str_non, it_str_bl, it_str_int, it_str_str, it_str_tup, it_str_lst, it_str_rol, it_tuple_non, it_tuple_bl, it_tuple_int, it_tuple_str, it_tuple_tup, it_tuple_lst, it_tuple_rol, it_list_non, it_list_bl, it_list_int, it_list_str, it_list_tup, it_list_lst, it_list_rol, wc_of (ih p hp (n := n - 1) (S := S1) (h1.2.2 p hp) (by omega) (by omega)), List.length_map]
      rw [if_pos (by show _ ≤ 1000000; omega)]
      simp
    · rintro δ S1 ⟨rfl, x, rfl⟩
      simp [we_var, we_cn, we_cb, we_ci, we_cs, we_glob, we_tup, we_lst, we_newc, we_op, we_isN, we_notN, we_neg, we_nt, we_and, we_or, we_chain, we_ite, we_call, we_calll, we_b1, we_b2, we_isi, we_ix, we_sl, we_lc, we_lrng, we_olen, we_oix, we_inD, we_getD, we_calld, we_osl, we_rev, we_isB, we_cnew, we_clen, we_cpop, we_cnil, wl_nil, wl_cons, wr_it, wr_rng, wr_enum, wr_zip, ws_set, ws_own, ws_frz, ws_unp, ws_unp2, ws_par, ws_app, ws_oset, ws_cset, ws_ifs, ws_fors, ws_whil, ws_ret, ws_retn, ws_brk, ws_cnt, ws_pas, ws_expr, wb_nil, wb_cons, thn_nx, thn_rt, thn_bk, thn_ct, fin_nx, fin_rt, turn_nx, turn_ct, turn_bk, turn_rt, List.set_cons_zero, List.set_cons_succ, List.set_nil, List.getElem?_cons_zero, List.getElem?_cons_succ, Option.some.injEq, Sl.v.injEq, Sl.o.injEq, D.bl.injEq, D.int.injEq, D.str.injEq, D.tup.injEq, D.lst.injEq, D.cell.injEq, D.fn.injEq, exists_eq_left, exists_eq_left', exists_eq_right, List.length_cons, List.length_nil, Nat.reduceAdd, Nat.reduceSub, List.replicate_succ, List.replicate_zero, List.map_cons, List.map_nil, List.cons_append, List.nil_append, List.append_nil, true_and, and_true, false_and, and_false, forall_const, Bool.true_eq_false, Bool.false_eq_true, Bool.not_true, Bool.not_false, setMany, asg, Tg.slots, wipeE, optI, testOf, ne_eq, not_true_eq_false, not_false_eq_true, exists_const, reduceCtorEq, false_or, or_false, true_or, or_true, exists_false, Int.reduceLT, Int.reduceLE, Int.reduceNeg, Int.reduceAdd, Int.reduceSub, decide_true, decide_false, Bool.and_true, Bool.true_and, Bool.and_false, Bool.false_and, Bool.or_true, Bool.true_or, Bool.or_false, Bool.false_or, false_implies, true_implies, if_true, if_false, ite_true, ite_false, implies_true, envOf, op_add, op_addT, op_addL, op_sub, op_mul, op_fdiv, op_mod, op_lt, op_le, op_gt, op_ge, op_eqI, op_neI, op_eqS, op_neS, len_tup, len_lst, len_rol, abs_int, max2, min2, int_int, int_bl, nn_non, nn_int, nn_bl, nn_str, nn_tup, nn_lst, ix_tup, ix_lst, ix_rol, ix_cell, op_inS2, sl_tup, sl_lst, items_tup, items_lst, atI_0, atI_1, atI_2, cutD_1, cutD_from1, cutD_to, p10_6, p10_7, p10_8, p10_9, p10_10, p10_11, p10_12, sum_ints, all_bls, any_bls, eqb_ints, eqb_nilL, isin_ints, enum_lst, cmp_int, cmp_non, cmp_str, cmp_dInts, cmp_nilL, it_int_non, it_int_bl, it_int_int, it_int_str, it_int_tup, it_int_lst, it_int_rol, it_bool_non, it_bool_bl, it_bool_int, it_bool_str, it_bool_tup, it_bool_lst, it_bool_rol, it_str_non, it_str_bl, it_str_int, it_str_str, it_str_tup, it_str_lst, it_str_rol, it_tuple_non, it_tuple_bl, it_tuple_int, it_tuple_str, it_tuple_tup, it_tuple_lst, it_tuple_rol, it_list_non, it_list_bl, it_list_int, it_list_str, it_list_tup, it_list_lst, it_list_rol, Fr.lks, Fr.lkss_eq]
mutual
/-- the link of this number exchanged -/
def Fr.wth : Fr → Int → Lk → Fr
  | .leaf k, i, l => if i = 0 then .leaf l else .leaf k
  | .jt r ps, i, l => .jt r (Fr.wths ps i l)
def Fr.wths : List Fr → Int → Lk → List Fr
  | [], _, _ => []
  | p :: ps, i, l => Fr.wth p i l :: Fr.wths ps (i - p.lks.length) l
end
theorem wths_app : ∀ {a b : List Fr} {i : Int} {l : Lk}, Fr.wths (a ++ b) i l = Fr.wths a i l ++ Fr.wths b (i - (Fr.lkss a).length) l
  | [], b, i, l => by simp [Fr.wths, Fr.lkss]
  | p :: a, b, i, l => by
    rw [List.cons_append, Fr.wths, Fr.wths, wths_app, Fr.lkss, List.length_append, List.cons_append]
    congr 2
    congr 1
    omega
theorem wths_len : ∀ {a : List Fr} {i : Int} {l : Lk}, (Fr.wths a i l).length = a.length
  | [], _, _ => rfl
  | p :: a, i, l => by rw [Fr.wths, List.length_cons, wths_len, List.length_cons]
def setI (ls : List Lk) (i : Int) (l : Lk) : List Lk := if 0 ≤ i then ls.set i.toNat l else ls
theorem setI_len {ls : List Lk} {i : Int} {l : Lk} : (setI ls i l).length = ls.length := by unfold setI; split <;> simp
theorem setI_app {a b : List Lk} {i : Int} {l : Lk} : setI (a ++ b) i l = setI a i l ++ setI b (i - a.length) l := by
  unfold setI
  by_cases h : 0 ≤ i
  · rw [if_pos h, if_pos h]
    by_cases h2 : i < a.length
    · rw [if_neg (by omega), List.set_append_left _ _ (by omega)]
    · rw [if_pos (by omega), List.set_append_right _ _ (by omega), List.set_eq_of_length_le (l := a) (by omega)]
      congr 2; omega
  · rw [if_neg h, if_neg h, if_neg (by omega)]
mutual
theorem lks_wth : ∀ (f : Fr) (i : Int) (l : Lk), (f.wth i l).lks = setI f.lks i l
  | .leaf k, i, l => by
    unfold Fr.wth setI
    by_cases h : i = 0
    · subst h; simp [Fr.lks]
    · rw [if_neg h]
      split
      · simp only [Fr.lks]; rw [List.set_eq_of_length_le]; simp; omega
      · rfl
  | .jt r ps, i, l => by rw [Fr.wth, Fr.lks, Fr.lks]; exact lkss_wth ps i l
theorem lkss_wth : ∀ (ps : List Fr) (i : Int) (l : Lk), Fr.lkss (Fr.wths ps i l) = setI (Fr.lkss ps) i l
  | [], i, l => by unfold setI; simp [Fr.wths, Fr.lkss]
  | p :: ps, i, l => by rw [Fr.wths, Fr.lkss, Fr.lkss, setI_app, lks_wth p i l, lkss_wth ps _ l]
end
mutual
theorem dep_wth : ∀ (f : Fr) (i : Int) (l : Lk), (f.wth i l).dep = f.dep
  | .leaf k, i, l => by unfold Fr.wth; split <;> rfl
  | .jt r ps, i, l => by rw [Fr.wth, Fr.dep, Fr.dep, deps_wth ps i l]
theorem deps_wth : ∀ (ps : List Fr) (i : Int) (l : Lk), Fr.deps (Fr.wths ps i l) = Fr.deps ps
  | [], i, l => rfl
  | p :: ps, i, l => by rw [Fr.wths, Fr.deps, Fr.deps, dep_wth p i l, deps_wth ps _ l]
end
mutual
theorem ok_wth {M : Int} : ∀ (f : Fr) (i : Int) (l : Lk), f.ok M → l.ok M → (f.wth i l).ok M
  | .leaf k, i, l, h, hl => by unfold Fr.wth; split; exact hl; exact h
  | .jt r ps, i, l, h, hl => by
    rw [Fr.wth]
    rw [Fr.ok] at h ⊢
    rw [wths_len]
    exact ⟨h.1, h.2.1, oks_wth ps i l h.2.2 hl⟩
theorem oks_wth {M : Int} : ∀ (ps : List Fr) (i : Int) (l : Lk), Fr.oks M ps → l.ok M → Fr.oks M (Fr.wths ps i l)
  | [], i, l, h, hl => trivial
  | p :: ps, i, l, h, hl => ⟨ok_wth p i l h.1 hl, oks_wth ps _ l h.2 hl⟩
end
theorem fit_wth {f : Fr} {i : Int} {l : Lk} (h : f.fit) (hl : l.ok 1000000000) : (f.wth i l).fit :=
  ⟨ok_wth f i l h.ok hl, by rw [dep_wth]; exact h.dep, by rw [lks_wth, setI_len]; exact h.lks⟩
mutual
/-- the same shape, the links in this relation -/
def Fr.Rl (R : Lk → Lk → Prop) : Fr → Fr → Prop
  | .leaf a, .leaf b => R a b
  | .jt r ps, .jt r' qs => r = r' ∧ Fr.Rls R ps qs
  | _, _ => False
def Fr.Rls (R : Lk → Lk → Prop) : List Fr → List Fr → Prop
  | [], [] => True
  | p :: ps, q :: qs => Fr.Rl R p q ∧ Fr.Rls R ps qs
  | _, _ => False
end
mutual
theorem Rl_refl {R : Lk → Lk → Prop} (h : ∀ a, R a a) : ∀ f : Fr, Fr.Rl R f f
  | .leaf a => h a
  | .jt r ps => ⟨rfl, Rls_refl h ps⟩
theorem Rls_refl {R : Lk → Lk → Prop} (h : ∀ a, R a a) : ∀ ps : List Fr, Fr.Rls R ps ps
  | [] => trivial
  | p :: ps => ⟨Rl_refl h p, Rls_refl h ps⟩
end
abbrev Fr.Sh : Fr → Fr → Prop := Fr.Rl fun _ _ => True
abbrev Fr.Shs : List Fr → List Fr → Prop := Fr.Rls fun _ _ => True
mutual
theorem sh_wth : ∀ (f g : Fr) (i : Int) (l : Lk), Fr.Sh f g → Fr.Sh f (g.wth i l)
  | .leaf a, .leaf b, i, l, h => by unfold Fr.wth; split <;> trivial
  | .jt r ps, .jt r' qs, i, l, h => by
    rw [Fr.wth]
    exact ⟨h.1, shs_wth ps qs i l h.2⟩
  | .leaf _, .jt _ _, _, _, h => h.elim
  | .jt _ _, .leaf _, _, _, h => h.elim
theorem shs_wth : ∀ (ps qs : List Fr) (i : Int) (l : Lk), Fr.Shs ps qs → Fr.Shs ps (Fr.wths qs i l)
  | [], [], i, l, h => trivial
  | p :: ps, q :: qs, i, l, h => ⟨sh_wth p q i l h.1, shs_wth ps qs _ l h.2⟩
  | [], _ :: _, _, _, h => h.elim
  | _ :: _, [], _, _, h => h.elim
end
mutual
theorem sh_len : ∀ (f g : Fr), Fr.Sh f g → f.lks.length = g.lks.length
  | .leaf a, .leaf b, h => rfl
  | .jt r ps, .jt r' qs, h => by rw [Fr.lks, Fr.lks]; exact shs_len ps qs h.2
  | .leaf _, .jt _ _, h => h.elim
  | .jt _ _, .leaf _, h => h.elim
theorem shs_len : ∀ (ps qs : List Fr), Fr.Shs ps qs → (Fr.lkss ps).length = (Fr.lkss qs).length
  | [], [], h => rfl
  | p :: ps, q :: qs, h => by rw [Fr.lkss, Fr.lkss, List.length_append, List.length_append, sh_len p q h.1, shs_len ps qs h.2]
  | [], _ :: _, h => h.elim
  | _ :: _, [], h => h.elim
end
mutual
theorem Rl_of {R : Lk → Lk → Prop} : ∀ (f g : Fr), Fr.Sh f g → (∀ (i : Nat) (a b : Lk), f.lks[i]? = some a → g.lks[i]? = some b → R a b) → Fr.Rl R f g
  | .leaf a, .leaf b, h, k => k 0 a b rfl rfl
  | .jt r ps, .jt r' qs, h, k => ⟨h.1, Rls_of ps qs h.2 k⟩
  | .leaf _, .jt _ _, h, _ => h.elim
  | .jt _ _, .leaf _, h, _ => h.elim
theorem Rls_of {R : Lk → Lk → Prop} : ∀ (ps qs : List Fr), Fr.Shs ps qs → (∀ (i : Nat) (a b : Lk), (Fr.lkss ps)[i]? = some a → (Fr.lkss qs)[i]? = some b → R a b) → Fr.Rls R ps qs
  | [], [], h, k => trivial
  | p :: ps, q :: qs, h, k => by
    have e := sh_len p q h.1
    refine ⟨Rl_of p q h.1 fun i a b ha hb => k i a b ?_ ?_, Rls_of ps qs h.2 fun i a b ha hb => k (i + p.lks.length) a b ?_ ?_⟩
    · rw [Fr.lkss, List.getElem?_append_left (List.getElem?_eq_some_iff.mp ha).1]; exact ha
    · rw [Fr.lkss, List.getElem?_append_left (List.getElem?_eq_some_iff.mp hb).1]; exact hb
    · rw [Fr.lkss, List.getElem?_append_right (by omega), Nat.add_sub_cancel]; exact ha
    · rw [Fr.lkss, List.getElem?_append_right (by omega), e, Nat.add_sub_cancel]; exact hb
  | [], _ :: _, h, _ => h.elim
  | _ :: _, [], h, _ => h.elim
end
theorem Rls_zip {R : Lk → Lk → Prop} : ∀ (ps qs : List Fr), Fr.Rls R ps qs → ∃ zs : List (Fr × Fr), ps = zs.map (·.1) ∧ qs = zs.map (·.2) ∧ ∀ z, z ∈ zs → Fr.Rl R z.1 z.2
  | [], [], h => ⟨[], rfl, rfl, fun z hz => by cases hz⟩
  | p :: ps, q :: qs, h => by
    obtain ⟨zs, h1, h2, h3⟩ := Rls_zip ps qs h.2
    refine ⟨(p, q) :: zs, by rw [h1]; rfl, by rw [h2]; rfl, fun z hz => ?_⟩
    rcases List.mem_cons.mp hz with rfl | hz
    · exact h.1
    · exact h3 z hz
  | [], _ :: _, h => h.elim
  | _ :: _, [], h => h.elim
end MP

/-! SpM: frames that stand in a law, checked. -/
namespace MP
open PySem
/-- a check of fitness -/
def Lk.okB (M : Int) (l : Lk) : Bool := decide (0 ≤ l.lo) && decide (l.lo ≤ l.hi) && decide (l.hi ≤ M) && (l.k.two || decide (l.hi = l.lo))
mutual
def Fr.okB (M : Int) : Fr → Bool
  | .leaf l => l.okB M
  | .jt _ ps => decide (2 ≤ ps.length) && decide (ps.length ≤ 6) && Fr.oksB M ps
def Fr.oksB (M : Int) : List Fr → Bool
  | [] => true
  | p :: ps => Fr.okB M p && Fr.oksB M ps
end
mutual
theorem okB_of {M : Int} : ∀ f : Fr, f.okB M = true → f.ok M
  | .leaf l, h => by
    simp only [Fr.okB, Lk.okB, Bool.and_eq_true, decide_eq_true_eq, Bool.or_eq_true] at h
    exact ⟨h.1.1.1, h.1.1.2, h.1.2, fun e => by rcases h.2 with h | h; rw [e] at h; cases h; exact h⟩
  | .jt r ps, h => by
    simp only [Fr.okB, Bool.and_eq_true, decide_eq_true_eq] at h
    exact ⟨h.1.1, h.1.2, oksB_of ps h.2⟩
theorem oksB_of {M : Int} : ∀ ps : List Fr, Fr.oksB M ps = true → Fr.oks M ps
  | [], _ => trivial
  | p :: ps, h => by
    simp only [Fr.oksB, Bool.and_eq_true] at h
    exact ⟨okB_of p h.1, oksB_of ps h.2⟩
end
theorem fit_of {f : Fr} (h : (f.okB 1000000000 && decide (f.dep ≤ 6) && decide (f.lks.length ≤ 30)) = true) : f.fit := by
  simp only [Bool.and_eq_true, decide_eq_true_eq] at h
  exact ⟨okB_of f h.1.1, h.1.2, h.2⟩
end MP

/-! SpF: links and frames among arbitrary values. -/
namespace MP
open PySem
/-- values that are no cells, not too deep -/
def vb : Nat → D → Bool
  | _, .non => true
  | _, .bl _ => true
  | _, .int _ => true
  | _, .str _ => true
  | k + 1, .tup xs => decide (xs.length ≤ 30) && xs.all (vb k)
  | k + 1, .lst xs => decide (xs.length ≤ 30) && xs.all (vb k)
  | _, _ => false
theorem vb_tup {k : Nat} {xs : List D} (h : vb k (.tup xs) = true) : ∃ j, k = j + 1 ∧ xs.length ≤ 30 ∧ ∀ x, x ∈ xs → vb j x = true := by
  cases k with
  | zero => simp [vb] at h
  | succ j => simp only [vb, Bool.and_eq_true, decide_eq_true_eq, List.all_eq_true] at h; exact ⟨j, rfl, h.1, h.2⟩
theorem vb_lst {k : Nat} {xs : List D} (h : vb k (.lst xs) = true) : ∃ j, k = j + 1 ∧ xs.length ≤ 30 ∧ ∀ x, x ∈ xs → vb j x = true := by
  cases k with
  | zero => simp [vb] at h
  | succ j => simp only [vb, Bool.and_eq_true, decide_eq_true_eq, List.all_eq_true] at h; exact ⟨j, rfl, h.1, h.2⟩
theorem vb_cmp : ∀ {k : Nat} {d : D}, vb k d = true → d.pl = true ∧ d.dep ≤ k := by
  intro k
  induction k with
  | zero => intro d h; cases d <;> first | exact ⟨rfl, Nat.zero_le _⟩ | simp [vb] at h
  | succ k ih =>
    intro d h
    cases d with
    | tup xs =>
      obtain ⟨j, e, _, h2⟩ := vb_tup h
      cases e
      exact ⟨by show D.pls xs = true; exact pls_of fun x hx => (ih (h2 x hx)).1, by show D.deps xs + 1 ≤ k + 1; have := deps_of (n := k) fun x hx => (ih (h2 x hx)).2; omega⟩
    | lst xs =>
      obtain ⟨j, e, _, h2⟩ := vb_lst h
      cases e
      exact ⟨by show D.pls xs = true; exact pls_of fun x hx => (ih (h2 x hx)).1, by show D.deps xs + 1 ≤ k + 1; have := deps_of (n := k) fun x hx => (ih (h2 x hx)).2; omega⟩
    | non => exact ⟨rfl, Nat.zero_le _⟩
    | bl b => exact ⟨rfl, Nat.zero_le _⟩
    | int i => exact ⟨rfl, Nat.zero_le _⟩
    | str s => exact ⟨rfl, Nat.zero_le _⟩
    | rol xs => simp [vb] at h
    | fn g => simp [vb] at h
    | cell c => simp [vb] at h
theorem vb_c {k : Nat} (hk : k ≤ 50) {d : D} (h : vb k d = true) : d.cmp = true := by
  have := vb_cmp h
  unfold D.cmp
  rw [this.1, Bool.true_and]
  exact decide_eq_true (by omega)
def isI : D → Bool
  | .int v => decide (0 ≤ v) && decide (v ≤ 1000000000)
  | _ => false
theorem sp_int_any {n : Nat} (hn : 1 ≤ n) {k : Nat} {d : D} (h : vb k d = true) {S : Store} : ec gv pr n F.is_integer [d, .int 0, .int 1000000000] S = some (.bl (isI d), S) := by
  cases d with
  | int v => rw [sp_is_integer hn]; rfl
  | fn g => simp [vb] at h
  | cell c => simp [vb] at h
  | _ =>
    refine of_wc ?_
    rw [wc_def' hn pr_is_integer rfl]
    simp [fd_is_integer, we_var, we_cn, we_cb, we_ci, we_cs, we_glob, we_tup, we_lst, we_newc, we_op, we_isN, we_notN, we_neg, we_nt, we_and, we_or, we_chain, we_ite, we_call, we_calll, we_b1, we_b2, we_isi, we_ix, we_sl, we_lc, we_lrng, we_olen, we_oix, we_inD, we_getD, we_calld, we_osl, we_rev, we_isB, we_cnew, we_clen, we_cpop, we_cnil, wl_nil, wl_cons, wr_it, wr_rng, wr_enum, wr_zip, ws_set, ws_own, ws_frz, ws_unp, ws_unp2, ws_par, ws_app, ws_oset, ws_cset, ws_ifs, ws_fors, ws_whil, ws_ret, ws_retn, ws_brk, ws_cnt, ws_pas, ws_expr, wb_nil, wb_cons, thn_nx, thn_rt, thn_bk, thn_ct, fin_nx, fin_rt, turn_nx, turn_ct, turn_bk, turn_rt, List.set_cons_zero, List.set_cons_succ, List.set_nil, List.getElem?_cons_zero, List.getElem?_cons_succ, Option.some.injEq, Sl.v.injEq, Sl.o.injEq, D.bl.injEq, D.int.injEq, D.str.injEq, D.tup.injEq, D.lst.injEq, D.cell.injEq, D.fn.injEq, exists_eq_left, exists_eq_left', exists_eq_right, List.length_cons, List.length_nil, Nat.reduceAdd, Nat.reduceSub, List.replicate_succ, List.replicate_zero, List.map_cons, List.map_nil, List.cons_append, List.nil_append, List.append_nil, true_and, and_true, false_and, and_false, forall_const, Bool.true_eq_false, Bool.false_eq_true, Bool.not_true, Bool.not_false, setMany, asg, Tg.slots, wipeE, optI, testOf, ne_eq, not_true_eq_false, not_false_eq_true, exists_const, reduceCtorEq, false_or, or_false, true_or, or_true, exists_false, Int.reduceLT, Int.reduceLE, Int.reduceNeg, Int.reduceAdd, Int.reduceSub, decide_true, decide_false, Bool.and_true, Bool.true_and, Bool.and_false, Bool.false_and, Bool.or_true, Bool.true_or, Bool.or_false, Bool.false_or, false_implies, true_implies, if_true, if_false, ite_true, ite_false, implies_true, envOf, op_add, op_addT, op_addL, op_sub, op_mul, op_fdiv, op_mod, op_lt, op_le, op_gt, op_ge, op_eqI, op_neI, op_eqS, op_neS, len_tup, len_lst, len_rol, abs_int, max2, min2, int_int, int_bl, nn_non, nn_int, nn_bl, nn_str, nn_tup, nn_lst, ix_tup, ix_lst, ix_rol, ix_cell, op_inS2, sl_tup, sl_lst, items_tup, items_lst, atI_0, atI_1, atI_2, cutD_1, cutD_from1, cutD_to, p10_6, p10_7, p10_8, p10_9, p10_10, p10_11, p10_12, sum_ints, all_bls, any_bls, eqb_ints, eqb_nilL, isin_ints, enum_lst, cmp_int, cmp_non, cmp_str, cmp_dInts, cmp_nilL, it_int_non, it_int_bl, it_int_int, it_int_str, it_int_tup, it_int_lst, it_int_rol, it_bool_non, it_bool_bl, it_bool_int, it_bool_str, it_bool_tup, it_bool_lst, it_bool_rol, it_str_non, it_str_bl, it_str_int, it_str_str, it_str_tup, it_str_lst, it_str_rol, it_tuple_non, it_tuple_bl, it_tuple_int, it_tuple_str, it_tuple_tup, it_tuple_lst, it_tuple_rol, it_list_non, it_list_bl, it_list_int, it_list_str, it_list_tup, it_list_lst, it_list_rol, isI]
theorem sp_from_any {n : Nat} (hn : 1 ≤ n) {k : Nat} {d : D} (h : vb k d = true) {S : Store} : ec gv pr n F._law_from [d, .int 0, .int 1000000000] S = some (.bl (isI d), S) := by
  cases d with
  | fn g => simp [vb] at h
  | cell c => simp [vb] at h
  | int v =>
    refine of_wc ?_
    rw [wc_def' hn pr__law_from rfl]
    by_cases h : 0 ≤ v <;> by_cases h2 : v ≤ 1000000000 <;> simp [fd__law_from, we_var, we_cn, we_cb, we_ci, we_cs, we_glob, we_tup, we_lst, we_newc, we_op, we_isN, we_notN, we_neg, we_nt, we_and, we_or, we_chain, we_ite, we_call, we_calll, we_b1, we_b2, we_isi, we_ix, we_sl, we_lc, we_lrng, we_olen, we_oix, we_inD, we_getD, we_calld, we_osl, we_rev, we_isB, we_cnew, we_clen, we_cpop, we_cnil, wl_nil, wl_cons, wr_it, wr_rng, wr_enum, wr_zip, ws_set, ws_own, ws_frz, ws_unp, ws_unp2, ws_par, ws_app, ws_oset, ws_cset, ws_ifs, ws_fors, ws_whil, ws_ret, ws_retn, ws_brk, ws_cnt, ws_pas, ws_expr, wb_nil, wb_cons, thn_nx, thn_rt, thn_bk, thn_ct, fin_nx, fin_rt, turn_nx, turn_ct, turn_bk, turn_rt, List.set_cons_zero, List.set_cons_succ, List.set_nil, List.getElem?_cons_zero, List.getElem?_cons_succ, Option.some.injEq, Sl.v.injEq, Sl.o.injEq, D.bl.injEq, D.int.injEq, D.str.injEq, D.tup.injEq, D.lst.injEq, D.cell.injEq, D.fn.injEq, exists_eq_left, exists_eq_left', exists_eq_right, List.length_cons, List.length_nil, Nat.reduceAdd, Nat.reduceSub, List.replicate_succ, List.replicate_zero, List.map_cons, List.map_nil, List.cons_append, List.nil_append, List.append_nil, true_and, and_true, false_and, and_false, forall_const, Bool.true_eq_false, Bool.false_eq_true, Bool.not_true, Bool.not_false, setMany, asg, Tg.slots, wipeE, optI, testOf, ne_eq, not_true_eq_false, not_false_eq_true, exists_const, reduceCtorEq, false_or, or_false, true_or, or_true, exists_false, Int.reduceLT, Int.reduceLE, Int.reduceNeg, Int.reduceAdd, Int.reduceSub, decide_true, decide_false, Bool.and_true, Bool.true_and, Bool.and_false, Bool.false_and, Bool.or_true, Bool.true_or, Bool.or_false, Bool.false_or, false_implies, true_implies, if_true, if_false, ite_true, ite_false, implies_true, envOf, op_add, op_addT, op_addL, op_sub, op_mul, op_fdiv, op_mod, op_lt, op_le, op_gt, op_ge, op_eqI, op_neI, op_eqS, op_neS, len_tup, len_lst, len_rol, abs_int, max2, min2, int_int, int_bl, nn_non, nn_int, nn_bl, nn_str, nn_tup, nn_lst, ix_tup, ix_lst, ix_rol, ix_cell, op_inS2, sl_tup, sl_lst, items_tup, items_lst, atI_0, atI_1, atI_2, cutD_1, cutD_from1, cutD_to, p10_6, p10_7, p10_8, p10_9, p10_10, p10_11, p10_12, sum_ints, all_bls, any_bls, eqb_ints, eqb_nilL, isin_ints, enum_lst, cmp_int, cmp_non, cmp_str, cmp_dInts, cmp_nilL, it_int_non, it_int_bl, it_int_int, it_int_str, it_int_tup, it_int_lst, it_int_rol, it_bool_non, it_bool_bl, it_bool_int, it_bool_str, it_bool_tup, it_bool_lst, it_bool_rol, it_str_non, it_str_bl, it_str_int, it_str_str, it_str_tup, it_str_lst, it_str_rol, it_tuple_non, it_tuple_bl, it_tuple_int, it_tuple_str, it_tuple_tup, it_tuple_lst, it_tuple_rol, it_list_non, it_list_bl, it_list_int, it_list_str, it_list_tup, it_list_lst, it_list_rol, isI, h, h2]
  | _ =>
    refine of_wc ?_
    rw [wc_def' hn pr__law_from rfl]
    simp [fd__law_from, we_var, we_cn, we_cb, we_ci, we_cs, we_glob, we_tup, we_lst, we_newc, we_op, we_isN, we_notN, we_neg, we_nt, we_and, we_or, we_chain, we_ite, we_call, we_calll, we_b1, we_b2, we_isi, we_ix, we_sl, we_lc, we_lrng, we_olen, we_oix, we_inD, we_getD, we_calld, we_osl, we_rev, we_isB, we_cnew, we_clen, we_cpop, we_cnil, wl_nil, wl_cons, wr_it, wr_rng, wr_enum, wr_zip, ws_set, ws_own, ws_frz, ws_unp, ws_unp2, ws_par, ws_app, ws_oset, ws_cset, ws_ifs, ws_fors, ws_whil, ws_ret, ws_retn, ws_brk, ws_cnt, ws_pas, ws_expr, wb_nil, wb_cons, thn_nx, thn_rt, thn_bk, thn_ct, fin_nx, fin_rt, turn_nx, turn_ct, turn_bk, turn_rt, List.set_cons_zero, List.set_cons_succ, List.set_nil, List.getElem?_cons_zero, List.getElem?_cons_succ, Option.some.injEq, Sl.v.injEq, Sl.o.injEq, D.bl.injEq, D.int.injEq, D.str.injEq, D.tup.injEq, D.lst.injEq, D.cell.injEq, D.fn.injEq, exists_eq_left, exists_eq_left', exists_eq_right, List.length_cons, List.length_nil, Nat.reduceAdd, Nat.reduceSub, List.replicate_succ, List.replicate_zero, List.map_cons, List.map_nil, List.cons_append, List.nil_append, List.append_nil, true_and, and_true, false_and, and_false, forall_const, Bool.true_eq_false, Bool.false_eq_true, Bool.not_true, Bool.not_false, setMany, asg, Tg.slots, wipeE, optI, testOf, ne_eq, not_true_eq_false, not_false_eq_true, exists_const, reduceCtorEq, false_or, or_false, true_or, or_true, exists_false, Int.reduceLT, Int.reduceLE, Int.reduceNeg, Int.reduceAdd, Int.reduceSub, decide_true, decide_false, Bool.and_true, Bool.true_and, Bool.and_false, Bool.false_and, Bool.or_true, Bool.true_or, Bool.or_false, Bool.false_or, false_implies, true_implies, if_true, if_false, ite_true, ite_false, implies_true, envOf, op_add, op_addT, op_addL, op_sub, op_mul, op_fdiv, op_mod, op_lt, op_le, op_gt, op_ge, op_eqI, op_neI, op_eqS, op_neS, len_tup, len_lst, len_rol, abs_int, max2, min2, int_int, int_bl, nn_non, nn_int, nn_bl, nn_str, nn_tup, nn_lst, ix_tup, ix_lst, ix_rol, ix_cell, op_inS2, sl_tup, sl_lst, items_tup, items_lst, atI_0, atI_1, atI_2, cutD_1, cutD_from1, cutD_to, p10_6, p10_7, p10_8, p10_9, p10_10, p10_11, p10_12, sum_ints, all_bls, any_bls, eqb_ints, eqb_nilL, isin_ints, enum_lst, cmp_int, cmp_non, cmp_str, cmp_dInts, cmp_nilL, it_int_non, it_int_bl, it_int_int, it_int_str, it_int_tup, it_int_lst, it_int_rol, it_bool_non, it_bool_bl, it_bool_int, it_bool_str, it_bool_tup, it_bool_lst, it_bool_rol, it_str_non, it_str_bl, it_str_int, it_str_str, it_str_tup, it_str_lst, it_str_rol, it_tuple_non, it_tuple_bl, it_tuple_int, it_tuple_str, it_tuple_tup, it_tuple_lst, it_tuple_rol, it_list_non, it_list_bl, it_list_int, it_list_str, it_list_tup, it_list_lst, it_list_rol, isI]
def kdOf (s : Str) : Option Kd := if s = "bar" then some .bar else if s = "piston" then some .piston else if s = "cable" then some .cable else if s = "strut" then some .strut else if s = "cut" then some .cut else none
theorem kdOf_some {s : Str} {k : Kd} (h : kdOf s = some k) : s = k.s := by
  unfold kdOf at h
  repeat' split at h
  all_goals first | (cases h; assumption) | cases h
theorem kdOf_none {s : Str} (h : kdOf s = none) : ∀ k : Kd, s ≠ k.s := by
  unfold kdOf at h
  repeat' split at h
  all_goals first | cases h | skip
  intro k
  cases k <;> assumption
theorem kdOf_s (k : Kd) : kdOf k.s = some k := by cases k <;> decide +kernel
def leq : List D → Bool
  | [.int a, .int b] => decide (a ≤ b)
  | _ => true
def LK : D → Bool
  | .tup (.str s :: r) => r.all isI && (match kdOf s with
    | none => false
    | some k => decide (r.length = if k.two then 2 else 1) && leq r)
  | _ => false
theorem LK_lk {d : D} (h : LK d = true) : ∃ l : Lk, l.ok 1000000000 ∧ d = l.d := by
  unfold LK at h
  split at h
  · rename_i s r
    cases ek : kdOf s with
    | none => rw [ek] at h; simp at h
    | some k =>
      have := kdOf_some ek
      subst this
      rw [ek] at h
      simp only [Bool.and_eq_true, decide_eq_true_eq, List.all_eq_true] at h
      obtain ⟨ha, hl, hq⟩ := h
      have isint : ∀ x, x ∈ r → ∃ v, x = .int v ∧ 0 ≤ v ∧ v ≤ 1000000000 := fun x hx => by
        have := ha x hx
        unfold isI at this
        split at this
        · rename_i v; simp only [Bool.and_eq_true, decide_eq_true_eq] at this; exact ⟨v, rfl, this⟩
        · cases this
      cases ht : k.two with
      | true =>
        rw [ht] at hl
        match r, hl with
        | [x, y], _ =>
          obtain ⟨a, rfl, a0, a1⟩ := isint x (by simp)
          obtain ⟨b, rfl, b0, b1⟩ := isint y (by simp)
          simp only [leq, decide_eq_true_eq] at hq
          exact ⟨⟨k, a, b⟩, ⟨a0, hq, b1, fun e => by simp only at e; rw [ht] at e; cases e⟩, by unfold Lk.d; rw [if_pos ht]⟩
      | false =>
        rw [ht] at hl
        match r, hl with
        | [x], _ =>
          obtain ⟨a, rfl, a0, a1⟩ := isint x (by simp)
          exact ⟨⟨k, a, a⟩, ⟨a0, Int.le_refl _, a1, fun _ => rfl⟩, by unfold Lk.d; rw [if_neg (by simp only; rw [ht]; decide)]⟩
  · cases h
theorem lk_LK {l : Lk} (h : l.ok 1000000000) : LK l.d = true := by
  have h0 := h.lo; have h1 := h.le; have h2 := h.hi
  unfold Lk.d
  cases ht : l.k.two with
  | true => simp [LK, kdOf_s, ht, isI, leq]; omega
  | false => simp [LK, kdOf_s, ht, isI, leq]; omega
theorem isI_all {r : List D} (h : r.all isI = true) : ∃ vs : List Int, r = vs.map .int := by
  induction r with
  | nil => exact ⟨[], rfl⟩
  | cons x r ih =>
    simp only [List.all_cons, Bool.and_eq_true] at h
    obtain ⟨vs, rfl⟩ := ih h.2
    cases x with
    | int v => exact ⟨v :: vs, rfl⟩
    | _ => simp [isI] at h
theorem szs_no {s : Str} (h : kdOf s = none) : inK true szs s = true := by
  have k := kdOf_none h
  have h1 := k .bar; have h2 := k .piston; have h3 := k .cable; have h4 := k .strut; have h5 := k .cut
  simp only [Kd.s] at h1 h2 h3 h4 h5
  simp [inK, szs, h1, h2, h3, h4, h5]
theorem wg_id {cl : CallT} {e : E} {tg : Tg} {δ : Env} {S : Store} {r : List D} {Q : List D → Store → Prop} (g : D → D) (h : ∀ x, x ∈ r → ∃ δ1, asg tg x δ = some δ1 ∧ WE gv cl e δ1 S fun y S2 => y = g x ∧ S2 = S) (q : Q (r.map g) S) : WG (ev gv cl e) (evs gv cl .nil) tg δ r S Q := by
  have := wg_all (gv := gv) (cl := cl) (fun x : D => x) g (xs := r) h q
  rwa [List.map_id'] at this
theorem wg_idf {cl : CallT} {e : E} {c : Es} {tg : Tg} {δ : Env} {S : Store} {r : List D} {Q : List D → Store → Prop} (g : D → D) (p : D → Bool) (h : ∀ x, x ∈ r → ∃ δ1, asg tg x δ = some δ1 ∧ WL gv cl c δ1 S fun t S1 => S1 = S ∧ testOf t = some (p x) ∧ (p x = true → WE gv cl e δ1 S fun y S2 => y = g x ∧ S2 = S)) (q : Q ((r.filter p).map g) S) : WG (ev gv cl e) (evs gv cl c) tg δ r S Q := by
  have := wg_map (gv := gv) (cl := cl) (fun x : D => x) g p (xs := r) h q
  rwa [List.map_id'] at this
theorem sp_link_any {n : Nat} (hn : 2 ≤ n) {k : Nat} (hk : k ≤ 50) {d : D} (h : vb k d = true) {S : Store} : ec gv pr n F.is_link [d] S = some (.bl (LK d), S) := by
  refine of_wc ?_
  rw [wc_def' (by omega) pr_is_link rfl]
  have hc := vb_c hk h
  cases d with
  | fn g => simp [vb] at h
  | cell c => simp [vb] at h
  | tup xs =>
    obtain ⟨j, rfl, hl, hv⟩ := vb_tup h
    have e2 := op_eqD hc (show D.cmp (.tup []) = true from rfl)
    cases xs with
    | nil => simp [fd_is_link, we_var, we_cn, we_cb, we_ci, we_cs, we_glob, we_tup, we_lst, we_newc, we_op, we_isN, we_notN, we_neg, we_nt, we_and, we_or, we_chain, we_ite, we_call, we_calll, we_b1, we_b2, we_isi, we_ix, we_sl, we_lc, we_lrng, we_olen, we_oix, we_inD, we_getD, we_calld, we_osl, we_rev, we_isB, we_cnew, we_clen, we_cpop, we_cnil, wl_nil, wl_cons, wr_it, wr_rng, wr_enum, wr_zip, ws_set, ws_own, ws_frz, ws_unp, ws_unp2, ws_par, ws_app, ws_oset, ws_cset, ws_ifs, ws_fors, ws_whil, ws_ret, ws_retn, ws_brk, ws_cnt, ws_pas, ws_expr, wb_nil, wb_cons, thn_nx, thn_rt, thn_bk, thn_ct, fin_nx, fin_rt, turn_nx, turn_ct, turn_bk, turn_rt, List.set_cons_zero, List.set_cons_succ, List.set_nil, List.getElem?_cons_zero, List.getElem?_cons_succ, Option.some.injEq, Sl.v.injEq, Sl.o.injEq, D.bl.injEq, D.int.injEq, D.str.injEq, D.tup.injEq, D.lst.injEq, D.cell.injEq, D.fn.injEq, exists_eq_left, exists_eq_left', exists_eq_right, List.length_cons, List.length_nil, Nat.reduceAdd, Nat.reduceSub, List.replicate_succ, List.replicate_zero, List.map_cons, List.map_nil, List.cons_append, List.nil_append, List.append_nil, true_and, and_true, false_and, and_false, forall_const, Bool.true_eq_false, Bool.false_eq_true, Bool.not_true, Bool.not_false, setMany, asg, Tg.slots, wipeE, optI, testOf, ne_eq, not_true_eq_false, not_false_eq_true, exists_const, reduceCtorEq, false_or, or_false, true_or, or_true, exists_false, Int.reduceLT, Int.reduceLE, Int.reduceNeg, Int.reduceAdd, Int.reduceSub, decide_true, decide_false, Bool.and_true, Bool.true_and, Bool.and_false, Bool.false_and, Bool.or_true, Bool.true_or, Bool.or_false, Bool.false_or, false_implies, true_implies, if_true, if_false, ite_true, ite_false, implies_true, envOf, op_add, op_addT, op_addL, op_sub, op_mul, op_fdiv, op_mod, op_lt, op_le, op_gt, op_ge, op_eqI, op_neI, op_eqS, op_neS, len_tup, len_lst, len_rol, abs_int, max2, min2, int_int, int_bl, nn_non, nn_int, nn_bl, nn_str, nn_tup, nn_lst, ix_tup, ix_lst, ix_rol, ix_cell, op_inS2, sl_tup, sl_lst, items_tup, items_lst, atI_0, atI_1, atI_2, cutD_1, cutD_from1, cutD_to, p10_6, p10_7, p10_8, p10_9, p10_10, p10_11, p10_12, sum_ints, all_bls, any_bls, eqb_ints, eqb_nilL, isin_ints, enum_lst, cmp_int, cmp_non, cmp_str, cmp_dInts, cmp_nilL, it_int_non, it_int_bl, it_int_int, it_int_str, it_int_tup, it_int_lst, it_int_rol, it_bool_non, it_bool_bl, it_bool_int, it_bool_str, it_bool_tup, it_bool_lst, it_bool_rol, it_str_non, it_str_bl, it_str_int, it_str_str, it_str_tup, it_str_lst, it_str_rol, it_tuple_non, it_tuple_bl, it_tuple_int, it_tuple_str, it_tuple_tup, it_tuple_lst, it_tuple_rol, it_list_non, it_list_bl, it_list_int, it_list_str, it_list_tup, it_list_lst, it_list_rol, e2, D.eqb, D.eqbs, LK]
    | cons x r =>
      have e3 : D.eqb (.tup (x :: r)) (.tup []) = false := rfl
      rw [e3] at e2
      cases x with
      | fn g => have := hv (.fn g) (by simp); simp [vb] at this
      | cell c => have := hv (.cell c) (by simp); simp [vb] at this
      | str s =>
        cases ek : kdOf s with
        | none => simp [fd_is_link, we_var, we_cn, we_cb, we_ci, we_cs, we_glob, we_tup, we_lst, we_newc, we_op, we_isN, we_notN, we_neg, we_nt, we_and, we_or, we_chain, we_ite, we_call, we_calll, we_b1, we_b2, we_isi, we_ix, we_sl, we_lc, we_lrng, we_olen, we_oix, we_inD, we_getD, we_calld, we_osl, we_rev, we_isB, we_cnew, we_clen, we_cpop, we_cnil, wl_nil, wl_cons, wr_it, wr_rng, wr_enum, wr_zip, ws_set, ws_own, ws_frz, ws_unp, ws_unp2, ws_par, ws_app, ws_oset, ws_cset, ws_ifs, ws_fors, ws_whil, ws_ret, ws_retn, ws_brk, ws_cnt, ws_pas, ws_expr, wb_nil, wb_cons, thn_nx, thn_rt, thn_bk, thn_ct, fin_nx, fin_rt, turn_nx, turn_ct, turn_bk, turn_rt, List.set_cons_zero, List.set_cons_succ, List.set_nil, List.getElem?_cons_zero, List.getElem?_cons_succ, Option.some.injEq, Sl.v.injEq, Sl.o.injEq, D.bl.injEq, D.int.injEq, D.str.injEq, D.tup.injEq, D.lst.injEq, D.cell.injEq, D.fn.injEq, exists_eq_left, exists_eq_left', exists_eq_right, List.length_cons, List.length_nil, Nat.reduceAdd, Nat.reduceSub, List.replicate_succ, List.replicate_zero, List.map_cons, List.map_nil, List.cons_append, List.nil_append, List.append_nil, true_and, and_true, false_and, and_false, forall_const, Bool.true_eq_false, Bool.false_eq_true, Bool.not_true, Bool.not_false, setMany, asg, Tg.slots, wipeE, optI, testOf, ne_eq, not_true_eq_false, not_false_eq_true, exists_const, reduceCtorEq, false_or, or_false, true_or, or_true, exists_false, Int.reduceLT, Int.reduceLE, Int.reduceNeg, Int.reduceAdd, Int.reduceSub, decide_true, decide_false, Bool.and_true, Bool.true_and, Bool.and_false, Bool.false_and, Bool.or_true, Bool.true_or, Bool.or_false, Bool.false_or, false_implies, true_implies, if_true, if_false, ite_true, ite_false, implies_true, envOf, op_add, op_addT, op_addL, op_sub, op_mul, op_fdiv, op_mod, op_lt, op_le, op_gt, op_ge, op_eqI, op_neI, op_eqS, op_neS, len_tup, len_lst, len_rol, abs_int, max2, min2, int_int, int_bl, nn_non, nn_int, nn_bl, nn_str, nn_tup, nn_lst, ix_tup, ix_lst, ix_rol, ix_cell, op_inS2, sl_tup, sl_lst, items_tup, items_lst, atI_0, atI_1, atI_2, cutD_1, cutD_from1, cutD_to, p10_6, p10_7, p10_8, p10_9, p10_10, p10_11, p10_12, sum_ints, all_bls, any_bls, eqb_ints, eqb_nilL, isin_ints, enum_lst, cmp_int, cmp_non, cmp_str, cmp_dInts, cmp_nilL, it_int_non, it_int_bl, it_int_int, it_int_str, it_int_tup, it_int_lst, it_int_rol, it_bool_non, it_bool_bl, it_bool_int, it_bool_str, it_bool_tup, it_bool_lst, it_bool_rol, it_str_non, it_str_bl, it_str_int, it_str_str, it_str_tup, it_str_lst, it_str_rol, it_tuple_non, it_tuple_bl, it_tuple_int, it_tuple_str, it_tuple_tup, it_tuple_lst, it_tuple_rol, it_list_non, it_list_bl, it_list_int, it_list_str, it_list_tup, it_list_lst, it_list_rol, e2, gv_SIZES, szs_no ek, LK, ek]
        | some q =>
          have es := kdOf_some ek
          subst es
          have c1 : cutD (.str q.s :: r) (some 1) none = r := cutD_1
          simp only [fd_is_link, we_var, we_cn, we_cb, we_ci, we_cs, we_glob, we_tup, we_lst, we_newc, we_op, we_isN, we_notN, we_neg, we_nt, we_and, we_or, we_chain, we_ite, we_call, we_calll, we_b1, we_b2, we_isi, we_ix, we_sl, we_lc, we_lrng, we_olen, we_oix, we_inD, we_getD, we_calld, we_osl, we_rev, we_isB, we_cnew, we_clen, we_cpop, we_cnil, wl_nil, wl_cons, wr_it, wr_rng, wr_enum, wr_zip, ws_set, ws_own, ws_frz, ws_unp, ws_unp2, ws_par, ws_app, ws_oset, ws_cset, ws_ifs, ws_fors, ws_whil, ws_ret, ws_retn, ws_brk, ws_cnt, ws_pas, ws_expr, wb_nil, wb_cons, thn_nx, thn_rt, thn_bk, thn_ct, fin_nx, fin_rt, turn_nx, turn_ct, turn_bk, turn_rt, List.set_cons_zero, List.set_cons_succ, List.set_nil, List.getElem?_cons_zero, List.getElem?_cons_succ, Option.some.injEq, Sl.v.injEq, Sl.o.injEq, D.bl.injEq, D.int.injEq, D.str.injEq, D.tup.injEq, D.lst.injEq, D.cell.injEq, D.fn.injEq, exists_eq_left, exists_eq_left', exists_eq_right, List.length_cons, List.length_nil, Nat.reduceAdd, Nat.reduceSub, List.replicate_succ, List.replicate_zero, List.map_cons, List.map_nil, List.cons_append, List.nil_append, List.append_nil, true_and, and_true, false_and, and_false, forall_const, Bool.true_eq_false, Bool.false_eq_true, Bool.not_true, Bool.not_false, setMany, asg, Tg.slots, wipeE, optI, testOf, ne_eq, not_true_eq_false, not_false_eq_true, exists_const, reduceCtorEq, false_or, or_false, true_or, or_true, exists_false, Int.reduceLT, Int.reduceLE, Int.reduceNeg, Int.reduceAdd, Int.reduceSub, decide_true, decide_false, Bool.and_true, Bool.true_and, Bool.and_false, Bool.false_and, Bool.or_true, Bool.true_or, Bool.or_false, Bool.false_or, false_implies, true_implies, if_true, if_false, ite_true, ite_false, implies_true, envOf, op_add, op_addT, op_addL, op_sub, op_mul, op_fdiv, op_mod, op_lt, op_le, op_gt, op_ge, op_eqI, op_neI, op_eqS, op_neS, len_tup, len_lst, len_rol, abs_int, max2, min2, int_int, int_bl, nn_non, nn_int, nn_bl, nn_str, nn_tup, nn_lst, ix_tup, ix_lst, ix_rol, ix_cell, op_inS2, sl_tup, sl_lst, items_tup, items_lst, atI_0, atI_1, atI_2, cutD_1, cutD_from1, cutD_to, p10_6, p10_7, p10_8, p10_9, p10_10, p10_11, p10_12, sum_ints, all_bls, any_bls, eqb_ints, eqb_nilL, isin_ints, enum_lst, cmp_int, cmp_non, cmp_str, cmp_dInts, cmp_nilL, it_int_non, it_int_bl, it_int_int, it_int_str, it_int_tup, it_int_lst, it_int_rol, it_bool_non, it_bool_bl, it_bool_int, it_bool_str, it_bool_tup, it_bool_lst, it_bool_rol, it_str_non, it_str_bl, it_str_int, it_str_str, it_str_tup, it_str_lst, it_str_rol, it_tuple_non, it_tuple_bl, it_tuple_int, it_tuple_str, it_tuple_tup, it_tuple_lst, it_tuple_rol, it_list_non, it_list_bl, it_list_int, it_list_str, it_list_tup, it_list_lst, it_list_rol, e2, gv_SIZES, szs_in, szs_kd, gv_ML]
          refine ⟨fun hl2 => ?_, fun hl2 => ?_⟩
          · refine wg_id (fun x => .bl (isI x)) (fun x hx => ⟨_, rfl, ?_⟩) ?_
            · simp only [we_var, we_cn, we_cb, we_ci, we_cs, we_glob, we_tup, we_lst, we_newc, we_op, we_isN, we_notN, we_neg, we_nt, we_and, we_or, we_chain, we_ite, we_call, we_calll, we_b1, we_b2, we_isi, we_ix, we_sl, we_lc, we_lrng, we_olen, we_oix, we_inD, we_getD, we_calld, we_osl, we_rev, we_isB, we_cnew, we_clen, we_cpop, we_cnil, wl_nil, wl_cons, wr_it, wr_rng, wr_enum, wr_zip, ws_set, ws_own, ws_frz, ws_unp, ws_unp2, ws_par, ws_app, ws_oset, ws_cset, ws_ifs, ws_fors, ws_whil, ws_ret, ws_retn, ws_brk, ws_cnt, ws_pas, ws_expr, wb_nil, wb_cons, thn_nx, thn_rt, thn_bk, thn_ct, fin_nx, fin_rt, turn_nx, turn_ct, turn_bk, turn_rt, List.set_cons_zero, List.set_cons_succ, List.set_nil, List.getElem?_cons_zero, List.getElem?_cons_succ, Option.some.injEq, Sl.v.injEq, Sl.o.injEq, D.bl.injEq, D.int.injEq, D.str.injEq, D.tup.injEq, D.lst.injEq, D.cell.injEq, D.fn.injEq, exists_eq_left, exists_eq_left', exists_eq_right, List.length_cons, List.length_nil, Nat.reduceAdd, Nat.reduceSub, List.replicate_succ, List.replicate_zero, List.map_cons, List.map_nil, List.cons_append, List.nil_append, List.append_nil, true_and, and_true, false_and, and_false, forall_const, Bool.true_eq_false, Bool.false_eq_true, Bool.not_true, Bool.not_false, setMany, asg, Tg.slots, wipeE, optI, testOf, ne_eq, not_true_eq_false, not_false_eq_true, exists_const, reduceCtorEq, false_or, or_false, true_or, or_true, exists_false, Int.reduceLT, Int.reduceLE, Int.reduceNeg, Int.reduceAdd, Int.reduceSub, decide_true, decide_false, Bool.and_true, Bool.true_and, Bool.and_false, Bool.false_and, Bool.or_true, Bool.true_or, Bool.or_false, Bool.false_or, false_implies, true_implies, if_true, if_false, ite_true, ite_false, implies_true, envOf, op_add, op_addT, op_addL, op_sub, op_mul, op_fdiv, op_mod, op_lt, op_le, op_gt, op_ge, op_eqI, op_neI, op_eqS, op_neS, len_tup, len_lst, len_rol, abs_int, max2, min2, int_int, int_bl, nn_non, nn_int, nn_bl, nn_str, nn_tup, nn_lst, ix_tup, ix_lst, ix_rol, ix_cell, op_inS2, sl_tup, sl_lst, items_tup, items_lst, atI_0, atI_1, atI_2, cutD_1, cutD_from1, cutD_to, p10_6, p10_7, p10_8, p10_9, p10_10, p10_11, p10_12, sum_ints, all_bls, any_bls, eqb_ints, eqb_nilL, isin_ints, enum_lst, cmp_int, cmp_non, cmp_str, cmp_dInts, cmp_nilL, it_int_non, it_int_bl, it_int_int, it_int_str, it_int_tup, it_int_lst, it_int_rol, it_bool_non, it_bool_bl, it_bool_int, it_bool_str, it_bool_tup, it_bool_lst, it_bool_rol, it_str_non, it_str_bl, it_str_int, it_str_str, it_str_tup, it_str_lst, it_str_rol, it_tuple_non, it_tuple_bl, it_tuple_int, it_tuple_str, it_tuple_tup, it_tuple_lst, it_tuple_rol, it_list_non, it_list_bl, it_list_int, it_list_str, it_list_tup, it_list_lst, it_list_rol, gv_ML, wc_of (sp_int_any (by omega : 1 ≤ n - 1) (hv x (List.mem_cons_of_mem _ hx)))]
            · rw [show (r.map fun x => D.bl (isI x)) = (r.map isI).map D.bl by rw [List.map_map]; rfl, all_bls]
              have ea : (r.map isI).all id = r.all isI := by rw [List.all_map]; rfl
              rw [ea]
              simp only [we_var, we_cn, we_cb, we_ci, we_cs, we_glob, we_tup, we_lst, we_newc, we_op, we_isN, we_notN, we_neg, we_nt, we_and, we_or, we_chain, we_ite, we_call, we_calll, we_b1, we_b2, we_isi, we_ix, we_sl, we_lc, we_lrng, we_olen, we_oix, we_inD, we_getD, we_calld, we_osl, we_rev, we_isB, we_cnew, we_clen, we_cpop, we_cnil, wl_nil, wl_cons, wr_it, wr_rng, wr_enum, wr_zip, ws_set, ws_own, ws_frz, ws_unp, ws_unp2, ws_par, ws_app, ws_oset, ws_cset, ws_ifs, ws_fors, ws_whil, ws_ret, ws_retn, ws_brk, ws_cnt, ws_pas, ws_expr, wb_nil, wb_cons, thn_nx, thn_rt, thn_bk, thn_ct, fin_nx, fin_rt, turn_nx, turn_ct, turn_bk, turn_rt, List.set_cons_zero, List.set_cons_succ, List.set_nil, List.getElem?_cons_zero, List.getElem?_cons_succ, Option.some.injEq, Sl.v.injEq, Sl.o.injEq, D.bl.injEq, D.int.injEq, D.str.injEq, D.tup.injEq, D.lst.injEq, D.cell.injEq, D.fn.injEq, exists_eq_left, exists_eq_left', exists_eq_right, List.length_cons, List.length_nil, Nat.reduceAdd, Nat.reduceSub, List.replicate_succ, List.replicate_zero, List.map_cons, List.map_nil, List.cons_append, List.nil_append, List.append_nil, true_and, and_true, false_and, and_false, forall_const, Bool.true_eq_false, Bool.false_eq_true, Bool.not_true, Bool.not_false, setMany, asg, Tg.slots, wipeE, optI, testOf, ne_eq, not_true_eq_false, not_false_eq_true, exists_const, reduceCtorEq, false_or, or_false, true_or, or_true, exists_false, Int.reduceLT, Int.reduceLE, Int.reduceNeg, Int.reduceAdd, Int.reduceSub, decide_true, decide_false, Bool.and_true, Bool.true_and, Bool.and_false, Bool.false_and, Bool.or_true, Bool.true_or, Bool.or_false, Bool.false_or, false_implies, true_implies, if_true, if_false, ite_true, ite_false, implies_true, envOf, op_add, op_addT, op_addL, op_sub, op_mul, op_fdiv, op_mod, op_lt, op_le, op_gt, op_ge, op_eqI, op_neI, op_eqS, op_neS, len_tup, len_lst, len_rol, abs_int, max2, min2, int_int, int_bl, nn_non, nn_int, nn_bl, nn_str, nn_tup, nn_lst, ix_tup, ix_lst, ix_rol, ix_cell, op_inS2, sl_tup, sl_lst, items_tup, items_lst, atI_0, atI_1, atI_2, cutD_1, cutD_from1, cutD_to, p10_6, p10_7, p10_8, p10_9, p10_10, p10_11, p10_12, sum_ints, all_bls, any_bls, eqb_ints, eqb_nilL, isin_ints, enum_lst, cmp_int, cmp_non, cmp_str, cmp_dInts, cmp_nilL, it_int_non, it_int_bl, it_int_int, it_int_str, it_int_tup, it_int_lst, it_int_rol, it_bool_non, it_bool_bl, it_bool_int, it_bool_str, it_bool_tup, it_bool_lst, it_bool_rol, it_str_non, it_str_bl, it_str_int, it_str_str, it_str_tup, it_str_lst, it_str_rol, it_tuple_non, it_tuple_bl, it_tuple_int, it_tuple_str, it_tuple_tup, it_tuple_lst, it_tuple_rol, it_list_non, it_list_bl, it_list_int, it_list_str, it_list_tup, it_list_lst, it_list_rol]
              refine ⟨fun h1 => ?_, fun h1 => ?_⟩
              · simp only [Bool.not_eq_true'] at h1
                simp [LK, h1]
              · simp only [Bool.not_eq_false'] at h1
                obtain ⟨vs, rfl⟩ := isI_all h1
                simp only [Bool.not_eq_false', decide_eq_true_eq, List.length_map] at hl2
                cases ht : q.two with
                | true =>
                  rw [ht] at hl2
                  match vs, hl2 with
                  | [a, b], _ =>
                    have t1 : L2.atI [D.int a, D.int b] (-1) = some (.int b) := atI_last (by simp)
                    simp only [List.map_cons, List.map_nil] at h1 ⊢
                    simp [we_var, we_cn, we_cb, we_ci, we_cs, we_glob, we_tup, we_lst, we_newc, we_op, we_isN, we_notN, we_neg, we_nt, we_and, we_or, we_chain, we_ite, we_call, we_calll, we_b1, we_b2, we_isi, we_ix, we_sl, we_lc, we_lrng, we_olen, we_oix, we_inD, we_getD, we_calld, we_osl, we_rev, we_isB, we_cnew, we_clen, we_cpop, we_cnil, wl_nil, wl_cons, wr_it, wr_rng, wr_enum, wr_zip, ws_set, ws_own, ws_frz, ws_unp, ws_unp2, ws_par, ws_app, ws_oset, ws_cset, ws_ifs, ws_fors, ws_whil, ws_ret, ws_retn, ws_brk, ws_cnt, ws_pas, ws_expr, wb_nil, wb_cons, thn_nx, thn_rt, thn_bk, thn_ct, fin_nx, fin_rt, turn_nx, turn_ct, turn_bk, turn_rt, List.set_cons_zero, List.set_cons_succ, List.set_nil, List.getElem?_cons_zero, List.getElem?_cons_succ, Option.some.injEq, Sl.v.injEq, Sl.o.injEq, D.bl.injEq, D.int.injEq, D.str.injEq, D.tup.injEq, D.lst.injEq, D.cell.injEq, D.fn.injEq, exists_eq_left, exists_eq_left', exists_eq_right, List.length_cons, List.length_nil, Nat.reduceAdd, Nat.reduceSub, List.replicate_succ, List.replicate_zero, List.map_cons, List.map_nil, List.cons_append, List.nil_append, List.append_nil, true_and, and_true, false_and, and_false, forall_const, Bool.true_eq_false, Bool.false_eq_true, Bool.not_true, Bool.not_false, setMany, asg, Tg.slots, wipeE, optI, testOf, ne_eq, not_true_eq_false, not_false_eq_true, exists_const, reduceCtorEq, false_or, or_false, true_or, or_true, exists_false, Int.reduceLT, Int.reduceLE, Int.reduceNeg, Int.reduceAdd, Int.reduceSub, decide_true, decide_false, Bool.and_true, Bool.true_and, Bool.and_false, Bool.false_and, Bool.or_true, Bool.true_or, Bool.or_false, Bool.false_or, false_implies, true_implies, if_true, if_false, ite_true, ite_false, implies_true, envOf, op_add, op_addT, op_addL, op_sub, op_mul, op_fdiv, op_mod, op_lt, op_le, op_gt, op_ge, op_eqI, op_neI, op_eqS, op_neS, len_tup, len_lst, len_rol, abs_int, max2, min2, int_int, int_bl, nn_non, nn_int, nn_bl, nn_str, nn_tup, nn_lst, ix_tup, ix_lst, ix_rol, ix_cell, op_inS2, sl_tup, sl_lst, items_tup, items_lst, atI_0, atI_1, atI_2, cutD_1, cutD_from1, cutD_to, p10_6, p10_7, p10_8, p10_9, p10_10, p10_11, p10_12, sum_ints, all_bls, any_bls, eqb_ints, eqb_nilL, isin_ints, enum_lst, cmp_int, cmp_non, cmp_str, cmp_dInts, cmp_nilL, it_int_non, it_int_bl, it_int_int, it_int_str, it_int_tup, it_int_lst, it_int_rol, it_bool_non, it_bool_bl, it_bool_int, it_bool_str, it_bool_tup, it_bool_lst, it_bool_rol, it_str_non, it_str_bl, it_str_int, it_str_str, it_str_tup, it_str_lst, it_str_rol, it_tuple_non, it_tuple_bl, it_tuple_int, it_tuple_str, it_tuple_tup, it_tuple_lst, it_tuple_rol, it_list_non, it_list_bl, it_list_int, it_list_str, it_list_tup, it_list_lst, it_list_rol, t1, LK, ek, ht, h1, leq]
                | false =>
                  rw [ht] at hl2
                  match vs, hl2 with
                  | [a], _ =>
                    have t1 : L2.atI [D.int a] (-1) = some (.int a) := atI_last (by simp)
                    simp only [List.map_cons, List.map_nil] at h1 ⊢
                    simp [we_var, we_cn, we_cb, we_ci, we_cs, we_glob, we_tup, we_lst, we_newc, we_op, we_isN, we_notN, we_neg, we_nt, we_and, we_or, we_chain, we_ite, we_call, we_calll, we_b1, we_b2, we_isi, we_ix, we_sl, we_lc, we_lrng, we_olen, we_oix, we_inD, we_getD, we_calld, we_osl, we_rev, we_isB, we_cnew, we_clen, we_cpop, we_cnil, wl_nil, wl_cons, wr_it, wr_rng, wr_enum, wr_zip, ws_set, ws_own, ws_frz, ws_unp, ws_unp2, ws_par, ws_app, ws_oset, ws_cset, ws_ifs, ws_fors, ws_whil, ws_ret, ws_retn, ws_brk, ws_cnt, ws_pas, ws_expr, wb_nil, wb_cons, thn_nx, thn_rt, thn_bk, thn_ct, fin_nx, fin_rt, turn_nx, turn_ct, turn_bk, turn_rt, List.set_cons_zero, List.set_cons_succ, List.set_nil, List.getElem?_cons_zero, List.getElem?_cons_succ, Option.some.injEq, Sl.v.injEq, Sl.o.injEq, D.bl.injEq, D.int.injEq, D.str.injEq, D.tup.injEq, D.lst.injEq, D.cell.injEq, D.fn.injEq, exists_eq_left, exists_eq_left', exists_eq_right, List.length_cons, List.length_nil, Nat.reduceAdd, Nat.reduceSub, List.replicate_succ, List.replicate_zero, List.map_cons, List.map_nil, List.cons_append, List.nil_append, List.append_nil, true_and, and_true, false_and, and_false, forall_const, Bool.true_eq_false, Bool.false_eq_true, Bool.not_true, Bool.not_false, setMany, asg, Tg.slots, wipeE, optI, testOf, ne_eq, not_true_eq_false, not_false_eq_true, exists_const, reduceCtorEq, false_or, or_false, true_or, or_true, exists_false, Int.reduceLT, Int.reduceLE, Int.reduceNeg, Int.reduceAdd, Int.reduceSub, decide_true, decide_false, Bool.and_true, Bool.true_and, Bool.and_false, Bool.false_and, Bool.or_true, Bool.true_or, Bool.or_false, Bool.false_or, false_implies, true_implies, if_true, if_false, ite_true, ite_false, implies_true, envOf, op_add, op_addT, op_addL, op_sub, op_mul, op_fdiv, op_mod, op_lt, op_le, op_gt, op_ge, op_eqI, op_neI, op_eqS, op_neS, len_tup, len_lst, len_rol, abs_int, max2, min2, int_int, int_bl, nn_non, nn_int, nn_bl, nn_str, nn_tup, nn_lst, ix_tup, ix_lst, ix_rol, ix_cell, op_inS2, sl_tup, sl_lst, items_tup, items_lst, atI_0, atI_1, atI_2, cutD_1, cutD_from1, cutD_to, p10_6, p10_7, p10_8, p10_9, p10_10, p10_11, p10_12, sum_ints, all_bls, any_bls, eqb_ints, eqb_nilL, isin_ints, enum_lst, cmp_int, cmp_non, cmp_str, cmp_dInts, cmp_nilL, it_int_non, it_int_bl, it_int_int, it_int_str, it_int_tup, it_int_lst, it_int_rol, it_bool_non, it_bool_bl, it_bool_int, it_bool_str, it_bool_tup, it_bool_lst, it_bool_rol, it_str_non, it_str_bl, it_str_int, it_str_str, it_str_tup, it_str_lst, it_str_rol, it_tuple_non, it_tuple_bl, it_tuple_int, it_tuple_str, it_tuple_tup, it_tuple_lst, it_tuple_rol, it_list_non, it_list_bl, it_list_int, it_list_str, it_list_tup, it_list_lst, it_list_rol, t1, LK, ek, ht, h1, leq]
          · simp only [Bool.not_eq_true', decide_eq_false_iff_not] at hl2
            have : ¬ r.length = if q.two = true then 2 else 1 := fun e => hl2 (by rw [e]; cases q.two <;> rfl)
            simp [LK, ek, this]
      | _ => simp [fd_is_link, we_var, we_cn, we_cb, we_ci, we_cs, we_glob, we_tup, we_lst, we_newc, we_op, we_isN, we_notN, we_neg, we_nt, we_and, we_or, we_chain, we_ite, we_call, we_calll, we_b1, we_b2, we_isi, we_ix, we_sl, we_lc, we_lrng, we_olen, we_oix, we_inD, we_getD, we_calld, we_osl, we_rev, we_isB, we_cnew, we_clen, we_cpop, we_cnil, wl_nil, wl_cons, wr_it, wr_rng, wr_enum, wr_zip, ws_set, ws_own, ws_frz, ws_unp, ws_unp2, ws_par, ws_app, ws_oset, ws_cset, ws_ifs, ws_fors, ws_whil, ws_ret, ws_retn, ws_brk, ws_cnt, ws_pas, ws_expr, wb_nil, wb_cons, thn_nx, thn_rt, thn_bk, thn_ct, fin_nx, fin_rt, turn_nx, turn_ct, turn_bk, turn_rt, List.set_cons_zero, List.set_cons_succ, List.set_nil, List.getElem?_cons_zero, List.getElem?_cons_succ, Option.some.injEq, Sl.v.injEq, Sl.o.injEq, D.bl.injEq, D.int.injEq, D.str.injEq, D.tup.injEq, D.lst.injEq, D.cell.injEq, D.fn.injEq, exists_eq_left, exists_eq_left', exists_eq_right, List.length_cons, List.length_nil, Nat.reduceAdd, Nat.reduceSub, List.replicate_succ, List.replicate_zero, List.map_cons, List.map_nil, List.cons_append, List.nil_append, List.append_nil, true_and, and_true, false_and, and_false, forall_const, Bool.true_eq_false, Bool.false_eq_true, Bool.not_true, Bool.not_false, setMany, asg, Tg.slots, wipeE, optI, testOf, ne_eq, not_true_eq_false, not_false_eq_true, exists_const, reduceCtorEq, false_or, or_false, true_or, or_true, exists_false, Int.reduceLT, Int.reduceLE, Int.reduceNeg, Int.reduceAdd, Int.reduceSub, decide_true, decide_false, Bool.and_true, Bool.true_and, Bool.and_false, Bool.false_and, Bool.or_true, Bool.true_or, Bool.or_false, Bool.false_or, false_implies, true_implies, if_true, if_false, ite_true, ite_false, implies_true, envOf, op_add, op_addT, op_addL, op_sub, op_mul, op_fdiv, op_mod, op_lt, op_le, op_gt, op_ge, op_eqI, op_neI, op_eqS, op_neS, len_tup, len_lst, len_rol, abs_int, max2, min2, int_int, int_bl, nn_non, nn_int, nn_bl, nn_str, nn_tup, nn_lst, ix_tup, ix_lst, ix_rol, ix_cell, op_inS2, sl_tup, sl_lst, items_tup, items_lst, atI_0, atI_1, atI_2, cutD_1, cutD_from1, cutD_to, p10_6, p10_7, p10_8, p10_9, p10_10, p10_11, p10_12, sum_ints, all_bls, any_bls, eqb_ints, eqb_nilL, isin_ints, enum_lst, cmp_int, cmp_non, cmp_str, cmp_dInts, cmp_nilL, it_int_non, it_int_bl, it_int_int, it_int_str, it_int_tup, it_int_lst, it_int_rol, it_bool_non, it_bool_bl, it_bool_int, it_bool_str, it_bool_tup, it_bool_lst, it_bool_rol, it_str_non, it_str_bl, it_str_int, it_str_str, it_str_tup, it_str_lst, it_str_rol, it_tuple_non, it_tuple_bl, it_tuple_int, it_tuple_str, it_tuple_tup, it_tuple_lst, it_tuple_rol, it_list_non, it_list_bl, it_list_int, it_list_str, it_list_tup, it_list_lst, it_list_rol, e2, LK]
  | _ => simp [fd_is_link, we_var, we_cn, we_cb, we_ci, we_cs, we_glob, we_tup, we_lst, we_newc, we_op, we_isN, we_notN, we_neg, we_nt, we_and, we_or, we_chain, we_ite, we_call, we_calll, we_b1, we_b2, we_isi, we_ix, we_sl, we_lc, we_lrng, we_olen, we_oix, we_inD, we_getD, we_calld, we_osl, we_rev, we_isB, we_cnew, we_clen, we_cpop, we_cnil, wl_nil, wl_cons, wr_it, wr_rng, wr_enum, wr_zip, ws_set, ws_own, ws_frz, ws_unp, ws_unp2, ws_par, ws_app, ws_oset, ws_cset, ws_ifs, ws_fors, ws_whil, ws_ret, ws_retn, ws_brk, ws_cnt, ws_pas, ws_expr, wb_nil, wb_cons, thn_nx, thn_rt, thn_bk, thn_ct, fin_nx, fin_rt, turn_nx, turn_ct, turn_bk, turn_rt, List.set_cons_zero, List.set_cons_succ, List.set_nil, List.getElem?_cons_zero, List.getElem?_cons_succ, Option.some.injEq, Sl.v.injEq, Sl.o.injEq, D.bl.injEq, D.int.injEq, D.str.injEq, D.tup.injEq, D.lst.injEq, D.cell.injEq, D.fn.injEq, exists_eq_left, exists_eq_left', exists_eq_right, List.length_cons, List.length_nil, Nat.reduceAdd, Nat.reduceSub, List.replicate_succ, List.replicate_zero, List.map_cons, List.map_nil, List.cons_append, List.nil_append, List.append_nil, true_and, and_true, false_and, and_false, forall_const, Bool.true_eq_false, Bool.false_eq_true, Bool.not_true, Bool.not_false, setMany, asg, Tg.slots, wipeE, optI, testOf, ne_eq, not_true_eq_false, not_false_eq_true, exists_const, reduceCtorEq, false_or, or_false, true_or, or_true, exists_false, Int.reduceLT, Int.reduceLE, Int.reduceNeg, Int.reduceAdd, Int.reduceSub, decide_true, decide_false, Bool.and_true, Bool.true_and, Bool.and_false, Bool.false_and, Bool.or_true, Bool.true_or, Bool.or_false, Bool.false_or, false_implies, true_implies, if_true, if_false, ite_true, ite_false, implies_true, envOf, op_add, op_addT, op_addL, op_sub, op_mul, op_fdiv, op_mod, op_lt, op_le, op_gt, op_ge, op_eqI, op_neI, op_eqS, op_neS, len_tup, len_lst, len_rol, abs_int, max2, min2, int_int, int_bl, nn_non, nn_int, nn_bl, nn_str, nn_tup, nn_lst, ix_tup, ix_lst, ix_rol, ix_cell, op_inS2, sl_tup, sl_lst, items_tup, items_lst, atI_0, atI_1, atI_2, cutD_1, cutD_from1, cutD_to, p10_6, p10_7, p10_8, p10_9, p10_10, p10_11, p10_12, sum_ints, all_bls, any_bls, eqb_ints, eqb_nilL, isin_ints, enum_lst, cmp_int, cmp_non, cmp_str, cmp_dInts, cmp_nilL, it_int_non, it_int_bl, it_int_int, it_int_str, it_int_tup, it_int_lst, it_int_rol, it_bool_non, it_bool_bl, it_bool_int, it_bool_str, it_bool_tup, it_bool_lst, it_bool_rol, it_str_non, it_str_bl, it_str_int, it_str_str, it_str_tup, it_str_lst, it_str_rol, it_tuple_non, it_tuple_bl, it_tuple_int, it_tuple_str, it_tuple_tup, it_tuple_lst, it_tuple_rol, it_list_non, it_list_bl, it_list_int, it_list_str, it_list_tup, it_list_lst, it_list_rol, LK]
theorem op_inS3 {x a b c : Str} : op2 .isin (.str x) (.tup [.str a, .str b, .str c]) = some (.bl (decide (a = x) || (decide (b = x) || decide (c = x)))) := by
  simp only [op2, D.flat, List.all_cons, List.all_nil, List.any_cons, List.any_nil, D.eqb, Bool.and_self, if_true, Bool.or_false]
  rfl
theorem op_inP2 {x a b : Str} : op2 .isin (.str x) (.tup [.str a, .str b]) = some (.bl (decide (a = x) || decide (b = x))) := by
  simp only [op2, D.flat, List.all_cons, List.all_nil, List.any_cons, List.any_nil, D.eqb, Bool.and_self, if_true, Bool.or_false]
  rfl
theorem flt_nil {r : List D} : (r.filter fun x => !isI x).isEmpty = r.all isI := by
  induction r with
  | nil => rfl
  | cons x r ih =>
    rw [List.all_cons, ← ih]
    cases hx : isI x <;> simp [List.filter_cons, hx]
theorem sp_good_any {n : Nat} (hn : 2 ≤ n) {k : Nat} (hk : k ≤ 50) {d : D} (h : vb k d = true) {S : Store} : ec gv pr n F._law_link_good [d] S = some (.bl (LK d), S) := by
  refine of_wc ?_
  rw [wc_def' (by omega) pr__law_link_good rfl]
  have hc := vb_c hk h
  cases d with
  | fn g => simp [vb] at h
  | cell c => simp [vb] at h
  | tup xs =>
    obtain ⟨j, rfl, hl, hv⟩ := vb_tup h
    cases xs with
    | nil => simp [fd__law_link_good, we_var, we_cn, we_cb, we_ci, we_cs, we_glob, we_tup, we_lst, we_newc, we_op, we_isN, we_notN, we_neg, we_nt, we_and, we_or, we_chain, we_ite, we_call, we_calll, we_b1, we_b2, we_isi, we_ix, we_sl, we_lc, we_lrng, we_olen, we_oix, we_inD, we_getD, we_calld, we_osl, we_rev, we_isB, we_cnew, we_clen, we_cpop, we_cnil, wl_nil, wl_cons, wr_it, wr_rng, wr_enum, wr_zip, ws_set, ws_own, ws_frz, ws_unp, ws_unp2, ws_par, ws_app, ws_oset, ws_cset, ws_ifs, ws_fors, ws_whil, ws_ret, ws_retn, ws_brk, ws_cnt, ws_pas, ws_expr, wb_nil, wb_cons, thn_nx, thn_rt, thn_bk, thn_ct, fin_nx, fin_rt, turn_nx, turn_ct, turn_bk, turn_rt, List.set_cons_zero, List.set_cons_succ, List.set_nil, List.getElem?_cons_zero, List.getElem?_cons_succ, Option.some.injEq, Sl.v.injEq, Sl.o.injEq, D.bl.injEq, D.int.injEq, D.str.injEq, D.tup.injEq, D.lst.injEq, D.cell.injEq, D.fn.injEq, exists_eq_left, exists_eq_left', exists_eq_right, List.length_cons, List.length_nil, Nat.reduceAdd, Nat.reduceSub, List.replicate_succ, List.replicate_zero, List.map_cons, List.map_nil, List.cons_append, List.nil_append, List.append_nil, true_and, and_true, false_and, and_false, forall_const, Bool.true_eq_false, Bool.false_eq_true, Bool.not_true, Bool.not_false, setMany, asg, Tg.slots, wipeE, optI, testOf, ne_eq, not_true_eq_false, not_false_eq_true, exists_const, reduceCtorEq, false_or, or_false, true_or, or_true, exists_false, Int.reduceLT, Int.reduceLE, Int.reduceNeg, Int.reduceAdd, Int.reduceSub, decide_true, decide_false, Bool.and_true, Bool.true_and, Bool.and_false, Bool.false_and, Bool.or_true, Bool.true_or, Bool.or_false, Bool.false_or, false_implies, true_implies, if_true, if_false, ite_true, ite_false, implies_true, envOf, op_add, op_addT, op_addL, op_sub, op_mul, op_fdiv, op_mod, op_lt, op_le, op_gt, op_ge, op_eqI, op_neI, op_eqS, op_neS, len_tup, len_lst, len_rol, abs_int, max2, min2, int_int, int_bl, nn_non, nn_int, nn_bl, nn_str, nn_tup, nn_lst, ix_tup, ix_lst, ix_rol, ix_cell, op_inS2, sl_tup, sl_lst, items_tup, items_lst, atI_0, atI_1, atI_2, cutD_1, cutD_from1, cutD_to, p10_6, p10_7, p10_8, p10_9, p10_10, p10_11, p10_12, sum_ints, all_bls, any_bls, eqb_ints, eqb_nilL, isin_ints, enum_lst, cmp_int, cmp_non, cmp_str, cmp_dInts, cmp_nilL, it_int_non, it_int_bl, it_int_int, it_int_str, it_int_tup, it_int_lst, it_int_rol, it_bool_non, it_bool_bl, it_bool_int, it_bool_str, it_bool_tup, it_bool_lst, it_bool_rol, it_str_non, it_str_bl, it_str_int, it_str_str, it_str_tup, it_str_lst, it_str_rol, it_tuple_non, it_tuple_bl, it_tuple_int, it_tuple_str, it_tuple_tup, it_tuple_lst, it_tuple_rol, it_list_non, it_list_bl, it_list_int, it_list_str, it_list_tup, it_list_lst, it_list_rol, LK]
    | cons x r =>
      cases r with
      | nil =>
        have : LK (.tup [x]) = false := by
          cases x with
          | str s => 
            cases ek : kdOf s with
            | none => simp [LK, ek]
            | some q => cases ht : q.two <;> simp [LK, ek, ht]
          | _ => rfl
        simp [fd__law_link_good, we_var, we_cn, we_cb, we_ci, we_cs, we_glob, we_tup, we_lst, we_newc, we_op, we_isN, we_notN, we_neg, we_nt, we_and, we_or, we_chain, we_ite, we_call, we_calll, we_b1, we_b2, we_isi, we_ix, we_sl, we_lc, we_lrng, we_olen, we_oix, we_inD, we_getD, we_calld, we_osl, we_rev, we_isB, we_cnew, we_clen, we_cpop, we_cnil, wl_nil, wl_cons, wr_it, wr_rng, wr_enum, wr_zip, ws_set, ws_own, ws_frz, ws_unp, ws_unp2, ws_par, ws_app, ws_oset, ws_cset, ws_ifs, ws_fors, ws_whil, ws_ret, ws_retn, ws_brk, ws_cnt, ws_pas, ws_expr, wb_nil, wb_cons, thn_nx, thn_rt, thn_bk, thn_ct, fin_nx, fin_rt, turn_nx, turn_ct, turn_bk, turn_rt, List.set_cons_zero, List.set_cons_succ, List.set_nil, List.getElem?_cons_zero, List.getElem?_cons_succ, Option.some.injEq, Sl.v.injEq, Sl.o.injEq, D.bl.injEq, D.int.injEq, D.str.injEq, D.tup.injEq, D.lst.injEq, D.cell.injEq, D.fn.injEq, exists_eq_left, exists_eq_left', exists_eq_right, List.length_cons, List.length_nil, Nat.reduceAdd, Nat.reduceSub, List.replicate_succ, List.replicate_zero, List.map_cons, List.map_nil, List.cons_append, List.nil_append, List.append_nil, true_and, and_true, false_and, and_false, forall_const, Bool.true_eq_false, Bool.false_eq_true, Bool.not_true, Bool.not_false, setMany, asg, Tg.slots, wipeE, optI, testOf, ne_eq, not_true_eq_false, not_false_eq_true, exists_const, reduceCtorEq, false_or, or_false, true_or, or_true, exists_false, Int.reduceLT, Int.reduceLE, Int.reduceNeg, Int.reduceAdd, Int.reduceSub, decide_true, decide_false, Bool.and_true, Bool.true_and, Bool.and_false, Bool.false_and, Bool.or_true, Bool.true_or, Bool.or_false, Bool.false_or, false_implies, true_implies, if_true, if_false, ite_true, ite_false, implies_true, envOf, op_add, op_addT, op_addL, op_sub, op_mul, op_fdiv, op_mod, op_lt, op_le, op_gt, op_ge, op_eqI, op_neI, op_eqS, op_neS, len_tup, len_lst, len_rol, abs_int, max2, min2, int_int, int_bl, nn_non, nn_int, nn_bl, nn_str, nn_tup, nn_lst, ix_tup, ix_lst, ix_rol, ix_cell, op_inS2, sl_tup, sl_lst, items_tup, items_lst, atI_0, atI_1, atI_2, cutD_1, cutD_from1, cutD_to, p10_6, p10_7, p10_8, p10_9, p10_10, p10_11, p10_12, sum_ints, all_bls, any_bls, eqb_ints, eqb_nilL, isin_ints, enum_lst, cmp_int, cmp_non, cmp_str, cmp_dInts, cmp_nilL, it_int_non, it_int_bl, it_int_int, it_int_str, it_int_tup, it_int_lst, it_int_rol, it_bool_non, it_bool_bl, it_bool_int, it_bool_str, it_bool_tup, it_bool_lst, it_bool_rol, it_str_non, it_str_bl, it_str_int, it_str_str, it_str_tup, it_str_lst, it_str_rol, it_tuple_non, it_tuple_bl, it_tuple_int, it_tuple_str, it_tuple_tup, it_tuple_lst, it_tuple_rol, it_list_non, it_list_bl, it_list_int, it_list_str, it_list_tup, it_list_lst, it_list_rol, this]
      | cons y r =>
        have hlen : ¬ (((x :: y :: r).length : Nat) : Int) < 2 := by simp only [List.length_cons]; omega
        cases x with
        | fn g => have := hv (.fn g) (by simp); simp [vb] at this
        | cell c => have := hv (.cell c) (by simp); simp [vb] at this
        | str s =>
          have hvr : ∀ x, x ∈ y :: r → vb j x = true := fun x hx => hv x (List.mem_cons_of_mem _ hx)
          simp only [fd__law_link_good, we_var, we_cn, we_cb, we_ci, we_cs, we_glob, we_tup, we_lst, we_newc, we_op, we_isN, we_notN, we_neg, we_nt, we_and, we_or, we_chain, we_ite, we_call, we_calll, we_b1, we_b2, we_isi, we_ix, we_sl, we_lc, we_lrng, we_olen, we_oix, we_inD, we_getD, we_calld, we_osl, we_rev, we_isB, we_cnew, we_clen, we_cpop, we_cnil, wl_nil, wl_cons, wr_it, wr_rng, wr_enum, wr_zip, ws_set, ws_own, ws_frz, ws_unp, ws_unp2, ws_par, ws_app, ws_oset, ws_cset, ws_ifs, ws_fors, ws_whil, ws_ret, ws_retn, ws_brk, ws_cnt, ws_pas, ws_expr, wb_nil, wb_cons, thn_nx, thn_rt, thn_bk, thn_ct, fin_nx, fin_rt, turn_nx, turn_ct, turn_bk, turn_rt, List.set_cons_zero, List.set_cons_succ, List.set_nil, List.getElem?_cons_zero, List.getElem?_cons_succ, Option.some.injEq, Sl.v.injEq, Sl.o.injEq, D.bl.injEq, D.int.injEq, D.str.injEq, D.tup.injEq, D.lst.injEq, D.cell.injEq, D.fn.injEq, exists_eq_left, exists_eq_left', exists_eq_right, List.length_cons, List.length_nil, Nat.reduceAdd, Nat.reduceSub, List.replicate_succ, List.replicate_zero, List.map_cons, List.map_nil, List.cons_append, List.nil_append, List.append_nil, true_and, and_true, false_and, and_false, forall_const, Bool.true_eq_false, Bool.false_eq_true, Bool.not_true, Bool.not_false, setMany, asg, Tg.slots, wipeE, optI, testOf, ne_eq, not_true_eq_false, not_false_eq_true, exists_const, reduceCtorEq, false_or, or_false, true_or, or_true, exists_false, Int.reduceLT, Int.reduceLE, Int.reduceNeg, Int.reduceAdd, Int.reduceSub, decide_true, decide_false, Bool.and_true, Bool.true_and, Bool.and_false, Bool.false_and, Bool.or_true, Bool.true_or, Bool.or_false, Bool.false_or, false_implies, true_implies, if_true, if_false, ite_true, ite_false, implies_true, envOf, op_add, op_addT, op_addL, op_sub, op_mul, op_fdiv, op_mod, op_lt, op_le, op_gt, op_ge, op_eqI, op_neI, op_eqS, op_neS, len_tup, len_lst, len_rol, abs_int, max2, min2, int_int, int_bl, nn_non, nn_int, nn_bl, nn_str, nn_tup, nn_lst, ix_tup, ix_lst, ix_rol, ix_cell, op_inS2, sl_tup, sl_lst, items_tup, items_lst, atI_0, atI_1, atI_2, cutD_1, cutD_from1, cutD_to, p10_6, p10_7, p10_8, p10_9, p10_10, p10_11, p10_12, sum_ints, all_bls, any_bls, eqb_ints, eqb_nilL, isin_ints, enum_lst, cmp_int, cmp_non, cmp_str, cmp_dInts, cmp_nilL, it_int_non, it_int_bl, it_int_int, it_int_str, it_int_tup, it_int_lst, it_int_rol, it_bool_non, it_bool_bl, it_bool_int, it_bool_str, it_bool_tup, it_bool_lst, it_bool_rol, it_str_non, it_str_bl, it_str_int, it_str_str, it_str_tup, it_str_lst, it_str_rol, it_tuple_non, it_tuple_bl, it_tuple_int, it_tuple_str, it_tuple_tup, it_tuple_lst, it_tuple_rol, it_list_non, it_list_bl, it_list_int, it_list_str, it_list_tup, it_list_lst, it_list_rol, hlen, decide_false]
          have hlen2 : decide ((((r.length + 1 + 1 : Nat)) : Int) < 2) = false := decide_eq_false (by omega)
          rw [hlen2]
          refine ⟨fun _ => ?_, fun hh => by cases hh⟩
          refine wg_idf (fun x => x) (fun x => !isI x) (fun x hx => ⟨_, rfl, ?_⟩) ?_
          · simp only [we_var, we_cn, we_cb, we_ci, we_cs, we_glob, we_tup, we_lst, we_newc, we_op, we_isN, we_notN, we_neg, we_nt, we_and, we_or, we_chain, we_ite, we_call, we_calll, we_b1, we_b2, we_isi, we_ix, we_sl, we_lc, we_lrng, we_olen, we_oix, we_inD, we_getD, we_calld, we_osl, we_rev, we_isB, we_cnew, we_clen, we_cpop, we_cnil, wl_nil, wl_cons, wr_it, wr_rng, wr_enum, wr_zip, ws_set, ws_own, ws_frz, ws_unp, ws_unp2, ws_par, ws_app, ws_oset, ws_cset, ws_ifs, ws_fors, ws_whil, ws_ret, ws_retn, ws_brk, ws_cnt, ws_pas, ws_expr, wb_nil, wb_cons, thn_nx, thn_rt, thn_bk, thn_ct, fin_nx, fin_rt, turn_nx, turn_ct, turn_bk, turn_rt, List.set_cons_zero, List.set_cons_succ, List.set_nil, List.getElem?_cons_zero, List.getElem?_cons_succ, Option.some.injEq, Sl.v.injEq, Sl.o.injEq, D.bl.injEq, D.int.injEq, D.str.injEq, D.tup.injEq, D.lst.injEq, D.cell.injEq, D.fn.injEq, exists_eq_left, exists_eq_left', exists_eq_right, List.length_cons, List.length_nil, Nat.reduceAdd, Nat.reduceSub, List.replicate_succ, List.replicate_zero, List.map_cons, List.map_nil, List.cons_append, List.nil_append, List.append_nil, true_and, and_true, false_and, and_false, forall_const, Bool.true_eq_false, Bool.false_eq_true, Bool.not_true, Bool.not_false, setMany, asg, Tg.slots, wipeE, optI, testOf, ne_eq, not_true_eq_false, not_false_eq_true, exists_const, reduceCtorEq, false_or, or_false, true_or, or_true, exists_false, Int.reduceLT, Int.reduceLE, Int.reduceNeg, Int.reduceAdd, Int.reduceSub, decide_true, decide_false, Bool.and_true, Bool.true_and, Bool.and_false, Bool.false_and, Bool.or_true, Bool.true_or, Bool.or_false, Bool.false_or, false_implies, true_implies, if_true, if_false, ite_true, ite_false, implies_true, envOf, op_add, op_addT, op_addL, op_sub, op_mul, op_fdiv, op_mod, op_lt, op_le, op_gt, op_ge, op_eqI, op_neI, op_eqS, op_neS, len_tup, len_lst, len_rol, abs_int, max2, min2, int_int, int_bl, nn_non, nn_int, nn_bl, nn_str, nn_tup, nn_lst, ix_tup, ix_lst, ix_rol, ix_cell, op_inS2, sl_tup, sl_lst, items_tup, items_lst, atI_0, atI_1, atI_2, cutD_1, cutD_from1, cutD_to, p10_6, p10_7, p10_8, p10_9, p10_10, p10_11, p10_12, sum_ints, all_bls, any_bls, eqb_ints, eqb_nilL, isin_ints, enum_lst, cmp_int, cmp_non, cmp_str, cmp_dInts, cmp_nilL, it_int_non, it_int_bl, it_int_int, it_int_str, it_int_tup, it_int_lst, it_int_rol, it_bool_non, it_bool_bl, it_bool_int, it_bool_str, it_bool_tup, it_bool_lst, it_bool_rol, it_str_non, it_str_bl, it_str_int, it_str_str, it_str_tup, it_str_lst, it_str_rol, it_tuple_non, it_tuple_bl, it_tuple_int, it_tuple_str, it_tuple_tup, it_tuple_lst, it_tuple_rol, it_list_non, it_list_bl, it_list_int, it_list_str, it_list_tup, it_list_lst, it_list_rol, wc_of (sp_from_any (by omega : 1 ≤ n - 1) (hvr x hx))]
          · rw [List.map_id']
            have hcf : D.cmp (.lst ((y :: r).filter fun x => !isI x)) = true := by
              have := cmp_lst (f := fun x : D => x) (xs := (y :: r).filter fun x => !isI x) (n := 50) (fun x hx => by
                have := vb_cmp (hvr x (List.mem_filter.mp hx).1)
                exact ⟨this.1, by omega⟩) (by decide)
              rwa [List.map_id'] at this
            have hne : op2 .ne (.lst ((y :: r).filter fun x => !isI x)) (.lst []) = some (.bl (!(y :: r).all isI)) := by
              rw [op_neD hcf rfl, ← flt_nil]
              cases (y :: r).filter fun x => !isI x <;> rfl
            rw [hne]
            simp only [we_var, we_cn, we_cb, we_ci, we_cs, we_glob, we_tup, we_lst, we_newc, we_op, we_isN, we_notN, we_neg, we_nt, we_and, we_or, we_chain, we_ite, we_call, we_calll, we_b1, we_b2, we_isi, we_ix, we_sl, we_lc, we_lrng, we_olen, we_oix, we_inD, we_getD, we_calld, we_osl, we_rev, we_isB, we_cnew, we_clen, we_cpop, we_cnil, wl_nil, wl_cons, wr_it, wr_rng, wr_enum, wr_zip, ws_set, ws_own, ws_frz, ws_unp, ws_unp2, ws_par, ws_app, ws_oset, ws_cset, ws_ifs, ws_fors, ws_whil, ws_ret, ws_retn, ws_brk, ws_cnt, ws_pas, ws_expr, wb_nil, wb_cons, thn_nx, thn_rt, thn_bk, thn_ct, fin_nx, fin_rt, turn_nx, turn_ct, turn_bk, turn_rt, List.set_cons_zero, List.set_cons_succ, List.set_nil, List.getElem?_cons_zero, List.getElem?_cons_succ, Option.some.injEq, Sl.v.injEq, Sl.o.injEq, D.bl.injEq, D.int.injEq, D.str.injEq, D.tup.injEq, D.lst.injEq, D.cell.injEq, D.fn.injEq, exists_eq_left, exists_eq_left', exists_eq_right, List.length_cons, List.length_nil, Nat.reduceAdd, Nat.reduceSub, List.replicate_succ, List.replicate_zero, List.map_cons, List.map_nil, List.cons_append, List.nil_append, List.append_nil, true_and, and_true, false_and, and_false, forall_const, Bool.true_eq_false, Bool.false_eq_true, Bool.not_true, Bool.not_false, setMany, asg, Tg.slots, wipeE, optI, testOf, ne_eq, not_true_eq_false, not_false_eq_true, exists_const, reduceCtorEq, false_or, or_false, true_or, or_true, exists_false, Int.reduceLT, Int.reduceLE, Int.reduceNeg, Int.reduceAdd, Int.reduceSub, decide_true, decide_false, Bool.and_true, Bool.true_and, Bool.and_false, Bool.false_and, Bool.or_true, Bool.true_or, Bool.or_false, Bool.false_or, false_implies, true_implies, if_true, if_false, ite_true, ite_false, implies_true, envOf, op_add, op_addT, op_addL, op_sub, op_mul, op_fdiv, op_mod, op_lt, op_le, op_gt, op_ge, op_eqI, op_neI, op_eqS, op_neS, len_tup, len_lst, len_rol, abs_int, max2, min2, int_int, int_bl, nn_non, nn_int, nn_bl, nn_str, nn_tup, nn_lst, ix_tup, ix_lst, ix_rol, ix_cell, op_inS2, sl_tup, sl_lst, items_tup, items_lst, atI_0, atI_1, atI_2, cutD_1, cutD_from1, cutD_to, p10_6, p10_7, p10_8, p10_9, p10_10, p10_11, p10_12, sum_ints, all_bls, any_bls, eqb_ints, eqb_nilL, isin_ints, enum_lst, cmp_int, cmp_non, cmp_str, cmp_dInts, cmp_nilL, it_int_non, it_int_bl, it_int_int, it_int_str, it_int_tup, it_int_lst, it_int_rol, it_bool_non, it_bool_bl, it_bool_int, it_bool_str, it_bool_tup, it_bool_lst, it_bool_rol, it_str_non, it_str_bl, it_str_int, it_str_str, it_str_tup, it_str_lst, it_str_rol, it_tuple_non, it_tuple_bl, it_tuple_int, it_tuple_str, it_tuple_tup, it_tuple_lst, it_tuple_rol, it_list_non, it_list_bl, it_list_int, it_list_str, it_list_tup, it_list_lst, it_list_rol]
            refine ⟨fun h1 => ?_, fun h1 => ?_⟩
            · simp only [Bool.not_eq_true'] at h1
              simp only [LK, h1, Bool.false_and, and_self]
            · simp only [Bool.not_eq_false'] at h1
              obtain ⟨vs, evs⟩ := isI_all h1
              cases vs with
              | nil => simp at evs
              | cons v ws =>
                rw [List.map_cons, List.cons.injEq] at evs
                obtain ⟨rfl, rfl⟩ := evs
                cases ek : kdOf s with
                | none =>
                  have kk := kdOf_none ek
                  have k1 := (kk .bar).symm; have k2 := (kk .piston).symm; have k3 := (kk .cable).symm; have k4 := (kk .strut).symm; have k5 := (kk .cut).symm
                  simp only [Kd.s] at k1 k2 k3 k4 k5
                  simp only [op_inS3, k1, k2, k3, k4, k5, decide_false, Bool.or_self, we_var, we_cn, we_cb, we_ci, we_cs, we_glob, we_tup, we_lst, we_newc, we_op, we_isN, we_notN, we_neg, we_nt, we_and, we_or, we_chain, we_ite, we_call, we_calll, we_b1, we_b2, we_isi, we_ix, we_sl, we_lc, we_lrng, we_olen, we_oix, we_inD, we_getD, we_calld, we_osl, we_rev, we_isB, we_cnew, we_clen, we_cpop, we_cnil, wl_nil, wl_cons, wr_it, wr_rng, wr_enum, wr_zip, ws_set, ws_own, ws_frz, ws_unp, ws_unp2, ws_par, ws_app, ws_oset, ws_cset, ws_ifs, ws_fors, ws_whil, ws_ret, ws_retn, ws_brk, ws_cnt, ws_pas, ws_expr, wb_nil, wb_cons, thn_nx, thn_rt, thn_bk, thn_ct, fin_nx, fin_rt, turn_nx, turn_ct, turn_bk, turn_rt, List.set_cons_zero, List.set_cons_succ, List.set_nil, List.getElem?_cons_zero, List.getElem?_cons_succ, Option.some.injEq, Sl.v.injEq, Sl.o.injEq, D.bl.injEq, D.int.injEq, D.str.injEq, D.tup.injEq, D.lst.injEq, D.cell.injEq, D.fn.injEq, exists_eq_left, exists_eq_left', exists_eq_right, List.length_cons, List.length_nil, Nat.reduceAdd, Nat.reduceSub, List.replicate_succ, List.replicate_zero, List.map_cons, List.map_nil, List.cons_append, List.nil_append, List.append_nil, true_and, and_true, false_and, and_false, forall_const, Bool.true_eq_false, Bool.false_eq_true, Bool.not_true, Bool.not_false, setMany, asg, Tg.slots, wipeE, optI, testOf, ne_eq, not_true_eq_false, not_false_eq_true, exists_const, reduceCtorEq, false_or, or_false, true_or, or_true, exists_false, Int.reduceLT, Int.reduceLE, Int.reduceNeg, Int.reduceAdd, Int.reduceSub, decide_true, decide_false, Bool.and_true, Bool.true_and, Bool.and_false, Bool.false_and, Bool.or_true, Bool.true_or, Bool.or_false, Bool.false_or, false_implies, true_implies, if_true, if_false, ite_true, ite_false, implies_true, envOf, op_add, op_addT, op_addL, op_sub, op_mul, op_fdiv, op_mod, op_lt, op_le, op_gt, op_ge, op_eqI, op_neI, op_eqS, op_neS, len_tup, len_lst, len_rol, abs_int, max2, min2, int_int, int_bl, nn_non, nn_int, nn_bl, nn_str, nn_tup, nn_lst, ix_tup, ix_lst, ix_rol, ix_cell, op_inS2, sl_tup, sl_lst, items_tup, items_lst, atI_0, atI_1, atI_2, cutD_1, cutD_from1, cutD_to, p10_6, p10_7, p10_8, p10_9, p10_10, p10_11, p10_12, sum_ints, all_bls, any_bls, eqb_ints, eqb_nilL, isin_ints, enum_lst, cmp_int, cmp_non, cmp_str, cmp_dInts, cmp_nilL, it_int_non, it_int_bl, it_int_int, it_int_str, it_int_tup, it_int_lst, it_int_rol, it_bool_non, it_bool_bl, it_bool_int, it_bool_str, it_bool_tup, it_bool_lst, it_bool_rol, it_str_non, it_str_bl, it_str_int, it_str_str, it_str_tup, it_str_lst, it_str_rol, it_tuple_non, it_tuple_bl, it_tuple_int, it_tuple_str, it_tuple_tup, it_tuple_lst, it_tuple_rol, it_list_non, it_list_bl, it_list_int, it_list_str, it_list_tup, it_list_lst, it_list_rol]
                  simp [LK, ek]
                | some q =>
                  have es := kdOf_some ek
                  subst es
                  have e1 : op2 .isin (.str q.s) (.tup [.str ("bar" : Str), .str ("cable" : Str), .str ("strut" : Str)]) = some (.bl (!q.two)) := by cases q <;> rfl
                  have e2 : (decide (("piston" : Str) = q.s) || decide (("cut" : Str) = q.s)) = q.two := by cases q <;> decide +kernel
                  rw [e1, e2]
                  have eL : LK (.tup (.str q.s :: .int v :: ws.map .int)) = (decide (ws.length + 1 = if q.two = true then 2 else 1) && leq (.int v :: ws.map .int)) := by
                    simp only [LK, h1, ek, Bool.true_and, List.length_cons, List.length_map]
                  rw [eL]
                  cases ht : q.two with
                  | false =>
                    cases ws with
                    | nil => simp [leq]
                    | cons b ws => simp; omega
                  | true =>
                    match ws with
                    | [] => simp
                    | [b] => simp [leq, we_var, we_cn, we_cb, we_ci, we_cs, we_glob, we_tup, we_lst, we_newc, we_op, we_isN, we_notN, we_neg, we_nt, we_and, we_or, we_chain, we_ite, we_call, we_calll, we_b1, we_b2, we_isi, we_ix, we_sl, we_lc, we_lrng, we_olen, we_oix, we_inD, we_getD, we_calld, we_osl, we_rev, we_isB, we_cnew, we_clen, we_cpop, we_cnil, wl_nil, wl_cons, wr_it, wr_rng, wr_enum, wr_zip, ws_set, ws_own, ws_frz, ws_unp, ws_unp2, ws_par, ws_app, ws_oset, ws_cset, ws_ifs, ws_fors, ws_whil, ws_ret, ws_retn, ws_brk, ws_cnt, ws_pas, ws_expr, wb_nil, wb_cons, thn_nx, thn_rt, thn_bk, thn_ct, fin_nx, fin_rt, turn_nx, turn_ct, turn_bk, turn_rt, List.set_cons_zero, List.set_cons_succ, List.set_nil, List.getElem?_cons_zero, List.getElem?_cons_succ, Option.some.injEq, Sl.v.injEq, Sl.o.injEq, D.bl.injEq, D.int.injEq, D.str.injEq, D.tup.injEq, D.lst.injEq, D.cell.injEq, D.fn.injEq, exists_eq_left, exists_eq_left', exists_eq_right, List.length_cons, List.length_nil, Nat.reduceAdd, Nat.reduceSub, List.replicate_succ, List.replicate_zero, List.map_cons, List.map_nil, List.cons_append, List.nil_append, List.append_nil, true_and, and_true, false_and, and_false, forall_const, Bool.true_eq_false, Bool.false_eq_true, Bool.not_true, Bool.not_false, setMany, asg, Tg.slots, wipeE, optI, testOf, ne_eq, not_true_eq_false, not_false_eq_true, exists_const, reduceCtorEq, false_or, or_false, true_or, or_true, exists_false, Int.reduceLT, Int.reduceLE, Int.reduceNeg, Int.reduceAdd, Int.reduceSub, decide_true, decide_false, Bool.and_true, Bool.true_and, Bool.and_false, Bool.false_and, Bool.or_true, Bool.true_or, Bool.or_false, Bool.false_or, false_implies, true_implies, if_true, if_false, ite_true, ite_false, implies_true, envOf, op_add, op_addT, op_addL, op_sub, op_mul, op_fdiv, op_mod, op_lt, op_le, op_gt, op_ge, op_eqI, op_neI, op_eqS, op_neS, len_tup, len_lst, len_rol, abs_int, max2, min2, int_int, int_bl, nn_non, nn_int, nn_bl, nn_str, nn_tup, nn_lst, ix_tup, ix_lst, ix_rol, ix_cell, op_inS2, sl_tup, sl_lst, items_tup, items_lst, atI_0, atI_1, atI_2, cutD_1, cutD_from1, cutD_to, p10_6, p10_7, p10_8, p10_9, p10_10, p10_11, p10_12, sum_ints, all_bls, any_bls, eqb_ints, eqb_nilL, isin_ints, enum_lst, cmp_int, cmp_non, cmp_str, cmp_dInts, cmp_nilL, it_int_non, it_int_bl, it_int_int, it_int_str, it_int_tup, it_int_lst, it_int_rol, it_bool_non, it_bool_bl, it_bool_int, it_bool_str, it_bool_tup, it_bool_lst, it_bool_rol, it_str_non, it_str_bl, it_str_int, it_str_str, it_str_tup, it_str_lst, it_str_rol, it_tuple_non, it_tuple_bl, it_tuple_int, it_tuple_str, it_tuple_tup, it_tuple_lst, it_tuple_rol, it_list_non, it_list_bl, it_list_int, it_list_str, it_list_tup, it_list_lst, it_list_rol]
                    | b :: c :: ws => simp; omega
        | _ => simp [fd__law_link_good, we_var, we_cn, we_cb, we_ci, we_cs, we_glob, we_tup, we_lst, we_newc, we_op, we_isN, we_notN, we_neg, we_nt, we_and, we_or, we_chain, we_ite, we_call, we_calll, we_b1, we_b2, we_isi, we_ix, we_sl, we_lc, we_lrng, we_olen, we_oix, we_inD, we_getD, we_calld, we_osl, we_rev, we_isB, we_cnew, we_clen, we_cpop, we_cnil, wl_nil, wl_cons, wr_it, wr_rng, wr_enum, wr_zip, ws_set, ws_own, ws_frz, ws_unp, ws_unp2, ws_par, ws_app, ws_oset, ws_cset, ws_ifs, ws_fors, ws_whil, ws_ret, ws_retn, ws_brk, ws_cnt, ws_pas, ws_expr, wb_nil, wb_cons, thn_nx, thn_rt, thn_bk, thn_ct, fin_nx, fin_rt, turn_nx, turn_ct, turn_bk, turn_rt, List.set_cons_zero, List.set_cons_succ, List.set_nil, List.getElem?_cons_zero, List.getElem?_cons_succ, Option.some.injEq, Sl.v.injEq, Sl.o.injEq, D.bl.injEq, D.int.injEq, D.str.injEq, D.tup.injEq, D.lst.injEq, D.cell.injEq, D.fn.injEq, exists_eq_left, exists_eq_left', exists_eq_right, List.length_cons, List.length_nil, Nat.reduceAdd, Nat.reduceSub, List.replicate_succ, List.replicate_zero, List.map_cons, List.map_nil, List.cons_append, List.nil_append, List.append_nil, true_and, and_true, false_and, and_false, forall_const, Bool.true_eq_false, Bool.false_eq_true, Bool.not_true, Bool.not_false, setMany, asg, Tg.slots, wipeE, optI, testOf, ne_eq, not_true_eq_false, not_false_eq_true, exists_const, reduceCtorEq, false_or, or_false, true_or, or_true, exists_false, Int.reduceLT, Int.reduceLE, Int.reduceNeg, Int.reduceAdd, Int.reduceSub, decide_true, decide_false, Bool.and_true, Bool.true_and, Bool.and_false, Bool.false_and, Bool.or_true, Bool.true_or, Bool.or_false, Bool.false_or, false_implies, true_implies, if_true, if_false, ite_true, ite_false, implies_true, envOf, op_add, op_addT, op_addL, op_sub, op_mul, op_fdiv, op_mod, op_lt, op_le, op_gt, op_ge, op_eqI, op_neI, op_eqS, op_neS, len_tup, len_lst, len_rol, abs_int, max2, min2, int_int, int_bl, nn_non, nn_int, nn_bl, nn_str, nn_tup, nn_lst, ix_tup, ix_lst, ix_rol, ix_cell, op_inS2, sl_tup, sl_lst, items_tup, items_lst, atI_0, atI_1, atI_2, cutD_1, cutD_from1, cutD_to, p10_6, p10_7, p10_8, p10_9, p10_10, p10_11, p10_12, sum_ints, all_bls, any_bls, eqb_ints, eqb_nilL, isin_ints, enum_lst, cmp_int, cmp_non, cmp_str, cmp_dInts, cmp_nilL, it_int_non, it_int_bl, it_int_int, it_int_str, it_int_tup, it_int_lst, it_int_rol, it_bool_non, it_bool_bl, it_bool_int, it_bool_str, it_bool_tup, it_bool_lst, it_bool_rol, it_str_non, it_str_bl, it_str_int, it_str_str, it_str_tup, it_str_lst, it_str_rol, it_tuple_non, it_tuple_bl, it_tuple_int, it_tuple_str, it_tuple_tup, it_tuple_lst, it_tuple_rol, it_list_non, it_list_bl, it_list_int, it_list_str, it_list_tup, it_list_lst, it_list_rol, LK]; omega
  | _ => simp [fd__law_link_good, we_var, we_cn, we_cb, we_ci, we_cs, we_glob, we_tup, we_lst, we_newc, we_op, we_isN, we_notN, we_neg, we_nt, we_and, we_or, we_chain, we_ite, we_call, we_calll, we_b1, we_b2, we_isi, we_ix, we_sl, we_lc, we_lrng, we_olen, we_oix, we_inD, we_getD, we_calld, we_osl, we_rev, we_isB, we_cnew, we_clen, we_cpop, we_cnil, wl_nil, wl_cons, wr_it, wr_rng, wr_enum, wr_zip, ws_set, ws_own, ws_frz, ws_unp, ws_unp2, ws_par, ws_app, ws_oset, ws_cset, ws_ifs, ws_fors, ws_whil, ws_ret, ws_retn, ws_brk, ws_cnt, ws_pas, ws_expr, wb_nil, wb_cons, thn_nx, thn_rt, thn_bk, thn_ct, fin_nx, fin_rt, turn_nx, turn_ct, turn_bk, turn_rt, List.set_cons_zero, List.set_cons_succ, List.set_nil, List.getElem?_cons_zero, List.getElem?_cons_succ, Option.some.injEq, Sl.v.injEq, Sl.o.injEq, D.bl.injEq, D.int.injEq, D.str.injEq, D.tup.injEq, D.lst.injEq, D.cell.injEq, D.fn.injEq, exists_eq_left, exists_eq_left', exists_eq_right, List.length_cons, List.length_nil, Nat.reduceAdd, Nat.reduceSub, List.replicate_succ, List.replicate_zero, List.map_cons, List.map_nil, List.cons_append, List.nil_append, List.append_nil, true_and, and_true, false_and, and_false, forall_const, Bool.true_eq_false, Bool.false_eq_true, Bool.not_true, Bool.not_false, setMany, asg, Tg.slots, wipeE, optI, testOf, ne_eq, not_true_eq_false, not_false_eq_true, exists_const, reduceCtorEq, false_or, or_false, true_or, or_true, exists_false, Int.reduceLT, Int.reduceLE, Int.reduceNeg, Int.reduceAdd, Int.reduceSub, decide_true, decide_false, Bool.and_true, Bool.true_and, Bool.and_false, Bool.false_and, Bool.or_true, Bool.true_or, Bool.or_false, Bool.false_or, false_implies, true_implies, if_true, if_false, ite_true, ite_false, implies_true, envOf, op_add, op_addT, op_addL, op_sub, op_mul, op_fdiv, op_mod, op_lt, op_le, op_gt, op_ge, op_eqI, op_neI, op_eqS, op_neS, len_tup, len_lst, len_rol, abs_int, max2, min2, int_int, int_bl, nn_non, nn_int, nn_bl, nn_str, nn_tup, nn_lst, ix_tup, ix_lst, ix_rol, ix_cell, op_inS2, sl_tup, sl_lst, items_tup, items_lst, atI_0, atI_1, atI_2, cutD_1, cutD_from1, cutD_to, p10_6, p10_7, p10_8, p10_9, p10_10, p10_11, p10_12, sum_ints, all_bls, any_bls, eqb_ints, eqb_nilL, isin_ints, enum_lst, cmp_int, cmp_non, cmp_str, cmp_dInts, cmp_nilL, it_int_non, it_int_bl, it_int_int, it_int_str, it_int_tup, it_int_lst, it_int_rol, it_bool_non, it_bool_bl, it_bool_int, it_bool_str, it_bool_tup, it_bool_lst, it_bool_rol, it_str_non, it_str_bl, it_str_int, it_str_str, it_str_tup, it_str_lst, it_str_rol, it_tuple_non, it_tuple_bl, it_tuple_int, it_tuple_str, it_tuple_tup, it_tuple_lst, it_tuple_rol, it_list_non, it_list_bl, it_list_int, it_list_str, it_list_tup, it_list_lst, it_list_rol, LK]
def jtB : D → Bool
  | .tup (.str s :: r) => decide (2 ≤ r.length) && decide (r.length ≤ 6) && (decide (("row" : Str) = s) || decide (("side" : Str) = s))
  | _ => false
def tlD : D → List D
  | .tup (_ :: r) => r
  | _ => []
theorem jt_some {d : D} (h : jtB d = true) : ∃ (r : Bool) (xs : List D), d = .tup (.str (jw r) :: xs) ∧ 2 ≤ xs.length ∧ xs.length ≤ 6 := by
  unfold jtB at h
  split at h
  · rename_i s r
    simp only [Bool.and_eq_true, Bool.or_eq_true, decide_eq_true_eq] at h
    rcases h.2 with e | e
    · exact ⟨true, r, by rw [← e]; rfl, h.1.1, h.1.2⟩
    · exact ⟨false, r, by rw [← e]; rfl, h.1.1, h.1.2⟩
  · cases h
theorem sp_joint_any {n : Nat} (hn : 1 ≤ n) {k : Nat} {d : D} (h : vb k d = true) {S : Store} : ec gv pr n F.is_joint [d] S = some (.bl (jtB d), S) := by
  refine of_wc ?_
  rw [wc_def' hn pr_is_joint rfl]
  cases d with
  | fn g => simp [vb] at h
  | cell c => simp [vb] at h
  | tup xs =>
    obtain ⟨j, rfl, hl, hv⟩ := vb_tup h
    cases xs with
    | nil => simp [fd_is_joint, we_var, we_cn, we_cb, we_ci, we_cs, we_glob, we_tup, we_lst, we_newc, we_op, we_isN, we_notN, we_neg, we_nt, we_and, we_or, we_chain, we_ite, we_call, we_calll, we_b1, we_b2, we_isi, we_ix, we_sl, we_lc, we_lrng, we_olen, we_oix, we_inD, we_getD, we_calld, we_osl, we_rev, we_isB, we_cnew, we_clen, we_cpop, we_cnil, wl_nil, wl_cons, wr_it, wr_rng, wr_enum, wr_zip, ws_set, ws_own, ws_frz, ws_unp, ws_unp2, ws_par, ws_app, ws_oset, ws_cset, ws_ifs, ws_fors, ws_whil, ws_ret, ws_retn, ws_brk, ws_cnt, ws_pas, ws_expr, wb_nil, wb_cons, thn_nx, thn_rt, thn_bk, thn_ct, fin_nx, fin_rt, turn_nx, turn_ct, turn_bk, turn_rt, List.set_cons_zero, List.set_cons_succ, List.set_nil, List.getElem?_cons_zero, List.getElem?_cons_succ, Option.some.injEq, Sl.v.injEq, Sl.o.injEq, D.bl.injEq, D.int.injEq, D.str.injEq, D.tup.injEq, D.lst.injEq, D.cell.injEq, D.fn.injEq, exists_eq_left, exists_eq_left', exists_eq_right, List.length_cons, List.length_nil, Nat.reduceAdd, Nat.reduceSub, List.replicate_succ, List.replicate_zero, List.map_cons, List.map_nil, List.cons_append, List.nil_append, List.append_nil, true_and, and_true, false_and, and_false, forall_const, Bool.true_eq_false, Bool.false_eq_true, Bool.not_true, Bool.not_false, setMany, asg, Tg.slots, wipeE, optI, testOf, ne_eq, not_true_eq_false, not_false_eq_true, exists_const, reduceCtorEq, false_or, or_false, true_or, or_true, exists_false, Int.reduceLT, Int.reduceLE, Int.reduceNeg, Int.reduceAdd, Int.reduceSub, decide_true, decide_false, Bool.and_true, Bool.true_and, Bool.and_false, Bool.false_and, Bool.or_true, Bool.true_or, Bool.or_false, Bool.false_or, false_implies, true_implies, if_true, if_false, ite_true, ite_false, implies_true, envOf, op_add, op_addT, op_addL, op_sub, op_mul, op_fdiv, op_mod, op_lt, op_le, op_gt, op_ge, op_eqI, op_neI, op_eqS, op_neS, len_tup, len_lst, len_rol, abs_int, max2, min2, int_int, int_bl, nn_non, nn_int, nn_bl, nn_str, nn_tup, nn_lst, ix_tup, ix_lst, ix_rol, ix_cell, op_inS2, sl_tup, sl_lst, items_tup, items_lst, atI_0, atI_1, atI_2, cutD_1, cutD_from1, cutD_to, p10_6, p10_7, p10_8, p10_9, p10_10, p10_11, p10_12, sum_ints, all_bls, any_bls, eqb_ints, eqb_nilL, isin_ints, enum_lst, cmp_int, cmp_non, cmp_str, cmp_dInts, cmp_nilL, it_int_non, it_int_bl, it_int_int, it_int_str, it_int_tup, it_int_lst, it_int_rol, it_bool_non, it_bool_bl, it_bool_int, it_bool_str, it_bool_tup, it_bool_lst, it_bool_rol, it_str_non, it_str_bl, it_str_int, it_str_str, it_str_tup, it_str_lst, it_str_rol, it_tuple_non, it_tuple_bl, it_tuple_int, it_tuple_str, it_tuple_tup, it_tuple_lst, it_tuple_rol, it_list_non, it_list_bl, it_list_int, it_list_str, it_list_tup, it_list_lst, it_list_rol, jtB]
    | cons x r =>
      cases x with
      | fn g => have := hv (.fn g) (by simp); simp [vb] at this
      | cell c => have := hv (.cell c) (by simp); simp [vb] at this
      | str s =>
        by_cases h1 : 2 ≤ r.length
        · by_cases h2 : r.length ≤ 6
          · have e1 : decide ((3 : Int) ≤ ((r.length + 1 : Nat) : Int)) = true := decide_eq_true (by omega)
            have e2 : decide ((((r.length + 1 : Nat) : Int)) ≤ 7) = true := decide_eq_true (by omega)
            simp only [fd_is_joint, we_var, we_cn, we_cb, we_ci, we_cs, we_glob, we_tup, we_lst, we_newc, we_op, we_isN, we_notN, we_neg, we_nt, we_and, we_or, we_chain, we_ite, we_call, we_calll, we_b1, we_b2, we_isi, we_ix, we_sl, we_lc, we_lrng, we_olen, we_oix, we_inD, we_getD, we_calld, we_osl, we_rev, we_isB, we_cnew, we_clen, we_cpop, we_cnil, wl_nil, wl_cons, wr_it, wr_rng, wr_enum, wr_zip, ws_set, ws_own, ws_frz, ws_unp, ws_unp2, ws_par, ws_app, ws_oset, ws_cset, ws_ifs, ws_fors, ws_whil, ws_ret, ws_retn, ws_brk, ws_cnt, ws_pas, ws_expr, wb_nil, wb_cons, thn_nx, thn_rt, thn_bk, thn_ct, fin_nx, fin_rt, turn_nx, turn_ct, turn_bk, turn_rt, List.set_cons_zero, List.set_cons_succ, List.set_nil, List.getElem?_cons_zero, List.getElem?_cons_succ, Option.some.injEq, Sl.v.injEq, Sl.o.injEq, D.bl.injEq, D.int.injEq, D.str.injEq, D.tup.injEq, D.lst.injEq, D.cell.injEq, D.fn.injEq, exists_eq_left, exists_eq_left', exists_eq_right, List.length_cons, List.length_nil, Nat.reduceAdd, Nat.reduceSub, List.replicate_succ, List.replicate_zero, List.map_cons, List.map_nil, List.cons_append, List.nil_append, List.append_nil, true_and, and_true, false_and, and_false, forall_const, Bool.true_eq_false, Bool.false_eq_true, Bool.not_true, Bool.not_false, setMany, asg, Tg.slots, wipeE, optI, testOf, ne_eq, not_true_eq_false, not_false_eq_true, exists_const, reduceCtorEq, false_or, or_false, true_or, or_true, exists_false, Int.reduceLT, Int.reduceLE, Int.reduceNeg, Int.reduceAdd, Int.reduceSub, decide_true, decide_false, Bool.and_true, Bool.true_and, Bool.and_false, Bool.false_and, Bool.or_true, Bool.true_or, Bool.or_false, Bool.false_or, false_implies, true_implies, if_true, if_false, ite_true, ite_false, implies_true, envOf, op_add, op_addT, op_addL, op_sub, op_mul, op_fdiv, op_mod, op_lt, op_le, op_gt, op_ge, op_eqI, op_neI, op_eqS, op_neS, len_tup, len_lst, len_rol, abs_int, max2, min2, int_int, int_bl, nn_non, nn_int, nn_bl, nn_str, nn_tup, nn_lst, ix_tup, ix_lst, ix_rol, ix_cell, op_inS2, sl_tup, sl_lst, items_tup, items_lst, atI_0, atI_1, atI_2, cutD_1, cutD_from1, cutD_to, p10_6, p10_7, p10_8, p10_9, p10_10, p10_11, p10_12, sum_ints, all_bls, any_bls, eqb_ints, eqb_nilL, isin_ints, enum_lst, cmp_int, cmp_non, cmp_str, cmp_dInts, cmp_nilL, it_int_non, it_int_bl, it_int_int, it_int_str, it_int_tup, it_int_lst, it_int_rol, it_bool_non, it_bool_bl, it_bool_int, it_bool_str, it_bool_tup, it_bool_lst, it_bool_rol, it_str_non, it_str_bl, it_str_int, it_str_str, it_str_tup, it_str_lst, it_str_rol, it_tuple_non, it_tuple_bl, it_tuple_int, it_tuple_str, it_tuple_tup, it_tuple_lst, it_tuple_rol, it_list_non, it_list_bl, it_list_int, it_list_str, it_list_tup, it_list_lst, it_list_rol, List.length_cons, e1, e2, op_inP2]
            simp [jtB, h1, h2]
          · have e1 : decide ((3 : Int) ≤ ((r.length + 1 : Nat) : Int)) = true := decide_eq_true (by omega)
            have e2 : decide ((((r.length + 1 : Nat) : Int)) ≤ 7) = false := decide_eq_false (by omega)
            simp only [fd_is_joint, we_var, we_cn, we_cb, we_ci, we_cs, we_glob, we_tup, we_lst, we_newc, we_op, we_isN, we_notN, we_neg, we_nt, we_and, we_or, we_chain, we_ite, we_call, we_calll, we_b1, we_b2, we_isi, we_ix, we_sl, we_lc, we_lrng, we_olen, we_oix, we_inD, we_getD, we_calld, we_osl, we_rev, we_isB, we_cnew, we_clen, we_cpop, we_cnil, wl_nil, wl_cons, wr_it, wr_rng, wr_enum, wr_zip, ws_set, ws_own, ws_frz, ws_unp, ws_unp2, ws_par, ws_app, ws_oset, ws_cset, ws_ifs, ws_fors, ws_whil, ws_ret, ws_retn, ws_brk, ws_cnt, ws_pas, ws_expr, wb_nil, wb_cons, thn_nx, thn_rt, thn_bk, thn_ct, fin_nx, fin_rt, turn_nx, turn_ct, turn_bk, turn_rt, List.set_cons_zero, List.set_cons_succ, List.set_nil, List.getElem?_cons_zero, List.getElem?_cons_succ, Option.some.injEq, Sl.v.injEq, Sl.o.injEq, D.bl.injEq, D.int.injEq, D.str.injEq, D.tup.injEq, D.lst.injEq, D.cell.injEq, D.fn.injEq, exists_eq_left, exists_eq_left', exists_eq_right, List.length_cons, List.length_nil, Nat.reduceAdd, Nat.reduceSub, List.replicate_succ, List.replicate_zero, List.map_cons, List.map_nil, List.cons_append, List.nil_append, List.append_nil, true_and, and_true, false_and, and_false, forall_const, Bool.true_eq_false, Bool.false_eq_true, Bool.not_true, Bool.not_false, setMany, asg, Tg.slots, wipeE, optI, testOf, ne_eq, not_true_eq_false, not_false_eq_true, exists_const, reduceCtorEq, false_or, or_false, true_or, or_true, exists_false, Int.reduceLT, Int.reduceLE, Int.reduceNeg, Int.reduceAdd, Int.reduceSub, decide_true, decide_false, Bool.and_true, Bool.true_and, Bool.and_false, Bool.false_and, Bool.or_true, Bool.true_or, Bool.or_false, Bool.false_or, false_implies, true_implies, if_true, if_false, ite_true, ite_false, implies_true, envOf, op_add, op_addT, op_addL, op_sub, op_mul, op_fdiv, op_mod, op_lt, op_le, op_gt, op_ge, op_eqI, op_neI, op_eqS, op_neS, len_tup, len_lst, len_rol, abs_int, max2, min2, int_int, int_bl, nn_non, nn_int, nn_bl, nn_str, nn_tup, nn_lst, ix_tup, ix_lst, ix_rol, ix_cell, op_inS2, sl_tup, sl_lst, items_tup, items_lst, atI_0, atI_1, atI_2, cutD_1, cutD_from1, cutD_to, p10_6, p10_7, p10_8, p10_9, p10_10, p10_11, p10_12, sum_ints, all_bls, any_bls, eqb_ints, eqb_nilL, isin_ints, enum_lst, cmp_int, cmp_non, cmp_str, cmp_dInts, cmp_nilL, it_int_non, it_int_bl, it_int_int, it_int_str, it_int_tup, it_int_lst, it_int_rol, it_bool_non, it_bool_bl, it_bool_int, it_bool_str, it_bool_tup, it_bool_lst, it_bool_rol, it_str_non, it_str_bl, it_str_int, it_str_str, it_str_tup, it_str_lst, it_str_rol, it_tuple_non, it_tuple_bl, it_tuple_int, it_tuple_str, it_tuple_tup, it_tuple_lst, it_tuple_rol, it_list_non, it_list_bl, it_list_int, it_list_str, it_list_tup, it_list_lst, it_list_rol, List.length_cons, e1, e2]
            simp [jtB, h2]
        · have e1 : decide ((3 : Int) ≤ ((r.length + 1 : Nat) : Int)) = false := decide_eq_false (by omega)
          simp only [fd_is_joint, we_var, we_cn, we_cb, we_ci, we_cs, we_glob, we_tup, we_lst, we_newc, we_op, we_isN, we_notN, we_neg, we_nt, we_and, we_or, we_chain, we_ite, we_call, we_calll, we_b1, we_b2, we_isi, we_ix, we_sl, we_lc, we_lrng, we_olen, we_oix, we_inD, we_getD, we_calld, we_osl, we_rev, we_isB, we_cnew, we_clen, we_cpop, we_cnil, wl_nil, wl_cons, wr_it, wr_rng, wr_enum, wr_zip, ws_set, ws_own, ws_frz, ws_unp, ws_unp2, ws_par, ws_app, ws_oset, ws_cset, ws_ifs, ws_fors, ws_whil, ws_ret, ws_retn, ws_brk, ws_cnt, ws_pas, ws_expr, wb_nil, wb_cons, thn_nx, thn_rt, thn_bk, thn_ct, fin_nx, fin_rt, turn_nx, turn_ct, turn_bk, turn_rt, List.set_cons_zero, List.set_cons_succ, List.set_nil, List.getElem?_cons_zero, List.getElem?_cons_succ, Option.some.injEq, Sl.v.injEq, Sl.o.injEq, D.bl.injEq, D.int.injEq, D.str.injEq, D.tup.injEq, D.lst.injEq, D.cell.injEq, D.fn.injEq, exists_eq_left, exists_eq_left', exists_eq_right, List.length_cons, List.length_nil, Nat.reduceAdd, Nat.reduceSub, List.replicate_succ, List.replicate_zero, List.map_cons, List.map_nil, List.cons_append, List.nil_append, List.append_nil, true_and, and_true, false_and, and_false, forall_const, Bool.true_eq_false, Bool.false_eq_true, Bool.not_true, Bool.not_false, setMany, asg, Tg.slots, wipeE, optI, testOf, ne_eq, not_true_eq_false, not_false_eq_true, exists_const, reduceCtorEq, false_or, or_false, true_or, or_true, exists_false, Int.reduceLT, Int.reduceLE, Int.reduceNeg, Int.reduceAdd, Int.reduceSub, decide_true, decide_false, Bool.and_true, Bool.true_and, Bool.and_false, Bool.false_and, Bool.or_true, Bool.true_or, Bool.or_false, Bool.false_or, false_implies, true_implies, if_true, if_false, ite_true, ite_false, implies_true, envOf, op_add, op_addT, op_addL, op_sub, op_mul, op_fdiv, op_mod, op_lt, op_le, op_gt, op_ge, op_eqI, op_neI, op_eqS, op_neS, len_tup, len_lst, len_rol, abs_int, max2, min2, int_int, int_bl, nn_non, nn_int, nn_bl, nn_str, nn_tup, nn_lst, ix_tup, ix_lst, ix_rol, ix_cell, op_inS2, sl_tup, sl_lst, items_tup, items_lst, atI_0, atI_1, atI_2, cutD_1, cutD_from1, cutD_to, p10_6, p10_7, p10_8, p10_9, p10_10, p10_11, p10_12, sum_ints, all_bls, any_bls, eqb_ints, eqb_nilL, isin_ints, enum_lst, cmp_int, cmp_non, cmp_str, cmp_dInts, cmp_nilL, it_int_non, it_int_bl, it_int_int, it_int_str, it_int_tup, it_int_lst, it_int_rol, it_bool_non, it_bool_bl, it_bool_int, it_bool_str, it_bool_tup, it_bool_lst, it_bool_rol, it_str_non, it_str_bl, it_str_int, it_str_str, it_str_tup, it_str_lst, it_str_rol, it_tuple_non, it_tuple_bl, it_tuple_int, it_tuple_str, it_tuple_tup, it_tuple_lst, it_tuple_rol, it_list_non, it_list_bl, it_list_int, it_list_str, it_list_tup, it_list_lst, it_list_rol, List.length_cons, e1]
          simp [jtB, h1]
      | _ =>
        simp only [fd_is_joint, we_var, we_cn, we_cb, we_ci, we_cs, we_glob, we_tup, we_lst, we_newc, we_op, we_isN, we_notN, we_neg, we_nt, we_and, we_or, we_chain, we_ite, we_call, we_calll, we_b1, we_b2, we_isi, we_ix, we_sl, we_lc, we_lrng, we_olen, we_oix, we_inD, we_getD, we_calld, we_osl, we_rev, we_isB, we_cnew, we_clen, we_cpop, we_cnil, wl_nil, wl_cons, wr_it, wr_rng, wr_enum, wr_zip, ws_set, ws_own, ws_frz, ws_unp, ws_unp2, ws_par, ws_app, ws_oset, ws_cset, ws_ifs, ws_fors, ws_whil, ws_ret, ws_retn, ws_brk, ws_cnt, ws_pas, ws_expr, wb_nil, wb_cons, thn_nx, thn_rt, thn_bk, thn_ct, fin_nx, fin_rt, turn_nx, turn_ct, turn_bk, turn_rt, List.set_cons_zero, List.set_cons_succ, List.set_nil, List.getElem?_cons_zero, List.getElem?_cons_succ, Option.some.injEq, Sl.v.injEq, Sl.o.injEq, D.bl.injEq, D.int.injEq, D.str.injEq, D.tup.injEq, D.lst.injEq, D.cell.injEq, D.fn.injEq, exists_eq_left, exists_eq_left', exists_eq_right, List.length_cons, List.length_nil, Nat.reduceAdd, Nat.reduceSub, List.replicate_succ, List.replicate_zero, List.map_cons, List.map_nil, List.cons_append, List.nil_append, List.append_nil, true_and, and_true, false_and, and_false, forall_const, Bool.true_eq_false, Bool.false_eq_true, Bool.not_true, Bool.not_false, setMany, asg, Tg.slots, wipeE, optI, testOf, ne_eq, not_true_eq_false, not_false_eq_true, exists_const, reduceCtorEq, false_or, or_false, true_or, or_true, exists_false, Int.reduceLT, Int.reduceLE, Int.reduceNeg, Int.reduceAdd, Int.reduceSub, decide_true, decide_false, Bool.and_true, Bool.true_and, Bool.and_false, Bool.false_and, Bool.or_true, Bool.true_or, Bool.or_false, Bool.false_or, false_implies, true_implies, if_true, if_false, ite_true, ite_false, implies_true, envOf, op_add, op_addT, op_addL, op_sub, op_mul, op_fdiv, op_mod, op_lt, op_le, op_gt, op_ge, op_eqI, op_neI, op_eqS, op_neS, len_tup, len_lst, len_rol, abs_int, max2, min2, int_int, int_bl, nn_non, nn_int, nn_bl, nn_str, nn_tup, nn_lst, ix_tup, ix_lst, ix_rol, ix_cell, op_inS2, sl_tup, sl_lst, items_tup, items_lst, atI_0, atI_1, atI_2, cutD_1, cutD_from1, cutD_to, p10_6, p10_7, p10_8, p10_9, p10_10, p10_11, p10_12, sum_ints, all_bls, any_bls, eqb_ints, eqb_nilL, isin_ints, enum_lst, cmp_int, cmp_non, cmp_str, cmp_dInts, cmp_nilL, it_int_non, it_int_bl, it_int_int, it_int_str, it_int_tup, it_int_lst, it_int_rol, it_bool_non, it_bool_bl, it_bool_int, it_bool_str, it_bool_tup, it_bool_lst, it_bool_rol, it_str_non, it_str_bl, it_str_int, it_str_str, it_str_tup, it_str_lst, it_str_rol, it_tuple_non, it_tuple_bl, it_tuple_int, it_tuple_str, it_tuple_tup, it_tuple_lst, it_tuple_rol, it_list_non, it_list_bl, it_list_int, it_list_str, it_list_tup, it_list_lst, it_list_rol, List.length_cons, jtB]
        simp
  | _ => simp [fd_is_joint, we_var, we_cn, we_cb, we_ci, we_cs, we_glob, we_tup, we_lst, we_newc, we_op, we_isN, we_notN, we_neg, we_nt, we_and, we_or, we_chain, we_ite, we_call, we_calll, we_b1, we_b2, we_isi, we_ix, we_sl, we_lc, we_lrng, we_olen, we_oix, we_inD, we_getD, we_calld, we_osl, we_rev, we_isB, we_cnew, we_clen, we_cpop, we_cnil, wl_nil, wl_cons, wr_it, wr_rng, wr_enum, wr_zip, ws_set, ws_own, ws_frz, ws_unp, ws_unp2, ws_par, ws_app, ws_oset, ws_cset, ws_ifs, ws_fors, ws_whil, ws_ret, ws_retn, ws_brk, ws_cnt, ws_pas, ws_expr, wb_nil, wb_cons, thn_nx, thn_rt, thn_bk, thn_ct, fin_nx, fin_rt, turn_nx, turn_ct, turn_bk, turn_rt, List.set_cons_zero, List.set_cons_succ, List.set_nil, List.getElem?_cons_zero, List.getElem?_cons_succ, Option.some.injEq, Sl.v.injEq, Sl.o.injEq, D.bl.injEq, D.int.injEq, D.str.injEq, D.tup.injEq, D.lst.injEq, D.cell.injEq, D.fn.injEq, exists_eq_left, exists_eq_left', exists_eq_right, List.length_cons, List.length_nil, Nat.reduceAdd, Nat.reduceSub, List.replicate_succ, List.replicate_zero, List.map_cons, List.map_nil, List.cons_append, List.nil_append, List.append_nil, true_and, and_true, false_and, and_false, forall_const, Bool.true_eq_false, Bool.false_eq_true, Bool.not_true, Bool.not_false, setMany, asg, Tg.slots, wipeE, optI, testOf, ne_eq, not_true_eq_false, not_false_eq_true, exists_const, reduceCtorEq, false_or, or_false, true_or, or_true, exists_false, Int.reduceLT, Int.reduceLE, Int.reduceNeg, Int.reduceAdd, Int.reduceSub, decide_true, decide_false, Bool.and_true, Bool.true_and, Bool.and_false, Bool.false_and, Bool.or_true, Bool.true_or, Bool.or_false, Bool.false_or, false_implies, true_implies, if_true, if_false, ite_true, ite_false, implies_true, envOf, op_add, op_addT, op_addL, op_sub, op_mul, op_fdiv, op_mod, op_lt, op_le, op_gt, op_ge, op_eqI, op_neI, op_eqS, op_neS, len_tup, len_lst, len_rol, abs_int, max2, min2, int_int, int_bl, nn_non, nn_int, nn_bl, nn_str, nn_tup, nn_lst, ix_tup, ix_lst, ix_rol, ix_cell, op_inS2, sl_tup, sl_lst, items_tup, items_lst, atI_0, atI_1, atI_2, cutD_1, cutD_from1, cutD_to, p10_6, p10_7, p10_8, p10_9, p10_10, p10_11, p10_12, sum_ints, all_bls, any_bls, eqb_ints, eqb_nilL, isin_ints, enum_lst, cmp_int, cmp_non, cmp_str, cmp_dInts, cmp_nilL, it_int_non, it_int_bl, it_int_int, it_int_str, it_int_tup, it_int_lst, it_int_rol, it_bool_non, it_bool_bl, it_bool_int, it_bool_str, it_bool_tup, it_bool_lst, it_bool_rol, it_str_non, it_str_bl, it_str_int, it_str_str, it_str_tup, it_str_lst, it_str_rol, it_tuple_non, it_tuple_bl, it_tuple_int, it_tuple_str, it_tuple_tup, it_tuple_lst, it_tuple_rol, it_list_non, it_list_bl, it_list_int, it_list_str, it_list_tup, it_list_lst, it_list_rol, jtB]
theorem vb_tl {k : Nat} {d : D} (h : vb k d = true) (hj : jtB d = true) : ∃ j, k = j + 1 ∧ ∀ x, x ∈ tlD d → vb j x = true := by
  obtain ⟨r, xs, rfl, _, _⟩ := jt_some hj
  obtain ⟨j, e, _, hv⟩ := vb_tup h
  exact ⟨j, e, fun x hx => hv x (List.mem_cons_of_mem _ hx)⟩
def fmB : Nat → Int → D → Bool
  | 0, m, d => if LK d then decide (1 ≤ m) else false
  | k + 1, m, d => if LK d then decide (1 ≤ m) else if jtB d then (if m < 2 then false else (tlD d).all (fmB k (m - 1))) else false
def dpB : Nat → D → Int
  | 0, d => if LK d then 1 else 99
  | k + 1, d => if LK d then 1 else if jtB d then 1 + maxI ((tlD d).map (dpB k)) else 99
theorem sp_form_any : ∀ (k : Nat) {n : Nat} {m : Int} {d : D} {S : Store}, k ≤ 50 → k + 3 ≤ n → vb k d = true → ec gv pr n F.has_form [d, .int m, .fn F.is_link] S = some (.bl (fmB k m d), S) := by
  intro k
  induction k with
  | zero =>
    intro n m d S hk hn h
    refine of_wc ?_
    rw [wc_def' (by omega) pr_has_form rfl]
    have hj : jtB d = false := by
      cases e : jtB d with
      | false => rfl
      | true => obtain ⟨j, e, _⟩ := vb_tl h e; omega
    simp only [fd_has_form, we_var, we_cn, we_cb, we_ci, we_cs, we_glob, we_tup, we_lst, we_newc, we_op, we_isN, we_notN, we_neg, we_nt, we_and, we_or, we_chain, we_ite, we_call, we_calll, we_b1, we_b2, we_isi, we_ix, we_sl, we_lc, we_lrng, we_olen, we_oix, we_inD, we_getD, we_calld, we_osl, we_rev, we_isB, we_cnew, we_clen, we_cpop, we_cnil, wl_nil, wl_cons, wr_it, wr_rng, wr_enum, wr_zip, ws_set, ws_own, ws_frz, ws_unp, ws_unp2, ws_par, ws_app, ws_oset, ws_cset, ws_ifs, ws_fors, ws_whil, ws_ret, ws_retn, ws_brk, ws_cnt, ws_pas, ws_expr, wb_nil, wb_cons, thn_nx, thn_rt, thn_bk, thn_ct, fin_nx, fin_rt, turn_nx, turn_ct, turn_bk, turn_rt, List.set_cons_zero, List.set_cons_succ, List.set_nil, List.getElem?_cons_zero, List.getElem?_cons_succ, Option.some.injEq, Sl.v.injEq, Sl.o.injEq, D.bl.injEq, D.int.injEq, D.str.injEq, D.tup.injEq, D.lst.injEq, D.cell.injEq, D.fn.injEq, exists_eq_left, exists_eq_left', exists_eq_right, List.length_cons, List.length_nil, Nat.reduceAdd, Nat.reduceSub, List.replicate_succ, List.replicate_zero, List.map_cons, List.map_nil, List.cons_append, List.nil_append, List.append_nil, true_and, and_true, false_and, and_false, forall_const, Bool.true_eq_false, Bool.false_eq_true, Bool.not_true, Bool.not_false, setMany, asg, Tg.slots, wipeE, optI, testOf, ne_eq, not_true_eq_false, not_false_eq_true, exists_const, reduceCtorEq, false_or, or_false, true_or, or_true, exists_false, Int.reduceLT, Int.reduceLE, Int.reduceNeg, Int.reduceAdd, Int.reduceSub, decide_true, decide_false, Bool.and_true, Bool.true_and, Bool.and_false, Bool.false_and, Bool.or_true, Bool.true_or, Bool.or_false, Bool.false_or, false_implies, true_implies, if_true, if_false, ite_true, ite_false, implies_true, envOf, op_add, op_addT, op_addL, op_sub, op_mul, op_fdiv, op_mod, op_lt, op_le, op_gt, op_ge, op_eqI, op_neI, op_eqS, op_neS, len_tup, len_lst, len_rol, abs_int, max2, min2, int_int, int_bl, nn_non, nn_int, nn_bl, nn_str, nn_tup, nn_lst, ix_tup, ix_lst, ix_rol, ix_cell, op_inS2, sl_tup, sl_lst, items_tup, items_lst, atI_0, atI_1, atI_2, cutD_1, cutD_from1, cutD_to, p10_6, p10_7, p10_8, p10_9, p10_10, p10_11, p10_12, sum_ints, all_bls, any_bls, eqb_ints, eqb_nilL, isin_ints, enum_lst, cmp_int, cmp_non, cmp_str, cmp_dInts, cmp_nilL, it_int_non, it_int_bl, it_int_int, it_int_str, it_int_tup, it_int_lst, it_int_rol, it_bool_non, it_bool_bl, it_bool_int, it_bool_str, it_bool_tup, it_bool_lst, it_bool_rol, it_str_non, it_str_bl, it_str_int, it_str_str, it_str_tup, it_str_lst, it_str_rol, it_tuple_non, it_tuple_bl, it_tuple_int, it_tuple_str, it_tuple_tup, it_tuple_lst, it_tuple_rol, it_list_non, it_list_bl, it_list_int, it_list_str, it_list_tup, it_list_lst, it_list_rol, wc_of (sp_link_any (by omega : 2 ≤ n - 1) hk h), wc_of (sp_joint_any (by omega : 1 ≤ n - 1) h), hj]
    cases hl : LK d <;> simp [fmB, hl]
  | succ k ih =>
    intro n m d S hk hn h
    refine of_wc ?_
    rw [wc_def' (by omega) pr_has_form rfl]
    simp only [fd_has_form, we_var, we_cn, we_cb, we_ci, we_cs, we_glob, we_tup, we_lst, we_newc, we_op, we_isN, we_notN, we_neg, we_nt, we_and, we_or, we_chain, we_ite, we_call, we_calll, we_b1, we_b2, we_isi, we_ix, we_sl, we_lc, we_lrng, we_olen, we_oix, we_inD, we_getD, we_calld, we_osl, we_rev, we_isB, we_cnew, we_clen, we_cpop, we_cnil, wl_nil, wl_cons, wr_it, wr_rng, wr_enum, wr_zip, ws_set, ws_own, ws_frz, ws_unp, ws_unp2, ws_par, ws_app, ws_oset, ws_cset, ws_ifs, ws_fors, ws_whil, ws_ret, ws_retn, ws_brk, ws_cnt, ws_pas, ws_expr, wb_nil, wb_cons, thn_nx, thn_rt, thn_bk, thn_ct, fin_nx, fin_rt, turn_nx, turn_ct, turn_bk, turn_rt, List.set_cons_zero, List.set_cons_succ, List.set_nil, List.getElem?_cons_zero, List.getElem?_cons_succ, Option.some.injEq, Sl.v.injEq, Sl.o.injEq, D.bl.injEq, D.int.injEq, D.str.injEq, D.tup.injEq, D.lst.injEq, D.cell.injEq, D.fn.injEq, exists_eq_left, exists_eq_left', exists_eq_right, List.length_cons, List.length_nil, Nat.reduceAdd, Nat.reduceSub, List.replicate_succ, List.replicate_zero, List.map_cons, List.map_nil, List.cons_append, List.nil_append, List.append_nil, true_and, and_true, false_and, and_false, forall_const, Bool.true_eq_false, Bool.false_eq_true, Bool.not_true, Bool.not_false, setMany, asg, Tg.slots, wipeE, optI, testOf, ne_eq, not_true_eq_false, not_false_eq_true, exists_const, reduceCtorEq, false_or, or_false, true_or, or_true, exists_false, Int.reduceLT, Int.reduceLE, Int.reduceNeg, Int.reduceAdd, Int.reduceSub, decide_true, decide_false, Bool.and_true, Bool.true_and, Bool.and_false, Bool.false_and, Bool.or_true, Bool.true_or, Bool.or_false, Bool.false_or, false_implies, true_implies, if_true, if_false, ite_true, ite_false, implies_true, envOf, op_add, op_addT, op_addL, op_sub, op_mul, op_fdiv, op_mod, op_lt, op_le, op_gt, op_ge, op_eqI, op_neI, op_eqS, op_neS, len_tup, len_lst, len_rol, abs_int, max2, min2, int_int, int_bl, nn_non, nn_int, nn_bl, nn_str, nn_tup, nn_lst, ix_tup, ix_lst, ix_rol, ix_cell, op_inS2, sl_tup, sl_lst, items_tup, items_lst, atI_0, atI_1, atI_2, cutD_1, cutD_from1, cutD_to, p10_6, p10_7, p10_8, p10_9, p10_10, p10_11, p10_12, sum_ints, all_bls, any_bls, eqb_ints, eqb_nilL, isin_ints, enum_lst, cmp_int, cmp_non, cmp_str, cmp_dInts, cmp_nilL, it_int_non, it_int_bl, it_int_int, it_int_str, it_int_tup, it_int_lst, it_int_rol, it_bool_non, it_bool_bl, it_bool_int, it_bool_str, it_bool_tup, it_bool_lst, it_bool_rol, it_str_non, it_str_bl, it_str_int, it_str_str, it_str_tup, it_str_lst, it_str_rol, it_tuple_non, it_tuple_bl, it_tuple_int, it_tuple_str, it_tuple_tup, it_tuple_lst, it_tuple_rol, it_list_non, it_list_bl, it_list_int, it_list_str, it_list_tup, it_list_lst, it_list_rol, wc_of (sp_link_any (by omega : 2 ≤ n - 1) hk h), wc_of (sp_joint_any (by omega : 1 ≤ n - 1) h)]
    cases hl : LK d with
    | true => simp [fmB, hl]
    | false =>
      cases hj : jtB d with
      | false => simp [fmB, hl, hj]
      | true =>
        obtain ⟨j, e, hv⟩ := vb_tl h hj
        cases e
        obtain ⟨r, xs, rfl, x2, x6⟩ := jt_some hj
        by_cases hm : m < 2
        · simp [fmB, hl, hj, hm]
        · simp only [Bool.not_true, we_var, we_cn, we_cb, we_ci, we_cs, we_glob, we_tup, we_lst, we_newc, we_op, we_isN, we_notN, we_neg, we_nt, we_and, we_or, we_chain, we_ite, we_call, we_calll, we_b1, we_b2, we_isi, we_ix, we_sl, we_lc, we_lrng, we_olen, we_oix, we_inD, we_getD, we_calld, we_osl, we_rev, we_isB, we_cnew, we_clen, we_cpop, we_cnil, wl_nil, wl_cons, wr_it, wr_rng, wr_enum, wr_zip, ws_set, ws_own, ws_frz, ws_unp, ws_unp2, ws_par, ws_app, ws_oset, ws_cset, ws_ifs, ws_fors, ws_whil, ws_ret, ws_retn, ws_brk, ws_cnt, ws_pas, ws_expr, wb_nil, wb_cons, thn_nx, thn_rt, thn_bk, thn_ct, fin_nx, fin_rt, turn_nx, turn_ct, turn_bk, turn_rt, List.set_cons_zero, List.set_cons_succ, List.set_nil, List.getElem?_cons_zero, List.getElem?_cons_succ, Option.some.injEq, Sl.v.injEq, Sl.o.injEq, D.bl.injEq, D.int.injEq, D.str.injEq, D.tup.injEq, D.lst.injEq, D.cell.injEq, D.fn.injEq, exists_eq_left, exists_eq_left', exists_eq_right, List.length_cons, List.length_nil, Nat.reduceAdd, Nat.reduceSub, List.replicate_succ, List.replicate_zero, List.map_cons, List.map_nil, List.cons_append, List.nil_append, List.append_nil, true_and, and_true, false_and, and_false, forall_const, Bool.true_eq_false, Bool.false_eq_true, Bool.not_true, Bool.not_false, setMany, asg, Tg.slots, wipeE, optI, testOf, ne_eq, not_true_eq_false, not_false_eq_true, exists_const, reduceCtorEq, false_or, or_false, true_or, or_true, exists_false, Int.reduceLT, Int.reduceLE, Int.reduceNeg, Int.reduceAdd, Int.reduceSub, decide_true, decide_false, Bool.and_true, Bool.true_and, Bool.and_false, Bool.false_and, Bool.or_true, Bool.true_or, Bool.or_false, Bool.false_or, false_implies, true_implies, if_true, if_false, ite_true, ite_false, implies_true, envOf, op_add, op_addT, op_addL, op_sub, op_mul, op_fdiv, op_mod, op_lt, op_le, op_gt, op_ge, op_eqI, op_neI, op_eqS, op_neS, len_tup, len_lst, len_rol, abs_int, max2, min2, int_int, int_bl, nn_non, nn_int, nn_bl, nn_str, nn_tup, nn_lst, ix_tup, ix_lst, ix_rol, ix_cell, op_inS2, sl_tup, sl_lst, items_tup, items_lst, atI_0, atI_1, atI_2, cutD_1, cutD_from1, cutD_to, p10_6, p10_7, p10_8, p10_9, p10_10, p10_11, p10_12, sum_ints, all_bls, any_bls, eqb_ints, eqb_nilL, isin_ints, enum_lst, cmp_int, cmp_non, cmp_str, cmp_dInts, cmp_nilL, it_int_non, it_int_bl, it_int_int, it_int_str, it_int_tup, it_int_lst, it_int_rol, it_bool_non, it_bool_bl, it_bool_int, it_bool_str, it_bool_tup, it_bool_lst, it_bool_rol, it_str_non, it_str_bl, it_str_int, it_str_str, it_str_tup, it_str_lst, it_str_rol, it_tuple_non, it_tuple_bl, it_tuple_int, it_tuple_str, it_tuple_tup, it_tuple_lst, it_tuple_rol, it_list_non, it_list_bl, it_list_int, it_list_str, it_list_tup, it_list_lst, it_list_rol, hm, decide_false]
          refine wg_id (fun x => .bl (fmB k (m - 1) x)) (fun x hx => ⟨_, rfl, ?_⟩) ?_
          · simp only [we_var, we_cn, we_cb, we_ci, we_cs, we_glob, we_tup, we_lst, we_newc, we_op, we_isN, we_notN, we_neg, we_nt, we_and, we_or, we_chain, we_ite, we_call, we_calll, we_b1, we_b2, we_isi, we_ix, we_sl, we_lc, we_lrng, we_olen, we_oix, we_inD, we_getD, we_calld, we_osl, we_rev, we_isB, we_cnew, we_clen, we_cpop, we_cnil, wl_nil, wl_cons, wr_it, wr_rng, wr_enum, wr_zip, ws_set, ws_own, ws_frz, ws_unp, ws_unp2, ws_par, ws_app, ws_oset, ws_cset, ws_ifs, ws_fors, ws_whil, ws_ret, ws_retn, ws_brk, ws_cnt, ws_pas, ws_expr, wb_nil, wb_cons, thn_nx, thn_rt, thn_bk, thn_ct, fin_nx, fin_rt, turn_nx, turn_ct, turn_bk, turn_rt, List.set_cons_zero, List.set_cons_succ, List.set_nil, List.getElem?_cons_zero, List.getElem?_cons_succ, Option.some.injEq, Sl.v.injEq, Sl.o.injEq, D.bl.injEq, D.int.injEq, D.str.injEq, D.tup.injEq, D.lst.injEq, D.cell.injEq, D.fn.injEq, exists_eq_left, exists_eq_left', exists_eq_right, List.length_cons, List.length_nil, Nat.reduceAdd, Nat.reduceSub, List.replicate_succ, List.replicate_zero, List.map_cons, List.map_nil, List.cons_append, List.nil_append, List.append_nil, true_and, and_true, false_and, and_false, forall_const, Bool.true_eq_false, Bool.false_eq_true, Bool.not_true, Bool.not_false, setMany, asg, Tg.slots, wipeE, optI, testOf, ne_eq, not_true_eq_false, not_false_eq_true, exists_const, reduceCtorEq, false_or, or_false, true_or, or_true, exists_false, Int.reduceLT, Int.reduceLE, Int.reduceNeg, Int.reduceAdd, Int.reduceSub, decide_true, decide_false, Bool.and_true, Bool.true_and, Bool.and_false, Bool.false_and, Bool.or_true, Bool.true_or, Bool.or_false, Bool.false_or, false_implies, true_implies, if_true, if_false, ite_true, ite_false, implies_true, envOf, op_add, op_addT, op_addL, op_sub, op_mul, op_fdiv, op_mod, op_lt, op_le, op_gt, op_ge, op_eqI, op_neI, op_eqS, op_neS, len_tup, len_lst, len_rol, abs_int, max2, min2, int_int, int_bl, nn_non, nn_int, nn_bl, nn_str, nn_tup, nn_lst, ix_tup, ix_lst, ix_rol, ix_cell, op_inS2, sl_tup, sl_lst, items_tup, items_lst, atI_0, atI_1, atI_2, cutD_1, cutD_from1, cutD_to, p10_6, p10_7, p10_8, p10_9, p10_10, p10_11, p10_12, sum_ints, all_bls, any_bls, eqb_ints, eqb_nilL, isin_ints, enum_lst, cmp_int, cmp_non, cmp_str, cmp_dInts, cmp_nilL, it_int_non, it_int_bl, it_int_int, it_int_str, it_int_tup, it_int_lst, it_int_rol, it_bool_non, it_bool_bl, it_bool_int, it_bool_str, it_bool_tup, it_bool_lst, it_bool_rol, it_str_non, it_str_bl, it_str_int, it_str_str, it_str_tup, it_str_lst, it_str_rol, it_tuple_non, it_tuple_bl, it_tuple_int, it_tuple_str, it_tuple_tup, it_tuple_lst, it_tuple_rol, it_list_non, it_list_bl, it_list_int, it_list_str, it_list_tup, it_list_lst, it_list_rol, wc_of (ih (n := n - 1) (m := m - 1) (by omega) (by omega) (hv x hx))]
          · rw [show (xs.map fun x => D.bl (fmB k (m - 1) x)) = (xs.map (fmB k (m - 1))).map D.bl by rw [List.map_map]; rfl, all_bls]
            have ea : (xs.map (fmB k (m - 1))).all id = xs.all (fmB k (m - 1)) := by rw [List.all_map]; rfl
            rw [ea]
            simp [fmB, hl, hj, hm, tlD]
theorem sp_depth_any : ∀ (k : Nat) {n : Nat} {d : D} {S : Store}, k ≤ 50 → k + 3 ≤ n → vb k d = true → ec gv pr n F._law_depth [d] S = some (.int (dpB k d), S) := by
  intro k
  induction k with
  | zero =>
    intro n d S hk hn h
    refine of_wc ?_
    rw [wc_def' (by omega) pr__law_depth rfl]
    simp only [fd__law_depth, we_var, we_cn, we_cb, we_ci, we_cs, we_glob, we_tup, we_lst, we_newc, we_op, we_isN, we_notN, we_neg, we_nt, we_and, we_or, we_chain, we_ite, we_call, we_calll, we_b1, we_b2, we_isi, we_ix, we_sl, we_lc, we_lrng, we_olen, we_oix, we_inD, we_getD, we_calld, we_osl, we_rev, we_isB, we_cnew, we_clen, we_cpop, we_cnil, wl_nil, wl_cons, wr_it, wr_rng, wr_enum, wr_zip, ws_set, ws_own, ws_frz, ws_unp, ws_unp2, ws_par, ws_app, ws_oset, ws_cset, ws_ifs, ws_fors, ws_whil, ws_ret, ws_retn, ws_brk, ws_cnt, ws_pas, ws_expr, wb_nil, wb_cons, thn_nx, thn_rt, thn_bk, thn_ct, fin_nx, fin_rt, turn_nx, turn_ct, turn_bk, turn_rt, List.set_cons_zero, List.set_cons_succ, List.set_nil, List.getElem?_cons_zero, List.getElem?_cons_succ, Option.some.injEq, Sl.v.injEq, Sl.o.injEq, D.bl.injEq, D.int.injEq, D.str.injEq, D.tup.injEq, D.lst.injEq, D.cell.injEq, D.fn.injEq, exists_eq_left, exists_eq_left', exists_eq_right, List.length_cons, List.length_nil, Nat.reduceAdd, Nat.reduceSub, List.replicate_succ, List.replicate_zero, List.map_cons, List.map_nil, List.cons_append, List.nil_append, List.append_nil, true_and, and_true, false_and, and_false, forall_const, Bool.true_eq_false, Bool.false_eq_true, Bool.not_true, Bool.not_false, setMany, asg, Tg.slots, wipeE, optI, testOf, ne_eq, not_true_eq_false, not_false_eq_true, exists_const, reduceCtorEq, false_or, or_false, true_or, or_true, exists_false, Int.reduceLT, Int.reduceLE, Int.reduceNeg, Int.reduceAdd, Int.reduceSub, decide_true, decide_false, Bool.and_true, Bool.true_and, Bool.and_false, Bool.false_and, Bool.or_true, Bool.true_or, Bool.or_false, Bool.false_or, false_implies, true_implies, if_true, if_false, ite_true, ite_false, implies_true, envOf, op_add, op_addT, op_addL, op_sub, op_mul, op_fdiv, op_mod, op_lt, op_le, op_gt, op_ge, op_eqI, op_neI, op_eqS, op_neS, len_tup, len_lst, len_rol, abs_int, max2, min2, int_int, int_bl, nn_non, nn_int, nn_bl, nn_str, nn_tup, nn_lst, ix_tup, ix_lst, ix_rol, ix_cell, op_inS2, sl_tup, sl_lst, items_tup, items_lst, atI_0, atI_1, atI_2, cutD_1, cutD_from1, cutD_to, p10_6, p10_7, p10_8, p10_9, p10_10, p10_11, p10_12, sum_ints, all_bls, any_bls, eqb_ints, eqb_nilL, isin_ints, enum_lst, cmp_int, cmp_non, cmp_str, cmp_dInts, cmp_nilL, it_int_non, it_int_bl, it_int_int, it_int_str, it_int_tup, it_int_lst, it_int_rol, it_bool_non, it_bool_bl, it_bool_int, it_bool_str, it_bool_tup, it_bool_lst, it_bool_rol, it_str_non, it_str_bl, it_str_int, it_str_str, it_str_tup, it_str_lst, it_str_rol, it_tuple_non, it_tuple_bl, it_tuple_int, it_tuple_str, it_tuple_tup, it_tuple_lst, it_tuple_rol, it_list_non, it_list_bl, it_list_int, it_list_str, it_list_tup, it_list_lst, it_list_rol, wc_of (sp_good_any (by omega : 2 ≤ n - 1) hk h)]
    cases hl : LK d with
    | true => simp [dpB, hl]
    | false =>
      cases d with
      | fn g => simp [vb] at h
      | cell c => simp [vb] at h
      | tup xs => simp [vb] at h
      | lst xs => simp [vb] at h
      | rol xs => simp [vb] at h
      | _ => simp [dpB, hl, we_var, we_cn, we_cb, we_ci, we_cs, we_glob, we_tup, we_lst, we_newc, we_op, we_isN, we_notN, we_neg, we_nt, we_and, we_or, we_chain, we_ite, we_call, we_calll, we_b1, we_b2, we_isi, we_ix, we_sl, we_lc, we_lrng, we_olen, we_oix, we_inD, we_getD, we_calld, we_osl, we_rev, we_isB, we_cnew, we_clen, we_cpop, we_cnil, wl_nil, wl_cons, wr_it, wr_rng, wr_enum, wr_zip, ws_set, ws_own, ws_frz, ws_unp, ws_unp2, ws_par, ws_app, ws_oset, ws_cset, ws_ifs, ws_fors, ws_whil, ws_ret, ws_retn, ws_brk, ws_cnt, ws_pas, ws_expr, wb_nil, wb_cons, thn_nx, thn_rt, thn_bk, thn_ct, fin_nx, fin_rt, turn_nx, turn_ct, turn_bk, turn_rt, List.set_cons_zero, List.set_cons_succ, List.set_nil, List.getElem?_cons_zero, List.getElem?_cons_succ, Option.some.injEq, Sl.v.injEq, Sl.o.injEq, D.bl.injEq, D.int.injEq, D.str.injEq, D.tup.injEq, D.lst.injEq, D.cell.injEq, D.fn.injEq, exists_eq_left, exists_eq_left', exists_eq_right, List.length_cons, List.length_nil, Nat.reduceAdd, Nat.reduceSub, List.replicate_succ, List.replicate_zero, List.map_cons, List.map_nil, List.cons_append, List.nil_append, List.append_nil, true_and, and_true, false_and, and_false, forall_const, Bool.true_eq_false, Bool.false_eq_true, Bool.not_true, Bool.not_false, setMany, asg, Tg.slots, wipeE, optI, testOf, ne_eq, not_true_eq_false, not_false_eq_true, exists_const, reduceCtorEq, false_or, or_false, true_or, or_true, exists_false, Int.reduceLT, Int.reduceLE, Int.reduceNeg, Int.reduceAdd, Int.reduceSub, decide_true, decide_false, Bool.and_true, Bool.true_and, Bool.and_false, Bool.false_and, Bool.or_true, Bool.true_or, Bool.or_false, Bool.false_or, false_implies, true_implies, if_true, if_false, ite_true, ite_false, implies_true, envOf, op_add, op_addT, op_addL, op_sub, op_mul, op_fdiv, op_mod, op_lt, op_le, op_gt, op_ge, op_eqI, op_neI, op_eqS, op_neS, len_tup, len_lst, len_rol, abs_int, max2, min2, int_int, int_bl, nn_non, nn_int, nn_bl, nn_str, nn_tup, nn_lst, ix_tup, ix_lst, ix_rol, ix_cell, op_inS2, sl_tup, sl_lst, items_tup, items_lst, atI_0, atI_1, atI_2, cutD_1, cutD_from1, cutD_to, p10_6, p10_7, p10_8, p10_9, p10_10, p10_11, p10_12, sum_ints, all_bls, any_bls, eqb_ints, eqb_nilL, isin_ints, enum_lst, cmp_int, cmp_non, cmp_str, cmp_dInts, cmp_nilL, it_int_non, it_int_bl, it_int_int, it_int_str, it_int_tup, it_int_lst, it_int_rol, it_bool_non, it_bool_bl, it_bool_int, it_bool_str, it_bool_tup, it_bool_lst, it_bool_rol, it_str_non, it_str_bl, it_str_int, it_str_str, it_str_tup, it_str_lst, it_str_rol, it_tuple_non, it_tuple_bl, it_tuple_int, it_tuple_str, it_tuple_tup, it_tuple_lst, it_tuple_rol, it_list_non, it_list_bl, it_list_int, it_list_str, it_list_tup, it_list_lst, it_list_rol]
  | succ k ih =>
    intro n d S hk hn h
    refine of_wc ?_
    rw [wc_def' (by omega) pr__law_depth rfl]
    simp only [fd__law_depth, we_var, we_cn, we_cb, we_ci, we_cs, we_glob, we_tup, we_lst, we_newc, we_op, we_isN, we_notN, we_neg, we_nt, we_and, we_or, we_chain, we_ite, we_call, we_calll, we_b1, we_b2, we_isi, we_ix, we_sl, we_lc, we_lrng, we_olen, we_oix, we_inD, we_getD, we_calld, we_osl, we_rev, we_isB, we_cnew, we_clen, we_cpop, we_cnil, wl_nil, wl_cons, wr_it, wr_rng, wr_enum, wr_zip, ws_set, ws_own, ws_frz, ws_unp, ws_unp2, ws_par, ws_app, ws_oset, ws_cset, ws_ifs, ws_fors, ws_whil, ws_ret, ws_retn, ws_brk, ws_cnt, ws_pas, ws_expr, wb_nil, wb_cons, thn_nx, thn_rt, thn_bk, thn_ct, fin_nx, fin_rt, turn_nx, turn_ct, turn_bk, turn_rt, List.set_cons_zero, List.set_cons_succ, List.set_nil, List.getElem?_cons_zero, List.getElem?_cons_succ, Option.some.injEq, Sl.v.injEq, Sl.o.injEq, D.bl.injEq, D.int.injEq, D.str.injEq, D.tup.injEq, D.lst.injEq, D.cell.injEq, D.fn.injEq, exists_eq_left, exists_eq_left', exists_eq_right, List.length_cons, List.length_nil, Nat.reduceAdd, Nat.reduceSub, List.replicate_succ, List.replicate_zero, List.map_cons, List.map_nil, List.cons_append, List.nil_append, List.append_nil, true_and, and_true, false_and, and_false, forall_const, Bool.true_eq_false, Bool.false_eq_true, Bool.not_true, Bool.not_false, setMany, asg, Tg.slots, wipeE, optI, testOf, ne_eq, not_true_eq_false, not_false_eq_true, exists_const, reduceCtorEq, false_or, or_false, true_or, or_true, exists_false, Int.reduceLT, Int.reduceLE, Int.reduceNeg, Int.reduceAdd, Int.reduceSub, decide_true, decide_false, Bool.and_true, Bool.true_and, Bool.and_false, Bool.false_and, Bool.or_true, Bool.true_or, Bool.or_false, Bool.false_or, false_implies, true_implies, if_true, if_false, ite_true, ite_false, implies_true, envOf, op_add, op_addT, op_addL, op_sub, op_mul, op_fdiv, op_mod, op_lt, op_le, op_gt, op_ge, op_eqI, op_neI, op_eqS, op_neS, len_tup, len_lst, len_rol, abs_int, max2, min2, int_int, int_bl, nn_non, nn_int, nn_bl, nn_str, nn_tup, nn_lst, ix_tup, ix_lst, ix_rol, ix_cell, op_inS2, sl_tup, sl_lst, items_tup, items_lst, atI_0, atI_1, atI_2, cutD_1, cutD_from1, cutD_to, p10_6, p10_7, p10_8, p10_9, p10_10, p10_11, p10_12, sum_ints, all_bls, any_bls, eqb_ints, eqb_nilL, isin_ints, enum_lst, cmp_int, cmp_non, cmp_str, cmp_dInts, cmp_nilL, it_int_non, it_int_bl, it_int_int, it_int_str, it_int_tup, it_int_lst, it_int_rol, it_bool_non, it_bool_bl, it_bool_int, it_bool_str, it_bool_tup, it_bool_lst, it_bool_rol, it_str_non, it_str_bl, it_str_int, it_str_str, it_str_tup, it_str_lst, it_str_rol, it_tuple_non, it_tuple_bl, it_tuple_int, it_tuple_str, it_tuple_tup, it_tuple_lst, it_tuple_rol, it_list_non, it_list_bl, it_list_int, it_list_str, it_list_tup, it_list_lst, it_list_rol, wc_of (sp_good_any (by omega : 2 ≤ n - 1) hk h)]
    cases hl : LK d with
    | true => simp [dpB, hl]
    | false =>
      cases hj : jtB d with
      | true =>
        obtain ⟨j, e, hv⟩ := vb_tl h hj
        cases e
        obtain ⟨r, xs, rfl, x2, x6⟩ := jt_some hj
        have e1 : decide ((3 : Int) ≤ ((xs.length + 1 : Nat) : Int)) = true := decide_eq_true (by omega)
        have e2 : decide ((((xs.length + 1 : Nat) : Int)) ≤ 7) = true := decide_eq_true (by omega)
        simp only [we_var, we_cn, we_cb, we_ci, we_cs, we_glob, we_tup, we_lst, we_newc, we_op, we_isN, we_notN, we_neg, we_nt, we_and, we_or, we_chain, we_ite, we_call, we_calll, we_b1, we_b2, we_isi, we_ix, we_sl, we_lc, we_lrng, we_olen, we_oix, we_inD, we_getD, we_calld, we_osl, we_rev, we_isB, we_cnew, we_clen, we_cpop, we_cnil, wl_nil, wl_cons, wr_it, wr_rng, wr_enum, wr_zip, ws_set, ws_own, ws_frz, ws_unp, ws_unp2, ws_par, ws_app, ws_oset, ws_cset, ws_ifs, ws_fors, ws_whil, ws_ret, ws_retn, ws_brk, ws_cnt, ws_pas, ws_expr, wb_nil, wb_cons, thn_nx, thn_rt, thn_bk, thn_ct, fin_nx, fin_rt, turn_nx, turn_ct, turn_bk, turn_rt, List.set_cons_zero, List.set_cons_succ, List.set_nil, List.getElem?_cons_zero, List.getElem?_cons_succ, Option.some.injEq, Sl.v.injEq, Sl.o.injEq, D.bl.injEq, D.int.injEq, D.str.injEq, D.tup.injEq, D.lst.injEq, D.cell.injEq, D.fn.injEq, exists_eq_left, exists_eq_left', exists_eq_right, List.length_cons, List.length_nil, Nat.reduceAdd, Nat.reduceSub, List.replicate_succ, List.replicate_zero, List.map_cons, List.map_nil, List.cons_append, List.nil_append, List.append_nil, true_and, and_true, false_and, and_false, forall_const, Bool.true_eq_false, Bool.false_eq_true, Bool.not_true, Bool.not_false, setMany, asg, Tg.slots, wipeE, optI, testOf, ne_eq, not_true_eq_false, not_false_eq_true, exists_const, reduceCtorEq, false_or, or_false, true_or, or_true, exists_false, Int.reduceLT, Int.reduceLE, Int.reduceNeg, Int.reduceAdd, Int.reduceSub, decide_true, decide_false, Bool.and_true, Bool.true_and, Bool.and_false, Bool.false_and, Bool.or_true, Bool.true_or, Bool.or_false, Bool.false_or, false_implies, true_implies, if_true, if_false, ite_true, ite_false, implies_true, envOf, op_add, op_addT, op_addL, op_sub, op_mul, op_fdiv, op_mod, op_lt, op_le, op_gt, op_ge, op_eqI, op_neI, op_eqS, op_neS, len_tup, len_lst, len_rol, abs_int, max2, min2, int_int, int_bl, nn_non, nn_int, nn_bl, nn_str, nn_tup, nn_lst, ix_tup, ix_lst, ix_rol, ix_cell, op_inS2, sl_tup, sl_lst, items_tup, items_lst, atI_0, atI_1, atI_2, cutD_1, cutD_from1, cutD_to, p10_6, p10_7, p10_8, p10_9, p10_10, p10_11, p10_12, sum_ints, all_bls, any_bls, eqb_ints, eqb_nilL, isin_ints, enum_lst, cmp_int, cmp_non, cmp_str, cmp_dInts, cmp_nilL, it_int_non, it_int_bl, it_int_int, it_int_str, it_int_tup, it_int_lst, it_int_rol, it_bool_non, it_bool_bl, it_bool_int, it_bool_str, it_bool_tup, it_bool_lst, it_bool_rol, it_str_non, it_str_bl, it_str_int, it_str_str, it_str_tup, it_str_lst, it_str_rol, it_tuple_non, it_tuple_bl, it_tuple_int, it_tuple_str, it_tuple_tup, it_tuple_lst, it_tuple_rol, it_list_non, it_list_bl, it_list_int, it_list_str, it_list_tup, it_list_lst, it_list_rol, List.length_cons, e1, e2, op_notinP, jw_in']
        refine wg_id (fun x => .int (dpB k x)) (fun x hx => ⟨_, rfl, ?_⟩) ?_
        · simp only [we_var, we_cn, we_cb, we_ci, we_cs, we_glob, we_tup, we_lst, we_newc, we_op, we_isN, we_notN, we_neg, we_nt, we_and, we_or, we_chain, we_ite, we_call, we_calll, we_b1, we_b2, we_isi, we_ix, we_sl, we_lc, we_lrng, we_olen, we_oix, we_inD, we_getD, we_calld, we_osl, we_rev, we_isB, we_cnew, we_clen, we_cpop, we_cnil, wl_nil, wl_cons, wr_it, wr_rng, wr_enum, wr_zip, ws_set, ws_own, ws_frz, ws_unp, ws_unp2, ws_par, ws_app, ws_oset, ws_cset, ws_ifs, ws_fors, ws_whil, ws_ret, ws_retn, ws_brk, ws_cnt, ws_pas, ws_expr, wb_nil, wb_cons, thn_nx, thn_rt, thn_bk, thn_ct, fin_nx, fin_rt, turn_nx, turn_ct, turn_bk, turn_rt, List.set_cons_zero, List.set_cons_succ, List.set_nil, List.getElem?_cons_zero, List.getElem?_cons_succ, Option.some.injEq, Sl.v.injEq, Sl.o.injEq, D.bl.injEq, D.int.injEq, D.str.injEq, D.tup.injEq, D.lst.injEq, D.cell.injEq, D.fn.injEq, exists_eq_left, exists_eq_left', exists_eq_right, List.length_cons, List.length_nil, Nat.reduceAdd, Nat.reduceSub, List.replicate_succ, List.replicate_zero, List.map_cons, List.map_nil, List.cons_append, List.nil_append, List.append_nil, true_and, and_true, false_and, and_false, forall_const, Bool.true_eq_false, Bool.false_eq_true, Bool.not_true, Bool.not_false, setMany, asg, Tg.slots, wipeE, optI, testOf, ne_eq, not_true_eq_false, not_false_eq_true, exists_const, reduceCtorEq, false_or, or_false, true_or, or_true, exists_false, Int.reduceLT, Int.reduceLE, Int.reduceNeg, Int.reduceAdd, Int.reduceSub, decide_true, decide_false, Bool.and_true, Bool.true_and, Bool.and_false, Bool.false_and, Bool.or_true, Bool.true_or, Bool.or_false, Bool.false_or, false_implies, true_implies, if_true, if_false, ite_true, ite_false, implies_true, envOf, op_add, op_addT, op_addL, op_sub, op_mul, op_fdiv, op_mod, op_lt, op_le, op_gt, op_ge, op_eqI, op_neI, op_eqS, op_neS, len_tup, len_lst, len_rol, abs_int, max2, min2, int_int, int_bl, nn_non, nn_int, nn_bl, nn_str, nn_tup, nn_lst, ix_tup, ix_lst, ix_rol, ix_cell, op_inS2, sl_tup, sl_lst, items_tup, items_lst, atI_0, atI_1, atI_2, cutD_1, cutD_from1, cutD_to, p10_6, p10_7, p10_8, p10_9, p10_10, p10_11, p10_12, sum_ints, all_bls, any_bls, eqb_ints, eqb_nilL, isin_ints, enum_lst, cmp_int, cmp_non, cmp_str, cmp_dInts, cmp_nilL, it_int_non, it_int_bl, it_int_int, it_int_str, it_int_tup, it_int_lst, it_int_rol, it_bool_non, it_bool_bl, it_bool_int, it_bool_str, it_bool_tup, it_bool_lst, it_bool_rol, it_str_non, it_str_bl, it_str_int, it_str_str, it_str_tup, it_str_lst, it_str_rol, it_tuple_non, it_tuple_bl, it_tuple_int, it_tuple_str, it_tuple_tup, it_tuple_lst, it_tuple_rol, it_list_non, it_list_bl, it_list_int, it_list_str, it_list_tup, it_list_lst, it_list_rol, wc_of (ih (n := n - 1) (by omega) (by omega) (hv x hx))]
        · have hne : xs.map (dpB k) ≠ [] := fun e => by simp at e; rw [e] at x2; simp at x2
          rw [show (xs.map fun x => D.int (dpB k x)) = (xs.map (dpB k)).map D.int by rw [List.map_map]; rfl, max_ints hne]
          simp [we_var, we_cn, we_cb, we_ci, we_cs, we_glob, we_tup, we_lst, we_newc, we_op, we_isN, we_notN, we_neg, we_nt, we_and, we_or, we_chain, we_ite, we_call, we_calll, we_b1, we_b2, we_isi, we_ix, we_sl, we_lc, we_lrng, we_olen, we_oix, we_inD, we_getD, we_calld, we_osl, we_rev, we_isB, we_cnew, we_clen, we_cpop, we_cnil, wl_nil, wl_cons, wr_it, wr_rng, wr_enum, wr_zip, ws_set, ws_own, ws_frz, ws_unp, ws_unp2, ws_par, ws_app, ws_oset, ws_cset, ws_ifs, ws_fors, ws_whil, ws_ret, ws_retn, ws_brk, ws_cnt, ws_pas, ws_expr, wb_nil, wb_cons, thn_nx, thn_rt, thn_bk, thn_ct, fin_nx, fin_rt, turn_nx, turn_ct, turn_bk, turn_rt, List.set_cons_zero, List.set_cons_succ, List.set_nil, List.getElem?_cons_zero, List.getElem?_cons_succ, Option.some.injEq, Sl.v.injEq, Sl.o.injEq, D.bl.injEq, D.int.injEq, D.str.injEq, D.tup.injEq, D.lst.injEq, D.cell.injEq, D.fn.injEq, exists_eq_left, exists_eq_left', exists_eq_right, List.length_cons, List.length_nil, Nat.reduceAdd, Nat.reduceSub, List.replicate_succ, List.replicate_zero, List.map_cons, List.map_nil, List.cons_append, List.nil_append, List.append_nil, true_and, and_true, false_and, and_false, forall_const, Bool.true_eq_false, Bool.false_eq_true, Bool.not_true, Bool.not_false, setMany, asg, Tg.slots, wipeE, optI, testOf, ne_eq, not_true_eq_false, not_false_eq_true, exists_const, reduceCtorEq, false_or, or_false, true_or, or_true, exists_false, Int.reduceLT, Int.reduceLE, Int.reduceNeg, Int.reduceAdd, Int.reduceSub, decide_true, decide_false, Bool.and_true, Bool.true_and, Bool.and_false, Bool.false_and, Bool.or_true, Bool.true_or, Bool.or_false, Bool.false_or, false_implies, true_implies, if_true, if_false, ite_true, ite_false, implies_true, envOf, op_add, op_addT, op_addL, op_sub, op_mul, op_fdiv, op_mod, op_lt, op_le, op_gt, op_ge, op_eqI, op_neI, op_eqS, op_neS, len_tup, len_lst, len_rol, abs_int, max2, min2, int_int, int_bl, nn_non, nn_int, nn_bl, nn_str, nn_tup, nn_lst, ix_tup, ix_lst, ix_rol, ix_cell, op_inS2, sl_tup, sl_lst, items_tup, items_lst, atI_0, atI_1, atI_2, cutD_1, cutD_from1, cutD_to, p10_6, p10_7, p10_8, p10_9, p10_10, p10_11, p10_12, sum_ints, all_bls, any_bls, eqb_ints, eqb_nilL, isin_ints, enum_lst, cmp_int, cmp_non, cmp_str, cmp_dInts, cmp_nilL, it_int_non, it_int_bl, it_int_int, it_int_str, it_int_tup, it_int_lst, it_int_rol, it_bool_non, it_bool_bl, it_bool_int, it_bool_str, it_bool_tup, it_bool_lst, it_bool_rol, it_str_non, it_str_bl, it_str_int, it_str_str, it_str_tup, it_str_lst, it_str_rol, it_tuple_non, it_tuple_bl, it_tuple_int, it_tuple_str, it_tuple_tup, it_tuple_lst, it_tuple_rol, it_list_non, it_list_bl, it_list_int, it_list_str, it_list_tup, it_list_lst, it_list_rol, dpB, hl, hj, tlD]
      | false =>
        have hdp : dpB (k + 1) d = 99 := by simp [dpB, hl, hj]
        rw [hdp]
        cases d with
        | fn g => simp [vb] at h
        | cell c => simp [vb] at h
        | tup xs =>
          obtain ⟨j, e, _, hv⟩ := vb_tup h
          cases e
          cases xs with
          | nil => simp [we_var, we_cn, we_cb, we_ci, we_cs, we_glob, we_tup, we_lst, we_newc, we_op, we_isN, we_notN, we_neg, we_nt, we_and, we_or, we_chain, we_ite, we_call, we_calll, we_b1, we_b2, we_isi, we_ix, we_sl, we_lc, we_lrng, we_olen, we_oix, we_inD, we_getD, we_calld, we_osl, we_rev, we_isB, we_cnew, we_clen, we_cpop, we_cnil, wl_nil, wl_cons, wr_it, wr_rng, wr_enum, wr_zip, ws_set, ws_own, ws_frz, ws_unp, ws_unp2, ws_par, ws_app, ws_oset, ws_cset, ws_ifs, ws_fors, ws_whil, ws_ret, ws_retn, ws_brk, ws_cnt, ws_pas, ws_expr, wb_nil, wb_cons, thn_nx, thn_rt, thn_bk, thn_ct, fin_nx, fin_rt, turn_nx, turn_ct, turn_bk, turn_rt, List.set_cons_zero, List.set_cons_succ, List.set_nil, List.getElem?_cons_zero, List.getElem?_cons_succ, Option.some.injEq, Sl.v.injEq, Sl.o.injEq, D.bl.injEq, D.int.injEq, D.str.injEq, D.tup.injEq, D.lst.injEq, D.cell.injEq, D.fn.injEq, exists_eq_left, exists_eq_left', exists_eq_right, List.length_cons, List.length_nil, Nat.reduceAdd, Nat.reduceSub, List.replicate_succ, List.replicate_zero, List.map_cons, List.map_nil, List.cons_append, List.nil_append, List.append_nil, true_and, and_true, false_and, and_false, forall_const, Bool.true_eq_false, Bool.false_eq_true, Bool.not_true, Bool.not_false, setMany, asg, Tg.slots, wipeE, optI, testOf, ne_eq, not_true_eq_false, not_false_eq_true, exists_const, reduceCtorEq, false_or, or_false, true_or, or_true, exists_false, Int.reduceLT, Int.reduceLE, Int.reduceNeg, Int.reduceAdd, Int.reduceSub, decide_true, decide_false, Bool.and_true, Bool.true_and, Bool.and_false, Bool.false_and, Bool.or_true, Bool.true_or, Bool.or_false, Bool.false_or, false_implies, true_implies, if_true, if_false, ite_true, ite_false, implies_true, envOf, op_add, op_addT, op_addL, op_sub, op_mul, op_fdiv, op_mod, op_lt, op_le, op_gt, op_ge, op_eqI, op_neI, op_eqS, op_neS, len_tup, len_lst, len_rol, abs_int, max2, min2, int_int, int_bl, nn_non, nn_int, nn_bl, nn_str, nn_tup, nn_lst, ix_tup, ix_lst, ix_rol, ix_cell, op_inS2, sl_tup, sl_lst, items_tup, items_lst, atI_0, atI_1, atI_2, cutD_1, cutD_from1, cutD_to, p10_6, p10_7, p10_8, p10_9, p10_10, p10_11, p10_12, sum_ints, all_bls, any_bls, eqb_ints, eqb_nilL, isin_ints, enum_lst, cmp_int, cmp_non, cmp_str, cmp_dInts, cmp_nilL, it_int_non, it_int_bl, it_int_int, it_int_str, it_int_tup, it_int_lst, it_int_rol, it_bool_non, it_bool_bl, it_bool_int, it_bool_str, it_bool_tup, it_bool_lst, it_bool_rol, it_str_non, it_str_bl, it_str_int, it_str_str, it_str_tup, it_str_lst, it_str_rol, it_tuple_non, it_tuple_bl, it_tuple_int, it_tuple_str, it_tuple_tup, it_tuple_lst, it_tuple_rol, it_list_non, it_list_bl, it_list_int, it_list_str, it_list_tup, it_list_lst, it_list_rol]
          | cons x r =>
            cases x with
            | fn g => have := hv (.fn g) (by simp); simp [vb] at this
            | cell c => have := hv (.cell c) (by simp); simp [vb] at this
            | str s =>
              by_cases h1 : 2 ≤ r.length
              · by_cases h2 : r.length ≤ 6
                · have e1 : decide ((3 : Int) ≤ ((r.length + 1 : Nat) : Int)) = true := decide_eq_true (by omega)
                  have e2 : decide ((((r.length + 1 : Nat) : Int)) ≤ 7) = true := decide_eq_true (by omega)
                  have hjn : (decide (("row" : Str) = s) || decide (("side" : Str) = s)) = false := by
                    simpa only [jtB, decide_eq_true h1, decide_eq_true h2, Bool.true_and] using hj
                  simp only [we_var, we_cn, we_cb, we_ci, we_cs, we_glob, we_tup, we_lst, we_newc, we_op, we_isN, we_notN, we_neg, we_nt, we_and, we_or, we_chain, we_ite, we_call, we_calll, we_b1, we_b2, we_isi, we_ix, we_sl, we_lc, we_lrng, we_olen, we_oix, we_inD, we_getD, we_calld, we_osl, we_rev, we_isB, we_cnew, we_clen, we_cpop, we_cnil, wl_nil, wl_cons, wr_it, wr_rng, wr_enum, wr_zip, ws_set, ws_own, ws_frz, ws_unp, ws_unp2, ws_par, ws_app, ws_oset, ws_cset, ws_ifs, ws_fors, ws_whil, ws_ret, ws_retn, ws_brk, ws_cnt, ws_pas, ws_expr, wb_nil, wb_cons, thn_nx, thn_rt, thn_bk, thn_ct, fin_nx, fin_rt, turn_nx, turn_ct, turn_bk, turn_rt, List.set_cons_zero, List.set_cons_succ, List.set_nil, List.getElem?_cons_zero, List.getElem?_cons_succ, Option.some.injEq, Sl.v.injEq, Sl.o.injEq, D.bl.injEq, D.int.injEq, D.str.injEq, D.tup.injEq, D.lst.injEq, D.cell.injEq, D.fn.injEq, exists_eq_left, exists_eq_left', exists_eq_right, List.length_cons, List.length_nil, Nat.reduceAdd, Nat.reduceSub, List.replicate_succ, List.replicate_zero, List.map_cons, List.map_nil, List.cons_append, List.nil_append, List.append_nil, true_and, and_true, false_and, and_false, forall_const, Bool.true_eq_false, Bool.false_eq_true, Bool.not_true, Bool.not_false, setMany, asg, Tg.slots, wipeE, optI, testOf, ne_eq, not_true_eq_false, not_false_eq_true, exists_const, reduceCtorEq, false_or, or_false, true_or, or_true, exists_false, Int.reduceLT, Int.reduceLE, Int.reduceNeg, Int.reduceAdd, Int.reduceSub, decide_true, decide_false, Bool.and_true, Bool.true_and, Bool.and_false, Bool.false_and, Bool.or_true, Bool.true_or, Bool.or_false, Bool.false_or, false_implies, true_implies, if_true, if_false, ite_true, ite_false, implies_true, envOf, op_add, op_addT, op_addL, op_sub, op_mul, op_fdiv, op_mod, op_lt, op_le, op_gt, op_ge, op_eqI, op_neI, op_eqS, op_neS, len_tup, len_lst, len_rol, abs_int, max2, min2, int_int, int_bl, nn_non, nn_int, nn_bl, nn_str, nn_tup, nn_lst, ix_tup, ix_lst, ix_rol, ix_cell, op_inS2, sl_tup, sl_lst, items_tup, items_lst, atI_0, atI_1, atI_2, cutD_1, cutD_from1, cutD_to, p10_6, p10_7, p10_8, p10_9, p10_10, p10_11, p10_12, sum_ints, all_bls, any_bls, eqb_ints, eqb_nilL, isin_ints, enum_lst, cmp_int, cmp_non, cmp_str, cmp_dInts, cmp_nilL, it_int_non, it_int_bl, it_int_int, it_int_str, it_int_tup, it_int_lst, it_int_rol, it_bool_non, it_bool_bl, it_bool_int, it_bool_str, it_bool_tup, it_bool_lst, it_bool_rol, it_str_non, it_str_bl, it_str_int, it_str_str, it_str_tup, it_str_lst, it_str_rol, it_tuple_non, it_tuple_bl, it_tuple_int, it_tuple_str, it_tuple_tup, it_tuple_lst, it_tuple_rol, it_list_non, it_list_bl, it_list_int, it_list_str, it_list_tup, it_list_lst, it_list_rol, List.length_cons, e1, e2, op_notinP, hjn, Bool.not_false]
                  simp
                · have e1 : decide ((3 : Int) ≤ ((r.length + 1 : Nat) : Int)) = true := decide_eq_true (by omega)
                  have e2 : decide ((((r.length + 1 : Nat) : Int)) ≤ 7) = false := decide_eq_false (by omega)
                  simp only [we_var, we_cn, we_cb, we_ci, we_cs, we_glob, we_tup, we_lst, we_newc, we_op, we_isN, we_notN, we_neg, we_nt, we_and, we_or, we_chain, we_ite, we_call, we_calll, we_b1, we_b2, we_isi, we_ix, we_sl, we_lc, we_lrng, we_olen, we_oix, we_inD, we_getD, we_calld, we_osl, we_rev, we_isB, we_cnew, we_clen, we_cpop, we_cnil, wl_nil, wl_cons, wr_it, wr_rng, wr_enum, wr_zip, ws_set, ws_own, ws_frz, ws_unp, ws_unp2, ws_par, ws_app, ws_oset, ws_cset, ws_ifs, ws_fors, ws_whil, ws_ret, ws_retn, ws_brk, ws_cnt, ws_pas, ws_expr, wb_nil, wb_cons, thn_nx, thn_rt, thn_bk, thn_ct, fin_nx, fin_rt, turn_nx, turn_ct, turn_bk, turn_rt, List.set_cons_zero, List.set_cons_succ, List.set_nil, List.getElem?_cons_zero, List.getElem?_cons_succ, Option.some.injEq, Sl.v.injEq, Sl.o.injEq, D.bl.injEq, D.int.injEq, D.str.injEq, D.tup.injEq, D.lst.injEq, D.cell.injEq, D.fn.injEq, exists_eq_left, exists_eq_left', exists_eq_right, List.length_cons, List.length_nil, Nat.reduceAdd, Nat.reduceSub, List.replicate_succ, List.replicate_zero, List.map_cons, List.map_nil, List.cons_append, List.nil_append, List.append_nil, true_and, and_true, false_and, and_false, forall_const, Bool.true_eq_false, Bool.false_eq_true, Bool.not_true, Bool.not_false, setMany, asg, Tg.slots, wipeE, optI, testOf, ne_eq, not_true_eq_false, not_false_eq_true, exists_const, reduceCtorEq, false_or, or_false, true_or, or_true, exists_false, Int.reduceLT, Int.reduceLE, Int.reduceNeg, Int.reduceAdd, Int.reduceSub, decide_true, decide_false, Bool.and_true, Bool.true_and, Bool.and_false, Bool.false_and, Bool.or_true, Bool.true_or, Bool.or_false, Bool.false_or, false_implies, true_implies, if_true, if_false, ite_true, ite_false, implies_true, envOf, op_add, op_addT, op_addL, op_sub, op_mul, op_fdiv, op_mod, op_lt, op_le, op_gt, op_ge, op_eqI, op_neI, op_eqS, op_neS, len_tup, len_lst, len_rol, abs_int, max2, min2, int_int, int_bl, nn_non, nn_int, nn_bl, nn_str, nn_tup, nn_lst, ix_tup, ix_lst, ix_rol, ix_cell, op_inS2, sl_tup, sl_lst, items_tup, items_lst, atI_0, atI_1, atI_2, cutD_1, cutD_from1, cutD_to, p10_6, p10_7, p10_8, p10_9, p10_10, p10_11, p10_12, sum_ints, all_bls, any_bls, eqb_ints, eqb_nilL, isin_ints, enum_lst, cmp_int, cmp_non, cmp_str, cmp_dInts, cmp_nilL, it_int_non, it_int_bl, it_int_int, it_int_str, it_int_tup, it_int_lst, it_int_rol, it_bool_non, it_bool_bl, it_bool_int, it_bool_str, it_bool_tup, it_bool_lst, it_bool_rol, it_str_non, it_str_bl, it_str_int, it_str_str, it_str_tup, it_str_lst, it_str_rol, it_tuple_non, it_tuple_bl, it_tuple_int, it_tuple_str, it_tuple_tup, it_tuple_lst, it_tuple_rol, it_list_non, it_list_bl, it_list_int, it_list_str, it_list_tup, it_list_lst, it_list_rol, List.length_cons, e1, e2]
                  simp
              · have e1 : decide ((3 : Int) ≤ ((r.length + 1 : Nat) : Int)) = false := decide_eq_false (by omega)
                simp only [we_var, we_cn, we_cb, we_ci, we_cs, we_glob, we_tup, we_lst, we_newc, we_op, we_isN, we_notN, we_neg, we_nt, we_and, we_or, we_chain, we_ite, we_call, we_calll, we_b1, we_b2, we_isi, we_ix, we_sl, we_lc, we_lrng, we_olen, we_oix, we_inD, we_getD, we_calld, we_osl, we_rev, we_isB, we_cnew, we_clen, we_cpop, we_cnil, wl_nil, wl_cons, wr_it, wr_rng, wr_enum, wr_zip, ws_set, ws_own, ws_frz, ws_unp, ws_unp2, ws_par, ws_app, ws_oset, ws_cset, ws_ifs, ws_fors, ws_whil, ws_ret, ws_retn, ws_brk, ws_cnt, ws_pas, ws_expr, wb_nil, wb_cons, thn_nx, thn_rt, thn_bk, thn_ct, fin_nx, fin_rt, turn_nx, turn_ct, turn_bk, turn_rt, List.set_cons_zero, List.set_cons_succ, List.set_nil, List.getElem?_cons_zero, List.getElem?_cons_succ, Option.some.injEq, Sl.v.injEq, Sl.o.injEq, D.bl.injEq, D.int.injEq, D.str.injEq, D.tup.injEq, D.lst.injEq, D.cell.injEq, D.fn.injEq, exists_eq_left, exists_eq_left', exists_eq_right, List.length_cons, List.length_nil, Nat.reduceAdd, Nat.reduceSub, List.replicate_succ, List.replicate_zero, List.map_cons, List.map_nil, List.cons_append, List.nil_append, List.append_nil, true_and, and_true, false_and, and_false, forall_const, Bool.true_eq_false, Bool.false_eq_true, Bool.not_true, Bool.not_false, setMany, asg, Tg.slots, wipeE, optI, testOf, ne_eq, not_true_eq_false, not_false_eq_true, exists_const, reduceCtorEq, false_or, or_false, true_or, or_true, exists_false, Int.reduceLT, Int.reduceLE, Int.reduceNeg, Int.reduceAdd, Int.reduceSub, decide_true, decide_false, Bool.and_true, Bool.true_and, Bool.and_false, Bool.false_and, Bool.or_true, Bool.true_or, Bool.or_false, Bool.false_or, false_implies, true_implies, if_true, if_false, ite_true, ite_false, implies_true, envOf, op_add, op_addT, op_addL, op_sub, op_mul, op_fdiv, op_mod, op_lt, op_le, op_gt, op_ge, op_eqI, op_neI, op_eqS, op_neS, len_tup, len_lst, len_rol, abs_int, max2, min2, int_int, int_bl, nn_non, nn_int, nn_bl, nn_str, nn_tup, nn_lst, ix_tup, ix_lst, ix_rol, ix_cell, op_inS2, sl_tup, sl_lst, items_tup, items_lst, atI_0, atI_1, atI_2, cutD_1, cutD_from1, cutD_to, p10_6, p10_7, p10_8, p10_9, p10_10, p10_11, p10_12, sum_ints, all_bls, any_bls, eqb_ints, eqb_nilL, isin_ints, enum_lst, cmp_int, cmp_non, cmp_str, cmp_dInts, cmp_nilL, it_int_non, it_int_bl, it_int_int, it_int_str, it_int_tup, it_int_lst, it_int_rol, it_bool_non, it_bool_bl, it_bool_int, it_bool_str, it_bool_tup, it_bool_lst, it_bool_rol, it_str_non, it_str_bl, it_str_int, it_str_str, it_str_tup, it_str_lst, it_str_rol, it_tuple_non, it_tuple_bl, it_tuple_int, it_tuple_str, it_tuple_tup, it_tuple_lst, it_tuple_rol, it_list_non, it_list_bl, it_list_int, it_list_str, it_list_tup, it_list_lst, it_list_rol, List.length_cons, e1]
                simp
            | _ => simp [we_var, we_cn, we_cb, we_ci, we_cs, we_glob, we_tup, we_lst, we_newc, we_op, we_isN, we_notN, we_neg, we_nt, we_and, we_or, we_chain, we_ite, we_call, we_calll, we_b1, we_b2, we_isi, we_ix, we_sl, we_lc, we_lrng, we_olen, we_oix, we_inD, we_getD, we_calld, we_osl, we_rev, we_isB, we_cnew, we_clen, we_cpop, we_cnil, wl_nil, wl_cons, wr_it, wr_rng, wr_enum, wr_zip, ws_set, ws_own, ws_frz, ws_unp, ws_unp2, ws_par, ws_app, ws_oset, ws_cset, ws_ifs, ws_fors, ws_whil, ws_ret, ws_retn, ws_brk, ws_cnt, ws_pas, ws_expr, wb_nil, wb_cons, thn_nx, thn_rt, thn_bk, thn_ct, fin_nx, fin_rt, turn_nx, turn_ct, turn_bk, turn_rt, List.set_cons_zero, List.set_cons_succ, List.set_nil, List.getElem?_cons_zero, List.getElem?_cons_succ, Option.some.injEq, Sl.v.injEq, Sl.o.injEq, D.bl.injEq, D.int.injEq, D.str.injEq, D.tup.injEq, D.lst.injEq, D.cell.injEq, D.fn.injEq, exists_eq_left, exists_eq_left', exists_eq_right, List.length_cons, List.length_nil, Nat.reduceAdd, Nat.reduceSub, List.replicate_succ, List.replicate_zero, List.map_cons, List.map_nil, List.cons_append, List.nil_append, List.append_nil, true_and, and_true, false_and, and_false, forall_const, Bool.true_eq_false, Bool.false_eq_true, Bool.not_true, Bool.not_false, setMany, asg, Tg.slots, wipeE, optI, testOf, ne_eq, not_true_eq_false, not_false_eq_true, exists_const, reduceCtorEq, false_or, or_false, true_or, or_true, exists_false, Int.reduceLT, Int.reduceLE, Int.reduceNeg, Int.reduceAdd, Int.reduceSub, decide_true, decide_false, Bool.and_true, Bool.true_and, Bool.and_false, Bool.false_and, Bool.or_true, Bool.true_or, Bool.or_false, Bool.false_or, false_implies, true_implies, if_true, if_false, ite_true, ite_false, implies_true, envOf, op_add, op_addT, op_addL, op_sub, op_mul, op_fdiv, op_mod, op_lt, op_le, op_gt, op_ge, op_eqI, op_neI, op_eqS, op_neS, len_tup, len_lst, len_rol, abs_int, max2, min2, int_int, int_bl, nn_non, nn_int, nn_bl, nn_str, nn_tup, nn_lst, ix_tup, ix_lst, ix_rol, ix_cell, op_inS2, sl_tup, sl_lst, items_tup, items_lst, atI_0, atI_1, atI_2, cutD_1, cutD_from1, cutD_to, p10_6, p10_7, p10_8, p10_9, p10_10, p10_11, p10_12, sum_ints, all_bls, any_bls, eqb_ints, eqb_nilL, isin_ints, enum_lst, cmp_int, cmp_non, cmp_str, cmp_dInts, cmp_nilL, it_int_non, it_int_bl, it_int_int, it_int_str, it_int_tup, it_int_lst, it_int_rol, it_bool_non, it_bool_bl, it_bool_int, it_bool_str, it_bool_tup, it_bool_lst, it_bool_rol, it_str_non, it_str_bl, it_str_int, it_str_str, it_str_tup, it_str_lst, it_str_rol, it_tuple_non, it_tuple_bl, it_tuple_int, it_tuple_str, it_tuple_tup, it_tuple_lst, it_tuple_rol, it_list_non, it_list_bl, it_list_int, it_list_str, it_list_tup, it_list_lst, it_list_rol]; omega
        | _ => simp [we_var, we_cn, we_cb, we_ci, we_cs, we_glob, we_tup, we_lst, we_newc, we_op, we_isN, we_notN, we_neg, we_nt, we_and, we_or, we_chain, we_ite, we_call, we_calll, we_b1, we_b2, we_isi, we_ix, we_sl, we_lc, we_lrng, we_olen, we_oix, we_inD, we_getD, we_calld, we_osl, we_rev, we_isB, we_cnew, we_clen, we_cpop, we_cnil, wl_nil, wl_cons, wr_it, wr_rng, wr_enum, wr_zip, ws_set, ws_own, ws_frz, ws_unp, ws_unp2, ws_par, ws_app, ws_oset, ws_cset, ws_ifs, ws_fors, ws_whil, ws_ret, ws_retn, ws_brk, ws_cnt, ws_pas, ws_expr, wb_nil, wb_cons, thn_nx, thn_rt, thn_bk, thn_ct, fin_nx, fin_rt, turn_nx, turn_ct, turn_bk, turn_rt, List.set_cons_zero, List.set_cons_succ, List.set_nil, List.getElem?_cons_zero, List.getElem?_cons_succ, Option.some.injEq, Sl.v.injEq, Sl.o.injEq, D.bl.injEq, D.int.injEq, D.str.injEq, D.tup.injEq, D.lst.injEq, D.cell.injEq, D.fn.injEq, exists_eq_left, exists_eq_left', exists_eq_right, List.length_cons, List.length_nil, Nat.reduceAdd, Nat.reduceSub, List.replicate_succ, List.replicate_zero, List.map_cons, List.map_nil, List.cons_append, List.nil_append, List.append_nil, true_and, and_true, false_and, and_false, forall_const, Bool.true_eq_false, Bool.false_eq_true, Bool.not_true, Bool.not_false, setMany, asg, Tg.slots, wipeE, optI, testOf, ne_eq, not_true_eq_false, not_false_eq_true, exists_const, reduceCtorEq, false_or, or_false, true_or, or_true, exists_false, Int.reduceLT, Int.reduceLE, Int.reduceNeg, Int.reduceAdd, Int.reduceSub, decide_true, decide_false, Bool.and_true, Bool.true_and, Bool.and_false, Bool.false_and, Bool.or_true, Bool.true_or, Bool.or_false, Bool.false_or, false_implies, true_implies, if_true, if_false, ite_true, ite_false, implies_true, envOf, op_add, op_addT, op_addL, op_sub, op_mul, op_fdiv, op_mod, op_lt, op_le, op_gt, op_ge, op_eqI, op_neI, op_eqS, op_neS, len_tup, len_lst, len_rol, abs_int, max2, min2, int_int, int_bl, nn_non, nn_int, nn_bl, nn_str, nn_tup, nn_lst, ix_tup, ix_lst, ix_rol, ix_cell, op_inS2, sl_tup, sl_lst, items_tup, items_lst, atI_0, atI_1, atI_2, cutD_1, cutD_from1, cutD_to, p10_6, p10_7, p10_8, p10_9, p10_10, p10_11, p10_12, sum_ints, all_bls, any_bls, eqb_ints, eqb_nilL, isin_ints, enum_lst, cmp_int, cmp_non, cmp_str, cmp_dInts, cmp_nilL, it_int_non, it_int_bl, it_int_int, it_int_str, it_int_tup, it_int_lst, it_int_rol, it_bool_non, it_bool_bl, it_bool_int, it_bool_str, it_bool_tup, it_bool_lst, it_bool_rol, it_str_non, it_str_bl, it_str_int, it_str_str, it_str_tup, it_str_lst, it_str_rol, it_tuple_non, it_tuple_bl, it_tuple_int, it_tuple_str, it_tuple_tup, it_tuple_lst, it_tuple_rol, it_list_non, it_list_bl, it_list_int, it_list_str, it_list_tup, it_list_lst, it_list_rol]
theorem dp_pos : ∀ (k : Nat) (d : D), 1 ≤ dpB k d := by
  intro k
  induction k with
  | zero => intro d; unfold dpB; split <;> omega
  | succ k ih =>
    intro d
    unfold dpB
    split
    · omega
    · split
      · rename_i hj
        obtain ⟨r, xs, rfl, x2, _⟩ := jt_some hj
        have hne : xs.map (dpB k) ≠ [] := fun e => by simp at e; rw [e] at x2; simp at x2
        obtain ⟨y, _, e⟩ := List.mem_map.mp (maxI_mem hne)
        have := ih y
        show 1 ≤ 1 + maxI (xs.map (dpB k))
        omega
      · omega
theorem fm_dp : ∀ (k : Nat) (m : Int) (d : D), m ≤ 60 → fmB k m d = decide (dpB k d ≤ m) := by
  intro k
  induction k with
  | zero =>
    intro m d hm
    unfold fmB dpB
    split
    · rfl
    · exact (decide_eq_false (by omega)).symm
  | succ k ih =>
    intro m d hm
    unfold fmB dpB
    split
    · rfl
    · split
      · rename_i hj
        obtain ⟨r, xs, rfl, x2, _⟩ := jt_some hj
        have hne : xs.map (dpB k) ≠ [] := fun e => by simp at e; rw [e] at x2; simp at x2
        obtain ⟨y, hy, e⟩ := List.mem_map.mp (maxI_mem hne)
        have := dp_pos k y
        show (if m < 2 then false else xs.all (fmB k (m - 1))) = decide (1 + maxI (xs.map (dpB k)) ≤ m)
        split
        · exact (decide_eq_false (by omega)).symm
        · rw [Bool.eq_iff_iff, List.all_eq_true, decide_eq_true_eq]
          constructor
          · intro h
            have h1 := h y hy
            rw [ih (m - 1) y (by omega), decide_eq_true_eq] at h1
            omega
          · intro h x hx
            rw [ih (m - 1) x (by omega), decide_eq_true_eq]
            have := le_maxI (List.mem_map.mpr ⟨x, hx, rfl⟩ : dpB k x ∈ xs.map (dpB k))
            omega
      · exact (decide_eq_false (by omega)).symm
theorem fm_fr : ∀ (k : Nat) (m : Int) (d : D), fmB k m d = true → ∃ f : Fr, f.ok 1000000000 ∧ d = f.d ∧ (f.dep : Int) ≤ m := by
  intro k
  induction k with
  | zero =>
    intro m d h
    unfold fmB at h
    split at h
    · rename_i hl
      obtain ⟨l, ok, rfl⟩ := LK_lk hl
      exact ⟨.leaf l, ok, rfl, by simp only [Fr.dep]; simpa using h⟩
    · cases h
  | succ k ih =>
    intro m d h
    unfold fmB at h
    split at h
    · rename_i hl
      obtain ⟨l, ok, rfl⟩ := LK_lk hl
      exact ⟨.leaf l, ok, rfl, by simp only [Fr.dep]; simpa using h⟩
    · split at h
      · rename_i hj
        obtain ⟨r, xs, rfl, x2, x6⟩ := jt_some hj
        split at h
        · cases h
        · rw [List.all_eq_true] at h
          have key : ∀ ys : List D, (∀ y, y ∈ ys → fmB k (m - 1) y = true) → ∃ ps : List Fr, ys = ps.map Fr.d ∧ ∀ p, p ∈ ps → p.ok 1000000000 ∧ (p.dep : Int) ≤ m - 1 := by
            intro ys
            induction ys with
            | nil => intro _; exact ⟨[], rfl, by simp⟩
            | cons y ys ih2 =>
              intro hy
              obtain ⟨f, ok, rfl, hd⟩ := ih (m - 1) y (hy y (by simp))
              obtain ⟨ps, rfl, hps⟩ := ih2 fun z hz => hy z (by simp [hz])
              exact ⟨f :: ps, rfl, fun p hp => by
                rcases List.mem_cons.mp hp with rfl | hp
                · exact ⟨ok, hd⟩
                · exact hps p hp⟩
          obtain ⟨ps, rfl, hps⟩ := key xs h
          rw [List.length_map] at x2 x6
          refine ⟨.jt r ps, ⟨x2, x6, Fr.oks_iff.mpr fun p hp => (hps p hp).1⟩, by rw [Fr.d, Fr.ds_eq], ?_⟩
          have : Fr.deps ps ≤ (m - 1).toNat := Fr.deps_le fun p hp => by have := (hps p hp).2; omega
          simp only [Fr.dep]; omega
      · cases h
theorem lks_pow {M : Int} : ∀ f : Fr, f.ok M → f.lks.length ≤ 6 ^ (f.dep - 1) := by
  refine Fr.ind (fun l h => Nat.le_refl _) (fun r ps ih h => ?_)
  simp only [Fr.ok, Fr.oks_iff] at h
  have hd : 1 ≤ Fr.deps ps := by
    cases ps with
    | nil => simp at h
    | cons p r => have := Fr.dep_pos p; have := Fr.dep_le (p := p) (ps := p :: r) List.mem_cons_self; omega
  have key : ∀ qs : List Fr, (∀ q, q ∈ qs → q ∈ ps) → (Fr.lkss qs).length ≤ qs.length * 6 ^ (Fr.deps ps - 1) := by
    intro qs
    induction qs with
    | nil => intro _; simp [Fr.lkss]
    | cons q qs ih2 =>
      intro hq
      have h1 := ih2 fun z hz => hq z (by simp [hz])
      have hm := hq q (by simp)
      have h2 := ih q hm (h.2.2 q hm)
      have h3 : 6 ^ (q.dep - 1) ≤ 6 ^ (Fr.deps ps - 1) := Nat.pow_le_pow_right (by decide) (by have := Fr.dep_le hm; omega)
      rw [Fr.lkss, List.length_append, List.length_cons, Nat.succ_mul]
      omega
  have h1 := key ps fun q hq => hq
  have h2 : ps.length * 6 ^ (Fr.deps ps - 1) ≤ 6 * 6 ^ (Fr.deps ps - 1) := Nat.mul_le_mul_right _ h.2.1
  have h3 : 6 * 6 ^ (Fr.deps ps - 1) = 6 ^ (Fr.deps ps) := by
    rw [show Fr.deps ps = (Fr.deps ps - 1) + 1 by omega, Nat.pow_succ, Nat.mul_comm]; rfl
  simp only [Fr.lks, Fr.dep]
  rw [show Fr.deps ps + 1 - 1 = Fr.deps ps by omega, ← h3]
  exact Nat.le_trans h1 h2
theorem sp_frame_any {k : Nat} {n : Nat} (hk : k ≤ 40) (hn : k + 10 ≤ n) {d : D} (h : vb k d = true) : ∃ b : Bool, ∀ S, ec gv pr n F.is_frame [d] S = some (.bl b, S) ∧ ec gv pr n F._law_frame_good [d] S = some (.bl b, S) := by
  cases ef : fmB k 6 d with
  | false =>
    refine ⟨false, fun S => ⟨of_wc ?_, of_wc ?_⟩⟩
    · rw [wc_def' (by omega) pr_is_frame rfl]
      simp only [fd_is_frame, we_var, we_cn, we_cb, we_ci, we_cs, we_glob, we_tup, we_lst, we_newc, we_op, we_isN, we_notN, we_neg, we_nt, we_and, we_or, we_chain, we_ite, we_call, we_calll, we_b1, we_b2, we_isi, we_ix, we_sl, we_lc, we_lrng, we_olen, we_oix, we_inD, we_getD, we_calld, we_osl, we_rev, we_isB, we_cnew, we_clen, we_cpop, we_cnil, wl_nil, wl_cons, wr_it, wr_rng, wr_enum, wr_zip, ws_set, ws_own, ws_frz, ws_unp, ws_unp2, ws_par, ws_app, ws_oset, ws_cset, ws_ifs, ws_fors, ws_whil, ws_ret, ws_retn, ws_brk, ws_cnt, ws_pas, ws_expr, wb_nil, wb_cons, thn_nx, thn_rt, thn_bk, thn_ct, fin_nx, fin_rt, turn_nx, turn_ct, turn_bk, turn_rt, List.set_cons_zero, List.set_cons_succ, List.set_nil, List.getElem?_cons_zero, List.getElem?_cons_succ, Option.some.injEq, Sl.v.injEq, Sl.o.injEq, D.bl.injEq, D.int.injEq, D.str.injEq, D.tup.injEq, D.lst.injEq, D.cell.injEq, D.fn.injEq, exists_eq_left, exists_eq_left', exists_eq_right, List.length_cons, List.length_nil, Nat.reduceAdd, Nat.reduceSub, List.replicate_succ, List.replicate_zero, List.map_cons, List.map_nil, List.cons_append, List.nil_append, List.append_nil, true_and, and_true, false_and, and_false, forall_const, Bool.true_eq_false, Bool.false_eq_true, Bool.not_true, Bool.not_false, setMany, asg, Tg.slots, wipeE, optI, testOf, ne_eq, not_true_eq_false, not_false_eq_true, exists_const, reduceCtorEq, false_or, or_false, true_or, or_true, exists_false, Int.reduceLT, Int.reduceLE, Int.reduceNeg, Int.reduceAdd, Int.reduceSub, decide_true, decide_false, Bool.and_true, Bool.true_and, Bool.and_false, Bool.false_and, Bool.or_true, Bool.true_or, Bool.or_false, Bool.false_or, false_implies, true_implies, if_true, if_false, ite_true, ite_false, implies_true, envOf, op_add, op_addT, op_addL, op_sub, op_mul, op_fdiv, op_mod, op_lt, op_le, op_gt, op_ge, op_eqI, op_neI, op_eqS, op_neS, len_tup, len_lst, len_rol, abs_int, max2, min2, int_int, int_bl, nn_non, nn_int, nn_bl, nn_str, nn_tup, nn_lst, ix_tup, ix_lst, ix_rol, ix_cell, op_inS2, sl_tup, sl_lst, items_tup, items_lst, atI_0, atI_1, atI_2, cutD_1, cutD_from1, cutD_to, p10_6, p10_7, p10_8, p10_9, p10_10, p10_11, p10_12, sum_ints, all_bls, any_bls, eqb_ints, eqb_nilL, isin_ints, enum_lst, cmp_int, cmp_non, cmp_str, cmp_dInts, cmp_nilL, it_int_non, it_int_bl, it_int_int, it_int_str, it_int_tup, it_int_lst, it_int_rol, it_bool_non, it_bool_bl, it_bool_int, it_bool_str, it_bool_tup, it_bool_lst, it_bool_rol, it_str_non, it_str_bl, it_str_int, it_str_str, it_str_tup, it_str_lst, it_str_rol, it_tuple_non, it_tuple_bl, it_tuple_int, it_tuple_str, it_tuple_tup, it_tuple_lst, it_tuple_rol, it_list_non, it_list_bl, it_list_int, it_list_str, it_list_tup, it_list_lst, it_list_rol, gv_MD, gv_isl, wc_of (sp_form_any k (n := n - 1) (m := 6) (by omega) (by omega) h), ef]
    · rw [wc_def' (by omega) pr__law_frame_good rfl]
      have e2 := fm_dp k 6 d (by decide)
      rw [ef] at e2
      simp only [fd__law_frame_good, we_var, we_cn, we_cb, we_ci, we_cs, we_glob, we_tup, we_lst, we_newc, we_op, we_isN, we_notN, we_neg, we_nt, we_and, we_or, we_chain, we_ite, we_call, we_calll, we_b1, we_b2, we_isi, we_ix, we_sl, we_lc, we_lrng, we_olen, we_oix, we_inD, we_getD, we_calld, we_osl, we_rev, we_isB, we_cnew, we_clen, we_cpop, we_cnil, wl_nil, wl_cons, wr_it, wr_rng, wr_enum, wr_zip, ws_set, ws_own, ws_frz, ws_unp, ws_unp2, ws_par, ws_app, ws_oset, ws_cset, ws_ifs, ws_fors, ws_whil, ws_ret, ws_retn, ws_brk, ws_cnt, ws_pas, ws_expr, wb_nil, wb_cons, thn_nx, thn_rt, thn_bk, thn_ct, fin_nx, fin_rt, turn_nx, turn_ct, turn_bk, turn_rt, List.set_cons_zero, List.set_cons_succ, List.set_nil, List.getElem?_cons_zero, List.getElem?_cons_succ, Option.some.injEq, Sl.v.injEq, Sl.o.injEq, D.bl.injEq, D.int.injEq, D.str.injEq, D.tup.injEq, D.lst.injEq, D.cell.injEq, D.fn.injEq, exists_eq_left, exists_eq_left', exists_eq_right, List.length_cons, List.length_nil, Nat.reduceAdd, Nat.reduceSub, List.replicate_succ, List.replicate_zero, List.map_cons, List.map_nil, List.cons_append, List.nil_append, List.append_nil, true_and, and_true, false_and, and_false, forall_const, Bool.true_eq_false, Bool.false_eq_true, Bool.not_true, Bool.not_false, setMany, asg, Tg.slots, wipeE, optI, testOf, ne_eq, not_true_eq_false, not_false_eq_true, exists_const, reduceCtorEq, false_or, or_false, true_or, or_true, exists_false, Int.reduceLT, Int.reduceLE, Int.reduceNeg, Int.reduceAdd, Int.reduceSub, decide_true, decide_false, Bool.and_true, Bool.true_and, Bool.and_false, Bool.false_and, Bool.or_true, Bool.true_or, Bool.or_false, Bool.false_or, false_implies, true_implies, if_true, if_false, ite_true, ite_false, implies_true, envOf, op_add, op_addT, op_addL, op_sub, op_mul, op_fdiv, op_mod, op_lt, op_le, op_gt, op_ge, op_eqI, op_neI, op_eqS, op_neS, len_tup, len_lst, len_rol, abs_int, max2, min2, int_int, int_bl, nn_non, nn_int, nn_bl, nn_str, nn_tup, nn_lst, ix_tup, ix_lst, ix_rol, ix_cell, op_inS2, sl_tup, sl_lst, items_tup, items_lst, atI_0, atI_1, atI_2, cutD_1, cutD_from1, cutD_to, p10_6, p10_7, p10_8, p10_9, p10_10, p10_11, p10_12, sum_ints, all_bls, any_bls, eqb_ints, eqb_nilL, isin_ints, enum_lst, cmp_int, cmp_non, cmp_str, cmp_dInts, cmp_nilL, it_int_non, it_int_bl, it_int_int, it_int_str, it_int_tup, it_int_lst, it_int_rol, it_bool_non, it_bool_bl, it_bool_int, it_bool_str, it_bool_tup, it_bool_lst, it_bool_rol, it_str_non, it_str_bl, it_str_int, it_str_str, it_str_tup, it_str_lst, it_str_rol, it_tuple_non, it_tuple_bl, it_tuple_int, it_tuple_str, it_tuple_tup, it_tuple_lst, it_tuple_rol, it_list_non, it_list_bl, it_list_int, it_list_str, it_list_tup, it_list_lst, it_list_rol, wc_of (sp_depth_any k (n := n - 1) (by omega) (by omega) h), ← e2]
  | true =>
    obtain ⟨f, ok, rfl, hd⟩ := fm_fr k 6 d ef
    have hp := lks_pow f ok
    have hp2 : 6 ^ (f.dep - 1) ≤ 6 ^ 5 := Nat.pow_le_pow_right (by decide) (by omega)
    have hl : f.lks.length ≤ 7776 := Nat.le_trans hp hp2
    refine ⟨decide ((f.lks.length : Int) ≤ 30), fun S => ⟨of_wc ?_, of_wc ?_⟩⟩
    · rw [wc_def' (by omega) pr_is_frame rfl]
      simp only [fd_is_frame, we_var, we_cn, we_cb, we_ci, we_cs, we_glob, we_tup, we_lst, we_newc, we_op, we_isN, we_notN, we_neg, we_nt, we_and, we_or, we_chain, we_ite, we_call, we_calll, we_b1, we_b2, we_isi, we_ix, we_sl, we_lc, we_lrng, we_olen, we_oix, we_inD, we_getD, we_calld, we_osl, we_rev, we_isB, we_cnew, we_clen, we_cpop, we_cnil, wl_nil, wl_cons, wr_it, wr_rng, wr_enum, wr_zip, ws_set, ws_own, ws_frz, ws_unp, ws_unp2, ws_par, ws_app, ws_oset, ws_cset, ws_ifs, ws_fors, ws_whil, ws_ret, ws_retn, ws_brk, ws_cnt, ws_pas, ws_expr, wb_nil, wb_cons, thn_nx, thn_rt, thn_bk, thn_ct, fin_nx, fin_rt, turn_nx, turn_ct, turn_bk, turn_rt, List.set_cons_zero, List.set_cons_succ, List.set_nil, List.getElem?_cons_zero, List.getElem?_cons_succ, Option.some.injEq, Sl.v.injEq, Sl.o.injEq, D.bl.injEq, D.int.injEq, D.str.injEq, D.tup.injEq, D.lst.injEq, D.cell.injEq, D.fn.injEq, exists_eq_left, exists_eq_left', exists_eq_right, List.length_cons, List.length_nil, Nat.reduceAdd, Nat.reduceSub, List.replicate_succ, List.replicate_zero, List.map_cons, List.map_nil, List.cons_append, List.nil_append, List.append_nil, true_and, and_true, false_and, and_false, forall_const, Bool.true_eq_false, Bool.false_eq_true, Bool.not_true, Bool.not_false, setMany, asg, Tg.slots, wipeE, optI, testOf, ne_eq, not_true_eq_false, not_false_eq_true, exists_const, reduceCtorEq, false_or, or_false, true_or, or_true, exists_false, Int.reduceLT, Int.reduceLE, Int.reduceNeg, Int.reduceAdd, Int.reduceSub, decide_true, decide_false, Bool.and_true, Bool.true_and, Bool.and_false, Bool.false_and, Bool.or_true, Bool.true_or, Bool.or_false, Bool.false_or, false_implies, true_implies, if_true, if_false, ite_true, ite_false, implies_true, envOf, op_add, op_addT, op_addL, op_sub, op_mul, op_fdiv, op_mod, op_lt, op_le, op_gt, op_ge, op_eqI, op_neI, op_eqS, op_neS, len_tup, len_lst, len_rol, abs_int, max2, min2, int_int, int_bl, nn_non, nn_int, nn_bl, nn_str, nn_tup, nn_lst, ix_tup, ix_lst, ix_rol, ix_cell, op_inS2, sl_tup, sl_lst, items_tup, items_lst, atI_0, atI_1, atI_2, cutD_1, cutD_from1, cutD_to, p10_6, p10_7, p10_8, p10_9, p10_10, p10_11, p10_12, sum_ints, all_bls, any_bls, eqb_ints, eqb_nilL, isin_ints, enum_lst, cmp_int, cmp_non, cmp_str, cmp_dInts, cmp_nilL, it_int_non, it_int_bl, it_int_int, it_int_str, it_int_tup, it_int_lst, it_int_rol, it_bool_non, it_bool_bl, it_bool_int, it_bool_str, it_bool_tup, it_bool_lst, it_bool_rol, it_str_non, it_str_bl, it_str_int, it_str_str, it_str_tup, it_str_lst, it_str_rol, it_tuple_non, it_tuple_bl, it_tuple_int, it_tuple_str, it_tuple_tup, it_tuple_lst, it_tuple_rol, it_list_non, it_list_bl, it_list_int, it_list_str, it_list_tup, it_list_lst, it_list_rol, gv_MD, gv_isl, gv_MK, wc_of (sp_form_any k (n := n - 1) (m := 6) (by omega) (by omega) h), ef, wc_of (sp_leaves f (n := n - 1) ok (by omega) (by omega))]
      simp
    · rw [wc_def' (by omega) pr__law_frame_good rfl]
      have e2 := fm_dp k 6 f.d (by decide)
      rw [ef] at e2
      simp only [fd__law_frame_good, we_var, we_cn, we_cb, we_ci, we_cs, we_glob, we_tup, we_lst, we_newc, we_op, we_isN, we_notN, we_neg, we_nt, we_and, we_or, we_chain, we_ite, we_call, we_calll, we_b1, we_b2, we_isi, we_ix, we_sl, we_lc, we_lrng, we_olen, we_oix, we_inD, we_getD, we_calld, we_osl, we_rev, we_isB, we_cnew, we_clen, we_cpop, we_cnil, wl_nil, wl_cons, wr_it, wr_rng, wr_enum, wr_zip, ws_set, ws_own, ws_frz, ws_unp, ws_unp2, ws_par, ws_app, ws_oset, ws_cset, ws_ifs, ws_fors, ws_whil, ws_ret, ws_retn, ws_brk, ws_cnt, ws_pas, ws_expr, wb_nil, wb_cons, thn_nx, thn_rt, thn_bk, thn_ct, fin_nx, fin_rt, turn_nx, turn_ct, turn_bk, turn_rt, List.set_cons_zero, List.set_cons_succ, List.set_nil, List.getElem?_cons_zero, List.getElem?_cons_succ, Option.some.injEq, Sl.v.injEq, Sl.o.injEq, D.bl.injEq, D.int.injEq, D.str.injEq, D.tup.injEq, D.lst.injEq, D.cell.injEq, D.fn.injEq, exists_eq_left, exists_eq_left', exists_eq_right, List.length_cons, List.length_nil, Nat.reduceAdd, Nat.reduceSub, List.replicate_succ, List.replicate_zero, List.map_cons, List.map_nil, List.cons_append, List.nil_append, List.append_nil, true_and, and_true, false_and, and_false, forall_const, Bool.true_eq_false, Bool.false_eq_true, Bool.not_true, Bool.not_false, setMany, asg, Tg.slots, wipeE, optI, testOf, ne_eq, not_true_eq_false, not_false_eq_true, exists_const, reduceCtorEq, false_or, or_false, true_or, or_true, exists_false, Int.reduceLT, Int.reduceLE, Int.reduceNeg, Int.reduceAdd, Int.reduceSub, decide_true, decide_false, Bool.and_true, Bool.true_and, Bool.and_false, Bool.false_and, Bool.or_true, Bool.true_or, Bool.or_false, Bool.false_or, false_implies, true_implies, if_true, if_false, ite_true, ite_false, implies_true, envOf, op_add, op_addT, op_addL, op_sub, op_mul, op_fdiv, op_mod, op_lt, op_le, op_gt, op_ge, op_eqI, op_neI, op_eqS, op_neS, len_tup, len_lst, len_rol, abs_int, max2, min2, int_int, int_bl, nn_non, nn_int, nn_bl, nn_str, nn_tup, nn_lst, ix_tup, ix_lst, ix_rol, ix_cell, op_inS2, sl_tup, sl_lst, items_tup, items_lst, atI_0, atI_1, atI_2, cutD_1, cutD_from1, cutD_to, p10_6, p10_7, p10_8, p10_9, p10_10, p10_11, p10_12, sum_ints, all_bls, any_bls, eqb_ints, eqb_nilL, isin_ints, enum_lst, cmp_int, cmp_non, cmp_str, cmp_dInts, cmp_nilL, it_int_non, it_int_bl, it_int_int, it_int_str, it_int_tup, it_int_lst, it_int_rol, it_bool_non, it_bool_bl, it_bool_int, it_bool_str, it_bool_tup, it_bool_lst, it_bool_rol, it_str_non, it_str_bl, it_str_int, it_str_str, it_str_tup, it_str_lst, it_str_rol, it_tuple_non, it_tuple_bl, it_tuple_int, it_tuple_str, it_tuple_tup, it_tuple_lst, it_tuple_rol, it_list_non, it_list_bl, it_list_int, it_list_str, it_list_tup, it_list_lst, it_list_rol, wc_of (sp_depth_any k (n := n - 1) (by omega) (by omega) h), ← e2, wc_of (sp_links f (n := n - 1) ok (by omega) (by omega))]
      simp
theorem sp_frame_no {k : Nat} {n : Nat} (hk : k ≤ 40) (hn : k + 10 ≤ n) {d : D} (h : vb k d = true) (ef : fmB k 6 d = false) {S : Store} : ec gv pr n F.is_frame [d] S = some (.bl false, S) := by
  refine of_wc ?_
  rw [wc_def' (by omega) pr_is_frame rfl]
  simp only [fd_is_frame, we_var, we_cn, we_cb, we_ci, we_cs, we_glob, we_tup, we_lst, we_newc, we_op, we_isN, we_notN, we_neg, we_nt, we_and, we_or, we_chain, we_ite, we_call, we_calll, we_b1, we_b2, we_isi, we_ix, we_sl, we_lc, we_lrng, we_olen, we_oix, we_inD, we_getD, we_calld, we_osl, we_rev, we_isB, we_cnew, we_clen, we_cpop, we_cnil, wl_nil, wl_cons, wr_it, wr_rng, wr_enum, wr_zip, ws_set, ws_own, ws_frz, ws_unp, ws_unp2, ws_par, ws_app, ws_oset, ws_cset, ws_ifs, ws_fors, ws_whil, ws_ret, ws_retn, ws_brk, ws_cnt, ws_pas, ws_expr, wb_nil, wb_cons, thn_nx, thn_rt, thn_bk, thn_ct, fin_nx, fin_rt, turn_nx, turn_ct, turn_bk, turn_rt, List.set_cons_zero, List.set_cons_succ, List.set_nil, List.getElem?_cons_zero, List.getElem?_cons_succ, Option.some.injEq, Sl.v.injEq, Sl.o.injEq, D.bl.injEq, D.int.injEq, D.str.injEq, D.tup.injEq, D.lst.injEq, D.cell.injEq, D.fn.injEq, exists_eq_left, exists_eq_left', exists_eq_right, List.length_cons, List.length_nil, Nat.reduceAdd, Nat.reduceSub, List.replicate_succ, List.replicate_zero, List.map_cons, List.map_nil, List.cons_append, List.nil_append, List.append_nil, true_and, and_true, false_and, and_false, forall_const, Bool.true_eq_false, Bool.false_eq_true, Bool.not_true, Bool.not_false, setMany, asg, Tg.slots, wipeE, optI, testOf, ne_eq, not_true_eq_false, not_false_eq_true, exists_const, reduceCtorEq, false_or, or_false, true_or, or_true, exists_false, Int.reduceLT, Int.reduceLE, Int.reduceNeg, Int.reduceAdd, Int.reduceSub, decide_true, decide_false, Bool.and_true, Bool.true_and, Bool.and_false, Bool.false_and, Bool.or_true, Bool.true_or, Bool.or_false, Bool.false_or, false_implies, true_implies, if_true, if_false, ite_true, ite_false, implies_true, envOf, op_add, op_addT, op_addL, op_sub, op_mul, op_fdiv, op_mod, op_lt, op_le, op_gt, op_ge, op_eqI, op_neI, op_eqS, op_neS, len_tup, len_lst, len_rol, abs_int, max2, min2, int_int, int_bl, nn_non, nn_int, nn_bl, nn_str, nn_tup, nn_lst, ix_tup, ix_lst, ix_rol, ix_cell, op_inS2, sl_tup, sl_lst, items_tup, items_lst, atI_0, atI_1, atI_2, cutD_1, cutD_from1, cutD_to, p10_6, p10_7, p10_8, p10_9, p10_10, p10_11, p10_12, sum_ints, all_bls, any_bls, eqb_ints, eqb_nilL, isin_ints, enum_lst, cmp_int, cmp_non, cmp_str, cmp_dInts, cmp_nilL, it_int_non, it_int_bl, it_int_int, it_int_str, it_int_tup, it_int_lst, it_int_rol, it_bool_non, it_bool_bl, it_bool_int, it_bool_str, it_bool_tup, it_bool_lst, it_bool_rol, it_str_non, it_str_bl, it_str_int, it_str_str, it_str_tup, it_str_lst, it_str_rol, it_tuple_non, it_tuple_bl, it_tuple_int, it_tuple_str, it_tuple_tup, it_tuple_lst, it_tuple_rol, it_list_non, it_list_bl, it_list_int, it_list_str, it_list_tup, it_list_lst, it_list_rol, gv_MD, gv_isl, wc_of (sp_form_any k (n := n - 1) (m := 6) (by omega) (by omega) h), ef]
theorem sp_frame_len {n : Nat} (hn : 10 ≤ n) {f : Fr} (ok : f.ok 1000000000) (hd : f.dep ≤ 6) (hl : f.lks.length ≤ 1000) {S : Store} : ec gv pr n F.is_frame [f.d] S = some (.bl (decide ((f.lks.length : Int) ≤ 30)), S) := by
  refine of_wc ?_
  rw [wc_def' (by omega) pr_is_frame rfl]
  simp only [fd_is_frame, we_var, we_cn, we_cb, we_ci, we_cs, we_glob, we_tup, we_lst, we_newc, we_op, we_isN, we_notN, we_neg, we_nt, we_and, we_or, we_chain, we_ite, we_call, we_calll, we_b1, we_b2, we_isi, we_ix, we_sl, we_lc, we_lrng, we_olen, we_oix, we_inD, we_getD, we_calld, we_osl, we_rev, we_isB, we_cnew, we_clen, we_cpop, we_cnil, wl_nil, wl_cons, wr_it, wr_rng, wr_enum, wr_zip, ws_set, ws_own, ws_frz, ws_unp, ws_unp2, ws_par, ws_app, ws_oset, ws_cset, ws_ifs, ws_fors, ws_whil, ws_ret, ws_retn, ws_brk, ws_cnt, ws_pas, ws_expr, wb_nil, wb_cons, thn_nx, thn_rt, thn_bk, thn_ct, fin_nx, fin_rt, turn_nx, turn_ct, turn_bk, turn_rt, List.set_cons_zero, List.set_cons_succ, List.set_nil, List.getElem?_cons_zero, List.getElem?_cons_succ, Option.some.injEq, Sl.v.injEq, Sl.o.injEq, D.bl.injEq, D.int.injEq, D.str.injEq, D.tup.injEq, D.lst.injEq, D.cell.injEq, D.fn.injEq, exists_eq_left, exists_eq_left', exists_eq_right, List.length_cons, List.length_nil, Nat.reduceAdd, Nat.reduceSub, List.replicate_succ, List.replicate_zero, List.map_cons, List.map_nil, List.cons_append, List.nil_append, List.append_nil, true_and, and_true, false_and, and_false, forall_const, Bool.true_eq_false, Bool.false_eq_true, Bool.not_true, Bool.not_false, setMany, asg, Tg.slots, wipeE, optI, testOf, ne_eq, not_true_eq_false, not_false_eq_true, exists_const, reduceCtorEq, false_or, or_false, true_or, or_true, exists_false, Int.reduceLT, Int.reduceLE, Int.reduceNeg, Int.reduceAdd, Int.reduceSub, decide_true, decide_false, Bool.and_true, Bool.true_and, Bool.and_false, Bool.false_and, Bool.or_true, Bool.true_or, Bool.or_false, Bool.false_or, false_implies, true_implies, if_true, if_false, ite_true, ite_false, implies_true, envOf, op_add, op_addT, op_addL, op_sub, op_mul, op_fdiv, op_mod, op_lt, op_le, op_gt, op_ge, op_eqI, op_neI, op_eqS, op_neS, len_tup, len_lst, len_rol, abs_int, max2, min2, int_int, int_bl, nn_non, nn_int, nn_bl, nn_str, nn_tup, nn_lst, ix_tup, ix_lst, ix_rol, ix_cell, op_inS2, sl_tup, sl_lst, items_tup, items_lst, atI_0, atI_1, atI_2, cutD_1, cutD_from1, cutD_to, p10_6, p10_7, p10_8, p10_9, p10_10, p10_11, p10_12, sum_ints, all_bls, any_bls, eqb_ints, eqb_nilL, isin_ints, enum_lst, cmp_int, cmp_non, cmp_str, cmp_dInts, cmp_nilL, it_int_non, it_int_bl, it_int_int, it_int_str, it_int_tup, it_int_lst, it_int_rol, it_bool_non, it_bool_bl, it_bool_int, it_bool_str, it_bool_tup, it_bool_lst, it_bool_rol, it_str_non, it_str_bl, it_str_int, it_str_str, it_str_tup, it_str_lst, it_str_rol, it_tuple_non, it_tuple_bl, it_tuple_int, it_tuple_str, it_tuple_tup, it_tuple_lst, it_tuple_rol, it_list_non, it_list_bl, it_list_int, it_list_str, it_list_tup, it_list_lst, it_list_rol, gv_MD, gv_isl, gv_MK, wc_of (sp_has_form f (n := n - 1) (dp := 6) ok (by omega) (by decide) (by omega)), wc_of (sp_leaves f (n := n - 1) ok (by omega) (by omega))]
  simp
end MP

/-! SpG: odd and spoilt values. -/
namespace MP
open PySem
theorem p10_30 : op2 .pow (.int 10) (.int 30) = some (.int 1000000000000000000000000000000) := rfl
/-- as vb, with fewer items -/
def vbs (w : Nat) : Nat → D → Bool
  | _, .non => true
  | _, .bl _ => true
  | _, .int _ => true
  | _, .str _ => true
  | k + 1, .tup xs => decide (xs.length ≤ w) && xs.all (vbs w k)
  | k + 1, .lst xs => decide (xs.length ≤ w) && xs.all (vbs w k)
  | _, _ => false
def odds : List D := [D.non, D.bl true, D.bl false, D.int (-1), D.int 0, D.int 1, D.int 2, D.int 1000000001,
  D.int 1000000000001, D.int 1000000000000000000000000000000, D.str (Str.ofString ""),
  D.str (Str.ofString "bar"), D.str (Str.ofString "arm"), D.tup [], D.lst [], D.tup [D.int 1],
  D.tup [D.str (Str.ofString "bar")], D.tup [D.str (Str.ofString "bar"), D.int 5],
  D.lst [D.str (Str.ofString "bar"), D.int 5], D.tup [D.str (Str.ofString "bar"), D.int (-1)],
  D.tup [D.str (Str.ofString "bar"), D.int 5, D.int 6],
  D.tup [D.str (Str.ofString "piston"), D.int 5, D.int 3],
  D.tup [D.str (Str.ofString "cut"), D.int 1, D.int 1], D.tup [D.str (Str.ofString "cable"), D.bl true],
  D.tup [D.str (Str.ofString "rope"), D.int 3],
  D.tup [D.str (Str.ofString "bar"), D.str (Str.ofString "5")],
  D.tup [D.str (Str.ofString "row"), D.tup [D.str (Str.ofString "bar"), D.int 1]],
  D.tup [D.str (Str.ofString "side"), D.tup [D.str (Str.ofString "bar"), D.int 1], D.tup [D.str (Str.ofString "bar"), D.int 2]],
  D.tup [D.str (Str.ofString "row")],
  D.tup [D.str (Str.ofString "row"), D.tup [D.str (Str.ofString "bar"), D.int 1], D.non],
  D.lst [D.str (Str.ofString "row"), D.tup [D.str (Str.ofString "bar"), D.int 1], D.tup [D.str (Str.ofString "bar"), D.int 1]],
  D.tup [D.str (Str.ofString "ring"), D.tup [D.str (Str.ofString "bar"), D.int 1], D.tup [D.str (Str.ofString "bar"), D.int 1]],
  D.tup [D.tup [D.str (Str.ofString "bar"), D.int 1], D.tup [D.str (Str.ofString "bar"), D.int 2]]]
theorem sp_odd {n : Nat} (hn : 1 ≤ n) {xs : List Int} (hx : 2 ≤ xs.length) {S : Store} : WC (ec gv pr n) F._law_odd [.lst (xs.map .int)] S fun d S' => S' = S ∧ vbs 4 3 d = true := by
  match xs, hx with
  | a :: b :: r, _ =>
    rw [wc_def' hn pr__law_odd rfl]
    simp only [fd__law_odd, we_var, we_cn, we_cb, we_ci, we_cs, we_glob, we_tup, we_lst, we_newc, we_op, we_isN, we_notN, we_neg, we_nt, we_and, we_or, we_chain, we_ite, we_call, we_calll, we_b1, we_b2, we_isi, we_ix, we_sl, we_lc, we_lrng, we_olen, we_oix, we_inD, we_getD, we_calld, we_osl, we_rev, we_isB, we_cnew, we_clen, we_cpop, we_cnil, wl_nil, wl_cons, wr_it, wr_rng, wr_enum, wr_zip, ws_set, ws_own, ws_frz, ws_unp, ws_unp2, ws_par, ws_app, ws_oset, ws_cset, ws_ifs, ws_fors, ws_whil, ws_ret, ws_retn, ws_brk, ws_cnt, ws_pas, ws_expr, wb_nil, wb_cons, thn_nx, thn_rt, thn_bk, thn_ct, fin_nx, fin_rt, turn_nx, turn_ct, turn_bk, turn_rt, List.set_cons_zero, List.set_cons_succ, List.set_nil, List.getElem?_cons_zero, List.getElem?_cons_succ, Option.some.injEq, Sl.v.injEq, Sl.o.injEq, D.bl.injEq, D.int.injEq, D.str.injEq, D.tup.injEq, D.lst.injEq, D.cell.injEq, D.fn.injEq, exists_eq_left, exists_eq_left', exists_eq_right, List.length_cons, List.length_nil, Nat.reduceAdd, Nat.reduceSub, List.replicate_succ, List.replicate_zero, List.map_cons, List.map_nil, List.cons_append, List.nil_append, List.append_nil, true_and, and_true, false_and, and_false, forall_const, Bool.true_eq_false, Bool.false_eq_true, Bool.not_true, Bool.not_false, setMany, asg, Tg.slots, wipeE, optI, testOf, ne_eq, not_true_eq_false, not_false_eq_true, exists_const, reduceCtorEq, false_or, or_false, true_or, or_true, exists_false, Int.reduceLT, Int.reduceLE, Int.reduceNeg, Int.reduceAdd, Int.reduceSub, decide_true, decide_false, Bool.and_true, Bool.true_and, Bool.and_false, Bool.false_and, Bool.or_true, Bool.true_or, Bool.or_false, Bool.false_or, false_implies, true_implies, if_true, if_false, ite_true, ite_false, implies_true, envOf, op_add, op_addT, op_addL, op_sub, op_mul, op_fdiv, op_mod, op_lt, op_le, op_gt, op_ge, op_eqI, op_neI, op_eqS, op_neS, len_tup, len_lst, len_rol, abs_int, max2, min2, int_int, int_bl, nn_non, nn_int, nn_bl, nn_str, nn_tup, nn_lst, ix_tup, ix_lst, ix_rol, ix_cell, op_inS2, sl_tup, sl_lst, items_tup, items_lst, atI_0, atI_1, atI_2, cutD_1, cutD_from1, cutD_to, p10_6, p10_7, p10_8, p10_9, p10_10, p10_11, p10_12, sum_ints, all_bls, any_bls, eqb_ints, eqb_nilL, isin_ints, enum_lst, cmp_int, cmp_non, cmp_str, cmp_dInts, cmp_nilL, it_int_non, it_int_bl, it_int_int, it_int_str, it_int_tup, it_int_lst, it_int_rol, it_bool_non, it_bool_bl, it_bool_int, it_bool_str, it_bool_tup, it_bool_lst, it_bool_rol, it_str_non, it_str_bl, it_str_int, it_str_str, it_str_tup, it_str_lst, it_str_rol, it_tuple_non, it_tuple_bl, it_tuple_int, it_tuple_str, it_tuple_tup, it_tuple_lst, it_tuple_rol, it_list_non, it_list_bl, it_list_int, it_list_str, it_list_tup, it_list_lst, it_list_rol, p10_30, List.map_cons, List.cons_append, List.nil_append, List.length_cons, List.length_nil]
    have hm : mulOk 7 b = true := by unfold mulOk; simp
    refine ⟨_, if_pos (by decide), _, rfl, _, rfl, _, rfl, _, if_pos hm, _, rfl, _, rfl, _, rfl, ?_⟩
    obtain ⟨y, hy, hmy⟩ := at_lt (odds : List D) (v := (a + 7 * b) % 33) (by omega) (by rw [show (odds.length : Int) = 33 from rfl]; omega)
    refine ⟨y, hy, ?_⟩
    have hall : odds.all (vbs 4 3) = true := by decide +kernel
    exact List.all_eq_true.mp hall y hmy
theorem vb_mono : ∀ {k : Nat} {d : D}, vb k d = true → ∀ j, k ≤ j → vb j d = true := by
  intro k
  induction k with
  | zero =>
    intro d h j _
    cases d with
    | tup xs => simp [vb] at h
    | lst xs => simp [vb] at h
    | rol xs => simp [vb] at h
    | fn g => simp [vb] at h
    | cell c => simp [vb] at h
    | _ => cases j <;> rfl
  | succ k ih =>
    intro d h j hj
    obtain ⟨i, rfl⟩ : ∃ i, j = i + 1 := ⟨j - 1, by omega⟩
    cases d with
    | tup xs =>
      obtain ⟨q, e, h1, h2⟩ := vb_tup h
      cases e
      simp only [vb, Bool.and_eq_true, decide_eq_true_eq, List.all_eq_true]
      exact ⟨h1, fun x hx => ih (h2 x hx) i (by omega)⟩
    | lst xs =>
      obtain ⟨q, e, h1, h2⟩ := vb_lst h
      cases e
      simp only [vb, Bool.and_eq_true, decide_eq_true_eq, List.all_eq_true]
      exact ⟨h1, fun x hx => ih (h2 x hx) i (by omega)⟩
    | rol xs => simp [vb] at h
    | fn g => simp [vb] at h
    | cell c => simp [vb] at h
    | _ => rfl
theorem vbs_vb {w : Nat} (hw : w ≤ 30) : ∀ {k : Nat} {d : D}, vbs w k d = true → vb k d = true := by
  intro k
  induction k with
  | zero => intro d h; cases d <;> first | rfl | (simp [vbs] at h)
  | succ k ih =>
    intro d h
    cases d <;> first | rfl | (simp [vbs] at h; done) | skip
    all_goals
      simp only [vbs, Bool.and_eq_true, decide_eq_true_eq, List.all_eq_true] at h
      simp only [vb, Bool.and_eq_true, decide_eq_true_eq, List.all_eq_true]
      exact ⟨by omega, fun x hx => ih (h.2 x hx)⟩
theorem vbs_mono {w v : Nat} (hw : w ≤ v) : ∀ {k : Nat} {d : D}, vbs w k d = true → ∀ j, k ≤ j → vbs v j d = true := by
  intro k
  induction k with
  | zero => intro d h j _; cases d <;> first | (cases j <;> rfl) | (simp [vbs] at h)
  | succ k ih =>
    intro d h j hj
    obtain ⟨i, rfl⟩ : ∃ i, j = i + 1 := ⟨j - 1, by omega⟩
    cases d <;> first | rfl | (simp [vbs] at h; done) | skip
    all_goals
      simp only [vbs, Bool.and_eq_true, decide_eq_true_eq, List.all_eq_true] at h ⊢
      exact ⟨by omega, fun x hx => ih (h.2 x hx) i (by omega)⟩
theorem it2_lst {ds : List D} : isTys [Ty.tuple, Ty.list] (.lst ds) = some true := rfl
theorem it2_tup {ds : List D} : isTys [Ty.tuple, Ty.list] (.tup ds) = some true := rfl
theorem sp_spoilt {w : Nat} (hw4 : 4 ≤ w) (hw : w ≤ 28) : ∀ (k : Nat) {n : Nat} {d : D} {xs : List Int} {S : Store}, k + 2 ≤ n → vbs w k d = true → 3 ≤ xs.length → xs.length ≤ 1000 → WC (ec gv pr n) F._law_spoilt [d, .lst (xs.map .int)] S fun d' S' => S' = S ∧ vbs (w + 1) (k + 3) d' = true := by
  have odm : ∀ (j : Nat) {n : Nat} {xs : List Int} {S : Store}, 1 ≤ n → 3 ≤ xs.length → WC (ec gv pr n) F._law_odd [.lst (cutD (xs.map .int) (some 1) none)] S fun d' S' => S' = S ∧ vbs (w + 1) (j + 3) d' = true := by
    intro j n xs S hn hx
    have c1 : cutD (xs.map .int) (some 1) none = (xs.drop 1).map .int := by rw [List.map_drop]; exact cutD_from (k := 1)
    rw [c1]
    refine (sp_odd hn (xs := xs.drop 1) (by rw [List.length_drop]; omega) (S := S)).mono ?_
    rintro d T ⟨rfl, h⟩
    exact ⟨rfl, vbs_mono (by omega) h _ (by omega)⟩
  intro k
  induction k with
  | zero =>
    intro n d xs S hn h hx hx2
    rw [wc_def' (by omega) pr__law_spoilt rfl]
    cases d with
    | tup ds => simp [vbs] at h
    | lst ds => simp [vbs] at h
    | rol ds => simp [vbs] at h
    | fn g => simp [vbs] at h
    | cell c => simp [vbs] at h
    | _ =>
      simp only [fd__law_spoilt, we_var, we_cn, we_cb, we_ci, we_cs, we_glob, we_tup, we_lst, we_newc, we_op, we_isN, we_notN, we_neg, we_nt, we_and, we_or, we_chain, we_ite, we_call, we_calll, we_b1, we_b2, we_isi, we_ix, we_sl, we_lc, we_lrng, we_olen, we_oix, we_inD, we_getD, we_calld, we_osl, we_rev, we_isB, we_cnew, we_clen, we_cpop, we_cnil, wl_nil, wl_cons, wr_it, wr_rng, wr_enum, wr_zip, ws_set, ws_own, ws_frz, ws_unp, ws_unp2, ws_par, ws_app, ws_oset, ws_cset, ws_ifs, ws_fors, ws_whil, ws_ret, ws_retn, ws_brk, ws_cnt, ws_pas, ws_expr, wb_nil, wb_cons, thn_nx, thn_rt, thn_bk, thn_ct, fin_nx, fin_rt, turn_nx, turn_ct, turn_bk, turn_rt, List.set_cons_zero, List.set_cons_succ, List.set_nil, List.getElem?_cons_zero, List.getElem?_cons_succ, Option.some.injEq, Sl.v.injEq, Sl.o.injEq, D.bl.injEq, D.int.injEq, D.str.injEq, D.tup.injEq, D.lst.injEq, D.cell.injEq, D.fn.injEq, exists_eq_left, exists_eq_left', exists_eq_right, List.length_cons, List.length_nil, Nat.reduceAdd, Nat.reduceSub, List.replicate_succ, List.replicate_zero, List.map_cons, List.map_nil, List.cons_append, List.nil_append, List.append_nil, true_and, and_true, false_and, and_false, forall_const, Bool.true_eq_false, Bool.false_eq_true, Bool.not_true, Bool.not_false, setMany, asg, Tg.slots, wipeE, optI, testOf, ne_eq, not_true_eq_false, not_false_eq_true, exists_const, reduceCtorEq, false_or, or_false, true_or, or_true, exists_false, Int.reduceLT, Int.reduceLE, Int.reduceNeg, Int.reduceAdd, Int.reduceSub, decide_true, decide_false, Bool.and_true, Bool.true_and, Bool.and_false, Bool.false_and, Bool.or_true, Bool.true_or, Bool.or_false, Bool.false_or, false_implies, true_implies, if_true, if_false, ite_true, ite_false, implies_true, envOf, op_add, op_addT, op_addL, op_sub, op_mul, op_fdiv, op_mod, op_lt, op_le, op_gt, op_ge, op_eqI, op_neI, op_eqS, op_neS, len_tup, len_lst, len_rol, abs_int, max2, min2, int_int, int_bl, nn_non, nn_int, nn_bl, nn_str, nn_tup, nn_lst, ix_tup, ix_lst, ix_rol, ix_cell, op_inS2, sl_tup, sl_lst, items_tup, items_lst, atI_0, atI_1, atI_2, cutD_1, cutD_from1, cutD_to, p10_6, p10_7, p10_8, p10_9, p10_10, p10_11, p10_12, sum_ints, all_bls, any_bls, eqb_ints, eqb_nilL, isin_ints, enum_lst, cmp_int, cmp_non, cmp_str, cmp_dInts, cmp_nilL, it_int_non, it_int_bl, it_int_int, it_int_str, it_int_tup, it_int_lst, it_int_rol, it_bool_non, it_bool_bl, it_bool_int, it_bool_str, it_bool_tup, it_bool_lst, it_bool_rol, it_str_non, it_str_bl, it_str_int, it_str_str, it_str_tup, it_str_lst, it_str_rol, it_tuple_non, it_tuple_bl, it_tuple_int, it_tuple_str, it_tuple_tup, it_tuple_lst, it_tuple_rol, it_list_non, it_list_bl, it_list_int, it_list_str, it_list_tup, it_list_lst, it_list_rol]
      exact ⟨false, rfl, fun hh => (by cases hh), fun _ => odm 0 (by omega) hx⟩
  | succ k ih =>
    intro n d xs S hn h hx hx2
    rw [wc_def' (by omega) pr__law_spoilt rfl]
    have hd : (∃ ds, d = .lst ds) ∨ (∃ ds, d = .tup ds) ∨ isTys [Ty.tuple, Ty.list] d = some false := by
      cases d with
      | rol ds => simp [vbs] at h
      | fn g => simp [vbs] at h
      | cell c => simp [vbs] at h
      | lst ds => exact .inl ⟨_, rfl⟩
      | tup ds => exact .inr (.inl ⟨_, rfl⟩)
      | _ => exact .inr (.inr rfl)
    rcases hd with ⟨ds, rfl⟩ | ⟨ds, rfl⟩ | hs
    rotate_right
    focus
      simp only [fd__law_spoilt, we_var, we_cn, we_cb, we_ci, we_cs, we_glob, we_tup, we_lst, we_newc, we_op, we_isN, we_notN, we_neg, we_nt, we_and, we_or, we_chain, we_ite, we_call, we_calll, we_b1, we_b2, we_isi, we_ix, we_sl, we_lc, we_lrng, we_olen, we_oix, we_inD, we_getD, we_calld, we_osl, we_rev, we_isB, we_cnew, we_clen, we_cpop, we_cnil, wl_nil, wl_cons, wr_it, wr_rng, wr_enum, wr_zip, ws_set, ws_own, ws_frz, ws_unp, ws_unp2, ws_par, ws_app, ws_oset, ws_cset, ws_ifs, ws_fors, ws_whil, ws_ret, ws_retn, ws_brk, ws_cnt, ws_pas, ws_expr, wb_nil, wb_cons, thn_nx, thn_rt, thn_bk, thn_ct, fin_nx, fin_rt, turn_nx, turn_ct, turn_bk, turn_rt, List.set_cons_zero, List.set_cons_succ, List.set_nil, List.getElem?_cons_zero, List.getElem?_cons_succ, Option.some.injEq, Sl.v.injEq, Sl.o.injEq, D.bl.injEq, D.int.injEq, D.str.injEq, D.tup.injEq, D.lst.injEq, D.cell.injEq, D.fn.injEq, exists_eq_left, exists_eq_left', exists_eq_right, List.length_cons, List.length_nil, Nat.reduceAdd, Nat.reduceSub, List.replicate_succ, List.replicate_zero, List.map_cons, List.map_nil, List.cons_append, List.nil_append, List.append_nil, true_and, and_true, false_and, and_false, forall_const, Bool.true_eq_false, Bool.false_eq_true, Bool.not_true, Bool.not_false, setMany, asg, Tg.slots, wipeE, optI, testOf, ne_eq, not_true_eq_false, not_false_eq_true, exists_const, reduceCtorEq, false_or, or_false, true_or, or_true, exists_false, Int.reduceLT, Int.reduceLE, Int.reduceNeg, Int.reduceAdd, Int.reduceSub, decide_true, decide_false, Bool.and_true, Bool.true_and, Bool.and_false, Bool.false_and, Bool.or_true, Bool.true_or, Bool.or_false, Bool.false_or, false_implies, true_implies, if_true, if_false, ite_true, ite_false, implies_true, envOf, op_add, op_addT, op_addL, op_sub, op_mul, op_fdiv, op_mod, op_lt, op_le, op_gt, op_ge, op_eqI, op_neI, op_eqS, op_neS, len_tup, len_lst, len_rol, abs_int, max2, min2, int_int, int_bl, nn_non, nn_int, nn_bl, nn_str, nn_tup, nn_lst, ix_tup, ix_lst, ix_rol, ix_cell, op_inS2, sl_tup, sl_lst, items_tup, items_lst, atI_0, atI_1, atI_2, cutD_1, cutD_from1, cutD_to, p10_6, p10_7, p10_8, p10_9, p10_10, p10_11, p10_12, sum_ints, all_bls, any_bls, eqb_ints, eqb_nilL, isin_ints, enum_lst, cmp_int, cmp_non, cmp_str, cmp_dInts, cmp_nilL, it_int_non, it_int_bl, it_int_int, it_int_str, it_int_tup, it_int_lst, it_int_rol, it_bool_non, it_bool_bl, it_bool_int, it_bool_str, it_bool_tup, it_bool_lst, it_bool_rol, it_str_non, it_str_bl, it_str_int, it_str_str, it_str_tup, it_str_lst, it_str_rol, it_tuple_non, it_tuple_bl, it_tuple_int, it_tuple_str, it_tuple_tup, it_tuple_lst, it_tuple_rol, it_list_non, it_list_bl, it_list_int, it_list_str, it_list_tup, it_list_lst, it_list_rol, hs]
      exact odm (k + 1) (by omega) hx
    all_goals
      simp only [vbs, Bool.and_eq_true, decide_eq_true_eq, List.all_eq_true] at h
      obtain ⟨hdl, hdv⟩ := h
      simp only [fd__law_spoilt, we_var, we_cn, we_cb, we_ci, we_cs, we_glob, we_tup, we_lst, we_newc, we_op, we_isN, we_notN, we_neg, we_nt, we_and, we_or, we_chain, we_ite, we_call, we_calll, we_b1, we_b2, we_isi, we_ix, we_sl, we_lc, we_lrng, we_olen, we_oix, we_inD, we_getD, we_calld, we_osl, we_rev, we_isB, we_cnew, we_clen, we_cpop, we_cnil, wl_nil, wl_cons, wr_it, wr_rng, wr_enum, wr_zip, ws_set, ws_own, ws_frz, ws_unp, ws_unp2, ws_par, ws_app, ws_oset, ws_cset, ws_ifs, ws_fors, ws_whil, ws_ret, ws_retn, ws_brk, ws_cnt, ws_pas, ws_expr, wb_nil, wb_cons, thn_nx, thn_rt, thn_bk, thn_ct, fin_nx, fin_rt, turn_nx, turn_ct, turn_bk, turn_rt, List.set_cons_zero, List.set_cons_succ, List.set_nil, List.getElem?_cons_zero, List.getElem?_cons_succ, Option.some.injEq, Sl.v.injEq, Sl.o.injEq, D.bl.injEq, D.int.injEq, D.str.injEq, D.tup.injEq, D.lst.injEq, D.cell.injEq, D.fn.injEq, exists_eq_left, exists_eq_left', exists_eq_right, List.length_cons, List.length_nil, Nat.reduceAdd, Nat.reduceSub, List.replicate_succ, List.replicate_zero, List.map_cons, List.map_nil, List.cons_append, List.nil_append, List.append_nil, true_and, and_true, false_and, and_false, forall_const, Bool.true_eq_false, Bool.false_eq_true, Bool.not_true, Bool.not_false, setMany, asg, Tg.slots, wipeE, optI, testOf, ne_eq, not_true_eq_false, not_false_eq_true, exists_const, reduceCtorEq, false_or, or_false, true_or, or_true, exists_false, Int.reduceLT, Int.reduceLE, Int.reduceNeg, Int.reduceAdd, Int.reduceSub, decide_true, decide_false, Bool.and_true, Bool.true_and, Bool.and_false, Bool.false_and, Bool.or_true, Bool.true_or, Bool.or_false, Bool.false_or, false_implies, true_implies, if_true, if_false, ite_true, ite_false, implies_true, envOf, op_add, op_addT, op_addL, op_sub, op_mul, op_fdiv, op_mod, op_lt, op_le, op_gt, op_ge, op_eqI, op_neI, op_eqS, op_neS, len_tup, len_lst, len_rol, abs_int, max2, min2, int_int, int_bl, nn_non, nn_int, nn_bl, nn_str, nn_tup, nn_lst, ix_tup, ix_lst, ix_rol, ix_cell, op_inS2, sl_tup, sl_lst, items_tup, items_lst, atI_0, atI_1, atI_2, cutD_1, cutD_from1, cutD_to, p10_6, p10_7, p10_8, p10_9, p10_10, p10_11, p10_12, sum_ints, all_bls, any_bls, eqb_ints, eqb_nilL, isin_ints, enum_lst, cmp_int, cmp_non, cmp_str, cmp_dInts, cmp_nilL, it_int_non, it_int_bl, it_int_int, it_int_str, it_int_tup, it_int_lst, it_int_rol, it_bool_non, it_bool_bl, it_bool_int, it_bool_str, it_bool_tup, it_bool_lst, it_bool_rol, it_str_non, it_str_bl, it_str_int, it_str_str, it_str_tup, it_str_lst, it_str_rol, it_tuple_non, it_tuple_bl, it_tuple_int, it_tuple_str, it_tuple_tup, it_tuple_lst, it_tuple_rol, it_list_non, it_list_bl, it_list_int, it_list_str, it_list_tup, it_list_lst, it_list_rol, it2_lst, it2_tup]
      refine ⟨fun hl0 => ⟨fun hl9 => ?_, fun _ => odm (k + 1) (by omega) hx⟩, fun _ => odm (k + 1) (by omega) hx⟩
      have h0 : 0 < ds.length := by
        have := of_decide_eq_false hl0
        omega
      have h9 : 9 ≤ xs.length := by
        have := of_decide_eq_false hl9
        rw [List.length_map] at this
        omega
      have c4 : cutD (xs.map .int) (some 4) none = (xs.drop 4).map .int := by rw [List.map_drop]; exact cutD_from (k := 4)
      have c3 : cutD (xs.map .int) (some 3) none = (xs.drop 3).map .int := by rw [List.map_drop]; exact cutD_from (k := 3)
      obtain ⟨x0, x1, x2, r, hxr⟩ : ∃ x0 x1 x2 r, xs = x0 :: x1 :: x2 :: r := by
        match xs, h9 with
        | x0 :: x1 :: x2 :: r, _ => exact ⟨x0, x1, x2, r, rfl⟩
      have a0 : L2.atI (xs.map D.int) 0 = some (.int x0) := by rw [hxr]; simp only [List.map_cons, atI_0, atI_1, atI_2]
      have a1 : L2.atI (xs.map D.int) 1 = some (.int x1) := by rw [hxr]; simp only [List.map_cons, atI_0, atI_1, atI_2]
      have a2 : L2.atI (xs.map D.int) 2 = some (.int x2) := by rw [hxr]; simp only [List.map_cons, atI_0, atI_1, atI_2]
      rw [a0]
      refine ⟨_, rfl, ?_⟩
      simp only [we_var, we_cn, we_cb, we_ci, we_cs, we_glob, we_tup, we_lst, we_newc, we_op, we_isN, we_notN, we_neg, we_nt, we_and, we_or, we_chain, we_ite, we_call, we_calll, we_b1, we_b2, we_isi, we_ix, we_sl, we_lc, we_lrng, we_olen, we_oix, we_inD, we_getD, we_calld, we_osl, we_rev, we_isB, we_cnew, we_clen, we_cpop, we_cnil, wl_nil, wl_cons, wr_it, wr_rng, wr_enum, wr_zip, ws_set, ws_own, ws_frz, ws_unp, ws_unp2, ws_par, ws_app, ws_oset, ws_cset, ws_ifs, ws_fors, ws_whil, ws_ret, ws_retn, ws_brk, ws_cnt, ws_pas, ws_expr, wb_nil, wb_cons, thn_nx, thn_rt, thn_bk, thn_ct, fin_nx, fin_rt, turn_nx, turn_ct, turn_bk, turn_rt, List.set_cons_zero, List.set_cons_succ, List.set_nil, List.getElem?_cons_zero, List.getElem?_cons_succ, Option.some.injEq, Sl.v.injEq, Sl.o.injEq, D.bl.injEq, D.int.injEq, D.str.injEq, D.tup.injEq, D.lst.injEq, D.cell.injEq, D.fn.injEq, exists_eq_left, exists_eq_left', exists_eq_right, List.length_cons, List.length_nil, Nat.reduceAdd, Nat.reduceSub, List.replicate_succ, List.replicate_zero, List.map_cons, List.map_nil, List.cons_append, List.nil_append, List.append_nil, true_and, and_true, false_and, and_false, forall_const, Bool.true_eq_false, Bool.false_eq_true, Bool.not_true, Bool.not_false, setMany, asg, Tg.slots, wipeE, optI, testOf, ne_eq, not_true_eq_false, not_false_eq_true, exists_const, reduceCtorEq, false_or, or_false, true_or, or_true, exists_false, Int.reduceLT, Int.reduceLE, Int.reduceNeg, Int.reduceAdd, Int.reduceSub, decide_true, decide_false, Bool.and_true, Bool.true_and, Bool.and_false, Bool.false_and, Bool.or_true, Bool.true_or, Bool.or_false, Bool.false_or, false_implies, true_implies, if_true, if_false, ite_true, ite_false, implies_true, envOf, op_add, op_addT, op_addL, op_sub, op_mul, op_fdiv, op_mod, op_lt, op_le, op_gt, op_ge, op_eqI, op_neI, op_eqS, op_neS, len_tup, len_lst, len_rol, abs_int, max2, min2, int_int, int_bl, nn_non, nn_int, nn_bl, nn_str, nn_tup, nn_lst, ix_tup, ix_lst, ix_rol, ix_cell, op_inS2, sl_tup, sl_lst, items_tup, items_lst, atI_0, atI_1, atI_2, cutD_1, cutD_from1, cutD_to, p10_6, p10_7, p10_8, p10_9, p10_10, p10_11, p10_12, sum_ints, all_bls, any_bls, eqb_ints, eqb_nilL, isin_ints, enum_lst, cmp_int, cmp_non, cmp_str, cmp_dInts, cmp_nilL, it_int_non, it_int_bl, it_int_int, it_int_str, it_int_tup, it_int_lst, it_int_rol, it_bool_non, it_bool_bl, it_bool_int, it_bool_str, it_bool_tup, it_bool_lst, it_bool_rol, it_str_non, it_str_bl, it_str_int, it_str_str, it_str_tup, it_str_lst, it_str_rol, it_tuple_non, it_tuple_bl, it_tuple_int, it_tuple_str, it_tuple_tup, it_tuple_lst, it_tuple_rol, it_list_non, it_list_bl, it_list_int, it_list_str, it_list_tup, it_list_lst, it_list_rol]
      refine ⟨fun _ => odm (k + 1) (by omega) hx, fun _ => ?_⟩
      refine ⟨_, rfl, _, rfl, ?_⟩
      rw [a1]
      refine ⟨_, rfl, ?_⟩
      simp only [we_var, we_cn, we_cb, we_ci, we_cs, we_glob, we_tup, we_lst, we_newc, we_op, we_isN, we_notN, we_neg, we_nt, we_and, we_or, we_chain, we_ite, we_call, we_calll, we_b1, we_b2, we_isi, we_ix, we_sl, we_lc, we_lrng, we_olen, we_oix, we_inD, we_getD, we_calld, we_osl, we_rev, we_isB, we_cnew, we_clen, we_cpop, we_cnil, wl_nil, wl_cons, wr_it, wr_rng, wr_enum, wr_zip, ws_set, ws_own, ws_frz, ws_unp, ws_unp2, ws_par, ws_app, ws_oset, ws_cset, ws_ifs, ws_fors, ws_whil, ws_ret, ws_retn, ws_brk, ws_cnt, ws_pas, ws_expr, wb_nil, wb_cons, thn_nx, thn_rt, thn_bk, thn_ct, fin_nx, fin_rt, turn_nx, turn_ct, turn_bk, turn_rt, List.set_cons_zero, List.set_cons_succ, List.set_nil, List.getElem?_cons_zero, List.getElem?_cons_succ, Option.some.injEq, Sl.v.injEq, Sl.o.injEq, D.bl.injEq, D.int.injEq, D.str.injEq, D.tup.injEq, D.lst.injEq, D.cell.injEq, D.fn.injEq, exists_eq_left, exists_eq_left', exists_eq_right, List.length_cons, List.length_nil, Nat.reduceAdd, Nat.reduceSub, List.replicate_succ, List.replicate_zero, List.map_cons, List.map_nil, List.cons_append, List.nil_append, List.append_nil, true_and, and_true, false_and, and_false, forall_const, Bool.true_eq_false, Bool.false_eq_true, Bool.not_true, Bool.not_false, setMany, asg, Tg.slots, wipeE, optI, testOf, ne_eq, not_true_eq_false, not_false_eq_true, exists_const, reduceCtorEq, false_or, or_false, true_or, or_true, exists_false, Int.reduceLT, Int.reduceLE, Int.reduceNeg, Int.reduceAdd, Int.reduceSub, decide_true, decide_false, Bool.and_true, Bool.true_and, Bool.and_false, Bool.false_and, Bool.or_true, Bool.true_or, Bool.or_false, Bool.false_or, false_implies, true_implies, if_true, if_false, ite_true, ite_false, implies_true, envOf, op_add, op_addT, op_addL, op_sub, op_mul, op_fdiv, op_mod, op_lt, op_le, op_gt, op_ge, op_eqI, op_neI, op_eqS, op_neS, len_tup, len_lst, len_rol, abs_int, max2, min2, int_int, int_bl, nn_non, nn_int, nn_bl, nn_str, nn_tup, nn_lst, ix_tup, ix_lst, ix_rol, ix_cell, op_inS2, sl_tup, sl_lst, items_tup, items_lst, atI_0, atI_1, atI_2, cutD_1, cutD_from1, cutD_to, p10_6, p10_7, p10_8, p10_9, p10_10, p10_11, p10_12, sum_ints, all_bls, any_bls, eqb_ints, eqb_nilL, isin_ints, enum_lst, cmp_int, cmp_non, cmp_str, cmp_dInts, cmp_nilL, it_int_non, it_int_bl, it_int_int, it_int_str, it_int_tup, it_int_lst, it_int_rol, it_bool_non, it_bool_bl, it_bool_int, it_bool_str, it_bool_tup, it_bool_lst, it_bool_rol, it_str_non, it_str_bl, it_str_int, it_str_str, it_str_tup, it_str_lst, it_str_rol, it_tuple_non, it_tuple_bl, it_tuple_int, it_tuple_str, it_tuple_tup, it_tuple_lst, it_tuple_rol, it_list_non, it_list_bl, it_list_int, it_list_str, it_list_tup, it_list_lst, it_list_rol, show (0 : Int) < (ds.length : Nat) by omega, if_true]
      rw [a2]
      obtain ⟨m, hm⟩ : ∃ m : Nat, x1 % (ds.length : Int) = (m : Int) := ⟨(x1 % (ds.length : Int)).toNat, by have := Int.emod_nonneg x1 (b := (ds.length : Int)) (by omega); omega⟩
      have hml : m < ds.length := by have := Int.emod_lt_of_pos x1 (b := (ds.length : Int)) (by omega); omega
      have d1 : cutD ds none (some (m : Int)) = ds.take m := cutD_to
      have d2 : cutD ds (some (m : Int)) none = ds.drop m := cutD_from
      have d3 : cutD ds (some ((m : Int) + 1)) none = ds.drop (m + 1) := cutD_from1
      have d4 : cutD ds none (some ((m : Int) + 1)) = ds.take (m + 1) := cutD_to (k := m + 1)
      have at1 : ∃ d, L2.atI ds (m : Int) = some d ∧ d ∈ ds := at_lt ds (by omega) (by omega)
      obtain ⟨d, hd, hdm⟩ := at1
      have old : ∀ x, x ∈ ds → vbs (w + 1) (k + 3) x = true := fun x hx => vbs_mono (by omega) (hdv x hx) _ (by omega)
      have lts : vbs (w + 1) (k + 1 + 3) (.lst []) = true := by simp [vbs]
      have fin : ∀ (b c : Bool) (ds' : List D), (ds'.length ≤ w + 1 ∧ ∀ x, x ∈ ds' → vbs (w + 1) (k + 3) x = true) → ∃ z2, op2 .eq (.bl b) (.bl c) = some z2 ∧ ∃ u, z2 = .bl u ∧ (u = true → vbs (w + 1) (k + 1 + 3) (.lst ds') = true) ∧ (u = false → ∃ z, bi1 .tuple (.lst ds') = some z ∧ vbs (w + 1) (k + 1 + 3) z = true) := by
        intro b c ds' hg
        have g1 : vbs (w + 1) (k + 1 + 3) (.lst ds') = true := by
          rw [show k + 1 + 3 = (k + 3) + 1 by omega]
          simp only [vbs, Bool.and_eq_true, decide_eq_true_eq, List.all_eq_true]; exact hg
        have g2 : vbs (w + 1) (k + 1 + 3) (.tup ds') = true := by
          rw [show k + 1 + 3 = (k + 3) + 1 by omega]
          simp only [vbs, Bool.and_eq_true, decide_eq_true_eq, List.all_eq_true]; exact hg
        rw [op_eqD rfl rfl]
        exact ⟨_, rfl, _, rfl, fun _ => g1, fun _ => ⟨_, rfl, g2⟩⟩
      have mt : ∀ {x : D} {i : Nat}, x ∈ ds.take i → x ∈ ds := fun h => List.mem_of_mem_take h
      have md : ∀ {x : D} {i : Nat}, x ∈ ds.drop i → x ∈ ds := fun h => List.mem_of_mem_drop h
      have lt : ∀ i, (ds.take i).length ≤ ds.length := fun i => by rw [List.length_take]; omega
      have ld : ∀ i, (ds.drop i).length ≤ ds.length := fun i => by rw [List.length_drop]; omega
      rw [hm]
      refine ⟨_, rfl, ?_⟩
      simp only [we_var, we_cn, we_cb, we_ci, we_cs, we_glob, we_tup, we_lst, we_newc, we_op, we_isN, we_notN, we_neg, we_nt, we_and, we_or, we_chain, we_ite, we_call, we_calll, we_b1, we_b2, we_isi, we_ix, we_sl, we_lc, we_lrng, we_olen, we_oix, we_inD, we_getD, we_calld, we_osl, we_rev, we_isB, we_cnew, we_clen, we_cpop, we_cnil, wl_nil, wl_cons, wr_it, wr_rng, wr_enum, wr_zip, ws_set, ws_own, ws_frz, ws_unp, ws_unp2, ws_par, ws_app, ws_oset, ws_cset, ws_ifs, ws_fors, ws_whil, ws_ret, ws_retn, ws_brk, ws_cnt, ws_pas, ws_expr, wb_nil, wb_cons, thn_nx, thn_rt, thn_bk, thn_ct, fin_nx, fin_rt, turn_nx, turn_ct, turn_bk, turn_rt, List.set_cons_zero, List.set_cons_succ, List.set_nil, List.getElem?_cons_zero, List.getElem?_cons_succ, Option.some.injEq, Sl.v.injEq, Sl.o.injEq, D.bl.injEq, D.int.injEq, D.str.injEq, D.tup.injEq, D.lst.injEq, D.cell.injEq, D.fn.injEq, exists_eq_left, exists_eq_left', exists_eq_right, List.length_cons, List.length_nil, Nat.reduceAdd, Nat.reduceSub, List.replicate_succ, List.replicate_zero, List.map_cons, List.map_nil, List.cons_append, List.nil_append, List.append_nil, true_and, and_true, false_and, and_false, forall_const, Bool.true_eq_false, Bool.false_eq_true, Bool.not_true, Bool.not_false, setMany, asg, Tg.slots, wipeE, optI, testOf, ne_eq, not_true_eq_false, not_false_eq_true, exists_const, reduceCtorEq, false_or, or_false, true_or, or_true, exists_false, Int.reduceLT, Int.reduceLE, Int.reduceNeg, Int.reduceAdd, Int.reduceSub, decide_true, decide_false, Bool.and_true, Bool.true_and, Bool.and_false, Bool.false_and, Bool.or_true, Bool.true_or, Bool.or_false, Bool.false_or, false_implies, true_implies, if_true, if_false, ite_true, ite_false, implies_true, envOf, op_add, op_addT, op_addL, op_sub, op_mul, op_fdiv, op_mod, op_lt, op_le, op_gt, op_ge, op_eqI, op_neI, op_eqS, op_neS, len_tup, len_lst, len_rol, abs_int, max2, min2, int_int, int_bl, nn_non, nn_int, nn_bl, nn_str, nn_tup, nn_lst, ix_tup, ix_lst, ix_rol, ix_cell, op_inS2, sl_tup, sl_lst, items_tup, items_lst, atI_0, atI_1, atI_2, cutD_1, cutD_from1, cutD_to, p10_6, p10_7, p10_8, p10_9, p10_10, p10_11, p10_12, sum_ints, all_bls, any_bls, eqb_ints, eqb_nilL, isin_ints, enum_lst, cmp_int, cmp_non, cmp_str, cmp_dInts, cmp_nilL, it_int_non, it_int_bl, it_int_int, it_int_str, it_int_tup, it_int_lst, it_int_rol, it_bool_non, it_bool_bl, it_bool_int, it_bool_str, it_bool_tup, it_bool_lst, it_bool_rol, it_str_non, it_str_bl, it_str_int, it_str_str, it_str_tup, it_str_lst, it_str_rol, it_tuple_non, it_tuple_bl, it_tuple_int, it_tuple_str, it_tuple_tup, it_tuple_lst, it_tuple_rol, it_list_non, it_list_bl, it_list_int, it_list_str, it_list_tup, it_list_lst, it_list_rol, d1, d2, d3, d4, c3, c4, hd]
      refine ⟨fun _ => ?_, fun _ => ⟨fun _ => ?_, fun _ => ⟨fun _ => ?_, fun _ => ⟨fun _ => ?_, fun _ => ⟨fun _ => ?_, fun _ => ?_⟩⟩⟩⟩⟩
      · refine ⟨_, if_pos (by have := lt m; have := ld (m + 1); show _ ≤ 1000000; omega), _, rfl, ?_⟩
        refine fin _ _ _ ⟨by rw [List.length_append, List.length_take, List.length_drop]; omega, fun x hx => ?_⟩
        rcases List.mem_append.mp hx with hx | hx
        · exact old x (mt hx)
        · exact old x (md hx)
      · refine ⟨_, if_pos (by have := lt (m + 1); have := ld m; show _ ≤ 1000000; omega), _, rfl, ?_⟩
        refine fin _ _ _ ⟨by rw [List.length_append, List.length_take, List.length_drop]; omega, fun x hx => ?_⟩
        rcases List.mem_append.mp hx with hx | hx
        · exact old x (mt hx)
        · exact old x (md hx)
      · refine ⟨_, if_pos (by have := lt m; have := ld m; show _ ≤ 1000000; omega), _, rfl, ?_⟩
        refine fin _ _ _ ⟨by rw [List.length_append, List.length_take, List.length_drop]; omega, fun x hx => ?_⟩
        rcases List.mem_append.mp hx with hx | hx
        · exact old x (md hx)
        · exact old x (mt hx)
      · refine (sp_odd (n := n - 1) (by omega) (xs := xs.drop 3) (by rw [List.length_drop]; omega) (S := S)).mono ?_
        rintro e T ⟨rfl, he⟩
        have he2 : vbs (w + 1) (k + 3) e = true := vbs_mono (by omega) he _ (by omega)
        refine ⟨_, if_pos (by have := lt m; show _ ≤ 1000000; omega), ?_⟩
        simp only [we_var, we_cn, we_cb, we_ci, we_cs, we_glob, we_tup, we_lst, we_newc, we_op, we_isN, we_notN, we_neg, we_nt, we_and, we_or, we_chain, we_ite, we_call, we_calll, we_b1, we_b2, we_isi, we_ix, we_sl, we_lc, we_lrng, we_olen, we_oix, we_inD, we_getD, we_calld, we_osl, we_rev, we_isB, we_cnew, we_clen, we_cpop, we_cnil, wl_nil, wl_cons, wr_it, wr_rng, wr_enum, wr_zip, ws_set, ws_own, ws_frz, ws_unp, ws_unp2, ws_par, ws_app, ws_oset, ws_cset, ws_ifs, ws_fors, ws_whil, ws_ret, ws_retn, ws_brk, ws_cnt, ws_pas, ws_expr, wb_nil, wb_cons, thn_nx, thn_rt, thn_bk, thn_ct, fin_nx, fin_rt, turn_nx, turn_ct, turn_bk, turn_rt, List.set_cons_zero, List.set_cons_succ, List.set_nil, List.getElem?_cons_zero, List.getElem?_cons_succ, Option.some.injEq, Sl.v.injEq, Sl.o.injEq, D.bl.injEq, D.int.injEq, D.str.injEq, D.tup.injEq, D.lst.injEq, D.cell.injEq, D.fn.injEq, exists_eq_left, exists_eq_left', exists_eq_right, List.length_cons, List.length_nil, Nat.reduceAdd, Nat.reduceSub, List.replicate_succ, List.replicate_zero, List.map_cons, List.map_nil, List.cons_append, List.nil_append, List.append_nil, true_and, and_true, false_and, and_false, forall_const, Bool.true_eq_false, Bool.false_eq_true, Bool.not_true, Bool.not_false, setMany, asg, Tg.slots, wipeE, optI, testOf, ne_eq, not_true_eq_false, not_false_eq_true, exists_const, reduceCtorEq, false_or, or_false, true_or, or_true, exists_false, Int.reduceLT, Int.reduceLE, Int.reduceNeg, Int.reduceAdd, Int.reduceSub, decide_true, decide_false, Bool.and_true, Bool.true_and, Bool.and_false, Bool.false_and, Bool.or_true, Bool.true_or, Bool.or_false, Bool.false_or, false_implies, true_implies, if_true, if_false, ite_true, ite_false, implies_true, envOf, op_add, op_addT, op_addL, op_sub, op_mul, op_fdiv, op_mod, op_lt, op_le, op_gt, op_ge, op_eqI, op_neI, op_eqS, op_neS, len_tup, len_lst, len_rol, abs_int, max2, min2, int_int, int_bl, nn_non, nn_int, nn_bl, nn_str, nn_tup, nn_lst, ix_tup, ix_lst, ix_rol, ix_cell, op_inS2, sl_tup, sl_lst, items_tup, items_lst, atI_0, atI_1, atI_2, cutD_1, cutD_from1, cutD_to, p10_6, p10_7, p10_8, p10_9, p10_10, p10_11, p10_12, sum_ints, all_bls, any_bls, eqb_ints, eqb_nilL, isin_ints, enum_lst, cmp_int, cmp_non, cmp_str, cmp_dInts, cmp_nilL, it_int_non, it_int_bl, it_int_int, it_int_str, it_int_tup, it_int_lst, it_int_rol, it_bool_non, it_bool_bl, it_bool_int, it_bool_str, it_bool_tup, it_bool_lst, it_bool_rol, it_str_non, it_str_bl, it_str_int, it_str_str, it_str_tup, it_str_lst, it_str_rol, it_tuple_non, it_tuple_bl, it_tuple_int, it_tuple_str, it_tuple_tup, it_tuple_lst, it_tuple_rol, it_list_non, it_list_bl, it_list_int, it_list_str, it_list_tup, it_list_lst, it_list_rol]
        refine ⟨_, if_pos (by have := lt m; have := ld m; simp only [List.length_append, List.length_cons, List.length_nil]; show _ ≤ 1000000; omega), _, rfl, ?_⟩
        refine fin _ _ _ ⟨by simp only [List.length_append, List.length_take, List.length_drop, List.length_cons, List.length_nil]; omega, fun x hx => ?_⟩
        rcases List.mem_append.mp hx with hx | hx
        · rcases List.mem_append.mp hx with hx | hx
          · exact old x (mt hx)
          · rw [List.mem_singleton.mp hx]; exact he2
        · exact old x (md hx)
      · refine (ih (n := n - 1) (xs := xs.drop 4) (S := S) (by omega) (hdv d hdm) (by rw [List.length_drop]; omega) (by rw [List.length_drop]; omega)).mono ?_
        rintro e T ⟨rfl, he⟩
        try simp only [we_var, we_cn, we_cb, we_ci, we_cs, we_glob, we_tup, we_lst, we_newc, we_op, we_isN, we_notN, we_neg, we_nt, we_and, we_or, we_chain, we_ite, we_call, we_calll, we_b1, we_b2, we_isi, we_ix, we_sl, we_lc, we_lrng, we_olen, we_oix, we_inD, we_getD, we_calld, we_osl, we_rev, we_isB, we_cnew, we_clen, we_cpop, we_cnil, wl_nil, wl_cons, wr_it, wr_rng, wr_enum, wr_zip, ws_set, ws_own, ws_frz, ws_unp, ws_unp2, ws_par, ws_app, ws_oset, ws_cset, ws_ifs, ws_fors, ws_whil, ws_ret, ws_retn, ws_brk, ws_cnt, ws_pas, ws_expr, wb_nil, wb_cons, thn_nx, thn_rt, thn_bk, thn_ct, fin_nx, fin_rt, turn_nx, turn_ct, turn_bk, turn_rt, List.set_cons_zero, List.set_cons_succ, List.set_nil, List.getElem?_cons_zero, List.getElem?_cons_succ, Option.some.injEq, Sl.v.injEq, Sl.o.injEq, D.bl.injEq, D.int.injEq, D.str.injEq, D.tup.injEq, D.lst.injEq, D.cell.injEq, D.fn.injEq, exists_eq_left, exists_eq_left', exists_eq_right, List.length_cons, List.length_nil, Nat.reduceAdd, Nat.reduceSub, List.replicate_succ, List.replicate_zero, List.map_cons, List.map_nil, List.cons_append, List.nil_append, List.append_nil, true_and, and_true, false_and, and_false, forall_const, Bool.true_eq_false, Bool.false_eq_true, Bool.not_true, Bool.not_false, setMany, asg, Tg.slots, wipeE, optI, testOf, ne_eq, not_true_eq_false, not_false_eq_true, exists_const, reduceCtorEq, false_or, or_false, true_or, or_true, exists_false, Int.reduceLT, Int.reduceLE, Int.reduceNeg, Int.reduceAdd, Int.reduceSub, decide_true, decide_false, Bool.and_true, Bool.true_and, Bool.and_false, Bool.false_and, Bool.or_true, Bool.true_or, Bool.or_false, Bool.false_or, false_implies, true_implies, if_true, if_false, ite_true, ite_false, implies_true, envOf, op_add, op_addT, op_addL, op_sub, op_mul, op_fdiv, op_mod, op_lt, op_le, op_gt, op_ge, op_eqI, op_neI, op_eqS, op_neS, len_tup, len_lst, len_rol, abs_int, max2, min2, int_int, int_bl, nn_non, nn_int, nn_bl, nn_str, nn_tup, nn_lst, ix_tup, ix_lst, ix_rol, ix_cell, op_inS2, sl_tup, sl_lst, items_tup, items_lst, atI_0, atI_1, atI_2, cutD_1, cutD_from1, cutD_to, p10_6, p10_7, p10_8, p10_9, p10_10, p10_11, p10_12, sum_ints, all_bls, any_bls, eqb_ints, eqb_nilL, isin_ints, enum_lst, cmp_int, cmp_non, cmp_str, cmp_dInts, cmp_nilL, it_int_non, it_int_bl, it_int_int, it_int_str, it_int_tup, it_int_lst, it_int_rol, it_bool_non, it_bool_bl, it_bool_int, it_bool_str, it_bool_tup, it_bool_lst, it_bool_rol, it_str_non, it_str_bl, it_str_int, it_str_str, it_str_tup, it_str_lst, it_str_rol, it_tuple_non, it_tuple_bl, it_tuple_int, it_tuple_str, it_tuple_tup, it_tuple_lst, it_tuple_rol, it_list_non, it_list_bl, it_list_int, it_list_str, it_list_tup, it_list_lst, it_list_rol]
        have he2 : vbs (w + 1) (k + 3) e = true := he
        refine ⟨m, by unfold L2.ixN; simp; omega, fin _ _ _ ⟨by rw [List.length_set]; omega, fun x hx => ?_⟩⟩
        rcases List.mem_or_eq_of_mem_set hx with hx | rfl
        · exact old x hx
        · exact he2
      · refine fin _ _ _ ⟨by omega, old⟩
theorem lk_vbs {l : Lk} : vbs 4 1 l.d = true := by unfold Lk.d; split <;> rfl
theorem fr_vbs {M : Int} : ∀ f : Fr, f.ok M → vbs 7 f.dep f.d = true := by
  refine Fr.ind (fun l h => vbs_mono (by decide) (lk_vbs (l := l)) _ (Nat.le_refl _)) (fun r ps ih h => ?_)
  simp only [Fr.ok, Fr.oks_iff] at h
  rw [Fr.d, Fr.ds_eq, Fr.dep]
  simp only [vbs, Bool.and_eq_true, decide_eq_true_eq, List.all_eq_true, List.length_cons, List.length_map]
  refine ⟨by omega, fun x hx => ?_⟩
  rcases List.mem_cons.mp hx with rfl | hx
  · cases Fr.deps ps <;> rfl
  · obtain ⟨p, hp, rfl⟩ := List.mem_map.mp hx
    exact vbs_mono (Nat.le_refl _) (ih p hp (h.2.2 p hp)) _ (Fr.dep_le hp)
end MP

/-! K01: the law. -/
namespace MP
open PySem
theorem rep_b1 {b : Bool} : bi1 .repr (.bl b) = some (.str (if b then "True" else "False")) := by cases b <;> rfl
def dpf : Nat → Fr
  | 0 => .leaf ⟨.bar, 0, 0⟩
  | k + 1 => .jt true [dpf k, .leaf ⟨.cable, 1000000000, 1000000000⟩]
def six : Fr := .jt false [.leaf ⟨.bar, 1, 1⟩, .leaf ⟨.bar, 1, 1⟩, .leaf ⟨.bar, 1, 1⟩, .leaf ⟨.bar, 1, 1⟩, .leaf ⟨.bar, 1, 1⟩, .leaf ⟨.bar, 1, 1⟩]
theorem law_k01 {n : Nat} (hn : 40 ≤ n) (ns : List Int) : WC (ec gv pr n) F.law_k01 [.rol (ns.map .int)] [] fun d _ => d = .bl true := by
  rw [wc_def' (by omega) pr_law_k01 rfl]
  simp only [fd_law_k01, we_var, we_cn, we_cb, we_ci, we_cs, we_glob, we_tup, we_lst, we_newc, we_op, we_isN, we_notN, we_neg, we_nt, we_and, we_or, we_chain, we_ite, we_call, we_calll, we_b1, we_b2, we_isi, we_ix, we_sl, we_lc, we_lrng, we_olen, we_oix, we_inD, we_getD, we_calld, we_osl, we_rev, we_isB, we_cnew, we_clen, we_cpop, we_cnil, wl_nil, wl_cons, wr_it, wr_rng, wr_enum, wr_zip, ws_set, ws_own, ws_frz, ws_unp, ws_unp2, ws_par, ws_app, ws_oset, ws_cset, ws_ifs, ws_fors, ws_whil, ws_ret, ws_retn, ws_brk, ws_cnt, ws_pas, ws_expr, wb_nil, wb_cons, thn_nx, thn_rt, thn_bk, thn_ct, fin_nx, fin_rt, turn_nx, turn_ct, turn_bk, turn_rt, List.set_cons_zero, List.set_cons_succ, List.set_nil, List.getElem?_cons_zero, List.getElem?_cons_succ, Option.some.injEq, Sl.v.injEq, Sl.o.injEq, D.bl.injEq, D.int.injEq, D.str.injEq, D.tup.injEq, D.lst.injEq, D.cell.injEq, D.fn.injEq, exists_eq_left, exists_eq_left', exists_eq_right, List.length_cons, List.length_nil, Nat.reduceAdd, Nat.reduceSub, List.replicate_succ, List.replicate_zero, List.map_cons, List.map_nil, List.cons_append, List.nil_append, List.append_nil, true_and, and_true, false_and, and_false, forall_const, Bool.true_eq_false, Bool.false_eq_true, Bool.not_true, Bool.not_false, setMany, asg, Tg.slots, wipeE, optI, testOf, ne_eq, not_true_eq_false, not_false_eq_true, exists_const, reduceCtorEq, false_or, or_false, true_or, or_true, exists_false, Int.reduceLT, Int.reduceLE, Int.reduceNeg, Int.reduceAdd, Int.reduceSub, decide_true, decide_false, Bool.and_true, Bool.true_and, Bool.and_false, Bool.false_and, Bool.or_true, Bool.true_or, Bool.or_false, Bool.false_or, false_implies, true_implies, if_true, if_false, ite_true, ite_false, implies_true, envOf, op_add, op_addT, op_addL, op_sub, op_mul, op_fdiv, op_mod, op_lt, op_le, op_gt, op_ge, op_eqI, op_neI, op_eqS, op_neS, len_tup, len_lst, len_rol, abs_int, max2, min2, int_int, int_bl, nn_non, nn_int, nn_bl, nn_str, nn_tup, nn_lst, ix_tup, ix_lst, ix_rol, ix_cell, op_inS2, sl_tup, sl_lst, items_tup, items_lst, atI_0, atI_1, atI_2, cutD_1, cutD_from1, cutD_to, p10_6, p10_7, p10_8, p10_9, p10_10, p10_11, p10_12, sum_ints, all_bls, any_bls, eqb_ints, eqb_nilL, isin_ints, enum_lst, cmp_int, cmp_non, cmp_str, cmp_dInts, cmp_nilL, it_int_non, it_int_bl, it_int_int, it_int_str, it_int_tup, it_int_lst, it_int_rol, it_bool_non, it_bool_bl, it_bool_int, it_bool_str, it_bool_tup, it_bool_lst, it_bool_rol, it_str_non, it_str_bl, it_str_int, it_str_str, it_str_tup, it_str_lst, it_str_rol, it_tuple_non, it_tuple_bl, it_tuple_int, it_tuple_str, it_tuple_tup, it_tuple_lst, it_tuple_rol, it_list_non, it_list_bl, it_list_int, it_list_str, it_list_tup, it_list_lst, it_list_rol]
  refine (sp_bags (by omega) (by decide) (by decide)).mono ?_
  rintro d S1 ⟨m, hm, rfl, hB⟩
  simp only [we_var, we_cn, we_cb, we_ci, we_cs, we_glob, we_tup, we_lst, we_newc, we_op, we_isN, we_notN, we_neg, we_nt, we_and, we_or, we_chain, we_ite, we_call, we_calll, we_b1, we_b2, we_isi, we_ix, we_sl, we_lc, we_lrng, we_olen, we_oix, we_inD, we_getD, we_calld, we_osl, we_rev, we_isB, we_cnew, we_clen, we_cpop, we_cnil, wl_nil, wl_cons, wr_it, wr_rng, wr_enum, wr_zip, ws_set, ws_own, ws_frz, ws_unp, ws_unp2, ws_par, ws_app, ws_oset, ws_cset, ws_ifs, ws_fors, ws_whil, ws_ret, ws_retn, ws_brk, ws_cnt, ws_pas, ws_expr, wb_nil, wb_cons, thn_nx, thn_rt, thn_bk, thn_ct, fin_nx, fin_rt, turn_nx, turn_ct, turn_bk, turn_rt, List.set_cons_zero, List.set_cons_succ, List.set_nil, List.getElem?_cons_zero, List.getElem?_cons_succ, Option.some.injEq, Sl.v.injEq, Sl.o.injEq, D.bl.injEq, D.int.injEq, D.str.injEq, D.tup.injEq, D.lst.injEq, D.cell.injEq, D.fn.injEq, exists_eq_left, exists_eq_left', exists_eq_right, List.length_cons, List.length_nil, Nat.reduceAdd, Nat.reduceSub, List.replicate_succ, List.replicate_zero, List.map_cons, List.map_nil, List.cons_append, List.nil_append, List.append_nil, true_and, and_true, false_and, and_false, forall_const, Bool.true_eq_false, Bool.false_eq_true, Bool.not_true, Bool.not_false, setMany, asg, Tg.slots, wipeE, optI, testOf, ne_eq, not_true_eq_false, not_false_eq_true, exists_const, reduceCtorEq, false_or, or_false, true_or, or_true, exists_false, Int.reduceLT, Int.reduceLE, Int.reduceNeg, Int.reduceAdd, Int.reduceSub, decide_true, decide_false, Bool.and_true, Bool.true_and, Bool.and_false, Bool.false_and, Bool.or_true, Bool.true_or, Bool.or_false, Bool.false_or, false_implies, true_implies, if_true, if_false, ite_true, ite_false, implies_true, envOf, op_add, op_addT, op_addL, op_sub, op_mul, op_fdiv, op_mod, op_lt, op_le, op_gt, op_ge, op_eqI, op_neI, op_eqS, op_neS, len_tup, len_lst, len_rol, abs_int, max2, min2, int_int, int_bl, nn_non, nn_int, nn_bl, nn_str, nn_tup, nn_lst, ix_tup, ix_lst, ix_rol, ix_cell, op_inS2, sl_tup, sl_lst, items_tup, items_lst, atI_0, atI_1, atI_2, cutD_1, cutD_from1, cutD_to, p10_6, p10_7, p10_8, p10_9, p10_10, p10_11, p10_12, sum_ints, all_bls, any_bls, eqb_ints, eqb_nilL, isin_ints, enum_lst, cmp_int, cmp_non, cmp_str, cmp_dInts, cmp_nilL, it_int_non, it_int_bl, it_int_int, it_int_str, it_int_tup, it_int_lst, it_int_rol, it_bool_non, it_bool_bl, it_bool_int, it_bool_str, it_bool_tup, it_bool_lst, it_bool_rol, it_str_non, it_str_bl, it_str_int, it_str_str, it_str_tup, it_str_lst, it_str_rol, it_tuple_non, it_tuple_bl, it_tuple_int, it_tuple_str, it_tuple_tup, it_tuple_lst, it_tuple_rol, it_list_non, it_list_bl, it_list_int, it_list_str, it_list_tup, it_list_lst, it_list_rol]
  refine wf_range _ _ (fun k δ T => Bgs m T ∧ ∃ x1 x2 x3 x4 x5 x8, δ = [.v (.rol (ns.map .int)), x1, x2, x3, x4, x5, .no, .no, x8]) ⟨hB, _, _, _, _, _, _, rfl⟩ ?_ ?_
  · rintro c hc δ T ⟨hB1, x1, x2, x3, x4, x5, x8, rfl⟩
    refine ⟨_, rfl, ?_⟩
    simp only [we_var, we_cn, we_cb, we_ci, we_cs, we_glob, we_tup, we_lst, we_newc, we_op, we_isN, we_notN, we_neg, we_nt, we_and, we_or, we_chain, we_ite, we_call, we_calll, we_b1, we_b2, we_isi, we_ix, we_sl, we_lc, we_lrng, we_olen, we_oix, we_inD, we_getD, we_calld, we_osl, we_rev, we_isB, we_cnew, we_clen, we_cpop, we_cnil, wl_nil, wl_cons, wr_it, wr_rng, wr_enum, wr_zip, ws_set, ws_own, ws_frz, ws_unp, ws_unp2, ws_par, ws_app, ws_oset, ws_cset, ws_ifs, ws_fors, ws_whil, ws_ret, ws_retn, ws_brk, ws_cnt, ws_pas, ws_expr, wb_nil, wb_cons, thn_nx, thn_rt, thn_bk, thn_ct, fin_nx, fin_rt, turn_nx, turn_ct, turn_bk, turn_rt, List.set_cons_zero, List.set_cons_succ, List.set_nil, List.getElem?_cons_zero, List.getElem?_cons_succ, Option.some.injEq, Sl.v.injEq, Sl.o.injEq, D.bl.injEq, D.int.injEq, D.str.injEq, D.tup.injEq, D.lst.injEq, D.cell.injEq, D.fn.injEq, exists_eq_left, exists_eq_left', exists_eq_right, List.length_cons, List.length_nil, Nat.reduceAdd, Nat.reduceSub, List.replicate_succ, List.replicate_zero, List.map_cons, List.map_nil, List.cons_append, List.nil_append, List.append_nil, true_and, and_true, false_and, and_false, forall_const, Bool.true_eq_false, Bool.false_eq_true, Bool.not_true, Bool.not_false, setMany, asg, Tg.slots, wipeE, optI, testOf, ne_eq, not_true_eq_false, not_false_eq_true, exists_const, reduceCtorEq, false_or, or_false, true_or, or_true, exists_false, Int.reduceLT, Int.reduceLE, Int.reduceNeg, Int.reduceAdd, Int.reduceSub, decide_true, decide_false, Bool.and_true, Bool.true_and, Bool.and_false, Bool.false_and, Bool.or_true, Bool.true_or, Bool.or_false, Bool.false_or, false_implies, true_implies, if_true, if_false, ite_true, ite_false, implies_true, envOf, op_add, op_addT, op_addL, op_sub, op_mul, op_fdiv, op_mod, op_lt, op_le, op_gt, op_ge, op_eqI, op_neI, op_eqS, op_neS, len_tup, len_lst, len_rol, abs_int, max2, min2, int_int, int_bl, nn_non, nn_int, nn_bl, nn_str, nn_tup, nn_lst, ix_tup, ix_lst, ix_rol, ix_cell, op_inS2, sl_tup, sl_lst, items_tup, items_lst, atI_0, atI_1, atI_2, cutD_1, cutD_from1, cutD_to, p10_6, p10_7, p10_8, p10_9, p10_10, p10_11, p10_12, sum_ints, all_bls, any_bls, eqb_ints, eqb_nilL, isin_ints, enum_lst, cmp_int, cmp_non, cmp_str, cmp_dInts, cmp_nilL, it_int_non, it_int_bl, it_int_int, it_int_str, it_int_tup, it_int_lst, it_int_rol, it_bool_non, it_bool_bl, it_bool_int, it_bool_str, it_bool_tup, it_bool_lst, it_bool_rol, it_str_non, it_str_bl, it_str_int, it_str_str, it_str_tup, it_str_lst, it_str_rol, it_tuple_non, it_tuple_bl, it_tuple_int, it_tuple_str, it_tuple_tup, it_tuple_lst, it_tuple_rol, it_list_non, it_list_bl, it_list_int, it_list_str, it_list_tup, it_list_lst, it_list_rol]
    refine (sp_take (by omega) hB1 hc (by decide)).mono ?_
    rintro d S3 ⟨hB3, v, rfl, hv0, hv1⟩
    obtain ⟨x, hx, hmx⟩ := at_lt [D.int 9, D.int 1000000000] hv0 (by simpa using hv1)
    obtain ⟨w, rfl, hw0, hw5⟩ : ∃ w : Int, x = .int w ∧ 0 ≤ w ∧ w ≤ 1000000000 := by
      simp only [List.mem_cons, List.not_mem_nil, or_false] at hmx
      rcases hmx with rfl | rfl <;> exact ⟨_, rfl, by decide, by decide⟩
    simp only [we_var, we_cn, we_cb, we_ci, we_cs, we_glob, we_tup, we_lst, we_newc, we_op, we_isN, we_notN, we_neg, we_nt, we_and, we_or, we_chain, we_ite, we_call, we_calll, we_b1, we_b2, we_isi, we_ix, we_sl, we_lc, we_lrng, we_olen, we_oix, we_inD, we_getD, we_calld, we_osl, we_rev, we_isB, we_cnew, we_clen, we_cpop, we_cnil, wl_nil, wl_cons, wr_it, wr_rng, wr_enum, wr_zip, ws_set, ws_own, ws_frz, ws_unp, ws_unp2, ws_par, ws_app, ws_oset, ws_cset, ws_ifs, ws_fors, ws_whil, ws_ret, ws_retn, ws_brk, ws_cnt, ws_pas, ws_expr, wb_nil, wb_cons, thn_nx, thn_rt, thn_bk, thn_ct, fin_nx, fin_rt, turn_nx, turn_ct, turn_bk, turn_rt, List.set_cons_zero, List.set_cons_succ, List.set_nil, List.getElem?_cons_zero, List.getElem?_cons_succ, Option.some.injEq, Sl.v.injEq, Sl.o.injEq, D.bl.injEq, D.int.injEq, D.str.injEq, D.tup.injEq, D.lst.injEq, D.cell.injEq, D.fn.injEq, exists_eq_left, exists_eq_left', exists_eq_right, List.length_cons, List.length_nil, Nat.reduceAdd, Nat.reduceSub, List.replicate_succ, List.replicate_zero, List.map_cons, List.map_nil, List.cons_append, List.nil_append, List.append_nil, true_and, and_true, false_and, and_false, forall_const, Bool.true_eq_false, Bool.false_eq_true, Bool.not_true, Bool.not_false, setMany, asg, Tg.slots, wipeE, optI, testOf, ne_eq, not_true_eq_false, not_false_eq_true, exists_const, reduceCtorEq, false_or, or_false, true_or, or_true, exists_false, Int.reduceLT, Int.reduceLE, Int.reduceNeg, Int.reduceAdd, Int.reduceSub, decide_true, decide_false, Bool.and_true, Bool.true_and, Bool.and_false, Bool.false_and, Bool.or_true, Bool.true_or, Bool.or_false, Bool.false_or, false_implies, true_implies, if_true, if_false, ite_true, ite_false, implies_true, envOf, op_add, op_addT, op_addL, op_sub, op_mul, op_fdiv, op_mod, op_lt, op_le, op_gt, op_ge, op_eqI, op_neI, op_eqS, op_neS, len_tup, len_lst, len_rol, abs_int, max2, min2, int_int, int_bl, nn_non, nn_int, nn_bl, nn_str, nn_tup, nn_lst, ix_tup, ix_lst, ix_rol, ix_cell, op_inS2, sl_tup, sl_lst, items_tup, items_lst, atI_0, atI_1, atI_2, cutD_1, cutD_from1, cutD_to, p10_6, p10_7, p10_8, p10_9, p10_10, p10_11, p10_12, sum_ints, all_bls, any_bls, eqb_ints, eqb_nilL, isin_ints, enum_lst, cmp_int, cmp_non, cmp_str, cmp_dInts, cmp_nilL, it_int_non, it_int_bl, it_int_int, it_int_str, it_int_tup, it_int_lst, it_int_rol, it_bool_non, it_bool_bl, it_bool_int, it_bool_str, it_bool_tup, it_bool_lst, it_bool_rol, it_str_non, it_str_bl, it_str_int, it_str_str, it_str_tup, it_str_lst, it_str_rol, it_tuple_non, it_tuple_bl, it_tuple_int, it_tuple_str, it_tuple_tup, it_tuple_lst, it_tuple_rol, it_list_non, it_list_bl, it_list_int, it_list_str, it_list_tup, it_list_lst, it_list_rol, hx]
    refine (sp_frame hw0 (by omega) hc 4 (by omega) (by decide) (by decide) (by decide) hB3).mono ?_
    rintro d S4 ⟨hB4, f, rfl, hok, hdep, hlks⟩
    have hdep2 : f.dep ≤ 4 := by omega
    have hvf : vbs 7 4 f.d = true := vbs_mono (Nat.le_refl _) (fr_vbs f hok) _ hdep2
    try simp only [we_var, we_cn, we_cb, we_ci, we_cs, we_glob, we_tup, we_lst, we_newc, we_op, we_isN, we_notN, we_neg, we_nt, we_and, we_or, we_chain, we_ite, we_call, we_calll, we_b1, we_b2, we_isi, we_ix, we_sl, we_lc, we_lrng, we_olen, we_oix, we_inD, we_getD, we_calld, we_osl, we_rev, we_isB, we_cnew, we_clen, we_cpop, we_cnil, wl_nil, wl_cons, wr_it, wr_rng, wr_enum, wr_zip, ws_set, ws_own, ws_frz, ws_unp, ws_unp2, ws_par, ws_app, ws_oset, ws_cset, ws_ifs, ws_fors, ws_whil, ws_ret, ws_retn, ws_brk, ws_cnt, ws_pas, ws_expr, wb_nil, wb_cons, thn_nx, thn_rt, thn_bk, thn_ct, fin_nx, fin_rt, turn_nx, turn_ct, turn_bk, turn_rt, List.set_cons_zero, List.set_cons_succ, List.set_nil, List.getElem?_cons_zero, List.getElem?_cons_succ, Option.some.injEq, Sl.v.injEq, Sl.o.injEq, D.bl.injEq, D.int.injEq, D.str.injEq, D.tup.injEq, D.lst.injEq, D.cell.injEq, D.fn.injEq, exists_eq_left, exists_eq_left', exists_eq_right, List.length_cons, List.length_nil, Nat.reduceAdd, Nat.reduceSub, List.replicate_succ, List.replicate_zero, List.map_cons, List.map_nil, List.cons_append, List.nil_append, List.append_nil, true_and, and_true, false_and, and_false, forall_const, Bool.true_eq_false, Bool.false_eq_true, Bool.not_true, Bool.not_false, setMany, asg, Tg.slots, wipeE, optI, testOf, ne_eq, not_true_eq_false, not_false_eq_true, exists_const, reduceCtorEq, false_or, or_false, true_or, or_true, exists_false, Int.reduceLT, Int.reduceLE, Int.reduceNeg, Int.reduceAdd, Int.reduceSub, decide_true, decide_false, Bool.and_true, Bool.true_and, Bool.and_false, Bool.false_and, Bool.or_true, Bool.true_or, Bool.or_false, Bool.false_or, false_implies, true_implies, if_true, if_false, ite_true, ite_false, implies_true, envOf, op_add, op_addT, op_addL, op_sub, op_mul, op_fdiv, op_mod, op_lt, op_le, op_gt, op_ge, op_eqI, op_neI, op_eqS, op_neS, len_tup, len_lst, len_rol, abs_int, max2, min2, int_int, int_bl, nn_non, nn_int, nn_bl, nn_str, nn_tup, nn_lst, ix_tup, ix_lst, ix_rol, ix_cell, op_inS2, sl_tup, sl_lst, items_tup, items_lst, atI_0, atI_1, atI_2, cutD_1, cutD_from1, cutD_to, p10_6, p10_7, p10_8, p10_9, p10_10, p10_11, p10_12, sum_ints, all_bls, any_bls, eqb_ints, eqb_nilL, isin_ints, enum_lst, cmp_int, cmp_non, cmp_str, cmp_dInts, cmp_nilL, it_int_non, it_int_bl, it_int_int, it_int_str, it_int_tup, it_int_lst, it_int_rol, it_bool_non, it_bool_bl, it_bool_int, it_bool_str, it_bool_tup, it_bool_lst, it_bool_rol, it_str_non, it_str_bl, it_str_int, it_str_str, it_str_tup, it_str_lst, it_str_rol, it_tuple_non, it_tuple_bl, it_tuple_int, it_tuple_str, it_tuple_tup, it_tuple_lst, it_tuple_rol, it_list_non, it_list_bl, it_list_int, it_list_str, it_list_tup, it_list_lst, it_list_rol]
    rw [range_1 (by decide) (by decide)]
    refine ⟨_, rfl, ?_⟩
    refine wf_range _ _ (fun k δ T => Bgs m T ∧ ∃ x3 x4 x5 x8, δ = [.v (.rol (ns.map .int)), .v (.cell c), .v f.d, x3, x4, x5, .no, .no, x8]) ⟨hB4, _, _, _, _, rfl⟩ ?_ ?_
    · rintro t ht δ T5 ⟨hB5, x3, x4, x5, x8, rfl⟩
      refine ⟨_, rfl, ?_⟩
      simp only [we_var, we_cn, we_cb, we_ci, we_cs, we_glob, we_tup, we_lst, we_newc, we_op, we_isN, we_notN, we_neg, we_nt, we_and, we_or, we_chain, we_ite, we_call, we_calll, we_b1, we_b2, we_isi, we_ix, we_sl, we_lc, we_lrng, we_olen, we_oix, we_inD, we_getD, we_calld, we_osl, we_rev, we_isB, we_cnew, we_clen, we_cpop, we_cnil, wl_nil, wl_cons, wr_it, wr_rng, wr_enum, wr_zip, ws_set, ws_own, ws_frz, ws_unp, ws_unp2, ws_par, ws_app, ws_oset, ws_cset, ws_ifs, ws_fors, ws_whil, ws_ret, ws_retn, ws_brk, ws_cnt, ws_pas, ws_expr, wb_nil, wb_cons, thn_nx, thn_rt, thn_bk, thn_ct, fin_nx, fin_rt, turn_nx, turn_ct, turn_bk, turn_rt, List.set_cons_zero, List.set_cons_succ, List.set_nil, List.getElem?_cons_zero, List.getElem?_cons_succ, Option.some.injEq, Sl.v.injEq, Sl.o.injEq, D.bl.injEq, D.int.injEq, D.str.injEq, D.tup.injEq, D.lst.injEq, D.cell.injEq, D.fn.injEq, exists_eq_left, exists_eq_left', exists_eq_right, List.length_cons, List.length_nil, Nat.reduceAdd, Nat.reduceSub, List.replicate_succ, List.replicate_zero, List.map_cons, List.map_nil, List.cons_append, List.nil_append, List.append_nil, true_and, and_true, false_and, and_false, forall_const, Bool.true_eq_false, Bool.false_eq_true, Bool.not_true, Bool.not_false, setMany, asg, Tg.slots, wipeE, optI, testOf, ne_eq, not_true_eq_false, not_false_eq_true, exists_const, reduceCtorEq, false_or, or_false, true_or, or_true, exists_false, Int.reduceLT, Int.reduceLE, Int.reduceNeg, Int.reduceAdd, Int.reduceSub, decide_true, decide_false, Bool.and_true, Bool.true_and, Bool.and_false, Bool.false_and, Bool.or_true, Bool.true_or, Bool.or_false, Bool.false_or, false_implies, true_implies, if_true, if_false, ite_true, ite_false, implies_true, envOf, op_add, op_addT, op_addL, op_sub, op_mul, op_fdiv, op_mod, op_lt, op_le, op_gt, op_ge, op_eqI, op_neI, op_eqS, op_neS, len_tup, len_lst, len_rol, abs_int, max2, min2, int_int, int_bl, nn_non, nn_int, nn_bl, nn_str, nn_tup, nn_lst, ix_tup, ix_lst, ix_rol, ix_cell, op_inS2, sl_tup, sl_lst, items_tup, items_lst, atI_0, atI_1, atI_2, cutD_1, cutD_from1, cutD_to, p10_6, p10_7, p10_8, p10_9, p10_10, p10_11, p10_12, sum_ints, all_bls, any_bls, eqb_ints, eqb_nilL, isin_ints, enum_lst, cmp_int, cmp_non, cmp_str, cmp_dInts, cmp_nilL, it_int_non, it_int_bl, it_int_int, it_int_str, it_int_tup, it_int_lst, it_int_rol, it_bool_non, it_bool_bl, it_bool_int, it_bool_str, it_bool_tup, it_bool_lst, it_bool_rol, it_str_non, it_str_bl, it_str_int, it_str_str, it_str_tup, it_str_lst, it_str_rol, it_tuple_non, it_tuple_bl, it_tuple_int, it_tuple_str, it_tuple_tup, it_tuple_lst, it_tuple_rol, it_list_non, it_list_bl, it_list_int, it_list_str, it_list_tup, it_list_lst, it_list_rol]
      rw [range_1 (by decide) (by decide)]
      refine ⟨_, rfl, ?_⟩
      refine wg_inv (fun T pre => Bgs m T ∧ ∃ xs : List Int, pre = xs.map D.int) (pre := []) ⟨hB5, [], rfl⟩ ?_ ?_
      · rintro d hd S pre ⟨hBx, xs, rfl⟩
        refine ⟨_, rfl, ?_⟩
        simp only [we_var, we_cn, we_cb, we_ci, we_cs, we_glob, we_tup, we_lst, we_newc, we_op, we_isN, we_notN, we_neg, we_nt, we_and, we_or, we_chain, we_ite, we_call, we_calll, we_b1, we_b2, we_isi, we_ix, we_sl, we_lc, we_lrng, we_olen, we_oix, we_inD, we_getD, we_calld, we_osl, we_rev, we_isB, we_cnew, we_clen, we_cpop, we_cnil, wl_nil, wl_cons, wr_it, wr_rng, wr_enum, wr_zip, ws_set, ws_own, ws_frz, ws_unp, ws_unp2, ws_par, ws_app, ws_oset, ws_cset, ws_ifs, ws_fors, ws_whil, ws_ret, ws_retn, ws_brk, ws_cnt, ws_pas, ws_expr, wb_nil, wb_cons, thn_nx, thn_rt, thn_bk, thn_ct, fin_nx, fin_rt, turn_nx, turn_ct, turn_bk, turn_rt, List.set_cons_zero, List.set_cons_succ, List.set_nil, List.getElem?_cons_zero, List.getElem?_cons_succ, Option.some.injEq, Sl.v.injEq, Sl.o.injEq, D.bl.injEq, D.int.injEq, D.str.injEq, D.tup.injEq, D.lst.injEq, D.cell.injEq, D.fn.injEq, exists_eq_left, exists_eq_left', exists_eq_right, List.length_cons, List.length_nil, Nat.reduceAdd, Nat.reduceSub, List.replicate_succ, List.replicate_zero, List.map_cons, List.map_nil, List.cons_append, List.nil_append, List.append_nil, true_and, and_true, false_and, and_false, forall_const, Bool.true_eq_false, Bool.false_eq_true, Bool.not_true, Bool.not_false, setMany, asg, Tg.slots, wipeE, optI, testOf, ne_eq, not_true_eq_false, not_false_eq_true, exists_const, reduceCtorEq, false_or, or_false, true_or, or_true, exists_false, Int.reduceLT, Int.reduceLE, Int.reduceNeg, Int.reduceAdd, Int.reduceSub, decide_true, decide_false, Bool.and_true, Bool.true_and, Bool.and_false, Bool.false_and, Bool.or_true, Bool.true_or, Bool.or_false, Bool.false_or, false_implies, true_implies, if_true, if_false, ite_true, ite_false, implies_true, envOf, op_add, op_addT, op_addL, op_sub, op_mul, op_fdiv, op_mod, op_lt, op_le, op_gt, op_ge, op_eqI, op_neI, op_eqS, op_neS, len_tup, len_lst, len_rol, abs_int, max2, min2, int_int, int_bl, nn_non, nn_int, nn_bl, nn_str, nn_tup, nn_lst, ix_tup, ix_lst, ix_rol, ix_cell, op_inS2, sl_tup, sl_lst, items_tup, items_lst, atI_0, atI_1, atI_2, cutD_1, cutD_from1, cutD_to, p10_6, p10_7, p10_8, p10_9, p10_10, p10_11, p10_12, sum_ints, all_bls, any_bls, eqb_ints, eqb_nilL, isin_ints, enum_lst, cmp_int, cmp_non, cmp_str, cmp_dInts, cmp_nilL, it_int_non, it_int_bl, it_int_int, it_int_str, it_int_tup, it_int_lst, it_int_rol, it_bool_non, it_bool_bl, it_bool_int, it_bool_str, it_bool_tup, it_bool_lst, it_bool_rol, it_str_non, it_str_bl, it_str_int, it_str_str, it_str_tup, it_str_lst, it_str_rol, it_tuple_non, it_tuple_bl, it_tuple_int, it_tuple_str, it_tuple_tup, it_tuple_lst, it_tuple_rol, it_list_non, it_list_bl, it_list_int, it_list_str, it_list_tup, it_list_lst, it_list_rol]
        refine (sp_take (by omega) hBx hc (by decide)).mono ?_
        rintro d S8 ⟨hB8, p, rfl, _, _⟩
        exact ⟨hB8, xs ++ [p], by simp⟩
      · rintro S8 xs0 ⟨hB8, xs, e⟩ hl
        rw [List.nil_append] at e
        subst e
        have hxl : xs.length = 20 := by simpa using hl
        try simp only [we_var, we_cn, we_cb, we_ci, we_cs, we_glob, we_tup, we_lst, we_newc, we_op, we_isN, we_notN, we_neg, we_nt, we_and, we_or, we_chain, we_ite, we_call, we_calll, we_b1, we_b2, we_isi, we_ix, we_sl, we_lc, we_lrng, we_olen, we_oix, we_inD, we_getD, we_calld, we_osl, we_rev, we_isB, we_cnew, we_clen, we_cpop, we_cnil, wl_nil, wl_cons, wr_it, wr_rng, wr_enum, wr_zip, ws_set, ws_own, ws_frz, ws_unp, ws_unp2, ws_par, ws_app, ws_oset, ws_cset, ws_ifs, ws_fors, ws_whil, ws_ret, ws_retn, ws_brk, ws_cnt, ws_pas, ws_expr, wb_nil, wb_cons, thn_nx, thn_rt, thn_bk, thn_ct, fin_nx, fin_rt, turn_nx, turn_ct, turn_bk, turn_rt, List.set_cons_zero, List.set_cons_succ, List.set_nil, List.getElem?_cons_zero, List.getElem?_cons_succ, Option.some.injEq, Sl.v.injEq, Sl.o.injEq, D.bl.injEq, D.int.injEq, D.str.injEq, D.tup.injEq, D.lst.injEq, D.cell.injEq, D.fn.injEq, exists_eq_left, exists_eq_left', exists_eq_right, List.length_cons, List.length_nil, Nat.reduceAdd, Nat.reduceSub, List.replicate_succ, List.replicate_zero, List.map_cons, List.map_nil, List.cons_append, List.nil_append, List.append_nil, true_and, and_true, false_and, and_false, forall_const, Bool.true_eq_false, Bool.false_eq_true, Bool.not_true, Bool.not_false, setMany, asg, Tg.slots, wipeE, optI, testOf, ne_eq, not_true_eq_false, not_false_eq_true, exists_const, reduceCtorEq, false_or, or_false, true_or, or_true, exists_false, Int.reduceLT, Int.reduceLE, Int.reduceNeg, Int.reduceAdd, Int.reduceSub, decide_true, decide_false, Bool.and_true, Bool.true_and, Bool.and_false, Bool.false_and, Bool.or_true, Bool.true_or, Bool.or_false, Bool.false_or, false_implies, true_implies, if_true, if_false, ite_true, ite_false, implies_true, envOf, op_add, op_addT, op_addL, op_sub, op_mul, op_fdiv, op_mod, op_lt, op_le, op_gt, op_ge, op_eqI, op_neI, op_eqS, op_neS, len_tup, len_lst, len_rol, abs_int, max2, min2, int_int, int_bl, nn_non, nn_int, nn_bl, nn_str, nn_tup, nn_lst, ix_tup, ix_lst, ix_rol, ix_cell, op_inS2, sl_tup, sl_lst, items_tup, items_lst, atI_0, atI_1, atI_2, cutD_1, cutD_from1, cutD_to, p10_6, p10_7, p10_8, p10_9, p10_10, p10_11, p10_12, sum_ints, all_bls, any_bls, eqb_ints, eqb_nilL, isin_ints, enum_lst, cmp_int, cmp_non, cmp_str, cmp_dInts, cmp_nilL, it_int_non, it_int_bl, it_int_int, it_int_str, it_int_tup, it_int_lst, it_int_rol, it_bool_non, it_bool_bl, it_bool_int, it_bool_str, it_bool_tup, it_bool_lst, it_bool_rol, it_str_non, it_str_bl, it_str_int, it_str_str, it_str_tup, it_str_lst, it_str_rol, it_tuple_non, it_tuple_bl, it_tuple_int, it_tuple_str, it_tuple_tup, it_tuple_lst, it_tuple_rol, it_list_non, it_list_bl, it_list_int, it_list_str, it_list_tup, it_list_lst, it_list_rol]
        refine (sp_spoilt (w := 7) (by decide) (by decide) 4 (n := n - 1) (xs := xs) (S := S8) (by omega) hvf (by omega) (by omega)).mono ?_
        rintro d1 S9 ⟨rfl, hd1⟩
        try simp only [we_var, we_cn, we_cb, we_ci, we_cs, we_glob, we_tup, we_lst, we_newc, we_op, we_isN, we_notN, we_neg, we_nt, we_and, we_or, we_chain, we_ite, we_call, we_calll, we_b1, we_b2, we_isi, we_ix, we_sl, we_lc, we_lrng, we_olen, we_oix, we_inD, we_getD, we_calld, we_osl, we_rev, we_isB, we_cnew, we_clen, we_cpop, we_cnil, wl_nil, wl_cons, wr_it, wr_rng, wr_enum, wr_zip, ws_set, ws_own, ws_frz, ws_unp, ws_unp2, ws_par, ws_app, ws_oset, ws_cset, ws_ifs, ws_fors, ws_whil, ws_ret, ws_retn, ws_brk, ws_cnt, ws_pas, ws_expr, wb_nil, wb_cons, thn_nx, thn_rt, thn_bk, thn_ct, fin_nx, fin_rt, turn_nx, turn_ct, turn_bk, turn_rt, List.set_cons_zero, List.set_cons_succ, List.set_nil, List.getElem?_cons_zero, List.getElem?_cons_succ, Option.some.injEq, Sl.v.injEq, Sl.o.injEq, D.bl.injEq, D.int.injEq, D.str.injEq, D.tup.injEq, D.lst.injEq, D.cell.injEq, D.fn.injEq, exists_eq_left, exists_eq_left', exists_eq_right, List.length_cons, List.length_nil, Nat.reduceAdd, Nat.reduceSub, List.replicate_succ, List.replicate_zero, List.map_cons, List.map_nil, List.cons_append, List.nil_append, List.append_nil, true_and, and_true, false_and, and_false, forall_const, Bool.true_eq_false, Bool.false_eq_true, Bool.not_true, Bool.not_false, setMany, asg, Tg.slots, wipeE, optI, testOf, ne_eq, not_true_eq_false, not_false_eq_true, exists_const, reduceCtorEq, false_or, or_false, true_or, or_true, exists_false, Int.reduceLT, Int.reduceLE, Int.reduceNeg, Int.reduceAdd, Int.reduceSub, decide_true, decide_false, Bool.and_true, Bool.true_and, Bool.and_false, Bool.false_and, Bool.or_true, Bool.true_or, Bool.or_false, Bool.false_or, false_implies, true_implies, if_true, if_false, ite_true, ite_false, implies_true, envOf, op_add, op_addT, op_addL, op_sub, op_mul, op_fdiv, op_mod, op_lt, op_le, op_gt, op_ge, op_eqI, op_neI, op_eqS, op_neS, len_tup, len_lst, len_rol, abs_int, max2, min2, int_int, int_bl, nn_non, nn_int, nn_bl, nn_str, nn_tup, nn_lst, ix_tup, ix_lst, ix_rol, ix_cell, op_inS2, sl_tup, sl_lst, items_tup, items_lst, atI_0, atI_1, atI_2, cutD_1, cutD_from1, cutD_to, p10_6, p10_7, p10_8, p10_9, p10_10, p10_11, p10_12, sum_ints, all_bls, any_bls, eqb_ints, eqb_nilL, isin_ints, enum_lst, cmp_int, cmp_non, cmp_str, cmp_dInts, cmp_nilL, it_int_non, it_int_bl, it_int_int, it_int_str, it_int_tup, it_int_lst, it_int_rol, it_bool_non, it_bool_bl, it_bool_int, it_bool_str, it_bool_tup, it_bool_lst, it_bool_rol, it_str_non, it_str_bl, it_str_int, it_str_str, it_str_tup, it_str_lst, it_str_rol, it_tuple_non, it_tuple_bl, it_tuple_int, it_tuple_str, it_tuple_tup, it_tuple_lst, it_tuple_rol, it_list_non, it_list_bl, it_list_int, it_list_str, it_list_tup, it_list_lst, it_list_rol]
        refine (sp_odd (n := n - 1) (by omega) (xs := xs) (by omega) (S := S9)).mono ?_
        rintro d2 S10 ⟨rfl, hd2⟩
        try simp only [we_var, we_cn, we_cb, we_ci, we_cs, we_glob, we_tup, we_lst, we_newc, we_op, we_isN, we_notN, we_neg, we_nt, we_and, we_or, we_chain, we_ite, we_call, we_calll, we_b1, we_b2, we_isi, we_ix, we_sl, we_lc, we_lrng, we_olen, we_oix, we_inD, we_getD, we_calld, we_osl, we_rev, we_isB, we_cnew, we_clen, we_cpop, we_cnil, wl_nil, wl_cons, wr_it, wr_rng, wr_enum, wr_zip, ws_set, ws_own, ws_frz, ws_unp, ws_unp2, ws_par, ws_app, ws_oset, ws_cset, ws_ifs, ws_fors, ws_whil, ws_ret, ws_retn, ws_brk, ws_cnt, ws_pas, ws_expr, wb_nil, wb_cons, thn_nx, thn_rt, thn_bk, thn_ct, fin_nx, fin_rt, turn_nx, turn_ct, turn_bk, turn_rt, List.set_cons_zero, List.set_cons_succ, List.set_nil, List.getElem?_cons_zero, List.getElem?_cons_succ, Option.some.injEq, Sl.v.injEq, Sl.o.injEq, D.bl.injEq, D.int.injEq, D.str.injEq, D.tup.injEq, D.lst.injEq, D.cell.injEq, D.fn.injEq, exists_eq_left, exists_eq_left', exists_eq_right, List.length_cons, List.length_nil, Nat.reduceAdd, Nat.reduceSub, List.replicate_succ, List.replicate_zero, List.map_cons, List.map_nil, List.cons_append, List.nil_append, List.append_nil, true_and, and_true, false_and, and_false, forall_const, Bool.true_eq_false, Bool.false_eq_true, Bool.not_true, Bool.not_false, setMany, asg, Tg.slots, wipeE, optI, testOf, ne_eq, not_true_eq_false, not_false_eq_true, exists_const, reduceCtorEq, false_or, or_false, true_or, or_true, exists_false, Int.reduceLT, Int.reduceLE, Int.reduceNeg, Int.reduceAdd, Int.reduceSub, decide_true, decide_false, Bool.and_true, Bool.true_and, Bool.and_false, Bool.false_and, Bool.or_true, Bool.true_or, Bool.or_false, Bool.false_or, false_implies, true_implies, if_true, if_false, ite_true, ite_false, implies_true, envOf, op_add, op_addT, op_addL, op_sub, op_mul, op_fdiv, op_mod, op_lt, op_le, op_gt, op_ge, op_eqI, op_neI, op_eqS, op_neS, len_tup, len_lst, len_rol, abs_int, max2, min2, int_int, int_bl, nn_non, nn_int, nn_bl, nn_str, nn_tup, nn_lst, ix_tup, ix_lst, ix_rol, ix_cell, op_inS2, sl_tup, sl_lst, items_tup, items_lst, atI_0, atI_1, atI_2, cutD_1, cutD_from1, cutD_to, p10_6, p10_7, p10_8, p10_9, p10_10, p10_11, p10_12, sum_ints, all_bls, any_bls, eqb_ints, eqb_nilL, isin_ints, enum_lst, cmp_int, cmp_non, cmp_str, cmp_dInts, cmp_nilL, it_int_non, it_int_bl, it_int_int, it_int_str, it_int_tup, it_int_lst, it_int_rol, it_bool_non, it_bool_bl, it_bool_int, it_bool_str, it_bool_tup, it_bool_lst, it_bool_rol, it_str_non, it_str_bl, it_str_int, it_str_str, it_str_tup, it_str_lst, it_str_rol, it_tuple_non, it_tuple_bl, it_tuple_int, it_tuple_str, it_tuple_tup, it_tuple_lst, it_tuple_rol, it_list_non, it_list_bl, it_list_int, it_list_str, it_list_tup, it_list_lst, it_list_rol]
        refine (sp_odd (n := n - 1) (by omega) (xs := xs) (by omega) (S := S10)).mono ?_
        rintro d3 S11 ⟨rfl, hd3⟩
        try simp only [we_var, we_cn, we_cb, we_ci, we_cs, we_glob, we_tup, we_lst, we_newc, we_op, we_isN, we_notN, we_neg, we_nt, we_and, we_or, we_chain, we_ite, we_call, we_calll, we_b1, we_b2, we_isi, we_ix, we_sl, we_lc, we_lrng, we_olen, we_oix, we_inD, we_getD, we_calld, we_osl, we_rev, we_isB, we_cnew, we_clen, we_cpop, we_cnil, wl_nil, wl_cons, wr_it, wr_rng, wr_enum, wr_zip, ws_set, ws_own, ws_frz, ws_unp, ws_unp2, ws_par, ws_app, ws_oset, ws_cset, ws_ifs, ws_fors, ws_whil, ws_ret, ws_retn, ws_brk, ws_cnt, ws_pas, ws_expr, wb_nil, wb_cons, thn_nx, thn_rt, thn_bk, thn_ct, fin_nx, fin_rt, turn_nx, turn_ct, turn_bk, turn_rt, List.set_cons_zero, List.set_cons_succ, List.set_nil, List.getElem?_cons_zero, List.getElem?_cons_succ, Option.some.injEq, Sl.v.injEq, Sl.o.injEq, D.bl.injEq, D.int.injEq, D.str.injEq, D.tup.injEq, D.lst.injEq, D.cell.injEq, D.fn.injEq, exists_eq_left, exists_eq_left', exists_eq_right, List.length_cons, List.length_nil, Nat.reduceAdd, Nat.reduceSub, List.replicate_succ, List.replicate_zero, List.map_cons, List.map_nil, List.cons_append, List.nil_append, List.append_nil, true_and, and_true, false_and, and_false, forall_const, Bool.true_eq_false, Bool.false_eq_true, Bool.not_true, Bool.not_false, setMany, asg, Tg.slots, wipeE, optI, testOf, ne_eq, not_true_eq_false, not_false_eq_true, exists_const, reduceCtorEq, false_or, or_false, true_or, or_true, exists_false, Int.reduceLT, Int.reduceLE, Int.reduceNeg, Int.reduceAdd, Int.reduceSub, decide_true, decide_false, Bool.and_true, Bool.true_and, Bool.and_false, Bool.false_and, Bool.or_true, Bool.true_or, Bool.or_false, Bool.false_or, false_implies, true_implies, if_true, if_false, ite_true, ite_false, implies_true, envOf, op_add, op_addT, op_addL, op_sub, op_mul, op_fdiv, op_mod, op_lt, op_le, op_gt, op_ge, op_eqI, op_neI, op_eqS, op_neS, len_tup, len_lst, len_rol, abs_int, max2, min2, int_int, int_bl, nn_non, nn_int, nn_bl, nn_str, nn_tup, nn_lst, ix_tup, ix_lst, ix_rol, ix_cell, op_inS2, sl_tup, sl_lst, items_tup, items_lst, atI_0, atI_1, atI_2, cutD_1, cutD_from1, cutD_to, p10_6, p10_7, p10_8, p10_9, p10_10, p10_11, p10_12, sum_ints, all_bls, any_bls, eqb_ints, eqb_nilL, isin_ints, enum_lst, cmp_int, cmp_non, cmp_str, cmp_dInts, cmp_nilL, it_int_non, it_int_bl, it_int_int, it_int_str, it_int_tup, it_int_lst, it_int_rol, it_bool_non, it_bool_bl, it_bool_int, it_bool_str, it_bool_tup, it_bool_lst, it_bool_rol, it_str_non, it_str_bl, it_str_int, it_str_str, it_str_tup, it_str_lst, it_str_rol, it_tuple_non, it_tuple_bl, it_tuple_int, it_tuple_str, it_tuple_tup, it_tuple_lst, it_tuple_rol, it_list_non, it_list_bl, it_list_int, it_list_str, it_list_tup, it_list_lst, it_list_rol]
        refine (sp_take (by omega) hB8 hc (by decide)).mono ?_
        rintro d S12 ⟨hB12, v4, rfl, hv40, hv41⟩
        obtain ⟨y, hy, hmy⟩ := at_lt [f.d, d1, d2, D.tup [D.str (Str.ofString "row"), f.d, d3]] hv40 (by simpa using hv41)
        have hvy : vb 10 y = true := by
          have hvf2 : vbs 9 9 f.d = true := vbs_mono (by decide) hvf _ (by decide)
          have hd1' : vbs 9 9 d1 = true := vbs_mono (by decide) hd1 _ (by decide)
          have hd2' : vbs 9 9 d2 = true := vbs_mono (by decide) hd2 _ (by decide)
          have hd3' : vbs 9 9 d3 = true := vbs_mono (by decide) hd3 _ (by decide)
          refine vbs_vb (w := 9) (by decide) ?_
          simp only [List.mem_cons, List.not_mem_nil, or_false] at hmy
          rcases hmy with rfl | rfl | rfl | rfl
          · exact vbs_mono (Nat.le_refl _) hvf2 _ (by decide)
          · exact vbs_mono (Nat.le_refl _) hd1' _ (by decide)
          · exact vbs_mono (Nat.le_refl _) hd2' _ (by decide)
          · simp only [vbs, List.length_cons, List.length_nil, List.all_cons, List.all_nil, hvf2, hd3', Bool.and_true]
            rfl
        obtain ⟨b, hb⟩ := sp_frame_any (k := 10) (n := n - 1) (by decide) (by omega) hvy
        simp only [we_var, we_cn, we_cb, we_ci, we_cs, we_glob, we_tup, we_lst, we_newc, we_op, we_isN, we_notN, we_neg, we_nt, we_and, we_or, we_chain, we_ite, we_call, we_calll, we_b1, we_b2, we_isi, we_ix, we_sl, we_lc, we_lrng, we_olen, we_oix, we_inD, we_getD, we_calld, we_osl, we_rev, we_isB, we_cnew, we_clen, we_cpop, we_cnil, wl_nil, wl_cons, wr_it, wr_rng, wr_enum, wr_zip, ws_set, ws_own, ws_frz, ws_unp, ws_unp2, ws_par, ws_app, ws_oset, ws_cset, ws_ifs, ws_fors, ws_whil, ws_ret, ws_retn, ws_brk, ws_cnt, ws_pas, ws_expr, wb_nil, wb_cons, thn_nx, thn_rt, thn_bk, thn_ct, fin_nx, fin_rt, turn_nx, turn_ct, turn_bk, turn_rt, List.set_cons_zero, List.set_cons_succ, List.set_nil, List.getElem?_cons_zero, List.getElem?_cons_succ, Option.some.injEq, Sl.v.injEq, Sl.o.injEq, D.bl.injEq, D.int.injEq, D.str.injEq, D.tup.injEq, D.lst.injEq, D.cell.injEq, D.fn.injEq, exists_eq_left, exists_eq_left', exists_eq_right, List.length_cons, List.length_nil, Nat.reduceAdd, Nat.reduceSub, List.replicate_succ, List.replicate_zero, List.map_cons, List.map_nil, List.cons_append, List.nil_append, List.append_nil, true_and, and_true, false_and, and_false, forall_const, Bool.true_eq_false, Bool.false_eq_true, Bool.not_true, Bool.not_false, setMany, asg, Tg.slots, wipeE, optI, testOf, ne_eq, not_true_eq_false, not_false_eq_true, exists_const, reduceCtorEq, false_or, or_false, true_or, or_true, exists_false, Int.reduceLT, Int.reduceLE, Int.reduceNeg, Int.reduceAdd, Int.reduceSub, decide_true, decide_false, Bool.and_true, Bool.true_and, Bool.and_false, Bool.false_and, Bool.or_true, Bool.true_or, Bool.or_false, Bool.false_or, false_implies, true_implies, if_true, if_false, ite_true, ite_false, implies_true, envOf, op_add, op_addT, op_addL, op_sub, op_mul, op_fdiv, op_mod, op_lt, op_le, op_gt, op_ge, op_eqI, op_neI, op_eqS, op_neS, len_tup, len_lst, len_rol, abs_int, max2, min2, int_int, int_bl, nn_non, nn_int, nn_bl, nn_str, nn_tup, nn_lst, ix_tup, ix_lst, ix_rol, ix_cell, op_inS2, sl_tup, sl_lst, items_tup, items_lst, atI_0, atI_1, atI_2, cutD_1, cutD_from1, cutD_to, p10_6, p10_7, p10_8, p10_9, p10_10, p10_11, p10_12, sum_ints, all_bls, any_bls, eqb_ints, eqb_nilL, isin_ints, enum_lst, cmp_int, cmp_non, cmp_str, cmp_dInts, cmp_nilL, it_int_non, it_int_bl, it_int_int, it_int_str, it_int_tup, it_int_lst, it_int_rol, it_bool_non, it_bool_bl, it_bool_int, it_bool_str, it_bool_tup, it_bool_lst, it_bool_rol, it_str_non, it_str_bl, it_str_int, it_str_str, it_str_tup, it_str_lst, it_str_rol, it_tuple_non, it_tuple_bl, it_tuple_int, it_tuple_str, it_tuple_tup, it_tuple_lst, it_tuple_rol, it_list_non, it_list_bl, it_list_int, it_list_str, it_list_tup, it_list_lst, it_list_rol, hy, wc_of (hb _).1, wc_of (hb _).2, rep_b1, decide_true, Bool.not_true]
        refine (sp_link (w := 1000000000) (by omega) hB12 hc (by decide) (by decide)).mono ?_
        rintro d S13 ⟨hB13, l, rfl, hlk⟩
        try simp only [we_var, we_cn, we_cb, we_ci, we_cs, we_glob, we_tup, we_lst, we_newc, we_op, we_isN, we_notN, we_neg, we_nt, we_and, we_or, we_chain, we_ite, we_call, we_calll, we_b1, we_b2, we_isi, we_ix, we_sl, we_lc, we_lrng, we_olen, we_oix, we_inD, we_getD, we_calld, we_osl, we_rev, we_isB, we_cnew, we_clen, we_cpop, we_cnil, wl_nil, wl_cons, wr_it, wr_rng, wr_enum, wr_zip, ws_set, ws_own, ws_frz, ws_unp, ws_unp2, ws_par, ws_app, ws_oset, ws_cset, ws_ifs, ws_fors, ws_whil, ws_ret, ws_retn, ws_brk, ws_cnt, ws_pas, ws_expr, wb_nil, wb_cons, thn_nx, thn_rt, thn_bk, thn_ct, fin_nx, fin_rt, turn_nx, turn_ct, turn_bk, turn_rt, List.set_cons_zero, List.set_cons_succ, List.set_nil, List.getElem?_cons_zero, List.getElem?_cons_succ, Option.some.injEq, Sl.v.injEq, Sl.o.injEq, D.bl.injEq, D.int.injEq, D.str.injEq, D.tup.injEq, D.lst.injEq, D.cell.injEq, D.fn.injEq, exists_eq_left, exists_eq_left', exists_eq_right, List.length_cons, List.length_nil, Nat.reduceAdd, Nat.reduceSub, List.replicate_succ, List.replicate_zero, List.map_cons, List.map_nil, List.cons_append, List.nil_append, List.append_nil, true_and, and_true, false_and, and_false, forall_const, Bool.true_eq_false, Bool.false_eq_true, Bool.not_true, Bool.not_false, setMany, asg, Tg.slots, wipeE, optI, testOf, ne_eq, not_true_eq_false, not_false_eq_true, exists_const, reduceCtorEq, false_or, or_false, true_or, or_true, exists_false, Int.reduceLT, Int.reduceLE, Int.reduceNeg, Int.reduceAdd, Int.reduceSub, decide_true, decide_false, Bool.and_true, Bool.true_and, Bool.and_false, Bool.false_and, Bool.or_true, Bool.true_or, Bool.or_false, Bool.false_or, false_implies, true_implies, if_true, if_false, ite_true, ite_false, implies_true, envOf, op_add, op_addT, op_addL, op_sub, op_mul, op_fdiv, op_mod, op_lt, op_le, op_gt, op_ge, op_eqI, op_neI, op_eqS, op_neS, len_tup, len_lst, len_rol, abs_int, max2, min2, int_int, int_bl, nn_non, nn_int, nn_bl, nn_str, nn_tup, nn_lst, ix_tup, ix_lst, ix_rol, ix_cell, op_inS2, sl_tup, sl_lst, items_tup, items_lst, atI_0, atI_1, atI_2, cutD_1, cutD_from1, cutD_to, p10_6, p10_7, p10_8, p10_9, p10_10, p10_11, p10_12, sum_ints, all_bls, any_bls, eqb_ints, eqb_nilL, isin_ints, enum_lst, cmp_int, cmp_non, cmp_str, cmp_dInts, cmp_nilL, it_int_non, it_int_bl, it_int_int, it_int_str, it_int_tup, it_int_lst, it_int_rol, it_bool_non, it_bool_bl, it_bool_int, it_bool_str, it_bool_tup, it_bool_lst, it_bool_rol, it_str_non, it_str_bl, it_str_int, it_str_str, it_str_tup, it_str_lst, it_str_rol, it_tuple_non, it_tuple_bl, it_tuple_int, it_tuple_str, it_tuple_tup, it_tuple_lst, it_tuple_rol, it_list_non, it_list_bl, it_list_int, it_list_str, it_list_tup, it_list_lst, it_list_rol]
        have hpv : vbs 4 1 (D.tup [D.str (Str.ofString "piston"), D.int 2, D.int 9]) = true := rfl
        refine (sp_spoilt (w := 4) (by decide) (by decide) 1 (n := n - 1) (xs := xs) (S := S13) (by omega) hpv (by omega) (by omega)).mono ?_
        rintro e1 S14 ⟨rfl, he1⟩
        try simp only [we_var, we_cn, we_cb, we_ci, we_cs, we_glob, we_tup, we_lst, we_newc, we_op, we_isN, we_notN, we_neg, we_nt, we_and, we_or, we_chain, we_ite, we_call, we_calll, we_b1, we_b2, we_isi, we_ix, we_sl, we_lc, we_lrng, we_olen, we_oix, we_inD, we_getD, we_calld, we_osl, we_rev, we_isB, we_cnew, we_clen, we_cpop, we_cnil, wl_nil, wl_cons, wr_it, wr_rng, wr_enum, wr_zip, ws_set, ws_own, ws_frz, ws_unp, ws_unp2, ws_par, ws_app, ws_oset, ws_cset, ws_ifs, ws_fors, ws_whil, ws_ret, ws_retn, ws_brk, ws_cnt, ws_pas, ws_expr, wb_nil, wb_cons, thn_nx, thn_rt, thn_bk, thn_ct, fin_nx, fin_rt, turn_nx, turn_ct, turn_bk, turn_rt, List.set_cons_zero, List.set_cons_succ, List.set_nil, List.getElem?_cons_zero, List.getElem?_cons_succ, Option.some.injEq, Sl.v.injEq, Sl.o.injEq, D.bl.injEq, D.int.injEq, D.str.injEq, D.tup.injEq, D.lst.injEq, D.cell.injEq, D.fn.injEq, exists_eq_left, exists_eq_left', exists_eq_right, List.length_cons, List.length_nil, Nat.reduceAdd, Nat.reduceSub, List.replicate_succ, List.replicate_zero, List.map_cons, List.map_nil, List.cons_append, List.nil_append, List.append_nil, true_and, and_true, false_and, and_false, forall_const, Bool.true_eq_false, Bool.false_eq_true, Bool.not_true, Bool.not_false, setMany, asg, Tg.slots, wipeE, optI, testOf, ne_eq, not_true_eq_false, not_false_eq_true, exists_const, reduceCtorEq, false_or, or_false, true_or, or_true, exists_false, Int.reduceLT, Int.reduceLE, Int.reduceNeg, Int.reduceAdd, Int.reduceSub, decide_true, decide_false, Bool.and_true, Bool.true_and, Bool.and_false, Bool.false_and, Bool.or_true, Bool.true_or, Bool.or_false, Bool.false_or, false_implies, true_implies, if_true, if_false, ite_true, ite_false, implies_true, envOf, op_add, op_addT, op_addL, op_sub, op_mul, op_fdiv, op_mod, op_lt, op_le, op_gt, op_ge, op_eqI, op_neI, op_eqS, op_neS, len_tup, len_lst, len_rol, abs_int, max2, min2, int_int, int_bl, nn_non, nn_int, nn_bl, nn_str, nn_tup, nn_lst, ix_tup, ix_lst, ix_rol, ix_cell, op_inS2, sl_tup, sl_lst, items_tup, items_lst, atI_0, atI_1, atI_2, cutD_1, cutD_from1, cutD_to, p10_6, p10_7, p10_8, p10_9, p10_10, p10_11, p10_12, sum_ints, all_bls, any_bls, eqb_ints, eqb_nilL, isin_ints, enum_lst, cmp_int, cmp_non, cmp_str, cmp_dInts, cmp_nilL, it_int_non, it_int_bl, it_int_int, it_int_str, it_int_tup, it_int_lst, it_int_rol, it_bool_non, it_bool_bl, it_bool_int, it_bool_str, it_bool_tup, it_bool_lst, it_bool_rol, it_str_non, it_str_bl, it_str_int, it_str_str, it_str_tup, it_str_lst, it_str_rol, it_tuple_non, it_tuple_bl, it_tuple_int, it_tuple_str, it_tuple_tup, it_tuple_lst, it_tuple_rol, it_list_non, it_list_bl, it_list_int, it_list_str, it_list_tup, it_list_lst, it_list_rol]
        refine (sp_odd (n := n - 1) (by omega) (xs := xs) (by omega) (S := S14)).mono ?_
        rintro e2 S15 ⟨rfl, he2⟩
        try simp only [we_var, we_cn, we_cb, we_ci, we_cs, we_glob, we_tup, we_lst, we_newc, we_op, we_isN, we_notN, we_neg, we_nt, we_and, we_or, we_chain, we_ite, we_call, we_calll, we_b1, we_b2, we_isi, we_ix, we_sl, we_lc, we_lrng, we_olen, we_oix, we_inD, we_getD, we_calld, we_osl, we_rev, we_isB, we_cnew, we_clen, we_cpop, we_cnil, wl_nil, wl_cons, wr_it, wr_rng, wr_enum, wr_zip, ws_set, ws_own, ws_frz, ws_unp, ws_unp2, ws_par, ws_app, ws_oset, ws_cset, ws_ifs, ws_fors, ws_whil, ws_ret, ws_retn, ws_brk, ws_cnt, ws_pas, ws_expr, wb_nil, wb_cons, thn_nx, thn_rt, thn_bk, thn_ct, fin_nx, fin_rt, turn_nx, turn_ct, turn_bk, turn_rt, List.set_cons_zero, List.set_cons_succ, List.set_nil, List.getElem?_cons_zero, List.getElem?_cons_succ, Option.some.injEq, Sl.v.injEq, Sl.o.injEq, D.bl.injEq, D.int.injEq, D.str.injEq, D.tup.injEq, D.lst.injEq, D.cell.injEq, D.fn.injEq, exists_eq_left, exists_eq_left', exists_eq_right, List.length_cons, List.length_nil, Nat.reduceAdd, Nat.reduceSub, List.replicate_succ, List.replicate_zero, List.map_cons, List.map_nil, List.cons_append, List.nil_append, List.append_nil, true_and, and_true, false_and, and_false, forall_const, Bool.true_eq_false, Bool.false_eq_true, Bool.not_true, Bool.not_false, setMany, asg, Tg.slots, wipeE, optI, testOf, ne_eq, not_true_eq_false, not_false_eq_true, exists_const, reduceCtorEq, false_or, or_false, true_or, or_true, exists_false, Int.reduceLT, Int.reduceLE, Int.reduceNeg, Int.reduceAdd, Int.reduceSub, decide_true, decide_false, Bool.and_true, Bool.true_and, Bool.and_false, Bool.false_and, Bool.or_true, Bool.true_or, Bool.or_false, Bool.false_or, false_implies, true_implies, if_true, if_false, ite_true, ite_false, implies_true, envOf, op_add, op_addT, op_addL, op_sub, op_mul, op_fdiv, op_mod, op_lt, op_le, op_gt, op_ge, op_eqI, op_neI, op_eqS, op_neS, len_tup, len_lst, len_rol, abs_int, max2, min2, int_int, int_bl, nn_non, nn_int, nn_bl, nn_str, nn_tup, nn_lst, ix_tup, ix_lst, ix_rol, ix_cell, op_inS2, sl_tup, sl_lst, items_tup, items_lst, atI_0, atI_1, atI_2, cutD_1, cutD_from1, cutD_to, p10_6, p10_7, p10_8, p10_9, p10_10, p10_11, p10_12, sum_ints, all_bls, any_bls, eqb_ints, eqb_nilL, isin_ints, enum_lst, cmp_int, cmp_non, cmp_str, cmp_dInts, cmp_nilL, it_int_non, it_int_bl, it_int_int, it_int_str, it_int_tup, it_int_lst, it_int_rol, it_bool_non, it_bool_bl, it_bool_int, it_bool_str, it_bool_tup, it_bool_lst, it_bool_rol, it_str_non, it_str_bl, it_str_int, it_str_str, it_str_tup, it_str_lst, it_str_rol, it_tuple_non, it_tuple_bl, it_tuple_int, it_tuple_str, it_tuple_tup, it_tuple_lst, it_tuple_rol, it_list_non, it_list_bl, it_list_int, it_list_str, it_list_tup, it_list_lst, it_list_rol]
        refine (sp_take (by omega) hB13 hc (by decide)).mono ?_
        rintro d S16 ⟨hB16, v5, rfl, hv50, hv51⟩
        obtain ⟨z, hz, hmz⟩ := at_lt [l.d, e1, e2] hv50 (by simpa using hv51)
        have hvz : vb 9 z = true := by
          refine vbs_vb (w := 9) (by decide) ?_
          simp only [List.mem_cons, List.not_mem_nil, or_false] at hmz
          rcases hmz with rfl | rfl | rfl
          · exact vbs_mono (by decide) (lk_vbs (l := l)) _ (by decide)
          · exact vbs_mono (by decide) he1 _ (by decide)
          · exact vbs_mono (by decide) he2 _ (by decide)
        simp only [we_var, we_cn, we_cb, we_ci, we_cs, we_glob, we_tup, we_lst, we_newc, we_op, we_isN, we_notN, we_neg, we_nt, we_and, we_or, we_chain, we_ite, we_call, we_calll, we_b1, we_b2, we_isi, we_ix, we_sl, we_lc, we_lrng, we_olen, we_oix, we_inD, we_getD, we_calld, we_osl, we_rev, we_isB, we_cnew, we_clen, we_cpop, we_cnil, wl_nil, wl_cons, wr_it, wr_rng, wr_enum, wr_zip, ws_set, ws_own, ws_frz, ws_unp, ws_unp2, ws_par, ws_app, ws_oset, ws_cset, ws_ifs, ws_fors, ws_whil, ws_ret, ws_retn, ws_brk, ws_cnt, ws_pas, ws_expr, wb_nil, wb_cons, thn_nx, thn_rt, thn_bk, thn_ct, fin_nx, fin_rt, turn_nx, turn_ct, turn_bk, turn_rt, List.set_cons_zero, List.set_cons_succ, List.set_nil, List.getElem?_cons_zero, List.getElem?_cons_succ, Option.some.injEq, Sl.v.injEq, Sl.o.injEq, D.bl.injEq, D.int.injEq, D.str.injEq, D.tup.injEq, D.lst.injEq, D.cell.injEq, D.fn.injEq, exists_eq_left, exists_eq_left', exists_eq_right, List.length_cons, List.length_nil, Nat.reduceAdd, Nat.reduceSub, List.replicate_succ, List.replicate_zero, List.map_cons, List.map_nil, List.cons_append, List.nil_append, List.append_nil, true_and, and_true, false_and, and_false, forall_const, Bool.true_eq_false, Bool.false_eq_true, Bool.not_true, Bool.not_false, setMany, asg, Tg.slots, wipeE, optI, testOf, ne_eq, not_true_eq_false, not_false_eq_true, exists_const, reduceCtorEq, false_or, or_false, true_or, or_true, exists_false, Int.reduceLT, Int.reduceLE, Int.reduceNeg, Int.reduceAdd, Int.reduceSub, decide_true, decide_false, Bool.and_true, Bool.true_and, Bool.and_false, Bool.false_and, Bool.or_true, Bool.true_or, Bool.or_false, Bool.false_or, false_implies, true_implies, if_true, if_false, ite_true, ite_false, implies_true, envOf, op_add, op_addT, op_addL, op_sub, op_mul, op_fdiv, op_mod, op_lt, op_le, op_gt, op_ge, op_eqI, op_neI, op_eqS, op_neS, len_tup, len_lst, len_rol, abs_int, max2, min2, int_int, int_bl, nn_non, nn_int, nn_bl, nn_str, nn_tup, nn_lst, ix_tup, ix_lst, ix_rol, ix_cell, op_inS2, sl_tup, sl_lst, items_tup, items_lst, atI_0, atI_1, atI_2, cutD_1, cutD_from1, cutD_to, p10_6, p10_7, p10_8, p10_9, p10_10, p10_11, p10_12, sum_ints, all_bls, any_bls, eqb_ints, eqb_nilL, isin_ints, enum_lst, cmp_int, cmp_non, cmp_str, cmp_dInts, cmp_nilL, it_int_non, it_int_bl, it_int_int, it_int_str, it_int_tup, it_int_lst, it_int_rol, it_bool_non, it_bool_bl, it_bool_int, it_bool_str, it_bool_tup, it_bool_lst, it_bool_rol, it_str_non, it_str_bl, it_str_int, it_str_str, it_str_tup, it_str_lst, it_str_rol, it_tuple_non, it_tuple_bl, it_tuple_int, it_tuple_str, it_tuple_tup, it_tuple_lst, it_tuple_rol, it_list_non, it_list_bl, it_list_int, it_list_str, it_list_tup, it_list_lst, it_list_rol, hz, wc_of (sp_link_any (by omega : 2 ≤ n - 1) (by decide : 9 ≤ 50) hvz), wc_of (sp_good_any (by omega : 2 ≤ n - 1) (by decide : 9 ≤ 50) hvz), rep_b1, decide_true, Bool.not_true]
        simp [hB16]
    · rintro δ T5 ⟨hB5, x3, x4, x5, x8, rfl⟩
      try simp only [we_var, we_cn, we_cb, we_ci, we_cs, we_glob, we_tup, we_lst, we_newc, we_op, we_isN, we_notN, we_neg, we_nt, we_and, we_or, we_chain, we_ite, we_call, we_calll, we_b1, we_b2, we_isi, we_ix, we_sl, we_lc, we_lrng, we_olen, we_oix, we_inD, we_getD, we_calld, we_osl, we_rev, we_isB, we_cnew, we_clen, we_cpop, we_cnil, wl_nil, wl_cons, wr_it, wr_rng, wr_enum, wr_zip, ws_set, ws_own, ws_frz, ws_unp, ws_unp2, ws_par, ws_app, ws_oset, ws_cset, ws_ifs, ws_fors, ws_whil, ws_ret, ws_retn, ws_brk, ws_cnt, ws_pas, ws_expr, wb_nil, wb_cons, thn_nx, thn_rt, thn_bk, thn_ct, fin_nx, fin_rt, turn_nx, turn_ct, turn_bk, turn_rt, List.set_cons_zero, List.set_cons_succ, List.set_nil, List.getElem?_cons_zero, List.getElem?_cons_succ, Option.some.injEq, Sl.v.injEq, Sl.o.injEq, D.bl.injEq, D.int.injEq, D.str.injEq, D.tup.injEq, D.lst.injEq, D.cell.injEq, D.fn.injEq, exists_eq_left, exists_eq_left', exists_eq_right, List.length_cons, List.length_nil, Nat.reduceAdd, Nat.reduceSub, List.replicate_succ, List.replicate_zero, List.map_cons, List.map_nil, List.cons_append, List.nil_append, List.append_nil, true_and, and_true, false_and, and_false, forall_const, Bool.true_eq_false, Bool.false_eq_true, Bool.not_true, Bool.not_false, setMany, asg, Tg.slots, wipeE, optI, testOf, ne_eq, not_true_eq_false, not_false_eq_true, exists_const, reduceCtorEq, false_or, or_false, true_or, or_true, exists_false, Int.reduceLT, Int.reduceLE, Int.reduceNeg, Int.reduceAdd, Int.reduceSub, decide_true, decide_false, Bool.and_true, Bool.true_and, Bool.and_false, Bool.false_and, Bool.or_true, Bool.true_or, Bool.or_false, Bool.false_or, false_implies, true_implies, if_true, if_false, ite_true, ite_false, implies_true, envOf, op_add, op_addT, op_addL, op_sub, op_mul, op_fdiv, op_mod, op_lt, op_le, op_gt, op_ge, op_eqI, op_neI, op_eqS, op_neS, len_tup, len_lst, len_rol, abs_int, max2, min2, int_int, int_bl, nn_non, nn_int, nn_bl, nn_str, nn_tup, nn_lst, ix_tup, ix_lst, ix_rol, ix_cell, op_inS2, sl_tup, sl_lst, items_tup, items_lst, atI_0, atI_1, atI_2, cutD_1, cutD_from1, cutD_to, p10_6, p10_7, p10_8, p10_9, p10_10, p10_11, p10_12, sum_ints, all_bls, any_bls, eqb_ints, eqb_nilL, isin_ints, enum_lst, cmp_int, cmp_non, cmp_str, cmp_dInts, cmp_nilL, it_int_non, it_int_bl, it_int_int, it_int_str, it_int_tup, it_int_lst, it_int_rol, it_bool_non, it_bool_bl, it_bool_int, it_bool_str, it_bool_tup, it_bool_lst, it_bool_rol, it_str_non, it_str_bl, it_str_int, it_str_str, it_str_tup, it_str_lst, it_str_rol, it_tuple_non, it_tuple_bl, it_tuple_int, it_tuple_str, it_tuple_tup, it_tuple_lst, it_tuple_rol, it_list_non, it_list_bl, it_list_int, it_list_str, it_list_tup, it_list_lst, it_list_rol]
      exact ⟨hB5, _, _, _, _, _, _, rfl⟩
  · rintro δ T ⟨hB1, x1, x2, x3, x4, x5, x8, rfl⟩
    have f1 : op2 .mul (.tup [.tup [.str ("bar" : Str), .int 1]]) (.int 6) = some (.tup [.tup [.str ("bar" : Str), .int 1], .tup [.str ("bar" : Str), .int 1], .tup [.str ("bar" : Str), .int 1], .tup [.str ("bar" : Str), .int 1], .tup [.str ("bar" : Str), .int 1], .tup [.str ("bar" : Str), .int 1]]) := rfl
    have f2 : op2 .add (.tup [.str ("side" : Str)]) (.tup [.tup [.str ("bar" : Str), .int 1], .tup [.str ("bar" : Str), .int 1], .tup [.str ("bar" : Str), .int 1], .tup [.str ("bar" : Str), .int 1], .tup [.str ("bar" : Str), .int 1], .tup [.str ("bar" : Str), .int 1]]) = some six.d := rfl
    have f3 : D.tup [.str ("bar" : Str), .int 0] = (dpf 0).d := rfl
    have f4 : op2 .mul (.tup [six.d]) (.int 5) = some (.tup [six.d, six.d, six.d, six.d, six.d]) := rfl
    have g1 : op2 .add (.tup [.str ("row" : Str)]) (.tup [six.d, six.d, six.d, six.d, six.d]) = some (Fr.jt true [six, six, six, six, six]).d := rfl
    have g2 : op2 .add (.tup [.str ("row" : Str), .tup [.str ("bar" : Str), .int 1]]) (.tup [six.d, six.d, six.d, six.d, six.d]) = some (Fr.jt true [.leaf ⟨.bar, 1, 1⟩, six, six, six, six, six]).d := rfl
    have t1 : (Fr.jt true [six, six, six, six, six]).fit := fit_of (by decide +kernel)
    have c1 := sp_is_frame (n := n - 1) (by omega) t1 (S := T)
    have c2 := sp_frame_len (n := n - 1) (by omega) (f := Fr.jt true [.leaf ⟨.bar, 1, 1⟩, six, six, six, six, six]) (okB_of _ (by decide +kernel)) (by decide +kernel) (by decide +kernel) (S := T)
    rw [show decide (((Fr.jt true [.leaf ⟨.bar, 1, 1⟩, six, six, six, six, six]).lks.length : Int) ≤ 30) = false by decide +kernel] at c2
    have t3 : (dpf 5).fit := fit_of (by decide +kernel)
    have c3 := sp_is_frame (n := n - 1) (by omega) t3 (S := T)
    have c4 := sp_frame_no (k := 9) (n := n - 1) (by decide) (by omega) (d := .tup [.str ("side" : Str), (dpf 5).d, (dpf 5).d]) (by decide +kernel) (by decide +kernel) (S := T)
    have c5 := sp_frame_no (k := 9) (n := n - 1) (by decide) (by omega) (d := .tup [.str ("side" : Str), .tup [.str ("bar" : Str), .int 1], .tup [.str ("bar" : Str), .int 1], .tup [.str ("bar" : Str), .int 1], .tup [.str ("bar" : Str), .int 1], .tup [.str ("bar" : Str), .int 1], .tup [.str ("bar" : Str), .int 1], .tup [.str ("bar" : Str), .int 1]]) (by decide +kernel) (by decide +kernel) (S := T)
    simp only [we_var, we_cn, we_cb, we_ci, we_cs, we_glob, we_tup, we_lst, we_newc, we_op, we_isN, we_notN, we_neg, we_nt, we_and, we_or, we_chain, we_ite, we_call, we_calll, we_b1, we_b2, we_isi, we_ix, we_sl, we_lc, we_lrng, we_olen, we_oix, we_inD, we_getD, we_calld, we_osl, we_rev, we_isB, we_cnew, we_clen, we_cpop, we_cnil, wl_nil, wl_cons, wr_it, wr_rng, wr_enum, wr_zip, ws_set, ws_own, ws_frz, ws_unp, ws_unp2, ws_par, ws_app, ws_oset, ws_cset, ws_ifs, ws_fors, ws_whil, ws_ret, ws_retn, ws_brk, ws_cnt, ws_pas, ws_expr, wb_nil, wb_cons, thn_nx, thn_rt, thn_bk, thn_ct, fin_nx, fin_rt, turn_nx, turn_ct, turn_bk, turn_rt, List.set_cons_zero, List.set_cons_succ, List.set_nil, List.getElem?_cons_zero, List.getElem?_cons_succ, Option.some.injEq, Sl.v.injEq, Sl.o.injEq, D.bl.injEq, D.int.injEq, D.str.injEq, D.tup.injEq, D.lst.injEq, D.cell.injEq, D.fn.injEq, exists_eq_left, exists_eq_left', exists_eq_right, List.length_cons, List.length_nil, Nat.reduceAdd, Nat.reduceSub, List.replicate_succ, List.replicate_zero, List.map_cons, List.map_nil, List.cons_append, List.nil_append, List.append_nil, true_and, and_true, false_and, and_false, forall_const, Bool.true_eq_false, Bool.false_eq_true, Bool.not_true, Bool.not_false, setMany, asg, Tg.slots, wipeE, optI, testOf, ne_eq, not_true_eq_false, not_false_eq_true, exists_const, reduceCtorEq, false_or, or_false, true_or, or_true, exists_false, Int.reduceLT, Int.reduceLE, Int.reduceNeg, Int.reduceAdd, Int.reduceSub, decide_true, decide_false, Bool.and_true, Bool.true_and, Bool.and_false, Bool.false_and, Bool.or_true, Bool.true_or, Bool.or_false, Bool.false_or, false_implies, true_implies, if_true, if_false, ite_true, ite_false, implies_true, envOf, op_add, op_addT, op_addL, op_sub, op_mul, op_fdiv, op_mod, op_lt, op_le, op_gt, op_ge, op_eqI, op_neI, op_eqS, op_neS, len_tup, len_lst, len_rol, abs_int, max2, min2, int_int, int_bl, nn_non, nn_int, nn_bl, nn_str, nn_tup, nn_lst, ix_tup, ix_lst, ix_rol, ix_cell, op_inS2, sl_tup, sl_lst, items_tup, items_lst, atI_0, atI_1, atI_2, cutD_1, cutD_from1, cutD_to, p10_6, p10_7, p10_8, p10_9, p10_10, p10_11, p10_12, sum_ints, all_bls, any_bls, eqb_ints, eqb_nilL, isin_ints, enum_lst, cmp_int, cmp_non, cmp_str, cmp_dInts, cmp_nilL, it_int_non, it_int_bl, it_int_int, it_int_str, it_int_tup, it_int_lst, it_int_rol, it_bool_non, it_bool_bl, it_bool_int, it_bool_str, it_bool_tup, it_bool_lst, it_bool_rol, it_str_non, it_str_bl, it_str_int, it_str_str, it_str_tup, it_str_lst, it_str_rol, it_tuple_non, it_tuple_bl, it_tuple_int, it_tuple_str, it_tuple_tup, it_tuple_lst, it_tuple_rol, it_list_non, it_list_bl, it_list_int, it_list_str, it_list_tup, it_list_lst, it_list_rol]
    rw [f1]
    refine ⟨_, rfl, _, f2, ?_⟩
    rw [range_1 (by decide) (by decide), f3]
    refine ⟨_, rfl, ?_⟩
    refine wf_range _ _ (fun k δ T' => T' = T ∧ ∃ x3, δ = [.v (.rol (ns.map .int)), x1, x2, x3, x4, x5, .v six.d, .v (dpf k).d, x8]) ⟨rfl, _, rfl⟩ ?_ ?_
    · rintro k hk δ T' ⟨rfl, x3, rfl⟩
      refine ⟨_, rfl, ?_⟩
      simp only [we_var, we_cn, we_cb, we_ci, we_cs, we_glob, we_tup, we_lst, we_newc, we_op, we_isN, we_notN, we_neg, we_nt, we_and, we_or, we_chain, we_ite, we_call, we_calll, we_b1, we_b2, we_isi, we_ix, we_sl, we_lc, we_lrng, we_olen, we_oix, we_inD, we_getD, we_calld, we_osl, we_rev, we_isB, we_cnew, we_clen, we_cpop, we_cnil, wl_nil, wl_cons, wr_it, wr_rng, wr_enum, wr_zip, ws_set, ws_own, ws_frz, ws_unp, ws_unp2, ws_par, ws_app, ws_oset, ws_cset, ws_ifs, ws_fors, ws_whil, ws_ret, ws_retn, ws_brk, ws_cnt, ws_pas, ws_expr, wb_nil, wb_cons, thn_nx, thn_rt, thn_bk, thn_ct, fin_nx, fin_rt, turn_nx, turn_ct, turn_bk, turn_rt, List.set_cons_zero, List.set_cons_succ, List.set_nil, List.getElem?_cons_zero, List.getElem?_cons_succ, Option.some.injEq, Sl.v.injEq, Sl.o.injEq, D.bl.injEq, D.int.injEq, D.str.injEq, D.tup.injEq, D.lst.injEq, D.cell.injEq, D.fn.injEq, exists_eq_left, exists_eq_left', exists_eq_right, List.length_cons, List.length_nil, Nat.reduceAdd, Nat.reduceSub, List.replicate_succ, List.replicate_zero, List.map_cons, List.map_nil, List.cons_append, List.nil_append, List.append_nil, true_and, and_true, false_and, and_false, forall_const, Bool.true_eq_false, Bool.false_eq_true, Bool.not_true, Bool.not_false, setMany, asg, Tg.slots, wipeE, optI, testOf, ne_eq, not_true_eq_false, not_false_eq_true, exists_const, reduceCtorEq, false_or, or_false, true_or, or_true, exists_false, Int.reduceLT, Int.reduceLE, Int.reduceNeg, Int.reduceAdd, Int.reduceSub, decide_true, decide_false, Bool.and_true, Bool.true_and, Bool.and_false, Bool.false_and, Bool.or_true, Bool.true_or, Bool.or_false, Bool.false_or, false_implies, true_implies, if_true, if_false, ite_true, ite_false, implies_true, envOf, op_add, op_addT, op_addL, op_sub, op_mul, op_fdiv, op_mod, op_lt, op_le, op_gt, op_ge, op_eqI, op_neI, op_eqS, op_neS, len_tup, len_lst, len_rol, abs_int, max2, min2, int_int, int_bl, nn_non, nn_int, nn_bl, nn_str, nn_tup, nn_lst, ix_tup, ix_lst, ix_rol, ix_cell, op_inS2, sl_tup, sl_lst, items_tup, items_lst, atI_0, atI_1, atI_2, cutD_1, cutD_from1, cutD_to, p10_6, p10_7, p10_8, p10_9, p10_10, p10_11, p10_12, sum_ints, all_bls, any_bls, eqb_ints, eqb_nilL, isin_ints, enum_lst, cmp_int, cmp_non, cmp_str, cmp_dInts, cmp_nilL, it_int_non, it_int_bl, it_int_int, it_int_str, it_int_tup, it_int_lst, it_int_rol, it_bool_non, it_bool_bl, it_bool_int, it_bool_str, it_bool_tup, it_bool_lst, it_bool_rol, it_str_non, it_str_bl, it_str_int, it_str_str, it_str_tup, it_str_lst, it_str_rol, it_tuple_non, it_tuple_bl, it_tuple_int, it_tuple_str, it_tuple_tup, it_tuple_lst, it_tuple_rol, it_list_non, it_list_bl, it_list_int, it_list_str, it_list_tup, it_list_lst, it_list_rol]
      exact ⟨_, rfl⟩
    · rintro δ T' ⟨rfl, x3, rfl⟩
      simp only [we_var, we_cn, we_cb, we_ci, we_cs, we_glob, we_tup, we_lst, we_newc, we_op, we_isN, we_notN, we_neg, we_nt, we_and, we_or, we_chain, we_ite, we_call, we_calll, we_b1, we_b2, we_isi, we_ix, we_sl, we_lc, we_lrng, we_olen, we_oix, we_inD, we_getD, we_calld, we_osl, we_rev, we_isB, we_cnew, we_clen, we_cpop, we_cnil, wl_nil, wl_cons, wr_it, wr_rng, wr_enum, wr_zip, ws_set, ws_own, ws_frz, ws_unp, ws_unp2, ws_par, ws_app, ws_oset, ws_cset, ws_ifs, ws_fors, ws_whil, ws_ret, ws_retn, ws_brk, ws_cnt, ws_pas, ws_expr, wb_nil, wb_cons, thn_nx, thn_rt, thn_bk, thn_ct, fin_nx, fin_rt, turn_nx, turn_ct, turn_bk, turn_rt, List.set_cons_zero, List.set_cons_succ, List.set_nil, List.getElem?_cons_zero, List.getElem?_cons_succ, Option.some.injEq, Sl.v.injEq, Sl.o.injEq, D.bl.injEq, D.int.injEq, D.str.injEq, D.tup.injEq, D.lst.injEq, D.cell.injEq, D.fn.injEq, exists_eq_left, exists_eq_left', exists_eq_right, List.length_cons, List.length_nil, Nat.reduceAdd, Nat.reduceSub, List.replicate_succ, List.replicate_zero, List.map_cons, List.map_nil, List.cons_append, List.nil_append, List.append_nil, true_and, and_true, false_and, and_false, forall_const, Bool.true_eq_false, Bool.false_eq_true, Bool.not_true, Bool.not_false, setMany, asg, Tg.slots, wipeE, optI, testOf, ne_eq, not_true_eq_false, not_false_eq_true, exists_const, reduceCtorEq, false_or, or_false, true_or, or_true, exists_false, Int.reduceLT, Int.reduceLE, Int.reduceNeg, Int.reduceAdd, Int.reduceSub, decide_true, decide_false, Bool.and_true, Bool.true_and, Bool.and_false, Bool.false_and, Bool.or_true, Bool.true_or, Bool.or_false, Bool.false_or, false_implies, true_implies, if_true, if_false, ite_true, ite_false, implies_true, envOf, op_add, op_addT, op_addL, op_sub, op_mul, op_fdiv, op_mod, op_lt, op_le, op_gt, op_ge, op_eqI, op_neI, op_eqS, op_neS, len_tup, len_lst, len_rol, abs_int, max2, min2, int_int, int_bl, nn_non, nn_int, nn_bl, nn_str, nn_tup, nn_lst, ix_tup, ix_lst, ix_rol, ix_cell, op_inS2, sl_tup, sl_lst, items_tup, items_lst, atI_0, atI_1, atI_2, cutD_1, cutD_from1, cutD_to, p10_6, p10_7, p10_8, p10_9, p10_10, p10_11, p10_12, sum_ints, all_bls, any_bls, eqb_ints, eqb_nilL, isin_ints, enum_lst, cmp_int, cmp_non, cmp_str, cmp_dInts, cmp_nilL, it_int_non, it_int_bl, it_int_int, it_int_str, it_int_tup, it_int_lst, it_int_rol, it_bool_non, it_bool_bl, it_bool_int, it_bool_str, it_bool_tup, it_bool_lst, it_bool_rol, it_str_non, it_str_bl, it_str_int, it_str_str, it_str_tup, it_str_lst, it_str_rol, it_tuple_non, it_tuple_bl, it_tuple_int, it_tuple_str, it_tuple_tup, it_tuple_lst, it_tuple_rol, it_list_non, it_list_bl, it_list_int, it_list_str, it_list_tup, it_list_lst, it_list_rol, thn_nx]
      have t5 : Int.toNat 5 = 5 := rfl
      rw [t5]
      refine ⟨_, f4, _, g1, ?_⟩
      rw [wc_of c1]
      refine ⟨_, f4, _, g2, ?_⟩
      rw [wc_of c2]
      refine ⟨_, rfl, _, rfl, fun h => (by simp [D.eqb, D.eqbs] at h), fun _ => ?_⟩
      rw [wc_of c3, wc_of c4]
      refine ⟨_, rfl, ?_⟩
      have e5 : D.tup [.str ("side" : Str), .tup [.str ("bar" : Str), .int 1], .tup [.str ("bar" : Str), .int 1], .tup [.str ("bar" : Str), .int 1], .tup [.str ("bar" : Str), .int 1], .tup [.str ("bar" : Str), .int 1], .tup [.str ("bar" : Str), .int 1], .tup [.str ("bar" : Str), .int 1]] = .tup ((.str ("side" : Str) :: [Fr.leaf ⟨.bar, 1, 1⟩, Fr.leaf ⟨.bar, 1, 1⟩, Fr.leaf ⟨.bar, 1, 1⟩, Fr.leaf ⟨.bar, 1, 1⟩, Fr.leaf ⟨.bar, 1, 1⟩, Fr.leaf ⟨.bar, 1, 1⟩].map Fr.d) ++ [D.tup [.str ("bar" : Str), .int 1]]) := rfl
      refine (wc_of c5).mpr ?_
      rfl
end MP


/-! the link -/
namespace MP
open PySem L2
def topS (i : Nat) : Stmt := PySem.Challenge.pw_armreaches_k01_links_and_frames_recogniz.main.body.getD i (.Pass ⟨0, 0, 0, 0⟩)
def dd_is_integer : Dd := ⟨F.is_integer, "is_integer", topS 5, ["value", "low", "high"], 3, []⟩
def dd_is_link : Dd := ⟨F.is_link, "is_link", topS 6, ["value", "lengths", "one"], 1, []⟩
def dd_is_joint : Dd := ⟨F.is_joint, "is_joint", topS 7, ["value"], 1, []⟩
def dd_has_form : Dd := ⟨F.has_form, "has_form", topS 8, ["value", "deep", "is_leaf", "part"], 3, []⟩
def dd_leaves : Dd := ⟨F.leaves, "leaves", topS 9, ["frame", "found", "part"], 1, []⟩
def dd_is_frame : Dd := ⟨F.is_frame, "is_frame", topS 10, ["value"], 1, []⟩
def dd__law_cell_at : Dd := ⟨F._law_cell_at, "_law_cell_at", topS 12, ["script", "k"], 2, []⟩
def dd__law_draws : Dd := ⟨F._law_draws, "_law_draws", topS 13, ["cell", "many", "size", "found", "rest", "stirred", "k"], 3, []⟩
def dd__law_bag : Dd := ⟨F._law_bag, "_law_bag", topS 14, ["script", "k"], 2, []⟩
def dd__law_bags : Dd := ⟨F._law_bags, "_law_bags", topS 15, ["script", "limit", "k"], 2, []⟩
def dd__law_take : Dd := ⟨F._law_take, "_law_take", topS 16, ["bag", "many"], 2, []⟩
def dd__law_far_draw : Dd := ⟨F._law_far_draw, "_law_far_draw", topS 17, ["bag", "many", "found", "much"], 2, []⟩
def dd__law_from : Dd := ⟨F._law_from, "_law_from", topS 18, ["thing", "least", "top"], 3, []⟩
def dd__law_spoilt : Dd := ⟨F._law_spoilt, "_law_spoilt", topS 19, ["thing", "picks", "pieces", "at", "turn_by"], 2, []⟩
def dd__law_odd : Dd := ⟨F._law_odd, "_law_odd", topS 20, ["picks", "odd"], 1, []⟩
def dd__law_link : Dd := ⟨F._law_link, "_law_link", topS 21, ["bag", "wide", "kind", "low"], 2, []⟩
def dd__law_frame : Dd := ⟨F._law_frame, "_law_frame", topS 22, ["bag", "many", "deep", "wide", "count", "found", "part"], 4, []⟩
def dd__law_links : Dd := ⟨F._law_links, "_law_links", topS 23, ["frame_so", "found", "part"], 1, []⟩
def dd__law_link_good : Dd := ⟨F._law_link_good, "_law_link_good", topS 24, ["value", "length"], 1, []⟩
def dd__law_depth : Dd := ⟨F._law_depth, "_law_depth", topS 25, ["value", "part"], 1, []⟩
def dd__law_frame_good : Dd := ⟨F._law_frame_good, "_law_frame_good", topS 26, ["value"], 1, []⟩
def dd_law_k01 : Dd := ⟨F.law_k01, "law", topS 27, ["script", "bag", "base", "turn", "picks", "value", "six", "deep", "pick"], 1, []⟩
def tab : List Dd := [dd_is_integer, dd_is_link, dd_is_joint, dd_has_form, dd_leaves, dd_is_frame, dd__law_cell_at, dd__law_draws, dd__law_bag, dd__law_bags, dd__law_take, dd__law_far_draw, dd__law_from, dd__law_spoilt, dd__law_odd, dd__law_link, dd__law_frame, dd__law_links, dd__law_link_good, dd__law_depth, dd__law_frame_good, dd_law_k01]
def blts : List Str := ["all", "bool", "int", "isinstance", "len", "list", "max", "min", "range", "repr", "str", "tuple"]
def lnk : Lnk := ⟨tab.map fun d => (d.f, d.x), gls, tbs, blts, []⟩
end MP
namespace MP
open PySem PySem.Spec PyProof.Rows L2
abbrev Rw : PySem.W.OpenRow := PySem.W.OpenLaw.row PySem.Challenge.rw_armreaches_k01_links_and_frames_recogniz
abbrev hk : PySem.W.Hook := He.hookX 5 (faAll lnk tab) (tab.map ddD) (tsOf lnk) [] (exOf lnk)
def ob (s : PySem.W.SharedT) : He.AlX := He.obsX 5 (faAll lnk tab) (tab.map ddD) (tsOf lnk) [] (exOf lnk) (HandSHeadRun.getT s)
theorem ob_eq (s : PySem.W.SharedT) : ob s = hk.obs s.abs := He.obsX_eq (HandSHeadRun.getT_eq s)
def loose0 : List Str := ["__name__", "SIZES", "MOST_LENGTH", "MOST_LINKS", "MOST_DEEP", "is_integer", "is_link", "is_joint", "has_form", "leaves", "is_frame", "_law_cell_at", "_law_draws", "_law_bag", "_law_bags", "_law_take"]
def loose1 : List Str := ["_law_far_draw", "_law_from", "_law_spoilt", "_law_odd", "_law_link", "_law_frame", "_law_links", "_law_link_good", "_law_depth", "_law_frame_good"]
def loose : List Str := loose0 ++ loose1
theorem run0 (w : World) : HandSHeadRun.RunEq Rw (PySem.W.view Rw.prog [27]) hk ob 8000 loose (w.withFollow "special-get-raises" false) := by
  intro os
  kernel_rfl
theorem run1 (w : World) : HandSHeadRun.RunEq Rw (PySem.W.view Rw.prog [27]) hk ob 8000 loose (w.withFollow "special-get-raises" true) := by
  intro os
  kernel_rfl
theorem run (w : World) : HandSHeadRun.RunEq Rw (PySem.W.view Rw.prog [27]) hk ob 8000 loose w := PySem.W.byRow2 "special-get-raises" run0 run1 w
theorem lawOk : ∀ ns : List Int, ns.length ≤ 63 → ∃ S', ec lnk.gv pr 50 dd_law_k01.f [.rol (ns.map .int)] [] = some (.bl true, S') := fun ns _ => by
  obtain ⟨d, S', h, rfl⟩ := law_k01 (n := 50) (by decide) ns
  exact ⟨S', h⟩
theorem chkAll : tab.all (fun d => (match pr d.f with
      | some fd => d.chk lnk fd
      | none => false) && decide (lnk.fns.lookup d.f = some d.x) && (decide (d.dfs.length ≤ d.np ∧ d.np = d.ps.length) && (match lnk.dfs.lookup d.f with
      | some ds => decide (d.dfs = ds ∧ ds ≠ [])
      | none => true))) = true := by decide +kernel
theorem bindAll : ∀ d, d ∈ tab → BindOk d := by
  intro d hd
  simp only [tab, List.mem_cons, List.not_mem_nil, or_false] at hd
  rcases hd with rfl | rfl | rfl | rfl | rfl | rfl | rfl | rfl | rfl | rfl | rfl | rfl | rfl | rfl | rfl | rfl | rfl | rfl | rfl | rfl | rfl | rfl
  · exact bind_none rfl fun _ _ _ _ _ _ us hl => match us, hl with | [_, _, _], _ => rfl
  · exact bind_none rfl fun _ _ _ _ _ _ us hl => match us, hl with | [_], _ => rfl
  · exact bind_none rfl fun _ _ _ _ _ _ us hl => match us, hl with | [_], _ => rfl
  · exact bind_none rfl fun _ _ _ _ _ _ us hl => match us, hl with | [_, _, _], _ => rfl
  · exact bind_none rfl fun _ _ _ _ _ _ us hl => match us, hl with | [_], _ => rfl
  · exact bind_none rfl fun _ _ _ _ _ _ us hl => match us, hl with | [_], _ => rfl
  · exact bind_none rfl fun _ _ _ _ _ _ us hl => match us, hl with | [_, _], _ => rfl
  · exact bind_none rfl fun _ _ _ _ _ _ us hl => match us, hl with | [_, _, _], _ => rfl
  · exact bind_none rfl fun _ _ _ _ _ _ us hl => match us, hl with | [_, _], _ => rfl
  · exact bind_none rfl fun _ _ _ _ _ _ us hl => match us, hl with | [_, _], _ => rfl
  · exact bind_none rfl fun _ _ _ _ _ _ us hl => match us, hl with | [_, _], _ => rfl
  · exact bind_none rfl fun _ _ _ _ _ _ us hl => match us, hl with | [_, _], _ => rfl
  · exact bind_none rfl fun _ _ _ _ _ _ us hl => match us, hl with | [_, _, _], _ => rfl
  · exact bind_none rfl fun _ _ _ _ _ _ us hl => match us, hl with | [_, _], _ => rfl
  · exact bind_none rfl fun _ _ _ _ _ _ us hl => match us, hl with | [_], _ => rfl
  · exact bind_none rfl fun _ _ _ _ _ _ us hl => match us, hl with | [_, _], _ => rfl
  · exact bind_none rfl fun _ _ _ _ _ _ us hl => match us, hl with | [_, _, _, _], _ => rfl
  · exact bind_none rfl fun _ _ _ _ _ _ us hl => match us, hl with | [_], _ => rfl
  · exact bind_none rfl fun _ _ _ _ _ _ us hl => match us, hl with | [_], _ => rfl
  · exact bind_none rfl fun _ _ _ _ _ _ us hl => match us, hl with | [_], _ => rfl
  · exact bind_none rfl fun _ _ _ _ _ _ us hl => match us, hl with | [_], _ => rfl
  · exact bind_none rfl fun _ _ _ _ _ _ us hl => match us, hl with | [_], _ => rfl
end MP
open PySem PySem.W PySem.Calls PyProof.Rows
theorem PySem.Challenge.cw_armreaches_k01_links_and_frames_recogniz_holds : PySem.Challenge.rw_armreaches_k01_links_and_frames_recogniz.Holds := by
  w_on; o_law
  refine HandSHeadRun.head_any (r := OpenLaw.row PySem.Challenge.rw_armreaches_k01_links_and_frames_recogniz) (q := view (OpenLaw.row PySem.Challenge.rw_armreaches_k01_links_and_frames_recogniz).prog [27]) (H := MP.hk) (ob := MP.ob) (M := 8000) (loose := MP.loose) (d := HandSHeadRun.topDef (OpenLaw.row PySem.Challenge.rw_armreaches_k01_links_and_frames_recogniz).prog 27) (kwd := []) MP.ob_eq
    (by kernel_rfl) (fun s => by kernel_rfl) MP.run (by kernel_rfl) (by kernel_rfl) (by kernel_rfl) (by rfl) (by first | assumption | decide +kernel) (by decide +kernel) ⟨rfl, rfl, rfl, rfl, rfl, by decide +kernel⟩ ?hw ?hc
  case hw => w_witness2
  case hc =>
    refine L2.walk_ofE (l := PySem.Challenge.rw_armreaches_k01_links_and_frames_recogniz) (n := 63) (k := 50) (x := "script") (CX := L2.CX0) rfl (by decide) (by kernel_rfl) ⟨rfl, by decide, by decide⟩ ?F (fun _ _ _ _ z => z)
    intro w mg fa h Y G hmg0
    obtain ⟨K, KX, c⟩ := Y
    have hmg : mg ("law" : PySem.Str) = some (.ref fa) := by
      have e : (HandSHeadRun.topDef (OpenLaw.row PySem.Challenge.rw_armreaches_k01_links_and_frames_recogniz).prog 27).name = ("law" : PySem.Str) := by kernel_rfl
      rw [← e]
      exact hmg0
    have Lk := MP.linked_of (pr := MP.pr) KX G rfl c MP.bindAll MP.chkAll
    obtain ⟨fd, sp, h1, h2, h3⟩ := MP.law_ok (P := (PySem.Challenge.rw_armreaches_k01_links_and_frames_recogniz).prog) (dl := MP.dd_law_k01) Lk (by unfold MP.tab; exact List.mem_cons_of_mem _ (List.mem_cons_of_mem _ (List.mem_cons_of_mem _ (List.mem_cons_of_mem _ (List.mem_cons_of_mem _ (List.mem_cons_of_mem _ (List.mem_cons_of_mem _ (List.mem_cons_of_mem _ (List.mem_cons_of_mem _ (List.mem_cons_of_mem _ (List.mem_cons_of_mem _ (List.mem_cons_of_mem _ (List.mem_cons_of_mem _ (List.mem_cons_of_mem _ (List.mem_cons_of_mem _ (List.mem_cons_of_mem _ (List.mem_cons_of_mem _ (List.mem_cons_of_mem _ (List.mem_cons_of_mem _ (List.mem_cons_of_mem _ (List.mem_cons_of_mem _ (List.mem_cons_self)))))))))))))))))))))) rfl rfl hmg (MP.bindAll _ (by unfold MP.tab; exact List.mem_cons_of_mem _ (List.mem_cons_of_mem _ (List.mem_cons_of_mem _ (List.mem_cons_of_mem _ (List.mem_cons_of_mem _ (List.mem_cons_of_mem _ (List.mem_cons_of_mem _ (List.mem_cons_of_mem _ (List.mem_cons_of_mem _ (List.mem_cons_of_mem _ (List.mem_cons_of_mem _ (List.mem_cons_of_mem _ (List.mem_cons_of_mem _ (List.mem_cons_of_mem _ (List.mem_cons_of_mem _ (List.mem_cons_of_mem _ (List.mem_cons_of_mem _ (List.mem_cons_of_mem _ (List.mem_cons_of_mem _ (List.mem_cons_of_mem _ (List.mem_cons_of_mem _ (List.mem_cons_self))))))))))))))))))))))) MP.lawOk
    exact ⟨K, fd, sp, KX, h1, h2, h3⟩

