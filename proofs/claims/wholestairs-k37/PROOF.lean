import PyProof.Rows.All
import Wide.All
import OpenK.AllK
import Wide.FinOn
import KE.GoesEnum
import HandS.ForMost
import HandS.Zip
import HandS.TupAny
import HandS.TupMul
import HandS.Wide
import HandS.Exc
import HandS.ExcOwn
import HandS.Deep
import HandS.IsInst
import HandS.More
import HandS.Style
import HandS.TupLe
import PyProof.P3In
import HandS.BoundList
import KE.KSortTup
import HandS.Sort
import HandS.SortOrd
import HandS.SortRule
import HandS.SortInts
import KE.DatumOrd
import PyProof.ReprRoads
import HandS.Comp
import HandS.Defaults
import HandS.HeadEnd
import HandS.Flow
import HandS.Dict
import HandS.WordsExc
import KE.KDictDisplayH
import KE.KRevSl
import HandS.DictTup
import HandS.DictComp
import KE.KPairComp
import HandS.Iter
import HandS.HeadHook1
import HandS.HeadHook2
import HandS.HeadHook3
import HandS.HeadHook4
import KE.KStateDown
import Lean
import HandS.Head0
import HandS.Head1
import HandS.Head2
import PySem.Challenge.RW_wholestairs_k37_whole_identities
section
set_option Elab.async false
set_option linter.all false
set_option maxRecDepth 100000
/-! enumerate and zip (two, three) over lists and tuples in any mix -/
namespace Ws
open PySem PySem.Spec PyProof.Rows L2

/-- a list (b = false) or a tuple (b = true) that is read -/
def SqS (K : PySem.W.Frag) (b : Bool) (H : Hp) (a : Addr) (xs : List V) : Prop := if b = true then SqT K H a xs else SqL K H a xs

def itTy (b : Bool) : String := if b = true then "tuple_iterator" else "list_iterator"
def itObj (b : Bool) (a : Addr) : Obj := { cls := .type (itTy b), data := .fields #[.ref a, .int 0 0] }
/-- the iterator's record at turn i -/
def ItAt (b : Bool) (h : Heap) (it a : Addr) (i : Nat) : Prop := if b = true then h.IsTupleIter it a i else h.IsListIter it a i
def DtAt (b : Bool) (h : Heap) (a : Addr) (its : Array Value) : Prop := if b = true then h.IsTuple a its else h.IsList a its

section
variable {X : Cx} {pins : List (Addr × Obj)} {σ : L2.St} {H : Hp} {s : Shared} {a : Addr} {b : Bool} {xs : List V}
theorem sqs_inj {ys : List V} (I : Inv X pins σ H s) (h : SqS X.K b H a xs) (h' : SqS X.K b H a ys) : xs = ys := by
  cases b with
  | true => exact I.tuple_inj h h'
  | false => exact I.list_inj h h'
theorem sqs_dt (I : Inv X pins σ H s) (h : SqS X.K b H a xs) : ∃ its : List Value, Vals xs its ∧ DtAt b s.heap a its.toArray ∧ xs.length ≤ sizeLine ∧ a < s.heap.objs.size := by
  cases b with
  | true =>
    obtain ⟨its, r, p, z⟩ := I.tuple h
    exact ⟨its, r, show s.heap.IsTuple a its.toArray from p, z, p.lt⟩
  | false =>
    obtain ⟨its, r, p, z⟩ := I.list h
    exact ⟨its, r, p.isList, z, p.lt⟩
end

theorem itAt_obj {b : Bool} {h : Heap} {it a : Addr} {i : Nat} (x : ItAt b h it a i) : ∃ o, h.get? it = some o ∧ ∀ v, o.data ≠ .cell v := by
  cases b with
  | true =>
    obtain ⟨o, e, c, d⟩ := (show h.IsTupleIter it a i from x)
    exact ⟨o, e, fun v z => by rw [d] at z; cases z⟩
  | false =>
    obtain ⟨o, e, c, d⟩ := (show h.IsListIter it a i from x)
    exact ⟨o, e, fun v z => by rw [d] at z; cases z⟩
theorem ItAt.at {b : Bool} {h h' : Heap} {it a : Addr} {i : Nat} (x : ItAt b h it a i) (k : ∀ o, h.get? it = some o → h'.get? it = some o) : ItAt b h' it a i := by
  cases b with
  | true => exact Heap.IsTupleIter.at (show h.IsTupleIter it a i from x) k
  | false => exact Heap.IsListIter.at (show h.IsListIter it a i from x) k
theorem DtAt.at {b : Bool} {h h' : Heap} {a : Addr} {its : Array Value} (x : DtAt b h a its) (k : ∀ o, h.get? a = some o → h'.get? a = some o) : DtAt b h' a its := by
  cases b with
  | true => exact Heap.IsTuple.at (show h.IsTuple a its from x) k
  | false => exact Heap.IsList.at (show h.IsList a its from x) k
theorem itAt_new {b : Bool} {h : Heap} {it a : Addr} (e : h.get? it = some (itObj b a)) : ItAt b h it a 0 := by
  cases b with
  | true => exact ⟨_, e, rfl, rfl⟩
  | false => exact ⟨_, e, rfl, rfl⟩
theorem begins_s (b : Bool) (a : Addr) (its : Array Value) : Begins (.ref a) (itObj b a) fun h => DtAt b h a its := by
  cases b with
  | true => exact begins_tuple a its
  | false => exact begins_list a its
theorem draws_s {prog : Program} {w : World} {A : Around} (b : Bool) (hh : A.handled = none) (it a : Addr) (hne : a ≠ it) (its : Array Value) :
    Draws prog w A it [it, a] its.size (fun i v => its[i]? = some v) (fun i h => ItAt b h it a i ∧ DtAt b h a its) := by
  cases b with
  | true => exact Draws.tuple hh it a hne its
  | false => exact Draws.list hh it a hne its


theorem sub_enumB : isSubtype (.type "enumerate") (.type "enumerate") = pure true := by rw [isSubtype_type]; kernel_rfl
set_option maxHeartbeats 1000000 in
theorem meets_enum1 {v : Value} {o : Obj} {H : Heap → Prop} (B : Begins v o H) :
    Meets (Builtin.«enumerate.__new__» ⟨[.type "enumerate", v], []⟩) (fun _ R s => H s.heap ∧
      R (.ok (.ret (.ref (s.heap.push o).objs.size))) { s with heap := (s.heap.push o).push { cls := .type "enumerate", data := .fields #[.none, .bool false, .ref s.heap.objs.size, rawInt 0, .none, .none] } }) :=
  .of_wp fun prog w A R s h => by
    obtain ⟨hp, g, d, tk, os⟩ := s; obtain ⟨h1, h⟩ := h
    have hsub := sub_enumB
    have q1 : ∀ {A' : Around} {E : Value → Shared → Prop} {Q : Value → Shared → Prop}, Q (.ref hp.objs.size) ⟨hp.push o, g, d, tk, os⟩ → wpAny (model prog w) A' (pyIter v) Q E ⟨hp, g, d, tk, os⟩ :=
      fun q => B.iter prog w _ _ ⟨hp, g, d, tk, os⟩ _ h1 q
    wp_walk using q1
    refine wpAny_stack_any fun st => wpAny_pure ?_
    split
    · rename_i c _ _ _ _ _
      cases (c == Value.type "enumerate")
      · wp_walk using q1
        exact ⟨_, rfl, h⟩
      · wp_walk using q1
        exact ⟨_, rfl, h⟩
    · wp_walk using q1
      exact ⟨_, rfl, h⟩
theorem enum_call {prog : Program} {w : World} {A : Around} {E : Value → Shared → Prop} {s : Shared} {v : Value} {o : Obj} {H : Heap → Prop} {Q : Value → Shared → Prop} (B : Begins v o H) (h1 : H s.heap)
    (h : ∀ h', IsEnum h' (s.heap.objs.size + 1) s.heap.objs.size 0 .none → h'.get? s.heap.objs.size = some o → h'.objs.size = s.heap.objs.size + 2 →
      (∀ b o, s.heap.get? b = some o → h'.get? b = some o) → Q (.ref (s.heap.objs.size + 1)) { s with heap := h' }) :
    wpAny (model prog w) A (call (.type "enumerate") [v]) Q E s := by
  refine callType_new F.called_enumerate (by decide) (F.typeCall_enumerate_1 _) (F.newCall_enumerate_1 _) (fun obj => F.args_object_init_2 obj _) F.entry_enumerate_new
    (meets_enum1 B) ⟨h1, ?_⟩
  have hz : (s.heap.push o).objs.size = s.heap.objs.size + 1 := Heap.size_push ..
  show _ ∧ _
  rw [hz]
  have he : IsEnum ((s.heap.push o).push { cls := .type "enumerate", data := .fields #[.none, .bool false, .ref s.heap.objs.size, rawInt 0, .none, .none] }) (s.heap.objs.size + 1) s.heap.objs.size 0 .none := by
    have := Heap.get?_push_size (s.heap.push o) (o := { cls := .type "enumerate", data := .fields #[.none, .bool false, .ref s.heap.objs.size, rawInt 0, .none, .none] }) rfl
    rw [hz] at this; exact this
  refine ⟨⟨_, he, rfl⟩, h _ he (Heap.get?_push_of_some _ (Heap.get?_push_size _ B.free)) (by rw [Heap.size_push, hz]) fun b o x => Heap.get?_push_of_some _ (Heap.get?_push_of_some _ x)⟩

/-! ### enumerate -/
def JEn (K : PySem.W.Frag) (b : Bool) (a : Addr) (xs : List V) : It :=
  ⟨fun i H => SqS K b H a xs ∧ i < xs.length, fun i H v H' => ∃ T x, v = .ref T ∧ H T = none ∧ H' = upd H T (.tup [.int (i : Nat), x]) ∧ xs[i]? = some x, fun i H => SqS K b H a xs ∧ i = xs.length⟩
theorem turn_en {P : Program} {w : World} {K : PySem.W.Frag} {elts : List Expr} {kk : Nat} {tpos : Pos} {b : Bool} {xs : List V} (a e it : Addr) :
    Turn P w K (.Tuple elts kk tpos) (JEn K b a xs) [e, it] e (fun i h => (∃ old, IsEnum h e it ((i : Nat) : Int) old) ∧ ItAt b h it a i ∧ e ≠ it ∧ a ≠ it ∧ a ≠ e) where
  mem := by simp
  obj := fun i h st c hb => by
    obtain ⟨⟨old, he⟩, hi, _⟩ := st
    have e' : c = e ∨ c = it := by simpa using hb
    rcases e' with z | z
    · rw [z]; exact ⟨_, he, fun v q => nomatch q⟩
    · rw [z]; exact itAt_obj hi
  keep := fun i h h' st k => let ⟨⟨old, he⟩, hi, hne⟩ := st; ⟨⟨old, k e (by simp) _ he⟩, hi.at fun o q => k it (by simp) o q, hne⟩
  item := by
    intro X hP hw hK hc i pins s σ H E I hf st hg
    subst hP hw hK
    obtain ⟨⟨old, he⟩, hit, hne, hai, hae⟩ := st
    obtain ⟨hq, hlt⟩ := hg
    obtain ⟨its, rv, hd, hz, hal⟩ := sqs_dt I hq
    obtain ⟨u, hu, ru⟩ := rv.get (List.getElem?_eq_getElem hlt)
    have hel : e < s.heap.objs.size := Heap.lt_size he
    have hil : it < s.heap.objs.size := by obtain ⟨o, q, _⟩ := itAt_obj hit; exact Heap.lt_size q
    have hl := rv.length
    refine wpAny_pyNext_enum_itemC (draws_s (A := X.A.in1) b (show X.A.in1.handled = none from I.ok.hd hc) it a hai its.toArray) he ⟨hit, hd⟩ (by simp; omega) hne (by simp [hne]; exact fun z => hae z.symm) fun x h' tk hP ho hst' hT hsz hk => ?_
    have hxu : x = u := by
      have q : its.toArray[i]? = some x := hP
      have q2 : its[i]? = some x := by simpa using q
      rw [hu] at q2
      exact (Option.some.inj q2).symm
    subst hxu
    refine ⟨_, rfl, wpAny_letOwnedTupleGo_enum (s := { s with heap := h', toks := tk + 1 }) ho fun h'' he' sb => ?_⟩
    have hT2 : h''.get? s.heap.objs.size = some { cls := .type "tuple", data := .seq #[.int i tk, x] } := (sb.2 _ (Nat.ne_of_gt hel)).trans hT
    have new : ObjOk X.prog X.w (upd H s.heap.objs.size (.tup [.int (i : Nat), xs[i]])) h'' s.heap.objs.size (.tup [.int (i : Nat), xs[i]]) :=
      ⟨by show 2 ≤ sizeLine; decide, [.int i tk, x], .cons ⟨_, rfl⟩ (.cons ru .nil), ⟨_, hT2, rfl, _, rfl⟩⟩
    have I1 : Inv X pins σ (upd H s.heap.objs.size (.tup [.int (i : Nat), xs[i]])) { s with heap := h'', toks := tk + 1 } :=
      I.turnedNew (ch := [e, it]) (fun c ob hb q => (sb.2 c (fun z => hb (by simp [z]))).trans (hk c ob (fun z => hb (by simp [z])) (fun z => hb (by simp [z])) q)) hf (Nat.le_refl _) new
    refine ⟨.ref s.heap.objs.size, _, I1, rfl, ⟨_, xs[i], rfl, I.hok.fresh (Nat.le_refl _), rfl, List.getElem?_eq_getElem hlt⟩, ⟨⟨x, ?_⟩, hst'.1.at fun o q => (sb.2 it (Ne.symm hne)).trans q, hne, hai, hae⟩, fun c hb => ?_⟩
    · have e1 : ((i + 1 : Nat) : Int) = (i : Int) + 1 := by omega
      rw [e1]; exact he'
    · have hb' : c < s.heap.objs.size := by
        have e' : c = e ∨ c = it := by simpa using hb
        rcases e' with z | z
        · rw [z]; exact hel
        · rw [z]; exact hil
      rw [upd_ne (Nat.ne_of_lt hb')]
      exact (hf c hb).1
  done := by
    intro X hP hw hK hc i pins s σ H E I hf st hg
    subst hP hw hK
    obtain ⟨⟨old, he⟩, hit, hne, hai, hae⟩ := st
    obtain ⟨hq, hx⟩ := hg
    obtain ⟨its, rv, hd, hz, _⟩ := sqs_dt I hq
    obtain ⟨f0, f1, f2, f3, f4, f5⟩ := hf it (by simp)
    have hl := rv.length
    have hn : i = its.toArray.size := by simp; omega
    subst hn
    exact wpAny_pyNext_enum_endD (draws_s (A := X.A.in1) b (show X.A.in1.handled = none from I.ok.hd hc) it a hai its.toArray) he ⟨hit, hd⟩ fun h' eb => ⟨rfl, I.turned (t' := s.toks) (fun c o hb q => eb c o hb q) f0 f1 f3 f4 f5⟩
  self := fun A i s Q E st h => let ⟨⟨_, he⟩, _⟩ := st; wpAny_pyIter_enum he h
def iEnS (K : PySem.W.Frag) (ta : TA) : TI := fun σ H R => ta σ H fun vs H1 => ∃ b a xs, vs = [.ref a] ∧ SqS K b H1 a xs ∧ R (JEn K b a xs) H1
theorem pi_enS {X : Cx} {e : Expr} {ta : TA} {p pos tpos : Pos} {elts : List Expr} {kk : Nat} (hg : Gl X "enumerate") (hm : X.mg "enumerate" = none) (ha : PA X [e] ta) (hs : starEach [e] X.env = [(false, eval e X.env)]) :
    PI X (.Tuple elts kk tpos) (.Call (.Name "enumerate" p) [e] [] pos) (iEnS X.K ta) := by
  refine ⟨fun pins s σ H R I h => ?_⟩
  refine Call_ (ld_blt I hg hm boot_enumerate (PyProof.Rows.callWith_type1 (thn (ha.run pos pins s σ H _ I h) fun us s1 ⟨vs, H1, I1, r1, q1⟩ => ?_) hs rfl))
  obtain ⟨b, a, xs, ex, hq, q⟩ := q1
  subst ex
  cases r1 with
  | cons r rr =>
    cases rr
    cases r
    obtain ⟨its, rv, hd, hz, hal⟩ := sqs_dt I1 hq
    refine enum_call (begins_s b a its.toArray) hd fun h' he hit hsz hk => wpAny_pyIter_enum he ?_
    have I2 : Inv X pins σ H1 { s1 with heap := h' } := I1.kept (t' := s1.toks) hk
    refine ⟨s1.heap.objs.size + 1, [s1.heap.objs.size + 1, s1.heap.objs.size], _, _, H1, rfl, I2, turn_en a (s1.heap.objs.size + 1) s1.heap.objs.size, ⟨⟨.none, he⟩, itAt_new hit, Nat.succ_ne_self _, Nat.ne_of_lt hal, Nat.ne_of_lt (Nat.lt_succ_of_lt hal)⟩, fun c hb => ?_, q⟩
    have e' : c = s1.heap.objs.size + 1 ∨ c = s1.heap.objs.size := by simpa using hb
    have hle : s1.heap.objs.size ≤ c := by
      rcases e' with z | z
      · rw [z]; exact Nat.le_add_right _ _
      · rw [z]; exact Nat.le_refl _
    exact I1.fpOk hle (I1.hok.fresh hle)

theorem refs_vals : ∀ {as : List Addr} {us : List Value}, Vals (as.map V.ref) us → us = as.map Value.ref
  | [], _, r => by cases r; rfl
  | a :: as, _, r => by
    cases r with
    | cons h t => cases h; rw [refs_vals t]; rfl

theorem tupOf2_obj {h : Heap} {T : Addr} {x1 x2 : Value} (x : IsTupOf2 h T x1 x2) : ∃ o, h.get? T = some o ∧ ∀ v, o.data ≠ .cell v := ⟨_, x, fun v q => nomatch q⟩
theorem tupOf2_at {h h' : Heap} {T : Addr} {x1 x2 : Value} (x : IsTupOf2 h T x1 x2) (k : ∀ o, h.get? T = some o → h'.get? T = some o) : IsTupOf2 h' T x1 x2 := k _ x
theorem tupOf2_is {h : Heap} {T : Addr} {x1 x2 : Value} (x : IsTupOf2 h T x1 x2) : IsTup h T [x1, x2].toArray := ⟨_, x, rfl, _, rfl⟩

theorem tupOf3_obj {h : Heap} {T : Addr} {x1 x2 x3 : Value} (x : IsTupOf3 h T x1 x2 x3) : ∃ o, h.get? T = some o ∧ ∀ v, o.data ≠ .cell v := ⟨_, x, fun v q => nomatch q⟩
theorem tupOf3_at {h h' : Heap} {T : Addr} {x1 x2 x3 : Value} (x : IsTupOf3 h T x1 x2 x3) (k : ∀ o, h.get? T = some o → h'.get? T = some o) : IsTupOf3 h' T x1 x2 x3 := k _ x
theorem tupOf3_is {h : Heap} {T : Addr} {x1 x2 x3 : Value} (x : IsTupOf3 h T x1 x2 x3) : IsTup h T [x1, x2, x3].toArray := ⟨_, x, rfl, _, rfl⟩

/-! ### zip of 2 -/
def JZ2 (K : PySem.W.Frag) (b1 : Bool) (a1 : Addr) (xs1 : List V) (b2 : Bool) (a2 : Addr) (xs2 : List V) : It :=
  ⟨fun i H => SqS K b1 H a1 xs1 ∧ i < xs1.length ∧ SqS K b2 H a2 xs2 ∧ i < xs2.length,
    fun i H v H' => ∃ T x1 x2, v = .ref T ∧ H T = none ∧ H' = upd H T (.tup [x1, x2]) ∧ xs1[i]? = some x1 ∧ xs2[i]? = some x2,
    fun i H => SqS K b1 H a1 xs1 ∧ i ≤ xs1.length ∧ SqS K b2 H a2 xs2 ∧ i ≤ xs2.length ∧ (i = xs1.length ∨ i = xs2.length)⟩
structure Ap2 (z TI TO i1 i2 a1 a2 : Addr) : Prop where
  S : ZipSep2 z TI TO i1 i2 [i1, a1] [i2, a2]
  n1 : a1 ≠ i1
  n2 : a2 ≠ i2

theorem turn_z2 {P : Program} {w : World} {K : PySem.W.Frag} {elts : List Expr} {kk : Nat} {tpos : Pos} {b1 b2 : Bool} {xs1 xs2 : List V} {a1 a2 z TI TO i1 i2 : Addr} (D : Ap2 z TI TO i1 i2 a1 a2) :
    Turn P w K (.Tuple elts kk tpos) (JZ2 K b1 a1 xs1 b2 a2 xs2) [z, TI, TO, i1, i2] z (fun i h => IsZip h z TI TO .none ∧ IsTupOf2 h TI (.ref i1) (.ref i2) ∧ (∃ y1 y2, IsTupOf2 h TO y1 y2) ∧ ItAt b1 h i1 a1 i ∧ ItAt b2 h i2 a2 i) where
  mem := by simp
  obj := fun i h st c hc => by
    obtain ⟨hz, hTI, ⟨y1, y2, hTO⟩, h1, h2⟩ := st
    have e' : c = z ∨ c = TI ∨ c = TO ∨ c = i1 ∨ c = i2 := by simpa using hc
    rcases e' with q | q | q | q | q
    · rw [q]; exact ⟨_, hz, fun v q => nomatch q⟩
    · rw [q]; exact tupOf2_obj hTI
    · rw [q]; exact tupOf2_obj hTO
    · rw [q]; exact itAt_obj h1
    · rw [q]; exact itAt_obj h2
  keep := fun i h h' st k => by
    obtain ⟨hz, hTI, ⟨y1, y2, hTO⟩, h1, h2⟩ := st
    exact ⟨k z (by simp) _ hz, tupOf2_at hTI fun o q => k TI (by simp) o q, ⟨_, _, tupOf2_at hTO fun o q => k TO (by simp) o q⟩, h1.at fun o q => k i1 (by simp) o q, h2.at fun o q => k i2 (by simp) o q⟩
  item := by
    intro X hP hw hK hc i pins s σ H E I hf st hg
    subst hP hw hK
    obtain ⟨hz, hTI, ⟨v1, v2, hTO⟩, h1, h2⟩ := st
    obtain ⟨hq1, hlt1, hq2, hlt2⟩ := hg
    obtain ⟨its1, rv1, hd1, hz1, hal1⟩ := sqs_dt I hq1
    obtain ⟨its2, rv2, hd2, hz2, hal2⟩ := sqs_dt I hq2
    obtain ⟨u1, hu1, ru1⟩ := rv1.get (List.getElem?_eq_getElem hlt1)
    have hl1 := rv1.length
    obtain ⟨u2, hu2, ru2⟩ := rv2.get (List.getElem?_eq_getElem hlt2)
    have hl2 := rv2.length
    have hzl : z < s.heap.objs.size := Heap.lt_size hz
    refine wpAny_pyNext_zipD2_item D.S (draws_s (A := X.A.in1) b1 (show X.A.in1.handled = none from I.ok.hd hc) i1 a1 D.n1 its1.toArray) (draws_s (A := X.A.in1) b2 (show X.A.in1.handled = none from I.ok.hd hc) i2 a2 D.n2 its2.toArray) hz hTI hTO ⟨h1, hd1⟩ ⟨h2, hd2⟩ (by simp; omega) (by simp; omega) fun y1 y2 h' tk hP1 hP2 z' TO' s1 s2 hT hsz hk => ?_
    have e1 : y1 = u1 := by
      have q : its1.toArray[i]? = some y1 := hP1
      have q2 : its1[i]? = some y1 := by simpa using q
      rw [hu1] at q2
      exact (Option.some.inj q2).symm
    subst e1
    have e2 : y2 = u2 := by
      have q : its2.toArray[i]? = some y2 := hP2
      have q2 : its2[i]? = some y2 := by simpa using q
      rw [hu2] at q2
      exact (Option.some.inj q2).symm
    subst e2
    refine ⟨_, rfl, wpAny_letOwnedTupleGo_zip (s := { s with heap := h', toks := tk }) z' fun h'' z'' sb => ?_⟩
    have hT2 : IsTupOf2 h'' s.heap.objs.size y1 y2 := tupOf2_at hT fun o q => (sb.2 _ (Nat.ne_of_gt hzl)).trans q
    have new : ObjOk X.prog X.w (upd H s.heap.objs.size (.tup [xs1[i], xs2[i]])) h'' s.heap.objs.size (.tup [xs1[i], xs2[i]]) :=
      ⟨by show 2 ≤ sizeLine; decide, [y1, y2], .cons ru1 (.cons ru2 (.nil)), tupOf2_is hT2⟩
    have I1 : Inv X pins σ (upd H s.heap.objs.size (.tup [xs1[i], xs2[i]])) { s with heap := h'', toks := tk } :=
      I.turnedNew (ch := [z, TI, TO, i1, i2]) (fun c o hb q => (sb.2 c (fun q' => hb (by simp [q']))).trans (hk c o (fun q' => hb (by simp [q'])) (fun q' => hb (by simp [q'])) (fun q' => hb (by simp [q'])) (fun q' => hb (by simp [q'])) q)) hf (Nat.le_refl _) new
    refine ⟨.ref s.heap.objs.size, _, I1, rfl, ⟨_, xs1[i], xs2[i], rfl, I.hok.fresh (Nat.le_refl _), rfl, List.getElem?_eq_getElem hlt1, List.getElem?_eq_getElem hlt2⟩, ⟨z'', ?_, ⟨y1, y2, ?_⟩, ?_, ?_⟩, fun c hcm => ?_⟩
    · exact tupOf2_at hTI fun o q => (sb.2 _ D.S.TIz).trans (hk _ _ D.S.TIz D.S.TITO D.S.TIi1 D.S.TIi2 q)
    · exact tupOf2_at TO' fun o q => (sb.2 _ D.S.TOz).trans q
    · exact s1.1.at fun o q => (sb.2 _ (Ne.symm (D.S.zi1))).trans q
    · exact s2.1.at fun o q => (sb.2 _ (Ne.symm (D.S.zi2))).trans q
    · have hlt : c < s.heap.objs.size := by
        have e' : c = z ∨ c = TI ∨ c = TO ∨ c = i1 ∨ c = i2 := by simpa using hcm
        rcases e' with q | q | q | q | q
        · rw [q]; exact hzl
        · rw [q]; obtain ⟨o, e1, _⟩ := tupOf2_obj hTI; exact Heap.lt_size e1
        · rw [q]; obtain ⟨o, e1, _⟩ := tupOf2_obj hTO; exact Heap.lt_size e1
        · rw [q]; obtain ⟨o, e1, _⟩ := itAt_obj h1; exact Heap.lt_size e1
        · rw [q]; obtain ⟨o, e1, _⟩ := itAt_obj h2; exact Heap.lt_size e1
      rw [upd_ne (Nat.ne_of_lt hlt)]
      exact (hf c hcm).1
  done := by
    intro X hP hw hK hc i pins s σ H E I hf st hg
    subst hP hw hK
    obtain ⟨hz, hTI, ⟨v1, v2, hTO⟩, h1, h2⟩ := st
    obtain ⟨hq1, hle1, hq2, hle2, hend⟩ := hg
    obtain ⟨its1, rv1, hd1, hz1, hal1⟩ := sqs_dt I hq1
    obtain ⟨its2, rv2, hd2, hz2, hal2⟩ := sqs_dt I hq2
    have hl1 := rv1.length
    have hl2 := rv2.length
    refine wpAny_pyNext_zipD2_end D.S (draws_s (A := X.A.in1) b1 (show X.A.in1.handled = none from I.ok.hd hc) i1 a1 D.n1 its1.toArray) (draws_s (A := X.A.in1) b2 (show X.A.in1.handled = none from I.ok.hd hc) i2 a2 D.n2 its2.toArray) hz hTI hTO ⟨h1, hd1⟩ ⟨h2, hd2⟩ (by simp; omega) (by simp; omega) (by simp; omega) fun h' tk hk => ⟨rfl, I.turnedL (ch := [z, TI, TO, i1, i2]) (fun c o hb q =>
      hk c o (fun q' => hb (by simp [q'])) (fun q' => hb (by simp [q'])) (fun q' => hb (by simp [q'])) (fun q' => hb (by simp [q'])) q) hf⟩
  self := fun A i s Q E st h => wpAny_pyIter_zip st.1 h
def iZ2 (K : PySem.W.Frag) (ta : TA) : TI := fun σ H R => ta σ H fun vs H1 => ∃ b1 a1 xs1 b2 a2 xs2, vs = [.ref a1, .ref a2] ∧ SqS K b1 H1 a1 xs1 ∧ SqS K b2 H1 a2 xs2 ∧ R (JZ2 K b1 a1 xs1 b2 a2 xs2) H1

theorem pi_z2 {X : Cx} {e1 e2 : Expr} {ta : TA} {p pos tpos : Pos} {elts : List Expr} {kk : Nat} (hg : Gl X "zip") (hm : X.mg "zip" = none) (ha : PA X [e1, e2] ta)
    (hs : starEach [e1, e2] X.env = (false, eval e1 X.env) :: starEach [e2] X.env) (hpl : (backTo pos (starEach [e2] X.env)).any (·.1) = false) :
    PI X (.Tuple elts kk tpos) (.Call (.Name "zip" p) [e1, e2] [] pos) (iZ2 X.K ta) := by
  refine ⟨fun pins s σ H R I h => ?_⟩
  refine Call_ (ld_blt I hg hm PyProof.Rows.boot_zip (PyProof.Rows.callWith_type1 (thn (ha.run pos pins s σ H _ I h) fun us s1 ⟨vs, H1, I1, r1, q1⟩ => ?_) hs hpl))
  obtain ⟨b1, a1, xs1, b2, a2, xs2, ex, hq1, hq2, q⟩ := q1
  subst ex
  obtain rfl : us = [.ref a1, .ref a2] := refs_vals (as := [a1, a2]) r1
  obtain ⟨its1, rv1, hd1, hz1, hal1⟩ := sqs_dt I1 hq1
  obtain ⟨its2, rv2, hd2, hz2, hal2⟩ := sqs_dt I1 hq2
  refine zip_begins2 (begins_s b1 a1 its1.toArray) (begins_s b2 a2 its2.toArray) hd1 hd2 fun h' hz hTI hTO h1 h2 hsz hk => wpAny_pyIter_zip hz ?_
  have I2 : Inv X pins σ H1 { s1 with heap := h' } := I1.kept (t' := s1.toks) hk
  refine ⟨s1.heap.objs.size + 4, [s1.heap.objs.size + 4, s1.heap.objs.size + 2, s1.heap.objs.size + 3, s1.heap.objs.size, s1.heap.objs.size + 1], _, _, H1, rfl, I2, turn_z2 ⟨zip_sep2 (fp1 := [a1]) (by simp; exact hal1) (fp2 := [a2]) (by simp; exact hal2), Nat.ne_of_lt (Nat.lt_of_lt_of_le hal1 (Nat.le_add_right _ 0)), Nat.ne_of_lt (Nat.lt_of_lt_of_le hal2 (Nat.le_add_right _ 1))⟩, ⟨hz, hTI, ⟨_, _, hTO⟩, itAt_new h1, itAt_new h2⟩, fun c hcm => ?_, q⟩
  have e' : c = s1.heap.objs.size + 4 ∨ c = s1.heap.objs.size + 2 ∨ c = s1.heap.objs.size + 3 ∨ c = s1.heap.objs.size ∨ c = s1.heap.objs.size + 1 := by simpa using hcm
  have hle : s1.heap.objs.size ≤ c := by
    rcases e' with z | z | z | z | z <;> rw [z] <;> first | exact Nat.le_add_right _ _ | exact Nat.le_refl _
  exact I1.fpOk hle (I1.hok.fresh hle)

/-! ### zip of 3 -/
def JZ3 (K : PySem.W.Frag) (b1 : Bool) (a1 : Addr) (xs1 : List V) (b2 : Bool) (a2 : Addr) (xs2 : List V) (b3 : Bool) (a3 : Addr) (xs3 : List V) : It :=
  ⟨fun i H => SqS K b1 H a1 xs1 ∧ i < xs1.length ∧ SqS K b2 H a2 xs2 ∧ i < xs2.length ∧ SqS K b3 H a3 xs3 ∧ i < xs3.length,
    fun i H v H' => ∃ T x1 x2 x3, v = .ref T ∧ H T = none ∧ H' = upd H T (.tup [x1, x2, x3]) ∧ xs1[i]? = some x1 ∧ xs2[i]? = some x2 ∧ xs3[i]? = some x3,
    fun i H => SqS K b1 H a1 xs1 ∧ i ≤ xs1.length ∧ SqS K b2 H a2 xs2 ∧ i ≤ xs2.length ∧ SqS K b3 H a3 xs3 ∧ i ≤ xs3.length ∧ (i = xs1.length ∨ i = xs2.length ∨ i = xs3.length)⟩
structure Ap3 (z TI TO i1 i2 i3 a1 a2 a3 : Addr) : Prop where
  S : ZipSep3 z TI TO i1 i2 i3 [i1, a1] [i2, a2] [i3, a3]
  n1 : a1 ≠ i1
  n2 : a2 ≠ i2
  n3 : a3 ≠ i3

theorem turn_z3 {P : Program} {w : World} {K : PySem.W.Frag} {elts : List Expr} {kk : Nat} {tpos : Pos} {b1 b2 b3 : Bool} {xs1 xs2 xs3 : List V} {a1 a2 a3 z TI TO i1 i2 i3 : Addr} (D : Ap3 z TI TO i1 i2 i3 a1 a2 a3) :
    Turn P w K (.Tuple elts kk tpos) (JZ3 K b1 a1 xs1 b2 a2 xs2 b3 a3 xs3) [z, TI, TO, i1, i2, i3] z (fun i h => IsZip h z TI TO .none ∧ IsTupOf3 h TI (.ref i1) (.ref i2) (.ref i3) ∧ (∃ y1 y2 y3, IsTupOf3 h TO y1 y2 y3) ∧ ItAt b1 h i1 a1 i ∧ ItAt b2 h i2 a2 i ∧ ItAt b3 h i3 a3 i) where
  mem := by simp
  obj := fun i h st c hc => by
    obtain ⟨hz, hTI, ⟨y1, y2, y3, hTO⟩, h1, h2, h3⟩ := st
    have e' : c = z ∨ c = TI ∨ c = TO ∨ c = i1 ∨ c = i2 ∨ c = i3 := by simpa using hc
    rcases e' with q | q | q | q | q | q
    · rw [q]; exact ⟨_, hz, fun v q => nomatch q⟩
    · rw [q]; exact tupOf3_obj hTI
    · rw [q]; exact tupOf3_obj hTO
    · rw [q]; exact itAt_obj h1
    · rw [q]; exact itAt_obj h2
    · rw [q]; exact itAt_obj h3
  keep := fun i h h' st k => by
    obtain ⟨hz, hTI, ⟨y1, y2, y3, hTO⟩, h1, h2, h3⟩ := st
    exact ⟨k z (by simp) _ hz, tupOf3_at hTI fun o q => k TI (by simp) o q, ⟨_, _, _, tupOf3_at hTO fun o q => k TO (by simp) o q⟩, h1.at fun o q => k i1 (by simp) o q, h2.at fun o q => k i2 (by simp) o q, h3.at fun o q => k i3 (by simp) o q⟩
  item := by
    intro X hP hw hK hc i pins s σ H E I hf st hg
    subst hP hw hK
    obtain ⟨hz, hTI, ⟨v1, v2, v3, hTO⟩, h1, h2, h3⟩ := st
    obtain ⟨hq1, hlt1, hq2, hlt2, hq3, hlt3⟩ := hg
    obtain ⟨its1, rv1, hd1, hz1, hal1⟩ := sqs_dt I hq1
    obtain ⟨its2, rv2, hd2, hz2, hal2⟩ := sqs_dt I hq2
    obtain ⟨its3, rv3, hd3, hz3, hal3⟩ := sqs_dt I hq3
    obtain ⟨u1, hu1, ru1⟩ := rv1.get (List.getElem?_eq_getElem hlt1)
    have hl1 := rv1.length
    obtain ⟨u2, hu2, ru2⟩ := rv2.get (List.getElem?_eq_getElem hlt2)
    have hl2 := rv2.length
    obtain ⟨u3, hu3, ru3⟩ := rv3.get (List.getElem?_eq_getElem hlt3)
    have hl3 := rv3.length
    have hzl : z < s.heap.objs.size := Heap.lt_size hz
    refine wpAny_pyNext_zipD3_item D.S (draws_s (A := X.A.in1) b1 (show X.A.in1.handled = none from I.ok.hd hc) i1 a1 D.n1 its1.toArray) (draws_s (A := X.A.in1) b2 (show X.A.in1.handled = none from I.ok.hd hc) i2 a2 D.n2 its2.toArray) (draws_s (A := X.A.in1) b3 (show X.A.in1.handled = none from I.ok.hd hc) i3 a3 D.n3 its3.toArray) hz hTI hTO ⟨h1, hd1⟩ ⟨h2, hd2⟩ ⟨h3, hd3⟩ (by simp; omega) (by simp; omega) (by simp; omega) fun y1 y2 y3 h' tk hP1 hP2 hP3 z' TO' s1 s2 s3 hT hsz hk => ?_
    have e1 : y1 = u1 := by
      have q : its1.toArray[i]? = some y1 := hP1
      have q2 : its1[i]? = some y1 := by simpa using q
      rw [hu1] at q2
      exact (Option.some.inj q2).symm
    subst e1
    have e2 : y2 = u2 := by
      have q : its2.toArray[i]? = some y2 := hP2
      have q2 : its2[i]? = some y2 := by simpa using q
      rw [hu2] at q2
      exact (Option.some.inj q2).symm
    subst e2
    have e3 : y3 = u3 := by
      have q : its3.toArray[i]? = some y3 := hP3
      have q2 : its3[i]? = some y3 := by simpa using q
      rw [hu3] at q2
      exact (Option.some.inj q2).symm
    subst e3
    refine ⟨_, rfl, wpAny_letOwnedTupleGo_zip (s := { s with heap := h', toks := tk }) z' fun h'' z'' sb => ?_⟩
    have hT2 : IsTupOf3 h'' s.heap.objs.size y1 y2 y3 := tupOf3_at hT fun o q => (sb.2 _ (Nat.ne_of_gt hzl)).trans q
    have new : ObjOk X.prog X.w (upd H s.heap.objs.size (.tup [xs1[i], xs2[i], xs3[i]])) h'' s.heap.objs.size (.tup [xs1[i], xs2[i], xs3[i]]) :=
      ⟨by show 3 ≤ sizeLine; decide, [y1, y2, y3], .cons ru1 (.cons ru2 (.cons ru3 (.nil))), tupOf3_is hT2⟩
    have I1 : Inv X pins σ (upd H s.heap.objs.size (.tup [xs1[i], xs2[i], xs3[i]])) { s with heap := h'', toks := tk } :=
      I.turnedNew (ch := [z, TI, TO, i1, i2, i3]) (fun c o hb q => (sb.2 c (fun q' => hb (by simp [q']))).trans (hk c o (fun q' => hb (by simp [q'])) (fun q' => hb (by simp [q'])) (fun q' => hb (by simp [q'])) (fun q' => hb (by simp [q'])) (fun q' => hb (by simp [q'])) q)) hf (Nat.le_refl _) new
    refine ⟨.ref s.heap.objs.size, _, I1, rfl, ⟨_, xs1[i], xs2[i], xs3[i], rfl, I.hok.fresh (Nat.le_refl _), rfl, List.getElem?_eq_getElem hlt1, List.getElem?_eq_getElem hlt2, List.getElem?_eq_getElem hlt3⟩, ⟨z'', ?_, ⟨y1, y2, y3, ?_⟩, ?_, ?_, ?_⟩, fun c hcm => ?_⟩
    · exact tupOf3_at hTI fun o q => (sb.2 _ D.S.TIz).trans (hk _ _ D.S.TIz D.S.TITO D.S.TIi1 D.S.TIi2 D.S.TIi3 q)
    · exact tupOf3_at TO' fun o q => (sb.2 _ D.S.TOz).trans q
    · exact s1.1.at fun o q => (sb.2 _ (Ne.symm (D.S.zi1))).trans q
    · exact s2.1.at fun o q => (sb.2 _ (Ne.symm (D.S.zi2))).trans q
    · exact s3.1.at fun o q => (sb.2 _ (Ne.symm (D.S.zi3))).trans q
    · have hlt : c < s.heap.objs.size := by
        have e' : c = z ∨ c = TI ∨ c = TO ∨ c = i1 ∨ c = i2 ∨ c = i3 := by simpa using hcm
        rcases e' with q | q | q | q | q | q
        · rw [q]; exact hzl
        · rw [q]; obtain ⟨o, e1, _⟩ := tupOf3_obj hTI; exact Heap.lt_size e1
        · rw [q]; obtain ⟨o, e1, _⟩ := tupOf3_obj hTO; exact Heap.lt_size e1
        · rw [q]; obtain ⟨o, e1, _⟩ := itAt_obj h1; exact Heap.lt_size e1
        · rw [q]; obtain ⟨o, e1, _⟩ := itAt_obj h2; exact Heap.lt_size e1
        · rw [q]; obtain ⟨o, e1, _⟩ := itAt_obj h3; exact Heap.lt_size e1
      rw [upd_ne (Nat.ne_of_lt hlt)]
      exact (hf c hcm).1
  done := by
    intro X hP hw hK hc i pins s σ H E I hf st hg
    subst hP hw hK
    obtain ⟨hz, hTI, ⟨v1, v2, v3, hTO⟩, h1, h2, h3⟩ := st
    obtain ⟨hq1, hle1, hq2, hle2, hq3, hle3, hend⟩ := hg
    obtain ⟨its1, rv1, hd1, hz1, hal1⟩ := sqs_dt I hq1
    obtain ⟨its2, rv2, hd2, hz2, hal2⟩ := sqs_dt I hq2
    obtain ⟨its3, rv3, hd3, hz3, hal3⟩ := sqs_dt I hq3
    have hl1 := rv1.length
    have hl2 := rv2.length
    have hl3 := rv3.length
    refine wpAny_pyNext_zipD3_end D.S (draws_s (A := X.A.in1) b1 (show X.A.in1.handled = none from I.ok.hd hc) i1 a1 D.n1 its1.toArray) (draws_s (A := X.A.in1) b2 (show X.A.in1.handled = none from I.ok.hd hc) i2 a2 D.n2 its2.toArray) (draws_s (A := X.A.in1) b3 (show X.A.in1.handled = none from I.ok.hd hc) i3 a3 D.n3 its3.toArray) hz hTI hTO ⟨h1, hd1⟩ ⟨h2, hd2⟩ ⟨h3, hd3⟩ (by simp; omega) (by simp; omega) (by simp; omega) (by simp; omega) fun h' tk hk => ⟨rfl, I.turnedL (ch := [z, TI, TO, i1, i2, i3]) (fun c o hb q =>
      hk c o (fun q' => hb (by simp [q'])) (fun q' => hb (by simp [q'])) (fun q' => hb (by simp [q'])) (fun q' => hb (by simp [q'])) (fun q' => hb (by simp [q'])) q) hf⟩
  self := fun A i s Q E st h => wpAny_pyIter_zip st.1 h
def iZ3 (K : PySem.W.Frag) (ta : TA) : TI := fun σ H R => ta σ H fun vs H1 => ∃ b1 a1 xs1 b2 a2 xs2 b3 a3 xs3, vs = [.ref a1, .ref a2, .ref a3] ∧ SqS K b1 H1 a1 xs1 ∧ SqS K b2 H1 a2 xs2 ∧ SqS K b3 H1 a3 xs3 ∧ R (JZ3 K b1 a1 xs1 b2 a2 xs2 b3 a3 xs3) H1

theorem pi_z3 {X : Cx} {e1 e2 e3 : Expr} {ta : TA} {p pos tpos : Pos} {elts : List Expr} {kk : Nat} (hg : Gl X "zip") (hm : X.mg "zip" = none) (ha : PA X [e1, e2, e3] ta)
    (hs : starEach [e1, e2, e3] X.env = (false, eval e1 X.env) :: starEach [e2, e3] X.env) (hpl : (backTo pos (starEach [e2, e3] X.env)).any (·.1) = false) :
    PI X (.Tuple elts kk tpos) (.Call (.Name "zip" p) [e1, e2, e3] [] pos) (iZ3 X.K ta) := by
  refine ⟨fun pins s σ H R I h => ?_⟩
  refine Call_ (ld_blt I hg hm PyProof.Rows.boot_zip (PyProof.Rows.callWith_type1 (thn (ha.run pos pins s σ H _ I h) fun us s1 ⟨vs, H1, I1, r1, q1⟩ => ?_) hs hpl))
  obtain ⟨b1, a1, xs1, b2, a2, xs2, b3, a3, xs3, ex, hq1, hq2, hq3, q⟩ := q1
  subst ex
  obtain rfl : us = [.ref a1, .ref a2, .ref a3] := refs_vals (as := [a1, a2, a3]) r1
  obtain ⟨its1, rv1, hd1, hz1, hal1⟩ := sqs_dt I1 hq1
  obtain ⟨its2, rv2, hd2, hz2, hal2⟩ := sqs_dt I1 hq2
  obtain ⟨its3, rv3, hd3, hz3, hal3⟩ := sqs_dt I1 hq3
  refine zip_begins3 (begins_s b1 a1 its1.toArray) (begins_s b2 a2 its2.toArray) (begins_s b3 a3 its3.toArray) hd1 hd2 hd3 fun h' hz hTI hTO h1 h2 h3 hsz hk => wpAny_pyIter_zip hz ?_
  have I2 : Inv X pins σ H1 { s1 with heap := h' } := I1.kept (t' := s1.toks) hk
  refine ⟨s1.heap.objs.size + 5, [s1.heap.objs.size + 5, s1.heap.objs.size + 3, s1.heap.objs.size + 4, s1.heap.objs.size, s1.heap.objs.size + 1, s1.heap.objs.size + 2], _, _, H1, rfl, I2, turn_z3 ⟨zip_sep3 (fp1 := [a1]) (by simp; exact hal1) (fp2 := [a2]) (by simp; exact hal2) (fp3 := [a3]) (by simp; exact hal3), Nat.ne_of_lt (Nat.lt_of_lt_of_le hal1 (Nat.le_add_right _ 0)), Nat.ne_of_lt (Nat.lt_of_lt_of_le hal2 (Nat.le_add_right _ 1)), Nat.ne_of_lt (Nat.lt_of_lt_of_le hal3 (Nat.le_add_right _ 2))⟩, ⟨hz, hTI, ⟨_, _, _, hTO⟩, itAt_new h1, itAt_new h2, itAt_new h3⟩, fun c hcm => ?_, q⟩
  have e' : c = s1.heap.objs.size + 5 ∨ c = s1.heap.objs.size + 3 ∨ c = s1.heap.objs.size + 4 ∨ c = s1.heap.objs.size ∨ c = s1.heap.objs.size + 1 ∨ c = s1.heap.objs.size + 2 := by simpa using hcm
  have hle : s1.heap.objs.size ≤ c := by
    rcases e' with z | z | z | z | z | z <;> rw [z] <;> first | exact Nat.le_add_right _ _ | exact Nat.le_refl _
  exact I1.fpOk hle (I1.hok.fresh hle)
end Ws
end

section
set_option Elab.async false
set_option linter.all false
set_option maxRecDepth 100000
/-! The simple interpreter: values, cells, core texts, and what they do. No machine here. -/
namespace Ws
open PySem

/-! ### values and cells -/
inductive SV where
  | non | bl (b : Bool) | int (i : Int) | str (x : Str)
  | tup (xs : List SV) | lst (xs : List SV) | dct (kvs : List (SV × SV)) | ref (n : Nat)
  /-- a tuple of the written part -/
  | kt (xs : List SV)

mutual
def SV.deq : (a b : SV) → Decidable (a = b)
  | .non, .non => Decidable.isTrue rfl
  | .bl a, .bl b => if h : a = b then Decidable.isTrue (by rw [h]) else Decidable.isFalse fun e => h (SV.bl.inj e)
  | .int a, .int b => if h : a = b then Decidable.isTrue (by rw [h]) else Decidable.isFalse fun e => h (SV.int.inj e)
  | .str a, .str b => if h : a = b then Decidable.isTrue (by rw [h]) else Decidable.isFalse fun e => h (SV.str.inj e)
  | .ref a, .ref b => if h : a = b then Decidable.isTrue (by rw [h]) else Decidable.isFalse fun e => h (SV.ref.inj e)
  | .tup a, .tup b => match SV.deqL a b with
    | Decidable.isTrue h => Decidable.isTrue (by rw [h])
    | Decidable.isFalse h => Decidable.isFalse fun e => h (SV.tup.inj e)
  | .lst a, .lst b => match SV.deqL a b with
    | Decidable.isTrue h => Decidable.isTrue (by rw [h])
    | Decidable.isFalse h => Decidable.isFalse fun e => h (SV.lst.inj e)
  | .kt a, .kt b => match SV.deqL a b with
    | Decidable.isTrue h => Decidable.isTrue (by rw [h])
    | Decidable.isFalse h => Decidable.isFalse fun e => h (SV.kt.inj e)
  | .dct a, .dct b => match SV.deqK a b with
    | Decidable.isTrue h => Decidable.isTrue (by rw [h])
    | Decidable.isFalse h => Decidable.isFalse fun e => h (SV.dct.inj e)
  | .non, .bl _ | .non, .int _ | .non, .str _ | .non, .tup _ | .non, .lst _ | .non, .dct _ | .non, .ref _ | .non, .kt _ => Decidable.isFalse nofun
  | .bl _, .non | .bl _, .int _ | .bl _, .str _ | .bl _, .tup _ | .bl _, .lst _ | .bl _, .dct _ | .bl _, .ref _ | .bl _, .kt _ => Decidable.isFalse nofun
  | .int _, .non | .int _, .bl _ | .int _, .str _ | .int _, .tup _ | .int _, .lst _ | .int _, .dct _ | .int _, .ref _ | .int _, .kt _ => Decidable.isFalse nofun
  | .str _, .non | .str _, .bl _ | .str _, .int _ | .str _, .tup _ | .str _, .lst _ | .str _, .dct _ | .str _, .ref _ | .str _, .kt _ => Decidable.isFalse nofun
  | .tup _, .non | .tup _, .bl _ | .tup _, .int _ | .tup _, .str _ | .tup _, .lst _ | .tup _, .dct _ | .tup _, .ref _ | .tup _, .kt _ => Decidable.isFalse nofun
  | .lst _, .non | .lst _, .bl _ | .lst _, .int _ | .lst _, .str _ | .lst _, .tup _ | .lst _, .dct _ | .lst _, .ref _ | .lst _, .kt _ => Decidable.isFalse nofun
  | .dct _, .non | .dct _, .bl _ | .dct _, .int _ | .dct _, .str _ | .dct _, .tup _ | .dct _, .lst _ | .dct _, .ref _ | .dct _, .kt _ => Decidable.isFalse nofun
  | .ref _, .non | .ref _, .bl _ | .ref _, .int _ | .ref _, .str _ | .ref _, .tup _ | .ref _, .lst _ | .ref _, .dct _ | .ref _, .kt _ => Decidable.isFalse nofun
  | .kt _, .non | .kt _, .bl _ | .kt _, .int _ | .kt _, .str _ | .kt _, .tup _ | .kt _, .lst _ | .kt _, .dct _ | .kt _, .ref _ => Decidable.isFalse nofun
def SV.deqL : (a b : List SV) → Decidable (a = b)
  | [], [] => Decidable.isTrue rfl
  | [], _ :: _ => Decidable.isFalse nofun
  | _ :: _, [] => Decidable.isFalse nofun
  | a :: as, b :: bs => match SV.deq a b with
    | Decidable.isFalse h => Decidable.isFalse fun e => h (List.cons.inj e).1
    | Decidable.isTrue h => match SV.deqL as bs with
      | Decidable.isTrue h2 => Decidable.isTrue (by rw [h, h2])
      | Decidable.isFalse h2 => Decidable.isFalse fun e => h2 (List.cons.inj e).2
def SV.deqK : (a b : List (SV × SV)) → Decidable (a = b)
  | [], [] => Decidable.isTrue rfl
  | [], _ :: _ => Decidable.isFalse nofun
  | _ :: _, [] => Decidable.isFalse nofun
  | (a, x) :: as, (b, y) :: bs => match SV.deq a b with
    | Decidable.isFalse h => Decidable.isFalse fun e => h (Prod.mk.inj (List.cons.inj e).1).1
    | Decidable.isTrue h => match SV.deq x y with
      | Decidable.isFalse h => Decidable.isFalse fun e => h (Prod.mk.inj (List.cons.inj e).1).2
      | Decidable.isTrue h1 => match SV.deqK as bs with
        | Decidable.isTrue h2 => Decidable.isTrue (by rw [h, h1, h2])
        | Decidable.isFalse h2 => Decidable.isFalse fun e => h2 (List.cons.inj e).2
end
instance : DecidableEq SV := SV.deq

/-- a cell: a list; a dict whose keys are ints and texts; one whose keys are tuples of these -/
inductive SO where
  | lst (xs : List SV) | dct (kvs : List (SV × SV)) | dtt (kvs : List (SV × SV))
  /-- keys that are tuples; walked once, never written again -/
  | ddf (kvs : List (SV × SV))
  deriving DecidableEq
abbrev SH := List SO

inductive Res (α : Type) where
  | ok (a : α) (h : SH) | err (c : Str) (v : SV) (h : SH) | bad
def Res.bind {α β : Type} (r : Res α) (f : α → SH → Res β) : Res β := match r with
  | .ok a h => f a h
  | .err c v h => .err c v h
  | .bad => .bad
@[simp] theorem Res.bind_ok {α β : Type} {a : α} {h : SH} {f : α → SH → Res β} : (Res.ok a h).bind f = f a h := rfl
@[simp] theorem Res.bind_err {α β : Type} {c v h} {f : α → SH → Res β} : (Res.err c v h).bind f = .err c v h := rfl
@[simp] theorem Res.bind_bad {α β : Type} {f : α → SH → Res β} : (Res.bad).bind f = .bad := rfl

abbrev SE := List (Option SV)

/-! ### operations on values -/
/-! as library data (refs and dicts have none) -/
mutual
def SV.pd : SV → PyData
  | .non => .none
  | .bl b => .bool b
  | .int i => .int i
  | .str x => .str x
  | .tup xs => .tuple (SV.pdL xs)
  | .lst xs => .list (SV.pdL xs)
  | .dct _ => .none
  | .ref _ => .none
  | .kt _ => .none
def SV.pdL : List SV → List PyData
  | [] => []
  | x :: xs => SV.pd x :: SV.pdL xs
end
/-- data, nested at most n deep -/
def SV.fit : Nat → SV → Bool
  | _, .non => true
  | _, .bl _ => true
  | _, .int _ => true
  | _, .str x => PyData.strOk x
  | n + 1, .tup xs => xs.all (SV.fit n)
  | n + 1, .lst xs => xs.all (SV.fit n)
  | _, _ => false
def veq (a b : SV) : Bool := PyData.eqv a.pd b.pd

inductive BOp where
  | add | sub | mul | fdiv | mod | pow
  deriving DecidableEq
inductive COp where
  | eq | ne | lt | le | gt | ge | is | isNot | mem | notMem
  deriving DecidableEq

/-- how many bits the machine takes of factors, of divisors -/
def mulFits (i j : Int) : Bool := (decide (-(2 ^ 64) < i ∧ i < 2 ^ 64) || decide (-(2 ^ 64) < j ∧ j < 2 ^ 64)) || decide (i.natAbs.log2 + j.natAbs.log2 < 1000000)
def divFits (j : Int) : Bool := decide (j ≠ 0) && decide (j.natAbs.log2 < 9000)

def seqLen : Nat := 16777216

def binop : BOp → SV → SV → Option SV
  | .add, .int i, .int j => some (.int (i + j))
  | .sub, .int i, .int j => some (.int (i - j))
  | .mul, .int i, .int j => if mulFits i j = true then some (.int (i * j)) else none
  | .fdiv, .int i, .int j => if divFits j = true then some (.int (i.fdiv j)) else none
  | .mod, .int i, .int j => if decide (j ≠ 0) = true then some (.int (i.fmod j)) else none
  | .pow, .int i, .int j => if (decide (0 ≤ j) && (decide (j ≤ 1000000) && decide (i.natAbs < 2 ^ 64))) = true then some (.int (i ^ j.toNat)) else none
  | .add, .tup xs, .tup ys => if decide (xs.length + ys.length ≤ seqLen) = true then some (.tup (xs ++ ys)) else none
  | .add, .lst xs, .lst ys => if decide (xs.length + ys.length ≤ seqLen) = true then some (.lst (xs ++ ys)) else none
  | .add, .str x, .str y => if decide (x.length + y.length ≤ seqLen) = true then some (.str (x ++ y)) else none
  | .mul, .tup xs, .int k => if decide (-1000 ≤ k ∧ k ≤ 1000 ∧ xs.length ≤ 1000 ∧ 0 < xs.length) = true then some (.tup (List.replicate k.toNat xs).flatten) else none
  | _, _, _ => none

def itemAt (xs : List SV) (i : Int) : Option SV := L2.atI xs i
def cutL (xs : List SV) (lo hi : Option Int) : List SV := (xs.drop (HT.sIx xs.length 0 lo)).take (HT.sIx xs.length xs.length hi - HT.sIx xs.length 0 lo)
/-- a slice that leaves something out -/
def partB (n : Nat) (lo hi : Option Int) : Bool := !(decide (HT.sIx n 0 lo = 0) && decide (HT.sIx n n hi = n))

def find (kvs : List (SV × SV)) (k : SV) : Option SV := (kvs.find? fun p => decide (p.1 = k)).map (·.2)
def putV (kvs : List (SV × SV)) (k v : SV) : List (SV × SV) :=
  if (kvs.any fun p => decide (p.1 = k)) = true then kvs.map (fun p => if p.1 = k then (p.1, v) else p) else kvs ++ [(k, v)]

def SV.flat : SV → Bool
  | .int _ => true
  | .str _ => true
  | _ => false
/-- a key that is a tuple of ints and texts -/
def SV.flatT : SV → Bool
  | .tup ks => ks.all SV.flat
  | _ => false
/-- is it a key of the dict at n? -/
def hasKey (h : SH) (n : Nat) (v : SV) : Option Bool := match h[n]? with
  | some (.dct kvs) => if v.flat = true then some (find kvs v).isSome else none
  | some (.dtt kvs) => if v.flatT = true then some (find kvs v).isSome else none
  | some (.ddf kvs) => if v.flatT = true then some (find kvs v).isSome else none
  | _ => none
/-- a cell that is a dict -/
def isDc (h : SH) : SV → Bool
  | .ref n => match h[n]? with
    | some (.dct _) => true
    | some (.dtt _) => true
    | some (.ddf _) => true
    | _ => false
  | _ => false
/-- what it holds there, or else d -/
def getV (h : SH) (o k d : SV) : Option SV := match o with
  | .ref n => match h[n]? with
    | some (.dct kvs) => if k.flat = true then some ((find kvs k).getD d) else none
    | some (.dtt kvs) => if k.flatT = true then some ((find kvs k).getD d) else none
    | some (.ddf kvs) => if k.flatT = true then some ((find kvs k).getD d) else none
    | _ => none
  | _ => none
/-- compared: eq, ne of data; order of ints; is of None and of bools; in a list or tuple of data, in a dict -/
def cmpop (h : SH) : COp → SV → SV → Option Bool
  | .lt, .int i, .int j => some (decide (i < j))
  | .le, .int i, .int j => some (decide (i ≤ j))
  | .gt, .int i, .int j => some (decide (j < i))
  | .ge, .int i, .int j => some (decide (j ≤ i))
  | .is, v, .non => some (decide (v = .non))
  | .isNot, v, .non => some (!decide (v = .non))
  | .is, .bl a, .bl b => some (decide (a = b))
  | .isNot, .bl a, .bl b => some (!decide (a = b))
  | .mem, v, .tup xs => if (v.fit 30 && (SV.tup xs).fit 30) = true then some (xs.any fun x => veq x v) else none
  | .notMem, v, .tup xs => if (v.fit 30 && (SV.tup xs).fit 30) = true then some (!xs.any fun x => veq x v) else none
  | .mem, v, .lst xs => if (v.fit 30 && (SV.lst xs).fit 30) = true then some (xs.any fun x => veq x v) else none
  | .notMem, v, .lst xs => if (v.fit 30 && (SV.lst xs).fit 30) = true then some (!xs.any fun x => veq x v) else none
  | .mem, v, .ref n => hasKey h n v
  | .notMem, v, .ref n => (hasKey h n v).map (!·)
  | .eq, a, b => match a, b with
    | .str x, .str y => some (decide (x = y))
    | _, _ => if (a.fit 30 && b.fit 30) = true then some (veq a b) else none
  | .ne, a, b => match a, b with
    | .str x, .str y => some (!decide (x = y))
    | _, _ => if (a.fit 30 && b.fit 30) = true then some (!veq a b) else none
  | _, _, _ => none

def truthOf (h : SH) : SV → Option Bool
  | .non => some false
  | .bl b => some b
  | .int i => some (i != 0)
  | .tup xs => some (!xs.isEmpty)
  | .lst xs => some (!xs.isEmpty)
  | .ref n => match h[n]? with
    | some (.lst xs) => some (!xs.isEmpty)
    | _ => none
  | _ => none

/-- the items of what a loop walks -/
def itemsOf (h : SH) : SV → Option (List SV)
  | .tup xs => some xs
  | .kt xs => some xs
  | .lst xs => some xs
  | .ref n => match h[n]? with
    | some (.lst xs) => some xs
    | _ => none
  | _ => none
def asInt : SV → Option Int
  | .int i => some i
  | _ => none
/-- the items of a list -/
def listOf (h : SH) : SV → Option (List SV)
  | .tup _ => none
  | .kt _ => none
  | v => itemsOf h v
def intsOf : List SV → Option (List Int)
  | [] => some []
  | .int i :: r => (intsOf r).map (i :: ·)
  | _ => none
def blsOf : List SV → Option (List Bool)
  | [] => some []
  | .bl b :: r => (blsOf r).map (b :: ·)
  | _ => none

inductive BI where
  | len | sum | all | any | tuple | list | int | abs | max1 | max2 | min2 | repr | isInt | isBool | isTuple | isStr | sorted
  deriving DecidableEq

/-- tuples of ints, none of them empty -/
def tupsOf : List SV → Option (List (List Int))
  | [] => some []
  | .tup xs :: r => match intsOf xs with
    | some (n :: ns) => (tupsOf r).map ((n :: ns) :: ·)
    | _ => none
  | _ => none
/-- the order of tuples of ints -/
def leL : List Int → List Int → Bool
  | [], _ => true
  | _ :: _, [] => false
  | a :: x, b :: y => if a = b then leL x y else decide (a < b)
def maxF (n : Int) (ns : List Int) : Int := ns.foldl (fun a y => if decide (a < y) = true then y else a) n

/-- what repr tells is short enough -/
def reprFits (v : SV) : Bool := (v.fit 30 && v.pd.showable) && decide (v.pd.shown.length ≤ seqLen)
/-- the name of a value's type -/
def tyName (h : SH) : SV → Option String
  | .non => some "NoneType"
  | .bl _ => some "bool"
  | .int _ => some "int"
  | .str _ => some "str"
  | .tup _ => some "tuple"
  | .kt _ => some "tuple"
  | .lst _ => some "list"
  | .dct _ => some "dict"
  | .ref n => match h[n]? with
    | some (.lst _) => some "list"
    | some (.dct _) => some "dict"
    | some (.dtt _) => some "dict"
    | some (.ddf _) => none
    | none => none
def isOne (T : String) (n : String) : Bool := decide (n = T) || (decide (n = "bool") && decide (T = "int"))

def builtin (h : SH) : BI → List SV → Option SV
  | .len, [v] => (itemsOf h v).map fun xs => .int (xs.length : Nat)
  | .sum, [v] => ((listOf h v).bind intsOf).map fun ns => .int ns.sum
  | .all, [v] => ((listOf h v).bind blsOf).map fun bs => .bl (bs.all id)
  | .any, [v] => ((listOf h v).bind blsOf).map fun bs => .bl (bs.any id)
  | .tuple, [v] => match v with
    | .kt _ => none
    | v => (itemsOf h v).map .tup
  | .list, [v] => (itemsOf h v).map .lst
  | .sorted, [v] => match listOf h v with
    | some xs => match intsOf xs with
      | some ns => some (.lst ((ns.mergeSort fun a b => decide (a ≤ b)).map .int))
      | none => (tupsOf xs).map fun ts => .lst ((ts.mergeSort leL).map fun t => .tup (t.map .int))
    | none => none
  | .int, [v] => match v with
    | .int i => some (.int i)
    | .bl b => some (.int (if b then 1 else 0))
    | _ => none
  | .abs, [v] => (asInt v).map fun i => .int (if i < 0 then -i else i)
  | .max1, [v] => match v with
    | .tup xs => match intsOf xs with
      | some (n :: ns) => some (.int (maxF n ns))
      | _ => none
    | _ => none
  | .max2, [v, w] => (asInt v).bind fun i => (asInt w).map fun j => .int (if j > i then j else i)
  | .min2, [v, w] => (asInt v).bind fun i => (asInt w).map fun j => .int (if j < i then j else i)
  | .repr, [v] => match v with
    | .tup _ => if reprFits v = true then some (.str v.pd.shown) else none
    | .lst _ => if reprFits v = true then some (.str v.pd.shown) else none
    | _ => none
  | .isInt, [v] => (tyName h v).map fun n => .bl (isOne "int" n)
  | .isBool, [v] => (tyName h v).map fun n => .bl (isOne "bool" n)
  | .isTuple, [v] => (tyName h v).map fun n => .bl (isOne "tuple" n)
  | .isStr, [v] => (tyName h v).map fun n => .bl (isOne "str" n)
  | _, _ => none

/-! ### core texts -/
inductive CT where
  | name (i : Nat) | pair (a b : CT) | three (a b c : CT)

mutual
inductive CE where
  | var (i : Nat) | non | bl (b : Bool) | int (i : Int) | str (x : Str) | glob (x : Str)
  | bin (op : BOp) (a b : CE) | neg (a : CE)
  | cmp (op : COp) (a b : CE) | chain (o1 o2 : COp) (a b c : CE)
  | and (a b : CE) | or (a b : CE) | not (a : CE) | ite (t a b : CE)
  | tup (es : CEs) | lst (c : Bool) (es : CEs) | repL (c : Bool) (a b : CE)
  | ix (a i : CE) | sl (a : CE) (lo hi : CO)
  | call (f : Nat) (perm : List Nat) (es ks : CEs)
  | bi (b : BI) (es : CEs)
  | comp (c : Bool) (elt : CE) (t : CT) (it : CI) (own : List Nat) | compIf (c : Bool) (elt : CE) (t : CT) (it : CI) (cd : CE) (own : List Nat)
  | dict (es : CEs)
  | get (o k d : CE) | dictT (es : CEs) | rev (e : CE)
  | compD (k v : CE) (t : CT) (it : CI) (cd : CE) (own : List Nat)
inductive CEs where
  | nil | cons (e : CE) (r : CEs)
inductive CO where
  | none | some (e : CE)
inductive CI where
  | it (e : CE) | range1 (e : CE) | range2 (a b : CE) | enum (e : CE) | zip2 (a b : CE) | zip3 (a b c : CE) | items (e : CE) | keys (e : CE)
end

mutual
inductive CS where
  | set (t : CT) (e : CE) | par (i j : Nat) (a b : CE) | par3 (i j k : Nat) (a b c : CE) | setIx (o i e : CE) | nev
  | expr (e : CE) | append (o e : CE) | extend (o e : CE)
  | ret (e : CE) | retN | cond (t : CE) (a b : CSs)
  | loop (t : CT) (it : CI) (body : CSs) (kill : List Nat)
  | brk | cnt | pass | throw (c : Str) (e : CE)
inductive CSs where
  | nil | cons (s : CS) (r : CSs) | kill (ks : List Nat) (r : CSs)
end

/-! ### what they do -/
def look (env : SE) (i : Nat) : Option SV := match env[i]? with
  | some (some v) => some v
  | _ => none
def wipeE (env : SE) : List Nat → SE
  | [] => env
  | v :: vs => (wipeE env vs).set v none
def store : CT → SV → SE → Option SE
  | .name i, v, env => some (env.set i (some v))
  | .pair a b, .tup [x, y], env => (store a x env).bind (store b y)
  | .pair a b, .kt [x, y], env => (store a x env).bind (store b y)
  | .three a b c, .tup [x, y, z], env => (store a x env).bind fun e => (store b y e).bind (store c z)
  | _, _, _ => none

def ofO {α : Type} (h : SH) : Option α → Res α
  | some a => .ok a h
  | none => .bad
@[simp] theorem ofO_some {α : Type} {h : SH} {a : α} : ofO h (some a) = .ok a h := rfl
@[simp] theorem ofO_none {α : Type} {h : SH} : ofO h (none : Option α) = .bad := rfl

/-- a new list: a cell, or a value that stands still -/
def mkL (c : Bool) (xs : List SV) (h : SH) : Res SV := if decide (xs.length ≤ seqLen) = true then (if c = true then .ok (.ref h.length) (h ++ [.lst xs]) else .ok (.lst xs) h) else .bad
/-- a list's items, k times -/
def repOf : SV → SV → Option (List SV)
  | .lst xs, .int k => if decide (k ≤ 1000 ∧ -1000 ≤ k ∧ xs.length ≤ 1000) = true then some (List.replicate k.toNat xs).flatten else none
  | _, _ => none
/-- the slots that a target stores -/
def slots : CT → List Nat
  | .name i => [i]
  | .pair a b => slots a ++ slots b
  | .three a b c => slots a ++ (slots b ++ slots c)
/-- a comprehension over items: what the body gives, none to leave out -/
def compF (body : SV → SH → Res (Option SV)) : List SV → SH → Res (List SV)
  | [], h => .ok [] h
  | x :: xs, h => match body x h with
    | .ok o h1 => match compF body xs h1 with
      | .ok r h2 => .ok (match o with | some y => y :: r | none => r) h2
      | .err _ _ _ => .bad
      | .bad => .bad
    | .err _ _ _ => .bad
    | .bad => .bad

/-- a dict's comprehension -/
def dcF (body : SV → SH → Res (Option (SV × SV))) : List SV → List (SV × SV) → SH → Res (List (SV × SV))
  | [], acc, h => .ok acc h
  | x :: xs, acc, h => match body x h with
    | .ok (some kv) h1 => if (kv.1.flatT && decide (acc.length < seqLen)) = true then dcF body xs (putV acc kv.1 kv.2) h1 else .bad
    | .ok none h1 => dcF body xs acc h1
    | .err _ _ _ => .bad
    | .bad => .bad
/-- the dict at n is walked: locked from now on -/
def lockD (v : SV) (h : SH) : Option (List (SV × SV) × SH) := match v with
  | .ref n => match h[n]? with
    | some (.dtt kvs) => some (kvs, h.set n (.ddf kvs))
    | some (.ddf kvs) => some (kvs, h)
    | _ => none
  | _ => none
def rangeOf (lo hi : Int) : List SV := (List.range (hi - lo).toNat).map fun k => .int (lo + (k : Nat))
def small62 (i : Int) : Bool := Nat.blt i.natAbs 4611686018427387904
def enumOf (k : Nat) : List SV → List SV
  | [] => []
  | x :: r => .tup [.int (k : Nat), x] :: enumOf (k + 1) r
def zip2Of : List SV → List SV → List SV
  | x :: xs, y :: ys => .tup [x, y] :: zip2Of xs ys
  | _, _ => []
def zip3Of : List SV → List SV → List SV → List SV
  | x :: xs, y :: ys, z :: zs => .tup [x, y, z] :: zip3Of xs ys zs
  | _, _, _ => []


/-- what stands in the program besides: the constants of the module; the defs, at a depth -/
structure Pr where
  glob : Str → Option SV
  dfl : Nat → List SV
  call : Nat → List SV → SH → Res SV

def permute {α : Type} (p : List Nat) (xs : List α) : List α := p.filterMap fun i => xs[i]?
/-- the pairs of a dict display -/
def pairUp : List SV → Option (List (SV × SV))
  | [] => some []
  | [_] => none
  | k :: v :: r => if k.flat = true then (pairUp r).map ((k, v) :: ·) else none

def sliceV (v : SV) (lo hi : Option Int) (h : SH) : Option SV := match v with
  | .tup xs => if partB xs.length lo hi = true then some (.tup (cutL xs lo hi)) else none
  | .lst xs => some (.lst (cutL xs lo hi))
  | .ref n => match h[n]? with
    | some (.lst xs) => some (.lst (cutL xs lo hi))
    | _ => none
  | _ => none

def itemV (v i : SV) (h : SH) : Option SV := match v with
  | .tup xs => match i with
    | .int k => itemAt xs k
    | _ => none
  | .lst xs => match i with
    | .int k => itemAt xs k
    | _ => none
  | .dct kvs => match i with
    | .int k => find kvs (.int k)
    | _ => none
  | .ref n => match h[n]? with
    | some (.lst xs) => match i with
      | .int k => itemAt xs k
      | _ => none
    | some (.dct kvs) => if i.flat = true then find kvs i else none
    | some (.dtt kvs) => if i.flatT = true then find kvs i else none
    | some (.ddf kvs) => if i.flatT = true then find kvs i else none
    | _ => none
  | _ => none

mutual
def ev (p : Pr) : CE → SE → SH → Res SV
  | .var i, env, h => ofO h (look env i)
  | .non, _, h => .ok .non h
  | .bl b, _, h => .ok (.bl b) h
  | .int i, _, h => .ok (.int i) h
  | .str x, _, h => .ok (.str x) h
  | .glob x, _, h => ofO h (p.glob x)
  | .bin op a b, env, h => (ev p a env h).bind fun x h => (ev p b env h).bind fun y h => ofO h (binop op x y)
  | .neg a, env, h => (ev p a env h).bind fun x h => ofO h ((asInt x).map fun i => .int (-i))
  | .cmp op a b, env, h => (ev p a env h).bind fun x h => (ev p b env h).bind fun y h => ofO h ((cmpop h op x y).map .bl)
  | .chain o1 o2 a b c, env, h => (ev p a env h).bind fun x h => (ev p b env h).bind fun y h => match cmpop h o1 x y with
    | none => .bad
    | some false => .ok (.bl false) h
    | some true => (ev p c env h).bind fun z h => ofO h ((cmpop h o2 y z).map .bl)
  | .and a b, env, h => (ev p a env h).bind fun x h => match x with
    | .bl true => ev p b env h
    | .bl false => .ok (.bl false) h
    | _ => .bad
  | .or a b, env, h => (ev p a env h).bind fun x h => match x with
    | .bl true => .ok (.bl true) h
    | .bl false => ev p b env h
    | _ => .bad
  | .not a, env, h => (ev p a env h).bind fun x h => ofO h ((truthOf h x).map fun b => .bl (!b))
  | .ite t a b, env, h => (evT p t env h).bind fun c h => if c = true then ev p a env h else ev p b env h
  | .tup es, env, h => (evs p es env h).bind fun xs h => if decide (xs.length ≤ seqLen) = true then .ok (.tup xs) h else .bad
  | .lst c es, env, h => (evs p es env h).bind fun xs h => mkL c xs h
  | .repL c a b, env, h => (ev p a env h).bind fun x h => (ev p b env h).bind fun y h => match repOf x y with
    | some xs => mkL c xs h
    | none => .bad
  | .ix a i, env, h => (ev p a env h).bind fun x h => (ev p i env h).bind fun y h => ofO h (itemV x y h)
  | .sl a lo hi, env, h => (ev p a env h).bind fun x h => (evo p lo env h).bind fun i h => (evo p hi env h).bind fun j h => ofO h (sliceV x i j h)
  | .call f perm es ks, env, h => (evs p es env h).bind fun xs h => (evs p ks env h).bind fun ys h => p.call f (permute perm (xs ++ (ys ++ p.dfl f))) h
  | .bi b es, env, h => (evs p es env h).bind fun xs h => ofO h (builtin h b xs)
  | .comp c elt t it own, env, h => (evi p it env h).bind fun xs h => (compF (fun x h => match store t x (wipeE env own) with
    | none => .bad
    | some env2 => (ev p elt env2 h).bind fun y h => .ok (some y) h) xs h).bind fun r h => mkL c r h
  | .compIf cl elt t it c own, env, h => (evi p it env h).bind fun xs h => (compF (fun x h => match store t x (wipeE env own) with
    | none => .bad
    | some env2 => (evT p c env2 h).bind fun b h => if b = true then (ev p elt env2 h).bind fun y h => .ok (some y) h else .ok none h) xs h).bind fun r h => mkL cl r h
  | .dict es, env, h => (evs p es env h).bind fun xs h => match pairUp xs with
    | some kvs => if decide (kvs.length ≤ 15) = true then .ok (.ref h.length) (h ++ [.dct (kvs.foldl (fun acc kv => putV acc kv.1 kv.2) [])]) else .bad
    | none => .bad
  | .get o k d, env, h => (ev p o env h).bind fun x h => if isDc h x = true then (ev p k env h).bind fun y h => (ev p d env h).bind fun z h => ofO h (getV h x y z) else .bad
  | .dictT es, env, h => (evs p es env h).bind fun xs h => match xs with
    | [] => .ok (.ref h.length) (h ++ [.dtt []])
    | [k, v] => if k.flatT = true then .ok (.ref h.length) (h ++ [.dtt [(k, v)]]) else .bad
    | _ => .bad
  | .rev e, env, h => (ev p e env h).bind fun x h => match x with
    | .tup xs => .ok (.tup xs.reverse) h
    | _ => .bad
  | .compD k v t it c own, env, h => (evi p it env h).bind fun xs h => (dcF (fun x h => match store t x (wipeE env own) with
    | none => .bad
    | some env2 => (evT p c env2 h).bind fun b h => if b = true then (ev p k env2 h).bind fun kk h => (ev p v env2 h).bind fun vv h => .ok (some (kk, vv)) h else .ok none h) xs [] h).bind fun r h => .ok (.ref h.length) (h ++ [.dtt r])
def evT (p : Pr) : CE → SE → SH → Res Bool
  | .and a b, env, h => (evT p a env h).bind fun x h => if x = true then evT p b env h else .ok false h
  | .or a b, env, h => (evT p a env h).bind fun x h => if x = true then .ok true h else evT p b env h
  | .not a, env, h => (evT p a env h).bind fun b h => .ok (!b) h
  | .cmp op a b, env, h => (ev p a env h).bind fun x h => (ev p b env h).bind fun y h => ofO h (cmpop h op x y)
  | .chain o1 o2 a b c, env, h => (ev p a env h).bind fun x h => (ev p b env h).bind fun y h => match cmpop h o1 x y with
    | none => .bad
    | some false => .ok false h
    | some true => (ev p c env h).bind fun z h => ofO h (cmpop h o2 y z)
  | .var i, env, h => ofO h ((look env i).bind (truthOf h))
  | .call f perm es ks, env, h => (evs p es env h).bind fun xs h => (evs p ks env h).bind fun ys h => (p.call f (permute perm (xs ++ (ys ++ p.dfl f))) h).bind fun x h => ofO h (truthOf h x)
  | .bi b es, env, h => (evs p es env h).bind fun xs h => ofO h ((builtin h b xs).bind (truthOf h))
  | .ix a i, env, h => (ev p a env h).bind fun x h => (ev p i env h).bind fun y h => ofO h ((itemV x y h).bind (truthOf h))
  | _, _, _ => .bad
def evs (p : Pr) : CEs → SE → SH → Res (List SV)
  | .nil, _, h => .ok [] h
  | .cons e r, env, h => (ev p e env h).bind fun x h => (evs p r env h).bind fun xs h => .ok (x :: xs) h
def evo (p : Pr) : CO → SE → SH → Res (Option Int)
  | .none, _, h => .ok none h
  | .some e, env, h => (ev p e env h).bind fun x h => ofO h ((asInt x).map some)
def evi (p : Pr) : CI → SE → SH → Res (List SV)
  | .it e, env, h => (ev p e env h).bind fun x h => match x with
    | .tup xs => .ok xs h
    | .lst xs => .ok xs h
    | .kt xs => .ok xs h
    | _ => .bad
  | .range1 e, env, h => (ev p e env h).bind fun x h => match x with
    | .int i => if small62 i = true then .ok (rangeOf 0 i) h else .bad
    | _ => .bad
  | .range2 a b, env, h => (ev p a env h).bind fun x h => (ev p b env h).bind fun y h => match x, y with
    | .int i, .int j => if (small62 i && small62 j) = true then .ok (rangeOf i j) h else .bad
    | _, _ => .bad
  | .enum e, env, h => (ev p e env h).bind fun x h => match x with
    | .tup xs => .ok (enumOf 0 xs) h
    | .lst xs => .ok (enumOf 0 xs) h
    | .kt xs => .ok (enumOf 0 xs) h
    | _ => .bad
  | .zip2 a b, env, h => (ev p a env h).bind fun x h => (ev p b env h).bind fun y h => match x, y with
    | .tup xs, .tup ys => .ok (zip2Of xs ys) h
    | .tup xs, .lst ys => .ok (zip2Of xs ys) h
    | .lst xs, .tup ys => .ok (zip2Of xs ys) h
    | .lst xs, .lst ys => .ok (zip2Of xs ys) h
    | _, _ => .bad
  | .zip3 a b c, env, h => .bad
  | .items e, env, h => (ev p e env h).bind fun x h => match lockD x h with
    | some (kvs, h2) => .ok (kvs.map fun p => .tup [p.1, p.2]) h2
    | none => .bad
  | .keys e, env, h => (ev p e env h).bind fun x h => match lockD x h with
    | some (kvs, h2) => .ok (kvs.map (·.1)) h2
    | none => .bad
end

inductive Out where
  | nx (env : SE) (h : SH) | bk (env : SE) (h : SH) | ct (env : SE) (h : SH) | rt (v : SV) (h : SH) | err (c : Str) (v : SV) (env : SE) (h : SH) | bad

def Out.of {α : Type} (env : SE) (r : Res α) (f : α → SH → Out) : Out := match r with
  | .ok a h => f a h
  | .err c v h => .err c v env h
  | .bad => .bad
@[simp] theorem Out.of_ok {α : Type} {env : SE} {a : α} {h : SH} {f : α → SH → Out} : Out.of env (.ok a h) f = f a h := rfl
@[simp] theorem Out.of_bad {α : Type} {env : SE} {f : α → SH → Out} : Out.of env .bad f = .bad := rfl
@[simp] theorem Out.of_err {α : Type} {env : SE} {c v h} {f : α → SH → Out} : Out.of env (.err c v h) f = .err c v env h := rfl

def loopF (kill : List Nat) (body : SV → SE → SH → Out) : List SV → SE → SH → Out
  | [], env, h => .nx env h
  | x :: xs, env, h => match body x env h with
    | .nx e h1 => loopF kill body xs (wipeE e kill) h1
    | .ct e h1 => loopF kill body xs (wipeE e kill) h1
    | .bk e h1 => .nx (wipeE e kill) h1
    | .rt v h1 => .rt v h1
    | .err c v e h1 => .err c v e h1
    | .bad => .bad

def setIxH (o i v : SV) (h : SH) : Option SH := match o with
  | .ref n => match h[n]? with
    | some (.lst xs) => match i with
      | .int k => match L2.ixN xs.length k with
        | some j => some (h.set n (.lst (xs.set j v)))
        | none => none
      | _ => none
    | some (.dct kvs) => if (i.flat && decide (kvs.length < seqLen)) = true then some (h.set n (.dct (putV kvs i v))) else none
    | some (.dtt kvs) => if (i.flatT && decide (kvs.length < seqLen)) = true then some (h.set n (.dtt (putV kvs i v))) else none
    | _ => none
  | _ => none

/-- a cell that is a list -/
def isL (h : SH) : SV → Bool
  | .ref n => match h[n]? with
    | some (.lst _) => true
    | _ => false
  | _ => false
def listItems : SV → Option (List SV)
  | .lst xs => some xs
  | _ => none
/-- more items at a list's end -/
def appH (o : SV) (ys : List SV) (h : SH) : Option SH := match o with
  | .ref n => match h[n]? with
    | some (.lst xs) => if decide (xs.length + ys.length ≤ seqLen) = true then some (h.set n (.lst (xs ++ ys))) else none
    | _ => none
  | _ => none

mutual
def evS (p : Pr) : CS → SE → SH → Out
  | .set t e, env, h => Out.of env (ev p e env h) fun x h => match store t x env with
    | some env2 => .nx env2 h
    | none => .bad
  | .par i j a b, env, h => Out.of env (ev p a env h) fun x h => Out.of env (ev p b env h) fun y h => .nx ((env.set i (some x)).set j (some y)) h
  | .par3 i j k a b c, env, h => Out.of env (ev p a env h) fun x h => Out.of env (ev p b env h) fun y h => Out.of env (ev p c env h) fun z h => .nx (((env.set i (some x)).set j (some y)).set k (some z)) h
  | .nev, _, _ => .bad
  | .setIx o i e, env, h => Out.of env (ev p e env h) fun v h => Out.of env (ev p o env h) fun o h => Out.of env (ev p i env h) fun i h => match setIxH o i v h with
    | some h2 => .nx env h2
    | none => .bad
  | .expr e, env, h => Out.of env (ev p e env h) fun _ h => .nx env h
  | .append o e, env, h => Out.of env (ev p o env h) fun o h => if isL h o = true then Out.of env (ev p e env h) fun v h => match appH o [v] h with
    | some h2 => .nx env h2
    | none => .bad
    else .bad
  | .extend o e, env, h => Out.of env (ev p o env h) fun o h => if isL h o = true then Out.of env (ev p e env h) fun v h => match listItems v with
    | some ys => match appH o ys h with
      | some h2 => .nx env h2
      | none => .bad
    | none => .bad
    else .bad
  | .ret e, env, h => Out.of env (ev p e env h) fun x h => .rt x h
  | .retN, _, h => .rt .non h
  | .cond t a b, env, h => Out.of env (evT p t env h) fun c h => if c = true then evSs p a env h else evSs p b env h
  | .loop t it body kill, env, h => Out.of env (evi p it env h) fun xs h => loopF kill (fun x env h => match store t x env with
    | some env2 => evSs p body env2 h
    | none => .bad) xs env h
  | .brk, env, h => .bk env h
  | .cnt, env, h => .ct env h
  | .pass, env, h => .nx env h
  | .throw c e, env, h => Out.of env (ev p e env h) fun x h => .err c x env h
def evSs (p : Pr) : CSs → SE → SH → Out
  | .nil, env, h => .nx env h
  | .cons s r, env, h => match evS p s env h with
    | .nx env h => evSs p r env h
    | o => o
  | .kill ks r, env, h => evSs p r (wipeE env ks) h
end

/-! ### defs -/
structure FT where
  name : Str
  N : List Str
  ps : List Str
  dfl : List SV
  body : CSs
  keep : Bool
  pure : Bool

/-- a value without cells from n on: what is new is read off -/
def freezeL (f : SV → Option SV) : List SV → Option (List SV)
  | [] => some []
  | x :: xs => match f x, freezeL f xs with
    | some y, some ys => some (y :: ys)
    | _, _ => none
def freeze (n : Nat) (h : SH) : Nat → SV → Option SV
  | _, .non => some .non
  | _, .bl b => some (.bl b)
  | _, .int i => some (.int i)
  | _, .str x => some (.str x)
  | k + 1, .tup xs => (freezeL (freeze n h k) xs).map .tup
  | k + 1, .lst xs => (freezeL (freeze n h k) xs).map .lst
  | k + 1, .ref m => if n ≤ m then (match h[m]? with
    | some (.lst xs) => (freezeL (freeze n h k) xs).map .lst
    | _ => none) else none
  | _, _ => none

def finish (F : FT) (h0 : SH) (v : SV) (h : SH) : Res SV :=
  if F.keep = true then .ok v h else match freeze h0.length h 12 v with
    | none => .bad
    | some w => if h.take h0.length = h0 then .ok w h0 else if w = v then .ok v h else .bad

structure Tb where
  glob : Str → Option SV
  funs : List FT

def startE (F : FT) (vs : List SV) : SE := vs.map some ++ List.replicate (F.N.length - vs.length) none

def runF (p : Pr) (F : FT) (xs : List SV) (h : SH) : Res SV :=
  if decide (xs.length = F.ps.length) = true then
    match evSs p F.body (startE F xs) h with
      | .nx _ h1 => finish F h .non h1
      | .rt v h1 => finish F h v h1
      | .err c v _ h1 => .err c v h1
      | _ => .bad
  else .bad
def dflOf (T : Tb) (f : Nat) : List SV := match T.funs[f]? with
  | some F => F.dfl
  | none => []
mutual
/-- a value without cells -/
def SV.dry : SV → Bool
  | .non => true
  | .bl _ => true
  | .int _ => true
  | .str _ => true
  | .tup xs => dryL xs
  | .lst xs => dryL xs
  | .dct _ => false
  | .ref _ => false
  | .kt _ => false
def dryL : List SV → Bool
  | [] => true
  | x :: xs => SV.dry x && dryL xs
end
/-- a def that needs no cells of others, and leaves none: run with none ahead -/
def dryRun (r : Res SV) (h : SH) : Res SV := match r with
  | .ok w [] => .ok w h
  | _ => .bad
def callF (T : Tb) : Nat → Nat → List SV → SH → Res SV
  | 0, _, _, _ => .bad
  | d + 1, f, xs, h => match T.funs[f]? with
    | none => .bad
    | some F => if F.pure = true then (if dryL xs = true then dryRun (runF ⟨T.glob, dflOf T, callF T d⟩ F xs []) h else .bad) else runF ⟨T.glob, dflOf T, callF T d⟩ F xs h
def prOf (T : Tb) (d : Nat) : Pr := ⟨T.glob, dflOf T, callF T d⟩
end Ws
end

section
set_option Elab.async false
set_option linter.all false
set_option maxRecDepth 100000
set_option autoImplicit false
/-! values and cells of the simple interpreter, as they lie in the layer's heap -/
namespace Ws
open PySem PySem.Spec PyProof.Rows L2

/-! ### what is read -/
def KTup (K : PySem.W.Frag) (a : Addr) (vs : List V) : Prop :=
  ∃ (o : Obj) (its : Array Value) (n : Nat), K.lookup a = some o ∧ o.cls = .type "tuple" ∧ o.data = .seq its n ∧ its.size ≤ sizeLine ∧ Vals vs its.toList
def KLst (K : PySem.W.Frag) (a : Addr) (vs : List V) : Prop :=
  ∃ (its : Array Value) (n : Nat), K.lookup a = some { cls := .type "list", data := .seq its n } ∧ its.size ≤ sizeLine ∧ Vals vs its.toList
/-- the addresses of the cells, in their order; and of lists that are being made just now -/
structure Ms where
  c : List Addr
  b : List Addr
/-- an object that stands still: tracked, and no cell of ours, not being made; or of the written part -/
def Fz (H : Hp) (M : Ms) (a : Addr) (u : HO) : Prop := (a ∉ M.c ∧ a ∉ M.b) ∧ Rd H a u
def Tp (K : PySem.W.Frag) (H : Hp) (M : Ms) (a : Addr) (vs : List V) : Prop := H a = some (.tup vs)
def Lp (K : PySem.W.Frag) (H : Hp) (M : Ms) (a : Addr) (vs : List V) : Prop := Fz H M a (.lst vs) ∨ KLst K a vs
theorem Tp.sq {K : PySem.W.Frag} {H : Hp} {M : Ms} {a : Addr} {vs : List V} (h : Tp K H M a vs) : SqT K H a vs := .inl (.inl h)
theorem KTup.sq {K : PySem.W.Frag} {H : Hp} {a : Addr} {vs : List V} (h : KTup K a vs) : SqT K H a vs := .inr h
theorem Lp.sq {K : PySem.W.Frag} {H : Hp} {M : Ms} {a : Addr} {vs : List V} (h : Lp K H M a vs) : SqL K H a vs := h.elim (fun z => .inl z.2) fun ⟨its, n, e, h1, h2⟩ => .inr ⟨_, its, n, e, rfl, rfl, rfl, h1, h2⟩

/-- a dict of the written part, its keys ints -/
def KDctI (K : PySem.W.Frag) (a : Addr) (ks : List Int) (vs : List V) : Prop :=
  ∃ (es : Array DictEntry) (n : Nat), K.lookup a = some ⟨.type "dict", none, .dict es n, #[]⟩ ∧
    Paired (fun (p : Int × V) (e : DictEntry) => (∃ t, e.key = .int p.1 t) ∧ e.hash = hashInt p.1 ∧ L2.RelV p.2 e.val) (ks.zip vs) es.toList

def keyOf : SV → Option Key
  | .int i => some (.inl i)
  | .str x => some (.inr x)
  | _ => none
def keysOf : List SV → Option (List Key)
  | [] => some []
  | x :: xs => match keyOf x, keysOf xs with
    | some k, some ks => some (k :: ks)
    | _, _ => none

mutual
inductive Rep (K : PySem.W.Frag) (H : Hp) (M : Ms) : SV → V → Prop
  | non : Rep K H M .non .non
  | bl (b : Bool) : Rep K H M (.bl b) (.bl b)
  | int (i : Int) : Rep K H M (.int i) (.int i)
  | str (x : Str) : Rep K H M (.str x) (.str x)
  | tup {a : Addr} {xs : List SV} {vs : List V} : Tp K H M a vs → RepL K H M xs vs → Rep K H M (.tup xs) (.ref a)
  | lst {a : Addr} {xs : List SV} {vs : List V} : Lp K H M a vs → RepL K H M xs vs → Rep K H M (.lst xs) (.ref a)
  | dW {a : Addr} {ks : List Int} {xs : List SV} {vs : List V} : KDctI K a ks vs → ks.length = xs.length → RepL K H M xs vs → Rep K H M (.dct ((ks.map SV.int).zip xs)) (.ref a)
  | ref {n : Nat} {a : Addr} : M.c[n]? = some a → Rep K H M (.ref n) (.ref a)
  | kt {a : Addr} {xs : List SV} {vs : List V} : KTup K a vs → RepL K H M xs vs → Rep K H M (.kt xs) (.ref a)
inductive RepL (K : PySem.W.Frag) (H : Hp) (M : Ms) : List SV → List V → Prop
  | nil : RepL K H M [] []
  | cons {x : SV} {v : V} {xs : List SV} {vs : List V} : Rep K H M x v → RepL K H M xs vs → RepL K H M (x :: xs) (v :: vs)
inductive RepK (K : PySem.W.Frag) (H : Hp) (M : Ms) : List (SV × SV) → List (Key × V) → Prop
  | nil : RepK K H M [] []
  | cons {k x : SV} {q : Key} {v : V} {xs : List (SV × SV)} {vs : List (Key × V)} : keyOf k = some q → Rep K H M x v → RepK K H M xs vs → RepK K H M ((k, x) :: xs) ((q, v) :: vs)
inductive RepT (K : PySem.W.Frag) (H : Hp) (M : Ms) : List (SV × SV) → List (List Key × V) → Prop
  | nil : RepT K H M [] []
  | cons {k : List SV} {x : SV} {q : List Key} {v : V} {xs : List (SV × SV)} {vs : List (List Key × V)} : keysOf k = some q → Rep K H M x v → RepT K H M xs vs → RepT K H M ((.tup k, x) :: xs) ((q, v) :: vs)
end

/-- how heaps go on: cells may come and change; all else that was tracked can be read as before -/
structure Evo (H : Hp) (M : Ms) (H' : Hp) (M' : Ms) : Prop where
  pre : ∃ E, M'.c = M.c ++ E ∧ ∀ a ∈ E, (a ∉ M.c ∧ a ∉ M.b) ∧ H a = none
  busy : M'.b = M.b
  same : ∀ a ∈ M.b, H' a = H a
  keep : ∀ a u, a ∉ M.c → a ∉ M.b → Rd H a u → Rd H' a u
  tup : ∀ a vs, H a = some (.tup vs) → H' a = some (.tup vs)
  frz : ∀ a o u, H a = some (.frz o u) → H' a = some (.frz o u)

section
variable {K : PySem.W.Frag} {H H1 H' : Hp} {M M1 M' : Ms}
theorem ne_of {l : List Addr} {a p : Addr} (ha : a ∈ l) (hp : p ∉ l) : a ≠ p := fun e => hp (e ▸ ha)
theorem Rd.ne {a : Addr} {u : HO} (h : Rd H a u) : H a ≠ none := by
  rcases h with h | ⟨o, h⟩ <;> rw [h] <;> simp
theorem Rd.of_ne {a : Addr} (h : H a ≠ none) : ∃ u, Rd H a u := by
  cases e : H a with
  | none => exact absurd e h
  | some u => exact ⟨u, .inl e⟩
theorem Evo.refl : Evo H M H M := ⟨⟨[], by simp, fun _ h => nomatch h⟩, rfl, fun _ _ => rfl, fun _ _ _ _ h => h, fun _ _ h => h, fun _ _ _ h => h⟩
theorem Evo.sub (e : Evo H M H' M') {a : Addr} (h : a ∈ M.c) : a ∈ M'.c := by
  obtain ⟨E, q, _⟩ := e.pre
  rw [q]
  exact List.mem_append_left _ h
theorem Evo.get (e : Evo H M H' M') {n : Nat} {a : Addr} (h : M.c[n]? = some a) : M'.c[n]? = some a := by
  obtain ⟨E, q, _⟩ := e.pre
  rw [q, List.getElem?_append_left (List.getElem?_eq_some_iff.mp h).1]
  exact h
theorem Evo.fz (e : Evo H M H' M') {a : Addr} {u : HO} (h : Fz H M a u) : Fz H' M' a u := by
  obtain ⟨⟨h1, h3⟩, h2⟩ := h
  refine ⟨⟨fun hm => ?_, by rw [e.busy]; exact h3⟩, e.keep a u h1 h3 h2⟩
  obtain ⟨E, q, hE⟩ := e.pre
  rw [q] at hm
  rcases List.mem_append.mp hm with z | z
  · exact h1 z
  · exact Rd.ne h2 (hE a z).2
theorem Evo.trans (a : Evo H M H1 M1) (b : Evo H1 M1 H' M') : Evo H M H' M' := by
  refine ⟨?_, b.busy.trans a.busy, fun c hc => (b.same c (by rw [a.busy]; exact hc)).trans (a.same c hc), fun c u h1 h3 h2 => ?_, fun c vs h => b.tup c vs (a.tup c vs h), fun c o u h => b.frz c o u (a.frz c o u h)⟩
  · obtain ⟨E1, q1, h1⟩ := a.pre
    obtain ⟨E2, q2, h2⟩ := b.pre
    refine ⟨E1 ++ E2, by rw [q2, q1]; simp, fun c hc => ?_⟩
    rcases List.mem_append.mp hc with z | z
    · exact h1 c z
    · obtain ⟨⟨n1, n2⟩, n3⟩ := h2 c z
      have n4 : c ∉ M.c := fun hm => n1 (by rw [q1]; exact List.mem_append_left _ hm)
      have n5 : c ∉ M.b := fun hm => n2 (by rw [a.busy]; exact hm)
      refine ⟨⟨n4, n5⟩, ?_⟩
      cases e : H c with
      | none => rfl
      | some u => exact absurd n3 (Rd.ne (a.keep c u n4 n5 (.inl e)))
  · obtain ⟨⟨q1, q3⟩, q2⟩ := a.fz ⟨⟨h1, h3⟩, h2⟩
    exact b.keep c u q1 q3 q2

mutual
/-- along any way that keeps what stands still and the cells' numbers -/
theorem Rep.map (hf : ∀ a u, Fz H M a u → Fz H' M' a u) (ht : ∀ a vs, H a = some (.tup vs) → H' a = some (.tup vs)) (hc : ∀ (n : Nat) (a : Addr), M.c[n]? = some a → M'.c[n]? = some a) : ∀ {x : SV} {v : V}, Rep K H M x v → Rep K H' M' x v
  | _, _, .non => .non
  | _, _, .bl b => .bl b
  | _, _, .int i => .int i
  | _, _, .str x => .str x
  | _, _, .tup h r => .tup (ht _ _ h) (RepL.map hf ht hc r)
  | _, _, .lst h r => .lst (h.elim (fun z => .inl (hf _ _ z)) .inr) (RepL.map hf ht hc r)
  | _, _, .dW h e r => .dW h e (RepL.map hf ht hc r)
  | _, _, .ref h => .ref (hc _ _ h)
  | _, _, .kt h r => .kt h (RepL.map hf ht hc r)
theorem RepL.map (hf : ∀ a u, Fz H M a u → Fz H' M' a u) (ht : ∀ a vs, H a = some (.tup vs) → H' a = some (.tup vs)) (hc : ∀ (n : Nat) (a : Addr), M.c[n]? = some a → M'.c[n]? = some a) : ∀ {x : List SV} {v : List V}, RepL K H M x v → RepL K H' M' x v
  | _, _, .nil => .nil
  | _, _, .cons h r => .cons (Rep.map hf ht hc h) (RepL.map hf ht hc r)
theorem RepK.map (hf : ∀ a u, Fz H M a u → Fz H' M' a u) (ht : ∀ a vs, H a = some (.tup vs) → H' a = some (.tup vs)) (hc : ∀ (n : Nat) (a : Addr), M.c[n]? = some a → M'.c[n]? = some a) : ∀ {x : List (SV × SV)} {v : List (Key × V)}, RepK K H M x v → RepK K H' M' x v
  | _, _, .nil => .nil
  | _, _, .cons k h r => .cons k (Rep.map hf ht hc h) (RepK.map hf ht hc r)
theorem RepT.map (hf : ∀ a u, Fz H M a u → Fz H' M' a u) (ht : ∀ a vs, H a = some (.tup vs) → H' a = some (.tup vs)) (hc : ∀ (n : Nat) (a : Addr), M.c[n]? = some a → M'.c[n]? = some a) : ∀ {x : List (SV × SV)} {v : List (List Key × V)}, RepT K H M x v → RepT K H' M' x v
  | _, _, .nil => .nil
  | _, _, .cons k h r => .cons k (Rep.map hf ht hc h) (RepT.map hf ht hc r)
end
theorem Rep.mono (e : Evo H M H' M') {x : SV} {v : V} (r : Rep K H M x v) : Rep K H' M' x v := r.map (fun _ _ => e.fz) e.tup (fun _ _ => e.get)
theorem RepL.mono (e : Evo H M H' M') {x : List SV} {v : List V} (r : RepL K H M x v) : RepL K H' M' x v := r.map (fun _ _ => e.fz) e.tup (fun _ _ => e.get)
theorem RepK.mono (e : Evo H M H' M') {x : List (SV × SV)} {v : List (Key × V)} (r : RepK K H M x v) : RepK K H' M' x v := r.map (fun _ _ => e.fz) e.tup (fun _ _ => e.get)
theorem RepT.mono (e : Evo H M H' M') {x : List (SV × SV)} {v : List (List Key × V)} (r : RepT K H M x v) : RepT K H' M' x v := r.map (fun _ _ => e.fz) e.tup (fun _ _ => e.get)

/-! ### lists of values -/
theorem RepL.length : ∀ {xs : List SV} {vs : List V}, RepL K H M xs vs → xs.length = vs.length
  | _, _, .nil => rfl
  | _, _, .cons _ r => congrArg Nat.succ (RepL.length r)
theorem RepL.get : ∀ {xs : List SV} {vs : List V} {i : Nat} {x : SV}, RepL K H M xs vs → xs[i]? = some x → ∃ v, vs[i]? = some v ∧ Rep K H M x v
  | _, _, _, _, .nil, h => by simp at h
  | _, _, 0, _, .cons h _, e => ⟨_, rfl, by
    simp at e
    subst e
    exact h⟩
  | _, _, i + 1, _, .cons _ r, e => by
    obtain ⟨v, h1, h2⟩ := RepL.get (i := i) r (by simpa using e)
    exact ⟨v, by simpa using h1, h2⟩
theorem RepL.get' : ∀ {xs : List SV} {vs : List V} {i : Nat} {v : V}, RepL K H M xs vs → vs[i]? = some v → ∃ x, xs[i]? = some x ∧ Rep K H M x v
  | _, _, _, _, .nil, h => by simp at h
  | _, _, 0, _, .cons h _, e => ⟨_, rfl, by
    simp at e
    subst e
    exact h⟩
  | _, _, i + 1, _, .cons _ r, e => by
    obtain ⟨x, h1, h2⟩ := RepL.get' (i := i) r (by simpa using e)
    exact ⟨x, by simpa using h1, h2⟩
theorem RepL.append : ∀ {xs ys : List SV} {vs ws : List V}, RepL K H M xs vs → RepL K H M ys ws → RepL K H M (xs ++ ys) (vs ++ ws)
  | _, _, _, _, .nil, s => s
  | _, _, _, _, .cons h r, s => .cons h (RepL.append r s)
theorem RepL.set {x : SV} {v : V} (h : Rep K H M x v) : ∀ {xs : List SV} {vs : List V} (i : Nat), RepL K H M xs vs → RepL K H M (xs.set i x) (vs.set i v)
  | _, _, _, .nil => .nil
  | _, _, 0, .cons _ r => .cons h r
  | _, _, i + 1, .cons q r => .cons q (RepL.set h i r)
theorem RepL.take : ∀ {xs : List SV} {vs : List V} (n : Nat), RepL K H M xs vs → RepL K H M (xs.take n) (vs.take n)
  | _, _, 0, _ => .nil
  | _, _, _ + 1, .nil => .nil
  | _, _, n + 1, .cons h r => .cons h (RepL.take n r)
theorem RepL.drop : ∀ {xs : List SV} {vs : List V} (n : Nat), RepL K H M xs vs → RepL K H M (xs.drop n) (vs.drop n)
  | _, _, 0, r => r
  | _, _, _ + 1, .nil => .nil
  | _, _, n + 1, .cons _ r => RepL.drop n r
theorem RepL.flat : ∀ {k : Nat} {xs : List SV} {vs : List V}, RepL K H M xs vs → RepL K H M (List.replicate k xs).flatten (List.replicate k vs).flatten
  | 0, _, _, _ => .nil
  | k + 1, _, _, r => by
    rw [List.replicate_succ, List.replicate_succ, List.flatten_cons, List.flatten_cons]
    exact r.append (RepL.flat r)
theorem RepL.reverse : ∀ {xs : List SV} {vs : List V}, RepL K H M xs vs → RepL K H M xs.reverse vs.reverse
  | _, _, .nil => .nil
  | _, _, .cons h r => by
    rw [List.reverse_cons, List.reverse_cons]
    exact (RepL.reverse r).append (.cons h .nil)
theorem RepL.nil_inv {vs : List V} (h : RepL K H M [] vs) : vs = [] := by cases h; rfl
theorem RepL.nil_iff {xs : List SV} {vs : List V} (h : RepL K H M xs vs) : xs.isEmpty = vs.isEmpty := by cases h <;> rfl
theorem RepL.ints : ∀ {xs : List SV} {vs : List V} {ns : List Int}, RepL K H M xs vs → intsOf xs = some ns → vs = ns.map V.int
  | _, _, _, .nil, e => by cases e; rfl
  | _, _, _, .cons (x := x) h r, e => by
    cases x with
    | int i =>
      cases h
      unfold intsOf at e
      obtain ⟨ns, e1, e2⟩ := Option.map_eq_some_iff.mp e
      rw [← e2, RepL.ints r e1]
      rfl
    | _ => simp [intsOf] at e
theorem RepL.bls : ∀ {xs : List SV} {vs : List V} {bs : List Bool}, RepL K H M xs vs → blsOf xs = some bs → vs = bs.map V.bl
  | _, _, _, .nil, e => by cases e; rfl
  | _, _, _, .cons (x := x) h r, e => by
    cases x with
    | bl i =>
      cases h
      unfold blsOf at e
      obtain ⟨ns, e1, e2⟩ := Option.map_eq_some_iff.mp e
      rw [← e2, RepL.bls r e1]
      rfl
    | _ => simp [blsOf] at e

/-! ### the cells -/
inductive RepO (K : PySem.W.Frag) (H : Hp) (M : Ms) : SO → HO → Prop
  | lst {xs : List SV} {vs : List V} : RepL K H M xs vs → RepO K H M (.lst xs) (.lst vs)
  | dK {kvs : List (SV × SV)} {ps : List (Key × V)} : RepK K H M kvs ps → RepO K H M (.dct kvs) (.dK ps)
  | dT {kvs : List (SV × SV)} {ps : List (List Key × V)} : RepT K H M kvs ps → RepO K H M (.dtt kvs) (.dT ps)
  | dF {kvs : List (SV × SV)} {ps : List (List Key × V)} {o : Obj} : RepT K H M kvs ps → RepO K H M (.ddf kvs) (.frz o (.dT ps))
theorem RepO.map (hf : ∀ a u, Fz H M a u → Fz H' M' a u) (ht : ∀ a vs, H a = some (.tup vs) → H' a = some (.tup vs)) (hc : ∀ (n : Nat) (a : Addr), M.c[n]? = some a → M'.c[n]? = some a) {o : SO} {u : HO} (h : RepO K H M o u) : RepO K H' M' o u := by
  cases h with
  | lst r => exact .lst (r.map hf ht hc)
  | dK r => exact .dK (r.map hf ht hc)
  | dT r => exact .dT (r.map hf ht hc)
  | dF r => exact .dF (r.map hf ht hc)
theorem RepO.mono (e : Evo H M H' M') {o : SO} {u : HO} (h : RepO K H M o u) : RepO K H' M' o u := h.map (fun _ _ => e.fz) e.tup (fun _ _ => e.get)

structure RH (K : PySem.W.Frag) (H : Hp) (M : Ms) (h : SH) : Prop where
  len : h.length = M.c.length
  nd : M.c.Nodup
  at_ : ∀ (n : Nat) (o : SO), h[n]? = some o → ∃ a u, M.c[n]? = some a ∧ H a = some u ∧ RepO K H M o u
  bsy : ∀ a ∈ M.b, a ∉ M.c ∧ H a ≠ none
theorem RH.cell {h : SH} (r : RH K H M h) {n : Nat} {a : Addr} (e : M.c[n]? = some a) : ∃ o u, h[n]? = some o ∧ H a = some u ∧ RepO K H M o u := by
  have hn : n < h.length := by rw [r.len]; exact (List.getElem?_eq_some_iff.mp e).1
  obtain ⟨b, u, e1, e2, e3⟩ := r.at_ n h[n] (List.getElem?_eq_getElem hn)
  rw [e] at e1
  cases e1
  exact ⟨_, u, List.getElem?_eq_getElem hn, e2, e3⟩
theorem RH.in_ {h : SH} (r : RH K H M h) {a : Addr} (e : a ∈ M.c) : H a ≠ none := by
  obtain ⟨n, hn, rfl⟩ := List.mem_iff_getElem.mp e
  obtain ⟨o, u, _, e2, _⟩ := r.cell (List.getElem?_eq_getElem hn)
  rw [e2]
  simp
theorem RH.fresh {h : SH} (r : RH K H M h) {p : Addr} (hp : H p = none) : p ∉ M.c := fun hm => r.in_ hm hp
theorem RH.freshB {h : SH} (r : RH K H M h) {p : Addr} (hp : H p = none) : p ∉ M.b := fun hm => (r.bsy p hm).2 hp
/-- the same cells, written in the same way -/
theorem RH.map {h : SH} (r : RH K H M h) (hf : ∀ a u, Fz H M a u → Fz H' M' a u) (ht : ∀ a vs, H a = some (.tup vs) → H' a = some (.tup vs)) (hc : M'.c = M.c) (hs : ∀ a ∈ M.c, H' a = H a) (hb : ∀ a ∈ M'.b, a ∉ M.c ∧ H' a ≠ none) : RH K H' M' h := by
  refine ⟨by rw [hc]; exact r.len, by rw [hc]; exact r.nd, fun n o e => ?_, fun a ha => by rw [hc]; exact hb a ha⟩
  obtain ⟨a, u, e1, e2, e3⟩ := r.at_ n o e
  exact ⟨a, u, by rw [hc]; exact e1, (hs a (List.mem_of_getElem? e1)).trans e2, e3.map hf ht (fun n a => by rw [hc]; exact id)⟩

/-- a new object that stands still -/
theorem Evo.new {p : Addr} {u : HO} {h : SH} (r : RH K H M h) (hp : H p = none) : Evo H M (upd H p u) M := by
  refine ⟨⟨[], by simp, fun _ h => nomatch h⟩, rfl, fun a ha => upd_ne (fun e => r.freshB hp (e ▸ ha)), fun a w _ _ h => ?_, fun a vs h => by rw [upd_ne (ne_of_none h hp)]; exact h, fun a o w h => by rw [upd_ne (ne_of_none h hp)]; exact h⟩
  have ne : a ≠ p := fun e => Rd.ne h (by rw [e]; exact hp)
  rcases h with h | ⟨o, h⟩
  · exact .inl (by rw [upd_ne ne]; exact h)
  · exact .inr ⟨o, by rw [upd_ne ne]; exact h⟩
theorem RH.new {h : SH} (r : RH K H M h) {p : Addr} {u : HO} (hp : H p = none) : RH K (upd H p u) M h :=
  r.map (fun _ _ => (Evo.new r hp).fz) (Evo.new r hp).tup rfl (fun a ha => upd_ne (fun e => r.fresh hp (e ▸ ha))) fun a ha => ⟨(r.bsy a ha).1, by rw [upd_ne (ne_of ha (r.freshB hp))]; exact (r.bsy a ha).2⟩
theorem Fz.new {p : Addr} {u : HO} {h : SH} (r : RH K H M h) (hp : H p = none) : Fz (upd H p u) M p u := ⟨⟨r.fresh hp, r.freshB hp⟩, .inl upd_same⟩
/-- a new cell -/
theorem Evo.cell {p : Addr} {u : HO} {h : SH} (r : RH K H M h) (hp : H p = none) : Evo H M (upd H p u) ⟨M.c ++ [p], M.b⟩ := by
  refine ⟨⟨[p], rfl, fun a ha => ?_⟩, rfl, (Evo.new (M := M) r hp).same, (Evo.new (M := M) r hp).keep, (Evo.new (M := M) (u := u) r hp).tup, (Evo.new (M := M) (u := u) r hp).frz⟩
  obtain rfl : a = p := by simpa using ha
  exact ⟨⟨r.fresh hp, r.freshB hp⟩, hp⟩
theorem RH.cellNew {h : SH} (r : RH K H M h) {p : Addr} {u : HO} {o : SO} (hp : H p = none) (ho : RepO K H M o u) : RH K (upd H p u) ⟨M.c ++ [p], M.b⟩ (h ++ [o]) := by
  have ev : Evo H M (upd H p u) ⟨M.c ++ [p], M.b⟩ := Evo.cell r hp
  refine ⟨by rw [List.length_append, List.length_append, r.len]; rfl, ?_, fun n o' e => ?_, fun a ha => ?_⟩
  · show (M.c ++ [p]).Nodup
    rw [List.nodup_append]
    refine ⟨r.nd, by simp, fun a ha b hb e => ?_⟩
    obtain rfl : b = p := by simpa using hb
    exact r.fresh hp (e ▸ ha)
  · by_cases hn : n < h.length
    · rw [List.getElem?_append_left hn] at e
      obtain ⟨a, w, e1, e2, e3⟩ := r.at_ n o' e
      have ne : a ≠ p := fun z => by rw [z, hp] at e2; cases e2
      exact ⟨a, w, ev.get e1, by rw [upd_ne ne]; exact e2, e3.mono ev⟩
    · rw [List.getElem?_append_right (by omega)] at e
      have hz : n - h.length = 0 := by
        have := (List.getElem?_eq_some_iff.mp e).1
        simp at this
        omega
      rw [hz] at e
      cases e
      refine ⟨p, u, ?_, upd_same, ho.mono ev⟩
      show (M.c ++ [p])[n]? = _
      rw [List.getElem?_append_right (by rw [← r.len]; omega), ← r.len, hz]
      rfl
  · have ne : a ≠ p := fun e => r.freshB hp (e ▸ ha)
    refine ⟨fun hm => ?_, by rw [upd_ne ne]; exact (r.bsy a ha).2⟩
    rcases List.mem_append.mp (show a ∈ M.c ++ [p] from hm) with z | z
    · exact (r.bsy a ha).1 z
    · exact ne (by simpa using z)
/-- no tuple, nothing locked -/
def NoLk (o : Option HO) : Prop := (∀ vs, o ≠ some (.tup vs)) ∧ ∀ b u, o ≠ some (.frz b u)
theorem NoLk.lst {vs : List V} {p : Addr} (h : H p = some (.lst vs)) : NoLk (H p) := by
  rw [h]
  exact ⟨fun _ e => HO.noConfusion (Option.some.inj e), fun _ _ e => HO.noConfusion (Option.some.inj e)⟩
theorem NoLk.dK {vs : List (Key × V)} {p : Addr} (h : H p = some (.dK vs)) : NoLk (H p) := by
  rw [h]
  exact ⟨fun _ e => HO.noConfusion (Option.some.inj e), fun _ _ e => HO.noConfusion (Option.some.inj e)⟩
theorem NoLk.dT {vs : List (List Key × V)} {p : Addr} (h : H p = some (.dT vs)) : NoLk (H p) := by
  rw [h]
  exact ⟨fun _ e => HO.noConfusion (Option.some.inj e), fun _ _ e => HO.noConfusion (Option.some.inj e)⟩
theorem NoLk.tupE {a p : Addr} {w : HO} (n : NoLk (H p)) {vs : List V} (h : H a = some (.tup vs)) : upd H p w a = some (.tup vs) := by
  have ne : a ≠ p := fun e => n.1 vs (e ▸ h)
  rw [upd_ne ne]
  exact h
theorem NoLk.frzE {a p : Addr} {w : HO} (n : NoLk (H p)) {o : Obj} {u : HO} (h : H a = some (.frz o u)) : upd H p w a = some (.frz o u) := by
  have ne : a ≠ p := fun e => n.2 o u (e ▸ h)
  rw [upd_ne ne]
  exact h
theorem NoLk.none {p : Addr} (h : H p = none) : NoLk (H p) := by
  rw [h]
  exact ⟨fun _ e => (nomatch e), fun _ _ e => (nomatch e)⟩
/-- a cell written -/
theorem Evo.write {a : Addr} {u : HO} {h : SH} (r : RH K H M h) (hm : a ∈ M.c) (n : NoLk (H a)) : Evo H M (upd H a u) M := by
  refine ⟨⟨[], by simp, fun _ h => nomatch h⟩, rfl, fun b hb => upd_ne (fun e => (r.bsy b hb).1 (e ▸ hm)), fun b w hb _ h => ?_, fun b vs h => n.tupE h, fun b o w h => n.frzE h⟩
  have ne : b ≠ a := fun e => hb (e ▸ hm)
  rcases h with h | ⟨o, h⟩
  · exact .inl (by rw [upd_ne ne]; exact h)
  · exact .inr ⟨o, by rw [upd_ne ne]; exact h⟩
theorem RH.write {h : SH} (r : RH K H M h) {n : Nat} {a : Addr} {u : HO} {o : SO} (hn : M.c[n]? = some a) (nl : NoLk (H a)) (ho : RepO K H M o u) : RH K (upd H a u) M (h.set n o) := by
  have hm : a ∈ M.c := List.mem_of_getElem? hn
  refine ⟨by rw [List.length_set]; exact r.len, r.nd, fun k o' e => ?_, fun b hb => ⟨(r.bsy b hb).1, ?_⟩⟩
  · by_cases hk : k = n
    · subst hk
      have hl : k < h.length := by rw [r.len]; exact (List.getElem?_eq_some_iff.mp hn).1
      rw [List.getElem?_set_self hl] at e
      cases e
      exact ⟨a, u, hn, upd_same, ho.mono (Evo.write r hm nl)⟩
    · rw [List.getElem?_set_ne (Ne.symm hk)] at e
      obtain ⟨b, w, e1, e2, e3⟩ := r.at_ k o' e
      have ne : b ≠ a := fun z => by
        subst z
        obtain ⟨h1, g1⟩ := List.getElem?_eq_some_iff.mp e1
        obtain ⟨h2, g2⟩ := List.getElem?_eq_some_iff.mp hn
        exact hk ((List.getElem_inj r.nd).mp (g1.trans g2.symm))
      exact ⟨b, w, e1, by rw [upd_ne ne]; exact e2, e3.mono (Evo.write r hm nl)⟩
  · rw [upd_ne (ne_of hm (r.bsy b hb).1).symm]
    exact (r.bsy b hb).2

/-! ### a list that is being made -/
/-- more busy ones: less that stands still -/
theorem Fz.less {b : List Addr} {D : Addr} {a : Addr} {u : HO} (h : Fz H ⟨M.c, D :: b⟩ a u) : Fz H ⟨M.c, b⟩ a u :=
  ⟨⟨h.1.1, fun hm => h.1.2 (List.mem_cons_of_mem _ hm)⟩, h.2⟩
/-- the list at D begun -/
theorem Fz.begin_ {D : Addr} {w : HO} {h : SH} (r : RH K H M h) (hD : H D = none) {a : Addr} {u : HO} (z : Fz H M a u) : Fz (upd H D w) ⟨M.c, D :: M.b⟩ a u := by
  obtain ⟨⟨z1, z2⟩, z3⟩ := (Evo.new (u := w) r hD).fz z
  refine ⟨⟨z1, fun hm => ?_⟩, z3⟩
  rcases List.mem_cons.mp hm with e | e
  · exact Rd.ne z.2 (e ▸ hD)
  · exact z2 e
theorem RH.begin_ {D : Addr} {w : HO} {h : SH} (r : RH K H M h) (hD : H D = none) : RH K (upd H D w) ⟨M.c, D :: M.b⟩ h := by
  refine r.map (fun _ _ => Fz.begin_ r hD) (fun a vs h => (NoLk.none hD).tupE h) rfl (fun a ha => upd_ne (fun e => r.fresh hD (e ▸ ha))) fun a ha => ?_
  rcases List.mem_cons.mp ha with e | e
  · subst e
    exact ⟨r.fresh hD, by rw [upd_same]; simp⟩
  · exact ⟨(r.bsy a e).1, by rw [upd_ne (ne_of e (r.freshB hD))]; exact (r.bsy a e).2⟩
theorem Evo.begin_ {D : Addr} {w : HO} {h : SH} (r : RH K H M h) (hD : H D = none) : Evo H M (upd H D w) M := Evo.new r hD
/-- it grows -/
theorem Fz.grow {D : Addr} {b : List Addr} {w : HO} {a : Addr} {u : HO} (z : Fz H ⟨M.c, D :: b⟩ a u) : Fz (upd H D w) ⟨M.c, D :: b⟩ a u := by
  have ne : a ≠ D := fun e => z.1.2 (e ▸ List.mem_cons_self)
  refine ⟨z.1, ?_⟩
  rcases z.2 with q | ⟨o, q⟩
  · exact .inl (by rw [upd_ne ne]; exact q)
  · exact .inr ⟨o, by rw [upd_ne ne]; exact q⟩
theorem RH.grow {D : Addr} {b : List Addr} {w : HO} {h : SH} (r : RH K H ⟨M.c, D :: b⟩ h) (n : NoLk (H D)) : RH K (upd H D w) ⟨M.c, D :: b⟩ h := by
  have hD := r.bsy D List.mem_cons_self
  refine r.map (fun _ _ => Fz.grow) (fun a vs h => n.tupE h) rfl (fun a ha => upd_ne (fun e => hD.1 (e ▸ ha))) fun a ha => ⟨(r.bsy a ha).1, ?_⟩
  by_cases e : a = D
  · subst e
    rw [upd_same]
    simp
  · rw [upd_ne e]
    exact (r.bsy a ha).2
theorem RH.done {D : Addr} {b : List Addr} {h : SH} (r : RH K H ⟨M.c, D :: b⟩ h) : RH K H ⟨M.c, b⟩ h :=
  r.map (fun _ _ => Fz.less) (fun _ _ h => h) rfl (fun _ _ => rfl) fun a ha => r.bsy a (List.mem_cons_of_mem _ ha)
/-- from the outside: a turn goes by while D is busy -/
theorem Evo.turn {D : Addr} {Hc Hd : Hp} {Mc Md : Ms} (hD : H D = none) (hDc : D ∉ M.c) (hDb : D ∉ M.b) (e : Evo H M Hc ⟨Mc.c, M.b⟩) (hb : Mc.b = D :: M.b) (hmc : D ∉ Mc.c) (t : Evo Hc Mc Hd Md) : Evo H M Hd ⟨Md.c, M.b⟩ := by
  obtain ⟨E1, p1, h1⟩ := e.pre
  obtain ⟨E2, p2, h2⟩ := t.pre
  have q1 : Mc.c = M.c ++ E1 := p1
  refine ⟨⟨E1 ++ E2, by show Md.c = _; rw [p2, q1]; simp, fun c hc => ?_⟩, rfl, fun a ha => ?_, fun a u n1 n2 hr => ?_, fun a vs h => t.tup a vs (e.tup a vs h), fun a o u h => t.frz a o u (e.frz a o u h)⟩
  · rcases List.mem_append.mp hc with z | z
    · exact h1 c z
    · obtain ⟨⟨n1, n2⟩, n3⟩ := h2 c z
      have n4 : c ∉ M.c := fun hm => n1 (by rw [q1]; exact List.mem_append_left _ hm)
      have n5 : c ∉ M.b := fun hm => n2 (by rw [hb]; exact List.mem_cons_of_mem _ hm)
      refine ⟨⟨n4, n5⟩, ?_⟩
      cases q : H c with
      | none => rfl
      | some u => exact absurd n3 (Rd.ne (e.keep c u n4 n5 (.inl q)))
  · exact (t.same a (by rw [hb]; exact List.mem_cons_of_mem _ ha)).trans (e.same a ha)
  · obtain ⟨⟨z1, z2⟩, z3⟩ := e.fz ⟨⟨n1, n2⟩, hr⟩
    refine t.keep a u z1 (fun hm => ?_) z3
    rw [hb] at hm
    rcases List.mem_cons.mp hm with q | q
    · exact Rd.ne hr (q ▸ hD)
    · exact n2 q
theorem Evo.grow {D : Addr} {w : HO} {Hd : Hp} {Md : Ms} (hD : H D = none) (hDb : D ∉ M.b) (n : NoLk (Hd D)) (e : Evo H M Hd ⟨Md.c, M.b⟩) : Evo H M (upd Hd D w) ⟨Md.c, M.b⟩ := by
  refine ⟨e.pre, rfl, fun a ha => (upd_ne (ne_of ha hDb)).trans (e.same a ha), fun a u n1 n2 hr => ?_, fun a vs h => n.tupE (e.tup a vs h), fun a o u h => n.frzE (e.frz a o u h)⟩
  have ne : a ≠ D := fun q => Rd.ne hr (q ▸ hD)
  rcases e.keep a u n1 n2 hr with q | ⟨o, q⟩
  · exact .inl (by rw [upd_ne ne]; exact q)
  · exact .inr ⟨o, by rw [upd_ne ne]; exact q⟩

/-! ### the names -/
structure RS (K : PySem.W.Frag) (H : Hp) (M : Ms) (env : SE) (σ : L2.St) : Prop where
  len : env.length = σ.length
  at_ : ∀ (i : Nat) (v : SV), env[i]? = some (some v) → ∃ x, σ[i]? = some (some x) ∧ Rep K H M v x
theorem RS.mono (e : Evo H M H' M') {env : SE} {σ : L2.St} (r : RS K H M env σ) : RS K H' M' env σ :=
  ⟨r.len, fun i v h => let ⟨x, h1, h2⟩ := r.at_ i v h; ⟨x, h1, h2.mono e⟩⟩
theorem RS.set {env : SE} {σ : L2.St} (r : RS K H M env σ) {i : Nat} {v : SV} {x : V} (h : Rep K H M v x) : RS K H M (env.set i (some v)) (σ.set i (some x)) := by
  refine ⟨by rw [List.length_set, List.length_set]; exact r.len, fun j w e => ?_⟩
  by_cases hj : i = j
  · subst hj
    have hl : i < env.length := by
      have := (List.getElem?_eq_some_iff.mp e).1
      rwa [List.length_set] at this
    rw [List.getElem?_set_self hl] at e
    cases e
    exact ⟨x, by rw [List.getElem?_set_self (by rw [← r.len]; exact hl)], h⟩
  · rw [List.getElem?_set_ne hj] at e
    obtain ⟨y, h1, h2⟩ := r.at_ j w e
    exact ⟨y, by rw [List.getElem?_set_ne hj]; exact h1, h2⟩
theorem RS.wipe {env : SE} {σ : L2.St} (r : RS K H M env σ) : ∀ ks : List Nat, RS K H M (wipeE env ks) (L2.wipe σ ks)
  | [] => r
  | k :: ks => by
    have ih := RS.wipe r ks
    refine ⟨by show ((wipeE env ks).set k none).length = ((L2.wipe σ ks).set k none).length; rw [List.length_set, List.length_set]; exact ih.len, fun j w e => ?_⟩
    have e' : ((wipeE env ks).set k none)[j]? = some (some w) := e
    by_cases hj : k = j
    · subst hj
      by_cases hl : k < (wipeE env ks).length
      · rw [List.getElem?_set_self hl] at e'; cases e'
      · rw [List.getElem?_eq_none (by simpa using hl)] at e'; cases e'
    · rw [List.getElem?_set_ne hj] at e'
      obtain ⟨y, h1, h2⟩ := ih.at_ j w e'
      exact ⟨y, by show ((L2.wipe σ ks).set k none)[j]? = _; rw [List.getElem?_set_ne hj]; exact h1, h2⟩
/-- wiped here, kept there -/
theorem RS.wipeL {env : SE} {σ : L2.St} (r : RS K H M env σ) : ∀ ks : List Nat, RS K H M (wipeE env ks) σ
  | [] => r
  | k :: ks => by
    have ih := RS.wipeL r ks
    refine ⟨by show ((wipeE env ks).set k none).length = _; rw [List.length_set]; exact ih.len, fun j w e => ?_⟩
    have e' : ((wipeE env ks).set k none)[j]? = some (some w) := e
    by_cases hj : k = j
    · subst hj
      by_cases hl : k < (wipeE env ks).length
      · rw [List.getElem?_set_self hl] at e'; cases e'
      · rw [List.getElem?_eq_none (by simpa using hl)] at e'; cases e'
    · rw [List.getElem?_set_ne hj] at e'
      exact ih.at_ j w e'
theorem RS.look {env : SE} {σ : L2.St} (r : RS K H M env σ) {i : Nat} {v : SV} (h : look env i = some v) : ∃ x, σ[i]? = some (some x) ∧ Rep K H M v x := by
  unfold Ws.look at h
  split at h
  · rename_i w e
    cases h
    exact r.at_ i v e
  · cases h
end
end Ws
end

section
set_option Elab.async false
set_option linter.all false
set_option maxRecDepth 100000
set_option autoImplicit false
/-! What a run of the simple interpreter promises of the machine; operations on values. -/
namespace Ws
open PySem PySem.Spec PyProof.Rows L2

/-- a result, met by what the machine reaches from (H, M) on -/
def SemR {α : Type} (K : PySem.W.Frag) (mg : Str → Option Value) (r : Res α) (H : Hp) (M : Ms) (E : XK) (k : α → SH → Hp → Ms → Prop) : Prop := match r with
  | .ok a h => ∀ (H' : Hp) (M' : Ms), Evo H M H' M' → RH K H' M' h → k a h H' M'
  | .err c v h => ∀ (H' : Hp) (M' : Ms) (cls : Value) (d : Addr) (x : V), Evo H M H' M' → RH K H' M' h → mg c = some cls → H' d = some (.xd [("value", x)]) → Rep K H' M' v x → E cls (some d) H'
  | .bad => False

section
variable {K : PySem.W.Frag} {mg : Str → Option Value} {H H' : Hp} {M M' : Ms} {E : XK}
theorem SemR.mono {α : Type} {r : Res α} {k k' : α → SH → Hp → Ms → Prop} (h : SemR K mg r H M E k) (hk : ∀ a h' H' M', Evo H M H' M' → RH K H' M' h' → k a h' H' M' → k' a h' H' M') : SemR K mg r H M E k' := by
  cases r with
  | ok a h' => exact fun H' M' e r => hk a h' H' M' e r (h H' M' e r)
  | err c v h' => exact h
  | bad => exact h
theorem SemR.from {α : Type} {r : Res α} {k : α → SH → Hp → Ms → Prop} (h : SemR K mg r H M E k) (e : Evo H M H' M') : SemR K mg r H' M' E k := by
  cases r with
  | ok a h' => exact fun H2 M2 e2 r => h H2 M2 (e.trans e2) r
  | err c v h' => exact fun H2 M2 cls d x e2 r => h H2 M2 cls d x (e.trans e2) r
  | bad => exact h
theorem SemR.bind {α β : Type} {r : Res α} {f : α → SH → Res β} {k : β → SH → Hp → Ms → Prop} (h : SemR K mg (r.bind f) H M E k) : SemR K mg r H M E fun a h1 H1 M1 => SemR K mg (f a h1) H1 M1 E k := by
  cases r with
  | ok a h' => exact fun H1 M1 e r => SemR.from h e
  | err c v h' => exact h
  | bad => exact h
theorem SemR.here {α : Type} {a : α} {h : SH} {k : α → SH → Hp → Ms → Prop} (s : SemR K mg (.ok a h) H M E k) (r : RH K H M h) : k a h H M := s H M .refl r
theorem SemR.ofO {α : Type} {o : Option α} {h : SH} {k : α → SH → Hp → Ms → Prop} (s : SemR K mg (Ws.ofO h o) H M E k) : ∃ a, o = some a ∧ SemR K mg (.ok a h) H M E k := by
  cases o with
  | some a => exact ⟨a, rfl, s⟩
  | none => exact s.elim
end

/-- what a value operation gives -/
def Give (K : PySem.W.Frag) (z : SV) (h : SH) (H : Hp) (M : Ms) (Q : VK) : Prop := ∀ (H' : Hp) (M' : Ms), Evo H M H' M' → RH K H' M' h → ∀ x, Rep K H' M' z x → Q x H'
section
variable {K : PySem.W.Frag} {H : Hp} {M : Ms} {h : SH} {z : SV} {Q : VK}
theorem Give.at (g : Give K z h H M Q) (r : RH K H M h) {x : V} (rx : Rep K H M z x) : Q x H := g H M .refl r x rx
theorem Give.tup {xs : List SV} {vs : List V} (g : Give K (.tup xs) h H M Q) (r : RH K H M h) (rx : RepL K H M xs vs) (p : Addr) (hp : H p = none) : Q (.ref p) (upd H p (.tup vs)) :=
  g _ M (Evo.new r hp) (RH.new r hp) _ (.tup upd_same (rx.mono (Evo.new r hp)))
theorem Give.lst {xs : List SV} {vs : List V} (g : Give K (.lst xs) h H M Q) (r : RH K H M h) (rx : RepL K H M xs vs) (p : Addr) (hp : H p = none) : Q (.ref p) (upd H p (.lst vs)) :=
  g _ M (Evo.new r hp) (RH.new r hp) _ (.lst (.inl (Fz.new r hp)) (rx.mono (Evo.new r hp)))
end

/-! ### two values in -/
/-- an operation's reading -/
def rB (K : PySem.W.Frag) (f : SH → SV → SV → Option SV) : R2 := fun x y H Q => ∃ v w z h M, RH K H M h ∧ Rep K H M v x ∧ Rep K H M w y ∧ f h v w = some z ∧ Give K z h H M Q
def opO : BOp → Operator
  | .add => .Add
  | .sub => .Sub
  | .mul => .Mult
  | .fdiv => .FloorDiv
  | .mod => .Mod
  | .pow => .Pow
section
variable {X : Cx}
theorem ifs {α : Type} {c : Bool} {a b : α} (h : (if c = true then some a else none) = some b) : c = true ∧ a = b := by
  cases c with
  | true => exact ⟨rfl, Option.some.inj h⟩
  | false => simp at h
theorem RepL.ne {H : Hp} {M : Ms} {xs : List SV} {vs : List V} (r : RepL X.K H M xs vs) (h : vs ≠ []) : xs ≠ [] := by
  intro e
  subst e
  exact h r.nil_inv

/-- t * k, with k 0 or less: a new tuple with nothing in it -/
theorem tuple_mul_none (l : Addr) (items : Array Value) (n : Nat) (dd : Option Addr) (sl : Array (Option Value)) (k : Int) (u : Tok) (b0 : (decide (k < -(2 ^ 63)) || decide (k ≥ 2 ^ 63)) = false) (b1 : (items.isEmpty || k == 1) = false) (b2 : (decide (k ≤ 0) || items.isEmpty) = true) :
    Meets (Builtin.«tuple.__mul__» ⟨[.ref l, .int k u], []⟩) (fun _ R s => s.heap.get? l = some { cls := .type "tuple", dict := dd, data := .seq items n, slots := sl } ∧
      R (.ok (.ret (Value.ref s.heap.objs.size))) { s with heap := s.heap.push { cls := Value.type "tuple", data := Data.seq #[] }, toks := s.toks }) :=
  .of_wp fun prog w A R s h => by
    obtain ⟨hp, g, d, tk, os⟩ := s
    obtain ⟨hl, h⟩ := h
    have f1 := AutoSeq1.idx_int
    wp_walk using wpAny_loadPart' hl
    repeat (first
      | (refine wpAny_ite_false (decide_eq_false (by rw [b0]; simp)) ?_; wp_walk using wpAny_loadPart' hl)
      | (refine wpAny_ite_false (decide_eq_false (by rw [b1]; simp)) ?_; wp_walk using wpAny_loadPart' hl)
      | (refine wpAny_ite_true (decide_eq_true (by rw [b2])) ?_; wp_walk using wpAny_loadPart' hl))
    exact ⟨_, rfl, h⟩
/-- t * 1 is t -/
theorem tuple_mul_one (l : Addr) (items : Array Value) (n : Nat) (dd : Option Addr) (sl : Array (Option Value)) (u : Tok) :
    Meets (Builtin.«tuple.__mul__» ⟨[.ref l, .int 1 u], []⟩) (fun _ R s => s.heap.get? l = some { cls := .type "tuple", dict := dd, data := .seq items n, slots := sl } ∧ R (.ok (.ret (Value.ref l))) s) :=
  .of_wp fun prog w A R s h => by
    obtain ⟨hp, g, d, tk, os⟩ := s
    obtain ⟨hl, h⟩ := h
    have f1 := AutoSeq1.idx_int
    wp_walk using wpAny_loadPart' hl
    repeat (first
      | (refine wpAny_ite_false (decide_eq_false (by decide)) ?_; wp_walk using wpAny_loadPart' hl)
      | (refine wpAny_ite_true (decide_eq_true (by simp)) ?_; wp_walk using wpAny_loadPart' hl))
    exact ⟨_, rfl, h⟩
end
end Ws
end

section
set_option Elab.async false
set_option linter.all false
set_option maxRecDepth 100000
set_option autoImplicit false
/-! Operations on values: arithmetic. -/
namespace Ws
open PySem PySem.Spec PyProof.Rows L2
section
variable {X : Cx}

/-- t * 1: the tuple itself -/
theorem op_rep1 : OpR X (binaryOp .Mult) (fun x y H Q => ∃ l xs, x = .ref l ∧ y = .int 1 ∧ SqT X.K H l xs ∧ xs ≠ [] ∧ Q (.ref l) H) := by
  intro pins s σ H x y v u Q I rx ry h
  obtain ⟨l, xs, rfl, rfl, hT, hne, q⟩ := h
  cases rx
  obtain ⟨t, rfl⟩ := ry
  obtain ⟨its, r, ⟨⟨cls, dd, data, sl⟩, ho, hc, n, hd⟩, hs⟩ := I.tuple hT
  simp only at hc hd
  subst hc hd
  refine wpAny_binaryOp_repeat_ref (T := "tuple") (U := "int") (by decide) ⟨_, ho, rfl⟩ (fun s' => typeIs_int s' 1 t) noFill_tuple_mul F.fills_int_mul F.slot_int_rmul repeat_tuple F.slot_int_index.lookup
    (call_meets F.slot_int_rmul (typeIs_int s 1 t) F.entry_int_rmul (F.args_int_rmul_2 _ _) (int_rmul_tuple 1 t l its.toArray n dd sl)
      ⟨ho, rfl, ⟨_, ho, rfl⟩, call_meets F.slot_tuple_mul ⟨_, ho, rfl⟩ F.entry_tuple_mul (F.args_tuple_mul_2 _ _) (tuple_mul_one l its.toArray n dd sl t) ⟨ho, ?_⟩⟩)
  exact ⟨.ref l, H, I, rfl, q⟩
/-- t * k, with k 0 or less -/
theorem op_rep0 : OpR X (binaryOp .Mult) (fun x y H Q => ∃ l k xs, x = .ref l ∧ y = .int k ∧ SqT X.K H l xs ∧ xs ≠ [] ∧ -1000 ≤ k ∧ k ≤ 0 ∧ ∀ p, H p = none → Q (.ref p) (upd H p (.tup []))) := by
  intro pins s σ H x y v u Q I rx ry h
  obtain ⟨l, k, xs, rfl, rfl, hT, hne, k0, k1, q⟩ := h
  cases rx
  obtain ⟨t, rfl⟩ := ry
  obtain ⟨its, r, ⟨⟨cls, dd, data, sl⟩, ho, hc, n, hd⟩, hs⟩ := I.tuple hT
  simp only at hc hd
  subst hc hd
  have le := r.length
  have hi : its.toArray.isEmpty = false := by
    cases its with
    | nil => exact absurd (List.eq_nil_of_length_eq_zero le) hne
    | cons a b => rfl
  have b0 : (decide (k < -(2 ^ 63)) || decide (k ≥ 2 ^ 63)) = false := by
    rw [decide_eq_false (by omega), decide_eq_false (by omega)]
    rfl
  have b1 : (its.toArray.isEmpty || k == 1) = false := by
    rw [hi, Bool.false_or]
    exact beq_eq_false_iff_ne.mpr (by omega)
  have b2 : (decide (k ≤ 0) || its.toArray.isEmpty) = true := by rw [decide_eq_true k1]; rfl
  refine wpAny_binaryOp_repeat_ref (T := "tuple") (U := "int") (by decide) ⟨_, ho, rfl⟩ (fun s' => typeIs_int s' k t) noFill_tuple_mul F.fills_int_mul F.slot_int_rmul repeat_tuple F.slot_int_index.lookup
    (call_meets F.slot_int_rmul (typeIs_int s k t) F.entry_int_rmul (F.args_int_rmul_2 _ _) (int_rmul_tuple k t l its.toArray n dd sl)
      ⟨ho, rfl, ⟨_, ho, rfl⟩, call_meets F.slot_tuple_mul ⟨_, ho, rfl⟩ F.entry_tuple_mul (F.args_tuple_mul_2 _ _) (tuple_mul_none l its.toArray n dd sl k t b0 b1 b2) ⟨ho, ?_⟩⟩)
  refine ⟨.ref s.heap.objs.size, _, I.laid (t' := s.toks) (o := .tup []) (fun b ob q => Heap.get?_push_of_some _ q) (Nat.le_refl _) ?_, rfl, q _ (I.hok.fresh (Nat.le_refl _))⟩
  exact ⟨by rw [sizeLine_eq]; exact Nat.zero_le _, [], .nil, IsTup.new _ _⟩
/-- a list times an int, any list that is read -/
theorem Lp.obj {pins : List (Addr × Obj)} {σ : L2.St} {H : Hp} {s : Shared} {M : Ms} {a : Addr} {xs : List V} (I : Inv X pins σ H s) (h : Lp X.K H M a xs) :
    ∃ (its : List Value) (n : Nat), Vals xs its ∧ xs.length ≤ sizeLine ∧ s.heap.get? a = some { cls := .type "list", data := .seq its.toArray n } := by
  rcases h with ⟨_, h⟩ | ⟨its, n, hk, hz, r⟩
  · obtain ⟨z, its, n, r, e⟩ := h.ok I.hok
    exact ⟨its, n, r, z, e⟩
  · refine ⟨its.toList, n, r, ?_, by simpa using I.kIn a _ hk⟩
    rw [r.length]
    simpa using hz
/-- two lists joined, any that are read -/
theorem op_catL : OpR X (binaryOp .Add) (fun x y H Q => ∃ a b xs ys M, x = .ref a ∧ y = .ref b ∧ Lp X.K H M a xs ∧ Lp X.K H M b ys ∧ xs.length + ys.length ≤ sizeLine ∧ ∀ p, H p = none → Q (.ref p) (upd H p (.lst (xs ++ ys)))) := by
  intro pins s σ H x y v u Q I rx ry h
  obtain ⟨a, b, xs, ys, M, rfl, rfl, la, lb, hz, q⟩ := h
  cases rx
  cases ry
  obtain ⟨its, n, r, _, e⟩ := la.obj I
  obtain ⟨its2, n2, r2, _, e2⟩ := lb.obj I
  have l1 := r.length
  have l2 := r2.length
  refine PySem.P.add_list e e2 ?_ (by rw [List.size_toArray, List.size_toArray]; omega)
  rw [show its.toArray ++ its2.toArray = (its ++ its2).toArray by simp]
  exact ⟨.ref _, _, I.lnew (t' := s.toks) (r.append r2) (by rw [List.length_append]; omega), rfl, q _ I.fresh⟩
theorem op_repL : OpR X (binaryOp .Mult) (fun x y H Q => ∃ l k xs M, x = .ref l ∧ y = .int k ∧ Lp X.K H M l xs ∧ -(2 ^ 63) ≤ k ∧ k < 2 ^ 63 ∧ xs.length * k.toNat ≤ sizeLine ∧
    ∀ p, H p = none → Q (.ref p) (upd H p (.lst (List.replicate k.toNat xs).flatten))) := by
  intro pins s σ H x y v u Q I rx ry h
  obtain ⟨l, k, xs, M, rfl, rfl, hL, lo, hi, hz, q⟩ := h
  cases rx
  obtain ⟨t, rfl⟩ := ry
  obtain ⟨its, n, r, _, e⟩ := hL.obj I
  have hl := r.length
  have size_ok : its.toArray.size * k.toNat ≤ sizeLine := by
    rw [List.size_toArray, ← hl]
    exact hz
  have fit : ¬ (!Builtin.List.listFitsIndex k) = true := by
    rw [fitsIndex_both lo hi]
    decide
  have cap : ¬ its.toArray.size * k.toNat > (2 ^ 63 - 1) / 8 := by
    rw [sizeLine_eq] at size_ok
    omega
  have short : ¬ Builtin.List.listTooLong (its.toArray.size * k.toNat) = true := by
    rw [notLongL size_ok]
    decide
  have flat : List.foldl (fun x1 x2 => x1 ++ x2) #[] (List.replicate (if its.toArray.isEmpty = true then 0 else k.toNat) its.toArray) = (List.replicate k.toNat its).flatten.toArray := by
    have all : ∀ m : Nat, List.foldl (fun x1 x2 => x1 ++ x2) #[] (List.replicate m its.toArray) = (List.replicate m its).flatten.toArray := by
      intro m
      have z := foldl_rep its m []
      rwa [List.nil_append] at z
    rw [all]
    cases its with
    | nil => simp
    | cons a b => simp
  have one := AutoListH.list___mul___list_int_3 l its.toArray n k t fit cap short
  refine wpAny_binaryOp_repeat_ref (T := "list") (U := "int") (by decide) ⟨_, e, rfl⟩ (fun s' => typeIs_int s' k t) noFill_list_mul F.fills_int_mul F.slot_int_rmul repeat_list F.slot_int_index.lookup
    (call_meets F.slot_int_rmul (typeIs_int s k t) F.entry_int_rmul (F.args_int_rmul_2 _ _) (int___rmul___int_list k t l its.toArray n) ⟨e, rfl, ⟨_, e, rfl⟩, ?_⟩)
  refine call_meets F.slot_list_mul ⟨_, e, rfl⟩ F.entry_list_mul (F.args_list_mul_2 _ _) one ⟨e, ?_⟩
  rw [flat]
  refine ⟨.ref _, _, I.lnew (t' := s.toks) (r.rep k.toNat) ?_, rfl, q _ I.fresh⟩
  rw [PyProof.Rows.lm_len_rep_flat, Nat.mul_comm]
  exact hz
theorem op_fdivL : OpR X (binaryOp .FloorDiv) (rI (fun _ j => j ≠ 0 ∧ j.natAbs.log2 < 9000) fun i j => .int (i.fdiv j)) :=
  opI fun _ _ _ _ _ _ _ hc q => floordiv_int hc.1 q (.inl (PyProof.noPylong_of_log2 hc.2))

theorem op_bin (op : BOp) : OpR X (binaryOp (opO op)) (rB X.K fun _ v w => binop op v w) := by
  intro pins s σ H x y vv uu Q I rx ry h
  obtain ⟨v, w, z, h, M, rh, rv, rw', e, g⟩ := h
  cases v with
  | int i =>
    cases rv
    cases w with
    | int j =>
      cases rw'
      cases op with
      | add => cases e; exact op_add pins s σ H _ _ vv uu Q I rx ry ⟨i, j, rfl, rfl, g.at rh (.int _)⟩
      | sub => cases e; exact op_sub pins s σ H _ _ vv uu Q I rx ry ⟨i, j, rfl, rfl, g.at rh (.int _)⟩
      | mul =>
        obtain ⟨c, e⟩ := ifs e
        subst e
        unfold mulFits at c
        rw [Bool.or_eq_true, Bool.or_eq_true] at c
        rcases c with (c | c) | c
        · exact op_mul pins s σ H _ _ vv uu Q I rx ry ⟨i, j, rfl, rfl, .inl (of_decide_eq_true c), g.at rh (.int _)⟩
        · exact op_mul pins s σ H _ _ vv uu Q I rx ry ⟨i, j, rfl, rfl, .inr (of_decide_eq_true c), g.at rh (.int _)⟩
        · exact op_mulW pins s σ H _ _ vv uu Q I rx ry ⟨i, j, rfl, rfl, (show CMulW i j from of_decide_eq_true (p := i.natAbs.log2 + j.natAbs.log2 < 1000000) c), g.at rh (.int _)⟩
      | fdiv =>
        obtain ⟨c, e⟩ := ifs e
        subst e
        unfold divFits at c
        rw [Bool.and_eq_true] at c
        exact op_fdivL pins s σ H _ _ vv uu Q I rx ry ⟨i, j, rfl, rfl, ⟨of_decide_eq_true c.1, of_decide_eq_true c.2⟩, g.at rh (.int _)⟩
      | pow =>
        obtain ⟨c, e⟩ := ifs e
        subst e
        rw [Bool.and_eq_true, Bool.and_eq_true] at c
        exact op_pow pins s σ H _ _ vv uu Q I rx ry ⟨i, j, rfl, rfl, ⟨of_decide_eq_true c.1, of_decide_eq_true c.2.1, of_decide_eq_true c.2.2⟩, g.at rh (.int _)⟩
      | mod =>
        obtain ⟨c, e⟩ := ifs e
        subst e
        exact op_modN pins s σ H _ _ vv uu Q I rx ry ⟨i, j, rfl, rfl, of_decide_eq_true c, g.at rh (.int _)⟩
    | _ => cases op <;> cases e
  | str i =>
    cases rv
    cases w with
    | str j =>
      cases rw'
      cases op with
      | add =>
        obtain ⟨c, e⟩ := ifs e
        subst e
        exact op_add_str pins s σ H _ _ vv uu Q I rx ry ⟨i, j, rfl, rfl, of_decide_eq_true c, g.at rh (.str _)⟩
      | _ => cases e
    | _ => cases op <;> cases e
  | tup xs =>
    obtain ⟨a, vs, rfl, ta, la⟩ : ∃ a vs, x = .ref a ∧ Tp X.K H M a vs ∧ RepL X.K H M xs vs := by cases rv; exact ⟨_, _, rfl, ‹_›, ‹_›⟩
    cases w with
    | tup ys =>
      obtain ⟨b, ws, rfl, tb, lb⟩ : ∃ a vs, y = .ref a ∧ Tp X.K H M a vs ∧ RepL X.K H M ys vs := by cases rw'; exact ⟨_, _, rfl, ‹_›, ‹_›⟩
      cases op with
      | add =>
        obtain ⟨c, e⟩ := ifs e
        subst e
        have l1 := la.length
        have l2 := lb.length
        refine op_catA pins s σ H _ _ vv uu Q I rx ry ⟨a, b, vs, ws, rfl, rfl, ta.sq, tb.sq, ?_, ?_, ?_, ?_⟩
        · rw [← l1, ← l2]
          exact of_decide_eq_true c
        · rintro rfl
          cases la
          exact g.at rh rw'
        · rintro _ rfl
          cases lb
          rw [List.append_nil] at g
          exact g.at rh rv
        · intro _ _ p hp
          exact g.tup rh (la.append lb) p hp
      | _ => cases e
    | int k =>
      cases rw'
      cases op with
      | mul =>
        obtain ⟨c, e⟩ := ifs e
        subst e
        obtain ⟨c1, c2, c3, c4⟩ := of_decide_eq_true c
        have l1 := la.length
        have ne : vs ≠ [] := by
          rintro rfl
          rw [l1] at c4
          exact Nat.lt_irrefl 0 c4
        by_cases hk : k = 1
        · subst hk
          refine op_rep1 pins s σ H _ _ vv uu Q I rx ry ⟨a, vs, rfl, rfl, ta.sq, ne, ?_⟩
          have e1 : (List.replicate (1 : Int).toNat xs).flatten = xs := by simp
          rw [e1] at g
          exact g.at rh rv
        by_cases k0 : k ≤ 0
        · refine op_rep0 pins s σ H _ _ vv uu Q I rx ry ⟨a, k, vs, rfl, rfl, ta.sq, ne, c1, k0, ?_⟩
          intro p hp
          have e1 : (List.replicate k.toNat xs).flatten = [] := by rw [Int.toNat_eq_zero.mpr k0]; rfl
          rw [e1] at g
          exact g.tup rh .nil p hp
        · refine op_repT pins s σ H _ _ vv uu Q I rx ry ⟨a, k, vs, rfl, rfl, ta.sq, ne, by omega, c2, by rw [← l1]; exact c3, ?_⟩
          intro p hp
          exact g.tup rh la.flat p hp
      | _ => cases e
    | _ => cases op <;> cases e
  | lst xs =>
    obtain ⟨a, vs, rfl, ta, la⟩ : ∃ a vs, x = .ref a ∧ Lp X.K H M a vs ∧ RepL X.K H M xs vs := by cases rv; exact ⟨_, _, rfl, ‹_›, ‹_›⟩
    cases w with
    | lst ys =>
      obtain ⟨b, ws, rfl, tb, lb⟩ : ∃ a vs, y = .ref a ∧ Lp X.K H M a vs ∧ RepL X.K H M ys vs := by cases rw'; exact ⟨_, _, rfl, ‹_›, ‹_›⟩
      cases op with
      | add =>
        obtain ⟨c, rfl⟩ := ifs e
        refine op_catL pins s σ H _ _ vv uu Q I rx ry ⟨a, b, vs, ws, M, rfl, rfl, ta, tb, ?_, fun p hp => g.lst rh (la.append lb) p hp⟩
        rw [← la.length, ← lb.length, sizeLine_eq]
        exact of_decide_eq_true c
      | _ => cases e
    | _ => cases op <;> cases e
  | _ => cases op <;> cases e
end
end Ws
end

section
set_option Elab.async false
set_option linter.all false
set_option maxRecDepth 100000
set_option autoImplicit false
/-! Operations on values: truth, items, slices, what a list's length is, dicts. -/
namespace Ws
open PySem PySem.Spec PyProof.Rows L2

section
variable {K : PySem.W.Frag} {H : Hp} {M : Ms} {h : SH}
/-- a sequence, as it is read -/
theorem Rep.tup_inv {xs : List SV} {x : V} (r : Rep K H M (.tup xs) x) : ∃ a vs, x = .ref a ∧ Tp K H M a vs ∧ RepL K H M xs vs := by cases r; exact ⟨_, _, rfl, ‹_›, ‹_›⟩
theorem Rep.kt_inv {xs : List SV} {x : V} (r : Rep K H M (.kt xs) x) : ∃ a vs, x = .ref a ∧ KTup K a vs ∧ RepL K H M xs vs := by cases r; exact ⟨_, _, rfl, ‹_›, ‹_›⟩
theorem Rep.lst_inv {xs : List SV} {x : V} (r : Rep K H M (.lst xs) x) : ∃ a vs, x = .ref a ∧ Lp K H M a vs ∧ RepL K H M xs vs := by cases r; exact ⟨_, _, rfl, ‹_›, ‹_›⟩
theorem Rep.ref_inv {n : Nat} {x : V} (r : Rep K H M (.ref n) x) : ∃ a, x = .ref a ∧ M.c[n]? = some a := by cases r; exact ⟨_, rfl, ‹_›⟩
theorem RH.lst {n : Nat} {a : Addr} {xs : List SV} (r : RH K H M h) (hm : M.c[n]? = some a) (hn : h[n]? = some (.lst xs)) : ∃ vs, H a = some (.lst vs) ∧ RepL K H M xs vs := by
  obtain ⟨o, u, e1, e2, e3⟩ := r.cell hm
  rw [hn] at e1
  cases e1
  cases e3
  exact ⟨_, e2, ‹_›⟩
theorem RH.dct {n : Nat} {a : Addr} {kvs : List (SV × SV)} (r : RH K H M h) (hm : M.c[n]? = some a) (hn : h[n]? = some (.dct kvs)) : ∃ ps, H a = some (.dK ps) ∧ RepK K H M kvs ps := by
  obtain ⟨o, u, e1, e2, e3⟩ := r.cell hm
  rw [hn] at e1
  cases e1
  cases e3
  exact ⟨_, e2, ‹_›⟩
/-- what a walk over v sees -/
theorem items_rep {v : SV} {x : V} {xs : List SV} (r : RH K H M h) (rv : Rep K H M v x) (e : itemsOf h v = some xs) : ∃ a vs, x = .ref a ∧ (SqL K H a vs ∨ SqT K H a vs) ∧ RepL K H M xs vs := by
  cases v with
  | tup ys =>
    cases e
    obtain ⟨a, vs, rfl, t, l⟩ := rv.tup_inv
    exact ⟨a, vs, rfl, .inr t.sq, l⟩
  | kt ys =>
    cases e
    obtain ⟨a, vs, rfl, t, l⟩ := rv.kt_inv
    exact ⟨a, vs, rfl, .inr t.sq, l⟩
  | lst ys =>
    cases e
    obtain ⟨a, vs, rfl, t, l⟩ := rv.lst_inv
    exact ⟨a, vs, rfl, .inl t.sq, l⟩
  | ref n =>
    obtain ⟨a, rfl, hm⟩ := rv.ref_inv
    simp only [itemsOf] at e
    split at e
    · cases e
      rename_i hn
      obtain ⟨vs, e1, l⟩ := r.lst hm hn
      exact ⟨a, vs, rfl, .inl (.inl (.inl e1)), l⟩
    · cases e
  | _ => cases e
theorem items_list {v : SV} {x : V} {xs : List SV} (r : RH K H M h) (rv : Rep K H M v x) (e : itemsOf h v = some xs) (nt : ∀ ys, v ≠ .tup ys) (nk : ∀ ys, v ≠ .kt ys) : ∃ a vs, x = .ref a ∧ SqL K H a vs ∧ RepL K H M xs vs := by
  cases v with
  | tup ys => exact absurd rfl (nt ys)
  | kt ys => exact absurd rfl (nk ys)
  | lst ys =>
    cases e
    obtain ⟨a, vs, rfl, t, l⟩ := rv.lst_inv
    exact ⟨a, vs, rfl, t.sq, l⟩
  | ref n =>
    obtain ⟨a, rfl, hm⟩ := rv.ref_inv
    simp only [itemsOf] at e
    split at e
    · cases e
      rename_i hn
      obtain ⟨vs, e1, l⟩ := r.lst hm hn
      exact ⟨a, vs, rfl, .inl (.inl e1), l⟩
    · cases e
  | _ => cases e

theorem tru_rep {v : SV} {x : V} {b : Bool} (r : RH K H M h) (rv : Rep K H M v x) (e : truthOf h v = some b) : TruV K x H b := by
  cases v with
  | non => cases rv; cases e; exact rfl
  | bl c => cases rv; cases e; exact rfl
  | int i => cases rv; cases e; exact rfl
  | tup xs =>
    cases e
    obtain ⟨a, vs, rfl, t, l⟩ := rv.tup_inv
    exact .inr (.inl ⟨vs, t.sq, by rw [l.nil_iff]⟩)
  | lst xs =>
    cases e
    obtain ⟨a, vs, rfl, t, l⟩ := rv.lst_inv
    exact .inl ⟨vs, t.sq, by rw [l.nil_iff]⟩
  | ref n =>
    obtain ⟨a, rfl, hm⟩ := rv.ref_inv
    simp only [truthOf] at e
    split at e
    · cases e
      rename_i hn
      obtain ⟨vs, e1, l⟩ := r.lst hm hn
      exact .inl ⟨vs, .inl (.inl e1), by rw [l.nil_iff]⟩
    · cases e
  | _ => cases e

/-! ### items -/
theorem RepL.at_ {xs : List SV} {vs : List V} {i : Int} {z : SV} (l : RepL K H M xs vs) (e : itemAt xs i = some z) : ∃ x, atI vs i = some x ∧ Rep K H M z x := by
  unfold itemAt atI at *
  obtain ⟨j, e1, e2⟩ := Option.bind_eq_some_iff.mp e
  obtain ⟨x, e3, r⟩ := l.get e2
  exact ⟨x, by rw [← l.length, e1]; exact e3, r⟩
theorem keyOf_inj {a b : SV} {q : Key} (ha : keyOf a = some q) (hb : keyOf b = some q) : a = b := by
  cases a <;> cases b <;> simp only [keyOf, Option.some.injEq, reduceCtorEq] at ha hb <;> subst ha <;> simp_all
theorem keyOf_kV {a : SV} {q : Key} {x : V} (ha : keyOf a = some q) (r : Rep K H M a x) : x = kV q := by
  cases a with
  | int i => cases r; cases ha; rfl
  | str i => cases r; cases ha; rfl
  | _ => cases ha
theorem keyOf_flat {a : SV} (ha : a.flat = true) : ∃ q, keyOf a = some q := by
  cases a with
  | int i => exact ⟨_, rfl⟩
  | str i => exact ⟨_, rfl⟩
  | _ => cases ha
theorem key_dec {a b : SV} {p q : Key} (ha : keyOf a = some p) (hb : keyOf b = some q) : decide (a = b) = decide (p = q) := by
  rw [decide_eq_decide]
  constructor
  · rintro rfl
    rw [ha] at hb
    exact Option.some.inj hb
  · rintro rfl
    exact keyOf_inj ha hb
theorem RepK.find {k : SV} {q : Key} (hk : keyOf k = some q) : ∀ {kvs : List (SV × SV)} {ps : List (Key × V)} {z : SV}, RepK K H M kvs ps → find kvs k = some z → ∃ x, valV ps q = some x ∧ Rep K H M z x
  | _, _, _, .nil, e => by simp [Ws.find] at e
  | _, _, z, .cons (k := k') (x := x') (q := q') (v := v) (xs := xs) (vs := vs) hk' r rs, e => by
    have d := key_dec hk' hk
    by_cases h : q' = q
    · rw [decide_eq_true h] at d
      have e' : Ws.find ((k', x') :: xs) k = some x' := by simp only [Ws.find, List.find?_cons, d, Option.map_some]
      rw [e'] at e
      cases e
      exact ⟨v, valV_pos h, r⟩
    · rw [decide_eq_false h] at d
      have e' : Ws.find ((k', x') :: xs) k = Ws.find xs k := by simp only [Ws.find, List.find?_cons, d]
      rw [e'] at e
      obtain ⟨x, e1, r1⟩ := RepK.find hk rs e
      exact ⟨x, by rw [valV_neg h]; exact e1, r1⟩
theorem RepK.any {k : SV} {q : Key} (hk : keyOf k = some q) : ∀ {kvs : List (SV × SV)} {ps : List (Key × V)}, RepK K H M kvs ps → (kvs.any fun p => decide (p.1 = k)) = ps.any fun p => decide (p.1 = q)
  | _, _, .nil => rfl
  | _, _, .cons hk' r rs => by
    rw [List.any_cons, List.any_cons, RepK.any hk rs]
    show (decide _ || _) = (decide _ || _)
    rw [key_dec hk' hk]
theorem RepK.map_put {k z : SV} {q : Key} {x : V} (hk : keyOf k = some q) (rz : Rep K H M z x) : ∀ {kvs : List (SV × SV)} {ps : List (Key × V)}, RepK K H M kvs ps →
    RepK K H M (kvs.map fun p => if p.1 = k then (p.1, z) else p) (ps.map fun p => if p.1 = q then (p.1, x) else p)
  | _, _, .nil => .nil
  | _, _, .cons (k := k') (q := q') hk' r rs => by
    have d := key_dec hk' hk
    rw [List.map_cons, List.map_cons]
    by_cases h : q' = q
    · have h' : k' = k := of_decide_eq_true (d.trans (decide_eq_true h))
      rw [if_pos h, if_pos h']
      exact .cons hk' rz (RepK.map_put hk rz rs)
    · have h' : ¬ k' = k := of_decide_eq_false (d.trans (decide_eq_false h))
      rw [if_neg h, if_neg h']
      exact .cons hk' r (RepK.map_put hk rz rs)
theorem RepK.append : ∀ {kvs kws : List (SV × SV)} {ps qs : List (Key × V)}, RepK K H M kvs ps → RepK K H M kws qs → RepK K H M (kvs ++ kws) (ps ++ qs)
  | _, _, _, _, .nil, s => s
  | _, _, _, _, .cons h q r, s => .cons h q (RepK.append r s)
theorem RepK.put {k z : SV} {q : Key} {x : V} (hk : keyOf k = some q) (rz : Rep K H M z x) {kvs : List (SV × SV)} {ps : List (Key × V)} (r : RepK K H M kvs ps) : RepK K H M (putV kvs k z) (putK ps q x) := by
  unfold putV putK
  rw [r.any hk]
  split
  · exact r.map_put hk rz
  · exact r.append (.cons hk rz .nil)
theorem RepK.length : ∀ {kvs : List (SV × SV)} {ps : List (Key × V)}, RepK K H M kvs ps → kvs.length = ps.length
  | _, _, .nil => rfl
  | _, _, .cons _ _ r => congrArg Nat.succ (RepK.length r)
end

/-! ### keys that are tuples -/
section
variable {K : PySem.W.Frag} {H : Hp} {M : Ms} {h : SH}
theorem keysOf_flat : ∀ {ks : List SV}, ks.all SV.flat = true → ∃ q, keysOf ks = some q
  | [], _ => ⟨[], rfl⟩
  | k :: ks, e => by
    rw [List.all_cons, Bool.and_eq_true] at e
    obtain ⟨q, hq⟩ := keyOf_flat e.1
    obtain ⟨qs, hqs⟩ := keysOf_flat e.2
    exact ⟨q :: qs, by simp only [keysOf, hq, hqs]⟩
theorem keysOf_cons {k : SV} {ks : List SV} {q : List Key} (e : keysOf (k :: ks) = some q) : ∃ a b, keyOf k = some a ∧ keysOf ks = some b ∧ q = a :: b := by
  simp only [keysOf] at e
  split at e
  · cases e
    exact ⟨_, _, ‹_›, ‹_›, rfl⟩
  · cases e
theorem keysOf_inj : ∀ {a b : List SV} {q : List Key}, keysOf a = some q → keysOf b = some q → a = b
  | [], [], _, _, _ => rfl
  | [], _ :: _, q, ha, hb => by
    obtain ⟨_, _, _, _, rfl⟩ := keysOf_cons hb
    cases ha
  | _ :: _, [], q, ha, hb => by
    obtain ⟨_, _, _, _, rfl⟩ := keysOf_cons ha
    cases hb
  | x :: a, y :: b, q, ha, hb => by
    obtain ⟨p1, r1, e1, e2, rfl⟩ := keysOf_cons ha
    obtain ⟨p2, r2, f1, f2, e⟩ := keysOf_cons hb
    cases e
    rw [keyOf_inj e1 f1, keysOf_inj e2 f2]
theorem keysOf_kV : ∀ {ks : List SV} {q : List Key} {vs : List V}, keysOf ks = some q → RepL K H M ks vs → vs = q.map kV
  | [], _, _, e, .nil => by cases e; rfl
  | k :: ks, q, _, e, .cons r rs => by
    obtain ⟨p1, r1, e1, e2, rfl⟩ := keysOf_cons e
    rw [keyOf_kV e1 r, keysOf_kV e2 rs]
    rfl
/-- a key, where it stands -/
theorem key_at {k : SV} {x : V} (hf : k.flatT = true) (r : Rep K H M k x) : ∃ ks q b, k = .tup ks ∧ keysOf ks = some q ∧ x = .ref b ∧ H b = some (.tup (q.map kV)) := by
  cases k with
  | tup ks =>
    obtain ⟨q, hq⟩ := keysOf_flat (show ks.all SV.flat = true from hf)
    obtain ⟨b, vs, rfl, t, l⟩ := r.tup_inv
    obtain rfl := keysOf_kV hq l
    exact ⟨ks, q, b, rfl, hq, rfl, t⟩
  | _ => cases hf
theorem keys_dec {a b : List SV} {p q : List Key} (ha : keysOf a = some p) (hb : keysOf b = some q) : decide (SV.tup a = SV.tup b) = decide (p = q) := by
  rw [decide_eq_decide]
  constructor
  · intro e
    cases e
    rw [ha] at hb
    exact Option.some.inj hb
  · rintro rfl
    rw [keysOf_inj ha hb]
theorem RepT.find {k : List SV} {q : List Key} (hk : keysOf k = some q) : ∀ {kvs : List (SV × SV)} {ps : List (List Key × V)}, RepT K H M kvs ps → (Ws.find kvs (.tup k) = none ∧ valV ps q = none) ∨ ∃ z x, Ws.find kvs (.tup k) = some z ∧ valV ps q = some x ∧ Rep K H M z x
  | _, _, .nil => .inl ⟨rfl, rfl⟩
  | _, _, .cons (k := k') (x := x') (q := q') (v := v) (xs := xs) (vs := vs) hk' r rs => by
    have d := keys_dec hk' hk
    by_cases h : q' = q
    · rw [decide_eq_true h] at d
      exact .inr ⟨x', v, by simp only [Ws.find, List.find?_cons, d, Option.map_some], valV_pos h, r⟩
    · rw [decide_eq_false h] at d
      have e' : Ws.find ((.tup k', x') :: xs) (.tup k) = Ws.find xs (.tup k) := by simp only [Ws.find, List.find?_cons, d]
      rw [e', valV_neg h]
      exact RepT.find hk rs
theorem RepT.any {k : List SV} {q : List Key} (hk : keysOf k = some q) : ∀ {kvs : List (SV × SV)} {ps : List (List Key × V)}, RepT K H M kvs ps → (kvs.any fun p => decide (p.1 = .tup k)) = ps.any fun p => decide (p.1 = q)
  | _, _, .nil => rfl
  | _, _, .cons hk' r rs => by
    rw [List.any_cons, List.any_cons, RepT.any hk rs]
    show (decide _ || _) = (decide _ || _)
    rw [keys_dec hk' hk]
theorem RepT.map_put {k : List SV} {z : SV} {q : List Key} {x : V} (hk : keysOf k = some q) (rz : Rep K H M z x) : ∀ {kvs : List (SV × SV)} {ps : List (List Key × V)}, RepT K H M kvs ps →
    RepT K H M (kvs.map fun p => if p.1 = .tup k then (p.1, z) else p) (ps.map fun p => if p.1 = q then (p.1, x) else p)
  | _, _, .nil => .nil
  | _, _, .cons (k := k') (q := q') hk' r rs => by
    have d := keys_dec hk' hk
    rw [List.map_cons, List.map_cons]
    by_cases h : q' = q
    · have h' : SV.tup k' = SV.tup k := of_decide_eq_true (d.trans (decide_eq_true h))
      rw [if_pos h, if_pos h']
      exact .cons hk' rz (RepT.map_put hk rz rs)
    · have h' : ¬ SV.tup k' = SV.tup k := of_decide_eq_false (d.trans (decide_eq_false h))
      rw [if_neg h, if_neg h']
      exact .cons hk' r (RepT.map_put hk rz rs)
theorem RepT.append : ∀ {kvs kws : List (SV × SV)} {ps qs : List (List Key × V)}, RepT K H M kvs ps → RepT K H M kws qs → RepT K H M (kvs ++ kws) (ps ++ qs)
  | _, _, _, _, .nil, s => s
  | _, _, _, _, .cons h q r, s => .cons h q (RepT.append r s)
theorem RepT.put {k : List SV} {z : SV} {q : List Key} {x : V} (hk : keysOf k = some q) (rz : Rep K H M z x) {kvs : List (SV × SV)} {ps : List (List Key × V)} (r : RepT K H M kvs ps) : RepT K H M (putV kvs (.tup k) z) (putK ps q x) := by
  unfold putV putK
  rw [r.any hk]
  split
  · exact r.map_put hk rz
  · exact r.append (.cons hk rz .nil)
theorem RepT.length : ∀ {kvs : List (SV × SV)} {ps : List (List Key × V)}, RepT K H M kvs ps → kvs.length = ps.length
  | _, _, .nil => rfl
  | _, _, .cons _ _ r => congrArg Nat.succ (RepT.length r)
theorem RepK.found {k : SV} {q : Key} (hk : keyOf k = some q) : ∀ {kvs : List (SV × SV)} {ps : List (Key × V)}, RepK K H M kvs ps → (Ws.find kvs k = none ∧ valV ps q = none) ∨ ∃ z x, Ws.find kvs k = some z ∧ valV ps q = some x ∧ Rep K H M z x
  | _, _, .nil => .inl ⟨rfl, rfl⟩
  | _, _, .cons (k := k') (x := x') (q := q') (v := v) (xs := xs) (vs := vs) hk' r rs => by
    have d := key_dec hk' hk
    by_cases h : q' = q
    · rw [decide_eq_true h] at d
      exact .inr ⟨x', v, by simp only [Ws.find, List.find?_cons, d, Option.map_some], valV_pos h, r⟩
    · rw [decide_eq_false h] at d
      have e' : Ws.find ((k', x') :: xs) k = Ws.find xs k := by simp only [Ws.find, List.find?_cons, d]
      rw [e', valV_neg h]
      exact RepK.found hk rs
/-- what a dict holds at a key, by the cell's kind -/
theorem RH.dget {n : Nat} {a : Addr} {k : SV} {y : V} {kvs : List (SV × SV)} (r : RH K H M h) (hm : M.c[n]? = some a) (ry : Rep K H M k y)
    (hn : (h[n]? = some (.dct kvs) ∧ k.flat = true) ∨ (h[n]? = some (.dtt kvs) ∧ k.flatT = true) ∨ (h[n]? = some (.ddf kvs) ∧ k.flatT = true)) :
    ∃ o, DGet H a y o ∧ IsD H a ∧ ((Ws.find kvs k = none ∧ o = none) ∨ ∃ z x, Ws.find kvs k = some z ∧ o = some x ∧ Rep K H M z x) := by
  obtain ⟨c, u, e1, e2, e3⟩ := r.cell hm
  rcases hn with ⟨hn, hf⟩ | ⟨hn, hf⟩ | ⟨hn, hf⟩
  · rw [hn] at e1
    cases e1
    cases e3 with
    | dK rk =>
      obtain ⟨q, hk⟩ := keyOf_flat hf
      obtain rfl := keyOf_kV hk ry
      exact ⟨_, DGet.k e2, .inl ⟨_, .inl e2⟩, rk.found hk⟩
  · rw [hn] at e1
    cases e1
    cases e3 with
    | dT rk =>
      obtain ⟨ks, q, b, rfl, hk, rfl, hb⟩ := key_at hf ry
      exact ⟨_, DGet.t e2 hb, .inr ⟨_, .inl e2⟩, rk.find hk⟩
  · rw [hn] at e1
    cases e1
    cases e3 with
    | dF rk =>
      obtain ⟨ks, q, b, rfl, hk, rfl, hb⟩ := key_at hf ry
      exact ⟨_, .inr ⟨_, q, b, .inr ⟨_, e2⟩, rfl, hb, rfl⟩, .inr ⟨_, .inr ⟨_, e2⟩⟩, rk.find hk⟩
end
section
variable {K : PySem.W.Frag} {H : Hp} {M : Ms} {h : SH}
theorem dkey {n : Nat} {a : Addr} {v : SV} {y : V} {b : Bool} (r : RH K H M h) (hm : M.c[n]? = some a) (ry : Rep K H M v y) (e : hasKey h n v = some b) : ∃ o, DGet H a y o ∧ IsD H a ∧ b = o.isSome := by
  have go : ∀ kvs : List (SV × SV), ((h[n]? = some (.dct kvs) ∧ v.flat = true) ∨ (h[n]? = some (.dtt kvs) ∧ v.flatT = true) ∨ (h[n]? = some (.ddf kvs) ∧ v.flatT = true)) → b = (Ws.find kvs v).isSome → ∃ o, DGet H a y o ∧ IsD H a ∧ b = o.isSome := by
    intro kvs hn hb
    obtain ⟨o, d1, d2, q⟩ := r.dget hm ry hn
    refine ⟨o, d1, d2, ?_⟩
    rcases q with ⟨q1, q2⟩ | ⟨z, x, q1, q2, _⟩
    · rw [hb, q1, q2]; rfl
    · rw [hb, q1, q2]; rfl
  unfold hasKey at e
  split at e
  · rename_i kvs hn
    obtain ⟨c, rfl⟩ := ifs e
    exact go kvs (.inl ⟨hn, c⟩) rfl
  · rename_i kvs hn
    obtain ⟨c, rfl⟩ := ifs e
    exact go kvs (.inr (.inl ⟨hn, c⟩)) rfl
  · rename_i kvs hn
    obtain ⟨c, rfl⟩ := ifs e
    exact go kvs (.inr (.inr ⟨hn, c⟩)) rfl
  · cases e
/-- d.get -/
theorem getV_rep {o k d : SV} {x y z : V} {w : SV} (r : RH K H M h) (rx : Rep K H M o x) (ry : Rep K H M k y) (rz : Rep K H M d z) (e : getV h o k d = some w) : ∃ a u, x = .ref a ∧ IsD H a ∧ DGet H a y u ∧ Rep K H M w (u.getD z) := by
  cases o with
  | ref n =>
    obtain ⟨a, rfl, hm⟩ := rx.ref_inv
    have go : ∀ kvs : List (SV × SV), ((h[n]? = some (.dct kvs) ∧ k.flat = true) ∨ (h[n]? = some (.dtt kvs) ∧ k.flatT = true) ∨ (h[n]? = some (.ddf kvs) ∧ k.flatT = true)) → w = (Ws.find kvs k).getD d → ∃ b u, V.ref a = .ref b ∧ IsD H b ∧ DGet H b y u ∧ Rep K H M w (u.getD z) := by
      intro kvs hn hb
      obtain ⟨u, d1, d2, q⟩ := r.dget hm ry hn
      refine ⟨a, u, rfl, d2, d1, ?_⟩
      rcases q with ⟨q1, q2⟩ | ⟨z2, x, q1, q2, q3⟩
      · rw [hb, q1, q2]; exact rz
      · rw [hb, q1, q2]; exact q3
    simp only [getV] at e
    split at e
    · rename_i kvs hn
      obtain ⟨c, rfl⟩ := ifs e
      exact go kvs (.inl ⟨hn, c⟩) rfl
    · rename_i kvs hn
      obtain ⟨c, rfl⟩ := ifs e
      exact go kvs (.inr (.inl ⟨hn, c⟩)) rfl
    · rename_i kvs hn
      obtain ⟨c, rfl⟩ := ifs e
      exact go kvs (.inr (.inr ⟨hn, c⟩)) rfl
    · cases e
  | _ => cases e
end
/-! ### a written dict with ints -/
section
variable {X : Cx} {K : PySem.W.Frag} {a : Addr} {ks : List Int} {vs : List V}
theorem find_zip {k : Int} {z : SV} : ∀ {ks : List Int} {xs : List SV}, find ((ks.map SV.int).zip xs) (.int k) = some z → ∃ i : Nat, ks[i]? = some k ∧ xs[i]? = some z ∧ ∀ j : Nat, j < i → ks[j]? ≠ some k
  | [], _, e => by simp [find] at e
  | _ :: _, [], e => by simp [find] at e
  | q :: ks, x :: xs, e => by
    by_cases h : q = k
    · subst h
      have e' : find (((q :: ks).map SV.int).zip (x :: xs)) (.int q) = some x := by simp [find]
      rw [e'] at e
      cases e
      exact ⟨0, rfl, rfl, fun j hj => absurd hj (Nat.not_lt_zero j)⟩
    · have e' : find (((q :: ks).map SV.int).zip (x :: xs)) (.int k) = find ((ks.map SV.int).zip xs) (.int k) := by
        have : ¬ (SV.int q = SV.int k) := fun z => h (SV.int.inj z)
        simp [find, List.find?_cons, this]
      rw [e'] at e
      obtain ⟨i, e1, e2, e3⟩ := find_zip e
      refine ⟨i + 1, e1, e2, fun j hj => ?_⟩
      cases j with
      | zero => exact fun z => h (Option.some.inj z)
      | succ j => exact e3 j (by omega)
theorem isInt_key {e : DictEntry} {q k : Int} (h : ∃ t, e.key = .int q t) : Value.isInt k e.key = decide (q = k) := by
  obtain ⟨t, h⟩ := h
  rw [h]
  rfl
theorem paired_find {k : Int} : ∀ {ks : List Int} {vs : List V} {es : List DictEntry} {i : Nat} {v : V},
    Paired (fun (p : Int × V) (e : DictEntry) => (∃ t, e.key = .int p.1 t) ∧ e.hash = hashInt p.1 ∧ RelV p.2 e.val) (ks.zip vs) es → ks[i]? = some k → vs[i]? = some v → (∀ j : Nat, j < i → ks[j]? ≠ some k) →
    ∃ u, (es.find? fun d => Value.isInt k d.key).map (·.val) = some u ∧ RelV v u
  | [], _, _, _, _, _, e, _, _ => by simp at e
  | _ :: _, [], _, _, _, _, _, e, _ => by simp at e
  | q :: ks, v' :: vs, es, i, v, p, e1, e2, n => by
    cases p with
    | cons p ps =>
      obtain ⟨p1, _, p3⟩ := p
      have d := isInt_key (k := k) p1
      cases i with
      | zero =>
        cases e1
        cases e2
        refine ⟨_, ?_, p3⟩
        rw [List.find?_cons, d]
        simp
      | succ i =>
        have ne : ¬ q = k := fun z => n 0 (Nat.succ_pos i) (by rw [z]; rfl)
        obtain ⟨u, h1, h2⟩ := paired_find ps e1 e2 fun j hj => n (j + 1) (by omega)
        refine ⟨u, ?_, h2⟩
        rw [List.find?_cons, d, decide_eq_false ne]
        exact h1
theorem paired_keys : ∀ {l : List (Int × V)} {es : List DictEntry}, Paired (fun (p : Int × V) (e : DictEntry) => (∃ t, e.key = .int p.1 t) ∧ e.hash = hashInt p.1 ∧ RelV p.2 e.val) l es →
    ∀ e ∈ es, ∃ k, Value.isInt k e.key = true ∧ e.hash = hashInt k
  | _, _, .nil, _, h => nomatch h
  | _, _, .cons (a := p) (b := d) h r, e, he => by
    rcases List.mem_cons.mp he with q | q
    · subst q
      exact ⟨p.1, by rw [isInt_key h.1]; simp, h.2.1⟩
    · exact paired_keys r e q
end
end Ws
end

section
set_option Elab.async false
set_option linter.all false
set_option maxRecDepth 100000
set_option autoImplicit false
/-! Operations on values: comparisons. -/
namespace Ws
open PySem PySem.Spec PyProof.Rows L2

def opK : COp → CmpOp
  | .eq => .Eq
  | .ne => .NotEq
  | .lt => .Lt
  | .le => .LtE
  | .gt => .Gt
  | .ge => .GtE
  | .is => .Is
  | .isNot => .IsNot
  | .mem => .In
  | .notMem => .NotIn

section
variable {K : PySem.W.Frag} {H : Hp} {M : Ms}
mutual
theorem Rep.dp : ∀ (n : Nat) (x : SV) (v : V), Rep K H M x v → x.fit n = true → Dp K H v x.pd
  | _, .non, _, r, _ => by cases r; unfold SV.pd; exact .non
  | _, .bl b, _, r, _ => by cases r; unfold SV.pd; exact .bl b
  | _, .int i, _, r, _ => by cases r; unfold SV.pd; exact .int i
  | _, .str x, _, r, _ => by cases r; unfold SV.pd; exact .str x
  | 0, .tup xs, _, _, h => by simp [SV.fit] at h
  | n + 1, .tup xs, _, r, h => by
    cases r with
    | tup t l =>
      unfold SV.pd
      exact .tup t.sq (RepL.dp n xs _ l (by simpa [SV.fit] using h))
  | 0, .lst xs, _, _, h => by simp [SV.fit] at h
  | n + 1, .lst xs, _, r, h => by
    cases r with
    | lst t l =>
      unfold SV.pd
      exact .lst t.sq (RepL.dp n xs _ l (by simpa [SV.fit] using h))
  | _, .dct _, _, _, h => by simp [SV.fit] at h
  | _, .ref _, _, _, h => by simp [SV.fit] at h
  | _, .kt _, _, _, h => by simp [SV.fit] at h
theorem RepL.dp : ∀ (n : Nat) (xs : List SV) (vs : List V), RepL K H M xs vs → (∀ x ∈ xs, x.fit n = true) → DpAll K H vs (SV.pdL xs)
  | _, [], _, r, _ => by cases r; unfold SV.pdL; exact .nil
  | n, x :: xs, _, r, h => by
    cases r with
    | cons a b =>
      unfold SV.pdL
      exact .cons (Rep.dp n x _ a (h x List.mem_cons_self)) (RepL.dp n xs _ b fun y hy => h y (List.mem_cons_of_mem _ hy))
end
mutual
theorem fit_lay : ∀ (n : Nat) (x : SV), x.fit n = true → x.pd.canLay0 = true ∧ x.pd.depth ≤ n
  | _, .non, _ => by simp [SV.pd, PyData.canLay0, PyData.depth]
  | _, .bl b, _ => by simp [SV.pd, PyData.canLay0, PyData.depth]
  | _, .int i, _ => by simp [SV.pd, PyData.canLay0, PyData.depth]
  | _, .str x, h => by simpa [SV.pd, PyData.canLay0, PyData.depth, SV.fit] using h
  | 0, .tup xs, h => by simp [SV.fit] at h
  | n + 1, .tup xs, h => by
    obtain ⟨a, b⟩ := fitL_lay n xs (by simpa [SV.fit] using h)
    unfold SV.pd PyData.canLay0 PyData.depth
    exact ⟨a, by omega⟩
  | 0, .lst xs, h => by simp [SV.fit] at h
  | n + 1, .lst xs, h => by
    obtain ⟨a, b⟩ := fitL_lay n xs (by simpa [SV.fit] using h)
    unfold SV.pd PyData.canLay0 PyData.depth
    exact ⟨a, by omega⟩
  | _, .dct _, h => by simp [SV.fit] at h
  | _, .ref _, h => by simp [SV.fit] at h
  | _, .kt _, h => by simp [SV.fit] at h
theorem fitL_lay : ∀ (n : Nat) (xs : List SV), (∀ x ∈ xs, x.fit n = true) → PyData.canLayAll0 (SV.pdL xs) = true ∧ PyData.depthAll (SV.pdL xs) ≤ n
  | _, [], _ => by simp [SV.pdL, PyData.canLayAll0, PyData.depthAll]
  | n, x :: xs, h => by
    obtain ⟨a, b⟩ := fit_lay n x (h x List.mem_cons_self)
    obtain ⟨c, d⟩ := fitL_lay n xs fun y hy => h y (List.mem_cons_of_mem _ hy)
    unfold SV.pdL PyData.canLayAll0 PyData.depthAll
    exact ⟨by rw [a, c]; rfl, by omega⟩
end
theorem fit_shaped {x : SV} (h : x.fit 30 = true) : SeqAt.shaped x.pd = true := by
  obtain ⟨a, b⟩ := fit_lay 30 x h
  unfold SeqAt.shaped
  rw [Bool.and_eq_true]
  exact ⟨a, decide_eq_true (by omega)⟩
theorem pdL_map : ∀ xs : List SV, SV.pdL xs = xs.map SV.pd
  | [] => rfl
  | x :: xs => by unfold SV.pdL; rw [pdL_map xs]; rfl
theorem any_pd {xs : List SV} {v : SV} : (SV.pdL xs).any (fun z => PyData.eqv z v.pd) = xs.any (fun x => veq x v) := by
  rw [pdL_map, List.any_map]
  rfl
theorem Rep.non_iff {x : SV} {v : V} (r : Rep K H M x v) : decide (v = .non) = decide (x = .non) := by
  cases r <;> simp
end

/-- a comparison's reading -/
def rC (K : PySem.W.Frag) (op : COp) : R2 := fun x y H Q => ∃ v w b h M, RH K H M h ∧ Rep K H M v x ∧ Rep K H M w y ∧ cmpop h op v w = some b ∧ Q (.bl b) H
section
variable {X : Cx}
def rInT (K : PySem.W.Frag) (no : Bool) : R2 := fun x y H Q => ∃ d ds, Dp K H x d ∧ Dp K H y (.tuple ds) ∧ SeqAt.shaped d = true ∧ SeqAt.shaped (.tuple ds) = true ∧ Q (.bl (xor no (ds.any fun z => PyData.eqv z d))) H
theorem op_inT (hu : X.A.units + 65 < cLine) : OpR X (compareOp .In) (rInT X.K false) := by
  rintro pins s σ H x y v u Q I rx ry ⟨d, ds, hd, he, sd, se, q⟩
  obtain ⟨as, r1⟩ := Dp.reads I d x v hd rx
  obtain ⟨bs, r2⟩ := Dp.reads I (.tuple ds) y u he ry
  refine SeqAt.in_tuple_reads r2 r1 (SeqAt.canLay_of_shaped se) (SeqAt.canLay_of_shaped sd) (room_in_shaped sd hu) ⟨.bl _, H, I, rfl, ?_⟩
  rw [Bool.false_xor] at q
  exact q
theorem op_notInT (hu : X.A.units + 65 < cLine) : OpR X (compareOp .NotIn) (rInT X.K true) := by
  rintro pins s σ H x y v u Q I rx ry ⟨d, ds, hd, he, sd, se, q⟩
  obtain ⟨as, r1⟩ := Dp.reads I d x v hd rx
  obtain ⟨bs, r2⟩ := Dp.reads I (.tuple ds) y u he ry
  refine SeqAt.notIn_tuple_reads r2 r1 (SeqAt.canLay_of_shaped se) (SeqAt.canLay_of_shaped sd) (room_in_shaped sd hu) ⟨.bl _, H, I, rfl, ?_⟩
  rw [Bool.true_xor] at q
  exact q

theorem op_cmp (hu : X.A.units + 65 < cLine) (op : COp) : OpR X (compareOp (opK op)) (rC X.K op) := by
  intro pins s σ H x y vv uu Q I rx ry h
  obtain ⟨v, w, b, h, M, rh, rv, rw', e, q⟩ := h
  have hu4 : X.A.units + 64 < cLine := by omega
  have data : ∀ (v w : SV), Rep X.K H M v x → Rep X.K H M w y → (v.fit 30 && w.fit 30) = true → Dp X.K H x v.pd ∧ Dp X.K H y w.pd ∧ SeqAt.shaped v.pd = true ∧ SeqAt.shaped w.pd = true := by
    intro v w rv rw' f
    rw [Bool.and_eq_true] at f
    exact ⟨rv.dp 30 _ _ f.1, rw'.dp 30 _ _ f.2, fit_shaped f.1, fit_shaped f.2⟩
  cases op with
  | lt =>
    cases v <;> first | (cases e; done) | skip
    cases w <;> first | (cases e; done) | skip
    cases rv; cases rw'; cases e
    exact op_lt pins s σ H _ _ vv uu Q I rx ry ⟨_, _, rfl, rfl, q⟩
  | le =>
    cases v <;> first | (cases e; done) | skip
    cases w <;> first | (cases e; done) | skip
    cases rv; cases rw'; cases e
    exact op_le pins s σ H _ _ vv uu Q I rx ry ⟨_, _, rfl, rfl, q⟩
  | gt =>
    cases v <;> first | (cases e; done) | skip
    cases w <;> first | (cases e; done) | skip
    cases rv; cases rw'; cases e
    exact op_gt pins s σ H _ _ vv uu Q I rx ry ⟨_, _, rfl, rfl, q⟩
  | ge =>
    cases v <;> first | (cases e; done) | skip
    cases w <;> first | (cases e; done) | skip
    cases rv; cases rw'; cases e
    exact op_ge pins s σ H _ _ vv uu Q I rx ry ⟨_, _, rfl, rfl, q⟩
  | is =>
    by_cases hw : w = .non
    · subst hw
      have e' : some (decide (v = .non)) = some b := by cases v <;> exact e
      cases e'
      cases rw'
      exact op_isN pins s σ H _ _ vv uu Q I rx ry ⟨rfl, by rw [rv.non_iff]; exact q⟩
    · cases w with
      | non => exact absurd rfl hw
      | bl c =>
        cases v <;> first | (cases e; done) | skip
        cases rv; cases rw'; cases e
        exact op_is_bl pins s σ H _ _ vv uu Q I rx ry ⟨_, _, rfl, rfl, q⟩
      | _ => cases v <;> cases e
  | isNot =>
    by_cases hw : w = .non
    · subst hw
      have e' : some (!decide (v = .non)) = some b := by cases v <;> exact e
      cases e'
      cases rw'
      exact op_notN pins s σ H _ _ vv uu Q I rx ry ⟨rfl, by rw [rv.non_iff]; exact q⟩
    · cases w with
      | non => exact absurd rfl hw
      | bl c =>
        cases v <;> first | (cases e; done) | skip
        cases rv; cases rw'; cases e
        exact op_notBl pins s σ H _ _ vv uu Q I rx ry ⟨_, _, rfl, rfl, q⟩
      | _ => cases v <;> cases e
  | eq =>
    by_cases hs : (∃ i j, v = .str i ∧ w = .str j)
    · obtain ⟨i, j, rfl, rfl⟩ := hs
      cases rv; cases rw'; cases e
      refine op_eq pins s σ H _ _ vv uu Q I rx ry ⟨rfl, ?_⟩
      have d : decide (V.str i = V.str j) = decide (i = j) := by rw [decide_eq_decide]; simp
      rw [d]
      exact q
    · have e' : (if (v.fit 30 && w.fit 30) = true then some (veq v w) else none) = some b := by
        cases v <;> cases w <;> first | exact e | exact absurd ⟨_, _, rfl, rfl⟩ hs
      obtain ⟨c, rfl⟩ := ifs e'
      obtain ⟨d1, d2, d3, d4⟩ := data v w rv rw' c
      exact op_eqD hu4 pins s σ H _ _ vv uu Q I rx ry ⟨_, _, d1, d2, d3, d4, q⟩
  | ne =>
    by_cases hs : (∃ i j, v = .str i ∧ w = .str j)
    · obtain ⟨i, j, rfl, rfl⟩ := hs
      cases rv; cases rw'; cases e
      refine op_ne pins s σ H _ _ vv uu Q I rx ry ⟨rfl, ?_⟩
      have d : decide (V.str i = V.str j) = decide (i = j) := by rw [decide_eq_decide]; simp
      rw [d]
      exact q
    · have e' : (if (v.fit 30 && w.fit 30) = true then some (!veq v w) else none) = some b := by
        cases v <;> cases w <;> first | exact e | exact absurd ⟨_, _, rfl, rfl⟩ hs
      obtain ⟨c, rfl⟩ := ifs e'
      obtain ⟨d1, d2, d3, d4⟩ := data v w rv rw' c
      exact op_neD hu4 pins s σ H _ _ vv uu Q I rx ry ⟨_, _, d1, d2, d3, d4, q⟩
  | mem =>
    cases w with
    | tup xs =>
      obtain ⟨c, rfl⟩ := ifs (show (if (v.fit 30 && (SV.tup xs).fit 30) = true then some (xs.any fun x => veq x v) else none) = some b by cases v <;> exact e)
      obtain ⟨d1, d2, d3, d4⟩ := data v (.tup xs) rv rw' c
      unfold SV.pd at d2 d4
      refine op_inT hu pins s σ H _ _ vv uu Q I rx ry ⟨_, _, d1, d2, d3, d4, ?_⟩
      rw [any_pd, Bool.false_xor]
      exact q
    | lst xs =>
      obtain ⟨c, rfl⟩ := ifs (show (if (v.fit 30 && (SV.lst xs).fit 30) = true then some (xs.any fun x => veq x v) else none) = some b by cases v <;> exact e)
      obtain ⟨d1, d2, d3, d4⟩ := data v (.lst xs) rv rw' c
      unfold SV.pd at d2 d4
      refine op_inD hu pins s σ H _ _ vv uu Q I rx ry ⟨_, _, d1, d2, d3, d4, ?_⟩
      rw [any_pd]
      exact q
    | ref n =>
      obtain ⟨a, rfl, hm⟩ := rw'.ref_inv
      obtain ⟨o, dg, _, hb⟩ := dkey rh hm rv (show hasKey h n v = some b by cases v <;> exact e)
      subst hb
      obtain rfl : uu = Value.ref a := ry
      exact d_in (by omega) I dg rx fun s3 I3 => ⟨.bl o.isSome, H, I3, rfl, q⟩
    | _ => cases v <;> cases e
  | notMem =>
    cases w with
    | tup xs =>
      obtain ⟨c, rfl⟩ := ifs (show (if (v.fit 30 && (SV.tup xs).fit 30) = true then some (!xs.any fun x => veq x v) else none) = some b by cases v <;> exact e)
      obtain ⟨d1, d2, d3, d4⟩ := data v (.tup xs) rv rw' c
      unfold SV.pd at d2 d4
      refine op_notInT hu pins s σ H _ _ vv uu Q I rx ry ⟨_, _, d1, d2, d3, d4, ?_⟩
      rw [any_pd, Bool.true_xor]
      exact q
    | lst xs =>
      obtain ⟨c, rfl⟩ := ifs (show (if (v.fit 30 && (SV.lst xs).fit 30) = true then some (!xs.any fun x => veq x v) else none) = some b by cases v <;> exact e)
      obtain ⟨d1, d2, d3, d4⟩ := data v (.lst xs) rv rw' c
      unfold SV.pd at d2 d4
      refine op_notInD hu pins s σ H _ _ vv uu Q I rx ry ⟨_, _, d1, d2, d3, d4, ?_⟩
      rw [any_pd]
      exact q
    | ref n =>
      obtain ⟨a, rfl, hm⟩ := rw'.ref_inv
      obtain ⟨c, e1, rfl⟩ := Option.map_eq_some_iff.mp (show (hasKey h n v).map (!·) = some b by cases v <;> exact e)
      obtain ⟨o, dg, _, hb⟩ := dkey rh hm rv e1
      subst hb
      obtain rfl : uu = Value.ref a := ry
      exact d_notIn (by omega) I dg rx fun s3 I3 => ⟨.bl (!o.isSome), H, I3, rfl, q⟩
    | _ => cases v <;> cases e
end
end Ws
end

section
set_option Elab.async false
set_option linter.all false
set_option maxRecDepth 100000
set_option autoImplicit false
/-! Operations on values: o[i], o[i:j], o[i] = v, the built-in functions. -/
namespace Ws
open PySem PySem.Spec PyProof.Rows L2
section
variable {X : Cx}

theorem ix_any (hu : X.A.units + 1 < cLine) : IxR X (rB X.K fun h v i => itemV v i h) := by
  rintro value slice pins s σ H x y vv uu Q I rx ry ⟨v, w, z, h, M, rh, rv, rw', e, g⟩ hs
  have dict : ∀ (kvs : List (SV × SV)) {n : Nat} (a : Addr), x = .ref a → M.c[n]? = some a → ((h[n]? = some (.dct kvs) ∧ w.flat = true) ∨ (h[n]? = some (.dtt kvs) ∧ w.flatT = true) ∨ (h[n]? = some (.ddf kvs) ∧ w.flatT = true)) → find kvs w = some z →
      wpAny (model X.prog X.w) X.A (subscriptTail value slice vv uu) (EP X pins σ Q) X.xe s := by
    intro kvs n a hx hm hn e
    subst hx
    obtain ⟨o, dg, _, q⟩ := rh.dget hm rw' hn
    rcases q with ⟨q1, _⟩ | ⟨z2, x2, q1, rfl, r⟩
    · rw [q1] at e; cases e
    · rw [q1] at e
      cases e
      obtain rfl : vv = Value.ref a := rx
      exact tail_any (dict_typeIs I dg) PySem.F.slot_dict_getitem.lookup (d_getItem hu I dg ry fun w' s3 I3 r3 => ⟨x2, H, I3, r3, g.at rh r⟩) hs
  cases v with
  | tup xs =>
    obtain ⟨a, vs, rfl, t, l⟩ := rv.tup_inv
    cases w <;> simp only [itemV, reduceCtorEq] at e
    cases rw'
    obtain ⟨p, e1, r⟩ := l.at_ e
    exact ix_tup value slice pins s σ H _ _ vv uu Q I rx ry ⟨a, vs, _, p, rfl, rfl, t.sq, e1, g.at rh r⟩ hs
  | lst xs =>
    obtain ⟨a, vs, rfl, t, l⟩ := rv.lst_inv
    cases w <;> simp only [itemV, reduceCtorEq] at e
    cases rw'
    obtain ⟨p, e1, r⟩ := l.at_ e
    exact ix_list value slice pins s σ H _ _ vv uu Q I rx ry ⟨a, vs, _, p, rfl, rfl, t.sq, e1, g.at rh r⟩ hs
  | ref n =>
    obtain ⟨a, rfl, hm⟩ := rv.ref_inv
    simp only [itemV] at e
    split at e
    · rename_i xs hn
      obtain ⟨vs, hH, l⟩ := rh.lst hm hn
      cases w <;> simp only [reduceCtorEq] at e
      cases rw'
      obtain ⟨p, e1, r⟩ := l.at_ e
      exact ix_list value slice pins s σ H _ _ vv uu Q I rx ry ⟨a, vs, _, p, rfl, rfl, .inl (.inl hH), e1, g.at rh r⟩ hs
    · rename_i kvs hn
      split at e
      · rename_i hf
        exact dict kvs a rfl hm (.inl ⟨hn, hf⟩) e
      · cases e
    · rename_i kvs hn
      split at e
      · rename_i hf
        exact dict kvs a rfl hm (.inr (.inl ⟨hn, hf⟩)) e
      · cases e
    · rename_i kvs hn
      split at e
      · rename_i hf
        exact dict kvs a rfl hm (.inr (.inr ⟨hn, hf⟩)) e
      · cases e
    · cases e
  | dct kvs =>
    cases w <;> simp only [itemV, reduceCtorEq] at e
    rename_i k
    cases rw'
    cases rv with
    | dW kd hl l =>
      obtain ⟨i, e1, e2, e3⟩ := find_zip e
      obtain ⟨es, n, hK, pk⟩ := kd
      obtain ⟨p, e4, r⟩ := l.get e2
      obtain ⟨u, e5, ru⟩ := paired_find pk e1 e4 e3
      rename_i a ks xs vs
      obtain rfl : vv = Value.ref a := rx
      obtain ⟨t, rfl⟩ := ry
      have hm : s.heap.MapOf (intKind X.prog X.w) a (fun k => findBy Value.isInt es k) :=
        ⟨_, es, n, I.kIn _ _ hK, ⟨rfl, rfl, rfl⟩, rfl, fun e he => paired_keys pk e (Array.mem_toList_iff.mpr he), fun _ => rfl⟩
      have hf : findBy Value.isInt es k = some u := by
        obtain ⟨es⟩ := es
        unfold findBy
        rw [List.find?_toArray]
        exact e5
      exact tail_any hm.typeIs PySem.F.slot_dict_getitem.lookup (wpAny_getItem_of (show (intKind X.prog X.w).is k (.int k t) = true from by show (k == k) = true; simp) hm hf ⟨p, H, I.tok _, ru, g.at rh r⟩) hs
  | _ => cases w <;> simp only [itemV, reduceCtorEq] at e

theorem cutL_rep {H : Hp} {M : Ms} {xs : List SV} {vs : List V} (l : RepL X.K H M xs vs) (lo hi : Option Int) : RepL X.K H M (cutL xs lo hi) (cutV vs lo hi) := by
  unfold cutL cutV
  rw [l.length]
  exact (l.drop _).take _
/-- a slice's reading -/
def rSl (K : PySem.W.Frag) : V → Option Int → Option Int → Hp → VK → Prop := fun x lo hi H Q => ∃ v z h M, RH K H M h ∧ Rep K H M v x ∧ sliceV v lo hi h = some z ∧ Give K z h H M Q
theorem sl_any : SlR X (rSl X.K) := by
  rintro pins s σ H x vv vl vu lo hi sl Q I rx hs pl pu ⟨v, z, h, M, rh, rv, e, g⟩
  cases v with
  | tup xs =>
    obtain ⟨a, vs, rfl, t, l⟩ := rv.tup_inv
    simp only [sliceV] at e
    obtain ⟨c, rfl⟩ := ifs e
    refine sl_tup pins s σ H _ vv vl vu lo hi sl Q I rx hs pl pu ⟨a, vs, rfl, t.sq, ?_, fun p hp => g.tup rh (cutL_rep l lo hi) p hp⟩
    rw [← l.length]
    rintro ⟨c1, c2⟩
    unfold partB at c
    rw [decide_eq_true c1, decide_eq_true c2] at c
    cases c
  | lst xs =>
    obtain ⟨a, vs, rfl, t, l⟩ := rv.lst_inv
    simp only [sliceV] at e
    cases e
    exact sl_list pins s σ H _ vv vl vu lo hi sl Q I rx hs pl pu ⟨a, vs, rfl, t.sq, fun p hp => g.lst rh (cutL_rep l lo hi) p hp⟩
  | ref n =>
    obtain ⟨a, rfl, hm⟩ := rv.ref_inv
    simp only [sliceV] at e
    split at e
    · rename_i xs hn
      obtain ⟨vs, hH, l⟩ := rh.lst hm hn
      cases e
      exact sl_list pins s σ H _ vv vl vu lo hi sl Q I rx hs pl pu ⟨a, vs, rfl, .inl (.inl hH), fun p hp => g.lst rh (cutL_rep l lo hi) p hp⟩
    · cases e
  | _ => simp only [sliceV, reduceCtorEq] at e

/-- a store into a cell -/
def rSet (K : PySem.W.Frag) : TSet := fun o i v H Q => ∃ so si sv h h2 M, RH K H M h ∧ Rep K H M so o ∧ Rep K H M si i ∧ Rep K H M sv v ∧ setIxH so si sv h = some h2 ∧
  ∀ H' M', Evo H M H' M' → RH K H' M' h2 → Q H'
theorem set_any (hu : X.A.units + 1 < cLine) : PSet X (rSet X.K) := by
  rintro pins s σ H o i v ov iv u Q I ro ri rv ⟨so, si, sv, h, h2, M, rh, r1, r2, r3, e, g⟩
  cases so with
  | ref n =>
    obtain ⟨a, rfl, hm⟩ := r1.ref_inv
    have ha : a ∈ M.c := List.mem_of_getElem? hm
    simp only [setIxH] at e
    split at e
    · rename_i xs hn
      obtain ⟨vs, hH, l⟩ := rh.lst hm hn
      cases si <;> simp only [reduceCtorEq] at e
      rename_i k
      cases r2
      split at e
      · rename_i j hj
        cases e
        rw [l.length] at hj
        exact set_list pins s σ H _ _ v ov iv u Q I ro ri rv ⟨a, vs, k, j, rfl, rfl, hH, hj, g _ M (Evo.write rh ha (.lst hH)) (RH.write rh hm (.lst hH) (.lst (l.set r3 j)))⟩
      · cases e
    · rename_i kvs hn
      obtain ⟨ps, hH, l⟩ := rh.dct hm hn
      obtain ⟨c, rfl⟩ := ifs e
      rw [Bool.and_eq_true] at c
      obtain ⟨q, hk⟩ := keyOf_flat c.1
      obtain rfl := keyOf_kV hk r2
      have hl : ps.length < sizeLine := by
        rw [← l.length, sizeLine_eq]
        exact of_decide_eq_true c.2
      obtain rfl : ov = Value.ref a := ro
      exact d_setItem hu I (DPut.k hH hl) ri rv fun s4 I4 => ⟨_, I4, g _ M (Evo.write rh ha (.dK hH)) (RH.write rh hm (.dK hH) (.dK (l.put hk r3)))⟩
    · rename_i kvs hn
      obtain ⟨c, rfl⟩ := ifs e
      rw [Bool.and_eq_true] at c
      obtain ⟨o, u, e1, hH, e3⟩ := rh.cell hm
      rw [hn] at e1
      cases e1
      cases e3 with
      | dT l =>
        obtain ⟨ks, q, b, rfl, hk, rfl, hb⟩ := key_at c.1 r2
        have hl := l.length
        have hz := of_decide_eq_true c.2
        obtain rfl : ov = Value.ref a := ro
        exact d_setItem hu I (DPut.t hH hb (by rw [sizeLine_eq, ← hl]; exact hz)) ri rv fun s4 I4 => ⟨_, I4, g _ M (Evo.write rh ha (.dT hH)) (RH.write rh hm (.dT hH) (.dT (l.put hk r3)))⟩
    · cases e
  | _ => simp only [setIxH, reduceCtorEq] at e

/-! ### l.append(x), l.extend(x) -/
end
end Ws
end

section
set_option Elab.async false
set_option linter.all false
set_option maxRecDepth 100000
set_option maxHeartbeats 4000000
set_option autoImplicit false
/-! sorted of lists of tuples of ints, of any lengths -/
namespace Ws
open PySem PySem.Spec PyProof.Rows L2
/-- before, as tuples of ints are compared -/
def ltL : List Int → List Int → Bool
  | _, [] => false
  | [], _ :: _ => true
  | a :: x, b :: y => if a = b then ltL x y else decide (a < b)
theorem ltL_le : ∀ x y : List Int, leL x y = !ltL y x
  | [], [] => rfl
  | [], _ :: _ => rfl
  | _ :: _, [] => rfl
  | a :: x, b :: y => by
    simp only [leL, ltL]
    by_cases h : a = b
    · rw [if_pos h, if_pos h.symm, ltL_le x y]
    · rw [if_neg h, if_neg (fun z => h z.symm)]
      rw [← decide_not, decide_eq_decide]
      omega
theorem leL_total : ∀ x y : List Int, leL x y = true ∨ leL y x = true
  | [], _ => .inl (by cases ‹List Int› <;> rfl)
  | _ :: _, [] => .inr rfl
  | a :: x, b :: y => by
    simp only [leL]
    by_cases h : a = b
    · rw [if_pos h, if_pos h.symm]
      exact leL_total x y
    · rw [if_neg h, if_neg (fun z => h z.symm), decide_eq_true_eq, decide_eq_true_eq]
      omega
theorem leL_trans : ∀ x y z : List Int, leL x y = true → leL y z = true → leL x z = true
  | [], _, z, _, _ => by cases z <;> rfl
  | _ :: _, [], _, h, _ => by cases h
  | _ :: _, _ :: _, [], _, h => by cases h
  | a :: x, b :: y, c :: z, h1, h2 => by
    simp only [leL] at h1 h2 ⊢
    by_cases e1 : a = b
    · rw [if_pos e1] at h1
      subst e1
      by_cases e2 : a = c
      · rw [if_pos e2] at h2 ⊢
        exact leL_trans x y z h1 h2
      · rw [if_neg e2] at h2 ⊢
        exact h2
    · rw [if_neg e1, decide_eq_true_eq] at h1
      by_cases e2 : b = c
      · subst e2
        rw [if_neg e1]
        exact decide_eq_true h1
      · rw [if_neg e2, decide_eq_true_eq] at h2
        rw [if_neg (by omega)]
        exact decide_eq_true (by omega)
theorem leL_anti : ∀ x y : List Int, leL x y = true → leL y x = true → x = y
  | [], [], _, _ => rfl
  | [], _ :: _, _, h => by cases h
  | _ :: _, [], h, _ => by cases h
  | a :: x, b :: y, h1, h2 => by
    simp only [leL] at h1 h2
    by_cases e : a = b
    · rw [if_pos e] at h1
      rw [if_pos e.symm] at h2
      rw [e, leL_anti x y h1 h2]
    · rw [if_neg e, decide_eq_true_eq] at h1
      rw [if_neg (fun z => e z.symm), decide_eq_true_eq] at h2
      omega
theorem swo_L {α : Type} (k : α → List Int) : SrtO.Swo fun x y => ltL (k x) (k y) := by
  have e : ∀ x y : List Int, ltL x y = !leL y x := fun x y => by rw [ltL_le, Bool.not_not]
  refine ⟨fun x y h => ?_, fun x y z h1 h2 => ?_⟩
  · simp only [e, Bool.not_eq_true', Bool.not_eq_false'] at h ⊢
    rcases leL_total (k x) (k y) with q | q
    · exact q
    · rw [h] at q; cases q
  · simp only [e, Bool.not_eq_false'] at h1 h2 ⊢
    exact leL_trans _ _ _ h1 h2
/-- a tuple of ints, not empty -/
def IsTI (h : Heap) (v : Value) (ns : List Int) : Prop := ∃ a o its n, v = .ref a ∧ h.get? a = some o ∧ o.cls = .type "tuple" ∧ o.data = .seq its n ∧ IntsAre its.toList ns ∧ ns ≠ []
theorem IsTI.keeps {h h' : Heap} {v : Value} {ns : List Int} (p : IsTI h v ns) (k : ∀ b o, h.get? b = some o → o.cls = .type "tuple" → h'.get? b = some o) : IsTI h' v ns := by
  obtain ⟨a, o, its, n, e, ho, hc, r⟩ := p
  exact ⟨a, o, its, n, e, k a o ho hc, hc, r⟩
section
variable {prog : Program} {w : World} {A : Around} {s : Shared}
theorem ints_len : ∀ {xs : List Value} {ns : List Int}, IntsAre xs ns → xs.length = ns.length
  | _, _, .nil => rfl
  | _, _, .cons _ _ r => congrArg Nat.succ (ints_len r)
theorem lex_go {Q : Bool → Shared → Prop} : ∀ {xs ys : List Value} {ns ms : List Int} (i : Nat), IntsAre xs ns → IntsAre ys ms → Q (ltL ns ms) s → PySem.W.KatLex prog w A true (decide (xs.length < ys.length)) Q (xs.zip ys) i s
  | _, _, _, _, i, .nil, .nil, q => PySem.W.kat_nil q
  | _, _, _, _, i, .nil, .cons m t r, q => by
    refine PySem.W.kat_nil ?_
    rw [decide_eq_true (by simp)]
    exact q
  | _, _, _, _, i, .cons n t r, .nil, q => by
    refine PySem.W.kat_nil ?_
    rw [decide_eq_false (by simp)]
    exact q
  | _, _, _, _, i, .cons (vs := xs) (ns := ns) n t r, .cons (vs := ys) (ns := ms) m u r2, q => by
    have ed : decide ((Value.int n t :: xs).length < (Value.int m u :: ys).length) = decide (xs.length < ys.length) := by
      rw [decide_eq_decide]
      simp
    rw [ed]
    refine PySem.W.kat_cons (SeqAt.EqAt.int_int n t m u prog w _ _ ?_)
    refine PySem.W.kat_go (fun e => ?_) (fun e => ?_)
    · have ex : n = m := by simpa using e
      have q2 : Q (ltL ns ms) s := by
        have z : ltL (n :: ns) (m :: ms) = ltL ns ms := by simp only [ltL]; rw [if_pos ex]
        rw [← z]
        exact q
      exact PySem.W.kat_yes (lex_go (i + 1) r r2 q2)
    · have ex : ¬ n = m := by simpa using e
      have q2 : Q (decide (n < m)) s := by
        have z : ltL (n :: ns) (m :: ms) = decide (n < m) := by simp only [ltL]; rw [if_neg ex]
        rw [← z]
        exact q
      exact PySem.W.kat_no (TS.oneLt_ints _ q2)
theorem ti_cmp {vs : List Value} {k : Value → List Int} (hp : ∀ v ∈ vs, IsTI s.heap v (k v)) : SrtO.Cmp prog w A s (tuples' true) (fun p => p.1 ∈ vs) (SrtO.lt2 fun v u => ltL (k v) (k u)) := by
  intro p q hm hm'
  have h1 := hp _ hm
  have h2 := hp _ hm'
  show wpAny (model prog w) A (keyLt' (tuples' true) p.1 q.1) (fun r s' => s' = s ∧ r = ltL (k p.1) (k q.1)) (fun _ _ => False) s
  generalize k p.1 = x at h1 ⊢
  generalize k q.1 = y at h2 ⊢
  obtain ⟨a, o, its, n, e, ho, hc, hd, hi, _⟩ := h1
  obtain ⟨a', o', its', n', e', ho', hc', hd', hi', _⟩ := h2
  rw [e, e']
  refine PySem.W.kat_lt ho hd ho' hd' ?_
  have ed : decide (its.size < its'.size) = decide (its.toList.length < its'.toList.length) := by rw [Array.length_toList, Array.length_toList]
  rw [ed]
  exact lex_go 0 hi hi' ⟨rfl, rfl⟩
theorem ti_firsts {h : Heap} {k : Value → List Int} : ∀ vs : List Value, (∀ v ∈ vs, IsTI h v (k v)) → ∃ fs : List Value, PySem.W.KatTups h vs fs ∧ fs.length = vs.length ∧ ∀ f ∈ fs, ∃ x t, f = Value.int x t
  | [], _ => ⟨[], trivial, rfl, fun _ h => nomatch h⟩
  | v :: vs, h => by
    obtain ⟨fs, g1, g2, g3⟩ := ti_firsts vs fun u hu => h u (List.mem_cons_of_mem _ hu)
    obtain ⟨a, o, its, n, rfl, ho, hc, hd, hi, hne⟩ := h v List.mem_cons_self
    generalize k (.ref a) = ns at hi hne
    obtain ⟨its⟩ := its
    have hi' : IntsAre its ns := hi
    cases hi' with
    | nil => exact absurd rfl hne
    | cons m t r =>
      refine ⟨.int m t :: fs, PySem.W.KatTups.cons ho hc hd (by simp) g1, congrArg Nat.succ g2, fun f hf => ?_⟩
      rcases List.mem_cons.mp hf with rfl | hf
      · exact ⟨m, t, rfl⟩
      · exact g3 f hf
theorem ti_sortable {a : Addr} {vs : List Value} {k : Value → List Int} (h0 : 0 < vs.length) (hp : ∀ v ∈ vs, IsTI s.heap v (k v)) (ha : ∀ o, s.heap.get? a = some o → o.cls ≠ .type "tuple") : SrtO.SortableO prog w A s a vs fun v u => ltL (k v) (k u) := by
  intro h' keep
  have hp' : ∀ v ∈ vs, IsTI h' v (k v) := fun v hm => (hp v hm).keeps fun b o e c => keep b o (fun z => by subst z; exact ha o e c) e
  obtain ⟨fs, h1, h2, h3⟩ := ti_firsts vs hp'
  refine ⟨tuples' true, fun Q E hq => ?_, ti_cmp hp'⟩
  refine PySem.W.kat_kind (T := .type "int") h1 (by omega) (fun f hm => ?_) (by rfl) ?_
  · obtain ⟨x, t, rfl⟩ := h3 f hm
    exact PySem.W.Looks.now
  · have e : (Value.type "int" != Value.type "tuple") = true := by first | decide +kernel | rfl | decide
    rw [e]
    exact hq
theorem sorted_ti {E : Value → Shared → Prop} {l : Addr} {vs : List Value} {k : Value → List Int} {Q : Value → Shared → Prop} (hl : s.heap.IsList l vs.toArray) (hz : vs.length ≤ sizeLine) (hp : ∀ v ∈ vs, IsTI s.heap v (k v))
    (h : ∀ (h' : Heap) (d : Addr) (out : List Value), SrtO.Srtd (fun v u => ltL (k v) (k u)) out → SrtO.Stb (fun v u => ltL (k v) (k u)) out vs → (∀ b o, s.heap.get? b = some o → h'.get? b = some o) → s.heap.objs.size ≤ d → (∃ n, h'.get? d = some (seqObj "list" out.toArray n)) → Q (.ref d) { s with heap := h' }) :
    wpAny (model prog w) A (call (.builtin "sorted") [.ref l]) Q E s := by
  refine SrtO.sorted_ord (swo_L k) hl hz (fun h2 h₁ a ha kk => ?_) fun out hs hb => ?_
  · refine ti_sortable (s := { s with heap := h₁ }) (by omega) (fun v hm => (hp v hm).keeps fun b o e _ => (kk b o e).2) fun o e => ?_
    have e' : some o = some (seqObj "list" vs.toArray 0) := e.symm.trans ha
    cases e'
    intro c
    exact absurd (Value.type.inj c) (by decide)
  · exact h _ _ out hs hb (fun b o e => sortedAll_old e) (Nat.le_succ _) (sortedAll_at s.heap vs out.toArray)
end
/-- sorted(xs), xs tuples of ints, none of them empty: k tells which -/
def rSortedT (K : PySem.W.Frag) : List V → Hp → VK → Prop := fun vs H Q => ∃ (a : Addr) (xs : List V) (k : V → List Int), vs = [V.ref a] ∧ SqL K H a xs ∧ (∀ x ∈ xs, k x ≠ [] ∧ ∃ t, x = V.ref t ∧ H t = some (.tup ((k x).map V.int))) ∧
  ∀ ys p, ys.Perm xs → ys.Pairwise (fun x y => leL (k x) (k y) = true) → H p = none → Q (.ref p) (upd H p (.lst ys))
theorem ints_of_vals : ∀ {ns : List Int} {us : List Value}, Vals (ns.map V.int) us → IntsAre us ns
  | [], _, .nil => .nil
  | n :: ns, _, .cons r rs => by
    obtain ⟨t, rfl⟩ := r
    exact .cons n t (ints_of_vals rs)
theorem cr_sortedT {X : Cx} : CallR X (.builtin "sorted") (rSortedT X.K) := by
  intro pins s σ H vs us Q I r h
  obtain ⟨a, xs, k, rfl, hs, hx, q⟩ := h
  obtain ⟨its, rv, hl, hz⟩ := I.list hs
  rw [Vals.ref1 r]
  obtain ⟨e1, e2⟩ := refs_back rv fun x m => by
    obtain ⟨_, t, e, _⟩ := hx x m
    exact ⟨t, e⟩
  refine sorted_ti (k := fun u => k (backV u)) hl.isList (by rw [← rv.length]; exact hz) (fun v hv => ?_) fun h' d out h1 h2 kp hd hn => ?_
  · obtain ⟨t, rfl⟩ := e2 v hv
    have hm : V.ref t ∈ xs := by rw [e1]; exact List.mem_map.mpr ⟨_, hv, rfl⟩
    obtain ⟨hne, t', e, ht⟩ := hx _ hm
    cases e
    obtain ⟨_, its2, r2, o, ho, hc, n, hd⟩ := I.hok _ _ ht
    exact ⟨t, o, its2.toArray, n, rfl, ho, hc, hd, ints_of_vals (ns := k (backV (.ref t))) (by simpa [backV] using r2), hne⟩
  · have h3 : ∀ u ∈ out, ∃ a, u = Value.ref a := fun u hu => e2 u (h2.perm.mem_iff.mp hu)
    obtain ⟨n, hn⟩ := hn
    have hp : (out.map backV).Perm xs := by
      rw [e1]
      exact h2.perm.map backV
    have hw : (out.map backV).Pairwise (fun x y => leL (k x) (k y) = true) := by
      refine List.pairwise_map.mpr (List.Pairwise.imp (fun {u v} h => ?_) h1)
      rw [ltL_le]
      have h' : ltL (k (backV v)) (k (backV u)) = false := h
      rw [h']
      rfl
    refine ⟨.ref d, upd H d (.lst (out.map backV)), I.laid (t' := s.toks) kp hd ⟨?_, out, n, vals_back h3, hn⟩, rfl, q _ d hp hw (I.hok.fresh hd)⟩
    rw [hp.length_eq]
    exact hz
/-- two sorted lists of the same are one -/
theorem perm_uniq {α : Type} {le : α → α → Prop} (anti : ∀ x y, le x y → le y x → x = y) : ∀ {l m : List α}, l.Perm m → l.Pairwise le → m.Pairwise le → l = m
  | [], m, h, _, _ => (List.Perm.eq_nil h.symm).symm
  | x :: l, [], h, _, _ => absurd h.length_eq (by simp)
  | x :: l, y :: m, h, hl, hm => by
    have e : x = y := by
      rcases List.mem_cons.mp (h.mem_iff.mp (List.mem_cons_self (a := x) (l := l))) with q | hx
      · exact q
      · rcases List.mem_cons.mp (h.mem_iff.mpr (List.mem_cons_self (a := y) (l := m))) with q | hy
        · exact q.symm
        · exact anti x y ((List.pairwise_cons.mp hl).1 y hy) ((List.pairwise_cons.mp hm).1 x hx)
    subst e
    rw [perm_uniq anti h.cons_inv (List.pairwise_cons.mp hl).2 (List.pairwise_cons.mp hm).2]
end Ws
end

section
set_option Elab.async false
set_option linter.all false
set_option maxRecDepth 100000
set_option autoImplicit false
/-! Operations on values: the built-in functions. -/
namespace Ws
open PySem PySem.Spec PyProof.Rows L2

mutual
theorem fit_nodict : ∀ (n : Nat) (x : SV), x.fit n = true → x.pd.hasDict = false
  | _, .non, _ => by simp [SV.pd, PyData.hasDict]
  | _, .bl b, _ => by simp [SV.pd, PyData.hasDict]
  | _, .int i, _ => by simp [SV.pd, PyData.hasDict]
  | _, .str x, h => by simp [SV.pd, PyData.hasDict]
  | 0, .tup xs, h => by simp [SV.fit] at h
  | n + 1, .tup xs, h => by
    unfold SV.pd PyData.hasDict
    exact fitL_nodict n xs (by simpa [SV.fit] using h)
  | 0, .lst xs, h => by simp [SV.fit] at h
  | n + 1, .lst xs, h => by
    unfold SV.pd PyData.hasDict
    exact fitL_nodict n xs (by simpa [SV.fit] using h)
  | _, .dct _, h => by simp [SV.fit] at h
  | _, .ref _, h => by simp [SV.fit] at h
  | _, .kt _, h => by simp [SV.fit] at h
theorem fitL_nodict : ∀ (n : Nat) (xs : List SV), (∀ x ∈ xs, x.fit n = true) → PyData.hasDictAll (SV.pdL xs) = false
  | _, [], _ => by simp [SV.pdL, PyData.hasDictAll]
  | n, x :: xs, h => by
    have a := fit_nodict n x (h x List.mem_cons_self)
    have c := fitL_nodict n xs fun y hy => h y (List.mem_cons_of_mem _ hy)
    unfold SV.pdL PyData.hasDictAll
    rw [a, c]
    rfl
end

/-- a built-in's value -/
def biVal : BI → Value
  | .len => .builtin "len"
  | .sum => .builtin "sum"
  | .all => .builtin "all"
  | .any => .builtin "any"
  | .tuple => .type "tuple"
  | .list => .type "list"
  | .int => .type "int"
  | .abs => .builtin "abs"
  | .max1 => .builtin "max"
  | .max2 => .builtin "max"
  | .min2 => .builtin "min"
  | .repr => .builtin "repr"
  | .sorted => .builtin "sorted"
  | .isInt => .builtin "isinstance"
  | .isBool => .builtin "isinstance"
  | .isTuple => .builtin "isinstance"
  | .isStr => .builtin "isinstance"
def biTy : BI → Option String
  | .isInt => some "int"
  | .isBool => some "bool"
  | .isTuple => some "tuple"
  | .isStr => some "str"
  | _ => none
/-- its reading; of isinstance: a class stands behind -/
def rBi (K : PySem.W.Frag) (b : BI) : List V → Hp → VK → Prop := fun xs H Q => ∃ vs z h M, RH K H M h ∧ RepL K H M vs xs ∧ builtin h b vs = some z ∧ Give K z h H M Q
section
variable {K : PySem.W.Frag} {H : Hp} {M : Ms} {h : SH}
theorem RepL.one {v : SV} {xs : List V} (r : RepL K H M [v] xs) : ∃ x, xs = [x] ∧ Rep K H M v x := by
  cases r with
  | cons a b =>
    cases b
    exact ⟨_, rfl, a⟩
theorem RepL.two {v w : SV} {xs : List V} (r : RepL K H M [v, w] xs) : ∃ x y, xs = [x, y] ∧ Rep K H M v x ∧ Rep K H M w y := by
  cases r with
  | cons a b =>
    cases b with
    | cons c d =>
      cases d
      exact ⟨_, _, rfl, a, c⟩
theorem list_rep {v : SV} {x : V} {xs : List SV} (r : RH K H M h) (rv : Rep K H M v x) (e : listOf h v = some xs) : ∃ a vs, x = .ref a ∧ SqL K H a vs ∧ RepL K H M xs vs := by
  cases v with
  | tup ys => cases e
  | kt ys => cases e
  | _ => exact items_list r rv e (fun _ z => nomatch z) (fun _ z => nomatch z)
theorem asInt_rep {v : SV} {x : V} {i : Int} (rv : Rep K H M v x) (e : asInt v = some i) : x = .int i := by
  cases v with
  | int j => cases e; cases rv; rfl
  | _ => cases e
theorem asInt_eq {v : SV} {i : Int} (e : asInt v = some i) : v = .int i := by
  cases v with
  | int j => cases e; rfl
  | _ => cases e
theorem ty_rep {v : SV} {x : V} {n : String} (r : RH K H M h) (rv : Rep K H M v x) (e : tyName h v = some n) : TyX K H x (.type n) := by
  cases v with
  | non => cases e; cases rv; exact .base .non
  | bl b => cases e; cases rv; exact .base (.bl b)
  | int i => cases e; cases rv; exact .base (.int i)
  | str y => cases e; cases rv; exact .base (.str y)
  | tup xs =>
    cases e
    obtain ⟨a, vs, rfl, t, l⟩ := rv.tup_inv
    exact .base (.tup t)
  | kt xs =>
    cases e
    obtain ⟨a, vs, rfl, t, l⟩ := rv.kt_inv
    obtain ⟨o, its, k, z, c, _⟩ := t
    exact .kTuple z c
  | lst xs =>
    cases e
    obtain ⟨a, vs, rfl, t, l⟩ := rv.lst_inv
    rcases t with ⟨_, z | ⟨o, z⟩⟩ | ⟨its, k, z, c, _⟩
    · exact .base (.lst z)
    · exact .base (.frz z)
    · exact .kList z rfl
  | dct kvs =>
    cases e
    cases rv with
    | dW kd _ _ =>
      obtain ⟨es, n, z, _⟩ := kd
      exact .kDict z rfl
  | ref n =>
    obtain ⟨a, rfl, hm⟩ := rv.ref_inv
    obtain ⟨o, u, e1, e2, e3⟩ := r.cell hm
    simp only [tyName, e1] at e
    cases e3 with
    | lst _ => cases e; exact .base (.lst e2)
    | dK _ => cases e; exact .base (.dK e2)
    | dT _ => cases e; exact .base (.dT e2)
    | dF _ => cases e
end
theorem one_ok (K : PySem.W.Frag) {n : String} {h : SH} {v : SV} (e : tyName h v = some n) : ∀ T ∈ ["int", "bool", "tuple", "str"], PySem.W.kitOne K (.type n) (.type T) = some (isOne T n) := by
  have hn : n ∈ ["NoneType", "bool", "int", "str", "tuple", "list", "dict"] := by
    cases v with
    | ref k =>
      simp only [tyName] at e
      split at e <;> first | (cases e; simp; done) | cases e
    | _ => cases e; simp
  intro T hT
  simp only [List.mem_cons, List.not_mem_nil, or_false] at hT hn
  rcases hT with rfl | rfl | rfl | rfl <;> rcases hn with rfl | rfl | rfl | rfl | rfl | rfl | rfl <;> first | rfl | (unfold PySem.W.kitOne; rw [if_neg (by decide)]; rfl)
section
variable {X : Cx}
/-- max of a tuple of ints -/
theorem call_maxT (hc : X.calm = true) (hu : X.A.units + 1 < cLine) : CallR X (.builtin "max") (fun xs H Q => ∃ (a : Addr) (n : Int) (ns : List Int), xs = [.ref a] ∧ SqT X.K H a ((n :: ns).map V.int) ∧ Q (.int (maxF n ns)) H) := by
  rintro pins s σ H xs us Q I r ⟨a, n, ns, rfl, hT, q⟩
  obtain ⟨u, rfl, ru⟩ := vals1 r
  obtain rfl : u = Value.ref a := ru
  obtain ⟨its, rv, ht, _⟩ := I.tuple hT
  have hd : DpAll X.K H ((n :: ns).map V.int) ((n :: ns).map PySem.W.Datum.toD) := by
    have all : ∀ ms : List Int, DpAll X.K H (ms.map V.int) (ms.map PySem.W.Datum.toD) := by
      intro ms
      induction ms with
      | nil => exact .nil
      | cons m ms ih => exact .cons (.int m) ih
    exact all (n :: ns)
  obtain ⟨as, hr⟩ := Dp.readsAll I _ _ its hd rv
  refine PySem.W.max_tuple_datum (α := Int) (x := n) (xs := ns) (I.ok.hd hc) (show s.heap.IsTuple a its.toArray from ht) ⟨as, hr⟩ (by show X.A.units + 1 + 0 < cLine; omega) ?_
  rintro i v h' tk hi ⟨bs, hb⟩ hk
  have e : PySem.W.maxOf n ns = maxF n ns := rfl
  rw [e] at hb
  cases hb with
  | int _ t => exact ⟨.int (maxF n ns), H, I.kept (t' := tk) hk, ⟨t, rfl⟩, q⟩

theorem call_reprS (hg : X.A.guards = some []) (hu : X.A.units + 64 < cLine) : CallR X (.builtin "repr") (fun xs H Q => ∃ (v : SV) (a : Addr) (M : Ms), xs = [.ref a] ∧ Rep X.K H M v (.ref a) ∧ reprFits v = true ∧ Q (.str v.pd.shown) H) := by
  rintro pins s σ H xs us Q I r ⟨v, a, M, rfl, rv, hf, q⟩
  obtain ⟨u, rfl, ru⟩ := vals1 r
  obtain rfl : u = Value.ref a := ru
  unfold reprFits at hf
  rw [Bool.and_eq_true, Bool.and_eq_true] at hf
  obtain ⟨⟨f1, f2⟩, f3⟩ := hf
  obtain ⟨as, hr⟩ := Dp.reads I v.pd (.ref a) (.ref a) (rv.dp 30 _ _ f1) rfl
  have hd := (fit_lay 30 v f1).2
  refine repr_of_reads' hr f2 (fun z => ?_) hg (by omega) (fun _ _ e => e) (fun h' t tk hk => ⟨.str v.pd.shown, H, I.kept (t' := tk) hk, ⟨t, rfl⟩, q⟩) ?_
  · rw [fit_nodict 30 v f1] at z
    cases z
  · rw [sizeLine_eq]
    exact of_decide_eq_true f3

/-- the ints of a tuple at v -/
def intsV : List V → List Int
  | [] => []
  | .int i :: r => i :: intsV r
  | _ :: r => intsV r
def tupAt (H : Hp) : V → List Int
  | .ref a => match H a with
    | some (.tup vs) => intsV vs
    | _ => []
  | _ => []
theorem intsV_map : ∀ ns : List Int, intsV (ns.map V.int) = ns
  | [] => rfl
  | n :: ns => congrArg (n :: ·) (intsV_map ns)
theorem RepL.of_ints {K : PySem.W.Frag} {H : Hp} {M : Ms} : ∀ ns : List Int, RepL K H M (ns.map SV.int) (ns.map V.int)
  | [] => .nil
  | n :: ns => .cons (.int n) (RepL.of_ints ns)
theorem intsOf_eq : ∀ {xs : List SV} {ns : List Int}, intsOf xs = some ns → xs = ns.map SV.int
  | [], _, e => by cases e; rfl
  | .int i :: xs, ns, e => by
    obtain ⟨ms, e1, rfl⟩ := Option.map_eq_some_iff.mp (show (intsOf xs).map (i :: ·) = some ns from e)
    rw [intsOf_eq e1]
    rfl
  | .non :: _, _, e => by cases e
  | .bl _ :: _, _, e => by cases e
  | .str _ :: _, _, e => by cases e
  | .tup _ :: _, _, e => by cases e
  | .lst _ :: _, _, e => by cases e
  | .dct _ :: _, _, e => by cases e
  | .ref _ :: _, _, e => by cases e
  | .kt _ :: _, _, e => by cases e
theorem tups_rep {K : PySem.W.Frag} {H : Hp} {M : Ms} : ∀ {xs : List SV} {ws : List V} {ts : List (List Int)}, RepL K H M xs ws → tupsOf xs = some ts →
    (∀ w ∈ ws, (tupAt H w ≠ [] ∧ ∃ t, w = .ref t ∧ H t = some (.tup ((tupAt H w).map V.int))) ∧ Rep K H M (.tup ((tupAt H w).map SV.int)) w) ∧ ws.map (tupAt H) = ts
  | _, _, _, .nil, e => by
    cases e
    exact ⟨fun w hw => absurd hw List.not_mem_nil, rfl⟩
  | _, _, ts, .cons (x := x) (v := v) (xs := xs) (vs := vs) r rs, e => by
    cases x with
    | tup ys =>
      simp only [tupsOf] at e
      split at e
      · rename_i n ns e1
        obtain ⟨ms, e2, rfl⟩ := Option.map_eq_some_iff.mp e
        obtain ⟨h1, h2⟩ := tups_rep rs e2
        obtain ⟨a, us, rfl, t, l⟩ := r.tup_inv
        obtain rfl := l.ints e1
        have q : tupAt H (.ref a) = n :: ns := by
          have t' : H a = some (.tup ((n :: ns).map V.int)) := t
          show (match H a with
            | some (.tup vs) => intsV vs
            | _ => []) = _
          rw [t']
          exact intsV_map _
        have ey := intsOf_eq e1
        subst ey
        refine ⟨fun w hw => ?_, by rw [List.map_cons, q, h2]⟩
        rcases List.mem_cons.mp hw with rfl | hw
        · rw [q]
          exact ⟨⟨by simp, a, rfl, t⟩, .tup t l⟩
        · exact h1 w hw
      · cases e
    | _ => cases e
theorem RepL.of_all {K : PySem.W.Frag} {H : Hp} {M : Ms} (f : V → SV) : ∀ ys : List V, (∀ y ∈ ys, Rep K H M (f y) y) → RepL K H M (ys.map f) ys
  | [], _ => .nil
  | y :: ys, h => .cons (h y List.mem_cons_self) (RepL.of_all f ys fun z hz => h z (List.mem_cons_of_mem _ hz))
theorem call_bi (hc : X.calm = true) (hg : X.A.guards = some []) (hu : X.A.units + 65 < cLine) (b : BI) (hb : biTy b = none) : CallR X (biVal b) (rBi X.K b) := by
  rintro pins s σ H xs us Q I r ⟨vs, z, h, M, rh, rv, e, g⟩
  cases vs with
  | nil => cases b <;> cases e
  | cons v vs =>
    cases vs with
    | nil =>
      obtain ⟨x, rfl, rx⟩ := rv.one
      cases b with
      | len =>
        obtain ⟨ys, e1, rfl⟩ := Option.map_eq_some_iff.mp e
        obtain ⟨a, ws, rfl, hs, l⟩ := items_rep rh rx e1
        refine call_len pins s σ H _ us Q I r ⟨_, ys.length, rfl, ?_, g.at rh (.int _)⟩
        rcases hs with hs | hs
        · exact .inl ⟨ws, hs, l.length⟩
        · exact .inr ⟨ws, hs, l.length⟩
      | sum =>
        obtain ⟨ns, e1, rfl⟩ := Option.map_eq_some_iff.mp e
        obtain ⟨ys, e2, e3⟩ := Option.bind_eq_some_iff.mp e1
        obtain ⟨a, ws, rfl, hs, l⟩ := list_rep rh rx e2
        obtain rfl := l.ints e3
        exact cr_sum hc pins s σ H _ us Q I r ⟨a, ns, rfl, hs, g.at rh (.int _)⟩
      | all =>
        obtain ⟨ns, e1, rfl⟩ := Option.map_eq_some_iff.mp e
        obtain ⟨ys, e2, e3⟩ := Option.bind_eq_some_iff.mp e1
        obtain ⟨a, ws, rfl, hs, l⟩ := list_rep rh rx e2
        obtain rfl := l.bls e3
        exact cr_all hc pins s σ H _ us Q I r ⟨a, ns, rfl, hs, g.at rh (.bl _)⟩
      | any =>
        obtain ⟨ns, e1, rfl⟩ := Option.map_eq_some_iff.mp e
        obtain ⟨ys, e2, e3⟩ := Option.bind_eq_some_iff.mp e1
        obtain ⟨a, ws, rfl, hs, l⟩ := list_rep rh rx e2
        obtain rfl := l.bls e3
        exact cr_any hc pins s σ H _ us Q I r ⟨a, ns, rfl, hs, g.at rh (.bl _)⟩
      | tuple =>
        have nk : ∀ zs, v ≠ .kt zs := fun zs q => by subst q; cases e
        have e : (itemsOf h v).map SV.tup = some z := by
          cases v with
          | kt zs => exact absurd rfl (nk zs)
          | _ => exact e
        obtain ⟨ys, e1, rfl⟩ := Option.map_eq_some_iff.mp e
        by_cases ht : ∃ zs, v = .tup zs
        · obtain ⟨zs, rfl⟩ := ht
          cases e1
          obtain ⟨a, ws, rfl, t, l⟩ := rx.tup_inv
          exact call_tuple_of pins s σ H _ us Q I r ⟨a, ws, rfl, .inr ⟨t.sq, g.at rh rx⟩⟩
        · obtain ⟨a, ws, rfl, hs, l⟩ := items_list rh rx e1 (fun zs q => ht ⟨zs, q⟩) nk
          exact call_tuple_of pins s σ H _ us Q I r ⟨a, ws, rfl, .inl ⟨hs, fun p hp => g.tup rh l p hp⟩⟩
      | list =>
        obtain ⟨ys, e1, rfl⟩ := Option.map_eq_some_iff.mp e
        obtain ⟨a, ws, rfl, hs, l⟩ := items_rep rh rx e1
        exact call_list_of pins s σ H _ us Q I r ⟨a, ws, rfl, hs, fun p hp => g.lst rh l p hp⟩
      | int =>
        cases v with
        | int i =>
          cases e
          cases rx
          exact call_int1 pins s σ H _ us Q I r (.inl ⟨_, rfl, g.at rh (.int _)⟩)
        | bl i =>
          cases e
          cases rx
          exact call_int1 pins s σ H _ us Q I r (.inr ⟨_, rfl, g.at rh (.int _)⟩)
        | _ => cases e
      | abs =>
        obtain ⟨i, e1, rfl⟩ := Option.map_eq_some_iff.mp e
        obtain rfl := asInt_rep rx e1
        exact call_abs pins s σ H _ us Q I r ⟨i, rfl, g.at rh (.int _)⟩
      | max1 =>
        cases v with
        | tup ys =>
          obtain ⟨a, ws, rfl, t, l⟩ := rx.tup_inv
          simp only [builtin] at e
          split at e
          · rename_i n ns e1
            cases e
            obtain rfl := l.ints e1
            exact call_maxT hc (by omega) pins s σ H _ us Q I r ⟨a, n, ns, rfl, t.sq, g.at rh (.int _)⟩
          · cases e
        | _ => cases e
      | repr =>
        cases v with
        | tup ys =>
          obtain ⟨c, rfl⟩ := ifs e
          obtain ⟨a, ws, rfl, _, _⟩ := rx.tup_inv
          exact call_reprS hg (by omega) pins s σ H _ us Q I r ⟨_, a, M, rfl, rx, c, g.at rh (.str _)⟩
        | lst ys =>
          obtain ⟨c, rfl⟩ := ifs e
          obtain ⟨a, ws, rfl, _, _⟩ := rx.lst_inv
          exact call_reprS hg (by omega) pins s σ H _ us Q I r ⟨_, a, M, rfl, rx, c, g.at rh (.str _)⟩
        | _ => cases e
      | sorted =>
        simp only [builtin] at e
        split at e
        · rename_i ys e2
          obtain ⟨a, ws, rfl, hs, l⟩ := list_rep rh rx e2
          split at e
          · rename_i ns e3
            cases e
            obtain rfl := l.ints e3
            refine cr_sortedI pins s σ H _ us Q I r ⟨a, ns, rfl, hs, fun ns' p hp hw hn => ?_⟩
            have eq : ns' = ns.mergeSort fun a b => decide (a ≤ b) := by
              refine perm_uniq (le := fun a b : Int => a ≤ b) (fun x y h1 h2 => by omega) (hp.trans (List.mergeSort_perm ns _).symm) hw ?_
              refine List.Pairwise.imp (fun {a b} h => of_decide_eq_true h) (List.pairwise_mergeSort (fun a b c h1 h2 => ?_) (fun a b => ?_) ns)
              · have h1' := of_decide_eq_true h1
                have h2' := of_decide_eq_true h2
                exact decide_eq_true (by omega)
              · rw [Bool.or_eq_true]
                rcases Int.le_total a b with h | h
                · exact .inl (decide_eq_true h)
                · exact .inr (decide_eq_true h)
            rw [← eq] at g
            exact g.lst rh (RepL.of_ints ns') p hn
          · obtain ⟨ts, e3, rfl⟩ := Option.map_eq_some_iff.mp e
            obtain ⟨t1, t2⟩ := tups_rep l e3
            refine cr_sortedT pins s σ H _ us Q I r ⟨a, ws, tupAt H, rfl, hs, fun x hx => (t1 x hx).1, fun zs p hp hw hn => ?_⟩
            have eq : zs.map (tupAt H) = ts.mergeSort leL := by
              refine perm_uniq (le := fun a b => leL a b = true) (leL_anti) ((t2 ▸ hp.map (tupAt H)).trans (List.mergeSort_perm ts _).symm) (List.pairwise_map.mpr hw) ?_
              refine List.pairwise_mergeSort (fun a b c h1 h2 => leL_trans a b c h1 h2) (fun a b => ?_) ts
              rw [Bool.or_eq_true]
              exact leL_total a b
            rw [← eq, List.map_map] at g
            exact g.lst rh (RepL.of_all _ zs fun y hy => (t1 y (hp.mem_iff.mp hy)).2) p hn
        · cases e
      | max2 => cases e
      | min2 => cases e
      | isInt => cases hb
      | isBool => cases hb
      | isTuple => cases hb
      | isStr => cases hb
    | cons w vs =>
      cases vs with
      | nil =>
        obtain ⟨x, y, rfl, rx, ry⟩ := rv.two
        cases b with
        | max2 =>
          obtain ⟨i, e1, e2⟩ := Option.bind_eq_some_iff.mp e
          obtain ⟨j, e3, rfl⟩ := Option.map_eq_some_iff.mp e2
          obtain rfl := asInt_rep rx e1
          obtain rfl := asInt_rep ry e3
          exact call_max2 hc pins s σ H _ us Q I r ⟨i, j, rfl, g.at rh (.int _)⟩
        | min2 =>
          obtain ⟨i, e1, e2⟩ := Option.bind_eq_some_iff.mp e
          obtain ⟨j, e3, rfl⟩ := Option.map_eq_some_iff.mp e2
          obtain rfl := asInt_rep rx e1
          obtain rfl := asInt_rep ry e3
          exact call_min2 hc pins s σ H _ us Q I r ⟨i, j, rfl, g.at rh (.int _)⟩
        | _ => cases e
      | cons w2 vs => cases b <;> cases e
/-- isinstance(x, T) -/
theorem call_is (b : BI) (T : String) (hb : biTy b = some T) : CallR X (.builtin "isinstance") (fun xs H Q => ∃ x, xs = [x, .ty T] ∧ rBi X.K b [x] H Q) := by
  rintro pins s σ H xs us Q I r ⟨x, rfl, vs, z, h, M, rh, rv, e, g⟩
  have one : ∃ v, vs = [v] := by
    cases rv with
    | cons a c =>
      cases c
      exact ⟨_, rfl⟩
  obtain ⟨v, rfl⟩ := one
  obtain ⟨x', ex, rx⟩ := rv.one
  cases ex
  have e' : (tyName h v).map (fun n => SV.bl (isOne T n)) = some z := by
    cases b <;> cases hb <;> exact e
  obtain ⟨n, e1, rfl⟩ := Option.map_eq_some_iff.mp e'
  have hT : T ∈ ["int", "bool", "tuple", "str"] := by cases b <;> cases hb <;> simp
  exact call_isi pins s σ H _ us Q I r ⟨x, .ty T, _, _, _, rfl, .ty T, ty_rep rh rx e1, one_ok X.K e1 T hT, g.at rh (.bl _)⟩
end
end Ws
end

section
set_option Elab.async false
set_option linter.all false
set_option maxRecDepth 100000
set_option autoImplicit false
/-! Does a core text stand for a piece of the program's text? -/
namespace Ws
open PySem PySem.Spec PyProof.Rows L2

/-- what is told of the program: its defs, the module's constants, the built-in names that it leaves as they are -/
structure Sh where
  f : Nat
  n : Nat
  ks : List Str
  perm : List Nat
  deriving DecidableEq
structure Pt where
  funs : List FT
  globs : List Str
  free : List Str
  shapes : List Sh

def visB (sc : Scope) (x : Str) : Bool := match sc.names.lookup x with
  | some .local => true
  | some .cell => true
  | some .free => true
  | _ => false
def locB (sc : Scope) (x : Str) : Bool := match sc.names.lookup x with
  | some .local => true
  | some .cell => true
  | _ => false
def gloB (sc : Scope) (x : Str) : Bool := match sc.names.lookup x with
  | some .globalImplicit => true
  | _ => false
/-- no name of the compiler's own -/
def nameB (x : Str) : Bool := !(x == ("__debug__" : Str)) && !(x == ("__classdict__" : Str)) && !(x == ("__name__" : Str))
/-- an expression that stands for a value wherever it stands -/
def plainE : Expr → Bool
  | .Starred .. => false
  | .Slice .. => false
  | .Set .. => false
  | .NamedExpr .. => false
  | _ => true
def compE : Expr → Bool
  | .ListComp .. => true
  | .SetComp .. => true
  | .DictComp .. => true
  | _ => false
def opB : BOp → Operator → Bool
  | .add, .Add => true
  | .sub, .Sub => true
  | .mul, .Mult => true
  | .fdiv, .FloorDiv => true
  | .mod, .Mod => true
  | .pow, .Pow => true
  | _, _ => false
def opC : COp → CmpOp → Bool
  | .eq, .Eq => true
  | .ne, .NotEq => true
  | .lt, .Lt => true
  | .le, .LtE => true
  | .gt, .Gt => true
  | .ge, .GtE => true
  | .is, .Is => true
  | .isNot, .IsNot => true
  | .mem, .In => true
  | .notMem, .NotIn => true
  | _, _ => false
/-- a built-in function called by its name with these many arguments -/
def biName : BI → Str
  | .len => "len"
  | .sum => "sum"
  | .all => "all"
  | .any => "any"
  | .tuple => "tuple"
  | .list => "list"
  | .int => "int"
  | .abs => "abs"
  | .max1 => "max"
  | .max2 => "max"
  | .min2 => "min"
  | .repr => "repr"
  | .sorted => "sorted"
  | .isInt => "isinstance"
  | .isBool => "isinstance"
  | .isTuple => "isinstance"
  | .isStr => "isinstance"
def biCls : BI → Option Str
  | .isInt => some "int"
  | .isBool => some "bool"
  | .isTuple => some "tuple"
  | .isStr => some "str"
  | _ => none
def ownOf (N : List Str) (own : List Nat) : List (Str × Nat) := own.map fun i => (N.getD i "", i)

/-- a built-in's name as it stands -/
def bltB (S : Pt) (sc : Scope) (x : Str) : Bool := gloB sc x && (S.free.contains x && nameB x)
def funB (S : Pt) (sc : Scope) (f : Nat) (x : Str) : Bool := match S.funs[f]? with
  | some F => decide (F.name = x) && (gloB sc x && nameB x)
  | none => false

def locW (sc : Scope) (wr : Option Scope) (x : Str) : Bool := match wr with
  | none => locB sc x
  | some w => locB w x
/-- targets: wr is the written scope of a comprehension's block, none in a def's body -/
def mT (N : List Str) (sc : Scope) (wr : Option Scope) : CT → Expr → Bool
  | .name i, .Name x _ => decide (N[i]? = some x) && locW sc wr x
  | .pair a b, .Tuple [x, y] _ _ => mT N sc wr a x && mT N sc wr b y
  | .three a b c, .Tuple [x, y, z] _ _ => mT N sc wr a x && (mT N sc wr b y && mT N sc wr c z)
  | _, _ => false

def kwNames : List Keyword → List Str
  | [] => []
  | ⟨some x, _, _⟩ :: r => x :: kwNames r
  | ⟨none, _, _⟩ :: r => "" :: kwNames r
def kwAll : List Keyword → Bool
  | [] => true
  | ⟨some _, _, _⟩ :: r => kwAll r
  | ⟨none, _, _⟩ :: _ => false

/-- what a method is called of -/
def attrB : Expr → Bool
  | .Name .. => true
  | .Subscript .. => true
  | _ => false
mutual
def mE (S : Pt) (N : List Str) (sc : Scope) : CE → Expr → Bool
  | .var i, .Name x _ => decide (N[i]? = some x) && (visB sc x && nameB x)
  | .non, .Constant .none _ _ => true
  | .bl b, .Constant (.bool c) _ _ => b == c
  | .int i, .Constant (.int j) _ _ => decide (i = j)
  | .str x, .Constant (.str y) _ _ => decide (x = y)
  | .glob x, .Name y _ => decide (x = y) && (gloB sc y && (S.globs.contains y && nameB y))
  | .bin op a b, .BinOp l o r _ => opB op o && (mE S N sc a l && mE S N sc b r)
  | .neg a, .UnaryOp .USub e _ => mE S N sc a e
  | .cmp op a b, .Compare l [o] [r] _ => (opC op o && !behindInMarks o r) && (mE S N sc a l && mE S N sc b r)
  | .chain o1 o2 a b c, .Compare l [p, q] [m, r] _ => (opC o1 p && (opC o2 q && !lastMarks [p, q] [m, r])) && (mE S N sc a l && (mE S N sc b m && mE S N sc c r))
  | .and a b, .BoolOp .And (x :: y :: r) pos => mE S N sc a x && (match r with
    | [] => mE S N sc b y
    | _ :: _ => mE S N sc b (.BoolOp .And (y :: r) pos))
  | .or a b, .BoolOp .Or (x :: y :: r) pos => mE S N sc a x && (match r with
    | [] => mE S N sc b y
    | _ :: _ => mE S N sc b (.BoolOp .Or (y :: r) pos))
  | .not a, .UnaryOp .Not e _ => mE S N sc a e
  | .ite t a b, .IfExp c x y _ => mE S N sc t c && (mE S N sc a x && mE S N sc b y)
  | .tup es, .Tuple xs _ _ => mEs S N sc es xs
  | .lst _ es, .List xs _ => mEs S N sc es xs
  | .repL _ a b, .BinOp l .Mult r _ => mE S N sc a l && mE S N sc b r
  | .ix a i, .Subscript x y _ => plainE y && (mE S N sc a x && mE S N sc i y)
  | .sl a lo hi, .Subscript x (.Slice l u none _) _ => mE S N sc a x && (mO S N sc lo l && mO S N sc hi u)
  | .call f perm es ks, .Call (.Name x _) xs kws _ => (funB S sc f x && (S.shapes.contains ⟨f, xs.length, kwNames kws, perm⟩ && kwAll kws)) && (mEs S N sc es xs && mKs S N sc ks kws)
  | .dict es, .Dict (k :: ks) vs _ => (decide ((k :: ks).length = vs.length) && decide ((k :: ks).length ≤ 15)) && mPs S N sc es (k :: ks) vs
  | .bi b es, .Call (.Name x _) xs [] _ => (decide (biName b = x) && bltB S sc x) && (match biCls b, xs with
    | none, [] => false
    | none, _ => mEs S N sc es xs
    | some T, [y, .Name z _] => (decide (T = z) && bltB S sc z) && mEs S N sc es [y]
    | some _, _ => false)
  | .comp _ elt t it own, .ListComp el [⟨tg, iter, [], k⟩] scope _ => decide (k = 0) && (((slots t).all fun i => own.contains i) &&
    ((blkC N sc scope (ownOf N own) && (mT N (relS scope sc) (some scope) t tg && plainE iter)) && (mI S N sc it tg iter && mE S N (relS scope sc) elt el)))
  | .compIf _ elt t it c own, .ListComp el [⟨tg, iter, [cd], k⟩] scope _ => decide (k = 0) && (((slots t).all fun i => own.contains i) &&
    ((blkC N sc scope (ownOf N own) && (mT N (relS scope sc) (some scope) t tg && plainE iter)) && (mI S N sc it tg iter && (mE S N (relS scope sc) elt el && mE S N (relS scope sc) c cd))))
  | .get o k d, .Call (.Attribute x m apos) [y, z] [] cpos => (decide (m = ("get" : Str)) && ((apos.endLine == cpos.line) && ((plainE y && plainE z) && attrB x))) && (mE S N sc o x && (mE S N sc k y && mE S N sc d z))
  | .rev e, .Subscript x (.Slice none none (some (.UnaryOp .USub (.Constant (.int i) _ _) _)) _) _ => decide (i = 1) && mE S N sc e x
  | .dictT es, .Dict keys vs _ => match keys, vs with
    | [], [] => mPs S N sc es [] []
    | [some k], [v] => mPs S N sc es [some k] [v]
    | _, _ => false
  | .compD k v t it c own, .DictComp kx vx [⟨tg, iter, [cd], q⟩] scope _ => decide (q = 0) && (((slots t).all fun i => own.contains i) &&
    ((blkC N sc scope (ownOf N own) && (mT N (relS scope sc) (some scope) t tg && plainE iter)) && (mI S N sc it tg iter && (mE S N (relS scope sc) k kx && (mE S N (relS scope sc) v vx && mE S N (relS scope sc) c cd)))))
  | _, _ => false
def mPs (S : Pt) (N : List Str) (sc : Scope) : CEs → List (Option Expr) → List Expr → Bool
  | .nil, [], [] => true
  | .cons e (.cons g r), some k :: ks, v :: vs => mE S N sc e k && (mE S N sc g v && mPs S N sc r ks vs)
  | _, _, _ => false
def mEs (S : Pt) (N : List Str) (sc : Scope) : CEs → List Expr → Bool
  | .nil, [] => true
  | .cons e r, x :: xs => plainE x && (mE S N sc e x && mEs S N sc r xs)
  | _, _ => false
def mKs (S : Pt) (N : List Str) (sc : Scope) : CEs → List Keyword → Bool
  | .nil, [] => true
  | .cons e r, ⟨some _, x, _⟩ :: xs => plainE x && (mE S N sc e x && mKs S N sc r xs)
  | _, _ => false
def mO (S : Pt) (N : List Str) (sc : Scope) : CO → Option Expr → Bool
  | .none, none => true
  | .some e, some x => mE S N sc e x
  | _, _ => false
/-- an iterable: the target too (enumerate and zip want a tuple of names) -/
def mI (S : Pt) (N : List Str) (sc : Scope) : CI → Expr → Expr → Bool
  | .it e, _, x => mE S N sc e x
  | .range1 e, _, .Call (.Name n _) [x] [] _ => (decide (n = ("range" : Str)) && bltB S sc n) && (plainE x && mE S N sc e x)
  | .range2 a b, _, .Call (.Name n _) [x, y] [] _ => (decide (n = ("range" : Str)) && bltB S sc n) && ((plainE x && mE S N sc a x) && (plainE y && mE S N sc b y))
  | .enum e, .Tuple _ _ _, .Call (.Name n _) [x] [] _ => (decide (n = ("enumerate" : Str)) && bltB S sc n) && (plainE x && mE S N sc e x)
  | .zip2 a b, .Tuple _ _ _, .Call (.Name n _) [x, y] [] _ => (decide (n = ("zip" : Str)) && bltB S sc n) && ((plainE x && mE S N sc a x) && (plainE y && mE S N sc b y))
  | .items e, .Tuple _ _ _, .Call (.Attribute x m apos) [] [] cpos => (decide (m = ("items" : Str)) && ((apos.endLine == cpos.line) && attrB x)) && mE S N sc e x
  | .keys e, _, x => mE S N sc e x
  | _, _, _ => false
/-- a list that is made new here -/
def newB : Expr → Bool
  | .List .. => true
  | .ListComp .. => true
  | .BinOp (.List ..) .Mult _ _ => true
  | _ => false
end

/-- does the one-line store go before the block's end? (PySem's swapsWith, for a comprehension) -/
def swB (sc : Scope) (value : Expr) (t : Str) (pos : Pos) : Bool := match value with
  | .ListComp _ _ s _ => (decide (sc.names.lookup t = some .local) && (pos.line == value.pos.line)) && !(s.names.any fun (n, k) => n == t && (k == .local || k == .cell))
  | .DictComp _ _ _ s _ => (decide (sc.names.lookup t = some .local) && (pos.line == value.pos.line)) && !(s.names.any fun (n, k) => n == t && (k == .local || k == .cell))
  | _ => false
/-- a tuple of constants is stored from the left -/
def noSwap : Expr → Bool
  | .Tuple vs _ _ => vs.all (foldedForSure 8)
  | _ => true
/-- two plain names stored from the right -/
def parB (sc : Scope) (x y : Str) (px py : Pos) (a b : Expr) : Bool :=
  ((decide (sc.names.lookup x = some .local) && decide (sc.names.lookup y = some .local)) && ((py.line == px.line) && !(x == y))) && (!([a, b].all (foldedForSure 8)) && !([a, b].all (constantsAlone 8)))
def par3B (sc : Scope) (x y z : Str) (px py pz : Pos) (a b c : Expr) : Bool :=
  ((decide (sc.names.lookup x = some .local) && (decide (sc.names.lookup y = some .local) && decide (sc.names.lookup z = some .local))) && (((py.line == px.line) && (pz.line == px.line)) && (!(x == y) && (!(x == z) && !(y == z))))) &&
    (!([a, b, c].all (foldedForSure 8)) && !([a, b, c].all (constantsAlone 8)))

mutual
def mS (S : Pt) (N : List Str) (sc : Scope) : CS → Stmt → Bool
  | .set (.name i) e, .Assign [.Name x px] v pos => mT N sc none (.name i) (.Name x px) && mE S N sc e v
  | .set t e, .Assign [.Tuple ts k pt] v pos => (!compE v && noSwap v) && (mT N sc none t (.Tuple ts k pt) && mE S N sc e v)
  | .par i j a b, .Assign [.Tuple [.Name x px, .Name y py] _ _] (.Tuple [u, v] _ _) _ =>
    ((decide (N[i]? = some x) && decide (N[j]? = some y)) && (!(i == j) && parB sc x y px py u v)) && ((plainE u && mE S N sc a u) && (plainE v && mE S N sc b v))
  | .par3 i j l a b c, .Assign [.Tuple [.Name x px, .Name y py, .Name z pz] _ _] (.Tuple [u, v, w] _ _) _ =>
    ((decide (N[i]? = some x) && (decide (N[j]? = some y) && decide (N[l]? = some z))) && ((!(i == j) && (!(i == l) && !(j == l))) && par3B sc x y z px py pz u v w)) &&
      ((plainE u && mE S N sc a u) && ((plainE v && mE S N sc b v) && (plainE w && mE S N sc c w)))
  | .nev, _ => true
  | .setIx o i e, .Assign [.Subscript x y _] v _ => (!compE v && (plainE y && plainE v)) && (mE S N sc o x && (mE S N sc i y && mE S N sc e v))
  | .expr e, .Expr v _ => !compE v && mE S N sc e v
  | .append o e, .Expr (.Call (.Attribute x m apos) [y] [] cpos) _ => (decide (m = ("append" : Str)) && ((apos.endLine == cpos.line) && (plainE y && attrB x))) && (mE S N sc o x && mE S N sc e y)
  | .extend o e, .Expr (.Call (.Attribute x m apos) [y] [] cpos) _ => (decide (m = ("extend" : Str)) && ((apos.endLine == cpos.line) && (plainE y && attrB x))) && (mE S N sc o x && mE S N sc e y)
  | .ret e, .Return (some v) _ => mE S N sc e v
  | .retN, .Return none _ => true
  | .cond t a b, .If c x y _ => mE S N sc t c && (mSs S N sc a x && mSs S N sc b y)
  | .loop t it body kill, .For tg iter b [] _ => (mT N sc none t tg && plainE iter) && (mI S N sc it tg iter && mSs S N sc body b)
  | .brk, .Break _ => true
  | .cnt, .Continue _ => true
  | .pass, .Pass _ => true
  | .throw c e, .Raise (some (.Call (.Name x _) [y] [] _)) none _ => decide (c = x) && false
  | _, _ => false
def mSs (S : Pt) (N : List Str) (sc : Scope) : CSs → List Stmt → Bool
  | .nil, [] => true
  | .cons s r, x :: xs => mS S N sc s x && mSs S N sc r xs
  | .kill _ r, xs => mSs S N sc r xs
  | _, _ => false
end
end Ws
end

section
set_option Elab.async false
set_option linter.all false
set_option maxRecDepth 100000
set_option autoImplicit false
/-! What a walk shows of the items of a list; the turns of a comprehension. -/
namespace Ws
open PySem PySem.Spec PyProof.Rows L2

/-- whatever stands still goes on to do so -/
structure Ext (H : Hp) (M : Ms) (H' : Hp) (M' : Ms) : Prop where
  fz : ∀ a u, Fz H M a u → Fz H' M' a u
  tup : ∀ a vs, H a = some (.tup vs) → H' a = some (.tup vs)
  frz : ∀ a o u, H a = some (.frz o u) → H' a = some (.frz o u)
  get : ∀ (n : Nat) (a : Addr), M.c[n]? = some a → M'.c[n]? = some a
section
variable {K : PySem.W.Frag} {H H1 H' : Hp} {M M1 M' : Ms}
theorem Evo.ext (e : Evo H M H' M') : Ext H M H' M' := ⟨fun _ _ => e.fz, e.tup, e.frz, fun _ _ => e.get⟩
theorem Ext.refl : Ext H M H M := ⟨fun _ _ h => h, fun _ _ h => h, fun _ _ _ h => h, fun _ _ h => h⟩
theorem Ext.trans (a : Ext H M H1 M1) (b : Ext H1 M1 H' M') : Ext H M H' M' := ⟨fun x u h => b.fz x u (a.fz x u h), fun x vs h => b.tup x vs (a.tup x vs h), fun x o u h => b.frz x o u (a.frz x o u h), fun n x h => b.get n x (a.get n x h)⟩
theorem Rep.ext (e : Ext H M H' M') {x : SV} {v : V} (r : Rep K H M x v) : Rep K H' M' x v := r.map e.fz e.tup e.get
theorem RepL.ext (e : Ext H M H' M') {x : List SV} {v : List V} (r : RepL K H M x v) : RepL K H' M' x v := r.map e.fz e.tup e.get
theorem RS.ext (e : Ext H M H' M') {env : SE} {σ : L2.St} (r : RS K H M env σ) : RS K H' M' env σ :=
  ⟨r.len, fun i v h => let ⟨x, h1, h2⟩ := r.at_ i v h; ⟨x, h1, h2.ext e⟩⟩
theorem Tp.ext {a : Addr} {vs : List V} (e : Ext H M H' M') (h : Tp K H M a vs) : Tp K H' M' a vs := e.tup _ _ h
/-- a tuple that is read, of either part -/
def Tq (K : PySem.W.Frag) (H : Hp) (M : Ms) (a : Addr) (vs : List V) : Prop := Tp K H M a vs ∨ KTup K a vs
theorem Tq.sq {a : Addr} {vs : List V} (h : Tq K H M a vs) : SqT K H a vs := h.elim Tp.sq KTup.sq
theorem Tq.ext {a : Addr} {vs : List V} (e : Ext H M H' M') (h : Tq K H M a vs) : Tq K H' M' a vs := h.elim (fun z => .inl (Tp.ext e z)) .inr
theorem Lp.ext {a : Addr} {vs : List V} (e : Ext H M H' M') (h : Lp K H M a vs) : Lp K H' M' a vs := h.elim (fun z => .inl (e.fz _ _ z)) .inr
end

/-- the walk J shows xs, from (H, M) on -/
structure Seen (K : PySem.W.Frag) (J : It) (xs : List SV) (H : Hp) (M : Ms) : Prop where
  go : ∀ (i : Nat) (H' : Hp) (M' : Ms), Ext H M H' M' → i < xs.length → J.go i H'
  stop : ∀ (H' : Hp) (M' : Ms), Ext H M H' M' → J.stop xs.length H'
  yld : ∀ (i : Nat) (H' : Hp) (M' : Ms) (h : SH) (x : V) (H'' : Hp) (v : SV), Ext H M H' M' → RH K H' M' h → xs[i]? = some v → J.yld i H' x H'' → Evo H' M' H'' M' ∧ RH K H'' M' h ∧ Rep K H'' M' v x
section
variable {K : PySem.W.Frag} {H H1 H' : Hp} {M M1 M' : Ms}
theorem RepL.lt {xs : List SV} {vs : List V} (l : RepL K H M xs vs) {i : Nat} {v : SV} {x : V} (h1 : xs[i]? = some v) (h2 : vs[i]? = some x) : Rep K H M v x := by
  obtain ⟨y, e, r⟩ := l.get h1
  rw [h2] at e
  cases e
  exact r
theorem seen_tup {a : Addr} {xs : List SV} {vs : List V} (t : Tq K H M a vs) (l : RepL K H M xs vs) : Seen K (Itt K a) xs H M := by
  refine ⟨fun i H' M' e hi => ?_, fun H' M' e => ⟨vs, (t.ext e).sq, by rw [l.length]; exact Nat.le_refl _⟩, fun i H' M' h x H'' v e rh hv y => ?_⟩
  · rw [l.length] at hi
    exact ⟨vs, vs[i], (t.ext e).sq, by simp [hi]⟩
  · obtain ⟨rfl, y⟩ := y
    exact ⟨.refl, rh, (l.ext e).lt hv (y vs (t.ext e).sq)⟩
theorem seen_lst {a : Addr} {xs : List SV} {vs : List V} (t : Lp K H M a vs) (l : RepL K H M xs vs) : Seen K (Itl K a) xs H M := by
  refine ⟨fun i H' M' e hi => ?_, fun H' M' e => ⟨vs, (t.ext e).sq, by rw [l.length]; exact Nat.le_refl _⟩, fun i H' M' h x H'' v e rh hv y => ?_⟩
  · rw [l.length] at hi
    exact ⟨vs, vs[i], (t.ext e).sq, by simp [hi]⟩
  · obtain ⟨rfl, y⟩ := y
    exact ⟨.refl, rh, (l.ext e).lt hv (y vs (t.ext e).sq)⟩
theorem rangeOf_get {lo hi : Int} {i : Nat} {v : SV} (h : (rangeOf lo hi)[i]? = some v) : v = .int (lo + i) := by
  unfold rangeOf at h
  rw [List.getElem?_map] at h
  obtain ⟨j, e1, e2⟩ := Option.map_eq_some_iff.mp h
  obtain ⟨h1, h2⟩ := List.getElem?_eq_some_iff.mp e1
  rw [List.getElem_range] at h2
  subst h2
  exact e2.symm
theorem seen_rng {lo hi : Int} : Seen K (Itr lo (hi - lo).toNat) (rangeOf lo hi) H M := by
  have len : (rangeOf lo hi).length = (hi - lo).toNat := by simp [rangeOf]
  refine ⟨fun i H' M' e hi => by rw [len] at hi; exact hi, fun H' M' e => Nat.le_of_eq len.symm, fun i H' M' h x H'' v e rh hv y => ?_⟩
  obtain ⟨rfl, rfl⟩ := y
  obtain rfl := rangeOf_get hv
  exact ⟨.refl, rh, .int _⟩
/-- a new pair at p -/
theorem pair_new {h : SH} {p : Addr} {v w : SV} {x y : V} (rh : RH K H M h) (hp : H p = none) (rx : Rep K H M v x) (ry : Rep K H M w y) :
    Evo H M (upd H p (.tup [x, y])) M ∧ RH K (upd H p (.tup [x, y])) M h ∧ Rep K (upd H p (.tup [x, y])) M (.tup [v, w]) (.ref p) :=
  ⟨Evo.new rh hp, RH.new rh hp, .tup upd_same (.cons (rx.mono (Evo.new rh hp)) (.cons (ry.mono (Evo.new rh hp)) .nil))⟩
theorem enumOf_length : ∀ (k : Nat) (xs : List SV), (enumOf k xs).length = xs.length
  | _, [] => rfl
  | k, _ :: xs => congrArg Nat.succ (enumOf_length (k + 1) xs)
theorem enumOf_get : ∀ (k : Nat) (xs : List SV) (i : Nat) (v : SV), (enumOf k xs)[i]? = some v → ∃ x, xs[i]? = some x ∧ v = .tup [.int ((k + i : Nat) : Int), x]
  | _, [], i, v, h => by simp [enumOf] at h
  | k, x :: xs, 0, v, h => ⟨x, rfl, (Option.some.inj h).symm⟩
  | k, x :: xs, i + 1, v, h => by
    obtain ⟨y, e1, e2⟩ := enumOf_get (k + 1) xs i v h
    exact ⟨y, e1, by rw [e2]; congr 4; omega⟩
/-- a sequence that stands still -/
def Sp_ (K : PySem.W.Frag) (b : Bool) (H : Hp) (M : Ms) (a : Addr) (vs : List V) : Prop := if b = true then Tq K H M a vs else Lp K H M a vs
theorem Sp_.sq {b : Bool} {a : Addr} {vs : List V} (s : Sp_ K b H M a vs) : SqS K b H a vs := by
  cases b with
  | true => exact Tq.sq (show Tq K H M a vs from s)
  | false => exact Lp.sq (show Lp K H M a vs from s)
theorem Sp_.ext {b : Bool} {a : Addr} {vs : List V} (e : Ext H M H' M') (s : Sp_ K b H M a vs) : Sp_ K b H' M' a vs := by
  cases b with
  | true => exact Tq.ext e (show Tq K H M a vs from s)
  | false => exact Lp.ext e (show Lp K H M a vs from s)
theorem seen_en {b : Bool} {a : Addr} {xs : List SV} {vs : List V} (t : Sp_ K b H M a vs) (l : RepL K H M xs vs) : Seen K (JEn K b a vs) (enumOf 0 xs) H M := by
  have len : (enumOf 0 xs).length = vs.length := by rw [enumOf_length, l.length]
  refine ⟨fun i H' M' e hi => ⟨(t.ext e).sq, by rw [← len]; exact hi⟩, fun H' M' e => ⟨(t.ext e).sq, len⟩, fun i H' M' h x H'' v e rh hv y => ?_⟩
  obtain ⟨T, z, rfl, hT, rfl, hz⟩ := y
  obtain ⟨w, e1, rfl⟩ := enumOf_get 0 xs i v hv
  rw [Nat.zero_add]
  exact pair_new rh hT (.int _) ((l.ext e).lt e1 hz)
theorem zip2Of_length : ∀ (xs ys : List SV), (zip2Of xs ys).length = min xs.length ys.length
  | [], _ => by simp [zip2Of]
  | _ :: _, [] => by simp [zip2Of]
  | _ :: xs, _ :: ys => by
    simp only [zip2Of, List.length_cons, zip2Of_length xs ys]
    omega
theorem zip2Of_get : ∀ (xs ys : List SV) (i : Nat) (v : SV), (zip2Of xs ys)[i]? = some v → ∃ x y, xs[i]? = some x ∧ ys[i]? = some y ∧ v = .tup [x, y]
  | [], _, i, v, h => by simp [zip2Of] at h
  | _ :: _, [], i, v, h => by simp [zip2Of] at h
  | x :: xs, y :: ys, 0, v, h => ⟨x, y, rfl, rfl, (Option.some.inj h).symm⟩
  | x :: xs, y :: ys, i + 1, v, h => zip2Of_get xs ys i v h
theorem seen_z2 {b1 b2 : Bool} {a1 a2 : Addr} {xs ys : List SV} {vs ws : List V} (t1 : Sp_ K b1 H M a1 vs) (t2 : Sp_ K b2 H M a2 ws) (l1 : RepL K H M xs vs) (l2 : RepL K H M ys ws) : Seen K (JZ2 K b1 a1 vs b2 a2 ws) (zip2Of xs ys) H M := by
  have len : (zip2Of xs ys).length = min vs.length ws.length := by rw [zip2Of_length, l1.length, l2.length]
  refine ⟨fun i H' M' e hi => ?_, fun H' M' e => ?_, fun i H' M' h x H'' v e rh hv y => ?_⟩
  · rw [len] at hi
    exact ⟨(t1.ext e).sq, by omega, (t2.ext e).sq, by omega⟩
  · rw [len]
    exact ⟨(t1.ext e).sq, by omega, (t2.ext e).sq, by omega, by omega⟩
  · obtain ⟨T, z1, z2, rfl, hT, rfl, h1, h2⟩ := y
    obtain ⟨w1, w2, e1, e2, rfl⟩ := zip2Of_get xs ys i v hv
    exact pair_new rh hT ((l1.ext e).lt e1 h1) ((l2.ext e).lt e2 h2)
end

/-! ### any sequence, walked -/
theorem pi_seq {X : Cx} {tg l : Expr} {tl : TE} (hl : PE X l tl) : PI X tg l (fun σ H R => tl σ H fun x H1 => ∃ a, x = .ref a ∧ (((∃ xs, SqL X.K H1 a xs) ∧ R (Itl X.K a) H1) ∨ ((∃ xs, SqT X.K H1 a xs) ∧ R (Itt X.K a) H1))) := by
  refine ⟨fun pins s σ H R I h => thn (hl.run pins s σ H _ I h) ?_⟩
  rintro v s1 ⟨x, H1, I1, r1, a, rfl, q⟩
  obtain rfl : v = Value.ref a := r1
  rcases q with ⟨⟨xs, hq⟩, q⟩ | ⟨⟨xs, hq⟩, q⟩
  · obtain ⟨its, _, p, _⟩ := I1.list hq
    have I2 := I1.kept (t' := s1.toks) (h' := s1.heap.push { cls := .type "list_iterator", data := .fields #[.ref a, .int 0 0] }) fun b o e => Heap.get?_push_of_some _ e
    refine wpAny_pyIter_list p.isList ⟨s1.heap.objs.size, [s1.heap.objs.size], _, _, H1, rfl, I2, turn_list a _, ⟨_, Heap.get?_push_size _ rfl, rfl, rfl⟩, ?_, q⟩
    intro b hb
    obtain rfl := List.mem_singleton.mp hb
    exact I1.fpOk (Nat.le_refl _) (I1.hok.fresh (Nat.le_refl _))
  · obtain ⟨its, _, p, _⟩ := I1.tuple hq
    have I2 := I1.kept (t' := s1.toks) (h' := s1.heap.push { cls := .type "tuple_iterator", data := .fields #[.ref a, .int 0 0] }) fun b o e => Heap.get?_push_of_some _ e
    refine wpAny_pyIter_tuple (show s1.heap.IsTuple a its.toArray from p) ⟨s1.heap.objs.size, [s1.heap.objs.size], _, _, H1, rfl, I2, turn_tuple a _, ⟨_, Heap.get?_push_size _ rfl, rfl, rfl⟩, ?_, q⟩
    intro b hb
    obtain rfl := List.mem_singleton.mp hb
    exact I1.fpOk (Nat.le_refl _) (I1.hok.fresh (Nat.le_refl _))
end Ws
end

section
set_option Elab.async false
set_option linter.all false
set_option maxRecDepth 100000
set_option autoImplicit false
/-! New lists: made at once, or by a comprehension's turns. -/
namespace Ws
open PySem PySem.Spec PyProof.Rows L2

section
variable {K : PySem.W.Frag} {mg : Str → Option Value} {H H1 H' : Hp} {M M1 M' : Ms} {E : XK}

/-! ### the end of a list that was being made -/
theorem Fz.endCell {D : Addr} {c b : List Addr} {a : Addr} {u : HO} (z : Fz H ⟨c, D :: b⟩ a u) : Fz H ⟨c ++ [D], b⟩ a u := by
  obtain ⟨⟨z1, z2⟩, z3⟩ := z
  have ne : a ≠ D := fun e => z2 (e ▸ List.mem_cons_self)
  refine ⟨⟨fun hm => ?_, fun hm => z2 (List.mem_cons_of_mem _ hm)⟩, z3⟩
  rcases List.mem_append.mp (show a ∈ c ++ [D] from hm) with q | q
  · exact z1 q
  · exact ne (List.mem_singleton.mp q)
theorem get_app {c : List Addr} {D : Addr} {n : Nat} {a : Addr} (h : c[n]? = some a) : (c ++ [D])[n]? = some a := by
  rw [List.getElem?_append_left (List.getElem?_eq_some_iff.mp h).1]
  exact h
theorem RH.endCell {D : Addr} {c b : List Addr} {h : SH} {o : SO} {u : HO} (r : RH K H ⟨c, D :: b⟩ h) (hDb : D ∉ b) (hD : H D = some u) (ho : RepO K H ⟨c ++ [D], b⟩ o u) : RH K H ⟨c ++ [D], b⟩ (h ++ [o]) := by
  obtain ⟨hDc, _⟩ := r.bsy D List.mem_cons_self
  have hDc' : D ∉ c := hDc
  have len : h.length = c.length := r.len
  refine ⟨?_, ?_, fun n o' e => ?_, fun a ha => ?_⟩
  · show (h ++ [o]).length = (c ++ [D]).length
    rw [List.length_append, List.length_append, len]
    rfl
  · show (c ++ [D]).Nodup
    rw [List.nodup_append]
    refine ⟨r.nd, by simp, fun a ha d hd e => ?_⟩
    obtain rfl := List.mem_singleton.mp hd
    exact hDc' (e ▸ ha)
  · by_cases hn : n < h.length
    · rw [List.getElem?_append_left hn] at e
      obtain ⟨a, w, e1, e2, e3⟩ := r.at_ n o' e
      exact ⟨a, w, get_app e1, e2, e3.map (fun _ _ => Fz.endCell) (fun _ _ h => h) (fun _ _ => get_app)⟩
    · rw [List.getElem?_append_right (by omega)] at e
      have hz : n - h.length = 0 := by
        have := (List.getElem?_eq_some_iff.mp e).1
        simp at this
        omega
      rw [hz] at e
      cases e
      refine ⟨D, u, ?_, hD, ho⟩
      show (c ++ [D])[n]? = _
      rw [List.getElem?_append_right (by omega), ← len, hz]
      rfl
  · obtain ⟨q1, q2⟩ := r.bsy a (List.mem_cons_of_mem _ ha)
    refine ⟨fun hm => ?_, q2⟩
    rcases List.mem_append.mp (show a ∈ c ++ [D] from hm) with z | z
    · exact q1 z
    · obtain rfl := List.mem_singleton.mp z
      exact hDb ha
theorem Evo.endCell {D : Addr} {c : List Addr} (hD : H D = none) (hDc : D ∉ M.c) (hDb : D ∉ M.b) (e : Evo H M H' ⟨c, M.b⟩) : Evo H M H' ⟨c ++ [D], M.b⟩ := by
  obtain ⟨E1, p, q⟩ := e.pre
  have p' : c = M.c ++ E1 := p
  refine ⟨⟨E1 ++ [D], by show c ++ [D] = _; rw [p']; simp, fun a ha => ?_⟩, rfl, e.same, e.keep, e.tup, e.frz⟩
  rcases List.mem_append.mp ha with z | z
  · exact q a z
  · obtain rfl := List.mem_singleton.mp z
    exact ⟨⟨hDc, hDb⟩, hD⟩
theorem Fz.lessC {c b : List Addr} {D a : Addr} {u : HO} (h : Fz H ⟨c, D :: b⟩ a u) : Fz H ⟨c, b⟩ a u := ⟨⟨h.1.1, fun hm => h.1.2 (List.mem_cons_of_mem _ hm)⟩, h.2⟩
/-- a new list, at its end -/
theorem list_end {c : Bool} {r : List SV} {hend h1 : SH} {D : Addr} {Hc : Hp} {Mc : Ms} {vs : List V} {Q : VK} (s : SemR K mg (mkL c r hend) H1 M1 E fun v _ H' M' => ∀ x, Rep K H' M' v x → Q x H')
    (r1 : RH K H1 M1 h1) (hD : H1 D = none) (hv : Hc D = some (.lst vs)) (hb : Mc.b = D :: M1.b) (rh : RH K Hc Mc hend) (e : Evo H1 M1 Hc ⟨Mc.c, M1.b⟩) (l : RepL K Hc Mc r vs) : Q (.ref D) Hc := by
  obtain ⟨cc, b⟩ := Mc
  have hb' : b = D :: M1.b := hb
  subst hb'
  have hDc := r1.fresh hD
  have hDb := r1.freshB hD
  have busy : D ∉ cc := (rh.bsy D List.mem_cons_self).1
  unfold mkL at s
  split at s
  · split at s
    · have l2 : RepL K Hc ⟨cc ++ [D], M1.b⟩ r vs := l.map (fun _ _ => Fz.endCell) (fun _ _ h => h) (fun _ _ => get_app)
      refine s Hc ⟨cc ++ [D], M1.b⟩ (Evo.endCell hD hDc hDb e) (rh.endCell hDb hv (.lst l2)) _ (.ref ?_)
      show (cc ++ [D])[hend.length]? = _
      have len : hend.length = cc.length := rh.len
      rw [len, List.getElem?_append_right (Nat.le_refl _), Nat.sub_self]
      rfl
    · refine s Hc ⟨cc, M1.b⟩ e (RH.done (M := ⟨cc, []⟩) rh) _ (.lst (.inl ⟨⟨busy, hDb⟩, .inl hv⟩) (l.map (fun _ _ => Fz.lessC) (fun _ _ h => h) (fun _ _ => id)))
  · exact s.elim
/-- a list made at once -/
theorem list_now {c : Bool} {r : List SV} {h : SH} {p : Addr} {vs : List V} {Q : VK} (s : SemR K mg (mkL c r h) H M E fun v _ H' M' => ∀ x, Rep K H' M' v x → Q x H') (rh : RH K H M h) (l : RepL K H M r vs) (hp : H p = none) :
    Q (.ref p) (upd H p (.lst vs)) :=
  list_end s rh hp upd_same rfl (rh.begin_ hp) (Evo.begin_ rh hp) (l.map (fun _ _ => Fz.begin_ rh hp) (Evo.begin_ rh hp).tup (fun _ _ => id))
theorem mkL_len {c : Bool} {r : List SV} {h : SH} {k : SV → SH → Hp → Ms → Prop} (s : SemR K mg (mkL c r h) H M E k) : r.length ≤ seqLen := by
  unfold mkL at s
  split at s
  · rename_i hc
    exact of_decide_eq_true hc
  · exact s.elim

/-! ### a store's reading -/
def SG (K : PySem.W.Frag) (t : CT) : TG := fun v σ H Q => ∃ sv env env2 M, RS K H M env σ ∧ Rep K H M sv v ∧ store t sv env = some env2 ∧
  ∀ σ', RS K H M env2 σ' → (∀ vs : List Nat, (∀ i ∈ slots t, i ∈ vs) → L2.wipe σ' vs = L2.wipe σ vs) → Q σ' H

theorem wipe_at (σ : L2.St) (vs : List Nat) (j : Nat) : (L2.wipe σ vs)[j]? = if j ∈ vs then σ[j]?.map (fun _ => none) else σ[j]? := by
  induction vs with
  | nil => simp [L2.wipe]
  | cons v vs ih =>
    show ((L2.wipe σ vs).set v none)[j]? = _
    rw [List.getElem?_set, ih]
    by_cases h : v = j
    · subst h
      simp only [if_true, List.mem_cons, true_or]
      rw [wipe_length]
      by_cases hl : v < σ.length
      · simp [hl]
      · simp [hl]
    · have h' : ¬ j = v := fun z => h z.symm
      simp [h, h', List.mem_cons]
theorem wipe_wipe {σ : L2.St} {vs : List Nat} : L2.wipe (L2.wipe σ vs) vs = L2.wipe σ vs := by
  apply List.ext_getElem?
  intro j
  rw [wipe_at, wipe_at]
  by_cases h : j ∈ vs
  · simp only [h, if_true, Option.map_map]
    rfl
  · simp [h]
theorem wipe_set {σ : L2.St} {vs : List Nat} {i : Nat} {x : Option V} (h : i ∈ vs) : L2.wipe (σ.set i x) vs = L2.wipe σ vs := by
  apply List.ext_getElem?
  intro j
  rw [wipe_at, wipe_at]
  by_cases hj : j ∈ vs
  · simp only [hj, if_true, List.getElem?_set]
    split
    · rename_i e
      subst e
      split <;> simp_all
    · rfl
  · have ne : ¬ i = j := fun e => hj (e ▸ h)
    simp [hj, List.getElem?_set, ne]
/-! ### a comprehension's turns -/
theorem compF_ok {body : SV → SH → Res (Option SV)} {x : SV} {xs : List SV} {h hend : SH} {r : List SV} (e : compF body (x :: xs) h = .ok r hend) :
    ∃ o h1 r', body x h = .ok o h1 ∧ compF body xs h1 = .ok r' hend ∧ r = match o with | some y => y :: r' | none => r' := by
  unfold compF at e
  split at e
  · rename_i o h1 e1
    split at e
    · rename_i r' h2 e2
      cases e
      exact ⟨o, h1, r', e1, e2, rfl⟩
    · cases e
    · cases e
  · cases e
  · cases e
theorem compF_noerr {body : SV → SH → Res (Option SV)} : ∀ {xs : List SV} {h : SH} {c : Str} {v : SV} {h' : SH}, compF body xs h ≠ .err c v h'
  | [], h, c, v, h' => by simp [compF]
  | x :: xs, h, c, v, h' => by
    unfold compF
    split
    · split <;> simp
    · simp
    · simp
/-- the state at turn i -/
structure CompAt (K : PySem.W.Frag) (body : SV → SH → Res (Option SV)) (xs : List SV) (r : List SV) (hend : SH) (H1 : Hp) (M1 : Ms) (D : Addr) (i : Nat) (Hc : Hp) : Prop where
  ex : ∃ (acc rest : List SV) (av : List V) (hc : SH) (Mc : Ms), Hc D = some (.lst av) ∧ Mc.b = D :: M1.b ∧ RH K Hc Mc hc ∧ Evo H1 M1 Hc ⟨Mc.c, M1.b⟩ ∧ Ext H1 M1 Hc Mc ∧ RepL K Hc Mc acc av ∧ r = acc ++ rest ∧ compF body (xs.drop i) hc = .ok rest hend
theorem lc_go {t : CT} {own : List Nat} {tt : TT} {te : TE} {body : SV → SH → Res (Option SV)} {c : Bool} {xs r : List SV} {h1 hend : SH} {env : SE} {σ : L2.St} {J : It} {Q : VK}
    (hsl : ∀ i ∈ slots t, i ∈ own)
    (hb : ∀ v hc o h', body v hc = .ok o h' → ∃ env2, store t v (wipeE env own) = some env2 ∧ ∀ (σ2 : L2.St) (H3 : Hp) (M3 : Ms) (Qs : V → Hp → Prop) (Qn : Hp → Prop), RS K H3 M3 env2 σ2 → RH K H3 M3 hc →
      (∀ y, o = some y → ∀ H5 M5, Evo H3 M3 H5 M5 → RH K H5 M5 h' → ∀ yv, Rep K H5 M5 y yv → Qs yv H5) → (o = none → ∀ H5 M5, Evo H3 M3 H5 M5 → RH K H5 M5 h' → Qn H5) →
      tt σ2 H3 fun b H4 => if b = true then te σ2 H4 Qs else Qn H4)
    (rs : RS K H1 M1 env σ) (rh : RH K H1 M1 h1) (sn : Seen K J xs H1 M1) (hcomp : compF body xs h1 = .ok r hend)
    (s : SemR K mg (mkL c r hend) H1 M1 E fun v _ H' M' => ∀ x, Rep K H' M' v x → Q x H') :
    ∀ D, H1 D = none → ∃ W : Nat → Nat → Hp → Prop, (∃ m, W 0 m (upd H1 D (.lst []))) ∧ ∀ i m H, W i m H →
      (J.stop i H ∧ Q (.ref D) H) ∨ (J.go i H ∧ ∃ Nx : Hp → Prop, (∀ H', Nx H' → ∃ m', m' < m ∧ W (i + 1) m' H') ∧ ∀ x H', J.yld i H x H' → SG K t x (L2.wipe σ own) H' fun σ2 H2 => L2.wipe σ2 own = L2.wipe σ own ∧ tt σ2 H2 fun b H3 =>
        if b = true then te σ2 H3 fun y H4 => ∃ acc, H4 D = some (.lst acc) ∧ acc.length < sizeLine ∧ Nx (upd H4 D (.lst (acc ++ [y]))) else Nx H3) := by
  intro D hD
  have hDc := rh.fresh hD
  have hDb := rh.freshB hD
  have hlen := mkL_len s
  refine ⟨fun i m H => i ≤ xs.length ∧ m = xs.length - i ∧ CompAt K body xs r hend H1 M1 D i H, ⟨xs.length, Nat.zero_le _, by simp, ⟨[], r, [], h1, ⟨M1.c, D :: M1.b⟩, upd_same, rfl, rh.begin_ hD, Evo.begin_ rh hD, ⟨fun _ _ => Fz.begin_ rh hD, (Evo.begin_ rh hD).tup, (Evo.begin_ rh hD).frz, fun _ _ => id⟩, .nil, rfl, hcomp⟩⟩, ?_⟩
  rintro i m Hc ⟨hi, rfl, ⟨acc, rest, av, hc, Mc, hv, hMb, rhc, ev, ex, l, er, ec⟩⟩
  have busy : D ∉ Mc.c := (rhc.bsy D (by rw [hMb]; exact List.mem_cons_self)).1
  by_cases hlt : i < xs.length
  · refine .inr ⟨sn.go i Hc Mc ex hlt, fun H' => CompAt K body xs r hend H1 M1 D (i + 1) H', fun H' n => ⟨xs.length - (i + 1), by omega, by omega, rfl, n⟩, ?_⟩
    intro x H' y
    have hx : xs[i]? = some xs[i] := List.getElem?_eq_getElem hlt
    obtain ⟨ev2, rh2, rx⟩ := sn.yld i Hc Mc hc x H' xs[i] ex rhc hx y
    rw [List.drop_eq_getElem_cons hlt] at ec
    obtain ⟨o, h', rest', e1, e2, e3⟩ := compF_ok ec
    obtain ⟨env2, es, run⟩ := hb _ _ _ _ e1
    refine ⟨xs[i], wipeE env own, env2, Mc, ((rs.ext (ex.trans ev2.ext)).wipe own), rx, es, ?_⟩
    intro σ2 rs2 hw
    have hw' : L2.wipe σ2 own = L2.wipe σ own := by
      rw [hw own hsl]
      exact wipe_wipe
    refine ⟨hw', ?_⟩
    refine run σ2 H' Mc _ _ rs2 rh2 ?_ ?_
    · rintro yx rfl H5 M5 ev5 rh5 yv ry
      have hD5 : H5 D = some (.lst av) := by
        rw [ev5.same D (by rw [hMb]; exact List.mem_cons_self), ev2.same D (by rw [hMb]; exact List.mem_cons_self)]
        exact hv
      have nl5 : NoLk (H5 D) := .lst hD5
      have la : acc.length = av.length := l.length
      refine ⟨av, hD5, ?_, ?_⟩
      · rw [er, e3, List.length_append, List.length_cons] at hlen
        rw [sizeLine_eq]
        have : seqLen = 16777216 := rfl
        omega
      · obtain ⟨c5, b5⟩ := M5
        have hb5 : b5 = D :: M1.b := ev5.busy.trans hMb
        subst hb5
        have evt := ev2.trans ev5
        have e5 : Evo H1 M1 H5 ⟨c5, M1.b⟩ := Evo.turn hD hDc hDb ev hMb busy evt
        have gz : ∀ a u, Fz H5 ⟨c5, D :: M1.b⟩ a u → Fz (upd H5 D (.lst (av ++ [yv]))) ⟨c5, D :: M1.b⟩ a u := fun a u => Fz.grow (M := ⟨c5, []⟩)
        refine ⟨acc ++ [yx], rest', av ++ [yv], h', ⟨c5, D :: M1.b⟩, upd_same, rfl, RH.grow (M := ⟨c5, []⟩) rh5 nl5, Evo.grow (Md := ⟨c5, []⟩) hD hDb nl5 e5, ⟨fun a u z => gz a u ((ex.trans evt.ext).fz a u z), fun a vs z => nl5.tupE ((ex.trans evt.ext).tup a vs z), fun a o u z => nl5.frzE ((ex.trans evt.ext).frz a o u z), (ex.trans evt.ext).get⟩, ?_, ?_, e2⟩
        · exact ((l.mono evt).append (.cons ry .nil)).map gz (fun _ _ z => nl5.tupE z) (fun _ _ => id)
        · rw [er, e3, List.append_assoc]
          rfl
    · rintro rfl H5 M5 ev5 rh5
      have evt := ev2.trans ev5
      refine ⟨acc, rest', av, h', M5, ?_, ev5.busy.trans hMb, rh5, Evo.turn hD hDc hDb ev hMb busy evt, ex.trans evt.ext, l.mono evt, ?_, e2⟩
      · rw [ev5.same D (by rw [hMb]; exact List.mem_cons_self), ev2.same D (by rw [hMb]; exact List.mem_cons_self)]
        exact hv
      · rw [er, e3]
  · have e : i = xs.length := by omega
    subst e
    rw [List.drop_length] at ec
    cases ec
    rw [List.append_nil] at er
    subst er
    exact .inl ⟨sn.stop Hc Mc ex, list_end s rh hD hv hMb rhc ev l⟩
end
end Ws
end

section
set_option Elab.async false
set_option linter.all false
set_option maxRecDepth 100000
set_option autoImplicit false
/-! A def's promise, kept where nothing is being shown (no guard of repr around): its rule, its calls, a law's end. -/
namespace Ws
open PySem PySem.Spec PyProof.Rows L2

structure FnG (P : Program) (w : World) (K : PySem.W.Frag) (mg : Str → Option Value) (base : Heap) (k : Nat) (f : Addr) (fd : FuncData) (ps : List Str) (sp : Sp) : Prop where
  len : ∀ vs H Q E, sp vs H Q E → vs.length = ps.length
  run : ∀ (A : Around) (outer : List Env) (s : Shared) (H : Hp) (args : Args) (us : List Value) (vs : List V) (Q : VK) (E : XK),
    Room k A → A.guards = some [] → Env0 P w K mg base A outer s H → BindsTo s fd args (ps.zip us) → Vals vs us → sp vs H Q E →
    codeAny (model P w) A (.call (.ref f) args) (CR (L2.CX P w) outer P w H s Q E) s

section
variable {P : Program} {w : World} {K : PySem.W.Frag} {mg : Str → Option Value} {base : Heap} {k : Nat} {f : Addr} {fd : FuncData} {ps N : List Str} {sp : Sp}
  {x qual : Str} {params : Arguments} {body : List Stmt} {scope : Scope} {dvs : List V} {kws : List (Str × V)}
/-- by the body -/
theorem FnG.of_body (F : FunD K x qual params body scope dvs kws f fd) (S : FnScope N ps scope) (len : ∀ vs H Q E, sp vs H Q E → vs.length = ps.length)
    (hbody : ∀ (cdv : Value) (A : Around) (outer : List Env) (s : Shared) (H : Hp) (vs : List V) (Q : VK) (E : XK),
      Room k (A.deeper (envOfC qual scope s.heap.objs.size f cdv)) → (A.deeper (envOfC qual scope s.heap.objs.size f cdv)).guards = some [] → sp vs H Q E →
      ∃ t, PSs (cxOf (L2.CX P w) P w K mg base N qual scope f cdv A outer s H E) body t ∧ t { nx := fun _ H' => Q .non H', rt := Q } (start N vs) H) :
    FnG P w K mg base (k + 1) f fd ps sp := by
  obtain ⟨oc, od, dV, kV, doc, pm, an, cdv, ct, osl, rfl, lk, hcd, _, _⟩ := F.ex
  refine ⟨len, ?_⟩
  intro A outer s H args us vs Q E hr hg e0 hb r hsp
  have KX : K.In s.heap := by
    refine e0.mod.kin.keeps ?_
    intro b o e
    exact (e0.bs b o e).1
  have lim : s.heap.NoLimit := by
    refine e0.mod.nolimit.keeps ?_
    intro b o e
    exact (e0.bs b o e).1
  have hkind : ∀ y ∈ ps.zip us, scope.names.lookup y.1 = some .local ∨
      (scope.names.lookup y.1 = some .cell ∧ ((cellsFrom (s.heap.objs.size + 1) scope.names []).lookup y.1).isSome = true) := by
    rintro ⟨n, v⟩ hy
    have hn := (List.of_mem_zip hy).1
    cases S.par n hn with
    | inl q => exact .inl q
    | inr q => exact .inr ⟨q, PySem.W.cellsFrom_some _ _ _ (.inl q)⟩
  refine codeAny_call_function hr.depth (KX _ _ lk) rfl S.co S.gen rfl
    (PySem.W.codeRec_of KX hcd) (hb _ _ _ _ ?_)
  refine wpAny_newFunctionEnv_cells S.kind hkind ?_
  intro env he s1 hin
  subst he
  refine ⟨lim.keeps hin.toInCall.keep, codeAny_func ?_⟩
  obtain ⟨t, ht, hq⟩ := hbody cdv A outer s H vs Q E (hr.deeper _) hg hsp
  have I : Inv (cxOf (L2.CX P w) P w K mg base N qual scope f cdv A outer s H E) [] (start N vs) H s1 :=
    inv_start S hr.hd e0 (len _ _ _ _ hsp) r hin
  refine wpAny_mono (ht.run [] s1 (start N vs) H _ I hq) ?_ (fun e s' hs => hs)
  intro fl s' hs
  cases fl with
  | ret u =>
    obtain ⟨v, σ', H', J, rv, q⟩ := hs
    exact ⟨v, H', J.os, J.bare, J.base, J.hok, rv, q⟩
  | next =>
    obtain ⟨σ', H', J, q⟩ := hs
    exact ⟨V.non, H', J.os, J.bare, J.base, J.hok, rfl, q⟩
  | brk =>
    obtain ⟨_, _, _, q⟩ := hs
    exact False.elim q
  | cont =>
    obtain ⟨_, _, _, q⟩ := hs
    exact False.elim q
end

section
variable {X : Cx} {k n : Nat} {f : Addr} {fd : FuncData} {ps ks : List Str} {sp : Sp} {dvs : List V} {ds : List Value} {W : WX} {x : Str} {p pos : Pos} {es : List Expr} {kws : List Keyword} {t tk : TA}
theorem FnG.runs {pins : List (Addr × Obj)} {σ : L2.St} {H : Hp} {s : Shared} {Q : VK} {as : Args} {us : List Value} {vs : List V}
    (F : FnG X.prog X.w X.K X.mg X.base k f fd ps sp) (hr : Room k X.A) (hg : X.A.guards = some []) (tk : Takes X W) (I : Inv X pins σ H s)
    (b : BindsTo s fd as (ps.zip us)) (r : Vals vs us) (h : sp vs H Q (WE W σ)) :
    codeAny (model X.prog X.w) X.A (.call (.ref f) as) (fun r s' => match r with
      | .ok (.ret u) => EP X pins σ Q u s'
      | .ok _ => False
      | .error e => X.xe e s') s := by
  refine codeAny_mono (F.run X.A X.stack s H as us vs Q (WE W σ) hr hg I.env0 b r h) ?_
  intro r s' hq
  match r, hq with
  | .error e, hq => exact passAt tk σ pins H s e s' I hq
  | .ok (.ret u), hq => exact I.after hq
  | .ok .next, hq => exact False.elim hq
  | .ok .brk, hq => exact False.elim hq
  | .ok .cont, hq => exact False.elim hq

/-- f(e, .., k = v, ..): g puts the values in the parameters' order -/
def tCallGK (n m : Nat) (sp : Sp) (gV : List V → List V) (W : WX) (t tk : TA) : TE := fun σ H Q => t σ H fun vs H1 => tk σ H1 fun zs H2 => vs.length = n ∧ zs.length = m ∧ sp (gV (vs ++ zs)) H2 Q (WE W σ)
theorem pe_callGK {g : List Value → List Value} {gV : List V → List V} {tkw : TA} (F : FnG X.prog X.w X.K X.mg X.base k f fd ps sp) (hr : Room k X.A) (hg : X.A.guards = some []) (tk : Takes X W) (gl : Gl X x) (hm : X.mg x = some (.ref f))
    (hk : PySem.W.keepIn X.K (.ref f) = true) (hdb : (x == ("__debug__" : Str)) = false)
    (hb : ∀ (s : Shared) (us ws : List Value), X.K.In s.heap → us.length = n → ws.length = ks.length → BindsTo s fd ⟨us, ks.zip ws⟩ (ps.zip (g (us ++ ws)))) (hrel : ∀ {vs : List V} {us : List Value}, Vals vs us → Vals (gV vs) (g us))
    (ha : PA X es t) (hkw : PK X kws tkw) (hall : (backToKw pos (keywordEach kws X.env)).all (·.1.isSome) = true) (hks : (backToKw pos (keywordEach kws X.env)).filterMap (·.1) = ks)
    (hst : ∀ e r, es = e :: r → starEach es X.env = (false, eval e X.env) :: starEach r X.env) (hpl : ((backTo pos (starEach es X.env)).any (·.1) || (backToKw pos (keywordEach kws X.env)).any (·.1.isNone)) = false)
    (h0 : es = [] → ∀ σ H Q, t σ H Q → Q [] H) :
    PE X (.Call (.Name x p) es kws pos) (tCallGK n ks.length sp gV W t tkw) := by
  refine ⟨?_⟩
  intro pins s σ H Q I h
  have go : ∀ {s2 : Shared} {H2 : Hp} {us ws : List Value} {vs zs : List V}, Inv X pins σ H2 s2 → Vals vs us → Vals zs ws → vs.length = n → zs.length = ks.length → sp (gV (vs ++ zs)) H2 Q (WE W σ) →
      wpAny (model X.prog X.w) X.A (call (.ref f) us (ks.zip ws)) (EP X pins σ Q) X.xe s2 := by
    intro s2 H2 us ws vs zs I2 r rz l1 l2 q
    have b := hb s2 us ws I2.kIn (by rw [← r.length]; exact l1) (by rw [← rz.length]; exact l2)
    refine wpAny_call (codeAny_mono (F.runs hr hg tk I2 b (hrel (r.append rz)) q) ?_)
    intro r s' hq
    match r, hq with
    | .error e, hq => exact hq
    | .ok (.ret u), hq => exact hq
    | .ok .next, hq => exact False.elim hq
    | .ok .brk, hq => exact False.elim hq
    | .ok .cont, hq => exact False.elim hq
  refine wpAny_Call_Name_kw (ld_glob I gl hm ?_ hdb)
  cases es with
  | nil =>
    have h1 := h0 rfl σ H _ h
    refine PySem.W.callWith_KW0 (h₀ := X.base) I.ok.mod.kin hk hall ?_ hpl
    refine thn (hkw.run pos pins s σ H _ I h1) ?_
    rintro ws s2 ⟨zs, H2, I2, rz, l1, l2, q⟩
    refine ⟨I2.kIn, ?_⟩
    rw [hks]
    exact go (us := []) I2 .nil rz l1 l2 q
  | cons e r =>
    refine PySem.W.callWith_KW (h₀ := X.base) I.ok.mod.kin hk hall ?_ hpl (hst e r rfl)
    refine thn (ha.run pos pins s σ H _ I h) ?_
    rintro us s1 ⟨vs, H1, I1, rv, q1⟩
    refine thn (hkw.run pos pins s1 σ H1 _ I1 q1) ?_
    rintro ws s2 ⟨zs, H2, I2, rz, l1, l2, q⟩
    refine ⟨I2.kIn, ?_⟩
    rw [hks]
    exact go I2 rv rz l1 l2 q
end

/-! ### a law's end -/
section
open PySem.W
/-- the law's promise is asked for at its one entry alone, where no guard is up -/
theorem law_runG {P : Program} {w : World} {K : Frag} {mg mb : Str → Option Value} {k : Nat} {fa a : Addr} {fd : FuncData} {x : Str} {sp : Sp} {s1 : Shared} {vs : List Value} {ns : List Int}
    (kin : K.In s1.heap) (nsG : s1.heap.Ns mainGlobals mg) (nsB : s1.heap.Ns builtinsNs mb) (boot : ∀ y : Str, y ≠ "__name__" → mb y = bootBuiltins y) (free : s1.heap.NoLimit) (noGen : s1.gens = #[])
    (scr : s1.heap.get? a = some { cls := .type "list", data := .seq vs.toArray }) (hints : IntsAre vs ns) (short : ns.length ≤ sizeLine) (room : Room k callerA)
    (F : ∀ base : Heap, K.In base → base.Ns mainGlobals mg → FnG P w K mg base k fa fd [x] sp) (binds : ∀ (s : Shared) (u : Value), BindsTo s fd ⟨[u], []⟩ [(x, u)])
    (ask : ∀ H : Hp, Lp K H ⟨[], []⟩ a (ns.map V.int) → sp [.ref a] H (fun v _ => v = .bl true) fun _ _ _ => False) :
    codeAny (model P w) callerA (.call (.ref fa) ⟨[.ref a], []⟩) (fun r t => r = .ok (.ret (.bool true)) ∧ OldK s1.heap t.heap ∧ t.os = s1.os ∧ AllBare t.gens) s1 := by
  have sz := hints.length
  have main : ∀ H : Hp, Only H → Lp K H ⟨[], []⟩ a (ns.map V.int) → HOk P w H s1.heap → (∀ b, H b ≠ none → b = a) → (H a ≠ none → K.lookup a = none) →
      codeAny (model P w) callerA (.call (.ref fa) ⟨[.ref a], []⟩) (fun r t => r = .ok (.ret (.bool true)) ∧ OldK s1.heap t.heap ∧ t.os = s1.os ∧ AllBare t.gens) s1 := by
    intro H only sq okH atA notK
    have dictNone : ∀ {b : Addr} {o : Obj} {es : Array DictEntry} {ep : Nat}, s1.heap.get? b = some o → o.data = .dict es ep → H b = none := by
      intro b o es ep e hd
      cases q : H b with
      | none => rfl
      | some u =>
        obtain rfl : b = a := atA b (by simp [q])
        rw [scr] at e
        obtain rfl := Option.some.inj e
        exact Data.noConfusion hd
    have nsUp : ∀ {b : Addr} {m : Str → Option Value}, s1.heap.Ns b m → (hidT s1.heap H).Ns b m := by
      rintro b m ⟨o, es, ep, e, hd, r⟩
      exact ⟨o, es, ep, hidT_get e (dictNone e hd), hd, r⟩
    have kinUp : K.In (hidT s1.heap H) := by
      intro b o e
      refine hidT_get (kin b o e) ?_
      cases q : H b with
      | none => rfl
      | some u =>
        obtain rfl : b = a := atA b (by simp [q])
        rw [notK (by simp [q])] at e
        cases e
    have md : Mod K mg (hidT s1.heap H) := by
      obtain ⟨mc, c1, c2⟩ := free
      exact ⟨kinUp, nsUp nsG, ⟨mb, nsUp nsB, boot⟩, mc, nsUp c1, c2⟩
    have env : Env0 P w K mg (hidT s1.heap H) callerA [] s1 H :=
      ⟨rfl, md, fun b o e => of_hidT e, Nat.le_of_eq (hidT_size _ _), trivial, fun b hb => (List.not_mem_nil hb).elim, okH, .of_eq noGen⟩
    have go := (F _ kinUp (nsUp nsG)).run callerA [] s1 H ⟨[.ref a], []⟩ [.ref a] [.ref a] (fun v _ => v = .bl true) (fun _ _ _ => False) room rfl env
      (binds s1 (.ref a)) (.cons rfl .nil) (ask H sq)
    refine codeAny_mono go ?_
    rintro (e | f) t h
    · obtain ⟨_, _, _, _, _, _, _, _, _, _, _, _, no⟩ := h
      exact no.elim
    · cases f with
      | next | brk | cont => exact h.elim
      | ret u =>
        obtain ⟨v, H', hos, hbare, un, okH', rv, rfl⟩ := h
        obtain rfl : u = Value.bool true := rv
        refine ⟨rfl, OldK.of_keep ?_, hos, hbare⟩
        intro b o e
        cases q : H b with
        | none => exact un.keep b o e q (List.not_mem_nil) (by simp)
        | some u =>
          rcases only b with z | ⟨ob, xs, z⟩
          · rw [q] at z
            cases z
          · obtain ⟨e1, _⟩ := okH b _ z
            obtain ⟨e2, _⟩ := okH' b _ (un.frzs b ob _ z)
            exact (e1.symm.trans e) ▸ e2
  by_cases hk : K.lookup a = none
  · refine main (fun b => if b = a then some (.frz { cls := .type "list", data := .seq vs.toArray } (.lst (ns.map V.int))) else none) ?_ (.inl ⟨⟨List.not_mem_nil, List.not_mem_nil⟩, .inr ⟨_, if_pos rfl⟩⟩) ?_ ?_ fun _ => hk
    · intro b
      by_cases h : b = a
      · exact .inr ⟨_, _, if_pos h⟩
      · exact .inl (if_neg h)
    · intro b u z
      by_cases h : b = a
      · subst h
        have y : (if b = b then some (HO.frz { cls := .type "list", data := .seq vs.toArray } (.lst (ns.map V.int))) else none) = some u := z
        rw [if_pos rfl] at y
        obtain rfl := Option.some.inj y
        exact ⟨scr, by rw [List.length_map]; exact short, vs, _, vals_ints hints, scr⟩
      · have y : (if b = a then some (HO.frz { cls := .type "list", data := .seq vs.toArray } (.lst (ns.map V.int))) else none) = some u := z
        rw [if_neg h] at y
        cases y
    · intro b z
      exact Decidable.byContradiction fun h => z (if_neg h)
  · obtain ⟨o, ho⟩ := Option.ne_none_iff_exists'.mp hk
    obtain rfl : { cls := .type "list", data := .seq vs.toArray } = o := Option.some.inj (scr.symm.trans (kin a o ho))
    refine main (fun _ => none) (fun _ => .inl rfl) (.inr ⟨vs.toArray, _, ho, ?_, ?_⟩) (fun b u z => ?_) (fun b z => (z rfl).elim) fun z => (z rfl).elim
    · rw [List.size_toArray, sz]
      exact short
    · exact vals_ints hints
    · cases z

theorem walk_G {l : OpenLaw} {n k : Nat} {q : Program} {loose : List Str} {XP : (Str → Option Value) → Heap → Prop} {YP : World → Heap → Prop} {d : DefRec} {x : Str}
    (hn : l.most = some n) (hn2 : n ≤ sizeLine) (hdf : d.params.defaults = []) (room : Room k callerA)
    (F : ∀ (w : World) (mg : Str → Option Value) (fa : Addr) (h : Heap), YP w h → h.Ns mainGlobals mg → mg d.name = some (.ref fa) →
      ∃ (K : Frag) (fd : FuncData) (sp : Sp), K.In h ∧ (∀ (s : Shared) (u : Value), BindsTo s fd ⟨[u], []⟩ [(x, u)]) ∧
        (∀ (H : Hp) (a : Addr) (ns : List Int), ns.length ≤ n → Lp K H ⟨[], []⟩ a (ns.map V.int) → sp [.ref a] H (fun v _ => v = .bl true) fun _ _ _ => False) ∧
        ∀ base : Heap, K.In base → base.Ns mainGlobals mg → FnG l.prog w K mg base k fa fd [x] sp) :
    WalkO q loose XP YP l.row.toRowW d [] (fun f vs => PySem.call f vs) := by
  refine Att.attach_call hn hdf ?_
  intro w s₀ s1 mg mb fa o pm cd doc a vs ns G Y ho hd hcd hmg scr hints len noGen
  obtain ⟨K, fd, sp, kin, binds, ask, hF⟩ := F w mg fa _ Y G.T.g hmg
  exact law_runG kin G.T.g G.T.b G.T.builtins G.T.nolimit noGen scr hints (Nat.le_trans len hn2) room hF binds fun H sq => ask H a ns len sq
end
end Ws
end

section
set_option Elab.async false
set_option linter.all false
set_option maxRecDepth 100000
set_option autoImplicit false
/-! What the simple interpreter says of an expression holds of the machine. -/
namespace Ws
open PySem PySem.Spec PyProof.Rows L2

/-! ### weaker readings -/
section
variable {X : Cx}
theorem _root_.L2.PE.imp {e : Expr} {t t' : TE} (h : PE X e t) (i : ∀ σ H Q, t' σ H Q → t σ H Q) : PE X e t' := ⟨fun pins s σ H Q I q => h.run pins s σ H Q I (i σ H Q q)⟩
theorem _root_.L2.PT.imp {e : Expr} {t t' : TT} (h : PT X e t) (i : ∀ σ H Q, t' σ H Q → t σ H Q) : PT X e t' := ⟨fun pins s σ H Q I q => h.run pins s σ H Q I (i σ H Q q)⟩
theorem _root_.L2.PW.imp {e : Expr} {t t' : TT} (h : PW X e t) (i : ∀ σ H Q, t' σ H Q → t σ H Q) : PW X e t' := ⟨fun whole pins s σ H Q I q => h.run whole pins s σ H Q I (i σ H Q q)⟩
theorem _root_.L2.PA.imp {e : List Expr} {t t' : TA} (h : PA X e t) (i : ∀ σ H Q, t' σ H Q → t σ H Q) : PA X e t' := ⟨fun pos pins s σ H Q I q => h.run pos pins s σ H Q I (i σ H Q q)⟩
theorem _root_.L2.PK.imp {e : List Keyword} {t t' : TA} (h : PK X e t) (i : ∀ σ H Q, t' σ H Q → t σ H Q) : PK X e t' := ⟨fun pos pins s σ H Q I q => h.run pos pins s σ H Q I (i σ H Q q)⟩
theorem _root_.L2.PO.imp {e : Option Expr} {t t' : TO} (h : PO X e t) (i : ∀ σ H Q, t' σ H Q → t σ H Q) : PO X e t' := ⟨fun pins s σ H Q I q => h.run pins s σ H Q I (i σ H Q q)⟩
theorem _root_.L2.PI.imp {tg e : Expr} {t t' : TI} (h : PI X tg e t) (i : ∀ σ H Q, t' σ H Q → t σ H Q) : PI X tg e t' := ⟨fun pins s σ H Q I q => h.run pins s σ H Q I (i σ H Q q)⟩
theorem _root_.L2.PG.imp {e : Expr} {t t' : TG} (h : PG X e t) (i : ∀ v σ H Q, t' v σ H Q → t v σ H Q) : PG X e t' := ⟨fun pins s σ H v u Q I r q => h.run pins s σ H v u Q I r (i v σ H Q q)⟩
theorem _root_.L2.PS.imp {e : Stmt} {t t' : TS} (h : PS X e t) (i : ∀ D σ H, t' D σ H → t D σ H) : PS X e t' := ⟨fun pins s σ H D I q => h.run pins s σ H D I (i D σ H q)⟩
theorem _root_.L2.PSs.imp {e : List Stmt} {t t' : TS} (h : PSs X e t) (i : ∀ D σ H, t' D σ H → t D σ H) : PSs X e t' := ⟨fun pins s σ H D I q => h.run pins s σ H D I (i D σ H q)⟩
end

/-! ### the readings of core texts -/
/-- the state that the interpreter's run starts from -/
structure At (K : PySem.W.Frag) (env : SE) (h : SH) (M : Ms) (σ : L2.St) (H : Hp) : Prop where
  rs : RS K H M env σ
  rh : RH K H M h
def SE' (X : Cx) (p : Pr) (W : WX) (e : CE) : TE := fun σ H Q => ∃ env h M, At X.K env h M σ H ∧ SemR X.K X.mg (ev p e env h) H M (WE W σ) fun v _ H' M' => ∀ x, Rep X.K H' M' v x → Q x H'
def ST (X : Cx) (p : Pr) (W : WX) (e : CE) : TT := fun σ H Q => ∃ env h M, At X.K env h M σ H ∧ SemR X.K X.mg (evT p e env h) H M (WE W σ) fun b _ H' M' => Q b H'
def SA (X : Cx) (p : Pr) (W : WX) (e : CEs) : TA := fun σ H Q => ∃ env h M, At X.K env h M σ H ∧ SemR X.K X.mg (evs p e env h) H M (WE W σ) fun vs _ H' M' => ∀ xs, RepL X.K H' M' vs xs → Q xs H'
def SO_ (X : Cx) (p : Pr) (W : WX) (e : CO) : TO := fun σ H Q => ∃ env h M, At X.K env h M σ H ∧ SemR X.K X.mg (evo p e env h) H M (WE W σ) fun i _ H' M' => Q i H'
def SI (X : Cx) (p : Pr) (W : WX) (it : CI) : TI := fun σ H R => ∃ env h M, At X.K env h M σ H ∧ SemR X.K X.mg (evi p it env h) H M (WE W σ) fun xs _ H' M' => ∀ J, Seen X.K J xs H' M' → R J H'

section
variable {X : Cx} {p : Pr} {W : WX} {env : SE} {h h' : SH} {M M' : Ms} {σ : L2.St} {H H' : Hp}
theorem At.go (a : At X.K env h M σ H) (e : Evo H M H' M') (r : RH X.K H' M' h') : At X.K env h' M' σ H' := ⟨a.rs.mono e, r⟩

/-! ### an expression behind another -/
theorem two {a b : CE} {f : SH → SV → SV → Option SV} {Q : VK} (at_ : At X.K env h M σ H)
    (s : SemR X.K X.mg ((ev p a env h).bind fun x h => (ev p b env h).bind fun y h => Ws.ofO h (f h x y)) H M (WE W σ) fun v _ H' M' => ∀ x, Rep X.K H' M' v x → Q x H') :
    tOp (rB X.K f) (SE' X p W a) (SE' X p W b) σ H Q := by
  refine ⟨env, h, M, at_, s.bind.mono ?_⟩
  intro v h1 H1 M1 e1 r1 s1 x rx
  refine ⟨env, h1, M1, at_.go e1 r1, s1.bind.mono ?_⟩
  intro w h2 H2 M2 e2 r2 s2 y ry
  obtain ⟨z, ez, s3⟩ := s2.ofO
  exact ⟨v, w, z, h2, M2, r2, rx.mono e2, ry, ez, s3⟩
theorem e_bin {a b : CE} {op : BOp} {o : Operator} {l r : Expr} {pos : Pos} (ho : opB op o = true) (ha : PE X l (SE' X p W a)) (hb : PE X r (SE' X p W b)) : PE X (.BinOp l o r pos) (SE' X p W (.bin op a b)) := by
  have e : o = opO op := by cases op <;> cases o <;> first | rfl | cases ho
  subst e
  refine (pe_op (op_bin op) ha hb).imp ?_
  rintro σ H Q ⟨env, h, M, at_, s⟩
  exact two (f := fun _ v w => binop op v w) at_ s
theorem e_neg {a : CE} {l : Expr} {pos : Pos} (ha : PE X l (SE' X p W a)) : PE X (.UnaryOp .USub l pos) (SE' X p W (.neg a)) := by
  refine (pe_un un_neg ha).imp ?_
  rintro σ H Q ⟨env, h, M, at_, s⟩
  refine ⟨env, h, M, at_, s.bind.mono ?_⟩
  intro v h1 H1 M1 e1 r1 s1 x rx
  obtain ⟨z, ez, s3⟩ := s1.ofO
  obtain ⟨i, e, rfl⟩ := Option.map_eq_some_iff.mp ez
  obtain rfl := asInt_rep rx e
  exact ⟨i, rfl, s3.here r1 _ (.int _)⟩
theorem cmp2 {a b : CE} {op : COp} {Q : VK} (at_ : At X.K env h M σ H)
    (s : SemR X.K X.mg ((ev p a env h).bind fun x h => (ev p b env h).bind fun y h => Ws.ofO h ((cmpop h op x y).map SV.bl)) H M (WE W σ) fun v _ H' M' => ∀ x, Rep X.K H' M' v x → Q x H') :
    tOp (rC X.K op) (SE' X p W a) (SE' X p W b) σ H Q := by
  refine ⟨env, h, M, at_, s.bind.mono ?_⟩
  intro v h1 H1 M1 e1 r1 s1 x rx
  refine ⟨env, h1, M1, at_.go e1 r1, s1.bind.mono ?_⟩
  intro w h2 H2 M2 e2 r2 s2 y ry
  obtain ⟨z, ez, s3⟩ := s2.ofO
  obtain ⟨b, eb, rfl⟩ := Option.map_eq_some_iff.mp ez
  exact ⟨v, w, b, h2, M2, r2, rx.mono e2, ry, eb, s3.here r2 _ (.bl _)⟩
theorem opC_eq {op : COp} {o : CmpOp} (ho : opC op o = true) : o = opK op := by
  cases op <;> cases o <;> first | rfl | cases ho
theorem e_cmp {a b : CE} {op : COp} {o : CmpOp} {l r : Expr} {pos : Pos} (hu : X.A.units + 65 < cLine) (ho : opC op o = true) (hm : behindInMarks o r = false) (ha : PE X l (SE' X p W a)) (hb : PE X r (SE' X p W b)) :
    PE X (.Compare l [o] [r] pos) (SE' X p W (.cmp op a b)) := by
  obtain rfl := opC_eq ho
  refine (pe_cmpR (op_cmp hu op) ha hb hm).imp ?_
  rintro σ H Q ⟨env, h, M, at_, s⟩
  exact cmp2 at_ s
theorem t_cmp {a b : CE} {op : COp} {o : CmpOp} {l r : Expr} {pos : Pos} (hu : X.A.units + 65 < cLine) (ho : opC op o = true) (hm : behindInMarks o r = false) (ha : PE X l (SE' X p W a)) (hb : PE X r (SE' X p W b)) :
    PT X (.Compare l [o] [r] pos) (ST X p W (.cmp op a b)) := by
  obtain rfl := opC_eq ho
  refine (pt_cmpR (op_cmp hu op) ha hb hm).imp ?_
  rintro σ H Q ⟨env, h, M, at_, s⟩
  refine ⟨env, h, M, at_, s.bind.mono ?_⟩
  intro v h1 H1 M1 e1 r1 s1 x rx
  refine ⟨env, h1, M1, at_.go e1 r1, s1.bind.mono ?_⟩
  intro w h2 H2 M2 e2 r2 s2 y ry
  obtain ⟨b, eb, s3⟩ := s2.ofO
  exact ⟨v, w, b, h2, M2, r2, rx.mono e2, ry, eb, b, rfl, s3.here r2⟩
theorem e_chain {a b c : CE} {o1 o2 : COp} {q1 q2 : CmpOp} {l m r : Expr} {pos : Pos} (hu : X.A.units + 65 < cLine) (h1 : opC o1 q1 = true) (h2 : opC o2 q2 = true) (hm : lastMarks [q1, q2] [m, r] = false)
    (ha : PE X l (SE' X p W a)) (hb : PE X m (SE' X p W b)) (hc : PE X r (SE' X p W c)) : PE X (.Compare l [q1, q2] [m, r] pos) (SE' X p W (.chain o1 o2 a b c)) := by
  obtain rfl := opC_eq h1
  obtain rfl := opC_eq h2
  refine (pe_chain (op_cmp hu o1) (op_cmp hu o2) ha hb hc hm).imp ?_
  rintro σ H Q ⟨env, h, M, at_, s⟩
  refine ⟨env, h, M, at_, s.bind.mono ?_⟩
  intro v h1 H1 M1 e1 r1 s1 x rx
  refine ⟨env, h1, M1, at_.go e1 r1, s1.bind.mono ?_⟩
  intro w h2 H2 M2 e2 r2 s2 y ry
  cases eb : cmpop h2 o1 v w with
  | none => rw [eb] at s2; exact s2.elim
  | some k =>
    refine ⟨v, w, k, h2, M2, r2, rx.mono e2, ry, eb, k, rfl, ?_⟩
    rw [eb] at s2
    cases k with
    | false => exact s2.here r2 _ (.bl _)
    | true =>
      refine ⟨env, h2, M2, (at_.go e1 r1).go e2 r2, s2.bind.mono ?_⟩
      intro u h3 H3 M3 e3 r3 s3 z rz
      obtain ⟨t, et, s4⟩ := s3.ofO
      obtain ⟨k2, ek, rfl⟩ := Option.map_eq_some_iff.mp et
      exact ⟨w, u, k2, h3, M3, r3, ry.mono e3, rz, ek, s4.here r3 _ (.bl _)⟩
theorem t_chain {a b c : CE} {o1 o2 : COp} {q1 q2 : CmpOp} {l m r : Expr} {pos : Pos} (hu : X.A.units + 65 < cLine) (h1 : opC o1 q1 = true) (h2 : opC o2 q2 = true) (hm : lastMarks [q1, q2] [m, r] = false)
    (ha : PE X l (SE' X p W a)) (hb : PE X m (SE' X p W b)) (hc : PE X r (SE' X p W c)) : PT X (.Compare l [q1, q2] [m, r] pos) (ST X p W (.chain o1 o2 a b c)) := by
  obtain rfl := opC_eq h1
  obtain rfl := opC_eq h2
  refine (pt_chain (op_cmp hu o1) (op_cmp hu o2) ha hb hc hm).imp ?_
  rintro σ H Q ⟨env, h, M, at_, s⟩
  refine ⟨env, h, M, at_, s.bind.mono ?_⟩
  intro v h1 H1 M1 e1 r1 s1 x rx
  refine ⟨env, h1, M1, at_.go e1 r1, s1.bind.mono ?_⟩
  intro w h2 H2 M2 e2 r2 s2 y ry
  cases eb : cmpop h2 o1 v w with
  | none => rw [eb] at s2; exact s2.elim
  | some k =>
    refine ⟨v, w, k, h2, M2, r2, rx.mono e2, ry, eb, k, rfl, ?_⟩
    rw [eb] at s2
    cases k with
    | false => exact ⟨false, rfl, s2.here r2⟩
    | true =>
      refine ⟨env, h2, M2, (at_.go e1 r1).go e2 r2, s2.bind.mono ?_⟩
      intro u h3 H3 M3 e3 r3 s3 z rz
      obtain ⟨k2, ek, s4⟩ := s3.ofO
      exact ⟨w, u, k2, h3, M3, r3, ry.mono e3, rz, ek, k2, rfl, s4.here r3⟩

/-! ### and, or, not, if -/
theorem bl_rep {K : PySem.W.Frag} {v : SV} {b : Bool} {x : V} (r : Rep K H M v x) (e : v = .bl b) : x = .bl b := by
  subst e
  cases r
  rfl
theorem e_and {a b : CE} {l m : Expr} {r : List Expr} {pos : Pos} (ha : PE X l (SE' X p W a)) (hb : PE X (.BoolOp .And (m :: r) pos) (SE' X p W b)) : PE X (.BoolOp .And (l :: m :: r) pos) (SE' X p W (.and a b)) := by
  refine (pe_and ha hb).imp ?_
  rintro σ H Q ⟨env, h, M, at_, s⟩
  refine ⟨env, h, M, at_, s.bind.mono ?_⟩
  intro v h1 H1 M1 e1 r1 s1 x rx
  cases v with
  | bl c =>
    cases rx
    cases c with
    | true => exact ⟨true, rfl, env, h1, M1, at_.go e1 r1, s1⟩
    | false => exact ⟨false, rfl, s1.here r1 _ (.bl _)⟩
  | _ => exact s1.elim
theorem e_or {a b : CE} {l m : Expr} {r : List Expr} {pos : Pos} (ha : PE X l (SE' X p W a)) (hb : PE X (.BoolOp .Or (m :: r) pos) (SE' X p W b)) : PE X (.BoolOp .Or (l :: m :: r) pos) (SE' X p W (.or a b)) := by
  refine (pe_or ha hb).imp ?_
  rintro σ H Q ⟨env, h, M, at_, s⟩
  refine ⟨env, h, M, at_, s.bind.mono ?_⟩
  intro v h1 H1 M1 e1 r1 s1 x rx
  cases v with
  | bl c =>
    cases rx
    cases c with
    | true => exact ⟨true, rfl, s1.here r1 _ (.bl _)⟩
    | false => exact ⟨false, rfl, env, h1, M1, at_.go e1 r1, s1⟩
  | _ => exact s1.elim
theorem w_and {a b : CE} {l m : Expr} {r : List Expr} {pos : Pos} (ha : PT X l (ST X p W a)) (hb : PW X (.BoolOp .And (m :: r) pos) (ST X p W b)) : PW X (.BoolOp .And (l :: m :: r) pos) (ST X p W (.and a b)) := by
  refine (pw_and ha hb).imp ?_
  rintro σ H Q ⟨env, h, M, at_, s⟩
  refine ⟨env, h, M, at_, s.bind.mono ?_⟩
  intro c h1 H1 M1 e1 r1 s1
  cases c with
  | true => exact ⟨env, h1, M1, at_.go e1 r1, s1⟩
  | false => exact s1.here r1
theorem w_or {a b : CE} {l m : Expr} {r : List Expr} {pos : Pos} (ha : PT X l (ST X p W a)) (hb : PW X (.BoolOp .Or (m :: r) pos) (ST X p W b)) : PW X (.BoolOp .Or (l :: m :: r) pos) (ST X p W (.or a b)) := by
  refine (pw_or ha hb).imp ?_
  rintro σ H Q ⟨env, h, M, at_, s⟩
  refine ⟨env, h, M, at_, s.bind.mono ?_⟩
  intro c h1 H1 M1 e1 r1 s1
  cases c with
  | true => exact s1.here r1
  | false => exact ⟨env, h1, M1, at_.go e1 r1, s1⟩
theorem e_not {a : CE} {l : Expr} {pos : Pos} (ha : PE X l (SE' X p W a)) : PE X (.UnaryOp .Not l pos) (SE' X p W (.not a)) := by
  refine (pe_notT ha).imp ?_
  rintro σ H Q ⟨env, h, M, at_, s⟩
  refine ⟨env, h, M, at_, s.bind.mono ?_⟩
  intro v h1 H1 M1 e1 r1 s1 x rx
  obtain ⟨z, ez, s3⟩ := s1.ofO
  obtain ⟨b, eb, rfl⟩ := Option.map_eq_some_iff.mp ez
  exact ⟨b, tru_rep r1 rx eb, s3.here r1 _ (.bl _)⟩
theorem t_not {a : CE} {l : Expr} {pos : Pos} (ha : PT X l (ST X p W a)) : PT X (.UnaryOp .Not l pos) (ST X p W (.not a)) := by
  refine (pt_not ha).imp ?_
  rintro σ H Q ⟨env, h, M, at_, s⟩
  refine ⟨env, h, M, at_, s.bind.mono ?_⟩
  intro b h1 H1 M1 e1 r1 s1
  exact s1.here r1
theorem e_ite {t a b : CE} {c l r : Expr} {pos : Pos} (hc : PT X c (ST X p W t)) (ha : PE X l (SE' X p W a)) (hb : PE X r (SE' X p W b)) : PE X (.IfExp c l r pos) (SE' X p W (.ite t a b)) := by
  refine (pe_ifExp hc ha hb).imp ?_
  rintro σ H Q ⟨env, h, M, at_, s⟩
  refine ⟨env, h, M, at_, s.bind.mono ?_⟩
  intro k h1 H1 M1 e1 r1 s1
  cases k with
  | true => exact ⟨env, h1, M1, at_.go e1 r1, s1⟩
  | false => exact ⟨env, h1, M1, at_.go e1 r1, s1⟩
/-- a value's truth, as a test -/
theorem t_val {e : CE} {x : Expr} (he : ∀ whole, isTrue x X.env whole = (do let v ← whole; standAt x.pos; holding [v] (truthy v))) (hx : PE X x (SE' X p W e))
    (hT : ∀ env h, evT p e env h = (ev p e env h).bind fun v h => Ws.ofO h (truthOf h v)) : PT X x (ST X p W e) := by
  refine (pt_truth hx he).imp ?_
  rintro σ H Q ⟨env, h, M, at_, s⟩
  rw [hT] at s
  refine ⟨env, h, M, at_, s.bind.mono ?_⟩
  intro v h1 H1 M1 e1 r1 s1 x rx
  obtain ⟨b, eb, s3⟩ := s1.ofO
  exact ⟨b, tru_rep r1 rx eb, s3.here r1⟩

/-! ### lists of expressions -/
theorem star_plain {e : Expr} {r : List Expr} {env : Env} (h : plainE e = true) : starEach (e :: r) env = (false, eval e env) :: starEach r env := by
  cases e <;> first | rfl | cases h
theorem a_cons {e : CE} {r : CEs} {x : Expr} {xs : List Expr} (hp : plainE x = true) (h1 : PE X x (SE' X p W e)) (h2 : PA X xs (SA X p W r)) : PA X (x :: xs) (SA X p W (.cons e r)) := by
  refine (pa_cons h1 h2 (star_plain hp)).imp ?_
  rintro σ H Q ⟨env, h, M, at_, s⟩
  refine ⟨env, h, M, at_, s.bind.mono ?_⟩
  intro v h1 H1 M1 e1 r1 s1 x rx
  refine ⟨env, h1, M1, at_.go e1 r1, s1.bind.mono ?_⟩
  intro vs h2 H2 M2 e2 r2 s2 xs rxs
  exact s2.here r2 _ (.cons (rx.mono e2) rxs)
theorem a_nil : PA X [] (SA X p W .nil) := by
  refine pa_nil.imp ?_
  rintro σ H Q ⟨env, h, M, at_, s⟩
  exact s.here at_.rh _ .nil
theorem k_nil : PK X [] (SA X p W .nil) := by
  refine pk_nil.imp ?_
  rintro σ H Q ⟨env, h, M, at_, s⟩
  exact s.here at_.rh _ .nil
theorem k_cons {e : CE} {r : CEs} {x : Expr} {n : Option Str} {kp : Pos} {xs : List Keyword} (h1 : PE X x (SE' X p W e)) (h2 : PK X xs (SA X p W r)) : PK X (⟨n, x, kp⟩ :: xs) (SA X p W (.cons e r)) := by
  refine (pk_cons h1 h2).imp ?_
  rintro σ H Q ⟨env, h, M, at_, s⟩
  refine ⟨env, h, M, at_, s.bind.mono ?_⟩
  intro v h1 H1 M1 e1 r1 s1 x rx
  refine ⟨env, h1, M1, at_.go e1 r1, s1.bind.mono ?_⟩
  intro vs h2 H2 M2 e2 r2 s2 xs rxs
  exact s2.here r2 _ (.cons (rx.mono e2) rxs)
theorem e_tup {es : CEs} {xs : List Expr} {k : Nat} {pos : Pos} (h : PA X xs (SA X p W es)) : PE X (.Tuple xs k pos) (SE' X p W (.tup es)) := by
  refine (pe_tup h).imp ?_
  rintro σ H Q ⟨env, h, M, at_, s⟩
  refine ⟨env, h, M, at_, s.bind.mono ?_⟩
  intro vs h1 H1 M1 e1 r1 s1 xs rx
  split at s1
  · rename_i hl
    exact ⟨by rw [← rx.length, sizeLine_eq]; exact of_decide_eq_true hl, fun q hq => Give.tup (Q := Q) s1 r1 rx q hq⟩
  · exact s1.elim
theorem e_lst {c : Bool} {es : CEs} {xs : List Expr} {pos : Pos} (h : PA X xs (SA X p W es)) : PE X (.List xs pos) (SE' X p W (.lst c es)) := by
  refine (pe_lst h).imp ?_
  rintro σ H Q ⟨env, h, M, at_, s⟩
  refine ⟨env, h, M, at_, s.bind.mono ?_⟩
  intro vs h1 H1 M1 e1 r1 s1 xs rx
  exact ⟨by rw [← rx.length, sizeLine_eq]; exact mkL_len s1, fun q hq => list_now s1 r1 rx hq⟩
theorem e_rep {c : Bool} {a b : CE} {l r : Expr} {pos : Pos} (ha : PE X l (SE' X p W a)) (hb : PE X r (SE' X p W b)) : PE X (.BinOp l .Mult r pos) (SE' X p W (.repL c a b)) := by
  refine (pe_op op_repL ha hb).imp ?_
  rintro σ H Q ⟨env, h, M, at_, s⟩
  refine ⟨env, h, M, at_, s.bind.mono ?_⟩
  intro v h1 H1 M1 e1 r1 s1 x rx
  refine ⟨env, h1, M1, at_.go e1 r1, s1.bind.mono ?_⟩
  intro w h2 H2 M2 e2 r2 s2 y ry
  cases v with
  | lst xs =>
    cases w with
    | int k =>
      split at s2
      · rename_i ys ey
        obtain ⟨c1, rfl⟩ := ifs ey
        obtain ⟨q1, q2, q3⟩ := of_decide_eq_true c1
        obtain ⟨a, vs, rfl, t, l⟩ := (rx.mono e2).lst_inv
        cases ry
        refine ⟨a, k, vs, M2, rfl, rfl, t, by omega, by omega, ?_, fun q hq => list_now s2 r2 l.flat hq⟩
        rw [← l.length, sizeLine_eq]
        have := Nat.mul_le_mul q3 (show k.toNat ≤ 1000 by omega)
        omega
      · exact s2.elim
    | _ => exact s2.elim
  | _ => exact s2.elim

/-! ### o[i], o[i:j] -/
theorem ix_plain {b : Expr} (h : plainE b = true) : PlainIx b := by
  intro o i
  cases b <;> first | rfl | cases h
theorem e_ix {a b : CE} {l r : Expr} {pos : Pos} (hu : X.A.units + 1 < cLine) (hp : plainE r = true) (ha : PE X l (SE' X p W a)) (hb : PE X r (SE' X p W b)) : PE X (.Subscript l r pos) (SE' X p W (.ix a b)) := by
  refine (pe_ix (ix_any hu) ha hb (ix_plain hp)).imp ?_
  rintro σ H Q ⟨env, h, M, at_, s⟩
  exact two (f := fun h v w => itemV v w h) at_ s
theorem o_none : PO X none (SO_ X p W .none) := by
  refine po_none.imp ?_
  rintro σ H Q ⟨env, h, M, at_, s⟩
  exact s.here at_.rh
theorem o_some {e : CE} {x : Expr} (hx : PE X x (SE' X p W e)) : PO X (some x) (SO_ X p W (.some e)) := by
  refine (po_some hx).imp ?_
  rintro σ H Q ⟨env, h, M, at_, s⟩
  refine ⟨env, h, M, at_, s.bind.mono ?_⟩
  intro v h1 H1 M1 e1 r1 s1 x rx
  obtain ⟨z, ez, s3⟩ := s1.ofO
  obtain ⟨i, ei, rfl⟩ := Option.map_eq_some_iff.mp ez
  exact ⟨i, asInt_rep rx ei, s3.here r1⟩
theorem e_sl {a : CE} {lo hi : CO} {l : Expr} {lx ux : Option Expr} {pos p2 : Pos} (ha : PE X l (SE' X p W a)) (h1 : PO X lx (SO_ X p W lo)) (h2 : PO X ux (SO_ X p W hi)) : PE X (.Subscript l (.Slice lx ux none p2) pos) (SE' X p W (.sl a lo hi)) := by
  refine (pe_slice sl_any ha h1 h2).imp ?_
  rintro σ H Q ⟨env, h, M, at_, s⟩
  refine ⟨env, h, M, at_, s.bind.mono ?_⟩
  intro v h1 H1 M1 e1 r1 s1 x rx
  refine ⟨env, h1, M1, at_.go e1 r1, s1.bind.mono ?_⟩
  intro i h2 H2 M2 e2 r2 s2
  refine ⟨env, h2, M2, (at_.go e1 r1).go e2 r2, s2.bind.mono ?_⟩
  intro j h3 H3 M3 e3 r3 s3
  obtain ⟨z, ez, s4⟩ := s3.ofO
  exact ⟨v, z, h3, M3, r3, (rx.mono e2).mono e3, ez, s4⟩
end
end Ws
end

section
set_option Elab.async false
set_option linter.all false
set_option maxRecDepth 100000
set_option autoImplicit false
/-! What the simple interpreter says of an expression holds of the machine: calls, comprehensions, all together. -/
namespace Ws
open PySem PySem.Spec PyProof.Rows L2

/-! ### what a def promises -/
def spOf (K : PySem.W.Frag) (mg : Str → Option Value) (T : Tb) (d f n : Nat) : Sp := fun vs H Q E => vs.length = n ∧ ∃ xs h M, RepL K H M xs vs ∧ RH K H M h ∧ SemR K mg (callF T d f xs h) H M E fun v _ H' M' => ∀ x, Rep K H' M' v x → Q x H'
structure FunOk (P : Program) (w : World) (K : PySem.W.Frag) (mg : Str → Option Value) (base : Heap) (T : Tb) (S : Pt) (d f : Nat) (F : FT) : Prop where
  ex : ∃ (a : Addr) (fd : FuncData) (dvs : List V) (ds : List Value), mg F.name = some (.ref a) ∧ (∃ oc od osl, K.lookup a = some ⟨oc, od, .func fd, osl⟩) ∧ PySem.W.keepIn K (.ref a) = true ∧ FnG P w K mg base d a fd F.ps (spOf K mg T d f F.ps.length) ∧ Vals dvs ds ∧ (∀ H M, RepL K H M F.dfl dvs) ∧
    ∀ sh ∈ S.shapes, sh.f = f → ∀ (s : Shared) (us ws : List Value), K.In s.heap → us.length = sh.n → ws.length = sh.ks.length → BindsTo s fd ⟨us, sh.ks.zip ws⟩ (F.ps.zip (permute sh.perm (us ++ (ws ++ ds))))
/-- where core texts may be run -/
structure Gd (X : Cx) (T : Tb) (S : Pt) (d : Nat) (N : List Str) (sc : Scope) (W : WX) : Prop where
  hN : X.N = N
  hsc : X.env.scope = sc
  nd : N.Nodup
  calm : X.calm = true
  room : Room d X.A
  guards : X.A.guards = some []
  tk : Takes X W
  fs : S.funs = T.funs
  free : ∀ x, S.free.contains x = true → X.mg x = none
  globs : ∀ x v, S.globs.contains x = true → T.glob x = some v → ∃ u vx, X.mg x = some u ∧ RelV vx u ∧ ∀ H M, Rep X.K H M v vx
  funs : ∀ f F, T.funs[f]? = some F → FunOk X.prog X.w X.K X.mg X.base T S d f F

section
variable {X : Cx} {T : Tb} {S : Pt} {d : Nat} {N : List Str} {sc : Scope} {W : WX}
theorem Gd.hu (g : Gd X T S d N sc W) : X.A.units + 65 < cLine := by
  have := g.room.un
  omega
theorem Gd.gl (g : Gd X T S d N sc W) {x : Str} (h : gloB sc x = true) : Gl X x := by
  show X.env.scope.names.lookup x = some .globalImplicit
  rw [g.hsc]
  unfold gloB at h
  split at h
  · assumption
  · cases h
theorem Gd.vis (g : Gd X T S d N sc W) {x : Str} (h : visB sc x = true) : Vis X.env.scope x := by
  rw [g.hsc]
  unfold visB at h
  unfold Vis
  split at h <;> first | (rename_i e; simp [e]; done) | cases h
theorem name_ok {x : Str} (h : nameB x = true) : (x == ("__debug__" : Str)) = false ∧ (x == ("__classdict__" : Str)) = false ∧ x ≠ ("__name__" : Str) := by
  unfold nameB at h
  simp only [Bool.and_eq_true, Bool.not_eq_true'] at h
  exact ⟨h.1.1, h.1.2, fun e => by rw [e] at h; simp at h⟩
theorem e_var (g : Gd X T S d N sc W) {p : Pr} {i : Nat} {x : Str} {pos : Pos} (hi : N[i]? = some x) (hv : visB sc x = true) (hn : nameB x = true) : PE X (.Name x pos) (SE' X p W (.var i)) := by
  obtain ⟨n1, n2, _⟩ := name_ok hn
  refine (pe_var (by rw [g.hN]; exact hi) (g.vis hv) n1 n2).imp ?_
  rintro σ H Q ⟨env, h, M, at_, s⟩
  obtain ⟨v, e, s2⟩ := s.ofO
  obtain ⟨y, e1, r⟩ := at_.rs.look e
  exact ⟨y, e1, s2.here at_.rh _ r⟩
theorem e_const {p : Pr} {e : CE} {x : Expr} {z : SV} {v : V} (hx : PE X x (tC v)) (he : ∀ env h, ev p e env h = .ok z h) (hr : ∀ H M, Rep X.K H M z v) : PE X x (SE' X p W e) := by
  refine hx.imp ?_
  rintro σ H Q ⟨env, h, M, at_, s⟩
  rw [he] at s
  exact s.here at_.rh _ (hr H M)
theorem e_glob (g : Gd X T S d N sc W) {x : Str} {pos : Pos} (hg : gloB sc x = true) (hx : S.globs.contains x = true) (hn : nameB x = true) : PE X (.Name x pos) (SE' X (prOf T d) W (.glob x)) := by
  obtain ⟨n1, n2, _⟩ := name_ok hn
  cases e : T.glob x with
  | none =>
    refine ⟨?_⟩
    rintro pins s σ H Q I ⟨env, h, M, at_, sem⟩
    have sem' : SemR X.K X.mg (Ws.ofO h (T.glob x)) H M (WE W σ) _ := sem
    rw [e] at sem'
    exact sem'.elim
  | some v =>
    obtain ⟨u, vx, hm, r, hr⟩ := g.globs x v hx e
    refine (pe_glob (g.gl hg) hm r n1).imp ?_
    rintro σ H Q ⟨env, h, M, at_, s⟩
    have s' : SemR X.K X.mg (Ws.ofO h (T.glob x)) H M (WE W σ) _ := s
    rw [e] at s'
    exact s'.here at_.rh _ (hr H M)

/-! ### built-in functions -/
theorem boot_bi (b : BI) : bootBuiltins (biName b) = some (biVal b) := by cases b <;> decide +kernel
theorem boot_cls (b : BI) {T : Str} (h : biCls b = some T) : ∃ n, biTy b = some n ∧ bootBuiltins T = some (.type n) := by
  cases b <;> cases h
  · exact ⟨_, rfl, PyProof.Rows.boot_int⟩
  · exact ⟨_, rfl, PyProof.Rows.boot_bool⟩
  · exact ⟨_, rfl, PyProof.Rows.boot_tuple⟩
  · exact ⟨_, rfl, PyProof.Rows.boot_str⟩
theorem blt_ok (g : Gd X T S d N sc W) {x : Str} (h : bltB S sc x = true) : Gl X x ∧ X.mg x = none ∧ (x == ("__debug__" : Str)) = false ∧ x ≠ ("__name__" : Str) := by
  unfold bltB at h
  rw [Bool.and_eq_true, Bool.and_eq_true] at h
  obtain ⟨n1, _, n3⟩ := name_ok h.2.2
  exact ⟨g.gl h.1, g.free x h.2.1, n1, n3⟩
/-- no star among them -/
def plainAll (xs : List Expr) : Bool := xs.all plainE
theorem noStar {xs : List Expr} {env : Env} {pos : Pos} (h : plainAll xs = true) : (backTo pos (starEach xs env)).any (·.1) = false := by
  induction xs with
  | nil => rfl
  | cons x xs ih =>
    have h' : (plainE x && plainAll xs) = true := h
    rw [Bool.and_eq_true] at h'
    rw [star_plain h'.1]
    show (false || _) = false
    rw [Bool.false_or]
    exact ih h'.2
theorem bi_read {b : BI} {p : Pr} {es : CEs} {σ : L2.St} {H : Hp} {Q : VK} {env : SE} {h : SH} {M : Ms} (at_ : At X.K env h M σ H)
    (s : SemR X.K X.mg ((evs p es env h).bind fun xs h => Ws.ofO h (builtin h b xs)) H M (WE W σ) fun v _ H' M' => ∀ x, Rep X.K H' M' v x → Q x H') : tCB (rBi X.K b) (SA X p W es) σ H Q := by
  refine ⟨env, h, M, at_, s.bind.mono ?_⟩
  intro vs h1 H1 M1 e1 r1 s1 xs rx
  obtain ⟨z, ez, s3⟩ := s1.ofO
  exact ⟨vs, z, h1, M1, r1, rx, ez, s3⟩
theorem e_bi (g : Gd X T S d N sc W) {p : Pr} {b : BI} {es : CEs} {x : Expr} {xs : List Expr} {n : Str} {np pos : Pos} (hb : biCls b = none) (hn : biName b = n) (hB : bltB S sc n = true) (hp : plainAll (x :: xs) = true) (ha : PA X (x :: xs) (SA X p W es)) :
    PE X (.Call (.Name n np) (x :: xs) [] pos) (SE' X p W (.bi b es)) := by
  subst hn
  obtain ⟨gl, hm, n1, n3⟩ := blt_ok g hB
  have hb' : biTy b = none := by cases b <;> first | rfl | cases hb
  have hp' : (plainE x && plainAll xs) = true := hp
  rw [Bool.and_eq_true] at hp'
  have cr := call_bi g.calm g.guards g.hu b hb'
  have fin : ∀ {t : TE}, (∀ σ H Q, tCB (rBi X.K b) (SA X p W es) σ H Q → t σ H Q) → ∀ σ H Q, SE' X p W (.bi b es) σ H Q → t σ H Q := by
    rintro t ht σ H Q ⟨env, h, M, at_, s⟩
    exact ht _ _ _ (bi_read at_ s)
  have bt := boot_bi b
  cases hv : biVal b with
  | builtin id =>
    rw [hv] at cr bt
    exact (pe_callB cr gl hm bt ha n3 n1 (star_plain hp'.1) (noStar hp'.2)).imp (fin fun _ _ _ q => q)
  | type ty =>
    rw [hv] at cr bt
    exact (pe_callTy cr gl hm bt ha n3 n1 (star_plain hp'.1) (noStar hp'.2)).imp (fin fun _ _ _ q => q)
  | _ => cases b <;> cases hv
/-- isinstance(x, T) -/
theorem e_isi (g : Gd X T S d N sc W) {p : Pr} {b : BI} {e : CE} {x : Expr} {n cn : Str} {np cp pos : Pos} (hb : biCls b = some cn) (hn : biName b = n) (hB : bltB S sc n = true) (hC : bltB S sc cn = true) (hp : plainE x = true) (ha : PE X x (SE' X p W e)) :
    PE X (.Call (.Name n np) [x, .Name cn cp] [] pos) (SE' X p W (.bi b (.cons e .nil))) := by
  subst hn
  obtain ⟨gl, hm, n1, n3⟩ := blt_ok g hB
  obtain ⟨gl2, hm2, m1, m3⟩ := blt_ok g hC
  obtain ⟨ty, hb', bt2⟩ := boot_cls b hb
  have bt : bootBuiltins (biName b) = some (.builtin "isinstance") := by
    rw [boot_bi b]
    cases b <;> first | rfl | cases hb
  have cl : PE X (.Name cn cp) (tC (.ty ty)) := pe_bltn gl2 hm2 bt2 rfl m3 m1
  refine (pe_callB (call_is b ty hb') gl hm bt (pa_cons ha (pa_cons cl pa_nil) (star_plain hp)) n3 n1 (star_plain hp) rfl).imp ?_
  rintro σ H Q ⟨env, h, M, at_, s⟩
  have s' : SemR X.K X.mg ((ev p e env h).bind fun x h => Ws.ofO h (builtin h b [x])) H M (WE W σ) fun v _ H' M' => ∀ x, Rep X.K H' M' v x → Q x H' := by
    have eq : ev p (.bi b (.cons e .nil)) env h = (ev p e env h).bind fun x h => Ws.ofO h (builtin h b [x]) := by
      simp only [ev, evs]
      cases ev p e env h <;> rfl
    rw [← eq]
    exact s
  refine ⟨env, h, M, at_, s'.bind.mono ?_⟩
  intro v h1 H1 M1 e1 r1 s1 x rx
  obtain ⟨z, ez, s3⟩ := s1.ofO
  exact ⟨x, rfl, [v], z, h1, M1, r1, .cons rx .nil, ez, s3⟩

/-! ### calls -/
theorem RepL.permute {K : PySem.W.Frag} {H : Hp} {M : Ms} {xs : List SV} {vs : List V} (l : RepL K H M xs vs) : ∀ p : List Nat, RepL K H M (Ws.permute p xs) (Ws.permute p vs)
  | [] => .nil
  | i :: p => by
    have ih := RepL.permute l p
    unfold Ws.permute at *
    rw [List.filterMap_cons, List.filterMap_cons]
    cases e : xs[i]? with
    | some x =>
      obtain ⟨v, e1, r⟩ := l.get e
      rw [e1]
      exact .cons r ih
    | none =>
      have e1 : vs[i]? = none := by
        rw [List.getElem?_eq_none_iff] at e ⊢
        rw [← l.length]
        exact e
      rw [e1]
      exact ih
theorem vals_permute {vs : List V} {us : List Value} (r : Vals vs us) : ∀ p : List Nat, Vals (permute p vs) (permute p us)
  | [] => .nil
  | i :: p => by
    have ih := vals_permute r p
    unfold permute at *
    rw [List.filterMap_cons, List.filterMap_cons]
    cases e : vs[i]? with
    | some x =>
      obtain ⟨v, e1, q⟩ := paired_get r e
      rw [e1]
      exact .cons q ih
    | none =>
      have e1 : us[i]? = none := by
        rw [List.getElem?_eq_none_iff] at e ⊢
        rw [← r.length]
        exact e
      rw [e1]
      exact ih
theorem callF_len {T : Tb} {d f : Nat} {F : FT} {xs : List SV} {h : SH} {K : PySem.W.Frag} {mg : Str → Option Value} {H : Hp} {M : Ms} {E : XK} {k : SV → SH → Hp → Ms → Prop} (hF : T.funs[f]? = some F)
    (s : SemR K mg (callF T d f xs h) H M E k) : xs.length = F.ps.length := by
  cases d with
  | zero => exact s.elim
  | succ d =>
    unfold callF at s
    rw [hF] at s
    simp only at s
    have run : ∀ (p : Pr) (h : SH), xs.length = F.ps.length ∨ runF p F xs h = .bad := by
      intro p h
      unfold runF
      by_cases e : decide (xs.length = F.ps.length) = true
      · exact .inl (of_decide_eq_true e)
      · exact .inr (if_neg e)
    split at s
    · split at s
      · rcases run ⟨T.glob, dflOf T, callF T d⟩ [] with q | q
        · exact q
        · rw [q] at s
          exact s.elim
      · exact s.elim
    · rcases run ⟨T.glob, dflOf T, callF T d⟩ h with q | q
      · exact q
      · rw [q] at s
        exact s.elim
theorem keyNames {kws : List Keyword} {env : Env} {pos : Pos} (h : kwAll kws = true) : (backToKw pos (keywordEach kws env)).all (·.1.isSome) = true ∧ (backToKw pos (keywordEach kws env)).filterMap (·.1) = kwNames kws ∧ (backToKw pos (keywordEach kws env)).any (·.1.isNone) = false := by
  induction kws with
  | nil => exact ⟨rfl, rfl, rfl⟩
  | cons k kws ih =>
    obtain ⟨n, v, kp⟩ := k
    cases n with
    | none => cases h
    | some n =>
      obtain ⟨h1, h2, h3⟩ := ih h
      refine ⟨?_, ?_, ?_⟩
      · show (true && _) = true
        rw [Bool.true_and]
        exact h1
      · show n :: _ = n :: _
        rw [← h2]
        rfl
      · show (false || _) = false
        rw [Bool.false_or]
        exact h3
theorem evs_len {p : Pr} : ∀ {es : CEs} {xs : List Expr} {S : Pt} {N : List Str} {sc : Scope} {env : SE} {h h' : SH} {vs : List SV}, mEs S N sc es xs = true → evs p es env h = .ok vs h' → vs.length = xs.length
  | .nil, [], _, _, _, _, _, _, _, _, e => by cases e; rfl
  | .nil, _ :: _, _, _, _, _, _, _, _, m, _ => by simp [mEs] at m
  | .cons _ _, [], _, _, _, _, _, _, _, m, _ => by simp [mEs] at m
  | .cons e r, x :: xs, S, N, sc, env, h, h', vs, m, q => by
    simp only [mEs, Bool.and_eq_true] at m
    simp only [evs] at q
    cases e1 : ev p e env h with
    | ok v h1 =>
      rw [e1] at q
      simp only [Res.bind_ok] at q
      cases e2 : evs p r env h1 with
      | ok ws h2 =>
        rw [e2] at q
        cases q
        show ws.length + 1 = xs.length + 1
        rw [evs_len m.2.2 e2]
      | err c v h => rw [e2] at q; cases q
      | bad => rw [e2] at q; cases q
    | err c v h => rw [e1] at q; cases q
    | bad => rw [e1] at q; cases q
theorem evsK_len {p : Pr} : ∀ {es : CEs} {xs : List Keyword} {S : Pt} {N : List Str} {sc : Scope} {env : SE} {h h' : SH} {vs : List SV}, mKs S N sc es xs = true → evs p es env h = .ok vs h' → vs.length = (kwNames xs).length
  | .nil, [], _, _, _, _, _, _, _, _, e => by cases e; rfl
  | .nil, _ :: _, _, _, _, _, _, _, _, m, _ => by simp [mKs] at m
  | .cons _ _, [], _, _, _, _, _, _, _, m, _ => by simp [mKs] at m
  | .cons e r, ⟨none, x, kp⟩ :: xs, S, N, sc, env, h, h', vs, m, q => by simp [mKs] at m
  | .cons e r, ⟨some n, x, kp⟩ :: xs, S, N, sc, env, h, h', vs, m, q => by
    simp only [mKs, Bool.and_eq_true] at m
    simp only [evs] at q
    cases e1 : ev p e env h with
    | ok v h1 =>
      rw [e1] at q
      simp only [Res.bind_ok] at q
      cases e2 : evs p r env h1 with
      | ok ws h2 =>
        rw [e2] at q
        cases q
        show ws.length + 1 = (kwNames xs).length + 1
        rw [evsK_len m.2.2 e2]
      | err c v h => rw [e2] at q; cases q
      | bad => rw [e2] at q; cases q
    | err c v h => rw [e1] at q; cases q
    | bad => rw [e1] at q; cases q
theorem mEs_plain : ∀ {es : CEs} {xs : List Expr} {S : Pt} {N : List Str} {sc : Scope}, mEs S N sc es xs = true → plainAll xs = true
  | .nil, [], _, _, _, _ => rfl
  | .nil, _ :: _, _, _, _, m => by simp [mEs] at m
  | .cons _ _, [], _, _, _, m => by simp [mEs] at m
  | .cons e r, x :: xs, S, N, sc, m => by
    simp only [mEs, Bool.and_eq_true] at m
    show (plainE x && plainAll xs) = true
    rw [m.1, mEs_plain m.2.2]
    rfl
/-- what it gives is told apart -/
theorem SemR.with {α : Type} {K : PySem.W.Frag} {mg : Str → Option Value} {r : Res α} {H : Hp} {M : Ms} {E : XK} {k : α → SH → Hp → Ms → Prop} (s : SemR K mg r H M E k) : SemR K mg r H M E fun a h H' M' => r = .ok a h ∧ k a h H' M' := by
  cases r with
  | ok a h => exact fun H' M' e rh => ⟨rfl, s H' M' e rh⟩
  | err c v h => exact s
  | bad => exact s
theorem e_call (g : Gd X T S d N sc W) {f : Nat} {perm : List Nat} {es ks : CEs} {x : Str} {np pos : Pos} {xs : List Expr} {kws : List Keyword} (hf : funB S sc f x = true) (hs : S.shapes.contains ⟨f, xs.length, kwNames kws, perm⟩ = true) (hk : kwAll kws = true)
    (me : mEs S N sc es xs = true) (mk : mKs S N sc ks kws = true) (ha : PA X xs (SA X (prOf T d) W es)) (hkw : PK X kws (SA X (prOf T d) W ks)) : PE X (.Call (.Name x np) xs kws pos) (SE' X (prOf T d) W (.call f perm es ks)) := by
  unfold funB at hf
  split at hf
  · rename_i F hF
    simp only [Bool.and_eq_true, decide_eq_true_eq] at hf
    obtain ⟨rfl, hgl, hnm⟩ := hf
    rw [g.fs] at hF
    obtain ⟨n1, _, _⟩ := name_ok hnm
    obtain ⟨a, fd, dvs, ds, hm, _, hkp, FG, rd, hd, hb⟩ := (g.funs f F hF).ex
    have hB := hb ⟨f, xs.length, kwNames kws, perm⟩ (by simpa using hs) rfl
    obtain ⟨k1, k2, k3⟩ := keyNames (env := X.env) (pos := pos) hk
    refine (pe_callGK (g := fun l => permute perm (l ++ ds)) (gV := fun l => permute perm (l ++ dvs)) (ks := kwNames kws) (n := xs.length) FG g.room g.guards g.tk (g.gl hgl) hm hkp n1 ?_ ?_ ha hkw k1 k2 ?_ ?_ ?_).imp ?_
    · intro s us ws hK l1 l2
      rw [List.append_assoc]
      exact hB s us ws hK l1 l2
    · intro vs us r
      exact vals_permute (r.append rd) perm
    · intro e r q
      subst q
      have := mEs_plain me
      have h' : (plainE e && plainAll r) = true := this
      rw [Bool.and_eq_true] at h'
      exact star_plain h'.1
    · rw [noStar (mEs_plain me), k3]
      rfl
    · rintro rfl σ H Q ⟨env, h, M, at_, s⟩
      cases es with
      | nil => exact s.here at_.rh _ .nil
      | cons _ _ => simp [mEs] at me
    · rintro σ H Q ⟨env, h, M, at_, s⟩
      refine ⟨env, h, M, at_, s.bind.with.mono ?_⟩
      rintro vs h1 H1 M1 e1 r1 ⟨q1, s1⟩ zs rz
      refine ⟨env, h1, M1, at_.go e1 r1, s1.bind.with.mono ?_⟩
      rintro ws h2 H2 M2 e2 r2 ⟨q2, s2⟩ ys ry
      have l1 := evs_len me q1
      have l2 := evsK_len mk q2
      have rep : RepL X.K H2 M2 (permute perm (vs ++ (ws ++ dflOf T f))) (permute perm ((zs ++ ys) ++ dvs)) := by
        rw [List.append_assoc]
        refine RepL.permute ((rz.mono e2).append (ry.append ?_)) perm
        unfold dflOf
        rw [hF]
        exact hd H2 M2
      refine ⟨by rw [← rz.length]; exact l1, by rw [← ry.length]; exact l2, ?_, _, h2, M2, rep, r2, s2⟩
      rw [← rep.length]
      exact callF_len hF s2
  · cases hf
end
end Ws
end

section
set_option Elab.async false
set_option linter.all false
set_option maxRecDepth 100000
set_option autoImplicit false
/-! What the simple interpreter says of an expression holds of the machine: dict displays, walks, targets, comprehensions, all together. -/
namespace Ws
open PySem PySem.Spec PyProof.Rows L2
section
variable {X : Cx} {T : Tb} {S : Pt} {d : Nat} {N : List Str} {sc : Scope} {W : WX}

/-! ### a dict display -/
def trsOf (X : Cx) (p : Pr) (W : WX) : CEs → List (TE × TE)
  | .cons k (.cons v r) => (SE' X p W k, SE' X p W v) :: trsOf X p W r
  | _ => []
theorem pairUp_eq {k v : SV} {r : List SV} {kvs : List (SV × SV)} (h : pairUp (k :: v :: r) = some kvs) : ∃ ks, k.flat = true ∧ pairUp r = some ks ∧ kvs = (k, v) :: ks := by
  simp only [pairUp] at h
  split at h
  · rename_i c
    obtain ⟨ks, e, rfl⟩ := Option.map_eq_some_iff.mp h
    exact ⟨ks, c, e, rfl⟩
  · cases h
/-- keys and values -/
inductive RepP (K : PySem.W.Frag) (H : Hp) (M : Ms) : List (SV × SV) → List (Key × V) → Prop
  | nil : RepP K H M [] []
  | cons {k x : SV} {q : Key} {v : V} {r : List (SV × SV)} {s : List (Key × V)} : keyOf k = some q → Rep K H M x v → RepP K H M r s → RepP K H M ((k, x) :: r) ((q, v) :: s)
theorem RepP.map {K : PySem.W.Frag} {H H' : Hp} {M M' : Ms} (hf : ∀ a u, Fz H M a u → Fz H' M' a u) (ht : ∀ a vs, H a = some (.tup vs) → H' a = some (.tup vs)) (hc : ∀ (n : Nat) (a : Addr), M.c[n]? = some a → M'.c[n]? = some a) : ∀ {r : List (SV × SV)} {s : List (Key × V)}, RepP K H M r s → RepP K H' M' r s
  | _, _, .nil => .nil
  | _, _, .cons k r s => .cons k (r.map hf ht hc) (RepP.map hf ht hc s)
theorem RepP.length {K : PySem.W.Frag} {H : Hp} {M : Ms} : ∀ {r : List (SV × SV)} {s : List (Key × V)}, RepP K H M r s → r.length = s.length
  | _, _, .nil => rfl
  | _, _, .cons _ _ s => congrArg Nat.succ (RepP.length s)
theorem RepP.fold {K : PySem.W.Frag} {H : Hp} {M : Ms} : ∀ {r : List (SV × SV)} {s : List (Key × V)}, RepP K H M r s → ∀ {kvs : List (SV × SV)} {ps : List (Key × V)}, RepK K H M kvs ps →
    RepK K H M (r.foldl (fun acc kv => putV acc kv.1 kv.2) kvs) (mergeK ps s)
  | _, _, .nil, _, _, b => b
  | _, _, .cons hk rv rs, _, _, b => RepP.fold rs (b.put hk rv)
def evenB : CEs → Bool
  | .nil => true
  | .cons _ (.cons _ r) => evenB r
  | _ => false
theorem mPs_even : ∀ {es : CEs} {ks : List (Option Expr)} {vs : List Expr}, mPs S N sc es ks vs = true → evenB es = true
  | .nil, _, _, _ => rfl
  | .cons e .nil, _, _, m => by simp [mPs] at m
  | .cons e (.cons g r), [], _, m => by simp [mPs] at m
  | .cons e (.cons g r), none :: _, _, m => by simp [mPs] at m
  | .cons e (.cons g r), some k :: ks, [], m => by simp [mPs] at m
  | .cons e (.cons g r), some k :: ks, v :: vs, m => by
    simp only [mPs, Bool.and_eq_true] at m
    exact mPs_even (es := r) m.2.2
theorem pairs_go {p : Pr} : ∀ (es : CEs) {env : SE} {h : SH} {M : Ms} {σ : L2.St} {H : Hp} {G : List (V × V) → Hp → Prop}, evenB es = true → At X.K env h M σ H →
    SemR X.K X.mg (evs p es env h) H M (WE W σ) (fun xs h' H' M' => ∃ kvs, pairUp xs = some kvs ∧ ∀ ps, RepP X.K H' M' kvs ps → G (ps.map fun kv => (kV kv.1, kv.2)) H') → tPairs (trsOf X p W es) σ H G
  | .nil, env, h, M, σ, H, G, _, at_, s => by
    obtain ⟨kvs, e, q⟩ := s.here at_.rh
    cases e
    exact q [] .nil
  | .cons k .nil, env, h, M, σ, H, G, ev, at_, s => by cases ev
  | .cons k (.cons v r), env, h, M, σ, H, G, even, at_, s => by
    refine ⟨env, h, M, at_, s.bind.mono ?_⟩
    intro kv h1 H1 M1 e1 r1 s1 x rx
    refine ⟨env, h1, M1, at_.go e1 r1, ?_⟩
    have s2 : SemR X.K X.mg ((ev p v env h1).bind fun y h => (evs p r env h).bind fun ys h => .ok (kv :: y :: ys) h) H1 M1 (WE W σ) (fun xs h' H' M' => ∃ kvs, pairUp xs = some kvs ∧ ∀ ps, RepP X.K H' M' kvs ps → G (ps.map fun kv => (kV kv.1, kv.2)) H') := by
      have eq : ((evs p (.cons v r) env h1).bind fun xs h => Res.ok (kv :: xs) h) = (ev p v env h1).bind fun y h => (evs p r env h).bind fun ys h => .ok (kv :: y :: ys) h := by
        simp only [evs]
        cases ev p v env h1 with
        | ok y h2 =>
          simp only [Res.bind_ok]
          cases evs p r env h2 <;> rfl
        | err c v h => rfl
        | bad => rfl
      rw [← eq]
      exact s1
    refine s2.bind.mono ?_
    intro vv h2 H2 M2 e2 r2 s3 y ry
    refine pairs_go r even ((at_.go e1 r1).go e2 r2) ?_
    refine s3.bind.mono ?_
    intro ys h3 H3 M3 e3 r3 s4
    obtain ⟨kvs, ep, q⟩ := s4.here r3
    obtain ⟨ks, hf, e', rfl⟩ := pairUp_eq ep
    refine ⟨ks, e', ?_⟩
    intro ps rp
    obtain ⟨key, hk⟩ := keyOf_flat hf
    obtain rfl := keyOf_kV hk rx
    exact q ((key, y) :: ps) (.cons hk (ry.mono e3) rp)
/-- from where an object at D is begun -/
theorem SemR.begin_ {α : Type} {K : PySem.W.Frag} {mg : Str → Option Value} {r : Res α} {H : Hp} {M : Ms} {E : XK} {k : α → SH → Hp → Ms → Prop} {D : Addr} {u : HO} {h0 : SH} (s : SemR K mg r H M E k) (rh : RH K H M h0) (hD : H D = none) :
    SemR K mg r (upd H D u) ⟨M.c, D :: M.b⟩ E fun a h' H' M' => r = .ok a h' ∧ M'.b = D :: M.b ∧ H' D = some u ∧ Evo H M H' ⟨M'.c, M.b⟩ := by
  have busy : D ∉ M.c := rh.fresh hD
  have turn : ∀ {H' : Hp} {M' : Ms}, Evo (upd H D u) ⟨M.c, D :: M.b⟩ H' M' → Evo H M H' ⟨M'.c, M.b⟩ := fun e => Evo.turn (Mc := ⟨M.c, D :: M.b⟩) hD busy (rh.freshB hD) (Evo.begin_ rh hD) rfl busy e
  cases r with
  | ok a h' =>
    intro H' M' e r'
    exact ⟨rfl, e.busy, (e.same D List.mem_cons_self).trans upd_same, turn e⟩
  | err c v h' =>
    intro H' M' cls d x e r' hc hd rx
    obtain ⟨mc, mb⟩ := M'
    have hb : mb = D :: M.b := e.busy
    subst hb
    exact s H' ⟨mc, M.b⟩ cls d x (turn e) (RH.done (M := ⟨mc, []⟩) r') hc hd (rx.map (fun _ _ => Fz.lessC) (fun _ _ h => h) (fun _ _ => id))
  | bad => exact s
theorem e_dict {p : Pr} {es : CEs} {keys : List (Option Expr)} {vals : List Expr} {pos : Pos} (hl : keys.length = vals.length) (h15 : keys.length ≤ 15) (h0 : keys ≠ []) (hall : keys.all (·.isSome) = true) (even : evenB es = true) (hp : PPs X pos keys vals (trsOf X p W es)) :
    PE X (.Dict keys vals pos) (SE' X p W (.dict es)) := by
  refine (pe_disp hp hall hl h0 h15).imp ?_
  rintro σ H Q ⟨env, h, M, at_, s⟩
  intro D hD
  have hDc := at_.rh.fresh hD
  have hDb := at_.rh.freshB hD
  have s1 := (s.bind).begin_ (u := .dK []) at_.rh hD
  refine pairs_go es even ⟨at_.rs.ext ⟨fun _ _ => Fz.begin_ at_.rh hD, (Evo.begin_ at_.rh hD).tup, (Evo.begin_ at_.rh hD).frz, fun _ _ => id⟩, at_.rh.begin_ hD⟩ (s1.mono ?_)
  rintro xs h2 H2 M2 e2 r2 ⟨eq, hb, hD2, ev2⟩
  have s2 : SemR X.K X.mg ((Res.ok xs h2).bind fun xs h => match pairUp xs with
    | some kvs => if decide (kvs.length ≤ 15) = true then Res.ok (SV.ref h.length) (h ++ [.dct (kvs.foldl (fun acc kv => putV acc kv.1 kv.2) [])]) else .bad
    | none => .bad) H M (WE W σ) fun v _ H' M' => ∀ x, Rep X.K H' M' v x → Q x H' := by
    rw [← eq]
    exact s
  simp only [Res.bind_ok] at s2
  split at s2
  · rename_i kvs ep
    split at s2
    · rename_i c15
      refine ⟨kvs, ep, ?_⟩
      intro ps rp
      obtain ⟨mc, mb⟩ := M2
      have hb' : mb = D :: M.b := hb
      subst hb'
      refine ⟨hD2, ps, rfl, ?_, ?_⟩
      · rw [← rp.length]
        exact of_decide_eq_true c15
      · have gz : ∀ a u, Fz H2 ⟨mc, D :: M.b⟩ a u → Fz (upd H2 D (.dK (mergeK [] ps))) ⟨mc ++ [D], M.b⟩ a u := fun a u z => Fz.endCell (Fz.grow (M := ⟨mc, []⟩) z)
        have rk : RepK X.K (upd H2 D (.dK (mergeK [] ps))) ⟨mc ++ [D], M.b⟩ (kvs.foldl (fun acc kv => putV acc kv.1 kv.2) []) (mergeK [] ps) := (rp.map gz (fun _ _ z => (NoLk.dK hD2).tupE z) (fun _ _ => get_app)).fold .nil
        refine s2 _ ⟨mc ++ [D], M.b⟩ (Evo.endCell hD hDc hDb (Evo.grow (Md := ⟨mc, []⟩) hD hDb (.dK hD2) ev2)) (RH.endCell (RH.grow (M := ⟨mc, []⟩) r2 (.dK hD2)) hDb upd_same (.dK rk)) _ (.ref ?_)
        show (mc ++ [D])[h2.length]? = _
        have len : h2.length = mc.length := r2.len
        rw [len, List.getElem?_append_right (Nat.le_refl _), Nat.sub_self]
        rfl
    · exact s2.elim
  · exact s2.elim

/-! ### what is walked -/
theorem i_it {p : Pr} {e : CE} {tg x : Expr} (hx : PE X x (SE' X p W e)) : PI X tg x (SI X p W (.it e)) := by
  refine (pi_seq hx).imp ?_
  rintro σ H R ⟨env, h, M, at_, s⟩
  refine ⟨env, h, M, at_, s.bind.mono ?_⟩
  intro v h1 H1 M1 e1 r1 s1 x rx
  cases v with
  | tup xs =>
    obtain ⟨a, vs, rfl, t, l⟩ := rx.tup_inv
    exact ⟨a, rfl, .inr ⟨⟨vs, t.sq⟩, s1.here r1 _ (seen_tup (.inl t) l)⟩⟩
  | kt xs =>
    obtain ⟨a, vs, rfl, t, l⟩ := rx.kt_inv
    exact ⟨a, rfl, .inr ⟨⟨vs, t.sq⟩, s1.here r1 _ (seen_tup (.inr t) l)⟩⟩
  | lst xs =>
    obtain ⟨a, vs, rfl, t, l⟩ := rx.lst_inv
    exact ⟨a, rfl, .inl ⟨⟨vs, t.sq⟩, s1.here r1 _ (seen_lst t l)⟩⟩
  | _ => exact s1.elim
theorem small_ok {i : Int} (h : small62 i = true) : -(2 ^ 62) ≤ i ∧ i < 2 ^ 62 := by
  unfold small62 at h
  have h1 : i.natAbs < 4611686018427387904 := Nat.blt_eq.mp h
  omega
theorem i_r1 (g : Gd X T S d N sc W) {p : Pr} {e : CE} {tg x : Expr} {np pos : Pos} (hB : bltB S sc "range" = true) (hp : plainE x = true) (hx : PE X x (SE' X p W e)) : PI X tg (.Call (.Name "range" np) [x] [] pos) (SI X p W (.range1 e)) := by
  obtain ⟨gl, hm, _, _⟩ := blt_ok g hB
  refine (pi_range1 gl hm (pa_cons hx pa_nil (star_plain hp)) (star_plain hp)).imp ?_
  rintro σ H R ⟨env, h, M, at_, s⟩
  refine ⟨env, h, M, at_, s.bind.mono ?_⟩
  intro v h1 H1 M1 e1 r1 s1 x rx
  cases v with
  | int i =>
    cases rx
    have s2 : SemR X.K X.mg (if small62 i = true then Res.ok (rangeOf 0 i) h1 else Res.bad) H1 M1 (WE W σ) fun xs _ H' M' => ∀ J, Seen X.K J xs H' M' → R J H' := s1
    by_cases c : small62 i = true
    · rw [if_pos c] at s2
      obtain ⟨c1, c2⟩ := small_ok c
      refine ⟨i, rfl, c1, c2, ?_⟩
      have sn : Seen X.K (Itr 0 (i - 0).toNat) (rangeOf 0 i) H1 M1 := seen_rng
      rw [Int.sub_zero] at sn
      exact s2.here r1 _ sn
    · rw [if_neg c] at s2
      exact s2.elim
  | _ => exact s1.elim
theorem i_r2 (g : Gd X T S d N sc W) {p : Pr} {e f : CE} {tg x y : Expr} {np pos : Pos} (hB : bltB S sc "range" = true) (hp : plainE x = true) (hq : plainE y = true) (hx : PE X x (SE' X p W e)) (hy : PE X y (SE' X p W f)) :
    PI X tg (.Call (.Name "range" np) [x, y] [] pos) (SI X p W (.range2 e f)) := by
  obtain ⟨gl, hm, _, _⟩ := blt_ok g hB
  have st : starEach [x, y] X.env = [(false, eval x X.env), (false, eval y X.env)] := by
    rw [star_plain hp, star_plain hq]
    rfl
  refine (pi_range2 gl hm (pa_cons hx (pa_cons hy pa_nil (star_plain hq)) (star_plain hp)) st (star_plain hq)).imp ?_
  rintro σ H R ⟨env, h, M, at_, s⟩
  refine ⟨env, h, M, at_, s.bind.mono ?_⟩
  intro v h1 H1 M1 e1 r1 s1 x rx
  refine ⟨env, h1, M1, at_.go e1 r1, s1.bind.mono ?_⟩
  intro w h2 H2 M2 e2 r2 s2 y ry
  cases v with
  | int i =>
    cases w with
    | int j =>
      cases rx
      cases ry
      have s3 : SemR X.K X.mg (if (small62 i && small62 j) = true then Res.ok (rangeOf i j) h2 else Res.bad) H2 M2 (WE W σ) fun xs _ H' M' => ∀ J, Seen X.K J xs H' M' → R J H' := s2
      by_cases c : (small62 i && small62 j) = true
      · rw [if_pos c] at s3
        rw [Bool.and_eq_true] at c
        obtain ⟨c1, c2⟩ := small_ok c.1
        obtain ⟨c3, c4⟩ := small_ok c.2
        exact ⟨i, j, rfl, ⟨c1, c2, c3, c4⟩, s3.here r2 _ seen_rng⟩
      · rw [if_neg c] at s3
        exact s3.elim
    | _ => exact s2.elim
  | _ => exact s2.elim
/-- a sequence, by its kind -/
theorem seq_rep {v : SV} {xs : List SV} {x : V} {h : SH} {H : Hp} {M : Ms} (r : Rep X.K H M v x) (e : v = .tup xs ∨ v = .lst xs ∨ v = .kt xs) : ∃ b a vs, x = .ref a ∧ Sp_ X.K b H M a vs ∧ RepL X.K H M xs vs := by
  rcases e with rfl | rfl | rfl
  · obtain ⟨a, vs, rfl, t, l⟩ := r.tup_inv
    exact ⟨true, a, vs, rfl, .inl t, l⟩
  · obtain ⟨a, vs, rfl, t, l⟩ := r.lst_inv
    exact ⟨false, a, vs, rfl, t, l⟩
  · obtain ⟨a, vs, rfl, t, l⟩ := r.kt_inv
    exact ⟨true, a, vs, rfl, .inr t, l⟩
theorem i_en (g : Gd X T S d N sc W) {p : Pr} {e : CE} {x : Expr} {elts : List Expr} {kk : Nat} {np pos tpos : Pos} (hB : bltB S sc "enumerate" = true) (hp : plainE x = true) (hx : PE X x (SE' X p W e)) :
    PI X (.Tuple elts kk tpos) (.Call (.Name "enumerate" np) [x] [] pos) (SI X p W (.enum e)) := by
  obtain ⟨gl, hm, _, _⟩ := blt_ok g hB
  refine (pi_enS gl hm (pa_cons hx pa_nil (star_plain hp)) (star_plain hp)).imp ?_
  rintro σ H R ⟨env, h, M, at_, s⟩
  refine ⟨env, h, M, at_, s.bind.mono ?_⟩
  intro v h1 H1 M1 e1 r1 s1 x rx
  cases v with
  | tup xs =>
    obtain ⟨b, a, vs, rfl, t, l⟩ := seq_rep (h := h1) rx (.inl rfl)
    exact ⟨b, a, vs, rfl, t.sq, s1.here r1 _ (seen_en t l)⟩
  | lst xs =>
    obtain ⟨b, a, vs, rfl, t, l⟩ := seq_rep (h := h1) rx (.inr (.inl rfl))
    exact ⟨b, a, vs, rfl, t.sq, s1.here r1 _ (seen_en t l)⟩
  | kt xs =>
    obtain ⟨b, a, vs, rfl, t, l⟩ := seq_rep (h := h1) rx (.inr (.inr rfl))
    exact ⟨b, a, vs, rfl, t.sq, s1.here r1 _ (seen_en t l)⟩
  | _ => exact s1.elim
theorem i_z2 (g : Gd X T S d N sc W) {p : Pr} {e f : CE} {x y : Expr} {elts : List Expr} {kk : Nat} {np pos tpos : Pos} (hB : bltB S sc "zip" = true) (hp : plainE x = true) (hq : plainE y = true) (hx : PE X x (SE' X p W e)) (hy : PE X y (SE' X p W f)) :
    PI X (.Tuple elts kk tpos) (.Call (.Name "zip" np) [x, y] [] pos) (SI X p W (.zip2 e f)) := by
  obtain ⟨gl, hm, _, _⟩ := blt_ok g hB
  refine (pi_z2 gl hm (pa_cons hx (pa_cons hy pa_nil (star_plain hq)) (star_plain hp)) (star_plain hp) (by rw [star_plain hq]; rfl)).imp ?_
  rintro σ H R ⟨env, h, M, at_, s⟩
  refine ⟨env, h, M, at_, s.bind.mono ?_⟩
  intro v h1 H1 M1 e1 r1 s1 x rx
  refine ⟨env, h1, M1, at_.go e1 r1, s1.bind.mono ?_⟩
  intro w h2 H2 M2 e2 r2 s2 y ry
  have fin : ∀ xs ys, (v = .tup xs ∨ v = .lst xs ∨ v = .kt xs) → (w = .tup ys ∨ w = .lst ys ∨ w = .kt ys) → SemR X.K X.mg (.ok (zip2Of xs ys) h2) H2 M2 (WE W σ) (fun xs _ H' M' => ∀ J, Seen X.K J xs H' M' → R J H') →
      ∃ b1 a1 xs1 b2 a2 xs2, [x, y] = [V.ref a1, V.ref a2] ∧ SqS X.K b1 H2 a1 xs1 ∧ SqS X.K b2 H2 a2 xs2 ∧ R (JZ2 X.K b1 a1 xs1 b2 a2 xs2) H2 := by
    intro xs ys hv hw s3
    obtain ⟨b1, a1, vs, rfl, t1, l1⟩ := seq_rep (h := h2) (rx.mono e2) hv
    obtain ⟨b2, a2, ws, rfl, t2, l2⟩ := seq_rep (h := h2) ry hw
    exact ⟨b1, a1, vs, b2, a2, ws, rfl, t1.sq, t2.sq, s3.here r2 _ (seen_z2 t1 t2 l1 l2)⟩
  cases v with
  | tup xs =>
    cases w with
    | tup ys => exact fin xs ys (.inl rfl) (.inl rfl) s2
    | lst ys => exact fin xs ys (.inl rfl) (.inr (.inl rfl)) s2
    | _ => exact s2.elim
  | lst xs =>
    cases w with
    | tup ys => exact fin xs ys (.inr (.inl rfl)) (.inl rfl) s2
    | lst ys => exact fin xs ys (.inr (.inl rfl)) (.inr (.inl rfl)) s2
    | _ => exact s2.elim
  | _ => exact s2.elim

/-! ### targets -/
/-- where names may be stored -/
def Sto (X : Cx) (sc : Scope) (wr : Option Scope) : Prop := ∀ x, locW sc wr x = true → Loc X.env.scope x ∧ (X.fn x = true ∨ X.env.scope.names.lookup x = some .local)
theorem nameT {wr : Option Scope} {t : CT} {x : Expr} (m : mT N sc wr t x = true) : (∃ n p, x = .Name n p) ∨ ∃ es k p, x = .Tuple es k p := by
  cases t <;> cases x <;> first | exact .inl ⟨_, _, rfl⟩ | exact .inr ⟨_, _, _, rfl⟩ | (simp [mT] at m; done)
theorem asg_plain {x : Expr} {xs : List Expr} {env : Env} (h : (∃ n p, x = .Name n p) ∨ ∃ es k p, x = .Tuple es k p) :
    (assignEach (x :: xs) env).map (·.2) = assign x env :: (assignEach xs env).map (·.2) ∧ (assignEach (x :: xs) env).length = (assignEach xs env).length + 1 ∧
      ((assignEach xs env).findIdx? (·.1) = none → (assignEach (x :: xs) env).findIdx? (·.1) = none) := by
  rcases h with ⟨n, p, rfl⟩ | ⟨es, k, p, rfl⟩
  · refine ⟨rfl, rfl, fun q => ?_⟩
    show List.findIdx? _ ((false, _) :: assignEach xs env) = none
    rw [List.findIdx?_cons, q]
    rfl
  · refine ⟨rfl, rfl, fun q => ?_⟩
    show List.findIdx? _ ((false, _) :: assignEach xs env) = none
    rw [List.findIdx?_cons, q]
    rfl
/-- a store into a state that knows at least what the interpreter's knows -/
theorem SG.mk {K : PySem.W.Frag} {t : CT} {sv : SV} {v : V} {env env2 : SE} {σ : L2.St} {H : Hp} {M : Ms} {Q : L2.St → Hp → Prop} (rs : RS K H M env σ) (rv : Rep K H M sv v) (e : store t sv env = some env2)
    (q : ∀ σ', RS K H M env2 σ' → (∀ vs : List Nat, (∀ i ∈ slots t, i ∈ vs) → L2.wipe σ' vs = L2.wipe σ vs) → Q σ' H) : SG K t v σ H Q := ⟨sv, env, env2, M, rs, rv, e, q⟩
theorem g_name {wr : Option Scope} (g : Gd X T S d N sc W) (st : Sto X sc wr) {i : Nat} {x : Expr} (m : mT N sc wr (.name i) x = true) : PG X x (SG X.K (.name i)) := by
  cases x <;> first | (simp [mT] at m; done) | skip
  rename_i x pos
  simp only [mT, Bool.and_eq_true, decide_eq_true_eq] at m
  obtain ⟨hl, hf⟩ := st x m.2
  refine (pg_name (by rw [g.hN]; exact g.nd) (by rw [g.hN]; exact m.1) hl hf).imp ?_
  rintro v σ H Q ⟨sv, env, env2, M, rs, rv, e, q⟩
  cases e
  exact q _ (rs.set rv) fun vs hv => wipe_set (hv i (List.mem_singleton.mpr rfl))
theorem sG {wr : Option Scope} (g : Gd X T S d N sc W) (st : Sto X sc wr) : ∀ {t : CT} {x : Expr}, mT N sc wr t x = true → PG X x (SG X.K t)
  | .name i, x, m => g_name g st m
  | .pair a b, x, m => by
    cases x <;> first | (simp [mT] at m; done) | skip
    rename_i es k pos
    match es, m with
    | [], m => simp [mT] at m
    | [_], m => simp [mT] at m
    | _ :: _ :: _ :: _, m => simp [mT] at m
    | [u, w], m =>
      simp only [mT, Bool.and_eq_true] at m
      obtain ⟨m1, m2⟩ := m
      obtain ⟨n1, n2, n3⟩ := asg_plain (xs := [w]) (env := X.env) (nameT m1)
      obtain ⟨k1, k2, k3⟩ := asg_plain (xs := []) (env := X.env) (nameT m2)
      have pa := pgs_cons (sG g st m1) (pgs_cons (sG g st m2) pgs_nil k1) n1
      refine (pg_tup (n := 2) g.calm pa (by rw [n2, k2]; rfl) (n3 (k3 rfl))).imp ?_
      rintro v σ H Q ⟨sv, env, env2, M, rs, rv, e, q⟩
      cases sv with
      | tup xs =>
        match xs, e with
        | [x, y], e =>
          obtain ⟨p, vs, rfl, tp, l⟩ := rv.tup_inv
          obtain ⟨x', y', rfl, rx, ry⟩ := l.two
          obtain ⟨env1, e1, e2⟩ := Option.bind_eq_some_iff.mp (show (store a x env).bind (store b y) = some env2 from e)
          refine ⟨p, [x', y'], rfl, tp.sq, rfl, x', [y'], rfl, SG.mk rs rx e1 ?_⟩
          intro σ1 rs1 w1
          refine ⟨y', [], rfl, SG.mk rs1 ry e2 ?_⟩
          intro σ2 rs2 w2
          refine ⟨rfl, q σ2 rs2 ?_⟩
          intro vs hv
          rw [w2 vs fun i hi => hv i (List.mem_append_right _ hi), w1 vs fun i hi => hv i (List.mem_append_left _ hi)]
        | [], e => cases e
        | [_], e => cases e
        | _ :: _ :: _ :: _, e => cases e
      | kt xs =>
        match xs, e with
        | [x, y], e =>
          obtain ⟨p, vs, rfl, tp, l⟩ := rv.kt_inv
          obtain ⟨x', y', rfl, rx, ry⟩ := l.two
          obtain ⟨env1, e1, e2⟩ := Option.bind_eq_some_iff.mp (show (store a x env).bind (store b y) = some env2 from e)
          refine ⟨p, [x', y'], rfl, tp.sq, rfl, x', [y'], rfl, SG.mk rs rx e1 ?_⟩
          intro σ1 rs1 w1
          refine ⟨y', [], rfl, SG.mk rs1 ry e2 ?_⟩
          intro σ2 rs2 w2
          refine ⟨rfl, q σ2 rs2 ?_⟩
          intro vs hv
          rw [w2 vs fun i hi => hv i (List.mem_append_right _ hi), w1 vs fun i hi => hv i (List.mem_append_left _ hi)]
        | [], e => cases e
        | [_], e => cases e
        | _ :: _ :: _ :: _, e => cases e
      | _ => cases e
  | .three a b c, x, m => by
    cases x <;> first | (simp [mT] at m; done) | skip
    rename_i es k pos
    match es, m with
    | [], m => simp [mT] at m
    | [_], m => simp [mT] at m
    | [_, _], m => simp [mT] at m
    | _ :: _ :: _ :: _ :: _, m => simp [mT] at m
    | [u, w, z], m =>
      simp only [mT, Bool.and_eq_true] at m
      obtain ⟨m1, m2, m3⟩ := m
      obtain ⟨n1, n2, n3⟩ := asg_plain (xs := [w, z]) (env := X.env) (nameT m1)
      obtain ⟨k1, k2, k3⟩ := asg_plain (xs := [z]) (env := X.env) (nameT m2)
      obtain ⟨j1, j2, j3⟩ := asg_plain (xs := []) (env := X.env) (nameT m3)
      have pa := pgs_cons (sG g st m1) (pgs_cons (sG g st m2) (pgs_cons (sG g st m3) pgs_nil j1) k1) n1
      refine (pg_tup (n := 3) g.calm pa (by rw [n2, k2, j2]; rfl) (n3 (k3 (j3 rfl)))).imp ?_
      rintro v σ H Q ⟨sv, env, env2, M, rs, rv, e, q⟩
      cases sv with
      | tup xs =>
        match xs, e with
        | [x, y, t], e =>
          obtain ⟨p, vs, rfl, tp, l⟩ := rv.tup_inv
          obtain ⟨x', y', z', rfl, rx, ry, rz⟩ : ∃ x' y' z', vs = [x', y', z'] ∧ Rep X.K H M x x' ∧ Rep X.K H M y y' ∧ Rep X.K H M t z' := by
            cases l with
            | cons p l =>
              obtain ⟨y', z', rfl, ry, rz⟩ := l.two
              exact ⟨_, _, _, rfl, p, ry, rz⟩
          obtain ⟨env1, e1, e2⟩ := Option.bind_eq_some_iff.mp (show (store a x env).bind (fun e => (store b y e).bind (store c t)) = some env2 from e)
          obtain ⟨env3, e3, e4⟩ := Option.bind_eq_some_iff.mp e2
          refine ⟨p, [x', y', z'], rfl, tp.sq, rfl, x', [y', z'], rfl, SG.mk rs rx e1 ?_⟩
          intro σ1 rs1 w1
          refine ⟨y', [z'], rfl, SG.mk rs1 ry e3 ?_⟩
          intro σ2 rs2 w2
          refine ⟨z', [], rfl, SG.mk rs2 rz e4 ?_⟩
          intro σ3 rs3 w3
          refine ⟨rfl, q σ3 rs3 ?_⟩
          intro vs hv
          rw [w3 vs fun i hi => hv i (List.mem_append_right _ (List.mem_append_right _ hi)), w2 vs fun i hi => hv i (List.mem_append_right _ (List.mem_append_left _ hi)), w1 vs fun i hi => hv i (List.mem_append_left _ hi)]
        | [], e => cases e
        | [_], e => cases e
        | [_, _], e => cases e
        | _ :: _ :: _ :: _ :: _, e => cases e
      | _ => cases e
end
end Ws
end

section
set_option Elab.async false
set_option linter.all false
set_option maxRecDepth 100000
set_option autoImplicit false
/-! What the simple interpreter says of an expression holds of the machine: comprehensions; all together. -/
namespace Ws
open PySem PySem.Spec PyProof.Rows L2
section
variable {X : Cx} {T : Tb} {S : Pt} {d : Nat} {N : List Str} {sc : Scope} {W : WX}
abbrev W0 : WX := fun _ _ _ _ => False

theorem own_back {own : List Nat} : (ownOf N own).map (·.2) = own := by
  unfold ownOf
  rw [List.map_map]
  induction own with
  | nil => rfl
  | cons i own ih =>
    rw [List.map_cons, ih]
    rfl
theorem comp_imp {p : Pr} {c : Bool} {elt : CE} {t : CT} {it : CI} {own : List Nat} (hsl : (slots t).all (fun i => own.contains i) = true) {σ : L2.St} {H : Hp} {Q : VK} (q : SE' X p W (.comp c elt t it own) σ H Q) :
    tLc (SI X p W it) (SG X.K t) tYes (SE' X p W0 elt) own σ H Q := by
  obtain ⟨env, h, M, at_, s⟩ := q
  refine ⟨env, h, M, at_, s.bind.mono ?_⟩
  intro xs h1 H1 M1 e1 r1 s1 J sn
  have s2 := s1.bind
  generalize hb : (fun (x : SV) (h : SH) => match store t x (wipeE env own) with
    | none => Res.bad
    | some env2 => (ev p elt env2 h).bind fun y h => Res.ok (some y) h) = body at s2
  have hs : ∀ i ∈ slots t, i ∈ own := by
    intro i hi
    have := List.all_eq_true.mp hsl i hi
    simpa using this
  cases hc : compF body xs h1 with
  | bad => rw [hc] at s2; exact s2.elim
  | err c v h => exact absurd hc compF_noerr
  | ok r hend =>
    rw [hc] at s2
    have s3 : SemR X.K X.mg (mkL c r hend) H1 M1 (WE W σ) fun v _ H' M' => ∀ x, Rep X.K H' M' v x → Q x H' := by
      have s1' : SemR X.K X.mg ((compF body xs h1).bind fun r h => mkL c r h) H1 M1 (WE W σ) fun v _ H' M' => ∀ x, Rep X.K H' M' v x → Q x H' := by
        rw [← hb]
        exact s1
      rw [hc] at s1'
      exact s1'
    refine lc_go hs ?_ (at_.go e1 r1).rs r1 sn hc s3
    intro v hc0 o h' eb
    rw [← hb] at eb
    simp only at eb
    cases es : store t v (wipeE env own) with
    | none => rw [es] at eb; cases eb
    | some env2 =>
      rw [es] at eb
      simp only at eb
      cases ee : ev p elt env2 hc0 with
      | bad => rw [ee] at eb; cases eb
      | err c v h => rw [ee] at eb; cases eb
      | ok y h2 =>
        rw [ee] at eb
        cases eb
        refine ⟨env2, rfl, ?_⟩
        intro σ2 H3 M3 Qs Qn rs rh hQ _
        show (if true = true then SE' X p W0 elt σ2 H3 Qs else Qn H3)
        rw [if_pos rfl]
        refine ⟨env2, hc0, M3, ⟨rs, rh⟩, ?_⟩
        rw [ee]
        exact fun H5 M5 e5 r5 yv ry => hQ y rfl H5 M5 e5 r5 yv ry
theorem compIf_imp {p : Pr} {c : Bool} {elt cd : CE} {t : CT} {it : CI} {own : List Nat} (hsl : (slots t).all (fun i => own.contains i) = true) {σ : L2.St} {H : Hp} {Q : VK} (q : SE' X p W (.compIf c elt t it cd own) σ H Q) :
    tLc (SI X p W it) (SG X.K t) (ST X p W0 cd) (SE' X p W0 elt) own σ H Q := by
  obtain ⟨env, h, M, at_, s⟩ := q
  refine ⟨env, h, M, at_, s.bind.mono ?_⟩
  intro xs h1 H1 M1 e1 r1 s1 J sn
  generalize hb : (fun (x : SV) (h : SH) => match store t x (wipeE env own) with
    | none => Res.bad
    | some env2 => (evT p cd env2 h).bind fun b h => if b = true then (ev p elt env2 h).bind fun y h => Res.ok (some y) h else Res.ok none h) = body at s1
  have hs : ∀ i ∈ slots t, i ∈ own := by
    intro i hi
    have := List.all_eq_true.mp hsl i hi
    simpa using this
  cases hc : compF body xs h1 with
  | bad => rw [hc] at s1; exact s1.elim
  | err c v h => exact absurd hc compF_noerr
  | ok r hend =>
    rw [hc] at s1
    refine lc_go hs ?_ (at_.go e1 r1).rs r1 sn hc s1
    intro v hc0 o h' eb
    rw [← hb] at eb
    simp only at eb
    cases es : store t v (wipeE env own) with
    | none => rw [es] at eb; cases eb
    | some env2 =>
      rw [es] at eb
      simp only at eb
      cases et : evT p cd env2 hc0 with
      | bad => rw [et] at eb; cases eb
      | err c v h => rw [et] at eb; cases eb
      | ok b h2 =>
        rw [et] at eb
        simp only [Res.bind_ok] at eb
        refine ⟨env2, rfl, ?_⟩
        intro σ2 H3 M3 Qs Qn rs rh hQ hN
        refine ⟨env2, hc0, M3, ⟨rs, rh⟩, ?_⟩
        rw [et]
        intro H4 M4 e4 r4
        cases b with
        | true =>
          rw [if_pos rfl] at eb ⊢
          cases ee : ev p elt env2 h2 with
          | bad => rw [ee] at eb; cases eb
          | err c v h => rw [ee] at eb; cases eb
          | ok y h3 =>
            rw [ee] at eb
            cases eb
            refine ⟨env2, h2, M4, ⟨rs.mono e4, r4⟩, ?_⟩
            rw [ee]
            exact fun H5 M5 e5 r5 yv ry => hQ y rfl H5 M5 (e4.trans e5) r5 yv ry
        | false =>
          cases eb
          exact hN rfl H4 M4 e4 r4
/-- a block of a comprehension -/
theorem Gd.blk (g : Gd X T S d N sc W) (s : Shared) (H : Hp) (scope : Scope) (C : Addr) (cl : List (Str × Addr)) (fp : List Addr) : Gd (X.blk s H scope (compEnvC scope cl C X.env) fp) T S d N (relS scope sc) W0 :=
  ⟨g.hN, by rw [← g.hsc]; rfl, g.nd, g.calm, g.room, g.guards, takes0, g.fs, g.free, g.globs, g.funs⟩
theorem sto_blk (g : Gd X T S d N sc W) (s : Shared) (H : Hp) (scope : Scope) (C : Addr) (cl : List (Str × Addr)) (fp : List Addr) : Sto (X.blk s H scope (compEnvC scope cl C X.env) fp) (relS scope sc) (some scope) := by
  intro x h
  have h' : locB scope x = true := h
  unfold locB at h'
  have hk : ∀ k, k ≠ NameKind.free → scope.names.lookup x = some k → (compEnvC scope cl C X.env).scope.names.lookup x = some k := fun k hk e => lookup_relS_keep hk e
  split at h'
  · rename_i e
    exact ⟨.inl (hk _ (by decide) e), .inr (hk _ (by decide) e)⟩
  · rename_i e
    refine ⟨.inr (hk _ (by decide) e), .inl ?_⟩
    show (scope.names.lookup x == some .cell) = true
    rw [e]
    rfl
  · cases h'
theorem fold_plain {x : Expr} (h : plainE x = true) : ∀ v, foldedSetIterable x X.env v = pure v := by
  intro v
  cases x <;> first | rfl | cases h
end
end Ws
end

section
set_option Elab.async false
set_option linter.all false
set_option maxRecDepth 100000
set_option autoImplicit false
/-! Dicts with tuple keys, and what else came later: holds of the machine. -/
namespace Ws
open PySem PySem.Spec PyProof.Rows L2

/-! ### t[::-1] -/
section
variable {prog : Program} {w : World} {A : Around} {E : Value → Shared → Prop} {s : Shared}
theorem adjust_rev (n : Nat) : Builtin.Slice.sliceAdjust none none (-1) (n : Int) = ((n : Int) - 1, -1) := by
  unfold Builtin.Slice.sliceAdjust
  simp
theorem places_rev (n : Nat) : Builtin.Slice.slicePlaces ((n : Int) - 1) (-1) (-1) = n := by
  unfold Builtin.Slice.slicePlaces
  rw [if_neg (by decide)]
  by_cases h : n = 0
  · subst h
    rfl
  · rw [if_pos (by omega)]
    have : (((n : Int) - 1 - -1 - 1) / -(-1) + 1) = (n : Int) := by
      rw [show -(-1 : Int) = 1 from rfl, Int.ediv_one]
      omega
    rw [this]
    exact Int.toNat_natCast n
theorem filterMap_same {α β : Type} {f g : α → Option β} : ∀ {l : List α}, (∀ x ∈ l, f x = g x) → l.filterMap f = l.filterMap g
  | [], _ => rfl
  | x :: l, h => by
    rw [List.filterMap_cons, List.filterMap_cons, h x List.mem_cons_self, filterMap_same fun y hy => h y (List.mem_cons_of_mem _ hy)]
theorem pick_rev (xs : Array Value) : ((List.range xs.size).filterMap fun (m : Nat) => xs[((xs.size : Int) - 1 + (m : Int) * (-1)).toNat]?) = xs.toList.reverse := by
  obtain ⟨l⟩ := xs
  show ((List.range l.length).filterMap fun (m : Nat) => (l.toArray)[((l.length : Int) - 1 + (m : Int) * (-1)).toNat]?) = l.reverse
  have e : ∀ m ∈ List.range l.length, (l.toArray)[((l.length : Int) - 1 + (m : Int) * (-1)).toNat]? = l.reverse[m]? := by
    intro m hm
    have hm' := List.mem_range.mp hm
    have q : ((l.length : Int) - 1 + (m : Int) * (-1)).toNat = l.length - 1 - m := by omega
    rw [q, List.getElem?_toArray, List.getElem?_reverse hm']
  rw [filterMap_same e]
  have r := l.reverse.length_reverse
  have : ∀ ys : List Value, (List.range ys.length).filterMap (fun m => ys[m]?) = ys := by
    intro ys
    induction ys with
    | nil => rfl
    | cons y ys ih =>
      rw [List.length_cons, List.range_succ_eq_map, List.filterMap_cons]
      simp only [List.getElem?_cons_zero]
      rw [List.filterMap_map]
      congr 1
  have z := this l.reverse
  rw [List.length_reverse] at z
  exact z
theorem applied_rev {sl : Addr} {vl vu vs : Value} {n : Nat} {Q : Int × Int × Nat → Shared → Prop} (hs : s.heap.IsSliceOf sl vl vu vs) (pl : IsPart vl none) (pu : IsPart vu none) (ps : IsPart vs (some (-1)))
    (h : Q ((n : Int) - 1, -1, n) s) : wpAny (model prog w) A (Builtin.Slice.sliceApplied (.ref sl) (pure (n : Int))) Q E s := by
  obtain ⟨os, hos, hcs, hds⟩ := id hs
  unfold Builtin.Slice.sliceApplied Builtin.Slice.sliceFields
  refine wpAny_bind (wpAny_bind (wpAny_field hos hds (x := vl) rfl (wpAny_bind (wpAny_field hos hds (x := vu) rfl (wpAny_bind (wpAny_field hos hds (x := vs) rfl (wpAny_pure ?_)))))))
  refine wpAny_bind (HT.slicePart_ ps ?_)
  show wpAny _ _ (if ((-1 : Int) == 0) = true then _ else _) _ _ s
  rw [if_neg (by decide)]
  refine wpAny_bind (HT.slicePart_ pl (wpAny_bind (HT.slicePart_ pu (wpAny_bind (wpAny_pure ?_)))))
  show wpAny _ _ (match Builtin.Slice.sliceAdjust none none (-1) (n : Int) with | (lo, hi) => pure (lo, (-1 : Int), Builtin.Slice.slicePlaces lo hi (-1))) _ _ s
  rw [adjust_rev n]
  show wpAny _ _ (pure ((n : Int) - 1, (-1 : Int), Builtin.Slice.slicePlaces ((n : Int) - 1) (-1) (-1))) _ _ s
  rw [places_rev]
  exact wpAny_pure h
theorem getItem_tuple_rev {t sl : Addr} {items : Array Value} {vl vu vs : Value} {Q : Value → Shared → Prop} (ht : IsTup s.heap t items) (hs : s.heap.IsSliceOf sl vl vu vs) (pl : IsPart vl none) (pu : IsPart vu none) (ps : IsPart vs (some (-1)))
    (h : Q (.ref s.heap.objs.size) { s with heap := s.heap.push { cls := .type "tuple", data := .seq items.toList.reverse.toArray } })
    (hsz : items.size ≤ sizeLine) : wpAny (model prog w) A (getItem (.ref t) (.ref sl)) Q E s := by
  have room : sizeOk (.seq items.toList.reverse.toArray) := by
    show items.toList.reverse.toArray.size ≤ sizeLine
    rw [List.size_toArray, List.length_reverse, Array.length_toList]
    exact hsz
  obtain ⟨os, hos, hcs, hds⟩ := id hs
  have hTs : s.TypeIs (.ref sl) "slice" := ⟨os, hos, hcs⟩
  unfold getItem
  try with_reducible refine wpAny_holding ?_
  first | refine wpAny_bind (wpAny_pure ?_) | skip
  refine wpAny_bind (wpAny_sequenceKey ht.typeIs (by decide) ?_)
  refine wpAny_bind (wpAny_callSpecial?_slot (name := Str.ofString "__getitem__") ht.typeIs PyProof.Rows.slot_tuple_getitem
    (wpAny_call_entry PyProof.Rows.slot_tuple_getitem ht.typeIs entry_tuple_getitem ?_ (args_tuple_getitem _ _)))
  show wpAny _ _ (Builtin.Tuple.tupleItemsOf (.ref t) >>= _) _ _ s
  refine wpAny_bind (PyProof.Rows.tupleItemsOf_ ht ?_)
  refine wpAny_bind (wpAny_typeOf hTs ?_)
  rw [if_pos (by decide)]
  refine wpAny_bind (applied_rev hs pl pu ps ?_)
  show wpAny _ _ (if (((items.size : Int) - 1) == 0 && (-1 : Int) == 1 && items.size == items.size) = true then _ else _) _ _ s
  rw [if_neg (by simp)]
  rw [pick_rev]
  first
    | exact wpAny_bind (m := Builtin.Tuple.tupleExact _) (wpAny_newObj_type (wpAny_pure ⟨_, rfl, wpAny_pure h⟩) room)
    | exact wpAny_bind (m := Builtin.Tuple.tupleExact _) (wpAny_newObj_type (wpAny_bind (wpAny_pure (wpAny_pure ⟨_, rfl, wpAny_pure h⟩))) room)
    | exact wpAny_bind (wpAny_bind (m := Builtin.Tuple.tupleExact _) (wpAny_newObj_type (wpAny_pure (wpAny_pure ⟨_, rfl, wpAny_pure h⟩)) room))
    | exact wpAny_bind (wpAny_bind (m := Builtin.Tuple.tupleExact _) (wpAny_newObj_type (wpAny_pure ⟨_, rfl, wpAny_pure h⟩) room))
end
def tRevT (K : PySem.W.Frag) (te : TE) : TE := fun σ H Q => te σ H fun x H1 => ∃ a xs, x = .ref a ∧ SqT K H1 a xs ∧ ∀ p, H1 p = none → Q (.ref p) (upd H1 p (.tup xs.reverse))
theorem pe_revT {X : Cx} {e : Expr} {te : TE} {k : Nat} {p1 p2 p3 pos : Pos} (he : PE X e te) : PE X (.Subscript e (.Slice none none (some (.UnaryOp .USub (.Constant (.int 1) k p1) p2)) p3) pos) (tRevT X.K te) := by
  refine ⟨fun pins s σ H Q I h => ?_⟩
  refine Subscript_ (thn (he.run pins s σ H _ I h) fun v s1 ⟨x, H1, I1, r1, q1⟩ => ?_)
  obtain ⟨a, xs, rfl, hx, q⟩ := q1
  cases r1
  have minus : PO X (some (.UnaryOp .USub (.Constant (.int 1) k p1) p2)) (tPart (tUn (rU fun i => .int (-i)) (tC (.int 1)))) := po_some (pe_un un_neg pe_int)
  refine wpAny_Slice (thn (po_none.run pins s1 σ H1 (fun o H2 => o = none ∧ H2 = H1) I1 ⟨rfl, rfl⟩) fun vl s2 ⟨l, H2, I2, pl, el, e2⟩ => ?_)
  subst el e2
  refine thn (po_none.run pins s2 σ H2 (fun o H3 => o = none ∧ H3 = H2) I2 ⟨rfl, rfl⟩) fun vu s3 ⟨u, H3, I3, pu, eu, e3⟩ => ?_
  subst eu e3
  refine thn (minus.run pins s3 σ H3 (fun o H4 => o = some (-1) ∧ H4 = H3) I3 ⟨1, rfl, -1, rfl, rfl, rfl⟩) fun vs s4 ⟨o, H4, I4, ps, eo, e4⟩ => ?_
  subst eo e4
  have I5 : Inv X pins σ H4 { s4 with heap := s4.heap.push { cls := .type "slice", data := .fields #[vl, vu, vs] } } := I4.kept (t' := s4.toks) fun b ob q => Heap.get?_push_of_some _ q
  obtain ⟨its, r, ht, hz⟩ := I5.tuple hx
  have hlen := r.length
  show wpAny (model X.prog X.w) X.A (subscriptTail e (.Slice none none (some (.UnaryOp .USub (.Constant (.int 1) k p1) p2)) p3) (.ref a) (.ref s4.heap.objs.size)) (EP X pins σ Q) X.xe _
  refine tail_any (ops := [.ref a, .ref s4.heap.objs.size]) ht.typeIs PyProof.Rows.slot_tuple_getitem.lookup ?_ (by with_unfolding_all rfl)
  refine getItem_tuple_rev ht (Heap.IsSliceOf.new _ vl vu vs) pl pu ps ?_ (by rw [List.size_toArray]; omega)
  refine ⟨.ref _, _, I5.laid (t' := s4.toks) (o := .tup xs.reverse) (fun b ob q => Heap.get?_push_of_some _ q) (Nat.le_refl _) ?_, rfl, q _ (I5.hok.fresh (Nat.le_refl _))⟩
  exact ⟨by rw [List.length_reverse]; exact hz, _, r.reverse, IsTup.new _ _⟩

/-! ### as the interpreter says it -/
section
variable {X : Cx} {p : Pr} {W : WX}
theorem e_rev {e : CE} {x : Expr} {k : Nat} {p1 p2 p3 pos : Pos} (he : PE X x (SE' X p W e)) : PE X (.Subscript x (.Slice none none (some (.UnaryOp .USub (.Constant (.int 1) k p1) p2)) p3) pos) (SE' X p W (.rev e)) := by
  refine (pe_revT he).imp ?_
  rintro σ H Q ⟨env, h, M, at_, s⟩
  refine ⟨env, h, M, at_, s.bind.mono ?_⟩
  intro v h1 H1 M1 e1 r1 s1 x rx
  cases v with
  | tup xs =>
    obtain ⟨a, vs, rfl, t, l⟩ := rx.tup_inv
    exact ⟨a, vs, rfl, t.sq, fun q hq => Give.tup (Q := Q) s1 r1 l.reverse q hq⟩
  | _ => exact s1.elim
theorem isDc_rep {v : SV} {x : V} {h : SH} {H : Hp} {M : Ms} (r : RH X.K H M h) (rv : Rep X.K H M v x) (e : isDc h v = true) : ∃ a, x = .ref a ∧ IsD H a := by
  cases v with
  | ref n =>
    obtain ⟨a, rfl, hm⟩ := rv.ref_inv
    obtain ⟨o, u, e1, e2, e3⟩ := r.cell hm
    simp only [isDc, e1] at e
    cases e3 with
    | lst _ => cases e
    | dK _ => exact ⟨a, rfl, .inl ⟨_, .inl e2⟩⟩
    | dT _ => exact ⟨a, rfl, .inr ⟨_, .inl e2⟩⟩
    | dF _ => exact ⟨a, rfl, .inr ⟨_, .inr ⟨_, e2⟩⟩⟩
  | _ => cases e
theorem e_get {o k d : CE} {x y z : Expr} {apos cpos : Pos} (hu : X.A.units + 1 < cLine) (hx : attrB x = true) (hl : (apos.endLine == cpos.line) = true) (py : plainE y = true) (pz : plainE z = true)
    (ho : PE X x (SE' X p W o)) (hk : PE X y (SE' X p W k)) (hd : PE X z (SE' X p W d)) : PE X (.Call (.Attribute x "get" apos) [y, z] [] cpos) (SE' X p W (.get o k d)) := by
  have hb : attributeBase x "get" X.env (eval x X.env) = eval x X.env := by cases x <;> first | rfl | cases hx
  have sy := star_plain (r := [z]) (env := X.env) py
  have sz := star_plain (r := []) (env := X.env) pz
  refine (pe_dget2 hu ho hk hd ⟨hb, ?_, hl, ?_⟩).imp ?_
  · rw [sy, sz]
    rfl
  · rw [sy, sz]
    rfl
  rintro σ H Q ⟨env, h, M, at_, s⟩
  refine ⟨env, h, M, at_, s.bind.mono ?_⟩
  intro v h1 H1 M1 e1 r1 s1 x rx
  split at s1
  · rename_i c
    obtain ⟨a, rfl, hD⟩ := isDc_rep r1 rx c
    refine ⟨a, rfl, hD, env, h1, M1, at_.go e1 r1, s1.bind.mono ?_⟩
    intro w h2 H2 M2 e2 r2 s2 y ry
    refine ⟨env, h2, M2, (at_.go e1 r1).go e2 r2, s2.bind.mono ?_⟩
    intro u h3 H3 M3 e3 r3 s3 z rz
    obtain ⟨g, eg, s4⟩ := s3.ofO
    obtain ⟨b, o, eb, _, dg, rg⟩ := getV_rep r3 ((rx.mono e2).mono e3) (ry.mono e3) rz eg
    cases eb
    exact ⟨o, dg, s4.here r3 _ rg⟩
  · exact s1.elim
end

/-! ### {k: v}, the key a tuple -/
def tDisT (tk tv : TE) : TE := fun σ H Q => ∀ d, H d = none → tk σ (upd H d (.dT [])) fun x H1 => tv σ H1 fun y H2 => H2 d = some (.dT []) ∧ ∃ (k : List Key) (b : Addr), x = .ref b ∧ H2 b = some (.tup (k.map kV)) ∧ Q (.ref d) (upd H2 d (.dT [(k, y)]))
theorem pe_disT {X : Cx} {pos : Pos} {k v : Expr} {tk tv : TE} (hu : X.A.units + 1 < cLine) (hk : PE X k tk) (hv : PE X v tv) : PE X (.Dict [some k] [v] pos) (tDisT tk tv) := by
  refine ⟨fun pins s σ H Q I q => ?_⟩
  have hn := I.hok.fresh (Nat.le_refl s.heap.objs.size)
  have I1 := I.laid (a := s.heap.objs.size) (o := .dT []) (h' := s.heap.push { cls := .type "dict", data := .dict #[] }) (t' := s.toks) (fun _ _ q => Heap.get?_push_of_some _ q) (Nat.le_refl _) (dt_empty s.heap I.big)
  have len := pairTrees_length [some k] [v] X.env pos rfl rfl
  have ne : pairTrees [some k] [v] X.env pos ≠ [] := by
    intro e
    rw [e] at len
    cases len
  rw [arm_eval_Dict, zip_pairTrees [some k] [v] X.env pos rfl rfl, dictDisplay_pairs _ ne (by rw [len]; simp)]
  refine wpAny_bind (wpAny_standAt (wpAny_bind ?_))
  refine wpAny_subDictH (knd := tupleKind (mixKind X.prog X.w)) (Q := fun d s' => wpAny (model X.prog X.w) X.A (pure (Value.ref d)) (EP X pins σ Q) X.xe s') (show X.A.units < cLine by omega) (by rw [len]; simp) ?_
  refine pairTrees_cons_walk (thn (hk.run pins _ σ _ _ I1 (q _ hn)) fun u s1 ⟨x, H1, I2, rx, q1⟩ => thn (hv.run pins s1 σ H1 _ I2 q1) fun w2 s2 ⟨y, H2, I3, ry, hd, key, b, ex, hb, q2⟩ => ?_)
  refine pairTrees_nil_walk ?_
  subst ex
  obtain rfl : u = Value.ref b := rx
  obtain ⟨z, hs, xs, rel, dd⟩ := dt_of I3.hok hd
  cases rel
  refine ⟨[(key, b, w2)], ⟨rfl, rfl, key_of I3.hok hb, trivial⟩, dd, fun h' tk dd' sb => wpAny_pure ⟨.ref s.heap.objs.size, _, ?_, rfl, q2⟩⟩
  obtain ⟨o, es, ep, ho, h2, h3, h4, _, h5⟩ := dd'
  refine d_write I3 (by rw [hd]; exact True.intro) sb ⟨o, ho⟩ ⟨by rw [sizeLine_eq]; simp, hs, [(key, b, w2)], .cons ⟨rfl, ?_, ry⟩ .nil, o, es, ep, ho, h2, h3, h4, h5⟩
  exact (upd_ne (L2.ne_of hb hd (fun z => nomatch z))).trans hb
section
variable {X : Cx} {p : Pr} {W : WX}
theorem cell_new {h : SH} {H : Hp} {M : Ms} {D : Addr} {u : HO} {o : SO} {E : XK} {Q : VK} {σ : L2.St} (s : SemR X.K X.mg (.ok (SV.ref h.length) (h ++ [o])) H M E fun v _ H' M' => ∀ x, Rep X.K H' M' v x → Q x H')
    (rh : RH X.K H M h) (hD : H D = none) (ho : RepO X.K H M o u) : Q (.ref D) (upd H D u) := by
  refine s _ ⟨M.c ++ [D], M.b⟩ (Evo.cell rh hD) (RH.cellNew rh hD ho) _ (.ref ?_)
  show (M.c ++ [D])[h.length]? = _
  rw [rh.len, List.getElem?_append_right (Nat.le_refl _), Nat.sub_self]
  rfl
theorem e_dictT0 {pos : Pos} : PE X (.Dict [] [] pos) (SE' X p W (.dictT .nil)) := by
  refine pe_dnewT.imp ?_
  rintro σ H Q ⟨env, h, M, at_, s⟩
  intro D hD
  exact cell_new (σ := σ) s at_.rh hD (.dT .nil)
theorem e_dictT1 {k v : CE} {x y : Expr} {pos : Pos} (hu : X.A.units + 1 < cLine) (hk : PE X x (SE' X p W k)) (hv : PE X y (SE' X p W v)) : PE X (.Dict [some x] [y] pos) (SE' X p W (.dictT (.cons k (.cons v .nil)))) := by
  refine (pe_disT hu hk hv).imp ?_
  rintro σ H Q ⟨env, h, M, at_, s⟩
  intro D hD
  have hDc := at_.rh.fresh hD
  have hDb := at_.rh.freshB hD
  have s1 := (s.bind).begin_ (u := .dT []) at_.rh hD
  have a0 : At X.K env h ⟨M.c, D :: M.b⟩ σ (upd H D (.dT [])) := ⟨at_.rs.ext ⟨fun _ _ => Fz.begin_ at_.rh hD, (Evo.begin_ at_.rh hD).tup, (Evo.begin_ at_.rh hD).frz, fun _ _ => id⟩, at_.rh.begin_ hD⟩
  refine ⟨env, h, _, a0, s1.bind.mono ?_⟩
  intro kv h1 H1 M1 e1 r1 s2 x rx
  have eq2 : ((evs p (.cons v .nil) env h1).bind fun xs h => Res.ok (kv :: xs) h) = (ev p v env h1).bind fun y h => .ok [kv, y] h := by
    simp only [evs]
    cases ev p v env h1 <;> rfl
  rw [eq2] at s2
  refine ⟨env, h1, M1, a0.go e1 r1, s2.bind.mono ?_⟩
  intro vv h2 H2 M2 e2 r2 s4 y ry
  obtain ⟨eq, hb, hD2, ev2⟩ := s4.here r2
  have s5 : SemR X.K X.mg ((evs p (.cons k (.cons v .nil)) env h).bind fun xs h => match xs with
    | [] => .ok (.ref h.length) (h ++ [.dtt []])
    | [k, v] => if k.flatT = true then .ok (.ref h.length) (h ++ [.dtt [(k, v)]]) else .bad
    | _ => .bad) H M (WE W σ) fun v _ H' M' => ∀ x, Rep X.K H' M' v x → Q x H' := s
  rw [eq] at s5
  simp only [Res.bind_ok] at s5
  refine ⟨hD2, ?_⟩
  split at s5
  · rename_i hf
    obtain ⟨ks, q, b, rfl, hq, rfl, hbb⟩ := key_at hf (rx.mono e2)
    refine ⟨q, b, rfl, hbb, ?_⟩
    obtain ⟨mc, mb⟩ := M2
    have hb' : mb = D :: M.b := hb
    subst hb'
    have nl : NoLk (H2 D) := .dT hD2
    have gz : ∀ a u, Fz H2 ⟨mc, D :: M.b⟩ a u → Fz (upd H2 D (.dT [(q, y)])) ⟨mc ++ [D], M.b⟩ a u := fun a u z => Fz.endCell (Fz.grow (M := ⟨mc, []⟩) z)
    have rt : RepT X.K (upd H2 D (.dT [(q, y)])) ⟨mc ++ [D], M.b⟩ [(.tup ks, vv)] [(q, y)] := .cons hq (ry.map gz (fun _ _ z => nl.tupE z) (fun _ _ => get_app)) .nil
    refine s5 _ ⟨mc ++ [D], M.b⟩ (Evo.endCell hD hDc hDb (Evo.grow (Md := ⟨mc, []⟩) hD hDb nl ev2)) (RH.endCell (RH.grow (M := ⟨mc, []⟩) r2 nl) hDb upd_same (.dT rt)) _ (.ref ?_)
    show (mc ++ [D])[h2.length]? = _
    have len : h2.length = mc.length := r2.len
    rw [len, List.getElem?_append_right (Nat.le_refl _), Nat.sub_self]
    rfl
  · exact s5.elim
end
end Ws
end

section
set_option Elab.async false
set_option linter.all false
set_option maxRecDepth 100000
set_option autoImplicit false
/-! the pairs of a dict with tuple keys, walked -/
namespace Ws
open PySem PySem.Spec PyProof.Rows L2

/-- the pairs of the locked dict at d, each a new tuple; the keys' own tuples in them -/
def Itit (d : Addr) (o : Obj) (kvs : List (List Key × V)) : It :=
  ⟨fun i H => H d = some (.frz o (.dT kvs)) ∧ i < kvs.length,
   fun i H x H' => ∃ T k v q, kvs[i]? = some (k, v) ∧ x = .ref T ∧ H T = none ∧ H q = some (.tup (k.map kV)) ∧ H' = upd H T (.tup [.ref q, v]),
   fun i H => H d = some (.frz o (.dT kvs)) ∧ kvs.length ≤ i⟩
section
variable {X : Cx} {pins : List (Addr × Obj)} {σ : L2.St} {H : Hp} {s : Shared} {d : Addr} {o : Obj}
/-- a locked dict, with its values -/
theorem frzT_all {kvs : List (List Key × V)} (I : Inv X pins σ H s) (h : H d = some (.frz o (.dT kvs))) :
    (d == sysModules) = false ∧ ∃ (es : Array DictEntry) (ep : Nat), o.data = .dict es ep ∧ DT.Raw s.heap d es ep ∧ es.size = kvs.length ∧
      ∀ (i : Nat) (k : List Key) (v : V), kvs[i]? = some (k, v) → ∃ (en : DictEntry) (q : Addr), es[i]? = some en ∧ en.key = .ref q ∧ H q = some (.tup (k.map kV)) ∧ RelV v en.val := by
  obtain ⟨hd, z, hs, xs, pr, o', es, ep, ho, hx, hdt, he, _⟩ := I.hok d _ h
  rw [hd] at ho
  cases ho
  refine ⟨hs, es, ep, hdt, ⟨o, hd, hx, hdt⟩, ?_, fun i k v e => ?_⟩
  · have l1 := size_of_entries he
    have l2 := Paired.length pr
    omega
  · obtain ⟨b, hb, e1, e2, e3⟩ := paired_get pr e
    have q := entry_at he i
    rw [hb] at q
    exact ⟨_, b.2.1, q, rfl, e2, e3⟩
end
theorem data_ep {o : Obj} {es es' : Array DictEntry} {ep ep' : Nat} (h : o.data = .dict es ep) (h' : o.data = .dict es' ep') : es' = es ∧ ep' = ep := by
  rw [h] at h'
  cases h'
  exact ⟨rfl, rfl⟩
theorem turn_itT {P : Program} {w : World} {K : PySem.W.Frag} {d : Addr} {o : Obj} {es : Array DictEntry} {ep : Nat} {kvs : List (List Key × V)} {elts : List Expr} {kk : Nat} {tpos : Pos} (it : Addr) (hod : o.data = .dict es ep) :
    Turn P w K (.Tuple elts kk tpos) (Itit d o kvs) [it] it (fun i h => ∃ ok ov, IsItemIter h it d i es.size ep ok ov) where
  mem := List.mem_singleton.mpr rfl
  obj := fun i h st b hb => by
    obtain rfl := List.mem_singleton.mp hb
    obtain ⟨_, _, e⟩ := st
    exact ⟨_, e, fun _ z => nomatch z⟩
  keep := fun i h h' st k => let ⟨ok, ov, e⟩ := st; ⟨ok, ov, k it (List.mem_singleton.mpr rfl) _ e⟩
  item := by
    intro X hP hw hK hc i pins s σ H E I hf st hg
    subst hP hw hK
    obtain ⟨lk, hi⟩ := hg
    obtain ⟨hs, es', ep', hdt, raw, sz, ent⟩ := frzT_all I lk
    obtain ⟨rfl, rfl⟩ := data_ep hod hdt
    have hkv : kvs[i]? = some (kvs[i].1, kvs[i].2) := List.getElem?_eq_getElem hi
    obtain ⟨en, q, hen, hkey, hq, rv⟩ := ent i _ _ hkv
    obtain ⟨ok, ov, he⟩ := st
    have il : it < s.heap.objs.size := Heap.lt_size he
    have lt : i < es'.size := by omega
    have een : es'[i] = en := Option.some.inj ((Array.getElem?_eq_getElem lt).symm.trans hen)
    refine DT.nextI he raw lt fun h' out tup sz' keep => ?_
    rw [een, hkey] at tup
    rw [een] at out
    refine ⟨_, rfl, wpAny_letOwnedTupleGo_items (s := { s with heap := h' }) out fun h'' he' sb => ?_⟩
    have t2 : h''.get? s.heap.objs.size = some { cls := .type "tuple", data := .seq #[.ref q, en.val] } := (sb.2 _ (Nat.ne_of_gt il)).trans tup
    have new : ObjOk X.prog X.w (upd H s.heap.objs.size (.tup [.ref q, kvs[i].2])) h'' s.heap.objs.size (.tup [.ref q, kvs[i].2]) :=
      ⟨by rw [sizeLine_eq]; simp, [.ref q, en.val], .cons (show RelV (.ref q) (.ref q) from rfl) (.cons rv .nil), ⟨_, t2, rfl, _, rfl⟩⟩
    have I1 : Inv X pins σ (upd H s.heap.objs.size (.tup [.ref q, kvs[i].2])) { s with heap := h'' } :=
      I.turnedNew (t' := s.toks) (ch := [it]) (fun b ob hb e => (sb.2 b (fun z => hb (List.mem_singleton.mpr z))).trans (keep b ob (fun z => hb (List.mem_singleton.mpr z)) e)) hf (Nat.le_refl _) new
    refine ⟨.ref s.heap.objs.size, _, I1, rfl, ⟨_, _, _, q, hkv, rfl, I.hok.fresh (Nat.le_refl _), hq, rfl⟩, ⟨_, _, he'⟩, fun b hb => ?_⟩
    obtain rfl := List.mem_singleton.mp hb
    rw [upd_ne (Nat.ne_of_lt il)]
    exact (hf _ (List.mem_singleton.mpr rfl)).1
  done := by
    intro X hP hw hK hc i pins s σ H E I hf st hg
    subst hP hw hK
    obtain ⟨lk, hi⟩ := hg
    obtain ⟨f0, f1, f2, f3, f4, f5⟩ := hf it (List.mem_singleton.mpr rfl)
    obtain ⟨hs, es', ep', hdt, raw, sz, ent⟩ := frzT_all I lk
    obtain ⟨rfl, rfl⟩ := data_ep hod hdt
    obtain ⟨ok, ov, he⟩ := st
    exact DT.endI (I.ok.hd hc) he raw (by omega) fun h' eb => ⟨rfl, I.turned (t' := s.toks) (fun b ob hb e => eb b ob hb e) f0 f1 f3 f4 f5⟩
  self := fun A i s Q E st h => let ⟨_, _, e⟩ := st; PySem.W.kcp_self e h

/-- the dict, locked where it is not yet -/
def Lkd (H : Hp) (d : Addr) (kvs : List (List Key × V)) (R : Obj → Hp → Prop) : Prop :=
  (H d = some (.dT kvs) ∧ ∀ o, R o (upd H d (.frz o (.dT kvs)))) ∨ ∃ o, H d = some (.frz o (.dT kvs)) ∧ R o H
theorem Lkd.go {X : Cx} {pins : List (Addr × Obj)} {σ : L2.St} {H : Hp} {s : Shared} {d : Addr} {kvs : List (List Key × V)} {R : Obj → Hp → Prop} (I : Inv X pins σ H s) (l : Lkd H d kvs R) : ∃ o H', Inv X pins σ H' s ∧ H' d = some (.frz o (.dT kvs)) ∧ R o H' := by
  rcases l with ⟨e, r⟩ | ⟨o, e, r⟩
  · obtain ⟨o, I1⟩ := I.lock e True.intro
    exact ⟨o, _, I1, upd_same, r o⟩
  · exact ⟨o, H, I, e, r⟩
def iItemsT (td : TE) : TI := fun σ H R => td σ H fun x H1 => ∃ d kvs, x = .ref d ∧ Lkd H1 d kvs fun o H2 => R (Itit d o kvs) H2
def iKeysT (td : TE) : TI := fun σ H R => td σ H fun x H1 => ∃ d kvs, x = .ref d ∧ Lkd H1 d kvs fun o H2 => R (Itkt d o kvs) H2
theorem pi_itemsT {X : Cx} {e : Expr} {td : TE} {apos cpos : Pos} {elts : List Expr} {kk : Nat} {tpos : Pos} (he : PE X e td) (hbase : attributeBase e "items" X.env (eval e X.env) = eval e X.env) (hline : (apos.endLine == cpos.line) = true) :
    PI X (.Tuple elts kk tpos) (.Call (.Attribute e "items" apos) [] [] cpos) (iItemsT td) := by
  refine ⟨fun pins s σ H R I h => ?_⟩
  refine wpAny_Call_method (T := "dict") (id := "dict.items") hbase rfl hline PySem.F.plainAttrs_dict PySem.F.slot_dict_items PySem.F.type_dict_items (thn (he.run pins s σ H _ I h) fun u s1 ⟨x, H1, I1, rx, d, kvs, ex, l⟩ => ?_)
  subst ex
  obtain rfl : u = Value.ref d := rx
  obtain ⟨o, H2, I2, lk, q⟩ := l.go I1
  obtain ⟨hs, es, ep, hdt, raw, sz, ent⟩ := frzT_all I2 lk
  have nod : ∀ b, Value.ref d = .ref b → ∃ ob, s1.heap.get? b = some ob ∧ ob.dict = none := fun b z => by
    cases z
    obtain ⟨ob, h1, h2, _⟩ := raw
    exact ⟨ob, h1, h2.2.1⟩
  refine ⟨raw.typeIs, nod, ?_⟩
  have I3 : Inv X pins σ H2 { s1 with heap := s1.heap.push { cls := .type "dict_items", data := .fields #[.ref d] } } := I2.kept (t' := s1.toks) fun b ob q => Heap.get?_push_of_some _ q
  have fin : wpAny (model X.prog X.w) X.A (pyIter (.ref s1.heap.objs.size)) (PIE X pins σ (.Tuple elts kk tpos) R) X.xe { s1 with heap := s1.heap.push { cls := .type "dict_items", data := .fields #[.ref d] } } :=
    DT.iterI (es := es) (ep := ep) ⟨_, Heap.get?_push_size _ rfl, rfl, rfl⟩ (raw.push _) (pi_one (tk := s1.toks) I3 _ (turn_itT _ hdt) ⟨.none, .none, Heap.get?_push_size _ rfl⟩ q)
  show wpAny _ _ (callWith cpos (.builtin "dict.items") [.ref d] [] []) _ X.xe s1
  exact method_meetsIn PySem.F.slot_dict_items PySem.F.entry_dict_items rfl (PySem.evalArgs_none ⟨rfl, raw.typeIs, PySem.F.args_dict_items_1 _, _, DT.meetsItems (es := es) (ep := ep) hs, ⟨raw, fin⟩⟩)
theorem pi_keysT {X : Cx} {tg e : Expr} {td : TE} (he : PE X e td) : PI X tg e (iKeysT td) := by
  refine ⟨fun pins s σ H R I h => ?_⟩
  refine thn (he.run pins s σ H _ I h) fun u s1 ⟨x, H1, I1, rx, d, kvs, ex, l⟩ => ?_
  subst ex
  obtain rfl : u = Value.ref d := rx
  obtain ⟨o, H2, I2, lk, q⟩ := l.go I1
  obtain ⟨hs, hgd, hx, es, ep, hdt, hsz, ent⟩ := I2.frzT lk
  refine iter_keys hs hgd hx hdt (pi_one (tk := s1.toks) I2 _ (turn_keysT _ hdt) ⟨_, Heap.get?_push_size _ rfl, rfl, ?_⟩ q)
  rw [hsz] <;> rfl

/-! ### as the interpreter says it -/
section
variable {K : PySem.W.Frag} {H : Hp} {M : Ms}
theorem RepT.get : ∀ {kvs : List (SV × SV)} {ps : List (List Key × V)} {i : Nat} {z : SV × SV}, RepT K H M kvs ps → kvs[i]? = some z → ∃ k q v, ps[i]? = some (q, v) ∧ z.1 = .tup k ∧ keysOf k = some q ∧ Rep K H M z.2 v
  | _, _, i, _, .nil, e => by simp at e
  | _, _, 0, _, .cons (k := k) (q := q) (v := v) hk r rs, e => by
    cases e
    exact ⟨k, q, v, rfl, rfl, hk, r⟩
  | _, _, i + 1, _, .cons hk r rs, e => by
    obtain ⟨k, q, v, h1, h2⟩ := RepT.get (i := i) rs (by simpa using e)
    exact ⟨k, q, v, by simpa using h1, h2⟩
theorem RepT.ext {H' : Hp} {M' : Ms} (e : Ext H M H' M') {kvs : List (SV × SV)} {ps : List (List Key × V)} (r : RepT K H M kvs ps) : RepT K H' M' kvs ps := r.map e.fz e.tup e.get
/-- a key's own tuple stands for the key -/
theorem key_back : ∀ {k : List SV} {q : List Key}, keysOf k = some q → RepL K H M k (q.map kV)
  | [], _, e => by cases e; exact .nil
  | x :: k, q, e => by
    obtain ⟨a, b, e1, e2, rfl⟩ := keysOf_cons e
    refine .cons ?_ (key_back e2)
    cases x with
    | int i => cases e1; exact .int i
    | str i => cases e1; exact .str i
    | _ => cases e1
theorem seen_itT {d : Addr} {o : Obj} {kvs : List (SV × SV)} {ps : List (List Key × V)} (lk : H d = some (.frz o (.dT ps))) (l : RepT K H M kvs ps) : Seen K (Itit d o ps) (kvs.map fun p => .tup [p.1, p.2]) H M := by
  have len : (kvs.map fun p : SV × SV => SV.tup [p.1, p.2]).length = ps.length := by rw [List.length_map, l.length]
  refine ⟨fun i H' M' e hi => ⟨e.frz _ _ _ lk, by rw [← len]; exact hi⟩, fun H' M' e => ⟨e.frz _ _ _ lk, by rw [len]; exact Nat.le_refl _⟩, fun i H' M' h x H'' v e rh hv y => ?_⟩
  obtain ⟨T, k, w, q, h1, rfl, hT, hq, rfl⟩ := y
  rw [List.getElem?_map] at hv
  obtain ⟨z, hz, rfl⟩ := Option.map_eq_some_iff.mp hv
  obtain ⟨ks, q2, w2, h2, hz1, hk, r⟩ := (l.ext e).get hz
  rw [h1] at h2
  cases h2
  rw [hz1]
  exact pair_new rh hT (.tup hq (key_back hk)) r
theorem seen_keyT {d : Addr} {o : Obj} {kvs : List (SV × SV)} {ps : List (List Key × V)} (lk : H d = some (.frz o (.dT ps))) (l : RepT K H M kvs ps) : Seen K (Itkt d o ps) (kvs.map (·.1)) H M := by
  have len : (kvs.map (·.1)).length = ps.length := by rw [List.length_map, l.length]
  refine ⟨fun i H' M' e hi => ⟨e.frz _ _ _ lk, by rw [← len]; exact hi⟩, fun H' M' e => ⟨e.frz _ _ _ lk, by rw [len]; exact Nat.le_refl _⟩, fun i H' M' h x H'' v e rh hv y => ?_⟩
  obtain ⟨rfl, k, w, q, h1, rfl, hq⟩ := y
  rw [List.getElem?_map] at hv
  obtain ⟨z, hz, rfl⟩ := Option.map_eq_some_iff.mp hv
  obtain ⟨ks, q2, w2, h2, hz1, hk, r⟩ := (l.ext e).get hz
  rw [h1] at h2
  cases h2
  rw [hz1]
  exact ⟨.refl, rh, .tup hq (key_back hk)⟩
/-- locked: the same but for the lock -/
theorem RH.lockD {h : SH} (r : RH K H M h) {n : Nat} {d : Addr} {kvs : List (SV × SV)} {ps : List (List Key × V)} (hm : M.c[n]? = some d) (e : H d = some (.dT ps)) (l : RepT K H M kvs ps) (o : Obj) :
    Evo H M (upd H d (.frz o (.dT ps))) M ∧ RH K (upd H d (.frz o (.dT ps))) M (h.set n (.ddf kvs)) :=
  ⟨Evo.write r (List.mem_of_getElem? hm) (.dT e), RH.write r hm (.dT e) (.dF l)⟩
end
section
variable {X : Cx} {p : Pr} {W : WX}
theorem lock_go {v : SV} {x : V} {h1 h2 : SH} {H1 : Hp} {M1 : Ms} {kvs : List (SV × SV)} {xs : List SV} {E : XK} {σ : L2.St} {R : It → Hp → Prop} {J : Addr → Obj → List (List Key × V) → It} (r1 : RH X.K H1 M1 h1) (rx : Rep X.K H1 M1 v x) (e : lockD v h1 = some (kvs, h2))
    (sn : ∀ (d : Addr) (o : Obj) (ps : List (List Key × V)) (H : Hp), H d = some (.frz o (.dT ps)) → RepT X.K H M1 kvs ps → Seen X.K (J d o ps) xs H M1)
    (s : SemR X.K X.mg (.ok xs h2) H1 M1 E fun xs _ H' M' => ∀ J, Seen X.K J xs H' M' → R J H') : ∃ d ps, x = .ref d ∧ Lkd H1 d ps fun o H2 => R (J d o ps) H2 := by
  cases v with
  | ref n =>
    obtain ⟨d, rfl, hm⟩ := rx.ref_inv
    obtain ⟨c, u, e1, e2, e3⟩ := r1.cell hm
    simp only [lockD, e1] at e
    cases e3 with
    | dT l =>
      rename_i ps
      cases e
      refine ⟨d, ps, rfl, .inl ⟨e2, fun o => ?_⟩⟩
      obtain ⟨ev, rh⟩ := r1.lockD hm e2 l o
      exact s _ M1 ev rh _ (sn d o ps _ upd_same (l.mono ev))
    | dF l =>
      rename_i ps o
      cases e
      exact ⟨d, ps, rfl, .inr ⟨o, e2, s.here r1 _ (sn d o ps _ e2 l)⟩⟩
    | lst _ => cases e
    | dK _ => cases e
  | _ => cases e
theorem i_items {e : CE} {x : Expr} {apos cpos : Pos} {elts : List Expr} {kk : Nat} {tpos : Pos} (hx : attrB x = true) (hl : (apos.endLine == cpos.line) = true) (he : PE X x (SE' X p W e)) :
    PI X (.Tuple elts kk tpos) (.Call (.Attribute x "items" apos) [] [] cpos) (SI X p W (.items e)) := by
  have hb : attributeBase x "items" X.env (eval x X.env) = eval x X.env := by cases x <;> first | rfl | cases hx
  refine (pi_itemsT he hb hl).imp ?_
  rintro σ H R ⟨env, h, M, at_, s⟩
  refine ⟨env, h, M, at_, s.bind.mono ?_⟩
  intro v h1 H1 M1 e1 r1 s1 x rx
  split at s1
  · rename_i kvs h2 el
    exact lock_go (σ := σ) r1 rx el (fun d o ps H lk l => seen_itT lk l) s1
  · exact s1.elim
theorem i_keys {e : CE} {tg x : Expr} (he : PE X x (SE' X p W e)) : PI X tg x (SI X p W (.keys e)) := by
  refine (pi_keysT he).imp ?_
  rintro σ H R ⟨env, h, M, at_, s⟩
  refine ⟨env, h, M, at_, s.bind.mono ?_⟩
  intro v h1 H1 M1 e1 r1 s1 x rx
  split at s1
  · rename_i kvs h2 el
    exact lock_go (σ := σ) r1 rx el (fun d o ps H lk l => seen_keyT lk l) s1
  · exact s1.elim
end
end Ws
end

section
set_option Elab.async false
set_option linter.all false
set_option maxRecDepth 100000
set_option autoImplicit false
/-! {k: v for target in iter if c}, the keys tuples -/
namespace Ws
open PySem PySem.Spec PyProof.Rows L2

section
variable {X : Cx}
/-- the store of one pair -/
theorem put_tup {pins : List (Addr × Obj)} {σ : L2.St} {H : Hp} {s : Shared} {E : Value → Shared → Prop} {D b : Addr} {kvs : List (List Key × V)} {k : List Key} {v : V} {r : Value} {Q : Unit → Shared → Prop} (hu : X.A.units + 1 < cLine) (I : Inv X pins σ H s)
    (hD : H D = some (.dT kvs)) (hb : H b = some (.tup (k.map kV))) (hz : kvs.length < sizeLine) (rv : RelV v r) (h : ∀ s', Inv X pins σ (upd H D (.dT (putK kvs k v))) s' → Q () s') : wpAny (model X.prog X.w) X.A (dictSet D (.ref b) r) Q E s := by
  obtain ⟨z, sm, xs, rel, dd⟩ := dt_of I.hok hD
  have lx : xs.length = kvs.length := (Paired.length rel).symm
  have lp := length_putK kvs k v
  refine wpAny_dictSet_heap (hsz := by omega) (show X.A.units < cLine by omega) (key_of I.hok hb) dd fun h' dd' sb => h _ ?_
  obtain ⟨o, es, ep, ho, h2, h3, h4, _, h5⟩ := dd'
  refine d_write I (by rw [hD]; exact True.intro) sb ⟨o, ho⟩ ⟨by omega, sm, _, (rel.put k hb rv).keeps fun c ys ec => ?_, o, es, ep, ho, h2, h3, h4, h5⟩
  exact (upd_ne (L2.ne_of ec hD (fun z => nomatch z))).trans ec
/-- D the new dict -/
def tDcT (wi : TI) (g : TG) (tt : TT) (tk tv : TE) (vs : List Nat) : TE := fun σ H Q => wi σ H fun J H1 => ∀ D, H1 D = none → ∃ W : Nat → Nat → Hp → Prop, (∃ m, W 0 m (upd H1 D (.dT []))) ∧ ∀ i m H, W i m H →
  (J.stop i H ∧ Q (.ref D) H) ∨ (J.go i H ∧ ∃ Nx : Hp → Prop, (∀ H', Nx H' → ∃ m', m' < m ∧ W (i + 1) m' H') ∧ ∀ x H', J.yld i H x H' → g x (L2.wipe σ vs) H' fun σ2 H2 => L2.wipe σ2 vs = L2.wipe σ vs ∧ tt σ2 H2 fun b H3 =>
    if b = true then tk σ2 H3 fun y H4 => tv σ2 H4 fun z H5 => ∃ kvs k b, y = .ref b ∧ H5 b = some (.tup (k.map kV)) ∧ H5 D = some (.dT kvs) ∧ kvs.length < sizeLine ∧ Nx (upd H5 D (.dT (putK kvs k z))) else Nx H3)
/-- what stands of a block at the address C -/
abbrev blkAt (X : Cx) (sc : Scope) (fp : List Addr) (s : Shared) (H : Hp) (C : Addr) (cl : List (Str × Addr)) : Cx := X.blk s H sc (compEnvC sc cl C X.env) fp
theorem dcT_core {pins : List (Addr × Obj)} {s : Shared} {σ : L2.St} {H : Hp} {Q : VK} {kx vx tg iter : Expr} {ifs : List Expr} {scope : Scope} {own : List (Str × Nat)} {pos pos' : Pos} {wi : TI} {g : TG} {tt : TT} {tk tv : TE} {use : Option (Value → Sem Unit)} {Qf : Value → Shared → Prop}
    (hu : X.A.units + 1 < cLine) (hc : X.calm = true) (hN : X.N.Nodup) (I : Inv X pins σ H s) (hi : PI X tg iter wi) (ok : BlkOk X.N X.env.scope scope own)
    (hg : ∀ s H C cl fp, PG (blkAt X scope fp s H C cl) tg g) (ht : ∀ s H C cl fp, PTs (blkAt X scope fp s H C cl) ifs tt) (hk : ∀ s H C cl fp, PE (blkAt X scope fp s H C cl) kx tk) (he : ∀ s H C cl fp, PE (blkAt X scope fp s H C cl) vx tv)
    (hs : ∀ x, foldedSetIterable iter X.env x = pure x) (h : tDcT wi g tt tk tv (own.map (·.2)) σ H Q)
    (back : ∀ D C s' m H', Inv X pins σ H' s' → Q (.ref D) H' → s'.heap.Ns C m → FpOk X pins H' C → compPost (model X.prog X.w) X.A X.xe use Qf (.ref D) C (.ok .next) s') :
    wpAny (model X.prog X.w) X.A (comprehension (.DictComp kx vx [⟨tg, iter, ifs, 0⟩] scope pos) scope X.env pos' newDict false (eval iter X.env) use) Qf X.xe s := by
  have cells : ∀ y ∈ scope.names, y.2 = .free → ∃ c, X.env.cells.lookup y.1 = some c := by
    intro y hy e
    rcases ok.free y hy e with k | k
    · exact I.ok.has _ (.inl k)
    · exact I.ok.has _ (.inr k)
  refine wpAny_comprehension_free (use := use) rfl hs (closure_ok cells) ok.kind (fun y hy e => by rw [ok.uniq y hy, e])
    (thn (hi.run pins s σ H _ I h) fun xv s1 hx => thn hx fun itv s2 h2 => ?_)
  obtain ⟨it, fp, tn, J, Ha, e, Ia, T, sta, fa, q⟩ := h2
  subst e
  refine wpAny_newObj_type (newEnv_comp ?_)
  -- the new dict
  generalize eD : s2.heap.objs.size = D
  have noD : Ha D = none := Ia.hok.fresh (Nat.le_of_eq eD)
  obtain ⟨W, ⟨m0, w0⟩, turn⟩ := q D noD
  generalize es3 : ({ s2 with heap := s2.heap.push { cls := .type "dict", data := .dict #[] } } : Shared) = s3
  have hp3 : s3.heap = s2.heap.push { cls := .type "dict", data := .dict #[] } := by rw [← es3]
  have Ib : Inv X pins σ (upd Ha D (.dT [])) s3 := by
    rw [← es3]
    refine Ia.laid (t' := s2.toks) (fun _ _ z => Heap.get?_push_of_some _ z) (Nat.le_of_eq eD) ?_
    rw [← eD]
    exact dt_empty s2.heap Ia.big
  have low : ∀ b ∈ fp, b < s2.heap.objs.size := fun b hb => let ⟨_, z, _⟩ := T.obj _ _ sta b hb; Heap.lt_size z
  have fb : ∀ b ∈ fp, FpOk X pins (upd Ha D (.dT [])) b ∧ b < s3.heap.objs.size := by
    intro b hb
    have lt := low b hb
    refine ⟨⟨?_, (fa b hb).2⟩, by rw [hp3, Heap.size_push]; exact Nat.lt_succ_of_lt lt⟩
    rw [upd_ne (by rw [← eD]; exact Nat.ne_of_lt lt)]
    exact (fa b hb).1
  have stb : tn 0 s3.heap := T.keep _ _ _ sta fun b _ o z => by rw [hp3]; exact Heap.get?_push_of_some _ z
  have Ic := block_start Ib ok hN fb
  have pg := hg s3 (upd Ha D (.dT [])) s3.heap.objs.size (cellsFrom (s3.heap.objs.size + 1) scope.names (cloFrom X.env.cells scope.names [])) fp
  have pt := ht s3 (upd Ha D (.dT [])) s3.heap.objs.size (cellsFrom (s3.heap.objs.size + 1) scope.names (cloFrom X.env.cells scope.names [])) fp
  have pk := hk s3 (upd Ha D (.dT [])) s3.heap.objs.size (cellsFrom (s3.heap.objs.size + 1) scope.names (cloFrom X.env.cells scope.names [])) fp
  have pv := he s3 (upd Ha D (.dT [])) s3.heap.objs.size (cellsFrom (s3.heap.objs.size + 1) scope.names (cloFrom X.env.cells scope.names [])) fp
  show codeAny _ _ (.compStart (.DictComp kx vx [⟨tg, iter, ifs, 0⟩] scope pos) 0 (.ref it) (.ref D) (compEnvC scope (cellsFrom (s3.heap.objs.size + 1) scope.names (cloFrom X.env.cells scope.names [])) s3.heap.objs.size X.env))
    (compPost (model X.prog X.w) X.A X.xe use Qf (.ref D) s3.heap.objs.size) { s3 with heap := pushCells (s3.heap.push { cls := .type "dict", data := .dict #[] }) scope.names }
  have fpn : ∀ b ∈ fp, (upd Ha D (.dT [])) b = none := fun b hb => (fb b hb).1.1
  unfold blkAt at pg pt pk pv
  generalize ece : compEnvC scope (cellsFrom (s3.heap.objs.size + 1) scope.names (cloFrom X.env.cells scope.names [])) s3.heap.objs.size X.env = ce at Ic pg pt pk pv ⊢
  have cl : ce.locals = s3.heap.objs.size := by subst ece; rfl
  generalize eHb : upd Ha D (.dT []) = Hb at Ib Ic pg pt pk pv w0 fpn fb
  generalize es4 : ({ s3 with heap := pushCells (s3.heap.push { cls := .type "dict", data := .dict #[] }) scope.names } : Shared) = s4 at Ic ⊢
  have st4 : tn 0 s4.heap := T.keep _ _ _ stb fun b _ o z => by rw [← es4]; exact pushCells_keeps _ _ _ _ (Heap.get?_push_of_some _ z)
  have still : ∀ {σ' : L2.St} {H' : Hp} {s' : Shared}, Inv (X.blk s3 Hb scope ce fp) [] σ' H' s' → (∀ b ∈ fp, H' b = none) → ∀ b ∈ fp, FpOk (X.blk s3 Hb scope ce fp) [] H' b := fun {σ' H' s'} I' hn b hb =>
    ⟨hn b hb, (I'.ok.exf b hb).1, I'.ok.exfs b hb, .inl hb, fun x c z => (I'.ok.exf b hb).2 x c z, fun p hp => absurd (show p ∈ ([] : List (Addr × Obj)) ++ [] from hp) (by simp)⟩
  have loop : codeAny (model X.prog X.w) X.A (.compLoop (.DictComp kx vx [⟨tg, iter, ifs, 0⟩] scope pos) 0 (.ref it) (.ref D) ce) (compPost (model X.prog X.w) X.A X.xe use Qf (.ref D) s3.heap.objs.size) s4 := by
    refine compLoop_anyD (fun n s' => ∃ i H', Inv (X.blk s3 Hb scope ce fp) [] (L2.wipe σ (own.map (·.2))) H' s' ∧ tn i s'.heap ∧ (∀ b ∈ fp, H' b = none) ∧ W i n H') ?_ m0 ⟨0, Hb, Ic, st4, fpn, w0⟩
    rintro n s5 ⟨i, H5, I5, st5, n5, w5⟩
    rcases turn i n H5 w5 with ⟨stop, qq⟩ | ⟨go, Nx, hNx, step⟩
    · refine thnF (T.done (X.blk s3 Hb scope ce fp) rfl rfl rfl hc i [] s5 _ H5 (fun _ _ => False) I5 (still I5 n5) st5 stop) fun r s6 ⟨hr, I6⟩ => ?_
      subst hr
      -- back outside
      have I7 : Inv X pins σ H5 s6 := Ib.call' (ch := fp) I6.os I6.base I6.hok I6.bare fun b hb => ⟨(fb b hb).1.2.2.2.1, (fb b hb).1.2.1, (fb b hb).1.2.2.2.2.1, (fb b hb).1.2.2.2.2.2⟩
      have nC : H5 s3.heap.objs.size = none := cl ▸ (show H5 ce.locals = none from I6.free)
      obtain ⟨m, hn, _⟩ := I6.loc
      have hn : s6.heap.Ns s3.heap.objs.size m := cl ▸ (show s6.heap.Ns ce.locals m from hn)
      exact back D s3.heap.objs.size s6 m H5 I7 qq hn (Ib.fpOk (Nat.le_refl _) nC)
    · refine thnF (T.item (X.blk s3 Hb scope ce fp) rfl rfl rfl hc i [] s5 _ H5 (fun _ _ => False) I5 (still I5 n5) st5 go) fun r s6 ⟨u, hr, h6⟩ => ?_
      subst hr
      refine thnF h6 fun _ s7 ⟨x, H7, I7, r7, y7, st7, n7⟩ => ?_
      have I7' := I7.pinned (still I7 n7) (T.obj _ _ st7)
      refine thnF (pg.run _ s7 _ H7 x u _ I7' r7 (step x H7 y7)) fun _ s8 ⟨σ8, H8, I8, hw8, q8⟩ => ?_
      refine thnF (pt.run _ s8 σ8 H8 _ I8 q8) fun b s9 ⟨H9, I9, q9⟩ => ?_
      have fin : ∀ {s' : Shared} {H' : Hp}, Inv (X.blk s3 Hb scope ce fp) ([] ++ pinsAt fp s7.heap) σ8 H' s' → Nx H' → ∃ m, m < n ∧ ∃ i H', Inv (X.blk s3 Hb scope ce fp) [] (L2.wipe σ (own.map (·.2))) H' s' ∧ tn i s'.heap ∧ (∀ b ∈ fp, H' b = none) ∧ W i m H' := by
        intro s' H' I' nx
        obtain ⟨m', hm, w'⟩ := hNx H' nx
        have pin : ∀ b ∈ fp, ∀ o, s7.heap.get? b = some o → s'.heap.get? b = some o ∧ H' b = none := fun b hb o z =>
          let y := I'.pin (b, o) (List.mem_append_right _ (List.mem_append_right _ (mem_pinsAt hb z)))
          ⟨y.1, y.2.1⟩
        have lw : (L2.wipe σ (own.map (·.2))).length = σ8.length := by rw [← hw8, wipe_length]
        refine ⟨m', hm, i + 1, H', (I'.unpinned (pins := [])).weak lw (fun j v z => ?_), T.keep _ _ _ st7 fun b hb o z => (pin b hb o z).1, fun b hb => ?_, w'⟩
        · rw [← hw8] at z
          exact (wipe_some z).1
        · obtain ⟨o, z, _⟩ := T.obj _ _ st7 b hb
          exact (pin b hb o z).2
      cases b with
      | false =>
        simp only [Bool.false_eq_true, if_false] at q9 ⊢
        exact fin I9 q9
      | true =>
        simp only [if_true] at q9 ⊢
        refine thnF (pk.run _ s9 σ8 H9 _ I9 q9) fun z s10 ⟨yk, H10, I10, r10, q10⟩ => ?_
        refine thnF (pv.run _ s10 σ8 H10 _ I10 q10) fun z2 s11 ⟨yv, H11, I11, r11, kvs, k, a, ek, ha, hD11, hz11, nx⟩ => ?_
        subst ek
        obtain rfl : z = Value.ref a := r10
        exact put_tup (X := X.blk s3 Hb scope ce fp) hu I11 hD11 ha hz11 r11 fun s12 I12 => fin I12 nx
  exact codeAny_compStart_dict loop (T.self X.A 0 _ _ _ st4 loop)
/-- as a value -/
theorem pe_dcT {kx vx tg iter : Expr} {ifs : List Expr} {scope : Scope} {own : List (Str × Nat)} {pos : Pos} {wi : TI} {g : TG} {tt : TT} {tk tv : TE} (hu : X.A.units + 1 < cLine) (hc : X.calm = true) (hN : X.N.Nodup) (hi : PI X tg iter wi) (ok : BlkOk X.N X.env.scope scope own)
    (hg : ∀ s H C cl fp, PG (blkAt X scope fp s H C cl) tg g) (ht : ∀ s H C cl fp, PTs (blkAt X scope fp s H C cl) ifs tt) (hk : ∀ s H C cl fp, PE (blkAt X scope fp s H C cl) kx tk) (he : ∀ s H C cl fp, PE (blkAt X scope fp s H C cl) vx tv)
    (hs : ∀ x, foldedSetIterable iter X.env x = pure x) : PE X (.DictComp kx vx [⟨tg, iter, ifs, 0⟩] scope pos) (tDcT wi g tt tk tv (own.map (·.2))) := by
  refine ⟨fun pins s σ H Q I h => ?_⟩
  rw [arm_eval_DictComp]
  refine dcT_core hu hc hN I hi ok hg ht hk he hs h fun D C s' m H' I' q hn f => ⟨m, hn, fun h'' sb => ?_⟩
  obtain ⟨f0, f1, f2, f3, f4, f5⟩ := f
  exact ⟨.ref D, H', I'.turned (t' := s'.toks) (fun b o hb z => (sb.2 b hb).trans z) f0 f1 f3 f4 f5, rfl, q⟩
/-- stored into a name ahead of the block's end -/
theorem ps_setDcT {i : Nat} {y : Str} {py : Pos} {kx vx tg iter : Expr} {ifs : List Expr} {scope : Scope} {own : List (Str × Nat)} {pos spos : Pos} {wi : TI} {g : TG} {tt : TT} {tk tv : TE} (hu : X.A.units + 1 < cLine) (hc : X.calm = true) (hN : X.N.Nodup)
    (hy : X.N[i]? = some y) (hyl : X.env.scope.names.lookup y = some .local) (sw : swapsWith (.DictComp kx vx [⟨tg, iter, ifs, 0⟩] scope pos) (some (.Name y py)) spos.line X.env = pure true) (hi : PI X tg iter wi) (ok : BlkOk X.N X.env.scope scope own)
    (hg : ∀ s H C cl fp, PG (blkAt X scope fp s H C cl) tg g) (ht : ∀ s H C cl fp, PTs (blkAt X scope fp s H C cl) ifs tt) (hk : ∀ s H C cl fp, PE (blkAt X scope fp s H C cl) kx tk) (he : ∀ s H C cl fp, PE (blkAt X scope fp s H C cl) vx tv)
    (hs : ∀ x, foldedSetIterable iter X.env x = pure x) : PS X (.Assign [.Name y py] (.DictComp kx vx [⟨tg, iter, ifs, 0⟩] scope pos) spos) (tAsg (tDcT wi g tt tk tv (own.map (·.2))) (gName i)) := by
  refine ⟨fun pins s σ H D0 I h => ?_⟩
  rw [exec_Assign_Name_used _ _ _ _ sw]
  refine wpAny_bind (wpAny_standAt (wpAny_bind ?_))
  show wpAny _ X.A (do let _ ← comprehension (.DictComp kx vx [⟨tg, iter, ifs, 0⟩] scope pos) scope X.env (firstIterPos [⟨tg, iter, ifs, 0⟩] pos) newDict false (eval iter X.env) (some (assign (.Name y py) X.env))) _ _ s
  have h0 : tDcT wi g tt tk tv (own.map (·.2)) σ H (fun x H1 => gName i x σ H1 D0.nx) := h
  refine wpAny_bind (thn (dcT_core (Qf := fun _ s' => SP X pins D0 .next s') hu hc hN I hi ok hg ht hk he hs h0 fun L C s' m H' I' q hn f => ?_) fun _ s' hq => wpAny_pure (wpAny_pure hq))
  show wpAny _ _ (assign (.Name y py) X.env (.ref L)) _ _ _
  refine wpAny_assign_Name (store_ok2 (v := V.ref L) I' hN hy (.inl hyl) rfl (fun s2 I2 ⟨a, sb, ha⟩ => ?_) (.inr hyl))
  obtain ⟨f0, f1, f2, f3, f4, f5⟩ := f
  have ca : C ≠ a := by
    rcases ha with z | z
    · rw [z]; exact f1
    · exact fun e => f4 y a z e.symm
  exact ⟨m, hn.sameBut sb ca, fun h3 sb3 => ⟨_, H', I2.turned (t' := s2.toks) (fun b o hb z => (sb3.2 b hb).trans z) f0 f1 f3 f4 f5, q⟩⟩
end

section
variable {K : PySem.W.Frag} {mg : Str → Option Value} {H H1 H' : Hp} {M M1 M' : Ms} {E : XK}
theorem dcF_ok {body : SV → SH → Res (Option (SV × SV))} {x : SV} {xs : List SV} {acc r : List (SV × SV)} {h hend : SH} (e : dcF body (x :: xs) acc h = .ok r hend) :
    ∃ o h1 acc2, body x h = .ok o h1 ∧ dcF body xs acc2 h1 = .ok r hend ∧ ((o = none ∧ acc2 = acc) ∨ ∃ kv, o = some kv ∧ kv.1.flatT = true ∧ acc.length < seqLen ∧ acc2 = putV acc kv.1 kv.2) := by
  unfold dcF at e
  split at e
  · rename_i kv h1 e1
    split at e
    · rename_i c
      rw [Bool.and_eq_true] at c
      exact ⟨_, h1, _, e1, e, .inr ⟨kv, rfl, c.1, of_decide_eq_true c.2, rfl⟩⟩
    · cases e
  · rename_i h1 e1
    exact ⟨_, h1, _, e1, e, .inl ⟨rfl, rfl⟩⟩
  · cases e
  · cases e
theorem dcF_noerr {body : SV → SH → Res (Option (SV × SV))} : ∀ {xs : List SV} {acc : List (SV × SV)} {h : SH} {c : Str} {v : SV} {h' : SH}, dcF body xs acc h ≠ .err c v h'
  | [], _, _, _, _, _ => by simp [dcF]
  | x :: xs, acc, h, c, v, h' => by
    unfold dcF
    split
    · split
      · exact dcF_noerr
      · simp
    · exact dcF_noerr
    · simp
    · simp
/-- the state at turn i -/
structure DcAt (K : PySem.W.Frag) (body : SV → SH → Res (Option (SV × SV))) (xs : List SV) (r : List (SV × SV)) (hend : SH) (H1 : Hp) (M1 : Ms) (D : Addr) (i : Nat) (Hc : Hp) : Prop where
  ex : ∃ (acc : List (SV × SV)) (av : List (List Key × V)) (hc : SH) (Mc : Ms), Hc D = some (.dT av) ∧ Mc.b = D :: M1.b ∧ RH K Hc Mc hc ∧ Evo H1 M1 Hc ⟨Mc.c, M1.b⟩ ∧ Ext H1 M1 Hc Mc ∧ RepT K Hc Mc acc av ∧ dcF body (xs.drop i) acc hc = .ok r hend
theorem dc_go {t : CT} {own : List Nat} {tt : TT} {tk tv : TE} {body : SV → SH → Res (Option (SV × SV))} {xs : List SV} {r : List (SV × SV)} {h1 hend : SH} {env : SE} {σ : L2.St} {J : It} {Q : VK}
    (hsl : ∀ i ∈ slots t, i ∈ own)
    (hb : ∀ v hc o h', body v hc = .ok o h' → ∃ env2, store t v (wipeE env own) = some env2 ∧ ∀ (σ2 : L2.St) (H3 : Hp) (M3 : Ms) (Qs : V → V → Hp → Prop) (Qn : Hp → Prop), RS K H3 M3 env2 σ2 → RH K H3 M3 hc →
      (∀ kv, o = some kv → ∀ H5 M5, Evo H3 M3 H5 M5 → RH K H5 M5 h' → ∀ yv zv, Rep K H5 M5 kv.1 yv → Rep K H5 M5 kv.2 zv → Qs yv zv H5) → (o = none → ∀ H5 M5, Evo H3 M3 H5 M5 → RH K H5 M5 h' → Qn H5) →
      tt σ2 H3 fun b H4 => if b = true then tk σ2 H4 fun y H5 => tv σ2 H5 fun z H6 => Qs y z H6 else Qn H4)
    (rs : RS K H1 M1 env σ) (rh : RH K H1 M1 h1) (sn : Seen K J xs H1 M1) (hcomp : dcF body xs [] h1 = .ok r hend)
    (s : SemR K mg (.ok (SV.ref hend.length) (hend ++ [.dtt r])) H1 M1 E fun v _ H' M' => ∀ x, Rep K H' M' v x → Q x H') :
    ∀ D, H1 D = none → ∃ W : Nat → Nat → Hp → Prop, (∃ m, W 0 m (upd H1 D (.dT []))) ∧ ∀ i m H, W i m H →
      (J.stop i H ∧ Q (.ref D) H) ∨ (J.go i H ∧ ∃ Nx : Hp → Prop, (∀ H', Nx H' → ∃ m', m' < m ∧ W (i + 1) m' H') ∧ ∀ x H', J.yld i H x H' → SG K t x (L2.wipe σ own) H' fun σ2 H2 => L2.wipe σ2 own = L2.wipe σ own ∧ tt σ2 H2 fun b H3 =>
        if b = true then tk σ2 H3 fun y H4 => tv σ2 H4 fun z H5 => ∃ kvs k b, y = .ref b ∧ H5 b = some (.tup (k.map kV)) ∧ H5 D = some (.dT kvs) ∧ kvs.length < sizeLine ∧ Nx (upd H5 D (.dT (putK kvs k z))) else Nx H3) := by
  intro D hD
  have hDc := rh.fresh hD
  have hDb := rh.freshB hD
  refine ⟨fun i m H => i ≤ xs.length ∧ m = xs.length - i ∧ DcAt K body xs r hend H1 M1 D i H, ⟨xs.length, Nat.zero_le _, by simp, ⟨[], [], h1, ⟨M1.c, D :: M1.b⟩, upd_same, rfl, rh.begin_ hD, Evo.begin_ rh hD, ⟨fun _ _ => Fz.begin_ rh hD, (Evo.begin_ rh hD).tup, (Evo.begin_ rh hD).frz, fun _ _ => id⟩, .nil, hcomp⟩⟩, ?_⟩
  rintro i m Hc ⟨hi, rfl, ⟨acc, av, hc, Mc, hv, hMb, rhc, ev, ex, l, ec⟩⟩
  have busy : D ∉ Mc.c := (rhc.bsy D (by rw [hMb]; exact List.mem_cons_self)).1
  by_cases hlt : i < xs.length
  · refine .inr ⟨sn.go i Hc Mc ex hlt, fun H' => DcAt K body xs r hend H1 M1 D (i + 1) H', fun H' n => ⟨xs.length - (i + 1), by omega, by omega, rfl, n⟩, ?_⟩
    intro x H' y
    have hx : xs[i]? = some xs[i] := List.getElem?_eq_getElem hlt
    obtain ⟨ev2, rh2, rx⟩ := sn.yld i Hc Mc hc x H' xs[i] ex rhc hx y
    rw [List.drop_eq_getElem_cons hlt] at ec
    obtain ⟨o, h', acc2, e1, e2, e3⟩ := dcF_ok ec
    obtain ⟨env2, es, run⟩ := hb _ _ _ _ e1
    refine ⟨xs[i], wipeE env own, env2, Mc, ((rs.ext (ex.trans ev2.ext)).wipe own), rx, es, ?_⟩
    intro σ2 rs2 hw
    have hw' : L2.wipe σ2 own = L2.wipe σ own := by
      rw [hw own hsl]
      exact wipe_wipe
    refine ⟨hw', ?_⟩
    refine run σ2 H' Mc _ _ rs2 rh2 ?_ ?_
    · rintro kv rfl H5 M5 ev5 rh5 yv zv ry rz
      have hD5 : H5 D = some (.dT av) := by
        rw [ev5.same D (by rw [hMb]; exact List.mem_cons_self), ev2.same D (by rw [hMb]; exact List.mem_cons_self)]
        exact hv
      have nl : NoLk (H5 D) := .dT hD5
      rcases e3 with ⟨e3, _⟩ | ⟨kv2, e3, hf, hl, rfl⟩
      · cases e3
      cases e3
      obtain ⟨ks, q, b, ek, hq, rfl, hbb⟩ := key_at hf ry
      have la : acc.length = av.length := l.length
      refine ⟨av, q, b, rfl, hbb, hD5, ?_, ?_⟩
      · rw [sizeLine_eq, ← la]
        exact hl
      · obtain ⟨c5, b5⟩ := M5
        have hb5 : b5 = D :: M1.b := ev5.busy.trans hMb
        subst hb5
        have evt := ev2.trans ev5
        have e5 : Evo H1 M1 H5 ⟨c5, M1.b⟩ := Evo.turn hD hDc hDb ev hMb busy evt
        have gz : ∀ a u, Fz H5 ⟨c5, D :: M1.b⟩ a u → Fz (upd H5 D (.dT (putK av q zv))) ⟨c5, D :: M1.b⟩ a u := fun a u => Fz.grow (M := ⟨c5, []⟩)
        refine ⟨putV acc kv.1 kv.2, putK av q zv, h', ⟨c5, D :: M1.b⟩, upd_same, rfl, RH.grow (M := ⟨c5, []⟩) rh5 nl, Evo.grow (Md := ⟨c5, []⟩) hD hDb nl e5, ⟨fun a u z => gz a u ((ex.trans evt.ext).fz a u z), fun a vs z => nl.tupE ((ex.trans evt.ext).tup a vs z), fun a o u z => nl.frzE ((ex.trans evt.ext).frz a o u z), (ex.trans evt.ext).get⟩, ?_, e2⟩
        rw [ek]
        exact ((l.mono evt).put hq rz).map gz (fun _ _ z => nl.tupE z) (fun _ _ => id)
    · rintro rfl H5 M5 ev5 rh5
      have evt := ev2.trans ev5
      rcases e3 with ⟨_, rfl⟩ | ⟨kv2, e3, _⟩
      · refine ⟨acc2, av, h', M5, ?_, ev5.busy.trans hMb, rh5, Evo.turn hD hDc hDb ev hMb busy evt, ex.trans evt.ext, l.mono evt, e2⟩
        rw [ev5.same D (by rw [hMb]; exact List.mem_cons_self), ev2.same D (by rw [hMb]; exact List.mem_cons_self)]
        exact hv
      · cases e3
  · have e : i = xs.length := by omega
    subst e
    rw [List.drop_length] at ec
    cases ec
    refine .inl ⟨sn.stop Hc Mc ex, ?_⟩
    obtain ⟨cc, b⟩ := Mc
    have hb' : b = D :: M1.b := hMb
    subst hb'
    have l2 : RepT K Hc ⟨cc ++ [D], M1.b⟩ r av := l.map (fun _ _ => Fz.endCell) (fun _ _ h => h) (fun _ _ => get_app)
    refine s Hc ⟨cc ++ [D], M1.b⟩ (Evo.endCell hD hDc hDb ev) (rhc.endCell hDb hv (.dT l2)) _ (.ref ?_)
    show (cc ++ [D])[hend.length]? = _
    have len : hend.length = cc.length := rhc.len
    rw [len, List.getElem?_append_right (Nat.le_refl _), Nat.sub_self]
    rfl
end
section
variable {X : Cx} {W : WX}
theorem compD_imp {p : Pr} {k v : CE} {cd : CE} {t : CT} {it : CI} {own : List Nat} (hsl : (slots t).all (fun i => own.contains i) = true) {σ : L2.St} {H : Hp} {Q : VK} (q : SE' X p W (.compD k v t it cd own) σ H Q) :
    tDcT (SI X p W it) (SG X.K t) (ST X p W0 cd) (SE' X p W0 k) (SE' X p W0 v) own σ H Q := by
  obtain ⟨env, h, M, at_, s⟩ := q
  refine ⟨env, h, M, at_, s.bind.mono ?_⟩
  intro xs h1 H1 M1 e1 r1 s1 J sn
  generalize hb : (fun (x : SV) (h : SH) => match store t x (wipeE env own) with
    | none => Res.bad
    | some env2 => (evT p cd env2 h).bind fun b h => if b = true then (ev p k env2 h).bind fun kk h => (ev p v env2 h).bind fun vv h => Res.ok (some (kk, vv)) h else Res.ok none h) = body at s1
  have hs : ∀ i ∈ slots t, i ∈ own := by
    intro i hi
    have := List.all_eq_true.mp hsl i hi
    simpa using this
  cases hc : dcF body xs [] h1 with
  | bad => rw [hc] at s1; exact s1.elim
  | err c v h => exact absurd hc dcF_noerr
  | ok r hend =>
    rw [hc] at s1
    refine dc_go hs ?_ (at_.go e1 r1).rs r1 sn hc s1
    intro x hc0 o h' eb
    rw [← hb] at eb
    simp only at eb
    cases es : store t x (wipeE env own) with
    | none => rw [es] at eb; cases eb
    | some env2 =>
      rw [es] at eb
      simp only at eb
      cases et : evT p cd env2 hc0 with
      | bad => rw [et] at eb; cases eb
      | err c v h => rw [et] at eb; cases eb
      | ok b h2 =>
        rw [et] at eb
        simp only [Res.bind_ok] at eb
        refine ⟨env2, rfl, ?_⟩
        intro σ2 H3 M3 Qs Qn rs rh hQ hN
        refine ⟨env2, hc0, M3, ⟨rs, rh⟩, ?_⟩
        rw [et]
        intro H4 M4 e4 r4
        cases b with
        | true =>
          rw [if_pos rfl] at eb ⊢
          cases ek : ev p k env2 h2 with
          | bad => rw [ek] at eb; cases eb
          | err c v h => rw [ek] at eb; cases eb
          | ok y h3 =>
            rw [ek] at eb
            simp only [Res.bind_ok] at eb
            cases ee : ev p v env2 h3 with
            | bad => rw [ee] at eb; cases eb
            | err c v h => rw [ee] at eb; cases eb
            | ok z h4 =>
              rw [ee] at eb
              cases eb
              refine ⟨env2, h2, M4, ⟨rs.mono e4, r4⟩, ?_⟩
              rw [ek]
              intro H5 M5 e5 r5 yv ry
              refine ⟨env2, h3, M5, ⟨(rs.mono e4).mono e5, r5⟩, ?_⟩
              rw [ee]
              exact fun H6 M6 e6 r6 zv rz => hQ _ rfl H6 M6 ((e4.trans e5).trans e6) r6 yv zv (ry.mono e6) rz
        | false =>
          cases eb
          exact hN rfl H4 M4 e4 r4
end
end Ws
end

section
set_option Elab.async false
set_option linter.all false
set_option maxRecDepth 100000
set_option autoImplicit false
/-! What the simple interpreter says of an expression holds of the machine. -/
namespace Ws
open PySem PySem.Spec PyProof.Rows L2

def isBool : Expr → Bool
  | .BoolOp .. => true
  | _ => false
structure SndE (X : Cx) (p : Pr) (W : WX) (e : CE) (x : Expr) : Prop where
  pe : PE X x (SE' X p W e)
  pt : PT X x (ST X p W e)
  pw : isBool x = true → PW X x (ST X p W e)
section
variable {X : Cx} {T : Tb} {S : Pt} {d : Nat} {N : List Str} {sc : Scope} {W : WX} {p : Pr}
theorem t_bad {e : CE} {x : Expr} (h : ∀ env h, evT p e env h = .bad) : PT X x (ST X p W e) := by
  refine ⟨?_⟩
  rintro pins s σ H Q I ⟨env, h', M, at_, s⟩
  rw [h] at s
  exact s.elim
/-- no test of its own -/
theorem snd_of {e : CE} {x : Expr} (hx : PE X x (SE' X p W e)) (h : ∀ env h, evT p e env h = .bad) (hb : isBool x = false) : SndE X p W e x := ⟨hx, t_bad h, fun z => by rw [hb] at z; cases z⟩
theorem snd_t {e : CE} {x : Expr} (hx : PE X x (SE' X p W e)) (ht : PT X x (ST X p W e)) (hb : isBool x = false) : SndE X p W e x := ⟨hx, ht, fun z => by rw [hb] at z; cases z⟩
theorem call_T {f : Nat} {perm : List Nat} {es ks : CEs} (env : SE) (h : SH) : evT p (.call f perm es ks) env h = (ev p (.call f perm es ks) env h).bind fun v h => Ws.ofO h (truthOf h v) := by
  simp only [evT, ev]
  cases evs p es env h with
  | ok xs h1 =>
    simp only [Res.bind_ok]
    cases evs p ks env h1 with
    | ok ys h2 => rfl
    | err c v h => rfl
    | bad => rfl
  | err c v h => rfl
  | bad => rfl
theorem ofO_bindT {o : Option SV} {h : SH} : (Ws.ofO h o).bind (fun v h => Ws.ofO h (truthOf h v)) = Ws.ofO h (o.bind (truthOf h)) := by
  cases o <;> rfl
theorem bi_T {b : BI} {es : CEs} (env : SE) (h : SH) : evT p (.bi b es) env h = (ev p (.bi b es) env h).bind fun v h => Ws.ofO h (truthOf h v) := by
  simp only [evT, ev]
  cases evs p es env h with
  | ok xs h1 =>
    simp only [Res.bind_ok]
    exact ofO_bindT.symm
  | err c v h => rfl
  | bad => rfl
theorem ix_T {a i : CE} (env : SE) (h : SH) : evT p (.ix a i) env h = (ev p (.ix a i) env h).bind fun v h => Ws.ofO h (truthOf h v) := by
  simp only [evT, ev]
  cases ev p a env h with
  | ok x h1 =>
    simp only [Res.bind_ok]
    cases ev p i env h1 with
    | ok y h2 => simp only [Res.bind_ok]; exact ofO_bindT.symm
    | err c v h => rfl
    | bad => rfl
  | err c v h => rfl
  | bad => rfl
theorem var_T {i : Nat} (env : SE) (h : SH) : evT p (.var i) env h = (ev p (.var i) env h).bind fun v h => Ws.ofO h (truthOf h v) := by
  simp only [evT, ev]
  exact ofO_bindT.symm
/-- of one in a row nothing is asked but itself -/
theorem one_and {e : CE} {x : Expr} {pos : Pos} (h : SndE X p W e x) : PE X (.BoolOp .And [x] pos) (SE' X p W e) ∧ PW X (.BoolOp .And [x] pos) (ST X p W e) := ⟨pe_one h.pe, pw_and1 h.pt⟩
theorem one_or {e : CE} {x : Expr} {pos : Pos} (h : SndE X p W e x) : PE X (.BoolOp .Or [x] pos) (SE' X p W e) ∧ PW X (.BoolOp .Or [x] pos) (ST X p W e) := ⟨pe_one h.pe, pw_or1 h.pt⟩
end

theorem mPs_some {S : Pt} {N : List Str} {sc : Scope} : ∀ {es : CEs} {ks : List (Option Expr)} {vs : List Expr}, mPs S N sc es ks vs = true → ks.all (·.isSome) = true
  | .nil, [], _, _ => rfl
  | .nil, _ :: _, _, m => by simp [mPs] at m
  | .cons e .nil, _, _, m => by simp [mPs] at m
  | .cons e (.cons g r), [], _, m => rfl
  | .cons e (.cons g r), none :: _, _, m => by simp [mPs] at m
  | .cons e (.cons g r), some k :: ks, [], m => by simp [mPs] at m
  | .cons e (.cons g r), some k :: ks, v :: vs, m => by
    simp only [mPs, Bool.and_eq_true] at m
    show (true && _) = true
    rw [Bool.true_and]
    exact mPs_some (es := r) m.2.2
section
variable (T : Tb) (S : Pt) (d : Nat) (N : List Str)
mutual
theorem sE : ∀ (e : CE) (X : Cx) (sc : Scope) (W : WX) (x : Expr), Gd X T S d N sc W → mE S N sc e x = true → SndE X (prOf T d) W e x
  | .var i, X, sc, W, x, g, m => by
    cases x <;> first | (cases m; done) | skip
    rename_i nm pos
    simp only [mE, Bool.and_eq_true, decide_eq_true_eq] at m
    have pe := e_var g (p := prOf T d) (pos := pos) m.1 m.2.1 m.2.2
    exact snd_t pe (t_val (fun _ => rfl) pe var_T) rfl
  | .non, X, sc, W, x, g, m => by
    cases x <;> first | (cases m; done) | skip
    rename_i c j pos
    cases c <;> first | (cases m; done) | skip
    exact snd_of (e_const pe_non (fun _ _ => rfl) fun _ _ => .non) (fun _ _ => rfl) rfl
  | .bl b, X, sc, W, x, g, m => by
    cases x <;> first | (cases m; done) | skip
    rename_i c j pos
    cases c <;> first | (cases m; done) | skip
    simp only [mE, beq_iff_eq] at m
    subst m
    exact snd_of (e_const pe_bl (fun _ _ => rfl) fun _ _ => .bl _) (fun _ _ => rfl) rfl
  | .int i, X, sc, W, x, g, m => by
    cases x <;> first | (cases m; done) | skip
    rename_i c j pos
    cases c <;> first | (cases m; done) | skip
    simp only [mE, decide_eq_true_eq] at m
    subst m
    exact snd_of (e_const pe_int (fun _ _ => rfl) fun _ _ => .int _) (fun _ _ => rfl) rfl
  | .str i, X, sc, W, x, g, m => by
    cases x <;> first | (cases m; done) | skip
    rename_i c j pos
    cases c <;> first | (cases m; done) | skip
    simp only [mE, decide_eq_true_eq] at m
    subst m
    exact snd_of (e_const pe_str (fun _ _ => rfl) fun _ _ => .str _) (fun _ _ => rfl) rfl
  | .glob y, X, sc, W, x, g, m => by
    cases x <;> first | (cases m; done) | skip
    simp only [mE, Bool.and_eq_true, decide_eq_true_eq] at m
    obtain ⟨rfl, m1, m2, m3⟩ := m
    exact snd_of (e_glob g m1 m2 m3) (fun _ _ => rfl) rfl
  | .bin op a b, X, sc, W, x, g, m => by
    cases x <;> first | (cases m; done) | skip
    simp only [mE, Bool.and_eq_true] at m
    exact snd_of (e_bin m.1 (sE a X sc W _ g m.2.1).pe (sE b X sc W _ g m.2.2).pe) (fun _ _ => rfl) rfl
  | .neg a, X, sc, W, x, g, m => by
    cases x <;> first | (cases m; done) | skip
    rename_i o l pos
    cases o <;> first | (cases m; done) | skip
    simp only [mE] at m
    exact snd_of (e_neg (sE a X sc W _ g m).pe) (fun _ _ => rfl) rfl
  | .cmp op a b, X, sc, W, x, g, m => by
    cases x <;> first | (cases m; done) | skip
    rename_i l ops rs pos
    match ops, rs, m with
    | [o], [r], m =>
      simp only [mE, Bool.and_eq_true, Bool.not_eq_true'] at m
      have ha := (sE a X sc W _ g m.2.1).pe
      have hb := (sE b X sc W _ g m.2.2).pe
      exact snd_t (e_cmp g.hu m.1.1 m.1.2 ha hb) (t_cmp g.hu m.1.1 m.1.2 ha hb) rfl
    | [], _, m => cases m
    | [_], [], m => cases m
    | [_], _ :: _ :: _, m => cases m
    | _ :: _ :: _, _, m => cases m
  | .chain o1 o2 a b c, X, sc, W, x, g, m => by
    cases x <;> first | (cases m; done) | skip
    rename_i l ops rs pos
    match ops, rs, m with
    | [p1, p2], [q, r], m =>
      simp only [mE, Bool.and_eq_true, Bool.not_eq_true'] at m
      have ha := (sE a X sc W _ g m.2.1).pe
      have hb := (sE b X sc W _ g m.2.2.1).pe
      have hc := (sE c X sc W _ g m.2.2.2).pe
      exact snd_t (e_chain g.hu m.1.1 m.1.2.1 m.1.2.2 ha hb hc) (t_chain g.hu m.1.1 m.1.2.1 m.1.2.2 ha hb hc) rfl
    | [], _, m => cases m
    | [_], _, m => cases m
    | [_, _], [], m => cases m
    | [_, _], [_], m => cases m
    | [_, _], _ :: _ :: _ :: _, m => cases m
    | _ :: _ :: _ :: _, _, m => cases m
  | .and a b, X, sc, W, x, g, m => by
    cases x <;> first | (cases m; done) | skip
    rename_i o es pos
    cases o <;> first | (cases m; done) | skip
    match es, m with
    | [], m => cases m
    | [_], m => cases m
    | [l, r], m =>
      simp only [mE, Bool.and_eq_true] at m
      have ha := sE a X sc W _ g m.1
      obtain ⟨h1, h2⟩ := one_and (pos := pos) (sE b X sc W _ g m.2)
      have w := w_and ha.pt h2
      exact ⟨e_and ha.pe h1, w.pt, fun _ => w⟩
    | l :: r :: q :: qs, m =>
      simp only [mE, Bool.and_eq_true] at m
      have ha := sE a X sc W _ g m.1
      have hb := sE b X sc W _ g m.2
      have w := w_and ha.pt (hb.pw rfl)
      exact ⟨e_and ha.pe hb.pe, w.pt, fun _ => w⟩
  | .or a b, X, sc, W, x, g, m => by
    cases x <;> first | (cases m; done) | skip
    rename_i o es pos
    cases o <;> first | (cases m; done) | skip
    match es, m with
    | [], m => cases m
    | [_], m => cases m
    | [l, r], m =>
      simp only [mE, Bool.and_eq_true] at m
      have ha := sE a X sc W _ g m.1
      obtain ⟨h1, h2⟩ := one_or (pos := pos) (sE b X sc W _ g m.2)
      have w := w_or ha.pt h2
      exact ⟨e_or ha.pe h1, w.pt, fun _ => w⟩
    | l :: r :: q :: qs, m =>
      simp only [mE, Bool.and_eq_true] at m
      have ha := sE a X sc W _ g m.1
      have hb := sE b X sc W _ g m.2
      have w := w_or ha.pt (hb.pw rfl)
      exact ⟨e_or ha.pe hb.pe, w.pt, fun _ => w⟩
  | .not a, X, sc, W, x, g, m => by
    cases x <;> first | (cases m; done) | skip
    rename_i o l pos
    cases o <;> first | (cases m; done) | skip
    simp only [mE] at m
    have ha := sE a X sc W _ g m
    exact snd_t (e_not ha.pe) (t_not ha.pt) rfl
  | .ite t a b, X, sc, W, x, g, m => by
    cases x <;> first | (cases m; done) | skip
    simp only [mE, Bool.and_eq_true] at m
    exact snd_of (e_ite (sE t X sc W _ g m.1).pt (sE a X sc W _ g m.2.1).pe (sE b X sc W _ g m.2.2).pe) (fun _ _ => rfl) rfl
  | .tup es, X, sc, W, x, g, m => by
    cases x <;> first | (cases m; done) | skip
    simp only [mE] at m
    exact snd_of (e_tup (sA es X sc W _ g m)) (fun _ _ => rfl) rfl
  | .lst c es, X, sc, W, x, g, m => by
    cases x <;> first | (cases m; done) | skip
    simp only [mE] at m
    exact snd_of (e_lst (sA es X sc W _ g m)) (fun _ _ => rfl) rfl
  | .repL c a b, X, sc, W, x, g, m => by
    cases x <;> first | (cases m; done) | skip
    rename_i l o r pos
    cases o <;> first | (cases m; done) | skip
    simp only [mE, Bool.and_eq_true] at m
    exact snd_of (e_rep (sE a X sc W _ g m.1).pe (sE b X sc W _ g m.2).pe) (fun _ _ => rfl) rfl
  | .ix a i, X, sc, W, x, g, m => by
    cases x <;> first | (cases m; done) | skip
    rename_i l r pos
    simp only [mE, Bool.and_eq_true] at m
    have hu := g.hu
    have pe := e_ix (pos := pos) (by omega) m.1 (sE a X sc W _ g m.2.1).pe (sE i X sc W _ g m.2.2).pe
    exact snd_t pe (t_val (fun _ => rfl) pe ix_T) rfl
  | .sl a lo hi, X, sc, W, x, g, m => by
    cases x <;> first | (cases m; done) | skip
    rename_i l s pos
    cases s <;> first | (cases m; done) | skip
    rename_i lx ux st p2
    cases st <;> first | (cases m; done) | skip
    simp only [mE, Bool.and_eq_true] at m
    exact snd_of (e_sl (sE a X sc W _ g m.1).pe (sO lo X sc W _ g m.2.1) (sO hi X sc W _ g m.2.2)) (fun _ _ => rfl) rfl
  | .call f perm es ks, X, sc, W, x, g, m => by
    cases x <;> first | (cases m; done) | skip
    rename_i fn xs kws pos
    cases fn <;> first | (cases m; done) | skip
    rename_i fx np
    simp only [mE, Bool.and_eq_true] at m
    have pe := e_call g (np := np) (pos := pos) m.1.1 m.1.2.1 m.1.2.2 m.2.1 m.2.2 (sA es X sc W _ g m.2.1) (sK ks X sc W _ g m.2.2)
    exact snd_t pe (t_val (fun _ => rfl) pe call_T) rfl
  | .bi b es, X, sc, W, x, g, m => by
    cases x <;> first | (cases m; done) | skip
    rename_i fn xs kws pos
    cases fn <;> first | (cases m; done) | skip
    cases kws <;> first | (cases m; done) | skip
    simp only [mE, Bool.and_eq_true, decide_eq_true_eq] at m
    obtain ⟨⟨m1, m2⟩, m3⟩ := m
    cases hb : biCls b with
    | none =>
      rw [hb] at m3
      cases xs with
      | nil => cases m3
      | cons y ys =>
        have m3' : mEs S N sc es (y :: ys) = true := m3
        have pe := fun np pos => e_bi g (p := prOf T d) (np := np) (pos := pos) hb m1 m2 (mEs_plain m3') (sA es X sc W _ g m3')
        exact snd_t (pe _ _) (t_val (fun _ => rfl) (pe _ _) bi_T) rfl
    | some cn =>
      rw [hb] at m3
      match xs, m3 with
      | [], m3 => cases m3
      | [_], m3 => cases m3
      | _ :: z :: _ :: _, m3 => cases z <;> cases m3
      | [y, z], m3 =>
        cases z <;> first | (cases m3; done) | skip
        simp only [Bool.and_eq_true, decide_eq_true_eq] at m3
        obtain ⟨⟨rfl, m4⟩, m5⟩ := m3
        match es, m5 with
        | .nil, m5 => simp [mEs] at m5
        | .cons e (.cons _ _), m5 => simp [mEs] at m5
        | .cons e .nil, m5 =>
          simp only [mEs, Bool.and_eq_true] at m5
          have pe := fun np cp pos => e_isi g (p := prOf T d) (np := np) (cp := cp) (pos := pos) hb m1 m2 m4 m5.1 (sE e X sc W _ g m5.2.1).pe
          exact snd_t (pe _ _ _) (t_val (fun _ => rfl) (pe _ _ _) bi_T) rfl
  | .comp c elt t it own, X, sc, W, x, g, m => by
    cases x <;> first | (cases m; done) | skip
    rename_i el gens scope pos
    match gens, m with
    | [], m => cases m
    | ⟨_, _, ifs, _⟩ :: _ :: _, m => cases ifs <;> cases m
    | [⟨tg, iter, ifs, k⟩], m =>
      cases ifs <;> first | (cases m; done) | skip
      simp only [mE, Bool.and_eq_true, decide_eq_true_eq] at m
      obtain ⟨rfl, hsl, ⟨m1, m2, m3⟩, m4, m5⟩ := m
      have ok : BlkOk X.N X.env.scope scope (ownOf N own) := by
        rw [g.hN, g.hsc]
        exact blkOk_by m1
      have hi := sI it X sc W tg iter g m3 m4
      have pe := pe_lc (pos := pos) (elt := el) (te := SE' X (prOf T d) W0 elt) (tt := tYes) (g := SG X.K t) g.calm (by rw [g.hN]; exact g.nd) hi ok (fun s H C cl fp => sG (g.blk s H scope C cl fp) (sto_blk g s H scope C cl fp) m2) (fun s H C cl fp => pts_nil)
        (fun s H C cl fp => (sE elt _ _ W0 el (g.blk s H scope C cl fp) m5).pe) (fold_plain m3)
      refine snd_of (pe.imp ?_) (fun _ _ => rfl) rfl
      intro σ H Q q
      rw [own_back]
      exact comp_imp hsl q
  | .compIf c elt t it cd own, X, sc, W, x, g, m => by
    cases x <;> first | (cases m; done) | skip
    rename_i el gens scope pos
    match gens, m with
    | [], m => cases m
    | ⟨_, _, [], _⟩ :: _ :: _, m => cases m
    | ⟨_, _, [_], _⟩ :: _ :: _, m => cases m
    | ⟨_, _, _ :: _ :: _, _⟩ :: _ :: _, m => cases m
    | [⟨tg, iter, ifs, k⟩], m =>
      match ifs, m with
      | [], m => cases m
      | _ :: _ :: _, m => cases m
      | [cx], m =>
        simp only [mE, Bool.and_eq_true, decide_eq_true_eq] at m
        obtain ⟨rfl, hsl, ⟨m1, m2, m3⟩, m4, m5, m6⟩ := m
        have ok : BlkOk X.N X.env.scope scope (ownOf N own) := by
          rw [g.hN, g.hsc]
          exact blkOk_by m1
        have hi := sI it X sc W tg iter g m3 m4
        have pe := pe_lc (pos := pos) (elt := el) (te := SE' X (prOf T d) W0 elt) (tt := ST X (prOf T d) W0 cd) (g := SG X.K t) g.calm (by rw [g.hN]; exact g.nd) hi ok (fun s H C cl fp => sG (g.blk s H scope C cl fp) (sto_blk g s H scope C cl fp) m2)
          (fun s H C cl fp => pts_one (sE cd _ _ W0 cx (g.blk s H scope C cl fp) m6).pt) (fun s H C cl fp => (sE elt _ _ W0 el (g.blk s H scope C cl fp) m5).pe) (fold_plain m3)
        refine snd_of (pe.imp ?_) (fun _ _ => rfl) rfl
        intro σ H Q q
        rw [own_back]
        exact compIf_imp hsl q
  | .get o k e, X, sc, W, x, g, m => by
    cases x <;> first | (cases m; done) | skip
    rename_i fn xs kws cpos
    cases fn <;> first | (cases m; done) | skip
    rename_i y n apos
    match xs, kws, m with
    | [], _, m => cases m
    | [_], _, m => cases m
    | _ :: _ :: _ :: _, _, m => cases m
    | [_, _], _ :: _, m => cases m
    | [u, v], [], m =>
      simp only [mE, Bool.and_eq_true, decide_eq_true_eq] at m
      obtain ⟨⟨rfl, m1, ⟨m2, m3⟩, m4⟩, m5, m6, m7⟩ := m
      have hu := g.hu
      exact snd_of (e_get (by omega) m4 m1 m2 m3 (sE o X sc W y g m5).pe (sE k X sc W u g m6).pe (sE e X sc W v g m7).pe) (fun _ _ => rfl) rfl
  | .rev e, X, sc, W, x, g, m => by
    cases x <;> first | (cases m; done) | skip
    rename_i y sl pos
    cases sl <;> first | (cases m; done) | skip
    rename_i l u st p3
    cases l <;> first | (cases m; done) | skip
    cases u <;> first | (cases m; done) | skip
    cases st <;> first | (cases m; done) | skip
    rename_i st
    cases st <;> first | (cases m; done) | skip
    rename_i op z p2
    cases op <;> first | (cases m; done) | skip
    cases z <;> first | (cases m; done) | skip
    rename_i c q p1
    cases c <;> first | (cases m; done) | skip
    simp only [mE, Bool.and_eq_true, decide_eq_true_eq] at m
    obtain ⟨rfl, m1⟩ := m
    exact snd_of (e_rev (sE e X sc W y g m1).pe) (fun _ _ => rfl) rfl
  | .dictT es, X, sc, W, x, g, m => by
    cases x <;> first | (cases m; done) | skip
    rename_i keys vals pos
    match keys, vals, m with
    | [], [], m =>
      simp only [mE] at m
      cases es with
      | nil => exact snd_of e_dictT0 (fun _ _ => rfl) rfl
      | cons a r => cases r <;> simp [mPs] at m
    | [], _ :: _, m => simp [mE] at m
    | [none], _, m => simp [mE] at m
    | [some k], [], m => simp [mE] at m
    | [some k], _ :: _ :: _, m => simp [mE] at m
    | _ :: _ :: _, _, m => simp [mE] at m
    | [some k], [v], m =>
      simp only [mE] at m
      have hu := g.hu
      match es, m with
      | .nil, m => simp [mPs] at m
      | .cons a .nil, m => simp [mPs] at m
      | .cons a (.cons b r), m =>
        simp only [mPs, Bool.and_eq_true] at m
        obtain ⟨m1, m2, m3⟩ := m
        cases r with
        | nil => exact snd_of (e_dictT1 (by omega) (sE a X sc W k g m1).pe (sE b X sc W v g m2).pe) (fun _ _ => rfl) rfl
        | cons c r => cases r <;> simp [mPs] at m3
  | .compD k v t it cd own, X, sc, W, x, g, m => by
    cases x <;> first | (cases m; done) | skip
    rename_i kx vx gens scope pos
    match gens, m with
    | [], m => cases m
    | ⟨_, _, [], _⟩ :: _ :: _, m => cases m
    | ⟨_, _, [_], _⟩ :: _ :: _, m => cases m
    | ⟨_, _, _ :: _ :: _, _⟩ :: _ :: _, m => cases m
    | [⟨tg, iter, ifs, q⟩], m =>
      match ifs, m with
      | [], m => cases m
      | _ :: _ :: _, m => cases m
      | [cx], m =>
        simp only [mE, Bool.and_eq_true, decide_eq_true_eq] at m
        obtain ⟨rfl, hsl, ⟨m1, m2, m3⟩, m4, m5, m6, m7⟩ := m
        have ok : BlkOk X.N X.env.scope scope (ownOf N own) := by
          rw [g.hN, g.hsc]
          exact blkOk_by m1
        have hi := sI it X sc W tg iter g m3 m4
        have hu := g.hu
        have pe := pe_dcT (pos := pos) (kx := kx) (vx := vx) (tk := SE' X (prOf T d) W0 k) (tv := SE' X (prOf T d) W0 v) (tt := ST X (prOf T d) W0 cd) (g := SG X.K t) (by omega) g.calm (by rw [g.hN]; exact g.nd) hi ok (fun s H C cl fp => sG (g.blk s H scope C cl fp) (sto_blk g s H scope C cl fp) m2)
          (fun s H C cl fp => pts_one (sE cd _ _ W0 cx (g.blk s H scope C cl fp) m7).pt) (fun s H C cl fp => (sE k _ _ W0 kx (g.blk s H scope C cl fp) m5).pe) (fun s H C cl fp => (sE v _ _ W0 vx (g.blk s H scope C cl fp) m6).pe) (fold_plain m3)
        refine snd_of (pe.imp ?_) (fun _ _ => rfl) rfl
        intro σ H Q q
        rw [own_back]
        exact compD_imp hsl q
  | .dict es, X, sc, W, x, g, m => by
    cases x <;> first | (cases m; done) | skip
    rename_i keys vals pos
    cases keys <;> first | (cases m; done) | skip
    rename_i k ks
    simp only [mE, Bool.and_eq_true, decide_eq_true_eq] at m
    obtain ⟨⟨m1, m2⟩, m3⟩ := m
    exact snd_of (e_dict m1 m2 (by simp) (mPs_some m3) (mPs_even m3) (sP es X sc W _ _ pos g m3)) (fun _ _ => rfl) rfl
theorem sP : ∀ (es : CEs) (X : Cx) (sc : Scope) (W : WX) (ks : List (Option Expr)) (vs : List Expr) (pos : Pos), Gd X T S d N sc W → mPs S N sc es ks vs = true → PPs X pos ks vs (trsOf X (prOf T d) W es)
  | .nil, X, sc, W, [], [], pos, g, m => pps_nil
  | .nil, X, sc, W, _ :: _, _, pos, g, m => by simp [mPs] at m
  | .nil, X, sc, W, [], _ :: _, pos, g, m => by simp [mPs] at m
  | .cons e .nil, X, sc, W, _, _, pos, g, m => by simp [mPs] at m
  | .cons e (.cons f r), X, sc, W, [], _, pos, g, m => by simp [mPs] at m
  | .cons e (.cons f r), X, sc, W, none :: _, _, pos, g, m => by simp [mPs] at m
  | .cons e (.cons f r), X, sc, W, some k :: ks, [], pos, g, m => by simp [mPs] at m
  | .cons e (.cons f r), X, sc, W, some k :: ks, v :: vs, pos, g, m => by
    simp only [mPs, Bool.and_eq_true] at m
    exact pps_cons (sE e X sc W k g m.1).pe (sE f X sc W v g m.2.1).pe (sP r X sc W ks vs pos g m.2.2)
theorem sA : ∀ (es : CEs) (X : Cx) (sc : Scope) (W : WX) (xs : List Expr), Gd X T S d N sc W → mEs S N sc es xs = true → PA X xs (SA X (prOf T d) W es)
  | .nil, X, sc, W, [], g, m => a_nil
  | .cons e r, X, sc, W, x :: xs, g, m => by
    simp only [mEs, Bool.and_eq_true] at m
    exact a_cons m.1 (sE e X sc W x g m.2.1).pe (sA r X sc W xs g m.2.2)
  | .nil, X, sc, W, _ :: _, g, m => by simp [mEs] at m
  | .cons _ _, X, sc, W, [], g, m => by simp [mEs] at m
theorem sK : ∀ (es : CEs) (X : Cx) (sc : Scope) (W : WX) (xs : List Keyword), Gd X T S d N sc W → mKs S N sc es xs = true → PK X xs (SA X (prOf T d) W es)
  | .nil, X, sc, W, [], g, m => k_nil
  | .cons e r, X, sc, W, ⟨some n, x, kp⟩ :: xs, g, m => by
    simp only [mKs, Bool.and_eq_true] at m
    exact k_cons (sE e X sc W x g m.2.1).pe (sK r X sc W xs g m.2.2)
  | .cons _ _, X, sc, W, ⟨none, x, kp⟩ :: xs, g, m => by simp [mKs] at m
  | .nil, X, sc, W, _ :: _, g, m => by simp [mKs] at m
  | .cons _ _, X, sc, W, [], g, m => by simp [mKs] at m
theorem sO : ∀ (o : CO) (X : Cx) (sc : Scope) (W : WX) (x : Option Expr), Gd X T S d N sc W → mO S N sc o x = true → PO X x (SO_ X (prOf T d) W o)
  | .none, X, sc, W, none, g, m => o_none
  | .some e, X, sc, W, some x, g, m => o_some (sE e X sc W x g (by simpa [mO] using m)).pe
  | .none, X, sc, W, some _, g, m => by simp [mO] at m
  | .some _, X, sc, W, none, g, m => by simp [mO] at m
theorem sI : ∀ (it : CI) (X : Cx) (sc : Scope) (W : WX) (tg x : Expr), Gd X T S d N sc W → plainE x = true → mI S N sc it tg x = true → PI X tg x (SI X (prOf T d) W it)
  | .it e, X, sc, W, tg, x, g, hp, m => i_it (sE e X sc W x g (by simpa [mI] using m)).pe
  | .range1 e, X, sc, W, tg, x, g, hp, m => by
    cases x <;> first | (cases m; done) | skip
    rename_i fn xs kws pos
    cases fn <;> first | (cases m; done) | skip
    match xs, kws, m with
    | [], _, m => cases m
    | _ :: _ :: _, _, m => cases m
    | [_], _ :: _, m => cases m
    | [y], [], m =>
      simp only [mI, Bool.and_eq_true, decide_eq_true_eq] at m
      obtain ⟨⟨rfl, m1⟩, m2, m3⟩ := m
      exact i_r1 g m1 m2 (sE e X sc W y g m3).pe
  | .range2 e f, X, sc, W, tg, x, g, hp, m => by
    cases x <;> first | (cases m; done) | skip
    rename_i fn xs kws pos
    cases fn <;> first | (cases m; done) | skip
    match xs, kws, m with
    | [], _, m => cases m
    | [_], _, m => cases m
    | _ :: _ :: _ :: _, _, m => cases m
    | [_, _], _ :: _, m => cases m
    | [y, z], [], m =>
      simp only [mI, Bool.and_eq_true, decide_eq_true_eq] at m
      obtain ⟨⟨rfl, m1⟩, ⟨m2, m3⟩, m4, m5⟩ := m
      exact i_r2 g m1 m2 m4 (sE e X sc W y g m3).pe (sE f X sc W z g m5).pe
  | .enum e, X, sc, W, tg, x, g, hp, m => by
    cases tg <;> first | (cases m; done) | skip
    cases x <;> first | (cases m; done) | skip
    rename_i fn xs kws pos
    cases fn <;> first | (cases m; done) | skip
    match xs, kws, m with
    | [], _, m => cases m
    | _ :: _ :: _, _, m => cases m
    | [_], _ :: _, m => cases m
    | [y], [], m =>
      simp only [mI, Bool.and_eq_true, decide_eq_true_eq] at m
      obtain ⟨⟨rfl, m1⟩, m2, m3⟩ := m
      exact i_en g m1 m2 (sE e X sc W y g m3).pe
  | .zip2 e f, X, sc, W, tg, x, g, hp, m => by
    cases tg <;> first | (cases m; done) | skip
    cases x <;> first | (cases m; done) | skip
    rename_i fn xs kws pos
    cases fn <;> first | (cases m; done) | skip
    match xs, kws, m with
    | [], _, m => cases m
    | [_], _, m => cases m
    | _ :: _ :: _ :: _, _, m => cases m
    | [_, _], _ :: _, m => cases m
    | [y, z], [], m =>
      simp only [mI, Bool.and_eq_true, decide_eq_true_eq] at m
      obtain ⟨⟨rfl, m1⟩, ⟨m2, m3⟩, m4, m5⟩ := m
      exact i_z2 g m1 m2 m4 (sE e X sc W y g m3).pe (sE f X sc W z g m5).pe
  | .zip3 a b c, X, sc, W, tg, x, g, hp, m => by
    cases tg <;> cases x <;> cases m
  | .items e, X, sc, W, tg, x, g, hp, m => by
    cases tg <;> first | (cases m; done) | skip
    cases x <;> first | (cases m; done) | skip
    rename_i fn xs kws cpos
    cases fn <;> first | (cases m; done) | skip
    rename_i y n apos
    match xs, kws, m with
    | _ :: _, _, m => cases m
    | [], _ :: _, m => cases m
    | [], [], m =>
      simp only [mI, Bool.and_eq_true, decide_eq_true_eq] at m
      obtain ⟨⟨rfl, m1, m2⟩, m3⟩ := m
      exact i_items m2 m1 (sE e X sc W y g m3).pe
  | .keys e, X, sc, W, tg, x, g, hp, m => i_keys (sE e X sc W x g (by simpa [mI] using m)).pe
end
end
end Ws
end

section
set_option Elab.async false
set_option linter.all false
set_option maxRecDepth 100000
set_option autoImplicit false
/-! What the simple interpreter says of statements holds of the machine. -/
namespace Ws
open PySem PySem.Spec PyProof.Rows L2

/-- what a run of statements promises -/
def OutR (K : PySem.W.Frag) (mg : Str → Option Value) (W : WX) (o : Out) (H : Hp) (M : Ms) (D : Ends) : Prop := match o with
  | .nx env h => ∀ (H' : Hp) (M' : Ms) (σ : L2.St), Evo H M H' M' → At K env h M' σ H' → D.nx σ H'
  | .bk env h => ∀ (H' : Hp) (M' : Ms) (σ : L2.St), Evo H M H' M' → At K env h M' σ H' → D.bk σ H'
  | .ct env h => ∀ (H' : Hp) (M' : Ms) (σ : L2.St), Evo H M H' M' → At K env h M' σ H' → D.ct σ H'
  | .rt v h => ∀ (H' : Hp) (M' : Ms) (x : V), Evo H M H' M' → RH K H' M' h → Rep K H' M' v x → D.rt x H'
  | .err c v env h => ∀ (H' : Hp) (M' : Ms) (cls : Value) (d : Addr) (x : V) (σ : L2.St), Evo H M H' M' → RS K H' M' env σ → RH K H' M' h → mg c = some cls → H' d = some (.xd [("value", x)]) → Rep K H' M' v x → W cls (some d) σ H'
  | .bad => False

def SS (X : Cx) (p : Pr) (W : WX) (s : CS) : TS := fun D σ H => ∃ env h M, At X.K env h M σ H ∧ OutR X.K X.mg W (evS p s env h) H M D
def SSs (X : Cx) (p : Pr) (W : WX) (s : CSs) : TS := fun D σ H => ∃ env h M, At X.K env h M σ H ∧ OutR X.K X.mg W (evSs p s env h) H M D

section
variable {K : PySem.W.Frag} {mg : Str → Option Value} {W : WX} {o : Out} {H H' : Hp} {M M' : Ms} {D : Ends} {env : SE} {h h' : SH} {σ : L2.St}
theorem OutR.from (q : OutR K mg W o H M D) (e : Evo H M H' M') : OutR K mg W o H' M' D := by
  cases o with
  | nx env h => exact fun H2 M2 σ e2 a => q H2 M2 σ (e.trans e2) a
  | bk env h => exact fun H2 M2 σ e2 a => q H2 M2 σ (e.trans e2) a
  | ct env h => exact fun H2 M2 σ e2 a => q H2 M2 σ (e.trans e2) a
  | rt v h => exact fun H2 M2 x e2 r a => q H2 M2 x (e.trans e2) r a
  | err c v env h => exact fun H2 M2 cls d x σ e2 rs r hc hd rx => q H2 M2 cls d x σ (e.trans e2) rs r hc hd rx
  | bad => exact q
/-- an expression ahead -/
theorem OutR.of {α : Type} {r : Res α} {f : α → SH → Out} (a : At K env h M σ H) (q : OutR K mg W (Out.of env r f) H M D) : SemR K mg r H M (WE W σ) fun x h1 H1 M1 => OutR K mg W (f x h1) H1 M1 D := by
  cases r with
  | ok x h1 => exact fun H1 M1 e r => OutR.from q e
  | err c v h1 => exact fun H1 M1 cls d x e r hc hd rx => q H1 M1 cls d x σ e (a.rs.mono e) r hc hd rx
  | bad => exact q
theorem At.wipe (a : At K env h M σ H) (ks : List Nat) : At K (wipeE env ks) h M σ H := ⟨a.rs.wipeL ks, a.rh⟩
theorem At.set {i : Nat} {v : SV} {x : V} (a : At K env h M σ H) (r : Rep K H M v x) : At K (env.set i (some v)) h M (σ.set i (some x)) H := ⟨a.rs.set r, a.rh⟩
/-- D with one end put in -/
theorem OutR.nx (q : OutR K mg W (.nx env h) H M D) (a : At K env h M σ H) : D.nx σ H := q H M σ .refl a
end

section
variable {X : Cx} {T : Tb} {S : Pt} {d : Nat} {N : List Str} {sc : Scope} {W : WX} {p : Pr}
theorem ss_nil : PSs X [] (SSs X p W .nil) := by
  refine pss_nil.imp ?_
  rintro D σ H ⟨env, h, M, a, q⟩
  exact q.nx a
theorem ss_cons {s : CS} {r : CSs} {st : Stmt} {rest : List Stmt} (h1 : PS X st (SS X p W s)) (h2 : PSs X rest (SSs X p W r)) : PSs X (st :: rest) (SSs X p W (.cons s r)) := by
  refine (pss_cons h1 h2).imp ?_
  rintro D σ H ⟨env, h, M, a, q⟩
  refine ⟨env, h, M, a, ?_⟩
  have q' : OutR X.K X.mg W (match evS p s env h with
    | .nx env h => evSs p r env h
    | o => o) H M D := q
  cases e : evS p s env h with
  | nx env1 h1 =>
    rw [e] at q'
    intro H' M' σ' ev a'
    exact ⟨env1, h1, M', a', OutR.from q' ev⟩
  | bk env1 h1 => rw [e] at q'; exact q'
  | ct env1 h1 => rw [e] at q'; exact q'
  | rt v h1 => rw [e] at q'; exact q'
  | err c v env1 h1 => rw [e] at q'; exact q'
  | bad => rw [e] at q'; exact q'
theorem ss_kill {ks : List Nat} {r : CSs} {rest : List Stmt} (h2 : PSs X rest (SSs X p W r)) : PSs X rest (SSs X p W (.kill ks r)) := by
  refine h2.imp ?_
  rintro D σ H ⟨env, h, M, a, q⟩
  exact ⟨wipeE env ks, h, M, a.wipe ks, q⟩
theorem s_nev {st : Stmt} : PS X st (SS X p W .nev) := by
  refine ps_never.imp ?_
  rintro D σ H ⟨env, h, M, a, q⟩
  exact q
theorem s_pass {pos : Pos} : PS X (.Pass pos) (SS X p W .pass) := by
  refine ps_pass.imp ?_
  rintro D σ H ⟨env, h, M, a, q⟩
  exact q.nx a
theorem s_brk {pos : Pos} : PS X (.Break pos) (SS X p W .brk) := by
  refine ps_break.imp ?_
  rintro D σ H ⟨env, h, M, a, q⟩
  exact q H M σ .refl a
theorem s_cnt {pos : Pos} : PS X (.Continue pos) (SS X p W .cnt) := by
  refine ps_continue.imp ?_
  rintro D σ H ⟨env, h, M, a, q⟩
  exact q H M σ .refl a
theorem s_retN {pos : Pos} : PS X (.Return none pos) (SS X p W .retN) := by
  refine ps_retN.imp ?_
  rintro D σ H ⟨env, h, M, a, q⟩
  exact q H M _ .refl a.rh .non
theorem s_ret {e : CE} {x : Expr} {pos : Pos} (hx : PE X x (SE' X p W e)) : PS X (.Return (some x) pos) (SS X p W (.ret e)) := by
  refine (ps_ret hx).imp ?_
  rintro D σ H ⟨env, h, M, a, q⟩
  refine ⟨env, h, M, a, (OutR.of a q).mono ?_⟩
  intro v h1 H1 M1 e1 r1 q1 y ry
  exact q1 H1 M1 y .refl r1 ry
theorem s_cond {t : CE} {u w : CSs} {x : Expr} {us ws : List Stmt} {pos : Pos} (hx : PT X x (ST X p W t)) (hu : PSs X us (SSs X p W u)) (hw : PSs X ws (SSs X p W w)) : PS X (.If x us ws pos) (SS X p W (.cond t u w)) := by
  refine (ps_if hx hu hw).imp ?_
  rintro D σ H ⟨env, h, M, a, q⟩
  refine ⟨env, h, M, a, (OutR.of a q).mono ?_⟩
  intro b h1 H1 M1 e1 r1 q1
  cases b with
  | true => exact ⟨env, h1, M1, a.go e1 r1, q1⟩
  | false => exact ⟨env, h1, M1, a.go e1 r1, q1⟩
theorem s_expr {e : CE} {x : Expr} {pos : Pos} (hc : compE x = false) (hx : PE X x (SE' X p W e)) : PS X (.Expr x pos) (SS X p W (.expr e)) := by
  refine (ps_expr hx (by cases x <;> first | rfl | cases hc)).imp ?_
  rintro D σ H ⟨env, h, M, a, q⟩
  refine ⟨env, h, M, a, (OutR.of a q).mono ?_⟩
  intro v h1 H1 M1 e1 r1 q1 y ry
  exact q1 H1 M1 σ .refl (a.go e1 r1)

/-! ### stores -/
/-- the end of a store of a value -/
theorem store_end {t : CT} {e : CE} {D : Ends} {σ : L2.St} {H : Hp} {env : SE} {h : SH} {M : Ms} (a : At X.K env h M σ H)
    (q : OutR X.K X.mg W (Out.of env (ev p e env h) fun x h => match store t x env with
      | some env2 => .nx env2 h
      | none => .bad) H M D) : SE' X p W e σ H fun x H1 => SG X.K t x σ H1 D.nx := by
  refine ⟨env, h, M, a, (OutR.of a q).mono ?_⟩
  intro v h1 H1 M1 e1 r1 q1 y ry
  cases es : store t v env with
  | none => rw [es] at q1; exact q1.elim
  | some env2 =>
    rw [es] at q1
    exact SG.mk (a.go e1 r1).rs ry es fun σ' rs' _ => q1 H1 M1 σ' .refl ⟨rs', r1⟩
theorem swap_none {x : Expr} {t : Option Expr} {l : Nat} (hc : compE x = false) : swapsWith x t l X.env = pure false := by
  cases x <;> first | rfl | cases hc
theorem s_setT {t : CT} {e : CE} {tg x : Expr} {pos : Pos} (hn : (∃ n p, tg = .Name n p) ∨ ∃ es k p, tg = .Tuple es k p) (hc : compE x = false) (hw : swappedStores [tg] x X.env = pure none) (hx : PE X x (SE' X p W e)) (hg : PG X tg (SG X.K t)) :
    PS X (.Assign [tg] x pos) (SS X p W (.set t e)) := by
  have h1 : (assignEach [tg] X.env).map (·.2) = [assign tg X.env] := (asg_plain (xs := []) hn).1
  have hs : swapsWithSole [tg] x pos.line X.env = pure false := swap_none hc
  refine (ps_asg hx hg hs hw h1).imp ?_
  rintro D σ H ⟨env, h, M, a, q⟩
  exact store_end a q
/-- one plain name: stored by gName -/
theorem gname_end {i : Nat} {e : CE} {D : Ends} {σ : L2.St} {H : Hp} {env : SE} {h : SH} {M : Ms} (a : At X.K env h M σ H)
    (q : OutR X.K X.mg W (Out.of env (ev p e env h) fun x h => match store (.name i) x env with
      | some env2 => .nx env2 h
      | none => .bad) H M D) : SE' X p W e σ H fun x H1 => gName i x σ H1 D.nx := by
  refine ⟨env, h, M, a, (OutR.of a q).mono ?_⟩
  intro v h1 H1 M1 e1 r1 q1 y ry
  exact q1 H1 M1 _ .refl ((a.go e1 r1).set ry)
theorem s_setIx {o i e : CE} {ox ix x : Expr} {sp pos : Pos} (hu : X.A.units + 1 < cLine) (hc : compE x = false) (hp : plainE ix = true) (ho : PE X ox (SE' X p W o)) (hi : PE X ix (SE' X p W i)) (hx : PE X x (SE' X p W e)) :
    PS X (.Assign [.Subscript ox ix sp] x pos) (SS X p W (.setIx o i e)) := by
  have ha : ∀ v, assign (.Subscript ox ix sp) X.env v = (do
      let ov ← holding [v] (eval ox X.env)
      let iv ← holding [v, ov] (eval ix X.env)
      standAt sp
      holding [v, ov, iv] (setItem ov iv v)
      release [v, ov, iv] []) := by
    intro v
    cases ix <;> first | rfl | cases hp
  have hs : swapsWithSole [.Subscript ox ix sp] x pos.line X.env = pure false := by
    show swapsWith x (some (.Subscript ox ix sp)) pos.line X.env = pure false
    exact swap_none hc
  refine (ps_asg hx (pg_sub ho hi (set_any hu) ha) hs rfl rfl).imp ?_
  rintro D σ H ⟨env, h, M, a, q⟩
  refine ⟨env, h, M, a, (OutR.of a q).mono ?_⟩
  intro v h1 H1 M1 e1 r1 q1 y ry
  have a1 := a.go e1 r1
  refine ⟨env, h1, M1, a1, (OutR.of a1 q1).mono ?_⟩
  intro vo h2 H2 M2 e2 r2 q2 yo ryo
  have a2 := a1.go e2 r2
  refine ⟨env, h2, M2, a2, (OutR.of a2 q2).mono ?_⟩
  intro vi h3 H3 M3 e3 r3 q3 yi ryi
  cases es : setIxH vo vi v h3 with
  | none => rw [es] at q3; exact q3.elim
  | some h4 =>
    rw [es] at q3
    exact ⟨vo, vi, v, h3, h4, M3, r3, ryo.mono e3, ryi, (ry.mono e2).mono e3, es, fun H' M' ev rh => q3 H' M' σ ev ⟨(a2.go e3 r3).rs.mono ev, rh⟩⟩

/-! ### l.append(x), l.extend(x) -/
theorem mt_extendS : MtM X "list.extend" (fun x vs H Q => ∃ l b xs zs M, x = .ref l ∧ vs = [.ref b] ∧ H l = some (.lst xs) ∧ Lp X.K H M b zs ∧ xs.length + zs.length ≤ sizeLine ∧ Q .non (upd H l (.lst (xs ++ zs)))) := by
  intro pins s σ H x vs v us Q I rx rv h
  obtain ⟨l, b, xs, zs, M, rfl, rfl, hl, hb, hz, q⟩ := h
  cases rx
  obtain ⟨u, rfl, ru⟩ := rv.one
  cases ru
  obtain ⟨its, n, r, _, e⟩ := Lp.obj (M := ⟨[], []⟩) I (.inl ⟨⟨List.not_mem_nil, List.not_mem_nil⟩, .inl hl⟩)
  obtain ⟨its2, n2, r2, _, e2⟩ := hb.obj I
  have h1 := r.length
  have h2 := r2.length
  have size : its.toArray.size + its2.toArray.size ≤ sizeLine := by
    rw [List.size_toArray, List.size_toArray]
    omega
  have short : ¬ (!its.toArray.isEmpty && Builtin.List.listTooLong (its.toArray.size + its2.toArray.size)) = true := by
    rw [notLongL size, Bool.and_false]
    decide
  have rule := AutoSeq1.list_extend_list_list_0 l its.toArray n b its2.toArray n2 short (by rw [List.size_toArray]; omega) (by omega)
  refine call_meets F.slot_list_extend ⟨_, e, rfl⟩ F.entry_list_extend (F.args_list_extend_2 _ _) rule ⟨e, e2, ?_⟩
  refine ⟨.non, _, I.lset (its' := its ++ its2) hl e (by simp) (r.append r2) ?_, rfl, q⟩
  rw [List.length_append]
  exact hz
theorem few_plain {y : Expr} {env : Env} {pos : Pos} (h : plainE y = true) : ((backTo pos (starEach [y] env)).all (fun x => !x.1) && (backToKw pos (keywordEach [] env)).all (fun x => x.1.isSome) &&
    decide (([y] : List Expr).length + ([] : List Keyword).length + (if ([] : List Keyword).isEmpty then 0 else 1) < 30)) = true := by
  rw [star_plain h]
  rfl
theorem isL_rep {K : PySem.W.Frag} {v : SV} {h : SH} {H : Hp} {M : Ms} {z : V} (r : RH K H M h) (rz : Rep K H M v z) (e : isL h v = true) : ∃ n l xs, v = .ref n ∧ z = .ref l ∧ M.c[n]? = some l ∧ H l = some (.lst xs) := by
  cases v with
  | ref n =>
    obtain ⟨l, rfl, hm⟩ := rz.ref_inv
    simp only [isL] at e
    split at e
    · rename_i ys hn
      obtain ⟨vs, g, _⟩ := r.lst hm hn
      exact ⟨n, l, vs, rfl, rfl, hm, g⟩
    · cases e
  | _ => cases e
theorem appH_eq {n : Nat} {ys : List SV} {h h2 : SH} (e : appH (.ref n) ys h = some h2) : ∃ xs, h[n]? = some (.lst xs) ∧ xs.length + ys.length ≤ seqLen ∧ h2 = h.set n (.lst (xs ++ ys)) := by
  simp only [appH] at e
  split at e
  · rename_i xs hn
    obtain ⟨c, rfl⟩ := ifs e
    exact ⟨xs, hn, of_decide_eq_true c, rfl⟩
  · cases e
theorem s_append {o e : CE} {x y : Expr} {apos cpos pos : Pos} (hx : attrB x = true) (hl : (apos.endLine == cpos.line) = true) (hp : plainE y = true) (ho : PE X x (SE' X p W o)) (he : PE X y (SE' X p W e)) :
    PS X (.Expr (.Call (.Attribute x "append" apos) [y] [] cpos) pos) (SS X p W (.append o e)) := by
  have hb : attributeBase x "append" X.env (eval x X.env) = eval x X.env := by cases x <;> first | rfl | cases hx
  refine (ps_expr (pe_bm PySem.F.plainAttrs_list PySem.F.slot_list_append PySem.F.type_list_append mt_append ho (pa_cons he pa_nil (star_plain hp)) hb (few_plain hp) hl (star_plain hp) rfl) rfl).imp ?_
  rintro D σ H ⟨env, h, M, a, q⟩
  refine ⟨env, h, M, a, (OutR.of a q).mono ?_⟩
  intro v h1 H1 M1 e1 r1 q1 z rz
  have a1 := a.go e1 r1
  split at q1
  · rename_i c
    obtain ⟨n, l, xs, rfl, rfl, hm, g⟩ := isL_rep r1 rz c
    refine ⟨.inl ⟨rfl, xs, .inl (.inl g)⟩, env, h1, M1, a1, (OutR.of a1 q1).mono ?_⟩
    intro w h2 H2 M2 e2 r2 q2 t rt
    cases es : appH (.ref n) [w] h2 with
    | none => rw [es] at q2; exact q2.elim
    | some h3 =>
      rw [es] at q2
      obtain ⟨ys, hn, hz, rfl⟩ := appH_eq es
      have hm2 := e2.get hm
      obtain ⟨vs, g2, ll⟩ := r2.lst hm2 hn
      have lw : RepL X.K H2 M2 [w] [t] := .cons rt .nil
      have ev := Evo.write (u := .lst (vs ++ [t])) r2 (List.mem_of_getElem? hm2) (.lst g2)
      refine ⟨l, vs, t, rfl, rfl, g2, ?_, ?_⟩
      · rw [← ll.length, sizeLine_eq]
        have : seqLen = 16777216 := rfl
        simp only [List.length_cons, List.length_nil] at hz
        omega
      · exact q2 _ M2 σ ev ⟨((a1.go e2 r2).rs).mono ev, RH.write r2 hm2 (.lst g2) (.lst (ll.append lw))⟩
  · exact q1.elim
theorem s_extend {o e : CE} {x y : Expr} {apos cpos pos : Pos} (hx : attrB x = true) (hl : (apos.endLine == cpos.line) = true) (hp : plainE y = true) (ho : PE X x (SE' X p W o)) (he : PE X y (SE' X p W e)) :
    PS X (.Expr (.Call (.Attribute x "extend" apos) [y] [] cpos) pos) (SS X p W (.extend o e)) := by
  have hb : attributeBase x "extend" X.env (eval x X.env) = eval x X.env := by cases x <;> first | rfl | cases hx
  refine (ps_expr (pe_bm PySem.F.plainAttrs_list PySem.F.slot_list_extend PySem.F.type_list_extend mt_extendS ho (pa_cons he pa_nil (star_plain hp)) hb (few_plain hp) hl (star_plain hp) rfl) rfl).imp ?_
  rintro D σ H ⟨env, h, M, a, q⟩
  refine ⟨env, h, M, a, (OutR.of a q).mono ?_⟩
  intro v h1 H1 M1 e1 r1 q1 z rz
  have a1 := a.go e1 r1
  split at q1
  · rename_i c
    obtain ⟨n, l, xs, rfl, rfl, hm, g⟩ := isL_rep r1 rz c
    refine ⟨.inl ⟨rfl, xs, .inl (.inl g)⟩, env, h1, M1, a1, (OutR.of a1 q1).mono ?_⟩
    intro w h2 H2 M2 e2 r2 q2 t rt
    cases w with
    | lst ws =>
      simp only [listItems] at q2
      cases es : appH (.ref n) ws h2 with
      | none => rw [es] at q2; exact q2.elim
      | some h3 =>
        rw [es] at q2
        obtain ⟨ys, hn, hz, rfl⟩ := appH_eq es
        have hm2 := e2.get hm
        obtain ⟨vs, g2, ll⟩ := r2.lst hm2 hn
        obtain ⟨b, us, rfl, lp, lw⟩ := rt.lst_inv
        have ev := Evo.write (u := .lst (vs ++ us)) r2 (List.mem_of_getElem? hm2) (.lst g2)
        refine ⟨l, b, vs, us, M2, rfl, rfl, g2, lp, ?_, ?_⟩
        · rw [← ll.length, ← lw.length, sizeLine_eq]
          exact hz
        · exact q2 _ M2 σ ev ⟨((a1.go e2 r2).rs).mono ev, RH.write r2 hm2 (.lst g2) (.lst (ll.append lw))⟩
    | _ => exact q2.elim
  · exact q1.elim
end
end Ws
end

section
set_option Elab.async false
set_option linter.all false
set_option maxRecDepth 100000
set_option autoImplicit false
/-! What the simple interpreter says of statements holds of the machine: loops, pairs, blocks. -/
namespace Ws
open PySem PySem.Spec PyProof.Rows L2
section
variable {X : Cx} {T : Tb} {S : Pt} {d : Nat} {N : List Str} {sc : Scope} {W : WX} {p : Pr}

/-! ### loops -/
theorem loopF_cons {kill : List Nat} {body : SV → SE → SH → Out} {x : SV} {xs : List SV} {env : SE} {h : SH} : loopF kill body (x :: xs) env h = match body x env h with
    | .nx e h1 => loopF kill body xs (wipeE e kill) h1
    | .ct e h1 => loopF kill body xs (wipeE e kill) h1
    | .bk e h1 => .nx (wipeE e kill) h1
    | .rt v h1 => .rt v h1
    | .err c v e h1 => .err c v e h1
    | .bad => .bad := by
  rw [loopF]
  try (cases body x env h <;> rfl)
/-- the state of a loop at turn i -/
def LoopAt (K : PySem.W.Frag) (mg : Str → Option Value) (W : WX) (kill : List Nat) (body : SV → SE → SH → Out) (xs : List SV) (H1 : Hp) (M1 : Ms) (D : Ends) (i : Nat) (σ : L2.St) (H : Hp) : Prop :=
  ∃ env h M, Evo H1 M1 H M ∧ At K env h M σ H ∧ OutR K mg W (loopF kill body (xs.drop i) env h) H M D
theorem s_loop {t : CT} {it : CI} {body : CSs} {kill : List Nat} {tg iter : Expr} {b : List Stmt} {pos : Pos} (po : PassesOwn (model X.prog X.w) X.A X.env X.xe) (hc : X.calm = true) (hp : plainE iter = true)
    (hi : PI X tg iter (SI X p W it)) (hg : PG X tg (SG X.K t)) (hb : PSs X b (SSs X p W body)) : PS X (.For tg iter b [] pos) (SS X p W (.loop t it body kill)) := by
  refine (ps_for po hc hi hg hb (fold_plain hp)).imp ?_
  rintro D σ H ⟨env, h, M, a, q⟩
  refine ⟨env, h, M, a, (OutR.of a q).mono ?_⟩
  intro xs h1 H1 M1 e1 r1 q1 J sn
  have a1 := a.go e1 r1
  generalize hbody : (fun (x : SV) (env : SE) (h : SH) => match store t x env with
    | some env2 => evSs p body env2 h
    | none => Out.bad) = bf at q1
  refine ⟨fun i m σ H => i ≤ xs.length ∧ m = xs.length - i ∧ LoopAt X.K X.mg W kill bf xs H1 M1 D i σ H, ⟨xs.length, Nat.zero_le _, by simp, env, h1, M1, .refl, a1, by rw [List.drop_zero]; exact q1⟩, ?_⟩
  rintro i m σ2 H2 ⟨hi, rfl, env2, h2, M2, ev2, a2, q2⟩
  by_cases hlt : i < xs.length
  · refine .inr ⟨sn.go i H2 M2 ev2.ext hlt, fun σ' H' => LoopAt X.K X.mg W kill bf xs H1 M1 D (i + 1) σ' H', fun σ' H' n => ⟨xs.length - (i + 1), by omega, by omega, rfl, n⟩, ?_⟩
    intro x H' y
    have hx : xs[i]? = some xs[i] := List.getElem?_eq_getElem hlt
    obtain ⟨ev3, rh3, rx⟩ := sn.yld i H2 M2 h2 x H' xs[i] ev2.ext a2.rh hx y
    rw [List.drop_eq_getElem_cons hlt, loopF_cons, ← hbody] at q2
    simp only at q2
    cases es : store t xs[i] env2 with
    | none => rw [es] at q2; exact q2.elim
    | some env3 =>
      rw [es] at q2
      simp only at q2
      rw [hbody] at q2
      refine SG.mk (a2.rs.mono ev3) rx es ?_
      intro σ3 rs3 _
      refine ⟨env3, h2, M2, ⟨rs3, rh3⟩, ?_⟩
      have q3 := OutR.from q2 ev3
      have ev13 := ev2.trans ev3
      cases eo : evSs p body env3 h2 with
      | nx e h3 =>
        rw [eo] at q3
        intro H4 M4 σ4 ev4 a4
        exact ⟨wipeE e kill, h3, M4, ev13.trans ev4, a4.wipe kill, OutR.from q3 ev4⟩
      | ct e h3 =>
        rw [eo] at q3
        intro H4 M4 σ4 ev4 a4
        exact ⟨wipeE e kill, h3, M4, ev13.trans ev4, a4.wipe kill, OutR.from q3 ev4⟩
      | bk e h3 =>
        rw [eo] at q3
        intro H4 M4 σ4 ev4 a4
        exact q3 H4 M4 σ4 ev4 (a4.wipe kill)
      | rt v h3 => rw [eo] at q3; exact q3
      | err c v e h3 => rw [eo] at q3; exact q3
      | bad => rw [eo] at q3; exact q3
  · have e : i = xs.length := by omega
    subst e
    rw [List.drop_length] at q2
    exact .inl ⟨sn.stop H2 M2 ev2.ext, q2 H2 M2 σ2 .refl a2⟩

/-! ### pairs and triples of plain names -/
theorem kind_block (hk : X.env.scope.kind = .function) : X.env.blockKind = .function := by
  unfold Env.blockKind
  rw [hk]
  rfl
theorem kindOf_eq (hs : X.env.scope = sc) {x : Str} {k : NameKind} (h : sc.names.lookup x = some k) : X.env.kindOf x = some k := by
  show X.env.scope.names.lookup x = _
  rw [hs]
  exact h
def starB : Expr → Bool
  | .Starred .. => true
  | _ => false
theorem noStar1 {u : Expr} (hu : plainE u = true) : ¬ starB u = true := by
  cases u <;> first | (intro q; cases q; done) | cases hu
theorem par_swap (hs : X.env.scope = sc) (hk : sc.kind = .function) {x y : Str} {px py : Pos} {u v : Expr} {kt pt k2 pt2} (hu : plainE u = true) (hv : plainE v = true) (h : parB sc x y px py u v = true) :
    swappedStores [.Tuple [.Name x px, .Name y py] kt pt] (.Tuple [u, v] k2 pt2) X.env = pure (some [x, y]) := by
  unfold parB at h
  simp only [Bool.and_eq_true, decide_eq_true_eq, Bool.not_eq_true', beq_eq_false_iff_ne, beq_iff_eq] at h
  obtain ⟨⟨⟨hx, hy⟩, hl, hne⟩, h1, h2⟩ := h
  have bk := kind_block (X := X) (by rw [hs]; exact hk)
  have kx := kindOf_eq hs hx
  have ky := kindOf_eq hs hy
  have nu := noStar1 hu
  have nv := noStar1 hv
  unfold swappedStores
  simp [bk, kx, ky, hl, h1, h2, hne, Pos.line, List.filterMap_cons, Expr.pos]
  rw [if_neg (by rintro (q | q); exact nu q; exact nv q)]
  have ed : [x, y].eraseDups = [x, y] := by
    have hne' : ¬ y = x := fun e => hne e.symm
    simp [List.eraseDups_cons, hne']
  simp [ed]
theorem par3_swap (hs : X.env.scope = sc) (hk : sc.kind = .function) {x y z : Str} {px py pz : Pos} {u v w : Expr} {kt pt k2 pt2} (hu : plainE u = true) (hv : plainE v = true) (hw : plainE w = true) (h : par3B sc x y z px py pz u v w = true) :
    swappedStores [.Tuple [.Name x px, .Name y py, .Name z pz] kt pt] (.Tuple [u, v, w] k2 pt2) X.env = pure (some [x, y, z]) := by
  unfold par3B at h
  simp only [Bool.and_eq_true, decide_eq_true_eq, Bool.not_eq_true', beq_eq_false_iff_ne, beq_iff_eq] at h
  obtain ⟨⟨⟨hx, hy, hz⟩, ⟨hl, hl2⟩, hne, hne2, hne3⟩, h1, h2⟩ := h
  have bk := kind_block (X := X) (by rw [hs]; exact hk)
  have kx := kindOf_eq hs hx
  have ky := kindOf_eq hs hy
  have kz := kindOf_eq hs hz
  have nu := noStar1 hu
  have nv := noStar1 hv
  have nw := noStar1 hw
  unfold swappedStores
  simp [bk, kx, ky, kz, hl, hl2, h1, h2, hne, hne2, hne3, Pos.line, List.filterMap_cons, Expr.pos]
  rw [if_neg (by rintro (q | q | q); exact nu q; exact nv q; exact nw q)]
  have ed : [x, y, z].eraseDups = [x, y, z] := by
    have a1 : ¬ y = x := fun e => hne e.symm
    have a2 : ¬ z = x := fun e => hne2 e.symm
    have a3 : ¬ z = y := fun e => hne3 e.symm
    simp [List.eraseDups_cons, a1, a2, a3]
  simp [ed]
/-- a tuple of constants: no swap -/
theorem noSwap_ok {tg x : Expr} {ts : List Expr} {k : Nat} {tp : Pos} (h : noSwap x = true) : swappedStores [.Tuple ts k tp] x X.env = pure none := by
  cases x with
  | Tuple vs k2 p2 =>
    have h' : vs.all (foldedForSure 8) = true := h
    unfold swappedStores
    simp [h']
  | _ => rfl
end
end Ws
end

section
set_option Elab.async false
set_option linter.all false
set_option maxRecDepth 100000
set_option autoImplicit false
/-! What the simple interpreter says of a def holds of the machine. -/
namespace Ws
open PySem PySem.Spec PyProof.Rows L2

/-- where statements may be run -/
structure Gs (X : Cx) (T : Tb) (S : Pt) (d : Nat) (N : List Str) (sc : Scope) (W : WX) : Prop where
  g : Gd X T S d N sc W
  kind : sc.kind = .function
  po : PassesOwn (model X.prog X.w) X.A X.env X.xe
  sto : Sto X sc none
section
variable {X : Cx} {T : Tb} {S : Pt} {d : Nat} {N : List Str} {sc : Scope} {W : WX} {p : Pr}
theorem swap_comp (hs : X.env.scope = sc) (hk : sc.kind = .function) {el : Expr} {gens : List Comprehension} {scope : Scope} {vp : Pos} {t : Str} {px : Pos} {l : Nat} :
    swapsWith (.ListComp el gens scope vp) (some (.Name t px)) l X.env = pure (swB sc (.ListComp el gens scope vp) t px) := by
  have bk := kind_block (X := X) (by rw [hs]; exact hk)
  have e : (X.env.kindOf t == some NameKind.local) = decide (sc.names.lookup t = some .local) := by
    show (X.env.scope.names.lookup t == some NameKind.local) = _
    rw [hs]
    cases sc.names.lookup t with
    | none => rfl
    | some k => cases k <;> rfl
  show (pure (X.env.blockKind == .function && X.env.kindOf t == some .local && px.line == vp.line && !(scope.names.any fun (n, k) => n == t && (k == .local || k == .cell))) : Sem Bool) = _
  rw [bk, e]
  rfl
theorem swB_local {el : Expr} {gens : List Comprehension} {scope : Scope} {vp : Pos} {t : Str} {px : Pos} (h : swB sc (.ListComp el gens scope vp) t px = true) : sc.names.lookup t = some .local := by
  unfold swB at h
  simp only [Bool.and_eq_true, decide_eq_true_eq] at h
  exact h.1.1
theorem swap_dcomp (hs : X.env.scope = sc) (hk : sc.kind = .function) {kx vx : Expr} {gens : List Comprehension} {scope : Scope} {vp : Pos} {t : Str} {px : Pos} {l : Nat} :
    swapsWith (.DictComp kx vx gens scope vp) (some (.Name t px)) l X.env = pure (swB sc (.DictComp kx vx gens scope vp) t px) := by
  have bk := kind_block (X := X) (by rw [hs]; exact hk)
  have e : (X.env.kindOf t == some NameKind.local) = decide (sc.names.lookup t = some .local) := by
    show (X.env.scope.names.lookup t == some NameKind.local) = _
    rw [hs]
    cases sc.names.lookup t with
    | none => rfl
    | some k => cases k <;> rfl
  show (pure (X.env.blockKind == .function && X.env.kindOf t == some .local && px.line == vp.line && !(scope.names.any fun (n, k) => n == t && (k == .local || k == .cell))) : Sem Bool) = _
  rw [bk, e]
  rfl
theorem swB_dlocal {kx vx : Expr} {gens : List Comprehension} {scope : Scope} {vp : Pos} {t : Str} {px : Pos} (h : swB sc (.DictComp kx vx gens scope vp) t px = true) : sc.names.lookup t = some .local := by
  unfold swB at h
  simp only [Bool.and_eq_true, decide_eq_true_eq] at h
  exact h.1.1
/-- name = value -/
theorem s_name (g : Gs X T S d N sc W) {i : Nat} {e : CE} {x : Str} {v : Expr} {px pos : Pos} (mt : mT N sc none (.name i) (.Name x px) = true) (hs : swapsWith v (some (.Name x px)) pos.line X.env = pure false) (hv : PE X v (SE' X p W e)) :
    PS X (.Assign [.Name x px] v pos) (SS X p W (.set (.name i) e)) := by
  simp only [mT, Bool.and_eq_true, decide_eq_true_eq] at mt
  obtain ⟨hl, hf⟩ := g.sto x mt.2
  refine (ps_set (by rw [g.g.hN]; exact g.g.nd) (by rw [g.g.hN]; exact mt.1) hl hv hs hf).imp ?_
  rintro D σ H ⟨env, h, M, a, q⟩
  exact gname_end a q
theorem s_par (g : Gs X T S d N sc W) {i j : Nat} {a b : CE} {x y : Str} {u v : Expr} {px py pt p2 pos : Pos} {k k2 : Nat} (hi : N[i]? = some x) (hj : N[j]? = some y) (hij : i ≠ j) (hw : parB sc x y px py u v = true) (pu : plainE u = true) (pv : plainE v = true)
    (ha : PE X u (SE' X p W a)) (hb : PE X v (SE' X p W b)) : PS X (.Assign [.Tuple [.Name x px, .Name y py] k pt] (.Tuple [u, v] k2 p2) pos) (SS X p W (.par i j a b)) := by
  have sw := par_swap (X := X) (kt := k) (pt := pt) (k2 := k2) (pt2 := p2) g.g.hsc g.kind pu pv hw
  unfold parB at hw
  simp only [Bool.and_eq_true, decide_eq_true_eq] at hw
  refine (ps_par g.g.calm (by rw [g.g.hN]; exact g.g.nd) (by rw [g.g.hN]; exact hi) (by rw [g.g.hN]; exact hj) hij (by rw [g.g.hsc]; exact hw.1.1.1) (by rw [g.g.hsc]; exact hw.1.1.2) (pa_cons ha (pa_cons hb pa_nil (star_plain pv)) (star_plain pu)) sw).imp ?_
  rintro D σ H ⟨env, h, M, at_, q⟩
  refine ⟨env, h, M, at_, (OutR.of at_ q).mono ?_⟩
  intro v1 h1 H1 M1 e1 r1 q1 y1 ry1
  have a1 := at_.go e1 r1
  refine ⟨env, h1, M1, a1, (OutR.of a1 q1).mono ?_⟩
  intro v2 h2 H2 M2 e2 r2 q2 y2 ry2
  exact ⟨y1, y2, rfl, q2 H2 M2 _ .refl (((a1.go e2 r2).set (ry1.mono e2)).set ry2)⟩
theorem s_par3 (g : Gs X T S d N sc W) {i j l : Nat} {a b c : CE} {x y z : Str} {u v w : Expr} {px py pz pt p2 pos : Pos} {k k2 : Nat} (hi : N[i]? = some x) (hj : N[j]? = some y) (hl : N[l]? = some z) (hij : i ≠ j) (hil : i ≠ l) (hjl : j ≠ l)
    (hw : par3B sc x y z px py pz u v w = true) (pu : plainE u = true) (pv : plainE v = true) (pw : plainE w = true) (ha : PE X u (SE' X p W a)) (hb : PE X v (SE' X p W b)) (hc : PE X w (SE' X p W c)) :
    PS X (.Assign [.Tuple [.Name x px, .Name y py, .Name z pz] k pt] (.Tuple [u, v, w] k2 p2) pos) (SS X p W (.par3 i j l a b c)) := by
  have sw := par3_swap (X := X) (kt := k) (pt := pt) (k2 := k2) (pt2 := p2) g.g.hsc g.kind pu pv pw hw
  unfold par3B at hw
  simp only [Bool.and_eq_true, decide_eq_true_eq] at hw
  have args := pa_cons ha (pa_cons hb (pa_cons hc pa_nil (star_plain pw)) (star_plain pv)) (star_plain pu)
  have lc := g.g.hsc
  refine (ps_par3 g.g.calm (by rw [g.g.hN]; exact g.g.nd) (by rw [g.g.hN]; exact hi) (by rw [g.g.hN]; exact hj) (by rw [g.g.hN]; exact hl) hij hil hjl (by rw [lc]; exact hw.1.1.1) (by rw [lc]; exact hw.1.1.2.1) (by rw [lc]; exact hw.1.1.2.2) args sw).imp ?_
  rintro D σ H ⟨env, h, M, at_, q⟩
  refine ⟨env, h, M, at_, (OutR.of at_ q).mono ?_⟩
  intro v1 h1 H1 M1 e1 r1 q1 y1 ry1
  have a1 := at_.go e1 r1
  refine ⟨env, h1, M1, a1, (OutR.of a1 q1).mono ?_⟩
  intro v2 h2 H2 M2 e2 r2 q2 y2 ry2
  have a2 := a1.go e2 r2
  refine ⟨env, h2, M2, a2, (OutR.of a2 q2).mono ?_⟩
  intro v3 h3 H3 M3 e3 r3 q3 y3 ry3
  exact ⟨y1, y2, y3, rfl, q3 H3 M3 _ .refl ((((a2.go e3 r3).set ((ry1.mono e2).mono e3)).set (ry2.mono e3)).set ry3)⟩
end

section
variable (T : Tb) (S : Pt) (d : Nat) (N : List Str)
/-- name = a comprehension -/
theorem s_comp {X : Cx} {sc : Scope} {W : WX} (g : Gs X T S d N sc W) {i : Nat} {x : Str} {v : Expr} {px pos : Pos} {e : CE} (mt : mT N sc none (.name i) (.Name x px) = true) (m : mE S N sc e v = true) :
    PS X (.Assign [.Name x px] v pos) (SS X (prOf T d) W (.set (.name i) e)) := by
  have pe := (sE T S d N e X sc W v g.g m).pe
  by_cases hc : compE v = true
  · cases v <;> first | (cases hc; done) | skip
    · -- a list comprehension
      rename_i el gens scope vp
      cases sw : swB sc (.ListComp el gens scope vp) x px with
      | false =>
        refine s_name g mt ?_ pe
        rw [swap_comp g.g.hsc g.kind, sw]
      | true =>
        have hl := swB_local sw
        have sw' : swapsWith (.ListComp el gens scope vp) (some (.Name x px)) pos.line X.env = pure true := by
          rw [swap_comp g.g.hsc g.kind, sw]
        have mt' := mt
        simp only [mT, Bool.and_eq_true, decide_eq_true_eq] at mt'
        have hN : X.N.Nodup := by rw [g.g.hN]; exact g.g.nd
        have hi' : X.N[i]? = some x := by rw [g.g.hN]; exact mt'.1
        have hyl : X.env.scope.names.lookup x = some .local := by rw [g.g.hsc]; exact hl
        cases e <;> first | (cases m; done) | skip
        · rename_i c elt t it own
          match gens, m, sw' with
          | [], m, _ => cases m
          | ⟨_, _, ifs, _⟩ :: _ :: _, m, _ => cases ifs <;> cases m
          | [⟨tg, iter, ifs, k⟩], m, sw' =>
            cases ifs <;> first | (cases m; done) | skip
            simp only [mE, Bool.and_eq_true, decide_eq_true_eq] at m
            obtain ⟨rfl, hsl, ⟨m1, m2, m3⟩, m4, m5⟩ := m
            have ok : BlkOk X.N X.env.scope scope (ownOf N own) := by
              rw [g.g.hN, g.g.hsc]
              exact blkOk_by m1
            have hi := sI T S d N it X sc W tg iter g.g m3 m4
            have ps := ps_setLc (elt := el) (te := SE' X (prOf T d) W0 elt) (tt := tYes) (g := SG X.K t) g.g.calm hN hi' hyl sw' hi ok (fun s H C cl fp => sG (g.g.blk s H scope C cl fp) (sto_blk g.g s H scope C cl fp) m2) (fun s H C cl fp => pts_nil)
              (fun s H C cl fp => (sE T S d N elt _ _ W0 el (g.g.blk s H scope C cl fp) m5).pe) (fold_plain m3)
            refine ps.imp ?_
            rintro D σ H ⟨env, h, M, a, q⟩
            have z := gname_end a q
            have z2 := comp_imp hsl z
            rw [own_back]
            exact z2
        · rename_i c elt t it cd own
          match gens, m, sw' with
          | [], m, _ => cases m
          | ⟨_, _, [], _⟩ :: _ :: _, m, _ => cases m
          | ⟨_, _, [_], _⟩ :: _ :: _, m, _ => cases m
          | ⟨_, _, _ :: _ :: _, _⟩ :: _ :: _, m, _ => cases m
          | [⟨tg, iter, ifs, k⟩], m, sw' =>
            match ifs, m, sw' with
            | [], m, _ => cases m
            | _ :: _ :: _, m, _ => cases m
            | [cx], m, sw' =>
              simp only [mE, Bool.and_eq_true, decide_eq_true_eq] at m
              obtain ⟨rfl, hsl, ⟨m1, m2, m3⟩, m4, m5, m6⟩ := m
              have ok : BlkOk X.N X.env.scope scope (ownOf N own) := by
                rw [g.g.hN, g.g.hsc]
                exact blkOk_by m1
              have hi := sI T S d N it X sc W tg iter g.g m3 m4
              have ps := ps_setLc (elt := el) (te := SE' X (prOf T d) W0 elt) (tt := ST X (prOf T d) W0 cd) (g := SG X.K t) g.g.calm hN hi' hyl sw' hi ok (fun s H C cl fp => sG (g.g.blk s H scope C cl fp) (sto_blk g.g s H scope C cl fp) m2)
                (fun s H C cl fp => pts_one (sE T S d N cd _ _ W0 cx (g.g.blk s H scope C cl fp) m6).pt) (fun s H C cl fp => (sE T S d N elt _ _ W0 el (g.g.blk s H scope C cl fp) m5).pe) (fold_plain m3)
              refine ps.imp ?_
              rintro D σ H ⟨env, h, M, a, q⟩
              have z := gname_end a q
              have z2 := compIf_imp hsl z
              rw [own_back]
              exact z2
    · cases e <;> cases m
    · -- a dict comprehension
      rename_i kx vx gens scope vp
      cases sw : swB sc (.DictComp kx vx gens scope vp) x px with
      | false =>
        refine s_name g mt ?_ pe
        rw [swap_dcomp g.g.hsc g.kind, sw]
      | true =>
        have hl := swB_dlocal sw
        have sw' : swapsWith (.DictComp kx vx gens scope vp) (some (.Name x px)) pos.line X.env = pure true := by
          rw [swap_dcomp g.g.hsc g.kind, sw]
        have mt' := mt
        simp only [mT, Bool.and_eq_true, decide_eq_true_eq] at mt'
        have hN : X.N.Nodup := by rw [g.g.hN]; exact g.g.nd
        have hi' : X.N[i]? = some x := by rw [g.g.hN]; exact mt'.1
        have hyl : X.env.scope.names.lookup x = some .local := by rw [g.g.hsc]; exact hl
        cases e <;> first | (cases m; done) | skip
        rename_i k v t it cd own
        match gens, m, sw' with
        | [], m, _ => cases m
        | ⟨_, _, [], _⟩ :: _ :: _, m, _ => cases m
        | ⟨_, _, [_], _⟩ :: _ :: _, m, _ => cases m
        | ⟨_, _, _ :: _ :: _, _⟩ :: _ :: _, m, _ => cases m
        | [⟨tg, iter, ifs, q⟩], m, sw' =>
          match ifs, m, sw' with
          | [], m, _ => cases m
          | _ :: _ :: _, m, _ => cases m
          | [cx], m, sw' =>
            simp only [mE, Bool.and_eq_true, decide_eq_true_eq] at m
            obtain ⟨rfl, hsl, ⟨m1, m2, m3⟩, m4, m5, m6, m7⟩ := m
            have ok : BlkOk X.N X.env.scope scope (ownOf N own) := by
              rw [g.g.hN, g.g.hsc]
              exact blkOk_by m1
            have hi := sI T S d N it X sc W tg iter g.g m3 m4
            have hu := g.g.hu
            have ps := ps_setDcT (kx := kx) (vx := vx) (tk := SE' X (prOf T d) W0 k) (tv := SE' X (prOf T d) W0 v) (tt := ST X (prOf T d) W0 cd) (g := SG X.K t) (by omega) g.g.calm hN hi' hyl sw' hi ok (fun s H C cl fp => sG (g.g.blk s H scope C cl fp) (sto_blk g.g s H scope C cl fp) m2)
              (fun s H C cl fp => pts_one (sE T S d N cd _ _ W0 cx (g.g.blk s H scope C cl fp) m7).pt) (fun s H C cl fp => (sE T S d N k _ _ W0 kx (g.g.blk s H scope C cl fp) m5).pe) (fun s H C cl fp => (sE T S d N v _ _ W0 vx (g.g.blk s H scope C cl fp) m6).pe) (fold_plain m3)
            refine ps.imp ?_
            rintro D σ H ⟨env, h, M, a, q⟩
            have z := gname_end a q
            have z2 := compD_imp hsl z
            rw [own_back]
            exact z2
  · refine s_name g mt (swap_none (by simpa using hc)) pe

mutual
theorem sS : ∀ (s : CS) (X : Cx) (sc : Scope) (W : WX) (st : Stmt), Gs X T S d N sc W → mS S N sc s st = true → PS X st (SS X (prOf T d) W s)
  | .set t e, X, sc, W, st, g, m => by
    cases st <;> first | (cases t <;> cases m; done) | skip
    rename_i tgs v pos
    match tgs, m with
    | [], m => cases t <;> cases m
    | tg :: _ :: _, m => cases t <;> cases tg <;> cases m
    | [tg], m =>
      cases tg <;> first | (cases t <;> cases m; done) | skip
      · cases t <;> first | (cases m; done) | skip
        simp only [mS, Bool.and_eq_true] at m
        exact s_comp T S d N g m.1 m.2
      · rename_i ts k tp
        cases t with
        | name i => 
          simp only [mS, Bool.and_eq_true, Bool.not_eq_true'] at m
          exact s_setT (.inr ⟨_, _, _, rfl⟩) m.1.1 (noSwap_ok (tg := .Tuple ts k tp) m.1.2) (sE T S d N e X sc W v g.g m.2.2).pe (sG g.g g.sto m.2.1)
        | pair a b =>
          simp only [mS, Bool.and_eq_true, Bool.not_eq_true'] at m
          exact s_setT (.inr ⟨_, _, _, rfl⟩) m.1.1 (noSwap_ok (tg := .Tuple ts k tp) m.1.2) (sE T S d N e X sc W v g.g m.2.2).pe (sG g.g g.sto m.2.1)
        | three a b c =>
          simp only [mS, Bool.and_eq_true, Bool.not_eq_true'] at m
          exact s_setT (.inr ⟨_, _, _, rfl⟩) m.1.1 (noSwap_ok (tg := .Tuple ts k tp) m.1.2) (sE T S d N e X sc W v g.g m.2.2).pe (sG g.g g.sto m.2.1)
  | .par i j a b, X, sc, W, st, g, m => by
    unfold mS at m
    split at m <;> rename_i he <;> first | (cases he; done) | (cases m; done) | skip
    cases he
    simp only [Bool.and_eq_true, decide_eq_true_eq, Bool.not_eq_true', beq_eq_false_iff_ne] at m
    obtain ⟨⟨⟨m1, m2⟩, m3, m4⟩, ⟨m5, m6⟩, m7, m8⟩ := m
    exact s_par g m1 m2 m3 m4 m5 m7 (sE T S d N a X sc W _ g.g m6).pe (sE T S d N b X sc W _ g.g m8).pe
  | .par3 i j l a b c, X, sc, W, st, g, m => by
    unfold mS at m
    split at m <;> rename_i he <;> first | (cases he; done) | (cases m; done) | skip
    cases he
    simp only [Bool.and_eq_true, decide_eq_true_eq, Bool.not_eq_true', beq_eq_false_iff_ne] at m
    obtain ⟨⟨⟨m1, m2, m3⟩, ⟨n1, n2, n3⟩, m4⟩, ⟨m5, m6⟩, ⟨m7, m8⟩, m9, m10⟩ := m
    exact s_par3 g m1 m2 m3 n1 n2 n3 m4 m5 m7 m9 (sE T S d N a X sc W _ g.g m6).pe (sE T S d N b X sc W _ g.g m8).pe (sE T S d N c X sc W _ g.g m10).pe
  | .setIx o i e, X, sc, W, st, g, m => by
    cases st <;> first | (cases m; done) | skip
    rename_i tgs v pos
    match tgs, m with
    | [], m => cases m
    | tg :: _ :: _, m => cases tg <;> cases m
    | [tg], m =>
      cases tg <;> first | (cases m; done) | skip
      simp only [mS, Bool.and_eq_true, Bool.not_eq_true'] at m
      obtain ⟨⟨m1, m2, m3⟩, m4, m5, m6⟩ := m
      have hu := g.g.hu
      exact s_setIx (by omega) m1 m2 (sE T S d N o X sc W _ g.g m4).pe (sE T S d N i X sc W _ g.g m5).pe (sE T S d N e X sc W _ g.g m6).pe
  | .nev, X, sc, W, st, g, m => s_nev
  | .expr e, X, sc, W, st, g, m => by
    cases st <;> first | (cases m; done) | skip
    simp only [mS, Bool.and_eq_true, Bool.not_eq_true'] at m
    exact s_expr m.1 (sE T S d N e X sc W _ g.g m.2).pe
  | .append o e, X, sc, W, st, g, m => by
    unfold mS at m
    split at m <;> rename_i he <;> first | (cases he; done) | (cases m; done) | skip
    cases he
    simp only [Bool.and_eq_true, decide_eq_true_eq] at m
    obtain ⟨⟨rfl, m2, m3, m4⟩, m5, m6⟩ := m
    exact s_append m4 m2 m3 (sE T S d N o X sc W _ g.g m5).pe (sE T S d N e X sc W _ g.g m6).pe
  | .extend o e, X, sc, W, st, g, m => by
    unfold mS at m
    split at m <;> rename_i he <;> first | (cases he; done) | (cases m; done) | skip
    cases he
    simp only [Bool.and_eq_true, decide_eq_true_eq] at m
    obtain ⟨⟨rfl, m2, m3, m4⟩, m5, m6⟩ := m
    exact s_extend m4 m2 m3 (sE T S d N o X sc W _ g.g m5).pe (sE T S d N e X sc W _ g.g m6).pe
  | .ret e, X, sc, W, st, g, m => by
    cases st <;> first | (cases m; done) | skip
    rename_i v pos
    cases v <;> first | (cases m; done) | skip
    simp only [mS] at m
    exact s_ret (sE T S d N e X sc W _ g.g m).pe
  | .retN, X, sc, W, st, g, m => by
    cases st <;> first | (cases m; done) | skip
    rename_i v pos
    cases v <;> first | (cases m; done) | skip
    exact s_retN
  | .cond t a b, X, sc, W, st, g, m => by
    cases st <;> first | (cases m; done) | skip
    simp only [mS, Bool.and_eq_true] at m
    exact s_cond (sE T S d N t X sc W _ g.g m.1).pt (sSs a X sc W _ g m.2.1) (sSs b X sc W _ g m.2.2)
  | .loop t it body kill, X, sc, W, st, g, m => by
    cases st <;> first | (cases m; done) | skip
    rename_i tg iter b orelse pos
    cases orelse <;> first | (cases m; done) | skip
    simp only [mS, Bool.and_eq_true] at m
    obtain ⟨⟨m1, m2⟩, m3, m4⟩ := m
    exact s_loop g.po g.g.calm m2 (sI T S d N it X sc W tg iter g.g m2 m3) (sG g.g g.sto m1) (sSs body X sc W _ g m4)
  | .brk, X, sc, W, st, g, m => by
    cases st <;> first | (cases m; done) | skip
    exact s_brk
  | .cnt, X, sc, W, st, g, m => by
    cases st <;> first | (cases m; done) | skip
    exact s_cnt
  | .pass, X, sc, W, st, g, m => by
    cases st <;> first | (cases m; done) | skip
    exact s_pass
  | .throw c e, X, sc, W, st, g, m => by
    unfold mS at m
    split at m <;> rename_i he <;> first | (cases he; done) | (cases m; done) | skip
    simp at m
theorem sSs : ∀ (s : CSs) (X : Cx) (sc : Scope) (W : WX) (sts : List Stmt), Gs X T S d N sc W → mSs S N sc s sts = true → PSs X sts (SSs X (prOf T d) W s)
  | .nil, X, sc, W, [], g, m => ss_nil
  | .nil, X, sc, W, _ :: _, g, m => by simp [mSs] at m
  | .cons s r, X, sc, W, [], g, m => by simp [mSs] at m
  | .cons s r, X, sc, W, st :: sts, g, m => by
    simp only [mSs, Bool.and_eq_true] at m
    exact ss_cons (sS s X sc W st g m.1) (sSs r X sc W sts g m.2)
  | .kill ks r, X, sc, W, sts, g, m => ss_kill (sSs r X sc W sts g (by simpa [mSs] using m))
end
end
end Ws
end

section
set_option Elab.async false
set_option linter.all false
set_option maxRecDepth 100000
set_option autoImplicit false
/-! What the simple interpreter says of the whole program holds of the machine. -/
namespace Ws
open PySem PySem.Spec PyProof.Rows L2

/-! ### a def's end: its cells are forgotten -/
section
variable {K : PySem.W.Frag} {H0 H H' : Hp} {M M' : Ms}
theorem dct_out {ks : List Int} {xs : List SV} (hl : ks.length = xs.length) {y : SV} {v0 : V} (r0 : Rep K H0 M y v0) (hy : y = .dct ((ks.map SV.int).zip xs)) : ∃ vs0, RepL K H0 M xs vs0 := by
  cases r0 with
  | @dW a0 ks0 xs0 vs0 k0 e0 l0 =>
    have hz : (ks0.map SV.int).zip xs0 = (ks.map SV.int).zip xs := SV.dct.inj hy
    have h1 : ((ks.map SV.int).zip xs).map Prod.snd = xs := List.map_snd_zip (by rw [List.length_map]; omega)
    have h2 : ((ks0.map SV.int).zip xs0).map Prod.snd = xs0 := List.map_snd_zip (by rw [List.length_map]; omega)
    have q : xs0 = xs := by rw [← h1, ← hz, h2]
    exact ⟨vs0, q ▸ l0⟩
  | _ => cases hy
theorem Tp.down {E : List Addr} (hc : M'.c = M.c ++ E) (hb : M'.b = M.b) {a : Addr} {vs : List V} (t : Tp K H' M' a vs) : Tp K H' M a vs := t
theorem Lp.down {E : List Addr} (hc : M'.c = M.c ++ E) (hb : M'.b = M.b) {a : Addr} {vs : List V} (t : Lp K H' M' a vs) : Lp K H' M a vs :=
  t.elim (fun z => .inl ⟨⟨fun hm => z.1.1 (by rw [hc]; exact List.mem_append_left _ hm), by rw [← hb]; exact z.1.2⟩, z.2⟩) .inr
mutual
/-- what could be told with fewer cells still can -/
theorem Rep.down {E : List Addr} (hc : M'.c = M.c ++ E) (hb : M'.b = M.b) : ∀ {x : SV} {v : V}, Rep K H' M' x v → ∀ {v0 : V}, Rep K H0 M x v0 → Rep K H' M x v
  | _, _, .non, _, _ => .non
  | _, _, .bl b, _, _ => .bl b
  | _, _, .int i, _, _ => .int i
  | _, _, .str x, _, _ => .str x
  | _, _, .tup t l, _, r0 => by
    obtain ⟨_, _, _, _, l0⟩ := r0.tup_inv
    exact .tup (t.down hc hb) (RepL.down hc hb l l0)
  | _, _, .lst t l, _, r0 => by
    obtain ⟨_, _, _, _, l0⟩ := r0.lst_inv
    exact .lst (t.down hc hb) (RepL.down hc hb l l0)
  | _, _, .dW k e l, _, r0 => by
    obtain ⟨vs0, l0⟩ := dct_out e r0 rfl
    exact .dW k e (RepL.down hc hb l l0)
  | _, _, .ref h, _, r0 => by
    obtain ⟨_, _, h0⟩ := r0.ref_inv
    rw [hc, List.getElem?_append_left (List.getElem?_eq_some_iff.mp h0).1] at h
    exact .ref h
  | _, _, .kt t l, _, r0 => by
    obtain ⟨_, _, _, _, l0⟩ := r0.kt_inv
    exact .kt t (RepL.down hc hb l l0)
theorem RepL.down {E : List Addr} (hc : M'.c = M.c ++ E) (hb : M'.b = M.b) : ∀ {x : List SV} {v : List V}, RepL K H' M' x v → ∀ {v0 : List V}, RepL K H0 M x v0 → RepL K H' M x v
  | _, _, .nil, _, _ => .nil
  | _, _, .cons h r, _, .cons h0 r0 => .cons (Rep.down hc hb h h0) (RepL.down hc hb r r0)
end
theorem RepK.down {E : List Addr} (hc : M'.c = M.c ++ E) (hb : M'.b = M.b) : ∀ {x : List (SV × SV)} {v : List (Key × V)}, RepK K H' M' x v → ∀ {v0 : List (Key × V)}, RepK K H0 M x v0 → RepK K H' M x v
  | _, _, .nil, _, _ => .nil
  | _, _, .cons k h r, _, .cons _ h0 r0 => .cons k (Rep.down hc hb h h0) (RepK.down hc hb r r0)
theorem RepT.down {E : List Addr} (hc : M'.c = M.c ++ E) (hb : M'.b = M.b) : ∀ {x : List (SV × SV)} {v : List (List Key × V)}, RepT K H' M' x v → ∀ {v0 : List (List Key × V)}, RepT K H0 M x v0 → RepT K H' M x v
  | _, _, .nil, _, _ => .nil
  | _, _, .cons k h r, _, .cons _ h0 r0 => .cons k (Rep.down hc hb h h0) (RepT.down hc hb r r0)
theorem RepO.down {E : List Addr} (hc : M'.c = M.c ++ E) (hb : M'.b = M.b) {o : SO} {u u0 : HO} (r : RepO K H' M' o u) (r0 : RepO K H0 M o u0) : RepO K H' M o u := by
  cases r with
  | lst l =>
    cases r0 with
    | lst l0 => exact .lst (l.down hc hb l0)
  | dK l =>
    cases r0 with
    | dK l0 => exact .dK (l.down hc hb l0)
  | dT l =>
    cases r0 with
    | dT l0 => exact .dT (l.down hc hb l0)
  | dF l =>
    cases r0 with
    | dF l0 => exact .dF (l.down hc hb l0)
/-- what was there is as it was -/
theorem RH.down {h h1 : SH} (r : RH K H M h) (e : Evo H M H' M') (r1 : RH K H' M' h1) (hh : h1.take h.length = h) : RH K H' M h ∧ Evo H M H' M := by
  obtain ⟨E, hc, hE⟩ := e.pre
  refine ⟨⟨r.len, r.nd, fun n o ho => ?_, fun a ha => ⟨(r.bsy a ha).1, by rw [e.same a ha]; exact (r.bsy a ha).2⟩⟩, ⟨⟨[], by simp, fun _ q => nomatch q⟩, rfl, e.same, e.keep, e.tup, e.frz⟩⟩
  have hn : n < h.length := (List.getElem?_eq_some_iff.mp ho).1
  have ho1 : h1[n]? = some o := by
    rw [← hh, List.getElem?_take, if_pos hn] at ho
    exact ho
  obtain ⟨a, u, e1, e2, e3⟩ := r1.at_ n o ho1
  obtain ⟨a0, u0, f1, f2, f3⟩ := r.at_ n o ho
  have g := e.get f1
  have ea : a0 = a := Option.some.inj (g.symm.trans e1)
  subst ea
  exact ⟨a0, u, f1, e2, e3.down hc e.busy f3⟩
/-- what is new is read off -/
theorem freeze_rep {n : Nat} {h : SH} {E : List Addr} (hn : n = M.c.length) (hc : M'.c = M.c ++ E) (hb : M'.b = M.b) (r : RH K H' M' h) : ∀ (k : Nat) {v w : SV} {x : V}, freeze n h k v = some w → Rep K H' M' v x → Rep K H' M w x := by
  have list : ∀ {f : SV → Option SV}, (∀ {v w : SV} {x : V}, f v = some w → Rep K H' M' v x → Rep K H' M w x) → ∀ {xs ws : List SV} {vs : List V}, freezeL f xs = some ws → RepL K H' M' xs vs → RepL K H' M ws vs := by
    intro f hf xs
    induction xs with
    | nil =>
      intro ws vs e l
      cases l
      cases e
      exact .nil
    | cons y ys ih =>
      intro ws vs e l
      cases l with
      | cons a b =>
        simp only [freezeL] at e
        split at e
        · rename_i y' ys' e1 e2
          cases e
          exact .cons (hf e1 a) (ih e2 b)
        · cases e
  intro k
  induction k with
  | zero =>
    intro v w x e rx
    cases v <;> simp only [freeze, Option.some.injEq, reduceCtorEq] at e
    · subst e; cases rx; exact .non
    · subst e; cases rx; exact .bl _
    · subst e; cases rx; exact .int _
    · subst e; cases rx; exact .str _
  | succ k ih =>
    intro v w x e rx
    cases v with
    | non => simp only [freeze, Option.some.injEq] at e; subst e; cases rx; exact .non
    | bl b => simp only [freeze, Option.some.injEq] at e; subst e; cases rx; exact .bl _
    | int i => simp only [freeze, Option.some.injEq] at e; subst e; cases rx; exact .int _
    | str y => simp only [freeze, Option.some.injEq] at e; subst e; cases rx; exact .str _
    | tup xs =>
      simp only [freeze] at e
      obtain ⟨ws, e1, rfl⟩ := Option.map_eq_some_iff.mp e
      obtain ⟨a, vs, rfl, t, l⟩ := rx.tup_inv
      exact .tup (t.down hc hb) (list (fun e r => ih e r) e1 l)
    | lst xs =>
      simp only [freeze] at e
      obtain ⟨ws, e1, rfl⟩ := Option.map_eq_some_iff.mp e
      obtain ⟨a, vs, rfl, t, l⟩ := rx.lst_inv
      exact .lst (t.down hc hb) (list (fun e r => ih e r) e1 l)
    | dct kvs => simp only [freeze, reduceCtorEq] at e
    | kt kvs => simp only [freeze, reduceCtorEq] at e
    | ref m =>
      obtain ⟨a, rfl, hm⟩ := rx.ref_inv
      simp only [freeze] at e
      split at e
      · rename_i hle
        split at e
        · rename_i xs hx
          obtain ⟨ws, e1, rfl⟩ := Option.map_eq_some_iff.mp e
          obtain ⟨vs, hH, l⟩ := r.lst hm hx
          refine .lst (.inl ⟨⟨fun ha => ?_, fun ha => ?_⟩, .inl hH⟩) (list (fun e r => ih e r) e1 l)
          · obtain ⟨j, hj, hj2⟩ := List.mem_iff_getElem.mp ha
            have q1 : M'.c[j]? = some a := by
              rw [hc, List.getElem?_append_left hj, List.getElem?_eq_getElem hj, hj2]
            obtain ⟨p1, p2⟩ := List.getElem?_eq_some_iff.mp q1
            obtain ⟨p3, p4⟩ := List.getElem?_eq_some_iff.mp hm
            have := (List.getElem_inj r.nd).mp (p2.trans p4.symm)
            omega
          · rw [← hb] at ha
            exact (r.bsy a ha).1 (List.mem_of_getElem? hm)
        · cases e
      · cases e
theorem finish_ok {mg : Str → Option Value} {E : XK} {F : FT} {h h1 : SH} {v : SV} {x : V} {Q : VK} (s : SemR K mg (finish F h v h1) H M E fun v _ H' M' => ∀ x, Rep K H' M' v x → Q x H') (r : RH K H M h) (e : Evo H M H' M') (r1 : RH K H' M' h1) (rx : Rep K H' M' v x) : Q x H' := by
  unfold finish at s
  split at s
  · exact s H' M' e r1 x rx
  · split at s
    · exact s.elim
    · rename_i w hw
      split at s
      · rename_i hh
        obtain ⟨d1, d2⟩ := RH.down r e r1 hh
        obtain ⟨E, hc, _⟩ := e.pre
        exact s H' M d2 d1 x (freeze_rep r.len hc e.busy r1 12 hw rx)
      · split at s
        · exact s H' M' e r1 x rx
        · exact s.elim
end

/-! ### a def -/
theorem start_at {K : PySem.W.Frag} {H : Hp} {M : Ms} {F : FT} {xs : List SV} {vs : List V} (l : RepL K H M xs vs) : RS K H M (startE F xs) (L2.start F.N vs) := by
  refine ⟨?_, fun i v hv => ?_⟩
  · unfold startE L2.start
    rw [List.length_append, List.length_append, List.length_map, List.length_map, List.length_replicate, List.length_replicate, l.length]
  · unfold startE at hv
    by_cases hi : i < xs.length
    · rw [List.getElem?_append_left (by rw [List.length_map]; exact hi), List.getElem?_map] at hv
      obtain ⟨y, e1, e2⟩ := Option.map_eq_some_iff.mp hv
      cases e2
      obtain ⟨z, e3, r⟩ := l.get e1
      refine ⟨z, ?_, r⟩
      unfold L2.start
      rw [List.getElem?_append_left (by rw [List.length_map, ← l.length]; exact hi), List.getElem?_map, e3]
      rfl
    · rw [List.getElem?_append_right (by rw [List.length_map]; omega)] at hv
      rw [List.getElem?_replicate] at hv
      split at hv <;> cases hv

theorem fun_at {K : PySem.W.Frag} {x qual : Str} {params : Arguments} {body : List Stmt} {scope : Scope} {dvs : List V} {kws : List (Str × V)} {a : Addr} {fd : FuncData} (D : FunD K x qual params body scope dvs kws a fd) : ∃ oc od osl, K.lookup a = some ⟨oc, od, .func fd, osl⟩ := by
  obtain ⟨oc, od, dV, kV, doc, pm, an, cdv, ct, osl, _, lk, _⟩ := D.ex
  exact ⟨oc, od, osl, lk⟩
mutual
/-- values without cells do not ask for any -/
theorem Rep.dryM {K : PySem.W.Frag} {H : Hp} {M : Ms} : ∀ {x : SV} {v : V}, x.dry = true → Rep K H M x v → Rep K H ⟨[], M.c ++ M.b⟩ x v
  | .non, _, _, r => by cases r; exact .non
  | .bl _, _, _, r => by cases r; exact .bl _
  | .int _, _, _, r => by cases r; exact .int _
  | .str _, _, _, r => by cases r; exact .str _
  | .tup xs, _, h, r => by
    obtain ⟨a, vs, rfl, t, l⟩ := r.tup_inv
    exact .tup t (RepL.dryM (by simpa [SV.dry] using h) l)
  | .lst xs, _, h, r => by
    obtain ⟨a, vs, rfl, t, l⟩ := r.lst_inv
    refine .lst (t.elim (fun z => .inl ⟨⟨List.not_mem_nil, fun hm => ?_⟩, z.2⟩) .inr) (RepL.dryM (by simpa [SV.dry] using h) l)
    rcases List.mem_append.mp (show a ∈ M.c ++ M.b from hm) with q | q
    · exact z.1.1 q
    · exact z.1.2 q
  | .dct _, _, h, _ => by simp [SV.dry] at h
  | .ref _, _, h, _ => by simp [SV.dry] at h
theorem RepL.dryM {K : PySem.W.Frag} {H : Hp} {M : Ms} : ∀ {x : List SV} {v : List V}, dryL x = true → RepL K H M x v → RepL K H ⟨[], M.c ++ M.b⟩ x v
  | [], _, _, r => by cases r; exact .nil
  | x :: xs, _, h, r => by
    cases r with
    | cons a b =>
      simp only [dryL, Bool.and_eq_true] at h
      exact .cons (Rep.dryM h.1 a) (RepL.dryM h.2 b)
end
/-- what is known of a def ahead of any run -/
structure DefOk (K : PySem.W.Frag) (mg : Str → Option Value) (T : Tb) (S : Pt) (f : Nat) (F : FT) : Prop where
  ex : ∃ (qual : Str) (params : Arguments) (body : List Stmt) (scope : Scope) (dvs : List V) (kws : List (Str × V)) (a : Addr) (fd : FuncData) (ds : List Value),
    FunD K F.name qual params body scope dvs kws a fd ∧ FnScope F.N F.ps scope ∧ mSs S F.N scope F.body body = true ∧ mg F.name = some (.ref a) ∧ Vals dvs ds ∧ (∀ H M, RepL K H M F.dfl dvs) ∧
      ∀ sh ∈ S.shapes, sh.f = f → ∀ (s : Shared) (us ws : List Value), K.In s.heap → us.length = sh.n → ws.length = sh.ks.length → BindsTo s fd ⟨us, sh.ks.zip ws⟩ (F.ps.zip (permute sh.perm (us ++ (ws ++ ds))))
/-- what is known of the program -/
structure PrOk (K : PySem.W.Frag) (mg : Str → Option Value) (T : Tb) (S : Pt) : Prop where
  fs : S.funs = T.funs
  free : ∀ x, S.free.contains x = true → mg x = none
  globs : ∀ x v, S.globs.contains x = true → T.glob x = some v → ∃ u vx, mg x = some u ∧ RelV vx u ∧ ∀ H M, Rep K H M v vx
  defs : ∀ f F, T.funs[f]? = some F → DefOk K mg T S f F
section
variable {P : Program} {w : World} {K : PySem.W.Frag} {mg : Str → Option Value} {base : Heap} {T : Tb} {S : Pt}
theorem def_ok (O : PrOk K mg T S) (d : Nat) (ih : ∀ f F, T.funs[f]? = some F → FunOk P w K mg base T S d f F) (f : Nat) (F : FT) (hF : T.funs[f]? = some F) : FunOk P w K mg base T S (d + 1) f F := by
  obtain ⟨qual, params, body, scope, dvs, kws, a, fd, ds, D, sc, mb, hm, hv, hd, hs⟩ := (O.defs f F hF).ex
  refine ⟨a, fd, dvs, ds, hm, fun_at D, D.kp, FnG.of_body D sc (fun vs H Q E q => q.1) ?_, hv, hd, hs⟩
  rintro cdv A outer s H vs Q E room guards ⟨hl, xs0, h0, M0, lx0, rh0, sem0⟩
  -- what is run: the def itself, its cells behind those of the callers, or with none ahead
  obtain ⟨xs, h, M, lx, rh, sem'⟩ : ∃ xs h M, RepL K H M xs vs ∧ RH K H M h ∧ SemR K mg (runF (prOf T d) F xs h) H M E fun v _ H' M' => ∀ x, Rep K H' M' v x → Q x H' := by
    unfold callF at sem0
    rw [hF] at sem0
    simp only at sem0
    split at sem0
    · split at sem0
      · rename_i hdry
        refine ⟨xs0, [], ⟨[], M0.c ++ M0.b⟩, RepL.dryM hdry lx0, ⟨rfl, List.nodup_nil, fun n o e => by simp at e, fun a ha => ⟨List.not_mem_nil, ?_⟩⟩, ?_⟩
        · rcases List.mem_append.mp (show a ∈ M0.c ++ M0.b from ha) with z | z
          · exact rh0.in_ z
          · exact (rh0.bsy a z).2
        · have sem1 : SemR K mg (dryRun (runF (prOf T d) F xs0 []) h0) H M0 E fun v _ H' M' => ∀ x, Rep K H' M' v x → Q x H' := sem0
          cases e : runF (prOf T d) F xs0 [] with
          | bad => rw [e] at sem1; exact sem1.elim
          | err c v h1 => rw [e] at sem1; exact sem1.elim
          | ok w h1 =>
            rw [e] at sem1
            cases h1 with
            | cons o r => exact sem1.elim
            | nil =>
              intro H' M' ev r1 x rx
              have hc0 : M'.c = [] := List.eq_nil_of_length_eq_zero (by rw [← r1.len]; rfl)
              have ev0 : Evo H M0 H' M0 := by
                refine ⟨⟨[], by simp, fun _ q => nomatch q⟩, rfl, fun a ha => ev.same a (List.mem_append_right _ ha), fun a u n1 n2 hr => ev.keep a u List.not_mem_nil ?_ hr, ev.tup, ev.frz⟩
                intro hm
                rcases List.mem_append.mp (show a ∈ M0.c ++ M0.b from hm) with z | z
                · exact n1 z
                · exact n2 z
              have rh1 : RH K H' M0 h0 := rh0.map (fun _ _ => ev0.fz) ev0.tup rfl (fun a ha => ev.same a (List.mem_append_left _ ha)) fun a ha => ⟨(rh0.bsy a ha).1, by rw [ev0.same a ha]; exact (rh0.bsy a ha).2⟩
              refine sem1 H' M0 ev0 rh1 x (rx.map (fun a u z => ?_) (fun _ _ z => z) (fun n a q => ?_))
              · have hb : M'.b = M0.c ++ M0.b := ev.busy
                exact ⟨⟨fun hm => z.1.2 (by rw [hb]; exact List.mem_append_left _ hm), fun hm => z.1.2 (by rw [hb]; exact List.mem_append_right _ hm)⟩, z.2⟩
              · rw [hc0] at q
                simp at q
      · exact sem0.elim
    · exact ⟨xs0, h0, M0, lx0, rh0, sem0⟩
  have g : Gs (cxOf (L2.CX P w) P w K mg base F.N qual scope a cdv A outer s H E) T S d F.N scope (fun cls d _ H => E cls d H) := by
    refine ⟨⟨rfl, rfl, sc.nd, rfl, room, guards, takes_of rfl rfl rfl rfl, O.fs, O.free, O.globs, ih⟩, sc.kind, passes_of rfl, ?_⟩
    intro x hx
    refine ⟨?_, .inl rfl⟩
    have hx' : locB scope x = true := hx
    unfold locB at hx'
    split at hx'
    · rename_i e
      exact .inl e
    · rename_i e
      exact .inr e
    · cases hx'
  refine ⟨_, sSs T S d F.N F.body _ scope _ body g mb, startE F xs, h, M, ⟨start_at lx, rh⟩, ?_⟩
  unfold runF at sem'
  split at sem'
  · cases e : evSs (prOf T d) F.body (startE F xs) h with
    | nx env1 h1 =>
      rw [e] at sem'
      intro H' M' σ ev at_
      exact finish_ok sem' rh ev at_.rh .non
    | rt v h1 =>
      rw [e] at sem'
      intro H' M' x ev r1 rx
      exact finish_ok sem' rh ev r1 rx
    | err c v env1 h1 =>
      rw [e] at sem'
      intro H' M' cls d x σ ev rs r1 hc hd rx
      exact sem' H' M' cls d x ev r1 hc hd rx
    | bk env1 h1 => rw [e] at sem'; exact sem'.elim
    | ct env1 h1 => rw [e] at sem'; exact sem'.elim
    | bad => rw [e] at sem'; exact sem'.elim
  · exact sem'.elim
theorem all_ok (O : PrOk K mg T S) : ∀ (d f : Nat) (F : FT), T.funs[f]? = some F → FunOk P w K mg base T S d f F
  | 0, f, F, hF => by
    obtain ⟨qual, params, body, scope, dvs, kws, a, fd, ds, D, sc, mb, hm, hv, hd, hs⟩ := (O.defs f F hF).ex
    refine ⟨a, fd, dvs, ds, hm, fun_at D, D.kp, ⟨fun vs H Q E q => q.1, ?_⟩, hv, hd, hs⟩
    rintro A outer s H args us vs Q E room guards e0 b r ⟨_, xs, h, M, _, _, sem⟩
    exact sem.elim
  | d + 1, f, F, hF => def_ok O d (all_ok O d) f F hF
/-- what a law's proof asks -/
theorem ask_ok {d f : Nat} {ns : List Int} {hend : SH} (run : callF T d f [.lst (ns.map SV.int)] [] = .ok (.bl true) hend) (H : Hp) (a : Addr) (hl : Lp K H ⟨[], []⟩ a (ns.map V.int)) :
    spOf K mg T d f 1 [.ref a] H (fun v _ => v = .bl true) (fun _ _ _ => False) := by
  have all : ∀ ms : List Int, RepL K H ⟨[], []⟩ (ms.map SV.int) (ms.map V.int) := by
    intro ms
    induction ms with
    | nil => exact .nil
    | cons m ms ih => exact .cons (.int m) ih
  refine ⟨rfl, [.lst (ns.map SV.int)], [], ⟨[], []⟩, .cons (.lst hl (all ns)) .nil, ⟨rfl, List.nodup_nil, fun n o e => by simp at e, fun a ha => nomatch ha⟩, ?_⟩
  rw [run]
  intro H' M' _ _ x rx
  cases rx
  rfl
/-- the law's def, as the head's end asks for it -/
theorem law_fn (O : PrOk K mg T S) {d f : Nat} {F : FT} {x qual : Str} {params : Arguments} {body : List Stmt} {scope : Scope} {dvs : List V} {kws : List (Str × V)} {a : Addr} {fd : FuncData} (hF : T.funs[f]? = some F)
    (D : FunD K x qual params body scope dvs kws a fd) (hm : mg F.name = some (.ref a)) : FnG P w K mg base d a fd F.ps (spOf K mg T d f F.ps.length) := by
  obtain ⟨a2, fd2, dvs2, ds, hm2, ⟨oc2, od2, osl2, l2⟩, _, FG, _⟩ := (all_ok (P := P) (w := w) (base := base) O d f F hF).ex
  rw [hm] at hm2
  obtain rfl : a = a2 := Value.ref.inj (Option.some.inj hm2)
  obtain ⟨oc, od, osl, l⟩ := fun_at D
  rw [l] at l2
  obtain ⟨_, _, h, _⟩ := Obj.mk.inj (Option.some.inj l2)
  obtain rfl : fd = fd2 := Data.func.inj h
  exact FG
end
end Ws
end

section
set_option Elab.async false
set_option linter.all false
set_option maxRecDepth 100000
set_option autoImplicit false
/-! From a head's facts to what the soundness asks of the program. -/
namespace Ws
open PySem PySem.Spec PyProof.Rows L2

/-! ### the module's constants -/
def tyIs (c : Value) (T : String) : Bool := match c with
  | .type t => decide (t = T)
  | _ => false
theorem tyIs_eq {c : Value} {T : String} (h : tyIs c T = true) : c = .type T := by
  cases c with
  | type t => exact congrArg Value.type (of_decide_eq_true h)
  | _ => cases h
mutual
/-- does u stand for x in the written part? -/
def svB (K : PySem.W.Frag) : Nat → SV → Value → Bool
  | _, .non, .none => true
  | _, .bl b, .bool c => b == c
  | _, .int i, .int j _ => decide (i = j)
  | _, .str x, .str y _ => decide (x = y)
  | n + 1, .kt xs, .ref a => match K.lookup a with
    | some ⟨cl, _, .seq its _, _⟩ => (tyIs cl "tuple" && decide (its.size ≤ 16777216)) && svL K n xs its.toList
    | _ => false
  | n + 1, .lst xs, .ref a => match K.lookup a with
    | some ⟨cl, none, .seq its _, sl⟩ => ((tyIs cl "list" && sl.isEmpty) && decide (its.size ≤ 16777216)) && svL K n xs its.toList
    | _ => false
  | n + 1, .dct kvs, .ref a => match K.lookup a with
    | some ⟨cl, none, .dict es _, sl⟩ => (tyIs cl "dict" && sl.isEmpty) && svK K n kvs es.toList
    | _ => false
  | _, _, _ => false
def svL (K : PySem.W.Frag) : Nat → List SV → List Value → Bool
  | _, [], [] => true
  | n, x :: xs, u :: us => svB K n x u && svL K n xs us
  | _, _, _ => false
def svK (K : PySem.W.Frag) : Nat → List (SV × SV) → List DictEntry → Bool
  | _, [], [] => true
  | n, (.int k, x) :: r, e :: es => ((match e.key with
    | .int j _ => decide (j = k)
    | _ => false) && decide (e.hash = hashInt k)) && (svB K n x e.val && svK K n r es)
  | _, _, _ => false
end
mutual
theorem svB_ok (K : PySem.W.Frag) : ∀ (n : Nat) (x : SV) (u : Value), svB K n x u = true → ∃ v, RelV v u ∧ ∀ H M, Rep K H M x v
  | _, .non, u, h => by
    cases u <;> first | exact ⟨.non, rfl, fun _ _ => .non⟩ | (simp [svB] at h; done)
  | _, .bl b, u, h => by
    cases u <;> first | (simp [svB] at h; done) | skip
    simp only [svB, beq_iff_eq] at h
    subst h
    exact ⟨.bl b, rfl, fun _ _ => .bl b⟩
  | _, .int i, u, h => by
    cases u <;> first | (simp [svB] at h; done) | skip
    simp only [svB, decide_eq_true_eq] at h
    subst h
    exact ⟨.int i, ⟨_, rfl⟩, fun _ _ => .int i⟩
  | _, .str i, u, h => by
    cases u <;> first | (simp [svB] at h; done) | skip
    simp only [svB, decide_eq_true_eq] at h
    subst h
    exact ⟨.str i, ⟨_, rfl⟩, fun _ _ => .str i⟩
  | 0, .kt xs, u, h => by cases u <;> simp [svB] at h
  | _, .tup xs, u, h => by cases u <;> simp [svB] at h
  | 0, .lst xs, u, h => by cases u <;> simp [svB] at h
  | 0, .dct xs, u, h => by cases u <;> simp [svB] at h
  | _, .ref n, u, h => by cases u <;> simp [svB] at h
  | n + 1, .kt xs, u, h => by
    cases u <;> first | (simp [svB] at h; done) | skip
    rename_i a
    simp only [svB] at h
    split at h
    · rename_i cl dd its k sl hk
      simp only [Bool.and_eq_true, decide_eq_true_eq] at h
      obtain ⟨vs, r, rep⟩ := svL_ok K n xs its.toList h.2
      refine ⟨.ref a, rfl, fun H M => .kt ⟨_, its, k, hk, tyIs_eq h.1.1, rfl, ?_, r⟩ (rep H M)⟩
      rw [sizeLine_eq]
      exact h.1.2
    · cases h
  | n + 1, .lst xs, u, h => by
    cases u <;> first | (simp [svB] at h; done) | skip
    rename_i a
    simp only [svB] at h
    split at h
    · rename_i cl its k sl hk
      simp only [Bool.and_eq_true, decide_eq_true_eq] at h
      obtain ⟨vs, r, rep⟩ := svL_ok K n xs its.toList h.2
      have e1 := tyIs_eq h.1.1.1
      have e2 : sl = #[] := Array.isEmpty_iff.mp h.1.1.2
      subst e1 e2
      refine ⟨.ref a, rfl, fun H M => .lst (.inr ⟨its, k, hk, ?_, r⟩) (rep H M)⟩
      rw [sizeLine_eq]
      exact h.1.2
    · cases h
  | n + 1, .dct kvs, u, h => by
    cases u <;> first | (simp [svB] at h; done) | skip
    rename_i a
    simp only [svB] at h
    split at h
    · rename_i cl es k sl hk
      simp only [Bool.and_eq_true] at h
      obtain ⟨ks, xs, vs, e, hl, hp, rep⟩ := svK_ok K n kvs es.toList h.2
      have e1 := tyIs_eq h.1.1
      have e2 : sl = #[] := Array.isEmpty_iff.mp h.1.2
      subst e1 e2
      subst e
      exact ⟨.ref a, rfl, fun H M => .dW ⟨es, k, hk, hp⟩ hl (rep H M)⟩
    · cases h
theorem svL_ok (K : PySem.W.Frag) : ∀ (n : Nat) (xs : List SV) (us : List Value), svL K n xs us = true → ∃ vs, Vals vs us ∧ ∀ H M, RepL K H M xs vs
  | _, [], [], _ => ⟨[], .nil, fun _ _ => .nil⟩
  | _, [], _ :: _, h => by simp [svL] at h
  | _, _ :: _, [], h => by simp [svL] at h
  | n, x :: xs, u :: us, h => by
    simp only [svL, Bool.and_eq_true] at h
    obtain ⟨v, r, q⟩ := svB_ok K n x u h.1
    obtain ⟨vs, rs, qs⟩ := svL_ok K n xs us h.2
    exact ⟨v :: vs, .cons r rs, fun H M => .cons (q H M) (qs H M)⟩
theorem svK_ok (K : PySem.W.Frag) : ∀ (n : Nat) (kvs : List (SV × SV)) (es : List DictEntry), svK K n kvs es = true →
    ∃ (ks : List Int) (xs : List SV) (vs : List V), kvs = (ks.map SV.int).zip xs ∧ ks.length = xs.length ∧
      Paired (fun (p : Int × V) (e : DictEntry) => (∃ t, e.key = .int p.1 t) ∧ e.hash = hashInt p.1 ∧ L2.RelV p.2 e.val) (ks.zip vs) es ∧ ∀ H M, RepL K H M xs vs
  | _, [], [], _ => ⟨[], [], [], rfl, rfl, .nil, fun _ _ => .nil⟩
  | _, [], _ :: _, h => by simp [svK] at h
  | _, (k, x) :: _, [], h => by cases k <;> simp [svK] at h
  | n, (k, x) :: r, e :: es, h => by
    cases k <;> first | (simp [svK] at h; done) | skip
    rename_i k
    simp only [svK, Bool.and_eq_true, decide_eq_true_eq] at h
    obtain ⟨⟨h1, h2⟩, h3, h4⟩ := h
    obtain ⟨v, rv, q⟩ := svB_ok K n x e.val h3
    obtain ⟨ks, xs, vs, e1, e2, p, qs⟩ := svK_ok K n r es h4
    refine ⟨k :: ks, x :: xs, v :: vs, by rw [e1]; rfl, congrArg Nat.succ e2, .cons ⟨?_, h2, rv⟩ p, fun H M => .cons (q H M) (qs H M)⟩
    split at h1
    · rename_i j t hj
      have := of_decide_eq_true h1
      subst this
      exact ⟨t, hj⟩
    · cases h1
end
/-- a constant of the module -/
def gsB (K : PySem.W.Frag) (x : Str) (v : SV) : Bool := match PySem.W.nsIn K mainGlobals x with
  | some (some u) => svB K 12 v u
  | _ => false
theorem gs_ok {K : PySem.W.Frag} {h : Heap} {mg : Str → Option Value} {x : Str} {v : SV} (X : K.In h) (G : h.Ns mainGlobals mg) (c : gsB K x v = true) : ∃ u vx, mg x = some u ∧ RelV vx u ∧ ∀ H M, Rep K H M v vx := by
  unfold gsB at c
  split at c
  · rename_i u e
    obtain ⟨vx, r, q⟩ := svB_ok K 12 v u c
    exact ⟨u, vx, PySem.W.mg_of X G e, r, q⟩
  · cases c

/-! ### binding -/
section
variable {K : PySem.W.Frag} {x qual : Str} {params : Arguments} {body : List Stmt} {scope : Scope} {dvs : List V} {kws : List (Str × V)} {f : Addr} {fd : FuncData} {ps : List Str}
/-- no defaults stand -/
theorem shapes0 (F : FunD K x qual params body scope [] kws f fd) (shs : List Sh)
    (h : ∀ sh ∈ shs, ∀ (kV doc pm : Value) (an : Option Addr) (cdv ct : Value) (us ws : List Value), us.length = sh.n → ws.length = sh.ks.length →
      bindArgs (PySem.W.fnOf x qual params body scope .none kV doc pm an cdv ct) ⟨us, sh.ks.zip ws⟩ = pure (ps.zip (permute sh.perm (us ++ (ws ++ []))))) :
    ∃ ds, Vals ([] : List V) ds ∧ ∀ sh ∈ shs, ∀ (s : Shared) (us ws : List Value), K.In s.heap → us.length = sh.n → ws.length = sh.ks.length → BindsTo s fd ⟨us, sh.ks.zip ws⟩ (ps.zip (permute sh.perm (us ++ (ws ++ ds)))) := by
  obtain ⟨oc, od, dV, kV, doc, pm, an, cdv, ct, osl, rfl, lk, hcd, hD, hK⟩ := F.ex
  rcases hD with ⟨_, rfl⟩ | ⟨e, _⟩
  · exact ⟨[], .nil, fun sh hs s us ws _ l1 l2 => .of_eq (h sh hs kV doc pm an cdv ct us ws l1 l2)⟩
  · exact absurd rfl e
/-- defaults stand behind -/
theorem shapesD (F : FunD K x qual params body scope dvs kws f fd) (hd : dvs ≠ []) (shs : List Sh)
    (h : ∀ sh ∈ shs, ∀ (T : Addr) (kV doc pm : Value) (an : Option Addr) (cdv ct : Value) (us ws its : List Value), us.length = sh.n → ws.length = sh.ks.length → its.length = dvs.length →
      ∃ k, bindArgs (PySem.W.fnOf x qual params body scope (.ref T) kV doc pm an cdv ct) ⟨us, sh.ks.zip ws⟩ = seqItems? (.ref T) >>= k ∧ k (some its.toArray) = pure (ps.zip (permute sh.perm (us ++ (ws ++ its))))) :
    ∃ ds, Vals dvs ds ∧ ∀ sh ∈ shs, ∀ (s : Shared) (us ws : List Value), K.In s.heap → us.length = sh.n → ws.length = sh.ks.length → BindsTo s fd ⟨us, sh.ks.zip ws⟩ (ps.zip (permute sh.perm (us ++ (ws ++ ds)))) := by
  obtain ⟨oc, od, dV, kV, doc, pm, an, cdv, ct, osl, rfl, lk, hcd, hD, hK⟩ := F.ex
  rcases hD with ⟨e, _⟩ | ⟨_, T, o, its, m, rfl, lT, oT, rT⟩
  · exact absurd e hd
  · refine ⟨its, rT, fun sh hs s us ws X l1 l2 => ?_⟩
    obtain ⟨k, e1, e2⟩ := h sh hs T kV doc pm an cdv ct us ws its l1 l2 rT.length.symm
    refine BindsTo.of_looks fun M => ?_
    rw [e1]
    exact looks_items X lT oT (.of_pure e2)
end

/-! ### def by def -/
section
variable {K : PySem.W.Frag} {mg : Str → Option Value} {T : Tb} {S : Pt}
inductive AllD (K : PySem.W.Frag) (mg : Str → Option Value) (T : Tb) (S : Pt) : Nat → List FT → Prop
  | nil {i : Nat} : AllD K mg T S i []
  | cons {i : Nat} {F : FT} {r : List FT} : DefOk K mg T S i F → AllD K mg T S (i + 1) r → AllD K mg T S i (F :: r)
theorem AllD.get : ∀ {i : Nat} {l : List FT}, AllD K mg T S i l → ∀ (j : Nat) (F : FT), l[j]? = some F → DefOk K mg T S (i + j) F
  | _, _, .nil, j, F, h => by simp at h
  | _, _, .cons d r, 0, F, h => by
    cases h
    exact d
  | i, _, .cons d r, j + 1, F, h => by
    have := AllD.get r j F h
    rwa [show i + 1 + j = i + (j + 1) by omega] at this
/-- a def, from the head's word for it -/
theorem defOk_of {f : Nat} {F : FT} {d : He.DefD} {h : Heap} (X : K.In h) (G : h.Ns mainGlobals mg) (hn : d.name = F.name) (hat : d.at_ = (F.name, none)) (hglo : (He.Fa.glo F.name).ok K = true)
    (hd : ∃ fd, FunD K d.name d.qual d.params d.body d.scope (d.dvs K) (d.kws K) (He.fAd K d.at_) fd) (sc : FnScope F.N F.ps d.scope) (mb : mSs S F.N d.scope F.body d.body = true) (hdfl : ∀ H M, RepL K H M F.dfl (d.dvs K))
    (shs : List Sh) (hshs : S.shapes.filter (fun sh => decide (sh.f = f)) = shs)
    (hb : ∀ (a : Addr) (fd : FuncData), FunD K d.name d.qual d.params d.body d.scope (d.dvs K) (d.kws K) a fd → ∃ ds, Vals (d.dvs K) ds ∧ ∀ sh ∈ shs, ∀ (s : Shared) (us ws : List Value), K.In s.heap → us.length = sh.n → ws.length = sh.ks.length → BindsTo s fd ⟨us, sh.ks.zip ws⟩ (F.ps.zip (permute sh.perm (us ++ (ws ++ ds))))) :
    DefOk K mg T S f F := by
  obtain ⟨fd, D⟩ := hd
  obtain ⟨ds, hv, hs⟩ := hb _ fd D
  have hmg := He.glo_ok X G hglo
  rw [hat] at D
  rw [hn] at D
  refine ⟨d.qual, d.params, d.body, d.scope, d.dvs K, d.kws K, He.fAd K (F.name, none), fd, ds, D, sc, mb, hmg, hv, hdfl, ?_⟩
  intro sh hm hf
  have : sh ∈ shs := by
    rw [← hshs]
    exact List.mem_filter.mpr ⟨hm, decide_eq_true hf⟩
  exact hs sh this
end
end Ws
end

section
set_option Elab.async false
set_option linter.all false
set_option maxRecDepth 100000
set_option maxHeartbeats 0
namespace K37
open PySem PySem.Spec PyProof.Rows L2 Ws
/-! the core texts of law_k37_whole_identities: printed by gen_core.py -/
def b0 : CSs :=
  (.cons (.ret (.and (.bi .isInt (.cons (.var 0) .nil)) (.not (.bi .isBool (.cons (.var 0) .nil)))))
  .nil)
/-- is_integer -/
def f0 : FT := ⟨"is_integer", ["value"], ["value"], [], b0, false, true⟩
def b1 : CSs :=
  (.cons (.ret (.and (.call 0 [0] (.cons (.var 0) .nil) .nil) (.cmp .ge (.var 0) (.var 1))))
  .nil)
/-- is_natural -/
def f1 : FT := ⟨"is_natural", ["value", "least"], ["value", "least"], [(.int (0))], b1, false, true⟩
def b2 : CSs :=
  (.cons (.cond (.or (.not (.bi .isTuple (.cons (.var 0) .nil))) (.cmp .ne (.bi .len (.cons (.var 0) .nil)) (.var 1))) (.cons (.ret (.bl false))
  .nil) .nil)
  (.cons (.ret (.bi .all (.cons (.comp false (.call 0 [0] (.cons (.var 2) .nil) .nil) (.name 2) (.it (.var 0)) [2]) .nil)))
  .nil))
/-- are_integers -/
def f2 : FT := ⟨"are_integers", ["value", "size", "part"], ["value", "size"], [], b2, false, true⟩
def b3 : CSs :=
  (.cons (.ret (.and (.bi .isTuple (.cons (.var 0) .nil)) (.chain .le .le (.var 1) (.bi .len (.cons (.var 0) .nil)) (.var 2))))
  .nil)
/-- are_parts -/
def f3 : FT := ⟨"are_parts", ["value", "least", "most"], ["value", "least", "most"], [], b3, false, true⟩
def b4 : CSs :=
  (.cons (.cond (.or (.not (.call 1 [0, 1] (.cons (.var 0) (.cons (.var 1) .nil)) .nil)) (.cmp .gt (.var 0) (.var 2))) (.cons .nev
  .nil) .nil)
  .nil)
/-- check_between -/
def f4 : FT := ⟨"check_between", ["value", "least", "most"], ["value", "least", "most"], [], b4, false, true⟩
def b5 : CSs :=
  (.cons (.cond (.not (.call 3 [0, 1, 2] (.cons (.var 0) (.cons (.int (1)) (.cons (.int (3)) .nil))) .nil)) (.cons (.ret (.bl false))
  .nil) .nil)
  (.cons (.cond (.not (.bi .all (.cons (.comp false (.and (.call 1 [0, 1] (.cons (.var 1) (.cons (.int (2)) .nil)) .nil) (.cmp .le (.var 1) (.int (5)))) (.name 1) (.it (.var 0)) [1]) .nil))) (.cons (.ret (.bl false))
  .nil) .nil)
  (.cons (.ret (.cmp .le (.bi .sum (.cons (.comp false (.bi .len (.cons (.ix (.glob "SUMMANDS") (.var 1)) .nil)) (.name 1) (.it (.var 0)) [1]) .nil)) (.int (12))))
  .nil)))
/-- is_space -/
def f5 : FT := ⟨"is_space", ["value", "size"], ["value"], [], b5, false, true⟩
def b6 : CSs :=
  (.cons (.cond (.not (.call 5 [0] (.cons (.var 0) .nil) .nil)) (.cons .nev
  .nil) .nil)
  .nil)
/-- check_space -/
def f6 : FT := ⟨"check_space", ["space"], ["space"], [], b6, false, true⟩
def b7 : CSs :=
  (.cons (.ret (.bi .sum (.cons (.comp false (.bi .len (.cons (.ix (.glob "SUMMANDS") (.var 1)) .nil)) (.name 1) (.it (.var 0)) [1]) .nil)))
  .nil)
/-- width_in -/
def f7 : FT := ⟨"width_in", ["space", "size"], ["space"], [], b7, false, true⟩
def b8 : CSs :=
  (.cons (.ret (.call 2 [0, 1] (.cons (.var 1) (.cons (.call 7 [0] (.cons (.var 0) .nil) .nil) .nil)) .nil))
  .nil)
/-- is_element_in -/
def f8 : FT := ⟨"is_element_in", ["space", "value"], ["space", "value"], [], b8, false, true⟩
def b9 : CSs :=
  (.cons (.expr (.call 6 [0] (.cons (.var 0) .nil) .nil))
  (.cons (.ret (.call 8 [0, 1] (.cons (.var 0) (.cons (.var 1) .nil)) .nil))
  .nil))
/-- is_element -/
def f9 : FT := ⟨"is_element", ["space", "value"], ["space", "value"], [], b9, false, true⟩
def b10 : CSs :=
  (.cons (.ret (.bin .mul (.tup (.cons (.int (0)) .nil)) (.call 7 [0] (.cons (.var 0) .nil) .nil)))
  .nil)
/-- identity_in -/
def f10 : FT := ⟨"identity_in", ["space"], ["space"], [], b10, false, true⟩
def b11 : CSs :=
  (.cons (.expr (.call 6 [0] (.cons (.var 0) .nil) .nil))
  (.cons (.ret (.call 10 [0] (.cons (.var 0) .nil) .nil))
  .nil))
/-- identity_of -/
def f11 : FT := ⟨"identity_of", ["space"], ["space"], [], b11, false, true⟩
def b12l0 : CSs :=
  (.cons (.set (.name 8) (.bin .add (.var 8) (.bin .mul (.ix (.var 1) (.bin .add (.var 4) (.var 9))) (.ix (.var 2) (.bin .add (.var 4) (.var 10))))))
  .nil)
def b12l1 : CSs :=
  (.cons (.set (.name 8) (.bin .add (.ix (.var 1) (.bin .add (.var 4) (.var 6))) (.ix (.var 2) (.bin .add (.var 4) (.var 6)))))
  (.cons (.loop (.pair (.name 9) (.name 10)) (.it (.var 7)) b12l0 [9, 10])
  (.cons (.append (.var 3) (.var 8))
  .nil)))
def b12l2 : CSs :=
  (.cons (.loop (.pair (.name 6) (.name 7)) (.enum (.ix (.glob "SUMMANDS") (.var 5))) b12l1 [6, 7, 8, 9, 10])
  (.cons (.set (.name 4) (.bin .add (.var 4) (.bi .len (.cons (.ix (.glob "SUMMANDS") (.var 5)) .nil))))
  .nil))
def b12 : CSs :=
  (.cons (.set (.name 3) (.lst true .nil))
  (.cons (.set (.name 4) (.int (0)))
  (.cons (.loop (.name 5) (.it (.var 0)) b12l2 [5, 6, 7, 8, 9, 10])
  (.cons (.ret (.bi .tuple (.cons (.var 3) .nil)))
  .nil))))
/-- product_in -/
def f12 : FT := ⟨"product_in", ["space", "x", "y", "entries", "start", "size", "place", "pairs", "total", "i", "j"], ["space", "x", "y"], [], b12, false, true⟩
def b13l0 : CSs :=
  (.cons (.set (.name 7) (.bin .add (.var 7) (.bin .mul (.ix (.var 1) (.bin .add (.var 3) (.var 8))) (.ix (.var 2) (.bin .add (.var 3) (.var 9))))))
  .nil)
def b13l1 : CSs :=
  (.cons (.set (.name 7) (.ix (.var 1) (.bin .add (.var 3) (.var 5))))
  (.cons (.loop (.pair (.name 8) (.name 9)) (.it (.var 6)) b13l0 [8, 9])
  (.cons (.append (.var 2) (.neg (.var 7)))
  .nil)))
def b13l2 : CSs :=
  (.cons (.loop (.pair (.name 5) (.name 6)) (.enum (.ix (.glob "SUMMANDS") (.var 4))) b13l1 [5, 6, 7, 8, 9])
  (.cons (.set (.name 3) (.bin .add (.var 3) (.bi .len (.cons (.ix (.glob "SUMMANDS") (.var 4)) .nil))))
  .nil))
def b13 : CSs :=
  (.cons (.set (.name 2) (.lst true .nil))
  (.cons (.set (.name 3) (.int (0)))
  (.cons (.loop (.name 4) (.it (.var 0)) b13l2 [4, 5, 6, 7, 8, 9])
  (.cons (.ret (.bi .tuple (.cons (.var 2) .nil)))
  .nil))))
/-- inverse_in -/
def f13 : FT := ⟨"inverse_in", ["space", "x", "entries", "start", "size", "place", "pairs", "total", "i", "j"], ["space", "x"], [], b13, false, true⟩
def b14 : CSs :=
  (.cons (.cond (.or (.not (.bi .isTuple (.cons (.var 0) .nil))) (.not (.call 2 [0, 1] (.cons (.var 0) (.cons (.bi .len (.cons (.var 0) .nil)) .nil)) .nil))) (.cons .nev
  .nil) .nil)
  (.cons (.cond (.not (.bi .all (.cons (.comp false (.and (.chain .le .le (.neg (.int (3))) (.var 1) (.int (3))) (.cmp .ne (.var 1) (.int (0)))) (.name 1) (.it (.var 0)) [1]) .nil))) (.cons .nev
  .nil) .nil)
  .nil))
/-- check_word -/
def f14 : FT := ⟨"check_word", ["word", "letter"], ["word"], [], b14, false, true⟩
def b15l0 : CSs :=
  (.cons (.set (.name 5) (.ix (.var 1) (.bin .sub (.bi .abs (.cons (.var 4) .nil)) (.int (1)))))
  (.cons (.set (.name 3) (.call 12 [0, 1, 2] (.cons (.var 0) (.cons (.var 3) (.cons (.ite (.cmp .gt (.var 4) (.int (0))) (.var 5) (.call 13 [0, 1] (.cons (.var 0) (.cons (.var 5) .nil)) .nil)) .nil))) .nil))
  .nil))
def b15 : CSs :=
  (.cons (.set (.name 3) (.call 10 [0] (.cons (.var 0) .nil) .nil))
  (.cons (.loop (.name 4) (.it (.var 2)) b15l0 [4, 5])
  (.cons (.ret (.var 3))
  .nil)))
/-- word_in -/
def f15 : FT := ⟨"word_in", ["space", "xs", "word", "found", "letter", "step"], ["space", "xs", "word"], [], b15, false, true⟩
def b16 : CSs :=
  (.cons (.expr (.call 6 [0] (.cons (.var 0) .nil) .nil))
  (.cons (.cond (.or (.not (.bi .isTuple (.cons (.var 1) .nil))) (.or (.cmp .ne (.bi .len (.cons (.var 1) .nil)) (.int (3))) (.not (.bi .all (.cons (.comp false (.call 8 [0, 1] (.cons (.var 0) (.cons (.var 3) .nil)) .nil) (.name 3) (.it (.var 1)) [3]) .nil))))) (.cons .nev
  .nil) .nil)
  (.cons (.expr (.call 14 [0] (.cons (.var 2) .nil) .nil))
  (.cons (.ret (.call 15 [0, 1, 2] (.cons (.var 0) (.cons (.var 1) (.cons (.var 2) .nil))) .nil))
  .nil))))
/-- word_at -/
def f16 : FT := ⟨"word_at", ["space", "xs", "word", "x"], ["space", "xs", "word"], [], b16, false, true⟩
def b17l0 : CSs :=
  (.cons (.set (.name 9) (.bin .add (.var 5) (.bin .mul (.tup (.cons (.bi .abs (.cons (.var 3) .nil)) .nil)) (.var 8))))
  (.cons (.set (.name 10) (.ite (.and (.cmp .lt (.var 3) (.int (0))) (.cmp .eq (.bin .mod (.var 8) (.int (2))) (.int (1)))) (.neg (.int (1))) (.int (1))))
  (.cons (.setIx (.var 4) (.var 9) (.bin .add (.get (.var 4) (.var 9) (.int (0))) (.bin .mul (.var 10) (.var 6))))
  .nil)))
def b17l1 : CSs :=
  (.cons (.set (.name 7) (.ite (.cmp .gt (.var 3) (.int (0))) (.bin .add (.bi .len (.cons (.var 5) .nil)) (.int (1))) (.var 1)))
  (.cons (.loop (.name 8) (.range1 (.bin .add (.bin .sub (.bi .min2 (.cons (.var 7) (.cons (.var 1) .nil))) (.bi .len (.cons (.var 5) .nil))) (.int (1)))) b17l0 [8, 9, 10])
  .nil))
def b17l2 : CSs :=
  (.cons (.set (.name 4) (.dictT .nil))
  (.cons (.loop (.pair (.name 5) (.name 6)) (.items (.var 2)) b17l1 [5, 6, 7, 8, 9, 10])
  (.cons (.set (.name 2) (.compD (.var 5) (.var 6) (.pair (.name 5) (.name 6)) (.items (.var 4)) (.cmp .ne (.var 6) (.int (0))) [5, 6]))
  .nil)))
def b17 : CSs :=
  (.cons (.set (.name 2) (.dictT (.cons (.tup .nil) (.cons (.int (1)) .nil))))
  (.cons (.loop (.name 3) (.it (.var 0)) b17l2 [3, 4, 5, 6, 7, 8, 9, 10])
  (.cons (.ret (.var 2))
  .nil)))
/-- expansion_in -/
def f17 : FT := ⟨"expansion_in", ["word", "most", "numbers", "letter", "found", "pattern", "number", "longest", "many", "longer", "sign"], ["word", "most"], [], b17, true, false⟩
def b18 : CSs :=
  (.cons (.ret (.bi .tuple (.cons (.comp false (.bi .tuple (.cons (.comp false (.ite (.and (.cmp .lt (.var 3) (.bi .len (.cons (.var 0) .nil))) (.cmp .eq (.ix (.var 0) (.var 3)) (.var 2))) (.int (1)) (.int (0))) (.name 3) (.range1 (.call 7 [0] (.cons (.tup (.cons (.var 1) .nil)) .nil) .nil)) [3]) .nil)) (.name 2) (.it (.tup (.cons (.int (1)) (.cons (.int (2)) (.cons (.int (3)) .nil))))) [2]) .nil)))
  .nil)
/-- breaking_in -/
def f18 : FT := ⟨"breaking_in", ["pattern", "size", "letter", "place"], ["pattern", "size"], [], b18, false, true⟩
def b19 : CSs :=
  (.cons (.expr (.call 14 [0] (.cons (.var 0) .nil) .nil))
  (.cons (.expr (.call 4 [0, 1, 2] (.cons (.var 1) (.cons (.int (2)) (.cons (.int (5)) .nil))) .nil))
  (.cons (.set (.name 2) (.bi .sorted (.cons (.compIf false (.var 3) (.name 3) (.keys (.call 17 [0, 1] (.cons (.var 0) (.cons (.bin .sub (.var 1) (.int (1))) .nil)) .nil)) (.cmp .ne (.var 3) (.tup .nil)) [3]) .nil)))
  (.cons (.cond (.not (.var 2)) (.cons (.ret (.tup (.cons (.str "always") .nil)))
  .nil) .nil)
  (.cons (.ret (.tup (.cons (.str "breaks") (.cons (.call 18 [0, 1] (.cons (.ix (.var 2) (.int (0))) (.cons (.var 1) .nil)) .nil) .nil))))
  .nil)))))
/-- identity_for -/
def f19 : FT := ⟨"identity_for", ["word", "size", "patterns", "pattern"], ["word", "size"], [], b19, false, true⟩
def b20 : CSs :=
  (.cons (.set (.name 1) (.comp false (.ite (.cmp .ge (.var 2) (.int (0))) (.bin .mul (.bi .int (.cons (.var 2) .nil)) (.int (2))) (.bin .sub (.bin .mul (.neg (.bi .int (.cons (.var 2) .nil))) (.int (2))) (.int (1)))) (.name 2) (.it (.sl (.var 0) .none (.some (.int (63))))) [2]))
  (.cons (.ret (.dict (.cons (.str "cells") (.cons (.var 1) (.cons (.str "at") (.cons (.int (0)) (.cons (.str "left") (.cons (.int (0)) (.cons (.str "count") (.cons (.int (0)) (.cons (.str "sum") (.cons (.bin .mod (.bi .int (.cons (.bi .sum (.cons (.var 1) .nil)) .nil)) (.int (1000003))) .nil))))))))))))
  .nil))
/-- _law_begin -/
def f20 : FT := ⟨"_law_begin", ["script", "cells", "cell"], ["script"], [], b20, true, false⟩
def b21 : CSs :=
  (.cons (.setIx (.var 0) (.str "count") (.bin .add (.ix (.var 0) (.str "count")) (.int (1))))
  (.cons (.cond (.cmp .lt (.ix (.var 0) (.str "left")) (.var 1)) (.cons (.set (.name 3) (.bin .add (.ix (.var 0) (.str "sum")) (.ix (.var 0) (.str "count"))))
  (.cons (.cond (.cmp .lt (.ix (.var 0) (.str "at")) (.bi .len (.cons (.ix (.var 0) (.str "cells")) .nil))) (.cons (.set (.name 3) (.ix (.ix (.var 0) (.str "cells")) (.ix (.var 0) (.str "at"))))
  (.cons (.setIx (.var 0) (.str "at") (.bin .add (.ix (.var 0) (.str "at")) (.int (1))))
  .nil)) .nil)
  (.cons (.cond (.cmp .lt (.var 3) (.bin .pow (.int (10)) (.int (18)))) (.cons (.set (.name 4) (.bin .mod (.bi .int (.cons (.bin .add (.bin .add (.bin .mul (.var 3) (.int (48271))) (.bin .mul (.ix (.var 0) (.str "count")) (.int (69621)))) (.int (12345))) .nil)) (.int (2305843009213693951))))
  (.cons (.set (.name 4) (.bin .mod (.bi .int (.cons (.bin .add (.bin .add (.bin .mul (.var 4) (.var 4)) (.var 3)) (.bin .mul (.ix (.var 0) (.str "count")) (.int (7919)))) .nil)) (.int (2305843009213693951))))
  (.cons (.set (.name 3) (.bin .mod (.bi .int (.cons (.bin .add (.bin .add (.bin .mul (.bin .mul (.var 4) (.var 4)) (.int (16807))) (.bin .mul (.var 3) (.int (40014)))) (.int (1))) .nil)) (.int (2305843009213693951))))
  .nil))) .nil)
  (.cons (.setIx (.var 0) (.str "left") (.var 3))
  .nil)))) .nil)
  (.cons (.set (.name 2) (.bin .mod (.bi .int (.cons (.ix (.var 0) (.str "left")) .nil)) (.var 1)))
  (.cons (.setIx (.var 0) (.str "left") (.bin .fdiv (.bi .int (.cons (.ix (.var 0) (.str "left")) .nil)) (.var 1)))
  (.cons (.ret (.var 2))
  .nil)))))
/-- _law_draw -/
def f21 : FT := ⟨"_law_draw", ["state", "many", "number", "cell", "mixed"], ["state", "many"], [], b21, false, false⟩
def b22l0 : CSs :=
  (.cons (.set (.name 1) (.bin .add (.var 1) (.comp false (.tup (.cons (.var 3) (.cons (.bin .add (.var 3) (.var 2)) .nil))) (.name 3) (.range1 (.bin .sub (.var 0) (.var 2))) [3])))
  .nil)
def b22 : CSs :=
  (.cons (.set (.name 1) (.lst false .nil))
  (.cons (.loop (.name 2) (.range2 (.int (1)) (.var 0)) b22l0 [2])
  (.cons (.ret (.var 1))
  .nil)))
/-- _law_places -/
def f22 : FT := ⟨"_law_places", ["size", "found", "step", "i"], ["size"], [], b22, false, true⟩
def b23 : CSs :=
  (.cons (.ret (.bi .sum (.cons (.comp false (.bin .fdiv (.bin .mul (.var 1) (.bin .sub (.var 1) (.int (1)))) (.int (2))) (.name 1) (.it (.var 0)) [1]) .nil)))
  .nil)
/-- _law_width -/
def f23 : FT := ⟨"_law_width", ["space", "size"], ["space"], [], b23, false, true⟩
def b24l0 : CSs :=
  (.cons (.set (.name 8) (.ix (.var 6) (.var 9)))
  (.cons (.setIx (.var 8) (.var 10) (.ix (.var 1) (.bin .add (.var 4) (.var 7))))
  .nil))
def b24l1 : CSs :=
  (.cons (.set (.name 6) (.comp false (.comp true (.ite (.cmp .eq (.var 9) (.var 10)) (.var 2) (.int (0))) (.name 10) (.range1 (.var 5)) [10]) (.name 9) (.range1 (.var 5)) [9]))
  (.cons (.loop (.pair (.name 7) (.pair (.name 9) (.name 10))) (.enum (.call 22 [0] (.cons (.var 5) .nil) .nil)) b24l0 [7, 8, 9, 10])
  (.cons (.set (.name 4) (.bin .add (.var 4) (.bin .fdiv (.bin .mul (.var 5) (.bin .sub (.var 5) (.int (1)))) (.int (2)))))
  (.cons (.append (.var 3) (.var 6))
  .nil))))
def b24 : CSs :=
  (.cons (.set (.name 3) (.lst true .nil))
  (.cons (.set (.name 4) (.int (0)))
  (.cons (.loop (.name 5) (.it (.var 0)) b24l1 [5, 6, 7, 8, 9, 10])
  (.cons (.ret (.var 3))
  .nil))))
/-- _law_matrices -/
def f24 : FT := ⟨"_law_matrices", ["space", "x", "middle", "found", "start", "size", "rows", "at", "row", "i", "j"], ["space", "x", "middle"], [], b24, false, true⟩
def b25 : CSs :=
  (.cons (.set (.name 2) (.bi .len (.cons (.var 0) .nil)))
  (.cons (.ret (.comp false (.comp false (.bi .sum (.cons (.comp false (.bin .mul (.ix (.ix (.var 0) (.var 3)) (.var 5)) (.ix (.ix (.var 1) (.var 5)) (.var 4))) (.name 5) (.range1 (.var 2)) [5]) .nil)) (.name 4) (.range1 (.var 2)) [4]) (.name 3) (.range1 (.var 2)) [3]))
  .nil))
/-- _law_times -/
def f25 : FT := ⟨"_law_times", ["one", "other", "size", "i", "j", "k"], ["one", "other"], [], b25, false, true⟩
def b26l0 : CSs :=
  (.cons (.set (.name 2) (.bin .add (.var 2) (.comp false (.ix (.ix (.var 4) (.var 5)) (.var 6)) (.pair (.name 5) (.name 6)) (.it (.call 22 [0] (.cons (.var 3) .nil) .nil)) [5, 6])))
  .nil)
def b26 : CSs :=
  (.cons (.set (.name 2) (.lst false .nil))
  (.cons (.loop (.pair (.name 3) (.name 4)) (.zip2 (.var 0) (.var 1)) b26l0 [3, 4])
  (.cons (.ret (.bi .tuple (.cons (.var 2) .nil)))
  .nil)))
/-- _law_entries -/
def f26 : FT := ⟨"_law_entries", ["space", "matrices", "found", "size", "matrix", "i", "j"], ["space", "matrices"], [], b26, false, true⟩
def b27 : CSs :=
  (.cons (.par 3 4 (.call 24 [0, 1, 2] (.cons (.var 0) (.cons (.var 1) (.cons (.int (1)) .nil))) .nil) (.call 24 [0, 1, 2] (.cons (.var 0) (.cons (.var 2) (.cons (.int (1)) .nil))) .nil))
  (.cons (.ret (.call 26 [0, 1] (.cons (.var 0) (.cons (.comp false (.call 25 [0, 1] (.cons (.var 5) (.cons (.var 6) .nil)) .nil) (.pair (.name 5) (.name 6)) (.zip2 (.var 3) (.var 4)) [5, 6]) .nil)) .nil))
  .nil))
/-- _law_product -/
def f27 : FT := ⟨"_law_product", ["space", "x", "y", "ones", "others", "one", "other"], ["space", "x", "y"], [], b27, false, true⟩
def b28l0 : CSs :=
  (.cons (.setIx (.var 2) (.var 3) (.neg (.ix (.call 27 [0, 1, 2] (.cons (.var 0) (.cons (.var 1) (.cons (.bi .tuple (.cons (.var 2) .nil)) .nil))) .nil) (.var 3))))
  .nil)
def b28 : CSs :=
  (.cons (.set (.name 2) (.repL true (.lst false (.cons (.int (0)) .nil)) (.call 23 [0] (.cons (.var 0) .nil) .nil)))
  (.cons (.loop (.name 3) (.range1 (.bi .len (.cons (.var 2) .nil))) b28l0 [3])
  (.cons (.ret (.bi .tuple (.cons (.var 2) .nil)))
  .nil)))
/-- _law_inverse -/
def f28 : FT := ⟨"_law_inverse", ["space", "x", "entries", "at"], ["space", "x"], [], b28, false, true⟩
def b29 : CSs :=
  (.cons (.set (.name 2) (.ix (.lst false (.cons (.int (1)) (.cons (.bi .min2 (.cons (.int (3)) (.cons (.var 1) .nil))) (.cons (.var 1) .nil)))) (.call 21 [0, 1] (.cons (.var 0) (.cons (.int (3)) .nil)) .nil)))
  (.cons (.ret (.bin .sub (.call 21 [0, 1] (.cons (.var 0) (.cons (.bin .add (.bin .mul (.int (2)) (.var 2)) (.int (1))) .nil)) .nil) (.var 2)))
  .nil))
/-- _law_entry -/
def f29 : FT := ⟨"_law_entry", ["state", "most", "limit"], ["state", "most"], [], b29, false, false⟩
def b30 : CSs :=
  (.cons (.set (.name 2) (.ite (.cmp .mem (.int (5)) (.var 1)) (.int (2)) (.ite (.cmp .mem (.int (4)) (.var 1)) (.int (5)) (.int (30)))))
  (.cons (.ret (.bi .tuple (.cons (.comp false (.call 29 [0, 1] (.cons (.var 0) (.cons (.var 2) .nil)) .nil) (.name 3) (.range1 (.call 23 [0] (.cons (.var 1) .nil) .nil)) [3]) .nil)))
  .nil))
/-- _law_element -/
def f30 : FT := ⟨"_law_element", ["state", "space", "most", "at"], ["state", "space"], [], b30, false, false⟩
def b31 : CSs :=
  (.cons (.set (.name 2) (.lst false (.cons (.int (1)) (.cons (.neg (.int (1))) (.cons (.int (2)) (.cons (.neg (.int (2))) (.cons (.int (3)) (.cons (.neg (.int (3))) .nil))))))))
  (.cons (.ret (.bi .tuple (.cons (.comp false (.ix (.var 2) (.call 21 [0, 1] (.cons (.var 0) (.cons (.int (6)) .nil)) .nil)) (.name 3) (.range1 (.call 21 [0, 1] (.cons (.var 0) (.cons (.bin .add (.var 1) (.int (1))) .nil)) .nil)) [3]) .nil)))
  .nil))
/-- _law_word -/
def f31 : FT := ⟨"_law_word", ["state", "most", "letters", "at"], ["state", "most"], [], b31, false, false⟩
def b32 : CSs :=
  (.cons (.ret (.bi .tuple (.cons (.comp false (.neg (.var 1)) (.name 1) (.it (.rev (.var 0))) [1]) .nil)))
  .nil)
/-- _law_back -/
def f32 : FT := ⟨"_law_back", ["word", "letter"], ["word"], [], b32, false, true⟩
def b33 : CSs :=
  (.cons (.ret (.bin .add (.bin .add (.bin .add (.call 32 [0] (.cons (.var 0) .nil) .nil) (.call 32 [0] (.cons (.var 1) .nil) .nil)) (.var 0)) (.var 1)))
  .nil)
/-- _law_commuted -/
def f33 : FT := ⟨"_law_commuted", ["one", "other"], ["one", "other"], [], b33, false, true⟩
def b34l0 : CSs :=
  (.cons (.cond (.or (.cmp .ne (.ix (.var 1) (.bin .sub (.var 5) (.var 7))) (.bi .abs (.cons (.var 3) .nil))) (.and (.cmp .gt (.var 3) (.int (0))) (.cmp .gt (.var 7) (.int (1))))) (.cons .brk
  .nil) .nil)
  (.cons (.cond (.cmp .lt (.var 3) (.int (0))) (.cons (.set (.name 6) (.neg (.var 6)))
  .nil) .nil)
  (.cons (.setIx (.var 4) (.var 5) (.bin .add (.ix (.var 4) (.var 5)) (.bin .mul (.var 6) (.ix (.var 2) (.bin .sub (.var 5) (.var 7))))))
  .nil)))
def b34l1 : CSs :=
  (.cons (.setIx (.var 4) (.var 5) (.ix (.var 2) (.var 5)))
  (.cons (.set (.name 6) (.int (1)))
  (.cons (.loop (.name 7) (.range2 (.int (1)) (.bin .add (.var 5) (.int (1)))) b34l0 [7])
  .nil)))
def b34l2 : CSs :=
  (.cons (.set (.name 4) (.repL true (.lst false (.cons (.int (0)) .nil)) (.bi .len (.cons (.var 2) .nil))))
  (.cons (.loop (.name 5) (.range1 (.bi .len (.cons (.var 2) .nil))) b34l1 [5, 6, 7])
  (.cons (.set (.name 2) (.var 4))
  .nil)))
def b34 : CSs :=
  (.cons (.set (.name 2) (.bin .add (.lst false (.cons (.int (1)) .nil)) (.repL false (.lst false (.cons (.int (0)) .nil)) (.bi .len (.cons (.var 1) .nil)))))
  (.cons (.loop (.name 3) (.it (.var 0)) b34l2 [3, 4, 5, 6, 7])
  (.cons (.ret (.ix (.var 2) (.neg (.int (1)))))
  .nil)))
/-- _law_number -/
def f34 : FT := ⟨"_law_number", ["word", "pattern", "counts", "letter", "found", "at", "sign", "back"], ["word", "pattern"], [], b34, false, true⟩
def b35l0 : CSs :=
  (.cons (.set (.name 3) (.bin .add (.var 3) (.comp false (.bin .add (.var 4) (.tup (.cons (.var 5) .nil))) (.name 5) (.it (.tup (.cons (.int (1)) (.cons (.int (2)) (.cons (.int (3)) .nil))))) [5])))
  .nil)
def b35l1 : CSs :=
  (.cons (.set (.name 3) (.lst false .nil))
  (.cons (.loop (.name 4) (.it (.var 1)) b35l0 [4])
  (.cons (.set (.name 1) (.var 3))
  .nil)))
def b35 : CSs :=
  (.cons (.set (.name 1) (.lst false (.cons (.tup .nil) .nil)))
  (.cons (.loop (.name 2) (.range1 (.var 0)) b35l1 [2, 3, 4])
  (.cons (.ret (.var 1))
  .nil)))
/-- _law_patterns -/
def f35 : FT := ⟨"_law_patterns", ["length", "found", "step", "longer", "pattern", "letter"], ["length"], [], b35, false, true⟩
def b36l0 : CSs :=
  (.cons (.set (.name 5) (.ix (.var 1) (.bin .sub (.bi .abs (.cons (.var 4) .nil)) (.int (1)))))
  (.cons (.set (.name 3) (.call 27 [0, 1, 2] (.cons (.var 0) (.cons (.var 3) (.cons (.ite (.cmp .gt (.var 4) (.int (0))) (.var 5) (.call 28 [0, 1] (.cons (.var 0) (.cons (.var 5) .nil)) .nil)) .nil))) .nil))
  .nil))
def b36 : CSs :=
  (.cons (.set (.name 3) (.bi .tuple (.cons (.repL false (.lst false (.cons (.int (0)) .nil)) (.call 23 [0] (.cons (.var 0) .nil) .nil)) .nil)))
  (.cons (.loop (.name 4) (.it (.var 2)) b36l0 [4, 5])
  (.cons (.ret (.var 3))
  .nil)))
/-- _law_value -/
def f36 : FT := ⟨"_law_value", ["space", "xs", "word", "found", "letter", "x"], ["space", "xs", "word"], [], b36, false, true⟩
def b37 : CSs :=
  (.cons (.par3 2 3 4 (.call 31 [0, 1] (.cons (.var 0) (.cons (.int (1)) .nil)) .nil) (.call 31 [0, 1] (.cons (.var 0) (.cons (.int (1)) .nil)) .nil) (.call 31 [0, 1] (.cons (.var 0) (.cons (.int (1)) .nil)) .nil))
  (.cons (.set (.name 1) (.call 21 [0, 1] (.cons (.var 0) (.cons (.int (5)) .nil)) .nil))
  (.cons (.cond (.cmp .eq (.var 1) (.int (0))) (.cons (.ret (.call 31 [0, 1] (.cons (.var 0) (.cons (.int (12)) .nil)) .nil))
  .nil) .nil)
  (.cons (.cond (.cmp .eq (.var 1) (.int (1))) (.cons (.ret (.call 33 [0, 1] (.cons (.var 2) (.cons (.var 3) .nil)) .nil))
  .nil) .nil)
  (.cons (.cond (.cmp .eq (.var 1) (.int (2))) (.cons (.ret (.call 33 [0, 1] (.cons (.call 33 [0, 1] (.cons (.var 2) (.cons (.var 3) .nil)) .nil) (.cons (.var 4) .nil)) .nil))
  .nil) .nil)
  (.cons (.cond (.cmp .eq (.var 1) (.int (3))) (.cons (.ret (.call 33 [0, 1] (.cons (.call 33 [0, 1] (.cons (.call 33 [0, 1] (.cons (.var 2) (.cons (.var 3) .nil)) .nil) (.cons (.var 4) .nil)) .nil) (.cons (.call 31 [0, 1] (.cons (.var 0) (.cons (.int (1)) .nil)) .nil) .nil)) .nil))
  .nil) .nil)
  (.cons (.ret (.call 33 [0, 1] (.cons (.call 33 [0, 1] (.cons (.var 2) (.cons (.var 3) .nil)) .nil) (.cons (.call 33 [0, 1] (.cons (.var 3) (.cons (.var 4) .nil)) .nil) .nil)) .nil))
  .nil)))))))
/-- _law_drawn -/
def f37 : FT := ⟨"_law_drawn", ["state", "kind", "one", "other", "third"], ["state"], [], b37, false, false⟩
def b38l0 : CSs :=
  (.cons (.cond (.bi .any (.cons (.comp false (.cmp .ne (.call 34 [0, 1] (.cons (.var 0) (.cons (.var 3) .nil)) .nil) (.int (0))) (.name 3) (.it (.call 35 [0] (.cons (.var 2) .nil) .nil)) [3]) .nil)) (.cons (.ret (.bl false))
  .nil) .nil)
  .nil)
def b38 : CSs :=
  (.cons (.loop (.name 2) (.range2 (.int (1)) (.var 1)) b38l0 [2])
  (.cons (.ret (.bl true))
  .nil))
/-- _law_always -/
def f38 : FT := ⟨"_law_always", ["word", "size", "length", "pattern"], ["word", "size"], [], b38, false, true⟩
def b39l0 : CSs :=
  (.cons (.set (.name 8) (.tup (.cons (.call 30 [0, 1] (.cons (.var 1) (.cons (.var 3) .nil)) .nil) (.cons (.call 30 [0, 1] (.cons (.var 1) (.cons (.var 3) .nil)) .nil) (.cons (.call 30 [0, 1] (.cons (.var 1) (.cons (.var 3) .nil)) .nil) .nil)))))
  (.cons (.cond (.or (.cmp .ne (.call 16 [0, 1, 2] (.cons (.var 3) (.cons (.var 8) (.cons (.var 5) .nil))) .nil) (.call 11 [0] (.cons (.var 3) .nil) .nil)) (.cmp .ne (.call 36 [0, 1, 2] (.cons (.var 3) (.cons (.var 8) (.cons (.var 5) .nil))) .nil) (.call 11 [0] (.cons (.var 3) .nil) .nil))) (.cons (.ret (.bl false))
  .nil) .nil)
  .nil))
def b39l1 : CSs :=
  (.cons (.par 5 6 (.call 37 [0] (.cons (.var 1) .nil) .nil) (.bin .add (.int (2)) (.call 21 [0, 1] (.cons (.var 1) (.cons (.int (4)) .nil)) .nil)))
  (.cons (.set (.name 3) (.tup (.cons (.var 6) .nil)))
  (.cons (.set (.name 4) (.call 19 [0, 1] (.cons (.var 5) (.cons (.var 6) .nil)) .nil))
  (.cons (.cond (.or (.not (.bi .isTuple (.cons (.var 4) .nil))) (.cmp .lt (.bi .len (.cons (.var 4) .nil)) (.int (1)))) (.cons (.ret (.bl false))
  .nil) .nil)
  (.cons (.cond (.call 38 [0, 1] (.cons (.var 5) (.cons (.var 6) .nil)) .nil) (.cons (.cond (.cmp .ne (.var 4) (.tup (.cons (.str "always") .nil))) (.cons (.ret (.bl false))
  .nil) .nil)
  (.cons (.loop (.name 7) (.range1 (.int (2))) b39l0 [7, 8])
  .nil)) (.cons (.cond (.or (.cmp .ne (.bi .len (.cons (.var 4) .nil)) (.int (2))) (.or (.cmp .ne (.ix (.var 4) (.int (0))) (.str "breaks")) (.or (.not (.bi .isTuple (.cons (.ix (.var 4) (.int (1))) .nil))) (.cmp .ne (.bi .len (.cons (.ix (.var 4) (.int (1))) .nil)) (.int (3)))))) (.cons (.ret (.bl false))
  .nil) .nil)
  (.cons (.cond (.not (.bi .all (.cons (.comp false (.call 9 [0, 1] (.cons (.var 3) (.cons (.var 9) .nil)) .nil) (.name 9) (.it (.ix (.var 4) (.int (1)))) [9]) .nil))) (.cons (.ret (.bl false))
  .nil) .nil)
  (.cons (.cond (.or (.cmp .eq (.call 36 [0, 1, 2] (.cons (.var 3) (.cons (.ix (.var 4) (.int (1))) (.cons (.var 5) .nil))) .nil) (.call 11 [0] (.cons (.var 3) .nil) .nil)) (.cmp .ne (.call 19 [1, 0] .nil (.cons (.var 6) (.cons (.var 5) .nil))) (.var 4))) (.cons (.ret (.bl false))
  .nil) .nil)
  .nil))))
  .nil)))))
def b39 : CSs :=
  (.cons (.set (.name 1) (.call 20 [0] (.cons (.var 0) .nil) .nil))
  (.cons (.loop (.name 2) (.range1 (.int (6))) b39l1 [2, 3, 4, 5, 6, 7, 8])
  (.cons (.ret (.bl true))
  .nil)))
/-- law -/
def f39 : FT := ⟨"law", ["script", "state", "turn", "space", "told", "word", "size", "look", "xs", "x"], ["script"], [], b39, false, false⟩
def funs : List FT := [f0, f1, f2, f3, f4, f5, f6, f7, f8, f9, f10, f11, f12, f13, f14, f15, f16, f17, f18, f19, f20, f21, f22, f23, f24, f25, f26, f27, f28, f29, f30, f31, f32, f33, f34, f35, f36, f37, f38, f39]
def globV : Str → Option SV := fun x => if decide (x = "SUMMANDS") = true then some (.dct [((.int (2)), (.kt [(.kt [])])), ((.int (3)), (.kt [(.kt []), (.kt []), (.kt [(.kt [(.int (0)), (.int (1))])])])), ((.int (4)), (.kt [(.kt []), (.kt []), (.kt []), (.kt [(.kt [(.int (0)), (.int (1))])]), (.kt [(.kt [(.int (1)), (.int (2))])]), (.kt [(.kt [(.int (0)), (.int (4))]), (.kt [(.int (3)), (.int (2))])])])), ((.int (5)), (.kt [(.kt []), (.kt []), (.kt []), (.kt []), (.kt [(.kt [(.int (0)), (.int (1))])]), (.kt [(.kt [(.int (1)), (.int (2))])]), (.kt [(.kt [(.int (2)), (.int (3))])]), (.kt [(.kt [(.int (0)), (.int (5))]), (.kt [(.int (4)), (.int (2))])]), (.kt [(.kt [(.int (1)), (.int (6))]), (.kt [(.int (5)), (.int (3))])]), (.kt [(.kt [(.int (0)), (.int (8))]), (.kt [(.int (4)), (.int (6))]), (.kt [(.int (7)), (.int (3))])])]))]) else none
def shapes : List Sh := [
  ⟨0, 1, [], [0]⟩,
  ⟨1, 2, [], [0, 1]⟩,
  ⟨3, 3, [], [0, 1, 2]⟩,
  ⟨5, 1, [], [0]⟩,
  ⟨2, 2, [], [0, 1]⟩,
  ⟨7, 1, [], [0]⟩,
  ⟨6, 1, [], [0]⟩,
  ⟨8, 2, [], [0, 1]⟩,
  ⟨10, 1, [], [0]⟩,
  ⟨12, 3, [], [0, 1, 2]⟩,
  ⟨13, 2, [], [0, 1]⟩,
  ⟨14, 1, [], [0]⟩,
  ⟨15, 3, [], [0, 1, 2]⟩,
  ⟨4, 3, [], [0, 1, 2]⟩,
  ⟨17, 2, [], [0, 1]⟩,
  ⟨18, 2, [], [0, 1]⟩,
  ⟨22, 1, [], [0]⟩,
  ⟨24, 3, [], [0, 1, 2]⟩,
  ⟨26, 2, [], [0, 1]⟩,
  ⟨25, 2, [], [0, 1]⟩,
  ⟨23, 1, [], [0]⟩,
  ⟨27, 3, [], [0, 1, 2]⟩,
  ⟨21, 2, [], [0, 1]⟩,
  ⟨29, 2, [], [0, 1]⟩,
  ⟨32, 1, [], [0]⟩,
  ⟨28, 2, [], [0, 1]⟩,
  ⟨31, 2, [], [0, 1]⟩,
  ⟨33, 2, [], [0, 1]⟩,
  ⟨34, 2, [], [0, 1]⟩,
  ⟨35, 1, [], [0]⟩,
  ⟨20, 1, [], [0]⟩,
  ⟨37, 1, [], [0]⟩,
  ⟨19, 2, [], [0, 1]⟩,
  ⟨38, 2, [], [0, 1]⟩,
  ⟨30, 2, [], [0, 1]⟩,
  ⟨36, 3, [], [0, 1, 2]⟩,
  ⟨11, 1, [], [0]⟩,
  ⟨16, 3, [], [0, 1, 2]⟩,
  ⟨9, 2, [], [0, 1]⟩,
  ⟨19, 0, ["size", "word"], [1, 0]⟩]
def tb : Tb := ⟨globV, funs⟩
def globN : List Str := ["SUMMANDS"]
def freeN : List Str := ["abs", "all", "any", "bool", "enumerate", "int", "isinstance", "len", "min", "range", "sorted", "sum", "tuple", "zip"]
def pt : Pt := ⟨funs, globN, freeN, shapes⟩
end K37
end

section
set_option Elab.async false
set_option linter.all false
set_option maxRecDepth 100000
set_option maxHeartbeats 0
namespace K37
open PySem PySem.Spec PyProof.Rows L2 Ws
abbrev PW : Program := PySem.Challenge.pw_wholestairs_k37_whole_identities
def top (i : Nat) : Stmt := PW.main.body.getD i (.Pass ⟨0, 0, 0, 0⟩)

def d0 : He.DefD := ⟨("is_integer", none), "is_integer", "is_integer", defArgs (top 7), defBody (top 7), defScope (top 7), [], []⟩
def d1 : He.DefD := ⟨("is_natural", none), "is_natural", "is_natural", defArgs (top 8), defBody (top 8), defScope (top 8), [.int 0], []⟩
def d2 : He.DefD := ⟨("are_integers", none), "are_integers", "are_integers", defArgs (top 9), defBody (top 9), defScope (top 9), [], []⟩
def d3 : He.DefD := ⟨("are_parts", none), "are_parts", "are_parts", defArgs (top 10), defBody (top 10), defScope (top 10), [], []⟩
def d4 : He.DefD := ⟨("check_between", none), "check_between", "check_between", defArgs (top 11), defBody (top 11), defScope (top 11), [], []⟩
def d5 : He.DefD := ⟨("is_space", none), "is_space", "is_space", defArgs (top 14), defBody (top 14), defScope (top 14), [], []⟩
def d6 : He.DefD := ⟨("check_space", none), "check_space", "check_space", defArgs (top 15), defBody (top 15), defScope (top 15), [], []⟩
def d7 : He.DefD := ⟨("width_in", none), "width_in", "width_in", defArgs (top 16), defBody (top 16), defScope (top 16), [], []⟩
def d8 : He.DefD := ⟨("is_element_in", none), "is_element_in", "is_element_in", defArgs (top 17), defBody (top 17), defScope (top 17), [], []⟩
def d9 : He.DefD := ⟨("is_element", none), "is_element", "is_element", defArgs (top 18), defBody (top 18), defScope (top 18), [], []⟩
def d10 : He.DefD := ⟨("identity_in", none), "identity_in", "identity_in", defArgs (top 19), defBody (top 19), defScope (top 19), [], []⟩
def d11 : He.DefD := ⟨("identity_of", none), "identity_of", "identity_of", defArgs (top 20), defBody (top 20), defScope (top 20), [], []⟩
def d12 : He.DefD := ⟨("product_in", none), "product_in", "product_in", defArgs (top 21), defBody (top 21), defScope (top 21), [], []⟩
def d13 : He.DefD := ⟨("inverse_in", none), "inverse_in", "inverse_in", defArgs (top 22), defBody (top 22), defScope (top 22), [], []⟩
def d14 : He.DefD := ⟨("check_word", none), "check_word", "check_word", defArgs (top 24), defBody (top 24), defScope (top 24), [], []⟩
def d15 : He.DefD := ⟨("word_in", none), "word_in", "word_in", defArgs (top 25), defBody (top 25), defScope (top 25), [], []⟩
def d16 : He.DefD := ⟨("word_at", none), "word_at", "word_at", defArgs (top 26), defBody (top 26), defScope (top 26), [], []⟩
def d17 : He.DefD := ⟨("expansion_in", none), "expansion_in", "expansion_in", defArgs (top 27), defBody (top 27), defScope (top 27), [], []⟩
def d18 : He.DefD := ⟨("breaking_in", none), "breaking_in", "breaking_in", defArgs (top 28), defBody (top 28), defScope (top 28), [], []⟩
def d19 : He.DefD := ⟨("identity_for", none), "identity_for", "identity_for", defArgs (top 29), defBody (top 29), defScope (top 29), [], []⟩
def d20 : He.DefD := ⟨("_law_begin", none), "_law_begin", "_law_begin", defArgs (top 31), defBody (top 31), defScope (top 31), [], []⟩
def d21 : He.DefD := ⟨("_law_draw", none), "_law_draw", "_law_draw", defArgs (top 32), defBody (top 32), defScope (top 32), [], []⟩
def d22 : He.DefD := ⟨("_law_places", none), "_law_places", "_law_places", defArgs (top 33), defBody (top 33), defScope (top 33), [], []⟩
def d23 : He.DefD := ⟨("_law_width", none), "_law_width", "_law_width", defArgs (top 34), defBody (top 34), defScope (top 34), [], []⟩
def d24 : He.DefD := ⟨("_law_matrices", none), "_law_matrices", "_law_matrices", defArgs (top 35), defBody (top 35), defScope (top 35), [], []⟩
def d25 : He.DefD := ⟨("_law_times", none), "_law_times", "_law_times", defArgs (top 36), defBody (top 36), defScope (top 36), [], []⟩
def d26 : He.DefD := ⟨("_law_entries", none), "_law_entries", "_law_entries", defArgs (top 37), defBody (top 37), defScope (top 37), [], []⟩
def d27 : He.DefD := ⟨("_law_product", none), "_law_product", "_law_product", defArgs (top 38), defBody (top 38), defScope (top 38), [], []⟩
def d28 : He.DefD := ⟨("_law_inverse", none), "_law_inverse", "_law_inverse", defArgs (top 39), defBody (top 39), defScope (top 39), [], []⟩
def d29 : He.DefD := ⟨("_law_entry", none), "_law_entry", "_law_entry", defArgs (top 40), defBody (top 40), defScope (top 40), [], []⟩
def d30 : He.DefD := ⟨("_law_element", none), "_law_element", "_law_element", defArgs (top 41), defBody (top 41), defScope (top 41), [], []⟩
def d31 : He.DefD := ⟨("_law_word", none), "_law_word", "_law_word", defArgs (top 42), defBody (top 42), defScope (top 42), [], []⟩
def d32 : He.DefD := ⟨("_law_back", none), "_law_back", "_law_back", defArgs (top 43), defBody (top 43), defScope (top 43), [], []⟩
def d33 : He.DefD := ⟨("_law_commuted", none), "_law_commuted", "_law_commuted", defArgs (top 44), defBody (top 44), defScope (top 44), [], []⟩
def d34 : He.DefD := ⟨("_law_number", none), "_law_number", "_law_number", defArgs (top 45), defBody (top 45), defScope (top 45), [], []⟩
def d35 : He.DefD := ⟨("_law_patterns", none), "_law_patterns", "_law_patterns", defArgs (top 46), defBody (top 46), defScope (top 46), [], []⟩
def d36 : He.DefD := ⟨("_law_value", none), "_law_value", "_law_value", defArgs (top 47), defBody (top 47), defScope (top 47), [], []⟩
def d37 : He.DefD := ⟨("_law_drawn", none), "_law_drawn", "_law_drawn", defArgs (top 48), defBody (top 48), defScope (top 48), [], []⟩
def d38 : He.DefD := ⟨("_law_always", none), "_law_always", "_law_always", defArgs (top 49), defBody (top 49), defScope (top 49), [], []⟩
def d39 : He.DefD := ⟨("law", none), "law", "law", defArgs (top 50), defBody (top 50), defScope (top 50), [], []⟩
def fn : List He.DefD := [d0, d1, d2, d3, d4, d5, d6, d7, d8, d9, d10, d11, d12, d13, d14, d15, d16, d17, d18, d19, d20, d21, d22, d23, d24, d25, d26, d27, d28, d29, d30, d31, d32, d33, d34, d35, d36, d37, d38, d39]
def fa : List He.Fa := [
  .glo "is_integer", .glo "is_natural", .glo "are_integers", .glo "are_parts", .glo "check_between", .glo "is_space", .glo "check_space", .glo "width_in", .glo "is_element_in", .glo "is_element", .glo "identity_in", .glo "identity_of", .glo "product_in", .glo "inverse_in", .glo "check_word", .glo "word_in", .glo "word_at", .glo "expansion_in", .glo "breaking_in", .glo "identity_for", .glo "_law_begin", .glo "_law_draw", .glo "_law_places", .glo "_law_width", .glo "_law_matrices", .glo "_law_times", .glo "_law_entries", .glo "_law_product", .glo "_law_inverse", .glo "_law_entry", .glo "_law_element", .glo "_law_word", .glo "_law_back", .glo "_law_commuted", .glo "_law_number", .glo "_law_patterns", .glo "_law_value", .glo "_law_drawn", .glo "_law_always", .glo "law", .free "abs", .free "all", .free "any", .free "bool", .free "enumerate", .free "int", .free "isinstance", .free "len", .free "min", .free "range", .free "sorted", .free "sum", .free "tuple", .free "zip"]
def loose0 : List Str := ["LayerError", "InvalidSpace", "InvalidElements", "InvalidNumber", "InvalidWord", "is_integer", "is_natural", "are_integers", "are_parts", "check_between", "SUMMANDS", "is_space", "check_space", "width_in", "is_element_in", "is_element", "identity_in", "identity_of", "product_in", "inverse_in", "check_word", "word_in", "word_at", "expansion_in", "breaking_in", "identity_for", "_law_begin", "_law_draw", "_law_places", "_law_width"]
def loose1 : List Str := ["_law_matrices", "_law_times", "_law_entries", "_law_product", "_law_inverse", "_law_entry", "_law_element", "_law_word", "_law_back", "_law_commuted", "_law_number", "_law_patterns", "_law_value", "_law_drawn", "_law_always"]
def loose : List Str := loose0 ++ loose1
abbrev R : PySem.W.OpenRow := PySem.W.OpenLaw.row PySem.Challenge.rw_wholestairs_k37_whole_identities
def ex (K : PySem.W.Frag) : Bool := globN.all fun x => match globV x with
  | some v => gsB K x v
  | none => false
abbrev hk : PySem.W.Hook := He.hookX 6 fa fn [] [] ex
def ob (s : PySem.W.SharedT) : He.AlX := He.obsX 6 fa fn [] [] ex (HandSHeadRun.getT s)
theorem ob_eq (s : PySem.W.SharedT) : ob s = hk.obs s.abs := He.obsX_eq (HandSHeadRun.getT_eq s)
theorem run (w : World) : HandSHeadRun.RunEq R (PySem.W.view R.prog [50]) hk ob 4000 loose w := by
  refine PySem.W.byRow2 "special-get-raises" (P := fun w => HandSHeadRun.RunEq R (PySem.W.view R.prog [50]) hk ob 4000 loose w) ?_ ?_ w
  · intro w os
    kernel_rfl
  · intro w os
    kernel_rfl
end K37
end

section
set_option Elab.async false
set_option linter.all false
set_option maxRecDepth 100000
set_option maxHeartbeats 0
namespace K37
open PySem PySem.Spec PyProof.Rows L2 Ws
section
variable {K : PySem.W.Frag} {mg : Str → Option Value} {h : Heap}

theorem ok0 (X : K.In h) (G : h.Ns mainGlobals mg) (c : He.SaysD fa fn K) : DefOk K mg tb pt 0 f0 :=
  defOk_of (d := d0) X G rfl rfl (c.fact 0 (f := .glo "is_integer") rfl) (c.def_ 0 (d := d0) rfl) ⟨rfl, rfl, rfl, by decide +kernel, rfl, by decide +kernel, by decide +kernel⟩ (by decide +kernel) (fun _ _ => .nil) [⟨0, 1, [], [0]⟩] (by decide +kernel) (fun a fd D => shapes0 D _ (by
    intro sh hm kV doc pm an cdv ct us ws l1 l2
    simp only [List.mem_cons, List.not_mem_nil, or_false] at hm
    rcases hm with rfl
    · match us, ws, l1, l2 with
      | [_], [], _, _ => rfl))
theorem ok1 (X : K.In h) (G : h.Ns mainGlobals mg) (c : He.SaysD fa fn K) : DefOk K mg tb pt 1 f1 :=
  defOk_of (d := d1) X G rfl rfl (c.fact 1 (f := .glo "is_natural") rfl) (c.def_ 1 (d := d1) rfl) ⟨rfl, rfl, rfl, by decide +kernel, rfl, by decide +kernel, by decide +kernel⟩ (by decide +kernel) (fun _ _ => .cons (.int _) (.nil)) [⟨1, 2, [], [0, 1]⟩] (by decide +kernel) (fun a fd D => shapesD D (by intro z; cases z) _ (by
    intro sh hm T kV doc pm an cdv ct us ws its l1 l2 l3
    simp only [List.mem_cons, List.not_mem_nil, or_false] at hm
    rcases hm with rfl
    · match us, ws, its, l1, l2, l3 with
      | [_, _], [], [_], _, _, _ => exact ⟨_, rfl, rfl⟩))
theorem ok2 (X : K.In h) (G : h.Ns mainGlobals mg) (c : He.SaysD fa fn K) : DefOk K mg tb pt 2 f2 :=
  defOk_of (d := d2) X G rfl rfl (c.fact 2 (f := .glo "are_integers") rfl) (c.def_ 2 (d := d2) rfl) ⟨rfl, rfl, rfl, by decide +kernel, rfl, by decide +kernel, by decide +kernel⟩ (by decide +kernel) (fun _ _ => .nil) [⟨2, 2, [], [0, 1]⟩] (by decide +kernel) (fun a fd D => shapes0 D _ (by
    intro sh hm kV doc pm an cdv ct us ws l1 l2
    simp only [List.mem_cons, List.not_mem_nil, or_false] at hm
    rcases hm with rfl
    · match us, ws, l1, l2 with
      | [_, _], [], _, _ => rfl))
theorem ok3 (X : K.In h) (G : h.Ns mainGlobals mg) (c : He.SaysD fa fn K) : DefOk K mg tb pt 3 f3 :=
  defOk_of (d := d3) X G rfl rfl (c.fact 3 (f := .glo "are_parts") rfl) (c.def_ 3 (d := d3) rfl) ⟨rfl, rfl, rfl, by decide +kernel, rfl, by decide +kernel, by decide +kernel⟩ (by decide +kernel) (fun _ _ => .nil) [⟨3, 3, [], [0, 1, 2]⟩] (by decide +kernel) (fun a fd D => shapes0 D _ (by
    intro sh hm kV doc pm an cdv ct us ws l1 l2
    simp only [List.mem_cons, List.not_mem_nil, or_false] at hm
    rcases hm with rfl
    · match us, ws, l1, l2 with
      | [_, _, _], [], _, _ => rfl))
theorem ok4 (X : K.In h) (G : h.Ns mainGlobals mg) (c : He.SaysD fa fn K) : DefOk K mg tb pt 4 f4 :=
  defOk_of (d := d4) X G rfl rfl (c.fact 4 (f := .glo "check_between") rfl) (c.def_ 4 (d := d4) rfl) ⟨rfl, rfl, rfl, by decide +kernel, rfl, by decide +kernel, by decide +kernel⟩ (by decide +kernel) (fun _ _ => .nil) [⟨4, 3, [], [0, 1, 2]⟩] (by decide +kernel) (fun a fd D => shapes0 D _ (by
    intro sh hm kV doc pm an cdv ct us ws l1 l2
    simp only [List.mem_cons, List.not_mem_nil, or_false] at hm
    rcases hm with rfl
    · match us, ws, l1, l2 with
      | [_, _, _], [], _, _ => rfl))
theorem ok5 (X : K.In h) (G : h.Ns mainGlobals mg) (c : He.SaysD fa fn K) : DefOk K mg tb pt 5 f5 :=
  defOk_of (d := d5) X G rfl rfl (c.fact 5 (f := .glo "is_space") rfl) (c.def_ 5 (d := d5) rfl) ⟨rfl, rfl, rfl, by decide +kernel, rfl, by decide +kernel, by decide +kernel⟩ (by decide +kernel) (fun _ _ => .nil) [⟨5, 1, [], [0]⟩] (by decide +kernel) (fun a fd D => shapes0 D _ (by
    intro sh hm kV doc pm an cdv ct us ws l1 l2
    simp only [List.mem_cons, List.not_mem_nil, or_false] at hm
    rcases hm with rfl
    · match us, ws, l1, l2 with
      | [_], [], _, _ => rfl))
theorem ok6 (X : K.In h) (G : h.Ns mainGlobals mg) (c : He.SaysD fa fn K) : DefOk K mg tb pt 6 f6 :=
  defOk_of (d := d6) X G rfl rfl (c.fact 6 (f := .glo "check_space") rfl) (c.def_ 6 (d := d6) rfl) ⟨rfl, rfl, rfl, by decide +kernel, rfl, by decide +kernel, by decide +kernel⟩ (by decide +kernel) (fun _ _ => .nil) [⟨6, 1, [], [0]⟩] (by decide +kernel) (fun a fd D => shapes0 D _ (by
    intro sh hm kV doc pm an cdv ct us ws l1 l2
    simp only [List.mem_cons, List.not_mem_nil, or_false] at hm
    rcases hm with rfl
    · match us, ws, l1, l2 with
      | [_], [], _, _ => rfl))
theorem ok7 (X : K.In h) (G : h.Ns mainGlobals mg) (c : He.SaysD fa fn K) : DefOk K mg tb pt 7 f7 :=
  defOk_of (d := d7) X G rfl rfl (c.fact 7 (f := .glo "width_in") rfl) (c.def_ 7 (d := d7) rfl) ⟨rfl, rfl, rfl, by decide +kernel, rfl, by decide +kernel, by decide +kernel⟩ (by decide +kernel) (fun _ _ => .nil) [⟨7, 1, [], [0]⟩] (by decide +kernel) (fun a fd D => shapes0 D _ (by
    intro sh hm kV doc pm an cdv ct us ws l1 l2
    simp only [List.mem_cons, List.not_mem_nil, or_false] at hm
    rcases hm with rfl
    · match us, ws, l1, l2 with
      | [_], [], _, _ => rfl))
theorem ok8 (X : K.In h) (G : h.Ns mainGlobals mg) (c : He.SaysD fa fn K) : DefOk K mg tb pt 8 f8 :=
  defOk_of (d := d8) X G rfl rfl (c.fact 8 (f := .glo "is_element_in") rfl) (c.def_ 8 (d := d8) rfl) ⟨rfl, rfl, rfl, by decide +kernel, rfl, by decide +kernel, by decide +kernel⟩ (by decide +kernel) (fun _ _ => .nil) [⟨8, 2, [], [0, 1]⟩] (by decide +kernel) (fun a fd D => shapes0 D _ (by
    intro sh hm kV doc pm an cdv ct us ws l1 l2
    simp only [List.mem_cons, List.not_mem_nil, or_false] at hm
    rcases hm with rfl
    · match us, ws, l1, l2 with
      | [_, _], [], _, _ => rfl))
theorem ok9 (X : K.In h) (G : h.Ns mainGlobals mg) (c : He.SaysD fa fn K) : DefOk K mg tb pt 9 f9 :=
  defOk_of (d := d9) X G rfl rfl (c.fact 9 (f := .glo "is_element") rfl) (c.def_ 9 (d := d9) rfl) ⟨rfl, rfl, rfl, by decide +kernel, rfl, by decide +kernel, by decide +kernel⟩ (by decide +kernel) (fun _ _ => .nil) [⟨9, 2, [], [0, 1]⟩] (by decide +kernel) (fun a fd D => shapes0 D _ (by
    intro sh hm kV doc pm an cdv ct us ws l1 l2
    simp only [List.mem_cons, List.not_mem_nil, or_false] at hm
    rcases hm with rfl
    · match us, ws, l1, l2 with
      | [_, _], [], _, _ => rfl))
theorem ok10 (X : K.In h) (G : h.Ns mainGlobals mg) (c : He.SaysD fa fn K) : DefOk K mg tb pt 10 f10 :=
  defOk_of (d := d10) X G rfl rfl (c.fact 10 (f := .glo "identity_in") rfl) (c.def_ 10 (d := d10) rfl) ⟨rfl, rfl, rfl, by decide +kernel, rfl, by decide +kernel, by decide +kernel⟩ (by decide +kernel) (fun _ _ => .nil) [⟨10, 1, [], [0]⟩] (by decide +kernel) (fun a fd D => shapes0 D _ (by
    intro sh hm kV doc pm an cdv ct us ws l1 l2
    simp only [List.mem_cons, List.not_mem_nil, or_false] at hm
    rcases hm with rfl
    · match us, ws, l1, l2 with
      | [_], [], _, _ => rfl))
theorem ok11 (X : K.In h) (G : h.Ns mainGlobals mg) (c : He.SaysD fa fn K) : DefOk K mg tb pt 11 f11 :=
  defOk_of (d := d11) X G rfl rfl (c.fact 11 (f := .glo "identity_of") rfl) (c.def_ 11 (d := d11) rfl) ⟨rfl, rfl, rfl, by decide +kernel, rfl, by decide +kernel, by decide +kernel⟩ (by decide +kernel) (fun _ _ => .nil) [⟨11, 1, [], [0]⟩] (by decide +kernel) (fun a fd D => shapes0 D _ (by
    intro sh hm kV doc pm an cdv ct us ws l1 l2
    simp only [List.mem_cons, List.not_mem_nil, or_false] at hm
    rcases hm with rfl
    · match us, ws, l1, l2 with
      | [_], [], _, _ => rfl))
theorem ok12 (X : K.In h) (G : h.Ns mainGlobals mg) (c : He.SaysD fa fn K) : DefOk K mg tb pt 12 f12 :=
  defOk_of (d := d12) X G rfl rfl (c.fact 12 (f := .glo "product_in") rfl) (c.def_ 12 (d := d12) rfl) ⟨rfl, rfl, rfl, by decide +kernel, rfl, by decide +kernel, by decide +kernel⟩ (by decide +kernel) (fun _ _ => .nil) [⟨12, 3, [], [0, 1, 2]⟩] (by decide +kernel) (fun a fd D => shapes0 D _ (by
    intro sh hm kV doc pm an cdv ct us ws l1 l2
    simp only [List.mem_cons, List.not_mem_nil, or_false] at hm
    rcases hm with rfl
    · match us, ws, l1, l2 with
      | [_, _, _], [], _, _ => rfl))
theorem ok13 (X : K.In h) (G : h.Ns mainGlobals mg) (c : He.SaysD fa fn K) : DefOk K mg tb pt 13 f13 :=
  defOk_of (d := d13) X G rfl rfl (c.fact 13 (f := .glo "inverse_in") rfl) (c.def_ 13 (d := d13) rfl) ⟨rfl, rfl, rfl, by decide +kernel, rfl, by decide +kernel, by decide +kernel⟩ (by decide +kernel) (fun _ _ => .nil) [⟨13, 2, [], [0, 1]⟩] (by decide +kernel) (fun a fd D => shapes0 D _ (by
    intro sh hm kV doc pm an cdv ct us ws l1 l2
    simp only [List.mem_cons, List.not_mem_nil, or_false] at hm
    rcases hm with rfl
    · match us, ws, l1, l2 with
      | [_, _], [], _, _ => rfl))
theorem ok14 (X : K.In h) (G : h.Ns mainGlobals mg) (c : He.SaysD fa fn K) : DefOk K mg tb pt 14 f14 :=
  defOk_of (d := d14) X G rfl rfl (c.fact 14 (f := .glo "check_word") rfl) (c.def_ 14 (d := d14) rfl) ⟨rfl, rfl, rfl, by decide +kernel, rfl, by decide +kernel, by decide +kernel⟩ (by decide +kernel) (fun _ _ => .nil) [⟨14, 1, [], [0]⟩] (by decide +kernel) (fun a fd D => shapes0 D _ (by
    intro sh hm kV doc pm an cdv ct us ws l1 l2
    simp only [List.mem_cons, List.not_mem_nil, or_false] at hm
    rcases hm with rfl
    · match us, ws, l1, l2 with
      | [_], [], _, _ => rfl))
theorem ok15 (X : K.In h) (G : h.Ns mainGlobals mg) (c : He.SaysD fa fn K) : DefOk K mg tb pt 15 f15 :=
  defOk_of (d := d15) X G rfl rfl (c.fact 15 (f := .glo "word_in") rfl) (c.def_ 15 (d := d15) rfl) ⟨rfl, rfl, rfl, by decide +kernel, rfl, by decide +kernel, by decide +kernel⟩ (by decide +kernel) (fun _ _ => .nil) [⟨15, 3, [], [0, 1, 2]⟩] (by decide +kernel) (fun a fd D => shapes0 D _ (by
    intro sh hm kV doc pm an cdv ct us ws l1 l2
    simp only [List.mem_cons, List.not_mem_nil, or_false] at hm
    rcases hm with rfl
    · match us, ws, l1, l2 with
      | [_, _, _], [], _, _ => rfl))
theorem ok16 (X : K.In h) (G : h.Ns mainGlobals mg) (c : He.SaysD fa fn K) : DefOk K mg tb pt 16 f16 :=
  defOk_of (d := d16) X G rfl rfl (c.fact 16 (f := .glo "word_at") rfl) (c.def_ 16 (d := d16) rfl) ⟨rfl, rfl, rfl, by decide +kernel, rfl, by decide +kernel, by decide +kernel⟩ (by decide +kernel) (fun _ _ => .nil) [⟨16, 3, [], [0, 1, 2]⟩] (by decide +kernel) (fun a fd D => shapes0 D _ (by
    intro sh hm kV doc pm an cdv ct us ws l1 l2
    simp only [List.mem_cons, List.not_mem_nil, or_false] at hm
    rcases hm with rfl
    · match us, ws, l1, l2 with
      | [_, _, _], [], _, _ => rfl))
theorem ok17 (X : K.In h) (G : h.Ns mainGlobals mg) (c : He.SaysD fa fn K) : DefOk K mg tb pt 17 f17 :=
  defOk_of (d := d17) X G rfl rfl (c.fact 17 (f := .glo "expansion_in") rfl) (c.def_ 17 (d := d17) rfl) ⟨rfl, rfl, rfl, by decide +kernel, rfl, by decide +kernel, by decide +kernel⟩ (by decide +kernel) (fun _ _ => .nil) [⟨17, 2, [], [0, 1]⟩] (by decide +kernel) (fun a fd D => shapes0 D _ (by
    intro sh hm kV doc pm an cdv ct us ws l1 l2
    simp only [List.mem_cons, List.not_mem_nil, or_false] at hm
    rcases hm with rfl
    · match us, ws, l1, l2 with
      | [_, _], [], _, _ => rfl))
theorem ok18 (X : K.In h) (G : h.Ns mainGlobals mg) (c : He.SaysD fa fn K) : DefOk K mg tb pt 18 f18 :=
  defOk_of (d := d18) X G rfl rfl (c.fact 18 (f := .glo "breaking_in") rfl) (c.def_ 18 (d := d18) rfl) ⟨rfl, rfl, rfl, by decide +kernel, rfl, by decide +kernel, by decide +kernel⟩ (by decide +kernel) (fun _ _ => .nil) [⟨18, 2, [], [0, 1]⟩] (by decide +kernel) (fun a fd D => shapes0 D _ (by
    intro sh hm kV doc pm an cdv ct us ws l1 l2
    simp only [List.mem_cons, List.not_mem_nil, or_false] at hm
    rcases hm with rfl
    · match us, ws, l1, l2 with
      | [_, _], [], _, _ => rfl))
theorem ok19 (X : K.In h) (G : h.Ns mainGlobals mg) (c : He.SaysD fa fn K) : DefOk K mg tb pt 19 f19 :=
  defOk_of (d := d19) X G rfl rfl (c.fact 19 (f := .glo "identity_for") rfl) (c.def_ 19 (d := d19) rfl) ⟨rfl, rfl, rfl, by decide +kernel, rfl, by decide +kernel, by decide +kernel⟩ (by decide +kernel) (fun _ _ => .nil) [⟨19, 2, [], [0, 1]⟩, ⟨19, 0, ["size", "word"], [1, 0]⟩] (by decide +kernel) (fun a fd D => shapes0 D _ (by
    intro sh hm kV doc pm an cdv ct us ws l1 l2
    simp only [List.mem_cons, List.not_mem_nil, or_false] at hm
    rcases hm with rfl | rfl
    · match us, ws, l1, l2 with
      | [_, _], [], _, _ => rfl
    · match us, ws, l1, l2 with
      | [], [_, _], _, _ => rfl))
theorem ok20 (X : K.In h) (G : h.Ns mainGlobals mg) (c : He.SaysD fa fn K) : DefOk K mg tb pt 20 f20 :=
  defOk_of (d := d20) X G rfl rfl (c.fact 20 (f := .glo "_law_begin") rfl) (c.def_ 20 (d := d20) rfl) ⟨rfl, rfl, rfl, by decide +kernel, rfl, by decide +kernel, by decide +kernel⟩ (by decide +kernel) (fun _ _ => .nil) [⟨20, 1, [], [0]⟩] (by decide +kernel) (fun a fd D => shapes0 D _ (by
    intro sh hm kV doc pm an cdv ct us ws l1 l2
    simp only [List.mem_cons, List.not_mem_nil, or_false] at hm
    rcases hm with rfl
    · match us, ws, l1, l2 with
      | [_], [], _, _ => rfl))
theorem ok21 (X : K.In h) (G : h.Ns mainGlobals mg) (c : He.SaysD fa fn K) : DefOk K mg tb pt 21 f21 :=
  defOk_of (d := d21) X G rfl rfl (c.fact 21 (f := .glo "_law_draw") rfl) (c.def_ 21 (d := d21) rfl) ⟨rfl, rfl, rfl, by decide +kernel, rfl, by decide +kernel, by decide +kernel⟩ (by decide +kernel) (fun _ _ => .nil) [⟨21, 2, [], [0, 1]⟩] (by decide +kernel) (fun a fd D => shapes0 D _ (by
    intro sh hm kV doc pm an cdv ct us ws l1 l2
    simp only [List.mem_cons, List.not_mem_nil, or_false] at hm
    rcases hm with rfl
    · match us, ws, l1, l2 with
      | [_, _], [], _, _ => rfl))
theorem ok22 (X : K.In h) (G : h.Ns mainGlobals mg) (c : He.SaysD fa fn K) : DefOk K mg tb pt 22 f22 :=
  defOk_of (d := d22) X G rfl rfl (c.fact 22 (f := .glo "_law_places") rfl) (c.def_ 22 (d := d22) rfl) ⟨rfl, rfl, rfl, by decide +kernel, rfl, by decide +kernel, by decide +kernel⟩ (by decide +kernel) (fun _ _ => .nil) [⟨22, 1, [], [0]⟩] (by decide +kernel) (fun a fd D => shapes0 D _ (by
    intro sh hm kV doc pm an cdv ct us ws l1 l2
    simp only [List.mem_cons, List.not_mem_nil, or_false] at hm
    rcases hm with rfl
    · match us, ws, l1, l2 with
      | [_], [], _, _ => rfl))
theorem ok23 (X : K.In h) (G : h.Ns mainGlobals mg) (c : He.SaysD fa fn K) : DefOk K mg tb pt 23 f23 :=
  defOk_of (d := d23) X G rfl rfl (c.fact 23 (f := .glo "_law_width") rfl) (c.def_ 23 (d := d23) rfl) ⟨rfl, rfl, rfl, by decide +kernel, rfl, by decide +kernel, by decide +kernel⟩ (by decide +kernel) (fun _ _ => .nil) [⟨23, 1, [], [0]⟩] (by decide +kernel) (fun a fd D => shapes0 D _ (by
    intro sh hm kV doc pm an cdv ct us ws l1 l2
    simp only [List.mem_cons, List.not_mem_nil, or_false] at hm
    rcases hm with rfl
    · match us, ws, l1, l2 with
      | [_], [], _, _ => rfl))
theorem ok24 (X : K.In h) (G : h.Ns mainGlobals mg) (c : He.SaysD fa fn K) : DefOk K mg tb pt 24 f24 :=
  defOk_of (d := d24) X G rfl rfl (c.fact 24 (f := .glo "_law_matrices") rfl) (c.def_ 24 (d := d24) rfl) ⟨rfl, rfl, rfl, by decide +kernel, rfl, by decide +kernel, by decide +kernel⟩ (by decide +kernel) (fun _ _ => .nil) [⟨24, 3, [], [0, 1, 2]⟩] (by decide +kernel) (fun a fd D => shapes0 D _ (by
    intro sh hm kV doc pm an cdv ct us ws l1 l2
    simp only [List.mem_cons, List.not_mem_nil, or_false] at hm
    rcases hm with rfl
    · match us, ws, l1, l2 with
      | [_, _, _], [], _, _ => rfl))
theorem ok25 (X : K.In h) (G : h.Ns mainGlobals mg) (c : He.SaysD fa fn K) : DefOk K mg tb pt 25 f25 :=
  defOk_of (d := d25) X G rfl rfl (c.fact 25 (f := .glo "_law_times") rfl) (c.def_ 25 (d := d25) rfl) ⟨rfl, rfl, rfl, by decide +kernel, rfl, by decide +kernel, by decide +kernel⟩ (by decide +kernel) (fun _ _ => .nil) [⟨25, 2, [], [0, 1]⟩] (by decide +kernel) (fun a fd D => shapes0 D _ (by
    intro sh hm kV doc pm an cdv ct us ws l1 l2
    simp only [List.mem_cons, List.not_mem_nil, or_false] at hm
    rcases hm with rfl
    · match us, ws, l1, l2 with
      | [_, _], [], _, _ => rfl))
theorem ok26 (X : K.In h) (G : h.Ns mainGlobals mg) (c : He.SaysD fa fn K) : DefOk K mg tb pt 26 f26 :=
  defOk_of (d := d26) X G rfl rfl (c.fact 26 (f := .glo "_law_entries") rfl) (c.def_ 26 (d := d26) rfl) ⟨rfl, rfl, rfl, by decide +kernel, rfl, by decide +kernel, by decide +kernel⟩ (by decide +kernel) (fun _ _ => .nil) [⟨26, 2, [], [0, 1]⟩] (by decide +kernel) (fun a fd D => shapes0 D _ (by
    intro sh hm kV doc pm an cdv ct us ws l1 l2
    simp only [List.mem_cons, List.not_mem_nil, or_false] at hm
    rcases hm with rfl
    · match us, ws, l1, l2 with
      | [_, _], [], _, _ => rfl))
theorem ok27 (X : K.In h) (G : h.Ns mainGlobals mg) (c : He.SaysD fa fn K) : DefOk K mg tb pt 27 f27 :=
  defOk_of (d := d27) X G rfl rfl (c.fact 27 (f := .glo "_law_product") rfl) (c.def_ 27 (d := d27) rfl) ⟨rfl, rfl, rfl, by decide +kernel, rfl, by decide +kernel, by decide +kernel⟩ (by decide +kernel) (fun _ _ => .nil) [⟨27, 3, [], [0, 1, 2]⟩] (by decide +kernel) (fun a fd D => shapes0 D _ (by
    intro sh hm kV doc pm an cdv ct us ws l1 l2
    simp only [List.mem_cons, List.not_mem_nil, or_false] at hm
    rcases hm with rfl
    · match us, ws, l1, l2 with
      | [_, _, _], [], _, _ => rfl))
theorem ok28 (X : K.In h) (G : h.Ns mainGlobals mg) (c : He.SaysD fa fn K) : DefOk K mg tb pt 28 f28 :=
  defOk_of (d := d28) X G rfl rfl (c.fact 28 (f := .glo "_law_inverse") rfl) (c.def_ 28 (d := d28) rfl) ⟨rfl, rfl, rfl, by decide +kernel, rfl, by decide +kernel, by decide +kernel⟩ (by decide +kernel) (fun _ _ => .nil) [⟨28, 2, [], [0, 1]⟩] (by decide +kernel) (fun a fd D => shapes0 D _ (by
    intro sh hm kV doc pm an cdv ct us ws l1 l2
    simp only [List.mem_cons, List.not_mem_nil, or_false] at hm
    rcases hm with rfl
    · match us, ws, l1, l2 with
      | [_, _], [], _, _ => rfl))
theorem ok29 (X : K.In h) (G : h.Ns mainGlobals mg) (c : He.SaysD fa fn K) : DefOk K mg tb pt 29 f29 :=
  defOk_of (d := d29) X G rfl rfl (c.fact 29 (f := .glo "_law_entry") rfl) (c.def_ 29 (d := d29) rfl) ⟨rfl, rfl, rfl, by decide +kernel, rfl, by decide +kernel, by decide +kernel⟩ (by decide +kernel) (fun _ _ => .nil) [⟨29, 2, [], [0, 1]⟩] (by decide +kernel) (fun a fd D => shapes0 D _ (by
    intro sh hm kV doc pm an cdv ct us ws l1 l2
    simp only [List.mem_cons, List.not_mem_nil, or_false] at hm
    rcases hm with rfl
    · match us, ws, l1, l2 with
      | [_, _], [], _, _ => rfl))
theorem ok30 (X : K.In h) (G : h.Ns mainGlobals mg) (c : He.SaysD fa fn K) : DefOk K mg tb pt 30 f30 :=
  defOk_of (d := d30) X G rfl rfl (c.fact 30 (f := .glo "_law_element") rfl) (c.def_ 30 (d := d30) rfl) ⟨rfl, rfl, rfl, by decide +kernel, rfl, by decide +kernel, by decide +kernel⟩ (by decide +kernel) (fun _ _ => .nil) [⟨30, 2, [], [0, 1]⟩] (by decide +kernel) (fun a fd D => shapes0 D _ (by
    intro sh hm kV doc pm an cdv ct us ws l1 l2
    simp only [List.mem_cons, List.not_mem_nil, or_false] at hm
    rcases hm with rfl
    · match us, ws, l1, l2 with
      | [_, _], [], _, _ => rfl))
theorem ok31 (X : K.In h) (G : h.Ns mainGlobals mg) (c : He.SaysD fa fn K) : DefOk K mg tb pt 31 f31 :=
  defOk_of (d := d31) X G rfl rfl (c.fact 31 (f := .glo "_law_word") rfl) (c.def_ 31 (d := d31) rfl) ⟨rfl, rfl, rfl, by decide +kernel, rfl, by decide +kernel, by decide +kernel⟩ (by decide +kernel) (fun _ _ => .nil) [⟨31, 2, [], [0, 1]⟩] (by decide +kernel) (fun a fd D => shapes0 D _ (by
    intro sh hm kV doc pm an cdv ct us ws l1 l2
    simp only [List.mem_cons, List.not_mem_nil, or_false] at hm
    rcases hm with rfl
    · match us, ws, l1, l2 with
      | [_, _], [], _, _ => rfl))
theorem ok32 (X : K.In h) (G : h.Ns mainGlobals mg) (c : He.SaysD fa fn K) : DefOk K mg tb pt 32 f32 :=
  defOk_of (d := d32) X G rfl rfl (c.fact 32 (f := .glo "_law_back") rfl) (c.def_ 32 (d := d32) rfl) ⟨rfl, rfl, rfl, by decide +kernel, rfl, by decide +kernel, by decide +kernel⟩ (by decide +kernel) (fun _ _ => .nil) [⟨32, 1, [], [0]⟩] (by decide +kernel) (fun a fd D => shapes0 D _ (by
    intro sh hm kV doc pm an cdv ct us ws l1 l2
    simp only [List.mem_cons, List.not_mem_nil, or_false] at hm
    rcases hm with rfl
    · match us, ws, l1, l2 with
      | [_], [], _, _ => rfl))
theorem ok33 (X : K.In h) (G : h.Ns mainGlobals mg) (c : He.SaysD fa fn K) : DefOk K mg tb pt 33 f33 :=
  defOk_of (d := d33) X G rfl rfl (c.fact 33 (f := .glo "_law_commuted") rfl) (c.def_ 33 (d := d33) rfl) ⟨rfl, rfl, rfl, by decide +kernel, rfl, by decide +kernel, by decide +kernel⟩ (by decide +kernel) (fun _ _ => .nil) [⟨33, 2, [], [0, 1]⟩] (by decide +kernel) (fun a fd D => shapes0 D _ (by
    intro sh hm kV doc pm an cdv ct us ws l1 l2
    simp only [List.mem_cons, List.not_mem_nil, or_false] at hm
    rcases hm with rfl
    · match us, ws, l1, l2 with
      | [_, _], [], _, _ => rfl))
theorem ok34 (X : K.In h) (G : h.Ns mainGlobals mg) (c : He.SaysD fa fn K) : DefOk K mg tb pt 34 f34 :=
  defOk_of (d := d34) X G rfl rfl (c.fact 34 (f := .glo "_law_number") rfl) (c.def_ 34 (d := d34) rfl) ⟨rfl, rfl, rfl, by decide +kernel, rfl, by decide +kernel, by decide +kernel⟩ (by decide +kernel) (fun _ _ => .nil) [⟨34, 2, [], [0, 1]⟩] (by decide +kernel) (fun a fd D => shapes0 D _ (by
    intro sh hm kV doc pm an cdv ct us ws l1 l2
    simp only [List.mem_cons, List.not_mem_nil, or_false] at hm
    rcases hm with rfl
    · match us, ws, l1, l2 with
      | [_, _], [], _, _ => rfl))
theorem ok35 (X : K.In h) (G : h.Ns mainGlobals mg) (c : He.SaysD fa fn K) : DefOk K mg tb pt 35 f35 :=
  defOk_of (d := d35) X G rfl rfl (c.fact 35 (f := .glo "_law_patterns") rfl) (c.def_ 35 (d := d35) rfl) ⟨rfl, rfl, rfl, by decide +kernel, rfl, by decide +kernel, by decide +kernel⟩ (by decide +kernel) (fun _ _ => .nil) [⟨35, 1, [], [0]⟩] (by decide +kernel) (fun a fd D => shapes0 D _ (by
    intro sh hm kV doc pm an cdv ct us ws l1 l2
    simp only [List.mem_cons, List.not_mem_nil, or_false] at hm
    rcases hm with rfl
    · match us, ws, l1, l2 with
      | [_], [], _, _ => rfl))
theorem ok36 (X : K.In h) (G : h.Ns mainGlobals mg) (c : He.SaysD fa fn K) : DefOk K mg tb pt 36 f36 :=
  defOk_of (d := d36) X G rfl rfl (c.fact 36 (f := .glo "_law_value") rfl) (c.def_ 36 (d := d36) rfl) ⟨rfl, rfl, rfl, by decide +kernel, rfl, by decide +kernel, by decide +kernel⟩ (by decide +kernel) (fun _ _ => .nil) [⟨36, 3, [], [0, 1, 2]⟩] (by decide +kernel) (fun a fd D => shapes0 D _ (by
    intro sh hm kV doc pm an cdv ct us ws l1 l2
    simp only [List.mem_cons, List.not_mem_nil, or_false] at hm
    rcases hm with rfl
    · match us, ws, l1, l2 with
      | [_, _, _], [], _, _ => rfl))
theorem ok37 (X : K.In h) (G : h.Ns mainGlobals mg) (c : He.SaysD fa fn K) : DefOk K mg tb pt 37 f37 :=
  defOk_of (d := d37) X G rfl rfl (c.fact 37 (f := .glo "_law_drawn") rfl) (c.def_ 37 (d := d37) rfl) ⟨rfl, rfl, rfl, by decide +kernel, rfl, by decide +kernel, by decide +kernel⟩ (by decide +kernel) (fun _ _ => .nil) [⟨37, 1, [], [0]⟩] (by decide +kernel) (fun a fd D => shapes0 D _ (by
    intro sh hm kV doc pm an cdv ct us ws l1 l2
    simp only [List.mem_cons, List.not_mem_nil, or_false] at hm
    rcases hm with rfl
    · match us, ws, l1, l2 with
      | [_], [], _, _ => rfl))
theorem ok38 (X : K.In h) (G : h.Ns mainGlobals mg) (c : He.SaysD fa fn K) : DefOk K mg tb pt 38 f38 :=
  defOk_of (d := d38) X G rfl rfl (c.fact 38 (f := .glo "_law_always") rfl) (c.def_ 38 (d := d38) rfl) ⟨rfl, rfl, rfl, by decide +kernel, rfl, by decide +kernel, by decide +kernel⟩ (by decide +kernel) (fun _ _ => .nil) [⟨38, 2, [], [0, 1]⟩] (by decide +kernel) (fun a fd D => shapes0 D _ (by
    intro sh hm kV doc pm an cdv ct us ws l1 l2
    simp only [List.mem_cons, List.not_mem_nil, or_false] at hm
    rcases hm with rfl
    · match us, ws, l1, l2 with
      | [_, _], [], _, _ => rfl))
theorem ok39 (X : K.In h) (G : h.Ns mainGlobals mg) (c : He.SaysD fa fn K) : DefOk K mg tb pt 39 f39 :=
  defOk_of (d := d39) X G rfl rfl (c.fact 39 (f := .glo "law") rfl) (c.def_ 39 (d := d39) rfl) ⟨rfl, rfl, rfl, by decide +kernel, rfl, by decide +kernel, by decide +kernel⟩ (by decide +kernel) (fun _ _ => .nil) [] (by decide +kernel) (fun a fd D => shapes0 D _ (fun sh hm => by cases hm))
theorem all (w : World) (X : K.In h) (G : h.Ns mainGlobals mg) (c : He.SaysX fa fn [] [] ex w h K) : AllD K mg tb pt 0 funs := .cons (ok0 X G c.t.d) (.cons (ok1 X G c.t.d) (.cons (ok2 X G c.t.d) (.cons (ok3 X G c.t.d) (.cons (ok4 X G c.t.d) (.cons (ok5 X G c.t.d) (.cons (ok6 X G c.t.d) (.cons (ok7 X G c.t.d) (.cons (ok8 X G c.t.d) (.cons (ok9 X G c.t.d) (.cons (ok10 X G c.t.d) (.cons (ok11 X G c.t.d) (.cons (ok12 X G c.t.d) (.cons (ok13 X G c.t.d) (.cons (ok14 X G c.t.d) (.cons (ok15 X G c.t.d) (.cons (ok16 X G c.t.d) (.cons (ok17 X G c.t.d) (.cons (ok18 X G c.t.d) (.cons (ok19 X G c.t.d) (.cons (ok20 X G c.t.d) (.cons (ok21 X G c.t.d) (.cons (ok22 X G c.t.d) (.cons (ok23 X G c.t.d) (.cons (ok24 X G c.t.d) (.cons (ok25 X G c.t.d) (.cons (ok26 X G c.t.d) (.cons (ok27 X G c.t.d) (.cons (ok28 X G c.t.d) (.cons (ok29 X G c.t.d) (.cons (ok30 X G c.t.d) (.cons (ok31 X G c.t.d) (.cons (ok32 X G c.t.d) (.cons (ok33 X G c.t.d) (.cons (ok34 X G c.t.d) (.cons (ok35 X G c.t.d) (.cons (ok36 X G c.t.d) (.cons (ok37 X G c.t.d) (.cons (ok38 X G c.t.d) (.cons (ok39 X G c.t.d) (.nil))))))))))))))))))))))))))))))))))))))))
theorem pr_ok (w : World) (X : K.In h) (G : h.Ns mainGlobals mg) (c : He.SaysX fa fn [] [] ex w h K) : PrOk K mg tb pt := by
  refine ⟨rfl, ?_, ?_, ?_⟩
  · intro x hx
    have hx' : x ∈ freeN := by simpa [pt] using hx
    have hm : He.Fa.free x ∈ fa := by
      have all : ∀ y ∈ freeN, (He.Fa.free y) ∈ fa := by
        intro y hy
        simp only [freeN, List.mem_cons, List.not_mem_nil, or_false] at hy
        rcases hy with rfl | rfl | rfl | rfl | rfl | rfl | rfl | rfl | rfl | rfl | rfl | rfl | rfl | rfl <;> simp [fa]
      exact all x hx'
    exact He.free_ok X G (c.t.d.facts hm)
  · intro x v hx hv
    have hx' : x ∈ globN := by simpa [pt] using hx
    have e := List.all_eq_true.mp c.more x hx'
    have hv' : globV x = some v := hv
    rw [hv'] at e
    exact gs_ok X G e
  · intro f F hF
    have q := (all w X G c).get f F hF
    rwa [Nat.zero_add] at q
end
end K37
end

section
set_option Elab.async false
set_option linter.all false
set_option maxRecDepth 100000
set_option autoImplicit false
/-! The simple interpreter, run by rewriting. -/
namespace Ws
open PySem
abbrev iv (X : List Int) : List SV := X.map SV.int

section
variable {p : Pr} {env : SE} {h : SH}
@[simp] theorem look_zero {v : SV} : look (some v :: env) 0 = some v := rfl
@[simp] theorem look_succ {o : Option SV} {n : Nat} : look (o :: env) (n + 1) = look env n := by
  unfold look
  rw [List.getElem?_cons_succ]
@[simp] theorem binop_add {i j : Int} : binop .add (.int i) (.int j) = some (.int (i + j)) := rfl
@[simp] theorem binop_sub {i j : Int} : binop .sub (.int i) (.int j) = some (.int (i - j)) := rfl
theorem binop_mul {i j : Int} (h : mulFits i j = true) : binop .mul (.int i) (.int j) = some (.int (i * j)) := if_pos h
theorem binop_fdiv {i j : Int} (h : divFits j = true) : binop .fdiv (.int i) (.int j) = some (.int (i.fdiv j)) := if_pos h
theorem binop_mod {i j : Int} (h : j ≠ 0) : binop .mod (.int i) (.int j) = some (.int (i.fmod j)) := if_pos (decide_eq_true h)
@[simp] theorem itemV_tup {xs : List SV} {k : Int} : itemV (.tup xs) (.int k) h = itemAt xs k := rfl
@[simp] theorem itemV_lst {xs : List SV} {k : Int} : itemV (.lst xs) (.int k) h = itemAt xs k := rfl
theorem itemV_ref {n : Nat} {xs : List SV} {k : Int} (e : h[n]? = some (.lst xs)) : itemV (.ref n) (.int k) h = itemAt xs k := by
  simp only [itemV, e]
@[simp] theorem cmp_lt {i j : Int} : cmpop h .lt (.int i) (.int j) = some (decide (i < j)) := rfl
@[simp] theorem cmp_le {i j : Int} : cmpop h .le (.int i) (.int j) = some (decide (i ≤ j)) := rfl
@[simp] theorem cmp_gt {i j : Int} : cmpop h .gt (.int i) (.int j) = some (decide (j < i)) := rfl
@[simp] theorem cmp_ge {i j : Int} : cmpop h .ge (.int i) (.int j) = some (decide (j ≤ i)) := rfl
@[simp] theorem cmp_eq_int {i j : Int} : cmpop h .eq (.int i) (.int j) = some (i == j) := by
  simp [cmpop, SV.fit, veq, SV.pd, PyData.eqv]
@[simp] theorem asInt_int {i : Int} : asInt (.int i) = some i := rfl
@[simp] theorem wipe_nil : wipeE env [] = env := rfl
@[simp] theorem wipe_cons {i : Nat} {ks : List Nat} : wipeE env (i :: ks) = (wipeE env ks).set i none := rfl
@[simp] theorem store_name {i : Nat} {v : SV} : store (.name i) v env = some (env.set i (some v)) := rfl
@[simp] theorem store_pair {a b : CT} {x y : SV} : store (.pair a b) (.tup [x, y]) env = (store a x env).bind (store b y) := rfl
@[simp] theorem store_pair_kt {a b : CT} {x y : SV} : store (.pair a b) (.kt [x, y]) env = (store a x env).bind (store b y) := rfl
@[simp] theorem bi_len_kt {xs : List SV} : builtin h .len [.kt xs] = some (.int (xs.length : Nat)) := rfl
@[simp] theorem bi_len_tup {xs : List SV} : builtin h .len [.tup xs] = some (.int (xs.length : Nat)) := rfl
@[simp] theorem bi_len_lst {xs : List SV} : builtin h .len [.lst xs] = some (.int (xs.length : Nat)) := rfl
@[simp] theorem bi_tup_tup {xs : List SV} : builtin h .tuple [.tup xs] = some (.tup xs) := rfl
@[simp] theorem bi_tup_lst {xs : List SV} : builtin h .tuple [.lst xs] = some (.tup xs) := rfl
@[simp] theorem bi_len_ref {xs : List SV} {r : SH} : builtin (.lst xs :: r) .len [.ref 0] = some (.int (xs.length : Nat)) := rfl
@[simp] theorem bi_tup_ref {xs : List SV} {r : SH} : builtin (.lst xs :: r) .tuple [.ref 0] = some (.tup xs) := rfl
@[simp] theorem bi_abs {i : Int} : builtin h .abs [.int i] = some (.int (if i < 0 then -i else i)) := rfl
@[simp] theorem bi_int {i : Int} : builtin h .int [.int i] = some (.int i) := rfl
@[simp] theorem bi_min {i j : Int} : builtin h .min2 [.int i, .int j] = some (.int (if j < i then j else i)) := rfl
@[simp] theorem isL_ref {n : Nat} {xs : List SV} {r : SH} : isL (.lst xs :: r) (.ref 0) = true := rfl
@[simp] theorem append_at {xs ys : List SV} {r : SH} (hl : xs.length + ys.length ≤ seqLen) : appH (.ref 0) ys (.lst xs :: r) = some (.lst (xs ++ ys) :: r) := by
  simp [appH, hl]
end

/-- a loop's turn -/
def turn (p : Pr) (t : CT) (body : CSs) : SV → SE → SH → Out := fun x env h => match store t x env with
  | some env2 => evSs p body env2 h
  | none => .bad
theorem turn_eq {p : Pr} {t : CT} {body : CSs} {x : SV} {env env2 : SE} {h : SH} (e : store t x env = some env2) : turn p t body x env h = evSs p body env2 h := by
  unfold turn
  rw [e]
section
variable {p : Pr} {env env1 : SE} {h h1 : SH} {v : SV}
theorem nx_ {s : CS} {r : CSs} (e : evS p s env h = .nx env1 h1) : evSs p (.cons s r) env h = evSs p r env1 h1 := by
  rw [evSs, e]
theorem rt_ {s : CS} {r : CSs} (e : evS p s env h = .rt v h1) : evSs p (.cons s r) env h = .rt v h1 := by
  rw [evSs, e]
theorem loop_ {t : CT} {it : CI} {body : CSs} {kill : List Nat} {xs : List SV} {o : Out} (e : evi p it env h = .ok xs h1) (l : loopF kill (turn p t body) xs env h1 = o) : evS p (.loop t it body kill) env h = o := by
  rw [evS, e]
  exact l
theorem set_ {i : Nat} {e : CE} (q : ev p e env h = .ok v h1) : evS p (.set (.name i) e) env h = .nx (env.set i (some v)) h1 := by
  rw [evS, q]
  rfl
theorem ret_ {e : CE} (q : ev p e env h = .ok v h1) : evS p (.ret e) env h = .rt v h1 := by
  rw [evS, q]
  rfl
theorem append_ {o e : CE} {xs ys : List SV} {r r2 : SH} (q : ev p o env h = .ok (.ref 0) (.lst xs :: r)) (q2 : ev p e env (.lst xs :: r) = .ok v (.lst ys :: r2)) (hl : ys.length + 1 ≤ seqLen) : evS p (.append o e) env h = .nx env (.lst (ys ++ [v]) :: r2) := by
  rw [evS, q]
  show Out.of env (ev p e env (.lst xs :: r)) _ = _
  rw [q2]
  show (match appH (.ref 0) [v] (.lst ys :: r2) with
    | some h2 => Out.nx env h2
    | none => .bad) = _
  rw [append_at (by simpa using hl)]
/-- a test that holds, that fails -/
theorem if_t {t : CE} {a b : CSs} (q : evT p t env h = .ok true h1) : evS p (.cond t a b) env h = evSs p a env h1 := by
  rw [evS, q]
  rfl
theorem if_f {t : CE} {a b : CSs} (q : evT p t env h = .ok false h1) : evS p (.cond t a b) env h = evSs p b env h1 := by
  rw [evS, q]
  rfl
theorem comp_ {c : Bool} {elt : CE} {t : CT} {it : CI} {own : List Nat} {xs : List SV} (g : SV → SV) (e : evi p it env h = .ok xs h1) (b : ∀ x ∈ xs, ∃ env2, store t x (wipeE env own) = some env2 ∧ ev p elt env2 h1 = .ok (g x) h1) :
    ev p (.comp c elt t it own) env h = mkL c (xs.map g) h1 := by
  rw [ev, e]
  simp only [Res.bind_ok]
  have go : ∀ ys : List SV, (∀ x ∈ ys, ∃ env2, store t x (wipeE env own) = some env2 ∧ ev p elt env2 h1 = .ok (g x) h1) → compF (fun x h => match store t x (wipeE env own) with
    | none => .bad
    | some env2 => (ev p elt env2 h).bind fun y h => .ok (some y) h) ys h1 = .ok (ys.map g) h1 := by
    intro ys
    induction ys with
    | nil => intro _; rfl
    | cons y ys ih =>
      intro hy
      obtain ⟨env2, e1, e2⟩ := hy y List.mem_cons_self
      rw [compF, e1]
      simp only [e2, Res.bind_ok]
      rw [ih fun x hx => hy x (List.mem_cons_of_mem _ hx)]
      rfl
  exact congrArg (fun r => Res.bind r fun r h => mkL c r h) (go xs b)
theorem mkL_val {xs : List SV} (hl : xs.length ≤ seqLen) : mkL false xs h = .ok (.lst xs) h := by
  unfold mkL
  rw [if_pos (decide_eq_true hl)]
  rfl
theorem mkL_cell {xs : List SV} (hl : xs.length ≤ seqLen) : mkL true xs h = .ok (.ref h.length) (h ++ [.lst xs]) := by
  unfold mkL
  rw [if_pos (decide_eq_true hl)]
  rfl
end
/-- one turn of a loop -/
theorem loop_nx {kill : List Nat} {body : SV → SE → SH → Out} {x : SV} {xs : List SV} {env env1 : SE} {h h1 : SH} (e : body x env h = .nx env1 h1) : loopF kill body (x :: xs) env h = loopF kill body xs (wipeE env1 kill) h1 := by
  rw [loopF, e]
theorem loop_end {kill : List Nat} {body : SV → SE → SH → Out} {env : SE} {h : SH} : loopF kill body [] env h = .nx env h := rfl

def gi (X : List Int) (i : Int) : Int := X.getD i.toNat 0
theorem at_iv {X : List Int} {i : Int} (h0 : 0 ≤ i) (h1 : i < X.length) : itemAt (iv X) i = some (.int (gi X i)) := by
  unfold itemAt L2.atI L2.ixN gi
  rw [List.length_map, if_pos h0, if_pos h1]
  have hl : i.toNat < X.length := by omega
  simp [hl]

/-! ### calls -/
theorem call_ {T : Tb} {d f : Nat} {F : FT} {xs : List SV} {h h1 : SH} {v w : SV} (hF : T.funs[f]? = some F) (hp : F.pure = true) (hx : dryL xs = true) (hl : xs.length = F.ps.length) (e : evSs (prOf T d) F.body (startE F xs) [] = .rt v h1) (q : finish F [] v h1 = .ok w []) : callF T (d + 1) f xs h = .ok w h := by
  rw [callF, hF]
  simp only
  rw [if_pos hp, if_pos hx]
  show dryRun (runF (prOf T d) F xs []) h = _
  have r : runF (prOf T d) F xs [] = .ok w [] := by
    unfold runF
    rw [if_pos (decide_eq_true hl), e]
    exact q
  rw [r]
  rfl
mutual
def SV.deep : Nat → SV → Bool
  | _, .non => true
  | _, .bl _ => true
  | _, .int _ => true
  | _, .str _ => true
  | n + 1, .tup xs => deepL n xs
  | n + 1, .lst xs => deepL n xs
  | _, _ => false
def deepL : Nat → List SV → Bool
  | _, [] => true
  | n, x :: xs => SV.deep n x && deepL n xs
end
mutual
theorem freeze_deep {n : Nat} {h : SH} : ∀ (k : Nat) (v : SV), v.deep k = true → freeze n h k v = some v
  | 0, .non, _ => rfl
  | 0, .bl _, _ => rfl
  | 0, .int _, _ => rfl
  | 0, .str _, _ => rfl
  | 0, .tup _, e => by simp [SV.deep] at e
  | 0, .lst _, e => by simp [SV.deep] at e
  | 0, .dct _, e => by simp [SV.deep] at e
  | 0, .ref _, e => by simp [SV.deep] at e
  | k + 1, .non, _ => rfl
  | k + 1, .bl _, _ => rfl
  | k + 1, .int _, _ => rfl
  | k + 1, .str _, _ => rfl
  | k + 1, .tup xs, e => by
    simp only [freeze]
    rw [freezeL_deep k xs (by simpa [SV.deep] using e)]
    rfl
  | k + 1, .lst xs, e => by
    simp only [freeze]
    rw [freezeL_deep k xs (by simpa [SV.deep] using e)]
    rfl
  | k + 1, .dct _, e => by simp [SV.deep] at e
  | k + 1, .ref _, e => by simp [SV.deep] at e
theorem freezeL_deep {n : Nat} {h : SH} : ∀ (k : Nat) (xs : List SV), deepL k xs = true → freezeL (freeze n h k) xs = some xs
  | _, [], _ => rfl
  | k, x :: xs, e => by
    simp only [deepL, Bool.and_eq_true] at e
    simp only [freezeL]
    rw [freeze_deep k x e.1, freezeL_deep k xs e.2]
end
theorem fin_val {F : FT} {v : SV} {h1 : SH} (hk : F.keep = false) (hd : v.deep 12 = true) : finish F [] v h1 = .ok v [] := by
  unfold finish
  rw [hk, if_neg (by decide), List.length_nil, freeze_deep 12 v hd]
  simp
theorem deep_iv {k : Nat} : ∀ X : List Int, deepL k (iv X) = true
  | [] => by cases k <;> rfl
  | x :: X => by
    show (SV.deep k (.int x) && deepL k (iv X)) = true
    rw [deep_iv X]
    cases k <;> rfl
@[simp] theorem deep_tup_iv {X : List Int} : (SV.tup (iv X)).deep 12 = true := deep_iv X
theorem dry_iv : ∀ X : List Int, dryL (iv X) = true
  | [] => rfl
  | x :: X => by
    show (SV.dry (.int x) && dryL (iv X)) = true
    rw [dry_iv X]
    rfl
@[simp] theorem dry_tup_iv {X : List Int} : (SV.tup (iv X)).dry = true := by
  unfold SV.dry
  exact dry_iv X
end Ws
end

section
set_option Elab.async false
set_option linter.all false
set_option maxRecDepth 100000
set_option maxHeartbeats 0
set_option autoImplicit false
namespace K37
open PySem Ws
abbrev prs (ps : List (Int × Int)) : List SV := ps.map fun p => SV.kt [.int p.1, .int p.2]
/-- the products of pairs, from start on -/
def dotP (X Y : List Int) (st : Int) : List (Int × Int) → Int → Int
  | [], t => t
  | p :: ps, t => dotP X Y st ps (t + gi X (st + p.1) * gi Y (st + p.2))
/-- a pair that is in place -/
def PairOk (X Y : List Int) (st : Int) (p : Int × Int) : Prop := (0 ≤ st + p.1 ∧ st + p.1 < X.length) ∧ (0 ≤ st + p.2 ∧ st + p.2 < Y.length) ∧ mulFits (gi X (st + p.1)) (gi Y (st + p.2)) = true
theorem dot_loop {p : Pr} {X Y : List Int} {sp st a b c : SV} {s : Int} {h : SH} : ∀ (ps : List (Int × Int)) (t : Int), (∀ q ∈ ps, PairOk X Y s q) →
    loopF [9, 10] (turn p (.pair (.name 9) (.name 10)) b12l0) (prs ps) [some sp, some (.tup (iv X)), some (.tup (iv Y)), some st, some (.int s), some a, some b, some c, some (.int t), none, none] h =
      .nx [some sp, some (.tup (iv X)), some (.tup (iv Y)), some st, some (.int s), some a, some b, some c, some (.int (dotP X Y s ps t)), none, none] h
  | [], t, _ => rfl
  | q :: ps, t, hq => by
    obtain ⟨⟨h1, h2⟩, ⟨h3, h4⟩, h5⟩ := hq q List.mem_cons_self
    have ih := dot_loop (p := p) (sp := sp) (st := st) (a := a) (b := b) (c := c) (h := h) ps (t + gi X (s + q.1) * gi Y (s + q.2)) fun r hr => hq r (List.mem_cons_of_mem _ hr)
    have one : turn p (.pair (.name 9) (.name 10)) b12l0 (.kt [.int q.1, .int q.2]) [some sp, some (.tup (iv X)), some (.tup (iv Y)), some st, some (.int s), some a, some b, some c, some (.int t), none, none] h =
        .nx [some sp, some (.tup (iv X)), some (.tup (iv Y)), some st, some (.int s), some a, some b, some c, some (.int (t + gi X (s + q.1) * gi Y (s + q.2))), some (.int q.1), some (.int q.2)] h := by
      simp [turn, b12l0, evSs, evS, ev, at_iv h1 h2, at_iv h3 h4, binop_mul h5]
    show loopF [9, 10] _ (SV.kt [.int q.1, .int q.2] :: prs ps) _ h = _
    rw [loop_nx one]
    simpa [dotP] using ih
def tbl (n : Int) : List (List (Int × Int)) :=
  if n = 2 then [[]] else if n = 3 then [[], [], [(0, 1)]] else if n = 4 then [[], [], [], [(0, 1)], [(1, 2)], [(0, 4), (3, 2)]] else
    [[], [], [], [], [(0, 1)], [(1, 2)], [(2, 3)], [(0, 5), (4, 2)], [(1, 6), (5, 3)], [(0, 8), (4, 6), (7, 3)]]
def tv (t : List (List (Int × Int))) : List SV := t.map fun ps => .kt (prs ps)
def Size (n : Int) : Prop := n = 2 ∨ n = 3 ∨ n = 4 ∨ n = 5
theorem summands {n : Int} (hn : Size n) {v : SV} (hv : globV "SUMMANDS" = some v) {h : SH} : itemV v (.int n) h = some (.kt (tv (tbl n))) := by
  have hv' := hv
  rcases hn with rfl | rfl | rfl | rfl <;> cases hv <;> rfl
def blockP (X Y : List Int) (s : Int) : Int → List (List (Int × Int)) → List Int
  | _, [] => []
  | k, ps :: t => dotP X Y s ps (gi X (s + k) + gi Y (s + k)) :: blockP X Y s (k + 1) t
def prodF (X Y : List Int) : Int → List Int → List Int
  | _, [] => []
  | s, n :: r => blockP X Y s 0 (tbl n) ++ prodF X Y (s + (tbl n).length) r
/-- the pairs of a block are in place -/
def BlockOk (X Y : List Int) (s : Int) (t : List (List (Int × Int))) : Prop := ∀ ps ∈ t, ∀ q ∈ ps, PairOk X Y s q
theorem mid_loop {p : Pr} {X Y : List Int} {sp a : SV} {s : Int} {r : SH} : ∀ (t : List (List (Int × Int))) (k : Nat) (es : List Int), BlockOk X Y s t → 0 ≤ s → s + k + t.length ≤ X.length → s + k + t.length ≤ Y.length → es.length + t.length ≤ 1000 →
    loopF [6, 7, 8, 9, 10] (turn p (.pair (.name 6) (.name 7)) b12l1) (enumOf k (tv t)) [some sp, some (.tup (iv X)), some (.tup (iv Y)), some (.ref 0), some (.int s), some a, none, none, none, none, none] (.lst (iv es) :: r) =
      .nx [some sp, some (.tup (iv X)), some (.tup (iv Y)), some (.ref 0), some (.int s), some a, none, none, none, none, none] (.lst (iv (es ++ blockP X Y s k t)) :: r)
  | [], k, es, _, _, _, _, _ => by
    simp [tv, enumOf, loopF, blockP]
  | ps :: t, k, es, ok, h0, hx, hy, hl => by
    simp only [List.length_cons] at hx hy hl
    have ih := mid_loop (p := p) (sp := sp) (a := a) (r := r) t (k + 1) (es ++ [dotP X Y s ps (gi X (s + k) + gi Y (s + k))]) (fun q hq => ok q (List.mem_cons_of_mem _ hq)) h0 (by push_cast; omega) (by push_cast; omega) (by simp; omega)
    have hk : 0 ≤ s + (k : Int) := by omega
    have one : turn p (.pair (.name 6) (.name 7)) b12l1 (.tup [.int (k : Nat), .kt (prs ps)]) [some sp, some (.tup (iv X)), some (.tup (iv Y)), some (.ref 0), some (.int s), some a, none, none, none, none, none] (.lst (iv es) :: r) =
        .nx [some sp, some (.tup (iv X)), some (.tup (iv Y)), some (.ref 0), some (.int s), some a, some (.int (k : Nat)), some (.kt (prs ps)), some (.int (dotP X Y s ps (gi X (s + k) + gi Y (s + k)))), none, none] (.lst (iv (es ++ [dotP X Y s ps (gi X (s + k) + gi Y (s + k))])) :: r) := by
      have lp := dot_loop (p := p) (X := X) (Y := Y) (sp := sp) (st := .ref 0) (a := a) (b := .int (k : Nat)) (c := .kt (prs ps)) (s := s) (h := .lst (iv es) :: r) ps (gi X (s + k) + gi Y (s + k)) (ok ps List.mem_cons_self)
      have hl2 : (iv es).length + [SV.int (dotP X Y s ps (gi X (s + k) + gi Y (s + k)))].length ≤ seqLen := by
        simp only [List.length_map, List.length_cons, List.length_nil]
        have : seqLen = 16777216 := rfl
        omega
      have x1 := at_iv hk (show s + (k : Int) < X.length by omega)
      have y1 := at_iv hk (show s + (k : Int) < Y.length by omega)
      rw [turn_eq (env2 := [some sp, some (.tup (iv X)), some (.tup (iv Y)), some (.ref 0), some (.int s), some a, some (.int (k : Nat)), some (.kt (prs ps)), none, none, none]) (by simp)]
      unfold b12l1
      rw [nx_ (set_ (v := .int (gi X (s + k) + gi Y (s + k))) (h1 := .lst (iv es) :: r) (by simp [ev, x1, y1]))]
      rw [nx_ (loop_ (xs := prs ps) (h1 := .lst (iv es) :: r) (by simp [evi, ev]) (by simpa using lp))]
      simp [evSs, evS, ev, append_at hl2]
    show loopF [6, 7, 8, 9, 10] (turn p (.pair (.name 6) (.name 7)) b12l1) (.tup [.int (k : Nat), .kt (prs ps)] :: enumOf (k + 1) (tv t)) _ _ = _
    rw [loop_nx one]
    have e : es ++ blockP X Y s k (ps :: t) = (es ++ [dotP X Y s ps (gi X (s + k) + gi Y (s + k))]) ++ blockP X Y s ((k + 1 : Nat) : Int) t := by
      simp [blockP]
    rw [e]
    simpa using ih
/-- every block is in place -/
def SpOk (X Y : List Int) : Int → List Int → Prop
  | _, [] => True
  | s, n :: r => Size n ∧ BlockOk X Y s (tbl n) ∧ s + (tbl n).length ≤ X.length ∧ s + (tbl n).length ≤ Y.length ∧ SpOk X Y (s + (tbl n).length) r
def endF : Int → List Int → Int
  | s, [] => s
  | s, n :: r => endF (s + (tbl n).length) r
theorem size_len {n : Int} (h : Size n) : (tbl n).length ≤ 10 := by
  rcases h with rfl | rfl | rfl | rfl <;> decide
theorem blockP_len {X Y : List Int} {s : Int} : ∀ (t : List (List (Int × Int))) (k : Int), (blockP X Y s k t).length = t.length
  | [], _ => rfl
  | _ :: t, k => congrArg Nat.succ (blockP_len t (k + 1))
def sumV : SV := (globV "SUMMANDS").getD .non
theorem sumV_eq : globV "SUMMANDS" = some sumV := rfl
theorem sum_ev {d : Nat} {env : SE} {h : SH} : ev (prOf tb d) (.glob "SUMMANDS") env h = .ok sumV h := rfl
theorem glob_sum {d : Nat} : (prOf tb d).glob ("SUMMANDS" : Str) = some sumV := rfl
theorem tv_len (t : List (List (Int × Int))) : (tv t).length = t.length := by simp [tv]
theorem out_loop {d : Nat} {X Y : List Int} {sp : SV} {r : SH} : ∀ (ns : List Int) (s : Int) (es : List Int), SpOk X Y s ns → 0 ≤ s → es.length + 10 * ns.length ≤ 900 →
    loopF [5, 6, 7, 8, 9, 10] (turn (prOf tb d) (.name 5) b12l2) (iv ns) [some sp, some (.tup (iv X)), some (.tup (iv Y)), some (.ref 0), some (.int s), none, none, none, none, none, none] (.lst (iv es) :: r) =
      .nx [some sp, some (.tup (iv X)), some (.tup (iv Y)), some (.ref 0), some (.int (endF s ns)), none, none, none, none, none, none] (.lst (iv (es ++ prodF X Y s ns)) :: r)
  | [], s, es, _, _, _ => by simp [loopF, prodF, endF]
  | n :: ns, s, es, ok, h0, hl => by
    obtain ⟨sz, bo, hx, hy, rest⟩ := ok
    have ln := size_len sz
    simp only [List.length_cons] at hl
    have ih := out_loop (d := d) (sp := sp) (r := r) ns (s + (tbl n).length) (es ++ blockP X Y s 0 (tbl n)) rest (by omega) (by rw [List.length_append, blockP_len]; omega)
    have it := fun h => summands sz sumV_eq (h := h)
    have lp := mid_loop (p := prOf tb d) (X := X) (Y := Y) (sp := sp) (a := .int n) (s := s) (r := r) (tbl n) 0 es bo h0 (by simpa using hx) (by simpa using hy) (by omega)
    have one : turn (prOf tb d) (.name 5) b12l2 (.int n) [some sp, some (.tup (iv X)), some (.tup (iv Y)), some (.ref 0), some (.int s), none, none, none, none, none, none] (.lst (iv es) :: r) =
        .nx [some sp, some (.tup (iv X)), some (.tup (iv Y)), some (.ref 0), some (.int (s + (tbl n).length)), some (.int n), none, none, none, none, none] (.lst (iv (es ++ blockP X Y s 0 (tbl n))) :: r) := by
      rw [turn_eq (env2 := [some sp, some (.tup (iv X)), some (.tup (iv Y)), some (.ref 0), some (.int s), some (.int n), none, none, none, none, none]) (by simp)]
      unfold b12l2
      rw [nx_ (loop_ (xs := enumOf 0 (tv (tbl n))) (h1 := .lst (iv es) :: r) (by simp [evi, ev, glob_sum, it]) (by simpa using lp))]
      simp [evSs, evS, ev, evs, glob_sum, it, tv_len]
    show loopF _ _ (SV.int n :: iv ns) _ _ = _
    rw [loop_nx one]
    have e : es ++ prodF X Y s (n :: ns) = (es ++ blockP X Y s 0 (tbl n)) ++ prodF X Y (s + (tbl n).length) ns := by simp [prodF]
    rw [e]
    simpa [endF] using ih
/-- product_in -/
theorem product_in {d : Nat} {hh : SH} {X Y ns : List Int} (ok : SpOk X Y 0 ns) (hl : ns.length ≤ 3) : callF tb (d + 1) 12 [.tup (iv ns), .tup (iv X), .tup (iv Y)] hh = .ok (.tup (iv (prodF X Y 0 ns))) hh := by
  have lp := out_loop (d := d) (sp := .tup (iv ns)) (r := []) ns 0 [] ok (by omega) (by simp; omega)
  refine call_ (F := f12) (h1 := [.lst (iv (prodF X Y 0 ns))]) rfl rfl (by simp [dryL, SV.dry, dry_iv]) rfl ?_ (fin_val rfl deep_tup_iv)
  show evSs (prOf tb d) b12 [some (.tup (iv ns)), some (.tup (iv X)), some (.tup (iv Y)), none, none, none, none, none, none, none, none] [] = _
  unfold b12
  rw [nx_ (set_ (v := .ref 0) (h1 := [.lst []]) (by simp [ev, evs, mkL, seqLen]))]
  rw [nx_ (set_ (v := .int 0) (h1 := [.lst []]) (by simp [ev]))]
  rw [nx_ (loop_ (xs := iv ns) (h1 := [.lst []]) (by simp [evi, ev]) (by simpa using lp))]
  exact rt_ (ret_ (by simp [ev, evs]))
end K37
end

section
set_option Elab.async false
set_option linter.all false
set_option maxRecDepth 100000
set_option maxHeartbeats 0
set_option autoImplicit false
namespace K37
open PySem Ws

/-! ### inverse_in -/
theorem doti_loop {p : Pr} {X es : List Int} {sp a b c : SV} {s : Int} {r : SH} : ∀ (ps : List (Int × Int)) (t : Int), (∀ q ∈ ps, PairOk X es s q) →
    loopF [8, 9] (turn p (.pair (.name 8) (.name 9)) b13l0) (prs ps) [some sp, some (.tup (iv X)), some (.ref 0), some (.int s), some a, some b, some c, some (.int t), none, none] (.lst (iv es) :: r) =
      .nx [some sp, some (.tup (iv X)), some (.ref 0), some (.int s), some a, some b, some c, some (.int (dotP X es s ps t)), none, none] (.lst (iv es) :: r)
  | [], t, _ => rfl
  | q :: ps, t, hq => by
    obtain ⟨⟨h1, h2⟩, ⟨h3, h4⟩, h5⟩ := hq q List.mem_cons_self
    have ih := doti_loop (p := p) (sp := sp) (a := a) (b := b) (c := c) (r := r) ps (t + gi X (s + q.1) * gi es (s + q.2)) fun r hr => hq r (List.mem_cons_of_mem _ hr)
    have it : ∀ k, itemV (.ref 0) (.int k) (.lst (iv es) :: r) = itemAt (iv es) k := fun k => itemV_ref rfl
    have one : turn p (.pair (.name 8) (.name 9)) b13l0 (.kt [.int q.1, .int q.2]) [some sp, some (.tup (iv X)), some (.ref 0), some (.int s), some a, some b, some c, some (.int t), none, none] (.lst (iv es) :: r) =
        .nx [some sp, some (.tup (iv X)), some (.ref 0), some (.int s), some a, some b, some c, some (.int (t + gi X (s + q.1) * gi es (s + q.2))), some (.int q.1), some (.int q.2)] (.lst (iv es) :: r) := by
      simp [turn, b13l0, evSs, evS, ev, at_iv h1 h2, it, at_iv h3 h4, binop_mul h5]
    show loopF [8, 9] _ (SV.kt [.int q.1, .int q.2] :: prs ps) _ _ = _
    rw [loop_nx one]
    simpa [dotP] using ih
def invB (X : List Int) (s : Int) : Int → List (List (Int × Int)) → List Int → List Int
  | _, [], es => es
  | k, ps :: t, es => invB X s (k + 1) t (es ++ [-(dotP X es s ps (gi X (s + k)))])
def InvOk (X : List Int) (s : Int) : Int → List (List (Int × Int)) → List Int → Prop
  | _, [], _ => True
  | k, ps :: t, es => (∀ q ∈ ps, PairOk X es s q) ∧ InvOk X s (k + 1) t (es ++ [-(dotP X es s ps (gi X (s + k)))])
theorem invB_len {X : List Int} {s : Int} : ∀ (t : List (List (Int × Int))) (k : Int) (es : List Int), (invB X s k t es).length = es.length + t.length
  | [], _, _ => rfl
  | _ :: t, k, es => by
    rw [invB, invB_len t]
    simp
    omega
theorem midi_loop {p : Pr} {X : List Int} {sp a : SV} {s : Int} {r : SH} : ∀ (t : List (List (Int × Int))) (k : Nat) (es : List Int), InvOk X s k t es → 0 ≤ s → s + k + t.length ≤ X.length → es.length + t.length ≤ 1000 →
    loopF [5, 6, 7, 8, 9] (turn p (.pair (.name 5) (.name 6)) b13l1) (enumOf k (tv t)) [some sp, some (.tup (iv X)), some (.ref 0), some (.int s), some a, none, none, none, none, none] (.lst (iv es) :: r) =
      .nx [some sp, some (.tup (iv X)), some (.ref 0), some (.int s), some a, none, none, none, none, none] (.lst (iv (invB X s k t es)) :: r)
  | [], k, es, _, _, _, _ => by
    simp [tv, enumOf, loopF, invB]
  | ps :: t, k, es, ok, h0, hx, hl => by
    simp only [List.length_cons] at hx hl
    have ih := midi_loop (p := p) (sp := sp) (a := a) (r := r) t (k + 1) (es ++ [-(dotP X es s ps (gi X (s + k)))]) (by simpa using ok.2) h0 (by push_cast; omega) (by simp; omega)
    have hk : 0 ≤ s + (k : Int) := by omega
    have one : turn p (.pair (.name 5) (.name 6)) b13l1 (.tup [.int (k : Nat), .kt (prs ps)]) [some sp, some (.tup (iv X)), some (.ref 0), some (.int s), some a, none, none, none, none, none] (.lst (iv es) :: r) =
        .nx [some sp, some (.tup (iv X)), some (.ref 0), some (.int s), some a, some (.int (k : Nat)), some (.kt (prs ps)), some (.int (dotP X es s ps (gi X (s + k)))), none, none] (.lst (iv (es ++ [-(dotP X es s ps (gi X (s + k)))])) :: r) := by
      have lp := doti_loop (p := p) (X := X) (es := es) (sp := sp) (a := a) (b := .int (k : Nat)) (c := .kt (prs ps)) (s := s) (r := r) ps (gi X (s + k)) ok.1
      have hl2 : (iv es).length + [SV.int (-(dotP X es s ps (gi X (s + k))))].length ≤ seqLen := by
        simp only [List.length_map, List.length_cons, List.length_nil]
        have : seqLen = 16777216 := rfl
        omega
      have x1 := at_iv hk (show s + (k : Int) < X.length by omega)
      rw [turn_eq (env2 := [some sp, some (.tup (iv X)), some (.ref 0), some (.int s), some a, some (.int (k : Nat)), some (.kt (prs ps)), none, none, none]) (by simp)]
      unfold b13l1
      rw [nx_ (set_ (v := .int (gi X (s + k))) (h1 := .lst (iv es) :: r) (by simp [ev, x1]))]
      rw [nx_ (loop_ (xs := prs ps) (h1 := .lst (iv es) :: r) (by simp [evi, ev]) (by simpa using lp))]
      simp [evSs, evS, ev, append_at hl2]
    show loopF [5, 6, 7, 8, 9] _ (.tup [.int (k : Nat), .kt (prs ps)] :: enumOf (k + 1) (tv t)) _ _ = _
    rw [loop_nx one]
    simpa [invB] using ih
def invF (X : List Int) : Int → List Int → List Int → List Int
  | _, [], es => es
  | s, n :: r, es => invF X (s + (tbl n).length) r (invB X s 0 (tbl n) es)
def InvsOk (X : List Int) : Int → List Int → List Int → Prop
  | _, [], _ => True
  | s, n :: r, es => Size n ∧ InvOk X s 0 (tbl n) es ∧ s + (tbl n).length ≤ X.length ∧ InvsOk X (s + (tbl n).length) r (invB X s 0 (tbl n) es)
theorem outi_loop {d : Nat} {X : List Int} {sp : SV} {r : SH} : ∀ (ns : List Int) (s : Int) (es : List Int), InvsOk X s ns es → 0 ≤ s → es.length + 10 * ns.length ≤ 900 →
    loopF [4, 5, 6, 7, 8, 9] (turn (prOf tb d) (.name 4) b13l2) (iv ns) [some sp, some (.tup (iv X)), some (.ref 0), some (.int s), none, none, none, none, none, none] (.lst (iv es) :: r) =
      .nx [some sp, some (.tup (iv X)), some (.ref 0), some (.int (endF s ns)), none, none, none, none, none, none] (.lst (iv (invF X s ns es)) :: r)
  | [], s, es, _, _, _ => by simp [loopF, invF, endF]
  | n :: ns, s, es, ok, h0, hl => by
    obtain ⟨sz, bo, hx, rest⟩ := ok
    have ln := size_len sz
    simp only [List.length_cons] at hl
    have ih := outi_loop (d := d) (sp := sp) (r := r) ns (s + (tbl n).length) (invB X s 0 (tbl n) es) rest (by omega) (by rw [invB_len]; omega)
    have it := fun h => summands sz sumV_eq (h := h)
    have lp := midi_loop (p := prOf tb d) (X := X) (sp := sp) (a := .int n) (s := s) (r := r) (tbl n) 0 es (by simpa using bo) h0 (by simpa using hx) (by omega)
    have one : turn (prOf tb d) (.name 4) b13l2 (.int n) [some sp, some (.tup (iv X)), some (.ref 0), some (.int s), none, none, none, none, none, none] (.lst (iv es) :: r) =
        .nx [some sp, some (.tup (iv X)), some (.ref 0), some (.int (s + (tbl n).length)), some (.int n), none, none, none, none, none] (.lst (iv (invB X s 0 (tbl n) es)) :: r) := by
      rw [turn_eq (env2 := [some sp, some (.tup (iv X)), some (.ref 0), some (.int s), some (.int n), none, none, none, none, none]) (by simp)]
      unfold b13l2
      rw [nx_ (loop_ (xs := enumOf 0 (tv (tbl n))) (h1 := .lst (iv es) :: r) (by simp [evi, ev, glob_sum, it]) (by simpa using lp))]
      simp [evSs, evS, ev, evs, glob_sum, it, tv_len]
    show loopF _ _ (SV.int n :: iv ns) _ _ = _
    rw [loop_nx one]
    simpa [endF, invF] using ih
theorem inverse_in {d : Nat} {hh : SH} {X ns : List Int} (ok : InvsOk X 0 ns []) (hl : ns.length ≤ 3) : callF tb (d + 1) 13 [.tup (iv ns), .tup (iv X)] hh = .ok (.tup (iv (invF X 0 ns []))) hh := by
  have lp := outi_loop (d := d) (sp := .tup (iv ns)) (r := []) ns 0 [] ok (by omega) (by simp; omega)
  refine call_ (F := f13) (h1 := [.lst (iv (invF X 0 ns []))]) rfl rfl (by simp [dryL, SV.dry, dry_iv]) rfl ?_ (fin_val rfl deep_tup_iv)
  show evSs (prOf tb d) b13 [some (.tup (iv ns)), some (.tup (iv X)), none, none, none, none, none, none, none, none] [] = _
  unfold b13
  rw [nx_ (set_ (v := .ref 0) (h1 := [.lst []]) (by simp [ev, evs, mkL, seqLen]))]
  rw [nx_ (set_ (v := .int 0) (h1 := [.lst []]) (by simp [ev]))]
  rw [nx_ (loop_ (xs := iv ns) (h1 := [.lst []]) (by simp [evi, ev]) (by simpa using lp))]
  exact rt_ (ret_ (by simp [ev, evs]))

theorem intsOf_map {α : Type} (f : α → Int) : ∀ l : List α, intsOf (l.map fun x => SV.int (f x)) = some (l.map f)
  | [] => rfl
  | x :: l => by simp [intsOf, intsOf_map f l]
end K37
end

section
set_option Elab.async false
set_option linter.all false
set_option maxRecDepth 100000
set_option maxHeartbeats 0
set_option autoImplicit false
namespace K37
open PySem Ws

theorem mf {i j : Int} {a b : Nat} (ha : i.natAbs < 2 ^ a) (hb : j.natAbs < 2 ^ b) (h0 : 0 < a) (h1 : 0 < b) (h : a + b ≤ 1000000) : mulFits i j = true := by
  have w := L2.wide_mul ha hb h0 h1 h
  unfold mulFits
  rw [Bool.or_eq_true]
  exact .inr (decide_eq_true w)
/-- bits -/
def Bd (a : Nat) (X : List Int) : Prop := ∀ v ∈ X, v.natAbs < 2 ^ a
theorem gi_mem {X : List Int} {i : Int} (h1 : i.toNat < X.length) : gi X i ∈ X := by
  unfold gi
  rw [List.getD_eq_getElem?_getD, List.getElem?_eq_getElem h1]
  exact List.getElem_mem h1
abbrev rowV (r : List Int) : SV := .lst (iv r)
abbrev mv (A : List (List Int)) : SV := .lst (A.map rowV)
def gm (A : List (List Int)) (i : Nat) : List Int := A.getD i []
def timesF (n : Nat) (A B : List (List Int)) : List (List Int) := (List.range n).map fun (i : Nat) => (List.range n).map fun (j : Nat) => ((List.range n).map fun (k : Nat) => gi (gm A i) k * gi (gm B k) j).sum
theorem at_mv {A : List (List Int)} {i : Nat} (h : i < A.length) : itemAt (A.map rowV) (i : Int) = some (rowV (gm A i)) := by
  unfold itemAt L2.atI L2.ixN gm
  rw [List.length_map, if_pos (by omega), if_pos (by omega)]
  simp [h]
theorem at_iv' {X : List Int} {i : Nat} (h1 : i < X.length) : itemAt (iv X) (i : Int) = some (.int (gi X i)) := at_iv (by omega) (by omega)
theorem rng {n : Nat} : rangeOf 0 (n : Int) = (List.range n).map fun (k : Nat) => SV.int (k : Nat) := by
  unfold rangeOf
  simp
theorem small_nat {n : Nat} (hn : n ≤ 1000) : small62 (n : Int) = true := by
  unfold small62
  exact Nat.blt_eq.mpr (by omega)
/-- g of a number -/
def onNat (g : Nat → SV) : SV → SV
  | .int k => g k.toNat
  | v => v
theorem onNat_map (g : Nat → SV) (n : Nat) : (rangeOf 0 (n : Int)).map (onNat g) = (List.range n).map g := by
  rw [rng, List.map_map]
  refine List.map_congr_left fun k _ => ?_
  show g (Int.toNat (k : Int)) = g k
  rw [Int.toNat_natCast]
theorem ite_key (b : Bool) (A B : Res (List SV)) (hb : b = true) : (if b = true then A else B) = A := by rw [if_pos hb]
theorem range_ev {p : Pr} {it : CE} {env : SE} {h : SH} {n : Nat} (e : ev p it env h = .ok (.int (n : Nat)) h) (hn : n ≤ 1000) : evi p (.range1 it) env h = .ok (rangeOf 0 (n : Int)) h := by
  have q : evi p (.range1 it) env h = if small62 (n : Int) = true then Res.ok (rangeOf 0 (n : Int)) h else Res.bad := by
    rw [evi, e]
    rfl
  exact q.trans (ite_key _ _ _ (small_nat hn))
/-- what a comprehension over a range gives -/
theorem comp_rng {p : Pr} {c : Bool} {elt : CE} {i : Nat} {it : CE} {env : SE} {h : SH} {n : Nat} {own : List Nat} (g : Nat → SV) (e : ev p it env h = .ok (.int (n : Nat)) h) (hn : n ≤ 1000)
    (b : ∀ k, k < n → ev p elt ((wipeE env own).set i (some (.int (k : Nat)))) h = .ok (g k) h) : ev p (.comp c elt (.name i) (.range1 it) own) env h = mkL c ((List.range n).map g) h := by
  rw [← onNat_map g n]
  refine comp_ (onNat g) (range_ev e hn) ?_
  intro x hx
  rw [rng] at hx
  obtain ⟨k, hk, rfl⟩ := List.mem_map.mp hx
  refine ⟨(wipeE env own).set i (some (.int (k : Nat))), rfl, ?_⟩
  rw [b k (List.mem_range.mp hk)]
  show Res.ok (g k) h = .ok (g (Int.toNat (k : Int))) h
  rw [Int.toNat_natCast]
theorem mkL_small {n : Nat} {g : Nat → SV} {h : SH} (hn : n ≤ 1000) : mkL false ((List.range n).map g) h = .ok (.lst ((List.range n).map g)) h :=
  mkL_val (by have : seqLen = 16777216 := rfl; rw [List.length_map, List.length_range]; omega)
theorem dry_rows (M : List (List Int)) : dryL (M.map rowV) = true := by
  induction M with
  | nil => rfl
  | cons r M ih =>
    show (SV.dry (rowV r) && dryL (M.map rowV)) = true
    rw [ih]
    show (dryL (iv r) && true) = true
    rw [dry_iv]
    rfl
theorem law_times {hh : SH} {d n a b : Nat} {A B : List (List Int)} (hA : A.length = n) (hAr : ∀ r ∈ A, r.length = n) (hB : B.length = n) (hBr : ∀ r ∈ B, r.length = n) (hn : n ≤ 5) (ba : ∀ r ∈ A, Bd a r) (bb : ∀ r ∈ B, Bd b r) (ha : 0 < a) (hb : 0 < b) (hab : a + b ≤ 1000000) :
    callF tb (d + 1) 25 [mv A, mv B] hh = .ok (mv (timesF n A B)) hh := by
  have gA : ∀ i, i < n → gm A i ∈ A := by
    intro i hi
    unfold gm
    rw [List.getD_eq_getElem?_getD, List.getElem?_eq_getElem (by omega)]
    exact List.getElem_mem (by omega)
  have gB : ∀ i, i < n → gm B i ∈ B := by
    intro i hi
    unfold gm
    rw [List.getD_eq_getElem?_getD, List.getElem?_eq_getElem (by omega)]
    exact List.getElem_mem (by omega)
  have inner : ∀ i j, i < n → j < n → ev (prOf tb d) (.comp false (.bin .mul (.ix (.ix (.var 0) (.var 3)) (.var 5)) (.ix (.ix (.var 1) (.var 5)) (.var 4))) (.name 5) (.range1 (.var 2)) [5])
      [some (mv A), some (mv B), some (.int (n : Nat)), some (.int (i : Nat)), some (.int (j : Nat)), none] [] = .ok (.lst ((List.range n).map fun (k : Nat) => SV.int (gi (gm A i) k * gi (gm B k) j))) [] := by
    intro i j hi hj
    rw [comp_rng (n := n) (fun (k : Nat) => SV.int (gi (gm A i) k * gi (gm B k) j)) (by simp [ev]) (by omega), mkL_small (by omega)]
    intro k hk
    have a1 := at_mv (A := A) (i := i) (by omega)
    have a2 := at_iv' (X := gm A i) (i := k) (by rw [hAr _ (gA i hi)]; exact hk)
    have bX := at_mv (A := B) (i := k) (by omega)
    have b2 := at_iv' (X := gm B k) (i := j) (by rw [hBr _ (gB k hk)]; exact hj)
    have f := mf (ba _ (gA i hi) _ (gi_mem (X := gm A i) (i := (k : Int)) (by rw [hAr _ (gA i hi)]; simpa using hk))) (bb _ (gB k hk) _ (gi_mem (X := gm B k) (i := (j : Int)) (by rw [hBr _ (gB k hk)]; simpa using hj))) ha hb hab
    simp [ev, a1, a2, bX, b2, binop_mul f]
  have sums : ∀ i j, i < n → j < n → ev (prOf tb d) (.bi .sum (.cons (.comp false (.bin .mul (.ix (.ix (.var 0) (.var 3)) (.var 5)) (.ix (.ix (.var 1) (.var 5)) (.var 4))) (.name 5) (.range1 (.var 2)) [5]) .nil))
      [some (mv A), some (mv B), some (.int (n : Nat)), some (.int (i : Nat)), some (.int (j : Nat)), none] [] = .ok (.int ((List.range n).map fun (k : Nat) => gi (gm A i) k * gi (gm B k) j).sum) [] := by
    intro i j hi hj
    rw [ev, evs, inner i j hi hj]
    have sm : builtin [] .sum [.lst ((List.range n).map fun (k : Nat) => SV.int (gi (gm A i) k * gi (gm B k) j))] = some (.int ((List.range n).map fun (k : Nat) => gi (gm A i) k * gi (gm B k) j).sum) := by
      show ((intsOf ((List.range n).map fun (k : Nat) => SV.int (gi (gm A i) k * gi (gm B k) j))).map fun ns => SV.int ns.sum) = _
      rw [intsOf_map]
      rfl
    simp [evs, sm]
  have rows : ∀ i, i < n → ev (prOf tb d) (.comp false (.bi .sum (.cons (.comp false (.bin .mul (.ix (.ix (.var 0) (.var 3)) (.var 5)) (.ix (.ix (.var 1) (.var 5)) (.var 4))) (.name 5) (.range1 (.var 2)) [5]) .nil)) (.name 4) (.range1 (.var 2)) [4])
      [some (mv A), some (mv B), some (.int (n : Nat)), some (.int (i : Nat)), none, none] [] = .ok (.lst ((List.range n).map fun (j : Nat) => SV.int ((List.range n).map fun (k : Nat) => gi (gm A i) k * gi (gm B k) j).sum)) [] := by
    intro i hi
    rw [comp_rng (n := n) (fun (j : Nat) => SV.int ((List.range n).map fun (k : Nat) => gi (gm A i) k * gi (gm B k) j).sum) (by simp [ev]) (by omega), mkL_small (by omega)]
    intro j hj
    exact sums i j hi hj
  have all : ev (prOf tb d) (.comp false (.comp false (.bi .sum (.cons (.comp false (.bin .mul (.ix (.ix (.var 0) (.var 3)) (.var 5)) (.ix (.ix (.var 1) (.var 5)) (.var 4))) (.name 5) (.range1 (.var 2)) [5]) .nil)) (.name 4) (.range1 (.var 2)) [4]) (.name 3) (.range1 (.var 2)) [3])
      [some (mv A), some (mv B), some (.int (n : Nat)), none, none, none] [] = .ok (mv (timesF n A B)) [] := by
    rw [comp_rng (n := n) (fun (i : Nat) => .lst ((List.range n).map fun (j : Nat) => SV.int ((List.range n).map fun (k : Nat) => gi (gm A i) k * gi (gm B k) j).sum)) (by simp [ev]) (by omega), mkL_small (by omega)]
    · unfold timesF mv
      rw [List.map_map]
      congr 2
      refine List.map_congr_left fun i hi => ?_
      show SV.lst _ = SV.lst (iv _)
      unfold iv
      rw [List.map_map]
      rfl
    · intro i hi
      exact rows i hi
  refine call_ (F := f25) (h1 := []) rfl rfl (by simp [dryL, SV.dry, dry_rows]) rfl ?_ (fin_val rfl ?_)
  · show evSs (prOf tb d) b25 [some (mv A), some (mv B), none, none, none, none] [] = _
    unfold b25
    rw [nx_ (set_ (v := .int (n : Nat)) (h1 := []) (by simp [ev, evs, hA]))]
    exact rt_ (ret_ all)
  · show deepL 11 ((timesF n A B).map rowV) = true
    have : ∀ M : List (List Int), deepL 11 (M.map rowV) = true := by
      intro M
      induction M with
      | nil => rfl
      | cons r M ih =>
        show (SV.deep 11 (rowV r) && deepL 11 (M.map rowV)) = true
        rw [ih]
        show (deepL 10 (iv r) && true) = true
        rw [deep_iv]
        rfl
    exact this _
end K37
end

section
set_option Elab.async false
set_option linter.all false
set_option maxRecDepth 100000
set_option maxHeartbeats 0
set_option autoImplicit false
namespace K37
open PySem Ws
def mk (n : Nat) (f : Nat → Nat → Int) : List (List Int) := (List.range n).map fun i => (List.range n).map fun j => f i j

theorem lm0 (d : Nat) (x0 : Int) : callF tb (d + 3) 24 [.tup (iv [2]), .tup (iv [x0]), .int 1] [] = .ok (.lst [mv [[1, x0], [0, 1]]]) [] := by kernel_rfl
theorem le0 (d : Nat) (f0 : Nat → Nat → Int) : callF tb (d + 3) 26 [.tup (iv [2]), .lst [mv (mk 2 f0)]] [] = .ok (.tup (iv [f0 0 1])) [] := by kernel_rfl
theorem lq0 (x0 y0 : Int) : [(fun i j => ((List.range 2).map fun (k : Nat) => gi (gm [[1, x0], [0, 1]] i) k * gi (gm [[1, y0], [0, 1]] k) j).sum) 0 1] = prodF [x0] [y0] 0 [2] := by
  simp [List.range_succ, gi, gm, prodF, blockP, dotP, tbl]
  try grind
theorem lm1 (d : Nat) (x0 x1 x2 : Int) : callF tb (d + 3) 24 [.tup (iv [3]), .tup (iv [x0, x1, x2]), .int 1] [] = .ok (.lst [mv [[1, x0, x2], [0, 1, x1], [0, 0, 1]]]) [] := by kernel_rfl
theorem le1 (d : Nat) (f0 : Nat → Nat → Int) : callF tb (d + 3) 26 [.tup (iv [3]), .lst [mv (mk 3 f0)]] [] = .ok (.tup (iv [f0 0 1, f0 1 2, f0 0 2])) [] := by kernel_rfl
theorem lq1 (x0 x1 x2 y0 y1 y2 : Int) : [(fun i j => ((List.range 3).map fun (k : Nat) => gi (gm [[1, x0, x2], [0, 1, x1], [0, 0, 1]] i) k * gi (gm [[1, y0, y2], [0, 1, y1], [0, 0, 1]] k) j).sum) 0 1, (fun i j => ((List.range 3).map fun (k : Nat) => gi (gm [[1, x0, x2], [0, 1, x1], [0, 0, 1]] i) k * gi (gm [[1, y0, y2], [0, 1, y1], [0, 0, 1]] k) j).sum) 1 2, (fun i j => ((List.range 3).map fun (k : Nat) => gi (gm [[1, x0, x2], [0, 1, x1], [0, 0, 1]] i) k * gi (gm [[1, y0, y2], [0, 1, y1], [0, 0, 1]] k) j).sum) 0 2] = prodF [x0, x1, x2] [y0, y1, y2] 0 [3] := by
  simp [List.range_succ, gi, gm, prodF, blockP, dotP, tbl]
  try grind
theorem lm2 (d : Nat) (x0 x1 x2 x3 x4 x5 : Int) : callF tb (d + 3) 24 [.tup (iv [4]), .tup (iv [x0, x1, x2, x3, x4, x5]), .int 1] [] = .ok (.lst [mv [[1, x0, x3, x5], [0, 1, x1, x4], [0, 0, 1, x2], [0, 0, 0, 1]]]) [] := by kernel_rfl
theorem le2 (d : Nat) (f0 : Nat → Nat → Int) : callF tb (d + 3) 26 [.tup (iv [4]), .lst [mv (mk 4 f0)]] [] = .ok (.tup (iv [f0 0 1, f0 1 2, f0 2 3, f0 0 2, f0 1 3, f0 0 3])) [] := by kernel_rfl
theorem lq2 (x0 x1 x2 x3 x4 x5 y0 y1 y2 y3 y4 y5 : Int) : [(fun i j => ((List.range 4).map fun (k : Nat) => gi (gm [[1, x0, x3, x5], [0, 1, x1, x4], [0, 0, 1, x2], [0, 0, 0, 1]] i) k * gi (gm [[1, y0, y3, y5], [0, 1, y1, y4], [0, 0, 1, y2], [0, 0, 0, 1]] k) j).sum) 0 1, (fun i j => ((List.range 4).map fun (k : Nat) => gi (gm [[1, x0, x3, x5], [0, 1, x1, x4], [0, 0, 1, x2], [0, 0, 0, 1]] i) k * gi (gm [[1, y0, y3, y5], [0, 1, y1, y4], [0, 0, 1, y2], [0, 0, 0, 1]] k) j).sum) 1 2, (fun i j => ((List.range 4).map fun (k : Nat) => gi (gm [[1, x0, x3, x5], [0, 1, x1, x4], [0, 0, 1, x2], [0, 0, 0, 1]] i) k * gi (gm [[1, y0, y3, y5], [0, 1, y1, y4], [0, 0, 1, y2], [0, 0, 0, 1]] k) j).sum) 2 3, (fun i j => ((List.range 4).map fun (k : Nat) => gi (gm [[1, x0, x3, x5], [0, 1, x1, x4], [0, 0, 1, x2], [0, 0, 0, 1]] i) k * gi (gm [[1, y0, y3, y5], [0, 1, y1, y4], [0, 0, 1, y2], [0, 0, 0, 1]] k) j).sum) 0 2, (fun i j => ((List.range 4).map fun (k : Nat) => gi (gm [[1, x0, x3, x5], [0, 1, x1, x4], [0, 0, 1, x2], [0, 0, 0, 1]] i) k * gi (gm [[1, y0, y3, y5], [0, 1, y1, y4], [0, 0, 1, y2], [0, 0, 0, 1]] k) j).sum) 1 3, (fun i j => ((List.range 4).map fun (k : Nat) => gi (gm [[1, x0, x3, x5], [0, 1, x1, x4], [0, 0, 1, x2], [0, 0, 0, 1]] i) k * gi (gm [[1, y0, y3, y5], [0, 1, y1, y4], [0, 0, 1, y2], [0, 0, 0, 1]] k) j).sum) 0 3] = prodF [x0, x1, x2, x3, x4, x5] [y0, y1, y2, y3, y4, y5] 0 [4] := by
  simp [List.range_succ, gi, gm, prodF, blockP, dotP, tbl]
  try grind
theorem lm3 (d : Nat) (x0 x1 x2 x3 x4 x5 x6 x7 x8 x9 : Int) : callF tb (d + 3) 24 [.tup (iv [5]), .tup (iv [x0, x1, x2, x3, x4, x5, x6, x7, x8, x9]), .int 1] [] = .ok (.lst [mv [[1, x0, x4, x7, x9], [0, 1, x1, x5, x8], [0, 0, 1, x2, x6], [0, 0, 0, 1, x3], [0, 0, 0, 0, 1]]]) [] := by kernel_rfl
theorem le3 (d : Nat) (f0 : Nat → Nat → Int) : callF tb (d + 3) 26 [.tup (iv [5]), .lst [mv (mk 5 f0)]] [] = .ok (.tup (iv [f0 0 1, f0 1 2, f0 2 3, f0 3 4, f0 0 2, f0 1 3, f0 2 4, f0 0 3, f0 1 4, f0 0 4])) [] := by kernel_rfl
theorem lq3 (x0 x1 x2 x3 x4 x5 x6 x7 x8 x9 y0 y1 y2 y3 y4 y5 y6 y7 y8 y9 : Int) : [(fun i j => ((List.range 5).map fun (k : Nat) => gi (gm [[1, x0, x4, x7, x9], [0, 1, x1, x5, x8], [0, 0, 1, x2, x6], [0, 0, 0, 1, x3], [0, 0, 0, 0, 1]] i) k * gi (gm [[1, y0, y4, y7, y9], [0, 1, y1, y5, y8], [0, 0, 1, y2, y6], [0, 0, 0, 1, y3], [0, 0, 0, 0, 1]] k) j).sum) 0 1, (fun i j => ((List.range 5).map fun (k : Nat) => gi (gm [[1, x0, x4, x7, x9], [0, 1, x1, x5, x8], [0, 0, 1, x2, x6], [0, 0, 0, 1, x3], [0, 0, 0, 0, 1]] i) k * gi (gm [[1, y0, y4, y7, y9], [0, 1, y1, y5, y8], [0, 0, 1, y2, y6], [0, 0, 0, 1, y3], [0, 0, 0, 0, 1]] k) j).sum) 1 2, (fun i j => ((List.range 5).map fun (k : Nat) => gi (gm [[1, x0, x4, x7, x9], [0, 1, x1, x5, x8], [0, 0, 1, x2, x6], [0, 0, 0, 1, x3], [0, 0, 0, 0, 1]] i) k * gi (gm [[1, y0, y4, y7, y9], [0, 1, y1, y5, y8], [0, 0, 1, y2, y6], [0, 0, 0, 1, y3], [0, 0, 0, 0, 1]] k) j).sum) 2 3, (fun i j => ((List.range 5).map fun (k : Nat) => gi (gm [[1, x0, x4, x7, x9], [0, 1, x1, x5, x8], [0, 0, 1, x2, x6], [0, 0, 0, 1, x3], [0, 0, 0, 0, 1]] i) k * gi (gm [[1, y0, y4, y7, y9], [0, 1, y1, y5, y8], [0, 0, 1, y2, y6], [0, 0, 0, 1, y3], [0, 0, 0, 0, 1]] k) j).sum) 3 4, (fun i j => ((List.range 5).map fun (k : Nat) => gi (gm [[1, x0, x4, x7, x9], [0, 1, x1, x5, x8], [0, 0, 1, x2, x6], [0, 0, 0, 1, x3], [0, 0, 0, 0, 1]] i) k * gi (gm [[1, y0, y4, y7, y9], [0, 1, y1, y5, y8], [0, 0, 1, y2, y6], [0, 0, 0, 1, y3], [0, 0, 0, 0, 1]] k) j).sum) 0 2, (fun i j => ((List.range 5).map fun (k : Nat) => gi (gm [[1, x0, x4, x7, x9], [0, 1, x1, x5, x8], [0, 0, 1, x2, x6], [0, 0, 0, 1, x3], [0, 0, 0, 0, 1]] i) k * gi (gm [[1, y0, y4, y7, y9], [0, 1, y1, y5, y8], [0, 0, 1, y2, y6], [0, 0, 0, 1, y3], [0, 0, 0, 0, 1]] k) j).sum) 1 3, (fun i j => ((List.range 5).map fun (k : Nat) => gi (gm [[1, x0, x4, x7, x9], [0, 1, x1, x5, x8], [0, 0, 1, x2, x6], [0, 0, 0, 1, x3], [0, 0, 0, 0, 1]] i) k * gi (gm [[1, y0, y4, y7, y9], [0, 1, y1, y5, y8], [0, 0, 1, y2, y6], [0, 0, 0, 1, y3], [0, 0, 0, 0, 1]] k) j).sum) 2 4, (fun i j => ((List.range 5).map fun (k : Nat) => gi (gm [[1, x0, x4, x7, x9], [0, 1, x1, x5, x8], [0, 0, 1, x2, x6], [0, 0, 0, 1, x3], [0, 0, 0, 0, 1]] i) k * gi (gm [[1, y0, y4, y7, y9], [0, 1, y1, y5, y8], [0, 0, 1, y2, y6], [0, 0, 0, 1, y3], [0, 0, 0, 0, 1]] k) j).sum) 0 3, (fun i j => ((List.range 5).map fun (k : Nat) => gi (gm [[1, x0, x4, x7, x9], [0, 1, x1, x5, x8], [0, 0, 1, x2, x6], [0, 0, 0, 1, x3], [0, 0, 0, 0, 1]] i) k * gi (gm [[1, y0, y4, y7, y9], [0, 1, y1, y5, y8], [0, 0, 1, y2, y6], [0, 0, 0, 1, y3], [0, 0, 0, 0, 1]] k) j).sum) 1 4, (fun i j => ((List.range 5).map fun (k : Nat) => gi (gm [[1, x0, x4, x7, x9], [0, 1, x1, x5, x8], [0, 0, 1, x2, x6], [0, 0, 0, 1, x3], [0, 0, 0, 0, 1]] i) k * gi (gm [[1, y0, y4, y7, y9], [0, 1, y1, y5, y8], [0, 0, 1, y2, y6], [0, 0, 0, 1, y3], [0, 0, 0, 0, 1]] k) j).sum) 0 4] = prodF [x0, x1, x2, x3, x4, x5, x6, x7, x8, x9] [y0, y1, y2, y3, y4, y5, y6, y7, y8, y9] 0 [5] := by
  simp [List.range_succ, gi, gm, prodF, blockP, dotP, tbl]
  try grind
end K37
end

section
set_option Elab.async false
set_option linter.all false
set_option maxRecDepth 100000
set_option maxHeartbeats 0
set_option autoImplicit false
namespace K37
open PySem Ws

/-! ### sizes of the numbers -/
theorem gi_bd {a : Nat} {X : List Int} (h : Bd a X) (i : Int) : (gi X i).natAbs < 2 ^ a := by
  by_cases hi : i.toNat < X.length
  · exact h _ (gi_mem hi)
  · unfold gi
    rw [List.getD_eq_getElem?_getD, List.getElem?_eq_none (by omega)]
    exact Nat.pow_pos (by decide)
theorem Bd.mono {a b : Nat} {X : List Int} (h : Bd a X) (hab : a ≤ b) : Bd b X := fun v hv => Nat.lt_of_lt_of_le (h v hv) (Nat.pow_le_pow_right (by decide) hab)
theorem Bd.app {a : Nat} {X Y : List Int} (h : Bd a X) (k : Bd a Y) : Bd a (X ++ Y) := fun v hv => (List.mem_append.mp hv).elim (h v) (k v)
theorem Bd.nil {a : Nat} : Bd a [] := fun _ h => absurd h List.not_mem_nil
theorem mul_bd {i j : Int} {a b : Nat} (ha : i.natAbs < 2 ^ a) (hb : j.natAbs < 2 ^ b) : (i * j).natAbs ≤ 2 ^ (a + b) := by
  rw [Int.natAbs_mul, Nat.pow_add]
  exact Nat.mul_le_mul (Nat.le_of_lt ha) (Nat.le_of_lt hb)
theorem dotP_bd {a b : Nat} {X Y : List Int} (hx : Bd a X) (hy : Bd b Y) {s : Int} : ∀ (ps : List (Int × Int)) (t : Int), (dotP X Y s ps t).natAbs ≤ t.natAbs + ps.length * 2 ^ (a + b)
  | [], t => by simp [dotP]
  | p :: ps, t => by
    have ih := dotP_bd hx hy (s := s) ps (t + gi X (s + p.1) * gi Y (s + p.2))
    have m := mul_bd (gi_bd hx (s + p.1)) (gi_bd hy (s + p.2))
    have l : (t + gi X (s + p.1) * gi Y (s + p.2)).natAbs ≤ t.natAbs + (gi X (s + p.1) * gi Y (s + p.2)).natAbs := Int.natAbs_add_le _ _
    rw [dotP, List.length_cons, Nat.add_mul, Nat.one_mul]
    omega
/-- what holds of the pairs of a table -/
theorem tbl_ok {n : Int} (hn : Size n) : ∀ ps ∈ tbl n, ps.length ≤ 3 ∧ ∀ q ∈ ps, (0 ≤ q.1 ∧ q.1 < (tbl n).length) ∧ (0 ≤ q.2 ∧ q.2 < (tbl n).length) := by
  rcases hn with rfl | rfl | rfl | rfl <;> decide
theorem pow_ge {a b : Nat} : 2 ^ a ≤ 2 ^ (a + b) := Nat.pow_le_pow_right (by decide) (by omega)
theorem pow_ge' {a b : Nat} : 2 ^ b ≤ 2 ^ (a + b) := Nat.pow_le_pow_right (by decide) (by omega)
theorem blockP_bd {a b : Nat} {X Y : List Int} (hx : Bd a X) (hy : Bd b Y) {s : Int} : ∀ (t : List (List (Int × Int))) (k : Int), (∀ ps ∈ t, ps.length ≤ 3) → Bd (a + b + 3) (blockP X Y s k t)
  | [], _, _ => Bd.nil
  | ps :: t, k, h => by
    intro v hv
    rcases List.mem_cons.mp hv with rfl | hv
    · have d := dotP_bd hx hy (s := s) ps (gi X (s + k) + gi Y (s + k))
      have l := Int.natAbs_add_le (gi X (s + k)) (gi Y (s + k))
      have x1 := gi_bd hx (s + k)
      have y1 := gi_bd hy (s + k)
      have p1 : 2 ^ a ≤ 2 ^ (a + b) := pow_ge
      have p2 : 2 ^ b ≤ 2 ^ (a + b) := pow_ge'
      have m : ps.length * 2 ^ (a + b) ≤ 3 * 2 ^ (a + b) := Nat.mul_le_mul_right _ (h ps List.mem_cons_self)
      have e : 2 ^ (a + b + 3) = 8 * 2 ^ (a + b) := by rw [Nat.pow_add]; omega
      have z : 0 < 2 ^ (a + b) := Nat.pow_pos (by decide)
      omega
    · exact blockP_bd hx hy t (k + 1) (fun q hq => h q (List.mem_cons_of_mem _ hq)) v hv
def Sizes (ns : List Int) : Prop := ∀ n ∈ ns, Size n
def wid : List Int → Nat
  | [] => 0
  | n :: r => (tbl n).length + wid r
theorem prodF_len {X Y : List Int} : ∀ (ns : List Int) (s : Int), (prodF X Y s ns).length = wid ns
  | [], _ => rfl
  | n :: r, s => by rw [prodF, List.length_append, blockP_len, prodF_len r, wid]
theorem prodF_bd {a b : Nat} {X Y : List Int} (hx : Bd a X) (hy : Bd b Y) : ∀ (ns : List Int) (s : Int), Sizes ns → Bd (a + b + 3) (prodF X Y s ns)
  | [], _, _ => Bd.nil
  | n :: r, s, h => (blockP_bd hx hy _ _ fun ps hp => (tbl_ok (h n List.mem_cons_self) ps hp).1).app (prodF_bd hx hy r _ fun m hm => h m (List.mem_cons_of_mem _ hm))
theorem pairOk_of {a b : Nat} {X Y : List Int} (hx : Bd a X) (hy : Bd b Y) (ha : 0 < a) (hb : 0 < b) (hab : a + b ≤ 1000000) {s : Int} {w : Nat} {q : Int × Int} (hs : 0 ≤ s) (q1 : 0 ≤ q.1 ∧ q.1 < w) (q2 : 0 ≤ q.2 ∧ q.2 < w)
    (lx : s + w ≤ X.length) (ly : s + w ≤ Y.length) : PairOk X Y s q := ⟨by omega, by omega, mf (gi_bd hx _) (gi_bd hy _) ha hb hab⟩
theorem spOk_of {a b : Nat} {X Y : List Int} (hx : Bd a X) (hy : Bd b Y) (ha : 0 < a) (hb : 0 < b) (hab : a + b ≤ 1000000) : ∀ (ns : List Int) (s : Int), Sizes ns → 0 ≤ s → s + wid ns ≤ X.length → s + wid ns ≤ Y.length → SpOk X Y s ns
  | [], _, _, _, _, _ => trivial
  | n :: r, s, h, h0, lx, ly => by
    rw [wid] at lx ly
    push_cast at lx ly
    refine ⟨h n List.mem_cons_self, ?_, by omega, by omega, spOk_of hx hy ha hb hab r _ (fun m hm => h m (List.mem_cons_of_mem _ hm)) (by omega) (by omega) (by omega)⟩
    intro ps hp q hq
    have t := (tbl_ok (h n List.mem_cons_self) ps hp).2 q hq
    exact pairOk_of hx hy ha hb hab h0 t.1 t.2 (by omega) (by omega)
/-- the pairs look back -/
def Back (w : Nat) : Nat → List (List (Int × Int)) → Prop
  | _, [] => True
  | k, ps :: t => (ps.length ≤ 3 ∧ ∀ q ∈ ps, (0 ≤ q.1 ∧ q.1 < w) ∧ (0 ≤ q.2 ∧ q.2 < k)) ∧ Back w (k + 1) t
theorem tbl_back {n : Int} (hn : Size n) : Back (tbl n).length 0 (tbl n) := by
  rcases hn with rfl | rfl | rfl | rfl <;> simp [Back, tbl]
/-- bits after a number of places -/
def inb (a k : Nat) : Nat := (k + 1) * (a + 3)
theorem inb_le {a k m : Nat} (h : k ≤ m) : inb a k ≤ inb a m := Nat.mul_le_mul_right _ (by omega)
theorem inv_entry {a k : Nat} {X es : List Int} {s j : Int} {ps : List (Int × Int)} (hx : Bd a X) (he : Bd (inb a k) es) (h3 : ps.length ≤ 3) : (-(dotP X es s ps (gi X j))).natAbs < 2 ^ inb a (k + 1) := by
  have d := dotP_bd hx he (s := s) ps (gi X j)
  have x1 := gi_bd hx j
  have p1 : 2 ^ a ≤ 2 ^ (a + inb a k) := pow_ge
  have m : ps.length * 2 ^ (a + inb a k) ≤ 3 * 2 ^ (a + inb a k) := Nat.mul_le_mul_right _ h3
  have e : 2 ^ inb a (k + 1) = 8 * 2 ^ (a + inb a k) := by
    have : inb a (k + 1) = (a + inb a k) + 3 := by unfold inb; rw [Nat.add_mul (k + 1) 1, Nat.one_mul]; omega
    rw [this, Nat.pow_add]
    omega
  have z : 0 < 2 ^ (a + inb a k) := Nat.pow_pos (by decide)
  rw [Int.natAbs_neg]
  omega
theorem invB_ok {a : Nat} {X : List Int} {s w : Nat} (hx : Bd a X) (ha : 0 < a) (lw : s + w ≤ X.length) : ∀ (t : List (List (Int × Int))) (k : Nat) (es : List Int), Back w k t → es.length = s + k → Bd (inb a (s + k)) es → a + inb a (s + k + t.length) ≤ 1000000 →
    InvOk X s k t es ∧ Bd (inb a (s + k + t.length)) (invB X s k t es)
  | [], k, es, _, _, be, _ => ⟨trivial, by simpa [invB] using be⟩
  | ps :: t, k, es, ⟨⟨h3, hq⟩, bk⟩, le, be, hb => by
    rw [List.length_cons] at hb
    have hm : inb a (s + k) ≤ inb a (s + k + (t.length + 1)) := inb_le (by omega)
    have h0 : 0 < inb a (s + k) := by unfold inb; exact Nat.mul_pos (by omega) (by omega)
    have be2 : Bd (inb a (s + (k + 1))) (es ++ [-(dotP X es s ps (gi X (s + k)))]) := by
      refine (be.mono (inb_le (by omega))).app ?_
      intro v hv
      rw [List.mem_singleton.mp hv]
      exact inv_entry hx be h3
    have e0 : s + (k + 1) + t.length = s + k + (t.length + 1) := by omega
    have ih := invB_ok hx ha lw t (k + 1) _ bk (by simp; omega) be2 (by rw [e0]; exact hb)
    have e2 : s + (k + 1) + t.length = s + k + (ps :: t).length := by simp; omega
    rw [e2] at ih
    have e3 : ((k + 1 : Nat) : Int) = (k : Int) + 1 := by omega
    rw [e3] at ih
    refine ⟨⟨?_, ih.1⟩, ih.2⟩
    intro q hq'
    have t1 := hq q hq'
    exact ⟨by omega, by omega, mf (gi_bd hx _) (gi_bd be _) ha h0 (by omega)⟩
theorem invF_ok {a : Nat} {X : List Int} (hx : Bd a X) (ha : 0 < a) : ∀ (ns : List Int) (s : Nat) (es : List Int), Sizes ns → es.length = s → s + wid ns ≤ X.length → Bd (inb a s) es → a + inb a (s + wid ns) ≤ 1000000 →
    InvsOk X s ns es ∧ Bd (inb a (s + wid ns)) (invF X s ns es) ∧ (invF X s ns es).length = s + wid ns
  | [], s, es, _, le, _, be, _ => ⟨trivial, be, le⟩
  | n :: r, s, es, h, le, lx, be, hb => by
    have sz := h n List.mem_cons_self
    rw [wid] at lx hb
    have e1 : s + ((tbl n).length + wid r) = s + (tbl n).length + wid r := by omega
    have hm : inb a (s + (tbl n).length) ≤ inb a (s + (tbl n).length + wid r) := inb_le (by omega)
    rw [e1] at hb
    have b := invB_ok hx ha (s := s) (w := (tbl n).length) (by omega) (tbl n) 0 es (tbl_back sz) (by omega) be (by simpa using Nat.le_trans (Nat.add_le_add_left hm a) hb)
    have ih := invF_ok hx ha r (s + (tbl n).length) (invB X s 0 (tbl n) es) (fun m hm => h m (List.mem_cons_of_mem _ hm)) (by rw [invB_len]; omega) (by omega) b.2 hb
    rw [wid, e1]
    have e3 : ((s + (tbl n).length : Nat) : Int) = (s : Int) + ((tbl n).length : Int) := by omega
    rw [e3] at ih
    exact ⟨⟨sz, b.1, by omega, ih.1⟩, ih.2⟩
end K37
end

section
set_option Elab.async false
set_option linter.all false
set_option maxRecDepth 100000
set_option maxHeartbeats 0
set_option autoImplicit false
namespace K37
open PySem Ws

/-! ### _law_product, of the matrices -/
theorem compA_ {p : Pr} {env : SE} {h h1 : SH} {α : Type} {c : Bool} {elt : CE} {t : CT} {it : CI} {own : List Nat} {ps : List α} (f g : α → SV) (e : evi p it env h = .ok (ps.map f) h1) (b : ∀ x ∈ ps, ∃ env2, store t (f x) (wipeE env own) = some env2 ∧ ev p elt env2 h1 = .ok (g x) h1) :
    ev p (.comp c elt t it own) env h = mkL c (ps.map g) h1 := by
  rw [ev, e]
  simp only [Res.bind_ok]
  have go : ∀ ys : List α, (∀ x ∈ ys, ∃ env2, store t (f x) (wipeE env own) = some env2 ∧ ev p elt env2 h1 = .ok (g x) h1) → compF (fun x h => match store t x (wipeE env own) with
    | none => .bad
    | some env2 => (ev p elt env2 h).bind fun y h => .ok (some y) h) (ys.map f) h1 = .ok (ys.map g) h1 := by
    intro ys
    induction ys with
    | nil => intro _; rfl
    | cons y ys ih =>
      intro hy
      obtain ⟨env2, e1, e2⟩ := hy y List.mem_cons_self
      rw [List.map_cons, compF, e1]
      simp only [e2, Res.bind_ok]
      rw [ih fun x hx => hy x (List.mem_cons_of_mem _ hx)]
      rfl
  exact congrArg (fun r => Res.bind r fun r h => mkL c r h) (go ps b)
/-- a square matrix of numbers -/
def Sq (a : Nat) (A : List (List Int)) : Prop := A.length ≤ 5 ∧ (∀ r ∈ A, r.length = A.length) ∧ ∀ r ∈ A, Bd a r
theorem zip_mv : ∀ MX MY : List (List (List Int)), zip2Of (MX.map mv) (MY.map mv) = (MX.zip MY).map fun p => SV.tup [mv p.1, mv p.2]
  | [], _ => rfl
  | _ :: _, [] => rfl
  | A :: MX, B :: MY => by
    show SV.tup [mv A, mv B] :: zip2Of (MX.map mv) (MY.map mv) = _
    rw [zip_mv MX MY]
    rfl
theorem law_product_of {d a b : Nat} {hh : SH} {ns X Y R : List Int} {MX MY : List (List (List Int))}
    (lx : ∀ d, callF tb (d + 3) 24 [.tup (iv ns), .tup (iv X), .int 1] [] = .ok (.lst (MX.map mv)) [])
    (ly : ∀ d, callF tb (d + 3) 24 [.tup (iv ns), .tup (iv Y), .int 1] [] = .ok (.lst (MY.map mv)) [])
    (ok : ∀ p ∈ MX.zip MY, Sq a p.1 ∧ Sq b p.2 ∧ p.2.length = p.1.length) (hl : MX.length ≤ 3)
    (ha : 0 < a) (hb : 0 < b) (hab : a + b ≤ 1000000)
    (le : ∀ d, callF tb (d + 3) 26 [.tup (iv ns), .lst ((MX.zip MY).map fun p => mv (timesF p.1.length p.1 p.2))] [] = .ok (.tup (iv R)) []) :
    callF tb (d + 4) 27 [.tup (iv ns), .tup (iv X), .tup (iv Y)] hh = .ok (.tup (iv R)) hh := by
  refine call_ (F := f27) (h1 := []) rfl rfl (by simp [dryL, SV.dry, dry_iv]) rfl ?_ (fin_val rfl deep_tup_iv)
  show evSs (prOf tb (d + 3)) b27 [some (.tup (iv ns)), some (.tup (iv X)), some (.tup (iv Y)), none, none, none, none] [] = _
  have p1 : evS (prOf tb (d + 3)) (.par 3 4 (.call 24 [0, 1, 2] (.cons (.var 0) (.cons (.var 1) (.cons (.int (1)) .nil))) .nil) (.call 24 [0, 1, 2] (.cons (.var 0) (.cons (.var 2) (.cons (.int (1)) .nil))) .nil))
      [some (.tup (iv ns)), some (.tup (iv X)), some (.tup (iv Y)), none, none, none, none] [] =
      .nx [some (.tup (iv ns)), some (.tup (iv X)), some (.tup (iv Y)), some (.lst (MX.map mv)), some (.lst (MY.map mv)), none, none] [] := by
    have c1 : (prOf tb (d + 3)).call 24 [.tup (iv ns), .tup (iv X), .int 1] [] = .ok (.lst (MX.map mv)) [] := lx d
    have c2 : (prOf tb (d + 3)).call 24 [.tup (iv ns), .tup (iv Y), .int 1] [] = .ok (.lst (MY.map mv)) [] := ly d
    have q1 : permute [0, 1, 2] ([SV.tup (iv ns), .tup (iv X), .int 1] ++ ([] ++ (prOf tb (d + 3)).dfl 24)) = [SV.tup (iv ns), .tup (iv X), .int 1] := rfl
    have q2 : permute [0, 1, 2] ([SV.tup (iv ns), .tup (iv Y), .int 1] ++ ([] ++ (prOf tb (d + 3)).dfl 24)) = [SV.tup (iv ns), .tup (iv Y), .int 1] := rfl
    simp only [evS, ev, evs, look_zero, look_succ, Res.bind_ok, ofO, q1, q2, c1, c2, Out.of, List.set]
  unfold b27
  rw [nx_ p1]
  refine rt_ (ret_ ?_)
  have cp : ev (prOf tb (d + 3)) (.comp false (.call 25 [0, 1] (.cons (.var 5) (.cons (.var 6) .nil)) .nil) (.pair (.name 5) (.name 6)) (.zip2 (.var 3) (.var 4)) [5, 6])
      [some (.tup (iv ns)), some (.tup (iv X)), some (.tup (iv Y)), some (.lst (MX.map mv)), some (.lst (MY.map mv)), none, none] [] =
      .ok (.lst ((MX.zip MY).map fun p => mv (timesF p.1.length p.1 p.2))) [] := by
    rw [compA_ (ps := MX.zip MY) (fun p => SV.tup [mv p.1, mv p.2]) (fun p => mv (timesF p.1.length p.1 p.2)) (h1 := []) (by simp [evi, ev, zip_mv])]
    · refine mkL_val ?_
      rw [List.length_map, List.length_zip]
      have : seqLen = 16777216 := rfl
      omega
    · intro p hp
      obtain ⟨⟨a1, a2, a3⟩, ⟨bX, b2, bX⟩, e⟩ := ok p hp
      refine ⟨[some (.tup (iv ns)), some (.tup (iv X)), some (.tup (iv Y)), some (.lst (MX.map mv)), some (.lst (MY.map mv)), some (mv p.1), some (mv p.2)], by simp, ?_⟩
      have c : (prOf tb (d + 3)).call 25 [mv p.1, mv p.2] [] = .ok (mv (timesF p.1.length p.1 p.2)) [] :=
        law_times (d := d + 2) rfl a2 e (fun r hr => (b2 r hr).trans e) a1 a3 bX ha hb hab
      have q1 : permute [0, 1] ([mv p.1, mv p.2] ++ ([] ++ (prOf tb (d + 3)).dfl 25)) = [mv p.1, mv p.2] := rfl
      simp only [ev, evs, look_zero, look_succ, Res.bind_ok, ofO, q1, c]
  have c3 : (prOf tb (d + 3)).call 26 [.tup (iv ns), .lst ((MX.zip MY).map fun p => mv (timesF p.1.length p.1 p.2))] [] = .ok (.tup (iv R)) [] := le d
  have q3 : ∀ L : SV, permute [0, 1] ([SV.tup (iv ns), L] ++ ([] ++ (prOf tb (d + 3)).dfl 26)) = [SV.tup (iv ns), L] := fun _ => rfl
  have es : evs (prOf tb (d + 3)) (.cons (.var 0) (.cons (.comp false (.call 25 [0, 1] (.cons (.var 5) (.cons (.var 6) .nil)) .nil) (.pair (.name 5) (.name 6)) (.zip2 (.var 3) (.var 4)) [5, 6]) .nil))
      [some (.tup (iv ns)), some (.tup (iv X)), some (.tup (iv Y)), some (.lst (MX.map mv)), some (.lst (MY.map mv)), none, none] [] =
      .ok [.tup (iv ns), .lst ((MX.zip MY).map fun p => mv (timesF p.1.length p.1 p.2))] [] := by
    have hv : ev (prOf tb (d + 3)) (.var 0) [some (.tup (iv ns)), some (.tup (iv X)), some (.tup (iv Y)), some (.lst (MX.map mv)), some (.lst (MY.map mv)), none, none] [] = .ok (.tup (iv ns)) [] := by rfl
    simp only [evs, hv, Res.bind_ok, cp]
  rw [ev, es]
  simp only [evs, Res.bind_ok]
  exact (congrArg (fun l => (prOf tb (d + 3)).call 26 l []) (q3 _)).trans c3
end K37
end

section
set_option Elab.async false
set_option linter.all false
set_option maxRecDepth 100000
set_option maxHeartbeats 0
set_option autoImplicit false
namespace K37
open PySem Ws
def zer (n : Nat) : List Int := List.replicate n 0

theorem lp0 {d a b : Nat} {hh : SH} {X Y : List Int} (hX : X.length = 1) (hY : Y.length = 1) (hx : Bd a X) (hy : Bd b Y) (ha : 0 < a) (hb : 0 < b) (hab : a + b ≤ 1000000) :
    callF tb (d + 4) 27 [.tup (iv [2]), .tup (iv X), .tup (iv Y)] hh = .ok (.tup (iv (prodF X Y 0 [2]))) hh :=
  match X, Y, hX, hY, hx, hy with
  | [x0], [y0], _, _, hx, hy => by
    have o1 : (1 : Nat) < 2 ^ a := Nat.one_lt_two_pow (by omega)
    have o2 : (1 : Nat) < 2 ^ b := Nat.one_lt_two_pow (by omega)
    have z1 : (0 : Nat) < 2 ^ a := by omega
    have z2 : (0 : Nat) < 2 ^ b := by omega
    simp only [Bd, List.mem_cons, List.not_mem_nil, or_false, forall_eq_or_imp, forall_eq] at hx hy
    rw [← lq0]
    refine law_product_of (MX := [[[1, x0], [0, 1]]]) (MY := [[[1, y0], [0, 1]]]) (fun d => lm0 d x0) (fun d => lm0 d y0) ?_ (by simp) ha hb hab (fun d => le0 d (fun i j => ((List.range 2).map fun (k : Nat) => gi (gm [[1, x0], [0, 1]] i) k * gi (gm [[1, y0], [0, 1]] k) j).sum))
    simp [Sq, Bd, hx, hy, o1, o2, z1, z2]
theorem ga0 {X Y Z : List Int} (hX : X.length = 1) (hY : Y.length = 1) (hZ : Z.length = 1) : prodF (prodF X Y 0 [2]) Z 0 [2] = prodF X (prodF Y Z 0 [2]) 0 [2] :=
  match X, Y, Z, hX, hY, hZ with
  | [x0], [y0], [z0], _, _, _ => by
    simp [gi, prodF, blockP, dotP, tbl]
    try grind
theorem gz0 {X : List Int} (hX : X.length = 1) : prodF (zer 1) X 0 [2] = X ∧ prodF X (zer 1) 0 [2] = X :=
  match X, hX with
  | [x0], _ => by
    simp [gi, prodF, blockP, dotP, tbl, zer, List.replicate]
theorem gv0 {X : List Int} (hX : X.length = 1) : prodF X (invF X 0 [2] []) 0 [2] = zer 1 ∧ prodF (invF X 0 [2] []) X 0 [2] = zer 1 :=
  match X, hX with
  | [x0], _ => by
    simp [gi, prodF, blockP, dotP, tbl, zer, List.replicate, invF, invB]
    try grind
theorem go0 {X I : List Int} (hX : X.length = 1) (hI : I.length = 1) (h : prodF X I 0 [2] = zer 1) : ∀ j, j < 1 → -(gi (prodF X (I.take j ++ zer (1 - j)) 0 [2]) j) = gi I j :=
  match X, I, hX, hI, h with
  | [x0], [i0], _, _, h => by
    simp [gi, prodF, blockP, dotP, tbl, zer, List.replicate] at h
    intro j hj
    match j, hj with
    | 0, _ => simp [gi, prodF, blockP, dotP, tbl, zer, List.replicate]; try omega
theorem lp1 {d a b : Nat} {hh : SH} {X Y : List Int} (hX : X.length = 3) (hY : Y.length = 3) (hx : Bd a X) (hy : Bd b Y) (ha : 0 < a) (hb : 0 < b) (hab : a + b ≤ 1000000) :
    callF tb (d + 4) 27 [.tup (iv [3]), .tup (iv X), .tup (iv Y)] hh = .ok (.tup (iv (prodF X Y 0 [3]))) hh :=
  match X, Y, hX, hY, hx, hy with
  | [x0, x1, x2], [y0, y1, y2], _, _, hx, hy => by
    have o1 : (1 : Nat) < 2 ^ a := Nat.one_lt_two_pow (by omega)
    have o2 : (1 : Nat) < 2 ^ b := Nat.one_lt_two_pow (by omega)
    have z1 : (0 : Nat) < 2 ^ a := by omega
    have z2 : (0 : Nat) < 2 ^ b := by omega
    simp only [Bd, List.mem_cons, List.not_mem_nil, or_false, forall_eq_or_imp, forall_eq] at hx hy
    rw [← lq1]
    refine law_product_of (MX := [[[1, x0, x2], [0, 1, x1], [0, 0, 1]]]) (MY := [[[1, y0, y2], [0, 1, y1], [0, 0, 1]]]) (fun d => lm1 d x0 x1 x2) (fun d => lm1 d y0 y1 y2) ?_ (by simp) ha hb hab (fun d => le1 d (fun i j => ((List.range 3).map fun (k : Nat) => gi (gm [[1, x0, x2], [0, 1, x1], [0, 0, 1]] i) k * gi (gm [[1, y0, y2], [0, 1, y1], [0, 0, 1]] k) j).sum))
    simp [Sq, Bd, hx, hy, o1, o2, z1, z2]
theorem ga1 {X Y Z : List Int} (hX : X.length = 3) (hY : Y.length = 3) (hZ : Z.length = 3) : prodF (prodF X Y 0 [3]) Z 0 [3] = prodF X (prodF Y Z 0 [3]) 0 [3] :=
  match X, Y, Z, hX, hY, hZ with
  | [x0, x1, x2], [y0, y1, y2], [z0, z1, z2], _, _, _ => by
    simp [gi, prodF, blockP, dotP, tbl]
    try grind
theorem gz1 {X : List Int} (hX : X.length = 3) : prodF (zer 3) X 0 [3] = X ∧ prodF X (zer 3) 0 [3] = X :=
  match X, hX with
  | [x0, x1, x2], _ => by
    simp [gi, prodF, blockP, dotP, tbl, zer, List.replicate]
theorem gv1 {X : List Int} (hX : X.length = 3) : prodF X (invF X 0 [3] []) 0 [3] = zer 3 ∧ prodF (invF X 0 [3] []) X 0 [3] = zer 3 :=
  match X, hX with
  | [x0, x1, x2], _ => by
    simp [gi, prodF, blockP, dotP, tbl, zer, List.replicate, invF, invB]
    try grind
theorem go1 {X I : List Int} (hX : X.length = 3) (hI : I.length = 3) (h : prodF X I 0 [3] = zer 3) : ∀ j, j < 3 → -(gi (prodF X (I.take j ++ zer (3 - j)) 0 [3]) j) = gi I j :=
  match X, I, hX, hI, h with
  | [x0, x1, x2], [i0, i1, i2], _, _, h => by
    simp [gi, prodF, blockP, dotP, tbl, zer, List.replicate] at h
    intro j hj
    match j, hj with
    | 0, _ => simp [gi, prodF, blockP, dotP, tbl, zer, List.replicate]; try omega
    | 1, _ => simp [gi, prodF, blockP, dotP, tbl, zer, List.replicate]; try omega
    | 2, _ => simp [gi, prodF, blockP, dotP, tbl, zer, List.replicate]; try omega
theorem lp2 {d a b : Nat} {hh : SH} {X Y : List Int} (hX : X.length = 6) (hY : Y.length = 6) (hx : Bd a X) (hy : Bd b Y) (ha : 0 < a) (hb : 0 < b) (hab : a + b ≤ 1000000) :
    callF tb (d + 4) 27 [.tup (iv [4]), .tup (iv X), .tup (iv Y)] hh = .ok (.tup (iv (prodF X Y 0 [4]))) hh :=
  match X, Y, hX, hY, hx, hy with
  | [x0, x1, x2, x3, x4, x5], [y0, y1, y2, y3, y4, y5], _, _, hx, hy => by
    have o1 : (1 : Nat) < 2 ^ a := Nat.one_lt_two_pow (by omega)
    have o2 : (1 : Nat) < 2 ^ b := Nat.one_lt_two_pow (by omega)
    have z1 : (0 : Nat) < 2 ^ a := by omega
    have z2 : (0 : Nat) < 2 ^ b := by omega
    simp only [Bd, List.mem_cons, List.not_mem_nil, or_false, forall_eq_or_imp, forall_eq] at hx hy
    rw [← lq2]
    refine law_product_of (MX := [[[1, x0, x3, x5], [0, 1, x1, x4], [0, 0, 1, x2], [0, 0, 0, 1]]]) (MY := [[[1, y0, y3, y5], [0, 1, y1, y4], [0, 0, 1, y2], [0, 0, 0, 1]]]) (fun d => lm2 d x0 x1 x2 x3 x4 x5) (fun d => lm2 d y0 y1 y2 y3 y4 y5) ?_ (by simp) ha hb hab (fun d => le2 d (fun i j => ((List.range 4).map fun (k : Nat) => gi (gm [[1, x0, x3, x5], [0, 1, x1, x4], [0, 0, 1, x2], [0, 0, 0, 1]] i) k * gi (gm [[1, y0, y3, y5], [0, 1, y1, y4], [0, 0, 1, y2], [0, 0, 0, 1]] k) j).sum))
    simp [Sq, Bd, hx, hy, o1, o2, z1, z2]
theorem ga2 {X Y Z : List Int} (hX : X.length = 6) (hY : Y.length = 6) (hZ : Z.length = 6) : prodF (prodF X Y 0 [4]) Z 0 [4] = prodF X (prodF Y Z 0 [4]) 0 [4] :=
  match X, Y, Z, hX, hY, hZ with
  | [x0, x1, x2, x3, x4, x5], [y0, y1, y2, y3, y4, y5], [z0, z1, z2, z3, z4, z5], _, _, _ => by
    simp [gi, prodF, blockP, dotP, tbl]
    try grind
theorem gz2 {X : List Int} (hX : X.length = 6) : prodF (zer 6) X 0 [4] = X ∧ prodF X (zer 6) 0 [4] = X :=
  match X, hX with
  | [x0, x1, x2, x3, x4, x5], _ => by
    simp [gi, prodF, blockP, dotP, tbl, zer, List.replicate]
theorem gv2 {X : List Int} (hX : X.length = 6) : prodF X (invF X 0 [4] []) 0 [4] = zer 6 ∧ prodF (invF X 0 [4] []) X 0 [4] = zer 6 :=
  match X, hX with
  | [x0, x1, x2, x3, x4, x5], _ => by
    simp [gi, prodF, blockP, dotP, tbl, zer, List.replicate, invF, invB]
    try grind
theorem go2 {X I : List Int} (hX : X.length = 6) (hI : I.length = 6) (h : prodF X I 0 [4] = zer 6) : ∀ j, j < 6 → -(gi (prodF X (I.take j ++ zer (6 - j)) 0 [4]) j) = gi I j :=
  match X, I, hX, hI, h with
  | [x0, x1, x2, x3, x4, x5], [i0, i1, i2, i3, i4, i5], _, _, h => by
    simp [gi, prodF, blockP, dotP, tbl, zer, List.replicate] at h
    intro j hj
    match j, hj with
    | 0, _ => simp [gi, prodF, blockP, dotP, tbl, zer, List.replicate]; try omega
    | 1, _ => simp [gi, prodF, blockP, dotP, tbl, zer, List.replicate]; try omega
    | 2, _ => simp [gi, prodF, blockP, dotP, tbl, zer, List.replicate]; try omega
    | 3, _ => simp [gi, prodF, blockP, dotP, tbl, zer, List.replicate]; try omega
    | 4, _ => simp [gi, prodF, blockP, dotP, tbl, zer, List.replicate]; try omega
    | 5, _ => simp [gi, prodF, blockP, dotP, tbl, zer, List.replicate]; try omega
theorem lp3 {d a b : Nat} {hh : SH} {X Y : List Int} (hX : X.length = 10) (hY : Y.length = 10) (hx : Bd a X) (hy : Bd b Y) (ha : 0 < a) (hb : 0 < b) (hab : a + b ≤ 1000000) :
    callF tb (d + 4) 27 [.tup (iv [5]), .tup (iv X), .tup (iv Y)] hh = .ok (.tup (iv (prodF X Y 0 [5]))) hh :=
  match X, Y, hX, hY, hx, hy with
  | [x0, x1, x2, x3, x4, x5, x6, x7, x8, x9], [y0, y1, y2, y3, y4, y5, y6, y7, y8, y9], _, _, hx, hy => by
    have o1 : (1 : Nat) < 2 ^ a := Nat.one_lt_two_pow (by omega)
    have o2 : (1 : Nat) < 2 ^ b := Nat.one_lt_two_pow (by omega)
    have z1 : (0 : Nat) < 2 ^ a := by omega
    have z2 : (0 : Nat) < 2 ^ b := by omega
    simp only [Bd, List.mem_cons, List.not_mem_nil, or_false, forall_eq_or_imp, forall_eq] at hx hy
    rw [← lq3]
    refine law_product_of (MX := [[[1, x0, x4, x7, x9], [0, 1, x1, x5, x8], [0, 0, 1, x2, x6], [0, 0, 0, 1, x3], [0, 0, 0, 0, 1]]]) (MY := [[[1, y0, y4, y7, y9], [0, 1, y1, y5, y8], [0, 0, 1, y2, y6], [0, 0, 0, 1, y3], [0, 0, 0, 0, 1]]]) (fun d => lm3 d x0 x1 x2 x3 x4 x5 x6 x7 x8 x9) (fun d => lm3 d y0 y1 y2 y3 y4 y5 y6 y7 y8 y9) ?_ (by simp) ha hb hab (fun d => le3 d (fun i j => ((List.range 5).map fun (k : Nat) => gi (gm [[1, x0, x4, x7, x9], [0, 1, x1, x5, x8], [0, 0, 1, x2, x6], [0, 0, 0, 1, x3], [0, 0, 0, 0, 1]] i) k * gi (gm [[1, y0, y4, y7, y9], [0, 1, y1, y5, y8], [0, 0, 1, y2, y6], [0, 0, 0, 1, y3], [0, 0, 0, 0, 1]] k) j).sum))
    simp [Sq, Bd, hx, hy, o1, o2, z1, z2]
theorem ga3 {X Y Z : List Int} (hX : X.length = 10) (hY : Y.length = 10) (hZ : Z.length = 10) : prodF (prodF X Y 0 [5]) Z 0 [5] = prodF X (prodF Y Z 0 [5]) 0 [5] :=
  match X, Y, Z, hX, hY, hZ with
  | [x0, x1, x2, x3, x4, x5, x6, x7, x8, x9], [y0, y1, y2, y3, y4, y5, y6, y7, y8, y9], [z0, z1, z2, z3, z4, z5, z6, z7, z8, z9], _, _, _ => by
    simp [gi, prodF, blockP, dotP, tbl]
    try grind
theorem gz3 {X : List Int} (hX : X.length = 10) : prodF (zer 10) X 0 [5] = X ∧ prodF X (zer 10) 0 [5] = X :=
  match X, hX with
  | [x0, x1, x2, x3, x4, x5, x6, x7, x8, x9], _ => by
    simp [gi, prodF, blockP, dotP, tbl, zer, List.replicate]
theorem gv3 {X : List Int} (hX : X.length = 10) : prodF X (invF X 0 [5] []) 0 [5] = zer 10 ∧ prodF (invF X 0 [5] []) X 0 [5] = zer 10 :=
  match X, hX with
  | [x0, x1, x2, x3, x4, x5, x6, x7, x8, x9], _ => by
    simp [gi, prodF, blockP, dotP, tbl, zer, List.replicate, invF, invB]
    try grind
theorem go3 {X I : List Int} (hX : X.length = 10) (hI : I.length = 10) (h : prodF X I 0 [5] = zer 10) : ∀ j, j < 10 → -(gi (prodF X (I.take j ++ zer (10 - j)) 0 [5]) j) = gi I j :=
  match X, I, hX, hI, h with
  | [x0, x1, x2, x3, x4, x5, x6, x7, x8, x9], [i0, i1, i2, i3, i4, i5, i6, i7, i8, i9], _, _, h => by
    simp [gi, prodF, blockP, dotP, tbl, zer, List.replicate] at h
    intro j hj
    match j, hj with
    | 0, _ => simp [gi, prodF, blockP, dotP, tbl, zer, List.replicate]; try omega
    | 1, _ => simp [gi, prodF, blockP, dotP, tbl, zer, List.replicate]; try omega
    | 2, _ => simp [gi, prodF, blockP, dotP, tbl, zer, List.replicate]; try omega
    | 3, _ => simp [gi, prodF, blockP, dotP, tbl, zer, List.replicate]; try omega
    | 4, _ => simp [gi, prodF, blockP, dotP, tbl, zer, List.replicate]; try omega
    | 5, _ => simp [gi, prodF, blockP, dotP, tbl, zer, List.replicate]; try omega
    | 6, _ => simp [gi, prodF, blockP, dotP, tbl, zer, List.replicate]; try omega
    | 7, _ => simp [gi, prodF, blockP, dotP, tbl, zer, List.replicate]; try omega
    | 8, _ => simp [gi, prodF, blockP, dotP, tbl, zer, List.replicate]; try omega
    | 9, _ => simp [gi, prodF, blockP, dotP, tbl, zer, List.replicate]; try omega
end K37
end

section
set_option Elab.async false
set_option linter.all false
set_option maxRecDepth 100000
set_option maxHeartbeats 0
set_option autoImplicit false
namespace K37
open PySem Ws
abbrev mu (ns X Y : List Int) : List Int := prodF X Y 0 ns
abbrev iu (ns X : List Int) : List Int := invF X 0 ns []
abbrev tv1 (X : List Int) : SV := .tup (iv X)
/-- what holds of a space -/
structure SF (ns : List Int) (W : Nat) : Prop where
  sz : Sizes ns
  hl : ns.length ≤ 3
  hw : wid ns = W
  w12 : W ≤ 12
  lp : ∀ (d a b : Nat) (hh : SH) (X Y : List Int), X.length = W → Y.length = W → Bd a X → Bd b Y → 0 < a → 0 < b → a + b ≤ 1000000 → callF tb (d + 4) 27 [tv1 ns, tv1 X, tv1 Y] hh = .ok (tv1 (mu ns X Y)) hh
  ga : ∀ X Y Z : List Int, X.length = W → Y.length = W → Z.length = W → mu ns (mu ns X Y) Z = mu ns X (mu ns Y Z)
  gz : ∀ X : List Int, X.length = W → mu ns (zer W) X = X ∧ mu ns X (zer W) = X
  gv : ∀ X : List Int, X.length = W → mu ns X (iu ns X) = zer W ∧ mu ns (iu ns X) X = zer W
  go : ∀ X I : List Int, X.length = W → I.length = W → mu ns X I = zer W → ∀ j : Nat, j < W → -(gi (mu ns X (I.take j ++ zer (W - j))) (j : Nat)) = gi I (j : Nat)
  isp : ∀ (d : Nat) (hh : SH), callF tb (d + 4) 5 [tv1 ns] hh = .ok (.bl true) hh
  chk : ∀ (d : Nat) (hh : SH), callF tb (d + 5) 6 [tv1 ns] hh = .ok .non hh
  lw : ∀ (d : Nat) (hh : SH), callF tb (d + 1) 23 [tv1 ns] hh = .ok (.int (W : Nat)) hh
  wd : ∀ (d : Nat) (hh : SH), callF tb (d + 1) 7 [tv1 ns] hh = .ok (.int (W : Nat)) hh
  ide : ∀ (d : Nat) (hh : SH), callF tb (d + 2) 10 [tv1 ns] hh = .ok (tv1 (zer W)) hh
  idn : ∀ (d : Nat) (hh : SH), callF tb (d + 6) 11 [tv1 ns] hh = .ok (tv1 (zer W)) hh
  el : ∀ (d : Nat) (hh : SH) (X : List Int), X.length = W → callF tb (d + 4) 8 [tv1 ns, tv1 X] hh = .ok (.bl true) hh
  el2 : ∀ (d : Nat) (hh : SH) (X : List Int), X.length = W → callF tb (d + 6) 9 [tv1 ns, tv1 X] hh = .ok (.bl true) hh
  mst : ∃ m : Nat, 1 ≤ m ∧ m < 2 ^ 5 ∧ ∀ (p : Pr) (o : Option SV) (r : SE) (h : SH), ev p (.ite (.cmp .mem (.int (5)) (.var 1)) (.int (2)) (.ite (.cmp .mem (.int (4)) (.var 1)) (.int (5)) (.int (30)))) (o :: some (tv1 ns) :: r) h = .ok (.int (m : Nat)) h
/-- an element, with its bits -/
def El (W a : Nat) (X : List Int) : Prop := X.length = W ∧ Bd a X ∧ 0 < a
section
variable {ns : List Int} {W : Nat}
theorem El.mono {a b : Nat} {X : List Int} (h : El W a X) (k : a ≤ b) : El W b X := ⟨h.1, h.2.1.mono k, by have := h.2.2; omega⟩
theorem SF.mul (S : SF ns W) {a b : Nat} {X Y : List Int} (hx : El W a X) (hy : El W b Y) : El W (a + b + 3) (mu ns X Y) :=
  ⟨by rw [prodF_len, S.hw], prodF_bd hx.2.1 hy.2.1 ns 0 S.sz, by omega⟩
theorem SF.mlen (S : SF ns W) (X Y : List Int) : (mu ns X Y).length = W := by rw [prodF_len, S.hw]
theorem SF.inv0 (S : SF ns W) {a : Nat} {X : List Int} (hx : El W a X) (ha : a ≤ 20000) : InvsOk X 0 ns [] ∧ El W (13 * (a + 3)) (iu ns X) := by
  obtain ⟨l, b, p⟩ := hx
  have w := S.w12
  have hw := S.hw
  have k : inb a (0 + wid ns) ≤ 13 * (a + 3) := by
    unfold inb
    exact Nat.mul_le_mul_right _ (by omega)
  obtain ⟨i1, i2, i3⟩ := invF_ok b p ns 0 [] S.sz rfl (by omega) Bd.nil (by omega)
  refine ⟨i1, ⟨?_, i2.mono k, by omega⟩⟩
  have i4 : (invF X 0 ns []).length = 0 + wid ns := i3
  show (invF X 0 ns []).length = W
  omega
theorem SF.inv (S : SF ns W) {a : Nat} {X : List Int} (hx : El W a X) (ha : a ≤ 20000) : El W (13 * (a + 3)) (iu ns X) := (S.inv0 hx ha).2
theorem exB (X : List Int) : ∃ a, 0 < a ∧ Bd a X := by
  induction X with
  | nil => exact ⟨1, by decide, Bd.nil⟩
  | cons x X ih =>
    obtain ⟨a, h0, h⟩ := ih
    refine ⟨a + x.natAbs + 1, by omega, ?_⟩
    intro v hv
    rcases List.mem_cons.mp hv with rfl | hv
    · have : v.natAbs < 2 ^ v.natAbs := Nat.lt_two_pow_self
      exact Nat.lt_of_lt_of_le this (Nat.pow_le_pow_right (by decide) (by omega))
    · exact Nat.lt_of_lt_of_le (h v hv) (Nat.pow_le_pow_right (by decide) (by omega))
theorem invB_len2 {X : List Int} : ∀ (ns : List Int) (s : Int) (es : List Int), (invF X s ns es).length = es.length + wid ns
  | [], _, es => rfl
  | n :: r, s, es => by rw [invF, invB_len2 r, invB_len, wid]; omega
theorem SF.ilen (S : SF ns W) (X : List Int) : (iu ns X).length = W := by
  rw [invB_len2, S.hw]
  exact Nat.zero_add _
theorem zlen : (zer W).length = W := List.length_replicate
theorem zer_bd {a n : Nat} : Bd a (zer n) := by
  intro v hv
  rw [List.eq_of_mem_replicate hv]
  exact Nat.pow_pos (by decide)
theorem SF.zel (S : SF ns W) : El W 1 (zer W) := ⟨zlen, zer_bd, by decide⟩

/-! ### the group -/
theorem SF.right_cancel (S : SF ns W) {X Y Z : List Int} (hX : X.length = W) (hY : Y.length = W) (hZ : Z.length = W) (h : mu ns X Z = mu ns Y Z) : X = Y := by
  have e := congrArg (fun t => mu ns t (iu ns Z)) h
  rw [S.ga _ _ _ hX hZ (S.ilen Z), S.ga _ _ _ hY hZ (S.ilen Z), (S.gv Z hZ).1, (S.gz X hX).2, (S.gz Y hY).2] at e
  exact e
theorem SF.inv_unique (S : SF ns W) {X I : List Int} (hX : X.length = W) (hI : I.length = W) (h : mu ns I X = zer W) : I = iu ns X :=
  S.right_cancel hI (S.ilen X) hX (h.trans (S.gv X hX).2.symm)
theorem SF.inv_mul (S : SF ns W) {X Y : List Int} (hX : X.length = W) (hY : Y.length = W) : iu ns (mu ns Y X) = mu ns (iu ns X) (iu ns Y) := by
  refine (S.inv_unique (S.mlen _ _) (S.mlen _ _) ?_).symm
  have iX := S.ilen X
  have iY := S.ilen Y
  rw [S.ga _ _ _ iX iY (S.mlen _ _), ← S.ga _ _ _ iY hY hX, (S.gv Y hY).2, (S.gz X hX).1, (S.gv X hX).2]
end
end K37
end

section
set_option Elab.async false
set_option linter.all false
set_option maxRecDepth 100000
set_option maxHeartbeats 0
set_option autoImplicit false
namespace K37
open PySem Ws
theorem perm1 {x : SV} : permute [0] [x] = [x] := rfl
theorem perm2 {x y : SV} : permute [0, 1] [x, y] = [x, y] := rfl
theorem perm3 {x y z : SV} : permute [0, 1, 2] [x, y, z] = [x, y, z] := rfl
theorem perm201 {x y z : SV} : permute [2, 0, 1] [x, y, z] = [z, x, y] := rfl
theorem perm021 {x y z : SV} : permute [0, 2, 1] [x, y, z] = [x, z, y] := rfl
theorem perm210 {x y z : SV} : permute [2, 1, 0] [x, y, z] = [z, y, x] := rfl
theorem df0 {n : Nat} : (prOf tb n).dfl 0 = [] := rfl
theorem df2 {n : Nat} : (prOf tb n).dfl 2 = [] := rfl
theorem df3 {n : Nat} : (prOf tb n).dfl 3 = [] := rfl
theorem df4 {n : Nat} : (prOf tb n).dfl 4 = [] := rfl
theorem df5 {n : Nat} : (prOf tb n).dfl 5 = [] := rfl
theorem df6 {n : Nat} : (prOf tb n).dfl 6 = [] := rfl
theorem df7 {n : Nat} : (prOf tb n).dfl 7 = [] := rfl
theorem df8 {n : Nat} : (prOf tb n).dfl 8 = [] := rfl
theorem df9 {n : Nat} : (prOf tb n).dfl 9 = [] := rfl
theorem df10 {n : Nat} : (prOf tb n).dfl 10 = [] := rfl
theorem df11 {n : Nat} : (prOf tb n).dfl 11 = [] := rfl
theorem df12 {n : Nat} : (prOf tb n).dfl 12 = [] := rfl
theorem df13 {n : Nat} : (prOf tb n).dfl 13 = [] := rfl
theorem df14 {n : Nat} : (prOf tb n).dfl 14 = [] := rfl
theorem df15 {n : Nat} : (prOf tb n).dfl 15 = [] := rfl
theorem df16 {n : Nat} : (prOf tb n).dfl 16 = [] := rfl
theorem df17 {n : Nat} : (prOf tb n).dfl 17 = [] := rfl
theorem df18 {n : Nat} : (prOf tb n).dfl 18 = [] := rfl
theorem df19 {n : Nat} : (prOf tb n).dfl 19 = [] := rfl
theorem df20 {n : Nat} : (prOf tb n).dfl 20 = [] := rfl
theorem df21 {n : Nat} : (prOf tb n).dfl 21 = [] := rfl
theorem df22 {n : Nat} : (prOf tb n).dfl 22 = [] := rfl
theorem df23 {n : Nat} : (prOf tb n).dfl 23 = [] := rfl
theorem df24 {n : Nat} : (prOf tb n).dfl 24 = [] := rfl
theorem df25 {n : Nat} : (prOf tb n).dfl 25 = [] := rfl
theorem df26 {n : Nat} : (prOf tb n).dfl 26 = [] := rfl
theorem df27 {n : Nat} : (prOf tb n).dfl 27 = [] := rfl
theorem df28 {n : Nat} : (prOf tb n).dfl 28 = [] := rfl
theorem df29 {n : Nat} : (prOf tb n).dfl 29 = [] := rfl
theorem df30 {n : Nat} : (prOf tb n).dfl 30 = [] := rfl
theorem df31 {n : Nat} : (prOf tb n).dfl 31 = [] := rfl
theorem df32 {n : Nat} : (prOf tb n).dfl 32 = [] := rfl
theorem df33 {n : Nat} : (prOf tb n).dfl 33 = [] := rfl
theorem df34 {n : Nat} : (prOf tb n).dfl 34 = [] := rfl
theorem df35 {n : Nat} : (prOf tb n).dfl 35 = [] := rfl
theorem df36 {n : Nat} : (prOf tb n).dfl 36 = [] := rfl
theorem df37 {n : Nat} : (prOf tb n).dfl 37 = [] := rfl
theorem df38 {n : Nat} : (prOf tb n).dfl 38 = [] := rfl
theorem fin_non {F : FT} {h1 : SH} (hk : F.keep = false) : finish F [] .non h1 = .ok .non [] := fin_val hk rfl
/-- a call of a pure def that ends without a value -/
theorem callN_ {T : Tb} {d f : Nat} {F : FT} {xs : List SV} {h h1 : SH} {env1 : SE} {w : SV} (hF : T.funs[f]? = some F) (hp : F.pure = true) (hx : dryL xs = true) (hl : xs.length = F.ps.length) (e : evSs (prOf T d) F.body (startE F xs) [] = .nx env1 h1) (q : finish F [] .non h1 = .ok w []) : callF T (d + 1) f xs h = .ok w h := by
  rw [callF, hF]
  simp only
  rw [if_pos hp, if_pos hx]
  show dryRun (runF (prOf T d) F xs []) h = _
  have r : runF (prOf T d) F xs [] = .ok w [] := by
    unfold runF
    rw [if_pos (decide_eq_true hl), e]
    exact q
  rw [r]
  rfl
section
variable {ns : List Int} {W : Nat}
theorem dry3 {X Y Z : List Int} : dryL [tv1 X, tv1 Y, tv1 Z] = true := by simp [dryL, SV.dry, dry_iv]
theorem dry2 {X Y : List Int} : dryL [tv1 X, tv1 Y] = true := by simp [dryL, SV.dry, dry_iv]
theorem SF.prod_in (S : SF ns W) {d a b : Nat} {hh : SH} {X Y : List Int} (hX : El W a X) (hY : El W b Y) (hab : a + b ≤ 1000000) : callF tb (d + 1) 12 [tv1 ns, tv1 X, tv1 Y] hh = .ok (tv1 (mu ns X Y)) hh := by
  have w := S.hw
  exact product_in (spOk_of hX.2.1 hY.2.1 hX.2.2 hY.2.2 hab ns 0 S.sz (by omega) (by have := hX.1; omega) (by have := hY.1; omega)) S.hl
theorem SF.inv_in (S : SF ns W) {d a : Nat} {hh : SH} {X : List Int} (hX : El W a X) (ha : a ≤ 20000) : callF tb (d + 1) 13 [tv1 ns, tv1 X] hh = .ok (tv1 (iu ns X)) hh :=
  inverse_in (S.inv0 hX ha).1 S.hl
theorem SF.law_prod (S : SF ns W) {d a b : Nat} {hh : SH} {X Y : List Int} (hX : El W a X) (hY : El W b Y) (hab : a + b ≤ 1000000) : callF tb (d + 4) 27 [tv1 ns, tv1 X, tv1 Y] hh = .ok (tv1 (mu ns X Y)) hh :=
  S.lp d a b hh X Y hX.1 hY.1 hX.2.1 hY.2.1 hX.2.2 hY.2.2 hab
end
end K37
end

section
set_option Elab.async false
set_option linter.all false
set_option maxRecDepth 100000
set_option maxHeartbeats 0
set_option autoImplicit false
namespace K37
open PySem Ws
section
variable {ns : List Int} {W : Nat}
theorem part_len {I : List Int} {j : Nat} (hI : I.length = W) (hj : j ≤ W) : (I.take j ++ zer (W - j)).length = W := by
  rw [List.length_append, List.length_take, zlen]
  omega
theorem part_el {a : Nat} {I : List Int} {j : Nat} (hI : El W a I) (hj : j ≤ W) : El W a (I.take j ++ zer (W - j)) :=
  ⟨part_len hI.1 hj, Bd.app (fun v hv => hI.2.1 v (List.mem_of_mem_take hv)) zer_bd, hI.2.2⟩
theorem part_set {I : List Int} {j : Nat} (hI : I.length = W) (hj : j < W) : (I.take j ++ zer (W - j)).set j (gi I (j : Nat)) = I.take (j + 1) ++ zer (W - (j + 1)) := by
  have e : W - j = (W - (j + 1)) + 1 := by omega
  have l : (I.take j).length = j := by rw [List.length_take]; omega
  rw [List.set_append_right _ _ (by omega), l, Nat.sub_self, e]
  unfold zer
  rw [List.replicate_succ, List.set_cons_zero]
  have g : gi I (j : Nat) = I[j]'(by omega) := by
    unfold gi
    rw [List.getD_eq_getElem?_getD, Int.toNat_natCast, List.getElem?_eq_getElem (by omega)]
    rfl
  rw [g, ← List.take_append_getElem (by omega), List.append_assoc]
  rfl
theorem inv_turn (S : SF ns W) {d a b : Nat} {X I : List Int} (hX : El W a X) (hI : El W b I) (hab : a + b ≤ 1000000) (h : mu ns X I = zer W) (j : Nat) (hj : j < W) {o : Option SV} :
    turn (prOf tb (d + 4)) (.name 3) b28l0 (.int (j : Nat)) [some (tv1 ns), some (tv1 X), some (.ref 0), o] [.lst (iv (I.take j ++ zer (W - j)))] =
      .nx [some (tv1 ns), some (tv1 X), some (.ref 0), some (.int (j : Nat))] [.lst (iv (I.take (j + 1) ++ zer (W - (j + 1))))] := by
  have pe := part_el hI (j := j) (by omega)
  have c1 : (prOf tb (d + 4)).call 27 [tv1 ns, tv1 X, tv1 (I.take j ++ zer (W - j))] [.lst (iv (I.take j ++ zer (W - j)))] = .ok (tv1 (mu ns X (I.take j ++ zer (W - j)))) [.lst (iv (I.take j ++ zer (W - j)))] := S.law_prod hX pe hab
  have ml := S.mlen X (I.take j ++ zer (W - j))
  have a1 := at_iv' (X := mu ns X (I.take j ++ zer (W - j))) (i := j) (by omega)
  have g := S.go X I hX.1 hI.1 h j hj
  have st : setIxH (.ref 0) (.int (j : Nat)) (.int (-(gi (mu ns X (I.take j ++ zer (W - j))) (j : Nat)))) [.lst (iv (I.take j ++ zer (W - j)))] = some [.lst (iv (I.take (j + 1) ++ zer (W - (j + 1))))] := by
    rw [g, ← part_set hI.1 hj]
    have ix : L2.ixN (iv (I.take j ++ zer (W - j))).length (j : Nat) = some j := by
      rw [List.length_map, part_len hI.1 (by omega)]
      unfold L2.ixN
      rw [if_pos (by omega), if_pos (by omega), Int.toNat_natCast]
    unfold setIxH
    simp only [List.getElem?_cons_zero, ix, List.set_cons_zero]
    unfold iv
    rw [List.map_set]
  rw [turn_eq (env2 := [some (tv1 ns), some (tv1 X), some (.ref 0), some (.int (j : Nat))]) (by simp)]
  unfold b28l0
  simp only [evSs, evS, ev, evs, look_zero, look_succ, Res.bind_ok, ofO, List.cons_append, List.nil_append, df27, perm3, bi_tup_ref, c1, itemV_tup, a1, asInt_int, Option.map_some, Out.of, st]
theorem inv_loop (S : SF ns W) {d a b : Nat} {X I : List Int} (hX : El W a X) (hI : El W b I) (hab : a + b ≤ 1000000) (h : mu ns X I = zer W) : ∀ (todo j : Nat), j + todo = W →
    loopF [3] (turn (prOf tb (d + 4)) (.name 3) b28l0) ((List.range' j todo).map fun (j : Nat) => SV.int (j : Nat)) [some (tv1 ns), some (tv1 X), some (.ref 0), none] [.lst (iv (I.take j ++ zer (W - j)))] =
      .nx [some (tv1 ns), some (tv1 X), some (.ref 0), none] [.lst (iv I)]
  | 0, j, e => by
    have e1 : I.take j = I := List.take_of_length_le (by have := hI.1; omega)
    have e2 : W - j = 0 := by omega
    rw [e1, e2]
    simp [loopF, zer]
  | todo + 1, j, e => by
    rw [List.range'_succ, List.map_cons, loop_nx (inv_turn S hX hI hab h j (by omega))]
    exact inv_loop S hX hI hab h todo (j + 1) (by omega)
theorem rep_zer {n : Nat} : (List.replicate n [SV.int 0]).flatten = iv (zer n) := by
  induction n with
  | zero => rfl
  | succ n ih => rw [List.replicate_succ, List.flatten_cons, ih]; rfl
theorem rep_of {n : Nat} (hn : n ≤ 12) : repOf (.lst [.int 0]) (.int (n : Nat)) = some (iv (zer n)) := by
  have q : repOf (.lst [.int 0]) (.int (n : Nat)) = if decide (((n : Nat) : Int) ≤ 1000 ∧ -1000 ≤ ((n : Nat) : Int) ∧ 1 ≤ 1000) = true then some (List.replicate (Int.toNat (n : Nat)) [SV.int 0]).flatten else none := rfl
  rw [q, if_pos (decide_eq_true ⟨by omega, by omega, by decide⟩), Int.toNat_natCast, rep_zer]
theorem len_iv {X : List Int} : (iv X).length = X.length := List.length_map _
/-- _law_inverse -/
theorem SF.law_inv (S : SF ns W) {d a : Nat} {hh : SH} {X : List Int} (hX : El W a X) (ha : a ≤ 20000) : callF tb (d + 5) 28 [tv1 ns, tv1 X] hh = .ok (tv1 (iu ns X)) hh := by
  have hI := S.inv hX ha
  have w12 := S.w12
  have c1 : (prOf tb (d + 4)).call 23 [tv1 ns] [] = .ok (.int (W : Nat)) [] := S.lw (d + 3) []
  have lp := inv_loop S (d := d) hX hI (by omega) (S.gv X hX.1).1 W 0 (by omega)
  rw [← List.range_eq_range', ← rng] at lp
  have z0 : (iu ns X).take 0 ++ zer (W - 0) = zer W := rfl
  rw [z0] at lp
  refine call_ (F := f28) (h1 := [.lst (iv (iu ns X))]) rfl rfl dry2 rfl ?_ (fin_val rfl deep_tup_iv)
  show evSs (prOf tb (d + 4)) b28 [some (tv1 ns), some (tv1 X), none, none] [] = _
  have cel : mkL true (iv (zer W)) [] = .ok (.ref 0) [.lst (iv (zer W))] := mkL_cell (by have : seqLen = 16777216 := rfl; rw [len_iv, zlen]; omega)
  have one : mkL false [SV.int 0] [] = .ok (.lst [.int 0]) [] := mkL_val (by decide)
  unfold b28
  rw [nx_ (set_ (v := .ref 0) (h1 := [.lst (iv (zer W))]) (by simp only [ev, evs, look_zero, Res.bind_ok, ofO, List.cons_append, List.nil_append, df23, perm1, c1, one, rep_of w12, cel]))]
  rw [nx_ (loop_ (xs := rangeOf 0 (W : Nat)) (h1 := [.lst (iv (zer W))]) (range_ev (by simp only [List.set, ev, evs, look_zero, look_succ, Res.bind_ok, ofO, bi_len_ref, len_iv, zlen]) (by omega)) (by simpa only [List.set] using lp))]
  exact rt_ (ret_ (by simp only [List.set, ev, evs, look_zero, look_succ, Res.bind_ok, ofO, bi_tup_ref]))

end
end K37
end

section
set_option Elab.async false
set_option linter.all false
set_option maxRecDepth 100000
set_option maxHeartbeats 0
set_option autoImplicit false
namespace K37
open PySem Ws

theorem ei0 (d : Nat) (hh : SH) (X : List Int) (hX : X.length = 1) : callF tb (d + 4) 8 [tv1 [2], tv1 X] hh = .ok (.bl true) hh :=
  match X, hX with
  | [x0], _ => by kernel_rfl
theorem ej0 (d : Nat) (hh : SH) (X : List Int) (hX : X.length = 1) : callF tb (d + 6) 9 [tv1 [2], tv1 X] hh = .ok (.bl true) hh :=
  match X, hX with
  | [x0], _ => by kernel_rfl
theorem sf0 : SF [2] 1 where
  sz := by intro n hn; simp at hn; unfold Size; omega
  hl := by decide
  hw := by decide
  w12 := by decide
  lp := fun d a b hh X Y hX hY hx hy ha hb hab => lp0 hX hY hx hy ha hb hab
  ga := fun X Y Z hX hY hZ => ga0 hX hY hZ
  gz := fun X hX => gz0 hX
  gv := fun X hX => gv0 hX
  go := fun X I hX hI h => go0 hX hI h
  isp := fun d hh => by kernel_rfl
  chk := fun d hh => by kernel_rfl
  lw := fun d hh => by kernel_rfl
  wd := fun d hh => by kernel_rfl
  ide := fun d hh => by kernel_rfl
  idn := fun d hh => by kernel_rfl
  el := ei0
  el2 := ej0
  mst := ⟨30, by decide, by decide, fun p o r h => by kernel_rfl⟩
theorem ei1 (d : Nat) (hh : SH) (X : List Int) (hX : X.length = 3) : callF tb (d + 4) 8 [tv1 [3], tv1 X] hh = .ok (.bl true) hh :=
  match X, hX with
  | [x0, x1, x2], _ => by kernel_rfl
theorem ej1 (d : Nat) (hh : SH) (X : List Int) (hX : X.length = 3) : callF tb (d + 6) 9 [tv1 [3], tv1 X] hh = .ok (.bl true) hh :=
  match X, hX with
  | [x0, x1, x2], _ => by kernel_rfl
theorem sf1 : SF [3] 3 where
  sz := by intro n hn; simp at hn; unfold Size; omega
  hl := by decide
  hw := by decide
  w12 := by decide
  lp := fun d a b hh X Y hX hY hx hy ha hb hab => lp1 hX hY hx hy ha hb hab
  ga := fun X Y Z hX hY hZ => ga1 hX hY hZ
  gz := fun X hX => gz1 hX
  gv := fun X hX => gv1 hX
  go := fun X I hX hI h => go1 hX hI h
  isp := fun d hh => by kernel_rfl
  chk := fun d hh => by kernel_rfl
  lw := fun d hh => by kernel_rfl
  wd := fun d hh => by kernel_rfl
  ide := fun d hh => by kernel_rfl
  idn := fun d hh => by kernel_rfl
  el := ei1
  el2 := ej1
  mst := ⟨30, by decide, by decide, fun p o r h => by kernel_rfl⟩
theorem ei2 (d : Nat) (hh : SH) (X : List Int) (hX : X.length = 6) : callF tb (d + 4) 8 [tv1 [4], tv1 X] hh = .ok (.bl true) hh :=
  match X, hX with
  | [x0, x1, x2, x3, x4, x5], _ => by kernel_rfl
theorem ej2 (d : Nat) (hh : SH) (X : List Int) (hX : X.length = 6) : callF tb (d + 6) 9 [tv1 [4], tv1 X] hh = .ok (.bl true) hh :=
  match X, hX with
  | [x0, x1, x2, x3, x4, x5], _ => by kernel_rfl
theorem sf2 : SF [4] 6 where
  sz := by intro n hn; simp at hn; unfold Size; omega
  hl := by decide
  hw := by decide
  w12 := by decide
  lp := fun d a b hh X Y hX hY hx hy ha hb hab => lp2 hX hY hx hy ha hb hab
  ga := fun X Y Z hX hY hZ => ga2 hX hY hZ
  gz := fun X hX => gz2 hX
  gv := fun X hX => gv2 hX
  go := fun X I hX hI h => go2 hX hI h
  isp := fun d hh => by kernel_rfl
  chk := fun d hh => by kernel_rfl
  lw := fun d hh => by kernel_rfl
  wd := fun d hh => by kernel_rfl
  ide := fun d hh => by kernel_rfl
  idn := fun d hh => by kernel_rfl
  el := ei2
  el2 := ej2
  mst := ⟨5, by decide, by decide, fun p o r h => by kernel_rfl⟩
theorem ei3 (d : Nat) (hh : SH) (X : List Int) (hX : X.length = 10) : callF tb (d + 4) 8 [tv1 [5], tv1 X] hh = .ok (.bl true) hh :=
  match X, hX with
  | [x0, x1, x2, x3, x4, x5, x6, x7, x8, x9], _ => by kernel_rfl
theorem ej3 (d : Nat) (hh : SH) (X : List Int) (hX : X.length = 10) : callF tb (d + 6) 9 [tv1 [5], tv1 X] hh = .ok (.bl true) hh :=
  match X, hX with
  | [x0, x1, x2, x3, x4, x5, x6, x7, x8, x9], _ => by kernel_rfl
theorem sf3 : SF [5] 10 where
  sz := by intro n hn; simp at hn; unfold Size; omega
  hl := by decide
  hw := by decide
  w12 := by decide
  lp := fun d a b hh X Y hX hY hx hy ha hb hab => lp3 hX hY hx hy ha hb hab
  ga := fun X Y Z hX hY hZ => ga3 hX hY hZ
  gz := fun X hX => gz3 hX
  gv := fun X hX => gv3 hX
  go := fun X I hX hI h => go3 hX hI h
  isp := fun d hh => by kernel_rfl
  chk := fun d hh => by kernel_rfl
  lw := fun d hh => by kernel_rfl
  wd := fun d hh => by kernel_rfl
  ide := fun d hh => by kernel_rfl
  idn := fun d hh => by kernel_rfl
  el := ei3
  el2 := ej3
  mst := ⟨2, by decide, by decide, fun p o r h => by kernel_rfl⟩
end K37
end

section
set_option Elab.async false
set_option linter.all false
set_option maxRecDepth 100000
set_option maxHeartbeats 0
set_option autoImplicit false
namespace K37
open PySem Ws
/-! ### repr and equality of elements -/
theorem fit_iv {k : Nat} : ∀ X : List Int, (iv X).all (SV.fit k) = true
  | [] => rfl
  | x :: X => by
    show (SV.fit k (.int x) && (iv X).all (SV.fit k)) = true
    rw [fit_iv X]
    cases k <;> rfl
theorem fit_tv {X : List Int} : (tv1 X).fit 30 = true := by
  show (iv X).all (SV.fit 29) = true
  exact fit_iv X
theorem eqv_iv : ∀ X : List Int, PyData.eqvAll (SV.pdL (iv X)) (SV.pdL (iv X)) = true
  | [] => rfl
  | x :: X => by
    show (PyData.eqv (.int x) (.int x) && PyData.eqvAll (SV.pdL (iv X)) (SV.pdL (iv X))) = true
    rw [eqv_iv X]
    simp [PyData.eqv]
theorem veq_tv {X : List Int} : veq (tv1 X) (tv1 X) = true := by
  unfold veq
  show PyData.eqv (.tuple (SV.pdL (iv X))) (.tuple (SV.pdL (iv X))) = true
  simp only [PyData.eqv, eqv_iv]
theorem cmp_ne_tv {X : List Int} {h : SH} : cmpop h .ne (tv1 X) (tv1 X) = some false := by
  show (if ((tv1 X).fit 30 && (tv1 X).fit 30) = true then some (!veq (tv1 X) (tv1 X)) else none) = _
  rw [fit_tv, veq_tv]
  rfl
theorem cmp_ne_str {x : Str} {h : SH} : cmpop h .ne (.str x) (.str x) = some false := by
  show some (!decide (x = x)) = _
  simp
end K37
end

section
set_option Elab.async false
set_option linter.all false
set_option maxRecDepth 100000
set_option maxHeartbeats 0
set_option autoImplicit false
namespace K37
open PySem Ws
/-! ### the state of the draws -/
abbrev stV (cs : List Int) (a l c s : Int) : SO := .dct [(.str "cells", .lst (iv cs)), (.str "at", .int a), (.str "left", .int l), (.str "count", .int c), (.str "sum", .int s)]
def Good (h : SH) : Prop := ∃ (cs : List Int) (a l c s : Int), h = [stV cs a l c s] ∧ 0 ≤ a
section
variable {cs : List Int} {a l c s : Int}
theorem it_cells : itemV (.ref 0) (.str "cells") [stV cs a l c s] = some (.lst (iv cs)) := by rfl
theorem it_at : itemV (.ref 0) (.str "at") [stV cs a l c s] = some (.int a) := by rfl
theorem it_left : itemV (.ref 0) (.str "left") [stV cs a l c s] = some (.int l) := by rfl
theorem it_count : itemV (.ref 0) (.str "count") [stV cs a l c s] = some (.int c) := by rfl
theorem it_sum : itemV (.ref 0) (.str "sum") [stV cs a l c s] = some (.int s) := by rfl
theorem st_at {v : Int} : setIxH (.ref 0) (.str "at") (.int v) [stV cs a l c s] = some [stV cs v l c s] := by rfl
theorem st_left {v : Int} : setIxH (.ref 0) (.str "left") (.int v) [stV cs a l c s] = some [stV cs a v c s] := by rfl
theorem st_count {v : Int} : setIxH (.ref 0) (.str "count") (.int v) [stV cs a l c s] = some [stV cs a l v s] := by rfl
end
theorem mf_l {i j : Int} (h : -(2 ^ 64) < i ∧ i < 2 ^ 64) : mulFits i j = true := by
  unfold mulFits
  rw [decide_eq_true h]
  rfl
theorem mf_r {i j : Int} (h : -(2 ^ 64) < j ∧ j < 2 ^ 64) : mulFits i j = true := by
  unfold mulFits
  rw [decide_eq_true h, Bool.or_true]
  rfl
theorem b_pow : binop .pow (.int 10) (.int 18) = some (.int (10 ^ 18)) := by rfl
theorem md_bd (i : Int) : 0 ≤ i.fmod 2305843009213693951 ∧ i.fmod 2305843009213693951 < 2305843009213693951 :=
  ⟨Int.fmod_nonneg_of_pos _ (by decide), Int.fmod_lt_of_pos _ (by decide)⟩
/-- more is taken -/
theorem refill {p : Pr} {cs : List Int} {a l c s many : Int} (h0 : 0 ≤ a) : ∃ (a2 l2 : Int) (o3 o4 : Option SV), 0 ≤ a2 ∧
    evS p (.cond (.cmp .lt (.ix (.var 0) (.str "left")) (.var 1)) (.cons (.set (.name 3) (.bin .add (.ix (.var 0) (.str "sum")) (.ix (.var 0) (.str "count"))))
  (.cons (.cond (.cmp .lt (.ix (.var 0) (.str "at")) (.bi .len (.cons (.ix (.var 0) (.str "cells")) .nil))) (.cons (.set (.name 3) (.ix (.ix (.var 0) (.str "cells")) (.ix (.var 0) (.str "at"))))
  (.cons (.setIx (.var 0) (.str "at") (.bin .add (.ix (.var 0) (.str "at")) (.int (1))))
  .nil)) .nil)
  (.cons (.cond (.cmp .lt (.var 3) (.bin .pow (.int (10)) (.int (18)))) (.cons (.set (.name 4) (.bin .mod (.bi .int (.cons (.bin .add (.bin .add (.bin .mul (.var 3) (.int (48271))) (.bin .mul (.ix (.var 0) (.str "count")) (.int (69621)))) (.int (12345))) .nil)) (.int (2305843009213693951))))
  (.cons (.set (.name 4) (.bin .mod (.bi .int (.cons (.bin .add (.bin .add (.bin .mul (.var 4) (.var 4)) (.var 3)) (.bin .mul (.ix (.var 0) (.str "count")) (.int (7919)))) .nil)) (.int (2305843009213693951))))
  (.cons (.set (.name 3) (.bin .mod (.bi .int (.cons (.bin .add (.bin .add (.bin .mul (.bin .mul (.var 4) (.var 4)) (.int (16807))) (.bin .mul (.var 3) (.int (40014)))) (.int (1))) .nil)) (.int (2305843009213693951))))
  .nil))) .nil)
  (.cons (.setIx (.var 0) (.str "left") (.var 3))
  .nil)))) .nil) [some (.ref 0), some (.int many), none, none, none] [stV cs a l c s] = .nx [some (.ref 0), some (.int many), none, o3, o4] [stV cs a2 l2 c s] := by
  by_cases hl : l < many
  · have t1 : decide (l < many) = true := decide_eq_true hl
    have mix : ∀ (a2 cell : Int) , ∃ (l2 : Int) (o3 o4 : Option SV), evSs p (.cons (.cond (.cmp .lt (.var 3) (.bin .pow (.int (10)) (.int (18)))) (.cons (.set (.name 4) (.bin .mod (.bi .int (.cons (.bin .add (.bin .add (.bin .mul (.var 3) (.int (48271))) (.bin .mul (.ix (.var 0) (.str "count")) (.int (69621)))) (.int (12345))) .nil)) (.int (2305843009213693951))))
  (.cons (.set (.name 4) (.bin .mod (.bi .int (.cons (.bin .add (.bin .add (.bin .mul (.var 4) (.var 4)) (.var 3)) (.bin .mul (.ix (.var 0) (.str "count")) (.int (7919)))) .nil)) (.int (2305843009213693951))))
  (.cons (.set (.name 3) (.bin .mod (.bi .int (.cons (.bin .add (.bin .add (.bin .mul (.bin .mul (.var 4) (.var 4)) (.int (16807))) (.bin .mul (.var 3) (.int (40014)))) (.int (1))) .nil)) (.int (2305843009213693951))))
  .nil))) .nil)
  (.cons (.setIx (.var 0) (.str "left") (.var 3))
  .nil)) [some (.ref 0), some (.int many), none, some (.int cell), none] [stV cs a2 l c s] = .nx [some (.ref 0), some (.int many), none, o3, o4] [stV cs a2 l2 c s] := by
      intro a2 cell
      by_cases hc : cell < 10 ^ 18
      · have t3 : decide (cell < 10 ^ 18) = true := decide_eq_true hc
        have sm : ∀ z : Int, 0 ≤ z ∧ z < 2305843009213693951 → ∀ w : Int, binop .mul (.int z) (.int w) = some (.int (z * w)) := fun z hz w => binop_mul (mf_l (by omega))
        have sr : ∀ z w : Int, 0 ≤ w ∧ w < 2305843009213693951 → binop .mul (.int z) (.int w) = some (.int (z * w)) := fun z w hw => binop_mul (mf_r (by omega))
        have md : ∀ z : Int, binop .mod (.int z) (.int 2305843009213693951) = some (.int (z.fmod 2305843009213693951)) := fun z => binop_mod (by decide)
        have q1 := fun z => sr z 48271 (by decide)
        have q2 := fun z => sr z 69621 (by decide)
        have q3 := fun z => sr z 7919 (by decide)
        have q4 := fun z => sr z 16807 (by decide)
        have q5 := fun z => sr z 40014 (by decide)
        have q6 := fun z w => sm _ (md_bd z) w
        refine ⟨?l2, ?o3, ?o4, ?e⟩
        case e =>
          simp only [evSs, evS, evT, ev, evs, look_zero, look_succ, Res.bind_ok, ofO, cmp_lt, Out.of, b_pow, t3, if_true, it_count, it_left, q1, q2, q3, q4, q5, q6, md, binop_add, bi_int, store_name, List.set, st_left]
          rfl
      · have t3 : decide (cell < 10 ^ 18) = false := decide_eq_false hc
        refine ⟨?m2, ?p3, ?p4, ?e2⟩
        case e2 =>
          simp only [evSs, evS, evT, ev, evs, look_zero, look_succ, Res.bind_ok, ofO, cmp_lt, Out.of, b_pow, t3, Bool.false_eq_true, if_false, store_name, List.set, st_left]
          rfl
    by_cases ha : a < cs.length
    · have t2 : decide (a < ((iv cs).length : Nat)) = true := decide_eq_true (by rw [List.length_map]; exact ha)
      have g := at_iv h0 ha
      obtain ⟨l2, o3, o4, e⟩ := mix (a + 1) (gi cs a)
      refine ⟨a + 1, l2, o3, o4, by omega, ?_⟩
      rw [← e]
      simp only [evS, evT, ev, evs, look_zero, look_succ, Res.bind_ok, ofO, cmp_lt, Out.of, t1, if_true, it_left]
      rw [evSs]
      simp only [evS, evT, ev, evs, look_zero, look_succ, Res.bind_ok, ofO, Out.of, it_sum, it_count, binop_add, store_name, List.set]
      rw [evSs]
      simp only [evSs, evS, evT, ev, evs, look_zero, look_succ, Res.bind_ok, ofO, cmp_lt, Out.of, it_at, it_cells, bi_len_lst, t2, if_true, itemV_lst, g, binop_add, store_name, List.set, st_at]
    · have t2 : decide (a < ((iv cs).length : Nat)) = false := decide_eq_false (by rw [List.length_map]; exact ha)
      obtain ⟨l2, o3, o4, e⟩ := mix a (s + c)
      refine ⟨a, l2, o3, o4, h0, ?_⟩
      rw [← e]
      simp only [evS, evT, ev, evs, look_zero, look_succ, Res.bind_ok, ofO, cmp_lt, Out.of, t1, if_true, it_left]
      rw [evSs]
      simp only [evS, evT, ev, evs, look_zero, look_succ, Res.bind_ok, ofO, Out.of, it_sum, it_count, binop_add, store_name, List.set]
      rw [evSs]
      simp only [evSs, evS, evT, ev, evs, look_zero, look_succ, Res.bind_ok, ofO, cmp_lt, Out.of, it_at, it_cells, bi_len_lst, t2, Bool.false_eq_true, if_false]
  · have t1 : decide (l < many) = false := decide_eq_false hl
    refine ⟨a, l, none, none, h0, ?_⟩
    simp only [evS, evSs, evT, ev, look_zero, look_succ, Res.bind_ok, ofO, cmp_lt, Out.of, t1, Bool.false_eq_true, if_false, it_left]
theorem fin_int {F : FT} {h0 h : SH} {n : Int} (hk : F.keep = false) (hl : h.length = h0.length) : Ws.finish F h0 (.int n) h = .ok (.int n) h := by
  unfold Ws.finish
  rw [hk, if_neg (by decide)]
  have e : h.take h0.length = h := List.take_of_length_le (by omega)
  rw [e]
  show (if h = h0 then Res.ok (SV.int n) h0 else if SV.int n = SV.int n then Res.ok (SV.int n) h else .bad) = _
  by_cases q : h = h0
  · rw [if_pos q, q]
  · rw [if_neg q, if_pos rfl]
/-- a call of a def that changes cells -/
theorem callH_ {T : Tb} {d f : Nat} {F : FT} {xs : List SV} {h h1 h2 : SH} {v w : SV} (hF : T.funs[f]? = some F) (hp : F.pure = false) (hl : xs.length = F.ps.length) (e : evSs (prOf T d) F.body (startE F xs) h = .rt v h1) (q : Ws.finish F h v h1 = .ok w h2) : callF T (d + 1) f xs h = .ok w h2 := by
  rw [callF, hF]
  simp only
  rw [hp, if_neg (by decide)]
  show runF (prOf T d) F xs h = _
  unfold runF
  rw [if_pos (decide_eq_true hl), e]
  exact q
/-- _law_draw -/
theorem draw {d : Nat} {h : SH} (hg : Good h) {many : Int} (hm : 0 < many) (hm2 : many < 2 ^ 60) : ∃ (k : Int) (h2 : SH), callF tb (d + 1) 21 [.ref 0, .int many] h = .ok (.int k) h2 ∧ Good h2 ∧ 0 ≤ k ∧ k < many := by
  obtain ⟨cs, a, l, c, s, rfl, ha⟩ := hg
  obtain ⟨a2, l2, o3, o4, h0, e⟩ := refill (p := prOf tb d) (cs := cs) (a := a) (l := l) (c := c + 1) (s := s) (many := many) ha
  have dv : divFits many = true := by
    unfold divFits
    have : many.natAbs.log2 < 9000 := by
      by_cases z : many.natAbs = 0
      · rw [z]; decide
      · have : many.natAbs.log2 < 60 := (Nat.log2_lt z).mpr (by omega)
        omega
    rw [decide_eq_true (show many ≠ 0 by omega), decide_eq_true this]
    rfl
  refine ⟨l2.fmod many, [stV cs a2 (l2.fdiv many) (c + 1) s], ?_, ⟨cs, a2, l2.fdiv many, c + 1, s, rfl, h0⟩, Int.fmod_nonneg_of_pos _ hm, Int.fmod_lt_of_pos _ hm⟩
  refine callH_ (F := f21) rfl rfl rfl (v := .int (l2.fmod many)) (h1 := [stV cs a2 (l2.fdiv many) (c + 1) s]) ?_ (fin_int rfl rfl)
  show evSs (prOf tb d) b21 [some (.ref 0), some (.int many), none, none, none] [stV cs a l c s] = _
  unfold b21
  rw [nx_ (env1 := [some (.ref 0), some (.int many), none, none, none]) (h1 := [stV cs a l (c + 1) s]) (by simp only [evS, ev, look_zero, Res.bind_ok, ofO, it_count, binop_add, Out.of, st_count])]
  rw [nx_ e]
  rw [nx_ (set_ (v := .int (l2.fmod many)) (h1 := [stV cs a2 l2 (c + 1) s]) (by simp only [ev, evs, look_zero, look_succ, Res.bind_ok, ofO, it_left, bi_int, binop_mod (show many ≠ 0 by omega)]))]
  rw [nx_ (env1 := [some (.ref 0), some (.int many), some (.int (l2.fmod many)), o3, o4]) (h1 := [stV cs a2 (l2.fdiv many) (c + 1) s]) (by simp only [List.set, evS, ev, evs, look_zero, look_succ, Res.bind_ok, ofO, it_left, bi_int, binop_fdiv dv, Out.of, st_left])]
  exact rt_ (ret_ (by simp only [ev, look_zero, look_succ, ofO]))
end K37
end

section
set_option Elab.async false
set_option linter.all false
set_option maxRecDepth 100000
set_option maxHeartbeats 0
set_option autoImplicit false
namespace K37
open PySem Ws
theorem Good.len {h : SH} (hg : Good h) : h.length = 1 := by
  obtain ⟨cs, a, l, c, s, rfl, _⟩ := hg
  rfl
theorem fin_deep {F : FT} {h0 h : SH} {v : SV} (hk : F.keep = false) (hd : v.deep 12 = true) (hl : h.length = h0.length) : Ws.finish F h0 v h = .ok v h := by
  unfold Ws.finish
  rw [hk, if_neg (by decide), freeze_deep 12 v hd]
  have e : h.take h0.length = h := List.take_of_length_le (by omega)
  rw [e]
  show (if h = h0 then Res.ok v h0 else if v = v then Res.ok v h else .bad) = _
  by_cases q : h = h0
  · rw [if_pos q, q]
  · rw [if_neg q, if_pos rfl]
/-! ### _law_begin -/
theorem begin_ok {d : Nat} (ns : List Int) (hl : ns.length ≤ 1000) : ∃ h, callF tb (d + 1) 20 [.lst (iv ns)] [] = .ok (.ref 0) h ∧ Good h := by
  have sl : sliceV (.lst (iv ns)) none (some 63) [] = some (.lst (cutL (iv ns) none (some 63))) := by rfl
  obtain ⟨ms, hm, hml⟩ : ∃ ms : List Int, cutL (iv ns) none (some 63) = iv ms ∧ ms.length ≤ 1000 := by
    unfold cutL iv
    rw [← List.map_drop, ← List.map_take]
    exact ⟨_, rfl, by rw [List.length_take, List.length_drop]; omega⟩
  have cp : ev (prOf tb d) (.comp false (.ite (.cmp .ge (.var 2) (.int (0))) (.bin .mul (.bi .int (.cons (.var 2) .nil)) (.int (2))) (.bin .sub (.bin .mul (.neg (.bi .int (.cons (.var 2) .nil))) (.int (2))) (.int (1)))) (.name 2) (.it (.sl (.var 0) .none (.some (.int (63))))) [2])
      [some (.lst (iv ns)), none, none] [] = .ok (.lst (iv (ms.map fun x => if 0 ≤ x then x * 2 else -x * 2 - 1))) [] := by
    rw [compA_ (ps := ms) SV.int (fun x => SV.int (if 0 ≤ x then x * 2 else -x * 2 - 1)) (h1 := []) (by simp only [evi, ev, evo, look_zero, Res.bind_ok, ofO, asInt_int, Option.map_some, sl, hm])]
    · have e : ms.map (fun x => SV.int (if 0 ≤ x then x * 2 else -x * 2 - 1)) = iv (ms.map fun x => if 0 ≤ x then x * 2 else -x * 2 - 1) := by
        unfold iv
        rw [List.map_map]
        rfl
      rw [e]
      refine mkL_val ?_
      have : seqLen = 16777216 := rfl
      rw [List.length_map, List.length_map]
      omega
    · intro x hx
      refine ⟨[some (.lst (iv ns)), none, some (.int x)], by simp, ?_⟩
      have q : ∀ z : Int, binop .mul (.int z) (.int 2) = some (.int (z * 2)) := fun z => binop_mul (mf_r (by decide))
      by_cases h0 : 0 ≤ x
      · have t : decide (0 ≤ x) = true := decide_eq_true h0
        simp only [ev, evT, evs, look_zero, look_succ, Res.bind_ok, ofO, cmp_ge, t, if_true, bi_int, q, if_pos h0]
      · have t : decide (0 ≤ x) = false := decide_eq_false h0
        simp only [ev, evT, evs, look_zero, look_succ, Res.bind_ok, ofO, cmp_ge, t, Bool.false_eq_true, if_false, bi_int, q, if_neg h0, asInt_int, Option.map_some, binop_sub]
  generalize ms.map (fun x => if 0 ≤ x then x * 2 else -x * 2 - 1) = cs at cp
  have sm : builtin [] .sum [.lst (iv cs)] = some (.int cs.sum) := by
    show ((intsOf (iv cs)).map fun ns => SV.int ns.sum) = _
    have := intsOf_map (fun x : Int => x) cs
    rw [List.map_id'] at this
    unfold iv
    rw [this]
    rfl
  refine ⟨[stV cs 0 0 0 (cs.sum.fmod 1000003)], ?_, ⟨cs, 0, 0, 0, _, rfl, by decide⟩⟩
  refine callH_ (F := f20) rfl rfl rfl (v := .ref 0) (h1 := [stV cs 0 0 0 (cs.sum.fmod 1000003)]) ?_ rfl
  show evSs (prOf tb d) b20 [some (.lst (iv ns)), none, none] [] = _
  unfold b20
  rw [nx_ (set_ (v := .lst (iv cs)) (h1 := []) cp)]
  refine rt_ (ret_ ?_)
  have md : binop .mod (.int cs.sum) (.int 1000003) = some (.int (cs.sum.fmod 1000003)) := binop_mod (by decide)
  simp only [List.set, ev, evs, look_zero, look_succ, Res.bind_ok, ofO, sm, bi_int, md]
  rfl
theorem mkL_any {xs : List SV} {h : SH} (hl : xs.length ≤ 100) : mkL false xs h = .ok (.lst xs) h := mkL_val (by have : seqLen = 16777216 := rfl; omega)
/-! ### _law_entry -/
theorem entry_ok {d m : Nat} {h : SH} (hg : Good h) (m1 : 1 ≤ m) (m2 : m < 2 ^ 5) : ∃ (v : Int) (h2 : SH), callF tb (d + 2) 29 [.ref 0, .int (m : Nat)] h = .ok (.int v) h2 ∧ Good h2 ∧ v.natAbs < 2 ^ 5 := by
  obtain ⟨k, h2, e, g2, k0, k1⟩ := draw (d := d) hg (many := 3) (by decide) (by decide)
  have c1 : (prOf tb (d + 1)).call 21 [.ref 0, .int 3] h = .ok (.int k) h2 := e
  have l1 := hg.len
  obtain ⟨L, it, L1, L2⟩ : ∃ L : Int, itemV (.lst [.int 1, .int (if (m : Int) < 3 then (m : Int) else 3), .int (m : Nat)]) (.int k) h2 = some (.int L) ∧ 1 ≤ L ∧ L ≤ m := by
    have : k = 0 ∨ k = 1 ∨ k = 2 := by omega
    rcases this with rfl | rfl | rfl
    · exact ⟨1, rfl, by omega, by omega⟩
    · refine ⟨if (m : Int) < 3 then (m : Int) else 3, rfl, ?_, ?_⟩ <;> split <;> omega
    · exact ⟨(m : Int), rfl, by omega, by omega⟩
  obtain ⟨j, h3, e3, g3, j0, j1⟩ := draw (d := d) g2 (many := 2 * L + 1) (by omega) (by omega)
  have c2 : (prOf tb (d + 1)).call 21 [.ref 0, .int (2 * L + 1)] h2 = .ok (.int j) h3 := e3
  have l3 := g3.len
  refine ⟨j - L, h3, ?_, g3, by omega⟩
  refine callH_ (F := f29) rfl rfl rfl (v := .int (j - L)) (h1 := h3) ?_ (fin_deep rfl rfl (by omega))
  show evSs (prOf tb (d + 1)) b29 [some (.ref 0), some (.int (m : Nat)), none] h = _
  have mk : mkL false [SV.int 1, .int (if (m : Int) < 3 then (m : Int) else 3), .int (m : Nat)] h = .ok (.lst [SV.int 1, .int (if (m : Int) < 3 then (m : Int) else 3), .int (m : Nat)]) h := mkL_any (by simp)
  have q : binop .mul (.int 2) (.int L) = some (.int (2 * L)) := binop_mul (mf_l (by decide))
  unfold b29
  rw [nx_ (set_ (v := .int L) (h1 := h2) (by simp only [ev, evs, look_zero, look_succ, Res.bind_ok, ofO, bi_min, mk, List.cons_append, List.nil_append, df21, perm2, c1, it]))]
  refine rt_ (ret_ ?_)
  simp only [List.set, ev, evs, look_zero, look_succ, Res.bind_ok, ofO, q, binop_add, List.cons_append, List.nil_append, df21, perm2, c2, binop_sub]
/-! ### _law_element -/
theorem comp_st {p : Pr} {elt : CE} {t : CT} {it : CI} {own : List Nat} {env : SE} {h : SH} {xs : List SV} {P : Int → Prop} (e : evi p it env h = .ok xs h) (hg : Good h)
    (b : ∀ x ∈ xs, ∀ h, Good h → ∃ (env2 : SE) (v : Int) (h2 : SH), store t x (wipeE env own) = some env2 ∧ ev p elt env2 h = .ok (.int v) h2 ∧ Good h2 ∧ P v) (hl : xs.length ≤ 100) :
    ∃ (X : List Int) (h2 : SH), ev p (.comp false elt t it own) env h = .ok (.lst (iv X)) h2 ∧ Good h2 ∧ X.length = xs.length ∧ ∀ v ∈ X, P v := by
  rw [ev, e]
  simp only [Res.bind_ok]
  have go : ∀ (ys : List SV) (h : SH), Good h → (∀ x ∈ ys, ∀ h, Good h → ∃ (env2 : SE) (v : Int) (h2 : SH), store t x (wipeE env own) = some env2 ∧ ev p elt env2 h = .ok (.int v) h2 ∧ Good h2 ∧ P v) →
      ∃ (X : List Int) (h2 : SH), compF (fun x h => match store t x (wipeE env own) with
    | none => .bad
    | some env2 => (ev p elt env2 h).bind fun y h => .ok (some y) h) ys h = .ok (iv X) h2 ∧ Good h2 ∧ X.length = ys.length ∧ ∀ v ∈ X, P v := by
    intro ys
    induction ys with
    | nil => intro h hg _; exact ⟨[], h, rfl, hg, rfl, fun v hv => absurd hv List.not_mem_nil⟩
    | cons y ys ih =>
      intro h hg hy
      obtain ⟨env2, v, h2, e1, e2, g2, pv⟩ := hy y List.mem_cons_self h hg
      obtain ⟨X, h3, e3, g3, l3, p3⟩ := ih h2 g2 fun x hx => hy x (List.mem_cons_of_mem _ hx)
      refine ⟨v :: X, h3, ?_, g3, by simp [l3], ?_⟩
      · rw [compF, e1]
        simp only [e2, Res.bind_ok]
        rw [e3]
        rfl
      · intro w hw
        rcases List.mem_cons.mp hw with rfl | hw
        · exact pv
        · exact p3 w hw
  obtain ⟨X, h2, e2, g2, l2, p2⟩ := go xs h hg b
  refine ⟨X, h2, ?_, g2, l2, p2⟩
  refine (congrArg (fun r => Res.bind r fun r h => mkL false r h) e2).trans ?_
  exact mkL_any (by rw [List.length_map]; omega)
theorem element_ok {ns : List Int} {W : Nat} (S : SF ns W) {d : Nat} {h : SH} (hg : Good h) : ∃ (X : List Int) (h2 : SH), callF tb (d + 3) 30 [.ref 0, tv1 ns] h = .ok (tv1 X) h2 ∧ Good h2 ∧ El W 5 X := by
  obtain ⟨m, m1, m2, me⟩ := S.mst
  have w12 := S.w12
  have c1 : (prOf tb (d + 2)).call 23 [tv1 ns] h = .ok (.int (W : Nat)) h := S.lw (d + 1) h
  obtain ⟨X, h2, e, g2, l2, b2⟩ := comp_st (p := prOf tb (d + 2)) (elt := .call 29 [0, 1] (.cons (.var 0) (.cons (.var 2) .nil)) .nil) (t := .name 3) (it := .range1 (.call 23 [0] (.cons (.var 1) .nil) .nil)) (own := [3])
    (env := [some (.ref 0), some (tv1 ns), some (.int (m : Nat)), none]) (h := h) (xs := rangeOf 0 (W : Nat)) (P := fun v => v.natAbs < 2 ^ 5)
    (range_ev (by simp only [ev, evs, look_zero, look_succ, Res.bind_ok, ofO, List.cons_append, List.nil_append, df23, perm1, c1]) (by omega)) hg (by
      intro x hx h hg
      obtain ⟨v, h2, e, g2, bv⟩ := entry_ok (d := d) (m := m) hg m1 m2
      have c2 : (prOf tb (d + 2)).call 29 [.ref 0, .int (m : Nat)] h = .ok (.int v) h2 := e
      refine ⟨[some (.ref 0), some (tv1 ns), some (.int (m : Nat)), some x], v, h2, rfl, ?_, g2, bv⟩
      simp only [ev, evs, look_zero, look_succ, Res.bind_ok, ofO, List.cons_append, List.nil_append, df29, perm2, c2]) (by rw [rng, List.length_map, List.length_range]; omega)
  rw [rng, List.length_map, List.length_range] at l2
  refine ⟨X, h2, ?_, g2, l2, b2, by decide⟩
  have l1 := hg.len
  have l3 := g2.len
  refine callH_ (F := f30) rfl rfl rfl (v := tv1 X) (h1 := h2) ?_ (fin_deep rfl deep_tup_iv (by omega))
  show evSs (prOf tb (d + 2)) b30 [some (.ref 0), some (tv1 ns), none, none] h = _
  unfold b30
  rw [nx_ (set_ (v := .int (m : Nat)) (h1 := h) (me _ _ _ _))]
  refine rt_ (ret_ ?_)
  rw [ev, evs]
  simp only [List.set]
  rw [e]
  simp only [evs, Res.bind_ok, bi_tup_lst, ofO]
end K37
end

section
set_option Elab.async false
set_option linter.all false
set_option maxRecDepth 100000
set_option maxHeartbeats 0
set_option autoImplicit false
namespace K37
open PySem Ws
/-! ### numbers of patterns, the patterns read from their ends -/
def nstep (l : Int) (f : List Int → Int) : List Int → Int
  | [] => f []
  | a :: q => if 0 < l then f (a :: q) + (if a = l then f q else 0) else f (a :: q) - (if a = -l then nstep l f q else 0)
def one0 : List Int → Int := fun p => if p = [] then 1 else 0
def numR (w : List Int) : List Int → Int := w.foldl (fun f l => nstep l f) one0
theorem nstep_nil (l : Int) (f : List Int → Int) : nstep l f [] = f [] := rfl
theorem numR_snoc (w : List Int) (l : Int) : numR (w ++ [l]) = nstep l (numR w) := by
  unfold numR
  rw [List.foldl_append]
  rfl
theorem numR_nil (w : List Int) : numR w [] = 1 := by
  have go : ∀ (w : List Int) (f : List Int → Int), (w.foldl (fun f l => nstep l f) f) [] = f [] := by
    intro w
    induction w with
    | nil => intro f; rfl
    | cons l w ih => intro f; exact (ih _).trans (nstep_nil l f)
  exact go w one0
/-- a letter behind its opposite -/
theorem nstep_back {l : Int} (hl : 0 < l) (f : List Int → Int) : nstep l (nstep (-l) f) = f := by
  funext rp
  cases rp with
  | nil => rfl
  | cons a q =>
    have h1 : ¬ (0 : Int) < -l := by omega
    show (if 0 < l then nstep (-l) f (a :: q) + (if a = l then nstep (-l) f q else 0) else _) = _
    rw [if_pos hl]
    show (if 0 < -l then _ else f (a :: q) - (if a = - -l then nstep (-l) f q else 0)) + _ = _
    rw [if_neg h1, Int.neg_neg]
    split <;> omega
end K37
end

section
set_option Elab.async false
set_option linter.all false
set_option maxRecDepth 100000
set_option maxHeartbeats 0
set_option autoImplicit false
namespace K37
open PySem Ws

def ev0 (f : List Int → Int) (x0 y0 z0 : Int) : List Int := [
  f [1] * x0 + f [2] * y0 + f [3] * z0]
theorem es0_1 (f : List Int → Int) (x0 y0 z0 : Int) (h : f [] = 1) : prodF (ev0 f x0 y0 z0) [x0] 0 [2] = ev0 (nstep 1 f) x0 y0 z0 := by
  simp [ev0, nstep, h, gi, prodF, blockP, dotP, tbl]
  try grind
theorem es0_2 (f : List Int → Int) (x0 y0 z0 : Int) (h : f [] = 1) : prodF (ev0 f x0 y0 z0) [y0] 0 [2] = ev0 (nstep 2 f) x0 y0 z0 := by
  simp [ev0, nstep, h, gi, prodF, blockP, dotP, tbl]
  try grind
theorem es0_3 (f : List Int → Int) (x0 y0 z0 : Int) (h : f [] = 1) : prodF (ev0 f x0 y0 z0) [z0] 0 [2] = ev0 (nstep 3 f) x0 y0 z0 := by
  simp [ev0, nstep, h, gi, prodF, blockP, dotP, tbl]
  try grind
def ev1 (f : List Int → Int) (x0 x1 x2 y0 y1 y2 z0 z1 z2 : Int) : List Int := [
  f [1] * x0 + f [2] * y0 + f [3] * z0,
  f [1] * x1 + f [2] * y1 + f [3] * z1,
  f [1, 1] * x0 * x1 + f [2, 1] * x0 * y1 + f [3, 1] * x0 * z1 + f [1, 2] * y0 * x1 + f [2, 2] * y0 * y1 + f [3, 2] * y0 * z1 + f [1, 3] * z0 * x1 + f [2, 3] * z0 * y1 + f [3, 3] * z0 * z1 + f [1] * x2 + f [2] * y2 + f [3] * z2]
theorem es1_1 (f : List Int → Int) (x0 x1 x2 y0 y1 y2 z0 z1 z2 : Int) (h : f [] = 1) : prodF (ev1 f x0 x1 x2 y0 y1 y2 z0 z1 z2) [x0, x1, x2] 0 [3] = ev1 (nstep 1 f) x0 x1 x2 y0 y1 y2 z0 z1 z2 := by
  simp [ev1, nstep, h, gi, prodF, blockP, dotP, tbl]
  try grind
theorem es1_2 (f : List Int → Int) (x0 x1 x2 y0 y1 y2 z0 z1 z2 : Int) (h : f [] = 1) : prodF (ev1 f x0 x1 x2 y0 y1 y2 z0 z1 z2) [y0, y1, y2] 0 [3] = ev1 (nstep 2 f) x0 x1 x2 y0 y1 y2 z0 z1 z2 := by
  simp [ev1, nstep, h, gi, prodF, blockP, dotP, tbl]
  try grind
theorem es1_3 (f : List Int → Int) (x0 x1 x2 y0 y1 y2 z0 z1 z2 : Int) (h : f [] = 1) : prodF (ev1 f x0 x1 x2 y0 y1 y2 z0 z1 z2) [z0, z1, z2] 0 [3] = ev1 (nstep 3 f) x0 x1 x2 y0 y1 y2 z0 z1 z2 := by
  simp [ev1, nstep, h, gi, prodF, blockP, dotP, tbl]
  try grind
def ev2 (f : List Int → Int) (x0 x1 x2 x3 x4 x5 y0 y1 y2 y3 y4 y5 z0 z1 z2 z3 z4 z5 : Int) : List Int := [
  f [1] * x0 + f [2] * y0 + f [3] * z0,
  f [1] * x1 + f [2] * y1 + f [3] * z1,
  f [1] * x2 + f [2] * y2 + f [3] * z2,
  f [1, 1] * x0 * x1 + f [2, 1] * x0 * y1 + f [3, 1] * x0 * z1 + f [1, 2] * y0 * x1 + f [2, 2] * y0 * y1 + f [3, 2] * y0 * z1 + f [1, 3] * z0 * x1 + f [2, 3] * z0 * y1 + f [3, 3] * z0 * z1 + f [1] * x3 + f [2] * y3 + f [3] * z3,
  f [1, 1] * x1 * x2 + f [2, 1] * x1 * y2 + f [3, 1] * x1 * z2 + f [1, 2] * y1 * x2 + f [2, 2] * y1 * y2 + f [3, 2] * y1 * z2 + f [1, 3] * z1 * x2 + f [2, 3] * z1 * y2 + f [3, 3] * z1 * z2 + f [1] * x4 + f [2] * y4 + f [3] * z4,
  f [1, 1, 1] * x0 * x1 * x2 + f [2, 1, 1] * x0 * x1 * y2 + f [3, 1, 1] * x0 * x1 * z2 + f [1, 2, 1] * x0 * y1 * x2 + f [2, 2, 1] * x0 * y1 * y2 + f [3, 2, 1] * x0 * y1 * z2 + f [1, 3, 1] * x0 * z1 * x2 + f [2, 3, 1] * x0 * z1 * y2 + f [3, 3, 1] * x0 * z1 * z2 + f [1, 1, 2] * y0 * x1 * x2 + f [2, 1, 2] * y0 * x1 * y2 + f [3, 1, 2] * y0 * x1 * z2 + f [1, 2, 2] * y0 * y1 * x2 + f [2, 2, 2] * y0 * y1 * y2 + f [3, 2, 2] * y0 * y1 * z2 + f [1, 3, 2] * y0 * z1 * x2 + f [2, 3, 2] * y0 * z1 * y2 + f [3, 3, 2] * y0 * z1 * z2 + f [1, 1, 3] * z0 * x1 * x2 + f [2, 1, 3] * z0 * x1 * y2 + f [3, 1, 3] * z0 * x1 * z2 + f [1, 2, 3] * z0 * y1 * x2 + f [2, 2, 3] * z0 * y1 * y2 + f [3, 2, 3] * z0 * y1 * z2 + f [1, 3, 3] * z0 * z1 * x2 + f [2, 3, 3] * z0 * z1 * y2 + f [3, 3, 3] * z0 * z1 * z2 + f [1, 1] * x0 * x4 + f [2, 1] * x0 * y4 + f [3, 1] * x0 * z4 + f [1, 2] * y0 * x4 + f [2, 2] * y0 * y4 + f [3, 2] * y0 * z4 + f [1, 3] * z0 * x4 + f [2, 3] * z0 * y4 + f [3, 3] * z0 * z4 + f [1, 1] * x3 * x2 + f [2, 1] * x3 * y2 + f [3, 1] * x3 * z2 + f [1, 2] * y3 * x2 + f [2, 2] * y3 * y2 + f [3, 2] * y3 * z2 + f [1, 3] * z3 * x2 + f [2, 3] * z3 * y2 + f [3, 3] * z3 * z2 + f [1] * x5 + f [2] * y5 + f [3] * z5]
theorem es2_1 (f : List Int → Int) (x0 x1 x2 x3 x4 x5 y0 y1 y2 y3 y4 y5 z0 z1 z2 z3 z4 z5 : Int) (h : f [] = 1) : prodF (ev2 f x0 x1 x2 x3 x4 x5 y0 y1 y2 y3 y4 y5 z0 z1 z2 z3 z4 z5) [x0, x1, x2, x3, x4, x5] 0 [4] = ev2 (nstep 1 f) x0 x1 x2 x3 x4 x5 y0 y1 y2 y3 y4 y5 z0 z1 z2 z3 z4 z5 := by
  simp [ev2, nstep, h, gi, prodF, blockP, dotP, tbl]
  try grind
theorem es2_2 (f : List Int → Int) (x0 x1 x2 x3 x4 x5 y0 y1 y2 y3 y4 y5 z0 z1 z2 z3 z4 z5 : Int) (h : f [] = 1) : prodF (ev2 f x0 x1 x2 x3 x4 x5 y0 y1 y2 y3 y4 y5 z0 z1 z2 z3 z4 z5) [y0, y1, y2, y3, y4, y5] 0 [4] = ev2 (nstep 2 f) x0 x1 x2 x3 x4 x5 y0 y1 y2 y3 y4 y5 z0 z1 z2 z3 z4 z5 := by
  simp [ev2, nstep, h, gi, prodF, blockP, dotP, tbl]
  try grind
theorem es2_3 (f : List Int → Int) (x0 x1 x2 x3 x4 x5 y0 y1 y2 y3 y4 y5 z0 z1 z2 z3 z4 z5 : Int) (h : f [] = 1) : prodF (ev2 f x0 x1 x2 x3 x4 x5 y0 y1 y2 y3 y4 y5 z0 z1 z2 z3 z4 z5) [z0, z1, z2, z3, z4, z5] 0 [4] = ev2 (nstep 3 f) x0 x1 x2 x3 x4 x5 y0 y1 y2 y3 y4 y5 z0 z1 z2 z3 z4 z5 := by
  simp [ev2, nstep, h, gi, prodF, blockP, dotP, tbl]
  try grind
def ev3 (f : List Int → Int) (x0 x1 x2 x3 x4 x5 x6 x7 x8 x9 y0 y1 y2 y3 y4 y5 y6 y7 y8 y9 z0 z1 z2 z3 z4 z5 z6 z7 z8 z9 : Int) : List Int := [
  f [1] * x0 + f [2] * y0 + f [3] * z0,
  f [1] * x1 + f [2] * y1 + f [3] * z1,
  f [1] * x2 + f [2] * y2 + f [3] * z2,
  f [1] * x3 + f [2] * y3 + f [3] * z3,
  f [1, 1] * x0 * x1 + f [2, 1] * x0 * y1 + f [3, 1] * x0 * z1 + f [1, 2] * y0 * x1 + f [2, 2] * y0 * y1 + f [3, 2] * y0 * z1 + f [1, 3] * z0 * x1 + f [2, 3] * z0 * y1 + f [3, 3] * z0 * z1 + f [1] * x4 + f [2] * y4 + f [3] * z4,
  f [1, 1] * x1 * x2 + f [2, 1] * x1 * y2 + f [3, 1] * x1 * z2 + f [1, 2] * y1 * x2 + f [2, 2] * y1 * y2 + f [3, 2] * y1 * z2 + f [1, 3] * z1 * x2 + f [2, 3] * z1 * y2 + f [3, 3] * z1 * z2 + f [1] * x5 + f [2] * y5 + f [3] * z5,
  f [1, 1] * x2 * x3 + f [2, 1] * x2 * y3 + f [3, 1] * x2 * z3 + f [1, 2] * y2 * x3 + f [2, 2] * y2 * y3 + f [3, 2] * y2 * z3 + f [1, 3] * z2 * x3 + f [2, 3] * z2 * y3 + f [3, 3] * z2 * z3 + f [1] * x6 + f [2] * y6 + f [3] * z6,
  f [1, 1, 1] * x0 * x1 * x2 + f [2, 1, 1] * x0 * x1 * y2 + f [3, 1, 1] * x0 * x1 * z2 + f [1, 2, 1] * x0 * y1 * x2 + f [2, 2, 1] * x0 * y1 * y2 + f [3, 2, 1] * x0 * y1 * z2 + f [1, 3, 1] * x0 * z1 * x2 + f [2, 3, 1] * x0 * z1 * y2 + f [3, 3, 1] * x0 * z1 * z2 + f [1, 1, 2] * y0 * x1 * x2 + f [2, 1, 2] * y0 * x1 * y2 + f [3, 1, 2] * y0 * x1 * z2 + f [1, 2, 2] * y0 * y1 * x2 + f [2, 2, 2] * y0 * y1 * y2 + f [3, 2, 2] * y0 * y1 * z2 + f [1, 3, 2] * y0 * z1 * x2 + f [2, 3, 2] * y0 * z1 * y2 + f [3, 3, 2] * y0 * z1 * z2 + f [1, 1, 3] * z0 * x1 * x2 + f [2, 1, 3] * z0 * x1 * y2 + f [3, 1, 3] * z0 * x1 * z2 + f [1, 2, 3] * z0 * y1 * x2 + f [2, 2, 3] * z0 * y1 * y2 + f [3, 2, 3] * z0 * y1 * z2 + f [1, 3, 3] * z0 * z1 * x2 + f [2, 3, 3] * z0 * z1 * y2 + f [3, 3, 3] * z0 * z1 * z2 + f [1, 1] * x0 * x5 + f [2, 1] * x0 * y5 + f [3, 1] * x0 * z5 + f [1, 2] * y0 * x5 + f [2, 2] * y0 * y5 + f [3, 2] * y0 * z5 + f [1, 3] * z0 * x5 + f [2, 3] * z0 * y5 + f [3, 3] * z0 * z5 + f [1, 1] * x4 * x2 + f [2, 1] * x4 * y2 + f [3, 1] * x4 * z2 + f [1, 2] * y4 * x2 + f [2, 2] * y4 * y2 + f [3, 2] * y4 * z2 + f [1, 3] * z4 * x2 + f [2, 3] * z4 * y2 + f [3, 3] * z4 * z2 + f [1] * x7 + f [2] * y7 + f [3] * z7,
  f [1, 1, 1] * x1 * x2 * x3 + f [2, 1, 1] * x1 * x2 * y3 + f [3, 1, 1] * x1 * x2 * z3 + f [1, 2, 1] * x1 * y2 * x3 + f [2, 2, 1] * x1 * y2 * y3 + f [3, 2, 1] * x1 * y2 * z3 + f [1, 3, 1] * x1 * z2 * x3 + f [2, 3, 1] * x1 * z2 * y3 + f [3, 3, 1] * x1 * z2 * z3 + f [1, 1, 2] * y1 * x2 * x3 + f [2, 1, 2] * y1 * x2 * y3 + f [3, 1, 2] * y1 * x2 * z3 + f [1, 2, 2] * y1 * y2 * x3 + f [2, 2, 2] * y1 * y2 * y3 + f [3, 2, 2] * y1 * y2 * z3 + f [1, 3, 2] * y1 * z2 * x3 + f [2, 3, 2] * y1 * z2 * y3 + f [3, 3, 2] * y1 * z2 * z3 + f [1, 1, 3] * z1 * x2 * x3 + f [2, 1, 3] * z1 * x2 * y3 + f [3, 1, 3] * z1 * x2 * z3 + f [1, 2, 3] * z1 * y2 * x3 + f [2, 2, 3] * z1 * y2 * y3 + f [3, 2, 3] * z1 * y2 * z3 + f [1, 3, 3] * z1 * z2 * x3 + f [2, 3, 3] * z1 * z2 * y3 + f [3, 3, 3] * z1 * z2 * z3 + f [1, 1] * x1 * x6 + f [2, 1] * x1 * y6 + f [3, 1] * x1 * z6 + f [1, 2] * y1 * x6 + f [2, 2] * y1 * y6 + f [3, 2] * y1 * z6 + f [1, 3] * z1 * x6 + f [2, 3] * z1 * y6 + f [3, 3] * z1 * z6 + f [1, 1] * x5 * x3 + f [2, 1] * x5 * y3 + f [3, 1] * x5 * z3 + f [1, 2] * y5 * x3 + f [2, 2] * y5 * y3 + f [3, 2] * y5 * z3 + f [1, 3] * z5 * x3 + f [2, 3] * z5 * y3 + f [3, 3] * z5 * z3 + f [1] * x8 + f [2] * y8 + f [3] * z8,
  f [1, 1, 1, 1] * x0 * x1 * x2 * x3 + f [2, 1, 1, 1] * x0 * x1 * x2 * y3 + f [3, 1, 1, 1] * x0 * x1 * x2 * z3 + f [1, 2, 1, 1] * x0 * x1 * y2 * x3 + f [2, 2, 1, 1] * x0 * x1 * y2 * y3 + f [3, 2, 1, 1] * x0 * x1 * y2 * z3 + f [1, 3, 1, 1] * x0 * x1 * z2 * x3 + f [2, 3, 1, 1] * x0 * x1 * z2 * y3 + f [3, 3, 1, 1] * x0 * x1 * z2 * z3 + f [1, 1, 2, 1] * x0 * y1 * x2 * x3 + f [2, 1, 2, 1] * x0 * y1 * x2 * y3 + f [3, 1, 2, 1] * x0 * y1 * x2 * z3 + f [1, 2, 2, 1] * x0 * y1 * y2 * x3 + f [2, 2, 2, 1] * x0 * y1 * y2 * y3 + f [3, 2, 2, 1] * x0 * y1 * y2 * z3 + f [1, 3, 2, 1] * x0 * y1 * z2 * x3 + f [2, 3, 2, 1] * x0 * y1 * z2 * y3 + f [3, 3, 2, 1] * x0 * y1 * z2 * z3 + f [1, 1, 3, 1] * x0 * z1 * x2 * x3 + f [2, 1, 3, 1] * x0 * z1 * x2 * y3 + f [3, 1, 3, 1] * x0 * z1 * x2 * z3 + f [1, 2, 3, 1] * x0 * z1 * y2 * x3 + f [2, 2, 3, 1] * x0 * z1 * y2 * y3 + f [3, 2, 3, 1] * x0 * z1 * y2 * z3 + f [1, 3, 3, 1] * x0 * z1 * z2 * x3 + f [2, 3, 3, 1] * x0 * z1 * z2 * y3 + f [3, 3, 3, 1] * x0 * z1 * z2 * z3 + f [1, 1, 1, 2] * y0 * x1 * x2 * x3 + f [2, 1, 1, 2] * y0 * x1 * x2 * y3 + f [3, 1, 1, 2] * y0 * x1 * x2 * z3 + f [1, 2, 1, 2] * y0 * x1 * y2 * x3 + f [2, 2, 1, 2] * y0 * x1 * y2 * y3 + f [3, 2, 1, 2] * y0 * x1 * y2 * z3 + f [1, 3, 1, 2] * y0 * x1 * z2 * x3 + f [2, 3, 1, 2] * y0 * x1 * z2 * y3 + f [3, 3, 1, 2] * y0 * x1 * z2 * z3 + f [1, 1, 2, 2] * y0 * y1 * x2 * x3 + f [2, 1, 2, 2] * y0 * y1 * x2 * y3 + f [3, 1, 2, 2] * y0 * y1 * x2 * z3 + f [1, 2, 2, 2] * y0 * y1 * y2 * x3 + f [2, 2, 2, 2] * y0 * y1 * y2 * y3 + f [3, 2, 2, 2] * y0 * y1 * y2 * z3 + f [1, 3, 2, 2] * y0 * y1 * z2 * x3 + f [2, 3, 2, 2] * y0 * y1 * z2 * y3 + f [3, 3, 2, 2] * y0 * y1 * z2 * z3 + f [1, 1, 3, 2] * y0 * z1 * x2 * x3 + f [2, 1, 3, 2] * y0 * z1 * x2 * y3 + f [3, 1, 3, 2] * y0 * z1 * x2 * z3 + f [1, 2, 3, 2] * y0 * z1 * y2 * x3 + f [2, 2, 3, 2] * y0 * z1 * y2 * y3 + f [3, 2, 3, 2] * y0 * z1 * y2 * z3 + f [1, 3, 3, 2] * y0 * z1 * z2 * x3 + f [2, 3, 3, 2] * y0 * z1 * z2 * y3 + f [3, 3, 3, 2] * y0 * z1 * z2 * z3 + f [1, 1, 1, 3] * z0 * x1 * x2 * x3 + f [2, 1, 1, 3] * z0 * x1 * x2 * y3 + f [3, 1, 1, 3] * z0 * x1 * x2 * z3 + f [1, 2, 1, 3] * z0 * x1 * y2 * x3 + f [2, 2, 1, 3] * z0 * x1 * y2 * y3 + f [3, 2, 1, 3] * z0 * x1 * y2 * z3 + f [1, 3, 1, 3] * z0 * x1 * z2 * x3 + f [2, 3, 1, 3] * z0 * x1 * z2 * y3 + f [3, 3, 1, 3] * z0 * x1 * z2 * z3 + f [1, 1, 2, 3] * z0 * y1 * x2 * x3 + f [2, 1, 2, 3] * z0 * y1 * x2 * y3 + f [3, 1, 2, 3] * z0 * y1 * x2 * z3 + f [1, 2, 2, 3] * z0 * y1 * y2 * x3 + f [2, 2, 2, 3] * z0 * y1 * y2 * y3 + f [3, 2, 2, 3] * z0 * y1 * y2 * z3 + f [1, 3, 2, 3] * z0 * y1 * z2 * x3 + f [2, 3, 2, 3] * z0 * y1 * z2 * y3 + f [3, 3, 2, 3] * z0 * y1 * z2 * z3 + f [1, 1, 3, 3] * z0 * z1 * x2 * x3 + f [2, 1, 3, 3] * z0 * z1 * x2 * y3 + f [3, 1, 3, 3] * z0 * z1 * x2 * z3 + f [1, 2, 3, 3] * z0 * z1 * y2 * x3 + f [2, 2, 3, 3] * z0 * z1 * y2 * y3 + f [3, 2, 3, 3] * z0 * z1 * y2 * z3 + f [1, 3, 3, 3] * z0 * z1 * z2 * x3 + f [2, 3, 3, 3] * z0 * z1 * z2 * y3 + f [3, 3, 3, 3] * z0 * z1 * z2 * z3 + f [1, 1, 1] * x0 * x1 * x6 + f [2, 1, 1] * x0 * x1 * y6 + f [3, 1, 1] * x0 * x1 * z6 + f [1, 2, 1] * x0 * y1 * x6 + f [2, 2, 1] * x0 * y1 * y6 + f [3, 2, 1] * x0 * y1 * z6 + f [1, 3, 1] * x0 * z1 * x6 + f [2, 3, 1] * x0 * z1 * y6 + f [3, 3, 1] * x0 * z1 * z6 + f [1, 1, 2] * y0 * x1 * x6 + f [2, 1, 2] * y0 * x1 * y6 + f [3, 1, 2] * y0 * x1 * z6 + f [1, 2, 2] * y0 * y1 * x6 + f [2, 2, 2] * y0 * y1 * y6 + f [3, 2, 2] * y0 * y1 * z6 + f [1, 3, 2] * y0 * z1 * x6 + f [2, 3, 2] * y0 * z1 * y6 + f [3, 3, 2] * y0 * z1 * z6 + f [1, 1, 3] * z0 * x1 * x6 + f [2, 1, 3] * z0 * x1 * y6 + f [3, 1, 3] * z0 * x1 * z6 + f [1, 2, 3] * z0 * y1 * x6 + f [2, 2, 3] * z0 * y1 * y6 + f [3, 2, 3] * z0 * y1 * z6 + f [1, 3, 3] * z0 * z1 * x6 + f [2, 3, 3] * z0 * z1 * y6 + f [3, 3, 3] * z0 * z1 * z6 + f [1, 1, 1] * x0 * x5 * x3 + f [2, 1, 1] * x0 * x5 * y3 + f [3, 1, 1] * x0 * x5 * z3 + f [1, 2, 1] * x0 * y5 * x3 + f [2, 2, 1] * x0 * y5 * y3 + f [3, 2, 1] * x0 * y5 * z3 + f [1, 3, 1] * x0 * z5 * x3 + f [2, 3, 1] * x0 * z5 * y3 + f [3, 3, 1] * x0 * z5 * z3 + f [1, 1, 2] * y0 * x5 * x3 + f [2, 1, 2] * y0 * x5 * y3 + f [3, 1, 2] * y0 * x5 * z3 + f [1, 2, 2] * y0 * y5 * x3 + f [2, 2, 2] * y0 * y5 * y3 + f [3, 2, 2] * y0 * y5 * z3 + f [1, 3, 2] * y0 * z5 * x3 + f [2, 3, 2] * y0 * z5 * y3 + f [3, 3, 2] * y0 * z5 * z3 + f [1, 1, 3] * z0 * x5 * x3 + f [2, 1, 3] * z0 * x5 * y3 + f [3, 1, 3] * z0 * x5 * z3 + f [1, 2, 3] * z0 * y5 * x3 + f [2, 2, 3] * z0 * y5 * y3 + f [3, 2, 3] * z0 * y5 * z3 + f [1, 3, 3] * z0 * z5 * x3 + f [2, 3, 3] * z0 * z5 * y3 + f [3, 3, 3] * z0 * z5 * z3 + f [1, 1] * x0 * x8 + f [2, 1] * x0 * y8 + f [3, 1] * x0 * z8 + f [1, 2] * y0 * x8 + f [2, 2] * y0 * y8 + f [3, 2] * y0 * z8 + f [1, 3] * z0 * x8 + f [2, 3] * z0 * y8 + f [3, 3] * z0 * z8 + f [1, 1, 1] * x4 * x2 * x3 + f [2, 1, 1] * x4 * x2 * y3 + f [3, 1, 1] * x4 * x2 * z3 + f [1, 2, 1] * x4 * y2 * x3 + f [2, 2, 1] * x4 * y2 * y3 + f [3, 2, 1] * x4 * y2 * z3 + f [1, 3, 1] * x4 * z2 * x3 + f [2, 3, 1] * x4 * z2 * y3 + f [3, 3, 1] * x4 * z2 * z3 + f [1, 1, 2] * y4 * x2 * x3 + f [2, 1, 2] * y4 * x2 * y3 + f [3, 1, 2] * y4 * x2 * z3 + f [1, 2, 2] * y4 * y2 * x3 + f [2, 2, 2] * y4 * y2 * y3 + f [3, 2, 2] * y4 * y2 * z3 + f [1, 3, 2] * y4 * z2 * x3 + f [2, 3, 2] * y4 * z2 * y3 + f [3, 3, 2] * y4 * z2 * z3 + f [1, 1, 3] * z4 * x2 * x3 + f [2, 1, 3] * z4 * x2 * y3 + f [3, 1, 3] * z4 * x2 * z3 + f [1, 2, 3] * z4 * y2 * x3 + f [2, 2, 3] * z4 * y2 * y3 + f [3, 2, 3] * z4 * y2 * z3 + f [1, 3, 3] * z4 * z2 * x3 + f [2, 3, 3] * z4 * z2 * y3 + f [3, 3, 3] * z4 * z2 * z3 + f [1, 1] * x4 * x6 + f [2, 1] * x4 * y6 + f [3, 1] * x4 * z6 + f [1, 2] * y4 * x6 + f [2, 2] * y4 * y6 + f [3, 2] * y4 * z6 + f [1, 3] * z4 * x6 + f [2, 3] * z4 * y6 + f [3, 3] * z4 * z6 + f [1, 1] * x7 * x3 + f [2, 1] * x7 * y3 + f [3, 1] * x7 * z3 + f [1, 2] * y7 * x3 + f [2, 2] * y7 * y3 + f [3, 2] * y7 * z3 + f [1, 3] * z7 * x3 + f [2, 3] * z7 * y3 + f [3, 3] * z7 * z3 + f [1] * x9 + f [2] * y9 + f [3] * z9]
theorem es3_1 (f : List Int → Int) (x0 x1 x2 x3 x4 x5 x6 x7 x8 x9 y0 y1 y2 y3 y4 y5 y6 y7 y8 y9 z0 z1 z2 z3 z4 z5 z6 z7 z8 z9 : Int) (h : f [] = 1) : prodF (ev3 f x0 x1 x2 x3 x4 x5 x6 x7 x8 x9 y0 y1 y2 y3 y4 y5 y6 y7 y8 y9 z0 z1 z2 z3 z4 z5 z6 z7 z8 z9) [x0, x1, x2, x3, x4, x5, x6, x7, x8, x9] 0 [5] = ev3 (nstep 1 f) x0 x1 x2 x3 x4 x5 x6 x7 x8 x9 y0 y1 y2 y3 y4 y5 y6 y7 y8 y9 z0 z1 z2 z3 z4 z5 z6 z7 z8 z9 := by
  simp [ev3, nstep, h, gi, prodF, blockP, dotP, tbl]
  try grind
theorem es3_2 (f : List Int → Int) (x0 x1 x2 x3 x4 x5 x6 x7 x8 x9 y0 y1 y2 y3 y4 y5 y6 y7 y8 y9 z0 z1 z2 z3 z4 z5 z6 z7 z8 z9 : Int) (h : f [] = 1) : prodF (ev3 f x0 x1 x2 x3 x4 x5 x6 x7 x8 x9 y0 y1 y2 y3 y4 y5 y6 y7 y8 y9 z0 z1 z2 z3 z4 z5 z6 z7 z8 z9) [y0, y1, y2, y3, y4, y5, y6, y7, y8, y9] 0 [5] = ev3 (nstep 2 f) x0 x1 x2 x3 x4 x5 x6 x7 x8 x9 y0 y1 y2 y3 y4 y5 y6 y7 y8 y9 z0 z1 z2 z3 z4 z5 z6 z7 z8 z9 := by
  simp [ev3, nstep, h, gi, prodF, blockP, dotP, tbl]
  try grind
theorem es3_3 (f : List Int → Int) (x0 x1 x2 x3 x4 x5 x6 x7 x8 x9 y0 y1 y2 y3 y4 y5 y6 y7 y8 y9 z0 z1 z2 z3 z4 z5 z6 z7 z8 z9 : Int) (h : f [] = 1) : prodF (ev3 f x0 x1 x2 x3 x4 x5 x6 x7 x8 x9 y0 y1 y2 y3 y4 y5 y6 y7 y8 y9 z0 z1 z2 z3 z4 z5 z6 z7 z8 z9) [z0, z1, z2, z3, z4, z5, z6, z7, z8, z9] 0 [5] = ev3 (nstep 3 f) x0 x1 x2 x3 x4 x5 x6 x7 x8 x9 y0 y1 y2 y3 y4 y5 y6 y7 y8 y9 z0 z1 z2 z3 z4 z5 z6 z7 z8 z9 := by
  simp [ev3, nstep, h, gi, prodF, blockP, dotP, tbl]
  try grind
end K37
end

section
set_option Elab.async false
set_option linter.all false
set_option maxRecDepth 100000
set_option maxHeartbeats 0
set_option autoImplicit false
namespace K37
open PySem Ws
def Let (a : Int) : Prop := a = 1 ∨ a = 2 ∨ a = 3

theorem ez0 (x0 y0 z0 : Int) : ev0 one0 x0 y0 z0 = zer 1 := by
  simp [ev0, one0, zer, List.replicate]
theorem ea0 (f : List Int → Int) (h : ∀ rp : List Int, rp ≠ [] → rp.length < 2 → (∀ a ∈ rp, a = 1 ∨ a = 2 ∨ a = 3) → f rp = 0) (x0 y0 z0 : Int) : ev0 f x0 y0 z0 = zer 1 := by
  simp [ev0, h, zer, List.replicate]
theorem eb0_1 (f : List Int → Int) {a : Int} (ha : Let a) : gi (ev0 f (if a = 1 then 1 else 0) (if a = 2 then 1 else 0) (if a = 3 then 1 else 0)) 0 = f [a] := by
  rcases ha with rfl | rfl | rfl
  all_goals simp [ev0, gi]
theorem ez1 (x0 x1 x2 y0 y1 y2 z0 z1 z2 : Int) : ev1 one0 x0 x1 x2 y0 y1 y2 z0 z1 z2 = zer 3 := by
  simp [ev1, one0, zer, List.replicate]
theorem ea1 (f : List Int → Int) (h : ∀ rp : List Int, rp ≠ [] → rp.length < 3 → (∀ a ∈ rp, a = 1 ∨ a = 2 ∨ a = 3) → f rp = 0) (x0 x1 x2 y0 y1 y2 z0 z1 z2 : Int) : ev1 f x0 x1 x2 y0 y1 y2 z0 z1 z2 = zer 3 := by
  simp [ev1, h, zer, List.replicate]
theorem eb1_1 (f : List Int → Int) {a : Int} (ha : Let a) : gi (ev1 f (if a = 1 then 1 else 0) 0 0 (if a = 2 then 1 else 0) 0 0 (if a = 3 then 1 else 0) 0 0) 0 = f [a] := by
  rcases ha with rfl | rfl | rfl
  all_goals simp [ev1, gi]
theorem eb1_2 (f : List Int → Int) {a b : Int} (ha : Let a) (hb : Let b) : gi (ev1 f (if a = 1 then 1 else 0) (if b = 1 then 1 else 0) 0 (if a = 2 then 1 else 0) (if b = 2 then 1 else 0) 0 (if a = 3 then 1 else 0) (if b = 3 then 1 else 0) 0) 2 = f [b, a] := by
  rcases ha with rfl | rfl | rfl
  all_goals rcases hb with rfl | rfl | rfl
  all_goals simp [ev1, gi]
theorem ez2 (x0 x1 x2 x3 x4 x5 y0 y1 y2 y3 y4 y5 z0 z1 z2 z3 z4 z5 : Int) : ev2 one0 x0 x1 x2 x3 x4 x5 y0 y1 y2 y3 y4 y5 z0 z1 z2 z3 z4 z5 = zer 6 := by
  simp [ev2, one0, zer, List.replicate]
theorem ea2 (f : List Int → Int) (h : ∀ rp : List Int, rp ≠ [] → rp.length < 4 → (∀ a ∈ rp, a = 1 ∨ a = 2 ∨ a = 3) → f rp = 0) (x0 x1 x2 x3 x4 x5 y0 y1 y2 y3 y4 y5 z0 z1 z2 z3 z4 z5 : Int) : ev2 f x0 x1 x2 x3 x4 x5 y0 y1 y2 y3 y4 y5 z0 z1 z2 z3 z4 z5 = zer 6 := by
  simp [ev2, h, zer, List.replicate]
theorem eb2_1 (f : List Int → Int) {a : Int} (ha : Let a) : gi (ev2 f (if a = 1 then 1 else 0) 0 0 0 0 0 (if a = 2 then 1 else 0) 0 0 0 0 0 (if a = 3 then 1 else 0) 0 0 0 0 0) 0 = f [a] := by
  rcases ha with rfl | rfl | rfl
  all_goals simp [ev2, gi]
theorem eb2_2 (f : List Int → Int) {a b : Int} (ha : Let a) (hb : Let b) : gi (ev2 f (if a = 1 then 1 else 0) (if b = 1 then 1 else 0) 0 0 0 0 (if a = 2 then 1 else 0) (if b = 2 then 1 else 0) 0 0 0 0 (if a = 3 then 1 else 0) (if b = 3 then 1 else 0) 0 0 0 0) 3 = f [b, a] := by
  rcases ha with rfl | rfl | rfl
  all_goals rcases hb with rfl | rfl | rfl
  all_goals simp [ev2, gi]
theorem eb2_3 (f : List Int → Int) {a b c : Int} (ha : Let a) (hb : Let b) (hc : Let c) : gi (ev2 f (if a = 1 then 1 else 0) (if b = 1 then 1 else 0) (if c = 1 then 1 else 0) 0 0 0 (if a = 2 then 1 else 0) (if b = 2 then 1 else 0) (if c = 2 then 1 else 0) 0 0 0 (if a = 3 then 1 else 0) (if b = 3 then 1 else 0) (if c = 3 then 1 else 0) 0 0 0) 5 = f [c, b, a] := by
  rcases ha with rfl | rfl | rfl
  all_goals rcases hb with rfl | rfl | rfl
  all_goals rcases hc with rfl | rfl | rfl
  all_goals simp [ev2, gi]
theorem ez3 (x0 x1 x2 x3 x4 x5 x6 x7 x8 x9 y0 y1 y2 y3 y4 y5 y6 y7 y8 y9 z0 z1 z2 z3 z4 z5 z6 z7 z8 z9 : Int) : ev3 one0 x0 x1 x2 x3 x4 x5 x6 x7 x8 x9 y0 y1 y2 y3 y4 y5 y6 y7 y8 y9 z0 z1 z2 z3 z4 z5 z6 z7 z8 z9 = zer 10 := by
  simp [ev3, one0, zer, List.replicate]
theorem ea3 (f : List Int → Int) (h : ∀ rp : List Int, rp ≠ [] → rp.length < 5 → (∀ a ∈ rp, a = 1 ∨ a = 2 ∨ a = 3) → f rp = 0) (x0 x1 x2 x3 x4 x5 x6 x7 x8 x9 y0 y1 y2 y3 y4 y5 y6 y7 y8 y9 z0 z1 z2 z3 z4 z5 z6 z7 z8 z9 : Int) : ev3 f x0 x1 x2 x3 x4 x5 x6 x7 x8 x9 y0 y1 y2 y3 y4 y5 y6 y7 y8 y9 z0 z1 z2 z3 z4 z5 z6 z7 z8 z9 = zer 10 := by
  simp [ev3, h, zer, List.replicate]
theorem eb3_1 (f : List Int → Int) {a : Int} (ha : Let a) : gi (ev3 f (if a = 1 then 1 else 0) 0 0 0 0 0 0 0 0 0 (if a = 2 then 1 else 0) 0 0 0 0 0 0 0 0 0 (if a = 3 then 1 else 0) 0 0 0 0 0 0 0 0 0) 0 = f [a] := by
  rcases ha with rfl | rfl | rfl
  all_goals simp [ev3, gi]
theorem eb3_2 (f : List Int → Int) {a b : Int} (ha : Let a) (hb : Let b) : gi (ev3 f (if a = 1 then 1 else 0) (if b = 1 then 1 else 0) 0 0 0 0 0 0 0 0 (if a = 2 then 1 else 0) (if b = 2 then 1 else 0) 0 0 0 0 0 0 0 0 (if a = 3 then 1 else 0) (if b = 3 then 1 else 0) 0 0 0 0 0 0 0 0) 4 = f [b, a] := by
  rcases ha with rfl | rfl | rfl
  all_goals rcases hb with rfl | rfl | rfl
  all_goals simp [ev3, gi]
theorem eb3_3 (f : List Int → Int) {a b c : Int} (ha : Let a) (hb : Let b) (hc : Let c) : gi (ev3 f (if a = 1 then 1 else 0) (if b = 1 then 1 else 0) (if c = 1 then 1 else 0) 0 0 0 0 0 0 0 (if a = 2 then 1 else 0) (if b = 2 then 1 else 0) (if c = 2 then 1 else 0) 0 0 0 0 0 0 0 (if a = 3 then 1 else 0) (if b = 3 then 1 else 0) (if c = 3 then 1 else 0) 0 0 0 0 0 0 0) 7 = f [c, b, a] := by
  rcases ha with rfl | rfl | rfl
  all_goals rcases hb with rfl | rfl | rfl
  all_goals rcases hc with rfl | rfl | rfl
  all_goals simp [ev3, gi]
theorem eb3_4 (f : List Int → Int) {a b c d : Int} (ha : Let a) (hb : Let b) (hc : Let c) (hd : Let d) : gi (ev3 f (if a = 1 then 1 else 0) (if b = 1 then 1 else 0) (if c = 1 then 1 else 0) (if d = 1 then 1 else 0) 0 0 0 0 0 0 (if a = 2 then 1 else 0) (if b = 2 then 1 else 0) (if c = 2 then 1 else 0) (if d = 2 then 1 else 0) 0 0 0 0 0 0 (if a = 3 then 1 else 0) (if b = 3 then 1 else 0) (if c = 3 then 1 else 0) (if d = 3 then 1 else 0) 0 0 0 0 0 0) 9 = f [d, c, b, a] := by
  rcases ha with rfl | rfl | rfl
  all_goals rcases hb with rfl | rfl | rfl
  all_goals rcases hc with rfl | rfl | rfl
  all_goals rcases hd with rfl | rfl | rfl
  all_goals simp [ev3, gi]
end K37
end

section
set_option Elab.async false
set_option linter.all false
set_option maxRecDepth 100000
set_option maxHeartbeats 0
set_option autoImplicit false
namespace K37
open PySem Ws
def xAt (Xs : List (List Int)) (l : Int) : List Int := Xs.getD (l.natAbs - 1) []
def vStep (ns : List Int) (Xs : List (List Int)) (acc : List Int) (l : Int) : List Int := mu ns acc (if 0 < l then xAt Xs l else iu ns (xAt Xs l))
def vF (ns : List Int) (W : Nat) (Xs : List (List Int)) (w : List Int) : List Int := w.foldl (vStep ns Xs) (zer W)
/-- three elements -/
def Tri (W : Nat) (Xs : List (List Int)) : Prop := ∃ X Y Z, Xs = [X, Y, Z] ∧ X.length = W ∧ Y.length = W ∧ Z.length = W
def bAt (p : List Int) (l : Int) (i : Nat) : Int := if i < p.length then (if p.getD i 0 = l then 1 else 0) else 0
def XsB (W : Nat) (p : List Int) : List (List Int) := [(List.range W).map (bAt p 1), (List.range W).map (bAt p 2), (List.range W).map (bAt p 3)]
structure EvP (ns : List Int) (W n : Nat) (E : List (List Int) → (List Int → Int) → List Int) : Prop where
  st : ∀ Xs f, Tri W Xs → f [] = 1 → ∀ l, Let l → mu ns (E Xs f) (xAt Xs l) = E Xs (nstep l f)
  z : ∀ Xs, E Xs one0 = zer W
  len : ∀ Xs f, (E Xs f).length = W
  al : ∀ Xs f, (∀ rp : List Int, rp ≠ [] → rp.length < n → (∀ a ∈ rp, Let a) → f rp = 0) → E Xs f = zer W
  br : ∀ p f, p ≠ [] → p.length < n → (∀ a ∈ p, Let a) → E (XsB W p) f = zer W → f p.reverse = 0
def Wd (w : List Int) : Prop := ∀ l ∈ w, (-3 ≤ l ∧ l ≤ 3) ∧ l ≠ 0
theorem Let.xlen {W : Nat} {Xs : List (List Int)} (t : Tri W Xs) {l : Int} (h : Let l) : (xAt Xs l).length = W := by
  obtain ⟨X, Y, Z, rfl, hX, hY, hZ⟩ := t
  rcases h with rfl | rfl | rfl
  · exact hX
  · exact hY
  · exact hZ
theorem xAt_neg (Xs : List (List Int)) (l : Int) : xAt Xs (-l) = xAt Xs l := by
  unfold xAt
  rw [Int.natAbs_neg]
section
variable {ns : List Int} {W n : Nat} {E : List (List Int) → (List Int → Int) → List Int}
theorem vF_snoc (Xs : List (List Int)) (w : List Int) (l : Int) : vF ns W Xs (w ++ [l]) = vStep ns Xs (vF ns W Xs w) l := by
  unfold vF
  rw [List.foldl_append]
  rfl
theorem vF_num (S : SF ns W) (P : EvP ns W n E) {Xs : List (List Int)} (t : Tri W Xs) (w : List Int) (hw0 : Wd w) : vF ns W Xs w = E Xs (numR w) := by
  have go : ∀ r : List Int, Wd r.reverse → vF ns W Xs r.reverse = E Xs (numR r.reverse) := by
   intro r
   induction r with
   | nil => intro _; exact (P.z Xs).symm
   | cons l r ih =>
    rw [List.reverse_cons]
    generalize r.reverse = w at ih
    intro hw
    have hw' : Wd w := fun a ha => hw a (List.mem_append_left _ ha)
    have hl := hw l (List.mem_append_right _ (List.mem_singleton.mpr rfl))
    rw [vF_snoc, ih hw', numR_snoc]
    unfold vStep
    have f1 := numR_nil w
    by_cases h : 0 < l
    · rw [if_pos h]
      exact P.st Xs _ t f1 l (by unfold Let; omega)
    · rw [if_neg h]
      have hm : Let (-l) := by unfold Let; omega
      have e := P.st Xs (nstep l (numR w)) t (by rw [nstep_nil]; exact f1) (-l) hm
      have b := nstep_back (l := -l) (by omega) (numR w)
      rw [Int.neg_neg] at b
      rw [b, xAt_neg] at e
      have xl : (xAt Xs l).length = W := by rw [← xAt_neg]; exact hm.xlen t
      rw [← e, S.ga _ _ _ (P.len _ _) xl (S.ilen _), (S.gv _ xl).1, (S.gz _ (P.len _ _)).2]
  have := go w.reverse (by rw [List.reverse_reverse]; exact hw0)
  rwa [List.reverse_reverse] at this
end
theorem gi0 (x : Int) (r : List Int) : gi (x :: r) 0 = x := rfl
theorem gi1 (x : Int) (r : List Int) (i : Nat) : gi (x :: r) (i + 1 : Nat) = gi r (i : Nat) := by
  unfold gi
  simp

def E0 (Xs : List (List Int)) (f : List Int → Int) : List Int := ev0 f (gi (xAt Xs 1) 0) (gi (xAt Xs 2) 0) (gi (xAt Xs 3) 0)
theorem Est0 : ∀ Xs f, Tri 1 Xs → f [] = 1 → ∀ l, Let l → mu [2] (E0 Xs f) (xAt Xs l) = E0 Xs (nstep l f) := by
  rintro Xs f ⟨X, Y, Z, rfl, hX, hY, hZ⟩ h l hl
  match X, Y, Z, hX, hY, hZ with
  | [x0], [y0], [z0], _, _, _ =>
    rcases hl with rfl | rfl | rfl
    · exact es0_1 f x0 y0 z0 h
    · exact es0_2 f x0 y0 z0 h
    · exact es0_3 f x0 y0 z0 h
theorem Ebr0 : ∀ p f, p ≠ [] → p.length < 2 → (∀ a ∈ p, Let a) → E0 (XsB 1 p) f = zer 1 → f p.reverse = 0 := by
  intro p f h0 hl ha he
  match p, h0, hl, ha, he with
  | [], h0, _, _, _ => exact absurd rfl h0
  | [a], _, _, ha, he =>
    have e := eb0_1 f (ha a (by simp))
    have z : gi (zer 1) 0 = 0 := rfl
    rw [← z, ← he]
    exact e.symm
  | _ :: _ :: _, _, hl, _, _ => simp only [List.length_cons] at hl; omega
theorem evp0 : EvP [2] 1 2 E0 where
  st := Est0
  z := fun Xs => ez0 _ _ _
  len := fun Xs f => by simp [E0, ev0]
  al := fun Xs f h => ea0 f (fun rp h1 h2 h3 => h rp h1 h2 h3) _ _ _
  br := Ebr0
def E1 (Xs : List (List Int)) (f : List Int → Int) : List Int := ev1 f (gi (xAt Xs 1) 0) (gi (xAt Xs 1) 1) (gi (xAt Xs 1) 2) (gi (xAt Xs 2) 0) (gi (xAt Xs 2) 1) (gi (xAt Xs 2) 2) (gi (xAt Xs 3) 0) (gi (xAt Xs 3) 1) (gi (xAt Xs 3) 2)
theorem Est1 : ∀ Xs f, Tri 3 Xs → f [] = 1 → ∀ l, Let l → mu [3] (E1 Xs f) (xAt Xs l) = E1 Xs (nstep l f) := by
  rintro Xs f ⟨X, Y, Z, rfl, hX, hY, hZ⟩ h l hl
  match X, Y, Z, hX, hY, hZ with
  | [x0, x1, x2], [y0, y1, y2], [z0, z1, z2], _, _, _ =>
    rcases hl with rfl | rfl | rfl
    · exact es1_1 f x0 x1 x2 y0 y1 y2 z0 z1 z2 h
    · exact es1_2 f x0 x1 x2 y0 y1 y2 z0 z1 z2 h
    · exact es1_3 f x0 x1 x2 y0 y1 y2 z0 z1 z2 h
theorem Ebr1 : ∀ p f, p ≠ [] → p.length < 3 → (∀ a ∈ p, Let a) → E1 (XsB 3 p) f = zer 3 → f p.reverse = 0 := by
  intro p f h0 hl ha he
  match p, h0, hl, ha, he with
  | [], h0, _, _, _ => exact absurd rfl h0
  | [a], _, _, ha, he =>
    have e := eb1_1 f (ha a (by simp))
    have z : gi (zer 3) 0 = 0 := rfl
    rw [← z, ← he]
    exact e.symm
  | [a, b], _, _, ha, he =>
    have e := eb1_2 f (ha a (by simp)) (ha b (by simp))
    have z : gi (zer 3) 2 = 0 := rfl
    rw [← z, ← he]
    exact e.symm
  | _ :: _ :: _ :: _, _, hl, _, _ => simp only [List.length_cons] at hl; omega
theorem evp1 : EvP [3] 3 3 E1 where
  st := Est1
  z := fun Xs => ez1 _ _ _ _ _ _ _ _ _
  len := fun Xs f => by simp [E1, ev1]
  al := fun Xs f h => ea1 f (fun rp h1 h2 h3 => h rp h1 h2 h3) _ _ _ _ _ _ _ _ _
  br := Ebr1
def E2 (Xs : List (List Int)) (f : List Int → Int) : List Int := ev2 f (gi (xAt Xs 1) 0) (gi (xAt Xs 1) 1) (gi (xAt Xs 1) 2) (gi (xAt Xs 1) 3) (gi (xAt Xs 1) 4) (gi (xAt Xs 1) 5) (gi (xAt Xs 2) 0) (gi (xAt Xs 2) 1) (gi (xAt Xs 2) 2) (gi (xAt Xs 2) 3) (gi (xAt Xs 2) 4) (gi (xAt Xs 2) 5) (gi (xAt Xs 3) 0) (gi (xAt Xs 3) 1) (gi (xAt Xs 3) 2) (gi (xAt Xs 3) 3) (gi (xAt Xs 3) 4) (gi (xAt Xs 3) 5)
theorem Est2 : ∀ Xs f, Tri 6 Xs → f [] = 1 → ∀ l, Let l → mu [4] (E2 Xs f) (xAt Xs l) = E2 Xs (nstep l f) := by
  rintro Xs f ⟨X, Y, Z, rfl, hX, hY, hZ⟩ h l hl
  match X, Y, Z, hX, hY, hZ with
  | [x0, x1, x2, x3, x4, x5], [y0, y1, y2, y3, y4, y5], [z0, z1, z2, z3, z4, z5], _, _, _ =>
    rcases hl with rfl | rfl | rfl
    · exact es2_1 f x0 x1 x2 x3 x4 x5 y0 y1 y2 y3 y4 y5 z0 z1 z2 z3 z4 z5 h
    · exact es2_2 f x0 x1 x2 x3 x4 x5 y0 y1 y2 y3 y4 y5 z0 z1 z2 z3 z4 z5 h
    · exact es2_3 f x0 x1 x2 x3 x4 x5 y0 y1 y2 y3 y4 y5 z0 z1 z2 z3 z4 z5 h
theorem Ebr2 : ∀ p f, p ≠ [] → p.length < 4 → (∀ a ∈ p, Let a) → E2 (XsB 6 p) f = zer 6 → f p.reverse = 0 := by
  intro p f h0 hl ha he
  match p, h0, hl, ha, he with
  | [], h0, _, _, _ => exact absurd rfl h0
  | [a], _, _, ha, he =>
    have e := eb2_1 f (ha a (by simp))
    have z : gi (zer 6) 0 = 0 := rfl
    rw [← z, ← he]
    exact e.symm
  | [a, b], _, _, ha, he =>
    have e := eb2_2 f (ha a (by simp)) (ha b (by simp))
    have z : gi (zer 6) 3 = 0 := rfl
    rw [← z, ← he]
    exact e.symm
  | [a, b, c], _, _, ha, he =>
    have e := eb2_3 f (ha a (by simp)) (ha b (by simp)) (ha c (by simp))
    have z : gi (zer 6) 5 = 0 := rfl
    rw [← z, ← he]
    exact e.symm
  | _ :: _ :: _ :: _ :: _, _, hl, _, _ => simp only [List.length_cons] at hl; omega
theorem evp2 : EvP [4] 6 4 E2 where
  st := Est2
  z := fun Xs => ez2 _ _ _ _ _ _ _ _ _ _ _ _ _ _ _ _ _ _
  len := fun Xs f => by simp [E2, ev2]
  al := fun Xs f h => ea2 f (fun rp h1 h2 h3 => h rp h1 h2 h3) _ _ _ _ _ _ _ _ _ _ _ _ _ _ _ _ _ _
  br := Ebr2
def E3 (Xs : List (List Int)) (f : List Int → Int) : List Int := ev3 f (gi (xAt Xs 1) 0) (gi (xAt Xs 1) 1) (gi (xAt Xs 1) 2) (gi (xAt Xs 1) 3) (gi (xAt Xs 1) 4) (gi (xAt Xs 1) 5) (gi (xAt Xs 1) 6) (gi (xAt Xs 1) 7) (gi (xAt Xs 1) 8) (gi (xAt Xs 1) 9) (gi (xAt Xs 2) 0) (gi (xAt Xs 2) 1) (gi (xAt Xs 2) 2) (gi (xAt Xs 2) 3) (gi (xAt Xs 2) 4) (gi (xAt Xs 2) 5) (gi (xAt Xs 2) 6) (gi (xAt Xs 2) 7) (gi (xAt Xs 2) 8) (gi (xAt Xs 2) 9) (gi (xAt Xs 3) 0) (gi (xAt Xs 3) 1) (gi (xAt Xs 3) 2) (gi (xAt Xs 3) 3) (gi (xAt Xs 3) 4) (gi (xAt Xs 3) 5) (gi (xAt Xs 3) 6) (gi (xAt Xs 3) 7) (gi (xAt Xs 3) 8) (gi (xAt Xs 3) 9)
theorem Est3 : ∀ Xs f, Tri 10 Xs → f [] = 1 → ∀ l, Let l → mu [5] (E3 Xs f) (xAt Xs l) = E3 Xs (nstep l f) := by
  rintro Xs f ⟨X, Y, Z, rfl, hX, hY, hZ⟩ h l hl
  match X, Y, Z, hX, hY, hZ with
  | [x0, x1, x2, x3, x4, x5, x6, x7, x8, x9], [y0, y1, y2, y3, y4, y5, y6, y7, y8, y9], [z0, z1, z2, z3, z4, z5, z6, z7, z8, z9], _, _, _ =>
    rcases hl with rfl | rfl | rfl
    · exact es3_1 f x0 x1 x2 x3 x4 x5 x6 x7 x8 x9 y0 y1 y2 y3 y4 y5 y6 y7 y8 y9 z0 z1 z2 z3 z4 z5 z6 z7 z8 z9 h
    · exact es3_2 f x0 x1 x2 x3 x4 x5 x6 x7 x8 x9 y0 y1 y2 y3 y4 y5 y6 y7 y8 y9 z0 z1 z2 z3 z4 z5 z6 z7 z8 z9 h
    · exact es3_3 f x0 x1 x2 x3 x4 x5 x6 x7 x8 x9 y0 y1 y2 y3 y4 y5 y6 y7 y8 y9 z0 z1 z2 z3 z4 z5 z6 z7 z8 z9 h
theorem Ebr3 : ∀ p f, p ≠ [] → p.length < 5 → (∀ a ∈ p, Let a) → E3 (XsB 10 p) f = zer 10 → f p.reverse = 0 := by
  intro p f h0 hl ha he
  match p, h0, hl, ha, he with
  | [], h0, _, _, _ => exact absurd rfl h0
  | [a], _, _, ha, he =>
    have e := eb3_1 f (ha a (by simp))
    have z : gi (zer 10) 0 = 0 := rfl
    rw [← z, ← he]
    exact e.symm
  | [a, b], _, _, ha, he =>
    have e := eb3_2 f (ha a (by simp)) (ha b (by simp))
    have z : gi (zer 10) 4 = 0 := rfl
    rw [← z, ← he]
    exact e.symm
  | [a, b, c], _, _, ha, he =>
    have e := eb3_3 f (ha a (by simp)) (ha b (by simp)) (ha c (by simp))
    have z : gi (zer 10) 7 = 0 := rfl
    rw [← z, ← he]
    exact e.symm
  | [a, b, c, d], _, _, ha, he =>
    have e := eb3_4 f (ha a (by simp)) (ha b (by simp)) (ha c (by simp)) (ha d (by simp))
    have z : gi (zer 10) 9 = 0 := rfl
    rw [← z, ← he]
    exact e.symm
  | _ :: _ :: _ :: _ :: _ :: _, _, hl, _, _ => simp only [List.length_cons] at hl; omega
theorem evp3 : EvP [5] 10 5 E3 where
  st := Est3
  z := fun Xs => ez3 _ _ _ _ _ _ _ _ _ _ _ _ _ _ _ _ _ _ _ _ _ _ _ _ _ _ _ _ _ _
  len := fun Xs f => by simp [E3, ev3]
  al := fun Xs f h => ea3 f (fun rp h1 h2 h3 => h rp h1 h2 h3) _ _ _ _ _ _ _ _ _ _ _ _ _ _ _ _ _ _ _ _ _ _ _ _ _ _ _ _ _ _
  br := Ebr3
end K37
end

section
set_option Elab.async false
set_option linter.all false
set_option maxRecDepth 100000
set_option maxHeartbeats 0
set_option autoImplicit false
namespace K37
open PySem Ws
theorem brk_loop {kill : List Nat} {body : SV → SE → SH → Out} {x : SV} {xs : List SV} {env env1 : SE} {h h1 : SH} (e : body x env h = .bk env1 h1) : loopF kill body (x :: xs) env h = .nx (wipeE env1 kill) h1 := by
  rw [loopF, e]
theorem rng2 (c : Nat) : rangeOf 1 ((c : Nat) + 1 : Int) = (List.range' 1 c).map fun (j : Nat) => SV.int (j : Nat) := by
  unfold rangeOf
  have : ((c : Int) + 1 - 1).toNat = c := by omega
  have e : List.range' 1 c = (List.range' 0 c).map (1 + ·) := by rw [List.map_add_range']
  rw [this, List.range_eq_range', e, List.map_map]
  refine List.map_congr_left fun k _ => ?_
  show SV.int (1 + (k : Int)) = SV.int ((1 + k : Nat) : Int)
  rw [Int.natCast_add]
  rfl
/-! ### _law_number -/
def inF (l : Int) (F : List Int → Int) : Nat → Int → Int → List Int → Int
  | _, _, acc, [] => acc
  | b, s, acc, a :: q => if a ≠ (l.natAbs : Nat) ∨ (0 < l ∧ 1 < b) then acc else
    let s2 := if l < 0 then -s else s
    inF l F (b + 1) s2 (acc + s2 * F q) q
theorem inF_neg {l : Int} (hl : l < 0) (F : List Int → Int) : ∀ (rp : List Int) (b : Nat) (s acc : Int), inF l F b s acc rp = acc + s * (nstep l F rp - F rp)
  | [], b, s, acc => by simp [inF, nstep]
  | a :: q, b, s, acc => by
    have n0 : ¬ (0 < l) := by omega
    have e : ((l.natAbs : Nat) : Int) = -l := by omega
    simp only [inF, nstep, n0, if_false, false_and, or_false, hl, if_true, e]
    by_cases h : a = -l
    · rw [if_neg (by simp [h]), if_pos h, inF_neg hl F q]
      grind
    · rw [if_pos h, if_neg h]
      grind
theorem inF_num {l : Int} (h0 : l ≠ 0) (F : List Int → Int) (rp : List Int) : inF l F 1 1 (F rp) rp = nstep l F rp := by
  by_cases hl : l < 0
  · rw [inF_neg hl]
    omega
  · have hp : 0 < l := by omega
    have e : ((l.natAbs : Nat) : Int) = l := by omega
    cases rp with
    | nil => rfl
    | cons a q =>
      simp only [inF, nstep, hl, if_false, hp, if_true, true_and, e]
      by_cases h : a = l
      · rw [if_neg (by simp [h]), if_pos h]
        cases q with
        | nil => simp [inF]
        | cons c r => simp [inF, hp]
      · rw [if_pos (.inl h), if_neg h]
        omega
/-- the counts of the prefixes -/
def cs (F : List Int → Int) (P : List Int) : List Int := (List.range (P.length + 1)).map fun k => F (P.take k).reverse
theorem cs_len (F : List Int → Int) (P : List Int) : (cs F P).length = P.length + 1 := by simp [cs]
theorem cs_get (F : List Int → Int) (P : List Int) {k : Nat} (h : k ≤ P.length) : gi (cs F P) (k : Nat) = F (P.take k).reverse := by
  unfold gi cs
  rw [Int.toNat_natCast, List.getD_eq_getElem?_getD, List.getElem?_map, List.getElem?_range (by omega)]
  rfl
/-- counts, a value or a cell -/
def CvOk (h : SH) (cv : SV) (c : List Int) : Prop := cv = .lst (iv c) ∨ ∃ n, cv = .ref n ∧ h[n]? = some (.lst (iv c))
theorem CvOk.more {h : SH} {cv : SV} {c : List Int} (k : CvOk h cv c) (o : SO) : CvOk (h ++ [o]) cv c := by
  rcases k with rfl | ⟨n, rfl, e⟩
  · exact .inl rfl
  · refine .inr ⟨n, rfl, ?_⟩
    rw [List.getElem?_append_left (List.getElem?_eq_some_iff.mp e).1]
    exact e
theorem CvOk.at_ {h : SH} {cv : SV} {c : List Int} (k : CvOk h cv c) {i : Nat} (hi : i < c.length) : itemV cv (.int (i : Nat)) h = some (.int (gi c (i : Nat))) := by
  rcases k with rfl | ⟨n, rfl, e⟩
  · exact at_iv' hi
  · rw [itemV_ref e]
    exact at_iv' hi
theorem CvOk.last {h : SH} {cv : SV} {c : List Int} (k : CvOk h cv c) (hc : 0 < c.length) : itemV cv (.int (-1)) h = some (.int (gi c ((c.length - 1 : Nat) : Int))) := by
  have e0 : itemAt (iv c) (-1) = some (.int (gi c ((c.length - 1 : Nat) : Int))) := by
    have lt : c.length - 1 < c.length := by omega
    rw [← at_iv' lt]
    unfold itemAt L2.atI L2.ixN
    have l : (iv c).length = c.length := List.length_map _
    rw [l, if_neg (by decide), if_pos (by omega), if_pos (by omega), if_pos (by omega)]
    simp only [Option.bind_some]
    congr 1
    omega
  rcases k with rfl | ⟨n, rfl, e⟩
  · exact e0
  · rw [itemV_ref e]
    exact e0
theorem CvOk.len {h : SH} {cv : SV} {c : List Int} (k : CvOk h cv c) : builtin h .len [cv] = some (.int (c.length : Nat)) := by
  rcases k with rfl | ⟨n, rfl, e⟩
  · show (some (SV.int ((iv c).length : Nat))) = _
    rw [List.length_map]
  · show (itemsOf h (.ref n)).map _ = _
    have : itemsOf h (.ref n) = some (iv c) := by simp only [itemsOf, e]
    rw [this]
    show some (SV.int ((iv c).length : Nat)) = _
    rw [List.length_map]
abbrev fnd (h : SH) (fs : List Int) : SH := h ++ [.lst (iv fs)]
theorem fnd_get (h : SH) (fs : List Int) : (fnd h fs)[h.length]? = some (.lst (iv fs)) := by
  unfold fnd
  rw [List.getElem?_append_right (Nat.le_refl _), Nat.sub_self]
  rfl
theorem fnd_at (h : SH) (fs : List Int) {k : Nat} (hk : k < fs.length) : itemV (.ref h.length) (.int (k : Nat)) (fnd h fs) = some (.int (gi fs (k : Nat))) := by
  rw [itemV_ref (fnd_get h fs)]
  exact at_iv' hk
theorem fnd_set (h : SH) (fs : List Int) {k : Nat} (hk : k < fs.length) (v : Int) : setIxH (.ref h.length) (.int (k : Nat)) (.int v) (fnd h fs) = some (fnd h (fs.set k v)) := by
  have ix : L2.ixN (iv fs).length (k : Nat) = some k := by
    rw [List.length_map]
    unfold L2.ixN
    rw [if_pos (by omega), if_pos (by omega), Int.toNat_natCast]
  unfold setIxH
  simp only [fnd_get, ix]
  unfold fnd
  rw [List.set_append_right _ _ (Nat.le_refl _), Nat.sub_self, List.set_cons_zero]
  unfold iv
  rw [List.map_set]
theorem gi_set (fs : List Int) {k i : Nat} (hk : k < fs.length) (v : Int) : gi (fs.set k v) (i : Nat) = if i = k then v else gi fs (i : Nat) := by
  unfold gi
  rw [Int.toNat_natCast, List.getD_eq_getElem?_getD, List.getD_eq_getElem?_getD, List.getElem?_set]
  by_cases h : k = i
  · rw [if_pos h, if_pos h.symm]
    subst h
    simp [hk]
  · rw [if_neg h, if_neg (fun z => h z.symm)]
theorem take_rev (P : List Int) {j : Nat} (hj : j < P.length) : (P.take (j + 1)).reverse = gi P (j : Nat) :: (P.take j).reverse := by
  have g : gi P (j : Nat) = P[j] := by
    unfold gi
    rw [Int.toNat_natCast, List.getD_eq_getElem?_getD, List.getElem?_eq_getElem hj]
    rfl
  rw [← List.take_append_getElem hj, List.reverse_append, g]
  rfl
theorem set_self (fs : List Int) {k : Nat} (hk : k < fs.length) : fs.set k (gi fs (k : Nat)) = fs := by
  have g : gi fs (k : Nat) = fs[k] := by
    unfold gi
    rw [Int.toNat_natCast, List.getD_eq_getElem?_getD, List.getElem?_eq_getElem hk]
    rfl
  rw [g, List.set_getElem_self]
section
variable {p : Pr} {wv : SV} {P : List Int} {F : List Int → Int} {l : Int} {h : SH} {cv : SV}
theorem in_loop (hc : CvOk h cv (cs F P)) {at_ : Nat} (ha : at_ ≤ P.length) : ∀ (j b : Nat) (s : Int) (fs : List Int), j + b = at_ + 1 → 1 ≤ b → fs.length = P.length + 1 → (s = 1 ∨ s = -1) →
    ∃ s2, loopF [7] (turn p (.name 7) b34l0) ((List.range' b j).map fun (k : Nat) => SV.int (k : Nat)) [some wv, some (tv1 P), some cv, some (.int l), some (.ref h.length), some (.int (at_ : Nat)), some (.int s), none] (fnd h fs) =
      .nx [some wv, some (tv1 P), some cv, some (.int l), some (.ref h.length), some (.int (at_ : Nat)), some (.int s2), none] (fnd h (fs.set at_ (inF l F b s (gi fs (at_ : Nat)) (P.take j).reverse)))
  | 0, b, s, fs, e, hb, lf, hs => by
    refine ⟨s, ?_⟩
    have := set_self fs (k := at_) (by omega)
    simp only [List.take_zero, List.reverse_nil, inF, this]
    rfl
  | j + 1, b, s, fs, e, hb, lf, hs => by
    have hj : j < P.length := by omega
    have i1 : itemAt (iv P) (((at_ : Nat) : Int) - ((b : Nat) : Int)) = some (.int (gi P (j : Nat))) := by
      rw [show ((at_ : Nat) : Int) - ((b : Nat) : Int) = (j : Nat) by omega]
      exact at_iv' hj
    have i2 : itemV cv (.int (((at_ : Nat) : Int) - ((b : Nat) : Int))) (fnd h fs) = some (.int (F (P.take j).reverse)) := by
      rw [show ((at_ : Nat) : Int) - ((b : Nat) : Int) = (j : Nat) by omega, (hc.more _).at_ (by rw [cs_len]; omega), cs_get F P (by omega)]
    have i3 := fnd_at h fs (k := at_) (by omega)
    have ab : (if l < 0 then -l else l) = ((l.natAbs : Nat) : Int) := by split <;> omega
    have ne : cmpop (fnd h fs) .ne (.int (gi P (j : Nat))) (.int ((l.natAbs : Nat) : Int)) = some (!(gi P (j : Nat) == ((l.natAbs : Nat) : Int))) := by
      simp [cmpop, SV.fit, veq, SV.pd, PyData.eqv]
    rw [take_rev P hj]
    rw [List.range'_succ, List.map_cons]
    by_cases c : gi P (j : Nat) ≠ (l.natAbs : Nat) ∨ (0 < l ∧ 1 < b)
    · refine ⟨s, ?_⟩
      have br : turn p (.name 7) b34l0 (.int (b : Nat)) [some wv, some (tv1 P), some cv, some (.int l), some (.ref h.length), some (.int (at_ : Nat)), some (.int s), none] (fnd h fs) =
          .bk [some wv, some (tv1 P), some cv, some (.int l), some (.ref h.length), some (.int (at_ : Nat)), some (.int s), some (.int (b : Nat))] (fnd h fs) := by
        rw [turn_eq (env2 := [some wv, some (tv1 P), some cv, some (.int l), some (.ref h.length), some (.int (at_ : Nat)), some (.int s), some (.int (b : Nat))]) (by simp)]
        unfold b34l0
        rw [evSs]
        by_cases c1 : gi P (j : Nat) = (l.natAbs : Nat)
        · have c2 := c.resolve_left (fun z => z c1)
          have b1 : (!(gi P (j : Nat) == ((l.natAbs : Nat) : Int))) = false := by rw [c1]; simp
          have t1 : decide (0 < l) = true := decide_eq_true c2.1
          have t2 : decide ((1 : Int) < (b : Nat)) = true := decide_eq_true (by omega)
          simp only [evSs, evS, evT, ev, evs, look_zero, look_succ, Res.bind_ok, ofO, binop_sub, itemV_tup, i1, bi_abs, ab, ne, b1, cmp_gt, t1, t2, Out.of, if_true, if_false, Bool.false_eq_true]
        · have b1 : (!(gi P (j : Nat) == ((l.natAbs : Nat) : Int))) = true := by simp [c1]
          simp only [evSs, evS, evT, ev, evs, look_zero, look_succ, Res.bind_ok, ofO, binop_sub, itemV_tup, i1, bi_abs, ab, ne, b1, Out.of, if_true]
      rw [brk_loop br]
      have fin : inF l F b s (gi fs (at_ : Nat)) (gi P (j : Nat) :: (P.take j).reverse) = gi fs (at_ : Nat) := by
        simp only [inF]
        rw [if_pos c]
      rw [fin, set_self fs (by omega)]
      rfl
    · have c1 : gi P (j : Nat) = (l.natAbs : Nat) := Classical.not_not.mp fun z => c (.inl z)
      have c2 : ¬ (0 < l ∧ 1 < b) := fun z => c (.inr z)
      have b1 : (!(gi P (j : Nat) == ((l.natAbs : Nat) : Int))) = false := by rw [c1]; simp
      have go : ∀ s2 : Int, s2 = (if l < 0 then -s else s) → turn p (.name 7) b34l0 (.int (b : Nat)) [some wv, some (tv1 P), some cv, some (.int l), some (.ref h.length), some (.int (at_ : Nat)), some (.int s), none] (fnd h fs) =
          .nx [some wv, some (tv1 P), some cv, some (.int l), some (.ref h.length), some (.int (at_ : Nat)), some (.int s2), some (.int (b : Nat))] (fnd h (fs.set at_ (gi fs (at_ : Nat) + s2 * F (P.take j).reverse))) := by
        intro s2 hs2
        have ml : binop .mul (.int s2) (.int (F (P.take j).reverse)) = some (.int (s2 * F (P.take j).reverse)) := by
          refine binop_mul (mf_l ?_)
          rcases hs with rfl | rfl <;> (rw [hs2]; split <;> omega)
        have st := fnd_set h fs (k := at_) (by omega) (gi fs (at_ : Nat) + s2 * F (P.take j).reverse)
        rw [turn_eq (env2 := [some wv, some (tv1 P), some cv, some (.int l), some (.ref h.length), some (.int (at_ : Nat)), some (.int s), some (.int (b : Nat))]) (by simp)]
        unfold b34l0
        have e1 : evS p (.cond (.or (.cmp .ne (.ix (.var 1) (.bin .sub (.var 5) (.var 7))) (.bi .abs (.cons (.var 3) .nil))) (.and (.cmp .gt (.var 3) (.int (0))) (.cmp .gt (.var 7) (.int (1))))) (.cons .brk
  .nil) .nil) [some wv, some (tv1 P), some cv, some (.int l), some (.ref h.length), some (.int (at_ : Nat)), some (.int s), some (.int (b : Nat))] (fnd h fs) = .nx [some wv, some (tv1 P), some cv, some (.int l), some (.ref h.length), some (.int (at_ : Nat)), some (.int s), some (.int (b : Nat))] (fnd h fs) := by
          by_cases g : 0 < l
          · have t1 : decide (0 < l) = true := decide_eq_true g
            have t2 : decide ((1 : Int) < (b : Nat)) = false := decide_eq_false (by omega)
            simp only [evSs, evS, evT, ev, evs, look_zero, look_succ, Res.bind_ok, ofO, binop_sub, itemV_tup, i1, bi_abs, ab, ne, b1, cmp_gt, t1, t2, Out.of, if_true, if_false, Bool.false_eq_true]
          · have t1 : decide (0 < l) = false := decide_eq_false g
            simp only [evSs, evS, evT, ev, evs, look_zero, look_succ, Res.bind_ok, ofO, binop_sub, itemV_tup, i1, bi_abs, ab, ne, b1, cmp_gt, t1, Out.of, if_true, if_false, Bool.false_eq_true]
        rw [nx_ e1]
        have e2 : evS p (.cond (.cmp .lt (.var 3) (.int (0))) (.cons (.set (.name 6) (.neg (.var 6)))
  .nil) .nil) [some wv, some (tv1 P), some cv, some (.int l), some (.ref h.length), some (.int (at_ : Nat)), some (.int s), some (.int (b : Nat))] (fnd h fs) = .nx [some wv, some (tv1 P), some cv, some (.int l), some (.ref h.length), some (.int (at_ : Nat)), some (.int s2), some (.int (b : Nat))] (fnd h fs) := by
          by_cases g : l < 0
          · rw [if_pos g] at hs2
            subst hs2
            simp only [evSs, evS, evT, ev, look_zero, look_succ, Res.bind_ok, ofO, cmp_lt, decide_eq_true g, Out.of, if_true, asInt_int, Option.map_some, store_name, List.set]
          · rw [if_neg g] at hs2
            subst hs2
            simp only [evSs, evS, evT, ev, look_zero, look_succ, Res.bind_ok, ofO, cmp_lt, decide_eq_false g, Out.of, if_false, Bool.false_eq_true]
        rw [nx_ e2]
        simp only [evSs, evS, ev, look_zero, look_succ, Res.bind_ok, ofO, i3, binop_sub, i2, ml, binop_add, Out.of, st]
      have lf2 : (fs.set at_ (gi fs (at_ : Nat) + (if l < 0 then -s else s) * F (P.take j).reverse)).length = P.length + 1 := by rw [List.length_set]; exact lf
      obtain ⟨s3, r⟩ := in_loop hc ha j (b + 1) (if l < 0 then -s else s) (fs.set at_ (gi fs (at_ : Nat) + (if l < 0 then -s else s) * F (P.take j).reverse)) (by omega) (by omega) lf2 (by rcases hs with rfl | rfl <;> split <;> simp)
      refine ⟨s3, ?_⟩
      rw [loop_nx (go _ rfl)]
      have g2 := gi_set fs (k := at_) (i := at_) (by omega) (gi fs (at_ : Nat) + (if l < 0 then -s else s) * F (P.take j).reverse)
      rw [if_pos rfl] at g2
      rw [g2, List.set_set] at r
      have fin : inF l F b s (gi fs (at_ : Nat)) (gi P (j : Nat) :: (P.take j).reverse) = inF l F (b + 1) (if l < 0 then -s else s) (gi fs (at_ : Nat) + (if l < 0 then -s else s) * F (P.take j).reverse) (P.take j).reverse := by
        simp only [inF]
        rw [if_neg c]
      rw [fin]
      exact r
theorem at_loop (hl : l ≠ 0) (hP : P.length ≤ 900) (hc : CvOk h cv (cs F P)) : ∀ (todo at_ : Nat) (fs : List Int), at_ + todo = P.length + 1 → fs.length = P.length + 1 → (∀ k, k < at_ → gi fs (k : Nat) = nstep l F (P.take k).reverse) →
    ∃ fs2, loopF [5, 6, 7] (turn p (.name 5) b34l1) ((List.range' at_ todo).map fun (k : Nat) => SV.int (k : Nat)) [some wv, some (tv1 P), some cv, some (.int l), some (.ref h.length), none, none, none] (fnd h fs) =
      .nx [some wv, some (tv1 P), some cv, some (.int l), some (.ref h.length), none, none, none] (fnd h fs2) ∧ fs2.length = P.length + 1 ∧ ∀ k, k < P.length + 1 → gi fs2 (k : Nat) = nstep l F (P.take k).reverse
  | 0, at_, fs, e, lf, hk => ⟨fs, rfl, lf, fun k hk2 => hk k (by omega)⟩
  | todo + 1, at_, fs, e, lf, hk => by
    have i1 : itemV cv (.int (at_ : Nat)) (fnd h fs) = some (.int (F (P.take at_).reverse)) := by
      rw [(hc.more _).at_ (by rw [cs_len]; omega), cs_get F P (by omega)]
    have st := fnd_set h fs (k := at_) (by omega) (F (P.take at_).reverse)
    obtain ⟨s2, lp⟩ := in_loop (p := p) (wv := wv) (l := l) hc (at_ := at_) (by omega) at_ 1 1 (fs.set at_ (F (P.take at_).reverse)) (by omega) (by omega) (by rw [List.length_set]; exact lf) (.inl rfl)
    have g2 := gi_set fs (k := at_) (i := at_) (by omega) (F (P.take at_).reverse)
    rw [if_pos rfl] at g2
    rw [g2, List.set_set, inF_num hl] at lp
    have rg : evi p (.range2 (.int (1)) (.bin .add (.var 5) (.int (1)))) [some wv, some (tv1 P), some cv, some (.int l), some (.ref h.length), some (.int (at_ : Nat)), some (.int 1), none] (fnd h (fs.set at_ (F (P.take at_).reverse))) = .ok ((List.range' 1 at_).map fun (k : Nat) => SV.int (k : Nat)) (fnd h (fs.set at_ (F (P.take at_).reverse))) := by
      have q : evi p (.range2 (.int (1)) (.bin .add (.var 5) (.int (1)))) [some wv, some (tv1 P), some cv, some (.int l), some (.ref h.length), some (.int (at_ : Nat)), some (.int 1), none] (fnd h (fs.set at_ (F (P.take at_).reverse))) = if (small62 1 && small62 ((at_ : Nat) + 1 : Int)) = true then Res.ok (rangeOf 1 ((at_ : Nat) + 1 : Int)) (fnd h (fs.set at_ (F (P.take at_).reverse))) else Res.bad := by
        simp only [evi, ev, look_zero, look_succ, Res.bind_ok, ofO, binop_add]
      rw [q, rng2]
      refine if_pos ?_
      have := small_nat (n := at_ + 1) (by omega)
      push_cast at this
      rw [this]
      rfl
    have one : turn p (.name 5) b34l1 (.int (at_ : Nat)) [some wv, some (tv1 P), some cv, some (.int l), some (.ref h.length), none, none, none] (fnd h fs) =
        .nx [some wv, some (tv1 P), some cv, some (.int l), some (.ref h.length), some (.int (at_ : Nat)), some (.int s2), none] (fnd h (fs.set at_ (nstep l F (P.take at_).reverse))) := by
      rw [turn_eq (env2 := [some wv, some (tv1 P), some cv, some (.int l), some (.ref h.length), some (.int (at_ : Nat)), none, none]) (by simp)]
      unfold b34l1
      rw [nx_ (env1 := [some wv, some (tv1 P), some cv, some (.int l), some (.ref h.length), some (.int (at_ : Nat)), none, none]) (h1 := fnd h (fs.set at_ (F (P.take at_).reverse))) (by simp only [evS, ev, look_zero, look_succ, Res.bind_ok, ofO, i1, Out.of, st])]
      rw [nx_ (set_ (v := .int 1) (h1 := fnd h (fs.set at_ (F (P.take at_).reverse))) (by simp only [ev]))]
      rw [nx_ (loop_ (by simpa only [List.set] using rg) (by simpa only [List.set] using lp))]
      rfl
    rw [List.range'_succ, List.map_cons, loop_nx one]
    refine at_loop hl hP hc todo (at_ + 1) (fs.set at_ (nstep l F (P.take at_).reverse)) (by omega) (by rw [List.length_set]; exact lf) ?_
    intro k hk2
    rw [gi_set fs (by omega)]
    by_cases q : k = at_
    · rw [if_pos q, q]
    · rw [if_neg q]
      exact hk k (by omega)
end
end K37
end

section
set_option Elab.async false
set_option linter.all false
set_option maxRecDepth 100000
set_option maxHeartbeats 0
set_option autoImplicit false
namespace K37
open PySem Ws
theorem letter_loop {p : Pr} {wv : SV} {P : List Int} (hP : P.length ≤ 11) : ∀ (w : List Int) (F : List Int → Int) (h : SH) (cv : SV), CvOk h cv (cs F P) → (∀ l ∈ w, l ≠ 0) →
    ∃ cv2 h2, loopF [3, 4, 5, 6, 7] (turn p (.name 3) b34l2) (iv w) [some wv, some (tv1 P), some cv, none, none, none, none, none] h = .nx [some wv, some (tv1 P), some cv2, none, none, none, none, none] h2 ∧ CvOk h2 cv2 (cs (w.foldl (fun f l => nstep l f) F) P)
  | [], F, h, cv, hc, _ => ⟨cv, h, rfl, hc⟩
  | l :: w, F, h, cv, hc, hw => by
    have hl := hw l List.mem_cons_self
    have len := hc.len
    rw [cs_len] at len
    have lenM := (hc.more (.lst (iv (zer (P.length + 1))))).len
    rw [cs_len] at lenM
    have one : mkL false [SV.int 0] h = .ok (.lst [.int 0]) h := mkL_val (by decide)
    have cel : mkL true (iv (zer (P.length + 1))) h = .ok (.ref h.length) (fnd h (zer (P.length + 1))) := mkL_cell (by have : seqLen = 16777216 := rfl; rw [len_iv, zlen]; omega)
    have rp := rep_of (n := P.length + 1) (by omega)
    obtain ⟨fs2, lp, l2, k2⟩ := at_loop (p := p) (wv := wv) hl (by omega) hc (P.length + 1) 0 (zer (P.length + 1)) (by omega) zlen (fun k hk => by omega)
    rw [← List.range_eq_range', ← rng] at lp
    have e2 : fs2 = cs (nstep l F) P := by
      refine List.ext_getElem (by rw [l2, cs_len]) fun k h1 h2 => ?_
      have g1 := k2 k (by omega)
      have g2 := cs_get (nstep l F) P (k := k) (by omega)
      unfold gi at g1 g2
      rw [Int.toNat_natCast, List.getD_eq_getElem?_getD, List.getElem?_eq_getElem h1] at g1
      rw [Int.toNat_natCast, List.getD_eq_getElem?_getD, List.getElem?_eq_getElem h2] at g2
      exact g1.trans g2.symm
    have turn1 : turn p (.name 3) b34l2 (.int l) [some wv, some (tv1 P), some cv, none, none, none, none, none] h =
        .nx [some wv, some (tv1 P), some (.ref h.length), some (.int l), some (.ref h.length), none, none, none] (fnd h fs2) := by
      rw [turn_eq (env2 := [some wv, some (tv1 P), some cv, some (.int l), none, none, none, none]) (by simp)]
      unfold b34l2
      have cast : (((P.length + 1 : Nat) : Int)) = ((P.length + 1 : Nat) : Int) := rfl
      rw [nx_ (set_ (v := .ref h.length) (h1 := fnd h (zer (P.length + 1))) (by simp only [ev, evs, look_zero, look_succ, Res.bind_ok, ofO, one, len, rp, cel]))]
      rw [nx_ (loop_ (range_ev (n := P.length + 1) (by simp only [List.set, ev, evs, look_zero, look_succ, Res.bind_ok, ofO, lenM]) (by omega)) (by simpa only [List.set] using lp))]
      rfl
    have hc2 : CvOk (fnd h fs2) (.ref h.length) (cs (nstep l F) P) := .inr ⟨_, rfl, by rw [← e2]; exact fnd_get h fs2⟩
    obtain ⟨cv3, h3, r, hc3⟩ := letter_loop (p := p) (wv := wv) hP w (nstep l F) _ _ hc2 (fun x hx => hw x (List.mem_cons_of_mem _ hx))
    refine ⟨cv3, h3, ?_, hc3⟩
    show loopF _ _ (SV.int l :: iv w) _ _ = _
    rw [loop_nx turn1]
    exact r
theorem cs_one (P : List Int) : cs one0 P = 1 :: zer P.length := by
  unfold cs
  rw [List.range_succ_eq_map, List.map_cons, List.map_map]
  have e : (List.range P.length).map ((fun k => one0 (P.take k).reverse) ∘ Nat.succ) = zer P.length := by
    refine List.ext_getElem (by simp [zer]) fun k h1 h2 => ?_
    have hk : k < P.length := by simpa using h1
    simp only [List.getElem_map, List.getElem_range, Function.comp_apply, zer, List.getElem_replicate]
    unfold one0
    rw [if_neg]
    intro z
    have q := congrArg List.length z
    rw [List.length_reverse, List.length_take, List.length_nil] at q
    have : min (k + 1) P.length = 0 := q
    omega
  rw [e]
  rfl
theorem law_number {d : Nat} {hh : SH} {w P : List Int} (hP : P.length ≤ 11) (hw : Wd w) : callF tb (d + 1) 34 [tv1 w, tv1 P] hh = .ok (.int (numR w P.reverse)) hh := by
  have hc0 : CvOk [] (.lst (iv (cs one0 P))) (cs one0 P) := .inl rfl
  obtain ⟨cv2, h2, lp, hc⟩ := letter_loop (p := prOf tb d) (wv := tv1 w) hP w one0 [] _ hc0 (fun l hl => (hw l hl).2)
  have last := hc.last (by rw [cs_len]; omega)
  rw [cs_len, Nat.add_sub_cancel, cs_get _ P (Nat.le_refl _), List.take_length] at last
  have one : mkL false [SV.int 1] [] = .ok (.lst [.int 1]) [] := mkL_val (by decide)
  have one0' : mkL false [SV.int 0] [] = .ok (.lst [.int 0]) [] := mkL_val (by decide)
  have zl : mkL false (iv (zer P.length)) [] = .ok (.lst (iv (zer P.length))) [] := mkL_val (by have : seqLen = 16777216 := rfl; rw [len_iv, zlen]; omega)
  have rp := rep_of (n := P.length) (by omega)
  have ad : binop .add (.lst [.int 1]) (.lst (iv (zer P.length))) = some (.lst (iv (cs one0 P))) := by
    rw [cs_one]
    show (if decide ([SV.int 1].length + (iv (zer P.length)).length ≤ seqLen) = true then some (SV.lst ([SV.int 1] ++ iv (zer P.length))) else none) = _
    rw [if_pos (decide_eq_true (by have : seqLen = 16777216 := rfl; rw [len_iv, zlen]; simp; omega))]
    rfl
  refine call_ (F := f34) (h1 := h2) rfl rfl dry2 rfl ?_ (fin_val rfl rfl)
  show evSs (prOf tb d) b34 [some (tv1 w), some (tv1 P), none, none, none, none, none, none] [] = _
  unfold b34
  rw [nx_ (set_ (v := .lst (iv (cs one0 P))) (h1 := []) (by simp only [ev, evs, look_zero, look_succ, Res.bind_ok, ofO, bi_len_tup, len_iv, one, one0', rp, zl, ad]))]
  rw [nx_ (loop_ (xs := iv w) (h1 := []) (by simp only [evi, ev, List.set, look_zero, ofO, Res.bind_ok]) (by simpa only [List.set] using lp))]
  exact rt_ (ret_ (by simp only [ev, look_zero, look_succ, ofO, Res.bind_ok, asInt_int, Option.map_some, last, numR]))

/-! ### _law_patterns, _law_always -/
def pats : Nat → List (List Int)
  | 0 => [[]]
  | m + 1 => (pats m).flatMap fun p => [p ++ [1], p ++ [2], p ++ [3]]
theorem pats_mem : ∀ (m : Nat) (p : List Int), p ∈ pats m ↔ p.length = m ∧ ∀ a ∈ p, Let a
  | 0, p => by
    simp only [pats, List.mem_singleton, List.length_eq_zero_iff]
    constructor
    · rintro rfl
      exact ⟨rfl, fun _ h => nomatch h⟩
    · exact fun h => h.1
  | m + 1, p => by
    simp only [pats, List.mem_flatMap, List.mem_cons, List.not_mem_nil, or_false]
    constructor
    · rintro ⟨q, hq, h⟩
      obtain ⟨h1, h2⟩ := (pats_mem m q).mp hq
      have go : ∀ a : Int, Let a → p = q ++ [a] → p.length = m + 1 ∧ ∀ a ∈ p, Let a := by
        rintro a ha rfl
        refine ⟨by simp [h1], fun x hx => ?_⟩
        rcases List.mem_append.mp hx with hx | hx
        · exact h2 x hx
        · rw [List.mem_singleton.mp hx]; exact ha
      rcases h with h | h | h
      · exact go 1 (.inl rfl) h
      · exact go 2 (.inr (.inl rfl)) h
      · exact go 3 (.inr (.inr rfl)) h
    · rintro ⟨h1, h2⟩
      have ne : p ≠ [] := by rintro rfl; simp at h1
      refine ⟨p.dropLast, (pats_mem m _).mpr ⟨by rw [List.length_dropLast]; omega, fun a ha => h2 a (List.dropLast_subset _ ha)⟩, ?_⟩
      have e := List.dropLast_concat_getLast ne
      rcases h2 _ (List.getLast_mem ne) with q | q | q <;> rw [q] at e
      · exact .inl e.symm
      · exact .inr (.inl e.symm)
      · exact .inr (.inr e.symm)
theorem law_pats1 {d : Nat} {hh : SH} : callF tb (d + 1) 35 [.int 1] hh = .ok (.lst ((pats 1).map tv1)) hh := by kernel_rfl
theorem law_pats2 {d : Nat} {hh : SH} : callF tb (d + 1) 35 [.int 2] hh = .ok (.lst ((pats 2).map tv1)) hh := by kernel_rfl
theorem law_pats3 {d : Nat} {hh : SH} : callF tb (d + 1) 35 [.int 3] hh = .ok (.lst ((pats 3).map tv1)) hh := by kernel_rfl
theorem law_pats4 {d : Nat} {hh : SH} : callF tb (d + 1) 35 [.int 4] hh = .ok (.lst ((pats 4).map tv1)) hh := by kernel_rfl
theorem law_pats {d m : Nat} {hh : SH} (h1 : 1 ≤ m) (h4 : m ≤ 4) : callF tb (d + 1) 35 [.int (m : Nat)] hh = .ok (.lst ((pats m).map tv1)) hh := by
  have : m = 1 ∨ m = 2 ∨ m = 3 ∨ m = 4 := by omega
  rcases this with rfl | rfl | rfl | rfl
  · exact law_pats1
  · exact law_pats2
  · exact law_pats3
  · exact law_pats4
theorem pats_len {m : Nat} (h : m ≤ 4) : (pats m).length ≤ 81 := by
  have : m = 0 ∨ m = 1 ∨ m = 2 ∨ m = 3 ∨ m = 4 := by omega
  rcases this with rfl | rfl | rfl | rfl | rfl <;> decide
def zeroAt (w : List Int) (m : Nat) : Bool := (pats m).all fun p => numR w p.reverse == 0
theorem blsOf_map {α : Type} (f : α → Bool) : ∀ l : List α, blsOf (l.map fun x => SV.bl (f x)) = some (l.map f)
  | [] => rfl
  | x :: l => by simp [blsOf, blsOf_map f l]
theorem alw_turn {d m : Nat} {hh : SH} {w : List Int} {sv : SV} (hw : Wd w) (h1 : 1 ≤ m) (h4 : m ≤ 4) {o : Option SV} : turn (prOf tb (d + 1)) (.name 2) b38l0 (.int (m : Nat)) [some (tv1 w), some sv, o, none] hh =
    if zeroAt w m = true then .nx [some (tv1 w), some sv, some (.int (m : Nat)), none] hh else .rt (.bl false) hh := by
  have cp : ev (prOf tb (d + 1)) (.comp false (.cmp .ne (.call 34 [0, 1] (.cons (.var 0) (.cons (.var 3) .nil)) .nil) (.int (0))) (.name 3) (.it (.call 35 [0] (.cons (.var 2) .nil) .nil)) [3]) [some (tv1 w), some sv, some (.int (m : Nat)), none] hh =
      .ok (.lst ((pats m).map fun p => SV.bl (!(numR w p.reverse == 0)))) hh := by
    have cl : (prOf tb (d + 1)).call 35 [.int (m : Nat)] hh = .ok (.lst ((pats m).map tv1)) hh := law_pats h1 h4
    rw [compA_ (ps := pats m) tv1 (fun p => SV.bl (!(numR w p.reverse == 0))) (h1 := hh) (by simp only [evi, ev, evs, look_zero, look_succ, Res.bind_ok, ofO, List.cons_append, List.nil_append, df35, perm1, cl])]
    · refine mkL_val ?_
      rw [List.length_map]
      have := pats_len h4
      have : seqLen = 16777216 := rfl
      omega
    · intro p hp
      have hl := (pats_mem m p).mp hp
      have cn : (prOf tb (d + 1)).call 34 [tv1 w, tv1 p] hh = .ok (.int (numR w p.reverse)) hh := law_number (d := d) (by omega) hw
      have ne : cmpop hh .ne (.int (numR w p.reverse)) (.int 0) = some (!(numR w p.reverse == 0)) := by
        simp [cmpop, SV.fit, veq, SV.pd, PyData.eqv]
      refine ⟨[some (tv1 w), some sv, some (.int (m : Nat)), some (tv1 p)], rfl, ?_⟩
      simp only [ev, evs, look_zero, look_succ, Res.bind_ok, ofO, List.cons_append, List.nil_append, df34, perm2, cn, ne, Option.map_some]
  have an : builtin hh .any [.lst ((pats m).map fun p => SV.bl (!(numR w p.reverse == 0)))] = some (.bl (!zeroAt w m)) := by
    show ((blsOf ((pats m).map fun p => SV.bl (!(numR w p.reverse == 0)))).map fun bs => SV.bl (bs.any id)) = _
    rw [blsOf_map, Option.map_some, List.any_map]
    unfold zeroAt
    rw [List.not_all_eq_any_not]
    rfl
  rw [turn_eq (env2 := [some (tv1 w), some sv, some (.int (m : Nat)), none]) (by simp)]
  unfold b38l0
  have tst : evT (prOf tb (d + 1)) (.bi .any (.cons (.comp false (.cmp .ne (.call 34 [0, 1] (.cons (.var 0) (.cons (.var 3) .nil)) .nil) (.int (0))) (.name 3) (.it (.call 35 [0] (.cons (.var 2) .nil) .nil)) [3]) .nil)) [some (tv1 w), some sv, some (.int (m : Nat)), none] hh = .ok (!zeroAt w m) hh := by
    rw [evT, evs, cp]
    simp only [evs, Res.bind_ok, ofO, an, Option.bind_some, truthOf]
  rw [evSs, evS, tst]
  cases zeroAt w m <;> rfl
theorem alw_loop {d : Nat} {hh : SH} {w : List Int} {sv : SV} (hw : Wd w) : ∀ (todo m : Nat), 1 ≤ m → m + todo ≤ 5 → loopF [2] (turn (prOf tb (d + 1)) (.name 2) b38l0) ((List.range' m todo).map fun (k : Nat) => SV.int (k : Nat)) [some (tv1 w), some sv, none, none] hh =
    if (List.range' m todo).all (zeroAt w) = true then .nx [some (tv1 w), some sv, none, none] hh else .rt (.bl false) hh
  | 0, m, _, _ => rfl
  | todo + 1, m, h1, h5 => by
    have t := alw_turn (d := d) (hh := hh) (sv := sv) hw h1 (by omega) (o := none)
    have ih := alw_loop (d := d) (hh := hh) (sv := sv) hw todo (m + 1) (by omega) (by omega)
    rw [List.range'_succ, List.map_cons, List.all_cons]
    by_cases c : zeroAt w m = true
    · rw [if_pos c] at t
      rw [loop_nx t, c, Bool.true_and]
      exact ih
    · have c' : zeroAt w m = false := by simpa using c
      rw [if_neg c] at t
      rw [loopF, t, c', Bool.false_and]
      rfl
/-- are all numbers 0? -/
def alwB (w : List Int) (n : Nat) : Bool := (List.range' 1 (n - 1)).all (zeroAt w)
theorem law_always {d n : Nat} {hh : SH} {w : List Int} (hw : Wd w) (h2 : 2 ≤ n) (h5 : n ≤ 5) : callF tb (d + 2) 38 [tv1 w, .int (n : Nat)] hh = .ok (.bl (alwB w n)) hh := by
  have lp := alw_loop (d := d) (hh := []) (sv := .int (n : Nat)) hw (n - 1) 1 (by omega) (by omega)
  have rg : evi (prOf tb (d + 1)) (.range2 (.int (1)) (.var 1)) [some (tv1 w), some (.int (n : Nat)), none, none] [] = .ok ((List.range' 1 (n - 1)).map fun (k : Nat) => SV.int (k : Nat)) [] := by
    have q : evi (prOf tb (d + 1)) (.range2 (.int (1)) (.var 1)) [some (tv1 w), some (.int (n : Nat)), none, none] [] = if (small62 1 && small62 ((n : Nat) : Int)) = true then Res.ok (rangeOf 1 ((n : Nat) : Int)) [] else Res.bad := by
      simp only [evi, ev, look_zero, look_succ, Res.bind_ok, ofO]
    rw [q, small_nat (by omega)]
    have := rng2 (n - 1)
    rw [show (((n - 1 : Nat) : Int) + 1) = ((n : Nat) : Int) by omega] at this
    rw [this]
    rfl
  have run : evSs (prOf tb (d + 1)) b38 [some (tv1 w), some (.int (n : Nat)), none, none] [] = .rt (.bl (alwB w n)) [] := by
    unfold b38
    have e := loop_ rg lp
    rw [evSs, e]
    unfold alwB
    cases (List.range' 1 (n - 1)).all (zeroAt w) <;> rfl
  exact call_ (F := f38) (h1 := []) rfl rfl (by simp [dryL, SV.dry, dry_iv]) rfl run (fin_val rfl rfl)
theorem alwB_iff {w : List Int} {n : Nat} : alwB w n = true ↔ ∀ p : List Int, p ≠ [] → p.length < n → (∀ a ∈ p, Let a) → numR w p.reverse = 0 := by
  unfold alwB zeroAt
  simp only [List.all_eq_true, List.mem_range', beq_iff_eq]
  constructor
  · intro h p h0 hl ha
    have l0 : 0 < p.length := List.length_pos_iff.mpr h0
    exact h p.length ⟨p.length - 1, by omega, by omega⟩ p ((pats_mem _ _).mpr ⟨rfl, ha⟩)
  · rintro h m ⟨i, hi, rfl⟩ p hp
    obtain ⟨h1, h2⟩ := (pats_mem _ _).mp hp
    exact h p (by rintro rfl; simp at h1; omega) (by omega) h2
end K37
end

section
set_option Elab.async false
set_option linter.all false
set_option maxRecDepth 100000
set_option maxHeartbeats 0
set_option autoImplicit false
namespace K37
open PySem Ws
/-! ### dicts from patterns to numbers -/
abbrev Dct := List (List Int × Int)
def G (L : Dct) (q : List Int) : Int := (L.map fun kv => if kv.1 = q then kv.2 else 0).sum
def NK (L : Dct) : Prop := (L.map (·.1)).Nodup
def addR : Dct → List Int → Int → Dct
  | [], p, δ => [(p, 0 + δ)]
  | (k, v) :: r, p, δ => if k = p then (k, v + δ) :: r else (k, v) :: addR r p δ
def lk : Dct → List Int → Int
  | [], _ => 0
  | (k, v) :: r, p => if k = p then v else lk r p
theorem G_cons (k : List Int) (v : Int) (r : Dct) (q : List Int) : G ((k, v) :: r) q = (if k = q then v else 0) + G r q := by
  simp [G]
theorem G_add (p : List Int) (δ : Int) (q : List Int) : ∀ L : Dct, G (addR L p δ) q = G L q + if p = q then δ else 0
  | [] => by simp [addR, G]
  | (k, v) :: r => by
    simp only [addR]
    by_cases h : k = p
    · rw [if_pos h, G_cons, G_cons]
      subst h
      split <;> omega
    · rw [if_neg h, G_cons, G_cons, G_add p δ q r]
      omega
theorem addR_keys (p : List Int) (δ : Int) : ∀ (L : Dct) (kv : List Int × Int), kv ∈ addR L p δ → kv.1 = p ∨ ∃ v, (kv.1, v) ∈ L
  | [], kv, h => by
    simp [addR] at h
    exact .inl (by rw [h])
  | (k, v) :: r, kv, h => by
    simp only [addR] at h
    by_cases e : k = p
    · rw [if_pos e] at h
      rcases List.mem_cons.mp h with q | q
      · exact .inl (by rw [q]; exact e)
      · exact .inr ⟨kv.2, List.mem_cons_of_mem _ q⟩
    · rw [if_neg e] at h
      rcases List.mem_cons.mp h with q | q
      · exact .inr ⟨v, by rw [q]; exact List.mem_cons_self⟩
      · rcases addR_keys p δ r kv q with z | ⟨u, z⟩
        · exact .inl z
        · exact .inr ⟨u, List.mem_cons_of_mem _ z⟩
theorem addR_NK (p : List Int) (δ : Int) : ∀ L : Dct, NK L → NK (addR L p δ)
  | [], _ => by simp [NK, addR]
  | (k, v) :: r, h => by
    have h' := List.nodup_cons.mp (show (k :: r.map (·.1)).Nodup from h)
    simp only [addR]
    by_cases e : k = p
    · rw [if_pos e]
      exact h
    · rw [if_neg e]
      refine List.nodup_cons.mpr ⟨fun hm => ?_, addR_NK p δ r h'.2⟩
      obtain ⟨kv, hkv, hk⟩ := List.mem_map.mp hm
      rcases addR_keys p δ r kv hkv with z | ⟨u, z⟩
      · exact e (hk.symm.trans z)
      · exact h'.1 (List.mem_map.mpr ⟨_, z, hk⟩)
def sg (l : Int) (m : Nat) : Int := if l < 0 ∧ m % 2 = 1 then -1 else 1
theorem sg_succ {l : Int} (h : l < 0) (m : Nat) : sg l (m + 1) = -sg l m := by
  unfold sg
  simp only [h, true_and]
  rcases Nat.mod_two_eq_zero_or_one m with e | e
  · rw [if_pos (by omega), if_neg (by omega)]
  · rw [if_neg (by omega), if_pos (by omega)]
    rfl
theorem sg_pos {l : Int} (h : 0 < l) (m : Nat) : sg l m = 1 := by
  unfold sg
  rw [if_neg (by omega)]
/-- one pattern's turns -/
def manyF (l a : Int) (p : List Int) (n : Int) : Nat → Nat → Dct → Dct
  | 0, _, A => A
  | t + 1, m, A => manyF l a p n t (m + 1) (addR A (p ++ List.replicate m a) (sg l m * n))
def cf (l a : Int) (p q : List Int) : Nat → Nat → Int
  | 0, _ => 0
  | t + 1, m => (if p ++ List.replicate m a = q then sg l m else 0) + cf l a p q t (m + 1)
theorem G_many (l a : Int) (p : List Int) (n : Int) (q : List Int) : ∀ (t m : Nat) (A : Dct), G (manyF l a p n t m A) q = G A q + cf l a p q t m * n
  | 0, m, A => by simp [manyF, cf]
  | t + 1, m, A => by
    rw [manyF, G_many l a p n q t, G_add, cf, Int.add_mul]
    split <;> omega
def boundF (l : Int) (most : Nat) (p : List Int) : Nat := (min (if 0 < l then p.length + 1 else most) most) + 1 - p.length
def allF (l a : Int) (most : Nat) : Dct → Dct → Dct
  | [], A => A
  | (p, n) :: r, A => allF l a most r (manyF l a p n (boundF l most p) 0 A)
def dl (p : List Int) : List Int → Int := fun rp => if rp = p.reverse then 1 else 0
theorem nstep_lin (l n : Int) (f g : List Int → Int) : ∀ rp : List Int, nstep l (fun r => n * f r + g r) rp = n * nstep l f rp + nstep l g rp
  | [] => rfl
  | x :: t => by
    have ih := nstep_lin l n f g t
    simp only [nstep, ih]
    split <;> split <;> grind
theorem nstep_congr (l : Int) {f g : List Int → Int} : ∀ (rp : List Int), (∀ r : List Int, r.length ≤ rp.length → f r = g r) → nstep l f rp = nstep l g rp
  | [], h => h [] (Nat.le_refl _)
  | x :: t, h => by
    have ih := nstep_congr l t fun r hr => h r (by simp; omega)
    simp only [nstep, ih, h (x :: t) (Nat.le_refl _), h t (by simp)]
theorem nstep_zero (l : Int) : ∀ rp : List Int, nstep l (fun _ => 0) rp = 0
  | [] => rfl
  | x :: t => by
    simp only [nstep, nstep_zero l t]
    split <;> split <;> rfl
theorem nstep_sum (l : Int) (rp : List Int) : ∀ L : Dct, nstep l (fun r => G L r.reverse) rp = (L.map fun kv => nstep l (dl kv.1) rp * kv.2).sum
  | [] => by
    have : (fun r : List Int => G [] r.reverse) = fun _ => 0 := by funext r; rfl
    rw [this, nstep_zero]
    rfl
  | (k, v) :: L => by
    have e : (fun r : List Int => G ((k, v) :: L) r.reverse) = fun r => v * dl k r + G L r.reverse := by
      funext r
      rw [G_cons]
      unfold dl
      by_cases h : k = r.reverse
      · rw [if_pos h, if_pos (by rw [h, List.reverse_reverse])]
        omega
      · rw [if_neg h, if_neg (fun z => h (by rw [z, List.reverse_reverse]))]
        omega
    rw [e, nstep_lin, nstep_sum l rp L, List.map_cons, List.sum_cons, Int.mul_comm]
theorem nstep_short (l : Int) (p : List Int) : ∀ rq : List Int, rq.length < p.length → nstep l (dl p) rq = 0
  | [], h => by
    show (if [] = p.reverse then (1 : Int) else 0) = 0
    rw [if_neg]
    intro z
    have := congrArg List.length z
    simp at this
    omega
  | x :: t, h => by
    have h' : t.length < p.length := by simp at h; omega
    have n1 : dl p (x :: t) = 0 := by
      unfold dl
      rw [if_neg]
      intro z
      have := congrArg List.length z
      simp at this h
      omega
    have n2 : dl p t = 0 := by
      unfold dl
      rw [if_neg]
      intro z
      have := congrArg List.length z
      simp at this h
      omega
    simp only [nstep, n1, n2, nstep_short l p t h']
    split <;> split <;> rfl
theorem rep_rev (p q : List Int) (m : Nat) (a : Int) : p ++ List.replicate m a = q ↔ q.reverse = List.replicate m a ++ p.reverse := by
  constructor
  · rintro rfl
    rw [List.reverse_append, List.reverse_replicate]
  · intro h
    have := congrArg List.reverse h
    rw [List.reverse_reverse, List.reverse_append, List.reverse_reverse, List.reverse_replicate] at this
    exact this.symm
theorem cf_shift {l a : Int} (hl : l < 0) (p : List Int) (x : Int) (t : List Int) : ∀ (n m : Nat), cf l a p (x :: t).reverse n (m + 1) = -(if x = a then cf l a p t.reverse n m else 0)
  | 0, m => by simp [cf]
  | n + 1, m => by
    rw [cf, cf, cf_shift hl p x t n (m + 1), sg_succ hl]
    have e : (p ++ List.replicate (m + 1) a = (x :: t).reverse) ↔ (x = a ∧ p ++ List.replicate m a = t.reverse) := by
      rw [rep_rev, rep_rev, List.reverse_reverse, List.reverse_reverse, List.replicate_succ, List.cons_append, List.cons.injEq]
    by_cases h1 : x = a
    · by_cases h2 : p ++ List.replicate m a = t.reverse
      · rw [if_pos (e.mpr ⟨h1, h2⟩), if_pos h1, if_pos h1, if_pos h2]
        omega
      · rw [if_neg (fun z => h2 (e.mp z).2), if_pos h1, if_pos h1, if_neg h2]
        omega
    · rw [if_neg (fun z => h1 (e.mp z).1), if_neg h1, if_neg h1]
      omega
theorem cf_nil {l a : Int} (p : List Int) : ∀ (n m : Nat), cf l a p [] n (m + 1) = 0
  | 0, _ => rfl
  | n + 1, m => by
    rw [cf, cf_nil p n (m + 1), if_neg]
    · rfl
    · intro z
      have := congrArg List.length z
      simp at this
theorem cf_neg {l a : Int} (hl : l < 0) (ha : a = -l) (p : List Int) : ∀ (rq : List Int) (n : Nat), rq.length + 1 ≤ p.length + n → cf l a p rq.reverse n 0 = nstep l (dl p) rq
  | rq, 0, h => by
    rw [nstep_short l p rq (by omega)]
    rfl
  | [], n + 1, h => by
    rw [cf, List.reverse_nil, cf_nil]
    show _ = dl p []
    unfold dl sg
    have e : (p ++ List.replicate 0 a = []) ↔ ([] = p.reverse) := by simp
    by_cases z : [] = p.reverse
    · rw [if_pos z, if_pos (e.mpr z)]
      simp
    · rw [if_neg z, if_neg (fun y => z (e.mp y))]
      rfl
  | x :: t, n + 1, h => by
    rw [cf, cf_shift hl, cf_neg hl ha p t n (by simp at h; omega)]
    have n0 : ¬ (0 < l) := by omega
    simp only [nstep, n0, if_false, ha]
    have e : (p ++ List.replicate 0 (-l) = (x :: t).reverse) ↔ (x :: t = p.reverse) := by
      rw [rep_rev, List.reverse_reverse]
      simp
    have s0 : sg l 0 = 1 := by simp [sg]
    unfold dl
    by_cases z : x :: t = p.reverse
    · rw [if_pos z, if_pos (e.mpr z), s0]
      omega
    · rw [if_neg z, if_neg (fun y => z (e.mp y))]
      omega
theorem cf_pos {l a : Int} (hl : 0 < l) (ha : a = l) (p : List Int) {most : Nat} (hp : p.length ≤ most) (rq : List Int) (hq : rq.length ≤ most) : cf l a p rq.reverse (boundF l most p) 0 = nstep l (dl p) rq := by
  subst ha
  have two : cf a a p rq.reverse 2 0 = nstep a (dl p) rq := by
    simp only [cf, sg_pos hl]
    cases rq with
    | nil =>
      have e1 : ¬ (p ++ List.replicate (0 + 1) a = ([] : List Int).reverse) := by simp
      have e0 : (p ++ List.replicate 0 a = ([] : List Int).reverse) ↔ ([] = p.reverse) := by simp
      rw [if_neg e1]
      show _ = dl p []
      unfold dl
      by_cases z : [] = p.reverse
      · rw [if_pos z, if_pos (e0.mpr z)]; rfl
      · rw [if_neg z, if_neg (fun y => z (e0.mp y))]; rfl
    | cons x t =>
      simp only [nstep, hl, if_true]
      have e0 : (p ++ List.replicate 0 a = (x :: t).reverse) ↔ (x :: t = p.reverse) := by
        rw [rep_rev, List.reverse_reverse]; simp
      have e1 : (p ++ List.replicate (0 + 1) a = (x :: t).reverse) ↔ (x = a ∧ t = p.reverse) := by
        rw [rep_rev, List.reverse_reverse]; simp
      unfold dl
      by_cases z : x :: t = p.reverse
      · rw [if_pos z, if_pos (e0.mpr z)]
        by_cases y1 : x = a
        · by_cases y2 : t = p.reverse
          · rw [if_pos (e1.mpr ⟨y1, y2⟩), if_pos y1, if_pos y2]; omega
          · rw [if_neg (fun y => y2 (e1.mp y).2), if_pos y1, if_neg y2]; omega
        · rw [if_neg (fun y => y1 (e1.mp y).1), if_neg y1]; omega
      · rw [if_neg z, if_neg (fun y => z (e0.mp y))]
        by_cases y1 : x = a
        · by_cases y2 : t = p.reverse
          · rw [if_pos (e1.mpr ⟨y1, y2⟩), if_pos y1, if_pos y2]; omega
          · rw [if_neg (fun y => y2 (e1.mp y).2), if_pos y1, if_neg y2]; omega
        · rw [if_neg (fun y => y1 (e1.mp y).1), if_neg y1]; omega
  unfold boundF
  rw [if_pos hl]
  by_cases h : p.length = most
  · have b : (min (p.length + 1) most) + 1 - p.length = 1 := by omega
    rw [b, ← two]
    simp only [cf]
    rw [if_neg (c := p ++ List.replicate (0 + 1) a = rq.reverse)]
    · omega
    · intro z
      have := congrArg List.length z
      simp at this
      omega
  · have b : (min (p.length + 1) most) + 1 - p.length = 2 := by omega
    rw [b, two]
theorem cf_all {l : Int} (h0 : l ≠ 0) (p : List Int) {most : Nat} (hp : p.length ≤ most) (q : List Int) (hq : q.length ≤ most) : cf l (l.natAbs : Nat) p q (boundF l most p) 0 = nstep l (dl p) q.reverse := by
  have e := List.reverse_reverse q
  have lq : q.reverse.length = q.length := List.length_reverse
  by_cases hl : 0 < l
  · have := cf_pos (a := (l.natAbs : Nat)) hl (by omega) p hp q.reverse (by omega)
    rwa [e] at this
  · have := cf_neg (a := (l.natAbs : Nat)) (l := l) (by omega) (by omega) p q.reverse (boundF l most p) (by unfold boundF; rw [if_neg hl]; omega)
    rwa [e] at this
theorem G_all {l : Int} (h0 : l ≠ 0) {most : Nat} (q : List Int) (hq : q.length ≤ most) : ∀ (L A : Dct), (∀ kv ∈ L, kv.1.length ≤ most) → G (allF l (l.natAbs : Nat) most L A) q = G A q + nstep l (fun r => G L r.reverse) q.reverse
  | [], A, _ => by
    rw [nstep_sum]
    simp [allF]
  | (p, n) :: L, A, h => by
    rw [allF, G_all h0 q hq L _ (fun kv hkv => h kv (List.mem_cons_of_mem _ hkv)), G_many, cf_all h0 p (h _ List.mem_cons_self) q hq, nstep_sum, nstep_sum, List.map_cons, List.sum_cons]
    simp only
    omega
/-- keys of at most so many letters -/
def KV (L : Dct) (most : Nat) : Prop := ∀ kv ∈ L, kv.1.length ≤ most ∧ ∀ a ∈ kv.1, Let a
theorem many_ok {l a : Int} {p : List Int} {n : Int} {most : Nat} (ha : Let a) (hp : ∀ x ∈ p, Let x) : ∀ (t m : Nat) (A : Dct), p.length + m + t ≤ most + 1 → NK A → KV A most → NK (manyF l a p n t m A) ∧ KV (manyF l a p n t m A) most
  | 0, m, A, _, h1, h2 => ⟨h1, h2⟩
  | t + 1, m, A, h, h1, h2 => by
    refine many_ok ha hp t (m + 1) _ (by omega) (addR_NK _ _ _ h1) ?_
    intro kv hkv
    rcases addR_keys _ _ A kv hkv with z | ⟨v, z⟩
    · rw [z]
      refine ⟨by simp; omega, fun x hx => ?_⟩
      rcases List.mem_append.mp hx with hx | hx
      · exact hp x hx
      · rw [List.eq_of_mem_replicate hx]; exact ha
    · exact h2 (kv.1, v) z
theorem all_ok {l : Int} {most : Nat} (ha : Let (l.natAbs : Nat)) : ∀ (L A : Dct), KV L most → NK A → KV A most → NK (allF l (l.natAbs : Nat) most L A) ∧ KV (allF l (l.natAbs : Nat) most L A) most
  | [], A, _, h1, h2 => ⟨h1, h2⟩
  | (p, n) :: L, A, h, h1, h2 => by
    have hp := h _ List.mem_cons_self
    have b : p.length + 0 + boundF l most p ≤ most + 1 := by
      unfold boundF
      have := hp.1
      simp only at this
      omega
    obtain ⟨m1, m2⟩ := many_ok (l := l) (n := n) ha hp.2 _ _ A b h1 h2
    exact all_ok ha L _ (fun kv hkv => h kv (List.mem_cons_of_mem _ hkv)) m1 m2
theorem nodup_sub {α : Type} [DecidableEq α] : ∀ {l m : List α}, l.Nodup → (∀ x ∈ l, x ∈ m) → l.length ≤ m.length
  | [], m, _, _ => Nat.zero_le _
  | x :: l, m, h, s => by
    have h' := List.nodup_cons.mp h
    have ih := nodup_sub (m := m.erase x) h'.2 fun y hy => by
      have ne : y ≠ x := fun e => h'.1 (e ▸ hy)
      exact (List.mem_erase_of_ne ne).mpr (s y (List.mem_cons_of_mem _ hy))
    have hx := s x List.mem_cons_self
    have e := List.length_erase_of_mem hx
    have pos : 0 < m.length := List.length_pos_of_mem hx
    rw [List.length_cons]
    omega
theorem dct_len {L : Dct} {most : Nat} (h4 : most ≤ 4) (h1 : NK L) (h2 : KV L most) : L.length ≤ 121 := by
  have s := nodup_sub (m := pats 0 ++ pats 1 ++ pats 2 ++ pats 3 ++ pats 4) h1 (by
    intro x hx
    obtain ⟨kv, hkv, rfl⟩ := List.mem_map.mp hx
    obtain ⟨a1, a2⟩ := h2 kv hkv
    have z := (pats_mem kv.1.length kv.1).mpr ⟨rfl, a2⟩
    have : kv.1.length = 0 ∨ kv.1.length = 1 ∨ kv.1.length = 2 ∨ kv.1.length = 3 ∨ kv.1.length = 4 := by omega
    simp only [List.mem_append]
    rcases this with e | e | e | e | e <;> rw [e] at z <;> simp [z])
  rw [List.length_map] at s
  have : (pats 0 ++ pats 1 ++ pats 2 ++ pats 3 ++ pats 4).length = 121 := by decide
  omega
theorem G_filter (q : List Int) : ∀ L : Dct, G (L.filter fun kv => kv.2 != 0) q = G L q
  | [] => rfl
  | (k, v) :: L => by
    rw [List.filter_cons]
    by_cases h : v = 0
    · simp only [h, bne_self_eq_false, Bool.false_eq_true, if_false]
      rw [G_filter q L, G_cons]
      split <;> omega
    · have : (v != 0) = true := by simp [h]
      simp only [this, if_true]
      rw [G_cons, G_cons, G_filter q L]
theorem G_zero {L : Dct} {q : List Int} : (∀ kv ∈ L, kv.1 ≠ q) → G L q = 0 := by
  intro h
  induction L with
  | nil => rfl
  | cons kv L ih =>
    obtain ⟨k, v⟩ := kv
    rw [G_cons, if_neg (h _ List.mem_cons_self), ih fun x hx => h x (List.mem_cons_of_mem _ hx)]
    rfl
theorem G_at {L : Dct} {k : List Int} {v : Int} (h1 : NK L) (hm : (k, v) ∈ L) : G L k = v := by
  induction L with
  | nil => cases hm
  | cons kv L ih =>
    obtain ⟨k2, v2⟩ := kv
    have h' := List.nodup_cons.mp (show (k2 :: L.map (·.1)).Nodup from h1)
    rw [G_cons]
    rcases List.mem_cons.mp hm with e | e
    · cases e
      rw [if_pos rfl, G_zero fun x hx z => h'.1 (List.mem_map.mpr ⟨x, hx, z⟩)]
      omega
    · have ne : k2 ≠ k := fun z => h'.1 (List.mem_map.mpr ⟨_, e, z.symm⟩)
      rw [if_neg ne, ih h'.2 e]
      omega
/-- the numbers of a word, up to a length -/
structure DOk (L : Dct) (most : Nat) (F : List Int → Int) : Prop where
  nk : NK L
  kv : KV L most
  nz : ∀ x ∈ L, x.2 ≠ 0
  eq : ∀ q : List Int, q.length ≤ most → G L q = F q.reverse
theorem DOk.start (most : Nat) : DOk [([], 1)] most one0 := by
  refine ⟨by simp [NK], ?_, ?_, ?_⟩
  · intro x hx
    rw [List.mem_singleton.mp hx]
    exact ⟨Nat.zero_le _, fun _ h => nomatch h⟩
  · intro x hx
    rw [List.mem_singleton.mp hx]
    decide
  · intro q _
    rw [G_cons]
    unfold one0 G
    by_cases h : q = []
    · subst h; rfl
    · rw [if_neg (fun z => h z.symm), if_neg (by simpa using h)]
      rfl
/-- the dict behind one more letter -/
def nextD (l : Int) (most : Nat) (L : Dct) : Dct := (allF l (l.natAbs : Nat) most L []).filter fun kv => kv.2 != 0
theorem DOk.next {L : Dct} {most : Nat} {F : List Int → Int} (D : DOk L most F) {l : Int} (h0 : l ≠ 0) (ha : Let (l.natAbs : Nat)) : DOk (nextD l most L) most (nstep l F) := by
  obtain ⟨a1, a2⟩ := all_ok (l := l) (most := most) ha L [] D.kv (by simp [NK]) (fun _ h => nomatch h)
  refine ⟨?_, fun x hx => a2 x (List.mem_filter.mp hx).1, fun x hx => ?_, fun q hq => ?_⟩
  · exact List.Nodup.sublist (List.Sublist.map _ List.filter_sublist) a1
  · have := (List.mem_filter.mp hx).2
    simpa using this
  · unfold nextD
    rw [G_filter, G_all h0 q hq L [] fun x hx => (D.kv x hx).1]
    have e : G [] q = 0 := rfl
    rw [e, Int.zero_add]
    refine nstep_congr l _ fun r hr => ?_
    rw [List.length_reverse] at hr
    have := D.eq r.reverse (by rw [List.length_reverse]; omega)
    rw [List.reverse_reverse] at this
    exact this
end K37
end

section
set_option Elab.async false
set_option linter.all false
set_option maxRecDepth 100000
set_option maxHeartbeats 0
set_option autoImplicit false
namespace K37
open PySem Ws
/-! ### the dict's cells -/
def toK (L : Dct) : List (SV × SV) := L.map fun kv => (tv1 kv.1, SV.int kv.2)
theorem int_inj : Function.Injective SV.int := fun a b h => SV.int.inj h
theorem tv1_inj {p q : List Int} (h : tv1 p = tv1 q) : p = q := by
  have := SV.tup.inj h
  exact (List.map_inj_right (fun a b h => SV.int.inj h)).mp this
theorem tv1_ne {p q : List Int} (h : p ≠ q) : tv1 p ≠ tv1 q := fun z => h (tv1_inj z)
theorem flat_iv : ∀ X : List Int, (iv X).all SV.flat = true
  | [] => rfl
  | x :: X => by
    show (SV.flat (.int x) && (iv X).all SV.flat) = true
    rw [flat_iv X]
    rfl
theorem flatT_tv (X : List Int) : (tv1 X).flatT = true := flat_iv X
theorem find_toK (q : List Int) : ∀ A : Dct, (Ws.find (toK A) (tv1 q)).getD (.int 0) = .int (lk A q)
  | [] => rfl
  | (k, v) :: r => by
    have ih := find_toK q r
    unfold Ws.find at ih ⊢
    show (Option.map (·.2) (List.find? _ ((tv1 k, SV.int v) :: toK r))).getD _ = _
    rw [List.find?_cons]
    by_cases h : k = q
    · subst h
      simp [lk]
    · have : decide (tv1 k = tv1 q) = false := decide_eq_false (tv1_ne h)
      simp only [this, lk, if_neg h]
      exact ih
theorem putV_ne {k q x v : SV} {r : List (SV × SV)} (h : k ≠ q) : putV ((k, v) :: r) q x = (k, v) :: putV r q x := by
  unfold putV
  have : decide (k = q) = false := decide_eq_false h
  simp only [List.any_cons, this, Bool.false_or, List.map_cons, if_neg h]
  split <;> rfl
theorem putV_new {q x : SV} : ∀ {r : List (SV × SV)}, (∀ p ∈ r, p.1 ≠ q) → putV r q x = r ++ [(q, x)]
  | [], _ => rfl
  | (k, v) :: r, h => by
    rw [putV_ne (h _ List.mem_cons_self), putV_new fun p hp => h p (List.mem_cons_of_mem _ hp)]
    rfl
theorem putV_eq {q x v : SV} {r : List (SV × SV)} (h : ∀ p ∈ r, p.1 ≠ q) : putV ((q, v) :: r) q x = (q, x) :: r := by
  have e : r.map (fun p => if p.1 = q then (p.1, x) else p) = r := by
    refine (List.map_congr_left (g := fun p => p) fun p hp => if_neg (h p hp)).trans (List.map_id' _)
  unfold putV
  rw [if_pos (by simp), List.map_cons, e]
  simp only [if_true]
theorem put_toK (q : List Int) (δ : Int) : ∀ A : Dct, NK A → putV (toK A) (tv1 q) (.int (lk A q + δ)) = toK (addR A q δ)
  | [], _ => rfl
  | (k, v) :: r, hn => by
    have h' := List.nodup_cons.mp (show (k :: r.map (·.1)).Nodup from hn)
    show putV ((tv1 k, SV.int v) :: toK r) _ _ = _
    by_cases h : k = q
    · subst h
      simp only [lk, addR, if_true]
      rw [putV_eq]
      · rfl
      · intro p hp
        obtain ⟨kv, hkv, rfl⟩ := List.mem_map.mp hp
        exact tv1_ne fun z => h'.1 (List.mem_map.mpr ⟨kv, hkv, z⟩)
    · rw [putV_ne (tv1_ne h)]
      simp only [lk, addR, if_neg h]
      rw [put_toK q δ r h'.2]
      rfl
/-! ### heaps that end with a dict -/
abbrev hd (g : SH) (A : Dct) : SH := g ++ [.dtt (toK A)]
theorem hd_get (g : SH) (A : Dct) : (hd g A)[g.length]? = some (.dtt (toK A)) := by simp
theorem hd_isDc (g : SH) (A : Dct) : isDc (hd g A) (.ref g.length) = true := by
  unfold isDc
  simp only [hd_get]
theorem hd_getV (g : SH) (A : Dct) (q : List Int) : getV (hd g A) (.ref g.length) (tv1 q) (.int 0) = some (.int (lk A q)) := by
  unfold getV
  simp only [hd_get]
  rw [if_pos (flatT_tv q), find_toK]
theorem hd_set (g : SH) (A : Dct) (o : SO) : (hd g A).set g.length o = g ++ [o] := by
  rw [List.set_append_right _ _ (Nat.le_refl _), Nat.sub_self]
  rfl
theorem hd_put (g : SH) {A : Dct} (hn : NK A) (hl : A.length ≤ 200) (q : List Int) (δ : Int) : setIxH (.ref g.length) (tv1 q) (.int (lk A q + δ)) (hd g A) = some (hd g (addR A q δ)) := by
  unfold setIxH
  simp only [hd_get]
  have : seqLen = 16777216 := rfl
  have l : (toK A).length = A.length := List.length_map _
  rw [flatT_tv, decide_eq_true (show (toK A).length < seqLen by omega), if_pos (by rfl), hd_set, put_toK q δ A hn]
theorem hd_lock (g : SH) (A : Dct) : lockD (.ref g.length) (hd g A) = some (toK A, g ++ [.ddf (toK A)]) := by
  unfold lockD
  simp only [hd_get, hd_set]
theorem mulT (a : Int) (m : Nat) (hm : m ≤ 900) : binop .mul (.tup [.int a]) (.int (m : Nat)) = some (tv1 (List.replicate m a)) := by
  have q : binop .mul (.tup [.int a]) (.int (m : Nat)) = if decide (-1000 ≤ ((m : Nat) : Int) ∧ ((m : Nat) : Int) ≤ 1000 ∧ 1 ≤ 1000 ∧ 0 < 1) = true then some (.tup (List.replicate (Int.toNat (m : Nat)) [SV.int a]).flatten) else none := rfl
  rw [q, if_pos (decide_eq_true ⟨by omega, by omega, by decide, by decide⟩), Int.toNat_natCast]
  congr 2
  induction m with
  | zero => rfl
  | succ m ih =>
    rw [List.replicate_succ, List.flatten_cons, ih (by omega) rfl, List.replicate_succ]
    rfl
theorem addT (X Y : List Int) (hl : X.length + Y.length ≤ 1000) : binop .add (tv1 X) (tv1 Y) = some (tv1 (X ++ Y)) := by
  have : seqLen = 16777216 := rfl
  have q : binop .add (tv1 X) (tv1 Y) = if decide ((iv X).length + (iv Y).length ≤ seqLen) = true then some (.tup (iv X ++ iv Y)) else none := rfl
  rw [q, if_pos (decide_eq_true (by rw [len_iv, len_iv]; omega))]
  unfold tv1 iv
  rw [List.map_append]
section
variable {p : Pr} {wv nv : SV} {most : Nat} {l : Int}
abbrev envX (wv nv : SV) (most : Nat) (l : Int) (g : SH) (a b c : Option SV) (x y z : Option SV) : SE := [some wv, some (.int (most : Nat)), some nv, some (.int l), some (.ref g.length), a, b, c, x, y, z]
theorem many_turn {g : SH} {A : Dct} (hn : NK A) (hl : A.length ≤ 200) {pt : List Int} {n : Int} {lo : Option SV} (m : Nat) (hm : m ≤ 900) (hp : pt.length ≤ 100) {x y z : Option SV} :
    turn p (.name 8) b17l0 (.int (m : Nat)) (envX wv nv most l g (some (tv1 pt)) (some (.int n)) lo x y z) (hd g A) =
      .nx (envX wv nv most l g (some (tv1 pt)) (some (.int n)) lo (some (.int (m : Nat))) (some (tv1 (pt ++ List.replicate m ((l.natAbs : Nat) : Int)))) (some (.int (sg l m)))) (hd g (addR A (pt ++ List.replicate m ((l.natAbs : Nat) : Int)) (sg l m * n))) := by
  rw [turn_eq (env2 := envX wv nv most l g (some (tv1 pt)) (some (.int n)) lo (some (.int (m : Nat))) y z) (by rfl)]
  have ab : (if l < 0 then -l else l) = ((l.natAbs : Nat) : Int) := by split <;> omega
  have mt := mulT (l.natAbs : Nat) m hm
  have at_ := addT pt (List.replicate m ((l.natAbs : Nat) : Int)) (by rw [List.length_replicate]; omega)
  have ln : decide (0 + 1 ≤ seqLen) = true := by decide
  unfold b17l0
  rw [nx_ (set_ (v := tv1 (pt ++ List.replicate m ((l.natAbs : Nat) : Int))) (h1 := hd g A) (by
    simp only [ev, evs, look_zero, look_succ, Res.bind_ok, ofO, bi_abs, ab, List.length_cons, List.length_nil, ln, if_true, mt, at_]))]
  have md : binop .mod (.int (m : Nat)) (.int 2) = some (.int (((m % 2 : Nat)) : Int)) := by
    rw [binop_mod (by decide), Int.fmod_eq_emod_of_nonneg _ (by decide)]
    congr 2
  have sgv : ev p (.ite (.and (.cmp .lt (.var 3) (.int (0))) (.cmp .eq (.bin .mod (.var 8) (.int (2))) (.int (1)))) (.neg (.int (1))) (.int (1))) (envX wv nv most l g (some (tv1 pt)) (some (.int n)) lo (some (.int (m : Nat))) (some (tv1 (pt ++ List.replicate m ((l.natAbs : Nat) : Int)))) z) (hd g A) = .ok (.int (sg l m)) (hd g A) := by
    unfold sg
    by_cases h1 : l < 0
    · have t1 : decide (l < 0) = true := decide_eq_true h1
      rcases Nat.mod_two_eq_zero_or_one m with e | e
      · rw [if_neg (by omega)]
        simp only [ev, evT, look_zero, look_succ, Res.bind_ok, ofO, cmp_lt, t1, if_true, md, e, cmp_eq_int]
        rfl
      · rw [if_pos ⟨h1, e⟩]
        simp only [ev, evT, look_zero, look_succ, Res.bind_ok, ofO, cmp_lt, t1, if_true, md, e, cmp_eq_int]
        rfl
    · have t1 : decide (l < 0) = false := decide_eq_false h1
      rw [if_neg (by omega)]
      simp only [ev, evT, look_zero, look_succ, Res.bind_ok, ofO, cmp_lt, t1, Bool.false_eq_true, if_false]
  rw [nx_ (set_ (v := .int (sg l m)) (h1 := hd g A) (by simpa only [envX, List.set] using sgv))]
  have ml : binop .mul (.int (sg l m)) (.int n) = some (.int (sg l m * n)) := binop_mul (mf_l (by unfold sg; split <;> decide))
  have gv := hd_getV g A (pt ++ List.replicate m ((l.natAbs : Nat) : Int))
  have pv := hd_put g hn hl (pt ++ List.replicate m ((l.natAbs : Nat) : Int)) (sg l m * n)
  rw [nx_ (env1 := envX wv nv most l g (some (tv1 pt)) (some (.int n)) lo (some (.int (m : Nat))) (some (tv1 (pt ++ List.replicate m ((l.natAbs : Nat) : Int)))) (some (.int (sg l m)))) (h1 := hd g (addR A (pt ++ List.replicate m ((l.natAbs : Nat) : Int)) (sg l m * n))) (by
    simp only [envX, List.set, evS, ev, look_zero, look_succ, Res.bind_ok, ofO, hd_isDc, if_true, gv, ml, binop_add, Out.of, pv])]
  rfl
theorem many_loop {g : SH} {pt : List Int} {n : Int} {lo : Option SV} (h4 : most ≤ 4) (ha : Let (l.natAbs : Nat)) (hp : ∀ x ∈ pt, Let x) : ∀ (t m : Nat) (A : Dct), pt.length + m + t ≤ most + 1 → NK A → KV A most →
    loopF [8, 9, 10] (turn p (.name 8) b17l0) ((List.range' m t).map fun (k : Nat) => SV.int (k : Nat)) (envX wv nv most l g (some (tv1 pt)) (some (.int n)) lo none none none) (hd g A) =
      .nx (envX wv nv most l g (some (tv1 pt)) (some (.int n)) lo none none none) (hd g (manyF l (l.natAbs : Nat) pt n t m A))
  | 0, m, A, _, _, _ => rfl
  | t + 1, m, A, h, h1, h2 => by
    have ln := dct_len h4 h1 h2
    have one := many_turn (p := p) (wv := wv) (nv := nv) (most := most) (l := l) (g := g) (n := n) (lo := lo) (pt := pt) h1 (by omega) m (by omega) (by omega) (x := none) (y := none) (z := none)
    obtain ⟨k1, k2⟩ := many_ok (l := l) (a := (l.natAbs : Nat)) (p := pt) (n := n) (most := most) ha hp 1 m A (by omega) h1 h2
    rw [List.range'_succ, List.map_cons, loop_nx one, manyF]
    exact many_loop h4 ha hp t (m + 1) _ (by omega) k1 k2
theorem pair_turn {g : SH} {A : Dct} {pt : List Int} {n : Int} (h4 : most ≤ 4) (ha : Let (l.natAbs : Nat)) (hp : pt.length ≤ most ∧ ∀ x ∈ pt, Let x) (h1 : NK A) (h2 : KV A most) {a b : Option SV} :
    turn p (.pair (.name 5) (.name 6)) b17l1 (.tup [tv1 pt, .int n]) (envX wv nv most l g a b none none none none) (hd g A) =
      .nx (envX wv nv most l g (some (tv1 pt)) (some (.int n)) (some (.int (if 0 < l then (pt.length : Int) + 1 else (most : Nat)))) none none none) (hd g (manyF l (l.natAbs : Nat) pt n (boundF l most pt) 0 A)) := by
  rw [turn_eq (env2 := envX wv nv most l g (some (tv1 pt)) (some (.int n)) none none none none) (by rfl)]
  have b : pt.length + 0 + boundF l most pt ≤ most + 1 := by
    unfold boundF
    have := hp.1
    omega
  unfold b17l1
  rw [nx_ (set_ (v := .int (if 0 < l then (pt.length : Int) + 1 else (most : Nat))) (h1 := hd g A) (by
    by_cases h0 : 0 < l
    · have t1 : decide (0 < l) = true := decide_eq_true h0
      simp only [ev, evT, evs, look_zero, look_succ, Res.bind_ok, ofO, cmp_gt, t1, if_true, bi_len_tup, len_iv, binop_add, if_pos h0]
    · have t1 : decide (0 < l) = false := decide_eq_false h0
      simp only [ev, evT, evs, look_zero, look_succ, Res.bind_ok, ofO, cmp_gt, t1, Bool.false_eq_true, if_false, if_neg h0]))]
  have lp := many_loop (p := p) (wv := wv) (nv := nv) (g := g) (n := n) (lo := some (.int (if 0 < l then (pt.length : Int) + 1 else (most : Nat)))) h4 ha hp.2 (boundF l most pt) 0 A b h1 h2
  rw [← List.range_eq_range', ← rng] at lp
  have bd : (if ((most : Nat) : Int) < (if 0 < l then (pt.length : Int) + 1 else (most : Nat)) then ((most : Nat) : Int) else (if 0 < l then (pt.length : Int) + 1 else (most : Nat))) - (pt.length : Nat) + 1 = ((boundF l most pt : Nat) : Int) := by
    unfold boundF
    have := hp.1
    by_cases h0 : 0 < l
    · simp only [if_pos h0]
      split <;> omega
    · simp only [if_neg h0]
      split <;> omega
  rw [nx_ (loop_ (range_ev (n := boundF l most pt) (by simp only [envX, List.set, ev, evs, look_zero, look_succ, Res.bind_ok, ofO, bi_min, bi_len_tup, len_iv, binop_sub, binop_add, bd]) (by omega)) (by simpa only [envX, List.set] using lp))]
  rfl
theorem pair_loop {g : SH} (h4 : most ≤ 4) (ha : Let (l.natAbs : Nat)) : ∀ (L A : Dct), KV L most → NK A → KV A most →
    loopF [5, 6, 7, 8, 9, 10] (turn p (.pair (.name 5) (.name 6)) b17l1) ((toK L).map fun q => .tup [q.1, q.2]) (envX wv nv most l g none none none none none none) (hd g A) =
      .nx (envX wv nv most l g none none none none none none) (hd g (allF l (l.natAbs : Nat) most L A))
  | [], A, _, _, _ => rfl
  | (pt, n) :: L, A, h, h1, h2 => by
    have hp := h _ List.mem_cons_self
    have b : pt.length + 0 + boundF l most pt ≤ most + 1 := by
      unfold boundF
      have := hp.1
      simp only at this
      omega
    obtain ⟨m1, m2⟩ := many_ok (l := l) (n := n) ha hp.2 _ _ A b h1 h2
    have one := pair_turn (p := p) (wv := wv) (nv := nv) (g := g) (n := n) h4 ha hp h1 h2 (a := none) (b := none)
    show loopF _ _ (SV.tup [tv1 pt, .int n] :: _) _ _ = _
    rw [loop_nx one, allF]
    exact pair_loop h4 ha L _ (fun kv hkv => h kv (List.mem_cons_of_mem _ hkv)) m1 m2
end
end K37
end

section
set_option Elab.async false
set_option linter.all false
set_option maxRecDepth 100000
set_option maxHeartbeats 0
set_option autoImplicit false
namespace K37
open PySem Ws
theorem lock2 (h : SH) (L A : Dct) : lockD (.ref h.length) (hd h L ++ [.dtt (toK A)]) = some (toK L, hd (h ++ [.ddf (toK L)]) A) := by
  have e : (hd h L ++ [SO.dtt (toK A)])[h.length]? = some (.dtt (toK L)) := by simp [hd]
  unfold lockD
  simp only [e]
  have q : (hd h L ++ [SO.dtt (toK A)]).set h.length (.ddf (toK L)) = hd (h ++ [.ddf (toK L)]) A := by
    unfold hd
    rw [List.append_assoc, List.set_append_right _ _ (Nat.le_refl _), Nat.sub_self, List.append_assoc]
    rfl
  rw [q]
def kept (A : Dct) : Dct := A.filter fun kv => kv.2 != 0
section
variable {p : Pr} {wv nv : SV} {most : Nat} {l : Int}
theorem ne0 {n : Int} {h : SH} : cmpop h .ne (.int n) (.int 0) = some (n != 0) := by
  simp [cmpop, SV.fit, veq, SV.pd, PyData.eqv, bne]
theorem dc_loop {B : SV → SH → Res (Option (SV × SV))} {H : SH} (hB : ∀ (pt : List Int) (n : Int), B (.tup [tv1 pt, .int n]) H = .ok (if (n != 0) = true then some (tv1 pt, .int n) else none) H) : ∀ (A acc : Dct), NK A → (∀ kv ∈ A, ∀ kw ∈ acc, kw.1 ≠ kv.1) → acc.length + A.length ≤ 1000 →
    dcF B ((toK A).map fun q => .tup [q.1, q.2]) (toK acc) H = .ok (toK (acc ++ kept A)) H
  | [], acc, _, _, _ => by
    show Res.ok (toK acc) H = _
    unfold kept
    rw [List.filter_nil, List.append_nil]
  | (pt, n) :: A, acc, hn, hd, hl => by
    have h' := List.nodup_cons.mp (show (pt :: A.map (·.1)).Nodup from hn)
    show dcF _ (SV.tup [tv1 pt, .int n] :: ((toK A).map fun q => .tup [q.1, q.2])) _ _ = _
    rw [List.length_cons] at hl
    rw [dcF, hB]
    have : seqLen = 16777216 := rfl
    have la : (toK acc).length = acc.length := List.length_map _
    by_cases h0 : n = 0
    · subst h0
      have k : kept ((pt, 0) :: A) = kept A := by simp [kept]
      simp only [bne_self_eq_false, Bool.false_eq_true, if_false]
      rw [k]
      exact dc_loop hB A acc h'.2 (fun kv hkv => hd kv (List.mem_cons_of_mem _ hkv)) (by omega)
    · have b0 : (n != 0) = true := by simp [h0]
      have k : kept ((pt, n) :: A) = (pt, n) :: kept A := by simp [kept, h0]
      simp only [b0, if_true]
      rw [flatT_tv, decide_eq_true (show (toK acc).length < seqLen by omega)]
      have pv : putV (toK acc) (tv1 pt) (.int n) = toK (acc ++ [(pt, n)]) := by
        rw [putV_new]
        · unfold toK
          rw [List.map_append]
          rfl
        · intro q hq
          obtain ⟨kw, hkw, rfl⟩ := List.mem_map.mp hq
          exact tv1_ne (hd _ List.mem_cons_self kw hkw)
      simp only [Bool.and_self, if_true, pv]
      rw [k, dc_loop hB A (acc ++ [(pt, n)]) h'.2 ?_ (by rw [List.length_append, List.length_singleton]; omega), List.append_assoc]
      · rfl
      · intro kv hkv kw hkw
        rcases List.mem_append.mp hkw with z | z
        · exact hd kv (List.mem_cons_of_mem _ hkv) kw z
        · rw [List.mem_singleton.mp z]
          intro y
          exact h'.1 (List.mem_map.mpr ⟨kv, hkv, y.symm⟩)
theorem compD_ {env : SE} {h h1 : SH} {it : CI} {A : Dct} (hE : ∀ (pt : List Int) (n : Int), ∃ e, store (.pair (.name 5) (.name 6)) (.tup [tv1 pt, .int n]) (wipeE env [5, 6]) = some e ∧ look e 5 = some (tv1 pt) ∧ look e 6 = some (.int n))
    (hi : evi p it env h = .ok ((toK A).map fun q => .tup [q.1, q.2]) h1) (hn : NK A) (hl : A.length ≤ 900) :
    ev p (.compD (.var 5) (.var 6) (.pair (.name 5) (.name 6)) it (.cmp .ne (.var 6) (.int (0))) [5, 6]) env h = .ok (.ref h1.length) (hd h1 (kept A)) := by
  rw [ev, hi]
  simp only [Res.bind_ok]
  have g := dc_loop (H := h1) (B := fun x h => match store (.pair (.name 5) (.name 6)) x (wipeE env [5, 6]) with
    | none => .bad
    | some env2 => (evT p (.cmp .ne (.var 6) (.int (0))) env2 h).bind fun b h => if b = true then (ev p (.var 5) env2 h).bind fun kk h => (ev p (.var 6) env2 h).bind fun vv h => .ok (some (kk, vv)) h else .ok none h) (by
      intro pt n
      obtain ⟨e, e1, e2, e3⟩ := hE pt n
      simp only [e1, evT, ev, e2, e3, ofO, Res.bind_ok, ne0]
      split <;> rfl) A [] hn (fun _ _ _ h => nomatch h) (by simp; omega)
  exact congrArg (fun r => Res.bind r fun r h => Res.ok (SV.ref h.length) (h ++ [.dtt r])) g
theorem letter_turn {h : SH} {L : Dct} (h4 : most ≤ 4) (ha : Let (l.natAbs : Nat)) (h1 : NK L) (h2 : KV L most) :
    turn p (.name 3) b17l2 (.int l) [some wv, some (.int (most : Nat)), some (.ref h.length), none, none, none, none, none, none, none, none] (hd h L) =
      .nx [some wv, some (.int (most : Nat)), some (.ref (h ++ [SO.ddf (toK L), SO.ddf (toK (allF l (l.natAbs : Nat) most L []))]).length), some (.int l), some (.ref (h ++ [SO.ddf (toK L)]).length), none, none, none, none, none, none]
        (hd (h ++ [SO.ddf (toK L), SO.ddf (toK (allF l (l.natAbs : Nat) most L []))]) (nextD l most L)) := by
  rw [turn_eq (env2 := [some wv, some (.int (most : Nat)), some (.ref h.length), some (.int l), none, none, none, none, none, none, none]) (by rfl)]
  have gl : (hd h L).length = (h ++ [SO.ddf (toK L)]).length := by simp [hd]
  unfold b17l2
  rw [nx_ (set_ (v := .ref (h ++ [SO.ddf (toK L)]).length) (h1 := hd h L ++ [.dtt (toK [])]) (by simp only [ev, evs, Res.bind_ok, gl]; rfl))]
  have lp := pair_loop (p := p) (wv := wv) (nv := .ref h.length) (g := h ++ [SO.ddf (toK L)]) h4 ha L [] h2 (by simp [NK]) (fun _ h => nomatch h)
  rw [nx_ (loop_ (xs := (toK L).map fun q => .tup [q.1, q.2]) (h1 := hd (h ++ [SO.ddf (toK L)]) []) (by simp only [List.set, evi, ev, look_zero, look_succ, Res.bind_ok, ofO, lock2]) (by simpa only [envX, List.set] using lp))]
  obtain ⟨a1, a2⟩ := all_ok (l := l) (most := most) ha L [] h2 (by simp [NK]) (fun _ h => nomatch h)
  have ln := dct_len h4 a1 a2
  have ap : (h ++ [SO.ddf (toK L)]) ++ [SO.ddf (toK (allF l (l.natAbs : Nat) most L []))] = h ++ [SO.ddf (toK L), SO.ddf (toK (allF l (l.natAbs : Nat) most L []))] := by
    rw [List.append_assoc]
    rfl
  have lk := hd_lock (h ++ [SO.ddf (toK L)]) (allF l (l.natAbs : Nat) most L [])
  rw [ap] at lk
  have cd := compD_ (p := p) (env := envX wv (.ref h.length) most l (h ++ [SO.ddf (toK L)]) none none none none none none) (it := .items (.var 4)) (A := allF l (l.natAbs : Nat) most L [])
    (h := hd (h ++ [SO.ddf (toK L)]) (allF l (l.natAbs : Nat) most L [])) (h1 := h ++ [SO.ddf (toK L), SO.ddf (toK (allF l (l.natAbs : Nat) most L []))])
    (fun pt n => ⟨_, rfl, rfl, rfl⟩) (by simp only [envX, evi, ev, look_zero, look_succ, Res.bind_ok, ofO, lk]) a1 (by omega)
  rw [nx_ (set_ cd)]
  rfl
theorem letters (h4 : most ≤ 4) : ∀ (w : List Int) (h : SH) (L : Dct) (F : List Int → Int), DOk L most F → Wd w →
    ∃ (h2 : SH) (L2 : Dct), loopF [3, 4, 5, 6, 7, 8, 9, 10] (turn p (.name 3) b17l2) (iv w) [some wv, some (.int (most : Nat)), some (.ref h.length), none, none, none, none, none, none, none, none] (hd h L) =
      .nx [some wv, some (.int (most : Nat)), some (.ref h2.length), none, none, none, none, none, none, none, none] (hd h2 L2) ∧ DOk L2 most (w.foldl (fun f l => nstep l f) F)
  | [], h, L, F, D, _ => ⟨h, L, rfl, D⟩
  | l :: w, h, L, F, D, hw => by
    have hl := hw l List.mem_cons_self
    have ha : Let (l.natAbs : Nat) := by unfold Let; omega
    obtain ⟨h2, L2, e, D2⟩ := letters h4 w (h ++ [SO.ddf (toK L), SO.ddf (toK (allF l (l.natAbs : Nat) most L []))]) (nextD l most L) (nstep l F) (D.next hl.2 ha) fun x hx => hw x (List.mem_cons_of_mem _ hx)
    refine ⟨h2, L2, ?_, D2⟩
    show loopF _ _ (SV.int l :: iv w) _ _ = _
    rw [loop_nx (letter_turn h4 ha D.nk D.kv)]
    exact e
end
/-- expansion_in -/
theorem expansion {d : Nat} {h : SH} {w : List Int} {most : Nat} (h4 : most ≤ 4) (hw : Wd w) : ∃ (h2 : SH) (L : Dct), callF tb (d + 1) 17 [tv1 w, .int (most : Nat)] h = .ok (.ref h2.length) (hd h2 L) ∧ DOk L most (numR w) := by
  obtain ⟨h2, L, e, D⟩ := letters (p := prOf tb d) (wv := tv1 w) h4 w h [([], 1)] one0 (DOk.start most) hw
  refine ⟨h2, L, ?_, D⟩
  refine callH_ (F := f17) rfl rfl rfl (v := .ref h2.length) (h1 := hd h2 L) ?_ rfl
  show evSs (prOf tb d) b17 [some (tv1 w), some (.int (most : Nat)), none, none, none, none, none, none, none, none, none] h = _
  unfold b17
  rw [nx_ (set_ (v := .ref h.length) (h1 := hd h [([], 1)]) (by rfl))]
  rw [nx_ (loop_ (xs := iv w) (h1 := hd h [([], 1)]) (by simp only [List.set, evi, ev, look_zero, ofO, Res.bind_ok]) (by simpa only [List.set] using e))]
  exact rt_ (ret_ (by simp only [ev, look_zero, look_succ, ofO]))
end K37
end

section
set_option Elab.async false
set_option linter.all false
set_option maxRecDepth 100000
set_option maxHeartbeats 0
set_option autoImplicit false
namespace K37
open PySem Ws
/-! ### breaking_in -/
def wN (n : Nat) : Nat := if n = 2 then 1 else if n = 3 then 3 else if n = 4 then 6 else 10
theorem brk2 {d : Nat} {hh : SH} : (pats 1).map (fun p => callF tb (d + 2) 18 [tv1 p, .int 2] hh) = (pats 1).map fun p => .ok (.tup ((XsB 1 p).map tv1)) hh := by kernel_rfl
theorem brk3 {d : Nat} {hh : SH} : (pats 1 ++ pats 2).map (fun p => callF tb (d + 2) 18 [tv1 p, .int 3] hh) = (pats 1 ++ pats 2).map fun p => .ok (.tup ((XsB 3 p).map tv1)) hh := by kernel_rfl
theorem brk4 {d : Nat} {hh : SH} : (pats 1 ++ pats 2 ++ pats 3).map (fun p => callF tb (d + 2) 18 [tv1 p, .int 4] hh) = (pats 1 ++ pats 2 ++ pats 3).map fun p => .ok (.tup ((XsB 6 p).map tv1)) hh := by kernel_rfl
theorem brk5 {d : Nat} {hh : SH} : (pats 1 ++ pats 2 ++ pats 3 ++ pats 4).map (fun p => callF tb (d + 2) 18 [tv1 p, .int 5] hh) = (pats 1 ++ pats 2 ++ pats 3 ++ pats 4).map fun p => .ok (.tup ((XsB 10 p).map tv1)) hh := by kernel_rfl
theorem breaking {d n : Nat} {hh : SH} (h2 : 2 ≤ n) (h5 : n ≤ 5) {p : List Int} (h0 : p ≠ []) (hl : p.length < n) (hp : ∀ a ∈ p, Let a) : callF tb (d + 2) 18 [tv1 p, .int (n : Nat)] hh = .ok (.tup ((XsB (wN n) p).map tv1)) hh := by
  have l0 : 0 < p.length := List.length_pos_iff.mpr h0
  have z := (pats_mem p.length p).mpr ⟨rfl, hp⟩
  have : n = 2 ∨ n = 3 ∨ n = 4 ∨ n = 5 := by omega
  rcases this with rfl | rfl | rfl | rfl
  · have q : p.length = 1 := by omega
    exact (List.map_inj_left.mp (brk2 (d := d) (hh := hh))) p (by rw [q] at z; exact z)
  · have q : p.length = 1 ∨ p.length = 2 := by omega
    exact (List.map_inj_left.mp (brk3 (d := d) (hh := hh))) p (by simp only [List.mem_append]; rcases q with q | q <;> rw [q] at z <;> simp [z])
  · have q : p.length = 1 ∨ p.length = 2 ∨ p.length = 3 := by omega
    exact (List.map_inj_left.mp (brk4 (d := d) (hh := hh))) p (by simp only [List.mem_append]; rcases q with q | q | q <;> rw [q] at z <;> simp [z])
  · have q : p.length = 1 ∨ p.length = 2 ∨ p.length = 3 ∨ p.length = 4 := by omega
    exact (List.map_inj_left.mp (brk5 (d := d) (hh := hh))) p (by simp only [List.mem_append]; rcases q with q | q | q | q <;> rw [q] at z <;> simp [z])
end K37
end

section
set_option Elab.async false
set_option linter.all false
set_option maxRecDepth 100000
set_option maxHeartbeats 0
set_option autoImplicit false
namespace K37
open PySem Ws
/-! ### checks of words -/
theorem cmp_ne_int {i j : Int} {h : SH} : cmpop h .ne (.int i) (.int j) = some (i != j) := by
  simp [cmpop, SV.fit, veq, SV.pd, PyData.eqv, bne]
theorem is_int {d : Nat} {hh : SH} {x : Int} : callF tb (d + 1) 0 [.int x] hh = .ok (.bl true) hh := by kernel_rfl
theorem isT {X : List Int} {h : SH} : builtin h .isTuple [tv1 X] = some (.bl true) := by rfl
theorem all_true {h : SH} {X : List Int} : builtin h .all [.lst (X.map fun _ => SV.bl true)] = some (.bl true) := by
  show ((blsOf (X.map fun _ => SV.bl ((fun (_ : Int) => true) 0))).map fun bs => SV.bl (bs.all id)) = _
  rw [blsOf_map (fun _ : Int => true) X, Option.map_some]
  congr 2
  simp
theorem are_ints {d : Nat} {hh : SH} {X : List Int} (hl : X.length ≤ 1000) : callF tb (d + 2) 2 [tv1 X, .int (X.length : Nat)] hh = .ok (.bl true) hh := by
  refine call_ (F := f2) (h1 := []) rfl rfl (by simp [dryL, SV.dry, dry_iv]) rfl ?_ (fin_val rfl rfl)
  show evSs (prOf tb (d + 1)) b2 [some (tv1 X), some (.int (X.length : Nat)), none] [] = _
  unfold b2
  have cp : ev (prOf tb (d + 1)) (.comp false (.call 0 [0] (.cons (.var 2) .nil) .nil) (.name 2) (.it (.var 0)) [2]) [some (tv1 X), some (.int (X.length : Nat)), none] [] = .ok (.lst (X.map fun _ => SV.bl true)) [] := by
    rw [compA_ (ps := X) SV.int (fun _ => SV.bl true) (h1 := []) (by simp only [evi, ev, look_zero, Res.bind_ok, ofO])]
    · exact mkL_val (by rw [List.length_map]; have : seqLen = 16777216 := rfl; omega)
    · intro x _
      have c0 : (prOf tb (d + 1)).call 0 [.int x] [] = .ok (.bl true) [] := is_int (d := d) (x := x)
      refine ⟨[some (tv1 X), some (.int (X.length : Nat)), some (.int x)], rfl, ?_⟩
      simp only [ev, evs, look_zero, look_succ, Res.bind_ok, ofO, List.cons_append, List.nil_append, df0, perm1, c0]
  have nn : (((X.length : Nat) : Int) != ((X.length : Nat) : Int)) = false := by simp
  rw [nx_ (env1 := [some (tv1 X), some (.int (X.length : Nat)), none]) (h1 := []) (by
    rw [if_f (h1 := []) (by simp only [evT, ev, evs, look_zero, look_succ, Res.bind_ok, ofO, isT, Option.bind_some, truthOf, Bool.not_true, Bool.false_eq_true, if_false, bi_len_tup, len_iv, cmp_ne_int, nn])]
    rfl)]
  refine rt_ (ret_ ?_)
  rw [ev, evs, cp]
  simp only [evs, Res.bind_ok, all_true, ofO]
theorem check_word {d : Nat} {hh : SH} {w : List Int} (hw : Wd w) (hl : w.length ≤ 1000) : callF tb (d + 3) 14 [tv1 w] hh = .ok .non hh := by
  have run : evSs (prOf tb (d + 2)) b14 [some (tv1 w), none] [] = .nx [some (tv1 w), none] [] := by
    unfold b14
    have c1 : (prOf tb (d + 2)).call 2 [tv1 w, .int (w.length : Nat)] [] = .ok (.bl true) [] := are_ints (d := d) hl
    have cp : ev (prOf tb (d + 2)) (.comp false (.and (.chain .le .le (.neg (.int (3))) (.var 1) (.int (3))) (.cmp .ne (.var 1) (.int (0)))) (.name 1) (.it (.var 0)) [1]) [some (tv1 w), none] [] = .ok (.lst (w.map fun _ => SV.bl true)) [] := by
      rw [compA_ (ps := w) SV.int (fun _ => SV.bl true) (h1 := []) (by simp only [evi, ev, look_zero, Res.bind_ok, ofO])]
      · exact mkL_val (by rw [List.length_map]; have : seqLen = 16777216 := rfl; omega)
      · intro x hx
        obtain ⟨⟨x1, x2⟩, x3⟩ := hw x hx
        refine ⟨[some (tv1 w), some (.int x)], rfl, ?_⟩
        have t1 : decide (-3 ≤ x) = true := decide_eq_true x1
        have t2 : decide (x ≤ 3) = true := decide_eq_true x2
        have t3 : (x != 0) = true := by simp [x3]
        simp only [ev, evs, look_zero, look_succ, Res.bind_ok, ofO, asInt_int, Option.map_some, cmp_le, t1, t2, cmp_ne_int, t3]
    rw [nx_ (env1 := [some (tv1 w), none]) (h1 := []) (by
      rw [if_f (h1 := []) (by simp only [evT, ev, evs, look_zero, look_succ, Res.bind_ok, ofO, isT, Option.bind_some, truthOf, Bool.not_true, Bool.false_eq_true, if_false, bi_len_tup, len_iv, List.cons_append, List.nil_append, df2, perm2, c1])]
      rfl)]
    rw [nx_ (env1 := [some (tv1 w), none]) (h1 := []) (by
      rw [if_f (h1 := []) (by
        rw [evT, evT, evs, cp]
        simp only [evs, Res.bind_ok, all_true, ofO, Option.bind_some, truthOf, Bool.not_true])]
      rfl)]
    rfl
  rw [callF]
  show (if f14.pure = true then (if dryL [tv1 w] = true then dryRun (runF (prOf tb (d + 2)) f14 [tv1 w] []) hh else .bad) else _) = _
  rw [if_pos (show f14.pure = true from rfl), if_pos (by simp [dryL, SV.dry, dry_iv])]
  have r : runF (prOf tb (d + 2)) f14 [tv1 w] [] = .ok .non [] := by
    unfold runF
    rw [if_pos (show decide ([tv1 w].length = f14.ps.length) = true from rfl)]
    show (match evSs (prOf tb (d + 2)) b14 [some (tv1 w), none] [] with
      | .nx _ h1 => Ws.finish f14 [] .non h1
      | .rt v h1 => Ws.finish f14 [] v h1
      | .err c v _ h1 => .err c v h1
      | _ => .bad) = _
    rw [run]
    rfl
  rw [r]
  rfl
theorem check_size {d n : Nat} {hh : SH} (h2 : 2 ≤ n) (h5 : n ≤ 5) : callF tb (d + 3) 4 [.int (n : Nat), .int 2, .int 5] hh = .ok .non hh := by
  have : n = 2 ∨ n = 3 ∨ n = 4 ∨ n = 5 := by omega
  rcases this with rfl | rfl | rfl | rfl <;> kernel_rfl
/-! ### identity_for -/
theorem compIf_ {p : Pr} {env : SE} {h h1 : SH} {α : Type} {elt cd : CE} {t : CT} {it : CI} {own : List Nat} {ps : List α} (f g : α → SV) (k : α → Bool) (e : evi p it env h = .ok (ps.map f) h1) (b : ∀ x ∈ ps, ∃ env2, store t (f x) (wipeE env own) = some env2 ∧ evT p cd env2 h1 = .ok (k x) h1 ∧ ev p elt env2 h1 = .ok (g x) h1) :
    ev p (.compIf false elt t it cd own) env h = mkL false ((ps.filter k).map g) h1 := by
  rw [ev, e]
  simp only [Res.bind_ok]
  have go : ∀ ys : List α, (∀ x ∈ ys, ∃ env2, store t (f x) (wipeE env own) = some env2 ∧ evT p cd env2 h1 = .ok (k x) h1 ∧ ev p elt env2 h1 = .ok (g x) h1) → compF (fun x h => match store t x (wipeE env own) with
    | none => .bad
    | some env2 => (evT p cd env2 h).bind fun b h => if b = true then (ev p elt env2 h).bind fun y h => .ok (some y) h else .ok none h) (ys.map f) h1 = .ok ((ys.filter k).map g) h1 := by
    intro ys
    induction ys with
    | nil => intro _; rfl
    | cons y ys ih =>
      intro hy
      obtain ⟨env2, e1, e2, e3⟩ := hy y List.mem_cons_self
      have ih' := ih fun x hx => hy x (List.mem_cons_of_mem _ hx)
      rw [List.map_cons, compF, e1]
      simp only [e2, Res.bind_ok]
      rw [List.filter_cons]
      by_cases kk : k y = true
      · rw [if_pos kk, if_pos kk, e3]
        simp only [Res.bind_ok]
        rw [ih']
        rfl
      · rw [if_neg kk, if_neg kk]
        simp only
        rw [ih']
  exact congrArg (fun r => Res.bind r fun r h => mkL false r h) (go ps b)
theorem ne_empty {h : SH} : ∀ k : List Int, cmpop h .ne (tv1 k) (.tup []) = some (decide (k ≠ []))
  | [] => rfl
  | x :: k => by
    show (if ((tv1 (x :: k)).fit 30 && (SV.tup []).fit 30) = true then some (!veq (tv1 (x :: k)) (.tup [])) else none) = _
    rw [fit_tv]
    rfl
theorem tupsOf_tv : ∀ ks : List (List Int), (∀ k ∈ ks, k ≠ []) → tupsOf (ks.map tv1) = some ks
  | [], _ => rfl
  | [] :: _, h => absurd rfl (h [] List.mem_cons_self)
  | (x :: k) :: ks, h => by
    have ih := tupsOf_tv ks fun y hy => h y (List.mem_cons_of_mem _ hy)
    have i2 : intsOf (iv (x :: k)) = some (x :: k) := by
      have := intsOf_map (fun x : Int => x) (x :: k)
      rw [List.map_id'] at this
      exact this
    show (match intsOf (iv (x :: k)) with
      | some (n :: ns) => (tupsOf (ks.map tv1)).map ((n :: ns) :: ·)
      | _ => none) = _
    rw [i2, ih]
    rfl
theorem sorted_tv {h : SH} {ks : List (List Int)} (h0 : ks ≠ []) (hk : ∀ k ∈ ks, k ≠ []) : builtin h .sorted [.lst (ks.map tv1)] = some (.lst ((ks.mergeSort leL).map tv1)) := by
  have i : intsOf (ks.map tv1) = none := by
    cases ks with
    | nil => exact absurd rfl h0
    | cons k ks => rfl
  show (match intsOf (ks.map tv1) with
      | some ns => some (SV.lst ((ns.mergeSort fun a b => decide (a ≤ b)).map SV.int))
      | none => (tupsOf (ks.map tv1)).map fun (ts : List (List Int)) => SV.lst ((ts.mergeSort leL).map fun (t : List Int) => SV.tup (t.map SV.int))) = _
  rw [i]
  simp only
  rw [tupsOf_tv ks hk]
  rfl
theorem sorted_nil {h : SH} : builtin h .sorted [.lst []] = some (.lst []) := by
  show some (SV.lst (([].mergeSort fun (a b : Int) => decide (a ≤ b)).map SV.int)) = _
  simp
/-- what identity_for tells -/
def Told (w : List Int) (n : Nat) (t : SV) : Prop := (alwB w n = true ∧ t = .tup [.str "always"]) ∨ (alwB w n = false ∧ ∃ p0 : List Int, p0 ≠ [] ∧ p0.length < n ∧ (∀ a ∈ p0, Let a) ∧ numR w p0.reverse ≠ 0 ∧ t = .tup [.str "breaks", .tup ((XsB (wN n) p0).map tv1)])
theorem deep_rows (Xs : List (List Int)) {k : Nat} : deepL (k + 1) (Xs.map tv1) = true := by
  induction Xs with
  | nil => rfl
  | cons X Xs ih =>
    show (SV.deep (k + 1) (tv1 X) && deepL (k + 1) (Xs.map tv1)) = true
    rw [ih]
    show (deepL k (iv X) && true) = true
    rw [deep_iv]
    rfl
theorem identity_for {d n : Nat} {w : List Int} (h2 : 2 ≤ n) (h5 : n ≤ 5) (hw : Wd w) (hl : w.length ≤ 1000) : ∃ t : SV, Told w n t ∧ ∀ hh, callF tb (d + 6) 19 [tv1 w, .int (n : Nat)] hh = .ok t hh := by
  obtain ⟨g, L, ex, D⟩ := expansion (d := d + 4) (h := []) (w := w) (most := n - 1) (by omega) hw
  have c17 : (prOf tb (d + 5)).call 17 [tv1 w, .int ((n - 1 : Nat) : Int)] [] = .ok (.ref g.length) (hd g L) := ex
  have c14 : (prOf tb (d + 5)).call 14 [tv1 w] [] = .ok .non [] := check_word (d := d + 2) hw hl
  have c4 : (prOf tb (d + 5)).call 4 [.int (n : Nat), .int 2, .int 5] [] = .ok .non [] := check_size (d := d + 2) h2 h5
  have sub : binop .sub (.int (n : Nat)) (.int 1) = some (.int ((n - 1 : Nat) : Int)) := by
    rw [binop_sub]
    congr 2
    omega
  have ln := dct_len (by omega) D.nk D.kv
  let ks := (L.map (·.1)).filter fun k => decide (k ≠ [])
  have kne : ∀ k ∈ ks, k ≠ [] := fun k hk => by simpa using (List.mem_filter.mp hk).2
  have kin : ∀ k ∈ ks, ∃ v, (k, v) ∈ L := fun k hk => by
    obtain ⟨kv, hkv, rfl⟩ := List.mem_map.mp (List.mem_filter.mp hk).1
    exact ⟨kv.2, hkv⟩
  have cp : ev (prOf tb (d + 5)) (.compIf false (.var 3) (.name 3) (.keys (.call 17 [0, 1] (.cons (.var 0) (.cons (.bin .sub (.var 1) (.int (1))) .nil)) .nil)) (.cmp .ne (.var 3) (.tup .nil)) [3]) [some (tv1 w), some (.int (n : Nat)), none, none] [] = .ok (.lst (ks.map tv1)) (g ++ [.ddf (toK L)]) := by
    have kk : (toK L).map (·.1) = (L.map (·.1)).map tv1 := by
      unfold toK
      rw [List.map_map, List.map_map]
      rfl
    rw [compIf_ (ps := L.map (·.1)) tv1 tv1 (fun k => decide (k ≠ [])) (h1 := g ++ [.ddf (toK L)]) (by simp only [evi, ev, evs, look_zero, look_succ, Res.bind_ok, ofO, List.cons_append, List.nil_append, sub, df17, perm2, c17, hd_lock, kk])]
    · refine mkL_val ?_
      have l1 : ((L.map (·.1)).filter fun k => decide (k ≠ [])).length ≤ (L.map (·.1)).length := List.length_filter_le _ _
      rw [List.length_map] at l1 ⊢
      have : seqLen = 16777216 := rfl
      omega
    · intro k _
      have z : decide (0 ≤ seqLen) = true := by decide
      refine ⟨[some (tv1 w), some (.int (n : Nat)), none, some (tv1 k)], rfl, ?_, ?_⟩
      · simp only [evT, ev, evs, look_zero, look_succ, Res.bind_ok, ofO, List.length_nil, z, if_true, ne_empty]
      · simp only [ev, look_zero, look_succ, ofO]
  have run : ∀ (t : SV) (h1 : SH), t.deep 12 = true → evSs (prOf tb (d + 5)) b19 [some (tv1 w), some (.int (n : Nat)), none, none] [] = .rt t h1 → ∀ hh, callF tb (d + 6) 19 [tv1 w, .int (n : Nat)] hh = .ok t hh := by
    intro t h1 hd e hh
    exact call_ (F := f19) (h1 := h1) rfl rfl (by simp [dryL, SV.dry, dry_iv]) rfl e (fin_val rfl hd)
  by_cases h0 : ks = []
  · refine ⟨_, .inl ⟨?_, rfl⟩, run _ (g ++ [.ddf (toK L)]) rfl ?_⟩
    · rw [alwB_iff]
      intro p p0 pl pa
      rw [← D.eq p (by omega)]
      refine G_zero fun kv hkv z => ?_
      have : p ∈ ks := List.mem_filter.mpr ⟨List.mem_map.mpr ⟨kv, hkv, z⟩, by simpa using p0⟩
      rw [h0] at this
      cases this
    · rw [h0] at cp
      unfold b19
      rw [nx_ (env1 := [some (tv1 w), some (.int (n : Nat)), none, none]) (h1 := []) (by simp only [evS, ev, evs, look_zero, look_succ, Res.bind_ok, ofO, List.cons_append, List.nil_append, df14, perm1, c14, Out.of])]
      rw [nx_ (env1 := [some (tv1 w), some (.int (n : Nat)), none, none]) (h1 := []) (by simp only [evS, ev, evs, look_zero, look_succ, Res.bind_ok, ofO, List.cons_append, List.nil_append, df4, perm3, c4, Out.of])]
      rw [nx_ (set_ (v := .lst []) (h1 := g ++ [.ddf (toK L)]) (by rw [ev, evs, cp]; simp only [evs, Res.bind_ok, List.map_nil, sorted_nil, ofO]))]
      refine rt_ ?_
      rw [if_t (h1 := g ++ [.ddf (toK L)]) (by rfl)]
      exact rt_ (ret_ (by rfl))
  · have hs := List.length_mergeSort (le := leL) ks
    have hm : ∀ a, a ∈ ks.mergeSort leL ↔ a ∈ ks := fun a => List.mem_mergeSort
    match hms : ks.mergeSort leL with
    | [] =>
      rw [hms] at hs
      exact absurd (List.length_eq_zero_iff.mp hs.symm) h0
    | p0 :: rest =>
      have hp : p0 ∈ ks := (hm p0).mp (by rw [hms]; exact List.mem_cons_self)
      obtain ⟨v, hv⟩ := kin p0 hp
      obtain ⟨b1, b2⟩ := D.kv _ hv
      simp only at b1 b2
      have p0n := kne p0 hp
      have nz : numR w p0.reverse ≠ 0 := by
        rw [← D.eq p0 (by omega), G_at D.nk hv]
        exact D.nz _ hv
      refine ⟨_, .inr ⟨?_, p0, p0n, by omega, b2, nz, rfl⟩, run _ (g ++ [.ddf (toK L)]) ?_ ?_⟩
      · cases hb : alwB w n with
        | false => rfl
        | true => exact absurd (alwB_iff.mp hb p0 p0n (by omega) b2) nz
      · show (true && (deepL 10 ((XsB (wN n) p0).map tv1) && true)) = true
        rw [deep_rows]
        rfl
      · have sr : ∀ h, builtin h .sorted [.lst (ks.map tv1)] = some (.lst (tv1 p0 :: rest.map tv1)) := fun h => by
          rw [sorted_tv h0 kne, hms]
          rfl
        have c18 : ∀ h, (prOf tb (d + 5)).call 18 [tv1 p0, .int (n : Nat)] h = .ok (.tup ((XsB (wN n) p0).map tv1)) h := fun h => breaking (d := d + 3) h2 h5 p0n (by omega) b2
        unfold b19
        rw [nx_ (env1 := [some (tv1 w), some (.int (n : Nat)), none, none]) (h1 := []) (by simp only [evS, ev, evs, look_zero, look_succ, Res.bind_ok, ofO, List.cons_append, List.nil_append, df14, perm1, c14, Out.of])]
        rw [nx_ (env1 := [some (tv1 w), some (.int (n : Nat)), none, none]) (h1 := []) (by simp only [evS, ev, evs, look_zero, look_succ, Res.bind_ok, ofO, List.cons_append, List.nil_append, df4, perm3, c4, Out.of])]
        rw [nx_ (set_ (v := .lst (tv1 p0 :: rest.map tv1)) (h1 := g ++ [.ddf (toK L)]) (by rw [ev, evs, cp]; simp only [evs, Res.bind_ok, sr, ofO]))]
        rw [nx_ (env1 := [some (tv1 w), some (.int (n : Nat)), some (.lst (tv1 p0 :: rest.map tv1)), none]) (h1 := g ++ [.ddf (toK L)]) (by
          rw [if_f (h1 := g ++ [.ddf (toK L)]) (by rfl)]
          rfl)]
        have i0 : ∀ h, itemV (.lst (tv1 p0 :: rest.map tv1)) (.int 0) h = some (tv1 p0) := fun h => by
          show itemAt (tv1 p0 :: rest.map tv1) 0 = _
          unfold itemAt L2.atI L2.ixN
          simp
        have z : decide ((0 + 1 + 1 : Nat) ≤ seqLen) = true := by decide
        exact rt_ (ret_ (by simp only [ev, evs, look_zero, look_succ, Res.bind_ok, ofO, i0, List.cons_append, List.nil_append, df18, perm2, c18, List.length_cons, List.length_nil, z, if_true]))
end K37
end

section
set_option Elab.async false
set_option linter.all false
set_option maxRecDepth 100000
set_option maxHeartbeats 0
set_option autoImplicit false
namespace K37
open PySem Ws
/-! ### tests -/
section
variable {p : Pr} {a b : CE} {env : SE} {h h1 : SH} {c : Bool}
theorem or_f (q : evT p a env h = .ok false h1) : evT p (.or a b) env h = evT p b env h1 := by
  rw [evT, q]
  rfl
theorem or_t (q : evT p a env h = .ok true h1) : evT p (.or a b) env h = .ok true h1 := by
  rw [evT, q]
  rfl
theorem not_ (q : evT p a env h = .ok c h1) : evT p (.not a) env h = .ok (!c) h1 := by
  rw [evT, q]
  rfl
theorem cmpT {op : COp} {x y : SV} {h2 : SH} (q : ev p a env h = .ok x h1) (q2 : ev p b env h1 = .ok y h2) (k : cmpop h2 op x y = some c) : evT p (.cmp op a b) env h = .ok c h2 := by
  rw [evT, q]
  simp only [Res.bind_ok]
  rw [q2]
  simp only [Res.bind_ok]
  rw [k]
  rfl
end
/-! ### values of words -/
def wBody (fm fi : Nat) : CSs :=
  (.cons (.set (.name 5) (.ix (.var 1) (.bin .sub (.bi .abs (.cons (.var 4) .nil)) (.int (1)))))
  (.cons (.set (.name 3) (.call fm [0, 1, 2] (.cons (.var 0) (.cons (.var 3) (.cons (.ite (.cmp .gt (.var 4) (.int (0))) (.var 5) (.call fi [0, 1] (.cons (.var 0) (.cons (.var 5) .nil)) .nil)) .nil))) .nil))
  .nil))
/-- three small elements -/
def Tre (W : Nat) (Xs : List (List Int)) : Prop := ∃ X Y Z, Xs = [X, Y, Z] ∧ El W 5 X ∧ El W 5 Y ∧ El W 5 Z
theorem Tre.tri {W : Nat} {Xs : List (List Int)} (t : Tre W Xs) : Tri W Xs := by
  obtain ⟨X, Y, Z, e, h1, h2, h3⟩ := t
  exact ⟨X, Y, Z, e, h1.1, h2.1, h3.1⟩
theorem Tre.el {W : Nat} {Xs : List (List Int)} (t : Tre W Xs) {l : Int} (h : (-3 ≤ l ∧ l ≤ 3) ∧ l ≠ 0) : El W 5 (xAt Xs l) := by
  obtain ⟨X, Y, Z, rfl, h1, h2, h3⟩ := t
  have : l = -3 ∨ l = -2 ∨ l = -1 ∨ l = 1 ∨ l = 2 ∨ l = 3 := by omega
  rcases this with rfl | rfl | rfl | rfl | rfl | rfl
  · exact h3
  · exact h2
  · exact h1
  · exact h1
  · exact h2
  · exact h3
theorem Tre.at_ {W : Nat} {Xs : List (List Int)} (t : Tre W Xs) {l : Int} (h : (-3 ≤ l ∧ l ≤ 3) ∧ l ≠ 0) {hh : SH} : itemV (.tup (Xs.map tv1)) (.int ((if l < 0 then -l else l) - 1)) hh = some (tv1 (xAt Xs l)) := by
  obtain ⟨X, Y, Z, rfl, h1, h2, h3⟩ := t
  have : l = -3 ∨ l = -2 ∨ l = -1 ∨ l = 1 ∨ l = 2 ∨ l = 3 := by omega
  rcases this with rfl | rfl | rfl | rfl | rfl | rfl <;> rfl
section
variable {ns : List Int} {W : Nat}
theorem vStep_el (S : SF ns W) {Xs : List (List Int)} (t : Tre W Xs) {a : Nat} {A : List Int} (hA : El W a A) {l : Int} (h : (-3 ≤ l ∧ l ≤ 3) ∧ l ≠ 0) : El W (a + 110) (vStep ns Xs A l) := by
  have hx := t.el h
  unfold vStep
  by_cases h0 : 0 < l
  · rw [if_pos h0]
    exact (S.mul hA hx).mono (by omega)
  · rw [if_neg h0]
    exact (S.mul hA (S.inv hx (by decide))).mono (by omega)
theorem w_turn (S : SF ns W) {p : Pr} {fm fi : Nat} {Xs : List (List Int)} (t : Tre W Xs) (hm : ∀ (X Y : List Int) (a b : Nat) (h : SH), El W a X → El W b Y → a + b ≤ 1000000 → p.call fm [tv1 ns, tv1 X, tv1 Y] h = .ok (tv1 (mu ns X Y)) h)
    (hi : ∀ (X : List Int) (a : Nat) (h : SH), El W a X → a ≤ 20000 → p.call fi [tv1 ns, tv1 X] h = .ok (tv1 (iu ns X)) h) (dm : p.dfl fm = []) (di : p.dfl fi = []) {a : Nat} {A : List Int} (hA : El W a A) (ha : a ≤ 900000) {l : Int} (h : (-3 ≤ l ∧ l ≤ 3) ∧ l ≠ 0) {wv : SV} {hh : SH} :
    turn p (.name 4) (wBody fm fi) (.int l) [some (tv1 ns), some (.tup (Xs.map tv1)), some wv, some (tv1 A), none, none] hh = .nx [some (tv1 ns), some (.tup (Xs.map tv1)), some wv, some (tv1 (vStep ns Xs A l)), some (.int l), some (tv1 (xAt Xs l))] hh := by
  rw [turn_eq (env2 := [some (tv1 ns), some (.tup (Xs.map tv1)), some wv, some (tv1 A), some (.int l), none]) (by rfl)]
  have hx := t.el h
  have i0 := t.at_ h (hh := hh)
  unfold wBody
  rw [nx_ (set_ (v := tv1 (xAt Xs l)) (h1 := hh) (by simp only [ev, evs, look_zero, look_succ, Res.bind_ok, ofO, bi_abs, binop_sub, i0]))]
  unfold vStep
  by_cases h0 : 0 < l
  · have t1 : decide (0 < l) = true := decide_eq_true h0
    have c := hm A (xAt Xs l) a 5 hh hA hx (by omega)
    rw [if_pos h0]
    rw [nx_ (set_ (v := tv1 (mu ns A (xAt Xs l))) (h1 := hh) (by simp only [List.set, ev, evT, evs, look_zero, look_succ, Res.bind_ok, ofO, cmp_gt, t1, if_true, List.cons_append, List.nil_append, dm, perm3, c]))]
    rfl
  · have t1 : decide (0 < l) = false := decide_eq_false h0
    have hv := S.inv hx (by decide)
    have c := hm A (iu ns (xAt Xs l)) a _ hh hA hv (by omega)
    have c2 := hi (xAt Xs l) 5 hh hx (by decide)
    rw [if_neg h0]
    rw [nx_ (set_ (v := tv1 (mu ns A (iu ns (xAt Xs l)))) (h1 := hh) (by simp only [List.set, ev, evT, evs, look_zero, look_succ, Res.bind_ok, ofO, cmp_gt, t1, Bool.false_eq_true, if_false, List.cons_append, List.nil_append, di, perm2, c2, dm, perm3, c]))]
    rfl
theorem w_loop (S : SF ns W) {p : Pr} {fm fi : Nat} {Xs : List (List Int)} (t : Tre W Xs) (hm : ∀ (X Y : List Int) (a b : Nat) (h : SH), El W a X → El W b Y → a + b ≤ 1000000 → p.call fm [tv1 ns, tv1 X, tv1 Y] h = .ok (tv1 (mu ns X Y)) h)
    (hi : ∀ (X : List Int) (a : Nat) (h : SH), El W a X → a ≤ 20000 → p.call fi [tv1 ns, tv1 X] h = .ok (tv1 (iu ns X)) h) (dm : p.dfl fm = []) (di : p.dfl fi = []) {wv : SV} {hh : SH} : ∀ (w : List Int) (a : Nat) (A : List Int), El W a A → a + 110 * w.length ≤ 900000 → Wd w →
    loopF [4, 5] (turn p (.name 4) (wBody fm fi)) (iv w) [some (tv1 ns), some (.tup (Xs.map tv1)), some wv, some (tv1 A), none, none] hh = .nx [some (tv1 ns), some (.tup (Xs.map tv1)), some wv, some (tv1 (w.foldl (vStep ns Xs) A)), none, none] hh
  | [], _, _, _, _, _ => rfl
  | l :: w, a, A, hA, ha, hw => by
    rw [List.length_cons] at ha
    have h := hw l List.mem_cons_self
    show loopF _ _ (SV.int l :: iv w) _ _ = _
    rw [loop_nx (w_turn S t hm hi dm di hA (by omega) h)]
    exact w_loop S t hm hi dm di w (a + 110) _ (vStep_el S t hA h) (by omega) fun x hx => hw x (List.mem_cons_of_mem _ hx)
theorem dry_rows3 (Xs : List (List Int)) : (SV.tup (Xs.map tv1)).dry = true := by
  show dryL (Xs.map tv1) = true
  induction Xs with
  | nil => rfl
  | cons X Xs ih =>
    show (SV.dry (tv1 X) && dryL (Xs.map tv1)) = true
    rw [ih, dry_tup_iv]
    rfl
theorem dryW {X Z : List Int} {Xs : List (List Int)} : dryL [tv1 X, .tup (Xs.map tv1), tv1 Z] = true := by
  simp only [dryL, dry_rows3, dry_tup_iv, Bool.and_self]
theorem word_in (S : SF ns W) {d : Nat} {hh : SH} {Xs : List (List Int)} (t : Tre W Xs) {w : List Int} (hw : Wd w) (hl : w.length ≤ 1000) : callF tb (d + 3) 15 [tv1 ns, .tup (Xs.map tv1), tv1 w] hh = .ok (tv1 (vF ns W Xs w)) hh := by
  refine call_ (F := f15) (h1 := []) rfl rfl dryW rfl ?_ (fin_val rfl deep_tup_iv)
  show evSs (prOf tb (d + 2)) b15 [some (tv1 ns), some (.tup (Xs.map tv1)), some (tv1 w), none, none, none] [] = _
  have c10 : (prOf tb (d + 2)).call 10 [tv1 ns] [] = .ok (tv1 (zer W)) [] := S.ide d []
  have lp := w_loop S (p := prOf tb (d + 2)) (fm := 12) (fi := 13) t (fun X Y a b h hX hY hab => S.prod_in (d := d + 1) hX hY hab) (fun X a h hX ha => S.inv_in (d := d + 1) hX ha) df12 df13 (wv := tv1 w) (hh := []) w 1 (zer W) S.zel (by omega) hw
  have be : b15l0 = wBody 12 13 := rfl
  unfold b15
  rw [be]
  rw [nx_ (set_ (v := tv1 (zer W)) (h1 := []) (by simp only [ev, evs, look_zero, look_succ, Res.bind_ok, ofO, List.cons_append, List.nil_append, df10, perm1, c10]))]
  rw [nx_ (loop_ (xs := iv w) (h1 := []) (by simp only [List.set, evi, ev, look_zero, look_succ, ofO, Res.bind_ok]) (by simpa only [List.set] using lp))]
  exact rt_ (ret_ (by simp only [ev, look_zero, look_succ, ofO]; rfl))
theorem law_value (S : SF ns W) {d : Nat} {hh : SH} {Xs : List (List Int)} (t : Tre W Xs) {w : List Int} (hw : Wd w) (hl : w.length ≤ 1000) : callF tb (d + 6) 36 [tv1 ns, .tup (Xs.map tv1), tv1 w] hh = .ok (tv1 (vF ns W Xs w)) hh := by
  refine call_ (F := f36) (h1 := []) rfl rfl dryW rfl ?_ (fin_val rfl deep_tup_iv)
  show evSs (prOf tb (d + 5)) b36 [some (tv1 ns), some (.tup (Xs.map tv1)), some (tv1 w), none, none, none] [] = _
  have w12 := S.w12
  have c23 : (prOf tb (d + 5)).call 23 [tv1 ns] [] = .ok (.int (W : Nat)) [] := S.lw (d + 4) []
  have one0' : mkL false [SV.int 0] [] = .ok (.lst [.int 0]) [] := mkL_val (by decide)
  have zl : mkL false (iv (zer W)) [] = .ok (.lst (iv (zer W))) [] := mkL_any (by rw [len_iv, zlen]; omega)
  have lp := w_loop S (p := prOf tb (d + 5)) (fm := 27) (fi := 28) t (fun X Y a b h hX hY hab => S.law_prod (d := d + 1) hX hY hab) (fun X a h hX ha => S.law_inv (d := d) hX ha) df27 df28 (wv := tv1 w) (hh := []) w 1 (zer W) S.zel (by omega) hw
  have be : b36l0 = wBody 27 28 := rfl
  unfold b36
  rw [be]
  rw [nx_ (set_ (v := tv1 (zer W)) (h1 := []) (by simp only [ev, evs, look_zero, look_succ, Res.bind_ok, ofO, List.cons_append, List.nil_append, df23, perm1, c23, one0', rep_of w12, zl, bi_tup_lst]))]
  rw [nx_ (loop_ (xs := iv w) (h1 := []) (by simp only [List.set, evi, ev, look_zero, look_succ, ofO, Res.bind_ok]) (by simpa only [List.set] using lp))]
  exact rt_ (ret_ (by simp only [ev, look_zero, look_succ, ofO]; rfl))
theorem word_at (S : SF ns W) {d : Nat} {hh : SH} {Xs : List (List Int)} (t : Tre W Xs) {w : List Int} (hw : Wd w) (hl : w.length ≤ 1000) : callF tb (d + 6) 16 [tv1 ns, .tup (Xs.map tv1), tv1 w] hh = .ok (tv1 (vF ns W Xs w)) hh := by
  refine call_ (F := f16) (h1 := []) rfl rfl dryW rfl ?_ (fin_val rfl deep_tup_iv)
  show evSs (prOf tb (d + 5)) b16 [some (tv1 ns), some (.tup (Xs.map tv1)), some (tv1 w), none] [] = _
  have c6 : (prOf tb (d + 5)).call 6 [tv1 ns] [] = .ok .non [] := S.chk d []
  have c14 : (prOf tb (d + 5)).call 14 [tv1 w] [] = .ok .non [] := check_word (d := d + 2) hw hl
  have c15 : (prOf tb (d + 5)).call 15 [tv1 ns, .tup (Xs.map tv1), tv1 w] [] = .ok (tv1 (vF ns W Xs w)) [] := word_in S (d := d + 2) t hw hl
  obtain ⟨X, Y, Z, rfl, h1, h2, h3⟩ := t
  have cp : ev (prOf tb (d + 5)) (.comp false (.call 8 [0, 1] (.cons (.var 0) (.cons (.var 3) .nil)) .nil) (.name 3) (.it (.var 1)) [3]) [some (tv1 ns), some (.tup ([X, Y, Z].map tv1)), some (tv1 w), none] [] = .ok (.lst ([X, Y, Z].map fun _ => SV.bl true)) [] := by
    rw [compA_ (ps := [X, Y, Z]) tv1 (fun _ => SV.bl true) (h1 := []) (by simp only [evi, ev, look_zero, look_succ, Res.bind_ok, ofO])]
    · exact mkL_any (by simp)
    · intro V hV
      have lV : V.length = W := by
        simp only [List.mem_cons, List.not_mem_nil, or_false] at hV
        rcases hV with rfl | rfl | rfl
        · exact h1.1
        · exact h2.1
        · exact h3.1
      have c8 : (prOf tb (d + 5)).call 8 [tv1 ns, tv1 V] [] = .ok (.bl true) [] := S.el (d + 1) [] V lV
      refine ⟨[some (tv1 ns), some (.tup ([X, Y, Z].map tv1)), some (tv1 w), some (tv1 V)], rfl, ?_⟩
      simp only [ev, evs, look_zero, look_succ, Res.bind_ok, ofO, List.cons_append, List.nil_append, df8, perm2, c8]
  have iT : builtin [] .isTuple [.tup ([X, Y, Z].map tv1)] = some (.bl true) := rfl
  have l3 : builtin [] .len [.tup ([X, Y, Z].map tv1)] = some (.int 3) := rfl
  have n3 : cmpop [] .ne (.int 3) (.int 3) = some false := by rfl
  have al : builtin [] .all [.lst ([X, Y, Z].map fun _ => SV.bl true)] = some (.bl true) := rfl
  unfold b16
  rw [nx_ (env1 := [some (tv1 ns), some (.tup ([X, Y, Z].map tv1)), some (tv1 w), none]) (h1 := []) (by simp only [evS, ev, evs, look_zero, look_succ, Res.bind_ok, ofO, List.cons_append, List.nil_append, df6, perm1, c6, Out.of])]
  have tt : evT (prOf tb (d + 5)) (.not (.bi .all (.cons (.comp false (.call 8 [0, 1] (.cons (.var 0) (.cons (.var 3) .nil)) .nil) (.name 3) (.it (.var 1)) [3]) .nil))) [some (tv1 ns), some (.tup ([X, Y, Z].map tv1)), some (tv1 w), none] [] = .ok false [] := by
    rw [evT, evT, evs, cp]
    simp only [evs, Res.bind_ok, al, ofO, Option.bind_some, truthOf, Bool.not_true]
  rw [nx_ (env1 := [some (tv1 ns), some (.tup ([X, Y, Z].map tv1)), some (tv1 w), none]) (h1 := []) (by
    rw [if_f (h1 := []) (by
      rw [or_f (h1 := []) (by simp only [evT, ev, evs, look_zero, look_succ, Res.bind_ok, ofO, iT, Option.bind_some, truthOf, Bool.not_true])]
      rw [or_f (h1 := []) (by simp only [evT, ev, evs, look_zero, look_succ, Res.bind_ok, ofO, l3, n3])]
      exact tt)]
    rfl)]
  rw [nx_ (env1 := [some (tv1 ns), some (.tup ([X, Y, Z].map tv1)), some (tv1 w), none]) (h1 := []) (by simp only [evS, ev, evs, look_zero, look_succ, Res.bind_ok, ofO, List.cons_append, List.nil_append, df14, perm1, c14, Out.of])]
  exact rt_ (ret_ (by simp only [ev, evs, look_zero, look_succ, Res.bind_ok, ofO, List.cons_append, List.nil_append, df15, perm3, c15]))
end
end K37
end

section
set_option Elab.async false
set_option linter.all false
set_option maxRecDepth 100000
set_option maxHeartbeats 0
set_option autoImplicit false
namespace K37
open PySem Ws
theorem range_st {p : Pr} {it : CE} {env : SE} {h h2 : SH} {n : Nat} (e : ev p it env h = .ok (.int (n : Nat)) h2) (hn : n ≤ 1000) : evi p (.range1 it) env h = .ok (rangeOf 0 (n : Int)) h2 := by
  rw [evi, e]
  show (if small62 ((n : Nat) : Int) = true then Res.ok (rangeOf 0 ((n : Nat) : Int)) h2 else Res.bad) = _
  rw [if_pos (small_nat hn)]
theorem comp_st2 {p : Pr} {elt : CE} {t : CT} {it : CI} {own : List Nat} {env : SE} {h0 h : SH} {xs : List SV} {P : Int → Prop} (e : evi p it env h0 = .ok xs h) (hg : Good h)
    (b : ∀ x ∈ xs, ∀ h, Good h → ∃ (env2 : SE) (v : Int) (h2 : SH), store t x (wipeE env own) = some env2 ∧ ev p elt env2 h = .ok (.int v) h2 ∧ Good h2 ∧ P v) (hl : xs.length ≤ 100) :
    ∃ (X : List Int) (h2 : SH), ev p (.comp false elt t it own) env h0 = .ok (.lst (iv X)) h2 ∧ Good h2 ∧ X.length = xs.length ∧ ∀ v ∈ X, P v := by
  have e0 : evi ⟨p.glob, p.dfl, p.call⟩ it env h0 = .ok xs h := e
  rw [ev, e]
  simp only [Res.bind_ok]
  have go : ∀ (ys : List SV) (h : SH), Good h → (∀ x ∈ ys, ∀ h, Good h → ∃ (env2 : SE) (v : Int) (h2 : SH), store t x (wipeE env own) = some env2 ∧ ev p elt env2 h = .ok (.int v) h2 ∧ Good h2 ∧ P v) →
      ∃ (X : List Int) (h2 : SH), compF (fun x h => match store t x (wipeE env own) with
    | none => .bad
    | some env2 => (ev p elt env2 h).bind fun y h => .ok (some y) h) ys h = .ok (iv X) h2 ∧ Good h2 ∧ X.length = ys.length ∧ ∀ v ∈ X, P v := by
    intro ys
    induction ys with
    | nil => intro h hg _; exact ⟨[], h, rfl, hg, rfl, fun v hv => absurd hv List.not_mem_nil⟩
    | cons y ys ih =>
      intro h hg hy
      obtain ⟨env2, v, h2, e1, e2, g2, pv⟩ := hy y List.mem_cons_self h hg
      obtain ⟨X, h3, e3, g3, l3, p3⟩ := ih h2 g2 fun x hx => hy x (List.mem_cons_of_mem _ hx)
      refine ⟨v :: X, h3, ?_, g3, by simp [l3], ?_⟩
      · rw [compF, e1]
        simp only [e2, Res.bind_ok]
        rw [e3]
        rfl
      · intro w hw
        rcases List.mem_cons.mp hw with rfl | hw
        · exact pv
        · exact p3 w hw
  obtain ⟨X, h2, e2, g2, l2, p2⟩ := go xs h hg b
  refine ⟨X, h2, ?_, g2, l2, p2⟩
  refine (congrArg (fun r => Res.bind r fun r h => mkL false r h) e2).trans ?_
  exact mkL_any (by rw [List.length_map]; omega)
/-! ### _law_word -/
theorem word_ok {d most : Nat} {h : SH} (hg : Good h) (hm : most ≤ 12) : ∃ (w : List Int) (h2 : SH), callF tb (d + 2) 31 [.ref 0, .int (most : Nat)] h = .ok (tv1 w) h2 ∧ Good h2 ∧ Wd w ∧ w.length ≤ most := by
  obtain ⟨k, h1, e1, g1, k0, k1⟩ := draw (d := d) hg (many := (most : Int) + 1) (by omega) (by omega)
  have c1 : (prOf tb (d + 1)).call 21 [.ref 0, .int ((most : Int) + 1)] h = .ok (.int k) h1 := e1
  obtain ⟨j, rfl⟩ : ∃ j : Nat, k = (j : Nat) := ⟨k.toNat, by omega⟩
  have mk : mkL false [SV.int 1, .int (-1), .int 2, .int (-2), .int 3, .int (-3)] h = .ok (.lst [SV.int 1, .int (-1), .int 2, .int (-2), .int 3, .int (-3)]) h := mkL_any (by simp)
  obtain ⟨w, h2, e2, g2, l2, p2⟩ := comp_st2 (p := prOf tb (d + 1)) (elt := .ix (.var 2) (.call 21 [0, 1] (.cons (.var 0) (.cons (.int (6)) .nil)) .nil)) (t := .name 3) (it := .range1 (.call 21 [0, 1] (.cons (.var 0) (.cons (.bin .add (.var 1) (.int (1))) .nil)) .nil)) (own := [3])
    (env := [some (.ref 0), some (.int (most : Nat)), some (.lst [SV.int 1, .int (-1), .int 2, .int (-2), .int 3, .int (-3)]), none]) (h0 := h) (h := h1) (xs := rangeOf 0 (j : Nat)) (P := fun v => (-3 ≤ v ∧ v ≤ 3) ∧ v ≠ 0)
    (range_st (by simp only [ev, evs, look_zero, look_succ, Res.bind_ok, ofO, binop_add, List.cons_append, List.nil_append, df21, perm2, c1]) (by omega)) g1 (by
      intro x hx h hg
      obtain ⟨i, h2, e2, g2, i0, i1⟩ := draw (d := d) hg (many := 6) (by decide) (by decide)
      have c2 : (prOf tb (d + 1)).call 21 [.ref 0, .int 6] h = .ok (.int i) h2 := e2
      obtain ⟨v, it, pv⟩ : ∃ v : Int, itemV (.lst [SV.int 1, .int (-1), .int 2, .int (-2), .int 3, .int (-3)]) (.int i) h2 = some (.int v) ∧ (-3 ≤ v ∧ v ≤ 3) ∧ v ≠ 0 := by
        have : i = 0 ∨ i = 1 ∨ i = 2 ∨ i = 3 ∨ i = 4 ∨ i = 5 := by omega
        rcases this with rfl | rfl | rfl | rfl | rfl | rfl
        · exact ⟨1, rfl, by decide⟩
        · exact ⟨-1, rfl, by decide⟩
        · exact ⟨2, rfl, by decide⟩
        · exact ⟨-2, rfl, by decide⟩
        · exact ⟨3, rfl, by decide⟩
        · exact ⟨-3, rfl, by decide⟩
      refine ⟨[some (.ref 0), some (.int (most : Nat)), some (.lst [SV.int 1, .int (-1), .int 2, .int (-2), .int 3, .int (-3)]), some x], v, h2, rfl, ?_, g2, pv⟩
      simp only [ev, evs, look_zero, look_succ, Res.bind_ok, ofO, List.cons_append, List.nil_append, df21, perm2, c2, it]) (by rw [rng, List.length_map, List.length_range]; omega)
  rw [rng, List.length_map, List.length_range] at l2
  refine ⟨w, h2, ?_, g2, p2, by omega⟩
  have l1 := hg.len
  have l3 := g2.len
  refine callH_ (F := f31) rfl rfl rfl (v := tv1 w) (h1 := h2) ?_ (fin_deep rfl deep_tup_iv (by omega))
  show evSs (prOf tb (d + 1)) b31 [some (.ref 0), some (.int (most : Nat)), none, none] h = _
  unfold b31
  rw [nx_ (set_ (v := .lst [SV.int 1, .int (-1), .int 2, .int (-2), .int 3, .int (-3)]) (h1 := h) (by simp only [ev, evs, Res.bind_ok, asInt_int, Option.map_some, ofO, mk]))]
  refine rt_ (ret_ ?_)
  rw [ev, evs]
  simp only [List.set]
  rw [e2]
  simp only [evs, Res.bind_ok, bi_tup_lst, ofO]
/-! ### _law_back, _law_commuted -/
def bkF (w : List Int) : List Int := w.reverse.map fun x => -x
theorem law_back {d : Nat} {hh : SH} {w : List Int} (hl : w.length ≤ 100) : callF tb (d + 1) 32 [tv1 w] hh = .ok (tv1 (bkF w)) hh := by
  refine call_ (F := f32) (h1 := []) rfl rfl (by simp [dryL, SV.dry, dry_iv]) rfl ?_ (fin_val rfl deep_tup_iv)
  show evSs (prOf tb d) b32 [some (tv1 w), none] [] = _
  have cp : ev (prOf tb d) (.comp false (.neg (.var 1)) (.name 1) (.it (.rev (.var 0))) [1]) [some (tv1 w), none] [] = .ok (.lst (iv (bkF w))) [] := by
    have rv : (iv w).reverse = w.reverse.map SV.int := (List.map_reverse).symm
    rw [compA_ (ps := w.reverse) SV.int (fun x => SV.int (-x)) (h1 := []) (by simp only [evi, ev, look_zero, Res.bind_ok, ofO, rv])]
    · have e : w.reverse.map (fun x => SV.int (-x)) = iv (bkF w) := by
        unfold iv bkF
        rw [List.map_map]
        rfl
      rw [e]
      exact mkL_any (by rw [len_iv, bkF, List.length_map, List.length_reverse]; exact hl)
    · intro x _
      refine ⟨[some (tv1 w), some (.int x)], rfl, ?_⟩
      simp only [ev, look_zero, look_succ, ofO, Res.bind_ok, asInt_int, Option.map_some]
  unfold b32
  refine rt_ (ret_ ?_)
  rw [ev, evs, cp]
  simp only [evs, Res.bind_ok, bi_tup_lst, ofO]
theorem bkF_len (w : List Int) : (bkF w).length = w.length := by rw [bkF, List.length_map, List.length_reverse]
theorem bkF_wd {w : List Int} (h : Wd w) : Wd (bkF w) := by
  intro x hx
  obtain ⟨y, hy, rfl⟩ := List.mem_map.mp hx
  have := h y (List.mem_reverse.mp hy)
  omega
theorem Wd.app {a b : List Int} (ha : Wd a) (hb : Wd b) : Wd (a ++ b) := fun x hx => (List.mem_append.mp hx).elim (ha x) (hb x)
def cmF (a b : List Int) : List Int := ((bkF a ++ bkF b) ++ a) ++ b
theorem cmF_len (a b : List Int) : (cmF a b).length = 2 * (a.length + b.length) := by
  simp only [cmF, List.length_append, bkF_len]
  omega
theorem cmF_wd {a b : List Int} (ha : Wd a) (hb : Wd b) : Wd (cmF a b) := (((bkF_wd ha).app (bkF_wd hb)).app ha).app hb
theorem commuted {d : Nat} {hh : SH} {a b : List Int} (ha : a.length ≤ 100) (hb : b.length ≤ 100) : callF tb (d + 2) 33 [tv1 a, tv1 b] hh = .ok (tv1 (cmF a b)) hh := by
  refine call_ (F := f33) (h1 := []) rfl rfl dry2 rfl ?_ (fin_val rfl deep_tup_iv)
  show evSs (prOf tb (d + 1)) b33 [some (tv1 a), some (tv1 b)] [] = _
  have c1 : (prOf tb (d + 1)).call 32 [tv1 a] [] = .ok (tv1 (bkF a)) [] := law_back ha
  have c2 : (prOf tb (d + 1)).call 32 [tv1 b] [] = .ok (tv1 (bkF b)) [] := law_back hb
  have la := bkF_len a
  have lb := bkF_len b
  have a1 := addT (bkF a) (bkF b) (by omega)
  have a2 := addT (bkF a ++ bkF b) a (by rw [List.length_append]; omega)
  have a3 := addT ((bkF a ++ bkF b) ++ a) b (by rw [List.length_append, List.length_append]; omega)
  unfold b33
  exact rt_ (ret_ (by simp only [ev, evs, look_zero, look_succ, Res.bind_ok, ofO, List.cons_append, List.nil_append, df32, perm1, c1, c2, a1, a2, a3, cmF]))
/-! ### _law_drawn -/
theorem i_eq {i j : Int} {h : SH} (h0 : i = j) : cmpop h .eq (.int i) (.int j) = some true := by
  rw [cmp_eq_int, h0]
  simp
theorem i_ne {i j : Int} {h : SH} (h0 : i ≠ j) : cmpop h .eq (.int i) (.int j) = some false := by
  rw [cmp_eq_int]
  simp [h0]
theorem drawn {d : Nat} {h : SH} (hg : Good h) : ∃ (w : List Int) (h2 : SH), callF tb (d + 4) 37 [.ref 0] h = .ok (tv1 w) h2 ∧ Good h2 ∧ Wd w ∧ w.length ≤ 24 := by
  obtain ⟨x, h1, e1, g1, x1, x2⟩ := word_ok (d := d + 1) (most := 1) hg (by decide)
  obtain ⟨y, h2, e2, g2, y1, y2⟩ := word_ok (d := d + 1) (most := 1) g1 (by decide)
  obtain ⟨z, h3, e3, g3, z1, z2⟩ := word_ok (d := d + 1) (most := 1) g2 (by decide)
  obtain ⟨k, h4, e4, g4, k0, k1⟩ := draw (d := d + 2) g3 (many := 5) (by decide) (by decide)
  have c1 : (prOf tb (d + 3)).call 31 [.ref 0, .int 1] h = .ok (tv1 x) h1 := e1
  have c2 : (prOf tb (d + 3)).call 31 [.ref 0, .int 1] h1 = .ok (tv1 y) h2 := e2
  have c3 : (prOf tb (d + 3)).call 31 [.ref 0, .int 1] h2 = .ok (tv1 z) h3 := e3
  have c4 : (prOf tb (d + 3)).call 21 [.ref 0, .int 5] h3 = .ok (.int k) h4 := e4
  have cm : ∀ (a b : List Int) (h : SH), a.length ≤ 100 → b.length ≤ 100 → (prOf tb (d + 3)).call 33 [tv1 a, tv1 b] h = .ok (tv1 (cmF a b)) h := fun a b h ha hb => commuted (d := d + 1) ha hb
  have xy := cm x y h4 (by omega) (by omega)
  have yz := cm y z h4 (by omega) (by omega)
  have lxy := cmF_len x y
  have lyz := cmF_len y z
  have xyz := cm (cmF x y) z h4 (by omega) (by omega)
  have lxyz := cmF_len (cmF x y) z
  have xyyz := cm (cmF x y) (cmF y z) h4 (by omega) (by omega)
  have lxyyz := cmF_len (cmF x y) (cmF y z)
  have st : ∀ (w : List Int) (h5 : SH), Good h5 → evSs (prOf tb (d + 3)) b37 [some (.ref 0), none, none, none, none] h = .rt (tv1 w) h5 → callF tb (d + 4) 37 [.ref 0] h = .ok (tv1 w) h5 := fun w h5 g5 e => by
    have l1 := hg.len
    have l5 := g5.len
    exact callH_ (F := f37) rfl rfl rfl (v := tv1 w) (h1 := h5) e (fin_deep rfl deep_tup_iv (by omega))
  have start : ∀ {r : CSs} {o : Out}, evSs (prOf tb (d + 3)) r [some (.ref 0), some (.int k), some (tv1 x), some (tv1 y), some (tv1 z)] h4 = o → evSs (prOf tb (d + 3)) (.cons (.par3 2 3 4 (.call 31 [0, 1] (.cons (.var 0) (.cons (.int (1)) .nil)) .nil) (.call 31 [0, 1] (.cons (.var 0) (.cons (.int (1)) .nil)) .nil) (.call 31 [0, 1] (.cons (.var 0) (.cons (.int (1)) .nil)) .nil))
  (.cons (.set (.name 1) (.call 21 [0, 1] (.cons (.var 0) (.cons (.int (5)) .nil)) .nil)) r)) [some (.ref 0), none, none, none, none] h = o := by
    intro r o e
    rw [nx_ (env1 := [some (.ref 0), none, some (tv1 x), some (tv1 y), some (tv1 z)]) (h1 := h3) (by simp only [evS, ev, evs, look_zero, look_succ, Res.bind_ok, ofO, List.cons_append, List.nil_append, df31, perm2, c1, c2, c3, Out.of, List.set])]
    rw [nx_ (set_ (v := .int k) (h1 := h4) (by simp only [ev, evs, look_zero, look_succ, Res.bind_ok, ofO, List.cons_append, List.nil_append, df21, perm2, c4]))]
    exact e
  have skip : ∀ (j : Int) {s r : CSs} {o : Out}, k ≠ j → evSs (prOf tb (d + 3)) r [some (.ref 0), some (.int k), some (tv1 x), some (tv1 y), some (tv1 z)] h4 = o → evSs (prOf tb (d + 3)) (.cons (.cond (.cmp .eq (.var 1) (.int j)) s .nil) r) [some (.ref 0), some (.int k), some (tv1 x), some (tv1 y), some (tv1 z)] h4 = o := by
    intro j s r o hj e
    rw [nx_ (env1 := [some (.ref 0), some (.int k), some (tv1 x), some (tv1 y), some (tv1 z)]) (h1 := h4) (by
      rw [if_f (h1 := h4) (by simp only [evT, ev, look_zero, look_succ, Res.bind_ok, ofO, i_ne hj])]
      rfl)]
    exact e
  have take : ∀ (j : Int) {e : CE} {r : CSs} {v : SV} {h5 : SH}, k = j → ev (prOf tb (d + 3)) e [some (.ref 0), some (.int k), some (tv1 x), some (tv1 y), some (tv1 z)] h4 = .ok v h5 → evSs (prOf tb (d + 3)) (.cons (.cond (.cmp .eq (.var 1) (.int j)) (.cons (.ret e) .nil) .nil) r) [some (.ref 0), some (.int k), some (tv1 x), some (tv1 y), some (tv1 z)] h4 = .rt v h5 := by
    intro j e r v h5 hj q
    refine rt_ ?_
    rw [if_t (h1 := h4) (by simp only [evT, ev, look_zero, look_succ, Res.bind_ok, ofO, i_eq hj])]
    exact rt_ (ret_ q)
  have : k = 0 ∨ k = 1 ∨ k = 2 ∨ k = 3 ∨ k = 4 := by omega
  rcases this with q | q | q | q | q
  · obtain ⟨w, h5, e5, g5, w1, w2⟩ := word_ok (d := d + 1) (most := 12) g4 (by decide)
    have c5 : (prOf tb (d + 3)).call 31 [.ref 0, .int 12] h4 = .ok (tv1 w) h5 := e5
    refine ⟨w, h5, st w h5 g5 ?_, g5, w1, by omega⟩
    unfold b37
    exact start (take 0 q (by simp only [ev, evs, look_zero, look_succ, Res.bind_ok, ofO, List.cons_append, List.nil_append, df31, perm2, c5]))
  · refine ⟨_, h4, st _ h4 g4 ?_, g4, cmF_wd x1 y1, by omega⟩
    unfold b37
    exact start (skip 0 (by omega) (take 1 q (by simp only [ev, evs, look_zero, look_succ, Res.bind_ok, ofO, List.cons_append, List.nil_append, df33, perm2, xy])))
  · refine ⟨_, h4, st _ h4 g4 ?_, g4, cmF_wd (cmF_wd x1 y1) z1, by omega⟩
    unfold b37
    exact start (skip 0 (by omega) (skip 1 (by omega) (take 2 q (by simp only [ev, evs, look_zero, look_succ, Res.bind_ok, ofO, List.cons_append, List.nil_append, df33, perm2, xy, xyz]))))
  · obtain ⟨w, h5, e5, g5, w1, w2⟩ := word_ok (d := d + 1) (most := 1) g4 (by decide)
    have c5 : (prOf tb (d + 3)).call 31 [.ref 0, .int 1] h4 = .ok (tv1 w) h5 := e5
    have c6 := cm (cmF (cmF x y) z) w h5 (by omega) (by omega)
    have lw := cmF_len (cmF (cmF x y) z) w
    refine ⟨_, h5, st _ h5 g5 ?_, g5, cmF_wd (cmF_wd (cmF_wd x1 y1) z1) w1, by omega⟩
    unfold b37
    exact start (skip 0 (by omega) (skip 1 (by omega) (skip 2 (by omega) (take 3 q (by simp only [ev, evs, look_zero, look_succ, Res.bind_ok, ofO, List.cons_append, List.nil_append, df33, df31, perm2, xy, xyz, c5, c6])))))
  · refine ⟨_, h4, st _ h4 g4 ?_, g4, cmF_wd (cmF_wd x1 y1) (cmF_wd y1 z1), by omega⟩
    unfold b37
    exact start (skip 0 (by omega) (skip 1 (by omega) (skip 2 (by omega) (skip 3 (by omega) (rt_ (ret_ (by simp only [ev, evs, look_zero, look_succ, Res.bind_ok, ofO, List.cons_append, List.nil_append, df33, perm2, xy, yz, xyyz])))))))
end K37
end

section
set_option Elab.async false
set_option linter.all false
set_option maxRecDepth 100000
set_option maxHeartbeats 0
set_option autoImplicit false
namespace K37
open PySem Ws
/-! ### equality of elements, of answers -/
theorem eqv_dec : ∀ A B : List Int, PyData.eqvAll (SV.pdL (iv A)) (SV.pdL (iv B)) = decide (A = B)
  | [], [] => rfl
  | [], _ :: _ => rfl
  | _ :: _, [] => rfl
  | x :: A, y :: B => by
    show (PyData.eqv (.int x) (.int y) && PyData.eqvAll (SV.pdL (iv A)) (SV.pdL (iv B))) = _
    rw [eqv_dec A B]
    have : PyData.eqv (.int x) (.int y) = decide (x = y) := by simp [PyData.eqv]; rfl
    rw [this, ← Bool.decide_and]
    simp only [List.cons.injEq]
theorem cmp_eq_no {A B : List Int} {h : SH} (ne : A ≠ B) : cmpop h .eq (tv1 A) (tv1 B) = some false := by
  show (if ((tv1 A).fit 30 && (tv1 B).fit 30) = true then some (veq (tv1 A) (tv1 B)) else none) = _
  rw [fit_tv, fit_tv]
  have : veq (tv1 A) (tv1 B) = decide (A = B) := by
    unfold veq
    show PyData.eqv (.tuple (SV.pdL (iv A))) (.tuple (SV.pdL (iv B))) = _
    simp only [PyData.eqv, eqv_dec]
  rw [this, decide_eq_false ne]
  rfl
def tAl : SV := .tup [.str "always"]
def tBr (Xs : List (List Int)) : SV := .tup [.str "breaks", .tup (Xs.map tv1)]
theorem ne_al {h : SH} : cmpop h .ne tAl (.tup [.str "always"]) = some false := by kernel_rfl
theorem fit_rows {k : Nat} (Xs : List (List Int)) : (Xs.map tv1).all (SV.fit (k + 1)) = true := by
  induction Xs with
  | nil => rfl
  | cons X Xs ih =>
    show (SV.fit (k + 1) (tv1 X) && (Xs.map tv1).all (SV.fit (k + 1))) = true
    rw [ih]
    show ((iv X).all (SV.fit k) && true) = true
    rw [fit_iv]
    rfl
theorem eqv_rows (Xs : List (List Int)) : PyData.eqvAll (SV.pdL (Xs.map tv1)) (SV.pdL (Xs.map tv1)) = true := by
  induction Xs with
  | nil => rfl
  | cons X Xs ih =>
    show (veq (tv1 X) (tv1 X) && PyData.eqvAll (SV.pdL (Xs.map tv1)) (SV.pdL (Xs.map tv1))) = true
    rw [ih, veq_tv]
    rfl
theorem fit_br {Xs : List (List Int)} : (tBr Xs).fit 30 = true := by
  show (SV.fit 29 (.str "breaks") && ((Xs.map tv1).all (SV.fit 28) && true)) = true
  rw [fit_rows]
  kernel_rfl
theorem ne_br {Xs : List (List Int)} {h : SH} : cmpop h .ne (tBr Xs) (tBr Xs) = some false := by
  show (if ((tBr Xs).fit 30 && (tBr Xs).fit 30) = true then some (!veq (tBr Xs) (tBr Xs)) else none) = _
  rw [fit_br]
  have : veq (tBr Xs) (tBr Xs) = true := by
    show (PyData.eqv (.str "breaks") (.str "breaks") && (PyData.eqvAll (SV.pdL (Xs.map tv1)) (SV.pdL (Xs.map tv1)) && true)) = true
    rw [eqv_rows]
    kernel_rfl
  rw [this]
  rfl
theorem space_of {n : Nat} (h2 : 2 ≤ n) (h5 : n ≤ 5) : ∃ E, SF [((n : Nat) : Int)] (wN n) ∧ EvP [((n : Nat) : Int)] (wN n) n E := by
  have : n = 2 ∨ n = 3 ∨ n = 4 ∨ n = 5 := by omega
  rcases this with rfl | rfl | rfl | rfl
  · exact ⟨E0, sf0, evp0⟩
  · exact ⟨E1, sf1, evp1⟩
  · exact ⟨E2, sf2, evp2⟩
  · exact ⟨E3, sf3, evp3⟩
theorem bAt_el (W : Nat) (p : List Int) (l : Int) : El W 5 ((List.range W).map (bAt p l)) := by
  refine ⟨by simp, ?_, by decide⟩
  intro v hv
  obtain ⟨i, _, rfl⟩ := List.mem_map.mp hv
  unfold bAt
  split
  · split <;> decide
  · decide
theorem XsB_tre (W : Nat) (p : List Int) : Tre W (XsB W p) := ⟨_, _, _, rfl, bAt_el W p 1, bAt_el W p 2, bAt_el W p 3⟩
section
variable {n W : Nat} {E : List (List Int) → (List Int → Int) → List Int} {w : List Int}
theorem val_al {ns : List Int} (S : SF ns W) (P : EvP ns W n E) (hw : Wd w) (ha : alwB w n = true) {Xs : List (List Int)} (t : Tri W Xs) : vF ns W Xs w = zer W := by
  rw [vF_num S P t w hw]
  refine P.al Xs _ fun rp h0 hl hp => ?_
  have := alwB_iff.mp ha rp.reverse (by simpa using h0) (by rw [List.length_reverse]; exact hl) (fun a h => hp a (List.mem_reverse.mp h))
  rwa [List.reverse_reverse] at this
theorem val_br {ns : List Int} (S : SF ns W) (P : EvP ns W n E) (hw : Wd w) {p0 : List Int} (h0 : p0 ≠ []) (hl : p0.length < n) (hp : ∀ a ∈ p0, Let a) (nz : numR w p0.reverse ≠ 0) : vF ns W (XsB W p0) w ≠ zer W := by
  rw [vF_num S P (XsB_tre W p0).tri w hw]
  exact fun z => nz (P.br p0 _ h0 hl hp z)
abbrev envL (sc tn : SV) (n : Nat) (told : SV) (w : List Int) : SE := [some sc, some (.ref 0), some tn, some (tv1 [((n : Nat) : Int)]), some told, some (tv1 w), some (.int (n : Nat)), none, none, none]
theorem look_turn {sc tn told : SV} (S : SF [((n : Nat) : Int)] W) (P : EvP [((n : Nat) : Int)] W n E) (hw : Wd w) (hlw : w.length ≤ 24) (ha : alwB w n = true) {h : SH} (hg : Good h) (x : SV) :
    ∃ (env1 : SE) (h2 : SH), turn (prOf tb 29) (.name 7) b39l0 x (envL sc tn n told w) h = .nx env1 h2 ∧ wipeE env1 [7, 8] = envL sc tn n told w ∧ Good h2 := by
  obtain ⟨X, h1, e1, g1, x1⟩ := element_ok S (d := 26) hg
  obtain ⟨Y, h2, e2, g2, y1⟩ := element_ok S (d := 26) g1
  obtain ⟨Z, h3, e3, g3, z1⟩ := element_ok S (d := 26) g2
  have c1 : (prOf tb 29).call 30 [.ref 0, tv1 [((n : Nat) : Int)]] h = .ok (tv1 X) h1 := e1
  have c2 : (prOf tb 29).call 30 [.ref 0, tv1 [((n : Nat) : Int)]] h1 = .ok (tv1 Y) h2 := e2
  have c3 : (prOf tb 29).call 30 [.ref 0, tv1 [((n : Nat) : Int)]] h2 = .ok (tv1 Z) h3 := e3
  have t : Tre W [X, Y, Z] := ⟨X, Y, Z, rfl, x1, y1, z1⟩
  have va := val_al S P hw ha t.tri
  have c4 : (prOf tb 29).call 16 [tv1 [((n : Nat) : Int)], .tup ([X, Y, Z].map tv1), tv1 w] h3 = .ok (tv1 (vF [((n : Nat) : Int)] W [X, Y, Z] w)) h3 := word_at S (d := 23) t hw (by omega)
  have c5 : (prOf tb 29).call 36 [tv1 [((n : Nat) : Int)], .tup ([X, Y, Z].map tv1), tv1 w] h3 = .ok (tv1 (vF [((n : Nat) : Int)] W [X, Y, Z] w)) h3 := law_value S (d := 23) t hw (by omega)
  have c6 : (prOf tb 29).call 11 [tv1 [((n : Nat) : Int)]] h3 = .ok (tv1 (zer W)) h3 := S.idn 23 h3
  rw [va] at c4 c5
  refine ⟨[some sc, some (.ref 0), some tn, some (tv1 [((n : Nat) : Int)]), some told, some (tv1 w), some (.int (n : Nat)), some x, some (.tup ([X, Y, Z].map tv1)), none], h3, ?_, rfl, g3⟩
  rw [turn_eq (env2 := [some sc, some (.ref 0), some tn, some (tv1 [((n : Nat) : Int)]), some told, some (tv1 w), some (.int (n : Nat)), some x, none, none]) (by rfl)]
  have z : decide (0 + 1 + 1 + 1 ≤ seqLen) = true := by decide
  unfold b39l0
  rw [nx_ (set_ (v := .tup ([X, Y, Z].map tv1)) (h1 := h3) (by
    simp only [ev, evs, look_zero, look_succ, Res.bind_ok, ofO, List.cons_append, List.nil_append, df30, perm2, c1, c2, c3, List.length_cons, List.length_nil, z, if_true]
    rfl))]
  rw [nx_ (env1 := [some sc, some (.ref 0), some tn, some (tv1 [((n : Nat) : Int)]), some told, some (tv1 w), some (.int (n : Nat)), some x, some (.tup ([X, Y, Z].map tv1)), none]) (h1 := h3) (by
    rw [if_f (h1 := h3) (by
      rw [or_f (h1 := h3) (cmpT (h1 := h3) (x := tv1 (zer W)) (y := tv1 (zer W)) (by simp only [List.set, ev, evs, look_zero, look_succ, Res.bind_ok, ofO, List.cons_append, List.nil_append, df16, perm3, c4]) (by simp only [List.set, ev, evs, look_zero, look_succ, Res.bind_ok, ofO, List.cons_append, List.nil_append, df11, perm1, c6]) cmp_ne_tv)]
      exact cmpT (h1 := h3) (x := tv1 (zer W)) (y := tv1 (zer W)) (by simp only [List.set, ev, evs, look_zero, look_succ, Res.bind_ok, ofO, List.cons_append, List.nil_append, df36, perm3, c5]) (by simp only [List.set, ev, evs, look_zero, look_succ, Res.bind_ok, ofO, List.cons_append, List.nil_append, df11, perm1, c6]) cmp_ne_tv)]
    rfl)]
  rfl
end
end K37
end

section
set_option Elab.async false
set_option linter.all false
set_option maxRecDepth 100000
set_option maxHeartbeats 0
set_option autoImplicit false
namespace K37
open PySem Ws
abbrev env0 (sc : SV) : SE := [some sc, some (.ref 0), none, none, none, none, none, none, none, none]
theorem law_turn {sc x : SV} {h : SH} (hg : Good h) : ∃ (env1 : SE) (h2 : SH), turn (prOf tb 29) (.name 2) b39l1 x (env0 sc) h = .nx env1 h2 ∧ wipeE env1 [2, 3, 4, 5, 6, 7, 8] = env0 sc ∧ Good h2 := by
  obtain ⟨w, h1, e1, g1, hw, hlw⟩ := drawn (d := 25) hg
  obtain ⟨k, h2, e2, g2, k0, k1⟩ := draw (d := 28) g1 (many := 4) (by decide) (by decide)
  obtain ⟨n, hn⟩ : ∃ n : Nat, (2 : Int) + k = (n : Nat) := ⟨(2 + k).toNat, by omega⟩
  have n2 : 2 ≤ n := by omega
  have n5 : n ≤ 5 := by omega
  obtain ⟨E, S, P⟩ := space_of n2 n5
  obtain ⟨t, ht, e3⟩ := identity_for (d := 23) n2 n5 hw (by omega)
  have c1 : (prOf tb 29).call 37 [.ref 0] h = .ok (tv1 w) h1 := e1
  have c2 : (prOf tb 29).call 21 [.ref 0, .int 4] h1 = .ok (.int k) h2 := e2
  have c3 : (prOf tb 29).call 19 [tv1 w, .int (n : Nat)] h2 = .ok t h2 := e3 h2
  have c4 : (prOf tb 29).call 38 [tv1 w, .int (n : Nat)] h2 = .ok (.bl (alwB w n)) h2 := law_always (d := 27) hw n2 n5
  have ad : binop .add (.int 2) (.int k) = some (.int (n : Nat)) := by rw [binop_add, hn]
  have one : decide (0 + 1 ≤ seqLen) = true := by decide
  rw [turn_eq (env2 := [some sc, some (.ref 0), some x, none, none, none, none, none, none, none]) (by rfl)]
  have pre : ∀ {r : CSs} {o : Out} (ts : List SV), t = .tup ts → 1 ≤ ts.length → evSs (prOf tb 29) r (envL sc x n t w) h2 = o → evSs (prOf tb 29) (.cons (.par 5 6 (.call 37 [0] (.cons (.var 1) .nil) .nil) (.bin .add (.int (2)) (.call 21 [0, 1] (.cons (.var 1) (.cons (.int (4)) .nil)) .nil)))
  (.cons (.set (.name 3) (.tup (.cons (.var 6) .nil)))
  (.cons (.set (.name 4) (.call 19 [0, 1] (.cons (.var 5) (.cons (.var 6) .nil)) .nil))
  (.cons (.cond (.or (.not (.bi .isTuple (.cons (.var 4) .nil))) (.cmp .lt (.bi .len (.cons (.var 4) .nil)) (.int (1)))) (.cons (.ret (.bl false))
  .nil) .nil) r)))) [some sc, some (.ref 0), some x, none, none, none, none, none, none, none] h = o := by
    intro r o ts ht hl e
    have iT : builtin h2 .isTuple [t] = some (.bl true) := by rw [ht]; rfl
    have iL : builtin h2 .len [t] = some (.int (ts.length : Nat)) := by rw [ht]; rfl
    have lt : decide (((ts.length : Nat) : Int) < 1) = false := decide_eq_false (by omega)
    rw [nx_ (env1 := [some sc, some (.ref 0), some x, none, none, some (tv1 w), some (.int (n : Nat)), none, none, none]) (h1 := h2) (by simp only [evS, ev, evs, look_zero, look_succ, Res.bind_ok, ofO, List.cons_append, List.nil_append, df37, df21, perm1, perm2, c1, c2, ad, Out.of, List.set])]
    rw [nx_ (set_ (v := tv1 [((n : Nat) : Int)]) (h1 := h2) (by
      simp only [ev, evs, look_zero, look_succ, Res.bind_ok, ofO, List.length_cons, List.length_nil, one, if_true]
      rfl))]
    rw [nx_ (set_ (v := t) (h1 := h2) (by simp only [List.set, ev, evs, look_zero, look_succ, Res.bind_ok, ofO, List.cons_append, List.nil_append, df19, perm2, c3]))]
    rw [nx_ (env1 := envL sc x n t w) (h1 := h2) (by
      rw [if_f (h1 := h2) (by
        rw [or_f (h1 := h2) (by simp only [List.set, evT, ev, evs, look_zero, look_succ, Res.bind_ok, ofO, iT, Option.bind_some, truthOf, Bool.not_true])]
        simp only [List.set, evT, ev, evs, look_zero, look_succ, Res.bind_ok, ofO, iL, cmp_lt, lt])]
      rfl)]
    exact e
  rcases ht with ⟨ha, rfl⟩ | ⟨ha, p0, p1, p2, p3, nz, rfl⟩
  · obtain ⟨env1, h3, t1, w1, g3⟩ := look_turn (sc := sc) (tn := x) (told := .tup [.str "always"]) S P hw hlw ha g2 (.int 0)
    obtain ⟨env2, h4, t2, w2, g4⟩ := look_turn (sc := sc) (tn := x) (told := .tup [.str "always"]) S P hw hlw ha g3 (.int 1)
    refine ⟨envL sc x n (.tup [.str "always"]) w, h4, ?_, rfl, g4⟩
    unfold b39l1
    refine pre [.str "always"] rfl (by decide) ?_
    have lp : loopF [7, 8] (turn (prOf tb 29) (.name 7) b39l0) [.int 0, .int 1] (envL sc x n (.tup [.str "always"]) w) h2 = .nx (envL sc x n (.tup [.str "always"]) w) h4 := by
      rw [loop_nx t1, w1, loop_nx t2, w2]
      rfl
    have sm : small62 2 = true := by decide
    have rg : rangeOf 0 2 = [.int 0, .int 1] := by decide
    rw [nx_ (env1 := envL sc x n (.tup [.str "always"]) w) (h1 := h4) (by
      rw [if_t (h1 := h2) (by simp only [evT, ev, evs, look_zero, look_succ, Res.bind_ok, ofO, List.cons_append, List.nil_append, df38, perm2, c4, truthOf, ha])]
      rw [nx_ (env1 := envL sc x n (.tup [.str "always"]) w) (h1 := h2) (by
        rw [if_f (h1 := h2) (cmpT (h1 := h2) (x := tAl) (y := .tup [.str "always"]) (by simp only [ev, look_zero, look_succ, ofO]; rfl) (by simp only [ev, evs, Res.bind_ok, List.length_cons, List.length_nil, one, if_true]) ne_al)]
        rfl)]
      rw [nx_ (loop_ (xs := [.int 0, .int 1]) (h1 := h2) (by simp only [evi, ev, Res.bind_ok, sm, if_true, rg]) lp)]
      rfl)]
    rfl
  · have tre := XsB_tre (wN n) p0
    have vb := val_br S P hw p1 p2 p3 nz
    have c5 : (prOf tb 29).call 36 [tv1 [((n : Nat) : Int)], .tup ((XsB (wN n) p0).map tv1), tv1 w] h2 = .ok (tv1 (vF [((n : Nat) : Int)] (wN n) (XsB (wN n) p0) w)) h2 := law_value S (d := 23) tre hw (by omega)
    have c6 : (prOf tb 29).call 11 [tv1 [((n : Nat) : Int)]] h2 = .ok (tv1 (zer (wN n))) h2 := S.idn 23 h2
    have el := fun (V : List Int) (hV : V.length = wN n) => S.el2 23 h2 V hV
    generalize hX : XsB (wN n) p0 = Xs at *
    have l3 : Xs.length = 3 := by rw [← hX]; rfl
    have lX : ∀ V ∈ Xs, V.length = wN n := by
      rw [← hX]
      intro V hV
      simp only [XsB, List.mem_cons, List.not_mem_nil, or_false] at hV
      rcases hV with rfl | rfl | rfl <;> simp
    refine ⟨envL sc x n (tBr Xs) w, h2, ?_, rfl, g2⟩
    unfold b39l1
    refine pre [.str "breaks", .tup (Xs.map tv1)] rfl (by simp) ?_
    change evSs (prOf tb 29) _ (envL sc x n (tBr Xs) w) h2 = _
    have len2 : builtin h2 .len [tBr Xs] = some (.int 2) := rfl
    have it0 : itemV (tBr Xs) (.int 0) h2 = some (.str "breaks") := rfl
    have it1 : itemV (tBr Xs) (.int 1) h2 = some (.tup (Xs.map tv1)) := rfl
    have isT1 : builtin h2 .isTuple [.tup (Xs.map tv1)] = some (.bl true) := rfl
    have len3 : builtin h2 .len [.tup (Xs.map tv1)] = some (.int 3) := by
      rw [bi_len_tup, List.length_map, l3]
      rfl
    have nn2 : cmpop h2 .ne (.int 2) (.int 2) = some false := rfl
    have nn3 : cmpop h2 .ne (.int 3) (.int 3) = some false := rfl
    have cp : ev (prOf tb 29) (.comp false (.call 9 [0, 1] (.cons (.var 3) (.cons (.var 9) .nil)) .nil) (.name 9) (.it (.ix (.var 4) (.int (1)))) [9]) (envL sc x n (tBr Xs) w) h2 = .ok (.lst (Xs.map fun _ => SV.bl true)) h2 := by
      rw [compA_ (ps := Xs) tv1 (fun _ => SV.bl true) (h1 := h2) (by simp only [evi, ev, look_zero, look_succ, Res.bind_ok, ofO, it1])]
      · exact mkL_any (by rw [List.length_map, l3]; decide)
      · intro V hV
        have c9 : (prOf tb 29).call 9 [tv1 [((n : Nat) : Int)], tv1 V] h2 = .ok (.bl true) h2 := el V (lX V hV)
        refine ⟨[some sc, some (.ref 0), some x, some (tv1 [((n : Nat) : Int)]), some (tBr Xs), some (tv1 w), some (.int (n : Nat)), none, none, some (tv1 V)], rfl, ?_⟩
        simp only [ev, evs, look_zero, look_succ, Res.bind_ok, ofO, List.cons_append, List.nil_append, df9, perm2, c9]
    have al : builtin h2 .all [.lst (Xs.map fun _ => SV.bl true)] = some (.bl true) := by
      show ((blsOf (Xs.map fun _ => SV.bl ((fun (_ : List Int) => true) []))).map fun bs => SV.bl (bs.all id)) = _
      rw [blsOf_map (fun _ : List Int => true) Xs, Option.map_some]
      congr 2
      simp
    have c19 : (prOf tb 29).call 19 [tv1 w, .int (n : Nat)] h2 = .ok (tBr Xs) h2 := c3
    have pm : permute [1, 0] ([] ++ ([SV.int (n : Nat), tv1 w] ++ [])) = [tv1 w, .int (n : Nat)] := rfl
    rw [nx_ (env1 := envL sc x n (tBr Xs) w) (h1 := h2) (by
      rw [if_f (h1 := h2) (by simp only [evT, ev, evs, look_zero, look_succ, Res.bind_ok, ofO, List.cons_append, List.nil_append, df38, perm2, c4, truthOf, ha])]
      rw [nx_ (env1 := envL sc x n (tBr Xs) w) (h1 := h2) (by
        rw [if_f (h1 := h2) (by
          rw [or_f (h1 := h2) (cmpT (h1 := h2) (x := .int 2) (y := .int 2) (by simp only [ev, evs, look_zero, look_succ, Res.bind_ok, ofO, len2]) (by simp only [ev]) nn2)]
          rw [or_f (h1 := h2) (cmpT (h1 := h2) (x := .str "breaks") (y := .str "breaks") (by simp only [ev, evs, look_zero, look_succ, Res.bind_ok, ofO, it0]) (by simp only [ev]) cmp_ne_str)]
          rw [or_f (h1 := h2) (by simp only [evT, ev, evs, look_zero, look_succ, Res.bind_ok, ofO, it1, isT1, Option.bind_some, truthOf, Bool.not_true])]
          exact cmpT (h1 := h2) (x := .int 3) (y := .int 3) (by simp only [ev, evs, look_zero, look_succ, Res.bind_ok, ofO, it1, len3]) (by simp only [ev]) nn3)]
        rfl)]
      rw [nx_ (env1 := envL sc x n (tBr Xs) w) (h1 := h2) (by
        rw [if_f (h1 := h2) (by
          rw [evT, evT, evs, cp]
          simp only [evs, Res.bind_ok, al, ofO, Option.bind_some, truthOf, Bool.not_true])]
        rfl)]
      rw [nx_ (env1 := envL sc x n (tBr Xs) w) (h1 := h2) (by
        rw [if_f (h1 := h2) (by
          rw [or_f (h1 := h2) (cmpT (h1 := h2) (x := tv1 (vF [((n : Nat) : Int)] (wN n) Xs w)) (y := tv1 (zer (wN n))) (by simp only [ev, evs, look_zero, look_succ, Res.bind_ok, ofO, it1, List.cons_append, List.nil_append, df36, perm3, c5]) (by simp only [ev, evs, look_zero, look_succ, Res.bind_ok, ofO, List.cons_append, List.nil_append, df11, perm1, c6]) (cmp_eq_no vb))]
          exact cmpT (h1 := h2) (x := tBr Xs) (y := tBr Xs) (by simp only [ev, evs, look_zero, look_succ, Res.bind_ok, ofO, df19, pm, c19]) (by simp only [ev, look_zero, look_succ, ofO]) ne_br)]
        rfl)]
      rfl)]
    rfl
theorem law_loop {sc : SV} : ∀ (xs : List SV) (h : SH), Good h → ∃ h2, loopF [2, 3, 4, 5, 6, 7, 8] (turn (prOf tb 29) (.name 2) b39l1) xs (env0 sc) h = .nx (env0 sc) h2 ∧ Good h2
  | [], h, hg => ⟨h, rfl, hg⟩
  | x :: xs, h, hg => by
    obtain ⟨env1, h1, e1, w1, g1⟩ := law_turn (sc := sc) (x := x) hg
    obtain ⟨h2, e2, g2⟩ := law_loop xs h1 g1
    refine ⟨h2, ?_, g2⟩
    rw [loop_nx e1, w1]
    exact e2
theorem law_runs (ns : List Int) (hl : ns.length ≤ 63) : ∃ hend, callF tb 30 39 [.lst (ns.map SV.int)] [] = .ok (.bl true) hend := by
  obtain ⟨h1, e1, g1⟩ := begin_ok (d := 28) ns (by omega)
  obtain ⟨h2, e2, g2⟩ := law_loop (sc := .lst (iv ns)) (rangeOf 0 ((6 : Nat) : Int)) h1 g1
  have c1 : (prOf tb 29).call 20 [.lst (iv ns)] [] = .ok (.ref 0) h1 := e1
  refine ⟨[], ?_⟩
  refine callH_ (F := f39) rfl rfl rfl (v := .bl true) (h1 := h2) ?_ (fin_val rfl rfl)
  show evSs (prOf tb 29) b39 [some (.lst (iv ns)), none, none, none, none, none, none, none, none, none] [] = _
  unfold b39
  rw [nx_ (set_ (v := .ref 0) (h1 := h1) (by simp only [ev, evs, look_zero, look_succ, Res.bind_ok, ofO, List.cons_append, List.nil_append, df20, perm1, c1]))]
  rw [nx_ (loop_ (xs := rangeOf 0 ((6 : Nat) : Int)) (h1 := h1) (range_ev (n := 6) (by simp only [ev]; rfl) (by decide)) (by simpa only [List.set] using e2))]
  exact rt_ (ret_ (by simp only [ev]))
end K37
end

section
set_option Elab.async false
set_option linter.all false
set_option maxRecDepth 100000
set_option maxHeartbeats 0
namespace K37
open PySem PySem.Spec PyProof.Rows L2 Ws
theorem facts {P : Program} {w : World} {K : PySem.W.Frag} {h : Heap} {mg : Str → Option Value} {f : Addr} (X : K.In h) (G : h.Ns mainGlobals mg) (hfa : mg ("law" : Str) = some (.ref f)) (c : He.SaysX fa fn [] [] ex w h K) :
    ∃ fd : FuncData, (∀ (s : Shared) (u : Value), BindsTo s fd ⟨[u], []⟩ [("script", u)]) ∧ ∀ base : Heap, K.In base → base.Ns mainGlobals mg → FnG P w K mg base 30 f fd ["script"] (spOf K mg tb 30 39 1) := by
  obtain ⟨fd, D⟩ := c.t.d.def_ 39 (d := d39) rfl
  have b := FunD.bindsA (ps := ["script"]) D fun _ _ _ _ _ _ us hl => match us, hl with | [_], _ => rfl
  have e := hfa.symm.trans (He.glo_ok X G (c.t.d.fact 39 (f := .glo "law") rfl))
  cases e
  refine ⟨fd, fun s v => b s [v] rfl, fun base hK hns => ?_⟩
  exact law_fn (pr_ok w X G c) (F := f39) rfl D hfa
end K37
open PySem PySem.W PySem.Calls PyProof.Rows
theorem PySem.Challenge.cw_wholestairs_k37_whole_identities_holds : PySem.Challenge.rw_wholestairs_k37_whole_identities.Holds := by
  w_on; o_law
  refine HandSHeadRun.head_any (r := OpenLaw.row PySem.Challenge.rw_wholestairs_k37_whole_identities) (q := view (OpenLaw.row PySem.Challenge.rw_wholestairs_k37_whole_identities).prog [50]) (H := K37.hk) (ob := K37.ob) (M := 4000) (loose := K37.loose) (d := HandSHeadRun.topDef (OpenLaw.row PySem.Challenge.rw_wholestairs_k37_whole_identities).prog 50) (kwd := []) K37.ob_eq
    (by kernel_rfl) (fun s => by kernel_rfl) K37.run (by kernel_rfl) (by kernel_rfl) (by kernel_rfl) (by rfl) (by first | assumption | decide +kernel) (by decide +kernel) ⟨rfl, rfl, rfl, rfl, rfl, by decide +kernel⟩ ?hw ?hc
  case hw => w_witness2
  case hc =>
    refine Ws.walk_G (l := PySem.Challenge.rw_wholestairs_k37_whole_identities) (n := 63) (k := 30) (x := "script") rfl (by decide) (by kernel_rfl) ⟨rfl, by decide, by decide⟩ ?F
    intro w mg fa h Y G hmg0
    obtain ⟨K, KX, c⟩ := Y
    have hmg : mg ("law" : PySem.Str) = some (.ref fa) := by
      have e : (HandSHeadRun.topDef (OpenLaw.row PySem.Challenge.rw_wholestairs_k37_whole_identities).prog 50).name = ("law" : PySem.Str) := by kernel_rfl
      rw [← e]
      exact hmg0
    obtain ⟨fd, hb, hF⟩ := K37.facts (P := (PySem.Challenge.rw_wholestairs_k37_whole_identities).prog) (w := w) KX G hmg c
    refine ⟨K, fd, _, KX, hb, ?_, hF⟩
    intro H a ns hl hS
    obtain ⟨hend, run⟩ := K37.law_runs ns hl
    exact Ws.ask_ok run H a hS
end
