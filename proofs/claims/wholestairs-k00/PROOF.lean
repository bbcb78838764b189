import PyProof.Rows.All
import Wide.All
import OpenK.AllK
import Wide.FinOn
import KE.GoesEnum
import HandS.ForMost
import HandS.Zip
import HandS.TupAny
import HandS.TupMul
import HandS.Wide
import HandS.Exc
import HandS.ExcOwn
import HandS.Deep
import HandS.Style
import HandS.TupLe
import PyProof.P3In
import HandS.IsInst
import HandS.More
import HandS.BoundList
import KE.DatumOrd
import PyProof.ReprRoads
import HandS.Comp
import HandS.Defaults
import HandS.HeadEnd
import HandS.Flow
import HandS.Dict
import HandS.WordsExc
import HandS.HeadHook1
import HandS.HeadHook2
import HandS.HeadHook3
import HandS.HeadHook4
import KE.KStateDown
import Lean
import HandS.Head0
import HandS.Head1
import HandS.Head2
import PySem.Challenge.RW_wholestairs_k00_whole_products_inverses
section
set_option Elab.async false
set_option linter.all false
set_option maxRecDepth 100000
/-! enumerate and zip (two, three) over lists and tuples in any mix -/
namespace Ws
open PySem PySem.Spec PyProof.Rows L2

/-- a list (b = false) or a tuple (b = true) that is read -/
def SqS (K : PySem.W.Frag) (b : Bool) (H : Hp) (a : Addr) (xs : List V) : Prop := if b = true then SqT K H a xs else SqL K H a xs

def itTy (b : Bool) : String := if b = true then "tuple_iterator" else "list_iterator"
def itObj (b : Bool) (a : Addr) : Obj := { cls := .type (itTy b), data := .fields #[.ref a, .int 0 0] }
/-- the iterator's record at turn i -/
def ItAt (b : Bool) (h : Heap) (it a : Addr) (i : Nat) : Prop := if b = true then h.IsTupleIter it a i else h.IsListIter it a i
def DtAt (b : Bool) (h : Heap) (a : Addr) (its : Array Value) : Prop := if b = true then h.IsTuple a its else h.IsList a its

section
variable {X : Cx} {pins : List (Addr × Obj)} {σ : L2.St} {H : Hp} {s : Shared} {a : Addr} {b : Bool} {xs : List V}
theorem sqs_inj {ys : List V} (I : Inv X pins σ H s) (h : SqS X.K b H a xs) (h' : SqS X.K b H a ys) : xs = ys := by
  cases b with
  | true => exact I.tuple_inj h h'
  | false => exact I.list_inj h h'
theorem sqs_dt (I : Inv X pins σ H s) (h : SqS X.K b H a xs) : ∃ its : List Value, Vals xs its ∧ DtAt b s.heap a its.toArray ∧ xs.length ≤ sizeLine ∧ a < s.heap.objs.size := by
  cases b with
  | true =>
    obtain ⟨its, r, p, z⟩ := I.tuple h
    exact ⟨its, r, show s.heap.IsTuple a its.toArray from p, z, p.lt⟩
  | false =>
    obtain ⟨its, r, p, z⟩ := I.list h
    exact ⟨its, r, p.isList, z, p.lt⟩
end

theorem itAt_obj {b : Bool} {h : Heap} {it a : Addr} {i : Nat} (x : ItAt b h it a i) : ∃ o, h.get? it = some o ∧ ∀ v, o.data ≠ .cell v := by
  cases b with
  | true =>
    obtain ⟨o, e, c, d⟩ := (show h.IsTupleIter it a i from x)
    exact ⟨o, e, fun v z => by rw [d] at z; cases z⟩
  | false =>
    obtain ⟨o, e, c, d⟩ := (show h.IsListIter it a i from x)
    exact ⟨o, e, fun v z => by rw [d] at z; cases z⟩
theorem ItAt.at {b : Bool} {h h' : Heap} {it a : Addr} {i : Nat} (x : ItAt b h it a i) (k : ∀ o, h.get? it = some o → h'.get? it = some o) : ItAt b h' it a i := by
  cases b with
  | true => exact Heap.IsTupleIter.at (show h.IsTupleIter it a i from x) k
  | false => exact Heap.IsListIter.at (show h.IsListIter it a i from x) k
theorem DtAt.at {b : Bool} {h h' : Heap} {a : Addr} {its : Array Value} (x : DtAt b h a its) (k : ∀ o, h.get? a = some o → h'.get? a = some o) : DtAt b h' a its := by
  cases b with
  | true => exact Heap.IsTuple.at (show h.IsTuple a its from x) k
  | false => exact Heap.IsList.at (show h.IsList a its from x) k
theorem itAt_new {b : Bool} {h : Heap} {it a : Addr} (e : h.get? it = some (itObj b a)) : ItAt b h it a 0 := by
  cases b with
  | true => exact ⟨_, e, rfl, rfl⟩
  | false => exact ⟨_, e, rfl, rfl⟩
theorem begins_s (b : Bool) (a : Addr) (its : Array Value) : Begins (.ref a) (itObj b a) fun h => DtAt b h a its := by
  cases b with
  | true => exact begins_tuple a its
  | false => exact begins_list a its
theorem draws_s {prog : Program} {w : World} {A : Around} (b : Bool) (hh : A.handled = none) (it a : Addr) (hne : a ≠ it) (its : Array Value) :
    Draws prog w A it [it, a] its.size (fun i v => its[i]? = some v) (fun i h => ItAt b h it a i ∧ DtAt b h a its) := by
  cases b with
  | true => exact Draws.tuple hh it a hne its
  | false => exact Draws.list hh it a hne its


theorem sub_enumB : isSubtype (.type "enumerate") (.type "enumerate") = pure true := by rw [isSubtype_type]; kernel_rfl
set_option maxHeartbeats 1000000 in
theorem meets_enum1 {v : Value} {o : Obj} {H : Heap → Prop} (B : Begins v o H) :
    Meets (Builtin.«enumerate.__new__» ⟨[.type "enumerate", v], []⟩) (fun _ R s => H s.heap ∧
      R (.ok (.ret (.ref (s.heap.push o).objs.size))) { s with heap := (s.heap.push o).push { cls := .type "enumerate", data := .fields #[.none, .bool false, .ref s.heap.objs.size, rawInt 0, .none, .none] } }) :=
  .of_wp fun prog w A R s h => by
    obtain ⟨hp, g, d, tk, os⟩ := s; obtain ⟨h1, h⟩ := h
    have hsub := sub_enumB
    have q1 : ∀ {A' : Around} {E : Value → Shared → Prop} {Q : Value → Shared → Prop}, Q (.ref hp.objs.size) ⟨hp.push o, g, d, tk, os⟩ → wpAny (model prog w) A' (pyIter v) Q E ⟨hp, g, d, tk, os⟩ :=
      fun q => B.iter prog w _ _ ⟨hp, g, d, tk, os⟩ _ h1 q
    wp_walk using q1
    refine wpAny_stack_any fun st => wpAny_pure ?_
    split
    · rename_i c _ _ _ _ _
      cases (c == Value.type "enumerate")
      · wp_walk using q1
        exact ⟨_, rfl, h⟩
      · wp_walk using q1
        exact ⟨_, rfl, h⟩
    · wp_walk using q1
      exact ⟨_, rfl, h⟩
theorem enum_call {prog : Program} {w : World} {A : Around} {E : Value → Shared → Prop} {s : Shared} {v : Value} {o : Obj} {H : Heap → Prop} {Q : Value → Shared → Prop} (B : Begins v o H) (h1 : H s.heap)
    (h : ∀ h', IsEnum h' (s.heap.objs.size + 1) s.heap.objs.size 0 .none → h'.get? s.heap.objs.size = some o → h'.objs.size = s.heap.objs.size + 2 →
      (∀ b o, s.heap.get? b = some o → h'.get? b = some o) → Q (.ref (s.heap.objs.size + 1)) { s with heap := h' }) :
    wpAny (model prog w) A (call (.type "enumerate") [v]) Q E s := by
  refine callType_new F.called_enumerate (by decide) (F.typeCall_enumerate_1 _) (F.newCall_enumerate_1 _) (fun obj => F.args_object_init_2 obj _) F.entry_enumerate_new
    (meets_enum1 B) ⟨h1, ?_⟩
  have hz : (s.heap.push o).objs.size = s.heap.objs.size + 1 := Heap.size_push ..
  show _ ∧ _
  rw [hz]
  have he : IsEnum ((s.heap.push o).push { cls := .type "enumerate", data := .fields #[.none, .bool false, .ref s.heap.objs.size, rawInt 0, .none, .none] }) (s.heap.objs.size + 1) s.heap.objs.size 0 .none := by
    have := Heap.get?_push_size (s.heap.push o) (o := { cls := .type "enumerate", data := .fields #[.none, .bool false, .ref s.heap.objs.size, rawInt 0, .none, .none] }) rfl
    rw [hz] at this; exact this
  refine ⟨⟨_, he, rfl⟩, h _ he (Heap.get?_push_of_some _ (Heap.get?_push_size _ B.free)) (by rw [Heap.size_push, hz]) fun b o x => Heap.get?_push_of_some _ (Heap.get?_push_of_some _ x)⟩

/-! ### enumerate -/
def JEn (K : PySem.W.Frag) (b : Bool) (a : Addr) (xs : List V) : It :=
  ⟨fun i H => SqS K b H a xs ∧ i < xs.length, fun i H v H' => ∃ T x, v = .ref T ∧ H T = none ∧ H' = upd H T (.tup [.int (i : Nat), x]) ∧ xs[i]? = some x, fun i H => SqS K b H a xs ∧ i = xs.length⟩
theorem turn_en {P : Program} {w : World} {K : PySem.W.Frag} {elts : List Expr} {kk : Nat} {tpos : Pos} {b : Bool} {xs : List V} (a e it : Addr) :
    Turn P w K (.Tuple elts kk tpos) (JEn K b a xs) [e, it] e (fun i h => (∃ old, IsEnum h e it ((i : Nat) : Int) old) ∧ ItAt b h it a i ∧ e ≠ it ∧ a ≠ it ∧ a ≠ e) where
  mem := by simp
  obj := fun i h st c hb => by
    obtain ⟨⟨old, he⟩, hi, _⟩ := st
    have e' : c = e ∨ c = it := by simpa using hb
    rcases e' with z | z
    · rw [z]; exact ⟨_, he, fun v q => nomatch q⟩
    · rw [z]; exact itAt_obj hi
  keep := fun i h h' st k => let ⟨⟨old, he⟩, hi, hne⟩ := st; ⟨⟨old, k e (by simp) _ he⟩, hi.at fun o q => k it (by simp) o q, hne⟩
  item := by
    intro X hP hw hK hc i pins s σ H E I hf st hg
    subst hP hw hK
    obtain ⟨⟨old, he⟩, hit, hne, hai, hae⟩ := st
    obtain ⟨hq, hlt⟩ := hg
    obtain ⟨its, rv, hd, hz, hal⟩ := sqs_dt I hq
    obtain ⟨u, hu, ru⟩ := rv.get (List.getElem?_eq_getElem hlt)
    have hel : e < s.heap.objs.size := Heap.lt_size he
    have hil : it < s.heap.objs.size := by obtain ⟨o, q, _⟩ := itAt_obj hit; exact Heap.lt_size q
    have hl := rv.length
    refine wpAny_pyNext_enum_itemC (draws_s (A := X.A.in1) b (show X.A.in1.handled = none from I.ok.hd hc) it a hai its.toArray) he ⟨hit, hd⟩ (by simp; omega) hne (by simp [hne]; exact fun z => hae z.symm) fun x h' tk hP ho hst' hT hsz hk => ?_
    have hxu : x = u := by
      have q : its.toArray[i]? = some x := hP
      have q2 : its[i]? = some x := by simpa using q
      rw [hu] at q2
      exact (Option.some.inj q2).symm
    subst hxu
    refine ⟨_, rfl, wpAny_letOwnedTupleGo_enum (s := { s with heap := h', toks := tk + 1 }) ho fun h'' he' sb => ?_⟩
    have hT2 : h''.get? s.heap.objs.size = some { cls := .type "tuple", data := .seq #[.int i tk, x] } := (sb.2 _ (Nat.ne_of_gt hel)).trans hT
    have new : ObjOk X.prog X.w (upd H s.heap.objs.size (.tup [.int (i : Nat), xs[i]])) h'' s.heap.objs.size (.tup [.int (i : Nat), xs[i]]) :=
      ⟨by show 2 ≤ sizeLine; decide, [.int i tk, x], .cons ⟨_, rfl⟩ (.cons ru .nil), ⟨_, hT2, rfl, _, rfl⟩⟩
    have I1 : Inv X pins σ (upd H s.heap.objs.size (.tup [.int (i : Nat), xs[i]])) { s with heap := h'', toks := tk + 1 } :=
      I.turnedNew (ch := [e, it]) (fun c ob hb q => (sb.2 c (fun z => hb (by simp [z]))).trans (hk c ob (fun z => hb (by simp [z])) (fun z => hb (by simp [z])) q)) hf (Nat.le_refl _) new
    refine ⟨.ref s.heap.objs.size, _, I1, rfl, ⟨_, xs[i], rfl, I.hok.fresh (Nat.le_refl _), rfl, List.getElem?_eq_getElem hlt⟩, ⟨⟨x, ?_⟩, hst'.1.at fun o q => (sb.2 it (Ne.symm hne)).trans q, hne, hai, hae⟩, fun c hb => ?_⟩
    · have e1 : ((i + 1 : Nat) : Int) = (i : Int) + 1 := by omega
      rw [e1]; exact he'
    · have hb' : c < s.heap.objs.size := by
        have e' : c = e ∨ c = it := by simpa using hb
        rcases e' with z | z
        · rw [z]; exact hel
        · rw [z]; exact hil
      rw [upd_ne (Nat.ne_of_lt hb')]
      exact (hf c hb).1
  done := by
    intro X hP hw hK hc i pins s σ H E I hf st hg
    subst hP hw hK
    obtain ⟨⟨old, he⟩, hit, hne, hai, hae⟩ := st
    obtain ⟨hq, hx⟩ := hg
    obtain ⟨its, rv, hd, hz, _⟩ := sqs_dt I hq
    obtain ⟨f0, f1, f2, f3, f4, f5⟩ := hf it (by simp)
    have hl := rv.length
    have hn : i = its.toArray.size := by simp; omega
    subst hn
    exact wpAny_pyNext_enum_endD (draws_s (A := X.A.in1) b (show X.A.in1.handled = none from I.ok.hd hc) it a hai its.toArray) he ⟨hit, hd⟩ fun h' eb => ⟨rfl, I.turned (t' := s.toks) (fun c o hb q => eb c o hb q) f0 f1 f3 f4 f5⟩
  self := fun A i s Q E st h => let ⟨⟨_, he⟩, _⟩ := st; wpAny_pyIter_enum he h
def iEnS (K : PySem.W.Frag) (ta : TA) : TI := fun σ H R => ta σ H fun vs H1 => ∃ b a xs, vs = [.ref a] ∧ SqS K b H1 a xs ∧ R (JEn K b a xs) H1
theorem pi_enS {X : Cx} {e : Expr} {ta : TA} {p pos tpos : Pos} {elts : List Expr} {kk : Nat} (hg : Gl X "enumerate") (hm : X.mg "enumerate" = none) (ha : PA X [e] ta) (hs : starEach [e] X.env = [(false, eval e X.env)]) :
    PI X (.Tuple elts kk tpos) (.Call (.Name "enumerate" p) [e] [] pos) (iEnS X.K ta) := by
  refine ⟨fun pins s σ H R I h => ?_⟩
  refine Call_ (ld_blt I hg hm boot_enumerate (PyProof.Rows.callWith_type1 (thn (ha.run pos pins s σ H _ I h) fun us s1 ⟨vs, H1, I1, r1, q1⟩ => ?_) hs rfl))
  obtain ⟨b, a, xs, ex, hq, q⟩ := q1
  subst ex
  cases r1 with
  | cons r rr =>
    cases rr
    cases r
    obtain ⟨its, rv, hd, hz, hal⟩ := sqs_dt I1 hq
    refine enum_call (begins_s b a its.toArray) hd fun h' he hit hsz hk => wpAny_pyIter_enum he ?_
    have I2 : Inv X pins σ H1 { s1 with heap := h' } := I1.kept (t' := s1.toks) hk
    refine ⟨s1.heap.objs.size + 1, [s1.heap.objs.size + 1, s1.heap.objs.size], _, _, H1, rfl, I2, turn_en a (s1.heap.objs.size + 1) s1.heap.objs.size, ⟨⟨.none, he⟩, itAt_new hit, Nat.succ_ne_self _, Nat.ne_of_lt hal, Nat.ne_of_lt (Nat.lt_succ_of_lt hal)⟩, fun c hb => ?_, q⟩
    have e' : c = s1.heap.objs.size + 1 ∨ c = s1.heap.objs.size := by simpa using hb
    have hle : s1.heap.objs.size ≤ c := by
      rcases e' with z | z
      · rw [z]; exact Nat.le_add_right _ _
      · rw [z]; exact Nat.le_refl _
    exact I1.fpOk hle (I1.hok.fresh hle)

theorem refs_vals : ∀ {as : List Addr} {us : List Value}, Vals (as.map V.ref) us → us = as.map Value.ref
  | [], _, r => by cases r; rfl
  | a :: as, _, r => by
    cases r with
    | cons h t => cases h; rw [refs_vals t]; rfl

theorem tupOf2_obj {h : Heap} {T : Addr} {x1 x2 : Value} (x : IsTupOf2 h T x1 x2) : ∃ o, h.get? T = some o ∧ ∀ v, o.data ≠ .cell v := ⟨_, x, fun v q => nomatch q⟩
theorem tupOf2_at {h h' : Heap} {T : Addr} {x1 x2 : Value} (x : IsTupOf2 h T x1 x2) (k : ∀ o, h.get? T = some o → h'.get? T = some o) : IsTupOf2 h' T x1 x2 := k _ x
theorem tupOf2_is {h : Heap} {T : Addr} {x1 x2 : Value} (x : IsTupOf2 h T x1 x2) : IsTup h T [x1, x2].toArray := ⟨_, x, rfl, _, rfl⟩

theorem tupOf3_obj {h : Heap} {T : Addr} {x1 x2 x3 : Value} (x : IsTupOf3 h T x1 x2 x3) : ∃ o, h.get? T = some o ∧ ∀ v, o.data ≠ .cell v := ⟨_, x, fun v q => nomatch q⟩
theorem tupOf3_at {h h' : Heap} {T : Addr} {x1 x2 x3 : Value} (x : IsTupOf3 h T x1 x2 x3) (k : ∀ o, h.get? T = some o → h'.get? T = some o) : IsTupOf3 h' T x1 x2 x3 := k _ x
theorem tupOf3_is {h : Heap} {T : Addr} {x1 x2 x3 : Value} (x : IsTupOf3 h T x1 x2 x3) : IsTup h T [x1, x2, x3].toArray := ⟨_, x, rfl, _, rfl⟩

/-! ### zip of 2 -/
def JZ2 (K : PySem.W.Frag) (b1 : Bool) (a1 : Addr) (xs1 : List V) (b2 : Bool) (a2 : Addr) (xs2 : List V) : It :=
  ⟨fun i H => SqS K b1 H a1 xs1 ∧ i < xs1.length ∧ SqS K b2 H a2 xs2 ∧ i < xs2.length,
    fun i H v H' => ∃ T x1 x2, v = .ref T ∧ H T = none ∧ H' = upd H T (.tup [x1, x2]) ∧ xs1[i]? = some x1 ∧ xs2[i]? = some x2,
    fun i H => SqS K b1 H a1 xs1 ∧ i ≤ xs1.length ∧ SqS K b2 H a2 xs2 ∧ i ≤ xs2.length ∧ (i = xs1.length ∨ i = xs2.length)⟩
structure Ap2 (z TI TO i1 i2 a1 a2 : Addr) : Prop where
  S : ZipSep2 z TI TO i1 i2 [i1, a1] [i2, a2]
  n1 : a1 ≠ i1
  n2 : a2 ≠ i2

theorem turn_z2 {P : Program} {w : World} {K : PySem.W.Frag} {elts : List Expr} {kk : Nat} {tpos : Pos} {b1 b2 : Bool} {xs1 xs2 : List V} {a1 a2 z TI TO i1 i2 : Addr} (D : Ap2 z TI TO i1 i2 a1 a2) :
    Turn P w K (.Tuple elts kk tpos) (JZ2 K b1 a1 xs1 b2 a2 xs2) [z, TI, TO, i1, i2] z (fun i h => IsZip h z TI TO .none ∧ IsTupOf2 h TI (.ref i1) (.ref i2) ∧ (∃ y1 y2, IsTupOf2 h TO y1 y2) ∧ ItAt b1 h i1 a1 i ∧ ItAt b2 h i2 a2 i) where
  mem := by simp
  obj := fun i h st c hc => by
    obtain ⟨hz, hTI, ⟨y1, y2, hTO⟩, h1, h2⟩ := st
    have e' : c = z ∨ c = TI ∨ c = TO ∨ c = i1 ∨ c = i2 := by simpa using hc
    rcases e' with q | q | q | q | q
    · rw [q]; exact ⟨_, hz, fun v q => nomatch q⟩
    · rw [q]; exact tupOf2_obj hTI
    · rw [q]; exact tupOf2_obj hTO
    · rw [q]; exact itAt_obj h1
    · rw [q]; exact itAt_obj h2
  keep := fun i h h' st k => by
    obtain ⟨hz, hTI, ⟨y1, y2, hTO⟩, h1, h2⟩ := st
    exact ⟨k z (by simp) _ hz, tupOf2_at hTI fun o q => k TI (by simp) o q, ⟨_, _, tupOf2_at hTO fun o q => k TO (by simp) o q⟩, h1.at fun o q => k i1 (by simp) o q, h2.at fun o q => k i2 (by simp) o q⟩
  item := by
    intro X hP hw hK hc i pins s σ H E I hf st hg
    subst hP hw hK
    obtain ⟨hz, hTI, ⟨v1, v2, hTO⟩, h1, h2⟩ := st
    obtain ⟨hq1, hlt1, hq2, hlt2⟩ := hg
    obtain ⟨its1, rv1, hd1, hz1, hal1⟩ := sqs_dt I hq1
    obtain ⟨its2, rv2, hd2, hz2, hal2⟩ := sqs_dt I hq2
    obtain ⟨u1, hu1, ru1⟩ := rv1.get (List.getElem?_eq_getElem hlt1)
    have hl1 := rv1.length
    obtain ⟨u2, hu2, ru2⟩ := rv2.get (List.getElem?_eq_getElem hlt2)
    have hl2 := rv2.length
    have hzl : z < s.heap.objs.size := Heap.lt_size hz
    refine wpAny_pyNext_zipD2_item D.S (draws_s (A := X.A.in1) b1 (show X.A.in1.handled = none from I.ok.hd hc) i1 a1 D.n1 its1.toArray) (draws_s (A := X.A.in1) b2 (show X.A.in1.handled = none from I.ok.hd hc) i2 a2 D.n2 its2.toArray) hz hTI hTO ⟨h1, hd1⟩ ⟨h2, hd2⟩ (by simp; omega) (by simp; omega) fun y1 y2 h' tk hP1 hP2 z' TO' s1 s2 hT hsz hk => ?_
    have e1 : y1 = u1 := by
      have q : its1.toArray[i]? = some y1 := hP1
      have q2 : its1[i]? = some y1 := by simpa using q
      rw [hu1] at q2
      exact (Option.some.inj q2).symm
    subst e1
    have e2 : y2 = u2 := by
      have q : its2.toArray[i]? = some y2 := hP2
      have q2 : its2[i]? = some y2 := by simpa using q
      rw [hu2] at q2
      exact (Option.some.inj q2).symm
    subst e2
    refine ⟨_, rfl, wpAny_letOwnedTupleGo_zip (s := { s with heap := h', toks := tk }) z' fun h'' z'' sb => ?_⟩
    have hT2 : IsTupOf2 h'' s.heap.objs.size y1 y2 := tupOf2_at hT fun o q => (sb.2 _ (Nat.ne_of_gt hzl)).trans q
    have new : ObjOk X.prog X.w (upd H s.heap.objs.size (.tup [xs1[i], xs2[i]])) h'' s.heap.objs.size (.tup [xs1[i], xs2[i]]) :=
      ⟨by show 2 ≤ sizeLine; decide, [y1, y2], .cons ru1 (.cons ru2 (.nil)), tupOf2_is hT2⟩
    have I1 : Inv X pins σ (upd H s.heap.objs.size (.tup [xs1[i], xs2[i]])) { s with heap := h'', toks := tk } :=
      I.turnedNew (ch := [z, TI, TO, i1, i2]) (fun c o hb q => (sb.2 c (fun q' => hb (by simp [q']))).trans (hk c o (fun q' => hb (by simp [q'])) (fun q' => hb (by simp [q'])) (fun q' => hb (by simp [q'])) (fun q' => hb (by simp [q'])) q)) hf (Nat.le_refl _) new
    refine ⟨.ref s.heap.objs.size, _, I1, rfl, ⟨_, xs1[i], xs2[i], rfl, I.hok.fresh (Nat.le_refl _), rfl, List.getElem?_eq_getElem hlt1, List.getElem?_eq_getElem hlt2⟩, ⟨z'', ?_, ⟨y1, y2, ?_⟩, ?_, ?_⟩, fun c hcm => ?_⟩
    · exact tupOf2_at hTI fun o q => (sb.2 _ D.S.TIz).trans (hk _ _ D.S.TIz D.S.TITO D.S.TIi1 D.S.TIi2 q)
    · exact tupOf2_at TO' fun o q => (sb.2 _ D.S.TOz).trans q
    · exact s1.1.at fun o q => (sb.2 _ (Ne.symm (D.S.zi1))).trans q
    · exact s2.1.at fun o q => (sb.2 _ (Ne.symm (D.S.zi2))).trans q
    · have hlt : c < s.heap.objs.size := by
        have e' : c = z ∨ c = TI ∨ c = TO ∨ c = i1 ∨ c = i2 := by simpa using hcm
        rcases e' with q | q | q | q | q
        · rw [q]; exact hzl
        · rw [q]; obtain ⟨o, e1, _⟩ := tupOf2_obj hTI; exact Heap.lt_size e1
        · rw [q]; obtain ⟨o, e1, _⟩ := tupOf2_obj hTO; exact Heap.lt_size e1
        · rw [q]; obtain ⟨o, e1, _⟩ := itAt_obj h1; exact Heap.lt_size e1
        · rw [q]; obtain ⟨o, e1, _⟩ := itAt_obj h2; exact Heap.lt_size e1
      rw [upd_ne (Nat.ne_of_lt hlt)]
      exact (hf c hcm).1
  done := by
    intro X hP hw hK hc i pins s σ H E I hf st hg
    subst hP hw hK
    obtain ⟨hz, hTI, ⟨v1, v2, hTO⟩, h1, h2⟩ := st
    obtain ⟨hq1, hle1, hq2, hle2, hend⟩ := hg
    obtain ⟨its1, rv1, hd1, hz1, hal1⟩ := sqs_dt I hq1
    obtain ⟨its2, rv2, hd2, hz2, hal2⟩ := sqs_dt I hq2
    have hl1 := rv1.length
    have hl2 := rv2.length
    refine wpAny_pyNext_zipD2_end D.S (draws_s (A := X.A.in1) b1 (show X.A.in1.handled = none from I.ok.hd hc) i1 a1 D.n1 its1.toArray) (draws_s (A := X.A.in1) b2 (show X.A.in1.handled = none from I.ok.hd hc) i2 a2 D.n2 its2.toArray) hz hTI hTO ⟨h1, hd1⟩ ⟨h2, hd2⟩ (by simp; omega) (by simp; omega) (by simp; omega) fun h' tk hk => ⟨rfl, I.turnedL (ch := [z, TI, TO, i1, i2]) (fun c o hb q =>
      hk c o (fun q' => hb (by simp [q'])) (fun q' => hb (by simp [q'])) (fun q' => hb (by simp [q'])) (fun q' => hb (by simp [q'])) q) hf⟩
  self := fun A i s Q E st h => wpAny_pyIter_zip st.1 h
def iZ2 (K : PySem.W.Frag) (ta : TA) : TI := fun σ H R => ta σ H fun vs H1 => ∃ b1 a1 xs1 b2 a2 xs2, vs = [.ref a1, .ref a2] ∧ SqS K b1 H1 a1 xs1 ∧ SqS K b2 H1 a2 xs2 ∧ R (JZ2 K b1 a1 xs1 b2 a2 xs2) H1

theorem pi_z2 {X : Cx} {e1 e2 : Expr} {ta : TA} {p pos tpos : Pos} {elts : List Expr} {kk : Nat} (hg : Gl X "zip") (hm : X.mg "zip" = none) (ha : PA X [e1, e2] ta)
    (hs : starEach [e1, e2] X.env = (false, eval e1 X.env) :: starEach [e2] X.env) (hpl : (backTo pos (starEach [e2] X.env)).any (·.1) = false) :
    PI X (.Tuple elts kk tpos) (.Call (.Name "zip" p) [e1, e2] [] pos) (iZ2 X.K ta) := by
  refine ⟨fun pins s σ H R I h => ?_⟩
  refine Call_ (ld_blt I hg hm PyProof.Rows.boot_zip (PyProof.Rows.callWith_type1 (thn (ha.run pos pins s σ H _ I h) fun us s1 ⟨vs, H1, I1, r1, q1⟩ => ?_) hs hpl))
  obtain ⟨b1, a1, xs1, b2, a2, xs2, ex, hq1, hq2, q⟩ := q1
  subst ex
  obtain rfl : us = [.ref a1, .ref a2] := refs_vals (as := [a1, a2]) r1
  obtain ⟨its1, rv1, hd1, hz1, hal1⟩ := sqs_dt I1 hq1
  obtain ⟨its2, rv2, hd2, hz2, hal2⟩ := sqs_dt I1 hq2
  refine zip_begins2 (begins_s b1 a1 its1.toArray) (begins_s b2 a2 its2.toArray) hd1 hd2 fun h' hz hTI hTO h1 h2 hsz hk => wpAny_pyIter_zip hz ?_
  have I2 : Inv X pins σ H1 { s1 with heap := h' } := I1.kept (t' := s1.toks) hk
  refine ⟨s1.heap.objs.size + 4, [s1.heap.objs.size + 4, s1.heap.objs.size + 2, s1.heap.objs.size + 3, s1.heap.objs.size, s1.heap.objs.size + 1], _, _, H1, rfl, I2, turn_z2 ⟨zip_sep2 (fp1 := [a1]) (by simp; exact hal1) (fp2 := [a2]) (by simp; exact hal2), Nat.ne_of_lt (Nat.lt_of_lt_of_le hal1 (Nat.le_add_right _ 0)), Nat.ne_of_lt (Nat.lt_of_lt_of_le hal2 (Nat.le_add_right _ 1))⟩, ⟨hz, hTI, ⟨_, _, hTO⟩, itAt_new h1, itAt_new h2⟩, fun c hcm => ?_, q⟩
  have e' : c = s1.heap.objs.size + 4 ∨ c = s1.heap.objs.size + 2 ∨ c = s1.heap.objs.size + 3 ∨ c = s1.heap.objs.size ∨ c = s1.heap.objs.size + 1 := by simpa using hcm
  have hle : s1.heap.objs.size ≤ c := by
    rcases e' with z | z | z | z | z <;> rw [z] <;> first | exact Nat.le_add_right _ _ | exact Nat.le_refl _
  exact I1.fpOk hle (I1.hok.fresh hle)

/-! ### zip of 3 -/
def JZ3 (K : PySem.W.Frag) (b1 : Bool) (a1 : Addr) (xs1 : List V) (b2 : Bool) (a2 : Addr) (xs2 : List V) (b3 : Bool) (a3 : Addr) (xs3 : List V) : It :=
  ⟨fun i H => SqS K b1 H a1 xs1 ∧ i < xs1.length ∧ SqS K b2 H a2 xs2 ∧ i < xs2.length ∧ SqS K b3 H a3 xs3 ∧ i < xs3.length,
    fun i H v H' => ∃ T x1 x2 x3, v = .ref T ∧ H T = none ∧ H' = upd H T (.tup [x1, x2, x3]) ∧ xs1[i]? = some x1 ∧ xs2[i]? = some x2 ∧ xs3[i]? = some x3,
    fun i H => SqS K b1 H a1 xs1 ∧ i ≤ xs1.length ∧ SqS K b2 H a2 xs2 ∧ i ≤ xs2.length ∧ SqS K b3 H a3 xs3 ∧ i ≤ xs3.length ∧ (i = xs1.length ∨ i = xs2.length ∨ i = xs3.length)⟩
structure Ap3 (z TI TO i1 i2 i3 a1 a2 a3 : Addr) : Prop where
  S : ZipSep3 z TI TO i1 i2 i3 [i1, a1] [i2, a2] [i3, a3]
  n1 : a1 ≠ i1
  n2 : a2 ≠ i2
  n3 : a3 ≠ i3

theorem turn_z3 {P : Program} {w : World} {K : PySem.W.Frag} {elts : List Expr} {kk : Nat} {tpos : Pos} {b1 b2 b3 : Bool} {xs1 xs2 xs3 : List V} {a1 a2 a3 z TI TO i1 i2 i3 : Addr} (D : Ap3 z TI TO i1 i2 i3 a1 a2 a3) :
    Turn P w K (.Tuple elts kk tpos) (JZ3 K b1 a1 xs1 b2 a2 xs2 b3 a3 xs3) [z, TI, TO, i1, i2, i3] z (fun i h => IsZip h z TI TO .none ∧ IsTupOf3 h TI (.ref i1) (.ref i2) (.ref i3) ∧ (∃ y1 y2 y3, IsTupOf3 h TO y1 y2 y3) ∧ ItAt b1 h i1 a1 i ∧ ItAt b2 h i2 a2 i ∧ ItAt b3 h i3 a3 i) where
  mem := by simp
  obj := fun i h st c hc => by
    obtain ⟨hz, hTI, ⟨y1, y2, y3, hTO⟩, h1, h2, h3⟩ := st
    have e' : c = z ∨ c = TI ∨ c = TO ∨ c = i1 ∨ c = i2 ∨ c = i3 := by simpa using hc
    rcases e' with q | q | q | q | q | q
    · rw [q]; exact ⟨_, hz, fun v q => nomatch q⟩
    · rw [q]; exact tupOf3_obj hTI
    · rw [q]; exact tupOf3_obj hTO
    · rw [q]; exact itAt_obj h1
    · rw [q]; exact itAt_obj h2
    · rw [q]; exact itAt_obj h3
  keep := fun i h h' st k => by
    obtain ⟨hz, hTI, ⟨y1, y2, y3, hTO⟩, h1, h2, h3⟩ := st
    exact ⟨k z (by simp) _ hz, tupOf3_at hTI fun o q => k TI (by simp) o q, ⟨_, _, _, tupOf3_at hTO fun o q => k TO (by simp) o q⟩, h1.at fun o q => k i1 (by simp) o q, h2.at fun o q => k i2 (by simp) o q, h3.at fun o q => k i3 (by simp) o q⟩
  item := by
    intro X hP hw hK hc i pins s σ H E I hf st hg
    subst hP hw hK
    obtain ⟨hz, hTI, ⟨v1, v2, v3, hTO⟩, h1, h2, h3⟩ := st
    obtain ⟨hq1, hlt1, hq2, hlt2, hq3, hlt3⟩ := hg
    obtain ⟨its1, rv1, hd1, hz1, hal1⟩ := sqs_dt I hq1
    obtain ⟨its2, rv2, hd2, hz2, hal2⟩ := sqs_dt I hq2
    obtain ⟨its3, rv3, hd3, hz3, hal3⟩ := sqs_dt I hq3
    obtain ⟨u1, hu1, ru1⟩ := rv1.get (List.getElem?_eq_getElem hlt1)
    have hl1 := rv1.length
    obtain ⟨u2, hu2, ru2⟩ := rv2.get (List.getElem?_eq_getElem hlt2)
    have hl2 := rv2.length
    obtain ⟨u3, hu3, ru3⟩ := rv3.get (List.getElem?_eq_getElem hlt3)
    have hl3 := rv3.length
    have hzl : z < s.heap.objs.size := Heap.lt_size hz
    refine wpAny_pyNext_zipD3_item D.S (draws_s (A := X.A.in1) b1 (show X.A.in1.handled = none from I.ok.hd hc) i1 a1 D.n1 its1.toArray) (draws_s (A := X.A.in1) b2 (show X.A.in1.handled = none from I.ok.hd hc) i2 a2 D.n2 its2.toArray) (draws_s (A := X.A.in1) b3 (show X.A.in1.handled = none from I.ok.hd hc) i3 a3 D.n3 its3.toArray) hz hTI hTO ⟨h1, hd1⟩ ⟨h2, hd2⟩ ⟨h3, hd3⟩ (by simp; omega) (by simp; omega) (by simp; omega) fun y1 y2 y3 h' tk hP1 hP2 hP3 z' TO' s1 s2 s3 hT hsz hk => ?_
    have e1 : y1 = u1 := by
      have q : its1.toArray[i]? = some y1 := hP1
      have q2 : its1[i]? = some y1 := by simpa using q
      rw [hu1] at q2
      exact (Option.some.inj q2).symm
    subst e1
    have e2 : y2 = u2 := by
      have q : its2.toArray[i]? = some y2 := hP2
      have q2 : its2[i]? = some y2 := by simpa using q
      rw [hu2] at q2
      exact (Option.some.inj q2).symm
    subst e2
    have e3 : y3 = u3 := by
      have q : its3.toArray[i]? = some y3 := hP3
      have q2 : its3[i]? = some y3 := by simpa using q
      rw [hu3] at q2
      exact (Option.some.inj q2).symm
    subst e3
    refine ⟨_, rfl, wpAny_letOwnedTupleGo_zip (s := { s with heap := h', toks := tk }) z' fun h'' z'' sb => ?_⟩
    have hT2 : IsTupOf3 h'' s.heap.objs.size y1 y2 y3 := tupOf3_at hT fun o q => (sb.2 _ (Nat.ne_of_gt hzl)).trans q
    have new : ObjOk X.prog X.w (upd H s.heap.objs.size (.tup [xs1[i], xs2[i], xs3[i]])) h'' s.heap.objs.size (.tup [xs1[i], xs2[i], xs3[i]]) :=
      ⟨by show 3 ≤ sizeLine; decide, [y1, y2, y3], .cons ru1 (.cons ru2 (.cons ru3 (.nil))), tupOf3_is hT2⟩
    have I1 : Inv X pins σ (upd H s.heap.objs.size (.tup [xs1[i], xs2[i], xs3[i]])) { s with heap := h'', toks := tk } :=
      I.turnedNew (ch := [z, TI, TO, i1, i2, i3]) (fun c o hb q => (sb.2 c (fun q' => hb (by simp [q']))).trans (hk c o (fun q' => hb (by simp [q'])) (fun q' => hb (by simp [q'])) (fun q' => hb (by simp [q'])) (fun q' => hb (by simp [q'])) (fun q' => hb (by simp [q'])) q)) hf (Nat.le_refl _) new
    refine ⟨.ref s.heap.objs.size, _, I1, rfl, ⟨_, xs1[i], xs2[i], xs3[i], rfl, I.hok.fresh (Nat.le_refl _), rfl, List.getElem?_eq_getElem hlt1, List.getElem?_eq_getElem hlt2, List.getElem?_eq_getElem hlt3⟩, ⟨z'', ?_, ⟨y1, y2, y3, ?_⟩, ?_, ?_, ?_⟩, fun c hcm => ?_⟩
    · exact tupOf3_at hTI fun o q => (sb.2 _ D.S.TIz).trans (hk _ _ D.S.TIz D.S.TITO D.S.TIi1 D.S.TIi2 D.S.TIi3 q)
    · exact tupOf3_at TO' fun o q => (sb.2 _ D.S.TOz).trans q
    · exact s1.1.at fun o q => (sb.2 _ (Ne.symm (D.S.zi1))).trans q
    · exact s2.1.at fun o q => (sb.2 _ (Ne.symm (D.S.zi2))).trans q
    · exact s3.1.at fun o q => (sb.2 _ (Ne.symm (D.S.zi3))).trans q
    · have hlt : c < s.heap.objs.size := by
        have e' : c = z ∨ c = TI ∨ c = TO ∨ c = i1 ∨ c = i2 ∨ c = i3 := by simpa using hcm
        rcases e' with q | q | q | q | q | q
        · rw [q]; exact hzl
        · rw [q]; obtain ⟨o, e1, _⟩ := tupOf3_obj hTI; exact Heap.lt_size e1
        · rw [q]; obtain ⟨o, e1, _⟩ := tupOf3_obj hTO; exact Heap.lt_size e1
        · rw [q]; obtain ⟨o, e1, _⟩ := itAt_obj h1; exact Heap.lt_size e1
        · rw [q]; obtain ⟨o, e1, _⟩ := itAt_obj h2; exact Heap.lt_size e1
        · rw [q]; obtain ⟨o, e1, _⟩ := itAt_obj h3; exact Heap.lt_size e1
      rw [upd_ne (Nat.ne_of_lt hlt)]
      exact (hf c hcm).1
  done := by
    intro X hP hw hK hc i pins s σ H E I hf st hg
    subst hP hw hK
    obtain ⟨hz, hTI, ⟨v1, v2, v3, hTO⟩, h1, h2, h3⟩ := st
    obtain ⟨hq1, hle1, hq2, hle2, hq3, hle3, hend⟩ := hg
    obtain ⟨its1, rv1, hd1, hz1, hal1⟩ := sqs_dt I hq1
    obtain ⟨its2, rv2, hd2, hz2, hal2⟩ := sqs_dt I hq2
    obtain ⟨its3, rv3, hd3, hz3, hal3⟩ := sqs_dt I hq3
    have hl1 := rv1.length
    have hl2 := rv2.length
    have hl3 := rv3.length
    refine wpAny_pyNext_zipD3_end D.S (draws_s (A := X.A.in1) b1 (show X.A.in1.handled = none from I.ok.hd hc) i1 a1 D.n1 its1.toArray) (draws_s (A := X.A.in1) b2 (show X.A.in1.handled = none from I.ok.hd hc) i2 a2 D.n2 its2.toArray) (draws_s (A := X.A.in1) b3 (show X.A.in1.handled = none from I.ok.hd hc) i3 a3 D.n3 its3.toArray) hz hTI hTO ⟨h1, hd1⟩ ⟨h2, hd2⟩ ⟨h3, hd3⟩ (by simp; omega) (by simp; omega) (by simp; omega) (by simp; omega) fun h' tk hk => ⟨rfl, I.turnedL (ch := [z, TI, TO, i1, i2, i3]) (fun c o hb q =>
      hk c o (fun q' => hb (by simp [q'])) (fun q' => hb (by simp [q'])) (fun q' => hb (by simp [q'])) (fun q' => hb (by simp [q'])) (fun q' => hb (by simp [q'])) q) hf⟩
  self := fun A i s Q E st h => wpAny_pyIter_zip st.1 h
def iZ3 (K : PySem.W.Frag) (ta : TA) : TI := fun σ H R => ta σ H fun vs H1 => ∃ b1 a1 xs1 b2 a2 xs2 b3 a3 xs3, vs = [.ref a1, .ref a2, .ref a3] ∧ SqS K b1 H1 a1 xs1 ∧ SqS K b2 H1 a2 xs2 ∧ SqS K b3 H1 a3 xs3 ∧ R (JZ3 K b1 a1 xs1 b2 a2 xs2 b3 a3 xs3) H1

theorem pi_z3 {X : Cx} {e1 e2 e3 : Expr} {ta : TA} {p pos tpos : Pos} {elts : List Expr} {kk : Nat} (hg : Gl X "zip") (hm : X.mg "zip" = none) (ha : PA X [e1, e2, e3] ta)
    (hs : starEach [e1, e2, e3] X.env = (false, eval e1 X.env) :: starEach [e2, e3] X.env) (hpl : (backTo pos (starEach [e2, e3] X.env)).any (·.1) = false) :
    PI X (.Tuple elts kk tpos) (.Call (.Name "zip" p) [e1, e2, e3] [] pos) (iZ3 X.K ta) := by
  refine ⟨fun pins s σ H R I h => ?_⟩
  refine Call_ (ld_blt I hg hm PyProof.Rows.boot_zip (PyProof.Rows.callWith_type1 (thn (ha.run pos pins s σ H _ I h) fun us s1 ⟨vs, H1, I1, r1, q1⟩ => ?_) hs hpl))
  obtain ⟨b1, a1, xs1, b2, a2, xs2, b3, a3, xs3, ex, hq1, hq2, hq3, q⟩ := q1
  subst ex
  obtain rfl : us = [.ref a1, .ref a2, .ref a3] := refs_vals (as := [a1, a2, a3]) r1
  obtain ⟨its1, rv1, hd1, hz1, hal1⟩ := sqs_dt I1 hq1
  obtain ⟨its2, rv2, hd2, hz2, hal2⟩ := sqs_dt I1 hq2
  obtain ⟨its3, rv3, hd3, hz3, hal3⟩ := sqs_dt I1 hq3
  refine zip_begins3 (begins_s b1 a1 its1.toArray) (begins_s b2 a2 its2.toArray) (begins_s b3 a3 its3.toArray) hd1 hd2 hd3 fun h' hz hTI hTO h1 h2 h3 hsz hk => wpAny_pyIter_zip hz ?_
  have I2 : Inv X pins σ H1 { s1 with heap := h' } := I1.kept (t' := s1.toks) hk
  refine ⟨s1.heap.objs.size + 5, [s1.heap.objs.size + 5, s1.heap.objs.size + 3, s1.heap.objs.size + 4, s1.heap.objs.size, s1.heap.objs.size + 1, s1.heap.objs.size + 2], _, _, H1, rfl, I2, turn_z3 ⟨zip_sep3 (fp1 := [a1]) (by simp; exact hal1) (fp2 := [a2]) (by simp; exact hal2) (fp3 := [a3]) (by simp; exact hal3), Nat.ne_of_lt (Nat.lt_of_lt_of_le hal1 (Nat.le_add_right _ 0)), Nat.ne_of_lt (Nat.lt_of_lt_of_le hal2 (Nat.le_add_right _ 1)), Nat.ne_of_lt (Nat.lt_of_lt_of_le hal3 (Nat.le_add_right _ 2))⟩, ⟨hz, hTI, ⟨_, _, _, hTO⟩, itAt_new h1, itAt_new h2, itAt_new h3⟩, fun c hcm => ?_, q⟩
  have e' : c = s1.heap.objs.size + 5 ∨ c = s1.heap.objs.size + 3 ∨ c = s1.heap.objs.size + 4 ∨ c = s1.heap.objs.size ∨ c = s1.heap.objs.size + 1 ∨ c = s1.heap.objs.size + 2 := by simpa using hcm
  have hle : s1.heap.objs.size ≤ c := by
    rcases e' with z | z | z | z | z | z <;> rw [z] <;> first | exact Nat.le_add_right _ _ | exact Nat.le_refl _
  exact I1.fpOk hle (I1.hok.fresh hle)
end Ws
end

section
set_option Elab.async false
set_option linter.all false
set_option maxRecDepth 100000
/-! The simple interpreter: values, cells, core texts, and what they do. No machine here. -/
namespace Ws
open PySem

/-! ### values and cells -/
inductive SV where
  | non | bl (b : Bool) | int (i : Int) | str (x : Str)
  | tup (xs : List SV) | lst (xs : List SV) | dct (kvs : List (SV × SV)) | ref (n : Nat)

mutual
def SV.deq : (a b : SV) → Decidable (a = b)
  | .non, .non => Decidable.isTrue rfl
  | .bl a, .bl b => if h : a = b then Decidable.isTrue (by rw [h]) else Decidable.isFalse fun e => h (SV.bl.inj e)
  | .int a, .int b => if h : a = b then Decidable.isTrue (by rw [h]) else Decidable.isFalse fun e => h (SV.int.inj e)
  | .str a, .str b => if h : a = b then Decidable.isTrue (by rw [h]) else Decidable.isFalse fun e => h (SV.str.inj e)
  | .ref a, .ref b => if h : a = b then Decidable.isTrue (by rw [h]) else Decidable.isFalse fun e => h (SV.ref.inj e)
  | .tup a, .tup b => match SV.deqL a b with
    | Decidable.isTrue h => Decidable.isTrue (by rw [h])
    | Decidable.isFalse h => Decidable.isFalse fun e => h (SV.tup.inj e)
  | .lst a, .lst b => match SV.deqL a b with
    | Decidable.isTrue h => Decidable.isTrue (by rw [h])
    | Decidable.isFalse h => Decidable.isFalse fun e => h (SV.lst.inj e)
  | .dct a, .dct b => match SV.deqK a b with
    | Decidable.isTrue h => Decidable.isTrue (by rw [h])
    | Decidable.isFalse h => Decidable.isFalse fun e => h (SV.dct.inj e)
  | .non, .bl _ | .non, .int _ | .non, .str _ | .non, .tup _ | .non, .lst _ | .non, .dct _ | .non, .ref _ => Decidable.isFalse nofun
  | .bl _, .non | .bl _, .int _ | .bl _, .str _ | .bl _, .tup _ | .bl _, .lst _ | .bl _, .dct _ | .bl _, .ref _ => Decidable.isFalse nofun
  | .int _, .non | .int _, .bl _ | .int _, .str _ | .int _, .tup _ | .int _, .lst _ | .int _, .dct _ | .int _, .ref _ => Decidable.isFalse nofun
  | .str _, .non | .str _, .bl _ | .str _, .int _ | .str _, .tup _ | .str _, .lst _ | .str _, .dct _ | .str _, .ref _ => Decidable.isFalse nofun
  | .tup _, .non | .tup _, .bl _ | .tup _, .int _ | .tup _, .str _ | .tup _, .lst _ | .tup _, .dct _ | .tup _, .ref _ => Decidable.isFalse nofun
  | .lst _, .non | .lst _, .bl _ | .lst _, .int _ | .lst _, .str _ | .lst _, .tup _ | .lst _, .dct _ | .lst _, .ref _ => Decidable.isFalse nofun
  | .dct _, .non | .dct _, .bl _ | .dct _, .int _ | .dct _, .str _ | .dct _, .tup _ | .dct _, .lst _ | .dct _, .ref _ => Decidable.isFalse nofun
  | .ref _, .non | .ref _, .bl _ | .ref _, .int _ | .ref _, .str _ | .ref _, .tup _ | .ref _, .lst _ | .ref _, .dct _ => Decidable.isFalse nofun
def SV.deqL : (a b : List SV) → Decidable (a = b)
  | [], [] => Decidable.isTrue rfl
  | [], _ :: _ => Decidable.isFalse nofun
  | _ :: _, [] => Decidable.isFalse nofun
  | a :: as, b :: bs => match SV.deq a b with
    | Decidable.isFalse h => Decidable.isFalse fun e => h (List.cons.inj e).1
    | Decidable.isTrue h => match SV.deqL as bs with
      | Decidable.isTrue h2 => Decidable.isTrue (by rw [h, h2])
      | Decidable.isFalse h2 => Decidable.isFalse fun e => h2 (List.cons.inj e).2
def SV.deqK : (a b : List (SV × SV)) → Decidable (a = b)
  | [], [] => Decidable.isTrue rfl
  | [], _ :: _ => Decidable.isFalse nofun
  | _ :: _, [] => Decidable.isFalse nofun
  | (a, x) :: as, (b, y) :: bs => match SV.deq a b with
    | Decidable.isFalse h => Decidable.isFalse fun e => h (Prod.mk.inj (List.cons.inj e).1).1
    | Decidable.isTrue h => match SV.deq x y with
      | Decidable.isFalse h => Decidable.isFalse fun e => h (Prod.mk.inj (List.cons.inj e).1).2
      | Decidable.isTrue h1 => match SV.deqK as bs with
        | Decidable.isTrue h2 => Decidable.isTrue (by rw [h, h1, h2])
        | Decidable.isFalse h2 => Decidable.isFalse fun e => h2 (List.cons.inj e).2
end
instance : DecidableEq SV := SV.deq

/-- a cell: a list; a dict whose keys are ints and texts; one whose keys are tuples of these -/
inductive SO where
  | lst (xs : List SV) | dct (kvs : List (SV × SV)) | dtt (kvs : List (SV × SV))
  deriving DecidableEq
abbrev SH := List SO

inductive Res (α : Type) where
  | ok (a : α) (h : SH) | err (c : Str) (v : SV) (h : SH) | bad
def Res.bind {α β : Type} (r : Res α) (f : α → SH → Res β) : Res β := match r with
  | .ok a h => f a h
  | .err c v h => .err c v h
  | .bad => .bad
@[simp] theorem Res.bind_ok {α β : Type} {a : α} {h : SH} {f : α → SH → Res β} : (Res.ok a h).bind f = f a h := rfl
@[simp] theorem Res.bind_err {α β : Type} {c v h} {f : α → SH → Res β} : (Res.err c v h).bind f = .err c v h := rfl
@[simp] theorem Res.bind_bad {α β : Type} {f : α → SH → Res β} : (Res.bad).bind f = .bad := rfl

abbrev SE := List (Option SV)

/-! ### operations on values -/
/-! as library data (refs and dicts have none) -/
mutual
def SV.pd : SV → PyData
  | .non => .none
  | .bl b => .bool b
  | .int i => .int i
  | .str x => .str x
  | .tup xs => .tuple (SV.pdL xs)
  | .lst xs => .list (SV.pdL xs)
  | .dct _ => .none
  | .ref _ => .none
def SV.pdL : List SV → List PyData
  | [] => []
  | x :: xs => SV.pd x :: SV.pdL xs
end
/-- data, nested at most n deep -/
def SV.fit : Nat → SV → Bool
  | _, .non => true
  | _, .bl _ => true
  | _, .int _ => true
  | _, .str x => PyData.strOk x
  | n + 1, .tup xs => xs.all (SV.fit n)
  | n + 1, .lst xs => xs.all (SV.fit n)
  | _, _ => false
def veq (a b : SV) : Bool := PyData.eqv a.pd b.pd

inductive BOp where
  | add | sub | mul | fdiv | mod | pow
  deriving DecidableEq
inductive COp where
  | eq | ne | lt | le | gt | ge | is | isNot | mem | notMem
  deriving DecidableEq

/-- how many bits the machine takes of factors, of divisors -/
def mulFits (i j : Int) : Bool := (decide (-(2 ^ 64) < i ∧ i < 2 ^ 64) || decide (-(2 ^ 64) < j ∧ j < 2 ^ 64)) || decide (i.natAbs.log2 + j.natAbs.log2 < 1000000)
def divFits (j : Int) : Bool := decide (j ≠ 0) && decide (j.natAbs.log2 < 9000)

def seqLen : Nat := 16777216

def binop : BOp → SV → SV → Option SV
  | .add, .int i, .int j => some (.int (i + j))
  | .sub, .int i, .int j => some (.int (i - j))
  | .mul, .int i, .int j => if mulFits i j = true then some (.int (i * j)) else none
  | .fdiv, .int i, .int j => if divFits j = true then some (.int (i.fdiv j)) else none
  | .mod, .int i, .int j => if decide (j ≠ 0) = true then some (.int (i.fmod j)) else none
  | .pow, .int i, .int j => if (decide (0 ≤ j) && (decide (j ≤ 1000000) && decide (i.natAbs < 2 ^ 64))) = true then some (.int (i ^ j.toNat)) else none
  | .add, .tup xs, .tup ys => if decide (xs.length + ys.length ≤ seqLen) = true then some (.tup (xs ++ ys)) else none
  | .add, .str x, .str y => if decide (x.length + y.length ≤ seqLen) = true then some (.str (x ++ y)) else none
  | .mul, .tup xs, .int k => if decide (1 ≤ k ∧ k ≤ 1000 ∧ xs.length ≤ 1000 ∧ 0 < xs.length) = true then some (.tup (List.replicate k.toNat xs).flatten) else none
  | _, _, _ => none

def itemAt (xs : List SV) (i : Int) : Option SV := L2.atI xs i
def cutL (xs : List SV) (lo hi : Option Int) : List SV := (xs.drop (HT.sIx xs.length 0 lo)).take (HT.sIx xs.length xs.length hi - HT.sIx xs.length 0 lo)
/-- a slice that leaves something out -/
def partB (n : Nat) (lo hi : Option Int) : Bool := !(decide (HT.sIx n 0 lo = 0) && decide (HT.sIx n n hi = n))

def find (kvs : List (SV × SV)) (k : SV) : Option SV := (kvs.find? fun p => decide (p.1 = k)).map (·.2)
def putV (kvs : List (SV × SV)) (k v : SV) : List (SV × SV) :=
  if (kvs.any fun p => decide (p.1 = k)) = true then kvs.map (fun p => if p.1 = k then (p.1, v) else p) else kvs ++ [(k, v)]

def SV.flat : SV → Bool
  | .int _ => true
  | .str _ => true
  | _ => false
/-- compared: eq, ne of data; order of ints; is of None and of bools; in a list or tuple of data, in a dict -/
def cmpop (h : SH) : COp → SV → SV → Option Bool
  | .lt, .int i, .int j => some (decide (i < j))
  | .le, .int i, .int j => some (decide (i ≤ j))
  | .gt, .int i, .int j => some (decide (j < i))
  | .ge, .int i, .int j => some (decide (j ≤ i))
  | .is, v, .non => some (decide (v = .non))
  | .isNot, v, .non => some (!decide (v = .non))
  | .is, .bl a, .bl b => some (decide (a = b))
  | .isNot, .bl a, .bl b => some (!decide (a = b))
  | .mem, v, .tup xs => if (v.fit 30 && (SV.tup xs).fit 30) = true then some (xs.any fun x => veq x v) else none
  | .notMem, v, .tup xs => if (v.fit 30 && (SV.tup xs).fit 30) = true then some (!xs.any fun x => veq x v) else none
  | .mem, v, .lst xs => if (v.fit 30 && (SV.lst xs).fit 30) = true then some (xs.any fun x => veq x v) else none
  | .notMem, v, .lst xs => if (v.fit 30 && (SV.lst xs).fit 30) = true then some (!xs.any fun x => veq x v) else none
  | .eq, a, b => match a, b with
    | .str x, .str y => some (decide (x = y))
    | _, _ => if (a.fit 30 && b.fit 30) = true then some (veq a b) else none
  | .ne, a, b => match a, b with
    | .str x, .str y => some (!decide (x = y))
    | _, _ => if (a.fit 30 && b.fit 30) = true then some (!veq a b) else none
  | _, _, _ => none

def truthOf (h : SH) : SV → Option Bool
  | .non => some false
  | .bl b => some b
  | .int i => some (i != 0)
  | .tup xs => some (!xs.isEmpty)
  | .lst xs => some (!xs.isEmpty)
  | .ref n => match h[n]? with
    | some (.lst xs) => some (!xs.isEmpty)
    | _ => none
  | _ => none

/-- the items of what a loop walks -/
def itemsOf (h : SH) : SV → Option (List SV)
  | .tup xs => some xs
  | .lst xs => some xs
  | .ref n => match h[n]? with
    | some (.lst xs) => some xs
    | _ => none
  | _ => none
def asInt : SV → Option Int
  | .int i => some i
  | _ => none
/-- the items of a list -/
def listOf (h : SH) : SV → Option (List SV)
  | .tup _ => none
  | v => itemsOf h v
def intsOf : List SV → Option (List Int)
  | [] => some []
  | .int i :: r => (intsOf r).map (i :: ·)
  | _ => none
def blsOf : List SV → Option (List Bool)
  | [] => some []
  | .bl b :: r => (blsOf r).map (b :: ·)
  | _ => none

inductive BI where
  | len | sum | all | any | tuple | list | int | abs | max1 | max2 | min2 | repr | isInt | isBool | isTuple | isStr
  deriving DecidableEq

def maxF (n : Int) (ns : List Int) : Int := ns.foldl (fun a y => if decide (a < y) = true then y else a) n

/-- what repr tells is short enough -/
def reprFits (v : SV) : Bool := (v.fit 30 && v.pd.showable) && decide (v.pd.shown.length ≤ seqLen)
/-- the name of a value's type -/
def tyName (h : SH) : SV → Option String
  | .non => some "NoneType"
  | .bl _ => some "bool"
  | .int _ => some "int"
  | .str _ => some "str"
  | .tup _ => some "tuple"
  | .lst _ => some "list"
  | .dct _ => some "dict"
  | .ref n => match h[n]? with
    | some (.lst _) => some "list"
    | some (.dct _) => some "dict"
    | some (.dtt _) => some "dict"
    | none => none
def isOne (T : String) (n : String) : Bool := decide (n = T) || (decide (n = "bool") && decide (T = "int"))

def builtin (h : SH) : BI → List SV → Option SV
  | .len, [v] => (itemsOf h v).map fun xs => .int (xs.length : Nat)
  | .sum, [v] => ((listOf h v).bind intsOf).map fun ns => .int ns.sum
  | .all, [v] => ((listOf h v).bind blsOf).map fun bs => .bl (bs.all id)
  | .any, [v] => ((listOf h v).bind blsOf).map fun bs => .bl (bs.any id)
  | .tuple, [v] => (itemsOf h v).map .tup
  | .list, [v] => (itemsOf h v).map .lst
  | .int, [v] => match v with
    | .int i => some (.int i)
    | .bl b => some (.int (if b then 1 else 0))
    | _ => none
  | .abs, [v] => (asInt v).map fun i => .int (if i < 0 then -i else i)
  | .max1, [v] => match v with
    | .tup xs => match intsOf xs with
      | some (n :: ns) => some (.int (maxF n ns))
      | _ => none
    | _ => none
  | .max2, [v, w] => (asInt v).bind fun i => (asInt w).map fun j => .int (if j > i then j else i)
  | .min2, [v, w] => (asInt v).bind fun i => (asInt w).map fun j => .int (if j < i then j else i)
  | .repr, [v] => match v with
    | .tup _ => if reprFits v = true then some (.str v.pd.shown) else none
    | .lst _ => if reprFits v = true then some (.str v.pd.shown) else none
    | _ => none
  | .isInt, [v] => (tyName h v).map fun n => .bl (isOne "int" n)
  | .isBool, [v] => (tyName h v).map fun n => .bl (isOne "bool" n)
  | .isTuple, [v] => (tyName h v).map fun n => .bl (isOne "tuple" n)
  | .isStr, [v] => (tyName h v).map fun n => .bl (isOne "str" n)
  | _, _ => none

/-! ### core texts -/
inductive CT where
  | name (i : Nat) | pair (a b : CT) | three (a b c : CT)

mutual
inductive CE where
  | var (i : Nat) | non | bl (b : Bool) | int (i : Int) | str (x : Str) | glob (x : Str)
  | bin (op : BOp) (a b : CE) | neg (a : CE)
  | cmp (op : COp) (a b : CE) | chain (o1 o2 : COp) (a b c : CE)
  | and (a b : CE) | or (a b : CE) | not (a : CE) | ite (t a b : CE)
  | tup (es : CEs) | lst (c : Bool) (es : CEs) | repL (c : Bool) (a b : CE)
  | ix (a i : CE) | sl (a : CE) (lo hi : CO)
  | call (f : Nat) (perm : List Nat) (es ks : CEs)
  | bi (b : BI) (es : CEs)
  | comp (c : Bool) (elt : CE) (t : CT) (it : CI) (own : List Nat) | compIf (c : Bool) (elt : CE) (t : CT) (it : CI) (cd : CE) (own : List Nat)
  | dict (es : CEs)
inductive CEs where
  | nil | cons (e : CE) (r : CEs)
inductive CO where
  | none | some (e : CE)
inductive CI where
  | it (e : CE) | range1 (e : CE) | range2 (a b : CE) | enum (e : CE) | zip2 (a b : CE) | zip3 (a b c : CE)
end

mutual
inductive CS where
  | set (t : CT) (e : CE) | par (i j : Nat) (a b : CE) | par3 (i j k : Nat) (a b c : CE) | setIx (o i e : CE) | nev
  | expr (e : CE) | append (o e : CE) | extend (o e : CE)
  | ret (e : CE) | retN | cond (t : CE) (a b : CSs)
  | loop (t : CT) (it : CI) (body : CSs) (kill : List Nat)
  | brk | cnt | pass | throw (c : Str) (e : CE)
inductive CSs where
  | nil | cons (s : CS) (r : CSs) | kill (ks : List Nat) (r : CSs)
end

/-! ### what they do -/
def look (env : SE) (i : Nat) : Option SV := match env[i]? with
  | some (some v) => some v
  | _ => none
def wipeE (env : SE) : List Nat → SE
  | [] => env
  | v :: vs => (wipeE env vs).set v none
def store : CT → SV → SE → Option SE
  | .name i, v, env => some (env.set i (some v))
  | .pair a b, .tup [x, y], env => (store a x env).bind (store b y)
  | .three a b c, .tup [x, y, z], env => (store a x env).bind fun e => (store b y e).bind (store c z)
  | _, _, _ => none

def ofO {α : Type} (h : SH) : Option α → Res α
  | some a => .ok a h
  | none => .bad
@[simp] theorem ofO_some {α : Type} {h : SH} {a : α} : ofO h (some a) = .ok a h := rfl
@[simp] theorem ofO_none {α : Type} {h : SH} : ofO h (none : Option α) = .bad := rfl

/-- a new list: a cell, or a value that stands still -/
def mkL (c : Bool) (xs : List SV) (h : SH) : Res SV := if decide (xs.length ≤ seqLen) = true then (if c = true then .ok (.ref h.length) (h ++ [.lst xs]) else .ok (.lst xs) h) else .bad
/-- a list's items, k times -/
def repOf : SV → SV → Option (List SV)
  | .lst xs, .int k => if decide (k ≤ 1000 ∧ -1000 ≤ k ∧ xs.length ≤ 1000) = true then some (List.replicate k.toNat xs).flatten else none
  | _, _ => none
/-- the slots that a target stores -/
def slots : CT → List Nat
  | .name i => [i]
  | .pair a b => slots a ++ slots b
  | .three a b c => slots a ++ (slots b ++ slots c)
/-- a comprehension over items: what the body gives, none to leave out -/
def compF (body : SV → SH → Res (Option SV)) : List SV → SH → Res (List SV)
  | [], h => .ok [] h
  | x :: xs, h => match body x h with
    | .ok o h1 => match compF body xs h1 with
      | .ok r h2 => .ok (match o with | some y => y :: r | none => r) h2
      | .err _ _ _ => .bad
      | .bad => .bad
    | .err _ _ _ => .bad
    | .bad => .bad

def rangeOf (lo hi : Int) : List SV := (List.range (hi - lo).toNat).map fun k => .int (lo + (k : Nat))
def small62 (i : Int) : Bool := Nat.blt i.natAbs 4611686018427387904
def enumOf (k : Nat) : List SV → List SV
  | [] => []
  | x :: r => .tup [.int (k : Nat), x] :: enumOf (k + 1) r
def zip2Of : List SV → List SV → List SV
  | x :: xs, y :: ys => .tup [x, y] :: zip2Of xs ys
  | _, _ => []
def zip3Of : List SV → List SV → List SV → List SV
  | x :: xs, y :: ys, z :: zs => .tup [x, y, z] :: zip3Of xs ys zs
  | _, _, _ => []


/-- what stands in the program besides: the constants of the module; the defs, at a depth -/
structure Pr where
  glob : Str → Option SV
  dfl : Nat → List SV
  call : Nat → List SV → SH → Res SV

def permute {α : Type} (p : List Nat) (xs : List α) : List α := p.filterMap fun i => xs[i]?
/-- the pairs of a dict display -/
def pairUp : List SV → Option (List (SV × SV))
  | [] => some []
  | [_] => none
  | k :: v :: r => if k.flat = true then (pairUp r).map ((k, v) :: ·) else none

def sliceV (v : SV) (lo hi : Option Int) (h : SH) : Option SV := match v with
  | .tup xs => if partB xs.length lo hi = true then some (.tup (cutL xs lo hi)) else none
  | .lst xs => some (.lst (cutL xs lo hi))
  | .ref n => match h[n]? with
    | some (.lst xs) => some (.lst (cutL xs lo hi))
    | _ => none
  | _ => none

def itemV (v i : SV) (h : SH) : Option SV := match v with
  | .tup xs => match i with
    | .int k => itemAt xs k
    | _ => none
  | .lst xs => match i with
    | .int k => itemAt xs k
    | _ => none
  | .dct kvs => match i with
    | .int k => find kvs (.int k)
    | _ => none
  | .ref n => match h[n]? with
    | some (.lst xs) => match i with
      | .int k => itemAt xs k
      | _ => none
    | some (.dct kvs) => if i.flat = true then find kvs i else none
    | _ => none
  | _ => none

mutual
def ev (p : Pr) : CE → SE → SH → Res SV
  | .var i, env, h => ofO h (look env i)
  | .non, _, h => .ok .non h
  | .bl b, _, h => .ok (.bl b) h
  | .int i, _, h => .ok (.int i) h
  | .str x, _, h => .ok (.str x) h
  | .glob x, _, h => ofO h (p.glob x)
  | .bin op a b, env, h => (ev p a env h).bind fun x h => (ev p b env h).bind fun y h => ofO h (binop op x y)
  | .neg a, env, h => (ev p a env h).bind fun x h => ofO h ((asInt x).map fun i => .int (-i))
  | .cmp op a b, env, h => (ev p a env h).bind fun x h => (ev p b env h).bind fun y h => ofO h ((cmpop h op x y).map .bl)
  | .chain o1 o2 a b c, env, h => (ev p a env h).bind fun x h => (ev p b env h).bind fun y h => match cmpop h o1 x y with
    | none => .bad
    | some false => .ok (.bl false) h
    | some true => (ev p c env h).bind fun z h => ofO h ((cmpop h o2 y z).map .bl)
  | .and a b, env, h => (ev p a env h).bind fun x h => match x with
    | .bl true => ev p b env h
    | .bl false => .ok (.bl false) h
    | _ => .bad
  | .or a b, env, h => (ev p a env h).bind fun x h => match x with
    | .bl true => .ok (.bl true) h
    | .bl false => ev p b env h
    | _ => .bad
  | .not a, env, h => (ev p a env h).bind fun x h => ofO h ((truthOf h x).map fun b => .bl (!b))
  | .ite t a b, env, h => (evT p t env h).bind fun c h => if c = true then ev p a env h else ev p b env h
  | .tup es, env, h => (evs p es env h).bind fun xs h => if decide (xs.length ≤ seqLen) = true then .ok (.tup xs) h else .bad
  | .lst c es, env, h => (evs p es env h).bind fun xs h => mkL c xs h
  | .repL c a b, env, h => (ev p a env h).bind fun x h => (ev p b env h).bind fun y h => match repOf x y with
    | some xs => mkL c xs h
    | none => .bad
  | .ix a i, env, h => (ev p a env h).bind fun x h => (ev p i env h).bind fun y h => ofO h (itemV x y h)
  | .sl a lo hi, env, h => (ev p a env h).bind fun x h => (evo p lo env h).bind fun i h => (evo p hi env h).bind fun j h => ofO h (sliceV x i j h)
  | .call f perm es ks, env, h => (evs p es env h).bind fun xs h => (evs p ks env h).bind fun ys h => p.call f (permute perm (xs ++ (ys ++ p.dfl f))) h
  | .bi b es, env, h => (evs p es env h).bind fun xs h => ofO h (builtin h b xs)
  | .comp c elt t it own, env, h => (evi p it env h).bind fun xs h => (compF (fun x h => match store t x (wipeE env own) with
    | none => .bad
    | some env2 => (ev p elt env2 h).bind fun y h => .ok (some y) h) xs h).bind fun r h => mkL c r h
  | .compIf cl elt t it c own, env, h => (evi p it env h).bind fun xs h => (compF (fun x h => match store t x (wipeE env own) with
    | none => .bad
    | some env2 => (evT p c env2 h).bind fun b h => if b = true then (ev p elt env2 h).bind fun y h => .ok (some y) h else .ok none h) xs h).bind fun r h => mkL cl r h
  | .dict es, env, h => (evs p es env h).bind fun xs h => match pairUp xs with
    | some kvs => if decide (kvs.length ≤ 15) = true then .ok (.ref h.length) (h ++ [.dct (kvs.foldl (fun acc kv => putV acc kv.1 kv.2) [])]) else .bad
    | none => .bad
def evT (p : Pr) : CE → SE → SH → Res Bool
  | .and a b, env, h => (evT p a env h).bind fun x h => if x = true then evT p b env h else .ok false h
  | .or a b, env, h => (evT p a env h).bind fun x h => if x = true then .ok true h else evT p b env h
  | .not a, env, h => (evT p a env h).bind fun b h => .ok (!b) h
  | .cmp op a b, env, h => (ev p a env h).bind fun x h => (ev p b env h).bind fun y h => ofO h (cmpop h op x y)
  | .chain o1 o2 a b c, env, h => (ev p a env h).bind fun x h => (ev p b env h).bind fun y h => match cmpop h o1 x y with
    | none => .bad
    | some false => .ok false h
    | some true => (ev p c env h).bind fun z h => ofO h (cmpop h o2 y z)
  | .var i, env, h => ofO h ((look env i).bind (truthOf h))
  | .call f perm es ks, env, h => (evs p es env h).bind fun xs h => (evs p ks env h).bind fun ys h => (p.call f (permute perm (xs ++ (ys ++ p.dfl f))) h).bind fun x h => ofO h (truthOf h x)
  | .bi b es, env, h => (evs p es env h).bind fun xs h => ofO h ((builtin h b xs).bind (truthOf h))
  | .ix a i, env, h => (ev p a env h).bind fun x h => (ev p i env h).bind fun y h => ofO h ((itemV x y h).bind (truthOf h))
  | _, _, _ => .bad
def evs (p : Pr) : CEs → SE → SH → Res (List SV)
  | .nil, _, h => .ok [] h
  | .cons e r, env, h => (ev p e env h).bind fun x h => (evs p r env h).bind fun xs h => .ok (x :: xs) h
def evo (p : Pr) : CO → SE → SH → Res (Option Int)
  | .none, _, h => .ok none h
  | .some e, env, h => (ev p e env h).bind fun x h => ofO h ((asInt x).map some)
def evi (p : Pr) : CI → SE → SH → Res (List SV)
  | .it e, env, h => (ev p e env h).bind fun x h => match x with
    | .tup xs => .ok xs h
    | .lst xs => .ok xs h
    | _ => .bad
  | .range1 e, env, h => (ev p e env h).bind fun x h => match x with
    | .int i => if small62 i = true then .ok (rangeOf 0 i) h else .bad
    | _ => .bad
  | .range2 a b, env, h => (ev p a env h).bind fun x h => (ev p b env h).bind fun y h => match x, y with
    | .int i, .int j => if (small62 i && small62 j) = true then .ok (rangeOf i j) h else .bad
    | _, _ => .bad
  | .enum e, env, h => (ev p e env h).bind fun x h => match x with
    | .tup xs => .ok (enumOf 0 xs) h
    | .lst xs => .ok (enumOf 0 xs) h
    | _ => .bad
  | .zip2 a b, env, h => (ev p a env h).bind fun x h => (ev p b env h).bind fun y h => match x, y with
    | .tup xs, .tup ys => .ok (zip2Of xs ys) h
    | .tup xs, .lst ys => .ok (zip2Of xs ys) h
    | .lst xs, .tup ys => .ok (zip2Of xs ys) h
    | .lst xs, .lst ys => .ok (zip2Of xs ys) h
    | _, _ => .bad
  | .zip3 a b c, env, h => .bad
end

inductive Out where
  | nx (env : SE) (h : SH) | bk (env : SE) (h : SH) | ct (env : SE) (h : SH) | rt (v : SV) (h : SH) | err (c : Str) (v : SV) (env : SE) (h : SH) | bad

def Out.of {α : Type} (env : SE) (r : Res α) (f : α → SH → Out) : Out := match r with
  | .ok a h => f a h
  | .err c v h => .err c v env h
  | .bad => .bad
@[simp] theorem Out.of_ok {α : Type} {env : SE} {a : α} {h : SH} {f : α → SH → Out} : Out.of env (.ok a h) f = f a h := rfl
@[simp] theorem Out.of_bad {α : Type} {env : SE} {f : α → SH → Out} : Out.of env .bad f = .bad := rfl
@[simp] theorem Out.of_err {α : Type} {env : SE} {c v h} {f : α → SH → Out} : Out.of env (.err c v h) f = .err c v env h := rfl

def loopF (kill : List Nat) (body : SV → SE → SH → Out) : List SV → SE → SH → Out
  | [], env, h => .nx env h
  | x :: xs, env, h => match body x env h with
    | .nx e h1 => loopF kill body xs (wipeE e kill) h1
    | .ct e h1 => loopF kill body xs (wipeE e kill) h1
    | .bk e h1 => .nx (wipeE e kill) h1
    | .rt v h1 => .rt v h1
    | .err c v e h1 => .err c v e h1
    | .bad => .bad

def setIxH (o i v : SV) (h : SH) : Option SH := match o with
  | .ref n => match h[n]? with
    | some (.lst xs) => match i with
      | .int k => match L2.ixN xs.length k with
        | some j => some (h.set n (.lst (xs.set j v)))
        | none => none
      | _ => none
    | some (.dct kvs) => if (i.flat && decide (kvs.length < seqLen)) = true then some (h.set n (.dct (putV kvs i v))) else none
    | _ => none
  | _ => none

/-- a cell that is a list -/
def isL (h : SH) : SV → Bool
  | .ref n => match h[n]? with
    | some (.lst _) => true
    | _ => false
  | _ => false
def listItems : SV → Option (List SV)
  | .lst xs => some xs
  | _ => none
/-- more items at a list's end -/
def appH (o : SV) (ys : List SV) (h : SH) : Option SH := match o with
  | .ref n => match h[n]? with
    | some (.lst xs) => if decide (xs.length + ys.length ≤ seqLen) = true then some (h.set n (.lst (xs ++ ys))) else none
    | _ => none
  | _ => none

mutual
def evS (p : Pr) : CS → SE → SH → Out
  | .set t e, env, h => Out.of env (ev p e env h) fun x h => match store t x env with
    | some env2 => .nx env2 h
    | none => .bad
  | .par i j a b, env, h => Out.of env (ev p a env h) fun x h => Out.of env (ev p b env h) fun y h => .nx ((env.set i (some x)).set j (some y)) h
  | .par3 i j k a b c, env, h => Out.of env (ev p a env h) fun x h => Out.of env (ev p b env h) fun y h => Out.of env (ev p c env h) fun z h => .nx (((env.set i (some x)).set j (some y)).set k (some z)) h
  | .nev, _, _ => .bad
  | .setIx o i e, env, h => Out.of env (ev p e env h) fun v h => Out.of env (ev p o env h) fun o h => Out.of env (ev p i env h) fun i h => match setIxH o i v h with
    | some h2 => .nx env h2
    | none => .bad
  | .expr e, env, h => Out.of env (ev p e env h) fun _ h => .nx env h
  | .append o e, env, h => Out.of env (ev p o env h) fun o h => if isL h o = true then Out.of env (ev p e env h) fun v h => match appH o [v] h with
    | some h2 => .nx env h2
    | none => .bad
    else .bad
  | .extend o e, env, h => Out.of env (ev p o env h) fun o h => if isL h o = true then Out.of env (ev p e env h) fun v h => match listItems v with
    | some ys => match appH o ys h with
      | some h2 => .nx env h2
      | none => .bad
    | none => .bad
    else .bad
  | .ret e, env, h => Out.of env (ev p e env h) fun x h => .rt x h
  | .retN, _, h => .rt .non h
  | .cond t a b, env, h => Out.of env (evT p t env h) fun c h => if c = true then evSs p a env h else evSs p b env h
  | .loop t it body kill, env, h => Out.of env (evi p it env h) fun xs h => loopF kill (fun x env h => match store t x env with
    | some env2 => evSs p body env2 h
    | none => .bad) xs env h
  | .brk, env, h => .bk env h
  | .cnt, env, h => .ct env h
  | .pass, env, h => .nx env h
  | .throw c e, env, h => Out.of env (ev p e env h) fun x h => .err c x env h
def evSs (p : Pr) : CSs → SE → SH → Out
  | .nil, env, h => .nx env h
  | .cons s r, env, h => match evS p s env h with
    | .nx env h => evSs p r env h
    | o => o
  | .kill ks r, env, h => evSs p r (wipeE env ks) h
end

/-! ### defs -/
structure FT where
  name : Str
  N : List Str
  ps : List Str
  dfl : List SV
  body : CSs
  keep : Bool
  pure : Bool

/-- a value without cells from n on: what is new is read off -/
def freezeL (f : SV → Option SV) : List SV → Option (List SV)
  | [] => some []
  | x :: xs => match f x, freezeL f xs with
    | some y, some ys => some (y :: ys)
    | _, _ => none
def freeze (n : Nat) (h : SH) : Nat → SV → Option SV
  | _, .non => some .non
  | _, .bl b => some (.bl b)
  | _, .int i => some (.int i)
  | _, .str x => some (.str x)
  | k + 1, .tup xs => (freezeL (freeze n h k) xs).map .tup
  | k + 1, .lst xs => (freezeL (freeze n h k) xs).map .lst
  | k + 1, .ref m => if n ≤ m then (match h[m]? with
    | some (.lst xs) => (freezeL (freeze n h k) xs).map .lst
    | _ => none) else none
  | _, _ => none

def finish (F : FT) (h0 : SH) (v : SV) (h : SH) : Res SV :=
  if F.keep = true then .ok v h else match freeze h0.length h 12 v with
    | none => .bad
    | some w => if h.take h0.length = h0 then .ok w h0 else if w = v then .ok v h else .bad

structure Tb where
  glob : Str → Option SV
  funs : List FT

def startE (F : FT) (vs : List SV) : SE := vs.map some ++ List.replicate (F.N.length - vs.length) none

def runF (p : Pr) (F : FT) (xs : List SV) (h : SH) : Res SV :=
  if decide (xs.length = F.ps.length) = true then
    match evSs p F.body (startE F xs) h with
      | .nx _ h1 => finish F h .non h1
      | .rt v h1 => finish F h v h1
      | .err c v _ h1 => .err c v h1
      | _ => .bad
  else .bad
def dflOf (T : Tb) (f : Nat) : List SV := match T.funs[f]? with
  | some F => F.dfl
  | none => []
mutual
/-- a value without cells -/
def SV.dry : SV → Bool
  | .non => true
  | .bl _ => true
  | .int _ => true
  | .str _ => true
  | .tup xs => dryL xs
  | .lst xs => dryL xs
  | .dct _ => false
  | .ref _ => false
def dryL : List SV → Bool
  | [] => true
  | x :: xs => SV.dry x && dryL xs
end
/-- a def that needs no cells of others, and leaves none: run with none ahead -/
def dryRun (r : Res SV) (h : SH) : Res SV := match r with
  | .ok w [] => .ok w h
  | _ => .bad
def callF (T : Tb) : Nat → Nat → List SV → SH → Res SV
  | 0, _, _, _ => .bad
  | d + 1, f, xs, h => match T.funs[f]? with
    | none => .bad
    | some F => if F.pure = true then (if dryL xs = true then dryRun (runF ⟨T.glob, dflOf T, callF T d⟩ F xs []) h else .bad) else runF ⟨T.glob, dflOf T, callF T d⟩ F xs h
def prOf (T : Tb) (d : Nat) : Pr := ⟨T.glob, dflOf T, callF T d⟩
end Ws
end

section
set_option Elab.async false
set_option linter.all false
set_option maxRecDepth 100000
set_option autoImplicit false
/-! values and cells of the simple interpreter, as they lie in the layer's heap -/
namespace Ws
open PySem PySem.Spec PyProof.Rows L2

/-! ### what is read -/
def KTup (K : PySem.W.Frag) (a : Addr) (vs : List V) : Prop :=
  ∃ (o : Obj) (its : Array Value) (n : Nat), K.lookup a = some o ∧ o.cls = .type "tuple" ∧ o.data = .seq its n ∧ its.size ≤ sizeLine ∧ Vals vs its.toList
def KLst (K : PySem.W.Frag) (a : Addr) (vs : List V) : Prop :=
  ∃ (its : Array Value) (n : Nat), K.lookup a = some { cls := .type "list", data := .seq its n } ∧ its.size ≤ sizeLine ∧ Vals vs its.toList
/-- the addresses of the cells, in their order; and of lists that are being made just now -/
structure Ms where
  c : List Addr
  b : List Addr
/-- an object that stands still: tracked, and no cell of ours, not being made; or of the written part -/
def Fz (H : Hp) (M : Ms) (a : Addr) (u : HO) : Prop := (a ∉ M.c ∧ a ∉ M.b) ∧ Rd H a u
def Tp (K : PySem.W.Frag) (H : Hp) (M : Ms) (a : Addr) (vs : List V) : Prop := Fz H M a (.tup vs) ∨ KTup K a vs
def Lp (K : PySem.W.Frag) (H : Hp) (M : Ms) (a : Addr) (vs : List V) : Prop := Fz H M a (.lst vs) ∨ KLst K a vs
theorem Tp.sq {K : PySem.W.Frag} {H : Hp} {M : Ms} {a : Addr} {vs : List V} (h : Tp K H M a vs) : SqT K H a vs := h.elim (fun z => .inl z.2) .inr
theorem Lp.sq {K : PySem.W.Frag} {H : Hp} {M : Ms} {a : Addr} {vs : List V} (h : Lp K H M a vs) : SqL K H a vs := h.elim (fun z => .inl z.2) fun ⟨its, n, e, h1, h2⟩ => .inr ⟨_, its, n, e, rfl, rfl, rfl, h1, h2⟩

/-- a dict of the written part, its keys ints -/
def KDctI (K : PySem.W.Frag) (a : Addr) (ks : List Int) (vs : List V) : Prop :=
  ∃ (es : Array DictEntry) (n : Nat), K.lookup a = some ⟨.type "dict", none, .dict es n, #[]⟩ ∧
    Paired (fun (p : Int × V) (e : DictEntry) => (∃ t, e.key = .int p.1 t) ∧ e.hash = hashInt p.1 ∧ L2.RelV p.2 e.val) (ks.zip vs) es.toList

def keyOf : SV → Option Key
  | .int i => some (.inl i)
  | .str x => some (.inr x)
  | _ => none
def keysOf : List SV → Option (List Key)
  | [] => some []
  | x :: xs => match keyOf x, keysOf xs with
    | some k, some ks => some (k :: ks)
    | _, _ => none

mutual
inductive Rep (K : PySem.W.Frag) (H : Hp) (M : Ms) : SV → V → Prop
  | non : Rep K H M .non .non
  | bl (b : Bool) : Rep K H M (.bl b) (.bl b)
  | int (i : Int) : Rep K H M (.int i) (.int i)
  | str (x : Str) : Rep K H M (.str x) (.str x)
  | tup {a : Addr} {xs : List SV} {vs : List V} : Tp K H M a vs → RepL K H M xs vs → Rep K H M (.tup xs) (.ref a)
  | lst {a : Addr} {xs : List SV} {vs : List V} : Lp K H M a vs → RepL K H M xs vs → Rep K H M (.lst xs) (.ref a)
  | dW {a : Addr} {ks : List Int} {xs : List SV} {vs : List V} : KDctI K a ks vs → ks.length = xs.length → RepL K H M xs vs → Rep K H M (.dct ((ks.map SV.int).zip xs)) (.ref a)
  | ref {n : Nat} {a : Addr} : M.c[n]? = some a → Rep K H M (.ref n) (.ref a)
inductive RepL (K : PySem.W.Frag) (H : Hp) (M : Ms) : List SV → List V → Prop
  | nil : RepL K H M [] []
  | cons {x : SV} {v : V} {xs : List SV} {vs : List V} : Rep K H M x v → RepL K H M xs vs → RepL K H M (x :: xs) (v :: vs)
inductive RepK (K : PySem.W.Frag) (H : Hp) (M : Ms) : List (SV × SV) → List (Key × V) → Prop
  | nil : RepK K H M [] []
  | cons {k x : SV} {q : Key} {v : V} {xs : List (SV × SV)} {vs : List (Key × V)} : keyOf k = some q → Rep K H M x v → RepK K H M xs vs → RepK K H M ((k, x) :: xs) ((q, v) :: vs)
inductive RepT (K : PySem.W.Frag) (H : Hp) (M : Ms) : List (SV × SV) → List (List Key × V) → Prop
  | nil : RepT K H M [] []
  | cons {k : List SV} {x : SV} {q : List Key} {v : V} {xs : List (SV × SV)} {vs : List (List Key × V)} : keysOf k = some q → Rep K H M x v → RepT K H M xs vs → RepT K H M ((.tup k, x) :: xs) ((q, v) :: vs)
end

/-- how heaps go on: cells may come and change; all else that was tracked can be read as before -/
structure Evo (H : Hp) (M : Ms) (H' : Hp) (M' : Ms) : Prop where
  pre : ∃ E, M'.c = M.c ++ E ∧ ∀ a ∈ E, (a ∉ M.c ∧ a ∉ M.b) ∧ H a = none
  busy : M'.b = M.b
  same : ∀ a ∈ M.b, H' a = H a
  keep : ∀ a u, a ∉ M.c → a ∉ M.b → Rd H a u → Rd H' a u

section
variable {K : PySem.W.Frag} {H H1 H' : Hp} {M M1 M' : Ms}
theorem ne_of {l : List Addr} {a p : Addr} (ha : a ∈ l) (hp : p ∉ l) : a ≠ p := fun e => hp (e ▸ ha)
theorem Rd.ne {a : Addr} {u : HO} (h : Rd H a u) : H a ≠ none := by
  rcases h with h | ⟨o, h⟩ <;> rw [h] <;> simp
theorem Rd.of_ne {a : Addr} (h : H a ≠ none) : ∃ u, Rd H a u := by
  cases e : H a with
  | none => exact absurd e h
  | some u => exact ⟨u, .inl e⟩
theorem Evo.refl : Evo H M H M := ⟨⟨[], by simp, fun _ h => nomatch h⟩, rfl, fun _ _ => rfl, fun _ _ _ _ h => h⟩
theorem Evo.sub (e : Evo H M H' M') {a : Addr} (h : a ∈ M.c) : a ∈ M'.c := by
  obtain ⟨E, q, _⟩ := e.pre
  rw [q]
  exact List.mem_append_left _ h
theorem Evo.get (e : Evo H M H' M') {n : Nat} {a : Addr} (h : M.c[n]? = some a) : M'.c[n]? = some a := by
  obtain ⟨E, q, _⟩ := e.pre
  rw [q, List.getElem?_append_left (List.getElem?_eq_some_iff.mp h).1]
  exact h
theorem Evo.fz (e : Evo H M H' M') {a : Addr} {u : HO} (h : Fz H M a u) : Fz H' M' a u := by
  obtain ⟨⟨h1, h3⟩, h2⟩ := h
  refine ⟨⟨fun hm => ?_, by rw [e.busy]; exact h3⟩, e.keep a u h1 h3 h2⟩
  obtain ⟨E, q, hE⟩ := e.pre
  rw [q] at hm
  rcases List.mem_append.mp hm with z | z
  · exact h1 z
  · exact Rd.ne h2 (hE a z).2
theorem Evo.trans (a : Evo H M H1 M1) (b : Evo H1 M1 H' M') : Evo H M H' M' := by
  refine ⟨?_, b.busy.trans a.busy, fun c hc => (b.same c (by rw [a.busy]; exact hc)).trans (a.same c hc), fun c u h1 h3 h2 => ?_⟩
  · obtain ⟨E1, q1, h1⟩ := a.pre
    obtain ⟨E2, q2, h2⟩ := b.pre
    refine ⟨E1 ++ E2, by rw [q2, q1]; simp, fun c hc => ?_⟩
    rcases List.mem_append.mp hc with z | z
    · exact h1 c z
    · obtain ⟨⟨n1, n2⟩, n3⟩ := h2 c z
      have n4 : c ∉ M.c := fun hm => n1 (by rw [q1]; exact List.mem_append_left _ hm)
      have n5 : c ∉ M.b := fun hm => n2 (by rw [a.busy]; exact hm)
      refine ⟨⟨n4, n5⟩, ?_⟩
      cases e : H c with
      | none => rfl
      | some u => exact absurd n3 (Rd.ne (a.keep c u n4 n5 (.inl e)))
  · obtain ⟨⟨q1, q3⟩, q2⟩ := a.fz ⟨⟨h1, h3⟩, h2⟩
    exact b.keep c u q1 q3 q2

mutual
/-- along any way that keeps what stands still and the cells' numbers -/
theorem Rep.map (hf : ∀ a u, Fz H M a u → Fz H' M' a u) (hc : ∀ (n : Nat) (a : Addr), M.c[n]? = some a → M'.c[n]? = some a) : ∀ {x : SV} {v : V}, Rep K H M x v → Rep K H' M' x v
  | _, _, .non => .non
  | _, _, .bl b => .bl b
  | _, _, .int i => .int i
  | _, _, .str x => .str x
  | _, _, .tup h r => .tup (h.elim (fun z => .inl (hf _ _ z)) .inr) (RepL.map hf hc r)
  | _, _, .lst h r => .lst (h.elim (fun z => .inl (hf _ _ z)) .inr) (RepL.map hf hc r)
  | _, _, .dW h e r => .dW h e (RepL.map hf hc r)
  | _, _, .ref h => .ref (hc _ _ h)
theorem RepL.map (hf : ∀ a u, Fz H M a u → Fz H' M' a u) (hc : ∀ (n : Nat) (a : Addr), M.c[n]? = some a → M'.c[n]? = some a) : ∀ {x : List SV} {v : List V}, RepL K H M x v → RepL K H' M' x v
  | _, _, .nil => .nil
  | _, _, .cons h r => .cons (Rep.map hf hc h) (RepL.map hf hc r)
theorem RepK.map (hf : ∀ a u, Fz H M a u → Fz H' M' a u) (hc : ∀ (n : Nat) (a : Addr), M.c[n]? = some a → M'.c[n]? = some a) : ∀ {x : List (SV × SV)} {v : List (Key × V)}, RepK K H M x v → RepK K H' M' x v
  | _, _, .nil => .nil
  | _, _, .cons k h r => .cons k (Rep.map hf hc h) (RepK.map hf hc r)
theorem RepT.map (hf : ∀ a u, Fz H M a u → Fz H' M' a u) (hc : ∀ (n : Nat) (a : Addr), M.c[n]? = some a → M'.c[n]? = some a) : ∀ {x : List (SV × SV)} {v : List (List Key × V)}, RepT K H M x v → RepT K H' M' x v
  | _, _, .nil => .nil
  | _, _, .cons k h r => .cons k (Rep.map hf hc h) (RepT.map hf hc r)
end
theorem Rep.mono (e : Evo H M H' M') {x : SV} {v : V} (r : Rep K H M x v) : Rep K H' M' x v := r.map (fun _ _ => e.fz) (fun _ _ => e.get)
theorem RepL.mono (e : Evo H M H' M') {x : List SV} {v : List V} (r : RepL K H M x v) : RepL K H' M' x v := r.map (fun _ _ => e.fz) (fun _ _ => e.get)
theorem RepK.mono (e : Evo H M H' M') {x : List (SV × SV)} {v : List (Key × V)} (r : RepK K H M x v) : RepK K H' M' x v := r.map (fun _ _ => e.fz) (fun _ _ => e.get)
theorem RepT.mono (e : Evo H M H' M') {x : List (SV × SV)} {v : List (List Key × V)} (r : RepT K H M x v) : RepT K H' M' x v := r.map (fun _ _ => e.fz) (fun _ _ => e.get)

/-! ### lists of values -/
theorem RepL.length : ∀ {xs : List SV} {vs : List V}, RepL K H M xs vs → xs.length = vs.length
  | _, _, .nil => rfl
  | _, _, .cons _ r => congrArg Nat.succ (RepL.length r)
theorem RepL.get : ∀ {xs : List SV} {vs : List V} {i : Nat} {x : SV}, RepL K H M xs vs → xs[i]? = some x → ∃ v, vs[i]? = some v ∧ Rep K H M x v
  | _, _, _, _, .nil, h => by simp at h
  | _, _, 0, _, .cons h _, e => ⟨_, rfl, by
    simp at e
    subst e
    exact h⟩
  | _, _, i + 1, _, .cons _ r, e => by
    obtain ⟨v, h1, h2⟩ := RepL.get (i := i) r (by simpa using e)
    exact ⟨v, by simpa using h1, h2⟩
theorem RepL.get' : ∀ {xs : List SV} {vs : List V} {i : Nat} {v : V}, RepL K H M xs vs → vs[i]? = some v → ∃ x, xs[i]? = some x ∧ Rep K H M x v
  | _, _, _, _, .nil, h => by simp at h
  | _, _, 0, _, .cons h _, e => ⟨_, rfl, by
    simp at e
    subst e
    exact h⟩
  | _, _, i + 1, _, .cons _ r, e => by
    obtain ⟨x, h1, h2⟩ := RepL.get' (i := i) r (by simpa using e)
    exact ⟨x, by simpa using h1, h2⟩
theorem RepL.append : ∀ {xs ys : List SV} {vs ws : List V}, RepL K H M xs vs → RepL K H M ys ws → RepL K H M (xs ++ ys) (vs ++ ws)
  | _, _, _, _, .nil, s => s
  | _, _, _, _, .cons h r, s => .cons h (RepL.append r s)
theorem RepL.set {x : SV} {v : V} (h : Rep K H M x v) : ∀ {xs : List SV} {vs : List V} (i : Nat), RepL K H M xs vs → RepL K H M (xs.set i x) (vs.set i v)
  | _, _, _, .nil => .nil
  | _, _, 0, .cons _ r => .cons h r
  | _, _, i + 1, .cons q r => .cons q (RepL.set h i r)
theorem RepL.take : ∀ {xs : List SV} {vs : List V} (n : Nat), RepL K H M xs vs → RepL K H M (xs.take n) (vs.take n)
  | _, _, 0, _ => .nil
  | _, _, _ + 1, .nil => .nil
  | _, _, n + 1, .cons h r => .cons h (RepL.take n r)
theorem RepL.drop : ∀ {xs : List SV} {vs : List V} (n : Nat), RepL K H M xs vs → RepL K H M (xs.drop n) (vs.drop n)
  | _, _, 0, r => r
  | _, _, _ + 1, .nil => .nil
  | _, _, n + 1, .cons _ r => RepL.drop n r
theorem RepL.flat : ∀ {k : Nat} {xs : List SV} {vs : List V}, RepL K H M xs vs → RepL K H M (List.replicate k xs).flatten (List.replicate k vs).flatten
  | 0, _, _, _ => .nil
  | k + 1, _, _, r => by
    rw [List.replicate_succ, List.replicate_succ, List.flatten_cons, List.flatten_cons]
    exact r.append (RepL.flat r)
theorem RepL.reverse : ∀ {xs : List SV} {vs : List V}, RepL K H M xs vs → RepL K H M xs.reverse vs.reverse
  | _, _, .nil => .nil
  | _, _, .cons h r => by
    rw [List.reverse_cons, List.reverse_cons]
    exact (RepL.reverse r).append (.cons h .nil)
theorem RepL.nil_inv {vs : List V} (h : RepL K H M [] vs) : vs = [] := by cases h; rfl
theorem RepL.nil_iff {xs : List SV} {vs : List V} (h : RepL K H M xs vs) : xs.isEmpty = vs.isEmpty := by cases h <;> rfl
theorem RepL.ints : ∀ {xs : List SV} {vs : List V} {ns : List Int}, RepL K H M xs vs → intsOf xs = some ns → vs = ns.map V.int
  | _, _, _, .nil, e => by cases e; rfl
  | _, _, _, .cons (x := x) h r, e => by
    cases x with
    | int i =>
      cases h
      unfold intsOf at e
      obtain ⟨ns, e1, e2⟩ := Option.map_eq_some_iff.mp e
      rw [← e2, RepL.ints r e1]
      rfl
    | _ => simp [intsOf] at e
theorem RepL.bls : ∀ {xs : List SV} {vs : List V} {bs : List Bool}, RepL K H M xs vs → blsOf xs = some bs → vs = bs.map V.bl
  | _, _, _, .nil, e => by cases e; rfl
  | _, _, _, .cons (x := x) h r, e => by
    cases x with
    | bl i =>
      cases h
      unfold blsOf at e
      obtain ⟨ns, e1, e2⟩ := Option.map_eq_some_iff.mp e
      rw [← e2, RepL.bls r e1]
      rfl
    | _ => simp [blsOf] at e

/-! ### the cells -/
inductive RepO (K : PySem.W.Frag) (H : Hp) (M : Ms) : SO → HO → Prop
  | lst {xs : List SV} {vs : List V} : RepL K H M xs vs → RepO K H M (.lst xs) (.lst vs)
  | dK {kvs : List (SV × SV)} {ps : List (Key × V)} : RepK K H M kvs ps → RepO K H M (.dct kvs) (.dK ps)
  | dT {kvs : List (SV × SV)} {ps : List (List Key × V)} : RepT K H M kvs ps → RepO K H M (.dtt kvs) (.dT ps)
theorem RepO.map (hf : ∀ a u, Fz H M a u → Fz H' M' a u) (hc : ∀ (n : Nat) (a : Addr), M.c[n]? = some a → M'.c[n]? = some a) {o : SO} {u : HO} (h : RepO K H M o u) : RepO K H' M' o u := by
  cases h with
  | lst r => exact .lst (r.map hf hc)
  | dK r => exact .dK (r.map hf hc)
  | dT r => exact .dT (r.map hf hc)
theorem RepO.mono (e : Evo H M H' M') {o : SO} {u : HO} (h : RepO K H M o u) : RepO K H' M' o u := h.map (fun _ _ => e.fz) (fun _ _ => e.get)

structure RH (K : PySem.W.Frag) (H : Hp) (M : Ms) (h : SH) : Prop where
  len : h.length = M.c.length
  nd : M.c.Nodup
  at_ : ∀ (n : Nat) (o : SO), h[n]? = some o → ∃ a u, M.c[n]? = some a ∧ H a = some u ∧ RepO K H M o u
  bsy : ∀ a ∈ M.b, a ∉ M.c ∧ H a ≠ none
theorem RH.cell {h : SH} (r : RH K H M h) {n : Nat} {a : Addr} (e : M.c[n]? = some a) : ∃ o u, h[n]? = some o ∧ H a = some u ∧ RepO K H M o u := by
  have hn : n < h.length := by rw [r.len]; exact (List.getElem?_eq_some_iff.mp e).1
  obtain ⟨b, u, e1, e2, e3⟩ := r.at_ n h[n] (List.getElem?_eq_getElem hn)
  rw [e] at e1
  cases e1
  exact ⟨_, u, List.getElem?_eq_getElem hn, e2, e3⟩
theorem RH.in_ {h : SH} (r : RH K H M h) {a : Addr} (e : a ∈ M.c) : H a ≠ none := by
  obtain ⟨n, hn, rfl⟩ := List.mem_iff_getElem.mp e
  obtain ⟨o, u, _, e2, _⟩ := r.cell (List.getElem?_eq_getElem hn)
  rw [e2]
  simp
theorem RH.fresh {h : SH} (r : RH K H M h) {p : Addr} (hp : H p = none) : p ∉ M.c := fun hm => r.in_ hm hp
theorem RH.freshB {h : SH} (r : RH K H M h) {p : Addr} (hp : H p = none) : p ∉ M.b := fun hm => (r.bsy p hm).2 hp
/-- the same cells, written in the same way -/
theorem RH.map {h : SH} (r : RH K H M h) (hf : ∀ a u, Fz H M a u → Fz H' M' a u) (hc : M'.c = M.c) (hs : ∀ a ∈ M.c, H' a = H a) (hb : ∀ a ∈ M'.b, a ∉ M.c ∧ H' a ≠ none) : RH K H' M' h := by
  refine ⟨by rw [hc]; exact r.len, by rw [hc]; exact r.nd, fun n o e => ?_, fun a ha => by rw [hc]; exact hb a ha⟩
  obtain ⟨a, u, e1, e2, e3⟩ := r.at_ n o e
  exact ⟨a, u, by rw [hc]; exact e1, (hs a (List.mem_of_getElem? e1)).trans e2, e3.map hf (fun n a => by rw [hc]; exact id)⟩

/-- a new object that stands still -/
theorem Evo.new {p : Addr} {u : HO} {h : SH} (r : RH K H M h) (hp : H p = none) : Evo H M (upd H p u) M := by
  refine ⟨⟨[], by simp, fun _ h => nomatch h⟩, rfl, fun a ha => upd_ne (fun e => r.freshB hp (e ▸ ha)), fun a w _ _ h => ?_⟩
  have ne : a ≠ p := fun e => Rd.ne h (by rw [e]; exact hp)
  rcases h with h | ⟨o, h⟩
  · exact .inl (by rw [upd_ne ne]; exact h)
  · exact .inr ⟨o, by rw [upd_ne ne]; exact h⟩
theorem RH.new {h : SH} (r : RH K H M h) {p : Addr} {u : HO} (hp : H p = none) : RH K (upd H p u) M h :=
  r.map (fun _ _ => (Evo.new r hp).fz) rfl (fun a ha => upd_ne (fun e => r.fresh hp (e ▸ ha))) fun a ha => ⟨(r.bsy a ha).1, by rw [upd_ne (ne_of ha (r.freshB hp))]; exact (r.bsy a ha).2⟩
theorem Fz.new {p : Addr} {u : HO} {h : SH} (r : RH K H M h) (hp : H p = none) : Fz (upd H p u) M p u := ⟨⟨r.fresh hp, r.freshB hp⟩, .inl upd_same⟩
/-- a new cell -/
theorem Evo.cell {p : Addr} {u : HO} {h : SH} (r : RH K H M h) (hp : H p = none) : Evo H M (upd H p u) ⟨M.c ++ [p], M.b⟩ := by
  refine ⟨⟨[p], rfl, fun a ha => ?_⟩, rfl, (Evo.new (M := M) r hp).same, (Evo.new (M := M) r hp).keep⟩
  obtain rfl : a = p := by simpa using ha
  exact ⟨⟨r.fresh hp, r.freshB hp⟩, hp⟩
theorem RH.cellNew {h : SH} (r : RH K H M h) {p : Addr} {u : HO} {o : SO} (hp : H p = none) (ho : RepO K H M o u) : RH K (upd H p u) ⟨M.c ++ [p], M.b⟩ (h ++ [o]) := by
  have ev : Evo H M (upd H p u) ⟨M.c ++ [p], M.b⟩ := Evo.cell r hp
  refine ⟨by rw [List.length_append, List.length_append, r.len]; rfl, ?_, fun n o' e => ?_, fun a ha => ?_⟩
  · show (M.c ++ [p]).Nodup
    rw [List.nodup_append]
    refine ⟨r.nd, by simp, fun a ha b hb e => ?_⟩
    obtain rfl : b = p := by simpa using hb
    exact r.fresh hp (e ▸ ha)
  · by_cases hn : n < h.length
    · rw [List.getElem?_append_left hn] at e
      obtain ⟨a, w, e1, e2, e3⟩ := r.at_ n o' e
      have ne : a ≠ p := fun z => by rw [z, hp] at e2; cases e2
      exact ⟨a, w, ev.get e1, by rw [upd_ne ne]; exact e2, e3.mono ev⟩
    · rw [List.getElem?_append_right (by omega)] at e
      have hz : n - h.length = 0 := by
        have := (List.getElem?_eq_some_iff.mp e).1
        simp at this
        omega
      rw [hz] at e
      cases e
      refine ⟨p, u, ?_, upd_same, ho.mono ev⟩
      show (M.c ++ [p])[n]? = _
      rw [List.getElem?_append_right (by rw [← r.len]; omega), ← r.len, hz]
      rfl
  · have ne : a ≠ p := fun e => r.freshB hp (e ▸ ha)
    refine ⟨fun hm => ?_, by rw [upd_ne ne]; exact (r.bsy a ha).2⟩
    rcases List.mem_append.mp (show a ∈ M.c ++ [p] from hm) with z | z
    · exact (r.bsy a ha).1 z
    · exact ne (by simpa using z)
/-- a cell written -/
theorem Evo.write {a : Addr} {u : HO} {h : SH} (r : RH K H M h) (hm : a ∈ M.c) : Evo H M (upd H a u) M := by
  refine ⟨⟨[], by simp, fun _ h => nomatch h⟩, rfl, fun b hb => upd_ne (fun e => (r.bsy b hb).1 (e ▸ hm)), fun b w hb _ h => ?_⟩
  have ne : b ≠ a := fun e => hb (e ▸ hm)
  rcases h with h | ⟨o, h⟩
  · exact .inl (by rw [upd_ne ne]; exact h)
  · exact .inr ⟨o, by rw [upd_ne ne]; exact h⟩
theorem RH.write {h : SH} (r : RH K H M h) {n : Nat} {a : Addr} {u : HO} {o : SO} (hn : M.c[n]? = some a) (ho : RepO K H M o u) : RH K (upd H a u) M (h.set n o) := by
  have hm : a ∈ M.c := List.mem_of_getElem? hn
  refine ⟨by rw [List.length_set]; exact r.len, r.nd, fun k o' e => ?_, fun b hb => ⟨(r.bsy b hb).1, ?_⟩⟩
  · by_cases hk : k = n
    · subst hk
      have hl : k < h.length := by rw [r.len]; exact (List.getElem?_eq_some_iff.mp hn).1
      rw [List.getElem?_set_self hl] at e
      cases e
      exact ⟨a, u, hn, upd_same, ho.mono (Evo.write r hm)⟩
    · rw [List.getElem?_set_ne (Ne.symm hk)] at e
      obtain ⟨b, w, e1, e2, e3⟩ := r.at_ k o' e
      have ne : b ≠ a := fun z => by
        subst z
        obtain ⟨h1, g1⟩ := List.getElem?_eq_some_iff.mp e1
        obtain ⟨h2, g2⟩ := List.getElem?_eq_some_iff.mp hn
        exact hk ((List.getElem_inj r.nd).mp (g1.trans g2.symm))
      exact ⟨b, w, e1, by rw [upd_ne ne]; exact e2, e3.mono (Evo.write r hm)⟩
  · rw [upd_ne (ne_of hm (r.bsy b hb).1).symm]
    exact (r.bsy b hb).2

/-! ### a list that is being made -/
/-- more busy ones: less that stands still -/
theorem Fz.less {b : List Addr} {D : Addr} {a : Addr} {u : HO} (h : Fz H ⟨M.c, D :: b⟩ a u) : Fz H ⟨M.c, b⟩ a u :=
  ⟨⟨h.1.1, fun hm => h.1.2 (List.mem_cons_of_mem _ hm)⟩, h.2⟩
/-- the list at D begun -/
theorem Fz.begin_ {D : Addr} {w : HO} {h : SH} (r : RH K H M h) (hD : H D = none) {a : Addr} {u : HO} (z : Fz H M a u) : Fz (upd H D w) ⟨M.c, D :: M.b⟩ a u := by
  obtain ⟨⟨z1, z2⟩, z3⟩ := (Evo.new (u := w) r hD).fz z
  refine ⟨⟨z1, fun hm => ?_⟩, z3⟩
  rcases List.mem_cons.mp hm with e | e
  · exact Rd.ne z.2 (e ▸ hD)
  · exact z2 e
theorem RH.begin_ {D : Addr} {w : HO} {h : SH} (r : RH K H M h) (hD : H D = none) : RH K (upd H D w) ⟨M.c, D :: M.b⟩ h := by
  refine r.map (fun _ _ => Fz.begin_ r hD) rfl (fun a ha => upd_ne (fun e => r.fresh hD (e ▸ ha))) fun a ha => ?_
  rcases List.mem_cons.mp ha with e | e
  · subst e
    exact ⟨r.fresh hD, by rw [upd_same]; simp⟩
  · exact ⟨(r.bsy a e).1, by rw [upd_ne (ne_of e (r.freshB hD))]; exact (r.bsy a e).2⟩
theorem Evo.begin_ {D : Addr} {w : HO} {h : SH} (r : RH K H M h) (hD : H D = none) : Evo H M (upd H D w) M := Evo.new r hD
/-- it grows -/
theorem Fz.grow {D : Addr} {b : List Addr} {w : HO} {a : Addr} {u : HO} (z : Fz H ⟨M.c, D :: b⟩ a u) : Fz (upd H D w) ⟨M.c, D :: b⟩ a u := by
  have ne : a ≠ D := fun e => z.1.2 (e ▸ List.mem_cons_self)
  refine ⟨z.1, ?_⟩
  rcases z.2 with q | ⟨o, q⟩
  · exact .inl (by rw [upd_ne ne]; exact q)
  · exact .inr ⟨o, by rw [upd_ne ne]; exact q⟩
theorem RH.grow {D : Addr} {b : List Addr} {w : HO} {h : SH} (r : RH K H ⟨M.c, D :: b⟩ h) : RH K (upd H D w) ⟨M.c, D :: b⟩ h := by
  have hD := r.bsy D List.mem_cons_self
  refine r.map (fun _ _ => Fz.grow) rfl (fun a ha => upd_ne (fun e => hD.1 (e ▸ ha))) fun a ha => ⟨(r.bsy a ha).1, ?_⟩
  by_cases e : a = D
  · subst e
    rw [upd_same]
    simp
  · rw [upd_ne e]
    exact (r.bsy a ha).2
theorem RH.done {D : Addr} {b : List Addr} {h : SH} (r : RH K H ⟨M.c, D :: b⟩ h) : RH K H ⟨M.c, b⟩ h :=
  r.map (fun _ _ => Fz.less) rfl (fun _ _ => rfl) fun a ha => r.bsy a (List.mem_cons_of_mem _ ha)
/-- from the outside: a turn goes by while D is busy -/
theorem Evo.turn {D : Addr} {Hc Hd : Hp} {Mc Md : Ms} (hD : H D = none) (hDc : D ∉ M.c) (hDb : D ∉ M.b) (e : Evo H M Hc ⟨Mc.c, M.b⟩) (hb : Mc.b = D :: M.b) (hmc : D ∉ Mc.c) (t : Evo Hc Mc Hd Md) : Evo H M Hd ⟨Md.c, M.b⟩ := by
  obtain ⟨E1, p1, h1⟩ := e.pre
  obtain ⟨E2, p2, h2⟩ := t.pre
  have q1 : Mc.c = M.c ++ E1 := p1
  refine ⟨⟨E1 ++ E2, by show Md.c = _; rw [p2, q1]; simp, fun c hc => ?_⟩, rfl, fun a ha => ?_, fun a u n1 n2 hr => ?_⟩
  · rcases List.mem_append.mp hc with z | z
    · exact h1 c z
    · obtain ⟨⟨n1, n2⟩, n3⟩ := h2 c z
      have n4 : c ∉ M.c := fun hm => n1 (by rw [q1]; exact List.mem_append_left _ hm)
      have n5 : c ∉ M.b := fun hm => n2 (by rw [hb]; exact List.mem_cons_of_mem _ hm)
      refine ⟨⟨n4, n5⟩, ?_⟩
      cases q : H c with
      | none => rfl
      | some u => exact absurd n3 (Rd.ne (e.keep c u n4 n5 (.inl q)))
  · exact (t.same a (by rw [hb]; exact List.mem_cons_of_mem _ ha)).trans (e.same a ha)
  · obtain ⟨⟨z1, z2⟩, z3⟩ := e.fz ⟨⟨n1, n2⟩, hr⟩
    refine t.keep a u z1 (fun hm => ?_) z3
    rw [hb] at hm
    rcases List.mem_cons.mp hm with q | q
    · exact Rd.ne hr (q ▸ hD)
    · exact n2 q
theorem Evo.grow {D : Addr} {w : HO} {Hd : Hp} {Md : Ms} (hD : H D = none) (hDb : D ∉ M.b) (e : Evo H M Hd ⟨Md.c, M.b⟩) : Evo H M (upd Hd D w) ⟨Md.c, M.b⟩ := by
  refine ⟨e.pre, rfl, fun a ha => (upd_ne (ne_of ha hDb)).trans (e.same a ha), fun a u n1 n2 hr => ?_⟩
  have ne : a ≠ D := fun q => Rd.ne hr (q ▸ hD)
  rcases e.keep a u n1 n2 hr with q | ⟨o, q⟩
  · exact .inl (by rw [upd_ne ne]; exact q)
  · exact .inr ⟨o, by rw [upd_ne ne]; exact q⟩

/-! ### the names -/
structure RS (K : PySem.W.Frag) (H : Hp) (M : Ms) (env : SE) (σ : L2.St) : Prop where
  len : env.length = σ.length
  at_ : ∀ (i : Nat) (v : SV), env[i]? = some (some v) → ∃ x, σ[i]? = some (some x) ∧ Rep K H M v x
theorem RS.mono (e : Evo H M H' M') {env : SE} {σ : L2.St} (r : RS K H M env σ) : RS K H' M' env σ :=
  ⟨r.len, fun i v h => let ⟨x, h1, h2⟩ := r.at_ i v h; ⟨x, h1, h2.mono e⟩⟩
theorem RS.set {env : SE} {σ : L2.St} (r : RS K H M env σ) {i : Nat} {v : SV} {x : V} (h : Rep K H M v x) : RS K H M (env.set i (some v)) (σ.set i (some x)) := by
  refine ⟨by rw [List.length_set, List.length_set]; exact r.len, fun j w e => ?_⟩
  by_cases hj : i = j
  · subst hj
    have hl : i < env.length := by
      have := (List.getElem?_eq_some_iff.mp e).1
      rwa [List.length_set] at this
    rw [List.getElem?_set_self hl] at e
    cases e
    exact ⟨x, by rw [List.getElem?_set_self (by rw [← r.len]; exact hl)], h⟩
  · rw [List.getElem?_set_ne hj] at e
    obtain ⟨y, h1, h2⟩ := r.at_ j w e
    exact ⟨y, by rw [List.getElem?_set_ne hj]; exact h1, h2⟩
theorem RS.wipe {env : SE} {σ : L2.St} (r : RS K H M env σ) : ∀ ks : List Nat, RS K H M (wipeE env ks) (L2.wipe σ ks)
  | [] => r
  | k :: ks => by
    have ih := RS.wipe r ks
    refine ⟨by show ((wipeE env ks).set k none).length = ((L2.wipe σ ks).set k none).length; rw [List.length_set, List.length_set]; exact ih.len, fun j w e => ?_⟩
    have e' : ((wipeE env ks).set k none)[j]? = some (some w) := e
    by_cases hj : k = j
    · subst hj
      by_cases hl : k < (wipeE env ks).length
      · rw [List.getElem?_set_self hl] at e'; cases e'
      · rw [List.getElem?_eq_none (by simpa using hl)] at e'; cases e'
    · rw [List.getElem?_set_ne hj] at e'
      obtain ⟨y, h1, h2⟩ := ih.at_ j w e'
      exact ⟨y, by show ((L2.wipe σ ks).set k none)[j]? = _; rw [List.getElem?_set_ne hj]; exact h1, h2⟩
/-- wiped here, kept there -/
theorem RS.wipeL {env : SE} {σ : L2.St} (r : RS K H M env σ) : ∀ ks : List Nat, RS K H M (wipeE env ks) σ
  | [] => r
  | k :: ks => by
    have ih := RS.wipeL r ks
    refine ⟨by show ((wipeE env ks).set k none).length = _; rw [List.length_set]; exact ih.len, fun j w e => ?_⟩
    have e' : ((wipeE env ks).set k none)[j]? = some (some w) := e
    by_cases hj : k = j
    · subst hj
      by_cases hl : k < (wipeE env ks).length
      · rw [List.getElem?_set_self hl] at e'; cases e'
      · rw [List.getElem?_eq_none (by simpa using hl)] at e'; cases e'
    · rw [List.getElem?_set_ne hj] at e'
      exact ih.at_ j w e'
theorem RS.look {env : SE} {σ : L2.St} (r : RS K H M env σ) {i : Nat} {v : SV} (h : look env i = some v) : ∃ x, σ[i]? = some (some x) ∧ Rep K H M v x := by
  unfold Ws.look at h
  split at h
  · rename_i w e
    cases h
    exact r.at_ i v e
  · cases h
end
end Ws
end

section
set_option Elab.async false
set_option linter.all false
set_option maxRecDepth 100000
set_option autoImplicit false
/-! What a run of the simple interpreter promises of the machine; operations on values. -/
namespace Ws
open PySem PySem.Spec PyProof.Rows L2

/-- a result, met by what the machine reaches from (H, M) on -/
def SemR {α : Type} (K : PySem.W.Frag) (mg : Str → Option Value) (r : Res α) (H : Hp) (M : Ms) (E : XK) (k : α → SH → Hp → Ms → Prop) : Prop := match r with
  | .ok a h => ∀ (H' : Hp) (M' : Ms), Evo H M H' M' → RH K H' M' h → k a h H' M'
  | .err c v h => ∀ (H' : Hp) (M' : Ms) (cls : Value) (d : Addr) (x : V), Evo H M H' M' → RH K H' M' h → mg c = some cls → H' d = some (.xd [("value", x)]) → Rep K H' M' v x → E cls (some d) H'
  | .bad => False

section
variable {K : PySem.W.Frag} {mg : Str → Option Value} {H H' : Hp} {M M' : Ms} {E : XK}
theorem SemR.mono {α : Type} {r : Res α} {k k' : α → SH → Hp → Ms → Prop} (h : SemR K mg r H M E k) (hk : ∀ a h' H' M', Evo H M H' M' → RH K H' M' h' → k a h' H' M' → k' a h' H' M') : SemR K mg r H M E k' := by
  cases r with
  | ok a h' => exact fun H' M' e r => hk a h' H' M' e r (h H' M' e r)
  | err c v h' => exact h
  | bad => exact h
theorem SemR.from {α : Type} {r : Res α} {k : α → SH → Hp → Ms → Prop} (h : SemR K mg r H M E k) (e : Evo H M H' M') : SemR K mg r H' M' E k := by
  cases r with
  | ok a h' => exact fun H2 M2 e2 r => h H2 M2 (e.trans e2) r
  | err c v h' => exact fun H2 M2 cls d x e2 r => h H2 M2 cls d x (e.trans e2) r
  | bad => exact h
theorem SemR.bind {α β : Type} {r : Res α} {f : α → SH → Res β} {k : β → SH → Hp → Ms → Prop} (h : SemR K mg (r.bind f) H M E k) : SemR K mg r H M E fun a h1 H1 M1 => SemR K mg (f a h1) H1 M1 E k := by
  cases r with
  | ok a h' => exact fun H1 M1 e r => SemR.from h e
  | err c v h' => exact h
  | bad => exact h
theorem SemR.here {α : Type} {a : α} {h : SH} {k : α → SH → Hp → Ms → Prop} (s : SemR K mg (.ok a h) H M E k) (r : RH K H M h) : k a h H M := s H M .refl r
theorem SemR.ofO {α : Type} {o : Option α} {h : SH} {k : α → SH → Hp → Ms → Prop} (s : SemR K mg (Ws.ofO h o) H M E k) : ∃ a, o = some a ∧ SemR K mg (.ok a h) H M E k := by
  cases o with
  | some a => exact ⟨a, rfl, s⟩
  | none => exact s.elim
end

/-- what a value operation gives -/
def Give (K : PySem.W.Frag) (z : SV) (h : SH) (H : Hp) (M : Ms) (Q : VK) : Prop := ∀ (H' : Hp) (M' : Ms), Evo H M H' M' → RH K H' M' h → ∀ x, Rep K H' M' z x → Q x H'
section
variable {K : PySem.W.Frag} {H : Hp} {M : Ms} {h : SH} {z : SV} {Q : VK}
theorem Give.at (g : Give K z h H M Q) (r : RH K H M h) {x : V} (rx : Rep K H M z x) : Q x H := g H M .refl r x rx
theorem Give.tup {xs : List SV} {vs : List V} (g : Give K (.tup xs) h H M Q) (r : RH K H M h) (rx : RepL K H M xs vs) (p : Addr) (hp : H p = none) : Q (.ref p) (upd H p (.tup vs)) :=
  g _ M (Evo.new r hp) (RH.new r hp) _ (.tup (.inl (Fz.new r hp)) (rx.mono (Evo.new r hp)))
theorem Give.lst {xs : List SV} {vs : List V} (g : Give K (.lst xs) h H M Q) (r : RH K H M h) (rx : RepL K H M xs vs) (p : Addr) (hp : H p = none) : Q (.ref p) (upd H p (.lst vs)) :=
  g _ M (Evo.new r hp) (RH.new r hp) _ (.lst (.inl (Fz.new r hp)) (rx.mono (Evo.new r hp)))
end

/-! ### two values in -/
/-- an operation's reading -/
def rB (K : PySem.W.Frag) (f : SH → SV → SV → Option SV) : R2 := fun x y H Q => ∃ v w z h M, RH K H M h ∧ Rep K H M v x ∧ Rep K H M w y ∧ f h v w = some z ∧ Give K z h H M Q
def opO : BOp → Operator
  | .add => .Add
  | .sub => .Sub
  | .mul => .Mult
  | .fdiv => .FloorDiv
  | .mod => .Mod
  | .pow => .Pow
section
variable {X : Cx}
theorem ifs {α : Type} {c : Bool} {a b : α} (h : (if c = true then some a else none) = some b) : c = true ∧ a = b := by
  cases c with
  | true => exact ⟨rfl, Option.some.inj h⟩
  | false => simp at h
theorem RepL.ne {H : Hp} {M : Ms} {xs : List SV} {vs : List V} (r : RepL X.K H M xs vs) (h : vs ≠ []) : xs ≠ [] := by
  intro e
  subst e
  exact h r.nil_inv

/-- t * 1 is t -/
theorem tuple_mul_one (l : Addr) (items : Array Value) (n : Nat) (dd : Option Addr) (sl : Array (Option Value)) (u : Tok) :
    Meets (Builtin.«tuple.__mul__» ⟨[.ref l, .int 1 u], []⟩) (fun _ R s => s.heap.get? l = some { cls := .type "tuple", dict := dd, data := .seq items n, slots := sl } ∧ R (.ok (.ret (Value.ref l))) s) :=
  .of_wp fun prog w A R s h => by
    obtain ⟨hp, g, d, tk, os⟩ := s
    obtain ⟨hl, h⟩ := h
    have f1 := AutoSeq1.idx_int
    wp_walk using wpAny_loadPart' hl
    repeat (first
      | (refine wpAny_ite_false (decide_eq_false (by decide)) ?_; wp_walk using wpAny_loadPart' hl)
      | (refine wpAny_ite_true (decide_eq_true (by simp)) ?_; wp_walk using wpAny_loadPart' hl))
    exact ⟨_, rfl, h⟩
end
end Ws
end

section
set_option Elab.async false
set_option linter.all false
set_option maxRecDepth 100000
set_option autoImplicit false
/-! Operations on values: arithmetic. -/
namespace Ws
open PySem PySem.Spec PyProof.Rows L2
section
variable {X : Cx}

/-- t * 1: the tuple itself -/
theorem op_rep1 : OpR X (binaryOp .Mult) (fun x y H Q => ∃ l xs, x = .ref l ∧ y = .int 1 ∧ SqT X.K H l xs ∧ xs ≠ [] ∧ Q (.ref l) H) := by
  intro pins s σ H x y v u Q I rx ry h
  obtain ⟨l, xs, rfl, rfl, hT, hne, q⟩ := h
  cases rx
  obtain ⟨t, rfl⟩ := ry
  obtain ⟨its, r, ⟨⟨cls, dd, data, sl⟩, ho, hc, n, hd⟩, hs⟩ := I.tuple hT
  simp only at hc hd
  subst hc hd
  refine wpAny_binaryOp_repeat_ref (T := "tuple") (U := "int") (by decide) ⟨_, ho, rfl⟩ (fun s' => typeIs_int s' 1 t) noFill_tuple_mul F.fills_int_mul F.slot_int_rmul repeat_tuple F.slot_int_index.lookup
    (call_meets F.slot_int_rmul (typeIs_int s 1 t) F.entry_int_rmul (F.args_int_rmul_2 _ _) (int_rmul_tuple 1 t l its.toArray n dd sl)
      ⟨ho, rfl, ⟨_, ho, rfl⟩, call_meets F.slot_tuple_mul ⟨_, ho, rfl⟩ F.entry_tuple_mul (F.args_tuple_mul_2 _ _) (tuple_mul_one l its.toArray n dd sl t) ⟨ho, ?_⟩⟩)
  exact ⟨.ref l, H, I, rfl, q⟩
/-- a list times an int, any list that is read -/
theorem Lp.obj {pins : List (Addr × Obj)} {σ : L2.St} {H : Hp} {s : Shared} {M : Ms} {a : Addr} {xs : List V} (I : Inv X pins σ H s) (h : Lp X.K H M a xs) :
    ∃ (its : List Value) (n : Nat), Vals xs its ∧ xs.length ≤ sizeLine ∧ s.heap.get? a = some { cls := .type "list", data := .seq its.toArray n } := by
  rcases h with ⟨_, h⟩ | ⟨its, n, hk, hz, r⟩
  · obtain ⟨z, its, n, r, e⟩ := h.ok I.hok
    exact ⟨its, n, r, z, e⟩
  · refine ⟨its.toList, n, r, ?_, by simpa using I.kIn a _ hk⟩
    rw [r.length]
    simpa using hz
theorem op_repL : OpR X (binaryOp .Mult) (fun x y H Q => ∃ l k xs M, x = .ref l ∧ y = .int k ∧ Lp X.K H M l xs ∧ -(2 ^ 63) ≤ k ∧ k < 2 ^ 63 ∧ xs.length * k.toNat ≤ sizeLine ∧
    ∀ p, H p = none → Q (.ref p) (upd H p (.lst (List.replicate k.toNat xs).flatten))) := by
  intro pins s σ H x y v u Q I rx ry h
  obtain ⟨l, k, xs, M, rfl, rfl, hL, lo, hi, hz, q⟩ := h
  cases rx
  obtain ⟨t, rfl⟩ := ry
  obtain ⟨its, n, r, _, e⟩ := hL.obj I
  have hl := r.length
  have size_ok : its.toArray.size * k.toNat ≤ sizeLine := by
    rw [List.size_toArray, ← hl]
    exact hz
  have fit : ¬ (!Builtin.List.listFitsIndex k) = true := by
    rw [fitsIndex_both lo hi]
    decide
  have cap : ¬ its.toArray.size * k.toNat > (2 ^ 63 - 1) / 8 := by
    rw [sizeLine_eq] at size_ok
    omega
  have short : ¬ Builtin.List.listTooLong (its.toArray.size * k.toNat) = true := by
    rw [notLongL size_ok]
    decide
  have flat : List.foldl (fun x1 x2 => x1 ++ x2) #[] (List.replicate (if its.toArray.isEmpty = true then 0 else k.toNat) its.toArray) = (List.replicate k.toNat its).flatten.toArray := by
    have all : ∀ m : Nat, List.foldl (fun x1 x2 => x1 ++ x2) #[] (List.replicate m its.toArray) = (List.replicate m its).flatten.toArray := by
      intro m
      have z := foldl_rep its m []
      rwa [List.nil_append] at z
    rw [all]
    cases its with
    | nil => simp
    | cons a b => simp
  have one := AutoListH.list___mul___list_int_3 l its.toArray n k t fit cap short
  refine wpAny_binaryOp_repeat_ref (T := "list") (U := "int") (by decide) ⟨_, e, rfl⟩ (fun s' => typeIs_int s' k t) noFill_list_mul F.fills_int_mul F.slot_int_rmul repeat_list F.slot_int_index.lookup
    (call_meets F.slot_int_rmul (typeIs_int s k t) F.entry_int_rmul (F.args_int_rmul_2 _ _) (int___rmul___int_list k t l its.toArray n) ⟨e, rfl, ⟨_, e, rfl⟩, ?_⟩)
  refine call_meets F.slot_list_mul ⟨_, e, rfl⟩ F.entry_list_mul (F.args_list_mul_2 _ _) one ⟨e, ?_⟩
  rw [flat]
  refine ⟨.ref _, _, I.lnew (t' := s.toks) (r.rep k.toNat) ?_, rfl, q _ I.fresh⟩
  rw [PyProof.Rows.lm_len_rep_flat, Nat.mul_comm]
  exact hz
theorem op_fdivL : OpR X (binaryOp .FloorDiv) (rI (fun _ j => j ≠ 0 ∧ j.natAbs.log2 < 9000) fun i j => .int (i.fdiv j)) :=
  opI fun _ _ _ _ _ _ _ hc q => floordiv_int hc.1 q (.inl (PyProof.noPylong_of_log2 hc.2))

theorem op_bin (op : BOp) : OpR X (binaryOp (opO op)) (rB X.K fun _ v w => binop op v w) := by
  intro pins s σ H x y vv uu Q I rx ry h
  obtain ⟨v, w, z, h, M, rh, rv, rw', e, g⟩ := h
  cases v with
  | int i =>
    cases rv
    cases w with
    | int j =>
      cases rw'
      cases op with
      | add => cases e; exact op_add pins s σ H _ _ vv uu Q I rx ry ⟨i, j, rfl, rfl, g.at rh (.int _)⟩
      | sub => cases e; exact op_sub pins s σ H _ _ vv uu Q I rx ry ⟨i, j, rfl, rfl, g.at rh (.int _)⟩
      | mul =>
        obtain ⟨c, e⟩ := ifs e
        subst e
        unfold mulFits at c
        rw [Bool.or_eq_true, Bool.or_eq_true] at c
        rcases c with (c | c) | c
        · exact op_mul pins s σ H _ _ vv uu Q I rx ry ⟨i, j, rfl, rfl, .inl (of_decide_eq_true c), g.at rh (.int _)⟩
        · exact op_mul pins s σ H _ _ vv uu Q I rx ry ⟨i, j, rfl, rfl, .inr (of_decide_eq_true c), g.at rh (.int _)⟩
        · exact op_mulW pins s σ H _ _ vv uu Q I rx ry ⟨i, j, rfl, rfl, (show CMulW i j from of_decide_eq_true (p := i.natAbs.log2 + j.natAbs.log2 < 1000000) c), g.at rh (.int _)⟩
      | fdiv =>
        obtain ⟨c, e⟩ := ifs e
        subst e
        unfold divFits at c
        rw [Bool.and_eq_true] at c
        exact op_fdivL pins s σ H _ _ vv uu Q I rx ry ⟨i, j, rfl, rfl, ⟨of_decide_eq_true c.1, of_decide_eq_true c.2⟩, g.at rh (.int _)⟩
      | pow =>
        obtain ⟨c, e⟩ := ifs e
        subst e
        rw [Bool.and_eq_true, Bool.and_eq_true] at c
        exact op_pow pins s σ H _ _ vv uu Q I rx ry ⟨i, j, rfl, rfl, ⟨of_decide_eq_true c.1, of_decide_eq_true c.2.1, of_decide_eq_true c.2.2⟩, g.at rh (.int _)⟩
      | mod =>
        obtain ⟨c, e⟩ := ifs e
        subst e
        exact op_modN pins s σ H _ _ vv uu Q I rx ry ⟨i, j, rfl, rfl, of_decide_eq_true c, g.at rh (.int _)⟩
    | _ => cases op <;> cases e
  | str i =>
    cases rv
    cases w with
    | str j =>
      cases rw'
      cases op with
      | add =>
        obtain ⟨c, e⟩ := ifs e
        subst e
        exact op_add_str pins s σ H _ _ vv uu Q I rx ry ⟨i, j, rfl, rfl, of_decide_eq_true c, g.at rh (.str _)⟩
      | _ => cases e
    | _ => cases op <;> cases e
  | tup xs =>
    obtain ⟨a, vs, rfl, ta, la⟩ : ∃ a vs, x = .ref a ∧ Tp X.K H M a vs ∧ RepL X.K H M xs vs := by cases rv; exact ⟨_, _, rfl, ‹_›, ‹_›⟩
    cases w with
    | tup ys =>
      obtain ⟨b, ws, rfl, tb, lb⟩ : ∃ a vs, y = .ref a ∧ Tp X.K H M a vs ∧ RepL X.K H M ys vs := by cases rw'; exact ⟨_, _, rfl, ‹_›, ‹_›⟩
      cases op with
      | add =>
        obtain ⟨c, e⟩ := ifs e
        subst e
        have l1 := la.length
        have l2 := lb.length
        refine op_catA pins s σ H _ _ vv uu Q I rx ry ⟨a, b, vs, ws, rfl, rfl, ta.sq, tb.sq, ?_, ?_, ?_, ?_⟩
        · rw [← l1, ← l2]
          exact of_decide_eq_true c
        · rintro rfl
          cases la
          exact g.at rh rw'
        · rintro _ rfl
          cases lb
          rw [List.append_nil] at g
          exact g.at rh rv
        · intro _ _ p hp
          exact g.tup rh (la.append lb) p hp
      | _ => cases e
    | int k =>
      cases rw'
      cases op with
      | mul =>
        obtain ⟨c, e⟩ := ifs e
        subst e
        obtain ⟨c1, c2, c3, c4⟩ := of_decide_eq_true c
        have l1 := la.length
        have ne : vs ≠ [] := by
          rintro rfl
          rw [l1] at c4
          exact Nat.lt_irrefl 0 c4
        by_cases hk : k = 1
        · subst hk
          refine op_rep1 pins s σ H _ _ vv uu Q I rx ry ⟨a, vs, rfl, rfl, ta.sq, ne, ?_⟩
          have e1 : (List.replicate (1 : Int).toNat xs).flatten = xs := by simp
          rw [e1] at g
          exact g.at rh rv
        · refine op_repT pins s σ H _ _ vv uu Q I rx ry ⟨a, k, vs, rfl, rfl, ta.sq, ne, by omega, c2, by rw [← l1]; exact c3, ?_⟩
          intro p hp
          exact g.tup rh la.flat p hp
      | _ => cases e
    | _ => cases op <;> cases e
  | _ => cases op <;> cases e
end
end Ws
end

section
set_option Elab.async false
set_option linter.all false
set_option maxRecDepth 100000
set_option autoImplicit false
/-! Operations on values: comparisons. -/
namespace Ws
open PySem PySem.Spec PyProof.Rows L2

def opK : COp → CmpOp
  | .eq => .Eq
  | .ne => .NotEq
  | .lt => .Lt
  | .le => .LtE
  | .gt => .Gt
  | .ge => .GtE
  | .is => .Is
  | .isNot => .IsNot
  | .mem => .In
  | .notMem => .NotIn

section
variable {K : PySem.W.Frag} {H : Hp} {M : Ms}
mutual
theorem Rep.dp : ∀ (n : Nat) (x : SV) (v : V), Rep K H M x v → x.fit n = true → Dp K H v x.pd
  | _, .non, _, r, _ => by cases r; unfold SV.pd; exact .non
  | _, .bl b, _, r, _ => by cases r; unfold SV.pd; exact .bl b
  | _, .int i, _, r, _ => by cases r; unfold SV.pd; exact .int i
  | _, .str x, _, r, _ => by cases r; unfold SV.pd; exact .str x
  | 0, .tup xs, _, _, h => by simp [SV.fit] at h
  | n + 1, .tup xs, _, r, h => by
    cases r with
    | tup t l =>
      unfold SV.pd
      exact .tup t.sq (RepL.dp n xs _ l (by simpa [SV.fit] using h))
  | 0, .lst xs, _, _, h => by simp [SV.fit] at h
  | n + 1, .lst xs, _, r, h => by
    cases r with
    | lst t l =>
      unfold SV.pd
      exact .lst t.sq (RepL.dp n xs _ l (by simpa [SV.fit] using h))
  | _, .dct _, _, _, h => by simp [SV.fit] at h
  | _, .ref _, _, _, h => by simp [SV.fit] at h
theorem RepL.dp : ∀ (n : Nat) (xs : List SV) (vs : List V), RepL K H M xs vs → (∀ x ∈ xs, x.fit n = true) → DpAll K H vs (SV.pdL xs)
  | _, [], _, r, _ => by cases r; unfold SV.pdL; exact .nil
  | n, x :: xs, _, r, h => by
    cases r with
    | cons a b =>
      unfold SV.pdL
      exact .cons (Rep.dp n x _ a (h x List.mem_cons_self)) (RepL.dp n xs _ b fun y hy => h y (List.mem_cons_of_mem _ hy))
end
mutual
theorem fit_lay : ∀ (n : Nat) (x : SV), x.fit n = true → x.pd.canLay0 = true ∧ x.pd.depth ≤ n
  | _, .non, _ => by simp [SV.pd, PyData.canLay0, PyData.depth]
  | _, .bl b, _ => by simp [SV.pd, PyData.canLay0, PyData.depth]
  | _, .int i, _ => by simp [SV.pd, PyData.canLay0, PyData.depth]
  | _, .str x, h => by simpa [SV.pd, PyData.canLay0, PyData.depth, SV.fit] using h
  | 0, .tup xs, h => by simp [SV.fit] at h
  | n + 1, .tup xs, h => by
    obtain ⟨a, b⟩ := fitL_lay n xs (by simpa [SV.fit] using h)
    unfold SV.pd PyData.canLay0 PyData.depth
    exact ⟨a, by omega⟩
  | 0, .lst xs, h => by simp [SV.fit] at h
  | n + 1, .lst xs, h => by
    obtain ⟨a, b⟩ := fitL_lay n xs (by simpa [SV.fit] using h)
    unfold SV.pd PyData.canLay0 PyData.depth
    exact ⟨a, by omega⟩
  | _, .dct _, h => by simp [SV.fit] at h
  | _, .ref _, h => by simp [SV.fit] at h
theorem fitL_lay : ∀ (n : Nat) (xs : List SV), (∀ x ∈ xs, x.fit n = true) → PyData.canLayAll0 (SV.pdL xs) = true ∧ PyData.depthAll (SV.pdL xs) ≤ n
  | _, [], _ => by simp [SV.pdL, PyData.canLayAll0, PyData.depthAll]
  | n, x :: xs, h => by
    obtain ⟨a, b⟩ := fit_lay n x (h x List.mem_cons_self)
    obtain ⟨c, d⟩ := fitL_lay n xs fun y hy => h y (List.mem_cons_of_mem _ hy)
    unfold SV.pdL PyData.canLayAll0 PyData.depthAll
    exact ⟨by rw [a, c]; rfl, by omega⟩
end
theorem fit_shaped {x : SV} (h : x.fit 30 = true) : SeqAt.shaped x.pd = true := by
  obtain ⟨a, b⟩ := fit_lay 30 x h
  unfold SeqAt.shaped
  rw [Bool.and_eq_true]
  exact ⟨a, decide_eq_true (by omega)⟩
theorem pdL_map : ∀ xs : List SV, SV.pdL xs = xs.map SV.pd
  | [] => rfl
  | x :: xs => by unfold SV.pdL; rw [pdL_map xs]; rfl
theorem any_pd {xs : List SV} {v : SV} : (SV.pdL xs).any (fun z => PyData.eqv z v.pd) = xs.any (fun x => veq x v) := by
  rw [pdL_map, List.any_map]
  rfl
theorem Rep.non_iff {x : SV} {v : V} (r : Rep K H M x v) : decide (v = .non) = decide (x = .non) := by
  cases r <;> simp
end

/-- a comparison's reading -/
def rC (K : PySem.W.Frag) (op : COp) : R2 := fun x y H Q => ∃ v w b h M, RH K H M h ∧ Rep K H M v x ∧ Rep K H M w y ∧ cmpop h op v w = some b ∧ Q (.bl b) H
section
variable {X : Cx}
def rInT (K : PySem.W.Frag) (no : Bool) : R2 := fun x y H Q => ∃ d ds, Dp K H x d ∧ Dp K H y (.tuple ds) ∧ SeqAt.shaped d = true ∧ SeqAt.shaped (.tuple ds) = true ∧ Q (.bl (xor no (ds.any fun z => PyData.eqv z d))) H
theorem op_inT (hu : X.A.units + 65 < cLine) : OpR X (compareOp .In) (rInT X.K false) := by
  rintro pins s σ H x y v u Q I rx ry ⟨d, ds, hd, he, sd, se, q⟩
  obtain ⟨as, r1⟩ := Dp.reads I d x v hd rx
  obtain ⟨bs, r2⟩ := Dp.reads I (.tuple ds) y u he ry
  refine SeqAt.in_tuple_reads r2 r1 (SeqAt.canLay_of_shaped se) (SeqAt.canLay_of_shaped sd) (room_in_shaped sd hu) ⟨.bl _, H, I, rfl, ?_⟩
  rw [Bool.false_xor] at q
  exact q
theorem op_notInT (hu : X.A.units + 65 < cLine) : OpR X (compareOp .NotIn) (rInT X.K true) := by
  rintro pins s σ H x y v u Q I rx ry ⟨d, ds, hd, he, sd, se, q⟩
  obtain ⟨as, r1⟩ := Dp.reads I d x v hd rx
  obtain ⟨bs, r2⟩ := Dp.reads I (.tuple ds) y u he ry
  refine SeqAt.notIn_tuple_reads r2 r1 (SeqAt.canLay_of_shaped se) (SeqAt.canLay_of_shaped sd) (room_in_shaped sd hu) ⟨.bl _, H, I, rfl, ?_⟩
  rw [Bool.true_xor] at q
  exact q

theorem op_cmp (hu : X.A.units + 65 < cLine) (op : COp) : OpR X (compareOp (opK op)) (rC X.K op) := by
  intro pins s σ H x y vv uu Q I rx ry h
  obtain ⟨v, w, b, h, M, rh, rv, rw', e, q⟩ := h
  have hu4 : X.A.units + 64 < cLine := by omega
  have data : ∀ (v w : SV), Rep X.K H M v x → Rep X.K H M w y → (v.fit 30 && w.fit 30) = true → Dp X.K H x v.pd ∧ Dp X.K H y w.pd ∧ SeqAt.shaped v.pd = true ∧ SeqAt.shaped w.pd = true := by
    intro v w rv rw' f
    rw [Bool.and_eq_true] at f
    exact ⟨rv.dp 30 _ _ f.1, rw'.dp 30 _ _ f.2, fit_shaped f.1, fit_shaped f.2⟩
  cases op with
  | lt =>
    cases v <;> first | (cases e; done) | skip
    cases w <;> first | (cases e; done) | skip
    cases rv; cases rw'; cases e
    exact op_lt pins s σ H _ _ vv uu Q I rx ry ⟨_, _, rfl, rfl, q⟩
  | le =>
    cases v <;> first | (cases e; done) | skip
    cases w <;> first | (cases e; done) | skip
    cases rv; cases rw'; cases e
    exact op_le pins s σ H _ _ vv uu Q I rx ry ⟨_, _, rfl, rfl, q⟩
  | gt =>
    cases v <;> first | (cases e; done) | skip
    cases w <;> first | (cases e; done) | skip
    cases rv; cases rw'; cases e
    exact op_gt pins s σ H _ _ vv uu Q I rx ry ⟨_, _, rfl, rfl, q⟩
  | ge =>
    cases v <;> first | (cases e; done) | skip
    cases w <;> first | (cases e; done) | skip
    cases rv; cases rw'; cases e
    exact op_ge pins s σ H _ _ vv uu Q I rx ry ⟨_, _, rfl, rfl, q⟩
  | is =>
    by_cases hw : w = .non
    · subst hw
      have e' : some (decide (v = .non)) = some b := by cases v <;> exact e
      cases e'
      cases rw'
      exact op_isN pins s σ H _ _ vv uu Q I rx ry ⟨rfl, by rw [rv.non_iff]; exact q⟩
    · cases w with
      | non => exact absurd rfl hw
      | bl c =>
        cases v <;> first | (cases e; done) | skip
        cases rv; cases rw'; cases e
        exact op_is_bl pins s σ H _ _ vv uu Q I rx ry ⟨_, _, rfl, rfl, q⟩
      | _ => cases v <;> cases e
  | isNot =>
    by_cases hw : w = .non
    · subst hw
      have e' : some (!decide (v = .non)) = some b := by cases v <;> exact e
      cases e'
      cases rw'
      exact op_notN pins s σ H _ _ vv uu Q I rx ry ⟨rfl, by rw [rv.non_iff]; exact q⟩
    · cases w with
      | non => exact absurd rfl hw
      | bl c =>
        cases v <;> first | (cases e; done) | skip
        cases rv; cases rw'; cases e
        exact op_notBl pins s σ H _ _ vv uu Q I rx ry ⟨_, _, rfl, rfl, q⟩
      | _ => cases v <;> cases e
  | eq =>
    by_cases hs : (∃ i j, v = .str i ∧ w = .str j)
    · obtain ⟨i, j, rfl, rfl⟩ := hs
      cases rv; cases rw'; cases e
      refine op_eq pins s σ H _ _ vv uu Q I rx ry ⟨rfl, ?_⟩
      have d : decide (V.str i = V.str j) = decide (i = j) := by rw [decide_eq_decide]; simp
      rw [d]
      exact q
    · have e' : (if (v.fit 30 && w.fit 30) = true then some (veq v w) else none) = some b := by
        cases v <;> cases w <;> first | exact e | exact absurd ⟨_, _, rfl, rfl⟩ hs
      obtain ⟨c, rfl⟩ := ifs e'
      obtain ⟨d1, d2, d3, d4⟩ := data v w rv rw' c
      exact op_eqD hu4 pins s σ H _ _ vv uu Q I rx ry ⟨_, _, d1, d2, d3, d4, q⟩
  | ne =>
    by_cases hs : (∃ i j, v = .str i ∧ w = .str j)
    · obtain ⟨i, j, rfl, rfl⟩ := hs
      cases rv; cases rw'; cases e
      refine op_ne pins s σ H _ _ vv uu Q I rx ry ⟨rfl, ?_⟩
      have d : decide (V.str i = V.str j) = decide (i = j) := by rw [decide_eq_decide]; simp
      rw [d]
      exact q
    · have e' : (if (v.fit 30 && w.fit 30) = true then some (!veq v w) else none) = some b := by
        cases v <;> cases w <;> first | exact e | exact absurd ⟨_, _, rfl, rfl⟩ hs
      obtain ⟨c, rfl⟩ := ifs e'
      obtain ⟨d1, d2, d3, d4⟩ := data v w rv rw' c
      exact op_neD hu4 pins s σ H _ _ vv uu Q I rx ry ⟨_, _, d1, d2, d3, d4, q⟩
  | mem =>
    cases w with
    | tup xs =>
      obtain ⟨c, rfl⟩ := ifs (show (if (v.fit 30 && (SV.tup xs).fit 30) = true then some (xs.any fun x => veq x v) else none) = some b by cases v <;> exact e)
      obtain ⟨d1, d2, d3, d4⟩ := data v (.tup xs) rv rw' c
      unfold SV.pd at d2 d4
      refine op_inT hu pins s σ H _ _ vv uu Q I rx ry ⟨_, _, d1, d2, d3, d4, ?_⟩
      rw [any_pd, Bool.false_xor]
      exact q
    | lst xs =>
      obtain ⟨c, rfl⟩ := ifs (show (if (v.fit 30 && (SV.lst xs).fit 30) = true then some (xs.any fun x => veq x v) else none) = some b by cases v <;> exact e)
      obtain ⟨d1, d2, d3, d4⟩ := data v (.lst xs) rv rw' c
      unfold SV.pd at d2 d4
      refine op_inD hu pins s σ H _ _ vv uu Q I rx ry ⟨_, _, d1, d2, d3, d4, ?_⟩
      rw [any_pd]
      exact q
    | _ => cases v <;> cases e
  | notMem =>
    cases w with
    | tup xs =>
      obtain ⟨c, rfl⟩ := ifs (show (if (v.fit 30 && (SV.tup xs).fit 30) = true then some (!xs.any fun x => veq x v) else none) = some b by cases v <;> exact e)
      obtain ⟨d1, d2, d3, d4⟩ := data v (.tup xs) rv rw' c
      unfold SV.pd at d2 d4
      refine op_notInT hu pins s σ H _ _ vv uu Q I rx ry ⟨_, _, d1, d2, d3, d4, ?_⟩
      rw [any_pd, Bool.true_xor]
      exact q
    | lst xs =>
      obtain ⟨c, rfl⟩ := ifs (show (if (v.fit 30 && (SV.lst xs).fit 30) = true then some (!xs.any fun x => veq x v) else none) = some b by cases v <;> exact e)
      obtain ⟨d1, d2, d3, d4⟩ := data v (.lst xs) rv rw' c
      unfold SV.pd at d2 d4
      refine op_notInD hu pins s σ H _ _ vv uu Q I rx ry ⟨_, _, d1, d2, d3, d4, ?_⟩
      rw [any_pd]
      exact q
    | _ => cases v <;> cases e
end
end Ws
end

section
set_option Elab.async false
set_option linter.all false
set_option maxRecDepth 100000
set_option autoImplicit false
/-! Operations on values: truth, items, slices, what a list's length is, dicts. -/
namespace Ws
open PySem PySem.Spec PyProof.Rows L2

section
variable {K : PySem.W.Frag} {H : Hp} {M : Ms} {h : SH}
/-- a sequence, as it is read -/
theorem Rep.tup_inv {xs : List SV} {x : V} (r : Rep K H M (.tup xs) x) : ∃ a vs, x = .ref a ∧ Tp K H M a vs ∧ RepL K H M xs vs := by cases r; exact ⟨_, _, rfl, ‹_›, ‹_›⟩
theorem Rep.lst_inv {xs : List SV} {x : V} (r : Rep K H M (.lst xs) x) : ∃ a vs, x = .ref a ∧ Lp K H M a vs ∧ RepL K H M xs vs := by cases r; exact ⟨_, _, rfl, ‹_›, ‹_›⟩
theorem Rep.ref_inv {n : Nat} {x : V} (r : Rep K H M (.ref n) x) : ∃ a, x = .ref a ∧ M.c[n]? = some a := by cases r; exact ⟨_, rfl, ‹_›⟩
theorem RH.lst {n : Nat} {a : Addr} {xs : List SV} (r : RH K H M h) (hm : M.c[n]? = some a) (hn : h[n]? = some (.lst xs)) : ∃ vs, H a = some (.lst vs) ∧ RepL K H M xs vs := by
  obtain ⟨o, u, e1, e2, e3⟩ := r.cell hm
  rw [hn] at e1
  cases e1
  cases e3
  exact ⟨_, e2, ‹_›⟩
theorem RH.dct {n : Nat} {a : Addr} {kvs : List (SV × SV)} (r : RH K H M h) (hm : M.c[n]? = some a) (hn : h[n]? = some (.dct kvs)) : ∃ ps, H a = some (.dK ps) ∧ RepK K H M kvs ps := by
  obtain ⟨o, u, e1, e2, e3⟩ := r.cell hm
  rw [hn] at e1
  cases e1
  cases e3
  exact ⟨_, e2, ‹_›⟩
/-- what a walk over v sees -/
theorem items_rep {v : SV} {x : V} {xs : List SV} (r : RH K H M h) (rv : Rep K H M v x) (e : itemsOf h v = some xs) : ∃ a vs, x = .ref a ∧ (SqL K H a vs ∨ SqT K H a vs) ∧ RepL K H M xs vs := by
  cases v with
  | tup ys =>
    cases e
    obtain ⟨a, vs, rfl, t, l⟩ := rv.tup_inv
    exact ⟨a, vs, rfl, .inr t.sq, l⟩
  | lst ys =>
    cases e
    obtain ⟨a, vs, rfl, t, l⟩ := rv.lst_inv
    exact ⟨a, vs, rfl, .inl t.sq, l⟩
  | ref n =>
    obtain ⟨a, rfl, hm⟩ := rv.ref_inv
    simp only [itemsOf] at e
    split at e
    · cases e
      rename_i hn
      obtain ⟨vs, e1, l⟩ := r.lst hm hn
      exact ⟨a, vs, rfl, .inl (.inl (.inl e1)), l⟩
    · cases e
  | _ => cases e
theorem items_list {v : SV} {x : V} {xs : List SV} (r : RH K H M h) (rv : Rep K H M v x) (e : itemsOf h v = some xs) (nt : ∀ ys, v ≠ .tup ys) : ∃ a vs, x = .ref a ∧ SqL K H a vs ∧ RepL K H M xs vs := by
  cases v with
  | tup ys => exact absurd rfl (nt ys)
  | lst ys =>
    cases e
    obtain ⟨a, vs, rfl, t, l⟩ := rv.lst_inv
    exact ⟨a, vs, rfl, t.sq, l⟩
  | ref n =>
    obtain ⟨a, rfl, hm⟩ := rv.ref_inv
    simp only [itemsOf] at e
    split at e
    · cases e
      rename_i hn
      obtain ⟨vs, e1, l⟩ := r.lst hm hn
      exact ⟨a, vs, rfl, .inl (.inl e1), l⟩
    · cases e
  | _ => cases e

theorem tru_rep {v : SV} {x : V} {b : Bool} (r : RH K H M h) (rv : Rep K H M v x) (e : truthOf h v = some b) : TruV K x H b := by
  cases v with
  | non => cases rv; cases e; exact rfl
  | bl c => cases rv; cases e; exact rfl
  | int i => cases rv; cases e; exact rfl
  | tup xs =>
    cases e
    obtain ⟨a, vs, rfl, t, l⟩ := rv.tup_inv
    exact .inr (.inl ⟨vs, t.sq, by rw [l.nil_iff]⟩)
  | lst xs =>
    cases e
    obtain ⟨a, vs, rfl, t, l⟩ := rv.lst_inv
    exact .inl ⟨vs, t.sq, by rw [l.nil_iff]⟩
  | ref n =>
    obtain ⟨a, rfl, hm⟩ := rv.ref_inv
    simp only [truthOf] at e
    split at e
    · cases e
      rename_i hn
      obtain ⟨vs, e1, l⟩ := r.lst hm hn
      exact .inl ⟨vs, .inl (.inl e1), by rw [l.nil_iff]⟩
    · cases e
  | _ => cases e

/-! ### items -/
theorem RepL.at_ {xs : List SV} {vs : List V} {i : Int} {z : SV} (l : RepL K H M xs vs) (e : itemAt xs i = some z) : ∃ x, atI vs i = some x ∧ Rep K H M z x := by
  unfold itemAt atI at *
  obtain ⟨j, e1, e2⟩ := Option.bind_eq_some_iff.mp e
  obtain ⟨x, e3, r⟩ := l.get e2
  exact ⟨x, by rw [← l.length, e1]; exact e3, r⟩
theorem keyOf_inj {a b : SV} {q : Key} (ha : keyOf a = some q) (hb : keyOf b = some q) : a = b := by
  cases a <;> cases b <;> simp only [keyOf, Option.some.injEq, reduceCtorEq] at ha hb <;> subst ha <;> simp_all
theorem keyOf_kV {a : SV} {q : Key} {x : V} (ha : keyOf a = some q) (r : Rep K H M a x) : x = kV q := by
  cases a with
  | int i => cases r; cases ha; rfl
  | str i => cases r; cases ha; rfl
  | _ => cases ha
theorem keyOf_flat {a : SV} (ha : a.flat = true) : ∃ q, keyOf a = some q := by
  cases a with
  | int i => exact ⟨_, rfl⟩
  | str i => exact ⟨_, rfl⟩
  | _ => cases ha
theorem key_dec {a b : SV} {p q : Key} (ha : keyOf a = some p) (hb : keyOf b = some q) : decide (a = b) = decide (p = q) := by
  rw [decide_eq_decide]
  constructor
  · rintro rfl
    rw [ha] at hb
    exact Option.some.inj hb
  · rintro rfl
    exact keyOf_inj ha hb
theorem RepK.find {k : SV} {q : Key} (hk : keyOf k = some q) : ∀ {kvs : List (SV × SV)} {ps : List (Key × V)} {z : SV}, RepK K H M kvs ps → find kvs k = some z → ∃ x, valV ps q = some x ∧ Rep K H M z x
  | _, _, _, .nil, e => by simp [Ws.find] at e
  | _, _, z, .cons (k := k') (x := x') (q := q') (v := v) (xs := xs) (vs := vs) hk' r rs, e => by
    have d := key_dec hk' hk
    by_cases h : q' = q
    · rw [decide_eq_true h] at d
      have e' : Ws.find ((k', x') :: xs) k = some x' := by simp only [Ws.find, List.find?_cons, d, Option.map_some]
      rw [e'] at e
      cases e
      exact ⟨v, valV_pos h, r⟩
    · rw [decide_eq_false h] at d
      have e' : Ws.find ((k', x') :: xs) k = Ws.find xs k := by simp only [Ws.find, List.find?_cons, d]
      rw [e'] at e
      obtain ⟨x, e1, r1⟩ := RepK.find hk rs e
      exact ⟨x, by rw [valV_neg h]; exact e1, r1⟩
theorem RepK.any {k : SV} {q : Key} (hk : keyOf k = some q) : ∀ {kvs : List (SV × SV)} {ps : List (Key × V)}, RepK K H M kvs ps → (kvs.any fun p => decide (p.1 = k)) = ps.any fun p => decide (p.1 = q)
  | _, _, .nil => rfl
  | _, _, .cons hk' r rs => by
    rw [List.any_cons, List.any_cons, RepK.any hk rs]
    show (decide _ || _) = (decide _ || _)
    rw [key_dec hk' hk]
theorem RepK.map_put {k z : SV} {q : Key} {x : V} (hk : keyOf k = some q) (rz : Rep K H M z x) : ∀ {kvs : List (SV × SV)} {ps : List (Key × V)}, RepK K H M kvs ps →
    RepK K H M (kvs.map fun p => if p.1 = k then (p.1, z) else p) (ps.map fun p => if p.1 = q then (p.1, x) else p)
  | _, _, .nil => .nil
  | _, _, .cons (k := k') (q := q') hk' r rs => by
    have d := key_dec hk' hk
    rw [List.map_cons, List.map_cons]
    by_cases h : q' = q
    · have h' : k' = k := of_decide_eq_true (d.trans (decide_eq_true h))
      rw [if_pos h, if_pos h']
      exact .cons hk' rz (RepK.map_put hk rz rs)
    · have h' : ¬ k' = k := of_decide_eq_false (d.trans (decide_eq_false h))
      rw [if_neg h, if_neg h']
      exact .cons hk' r (RepK.map_put hk rz rs)
theorem RepK.append : ∀ {kvs kws : List (SV × SV)} {ps qs : List (Key × V)}, RepK K H M kvs ps → RepK K H M kws qs → RepK K H M (kvs ++ kws) (ps ++ qs)
  | _, _, _, _, .nil, s => s
  | _, _, _, _, .cons h q r, s => .cons h q (RepK.append r s)
theorem RepK.put {k z : SV} {q : Key} {x : V} (hk : keyOf k = some q) (rz : Rep K H M z x) {kvs : List (SV × SV)} {ps : List (Key × V)} (r : RepK K H M kvs ps) : RepK K H M (putV kvs k z) (putK ps q x) := by
  unfold putV putK
  rw [r.any hk]
  split
  · exact r.map_put hk rz
  · exact r.append (.cons hk rz .nil)
theorem RepK.length : ∀ {kvs : List (SV × SV)} {ps : List (Key × V)}, RepK K H M kvs ps → kvs.length = ps.length
  | _, _, .nil => rfl
  | _, _, .cons _ _ r => congrArg Nat.succ (RepK.length r)
end

/-! ### a written dict with ints -/
section
variable {X : Cx} {K : PySem.W.Frag} {a : Addr} {ks : List Int} {vs : List V}
theorem find_zip {k : Int} {z : SV} : ∀ {ks : List Int} {xs : List SV}, find ((ks.map SV.int).zip xs) (.int k) = some z → ∃ i : Nat, ks[i]? = some k ∧ xs[i]? = some z ∧ ∀ j : Nat, j < i → ks[j]? ≠ some k
  | [], _, e => by simp [find] at e
  | _ :: _, [], e => by simp [find] at e
  | q :: ks, x :: xs, e => by
    by_cases h : q = k
    · subst h
      have e' : find (((q :: ks).map SV.int).zip (x :: xs)) (.int q) = some x := by simp [find]
      rw [e'] at e
      cases e
      exact ⟨0, rfl, rfl, fun j hj => absurd hj (Nat.not_lt_zero j)⟩
    · have e' : find (((q :: ks).map SV.int).zip (x :: xs)) (.int k) = find ((ks.map SV.int).zip xs) (.int k) := by
        have : ¬ (SV.int q = SV.int k) := fun z => h (SV.int.inj z)
        simp [find, List.find?_cons, this]
      rw [e'] at e
      obtain ⟨i, e1, e2, e3⟩ := find_zip e
      refine ⟨i + 1, e1, e2, fun j hj => ?_⟩
      cases j with
      | zero => exact fun z => h (Option.some.inj z)
      | succ j => exact e3 j (by omega)
theorem isInt_key {e : DictEntry} {q k : Int} (h : ∃ t, e.key = .int q t) : Value.isInt k e.key = decide (q = k) := by
  obtain ⟨t, h⟩ := h
  rw [h]
  rfl
theorem paired_find {k : Int} : ∀ {ks : List Int} {vs : List V} {es : List DictEntry} {i : Nat} {v : V},
    Paired (fun (p : Int × V) (e : DictEntry) => (∃ t, e.key = .int p.1 t) ∧ e.hash = hashInt p.1 ∧ RelV p.2 e.val) (ks.zip vs) es → ks[i]? = some k → vs[i]? = some v → (∀ j : Nat, j < i → ks[j]? ≠ some k) →
    ∃ u, (es.find? fun d => Value.isInt k d.key).map (·.val) = some u ∧ RelV v u
  | [], _, _, _, _, _, e, _, _ => by simp at e
  | _ :: _, [], _, _, _, _, _, e, _ => by simp at e
  | q :: ks, v' :: vs, es, i, v, p, e1, e2, n => by
    cases p with
    | cons p ps =>
      obtain ⟨p1, _, p3⟩ := p
      have d := isInt_key (k := k) p1
      cases i with
      | zero =>
        cases e1
        cases e2
        refine ⟨_, ?_, p3⟩
        rw [List.find?_cons, d]
        simp
      | succ i =>
        have ne : ¬ q = k := fun z => n 0 (Nat.succ_pos i) (by rw [z]; rfl)
        obtain ⟨u, h1, h2⟩ := paired_find ps e1 e2 fun j hj => n (j + 1) (by omega)
        refine ⟨u, ?_, h2⟩
        rw [List.find?_cons, d, decide_eq_false ne]
        exact h1
theorem paired_keys : ∀ {l : List (Int × V)} {es : List DictEntry}, Paired (fun (p : Int × V) (e : DictEntry) => (∃ t, e.key = .int p.1 t) ∧ e.hash = hashInt p.1 ∧ RelV p.2 e.val) l es →
    ∀ e ∈ es, ∃ k, Value.isInt k e.key = true ∧ e.hash = hashInt k
  | _, _, .nil, _, h => nomatch h
  | _, _, .cons (a := p) (b := d) h r, e, he => by
    rcases List.mem_cons.mp he with q | q
    · subst q
      exact ⟨p.1, by rw [isInt_key h.1]; simp, h.2.1⟩
    · exact paired_keys r e q
end
end Ws
end

section
set_option Elab.async false
set_option linter.all false
set_option maxRecDepth 100000
set_option autoImplicit false
/-! Operations on values: o[i], o[i:j], o[i] = v, the built-in functions. -/
namespace Ws
open PySem PySem.Spec PyProof.Rows L2
section
variable {X : Cx}

theorem ix_any (hu : X.A.units + 1 < cLine) : IxR X (rB X.K fun h v i => itemV v i h) := by
  rintro value slice pins s σ H x y vv uu Q I rx ry ⟨v, w, z, h, M, rh, rv, rw', e, g⟩ hs
  cases v with
  | tup xs =>
    obtain ⟨a, vs, rfl, t, l⟩ := rv.tup_inv
    cases w <;> simp only [itemV, reduceCtorEq] at e
    cases rw'
    obtain ⟨p, e1, r⟩ := l.at_ e
    exact ix_tup value slice pins s σ H _ _ vv uu Q I rx ry ⟨a, vs, _, p, rfl, rfl, t.sq, e1, g.at rh r⟩ hs
  | lst xs =>
    obtain ⟨a, vs, rfl, t, l⟩ := rv.lst_inv
    cases w <;> simp only [itemV, reduceCtorEq] at e
    cases rw'
    obtain ⟨p, e1, r⟩ := l.at_ e
    exact ix_list value slice pins s σ H _ _ vv uu Q I rx ry ⟨a, vs, _, p, rfl, rfl, t.sq, e1, g.at rh r⟩ hs
  | ref n =>
    obtain ⟨a, rfl, hm⟩ := rv.ref_inv
    simp only [itemV] at e
    split at e
    · rename_i xs hn
      obtain ⟨vs, hH, l⟩ := rh.lst hm hn
      cases w <;> simp only [reduceCtorEq] at e
      cases rw'
      obtain ⟨p, e1, r⟩ := l.at_ e
      exact ix_list value slice pins s σ H _ _ vv uu Q I rx ry ⟨a, vs, _, p, rfl, rfl, .inl (.inl hH), e1, g.at rh r⟩ hs
    · rename_i kvs hn
      obtain ⟨ps, hH, l⟩ := rh.dct hm hn
      split at e
      · rename_i hf
        obtain ⟨q, hk⟩ := keyOf_flat hf
        obtain ⟨p, e1, r⟩ := l.find hk e
        obtain rfl := keyOf_kV hk rw'
        obtain rfl : vv = Value.ref a := rx
        have dg : DGet H a (kV q) (some p) := by
          rw [← e1]
          exact DGet.k hH
        exact tail_any (dict_typeIs I dg) PySem.F.slot_dict_getitem.lookup (d_getItem hu I dg ry fun w' s3 I3 r3 => ⟨p, H, I3, r3, g.at rh r⟩) hs
      · cases e
    · cases e
  | dct kvs =>
    cases w <;> simp only [itemV, reduceCtorEq] at e
    rename_i k
    cases rw'
    cases rv with
    | dW kd hl l =>
      obtain ⟨i, e1, e2, e3⟩ := find_zip e
      obtain ⟨es, n, hK, pk⟩ := kd
      obtain ⟨p, e4, r⟩ := l.get e2
      obtain ⟨u, e5, ru⟩ := paired_find pk e1 e4 e3
      rename_i a ks xs vs
      obtain rfl : vv = Value.ref a := rx
      obtain ⟨t, rfl⟩ := ry
      have hm : s.heap.MapOf (intKind X.prog X.w) a (fun k => findBy Value.isInt es k) :=
        ⟨_, es, n, I.kIn _ _ hK, ⟨rfl, rfl, rfl⟩, rfl, fun e he => paired_keys pk e (Array.mem_toList_iff.mpr he), fun _ => rfl⟩
      have hf : findBy Value.isInt es k = some u := by
        obtain ⟨es⟩ := es
        unfold findBy
        rw [List.find?_toArray]
        exact e5
      exact tail_any hm.typeIs PySem.F.slot_dict_getitem.lookup (wpAny_getItem_of (show (intKind X.prog X.w).is k (.int k t) = true from by show (k == k) = true; simp) hm hf ⟨p, H, I.tok _, ru, g.at rh r⟩) hs
  | _ => cases w <;> simp only [itemV, reduceCtorEq] at e

theorem cutL_rep {H : Hp} {M : Ms} {xs : List SV} {vs : List V} (l : RepL X.K H M xs vs) (lo hi : Option Int) : RepL X.K H M (cutL xs lo hi) (cutV vs lo hi) := by
  unfold cutL cutV
  rw [l.length]
  exact (l.drop _).take _
/-- a slice's reading -/
def rSl (K : PySem.W.Frag) : V → Option Int → Option Int → Hp → VK → Prop := fun x lo hi H Q => ∃ v z h M, RH K H M h ∧ Rep K H M v x ∧ sliceV v lo hi h = some z ∧ Give K z h H M Q
theorem sl_any : SlR X (rSl X.K) := by
  rintro pins s σ H x vv vl vu lo hi sl Q I rx hs pl pu ⟨v, z, h, M, rh, rv, e, g⟩
  cases v with
  | tup xs =>
    obtain ⟨a, vs, rfl, t, l⟩ := rv.tup_inv
    simp only [sliceV] at e
    obtain ⟨c, rfl⟩ := ifs e
    refine sl_tup pins s σ H _ vv vl vu lo hi sl Q I rx hs pl pu ⟨a, vs, rfl, t.sq, ?_, fun p hp => g.tup rh (cutL_rep l lo hi) p hp⟩
    rw [← l.length]
    rintro ⟨c1, c2⟩
    unfold partB at c
    rw [decide_eq_true c1, decide_eq_true c2] at c
    cases c
  | lst xs =>
    obtain ⟨a, vs, rfl, t, l⟩ := rv.lst_inv
    simp only [sliceV] at e
    cases e
    exact sl_list pins s σ H _ vv vl vu lo hi sl Q I rx hs pl pu ⟨a, vs, rfl, t.sq, fun p hp => g.lst rh (cutL_rep l lo hi) p hp⟩
  | ref n =>
    obtain ⟨a, rfl, hm⟩ := rv.ref_inv
    simp only [sliceV] at e
    split at e
    · rename_i xs hn
      obtain ⟨vs, hH, l⟩ := rh.lst hm hn
      cases e
      exact sl_list pins s σ H _ vv vl vu lo hi sl Q I rx hs pl pu ⟨a, vs, rfl, .inl (.inl hH), fun p hp => g.lst rh (cutL_rep l lo hi) p hp⟩
    · cases e
  | _ => simp only [sliceV, reduceCtorEq] at e

/-- a store into a cell -/
def rSet (K : PySem.W.Frag) : TSet := fun o i v H Q => ∃ so si sv h h2 M, RH K H M h ∧ Rep K H M so o ∧ Rep K H M si i ∧ Rep K H M sv v ∧ setIxH so si sv h = some h2 ∧
  ∀ H' M', Evo H M H' M' → RH K H' M' h2 → Q H'
theorem set_any (hu : X.A.units + 1 < cLine) : PSet X (rSet X.K) := by
  rintro pins s σ H o i v ov iv u Q I ro ri rv ⟨so, si, sv, h, h2, M, rh, r1, r2, r3, e, g⟩
  cases so with
  | ref n =>
    obtain ⟨a, rfl, hm⟩ := r1.ref_inv
    have ha : a ∈ M.c := List.mem_of_getElem? hm
    simp only [setIxH] at e
    split at e
    · rename_i xs hn
      obtain ⟨vs, hH, l⟩ := rh.lst hm hn
      cases si <;> simp only [reduceCtorEq] at e
      rename_i k
      cases r2
      split at e
      · rename_i j hj
        cases e
        rw [l.length] at hj
        exact set_list pins s σ H _ _ v ov iv u Q I ro ri rv ⟨a, vs, k, j, rfl, rfl, hH, hj, g _ M (Evo.write rh ha) (RH.write rh hm (.lst (l.set r3 j)))⟩
      · cases e
    · rename_i kvs hn
      obtain ⟨ps, hH, l⟩ := rh.dct hm hn
      obtain ⟨c, rfl⟩ := ifs e
      rw [Bool.and_eq_true] at c
      obtain ⟨q, hk⟩ := keyOf_flat c.1
      obtain rfl := keyOf_kV hk r2
      have hl : ps.length < sizeLine := by
        rw [← l.length, sizeLine_eq]
        exact of_decide_eq_true c.2
      obtain rfl : ov = Value.ref a := ro
      exact d_setItem hu I (DPut.k hH hl) ri rv fun s4 I4 => ⟨_, I4, g _ M (Evo.write rh ha) (RH.write rh hm (.dK (l.put hk r3)))⟩
    · cases e
  | _ => simp only [setIxH, reduceCtorEq] at e

/-! ### l.append(x), l.extend(x) -/
end
end Ws
end

section
set_option Elab.async false
set_option linter.all false
set_option maxRecDepth 100000
set_option autoImplicit false
/-! Operations on values: the built-in functions. -/
namespace Ws
open PySem PySem.Spec PyProof.Rows L2

mutual
theorem fit_nodict : ∀ (n : Nat) (x : SV), x.fit n = true → x.pd.hasDict = false
  | _, .non, _ => by simp [SV.pd, PyData.hasDict]
  | _, .bl b, _ => by simp [SV.pd, PyData.hasDict]
  | _, .int i, _ => by simp [SV.pd, PyData.hasDict]
  | _, .str x, h => by simp [SV.pd, PyData.hasDict]
  | 0, .tup xs, h => by simp [SV.fit] at h
  | n + 1, .tup xs, h => by
    unfold SV.pd PyData.hasDict
    exact fitL_nodict n xs (by simpa [SV.fit] using h)
  | 0, .lst xs, h => by simp [SV.fit] at h
  | n + 1, .lst xs, h => by
    unfold SV.pd PyData.hasDict
    exact fitL_nodict n xs (by simpa [SV.fit] using h)
  | _, .dct _, h => by simp [SV.fit] at h
  | _, .ref _, h => by simp [SV.fit] at h
theorem fitL_nodict : ∀ (n : Nat) (xs : List SV), (∀ x ∈ xs, x.fit n = true) → PyData.hasDictAll (SV.pdL xs) = false
  | _, [], _ => by simp [SV.pdL, PyData.hasDictAll]
  | n, x :: xs, h => by
    have a := fit_nodict n x (h x List.mem_cons_self)
    have c := fitL_nodict n xs fun y hy => h y (List.mem_cons_of_mem _ hy)
    unfold SV.pdL PyData.hasDictAll
    rw [a, c]
    rfl
end

/-- a built-in's value -/
def biVal : BI → Value
  | .len => .builtin "len"
  | .sum => .builtin "sum"
  | .all => .builtin "all"
  | .any => .builtin "any"
  | .tuple => .type "tuple"
  | .list => .type "list"
  | .int => .type "int"
  | .abs => .builtin "abs"
  | .max1 => .builtin "max"
  | .max2 => .builtin "max"
  | .min2 => .builtin "min"
  | .repr => .builtin "repr"
  | .isInt => .builtin "isinstance"
  | .isBool => .builtin "isinstance"
  | .isTuple => .builtin "isinstance"
  | .isStr => .builtin "isinstance"
def biTy : BI → Option String
  | .isInt => some "int"
  | .isBool => some "bool"
  | .isTuple => some "tuple"
  | .isStr => some "str"
  | _ => none
/-- its reading; of isinstance: a class stands behind -/
def rBi (K : PySem.W.Frag) (b : BI) : List V → Hp → VK → Prop := fun xs H Q => ∃ vs z h M, RH K H M h ∧ RepL K H M vs xs ∧ builtin h b vs = some z ∧ Give K z h H M Q
section
variable {K : PySem.W.Frag} {H : Hp} {M : Ms} {h : SH}
theorem RepL.one {v : SV} {xs : List V} (r : RepL K H M [v] xs) : ∃ x, xs = [x] ∧ Rep K H M v x := by
  cases r with
  | cons a b =>
    cases b
    exact ⟨_, rfl, a⟩
theorem RepL.two {v w : SV} {xs : List V} (r : RepL K H M [v, w] xs) : ∃ x y, xs = [x, y] ∧ Rep K H M v x ∧ Rep K H M w y := by
  cases r with
  | cons a b =>
    cases b with
    | cons c d =>
      cases d
      exact ⟨_, _, rfl, a, c⟩
theorem list_rep {v : SV} {x : V} {xs : List SV} (r : RH K H M h) (rv : Rep K H M v x) (e : listOf h v = some xs) : ∃ a vs, x = .ref a ∧ SqL K H a vs ∧ RepL K H M xs vs := by
  cases v with
  | tup ys => cases e
  | _ => exact items_list r rv e (fun _ z => nomatch z)
theorem asInt_rep {v : SV} {x : V} {i : Int} (rv : Rep K H M v x) (e : asInt v = some i) : x = .int i := by
  cases v with
  | int j => cases e; cases rv; rfl
  | _ => cases e
theorem asInt_eq {v : SV} {i : Int} (e : asInt v = some i) : v = .int i := by
  cases v with
  | int j => cases e; rfl
  | _ => cases e
theorem ty_rep {v : SV} {x : V} {n : String} (r : RH K H M h) (rv : Rep K H M v x) (e : tyName h v = some n) : TyX K H x (.type n) := by
  cases v with
  | non => cases e; cases rv; exact .base .non
  | bl b => cases e; cases rv; exact .base (.bl b)
  | int i => cases e; cases rv; exact .base (.int i)
  | str y => cases e; cases rv; exact .base (.str y)
  | tup xs =>
    cases e
    obtain ⟨a, vs, rfl, t, l⟩ := rv.tup_inv
    rcases t with ⟨_, z | ⟨o, z⟩⟩ | ⟨o, its, k, z, c, _⟩
    · exact .base (.tup z)
    · exact .fTuple z
    · exact .kTuple z c
  | lst xs =>
    cases e
    obtain ⟨a, vs, rfl, t, l⟩ := rv.lst_inv
    rcases t with ⟨_, z | ⟨o, z⟩⟩ | ⟨its, k, z, c, _⟩
    · exact .base (.lst z)
    · exact .base (.frz z)
    · exact .kList z rfl
  | dct kvs =>
    cases e
    cases rv with
    | dW kd _ _ =>
      obtain ⟨es, n, z, _⟩ := kd
      exact .kDict z rfl
  | ref n =>
    obtain ⟨a, rfl, hm⟩ := rv.ref_inv
    obtain ⟨o, u, e1, e2, e3⟩ := r.cell hm
    simp only [tyName, e1] at e
    cases e3 with
    | lst _ => cases e; exact .base (.lst e2)
    | dK _ => cases e; exact .base (.dK e2)
    | dT _ => cases e; exact .base (.dT e2)
end
theorem one_ok (K : PySem.W.Frag) {n : String} {h : SH} {v : SV} (e : tyName h v = some n) : ∀ T ∈ ["int", "bool", "tuple", "str"], PySem.W.kitOne K (.type n) (.type T) = some (isOne T n) := by
  have hn : n ∈ ["NoneType", "bool", "int", "str", "tuple", "list", "dict"] := by
    cases v with
    | ref k =>
      simp only [tyName] at e
      split at e <;> first | (cases e; simp; done) | cases e
    | _ => cases e; simp
  intro T hT
  simp only [List.mem_cons, List.not_mem_nil, or_false] at hT hn
  rcases hT with rfl | rfl | rfl | rfl <;> rcases hn with rfl | rfl | rfl | rfl | rfl | rfl | rfl <;> first | rfl | (unfold PySem.W.kitOne; rw [if_neg (by decide)]; rfl)
section
variable {X : Cx}
/-- max of a tuple of ints -/
theorem call_maxT (hc : X.calm = true) (hu : X.A.units + 1 < cLine) : CallR X (.builtin "max") (fun xs H Q => ∃ (a : Addr) (n : Int) (ns : List Int), xs = [.ref a] ∧ SqT X.K H a ((n :: ns).map V.int) ∧ Q (.int (maxF n ns)) H) := by
  rintro pins s σ H xs us Q I r ⟨a, n, ns, rfl, hT, q⟩
  obtain ⟨u, rfl, ru⟩ := vals1 r
  obtain rfl : u = Value.ref a := ru
  obtain ⟨its, rv, ht, _⟩ := I.tuple hT
  have hd : DpAll X.K H ((n :: ns).map V.int) ((n :: ns).map PySem.W.Datum.toD) := by
    have all : ∀ ms : List Int, DpAll X.K H (ms.map V.int) (ms.map PySem.W.Datum.toD) := by
      intro ms
      induction ms with
      | nil => exact .nil
      | cons m ms ih => exact .cons (.int m) ih
    exact all (n :: ns)
  obtain ⟨as, hr⟩ := Dp.readsAll I _ _ its hd rv
  refine PySem.W.max_tuple_datum (α := Int) (x := n) (xs := ns) (I.ok.hd hc) (show s.heap.IsTuple a its.toArray from ht) ⟨as, hr⟩ (by show X.A.units + 1 + 0 < cLine; omega) ?_
  rintro i v h' tk hi ⟨bs, hb⟩ hk
  have e : PySem.W.maxOf n ns = maxF n ns := rfl
  rw [e] at hb
  cases hb with
  | int _ t => exact ⟨.int (maxF n ns), H, I.kept (t' := tk) hk, ⟨t, rfl⟩, q⟩

theorem call_reprS (hg : X.A.guards = some []) (hu : X.A.units + 64 < cLine) : CallR X (.builtin "repr") (fun xs H Q => ∃ (v : SV) (a : Addr) (M : Ms), xs = [.ref a] ∧ Rep X.K H M v (.ref a) ∧ reprFits v = true ∧ Q (.str v.pd.shown) H) := by
  rintro pins s σ H xs us Q I r ⟨v, a, M, rfl, rv, hf, q⟩
  obtain ⟨u, rfl, ru⟩ := vals1 r
  obtain rfl : u = Value.ref a := ru
  unfold reprFits at hf
  rw [Bool.and_eq_true, Bool.and_eq_true] at hf
  obtain ⟨⟨f1, f2⟩, f3⟩ := hf
  obtain ⟨as, hr⟩ := Dp.reads I v.pd (.ref a) (.ref a) (rv.dp 30 _ _ f1) rfl
  have hd := (fit_lay 30 v f1).2
  refine repr_of_reads' hr f2 (fun z => ?_) hg (by omega) (fun _ _ e => e) (fun h' t tk hk => ⟨.str v.pd.shown, H, I.kept (t' := tk) hk, ⟨t, rfl⟩, q⟩) ?_
  · rw [fit_nodict 30 v f1] at z
    cases z
  · rw [sizeLine_eq]
    exact of_decide_eq_true f3

theorem call_bi (hc : X.calm = true) (hg : X.A.guards = some []) (hu : X.A.units + 65 < cLine) (b : BI) (hb : biTy b = none) : CallR X (biVal b) (rBi X.K b) := by
  rintro pins s σ H xs us Q I r ⟨vs, z, h, M, rh, rv, e, g⟩
  cases vs with
  | nil => cases b <;> cases e
  | cons v vs =>
    cases vs with
    | nil =>
      obtain ⟨x, rfl, rx⟩ := rv.one
      cases b with
      | len =>
        obtain ⟨ys, e1, rfl⟩ := Option.map_eq_some_iff.mp e
        obtain ⟨a, ws, rfl, hs, l⟩ := items_rep rh rx e1
        refine call_len pins s σ H _ us Q I r ⟨_, ys.length, rfl, ?_, g.at rh (.int _)⟩
        rcases hs with hs | hs
        · exact .inl ⟨ws, hs, l.length⟩
        · exact .inr ⟨ws, hs, l.length⟩
      | sum =>
        obtain ⟨ns, e1, rfl⟩ := Option.map_eq_some_iff.mp e
        obtain ⟨ys, e2, e3⟩ := Option.bind_eq_some_iff.mp e1
        obtain ⟨a, ws, rfl, hs, l⟩ := list_rep rh rx e2
        obtain rfl := l.ints e3
        exact cr_sum hc pins s σ H _ us Q I r ⟨a, ns, rfl, hs, g.at rh (.int _)⟩
      | all =>
        obtain ⟨ns, e1, rfl⟩ := Option.map_eq_some_iff.mp e
        obtain ⟨ys, e2, e3⟩ := Option.bind_eq_some_iff.mp e1
        obtain ⟨a, ws, rfl, hs, l⟩ := list_rep rh rx e2
        obtain rfl := l.bls e3
        exact cr_all hc pins s σ H _ us Q I r ⟨a, ns, rfl, hs, g.at rh (.bl _)⟩
      | any =>
        obtain ⟨ns, e1, rfl⟩ := Option.map_eq_some_iff.mp e
        obtain ⟨ys, e2, e3⟩ := Option.bind_eq_some_iff.mp e1
        obtain ⟨a, ws, rfl, hs, l⟩ := list_rep rh rx e2
        obtain rfl := l.bls e3
        exact cr_any hc pins s σ H _ us Q I r ⟨a, ns, rfl, hs, g.at rh (.bl _)⟩
      | tuple =>
        obtain ⟨ys, e1, rfl⟩ := Option.map_eq_some_iff.mp e
        by_cases ht : ∃ zs, v = .tup zs
        · obtain ⟨zs, rfl⟩ := ht
          cases e1
          obtain ⟨a, ws, rfl, t, l⟩ := rx.tup_inv
          exact call_tuple_of pins s σ H _ us Q I r ⟨a, ws, rfl, .inr ⟨t.sq, g.at rh rx⟩⟩
        · obtain ⟨a, ws, rfl, hs, l⟩ := items_list rh rx e1 fun zs q => ht ⟨zs, q⟩
          exact call_tuple_of pins s σ H _ us Q I r ⟨a, ws, rfl, .inl ⟨hs, fun p hp => g.tup rh l p hp⟩⟩
      | list =>
        obtain ⟨ys, e1, rfl⟩ := Option.map_eq_some_iff.mp e
        obtain ⟨a, ws, rfl, hs, l⟩ := items_rep rh rx e1
        exact call_list_of pins s σ H _ us Q I r ⟨a, ws, rfl, hs, fun p hp => g.lst rh l p hp⟩
      | int =>
        cases v with
        | int i =>
          cases e
          cases rx
          exact call_int1 pins s σ H _ us Q I r (.inl ⟨_, rfl, g.at rh (.int _)⟩)
        | bl i =>
          cases e
          cases rx
          exact call_int1 pins s σ H _ us Q I r (.inr ⟨_, rfl, g.at rh (.int _)⟩)
        | _ => cases e
      | abs =>
        obtain ⟨i, e1, rfl⟩ := Option.map_eq_some_iff.mp e
        obtain rfl := asInt_rep rx e1
        exact call_abs pins s σ H _ us Q I r ⟨i, rfl, g.at rh (.int _)⟩
      | max1 =>
        cases v with
        | tup ys =>
          obtain ⟨a, ws, rfl, t, l⟩ := rx.tup_inv
          simp only [builtin] at e
          split at e
          · rename_i n ns e1
            cases e
            obtain rfl := l.ints e1
            exact call_maxT hc (by omega) pins s σ H _ us Q I r ⟨a, n, ns, rfl, t.sq, g.at rh (.int _)⟩
          · cases e
        | _ => cases e
      | repr =>
        cases v with
        | tup ys =>
          obtain ⟨c, rfl⟩ := ifs e
          obtain ⟨a, ws, rfl, _, _⟩ := rx.tup_inv
          exact call_reprS hg (by omega) pins s σ H _ us Q I r ⟨_, a, M, rfl, rx, c, g.at rh (.str _)⟩
        | lst ys =>
          obtain ⟨c, rfl⟩ := ifs e
          obtain ⟨a, ws, rfl, _, _⟩ := rx.lst_inv
          exact call_reprS hg (by omega) pins s σ H _ us Q I r ⟨_, a, M, rfl, rx, c, g.at rh (.str _)⟩
        | _ => cases e
      | max2 => cases e
      | min2 => cases e
      | isInt => cases hb
      | isBool => cases hb
      | isTuple => cases hb
      | isStr => cases hb
    | cons w vs =>
      cases vs with
      | nil =>
        obtain ⟨x, y, rfl, rx, ry⟩ := rv.two
        cases b with
        | max2 =>
          obtain ⟨i, e1, e2⟩ := Option.bind_eq_some_iff.mp e
          obtain ⟨j, e3, rfl⟩ := Option.map_eq_some_iff.mp e2
          obtain rfl := asInt_rep rx e1
          obtain rfl := asInt_rep ry e3
          exact call_max2 hc pins s σ H _ us Q I r ⟨i, j, rfl, g.at rh (.int _)⟩
        | min2 =>
          obtain ⟨i, e1, e2⟩ := Option.bind_eq_some_iff.mp e
          obtain ⟨j, e3, rfl⟩ := Option.map_eq_some_iff.mp e2
          obtain rfl := asInt_rep rx e1
          obtain rfl := asInt_rep ry e3
          exact call_min2 hc pins s σ H _ us Q I r ⟨i, j, rfl, g.at rh (.int _)⟩
        | _ => cases e
      | cons w2 vs => cases b <;> cases e
/-- isinstance(x, T) -/
theorem call_is (b : BI) (T : String) (hb : biTy b = some T) : CallR X (.builtin "isinstance") (fun xs H Q => ∃ x, xs = [x, .ty T] ∧ rBi X.K b [x] H Q) := by
  rintro pins s σ H xs us Q I r ⟨x, rfl, vs, z, h, M, rh, rv, e, g⟩
  have one : ∃ v, vs = [v] := by
    cases rv with
    | cons a c =>
      cases c
      exact ⟨_, rfl⟩
  obtain ⟨v, rfl⟩ := one
  obtain ⟨x', ex, rx⟩ := rv.one
  cases ex
  have e' : (tyName h v).map (fun n => SV.bl (isOne T n)) = some z := by
    cases b <;> cases hb <;> exact e
  obtain ⟨n, e1, rfl⟩ := Option.map_eq_some_iff.mp e'
  have hT : T ∈ ["int", "bool", "tuple", "str"] := by cases b <;> cases hb <;> simp
  exact call_isi pins s σ H _ us Q I r ⟨x, .ty T, _, _, _, rfl, .ty T, ty_rep rh rx e1, one_ok X.K e1 T hT, g.at rh (.bl _)⟩
end
end Ws
end

section
set_option Elab.async false
set_option linter.all false
set_option maxRecDepth 100000
set_option autoImplicit false
/-! Does a core text stand for a piece of the program's text? -/
namespace Ws
open PySem PySem.Spec PyProof.Rows L2

/-- what is told of the program: its defs, the module's constants, the built-in names that it leaves as they are -/
structure Sh where
  f : Nat
  n : Nat
  ks : List Str
  perm : List Nat
  deriving DecidableEq
structure Pt where
  funs : List FT
  globs : List Str
  free : List Str
  shapes : List Sh

def visB (sc : Scope) (x : Str) : Bool := match sc.names.lookup x with
  | some .local => true
  | some .cell => true
  | some .free => true
  | _ => false
def locB (sc : Scope) (x : Str) : Bool := match sc.names.lookup x with
  | some .local => true
  | some .cell => true
  | _ => false
def gloB (sc : Scope) (x : Str) : Bool := match sc.names.lookup x with
  | some .globalImplicit => true
  | _ => false
/-- no name of the compiler's own -/
def nameB (x : Str) : Bool := !(x == ("__debug__" : Str)) && !(x == ("__classdict__" : Str)) && !(x == ("__name__" : Str))
/-- an expression that stands for a value wherever it stands -/
def plainE : Expr → Bool
  | .Starred .. => false
  | .Slice .. => false
  | .Set .. => false
  | .NamedExpr .. => false
  | _ => true
def compE : Expr → Bool
  | .ListComp .. => true
  | .SetComp .. => true
  | .DictComp .. => true
  | _ => false
def opB : BOp → Operator → Bool
  | .add, .Add => true
  | .sub, .Sub => true
  | .mul, .Mult => true
  | .fdiv, .FloorDiv => true
  | .mod, .Mod => true
  | .pow, .Pow => true
  | _, _ => false
def opC : COp → CmpOp → Bool
  | .eq, .Eq => true
  | .ne, .NotEq => true
  | .lt, .Lt => true
  | .le, .LtE => true
  | .gt, .Gt => true
  | .ge, .GtE => true
  | .is, .Is => true
  | .isNot, .IsNot => true
  | .mem, .In => true
  | .notMem, .NotIn => true
  | _, _ => false
/-- a built-in function called by its name with these many arguments -/
def biName : BI → Str
  | .len => "len"
  | .sum => "sum"
  | .all => "all"
  | .any => "any"
  | .tuple => "tuple"
  | .list => "list"
  | .int => "int"
  | .abs => "abs"
  | .max1 => "max"
  | .max2 => "max"
  | .min2 => "min"
  | .repr => "repr"
  | .isInt => "isinstance"
  | .isBool => "isinstance"
  | .isTuple => "isinstance"
  | .isStr => "isinstance"
def biCls : BI → Option Str
  | .isInt => some "int"
  | .isBool => some "bool"
  | .isTuple => some "tuple"
  | .isStr => some "str"
  | _ => none
def ownOf (N : List Str) (own : List Nat) : List (Str × Nat) := own.map fun i => (N.getD i "", i)

/-- a built-in's name as it stands -/
def bltB (S : Pt) (sc : Scope) (x : Str) : Bool := gloB sc x && (S.free.contains x && nameB x)
def funB (S : Pt) (sc : Scope) (f : Nat) (x : Str) : Bool := match S.funs[f]? with
  | some F => decide (F.name = x) && (gloB sc x && nameB x)
  | none => false

def locW (sc : Scope) (wr : Option Scope) (x : Str) : Bool := match wr with
  | none => locB sc x
  | some w => locB w x
/-- targets: wr is the written scope of a comprehension's block, none in a def's body -/
def mT (N : List Str) (sc : Scope) (wr : Option Scope) : CT → Expr → Bool
  | .name i, .Name x _ => decide (N[i]? = some x) && locW sc wr x
  | .pair a b, .Tuple [x, y] _ _ => mT N sc wr a x && mT N sc wr b y
  | .three a b c, .Tuple [x, y, z] _ _ => mT N sc wr a x && (mT N sc wr b y && mT N sc wr c z)
  | _, _ => false

def kwNames : List Keyword → List Str
  | [] => []
  | ⟨some x, _, _⟩ :: r => x :: kwNames r
  | ⟨none, _, _⟩ :: r => "" :: kwNames r
def kwAll : List Keyword → Bool
  | [] => true
  | ⟨some _, _, _⟩ :: r => kwAll r
  | ⟨none, _, _⟩ :: _ => false

mutual
def mE (S : Pt) (N : List Str) (sc : Scope) : CE → Expr → Bool
  | .var i, .Name x _ => decide (N[i]? = some x) && (visB sc x && nameB x)
  | .non, .Constant .none _ _ => true
  | .bl b, .Constant (.bool c) _ _ => b == c
  | .int i, .Constant (.int j) _ _ => decide (i = j)
  | .str x, .Constant (.str y) _ _ => decide (x = y)
  | .glob x, .Name y _ => decide (x = y) && (gloB sc y && (S.globs.contains y && nameB y))
  | .bin op a b, .BinOp l o r _ => opB op o && (mE S N sc a l && mE S N sc b r)
  | .neg a, .UnaryOp .USub e _ => mE S N sc a e
  | .cmp op a b, .Compare l [o] [r] _ => (opC op o && !behindInMarks o r) && (mE S N sc a l && mE S N sc b r)
  | .chain o1 o2 a b c, .Compare l [p, q] [m, r] _ => (opC o1 p && (opC o2 q && !lastMarks [p, q] [m, r])) && (mE S N sc a l && (mE S N sc b m && mE S N sc c r))
  | .and a b, .BoolOp .And (x :: y :: r) pos => mE S N sc a x && (match r with
    | [] => mE S N sc b y
    | _ :: _ => mE S N sc b (.BoolOp .And (y :: r) pos))
  | .or a b, .BoolOp .Or (x :: y :: r) pos => mE S N sc a x && (match r with
    | [] => mE S N sc b y
    | _ :: _ => mE S N sc b (.BoolOp .Or (y :: r) pos))
  | .not a, .UnaryOp .Not e _ => mE S N sc a e
  | .ite t a b, .IfExp c x y _ => mE S N sc t c && (mE S N sc a x && mE S N sc b y)
  | .tup es, .Tuple xs _ _ => mEs S N sc es xs
  | .lst _ es, .List xs _ => mEs S N sc es xs
  | .repL _ a b, .BinOp l .Mult r _ => mE S N sc a l && mE S N sc b r
  | .ix a i, .Subscript x y _ => plainE y && (mE S N sc a x && mE S N sc i y)
  | .sl a lo hi, .Subscript x (.Slice l u none _) _ => mE S N sc a x && (mO S N sc lo l && mO S N sc hi u)
  | .call f perm es ks, .Call (.Name x _) xs kws _ => (funB S sc f x && (S.shapes.contains ⟨f, xs.length, kwNames kws, perm⟩ && kwAll kws)) && (mEs S N sc es xs && mKs S N sc ks kws)
  | .dict es, .Dict (k :: ks) vs _ => (decide ((k :: ks).length = vs.length) && decide ((k :: ks).length ≤ 15)) && mPs S N sc es (k :: ks) vs
  | .bi b es, .Call (.Name x _) xs [] _ => (decide (biName b = x) && bltB S sc x) && (match biCls b, xs with
    | none, [] => false
    | none, _ => mEs S N sc es xs
    | some T, [y, .Name z _] => (decide (T = z) && bltB S sc z) && mEs S N sc es [y]
    | some _, _ => false)
  | .comp _ elt t it own, .ListComp el [⟨tg, iter, [], k⟩] scope _ => decide (k = 0) && (((slots t).all fun i => own.contains i) &&
    ((blkC N sc scope (ownOf N own) && (mT N (relS scope sc) (some scope) t tg && plainE iter)) && (mI S N sc it tg iter && mE S N (relS scope sc) elt el)))
  | .compIf _ elt t it c own, .ListComp el [⟨tg, iter, [cd], k⟩] scope _ => decide (k = 0) && (((slots t).all fun i => own.contains i) &&
    ((blkC N sc scope (ownOf N own) && (mT N (relS scope sc) (some scope) t tg && plainE iter)) && (mI S N sc it tg iter && (mE S N (relS scope sc) elt el && mE S N (relS scope sc) c cd))))
  | _, _ => false
def mPs (S : Pt) (N : List Str) (sc : Scope) : CEs → List (Option Expr) → List Expr → Bool
  | .nil, [], [] => true
  | .cons e (.cons g r), some k :: ks, v :: vs => mE S N sc e k && (mE S N sc g v && mPs S N sc r ks vs)
  | _, _, _ => false
def mEs (S : Pt) (N : List Str) (sc : Scope) : CEs → List Expr → Bool
  | .nil, [] => true
  | .cons e r, x :: xs => plainE x && (mE S N sc e x && mEs S N sc r xs)
  | _, _ => false
def mKs (S : Pt) (N : List Str) (sc : Scope) : CEs → List Keyword → Bool
  | .nil, [] => true
  | .cons e r, ⟨some _, x, _⟩ :: xs => plainE x && (mE S N sc e x && mKs S N sc r xs)
  | _, _ => false
def mO (S : Pt) (N : List Str) (sc : Scope) : CO → Option Expr → Bool
  | .none, none => true
  | .some e, some x => mE S N sc e x
  | _, _ => false
/-- an iterable: the target too (enumerate and zip want a tuple of names) -/
def mI (S : Pt) (N : List Str) (sc : Scope) : CI → Expr → Expr → Bool
  | .it e, _, x => mE S N sc e x
  | .range1 e, _, .Call (.Name n _) [x] [] _ => (decide (n = ("range" : Str)) && bltB S sc n) && (plainE x && mE S N sc e x)
  | .range2 a b, _, .Call (.Name n _) [x, y] [] _ => (decide (n = ("range" : Str)) && bltB S sc n) && ((plainE x && mE S N sc a x) && (plainE y && mE S N sc b y))
  | .enum e, .Tuple _ _ _, .Call (.Name n _) [x] [] _ => (decide (n = ("enumerate" : Str)) && bltB S sc n) && (plainE x && mE S N sc e x)
  | .zip2 a b, .Tuple _ _ _, .Call (.Name n _) [x, y] [] _ => (decide (n = ("zip" : Str)) && bltB S sc n) && ((plainE x && mE S N sc a x) && (plainE y && mE S N sc b y))
  | _, _, _ => false
/-- a list that is made new here -/
def newB : Expr → Bool
  | .List .. => true
  | .ListComp .. => true
  | .BinOp (.List ..) .Mult _ _ => true
  | _ => false
end

/-- does the one-line store go before the block's end? (PySem's swapsWith, for a comprehension) -/
def swB (sc : Scope) (value : Expr) (t : Str) (pos : Pos) : Bool := match value with
  | .ListComp _ _ s _ => (decide (sc.names.lookup t = some .local) && (pos.line == value.pos.line)) && !(s.names.any fun (n, k) => n == t && (k == .local || k == .cell))
  | _ => false
/-- what a method is called of -/
def attrB : Expr → Bool
  | .Name .. => true
  | .Subscript .. => true
  | _ => false
/-- a tuple of constants is stored from the left -/
def noSwap : Expr → Bool
  | .Tuple vs _ _ => vs.all (foldedForSure 8)
  | _ => true
/-- two plain names stored from the right -/
def parB (sc : Scope) (x y : Str) (px py : Pos) (a b : Expr) : Bool :=
  ((decide (sc.names.lookup x = some .local) && decide (sc.names.lookup y = some .local)) && ((py.line == px.line) && !(x == y))) && (!([a, b].all (foldedForSure 8)) && !([a, b].all (constantsAlone 8)))
def par3B (sc : Scope) (x y z : Str) (px py pz : Pos) (a b c : Expr) : Bool :=
  ((decide (sc.names.lookup x = some .local) && (decide (sc.names.lookup y = some .local) && decide (sc.names.lookup z = some .local))) && (((py.line == px.line) && (pz.line == px.line)) && (!(x == y) && (!(x == z) && !(y == z))))) &&
    (!([a, b, c].all (foldedForSure 8)) && !([a, b, c].all (constantsAlone 8)))

mutual
def mS (S : Pt) (N : List Str) (sc : Scope) : CS → Stmt → Bool
  | .set (.name i) e, .Assign [.Name x px] v pos => mT N sc none (.name i) (.Name x px) && mE S N sc e v
  | .set t e, .Assign [.Tuple ts k pt] v pos => (!compE v && noSwap v) && (mT N sc none t (.Tuple ts k pt) && mE S N sc e v)
  | .par i j a b, .Assign [.Tuple [.Name x px, .Name y py] _ _] (.Tuple [u, v] _ _) _ =>
    ((decide (N[i]? = some x) && decide (N[j]? = some y)) && (!(i == j) && parB sc x y px py u v)) && ((plainE u && mE S N sc a u) && (plainE v && mE S N sc b v))
  | .par3 i j l a b c, .Assign [.Tuple [.Name x px, .Name y py, .Name z pz] _ _] (.Tuple [u, v, w] _ _) _ =>
    ((decide (N[i]? = some x) && (decide (N[j]? = some y) && decide (N[l]? = some z))) && ((!(i == j) && (!(i == l) && !(j == l))) && par3B sc x y z px py pz u v w)) &&
      ((plainE u && mE S N sc a u) && ((plainE v && mE S N sc b v) && (plainE w && mE S N sc c w)))
  | .nev, _ => true
  | .setIx o i e, .Assign [.Subscript x y _] v _ => (!compE v && (plainE y && plainE v)) && (mE S N sc o x && (mE S N sc i y && mE S N sc e v))
  | .expr e, .Expr v _ => !compE v && mE S N sc e v
  | .append o e, .Expr (.Call (.Attribute x m apos) [y] [] cpos) _ => (decide (m = ("append" : Str)) && ((apos.endLine == cpos.line) && (plainE y && attrB x))) && (mE S N sc o x && mE S N sc e y)
  | .extend o e, .Expr (.Call (.Attribute x m apos) [y] [] cpos) _ => (decide (m = ("extend" : Str)) && ((apos.endLine == cpos.line) && (plainE y && attrB x))) && (mE S N sc o x && mE S N sc e y)
  | .ret e, .Return (some v) _ => mE S N sc e v
  | .retN, .Return none _ => true
  | .cond t a b, .If c x y _ => mE S N sc t c && (mSs S N sc a x && mSs S N sc b y)
  | .loop t it body kill, .For tg iter b [] _ => (mT N sc none t tg && plainE iter) && (mI S N sc it tg iter && mSs S N sc body b)
  | .brk, .Break _ => true
  | .cnt, .Continue _ => true
  | .pass, .Pass _ => true
  | .throw c e, .Raise (some (.Call (.Name x _) [y] [] _)) none _ => decide (c = x) && false
  | _, _ => false
def mSs (S : Pt) (N : List Str) (sc : Scope) : CSs → List Stmt → Bool
  | .nil, [] => true
  | .cons s r, x :: xs => mS S N sc s x && mSs S N sc r xs
  | .kill _ r, xs => mSs S N sc r xs
  | _, _ => false
end
end Ws
end

section
set_option Elab.async false
set_option linter.all false
set_option maxRecDepth 100000
set_option autoImplicit false
/-! What a walk shows of the items of a list; the turns of a comprehension. -/
namespace Ws
open PySem PySem.Spec PyProof.Rows L2

/-- whatever stands still goes on to do so -/
structure Ext (H : Hp) (M : Ms) (H' : Hp) (M' : Ms) : Prop where
  fz : ∀ a u, Fz H M a u → Fz H' M' a u
  get : ∀ (n : Nat) (a : Addr), M.c[n]? = some a → M'.c[n]? = some a
section
variable {K : PySem.W.Frag} {H H1 H' : Hp} {M M1 M' : Ms}
theorem Evo.ext (e : Evo H M H' M') : Ext H M H' M' := ⟨fun _ _ => e.fz, fun _ _ => e.get⟩
theorem Ext.refl : Ext H M H M := ⟨fun _ _ h => h, fun _ _ h => h⟩
theorem Ext.trans (a : Ext H M H1 M1) (b : Ext H1 M1 H' M') : Ext H M H' M' := ⟨fun x u h => b.fz x u (a.fz x u h), fun n x h => b.get n x (a.get n x h)⟩
theorem Rep.ext (e : Ext H M H' M') {x : SV} {v : V} (r : Rep K H M x v) : Rep K H' M' x v := r.map e.fz e.get
theorem RepL.ext (e : Ext H M H' M') {x : List SV} {v : List V} (r : RepL K H M x v) : RepL K H' M' x v := r.map e.fz e.get
theorem RS.ext (e : Ext H M H' M') {env : SE} {σ : L2.St} (r : RS K H M env σ) : RS K H' M' env σ :=
  ⟨r.len, fun i v h => let ⟨x, h1, h2⟩ := r.at_ i v h; ⟨x, h1, h2.ext e⟩⟩
theorem Tp.ext {a : Addr} {vs : List V} (e : Ext H M H' M') (h : Tp K H M a vs) : Tp K H' M' a vs := h.elim (fun z => .inl (e.fz _ _ z)) .inr
theorem Lp.ext {a : Addr} {vs : List V} (e : Ext H M H' M') (h : Lp K H M a vs) : Lp K H' M' a vs := h.elim (fun z => .inl (e.fz _ _ z)) .inr
end

/-- the walk J shows xs, from (H, M) on -/
structure Seen (K : PySem.W.Frag) (J : It) (xs : List SV) (H : Hp) (M : Ms) : Prop where
  go : ∀ (i : Nat) (H' : Hp) (M' : Ms), Ext H M H' M' → i < xs.length → J.go i H'
  stop : ∀ (H' : Hp) (M' : Ms), Ext H M H' M' → J.stop xs.length H'
  yld : ∀ (i : Nat) (H' : Hp) (M' : Ms) (h : SH) (x : V) (H'' : Hp) (v : SV), Ext H M H' M' → RH K H' M' h → xs[i]? = some v → J.yld i H' x H'' → Evo H' M' H'' M' ∧ RH K H'' M' h ∧ Rep K H'' M' v x
section
variable {K : PySem.W.Frag} {H H1 H' : Hp} {M M1 M' : Ms}
theorem RepL.lt {xs : List SV} {vs : List V} (l : RepL K H M xs vs) {i : Nat} {v : SV} {x : V} (h1 : xs[i]? = some v) (h2 : vs[i]? = some x) : Rep K H M v x := by
  obtain ⟨y, e, r⟩ := l.get h1
  rw [h2] at e
  cases e
  exact r
theorem seen_tup {a : Addr} {xs : List SV} {vs : List V} (t : Tp K H M a vs) (l : RepL K H M xs vs) : Seen K (Itt K a) xs H M := by
  refine ⟨fun i H' M' e hi => ?_, fun H' M' e => ⟨vs, (t.ext e).sq, by rw [l.length]; exact Nat.le_refl _⟩, fun i H' M' h x H'' v e rh hv y => ?_⟩
  · rw [l.length] at hi
    exact ⟨vs, vs[i], (t.ext e).sq, by simp [hi]⟩
  · obtain ⟨rfl, y⟩ := y
    exact ⟨.refl, rh, (l.ext e).lt hv (y vs (t.ext e).sq)⟩
theorem seen_lst {a : Addr} {xs : List SV} {vs : List V} (t : Lp K H M a vs) (l : RepL K H M xs vs) : Seen K (Itl K a) xs H M := by
  refine ⟨fun i H' M' e hi => ?_, fun H' M' e => ⟨vs, (t.ext e).sq, by rw [l.length]; exact Nat.le_refl _⟩, fun i H' M' h x H'' v e rh hv y => ?_⟩
  · rw [l.length] at hi
    exact ⟨vs, vs[i], (t.ext e).sq, by simp [hi]⟩
  · obtain ⟨rfl, y⟩ := y
    exact ⟨.refl, rh, (l.ext e).lt hv (y vs (t.ext e).sq)⟩
theorem rangeOf_get {lo hi : Int} {i : Nat} {v : SV} (h : (rangeOf lo hi)[i]? = some v) : v = .int (lo + i) := by
  unfold rangeOf at h
  rw [List.getElem?_map] at h
  obtain ⟨j, e1, e2⟩ := Option.map_eq_some_iff.mp h
  obtain ⟨h1, h2⟩ := List.getElem?_eq_some_iff.mp e1
  rw [List.getElem_range] at h2
  subst h2
  exact e2.symm
theorem seen_rng {lo hi : Int} : Seen K (Itr lo (hi - lo).toNat) (rangeOf lo hi) H M := by
  have len : (rangeOf lo hi).length = (hi - lo).toNat := by simp [rangeOf]
  refine ⟨fun i H' M' e hi => by rw [len] at hi; exact hi, fun H' M' e => Nat.le_of_eq len.symm, fun i H' M' h x H'' v e rh hv y => ?_⟩
  obtain ⟨rfl, rfl⟩ := y
  obtain rfl := rangeOf_get hv
  exact ⟨.refl, rh, .int _⟩
/-- a new pair at p -/
theorem pair_new {h : SH} {p : Addr} {v w : SV} {x y : V} (rh : RH K H M h) (hp : H p = none) (rx : Rep K H M v x) (ry : Rep K H M w y) :
    Evo H M (upd H p (.tup [x, y])) M ∧ RH K (upd H p (.tup [x, y])) M h ∧ Rep K (upd H p (.tup [x, y])) M (.tup [v, w]) (.ref p) :=
  ⟨Evo.new rh hp, RH.new rh hp, .tup (.inl (Fz.new rh hp)) (.cons (rx.mono (Evo.new rh hp)) (.cons (ry.mono (Evo.new rh hp)) .nil))⟩
theorem enumOf_length : ∀ (k : Nat) (xs : List SV), (enumOf k xs).length = xs.length
  | _, [] => rfl
  | k, _ :: xs => congrArg Nat.succ (enumOf_length (k + 1) xs)
theorem enumOf_get : ∀ (k : Nat) (xs : List SV) (i : Nat) (v : SV), (enumOf k xs)[i]? = some v → ∃ x, xs[i]? = some x ∧ v = .tup [.int ((k + i : Nat) : Int), x]
  | _, [], i, v, h => by simp [enumOf] at h
  | k, x :: xs, 0, v, h => ⟨x, rfl, (Option.some.inj h).symm⟩
  | k, x :: xs, i + 1, v, h => by
    obtain ⟨y, e1, e2⟩ := enumOf_get (k + 1) xs i v h
    exact ⟨y, e1, by rw [e2]; congr 4; omega⟩
/-- a sequence that stands still -/
def Sp_ (K : PySem.W.Frag) (b : Bool) (H : Hp) (M : Ms) (a : Addr) (vs : List V) : Prop := if b = true then Tp K H M a vs else Lp K H M a vs
theorem Sp_.sq {b : Bool} {a : Addr} {vs : List V} (s : Sp_ K b H M a vs) : SqS K b H a vs := by
  cases b with
  | true => exact Tp.sq (show Tp K H M a vs from s)
  | false => exact Lp.sq (show Lp K H M a vs from s)
theorem Sp_.ext {b : Bool} {a : Addr} {vs : List V} (e : Ext H M H' M') (s : Sp_ K b H M a vs) : Sp_ K b H' M' a vs := by
  cases b with
  | true => exact Tp.ext e (show Tp K H M a vs from s)
  | false => exact Lp.ext e (show Lp K H M a vs from s)
theorem seen_en {b : Bool} {a : Addr} {xs : List SV} {vs : List V} (t : Sp_ K b H M a vs) (l : RepL K H M xs vs) : Seen K (JEn K b a vs) (enumOf 0 xs) H M := by
  have len : (enumOf 0 xs).length = vs.length := by rw [enumOf_length, l.length]
  refine ⟨fun i H' M' e hi => ⟨(t.ext e).sq, by rw [← len]; exact hi⟩, fun H' M' e => ⟨(t.ext e).sq, len⟩, fun i H' M' h x H'' v e rh hv y => ?_⟩
  obtain ⟨T, z, rfl, hT, rfl, hz⟩ := y
  obtain ⟨w, e1, rfl⟩ := enumOf_get 0 xs i v hv
  rw [Nat.zero_add]
  exact pair_new rh hT (.int _) ((l.ext e).lt e1 hz)
theorem zip2Of_length : ∀ (xs ys : List SV), (zip2Of xs ys).length = min xs.length ys.length
  | [], _ => by simp [zip2Of]
  | _ :: _, [] => by simp [zip2Of]
  | _ :: xs, _ :: ys => by
    simp only [zip2Of, List.length_cons, zip2Of_length xs ys]
    omega
theorem zip2Of_get : ∀ (xs ys : List SV) (i : Nat) (v : SV), (zip2Of xs ys)[i]? = some v → ∃ x y, xs[i]? = some x ∧ ys[i]? = some y ∧ v = .tup [x, y]
  | [], _, i, v, h => by simp [zip2Of] at h
  | _ :: _, [], i, v, h => by simp [zip2Of] at h
  | x :: xs, y :: ys, 0, v, h => ⟨x, y, rfl, rfl, (Option.some.inj h).symm⟩
  | x :: xs, y :: ys, i + 1, v, h => zip2Of_get xs ys i v h
theorem seen_z2 {b1 b2 : Bool} {a1 a2 : Addr} {xs ys : List SV} {vs ws : List V} (t1 : Sp_ K b1 H M a1 vs) (t2 : Sp_ K b2 H M a2 ws) (l1 : RepL K H M xs vs) (l2 : RepL K H M ys ws) : Seen K (JZ2 K b1 a1 vs b2 a2 ws) (zip2Of xs ys) H M := by
  have len : (zip2Of xs ys).length = min vs.length ws.length := by rw [zip2Of_length, l1.length, l2.length]
  refine ⟨fun i H' M' e hi => ?_, fun H' M' e => ?_, fun i H' M' h x H'' v e rh hv y => ?_⟩
  · rw [len] at hi
    exact ⟨(t1.ext e).sq, by omega, (t2.ext e).sq, by omega⟩
  · rw [len]
    exact ⟨(t1.ext e).sq, by omega, (t2.ext e).sq, by omega, by omega⟩
  · obtain ⟨T, z1, z2, rfl, hT, rfl, h1, h2⟩ := y
    obtain ⟨w1, w2, e1, e2, rfl⟩ := zip2Of_get xs ys i v hv
    exact pair_new rh hT ((l1.ext e).lt e1 h1) ((l2.ext e).lt e2 h2)
end

/-! ### any sequence, walked -/
theorem pi_seq {X : Cx} {tg l : Expr} {tl : TE} (hl : PE X l tl) : PI X tg l (fun σ H R => tl σ H fun x H1 => ∃ a, x = .ref a ∧ (((∃ xs, SqL X.K H1 a xs) ∧ R (Itl X.K a) H1) ∨ ((∃ xs, SqT X.K H1 a xs) ∧ R (Itt X.K a) H1))) := by
  refine ⟨fun pins s σ H R I h => thn (hl.run pins s σ H _ I h) ?_⟩
  rintro v s1 ⟨x, H1, I1, r1, a, rfl, q⟩
  obtain rfl : v = Value.ref a := r1
  rcases q with ⟨⟨xs, hq⟩, q⟩ | ⟨⟨xs, hq⟩, q⟩
  · obtain ⟨its, _, p, _⟩ := I1.list hq
    have I2 := I1.kept (t' := s1.toks) (h' := s1.heap.push { cls := .type "list_iterator", data := .fields #[.ref a, .int 0 0] }) fun b o e => Heap.get?_push_of_some _ e
    refine wpAny_pyIter_list p.isList ⟨s1.heap.objs.size, [s1.heap.objs.size], _, _, H1, rfl, I2, turn_list a _, ⟨_, Heap.get?_push_size _ rfl, rfl, rfl⟩, ?_, q⟩
    intro b hb
    obtain rfl := List.mem_singleton.mp hb
    exact I1.fpOk (Nat.le_refl _) (I1.hok.fresh (Nat.le_refl _))
  · obtain ⟨its, _, p, _⟩ := I1.tuple hq
    have I2 := I1.kept (t' := s1.toks) (h' := s1.heap.push { cls := .type "tuple_iterator", data := .fields #[.ref a, .int 0 0] }) fun b o e => Heap.get?_push_of_some _ e
    refine wpAny_pyIter_tuple (show s1.heap.IsTuple a its.toArray from p) ⟨s1.heap.objs.size, [s1.heap.objs.size], _, _, H1, rfl, I2, turn_tuple a _, ⟨_, Heap.get?_push_size _ rfl, rfl, rfl⟩, ?_, q⟩
    intro b hb
    obtain rfl := List.mem_singleton.mp hb
    exact I1.fpOk (Nat.le_refl _) (I1.hok.fresh (Nat.le_refl _))
end Ws
end

section
set_option Elab.async false
set_option linter.all false
set_option maxRecDepth 100000
set_option autoImplicit false
/-! New lists: made at once, or by a comprehension's turns. -/
namespace Ws
open PySem PySem.Spec PyProof.Rows L2

section
variable {K : PySem.W.Frag} {mg : Str → Option Value} {H H1 H' : Hp} {M M1 M' : Ms} {E : XK}

/-! ### the end of a list that was being made -/
theorem Fz.endCell {D : Addr} {c b : List Addr} {a : Addr} {u : HO} (z : Fz H ⟨c, D :: b⟩ a u) : Fz H ⟨c ++ [D], b⟩ a u := by
  obtain ⟨⟨z1, z2⟩, z3⟩ := z
  have ne : a ≠ D := fun e => z2 (e ▸ List.mem_cons_self)
  refine ⟨⟨fun hm => ?_, fun hm => z2 (List.mem_cons_of_mem _ hm)⟩, z3⟩
  rcases List.mem_append.mp (show a ∈ c ++ [D] from hm) with q | q
  · exact z1 q
  · exact ne (List.mem_singleton.mp q)
theorem get_app {c : List Addr} {D : Addr} {n : Nat} {a : Addr} (h : c[n]? = some a) : (c ++ [D])[n]? = some a := by
  rw [List.getElem?_append_left (List.getElem?_eq_some_iff.mp h).1]
  exact h
theorem RH.endCell {D : Addr} {c b : List Addr} {h : SH} {o : SO} {u : HO} (r : RH K H ⟨c, D :: b⟩ h) (hDb : D ∉ b) (hD : H D = some u) (ho : RepO K H ⟨c ++ [D], b⟩ o u) : RH K H ⟨c ++ [D], b⟩ (h ++ [o]) := by
  obtain ⟨hDc, _⟩ := r.bsy D List.mem_cons_self
  have hDc' : D ∉ c := hDc
  have len : h.length = c.length := r.len
  refine ⟨?_, ?_, fun n o' e => ?_, fun a ha => ?_⟩
  · show (h ++ [o]).length = (c ++ [D]).length
    rw [List.length_append, List.length_append, len]
    rfl
  · show (c ++ [D]).Nodup
    rw [List.nodup_append]
    refine ⟨r.nd, by simp, fun a ha d hd e => ?_⟩
    obtain rfl := List.mem_singleton.mp hd
    exact hDc' (e ▸ ha)
  · by_cases hn : n < h.length
    · rw [List.getElem?_append_left hn] at e
      obtain ⟨a, w, e1, e2, e3⟩ := r.at_ n o' e
      exact ⟨a, w, get_app e1, e2, e3.map (fun _ _ => Fz.endCell) (fun _ _ => get_app)⟩
    · rw [List.getElem?_append_right (by omega)] at e
      have hz : n - h.length = 0 := by
        have := (List.getElem?_eq_some_iff.mp e).1
        simp at this
        omega
      rw [hz] at e
      cases e
      refine ⟨D, u, ?_, hD, ho⟩
      show (c ++ [D])[n]? = _
      rw [List.getElem?_append_right (by omega), ← len, hz]
      rfl
  · obtain ⟨q1, q2⟩ := r.bsy a (List.mem_cons_of_mem _ ha)
    refine ⟨fun hm => ?_, q2⟩
    rcases List.mem_append.mp (show a ∈ c ++ [D] from hm) with z | z
    · exact q1 z
    · obtain rfl := List.mem_singleton.mp z
      exact hDb ha
theorem Evo.endCell {D : Addr} {c : List Addr} (hD : H D = none) (hDc : D ∉ M.c) (hDb : D ∉ M.b) (e : Evo H M H' ⟨c, M.b⟩) : Evo H M H' ⟨c ++ [D], M.b⟩ := by
  obtain ⟨E1, p, q⟩ := e.pre
  have p' : c = M.c ++ E1 := p
  refine ⟨⟨E1 ++ [D], by show c ++ [D] = _; rw [p']; simp, fun a ha => ?_⟩, rfl, e.same, e.keep⟩
  rcases List.mem_append.mp ha with z | z
  · exact q a z
  · obtain rfl := List.mem_singleton.mp z
    exact ⟨⟨hDc, hDb⟩, hD⟩
theorem Fz.lessC {c b : List Addr} {D a : Addr} {u : HO} (h : Fz H ⟨c, D :: b⟩ a u) : Fz H ⟨c, b⟩ a u := ⟨⟨h.1.1, fun hm => h.1.2 (List.mem_cons_of_mem _ hm)⟩, h.2⟩
/-- a new list, at its end -/
theorem list_end {c : Bool} {r : List SV} {hend h1 : SH} {D : Addr} {Hc : Hp} {Mc : Ms} {vs : List V} {Q : VK} (s : SemR K mg (mkL c r hend) H1 M1 E fun v _ H' M' => ∀ x, Rep K H' M' v x → Q x H')
    (r1 : RH K H1 M1 h1) (hD : H1 D = none) (hv : Hc D = some (.lst vs)) (hb : Mc.b = D :: M1.b) (rh : RH K Hc Mc hend) (e : Evo H1 M1 Hc ⟨Mc.c, M1.b⟩) (l : RepL K Hc Mc r vs) : Q (.ref D) Hc := by
  obtain ⟨cc, b⟩ := Mc
  have hb' : b = D :: M1.b := hb
  subst hb'
  have hDc := r1.fresh hD
  have hDb := r1.freshB hD
  have busy : D ∉ cc := (rh.bsy D List.mem_cons_self).1
  unfold mkL at s
  split at s
  · split at s
    · have l2 : RepL K Hc ⟨cc ++ [D], M1.b⟩ r vs := l.map (fun _ _ => Fz.endCell) (fun _ _ => get_app)
      refine s Hc ⟨cc ++ [D], M1.b⟩ (Evo.endCell hD hDc hDb e) (rh.endCell hDb hv (.lst l2)) _ (.ref ?_)
      show (cc ++ [D])[hend.length]? = _
      have len : hend.length = cc.length := rh.len
      rw [len, List.getElem?_append_right (Nat.le_refl _), Nat.sub_self]
      rfl
    · refine s Hc ⟨cc, M1.b⟩ e (RH.done (M := ⟨cc, []⟩) rh) _ (.lst (.inl ⟨⟨busy, hDb⟩, .inl hv⟩) (l.map (fun _ _ => Fz.lessC) (fun _ _ => id)))
  · exact s.elim
/-- a list made at once -/
theorem list_now {c : Bool} {r : List SV} {h : SH} {p : Addr} {vs : List V} {Q : VK} (s : SemR K mg (mkL c r h) H M E fun v _ H' M' => ∀ x, Rep K H' M' v x → Q x H') (rh : RH K H M h) (l : RepL K H M r vs) (hp : H p = none) :
    Q (.ref p) (upd H p (.lst vs)) :=
  list_end s rh hp upd_same rfl (rh.begin_ hp) (Evo.begin_ rh hp) (l.map (fun _ _ => Fz.begin_ rh hp) (fun _ _ => id))
theorem mkL_len {c : Bool} {r : List SV} {h : SH} {k : SV → SH → Hp → Ms → Prop} (s : SemR K mg (mkL c r h) H M E k) : r.length ≤ seqLen := by
  unfold mkL at s
  split at s
  · rename_i hc
    exact of_decide_eq_true hc
  · exact s.elim

/-! ### a store's reading -/
def SG (K : PySem.W.Frag) (t : CT) : TG := fun v σ H Q => ∃ sv env env2 M, RS K H M env σ ∧ Rep K H M sv v ∧ store t sv env = some env2 ∧
  ∀ σ', RS K H M env2 σ' → (∀ vs : List Nat, (∀ i ∈ slots t, i ∈ vs) → L2.wipe σ' vs = L2.wipe σ vs) → Q σ' H

theorem wipe_at (σ : L2.St) (vs : List Nat) (j : Nat) : (L2.wipe σ vs)[j]? = if j ∈ vs then σ[j]?.map (fun _ => none) else σ[j]? := by
  induction vs with
  | nil => simp [L2.wipe]
  | cons v vs ih =>
    show ((L2.wipe σ vs).set v none)[j]? = _
    rw [List.getElem?_set, ih]
    by_cases h : v = j
    · subst h
      simp only [if_true, List.mem_cons, true_or]
      rw [wipe_length]
      by_cases hl : v < σ.length
      · simp [hl]
      · simp [hl]
    · have h' : ¬ j = v := fun z => h z.symm
      simp [h, h', List.mem_cons]
theorem wipe_wipe {σ : L2.St} {vs : List Nat} : L2.wipe (L2.wipe σ vs) vs = L2.wipe σ vs := by
  apply List.ext_getElem?
  intro j
  rw [wipe_at, wipe_at]
  by_cases h : j ∈ vs
  · simp only [h, if_true, Option.map_map]
    rfl
  · simp [h]
theorem wipe_set {σ : L2.St} {vs : List Nat} {i : Nat} {x : Option V} (h : i ∈ vs) : L2.wipe (σ.set i x) vs = L2.wipe σ vs := by
  apply List.ext_getElem?
  intro j
  rw [wipe_at, wipe_at]
  by_cases hj : j ∈ vs
  · simp only [hj, if_true, List.getElem?_set]
    split
    · rename_i e
      subst e
      split <;> simp_all
    · rfl
  · have ne : ¬ i = j := fun e => hj (e ▸ h)
    simp [hj, List.getElem?_set, ne]
/-! ### a comprehension's turns -/
theorem compF_ok {body : SV → SH → Res (Option SV)} {x : SV} {xs : List SV} {h hend : SH} {r : List SV} (e : compF body (x :: xs) h = .ok r hend) :
    ∃ o h1 r', body x h = .ok o h1 ∧ compF body xs h1 = .ok r' hend ∧ r = match o with | some y => y :: r' | none => r' := by
  unfold compF at e
  split at e
  · rename_i o h1 e1
    split at e
    · rename_i r' h2 e2
      cases e
      exact ⟨o, h1, r', e1, e2, rfl⟩
    · cases e
    · cases e
  · cases e
  · cases e
theorem compF_noerr {body : SV → SH → Res (Option SV)} : ∀ {xs : List SV} {h : SH} {c : Str} {v : SV} {h' : SH}, compF body xs h ≠ .err c v h'
  | [], h, c, v, h' => by simp [compF]
  | x :: xs, h, c, v, h' => by
    unfold compF
    split
    · split <;> simp
    · simp
    · simp
/-- the state at turn i -/
structure CompAt (K : PySem.W.Frag) (body : SV → SH → Res (Option SV)) (xs : List SV) (r : List SV) (hend : SH) (H1 : Hp) (M1 : Ms) (D : Addr) (i : Nat) (Hc : Hp) : Prop where
  ex : ∃ (acc rest : List SV) (av : List V) (hc : SH) (Mc : Ms), Hc D = some (.lst av) ∧ Mc.b = D :: M1.b ∧ RH K Hc Mc hc ∧ Evo H1 M1 Hc ⟨Mc.c, M1.b⟩ ∧ Ext H1 M1 Hc Mc ∧ RepL K Hc Mc acc av ∧ r = acc ++ rest ∧ compF body (xs.drop i) hc = .ok rest hend
theorem lc_go {t : CT} {own : List Nat} {tt : TT} {te : TE} {body : SV → SH → Res (Option SV)} {c : Bool} {xs r : List SV} {h1 hend : SH} {env : SE} {σ : L2.St} {J : It} {Q : VK}
    (hsl : ∀ i ∈ slots t, i ∈ own)
    (hb : ∀ v hc o h', body v hc = .ok o h' → ∃ env2, store t v (wipeE env own) = some env2 ∧ ∀ (σ2 : L2.St) (H3 : Hp) (M3 : Ms) (Qs : V → Hp → Prop) (Qn : Hp → Prop), RS K H3 M3 env2 σ2 → RH K H3 M3 hc →
      (∀ y, o = some y → ∀ H5 M5, Evo H3 M3 H5 M5 → RH K H5 M5 h' → ∀ yv, Rep K H5 M5 y yv → Qs yv H5) → (o = none → ∀ H5 M5, Evo H3 M3 H5 M5 → RH K H5 M5 h' → Qn H5) →
      tt σ2 H3 fun b H4 => if b = true then te σ2 H4 Qs else Qn H4)
    (rs : RS K H1 M1 env σ) (rh : RH K H1 M1 h1) (sn : Seen K J xs H1 M1) (hcomp : compF body xs h1 = .ok r hend)
    (s : SemR K mg (mkL c r hend) H1 M1 E fun v _ H' M' => ∀ x, Rep K H' M' v x → Q x H') :
    ∀ D, H1 D = none → ∃ W : Nat → Nat → Hp → Prop, (∃ m, W 0 m (upd H1 D (.lst []))) ∧ ∀ i m H, W i m H →
      (J.stop i H ∧ Q (.ref D) H) ∨ (J.go i H ∧ ∃ Nx : Hp → Prop, (∀ H', Nx H' → ∃ m', m' < m ∧ W (i + 1) m' H') ∧ ∀ x H', J.yld i H x H' → SG K t x (L2.wipe σ own) H' fun σ2 H2 => L2.wipe σ2 own = L2.wipe σ own ∧ tt σ2 H2 fun b H3 =>
        if b = true then te σ2 H3 fun y H4 => ∃ acc, H4 D = some (.lst acc) ∧ acc.length < sizeLine ∧ Nx (upd H4 D (.lst (acc ++ [y]))) else Nx H3) := by
  intro D hD
  have hDc := rh.fresh hD
  have hDb := rh.freshB hD
  have hlen := mkL_len s
  refine ⟨fun i m H => i ≤ xs.length ∧ m = xs.length - i ∧ CompAt K body xs r hend H1 M1 D i H, ⟨xs.length, Nat.zero_le _, by simp, ⟨[], r, [], h1, ⟨M1.c, D :: M1.b⟩, upd_same, rfl, rh.begin_ hD, Evo.begin_ rh hD, ⟨fun _ _ => Fz.begin_ rh hD, fun _ _ => id⟩, .nil, rfl, hcomp⟩⟩, ?_⟩
  rintro i m Hc ⟨hi, rfl, ⟨acc, rest, av, hc, Mc, hv, hMb, rhc, ev, ex, l, er, ec⟩⟩
  have busy : D ∉ Mc.c := (rhc.bsy D (by rw [hMb]; exact List.mem_cons_self)).1
  by_cases hlt : i < xs.length
  · refine .inr ⟨sn.go i Hc Mc ex hlt, fun H' => CompAt K body xs r hend H1 M1 D (i + 1) H', fun H' n => ⟨xs.length - (i + 1), by omega, by omega, rfl, n⟩, ?_⟩
    intro x H' y
    have hx : xs[i]? = some xs[i] := List.getElem?_eq_getElem hlt
    obtain ⟨ev2, rh2, rx⟩ := sn.yld i Hc Mc hc x H' xs[i] ex rhc hx y
    rw [List.drop_eq_getElem_cons hlt] at ec
    obtain ⟨o, h', rest', e1, e2, e3⟩ := compF_ok ec
    obtain ⟨env2, es, run⟩ := hb _ _ _ _ e1
    refine ⟨xs[i], wipeE env own, env2, Mc, ((rs.ext (ex.trans ev2.ext)).wipe own), rx, es, ?_⟩
    intro σ2 rs2 hw
    have hw' : L2.wipe σ2 own = L2.wipe σ own := by
      rw [hw own hsl]
      exact wipe_wipe
    refine ⟨hw', ?_⟩
    refine run σ2 H' Mc _ _ rs2 rh2 ?_ ?_
    · rintro yx rfl H5 M5 ev5 rh5 yv ry
      have hD5 : H5 D = some (.lst av) := by
        rw [ev5.same D (by rw [hMb]; exact List.mem_cons_self), ev2.same D (by rw [hMb]; exact List.mem_cons_self)]
        exact hv
      have la : acc.length = av.length := l.length
      refine ⟨av, hD5, ?_, ?_⟩
      · rw [er, e3, List.length_append, List.length_cons] at hlen
        rw [sizeLine_eq]
        have : seqLen = 16777216 := rfl
        omega
      · obtain ⟨c5, b5⟩ := M5
        have hb5 : b5 = D :: M1.b := ev5.busy.trans hMb
        subst hb5
        have evt := ev2.trans ev5
        have e5 : Evo H1 M1 H5 ⟨c5, M1.b⟩ := Evo.turn hD hDc hDb ev hMb busy evt
        have gz : ∀ a u, Fz H5 ⟨c5, D :: M1.b⟩ a u → Fz (upd H5 D (.lst (av ++ [yv]))) ⟨c5, D :: M1.b⟩ a u := fun a u => Fz.grow (M := ⟨c5, []⟩)
        refine ⟨acc ++ [yx], rest', av ++ [yv], h', ⟨c5, D :: M1.b⟩, upd_same, rfl, RH.grow (M := ⟨c5, []⟩) rh5, Evo.grow (Md := ⟨c5, []⟩) hD hDb e5, ⟨fun a u z => gz a u ((ex.trans evt.ext).fz a u z), (ex.trans evt.ext).get⟩, ?_, ?_, e2⟩
        · exact ((l.mono evt).append (.cons ry .nil)).map gz (fun _ _ => id)
        · rw [er, e3, List.append_assoc]
          rfl
    · rintro rfl H5 M5 ev5 rh5
      have evt := ev2.trans ev5
      refine ⟨acc, rest', av, h', M5, ?_, ev5.busy.trans hMb, rh5, Evo.turn hD hDc hDb ev hMb busy evt, ex.trans evt.ext, l.mono evt, ?_, e2⟩
      · rw [ev5.same D (by rw [hMb]; exact List.mem_cons_self), ev2.same D (by rw [hMb]; exact List.mem_cons_self)]
        exact hv
      · rw [er, e3]
  · have e : i = xs.length := by omega
    subst e
    rw [List.drop_length] at ec
    cases ec
    rw [List.append_nil] at er
    subst er
    exact .inl ⟨sn.stop Hc Mc ex, list_end s rh hD hv hMb rhc ev l⟩
end
end Ws
end

section
set_option Elab.async false
set_option linter.all false
set_option maxRecDepth 100000
set_option autoImplicit false
/-! A def's promise, kept where nothing is being shown (no guard of repr around): its rule, its calls, a law's end. -/
namespace Ws
open PySem PySem.Spec PyProof.Rows L2

structure FnG (P : Program) (w : World) (K : PySem.W.Frag) (mg : Str → Option Value) (base : Heap) (k : Nat) (f : Addr) (fd : FuncData) (ps : List Str) (sp : Sp) : Prop where
  len : ∀ vs H Q E, sp vs H Q E → vs.length = ps.length
  run : ∀ (A : Around) (outer : List Env) (s : Shared) (H : Hp) (args : Args) (us : List Value) (vs : List V) (Q : VK) (E : XK),
    Room k A → A.guards = some [] → Env0 P w K mg base A outer s H → BindsTo s fd args (ps.zip us) → Vals vs us → sp vs H Q E →
    codeAny (model P w) A (.call (.ref f) args) (CR (L2.CX P w) outer P w H s Q E) s

section
variable {P : Program} {w : World} {K : PySem.W.Frag} {mg : Str → Option Value} {base : Heap} {k : Nat} {f : Addr} {fd : FuncData} {ps N : List Str} {sp : Sp}
  {x qual : Str} {params : Arguments} {body : List Stmt} {scope : Scope} {dvs : List V} {kws : List (Str × V)}
/-- by the body -/
theorem FnG.of_body (F : FunD K x qual params body scope dvs kws f fd) (S : FnScope N ps scope) (len : ∀ vs H Q E, sp vs H Q E → vs.length = ps.length)
    (hbody : ∀ (cdv : Value) (A : Around) (outer : List Env) (s : Shared) (H : Hp) (vs : List V) (Q : VK) (E : XK),
      Room k (A.deeper (envOfC qual scope s.heap.objs.size f cdv)) → (A.deeper (envOfC qual scope s.heap.objs.size f cdv)).guards = some [] → sp vs H Q E →
      ∃ t, PSs (cxOf (L2.CX P w) P w K mg base N qual scope f cdv A outer s H E) body t ∧ t { nx := fun _ H' => Q .non H', rt := Q } (start N vs) H) :
    FnG P w K mg base (k + 1) f fd ps sp := by
  obtain ⟨oc, od, dV, kV, doc, pm, an, cdv, ct, osl, rfl, lk, hcd, _, _⟩ := F.ex
  refine ⟨len, ?_⟩
  intro A outer s H args us vs Q E hr hg e0 hb r hsp
  have KX : K.In s.heap := by
    refine e0.mod.kin.keeps ?_
    intro b o e
    exact (e0.bs b o e).1
  have lim : s.heap.NoLimit := by
    refine e0.mod.nolimit.keeps ?_
    intro b o e
    exact (e0.bs b o e).1
  have hkind : ∀ y ∈ ps.zip us, scope.names.lookup y.1 = some .local ∨
      (scope.names.lookup y.1 = some .cell ∧ ((cellsFrom (s.heap.objs.size + 1) scope.names []).lookup y.1).isSome = true) := by
    rintro ⟨n, v⟩ hy
    have hn := (List.of_mem_zip hy).1
    cases S.par n hn with
    | inl q => exact .inl q
    | inr q => exact .inr ⟨q, PySem.W.cellsFrom_some _ _ _ (.inl q)⟩
  refine codeAny_call_function hr.depth (KX _ _ lk) rfl S.co S.gen rfl
    (PySem.W.codeRec_of KX hcd) (hb _ _ _ _ ?_)
  refine wpAny_newFunctionEnv_cells S.kind hkind ?_
  intro env he s1 hin
  subst he
  refine ⟨lim.keeps hin.toInCall.keep, codeAny_func ?_⟩
  obtain ⟨t, ht, hq⟩ := hbody cdv A outer s H vs Q E (hr.deeper _) hg hsp
  have I : Inv (cxOf (L2.CX P w) P w K mg base N qual scope f cdv A outer s H E) [] (start N vs) H s1 :=
    inv_start S hr.hd e0 (len _ _ _ _ hsp) r hin
  refine wpAny_mono (ht.run [] s1 (start N vs) H _ I hq) ?_ (fun e s' hs => hs)
  intro fl s' hs
  cases fl with
  | ret u =>
    obtain ⟨v, σ', H', J, rv, q⟩ := hs
    exact ⟨v, H', J.os, J.bare, J.base, J.hok, rv, q⟩
  | next =>
    obtain ⟨σ', H', J, q⟩ := hs
    exact ⟨V.non, H', J.os, J.bare, J.base, J.hok, rfl, q⟩
  | brk =>
    obtain ⟨_, _, _, q⟩ := hs
    exact False.elim q
  | cont =>
    obtain ⟨_, _, _, q⟩ := hs
    exact False.elim q
end

section
variable {X : Cx} {k n : Nat} {f : Addr} {fd : FuncData} {ps ks : List Str} {sp : Sp} {dvs : List V} {ds : List Value} {W : WX} {x : Str} {p pos : Pos} {es : List Expr} {kws : List Keyword} {t tk : TA}
theorem FnG.runs {pins : List (Addr × Obj)} {σ : L2.St} {H : Hp} {s : Shared} {Q : VK} {as : Args} {us : List Value} {vs : List V}
    (F : FnG X.prog X.w X.K X.mg X.base k f fd ps sp) (hr : Room k X.A) (hg : X.A.guards = some []) (tk : Takes X W) (I : Inv X pins σ H s)
    (b : BindsTo s fd as (ps.zip us)) (r : Vals vs us) (h : sp vs H Q (WE W σ)) :
    codeAny (model X.prog X.w) X.A (.call (.ref f) as) (fun r s' => match r with
      | .ok (.ret u) => EP X pins σ Q u s'
      | .ok _ => False
      | .error e => X.xe e s') s := by
  refine codeAny_mono (F.run X.A X.stack s H as us vs Q (WE W σ) hr hg I.env0 b r h) ?_
  intro r s' hq
  match r, hq with
  | .error e, hq => exact passAt tk σ pins H s e s' I hq
  | .ok (.ret u), hq => exact I.after hq
  | .ok .next, hq => exact False.elim hq
  | .ok .brk, hq => exact False.elim hq
  | .ok .cont, hq => exact False.elim hq

/-- f(e, .., k = v, ..): g puts the values in the parameters' order -/
def tCallGK (n m : Nat) (sp : Sp) (gV : List V → List V) (W : WX) (t tk : TA) : TE := fun σ H Q => t σ H fun vs H1 => tk σ H1 fun zs H2 => vs.length = n ∧ zs.length = m ∧ sp (gV (vs ++ zs)) H2 Q (WE W σ)
theorem pe_callGK {g : List Value → List Value} {gV : List V → List V} {tkw : TA} (F : FnG X.prog X.w X.K X.mg X.base k f fd ps sp) (hr : Room k X.A) (hg : X.A.guards = some []) (tk : Takes X W) (gl : Gl X x) (hm : X.mg x = some (.ref f))
    (hk : PySem.W.keepIn X.K (.ref f) = true) (hdb : (x == ("__debug__" : Str)) = false)
    (hb : ∀ (s : Shared) (us ws : List Value), X.K.In s.heap → us.length = n → ws.length = ks.length → BindsTo s fd ⟨us, ks.zip ws⟩ (ps.zip (g (us ++ ws)))) (hrel : ∀ {vs : List V} {us : List Value}, Vals vs us → Vals (gV vs) (g us))
    (ha : PA X es t) (hkw : PK X kws tkw) (hall : (backToKw pos (keywordEach kws X.env)).all (·.1.isSome) = true) (hks : (backToKw pos (keywordEach kws X.env)).filterMap (·.1) = ks)
    (hst : ∀ e r, es = e :: r → starEach es X.env = (false, eval e X.env) :: starEach r X.env) (hpl : ((backTo pos (starEach es X.env)).any (·.1) || (backToKw pos (keywordEach kws X.env)).any (·.1.isNone)) = false)
    (h0 : es = [] → ∀ σ H Q, t σ H Q → Q [] H) :
    PE X (.Call (.Name x p) es kws pos) (tCallGK n ks.length sp gV W t tkw) := by
  refine ⟨?_⟩
  intro pins s σ H Q I h
  have go : ∀ {s2 : Shared} {H2 : Hp} {us ws : List Value} {vs zs : List V}, Inv X pins σ H2 s2 → Vals vs us → Vals zs ws → vs.length = n → zs.length = ks.length → sp (gV (vs ++ zs)) H2 Q (WE W σ) →
      wpAny (model X.prog X.w) X.A (call (.ref f) us (ks.zip ws)) (EP X pins σ Q) X.xe s2 := by
    intro s2 H2 us ws vs zs I2 r rz l1 l2 q
    have b := hb s2 us ws I2.kIn (by rw [← r.length]; exact l1) (by rw [← rz.length]; exact l2)
    refine wpAny_call (codeAny_mono (F.runs hr hg tk I2 b (hrel (r.append rz)) q) ?_)
    intro r s' hq
    match r, hq with
    | .error e, hq => exact hq
    | .ok (.ret u), hq => exact hq
    | .ok .next, hq => exact False.elim hq
    | .ok .brk, hq => exact False.elim hq
    | .ok .cont, hq => exact False.elim hq
  refine wpAny_Call_Name_kw (ld_glob I gl hm ?_ hdb)
  cases es with
  | nil =>
    have h1 := h0 rfl σ H _ h
    refine PySem.W.callWith_KW0 (h₀ := X.base) I.ok.mod.kin hk hall ?_ hpl
    refine thn (hkw.run pos pins s σ H _ I h1) ?_
    rintro ws s2 ⟨zs, H2, I2, rz, l1, l2, q⟩
    refine ⟨I2.kIn, ?_⟩
    rw [hks]
    exact go (us := []) I2 .nil rz l1 l2 q
  | cons e r =>
    refine PySem.W.callWith_KW (h₀ := X.base) I.ok.mod.kin hk hall ?_ hpl (hst e r rfl)
    refine thn (ha.run pos pins s σ H _ I h) ?_
    rintro us s1 ⟨vs, H1, I1, rv, q1⟩
    refine thn (hkw.run pos pins s1 σ H1 _ I1 q1) ?_
    rintro ws s2 ⟨zs, H2, I2, rz, l1, l2, q⟩
    refine ⟨I2.kIn, ?_⟩
    rw [hks]
    exact go I2 rv rz l1 l2 q
end

/-! ### a law's end -/
section
open PySem.W
/-- the law's promise is asked for at its one entry alone, where no guard is up -/
theorem law_runG {P : Program} {w : World} {K : Frag} {mg mb : Str → Option Value} {k : Nat} {fa a : Addr} {fd : FuncData} {x : Str} {sp : Sp} {s1 : Shared} {vs : List Value} {ns : List Int}
    (kin : K.In s1.heap) (nsG : s1.heap.Ns mainGlobals mg) (nsB : s1.heap.Ns builtinsNs mb) (boot : ∀ y : Str, y ≠ "__name__" → mb y = bootBuiltins y) (free : s1.heap.NoLimit) (noGen : s1.gens = #[])
    (scr : s1.heap.get? a = some { cls := .type "list", data := .seq vs.toArray }) (hints : IntsAre vs ns) (short : ns.length ≤ sizeLine) (room : Room k callerA)
    (F : ∀ base : Heap, K.In base → base.Ns mainGlobals mg → FnG P w K mg base k fa fd [x] sp) (binds : ∀ (s : Shared) (u : Value), BindsTo s fd ⟨[u], []⟩ [(x, u)])
    (ask : ∀ H : Hp, Lp K H ⟨[], []⟩ a (ns.map V.int) → sp [.ref a] H (fun v _ => v = .bl true) fun _ _ _ => False) :
    codeAny (model P w) callerA (.call (.ref fa) ⟨[.ref a], []⟩) (fun r t => r = .ok (.ret (.bool true)) ∧ OldK s1.heap t.heap ∧ t.os = s1.os ∧ AllBare t.gens) s1 := by
  have sz := hints.length
  have main : ∀ H : Hp, Only H → Lp K H ⟨[], []⟩ a (ns.map V.int) → HOk P w H s1.heap → (∀ b, H b ≠ none → b = a) → (H a ≠ none → K.lookup a = none) →
      codeAny (model P w) callerA (.call (.ref fa) ⟨[.ref a], []⟩) (fun r t => r = .ok (.ret (.bool true)) ∧ OldK s1.heap t.heap ∧ t.os = s1.os ∧ AllBare t.gens) s1 := by
    intro H only sq okH atA notK
    have dictNone : ∀ {b : Addr} {o : Obj} {es : Array DictEntry} {ep : Nat}, s1.heap.get? b = some o → o.data = .dict es ep → H b = none := by
      intro b o es ep e hd
      cases q : H b with
      | none => rfl
      | some u =>
        obtain rfl : b = a := atA b (by simp [q])
        rw [scr] at e
        obtain rfl := Option.some.inj e
        exact Data.noConfusion hd
    have nsUp : ∀ {b : Addr} {m : Str → Option Value}, s1.heap.Ns b m → (hidT s1.heap H).Ns b m := by
      rintro b m ⟨o, es, ep, e, hd, r⟩
      exact ⟨o, es, ep, hidT_get e (dictNone e hd), hd, r⟩
    have kinUp : K.In (hidT s1.heap H) := by
      intro b o e
      refine hidT_get (kin b o e) ?_
      cases q : H b with
      | none => rfl
      | some u =>
        obtain rfl : b = a := atA b (by simp [q])
        rw [notK (by simp [q])] at e
        cases e
    have md : Mod K mg (hidT s1.heap H) := by
      obtain ⟨mc, c1, c2⟩ := free
      exact ⟨kinUp, nsUp nsG, ⟨mb, nsUp nsB, boot⟩, mc, nsUp c1, c2⟩
    have env : Env0 P w K mg (hidT s1.heap H) callerA [] s1 H :=
      ⟨rfl, md, fun b o e => of_hidT e, Nat.le_of_eq (hidT_size _ _), trivial, fun b hb => (List.not_mem_nil hb).elim, okH, .of_eq noGen⟩
    have go := (F _ kinUp (nsUp nsG)).run callerA [] s1 H ⟨[.ref a], []⟩ [.ref a] [.ref a] (fun v _ => v = .bl true) (fun _ _ _ => False) room rfl env
      (binds s1 (.ref a)) (.cons rfl .nil) (ask H sq)
    refine codeAny_mono go ?_
    rintro (e | f) t h
    · obtain ⟨_, _, _, _, _, _, _, _, _, _, _, _, no⟩ := h
      exact no.elim
    · cases f with
      | next | brk | cont => exact h.elim
      | ret u =>
        obtain ⟨v, H', hos, hbare, un, okH', rv, rfl⟩ := h
        obtain rfl : u = Value.bool true := rv
        refine ⟨rfl, OldK.of_keep ?_, hos, hbare⟩
        intro b o e
        cases q : H b with
        | none => exact un.keep b o e q (List.not_mem_nil) (by simp)
        | some u =>
          rcases only b with z | ⟨ob, xs, z⟩
          · rw [q] at z
            cases z
          · obtain ⟨e1, _⟩ := okH b _ z
            obtain ⟨e2, _⟩ := okH' b _ (un.frzs b ob _ z)
            exact (e1.symm.trans e) ▸ e2
  by_cases hk : K.lookup a = none
  · refine main (fun b => if b = a then some (.frz { cls := .type "list", data := .seq vs.toArray } (.lst (ns.map V.int))) else none) ?_ (.inl ⟨⟨List.not_mem_nil, List.not_mem_nil⟩, .inr ⟨_, if_pos rfl⟩⟩) ?_ ?_ fun _ => hk
    · intro b
      by_cases h : b = a
      · exact .inr ⟨_, _, if_pos h⟩
      · exact .inl (if_neg h)
    · intro b u z
      by_cases h : b = a
      · subst h
        have y : (if b = b then some (HO.frz { cls := .type "list", data := .seq vs.toArray } (.lst (ns.map V.int))) else none) = some u := z
        rw [if_pos rfl] at y
        obtain rfl := Option.some.inj y
        exact ⟨scr, by rw [List.length_map]; exact short, vs, _, vals_ints hints, scr⟩
      · have y : (if b = a then some (HO.frz { cls := .type "list", data := .seq vs.toArray } (.lst (ns.map V.int))) else none) = some u := z
        rw [if_neg h] at y
        cases y
    · intro b z
      exact Decidable.byContradiction fun h => z (if_neg h)
  · obtain ⟨o, ho⟩ := Option.ne_none_iff_exists'.mp hk
    obtain rfl : { cls := .type "list", data := .seq vs.toArray } = o := Option.some.inj (scr.symm.trans (kin a o ho))
    refine main (fun _ => none) (fun _ => .inl rfl) (.inr ⟨vs.toArray, _, ho, ?_, ?_⟩) (fun b u z => ?_) (fun b z => (z rfl).elim) fun z => (z rfl).elim
    · rw [List.size_toArray, sz]
      exact short
    · exact vals_ints hints
    · cases z

theorem walk_G {l : OpenLaw} {n k : Nat} {q : Program} {loose : List Str} {XP : (Str → Option Value) → Heap → Prop} {YP : World → Heap → Prop} {d : DefRec} {x : Str}
    (hn : l.most = some n) (hn2 : n ≤ sizeLine) (hdf : d.params.defaults = []) (room : Room k callerA)
    (F : ∀ (w : World) (mg : Str → Option Value) (fa : Addr) (h : Heap), YP w h → h.Ns mainGlobals mg → mg d.name = some (.ref fa) →
      ∃ (K : Frag) (fd : FuncData) (sp : Sp), K.In h ∧ (∀ (s : Shared) (u : Value), BindsTo s fd ⟨[u], []⟩ [(x, u)]) ∧
        (∀ (H : Hp) (a : Addr) (ns : List Int), ns.length ≤ n → Lp K H ⟨[], []⟩ a (ns.map V.int) → sp [.ref a] H (fun v _ => v = .bl true) fun _ _ _ => False) ∧
        ∀ base : Heap, K.In base → base.Ns mainGlobals mg → FnG l.prog w K mg base k fa fd [x] sp) :
    WalkO q loose XP YP l.row.toRowW d [] (fun f vs => PySem.call f vs) := by
  refine Att.attach_call hn hdf ?_
  intro w s₀ s1 mg mb fa o pm cd doc a vs ns G Y ho hd hcd hmg scr hints len noGen
  obtain ⟨K, fd, sp, kin, binds, ask, hF⟩ := F w mg fa _ Y G.T.g hmg
  exact law_runG kin G.T.g G.T.b G.T.builtins G.T.nolimit noGen scr hints (Nat.le_trans len hn2) room hF binds fun H sq => ask H a ns len sq
end
end Ws
end

section
set_option Elab.async false
set_option linter.all false
set_option maxRecDepth 100000
set_option autoImplicit false
/-! What the simple interpreter says of an expression holds of the machine. -/
namespace Ws
open PySem PySem.Spec PyProof.Rows L2

/-! ### weaker readings -/
section
variable {X : Cx}
theorem _root_.L2.PE.imp {e : Expr} {t t' : TE} (h : PE X e t) (i : ∀ σ H Q, t' σ H Q → t σ H Q) : PE X e t' := ⟨fun pins s σ H Q I q => h.run pins s σ H Q I (i σ H Q q)⟩
theorem _root_.L2.PT.imp {e : Expr} {t t' : TT} (h : PT X e t) (i : ∀ σ H Q, t' σ H Q → t σ H Q) : PT X e t' := ⟨fun pins s σ H Q I q => h.run pins s σ H Q I (i σ H Q q)⟩
theorem _root_.L2.PW.imp {e : Expr} {t t' : TT} (h : PW X e t) (i : ∀ σ H Q, t' σ H Q → t σ H Q) : PW X e t' := ⟨fun whole pins s σ H Q I q => h.run whole pins s σ H Q I (i σ H Q q)⟩
theorem _root_.L2.PA.imp {e : List Expr} {t t' : TA} (h : PA X e t) (i : ∀ σ H Q, t' σ H Q → t σ H Q) : PA X e t' := ⟨fun pos pins s σ H Q I q => h.run pos pins s σ H Q I (i σ H Q q)⟩
theorem _root_.L2.PK.imp {e : List Keyword} {t t' : TA} (h : PK X e t) (i : ∀ σ H Q, t' σ H Q → t σ H Q) : PK X e t' := ⟨fun pos pins s σ H Q I q => h.run pos pins s σ H Q I (i σ H Q q)⟩
theorem _root_.L2.PO.imp {e : Option Expr} {t t' : TO} (h : PO X e t) (i : ∀ σ H Q, t' σ H Q → t σ H Q) : PO X e t' := ⟨fun pins s σ H Q I q => h.run pins s σ H Q I (i σ H Q q)⟩
theorem _root_.L2.PI.imp {tg e : Expr} {t t' : TI} (h : PI X tg e t) (i : ∀ σ H Q, t' σ H Q → t σ H Q) : PI X tg e t' := ⟨fun pins s σ H Q I q => h.run pins s σ H Q I (i σ H Q q)⟩
theorem _root_.L2.PG.imp {e : Expr} {t t' : TG} (h : PG X e t) (i : ∀ v σ H Q, t' v σ H Q → t v σ H Q) : PG X e t' := ⟨fun pins s σ H v u Q I r q => h.run pins s σ H v u Q I r (i v σ H Q q)⟩
theorem _root_.L2.PS.imp {e : Stmt} {t t' : TS} (h : PS X e t) (i : ∀ D σ H, t' D σ H → t D σ H) : PS X e t' := ⟨fun pins s σ H D I q => h.run pins s σ H D I (i D σ H q)⟩
theorem _root_.L2.PSs.imp {e : List Stmt} {t t' : TS} (h : PSs X e t) (i : ∀ D σ H, t' D σ H → t D σ H) : PSs X e t' := ⟨fun pins s σ H D I q => h.run pins s σ H D I (i D σ H q)⟩
end

/-! ### the readings of core texts -/
/-- the state that the interpreter's run starts from -/
structure At (K : PySem.W.Frag) (env : SE) (h : SH) (M : Ms) (σ : L2.St) (H : Hp) : Prop where
  rs : RS K H M env σ
  rh : RH K H M h
def SE' (X : Cx) (p : Pr) (W : WX) (e : CE) : TE := fun σ H Q => ∃ env h M, At X.K env h M σ H ∧ SemR X.K X.mg (ev p e env h) H M (WE W σ) fun v _ H' M' => ∀ x, Rep X.K H' M' v x → Q x H'
def ST (X : Cx) (p : Pr) (W : WX) (e : CE) : TT := fun σ H Q => ∃ env h M, At X.K env h M σ H ∧ SemR X.K X.mg (evT p e env h) H M (WE W σ) fun b _ H' M' => Q b H'
def SA (X : Cx) (p : Pr) (W : WX) (e : CEs) : TA := fun σ H Q => ∃ env h M, At X.K env h M σ H ∧ SemR X.K X.mg (evs p e env h) H M (WE W σ) fun vs _ H' M' => ∀ xs, RepL X.K H' M' vs xs → Q xs H'
def SO_ (X : Cx) (p : Pr) (W : WX) (e : CO) : TO := fun σ H Q => ∃ env h M, At X.K env h M σ H ∧ SemR X.K X.mg (evo p e env h) H M (WE W σ) fun i _ H' M' => Q i H'
def SI (X : Cx) (p : Pr) (W : WX) (it : CI) : TI := fun σ H R => ∃ env h M, At X.K env h M σ H ∧ SemR X.K X.mg (evi p it env h) H M (WE W σ) fun xs _ H' M' => ∀ J, Seen X.K J xs H' M' → R J H'

section
variable {X : Cx} {p : Pr} {W : WX} {env : SE} {h h' : SH} {M M' : Ms} {σ : L2.St} {H H' : Hp}
theorem At.go (a : At X.K env h M σ H) (e : Evo H M H' M') (r : RH X.K H' M' h') : At X.K env h' M' σ H' := ⟨a.rs.mono e, r⟩

/-! ### an expression behind another -/
theorem two {a b : CE} {f : SH → SV → SV → Option SV} {Q : VK} (at_ : At X.K env h M σ H)
    (s : SemR X.K X.mg ((ev p a env h).bind fun x h => (ev p b env h).bind fun y h => Ws.ofO h (f h x y)) H M (WE W σ) fun v _ H' M' => ∀ x, Rep X.K H' M' v x → Q x H') :
    tOp (rB X.K f) (SE' X p W a) (SE' X p W b) σ H Q := by
  refine ⟨env, h, M, at_, s.bind.mono ?_⟩
  intro v h1 H1 M1 e1 r1 s1 x rx
  refine ⟨env, h1, M1, at_.go e1 r1, s1.bind.mono ?_⟩
  intro w h2 H2 M2 e2 r2 s2 y ry
  obtain ⟨z, ez, s3⟩ := s2.ofO
  exact ⟨v, w, z, h2, M2, r2, rx.mono e2, ry, ez, s3⟩
theorem e_bin {a b : CE} {op : BOp} {o : Operator} {l r : Expr} {pos : Pos} (ho : opB op o = true) (ha : PE X l (SE' X p W a)) (hb : PE X r (SE' X p W b)) : PE X (.BinOp l o r pos) (SE' X p W (.bin op a b)) := by
  have e : o = opO op := by cases op <;> cases o <;> first | rfl | cases ho
  subst e
  refine (pe_op (op_bin op) ha hb).imp ?_
  rintro σ H Q ⟨env, h, M, at_, s⟩
  exact two (f := fun _ v w => binop op v w) at_ s
theorem e_neg {a : CE} {l : Expr} {pos : Pos} (ha : PE X l (SE' X p W a)) : PE X (.UnaryOp .USub l pos) (SE' X p W (.neg a)) := by
  refine (pe_un un_neg ha).imp ?_
  rintro σ H Q ⟨env, h, M, at_, s⟩
  refine ⟨env, h, M, at_, s.bind.mono ?_⟩
  intro v h1 H1 M1 e1 r1 s1 x rx
  obtain ⟨z, ez, s3⟩ := s1.ofO
  obtain ⟨i, e, rfl⟩ := Option.map_eq_some_iff.mp ez
  obtain rfl := asInt_rep rx e
  exact ⟨i, rfl, s3.here r1 _ (.int _)⟩
theorem cmp2 {a b : CE} {op : COp} {Q : VK} (at_ : At X.K env h M σ H)
    (s : SemR X.K X.mg ((ev p a env h).bind fun x h => (ev p b env h).bind fun y h => Ws.ofO h ((cmpop h op x y).map SV.bl)) H M (WE W σ) fun v _ H' M' => ∀ x, Rep X.K H' M' v x → Q x H') :
    tOp (rC X.K op) (SE' X p W a) (SE' X p W b) σ H Q := by
  refine ⟨env, h, M, at_, s.bind.mono ?_⟩
  intro v h1 H1 M1 e1 r1 s1 x rx
  refine ⟨env, h1, M1, at_.go e1 r1, s1.bind.mono ?_⟩
  intro w h2 H2 M2 e2 r2 s2 y ry
  obtain ⟨z, ez, s3⟩ := s2.ofO
  obtain ⟨b, eb, rfl⟩ := Option.map_eq_some_iff.mp ez
  exact ⟨v, w, b, h2, M2, r2, rx.mono e2, ry, eb, s3.here r2 _ (.bl _)⟩
theorem opC_eq {op : COp} {o : CmpOp} (ho : opC op o = true) : o = opK op := by
  cases op <;> cases o <;> first | rfl | cases ho
theorem e_cmp {a b : CE} {op : COp} {o : CmpOp} {l r : Expr} {pos : Pos} (hu : X.A.units + 65 < cLine) (ho : opC op o = true) (hm : behindInMarks o r = false) (ha : PE X l (SE' X p W a)) (hb : PE X r (SE' X p W b)) :
    PE X (.Compare l [o] [r] pos) (SE' X p W (.cmp op a b)) := by
  obtain rfl := opC_eq ho
  refine (pe_cmpR (op_cmp hu op) ha hb hm).imp ?_
  rintro σ H Q ⟨env, h, M, at_, s⟩
  exact cmp2 at_ s
theorem t_cmp {a b : CE} {op : COp} {o : CmpOp} {l r : Expr} {pos : Pos} (hu : X.A.units + 65 < cLine) (ho : opC op o = true) (hm : behindInMarks o r = false) (ha : PE X l (SE' X p W a)) (hb : PE X r (SE' X p W b)) :
    PT X (.Compare l [o] [r] pos) (ST X p W (.cmp op a b)) := by
  obtain rfl := opC_eq ho
  refine (pt_cmpR (op_cmp hu op) ha hb hm).imp ?_
  rintro σ H Q ⟨env, h, M, at_, s⟩
  refine ⟨env, h, M, at_, s.bind.mono ?_⟩
  intro v h1 H1 M1 e1 r1 s1 x rx
  refine ⟨env, h1, M1, at_.go e1 r1, s1.bind.mono ?_⟩
  intro w h2 H2 M2 e2 r2 s2 y ry
  obtain ⟨b, eb, s3⟩ := s2.ofO
  exact ⟨v, w, b, h2, M2, r2, rx.mono e2, ry, eb, b, rfl, s3.here r2⟩
theorem e_chain {a b c : CE} {o1 o2 : COp} {q1 q2 : CmpOp} {l m r : Expr} {pos : Pos} (hu : X.A.units + 65 < cLine) (h1 : opC o1 q1 = true) (h2 : opC o2 q2 = true) (hm : lastMarks [q1, q2] [m, r] = false)
    (ha : PE X l (SE' X p W a)) (hb : PE X m (SE' X p W b)) (hc : PE X r (SE' X p W c)) : PE X (.Compare l [q1, q2] [m, r] pos) (SE' X p W (.chain o1 o2 a b c)) := by
  obtain rfl := opC_eq h1
  obtain rfl := opC_eq h2
  refine (pe_chain (op_cmp hu o1) (op_cmp hu o2) ha hb hc hm).imp ?_
  rintro σ H Q ⟨env, h, M, at_, s⟩
  refine ⟨env, h, M, at_, s.bind.mono ?_⟩
  intro v h1 H1 M1 e1 r1 s1 x rx
  refine ⟨env, h1, M1, at_.go e1 r1, s1.bind.mono ?_⟩
  intro w h2 H2 M2 e2 r2 s2 y ry
  cases eb : cmpop h2 o1 v w with
  | none => rw [eb] at s2; exact s2.elim
  | some k =>
    refine ⟨v, w, k, h2, M2, r2, rx.mono e2, ry, eb, k, rfl, ?_⟩
    rw [eb] at s2
    cases k with
    | false => exact s2.here r2 _ (.bl _)
    | true =>
      refine ⟨env, h2, M2, (at_.go e1 r1).go e2 r2, s2.bind.mono ?_⟩
      intro u h3 H3 M3 e3 r3 s3 z rz
      obtain ⟨t, et, s4⟩ := s3.ofO
      obtain ⟨k2, ek, rfl⟩ := Option.map_eq_some_iff.mp et
      exact ⟨w, u, k2, h3, M3, r3, ry.mono e3, rz, ek, s4.here r3 _ (.bl _)⟩
theorem t_chain {a b c : CE} {o1 o2 : COp} {q1 q2 : CmpOp} {l m r : Expr} {pos : Pos} (hu : X.A.units + 65 < cLine) (h1 : opC o1 q1 = true) (h2 : opC o2 q2 = true) (hm : lastMarks [q1, q2] [m, r] = false)
    (ha : PE X l (SE' X p W a)) (hb : PE X m (SE' X p W b)) (hc : PE X r (SE' X p W c)) : PT X (.Compare l [q1, q2] [m, r] pos) (ST X p W (.chain o1 o2 a b c)) := by
  obtain rfl := opC_eq h1
  obtain rfl := opC_eq h2
  refine (pt_chain (op_cmp hu o1) (op_cmp hu o2) ha hb hc hm).imp ?_
  rintro σ H Q ⟨env, h, M, at_, s⟩
  refine ⟨env, h, M, at_, s.bind.mono ?_⟩
  intro v h1 H1 M1 e1 r1 s1 x rx
  refine ⟨env, h1, M1, at_.go e1 r1, s1.bind.mono ?_⟩
  intro w h2 H2 M2 e2 r2 s2 y ry
  cases eb : cmpop h2 o1 v w with
  | none => rw [eb] at s2; exact s2.elim
  | some k =>
    refine ⟨v, w, k, h2, M2, r2, rx.mono e2, ry, eb, k, rfl, ?_⟩
    rw [eb] at s2
    cases k with
    | false => exact ⟨false, rfl, s2.here r2⟩
    | true =>
      refine ⟨env, h2, M2, (at_.go e1 r1).go e2 r2, s2.bind.mono ?_⟩
      intro u h3 H3 M3 e3 r3 s3 z rz
      obtain ⟨k2, ek, s4⟩ := s3.ofO
      exact ⟨w, u, k2, h3, M3, r3, ry.mono e3, rz, ek, k2, rfl, s4.here r3⟩

/-! ### and, or, not, if -/
theorem bl_rep {K : PySem.W.Frag} {v : SV} {b : Bool} {x : V} (r : Rep K H M v x) (e : v = .bl b) : x = .bl b := by
  subst e
  cases r
  rfl
theorem e_and {a b : CE} {l m : Expr} {r : List Expr} {pos : Pos} (ha : PE X l (SE' X p W a)) (hb : PE X (.BoolOp .And (m :: r) pos) (SE' X p W b)) : PE X (.BoolOp .And (l :: m :: r) pos) (SE' X p W (.and a b)) := by
  refine (pe_and ha hb).imp ?_
  rintro σ H Q ⟨env, h, M, at_, s⟩
  refine ⟨env, h, M, at_, s.bind.mono ?_⟩
  intro v h1 H1 M1 e1 r1 s1 x rx
  cases v with
  | bl c =>
    cases rx
    cases c with
    | true => exact ⟨true, rfl, env, h1, M1, at_.go e1 r1, s1⟩
    | false => exact ⟨false, rfl, s1.here r1 _ (.bl _)⟩
  | _ => exact s1.elim
theorem e_or {a b : CE} {l m : Expr} {r : List Expr} {pos : Pos} (ha : PE X l (SE' X p W a)) (hb : PE X (.BoolOp .Or (m :: r) pos) (SE' X p W b)) : PE X (.BoolOp .Or (l :: m :: r) pos) (SE' X p W (.or a b)) := by
  refine (pe_or ha hb).imp ?_
  rintro σ H Q ⟨env, h, M, at_, s⟩
  refine ⟨env, h, M, at_, s.bind.mono ?_⟩
  intro v h1 H1 M1 e1 r1 s1 x rx
  cases v with
  | bl c =>
    cases rx
    cases c with
    | true => exact ⟨true, rfl, s1.here r1 _ (.bl _)⟩
    | false => exact ⟨false, rfl, env, h1, M1, at_.go e1 r1, s1⟩
  | _ => exact s1.elim
theorem w_and {a b : CE} {l m : Expr} {r : List Expr} {pos : Pos} (ha : PT X l (ST X p W a)) (hb : PW X (.BoolOp .And (m :: r) pos) (ST X p W b)) : PW X (.BoolOp .And (l :: m :: r) pos) (ST X p W (.and a b)) := by
  refine (pw_and ha hb).imp ?_
  rintro σ H Q ⟨env, h, M, at_, s⟩
  refine ⟨env, h, M, at_, s.bind.mono ?_⟩
  intro c h1 H1 M1 e1 r1 s1
  cases c with
  | true => exact ⟨env, h1, M1, at_.go e1 r1, s1⟩
  | false => exact s1.here r1
theorem w_or {a b : CE} {l m : Expr} {r : List Expr} {pos : Pos} (ha : PT X l (ST X p W a)) (hb : PW X (.BoolOp .Or (m :: r) pos) (ST X p W b)) : PW X (.BoolOp .Or (l :: m :: r) pos) (ST X p W (.or a b)) := by
  refine (pw_or ha hb).imp ?_
  rintro σ H Q ⟨env, h, M, at_, s⟩
  refine ⟨env, h, M, at_, s.bind.mono ?_⟩
  intro c h1 H1 M1 e1 r1 s1
  cases c with
  | true => exact s1.here r1
  | false => exact ⟨env, h1, M1, at_.go e1 r1, s1⟩
theorem e_not {a : CE} {l : Expr} {pos : Pos} (ha : PE X l (SE' X p W a)) : PE X (.UnaryOp .Not l pos) (SE' X p W (.not a)) := by
  refine (pe_notT ha).imp ?_
  rintro σ H Q ⟨env, h, M, at_, s⟩
  refine ⟨env, h, M, at_, s.bind.mono ?_⟩
  intro v h1 H1 M1 e1 r1 s1 x rx
  obtain ⟨z, ez, s3⟩ := s1.ofO
  obtain ⟨b, eb, rfl⟩ := Option.map_eq_some_iff.mp ez
  exact ⟨b, tru_rep r1 rx eb, s3.here r1 _ (.bl _)⟩
theorem t_not {a : CE} {l : Expr} {pos : Pos} (ha : PT X l (ST X p W a)) : PT X (.UnaryOp .Not l pos) (ST X p W (.not a)) := by
  refine (pt_not ha).imp ?_
  rintro σ H Q ⟨env, h, M, at_, s⟩
  refine ⟨env, h, M, at_, s.bind.mono ?_⟩
  intro b h1 H1 M1 e1 r1 s1
  exact s1.here r1
theorem e_ite {t a b : CE} {c l r : Expr} {pos : Pos} (hc : PT X c (ST X p W t)) (ha : PE X l (SE' X p W a)) (hb : PE X r (SE' X p W b)) : PE X (.IfExp c l r pos) (SE' X p W (.ite t a b)) := by
  refine (pe_ifExp hc ha hb).imp ?_
  rintro σ H Q ⟨env, h, M, at_, s⟩
  refine ⟨env, h, M, at_, s.bind.mono ?_⟩
  intro k h1 H1 M1 e1 r1 s1
  cases k with
  | true => exact ⟨env, h1, M1, at_.go e1 r1, s1⟩
  | false => exact ⟨env, h1, M1, at_.go e1 r1, s1⟩
/-- a value's truth, as a test -/
theorem t_val {e : CE} {x : Expr} (he : ∀ whole, isTrue x X.env whole = (do let v ← whole; standAt x.pos; holding [v] (truthy v))) (hx : PE X x (SE' X p W e))
    (hT : ∀ env h, evT p e env h = (ev p e env h).bind fun v h => Ws.ofO h (truthOf h v)) : PT X x (ST X p W e) := by
  refine (pt_truth hx he).imp ?_
  rintro σ H Q ⟨env, h, M, at_, s⟩
  rw [hT] at s
  refine ⟨env, h, M, at_, s.bind.mono ?_⟩
  intro v h1 H1 M1 e1 r1 s1 x rx
  obtain ⟨b, eb, s3⟩ := s1.ofO
  exact ⟨b, tru_rep r1 rx eb, s3.here r1⟩

/-! ### lists of expressions -/
theorem star_plain {e : Expr} {r : List Expr} {env : Env} (h : plainE e = true) : starEach (e :: r) env = (false, eval e env) :: starEach r env := by
  cases e <;> first | rfl | cases h
theorem a_cons {e : CE} {r : CEs} {x : Expr} {xs : List Expr} (hp : plainE x = true) (h1 : PE X x (SE' X p W e)) (h2 : PA X xs (SA X p W r)) : PA X (x :: xs) (SA X p W (.cons e r)) := by
  refine (pa_cons h1 h2 (star_plain hp)).imp ?_
  rintro σ H Q ⟨env, h, M, at_, s⟩
  refine ⟨env, h, M, at_, s.bind.mono ?_⟩
  intro v h1 H1 M1 e1 r1 s1 x rx
  refine ⟨env, h1, M1, at_.go e1 r1, s1.bind.mono ?_⟩
  intro vs h2 H2 M2 e2 r2 s2 xs rxs
  exact s2.here r2 _ (.cons (rx.mono e2) rxs)
theorem a_nil : PA X [] (SA X p W .nil) := by
  refine pa_nil.imp ?_
  rintro σ H Q ⟨env, h, M, at_, s⟩
  exact s.here at_.rh _ .nil
theorem k_nil : PK X [] (SA X p W .nil) := by
  refine pk_nil.imp ?_
  rintro σ H Q ⟨env, h, M, at_, s⟩
  exact s.here at_.rh _ .nil
theorem k_cons {e : CE} {r : CEs} {x : Expr} {n : Option Str} {kp : Pos} {xs : List Keyword} (h1 : PE X x (SE' X p W e)) (h2 : PK X xs (SA X p W r)) : PK X (⟨n, x, kp⟩ :: xs) (SA X p W (.cons e r)) := by
  refine (pk_cons h1 h2).imp ?_
  rintro σ H Q ⟨env, h, M, at_, s⟩
  refine ⟨env, h, M, at_, s.bind.mono ?_⟩
  intro v h1 H1 M1 e1 r1 s1 x rx
  refine ⟨env, h1, M1, at_.go e1 r1, s1.bind.mono ?_⟩
  intro vs h2 H2 M2 e2 r2 s2 xs rxs
  exact s2.here r2 _ (.cons (rx.mono e2) rxs)
theorem e_tup {es : CEs} {xs : List Expr} {k : Nat} {pos : Pos} (h : PA X xs (SA X p W es)) : PE X (.Tuple xs k pos) (SE' X p W (.tup es)) := by
  refine (pe_tup h).imp ?_
  rintro σ H Q ⟨env, h, M, at_, s⟩
  refine ⟨env, h, M, at_, s.bind.mono ?_⟩
  intro vs h1 H1 M1 e1 r1 s1 xs rx
  split at s1
  · rename_i hl
    exact ⟨by rw [← rx.length, sizeLine_eq]; exact of_decide_eq_true hl, fun q hq => Give.tup (Q := Q) s1 r1 rx q hq⟩
  · exact s1.elim
theorem e_lst {c : Bool} {es : CEs} {xs : List Expr} {pos : Pos} (h : PA X xs (SA X p W es)) : PE X (.List xs pos) (SE' X p W (.lst c es)) := by
  refine (pe_lst h).imp ?_
  rintro σ H Q ⟨env, h, M, at_, s⟩
  refine ⟨env, h, M, at_, s.bind.mono ?_⟩
  intro vs h1 H1 M1 e1 r1 s1 xs rx
  exact ⟨by rw [← rx.length, sizeLine_eq]; exact mkL_len s1, fun q hq => list_now s1 r1 rx hq⟩
theorem e_rep {c : Bool} {a b : CE} {l r : Expr} {pos : Pos} (ha : PE X l (SE' X p W a)) (hb : PE X r (SE' X p W b)) : PE X (.BinOp l .Mult r pos) (SE' X p W (.repL c a b)) := by
  refine (pe_op op_repL ha hb).imp ?_
  rintro σ H Q ⟨env, h, M, at_, s⟩
  refine ⟨env, h, M, at_, s.bind.mono ?_⟩
  intro v h1 H1 M1 e1 r1 s1 x rx
  refine ⟨env, h1, M1, at_.go e1 r1, s1.bind.mono ?_⟩
  intro w h2 H2 M2 e2 r2 s2 y ry
  cases v with
  | lst xs =>
    cases w with
    | int k =>
      split at s2
      · rename_i ys ey
        obtain ⟨c1, rfl⟩ := ifs ey
        obtain ⟨q1, q2, q3⟩ := of_decide_eq_true c1
        obtain ⟨a, vs, rfl, t, l⟩ := (rx.mono e2).lst_inv
        cases ry
        refine ⟨a, k, vs, M2, rfl, rfl, t, by omega, by omega, ?_, fun q hq => list_now s2 r2 l.flat hq⟩
        rw [← l.length, sizeLine_eq]
        have := Nat.mul_le_mul q3 (show k.toNat ≤ 1000 by omega)
        omega
      · exact s2.elim
    | _ => exact s2.elim
  | _ => exact s2.elim

/-! ### o[i], o[i:j] -/
theorem ix_plain {b : Expr} (h : plainE b = true) : PlainIx b := by
  intro o i
  cases b <;> first | rfl | cases h
theorem e_ix {a b : CE} {l r : Expr} {pos : Pos} (hu : X.A.units + 1 < cLine) (hp : plainE r = true) (ha : PE X l (SE' X p W a)) (hb : PE X r (SE' X p W b)) : PE X (.Subscript l r pos) (SE' X p W (.ix a b)) := by
  refine (pe_ix (ix_any hu) ha hb (ix_plain hp)).imp ?_
  rintro σ H Q ⟨env, h, M, at_, s⟩
  exact two (f := fun h v w => itemV v w h) at_ s
theorem o_none : PO X none (SO_ X p W .none) := by
  refine po_none.imp ?_
  rintro σ H Q ⟨env, h, M, at_, s⟩
  exact s.here at_.rh
theorem o_some {e : CE} {x : Expr} (hx : PE X x (SE' X p W e)) : PO X (some x) (SO_ X p W (.some e)) := by
  refine (po_some hx).imp ?_
  rintro σ H Q ⟨env, h, M, at_, s⟩
  refine ⟨env, h, M, at_, s.bind.mono ?_⟩
  intro v h1 H1 M1 e1 r1 s1 x rx
  obtain ⟨z, ez, s3⟩ := s1.ofO
  obtain ⟨i, ei, rfl⟩ := Option.map_eq_some_iff.mp ez
  exact ⟨i, asInt_rep rx ei, s3.here r1⟩
theorem e_sl {a : CE} {lo hi : CO} {l : Expr} {lx ux : Option Expr} {pos p2 : Pos} (ha : PE X l (SE' X p W a)) (h1 : PO X lx (SO_ X p W lo)) (h2 : PO X ux (SO_ X p W hi)) : PE X (.Subscript l (.Slice lx ux none p2) pos) (SE' X p W (.sl a lo hi)) := by
  refine (pe_slice sl_any ha h1 h2).imp ?_
  rintro σ H Q ⟨env, h, M, at_, s⟩
  refine ⟨env, h, M, at_, s.bind.mono ?_⟩
  intro v h1 H1 M1 e1 r1 s1 x rx
  refine ⟨env, h1, M1, at_.go e1 r1, s1.bind.mono ?_⟩
  intro i h2 H2 M2 e2 r2 s2
  refine ⟨env, h2, M2, (at_.go e1 r1).go e2 r2, s2.bind.mono ?_⟩
  intro j h3 H3 M3 e3 r3 s3
  obtain ⟨z, ez, s4⟩ := s3.ofO
  exact ⟨v, z, h3, M3, r3, (rx.mono e2).mono e3, ez, s4⟩
end
end Ws
end

section
set_option Elab.async false
set_option linter.all false
set_option maxRecDepth 100000
set_option autoImplicit false
/-! What the simple interpreter says of an expression holds of the machine: calls, comprehensions, all together. -/
namespace Ws
open PySem PySem.Spec PyProof.Rows L2

/-! ### what a def promises -/
def spOf (K : PySem.W.Frag) (mg : Str → Option Value) (T : Tb) (d f n : Nat) : Sp := fun vs H Q E => vs.length = n ∧ ∃ xs h M, RepL K H M xs vs ∧ RH K H M h ∧ SemR K mg (callF T d f xs h) H M E fun v _ H' M' => ∀ x, Rep K H' M' v x → Q x H'
structure FunOk (P : Program) (w : World) (K : PySem.W.Frag) (mg : Str → Option Value) (base : Heap) (T : Tb) (S : Pt) (d f : Nat) (F : FT) : Prop where
  ex : ∃ (a : Addr) (fd : FuncData) (dvs : List V) (ds : List Value), mg F.name = some (.ref a) ∧ (∃ oc od osl, K.lookup a = some ⟨oc, od, .func fd, osl⟩) ∧ PySem.W.keepIn K (.ref a) = true ∧ FnG P w K mg base d a fd F.ps (spOf K mg T d f F.ps.length) ∧ Vals dvs ds ∧ (∀ H M, RepL K H M F.dfl dvs) ∧
    ∀ sh ∈ S.shapes, sh.f = f → ∀ (s : Shared) (us ws : List Value), K.In s.heap → us.length = sh.n → ws.length = sh.ks.length → BindsTo s fd ⟨us, sh.ks.zip ws⟩ (F.ps.zip (permute sh.perm (us ++ (ws ++ ds))))
/-- where core texts may be run -/
structure Gd (X : Cx) (T : Tb) (S : Pt) (d : Nat) (N : List Str) (sc : Scope) (W : WX) : Prop where
  hN : X.N = N
  hsc : X.env.scope = sc
  nd : N.Nodup
  calm : X.calm = true
  room : Room d X.A
  guards : X.A.guards = some []
  tk : Takes X W
  fs : S.funs = T.funs
  free : ∀ x, S.free.contains x = true → X.mg x = none
  globs : ∀ x v, S.globs.contains x = true → T.glob x = some v → ∃ u vx, X.mg x = some u ∧ RelV vx u ∧ ∀ H M, Rep X.K H M v vx
  funs : ∀ f F, T.funs[f]? = some F → FunOk X.prog X.w X.K X.mg X.base T S d f F

section
variable {X : Cx} {T : Tb} {S : Pt} {d : Nat} {N : List Str} {sc : Scope} {W : WX}
theorem Gd.hu (g : Gd X T S d N sc W) : X.A.units + 65 < cLine := by
  have := g.room.un
  omega
theorem Gd.gl (g : Gd X T S d N sc W) {x : Str} (h : gloB sc x = true) : Gl X x := by
  show X.env.scope.names.lookup x = some .globalImplicit
  rw [g.hsc]
  unfold gloB at h
  split at h
  · assumption
  · cases h
theorem Gd.vis (g : Gd X T S d N sc W) {x : Str} (h : visB sc x = true) : Vis X.env.scope x := by
  rw [g.hsc]
  unfold visB at h
  unfold Vis
  split at h <;> first | (rename_i e; simp [e]; done) | cases h
theorem name_ok {x : Str} (h : nameB x = true) : (x == ("__debug__" : Str)) = false ∧ (x == ("__classdict__" : Str)) = false ∧ x ≠ ("__name__" : Str) := by
  unfold nameB at h
  simp only [Bool.and_eq_true, Bool.not_eq_true'] at h
  exact ⟨h.1.1, h.1.2, fun e => by rw [e] at h; simp at h⟩
theorem e_var (g : Gd X T S d N sc W) {p : Pr} {i : Nat} {x : Str} {pos : Pos} (hi : N[i]? = some x) (hv : visB sc x = true) (hn : nameB x = true) : PE X (.Name x pos) (SE' X p W (.var i)) := by
  obtain ⟨n1, n2, _⟩ := name_ok hn
  refine (pe_var (by rw [g.hN]; exact hi) (g.vis hv) n1 n2).imp ?_
  rintro σ H Q ⟨env, h, M, at_, s⟩
  obtain ⟨v, e, s2⟩ := s.ofO
  obtain ⟨y, e1, r⟩ := at_.rs.look e
  exact ⟨y, e1, s2.here at_.rh _ r⟩
theorem e_const {p : Pr} {e : CE} {x : Expr} {z : SV} {v : V} (hx : PE X x (tC v)) (he : ∀ env h, ev p e env h = .ok z h) (hr : ∀ H M, Rep X.K H M z v) : PE X x (SE' X p W e) := by
  refine hx.imp ?_
  rintro σ H Q ⟨env, h, M, at_, s⟩
  rw [he] at s
  exact s.here at_.rh _ (hr H M)
theorem e_glob (g : Gd X T S d N sc W) {x : Str} {pos : Pos} (hg : gloB sc x = true) (hx : S.globs.contains x = true) (hn : nameB x = true) : PE X (.Name x pos) (SE' X (prOf T d) W (.glob x)) := by
  obtain ⟨n1, n2, _⟩ := name_ok hn
  cases e : T.glob x with
  | none =>
    refine ⟨?_⟩
    rintro pins s σ H Q I ⟨env, h, M, at_, sem⟩
    have sem' : SemR X.K X.mg (Ws.ofO h (T.glob x)) H M (WE W σ) _ := sem
    rw [e] at sem'
    exact sem'.elim
  | some v =>
    obtain ⟨u, vx, hm, r, hr⟩ := g.globs x v hx e
    refine (pe_glob (g.gl hg) hm r n1).imp ?_
    rintro σ H Q ⟨env, h, M, at_, s⟩
    have s' : SemR X.K X.mg (Ws.ofO h (T.glob x)) H M (WE W σ) _ := s
    rw [e] at s'
    exact s'.here at_.rh _ (hr H M)

/-! ### built-in functions -/
theorem boot_bi (b : BI) : bootBuiltins (biName b) = some (biVal b) := by cases b <;> decide +kernel
theorem boot_cls (b : BI) {T : Str} (h : biCls b = some T) : ∃ n, biTy b = some n ∧ bootBuiltins T = some (.type n) := by
  cases b <;> cases h
  · exact ⟨_, rfl, PyProof.Rows.boot_int⟩
  · exact ⟨_, rfl, PyProof.Rows.boot_bool⟩
  · exact ⟨_, rfl, PyProof.Rows.boot_tuple⟩
  · exact ⟨_, rfl, PyProof.Rows.boot_str⟩
theorem blt_ok (g : Gd X T S d N sc W) {x : Str} (h : bltB S sc x = true) : Gl X x ∧ X.mg x = none ∧ (x == ("__debug__" : Str)) = false ∧ x ≠ ("__name__" : Str) := by
  unfold bltB at h
  rw [Bool.and_eq_true, Bool.and_eq_true] at h
  obtain ⟨n1, _, n3⟩ := name_ok h.2.2
  exact ⟨g.gl h.1, g.free x h.2.1, n1, n3⟩
/-- no star among them -/
def plainAll (xs : List Expr) : Bool := xs.all plainE
theorem noStar {xs : List Expr} {env : Env} {pos : Pos} (h : plainAll xs = true) : (backTo pos (starEach xs env)).any (·.1) = false := by
  induction xs with
  | nil => rfl
  | cons x xs ih =>
    have h' : (plainE x && plainAll xs) = true := h
    rw [Bool.and_eq_true] at h'
    rw [star_plain h'.1]
    show (false || _) = false
    rw [Bool.false_or]
    exact ih h'.2
theorem bi_read {b : BI} {p : Pr} {es : CEs} {σ : L2.St} {H : Hp} {Q : VK} {env : SE} {h : SH} {M : Ms} (at_ : At X.K env h M σ H)
    (s : SemR X.K X.mg ((evs p es env h).bind fun xs h => Ws.ofO h (builtin h b xs)) H M (WE W σ) fun v _ H' M' => ∀ x, Rep X.K H' M' v x → Q x H') : tCB (rBi X.K b) (SA X p W es) σ H Q := by
  refine ⟨env, h, M, at_, s.bind.mono ?_⟩
  intro vs h1 H1 M1 e1 r1 s1 xs rx
  obtain ⟨z, ez, s3⟩ := s1.ofO
  exact ⟨vs, z, h1, M1, r1, rx, ez, s3⟩
theorem e_bi (g : Gd X T S d N sc W) {p : Pr} {b : BI} {es : CEs} {x : Expr} {xs : List Expr} {n : Str} {np pos : Pos} (hb : biCls b = none) (hn : biName b = n) (hB : bltB S sc n = true) (hp : plainAll (x :: xs) = true) (ha : PA X (x :: xs) (SA X p W es)) :
    PE X (.Call (.Name n np) (x :: xs) [] pos) (SE' X p W (.bi b es)) := by
  subst hn
  obtain ⟨gl, hm, n1, n3⟩ := blt_ok g hB
  have hb' : biTy b = none := by cases b <;> first | rfl | cases hb
  have hp' : (plainE x && plainAll xs) = true := hp
  rw [Bool.and_eq_true] at hp'
  have cr := call_bi g.calm g.guards g.hu b hb'
  have fin : ∀ {t : TE}, (∀ σ H Q, tCB (rBi X.K b) (SA X p W es) σ H Q → t σ H Q) → ∀ σ H Q, SE' X p W (.bi b es) σ H Q → t σ H Q := by
    rintro t ht σ H Q ⟨env, h, M, at_, s⟩
    exact ht _ _ _ (bi_read at_ s)
  have bt := boot_bi b
  cases hv : biVal b with
  | builtin id =>
    rw [hv] at cr bt
    exact (pe_callB cr gl hm bt ha n3 n1 (star_plain hp'.1) (noStar hp'.2)).imp (fin fun _ _ _ q => q)
  | type ty =>
    rw [hv] at cr bt
    exact (pe_callTy cr gl hm bt ha n3 n1 (star_plain hp'.1) (noStar hp'.2)).imp (fin fun _ _ _ q => q)
  | _ => cases b <;> cases hv
/-- isinstance(x, T) -/
theorem e_isi (g : Gd X T S d N sc W) {p : Pr} {b : BI} {e : CE} {x : Expr} {n cn : Str} {np cp pos : Pos} (hb : biCls b = some cn) (hn : biName b = n) (hB : bltB S sc n = true) (hC : bltB S sc cn = true) (hp : plainE x = true) (ha : PE X x (SE' X p W e)) :
    PE X (.Call (.Name n np) [x, .Name cn cp] [] pos) (SE' X p W (.bi b (.cons e .nil))) := by
  subst hn
  obtain ⟨gl, hm, n1, n3⟩ := blt_ok g hB
  obtain ⟨gl2, hm2, m1, m3⟩ := blt_ok g hC
  obtain ⟨ty, hb', bt2⟩ := boot_cls b hb
  have bt : bootBuiltins (biName b) = some (.builtin "isinstance") := by
    rw [boot_bi b]
    cases b <;> first | rfl | cases hb
  have cl : PE X (.Name cn cp) (tC (.ty ty)) := pe_bltn gl2 hm2 bt2 rfl m3 m1
  refine (pe_callB (call_is b ty hb') gl hm bt (pa_cons ha (pa_cons cl pa_nil) (star_plain hp)) n3 n1 (star_plain hp) rfl).imp ?_
  rintro σ H Q ⟨env, h, M, at_, s⟩
  have s' : SemR X.K X.mg ((ev p e env h).bind fun x h => Ws.ofO h (builtin h b [x])) H M (WE W σ) fun v _ H' M' => ∀ x, Rep X.K H' M' v x → Q x H' := by
    have eq : ev p (.bi b (.cons e .nil)) env h = (ev p e env h).bind fun x h => Ws.ofO h (builtin h b [x]) := by
      simp only [ev, evs]
      cases ev p e env h <;> rfl
    rw [← eq]
    exact s
  refine ⟨env, h, M, at_, s'.bind.mono ?_⟩
  intro v h1 H1 M1 e1 r1 s1 x rx
  obtain ⟨z, ez, s3⟩ := s1.ofO
  exact ⟨x, rfl, [v], z, h1, M1, r1, .cons rx .nil, ez, s3⟩

/-! ### calls -/
theorem RepL.permute {K : PySem.W.Frag} {H : Hp} {M : Ms} {xs : List SV} {vs : List V} (l : RepL K H M xs vs) : ∀ p : List Nat, RepL K H M (Ws.permute p xs) (Ws.permute p vs)
  | [] => .nil
  | i :: p => by
    have ih := RepL.permute l p
    unfold Ws.permute at *
    rw [List.filterMap_cons, List.filterMap_cons]
    cases e : xs[i]? with
    | some x =>
      obtain ⟨v, e1, r⟩ := l.get e
      rw [e1]
      exact .cons r ih
    | none =>
      have e1 : vs[i]? = none := by
        rw [List.getElem?_eq_none_iff] at e ⊢
        rw [← l.length]
        exact e
      rw [e1]
      exact ih
theorem vals_permute {vs : List V} {us : List Value} (r : Vals vs us) : ∀ p : List Nat, Vals (permute p vs) (permute p us)
  | [] => .nil
  | i :: p => by
    have ih := vals_permute r p
    unfold permute at *
    rw [List.filterMap_cons, List.filterMap_cons]
    cases e : vs[i]? with
    | some x =>
      obtain ⟨v, e1, q⟩ := paired_get r e
      rw [e1]
      exact .cons q ih
    | none =>
      have e1 : us[i]? = none := by
        rw [List.getElem?_eq_none_iff] at e ⊢
        rw [← r.length]
        exact e
      rw [e1]
      exact ih
theorem callF_len {T : Tb} {d f : Nat} {F : FT} {xs : List SV} {h : SH} {K : PySem.W.Frag} {mg : Str → Option Value} {H : Hp} {M : Ms} {E : XK} {k : SV → SH → Hp → Ms → Prop} (hF : T.funs[f]? = some F)
    (s : SemR K mg (callF T d f xs h) H M E k) : xs.length = F.ps.length := by
  cases d with
  | zero => exact s.elim
  | succ d =>
    unfold callF at s
    rw [hF] at s
    simp only at s
    have run : ∀ (p : Pr) (h : SH), xs.length = F.ps.length ∨ runF p F xs h = .bad := by
      intro p h
      unfold runF
      by_cases e : decide (xs.length = F.ps.length) = true
      · exact .inl (of_decide_eq_true e)
      · exact .inr (if_neg e)
    split at s
    · split at s
      · rcases run ⟨T.glob, dflOf T, callF T d⟩ [] with q | q
        · exact q
        · rw [q] at s
          exact s.elim
      · exact s.elim
    · rcases run ⟨T.glob, dflOf T, callF T d⟩ h with q | q
      · exact q
      · rw [q] at s
        exact s.elim
theorem keyNames {kws : List Keyword} {env : Env} {pos : Pos} (h : kwAll kws = true) : (backToKw pos (keywordEach kws env)).all (·.1.isSome) = true ∧ (backToKw pos (keywordEach kws env)).filterMap (·.1) = kwNames kws ∧ (backToKw pos (keywordEach kws env)).any (·.1.isNone) = false := by
  induction kws with
  | nil => exact ⟨rfl, rfl, rfl⟩
  | cons k kws ih =>
    obtain ⟨n, v, kp⟩ := k
    cases n with
    | none => cases h
    | some n =>
      obtain ⟨h1, h2, h3⟩ := ih h
      refine ⟨?_, ?_, ?_⟩
      · show (true && _) = true
        rw [Bool.true_and]
        exact h1
      · show n :: _ = n :: _
        rw [← h2]
        rfl
      · show (false || _) = false
        rw [Bool.false_or]
        exact h3
theorem evs_len {p : Pr} : ∀ {es : CEs} {xs : List Expr} {S : Pt} {N : List Str} {sc : Scope} {env : SE} {h h' : SH} {vs : List SV}, mEs S N sc es xs = true → evs p es env h = .ok vs h' → vs.length = xs.length
  | .nil, [], _, _, _, _, _, _, _, _, e => by cases e; rfl
  | .nil, _ :: _, _, _, _, _, _, _, _, m, _ => by simp [mEs] at m
  | .cons _ _, [], _, _, _, _, _, _, _, m, _ => by simp [mEs] at m
  | .cons e r, x :: xs, S, N, sc, env, h, h', vs, m, q => by
    simp only [mEs, Bool.and_eq_true] at m
    simp only [evs] at q
    cases e1 : ev p e env h with
    | ok v h1 =>
      rw [e1] at q
      simp only [Res.bind_ok] at q
      cases e2 : evs p r env h1 with
      | ok ws h2 =>
        rw [e2] at q
        cases q
        show ws.length + 1 = xs.length + 1
        rw [evs_len m.2.2 e2]
      | err c v h => rw [e2] at q; cases q
      | bad => rw [e2] at q; cases q
    | err c v h => rw [e1] at q; cases q
    | bad => rw [e1] at q; cases q
theorem evsK_len {p : Pr} : ∀ {es : CEs} {xs : List Keyword} {S : Pt} {N : List Str} {sc : Scope} {env : SE} {h h' : SH} {vs : List SV}, mKs S N sc es xs = true → evs p es env h = .ok vs h' → vs.length = (kwNames xs).length
  | .nil, [], _, _, _, _, _, _, _, _, e => by cases e; rfl
  | .nil, _ :: _, _, _, _, _, _, _, _, m, _ => by simp [mKs] at m
  | .cons _ _, [], _, _, _, _, _, _, _, m, _ => by simp [mKs] at m
  | .cons e r, ⟨none, x, kp⟩ :: xs, S, N, sc, env, h, h', vs, m, q => by simp [mKs] at m
  | .cons e r, ⟨some n, x, kp⟩ :: xs, S, N, sc, env, h, h', vs, m, q => by
    simp only [mKs, Bool.and_eq_true] at m
    simp only [evs] at q
    cases e1 : ev p e env h with
    | ok v h1 =>
      rw [e1] at q
      simp only [Res.bind_ok] at q
      cases e2 : evs p r env h1 with
      | ok ws h2 =>
        rw [e2] at q
        cases q
        show ws.length + 1 = (kwNames xs).length + 1
        rw [evsK_len m.2.2 e2]
      | err c v h => rw [e2] at q; cases q
      | bad => rw [e2] at q; cases q
    | err c v h => rw [e1] at q; cases q
    | bad => rw [e1] at q; cases q
theorem mEs_plain : ∀ {es : CEs} {xs : List Expr} {S : Pt} {N : List Str} {sc : Scope}, mEs S N sc es xs = true → plainAll xs = true
  | .nil, [], _, _, _, _ => rfl
  | .nil, _ :: _, _, _, _, m => by simp [mEs] at m
  | .cons _ _, [], _, _, _, m => by simp [mEs] at m
  | .cons e r, x :: xs, S, N, sc, m => by
    simp only [mEs, Bool.and_eq_true] at m
    show (plainE x && plainAll xs) = true
    rw [m.1, mEs_plain m.2.2]
    rfl
/-- what it gives is told apart -/
theorem SemR.with {α : Type} {K : PySem.W.Frag} {mg : Str → Option Value} {r : Res α} {H : Hp} {M : Ms} {E : XK} {k : α → SH → Hp → Ms → Prop} (s : SemR K mg r H M E k) : SemR K mg r H M E fun a h H' M' => r = .ok a h ∧ k a h H' M' := by
  cases r with
  | ok a h => exact fun H' M' e rh => ⟨rfl, s H' M' e rh⟩
  | err c v h => exact s
  | bad => exact s
theorem e_call (g : Gd X T S d N sc W) {f : Nat} {perm : List Nat} {es ks : CEs} {x : Str} {np pos : Pos} {xs : List Expr} {kws : List Keyword} (hf : funB S sc f x = true) (hs : S.shapes.contains ⟨f, xs.length, kwNames kws, perm⟩ = true) (hk : kwAll kws = true)
    (me : mEs S N sc es xs = true) (mk : mKs S N sc ks kws = true) (ha : PA X xs (SA X (prOf T d) W es)) (hkw : PK X kws (SA X (prOf T d) W ks)) : PE X (.Call (.Name x np) xs kws pos) (SE' X (prOf T d) W (.call f perm es ks)) := by
  unfold funB at hf
  split at hf
  · rename_i F hF
    simp only [Bool.and_eq_true, decide_eq_true_eq] at hf
    obtain ⟨rfl, hgl, hnm⟩ := hf
    rw [g.fs] at hF
    obtain ⟨n1, _, _⟩ := name_ok hnm
    obtain ⟨a, fd, dvs, ds, hm, _, hkp, FG, rd, hd, hb⟩ := (g.funs f F hF).ex
    have hB := hb ⟨f, xs.length, kwNames kws, perm⟩ (by simpa using hs) rfl
    obtain ⟨k1, k2, k3⟩ := keyNames (env := X.env) (pos := pos) hk
    refine (pe_callGK (g := fun l => permute perm (l ++ ds)) (gV := fun l => permute perm (l ++ dvs)) (ks := kwNames kws) (n := xs.length) FG g.room g.guards g.tk (g.gl hgl) hm hkp n1 ?_ ?_ ha hkw k1 k2 ?_ ?_ ?_).imp ?_
    · intro s us ws hK l1 l2
      rw [List.append_assoc]
      exact hB s us ws hK l1 l2
    · intro vs us r
      exact vals_permute (r.append rd) perm
    · intro e r q
      subst q
      have := mEs_plain me
      have h' : (plainE e && plainAll r) = true := this
      rw [Bool.and_eq_true] at h'
      exact star_plain h'.1
    · rw [noStar (mEs_plain me), k3]
      rfl
    · rintro rfl σ H Q ⟨env, h, M, at_, s⟩
      cases es with
      | nil => exact s.here at_.rh _ .nil
      | cons _ _ => simp [mEs] at me
    · rintro σ H Q ⟨env, h, M, at_, s⟩
      refine ⟨env, h, M, at_, s.bind.with.mono ?_⟩
      rintro vs h1 H1 M1 e1 r1 ⟨q1, s1⟩ zs rz
      refine ⟨env, h1, M1, at_.go e1 r1, s1.bind.with.mono ?_⟩
      rintro ws h2 H2 M2 e2 r2 ⟨q2, s2⟩ ys ry
      have l1 := evs_len me q1
      have l2 := evsK_len mk q2
      have rep : RepL X.K H2 M2 (permute perm (vs ++ (ws ++ dflOf T f))) (permute perm ((zs ++ ys) ++ dvs)) := by
        rw [List.append_assoc]
        refine RepL.permute ((rz.mono e2).append (ry.append ?_)) perm
        unfold dflOf
        rw [hF]
        exact hd H2 M2
      refine ⟨by rw [← rz.length]; exact l1, by rw [← ry.length]; exact l2, ?_, _, h2, M2, rep, r2, s2⟩
      rw [← rep.length]
      exact callF_len hF s2
  · cases hf
end
end Ws
end

section
set_option Elab.async false
set_option linter.all false
set_option maxRecDepth 100000
set_option autoImplicit false
/-! What the simple interpreter says of an expression holds of the machine: dict displays, walks, targets, comprehensions, all together. -/
namespace Ws
open PySem PySem.Spec PyProof.Rows L2
section
variable {X : Cx} {T : Tb} {S : Pt} {d : Nat} {N : List Str} {sc : Scope} {W : WX}

/-! ### a dict display -/
def trsOf (X : Cx) (p : Pr) (W : WX) : CEs → List (TE × TE)
  | .cons k (.cons v r) => (SE' X p W k, SE' X p W v) :: trsOf X p W r
  | _ => []
theorem pairUp_eq {k v : SV} {r : List SV} {kvs : List (SV × SV)} (h : pairUp (k :: v :: r) = some kvs) : ∃ ks, k.flat = true ∧ pairUp r = some ks ∧ kvs = (k, v) :: ks := by
  simp only [pairUp] at h
  split at h
  · rename_i c
    obtain ⟨ks, e, rfl⟩ := Option.map_eq_some_iff.mp h
    exact ⟨ks, c, e, rfl⟩
  · cases h
/-- keys and values -/
inductive RepP (K : PySem.W.Frag) (H : Hp) (M : Ms) : List (SV × SV) → List (Key × V) → Prop
  | nil : RepP K H M [] []
  | cons {k x : SV} {q : Key} {v : V} {r : List (SV × SV)} {s : List (Key × V)} : keyOf k = some q → Rep K H M x v → RepP K H M r s → RepP K H M ((k, x) :: r) ((q, v) :: s)
theorem RepP.map {K : PySem.W.Frag} {H H' : Hp} {M M' : Ms} (hf : ∀ a u, Fz H M a u → Fz H' M' a u) (hc : ∀ (n : Nat) (a : Addr), M.c[n]? = some a → M'.c[n]? = some a) : ∀ {r : List (SV × SV)} {s : List (Key × V)}, RepP K H M r s → RepP K H' M' r s
  | _, _, .nil => .nil
  | _, _, .cons k r s => .cons k (r.map hf hc) (RepP.map hf hc s)
theorem RepP.length {K : PySem.W.Frag} {H : Hp} {M : Ms} : ∀ {r : List (SV × SV)} {s : List (Key × V)}, RepP K H M r s → r.length = s.length
  | _, _, .nil => rfl
  | _, _, .cons _ _ s => congrArg Nat.succ (RepP.length s)
theorem RepP.fold {K : PySem.W.Frag} {H : Hp} {M : Ms} : ∀ {r : List (SV × SV)} {s : List (Key × V)}, RepP K H M r s → ∀ {kvs : List (SV × SV)} {ps : List (Key × V)}, RepK K H M kvs ps →
    RepK K H M (r.foldl (fun acc kv => putV acc kv.1 kv.2) kvs) (mergeK ps s)
  | _, _, .nil, _, _, b => b
  | _, _, .cons hk rv rs, _, _, b => RepP.fold rs (b.put hk rv)
def evenB : CEs → Bool
  | .nil => true
  | .cons _ (.cons _ r) => evenB r
  | _ => false
theorem mPs_even : ∀ {es : CEs} {ks : List (Option Expr)} {vs : List Expr}, mPs S N sc es ks vs = true → evenB es = true
  | .nil, _, _, _ => rfl
  | .cons e .nil, _, _, m => by simp [mPs] at m
  | .cons e (.cons g r), [], _, m => by simp [mPs] at m
  | .cons e (.cons g r), none :: _, _, m => by simp [mPs] at m
  | .cons e (.cons g r), some k :: ks, [], m => by simp [mPs] at m
  | .cons e (.cons g r), some k :: ks, v :: vs, m => by
    simp only [mPs, Bool.and_eq_true] at m
    exact mPs_even (es := r) m.2.2
theorem pairs_go {p : Pr} : ∀ (es : CEs) {env : SE} {h : SH} {M : Ms} {σ : L2.St} {H : Hp} {G : List (V × V) → Hp → Prop}, evenB es = true → At X.K env h M σ H →
    SemR X.K X.mg (evs p es env h) H M (WE W σ) (fun xs h' H' M' => ∃ kvs, pairUp xs = some kvs ∧ ∀ ps, RepP X.K H' M' kvs ps → G (ps.map fun kv => (kV kv.1, kv.2)) H') → tPairs (trsOf X p W es) σ H G
  | .nil, env, h, M, σ, H, G, _, at_, s => by
    obtain ⟨kvs, e, q⟩ := s.here at_.rh
    cases e
    exact q [] .nil
  | .cons k .nil, env, h, M, σ, H, G, ev, at_, s => by cases ev
  | .cons k (.cons v r), env, h, M, σ, H, G, even, at_, s => by
    refine ⟨env, h, M, at_, s.bind.mono ?_⟩
    intro kv h1 H1 M1 e1 r1 s1 x rx
    refine ⟨env, h1, M1, at_.go e1 r1, ?_⟩
    have s2 : SemR X.K X.mg ((ev p v env h1).bind fun y h => (evs p r env h).bind fun ys h => .ok (kv :: y :: ys) h) H1 M1 (WE W σ) (fun xs h' H' M' => ∃ kvs, pairUp xs = some kvs ∧ ∀ ps, RepP X.K H' M' kvs ps → G (ps.map fun kv => (kV kv.1, kv.2)) H') := by
      have eq : ((evs p (.cons v r) env h1).bind fun xs h => Res.ok (kv :: xs) h) = (ev p v env h1).bind fun y h => (evs p r env h).bind fun ys h => .ok (kv :: y :: ys) h := by
        simp only [evs]
        cases ev p v env h1 with
        | ok y h2 =>
          simp only [Res.bind_ok]
          cases evs p r env h2 <;> rfl
        | err c v h => rfl
        | bad => rfl
      rw [← eq]
      exact s1
    refine s2.bind.mono ?_
    intro vv h2 H2 M2 e2 r2 s3 y ry
    refine pairs_go r even ((at_.go e1 r1).go e2 r2) ?_
    refine s3.bind.mono ?_
    intro ys h3 H3 M3 e3 r3 s4
    obtain ⟨kvs, ep, q⟩ := s4.here r3
    obtain ⟨ks, hf, e', rfl⟩ := pairUp_eq ep
    refine ⟨ks, e', ?_⟩
    intro ps rp
    obtain ⟨key, hk⟩ := keyOf_flat hf
    obtain rfl := keyOf_kV hk rx
    exact q ((key, y) :: ps) (.cons hk (ry.mono e3) rp)
/-- from where an object at D is begun -/
theorem SemR.begin_ {α : Type} {K : PySem.W.Frag} {mg : Str → Option Value} {r : Res α} {H : Hp} {M : Ms} {E : XK} {k : α → SH → Hp → Ms → Prop} {D : Addr} {u : HO} {h0 : SH} (s : SemR K mg r H M E k) (rh : RH K H M h0) (hD : H D = none) :
    SemR K mg r (upd H D u) ⟨M.c, D :: M.b⟩ E fun a h' H' M' => r = .ok a h' ∧ M'.b = D :: M.b ∧ H' D = some u ∧ Evo H M H' ⟨M'.c, M.b⟩ := by
  have busy : D ∉ M.c := rh.fresh hD
  have turn : ∀ {H' : Hp} {M' : Ms}, Evo (upd H D u) ⟨M.c, D :: M.b⟩ H' M' → Evo H M H' ⟨M'.c, M.b⟩ := fun e => Evo.turn (Mc := ⟨M.c, D :: M.b⟩) hD busy (rh.freshB hD) (Evo.begin_ rh hD) rfl busy e
  cases r with
  | ok a h' =>
    intro H' M' e r'
    exact ⟨rfl, e.busy, (e.same D List.mem_cons_self).trans upd_same, turn e⟩
  | err c v h' =>
    intro H' M' cls d x e r' hc hd rx
    obtain ⟨mc, mb⟩ := M'
    have hb : mb = D :: M.b := e.busy
    subst hb
    exact s H' ⟨mc, M.b⟩ cls d x (turn e) (RH.done (M := ⟨mc, []⟩) r') hc hd (rx.map (fun _ _ => Fz.lessC) (fun _ _ => id))
  | bad => exact s
theorem e_dict {p : Pr} {es : CEs} {keys : List (Option Expr)} {vals : List Expr} {pos : Pos} (hl : keys.length = vals.length) (h15 : keys.length ≤ 15) (h0 : keys ≠ []) (hall : keys.all (·.isSome) = true) (even : evenB es = true) (hp : PPs X pos keys vals (trsOf X p W es)) :
    PE X (.Dict keys vals pos) (SE' X p W (.dict es)) := by
  refine (pe_disp hp hall hl h0 h15).imp ?_
  rintro σ H Q ⟨env, h, M, at_, s⟩
  intro D hD
  have hDc := at_.rh.fresh hD
  have hDb := at_.rh.freshB hD
  have s1 := (s.bind).begin_ (u := .dK []) at_.rh hD
  refine pairs_go es even ⟨at_.rs.ext ⟨fun _ _ => Fz.begin_ at_.rh hD, fun _ _ => id⟩, at_.rh.begin_ hD⟩ (s1.mono ?_)
  rintro xs h2 H2 M2 e2 r2 ⟨eq, hb, hD2, ev2⟩
  have s2 : SemR X.K X.mg ((Res.ok xs h2).bind fun xs h => match pairUp xs with
    | some kvs => if decide (kvs.length ≤ 15) = true then Res.ok (SV.ref h.length) (h ++ [.dct (kvs.foldl (fun acc kv => putV acc kv.1 kv.2) [])]) else .bad
    | none => .bad) H M (WE W σ) fun v _ H' M' => ∀ x, Rep X.K H' M' v x → Q x H' := by
    rw [← eq]
    exact s
  simp only [Res.bind_ok] at s2
  split at s2
  · rename_i kvs ep
    split at s2
    · rename_i c15
      refine ⟨kvs, ep, ?_⟩
      intro ps rp
      obtain ⟨mc, mb⟩ := M2
      have hb' : mb = D :: M.b := hb
      subst hb'
      refine ⟨hD2, ps, rfl, ?_, ?_⟩
      · rw [← rp.length]
        exact of_decide_eq_true c15
      · have gz : ∀ a u, Fz H2 ⟨mc, D :: M.b⟩ a u → Fz (upd H2 D (.dK (mergeK [] ps))) ⟨mc ++ [D], M.b⟩ a u := fun a u z => Fz.endCell (Fz.grow (M := ⟨mc, []⟩) z)
        have rk : RepK X.K (upd H2 D (.dK (mergeK [] ps))) ⟨mc ++ [D], M.b⟩ (kvs.foldl (fun acc kv => putV acc kv.1 kv.2) []) (mergeK [] ps) := (rp.map gz (fun _ _ => get_app)).fold .nil
        refine s2 _ ⟨mc ++ [D], M.b⟩ (Evo.endCell hD hDc hDb (Evo.grow (Md := ⟨mc, []⟩) hD hDb ev2)) (RH.endCell (RH.grow (M := ⟨mc, []⟩) r2) hDb upd_same (.dK rk)) _ (.ref ?_)
        show (mc ++ [D])[h2.length]? = _
        have len : h2.length = mc.length := r2.len
        rw [len, List.getElem?_append_right (Nat.le_refl _), Nat.sub_self]
        rfl
    · exact s2.elim
  · exact s2.elim

/-! ### what is walked -/
theorem i_it {p : Pr} {e : CE} {tg x : Expr} (hx : PE X x (SE' X p W e)) : PI X tg x (SI X p W (.it e)) := by
  refine (pi_seq hx).imp ?_
  rintro σ H R ⟨env, h, M, at_, s⟩
  refine ⟨env, h, M, at_, s.bind.mono ?_⟩
  intro v h1 H1 M1 e1 r1 s1 x rx
  cases v with
  | tup xs =>
    obtain ⟨a, vs, rfl, t, l⟩ := rx.tup_inv
    exact ⟨a, rfl, .inr ⟨⟨vs, t.sq⟩, s1.here r1 _ (seen_tup t l)⟩⟩
  | lst xs =>
    obtain ⟨a, vs, rfl, t, l⟩ := rx.lst_inv
    exact ⟨a, rfl, .inl ⟨⟨vs, t.sq⟩, s1.here r1 _ (seen_lst t l)⟩⟩
  | _ => exact s1.elim
theorem small_ok {i : Int} (h : small62 i = true) : -(2 ^ 62) ≤ i ∧ i < 2 ^ 62 := by
  unfold small62 at h
  have h1 : i.natAbs < 4611686018427387904 := Nat.blt_eq.mp h
  omega
theorem i_r1 (g : Gd X T S d N sc W) {p : Pr} {e : CE} {tg x : Expr} {np pos : Pos} (hB : bltB S sc "range" = true) (hp : plainE x = true) (hx : PE X x (SE' X p W e)) : PI X tg (.Call (.Name "range" np) [x] [] pos) (SI X p W (.range1 e)) := by
  obtain ⟨gl, hm, _, _⟩ := blt_ok g hB
  refine (pi_range1 gl hm (pa_cons hx pa_nil (star_plain hp)) (star_plain hp)).imp ?_
  rintro σ H R ⟨env, h, M, at_, s⟩
  refine ⟨env, h, M, at_, s.bind.mono ?_⟩
  intro v h1 H1 M1 e1 r1 s1 x rx
  cases v with
  | int i =>
    cases rx
    have s2 : SemR X.K X.mg (if small62 i = true then Res.ok (rangeOf 0 i) h1 else Res.bad) H1 M1 (WE W σ) fun xs _ H' M' => ∀ J, Seen X.K J xs H' M' → R J H' := s1
    by_cases c : small62 i = true
    · rw [if_pos c] at s2
      obtain ⟨c1, c2⟩ := small_ok c
      refine ⟨i, rfl, c1, c2, ?_⟩
      have sn : Seen X.K (Itr 0 (i - 0).toNat) (rangeOf 0 i) H1 M1 := seen_rng
      rw [Int.sub_zero] at sn
      exact s2.here r1 _ sn
    · rw [if_neg c] at s2
      exact s2.elim
  | _ => exact s1.elim
theorem i_r2 (g : Gd X T S d N sc W) {p : Pr} {e f : CE} {tg x y : Expr} {np pos : Pos} (hB : bltB S sc "range" = true) (hp : plainE x = true) (hq : plainE y = true) (hx : PE X x (SE' X p W e)) (hy : PE X y (SE' X p W f)) :
    PI X tg (.Call (.Name "range" np) [x, y] [] pos) (SI X p W (.range2 e f)) := by
  obtain ⟨gl, hm, _, _⟩ := blt_ok g hB
  have st : starEach [x, y] X.env = [(false, eval x X.env), (false, eval y X.env)] := by
    rw [star_plain hp, star_plain hq]
    rfl
  refine (pi_range2 gl hm (pa_cons hx (pa_cons hy pa_nil (star_plain hq)) (star_plain hp)) st (star_plain hq)).imp ?_
  rintro σ H R ⟨env, h, M, at_, s⟩
  refine ⟨env, h, M, at_, s.bind.mono ?_⟩
  intro v h1 H1 M1 e1 r1 s1 x rx
  refine ⟨env, h1, M1, at_.go e1 r1, s1.bind.mono ?_⟩
  intro w h2 H2 M2 e2 r2 s2 y ry
  cases v with
  | int i =>
    cases w with
    | int j =>
      cases rx
      cases ry
      have s3 : SemR X.K X.mg (if (small62 i && small62 j) = true then Res.ok (rangeOf i j) h2 else Res.bad) H2 M2 (WE W σ) fun xs _ H' M' => ∀ J, Seen X.K J xs H' M' → R J H' := s2
      by_cases c : (small62 i && small62 j) = true
      · rw [if_pos c] at s3
        rw [Bool.and_eq_true] at c
        obtain ⟨c1, c2⟩ := small_ok c.1
        obtain ⟨c3, c4⟩ := small_ok c.2
        exact ⟨i, j, rfl, ⟨c1, c2, c3, c4⟩, s3.here r2 _ seen_rng⟩
      · rw [if_neg c] at s3
        exact s3.elim
    | _ => exact s2.elim
  | _ => exact s2.elim
/-- a sequence, by its kind -/
theorem seq_rep {v : SV} {xs : List SV} {x : V} {h : SH} {H : Hp} {M : Ms} (r : Rep X.K H M v x) (e : v = .tup xs ∨ v = .lst xs) : ∃ b a vs, x = .ref a ∧ Sp_ X.K b H M a vs ∧ RepL X.K H M xs vs := by
  rcases e with rfl | rfl
  · obtain ⟨a, vs, rfl, t, l⟩ := r.tup_inv
    exact ⟨true, a, vs, rfl, t, l⟩
  · obtain ⟨a, vs, rfl, t, l⟩ := r.lst_inv
    exact ⟨false, a, vs, rfl, t, l⟩
theorem i_en (g : Gd X T S d N sc W) {p : Pr} {e : CE} {x : Expr} {elts : List Expr} {kk : Nat} {np pos tpos : Pos} (hB : bltB S sc "enumerate" = true) (hp : plainE x = true) (hx : PE X x (SE' X p W e)) :
    PI X (.Tuple elts kk tpos) (.Call (.Name "enumerate" np) [x] [] pos) (SI X p W (.enum e)) := by
  obtain ⟨gl, hm, _, _⟩ := blt_ok g hB
  refine (pi_enS gl hm (pa_cons hx pa_nil (star_plain hp)) (star_plain hp)).imp ?_
  rintro σ H R ⟨env, h, M, at_, s⟩
  refine ⟨env, h, M, at_, s.bind.mono ?_⟩
  intro v h1 H1 M1 e1 r1 s1 x rx
  cases v with
  | tup xs =>
    obtain ⟨b, a, vs, rfl, t, l⟩ := seq_rep (h := h1) rx (.inl rfl)
    exact ⟨b, a, vs, rfl, t.sq, s1.here r1 _ (seen_en t l)⟩
  | lst xs =>
    obtain ⟨b, a, vs, rfl, t, l⟩ := seq_rep (h := h1) rx (.inr rfl)
    exact ⟨b, a, vs, rfl, t.sq, s1.here r1 _ (seen_en t l)⟩
  | _ => exact s1.elim
theorem i_z2 (g : Gd X T S d N sc W) {p : Pr} {e f : CE} {x y : Expr} {elts : List Expr} {kk : Nat} {np pos tpos : Pos} (hB : bltB S sc "zip" = true) (hp : plainE x = true) (hq : plainE y = true) (hx : PE X x (SE' X p W e)) (hy : PE X y (SE' X p W f)) :
    PI X (.Tuple elts kk tpos) (.Call (.Name "zip" np) [x, y] [] pos) (SI X p W (.zip2 e f)) := by
  obtain ⟨gl, hm, _, _⟩ := blt_ok g hB
  refine (pi_z2 gl hm (pa_cons hx (pa_cons hy pa_nil (star_plain hq)) (star_plain hp)) (star_plain hp) (by rw [star_plain hq]; rfl)).imp ?_
  rintro σ H R ⟨env, h, M, at_, s⟩
  refine ⟨env, h, M, at_, s.bind.mono ?_⟩
  intro v h1 H1 M1 e1 r1 s1 x rx
  refine ⟨env, h1, M1, at_.go e1 r1, s1.bind.mono ?_⟩
  intro w h2 H2 M2 e2 r2 s2 y ry
  have fin : ∀ xs ys, (v = .tup xs ∨ v = .lst xs) → (w = .tup ys ∨ w = .lst ys) → SemR X.K X.mg (.ok (zip2Of xs ys) h2) H2 M2 (WE W σ) (fun xs _ H' M' => ∀ J, Seen X.K J xs H' M' → R J H') →
      ∃ b1 a1 xs1 b2 a2 xs2, [x, y] = [V.ref a1, V.ref a2] ∧ SqS X.K b1 H2 a1 xs1 ∧ SqS X.K b2 H2 a2 xs2 ∧ R (JZ2 X.K b1 a1 xs1 b2 a2 xs2) H2 := by
    intro xs ys hv hw s3
    obtain ⟨b1, a1, vs, rfl, t1, l1⟩ := seq_rep (h := h2) (rx.mono e2) hv
    obtain ⟨b2, a2, ws, rfl, t2, l2⟩ := seq_rep (h := h2) ry hw
    exact ⟨b1, a1, vs, b2, a2, ws, rfl, t1.sq, t2.sq, s3.here r2 _ (seen_z2 t1 t2 l1 l2)⟩
  cases v with
  | tup xs =>
    cases w with
    | tup ys => exact fin xs ys (.inl rfl) (.inl rfl) s2
    | lst ys => exact fin xs ys (.inl rfl) (.inr rfl) s2
    | _ => exact s2.elim
  | lst xs =>
    cases w with
    | tup ys => exact fin xs ys (.inr rfl) (.inl rfl) s2
    | lst ys => exact fin xs ys (.inr rfl) (.inr rfl) s2
    | _ => exact s2.elim
  | _ => exact s2.elim

/-! ### targets -/
/-- where names may be stored -/
def Sto (X : Cx) (sc : Scope) (wr : Option Scope) : Prop := ∀ x, locW sc wr x = true → Loc X.env.scope x ∧ (X.fn x = true ∨ X.env.scope.names.lookup x = some .local)
theorem nameT {wr : Option Scope} {t : CT} {x : Expr} (m : mT N sc wr t x = true) : (∃ n p, x = .Name n p) ∨ ∃ es k p, x = .Tuple es k p := by
  cases t <;> cases x <;> first | exact .inl ⟨_, _, rfl⟩ | exact .inr ⟨_, _, _, rfl⟩ | (simp [mT] at m; done)
theorem asg_plain {x : Expr} {xs : List Expr} {env : Env} (h : (∃ n p, x = .Name n p) ∨ ∃ es k p, x = .Tuple es k p) :
    (assignEach (x :: xs) env).map (·.2) = assign x env :: (assignEach xs env).map (·.2) ∧ (assignEach (x :: xs) env).length = (assignEach xs env).length + 1 ∧
      ((assignEach xs env).findIdx? (·.1) = none → (assignEach (x :: xs) env).findIdx? (·.1) = none) := by
  rcases h with ⟨n, p, rfl⟩ | ⟨es, k, p, rfl⟩
  · refine ⟨rfl, rfl, fun q => ?_⟩
    show List.findIdx? _ ((false, _) :: assignEach xs env) = none
    rw [List.findIdx?_cons, q]
    rfl
  · refine ⟨rfl, rfl, fun q => ?_⟩
    show List.findIdx? _ ((false, _) :: assignEach xs env) = none
    rw [List.findIdx?_cons, q]
    rfl
/-- a store into a state that knows at least what the interpreter's knows -/
theorem SG.mk {K : PySem.W.Frag} {t : CT} {sv : SV} {v : V} {env env2 : SE} {σ : L2.St} {H : Hp} {M : Ms} {Q : L2.St → Hp → Prop} (rs : RS K H M env σ) (rv : Rep K H M sv v) (e : store t sv env = some env2)
    (q : ∀ σ', RS K H M env2 σ' → (∀ vs : List Nat, (∀ i ∈ slots t, i ∈ vs) → L2.wipe σ' vs = L2.wipe σ vs) → Q σ' H) : SG K t v σ H Q := ⟨sv, env, env2, M, rs, rv, e, q⟩
theorem g_name {wr : Option Scope} (g : Gd X T S d N sc W) (st : Sto X sc wr) {i : Nat} {x : Expr} (m : mT N sc wr (.name i) x = true) : PG X x (SG X.K (.name i)) := by
  cases x <;> first | (simp [mT] at m; done) | skip
  rename_i x pos
  simp only [mT, Bool.and_eq_true, decide_eq_true_eq] at m
  obtain ⟨hl, hf⟩ := st x m.2
  refine (pg_name (by rw [g.hN]; exact g.nd) (by rw [g.hN]; exact m.1) hl hf).imp ?_
  rintro v σ H Q ⟨sv, env, env2, M, rs, rv, e, q⟩
  cases e
  exact q _ (rs.set rv) fun vs hv => wipe_set (hv i (List.mem_singleton.mpr rfl))
theorem sG {wr : Option Scope} (g : Gd X T S d N sc W) (st : Sto X sc wr) : ∀ {t : CT} {x : Expr}, mT N sc wr t x = true → PG X x (SG X.K t)
  | .name i, x, m => g_name g st m
  | .pair a b, x, m => by
    cases x <;> first | (simp [mT] at m; done) | skip
    rename_i es k pos
    match es, m with
    | [], m => simp [mT] at m
    | [_], m => simp [mT] at m
    | _ :: _ :: _ :: _, m => simp [mT] at m
    | [u, w], m =>
      simp only [mT, Bool.and_eq_true] at m
      obtain ⟨m1, m2⟩ := m
      obtain ⟨n1, n2, n3⟩ := asg_plain (xs := [w]) (env := X.env) (nameT m1)
      obtain ⟨k1, k2, k3⟩ := asg_plain (xs := []) (env := X.env) (nameT m2)
      have pa := pgs_cons (sG g st m1) (pgs_cons (sG g st m2) pgs_nil k1) n1
      refine (pg_tup (n := 2) g.calm pa (by rw [n2, k2]; rfl) (n3 (k3 rfl))).imp ?_
      rintro v σ H Q ⟨sv, env, env2, M, rs, rv, e, q⟩
      cases sv with
      | tup xs =>
        match xs, e with
        | [x, y], e =>
          obtain ⟨p, vs, rfl, tp, l⟩ := rv.tup_inv
          obtain ⟨x', y', rfl, rx, ry⟩ := l.two
          obtain ⟨env1, e1, e2⟩ := Option.bind_eq_some_iff.mp (show (store a x env).bind (store b y) = some env2 from e)
          refine ⟨p, [x', y'], rfl, tp.sq, rfl, x', [y'], rfl, SG.mk rs rx e1 ?_⟩
          intro σ1 rs1 w1
          refine ⟨y', [], rfl, SG.mk rs1 ry e2 ?_⟩
          intro σ2 rs2 w2
          refine ⟨rfl, q σ2 rs2 ?_⟩
          intro vs hv
          rw [w2 vs fun i hi => hv i (List.mem_append_right _ hi), w1 vs fun i hi => hv i (List.mem_append_left _ hi)]
        | [], e => cases e
        | [_], e => cases e
        | _ :: _ :: _ :: _, e => cases e
      | _ => cases e
  | .three a b c, x, m => by
    cases x <;> first | (simp [mT] at m; done) | skip
    rename_i es k pos
    match es, m with
    | [], m => simp [mT] at m
    | [_], m => simp [mT] at m
    | [_, _], m => simp [mT] at m
    | _ :: _ :: _ :: _ :: _, m => simp [mT] at m
    | [u, w, z], m =>
      simp only [mT, Bool.and_eq_true] at m
      obtain ⟨m1, m2, m3⟩ := m
      obtain ⟨n1, n2, n3⟩ := asg_plain (xs := [w, z]) (env := X.env) (nameT m1)
      obtain ⟨k1, k2, k3⟩ := asg_plain (xs := [z]) (env := X.env) (nameT m2)
      obtain ⟨j1, j2, j3⟩ := asg_plain (xs := []) (env := X.env) (nameT m3)
      have pa := pgs_cons (sG g st m1) (pgs_cons (sG g st m2) (pgs_cons (sG g st m3) pgs_nil j1) k1) n1
      refine (pg_tup (n := 3) g.calm pa (by rw [n2, k2, j2]; rfl) (n3 (k3 (j3 rfl)))).imp ?_
      rintro v σ H Q ⟨sv, env, env2, M, rs, rv, e, q⟩
      cases sv with
      | tup xs =>
        match xs, e with
        | [x, y, t], e =>
          obtain ⟨p, vs, rfl, tp, l⟩ := rv.tup_inv
          obtain ⟨x', y', z', rfl, rx, ry, rz⟩ : ∃ x' y' z', vs = [x', y', z'] ∧ Rep X.K H M x x' ∧ Rep X.K H M y y' ∧ Rep X.K H M t z' := by
            cases l with
            | cons p l =>
              obtain ⟨y', z', rfl, ry, rz⟩ := l.two
              exact ⟨_, _, _, rfl, p, ry, rz⟩
          obtain ⟨env1, e1, e2⟩ := Option.bind_eq_some_iff.mp (show (store a x env).bind (fun e => (store b y e).bind (store c t)) = some env2 from e)
          obtain ⟨env3, e3, e4⟩ := Option.bind_eq_some_iff.mp e2
          refine ⟨p, [x', y', z'], rfl, tp.sq, rfl, x', [y', z'], rfl, SG.mk rs rx e1 ?_⟩
          intro σ1 rs1 w1
          refine ⟨y', [z'], rfl, SG.mk rs1 ry e3 ?_⟩
          intro σ2 rs2 w2
          refine ⟨z', [], rfl, SG.mk rs2 rz e4 ?_⟩
          intro σ3 rs3 w3
          refine ⟨rfl, q σ3 rs3 ?_⟩
          intro vs hv
          rw [w3 vs fun i hi => hv i (List.mem_append_right _ (List.mem_append_right _ hi)), w2 vs fun i hi => hv i (List.mem_append_right _ (List.mem_append_left _ hi)), w1 vs fun i hi => hv i (List.mem_append_left _ hi)]
        | [], e => cases e
        | [_], e => cases e
        | [_, _], e => cases e
        | _ :: _ :: _ :: _ :: _, e => cases e
      | _ => cases e
end
end Ws
end

section
set_option Elab.async false
set_option linter.all false
set_option maxRecDepth 100000
set_option autoImplicit false
/-! What the simple interpreter says of an expression holds of the machine: comprehensions; all together. -/
namespace Ws
open PySem PySem.Spec PyProof.Rows L2
section
variable {X : Cx} {T : Tb} {S : Pt} {d : Nat} {N : List Str} {sc : Scope} {W : WX}
abbrev W0 : WX := fun _ _ _ _ => False

theorem own_back {own : List Nat} : (ownOf N own).map (·.2) = own := by
  unfold ownOf
  rw [List.map_map]
  induction own with
  | nil => rfl
  | cons i own ih =>
    rw [List.map_cons, ih]
    rfl
theorem comp_imp {p : Pr} {c : Bool} {elt : CE} {t : CT} {it : CI} {own : List Nat} (hsl : (slots t).all (fun i => own.contains i) = true) {σ : L2.St} {H : Hp} {Q : VK} (q : SE' X p W (.comp c elt t it own) σ H Q) :
    tLc (SI X p W it) (SG X.K t) tYes (SE' X p W0 elt) own σ H Q := by
  obtain ⟨env, h, M, at_, s⟩ := q
  refine ⟨env, h, M, at_, s.bind.mono ?_⟩
  intro xs h1 H1 M1 e1 r1 s1 J sn
  have s2 := s1.bind
  generalize hb : (fun (x : SV) (h : SH) => match store t x (wipeE env own) with
    | none => Res.bad
    | some env2 => (ev p elt env2 h).bind fun y h => Res.ok (some y) h) = body at s2
  have hs : ∀ i ∈ slots t, i ∈ own := by
    intro i hi
    have := List.all_eq_true.mp hsl i hi
    simpa using this
  cases hc : compF body xs h1 with
  | bad => rw [hc] at s2; exact s2.elim
  | err c v h => exact absurd hc compF_noerr
  | ok r hend =>
    rw [hc] at s2
    have s3 : SemR X.K X.mg (mkL c r hend) H1 M1 (WE W σ) fun v _ H' M' => ∀ x, Rep X.K H' M' v x → Q x H' := by
      have s1' : SemR X.K X.mg ((compF body xs h1).bind fun r h => mkL c r h) H1 M1 (WE W σ) fun v _ H' M' => ∀ x, Rep X.K H' M' v x → Q x H' := by
        rw [← hb]
        exact s1
      rw [hc] at s1'
      exact s1'
    refine lc_go hs ?_ (at_.go e1 r1).rs r1 sn hc s3
    intro v hc0 o h' eb
    rw [← hb] at eb
    simp only at eb
    cases es : store t v (wipeE env own) with
    | none => rw [es] at eb; cases eb
    | some env2 =>
      rw [es] at eb
      simp only at eb
      cases ee : ev p elt env2 hc0 with
      | bad => rw [ee] at eb; cases eb
      | err c v h => rw [ee] at eb; cases eb
      | ok y h2 =>
        rw [ee] at eb
        cases eb
        refine ⟨env2, rfl, ?_⟩
        intro σ2 H3 M3 Qs Qn rs rh hQ _
        show (if true = true then SE' X p W0 elt σ2 H3 Qs else Qn H3)
        rw [if_pos rfl]
        refine ⟨env2, hc0, M3, ⟨rs, rh⟩, ?_⟩
        rw [ee]
        exact fun H5 M5 e5 r5 yv ry => hQ y rfl H5 M5 e5 r5 yv ry
theorem compIf_imp {p : Pr} {c : Bool} {elt cd : CE} {t : CT} {it : CI} {own : List Nat} (hsl : (slots t).all (fun i => own.contains i) = true) {σ : L2.St} {H : Hp} {Q : VK} (q : SE' X p W (.compIf c elt t it cd own) σ H Q) :
    tLc (SI X p W it) (SG X.K t) (ST X p W0 cd) (SE' X p W0 elt) own σ H Q := by
  obtain ⟨env, h, M, at_, s⟩ := q
  refine ⟨env, h, M, at_, s.bind.mono ?_⟩
  intro xs h1 H1 M1 e1 r1 s1 J sn
  generalize hb : (fun (x : SV) (h : SH) => match store t x (wipeE env own) with
    | none => Res.bad
    | some env2 => (evT p cd env2 h).bind fun b h => if b = true then (ev p elt env2 h).bind fun y h => Res.ok (some y) h else Res.ok none h) = body at s1
  have hs : ∀ i ∈ slots t, i ∈ own := by
    intro i hi
    have := List.all_eq_true.mp hsl i hi
    simpa using this
  cases hc : compF body xs h1 with
  | bad => rw [hc] at s1; exact s1.elim
  | err c v h => exact absurd hc compF_noerr
  | ok r hend =>
    rw [hc] at s1
    refine lc_go hs ?_ (at_.go e1 r1).rs r1 sn hc s1
    intro v hc0 o h' eb
    rw [← hb] at eb
    simp only at eb
    cases es : store t v (wipeE env own) with
    | none => rw [es] at eb; cases eb
    | some env2 =>
      rw [es] at eb
      simp only at eb
      cases et : evT p cd env2 hc0 with
      | bad => rw [et] at eb; cases eb
      | err c v h => rw [et] at eb; cases eb
      | ok b h2 =>
        rw [et] at eb
        simp only [Res.bind_ok] at eb
        refine ⟨env2, rfl, ?_⟩
        intro σ2 H3 M3 Qs Qn rs rh hQ hN
        refine ⟨env2, hc0, M3, ⟨rs, rh⟩, ?_⟩
        rw [et]
        intro H4 M4 e4 r4
        cases b with
        | true =>
          rw [if_pos rfl] at eb ⊢
          cases ee : ev p elt env2 h2 with
          | bad => rw [ee] at eb; cases eb
          | err c v h => rw [ee] at eb; cases eb
          | ok y h3 =>
            rw [ee] at eb
            cases eb
            refine ⟨env2, h2, M4, ⟨rs.mono e4, r4⟩, ?_⟩
            rw [ee]
            exact fun H5 M5 e5 r5 yv ry => hQ y rfl H5 M5 (e4.trans e5) r5 yv ry
        | false =>
          cases eb
          exact hN rfl H4 M4 e4 r4
/-- a block of a comprehension -/
theorem Gd.blk (g : Gd X T S d N sc W) (s : Shared) (H : Hp) (scope : Scope) (C : Addr) (cl : List (Str × Addr)) (fp : List Addr) : Gd (X.blk s H scope (compEnvC scope cl C X.env) fp) T S d N (relS scope sc) W0 :=
  ⟨g.hN, by rw [← g.hsc]; rfl, g.nd, g.calm, g.room, g.guards, takes0, g.fs, g.free, g.globs, g.funs⟩
theorem sto_blk (g : Gd X T S d N sc W) (s : Shared) (H : Hp) (scope : Scope) (C : Addr) (cl : List (Str × Addr)) (fp : List Addr) : Sto (X.blk s H scope (compEnvC scope cl C X.env) fp) (relS scope sc) (some scope) := by
  intro x h
  have h' : locB scope x = true := h
  unfold locB at h'
  have hk : ∀ k, k ≠ NameKind.free → scope.names.lookup x = some k → (compEnvC scope cl C X.env).scope.names.lookup x = some k := fun k hk e => lookup_relS_keep hk e
  split at h'
  · rename_i e
    exact ⟨.inl (hk _ (by decide) e), .inr (hk _ (by decide) e)⟩
  · rename_i e
    refine ⟨.inr (hk _ (by decide) e), .inl ?_⟩
    show (scope.names.lookup x == some .cell) = true
    rw [e]
    rfl
  · cases h'
theorem fold_plain {x : Expr} (h : plainE x = true) : ∀ v, foldedSetIterable x X.env v = pure v := by
  intro v
  cases x <;> first | rfl | cases h
end
end Ws
end

section
set_option Elab.async false
set_option linter.all false
set_option maxRecDepth 100000
set_option autoImplicit false
/-! What the simple interpreter says of an expression holds of the machine. -/
namespace Ws
open PySem PySem.Spec PyProof.Rows L2

def isBool : Expr → Bool
  | .BoolOp .. => true
  | _ => false
structure SndE (X : Cx) (p : Pr) (W : WX) (e : CE) (x : Expr) : Prop where
  pe : PE X x (SE' X p W e)
  pt : PT X x (ST X p W e)
  pw : isBool x = true → PW X x (ST X p W e)
section
variable {X : Cx} {T : Tb} {S : Pt} {d : Nat} {N : List Str} {sc : Scope} {W : WX} {p : Pr}
theorem t_bad {e : CE} {x : Expr} (h : ∀ env h, evT p e env h = .bad) : PT X x (ST X p W e) := by
  refine ⟨?_⟩
  rintro pins s σ H Q I ⟨env, h', M, at_, s⟩
  rw [h] at s
  exact s.elim
/-- no test of its own -/
theorem snd_of {e : CE} {x : Expr} (hx : PE X x (SE' X p W e)) (h : ∀ env h, evT p e env h = .bad) (hb : isBool x = false) : SndE X p W e x := ⟨hx, t_bad h, fun z => by rw [hb] at z; cases z⟩
theorem snd_t {e : CE} {x : Expr} (hx : PE X x (SE' X p W e)) (ht : PT X x (ST X p W e)) (hb : isBool x = false) : SndE X p W e x := ⟨hx, ht, fun z => by rw [hb] at z; cases z⟩
theorem call_T {f : Nat} {perm : List Nat} {es ks : CEs} (env : SE) (h : SH) : evT p (.call f perm es ks) env h = (ev p (.call f perm es ks) env h).bind fun v h => Ws.ofO h (truthOf h v) := by
  simp only [evT, ev]
  cases evs p es env h with
  | ok xs h1 =>
    simp only [Res.bind_ok]
    cases evs p ks env h1 with
    | ok ys h2 => rfl
    | err c v h => rfl
    | bad => rfl
  | err c v h => rfl
  | bad => rfl
theorem ofO_bindT {o : Option SV} {h : SH} : (Ws.ofO h o).bind (fun v h => Ws.ofO h (truthOf h v)) = Ws.ofO h (o.bind (truthOf h)) := by
  cases o <;> rfl
theorem bi_T {b : BI} {es : CEs} (env : SE) (h : SH) : evT p (.bi b es) env h = (ev p (.bi b es) env h).bind fun v h => Ws.ofO h (truthOf h v) := by
  simp only [evT, ev]
  cases evs p es env h with
  | ok xs h1 =>
    simp only [Res.bind_ok]
    exact ofO_bindT.symm
  | err c v h => rfl
  | bad => rfl
theorem ix_T {a i : CE} (env : SE) (h : SH) : evT p (.ix a i) env h = (ev p (.ix a i) env h).bind fun v h => Ws.ofO h (truthOf h v) := by
  simp only [evT, ev]
  cases ev p a env h with
  | ok x h1 =>
    simp only [Res.bind_ok]
    cases ev p i env h1 with
    | ok y h2 => simp only [Res.bind_ok]; exact ofO_bindT.symm
    | err c v h => rfl
    | bad => rfl
  | err c v h => rfl
  | bad => rfl
theorem var_T {i : Nat} (env : SE) (h : SH) : evT p (.var i) env h = (ev p (.var i) env h).bind fun v h => Ws.ofO h (truthOf h v) := by
  simp only [evT, ev]
  exact ofO_bindT.symm
/-- of one in a row nothing is asked but itself -/
theorem one_and {e : CE} {x : Expr} {pos : Pos} (h : SndE X p W e x) : PE X (.BoolOp .And [x] pos) (SE' X p W e) ∧ PW X (.BoolOp .And [x] pos) (ST X p W e) := ⟨pe_one h.pe, pw_and1 h.pt⟩
theorem one_or {e : CE} {x : Expr} {pos : Pos} (h : SndE X p W e x) : PE X (.BoolOp .Or [x] pos) (SE' X p W e) ∧ PW X (.BoolOp .Or [x] pos) (ST X p W e) := ⟨pe_one h.pe, pw_or1 h.pt⟩
end

theorem mPs_some {S : Pt} {N : List Str} {sc : Scope} : ∀ {es : CEs} {ks : List (Option Expr)} {vs : List Expr}, mPs S N sc es ks vs = true → ks.all (·.isSome) = true
  | .nil, [], _, _ => rfl
  | .nil, _ :: _, _, m => by simp [mPs] at m
  | .cons e .nil, _, _, m => by simp [mPs] at m
  | .cons e (.cons g r), [], _, m => rfl
  | .cons e (.cons g r), none :: _, _, m => by simp [mPs] at m
  | .cons e (.cons g r), some k :: ks, [], m => by simp [mPs] at m
  | .cons e (.cons g r), some k :: ks, v :: vs, m => by
    simp only [mPs, Bool.and_eq_true] at m
    show (true && _) = true
    rw [Bool.true_and]
    exact mPs_some (es := r) m.2.2
section
variable (T : Tb) (S : Pt) (d : Nat) (N : List Str)
mutual
theorem sE : ∀ (e : CE) (X : Cx) (sc : Scope) (W : WX) (x : Expr), Gd X T S d N sc W → mE S N sc e x = true → SndE X (prOf T d) W e x
  | .var i, X, sc, W, x, g, m => by
    cases x <;> first | (cases m; done) | skip
    rename_i nm pos
    simp only [mE, Bool.and_eq_true, decide_eq_true_eq] at m
    have pe := e_var g (p := prOf T d) (pos := pos) m.1 m.2.1 m.2.2
    exact snd_t pe (t_val (fun _ => rfl) pe var_T) rfl
  | .non, X, sc, W, x, g, m => by
    cases x <;> first | (cases m; done) | skip
    rename_i c j pos
    cases c <;> first | (cases m; done) | skip
    exact snd_of (e_const pe_non (fun _ _ => rfl) fun _ _ => .non) (fun _ _ => rfl) rfl
  | .bl b, X, sc, W, x, g, m => by
    cases x <;> first | (cases m; done) | skip
    rename_i c j pos
    cases c <;> first | (cases m; done) | skip
    simp only [mE, beq_iff_eq] at m
    subst m
    exact snd_of (e_const pe_bl (fun _ _ => rfl) fun _ _ => .bl _) (fun _ _ => rfl) rfl
  | .int i, X, sc, W, x, g, m => by
    cases x <;> first | (cases m; done) | skip
    rename_i c j pos
    cases c <;> first | (cases m; done) | skip
    simp only [mE, decide_eq_true_eq] at m
    subst m
    exact snd_of (e_const pe_int (fun _ _ => rfl) fun _ _ => .int _) (fun _ _ => rfl) rfl
  | .str i, X, sc, W, x, g, m => by
    cases x <;> first | (cases m; done) | skip
    rename_i c j pos
    cases c <;> first | (cases m; done) | skip
    simp only [mE, decide_eq_true_eq] at m
    subst m
    exact snd_of (e_const pe_str (fun _ _ => rfl) fun _ _ => .str _) (fun _ _ => rfl) rfl
  | .glob y, X, sc, W, x, g, m => by
    cases x <;> first | (cases m; done) | skip
    simp only [mE, Bool.and_eq_true, decide_eq_true_eq] at m
    obtain ⟨rfl, m1, m2, m3⟩ := m
    exact snd_of (e_glob g m1 m2 m3) (fun _ _ => rfl) rfl
  | .bin op a b, X, sc, W, x, g, m => by
    cases x <;> first | (cases m; done) | skip
    simp only [mE, Bool.and_eq_true] at m
    exact snd_of (e_bin m.1 (sE a X sc W _ g m.2.1).pe (sE b X sc W _ g m.2.2).pe) (fun _ _ => rfl) rfl
  | .neg a, X, sc, W, x, g, m => by
    cases x <;> first | (cases m; done) | skip
    rename_i o l pos
    cases o <;> first | (cases m; done) | skip
    simp only [mE] at m
    exact snd_of (e_neg (sE a X sc W _ g m).pe) (fun _ _ => rfl) rfl
  | .cmp op a b, X, sc, W, x, g, m => by
    cases x <;> first | (cases m; done) | skip
    rename_i l ops rs pos
    match ops, rs, m with
    | [o], [r], m =>
      simp only [mE, Bool.and_eq_true, Bool.not_eq_true'] at m
      have ha := (sE a X sc W _ g m.2.1).pe
      have hb := (sE b X sc W _ g m.2.2).pe
      exact snd_t (e_cmp g.hu m.1.1 m.1.2 ha hb) (t_cmp g.hu m.1.1 m.1.2 ha hb) rfl
    | [], _, m => cases m
    | [_], [], m => cases m
    | [_], _ :: _ :: _, m => cases m
    | _ :: _ :: _, _, m => cases m
  | .chain o1 o2 a b c, X, sc, W, x, g, m => by
    cases x <;> first | (cases m; done) | skip
    rename_i l ops rs pos
    match ops, rs, m with
    | [p1, p2], [q, r], m =>
      simp only [mE, Bool.and_eq_true, Bool.not_eq_true'] at m
      have ha := (sE a X sc W _ g m.2.1).pe
      have hb := (sE b X sc W _ g m.2.2.1).pe
      have hc := (sE c X sc W _ g m.2.2.2).pe
      exact snd_t (e_chain g.hu m.1.1 m.1.2.1 m.1.2.2 ha hb hc) (t_chain g.hu m.1.1 m.1.2.1 m.1.2.2 ha hb hc) rfl
    | [], _, m => cases m
    | [_], _, m => cases m
    | [_, _], [], m => cases m
    | [_, _], [_], m => cases m
    | [_, _], _ :: _ :: _ :: _, m => cases m
    | _ :: _ :: _ :: _, _, m => cases m
  | .and a b, X, sc, W, x, g, m => by
    cases x <;> first | (cases m; done) | skip
    rename_i o es pos
    cases o <;> first | (cases m; done) | skip
    match es, m with
    | [], m => cases m
    | [_], m => cases m
    | [l, r], m =>
      simp only [mE, Bool.and_eq_true] at m
      have ha := sE a X sc W _ g m.1
      obtain ⟨h1, h2⟩ := one_and (pos := pos) (sE b X sc W _ g m.2)
      have w := w_and ha.pt h2
      exact ⟨e_and ha.pe h1, w.pt, fun _ => w⟩
    | l :: r :: q :: qs, m =>
      simp only [mE, Bool.and_eq_true] at m
      have ha := sE a X sc W _ g m.1
      have hb := sE b X sc W _ g m.2
      have w := w_and ha.pt (hb.pw rfl)
      exact ⟨e_and ha.pe hb.pe, w.pt, fun _ => w⟩
  | .or a b, X, sc, W, x, g, m => by
    cases x <;> first | (cases m; done) | skip
    rename_i o es pos
    cases o <;> first | (cases m; done) | skip
    match es, m with
    | [], m => cases m
    | [_], m => cases m
    | [l, r], m =>
      simp only [mE, Bool.and_eq_true] at m
      have ha := sE a X sc W _ g m.1
      obtain ⟨h1, h2⟩ := one_or (pos := pos) (sE b X sc W _ g m.2)
      have w := w_or ha.pt h2
      exact ⟨e_or ha.pe h1, w.pt, fun _ => w⟩
    | l :: r :: q :: qs, m =>
      simp only [mE, Bool.and_eq_true] at m
      have ha := sE a X sc W _ g m.1
      have hb := sE b X sc W _ g m.2
      have w := w_or ha.pt (hb.pw rfl)
      exact ⟨e_or ha.pe hb.pe, w.pt, fun _ => w⟩
  | .not a, X, sc, W, x, g, m => by
    cases x <;> first | (cases m; done) | skip
    rename_i o l pos
    cases o <;> first | (cases m; done) | skip
    simp only [mE] at m
    have ha := sE a X sc W _ g m
    exact snd_t (e_not ha.pe) (t_not ha.pt) rfl
  | .ite t a b, X, sc, W, x, g, m => by
    cases x <;> first | (cases m; done) | skip
    simp only [mE, Bool.and_eq_true] at m
    exact snd_of (e_ite (sE t X sc W _ g m.1).pt (sE a X sc W _ g m.2.1).pe (sE b X sc W _ g m.2.2).pe) (fun _ _ => rfl) rfl
  | .tup es, X, sc, W, x, g, m => by
    cases x <;> first | (cases m; done) | skip
    simp only [mE] at m
    exact snd_of (e_tup (sA es X sc W _ g m)) (fun _ _ => rfl) rfl
  | .lst c es, X, sc, W, x, g, m => by
    cases x <;> first | (cases m; done) | skip
    simp only [mE] at m
    exact snd_of (e_lst (sA es X sc W _ g m)) (fun _ _ => rfl) rfl
  | .repL c a b, X, sc, W, x, g, m => by
    cases x <;> first | (cases m; done) | skip
    rename_i l o r pos
    cases o <;> first | (cases m; done) | skip
    simp only [mE, Bool.and_eq_true] at m
    exact snd_of (e_rep (sE a X sc W _ g m.1).pe (sE b X sc W _ g m.2).pe) (fun _ _ => rfl) rfl
  | .ix a i, X, sc, W, x, g, m => by
    cases x <;> first | (cases m; done) | skip
    rename_i l r pos
    simp only [mE, Bool.and_eq_true] at m
    have hu := g.hu
    have pe := e_ix (pos := pos) (by omega) m.1 (sE a X sc W _ g m.2.1).pe (sE i X sc W _ g m.2.2).pe
    exact snd_t pe (t_val (fun _ => rfl) pe ix_T) rfl
  | .sl a lo hi, X, sc, W, x, g, m => by
    cases x <;> first | (cases m; done) | skip
    rename_i l s pos
    cases s <;> first | (cases m; done) | skip
    rename_i lx ux st p2
    cases st <;> first | (cases m; done) | skip
    simp only [mE, Bool.and_eq_true] at m
    exact snd_of (e_sl (sE a X sc W _ g m.1).pe (sO lo X sc W _ g m.2.1) (sO hi X sc W _ g m.2.2)) (fun _ _ => rfl) rfl
  | .call f perm es ks, X, sc, W, x, g, m => by
    cases x <;> first | (cases m; done) | skip
    rename_i fn xs kws pos
    cases fn <;> first | (cases m; done) | skip
    rename_i fx np
    simp only [mE, Bool.and_eq_true] at m
    have pe := e_call g (np := np) (pos := pos) m.1.1 m.1.2.1 m.1.2.2 m.2.1 m.2.2 (sA es X sc W _ g m.2.1) (sK ks X sc W _ g m.2.2)
    exact snd_t pe (t_val (fun _ => rfl) pe call_T) rfl
  | .bi b es, X, sc, W, x, g, m => by
    cases x <;> first | (cases m; done) | skip
    rename_i fn xs kws pos
    cases fn <;> first | (cases m; done) | skip
    cases kws <;> first | (cases m; done) | skip
    simp only [mE, Bool.and_eq_true, decide_eq_true_eq] at m
    obtain ⟨⟨m1, m2⟩, m3⟩ := m
    cases hb : biCls b with
    | none =>
      rw [hb] at m3
      cases xs with
      | nil => cases m3
      | cons y ys =>
        have m3' : mEs S N sc es (y :: ys) = true := m3
        have pe := fun np pos => e_bi g (p := prOf T d) (np := np) (pos := pos) hb m1 m2 (mEs_plain m3') (sA es X sc W _ g m3')
        exact snd_t (pe _ _) (t_val (fun _ => rfl) (pe _ _) bi_T) rfl
    | some cn =>
      rw [hb] at m3
      match xs, m3 with
      | [], m3 => cases m3
      | [_], m3 => cases m3
      | _ :: z :: _ :: _, m3 => cases z <;> cases m3
      | [y, z], m3 =>
        cases z <;> first | (cases m3; done) | skip
        simp only [Bool.and_eq_true, decide_eq_true_eq] at m3
        obtain ⟨⟨rfl, m4⟩, m5⟩ := m3
        match es, m5 with
        | .nil, m5 => simp [mEs] at m5
        | .cons e (.cons _ _), m5 => simp [mEs] at m5
        | .cons e .nil, m5 =>
          simp only [mEs, Bool.and_eq_true] at m5
          have pe := fun np cp pos => e_isi g (p := prOf T d) (np := np) (cp := cp) (pos := pos) hb m1 m2 m4 m5.1 (sE e X sc W _ g m5.2.1).pe
          exact snd_t (pe _ _ _) (t_val (fun _ => rfl) (pe _ _ _) bi_T) rfl
  | .comp c elt t it own, X, sc, W, x, g, m => by
    cases x <;> first | (cases m; done) | skip
    rename_i el gens scope pos
    match gens, m with
    | [], m => cases m
    | ⟨_, _, ifs, _⟩ :: _ :: _, m => cases ifs <;> cases m
    | [⟨tg, iter, ifs, k⟩], m =>
      cases ifs <;> first | (cases m; done) | skip
      simp only [mE, Bool.and_eq_true, decide_eq_true_eq] at m
      obtain ⟨rfl, hsl, ⟨m1, m2, m3⟩, m4, m5⟩ := m
      have ok : BlkOk X.N X.env.scope scope (ownOf N own) := by
        rw [g.hN, g.hsc]
        exact blkOk_by m1
      have hi := sI it X sc W tg iter g m3 m4
      have pe := pe_lc (pos := pos) (elt := el) (te := SE' X (prOf T d) W0 elt) (tt := tYes) (g := SG X.K t) g.calm (by rw [g.hN]; exact g.nd) hi ok (fun s H C cl fp => sG (g.blk s H scope C cl fp) (sto_blk g s H scope C cl fp) m2) (fun s H C cl fp => pts_nil)
        (fun s H C cl fp => (sE elt _ _ W0 el (g.blk s H scope C cl fp) m5).pe) (fold_plain m3)
      refine snd_of (pe.imp ?_) (fun _ _ => rfl) rfl
      intro σ H Q q
      rw [own_back]
      exact comp_imp hsl q
  | .compIf c elt t it cd own, X, sc, W, x, g, m => by
    cases x <;> first | (cases m; done) | skip
    rename_i el gens scope pos
    match gens, m with
    | [], m => cases m
    | ⟨_, _, [], _⟩ :: _ :: _, m => cases m
    | ⟨_, _, [_], _⟩ :: _ :: _, m => cases m
    | ⟨_, _, _ :: _ :: _, _⟩ :: _ :: _, m => cases m
    | [⟨tg, iter, ifs, k⟩], m =>
      match ifs, m with
      | [], m => cases m
      | _ :: _ :: _, m => cases m
      | [cx], m =>
        simp only [mE, Bool.and_eq_true, decide_eq_true_eq] at m
        obtain ⟨rfl, hsl, ⟨m1, m2, m3⟩, m4, m5, m6⟩ := m
        have ok : BlkOk X.N X.env.scope scope (ownOf N own) := by
          rw [g.hN, g.hsc]
          exact blkOk_by m1
        have hi := sI it X sc W tg iter g m3 m4
        have pe := pe_lc (pos := pos) (elt := el) (te := SE' X (prOf T d) W0 elt) (tt := ST X (prOf T d) W0 cd) (g := SG X.K t) g.calm (by rw [g.hN]; exact g.nd) hi ok (fun s H C cl fp => sG (g.blk s H scope C cl fp) (sto_blk g s H scope C cl fp) m2)
          (fun s H C cl fp => pts_one (sE cd _ _ W0 cx (g.blk s H scope C cl fp) m6).pt) (fun s H C cl fp => (sE elt _ _ W0 el (g.blk s H scope C cl fp) m5).pe) (fold_plain m3)
        refine snd_of (pe.imp ?_) (fun _ _ => rfl) rfl
        intro σ H Q q
        rw [own_back]
        exact compIf_imp hsl q
  | .dict es, X, sc, W, x, g, m => by
    cases x <;> first | (cases m; done) | skip
    rename_i keys vals pos
    cases keys <;> first | (cases m; done) | skip
    rename_i k ks
    simp only [mE, Bool.and_eq_true, decide_eq_true_eq] at m
    obtain ⟨⟨m1, m2⟩, m3⟩ := m
    exact snd_of (e_dict m1 m2 (by simp) (mPs_some m3) (mPs_even m3) (sP es X sc W _ _ pos g m3)) (fun _ _ => rfl) rfl
theorem sP : ∀ (es : CEs) (X : Cx) (sc : Scope) (W : WX) (ks : List (Option Expr)) (vs : List Expr) (pos : Pos), Gd X T S d N sc W → mPs S N sc es ks vs = true → PPs X pos ks vs (trsOf X (prOf T d) W es)
  | .nil, X, sc, W, [], [], pos, g, m => pps_nil
  | .nil, X, sc, W, _ :: _, _, pos, g, m => by simp [mPs] at m
  | .nil, X, sc, W, [], _ :: _, pos, g, m => by simp [mPs] at m
  | .cons e .nil, X, sc, W, _, _, pos, g, m => by simp [mPs] at m
  | .cons e (.cons f r), X, sc, W, [], _, pos, g, m => by simp [mPs] at m
  | .cons e (.cons f r), X, sc, W, none :: _, _, pos, g, m => by simp [mPs] at m
  | .cons e (.cons f r), X, sc, W, some k :: ks, [], pos, g, m => by simp [mPs] at m
  | .cons e (.cons f r), X, sc, W, some k :: ks, v :: vs, pos, g, m => by
    simp only [mPs, Bool.and_eq_true] at m
    exact pps_cons (sE e X sc W k g m.1).pe (sE f X sc W v g m.2.1).pe (sP r X sc W ks vs pos g m.2.2)
theorem sA : ∀ (es : CEs) (X : Cx) (sc : Scope) (W : WX) (xs : List Expr), Gd X T S d N sc W → mEs S N sc es xs = true → PA X xs (SA X (prOf T d) W es)
  | .nil, X, sc, W, [], g, m => a_nil
  | .cons e r, X, sc, W, x :: xs, g, m => by
    simp only [mEs, Bool.and_eq_true] at m
    exact a_cons m.1 (sE e X sc W x g m.2.1).pe (sA r X sc W xs g m.2.2)
  | .nil, X, sc, W, _ :: _, g, m => by simp [mEs] at m
  | .cons _ _, X, sc, W, [], g, m => by simp [mEs] at m
theorem sK : ∀ (es : CEs) (X : Cx) (sc : Scope) (W : WX) (xs : List Keyword), Gd X T S d N sc W → mKs S N sc es xs = true → PK X xs (SA X (prOf T d) W es)
  | .nil, X, sc, W, [], g, m => k_nil
  | .cons e r, X, sc, W, ⟨some n, x, kp⟩ :: xs, g, m => by
    simp only [mKs, Bool.and_eq_true] at m
    exact k_cons (sE e X sc W x g m.2.1).pe (sK r X sc W xs g m.2.2)
  | .cons _ _, X, sc, W, ⟨none, x, kp⟩ :: xs, g, m => by simp [mKs] at m
  | .nil, X, sc, W, _ :: _, g, m => by simp [mKs] at m
  | .cons _ _, X, sc, W, [], g, m => by simp [mKs] at m
theorem sO : ∀ (o : CO) (X : Cx) (sc : Scope) (W : WX) (x : Option Expr), Gd X T S d N sc W → mO S N sc o x = true → PO X x (SO_ X (prOf T d) W o)
  | .none, X, sc, W, none, g, m => o_none
  | .some e, X, sc, W, some x, g, m => o_some (sE e X sc W x g (by simpa [mO] using m)).pe
  | .none, X, sc, W, some _, g, m => by simp [mO] at m
  | .some _, X, sc, W, none, g, m => by simp [mO] at m
theorem sI : ∀ (it : CI) (X : Cx) (sc : Scope) (W : WX) (tg x : Expr), Gd X T S d N sc W → plainE x = true → mI S N sc it tg x = true → PI X tg x (SI X (prOf T d) W it)
  | .it e, X, sc, W, tg, x, g, hp, m => i_it (sE e X sc W x g (by simpa [mI] using m)).pe
  | .range1 e, X, sc, W, tg, x, g, hp, m => by
    cases x <;> first | (cases m; done) | skip
    rename_i fn xs kws pos
    cases fn <;> first | (cases m; done) | skip
    match xs, kws, m with
    | [], _, m => cases m
    | _ :: _ :: _, _, m => cases m
    | [_], _ :: _, m => cases m
    | [y], [], m =>
      simp only [mI, Bool.and_eq_true, decide_eq_true_eq] at m
      obtain ⟨⟨rfl, m1⟩, m2, m3⟩ := m
      exact i_r1 g m1 m2 (sE e X sc W y g m3).pe
  | .range2 e f, X, sc, W, tg, x, g, hp, m => by
    cases x <;> first | (cases m; done) | skip
    rename_i fn xs kws pos
    cases fn <;> first | (cases m; done) | skip
    match xs, kws, m with
    | [], _, m => cases m
    | [_], _, m => cases m
    | _ :: _ :: _ :: _, _, m => cases m
    | [_, _], _ :: _, m => cases m
    | [y, z], [], m =>
      simp only [mI, Bool.and_eq_true, decide_eq_true_eq] at m
      obtain ⟨⟨rfl, m1⟩, ⟨m2, m3⟩, m4, m5⟩ := m
      exact i_r2 g m1 m2 m4 (sE e X sc W y g m3).pe (sE f X sc W z g m5).pe
  | .enum e, X, sc, W, tg, x, g, hp, m => by
    cases tg <;> first | (cases m; done) | skip
    cases x <;> first | (cases m; done) | skip
    rename_i fn xs kws pos
    cases fn <;> first | (cases m; done) | skip
    match xs, kws, m with
    | [], _, m => cases m
    | _ :: _ :: _, _, m => cases m
    | [_], _ :: _, m => cases m
    | [y], [], m =>
      simp only [mI, Bool.and_eq_true, decide_eq_true_eq] at m
      obtain ⟨⟨rfl, m1⟩, m2, m3⟩ := m
      exact i_en g m1 m2 (sE e X sc W y g m3).pe
  | .zip2 e f, X, sc, W, tg, x, g, hp, m => by
    cases tg <;> first | (cases m; done) | skip
    cases x <;> first | (cases m; done) | skip
    rename_i fn xs kws pos
    cases fn <;> first | (cases m; done) | skip
    match xs, kws, m with
    | [], _, m => cases m
    | [_], _, m => cases m
    | _ :: _ :: _ :: _, _, m => cases m
    | [_, _], _ :: _, m => cases m
    | [y, z], [], m =>
      simp only [mI, Bool.and_eq_true, decide_eq_true_eq] at m
      obtain ⟨⟨rfl, m1⟩, ⟨m2, m3⟩, m4, m5⟩ := m
      exact i_z2 g m1 m2 m4 (sE e X sc W y g m3).pe (sE f X sc W z g m5).pe
  | .zip3 a b c, X, sc, W, tg, x, g, hp, m => by
    cases tg <;> cases x <;> cases m
end
end
end Ws
end

section
set_option Elab.async false
set_option linter.all false
set_option maxRecDepth 100000
set_option autoImplicit false
/-! What the simple interpreter says of statements holds of the machine. -/
namespace Ws
open PySem PySem.Spec PyProof.Rows L2

/-- what a run of statements promises -/
def OutR (K : PySem.W.Frag) (mg : Str → Option Value) (W : WX) (o : Out) (H : Hp) (M : Ms) (D : Ends) : Prop := match o with
  | .nx env h => ∀ (H' : Hp) (M' : Ms) (σ : L2.St), Evo H M H' M' → At K env h M' σ H' → D.nx σ H'
  | .bk env h => ∀ (H' : Hp) (M' : Ms) (σ : L2.St), Evo H M H' M' → At K env h M' σ H' → D.bk σ H'
  | .ct env h => ∀ (H' : Hp) (M' : Ms) (σ : L2.St), Evo H M H' M' → At K env h M' σ H' → D.ct σ H'
  | .rt v h => ∀ (H' : Hp) (M' : Ms) (x : V), Evo H M H' M' → RH K H' M' h → Rep K H' M' v x → D.rt x H'
  | .err c v env h => ∀ (H' : Hp) (M' : Ms) (cls : Value) (d : Addr) (x : V) (σ : L2.St), Evo H M H' M' → RS K H' M' env σ → RH K H' M' h → mg c = some cls → H' d = some (.xd [("value", x)]) → Rep K H' M' v x → W cls (some d) σ H'
  | .bad => False

def SS (X : Cx) (p : Pr) (W : WX) (s : CS) : TS := fun D σ H => ∃ env h M, At X.K env h M σ H ∧ OutR X.K X.mg W (evS p s env h) H M D
def SSs (X : Cx) (p : Pr) (W : WX) (s : CSs) : TS := fun D σ H => ∃ env h M, At X.K env h M σ H ∧ OutR X.K X.mg W (evSs p s env h) H M D

section
variable {K : PySem.W.Frag} {mg : Str → Option Value} {W : WX} {o : Out} {H H' : Hp} {M M' : Ms} {D : Ends} {env : SE} {h h' : SH} {σ : L2.St}
theorem OutR.from (q : OutR K mg W o H M D) (e : Evo H M H' M') : OutR K mg W o H' M' D := by
  cases o with
  | nx env h => exact fun H2 M2 σ e2 a => q H2 M2 σ (e.trans e2) a
  | bk env h => exact fun H2 M2 σ e2 a => q H2 M2 σ (e.trans e2) a
  | ct env h => exact fun H2 M2 σ e2 a => q H2 M2 σ (e.trans e2) a
  | rt v h => exact fun H2 M2 x e2 r a => q H2 M2 x (e.trans e2) r a
  | err c v env h => exact fun H2 M2 cls d x σ e2 rs r hc hd rx => q H2 M2 cls d x σ (e.trans e2) rs r hc hd rx
  | bad => exact q
/-- an expression ahead -/
theorem OutR.of {α : Type} {r : Res α} {f : α → SH → Out} (a : At K env h M σ H) (q : OutR K mg W (Out.of env r f) H M D) : SemR K mg r H M (WE W σ) fun x h1 H1 M1 => OutR K mg W (f x h1) H1 M1 D := by
  cases r with
  | ok x h1 => exact fun H1 M1 e r => OutR.from q e
  | err c v h1 => exact fun H1 M1 cls d x e r hc hd rx => q H1 M1 cls d x σ e (a.rs.mono e) r hc hd rx
  | bad => exact q
theorem At.wipe (a : At K env h M σ H) (ks : List Nat) : At K (wipeE env ks) h M σ H := ⟨a.rs.wipeL ks, a.rh⟩
theorem At.set {i : Nat} {v : SV} {x : V} (a : At K env h M σ H) (r : Rep K H M v x) : At K (env.set i (some v)) h M (σ.set i (some x)) H := ⟨a.rs.set r, a.rh⟩
/-- D with one end put in -/
theorem OutR.nx (q : OutR K mg W (.nx env h) H M D) (a : At K env h M σ H) : D.nx σ H := q H M σ .refl a
end

section
variable {X : Cx} {T : Tb} {S : Pt} {d : Nat} {N : List Str} {sc : Scope} {W : WX} {p : Pr}
theorem ss_nil : PSs X [] (SSs X p W .nil) := by
  refine pss_nil.imp ?_
  rintro D σ H ⟨env, h, M, a, q⟩
  exact q.nx a
theorem ss_cons {s : CS} {r : CSs} {st : Stmt} {rest : List Stmt} (h1 : PS X st (SS X p W s)) (h2 : PSs X rest (SSs X p W r)) : PSs X (st :: rest) (SSs X p W (.cons s r)) := by
  refine (pss_cons h1 h2).imp ?_
  rintro D σ H ⟨env, h, M, a, q⟩
  refine ⟨env, h, M, a, ?_⟩
  have q' : OutR X.K X.mg W (match evS p s env h with
    | .nx env h => evSs p r env h
    | o => o) H M D := q
  cases e : evS p s env h with
  | nx env1 h1 =>
    rw [e] at q'
    intro H' M' σ' ev a'
    exact ⟨env1, h1, M', a', OutR.from q' ev⟩
  | bk env1 h1 => rw [e] at q'; exact q'
  | ct env1 h1 => rw [e] at q'; exact q'
  | rt v h1 => rw [e] at q'; exact q'
  | err c v env1 h1 => rw [e] at q'; exact q'
  | bad => rw [e] at q'; exact q'
theorem ss_kill {ks : List Nat} {r : CSs} {rest : List Stmt} (h2 : PSs X rest (SSs X p W r)) : PSs X rest (SSs X p W (.kill ks r)) := by
  refine h2.imp ?_
  rintro D σ H ⟨env, h, M, a, q⟩
  exact ⟨wipeE env ks, h, M, a.wipe ks, q⟩
theorem s_nev {st : Stmt} : PS X st (SS X p W .nev) := by
  refine ps_never.imp ?_
  rintro D σ H ⟨env, h, M, a, q⟩
  exact q
theorem s_pass {pos : Pos} : PS X (.Pass pos) (SS X p W .pass) := by
  refine ps_pass.imp ?_
  rintro D σ H ⟨env, h, M, a, q⟩
  exact q.nx a
theorem s_brk {pos : Pos} : PS X (.Break pos) (SS X p W .brk) := by
  refine ps_break.imp ?_
  rintro D σ H ⟨env, h, M, a, q⟩
  exact q H M σ .refl a
theorem s_cnt {pos : Pos} : PS X (.Continue pos) (SS X p W .cnt) := by
  refine ps_continue.imp ?_
  rintro D σ H ⟨env, h, M, a, q⟩
  exact q H M σ .refl a
theorem s_retN {pos : Pos} : PS X (.Return none pos) (SS X p W .retN) := by
  refine ps_retN.imp ?_
  rintro D σ H ⟨env, h, M, a, q⟩
  exact q H M _ .refl a.rh .non
theorem s_ret {e : CE} {x : Expr} {pos : Pos} (hx : PE X x (SE' X p W e)) : PS X (.Return (some x) pos) (SS X p W (.ret e)) := by
  refine (ps_ret hx).imp ?_
  rintro D σ H ⟨env, h, M, a, q⟩
  refine ⟨env, h, M, a, (OutR.of a q).mono ?_⟩
  intro v h1 H1 M1 e1 r1 q1 y ry
  exact q1 H1 M1 y .refl r1 ry
theorem s_cond {t : CE} {u w : CSs} {x : Expr} {us ws : List Stmt} {pos : Pos} (hx : PT X x (ST X p W t)) (hu : PSs X us (SSs X p W u)) (hw : PSs X ws (SSs X p W w)) : PS X (.If x us ws pos) (SS X p W (.cond t u w)) := by
  refine (ps_if hx hu hw).imp ?_
  rintro D σ H ⟨env, h, M, a, q⟩
  refine ⟨env, h, M, a, (OutR.of a q).mono ?_⟩
  intro b h1 H1 M1 e1 r1 q1
  cases b with
  | true => exact ⟨env, h1, M1, a.go e1 r1, q1⟩
  | false => exact ⟨env, h1, M1, a.go e1 r1, q1⟩
theorem s_expr {e : CE} {x : Expr} {pos : Pos} (hc : compE x = false) (hx : PE X x (SE' X p W e)) : PS X (.Expr x pos) (SS X p W (.expr e)) := by
  refine (ps_expr hx (by cases x <;> first | rfl | cases hc)).imp ?_
  rintro D σ H ⟨env, h, M, a, q⟩
  refine ⟨env, h, M, a, (OutR.of a q).mono ?_⟩
  intro v h1 H1 M1 e1 r1 q1 y ry
  exact q1 H1 M1 σ .refl (a.go e1 r1)

/-! ### stores -/
/-- the end of a store of a value -/
theorem store_end {t : CT} {e : CE} {D : Ends} {σ : L2.St} {H : Hp} {env : SE} {h : SH} {M : Ms} (a : At X.K env h M σ H)
    (q : OutR X.K X.mg W (Out.of env (ev p e env h) fun x h => match store t x env with
      | some env2 => .nx env2 h
      | none => .bad) H M D) : SE' X p W e σ H fun x H1 => SG X.K t x σ H1 D.nx := by
  refine ⟨env, h, M, a, (OutR.of a q).mono ?_⟩
  intro v h1 H1 M1 e1 r1 q1 y ry
  cases es : store t v env with
  | none => rw [es] at q1; exact q1.elim
  | some env2 =>
    rw [es] at q1
    exact SG.mk (a.go e1 r1).rs ry es fun σ' rs' _ => q1 H1 M1 σ' .refl ⟨rs', r1⟩
theorem swap_none {x : Expr} {t : Option Expr} {l : Nat} (hc : compE x = false) : swapsWith x t l X.env = pure false := by
  cases x <;> first | rfl | cases hc
theorem s_setT {t : CT} {e : CE} {tg x : Expr} {pos : Pos} (hn : (∃ n p, tg = .Name n p) ∨ ∃ es k p, tg = .Tuple es k p) (hc : compE x = false) (hw : swappedStores [tg] x X.env = pure none) (hx : PE X x (SE' X p W e)) (hg : PG X tg (SG X.K t)) :
    PS X (.Assign [tg] x pos) (SS X p W (.set t e)) := by
  have h1 : (assignEach [tg] X.env).map (·.2) = [assign tg X.env] := (asg_plain (xs := []) hn).1
  have hs : swapsWithSole [tg] x pos.line X.env = pure false := swap_none hc
  refine (ps_asg hx hg hs hw h1).imp ?_
  rintro D σ H ⟨env, h, M, a, q⟩
  exact store_end a q
/-- one plain name: stored by gName -/
theorem gname_end {i : Nat} {e : CE} {D : Ends} {σ : L2.St} {H : Hp} {env : SE} {h : SH} {M : Ms} (a : At X.K env h M σ H)
    (q : OutR X.K X.mg W (Out.of env (ev p e env h) fun x h => match store (.name i) x env with
      | some env2 => .nx env2 h
      | none => .bad) H M D) : SE' X p W e σ H fun x H1 => gName i x σ H1 D.nx := by
  refine ⟨env, h, M, a, (OutR.of a q).mono ?_⟩
  intro v h1 H1 M1 e1 r1 q1 y ry
  exact q1 H1 M1 _ .refl ((a.go e1 r1).set ry)
theorem s_setIx {o i e : CE} {ox ix x : Expr} {sp pos : Pos} (hu : X.A.units + 1 < cLine) (hc : compE x = false) (hp : plainE ix = true) (ho : PE X ox (SE' X p W o)) (hi : PE X ix (SE' X p W i)) (hx : PE X x (SE' X p W e)) :
    PS X (.Assign [.Subscript ox ix sp] x pos) (SS X p W (.setIx o i e)) := by
  have ha : ∀ v, assign (.Subscript ox ix sp) X.env v = (do
      let ov ← holding [v] (eval ox X.env)
      let iv ← holding [v, ov] (eval ix X.env)
      standAt sp
      holding [v, ov, iv] (setItem ov iv v)
      release [v, ov, iv] []) := by
    intro v
    cases ix <;> first | rfl | cases hp
  have hs : swapsWithSole [.Subscript ox ix sp] x pos.line X.env = pure false := by
    show swapsWith x (some (.Subscript ox ix sp)) pos.line X.env = pure false
    exact swap_none hc
  refine (ps_asg hx (pg_sub ho hi (set_any hu) ha) hs rfl rfl).imp ?_
  rintro D σ H ⟨env, h, M, a, q⟩
  refine ⟨env, h, M, a, (OutR.of a q).mono ?_⟩
  intro v h1 H1 M1 e1 r1 q1 y ry
  have a1 := a.go e1 r1
  refine ⟨env, h1, M1, a1, (OutR.of a1 q1).mono ?_⟩
  intro vo h2 H2 M2 e2 r2 q2 yo ryo
  have a2 := a1.go e2 r2
  refine ⟨env, h2, M2, a2, (OutR.of a2 q2).mono ?_⟩
  intro vi h3 H3 M3 e3 r3 q3 yi ryi
  cases es : setIxH vo vi v h3 with
  | none => rw [es] at q3; exact q3.elim
  | some h4 =>
    rw [es] at q3
    exact ⟨vo, vi, v, h3, h4, M3, r3, ryo.mono e3, ryi, (ry.mono e2).mono e3, es, fun H' M' ev rh => q3 H' M' σ ev ⟨(a2.go e3 r3).rs.mono ev, rh⟩⟩

/-! ### l.append(x), l.extend(x) -/
theorem mt_extendS : MtM X "list.extend" (fun x vs H Q => ∃ l b xs zs M, x = .ref l ∧ vs = [.ref b] ∧ H l = some (.lst xs) ∧ Lp X.K H M b zs ∧ xs.length + zs.length ≤ sizeLine ∧ Q .non (upd H l (.lst (xs ++ zs)))) := by
  intro pins s σ H x vs v us Q I rx rv h
  obtain ⟨l, b, xs, zs, M, rfl, rfl, hl, hb, hz, q⟩ := h
  cases rx
  obtain ⟨u, rfl, ru⟩ := rv.one
  cases ru
  obtain ⟨its, n, r, _, e⟩ := Lp.obj (M := ⟨[], []⟩) I (.inl ⟨⟨List.not_mem_nil, List.not_mem_nil⟩, .inl hl⟩)
  obtain ⟨its2, n2, r2, _, e2⟩ := hb.obj I
  have h1 := r.length
  have h2 := r2.length
  have size : its.toArray.size + its2.toArray.size ≤ sizeLine := by
    rw [List.size_toArray, List.size_toArray]
    omega
  have short : ¬ (!its.toArray.isEmpty && Builtin.List.listTooLong (its.toArray.size + its2.toArray.size)) = true := by
    rw [notLongL size, Bool.and_false]
    decide
  have rule := AutoSeq1.list_extend_list_list_0 l its.toArray n b its2.toArray n2 short (by rw [List.size_toArray]; omega) (by omega)
  refine call_meets F.slot_list_extend ⟨_, e, rfl⟩ F.entry_list_extend (F.args_list_extend_2 _ _) rule ⟨e, e2, ?_⟩
  refine ⟨.non, _, I.lset (its' := its ++ its2) hl e (by simp) (r.append r2) ?_, rfl, q⟩
  rw [List.length_append]
  exact hz
theorem few_plain {y : Expr} {env : Env} {pos : Pos} (h : plainE y = true) : ((backTo pos (starEach [y] env)).all (fun x => !x.1) && (backToKw pos (keywordEach [] env)).all (fun x => x.1.isSome) &&
    decide (([y] : List Expr).length + ([] : List Keyword).length + (if ([] : List Keyword).isEmpty then 0 else 1) < 30)) = true := by
  rw [star_plain h]
  rfl
theorem isL_rep {K : PySem.W.Frag} {v : SV} {h : SH} {H : Hp} {M : Ms} {z : V} (r : RH K H M h) (rz : Rep K H M v z) (e : isL h v = true) : ∃ n l xs, v = .ref n ∧ z = .ref l ∧ M.c[n]? = some l ∧ H l = some (.lst xs) := by
  cases v with
  | ref n =>
    obtain ⟨l, rfl, hm⟩ := rz.ref_inv
    simp only [isL] at e
    split at e
    · rename_i ys hn
      obtain ⟨vs, g, _⟩ := r.lst hm hn
      exact ⟨n, l, vs, rfl, rfl, hm, g⟩
    · cases e
  | _ => cases e
theorem appH_eq {n : Nat} {ys : List SV} {h h2 : SH} (e : appH (.ref n) ys h = some h2) : ∃ xs, h[n]? = some (.lst xs) ∧ xs.length + ys.length ≤ seqLen ∧ h2 = h.set n (.lst (xs ++ ys)) := by
  simp only [appH] at e
  split at e
  · rename_i xs hn
    obtain ⟨c, rfl⟩ := ifs e
    exact ⟨xs, hn, of_decide_eq_true c, rfl⟩
  · cases e
theorem s_append {o e : CE} {x y : Expr} {apos cpos pos : Pos} (hx : attrB x = true) (hl : (apos.endLine == cpos.line) = true) (hp : plainE y = true) (ho : PE X x (SE' X p W o)) (he : PE X y (SE' X p W e)) :
    PS X (.Expr (.Call (.Attribute x "append" apos) [y] [] cpos) pos) (SS X p W (.append o e)) := by
  have hb : attributeBase x "append" X.env (eval x X.env) = eval x X.env := by cases x <;> first | rfl | cases hx
  refine (ps_expr (pe_bm PySem.F.plainAttrs_list PySem.F.slot_list_append PySem.F.type_list_append mt_append ho (pa_cons he pa_nil (star_plain hp)) hb (few_plain hp) hl (star_plain hp) rfl) rfl).imp ?_
  rintro D σ H ⟨env, h, M, a, q⟩
  refine ⟨env, h, M, a, (OutR.of a q).mono ?_⟩
  intro v h1 H1 M1 e1 r1 q1 z rz
  have a1 := a.go e1 r1
  split at q1
  · rename_i c
    obtain ⟨n, l, xs, rfl, rfl, hm, g⟩ := isL_rep r1 rz c
    refine ⟨.inl ⟨rfl, xs, .inl (.inl g)⟩, env, h1, M1, a1, (OutR.of a1 q1).mono ?_⟩
    intro w h2 H2 M2 e2 r2 q2 t rt
    cases es : appH (.ref n) [w] h2 with
    | none => rw [es] at q2; exact q2.elim
    | some h3 =>
      rw [es] at q2
      obtain ⟨ys, hn, hz, rfl⟩ := appH_eq es
      have hm2 := e2.get hm
      obtain ⟨vs, g2, ll⟩ := r2.lst hm2 hn
      have lw : RepL X.K H2 M2 [w] [t] := .cons rt .nil
      have ev := Evo.write (u := .lst (vs ++ [t])) r2 (List.mem_of_getElem? hm2)
      refine ⟨l, vs, t, rfl, rfl, g2, ?_, ?_⟩
      · rw [← ll.length, sizeLine_eq]
        have : seqLen = 16777216 := rfl
        simp only [List.length_cons, List.length_nil] at hz
        omega
      · exact q2 _ M2 σ ev ⟨((a1.go e2 r2).rs).mono ev, RH.write r2 hm2 (.lst (ll.append lw))⟩
  · exact q1.elim
theorem s_extend {o e : CE} {x y : Expr} {apos cpos pos : Pos} (hx : attrB x = true) (hl : (apos.endLine == cpos.line) = true) (hp : plainE y = true) (ho : PE X x (SE' X p W o)) (he : PE X y (SE' X p W e)) :
    PS X (.Expr (.Call (.Attribute x "extend" apos) [y] [] cpos) pos) (SS X p W (.extend o e)) := by
  have hb : attributeBase x "extend" X.env (eval x X.env) = eval x X.env := by cases x <;> first | rfl | cases hx
  refine (ps_expr (pe_bm PySem.F.plainAttrs_list PySem.F.slot_list_extend PySem.F.type_list_extend mt_extendS ho (pa_cons he pa_nil (star_plain hp)) hb (few_plain hp) hl (star_plain hp) rfl) rfl).imp ?_
  rintro D σ H ⟨env, h, M, a, q⟩
  refine ⟨env, h, M, a, (OutR.of a q).mono ?_⟩
  intro v h1 H1 M1 e1 r1 q1 z rz
  have a1 := a.go e1 r1
  split at q1
  · rename_i c
    obtain ⟨n, l, xs, rfl, rfl, hm, g⟩ := isL_rep r1 rz c
    refine ⟨.inl ⟨rfl, xs, .inl (.inl g)⟩, env, h1, M1, a1, (OutR.of a1 q1).mono ?_⟩
    intro w h2 H2 M2 e2 r2 q2 t rt
    cases w with
    | lst ws =>
      simp only [listItems] at q2
      cases es : appH (.ref n) ws h2 with
      | none => rw [es] at q2; exact q2.elim
      | some h3 =>
        rw [es] at q2
        obtain ⟨ys, hn, hz, rfl⟩ := appH_eq es
        have hm2 := e2.get hm
        obtain ⟨vs, g2, ll⟩ := r2.lst hm2 hn
        obtain ⟨b, us, rfl, lp, lw⟩ := rt.lst_inv
        have ev := Evo.write (u := .lst (vs ++ us)) r2 (List.mem_of_getElem? hm2)
        refine ⟨l, b, vs, us, M2, rfl, rfl, g2, lp, ?_, ?_⟩
        · rw [← ll.length, ← lw.length, sizeLine_eq]
          exact hz
        · exact q2 _ M2 σ ev ⟨((a1.go e2 r2).rs).mono ev, RH.write r2 hm2 (.lst (ll.append lw))⟩
    | _ => exact q2.elim
  · exact q1.elim
end
end Ws
end

section
set_option Elab.async false
set_option linter.all false
set_option maxRecDepth 100000
set_option autoImplicit false
/-! What the simple interpreter says of statements holds of the machine: loops, pairs, blocks. -/
namespace Ws
open PySem PySem.Spec PyProof.Rows L2
section
variable {X : Cx} {T : Tb} {S : Pt} {d : Nat} {N : List Str} {sc : Scope} {W : WX} {p : Pr}

/-! ### loops -/
theorem loopF_cons {kill : List Nat} {body : SV → SE → SH → Out} {x : SV} {xs : List SV} {env : SE} {h : SH} : loopF kill body (x :: xs) env h = match body x env h with
    | .nx e h1 => loopF kill body xs (wipeE e kill) h1
    | .ct e h1 => loopF kill body xs (wipeE e kill) h1
    | .bk e h1 => .nx (wipeE e kill) h1
    | .rt v h1 => .rt v h1
    | .err c v e h1 => .err c v e h1
    | .bad => .bad := by
  rw [loopF]
  try (cases body x env h <;> rfl)
/-- the state of a loop at turn i -/
def LoopAt (K : PySem.W.Frag) (mg : Str → Option Value) (W : WX) (kill : List Nat) (body : SV → SE → SH → Out) (xs : List SV) (H1 : Hp) (M1 : Ms) (D : Ends) (i : Nat) (σ : L2.St) (H : Hp) : Prop :=
  ∃ env h M, Evo H1 M1 H M ∧ At K env h M σ H ∧ OutR K mg W (loopF kill body (xs.drop i) env h) H M D
theorem s_loop {t : CT} {it : CI} {body : CSs} {kill : List Nat} {tg iter : Expr} {b : List Stmt} {pos : Pos} (po : PassesOwn (model X.prog X.w) X.A X.env X.xe) (hc : X.calm = true) (hp : plainE iter = true)
    (hi : PI X tg iter (SI X p W it)) (hg : PG X tg (SG X.K t)) (hb : PSs X b (SSs X p W body)) : PS X (.For tg iter b [] pos) (SS X p W (.loop t it body kill)) := by
  refine (ps_for po hc hi hg hb (fold_plain hp)).imp ?_
  rintro D σ H ⟨env, h, M, a, q⟩
  refine ⟨env, h, M, a, (OutR.of a q).mono ?_⟩
  intro xs h1 H1 M1 e1 r1 q1 J sn
  have a1 := a.go e1 r1
  generalize hbody : (fun (x : SV) (env : SE) (h : SH) => match store t x env with
    | some env2 => evSs p body env2 h
    | none => Out.bad) = bf at q1
  refine ⟨fun i m σ H => i ≤ xs.length ∧ m = xs.length - i ∧ LoopAt X.K X.mg W kill bf xs H1 M1 D i σ H, ⟨xs.length, Nat.zero_le _, by simp, env, h1, M1, .refl, a1, by rw [List.drop_zero]; exact q1⟩, ?_⟩
  rintro i m σ2 H2 ⟨hi, rfl, env2, h2, M2, ev2, a2, q2⟩
  by_cases hlt : i < xs.length
  · refine .inr ⟨sn.go i H2 M2 ev2.ext hlt, fun σ' H' => LoopAt X.K X.mg W kill bf xs H1 M1 D (i + 1) σ' H', fun σ' H' n => ⟨xs.length - (i + 1), by omega, by omega, rfl, n⟩, ?_⟩
    intro x H' y
    have hx : xs[i]? = some xs[i] := List.getElem?_eq_getElem hlt
    obtain ⟨ev3, rh3, rx⟩ := sn.yld i H2 M2 h2 x H' xs[i] ev2.ext a2.rh hx y
    rw [List.drop_eq_getElem_cons hlt, loopF_cons, ← hbody] at q2
    simp only at q2
    cases es : store t xs[i] env2 with
    | none => rw [es] at q2; exact q2.elim
    | some env3 =>
      rw [es] at q2
      simp only at q2
      rw [hbody] at q2
      refine SG.mk (a2.rs.mono ev3) rx es ?_
      intro σ3 rs3 _
      refine ⟨env3, h2, M2, ⟨rs3, rh3⟩, ?_⟩
      have q3 := OutR.from q2 ev3
      have ev13 := ev2.trans ev3
      cases eo : evSs p body env3 h2 with
      | nx e h3 =>
        rw [eo] at q3
        intro H4 M4 σ4 ev4 a4
        exact ⟨wipeE e kill, h3, M4, ev13.trans ev4, a4.wipe kill, OutR.from q3 ev4⟩
      | ct e h3 =>
        rw [eo] at q3
        intro H4 M4 σ4 ev4 a4
        exact ⟨wipeE e kill, h3, M4, ev13.trans ev4, a4.wipe kill, OutR.from q3 ev4⟩
      | bk e h3 =>
        rw [eo] at q3
        intro H4 M4 σ4 ev4 a4
        exact q3 H4 M4 σ4 ev4 (a4.wipe kill)
      | rt v h3 => rw [eo] at q3; exact q3
      | err c v e h3 => rw [eo] at q3; exact q3
      | bad => rw [eo] at q3; exact q3
  · have e : i = xs.length := by omega
    subst e
    rw [List.drop_length] at q2
    exact .inl ⟨sn.stop H2 M2 ev2.ext, q2 H2 M2 σ2 .refl a2⟩

/-! ### pairs and triples of plain names -/
theorem kind_block (hk : X.env.scope.kind = .function) : X.env.blockKind = .function := by
  unfold Env.blockKind
  rw [hk]
  rfl
theorem kindOf_eq (hs : X.env.scope = sc) {x : Str} {k : NameKind} (h : sc.names.lookup x = some k) : X.env.kindOf x = some k := by
  show X.env.scope.names.lookup x = _
  rw [hs]
  exact h
def starB : Expr → Bool
  | .Starred .. => true
  | _ => false
theorem noStar1 {u : Expr} (hu : plainE u = true) : ¬ starB u = true := by
  cases u <;> first | (intro q; cases q; done) | cases hu
theorem par_swap (hs : X.env.scope = sc) (hk : sc.kind = .function) {x y : Str} {px py : Pos} {u v : Expr} {kt pt k2 pt2} (hu : plainE u = true) (hv : plainE v = true) (h : parB sc x y px py u v = true) :
    swappedStores [.Tuple [.Name x px, .Name y py] kt pt] (.Tuple [u, v] k2 pt2) X.env = pure (some [x, y]) := by
  unfold parB at h
  simp only [Bool.and_eq_true, decide_eq_true_eq, Bool.not_eq_true', beq_eq_false_iff_ne, beq_iff_eq] at h
  obtain ⟨⟨⟨hx, hy⟩, hl, hne⟩, h1, h2⟩ := h
  have bk := kind_block (X := X) (by rw [hs]; exact hk)
  have kx := kindOf_eq hs hx
  have ky := kindOf_eq hs hy
  have nu := noStar1 hu
  have nv := noStar1 hv
  unfold swappedStores
  simp [bk, kx, ky, hl, h1, h2, hne, Pos.line, List.filterMap_cons, Expr.pos]
  rw [if_neg (by rintro (q | q); exact nu q; exact nv q)]
  have ed : [x, y].eraseDups = [x, y] := by
    have hne' : ¬ y = x := fun e => hne e.symm
    simp [List.eraseDups_cons, hne']
  simp [ed]
theorem par3_swap (hs : X.env.scope = sc) (hk : sc.kind = .function) {x y z : Str} {px py pz : Pos} {u v w : Expr} {kt pt k2 pt2} (hu : plainE u = true) (hv : plainE v = true) (hw : plainE w = true) (h : par3B sc x y z px py pz u v w = true) :
    swappedStores [.Tuple [.Name x px, .Name y py, .Name z pz] kt pt] (.Tuple [u, v, w] k2 pt2) X.env = pure (some [x, y, z]) := by
  unfold par3B at h
  simp only [Bool.and_eq_true, decide_eq_true_eq, Bool.not_eq_true', beq_eq_false_iff_ne, beq_iff_eq] at h
  obtain ⟨⟨⟨hx, hy, hz⟩, ⟨hl, hl2⟩, hne, hne2, hne3⟩, h1, h2⟩ := h
  have bk := kind_block (X := X) (by rw [hs]; exact hk)
  have kx := kindOf_eq hs hx
  have ky := kindOf_eq hs hy
  have kz := kindOf_eq hs hz
  have nu := noStar1 hu
  have nv := noStar1 hv
  have nw := noStar1 hw
  unfold swappedStores
  simp [bk, kx, ky, kz, hl, hl2, h1, h2, hne, hne2, hne3, Pos.line, List.filterMap_cons, Expr.pos]
  rw [if_neg (by rintro (q | q | q); exact nu q; exact nv q; exact nw q)]
  have ed : [x, y, z].eraseDups = [x, y, z] := by
    have a1 : ¬ y = x := fun e => hne e.symm
    have a2 : ¬ z = x := fun e => hne2 e.symm
    have a3 : ¬ z = y := fun e => hne3 e.symm
    simp [List.eraseDups_cons, a1, a2, a3]
  simp [ed]
/-- a tuple of constants: no swap -/
theorem noSwap_ok {tg x : Expr} {ts : List Expr} {k : Nat} {tp : Pos} (h : noSwap x = true) : swappedStores [.Tuple ts k tp] x X.env = pure none := by
  cases x with
  | Tuple vs k2 p2 =>
    have h' : vs.all (foldedForSure 8) = true := h
    unfold swappedStores
    simp [h']
  | _ => rfl
end
end Ws
end

section
set_option Elab.async false
set_option linter.all false
set_option maxRecDepth 100000
set_option autoImplicit false
/-! What the simple interpreter says of a def holds of the machine. -/
namespace Ws
open PySem PySem.Spec PyProof.Rows L2

/-- where statements may be run -/
structure Gs (X : Cx) (T : Tb) (S : Pt) (d : Nat) (N : List Str) (sc : Scope) (W : WX) : Prop where
  g : Gd X T S d N sc W
  kind : sc.kind = .function
  po : PassesOwn (model X.prog X.w) X.A X.env X.xe
  sto : Sto X sc none
section
variable {X : Cx} {T : Tb} {S : Pt} {d : Nat} {N : List Str} {sc : Scope} {W : WX} {p : Pr}
theorem swap_comp (hs : X.env.scope = sc) (hk : sc.kind = .function) {el : Expr} {gens : List Comprehension} {scope : Scope} {vp : Pos} {t : Str} {px : Pos} {l : Nat} :
    swapsWith (.ListComp el gens scope vp) (some (.Name t px)) l X.env = pure (swB sc (.ListComp el gens scope vp) t px) := by
  have bk := kind_block (X := X) (by rw [hs]; exact hk)
  have e : (X.env.kindOf t == some NameKind.local) = decide (sc.names.lookup t = some .local) := by
    show (X.env.scope.names.lookup t == some NameKind.local) = _
    rw [hs]
    cases sc.names.lookup t with
    | none => rfl
    | some k => cases k <;> rfl
  show (pure (X.env.blockKind == .function && X.env.kindOf t == some .local && px.line == vp.line && !(scope.names.any fun (n, k) => n == t && (k == .local || k == .cell))) : Sem Bool) = _
  rw [bk, e]
  rfl
theorem swB_local {el : Expr} {gens : List Comprehension} {scope : Scope} {vp : Pos} {t : Str} {px : Pos} (h : swB sc (.ListComp el gens scope vp) t px = true) : sc.names.lookup t = some .local := by
  unfold swB at h
  simp only [Bool.and_eq_true, decide_eq_true_eq] at h
  exact h.1.1
/-- name = value -/
theorem s_name (g : Gs X T S d N sc W) {i : Nat} {e : CE} {x : Str} {v : Expr} {px pos : Pos} (mt : mT N sc none (.name i) (.Name x px) = true) (hs : swapsWith v (some (.Name x px)) pos.line X.env = pure false) (hv : PE X v (SE' X p W e)) :
    PS X (.Assign [.Name x px] v pos) (SS X p W (.set (.name i) e)) := by
  simp only [mT, Bool.and_eq_true, decide_eq_true_eq] at mt
  obtain ⟨hl, hf⟩ := g.sto x mt.2
  refine (ps_set (by rw [g.g.hN]; exact g.g.nd) (by rw [g.g.hN]; exact mt.1) hl hv hs hf).imp ?_
  rintro D σ H ⟨env, h, M, a, q⟩
  exact gname_end a q
theorem s_par (g : Gs X T S d N sc W) {i j : Nat} {a b : CE} {x y : Str} {u v : Expr} {px py pt p2 pos : Pos} {k k2 : Nat} (hi : N[i]? = some x) (hj : N[j]? = some y) (hij : i ≠ j) (hw : parB sc x y px py u v = true) (pu : plainE u = true) (pv : plainE v = true)
    (ha : PE X u (SE' X p W a)) (hb : PE X v (SE' X p W b)) : PS X (.Assign [.Tuple [.Name x px, .Name y py] k pt] (.Tuple [u, v] k2 p2) pos) (SS X p W (.par i j a b)) := by
  have sw := par_swap (X := X) (kt := k) (pt := pt) (k2 := k2) (pt2 := p2) g.g.hsc g.kind pu pv hw
  unfold parB at hw
  simp only [Bool.and_eq_true, decide_eq_true_eq] at hw
  refine (ps_par g.g.calm (by rw [g.g.hN]; exact g.g.nd) (by rw [g.g.hN]; exact hi) (by rw [g.g.hN]; exact hj) hij (by rw [g.g.hsc]; exact hw.1.1.1) (by rw [g.g.hsc]; exact hw.1.1.2) (pa_cons ha (pa_cons hb pa_nil (star_plain pv)) (star_plain pu)) sw).imp ?_
  rintro D σ H ⟨env, h, M, at_, q⟩
  refine ⟨env, h, M, at_, (OutR.of at_ q).mono ?_⟩
  intro v1 h1 H1 M1 e1 r1 q1 y1 ry1
  have a1 := at_.go e1 r1
  refine ⟨env, h1, M1, a1, (OutR.of a1 q1).mono ?_⟩
  intro v2 h2 H2 M2 e2 r2 q2 y2 ry2
  exact ⟨y1, y2, rfl, q2 H2 M2 _ .refl (((a1.go e2 r2).set (ry1.mono e2)).set ry2)⟩
theorem s_par3 (g : Gs X T S d N sc W) {i j l : Nat} {a b c : CE} {x y z : Str} {u v w : Expr} {px py pz pt p2 pos : Pos} {k k2 : Nat} (hi : N[i]? = some x) (hj : N[j]? = some y) (hl : N[l]? = some z) (hij : i ≠ j) (hil : i ≠ l) (hjl : j ≠ l)
    (hw : par3B sc x y z px py pz u v w = true) (pu : plainE u = true) (pv : plainE v = true) (pw : plainE w = true) (ha : PE X u (SE' X p W a)) (hb : PE X v (SE' X p W b)) (hc : PE X w (SE' X p W c)) :
    PS X (.Assign [.Tuple [.Name x px, .Name y py, .Name z pz] k pt] (.Tuple [u, v, w] k2 p2) pos) (SS X p W (.par3 i j l a b c)) := by
  have sw := par3_swap (X := X) (kt := k) (pt := pt) (k2 := k2) (pt2 := p2) g.g.hsc g.kind pu pv pw hw
  unfold par3B at hw
  simp only [Bool.and_eq_true, decide_eq_true_eq] at hw
  have args := pa_cons ha (pa_cons hb (pa_cons hc pa_nil (star_plain pw)) (star_plain pv)) (star_plain pu)
  have lc := g.g.hsc
  refine (ps_par3 g.g.calm (by rw [g.g.hN]; exact g.g.nd) (by rw [g.g.hN]; exact hi) (by rw [g.g.hN]; exact hj) (by rw [g.g.hN]; exact hl) hij hil hjl (by rw [lc]; exact hw.1.1.1) (by rw [lc]; exact hw.1.1.2.1) (by rw [lc]; exact hw.1.1.2.2) args sw).imp ?_
  rintro D σ H ⟨env, h, M, at_, q⟩
  refine ⟨env, h, M, at_, (OutR.of at_ q).mono ?_⟩
  intro v1 h1 H1 M1 e1 r1 q1 y1 ry1
  have a1 := at_.go e1 r1
  refine ⟨env, h1, M1, a1, (OutR.of a1 q1).mono ?_⟩
  intro v2 h2 H2 M2 e2 r2 q2 y2 ry2
  have a2 := a1.go e2 r2
  refine ⟨env, h2, M2, a2, (OutR.of a2 q2).mono ?_⟩
  intro v3 h3 H3 M3 e3 r3 q3 y3 ry3
  exact ⟨y1, y2, y3, rfl, q3 H3 M3 _ .refl ((((a2.go e3 r3).set ((ry1.mono e2).mono e3)).set (ry2.mono e3)).set ry3)⟩
end

section
variable (T : Tb) (S : Pt) (d : Nat) (N : List Str)
/-- name = a comprehension -/
theorem s_comp {X : Cx} {sc : Scope} {W : WX} (g : Gs X T S d N sc W) {i : Nat} {x : Str} {v : Expr} {px pos : Pos} {e : CE} (mt : mT N sc none (.name i) (.Name x px) = true) (m : mE S N sc e v = true) :
    PS X (.Assign [.Name x px] v pos) (SS X (prOf T d) W (.set (.name i) e)) := by
  have pe := (sE T S d N e X sc W v g.g m).pe
  by_cases hc : compE v = true
  · cases v <;> first | (cases hc; done) | skip
    · -- a list comprehension
      rename_i el gens scope vp
      cases sw : swB sc (.ListComp el gens scope vp) x px with
      | false =>
        refine s_name g mt ?_ pe
        rw [swap_comp g.g.hsc g.kind, sw]
      | true =>
        have hl := swB_local sw
        have sw' : swapsWith (.ListComp el gens scope vp) (some (.Name x px)) pos.line X.env = pure true := by
          rw [swap_comp g.g.hsc g.kind, sw]
        have mt' := mt
        simp only [mT, Bool.and_eq_true, decide_eq_true_eq] at mt'
        have hN : X.N.Nodup := by rw [g.g.hN]; exact g.g.nd
        have hi' : X.N[i]? = some x := by rw [g.g.hN]; exact mt'.1
        have hyl : X.env.scope.names.lookup x = some .local := by rw [g.g.hsc]; exact hl
        cases e <;> first | (cases m; done) | skip
        · rename_i c elt t it own
          match gens, m, sw' with
          | [], m, _ => cases m
          | ⟨_, _, ifs, _⟩ :: _ :: _, m, _ => cases ifs <;> cases m
          | [⟨tg, iter, ifs, k⟩], m, sw' =>
            cases ifs <;> first | (cases m; done) | skip
            simp only [mE, Bool.and_eq_true, decide_eq_true_eq] at m
            obtain ⟨rfl, hsl, ⟨m1, m2, m3⟩, m4, m5⟩ := m
            have ok : BlkOk X.N X.env.scope scope (ownOf N own) := by
              rw [g.g.hN, g.g.hsc]
              exact blkOk_by m1
            have hi := sI T S d N it X sc W tg iter g.g m3 m4
            have ps := ps_setLc (elt := el) (te := SE' X (prOf T d) W0 elt) (tt := tYes) (g := SG X.K t) g.g.calm hN hi' hyl sw' hi ok (fun s H C cl fp => sG (g.g.blk s H scope C cl fp) (sto_blk g.g s H scope C cl fp) m2) (fun s H C cl fp => pts_nil)
              (fun s H C cl fp => (sE T S d N elt _ _ W0 el (g.g.blk s H scope C cl fp) m5).pe) (fold_plain m3)
            refine ps.imp ?_
            rintro D σ H ⟨env, h, M, a, q⟩
            have z := gname_end a q
            have z2 := comp_imp hsl z
            rw [own_back]
            exact z2
        · rename_i c elt t it cd own
          match gens, m, sw' with
          | [], m, _ => cases m
          | ⟨_, _, [], _⟩ :: _ :: _, m, _ => cases m
          | ⟨_, _, [_], _⟩ :: _ :: _, m, _ => cases m
          | ⟨_, _, _ :: _ :: _, _⟩ :: _ :: _, m, _ => cases m
          | [⟨tg, iter, ifs, k⟩], m, sw' =>
            match ifs, m, sw' with
            | [], m, _ => cases m
            | _ :: _ :: _, m, _ => cases m
            | [cx], m, sw' =>
              simp only [mE, Bool.and_eq_true, decide_eq_true_eq] at m
              obtain ⟨rfl, hsl, ⟨m1, m2, m3⟩, m4, m5, m6⟩ := m
              have ok : BlkOk X.N X.env.scope scope (ownOf N own) := by
                rw [g.g.hN, g.g.hsc]
                exact blkOk_by m1
              have hi := sI T S d N it X sc W tg iter g.g m3 m4
              have ps := ps_setLc (elt := el) (te := SE' X (prOf T d) W0 elt) (tt := ST X (prOf T d) W0 cd) (g := SG X.K t) g.g.calm hN hi' hyl sw' hi ok (fun s H C cl fp => sG (g.g.blk s H scope C cl fp) (sto_blk g.g s H scope C cl fp) m2)
                (fun s H C cl fp => pts_one (sE T S d N cd _ _ W0 cx (g.g.blk s H scope C cl fp) m6).pt) (fun s H C cl fp => (sE T S d N elt _ _ W0 el (g.g.blk s H scope C cl fp) m5).pe) (fold_plain m3)
              refine ps.imp ?_
              rintro D σ H ⟨env, h, M, a, q⟩
              have z := gname_end a q
              have z2 := compIf_imp hsl z
              rw [own_back]
              exact z2
    · cases e <;> cases m
    · cases e <;> cases m
  · refine s_name g mt (swap_none (by simpa using hc)) pe

mutual
theorem sS : ∀ (s : CS) (X : Cx) (sc : Scope) (W : WX) (st : Stmt), Gs X T S d N sc W → mS S N sc s st = true → PS X st (SS X (prOf T d) W s)
  | .set t e, X, sc, W, st, g, m => by
    cases st <;> first | (cases t <;> cases m; done) | skip
    rename_i tgs v pos
    match tgs, m with
    | [], m => cases t <;> cases m
    | tg :: _ :: _, m => cases t <;> cases tg <;> cases m
    | [tg], m =>
      cases tg <;> first | (cases t <;> cases m; done) | skip
      · cases t <;> first | (cases m; done) | skip
        simp only [mS, Bool.and_eq_true] at m
        exact s_comp T S d N g m.1 m.2
      · rename_i ts k tp
        cases t with
        | name i => 
          simp only [mS, Bool.and_eq_true, Bool.not_eq_true'] at m
          exact s_setT (.inr ⟨_, _, _, rfl⟩) m.1.1 (noSwap_ok (tg := .Tuple ts k tp) m.1.2) (sE T S d N e X sc W v g.g m.2.2).pe (sG g.g g.sto m.2.1)
        | pair a b =>
          simp only [mS, Bool.and_eq_true, Bool.not_eq_true'] at m
          exact s_setT (.inr ⟨_, _, _, rfl⟩) m.1.1 (noSwap_ok (tg := .Tuple ts k tp) m.1.2) (sE T S d N e X sc W v g.g m.2.2).pe (sG g.g g.sto m.2.1)
        | three a b c =>
          simp only [mS, Bool.and_eq_true, Bool.not_eq_true'] at m
          exact s_setT (.inr ⟨_, _, _, rfl⟩) m.1.1 (noSwap_ok (tg := .Tuple ts k tp) m.1.2) (sE T S d N e X sc W v g.g m.2.2).pe (sG g.g g.sto m.2.1)
  | .par i j a b, X, sc, W, st, g, m => by
    unfold mS at m
    split at m <;> rename_i he <;> first | (cases he; done) | (cases m; done) | skip
    cases he
    simp only [Bool.and_eq_true, decide_eq_true_eq, Bool.not_eq_true', beq_eq_false_iff_ne] at m
    obtain ⟨⟨⟨m1, m2⟩, m3, m4⟩, ⟨m5, m6⟩, m7, m8⟩ := m
    exact s_par g m1 m2 m3 m4 m5 m7 (sE T S d N a X sc W _ g.g m6).pe (sE T S d N b X sc W _ g.g m8).pe
  | .par3 i j l a b c, X, sc, W, st, g, m => by
    unfold mS at m
    split at m <;> rename_i he <;> first | (cases he; done) | (cases m; done) | skip
    cases he
    simp only [Bool.and_eq_true, decide_eq_true_eq, Bool.not_eq_true', beq_eq_false_iff_ne] at m
    obtain ⟨⟨⟨m1, m2, m3⟩, ⟨n1, n2, n3⟩, m4⟩, ⟨m5, m6⟩, ⟨m7, m8⟩, m9, m10⟩ := m
    exact s_par3 g m1 m2 m3 n1 n2 n3 m4 m5 m7 m9 (sE T S d N a X sc W _ g.g m6).pe (sE T S d N b X sc W _ g.g m8).pe (sE T S d N c X sc W _ g.g m10).pe
  | .setIx o i e, X, sc, W, st, g, m => by
    cases st <;> first | (cases m; done) | skip
    rename_i tgs v pos
    match tgs, m with
    | [], m => cases m
    | tg :: _ :: _, m => cases tg <;> cases m
    | [tg], m =>
      cases tg <;> first | (cases m; done) | skip
      simp only [mS, Bool.and_eq_true, Bool.not_eq_true'] at m
      obtain ⟨⟨m1, m2, m3⟩, m4, m5, m6⟩ := m
      have hu := g.g.hu
      exact s_setIx (by omega) m1 m2 (sE T S d N o X sc W _ g.g m4).pe (sE T S d N i X sc W _ g.g m5).pe (sE T S d N e X sc W _ g.g m6).pe
  | .nev, X, sc, W, st, g, m => s_nev
  | .expr e, X, sc, W, st, g, m => by
    cases st <;> first | (cases m; done) | skip
    simp only [mS, Bool.and_eq_true, Bool.not_eq_true'] at m
    exact s_expr m.1 (sE T S d N e X sc W _ g.g m.2).pe
  | .append o e, X, sc, W, st, g, m => by
    unfold mS at m
    split at m <;> rename_i he <;> first | (cases he; done) | (cases m; done) | skip
    cases he
    simp only [Bool.and_eq_true, decide_eq_true_eq] at m
    obtain ⟨⟨rfl, m2, m3, m4⟩, m5, m6⟩ := m
    exact s_append m4 m2 m3 (sE T S d N o X sc W _ g.g m5).pe (sE T S d N e X sc W _ g.g m6).pe
  | .extend o e, X, sc, W, st, g, m => by
    unfold mS at m
    split at m <;> rename_i he <;> first | (cases he; done) | (cases m; done) | skip
    cases he
    simp only [Bool.and_eq_true, decide_eq_true_eq] at m
    obtain ⟨⟨rfl, m2, m3, m4⟩, m5, m6⟩ := m
    exact s_extend m4 m2 m3 (sE T S d N o X sc W _ g.g m5).pe (sE T S d N e X sc W _ g.g m6).pe
  | .ret e, X, sc, W, st, g, m => by
    cases st <;> first | (cases m; done) | skip
    rename_i v pos
    cases v <;> first | (cases m; done) | skip
    simp only [mS] at m
    exact s_ret (sE T S d N e X sc W _ g.g m).pe
  | .retN, X, sc, W, st, g, m => by
    cases st <;> first | (cases m; done) | skip
    rename_i v pos
    cases v <;> first | (cases m; done) | skip
    exact s_retN
  | .cond t a b, X, sc, W, st, g, m => by
    cases st <;> first | (cases m; done) | skip
    simp only [mS, Bool.and_eq_true] at m
    exact s_cond (sE T S d N t X sc W _ g.g m.1).pt (sSs a X sc W _ g m.2.1) (sSs b X sc W _ g m.2.2)
  | .loop t it body kill, X, sc, W, st, g, m => by
    cases st <;> first | (cases m; done) | skip
    rename_i tg iter b orelse pos
    cases orelse <;> first | (cases m; done) | skip
    simp only [mS, Bool.and_eq_true] at m
    obtain ⟨⟨m1, m2⟩, m3, m4⟩ := m
    exact s_loop g.po g.g.calm m2 (sI T S d N it X sc W tg iter g.g m2 m3) (sG g.g g.sto m1) (sSs body X sc W _ g m4)
  | .brk, X, sc, W, st, g, m => by
    cases st <;> first | (cases m; done) | skip
    exact s_brk
  | .cnt, X, sc, W, st, g, m => by
    cases st <;> first | (cases m; done) | skip
    exact s_cnt
  | .pass, X, sc, W, st, g, m => by
    cases st <;> first | (cases m; done) | skip
    exact s_pass
  | .throw c e, X, sc, W, st, g, m => by
    unfold mS at m
    split at m <;> rename_i he <;> first | (cases he; done) | (cases m; done) | skip
    simp at m
theorem sSs : ∀ (s : CSs) (X : Cx) (sc : Scope) (W : WX) (sts : List Stmt), Gs X T S d N sc W → mSs S N sc s sts = true → PSs X sts (SSs X (prOf T d) W s)
  | .nil, X, sc, W, [], g, m => ss_nil
  | .nil, X, sc, W, _ :: _, g, m => by simp [mSs] at m
  | .cons s r, X, sc, W, [], g, m => by simp [mSs] at m
  | .cons s r, X, sc, W, st :: sts, g, m => by
    simp only [mSs, Bool.and_eq_true] at m
    exact ss_cons (sS s X sc W st g m.1) (sSs r X sc W sts g m.2)
  | .kill ks r, X, sc, W, sts, g, m => ss_kill (sSs r X sc W sts g (by simpa [mSs] using m))
end
end
end Ws
end

section
set_option Elab.async false
set_option linter.all false
set_option maxRecDepth 100000
set_option autoImplicit false
/-! What the simple interpreter says of the whole program holds of the machine. -/
namespace Ws
open PySem PySem.Spec PyProof.Rows L2

/-! ### a def's end: its cells are forgotten -/
section
variable {K : PySem.W.Frag} {H0 H H' : Hp} {M M' : Ms}
theorem dct_out {ks : List Int} {xs : List SV} (hl : ks.length = xs.length) {y : SV} {v0 : V} (r0 : Rep K H0 M y v0) (hy : y = .dct ((ks.map SV.int).zip xs)) : ∃ vs0, RepL K H0 M xs vs0 := by
  cases r0 with
  | @dW a0 ks0 xs0 vs0 k0 e0 l0 =>
    have hz : (ks0.map SV.int).zip xs0 = (ks.map SV.int).zip xs := SV.dct.inj hy
    have h1 : ((ks.map SV.int).zip xs).map Prod.snd = xs := List.map_snd_zip (by rw [List.length_map]; omega)
    have h2 : ((ks0.map SV.int).zip xs0).map Prod.snd = xs0 := List.map_snd_zip (by rw [List.length_map]; omega)
    have q : xs0 = xs := by rw [← h1, ← hz, h2]
    exact ⟨vs0, q ▸ l0⟩
  | _ => cases hy
theorem Tp.down {E : List Addr} (hc : M'.c = M.c ++ E) (hb : M'.b = M.b) {a : Addr} {vs : List V} (t : Tp K H' M' a vs) : Tp K H' M a vs :=
  t.elim (fun z => .inl ⟨⟨fun hm => z.1.1 (by rw [hc]; exact List.mem_append_left _ hm), by rw [← hb]; exact z.1.2⟩, z.2⟩) .inr
theorem Lp.down {E : List Addr} (hc : M'.c = M.c ++ E) (hb : M'.b = M.b) {a : Addr} {vs : List V} (t : Lp K H' M' a vs) : Lp K H' M a vs :=
  t.elim (fun z => .inl ⟨⟨fun hm => z.1.1 (by rw [hc]; exact List.mem_append_left _ hm), by rw [← hb]; exact z.1.2⟩, z.2⟩) .inr
mutual
/-- what could be told with fewer cells still can -/
theorem Rep.down {E : List Addr} (hc : M'.c = M.c ++ E) (hb : M'.b = M.b) : ∀ {x : SV} {v : V}, Rep K H' M' x v → ∀ {v0 : V}, Rep K H0 M x v0 → Rep K H' M x v
  | _, _, .non, _, _ => .non
  | _, _, .bl b, _, _ => .bl b
  | _, _, .int i, _, _ => .int i
  | _, _, .str x, _, _ => .str x
  | _, _, .tup t l, _, r0 => by
    obtain ⟨_, _, _, _, l0⟩ := r0.tup_inv
    exact .tup (t.down hc hb) (RepL.down hc hb l l0)
  | _, _, .lst t l, _, r0 => by
    obtain ⟨_, _, _, _, l0⟩ := r0.lst_inv
    exact .lst (t.down hc hb) (RepL.down hc hb l l0)
  | _, _, .dW k e l, _, r0 => by
    obtain ⟨vs0, l0⟩ := dct_out e r0 rfl
    exact .dW k e (RepL.down hc hb l l0)
  | _, _, .ref h, _, r0 => by
    obtain ⟨_, _, h0⟩ := r0.ref_inv
    rw [hc, List.getElem?_append_left (List.getElem?_eq_some_iff.mp h0).1] at h
    exact .ref h
theorem RepL.down {E : List Addr} (hc : M'.c = M.c ++ E) (hb : M'.b = M.b) : ∀ {x : List SV} {v : List V}, RepL K H' M' x v → ∀ {v0 : List V}, RepL K H0 M x v0 → RepL K H' M x v
  | _, _, .nil, _, _ => .nil
  | _, _, .cons h r, _, .cons h0 r0 => .cons (Rep.down hc hb h h0) (RepL.down hc hb r r0)
end
theorem RepK.down {E : List Addr} (hc : M'.c = M.c ++ E) (hb : M'.b = M.b) : ∀ {x : List (SV × SV)} {v : List (Key × V)}, RepK K H' M' x v → ∀ {v0 : List (Key × V)}, RepK K H0 M x v0 → RepK K H' M x v
  | _, _, .nil, _, _ => .nil
  | _, _, .cons k h r, _, .cons _ h0 r0 => .cons k (Rep.down hc hb h h0) (RepK.down hc hb r r0)
theorem RepT.down {E : List Addr} (hc : M'.c = M.c ++ E) (hb : M'.b = M.b) : ∀ {x : List (SV × SV)} {v : List (List Key × V)}, RepT K H' M' x v → ∀ {v0 : List (List Key × V)}, RepT K H0 M x v0 → RepT K H' M x v
  | _, _, .nil, _, _ => .nil
  | _, _, .cons k h r, _, .cons _ h0 r0 => .cons k (Rep.down hc hb h h0) (RepT.down hc hb r r0)
theorem RepO.down {E : List Addr} (hc : M'.c = M.c ++ E) (hb : M'.b = M.b) {o : SO} {u u0 : HO} (r : RepO K H' M' o u) (r0 : RepO K H0 M o u0) : RepO K H' M o u := by
  cases r with
  | lst l =>
    cases r0 with
    | lst l0 => exact .lst (l.down hc hb l0)
  | dK l =>
    cases r0 with
    | dK l0 => exact .dK (l.down hc hb l0)
  | dT l =>
    cases r0 with
    | dT l0 => exact .dT (l.down hc hb l0)
/-- what was there is as it was -/
theorem RH.down {h h1 : SH} (r : RH K H M h) (e : Evo H M H' M') (r1 : RH K H' M' h1) (hh : h1.take h.length = h) : RH K H' M h ∧ Evo H M H' M := by
  obtain ⟨E, hc, hE⟩ := e.pre
  refine ⟨⟨r.len, r.nd, fun n o ho => ?_, fun a ha => ⟨(r.bsy a ha).1, by rw [e.same a ha]; exact (r.bsy a ha).2⟩⟩, ⟨⟨[], by simp, fun _ q => nomatch q⟩, rfl, e.same, e.keep⟩⟩
  have hn : n < h.length := (List.getElem?_eq_some_iff.mp ho).1
  have ho1 : h1[n]? = some o := by
    rw [← hh, List.getElem?_take, if_pos hn] at ho
    exact ho
  obtain ⟨a, u, e1, e2, e3⟩ := r1.at_ n o ho1
  obtain ⟨a0, u0, f1, f2, f3⟩ := r.at_ n o ho
  have g := e.get f1
  have ea : a0 = a := Option.some.inj (g.symm.trans e1)
  subst ea
  exact ⟨a0, u, f1, e2, e3.down hc e.busy f3⟩
/-- what is new is read off -/
theorem freeze_rep {n : Nat} {h : SH} {E : List Addr} (hn : n = M.c.length) (hc : M'.c = M.c ++ E) (hb : M'.b = M.b) (r : RH K H' M' h) : ∀ (k : Nat) {v w : SV} {x : V}, freeze n h k v = some w → Rep K H' M' v x → Rep K H' M w x := by
  have list : ∀ {f : SV → Option SV}, (∀ {v w : SV} {x : V}, f v = some w → Rep K H' M' v x → Rep K H' M w x) → ∀ {xs ws : List SV} {vs : List V}, freezeL f xs = some ws → RepL K H' M' xs vs → RepL K H' M ws vs := by
    intro f hf xs
    induction xs with
    | nil =>
      intro ws vs e l
      cases l
      cases e
      exact .nil
    | cons y ys ih =>
      intro ws vs e l
      cases l with
      | cons a b =>
        simp only [freezeL] at e
        split at e
        · rename_i y' ys' e1 e2
          cases e
          exact .cons (hf e1 a) (ih e2 b)
        · cases e
  intro k
  induction k with
  | zero =>
    intro v w x e rx
    cases v <;> simp only [freeze, Option.some.injEq, reduceCtorEq] at e
    · subst e; cases rx; exact .non
    · subst e; cases rx; exact .bl _
    · subst e; cases rx; exact .int _
    · subst e; cases rx; exact .str _
  | succ k ih =>
    intro v w x e rx
    cases v with
    | non => simp only [freeze, Option.some.injEq] at e; subst e; cases rx; exact .non
    | bl b => simp only [freeze, Option.some.injEq] at e; subst e; cases rx; exact .bl _
    | int i => simp only [freeze, Option.some.injEq] at e; subst e; cases rx; exact .int _
    | str y => simp only [freeze, Option.some.injEq] at e; subst e; cases rx; exact .str _
    | tup xs =>
      simp only [freeze] at e
      obtain ⟨ws, e1, rfl⟩ := Option.map_eq_some_iff.mp e
      obtain ⟨a, vs, rfl, t, l⟩ := rx.tup_inv
      exact .tup (t.down hc hb) (list (fun e r => ih e r) e1 l)
    | lst xs =>
      simp only [freeze] at e
      obtain ⟨ws, e1, rfl⟩ := Option.map_eq_some_iff.mp e
      obtain ⟨a, vs, rfl, t, l⟩ := rx.lst_inv
      exact .lst (t.down hc hb) (list (fun e r => ih e r) e1 l)
    | dct kvs => simp only [freeze, reduceCtorEq] at e
    | ref m =>
      obtain ⟨a, rfl, hm⟩ := rx.ref_inv
      simp only [freeze] at e
      split at e
      · rename_i hle
        split at e
        · rename_i xs hx
          obtain ⟨ws, e1, rfl⟩ := Option.map_eq_some_iff.mp e
          obtain ⟨vs, hH, l⟩ := r.lst hm hx
          refine .lst (.inl ⟨⟨fun ha => ?_, fun ha => ?_⟩, .inl hH⟩) (list (fun e r => ih e r) e1 l)
          · obtain ⟨j, hj, hj2⟩ := List.mem_iff_getElem.mp ha
            have q1 : M'.c[j]? = some a := by
              rw [hc, List.getElem?_append_left hj, List.getElem?_eq_getElem hj, hj2]
            obtain ⟨p1, p2⟩ := List.getElem?_eq_some_iff.mp q1
            obtain ⟨p3, p4⟩ := List.getElem?_eq_some_iff.mp hm
            have := (List.getElem_inj r.nd).mp (p2.trans p4.symm)
            omega
          · rw [← hb] at ha
            exact (r.bsy a ha).1 (List.mem_of_getElem? hm)
        · cases e
      · cases e
theorem finish_ok {mg : Str → Option Value} {E : XK} {F : FT} {h h1 : SH} {v : SV} {x : V} {Q : VK} (s : SemR K mg (finish F h v h1) H M E fun v _ H' M' => ∀ x, Rep K H' M' v x → Q x H') (r : RH K H M h) (e : Evo H M H' M') (r1 : RH K H' M' h1) (rx : Rep K H' M' v x) : Q x H' := by
  unfold finish at s
  split at s
  · exact s H' M' e r1 x rx
  · split at s
    · exact s.elim
    · rename_i w hw
      split at s
      · rename_i hh
        obtain ⟨d1, d2⟩ := RH.down r e r1 hh
        obtain ⟨E, hc, _⟩ := e.pre
        exact s H' M d2 d1 x (freeze_rep r.len hc e.busy r1 12 hw rx)
      · split at s
        · exact s H' M' e r1 x rx
        · exact s.elim
end

/-! ### a def -/
theorem start_at {K : PySem.W.Frag} {H : Hp} {M : Ms} {F : FT} {xs : List SV} {vs : List V} (l : RepL K H M xs vs) : RS K H M (startE F xs) (L2.start F.N vs) := by
  refine ⟨?_, fun i v hv => ?_⟩
  · unfold startE L2.start
    rw [List.length_append, List.length_append, List.length_map, List.length_map, List.length_replicate, List.length_replicate, l.length]
  · unfold startE at hv
    by_cases hi : i < xs.length
    · rw [List.getElem?_append_left (by rw [List.length_map]; exact hi), List.getElem?_map] at hv
      obtain ⟨y, e1, e2⟩ := Option.map_eq_some_iff.mp hv
      cases e2
      obtain ⟨z, e3, r⟩ := l.get e1
      refine ⟨z, ?_, r⟩
      unfold L2.start
      rw [List.getElem?_append_left (by rw [List.length_map, ← l.length]; exact hi), List.getElem?_map, e3]
      rfl
    · rw [List.getElem?_append_right (by rw [List.length_map]; omega)] at hv
      rw [List.getElem?_replicate] at hv
      split at hv <;> cases hv

theorem fun_at {K : PySem.W.Frag} {x qual : Str} {params : Arguments} {body : List Stmt} {scope : Scope} {dvs : List V} {kws : List (Str × V)} {a : Addr} {fd : FuncData} (D : FunD K x qual params body scope dvs kws a fd) : ∃ oc od osl, K.lookup a = some ⟨oc, od, .func fd, osl⟩ := by
  obtain ⟨oc, od, dV, kV, doc, pm, an, cdv, ct, osl, _, lk, _⟩ := D.ex
  exact ⟨oc, od, osl, lk⟩
mutual
/-- values without cells do not ask for any -/
theorem Rep.dryM {K : PySem.W.Frag} {H : Hp} {M : Ms} : ∀ {x : SV} {v : V}, x.dry = true → Rep K H M x v → Rep K H ⟨[], M.c ++ M.b⟩ x v
  | .non, _, _, r => by cases r; exact .non
  | .bl _, _, _, r => by cases r; exact .bl _
  | .int _, _, _, r => by cases r; exact .int _
  | .str _, _, _, r => by cases r; exact .str _
  | .tup xs, _, h, r => by
    obtain ⟨a, vs, rfl, t, l⟩ := r.tup_inv
    refine .tup (t.elim (fun z => .inl ⟨⟨List.not_mem_nil, fun hm => ?_⟩, z.2⟩) .inr) (RepL.dryM (by simpa [SV.dry] using h) l)
    rcases List.mem_append.mp (show a ∈ M.c ++ M.b from hm) with q | q
    · exact z.1.1 q
    · exact z.1.2 q
  | .lst xs, _, h, r => by
    obtain ⟨a, vs, rfl, t, l⟩ := r.lst_inv
    refine .lst (t.elim (fun z => .inl ⟨⟨List.not_mem_nil, fun hm => ?_⟩, z.2⟩) .inr) (RepL.dryM (by simpa [SV.dry] using h) l)
    rcases List.mem_append.mp (show a ∈ M.c ++ M.b from hm) with q | q
    · exact z.1.1 q
    · exact z.1.2 q
  | .dct _, _, h, _ => by simp [SV.dry] at h
  | .ref _, _, h, _ => by simp [SV.dry] at h
theorem RepL.dryM {K : PySem.W.Frag} {H : Hp} {M : Ms} : ∀ {x : List SV} {v : List V}, dryL x = true → RepL K H M x v → RepL K H ⟨[], M.c ++ M.b⟩ x v
  | [], _, _, r => by cases r; exact .nil
  | x :: xs, _, h, r => by
    cases r with
    | cons a b =>
      simp only [dryL, Bool.and_eq_true] at h
      exact .cons (Rep.dryM h.1 a) (RepL.dryM h.2 b)
end
/-- what is known of a def ahead of any run -/
structure DefOk (K : PySem.W.Frag) (mg : Str → Option Value) (T : Tb) (S : Pt) (f : Nat) (F : FT) : Prop where
  ex : ∃ (qual : Str) (params : Arguments) (body : List Stmt) (scope : Scope) (dvs : List V) (kws : List (Str × V)) (a : Addr) (fd : FuncData) (ds : List Value),
    FunD K F.name qual params body scope dvs kws a fd ∧ FnScope F.N F.ps scope ∧ mSs S F.N scope F.body body = true ∧ mg F.name = some (.ref a) ∧ Vals dvs ds ∧ (∀ H M, RepL K H M F.dfl dvs) ∧
      ∀ sh ∈ S.shapes, sh.f = f → ∀ (s : Shared) (us ws : List Value), K.In s.heap → us.length = sh.n → ws.length = sh.ks.length → BindsTo s fd ⟨us, sh.ks.zip ws⟩ (F.ps.zip (permute sh.perm (us ++ (ws ++ ds))))
/-- what is known of the program -/
structure PrOk (K : PySem.W.Frag) (mg : Str → Option Value) (T : Tb) (S : Pt) : Prop where
  fs : S.funs = T.funs
  free : ∀ x, S.free.contains x = true → mg x = none
  globs : ∀ x v, S.globs.contains x = true → T.glob x = some v → ∃ u vx, mg x = some u ∧ RelV vx u ∧ ∀ H M, Rep K H M v vx
  defs : ∀ f F, T.funs[f]? = some F → DefOk K mg T S f F
section
variable {P : Program} {w : World} {K : PySem.W.Frag} {mg : Str → Option Value} {base : Heap} {T : Tb} {S : Pt}
theorem def_ok (O : PrOk K mg T S) (d : Nat) (ih : ∀ f F, T.funs[f]? = some F → FunOk P w K mg base T S d f F) (f : Nat) (F : FT) (hF : T.funs[f]? = some F) : FunOk P w K mg base T S (d + 1) f F := by
  obtain ⟨qual, params, body, scope, dvs, kws, a, fd, ds, D, sc, mb, hm, hv, hd, hs⟩ := (O.defs f F hF).ex
  refine ⟨a, fd, dvs, ds, hm, fun_at D, D.kp, FnG.of_body D sc (fun vs H Q E q => q.1) ?_, hv, hd, hs⟩
  rintro cdv A outer s H vs Q E room guards ⟨hl, xs0, h0, M0, lx0, rh0, sem0⟩
  -- what is run: the def itself, its cells behind those of the callers, or with none ahead
  obtain ⟨xs, h, M, lx, rh, sem'⟩ : ∃ xs h M, RepL K H M xs vs ∧ RH K H M h ∧ SemR K mg (runF (prOf T d) F xs h) H M E fun v _ H' M' => ∀ x, Rep K H' M' v x → Q x H' := by
    unfold callF at sem0
    rw [hF] at sem0
    simp only at sem0
    split at sem0
    · split at sem0
      · rename_i hdry
        refine ⟨xs0, [], ⟨[], M0.c ++ M0.b⟩, RepL.dryM hdry lx0, ⟨rfl, List.nodup_nil, fun n o e => by simp at e, fun a ha => ⟨List.not_mem_nil, ?_⟩⟩, ?_⟩
        · rcases List.mem_append.mp (show a ∈ M0.c ++ M0.b from ha) with z | z
          · exact rh0.in_ z
          · exact (rh0.bsy a z).2
        · have sem1 : SemR K mg (dryRun (runF (prOf T d) F xs0 []) h0) H M0 E fun v _ H' M' => ∀ x, Rep K H' M' v x → Q x H' := sem0
          cases e : runF (prOf T d) F xs0 [] with
          | bad => rw [e] at sem1; exact sem1.elim
          | err c v h1 => rw [e] at sem1; exact sem1.elim
          | ok w h1 =>
            rw [e] at sem1
            cases h1 with
            | cons o r => exact sem1.elim
            | nil =>
              intro H' M' ev r1 x rx
              have hc0 : M'.c = [] := List.eq_nil_of_length_eq_zero (by rw [← r1.len]; rfl)
              have ev0 : Evo H M0 H' M0 := by
                refine ⟨⟨[], by simp, fun _ q => nomatch q⟩, rfl, fun a ha => ev.same a (List.mem_append_right _ ha), fun a u n1 n2 hr => ev.keep a u List.not_mem_nil ?_ hr⟩
                intro hm
                rcases List.mem_append.mp (show a ∈ M0.c ++ M0.b from hm) with z | z
                · exact n1 z
                · exact n2 z
              have rh1 : RH K H' M0 h0 := rh0.map (fun _ _ => ev0.fz) rfl (fun a ha => ev.same a (List.mem_append_left _ ha)) fun a ha => ⟨(rh0.bsy a ha).1, by rw [ev0.same a ha]; exact (rh0.bsy a ha).2⟩
              refine sem1 H' M0 ev0 rh1 x (rx.map (fun a u z => ?_) (fun n a q => ?_))
              · have hb : M'.b = M0.c ++ M0.b := ev.busy
                exact ⟨⟨fun hm => z.1.2 (by rw [hb]; exact List.mem_append_left _ hm), fun hm => z.1.2 (by rw [hb]; exact List.mem_append_right _ hm)⟩, z.2⟩
              · rw [hc0] at q
                simp at q
      · exact sem0.elim
    · exact ⟨xs0, h0, M0, lx0, rh0, sem0⟩
  have g : Gs (cxOf (L2.CX P w) P w K mg base F.N qual scope a cdv A outer s H E) T S d F.N scope (fun cls d _ H => E cls d H) := by
    refine ⟨⟨rfl, rfl, sc.nd, rfl, room, guards, takes_of rfl rfl rfl rfl, O.fs, O.free, O.globs, ih⟩, sc.kind, passes_of rfl, ?_⟩
    intro x hx
    refine ⟨?_, .inl rfl⟩
    have hx' : locB scope x = true := hx
    unfold locB at hx'
    split at hx'
    · rename_i e
      exact .inl e
    · rename_i e
      exact .inr e
    · cases hx'
  refine ⟨_, sSs T S d F.N F.body _ scope _ body g mb, startE F xs, h, M, ⟨start_at lx, rh⟩, ?_⟩
  unfold runF at sem'
  split at sem'
  · cases e : evSs (prOf T d) F.body (startE F xs) h with
    | nx env1 h1 =>
      rw [e] at sem'
      intro H' M' σ ev at_
      exact finish_ok sem' rh ev at_.rh .non
    | rt v h1 =>
      rw [e] at sem'
      intro H' M' x ev r1 rx
      exact finish_ok sem' rh ev r1 rx
    | err c v env1 h1 =>
      rw [e] at sem'
      intro H' M' cls d x σ ev rs r1 hc hd rx
      exact sem' H' M' cls d x ev r1 hc hd rx
    | bk env1 h1 => rw [e] at sem'; exact sem'.elim
    | ct env1 h1 => rw [e] at sem'; exact sem'.elim
    | bad => rw [e] at sem'; exact sem'.elim
  · exact sem'.elim
theorem all_ok (O : PrOk K mg T S) : ∀ (d f : Nat) (F : FT), T.funs[f]? = some F → FunOk P w K mg base T S d f F
  | 0, f, F, hF => by
    obtain ⟨qual, params, body, scope, dvs, kws, a, fd, ds, D, sc, mb, hm, hv, hd, hs⟩ := (O.defs f F hF).ex
    refine ⟨a, fd, dvs, ds, hm, fun_at D, D.kp, ⟨fun vs H Q E q => q.1, ?_⟩, hv, hd, hs⟩
    rintro A outer s H args us vs Q E room guards e0 b r ⟨_, xs, h, M, _, _, sem⟩
    exact sem.elim
  | d + 1, f, F, hF => def_ok O d (all_ok O d) f F hF
/-- what a law's proof asks -/
theorem ask_ok {d f : Nat} {ns : List Int} {hend : SH} (run : callF T d f [.lst (ns.map SV.int)] [] = .ok (.bl true) hend) (H : Hp) (a : Addr) (hl : Lp K H ⟨[], []⟩ a (ns.map V.int)) :
    spOf K mg T d f 1 [.ref a] H (fun v _ => v = .bl true) (fun _ _ _ => False) := by
  have all : ∀ ms : List Int, RepL K H ⟨[], []⟩ (ms.map SV.int) (ms.map V.int) := by
    intro ms
    induction ms with
    | nil => exact .nil
    | cons m ms ih => exact .cons (.int m) ih
  refine ⟨rfl, [.lst (ns.map SV.int)], [], ⟨[], []⟩, .cons (.lst hl (all ns)) .nil, ⟨rfl, List.nodup_nil, fun n o e => by simp at e, fun a ha => nomatch ha⟩, ?_⟩
  rw [run]
  intro H' M' _ _ x rx
  cases rx
  rfl
/-- the law's def, as the head's end asks for it -/
theorem law_fn (O : PrOk K mg T S) {d f : Nat} {F : FT} {x qual : Str} {params : Arguments} {body : List Stmt} {scope : Scope} {dvs : List V} {kws : List (Str × V)} {a : Addr} {fd : FuncData} (hF : T.funs[f]? = some F)
    (D : FunD K x qual params body scope dvs kws a fd) (hm : mg F.name = some (.ref a)) : FnG P w K mg base d a fd F.ps (spOf K mg T d f F.ps.length) := by
  obtain ⟨a2, fd2, dvs2, ds, hm2, ⟨oc2, od2, osl2, l2⟩, _, FG, _⟩ := (all_ok (P := P) (w := w) (base := base) O d f F hF).ex
  rw [hm] at hm2
  obtain rfl : a = a2 := Value.ref.inj (Option.some.inj hm2)
  obtain ⟨oc, od, osl, l⟩ := fun_at D
  rw [l] at l2
  obtain ⟨_, _, h, _⟩ := Obj.mk.inj (Option.some.inj l2)
  obtain rfl : fd = fd2 := Data.func.inj h
  exact FG
end
end Ws
end

section
set_option Elab.async false
set_option linter.all false
set_option maxRecDepth 100000
set_option autoImplicit false
/-! From a head's facts to what the soundness asks of the program. -/
namespace Ws
open PySem PySem.Spec PyProof.Rows L2

/-! ### the module's constants -/
def tyIs (c : Value) (T : String) : Bool := match c with
  | .type t => decide (t = T)
  | _ => false
theorem tyIs_eq {c : Value} {T : String} (h : tyIs c T = true) : c = .type T := by
  cases c with
  | type t => exact congrArg Value.type (of_decide_eq_true h)
  | _ => cases h
mutual
/-- does u stand for x in the written part? -/
def svB (K : PySem.W.Frag) : Nat → SV → Value → Bool
  | _, .non, .none => true
  | _, .bl b, .bool c => b == c
  | _, .int i, .int j _ => decide (i = j)
  | _, .str x, .str y _ => decide (x = y)
  | n + 1, .tup xs, .ref a => match K.lookup a with
    | some ⟨cl, _, .seq its _, _⟩ => (tyIs cl "tuple" && decide (its.size ≤ 16777216)) && svL K n xs its.toList
    | _ => false
  | n + 1, .lst xs, .ref a => match K.lookup a with
    | some ⟨cl, none, .seq its _, sl⟩ => ((tyIs cl "list" && sl.isEmpty) && decide (its.size ≤ 16777216)) && svL K n xs its.toList
    | _ => false
  | n + 1, .dct kvs, .ref a => match K.lookup a with
    | some ⟨cl, none, .dict es _, sl⟩ => (tyIs cl "dict" && sl.isEmpty) && svK K n kvs es.toList
    | _ => false
  | _, _, _ => false
def svL (K : PySem.W.Frag) : Nat → List SV → List Value → Bool
  | _, [], [] => true
  | n, x :: xs, u :: us => svB K n x u && svL K n xs us
  | _, _, _ => false
def svK (K : PySem.W.Frag) : Nat → List (SV × SV) → List DictEntry → Bool
  | _, [], [] => true
  | n, (.int k, x) :: r, e :: es => ((match e.key with
    | .int j _ => decide (j = k)
    | _ => false) && decide (e.hash = hashInt k)) && (svB K n x e.val && svK K n r es)
  | _, _, _ => false
end
mutual
theorem svB_ok (K : PySem.W.Frag) : ∀ (n : Nat) (x : SV) (u : Value), svB K n x u = true → ∃ v, RelV v u ∧ ∀ H M, Rep K H M x v
  | _, .non, u, h => by
    cases u <;> first | exact ⟨.non, rfl, fun _ _ => .non⟩ | (simp [svB] at h; done)
  | _, .bl b, u, h => by
    cases u <;> first | (simp [svB] at h; done) | skip
    simp only [svB, beq_iff_eq] at h
    subst h
    exact ⟨.bl b, rfl, fun _ _ => .bl b⟩
  | _, .int i, u, h => by
    cases u <;> first | (simp [svB] at h; done) | skip
    simp only [svB, decide_eq_true_eq] at h
    subst h
    exact ⟨.int i, ⟨_, rfl⟩, fun _ _ => .int i⟩
  | _, .str i, u, h => by
    cases u <;> first | (simp [svB] at h; done) | skip
    simp only [svB, decide_eq_true_eq] at h
    subst h
    exact ⟨.str i, ⟨_, rfl⟩, fun _ _ => .str i⟩
  | 0, .tup xs, u, h => by cases u <;> simp [svB] at h
  | 0, .lst xs, u, h => by cases u <;> simp [svB] at h
  | 0, .dct xs, u, h => by cases u <;> simp [svB] at h
  | _, .ref n, u, h => by cases u <;> simp [svB] at h
  | n + 1, .tup xs, u, h => by
    cases u <;> first | (simp [svB] at h; done) | skip
    rename_i a
    simp only [svB] at h
    split at h
    · rename_i cl dd its k sl hk
      simp only [Bool.and_eq_true, decide_eq_true_eq] at h
      obtain ⟨vs, r, rep⟩ := svL_ok K n xs its.toList h.2
      refine ⟨.ref a, rfl, fun H M => .tup (.inr ⟨_, its, k, hk, tyIs_eq h.1.1, rfl, ?_, r⟩) (rep H M)⟩
      rw [sizeLine_eq]
      exact h.1.2
    · cases h
  | n + 1, .lst xs, u, h => by
    cases u <;> first | (simp [svB] at h; done) | skip
    rename_i a
    simp only [svB] at h
    split at h
    · rename_i cl its k sl hk
      simp only [Bool.and_eq_true, decide_eq_true_eq] at h
      obtain ⟨vs, r, rep⟩ := svL_ok K n xs its.toList h.2
      have e1 := tyIs_eq h.1.1.1
      have e2 : sl = #[] := Array.isEmpty_iff.mp h.1.1.2
      subst e1 e2
      refine ⟨.ref a, rfl, fun H M => .lst (.inr ⟨its, k, hk, ?_, r⟩) (rep H M)⟩
      rw [sizeLine_eq]
      exact h.1.2
    · cases h
  | n + 1, .dct kvs, u, h => by
    cases u <;> first | (simp [svB] at h; done) | skip
    rename_i a
    simp only [svB] at h
    split at h
    · rename_i cl es k sl hk
      simp only [Bool.and_eq_true] at h
      obtain ⟨ks, xs, vs, e, hl, hp, rep⟩ := svK_ok K n kvs es.toList h.2
      have e1 := tyIs_eq h.1.1
      have e2 : sl = #[] := Array.isEmpty_iff.mp h.1.2
      subst e1 e2
      subst e
      exact ⟨.ref a, rfl, fun H M => .dW ⟨es, k, hk, hp⟩ hl (rep H M)⟩
    · cases h
theorem svL_ok (K : PySem.W.Frag) : ∀ (n : Nat) (xs : List SV) (us : List Value), svL K n xs us = true → ∃ vs, Vals vs us ∧ ∀ H M, RepL K H M xs vs
  | _, [], [], _ => ⟨[], .nil, fun _ _ => .nil⟩
  | _, [], _ :: _, h => by simp [svL] at h
  | _, _ :: _, [], h => by simp [svL] at h
  | n, x :: xs, u :: us, h => by
    simp only [svL, Bool.and_eq_true] at h
    obtain ⟨v, r, q⟩ := svB_ok K n x u h.1
    obtain ⟨vs, rs, qs⟩ := svL_ok K n xs us h.2
    exact ⟨v :: vs, .cons r rs, fun H M => .cons (q H M) (qs H M)⟩
theorem svK_ok (K : PySem.W.Frag) : ∀ (n : Nat) (kvs : List (SV × SV)) (es : List DictEntry), svK K n kvs es = true →
    ∃ (ks : List Int) (xs : List SV) (vs : List V), kvs = (ks.map SV.int).zip xs ∧ ks.length = xs.length ∧
      Paired (fun (p : Int × V) (e : DictEntry) => (∃ t, e.key = .int p.1 t) ∧ e.hash = hashInt p.1 ∧ L2.RelV p.2 e.val) (ks.zip vs) es ∧ ∀ H M, RepL K H M xs vs
  | _, [], [], _ => ⟨[], [], [], rfl, rfl, .nil, fun _ _ => .nil⟩
  | _, [], _ :: _, h => by simp [svK] at h
  | _, (k, x) :: _, [], h => by cases k <;> simp [svK] at h
  | n, (k, x) :: r, e :: es, h => by
    cases k <;> first | (simp [svK] at h; done) | skip
    rename_i k
    simp only [svK, Bool.and_eq_true, decide_eq_true_eq] at h
    obtain ⟨⟨h1, h2⟩, h3, h4⟩ := h
    obtain ⟨v, rv, q⟩ := svB_ok K n x e.val h3
    obtain ⟨ks, xs, vs, e1, e2, p, qs⟩ := svK_ok K n r es h4
    refine ⟨k :: ks, x :: xs, v :: vs, by rw [e1]; rfl, congrArg Nat.succ e2, .cons ⟨?_, h2, rv⟩ p, fun H M => .cons (q H M) (qs H M)⟩
    split at h1
    · rename_i j t hj
      have := of_decide_eq_true h1
      subst this
      exact ⟨t, hj⟩
    · cases h1
end
/-- a constant of the module -/
def gsB (K : PySem.W.Frag) (x : Str) (v : SV) : Bool := match PySem.W.nsIn K mainGlobals x with
  | some (some u) => svB K 12 v u
  | _ => false
theorem gs_ok {K : PySem.W.Frag} {h : Heap} {mg : Str → Option Value} {x : Str} {v : SV} (X : K.In h) (G : h.Ns mainGlobals mg) (c : gsB K x v = true) : ∃ u vx, mg x = some u ∧ RelV vx u ∧ ∀ H M, Rep K H M v vx := by
  unfold gsB at c
  split at c
  · rename_i u e
    obtain ⟨vx, r, q⟩ := svB_ok K 12 v u c
    exact ⟨u, vx, PySem.W.mg_of X G e, r, q⟩
  · cases c

/-! ### binding -/
section
variable {K : PySem.W.Frag} {x qual : Str} {params : Arguments} {body : List Stmt} {scope : Scope} {dvs : List V} {kws : List (Str × V)} {f : Addr} {fd : FuncData} {ps : List Str}
/-- no defaults stand -/
theorem shapes0 (F : FunD K x qual params body scope [] kws f fd) (shs : List Sh)
    (h : ∀ sh ∈ shs, ∀ (kV doc pm : Value) (an : Option Addr) (cdv ct : Value) (us ws : List Value), us.length = sh.n → ws.length = sh.ks.length →
      bindArgs (PySem.W.fnOf x qual params body scope .none kV doc pm an cdv ct) ⟨us, sh.ks.zip ws⟩ = pure (ps.zip (permute sh.perm (us ++ (ws ++ []))))) :
    ∃ ds, Vals ([] : List V) ds ∧ ∀ sh ∈ shs, ∀ (s : Shared) (us ws : List Value), K.In s.heap → us.length = sh.n → ws.length = sh.ks.length → BindsTo s fd ⟨us, sh.ks.zip ws⟩ (ps.zip (permute sh.perm (us ++ (ws ++ ds)))) := by
  obtain ⟨oc, od, dV, kV, doc, pm, an, cdv, ct, osl, rfl, lk, hcd, hD, hK⟩ := F.ex
  rcases hD with ⟨_, rfl⟩ | ⟨e, _⟩
  · exact ⟨[], .nil, fun sh hs s us ws _ l1 l2 => .of_eq (h sh hs kV doc pm an cdv ct us ws l1 l2)⟩
  · exact absurd rfl e
/-- defaults stand behind -/
theorem shapesD (F : FunD K x qual params body scope dvs kws f fd) (hd : dvs ≠ []) (shs : List Sh)
    (h : ∀ sh ∈ shs, ∀ (T : Addr) (kV doc pm : Value) (an : Option Addr) (cdv ct : Value) (us ws its : List Value), us.length = sh.n → ws.length = sh.ks.length → its.length = dvs.length →
      ∃ k, bindArgs (PySem.W.fnOf x qual params body scope (.ref T) kV doc pm an cdv ct) ⟨us, sh.ks.zip ws⟩ = seqItems? (.ref T) >>= k ∧ k (some its.toArray) = pure (ps.zip (permute sh.perm (us ++ (ws ++ its))))) :
    ∃ ds, Vals dvs ds ∧ ∀ sh ∈ shs, ∀ (s : Shared) (us ws : List Value), K.In s.heap → us.length = sh.n → ws.length = sh.ks.length → BindsTo s fd ⟨us, sh.ks.zip ws⟩ (ps.zip (permute sh.perm (us ++ (ws ++ ds)))) := by
  obtain ⟨oc, od, dV, kV, doc, pm, an, cdv, ct, osl, rfl, lk, hcd, hD, hK⟩ := F.ex
  rcases hD with ⟨e, _⟩ | ⟨_, T, o, its, m, rfl, lT, oT, rT⟩
  · exact absurd e hd
  · refine ⟨its, rT, fun sh hs s us ws X l1 l2 => ?_⟩
    obtain ⟨k, e1, e2⟩ := h sh hs T kV doc pm an cdv ct us ws its l1 l2 rT.length.symm
    refine BindsTo.of_looks fun M => ?_
    rw [e1]
    exact looks_items X lT oT (.of_pure e2)
end

/-! ### def by def -/
section
variable {K : PySem.W.Frag} {mg : Str → Option Value} {T : Tb} {S : Pt}
inductive AllD (K : PySem.W.Frag) (mg : Str → Option Value) (T : Tb) (S : Pt) : Nat → List FT → Prop
  | nil {i : Nat} : AllD K mg T S i []
  | cons {i : Nat} {F : FT} {r : List FT} : DefOk K mg T S i F → AllD K mg T S (i + 1) r → AllD K mg T S i (F :: r)
theorem AllD.get : ∀ {i : Nat} {l : List FT}, AllD K mg T S i l → ∀ (j : Nat) (F : FT), l[j]? = some F → DefOk K mg T S (i + j) F
  | _, _, .nil, j, F, h => by simp at h
  | _, _, .cons d r, 0, F, h => by
    cases h
    exact d
  | i, _, .cons d r, j + 1, F, h => by
    have := AllD.get r j F h
    rwa [show i + 1 + j = i + (j + 1) by omega] at this
/-- a def, from the head's word for it -/
theorem defOk_of {f : Nat} {F : FT} {d : He.DefD} {h : Heap} (X : K.In h) (G : h.Ns mainGlobals mg) (hn : d.name = F.name) (hat : d.at_ = (F.name, none)) (hglo : (He.Fa.glo F.name).ok K = true)
    (hd : ∃ fd, FunD K d.name d.qual d.params d.body d.scope (d.dvs K) (d.kws K) (He.fAd K d.at_) fd) (sc : FnScope F.N F.ps d.scope) (mb : mSs S F.N d.scope F.body d.body = true) (hdfl : ∀ H M, RepL K H M F.dfl (d.dvs K))
    (shs : List Sh) (hshs : S.shapes.filter (fun sh => decide (sh.f = f)) = shs)
    (hb : ∀ (a : Addr) (fd : FuncData), FunD K d.name d.qual d.params d.body d.scope (d.dvs K) (d.kws K) a fd → ∃ ds, Vals (d.dvs K) ds ∧ ∀ sh ∈ shs, ∀ (s : Shared) (us ws : List Value), K.In s.heap → us.length = sh.n → ws.length = sh.ks.length → BindsTo s fd ⟨us, sh.ks.zip ws⟩ (F.ps.zip (permute sh.perm (us ++ (ws ++ ds))))) :
    DefOk K mg T S f F := by
  obtain ⟨fd, D⟩ := hd
  obtain ⟨ds, hv, hs⟩ := hb _ fd D
  have hmg := He.glo_ok X G hglo
  rw [hat] at D
  rw [hn] at D
  refine ⟨d.qual, d.params, d.body, d.scope, d.dvs K, d.kws K, He.fAd K (F.name, none), fd, ds, D, sc, mb, hmg, hv, hdfl, ?_⟩
  intro sh hm hf
  have : sh ∈ shs := by
    rw [← hshs]
    exact List.mem_filter.mpr ⟨hm, decide_eq_true hf⟩
  exact hs sh this
end
end Ws
end

section
set_option Elab.async false
set_option linter.all false
set_option maxRecDepth 100000
set_option maxHeartbeats 0
namespace K00
open PySem PySem.Spec PyProof.Rows L2 Ws
/-! the core texts of law_k00_whole_products_inverses_powers: printed by gen_core.py -/
def b0 : CSs :=
  (.cons (.ret (.and (.bi .isInt (.cons (.var 0) .nil)) (.not (.bi .isBool (.cons (.var 0) .nil)))))
  .nil)
/-- is_integer -/
def f0 : FT := ⟨"is_integer", ["value"], ["value"], [], b0, false, true⟩
def b1 : CSs :=
  (.cons (.ret (.and (.call 0 [0] (.cons (.var 0) .nil) .nil) (.cmp .ge (.var 0) (.var 1))))
  .nil)
/-- is_natural -/
def f1 : FT := ⟨"is_natural", ["value", "least"], ["value", "least"], [(.int (0))], b1, false, true⟩
def b2 : CSs :=
  (.cons (.cond (.or (.not (.bi .isTuple (.cons (.var 0) .nil))) (.cmp .ne (.bi .len (.cons (.var 0) .nil)) (.var 1))) (.cons (.ret (.bl false))
  .nil) .nil)
  (.cons (.ret (.bi .all (.cons (.comp false (.call 0 [0] (.cons (.var 2) .nil) .nil) (.name 2) (.it (.var 0)) [2]) .nil)))
  .nil))
/-- are_integers -/
def f2 : FT := ⟨"are_integers", ["value", "size", "part"], ["value", "size"], [], b2, false, true⟩
def b3 : CSs :=
  (.cons (.ret (.and (.bi .isTuple (.cons (.var 0) .nil)) (.chain .le .le (.var 1) (.bi .len (.cons (.var 0) .nil)) (.var 2))))
  .nil)
/-- are_parts -/
def f3 : FT := ⟨"are_parts", ["value", "least", "most"], ["value", "least", "most"], [], b3, false, true⟩
def b4 : CSs :=
  (.cons (.cond (.not (.call 0 [0] (.cons (.var 0) .nil) .nil)) (.cons .nev
  .nil) .nil)
  .nil)
/-- check_integer -/
def f4 : FT := ⟨"check_integer", ["value"], ["value"], [], b4, false, true⟩
def b5l0 : CSs :=
  (.cons (.set (.name 3) (.bin .mul (.var 3) (.bin .sub (.var 0) (.var 2))))
  (.cons (.set (.name 4) (.bin .mul (.var 4) (.bin .add (.var 2) (.int (1)))))
  .nil))
def b5 : CSs :=
  (.cons (.set (.pair (.name 3) (.name 4)) (.tup (.cons (.int (1)) (.cons (.int (1)) .nil))))
  (.cons (.loop (.name 2) (.range1 (.var 1)) b5l0 [2])
  (.cons (.ret (.bin .fdiv (.var 3) (.var 4)))
  .nil)))
/-- binomial_in -/
def f5 : FT := ⟨"binomial_in", ["number", "many", "step", "top", "bottom"], ["number", "many"], [], b5, false, true⟩
def b6 : CSs :=
  (.cons (.cond (.not (.call 3 [0, 1, 2] (.cons (.var 0) (.cons (.int (1)) (.cons (.int (3)) .nil))) .nil)) (.cons (.ret (.bl false))
  .nil) .nil)
  (.cons (.cond (.not (.bi .all (.cons (.comp false (.and (.call 1 [0, 1] (.cons (.var 1) (.cons (.int (2)) .nil)) .nil) (.cmp .le (.var 1) (.int (5)))) (.name 1) (.it (.var 0)) [1]) .nil))) (.cons (.ret (.bl false))
  .nil) .nil)
  (.cons (.ret (.cmp .le (.bi .sum (.cons (.comp false (.bi .len (.cons (.ix (.glob "SUMMANDS") (.var 1)) .nil)) (.name 1) (.it (.var 0)) [1]) .nil)) (.int (12))))
  .nil)))
/-- is_space -/
def f6 : FT := ⟨"is_space", ["value", "size"], ["value"], [], b6, false, true⟩
def b7 : CSs :=
  (.cons (.cond (.not (.call 6 [0] (.cons (.var 0) .nil) .nil)) (.cons .nev
  .nil) .nil)
  .nil)
/-- check_space -/
def f7 : FT := ⟨"check_space", ["space"], ["space"], [], b7, false, true⟩
def b8 : CSs :=
  (.cons (.ret (.bi .sum (.cons (.comp false (.bi .len (.cons (.ix (.glob "SUMMANDS") (.var 1)) .nil)) (.name 1) (.it (.var 0)) [1]) .nil)))
  .nil)
/-- width_in -/
def f8 : FT := ⟨"width_in", ["space", "size"], ["space"], [], b8, false, true⟩
def b9 : CSs :=
  (.cons (.ret (.call 2 [0, 1] (.cons (.var 1) (.cons (.call 8 [0] (.cons (.var 0) .nil) .nil) .nil)) .nil))
  .nil)
/-- is_element_in -/
def f9 : FT := ⟨"is_element_in", ["space", "value"], ["space", "value"], [], b9, false, true⟩
def b10 : CSs :=
  (.cons (.cond (.not (.call 9 [0, 1] (.cons (.var 0) (.cons (.var 1) .nil)) .nil)) (.cons .nev
  .nil) .nil)
  .nil)
/-- check_element -/
def f10 : FT := ⟨"check_element", ["space", "value"], ["space", "value"], [], b10, false, true⟩
def b11 : CSs :=
  (.cons (.ret (.bin .mul (.tup (.cons (.int (0)) .nil)) (.call 8 [0] (.cons (.var 0) .nil) .nil)))
  .nil)
/-- identity_in -/
def f11 : FT := ⟨"identity_in", ["space"], ["space"], [], b11, false, true⟩
def b12 : CSs :=
  (.cons (.expr (.call 7 [0] (.cons (.var 0) .nil) .nil))
  (.cons (.ret (.call 11 [0] (.cons (.var 0) .nil) .nil))
  .nil))
/-- identity_of -/
def f12 : FT := ⟨"identity_of", ["space"], ["space"], [], b12, false, true⟩
def b13l0 : CSs :=
  (.cons (.set (.name 8) (.bin .add (.var 8) (.bin .mul (.ix (.var 1) (.bin .add (.var 4) (.var 9))) (.ix (.var 2) (.bin .add (.var 4) (.var 10))))))
  .nil)
def b13l1 : CSs :=
  (.cons (.set (.name 8) (.bin .add (.ix (.var 1) (.bin .add (.var 4) (.var 6))) (.ix (.var 2) (.bin .add (.var 4) (.var 6)))))
  (.cons (.loop (.pair (.name 9) (.name 10)) (.it (.var 7)) b13l0 [9, 10])
  (.cons (.append (.var 3) (.var 8))
  .nil)))
def b13l2 : CSs :=
  (.cons (.loop (.pair (.name 6) (.name 7)) (.enum (.ix (.glob "SUMMANDS") (.var 5))) b13l1 [6, 7, 8, 9, 10])
  (.cons (.set (.name 4) (.bin .add (.var 4) (.bi .len (.cons (.ix (.glob "SUMMANDS") (.var 5)) .nil))))
  .nil))
def b13 : CSs :=
  (.cons (.set (.name 3) (.lst true .nil))
  (.cons (.set (.name 4) (.int (0)))
  (.cons (.loop (.name 5) (.it (.var 0)) b13l2 [5, 6, 7, 8, 9, 10])
  (.cons (.ret (.bi .tuple (.cons (.var 3) .nil)))
  .nil))))
/-- product_in -/
def f13 : FT := ⟨"product_in", ["space", "x", "y", "entries", "start", "size", "place", "pairs", "total", "i", "j"], ["space", "x", "y"], [], b13, false, true⟩
def b14l0 : CSs :=
  (.cons (.set (.name 7) (.bin .add (.var 7) (.bin .mul (.ix (.var 1) (.bin .add (.var 3) (.var 8))) (.ix (.var 2) (.bin .add (.var 3) (.var 9))))))
  .nil)
def b14l1 : CSs :=
  (.cons (.set (.name 7) (.ix (.var 1) (.bin .add (.var 3) (.var 5))))
  (.cons (.loop (.pair (.name 8) (.name 9)) (.it (.var 6)) b14l0 [8, 9])
  (.cons (.append (.var 2) (.neg (.var 7)))
  .nil)))
def b14l2 : CSs :=
  (.cons (.loop (.pair (.name 5) (.name 6)) (.enum (.ix (.glob "SUMMANDS") (.var 4))) b14l1 [5, 6, 7, 8, 9])
  (.cons (.set (.name 3) (.bin .add (.var 3) (.bi .len (.cons (.ix (.glob "SUMMANDS") (.var 4)) .nil))))
  .nil))
def b14 : CSs :=
  (.cons (.set (.name 2) (.lst true .nil))
  (.cons (.set (.name 3) (.int (0)))
  (.cons (.loop (.name 4) (.it (.var 0)) b14l2 [4, 5, 6, 7, 8, 9])
  (.cons (.ret (.bi .tuple (.cons (.var 2) .nil)))
  .nil))))
/-- inverse_in -/
def f14 : FT := ⟨"inverse_in", ["space", "x", "entries", "start", "size", "place", "pairs", "total", "i", "j"], ["space", "x"], [], b14, false, true⟩
def b15l0 : CSs :=
  (.cons (.append (.var 3) (.bi .sum (.cons (.comp false (.bin .mul (.ix (.var 1) (.bin .add (.var 4) (.var 7))) (.ix (.var 2) (.bin .add (.var 4) (.var 8)))) (.pair (.name 7) (.name 8)) (.it (.var 6)) [7, 8]) .nil)))
  .nil)
def b15l1 : CSs :=
  (.cons (.loop (.name 6) (.it (.ix (.glob "SUMMANDS") (.var 5))) b15l0 [6])
  (.cons (.set (.name 4) (.bin .add (.var 4) (.bi .len (.cons (.ix (.glob "SUMMANDS") (.var 5)) .nil))))
  .nil))
def b15 : CSs :=
  (.cons (.set (.name 3) (.lst true .nil))
  (.cons (.set (.name 4) (.int (0)))
  (.cons (.loop (.name 5) (.it (.var 0)) b15l1 [5, 6])
  (.cons (.ret (.bi .tuple (.cons (.var 3) .nil)))
  .nil))))
/-- strict_in -/
def f15 : FT := ⟨"strict_in", ["space", "x", "y", "entries", "start", "size", "pairs", "i", "j"], ["space", "x", "y"], [], b15, false, true⟩
def b16l0 : CSs :=
  (.cons (.set (.name 6) (.call 5 [0, 1] (.cons (.var 2) (.cons (.var 5) .nil)) .nil))
  (.cons (.set (.name 3) (.comp false (.bin .add (.var 8) (.bin .mul (.var 6) (.var 7))) (.pair (.name 8) (.name 7)) (.zip2 (.var 3) (.var 4)) [8, 7]))
  (.cons (.set (.name 4) (.call 15 [0, 1, 2] (.cons (.var 0) (.cons (.var 4) (.cons (.var 1) .nil))) .nil))
  .nil)))
def b16 : CSs :=
  (.cons (.set (.name 3) (.comp false (.int (0)) (.name 7) (.it (.var 1)) [7]))
  (.cons (.set (.name 4) (.var 1))
  (.cons (.loop (.name 5) (.range2 (.int (1)) (.bi .max1 (.cons (.var 0) .nil))) b16l0 [5, 6])
  (.cons (.ret (.bi .tuple (.cons (.var 3) .nil)))
  .nil))))
/-- power_in -/
def f16 : FT := ⟨"power_in", ["space", "x", "n", "total", "part", "many", "number", "entry", "mine"], ["space", "x", "n"], [], b16, false, true⟩
def b17 : CSs :=
  (.cons (.ret (.call 13 [0, 1, 2] (.cons (.var 0) (.cons (.call 14 [0, 1] (.cons (.var 0) (.cons (.call 13 [0, 1, 2] (.cons (.var 0) (.cons (.var 2) (.cons (.var 1) .nil))) .nil) .nil)) .nil) (.cons (.call 13 [0, 1, 2] (.cons (.var 0) (.cons (.var 1) (.cons (.var 2) .nil))) .nil) .nil))) .nil))
  .nil)
/-- commutator_in -/
def f17 : FT := ⟨"commutator_in", ["space", "x", "y"], ["space", "x", "y"], [], b17, false, true⟩
def b18 : CSs :=
  (.cons (.ret (.call 13 [0, 1, 2] (.cons (.var 0) (.cons (.call 14 [0, 1] (.cons (.var 0) (.cons (.var 2) .nil)) .nil) (.cons (.call 13 [0, 1, 2] (.cons (.var 0) (.cons (.var 1) (.cons (.var 2) .nil))) .nil) .nil))) .nil))
  .nil)
/-- turned_in -/
def f18 : FT := ⟨"turned_in", ["space", "x", "y"], ["space", "x", "y"], [], b18, false, true⟩
def b19 : CSs :=
  (.cons (.expr (.call 7 [0] (.cons (.var 0) .nil) .nil))
  (.cons (.expr (.call 10 [0, 1] (.cons (.var 0) (.cons (.var 1) .nil)) .nil))
  (.cons (.expr (.call 10 [0, 1] (.cons (.var 0) (.cons (.var 2) .nil)) .nil))
  .nil)))
/-- check_two -/
def f19 : FT := ⟨"check_two", ["space", "x", "y"], ["space", "x", "y"], [], b19, false, true⟩
def b20 : CSs :=
  (.cons (.expr (.call 19 [0, 1, 2] (.cons (.var 0) (.cons (.var 1) (.cons (.var 2) .nil))) .nil))
  (.cons (.ret (.call 13 [0, 1, 2] (.cons (.var 0) (.cons (.var 1) (.cons (.var 2) .nil))) .nil))
  .nil))
/-- product -/
def f20 : FT := ⟨"product", ["space", "x", "y"], ["space", "x", "y"], [], b20, false, true⟩
def b21 : CSs :=
  (.cons (.expr (.call 7 [0] (.cons (.var 0) .nil) .nil))
  (.cons (.expr (.call 10 [0, 1] (.cons (.var 0) (.cons (.var 1) .nil)) .nil))
  (.cons (.ret (.call 14 [0, 1] (.cons (.var 0) (.cons (.var 1) .nil)) .nil))
  .nil)))
/-- inverse -/
def f21 : FT := ⟨"inverse", ["space", "x"], ["space", "x"], [], b21, false, true⟩
def b22 : CSs :=
  (.cons (.expr (.call 7 [0] (.cons (.var 0) .nil) .nil))
  (.cons (.expr (.call 10 [0, 1] (.cons (.var 0) (.cons (.var 1) .nil)) .nil))
  (.cons (.expr (.call 4 [0] (.cons (.var 2) .nil) .nil))
  (.cons (.ret (.call 16 [0, 1, 2] (.cons (.var 0) (.cons (.var 1) (.cons (.var 2) .nil))) .nil))
  .nil))))
/-- power -/
def f22 : FT := ⟨"power", ["space", "x", "n"], ["space", "x", "n"], [], b22, false, true⟩
def b23 : CSs :=
  (.cons (.expr (.call 19 [0, 1, 2] (.cons (.var 0) (.cons (.var 1) (.cons (.var 2) .nil))) .nil))
  (.cons (.ret (.call 17 [0, 1, 2] (.cons (.var 0) (.cons (.var 1) (.cons (.var 2) .nil))) .nil))
  .nil))
/-- commutator -/
def f23 : FT := ⟨"commutator", ["space", "x", "y"], ["space", "x", "y"], [], b23, false, true⟩
def b24 : CSs :=
  (.cons (.expr (.call 19 [0, 1, 2] (.cons (.var 0) (.cons (.var 1) (.cons (.var 2) .nil))) .nil))
  (.cons (.ret (.call 18 [0, 1, 2] (.cons (.var 0) (.cons (.var 1) (.cons (.var 2) .nil))) .nil))
  .nil))
/-- turned -/
def f24 : FT := ⟨"turned", ["space", "x", "y"], ["space", "x", "y"], [], b24, false, true⟩
def b25 : CSs :=
  (.cons (.set (.name 1) (.comp false (.ite (.cmp .ge (.var 2) (.int (0))) (.bin .mul (.bi .int (.cons (.var 2) .nil)) (.int (2))) (.bin .sub (.bin .mul (.neg (.bi .int (.cons (.var 2) .nil))) (.int (2))) (.int (1)))) (.name 2) (.it (.sl (.var 0) .none (.some (.int (63))))) [2]))
  (.cons (.ret (.dict (.cons (.str "cells") (.cons (.var 1) (.cons (.str "at") (.cons (.int (0)) (.cons (.str "left") (.cons (.int (0)) (.cons (.str "count") (.cons (.int (0)) (.cons (.str "sum") (.cons (.bin .mod (.bi .int (.cons (.bi .sum (.cons (.var 1) .nil)) .nil)) (.int (1000003))) .nil))))))))))))
  .nil))
/-- _law_begin -/
def f25 : FT := ⟨"_law_begin", ["script", "cells", "cell"], ["script"], [], b25, true, false⟩
def b26 : CSs :=
  (.cons (.setIx (.var 0) (.str "count") (.bin .add (.ix (.var 0) (.str "count")) (.int (1))))
  (.cons (.cond (.cmp .lt (.ix (.var 0) (.str "left")) (.var 1)) (.cons (.set (.name 3) (.bin .add (.ix (.var 0) (.str "sum")) (.ix (.var 0) (.str "count"))))
  (.cons (.cond (.cmp .lt (.ix (.var 0) (.str "at")) (.bi .len (.cons (.ix (.var 0) (.str "cells")) .nil))) (.cons (.set (.name 3) (.ix (.ix (.var 0) (.str "cells")) (.ix (.var 0) (.str "at"))))
  (.cons (.setIx (.var 0) (.str "at") (.bin .add (.ix (.var 0) (.str "at")) (.int (1))))
  .nil)) .nil)
  (.cons (.cond (.cmp .lt (.var 3) (.bin .pow (.int (10)) (.int (18)))) (.cons (.set (.name 4) (.bin .mod (.bi .int (.cons (.bin .add (.bin .add (.bin .mul (.var 3) (.int (48271))) (.bin .mul (.ix (.var 0) (.str "count")) (.int (69621)))) (.int (12345))) .nil)) (.int (2305843009213693951))))
  (.cons (.set (.name 4) (.bin .mod (.bi .int (.cons (.bin .add (.bin .add (.bin .mul (.var 4) (.var 4)) (.var 3)) (.bin .mul (.ix (.var 0) (.str "count")) (.int (7919)))) .nil)) (.int (2305843009213693951))))
  (.cons (.set (.name 3) (.bin .mod (.bi .int (.cons (.bin .add (.bin .add (.bin .mul (.bin .mul (.var 4) (.var 4)) (.int (16807))) (.bin .mul (.var 3) (.int (40014)))) (.int (1))) .nil)) (.int (2305843009213693951))))
  .nil))) .nil)
  (.cons (.setIx (.var 0) (.str "left") (.var 3))
  .nil)))) .nil)
  (.cons (.set (.name 2) (.bin .mod (.bi .int (.cons (.ix (.var 0) (.str "left")) .nil)) (.var 1)))
  (.cons (.setIx (.var 0) (.str "left") (.bin .fdiv (.bi .int (.cons (.ix (.var 0) (.str "left")) .nil)) (.var 1)))
  (.cons (.ret (.var 2))
  .nil)))))
/-- _law_draw -/
def f26 : FT := ⟨"_law_draw", ["state", "many", "number", "cell", "mixed"], ["state", "many"], [], b26, false, false⟩
def b27 : CSs :=
  (.cons (.set (.name 2) (.ix (.lst false (.cons (.int (1)) (.cons (.bi .min2 (.cons (.int (9)) (.cons (.var 1) .nil))) (.cons (.var 1) .nil)))) (.call 26 [0, 1] (.cons (.var 0) (.cons (.int (3)) .nil)) .nil)))
  (.cons (.ret (.bin .sub (.call 26 [0, 1] (.cons (.var 0) (.cons (.bin .add (.bin .mul (.int (2)) (.var 2)) (.int (1))) .nil)) .nil) (.var 2)))
  .nil))
/-- _law_entry -/
def f27 : FT := ⟨"_law_entry", ["state", "most", "limit"], ["state", "most"], [], b27, false, false⟩
def b28l0 : CSs :=
  (.cons (.extend (.var 1) (.comp false (.tup (.cons (.var 3) (.cons (.bin .add (.var 3) (.var 2)) .nil))) (.name 3) (.range1 (.bin .sub (.var 0) (.var 2))) [3]))
  .nil)
def b28 : CSs :=
  (.cons (.set (.name 1) (.lst true .nil))
  (.cons (.loop (.name 2) (.range2 (.int (1)) (.var 0)) b28l0 [2])
  (.cons (.ret (.var 1))
  .nil)))
/-- _law_places -/
def f28 : FT := ⟨"_law_places", ["size", "found", "step", "i"], ["size"], [], b28, false, true⟩
def b29 : CSs :=
  (.cons (.ret (.bi .sum (.cons (.comp false (.bin .fdiv (.bin .mul (.var 1) (.bin .sub (.var 1) (.int (1)))) (.int (2))) (.name 1) (.it (.var 0)) [1]) .nil)))
  .nil)
/-- _law_width -/
def f29 : FT := ⟨"_law_width", ["space", "size"], ["space"], [], b29, false, true⟩
def b30l0 : CSs :=
  (.cons (.set (.name 7) (.ix (.var 5) (.var 8)))
  (.cons (.setIx (.var 7) (.var 9) (.ix (.var 1) (.bin .add (.var 3) (.var 6))))
  .nil))
def b30l1 : CSs :=
  (.cons (.set (.name 5) (.comp false (.comp true (.ite (.cmp .eq (.var 8) (.var 9)) (.int (1)) (.int (0))) (.name 9) (.range1 (.var 4)) [9]) (.name 8) (.range1 (.var 4)) [8]))
  (.cons (.loop (.pair (.name 6) (.pair (.name 8) (.name 9))) (.enum (.call 28 [0] (.cons (.var 4) .nil) .nil)) b30l0 [6, 7, 8, 9])
  (.cons (.set (.name 3) (.bin .add (.var 3) (.bin .fdiv (.bin .mul (.var 4) (.bin .sub (.var 4) (.int (1)))) (.int (2)))))
  (.cons (.append (.var 2) (.var 5))
  .nil))))
def b30 : CSs :=
  (.cons (.set (.name 2) (.lst true .nil))
  (.cons (.set (.name 3) (.int (0)))
  (.cons (.loop (.name 4) (.it (.var 0)) b30l1 [4, 5, 6, 7, 8, 9])
  (.cons (.ret (.var 2))
  .nil))))
/-- _law_matrices -/
def f30 : FT := ⟨"_law_matrices", ["space", "x", "found", "start", "size", "rows", "at", "row", "i", "j"], ["space", "x"], [], b30, false, true⟩
def b31 : CSs :=
  (.cons (.set (.name 2) (.bi .len (.cons (.var 0) .nil)))
  (.cons (.ret (.comp false (.comp false (.bi .sum (.cons (.comp false (.bin .mul (.ix (.ix (.var 0) (.var 3)) (.var 5)) (.ix (.ix (.var 1) (.var 5)) (.var 4))) (.name 5) (.range1 (.var 2)) [5]) .nil)) (.name 4) (.range1 (.var 2)) [4]) (.name 3) (.range1 (.var 2)) [3]))
  .nil))
/-- _law_times -/
def f31 : FT := ⟨"_law_times", ["one", "other", "size", "i", "j", "k"], ["one", "other"], [], b31, false, true⟩
def b32l0 : CSs :=
  (.cons (.extend (.var 2) (.comp false (.ix (.ix (.var 4) (.var 5)) (.var 6)) (.pair (.name 5) (.name 6)) (.it (.call 28 [0] (.cons (.var 3) .nil) .nil)) [5, 6]))
  .nil)
def b32 : CSs :=
  (.cons (.set (.name 2) (.lst true .nil))
  (.cons (.loop (.pair (.name 3) (.name 4)) (.zip2 (.var 0) (.var 1)) b32l0 [3, 4])
  (.cons (.ret (.bi .tuple (.cons (.var 2) .nil)))
  .nil)))
/-- _law_entries -/
def f32 : FT := ⟨"_law_entries", ["space", "matrices", "found", "size", "matrix", "i", "j"], ["space", "matrices"], [], b32, false, true⟩
def b33 : CSs :=
  (.cons (.par 3 4 (.call 30 [0, 1] (.cons (.var 0) (.cons (.var 1) .nil)) .nil) (.call 30 [0, 1] (.cons (.var 0) (.cons (.var 2) .nil)) .nil))
  (.cons (.ret (.call 32 [0, 1] (.cons (.var 0) (.cons (.comp false (.call 31 [0, 1] (.cons (.var 5) (.cons (.var 6) .nil)) .nil) (.pair (.name 5) (.name 6)) (.zip2 (.var 3) (.var 4)) [5, 6]) .nil)) .nil))
  .nil))
/-- _law_product -/
def f33 : FT := ⟨"_law_product", ["space", "x", "y", "ones", "others", "one", "other"], ["space", "x", "y"], [], b33, false, true⟩
def b34l0 : CSs :=
  (.cons (.setIx (.var 2) (.var 3) (.neg (.ix (.call 33 [0, 1, 2] (.cons (.var 0) (.cons (.var 1) (.cons (.bi .tuple (.cons (.var 2) .nil)) .nil))) .nil) (.var 3))))
  .nil)
def b34 : CSs :=
  (.cons (.set (.name 2) (.repL true (.lst false (.cons (.int (0)) .nil)) (.call 29 [0] (.cons (.var 0) .nil) .nil)))
  (.cons (.loop (.name 3) (.range1 (.bi .len (.cons (.var 2) .nil))) b34l0 [3])
  (.cons (.ret (.bi .tuple (.cons (.var 2) .nil)))
  .nil)))
/-- _law_inverse -/
def f34 : FT := ⟨"_law_inverse", ["space", "x", "entries", "at"], ["space", "x"], [], b34, false, true⟩
def b35l0 : CSs :=
  (.cons (.cond (.cmp .eq (.var 5) (.int (0))) (.cons .brk
  .nil) .nil)
  (.cons (.cond (.cmp .eq (.bin .mod (.bi .int (.cons (.var 5) .nil)) (.int (2))) (.int (1))) (.cons (.set (.name 3) (.call 33 [0, 1, 2] (.cons (.var 0) (.cons (.var 3) (.cons (.var 4) .nil))) .nil))
  .nil) .nil)
  (.cons (.set (.name 5) (.bin .fdiv (.var 5) (.int (2))))
  (.cons (.set (.name 4) (.call 33 [0, 1, 2] (.cons (.var 0) (.cons (.var 4) (.cons (.var 4) .nil))) .nil))
  .nil))))
def b35 : CSs :=
  (.cons (.set (.name 3) (.bi .tuple (.cons (.repL false (.lst false (.cons (.int (0)) .nil)) (.bi .len (.cons (.var 1) .nil))) .nil)))
  (.cons (.set (.name 4) (.ite (.cmp .ge (.var 2) (.int (0))) (.var 1) (.call 34 [0, 1] (.cons (.var 0) (.cons (.var 1) .nil)) .nil)))
  (.cons (.set (.name 5) (.bi .abs (.cons (.var 2) .nil)))
  (.cons (.loop (.name 6) (.range1 (.int (900))) b35l0 [6])
  (.cons (.ret (.var 3))
  .nil)))))
/-- _law_power -/
def f35 : FT := ⟨"_law_power", ["space", "x", "n", "found", "base", "left", "step"], ["space", "x", "n"], [], b35, false, true⟩
def b36 : CSs :=
  (.cons (.set (.name 1) (.lst false (.cons (.tup (.cons (.int (3)) .nil)) (.cons (.tup (.cons (.int (2)) (.cons (.int (3)) .nil))) (.cons (.tup (.cons (.int (4)) .nil)) (.cons (.tup (.cons (.int (5)) .nil)) (.cons (.tup (.cons (.int (3)) (.cons (.int (3)) .nil))) (.cons (.tup (.cons (.int (2)) (.cons (.int (2)) (.cons (.int (4)) .nil)))) (.cons (.tup (.cons (.int (4)) (.cons (.int (3)) .nil))) (.cons (.tup (.cons (.int (2)) (.cons (.int (5)) .nil))) (.cons (.tup (.cons (.int (3)) (.cons (.int (2)) (.cons (.int (2)) .nil)))) (.cons (.tup (.cons (.int (2)) .nil)) (.cons (.tup (.cons (.int (3)) (.cons (.int (3)) (.cons (.int (3)) .nil)))) (.cons (.tup (.cons (.int (4)) (.cons (.int (4)) .nil))) (.cons (.tup (.cons (.int (5)) (.cons (.int (2)) (.cons (.int (2)) .nil)))) .nil)))))))))))))))
  (.cons (.ret (.ix (.var 1) (.call 26 [0, 1] (.cons (.var 0) (.cons (.int (13)) .nil)) .nil)))
  .nil))
/-- _law_space -/
def f36 : FT := ⟨"_law_space", ["state", "found"], ["state"], [], b36, false, false⟩
def b37 : CSs :=
  (.cons (.set (.name 2) (.ite (.cmp .mem (.int (5)) (.var 1)) (.int (99)) (.ite (.cmp .mem (.int (4)) (.var 1)) (.int (9999)) (.int (999999999999)))))
  (.cons (.ret (.bi .tuple (.cons (.comp false (.call 27 [0, 1] (.cons (.var 0) (.cons (.var 2) .nil)) .nil) (.name 3) (.range1 (.call 29 [0] (.cons (.var 1) .nil) .nil)) [3]) .nil)))
  .nil))
/-- _law_element -/
def f37 : FT := ⟨"_law_element", ["state", "space", "most", "at"], ["state", "space"], [], b37, false, false⟩
def b38l0 : CSs :=
  (.cons (.set (.name 3) (.call 36 [0] (.cons (.var 1) .nil) .nil))
  (.cons (.cond (.cmp .isNot (.call 6 [0] (.cons (.var 3) .nil) .nil) (.bl true)) (.cons (.ret (.bl false))
  .nil) .nil)
  (.cons (.par3 6 7 8 (.call 37 [0, 1] (.cons (.var 1) (.cons (.var 3) .nil)) .nil) (.call 37 [0, 1] (.cons (.var 1) (.cons (.var 3) .nil)) .nil) (.call 37 [0, 1] (.cons (.var 1) (.cons (.var 3) .nil)) .nil))
  (.cons (.set (.name 4) (.ix (.lst false (.cons (.int (40)) (.cons (.ite (.and (.cmp .notMem (.int (4)) (.var 3)) (.cmp .notMem (.int (5)) (.var 3))) (.int (999)) (.int (40))) .nil))) (.call 26 [0, 1] (.cons (.var 1) (.cons (.int (2)) .nil)) .nil)))
  (.cons (.par 9 10 (.bin .sub (.call 26 [0, 1] (.cons (.var 1) (.cons (.bin .add (.bin .mul (.int (2)) (.var 4)) (.int (1))) .nil)) .nil) (.var 4)) (.bin .sub (.call 26 [0, 1] (.cons (.var 1) (.cons (.bin .add (.bin .mul (.int (2)) (.var 4)) (.int (1))) .nil)) .nil) (.var 4)))
  (.cons (.par3 11 12 13 (.bi .tuple (.cons (.repL false (.lst false (.cons (.int (0)) .nil)) (.bi .len (.cons (.var 6) .nil))) .nil)) (.call 33 [0, 1, 2] (.cons (.var 3) (.cons (.var 6) (.cons (.var 7) .nil))) .nil) (.call 34 [0, 1] (.cons (.var 3) (.cons (.var 6) .nil)) .nil))
  (.cons (.cond (.or (.cmp .ne (.bi .repr (.cons (.call 20 [0, 1, 2] (.cons (.var 3) (.cons (.var 6) (.cons (.var 7) .nil))) .nil) .nil)) (.bi .repr (.cons (.var 12) .nil))) (.cmp .ne (.bi .repr (.cons (.call 21 [0, 1] .nil (.cons (.var 3) (.cons (.var 6) .nil))) .nil)) (.bi .repr (.cons (.var 13) .nil)))) (.cons (.ret (.bl false))
  .nil) .nil)
  (.cons (.cond (.or (.cmp .ne (.call 20 [0, 1, 2] (.cons (.var 3) (.cons (.var 6) (.cons (.call 21 [0, 1] (.cons (.var 3) (.cons (.var 6) .nil)) .nil) .nil))) .nil) (.var 11)) (.cmp .ne (.call 20 [0, 1, 2] (.cons (.var 3) (.cons (.call 21 [0, 1] (.cons (.var 3) (.cons (.var 6) .nil)) .nil) (.cons (.var 6) .nil))) .nil) (.call 12 [0] (.cons (.var 3) .nil) .nil))) (.cons (.ret (.bl false))
  .nil) .nil)
  (.cons (.cond (.cmp .ne (.call 20 [2, 0, 1] .nil (.cons (.var 12) (.cons (.var 8) (.cons (.var 3) .nil)))) (.call 33 [0, 1, 2] (.cons (.var 3) (.cons (.var 6) (.cons (.call 33 [0, 1, 2] (.cons (.var 3) (.cons (.var 7) (.cons (.var 8) .nil))) .nil) .nil))) .nil)) (.cons (.ret (.bl false))
  .nil) .nil)
  (.cons (.cond (.or (.cmp .ne (.bi .repr (.cons (.call 22 [0, 1, 2] (.cons (.var 3) (.cons (.var 6) (.cons (.var 9) .nil))) .nil) .nil)) (.bi .repr (.cons (.call 35 [0, 1, 2] (.cons (.var 3) (.cons (.var 6) (.cons (.var 9) .nil))) .nil) .nil))) (.cmp .ne (.call 22 [0, 1, 2] (.cons (.var 3) (.cons (.var 6) .nil)) (.cons (.int (0)) .nil)) (.var 11))) (.cons (.ret (.bl false))
  .nil) .nil)
  (.cons (.cond (.and (.cmp .lt (.bi .abs (.cons (.bin .add (.var 9) (.var 10)) .nil)) (.int (1000))) (.cmp .ne (.call 20 [0, 1, 2] (.cons (.var 3) (.cons (.call 22 [0, 1, 2] (.cons (.var 3) (.cons (.var 6) (.cons (.var 9) .nil))) .nil) (.cons (.call 22 [0, 1, 2] (.cons (.var 3) (.cons (.var 6) (.cons (.var 10) .nil))) .nil) .nil))) .nil) (.call 22 [0, 2, 1] (.cons (.var 3) .nil) (.cons (.bin .add (.var 9) (.var 10)) (.cons (.var 6) .nil))))) (.cons (.ret (.bl false))
  .nil) .nil)
  (.cons (.set (.name 5) (.call 33 [0, 1, 2] (.cons (.var 3) (.cons (.call 33 [0, 1, 2] (.cons (.var 3) (.cons (.var 13) (.cons (.call 34 [0, 1] (.cons (.var 3) (.cons (.var 7) .nil)) .nil) .nil))) .nil) (.cons (.var 12) .nil))) .nil))
  (.cons (.cond (.or (.cmp .ne (.bi .repr (.cons (.call 23 [0, 1, 2] (.cons (.var 3) (.cons (.var 6) (.cons (.var 7) .nil))) .nil) .nil)) (.bi .repr (.cons (.var 5) .nil))) (.or (.cmp .ne (.call 23 [2, 1, 0] .nil (.cons (.var 7) (.cons (.var 6) (.cons (.var 3) .nil)))) (.var 5)) (.cmp .ne (.call 23 [0, 1, 2] (.cons (.var 3) (.cons (.var 6) (.cons (.call 22 [0, 1, 2] (.cons (.var 3) (.cons (.var 6) (.cons (.var 10) .nil))) .nil) .nil))) .nil) (.var 11)))) (.cons (.ret (.bl false))
  .nil) .nil)
  (.cons (.set (.name 5) (.call 33 [0, 1, 2] (.cons (.var 3) (.cons (.call 33 [0, 1, 2] (.cons (.var 3) (.cons (.call 34 [0, 1] (.cons (.var 3) (.cons (.var 7) .nil)) .nil) (.cons (.var 6) .nil))) .nil) (.cons (.var 7) .nil))) .nil))
  (.cons (.cond (.or (.cmp .ne (.bi .repr (.cons (.call 24 [0, 1, 2] (.cons (.var 3) (.cons (.var 6) (.cons (.var 7) .nil))) .nil) .nil)) (.bi .repr (.cons (.var 5) .nil))) (.or (.cmp .ne (.call 24 [2, 1, 0] .nil (.cons (.var 7) (.cons (.var 6) (.cons (.var 3) .nil)))) (.var 5)) (.cmp .ne (.call 20 [0, 1, 2] (.cons (.var 3) (.cons (.var 6) (.cons (.call 23 [0, 1, 2] (.cons (.var 3) (.cons (.var 6) (.cons (.var 7) .nil))) .nil) .nil))) .nil) (.var 5)))) (.cons (.ret (.bl false))
  .nil) .nil)
  (.cons (.cond (.cmp .ne (.call 24 [0, 1, 2] (.cons (.var 3) (.cons (.call 24 [0, 1, 2] (.cons (.var 3) (.cons (.var 6) (.cons (.var 7) .nil))) .nil) (.cons (.var 8) .nil))) .nil) (.call 24 [0, 1, 2] (.cons (.var 3) (.cons (.var 6) (.cons (.call 20 [0, 1, 2] (.cons (.var 3) (.cons (.var 7) (.cons (.var 8) .nil))) .nil) .nil))) .nil)) (.cons (.ret (.bl false))
  .nil) .nil)
  .nil))))))))))))))))
def b38 : CSs :=
  (.cons (.set (.name 1) (.call 25 [0] (.cons (.var 0) .nil) .nil))
  (.cons (.loop (.name 2) (.range1 (.int (6))) b38l0 [2, 3, 4, 5, 6, 7, 8, 9, 10, 11, 12, 13])
  (.cons (.ret (.bl true))
  .nil)))
/-- law -/
def f38 : FT := ⟨"law", ["script", "state", "turn", "space", "most", "due", "x", "y", "z", "n", "m", "none", "xy", "back"], ["script"], [], b38, false, false⟩
def funs : List FT := [f0, f1, f2, f3, f4, f5, f6, f7, f8, f9, f10, f11, f12, f13, f14, f15, f16, f17, f18, f19, f20, f21, f22, f23, f24, f25, f26, f27, f28, f29, f30, f31, f32, f33, f34, f35, f36, f37, f38]
def globV : Str → Option SV := fun x => if decide (x = "SUMMANDS") = true then some (.dct [((.int (2)), (.tup [(.tup [])])), ((.int (3)), (.tup [(.tup []), (.tup []), (.tup [(.tup [(.int (0)), (.int (1))])])])), ((.int (4)), (.tup [(.tup []), (.tup []), (.tup []), (.tup [(.tup [(.int (0)), (.int (1))])]), (.tup [(.tup [(.int (1)), (.int (2))])]), (.tup [(.tup [(.int (0)), (.int (4))]), (.tup [(.int (3)), (.int (2))])])])), ((.int (5)), (.tup [(.tup []), (.tup []), (.tup []), (.tup []), (.tup [(.tup [(.int (0)), (.int (1))])]), (.tup [(.tup [(.int (1)), (.int (2))])]), (.tup [(.tup [(.int (2)), (.int (3))])]), (.tup [(.tup [(.int (0)), (.int (5))]), (.tup [(.int (4)), (.int (2))])]), (.tup [(.tup [(.int (1)), (.int (6))]), (.tup [(.int (5)), (.int (3))])]), (.tup [(.tup [(.int (0)), (.int (8))]), (.tup [(.int (4)), (.int (6))]), (.tup [(.int (7)), (.int (3))])])]))]) else none
def shapes : List Sh := [
  ⟨0, 1, [], [0]⟩,
  ⟨3, 3, [], [0, 1, 2]⟩,
  ⟨1, 2, [], [0, 1]⟩,
  ⟨6, 1, [], [0]⟩,
  ⟨2, 2, [], [0, 1]⟩,
  ⟨8, 1, [], [0]⟩,
  ⟨9, 2, [], [0, 1]⟩,
  ⟨7, 1, [], [0]⟩,
  ⟨11, 1, [], [0]⟩,
  ⟨5, 2, [], [0, 1]⟩,
  ⟨15, 3, [], [0, 1, 2]⟩,
  ⟨13, 3, [], [0, 1, 2]⟩,
  ⟨14, 2, [], [0, 1]⟩,
  ⟨10, 2, [], [0, 1]⟩,
  ⟨19, 3, [], [0, 1, 2]⟩,
  ⟨4, 1, [], [0]⟩,
  ⟨16, 3, [], [0, 1, 2]⟩,
  ⟨17, 3, [], [0, 1, 2]⟩,
  ⟨18, 3, [], [0, 1, 2]⟩,
  ⟨26, 2, [], [0, 1]⟩,
  ⟨28, 1, [], [0]⟩,
  ⟨30, 2, [], [0, 1]⟩,
  ⟨32, 2, [], [0, 1]⟩,
  ⟨31, 2, [], [0, 1]⟩,
  ⟨29, 1, [], [0]⟩,
  ⟨33, 3, [], [0, 1, 2]⟩,
  ⟨34, 2, [], [0, 1]⟩,
  ⟨27, 2, [], [0, 1]⟩,
  ⟨25, 1, [], [0]⟩,
  ⟨36, 1, [], [0]⟩,
  ⟨37, 2, [], [0, 1]⟩,
  ⟨21, 0, ["space", "x"], [0, 1]⟩,
  ⟨20, 3, [], [0, 1, 2]⟩,
  ⟨21, 2, [], [0, 1]⟩,
  ⟨12, 1, [], [0]⟩,
  ⟨20, 0, ["x", "y", "space"], [2, 0, 1]⟩,
  ⟨22, 2, ["n"], [0, 1, 2]⟩,
  ⟨22, 3, [], [0, 1, 2]⟩,
  ⟨35, 3, [], [0, 1, 2]⟩,
  ⟨22, 1, ["n", "x"], [0, 2, 1]⟩,
  ⟨23, 3, [], [0, 1, 2]⟩,
  ⟨23, 0, ["y", "x", "space"], [2, 1, 0]⟩,
  ⟨24, 0, ["y", "x", "space"], [2, 1, 0]⟩,
  ⟨24, 3, [], [0, 1, 2]⟩]
def tb : Tb := ⟨globV, funs⟩
def globN : List Str := ["SUMMANDS"]
def freeN : List Str := ["abs", "all", "bool", "enumerate", "int", "isinstance", "len", "max", "min", "range", "repr", "sum", "tuple", "zip"]
def pt : Pt := ⟨funs, globN, freeN, shapes⟩
end K00
end

section
set_option Elab.async false
set_option linter.all false
set_option maxRecDepth 100000
set_option maxHeartbeats 0
namespace K00
open PySem PySem.Spec PyProof.Rows L2 Ws
abbrev PW : Program := PySem.Challenge.pw_wholestairs_k00_whole_products_inverses
def top (i : Nat) : Stmt := PW.main.body.getD i (.Pass ⟨0, 0, 0, 0⟩)

def d0 : He.DefD := ⟨("is_integer", none), "is_integer", "is_integer", defArgs (top 6), defBody (top 6), defScope (top 6), [], []⟩
def d1 : He.DefD := ⟨("is_natural", none), "is_natural", "is_natural", defArgs (top 7), defBody (top 7), defScope (top 7), [.int 0], []⟩
def d2 : He.DefD := ⟨("are_integers", none), "are_integers", "are_integers", defArgs (top 8), defBody (top 8), defScope (top 8), [], []⟩
def d3 : He.DefD := ⟨("are_parts", none), "are_parts", "are_parts", defArgs (top 9), defBody (top 9), defScope (top 9), [], []⟩
def d4 : He.DefD := ⟨("check_integer", none), "check_integer", "check_integer", defArgs (top 10), defBody (top 10), defScope (top 10), [], []⟩
def d5 : He.DefD := ⟨("binomial_in", none), "binomial_in", "binomial_in", defArgs (top 12), defBody (top 12), defScope (top 12), [], []⟩
def d6 : He.DefD := ⟨("is_space", none), "is_space", "is_space", defArgs (top 15), defBody (top 15), defScope (top 15), [], []⟩
def d7 : He.DefD := ⟨("check_space", none), "check_space", "check_space", defArgs (top 16), defBody (top 16), defScope (top 16), [], []⟩
def d8 : He.DefD := ⟨("width_in", none), "width_in", "width_in", defArgs (top 17), defBody (top 17), defScope (top 17), [], []⟩
def d9 : He.DefD := ⟨("is_element_in", none), "is_element_in", "is_element_in", defArgs (top 18), defBody (top 18), defScope (top 18), [], []⟩
def d10 : He.DefD := ⟨("check_element", none), "check_element", "check_element", defArgs (top 19), defBody (top 19), defScope (top 19), [], []⟩
def d11 : He.DefD := ⟨("identity_in", none), "identity_in", "identity_in", defArgs (top 20), defBody (top 20), defScope (top 20), [], []⟩
def d12 : He.DefD := ⟨("identity_of", none), "identity_of", "identity_of", defArgs (top 21), defBody (top 21), defScope (top 21), [], []⟩
def d13 : He.DefD := ⟨("product_in", none), "product_in", "product_in", defArgs (top 22), defBody (top 22), defScope (top 22), [], []⟩
def d14 : He.DefD := ⟨("inverse_in", none), "inverse_in", "inverse_in", defArgs (top 23), defBody (top 23), defScope (top 23), [], []⟩
def d15 : He.DefD := ⟨("strict_in", none), "strict_in", "strict_in", defArgs (top 24), defBody (top 24), defScope (top 24), [], []⟩
def d16 : He.DefD := ⟨("power_in", none), "power_in", "power_in", defArgs (top 25), defBody (top 25), defScope (top 25), [], []⟩
def d17 : He.DefD := ⟨("commutator_in", none), "commutator_in", "commutator_in", defArgs (top 26), defBody (top 26), defScope (top 26), [], []⟩
def d18 : He.DefD := ⟨("turned_in", none), "turned_in", "turned_in", defArgs (top 27), defBody (top 27), defScope (top 27), [], []⟩
def d19 : He.DefD := ⟨("check_two", none), "check_two", "check_two", defArgs (top 28), defBody (top 28), defScope (top 28), [], []⟩
def d20 : He.DefD := ⟨("product", none), "product", "product", defArgs (top 29), defBody (top 29), defScope (top 29), [], []⟩
def d21 : He.DefD := ⟨("inverse", none), "inverse", "inverse", defArgs (top 30), defBody (top 30), defScope (top 30), [], []⟩
def d22 : He.DefD := ⟨("power", none), "power", "power", defArgs (top 31), defBody (top 31), defScope (top 31), [], []⟩
def d23 : He.DefD := ⟨("commutator", none), "commutator", "commutator", defArgs (top 32), defBody (top 32), defScope (top 32), [], []⟩
def d24 : He.DefD := ⟨("turned", none), "turned", "turned", defArgs (top 33), defBody (top 33), defScope (top 33), [], []⟩
def d25 : He.DefD := ⟨("_law_begin", none), "_law_begin", "_law_begin", defArgs (top 35), defBody (top 35), defScope (top 35), [], []⟩
def d26 : He.DefD := ⟨("_law_draw", none), "_law_draw", "_law_draw", defArgs (top 36), defBody (top 36), defScope (top 36), [], []⟩
def d27 : He.DefD := ⟨("_law_entry", none), "_law_entry", "_law_entry", defArgs (top 37), defBody (top 37), defScope (top 37), [], []⟩
def d28 : He.DefD := ⟨("_law_places", none), "_law_places", "_law_places", defArgs (top 38), defBody (top 38), defScope (top 38), [], []⟩
def d29 : He.DefD := ⟨("_law_width", none), "_law_width", "_law_width", defArgs (top 39), defBody (top 39), defScope (top 39), [], []⟩
def d30 : He.DefD := ⟨("_law_matrices", none), "_law_matrices", "_law_matrices", defArgs (top 40), defBody (top 40), defScope (top 40), [], []⟩
def d31 : He.DefD := ⟨("_law_times", none), "_law_times", "_law_times", defArgs (top 41), defBody (top 41), defScope (top 41), [], []⟩
def d32 : He.DefD := ⟨("_law_entries", none), "_law_entries", "_law_entries", defArgs (top 42), defBody (top 42), defScope (top 42), [], []⟩
def d33 : He.DefD := ⟨("_law_product", none), "_law_product", "_law_product", defArgs (top 43), defBody (top 43), defScope (top 43), [], []⟩
def d34 : He.DefD := ⟨("_law_inverse", none), "_law_inverse", "_law_inverse", defArgs (top 44), defBody (top 44), defScope (top 44), [], []⟩
def d35 : He.DefD := ⟨("_law_power", none), "_law_power", "_law_power", defArgs (top 45), defBody (top 45), defScope (top 45), [], []⟩
def d36 : He.DefD := ⟨("_law_space", none), "_law_space", "_law_space", defArgs (top 46), defBody (top 46), defScope (top 46), [], []⟩
def d37 : He.DefD := ⟨("_law_element", none), "_law_element", "_law_element", defArgs (top 47), defBody (top 47), defScope (top 47), [], []⟩
def d38 : He.DefD := ⟨("law", none), "law", "law", defArgs (top 48), defBody (top 48), defScope (top 48), [], []⟩
def fn : List He.DefD := [d0, d1, d2, d3, d4, d5, d6, d7, d8, d9, d10, d11, d12, d13, d14, d15, d16, d17, d18, d19, d20, d21, d22, d23, d24, d25, d26, d27, d28, d29, d30, d31, d32, d33, d34, d35, d36, d37, d38]
def fa : List He.Fa := [
  .glo "is_integer", .glo "is_natural", .glo "are_integers", .glo "are_parts", .glo "check_integer", .glo "binomial_in", .glo "is_space", .glo "check_space", .glo "width_in", .glo "is_element_in", .glo "check_element", .glo "identity_in", .glo "identity_of", .glo "product_in", .glo "inverse_in", .glo "strict_in", .glo "power_in", .glo "commutator_in", .glo "turned_in", .glo "check_two", .glo "product", .glo "inverse", .glo "power", .glo "commutator", .glo "turned", .glo "_law_begin", .glo "_law_draw", .glo "_law_entry", .glo "_law_places", .glo "_law_width", .glo "_law_matrices", .glo "_law_times", .glo "_law_entries", .glo "_law_product", .glo "_law_inverse", .glo "_law_power", .glo "_law_space", .glo "_law_element", .glo "law", .free "abs", .free "all", .free "bool", .free "enumerate", .free "int", .free "isinstance", .free "len", .free "max", .free "min", .free "range", .free "repr", .free "sum", .free "tuple", .free "zip"]
def loose0 : List Str := ["LayerError", "InvalidSpace", "InvalidElement", "InvalidNumber", "is_integer", "is_natural", "are_integers", "are_parts", "check_integer", "binomial_in", "SUMMANDS", "is_space", "check_space", "width_in", "is_element_in", "check_element", "identity_in", "identity_of", "product_in", "inverse_in", "strict_in", "power_in", "commutator_in", "turned_in", "check_two", "product", "inverse", "power", "commutator", "turned"]
def loose1 : List Str := ["_law_begin", "_law_draw", "_law_entry", "_law_places", "_law_width", "_law_matrices", "_law_times", "_law_entries", "_law_product", "_law_inverse", "_law_power", "_law_space", "_law_element"]
def loose : List Str := loose0 ++ loose1
abbrev R : PySem.W.OpenRow := PySem.W.OpenLaw.row PySem.Challenge.rw_wholestairs_k00_whole_products_inverses
def ex (K : PySem.W.Frag) : Bool := globN.all fun x => match globV x with
  | some v => gsB K x v
  | none => false
abbrev hk : PySem.W.Hook := He.hookX 6 fa fn [] [] ex
def ob (s : PySem.W.SharedT) : He.AlX := He.obsX 6 fa fn [] [] ex (HandSHeadRun.getT s)
theorem ob_eq (s : PySem.W.SharedT) : ob s = hk.obs s.abs := He.obsX_eq (HandSHeadRun.getT_eq s)
theorem run (w : World) : HandSHeadRun.RunEq R (PySem.W.view R.prog [48]) hk ob 4000 loose w := by
  refine PySem.W.byRow2 "special-get-raises" (P := fun w => HandSHeadRun.RunEq R (PySem.W.view R.prog [48]) hk ob 4000 loose w) ?_ ?_ w
  · intro w os
    kernel_rfl
  · intro w os
    kernel_rfl
end K00
end

section
set_option Elab.async false
set_option linter.all false
set_option maxRecDepth 100000
set_option maxHeartbeats 0
namespace K00
open PySem PySem.Spec PyProof.Rows L2 Ws
section
variable {K : PySem.W.Frag} {mg : Str → Option Value} {h : Heap}

theorem ok0 (X : K.In h) (G : h.Ns mainGlobals mg) (c : He.SaysD fa fn K) : DefOk K mg tb pt 0 f0 :=
  defOk_of (d := d0) X G rfl rfl (c.fact 0 (f := .glo "is_integer") rfl) (c.def_ 0 (d := d0) rfl) ⟨rfl, rfl, rfl, by decide +kernel, rfl, by decide +kernel, by decide +kernel⟩ (by decide +kernel) (fun _ _ => .nil) [⟨0, 1, [], [0]⟩] (by decide +kernel) (fun a fd D => shapes0 D _ (by
    intro sh hm kV doc pm an cdv ct us ws l1 l2
    simp only [List.mem_cons, List.not_mem_nil, or_false] at hm
    rcases hm with rfl
    · match us, ws, l1, l2 with
      | [_], [], _, _ => rfl))
theorem ok1 (X : K.In h) (G : h.Ns mainGlobals mg) (c : He.SaysD fa fn K) : DefOk K mg tb pt 1 f1 :=
  defOk_of (d := d1) X G rfl rfl (c.fact 1 (f := .glo "is_natural") rfl) (c.def_ 1 (d := d1) rfl) ⟨rfl, rfl, rfl, by decide +kernel, rfl, by decide +kernel, by decide +kernel⟩ (by decide +kernel) (fun _ _ => .cons (.int _) (.nil)) [⟨1, 2, [], [0, 1]⟩] (by decide +kernel) (fun a fd D => shapesD D (by intro z; cases z) _ (by
    intro sh hm T kV doc pm an cdv ct us ws its l1 l2 l3
    simp only [List.mem_cons, List.not_mem_nil, or_false] at hm
    rcases hm with rfl
    · match us, ws, its, l1, l2, l3 with
      | [_, _], [], [_], _, _, _ => exact ⟨_, rfl, rfl⟩))
theorem ok2 (X : K.In h) (G : h.Ns mainGlobals mg) (c : He.SaysD fa fn K) : DefOk K mg tb pt 2 f2 :=
  defOk_of (d := d2) X G rfl rfl (c.fact 2 (f := .glo "are_integers") rfl) (c.def_ 2 (d := d2) rfl) ⟨rfl, rfl, rfl, by decide +kernel, rfl, by decide +kernel, by decide +kernel⟩ (by decide +kernel) (fun _ _ => .nil) [⟨2, 2, [], [0, 1]⟩] (by decide +kernel) (fun a fd D => shapes0 D _ (by
    intro sh hm kV doc pm an cdv ct us ws l1 l2
    simp only [List.mem_cons, List.not_mem_nil, or_false] at hm
    rcases hm with rfl
    · match us, ws, l1, l2 with
      | [_, _], [], _, _ => rfl))
theorem ok3 (X : K.In h) (G : h.Ns mainGlobals mg) (c : He.SaysD fa fn K) : DefOk K mg tb pt 3 f3 :=
  defOk_of (d := d3) X G rfl rfl (c.fact 3 (f := .glo "are_parts") rfl) (c.def_ 3 (d := d3) rfl) ⟨rfl, rfl, rfl, by decide +kernel, rfl, by decide +kernel, by decide +kernel⟩ (by decide +kernel) (fun _ _ => .nil) [⟨3, 3, [], [0, 1, 2]⟩] (by decide +kernel) (fun a fd D => shapes0 D _ (by
    intro sh hm kV doc pm an cdv ct us ws l1 l2
    simp only [List.mem_cons, List.not_mem_nil, or_false] at hm
    rcases hm with rfl
    · match us, ws, l1, l2 with
      | [_, _, _], [], _, _ => rfl))
theorem ok4 (X : K.In h) (G : h.Ns mainGlobals mg) (c : He.SaysD fa fn K) : DefOk K mg tb pt 4 f4 :=
  defOk_of (d := d4) X G rfl rfl (c.fact 4 (f := .glo "check_integer") rfl) (c.def_ 4 (d := d4) rfl) ⟨rfl, rfl, rfl, by decide +kernel, rfl, by decide +kernel, by decide +kernel⟩ (by decide +kernel) (fun _ _ => .nil) [⟨4, 1, [], [0]⟩] (by decide +kernel) (fun a fd D => shapes0 D _ (by
    intro sh hm kV doc pm an cdv ct us ws l1 l2
    simp only [List.mem_cons, List.not_mem_nil, or_false] at hm
    rcases hm with rfl
    · match us, ws, l1, l2 with
      | [_], [], _, _ => rfl))
theorem ok5 (X : K.In h) (G : h.Ns mainGlobals mg) (c : He.SaysD fa fn K) : DefOk K mg tb pt 5 f5 :=
  defOk_of (d := d5) X G rfl rfl (c.fact 5 (f := .glo "binomial_in") rfl) (c.def_ 5 (d := d5) rfl) ⟨rfl, rfl, rfl, by decide +kernel, rfl, by decide +kernel, by decide +kernel⟩ (by decide +kernel) (fun _ _ => .nil) [⟨5, 2, [], [0, 1]⟩] (by decide +kernel) (fun a fd D => shapes0 D _ (by
    intro sh hm kV doc pm an cdv ct us ws l1 l2
    simp only [List.mem_cons, List.not_mem_nil, or_false] at hm
    rcases hm with rfl
    · match us, ws, l1, l2 with
      | [_, _], [], _, _ => rfl))
theorem ok6 (X : K.In h) (G : h.Ns mainGlobals mg) (c : He.SaysD fa fn K) : DefOk K mg tb pt 6 f6 :=
  defOk_of (d := d6) X G rfl rfl (c.fact 6 (f := .glo "is_space") rfl) (c.def_ 6 (d := d6) rfl) ⟨rfl, rfl, rfl, by decide +kernel, rfl, by decide +kernel, by decide +kernel⟩ (by decide +kernel) (fun _ _ => .nil) [⟨6, 1, [], [0]⟩] (by decide +kernel) (fun a fd D => shapes0 D _ (by
    intro sh hm kV doc pm an cdv ct us ws l1 l2
    simp only [List.mem_cons, List.not_mem_nil, or_false] at hm
    rcases hm with rfl
    · match us, ws, l1, l2 with
      | [_], [], _, _ => rfl))
theorem ok7 (X : K.In h) (G : h.Ns mainGlobals mg) (c : He.SaysD fa fn K) : DefOk K mg tb pt 7 f7 :=
  defOk_of (d := d7) X G rfl rfl (c.fact 7 (f := .glo "check_space") rfl) (c.def_ 7 (d := d7) rfl) ⟨rfl, rfl, rfl, by decide +kernel, rfl, by decide +kernel, by decide +kernel⟩ (by decide +kernel) (fun _ _ => .nil) [⟨7, 1, [], [0]⟩] (by decide +kernel) (fun a fd D => shapes0 D _ (by
    intro sh hm kV doc pm an cdv ct us ws l1 l2
    simp only [List.mem_cons, List.not_mem_nil, or_false] at hm
    rcases hm with rfl
    · match us, ws, l1, l2 with
      | [_], [], _, _ => rfl))
theorem ok8 (X : K.In h) (G : h.Ns mainGlobals mg) (c : He.SaysD fa fn K) : DefOk K mg tb pt 8 f8 :=
  defOk_of (d := d8) X G rfl rfl (c.fact 8 (f := .glo "width_in") rfl) (c.def_ 8 (d := d8) rfl) ⟨rfl, rfl, rfl, by decide +kernel, rfl, by decide +kernel, by decide +kernel⟩ (by decide +kernel) (fun _ _ => .nil) [⟨8, 1, [], [0]⟩] (by decide +kernel) (fun a fd D => shapes0 D _ (by
    intro sh hm kV doc pm an cdv ct us ws l1 l2
    simp only [List.mem_cons, List.not_mem_nil, or_false] at hm
    rcases hm with rfl
    · match us, ws, l1, l2 with
      | [_], [], _, _ => rfl))
theorem ok9 (X : K.In h) (G : h.Ns mainGlobals mg) (c : He.SaysD fa fn K) : DefOk K mg tb pt 9 f9 :=
  defOk_of (d := d9) X G rfl rfl (c.fact 9 (f := .glo "is_element_in") rfl) (c.def_ 9 (d := d9) rfl) ⟨rfl, rfl, rfl, by decide +kernel, rfl, by decide +kernel, by decide +kernel⟩ (by decide +kernel) (fun _ _ => .nil) [⟨9, 2, [], [0, 1]⟩] (by decide +kernel) (fun a fd D => shapes0 D _ (by
    intro sh hm kV doc pm an cdv ct us ws l1 l2
    simp only [List.mem_cons, List.not_mem_nil, or_false] at hm
    rcases hm with rfl
    · match us, ws, l1, l2 with
      | [_, _], [], _, _ => rfl))
theorem ok10 (X : K.In h) (G : h.Ns mainGlobals mg) (c : He.SaysD fa fn K) : DefOk K mg tb pt 10 f10 :=
  defOk_of (d := d10) X G rfl rfl (c.fact 10 (f := .glo "check_element") rfl) (c.def_ 10 (d := d10) rfl) ⟨rfl, rfl, rfl, by decide +kernel, rfl, by decide +kernel, by decide +kernel⟩ (by decide +kernel) (fun _ _ => .nil) [⟨10, 2, [], [0, 1]⟩] (by decide +kernel) (fun a fd D => shapes0 D _ (by
    intro sh hm kV doc pm an cdv ct us ws l1 l2
    simp only [List.mem_cons, List.not_mem_nil, or_false] at hm
    rcases hm with rfl
    · match us, ws, l1, l2 with
      | [_, _], [], _, _ => rfl))
theorem ok11 (X : K.In h) (G : h.Ns mainGlobals mg) (c : He.SaysD fa fn K) : DefOk K mg tb pt 11 f11 :=
  defOk_of (d := d11) X G rfl rfl (c.fact 11 (f := .glo "identity_in") rfl) (c.def_ 11 (d := d11) rfl) ⟨rfl, rfl, rfl, by decide +kernel, rfl, by decide +kernel, by decide +kernel⟩ (by decide +kernel) (fun _ _ => .nil) [⟨11, 1, [], [0]⟩] (by decide +kernel) (fun a fd D => shapes0 D _ (by
    intro sh hm kV doc pm an cdv ct us ws l1 l2
    simp only [List.mem_cons, List.not_mem_nil, or_false] at hm
    rcases hm with rfl
    · match us, ws, l1, l2 with
      | [_], [], _, _ => rfl))
theorem ok12 (X : K.In h) (G : h.Ns mainGlobals mg) (c : He.SaysD fa fn K) : DefOk K mg tb pt 12 f12 :=
  defOk_of (d := d12) X G rfl rfl (c.fact 12 (f := .glo "identity_of") rfl) (c.def_ 12 (d := d12) rfl) ⟨rfl, rfl, rfl, by decide +kernel, rfl, by decide +kernel, by decide +kernel⟩ (by decide +kernel) (fun _ _ => .nil) [⟨12, 1, [], [0]⟩] (by decide +kernel) (fun a fd D => shapes0 D _ (by
    intro sh hm kV doc pm an cdv ct us ws l1 l2
    simp only [List.mem_cons, List.not_mem_nil, or_false] at hm
    rcases hm with rfl
    · match us, ws, l1, l2 with
      | [_], [], _, _ => rfl))
theorem ok13 (X : K.In h) (G : h.Ns mainGlobals mg) (c : He.SaysD fa fn K) : DefOk K mg tb pt 13 f13 :=
  defOk_of (d := d13) X G rfl rfl (c.fact 13 (f := .glo "product_in") rfl) (c.def_ 13 (d := d13) rfl) ⟨rfl, rfl, rfl, by decide +kernel, rfl, by decide +kernel, by decide +kernel⟩ (by decide +kernel) (fun _ _ => .nil) [⟨13, 3, [], [0, 1, 2]⟩] (by decide +kernel) (fun a fd D => shapes0 D _ (by
    intro sh hm kV doc pm an cdv ct us ws l1 l2
    simp only [List.mem_cons, List.not_mem_nil, or_false] at hm
    rcases hm with rfl
    · match us, ws, l1, l2 with
      | [_, _, _], [], _, _ => rfl))
theorem ok14 (X : K.In h) (G : h.Ns mainGlobals mg) (c : He.SaysD fa fn K) : DefOk K mg tb pt 14 f14 :=
  defOk_of (d := d14) X G rfl rfl (c.fact 14 (f := .glo "inverse_in") rfl) (c.def_ 14 (d := d14) rfl) ⟨rfl, rfl, rfl, by decide +kernel, rfl, by decide +kernel, by decide +kernel⟩ (by decide +kernel) (fun _ _ => .nil) [⟨14, 2, [], [0, 1]⟩] (by decide +kernel) (fun a fd D => shapes0 D _ (by
    intro sh hm kV doc pm an cdv ct us ws l1 l2
    simp only [List.mem_cons, List.not_mem_nil, or_false] at hm
    rcases hm with rfl
    · match us, ws, l1, l2 with
      | [_, _], [], _, _ => rfl))
theorem ok15 (X : K.In h) (G : h.Ns mainGlobals mg) (c : He.SaysD fa fn K) : DefOk K mg tb pt 15 f15 :=
  defOk_of (d := d15) X G rfl rfl (c.fact 15 (f := .glo "strict_in") rfl) (c.def_ 15 (d := d15) rfl) ⟨rfl, rfl, rfl, by decide +kernel, rfl, by decide +kernel, by decide +kernel⟩ (by decide +kernel) (fun _ _ => .nil) [⟨15, 3, [], [0, 1, 2]⟩] (by decide +kernel) (fun a fd D => shapes0 D _ (by
    intro sh hm kV doc pm an cdv ct us ws l1 l2
    simp only [List.mem_cons, List.not_mem_nil, or_false] at hm
    rcases hm with rfl
    · match us, ws, l1, l2 with
      | [_, _, _], [], _, _ => rfl))
theorem ok16 (X : K.In h) (G : h.Ns mainGlobals mg) (c : He.SaysD fa fn K) : DefOk K mg tb pt 16 f16 :=
  defOk_of (d := d16) X G rfl rfl (c.fact 16 (f := .glo "power_in") rfl) (c.def_ 16 (d := d16) rfl) ⟨rfl, rfl, rfl, by decide +kernel, rfl, by decide +kernel, by decide +kernel⟩ (by decide +kernel) (fun _ _ => .nil) [⟨16, 3, [], [0, 1, 2]⟩] (by decide +kernel) (fun a fd D => shapes0 D _ (by
    intro sh hm kV doc pm an cdv ct us ws l1 l2
    simp only [List.mem_cons, List.not_mem_nil, or_false] at hm
    rcases hm with rfl
    · match us, ws, l1, l2 with
      | [_, _, _], [], _, _ => rfl))
theorem ok17 (X : K.In h) (G : h.Ns mainGlobals mg) (c : He.SaysD fa fn K) : DefOk K mg tb pt 17 f17 :=
  defOk_of (d := d17) X G rfl rfl (c.fact 17 (f := .glo "commutator_in") rfl) (c.def_ 17 (d := d17) rfl) ⟨rfl, rfl, rfl, by decide +kernel, rfl, by decide +kernel, by decide +kernel⟩ (by decide +kernel) (fun _ _ => .nil) [⟨17, 3, [], [0, 1, 2]⟩] (by decide +kernel) (fun a fd D => shapes0 D _ (by
    intro sh hm kV doc pm an cdv ct us ws l1 l2
    simp only [List.mem_cons, List.not_mem_nil, or_false] at hm
    rcases hm with rfl
    · match us, ws, l1, l2 with
      | [_, _, _], [], _, _ => rfl))
theorem ok18 (X : K.In h) (G : h.Ns mainGlobals mg) (c : He.SaysD fa fn K) : DefOk K mg tb pt 18 f18 :=
  defOk_of (d := d18) X G rfl rfl (c.fact 18 (f := .glo "turned_in") rfl) (c.def_ 18 (d := d18) rfl) ⟨rfl, rfl, rfl, by decide +kernel, rfl, by decide +kernel, by decide +kernel⟩ (by decide +kernel) (fun _ _ => .nil) [⟨18, 3, [], [0, 1, 2]⟩] (by decide +kernel) (fun a fd D => shapes0 D _ (by
    intro sh hm kV doc pm an cdv ct us ws l1 l2
    simp only [List.mem_cons, List.not_mem_nil, or_false] at hm
    rcases hm with rfl
    · match us, ws, l1, l2 with
      | [_, _, _], [], _, _ => rfl))
theorem ok19 (X : K.In h) (G : h.Ns mainGlobals mg) (c : He.SaysD fa fn K) : DefOk K mg tb pt 19 f19 :=
  defOk_of (d := d19) X G rfl rfl (c.fact 19 (f := .glo "check_two") rfl) (c.def_ 19 (d := d19) rfl) ⟨rfl, rfl, rfl, by decide +kernel, rfl, by decide +kernel, by decide +kernel⟩ (by decide +kernel) (fun _ _ => .nil) [⟨19, 3, [], [0, 1, 2]⟩] (by decide +kernel) (fun a fd D => shapes0 D _ (by
    intro sh hm kV doc pm an cdv ct us ws l1 l2
    simp only [List.mem_cons, List.not_mem_nil, or_false] at hm
    rcases hm with rfl
    · match us, ws, l1, l2 with
      | [_, _, _], [], _, _ => rfl))
theorem ok20 (X : K.In h) (G : h.Ns mainGlobals mg) (c : He.SaysD fa fn K) : DefOk K mg tb pt 20 f20 :=
  defOk_of (d := d20) X G rfl rfl (c.fact 20 (f := .glo "product") rfl) (c.def_ 20 (d := d20) rfl) ⟨rfl, rfl, rfl, by decide +kernel, rfl, by decide +kernel, by decide +kernel⟩ (by decide +kernel) (fun _ _ => .nil) [⟨20, 3, [], [0, 1, 2]⟩, ⟨20, 0, ["x", "y", "space"], [2, 0, 1]⟩] (by decide +kernel) (fun a fd D => shapes0 D _ (by
    intro sh hm kV doc pm an cdv ct us ws l1 l2
    simp only [List.mem_cons, List.not_mem_nil, or_false] at hm
    rcases hm with rfl | rfl
    · match us, ws, l1, l2 with
      | [_, _, _], [], _, _ => rfl
    · match us, ws, l1, l2 with
      | [], [_, _, _], _, _ => rfl))
theorem ok21 (X : K.In h) (G : h.Ns mainGlobals mg) (c : He.SaysD fa fn K) : DefOk K mg tb pt 21 f21 :=
  defOk_of (d := d21) X G rfl rfl (c.fact 21 (f := .glo "inverse") rfl) (c.def_ 21 (d := d21) rfl) ⟨rfl, rfl, rfl, by decide +kernel, rfl, by decide +kernel, by decide +kernel⟩ (by decide +kernel) (fun _ _ => .nil) [⟨21, 0, ["space", "x"], [0, 1]⟩, ⟨21, 2, [], [0, 1]⟩] (by decide +kernel) (fun a fd D => shapes0 D _ (by
    intro sh hm kV doc pm an cdv ct us ws l1 l2
    simp only [List.mem_cons, List.not_mem_nil, or_false] at hm
    rcases hm with rfl | rfl
    · match us, ws, l1, l2 with
      | [], [_, _], _, _ => rfl
    · match us, ws, l1, l2 with
      | [_, _], [], _, _ => rfl))
theorem ok22 (X : K.In h) (G : h.Ns mainGlobals mg) (c : He.SaysD fa fn K) : DefOk K mg tb pt 22 f22 :=
  defOk_of (d := d22) X G rfl rfl (c.fact 22 (f := .glo "power") rfl) (c.def_ 22 (d := d22) rfl) ⟨rfl, rfl, rfl, by decide +kernel, rfl, by decide +kernel, by decide +kernel⟩ (by decide +kernel) (fun _ _ => .nil) [⟨22, 2, ["n"], [0, 1, 2]⟩, ⟨22, 3, [], [0, 1, 2]⟩, ⟨22, 1, ["n", "x"], [0, 2, 1]⟩] (by decide +kernel) (fun a fd D => shapes0 D _ (by
    intro sh hm kV doc pm an cdv ct us ws l1 l2
    simp only [List.mem_cons, List.not_mem_nil, or_false] at hm
    rcases hm with rfl | rfl | rfl
    · match us, ws, l1, l2 with
      | [_, _], [_], _, _ => rfl
    · match us, ws, l1, l2 with
      | [_, _, _], [], _, _ => rfl
    · match us, ws, l1, l2 with
      | [_], [_, _], _, _ => rfl))
theorem ok23 (X : K.In h) (G : h.Ns mainGlobals mg) (c : He.SaysD fa fn K) : DefOk K mg tb pt 23 f23 :=
  defOk_of (d := d23) X G rfl rfl (c.fact 23 (f := .glo "commutator") rfl) (c.def_ 23 (d := d23) rfl) ⟨rfl, rfl, rfl, by decide +kernel, rfl, by decide +kernel, by decide +kernel⟩ (by decide +kernel) (fun _ _ => .nil) [⟨23, 3, [], [0, 1, 2]⟩, ⟨23, 0, ["y", "x", "space"], [2, 1, 0]⟩] (by decide +kernel) (fun a fd D => shapes0 D _ (by
    intro sh hm kV doc pm an cdv ct us ws l1 l2
    simp only [List.mem_cons, List.not_mem_nil, or_false] at hm
    rcases hm with rfl | rfl
    · match us, ws, l1, l2 with
      | [_, _, _], [], _, _ => rfl
    · match us, ws, l1, l2 with
      | [], [_, _, _], _, _ => rfl))
theorem ok24 (X : K.In h) (G : h.Ns mainGlobals mg) (c : He.SaysD fa fn K) : DefOk K mg tb pt 24 f24 :=
  defOk_of (d := d24) X G rfl rfl (c.fact 24 (f := .glo "turned") rfl) (c.def_ 24 (d := d24) rfl) ⟨rfl, rfl, rfl, by decide +kernel, rfl, by decide +kernel, by decide +kernel⟩ (by decide +kernel) (fun _ _ => .nil) [⟨24, 0, ["y", "x", "space"], [2, 1, 0]⟩, ⟨24, 3, [], [0, 1, 2]⟩] (by decide +kernel) (fun a fd D => shapes0 D _ (by
    intro sh hm kV doc pm an cdv ct us ws l1 l2
    simp only [List.mem_cons, List.not_mem_nil, or_false] at hm
    rcases hm with rfl | rfl
    · match us, ws, l1, l2 with
      | [], [_, _, _], _, _ => rfl
    · match us, ws, l1, l2 with
      | [_, _, _], [], _, _ => rfl))
theorem ok25 (X : K.In h) (G : h.Ns mainGlobals mg) (c : He.SaysD fa fn K) : DefOk K mg tb pt 25 f25 :=
  defOk_of (d := d25) X G rfl rfl (c.fact 25 (f := .glo "_law_begin") rfl) (c.def_ 25 (d := d25) rfl) ⟨rfl, rfl, rfl, by decide +kernel, rfl, by decide +kernel, by decide +kernel⟩ (by decide +kernel) (fun _ _ => .nil) [⟨25, 1, [], [0]⟩] (by decide +kernel) (fun a fd D => shapes0 D _ (by
    intro sh hm kV doc pm an cdv ct us ws l1 l2
    simp only [List.mem_cons, List.not_mem_nil, or_false] at hm
    rcases hm with rfl
    · match us, ws, l1, l2 with
      | [_], [], _, _ => rfl))
theorem ok26 (X : K.In h) (G : h.Ns mainGlobals mg) (c : He.SaysD fa fn K) : DefOk K mg tb pt 26 f26 :=
  defOk_of (d := d26) X G rfl rfl (c.fact 26 (f := .glo "_law_draw") rfl) (c.def_ 26 (d := d26) rfl) ⟨rfl, rfl, rfl, by decide +kernel, rfl, by decide +kernel, by decide +kernel⟩ (by decide +kernel) (fun _ _ => .nil) [⟨26, 2, [], [0, 1]⟩] (by decide +kernel) (fun a fd D => shapes0 D _ (by
    intro sh hm kV doc pm an cdv ct us ws l1 l2
    simp only [List.mem_cons, List.not_mem_nil, or_false] at hm
    rcases hm with rfl
    · match us, ws, l1, l2 with
      | [_, _], [], _, _ => rfl))
theorem ok27 (X : K.In h) (G : h.Ns mainGlobals mg) (c : He.SaysD fa fn K) : DefOk K mg tb pt 27 f27 :=
  defOk_of (d := d27) X G rfl rfl (c.fact 27 (f := .glo "_law_entry") rfl) (c.def_ 27 (d := d27) rfl) ⟨rfl, rfl, rfl, by decide +kernel, rfl, by decide +kernel, by decide +kernel⟩ (by decide +kernel) (fun _ _ => .nil) [⟨27, 2, [], [0, 1]⟩] (by decide +kernel) (fun a fd D => shapes0 D _ (by
    intro sh hm kV doc pm an cdv ct us ws l1 l2
    simp only [List.mem_cons, List.not_mem_nil, or_false] at hm
    rcases hm with rfl
    · match us, ws, l1, l2 with
      | [_, _], [], _, _ => rfl))
theorem ok28 (X : K.In h) (G : h.Ns mainGlobals mg) (c : He.SaysD fa fn K) : DefOk K mg tb pt 28 f28 :=
  defOk_of (d := d28) X G rfl rfl (c.fact 28 (f := .glo "_law_places") rfl) (c.def_ 28 (d := d28) rfl) ⟨rfl, rfl, rfl, by decide +kernel, rfl, by decide +kernel, by decide +kernel⟩ (by decide +kernel) (fun _ _ => .nil) [⟨28, 1, [], [0]⟩] (by decide +kernel) (fun a fd D => shapes0 D _ (by
    intro sh hm kV doc pm an cdv ct us ws l1 l2
    simp only [List.mem_cons, List.not_mem_nil, or_false] at hm
    rcases hm with rfl
    · match us, ws, l1, l2 with
      | [_], [], _, _ => rfl))
theorem ok29 (X : K.In h) (G : h.Ns mainGlobals mg) (c : He.SaysD fa fn K) : DefOk K mg tb pt 29 f29 :=
  defOk_of (d := d29) X G rfl rfl (c.fact 29 (f := .glo "_law_width") rfl) (c.def_ 29 (d := d29) rfl) ⟨rfl, rfl, rfl, by decide +kernel, rfl, by decide +kernel, by decide +kernel⟩ (by decide +kernel) (fun _ _ => .nil) [⟨29, 1, [], [0]⟩] (by decide +kernel) (fun a fd D => shapes0 D _ (by
    intro sh hm kV doc pm an cdv ct us ws l1 l2
    simp only [List.mem_cons, List.not_mem_nil, or_false] at hm
    rcases hm with rfl
    · match us, ws, l1, l2 with
      | [_], [], _, _ => rfl))
theorem ok30 (X : K.In h) (G : h.Ns mainGlobals mg) (c : He.SaysD fa fn K) : DefOk K mg tb pt 30 f30 :=
  defOk_of (d := d30) X G rfl rfl (c.fact 30 (f := .glo "_law_matrices") rfl) (c.def_ 30 (d := d30) rfl) ⟨rfl, rfl, rfl, by decide +kernel, rfl, by decide +kernel, by decide +kernel⟩ (by decide +kernel) (fun _ _ => .nil) [⟨30, 2, [], [0, 1]⟩] (by decide +kernel) (fun a fd D => shapes0 D _ (by
    intro sh hm kV doc pm an cdv ct us ws l1 l2
    simp only [List.mem_cons, List.not_mem_nil, or_false] at hm
    rcases hm with rfl
    · match us, ws, l1, l2 with
      | [_, _], [], _, _ => rfl))
theorem ok31 (X : K.In h) (G : h.Ns mainGlobals mg) (c : He.SaysD fa fn K) : DefOk K mg tb pt 31 f31 :=
  defOk_of (d := d31) X G rfl rfl (c.fact 31 (f := .glo "_law_times") rfl) (c.def_ 31 (d := d31) rfl) ⟨rfl, rfl, rfl, by decide +kernel, rfl, by decide +kernel, by decide +kernel⟩ (by decide +kernel) (fun _ _ => .nil) [⟨31, 2, [], [0, 1]⟩] (by decide +kernel) (fun a fd D => shapes0 D _ (by
    intro sh hm kV doc pm an cdv ct us ws l1 l2
    simp only [List.mem_cons, List.not_mem_nil, or_false] at hm
    rcases hm with rfl
    · match us, ws, l1, l2 with
      | [_, _], [], _, _ => rfl))
theorem ok32 (X : K.In h) (G : h.Ns mainGlobals mg) (c : He.SaysD fa fn K) : DefOk K mg tb pt 32 f32 :=
  defOk_of (d := d32) X G rfl rfl (c.fact 32 (f := .glo "_law_entries") rfl) (c.def_ 32 (d := d32) rfl) ⟨rfl, rfl, rfl, by decide +kernel, rfl, by decide +kernel, by decide +kernel⟩ (by decide +kernel) (fun _ _ => .nil) [⟨32, 2, [], [0, 1]⟩] (by decide +kernel) (fun a fd D => shapes0 D _ (by
    intro sh hm kV doc pm an cdv ct us ws l1 l2
    simp only [List.mem_cons, List.not_mem_nil, or_false] at hm
    rcases hm with rfl
    · match us, ws, l1, l2 with
      | [_, _], [], _, _ => rfl))
theorem ok33 (X : K.In h) (G : h.Ns mainGlobals mg) (c : He.SaysD fa fn K) : DefOk K mg tb pt 33 f33 :=
  defOk_of (d := d33) X G rfl rfl (c.fact 33 (f := .glo "_law_product") rfl) (c.def_ 33 (d := d33) rfl) ⟨rfl, rfl, rfl, by decide +kernel, rfl, by decide +kernel, by decide +kernel⟩ (by decide +kernel) (fun _ _ => .nil) [⟨33, 3, [], [0, 1, 2]⟩] (by decide +kernel) (fun a fd D => shapes0 D _ (by
    intro sh hm kV doc pm an cdv ct us ws l1 l2
    simp only [List.mem_cons, List.not_mem_nil, or_false] at hm
    rcases hm with rfl
    · match us, ws, l1, l2 with
      | [_, _, _], [], _, _ => rfl))
theorem ok34 (X : K.In h) (G : h.Ns mainGlobals mg) (c : He.SaysD fa fn K) : DefOk K mg tb pt 34 f34 :=
  defOk_of (d := d34) X G rfl rfl (c.fact 34 (f := .glo "_law_inverse") rfl) (c.def_ 34 (d := d34) rfl) ⟨rfl, rfl, rfl, by decide +kernel, rfl, by decide +kernel, by decide +kernel⟩ (by decide +kernel) (fun _ _ => .nil) [⟨34, 2, [], [0, 1]⟩] (by decide +kernel) (fun a fd D => shapes0 D _ (by
    intro sh hm kV doc pm an cdv ct us ws l1 l2
    simp only [List.mem_cons, List.not_mem_nil, or_false] at hm
    rcases hm with rfl
    · match us, ws, l1, l2 with
      | [_, _], [], _, _ => rfl))
theorem ok35 (X : K.In h) (G : h.Ns mainGlobals mg) (c : He.SaysD fa fn K) : DefOk K mg tb pt 35 f35 :=
  defOk_of (d := d35) X G rfl rfl (c.fact 35 (f := .glo "_law_power") rfl) (c.def_ 35 (d := d35) rfl) ⟨rfl, rfl, rfl, by decide +kernel, rfl, by decide +kernel, by decide +kernel⟩ (by decide +kernel) (fun _ _ => .nil) [⟨35, 3, [], [0, 1, 2]⟩] (by decide +kernel) (fun a fd D => shapes0 D _ (by
    intro sh hm kV doc pm an cdv ct us ws l1 l2
    simp only [List.mem_cons, List.not_mem_nil, or_false] at hm
    rcases hm with rfl
    · match us, ws, l1, l2 with
      | [_, _, _], [], _, _ => rfl))
theorem ok36 (X : K.In h) (G : h.Ns mainGlobals mg) (c : He.SaysD fa fn K) : DefOk K mg tb pt 36 f36 :=
  defOk_of (d := d36) X G rfl rfl (c.fact 36 (f := .glo "_law_space") rfl) (c.def_ 36 (d := d36) rfl) ⟨rfl, rfl, rfl, by decide +kernel, rfl, by decide +kernel, by decide +kernel⟩ (by decide +kernel) (fun _ _ => .nil) [⟨36, 1, [], [0]⟩] (by decide +kernel) (fun a fd D => shapes0 D _ (by
    intro sh hm kV doc pm an cdv ct us ws l1 l2
    simp only [List.mem_cons, List.not_mem_nil, or_false] at hm
    rcases hm with rfl
    · match us, ws, l1, l2 with
      | [_], [], _, _ => rfl))
theorem ok37 (X : K.In h) (G : h.Ns mainGlobals mg) (c : He.SaysD fa fn K) : DefOk K mg tb pt 37 f37 :=
  defOk_of (d := d37) X G rfl rfl (c.fact 37 (f := .glo "_law_element") rfl) (c.def_ 37 (d := d37) rfl) ⟨rfl, rfl, rfl, by decide +kernel, rfl, by decide +kernel, by decide +kernel⟩ (by decide +kernel) (fun _ _ => .nil) [⟨37, 2, [], [0, 1]⟩] (by decide +kernel) (fun a fd D => shapes0 D _ (by
    intro sh hm kV doc pm an cdv ct us ws l1 l2
    simp only [List.mem_cons, List.not_mem_nil, or_false] at hm
    rcases hm with rfl
    · match us, ws, l1, l2 with
      | [_, _], [], _, _ => rfl))
theorem ok38 (X : K.In h) (G : h.Ns mainGlobals mg) (c : He.SaysD fa fn K) : DefOk K mg tb pt 38 f38 :=
  defOk_of (d := d38) X G rfl rfl (c.fact 38 (f := .glo "law") rfl) (c.def_ 38 (d := d38) rfl) ⟨rfl, rfl, rfl, by decide +kernel, rfl, by decide +kernel, by decide +kernel⟩ (by decide +kernel) (fun _ _ => .nil) [] (by decide +kernel) (fun a fd D => shapes0 D _ (fun sh hm => by cases hm))
theorem all (w : World) (X : K.In h) (G : h.Ns mainGlobals mg) (c : He.SaysX fa fn [] [] ex w h K) : AllD K mg tb pt 0 funs := .cons (ok0 X G c.t.d) (.cons (ok1 X G c.t.d) (.cons (ok2 X G c.t.d) (.cons (ok3 X G c.t.d) (.cons (ok4 X G c.t.d) (.cons (ok5 X G c.t.d) (.cons (ok6 X G c.t.d) (.cons (ok7 X G c.t.d) (.cons (ok8 X G c.t.d) (.cons (ok9 X G c.t.d) (.cons (ok10 X G c.t.d) (.cons (ok11 X G c.t.d) (.cons (ok12 X G c.t.d) (.cons (ok13 X G c.t.d) (.cons (ok14 X G c.t.d) (.cons (ok15 X G c.t.d) (.cons (ok16 X G c.t.d) (.cons (ok17 X G c.t.d) (.cons (ok18 X G c.t.d) (.cons (ok19 X G c.t.d) (.cons (ok20 X G c.t.d) (.cons (ok21 X G c.t.d) (.cons (ok22 X G c.t.d) (.cons (ok23 X G c.t.d) (.cons (ok24 X G c.t.d) (.cons (ok25 X G c.t.d) (.cons (ok26 X G c.t.d) (.cons (ok27 X G c.t.d) (.cons (ok28 X G c.t.d) (.cons (ok29 X G c.t.d) (.cons (ok30 X G c.t.d) (.cons (ok31 X G c.t.d) (.cons (ok32 X G c.t.d) (.cons (ok33 X G c.t.d) (.cons (ok34 X G c.t.d) (.cons (ok35 X G c.t.d) (.cons (ok36 X G c.t.d) (.cons (ok37 X G c.t.d) (.cons (ok38 X G c.t.d) (.nil)))))))))))))))))))))))))))))))))))))))
theorem pr_ok (w : World) (X : K.In h) (G : h.Ns mainGlobals mg) (c : He.SaysX fa fn [] [] ex w h K) : PrOk K mg tb pt := by
  refine ⟨rfl, ?_, ?_, ?_⟩
  · intro x hx
    have hx' : x ∈ freeN := by simpa [pt] using hx
    have hm : He.Fa.free x ∈ fa := by
      have all : ∀ y ∈ freeN, (He.Fa.free y) ∈ fa := by
        intro y hy
        simp only [freeN, List.mem_cons, List.not_mem_nil, or_false] at hy
        rcases hy with rfl | rfl | rfl | rfl | rfl | rfl | rfl | rfl | rfl | rfl | rfl | rfl | rfl | rfl <;> simp [fa]
      exact all x hx'
    exact He.free_ok X G (c.t.d.facts hm)
  · intro x v hx hv
    have hx' : x ∈ globN := by simpa [pt] using hx
    have e := List.all_eq_true.mp c.more x hx'
    have hv' : globV x = some v := hv
    rw [hv'] at e
    exact gs_ok X G e
  · intro f F hF
    have q := (all w X G c).get f F hF
    rwa [Nat.zero_add] at q
end
end K00
end

section
set_option Elab.async false
set_option linter.all false
set_option maxRecDepth 100000
set_option autoImplicit false
/-! The simple interpreter, run by rewriting. -/
namespace Ws
open PySem
abbrev iv (X : List Int) : List SV := X.map SV.int

section
variable {p : Pr} {env : SE} {h : SH}
@[simp] theorem look_zero {v : SV} : look (some v :: env) 0 = some v := rfl
@[simp] theorem look_succ {o : Option SV} {n : Nat} : look (o :: env) (n + 1) = look env n := by
  unfold look
  rw [List.getElem?_cons_succ]
@[simp] theorem binop_add {i j : Int} : binop .add (.int i) (.int j) = some (.int (i + j)) := rfl
@[simp] theorem binop_sub {i j : Int} : binop .sub (.int i) (.int j) = some (.int (i - j)) := rfl
theorem binop_mul {i j : Int} (h : mulFits i j = true) : binop .mul (.int i) (.int j) = some (.int (i * j)) := if_pos h
theorem binop_fdiv {i j : Int} (h : divFits j = true) : binop .fdiv (.int i) (.int j) = some (.int (i.fdiv j)) := if_pos h
theorem binop_mod {i j : Int} (h : j ≠ 0) : binop .mod (.int i) (.int j) = some (.int (i.fmod j)) := if_pos (decide_eq_true h)
@[simp] theorem itemV_tup {xs : List SV} {k : Int} : itemV (.tup xs) (.int k) h = itemAt xs k := rfl
@[simp] theorem itemV_lst {xs : List SV} {k : Int} : itemV (.lst xs) (.int k) h = itemAt xs k := rfl
theorem itemV_ref {n : Nat} {xs : List SV} {k : Int} (e : h[n]? = some (.lst xs)) : itemV (.ref n) (.int k) h = itemAt xs k := by
  simp only [itemV, e]
@[simp] theorem cmp_lt {i j : Int} : cmpop h .lt (.int i) (.int j) = some (decide (i < j)) := rfl
@[simp] theorem cmp_le {i j : Int} : cmpop h .le (.int i) (.int j) = some (decide (i ≤ j)) := rfl
@[simp] theorem cmp_gt {i j : Int} : cmpop h .gt (.int i) (.int j) = some (decide (j < i)) := rfl
@[simp] theorem cmp_ge {i j : Int} : cmpop h .ge (.int i) (.int j) = some (decide (j ≤ i)) := rfl
@[simp] theorem cmp_eq_int {i j : Int} : cmpop h .eq (.int i) (.int j) = some (i == j) := by
  simp [cmpop, SV.fit, veq, SV.pd, PyData.eqv]
@[simp] theorem asInt_int {i : Int} : asInt (.int i) = some i := rfl
@[simp] theorem wipe_nil : wipeE env [] = env := rfl
@[simp] theorem wipe_cons {i : Nat} {ks : List Nat} : wipeE env (i :: ks) = (wipeE env ks).set i none := rfl
@[simp] theorem store_name {i : Nat} {v : SV} : store (.name i) v env = some (env.set i (some v)) := rfl
@[simp] theorem store_pair {a b : CT} {x y : SV} : store (.pair a b) (.tup [x, y]) env = (store a x env).bind (store b y) := rfl
@[simp] theorem bi_len_tup {xs : List SV} : builtin h .len [.tup xs] = some (.int (xs.length : Nat)) := rfl
@[simp] theorem bi_len_lst {xs : List SV} : builtin h .len [.lst xs] = some (.int (xs.length : Nat)) := rfl
@[simp] theorem bi_tup_tup {xs : List SV} : builtin h .tuple [.tup xs] = some (.tup xs) := rfl
@[simp] theorem bi_tup_lst {xs : List SV} : builtin h .tuple [.lst xs] = some (.tup xs) := rfl
@[simp] theorem bi_len_ref {xs : List SV} {r : SH} : builtin (.lst xs :: r) .len [.ref 0] = some (.int (xs.length : Nat)) := rfl
@[simp] theorem bi_tup_ref {xs : List SV} {r : SH} : builtin (.lst xs :: r) .tuple [.ref 0] = some (.tup xs) := rfl
@[simp] theorem bi_abs {i : Int} : builtin h .abs [.int i] = some (.int (if i < 0 then -i else i)) := rfl
@[simp] theorem bi_int {i : Int} : builtin h .int [.int i] = some (.int i) := rfl
@[simp] theorem bi_min {i j : Int} : builtin h .min2 [.int i, .int j] = some (.int (if j < i then j else i)) := rfl
@[simp] theorem isL_ref {n : Nat} {xs : List SV} {r : SH} : isL (.lst xs :: r) (.ref 0) = true := rfl
@[simp] theorem append_at {xs ys : List SV} {r : SH} (hl : xs.length + ys.length ≤ seqLen) : appH (.ref 0) ys (.lst xs :: r) = some (.lst (xs ++ ys) :: r) := by
  simp [appH, hl]
end

/-- a loop's turn -/
def turn (p : Pr) (t : CT) (body : CSs) : SV → SE → SH → Out := fun x env h => match store t x env with
  | some env2 => evSs p body env2 h
  | none => .bad
theorem turn_eq {p : Pr} {t : CT} {body : CSs} {x : SV} {env env2 : SE} {h : SH} (e : store t x env = some env2) : turn p t body x env h = evSs p body env2 h := by
  unfold turn
  rw [e]
section
variable {p : Pr} {env env1 : SE} {h h1 : SH} {v : SV}
theorem nx_ {s : CS} {r : CSs} (e : evS p s env h = .nx env1 h1) : evSs p (.cons s r) env h = evSs p r env1 h1 := by
  rw [evSs, e]
theorem rt_ {s : CS} {r : CSs} (e : evS p s env h = .rt v h1) : evSs p (.cons s r) env h = .rt v h1 := by
  rw [evSs, e]
theorem loop_ {t : CT} {it : CI} {body : CSs} {kill : List Nat} {xs : List SV} {o : Out} (e : evi p it env h = .ok xs h1) (l : loopF kill (turn p t body) xs env h1 = o) : evS p (.loop t it body kill) env h = o := by
  rw [evS, e]
  exact l
theorem set_ {i : Nat} {e : CE} (q : ev p e env h = .ok v h1) : evS p (.set (.name i) e) env h = .nx (env.set i (some v)) h1 := by
  rw [evS, q]
  rfl
theorem ret_ {e : CE} (q : ev p e env h = .ok v h1) : evS p (.ret e) env h = .rt v h1 := by
  rw [evS, q]
  rfl
theorem append_ {o e : CE} {xs ys : List SV} {r r2 : SH} (q : ev p o env h = .ok (.ref 0) (.lst xs :: r)) (q2 : ev p e env (.lst xs :: r) = .ok v (.lst ys :: r2)) (hl : ys.length + 1 ≤ seqLen) : evS p (.append o e) env h = .nx env (.lst (ys ++ [v]) :: r2) := by
  rw [evS, q]
  show Out.of env (ev p e env (.lst xs :: r)) _ = _
  rw [q2]
  show (match appH (.ref 0) [v] (.lst ys :: r2) with
    | some h2 => Out.nx env h2
    | none => .bad) = _
  rw [append_at (by simpa using hl)]
/-- a test that holds, that fails -/
theorem if_t {t : CE} {a b : CSs} (q : evT p t env h = .ok true h1) : evS p (.cond t a b) env h = evSs p a env h1 := by
  rw [evS, q]
  rfl
theorem if_f {t : CE} {a b : CSs} (q : evT p t env h = .ok false h1) : evS p (.cond t a b) env h = evSs p b env h1 := by
  rw [evS, q]
  rfl
theorem comp_ {c : Bool} {elt : CE} {t : CT} {it : CI} {own : List Nat} {xs : List SV} (g : SV → SV) (e : evi p it env h = .ok xs h1) (b : ∀ x ∈ xs, ∃ env2, store t x (wipeE env own) = some env2 ∧ ev p elt env2 h1 = .ok (g x) h1) :
    ev p (.comp c elt t it own) env h = mkL c (xs.map g) h1 := by
  rw [ev, e]
  simp only [Res.bind_ok]
  have go : ∀ ys : List SV, (∀ x ∈ ys, ∃ env2, store t x (wipeE env own) = some env2 ∧ ev p elt env2 h1 = .ok (g x) h1) → compF (fun x h => match store t x (wipeE env own) with
    | none => .bad
    | some env2 => (ev p elt env2 h).bind fun y h => .ok (some y) h) ys h1 = .ok (ys.map g) h1 := by
    intro ys
    induction ys with
    | nil => intro _; rfl
    | cons y ys ih =>
      intro hy
      obtain ⟨env2, e1, e2⟩ := hy y List.mem_cons_self
      rw [compF, e1]
      simp only [e2, Res.bind_ok]
      rw [ih fun x hx => hy x (List.mem_cons_of_mem _ hx)]
      rfl
  exact congrArg (fun r => Res.bind r fun r h => mkL c r h) (go xs b)
theorem mkL_val {xs : List SV} (hl : xs.length ≤ seqLen) : mkL false xs h = .ok (.lst xs) h := by
  unfold mkL
  rw [if_pos (decide_eq_true hl)]
  rfl
theorem mkL_cell {xs : List SV} (hl : xs.length ≤ seqLen) : mkL true xs h = .ok (.ref h.length) (h ++ [.lst xs]) := by
  unfold mkL
  rw [if_pos (decide_eq_true hl)]
  rfl
end
/-- one turn of a loop -/
theorem loop_nx {kill : List Nat} {body : SV → SE → SH → Out} {x : SV} {xs : List SV} {env env1 : SE} {h h1 : SH} (e : body x env h = .nx env1 h1) : loopF kill body (x :: xs) env h = loopF kill body xs (wipeE env1 kill) h1 := by
  rw [loopF, e]
theorem loop_end {kill : List Nat} {body : SV → SE → SH → Out} {env : SE} {h : SH} : loopF kill body [] env h = .nx env h := rfl

def gi (X : List Int) (i : Int) : Int := X.getD i.toNat 0
theorem at_iv {X : List Int} {i : Int} (h0 : 0 ≤ i) (h1 : i < X.length) : itemAt (iv X) i = some (.int (gi X i)) := by
  unfold itemAt L2.atI L2.ixN gi
  rw [List.length_map, if_pos h0, if_pos h1]
  have hl : i.toNat < X.length := by omega
  simp [hl]

/-! ### calls -/
theorem call_ {T : Tb} {d f : Nat} {F : FT} {xs : List SV} {h h1 : SH} {v w : SV} (hF : T.funs[f]? = some F) (hp : F.pure = true) (hx : dryL xs = true) (hl : xs.length = F.ps.length) (e : evSs (prOf T d) F.body (startE F xs) [] = .rt v h1) (q : finish F [] v h1 = .ok w []) : callF T (d + 1) f xs h = .ok w h := by
  rw [callF, hF]
  simp only
  rw [if_pos hp, if_pos hx]
  show dryRun (runF (prOf T d) F xs []) h = _
  have r : runF (prOf T d) F xs [] = .ok w [] := by
    unfold runF
    rw [if_pos (decide_eq_true hl), e]
    exact q
  rw [r]
  rfl
mutual
def SV.deep : Nat → SV → Bool
  | _, .non => true
  | _, .bl _ => true
  | _, .int _ => true
  | _, .str _ => true
  | n + 1, .tup xs => deepL n xs
  | n + 1, .lst xs => deepL n xs
  | _, _ => false
def deepL : Nat → List SV → Bool
  | _, [] => true
  | n, x :: xs => SV.deep n x && deepL n xs
end
mutual
theorem freeze_deep {n : Nat} {h : SH} : ∀ (k : Nat) (v : SV), v.deep k = true → freeze n h k v = some v
  | 0, .non, _ => rfl
  | 0, .bl _, _ => rfl
  | 0, .int _, _ => rfl
  | 0, .str _, _ => rfl
  | 0, .tup _, e => by simp [SV.deep] at e
  | 0, .lst _, e => by simp [SV.deep] at e
  | 0, .dct _, e => by simp [SV.deep] at e
  | 0, .ref _, e => by simp [SV.deep] at e
  | k + 1, .non, _ => rfl
  | k + 1, .bl _, _ => rfl
  | k + 1, .int _, _ => rfl
  | k + 1, .str _, _ => rfl
  | k + 1, .tup xs, e => by
    simp only [freeze]
    rw [freezeL_deep k xs (by simpa [SV.deep] using e)]
    rfl
  | k + 1, .lst xs, e => by
    simp only [freeze]
    rw [freezeL_deep k xs (by simpa [SV.deep] using e)]
    rfl
  | k + 1, .dct _, e => by simp [SV.deep] at e
  | k + 1, .ref _, e => by simp [SV.deep] at e
theorem freezeL_deep {n : Nat} {h : SH} : ∀ (k : Nat) (xs : List SV), deepL k xs = true → freezeL (freeze n h k) xs = some xs
  | _, [], _ => rfl
  | k, x :: xs, e => by
    simp only [deepL, Bool.and_eq_true] at e
    simp only [freezeL]
    rw [freeze_deep k x e.1, freezeL_deep k xs e.2]
end
theorem fin_val {F : FT} {v : SV} {h1 : SH} (hk : F.keep = false) (hd : v.deep 12 = true) : finish F [] v h1 = .ok v [] := by
  unfold finish
  rw [hk, if_neg (by decide), List.length_nil, freeze_deep 12 v hd]
  simp
theorem deep_iv {k : Nat} : ∀ X : List Int, deepL k (iv X) = true
  | [] => by cases k <;> rfl
  | x :: X => by
    show (SV.deep k (.int x) && deepL k (iv X)) = true
    rw [deep_iv X]
    cases k <;> rfl
@[simp] theorem deep_tup_iv {X : List Int} : (SV.tup (iv X)).deep 12 = true := deep_iv X
theorem dry_iv : ∀ X : List Int, dryL (iv X) = true
  | [] => rfl
  | x :: X => by
    show (SV.dry (.int x) && dryL (iv X)) = true
    rw [dry_iv X]
    rfl
@[simp] theorem dry_tup_iv {X : List Int} : (SV.tup (iv X)).dry = true := by
  unfold SV.dry
  exact dry_iv X
end Ws
end

section
set_option Elab.async false
set_option linter.all false
set_option maxRecDepth 100000
set_option maxHeartbeats 0
set_option autoImplicit false
namespace K00
open PySem Ws
abbrev prs (ps : List (Int × Int)) : List SV := ps.map fun p => SV.tup [.int p.1, .int p.2]
/-- the products of pairs, from start on -/
def dotP (X Y : List Int) (st : Int) : List (Int × Int) → Int → Int
  | [], t => t
  | p :: ps, t => dotP X Y st ps (t + gi X (st + p.1) * gi Y (st + p.2))
/-- a pair that is in place -/
def PairOk (X Y : List Int) (st : Int) (p : Int × Int) : Prop := (0 ≤ st + p.1 ∧ st + p.1 < X.length) ∧ (0 ≤ st + p.2 ∧ st + p.2 < Y.length) ∧ mulFits (gi X (st + p.1)) (gi Y (st + p.2)) = true
theorem dot_loop {p : Pr} {X Y : List Int} {sp st a b c : SV} {s : Int} {h : SH} : ∀ (ps : List (Int × Int)) (t : Int), (∀ q ∈ ps, PairOk X Y s q) →
    loopF [9, 10] (turn p (.pair (.name 9) (.name 10)) b13l0) (prs ps) [some sp, some (.tup (iv X)), some (.tup (iv Y)), some st, some (.int s), some a, some b, some c, some (.int t), none, none] h =
      .nx [some sp, some (.tup (iv X)), some (.tup (iv Y)), some st, some (.int s), some a, some b, some c, some (.int (dotP X Y s ps t)), none, none] h
  | [], t, _ => rfl
  | q :: ps, t, hq => by
    obtain ⟨⟨h1, h2⟩, ⟨h3, h4⟩, h5⟩ := hq q List.mem_cons_self
    have ih := dot_loop (p := p) (sp := sp) (st := st) (a := a) (b := b) (c := c) (h := h) ps (t + gi X (s + q.1) * gi Y (s + q.2)) fun r hr => hq r (List.mem_cons_of_mem _ hr)
    have one : turn p (.pair (.name 9) (.name 10)) b13l0 (.tup [.int q.1, .int q.2]) [some sp, some (.tup (iv X)), some (.tup (iv Y)), some st, some (.int s), some a, some b, some c, some (.int t), none, none] h =
        .nx [some sp, some (.tup (iv X)), some (.tup (iv Y)), some st, some (.int s), some a, some b, some c, some (.int (t + gi X (s + q.1) * gi Y (s + q.2))), some (.int q.1), some (.int q.2)] h := by
      simp [turn, b13l0, evSs, evS, ev, at_iv h1 h2, at_iv h3 h4, binop_mul h5]
    show loopF [9, 10] _ (SV.tup [.int q.1, .int q.2] :: prs ps) _ h = _
    rw [loop_nx one]
    simpa [dotP] using ih
def tbl (n : Int) : List (List (Int × Int)) :=
  if n = 2 then [[]] else if n = 3 then [[], [], [(0, 1)]] else if n = 4 then [[], [], [], [(0, 1)], [(1, 2)], [(0, 4), (3, 2)]] else
    [[], [], [], [], [(0, 1)], [(1, 2)], [(2, 3)], [(0, 5), (4, 2)], [(1, 6), (5, 3)], [(0, 8), (4, 6), (7, 3)]]
def tv (t : List (List (Int × Int))) : List SV := t.map fun ps => .tup (prs ps)
def Size (n : Int) : Prop := n = 2 ∨ n = 3 ∨ n = 4 ∨ n = 5
theorem summands {n : Int} (hn : Size n) {v : SV} (hv : globV "SUMMANDS" = some v) {h : SH} : itemV v (.int n) h = some (.tup (tv (tbl n))) := by
  have hv' := hv
  rcases hn with rfl | rfl | rfl | rfl <;> cases hv <;> rfl
def blockP (X Y : List Int) (s : Int) : Int → List (List (Int × Int)) → List Int
  | _, [] => []
  | k, ps :: t => dotP X Y s ps (gi X (s + k) + gi Y (s + k)) :: blockP X Y s (k + 1) t
def prodF (X Y : List Int) : Int → List Int → List Int
  | _, [] => []
  | s, n :: r => blockP X Y s 0 (tbl n) ++ prodF X Y (s + (tbl n).length) r
/-- the pairs of a block are in place -/
def BlockOk (X Y : List Int) (s : Int) (t : List (List (Int × Int))) : Prop := ∀ ps ∈ t, ∀ q ∈ ps, PairOk X Y s q
theorem mid_loop {p : Pr} {X Y : List Int} {sp a : SV} {s : Int} {r : SH} : ∀ (t : List (List (Int × Int))) (k : Nat) (es : List Int), BlockOk X Y s t → 0 ≤ s → s + k + t.length ≤ X.length → s + k + t.length ≤ Y.length → es.length + t.length ≤ 1000 →
    loopF [6, 7, 8, 9, 10] (turn p (.pair (.name 6) (.name 7)) b13l1) (enumOf k (tv t)) [some sp, some (.tup (iv X)), some (.tup (iv Y)), some (.ref 0), some (.int s), some a, none, none, none, none, none] (.lst (iv es) :: r) =
      .nx [some sp, some (.tup (iv X)), some (.tup (iv Y)), some (.ref 0), some (.int s), some a, none, none, none, none, none] (.lst (iv (es ++ blockP X Y s k t)) :: r)
  | [], k, es, _, _, _, _, _ => by
    simp [tv, enumOf, loopF, blockP]
  | ps :: t, k, es, ok, h0, hx, hy, hl => by
    simp only [List.length_cons] at hx hy hl
    have ih := mid_loop (p := p) (sp := sp) (a := a) (r := r) t (k + 1) (es ++ [dotP X Y s ps (gi X (s + k) + gi Y (s + k))]) (fun q hq => ok q (List.mem_cons_of_mem _ hq)) h0 (by push_cast; omega) (by push_cast; omega) (by simp; omega)
    have hk : 0 ≤ s + (k : Int) := by omega
    have one : turn p (.pair (.name 6) (.name 7)) b13l1 (.tup [.int (k : Nat), .tup (prs ps)]) [some sp, some (.tup (iv X)), some (.tup (iv Y)), some (.ref 0), some (.int s), some a, none, none, none, none, none] (.lst (iv es) :: r) =
        .nx [some sp, some (.tup (iv X)), some (.tup (iv Y)), some (.ref 0), some (.int s), some a, some (.int (k : Nat)), some (.tup (prs ps)), some (.int (dotP X Y s ps (gi X (s + k) + gi Y (s + k)))), none, none] (.lst (iv (es ++ [dotP X Y s ps (gi X (s + k) + gi Y (s + k))])) :: r) := by
      have lp := dot_loop (p := p) (X := X) (Y := Y) (sp := sp) (st := .ref 0) (a := a) (b := .int (k : Nat)) (c := .tup (prs ps)) (s := s) (h := .lst (iv es) :: r) ps (gi X (s + k) + gi Y (s + k)) (ok ps List.mem_cons_self)
      have hl2 : (iv es).length + [SV.int (dotP X Y s ps (gi X (s + k) + gi Y (s + k)))].length ≤ seqLen := by
        simp only [List.length_map, List.length_cons, List.length_nil]
        have : seqLen = 16777216 := rfl
        omega
      have x1 := at_iv hk (show s + (k : Int) < X.length by omega)
      have y1 := at_iv hk (show s + (k : Int) < Y.length by omega)
      rw [turn_eq (env2 := [some sp, some (.tup (iv X)), some (.tup (iv Y)), some (.ref 0), some (.int s), some a, some (.int (k : Nat)), some (.tup (prs ps)), none, none, none]) (by simp)]
      unfold b13l1
      rw [nx_ (set_ (v := .int (gi X (s + k) + gi Y (s + k))) (h1 := .lst (iv es) :: r) (by simp [ev, x1, y1]))]
      rw [nx_ (loop_ (xs := prs ps) (h1 := .lst (iv es) :: r) (by simp [evi, ev]) (by simpa using lp))]
      simp [evSs, evS, ev, append_at hl2]
    show loopF [6, 7, 8, 9, 10] (turn p (.pair (.name 6) (.name 7)) b13l1) (.tup [.int (k : Nat), .tup (prs ps)] :: enumOf (k + 1) (tv t)) _ _ = _
    rw [loop_nx one]
    have e : es ++ blockP X Y s k (ps :: t) = (es ++ [dotP X Y s ps (gi X (s + k) + gi Y (s + k))]) ++ blockP X Y s ((k + 1 : Nat) : Int) t := by
      simp [blockP]
    rw [e]
    simpa using ih
/-- every block is in place -/
def SpOk (X Y : List Int) : Int → List Int → Prop
  | _, [] => True
  | s, n :: r => Size n ∧ BlockOk X Y s (tbl n) ∧ s + (tbl n).length ≤ X.length ∧ s + (tbl n).length ≤ Y.length ∧ SpOk X Y (s + (tbl n).length) r
def endF : Int → List Int → Int
  | s, [] => s
  | s, n :: r => endF (s + (tbl n).length) r
theorem size_len {n : Int} (h : Size n) : (tbl n).length ≤ 10 := by
  rcases h with rfl | rfl | rfl | rfl <;> decide
theorem blockP_len {X Y : List Int} {s : Int} : ∀ (t : List (List (Int × Int))) (k : Int), (blockP X Y s k t).length = t.length
  | [], _ => rfl
  | _ :: t, k => congrArg Nat.succ (blockP_len t (k + 1))
def sumV : SV := (globV "SUMMANDS").getD .non
theorem sumV_eq : globV "SUMMANDS" = some sumV := rfl
theorem sum_ev {d : Nat} {env : SE} {h : SH} : ev (prOf tb d) (.glob "SUMMANDS") env h = .ok sumV h := rfl
theorem glob_sum {d : Nat} : (prOf tb d).glob ("SUMMANDS" : Str) = some sumV := rfl
theorem tv_len (t : List (List (Int × Int))) : (tv t).length = t.length := by simp [tv]
theorem out_loop {d : Nat} {X Y : List Int} {sp : SV} {r : SH} : ∀ (ns : List Int) (s : Int) (es : List Int), SpOk X Y s ns → 0 ≤ s → es.length + 10 * ns.length ≤ 900 →
    loopF [5, 6, 7, 8, 9, 10] (turn (prOf tb d) (.name 5) b13l2) (iv ns) [some sp, some (.tup (iv X)), some (.tup (iv Y)), some (.ref 0), some (.int s), none, none, none, none, none, none] (.lst (iv es) :: r) =
      .nx [some sp, some (.tup (iv X)), some (.tup (iv Y)), some (.ref 0), some (.int (endF s ns)), none, none, none, none, none, none] (.lst (iv (es ++ prodF X Y s ns)) :: r)
  | [], s, es, _, _, _ => by simp [loopF, prodF, endF]
  | n :: ns, s, es, ok, h0, hl => by
    obtain ⟨sz, bo, hx, hy, rest⟩ := ok
    have ln := size_len sz
    simp only [List.length_cons] at hl
    have ih := out_loop (d := d) (sp := sp) (r := r) ns (s + (tbl n).length) (es ++ blockP X Y s 0 (tbl n)) rest (by omega) (by rw [List.length_append, blockP_len]; omega)
    have it := fun h => summands sz sumV_eq (h := h)
    have lp := mid_loop (p := prOf tb d) (X := X) (Y := Y) (sp := sp) (a := .int n) (s := s) (r := r) (tbl n) 0 es bo h0 (by simpa using hx) (by simpa using hy) (by omega)
    have one : turn (prOf tb d) (.name 5) b13l2 (.int n) [some sp, some (.tup (iv X)), some (.tup (iv Y)), some (.ref 0), some (.int s), none, none, none, none, none, none] (.lst (iv es) :: r) =
        .nx [some sp, some (.tup (iv X)), some (.tup (iv Y)), some (.ref 0), some (.int (s + (tbl n).length)), some (.int n), none, none, none, none, none] (.lst (iv (es ++ blockP X Y s 0 (tbl n))) :: r) := by
      rw [turn_eq (env2 := [some sp, some (.tup (iv X)), some (.tup (iv Y)), some (.ref 0), some (.int s), some (.int n), none, none, none, none, none]) (by simp)]
      unfold b13l2
      rw [nx_ (loop_ (xs := enumOf 0 (tv (tbl n))) (h1 := .lst (iv es) :: r) (by simp [evi, ev, glob_sum, it]) (by simpa using lp))]
      simp [evSs, evS, ev, evs, glob_sum, it, tv_len]
    show loopF _ _ (SV.int n :: iv ns) _ _ = _
    rw [loop_nx one]
    have e : es ++ prodF X Y s (n :: ns) = (es ++ blockP X Y s 0 (tbl n)) ++ prodF X Y (s + (tbl n).length) ns := by simp [prodF]
    rw [e]
    simpa [endF] using ih
/-- product_in -/
theorem product_in {d : Nat} {hh : SH} {X Y ns : List Int} (ok : SpOk X Y 0 ns) (hl : ns.length ≤ 3) : callF tb (d + 1) 13 [.tup (iv ns), .tup (iv X), .tup (iv Y)] hh = .ok (.tup (iv (prodF X Y 0 ns))) hh := by
  have lp := out_loop (d := d) (sp := .tup (iv ns)) (r := []) ns 0 [] ok (by omega) (by simp; omega)
  refine call_ (F := f13) (h1 := [.lst (iv (prodF X Y 0 ns))]) rfl rfl (by simp [dryL, SV.dry, dry_iv]) rfl ?_ (fin_val rfl deep_tup_iv)
  show evSs (prOf tb d) b13 [some (.tup (iv ns)), some (.tup (iv X)), some (.tup (iv Y)), none, none, none, none, none, none, none, none] [] = _
  unfold b13
  rw [nx_ (set_ (v := .ref 0) (h1 := [.lst []]) (by simp [ev, evs, mkL, seqLen]))]
  rw [nx_ (set_ (v := .int 0) (h1 := [.lst []]) (by simp [ev]))]
  rw [nx_ (loop_ (xs := iv ns) (h1 := [.lst []]) (by simp [evi, ev]) (by simpa using lp))]
  exact rt_ (ret_ (by simp [ev, evs]))
end K00
end

section
set_option Elab.async false
set_option linter.all false
set_option maxRecDepth 100000
set_option maxHeartbeats 0
set_option autoImplicit false
namespace K00
open PySem Ws

/-! ### inverse_in -/
theorem doti_loop {p : Pr} {X es : List Int} {sp a b c : SV} {s : Int} {r : SH} : ∀ (ps : List (Int × Int)) (t : Int), (∀ q ∈ ps, PairOk X es s q) →
    loopF [8, 9] (turn p (.pair (.name 8) (.name 9)) b14l0) (prs ps) [some sp, some (.tup (iv X)), some (.ref 0), some (.int s), some a, some b, some c, some (.int t), none, none] (.lst (iv es) :: r) =
      .nx [some sp, some (.tup (iv X)), some (.ref 0), some (.int s), some a, some b, some c, some (.int (dotP X es s ps t)), none, none] (.lst (iv es) :: r)
  | [], t, _ => rfl
  | q :: ps, t, hq => by
    obtain ⟨⟨h1, h2⟩, ⟨h3, h4⟩, h5⟩ := hq q List.mem_cons_self
    have ih := doti_loop (p := p) (sp := sp) (a := a) (b := b) (c := c) (r := r) ps (t + gi X (s + q.1) * gi es (s + q.2)) fun r hr => hq r (List.mem_cons_of_mem _ hr)
    have it : ∀ k, itemV (.ref 0) (.int k) (.lst (iv es) :: r) = itemAt (iv es) k := fun k => itemV_ref rfl
    have one : turn p (.pair (.name 8) (.name 9)) b14l0 (.tup [.int q.1, .int q.2]) [some sp, some (.tup (iv X)), some (.ref 0), some (.int s), some a, some b, some c, some (.int t), none, none] (.lst (iv es) :: r) =
        .nx [some sp, some (.tup (iv X)), some (.ref 0), some (.int s), some a, some b, some c, some (.int (t + gi X (s + q.1) * gi es (s + q.2))), some (.int q.1), some (.int q.2)] (.lst (iv es) :: r) := by
      simp [turn, b14l0, evSs, evS, ev, at_iv h1 h2, it, at_iv h3 h4, binop_mul h5]
    show loopF [8, 9] _ (SV.tup [.int q.1, .int q.2] :: prs ps) _ _ = _
    rw [loop_nx one]
    simpa [dotP] using ih
def invB (X : List Int) (s : Int) : Int → List (List (Int × Int)) → List Int → List Int
  | _, [], es => es
  | k, ps :: t, es => invB X s (k + 1) t (es ++ [-(dotP X es s ps (gi X (s + k)))])
def InvOk (X : List Int) (s : Int) : Int → List (List (Int × Int)) → List Int → Prop
  | _, [], _ => True
  | k, ps :: t, es => (∀ q ∈ ps, PairOk X es s q) ∧ InvOk X s (k + 1) t (es ++ [-(dotP X es s ps (gi X (s + k)))])
theorem invB_len {X : List Int} {s : Int} : ∀ (t : List (List (Int × Int))) (k : Int) (es : List Int), (invB X s k t es).length = es.length + t.length
  | [], _, _ => rfl
  | _ :: t, k, es => by
    rw [invB, invB_len t]
    simp
    omega
theorem midi_loop {p : Pr} {X : List Int} {sp a : SV} {s : Int} {r : SH} : ∀ (t : List (List (Int × Int))) (k : Nat) (es : List Int), InvOk X s k t es → 0 ≤ s → s + k + t.length ≤ X.length → es.length + t.length ≤ 1000 →
    loopF [5, 6, 7, 8, 9] (turn p (.pair (.name 5) (.name 6)) b14l1) (enumOf k (tv t)) [some sp, some (.tup (iv X)), some (.ref 0), some (.int s), some a, none, none, none, none, none] (.lst (iv es) :: r) =
      .nx [some sp, some (.tup (iv X)), some (.ref 0), some (.int s), some a, none, none, none, none, none] (.lst (iv (invB X s k t es)) :: r)
  | [], k, es, _, _, _, _ => by
    simp [tv, enumOf, loopF, invB]
  | ps :: t, k, es, ok, h0, hx, hl => by
    simp only [List.length_cons] at hx hl
    have ih := midi_loop (p := p) (sp := sp) (a := a) (r := r) t (k + 1) (es ++ [-(dotP X es s ps (gi X (s + k)))]) (by simpa using ok.2) h0 (by push_cast; omega) (by simp; omega)
    have hk : 0 ≤ s + (k : Int) := by omega
    have one : turn p (.pair (.name 5) (.name 6)) b14l1 (.tup [.int (k : Nat), .tup (prs ps)]) [some sp, some (.tup (iv X)), some (.ref 0), some (.int s), some a, none, none, none, none, none] (.lst (iv es) :: r) =
        .nx [some sp, some (.tup (iv X)), some (.ref 0), some (.int s), some a, some (.int (k : Nat)), some (.tup (prs ps)), some (.int (dotP X es s ps (gi X (s + k)))), none, none] (.lst (iv (es ++ [-(dotP X es s ps (gi X (s + k)))])) :: r) := by
      have lp := doti_loop (p := p) (X := X) (es := es) (sp := sp) (a := a) (b := .int (k : Nat)) (c := .tup (prs ps)) (s := s) (r := r) ps (gi X (s + k)) ok.1
      have hl2 : (iv es).length + [SV.int (-(dotP X es s ps (gi X (s + k))))].length ≤ seqLen := by
        simp only [List.length_map, List.length_cons, List.length_nil]
        have : seqLen = 16777216 := rfl
        omega
      have x1 := at_iv hk (show s + (k : Int) < X.length by omega)
      rw [turn_eq (env2 := [some sp, some (.tup (iv X)), some (.ref 0), some (.int s), some a, some (.int (k : Nat)), some (.tup (prs ps)), none, none, none]) (by simp)]
      unfold b14l1
      rw [nx_ (set_ (v := .int (gi X (s + k))) (h1 := .lst (iv es) :: r) (by simp [ev, x1]))]
      rw [nx_ (loop_ (xs := prs ps) (h1 := .lst (iv es) :: r) (by simp [evi, ev]) (by simpa using lp))]
      simp [evSs, evS, ev, append_at hl2]
    show loopF [5, 6, 7, 8, 9] _ (.tup [.int (k : Nat), .tup (prs ps)] :: enumOf (k + 1) (tv t)) _ _ = _
    rw [loop_nx one]
    simpa [invB] using ih
def invF (X : List Int) : Int → List Int → List Int → List Int
  | _, [], es => es
  | s, n :: r, es => invF X (s + (tbl n).length) r (invB X s 0 (tbl n) es)
def InvsOk (X : List Int) : Int → List Int → List Int → Prop
  | _, [], _ => True
  | s, n :: r, es => Size n ∧ InvOk X s 0 (tbl n) es ∧ s + (tbl n).length ≤ X.length ∧ InvsOk X (s + (tbl n).length) r (invB X s 0 (tbl n) es)
theorem outi_loop {d : Nat} {X : List Int} {sp : SV} {r : SH} : ∀ (ns : List Int) (s : Int) (es : List Int), InvsOk X s ns es → 0 ≤ s → es.length + 10 * ns.length ≤ 900 →
    loopF [4, 5, 6, 7, 8, 9] (turn (prOf tb d) (.name 4) b14l2) (iv ns) [some sp, some (.tup (iv X)), some (.ref 0), some (.int s), none, none, none, none, none, none] (.lst (iv es) :: r) =
      .nx [some sp, some (.tup (iv X)), some (.ref 0), some (.int (endF s ns)), none, none, none, none, none, none] (.lst (iv (invF X s ns es)) :: r)
  | [], s, es, _, _, _ => by simp [loopF, invF, endF]
  | n :: ns, s, es, ok, h0, hl => by
    obtain ⟨sz, bo, hx, rest⟩ := ok
    have ln := size_len sz
    simp only [List.length_cons] at hl
    have ih := outi_loop (d := d) (sp := sp) (r := r) ns (s + (tbl n).length) (invB X s 0 (tbl n) es) rest (by omega) (by rw [invB_len]; omega)
    have it := fun h => summands sz sumV_eq (h := h)
    have lp := midi_loop (p := prOf tb d) (X := X) (sp := sp) (a := .int n) (s := s) (r := r) (tbl n) 0 es (by simpa using bo) h0 (by simpa using hx) (by omega)
    have one : turn (prOf tb d) (.name 4) b14l2 (.int n) [some sp, some (.tup (iv X)), some (.ref 0), some (.int s), none, none, none, none, none, none] (.lst (iv es) :: r) =
        .nx [some sp, some (.tup (iv X)), some (.ref 0), some (.int (s + (tbl n).length)), some (.int n), none, none, none, none, none] (.lst (iv (invB X s 0 (tbl n) es)) :: r) := by
      rw [turn_eq (env2 := [some sp, some (.tup (iv X)), some (.ref 0), some (.int s), some (.int n), none, none, none, none, none]) (by simp)]
      unfold b14l2
      rw [nx_ (loop_ (xs := enumOf 0 (tv (tbl n))) (h1 := .lst (iv es) :: r) (by simp [evi, ev, glob_sum, it]) (by simpa using lp))]
      simp [evSs, evS, ev, evs, glob_sum, it, tv_len]
    show loopF _ _ (SV.int n :: iv ns) _ _ = _
    rw [loop_nx one]
    simpa [endF, invF] using ih
theorem inverse_in {d : Nat} {hh : SH} {X ns : List Int} (ok : InvsOk X 0 ns []) (hl : ns.length ≤ 3) : callF tb (d + 1) 14 [.tup (iv ns), .tup (iv X)] hh = .ok (.tup (iv (invF X 0 ns []))) hh := by
  have lp := outi_loop (d := d) (sp := .tup (iv ns)) (r := []) ns 0 [] ok (by omega) (by simp; omega)
  refine call_ (F := f14) (h1 := [.lst (iv (invF X 0 ns []))]) rfl rfl (by simp [dryL, SV.dry, dry_iv]) rfl ?_ (fin_val rfl deep_tup_iv)
  show evSs (prOf tb d) b14 [some (.tup (iv ns)), some (.tup (iv X)), none, none, none, none, none, none, none, none] [] = _
  unfold b14
  rw [nx_ (set_ (v := .ref 0) (h1 := [.lst []]) (by simp [ev, evs, mkL, seqLen]))]
  rw [nx_ (set_ (v := .int 0) (h1 := [.lst []]) (by simp [ev]))]
  rw [nx_ (loop_ (xs := iv ns) (h1 := [.lst []]) (by simp [evi, ev]) (by simpa using lp))]
  exact rt_ (ret_ (by simp [ev, evs]))

/-! ### strict_in -/
def sumP (X Y : List Int) (s : Int) (ps : List (Int × Int)) : Int := (ps.map fun q => gi X (s + q.1) * gi Y (s + q.2)).sum
def strictF (X Y : List Int) : Int → List Int → List Int
  | _, [] => []
  | s, n :: r => (tbl n).map (sumP X Y s) ++ strictF X Y (s + (tbl n).length) r
theorem intsOf_map {α : Type} (f : α → Int) : ∀ l : List α, intsOf (l.map fun x => SV.int (f x)) = some (l.map f)
  | [] => rfl
  | x :: l => by simp [intsOf, intsOf_map f l]
def pg (X Y : List Int) (s : Int) : SV → SV
  | .tup [.int i, .int j] => .int (gi X (s + i) * gi Y (s + j))
  | v => v
theorem mids_loop {p : Pr} {X Y : List Int} {sp a : SV} {s : Int} {r : SH} : ∀ (t : List (List (Int × Int))) (es : List Int), BlockOk X Y s t → (∀ ps ∈ t, ps.length ≤ 10) → es.length + t.length ≤ 1000 →
    loopF [6] (turn p (.name 6) b15l0) (tv t) [some sp, some (.tup (iv X)), some (.tup (iv Y)), some (.ref 0), some (.int s), some a, none, none, none] (.lst (iv es) :: r) =
      .nx [some sp, some (.tup (iv X)), some (.tup (iv Y)), some (.ref 0), some (.int s), some a, none, none, none] (.lst (iv (es ++ t.map (sumP X Y s))) :: r)
  | [], es, _, _, _ => by simp [tv, loopF]
  | ps :: t, es, ok, h10, hl => by
    simp only [List.length_cons] at hl
    have ih := mids_loop (p := p) (sp := sp) (a := a) (r := r) t (es ++ [sumP X Y s ps]) (fun q hq => ok q (List.mem_cons_of_mem _ hq)) (fun q hq => h10 q (List.mem_cons_of_mem _ hq)) (by simp; omega)
    have one : turn p (.name 6) b15l0 (.tup (prs ps)) [some sp, some (.tup (iv X)), some (.tup (iv Y)), some (.ref 0), some (.int s), some a, none, none, none] (.lst (iv es) :: r) =
        .nx [some sp, some (.tup (iv X)), some (.tup (iv Y)), some (.ref 0), some (.int s), some a, some (.tup (prs ps)), none, none] (.lst (iv (es ++ [sumP X Y s ps])) :: r) := by
      have hl2 : (iv es).length + [SV.int (sumP X Y s ps)].length ≤ seqLen := by
        simp only [List.length_map, List.length_cons, List.length_nil]
        have : seqLen = 16777216 := rfl
        omega
      rw [turn_eq (env2 := [some sp, some (.tup (iv X)), some (.tup (iv Y)), some (.ref 0), some (.int s), some a, some (.tup (prs ps)), none, none]) (by simp)]
      have cp := comp_ (p := p) (c := false) (elt := .bin .mul (.ix (.var 1) (.bin .add (.var 4) (.var 7))) (.ix (.var 2) (.bin .add (.var 4) (.var 8)))) (t := .pair (.name 7) (.name 8)) (it := .it (.var 6)) (own := [7, 8])
        (env := [some sp, some (.tup (iv X)), some (.tup (iv Y)), some (.ref 0), some (.int s), some a, some (.tup (prs ps)), none, none]) (h := .lst (iv es) :: r) (h1 := .lst (iv es) :: r) (xs := prs ps) (pg X Y s) (by simp [evi, ev]) (by
          intro x hx
          obtain ⟨q, hq, rfl⟩ := List.mem_map.mp hx
          obtain ⟨⟨h1, h2⟩, ⟨h3, h4⟩, h5⟩ := ok ps List.mem_cons_self q hq
          refine ⟨[some sp, some (.tup (iv X)), some (.tup (iv Y)), some (.ref 0), some (.int s), some a, some (.tup (prs ps)), some (.int q.1), some (.int q.2)], by simp, ?_⟩
          simp [ev, at_iv h1 h2, at_iv h3 h4, binop_mul h5, pg])
      have hm : (prs ps).map (pg X Y s) = ps.map fun q => SV.int (gi X (s + q.1) * gi Y (s + q.2)) := by
        rw [List.map_map]
        rfl
      have h10' := h10 ps List.mem_cons_self
      rw [hm, mkL_val (by have : seqLen = 16777216 := rfl; rw [List.length_map]; omega)] at cp
      have sm : builtin (.lst (iv es) :: r) .sum [.lst (ps.map fun q => SV.int (gi X (s + q.1) * gi Y (s + q.2)))] = some (.int (sumP X Y s ps)) := by
        show ((intsOf (ps.map fun q => SV.int (gi X (s + q.1) * gi Y (s + q.2)))).map fun ns => SV.int ns.sum) = _
        rw [intsOf_map]
        rfl
      unfold b15l0
      have e1 : ev p (.bi .sum (.cons (.comp false (.bin .mul (.ix (.var 1) (.bin .add (.var 4) (.var 7))) (.ix (.var 2) (.bin .add (.var 4) (.var 8)))) (.pair (.name 7) (.name 8)) (.it (.var 6)) [7, 8]) .nil))
          [some sp, some (.tup (iv X)), some (.tup (iv Y)), some (.ref 0), some (.int s), some a, some (.tup (prs ps)), none, none] (.lst (iv es) :: r) = .ok (.int (sumP X Y s ps)) (.lst (iv es) :: r) := by
        rw [ev, evs, cp]
        simp [evs, sm]
      have e2 : evS p (.append (.var 3) (.bi .sum (.cons (.comp false (.bin .mul (.ix (.var 1) (.bin .add (.var 4) (.var 7))) (.ix (.var 2) (.bin .add (.var 4) (.var 8)))) (.pair (.name 7) (.name 8)) (.it (.var 6)) [7, 8]) .nil)))
          [some sp, some (.tup (iv X)), some (.tup (iv Y)), some (.ref 0), some (.int s), some a, some (.tup (prs ps)), none, none] (.lst (iv es) :: r) =
            .nx [some sp, some (.tup (iv X)), some (.tup (iv Y)), some (.ref 0), some (.int s), some a, some (.tup (prs ps)), none, none] (.lst (iv (es ++ [sumP X Y s ps])) :: r) := by
        have z := append_ (p := p) (o := .var 3) (h := .lst (iv es) :: r) (r := r) (by simp [ev]) e1 (by simpa using hl2)
        simpa using z
      rw [nx_ e2]
      rfl
    show loopF [6] _ (.tup (prs ps) :: tv t) _ _ = _
    rw [loop_nx one]
    simpa using ih
theorem tbl_short {n : Int} (h : Size n) : ∀ ps ∈ tbl n, ps.length ≤ 10 := by
  rcases h with rfl | rfl | rfl | rfl <;> decide
theorem outs_loop {d : Nat} {X Y : List Int} {sp : SV} {r : SH} : ∀ (ns : List Int) (s : Int) (es : List Int), SpOk X Y s ns → 0 ≤ s → es.length + 10 * ns.length ≤ 900 →
    loopF [5, 6] (turn (prOf tb d) (.name 5) b15l1) (iv ns) [some sp, some (.tup (iv X)), some (.tup (iv Y)), some (.ref 0), some (.int s), none, none, none, none] (.lst (iv es) :: r) =
      .nx [some sp, some (.tup (iv X)), some (.tup (iv Y)), some (.ref 0), some (.int (endF s ns)), none, none, none, none] (.lst (iv (es ++ strictF X Y s ns)) :: r)
  | [], s, es, _, _, _ => by simp [loopF, strictF, endF]
  | n :: ns, s, es, ok, h0, hl => by
    obtain ⟨sz, bo, hx, hy, rest⟩ := ok
    have ln := size_len sz
    simp only [List.length_cons] at hl
    have ih := outs_loop (d := d) (sp := sp) (r := r) ns (s + (tbl n).length) (es ++ (tbl n).map (sumP X Y s)) rest (by omega) (by rw [List.length_append, List.length_map]; omega)
    have it := fun h => summands sz sumV_eq (h := h)
    have lp := mids_loop (p := prOf tb d) (X := X) (Y := Y) (sp := sp) (a := .int n) (s := s) (r := r) (tbl n) es bo (tbl_short sz) (by omega)
    have one : turn (prOf tb d) (.name 5) b15l1 (.int n) [some sp, some (.tup (iv X)), some (.tup (iv Y)), some (.ref 0), some (.int s), none, none, none, none] (.lst (iv es) :: r) =
        .nx [some sp, some (.tup (iv X)), some (.tup (iv Y)), some (.ref 0), some (.int (s + (tbl n).length)), some (.int n), none, none, none] (.lst (iv (es ++ (tbl n).map (sumP X Y s))) :: r) := by
      rw [turn_eq (env2 := [some sp, some (.tup (iv X)), some (.tup (iv Y)), some (.ref 0), some (.int s), some (.int n), none, none, none]) (by simp)]
      unfold b15l1
      rw [nx_ (loop_ (xs := tv (tbl n)) (h1 := .lst (iv es) :: r) (by simp [evi, ev, glob_sum, it]) (by simpa using lp))]
      simp [evSs, evS, ev, evs, glob_sum, it, tv_len]
    show loopF _ _ (SV.int n :: iv ns) _ _ = _
    rw [loop_nx one]
    have e : es ++ strictF X Y s (n :: ns) = (es ++ (tbl n).map (sumP X Y s)) ++ strictF X Y (s + (tbl n).length) ns := by simp [strictF]
    rw [e]
    simpa [endF] using ih
theorem strict_in {d : Nat} {hh : SH} {X Y ns : List Int} (ok : SpOk X Y 0 ns) (hl : ns.length ≤ 3) : callF tb (d + 1) 15 [.tup (iv ns), .tup (iv X), .tup (iv Y)] hh = .ok (.tup (iv (strictF X Y 0 ns))) hh := by
  have lp := outs_loop (d := d) (sp := .tup (iv ns)) (r := []) ns 0 [] ok (by omega) (by simp; omega)
  refine call_ (F := f15) (h1 := [.lst (iv (strictF X Y 0 ns))]) rfl rfl (by simp [dryL, SV.dry, dry_iv]) rfl ?_ (fin_val rfl deep_tup_iv)
  show evSs (prOf tb d) b15 [some (.tup (iv ns)), some (.tup (iv X)), some (.tup (iv Y)), none, none, none, none, none, none] [] = _
  unfold b15
  rw [nx_ (set_ (v := .ref 0) (h1 := [.lst []]) (by simp [ev, evs, mkL, seqLen]))]
  rw [nx_ (set_ (v := .int 0) (h1 := [.lst []]) (by simp [ev]))]
  rw [nx_ (loop_ (xs := iv ns) (h1 := [.lst []]) (by simp [evi, ev]) (by simpa using lp))]
  exact rt_ (ret_ (by simp [ev, evs]))
end K00
end

section
set_option Elab.async false
set_option linter.all false
set_option maxRecDepth 100000
set_option maxHeartbeats 0
set_option autoImplicit false
namespace K00
open PySem Ws

theorem mf {i j : Int} {a b : Nat} (ha : i.natAbs < 2 ^ a) (hb : j.natAbs < 2 ^ b) (h0 : 0 < a) (h1 : 0 < b) (h : a + b ≤ 1000000) : mulFits i j = true := by
  have w := L2.wide_mul ha hb h0 h1 h
  unfold mulFits
  rw [Bool.or_eq_true]
  exact .inr (decide_eq_true w)
/-- bits -/
def Bd (a : Nat) (X : List Int) : Prop := ∀ v ∈ X, v.natAbs < 2 ^ a
theorem gi_mem {X : List Int} {i : Int} (h1 : i.toNat < X.length) : gi X i ∈ X := by
  unfold gi
  rw [List.getD_eq_getElem?_getD, List.getElem?_eq_getElem h1]
  exact List.getElem_mem h1
abbrev rowV (r : List Int) : SV := .lst (iv r)
abbrev mv (A : List (List Int)) : SV := .lst (A.map rowV)
def gm (A : List (List Int)) (i : Nat) : List Int := A.getD i []
def timesF (n : Nat) (A B : List (List Int)) : List (List Int) := (List.range n).map fun (i : Nat) => (List.range n).map fun (j : Nat) => ((List.range n).map fun (k : Nat) => gi (gm A i) k * gi (gm B k) j).sum
theorem at_mv {A : List (List Int)} {i : Nat} (h : i < A.length) : itemAt (A.map rowV) (i : Int) = some (rowV (gm A i)) := by
  unfold itemAt L2.atI L2.ixN gm
  rw [List.length_map, if_pos (by omega), if_pos (by omega)]
  simp [h]
theorem at_iv' {X : List Int} {i : Nat} (h1 : i < X.length) : itemAt (iv X) (i : Int) = some (.int (gi X i)) := at_iv (by omega) (by omega)
theorem rng {n : Nat} : rangeOf 0 (n : Int) = (List.range n).map fun (k : Nat) => SV.int (k : Nat) := by
  unfold rangeOf
  simp
theorem small_nat {n : Nat} (hn : n ≤ 1000) : small62 (n : Int) = true := by
  unfold small62
  exact Nat.blt_eq.mpr (by omega)
/-- g of a number -/
def onNat (g : Nat → SV) : SV → SV
  | .int k => g k.toNat
  | v => v
theorem onNat_map (g : Nat → SV) (n : Nat) : (rangeOf 0 (n : Int)).map (onNat g) = (List.range n).map g := by
  rw [rng, List.map_map]
  refine List.map_congr_left fun k _ => ?_
  show g (Int.toNat (k : Int)) = g k
  rw [Int.toNat_natCast]
theorem ite_key (b : Bool) (A B : Res (List SV)) (hb : b = true) : (if b = true then A else B) = A := by rw [if_pos hb]
theorem range_ev {p : Pr} {it : CE} {env : SE} {h : SH} {n : Nat} (e : ev p it env h = .ok (.int (n : Nat)) h) (hn : n ≤ 1000) : evi p (.range1 it) env h = .ok (rangeOf 0 (n : Int)) h := by
  have q : evi p (.range1 it) env h = if small62 (n : Int) = true then Res.ok (rangeOf 0 (n : Int)) h else Res.bad := by
    rw [evi, e]
    rfl
  exact q.trans (ite_key _ _ _ (small_nat hn))
/-- what a comprehension over a range gives -/
theorem comp_rng {p : Pr} {c : Bool} {elt : CE} {i : Nat} {it : CE} {env : SE} {h : SH} {n : Nat} {own : List Nat} (g : Nat → SV) (e : ev p it env h = .ok (.int (n : Nat)) h) (hn : n ≤ 1000)
    (b : ∀ k, k < n → ev p elt ((wipeE env own).set i (some (.int (k : Nat)))) h = .ok (g k) h) : ev p (.comp c elt (.name i) (.range1 it) own) env h = mkL c ((List.range n).map g) h := by
  rw [← onNat_map g n]
  refine comp_ (onNat g) (range_ev e hn) ?_
  intro x hx
  rw [rng] at hx
  obtain ⟨k, hk, rfl⟩ := List.mem_map.mp hx
  refine ⟨(wipeE env own).set i (some (.int (k : Nat))), rfl, ?_⟩
  rw [b k (List.mem_range.mp hk)]
  show Res.ok (g k) h = .ok (g (Int.toNat (k : Int))) h
  rw [Int.toNat_natCast]
theorem mkL_small {n : Nat} {g : Nat → SV} {h : SH} (hn : n ≤ 1000) : mkL false ((List.range n).map g) h = .ok (.lst ((List.range n).map g)) h :=
  mkL_val (by have : seqLen = 16777216 := rfl; rw [List.length_map, List.length_range]; omega)
theorem dry_rows (M : List (List Int)) : dryL (M.map rowV) = true := by
  induction M with
  | nil => rfl
  | cons r M ih =>
    show (SV.dry (rowV r) && dryL (M.map rowV)) = true
    rw [ih]
    show (dryL (iv r) && true) = true
    rw [dry_iv]
    rfl
theorem law_times {hh : SH} {d n a b : Nat} {A B : List (List Int)} (hA : A.length = n) (hAr : ∀ r ∈ A, r.length = n) (hB : B.length = n) (hBr : ∀ r ∈ B, r.length = n) (hn : n ≤ 5) (ba : ∀ r ∈ A, Bd a r) (bb : ∀ r ∈ B, Bd b r) (ha : 0 < a) (hb : 0 < b) (hab : a + b ≤ 1000000) :
    callF tb (d + 1) 31 [mv A, mv B] hh = .ok (mv (timesF n A B)) hh := by
  have gA : ∀ i, i < n → gm A i ∈ A := by
    intro i hi
    unfold gm
    rw [List.getD_eq_getElem?_getD, List.getElem?_eq_getElem (by omega)]
    exact List.getElem_mem (by omega)
  have gB : ∀ i, i < n → gm B i ∈ B := by
    intro i hi
    unfold gm
    rw [List.getD_eq_getElem?_getD, List.getElem?_eq_getElem (by omega)]
    exact List.getElem_mem (by omega)
  have inner : ∀ i j, i < n → j < n → ev (prOf tb d) (.comp false (.bin .mul (.ix (.ix (.var 0) (.var 3)) (.var 5)) (.ix (.ix (.var 1) (.var 5)) (.var 4))) (.name 5) (.range1 (.var 2)) [5])
      [some (mv A), some (mv B), some (.int (n : Nat)), some (.int (i : Nat)), some (.int (j : Nat)), none] [] = .ok (.lst ((List.range n).map fun (k : Nat) => SV.int (gi (gm A i) k * gi (gm B k) j))) [] := by
    intro i j hi hj
    rw [comp_rng (n := n) (fun (k : Nat) => SV.int (gi (gm A i) k * gi (gm B k) j)) (by simp [ev]) (by omega), mkL_small (by omega)]
    intro k hk
    have a1 := at_mv (A := A) (i := i) (by omega)
    have a2 := at_iv' (X := gm A i) (i := k) (by rw [hAr _ (gA i hi)]; exact hk)
    have b1 := at_mv (A := B) (i := k) (by omega)
    have b2 := at_iv' (X := gm B k) (i := j) (by rw [hBr _ (gB k hk)]; exact hj)
    have f := mf (ba _ (gA i hi) _ (gi_mem (X := gm A i) (i := (k : Int)) (by rw [hAr _ (gA i hi)]; simpa using hk))) (bb _ (gB k hk) _ (gi_mem (X := gm B k) (i := (j : Int)) (by rw [hBr _ (gB k hk)]; simpa using hj))) ha hb hab
    simp [ev, a1, a2, b1, b2, binop_mul f]
  have sums : ∀ i j, i < n → j < n → ev (prOf tb d) (.bi .sum (.cons (.comp false (.bin .mul (.ix (.ix (.var 0) (.var 3)) (.var 5)) (.ix (.ix (.var 1) (.var 5)) (.var 4))) (.name 5) (.range1 (.var 2)) [5]) .nil))
      [some (mv A), some (mv B), some (.int (n : Nat)), some (.int (i : Nat)), some (.int (j : Nat)), none] [] = .ok (.int ((List.range n).map fun (k : Nat) => gi (gm A i) k * gi (gm B k) j).sum) [] := by
    intro i j hi hj
    rw [ev, evs, inner i j hi hj]
    have sm : builtin [] .sum [.lst ((List.range n).map fun (k : Nat) => SV.int (gi (gm A i) k * gi (gm B k) j))] = some (.int ((List.range n).map fun (k : Nat) => gi (gm A i) k * gi (gm B k) j).sum) := by
      show ((intsOf ((List.range n).map fun (k : Nat) => SV.int (gi (gm A i) k * gi (gm B k) j))).map fun ns => SV.int ns.sum) = _
      rw [intsOf_map]
      rfl
    simp [evs, sm]
  have rows : ∀ i, i < n → ev (prOf tb d) (.comp false (.bi .sum (.cons (.comp false (.bin .mul (.ix (.ix (.var 0) (.var 3)) (.var 5)) (.ix (.ix (.var 1) (.var 5)) (.var 4))) (.name 5) (.range1 (.var 2)) [5]) .nil)) (.name 4) (.range1 (.var 2)) [4])
      [some (mv A), some (mv B), some (.int (n : Nat)), some (.int (i : Nat)), none, none] [] = .ok (.lst ((List.range n).map fun (j : Nat) => SV.int ((List.range n).map fun (k : Nat) => gi (gm A i) k * gi (gm B k) j).sum)) [] := by
    intro i hi
    rw [comp_rng (n := n) (fun (j : Nat) => SV.int ((List.range n).map fun (k : Nat) => gi (gm A i) k * gi (gm B k) j).sum) (by simp [ev]) (by omega), mkL_small (by omega)]
    intro j hj
    exact sums i j hi hj
  have all : ev (prOf tb d) (.comp false (.comp false (.bi .sum (.cons (.comp false (.bin .mul (.ix (.ix (.var 0) (.var 3)) (.var 5)) (.ix (.ix (.var 1) (.var 5)) (.var 4))) (.name 5) (.range1 (.var 2)) [5]) .nil)) (.name 4) (.range1 (.var 2)) [4]) (.name 3) (.range1 (.var 2)) [3])
      [some (mv A), some (mv B), some (.int (n : Nat)), none, none, none] [] = .ok (mv (timesF n A B)) [] := by
    rw [comp_rng (n := n) (fun (i : Nat) => .lst ((List.range n).map fun (j : Nat) => SV.int ((List.range n).map fun (k : Nat) => gi (gm A i) k * gi (gm B k) j).sum)) (by simp [ev]) (by omega), mkL_small (by omega)]
    · unfold timesF mv
      rw [List.map_map]
      congr 2
      refine List.map_congr_left fun i hi => ?_
      show SV.lst _ = SV.lst (iv _)
      unfold iv
      rw [List.map_map]
      rfl
    · intro i hi
      exact rows i hi
  refine call_ (F := f31) (h1 := []) rfl rfl (by simp [dryL, SV.dry, dry_rows]) rfl ?_ (fin_val rfl ?_)
  · show evSs (prOf tb d) b31 [some (mv A), some (mv B), none, none, none, none] [] = _
    unfold b31
    rw [nx_ (set_ (v := .int (n : Nat)) (h1 := []) (by simp [ev, evs, hA]))]
    exact rt_ (ret_ all)
  · show deepL 11 ((timesF n A B).map rowV) = true
    have : ∀ M : List (List Int), deepL 11 (M.map rowV) = true := by
      intro M
      induction M with
      | nil => rfl
      | cons r M ih =>
        show (SV.deep 11 (rowV r) && deepL 11 (M.map rowV)) = true
        rw [ih]
        show (deepL 10 (iv r) && true) = true
        rw [deep_iv]
        rfl
    exact this _
end K00
end

section
set_option Elab.async false
set_option linter.all false
set_option maxRecDepth 100000
set_option maxHeartbeats 0
set_option autoImplicit false
namespace K00
open PySem Ws
def mk (n : Nat) (f : Nat → Nat → Int) : List (List Int) := (List.range n).map fun i => (List.range n).map fun j => f i j

theorem lm0 (d : Nat) (x0 x1 x2 : Int) : callF tb (d + 3) 30 [.tup (iv [3]), .tup (iv [x0, x1, x2])] [] = .ok (.lst [mv [[1, x0, x2], [0, 1, x1], [0, 0, 1]]]) [] := by kernel_rfl
theorem le0 (d : Nat) (f0 : Nat → Nat → Int) : callF tb (d + 3) 32 [.tup (iv [3]), .lst [mv (mk 3 f0)]] [] = .ok (.tup (iv [f0 0 1, f0 1 2, f0 0 2])) [] := by kernel_rfl
theorem lq0 (x0 x1 x2 y0 y1 y2 : Int) : [(fun i j => ((List.range 3).map fun (k : Nat) => gi (gm [[1, x0, x2], [0, 1, x1], [0, 0, 1]] i) k * gi (gm [[1, y0, y2], [0, 1, y1], [0, 0, 1]] k) j).sum) 0 1, (fun i j => ((List.range 3).map fun (k : Nat) => gi (gm [[1, x0, x2], [0, 1, x1], [0, 0, 1]] i) k * gi (gm [[1, y0, y2], [0, 1, y1], [0, 0, 1]] k) j).sum) 1 2, (fun i j => ((List.range 3).map fun (k : Nat) => gi (gm [[1, x0, x2], [0, 1, x1], [0, 0, 1]] i) k * gi (gm [[1, y0, y2], [0, 1, y1], [0, 0, 1]] k) j).sum) 0 2] = prodF [x0, x1, x2] [y0, y1, y2] 0 [3] := by
  simp [List.range_succ, gi, gm, prodF, blockP, dotP, tbl]
  try grind
theorem lm1 (d : Nat) (x0 x1 x2 x3 : Int) : callF tb (d + 3) 30 [.tup (iv [2, 3]), .tup (iv [x0, x1, x2, x3])] [] = .ok (.lst [mv [[1, x0], [0, 1]], mv [[1, x1, x3], [0, 1, x2], [0, 0, 1]]]) [] := by kernel_rfl
theorem le1 (d : Nat) (f0 f1 : Nat → Nat → Int) : callF tb (d + 3) 32 [.tup (iv [2, 3]), .lst [mv (mk 2 f0), mv (mk 3 f1)]] [] = .ok (.tup (iv [f0 0 1, f1 0 1, f1 1 2, f1 0 2])) [] := by kernel_rfl
theorem lq1 (x0 x1 x2 x3 y0 y1 y2 y3 : Int) : [(fun i j => ((List.range 2).map fun (k : Nat) => gi (gm [[1, x0], [0, 1]] i) k * gi (gm [[1, y0], [0, 1]] k) j).sum) 0 1, (fun i j => ((List.range 3).map fun (k : Nat) => gi (gm [[1, x1, x3], [0, 1, x2], [0, 0, 1]] i) k * gi (gm [[1, y1, y3], [0, 1, y2], [0, 0, 1]] k) j).sum) 0 1, (fun i j => ((List.range 3).map fun (k : Nat) => gi (gm [[1, x1, x3], [0, 1, x2], [0, 0, 1]] i) k * gi (gm [[1, y1, y3], [0, 1, y2], [0, 0, 1]] k) j).sum) 1 2, (fun i j => ((List.range 3).map fun (k : Nat) => gi (gm [[1, x1, x3], [0, 1, x2], [0, 0, 1]] i) k * gi (gm [[1, y1, y3], [0, 1, y2], [0, 0, 1]] k) j).sum) 0 2] = prodF [x0, x1, x2, x3] [y0, y1, y2, y3] 0 [2, 3] := by
  simp [List.range_succ, gi, gm, prodF, blockP, dotP, tbl]
  try grind
theorem lm2 (d : Nat) (x0 x1 x2 x3 x4 x5 : Int) : callF tb (d + 3) 30 [.tup (iv [4]), .tup (iv [x0, x1, x2, x3, x4, x5])] [] = .ok (.lst [mv [[1, x0, x3, x5], [0, 1, x1, x4], [0, 0, 1, x2], [0, 0, 0, 1]]]) [] := by kernel_rfl
theorem le2 (d : Nat) (f0 : Nat → Nat → Int) : callF tb (d + 3) 32 [.tup (iv [4]), .lst [mv (mk 4 f0)]] [] = .ok (.tup (iv [f0 0 1, f0 1 2, f0 2 3, f0 0 2, f0 1 3, f0 0 3])) [] := by kernel_rfl
theorem lq2 (x0 x1 x2 x3 x4 x5 y0 y1 y2 y3 y4 y5 : Int) : [(fun i j => ((List.range 4).map fun (k : Nat) => gi (gm [[1, x0, x3, x5], [0, 1, x1, x4], [0, 0, 1, x2], [0, 0, 0, 1]] i) k * gi (gm [[1, y0, y3, y5], [0, 1, y1, y4], [0, 0, 1, y2], [0, 0, 0, 1]] k) j).sum) 0 1, (fun i j => ((List.range 4).map fun (k : Nat) => gi (gm [[1, x0, x3, x5], [0, 1, x1, x4], [0, 0, 1, x2], [0, 0, 0, 1]] i) k * gi (gm [[1, y0, y3, y5], [0, 1, y1, y4], [0, 0, 1, y2], [0, 0, 0, 1]] k) j).sum) 1 2, (fun i j => ((List.range 4).map fun (k : Nat) => gi (gm [[1, x0, x3, x5], [0, 1, x1, x4], [0, 0, 1, x2], [0, 0, 0, 1]] i) k * gi (gm [[1, y0, y3, y5], [0, 1, y1, y4], [0, 0, 1, y2], [0, 0, 0, 1]] k) j).sum) 2 3, (fun i j => ((List.range 4).map fun (k : Nat) => gi (gm [[1, x0, x3, x5], [0, 1, x1, x4], [0, 0, 1, x2], [0, 0, 0, 1]] i) k * gi (gm [[1, y0, y3, y5], [0, 1, y1, y4], [0, 0, 1, y2], [0, 0, 0, 1]] k) j).sum) 0 2, (fun i j => ((List.range 4).map fun (k : Nat) => gi (gm [[1, x0, x3, x5], [0, 1, x1, x4], [0, 0, 1, x2], [0, 0, 0, 1]] i) k * gi (gm [[1, y0, y3, y5], [0, 1, y1, y4], [0, 0, 1, y2], [0, 0, 0, 1]] k) j).sum) 1 3, (fun i j => ((List.range 4).map fun (k : Nat) => gi (gm [[1, x0, x3, x5], [0, 1, x1, x4], [0, 0, 1, x2], [0, 0, 0, 1]] i) k * gi (gm [[1, y0, y3, y5], [0, 1, y1, y4], [0, 0, 1, y2], [0, 0, 0, 1]] k) j).sum) 0 3] = prodF [x0, x1, x2, x3, x4, x5] [y0, y1, y2, y3, y4, y5] 0 [4] := by
  simp [List.range_succ, gi, gm, prodF, blockP, dotP, tbl]
  try grind
theorem lm3 (d : Nat) (x0 x1 x2 x3 x4 x5 x6 x7 x8 x9 : Int) : callF tb (d + 3) 30 [.tup (iv [5]), .tup (iv [x0, x1, x2, x3, x4, x5, x6, x7, x8, x9])] [] = .ok (.lst [mv [[1, x0, x4, x7, x9], [0, 1, x1, x5, x8], [0, 0, 1, x2, x6], [0, 0, 0, 1, x3], [0, 0, 0, 0, 1]]]) [] := by kernel_rfl
theorem le3 (d : Nat) (f0 : Nat → Nat → Int) : callF tb (d + 3) 32 [.tup (iv [5]), .lst [mv (mk 5 f0)]] [] = .ok (.tup (iv [f0 0 1, f0 1 2, f0 2 3, f0 3 4, f0 0 2, f0 1 3, f0 2 4, f0 0 3, f0 1 4, f0 0 4])) [] := by kernel_rfl
theorem lq3 (x0 x1 x2 x3 x4 x5 x6 x7 x8 x9 y0 y1 y2 y3 y4 y5 y6 y7 y8 y9 : Int) : [(fun i j => ((List.range 5).map fun (k : Nat) => gi (gm [[1, x0, x4, x7, x9], [0, 1, x1, x5, x8], [0, 0, 1, x2, x6], [0, 0, 0, 1, x3], [0, 0, 0, 0, 1]] i) k * gi (gm [[1, y0, y4, y7, y9], [0, 1, y1, y5, y8], [0, 0, 1, y2, y6], [0, 0, 0, 1, y3], [0, 0, 0, 0, 1]] k) j).sum) 0 1, (fun i j => ((List.range 5).map fun (k : Nat) => gi (gm [[1, x0, x4, x7, x9], [0, 1, x1, x5, x8], [0, 0, 1, x2, x6], [0, 0, 0, 1, x3], [0, 0, 0, 0, 1]] i) k * gi (gm [[1, y0, y4, y7, y9], [0, 1, y1, y5, y8], [0, 0, 1, y2, y6], [0, 0, 0, 1, y3], [0, 0, 0, 0, 1]] k) j).sum) 1 2, (fun i j => ((List.range 5).map fun (k : Nat) => gi (gm [[1, x0, x4, x7, x9], [0, 1, x1, x5, x8], [0, 0, 1, x2, x6], [0, 0, 0, 1, x3], [0, 0, 0, 0, 1]] i) k * gi (gm [[1, y0, y4, y7, y9], [0, 1, y1, y5, y8], [0, 0, 1, y2, y6], [0, 0, 0, 1, y3], [0, 0, 0, 0, 1]] k) j).sum) 2 3, (fun i j => ((List.range 5).map fun (k : Nat) => gi (gm [[1, x0, x4, x7, x9], [0, 1, x1, x5, x8], [0, 0, 1, x2, x6], [0, 0, 0, 1, x3], [0, 0, 0, 0, 1]] i) k * gi (gm [[1, y0, y4, y7, y9], [0, 1, y1, y5, y8], [0, 0, 1, y2, y6], [0, 0, 0, 1, y3], [0, 0, 0, 0, 1]] k) j).sum) 3 4, (fun i j => ((List.range 5).map fun (k : Nat) => gi (gm [[1, x0, x4, x7, x9], [0, 1, x1, x5, x8], [0, 0, 1, x2, x6], [0, 0, 0, 1, x3], [0, 0, 0, 0, 1]] i) k * gi (gm [[1, y0, y4, y7, y9], [0, 1, y1, y5, y8], [0, 0, 1, y2, y6], [0, 0, 0, 1, y3], [0, 0, 0, 0, 1]] k) j).sum) 0 2, (fun i j => ((List.range 5).map fun (k : Nat) => gi (gm [[1, x0, x4, x7, x9], [0, 1, x1, x5, x8], [0, 0, 1, x2, x6], [0, 0, 0, 1, x3], [0, 0, 0, 0, 1]] i) k * gi (gm [[1, y0, y4, y7, y9], [0, 1, y1, y5, y8], [0, 0, 1, y2, y6], [0, 0, 0, 1, y3], [0, 0, 0, 0, 1]] k) j).sum) 1 3, (fun i j => ((List.range 5).map fun (k : Nat) => gi (gm [[1, x0, x4, x7, x9], [0, 1, x1, x5, x8], [0, 0, 1, x2, x6], [0, 0, 0, 1, x3], [0, 0, 0, 0, 1]] i) k * gi (gm [[1, y0, y4, y7, y9], [0, 1, y1, y5, y8], [0, 0, 1, y2, y6], [0, 0, 0, 1, y3], [0, 0, 0, 0, 1]] k) j).sum) 2 4, (fun i j => ((List.range 5).map fun (k : Nat) => gi (gm [[1, x0, x4, x7, x9], [0, 1, x1, x5, x8], [0, 0, 1, x2, x6], [0, 0, 0, 1, x3], [0, 0, 0, 0, 1]] i) k * gi (gm [[1, y0, y4, y7, y9], [0, 1, y1, y5, y8], [0, 0, 1, y2, y6], [0, 0, 0, 1, y3], [0, 0, 0, 0, 1]] k) j).sum) 0 3, (fun i j => ((List.range 5).map fun (k : Nat) => gi (gm [[1, x0, x4, x7, x9], [0, 1, x1, x5, x8], [0, 0, 1, x2, x6], [0, 0, 0, 1, x3], [0, 0, 0, 0, 1]] i) k * gi (gm [[1, y0, y4, y7, y9], [0, 1, y1, y5, y8], [0, 0, 1, y2, y6], [0, 0, 0, 1, y3], [0, 0, 0, 0, 1]] k) j).sum) 1 4, (fun i j => ((List.range 5).map fun (k : Nat) => gi (gm [[1, x0, x4, x7, x9], [0, 1, x1, x5, x8], [0, 0, 1, x2, x6], [0, 0, 0, 1, x3], [0, 0, 0, 0, 1]] i) k * gi (gm [[1, y0, y4, y7, y9], [0, 1, y1, y5, y8], [0, 0, 1, y2, y6], [0, 0, 0, 1, y3], [0, 0, 0, 0, 1]] k) j).sum) 0 4] = prodF [x0, x1, x2, x3, x4, x5, x6, x7, x8, x9] [y0, y1, y2, y3, y4, y5, y6, y7, y8, y9] 0 [5] := by
  simp [List.range_succ, gi, gm, prodF, blockP, dotP, tbl]
  try grind
theorem lm4 (d : Nat) (x0 x1 x2 x3 x4 x5 : Int) : callF tb (d + 3) 30 [.tup (iv [3, 3]), .tup (iv [x0, x1, x2, x3, x4, x5])] [] = .ok (.lst [mv [[1, x0, x2], [0, 1, x1], [0, 0, 1]], mv [[1, x3, x5], [0, 1, x4], [0, 0, 1]]]) [] := by kernel_rfl
theorem le4 (d : Nat) (f0 f1 : Nat → Nat → Int) : callF tb (d + 3) 32 [.tup (iv [3, 3]), .lst [mv (mk 3 f0), mv (mk 3 f1)]] [] = .ok (.tup (iv [f0 0 1, f0 1 2, f0 0 2, f1 0 1, f1 1 2, f1 0 2])) [] := by kernel_rfl
theorem lq4 (x0 x1 x2 x3 x4 x5 y0 y1 y2 y3 y4 y5 : Int) : [(fun i j => ((List.range 3).map fun (k : Nat) => gi (gm [[1, x0, x2], [0, 1, x1], [0, 0, 1]] i) k * gi (gm [[1, y0, y2], [0, 1, y1], [0, 0, 1]] k) j).sum) 0 1, (fun i j => ((List.range 3).map fun (k : Nat) => gi (gm [[1, x0, x2], [0, 1, x1], [0, 0, 1]] i) k * gi (gm [[1, y0, y2], [0, 1, y1], [0, 0, 1]] k) j).sum) 1 2, (fun i j => ((List.range 3).map fun (k : Nat) => gi (gm [[1, x0, x2], [0, 1, x1], [0, 0, 1]] i) k * gi (gm [[1, y0, y2], [0, 1, y1], [0, 0, 1]] k) j).sum) 0 2, (fun i j => ((List.range 3).map fun (k : Nat) => gi (gm [[1, x3, x5], [0, 1, x4], [0, 0, 1]] i) k * gi (gm [[1, y3, y5], [0, 1, y4], [0, 0, 1]] k) j).sum) 0 1, (fun i j => ((List.range 3).map fun (k : Nat) => gi (gm [[1, x3, x5], [0, 1, x4], [0, 0, 1]] i) k * gi (gm [[1, y3, y5], [0, 1, y4], [0, 0, 1]] k) j).sum) 1 2, (fun i j => ((List.range 3).map fun (k : Nat) => gi (gm [[1, x3, x5], [0, 1, x4], [0, 0, 1]] i) k * gi (gm [[1, y3, y5], [0, 1, y4], [0, 0, 1]] k) j).sum) 0 2] = prodF [x0, x1, x2, x3, x4, x5] [y0, y1, y2, y3, y4, y5] 0 [3, 3] := by
  simp [List.range_succ, gi, gm, prodF, blockP, dotP, tbl]
  try grind
theorem lm5 (d : Nat) (x0 x1 x2 x3 x4 x5 x6 x7 : Int) : callF tb (d + 3) 30 [.tup (iv [2, 2, 4]), .tup (iv [x0, x1, x2, x3, x4, x5, x6, x7])] [] = .ok (.lst [mv [[1, x0], [0, 1]], mv [[1, x1], [0, 1]], mv [[1, x2, x5, x7], [0, 1, x3, x6], [0, 0, 1, x4], [0, 0, 0, 1]]]) [] := by kernel_rfl
theorem le5 (d : Nat) (f0 f1 f2 : Nat → Nat → Int) : callF tb (d + 3) 32 [.tup (iv [2, 2, 4]), .lst [mv (mk 2 f0), mv (mk 2 f1), mv (mk 4 f2)]] [] = .ok (.tup (iv [f0 0 1, f1 0 1, f2 0 1, f2 1 2, f2 2 3, f2 0 2, f2 1 3, f2 0 3])) [] := by kernel_rfl
theorem lq5 (x0 x1 x2 x3 x4 x5 x6 x7 y0 y1 y2 y3 y4 y5 y6 y7 : Int) : [(fun i j => ((List.range 2).map fun (k : Nat) => gi (gm [[1, x0], [0, 1]] i) k * gi (gm [[1, y0], [0, 1]] k) j).sum) 0 1, (fun i j => ((List.range 2).map fun (k : Nat) => gi (gm [[1, x1], [0, 1]] i) k * gi (gm [[1, y1], [0, 1]] k) j).sum) 0 1, (fun i j => ((List.range 4).map fun (k : Nat) => gi (gm [[1, x2, x5, x7], [0, 1, x3, x6], [0, 0, 1, x4], [0, 0, 0, 1]] i) k * gi (gm [[1, y2, y5, y7], [0, 1, y3, y6], [0, 0, 1, y4], [0, 0, 0, 1]] k) j).sum) 0 1, (fun i j => ((List.range 4).map fun (k : Nat) => gi (gm [[1, x2, x5, x7], [0, 1, x3, x6], [0, 0, 1, x4], [0, 0, 0, 1]] i) k * gi (gm [[1, y2, y5, y7], [0, 1, y3, y6], [0, 0, 1, y4], [0, 0, 0, 1]] k) j).sum) 1 2, (fun i j => ((List.range 4).map fun (k : Nat) => gi (gm [[1, x2, x5, x7], [0, 1, x3, x6], [0, 0, 1, x4], [0, 0, 0, 1]] i) k * gi (gm [[1, y2, y5, y7], [0, 1, y3, y6], [0, 0, 1, y4], [0, 0, 0, 1]] k) j).sum) 2 3, (fun i j => ((List.range 4).map fun (k : Nat) => gi (gm [[1, x2, x5, x7], [0, 1, x3, x6], [0, 0, 1, x4], [0, 0, 0, 1]] i) k * gi (gm [[1, y2, y5, y7], [0, 1, y3, y6], [0, 0, 1, y4], [0, 0, 0, 1]] k) j).sum) 0 2, (fun i j => ((List.range 4).map fun (k : Nat) => gi (gm [[1, x2, x5, x7], [0, 1, x3, x6], [0, 0, 1, x4], [0, 0, 0, 1]] i) k * gi (gm [[1, y2, y5, y7], [0, 1, y3, y6], [0, 0, 1, y4], [0, 0, 0, 1]] k) j).sum) 1 3, (fun i j => ((List.range 4).map fun (k : Nat) => gi (gm [[1, x2, x5, x7], [0, 1, x3, x6], [0, 0, 1, x4], [0, 0, 0, 1]] i) k * gi (gm [[1, y2, y5, y7], [0, 1, y3, y6], [0, 0, 1, y4], [0, 0, 0, 1]] k) j).sum) 0 3] = prodF [x0, x1, x2, x3, x4, x5, x6, x7] [y0, y1, y2, y3, y4, y5, y6, y7] 0 [2, 2, 4] := by
  simp [List.range_succ, gi, gm, prodF, blockP, dotP, tbl]
  try grind
theorem lm6 (d : Nat) (x0 x1 x2 x3 x4 x5 x6 x7 x8 : Int) : callF tb (d + 3) 30 [.tup (iv [4, 3]), .tup (iv [x0, x1, x2, x3, x4, x5, x6, x7, x8])] [] = .ok (.lst [mv [[1, x0, x3, x5], [0, 1, x1, x4], [0, 0, 1, x2], [0, 0, 0, 1]], mv [[1, x6, x8], [0, 1, x7], [0, 0, 1]]]) [] := by kernel_rfl
theorem le6 (d : Nat) (f0 f1 : Nat → Nat → Int) : callF tb (d + 3) 32 [.tup (iv [4, 3]), .lst [mv (mk 4 f0), mv (mk 3 f1)]] [] = .ok (.tup (iv [f0 0 1, f0 1 2, f0 2 3, f0 0 2, f0 1 3, f0 0 3, f1 0 1, f1 1 2, f1 0 2])) [] := by kernel_rfl
theorem lq6 (x0 x1 x2 x3 x4 x5 x6 x7 x8 y0 y1 y2 y3 y4 y5 y6 y7 y8 : Int) : [(fun i j => ((List.range 4).map fun (k : Nat) => gi (gm [[1, x0, x3, x5], [0, 1, x1, x4], [0, 0, 1, x2], [0, 0, 0, 1]] i) k * gi (gm [[1, y0, y3, y5], [0, 1, y1, y4], [0, 0, 1, y2], [0, 0, 0, 1]] k) j).sum) 0 1, (fun i j => ((List.range 4).map fun (k : Nat) => gi (gm [[1, x0, x3, x5], [0, 1, x1, x4], [0, 0, 1, x2], [0, 0, 0, 1]] i) k * gi (gm [[1, y0, y3, y5], [0, 1, y1, y4], [0, 0, 1, y2], [0, 0, 0, 1]] k) j).sum) 1 2, (fun i j => ((List.range 4).map fun (k : Nat) => gi (gm [[1, x0, x3, x5], [0, 1, x1, x4], [0, 0, 1, x2], [0, 0, 0, 1]] i) k * gi (gm [[1, y0, y3, y5], [0, 1, y1, y4], [0, 0, 1, y2], [0, 0, 0, 1]] k) j).sum) 2 3, (fun i j => ((List.range 4).map fun (k : Nat) => gi (gm [[1, x0, x3, x5], [0, 1, x1, x4], [0, 0, 1, x2], [0, 0, 0, 1]] i) k * gi (gm [[1, y0, y3, y5], [0, 1, y1, y4], [0, 0, 1, y2], [0, 0, 0, 1]] k) j).sum) 0 2, (fun i j => ((List.range 4).map fun (k : Nat) => gi (gm [[1, x0, x3, x5], [0, 1, x1, x4], [0, 0, 1, x2], [0, 0, 0, 1]] i) k * gi (gm [[1, y0, y3, y5], [0, 1, y1, y4], [0, 0, 1, y2], [0, 0, 0, 1]] k) j).sum) 1 3, (fun i j => ((List.range 4).map fun (k : Nat) => gi (gm [[1, x0, x3, x5], [0, 1, x1, x4], [0, 0, 1, x2], [0, 0, 0, 1]] i) k * gi (gm [[1, y0, y3, y5], [0, 1, y1, y4], [0, 0, 1, y2], [0, 0, 0, 1]] k) j).sum) 0 3, (fun i j => ((List.range 3).map fun (k : Nat) => gi (gm [[1, x6, x8], [0, 1, x7], [0, 0, 1]] i) k * gi (gm [[1, y6, y8], [0, 1, y7], [0, 0, 1]] k) j).sum) 0 1, (fun i j => ((List.range 3).map fun (k : Nat) => gi (gm [[1, x6, x8], [0, 1, x7], [0, 0, 1]] i) k * gi (gm [[1, y6, y8], [0, 1, y7], [0, 0, 1]] k) j).sum) 1 2, (fun i j => ((List.range 3).map fun (k : Nat) => gi (gm [[1, x6, x8], [0, 1, x7], [0, 0, 1]] i) k * gi (gm [[1, y6, y8], [0, 1, y7], [0, 0, 1]] k) j).sum) 0 2] = prodF [x0, x1, x2, x3, x4, x5, x6, x7, x8] [y0, y1, y2, y3, y4, y5, y6, y7, y8] 0 [4, 3] := by
  simp [List.range_succ, gi, gm, prodF, blockP, dotP, tbl]
  try grind
theorem lm7 (d : Nat) (x0 x1 x2 x3 x4 x5 x6 x7 x8 x9 x10 : Int) : callF tb (d + 3) 30 [.tup (iv [2, 5]), .tup (iv [x0, x1, x2, x3, x4, x5, x6, x7, x8, x9, x10])] [] = .ok (.lst [mv [[1, x0], [0, 1]], mv [[1, x1, x5, x8, x10], [0, 1, x2, x6, x9], [0, 0, 1, x3, x7], [0, 0, 0, 1, x4], [0, 0, 0, 0, 1]]]) [] := by kernel_rfl
theorem le7 (d : Nat) (f0 f1 : Nat → Nat → Int) : callF tb (d + 3) 32 [.tup (iv [2, 5]), .lst [mv (mk 2 f0), mv (mk 5 f1)]] [] = .ok (.tup (iv [f0 0 1, f1 0 1, f1 1 2, f1 2 3, f1 3 4, f1 0 2, f1 1 3, f1 2 4, f1 0 3, f1 1 4, f1 0 4])) [] := by kernel_rfl
theorem lq7 (x0 x1 x2 x3 x4 x5 x6 x7 x8 x9 x10 y0 y1 y2 y3 y4 y5 y6 y7 y8 y9 y10 : Int) : [(fun i j => ((List.range 2).map fun (k : Nat) => gi (gm [[1, x0], [0, 1]] i) k * gi (gm [[1, y0], [0, 1]] k) j).sum) 0 1, (fun i j => ((List.range 5).map fun (k : Nat) => gi (gm [[1, x1, x5, x8, x10], [0, 1, x2, x6, x9], [0, 0, 1, x3, x7], [0, 0, 0, 1, x4], [0, 0, 0, 0, 1]] i) k * gi (gm [[1, y1, y5, y8, y10], [0, 1, y2, y6, y9], [0, 0, 1, y3, y7], [0, 0, 0, 1, y4], [0, 0, 0, 0, 1]] k) j).sum) 0 1, (fun i j => ((List.range 5).map fun (k : Nat) => gi (gm [[1, x1, x5, x8, x10], [0, 1, x2, x6, x9], [0, 0, 1, x3, x7], [0, 0, 0, 1, x4], [0, 0, 0, 0, 1]] i) k * gi (gm [[1, y1, y5, y8, y10], [0, 1, y2, y6, y9], [0, 0, 1, y3, y7], [0, 0, 0, 1, y4], [0, 0, 0, 0, 1]] k) j).sum) 1 2, (fun i j => ((List.range 5).map fun (k : Nat) => gi (gm [[1, x1, x5, x8, x10], [0, 1, x2, x6, x9], [0, 0, 1, x3, x7], [0, 0, 0, 1, x4], [0, 0, 0, 0, 1]] i) k * gi (gm [[1, y1, y5, y8, y10], [0, 1, y2, y6, y9], [0, 0, 1, y3, y7], [0, 0, 0, 1, y4], [0, 0, 0, 0, 1]] k) j).sum) 2 3, (fun i j => ((List.range 5).map fun (k : Nat) => gi (gm [[1, x1, x5, x8, x10], [0, 1, x2, x6, x9], [0, 0, 1, x3, x7], [0, 0, 0, 1, x4], [0, 0, 0, 0, 1]] i) k * gi (gm [[1, y1, y5, y8, y10], [0, 1, y2, y6, y9], [0, 0, 1, y3, y7], [0, 0, 0, 1, y4], [0, 0, 0, 0, 1]] k) j).sum) 3 4, (fun i j => ((List.range 5).map fun (k : Nat) => gi (gm [[1, x1, x5, x8, x10], [0, 1, x2, x6, x9], [0, 0, 1, x3, x7], [0, 0, 0, 1, x4], [0, 0, 0, 0, 1]] i) k * gi (gm [[1, y1, y5, y8, y10], [0, 1, y2, y6, y9], [0, 0, 1, y3, y7], [0, 0, 0, 1, y4], [0, 0, 0, 0, 1]] k) j).sum) 0 2, (fun i j => ((List.range 5).map fun (k : Nat) => gi (gm [[1, x1, x5, x8, x10], [0, 1, x2, x6, x9], [0, 0, 1, x3, x7], [0, 0, 0, 1, x4], [0, 0, 0, 0, 1]] i) k * gi (gm [[1, y1, y5, y8, y10], [0, 1, y2, y6, y9], [0, 0, 1, y3, y7], [0, 0, 0, 1, y4], [0, 0, 0, 0, 1]] k) j).sum) 1 3, (fun i j => ((List.range 5).map fun (k : Nat) => gi (gm [[1, x1, x5, x8, x10], [0, 1, x2, x6, x9], [0, 0, 1, x3, x7], [0, 0, 0, 1, x4], [0, 0, 0, 0, 1]] i) k * gi (gm [[1, y1, y5, y8, y10], [0, 1, y2, y6, y9], [0, 0, 1, y3, y7], [0, 0, 0, 1, y4], [0, 0, 0, 0, 1]] k) j).sum) 2 4, (fun i j => ((List.range 5).map fun (k : Nat) => gi (gm [[1, x1, x5, x8, x10], [0, 1, x2, x6, x9], [0, 0, 1, x3, x7], [0, 0, 0, 1, x4], [0, 0, 0, 0, 1]] i) k * gi (gm [[1, y1, y5, y8, y10], [0, 1, y2, y6, y9], [0, 0, 1, y3, y7], [0, 0, 0, 1, y4], [0, 0, 0, 0, 1]] k) j).sum) 0 3, (fun i j => ((List.range 5).map fun (k : Nat) => gi (gm [[1, x1, x5, x8, x10], [0, 1, x2, x6, x9], [0, 0, 1, x3, x7], [0, 0, 0, 1, x4], [0, 0, 0, 0, 1]] i) k * gi (gm [[1, y1, y5, y8, y10], [0, 1, y2, y6, y9], [0, 0, 1, y3, y7], [0, 0, 0, 1, y4], [0, 0, 0, 0, 1]] k) j).sum) 1 4, (fun i j => ((List.range 5).map fun (k : Nat) => gi (gm [[1, x1, x5, x8, x10], [0, 1, x2, x6, x9], [0, 0, 1, x3, x7], [0, 0, 0, 1, x4], [0, 0, 0, 0, 1]] i) k * gi (gm [[1, y1, y5, y8, y10], [0, 1, y2, y6, y9], [0, 0, 1, y3, y7], [0, 0, 0, 1, y4], [0, 0, 0, 0, 1]] k) j).sum) 0 4] = prodF [x0, x1, x2, x3, x4, x5, x6, x7, x8, x9, x10] [y0, y1, y2, y3, y4, y5, y6, y7, y8, y9, y10] 0 [2, 5] := by
  simp [List.range_succ, gi, gm, prodF, blockP, dotP, tbl]
  try grind
theorem lm8 (d : Nat) (x0 x1 x2 x3 x4 : Int) : callF tb (d + 3) 30 [.tup (iv [3, 2, 2]), .tup (iv [x0, x1, x2, x3, x4])] [] = .ok (.lst [mv [[1, x0, x2], [0, 1, x1], [0, 0, 1]], mv [[1, x3], [0, 1]], mv [[1, x4], [0, 1]]]) [] := by kernel_rfl
theorem le8 (d : Nat) (f0 f1 f2 : Nat → Nat → Int) : callF tb (d + 3) 32 [.tup (iv [3, 2, 2]), .lst [mv (mk 3 f0), mv (mk 2 f1), mv (mk 2 f2)]] [] = .ok (.tup (iv [f0 0 1, f0 1 2, f0 0 2, f1 0 1, f2 0 1])) [] := by kernel_rfl
theorem lq8 (x0 x1 x2 x3 x4 y0 y1 y2 y3 y4 : Int) : [(fun i j => ((List.range 3).map fun (k : Nat) => gi (gm [[1, x0, x2], [0, 1, x1], [0, 0, 1]] i) k * gi (gm [[1, y0, y2], [0, 1, y1], [0, 0, 1]] k) j).sum) 0 1, (fun i j => ((List.range 3).map fun (k : Nat) => gi (gm [[1, x0, x2], [0, 1, x1], [0, 0, 1]] i) k * gi (gm [[1, y0, y2], [0, 1, y1], [0, 0, 1]] k) j).sum) 1 2, (fun i j => ((List.range 3).map fun (k : Nat) => gi (gm [[1, x0, x2], [0, 1, x1], [0, 0, 1]] i) k * gi (gm [[1, y0, y2], [0, 1, y1], [0, 0, 1]] k) j).sum) 0 2, (fun i j => ((List.range 2).map fun (k : Nat) => gi (gm [[1, x3], [0, 1]] i) k * gi (gm [[1, y3], [0, 1]] k) j).sum) 0 1, (fun i j => ((List.range 2).map fun (k : Nat) => gi (gm [[1, x4], [0, 1]] i) k * gi (gm [[1, y4], [0, 1]] k) j).sum) 0 1] = prodF [x0, x1, x2, x3, x4] [y0, y1, y2, y3, y4] 0 [3, 2, 2] := by
  simp [List.range_succ, gi, gm, prodF, blockP, dotP, tbl]
  try grind
theorem lm9 (d : Nat) (x0 : Int) : callF tb (d + 3) 30 [.tup (iv [2]), .tup (iv [x0])] [] = .ok (.lst [mv [[1, x0], [0, 1]]]) [] := by kernel_rfl
theorem le9 (d : Nat) (f0 : Nat → Nat → Int) : callF tb (d + 3) 32 [.tup (iv [2]), .lst [mv (mk 2 f0)]] [] = .ok (.tup (iv [f0 0 1])) [] := by kernel_rfl
theorem lq9 (x0 y0 : Int) : [(fun i j => ((List.range 2).map fun (k : Nat) => gi (gm [[1, x0], [0, 1]] i) k * gi (gm [[1, y0], [0, 1]] k) j).sum) 0 1] = prodF [x0] [y0] 0 [2] := by
  simp [List.range_succ, gi, gm, prodF, blockP, dotP, tbl]
  try grind
theorem lm10 (d : Nat) (x0 x1 x2 x3 x4 x5 x6 x7 x8 : Int) : callF tb (d + 3) 30 [.tup (iv [3, 3, 3]), .tup (iv [x0, x1, x2, x3, x4, x5, x6, x7, x8])] [] = .ok (.lst [mv [[1, x0, x2], [0, 1, x1], [0, 0, 1]], mv [[1, x3, x5], [0, 1, x4], [0, 0, 1]], mv [[1, x6, x8], [0, 1, x7], [0, 0, 1]]]) [] := by kernel_rfl
theorem le10 (d : Nat) (f0 f1 f2 : Nat → Nat → Int) : callF tb (d + 3) 32 [.tup (iv [3, 3, 3]), .lst [mv (mk 3 f0), mv (mk 3 f1), mv (mk 3 f2)]] [] = .ok (.tup (iv [f0 0 1, f0 1 2, f0 0 2, f1 0 1, f1 1 2, f1 0 2, f2 0 1, f2 1 2, f2 0 2])) [] := by kernel_rfl
theorem lq10 (x0 x1 x2 x3 x4 x5 x6 x7 x8 y0 y1 y2 y3 y4 y5 y6 y7 y8 : Int) : [(fun i j => ((List.range 3).map fun (k : Nat) => gi (gm [[1, x0, x2], [0, 1, x1], [0, 0, 1]] i) k * gi (gm [[1, y0, y2], [0, 1, y1], [0, 0, 1]] k) j).sum) 0 1, (fun i j => ((List.range 3).map fun (k : Nat) => gi (gm [[1, x0, x2], [0, 1, x1], [0, 0, 1]] i) k * gi (gm [[1, y0, y2], [0, 1, y1], [0, 0, 1]] k) j).sum) 1 2, (fun i j => ((List.range 3).map fun (k : Nat) => gi (gm [[1, x0, x2], [0, 1, x1], [0, 0, 1]] i) k * gi (gm [[1, y0, y2], [0, 1, y1], [0, 0, 1]] k) j).sum) 0 2, (fun i j => ((List.range 3).map fun (k : Nat) => gi (gm [[1, x3, x5], [0, 1, x4], [0, 0, 1]] i) k * gi (gm [[1, y3, y5], [0, 1, y4], [0, 0, 1]] k) j).sum) 0 1, (fun i j => ((List.range 3).map fun (k : Nat) => gi (gm [[1, x3, x5], [0, 1, x4], [0, 0, 1]] i) k * gi (gm [[1, y3, y5], [0, 1, y4], [0, 0, 1]] k) j).sum) 1 2, (fun i j => ((List.range 3).map fun (k : Nat) => gi (gm [[1, x3, x5], [0, 1, x4], [0, 0, 1]] i) k * gi (gm [[1, y3, y5], [0, 1, y4], [0, 0, 1]] k) j).sum) 0 2, (fun i j => ((List.range 3).map fun (k : Nat) => gi (gm [[1, x6, x8], [0, 1, x7], [0, 0, 1]] i) k * gi (gm [[1, y6, y8], [0, 1, y7], [0, 0, 1]] k) j).sum) 0 1, (fun i j => ((List.range 3).map fun (k : Nat) => gi (gm [[1, x6, x8], [0, 1, x7], [0, 0, 1]] i) k * gi (gm [[1, y6, y8], [0, 1, y7], [0, 0, 1]] k) j).sum) 1 2, (fun i j => ((List.range 3).map fun (k : Nat) => gi (gm [[1, x6, x8], [0, 1, x7], [0, 0, 1]] i) k * gi (gm [[1, y6, y8], [0, 1, y7], [0, 0, 1]] k) j).sum) 0 2] = prodF [x0, x1, x2, x3, x4, x5, x6, x7, x8] [y0, y1, y2, y3, y4, y5, y6, y7, y8] 0 [3, 3, 3] := by
  simp [List.range_succ, gi, gm, prodF, blockP, dotP, tbl]
  try grind
theorem lm11 (d : Nat) (x0 x1 x2 x3 x4 x5 x6 x7 x8 x9 x10 x11 : Int) : callF tb (d + 3) 30 [.tup (iv [4, 4]), .tup (iv [x0, x1, x2, x3, x4, x5, x6, x7, x8, x9, x10, x11])] [] = .ok (.lst [mv [[1, x0, x3, x5], [0, 1, x1, x4], [0, 0, 1, x2], [0, 0, 0, 1]], mv [[1, x6, x9, x11], [0, 1, x7, x10], [0, 0, 1, x8], [0, 0, 0, 1]]]) [] := by kernel_rfl
theorem le11 (d : Nat) (f0 f1 : Nat → Nat → Int) : callF tb (d + 3) 32 [.tup (iv [4, 4]), .lst [mv (mk 4 f0), mv (mk 4 f1)]] [] = .ok (.tup (iv [f0 0 1, f0 1 2, f0 2 3, f0 0 2, f0 1 3, f0 0 3, f1 0 1, f1 1 2, f1 2 3, f1 0 2, f1 1 3, f1 0 3])) [] := by kernel_rfl
theorem lq11 (x0 x1 x2 x3 x4 x5 x6 x7 x8 x9 x10 x11 y0 y1 y2 y3 y4 y5 y6 y7 y8 y9 y10 y11 : Int) : [(fun i j => ((List.range 4).map fun (k : Nat) => gi (gm [[1, x0, x3, x5], [0, 1, x1, x4], [0, 0, 1, x2], [0, 0, 0, 1]] i) k * gi (gm [[1, y0, y3, y5], [0, 1, y1, y4], [0, 0, 1, y2], [0, 0, 0, 1]] k) j).sum) 0 1, (fun i j => ((List.range 4).map fun (k : Nat) => gi (gm [[1, x0, x3, x5], [0, 1, x1, x4], [0, 0, 1, x2], [0, 0, 0, 1]] i) k * gi (gm [[1, y0, y3, y5], [0, 1, y1, y4], [0, 0, 1, y2], [0, 0, 0, 1]] k) j).sum) 1 2, (fun i j => ((List.range 4).map fun (k : Nat) => gi (gm [[1, x0, x3, x5], [0, 1, x1, x4], [0, 0, 1, x2], [0, 0, 0, 1]] i) k * gi (gm [[1, y0, y3, y5], [0, 1, y1, y4], [0, 0, 1, y2], [0, 0, 0, 1]] k) j).sum) 2 3, (fun i j => ((List.range 4).map fun (k : Nat) => gi (gm [[1, x0, x3, x5], [0, 1, x1, x4], [0, 0, 1, x2], [0, 0, 0, 1]] i) k * gi (gm [[1, y0, y3, y5], [0, 1, y1, y4], [0, 0, 1, y2], [0, 0, 0, 1]] k) j).sum) 0 2, (fun i j => ((List.range 4).map fun (k : Nat) => gi (gm [[1, x0, x3, x5], [0, 1, x1, x4], [0, 0, 1, x2], [0, 0, 0, 1]] i) k * gi (gm [[1, y0, y3, y5], [0, 1, y1, y4], [0, 0, 1, y2], [0, 0, 0, 1]] k) j).sum) 1 3, (fun i j => ((List.range 4).map fun (k : Nat) => gi (gm [[1, x0, x3, x5], [0, 1, x1, x4], [0, 0, 1, x2], [0, 0, 0, 1]] i) k * gi (gm [[1, y0, y3, y5], [0, 1, y1, y4], [0, 0, 1, y2], [0, 0, 0, 1]] k) j).sum) 0 3, (fun i j => ((List.range 4).map fun (k : Nat) => gi (gm [[1, x6, x9, x11], [0, 1, x7, x10], [0, 0, 1, x8], [0, 0, 0, 1]] i) k * gi (gm [[1, y6, y9, y11], [0, 1, y7, y10], [0, 0, 1, y8], [0, 0, 0, 1]] k) j).sum) 0 1, (fun i j => ((List.range 4).map fun (k : Nat) => gi (gm [[1, x6, x9, x11], [0, 1, x7, x10], [0, 0, 1, x8], [0, 0, 0, 1]] i) k * gi (gm [[1, y6, y9, y11], [0, 1, y7, y10], [0, 0, 1, y8], [0, 0, 0, 1]] k) j).sum) 1 2, (fun i j => ((List.range 4).map fun (k : Nat) => gi (gm [[1, x6, x9, x11], [0, 1, x7, x10], [0, 0, 1, x8], [0, 0, 0, 1]] i) k * gi (gm [[1, y6, y9, y11], [0, 1, y7, y10], [0, 0, 1, y8], [0, 0, 0, 1]] k) j).sum) 2 3, (fun i j => ((List.range 4).map fun (k : Nat) => gi (gm [[1, x6, x9, x11], [0, 1, x7, x10], [0, 0, 1, x8], [0, 0, 0, 1]] i) k * gi (gm [[1, y6, y9, y11], [0, 1, y7, y10], [0, 0, 1, y8], [0, 0, 0, 1]] k) j).sum) 0 2, (fun i j => ((List.range 4).map fun (k : Nat) => gi (gm [[1, x6, x9, x11], [0, 1, x7, x10], [0, 0, 1, x8], [0, 0, 0, 1]] i) k * gi (gm [[1, y6, y9, y11], [0, 1, y7, y10], [0, 0, 1, y8], [0, 0, 0, 1]] k) j).sum) 1 3, (fun i j => ((List.range 4).map fun (k : Nat) => gi (gm [[1, x6, x9, x11], [0, 1, x7, x10], [0, 0, 1, x8], [0, 0, 0, 1]] i) k * gi (gm [[1, y6, y9, y11], [0, 1, y7, y10], [0, 0, 1, y8], [0, 0, 0, 1]] k) j).sum) 0 3] = prodF [x0, x1, x2, x3, x4, x5, x6, x7, x8, x9, x10, x11] [y0, y1, y2, y3, y4, y5, y6, y7, y8, y9, y10, y11] 0 [4, 4] := by
  simp [List.range_succ, gi, gm, prodF, blockP, dotP, tbl]
  try grind
theorem lm12 (d : Nat) (x0 x1 x2 x3 x4 x5 x6 x7 x8 x9 x10 x11 : Int) : callF tb (d + 3) 30 [.tup (iv [5, 2, 2]), .tup (iv [x0, x1, x2, x3, x4, x5, x6, x7, x8, x9, x10, x11])] [] = .ok (.lst [mv [[1, x0, x4, x7, x9], [0, 1, x1, x5, x8], [0, 0, 1, x2, x6], [0, 0, 0, 1, x3], [0, 0, 0, 0, 1]], mv [[1, x10], [0, 1]], mv [[1, x11], [0, 1]]]) [] := by kernel_rfl
theorem le12 (d : Nat) (f0 f1 f2 : Nat → Nat → Int) : callF tb (d + 3) 32 [.tup (iv [5, 2, 2]), .lst [mv (mk 5 f0), mv (mk 2 f1), mv (mk 2 f2)]] [] = .ok (.tup (iv [f0 0 1, f0 1 2, f0 2 3, f0 3 4, f0 0 2, f0 1 3, f0 2 4, f0 0 3, f0 1 4, f0 0 4, f1 0 1, f2 0 1])) [] := by kernel_rfl
theorem lq12 (x0 x1 x2 x3 x4 x5 x6 x7 x8 x9 x10 x11 y0 y1 y2 y3 y4 y5 y6 y7 y8 y9 y10 y11 : Int) : [(fun i j => ((List.range 5).map fun (k : Nat) => gi (gm [[1, x0, x4, x7, x9], [0, 1, x1, x5, x8], [0, 0, 1, x2, x6], [0, 0, 0, 1, x3], [0, 0, 0, 0, 1]] i) k * gi (gm [[1, y0, y4, y7, y9], [0, 1, y1, y5, y8], [0, 0, 1, y2, y6], [0, 0, 0, 1, y3], [0, 0, 0, 0, 1]] k) j).sum) 0 1, (fun i j => ((List.range 5).map fun (k : Nat) => gi (gm [[1, x0, x4, x7, x9], [0, 1, x1, x5, x8], [0, 0, 1, x2, x6], [0, 0, 0, 1, x3], [0, 0, 0, 0, 1]] i) k * gi (gm [[1, y0, y4, y7, y9], [0, 1, y1, y5, y8], [0, 0, 1, y2, y6], [0, 0, 0, 1, y3], [0, 0, 0, 0, 1]] k) j).sum) 1 2, (fun i j => ((List.range 5).map fun (k : Nat) => gi (gm [[1, x0, x4, x7, x9], [0, 1, x1, x5, x8], [0, 0, 1, x2, x6], [0, 0, 0, 1, x3], [0, 0, 0, 0, 1]] i) k * gi (gm [[1, y0, y4, y7, y9], [0, 1, y1, y5, y8], [0, 0, 1, y2, y6], [0, 0, 0, 1, y3], [0, 0, 0, 0, 1]] k) j).sum) 2 3, (fun i j => ((List.range 5).map fun (k : Nat) => gi (gm [[1, x0, x4, x7, x9], [0, 1, x1, x5, x8], [0, 0, 1, x2, x6], [0, 0, 0, 1, x3], [0, 0, 0, 0, 1]] i) k * gi (gm [[1, y0, y4, y7, y9], [0, 1, y1, y5, y8], [0, 0, 1, y2, y6], [0, 0, 0, 1, y3], [0, 0, 0, 0, 1]] k) j).sum) 3 4, (fun i j => ((List.range 5).map fun (k : Nat) => gi (gm [[1, x0, x4, x7, x9], [0, 1, x1, x5, x8], [0, 0, 1, x2, x6], [0, 0, 0, 1, x3], [0, 0, 0, 0, 1]] i) k * gi (gm [[1, y0, y4, y7, y9], [0, 1, y1, y5, y8], [0, 0, 1, y2, y6], [0, 0, 0, 1, y3], [0, 0, 0, 0, 1]] k) j).sum) 0 2, (fun i j => ((List.range 5).map fun (k : Nat) => gi (gm [[1, x0, x4, x7, x9], [0, 1, x1, x5, x8], [0, 0, 1, x2, x6], [0, 0, 0, 1, x3], [0, 0, 0, 0, 1]] i) k * gi (gm [[1, y0, y4, y7, y9], [0, 1, y1, y5, y8], [0, 0, 1, y2, y6], [0, 0, 0, 1, y3], [0, 0, 0, 0, 1]] k) j).sum) 1 3, (fun i j => ((List.range 5).map fun (k : Nat) => gi (gm [[1, x0, x4, x7, x9], [0, 1, x1, x5, x8], [0, 0, 1, x2, x6], [0, 0, 0, 1, x3], [0, 0, 0, 0, 1]] i) k * gi (gm [[1, y0, y4, y7, y9], [0, 1, y1, y5, y8], [0, 0, 1, y2, y6], [0, 0, 0, 1, y3], [0, 0, 0, 0, 1]] k) j).sum) 2 4, (fun i j => ((List.range 5).map fun (k : Nat) => gi (gm [[1, x0, x4, x7, x9], [0, 1, x1, x5, x8], [0, 0, 1, x2, x6], [0, 0, 0, 1, x3], [0, 0, 0, 0, 1]] i) k * gi (gm [[1, y0, y4, y7, y9], [0, 1, y1, y5, y8], [0, 0, 1, y2, y6], [0, 0, 0, 1, y3], [0, 0, 0, 0, 1]] k) j).sum) 0 3, (fun i j => ((List.range 5).map fun (k : Nat) => gi (gm [[1, x0, x4, x7, x9], [0, 1, x1, x5, x8], [0, 0, 1, x2, x6], [0, 0, 0, 1, x3], [0, 0, 0, 0, 1]] i) k * gi (gm [[1, y0, y4, y7, y9], [0, 1, y1, y5, y8], [0, 0, 1, y2, y6], [0, 0, 0, 1, y3], [0, 0, 0, 0, 1]] k) j).sum) 1 4, (fun i j => ((List.range 5).map fun (k : Nat) => gi (gm [[1, x0, x4, x7, x9], [0, 1, x1, x5, x8], [0, 0, 1, x2, x6], [0, 0, 0, 1, x3], [0, 0, 0, 0, 1]] i) k * gi (gm [[1, y0, y4, y7, y9], [0, 1, y1, y5, y8], [0, 0, 1, y2, y6], [0, 0, 0, 1, y3], [0, 0, 0, 0, 1]] k) j).sum) 0 4, (fun i j => ((List.range 2).map fun (k : Nat) => gi (gm [[1, x10], [0, 1]] i) k * gi (gm [[1, y10], [0, 1]] k) j).sum) 0 1, (fun i j => ((List.range 2).map fun (k : Nat) => gi (gm [[1, x11], [0, 1]] i) k * gi (gm [[1, y11], [0, 1]] k) j).sum) 0 1] = prodF [x0, x1, x2, x3, x4, x5, x6, x7, x8, x9, x10, x11] [y0, y1, y2, y3, y4, y5, y6, y7, y8, y9, y10, y11] 0 [5, 2, 2] := by
  simp [List.range_succ, gi, gm, prodF, blockP, dotP, tbl]
  try grind
end K00
end

section
set_option Elab.async false
set_option linter.all false
set_option maxRecDepth 100000
set_option maxHeartbeats 0
set_option autoImplicit false
namespace K00
open PySem Ws

/-! ### sizes of the numbers -/
theorem gi_bd {a : Nat} {X : List Int} (h : Bd a X) (i : Int) : (gi X i).natAbs < 2 ^ a := by
  by_cases hi : i.toNat < X.length
  · exact h _ (gi_mem hi)
  · unfold gi
    rw [List.getD_eq_getElem?_getD, List.getElem?_eq_none (by omega)]
    exact Nat.pow_pos (by decide)
theorem Bd.mono {a b : Nat} {X : List Int} (h : Bd a X) (hab : a ≤ b) : Bd b X := fun v hv => Nat.lt_of_lt_of_le (h v hv) (Nat.pow_le_pow_right (by decide) hab)
theorem Bd.app {a : Nat} {X Y : List Int} (h : Bd a X) (k : Bd a Y) : Bd a (X ++ Y) := fun v hv => (List.mem_append.mp hv).elim (h v) (k v)
theorem Bd.nil {a : Nat} : Bd a [] := fun _ h => absurd h List.not_mem_nil
theorem mul_bd {i j : Int} {a b : Nat} (ha : i.natAbs < 2 ^ a) (hb : j.natAbs < 2 ^ b) : (i * j).natAbs ≤ 2 ^ (a + b) := by
  rw [Int.natAbs_mul, Nat.pow_add]
  exact Nat.mul_le_mul (Nat.le_of_lt ha) (Nat.le_of_lt hb)
theorem dotP_bd {a b : Nat} {X Y : List Int} (hx : Bd a X) (hy : Bd b Y) {s : Int} : ∀ (ps : List (Int × Int)) (t : Int), (dotP X Y s ps t).natAbs ≤ t.natAbs + ps.length * 2 ^ (a + b)
  | [], t => by simp [dotP]
  | p :: ps, t => by
    have ih := dotP_bd hx hy (s := s) ps (t + gi X (s + p.1) * gi Y (s + p.2))
    have m := mul_bd (gi_bd hx (s + p.1)) (gi_bd hy (s + p.2))
    have l : (t + gi X (s + p.1) * gi Y (s + p.2)).natAbs ≤ t.natAbs + (gi X (s + p.1) * gi Y (s + p.2)).natAbs := Int.natAbs_add_le _ _
    rw [dotP, List.length_cons, Nat.add_mul, Nat.one_mul]
    omega
/-- what holds of the pairs of a table -/
theorem tbl_ok {n : Int} (hn : Size n) : ∀ ps ∈ tbl n, ps.length ≤ 3 ∧ ∀ q ∈ ps, (0 ≤ q.1 ∧ q.1 < (tbl n).length) ∧ (0 ≤ q.2 ∧ q.2 < (tbl n).length) := by
  rcases hn with rfl | rfl | rfl | rfl <;> decide
theorem pow_ge {a b : Nat} : 2 ^ a ≤ 2 ^ (a + b) := Nat.pow_le_pow_right (by decide) (by omega)
theorem pow_ge' {a b : Nat} : 2 ^ b ≤ 2 ^ (a + b) := Nat.pow_le_pow_right (by decide) (by omega)
theorem blockP_bd {a b : Nat} {X Y : List Int} (hx : Bd a X) (hy : Bd b Y) {s : Int} : ∀ (t : List (List (Int × Int))) (k : Int), (∀ ps ∈ t, ps.length ≤ 3) → Bd (a + b + 3) (blockP X Y s k t)
  | [], _, _ => Bd.nil
  | ps :: t, k, h => by
    intro v hv
    rcases List.mem_cons.mp hv with rfl | hv
    · have d := dotP_bd hx hy (s := s) ps (gi X (s + k) + gi Y (s + k))
      have l := Int.natAbs_add_le (gi X (s + k)) (gi Y (s + k))
      have x1 := gi_bd hx (s + k)
      have y1 := gi_bd hy (s + k)
      have p1 : 2 ^ a ≤ 2 ^ (a + b) := pow_ge
      have p2 : 2 ^ b ≤ 2 ^ (a + b) := pow_ge'
      have m : ps.length * 2 ^ (a + b) ≤ 3 * 2 ^ (a + b) := Nat.mul_le_mul_right _ (h ps List.mem_cons_self)
      have e : 2 ^ (a + b + 3) = 8 * 2 ^ (a + b) := by rw [Nat.pow_add]; omega
      have z : 0 < 2 ^ (a + b) := Nat.pow_pos (by decide)
      omega
    · exact blockP_bd hx hy t (k + 1) (fun q hq => h q (List.mem_cons_of_mem _ hq)) v hv
def Sizes (ns : List Int) : Prop := ∀ n ∈ ns, Size n
def wid : List Int → Nat
  | [] => 0
  | n :: r => (tbl n).length + wid r
theorem prodF_len {X Y : List Int} : ∀ (ns : List Int) (s : Int), (prodF X Y s ns).length = wid ns
  | [], _ => rfl
  | n :: r, s => by rw [prodF, List.length_append, blockP_len, prodF_len r, wid]
theorem prodF_bd {a b : Nat} {X Y : List Int} (hx : Bd a X) (hy : Bd b Y) : ∀ (ns : List Int) (s : Int), Sizes ns → Bd (a + b + 3) (prodF X Y s ns)
  | [], _, _ => Bd.nil
  | n :: r, s, h => (blockP_bd hx hy _ _ fun ps hp => (tbl_ok (h n List.mem_cons_self) ps hp).1).app (prodF_bd hx hy r _ fun m hm => h m (List.mem_cons_of_mem _ hm))
theorem pairOk_of {a b : Nat} {X Y : List Int} (hx : Bd a X) (hy : Bd b Y) (ha : 0 < a) (hb : 0 < b) (hab : a + b ≤ 1000000) {s : Int} {w : Nat} {q : Int × Int} (hs : 0 ≤ s) (q1 : 0 ≤ q.1 ∧ q.1 < w) (q2 : 0 ≤ q.2 ∧ q.2 < w)
    (lx : s + w ≤ X.length) (ly : s + w ≤ Y.length) : PairOk X Y s q := ⟨by omega, by omega, mf (gi_bd hx _) (gi_bd hy _) ha hb hab⟩
theorem spOk_of {a b : Nat} {X Y : List Int} (hx : Bd a X) (hy : Bd b Y) (ha : 0 < a) (hb : 0 < b) (hab : a + b ≤ 1000000) : ∀ (ns : List Int) (s : Int), Sizes ns → 0 ≤ s → s + wid ns ≤ X.length → s + wid ns ≤ Y.length → SpOk X Y s ns
  | [], _, _, _, _, _ => trivial
  | n :: r, s, h, h0, lx, ly => by
    rw [wid] at lx ly
    push_cast at lx ly
    refine ⟨h n List.mem_cons_self, ?_, by omega, by omega, spOk_of hx hy ha hb hab r _ (fun m hm => h m (List.mem_cons_of_mem _ hm)) (by omega) (by omega) (by omega)⟩
    intro ps hp q hq
    have t := (tbl_ok (h n List.mem_cons_self) ps hp).2 q hq
    exact pairOk_of hx hy ha hb hab h0 t.1 t.2 (by omega) (by omega)
/-- the pairs look back -/
def Back (w : Nat) : Nat → List (List (Int × Int)) → Prop
  | _, [] => True
  | k, ps :: t => (ps.length ≤ 3 ∧ ∀ q ∈ ps, (0 ≤ q.1 ∧ q.1 < w) ∧ (0 ≤ q.2 ∧ q.2 < k)) ∧ Back w (k + 1) t
theorem tbl_back {n : Int} (hn : Size n) : Back (tbl n).length 0 (tbl n) := by
  rcases hn with rfl | rfl | rfl | rfl <;> simp [Back, tbl]
/-- bits after a number of places -/
def inb (a k : Nat) : Nat := (k + 1) * (a + 3)
theorem inb_le {a k m : Nat} (h : k ≤ m) : inb a k ≤ inb a m := Nat.mul_le_mul_right _ (by omega)
theorem inv_entry {a k : Nat} {X es : List Int} {s j : Int} {ps : List (Int × Int)} (hx : Bd a X) (he : Bd (inb a k) es) (h3 : ps.length ≤ 3) : (-(dotP X es s ps (gi X j))).natAbs < 2 ^ inb a (k + 1) := by
  have d := dotP_bd hx he (s := s) ps (gi X j)
  have x1 := gi_bd hx j
  have p1 : 2 ^ a ≤ 2 ^ (a + inb a k) := pow_ge
  have m : ps.length * 2 ^ (a + inb a k) ≤ 3 * 2 ^ (a + inb a k) := Nat.mul_le_mul_right _ h3
  have e : 2 ^ inb a (k + 1) = 8 * 2 ^ (a + inb a k) := by
    have : inb a (k + 1) = (a + inb a k) + 3 := by unfold inb; rw [Nat.add_mul (k + 1) 1, Nat.one_mul]; omega
    rw [this, Nat.pow_add]
    omega
  have z : 0 < 2 ^ (a + inb a k) := Nat.pow_pos (by decide)
  rw [Int.natAbs_neg]
  omega
theorem invB_ok {a : Nat} {X : List Int} {s w : Nat} (hx : Bd a X) (ha : 0 < a) (lw : s + w ≤ X.length) : ∀ (t : List (List (Int × Int))) (k : Nat) (es : List Int), Back w k t → es.length = s + k → Bd (inb a (s + k)) es → a + inb a (s + k + t.length) ≤ 1000000 →
    InvOk X s k t es ∧ Bd (inb a (s + k + t.length)) (invB X s k t es)
  | [], k, es, _, _, be, _ => ⟨trivial, by simpa [invB] using be⟩
  | ps :: t, k, es, ⟨⟨h3, hq⟩, bk⟩, le, be, hb => by
    rw [List.length_cons] at hb
    have hm : inb a (s + k) ≤ inb a (s + k + (t.length + 1)) := inb_le (by omega)
    have h0 : 0 < inb a (s + k) := by unfold inb; exact Nat.mul_pos (by omega) (by omega)
    have be2 : Bd (inb a (s + (k + 1))) (es ++ [-(dotP X es s ps (gi X (s + k)))]) := by
      refine (be.mono (inb_le (by omega))).app ?_
      intro v hv
      rw [List.mem_singleton.mp hv]
      exact inv_entry hx be h3
    have e0 : s + (k + 1) + t.length = s + k + (t.length + 1) := by omega
    have ih := invB_ok hx ha lw t (k + 1) _ bk (by simp; omega) be2 (by rw [e0]; exact hb)
    have e2 : s + (k + 1) + t.length = s + k + (ps :: t).length := by simp; omega
    rw [e2] at ih
    have e3 : ((k + 1 : Nat) : Int) = (k : Int) + 1 := by omega
    rw [e3] at ih
    refine ⟨⟨?_, ih.1⟩, ih.2⟩
    intro q hq'
    have t1 := hq q hq'
    exact ⟨by omega, by omega, mf (gi_bd hx _) (gi_bd be _) ha h0 (by omega)⟩
theorem invF_ok {a : Nat} {X : List Int} (hx : Bd a X) (ha : 0 < a) : ∀ (ns : List Int) (s : Nat) (es : List Int), Sizes ns → es.length = s → s + wid ns ≤ X.length → Bd (inb a s) es → a + inb a (s + wid ns) ≤ 1000000 →
    InvsOk X s ns es ∧ Bd (inb a (s + wid ns)) (invF X s ns es) ∧ (invF X s ns es).length = s + wid ns
  | [], s, es, _, le, _, be, _ => ⟨trivial, be, le⟩
  | n :: r, s, es, h, le, lx, be, hb => by
    have sz := h n List.mem_cons_self
    rw [wid] at lx hb
    have e1 : s + ((tbl n).length + wid r) = s + (tbl n).length + wid r := by omega
    have hm : inb a (s + (tbl n).length) ≤ inb a (s + (tbl n).length + wid r) := inb_le (by omega)
    rw [e1] at hb
    have b := invB_ok hx ha (s := s) (w := (tbl n).length) (by omega) (tbl n) 0 es (tbl_back sz) (by omega) be (by simpa using Nat.le_trans (Nat.add_le_add_left hm a) hb)
    have ih := invF_ok hx ha r (s + (tbl n).length) (invB X s 0 (tbl n) es) (fun m hm => h m (List.mem_cons_of_mem _ hm)) (by rw [invB_len]; omega) (by omega) b.2 hb
    rw [wid, e1]
    have e3 : ((s + (tbl n).length : Nat) : Int) = (s : Int) + ((tbl n).length : Int) := by omega
    rw [e3] at ih
    exact ⟨⟨sz, b.1, by omega, ih.1⟩, ih.2⟩
end K00
end

section
set_option Elab.async false
set_option linter.all false
set_option maxRecDepth 100000
set_option maxHeartbeats 0
set_option autoImplicit false
namespace K00
open PySem Ws

/-! ### _law_product, of the matrices -/
theorem compA_ {p : Pr} {env : SE} {h h1 : SH} {α : Type} {c : Bool} {elt : CE} {t : CT} {it : CI} {own : List Nat} {ps : List α} (f g : α → SV) (e : evi p it env h = .ok (ps.map f) h1) (b : ∀ x ∈ ps, ∃ env2, store t (f x) (wipeE env own) = some env2 ∧ ev p elt env2 h1 = .ok (g x) h1) :
    ev p (.comp c elt t it own) env h = mkL c (ps.map g) h1 := by
  rw [ev, e]
  simp only [Res.bind_ok]
  have go : ∀ ys : List α, (∀ x ∈ ys, ∃ env2, store t (f x) (wipeE env own) = some env2 ∧ ev p elt env2 h1 = .ok (g x) h1) → compF (fun x h => match store t x (wipeE env own) with
    | none => .bad
    | some env2 => (ev p elt env2 h).bind fun y h => .ok (some y) h) (ys.map f) h1 = .ok (ys.map g) h1 := by
    intro ys
    induction ys with
    | nil => intro _; rfl
    | cons y ys ih =>
      intro hy
      obtain ⟨env2, e1, e2⟩ := hy y List.mem_cons_self
      rw [List.map_cons, compF, e1]
      simp only [e2, Res.bind_ok]
      rw [ih fun x hx => hy x (List.mem_cons_of_mem _ hx)]
      rfl
  exact congrArg (fun r => Res.bind r fun r h => mkL c r h) (go ps b)
/-- a square matrix of numbers -/
def Sq (a : Nat) (A : List (List Int)) : Prop := A.length ≤ 5 ∧ (∀ r ∈ A, r.length = A.length) ∧ ∀ r ∈ A, Bd a r
theorem zip_mv : ∀ MX MY : List (List (List Int)), zip2Of (MX.map mv) (MY.map mv) = (MX.zip MY).map fun p => SV.tup [mv p.1, mv p.2]
  | [], _ => rfl
  | _ :: _, [] => rfl
  | A :: MX, B :: MY => by
    show SV.tup [mv A, mv B] :: zip2Of (MX.map mv) (MY.map mv) = _
    rw [zip_mv MX MY]
    rfl
theorem law_product_of {d a b : Nat} {hh : SH} {ns X Y R : List Int} {MX MY : List (List (List Int))}
    (lx : ∀ d, callF tb (d + 3) 30 [.tup (iv ns), .tup (iv X)] [] = .ok (.lst (MX.map mv)) [])
    (ly : ∀ d, callF tb (d + 3) 30 [.tup (iv ns), .tup (iv Y)] [] = .ok (.lst (MY.map mv)) [])
    (ok : ∀ p ∈ MX.zip MY, Sq a p.1 ∧ Sq b p.2 ∧ p.2.length = p.1.length) (hl : MX.length ≤ 3)
    (ha : 0 < a) (hb : 0 < b) (hab : a + b ≤ 1000000)
    (le : ∀ d, callF tb (d + 3) 32 [.tup (iv ns), .lst ((MX.zip MY).map fun p => mv (timesF p.1.length p.1 p.2))] [] = .ok (.tup (iv R)) []) :
    callF tb (d + 4) 33 [.tup (iv ns), .tup (iv X), .tup (iv Y)] hh = .ok (.tup (iv R)) hh := by
  refine call_ (F := f33) (h1 := []) rfl rfl (by simp [dryL, SV.dry, dry_iv]) rfl ?_ (fin_val rfl deep_tup_iv)
  show evSs (prOf tb (d + 3)) b33 [some (.tup (iv ns)), some (.tup (iv X)), some (.tup (iv Y)), none, none, none, none] [] = _
  have p1 : evS (prOf tb (d + 3)) (.par 3 4 (.call 30 [0, 1] (.cons (.var 0) (.cons (.var 1) .nil)) .nil) (.call 30 [0, 1] (.cons (.var 0) (.cons (.var 2) .nil)) .nil))
      [some (.tup (iv ns)), some (.tup (iv X)), some (.tup (iv Y)), none, none, none, none] [] =
      .nx [some (.tup (iv ns)), some (.tup (iv X)), some (.tup (iv Y)), some (.lst (MX.map mv)), some (.lst (MY.map mv)), none, none] [] := by
    have c1 : (prOf tb (d + 3)).call 30 [.tup (iv ns), .tup (iv X)] [] = .ok (.lst (MX.map mv)) [] := lx d
    have c2 : (prOf tb (d + 3)).call 30 [.tup (iv ns), .tup (iv Y)] [] = .ok (.lst (MY.map mv)) [] := ly d
    have q1 : permute [0, 1] ([SV.tup (iv ns), .tup (iv X)] ++ ([] ++ (prOf tb (d + 3)).dfl 30)) = [SV.tup (iv ns), .tup (iv X)] := rfl
    have q2 : permute [0, 1] ([SV.tup (iv ns), .tup (iv Y)] ++ ([] ++ (prOf tb (d + 3)).dfl 30)) = [SV.tup (iv ns), .tup (iv Y)] := rfl
    simp only [evS, ev, evs, look_zero, look_succ, Res.bind_ok, ofO, q1, q2, c1, c2, Out.of, List.set]
  unfold b33
  rw [nx_ p1]
  refine rt_ (ret_ ?_)
  have cp : ev (prOf tb (d + 3)) (.comp false (.call 31 [0, 1] (.cons (.var 5) (.cons (.var 6) .nil)) .nil) (.pair (.name 5) (.name 6)) (.zip2 (.var 3) (.var 4)) [5, 6])
      [some (.tup (iv ns)), some (.tup (iv X)), some (.tup (iv Y)), some (.lst (MX.map mv)), some (.lst (MY.map mv)), none, none] [] =
      .ok (.lst ((MX.zip MY).map fun p => mv (timesF p.1.length p.1 p.2))) [] := by
    rw [compA_ (ps := MX.zip MY) (fun p => SV.tup [mv p.1, mv p.2]) (fun p => mv (timesF p.1.length p.1 p.2)) (h1 := []) (by simp [evi, ev, zip_mv])]
    · refine mkL_val ?_
      rw [List.length_map, List.length_zip]
      have : seqLen = 16777216 := rfl
      omega
    · intro p hp
      obtain ⟨⟨a1, a2, a3⟩, ⟨b1, b2, b3⟩, e⟩ := ok p hp
      refine ⟨[some (.tup (iv ns)), some (.tup (iv X)), some (.tup (iv Y)), some (.lst (MX.map mv)), some (.lst (MY.map mv)), some (mv p.1), some (mv p.2)], by simp, ?_⟩
      have c : (prOf tb (d + 3)).call 31 [mv p.1, mv p.2] [] = .ok (mv (timesF p.1.length p.1 p.2)) [] :=
        law_times (d := d + 2) rfl a2 e (fun r hr => (b2 r hr).trans e) a1 a3 b3 ha hb hab
      have q1 : permute [0, 1] ([mv p.1, mv p.2] ++ ([] ++ (prOf tb (d + 3)).dfl 31)) = [mv p.1, mv p.2] := rfl
      simp only [ev, evs, look_zero, look_succ, Res.bind_ok, ofO, q1, c]
  have c3 : (prOf tb (d + 3)).call 32 [.tup (iv ns), .lst ((MX.zip MY).map fun p => mv (timesF p.1.length p.1 p.2))] [] = .ok (.tup (iv R)) [] := le d
  have q3 : ∀ L : SV, permute [0, 1] ([SV.tup (iv ns), L] ++ ([] ++ (prOf tb (d + 3)).dfl 32)) = [SV.tup (iv ns), L] := fun _ => rfl
  have es : evs (prOf tb (d + 3)) (.cons (.var 0) (.cons (.comp false (.call 31 [0, 1] (.cons (.var 5) (.cons (.var 6) .nil)) .nil) (.pair (.name 5) (.name 6)) (.zip2 (.var 3) (.var 4)) [5, 6]) .nil))
      [some (.tup (iv ns)), some (.tup (iv X)), some (.tup (iv Y)), some (.lst (MX.map mv)), some (.lst (MY.map mv)), none, none] [] =
      .ok [.tup (iv ns), .lst ((MX.zip MY).map fun p => mv (timesF p.1.length p.1 p.2))] [] := by
    have hv : ev (prOf tb (d + 3)) (.var 0) [some (.tup (iv ns)), some (.tup (iv X)), some (.tup (iv Y)), some (.lst (MX.map mv)), some (.lst (MY.map mv)), none, none] [] = .ok (.tup (iv ns)) [] := by rfl
    simp only [evs, hv, Res.bind_ok, cp]
  rw [ev, es]
  simp only [evs, Res.bind_ok]
  exact (congrArg (fun l => (prOf tb (d + 3)).call 32 l []) (q3 _)).trans c3
end K00
end

section
set_option Elab.async false
set_option linter.all false
set_option maxRecDepth 100000
set_option maxHeartbeats 0
set_option autoImplicit false
namespace K00
open PySem Ws
def zer (n : Nat) : List Int := List.replicate n 0

theorem lp0 {d a b : Nat} {hh : SH} {X Y : List Int} (hX : X.length = 3) (hY : Y.length = 3) (hx : Bd a X) (hy : Bd b Y) (ha : 0 < a) (hb : 0 < b) (hab : a + b ≤ 1000000) :
    callF tb (d + 4) 33 [.tup (iv [3]), .tup (iv X), .tup (iv Y)] hh = .ok (.tup (iv (prodF X Y 0 [3]))) hh :=
  match X, Y, hX, hY, hx, hy with
  | [x0, x1, x2], [y0, y1, y2], _, _, hx, hy => by
    have o1 : (1 : Nat) < 2 ^ a := Nat.one_lt_two_pow (by omega)
    have o2 : (1 : Nat) < 2 ^ b := Nat.one_lt_two_pow (by omega)
    have z1 : (0 : Nat) < 2 ^ a := by omega
    have z2 : (0 : Nat) < 2 ^ b := by omega
    simp only [Bd, List.mem_cons, List.not_mem_nil, or_false, forall_eq_or_imp, forall_eq] at hx hy
    rw [← lq0]
    refine law_product_of (MX := [[[1, x0, x2], [0, 1, x1], [0, 0, 1]]]) (MY := [[[1, y0, y2], [0, 1, y1], [0, 0, 1]]]) (fun d => lm0 d x0 x1 x2) (fun d => lm0 d y0 y1 y2) ?_ (by simp) ha hb hab (fun d => le0 d (fun i j => ((List.range 3).map fun (k : Nat) => gi (gm [[1, x0, x2], [0, 1, x1], [0, 0, 1]] i) k * gi (gm [[1, y0, y2], [0, 1, y1], [0, 0, 1]] k) j).sum))
    simp [Sq, Bd, hx, hy, o1, o2, z1, z2]
theorem ga0 {X Y Z : List Int} (hX : X.length = 3) (hY : Y.length = 3) (hZ : Z.length = 3) : prodF (prodF X Y 0 [3]) Z 0 [3] = prodF X (prodF Y Z 0 [3]) 0 [3] :=
  match X, Y, Z, hX, hY, hZ with
  | [x0, x1, x2], [y0, y1, y2], [z0, z1, z2], _, _, _ => by
    simp [gi, prodF, blockP, dotP, tbl]
    try grind
theorem gz0 {X : List Int} (hX : X.length = 3) : prodF (zer 3) X 0 [3] = X ∧ prodF X (zer 3) 0 [3] = X :=
  match X, hX with
  | [x0, x1, x2], _ => by
    simp [gi, prodF, blockP, dotP, tbl, zer, List.replicate]
theorem gv0 {X : List Int} (hX : X.length = 3) : prodF X (invF X 0 [3] []) 0 [3] = zer 3 ∧ prodF (invF X 0 [3] []) X 0 [3] = zer 3 :=
  match X, hX with
  | [x0, x1, x2], _ => by
    simp [gi, prodF, blockP, dotP, tbl, zer, List.replicate, invF, invB]
    try grind
theorem go0 {X I : List Int} (hX : X.length = 3) (hI : I.length = 3) (h : prodF X I 0 [3] = zer 3) : ∀ j, j < 3 → -(gi (prodF X (I.take j ++ zer (3 - j)) 0 [3]) j) = gi I j :=
  match X, I, hX, hI, h with
  | [x0, x1, x2], [i0, i1, i2], _, _, h => by
    simp [gi, prodF, blockP, dotP, tbl, zer, List.replicate] at h
    intro j hj
    match j, hj with
    | 0, _ => simp [gi, prodF, blockP, dotP, tbl, zer, List.replicate]; try omega
    | 1, _ => simp [gi, prodF, blockP, dotP, tbl, zer, List.replicate]; try omega
    | 2, _ => simp [gi, prodF, blockP, dotP, tbl, zer, List.replicate]; try omega
theorem lp1 {d a b : Nat} {hh : SH} {X Y : List Int} (hX : X.length = 4) (hY : Y.length = 4) (hx : Bd a X) (hy : Bd b Y) (ha : 0 < a) (hb : 0 < b) (hab : a + b ≤ 1000000) :
    callF tb (d + 4) 33 [.tup (iv [2, 3]), .tup (iv X), .tup (iv Y)] hh = .ok (.tup (iv (prodF X Y 0 [2, 3]))) hh :=
  match X, Y, hX, hY, hx, hy with
  | [x0, x1, x2, x3], [y0, y1, y2, y3], _, _, hx, hy => by
    have o1 : (1 : Nat) < 2 ^ a := Nat.one_lt_two_pow (by omega)
    have o2 : (1 : Nat) < 2 ^ b := Nat.one_lt_two_pow (by omega)
    have z1 : (0 : Nat) < 2 ^ a := by omega
    have z2 : (0 : Nat) < 2 ^ b := by omega
    simp only [Bd, List.mem_cons, List.not_mem_nil, or_false, forall_eq_or_imp, forall_eq] at hx hy
    rw [← lq1]
    refine law_product_of (MX := [[[1, x0], [0, 1]], [[1, x1, x3], [0, 1, x2], [0, 0, 1]]]) (MY := [[[1, y0], [0, 1]], [[1, y1, y3], [0, 1, y2], [0, 0, 1]]]) (fun d => lm1 d x0 x1 x2 x3) (fun d => lm1 d y0 y1 y2 y3) ?_ (by simp) ha hb hab (fun d => le1 d (fun i j => ((List.range 2).map fun (k : Nat) => gi (gm [[1, x0], [0, 1]] i) k * gi (gm [[1, y0], [0, 1]] k) j).sum) (fun i j => ((List.range 3).map fun (k : Nat) => gi (gm [[1, x1, x3], [0, 1, x2], [0, 0, 1]] i) k * gi (gm [[1, y1, y3], [0, 1, y2], [0, 0, 1]] k) j).sum))
    simp [Sq, Bd, hx, hy, o1, o2, z1, z2]
theorem ga1 {X Y Z : List Int} (hX : X.length = 4) (hY : Y.length = 4) (hZ : Z.length = 4) : prodF (prodF X Y 0 [2, 3]) Z 0 [2, 3] = prodF X (prodF Y Z 0 [2, 3]) 0 [2, 3] :=
  match X, Y, Z, hX, hY, hZ with
  | [x0, x1, x2, x3], [y0, y1, y2, y3], [z0, z1, z2, z3], _, _, _ => by
    simp [gi, prodF, blockP, dotP, tbl]
    try grind
theorem gz1 {X : List Int} (hX : X.length = 4) : prodF (zer 4) X 0 [2, 3] = X ∧ prodF X (zer 4) 0 [2, 3] = X :=
  match X, hX with
  | [x0, x1, x2, x3], _ => by
    simp [gi, prodF, blockP, dotP, tbl, zer, List.replicate]
theorem gv1 {X : List Int} (hX : X.length = 4) : prodF X (invF X 0 [2, 3] []) 0 [2, 3] = zer 4 ∧ prodF (invF X 0 [2, 3] []) X 0 [2, 3] = zer 4 :=
  match X, hX with
  | [x0, x1, x2, x3], _ => by
    simp [gi, prodF, blockP, dotP, tbl, zer, List.replicate, invF, invB]
    try grind
theorem go1 {X I : List Int} (hX : X.length = 4) (hI : I.length = 4) (h : prodF X I 0 [2, 3] = zer 4) : ∀ j, j < 4 → -(gi (prodF X (I.take j ++ zer (4 - j)) 0 [2, 3]) j) = gi I j :=
  match X, I, hX, hI, h with
  | [x0, x1, x2, x3], [i0, i1, i2, i3], _, _, h => by
    simp [gi, prodF, blockP, dotP, tbl, zer, List.replicate] at h
    intro j hj
    match j, hj with
    | 0, _ => simp [gi, prodF, blockP, dotP, tbl, zer, List.replicate]; try omega
    | 1, _ => simp [gi, prodF, blockP, dotP, tbl, zer, List.replicate]; try omega
    | 2, _ => simp [gi, prodF, blockP, dotP, tbl, zer, List.replicate]; try omega
    | 3, _ => simp [gi, prodF, blockP, dotP, tbl, zer, List.replicate]; try omega
theorem lp2 {d a b : Nat} {hh : SH} {X Y : List Int} (hX : X.length = 6) (hY : Y.length = 6) (hx : Bd a X) (hy : Bd b Y) (ha : 0 < a) (hb : 0 < b) (hab : a + b ≤ 1000000) :
    callF tb (d + 4) 33 [.tup (iv [4]), .tup (iv X), .tup (iv Y)] hh = .ok (.tup (iv (prodF X Y 0 [4]))) hh :=
  match X, Y, hX, hY, hx, hy with
  | [x0, x1, x2, x3, x4, x5], [y0, y1, y2, y3, y4, y5], _, _, hx, hy => by
    have o1 : (1 : Nat) < 2 ^ a := Nat.one_lt_two_pow (by omega)
    have o2 : (1 : Nat) < 2 ^ b := Nat.one_lt_two_pow (by omega)
    have z1 : (0 : Nat) < 2 ^ a := by omega
    have z2 : (0 : Nat) < 2 ^ b := by omega
    simp only [Bd, List.mem_cons, List.not_mem_nil, or_false, forall_eq_or_imp, forall_eq] at hx hy
    rw [← lq2]
    refine law_product_of (MX := [[[1, x0, x3, x5], [0, 1, x1, x4], [0, 0, 1, x2], [0, 0, 0, 1]]]) (MY := [[[1, y0, y3, y5], [0, 1, y1, y4], [0, 0, 1, y2], [0, 0, 0, 1]]]) (fun d => lm2 d x0 x1 x2 x3 x4 x5) (fun d => lm2 d y0 y1 y2 y3 y4 y5) ?_ (by simp) ha hb hab (fun d => le2 d (fun i j => ((List.range 4).map fun (k : Nat) => gi (gm [[1, x0, x3, x5], [0, 1, x1, x4], [0, 0, 1, x2], [0, 0, 0, 1]] i) k * gi (gm [[1, y0, y3, y5], [0, 1, y1, y4], [0, 0, 1, y2], [0, 0, 0, 1]] k) j).sum))
    simp [Sq, Bd, hx, hy, o1, o2, z1, z2]
theorem ga2 {X Y Z : List Int} (hX : X.length = 6) (hY : Y.length = 6) (hZ : Z.length = 6) : prodF (prodF X Y 0 [4]) Z 0 [4] = prodF X (prodF Y Z 0 [4]) 0 [4] :=
  match X, Y, Z, hX, hY, hZ with
  | [x0, x1, x2, x3, x4, x5], [y0, y1, y2, y3, y4, y5], [z0, z1, z2, z3, z4, z5], _, _, _ => by
    simp [gi, prodF, blockP, dotP, tbl]
    try grind
theorem gz2 {X : List Int} (hX : X.length = 6) : prodF (zer 6) X 0 [4] = X ∧ prodF X (zer 6) 0 [4] = X :=
  match X, hX with
  | [x0, x1, x2, x3, x4, x5], _ => by
    simp [gi, prodF, blockP, dotP, tbl, zer, List.replicate]
theorem gv2 {X : List Int} (hX : X.length = 6) : prodF X (invF X 0 [4] []) 0 [4] = zer 6 ∧ prodF (invF X 0 [4] []) X 0 [4] = zer 6 :=
  match X, hX with
  | [x0, x1, x2, x3, x4, x5], _ => by
    simp [gi, prodF, blockP, dotP, tbl, zer, List.replicate, invF, invB]
    try grind
theorem go2 {X I : List Int} (hX : X.length = 6) (hI : I.length = 6) (h : prodF X I 0 [4] = zer 6) : ∀ j, j < 6 → -(gi (prodF X (I.take j ++ zer (6 - j)) 0 [4]) j) = gi I j :=
  match X, I, hX, hI, h with
  | [x0, x1, x2, x3, x4, x5], [i0, i1, i2, i3, i4, i5], _, _, h => by
    simp [gi, prodF, blockP, dotP, tbl, zer, List.replicate] at h
    intro j hj
    match j, hj with
    | 0, _ => simp [gi, prodF, blockP, dotP, tbl, zer, List.replicate]; try omega
    | 1, _ => simp [gi, prodF, blockP, dotP, tbl, zer, List.replicate]; try omega
    | 2, _ => simp [gi, prodF, blockP, dotP, tbl, zer, List.replicate]; try omega
    | 3, _ => simp [gi, prodF, blockP, dotP, tbl, zer, List.replicate]; try omega
    | 4, _ => simp [gi, prodF, blockP, dotP, tbl, zer, List.replicate]; try omega
    | 5, _ => simp [gi, prodF, blockP, dotP, tbl, zer, List.replicate]; try omega
theorem lp3 {d a b : Nat} {hh : SH} {X Y : List Int} (hX : X.length = 10) (hY : Y.length = 10) (hx : Bd a X) (hy : Bd b Y) (ha : 0 < a) (hb : 0 < b) (hab : a + b ≤ 1000000) :
    callF tb (d + 4) 33 [.tup (iv [5]), .tup (iv X), .tup (iv Y)] hh = .ok (.tup (iv (prodF X Y 0 [5]))) hh :=
  match X, Y, hX, hY, hx, hy with
  | [x0, x1, x2, x3, x4, x5, x6, x7, x8, x9], [y0, y1, y2, y3, y4, y5, y6, y7, y8, y9], _, _, hx, hy => by
    have o1 : (1 : Nat) < 2 ^ a := Nat.one_lt_two_pow (by omega)
    have o2 : (1 : Nat) < 2 ^ b := Nat.one_lt_two_pow (by omega)
    have z1 : (0 : Nat) < 2 ^ a := by omega
    have z2 : (0 : Nat) < 2 ^ b := by omega
    simp only [Bd, List.mem_cons, List.not_mem_nil, or_false, forall_eq_or_imp, forall_eq] at hx hy
    rw [← lq3]
    refine law_product_of (MX := [[[1, x0, x4, x7, x9], [0, 1, x1, x5, x8], [0, 0, 1, x2, x6], [0, 0, 0, 1, x3], [0, 0, 0, 0, 1]]]) (MY := [[[1, y0, y4, y7, y9], [0, 1, y1, y5, y8], [0, 0, 1, y2, y6], [0, 0, 0, 1, y3], [0, 0, 0, 0, 1]]]) (fun d => lm3 d x0 x1 x2 x3 x4 x5 x6 x7 x8 x9) (fun d => lm3 d y0 y1 y2 y3 y4 y5 y6 y7 y8 y9) ?_ (by simp) ha hb hab (fun d => le3 d (fun i j => ((List.range 5).map fun (k : Nat) => gi (gm [[1, x0, x4, x7, x9], [0, 1, x1, x5, x8], [0, 0, 1, x2, x6], [0, 0, 0, 1, x3], [0, 0, 0, 0, 1]] i) k * gi (gm [[1, y0, y4, y7, y9], [0, 1, y1, y5, y8], [0, 0, 1, y2, y6], [0, 0, 0, 1, y3], [0, 0, 0, 0, 1]] k) j).sum))
    simp [Sq, Bd, hx, hy, o1, o2, z1, z2]
theorem ga3 {X Y Z : List Int} (hX : X.length = 10) (hY : Y.length = 10) (hZ : Z.length = 10) : prodF (prodF X Y 0 [5]) Z 0 [5] = prodF X (prodF Y Z 0 [5]) 0 [5] :=
  match X, Y, Z, hX, hY, hZ with
  | [x0, x1, x2, x3, x4, x5, x6, x7, x8, x9], [y0, y1, y2, y3, y4, y5, y6, y7, y8, y9], [z0, z1, z2, z3, z4, z5, z6, z7, z8, z9], _, _, _ => by
    simp [gi, prodF, blockP, dotP, tbl]
    try grind
theorem gz3 {X : List Int} (hX : X.length = 10) : prodF (zer 10) X 0 [5] = X ∧ prodF X (zer 10) 0 [5] = X :=
  match X, hX with
  | [x0, x1, x2, x3, x4, x5, x6, x7, x8, x9], _ => by
    simp [gi, prodF, blockP, dotP, tbl, zer, List.replicate]
theorem gv3 {X : List Int} (hX : X.length = 10) : prodF X (invF X 0 [5] []) 0 [5] = zer 10 ∧ prodF (invF X 0 [5] []) X 0 [5] = zer 10 :=
  match X, hX with
  | [x0, x1, x2, x3, x4, x5, x6, x7, x8, x9], _ => by
    simp [gi, prodF, blockP, dotP, tbl, zer, List.replicate, invF, invB]
    try grind
theorem go3 {X I : List Int} (hX : X.length = 10) (hI : I.length = 10) (h : prodF X I 0 [5] = zer 10) : ∀ j, j < 10 → -(gi (prodF X (I.take j ++ zer (10 - j)) 0 [5]) j) = gi I j :=
  match X, I, hX, hI, h with
  | [x0, x1, x2, x3, x4, x5, x6, x7, x8, x9], [i0, i1, i2, i3, i4, i5, i6, i7, i8, i9], _, _, h => by
    simp [gi, prodF, blockP, dotP, tbl, zer, List.replicate] at h
    intro j hj
    match j, hj with
    | 0, _ => simp [gi, prodF, blockP, dotP, tbl, zer, List.replicate]; try omega
    | 1, _ => simp [gi, prodF, blockP, dotP, tbl, zer, List.replicate]; try omega
    | 2, _ => simp [gi, prodF, blockP, dotP, tbl, zer, List.replicate]; try omega
    | 3, _ => simp [gi, prodF, blockP, dotP, tbl, zer, List.replicate]; try omega
    | 4, _ => simp [gi, prodF, blockP, dotP, tbl, zer, List.replicate]; try omega
    | 5, _ => simp [gi, prodF, blockP, dotP, tbl, zer, List.replicate]; try omega
    | 6, _ => simp [gi, prodF, blockP, dotP, tbl, zer, List.replicate]; try omega
    | 7, _ => simp [gi, prodF, blockP, dotP, tbl, zer, List.replicate]; try omega
    | 8, _ => simp [gi, prodF, blockP, dotP, tbl, zer, List.replicate]; try omega
    | 9, _ => simp [gi, prodF, blockP, dotP, tbl, zer, List.replicate]; try omega
theorem lp4 {d a b : Nat} {hh : SH} {X Y : List Int} (hX : X.length = 6) (hY : Y.length = 6) (hx : Bd a X) (hy : Bd b Y) (ha : 0 < a) (hb : 0 < b) (hab : a + b ≤ 1000000) :
    callF tb (d + 4) 33 [.tup (iv [3, 3]), .tup (iv X), .tup (iv Y)] hh = .ok (.tup (iv (prodF X Y 0 [3, 3]))) hh :=
  match X, Y, hX, hY, hx, hy with
  | [x0, x1, x2, x3, x4, x5], [y0, y1, y2, y3, y4, y5], _, _, hx, hy => by
    have o1 : (1 : Nat) < 2 ^ a := Nat.one_lt_two_pow (by omega)
    have o2 : (1 : Nat) < 2 ^ b := Nat.one_lt_two_pow (by omega)
    have z1 : (0 : Nat) < 2 ^ a := by omega
    have z2 : (0 : Nat) < 2 ^ b := by omega
    simp only [Bd, List.mem_cons, List.not_mem_nil, or_false, forall_eq_or_imp, forall_eq] at hx hy
    rw [← lq4]
    refine law_product_of (MX := [[[1, x0, x2], [0, 1, x1], [0, 0, 1]], [[1, x3, x5], [0, 1, x4], [0, 0, 1]]]) (MY := [[[1, y0, y2], [0, 1, y1], [0, 0, 1]], [[1, y3, y5], [0, 1, y4], [0, 0, 1]]]) (fun d => lm4 d x0 x1 x2 x3 x4 x5) (fun d => lm4 d y0 y1 y2 y3 y4 y5) ?_ (by simp) ha hb hab (fun d => le4 d (fun i j => ((List.range 3).map fun (k : Nat) => gi (gm [[1, x0, x2], [0, 1, x1], [0, 0, 1]] i) k * gi (gm [[1, y0, y2], [0, 1, y1], [0, 0, 1]] k) j).sum) (fun i j => ((List.range 3).map fun (k : Nat) => gi (gm [[1, x3, x5], [0, 1, x4], [0, 0, 1]] i) k * gi (gm [[1, y3, y5], [0, 1, y4], [0, 0, 1]] k) j).sum))
    simp [Sq, Bd, hx, hy, o1, o2, z1, z2]
theorem ga4 {X Y Z : List Int} (hX : X.length = 6) (hY : Y.length = 6) (hZ : Z.length = 6) : prodF (prodF X Y 0 [3, 3]) Z 0 [3, 3] = prodF X (prodF Y Z 0 [3, 3]) 0 [3, 3] :=
  match X, Y, Z, hX, hY, hZ with
  | [x0, x1, x2, x3, x4, x5], [y0, y1, y2, y3, y4, y5], [z0, z1, z2, z3, z4, z5], _, _, _ => by
    simp [gi, prodF, blockP, dotP, tbl]
    try grind
theorem gz4 {X : List Int} (hX : X.length = 6) : prodF (zer 6) X 0 [3, 3] = X ∧ prodF X (zer 6) 0 [3, 3] = X :=
  match X, hX with
  | [x0, x1, x2, x3, x4, x5], _ => by
    simp [gi, prodF, blockP, dotP, tbl, zer, List.replicate]
theorem gv4 {X : List Int} (hX : X.length = 6) : prodF X (invF X 0 [3, 3] []) 0 [3, 3] = zer 6 ∧ prodF (invF X 0 [3, 3] []) X 0 [3, 3] = zer 6 :=
  match X, hX with
  | [x0, x1, x2, x3, x4, x5], _ => by
    simp [gi, prodF, blockP, dotP, tbl, zer, List.replicate, invF, invB]
    try grind
theorem go4 {X I : List Int} (hX : X.length = 6) (hI : I.length = 6) (h : prodF X I 0 [3, 3] = zer 6) : ∀ j, j < 6 → -(gi (prodF X (I.take j ++ zer (6 - j)) 0 [3, 3]) j) = gi I j :=
  match X, I, hX, hI, h with
  | [x0, x1, x2, x3, x4, x5], [i0, i1, i2, i3, i4, i5], _, _, h => by
    simp [gi, prodF, blockP, dotP, tbl, zer, List.replicate] at h
    intro j hj
    match j, hj with
    | 0, _ => simp [gi, prodF, blockP, dotP, tbl, zer, List.replicate]; try omega
    | 1, _ => simp [gi, prodF, blockP, dotP, tbl, zer, List.replicate]; try omega
    | 2, _ => simp [gi, prodF, blockP, dotP, tbl, zer, List.replicate]; try omega
    | 3, _ => simp [gi, prodF, blockP, dotP, tbl, zer, List.replicate]; try omega
    | 4, _ => simp [gi, prodF, blockP, dotP, tbl, zer, List.replicate]; try omega
    | 5, _ => simp [gi, prodF, blockP, dotP, tbl, zer, List.replicate]; try omega
theorem lp5 {d a b : Nat} {hh : SH} {X Y : List Int} (hX : X.length = 8) (hY : Y.length = 8) (hx : Bd a X) (hy : Bd b Y) (ha : 0 < a) (hb : 0 < b) (hab : a + b ≤ 1000000) :
    callF tb (d + 4) 33 [.tup (iv [2, 2, 4]), .tup (iv X), .tup (iv Y)] hh = .ok (.tup (iv (prodF X Y 0 [2, 2, 4]))) hh :=
  match X, Y, hX, hY, hx, hy with
  | [x0, x1, x2, x3, x4, x5, x6, x7], [y0, y1, y2, y3, y4, y5, y6, y7], _, _, hx, hy => by
    have o1 : (1 : Nat) < 2 ^ a := Nat.one_lt_two_pow (by omega)
    have o2 : (1 : Nat) < 2 ^ b := Nat.one_lt_two_pow (by omega)
    have z1 : (0 : Nat) < 2 ^ a := by omega
    have z2 : (0 : Nat) < 2 ^ b := by omega
    simp only [Bd, List.mem_cons, List.not_mem_nil, or_false, forall_eq_or_imp, forall_eq] at hx hy
    rw [← lq5]
    refine law_product_of (MX := [[[1, x0], [0, 1]], [[1, x1], [0, 1]], [[1, x2, x5, x7], [0, 1, x3, x6], [0, 0, 1, x4], [0, 0, 0, 1]]]) (MY := [[[1, y0], [0, 1]], [[1, y1], [0, 1]], [[1, y2, y5, y7], [0, 1, y3, y6], [0, 0, 1, y4], [0, 0, 0, 1]]]) (fun d => lm5 d x0 x1 x2 x3 x4 x5 x6 x7) (fun d => lm5 d y0 y1 y2 y3 y4 y5 y6 y7) ?_ (by simp) ha hb hab (fun d => le5 d (fun i j => ((List.range 2).map fun (k : Nat) => gi (gm [[1, x0], [0, 1]] i) k * gi (gm [[1, y0], [0, 1]] k) j).sum) (fun i j => ((List.range 2).map fun (k : Nat) => gi (gm [[1, x1], [0, 1]] i) k * gi (gm [[1, y1], [0, 1]] k) j).sum) (fun i j => ((List.range 4).map fun (k : Nat) => gi (gm [[1, x2, x5, x7], [0, 1, x3, x6], [0, 0, 1, x4], [0, 0, 0, 1]] i) k * gi (gm [[1, y2, y5, y7], [0, 1, y3, y6], [0, 0, 1, y4], [0, 0, 0, 1]] k) j).sum))
    simp [Sq, Bd, hx, hy, o1, o2, z1, z2]
theorem ga5 {X Y Z : List Int} (hX : X.length = 8) (hY : Y.length = 8) (hZ : Z.length = 8) : prodF (prodF X Y 0 [2, 2, 4]) Z 0 [2, 2, 4] = prodF X (prodF Y Z 0 [2, 2, 4]) 0 [2, 2, 4] :=
  match X, Y, Z, hX, hY, hZ with
  | [x0, x1, x2, x3, x4, x5, x6, x7], [y0, y1, y2, y3, y4, y5, y6, y7], [z0, z1, z2, z3, z4, z5, z6, z7], _, _, _ => by
    simp [gi, prodF, blockP, dotP, tbl]
    try grind
theorem gz5 {X : List Int} (hX : X.length = 8) : prodF (zer 8) X 0 [2, 2, 4] = X ∧ prodF X (zer 8) 0 [2, 2, 4] = X :=
  match X, hX with
  | [x0, x1, x2, x3, x4, x5, x6, x7], _ => by
    simp [gi, prodF, blockP, dotP, tbl, zer, List.replicate]
theorem gv5 {X : List Int} (hX : X.length = 8) : prodF X (invF X 0 [2, 2, 4] []) 0 [2, 2, 4] = zer 8 ∧ prodF (invF X 0 [2, 2, 4] []) X 0 [2, 2, 4] = zer 8 :=
  match X, hX with
  | [x0, x1, x2, x3, x4, x5, x6, x7], _ => by
    simp [gi, prodF, blockP, dotP, tbl, zer, List.replicate, invF, invB]
    try grind
theorem go5 {X I : List Int} (hX : X.length = 8) (hI : I.length = 8) (h : prodF X I 0 [2, 2, 4] = zer 8) : ∀ j, j < 8 → -(gi (prodF X (I.take j ++ zer (8 - j)) 0 [2, 2, 4]) j) = gi I j :=
  match X, I, hX, hI, h with
  | [x0, x1, x2, x3, x4, x5, x6, x7], [i0, i1, i2, i3, i4, i5, i6, i7], _, _, h => by
    simp [gi, prodF, blockP, dotP, tbl, zer, List.replicate] at h
    intro j hj
    match j, hj with
    | 0, _ => simp [gi, prodF, blockP, dotP, tbl, zer, List.replicate]; try omega
    | 1, _ => simp [gi, prodF, blockP, dotP, tbl, zer, List.replicate]; try omega
    | 2, _ => simp [gi, prodF, blockP, dotP, tbl, zer, List.replicate]; try omega
    | 3, _ => simp [gi, prodF, blockP, dotP, tbl, zer, List.replicate]; try omega
    | 4, _ => simp [gi, prodF, blockP, dotP, tbl, zer, List.replicate]; try omega
    | 5, _ => simp [gi, prodF, blockP, dotP, tbl, zer, List.replicate]; try omega
    | 6, _ => simp [gi, prodF, blockP, dotP, tbl, zer, List.replicate]; try omega
    | 7, _ => simp [gi, prodF, blockP, dotP, tbl, zer, List.replicate]; try omega
theorem lp6 {d a b : Nat} {hh : SH} {X Y : List Int} (hX : X.length = 9) (hY : Y.length = 9) (hx : Bd a X) (hy : Bd b Y) (ha : 0 < a) (hb : 0 < b) (hab : a + b ≤ 1000000) :
    callF tb (d + 4) 33 [.tup (iv [4, 3]), .tup (iv X), .tup (iv Y)] hh = .ok (.tup (iv (prodF X Y 0 [4, 3]))) hh :=
  match X, Y, hX, hY, hx, hy with
  | [x0, x1, x2, x3, x4, x5, x6, x7, x8], [y0, y1, y2, y3, y4, y5, y6, y7, y8], _, _, hx, hy => by
    have o1 : (1 : Nat) < 2 ^ a := Nat.one_lt_two_pow (by omega)
    have o2 : (1 : Nat) < 2 ^ b := Nat.one_lt_two_pow (by omega)
    have z1 : (0 : Nat) < 2 ^ a := by omega
    have z2 : (0 : Nat) < 2 ^ b := by omega
    simp only [Bd, List.mem_cons, List.not_mem_nil, or_false, forall_eq_or_imp, forall_eq] at hx hy
    rw [← lq6]
    refine law_product_of (MX := [[[1, x0, x3, x5], [0, 1, x1, x4], [0, 0, 1, x2], [0, 0, 0, 1]], [[1, x6, x8], [0, 1, x7], [0, 0, 1]]]) (MY := [[[1, y0, y3, y5], [0, 1, y1, y4], [0, 0, 1, y2], [0, 0, 0, 1]], [[1, y6, y8], [0, 1, y7], [0, 0, 1]]]) (fun d => lm6 d x0 x1 x2 x3 x4 x5 x6 x7 x8) (fun d => lm6 d y0 y1 y2 y3 y4 y5 y6 y7 y8) ?_ (by simp) ha hb hab (fun d => le6 d (fun i j => ((List.range 4).map fun (k : Nat) => gi (gm [[1, x0, x3, x5], [0, 1, x1, x4], [0, 0, 1, x2], [0, 0, 0, 1]] i) k * gi (gm [[1, y0, y3, y5], [0, 1, y1, y4], [0, 0, 1, y2], [0, 0, 0, 1]] k) j).sum) (fun i j => ((List.range 3).map fun (k : Nat) => gi (gm [[1, x6, x8], [0, 1, x7], [0, 0, 1]] i) k * gi (gm [[1, y6, y8], [0, 1, y7], [0, 0, 1]] k) j).sum))
    simp [Sq, Bd, hx, hy, o1, o2, z1, z2]
theorem ga6 {X Y Z : List Int} (hX : X.length = 9) (hY : Y.length = 9) (hZ : Z.length = 9) : prodF (prodF X Y 0 [4, 3]) Z 0 [4, 3] = prodF X (prodF Y Z 0 [4, 3]) 0 [4, 3] :=
  match X, Y, Z, hX, hY, hZ with
  | [x0, x1, x2, x3, x4, x5, x6, x7, x8], [y0, y1, y2, y3, y4, y5, y6, y7, y8], [z0, z1, z2, z3, z4, z5, z6, z7, z8], _, _, _ => by
    simp [gi, prodF, blockP, dotP, tbl]
    try grind
theorem gz6 {X : List Int} (hX : X.length = 9) : prodF (zer 9) X 0 [4, 3] = X ∧ prodF X (zer 9) 0 [4, 3] = X :=
  match X, hX with
  | [x0, x1, x2, x3, x4, x5, x6, x7, x8], _ => by
    simp [gi, prodF, blockP, dotP, tbl, zer, List.replicate]
theorem gv6 {X : List Int} (hX : X.length = 9) : prodF X (invF X 0 [4, 3] []) 0 [4, 3] = zer 9 ∧ prodF (invF X 0 [4, 3] []) X 0 [4, 3] = zer 9 :=
  match X, hX with
  | [x0, x1, x2, x3, x4, x5, x6, x7, x8], _ => by
    simp [gi, prodF, blockP, dotP, tbl, zer, List.replicate, invF, invB]
    try grind
theorem go6 {X I : List Int} (hX : X.length = 9) (hI : I.length = 9) (h : prodF X I 0 [4, 3] = zer 9) : ∀ j, j < 9 → -(gi (prodF X (I.take j ++ zer (9 - j)) 0 [4, 3]) j) = gi I j :=
  match X, I, hX, hI, h with
  | [x0, x1, x2, x3, x4, x5, x6, x7, x8], [i0, i1, i2, i3, i4, i5, i6, i7, i8], _, _, h => by
    simp [gi, prodF, blockP, dotP, tbl, zer, List.replicate] at h
    intro j hj
    match j, hj with
    | 0, _ => simp [gi, prodF, blockP, dotP, tbl, zer, List.replicate]; try omega
    | 1, _ => simp [gi, prodF, blockP, dotP, tbl, zer, List.replicate]; try omega
    | 2, _ => simp [gi, prodF, blockP, dotP, tbl, zer, List.replicate]; try omega
    | 3, _ => simp [gi, prodF, blockP, dotP, tbl, zer, List.replicate]; try omega
    | 4, _ => simp [gi, prodF, blockP, dotP, tbl, zer, List.replicate]; try omega
    | 5, _ => simp [gi, prodF, blockP, dotP, tbl, zer, List.replicate]; try omega
    | 6, _ => simp [gi, prodF, blockP, dotP, tbl, zer, List.replicate]; try omega
    | 7, _ => simp [gi, prodF, blockP, dotP, tbl, zer, List.replicate]; try omega
    | 8, _ => simp [gi, prodF, blockP, dotP, tbl, zer, List.replicate]; try omega
theorem lp7 {d a b : Nat} {hh : SH} {X Y : List Int} (hX : X.length = 11) (hY : Y.length = 11) (hx : Bd a X) (hy : Bd b Y) (ha : 0 < a) (hb : 0 < b) (hab : a + b ≤ 1000000) :
    callF tb (d + 4) 33 [.tup (iv [2, 5]), .tup (iv X), .tup (iv Y)] hh = .ok (.tup (iv (prodF X Y 0 [2, 5]))) hh :=
  match X, Y, hX, hY, hx, hy with
  | [x0, x1, x2, x3, x4, x5, x6, x7, x8, x9, x10], [y0, y1, y2, y3, y4, y5, y6, y7, y8, y9, y10], _, _, hx, hy => by
    have o1 : (1 : Nat) < 2 ^ a := Nat.one_lt_two_pow (by omega)
    have o2 : (1 : Nat) < 2 ^ b := Nat.one_lt_two_pow (by omega)
    have z1 : (0 : Nat) < 2 ^ a := by omega
    have z2 : (0 : Nat) < 2 ^ b := by omega
    simp only [Bd, List.mem_cons, List.not_mem_nil, or_false, forall_eq_or_imp, forall_eq] at hx hy
    rw [← lq7]
    refine law_product_of (MX := [[[1, x0], [0, 1]], [[1, x1, x5, x8, x10], [0, 1, x2, x6, x9], [0, 0, 1, x3, x7], [0, 0, 0, 1, x4], [0, 0, 0, 0, 1]]]) (MY := [[[1, y0], [0, 1]], [[1, y1, y5, y8, y10], [0, 1, y2, y6, y9], [0, 0, 1, y3, y7], [0, 0, 0, 1, y4], [0, 0, 0, 0, 1]]]) (fun d => lm7 d x0 x1 x2 x3 x4 x5 x6 x7 x8 x9 x10) (fun d => lm7 d y0 y1 y2 y3 y4 y5 y6 y7 y8 y9 y10) ?_ (by simp) ha hb hab (fun d => le7 d (fun i j => ((List.range 2).map fun (k : Nat) => gi (gm [[1, x0], [0, 1]] i) k * gi (gm [[1, y0], [0, 1]] k) j).sum) (fun i j => ((List.range 5).map fun (k : Nat) => gi (gm [[1, x1, x5, x8, x10], [0, 1, x2, x6, x9], [0, 0, 1, x3, x7], [0, 0, 0, 1, x4], [0, 0, 0, 0, 1]] i) k * gi (gm [[1, y1, y5, y8, y10], [0, 1, y2, y6, y9], [0, 0, 1, y3, y7], [0, 0, 0, 1, y4], [0, 0, 0, 0, 1]] k) j).sum))
    simp [Sq, Bd, hx, hy, o1, o2, z1, z2]
theorem ga7 {X Y Z : List Int} (hX : X.length = 11) (hY : Y.length = 11) (hZ : Z.length = 11) : prodF (prodF X Y 0 [2, 5]) Z 0 [2, 5] = prodF X (prodF Y Z 0 [2, 5]) 0 [2, 5] :=
  match X, Y, Z, hX, hY, hZ with
  | [x0, x1, x2, x3, x4, x5, x6, x7, x8, x9, x10], [y0, y1, y2, y3, y4, y5, y6, y7, y8, y9, y10], [z0, z1, z2, z3, z4, z5, z6, z7, z8, z9, z10], _, _, _ => by
    simp [gi, prodF, blockP, dotP, tbl]
    try grind
theorem gz7 {X : List Int} (hX : X.length = 11) : prodF (zer 11) X 0 [2, 5] = X ∧ prodF X (zer 11) 0 [2, 5] = X :=
  match X, hX with
  | [x0, x1, x2, x3, x4, x5, x6, x7, x8, x9, x10], _ => by
    simp [gi, prodF, blockP, dotP, tbl, zer, List.replicate]
theorem gv7 {X : List Int} (hX : X.length = 11) : prodF X (invF X 0 [2, 5] []) 0 [2, 5] = zer 11 ∧ prodF (invF X 0 [2, 5] []) X 0 [2, 5] = zer 11 :=
  match X, hX with
  | [x0, x1, x2, x3, x4, x5, x6, x7, x8, x9, x10], _ => by
    simp [gi, prodF, blockP, dotP, tbl, zer, List.replicate, invF, invB]
    try grind
theorem go7 {X I : List Int} (hX : X.length = 11) (hI : I.length = 11) (h : prodF X I 0 [2, 5] = zer 11) : ∀ j, j < 11 → -(gi (prodF X (I.take j ++ zer (11 - j)) 0 [2, 5]) j) = gi I j :=
  match X, I, hX, hI, h with
  | [x0, x1, x2, x3, x4, x5, x6, x7, x8, x9, x10], [i0, i1, i2, i3, i4, i5, i6, i7, i8, i9, i10], _, _, h => by
    simp [gi, prodF, blockP, dotP, tbl, zer, List.replicate] at h
    intro j hj
    match j, hj with
    | 0, _ => simp [gi, prodF, blockP, dotP, tbl, zer, List.replicate]; try omega
    | 1, _ => simp [gi, prodF, blockP, dotP, tbl, zer, List.replicate]; try omega
    | 2, _ => simp [gi, prodF, blockP, dotP, tbl, zer, List.replicate]; try omega
    | 3, _ => simp [gi, prodF, blockP, dotP, tbl, zer, List.replicate]; try omega
    | 4, _ => simp [gi, prodF, blockP, dotP, tbl, zer, List.replicate]; try omega
    | 5, _ => simp [gi, prodF, blockP, dotP, tbl, zer, List.replicate]; try omega
    | 6, _ => simp [gi, prodF, blockP, dotP, tbl, zer, List.replicate]; try omega
    | 7, _ => simp [gi, prodF, blockP, dotP, tbl, zer, List.replicate]; try omega
    | 8, _ => simp [gi, prodF, blockP, dotP, tbl, zer, List.replicate]; try omega
    | 9, _ => simp [gi, prodF, blockP, dotP, tbl, zer, List.replicate]; try omega
    | 10, _ => simp [gi, prodF, blockP, dotP, tbl, zer, List.replicate]; try omega
theorem lp8 {d a b : Nat} {hh : SH} {X Y : List Int} (hX : X.length = 5) (hY : Y.length = 5) (hx : Bd a X) (hy : Bd b Y) (ha : 0 < a) (hb : 0 < b) (hab : a + b ≤ 1000000) :
    callF tb (d + 4) 33 [.tup (iv [3, 2, 2]), .tup (iv X), .tup (iv Y)] hh = .ok (.tup (iv (prodF X Y 0 [3, 2, 2]))) hh :=
  match X, Y, hX, hY, hx, hy with
  | [x0, x1, x2, x3, x4], [y0, y1, y2, y3, y4], _, _, hx, hy => by
    have o1 : (1 : Nat) < 2 ^ a := Nat.one_lt_two_pow (by omega)
    have o2 : (1 : Nat) < 2 ^ b := Nat.one_lt_two_pow (by omega)
    have z1 : (0 : Nat) < 2 ^ a := by omega
    have z2 : (0 : Nat) < 2 ^ b := by omega
    simp only [Bd, List.mem_cons, List.not_mem_nil, or_false, forall_eq_or_imp, forall_eq] at hx hy
    rw [← lq8]
    refine law_product_of (MX := [[[1, x0, x2], [0, 1, x1], [0, 0, 1]], [[1, x3], [0, 1]], [[1, x4], [0, 1]]]) (MY := [[[1, y0, y2], [0, 1, y1], [0, 0, 1]], [[1, y3], [0, 1]], [[1, y4], [0, 1]]]) (fun d => lm8 d x0 x1 x2 x3 x4) (fun d => lm8 d y0 y1 y2 y3 y4) ?_ (by simp) ha hb hab (fun d => le8 d (fun i j => ((List.range 3).map fun (k : Nat) => gi (gm [[1, x0, x2], [0, 1, x1], [0, 0, 1]] i) k * gi (gm [[1, y0, y2], [0, 1, y1], [0, 0, 1]] k) j).sum) (fun i j => ((List.range 2).map fun (k : Nat) => gi (gm [[1, x3], [0, 1]] i) k * gi (gm [[1, y3], [0, 1]] k) j).sum) (fun i j => ((List.range 2).map fun (k : Nat) => gi (gm [[1, x4], [0, 1]] i) k * gi (gm [[1, y4], [0, 1]] k) j).sum))
    simp [Sq, Bd, hx, hy, o1, o2, z1, z2]
theorem ga8 {X Y Z : List Int} (hX : X.length = 5) (hY : Y.length = 5) (hZ : Z.length = 5) : prodF (prodF X Y 0 [3, 2, 2]) Z 0 [3, 2, 2] = prodF X (prodF Y Z 0 [3, 2, 2]) 0 [3, 2, 2] :=
  match X, Y, Z, hX, hY, hZ with
  | [x0, x1, x2, x3, x4], [y0, y1, y2, y3, y4], [z0, z1, z2, z3, z4], _, _, _ => by
    simp [gi, prodF, blockP, dotP, tbl]
    try grind
theorem gz8 {X : List Int} (hX : X.length = 5) : prodF (zer 5) X 0 [3, 2, 2] = X ∧ prodF X (zer 5) 0 [3, 2, 2] = X :=
  match X, hX with
  | [x0, x1, x2, x3, x4], _ => by
    simp [gi, prodF, blockP, dotP, tbl, zer, List.replicate]
theorem gv8 {X : List Int} (hX : X.length = 5) : prodF X (invF X 0 [3, 2, 2] []) 0 [3, 2, 2] = zer 5 ∧ prodF (invF X 0 [3, 2, 2] []) X 0 [3, 2, 2] = zer 5 :=
  match X, hX with
  | [x0, x1, x2, x3, x4], _ => by
    simp [gi, prodF, blockP, dotP, tbl, zer, List.replicate, invF, invB]
    try grind
theorem go8 {X I : List Int} (hX : X.length = 5) (hI : I.length = 5) (h : prodF X I 0 [3, 2, 2] = zer 5) : ∀ j, j < 5 → -(gi (prodF X (I.take j ++ zer (5 - j)) 0 [3, 2, 2]) j) = gi I j :=
  match X, I, hX, hI, h with
  | [x0, x1, x2, x3, x4], [i0, i1, i2, i3, i4], _, _, h => by
    simp [gi, prodF, blockP, dotP, tbl, zer, List.replicate] at h
    intro j hj
    match j, hj with
    | 0, _ => simp [gi, prodF, blockP, dotP, tbl, zer, List.replicate]; try omega
    | 1, _ => simp [gi, prodF, blockP, dotP, tbl, zer, List.replicate]; try omega
    | 2, _ => simp [gi, prodF, blockP, dotP, tbl, zer, List.replicate]; try omega
    | 3, _ => simp [gi, prodF, blockP, dotP, tbl, zer, List.replicate]; try omega
    | 4, _ => simp [gi, prodF, blockP, dotP, tbl, zer, List.replicate]; try omega
theorem lp9 {d a b : Nat} {hh : SH} {X Y : List Int} (hX : X.length = 1) (hY : Y.length = 1) (hx : Bd a X) (hy : Bd b Y) (ha : 0 < a) (hb : 0 < b) (hab : a + b ≤ 1000000) :
    callF tb (d + 4) 33 [.tup (iv [2]), .tup (iv X), .tup (iv Y)] hh = .ok (.tup (iv (prodF X Y 0 [2]))) hh :=
  match X, Y, hX, hY, hx, hy with
  | [x0], [y0], _, _, hx, hy => by
    have o1 : (1 : Nat) < 2 ^ a := Nat.one_lt_two_pow (by omega)
    have o2 : (1 : Nat) < 2 ^ b := Nat.one_lt_two_pow (by omega)
    have z1 : (0 : Nat) < 2 ^ a := by omega
    have z2 : (0 : Nat) < 2 ^ b := by omega
    simp only [Bd, List.mem_cons, List.not_mem_nil, or_false, forall_eq_or_imp, forall_eq] at hx hy
    rw [← lq9]
    refine law_product_of (MX := [[[1, x0], [0, 1]]]) (MY := [[[1, y0], [0, 1]]]) (fun d => lm9 d x0) (fun d => lm9 d y0) ?_ (by simp) ha hb hab (fun d => le9 d (fun i j => ((List.range 2).map fun (k : Nat) => gi (gm [[1, x0], [0, 1]] i) k * gi (gm [[1, y0], [0, 1]] k) j).sum))
    simp [Sq, Bd, hx, hy, o1, o2, z1, z2]
theorem ga9 {X Y Z : List Int} (hX : X.length = 1) (hY : Y.length = 1) (hZ : Z.length = 1) : prodF (prodF X Y 0 [2]) Z 0 [2] = prodF X (prodF Y Z 0 [2]) 0 [2] :=
  match X, Y, Z, hX, hY, hZ with
  | [x0], [y0], [z0], _, _, _ => by
    simp [gi, prodF, blockP, dotP, tbl]
    try grind
theorem gz9 {X : List Int} (hX : X.length = 1) : prodF (zer 1) X 0 [2] = X ∧ prodF X (zer 1) 0 [2] = X :=
  match X, hX with
  | [x0], _ => by
    simp [gi, prodF, blockP, dotP, tbl, zer, List.replicate]
theorem gv9 {X : List Int} (hX : X.length = 1) : prodF X (invF X 0 [2] []) 0 [2] = zer 1 ∧ prodF (invF X 0 [2] []) X 0 [2] = zer 1 :=
  match X, hX with
  | [x0], _ => by
    simp [gi, prodF, blockP, dotP, tbl, zer, List.replicate, invF, invB]
    try grind
theorem go9 {X I : List Int} (hX : X.length = 1) (hI : I.length = 1) (h : prodF X I 0 [2] = zer 1) : ∀ j, j < 1 → -(gi (prodF X (I.take j ++ zer (1 - j)) 0 [2]) j) = gi I j :=
  match X, I, hX, hI, h with
  | [x0], [i0], _, _, h => by
    simp [gi, prodF, blockP, dotP, tbl, zer, List.replicate] at h
    intro j hj
    match j, hj with
    | 0, _ => simp [gi, prodF, blockP, dotP, tbl, zer, List.replicate]; try omega
theorem lp10 {d a b : Nat} {hh : SH} {X Y : List Int} (hX : X.length = 9) (hY : Y.length = 9) (hx : Bd a X) (hy : Bd b Y) (ha : 0 < a) (hb : 0 < b) (hab : a + b ≤ 1000000) :
    callF tb (d + 4) 33 [.tup (iv [3, 3, 3]), .tup (iv X), .tup (iv Y)] hh = .ok (.tup (iv (prodF X Y 0 [3, 3, 3]))) hh :=
  match X, Y, hX, hY, hx, hy with
  | [x0, x1, x2, x3, x4, x5, x6, x7, x8], [y0, y1, y2, y3, y4, y5, y6, y7, y8], _, _, hx, hy => by
    have o1 : (1 : Nat) < 2 ^ a := Nat.one_lt_two_pow (by omega)
    have o2 : (1 : Nat) < 2 ^ b := Nat.one_lt_two_pow (by omega)
    have z1 : (0 : Nat) < 2 ^ a := by omega
    have z2 : (0 : Nat) < 2 ^ b := by omega
    simp only [Bd, List.mem_cons, List.not_mem_nil, or_false, forall_eq_or_imp, forall_eq] at hx hy
    rw [← lq10]
    refine law_product_of (MX := [[[1, x0, x2], [0, 1, x1], [0, 0, 1]], [[1, x3, x5], [0, 1, x4], [0, 0, 1]], [[1, x6, x8], [0, 1, x7], [0, 0, 1]]]) (MY := [[[1, y0, y2], [0, 1, y1], [0, 0, 1]], [[1, y3, y5], [0, 1, y4], [0, 0, 1]], [[1, y6, y8], [0, 1, y7], [0, 0, 1]]]) (fun d => lm10 d x0 x1 x2 x3 x4 x5 x6 x7 x8) (fun d => lm10 d y0 y1 y2 y3 y4 y5 y6 y7 y8) ?_ (by simp) ha hb hab (fun d => le10 d (fun i j => ((List.range 3).map fun (k : Nat) => gi (gm [[1, x0, x2], [0, 1, x1], [0, 0, 1]] i) k * gi (gm [[1, y0, y2], [0, 1, y1], [0, 0, 1]] k) j).sum) (fun i j => ((List.range 3).map fun (k : Nat) => gi (gm [[1, x3, x5], [0, 1, x4], [0, 0, 1]] i) k * gi (gm [[1, y3, y5], [0, 1, y4], [0, 0, 1]] k) j).sum) (fun i j => ((List.range 3).map fun (k : Nat) => gi (gm [[1, x6, x8], [0, 1, x7], [0, 0, 1]] i) k * gi (gm [[1, y6, y8], [0, 1, y7], [0, 0, 1]] k) j).sum))
    simp [Sq, Bd, hx, hy, o1, o2, z1, z2]
theorem ga10 {X Y Z : List Int} (hX : X.length = 9) (hY : Y.length = 9) (hZ : Z.length = 9) : prodF (prodF X Y 0 [3, 3, 3]) Z 0 [3, 3, 3] = prodF X (prodF Y Z 0 [3, 3, 3]) 0 [3, 3, 3] :=
  match X, Y, Z, hX, hY, hZ with
  | [x0, x1, x2, x3, x4, x5, x6, x7, x8], [y0, y1, y2, y3, y4, y5, y6, y7, y8], [z0, z1, z2, z3, z4, z5, z6, z7, z8], _, _, _ => by
    simp [gi, prodF, blockP, dotP, tbl]
    try grind
theorem gz10 {X : List Int} (hX : X.length = 9) : prodF (zer 9) X 0 [3, 3, 3] = X ∧ prodF X (zer 9) 0 [3, 3, 3] = X :=
  match X, hX with
  | [x0, x1, x2, x3, x4, x5, x6, x7, x8], _ => by
    simp [gi, prodF, blockP, dotP, tbl, zer, List.replicate]
theorem gv10 {X : List Int} (hX : X.length = 9) : prodF X (invF X 0 [3, 3, 3] []) 0 [3, 3, 3] = zer 9 ∧ prodF (invF X 0 [3, 3, 3] []) X 0 [3, 3, 3] = zer 9 :=
  match X, hX with
  | [x0, x1, x2, x3, x4, x5, x6, x7, x8], _ => by
    simp [gi, prodF, blockP, dotP, tbl, zer, List.replicate, invF, invB]
    try grind
theorem go10 {X I : List Int} (hX : X.length = 9) (hI : I.length = 9) (h : prodF X I 0 [3, 3, 3] = zer 9) : ∀ j, j < 9 → -(gi (prodF X (I.take j ++ zer (9 - j)) 0 [3, 3, 3]) j) = gi I j :=
  match X, I, hX, hI, h with
  | [x0, x1, x2, x3, x4, x5, x6, x7, x8], [i0, i1, i2, i3, i4, i5, i6, i7, i8], _, _, h => by
    simp [gi, prodF, blockP, dotP, tbl, zer, List.replicate] at h
    intro j hj
    match j, hj with
    | 0, _ => simp [gi, prodF, blockP, dotP, tbl, zer, List.replicate]; try omega
    | 1, _ => simp [gi, prodF, blockP, dotP, tbl, zer, List.replicate]; try omega
    | 2, _ => simp [gi, prodF, blockP, dotP, tbl, zer, List.replicate]; try omega
    | 3, _ => simp [gi, prodF, blockP, dotP, tbl, zer, List.replicate]; try omega
    | 4, _ => simp [gi, prodF, blockP, dotP, tbl, zer, List.replicate]; try omega
    | 5, _ => simp [gi, prodF, blockP, dotP, tbl, zer, List.replicate]; try omega
    | 6, _ => simp [gi, prodF, blockP, dotP, tbl, zer, List.replicate]; try omega
    | 7, _ => simp [gi, prodF, blockP, dotP, tbl, zer, List.replicate]; try omega
    | 8, _ => simp [gi, prodF, blockP, dotP, tbl, zer, List.replicate]; try omega
theorem lp11 {d a b : Nat} {hh : SH} {X Y : List Int} (hX : X.length = 12) (hY : Y.length = 12) (hx : Bd a X) (hy : Bd b Y) (ha : 0 < a) (hb : 0 < b) (hab : a + b ≤ 1000000) :
    callF tb (d + 4) 33 [.tup (iv [4, 4]), .tup (iv X), .tup (iv Y)] hh = .ok (.tup (iv (prodF X Y 0 [4, 4]))) hh :=
  match X, Y, hX, hY, hx, hy with
  | [x0, x1, x2, x3, x4, x5, x6, x7, x8, x9, x10, x11], [y0, y1, y2, y3, y4, y5, y6, y7, y8, y9, y10, y11], _, _, hx, hy => by
    have o1 : (1 : Nat) < 2 ^ a := Nat.one_lt_two_pow (by omega)
    have o2 : (1 : Nat) < 2 ^ b := Nat.one_lt_two_pow (by omega)
    have z1 : (0 : Nat) < 2 ^ a := by omega
    have z2 : (0 : Nat) < 2 ^ b := by omega
    simp only [Bd, List.mem_cons, List.not_mem_nil, or_false, forall_eq_or_imp, forall_eq] at hx hy
    rw [← lq11]
    refine law_product_of (MX := [[[1, x0, x3, x5], [0, 1, x1, x4], [0, 0, 1, x2], [0, 0, 0, 1]], [[1, x6, x9, x11], [0, 1, x7, x10], [0, 0, 1, x8], [0, 0, 0, 1]]]) (MY := [[[1, y0, y3, y5], [0, 1, y1, y4], [0, 0, 1, y2], [0, 0, 0, 1]], [[1, y6, y9, y11], [0, 1, y7, y10], [0, 0, 1, y8], [0, 0, 0, 1]]]) (fun d => lm11 d x0 x1 x2 x3 x4 x5 x6 x7 x8 x9 x10 x11) (fun d => lm11 d y0 y1 y2 y3 y4 y5 y6 y7 y8 y9 y10 y11) ?_ (by simp) ha hb hab (fun d => le11 d (fun i j => ((List.range 4).map fun (k : Nat) => gi (gm [[1, x0, x3, x5], [0, 1, x1, x4], [0, 0, 1, x2], [0, 0, 0, 1]] i) k * gi (gm [[1, y0, y3, y5], [0, 1, y1, y4], [0, 0, 1, y2], [0, 0, 0, 1]] k) j).sum) (fun i j => ((List.range 4).map fun (k : Nat) => gi (gm [[1, x6, x9, x11], [0, 1, x7, x10], [0, 0, 1, x8], [0, 0, 0, 1]] i) k * gi (gm [[1, y6, y9, y11], [0, 1, y7, y10], [0, 0, 1, y8], [0, 0, 0, 1]] k) j).sum))
    simp [Sq, Bd, hx, hy, o1, o2, z1, z2]
theorem ga11 {X Y Z : List Int} (hX : X.length = 12) (hY : Y.length = 12) (hZ : Z.length = 12) : prodF (prodF X Y 0 [4, 4]) Z 0 [4, 4] = prodF X (prodF Y Z 0 [4, 4]) 0 [4, 4] :=
  match X, Y, Z, hX, hY, hZ with
  | [x0, x1, x2, x3, x4, x5, x6, x7, x8, x9, x10, x11], [y0, y1, y2, y3, y4, y5, y6, y7, y8, y9, y10, y11], [z0, z1, z2, z3, z4, z5, z6, z7, z8, z9, z10, z11], _, _, _ => by
    simp [gi, prodF, blockP, dotP, tbl]
    try grind
theorem gz11 {X : List Int} (hX : X.length = 12) : prodF (zer 12) X 0 [4, 4] = X ∧ prodF X (zer 12) 0 [4, 4] = X :=
  match X, hX with
  | [x0, x1, x2, x3, x4, x5, x6, x7, x8, x9, x10, x11], _ => by
    simp [gi, prodF, blockP, dotP, tbl, zer, List.replicate]
theorem gv11 {X : List Int} (hX : X.length = 12) : prodF X (invF X 0 [4, 4] []) 0 [4, 4] = zer 12 ∧ prodF (invF X 0 [4, 4] []) X 0 [4, 4] = zer 12 :=
  match X, hX with
  | [x0, x1, x2, x3, x4, x5, x6, x7, x8, x9, x10, x11], _ => by
    simp [gi, prodF, blockP, dotP, tbl, zer, List.replicate, invF, invB]
    try grind
theorem go11 {X I : List Int} (hX : X.length = 12) (hI : I.length = 12) (h : prodF X I 0 [4, 4] = zer 12) : ∀ j, j < 12 → -(gi (prodF X (I.take j ++ zer (12 - j)) 0 [4, 4]) j) = gi I j :=
  match X, I, hX, hI, h with
  | [x0, x1, x2, x3, x4, x5, x6, x7, x8, x9, x10, x11], [i0, i1, i2, i3, i4, i5, i6, i7, i8, i9, i10, i11], _, _, h => by
    simp [gi, prodF, blockP, dotP, tbl, zer, List.replicate] at h
    intro j hj
    match j, hj with
    | 0, _ => simp [gi, prodF, blockP, dotP, tbl, zer, List.replicate]; try omega
    | 1, _ => simp [gi, prodF, blockP, dotP, tbl, zer, List.replicate]; try omega
    | 2, _ => simp [gi, prodF, blockP, dotP, tbl, zer, List.replicate]; try omega
    | 3, _ => simp [gi, prodF, blockP, dotP, tbl, zer, List.replicate]; try omega
    | 4, _ => simp [gi, prodF, blockP, dotP, tbl, zer, List.replicate]; try omega
    | 5, _ => simp [gi, prodF, blockP, dotP, tbl, zer, List.replicate]; try omega
    | 6, _ => simp [gi, prodF, blockP, dotP, tbl, zer, List.replicate]; try omega
    | 7, _ => simp [gi, prodF, blockP, dotP, tbl, zer, List.replicate]; try omega
    | 8, _ => simp [gi, prodF, blockP, dotP, tbl, zer, List.replicate]; try omega
    | 9, _ => simp [gi, prodF, blockP, dotP, tbl, zer, List.replicate]; try omega
    | 10, _ => simp [gi, prodF, blockP, dotP, tbl, zer, List.replicate]; try omega
    | 11, _ => simp [gi, prodF, blockP, dotP, tbl, zer, List.replicate]; try omega
theorem lp12 {d a b : Nat} {hh : SH} {X Y : List Int} (hX : X.length = 12) (hY : Y.length = 12) (hx : Bd a X) (hy : Bd b Y) (ha : 0 < a) (hb : 0 < b) (hab : a + b ≤ 1000000) :
    callF tb (d + 4) 33 [.tup (iv [5, 2, 2]), .tup (iv X), .tup (iv Y)] hh = .ok (.tup (iv (prodF X Y 0 [5, 2, 2]))) hh :=
  match X, Y, hX, hY, hx, hy with
  | [x0, x1, x2, x3, x4, x5, x6, x7, x8, x9, x10, x11], [y0, y1, y2, y3, y4, y5, y6, y7, y8, y9, y10, y11], _, _, hx, hy => by
    have o1 : (1 : Nat) < 2 ^ a := Nat.one_lt_two_pow (by omega)
    have o2 : (1 : Nat) < 2 ^ b := Nat.one_lt_two_pow (by omega)
    have z1 : (0 : Nat) < 2 ^ a := by omega
    have z2 : (0 : Nat) < 2 ^ b := by omega
    simp only [Bd, List.mem_cons, List.not_mem_nil, or_false, forall_eq_or_imp, forall_eq] at hx hy
    rw [← lq12]
    refine law_product_of (MX := [[[1, x0, x4, x7, x9], [0, 1, x1, x5, x8], [0, 0, 1, x2, x6], [0, 0, 0, 1, x3], [0, 0, 0, 0, 1]], [[1, x10], [0, 1]], [[1, x11], [0, 1]]]) (MY := [[[1, y0, y4, y7, y9], [0, 1, y1, y5, y8], [0, 0, 1, y2, y6], [0, 0, 0, 1, y3], [0, 0, 0, 0, 1]], [[1, y10], [0, 1]], [[1, y11], [0, 1]]]) (fun d => lm12 d x0 x1 x2 x3 x4 x5 x6 x7 x8 x9 x10 x11) (fun d => lm12 d y0 y1 y2 y3 y4 y5 y6 y7 y8 y9 y10 y11) ?_ (by simp) ha hb hab (fun d => le12 d (fun i j => ((List.range 5).map fun (k : Nat) => gi (gm [[1, x0, x4, x7, x9], [0, 1, x1, x5, x8], [0, 0, 1, x2, x6], [0, 0, 0, 1, x3], [0, 0, 0, 0, 1]] i) k * gi (gm [[1, y0, y4, y7, y9], [0, 1, y1, y5, y8], [0, 0, 1, y2, y6], [0, 0, 0, 1, y3], [0, 0, 0, 0, 1]] k) j).sum) (fun i j => ((List.range 2).map fun (k : Nat) => gi (gm [[1, x10], [0, 1]] i) k * gi (gm [[1, y10], [0, 1]] k) j).sum) (fun i j => ((List.range 2).map fun (k : Nat) => gi (gm [[1, x11], [0, 1]] i) k * gi (gm [[1, y11], [0, 1]] k) j).sum))
    simp [Sq, Bd, hx, hy, o1, o2, z1, z2]
theorem ga12 {X Y Z : List Int} (hX : X.length = 12) (hY : Y.length = 12) (hZ : Z.length = 12) : prodF (prodF X Y 0 [5, 2, 2]) Z 0 [5, 2, 2] = prodF X (prodF Y Z 0 [5, 2, 2]) 0 [5, 2, 2] :=
  match X, Y, Z, hX, hY, hZ with
  | [x0, x1, x2, x3, x4, x5, x6, x7, x8, x9, x10, x11], [y0, y1, y2, y3, y4, y5, y6, y7, y8, y9, y10, y11], [z0, z1, z2, z3, z4, z5, z6, z7, z8, z9, z10, z11], _, _, _ => by
    simp [gi, prodF, blockP, dotP, tbl]
    try grind
theorem gz12 {X : List Int} (hX : X.length = 12) : prodF (zer 12) X 0 [5, 2, 2] = X ∧ prodF X (zer 12) 0 [5, 2, 2] = X :=
  match X, hX with
  | [x0, x1, x2, x3, x4, x5, x6, x7, x8, x9, x10, x11], _ => by
    simp [gi, prodF, blockP, dotP, tbl, zer, List.replicate]
theorem gv12 {X : List Int} (hX : X.length = 12) : prodF X (invF X 0 [5, 2, 2] []) 0 [5, 2, 2] = zer 12 ∧ prodF (invF X 0 [5, 2, 2] []) X 0 [5, 2, 2] = zer 12 :=
  match X, hX with
  | [x0, x1, x2, x3, x4, x5, x6, x7, x8, x9, x10, x11], _ => by
    simp [gi, prodF, blockP, dotP, tbl, zer, List.replicate, invF, invB]
    try grind
theorem go12 {X I : List Int} (hX : X.length = 12) (hI : I.length = 12) (h : prodF X I 0 [5, 2, 2] = zer 12) : ∀ j, j < 12 → -(gi (prodF X (I.take j ++ zer (12 - j)) 0 [5, 2, 2]) j) = gi I j :=
  match X, I, hX, hI, h with
  | [x0, x1, x2, x3, x4, x5, x6, x7, x8, x9, x10, x11], [i0, i1, i2, i3, i4, i5, i6, i7, i8, i9, i10, i11], _, _, h => by
    simp [gi, prodF, blockP, dotP, tbl, zer, List.replicate] at h
    intro j hj
    match j, hj with
    | 0, _ => simp [gi, prodF, blockP, dotP, tbl, zer, List.replicate]; try omega
    | 1, _ => simp [gi, prodF, blockP, dotP, tbl, zer, List.replicate]; try omega
    | 2, _ => simp [gi, prodF, blockP, dotP, tbl, zer, List.replicate]; try omega
    | 3, _ => simp [gi, prodF, blockP, dotP, tbl, zer, List.replicate]; try omega
    | 4, _ => simp [gi, prodF, blockP, dotP, tbl, zer, List.replicate]; try omega
    | 5, _ => simp [gi, prodF, blockP, dotP, tbl, zer, List.replicate]; try omega
    | 6, _ => simp [gi, prodF, blockP, dotP, tbl, zer, List.replicate]; try omega
    | 7, _ => simp [gi, prodF, blockP, dotP, tbl, zer, List.replicate]; try omega
    | 8, _ => simp [gi, prodF, blockP, dotP, tbl, zer, List.replicate]; try omega
    | 9, _ => simp [gi, prodF, blockP, dotP, tbl, zer, List.replicate]; try omega
    | 10, _ => simp [gi, prodF, blockP, dotP, tbl, zer, List.replicate]; try omega
    | 11, _ => simp [gi, prodF, blockP, dotP, tbl, zer, List.replicate]; try omega
end K00
end

section
set_option Elab.async false
set_option linter.all false
set_option maxRecDepth 100000
set_option maxHeartbeats 0
set_option autoImplicit false
namespace K00
open PySem Ws
/-! ### binomial numbers, at any integer -/
def fall (n : Int) : Nat → Int
  | 0 => 1
  | k + 1 => fall n k * (n - k)
def fct : Nat → Int
  | 0 => 1
  | k + 1 => fct k * (k + 1)
def bn (n : Int) (k : Nat) : Int := (fall n k).fdiv (fct k)
theorem bn_dvd2 (n : Int) : ∃ b, fall n 2 = 2 * b := by
  rcases Int.emod_two_eq n with h | h
  · exact ⟨n / 2 * (n - 1), by have : n = 2 * (n / 2) := by omega
                               simp only [fall]; grind⟩
  · exact ⟨n * ((n - 1) / 2), by have : n - 1 = 2 * ((n - 1) / 2) := by omega
                                 simp only [fall]; grind⟩
theorem bn_dvd3 (n : Int) : ∃ b, fall n 3 = 6 * b := by
  obtain ⟨q, r, h, h0, h1⟩ : ∃ q r : Int, n = 6 * q + r ∧ 0 ≤ r ∧ r < 6 := ⟨n / 6, n % 6, by omega, by omega, by omega⟩
  have : r = 0 ∨ r = 1 ∨ r = 2 ∨ r = 3 ∨ r = 4 ∨ r = 5 := by omega
  subst h
  refine ⟨(fall (6 * q + r) 3) / 6, ?_⟩
  have e : (fall (6 * q + r) 3) % 6 = 0 := by
    have e2 : fall (6 * q + r) 3 = 6 * (36 * q * q * q + 18 * q * q * r - 18 * q * q + 3 * q * r * r - 6 * q * r + 2 * q) + fall r 3 := by simp only [fall]; grind
    rw [e2]
    rcases this with rfl | rfl | rfl | rfl | rfl | rfl <;> simp [fall] <;> omega
  omega
theorem bn_dvd4 (n : Int) : ∃ b, fall n 4 = 24 * b := by
  obtain ⟨q, r, h, h0, h1⟩ : ∃ q r : Int, n = 24 * q + r ∧ 0 ≤ r ∧ r < 24 := ⟨n / 24, n % 24, by omega, by omega, by omega⟩
  have : r = 0 ∨ r = 1 ∨ r = 2 ∨ r = 3 ∨ r = 4 ∨ r = 5 ∨ r = 6 ∨ r = 7 ∨ r = 8 ∨ r = 9 ∨ r = 10 ∨ r = 11 ∨ r = 12 ∨ r = 13 ∨ r = 14 ∨ r = 15 ∨ r = 16 ∨ r = 17 ∨ r = 18 ∨ r = 19 ∨ r = 20 ∨ r = 21 ∨ r = 22 ∨ r = 23 := by omega
  subst h
  refine ⟨(fall (24 * q + r) 4) / 24, ?_⟩
  have e : (fall (24 * q + r) 4) % 24 = 0 := by
    have e2 : ∀ t : Int, fall (t + r) 4 = t * ((4 * r * r * r + 6 * r * r * t + 4 * r * t * t + t * t * t) - 6 * (3 * r * r + 3 * r * t + t * t) + 11 * (2 * r + t) - 6) + fall r 4 := by intro t; simp only [fall]; grind
    rw [e2, Int.mul_assoc]
    generalize q * _ = z
    rcases this with rfl | rfl | rfl | rfl | rfl | rfl | rfl | rfl | rfl | rfl | rfl | rfl | rfl | rfl | rfl | rfl | rfl | rfl | rfl | rfl | rfl | rfl | rfl | rfl <;> simp [fall] <;> omega
  omega
/-- the division is exact -/
theorem bn_exact (n : Int) (k : Nat) (hk : k ≤ 4) : fall n k = fct k * bn n k := by
  have go : ∀ (c f : Int), 0 < c → (∃ b, f = c * b) → f = c * f.fdiv c := by
    rintro c f hc ⟨b, rfl⟩
    rw [Int.mul_fdiv_cancel_left _ (by omega)]
  match k, hk with
  | 0, _ => exact go 1 _ (by decide) ⟨_, (Int.one_mul _).symm⟩
  | 1, _ => exact go 1 _ (by decide) ⟨_, (Int.one_mul _).symm⟩
  | 2, _ => exact go 2 _ (by decide) (bn_dvd2 n)
  | 3, _ => exact go 6 _ (by decide) (bn_dvd3 n)
  | 4, _ => exact go 24 _ (by decide) (bn_dvd4 n)
/-- Pascal's rule -/
theorem bn_step (n : Int) : bn (n + 1) 1 = bn n 1 + 1 ∧ bn (n + 1) 2 = bn n 2 + bn n 1 ∧ bn (n + 1) 3 = bn n 3 + bn n 2 ∧ bn (n + 1) 4 = bn n 4 + bn n 3 := by
  have a1 := bn_exact n 1 (by decide)
  have a2 := bn_exact n 2 (by decide)
  have a3 := bn_exact n 3 (by decide)
  have a4 := bn_exact n 4 (by decide)
  have c1 := bn_exact (n + 1) 1 (by decide)
  have c2 := bn_exact (n + 1) 2 (by decide)
  have c3 := bn_exact (n + 1) 3 (by decide)
  have c4 := bn_exact (n + 1) 4 (by decide)
  simp [fall, fct] at a1 a2 a3 a4 c1 c2 c3 c4
  refine ⟨by omega, by grind, by grind, by grind⟩
theorem bn_zero : bn 0 1 = 0 ∧ bn 0 2 = 0 ∧ bn 0 3 = 0 ∧ bn 0 4 = 0 := by decide
theorem bn_one (n : Int) : bn n 1 = n := by
  have a1 := bn_exact n 1 (by decide)
  simp [fall, fct] at a1
  omega
end K00
end

section
set_option Elab.async false
set_option linter.all false
set_option maxRecDepth 100000
set_option maxHeartbeats 0
set_option autoImplicit false
namespace K00
open PySem Ws
/-- the turns of power_in -/
def pwF (n : Int) (X ns : List Int) : Nat → Nat → List Int → List Int → List Int
  | 0, _, tot, _ => tot
  | c + 1, k, tot, part => pwF n X ns c (k + 1) (List.zipWith (fun m e => m + bn n k * e) tot part) (strictF part X 0 ns)
def powF (n : Int) (X ns : List Int) (c : Nat) : List Int := pwF n X ns c 1 (zer X.length) X

theorem gp0 {X : List Int} (n : Int) (hX : X.length = 3) : prodF (powF n X [3] 2) X 0 [3] = powF (n + 1) X [3] 2 ∧ powF 0 X [3] 2 = zer 3 :=
  match X, hX with
  | [x0, x1, x2], _ => by
    obtain ⟨s1, s2, s3, s4⟩ := bn_step n
    obtain ⟨z1, z2, z3, z4⟩ := bn_zero
    simp only [powF, pwF, s1, s2, s3, s4, z1, z2, z3, z4]
    generalize bn n 1 = b1
    generalize bn n 2 = b2
    generalize bn n 3 = b3
    generalize bn n 4 = b4
    simp [gi, prodF, blockP, dotP, tbl, zer, List.replicate, strictF, sumP]
    try grind
theorem gp1 {X : List Int} (n : Int) (hX : X.length = 4) : prodF (powF n X [2, 3] 2) X 0 [2, 3] = powF (n + 1) X [2, 3] 2 ∧ powF 0 X [2, 3] 2 = zer 4 :=
  match X, hX with
  | [x0, x1, x2, x3], _ => by
    obtain ⟨s1, s2, s3, s4⟩ := bn_step n
    obtain ⟨z1, z2, z3, z4⟩ := bn_zero
    simp only [powF, pwF, s1, s2, s3, s4, z1, z2, z3, z4]
    generalize bn n 1 = b1
    generalize bn n 2 = b2
    generalize bn n 3 = b3
    generalize bn n 4 = b4
    simp [gi, prodF, blockP, dotP, tbl, zer, List.replicate, strictF, sumP]
    try grind
theorem gp2 {X : List Int} (n : Int) (hX : X.length = 6) : prodF (powF n X [4] 3) X 0 [4] = powF (n + 1) X [4] 3 ∧ powF 0 X [4] 3 = zer 6 :=
  match X, hX with
  | [x0, x1, x2, x3, x4, x5], _ => by
    obtain ⟨s1, s2, s3, s4⟩ := bn_step n
    obtain ⟨z1, z2, z3, z4⟩ := bn_zero
    simp only [powF, pwF, s1, s2, s3, s4, z1, z2, z3, z4]
    generalize bn n 1 = b1
    generalize bn n 2 = b2
    generalize bn n 3 = b3
    generalize bn n 4 = b4
    simp [gi, prodF, blockP, dotP, tbl, zer, List.replicate, strictF, sumP]
    try grind
theorem gp3 {X : List Int} (n : Int) (hX : X.length = 10) : prodF (powF n X [5] 4) X 0 [5] = powF (n + 1) X [5] 4 ∧ powF 0 X [5] 4 = zer 10 :=
  match X, hX with
  | [x0, x1, x2, x3, x4, x5, x6, x7, x8, x9], _ => by
    obtain ⟨s1, s2, s3, s4⟩ := bn_step n
    obtain ⟨z1, z2, z3, z4⟩ := bn_zero
    simp only [powF, pwF, s1, s2, s3, s4, z1, z2, z3, z4]
    generalize bn n 1 = b1
    generalize bn n 2 = b2
    generalize bn n 3 = b3
    generalize bn n 4 = b4
    simp [gi, prodF, blockP, dotP, tbl, zer, List.replicate, strictF, sumP]
    try grind
theorem gp4 {X : List Int} (n : Int) (hX : X.length = 6) : prodF (powF n X [3, 3] 2) X 0 [3, 3] = powF (n + 1) X [3, 3] 2 ∧ powF 0 X [3, 3] 2 = zer 6 :=
  match X, hX with
  | [x0, x1, x2, x3, x4, x5], _ => by
    obtain ⟨s1, s2, s3, s4⟩ := bn_step n
    obtain ⟨z1, z2, z3, z4⟩ := bn_zero
    simp only [powF, pwF, s1, s2, s3, s4, z1, z2, z3, z4]
    generalize bn n 1 = b1
    generalize bn n 2 = b2
    generalize bn n 3 = b3
    generalize bn n 4 = b4
    simp [gi, prodF, blockP, dotP, tbl, zer, List.replicate, strictF, sumP]
    try grind
theorem gp5 {X : List Int} (n : Int) (hX : X.length = 8) : prodF (powF n X [2, 2, 4] 3) X 0 [2, 2, 4] = powF (n + 1) X [2, 2, 4] 3 ∧ powF 0 X [2, 2, 4] 3 = zer 8 :=
  match X, hX with
  | [x0, x1, x2, x3, x4, x5, x6, x7], _ => by
    obtain ⟨s1, s2, s3, s4⟩ := bn_step n
    obtain ⟨z1, z2, z3, z4⟩ := bn_zero
    simp only [powF, pwF, s1, s2, s3, s4, z1, z2, z3, z4]
    generalize bn n 1 = b1
    generalize bn n 2 = b2
    generalize bn n 3 = b3
    generalize bn n 4 = b4
    simp [gi, prodF, blockP, dotP, tbl, zer, List.replicate, strictF, sumP]
    try grind
theorem gp6 {X : List Int} (n : Int) (hX : X.length = 9) : prodF (powF n X [4, 3] 3) X 0 [4, 3] = powF (n + 1) X [4, 3] 3 ∧ powF 0 X [4, 3] 3 = zer 9 :=
  match X, hX with
  | [x0, x1, x2, x3, x4, x5, x6, x7, x8], _ => by
    obtain ⟨s1, s2, s3, s4⟩ := bn_step n
    obtain ⟨z1, z2, z3, z4⟩ := bn_zero
    simp only [powF, pwF, s1, s2, s3, s4, z1, z2, z3, z4]
    generalize bn n 1 = b1
    generalize bn n 2 = b2
    generalize bn n 3 = b3
    generalize bn n 4 = b4
    simp [gi, prodF, blockP, dotP, tbl, zer, List.replicate, strictF, sumP]
    try grind
theorem gp7 {X : List Int} (n : Int) (hX : X.length = 11) : prodF (powF n X [2, 5] 4) X 0 [2, 5] = powF (n + 1) X [2, 5] 4 ∧ powF 0 X [2, 5] 4 = zer 11 :=
  match X, hX with
  | [x0, x1, x2, x3, x4, x5, x6, x7, x8, x9, x10], _ => by
    obtain ⟨s1, s2, s3, s4⟩ := bn_step n
    obtain ⟨z1, z2, z3, z4⟩ := bn_zero
    simp only [powF, pwF, s1, s2, s3, s4, z1, z2, z3, z4]
    generalize bn n 1 = b1
    generalize bn n 2 = b2
    generalize bn n 3 = b3
    generalize bn n 4 = b4
    simp [gi, prodF, blockP, dotP, tbl, zer, List.replicate, strictF, sumP]
    try grind
theorem gp8 {X : List Int} (n : Int) (hX : X.length = 5) : prodF (powF n X [3, 2, 2] 2) X 0 [3, 2, 2] = powF (n + 1) X [3, 2, 2] 2 ∧ powF 0 X [3, 2, 2] 2 = zer 5 :=
  match X, hX with
  | [x0, x1, x2, x3, x4], _ => by
    obtain ⟨s1, s2, s3, s4⟩ := bn_step n
    obtain ⟨z1, z2, z3, z4⟩ := bn_zero
    simp only [powF, pwF, s1, s2, s3, s4, z1, z2, z3, z4]
    generalize bn n 1 = b1
    generalize bn n 2 = b2
    generalize bn n 3 = b3
    generalize bn n 4 = b4
    simp [gi, prodF, blockP, dotP, tbl, zer, List.replicate, strictF, sumP]
    try grind
theorem gp9 {X : List Int} (n : Int) (hX : X.length = 1) : prodF (powF n X [2] 1) X 0 [2] = powF (n + 1) X [2] 1 ∧ powF 0 X [2] 1 = zer 1 :=
  match X, hX with
  | [x0], _ => by
    obtain ⟨s1, s2, s3, s4⟩ := bn_step n
    obtain ⟨z1, z2, z3, z4⟩ := bn_zero
    simp only [powF, pwF, s1, s2, s3, s4, z1, z2, z3, z4]
    generalize bn n 1 = b1
    generalize bn n 2 = b2
    generalize bn n 3 = b3
    generalize bn n 4 = b4
    simp [gi, prodF, blockP, dotP, tbl, zer, List.replicate, strictF, sumP]
    try grind
theorem gp10 {X : List Int} (n : Int) (hX : X.length = 9) : prodF (powF n X [3, 3, 3] 2) X 0 [3, 3, 3] = powF (n + 1) X [3, 3, 3] 2 ∧ powF 0 X [3, 3, 3] 2 = zer 9 :=
  match X, hX with
  | [x0, x1, x2, x3, x4, x5, x6, x7, x8], _ => by
    obtain ⟨s1, s2, s3, s4⟩ := bn_step n
    obtain ⟨z1, z2, z3, z4⟩ := bn_zero
    simp only [powF, pwF, s1, s2, s3, s4, z1, z2, z3, z4]
    generalize bn n 1 = b1
    generalize bn n 2 = b2
    generalize bn n 3 = b3
    generalize bn n 4 = b4
    simp [gi, prodF, blockP, dotP, tbl, zer, List.replicate, strictF, sumP]
    try grind
theorem gp11 {X : List Int} (n : Int) (hX : X.length = 12) : prodF (powF n X [4, 4] 3) X 0 [4, 4] = powF (n + 1) X [4, 4] 3 ∧ powF 0 X [4, 4] 3 = zer 12 :=
  match X, hX with
  | [x0, x1, x2, x3, x4, x5, x6, x7, x8, x9, x10, x11], _ => by
    obtain ⟨s1, s2, s3, s4⟩ := bn_step n
    obtain ⟨z1, z2, z3, z4⟩ := bn_zero
    simp only [powF, pwF, s1, s2, s3, s4, z1, z2, z3, z4]
    generalize bn n 1 = b1
    generalize bn n 2 = b2
    generalize bn n 3 = b3
    generalize bn n 4 = b4
    simp [gi, prodF, blockP, dotP, tbl, zer, List.replicate, strictF, sumP]
    try grind
theorem gp12 {X : List Int} (n : Int) (hX : X.length = 12) : prodF (powF n X [5, 2, 2] 4) X 0 [5, 2, 2] = powF (n + 1) X [5, 2, 2] 4 ∧ powF 0 X [5, 2, 2] 4 = zer 12 :=
  match X, hX with
  | [x0, x1, x2, x3, x4, x5, x6, x7, x8, x9, x10, x11], _ => by
    obtain ⟨s1, s2, s3, s4⟩ := bn_step n
    obtain ⟨z1, z2, z3, z4⟩ := bn_zero
    simp only [powF, pwF, s1, s2, s3, s4, z1, z2, z3, z4]
    generalize bn n 1 = b1
    generalize bn n 2 = b2
    generalize bn n 3 = b3
    generalize bn n 4 = b4
    simp [gi, prodF, blockP, dotP, tbl, zer, List.replicate, strictF, sumP]
    try grind
end K00
end

section
set_option Elab.async false
set_option linter.all false
set_option maxRecDepth 100000
set_option maxHeartbeats 0
set_option autoImplicit false
namespace K00
open PySem Ws
theorem fall_bd {n : Int} {c : Nat} (hn : n.natAbs < 2 ^ c) (hc : 3 ≤ c) : ∀ k : Nat, k ≤ 4 → (fall n k).natAbs < 2 ^ ((c + 1) * k + 1)
  | 0, _ => by simp [fall]
  | k + 1, hk => by
    have ih := fall_bd hn hc k (by omega)
    have e : (n - (k : Int)).natAbs < 2 ^ (c + 1) := by
      have h8 : 2 ^ 3 ≤ 2 ^ c := Nat.pow_le_pow_right (by decide) hc
      rw [Nat.pow_succ]
      omega
    rw [fall, Int.natAbs_mul]
    have : 2 ^ ((c + 1) * (k + 1) + 1) = 2 ^ ((c + 1) * k + 1) * 2 ^ (c + 1) := by
      rw [← Nat.pow_add]
      congr 1
      rw [Nat.mul_add]
      omega
    rw [this]
    exact Nat.mul_lt_mul'' ih e
theorem bin_turn {p : Pr} {n m : Int} {c : Nat} {h : SH} (hn : n.natAbs < 2 ^ c) (hc : 3 ≤ c) (hc2 : c ≤ 10000) (k : Nat) (hk : k < 4) {o : Option SV} :
    turn p (.name 2) b5l0 (.int (k : Nat)) [some (.int n), some (.int m), o, some (.int (fall n k)), some (.int (fct k))] h =
      .nx [some (.int n), some (.int m), some (.int (k : Nat)), some (.int (fall n (k + 1))), some (.int (fct (k + 1)))] h := by
  have f1 : mulFits (fall n k) (n - (k : Int)) = true := by
    have e : (n - (k : Int)).natAbs < 2 ^ (c + 1) := by
      have h8 : 2 ^ 3 ≤ 2 ^ c := Nat.pow_le_pow_right (by decide) hc
      rw [Nat.pow_succ]
      omega
    refine mf (fall_bd hn hc k (by omega)) e (by omega) (by omega) ?_
    have : (c + 1) * k ≤ (c + 1) * 4 := Nat.mul_le_mul_left _ (by omega)
    omega
  have f2 : mulFits (fct k) ((k : Int) + 1) = true := by
    match k, hk with
    | 0, _ => rfl
    | 1, _ => rfl
    | 2, _ => rfl
    | 3, _ => rfl
  simp [turn, b5l0, evSs, evS, ev, binop_mul f1, binop_mul f2, fall, fct]
/-- the turns of binomial_in -/
theorem bin_loop {p : Pr} {n m : Int} {c : Nat} {h : SH} (hn : n.natAbs < 2 ^ c) (hc : 3 ≤ c) (hc2 : c ≤ 10000) : ∀ (todo k : Nat) (o : Option SV), k + todo ≤ 4 → (k = 0 → o = none) → (k ≠ 0 → todo ≠ 0 ∨ True) →
    loopF [2] (turn p (.name 2) b5l0) ((List.range' k todo).map fun (j : Nat) => SV.int (j : Nat)) [some (.int n), some (.int m), none, some (.int (fall n k)), some (.int (fct k))] h =
      .nx [some (.int n), some (.int m), none, some (.int (fall n (k + todo))), some (.int (fct (k + todo)))] h
  | 0, k, o, _, _, _ => by simp [loopF]
  | todo + 1, k, o, hk, _, _ => by
    have ih := bin_loop (p := p) (m := m) (h := h) hn hc hc2 todo (k + 1) none (by omega) (by omega) (by simp)
    rw [List.range'_succ, List.map_cons, loop_nx (bin_turn hn hc hc2 k (by omega))]
    have e : k + (todo + 1) = k + 1 + todo := by omega
    rw [e]
    simpa using ih
theorem divFits_fct (k : Nat) (hk : k ≤ 4) : divFits (fct k) = true := by
  match k, hk with
  | 0, _ => rfl
  | 1, _ => rfl
  | 2, _ => rfl
  | 3, _ => rfl
  | 4, _ => rfl
theorem binomial_in {d c : Nat} {hh : SH} {n : Int} (hn : n.natAbs < 2 ^ c) (hc : 3 ≤ c) (hc2 : c ≤ 10000) (k : Nat) (hk : k ≤ 4) : callF tb (d + 1) 5 [.int n, .int (k : Nat)] hh = .ok (.int (bn n k)) hh := by
  refine call_ (F := f5) (h1 := []) rfl rfl (by simp [dryL, SV.dry]) rfl ?_ (fin_val rfl rfl)
  show evSs (prOf tb d) b5 [some (.int n), some (.int (k : Nat)), none, none, none] [] = _
  have lp := bin_loop (p := prOf tb d) (m := (k : Nat)) (h := []) hn hc hc2 k 0 none (by omega) (by simp) (by simp)
  rw [← List.range_eq_range', ← rng, Nat.zero_add, show fall n 0 = 1 from rfl, show fct 0 = 1 from rfl] at lp
  unfold b5
  rw [nx_ (env1 := [some (.int n), some (.int (k : Nat)), none, some (.int 1), some (.int 1)]) (h1 := []) (by rfl)]
  rw [nx_ (loop_ (range_ev (n := k) (by simp [ev]) (by omega)) lp)]
  exact rt_ (ret_ (by simp [ev, binop_fdiv (divFits_fct k hk), bn]))
end K00
end

section
set_option Elab.async false
set_option linter.all false
set_option maxRecDepth 100000
set_option maxHeartbeats 0
set_option autoImplicit false
namespace K00
open PySem Ws
/-! ### power_in -/
theorem strictF_len {X Y : List Int} : ∀ (ns : List Int) (s : Int), (strictF X Y s ns).length = wid ns
  | [], _ => rfl
  | n :: r, s => by rw [strictF, List.length_append, List.length_map, strictF_len r, wid]
theorem sumP_bd {a b : Nat} {X Y : List Int} (hx : Bd a X) (hy : Bd b Y) {s : Int} : ∀ ps : List (Int × Int), (sumP X Y s ps).natAbs ≤ ps.length * 2 ^ (a + b)
  | [] => by simp [sumP]
  | p :: ps => by
    have ih := sumP_bd hx hy (s := s) ps
    have m := mul_bd (gi_bd hx (s + p.1)) (gi_bd hy (s + p.2))
    have e : sumP X Y s (p :: ps) = gi X (s + p.1) * gi Y (s + p.2) + sumP X Y s ps := by simp [sumP]
    have l := Int.natAbs_add_le (gi X (s + p.1) * gi Y (s + p.2)) (sumP X Y s ps)
    rw [e, List.length_cons, Nat.add_mul, Nat.one_mul]
    omega
theorem strictF_bd {a b : Nat} {X Y : List Int} (hx : Bd a X) (hy : Bd b Y) : ∀ (ns : List Int) (s : Int), Sizes ns → Bd (a + b + 2) (strictF X Y s ns)
  | [], _, _ => Bd.nil
  | n :: r, s, h => by
    refine Bd.app ?_ (strictF_bd hx hy r _ fun m hm => h m (List.mem_cons_of_mem _ hm))
    intro v hv
    obtain ⟨ps, hp, rfl⟩ := List.mem_map.mp hv
    have t := (tbl_ok (h n List.mem_cons_self) ps hp).1
    have l := sumP_bd hx hy (s := s) ps
    have m : ps.length * 2 ^ (a + b) ≤ 3 * 2 ^ (a + b) := Nat.mul_le_mul_right _ t
    have e : 2 ^ (a + b + 2) = 4 * 2 ^ (a + b) := by rw [Nat.pow_add]; omega
    have z : 0 < 2 ^ (a + b) := Nat.pow_pos (by decide)
    omega
theorem fct_pos : ∀ k : Nat, 0 < fct k
  | 0 => by decide
  | k + 1 => by
    rw [fct]
    exact Int.mul_pos (fct_pos k) (by omega)
theorem bn_bd {n : Int} (hn : n.natAbs < 2 ^ 11) (k : Nat) (hk : k ≤ 4) : (bn n k).natAbs < 2 ^ 49 := by
  have f := fall_bd hn (by decide) k hk
  have e := bn_exact n k hk
  have p := fct_pos k
  have g : (fall n k).natAbs = (fct k).natAbs * (bn n k).natAbs := by rw [e, Int.natAbs_mul]
  have h1 : (bn n k).natAbs ≤ (fct k).natAbs * (bn n k).natAbs := Nat.le_mul_of_pos_left _ (by omega)
  have h2 : 2 ^ ((11 + 1) * k + 1) ≤ 2 ^ 49 := Nat.pow_le_pow_right (by decide) (by omega)
  omega
theorem mf_small {i j : Int} (h : i.natAbs < 2 ^ 49) : mulFits i j = true := by
  have : -(2 ^ 64) < i ∧ i < 2 ^ 64 := by omega
  unfold mulFits
  rw [decide_eq_true this]
  rfl
theorem zip_iv : ∀ X Y : List Int, zip2Of (iv X) (iv Y) = (X.zip Y).map fun q => SV.tup [.int q.1, .int q.2]
  | [], _ => rfl
  | _ :: _, [] => rfl
  | x :: X, y :: Y => by
    show SV.tup [.int x, .int y] :: zip2Of (iv X) (iv Y) = _
    rw [zip_iv X Y]
    rfl
theorem zw (g : Int → Int → Int) : ∀ X Y : List Int, List.zipWith g X Y = (X.zip Y).map fun p => g p.1 p.2
  | [], _ => by simp
  | _ :: _, [] => by simp
  | x :: X, y :: Y => congrArg (g x y :: ·) (zw g X Y)
def stepF (b : Int) (tot part : List Int) : List Int := List.zipWith (fun m e => m + b * e) tot part
theorem stepF_bd {r q : Nat} {b : Int} {tot part : List Int} (hb : b.natAbs < 2 ^ 49) (ht : Bd r tot) (hp : Bd q part) (h : q + 49 ≤ r) : Bd (r + 1) (stepF b tot part) := by
  intro v hv
  unfold stepF at hv
  rw [zw] at hv
  obtain ⟨p, hp2, rfl⟩ := List.mem_map.mp hv
  have m1 := ht p.1 (List.of_mem_zip hp2).1
  have m2 := hp p.2 (List.of_mem_zip hp2).2
  have m := mul_bd hb m2
  have l := Int.natAbs_add_le p.1 (b * p.2)
  have w : 2 ^ (49 + q) ≤ 2 ^ r := Nat.pow_le_pow_right (by decide) (by omega)
  have e : 2 ^ (r + 1) = 2 * 2 ^ r := by rw [Nat.pow_succ]; omega
  show (p.1 + b * p.2).natAbs < _
  omega
theorem pow_turn {d a q : Nat} {X ns tot part : List Int} {n : Int} (hn : n.natAbs < 2 ^ 11) (sz : Sizes ns) (hl : ns.length ≤ 3) (hX : X.length = wid ns) (hP : part.length = wid ns) (hT : tot.length ≤ 1000) (hx : Bd a X) (hp : Bd q part) (ha : 0 < a) (hq : 0 < q) (haq : q + a ≤ 1000000)
    (k : Nat) (hk : k ≤ 4) {o5 o6 : Option SV} : turn (prOf tb (d + 1)) (.name 5) b16l0 (.int (k : Nat)) [some (.tup (iv ns)), some (.tup (iv X)), some (.int n), some (.lst (iv tot)), some (.tup (iv part)), o5, o6, none, none] [] =
      .nx [some (.tup (iv ns)), some (.tup (iv X)), some (.int n), some (.lst (iv (stepF (bn n k) tot part))), some (.tup (iv (strictF part X 0 ns))), some (.int (k : Nat)), some (.int (bn n k)), none, none] [] := by
  rw [turn_eq (env2 := [some (.tup (iv ns)), some (.tup (iv X)), some (.int n), some (.lst (iv tot)), some (.tup (iv part)), some (.int (k : Nat)), o6, none, none]) (by simp)]
  have c1 : (prOf tb (d + 1)).call 5 [.int n, .int (k : Nat)] [] = .ok (.int (bn n k)) [] := binomial_in (d := d) hn (by decide) (by decide) k hk
  have c2 : (prOf tb (d + 1)).call 15 [.tup (iv ns), .tup (iv part), .tup (iv X)] [] = .ok (.tup (iv (strictF part X 0 ns))) [] :=
    strict_in (d := d) (spOk_of hp hx hq ha haq ns 0 sz (by omega) (by omega) (by omega)) hl
  have q1 : permute [0, 1] ([SV.int n, .int (k : Nat)] ++ ([] ++ (prOf tb (d + 1)).dfl 5)) = [SV.int n, .int (k : Nat)] := rfl
  have q2 : permute [0, 1, 2] ([SV.tup (iv ns), .tup (iv part), .tup (iv X)] ++ ([] ++ (prOf tb (d + 1)).dfl 15)) = [SV.tup (iv ns), .tup (iv part), .tup (iv X)] := rfl
  have cp : ev (prOf tb (d + 1)) (.comp false (.bin .add (.var 8) (.bin .mul (.var 6) (.var 7))) (.pair (.name 8) (.name 7)) (.zip2 (.var 3) (.var 4)) [8, 7])
      [some (.tup (iv ns)), some (.tup (iv X)), some (.int n), some (.lst (iv tot)), some (.tup (iv part)), some (.int (k : Nat)), some (.int (bn n k)), none, none] [] = .ok (.lst (iv (stepF (bn n k) tot part))) [] := by
    rw [compA_ (ps := tot.zip part) (fun p => SV.tup [.int p.1, .int p.2]) (fun p => SV.int (p.1 + bn n k * p.2)) (h1 := []) (by simp [evi, ev, zip_iv])]
    · have e : (tot.zip part).map (fun p => SV.int (p.1 + bn n k * p.2)) = iv (stepF (bn n k) tot part) := by
        unfold stepF iv
        rw [zw, List.map_map]
        rfl
      rw [e]
      refine mkL_val ?_
      unfold stepF
      rw [List.length_map, List.length_zipWith]
      have : seqLen = 16777216 := rfl
      omega
    · intro p hp
      refine ⟨[some (.tup (iv ns)), some (.tup (iv X)), some (.int n), some (.lst (iv tot)), some (.tup (iv part)), some (.int (k : Nat)), some (.int (bn n k)), some (.int p.2), some (.int p.1)], by simp, ?_⟩
      simp [ev, binop_mul (mf_small (j := p.2) (bn_bd hn k hk))]
  unfold b16l0
  rw [nx_ (set_ (v := .int (bn n k)) (h1 := []) (by simp only [ev, evs, look_zero, look_succ, Res.bind_ok, ofO, q1, c1]))]
  rw [nx_ (set_ (v := .lst (iv (stepF (bn n k) tot part))) (h1 := []) (by simpa using cp))]
  rw [nx_ (set_ (v := .tup (iv (strictF part X 0 ns))) (h1 := []) (by simp only [List.set, ev, evs, look_zero, look_succ, Res.bind_ok, ofO, q2, c2]))]
  rfl
theorem pow_loop {d a : Nat} {X ns : List Int} {n : Int} (hn : n.natAbs < 2 ^ 11) (sz : Sizes ns) (hl : ns.length ≤ 3) (hX : X.length = wid ns) (hx : Bd a X) (ha : 0 < a) (ha2 : a ≤ 40000) : ∀ (todo k q r : Nat) (tot part : List Int), k + todo ≤ 5 → part.length = wid ns → tot.length = wid ns → Bd q part → 0 < q → q + (a + 2) * todo ≤ 900000 → Bd r tot → q + 49 ≤ r → wid ns ≤ 1000 →
    (∃ part2, loopF [5, 6] (turn (prOf tb (d + 1)) (.name 5) b16l0) ((List.range' k todo).map fun (j : Nat) => SV.int (j : Nat)) [some (.tup (iv ns)), some (.tup (iv X)), some (.int n), some (.lst (iv tot)), some (.tup (iv part)), none, none, none, none] [] =
      .nx [some (.tup (iv ns)), some (.tup (iv X)), some (.int n), some (.lst (iv (pwF n X ns todo k tot part))), some (.tup (iv part2)), none, none, none, none] []) ∧ Bd (r + (a + 2) * todo) (pwF n X ns todo k tot part)
  | 0, k, q, r, tot, part, _, _, _, _, _, _, hr, _, _ => by
    refine ⟨⟨part, by simp [loopF, pwF]⟩, by simpa [pwF] using hr⟩
  | todo + 1, k, q, r, tot, part, hk, hP, hT, hp, hq, hb, hr, hqr, hw => by
    have hb' : q + (a + 2) + (a + 2) * todo ≤ 900000 := by
      rw [Nat.mul_add] at hb
      omega
    have e1 := pow_turn (d := d) (tot := tot) (o5 := none) (o6 := none) hn sz hl hX hP (by omega) hx hp ha hq (by omega) k (by omega)
    have ih := pow_loop (d := d) hn sz hl hX hx ha ha2 todo (k + 1) (q + a + 2) (r + (a + 2)) (stepF (bn n k) tot part) (strictF part X 0 ns) (by omega) (strictF_len ns 0) (by unfold stepF; rw [List.length_zipWith]; omega)
      (strictF_bd hp hx ns 0 sz) (by omega) (by omega) ((stepF_bd (bn_bd hn k (by omega)) hr hp hqr).mono (by omega)) (by omega) hw
    obtain ⟨⟨part2, e2⟩, b2⟩ := ih
    refine ⟨⟨part2, ?_⟩, ?_⟩
    · rw [List.range'_succ, List.map_cons, loop_nx e1]
      simpa [pwF, stepF] using e2
    · rw [Nat.mul_add, Nat.mul_one, ← Nat.add_assoc, Nat.add_right_comm]
      exact b2
theorem rng2 (c : Nat) : rangeOf 1 ((c : Nat) + 1 : Int) = (List.range' 1 c).map fun (j : Nat) => SV.int (j : Nat) := by
  unfold rangeOf
  have : ((c : Int) + 1 - 1).toNat = c := by omega
  have e : List.range' 1 c = (List.range' 0 c).map (1 + ·) := by rw [List.map_add_range']
  rw [this, List.range_eq_range', e, List.map_map]
  refine List.map_congr_left fun k _ => ?_
  show SV.int (1 + (k : Int)) = SV.int ((1 + k : Nat) : Int)
  rw [Int.natCast_add]
  rfl
theorem zer_bd {a n : Nat} : Bd a (zer n) := by
  intro v hv
  rw [List.eq_of_mem_replicate hv]
  exact Nat.pow_pos (by decide)
theorem power_in {d a c : Nat} {hh : SH} {X ns : List Int} {n : Int} (hn : n.natAbs < 2 ^ 11) (sz : Sizes ns) (hl : ns.length ≤ 3) (hw : wid ns ≤ 1000) (hX : X.length = wid ns) (hx : Bd a X) (ha : 0 < a) (ha2 : a ≤ 40000) (hc : c ≤ 4) (hm : ∀ h, builtin h .max1 [.tup (iv ns)] = some (.int ((c : Nat) + 1 : Int))) :
    callF tb (d + 2) 16 [.tup (iv ns), .tup (iv X), .int n] hh = .ok (.tup (iv (powF n X ns c))) hh ∧ Bd (5 * a + 57) (powF n X ns c) := by
  have hc4 : (a + 2) * c ≤ (a + 2) * 4 := Nat.mul_le_mul_left _ hc
  obtain ⟨⟨part2, lp⟩, bd⟩ := pow_loop (d := d) hn sz hl hX hx ha ha2 c 1 a (a + 49) (zer X.length) X (by omega) hX (by unfold zer; rw [List.length_replicate]; exact hX) hx ha (by omega) zer_bd (by omega) hw
  refine ⟨?_, bd.mono (by omega)⟩
  refine call_ (F := f16) (h1 := []) rfl rfl (by simp [dryL, SV.dry, dry_iv]) rfl ?_ (fin_val rfl deep_tup_iv)
  show evSs (prOf tb (d + 1)) b16 [some (.tup (iv ns)), some (.tup (iv X)), some (.int n), none, none, none, none, none, none] [] = _
  have cp : ev (prOf tb (d + 1)) (.comp false (.int (0)) (.name 7) (.it (.var 1)) [7]) [some (.tup (iv ns)), some (.tup (iv X)), some (.int n), none, none, none, none, none, none] [] = .ok (.lst (iv (zer X.length))) [] := by
    rw [compA_ (ps := X) SV.int (fun _ => SV.int 0) (h1 := []) (by simp [evi, ev])]
    · have e : X.map (fun _ => SV.int 0) = iv (zer X.length) := by
        unfold zer iv
        rw [List.map_replicate, List.map_const']
      rw [e]
      refine mkL_val ?_
      unfold zer
      rw [List.length_map, List.length_replicate]
      have : seqLen = 16777216 := rfl
      omega
    · intro x hx
      exact ⟨_, rfl, rfl⟩
  have rg : evi (prOf tb (d + 1)) (.range2 (.int (1)) (.bi .max1 (.cons (.var 0) .nil))) [some (.tup (iv ns)), some (.tup (iv X)), some (.int n), some (.lst (iv (zer X.length))), some (.tup (iv X)), none, none, none, none] [] = .ok ((List.range' 1 c).map fun (j : Nat) => SV.int (j : Nat)) [] := by
    have q : evi (prOf tb (d + 1)) (.range2 (.int (1)) (.bi .max1 (.cons (.var 0) .nil))) [some (.tup (iv ns)), some (.tup (iv X)), some (.int n), some (.lst (iv (zer X.length))), some (.tup (iv X)), none, none, none, none] [] = if (small62 1 && small62 ((c : Nat) + 1 : Int)) = true then Res.ok (rangeOf 1 ((c : Nat) + 1 : Int)) [] else Res.bad := by
      simp only [evi, ev, evs, look_zero, Res.bind_ok, ofO, hm]
    rw [q, rng2]
    refine if_pos ?_
    have := small_nat (n := c + 1) (by omega)
    push_cast at this
    rw [this]
    rfl
  unfold b16
  rw [nx_ (set_ (v := .lst (iv (zer X.length))) (h1 := []) cp)]
  rw [nx_ (set_ (v := .tup (iv X)) (h1 := []) (by simp [ev]))]
  rw [nx_ (loop_ (xs := (List.range' 1 c).map fun (j : Nat) => SV.int (j : Nat)) (h1 := []) (by simpa using rg) (by simpa using lp))]
  exact rt_ (ret_ (by simp [ev, evs, powF]))
end K00
end

section
set_option Elab.async false
set_option linter.all false
set_option maxRecDepth 100000
set_option maxHeartbeats 0
set_option autoImplicit false
namespace K00
open PySem Ws
abbrev mu (ns X Y : List Int) : List Int := prodF X Y 0 ns
abbrev iu (ns X : List Int) : List Int := invF X 0 ns []
abbrev tv1 (X : List Int) : SV := .tup (iv X)
/-- what holds of a space -/
structure SF (ns : List Int) (W c : Nat) : Prop where
  sz : Sizes ns
  hl : ns.length ≤ 3
  hw : wid ns = W
  w12 : W ≤ 12
  c4 : c ≤ 4
  mx : ∀ h, builtin h .max1 [tv1 ns] = some (.int ((c : Nat) + 1 : Int))
  lp : ∀ (d a b : Nat) (hh : SH) (X Y : List Int), X.length = W → Y.length = W → Bd a X → Bd b Y → 0 < a → 0 < b → a + b ≤ 1000000 → callF tb (d + 4) 33 [tv1 ns, tv1 X, tv1 Y] hh = .ok (tv1 (mu ns X Y)) hh
  ga : ∀ X Y Z : List Int, X.length = W → Y.length = W → Z.length = W → mu ns (mu ns X Y) Z = mu ns X (mu ns Y Z)
  gz : ∀ X : List Int, X.length = W → mu ns (zer W) X = X ∧ mu ns X (zer W) = X
  gv : ∀ X : List Int, X.length = W → mu ns X (iu ns X) = zer W ∧ mu ns (iu ns X) X = zer W
  go : ∀ X I : List Int, X.length = W → I.length = W → mu ns X I = zer W → ∀ j : Nat, j < W → -(gi (mu ns X (I.take j ++ zer (W - j))) (j : Nat)) = gi I (j : Nat)
  gp : ∀ (n : Int) (X : List Int), X.length = W → mu ns (powF n X ns c) X = powF (n + 1) X ns c ∧ powF 0 X ns c = zer W
  isp : ∀ (d : Nat) (hh : SH), callF tb (d + 4) 6 [tv1 ns] hh = .ok (.bl true) hh
  chk : ∀ (d : Nat) (hh : SH), callF tb (d + 5) 7 [tv1 ns] hh = .ok .non hh
  lw : ∀ (d : Nat) (hh : SH), callF tb (d + 1) 29 [tv1 ns] hh = .ok (.int (W : Nat)) hh
  idn : ∀ (d : Nat) (hh : SH), callF tb (d + 6) 12 [tv1 ns] hh = .ok (tv1 (zer W)) hh
  el : ∀ (d : Nat) (hh : SH) (X : List Int), X.length = W → callF tb (d + 5) 10 [tv1 ns, tv1 X] hh = .ok .non hh
  mst : ∃ m : Nat, 1 ≤ m ∧ m < 2 ^ 40 ∧ ∀ (p : Pr) (o : Option SV) (r : SE) (h : SH), ev p (.ite (.cmp .mem (.int (5)) (.var 1)) (.int (99)) (.ite (.cmp .mem (.int (4)) (.var 1)) (.int (9999)) (.int (999999999999)))) (o :: some (tv1 ns) :: r) h = .ok (.int (m : Nat)) h
  mst2 : ∃ m : Nat, m ≤ 999 ∧ ∀ (p : Pr) (o0 o1 o2 : Option SV) (r : SE) (h : SH), ev p (.lst false (.cons (.int (40)) (.cons (.ite (.and (.cmp .notMem (.int (4)) (.var 3)) (.cmp .notMem (.int (5)) (.var 3))) (.int (999)) (.int (40))) .nil))) (o0 :: o1 :: o2 :: some (tv1 ns) :: r) h = .ok (.lst [.int 40, .int (m : Nat)]) h
/-- an element, with its bits -/
def El (W a : Nat) (X : List Int) : Prop := X.length = W ∧ Bd a X ∧ 0 < a
section
variable {ns : List Int} {W c : Nat}
theorem El.mono {a b : Nat} {X : List Int} (h : El W a X) (k : a ≤ b) : El W b X := ⟨h.1, h.2.1.mono k, by have := h.2.2; omega⟩
theorem SF.mul (S : SF ns W c) {a b : Nat} {X Y : List Int} (hx : El W a X) (hy : El W b Y) : El W (a + b + 3) (mu ns X Y) :=
  ⟨by rw [prodF_len, S.hw], prodF_bd hx.2.1 hy.2.1 ns 0 S.sz, by omega⟩
theorem SF.mlen (S : SF ns W c) (X Y : List Int) : (mu ns X Y).length = W := by rw [prodF_len, S.hw]
theorem SF.inv0 (S : SF ns W c) {a : Nat} {X : List Int} (hx : El W a X) (ha : a ≤ 20000) : InvsOk X 0 ns [] ∧ El W (13 * (a + 3)) (iu ns X) := by
  obtain ⟨l, b, p⟩ := hx
  have w := S.w12
  have hw := S.hw
  have k : inb a (0 + wid ns) ≤ 13 * (a + 3) := by
    unfold inb
    exact Nat.mul_le_mul_right _ (by omega)
  obtain ⟨i1, i2, i3⟩ := invF_ok b p ns 0 [] S.sz rfl (by omega) Bd.nil (by omega)
  refine ⟨i1, ⟨?_, i2.mono k, by omega⟩⟩
  have i4 : (invF X 0 ns []).length = 0 + wid ns := i3
  show (invF X 0 ns []).length = W
  omega
theorem SF.inv (S : SF ns W c) {a : Nat} {X : List Int} (hx : El W a X) (ha : a ≤ 20000) : El W (13 * (a + 3)) (iu ns X) := (S.inv0 hx ha).2
theorem exB (X : List Int) : ∃ a, 0 < a ∧ Bd a X := by
  induction X with
  | nil => exact ⟨1, by decide, Bd.nil⟩
  | cons x X ih =>
    obtain ⟨a, h0, h⟩ := ih
    refine ⟨a + x.natAbs + 1, by omega, ?_⟩
    intro v hv
    rcases List.mem_cons.mp hv with rfl | hv
    · have : v.natAbs < 2 ^ v.natAbs := Nat.lt_two_pow_self
      exact Nat.lt_of_lt_of_le this (Nat.pow_le_pow_right (by decide) (by omega))
    · exact Nat.lt_of_lt_of_le (h v hv) (Nat.pow_le_pow_right (by decide) (by omega))
theorem invB_len2 {X : List Int} : ∀ (ns : List Int) (s : Int) (es : List Int), (invF X s ns es).length = es.length + wid ns
  | [], _, es => rfl
  | n :: r, s, es => by rw [invF, invB_len2 r, invB_len, wid]; omega
theorem SF.ilen (S : SF ns W c) (X : List Int) : (iu ns X).length = W := by
  rw [invB_len2, S.hw]
  exact Nat.zero_add _
theorem zlen : (zer W).length = W := List.length_replicate
theorem SF.zel (S : SF ns W c) : El W 1 (zer W) := ⟨zlen, zer_bd, by decide⟩

/-! ### the group -/
theorem SF.right_cancel (S : SF ns W c) {X Y Z : List Int} (hX : X.length = W) (hY : Y.length = W) (hZ : Z.length = W) (h : mu ns X Z = mu ns Y Z) : X = Y := by
  have e := congrArg (fun t => mu ns t (iu ns Z)) h
  rw [S.ga _ _ _ hX hZ (S.ilen Z), S.ga _ _ _ hY hZ (S.ilen Z), (S.gv Z hZ).1, (S.gz X hX).2, (S.gz Y hY).2] at e
  exact e
theorem SF.inv_unique (S : SF ns W c) {X I : List Int} (hX : X.length = W) (hI : I.length = W) (h : mu ns I X = zer W) : I = iu ns X :=
  S.right_cancel hI (S.ilen X) hX (h.trans (S.gv X hX).2.symm)
theorem SF.inv_mul (S : SF ns W c) {X Y : List Int} (hX : X.length = W) (hY : Y.length = W) : iu ns (mu ns Y X) = mu ns (iu ns X) (iu ns Y) := by
  refine (S.inv_unique (S.mlen _ _) (S.mlen _ _) ?_).symm
  have iX := S.ilen X
  have iY := S.ilen Y
  rw [S.ga _ _ _ iX iY (S.mlen _ _), ← S.ga _ _ _ iY hY hX, (S.gv Y hY).2, (S.gz X hX).1, (S.gv X hX).2]
theorem SF.plen (S : SF ns W c) {X : List Int} (hX : X.length = W) (n : Int) : (powF n X ns c).length = W := by
  have e := (S.gp (n - 1) X hX).1
  rw [Int.sub_add_cancel] at e
  rw [← e]
  exact S.mlen _ _
theorem SF.pow_one (S : SF ns W c) {X : List Int} (hX : X.length = W) : powF 1 X ns c = X := by
  have e := (S.gp 0 X hX)
  rw [e.2, (S.gz X hX).1] at e
  exact e.1.symm
theorem SF.pow_add (S : SF ns W c) {X : List Int} (hX : X.length = W) (n m : Int) : mu ns (powF n X ns c) (powF m X ns c) = powF (n + m) X ns c := by
  have P := S.plen hX
  have up : ∀ m, mu ns (powF n X ns c) (powF m X ns c) = powF (n + m) X ns c → mu ns (powF n X ns c) (powF (m + 1) X ns c) = powF (n + (m + 1)) X ns c := by
    intro m h
    rw [← (S.gp m X hX).1, ← S.ga _ _ _ (P n) (P m) hX, h, (S.gp (n + m) X hX).1, Int.add_assoc]
  have down : ∀ m, mu ns (powF n X ns c) (powF (m + 1) X ns c) = powF (n + (m + 1)) X ns c → mu ns (powF n X ns c) (powF m X ns c) = powF (n + m) X ns c := by
    intro m h
    refine S.right_cancel (S.mlen _ _) (P _) hX ?_
    rw [S.ga _ _ _ (P n) (P m) hX, (S.gp m X hX).1, h, (S.gp (n + m) X hX).1, Int.add_assoc]
  have z : mu ns (powF n X ns c) (powF 0 X ns c) = powF (n + 0) X ns c := by
    rw [(S.gp 0 X hX).2, (S.gz _ (P n)).2, Int.add_zero]
  have pos : ∀ k : Nat, mu ns (powF n X ns c) (powF (k : Nat) X ns c) = powF (n + (k : Nat)) X ns c := by
    intro k
    induction k with
    | zero => exact z
    | succ k ih =>
      have := up k ih
      push_cast
      exact this
  have neg : ∀ k : Nat, mu ns (powF n X ns c) (powF (-(k : Int)) X ns c) = powF (n + -(k : Int)) X ns c := by
    intro k
    induction k with
    | zero => simpa using z
    | succ k ih =>
      have e : -((k + 1 : Nat) : Int) + 1 = -(k : Int) := by omega
      exact down _ (by rw [e]; exact ih)
  rcases Int.le_total 0 m with h | h
  · have := pos m.toNat
    rwa [Int.toNat_of_nonneg h] at this
  · have := neg (-m).toNat
    rw [Int.toNat_of_nonneg (by omega), Int.neg_neg] at this
    exact this
theorem SF.pow_neg (S : SF ns W c) {X : List Int} (hX : X.length = W) : powF (-1) X ns c = iu ns X := by
  refine S.inv_unique hX (S.plen hX _) ?_
  rw [(S.gp (-1) X hX).1]
  exact (S.gp 0 X hX).2
/-- the commutator of x and its power -/
theorem SF.comm_pow (S : SF ns W c) {X : List Int} (hX : X.length = W) (m : Int) : mu ns (iu ns (mu ns (powF m X ns c) X)) (mu ns X (powF m X ns c)) = zer W := by
  have e : mu ns X (powF m X ns c) = mu ns (powF m X ns c) X := by
    have a := S.pow_add hX 1 m
    have b := S.pow_add hX m 1
    rw [S.pow_one hX] at a b
    rw [a, b, Int.add_comm]
  rw [e]
  exact (S.gv _ (S.mlen _ _)).2
theorem SF.comm_due (S : SF ns W c) {X Y : List Int} (hX : X.length = W) (hY : Y.length = W) : mu ns (mu ns (iu ns X) (iu ns Y)) (mu ns X Y) = mu ns (iu ns (mu ns Y X)) (mu ns X Y) := by
  rw [S.inv_mul hX hY]
theorem SF.turn_due (S : SF ns W c) {X Y : List Int} (hX : X.length = W) (hY : Y.length = W) : mu ns (mu ns (iu ns Y) X) Y = mu ns (iu ns Y) (mu ns X Y) := S.ga _ _ _ (S.ilen Y) hX hY
theorem SF.x_comm (S : SF ns W c) {X Y : List Int} (hX : X.length = W) (hY : Y.length = W) : mu ns X (mu ns (iu ns (mu ns Y X)) (mu ns X Y)) = mu ns (iu ns Y) (mu ns X Y) := by
  have iX := S.ilen X
  have iY := S.ilen Y
  rw [S.inv_mul hX hY, S.ga _ _ _ iX iY (S.mlen _ _), ← S.ga _ _ _ hX iX (S.mlen _ _), (S.gv X hX).1, (S.gz _ (S.mlen _ _)).1]
theorem SF.turn_turn (S : SF ns W c) {X Y Z : List Int} (hX : X.length = W) (hY : Y.length = W) (hZ : Z.length = W) :
    mu ns (iu ns Z) (mu ns (mu ns (iu ns Y) (mu ns X Y)) Z) = mu ns (iu ns (mu ns Y Z)) (mu ns X (mu ns Y Z)) := by
  have iZ := S.ilen Z
  have iY := S.ilen Y
  rw [S.inv_mul hZ hY, S.ga _ _ _ iZ iY (S.mlen _ _), S.ga _ _ _ iY (S.mlen _ _) hZ, S.ga _ _ _ hX hY hZ]
end
end K00
end

section
set_option Elab.async false
set_option linter.all false
set_option maxRecDepth 100000
set_option maxHeartbeats 0
set_option autoImplicit false
namespace K00
open PySem Ws
theorem perm1 {x : SV} : permute [0] [x] = [x] := rfl
theorem perm2 {x y : SV} : permute [0, 1] [x, y] = [x, y] := rfl
theorem perm3 {x y z : SV} : permute [0, 1, 2] [x, y, z] = [x, y, z] := rfl
theorem perm201 {x y z : SV} : permute [2, 0, 1] [x, y, z] = [z, x, y] := rfl
theorem perm021 {x y z : SV} : permute [0, 2, 1] [x, y, z] = [x, z, y] := rfl
theorem perm210 {x y z : SV} : permute [2, 1, 0] [x, y, z] = [z, y, x] := rfl
theorem df (n f : Nat) (h : dflOf tb f = []) : (prOf tb n).dfl f = [] := h
theorem df4 {n : Nat} : (prOf tb n).dfl 4 = [] := rfl
theorem df6 {n : Nat} : (prOf tb n).dfl 6 = [] := rfl
theorem df7 {n : Nat} : (prOf tb n).dfl 7 = [] := rfl
theorem df10 {n : Nat} : (prOf tb n).dfl 10 = [] := rfl
theorem df12 {n : Nat} : (prOf tb n).dfl 12 = [] := rfl
theorem df13 {n : Nat} : (prOf tb n).dfl 13 = [] := rfl
theorem df14 {n : Nat} : (prOf tb n).dfl 14 = [] := rfl
theorem df16 {n : Nat} : (prOf tb n).dfl 16 = [] := rfl
theorem df17 {n : Nat} : (prOf tb n).dfl 17 = [] := rfl
theorem df18 {n : Nat} : (prOf tb n).dfl 18 = [] := rfl
theorem df19 {n : Nat} : (prOf tb n).dfl 19 = [] := rfl
theorem df20 {n : Nat} : (prOf tb n).dfl 20 = [] := rfl
theorem df21 {n : Nat} : (prOf tb n).dfl 21 = [] := rfl
theorem df22 {n : Nat} : (prOf tb n).dfl 22 = [] := rfl
theorem df23 {n : Nat} : (prOf tb n).dfl 23 = [] := rfl
theorem df24 {n : Nat} : (prOf tb n).dfl 24 = [] := rfl
theorem df25 {n : Nat} : (prOf tb n).dfl 25 = [] := rfl
theorem df26 {n : Nat} : (prOf tb n).dfl 26 = [] := rfl
theorem df27 {n : Nat} : (prOf tb n).dfl 27 = [] := rfl
theorem df29 {n : Nat} : (prOf tb n).dfl 29 = [] := rfl
theorem df33 {n : Nat} : (prOf tb n).dfl 33 = [] := rfl
theorem df34 {n : Nat} : (prOf tb n).dfl 34 = [] := rfl
theorem df35 {n : Nat} : (prOf tb n).dfl 35 = [] := rfl
theorem df36 {n : Nat} : (prOf tb n).dfl 36 = [] := rfl
theorem df37 {n : Nat} : (prOf tb n).dfl 37 = [] := rfl
theorem fin_non {F : FT} {h1 : SH} (hk : F.keep = false) : finish F [] .non h1 = .ok .non [] := fin_val hk rfl
/-- a call of a pure def that ends without a value -/
theorem callN_ {T : Tb} {d f : Nat} {F : FT} {xs : List SV} {h h1 : SH} {env1 : SE} {w : SV} (hF : T.funs[f]? = some F) (hp : F.pure = true) (hx : dryL xs = true) (hl : xs.length = F.ps.length) (e : evSs (prOf T d) F.body (startE F xs) [] = .nx env1 h1) (q : finish F [] .non h1 = .ok w []) : callF T (d + 1) f xs h = .ok w h := by
  rw [callF, hF]
  simp only
  rw [if_pos hp, if_pos hx]
  show dryRun (runF (prOf T d) F xs []) h = _
  have r : runF (prOf T d) F xs [] = .ok w [] := by
    unfold runF
    rw [if_pos (decide_eq_true hl), e]
    exact q
  rw [r]
  rfl
section
variable {ns : List Int} {W c : Nat}
theorem int_ok {d : Nat} {hh : SH} (n : Int) : callF tb (d + 3) 4 [.int n] hh = .ok .non hh := by rfl
theorem dry3 {X Y Z : List Int} : dryL [tv1 X, tv1 Y, tv1 Z] = true := by simp [dryL, SV.dry, dry_iv]
theorem dry2 {X Y : List Int} : dryL [tv1 X, tv1 Y] = true := by simp [dryL, SV.dry, dry_iv]
theorem SF.two (S : SF ns W c) {d : Nat} {hh : SH} {X Y : List Int} (hX : X.length = W) (hY : Y.length = W) : callF tb (d + 6) 19 [tv1 ns, tv1 X, tv1 Y] hh = .ok .non hh := by
  have c1 : (prOf tb (d + 5)).call 7 [tv1 ns] [] = .ok .non [] := S.chk d []
  have c2 : (prOf tb (d + 5)).call 10 [tv1 ns, tv1 X] [] = .ok .non [] := S.el d [] X hX
  have c3 : (prOf tb (d + 5)).call 10 [tv1 ns, tv1 Y] [] = .ok .non [] := S.el d [] Y hY
  refine callN_ (F := f19) (env1 := [some (tv1 ns), some (tv1 X), some (tv1 Y)]) (h1 := []) rfl rfl dry3 rfl ?_ (fin_non rfl)
  show evSs (prOf tb (d + 5)) b19 [some (tv1 ns), some (tv1 X), some (tv1 Y)] [] = _
  unfold b19
  simp only [evSs, evS, ev, evs, look_zero, look_succ, Res.bind_ok, ofO, List.cons_append, List.nil_append, df7, df10, perm1, perm2, c1, c2, c3, Out.of]
theorem SF.prod_in (S : SF ns W c) {d a b : Nat} {hh : SH} {X Y : List Int} (hX : El W a X) (hY : El W b Y) (hab : a + b ≤ 1000000) : callF tb (d + 1) 13 [tv1 ns, tv1 X, tv1 Y] hh = .ok (tv1 (mu ns X Y)) hh := by
  have w := S.hw
  exact product_in (spOk_of hX.2.1 hY.2.1 hX.2.2 hY.2.2 hab ns 0 S.sz (by omega) (by have := hX.1; omega) (by have := hY.1; omega)) S.hl
theorem SF.inv_in (S : SF ns W c) {d a : Nat} {hh : SH} {X : List Int} (hX : El W a X) (ha : a ≤ 20000) : callF tb (d + 1) 14 [tv1 ns, tv1 X] hh = .ok (tv1 (iu ns X)) hh :=
  inverse_in (S.inv0 hX ha).1 S.hl
/-- product -/
theorem SF.product (S : SF ns W c) {d a b : Nat} {hh : SH} {X Y : List Int} (hX : El W a X) (hY : El W b Y) (hab : a + b ≤ 1000000) : callF tb (d + 7) 20 [tv1 ns, tv1 X, tv1 Y] hh = .ok (tv1 (mu ns X Y)) hh := by
  have c1 : (prOf tb (d + 6)).call 19 [tv1 ns, tv1 X, tv1 Y] [] = .ok .non [] := S.two hX.1 hY.1
  have c2 : (prOf tb (d + 6)).call 13 [tv1 ns, tv1 X, tv1 Y] [] = .ok (tv1 (mu ns X Y)) [] := S.prod_in (d := d + 5) hX hY hab
  refine call_ (F := f20) (h1 := []) rfl rfl dry3 rfl ?_ (fin_val rfl deep_tup_iv)
  show evSs (prOf tb (d + 6)) b20 [some (tv1 ns), some (tv1 X), some (tv1 Y)] [] = _
  unfold b20
  simp only [evSs, evS, ev, evs, look_zero, look_succ, Res.bind_ok, ofO, List.cons_append, List.nil_append, df19, df13, perm3, c1, c2, Out.of]
/-- inverse -/
theorem SF.inverse (S : SF ns W c) {d a : Nat} {hh : SH} {X : List Int} (hX : El W a X) (ha : a ≤ 20000) : callF tb (d + 6) 21 [tv1 ns, tv1 X] hh = .ok (tv1 (iu ns X)) hh := by
  have c1 : (prOf tb (d + 5)).call 7 [tv1 ns] [] = .ok .non [] := S.chk d []
  have c2 : (prOf tb (d + 5)).call 10 [tv1 ns, tv1 X] [] = .ok .non [] := S.el d [] X hX.1
  have c3 : (prOf tb (d + 5)).call 14 [tv1 ns, tv1 X] [] = .ok (tv1 (iu ns X)) [] := S.inv_in (d := d + 4) hX ha
  refine call_ (F := f21) (h1 := []) rfl rfl dry2 rfl ?_ (fin_val rfl deep_tup_iv)
  show evSs (prOf tb (d + 5)) b21 [some (tv1 ns), some (tv1 X)] [] = _
  unfold b21
  simp only [evSs, evS, ev, evs, look_zero, look_succ, Res.bind_ok, ofO, List.cons_append, List.nil_append, df7, df10, df14, perm1, perm2, c1, c2, c3, Out.of]
theorem SF.pow_in (S : SF ns W c) {d a : Nat} {hh : SH} {X : List Int} {n : Int} (hX : El W a X) (ha : a ≤ 40000) (hn : n.natAbs < 2 ^ 11) : callF tb (d + 2) 16 [tv1 ns, tv1 X, .int n] hh = .ok (tv1 (powF n X ns c)) hh ∧ El W (5 * a + 57) (powF n X ns c) := by
  have w := S.hw
  have w12 := S.w12
  obtain ⟨p1, p2⟩ := power_in (d := d) (hh := hh) hn S.sz S.hl (by omega) (by have := hX.1; omega) hX.2.1 hX.2.2 ha S.c4 S.mx
  exact ⟨p1, S.plen hX.1 n, p2, by omega⟩
theorem SF.pel (S : SF ns W c) {a : Nat} {X : List Int} {n : Int} (hX : El W a X) (ha : a ≤ 40000) (hn : n.natAbs < 2 ^ 11) : El W (5 * a + 57) (powF n X ns c) := (S.pow_in (d := 0) (hh := []) hX ha hn).2
/-- power -/
theorem SF.power (S : SF ns W c) {d a : Nat} {hh : SH} {X : List Int} {n : Int} (hX : El W a X) (ha : a ≤ 40000) (hn : n.natAbs < 2 ^ 11) : callF tb (d + 6) 22 [tv1 ns, tv1 X, .int n] hh = .ok (tv1 (powF n X ns c)) hh := by
  have c1 : (prOf tb (d + 5)).call 7 [tv1 ns] [] = .ok .non [] := S.chk d []
  have c2 : (prOf tb (d + 5)).call 10 [tv1 ns, tv1 X] [] = .ok .non [] := S.el d [] X hX.1
  have c3 : (prOf tb (d + 5)).call 4 [.int n] [] = .ok .non [] := int_ok (d := d + 2) n
  have c4 : (prOf tb (d + 5)).call 16 [tv1 ns, tv1 X, .int n] [] = .ok (tv1 (powF n X ns c)) [] := (S.pow_in (d := d + 3) hX ha hn).1
  refine call_ (F := f22) (h1 := []) rfl rfl (by simp [dryL, SV.dry, dry_iv]) rfl ?_ (fin_val rfl deep_tup_iv)
  show evSs (prOf tb (d + 5)) b22 [some (tv1 ns), some (tv1 X), some (.int n)] [] = _
  unfold b22
  simp only [evSs, evS, ev, evs, look_zero, look_succ, Res.bind_ok, ofO, List.cons_append, List.nil_append, df4, df7, df10, df16, perm1, perm2, perm3, c1, c2, c3, c4, Out.of]
/-- commutator -/
theorem SF.commutator (S : SF ns W c) {d a b : Nat} {hh : SH} {X Y : List Int} (hX : El W a X) (hY : El W b Y) (hab : a + b ≤ 10000) : callF tb (d + 7) 23 [tv1 ns, tv1 X, tv1 Y] hh = .ok (tv1 (mu ns (iu ns (mu ns Y X)) (mu ns X Y))) hh := by
  have c1 : (prOf tb (d + 6)).call 19 [tv1 ns, tv1 X, tv1 Y] [] = .ok .non [] := S.two hX.1 hY.1
  have m1 := S.mul hX hY
  have m2 := S.mul hY hX
  have m3 := S.inv m2 (by omega)
  have c2 : (prOf tb (d + 6)).call 17 [tv1 ns, tv1 X, tv1 Y] [] = .ok (tv1 (mu ns (iu ns (mu ns Y X)) (mu ns X Y))) [] := by
    have e1 : (prOf tb (d + 5)).call 13 [tv1 ns, tv1 Y, tv1 X] [] = .ok (tv1 (mu ns Y X)) [] := S.prod_in (d := d + 4) hY hX (by omega)
    have e2 : (prOf tb (d + 5)).call 14 [tv1 ns, tv1 (mu ns Y X)] [] = .ok (tv1 (iu ns (mu ns Y X))) [] := S.inv_in (d := d + 4) m2 (by omega)
    have e3 : (prOf tb (d + 5)).call 13 [tv1 ns, tv1 X, tv1 Y] [] = .ok (tv1 (mu ns X Y)) [] := S.prod_in (d := d + 4) hX hY (by omega)
    have e4 : (prOf tb (d + 5)).call 13 [tv1 ns, tv1 (iu ns (mu ns Y X)), tv1 (mu ns X Y)] [] = .ok (tv1 (mu ns (iu ns (mu ns Y X)) (mu ns X Y))) [] := S.prod_in (d := d + 4) m3 m1 (by omega)
    show callF tb (d + 5 + 1) 17 _ [] = _
    refine call_ (d := d + 5) (F := f17) (h1 := []) rfl rfl dry3 rfl ?_ (fin_val rfl deep_tup_iv)
    show evSs (prOf tb (d + 5)) b17 [some (tv1 ns), some (tv1 X), some (tv1 Y)] [] = _
    unfold b17
    simp only [evSs, evS, ev, evs, look_zero, look_succ, Res.bind_ok, ofO, List.cons_append, List.nil_append, df13, df14, perm2, perm3, e1, e2, e3, e4, Out.of]
  refine call_ (F := f23) (h1 := []) rfl rfl dry3 rfl ?_ (fin_val rfl deep_tup_iv)
  show evSs (prOf tb (d + 6)) b23 [some (tv1 ns), some (tv1 X), some (tv1 Y)] [] = _
  unfold b23
  simp only [evSs, evS, ev, evs, look_zero, look_succ, Res.bind_ok, ofO, List.cons_append, List.nil_append, df19, df17, perm3, c1, c2, Out.of]
theorem SF.comm_el (S : SF ns W c) {a b : Nat} {X Y : List Int} (hX : El W a X) (hY : El W b Y) (hab : a + b ≤ 10000) : El W (14 * (a + b) + 84) (mu ns (iu ns (mu ns Y X)) (mu ns X Y)) := by
  have m := S.mul (S.inv (S.mul hY hX) (by omega)) (S.mul hX hY)
  exact m.mono (by omega)
/-- turned -/
theorem SF.turned (S : SF ns W c) {d a b : Nat} {hh : SH} {X Y : List Int} (hX : El W a X) (hY : El W b Y) (hab : a + b ≤ 10000) : callF tb (d + 7) 24 [tv1 ns, tv1 X, tv1 Y] hh = .ok (tv1 (mu ns (iu ns Y) (mu ns X Y))) hh := by
  have c1 : (prOf tb (d + 6)).call 19 [tv1 ns, tv1 X, tv1 Y] [] = .ok .non [] := S.two hX.1 hY.1
  have m1 := S.mul hX hY
  have m3 := S.inv hY (by omega)
  have c2 : (prOf tb (d + 6)).call 18 [tv1 ns, tv1 X, tv1 Y] [] = .ok (tv1 (mu ns (iu ns Y) (mu ns X Y))) [] := by
    have e2 : (prOf tb (d + 5)).call 14 [tv1 ns, tv1 Y] [] = .ok (tv1 (iu ns Y)) [] := S.inv_in (d := d + 4) hY (by omega)
    have e3 : (prOf tb (d + 5)).call 13 [tv1 ns, tv1 X, tv1 Y] [] = .ok (tv1 (mu ns X Y)) [] := S.prod_in (d := d + 4) hX hY (by omega)
    have e4 : (prOf tb (d + 5)).call 13 [tv1 ns, tv1 (iu ns Y), tv1 (mu ns X Y)] [] = .ok (tv1 (mu ns (iu ns Y) (mu ns X Y))) [] := S.prod_in (d := d + 4) m3 m1 (by omega)
    show callF tb (d + 5 + 1) 18 _ [] = _
    refine call_ (d := d + 5) (F := f18) (h1 := []) rfl rfl dry3 rfl ?_ (fin_val rfl deep_tup_iv)
    show evSs (prOf tb (d + 5)) b18 [some (tv1 ns), some (tv1 X), some (tv1 Y)] [] = _
    unfold b18
    simp only [evSs, evS, ev, evs, look_zero, look_succ, Res.bind_ok, ofO, List.cons_append, List.nil_append, df13, df14, perm2, perm3, e2, e3, e4, Out.of]
  refine call_ (F := f24) (h1 := []) rfl rfl dry3 rfl ?_ (fin_val rfl deep_tup_iv)
  show evSs (prOf tb (d + 6)) b24 [some (tv1 ns), some (tv1 X), some (tv1 Y)] [] = _
  unfold b24
  simp only [evSs, evS, ev, evs, look_zero, look_succ, Res.bind_ok, ofO, List.cons_append, List.nil_append, df19, df18, perm3, c1, c2, Out.of]
theorem SF.turn_el (S : SF ns W c) {a b : Nat} {X Y : List Int} (hX : El W a X) (hY : El W b Y) (hab : a + b ≤ 10000) : El W (a + 14 * b + 45) (mu ns (iu ns Y) (mu ns X Y)) := by
  have m := S.mul (S.inv hY (by omega)) (S.mul hX hY)
  exact m.mono (by omega)
theorem SF.law_prod (S : SF ns W c) {d a b : Nat} {hh : SH} {X Y : List Int} (hX : El W a X) (hY : El W b Y) (hab : a + b ≤ 1000000) : callF tb (d + 4) 33 [tv1 ns, tv1 X, tv1 Y] hh = .ok (tv1 (mu ns X Y)) hh :=
  S.lp d a b hh X Y hX.1 hY.1 hX.2.1 hY.2.1 hX.2.2 hY.2.2 hab
end
end K00
end

section
set_option Elab.async false
set_option linter.all false
set_option maxRecDepth 100000
set_option maxHeartbeats 0
set_option autoImplicit false
namespace K00
open PySem Ws
section
variable {ns : List Int} {W c : Nat}
theorem part_len {I : List Int} {j : Nat} (hI : I.length = W) (hj : j ≤ W) : (I.take j ++ zer (W - j)).length = W := by
  rw [List.length_append, List.length_take, zlen]
  omega
theorem part_el {a : Nat} {I : List Int} {j : Nat} (hI : El W a I) (hj : j ≤ W) : El W a (I.take j ++ zer (W - j)) :=
  ⟨part_len hI.1 hj, Bd.app (fun v hv => hI.2.1 v (List.mem_of_mem_take hv)) zer_bd, hI.2.2⟩
theorem part_set {I : List Int} {j : Nat} (hI : I.length = W) (hj : j < W) : (I.take j ++ zer (W - j)).set j (gi I (j : Nat)) = I.take (j + 1) ++ zer (W - (j + 1)) := by
  have e : W - j = (W - (j + 1)) + 1 := by omega
  have l : (I.take j).length = j := by rw [List.length_take]; omega
  rw [List.set_append_right _ _ (by omega), l, Nat.sub_self, e]
  unfold zer
  rw [List.replicate_succ, List.set_cons_zero]
  have g : gi I (j : Nat) = I[j]'(by omega) := by
    unfold gi
    rw [List.getD_eq_getElem?_getD, Int.toNat_natCast, List.getElem?_eq_getElem (by omega)]
    rfl
  rw [g, ← List.take_append_getElem (by omega), List.append_assoc]
  rfl
theorem inv_turn (S : SF ns W c) {d a b : Nat} {X I : List Int} (hX : El W a X) (hI : El W b I) (hab : a + b ≤ 1000000) (h : mu ns X I = zer W) (j : Nat) (hj : j < W) {o : Option SV} :
    turn (prOf tb (d + 4)) (.name 3) b34l0 (.int (j : Nat)) [some (tv1 ns), some (tv1 X), some (.ref 0), o] [.lst (iv (I.take j ++ zer (W - j)))] =
      .nx [some (tv1 ns), some (tv1 X), some (.ref 0), some (.int (j : Nat))] [.lst (iv (I.take (j + 1) ++ zer (W - (j + 1))))] := by
  have pe := part_el hI (j := j) (by omega)
  have c1 : (prOf tb (d + 4)).call 33 [tv1 ns, tv1 X, tv1 (I.take j ++ zer (W - j))] [.lst (iv (I.take j ++ zer (W - j)))] = .ok (tv1 (mu ns X (I.take j ++ zer (W - j)))) [.lst (iv (I.take j ++ zer (W - j)))] := S.law_prod hX pe hab
  have ml := S.mlen X (I.take j ++ zer (W - j))
  have a1 := at_iv' (X := mu ns X (I.take j ++ zer (W - j))) (i := j) (by omega)
  have g := S.go X I hX.1 hI.1 h j hj
  have st : setIxH (.ref 0) (.int (j : Nat)) (.int (-(gi (mu ns X (I.take j ++ zer (W - j))) (j : Nat)))) [.lst (iv (I.take j ++ zer (W - j)))] = some [.lst (iv (I.take (j + 1) ++ zer (W - (j + 1))))] := by
    rw [g, ← part_set hI.1 hj]
    have ix : L2.ixN (iv (I.take j ++ zer (W - j))).length (j : Nat) = some j := by
      rw [List.length_map, part_len hI.1 (by omega)]
      unfold L2.ixN
      rw [if_pos (by omega), if_pos (by omega), Int.toNat_natCast]
    unfold setIxH
    simp only [List.getElem?_cons_zero, ix, List.set_cons_zero]
    unfold iv
    rw [List.map_set]
  rw [turn_eq (env2 := [some (tv1 ns), some (tv1 X), some (.ref 0), some (.int (j : Nat))]) (by simp)]
  unfold b34l0
  simp only [evSs, evS, ev, evs, look_zero, look_succ, Res.bind_ok, ofO, List.cons_append, List.nil_append, df33, perm3, bi_tup_ref, c1, itemV_tup, a1, asInt_int, Option.map_some, Out.of, st]
theorem inv_loop (S : SF ns W c) {d a b : Nat} {X I : List Int} (hX : El W a X) (hI : El W b I) (hab : a + b ≤ 1000000) (h : mu ns X I = zer W) : ∀ (todo j : Nat), j + todo = W →
    loopF [3] (turn (prOf tb (d + 4)) (.name 3) b34l0) ((List.range' j todo).map fun (j : Nat) => SV.int (j : Nat)) [some (tv1 ns), some (tv1 X), some (.ref 0), none] [.lst (iv (I.take j ++ zer (W - j)))] =
      .nx [some (tv1 ns), some (tv1 X), some (.ref 0), none] [.lst (iv I)]
  | 0, j, e => by
    have e1 : I.take j = I := List.take_of_length_le (by have := hI.1; omega)
    have e2 : W - j = 0 := by omega
    rw [e1, e2]
    simp [loopF, zer]
  | todo + 1, j, e => by
    rw [List.range'_succ, List.map_cons, loop_nx (inv_turn S hX hI hab h j (by omega))]
    exact inv_loop S hX hI hab h todo (j + 1) (by omega)
theorem rep_zer {n : Nat} : (List.replicate n [SV.int 0]).flatten = iv (zer n) := by
  induction n with
  | zero => rfl
  | succ n ih => rw [List.replicate_succ, List.flatten_cons, ih]; rfl
theorem rep_of {n : Nat} (hn : n ≤ 12) : repOf (.lst [.int 0]) (.int (n : Nat)) = some (iv (zer n)) := by
  have q : repOf (.lst [.int 0]) (.int (n : Nat)) = if decide (((n : Nat) : Int) ≤ 1000 ∧ -1000 ≤ ((n : Nat) : Int) ∧ 1 ≤ 1000) = true then some (List.replicate (Int.toNat (n : Nat)) [SV.int 0]).flatten else none := rfl
  rw [q, if_pos (decide_eq_true ⟨by omega, by omega, by decide⟩), Int.toNat_natCast, rep_zer]
theorem len_iv {X : List Int} : (iv X).length = X.length := List.length_map _
/-- _law_inverse -/
theorem SF.law_inv (S : SF ns W c) {d a : Nat} {hh : SH} {X : List Int} (hX : El W a X) (ha : a ≤ 20000) : callF tb (d + 5) 34 [tv1 ns, tv1 X] hh = .ok (tv1 (iu ns X)) hh := by
  have hI := S.inv hX ha
  have w12 := S.w12
  have c1 : (prOf tb (d + 4)).call 29 [tv1 ns] [] = .ok (.int (W : Nat)) [] := S.lw (d + 3) []
  have lp := inv_loop S (d := d) hX hI (by omega) (S.gv X hX.1).1 W 0 (by omega)
  rw [← List.range_eq_range', ← rng] at lp
  have z0 : (iu ns X).take 0 ++ zer (W - 0) = zer W := rfl
  rw [z0] at lp
  refine call_ (F := f34) (h1 := [.lst (iv (iu ns X))]) rfl rfl dry2 rfl ?_ (fin_val rfl deep_tup_iv)
  show evSs (prOf tb (d + 4)) b34 [some (tv1 ns), some (tv1 X), none, none] [] = _
  have cel : mkL true (iv (zer W)) [] = .ok (.ref 0) [.lst (iv (zer W))] := mkL_cell (by have : seqLen = 16777216 := rfl; rw [len_iv, zlen]; omega)
  have one : mkL false [SV.int 0] [] = .ok (.lst [.int 0]) [] := mkL_val (by decide)
  unfold b34
  rw [nx_ (set_ (v := .ref 0) (h1 := [.lst (iv (zer W))]) (by simp only [ev, evs, look_zero, Res.bind_ok, ofO, List.cons_append, List.nil_append, df29, perm1, c1, one, rep_of w12, cel]))]
  rw [nx_ (loop_ (xs := rangeOf 0 (W : Nat)) (h1 := [.lst (iv (zer W))]) (range_ev (by simp only [List.set, ev, evs, look_zero, look_succ, Res.bind_ok, ofO, bi_len_ref, len_iv, zlen]) (by omega)) (by simpa only [List.set] using lp))]
  exact rt_ (ret_ (by simp only [List.set, ev, evs, look_zero, look_succ, Res.bind_ok, ofO, bi_tup_ref]))

/-! ### _law_power -/
theorem nat_mod2 {L : Nat} : ((L : Int)).fmod 2 = ((L % 2 : Nat) : Int) := by
  rw [Int.fmod_eq_emod_of_nonneg _ (by omega)]
  omega
theorem nat_div2 {L : Nat} : ((L : Int)).fdiv 2 = ((L / 2 : Nat) : Int) := by
  rw [Int.fdiv_eq_ediv_of_nonneg _ (by omega)]
  omega
theorem brk_loop {kill : List Nat} {body : SV → SE → SH → Out} {x : SV} {xs : List SV} {env env1 : SE} {h h1 : SH} (e : body x env h = .bk env1 h1) : loopF kill body (x :: xs) env h = .nx (wipeE env1 kill) h1 := by
  rw [loopF, e]
theorem div2_ok : divFits 2 = true := by decide
theorem lpw_turn0 {p : Pr} {X : List Int} {x n f b : SV} {o : Option SV} {h : SH} : turn p (.name 6) b35l0 x [some (tv1 ns), some (tv1 X), some n, some f, some b, some (.int (0 : Nat)), o] h =
    .bk [some (tv1 ns), some (tv1 X), some n, some f, some b, some (.int (0 : Nat)), some x] h := by
  rfl
theorem lpw_turn (S : SF ns W c) {d a : Nat} {X : List Int} (hX : El W a X) (ha : a ≤ 20000) {f b : Int} {L : Nat} (hf : f.natAbs < 2 ^ 11) (hb : b.natAbs < 2 ^ 11) (hL : 0 < L) {x n : SV} {o : Option SV} :
    turn (prOf tb (d + 5)) (.name 6) b35l0 x [some (tv1 ns), some (tv1 X), some n, some (tv1 (powF f X ns c)), some (tv1 (powF b X ns c)), some (.int (L : Nat)), o] [] =
    .nx [some (tv1 ns), some (tv1 X), some n, some (tv1 (powF (if L % 2 = 1 then f + b else f) X ns c)), some (tv1 (powF (b * 2) X ns c)), some (.int ((L / 2 : Nat) : Int)), some x] [] := by
  have F := S.pel hX (by omega) hf
  have B := S.pel hX (by omega) hb
  have c1 : (prOf tb (d + 5)).call 33 [tv1 ns, tv1 (powF f X ns c), tv1 (powF b X ns c)] [] = .ok (tv1 (powF (f + b) X ns c)) [] := by
    have e : (prOf tb (d + 5)).call 33 [tv1 ns, tv1 (powF f X ns c), tv1 (powF b X ns c)] [] = .ok (tv1 (mu ns (powF f X ns c) (powF b X ns c))) [] := S.law_prod (d := d + 1) F B (by omega)
    rw [S.pow_add hX.1] at e
    exact e
  have c2 : (prOf tb (d + 5)).call 33 [tv1 ns, tv1 (powF b X ns c), tv1 (powF b X ns c)] [] = .ok (tv1 (powF (b * 2) X ns c)) [] := by
    have e : (prOf tb (d + 5)).call 33 [tv1 ns, tv1 (powF b X ns c), tv1 (powF b X ns c)] [] = .ok (tv1 (mu ns (powF b X ns c) (powF b X ns c))) [] := S.law_prod (d := d + 1) B B (by omega)
    rw [S.pow_add hX.1, show b + b = b * 2 by omega] at e
    exact e
  have z : ((L : Int) == 0) = false := by
    rw [beq_eq_false_iff_ne]
    omega
  have dv : binop .fdiv (.int (L : Nat)) (.int 2) = some (.int ((L / 2 : Nat) : Int)) := by rw [binop_fdiv div2_ok, nat_div2]
  have md : binop .mod (.int (L : Nat)) (.int 2) = some (.int ((L % 2 : Nat) : Int)) := by rw [binop_mod (by decide), nat_mod2]
  rw [turn_eq (env2 := [some (tv1 ns), some (tv1 X), some n, some (tv1 (powF f X ns c)), some (tv1 (powF b X ns c)), some (.int (L : Nat)), some x]) (by simp)]
  unfold b35l0
  rcases Nat.mod_two_eq_zero_or_one L with e | e
  · have q : (((L % 2 : Nat) : Int) == 1) = false := by rw [e]; rfl
    have q2 : ¬ (L % 2 = 1) := by omega
    simp only [evSs, evS, evT, ev, evs, look_zero, look_succ, Res.bind_ok, ofO, List.cons_append, List.nil_append, df33, perm3, bi_int, c1, c2, cmp_eq_int, z, Out.of, md, dv, q, if_neg q2, store_name, List.set, Bool.false_eq_true, if_false]
  · have q : (((L % 2 : Nat) : Int) == 1) = true := by rw [e]; rfl
    simp only [evSs, evS, evT, ev, evs, look_zero, look_succ, Res.bind_ok, ofO, List.cons_append, List.nil_append, df33, perm3, bi_int, c1, c2, cmp_eq_int, z, Out.of, md, dv, q, if_pos e, store_name, List.set, Bool.false_eq_true, if_false, if_true]
theorem lpw_loop (S : SF ns W c) {d a : Nat} {X : List Int} (hX : El W a X) (ha : a ≤ 20000) {n : SV} : ∀ (t L : Nat) (f b : Int) (xs : List SV), L < 2 ^ t → b.natAbs * 2 ^ t ≤ 1024 → f.natAbs + b.natAbs * L ≤ 1024 → t < xs.length →
    ∃ o4 o5, loopF [6] (turn (prOf tb (d + 5)) (.name 6) b35l0) xs [some (tv1 ns), some (tv1 X), some n, some (tv1 (powF f X ns c)), some (tv1 (powF b X ns c)), some (.int (L : Nat)), none] [] =
      .nx [some (tv1 ns), some (tv1 X), some n, some (tv1 (powF (f + b * L) X ns c)), o4, o5, none] []
  | _, _, _, _, [], _, _, _, h => absurd h (by simp)
  | t, 0, f, b, x :: xs, _, _, _, _ => by
    refine ⟨some (tv1 (powF b X ns c)), some (.int (0 : Nat)), ?_⟩
    rw [brk_loop lpw_turn0]
    simp
  | 0, L + 1, f, b, x :: xs, h, _, _, _ => by simp at h
  | t + 1, L + 1, f, b, x :: xs, h1, h2, h3, h4 => by
    have p : 0 < 2 ^ t := Nat.pow_pos (by decide)
    have hb1 : b.natAbs ≤ b.natAbs * 2 ^ (t + 1) := Nat.le_mul_of_pos_right _ (Nat.pow_pos (by decide))
    have hf1 : f.natAbs ≤ 1024 := by omega
    have e := lpw_turn S (d := d) hX ha (f := f) (b := b) (L := L + 1) (by omega) (by omega) (by omega) (x := x) (n := n) (o := none)
    rw [loop_nx e]
    have b2 : (b * 2).natAbs = b.natAbs * 2 := by rw [Int.natAbs_mul]; rfl
    rw [Nat.pow_succ] at h1 h2
    rw [Nat.mul_comm (2 ^ t) 2, ← Nat.mul_assoc] at h2
    have hl : t < xs.length := by simpa using h4
    rcases Nat.mod_two_eq_zero_or_one (L + 1) with q | q
    · have q2 : ¬ ((L + 1) % 2 = 1) := by omega
      have ee : L + 1 = 2 * ((L + 1) / 2) := by omega
      have m : b.natAbs * (L + 1) = (b * 2).natAbs * ((L + 1) / 2) := by rw [b2, Nat.mul_assoc, ← ee]
      obtain ⟨o4, o5, r⟩ := lpw_loop S (d := d) hX ha (n := n) t ((L + 1) / 2) f (b * 2) xs (by omega) (by rw [b2]; exact h2) (by omega) hl
      refine ⟨o4, o5, ?_⟩
      rw [if_neg q2]
      have z : f + b * ((L + 1 : Nat) : Int) = f + b * 2 * (((L + 1) / 2 : Nat) : Int) := by
        rw [Int.mul_assoc, show (2 : Int) * (((L + 1) / 2 : Nat) : Int) = ((L + 1 : Nat) : Int) by omega]
      rw [z]
      exact r
    · have ee : L + 1 = 2 * ((L + 1) / 2) + 1 := by omega
      have m : b.natAbs * (L + 1) = (b * 2).natAbs * ((L + 1) / 2) + b.natAbs := by
        rw [b2, Nat.mul_assoc]
        conv => lhs; rw [ee, Nat.mul_add, Nat.mul_one]
      have l := Int.natAbs_add_le f b
      obtain ⟨o4, o5, r⟩ := lpw_loop S (d := d) hX ha (n := n) t ((L + 1) / 2) (f + b) (b * 2) xs (by omega) (by rw [b2]; exact h2) (by omega) hl
      refine ⟨o4, o5, ?_⟩
      rw [if_pos q]
      have z : f + b * ((L + 1 : Nat) : Int) = f + b + b * 2 * (((L + 1) / 2 : Nat) : Int) := by
        rw [Int.mul_assoc, show (2 : Int) * (((L + 1) / 2 : Nat) : Int) = ((L + 1 : Nat) : Int) - 1 by omega, Int.mul_sub]
        omega
      rw [z]
      exact r
/-- _law_power -/
theorem SF.law_pow (S : SF ns W c) {d a : Nat} {hh : SH} {X : List Int} (hX : El W a X) (ha : a ≤ 20000) {n : Int} (hn : n.natAbs ≤ 1000) : callF tb (d + 6) 35 [tv1 ns, tv1 X, .int n] hh = .ok (tv1 (powF n X ns c)) hh := by
  have w12 := S.w12
  have one : mkL false [SV.int 0] [] = .ok (.lst [.int 0]) [] := mkL_val (by decide)
  have zl : mkL false (iv (zer W)) [] = .ok (.lst (iv (zer W))) [] := mkL_val (by have : seqLen = 16777216 := rfl; rw [len_iv, zlen]; omega)
  have c1 : (prOf tb (d + 5)).call 34 [tv1 ns, tv1 X] [] = .ok (tv1 (iu ns X)) [] := S.law_inv hX ha
  have lx : (iv X).length = W := by rw [len_iv, hX.1]
  have ab : (if n < 0 then -n else n) = ((n.natAbs : Nat) : Int) := by split <;> omega
  refine call_ (F := f35) (h1 := []) rfl rfl (by simp [dryL, SV.dry, dry_iv]) rfl ?_ (fin_val rfl deep_tup_iv)
  show evSs (prOf tb (d + 5)) b35 [some (tv1 ns), some (tv1 X), some (.int n), none, none, none, none] [] = _
  have z0 : tv1 (zer W) = tv1 (powF 0 X ns c) := by rw [(S.gp 0 X hX.1).2]
  have main : ∀ s : Int, s.natAbs = 1 → s * (n.natAbs : Nat) = n → ev (prOf tb (d + 5)) (.ite (.cmp .ge (.var 2) (.int (0))) (.var 1) (.call 34 [0, 1] (.cons (.var 0) (.cons (.var 1) .nil)) .nil)) [some (tv1 ns), some (tv1 X), some (.int n), some (tv1 (zer W)), none, none, none] [] = .ok (tv1 (powF s X ns c)) [] →
      evSs (prOf tb (d + 5)) b35 [some (tv1 ns), some (tv1 X), some (.int n), none, none, none, none] [] = .rt (tv1 (powF n X ns c)) [] := by
    intro s hs hsn he
    obtain ⟨o4, o5, lp⟩ := lpw_loop S (d := d) hX ha (n := .int n) 10 n.natAbs 0 s (rangeOf 0 (900 : Nat)) (by omega) (by rw [hs]; decide) (by rw [hs]; omega) (by rw [rng, List.length_map, List.length_range]; omega)
    rw [Int.zero_add, hsn] at lp
    unfold b35
    rw [nx_ (set_ (v := tv1 (zer W)) (h1 := []) (by simp only [ev, evs, look_zero, look_succ, Res.bind_ok, ofO, bi_len_tup, lx, one, rep_of w12, zl, bi_tup_lst]))]
    rw [nx_ (set_ (v := tv1 (powF s X ns c)) (h1 := []) (by simpa only [List.set] using he))]
    rw [nx_ (set_ (v := .int (n.natAbs : Nat)) (h1 := []) (by simp only [List.set, ev, evs, look_zero, look_succ, Res.bind_ok, ofO, bi_abs, ab]))]
    rw [nx_ (loop_ (xs := rangeOf 0 (900 : Nat)) (h1 := []) (range_ev (n := 900) (by rfl) (by omega)) (by rw [z0]; simpa only [List.set] using lp))]
    exact rt_ (ret_ (by rfl))
  rcases Int.lt_or_le n 0 with h | h
  · refine main (-1) rfl (by omega) ?_
    have t : decide ((0 : Int) ≤ n) = false := decide_eq_false (by omega)
    rw [S.pow_neg hX.1]
    simp only [ev, evT, evs, look_zero, look_succ, Res.bind_ok, ofO, cmp_ge, t, Bool.false_eq_true, if_false, List.cons_append, List.nil_append, df34, perm2, c1]
  · refine main 1 rfl (by omega) ?_
    have t : decide ((0 : Int) ≤ n) = true := decide_eq_true (by omega)
    rw [S.pow_one hX.1]
    simp only [ev, evT, evs, look_zero, look_succ, Res.bind_ok, ofO, cmp_ge, t, if_true]
end
end K00
end

section
set_option Elab.async false
set_option linter.all false
set_option maxRecDepth 100000
set_option maxHeartbeats 0
set_option autoImplicit false
namespace K00
open PySem Ws

theorem ei0 (d : Nat) (hh : SH) (X : List Int) (hX : X.length = 3) : callF tb (d + 5) 10 [tv1 [3], tv1 X] hh = .ok .non hh :=
  match X, hX with
  | [x0, x1, x2], _ => by kernel_rfl
theorem sf0 : SF [3] 3 2 where
  sz := by intro n hn; simp at hn; unfold Size; omega
  hl := by decide
  hw := by decide
  w12 := by decide
  c4 := by decide
  mx := fun h => by kernel_rfl
  lp := fun d a b hh X Y hX hY hx hy ha hb hab => lp0 hX hY hx hy ha hb hab
  ga := fun X Y Z hX hY hZ => ga0 hX hY hZ
  gz := fun X hX => gz0 hX
  gv := fun X hX => gv0 hX
  go := fun X I hX hI h => go0 hX hI h
  gp := fun n X hX => gp0 n hX
  isp := fun d hh => by kernel_rfl
  chk := fun d hh => by kernel_rfl
  lw := fun d hh => by kernel_rfl
  idn := fun d hh => by kernel_rfl
  el := ei0
  mst := ⟨999999999999, by decide, by decide, fun p o r h => by kernel_rfl⟩
  mst2 := ⟨999, by decide, fun p o0 o1 o2 r h => by kernel_rfl⟩
theorem ei1 (d : Nat) (hh : SH) (X : List Int) (hX : X.length = 4) : callF tb (d + 5) 10 [tv1 [2, 3], tv1 X] hh = .ok .non hh :=
  match X, hX with
  | [x0, x1, x2, x3], _ => by kernel_rfl
theorem sf1 : SF [2, 3] 4 2 where
  sz := by intro n hn; simp at hn; unfold Size; omega
  hl := by decide
  hw := by decide
  w12 := by decide
  c4 := by decide
  mx := fun h => by kernel_rfl
  lp := fun d a b hh X Y hX hY hx hy ha hb hab => lp1 hX hY hx hy ha hb hab
  ga := fun X Y Z hX hY hZ => ga1 hX hY hZ
  gz := fun X hX => gz1 hX
  gv := fun X hX => gv1 hX
  go := fun X I hX hI h => go1 hX hI h
  gp := fun n X hX => gp1 n hX
  isp := fun d hh => by kernel_rfl
  chk := fun d hh => by kernel_rfl
  lw := fun d hh => by kernel_rfl
  idn := fun d hh => by kernel_rfl
  el := ei1
  mst := ⟨999999999999, by decide, by decide, fun p o r h => by kernel_rfl⟩
  mst2 := ⟨999, by decide, fun p o0 o1 o2 r h => by kernel_rfl⟩
theorem ei2 (d : Nat) (hh : SH) (X : List Int) (hX : X.length = 6) : callF tb (d + 5) 10 [tv1 [4], tv1 X] hh = .ok .non hh :=
  match X, hX with
  | [x0, x1, x2, x3, x4, x5], _ => by kernel_rfl
theorem sf2 : SF [4] 6 3 where
  sz := by intro n hn; simp at hn; unfold Size; omega
  hl := by decide
  hw := by decide
  w12 := by decide
  c4 := by decide
  mx := fun h => by kernel_rfl
  lp := fun d a b hh X Y hX hY hx hy ha hb hab => lp2 hX hY hx hy ha hb hab
  ga := fun X Y Z hX hY hZ => ga2 hX hY hZ
  gz := fun X hX => gz2 hX
  gv := fun X hX => gv2 hX
  go := fun X I hX hI h => go2 hX hI h
  gp := fun n X hX => gp2 n hX
  isp := fun d hh => by kernel_rfl
  chk := fun d hh => by kernel_rfl
  lw := fun d hh => by kernel_rfl
  idn := fun d hh => by kernel_rfl
  el := ei2
  mst := ⟨9999, by decide, by decide, fun p o r h => by kernel_rfl⟩
  mst2 := ⟨40, by decide, fun p o0 o1 o2 r h => by kernel_rfl⟩
theorem ei3 (d : Nat) (hh : SH) (X : List Int) (hX : X.length = 10) : callF tb (d + 5) 10 [tv1 [5], tv1 X] hh = .ok .non hh :=
  match X, hX with
  | [x0, x1, x2, x3, x4, x5, x6, x7, x8, x9], _ => by kernel_rfl
theorem sf3 : SF [5] 10 4 where
  sz := by intro n hn; simp at hn; unfold Size; omega
  hl := by decide
  hw := by decide
  w12 := by decide
  c4 := by decide
  mx := fun h => by kernel_rfl
  lp := fun d a b hh X Y hX hY hx hy ha hb hab => lp3 hX hY hx hy ha hb hab
  ga := fun X Y Z hX hY hZ => ga3 hX hY hZ
  gz := fun X hX => gz3 hX
  gv := fun X hX => gv3 hX
  go := fun X I hX hI h => go3 hX hI h
  gp := fun n X hX => gp3 n hX
  isp := fun d hh => by kernel_rfl
  chk := fun d hh => by kernel_rfl
  lw := fun d hh => by kernel_rfl
  idn := fun d hh => by kernel_rfl
  el := ei3
  mst := ⟨99, by decide, by decide, fun p o r h => by kernel_rfl⟩
  mst2 := ⟨40, by decide, fun p o0 o1 o2 r h => by kernel_rfl⟩
theorem ei4 (d : Nat) (hh : SH) (X : List Int) (hX : X.length = 6) : callF tb (d + 5) 10 [tv1 [3, 3], tv1 X] hh = .ok .non hh :=
  match X, hX with
  | [x0, x1, x2, x3, x4, x5], _ => by kernel_rfl
theorem sf4 : SF [3, 3] 6 2 where
  sz := by intro n hn; simp at hn; unfold Size; omega
  hl := by decide
  hw := by decide
  w12 := by decide
  c4 := by decide
  mx := fun h => by kernel_rfl
  lp := fun d a b hh X Y hX hY hx hy ha hb hab => lp4 hX hY hx hy ha hb hab
  ga := fun X Y Z hX hY hZ => ga4 hX hY hZ
  gz := fun X hX => gz4 hX
  gv := fun X hX => gv4 hX
  go := fun X I hX hI h => go4 hX hI h
  gp := fun n X hX => gp4 n hX
  isp := fun d hh => by kernel_rfl
  chk := fun d hh => by kernel_rfl
  lw := fun d hh => by kernel_rfl
  idn := fun d hh => by kernel_rfl
  el := ei4
  mst := ⟨999999999999, by decide, by decide, fun p o r h => by kernel_rfl⟩
  mst2 := ⟨999, by decide, fun p o0 o1 o2 r h => by kernel_rfl⟩
theorem ei5 (d : Nat) (hh : SH) (X : List Int) (hX : X.length = 8) : callF tb (d + 5) 10 [tv1 [2, 2, 4], tv1 X] hh = .ok .non hh :=
  match X, hX with
  | [x0, x1, x2, x3, x4, x5, x6, x7], _ => by kernel_rfl
theorem sf5 : SF [2, 2, 4] 8 3 where
  sz := by intro n hn; simp at hn; unfold Size; omega
  hl := by decide
  hw := by decide
  w12 := by decide
  c4 := by decide
  mx := fun h => by kernel_rfl
  lp := fun d a b hh X Y hX hY hx hy ha hb hab => lp5 hX hY hx hy ha hb hab
  ga := fun X Y Z hX hY hZ => ga5 hX hY hZ
  gz := fun X hX => gz5 hX
  gv := fun X hX => gv5 hX
  go := fun X I hX hI h => go5 hX hI h
  gp := fun n X hX => gp5 n hX
  isp := fun d hh => by kernel_rfl
  chk := fun d hh => by kernel_rfl
  lw := fun d hh => by kernel_rfl
  idn := fun d hh => by kernel_rfl
  el := ei5
  mst := ⟨9999, by decide, by decide, fun p o r h => by kernel_rfl⟩
  mst2 := ⟨40, by decide, fun p o0 o1 o2 r h => by kernel_rfl⟩
theorem ei6 (d : Nat) (hh : SH) (X : List Int) (hX : X.length = 9) : callF tb (d + 5) 10 [tv1 [4, 3], tv1 X] hh = .ok .non hh :=
  match X, hX with
  | [x0, x1, x2, x3, x4, x5, x6, x7, x8], _ => by kernel_rfl
theorem sf6 : SF [4, 3] 9 3 where
  sz := by intro n hn; simp at hn; unfold Size; omega
  hl := by decide
  hw := by decide
  w12 := by decide
  c4 := by decide
  mx := fun h => by kernel_rfl
  lp := fun d a b hh X Y hX hY hx hy ha hb hab => lp6 hX hY hx hy ha hb hab
  ga := fun X Y Z hX hY hZ => ga6 hX hY hZ
  gz := fun X hX => gz6 hX
  gv := fun X hX => gv6 hX
  go := fun X I hX hI h => go6 hX hI h
  gp := fun n X hX => gp6 n hX
  isp := fun d hh => by kernel_rfl
  chk := fun d hh => by kernel_rfl
  lw := fun d hh => by kernel_rfl
  idn := fun d hh => by kernel_rfl
  el := ei6
  mst := ⟨9999, by decide, by decide, fun p o r h => by kernel_rfl⟩
  mst2 := ⟨40, by decide, fun p o0 o1 o2 r h => by kernel_rfl⟩
theorem ei7 (d : Nat) (hh : SH) (X : List Int) (hX : X.length = 11) : callF tb (d + 5) 10 [tv1 [2, 5], tv1 X] hh = .ok .non hh :=
  match X, hX with
  | [x0, x1, x2, x3, x4, x5, x6, x7, x8, x9, x10], _ => by kernel_rfl
theorem sf7 : SF [2, 5] 11 4 where
  sz := by intro n hn; simp at hn; unfold Size; omega
  hl := by decide
  hw := by decide
  w12 := by decide
  c4 := by decide
  mx := fun h => by kernel_rfl
  lp := fun d a b hh X Y hX hY hx hy ha hb hab => lp7 hX hY hx hy ha hb hab
  ga := fun X Y Z hX hY hZ => ga7 hX hY hZ
  gz := fun X hX => gz7 hX
  gv := fun X hX => gv7 hX
  go := fun X I hX hI h => go7 hX hI h
  gp := fun n X hX => gp7 n hX
  isp := fun d hh => by kernel_rfl
  chk := fun d hh => by kernel_rfl
  lw := fun d hh => by kernel_rfl
  idn := fun d hh => by kernel_rfl
  el := ei7
  mst := ⟨99, by decide, by decide, fun p o r h => by kernel_rfl⟩
  mst2 := ⟨40, by decide, fun p o0 o1 o2 r h => by kernel_rfl⟩
theorem ei8 (d : Nat) (hh : SH) (X : List Int) (hX : X.length = 5) : callF tb (d + 5) 10 [tv1 [3, 2, 2], tv1 X] hh = .ok .non hh :=
  match X, hX with
  | [x0, x1, x2, x3, x4], _ => by kernel_rfl
theorem sf8 : SF [3, 2, 2] 5 2 where
  sz := by intro n hn; simp at hn; unfold Size; omega
  hl := by decide
  hw := by decide
  w12 := by decide
  c4 := by decide
  mx := fun h => by kernel_rfl
  lp := fun d a b hh X Y hX hY hx hy ha hb hab => lp8 hX hY hx hy ha hb hab
  ga := fun X Y Z hX hY hZ => ga8 hX hY hZ
  gz := fun X hX => gz8 hX
  gv := fun X hX => gv8 hX
  go := fun X I hX hI h => go8 hX hI h
  gp := fun n X hX => gp8 n hX
  isp := fun d hh => by kernel_rfl
  chk := fun d hh => by kernel_rfl
  lw := fun d hh => by kernel_rfl
  idn := fun d hh => by kernel_rfl
  el := ei8
  mst := ⟨999999999999, by decide, by decide, fun p o r h => by kernel_rfl⟩
  mst2 := ⟨999, by decide, fun p o0 o1 o2 r h => by kernel_rfl⟩
theorem ei9 (d : Nat) (hh : SH) (X : List Int) (hX : X.length = 1) : callF tb (d + 5) 10 [tv1 [2], tv1 X] hh = .ok .non hh :=
  match X, hX with
  | [x0], _ => by kernel_rfl
theorem sf9 : SF [2] 1 1 where
  sz := by intro n hn; simp at hn; unfold Size; omega
  hl := by decide
  hw := by decide
  w12 := by decide
  c4 := by decide
  mx := fun h => by kernel_rfl
  lp := fun d a b hh X Y hX hY hx hy ha hb hab => lp9 hX hY hx hy ha hb hab
  ga := fun X Y Z hX hY hZ => ga9 hX hY hZ
  gz := fun X hX => gz9 hX
  gv := fun X hX => gv9 hX
  go := fun X I hX hI h => go9 hX hI h
  gp := fun n X hX => gp9 n hX
  isp := fun d hh => by kernel_rfl
  chk := fun d hh => by kernel_rfl
  lw := fun d hh => by kernel_rfl
  idn := fun d hh => by kernel_rfl
  el := ei9
  mst := ⟨999999999999, by decide, by decide, fun p o r h => by kernel_rfl⟩
  mst2 := ⟨999, by decide, fun p o0 o1 o2 r h => by kernel_rfl⟩
theorem ei10 (d : Nat) (hh : SH) (X : List Int) (hX : X.length = 9) : callF tb (d + 5) 10 [tv1 [3, 3, 3], tv1 X] hh = .ok .non hh :=
  match X, hX with
  | [x0, x1, x2, x3, x4, x5, x6, x7, x8], _ => by kernel_rfl
theorem sf10 : SF [3, 3, 3] 9 2 where
  sz := by intro n hn; simp at hn; unfold Size; omega
  hl := by decide
  hw := by decide
  w12 := by decide
  c4 := by decide
  mx := fun h => by kernel_rfl
  lp := fun d a b hh X Y hX hY hx hy ha hb hab => lp10 hX hY hx hy ha hb hab
  ga := fun X Y Z hX hY hZ => ga10 hX hY hZ
  gz := fun X hX => gz10 hX
  gv := fun X hX => gv10 hX
  go := fun X I hX hI h => go10 hX hI h
  gp := fun n X hX => gp10 n hX
  isp := fun d hh => by kernel_rfl
  chk := fun d hh => by kernel_rfl
  lw := fun d hh => by kernel_rfl
  idn := fun d hh => by kernel_rfl
  el := ei10
  mst := ⟨999999999999, by decide, by decide, fun p o r h => by kernel_rfl⟩
  mst2 := ⟨999, by decide, fun p o0 o1 o2 r h => by kernel_rfl⟩
theorem ei11 (d : Nat) (hh : SH) (X : List Int) (hX : X.length = 12) : callF tb (d + 5) 10 [tv1 [4, 4], tv1 X] hh = .ok .non hh :=
  match X, hX with
  | [x0, x1, x2, x3, x4, x5, x6, x7, x8, x9, x10, x11], _ => by kernel_rfl
theorem sf11 : SF [4, 4] 12 3 where
  sz := by intro n hn; simp at hn; unfold Size; omega
  hl := by decide
  hw := by decide
  w12 := by decide
  c4 := by decide
  mx := fun h => by kernel_rfl
  lp := fun d a b hh X Y hX hY hx hy ha hb hab => lp11 hX hY hx hy ha hb hab
  ga := fun X Y Z hX hY hZ => ga11 hX hY hZ
  gz := fun X hX => gz11 hX
  gv := fun X hX => gv11 hX
  go := fun X I hX hI h => go11 hX hI h
  gp := fun n X hX => gp11 n hX
  isp := fun d hh => by kernel_rfl
  chk := fun d hh => by kernel_rfl
  lw := fun d hh => by kernel_rfl
  idn := fun d hh => by kernel_rfl
  el := ei11
  mst := ⟨9999, by decide, by decide, fun p o r h => by kernel_rfl⟩
  mst2 := ⟨40, by decide, fun p o0 o1 o2 r h => by kernel_rfl⟩
theorem ei12 (d : Nat) (hh : SH) (X : List Int) (hX : X.length = 12) : callF tb (d + 5) 10 [tv1 [5, 2, 2], tv1 X] hh = .ok .non hh :=
  match X, hX with
  | [x0, x1, x2, x3, x4, x5, x6, x7, x8, x9, x10, x11], _ => by kernel_rfl
theorem sf12 : SF [5, 2, 2] 12 4 where
  sz := by intro n hn; simp at hn; unfold Size; omega
  hl := by decide
  hw := by decide
  w12 := by decide
  c4 := by decide
  mx := fun h => by kernel_rfl
  lp := fun d a b hh X Y hX hY hx hy ha hb hab => lp12 hX hY hx hy ha hb hab
  ga := fun X Y Z hX hY hZ => ga12 hX hY hZ
  gz := fun X hX => gz12 hX
  gv := fun X hX => gv12 hX
  go := fun X I hX hI h => go12 hX hI h
  gp := fun n X hX => gp12 n hX
  isp := fun d hh => by kernel_rfl
  chk := fun d hh => by kernel_rfl
  lw := fun d hh => by kernel_rfl
  idn := fun d hh => by kernel_rfl
  el := ei12
  mst := ⟨99, by decide, by decide, fun p o r h => by kernel_rfl⟩
  mst2 := ⟨40, by decide, fun p o0 o1 o2 r h => by kernel_rfl⟩
end K00
end

section
set_option Elab.async false
set_option linter.all false
set_option maxRecDepth 100000
set_option maxHeartbeats 0
set_option autoImplicit false
namespace K00
open PySem Ws
/-! ### repr and equality of elements -/
theorem fit_iv {k : Nat} : ∀ X : List Int, (iv X).all (SV.fit k) = true
  | [] => rfl
  | x :: X => by
    show (SV.fit k (.int x) && (iv X).all (SV.fit k)) = true
    rw [fit_iv X]
    cases k <;> rfl
theorem fit_tv {X : List Int} : (tv1 X).fit 30 = true := by
  show (iv X).all (SV.fit 29) = true
  exact fit_iv X
theorem eqv_iv : ∀ X : List Int, PyData.eqvAll (SV.pdL (iv X)) (SV.pdL (iv X)) = true
  | [] => rfl
  | x :: X => by
    show (PyData.eqv (.int x) (.int x) && PyData.eqvAll (SV.pdL (iv X)) (SV.pdL (iv X))) = true
    rw [eqv_iv X]
    simp [PyData.eqv]
theorem veq_tv {X : List Int} : veq (tv1 X) (tv1 X) = true := by
  unfold veq
  show PyData.eqv (.tuple (SV.pdL (iv X))) (.tuple (SV.pdL (iv X))) = true
  simp only [PyData.eqv, eqv_iv]
theorem cmp_ne_tv {X : List Int} {h : SH} : cmpop h .ne (tv1 X) (tv1 X) = some false := by
  show (if ((tv1 X).fit 30 && (tv1 X).fit 30) = true then some (!veq (tv1 X) (tv1 X)) else none) = _
  rw [fit_tv, veq_tv]
  rfl
theorem cmp_ne_str {x : Str} {h : SH} : cmpop h .ne (.str x) (.str x) = some false := by
  show some (!decide (x = x)) = _
  simp
theorem shw_iv : ∀ X : List Int, Bd 1900 X → PyData.showableAll (SV.pdL (iv X)) = true
  | [], _ => rfl
  | x :: X, h => by
    show (PyData.showable (.int x) && PyData.showableAll (SV.pdL (iv X))) = true
    rw [shw_iv X fun v hv => h v (List.mem_cons_of_mem _ hv)]
    have hx := h x List.mem_cons_self
    have : x.natAbs.log2 < 1920 := by
      by_cases h0 : x.natAbs = 0
      · rw [h0]; decide
      · exact (Nat.log2_lt h0).mpr (Nat.lt_of_lt_of_le hx (Nat.pow_le_pow_right (by decide) (by decide)))
    simp only [PyData.showable, decide_eq_true this, Bool.and_self]
theorem lvs_iv : ∀ X : List Int, Bd 1900 X → PyData.leavesShortAll 2000 (SV.pdL (iv X)) = true
  | [], _ => rfl
  | x :: X, h => by
    show (PyData.leavesShort 2000 (.int x) && PyData.leavesShortAll 2000 (SV.pdL (iv X))) = true
    rw [lvs_iv X fun v hv => h v (List.mem_cons_of_mem _ hv)]
    have hx := h x List.mem_cons_self
    have l : x.natAbs.log2 < 1901 := by
      by_cases h0 : x.natAbs = 0
      · rw [h0]; decide
      · exact (Nat.log2_lt h0).mpr (Nat.lt_of_lt_of_le hx (Nat.pow_le_pow_right (by decide) (by decide)))
    have s := int_text_length_le (by decide) l
    have e : (PyData.shown (.int x)).length = (toString x).length := by
      simp only [PyData.shown]
      exact ofString_length _
    have : (PyData.shown (.int x)).length ≤ 2000 := by omega
    simp only [PyData.leavesShort, decide_eq_true this, Bool.and_self]
theorem blk_iv : ∀ X : List Int, PyData.bulkAll (SV.pdL (iv X)) = X.length
  | [] => rfl
  | x :: X => by
    show PyData.bulk (.int x) + 1 + PyData.bulkAll (SV.pdL (iv X)) = _
    rw [blk_iv X]
    simp only [PyData.bulk, List.length_cons]
    omega
theorem repr_ok {X : List Int} {h : SH} (hb : Bd 1900 X) (hl : X.length ≤ 12) : builtin h .repr [tv1 X] = some (.str (tv1 X).pd.shown) := by
  show (if reprFits (tv1 X) = true then some (SV.str (tv1 X).pd.shown) else none) = _
  refine if_pos ?_
  unfold reprFits
  have s : (tv1 X).pd.showable = true := by
    show PyData.showable (.tuple (SV.pdL (iv X))) = true
    simp only [PyData.showable, shw_iv X hb]
  have l : (tv1 X).pd.shown.length ≤ seqLen := by
    have b := PyData.shown_le_bulk 2000 (by decide) (.tuple (SV.pdL (iv X))) (by simp only [PyData.leavesShort, lvs_iv X hb])
    simp only [PyData.bulk, blk_iv] at b
    have : seqLen = 16777216 := rfl
    show (PyData.shown (.tuple (SV.pdL (iv X)))).length ≤ _
    omega
  rw [fit_tv, s, decide_eq_true l]
  rfl
theorem El.rep {W a : Nat} {X : List Int} {h : SH} (e : El W a X) (ha : a ≤ 1900) (hw : W ≤ 12) : builtin h .repr [tv1 X] = some (.str (tv1 X).pd.shown) :=
  repr_ok (e.2.1.mono ha) (by rw [e.1]; exact hw)
end K00
end

section
set_option Elab.async false
set_option linter.all false
set_option maxRecDepth 100000
set_option maxHeartbeats 0
set_option autoImplicit false
namespace K00
open PySem Ws
/-! ### the state of the draws -/
abbrev stV (cs : List Int) (a l c s : Int) : SO := .dct [(.str "cells", .lst (iv cs)), (.str "at", .int a), (.str "left", .int l), (.str "count", .int c), (.str "sum", .int s)]
def Good (h : SH) : Prop := ∃ (cs : List Int) (a l c s : Int), h = [stV cs a l c s] ∧ 0 ≤ a
section
variable {cs : List Int} {a l c s : Int}
theorem it_cells : itemV (.ref 0) (.str "cells") [stV cs a l c s] = some (.lst (iv cs)) := by rfl
theorem it_at : itemV (.ref 0) (.str "at") [stV cs a l c s] = some (.int a) := by rfl
theorem it_left : itemV (.ref 0) (.str "left") [stV cs a l c s] = some (.int l) := by rfl
theorem it_count : itemV (.ref 0) (.str "count") [stV cs a l c s] = some (.int c) := by rfl
theorem it_sum : itemV (.ref 0) (.str "sum") [stV cs a l c s] = some (.int s) := by rfl
theorem st_at {v : Int} : setIxH (.ref 0) (.str "at") (.int v) [stV cs a l c s] = some [stV cs v l c s] := by rfl
theorem st_left {v : Int} : setIxH (.ref 0) (.str "left") (.int v) [stV cs a l c s] = some [stV cs a v c s] := by rfl
theorem st_count {v : Int} : setIxH (.ref 0) (.str "count") (.int v) [stV cs a l c s] = some [stV cs a l v s] := by rfl
end
theorem mf_l {i j : Int} (h : -(2 ^ 64) < i ∧ i < 2 ^ 64) : mulFits i j = true := by
  unfold mulFits
  rw [decide_eq_true h]
  rfl
theorem mf_r {i j : Int} (h : -(2 ^ 64) < j ∧ j < 2 ^ 64) : mulFits i j = true := by
  unfold mulFits
  rw [decide_eq_true h, Bool.or_true]
  rfl
theorem b_pow : binop .pow (.int 10) (.int 18) = some (.int (10 ^ 18)) := by rfl
theorem md_bd (i : Int) : 0 ≤ i.fmod 2305843009213693951 ∧ i.fmod 2305843009213693951 < 2305843009213693951 :=
  ⟨Int.fmod_nonneg_of_pos _ (by decide), Int.fmod_lt_of_pos _ (by decide)⟩
/-- more is taken -/
theorem refill {p : Pr} {cs : List Int} {a l c s many : Int} (h0 : 0 ≤ a) : ∃ (a2 l2 : Int) (o3 o4 : Option SV), 0 ≤ a2 ∧
    evS p (.cond (.cmp .lt (.ix (.var 0) (.str "left")) (.var 1)) (.cons (.set (.name 3) (.bin .add (.ix (.var 0) (.str "sum")) (.ix (.var 0) (.str "count"))))
  (.cons (.cond (.cmp .lt (.ix (.var 0) (.str "at")) (.bi .len (.cons (.ix (.var 0) (.str "cells")) .nil))) (.cons (.set (.name 3) (.ix (.ix (.var 0) (.str "cells")) (.ix (.var 0) (.str "at"))))
  (.cons (.setIx (.var 0) (.str "at") (.bin .add (.ix (.var 0) (.str "at")) (.int (1))))
  .nil)) .nil)
  (.cons (.cond (.cmp .lt (.var 3) (.bin .pow (.int (10)) (.int (18)))) (.cons (.set (.name 4) (.bin .mod (.bi .int (.cons (.bin .add (.bin .add (.bin .mul (.var 3) (.int (48271))) (.bin .mul (.ix (.var 0) (.str "count")) (.int (69621)))) (.int (12345))) .nil)) (.int (2305843009213693951))))
  (.cons (.set (.name 4) (.bin .mod (.bi .int (.cons (.bin .add (.bin .add (.bin .mul (.var 4) (.var 4)) (.var 3)) (.bin .mul (.ix (.var 0) (.str "count")) (.int (7919)))) .nil)) (.int (2305843009213693951))))
  (.cons (.set (.name 3) (.bin .mod (.bi .int (.cons (.bin .add (.bin .add (.bin .mul (.bin .mul (.var 4) (.var 4)) (.int (16807))) (.bin .mul (.var 3) (.int (40014)))) (.int (1))) .nil)) (.int (2305843009213693951))))
  .nil))) .nil)
  (.cons (.setIx (.var 0) (.str "left") (.var 3))
  .nil)))) .nil) [some (.ref 0), some (.int many), none, none, none] [stV cs a l c s] = .nx [some (.ref 0), some (.int many), none, o3, o4] [stV cs a2 l2 c s] := by
  by_cases hl : l < many
  · have t1 : decide (l < many) = true := decide_eq_true hl
    have mix : ∀ (a2 cell : Int) , ∃ (l2 : Int) (o3 o4 : Option SV), evSs p (.cons (.cond (.cmp .lt (.var 3) (.bin .pow (.int (10)) (.int (18)))) (.cons (.set (.name 4) (.bin .mod (.bi .int (.cons (.bin .add (.bin .add (.bin .mul (.var 3) (.int (48271))) (.bin .mul (.ix (.var 0) (.str "count")) (.int (69621)))) (.int (12345))) .nil)) (.int (2305843009213693951))))
  (.cons (.set (.name 4) (.bin .mod (.bi .int (.cons (.bin .add (.bin .add (.bin .mul (.var 4) (.var 4)) (.var 3)) (.bin .mul (.ix (.var 0) (.str "count")) (.int (7919)))) .nil)) (.int (2305843009213693951))))
  (.cons (.set (.name 3) (.bin .mod (.bi .int (.cons (.bin .add (.bin .add (.bin .mul (.bin .mul (.var 4) (.var 4)) (.int (16807))) (.bin .mul (.var 3) (.int (40014)))) (.int (1))) .nil)) (.int (2305843009213693951))))
  .nil))) .nil)
  (.cons (.setIx (.var 0) (.str "left") (.var 3))
  .nil)) [some (.ref 0), some (.int many), none, some (.int cell), none] [stV cs a2 l c s] = .nx [some (.ref 0), some (.int many), none, o3, o4] [stV cs a2 l2 c s] := by
      intro a2 cell
      by_cases hc : cell < 10 ^ 18
      · have t3 : decide (cell < 10 ^ 18) = true := decide_eq_true hc
        have sm : ∀ z : Int, 0 ≤ z ∧ z < 2305843009213693951 → ∀ w : Int, binop .mul (.int z) (.int w) = some (.int (z * w)) := fun z hz w => binop_mul (mf_l (by omega))
        have sr : ∀ z w : Int, 0 ≤ w ∧ w < 2305843009213693951 → binop .mul (.int z) (.int w) = some (.int (z * w)) := fun z w hw => binop_mul (mf_r (by omega))
        have md : ∀ z : Int, binop .mod (.int z) (.int 2305843009213693951) = some (.int (z.fmod 2305843009213693951)) := fun z => binop_mod (by decide)
        have q1 := fun z => sr z 48271 (by decide)
        have q2 := fun z => sr z 69621 (by decide)
        have q3 := fun z => sr z 7919 (by decide)
        have q4 := fun z => sr z 16807 (by decide)
        have q5 := fun z => sr z 40014 (by decide)
        have q6 := fun z w => sm _ (md_bd z) w
        refine ⟨?l2, ?o3, ?o4, ?e⟩
        case e =>
          simp only [evSs, evS, evT, ev, evs, look_zero, look_succ, Res.bind_ok, ofO, cmp_lt, Out.of, b_pow, t3, if_true, it_count, it_left, q1, q2, q3, q4, q5, q6, md, binop_add, bi_int, store_name, List.set, st_left]
          rfl
      · have t3 : decide (cell < 10 ^ 18) = false := decide_eq_false hc
        refine ⟨?m2, ?p3, ?p4, ?e2⟩
        case e2 =>
          simp only [evSs, evS, evT, ev, evs, look_zero, look_succ, Res.bind_ok, ofO, cmp_lt, Out.of, b_pow, t3, Bool.false_eq_true, if_false, store_name, List.set, st_left]
          rfl
    by_cases ha : a < cs.length
    · have t2 : decide (a < ((iv cs).length : Nat)) = true := decide_eq_true (by rw [List.length_map]; exact ha)
      have g := at_iv h0 ha
      obtain ⟨l2, o3, o4, e⟩ := mix (a + 1) (gi cs a)
      refine ⟨a + 1, l2, o3, o4, by omega, ?_⟩
      rw [← e]
      simp only [evS, evT, ev, evs, look_zero, look_succ, Res.bind_ok, ofO, cmp_lt, Out.of, t1, if_true, it_left]
      rw [evSs]
      simp only [evS, evT, ev, evs, look_zero, look_succ, Res.bind_ok, ofO, Out.of, it_sum, it_count, binop_add, store_name, List.set]
      rw [evSs]
      simp only [evSs, evS, evT, ev, evs, look_zero, look_succ, Res.bind_ok, ofO, cmp_lt, Out.of, it_at, it_cells, bi_len_lst, t2, if_true, itemV_lst, g, binop_add, store_name, List.set, st_at]
    · have t2 : decide (a < ((iv cs).length : Nat)) = false := decide_eq_false (by rw [List.length_map]; exact ha)
      obtain ⟨l2, o3, o4, e⟩ := mix a (s + c)
      refine ⟨a, l2, o3, o4, h0, ?_⟩
      rw [← e]
      simp only [evS, evT, ev, evs, look_zero, look_succ, Res.bind_ok, ofO, cmp_lt, Out.of, t1, if_true, it_left]
      rw [evSs]
      simp only [evS, evT, ev, evs, look_zero, look_succ, Res.bind_ok, ofO, Out.of, it_sum, it_count, binop_add, store_name, List.set]
      rw [evSs]
      simp only [evSs, evS, evT, ev, evs, look_zero, look_succ, Res.bind_ok, ofO, cmp_lt, Out.of, it_at, it_cells, bi_len_lst, t2, Bool.false_eq_true, if_false]
  · have t1 : decide (l < many) = false := decide_eq_false hl
    refine ⟨a, l, none, none, h0, ?_⟩
    simp only [evS, evSs, evT, ev, look_zero, look_succ, Res.bind_ok, ofO, cmp_lt, Out.of, t1, Bool.false_eq_true, if_false, it_left]
theorem fin_int {F : FT} {h0 h : SH} {n : Int} (hk : F.keep = false) (hl : h.length = h0.length) : Ws.finish F h0 (.int n) h = .ok (.int n) h := by
  unfold Ws.finish
  rw [hk, if_neg (by decide)]
  have e : h.take h0.length = h := List.take_of_length_le (by omega)
  rw [e]
  show (if h = h0 then Res.ok (SV.int n) h0 else if SV.int n = SV.int n then Res.ok (SV.int n) h else .bad) = _
  by_cases q : h = h0
  · rw [if_pos q, q]
  · rw [if_neg q, if_pos rfl]
/-- a call of a def that changes cells -/
theorem callH_ {T : Tb} {d f : Nat} {F : FT} {xs : List SV} {h h1 h2 : SH} {v w : SV} (hF : T.funs[f]? = some F) (hp : F.pure = false) (hl : xs.length = F.ps.length) (e : evSs (prOf T d) F.body (startE F xs) h = .rt v h1) (q : Ws.finish F h v h1 = .ok w h2) : callF T (d + 1) f xs h = .ok w h2 := by
  rw [callF, hF]
  simp only
  rw [hp, if_neg (by decide)]
  show runF (prOf T d) F xs h = _
  unfold runF
  rw [if_pos (decide_eq_true hl), e]
  exact q
/-- _law_draw -/
theorem draw {d : Nat} {h : SH} (hg : Good h) {many : Int} (hm : 0 < many) (hm2 : many < 2 ^ 60) : ∃ (k : Int) (h2 : SH), callF tb (d + 1) 26 [.ref 0, .int many] h = .ok (.int k) h2 ∧ Good h2 ∧ 0 ≤ k ∧ k < many := by
  obtain ⟨cs, a, l, c, s, rfl, ha⟩ := hg
  obtain ⟨a2, l2, o3, o4, h0, e⟩ := refill (p := prOf tb d) (cs := cs) (a := a) (l := l) (c := c + 1) (s := s) (many := many) ha
  have dv : divFits many = true := by
    unfold divFits
    have : many.natAbs.log2 < 9000 := by
      by_cases z : many.natAbs = 0
      · rw [z]; decide
      · have : many.natAbs.log2 < 60 := (Nat.log2_lt z).mpr (by omega)
        omega
    rw [decide_eq_true (show many ≠ 0 by omega), decide_eq_true this]
    rfl
  refine ⟨l2.fmod many, [stV cs a2 (l2.fdiv many) (c + 1) s], ?_, ⟨cs, a2, l2.fdiv many, c + 1, s, rfl, h0⟩, Int.fmod_nonneg_of_pos _ hm, Int.fmod_lt_of_pos _ hm⟩
  refine callH_ (F := f26) rfl rfl rfl (v := .int (l2.fmod many)) (h1 := [stV cs a2 (l2.fdiv many) (c + 1) s]) ?_ (fin_int rfl rfl)
  show evSs (prOf tb d) b26 [some (.ref 0), some (.int many), none, none, none] [stV cs a l c s] = _
  unfold b26
  rw [nx_ (env1 := [some (.ref 0), some (.int many), none, none, none]) (h1 := [stV cs a l (c + 1) s]) (by simp only [evS, ev, look_zero, Res.bind_ok, ofO, it_count, binop_add, Out.of, st_count])]
  rw [nx_ e]
  rw [nx_ (set_ (v := .int (l2.fmod many)) (h1 := [stV cs a2 l2 (c + 1) s]) (by simp only [ev, evs, look_zero, look_succ, Res.bind_ok, ofO, it_left, bi_int, binop_mod (show many ≠ 0 by omega)]))]
  rw [nx_ (env1 := [some (.ref 0), some (.int many), some (.int (l2.fmod many)), o3, o4]) (h1 := [stV cs a2 (l2.fdiv many) (c + 1) s]) (by simp only [List.set, evS, ev, evs, look_zero, look_succ, Res.bind_ok, ofO, it_left, bi_int, binop_fdiv dv, Out.of, st_left])]
  exact rt_ (ret_ (by simp only [ev, look_zero, look_succ, ofO]))
end K00
end

section
set_option Elab.async false
set_option linter.all false
set_option maxRecDepth 100000
set_option maxHeartbeats 0
set_option autoImplicit false
namespace K00
open PySem Ws
theorem Good.len {h : SH} (hg : Good h) : h.length = 1 := by
  obtain ⟨cs, a, l, c, s, rfl, _⟩ := hg
  rfl
theorem fin_deep {F : FT} {h0 h : SH} {v : SV} (hk : F.keep = false) (hd : v.deep 12 = true) (hl : h.length = h0.length) : Ws.finish F h0 v h = .ok v h := by
  unfold Ws.finish
  rw [hk, if_neg (by decide), freeze_deep 12 v hd]
  have e : h.take h0.length = h := List.take_of_length_le (by omega)
  rw [e]
  show (if h = h0 then Res.ok v h0 else if v = v then Res.ok v h else .bad) = _
  by_cases q : h = h0
  · rw [if_pos q, q]
  · rw [if_neg q, if_pos rfl]
/-! ### _law_begin -/
theorem begin_ok {d : Nat} (ns : List Int) (hl : ns.length ≤ 1000) : ∃ h, callF tb (d + 1) 25 [.lst (iv ns)] [] = .ok (.ref 0) h ∧ Good h := by
  have sl : sliceV (.lst (iv ns)) none (some 63) [] = some (.lst (cutL (iv ns) none (some 63))) := by rfl
  obtain ⟨ms, hm, hml⟩ : ∃ ms : List Int, cutL (iv ns) none (some 63) = iv ms ∧ ms.length ≤ 1000 := by
    unfold cutL iv
    rw [← List.map_drop, ← List.map_take]
    exact ⟨_, rfl, by rw [List.length_take, List.length_drop]; omega⟩
  have cp : ev (prOf tb d) (.comp false (.ite (.cmp .ge (.var 2) (.int (0))) (.bin .mul (.bi .int (.cons (.var 2) .nil)) (.int (2))) (.bin .sub (.bin .mul (.neg (.bi .int (.cons (.var 2) .nil))) (.int (2))) (.int (1)))) (.name 2) (.it (.sl (.var 0) .none (.some (.int (63))))) [2])
      [some (.lst (iv ns)), none, none] [] = .ok (.lst (iv (ms.map fun x => if 0 ≤ x then x * 2 else -x * 2 - 1))) [] := by
    rw [compA_ (ps := ms) SV.int (fun x => SV.int (if 0 ≤ x then x * 2 else -x * 2 - 1)) (h1 := []) (by simp only [evi, ev, evo, look_zero, Res.bind_ok, ofO, asInt_int, Option.map_some, sl, hm])]
    · have e : ms.map (fun x => SV.int (if 0 ≤ x then x * 2 else -x * 2 - 1)) = iv (ms.map fun x => if 0 ≤ x then x * 2 else -x * 2 - 1) := by
        unfold iv
        rw [List.map_map]
        rfl
      rw [e]
      refine mkL_val ?_
      have : seqLen = 16777216 := rfl
      rw [List.length_map, List.length_map]
      omega
    · intro x hx
      refine ⟨[some (.lst (iv ns)), none, some (.int x)], by simp, ?_⟩
      have q : ∀ z : Int, binop .mul (.int z) (.int 2) = some (.int (z * 2)) := fun z => binop_mul (mf_r (by decide))
      by_cases h0 : 0 ≤ x
      · have t : decide (0 ≤ x) = true := decide_eq_true h0
        simp only [ev, evT, evs, look_zero, look_succ, Res.bind_ok, ofO, cmp_ge, t, if_true, bi_int, q, if_pos h0]
      · have t : decide (0 ≤ x) = false := decide_eq_false h0
        simp only [ev, evT, evs, look_zero, look_succ, Res.bind_ok, ofO, cmp_ge, t, Bool.false_eq_true, if_false, bi_int, q, if_neg h0, asInt_int, Option.map_some, binop_sub]
  generalize ms.map (fun x => if 0 ≤ x then x * 2 else -x * 2 - 1) = cs at cp
  have sm : builtin [] .sum [.lst (iv cs)] = some (.int cs.sum) := by
    show ((intsOf (iv cs)).map fun ns => SV.int ns.sum) = _
    have := intsOf_map (fun x : Int => x) cs
    rw [List.map_id'] at this
    unfold iv
    rw [this]
    rfl
  refine ⟨[stV cs 0 0 0 (cs.sum.fmod 1000003)], ?_, ⟨cs, 0, 0, 0, _, rfl, by decide⟩⟩
  refine callH_ (F := f25) rfl rfl rfl (v := .ref 0) (h1 := [stV cs 0 0 0 (cs.sum.fmod 1000003)]) ?_ rfl
  show evSs (prOf tb d) b25 [some (.lst (iv ns)), none, none] [] = _
  unfold b25
  rw [nx_ (set_ (v := .lst (iv cs)) (h1 := []) cp)]
  refine rt_ (ret_ ?_)
  have md : binop .mod (.int cs.sum) (.int 1000003) = some (.int (cs.sum.fmod 1000003)) := binop_mod (by decide)
  simp only [List.set, ev, evs, look_zero, look_succ, Res.bind_ok, ofO, sm, bi_int, md]
  rfl
/-! ### _law_space -/
theorem mkL_any {xs : List SV} {h : SH} (hl : xs.length ≤ 100) : mkL false xs h = .ok (.lst xs) h := mkL_val (by have : seqLen = 16777216 := rfl; omega)
theorem space_ok {d : Nat} {h : SH} (hg : Good h) : ∃ (ns : List Int) (W c : Nat) (h2 : SH), SF ns W c ∧ callF tb (d + 2) 36 [.ref 0] h = .ok (tv1 ns) h2 ∧ Good h2 := by
  obtain ⟨k, h2, e, g2, k0, k1⟩ := draw (d := d) hg (many := 13) (by decide) (by decide)
  have c1 : (prOf tb (d + 1)).call 26 [.ref 0, .int 13] h = .ok (.int k) h2 := e
  have l1 := hg.len
  have l2 := g2.len
  have go : ∀ (ns : List Int), itemV (.lst [tv1 [3], tv1 [2, 3], tv1 [4], tv1 [5], tv1 [3, 3], tv1 [2, 2, 4], tv1 [4, 3], tv1 [2, 5], tv1 [3, 2, 2], tv1 [2], tv1 [3, 3, 3], tv1 [4, 4], tv1 [5, 2, 2]]) (.int k) h2 = some (tv1 ns) → callF tb (d + 2) 36 [.ref 0] h = .ok (tv1 ns) h2 := by
    intro ns it
    refine callH_ (F := f36) rfl rfl rfl (v := tv1 ns) (h1 := h2) ?_ (fin_deep rfl deep_tup_iv (by omega))
    show evSs (prOf tb (d + 1)) b36 [some (.ref 0), none] h = _
    unfold b36
    rw [nx_ (set_ (v := .lst [tv1 [3], tv1 [2, 3], tv1 [4], tv1 [5], tv1 [3, 3], tv1 [2, 2, 4], tv1 [4, 3], tv1 [2, 5], tv1 [3, 2, 2], tv1 [2], tv1 [3, 3, 3], tv1 [4, 4], tv1 [5, 2, 2]]) (h1 := h) (by rfl))]
    refine rt_ (ret_ ?_)
    simp only [List.set, ev, evs, look_zero, look_succ, Res.bind_ok, List.cons_append, List.nil_append, df26, perm2, c1, it, ofO]
  have : k = 0 ∨ k = 1 ∨ k = 2 ∨ k = 3 ∨ k = 4 ∨ k = 5 ∨ k = 6 ∨ k = 7 ∨ k = 8 ∨ k = 9 ∨ k = 10 ∨ k = 11 ∨ k = 12 := by omega
  rcases this with rfl | rfl | rfl | rfl | rfl | rfl | rfl | rfl | rfl | rfl | rfl | rfl | rfl
  · exact ⟨_, _, _, h2, sf0, go _ rfl, g2⟩
  · exact ⟨_, _, _, h2, sf1, go _ rfl, g2⟩
  · exact ⟨_, _, _, h2, sf2, go _ rfl, g2⟩
  · exact ⟨_, _, _, h2, sf3, go _ rfl, g2⟩
  · exact ⟨_, _, _, h2, sf4, go _ rfl, g2⟩
  · exact ⟨_, _, _, h2, sf5, go _ rfl, g2⟩
  · exact ⟨_, _, _, h2, sf6, go _ rfl, g2⟩
  · exact ⟨_, _, _, h2, sf7, go _ rfl, g2⟩
  · exact ⟨_, _, _, h2, sf8, go _ rfl, g2⟩
  · exact ⟨_, _, _, h2, sf9, go _ rfl, g2⟩
  · exact ⟨_, _, _, h2, sf10, go _ rfl, g2⟩
  · exact ⟨_, _, _, h2, sf11, go _ rfl, g2⟩
  · exact ⟨_, _, _, h2, sf12, go _ rfl, g2⟩
/-! ### _law_entry -/
theorem entry_ok {d m : Nat} {h : SH} (hg : Good h) (m1 : 1 ≤ m) (m2 : m < 2 ^ 40) : ∃ (v : Int) (h2 : SH), callF tb (d + 2) 27 [.ref 0, .int (m : Nat)] h = .ok (.int v) h2 ∧ Good h2 ∧ v.natAbs < 2 ^ 40 := by
  obtain ⟨k, h2, e, g2, k0, k1⟩ := draw (d := d) hg (many := 3) (by decide) (by decide)
  have c1 : (prOf tb (d + 1)).call 26 [.ref 0, .int 3] h = .ok (.int k) h2 := e
  have l1 := hg.len
  obtain ⟨L, it, L1, L2⟩ : ∃ L : Int, itemV (.lst [.int 1, .int (if (m : Int) < 9 then (m : Int) else 9), .int (m : Nat)]) (.int k) h2 = some (.int L) ∧ 1 ≤ L ∧ L ≤ m := by
    have : k = 0 ∨ k = 1 ∨ k = 2 := by omega
    rcases this with rfl | rfl | rfl
    · exact ⟨1, rfl, by omega, by omega⟩
    · refine ⟨if (m : Int) < 9 then (m : Int) else 9, rfl, ?_, ?_⟩ <;> split <;> omega
    · exact ⟨(m : Int), rfl, by omega, by omega⟩
  obtain ⟨j, h3, e3, g3, j0, j1⟩ := draw (d := d) g2 (many := 2 * L + 1) (by omega) (by omega)
  have c2 : (prOf tb (d + 1)).call 26 [.ref 0, .int (2 * L + 1)] h2 = .ok (.int j) h3 := e3
  have l3 := g3.len
  refine ⟨j - L, h3, ?_, g3, by omega⟩
  refine callH_ (F := f27) rfl rfl rfl (v := .int (j - L)) (h1 := h3) ?_ (fin_deep rfl rfl (by omega))
  show evSs (prOf tb (d + 1)) b27 [some (.ref 0), some (.int (m : Nat)), none] h = _
  have mk : mkL false [SV.int 1, .int (if (m : Int) < 9 then (m : Int) else 9), .int (m : Nat)] h = .ok (.lst [SV.int 1, .int (if (m : Int) < 9 then (m : Int) else 9), .int (m : Nat)]) h := mkL_any (by simp)
  have q : binop .mul (.int 2) (.int L) = some (.int (2 * L)) := binop_mul (mf_l (by decide))
  unfold b27
  rw [nx_ (set_ (v := .int L) (h1 := h2) (by simp only [ev, evs, look_zero, look_succ, Res.bind_ok, ofO, bi_min, mk, List.cons_append, List.nil_append, df26, perm2, c1, it]))]
  refine rt_ (ret_ ?_)
  simp only [List.set, ev, evs, look_zero, look_succ, Res.bind_ok, ofO, q, binop_add, List.cons_append, List.nil_append, df26, perm2, c2, binop_sub]
/-! ### _law_element -/
theorem comp_st {p : Pr} {elt : CE} {t : CT} {it : CI} {own : List Nat} {env : SE} {h : SH} {xs : List SV} {P : Int → Prop} (e : evi p it env h = .ok xs h) (hg : Good h)
    (b : ∀ x ∈ xs, ∀ h, Good h → ∃ (env2 : SE) (v : Int) (h2 : SH), store t x (wipeE env own) = some env2 ∧ ev p elt env2 h = .ok (.int v) h2 ∧ Good h2 ∧ P v) (hl : xs.length ≤ 100) :
    ∃ (X : List Int) (h2 : SH), ev p (.comp false elt t it own) env h = .ok (.lst (iv X)) h2 ∧ Good h2 ∧ X.length = xs.length ∧ ∀ v ∈ X, P v := by
  rw [ev, e]
  simp only [Res.bind_ok]
  have go : ∀ (ys : List SV) (h : SH), Good h → (∀ x ∈ ys, ∀ h, Good h → ∃ (env2 : SE) (v : Int) (h2 : SH), store t x (wipeE env own) = some env2 ∧ ev p elt env2 h = .ok (.int v) h2 ∧ Good h2 ∧ P v) →
      ∃ (X : List Int) (h2 : SH), compF (fun x h => match store t x (wipeE env own) with
    | none => .bad
    | some env2 => (ev p elt env2 h).bind fun y h => .ok (some y) h) ys h = .ok (iv X) h2 ∧ Good h2 ∧ X.length = ys.length ∧ ∀ v ∈ X, P v := by
    intro ys
    induction ys with
    | nil => intro h hg _; exact ⟨[], h, rfl, hg, rfl, fun v hv => absurd hv List.not_mem_nil⟩
    | cons y ys ih =>
      intro h hg hy
      obtain ⟨env2, v, h2, e1, e2, g2, pv⟩ := hy y List.mem_cons_self h hg
      obtain ⟨X, h3, e3, g3, l3, p3⟩ := ih h2 g2 fun x hx => hy x (List.mem_cons_of_mem _ hx)
      refine ⟨v :: X, h3, ?_, g3, by simp [l3], ?_⟩
      · rw [compF, e1]
        simp only [e2, Res.bind_ok]
        rw [e3]
        rfl
      · intro w hw
        rcases List.mem_cons.mp hw with rfl | hw
        · exact pv
        · exact p3 w hw
  obtain ⟨X, h2, e2, g2, l2, p2⟩ := go xs h hg b
  refine ⟨X, h2, ?_, g2, l2, p2⟩
  refine (congrArg (fun r => Res.bind r fun r h => mkL false r h) e2).trans ?_
  exact mkL_any (by rw [List.length_map]; omega)
theorem element_ok {ns : List Int} {W c : Nat} (S : SF ns W c) {d : Nat} {h : SH} (hg : Good h) : ∃ (X : List Int) (h2 : SH), callF tb (d + 3) 37 [.ref 0, tv1 ns] h = .ok (tv1 X) h2 ∧ Good h2 ∧ El W 40 X := by
  obtain ⟨m, m1, m2, me⟩ := S.mst
  have w12 := S.w12
  have c1 : (prOf tb (d + 2)).call 29 [tv1 ns] h = .ok (.int (W : Nat)) h := S.lw (d + 1) h
  obtain ⟨X, h2, e, g2, l2, b2⟩ := comp_st (p := prOf tb (d + 2)) (elt := .call 27 [0, 1] (.cons (.var 0) (.cons (.var 2) .nil)) .nil) (t := .name 3) (it := .range1 (.call 29 [0] (.cons (.var 1) .nil) .nil)) (own := [3])
    (env := [some (.ref 0), some (tv1 ns), some (.int (m : Nat)), none]) (h := h) (xs := rangeOf 0 (W : Nat)) (P := fun v => v.natAbs < 2 ^ 40)
    (range_ev (by simp only [ev, evs, look_zero, look_succ, Res.bind_ok, ofO, List.cons_append, List.nil_append, df29, perm1, c1]) (by omega)) hg (by
      intro x hx h hg
      obtain ⟨v, h2, e, g2, bv⟩ := entry_ok (d := d) (m := m) hg m1 m2
      have c2 : (prOf tb (d + 2)).call 27 [.ref 0, .int (m : Nat)] h = .ok (.int v) h2 := e
      refine ⟨[some (.ref 0), some (tv1 ns), some (.int (m : Nat)), some x], v, h2, rfl, ?_, g2, bv⟩
      simp only [ev, evs, look_zero, look_succ, Res.bind_ok, ofO, List.cons_append, List.nil_append, df27, perm2, c2]) (by rw [rng, List.length_map, List.length_range]; omega)
  rw [rng, List.length_map, List.length_range] at l2
  refine ⟨X, h2, ?_, g2, l2, b2, by decide⟩
  have l1 := hg.len
  have l3 := g2.len
  refine callH_ (F := f37) rfl rfl rfl (v := tv1 X) (h1 := h2) ?_ (fin_deep rfl deep_tup_iv (by omega))
  show evSs (prOf tb (d + 2)) b37 [some (.ref 0), some (tv1 ns), none, none] h = _
  unfold b37
  rw [nx_ (set_ (v := .int (m : Nat)) (h1 := h) (me _ _ _ _))]
  refine rt_ (ret_ ?_)
  rw [ev, evs]
  simp only [List.set]
  rw [e]
  simp only [evs, Res.bind_ok, bi_tup_lst, ofO]
end K00
end

section
set_option Elab.async false
set_option linter.all false
set_option maxRecDepth 100000
set_option maxHeartbeats 0
set_option autoImplicit false
namespace K00
open PySem Ws
theorem cond_f {p : Pr} {env : SE} {h : SH} {t : CE} {a : CSs} (q : evT p t env h = .ok false h) : evS p (.cond t a .nil) env h = .nx env h := by
  rw [if_f q]
  rfl
theorem isNot_tt {h : SH} : cmpop h .isNot (.bl true) (.bl true) = some false := rfl

/-- what is asked of the drawn elements -/
def tl : CSs → CSs
  | .cons _ r => r
  | s => s
abbrev asked : CSs := tl (tl (tl (tl (tl (tl b38l0)))))
theorem asked_ok {sc tn : SV} {h : SH} {ns X Y Z A I D YZ Pn Pm Pnm IY Q C R T V : List Int} {W : Nat} {M n m : Int}
    (p1 : (prOf tb 29).call 20 [tv1 ns, tv1 X, tv1 Y] h = .ok (tv1 A) h)
    (p1a : (prOf tb 29).call 33 [tv1 ns, tv1 X, tv1 Y] h = .ok (tv1 A) h)
    (p2 : (prOf tb 29).call 21 [tv1 ns, tv1 X] h = .ok (tv1 I) h)
    (p2a : (prOf tb 29).call 34 [tv1 ns, tv1 X] h = .ok (tv1 I) h)
    (p3 : (prOf tb 29).call 20 [tv1 ns, tv1 X, tv1 I] h = .ok (tv1 (zer W)) h)
    (p4 : (prOf tb 29).call 20 [tv1 ns, tv1 I, tv1 X] h = .ok (tv1 (zer W)) h)
    (p5 : (prOf tb 29).call 12 [tv1 ns] h = .ok (tv1 (zer W)) h)
    (p6 : (prOf tb 29).call 20 [tv1 ns, tv1 A, tv1 Z] h = .ok (tv1 D) h)
    (p7 : (prOf tb 29).call 33 [tv1 ns, tv1 Y, tv1 Z] h = .ok (tv1 YZ) h)
    (p8 : (prOf tb 29).call 33 [tv1 ns, tv1 X, tv1 YZ] h = .ok (tv1 D) h)
    (p9 : (prOf tb 29).call 22 [tv1 ns, tv1 X, .int n] h = .ok (tv1 Pn) h)
    (p10 : (prOf tb 29).call 35 [tv1 ns, tv1 X, .int n] h = .ok (tv1 Pn) h)
    (p11 : (prOf tb 29).call 22 [tv1 ns, tv1 X, .int 0] h = .ok (tv1 (zer W)) h)
    (p12 : (prOf tb 29).call 22 [tv1 ns, tv1 X, .int m] h = .ok (tv1 Pm) h)
    (p13 : (prOf tb 29).call 20 [tv1 ns, tv1 Pn, tv1 Pm] h = .ok (tv1 Pnm) h)
    (p14 : (prOf tb 29).call 22 [tv1 ns, tv1 X, .int (n + m)] h = .ok (tv1 Pnm) h)
    (p15 : (prOf tb 29).call 34 [tv1 ns, tv1 Y] h = .ok (tv1 IY) h)
    (p16 : (prOf tb 29).call 33 [tv1 ns, tv1 I, tv1 IY] h = .ok (tv1 Q) h)
    (p17 : (prOf tb 29).call 33 [tv1 ns, tv1 Q, tv1 A] h = .ok (tv1 C) h)
    (p18 : (prOf tb 29).call 23 [tv1 ns, tv1 X, tv1 Y] h = .ok (tv1 C) h)
    (p19 : (prOf tb 29).call 23 [tv1 ns, tv1 X, tv1 Pm] h = .ok (tv1 (zer W)) h)
    (p20 : (prOf tb 29).call 33 [tv1 ns, tv1 IY, tv1 X] h = .ok (tv1 R) h)
    (p21 : (prOf tb 29).call 33 [tv1 ns, tv1 R, tv1 Y] h = .ok (tv1 T) h)
    (p22 : (prOf tb 29).call 24 [tv1 ns, tv1 X, tv1 Y] h = .ok (tv1 T) h)
    (p23 : (prOf tb 29).call 20 [tv1 ns, tv1 X, tv1 C] h = .ok (tv1 T) h)
    (p24 : (prOf tb 29).call 24 [tv1 ns, tv1 T, tv1 Z] h = .ok (tv1 V) h)
    (p25 : (prOf tb 29).call 20 [tv1 ns, tv1 Y, tv1 Z] h = .ok (tv1 YZ) h)
    (p26 : (prOf tb 29).call 24 [tv1 ns, tv1 X, tv1 YZ] h = .ok (tv1 V) h)
    (rA : ∀ h : SH, builtin h .repr [tv1 A] = some (.str (tv1 A).pd.shown))
    (rI : ∀ h : SH, builtin h .repr [tv1 I] = some (.str (tv1 I).pd.shown))
    (rP : ∀ h : SH, builtin h .repr [tv1 Pn] = some (.str (tv1 Pn).pd.shown))
    (rC : ∀ h : SH, builtin h .repr [tv1 C] = some (.str (tv1 C).pd.shown))
    (rT : ∀ h : SH, builtin h .repr [tv1 T] = some (.str (tv1 T).pd.shown)) : evSs (prOf tb 29) asked [some sc, some (.ref 0), some tn, some (tv1 ns), some (.int M), none, some (tv1 X), some (tv1 Y), some (tv1 Z), some (.int n), some (.int m), some (tv1 (zer W)), some (tv1 A), some (tv1 I)] h = .nx [some sc, some (.ref 0), some tn, some (tv1 ns), some (.int M), some (tv1 T), some (tv1 X), some (tv1 Y), some (tv1 Z), some (.int n), some (.int m), some (tv1 (zer W)), some (tv1 A), some (tv1 I)] h := by
  show evSs (prOf tb 29) (.cons _ _) _ _ = _
  rw [nx_ (cond_f (by simp only [evSs, evS, evT, ev, evs, look_zero, look_succ, Res.bind_ok, ofO, List.cons_append, List.nil_append, Out.of, List.set, store_name, df4, df6, df12, df20, df21, df22, df23, df24, df26, df33, df34, df35, df36, df37, perm1, perm2, perm3, perm201, perm021, perm210, Bool.false_eq_true, if_false, if_true, cmp_ne_str, cmp_ne_tv, p1, rA, p2, rI]))]
  rw [nx_ (cond_f (by simp only [evSs, evS, evT, ev, evs, look_zero, look_succ, Res.bind_ok, ofO, List.cons_append, List.nil_append, Out.of, List.set, store_name, df4, df6, df12, df20, df21, df22, df23, df24, df26, df33, df34, df35, df36, df37, perm1, perm2, perm3, perm201, perm021, perm210, Bool.false_eq_true, if_false, if_true, cmp_ne_str, cmp_ne_tv, p2, p3, p4, p5]))]
  rw [nx_ (cond_f (by simp only [evSs, evS, evT, ev, evs, look_zero, look_succ, Res.bind_ok, ofO, List.cons_append, List.nil_append, Out.of, List.set, store_name, df4, df6, df12, df20, df21, df22, df23, df24, df26, df33, df34, df35, df36, df37, perm1, perm2, perm3, perm201, perm021, perm210, Bool.false_eq_true, if_false, if_true, cmp_ne_str, cmp_ne_tv, p6, p7, p8]))]
  rw [nx_ (cond_f (by simp only [evSs, evS, evT, ev, evs, look_zero, look_succ, Res.bind_ok, ofO, List.cons_append, List.nil_append, Out.of, List.set, store_name, df4, df6, df12, df20, df21, df22, df23, df24, df26, df33, df34, df35, df36, df37, perm1, perm2, perm3, perm201, perm021, perm210, Bool.false_eq_true, if_false, if_true, cmp_ne_str, cmp_ne_tv, p9, p10, rP, p11]))]
  rw [nx_ (cond_f (by
    simp only [evSs, evS, evT, ev, evs, look_zero, look_succ, Res.bind_ok, ofO, List.cons_append, List.nil_append, Out.of, List.set, store_name, df4, df6, df12, df20, df21, df22, df23, df24, df26, df33, df34, df35, df36, df37, perm1, perm2, perm3, perm201, perm021, perm210, bi_abs, binop_add, cmp_lt]
    by_cases z : (if n + m < 0 then -(n + m) else n + m) < 1000
    · simp only [decide_eq_true z, evSs, evS, evT, ev, evs, look_zero, look_succ, Res.bind_ok, ofO, List.cons_append, List.nil_append, Out.of, List.set, store_name, df4, df6, df12, df20, df21, df22, df23, df24, df26, df33, df34, df35, df36, df37, perm1, perm2, perm3, perm201, perm021, perm210, Bool.false_eq_true, if_false, if_true, cmp_ne_tv, binop_add, p9, p12, p13, p14]
    · simp only [decide_eq_false z, Bool.false_eq_true, if_false, if_true]))]
  rw [nx_ (set_ (v := tv1 C) (h1 := h) (by simp only [evSs, evS, evT, ev, evs, look_zero, look_succ, Res.bind_ok, ofO, List.cons_append, List.nil_append, Out.of, List.set, store_name, df4, df6, df12, df20, df21, df22, df23, df24, df26, df33, df34, df35, df36, df37, perm1, perm2, perm3, perm201, perm021, perm210, p15, p16, p17]))]
  rw [nx_ (cond_f (by simp only [evSs, evS, evT, ev, evs, look_zero, look_succ, Res.bind_ok, ofO, List.cons_append, List.nil_append, Out.of, List.set, store_name, df4, df6, df12, df20, df21, df22, df23, df24, df26, df33, df34, df35, df36, df37, perm1, perm2, perm3, perm201, perm021, perm210, Bool.false_eq_true, if_false, if_true, cmp_ne_str, cmp_ne_tv, p18, rC, p12, p19]))]
  rw [nx_ (set_ (v := tv1 T) (h1 := h) (by simp only [evSs, evS, evT, ev, evs, look_zero, look_succ, Res.bind_ok, ofO, List.cons_append, List.nil_append, Out.of, List.set, store_name, df4, df6, df12, df20, df21, df22, df23, df24, df26, df33, df34, df35, df36, df37, perm1, perm2, perm3, perm201, perm021, perm210, p15, p20, p21]))]
  rw [nx_ (cond_f (by simp only [evSs, evS, evT, ev, evs, look_zero, look_succ, Res.bind_ok, ofO, List.cons_append, List.nil_append, Out.of, List.set, store_name, df4, df6, df12, df20, df21, df22, df23, df24, df26, df33, df34, df35, df36, df37, perm1, perm2, perm3, perm201, perm021, perm210, Bool.false_eq_true, if_false, if_true, cmp_ne_str, cmp_ne_tv, p18, p22, rT, p23]))]
  rw [nx_ (cond_f (by simp only [evSs, evS, evT, ev, evs, look_zero, look_succ, Res.bind_ok, ofO, List.cons_append, List.nil_append, Out.of, List.set, store_name, df4, df6, df12, df20, df21, df22, df23, df24, df26, df33, df34, df35, df36, df37, perm1, perm2, perm3, perm201, perm021, perm210, Bool.false_eq_true, if_false, if_true, cmp_ne_str, cmp_ne_tv, p22, p24, p25, p26]))]
  rfl
theorem law_turn {sc tn : SV} {h : SH} (hg : Good h) : ∃ (env1 : SE) (h2 : SH), turn (prOf tb 29) (.name 2) b38l0 tn [some sc, some (.ref 0), none, none, none, none, none, none, none, none, none, none, none, none] h = .nx env1 h2 ∧ wipeE env1 [2, 3, 4, 5, 6, 7, 8, 9, 10, 11, 12, 13] = [some sc, some (.ref 0), none, none, none, none, none, none, none, none, none, none, none, none] ∧ Good h2 := by
  obtain ⟨ns, W, c, h1, S, ce1, g1⟩ := space_ok (d := 27) hg
  obtain ⟨X, h2, ce2, g2, eX⟩ := element_ok S (d := 26) g1
  obtain ⟨Y, h3, ce3, g3, eY⟩ := element_ok S (d := 26) g2
  obtain ⟨Z, h4, ce4, g4, eZ⟩ := element_ok S (d := 26) g3
  obtain ⟨M1, M2, me⟩ := S.mst2
  obtain ⟨k, h5, ce5, g5, k0, k1⟩ := draw (d := 28) g4 (many := 2) (by decide) (by decide)
  obtain ⟨M, it, m0, m1⟩ : ∃ M : Int, itemV (.lst [.int 40, .int (M1 : Nat)]) (.int k) h5 = some (.int M) ∧ 0 ≤ M ∧ M ≤ 999 := by
    have : k = 0 ∨ k = 1 := by omega
    rcases this with rfl | rfl
    · exact ⟨40, rfl, by omega, by omega⟩
    · exact ⟨M1, rfl, by omega, by omega⟩
  obtain ⟨kn, h6, ce6, g6, n0, n1⟩ := draw (d := 28) g5 (many := 2 * M + 1) (by omega) (by omega)
  obtain ⟨km, h7, ce7, g7, l0, l1⟩ := draw (d := 28) g6 (many := 2 * M + 1) (by omega) (by omega)
  have c0 : (prOf tb 29).call 6 [tv1 ns] h1 = .ok (.bl true) h1 := S.isp 25 h1
  have c1 : (prOf tb 29).call 36 [.ref 0] h = .ok (tv1 ns) h1 := ce1
  have c2 : (prOf tb 29).call 37 [.ref 0, tv1 ns] h1 = .ok (tv1 X) h2 := ce2
  have c3 : (prOf tb 29).call 37 [.ref 0, tv1 ns] h2 = .ok (tv1 Y) h3 := ce3
  have c4 : (prOf tb 29).call 37 [.ref 0, tv1 ns] h3 = .ok (tv1 Z) h4 := ce4
  have c5 : (prOf tb 29).call 26 [.ref 0, .int 2] h4 = .ok (.int k) h5 := ce5
  have c6 : (prOf tb 29).call 26 [.ref 0, .int (2 * M + 1)] h5 = .ok (.int kn) h6 := ce6
  have c7 : (prOf tb 29).call 26 [.ref 0, .int (2 * M + 1)] h6 = .ok (.int km) h7 := ce7
  have w12 := S.w12
  have lX := eX.1
  have lY := eY.1
  have lZ := eZ.1
  have eI := S.inv eX (by decide)
  have eJ := S.inv eY (by decide)
  have eA := S.mul eX eY
  have eYZ := S.mul eY eZ
  have hn : (kn - M).natAbs < 2 ^ 11 := by omega
  have hm : (km - M).natAbs < 2 ^ 11 := by omega
  have hnm : (kn - M + (km - M)).natAbs < 2 ^ 11 := by omega
  have ePn := S.pel eX (by decide) hn
  have ePm := S.pel eX (by decide) hm
  have eC := S.comm_el eX eY (by decide)
  have eT := S.turn_el eX eY (by decide)
  have eR := S.mul eJ eX
  have eQ := S.mul eI eJ
  have al : ∃ env1, evSs (prOf tb 29) asked [some sc, some (.ref 0), some tn, some (tv1 ns), some (.int M), none, some (tv1 X), some (tv1 Y), some (tv1 Z), some (.int (kn - M)), some (.int (km - M)), some (tv1 (zer W)), some (tv1 (mu ns X Y)), some (tv1 (iu ns X))] h7 = .nx env1 h7 ∧ wipeE env1 [2, 3, 4, 5, 6, 7, 8, 9, 10, 11, 12, 13] = [some sc, some (.ref 0), none, none, none, none, none, none, none, none, none, none, none, none] :=
    ⟨_, asked_ok (h := h7) (D := mu ns X (mu ns Y Z)) (YZ := mu ns Y Z) (Pn := powF (kn - M) X ns c) (Pm := powF (km - M) X ns c) (Pnm := powF (kn - M + (km - M)) X ns c) (IY := iu ns Y) (Q := mu ns (iu ns X) (iu ns Y))
      (C := mu ns (iu ns (mu ns Y X)) (mu ns X Y)) (R := mu ns (iu ns Y) X) (T := mu ns (iu ns Y) (mu ns X Y)) (V := mu ns (iu ns (mu ns Y Z)) (mu ns X (mu ns Y Z)))
      (p1 := S.product (d := 22) eX eY (by decide)) (p1a := S.law_prod (d := 25) eX eY (by decide)) (p2 := S.inverse (d := 23) eX (by decide)) (p2a := S.law_inv (d := 24) eX (by decide))
      (p3 := by rw [← (S.gv X lX).1]; exact S.product (d := 22) eX eI (by decide))
      (p4 := by rw [← (S.gv X lX).2]; exact S.product (d := 22) eI eX (by decide))
      (p5 := S.idn 23 h7)
      (p6 := by rw [← S.ga X Y Z lX lY lZ]; exact S.product (d := 22) eA eZ (by decide))
      (p7 := S.law_prod (d := 25) eY eZ (by decide)) (p8 := S.law_prod (d := 25) eX eYZ (by decide))
      (p9 := S.power (d := 23) eX (by decide) hn) (p10 := S.law_pow (d := 23) eX (by decide) (by omega))
      (p11 := by rw [← (S.gp 0 X lX).2]; exact S.power (d := 23) eX (by decide) (by decide))
      (p12 := S.power (d := 23) eX (by decide) hm)
      (p13 := by rw [← S.pow_add lX]; exact S.product (d := 22) ePn ePm (by decide))
      (p14 := S.power (d := 23) eX (by decide) hnm)
      (p15 := S.law_inv (d := 24) eY (by decide)) (p16 := S.law_prod (d := 25) eI eJ (by decide))
      (p17 := by rw [← S.comm_due lX lY]; exact S.law_prod (d := 25) eQ eA (by decide))
      (p18 := S.commutator (d := 22) eX eY (by decide))
      (p19 := by rw [← S.comm_pow lX (km - M)]; exact S.commutator (d := 22) eX ePm (by decide))
      (p20 := S.law_prod (d := 25) eJ eX (by decide))
      (p21 := by rw [← S.turn_due lX lY]; exact S.law_prod (d := 25) eR eY (by decide))
      (p22 := S.turned (d := 22) eX eY (by decide))
      (p23 := by rw [← S.x_comm lX lY]; exact S.product (d := 22) eX eC (by decide))
      (p24 := by rw [← S.turn_turn lX lY lZ]; exact S.turned (d := 22) eT eZ (by decide))
      (p25 := S.product (d := 22) eY eZ (by decide))
      (p26 := S.turned (d := 22) eX eYZ (by decide))
      (rA := fun h => eA.rep (by decide) w12) (rI := fun h => eI.rep (by decide) w12) (rP := fun h => ePn.rep (by decide) w12) (rC := fun h => eC.rep (by decide) w12) (rT := fun h => eT.rep (by decide) w12), rfl⟩
  obtain ⟨env1, ae, aw⟩ := al
  refine ⟨env1, h7, ?_, aw, g7⟩
  rw [turn_eq (env2 := [some sc, some (.ref 0), some tn, none, none, none, none, none, none, none, none, none, none, none]) (by simp)]
  have mul2 : binop .mul (.int 2) (.int M) = some (.int (2 * M)) := binop_mul (mf_l (by decide))
  have q1 : (prOf tb 29).call 33 [tv1 ns, tv1 X, tv1 Y] h7 = .ok (tv1 (mu ns X Y)) h7 := S.law_prod (d := 25) eX eY (by decide)
  have q2 : (prOf tb 29).call 34 [tv1 ns, tv1 X] h7 = .ok (tv1 (iu ns X)) h7 := S.law_inv (d := 24) eX (by decide)
  have one : mkL false [SV.int 0] h7 = .ok (.lst [.int 0]) h7 := mkL_val (by decide)
  have zl : mkL false (iv (zer W)) h7 = .ok (.lst (iv (zer W))) h7 := mkL_any (by rw [len_iv, zlen]; omega)
  have lx : (iv X).length = W := by rw [len_iv, lX]
  unfold b38l0
  rw [nx_ (set_ (v := tv1 ns) (h1 := h1) (by simp only [evSs, evS, evT, ev, evs, look_zero, look_succ, Res.bind_ok, ofO, List.cons_append, List.nil_append, Out.of, List.set, store_name, df4, df6, df12, df20, df21, df22, df23, df24, df26, df33, df34, df35, df36, df37, perm1, perm2, perm3, perm201, perm021, perm210, c1]))]
  rw [nx_ (cond_f (by simp only [evSs, evS, evT, ev, evs, look_zero, look_succ, Res.bind_ok, ofO, List.cons_append, List.nil_append, Out.of, List.set, store_name, df4, df6, df12, df20, df21, df22, df23, df24, df26, df33, df34, df35, df36, df37, perm1, perm2, perm3, perm201, perm021, perm210, c0, isNot_tt]))]
  rw [nx_ (env1 := [some sc, some (.ref 0), some tn, some (tv1 ns), none, none, some (tv1 X), some (tv1 Y), some (tv1 Z), none, none, none, none, none]) (h1 := h4) (by simp only [evSs, evS, evT, ev, evs, look_zero, look_succ, Res.bind_ok, ofO, List.cons_append, List.nil_append, Out.of, List.set, store_name, df4, df6, df12, df20, df21, df22, df23, df24, df26, df33, df34, df35, df36, df37, perm1, perm2, perm3, perm201, perm021, perm210, c2, c3, c4])]
  rw [nx_ (set_ (v := .int M) (h1 := h5) (by rw [ev, me]; simp only [evSs, evS, evT, ev, evs, look_zero, look_succ, Res.bind_ok, ofO, List.cons_append, List.nil_append, Out.of, List.set, store_name, df4, df6, df12, df20, df21, df22, df23, df24, df26, df33, df34, df35, df36, df37, perm1, perm2, perm3, perm201, perm021, perm210, c5, it]))]
  rw [nx_ (env1 := [some sc, some (.ref 0), some tn, some (tv1 ns), some (.int M), none, some (tv1 X), some (tv1 Y), some (tv1 Z), some (.int (kn - M)), some (.int (km - M)), none, none, none]) (h1 := h7) (by simp only [evSs, evS, evT, ev, evs, look_zero, look_succ, Res.bind_ok, ofO, List.cons_append, List.nil_append, Out.of, List.set, store_name, df4, df6, df12, df20, df21, df22, df23, df24, df26, df33, df34, df35, df36, df37, perm1, perm2, perm3, perm201, perm021, perm210, mul2, binop_add, binop_sub, c6, c7])]
  rw [nx_ (env1 := [some sc, some (.ref 0), some tn, some (tv1 ns), some (.int M), none, some (tv1 X), some (tv1 Y), some (tv1 Z), some (.int (kn - M)), some (.int (km - M)), some (tv1 (zer W)), some (tv1 (mu ns X Y)), some (tv1 (iu ns X))]) (h1 := h7) (by simp only [evSs, evS, evT, ev, evs, look_zero, look_succ, Res.bind_ok, ofO, List.cons_append, List.nil_append, Out.of, List.set, store_name, df4, df6, df12, df20, df21, df22, df23, df24, df26, df33, df34, df35, df36, df37, perm1, perm2, perm3, perm201, perm021, perm210, bi_len_tup, lx, one, rep_of w12, zl, bi_tup_lst, q1, q2])]
  exact ae
theorem law_loop {sc : SV} : ∀ (xs : List SV) (h : SH), Good h → ∃ h2, loopF [2, 3, 4, 5, 6, 7, 8, 9, 10, 11, 12, 13] (turn (prOf tb 29) (.name 2) b38l0) xs [some sc, some (.ref 0), none, none, none, none, none, none, none, none, none, none, none, none] h = .nx [some sc, some (.ref 0), none, none, none, none, none, none, none, none, none, none, none, none] h2 ∧ Good h2
  | [], h, hg => ⟨h, rfl, hg⟩
  | x :: xs, h, hg => by
    obtain ⟨env1, h2, e, w, g2⟩ := law_turn (sc := sc) (tn := x) hg
    obtain ⟨h3, e3, g3⟩ := law_loop (sc := sc) xs h2 g2
    refine ⟨h3, ?_, g3⟩
    rw [loop_nx e, w]
    exact e3
theorem law_runs (ns : List Int) (hl : ns.length ≤ 63) : ∃ hend, callF tb 30 38 [.lst (ns.map SV.int)] [] = .ok (.bl true) hend := by
  obtain ⟨h, e, g⟩ := begin_ok (d := 28) ns (by omega)
  have c1 : (prOf tb 29).call 25 [.lst (iv ns)] [] = .ok (.ref 0) h := e
  obtain ⟨h2, lp, g2⟩ := law_loop (sc := .lst (iv ns)) (rangeOf 0 (6 : Nat)) h g
  refine ⟨[], ?_⟩
  refine callH_ (F := f38) rfl rfl rfl (v := .bl true) (h1 := h2) ?_ rfl
  show evSs (prOf tb 29) b38 [some (.lst (iv ns)), none, none, none, none, none, none, none, none, none, none, none, none, none] [] = _
  unfold b38
  rw [nx_ (set_ (v := .ref 0) (h1 := h) (by simp only [evSs, evS, evT, ev, evs, look_zero, look_succ, Res.bind_ok, ofO, List.cons_append, List.nil_append, Out.of, List.set, store_name, df25, perm1, c1]))]
  rw [nx_ (loop_ (range_ev (n := 6) (by rfl) (by omega)) (by simpa only [List.set] using lp))]
  rfl
end K00
end

section
set_option Elab.async false
set_option linter.all false
set_option maxRecDepth 100000
set_option maxHeartbeats 0
namespace K00
open PySem PySem.Spec PyProof.Rows L2 Ws
theorem facts {P : Program} {w : World} {K : PySem.W.Frag} {h : Heap} {mg : Str → Option Value} {f : Addr} (X : K.In h) (G : h.Ns mainGlobals mg) (hfa : mg ("law" : Str) = some (.ref f)) (c : He.SaysX fa fn [] [] ex w h K) :
    ∃ fd : FuncData, (∀ (s : Shared) (u : Value), BindsTo s fd ⟨[u], []⟩ [("script", u)]) ∧ ∀ base : Heap, K.In base → base.Ns mainGlobals mg → FnG P w K mg base 30 f fd ["script"] (spOf K mg tb 30 38 1) := by
  obtain ⟨fd, D⟩ := c.t.d.def_ 38 (d := d38) rfl
  have b := FunD.bindsA (ps := ["script"]) D fun _ _ _ _ _ _ us hl => match us, hl with | [_], _ => rfl
  have e := hfa.symm.trans (He.glo_ok X G (c.t.d.fact 38 (f := .glo "law") rfl))
  cases e
  refine ⟨fd, fun s v => b s [v] rfl, fun base hK hns => ?_⟩
  exact law_fn (pr_ok w X G c) (F := f38) rfl D hfa
end K00
open PySem PySem.W PySem.Calls PyProof.Rows
theorem PySem.Challenge.cw_wholestairs_k00_whole_products_inverses_holds : PySem.Challenge.rw_wholestairs_k00_whole_products_inverses.Holds := by
  w_on; o_law
  refine HandSHeadRun.head_any (r := OpenLaw.row PySem.Challenge.rw_wholestairs_k00_whole_products_inverses) (q := view (OpenLaw.row PySem.Challenge.rw_wholestairs_k00_whole_products_inverses).prog [48]) (H := K00.hk) (ob := K00.ob) (M := 4000) (loose := K00.loose) (d := HandSHeadRun.topDef (OpenLaw.row PySem.Challenge.rw_wholestairs_k00_whole_products_inverses).prog 48) (kwd := []) K00.ob_eq
    (by kernel_rfl) (fun s => by kernel_rfl) K00.run (by kernel_rfl) (by kernel_rfl) (by kernel_rfl) (by rfl) (by first | assumption | decide +kernel) (by decide +kernel) ⟨rfl, rfl, rfl, rfl, rfl, by decide +kernel⟩ ?hw ?hc
  case hw => w_witness2
  case hc =>
    refine Ws.walk_G (l := PySem.Challenge.rw_wholestairs_k00_whole_products_inverses) (n := 63) (k := 30) (x := "script") rfl (by decide) (by kernel_rfl) ⟨rfl, by decide, by decide⟩ ?F
    intro w mg fa h Y G hmg0
    obtain ⟨K, KX, c⟩ := Y
    have hmg : mg ("law" : PySem.Str) = some (.ref fa) := by
      have e : (HandSHeadRun.topDef (OpenLaw.row PySem.Challenge.rw_wholestairs_k00_whole_products_inverses).prog 48).name = ("law" : PySem.Str) := by kernel_rfl
      rw [← e]
      exact hmg0
    obtain ⟨fd, hb, hF⟩ := K00.facts (P := (PySem.Challenge.rw_wholestairs_k00_whole_products_inverses).prog) (w := w) KX G hmg c
    refine ⟨K, fd, _, KX, hb, ?_, hF⟩
    intro H a ns hl hS
    obtain ⟨hend, run⟩ := K00.law_runs ns hl
    exact Ws.ask_ok run H a hS
end
