import PyProof.Rows.All
import HandS.ForMost
import HandS.Zip
import KE.GoesMore
import KE.GoesEnum
import HandS.Set
import HandS.SetFor
import HandS.SetTxt0
import PyProof.Rows.SortShellAny
import Wide.All
import OpenK.AllK
import Wide.FinOn
import HandS.Exc
import KE.SortKeyed
import KE.SortCalls
import KE.KTupSum
import HandS.Dict
import HandS.More
import HandS.Lambda
import HandS.ExcIs
import HandS.HeadWalk
import KE.DataFind
import HandS.TupAny
import HandS.TupMul
import HandS.TupLe
import HandS.Deep
import HandS.Style
import PyProof.P3In
import KE.DataMinMax
import KE.KDictCopyH
import HandS.List
import KE.KDictZip
import PyProof.ReprRoads
import HandS.RaiseMore
import HandS.Text
import HandS.IsInst
import HandS.Conv
import HandS.EndTab
import HandS.WordsExc
import HandS.Defaults
import HandS.Head0
import HandS.Head1
import HandS.Head2
import HandS.HeadEnd
import HandS.HeadHook1
import HandS.HeadHook2
import HandS.HeadHook3
import HandS.HeadHook4
import KE.KNestM
import KE.SortData
import PyProof.StrLawsRepr
import Lean
import PySem.Challenge.RW_doorwatch_k50_whole_texts
set_option Elab.async false
set_option linter.all false
set_option maxRecDepth 100000
set_option maxHeartbeats 8000000
namespace PySem
open Sem (wp)
open AutoSeq1 (wpAny_loadPart')
theorem dw_enumerate_new {v : Value} {o : Obj} {H : Heap → Prop} (B : Begins v o H) :
    Meets (Builtin.«enumerate.__new__» ⟨[.type "enumerate", v], []⟩) (fun _ R s => H s.heap ∧
      R (.ok (.ret (.ref (s.heap.push o).objs.size))) { s with heap := (s.heap.push o).push { cls := .type "enumerate", data := .fields #[.none, .bool false, .ref s.heap.objs.size, rawInt 0, .none, .none] } }) :=
  .of_wp fun prog w A R s h => by
    obtain ⟨hp, g, d, tk, os⟩ := s; obtain ⟨h1, h⟩ := h
    have hsub := sub_enumerate
    have q1 : ∀ {A' : Around} {E : Value → Shared → Prop} {Q : Value → Shared → Prop}, Q (.ref hp.objs.size) ⟨hp.push o, g, d, tk, os⟩ → wpAny (model prog w) A' (pyIter v) Q E ⟨hp, g, d, tk, os⟩ :=
      fun q => B.iter prog w _ _ ⟨hp, g, d, tk, os⟩ _ h1 q
    wp_walk using q1
    refine wpAny_stack_any fun st => wpAny_pure ?_
    split
    · rename_i c _ _ _ _ _
      cases (c == Value.type "enumerate")
      · wp_walk using q1
        exact ⟨_, rfl, h⟩
      · wp_walk using q1
        exact ⟨_, rfl, h⟩
    · wp_walk using q1
      exact ⟨_, rfl, h⟩
theorem dw_enum_begins {prog : Program} {w : World} {A : Around} {E : Value → Shared → Prop} {s : Shared} {v : Value} {o : Obj} {H : Heap → Prop} {Q : Value → Shared → Prop} (B : Begins v o H) (h1 : H s.heap)
    (h : ∀ h', IsEnum h' (s.heap.objs.size + 1) s.heap.objs.size 0 .none → h'.get? s.heap.objs.size = some o → h'.objs.size = s.heap.objs.size + 2 →
      (∀ b o, s.heap.get? b = some o → h'.get? b = some o) → Q (.ref (s.heap.objs.size + 1)) { s with heap := h' }) :
    wpAny (model prog w) A (call (.type "enumerate") [v]) Q E s := by
  refine callType_new F.called_enumerate (by decide) (F.typeCall_enumerate_1 _) (F.newCall_enumerate_1 _) (fun obj => F.args_object_init_2 obj _) F.entry_enumerate_new
    (dw_enumerate_new B) ⟨h1, ?_⟩
  have hz : (s.heap.push o).objs.size = s.heap.objs.size + 1 := Heap.size_push ..
  show _ ∧ _
  rw [hz]
  have he : IsEnum ((s.heap.push o).push { cls := .type "enumerate", data := .fields #[.none, .bool false, .ref s.heap.objs.size, rawInt 0, .none, .none] }) (s.heap.objs.size + 1) s.heap.objs.size 0 .none := by
    have := Heap.get?_push_size (s.heap.push o) (o := { cls := .type "enumerate", data := .fields #[.none, .bool false, .ref s.heap.objs.size, rawInt 0, .none, .none] }) rfl
    rw [hz] at this; exact this
  exact ⟨⟨_, he, rfl⟩, h _ he (Heap.get?_push_of_some _ (Heap.get?_push_size _ B.free)) (by rw [Heap.size_push, hz]) fun b o x => Heap.get?_push_of_some _ (Heap.get?_push_of_some _ x)⟩
end PySem
namespace Dw
open PySem L2
/-- a list (t = false) or a tuple at a -/
def SqK (K : PySem.W.Frag) (t : Bool) (H : Hp) (a : Addr) (xs : List V) : Prop := match t with
  | false => SqL K H a xs
  | true => SqT K H a xs
/-- its iterator at place i -/
def ItK (t : Bool) (h : Heap) (it a : Addr) (i : Nat) : Prop := match t with
  | false => h.IsListIter it a i
  | true => h.IsTupleIter it a i
def IsK (t : Bool) (h : Heap) (a : Addr) (items : Array Value) : Prop := match t with
  | false => h.IsList a items
  | true => h.IsTuple a items
def ItO (t : Bool) (a : Addr) : Obj := match t with
  | false => { cls := .type "list_iterator", data := .fields #[.ref a, .int 0 0] }
  | true => { cls := .type "tuple_iterator", data := .fields #[.ref a, .int 0 0] }
theorem ItK.at {t : Bool} {h h' : Heap} {it a : Addr} {i : Nat} (x : ItK t h it a i) (k : ∀ o, h.get? it = some o → h'.get? it = some o) : ItK t h' it a i := by
  cases t with
  | false => exact Heap.IsListIter.at x k
  | true => exact Heap.IsTupleIter.at x k
theorem ItK.obj {t : Bool} {h : Heap} {it a : Addr} {i : Nat} (x : ItK t h it a i) : ∃ o, h.get? it = some o ∧ ∀ v, o.data ≠ .cell v := by
  cases t with
  | false =>
    obtain ⟨o, e, _, d⟩ := x
    exact ⟨o, e, fun v z => by rw [d] at z; cases z⟩
  | true =>
    obtain ⟨o, e, _, d⟩ := x
    exact ⟨o, e, fun v z => by rw [d] at z; cases z⟩
theorem itk_new {t : Bool} {h : Heap} {it a : Addr} (x : h.get? it = some (ItO t a)) : ItK t h it a 0 := by
  cases t with
  | false => exact ⟨_, x, rfl, rfl⟩
  | true => exact ⟨_, x, rfl, rfl⟩
theorem begK (t : Bool) (a : Addr) (items : Array Value) : Begins (.ref a) (ItO t a) (fun h => IsK t h a items) := by
  cases t with
  | false => exact begins_list a items
  | true => exact begins_tuple a items
theorem drawsK {prog : Program} {w : World} {A : Around} (t : Bool) (hh : A.handled = none) (it a : Addr) (hne : a ≠ it) (items : Array Value) :
    Draws prog w A it [it, a] items.size (fun i v => items[i]? = some v) (fun i h => ItK t h it a i ∧ IsK t h a items) := by
  cases t with
  | false => exact Draws.list hh it a hne items
  | true => exact Draws.tuple hh it a hne items
theorem isK_of {X : Cx} {pins : List (Addr × Obj)} {σ : L2.St} {H : Hp} {s : Shared} {t : Bool} {a : Addr} {xs : List V} (I : Inv X pins σ H s) (h : SqK X.K t H a xs) :
    ∃ its : List Value, Vals xs its ∧ IsK t s.heap a its.toArray ∧ a < s.heap.objs.size := by
  cases t with
  | false =>
    obtain ⟨its, r, p, _⟩ := I.list h
    exact ⟨its, r, p.isList, p.lt⟩
  | true =>
    obtain ⟨its, r, p, _⟩ := I.tuple h
    exact ⟨its, r, p, p.lt⟩
theorem sqK_inj {X : Cx} {pins : List (Addr × Obj)} {σ : L2.St} {H : Hp} {s : Shared} {t : Bool} {a : Addr} {xs ys : List V} (I : Inv X pins σ H s) (h : SqK X.K t H a xs) (h' : SqK X.K t H a ys) : xs = ys := by
  cases t with
  | false => exact I.list_inj h h'
  | true => exact I.tuple_inj h h'
/-! ### enumerate -/
def IteK (K : PySem.W.Frag) (t : Bool) (a : Addr) : It :=
  ⟨fun i H => ∃ (xs : List V) (x : V), SqK K t H a xs ∧ xs[i]? = some x, fun i H v H' => ∃ T x, v = .ref T ∧ H T = none ∧ H' = upd H T (.tup [.int (i : Nat), x]) ∧ ∀ xs, SqK K t H a xs → xs[i]? = some x, fun i H => ∃ xs : List V, SqK K t H a xs ∧ xs.length = i⟩
theorem turn_enumK {P : Program} {w : World} {K : PySem.W.Frag} {elts : List Expr} {kk : Nat} {tpos : Pos} {t : Bool} (a e it : Addr) (hea : e ≠ a) (hia : a ≠ it) :
    Turn P w K (.Tuple elts kk tpos) (IteK K t a) [e, it] e (fun i h => (∃ old, IsEnum h e it ((i : Nat) : Int) old) ∧ ItK t h it a i ∧ e ≠ it) where
  mem := by simp
  obj := fun i h st b hb => by
    obtain ⟨⟨old, he⟩, hi, _⟩ := st
    have e' : b = e ∨ b = it := by simpa using hb
    rcases e' with z | z
    · rw [z]; exact ⟨_, he, fun v q => nomatch q⟩
    · rw [z]; exact hi.obj
  keep := fun i h h' st k => let ⟨⟨old, he⟩, hi, hne⟩ := st; ⟨⟨old, k e (by simp) _ he⟩, hi.at fun o q => k it (by simp) o q, hne⟩
  item := by
    intro X hP hw hK hc i pins s σ H E I hf st hg
    subst hP hw hK
    obtain ⟨⟨old, he⟩, hit, hne⟩ := st
    obtain ⟨xs, x, hq, hx⟩ := hg
    obtain ⟨its, rv, p, _⟩ := isK_of I hq
    obtain ⟨u, hu, ru⟩ := rv.get hx
    have hel : e < s.heap.objs.size := Heap.lt_size he
    have hil : it < s.heap.objs.size := by obtain ⟨_, q, _⟩ := hit.obj; exact Heap.lt_size q
    have hlt : i < its.toArray.size := by
      have := (List.getElem?_eq_some_iff.mp hu).1
      simpa using this
    have D := drawsK (prog := X.prog) (w := X.w) (A := X.A.in1) t (I.ok.hd hc) it a hia its.toArray
    refine wpAny_pyNext_enum_itemD D he ⟨hit, p⟩ hlt hne (by simp [hne, hea]) fun x' h' tk hP ho st' hT hsz hk => ?_
    have ex : x' = u := by
      have e1 : its.toArray[i]? = some u := by simpa using hu
      rw [e1] at hP
      exact (Option.some.inj hP).symm
    subst ex
    refine ⟨_, rfl, wpAny_letOwnedTupleGo_enum (s := { s with heap := h', toks := tk + 1 }) ho fun h'' he' sb => ?_⟩
    have hT2 : h''.get? s.heap.objs.size = some { cls := .type "tuple", data := .seq #[.int i tk, x'] } := (sb.2 _ (Nat.ne_of_gt hel)).trans hT
    have new : ObjOk X.prog X.w (upd H s.heap.objs.size (.tup [.int (i : Nat), x])) h'' s.heap.objs.size (.tup [.int (i : Nat), x]) :=
      ⟨by show 2 ≤ sizeLine; decide, [.int i tk, x'], .cons ⟨_, rfl⟩ (.cons ru .nil), ⟨_, hT2, rfl, _, rfl⟩⟩
    have I1 : Inv X pins σ (upd H s.heap.objs.size (.tup [.int (i : Nat), x])) { s with heap := h'', toks := tk + 1 } :=
      I.turnedNew (ch := [e, it]) (fun b ob hb q => (sb.2 b (fun z => hb (by simp [z]))).trans (hk b ob (fun z => hb (by simp [z])) (fun z => hb (by simp [z])) q)) hf (Nat.le_refl _) new
    refine ⟨.ref s.heap.objs.size, _, I1, rfl, ⟨_, x, rfl, I.hok.fresh (Nat.le_refl _), rfl, fun ys hy => by rw [sqK_inj I hy hq]; exact hx⟩, ⟨⟨x', ?_⟩, st'.1.at fun o q => (sb.2 it (Ne.symm hne)).trans q, hne⟩, fun b hb => ?_⟩
    · have e1 : ((i + 1 : Nat) : Int) = (i : Int) + 1 := by omega
      rw [e1]; exact he'
    · have hb' : b < s.heap.objs.size := by
        have e' : b = e ∨ b = it := by simpa using hb
        rcases e' with z | z
        · rw [z]; exact hel
        · rw [z]; exact hil
      rw [upd_ne (Nat.ne_of_lt hb')]
      exact (hf b hb).1
  done := by
    intro X hP hw hK hc i pins s σ H E I hf st hg
    subst hP hw hK
    obtain ⟨⟨old, he⟩, hit, hne⟩ := st
    obtain ⟨xs, hq, hx⟩ := hg
    obtain ⟨its, rv, p, _⟩ := isK_of I hq
    obtain ⟨f0, f1, f2, f3, f4, f5⟩ := hf it (by simp)
    have hl := rv.length
    have hn : its.toArray.size = i := by simp; omega
    have D := drawsK (prog := X.prog) (w := X.w) (A := X.A.in1) t (I.ok.hd hc) it a hia its.toArray
    refine wpAny_pyNext_enum_endD D he (by rw [hn]; exact ⟨hit, p⟩) fun h' eb => ⟨rfl, I.turned (t' := s.toks) (fun b o hb q => eb b o hb q) f0 f1 f3 f4 f5⟩
  self := fun A i s Q E st h => let ⟨⟨_, he⟩, _⟩ := st; wpAny_pyIter_enum he h
def iEnumK (K : PySem.W.Frag) (ta : TA) : TI := fun σ H R => ta σ H fun vs H1 => ∃ t a xs, vs = [.ref a] ∧ SqK K t H1 a xs ∧ R (IteK K t a) H1
theorem pi_enumK {X : Cx} {e : Expr} {ta : TA} {p pos tpos : Pos} {elts : List Expr} {kk : Nat} (hg : Gl X "enumerate") (hm : X.mg "enumerate" = none) (ha : PA X [e] ta) (hs : starEach [e] X.env = [(false, eval e X.env)]) :
    PI X (.Tuple elts kk tpos) (.Call (.Name "enumerate" p) [e] [] pos) (iEnumK X.K ta) := by
  refine ⟨fun pins s σ H R I h => ?_⟩
  refine PyProof.Rows.Call_ (ld_blt I hg hm PyProof.Rows.boot_enumerate (PyProof.Rows.callWith_type1 (thn (ha.run pos pins s σ H _ I h) fun us s1 ⟨vs, H1, I1, r1, q1⟩ => ?_) hs rfl))
  obtain ⟨t, a, xs, ex, hq, q⟩ := q1
  subst ex
  cases r1 with
  | cons r rr =>
    cases rr
    cases r
    obtain ⟨its, rv, p', hlt⟩ := isK_of I1 hq
    refine dw_enum_begins (begK t a its.toArray) p' fun h' he hit hsz hk => wpAny_pyIter_enum he ?_
    have I2 : Inv X pins σ H1 { s1 with heap := h' } := I1.kept (t' := s1.toks) hk
    refine ⟨s1.heap.objs.size + 1, [s1.heap.objs.size + 1, s1.heap.objs.size], _, _, H1, rfl, I2, turn_enumK a (s1.heap.objs.size + 1) s1.heap.objs.size (Nat.ne_of_gt (Nat.lt_succ_of_lt hlt)) (Nat.ne_of_lt hlt), ⟨⟨.none, he⟩, itk_new hit, Nat.succ_ne_self _⟩, fun b hb => ?_, q⟩
    have e' : b = s1.heap.objs.size + 1 ∨ b = s1.heap.objs.size := by simpa using hb
    have hle : s1.heap.objs.size ≤ b := by
      rcases e' with z | z
      · rw [z]; exact Nat.le_add_right _ _
      · rw [z]; exact Nat.le_refl _
    exact I1.fpOk hle (I1.hok.fresh hle)
/-! ### zip -/
def ItzK (K : PySem.W.Frag) (t u : Bool) (a b : Addr) : It :=
  ⟨fun i H => ∃ (xs ys : List V) (x y : V), SqK K t H a xs ∧ SqK K u H b ys ∧ xs[i]? = some x ∧ ys[i]? = some y,
    fun i H v H' => ∃ T x y, v = .ref T ∧ H T = none ∧ H' = upd H T (.tup [x, y]) ∧ (∀ xs, SqK K t H a xs → xs[i]? = some x) ∧ ∀ ys, SqK K u H b ys → ys[i]? = some y,
    fun i H => ∃ xs ys : List V, SqK K t H a xs ∧ SqK K u H b ys ∧ i ≤ xs.length ∧ i ≤ ys.length ∧ (i = xs.length ∨ i = ys.length)⟩
theorem turn_zipK {P : Program} {w : World} {K : PySem.W.Frag} {elts : List Expr} {kk : Nat} {tpos : Pos} {t u : Bool} {a b z TI TO i1 i2 : Addr} (D : ZipSep2 z TI TO i1 i2 [i1, a] [i2, b]) (na : a ≠ i1) (nb : b ≠ i2) :
    Turn P w K (.Tuple elts kk tpos) (ItzK K t u a b) [z, TI, TO, i1, i2] z (fun i h => IsZip h z TI TO .none ∧ IsTupOf2 h TI (.ref i1) (.ref i2) ∧ (∃ x y, IsTupOf2 h TO x y) ∧ ItK t h i1 a i ∧ ItK u h i2 b i) where
  mem := by simp
  obj := fun i h st c hc => by
    obtain ⟨hz, hTI, ⟨x, y, hTO⟩, h1, h2⟩ := st
    have e' : c = z ∨ c = TI ∨ c = TO ∨ c = i1 ∨ c = i2 := by simpa using hc
    rcases e' with q | q | q | q | q
    · rw [q]; exact ⟨_, hz, fun v q => nomatch q⟩
    · rw [q]; exact ⟨_, hTI, fun v q => nomatch q⟩
    · rw [q]; exact ⟨_, hTO, fun v q => nomatch q⟩
    · rw [q]; exact h1.obj
    · rw [q]; exact h2.obj
  keep := fun i h h' st k => by
    obtain ⟨hz, hTI, ⟨x, y, hTO⟩, h1, h2⟩ := st
    exact ⟨k z (by simp) _ hz, k TI (by simp) _ hTI, ⟨x, y, k TO (by simp) _ hTO⟩, h1.at fun o q => k i1 (by simp) o q, h2.at fun o q => k i2 (by simp) o q⟩
  item := by
    intro X hP hw hK hc i pins s σ H E I hf st hg
    subst hP hw hK
    obtain ⟨hz, hTI, ⟨x0, y0, hTO⟩, h1, h2⟩ := st
    obtain ⟨xs, ys, x, y, hqx, hqy, hx, hy⟩ := hg
    obtain ⟨its, rv, p, _⟩ := isK_of I hqx
    obtain ⟨its2, rv2, p2, _⟩ := isK_of I hqy
    obtain ⟨v1, hv1, r1⟩ := rv.get hx
    obtain ⟨v2, hv2, r2⟩ := rv2.get hy
    have hzl : z < s.heap.objs.size := Heap.lt_size hz
    have D1 := drawsK (prog := X.prog) (w := X.w) (A := X.A.in1) t (I.ok.hd hc) i1 a na its.toArray
    have D2 := drawsK (prog := X.prog) (w := X.w) (A := X.A.in1) u (I.ok.hd hc) i2 b nb its2.toArray
    have l1 : i < its.toArray.size := by simpa using (List.getElem?_eq_some_iff.mp hv1).1
    have l2 : i < its2.toArray.size := by simpa using (List.getElem?_eq_some_iff.mp hv2).1
    refine wpAny_pyNext_zipD2_item D D1 D2 hz hTI hTO ⟨h1, p⟩ ⟨h2, p2⟩ l1 l2 fun x1 x2 h' tk y1 y2 z' TO' s1' s2' hT hsz hk => ?_
    have e1 : x1 = v1 := by
      have e1 : its.toArray[i]? = some v1 := by simpa using hv1
      rw [e1] at y1
      exact (Option.some.inj y1).symm
    have e2 : x2 = v2 := by
      have e1 : its2.toArray[i]? = some v2 := by simpa using hv2
      rw [e1] at y2
      exact (Option.some.inj y2).symm
    subst e1 e2
    refine ⟨_, rfl, wpAny_letOwnedTupleGo_zip (s := { s with heap := h', toks := tk }) z' fun h'' z'' sb => ?_⟩
    have hT2 : h''.get? s.heap.objs.size = some { cls := .type "tuple", data := .seq #[x1, x2] } := (sb.2 _ (Nat.ne_of_gt hzl)).trans hT
    have new : ObjOk X.prog X.w (upd H s.heap.objs.size (.tup [x, y])) h'' s.heap.objs.size (.tup [x, y]) :=
      ⟨by show 2 ≤ sizeLine; decide, [x1, x2], .cons r1 (.cons r2 .nil), ⟨_, hT2, rfl, _, rfl⟩⟩
    have I1 : Inv X pins σ (upd H s.heap.objs.size (.tup [x, y])) { s with heap := h'', toks := tk } :=
      I.turnedNew (t' := tk) (ch := [z, TI, TO, i1, i2]) (fun c o hb q => (sb.2 c (fun q' => hb (by simp [q']))).trans (hk c o (fun q' => hb (by simp [q'])) (fun q' => hb (by simp [q'])) (fun q' => hb (by simp [q'])) (fun q' => hb (by simp [q'])) q)) hf (Nat.le_refl _) new
    refine ⟨.ref s.heap.objs.size, _, I1, rfl, ⟨_, x, y, rfl, I.hok.fresh (Nat.le_refl _), rfl, fun l hl => by rw [sqK_inj I hl hqx]; exact hx, fun l hl => by rw [sqK_inj I hl hqy]; exact hy⟩, ⟨z'', ?_, ⟨x1, x2, ?_⟩, ?_, ?_⟩, fun c hcm => ?_⟩
    · exact (sb.2 _ D.TIz).trans (hk _ _ D.TIz D.TITO D.TIi1 D.TIi2 hTI)
    · exact (sb.2 _ D.TOz).trans TO'
    · exact s1'.1.at fun o q => (sb.2 _ (Ne.symm D.zi1)).trans q
    · exact s2'.1.at fun o q => (sb.2 _ (Ne.symm D.zi2)).trans q
    · have hlt : c < s.heap.objs.size := by
        have e' : c = z ∨ c = TI ∨ c = TO ∨ c = i1 ∨ c = i2 := by simpa using hcm
        rcases e' with q | q | q | q | q
        · rw [q]; exact hzl
        · rw [q]; exact Heap.lt_size hTI
        · rw [q]; exact Heap.lt_size hTO
        · rw [q]; obtain ⟨_, e1, _⟩ := h1.obj; exact Heap.lt_size e1
        · rw [q]; obtain ⟨_, e2, _⟩ := h2.obj; exact Heap.lt_size e2
      rw [upd_ne (Nat.ne_of_lt hlt)]
      exact (hf c hcm).1
  done := by
    intro X hP hw hK hc i pins s σ H E I hf st hg
    subst hP hw hK
    obtain ⟨hz, hTI, ⟨x0, y0, hTO⟩, h1, h2⟩ := st
    obtain ⟨xs, ys, hqx, hqy, le1, le2, hend⟩ := hg
    obtain ⟨its, rv, p, _⟩ := isK_of I hqx
    obtain ⟨its2, rv2, p2, _⟩ := isK_of I hqy
    have l1 := rv.length
    have l2 := rv2.length
    have D1 := drawsK (prog := X.prog) (w := X.w) (A := X.A.in1) t (I.ok.hd hc) i1 a na its.toArray
    have D2 := drawsK (prog := X.prog) (w := X.w) (A := X.A.in1) u (I.ok.hd hc) i2 b nb its2.toArray
    exact wpAny_pyNext_zipD2_end D D1 D2 hz hTI hTO ⟨h1, p⟩ ⟨h2, p2⟩ (by simp; omega) (by simp; omega) (by simp; omega) fun h' tk hk => ⟨rfl, I.turnedL (t' := tk) (ch := [z, TI, TO, i1, i2]) (fun c o hb q =>
      hk c o (fun q' => hb (by simp [q'])) (fun q' => hb (by simp [q'])) (fun q' => hb (by simp [q'])) (fun q' => hb (by simp [q'])) q) hf⟩
  self := fun A i s Q E st h => wpAny_pyIter_zip st.1 h
def iZipK (K : PySem.W.Frag) (ta : TA) : TI := fun σ H R => ta σ H fun vs H1 => ∃ t u a b xs ys, vs = [.ref a, .ref b] ∧ SqK K t H1 a xs ∧ SqK K u H1 b ys ∧ R (ItzK K t u a b) H1
theorem pi_zipK {X : Cx} {e e2 : Expr} {ta : TA} {p pos tpos : Pos} {elts : List Expr} {kk : Nat} (hg : Gl X "zip") (hm : X.mg "zip" = none) (ha : PA X [e, e2] ta)
    (hs : starEach [e, e2] X.env = (false, eval e X.env) :: starEach [e2] X.env) (hpl : (backTo pos (starEach [e2] X.env)).any (·.1) = false) :
    PI X (.Tuple elts kk tpos) (.Call (.Name "zip" p) [e, e2] [] pos) (iZipK X.K ta) := by
  refine ⟨fun pins s σ H R I h => ?_⟩
  refine PyProof.Rows.Call_ (ld_blt I hg hm PyProof.Rows.boot_zip (PyProof.Rows.callWith_type1 (thn (ha.run pos pins s σ H _ I h) fun us s1 ⟨vs, H1, I1, r1, q1⟩ => ?_) hs hpl))
  obtain ⟨t, u, a, b, xs, ys, ex, hqx, hqy, q⟩ := q1
  subst ex
  cases r1 with
  | cons r rr =>
    cases rr with
    | cons r' rr =>
      cases rr
      cases r
      cases r'
      obtain ⟨its, rv, p1, la⟩ := isK_of I1 hqx
      obtain ⟨its2, rv2, p2, lb⟩ := isK_of I1 hqy
      refine zip_begins2 (begK t a its.toArray) (begK u b its2.toArray) p1 p2 fun h' hz hTI hTO h1 h2 hsz hk => wpAny_pyIter_zip hz ?_
      have I2 : Inv X pins σ H1 { s1 with heap := h' } := I1.kept (t' := s1.toks) hk
      have S : ZipSep2 (s1.heap.objs.size + 4) (s1.heap.objs.size + 2) (s1.heap.objs.size + 3) s1.heap.objs.size (s1.heap.objs.size + 1) [s1.heap.objs.size, a] [s1.heap.objs.size + 1, b] :=
        zip_sep2 (N := s1.heap.objs.size) (fp1 := [a]) (fp2 := [b]) (fun c hc => by
          have : c = a := by simpa using hc
          rw [this]; exact la) (fun c hc => by
          have : c = b := by simpa using hc
          rw [this]; exact lb)
      refine ⟨s1.heap.objs.size + 4, [s1.heap.objs.size + 4, s1.heap.objs.size + 2, s1.heap.objs.size + 3, s1.heap.objs.size, s1.heap.objs.size + 1], _, _, H1, rfl, I2, turn_zipK S (Nat.ne_of_lt la) (Nat.ne_of_lt (Nat.lt_succ_of_lt lb)), ⟨hz, hTI, ⟨_, _, hTO⟩, itk_new h1, itk_new h2⟩, fun c hcm => ?_, q⟩
      have e' : c = s1.heap.objs.size + 4 ∨ c = s1.heap.objs.size + 2 ∨ c = s1.heap.objs.size + 3 ∨ c = s1.heap.objs.size ∨ c = s1.heap.objs.size + 1 := by simpa using hcm
      have hle : s1.heap.objs.size ≤ c := by
        rcases e' with z | z | z | z | z
        · rw [z]; exact Nat.le_add_right _ _
        · rw [z]; exact Nat.le_add_right _ _
        · rw [z]; exact Nat.le_add_right _ _
        · rw [z]; exact Nat.le_refl _
        · rw [z]; exact Nat.le_add_right _ _
      exact I1.fpOk hle (I1.hok.fresh hle)
/-! ### what is walked, by its value -/
def iAny (K : PySem.W.Frag) (te : TE) : TI := fun σ H R => te σ H fun x H1 => (∃ a, x = .ref a ∧ (∃ xs, SqL K H1 a xs) ∧ R (Itl K a) H1) ∨ (∃ a, x = .ref a ∧ (∃ xs, SqT K H1 a xs) ∧ R (Itt K a) H1) ∨ ∃ z, x = .str z ∧ R (Its z) H1
theorem pi_any {X : Cx} {tg l : Expr} {tl : TE} (hl : PE X l tl) : PI X tg l (iAny X.K tl) := by
  refine ⟨fun pins s σ H R I h => ?_⟩
  refine thn (hl.run pins s σ H _ I h) fun v s1 ⟨x, H1, I1, r1, q1⟩ => ?_
  rcases q1 with ⟨a, e, ⟨xs, hq⟩, q⟩ | ⟨a, e, ⟨xs, hq⟩, q⟩ | ⟨z, e, q⟩
  · subst e
    cases r1
    obtain ⟨its, rv, p, hz⟩ := I1.list hq
    refine wpAny_pyIter_list p.isList ?_
    refine ⟨s1.heap.objs.size, [s1.heap.objs.size], _, _, H1, rfl, I1.kept (t' := s1.toks) fun b o e => Heap.get?_push_of_some _ e, turn_list a _, ⟨_, Heap.get?_push_size _ rfl, rfl, rfl⟩, fun b hb => ?_, q⟩
    have e : b = s1.heap.objs.size := by simpa using hb
    subst e
    exact I1.fpOk (Nat.le_refl _) (I1.hok.fresh (Nat.le_refl _))
  · subst e
    cases r1
    obtain ⟨its, rv, p, hz⟩ := I1.tuple hq
    refine wpAny_pyIter_tuple (show s1.heap.IsTuple a its.toArray from p) ?_
    refine ⟨s1.heap.objs.size, [s1.heap.objs.size], _, _, H1, rfl, I1.kept (t' := s1.toks) fun b o e => Heap.get?_push_of_some _ e, turn_tuple a _, ⟨_, Heap.get?_push_size _ rfl, rfl, rfl⟩, fun b hb => ?_, q⟩
    have e : b = s1.heap.objs.size := by simpa using hb
    subst e
    exact I1.fpOk (Nat.le_refl _) (I1.hok.fresh (Nat.le_refl _))
  · subst e
    obtain ⟨t, rfl⟩ := r1
    cases ha : z.cps.all (· < 128)
    · exact wpAny_pyIter_wide ha (pi_one (tk := s1.toks) I1 _ (turn_str _ z t "str_iterator" (.inr rfl)) ⟨_, Heap.get?_push_size _ rfl, rfl, rfl⟩ q)
    · exact wpAny_pyIter_ascii ha (pi_one (tk := s1.toks) I1 _ (turn_str _ z t "str_ascii_iterator" (.inl rfl)) ⟨_, Heap.get?_push_size _ rfl, rfl, rfl⟩ q)
end Dw

namespace Dw
open PySem PySem.Spec PyProof.Rows L2 PySem.Froz
/-- a set's table can be walked -/
def Wlk (w : World) (D : SD) : Prop := Ris D.2.2.place.toList ∧ (w.params.followText "set-order" = true ∨ D.2.2.led = true)
theorem wlk_tail {w : World} {ep : Nat} {es : Array (Int × Value)} {tb : SetTable} {wd : Bool} (r : Ris tb.place.toList) (z : w.params.followText "set-order" = true ∨ tb.led = true) : Wlk w (tailTx ep es tb wd) := by
  unfold tailTx Wlk
  split
  · exact ⟨relayAll_ris _ _ _, z.imp id fun q => (relayAll_led _ _ _).trans q⟩
  · exact ⟨r, z⟩
theorem wlk_add {w : World} {h : Int} {v : Value} {D : SD} (k : Wlk w D) : Wlk w (addTx h v D) := by
  unfold addTx
  have e1 := layNew_ris D.2.2 D.1 h v k.1
  have e2 := layNew_led D.2.2 D.1 h v
  refine wlk_tail ?_ ?_
  · split <;> exact e1
  · split <;> exact k.2.imp id fun q => e2.trans q
/-- the texts met, each once, the last first -/
def metF (l : List Str) (k : Str) : List Str := if k ∈ l then l else k :: l
def metS (xs : List Str) : List Str := xs.foldl metF []
theorem metF_len (l : List Str) (k : Str) : (metF l k).length ≤ l.length + 1 := by unfold metF; split <;> simp
theorem metG_len : ∀ (xs l : List Str), (xs.foldl metF l).length ≤ l.length + xs.length
  | [], l => by simp
  | x :: xs, l => by
    have h1 := metF_len l x
    have h2 := metG_len xs (metF l x)
    simp only [List.foldl_cons, List.length_cons]
    omega
theorem metS_len (xs : List Str) : (metS xs).length ≤ xs.length := by simpa [metS] using metG_len xs []
theorem metF_mem (l : List Str) (k x : Str) : x ∈ metF l k ↔ x ∈ l ∨ x = k := by
  unfold metF
  split
  · exact ⟨.inl, fun h => h.elim id fun e => e ▸ ‹_›⟩
  · simp [or_comm]
theorem metG_mem : ∀ (xs l : List Str) (x : Str), x ∈ xs.foldl metF l ↔ x ∈ l ∨ x ∈ xs
  | [], l, x => by simp
  | y :: xs, l, x => by rw [List.foldl_cons, metG_mem xs, metF_mem, List.mem_cons, or_assoc]
theorem metS_mem (xs : List Str) (x : Str) : x ∈ metS xs ↔ x ∈ xs := by simp [metS, metG_mem]
theorem metF_nd {l : List Str} (h : l.Nodup) (k : Str) : (metF l k).Nodup := by
  unfold metF
  split
  · exact h
  · exact List.nodup_cons.mpr ⟨‹_›, h⟩
theorem metG_nd : ∀ (xs : List Str) {l : List Str}, l.Nodup → (xs.foldl metF l).Nodup
  | [], _, h => h
  | y :: xs, _, h => metG_nd xs (metF_nd h y)
theorem metS_nd (xs : List Str) : (metS xs).Nodup := metG_nd xs .nil
section
variable {P : Program} {w : World} {A : Around} {E : Value → Shared → Prop} {s : Shared}
/-- a text that is there is added -/
theorem add_old {a : Addr} {D : SD} {l : List Str} {k : Str} {u : Tok} {Q : Bool → Shared → Prop} (ho : s.heap.get? a = some (sObj "set" D)) (F : TxOk P w D l) (hk : k ∈ l) (hb : l.length < scanBound) (h : Q false s) :
    wpAny (model P w) A (setAddHashed a (.str k u) (hashStr w k)) Q E s := by
  obtain ⟨es, ep, tb⟩ := D
  have fit : tb.fits es.size = true := F.fit
  have els : ElemsOf (strKind P w) es.toList := F.el
  have n0 : es.size < scanBound := by have : es.size = l.length := F.sz; omega
  have dat : (sObj "set" (es, ep, tb)).data = .set es ep tb := rfl
  unfold setAddHashed setAddHashedIn
  refine wpAny_holding (wpAny_bind (wpAny_setState_of ho dat fit ?_))
  dsimp only
  rw [byScan_of (x := Value.str k u) rfl n0 els]
  simp only [↓reduceIte]
  unfold setAddByScan
  refine wpAny_bind (wpAny_bind (wpAny_rule ?_))
  refine wpAny_bind (wpAny_setScan_of (knd := strKind P w) (k := k) (is_str k u) ho dat fit els ?_)
  cases q : List.findIdx? (fun e => (strKind P w).is k e.2) es.toList with
  | some j => exact wpAny_pure (wpAny_pure h)
  | none =>
    obtain ⟨e, he, z⟩ := (F.mem k).mp hk
    have := List.findIdx?_eq_none_iff.mp q e he
    rw [z] at this
    cases this
theorem setAdd_text {a : Addr} {D : SD} {l : List Str} {k : Str} {u : Tok} {Q : Bool → Shared → Prop} (ho : s.heap.get? a = some (sObj "set" D)) (F : TxOk P w D l) (wk : Wlk w D) (hb : l.length + 1 < scanBound)
    (h : ∀ h' D' b, h'.get? a = some (sObj "set" D') → (∀ c o, c ≠ a → s.heap.get? c = some o → h'.get? c = some o) → TxOk P w D' (metF l k) → Wlk w D' → Q b { s with heap := h', toks := s.toks + 1 }) :
    wpAny (model P w) A (setAdd a (.str k u)) Q E s := by
  unfold setAdd
  refine wpAny_holding (wpAny_bind ((strKind P w).pyHash (k := k) (is_str k u) ?_))
  by_cases hk : k ∈ l
  · refine add_old (s := { s with toks := s.toks + 1 }) ho F hk (by omega) ?_
    exact h s.heap D false ho (fun _ _ _ e => e) (by unfold metF; rw [if_pos hk]; exact F) wk
  · refine add_x (s := { s with toks := s.toks + 1 }) ho F hk hb ?_
    refine h _ (addTx (hashStr w k) (.str k u) D) true (get_upd _ ho rfl) (fun c o hc e => (Heap.get?_update_other _ _ (Ne.symm hc)).trans e) (by unfold metF; rw [if_neg hk]; exact add_ok u F) (wlk_add wk)
/-- the texts of a walk are put into the set -/
theorem fill_loop {I : Addr} {fp wr : List Addr} {G : Array GenState → Array GenState → Prop} {n : Nat} {Pv : Nat → Value → Prop} {St : Nat → Shared → Prop} {R : Result → Shared → Prop} {S : Addr} {xs : List Str}
    (W : WalksS P w A.in1 I fp wr G n Pv St) (out : S ∉ fp) (en : n = xs.length) (hb : xs.length + 1 < scanBound) (hv : ∀ i v, Pv i v → ∃ k u, xs[i]? = some k ∧ v = .str k u) (m : Nat) :
    ∀ (i : Nat) (s : Shared) (D : SD), n = i + m → St i s → s.heap.get? S = some (sObj "set" D) → TxOk P w D (metS (xs.take i)) → Wlk w D →
      (∀ s' D', Moved (S :: wr) G s s' → s'.heap.get? S = some (sObj "set" D') → TxOk P w D' (metS xs) → Wlk w D' → R (.ok (.ret .none)) s') →
      codeAny (model P w) A (.builtin "set.update.loop" ⟨[.ref S, .ref I], []⟩) R s := by
  have notW : S ∉ wr := fun z => out (W.sub _ z)
  have more : ∀ c ∈ wr, c ∈ S :: wr := fun c hc => List.mem_cons_of_mem _ hc
  induction m with
  | zero =>
    intro i s D hi st ho T0 wk hR
    refine codeAny_builtin F.entry_set_update_loop ?_
    rw [Around.under_plainId F.plain_set_update_loop _]
    show wpAny _ A.in1 (pyNext (.ref I) >>= _) _ _ s
    have ei : i = n := by omega
    subst ei
    refine wpAny_bind (W.done s _ _ st fun s' mv => ?_)
    have e : xs.take i = xs := List.take_of_length_le (by omega)
    rw [e] at T0
    exact wpAny_pure (hR s' D (mv.mono more) (mv.heap S _ notW ho) T0 wk)
  | succ m ih =>
    intro i s D hi st ho T0 wk hR
    refine codeAny_builtin F.entry_set_update_loop ?_
    rw [Around.under_plainId F.plain_set_update_loop _]
    show wpAny _ A.in1 (pyNext (.ref I) >>= _) _ _ s
    refine wpAny_bind (W.item i s _ _ (by omega) st fun v s' pv st' mv => ?_)
    obtain ⟨k, u, ek, rfl⟩ := hv i v pv
    have ho' := mv.heap S _ notW ho
    have lm := metS_len (xs.take i)
    rw [List.length_take] at lm
    refine wpAny_bind (wpAny_holding (setAdd_text ho' T0 wk (by omega) fun h' D' b hD kp F' wk' => ?_))
    have em : metF (metS (xs.take i)) k = metS (xs.take (i + 1)) := by
      unfold metS
      rw [List.take_add_one, ek, List.foldl_append]
      rfl
    rw [em] at F'
    refine wpAny_pure ⟨plainId_quiet F.plain_set_update_loop _, ih (i + 1) _ D' (by omega) ?_ hD F' wk' fun s2 D2 mv2 ho2 F2 wk2 => ?_⟩
    · exact W.frame _ s' _ _ st' (Nat.le_succ _) fun c hc o e => kp c o (fun z => out (z ▸ hc)) e
    · refine hR s2 D2 (Moved.trans W.gtrans ((mv.mono more).then_heap (Nat.le_succ _) fun c o hc e => ?_) mv2) ho2 F2 wk2
      exact kp c o (fun z => hc (z ▸ List.mem_cons_self)) e

abbrev newSet (w : World) : Obj := sObj "set" (#[], 0, .fresh 0 0 (!w.params.followText "set-order"))
theorem wlk_new (w : World) : Wlk w (#[], 0, .fresh 0 0 (!w.params.followText "set-order")) := by
  refine ⟨List.Pairwise.nil, ?_⟩
  show _ ∨ (!w.params.followText "set-order") = true
  cases w.params.followText "set-order"
  · exact .inr rfl
  · exact .inl rfl
theorem strs_get : ∀ {us : List Value} {xs : List Str}, StrsAre us xs → ∀ (i : Nat) (v : Value), us[i]? = some v → ∃ k u, xs[i]? = some k ∧ v = .str k u := fun h i v hv => by
  obtain ⟨y, u, e1, e2⟩ := StrsAre.item h i v hv
  exact ⟨y, u, e2, e1⟩
/-- set(l), l a list of texts -/
theorem call_setS {l : Addr} {its : Array Value} {xs : List Str} {Q : Value → Shared → Prop} (hd : A.handled = none) (il : s.heap.IsList l its) (ix : StrsAre its.toList xs) (few : xs.length + 1 < scanBound)
    (q : ∀ (h' : Heap) (tk : Nat) (D : SD), h'.get? s.heap.objs.size = some (sObj "set" D) → TxOk P w D (metS xs) → Wlk w D → (∀ c o, s.heap.get? c = some o → h'.get? c = some o) → Q (.ref s.heap.objs.size) { s with heap := h', toks := tk }) :
    wpAny (model P w) A (call (.type "set") [.ref l]) Q E s := by
  have len : its.size = xs.length := by rw [← Array.length_toList, StrsAre.len_eq ix]
  have ⟨k1, k2, mro⟩ := F.called_set.mro
  have f1 := F.called_set.made
  have f2 := F.called_set.sub
  have f3 := F.called_set.notType
  have f4 := F.called_set.canCreate
  have f5 := F.typeCall_set_1 (.ref l)
  refine wpAny_call (codeAny_of_tree (show wpAny _ _ (callAny (.type "set") _) _ _ _ from wpAny_pure ⟨Code.quiet_builtin _ (by decide +kernel), codeAny_builtin F.entry_type_call ?_⟩))
  rw [Around.under_plain (weight_type_call_type "set" [.ref l] []) rfl]
  repeat (any_goals (first | assumption | wp_step))
  generalize e0 : s.heap.push (newSet w) = h0
  have g0 : h0.get? s.heap.objs.size = some (newSet w) := by rw [← e0]; exact Heap.get?_push_size _ rfl
  have g1 : ∀ c o, s.heap.get? c = some o → h0.get? c = some o := fun c o z => by rw [← e0]; exact Heap.get?_push_of_some _ z
  have z0 : h0.objs.size = s.heap.objs.size + 1 := by rw [← e0]; exact Heap.size_push ..
  refine codeAny_mono (code_set_led1 (.ref l) (E := E) (Q₁ := fun v s1 => v = .ref s.heap.objs.size ∧ s1 = { s with heap := h0 }) ⟨rfl, by rw [← e0] <;> rfl⟩) fun r s1 hr => ?_
  rcases r with e | fl
  · exact hr
  · cases fl with
    | ret v =>
      obtain ⟨rfl, rfl⟩ := hr
      have ty : Shared.TypeIs { s with heap := h0 } (.ref s.heap.objs.size) "set" := ⟨_, g0, rfl⟩
      have f6 := F.called_set.init.lookup
      have f7 := F.called_set.init.bind (.ref s.heap.objs.size)
      repeat (any_goals (first | assumption | wp_step))
      refine codeAny_mono (codeAny_call_builtin (R := wants (fun v s2 => v = .none ∧ ∃ h' tk D, s2 = { s with heap := h', toks := tk } ∧ h'.get? s.heap.objs.size = some (sObj "set" D) ∧ TxOk P w D (metS xs) ∧ Wlk w D ∧ ∀ c o, s.heap.get? c = some o → h'.get? c = some o) E)
        F.called_set.init.plain F.entry_set_init (check_set_init_1 ty ?_)) fun r2 s2 hr2 => ?_
      · have ⟨ob, go, c1, nl, d1⟩ := il
        have f8 := F.sub_list_set
        have f9 := F.sub_list_frozenset
        have nd : (Value.type "list" == Value.type "dict") = false := by decide
        have go1 := g1 _ _ go
        have il1 : h0.IsList l its := ⟨ob, go1, c1, nl, d1⟩
        obtain ⟨oc, od, oda, osl⟩ := ob
        dsimp only at c1 d1
        subst c1 d1
        unfold Builtin.«set.__init__» noKeywords Builtin.Frozenset.updateFrom
        generalize eP : pyIter = pI
        wp_walk
        subst eP
        refine wpAny_pyIter_list il1 (wpAny_bind (wpAny_runValue ?_))
        have ls : l < s.heap.objs.size := Heap.lt_size go
        have ne1 : l ≠ h0.objs.size := fun z => by have z1 := z0; rw [← z] at z1; exact absurd ls (by rw [z1]; exact Nat.not_lt_of_le (Nat.le_succ _))
        refine fill_loop ((Walks.list (by simp [hd]) _ l ne1 its).toS) (by simp only [List.mem_cons, List.not_mem_nil, or_false, not_or]; exact ⟨by rw [z0]; exact Nat.ne_of_lt (Nat.lt_succ_self _), Nat.ne_of_gt ls⟩) len few (fun i v hv => strs_get ix i v (by rw [Array.getElem?_toList]; exact hv)) its.size 0 _ (#[], 0, .fresh 0 0 (!w.params.followText "set-order")) (by omega)
          ⟨⟨_, Heap.get?_push_size _ rfl, rfl, rfl⟩, il1.push _⟩ (Heap.get?_push_of_some _ g0) (TxOk.nil rfl) (wlk_new w) fun s3 D mv go3 t3 w3 => ?_
        obtain ⟨hp, gn, dr, tk, os⟩ := s3
        have e1 : gn = s.gens := mv.gens
        have e2 : dr = s.drawn := mv.drawn
        have e3 : os = s.os := mv.os
        subst e1 e2 e3
        show wpAny _ _ _ _ _ _
        refine wpAny_pure ?_
        show wpAny _ _ (ret Value.none) _ _ _
        refine wpAny_pure ⟨rfl, hp, tk, D, rfl, go3, t3, w3, fun c o z => ?_⟩
        have lc := Heap.lt_size z
        exact mv.heap c o (by simp only [List.mem_cons, List.not_mem_nil, or_false, not_or]; exact ⟨Nat.ne_of_lt lc, by rw [z0]; exact Nat.ne_of_lt (Nat.lt_succ_of_lt lc)⟩) (Heap.get?_push_of_some _ (g1 c o z))
      · rcases r2 with e | fl2
        · exact hr2
        · cases fl2 with
          | ret v =>
            obtain ⟨rfl, h', tk, D, rfl, a1, a2, a3, a4⟩ := hr2
            repeat (any_goals (first | assumption | wp_step))
            exact q h' tk D a1 a2 a3 a4
          | _ => exact hr2.elim
    | _ => exact hr.elim

theorem perm_same : ∀ {l m : List Str}, l.Nodup → (∀ x ∈ l, x ∈ m) → m.length ≤ l.length → m.Perm l
  | [], m, _, _, h => by
    have : m = [] := List.eq_nil_of_length_eq_zero (by simpa using h)
    rw [this]
  | x :: l, m, nd, hs, h => by
    obtain ⟨n1, n2⟩ := List.nodup_cons.mp nd
    have hx := hs x List.mem_cons_self
    have p := List.perm_cons_erase hx
    have le := p.length_eq
    simp only [List.length_cons] at le h
    refine p.trans (.cons x (perm_same n2 (fun y hy => ?_) (by omega)))
    rcases List.mem_cons.mp (p.mem_iff.mp (hs y (List.mem_cons_of_mem _ hy))) with z | z
    · exact absurd (z ▸ hy) n1
    · exact z
theorem strs_exist : ∀ (us : List Value), (∀ v ∈ us, ∃ k u, v = Value.str k u) → ∃ xs, StrsAre us xs
  | [], _ => ⟨[], .nil⟩
  | v :: us, h => by
    obtain ⟨k, u, rfl⟩ := h v List.mem_cons_self
    obtain ⟨xs, r⟩ := strs_exist us fun y hy => h y (List.mem_cons_of_mem _ hy)
    exact ⟨k :: xs, .cons k u r⟩
theorem strs_mem {us : List Value} {xs : List Str} (h : StrsAre us xs) (k : Str) : k ∈ xs ↔ ∃ u, Value.str k u ∈ us := by
  induction h with
  | nil => simp
  | cons y t r ih =>
    simp only [List.mem_cons, ih]
    constructor
    · rintro (rfl | ⟨u, hu⟩)
      · exact ⟨t, .inl rfl⟩
      · exact ⟨u, .inr hu⟩
    · rintro ⟨u, hu | hu⟩
      · injection hu with e1 e2
        exact .inl e1
      · exact .inr ⟨u, hu⟩
/-- sorted(s), s a set of texts -/
theorem sorted_setS {a : Addr} {D : SD} {l : List Str} {Q : Value → Shared → Prop} (ho : s.heap.get? a = some (sObj "set" D)) (T0 : TxOk P w D l) (nd : l.Nodup) (wk : Wlk w D) (hd : A.handled = none) (few : l.length < scanBound)
    (q : ∀ s' p (out : Array Value) (c : Nat) (ys : List Str), (∀ b o, s.heap.get? b = some o → s'.heap.get? b = some o) → s'.gens = s.gens → s'.os = s.os → s.heap.objs.size ≤ p → s'.heap.get? p = some (seqObj "list" out c) →
      StrsAre out.toList ys → ys.Perm l → sortedS ys = true → Q (.ref p) s') : wpAny (model P w) A (call (.builtin "sorted") [.ref a]) Q E s := by
  have sz : D.1.size = l.length := T0.sz
  refine Calls.call_function_entry kind_sorted plain_sorted entry_sorted (args_sorted1 _) ?_
  unfold Builtin.«sorted»
  refine wpAny_bind (m := checkCount "sorted" 1 1 _) (wpAny_pure (wpAny_bind ?_))
  refine collect_set (A := A.in1) hd (es := D.1) (ep := D.2.1) (t := D.2.2) ⟨_, ho, rfl, rfl⟩ T0.fit (by omega) wk.1 wk.2 fun s1 us kp z1 g1 o1 pm => ?_
  obtain ⟨xs, ix⟩ := strs_exist us fun v hv => by
    obtain ⟨e, he, rfl⟩ := List.mem_map.mp (pm.mem_iff.mp hv)
    obtain ⟨k, hk, _⟩ := (T0.el e he).1
    exact ⟨k, Value.isStrOf_shape hk⟩
  have lx : xs.length = l.length := by rw [← StrsAre.len_eq ix, pm.length_eq, List.length_map, Array.length_toList, sz]
  have px : xs.Perm l := perm_same nd (fun k hk => by
    obtain ⟨e, he, hq⟩ := (T0.mem k).mp hk
    obtain ⟨u, eu⟩ := Value.isStrOf_shape hq
    exact (strs_mem ix k).mpr ⟨u, pm.mem_iff.mpr (List.mem_map.mpr ⟨e, he, eu⟩)⟩) (Nat.le_of_eq lx)
  have lu : us.length ≤ sizeLine := by rw [StrsAre.len_eq ix, lx]; exact fits_of_scanBound few
  refine wpAny_bind (wpAny_newList ?_ lu)
  have new : (s1.heap.push (seqObj "list" us.toArray 0)).get? s1.heap.objs.size = some (seqObj "list" us.toArray 0) := Heap.get?_push_size _ rfl
  refine wpAny_bind (wpAny_holding (wpAny_call_entry slot_list_sort ⟨_, new, rfl⟩ entry_list_sort (list_sort_treeKAny strKind_oneLt new ix.keysOf (fun v1 v2 r e => keyKind_strs (by rw [← e]; exact ix)) lu fun st hp hs => ?_) (args_list_sort _)))
  obtain ⟨ys, y1, y2, y3⟩ := sorted_out_str ix hp hs
  refine ⟨_, rfl, ?_⟩
  obtain ⟨c, hc⟩ := sortedHeap_at (vs := us) (out := (arrOf st).map (·.2)) new
  refine wpAny_pure ⟨_, rfl, q _ s1.heap.objs.size _ c ys (fun b u e => ?_) g1 o1 z1 hc y1 (y2.trans px) y3⟩
  have e2 := kp b u e
  have lt := Heap.lt_size e2
  show (sortedHeap (s1.heap.push (seqObj "list" us.toArray 0)) s1.heap.objs.size us _).get? b = some u
  rw [sortedHeap_old (Nat.ne_of_lt lt) (by rw [size_push']; exact Nat.lt_succ_of_lt lt)]
  exact Heap.get?_push_of_some _ e2
end
/-! ### len(set(xs)), sorted(set(xs)) -/
def metG (l : List Int) (k : Int) : List Int := if k ∈ l then l else k :: l
def metZ (ns : List Int) : List Int := ns.foldl metG []
theorem metZ_step : ∀ (ns l m : List Int), l.length = m.length → (∀ k, k ∈ l ↔ k ∈ m) → (ns.foldl step_dedup l).length = (ns.foldl metG m).length ∧ ∀ k, k ∈ ns.foldl step_dedup l ↔ k ∈ ns.foldl metG m
  | [], l, m, h, e => ⟨h, e⟩
  | n :: ns, l, m, h, e => by
    have q : (l.any (· == n)) = decide (n ∈ m) := by
      rw [Bool.eq_iff_iff, List.any_eq_true, decide_eq_true_eq, ← e n]
      simp
    refine metZ_step ns (step_dedup l n) (metG m n) ?_ fun k => ?_
    · unfold step_dedup metG
      rw [q]
      by_cases c : n ∈ m <;> simp [c, h]
    · unfold step_dedup metG
      rw [q]
      by_cases c : n ∈ m <;> simp [c, e, or_comm]
theorem metZ_met (ns : List Int) (i : Nat) (h : i = ns.length) : (firstMet (fun j => ns.getD j 0) i).length = (metZ ns).length := by
  unfold firstMet metZ
  have e : (List.range i).map (fun j => ns.getD j 0) = ns := by
    apply List.ext_getElem
    · simp [h]
    · intro j h1 h2
      simp [h2]
  rw [e]
  exact (metZ_step ns [] [] rfl fun _ => Iff.rfl).1
theorem metZg_len : ∀ (ns l : List Int), (ns.foldl metG l).length ≤ l.length + ns.length
  | [], l => by simp
  | n :: ns, l => by
    have h1 : (metG l n).length ≤ l.length + 1 := by unfold metG; split <;> simp
    have h2 := metZg_len ns (metG l n)
    simp only [List.foldl_cons, List.length_cons]
    omega
theorem metZ_len (ns : List Int) : (metZ ns).length ≤ ns.length := by simpa [metZ] using metZg_len ns []
theorem metZg_mem : ∀ (ns l : List Int) (x : Int), x ∈ ns.foldl metG l ↔ x ∈ l ∨ x ∈ ns
  | [], l, x => by simp
  | n :: ns, l, x => by
    rw [List.foldl_cons, metZg_mem ns, List.mem_cons]
    unfold metG
    by_cases c : n ∈ l
    · rw [if_pos c]
      exact ⟨fun h => h.elim .inl fun z => .inr (.inr z), fun h => h.elim .inl fun z => z.elim (fun e => .inl (e ▸ c)) .inr⟩
    · rw [if_neg c, List.mem_cons]
      exact ⟨fun h => h.elim (fun z => z.elim (fun e => .inr (.inl e)) .inl) fun z => .inr (.inr z), fun h => h.elim (fun z => .inl (.inr z)) fun z => z.elim (fun e => .inl (.inl e)) .inr⟩
theorem metZ_mem (ns : List Int) (x : Int) : x ∈ metZ ns ↔ x ∈ ns := by simp [metZ, metZg_mem]
theorem metZg_nd : ∀ (ns : List Int) {l : List Int}, l.Nodup → (ns.foldl metG l).Nodup
  | [], _, h => h
  | n :: ns, l, h => metZg_nd ns (by
      unfold metG
      split
      · exact h
      · exact List.nodup_cons.mpr ⟨‹_›, h⟩)
theorem metZ_nd (ns : List Int) : (metZ ns).Nodup := metZg_nd ns .nil
def tLenS (K : PySem.W.Frag) (ta : TE) : TE := fun σ H Q => ta σ H fun x H1 => ∃ (l : Addr), x = V.ref l ∧ ((∃ xs : List Str, SqL K H1 l (xs.map V.str) ∧ xs.length ≤ 4000 ∧ Q (.int (metS xs).length) H1) ∨ ∃ ns : List Int, SqL K H1 l (ns.map V.int) ∧ ns.length ≤ 4000 ∧ Q (.int (metZ ns).length) H1)
def tSortS (K : PySem.W.Frag) (ta : TE) : TE := fun σ H Q => ta σ H fun x H1 => ∃ (l : Addr), x = V.ref l ∧ ((∃ xs : List Str, SqL K H1 l (xs.map V.str) ∧ xs.length ≤ 4000 ∧
  ∀ (ys : List Str) (p : Addr), ys.Perm (metS xs) → sortedS ys = true → H1 p = none → Q (.ref p) (upd H1 p (.lst (ys.map V.str)))) ∨ ∃ ns : List Int, SqT K H1 l (ns.map V.int) ∧ ns.length < 64 ∧
  ∀ (ms : List Int) (p : Addr), ms.Pairwise (· < ·) → (∀ k, k ∈ ms ↔ k ∈ ns) → H1 p = none → Q (.ref p) (upd H1 p (.lst (ms.map V.int))))
theorem strs_vals : ∀ {us : List Value} {xs : List Str}, StrsAre us xs → Vals (xs.map V.str) us
  | _, _, .nil => .nil
  | _, _, .cons y t r => .cons ⟨t, rfl⟩ (strs_vals r)
theorem vals_strs : ∀ {xs : List Str} {us : List Value}, Vals (xs.map V.str) us → StrsAre us xs
  | [], _, .nil => .nil
  | _ :: _, _, .cons ⟨t, e⟩ r => by subst e; exact .cons _ t (vals_strs r)
section
variable {X : Cx} {a : Expr} {ta : TE} {p p2 q pos : Pos}
theorem pe_lenS (hc : X.calm = true) (hg : Gl X "len") (hm : X.mg "len" = none) (hg2 : Gl X "set") (hm2 : X.mg "set" = none) (ha : PE X a ta)
    (na : starEach [a] X.env = (false, eval a X.env) :: starEach [] X.env) : PE X (.Call (.Name "len" p) [.Call (.Name "set" p2) [a] [] q] [] pos) (tLenS X.K ta) := by
  refine ⟨fun pins s σ H Q I h => Call_ (ld_blt I hg hm boot_len (PyProof.Rows.callWith_builtin1 (PyProof.Rows.args_cons (Call_ (ld_blt I hg2 hm2 boot_set ?_)) rfl) rfl rfl))⟩
  refine PyProof.Rows.callWith_type1 (PyProof.Rows.args_cons (thn (ha.run pins s σ H _ I h) fun v s1 ⟨x, H1, J, r, g⟩ => PyProof.Rows.args_nil ?_) na) na rfl
  obtain ⟨l, rfl, ⟨xs, hl, few, g⟩ | ⟨ns, hl, few, g⟩⟩ := g
  case inr =>
    cases r
    obtain ⟨its, rv, pl, _⟩ := J.list hl
    have sz : its.toArray.size = ns.length := by rw [List.size_toArray, ← rv.length, List.length_map]
    refine call_set_list (ns := ns) (J.ok.hd hc) pl.isList (by simpa using rv.ints) (by rw [sz]; unfold scanBound; omega) fun h' tk hS kp => PyProof.Rows.args_nil ?_
    obtain ⟨ob, es, ep, tb, h1, h2, h3, _, _, h4, h5, h6⟩ := hS
    have J2 : Inv X pins σ H1 { s1 with heap := h', toks := tk } := J.kept fun b u e => kp b u (Heap.lt_size e) e
    rw [metZ_met ns _ sz] at h6
    exact call_len_set h1 h2 h3 h5 (by have := metZ_len ns; rw [h6] <;> omega) ⟨.int (metZ ns).length, H1, J2.tok _, ⟨_, by rw [h6]⟩, g⟩
  cases r
  obtain ⟨its, rv, pl, _⟩ := J.list hl
  refine call_setS (J.ok.hd hc) pl.isList (by simpa using vals_strs rv) (by unfold scanBound; omega) fun h' tk D hD T0 _ kp => PyProof.Rows.args_nil ?_
  have J2 : Inv X pins σ H1 { s1 with heap := h', toks := tk } := J.kept kp
  have ml := metS_len xs
  have sz : D.1.size = (metS xs).length := T0.sz
  exact call_len_set hD ⟨rfl, rfl, rfl⟩ rfl T0.fit (by rw [sz] <;> omega) ⟨.int (metS xs).length, H1, J2.tok _, ⟨_, by rw [sz]⟩, g⟩
theorem pe_sortS (hc : X.calm = true) (hg : Gl X "sorted") (hm : X.mg "sorted" = none) (hg2 : Gl X "set") (hm2 : X.mg "set" = none) (ha : PE X a ta)
    (na : starEach [a] X.env = (false, eval a X.env) :: starEach [] X.env) : PE X (.Call (.Name "sorted" p) [.Call (.Name "set" p2) [a] [] q] [] pos) (tSortS X.K ta) := by
  refine ⟨fun pins s σ H Q I h => Call_ (ld_blt I hg hm boot_sorted (PyProof.Rows.callWith_builtin1 (PyProof.Rows.args_cons (Call_ (ld_blt I hg2 hm2 boot_set ?_)) rfl) rfl rfl))⟩
  refine PyProof.Rows.callWith_type1 (PyProof.Rows.args_cons (thn (ha.run pins s σ H _ I h) fun v s1 ⟨x, H1, J, r, g⟩ => PyProof.Rows.args_nil ?_) na) na rfl
  obtain ⟨l, rfl, ⟨xs, hl, few, g⟩ | ⟨ns, hl, few, g⟩⟩ := g
  case inr =>
    cases r
    obtain ⟨its, rv, pl, _⟩ := J.tuple hl
    refine call_set_tupI ns (J.ok.hd hc) pl (by simpa using rv.ints) (by unfold scanBound; omega) fun h' tk c hS hcl kp => PyProof.Rows.args_nil ?_
    have J2 : Inv X pins σ H1 { s1 with heap := h', toks := tk } := J.kept kp
    refine L2.sorted_set (s := { s1 with heap := h', toks := tk }) hS (J2.ok.hd hc) (by omega) fun s2 b out c2 ms k2 g2 o2 hb hg3 im pm em lm => ?_
    have hn : H1 b = none := J2.hok.fresh hb
    have hlen : (ms.map V.int).length ≤ sizeLine := by rw [List.length_map, sizeLine_eq]; omega
    obtain ⟨hp2, gn2, dr2, tk2, os2⟩ := s2
    dsimp only at g2 o2 k2 hg3
    subst g2 o2
    have k3 : ∀ b u, s1.heap.get? b = some u → hp2.get? b = some u := fun b u e => k2 b u (kp b u e)
    have hb3 : s1.heap.objs.size ≤ b := Nat.le_trans (Nat.le_of_lt hS.lt) hb
    have J3 : Inv X pins σ (upd H1 b (.lst (ms.map V.int))) { heap := hp2, gens := s1.gens, drawn := dr2, toks := tk2, os := s1.os } :=
      J.call (ch := []) (Un.laid k3 hb3 hn) (J.hok.laid k3 hb3 ⟨hlen, out.toList, c2, vals_of_ints im, hg3⟩) J.bare (fun _ z => nomatch z)
    exact ⟨.ref b, _, J3, rfl, g ms b pm (fun k => by rw [em k, decide_eq_true_eq]) hn⟩
  cases r
  obtain ⟨its, rv, pl, _⟩ := J.list hl
  refine call_setS (J.ok.hd hc) pl.isList (by simpa using vals_strs rv) (by unfold scanBound; omega) fun h' tk D hD T0 wk kp => PyProof.Rows.args_nil ?_
  have J2 : Inv X pins σ H1 { s1 with heap := h', toks := tk } := J.kept kp
  have ml := metS_len xs
  refine sorted_setS (s := { s1 with heap := h', toks := tk }) hD T0 (metS_nd xs) wk (J2.ok.hd hc) (by unfold scanBound; omega) fun s2 b out c ys k2 g2 o2 hb hg3 iy py sy => ?_
  have hn : H1 b = none := J2.hok.fresh hb
  have hlen : (ys.map V.str).length ≤ sizeLine := by rw [List.length_map, py.length_eq, sizeLine_eq]; omega
  obtain ⟨hp2, gn2, dr2, tk2, os2⟩ := s2
  dsimp only at g2 o2 k2 hg3
  subst g2 o2
  have k3 : ∀ b u, s1.heap.get? b = some u → hp2.get? b = some u := fun b u e => k2 b u (kp b u e)
  have hb3 : s1.heap.objs.size ≤ b := Nat.le_trans (Nat.le_of_lt (Heap.lt_size hD)) hb
  have J3 : Inv X pins σ (upd H1 b (.lst (ys.map V.str))) { heap := hp2, gens := s1.gens, drawn := dr2, toks := tk2, os := s1.os } :=
    J.call (ch := []) (Un.laid k3 hb3 hn) (J.hok.laid k3 hb3 ⟨hlen, out.toList, c, strs_vals iy, hg3⟩) J.bare (fun _ z => nomatch z)
  exact ⟨.ref b, _, J3, rfl, g ys b py sy hn⟩
end
end Dw

namespace Dw
open PySem

abbrev D := PyData
/-- a value: data, or one of the store's objects -/
inductive Vl where
  | d (x : D) | o (i : Nat)
/-- what the store holds -/
inductive Ob where
  | dead
  | lst (xs : List D)
  | scr (xs : List D)
  | ins (c : Nat) (fs : List (Str × Vl))
  | dct (kvs : List (L2.Key × Vl))
abbrev Sto := List Ob
inductive R (α : Type) where
  | ok (a : α) (s : Sto) | ex (c : Nat) (s : Sto) | no
def M (α : Type) : Type := Sto → R α
namespace M
variable {α β γ : Type}
def pure (a : α) : M α := fun s => .ok a s
def bind (m : M α) (f : α → M β) : M β := fun s => match m s with
  | .ok a s' => f a s'
  | .ex c s' => .ex c s'
  | .no => .no
def no : M α := fun _ => .no
def ex (c : Nat) : M α := fun s => .ex c s
instance : Monad M where
  pure := M.pure
  bind := M.bind
@[simp] theorem pure_bind (a : α) (f : α → M β) : (Pure.pure a : M α) >>= f = f a := (rfl)
@[simp] theorem no_bind (f : α → M β) : (M.no : M α) >>= f = M.no := (rfl)
@[simp] theorem ex_bind (c : Nat) (f : α → M β) : (M.ex c : M α) >>= f = M.ex c := (rfl)
@[simp] theorem bind_assoc (m : M α) (f : α → M β) (g : β → M γ) : (m >>= f) >>= g = m >>= fun a => f a >>= g := by
  funext s
  show M.bind (M.bind m f) g s = M.bind m (fun a => M.bind (f a) g) s
  unfold M.bind
  cases m s <;> rfl
theorem bind_run (m : M α) (f : α → M β) (s : Sto) : (m >>= f) s = match m s with
  | .ok a s' => f a s'
  | .ex c s' => .ex c s'
  | .no => .no := rfl
@[simp] theorem pure_run (a : α) (s : Sto) : (Pure.pure a : M α) s = .ok a s := (rfl)
@[simp] theorem no_run (s : Sto) : (M.no : M α) s = .no := (rfl)
@[simp] theorem ex_run (c : Nat) (s : Sto) : (M.ex c : M α) s = .ex c s := (rfl)
end M

abbrev Env := List (Option Vl)
/-- how a block ends -/
inductive Fl where
  | nx | rt (v : Vl) | bk | ct

abbrev nonV : Vl := .d .none
abbrev blV (b : Bool) : Vl := .d (.bool b)
abbrev inV (i : Int) : Vl := .d (.int i)
abbrev stV (x : Str) : Vl := .d (.str x)
abbrev tuV (xs : List D) : Vl := .d (.tuple xs)
abbrev liV (xs : List D) : Vl := .d (.list xs)

/-! ### looking at values -/
def asD : Vl → M D
  | .d x => pure x
  | .o _ => M.no
def asDs : List Vl → M (List D)
  | [] => pure []
  | v :: vs => do
    let x ← asD v
    let xs ← asDs vs
    pure (x :: xs)
def getO (i : Nat) : M Ob := fun s => match s[i]? with
  | some o => .ok o s
  | none => .no
def setO (i : Nat) (o : Ob) : M Unit := fun s => .ok () (s.set i o)
def newO (o : Ob) : M Nat := fun s => .ok s.length (s ++ [o])
/-- a list's items -/
def lItems : Vl → M (List D)
  | .d (.list xs) => pure xs
  | .o i => do
    match ← getO i with
    | .lst xs => pure xs
    | _ => M.no
  | _ => M.no
/-- a list's or a tuple's items; the script's, too -/
def sItems : Vl → M (List D)
  | .d (.list xs) => pure xs
  | .d (.tuple xs) => pure xs
  | .o i => do
    match ← getO i with
    | .lst xs => pure xs
    | .scr xs => pure xs
    | _ => M.no
  | _ => M.no
/-- as data, a list object as a list -/
def asData : Vl → M D
  | .d x => pure x
  | .o i => do
    match ← getO i with
    | .lst xs => pure (.list xs)
    | _ => M.no
def okS (b : Bool) (v : α) : M α := if b then pure v else M.no

/-! ### operators -/
def szLine : Nat := 16777216
def cMul (i j : Int) : Bool := (decide (-(2 ^ 64) < i) && decide (i < 2 ^ 64)) || (decide (-(2 ^ 64) < j) && decide (j < 2 ^ 64))
def rep {α : Type} (xs : List α) (n : Nat) : List α := (List.replicate n xs).flatten
def binop (op : Operator) (a b : Vl) : M Vl := match op with
  | .Add => match a, b with
    | .d (.int i), .d (.int j) => pure (inV (i + j))
    | .d (.str x), .d (.str y) => okS (decide (x.length + y.length ≤ szLine)) (stV (x ++ y))
    | .d (.tuple xs), .d (.tuple ys) => okS (decide (xs.length + ys.length ≤ szLine)) (tuV (xs ++ ys))
    | _, _ => do
      let xs ← lItems a
      let ys ← lItems b
      okS (decide (xs.length + ys.length ≤ szLine)) (liV (xs ++ ys))
  | .Sub => match a, b with
    | .d (.int i), .d (.int j) => pure (inV (i - j))
    | _, _ => M.no
  | .Mult => match a, b with
    | .d (.int i), .d (.int j) => okS (cMul i j) (inV (i * j))
    | .d (.tuple xs), .d (.int j) => okS (decide (xs ≠ []) && decide (0 ≤ j) && decide (j ≤ 1000) && decide (xs.length ≤ 1000)) (tuV (rep xs j.toNat))
    | .d (.list xs), .d (.int j) => okS (decide (0 ≤ j) && decide (j < 2 ^ 63) && decide (xs.length * j.toNat ≤ szLine)) (liV (rep xs j.toNat))
    | _, _ => M.no
  | .FloorDiv => match a, b with
    | .d (.int i), .d (.int j) => okS (decide (0 < j) && decide (j < 1073741824)) (inV (i / j))
    | _, _ => M.no
  | .Mod => match a, b with
    | .d (.int i), .d (.int j) => okS (decide (0 < j)) (inV (i % j))
    | _, _ => M.no
  | .Pow => match a, b with
    | .d (.int i), .d (.int j) => okS (decide (0 ≤ j) && decide (j ≤ 1000000) && decide (i.natAbs < 2 ^ 64)) (inV (i ^ j.toNat))
    | _, _ => M.no
  | _ => M.no
def shp (x : D) : Bool := SeqAt.shaped x
def isScal : D → Bool
  | .none => true | .bool _ => true | .int _ => true | .str _ => true | _ => false
def eqB (a b : Vl) : M Bool := do
  let x ← asData a
  let y ← asData b
  okS (shp x && shp y) (PyData.eqv x y)
/-- order of data: ints, texts, tuples of such -/
def isIn (x : D) (xs : List D) : Bool := xs.any fun z => PyData.eqv z x
mutual
/-- the order of two things: none where it isn't known -/
def dlt : D → D → Option Bool
  | .int i, .int j => some (decide (i < j))
  | .str x, .str y => some (decide (x.cps.toList < y.cps.toList))
  | .tuple xs, .tuple ys => dltAll xs ys
  | _, _ => none
def dltAll : List D → List D → Option Bool
  | [], [] => some false
  | [], _ :: _ => some true
  | _ :: _, [] => some false
  | x :: xs, y :: ys => match dlt x y, dltAll xs ys with
    | some c, some r => some (if PyData.eqv x y then r else c)
    | _, _ => none
end
def ltB (a b : Vl) : M Bool := do
  let x ← asD a
  let y ← asD b
  okS (shp x && shp y) () >>= fun _ => match dlt x y with
    | some c => pure c
    | none => M.no
def intCmp (p : Int → Int → Bool) (a b : Vl) : M Bool := match a, b with
  | .d (.int i), .d (.int j) => pure (p i j)
  | _, _ => M.no
def leB (a b : Vl) : M Bool := match a, b with
  | .d (.int i), .d (.int j) => pure (decide (i ≤ j))
  | .d (.str x), .d (.str y) => pure (!decide (y.cps.toList < x.cps.toList))
  | _, _ => M.no
def dGet (kvs : List (L2.Key × Vl)) (k : L2.Key) : Option Vl := (kvs.find? fun kv => decide (kv.1 = k)).map (·.2)
def dPut (kvs : List (L2.Key × Vl)) (k : L2.Key) (v : Vl) : List (L2.Key × Vl) :=
  if (kvs.any fun kv => decide (kv.1 = k)) = true then kvs.map (fun kv => if kv.1 = k then (kv.1, v) else kv) else kvs ++ [(k, v)]
def dMrg (kvs more : List (L2.Key × Vl)) : List (L2.Key × Vl) := more.foldl (fun acc kv => dPut acc kv.1 kv.2) kvs
def keyOf : D → M L2.Key
  | .int i => pure (.inl i)
  | .str x => pure (.inr x)
  | _ => M.no
def inB (a b : Vl) : M Bool := match a, b with
  | .d (.str x), .d (.str y) => pure (!(Builtin.Str.occurrences y x 0 y.length 1).isEmpty)
  | _, .o i => do
    let x ← asD a
    match ← getO i with
    | .lst xs => okS (shp x && shp (.list xs)) (isIn x xs)
    | .dct kvs => do
      let k ← keyOf x
      pure (dGet kvs k).isSome
    | _ => M.no
  | _, .d (.list xs) => do
    let x ← asD a
    okS (shp x && shp (.list xs)) (isIn x xs)
  | _, .d (.tuple xs) => do
    let x ← asD a
    okS (shp x && shp (.tuple xs)) (isIn x xs)
  | _, _ => M.no
def isB (a b : Vl) : M Bool := match a, b with
  | .d x, .d .none => pure (match x with | .none => true | _ => false)
  | .d (.bool k), .d (.bool c) => pure (decide (k = c))
  | _, _ => M.no
def cmpop (op : CmpOp) (a b : Vl) : M Bool := match op with
  | .Eq => eqB a b
  | .NotEq => do pure (!(← eqB a b))
  | .Lt => ltB a b
  | .Gt => intCmp (fun i j => decide (j < i)) a b
  | .LtE => leB a b
  | .GtE => intCmp (fun i j => decide (j ≤ i)) a b
  | .In => inB a b
  | .NotIn => do pure (!(← inB a b))
  | .Is => isB a b
  | .IsNot => do pure (!(← isB a b))
def asB : Vl → M Bool
  | .d (.bool b) => pure b
  | _ => M.no
def asI : Vl → M Int
  | .d (.int i) => pure i
  | _ => M.no

/-! ### places, slices -/
def atI {α : Type} (xs : List α) (i : Int) : Option α := L2.atI xs i
def ixV (a i : Vl) : M Vl := match a with
  | .d (.str x) => do
    let i ← asI i
    okS (decide (x.length ≤ szLine)) () >>= fun _ => match L2.atI x.cps.toList i with
      | some c => pure (stV ⟨#[c]⟩)
      | none => M.no
  | .o j => do
    match ← getO j with
    | .lst xs => do
      match L2.atI xs (← asI i) with
      | some v => pure (.d v)
      | none => M.no
    | .scr xs => do
      match L2.atI xs (← asI i) with
      | some v => pure (.d v)
      | none => M.no
    | .dct kvs => do
      let x ← asD i
      let k ← keyOf x
      match dGet kvs k with
      | some v => pure v
      | none => M.no
    | _ => M.no
  | _ => do
    let xs ← sItems a
    match L2.atI xs (← asI i) with
    | some v => pure (.d v)
    | none => M.no
def cutD {α : Type} (xs : List α) (lo hi : Option Int) : List α := (xs.drop (HT.sIx xs.length 0 lo)).take (HT.sIx xs.length xs.length hi - HT.sIx xs.length 0 lo)
def slV (a : Vl) (lo hi : Option Int) : M Vl := match a with
  | .d (.str x) => okS (decide (x.length ≤ szLine)) (stV ⟨(cutD x.cps.toList lo hi).toArray⟩)
  | .d (.tuple xs) => pure (tuV (cutD xs lo hi))
  | _ => do
    let xs ← lItems a
    pure (liV (cutD xs lo hi))
end Dw

namespace Dw
open PySem

/-! ### built-ins -/
inductive Bi where
  | len | all | any | sorted | sortedK | dict | minD | min | max | sum | tuple | list | int | str | repr
  deriving DecidableEq
inductive Mt where
  | append | extend | pop | remove | count | index | join | split | upper | get
  deriving DecidableEq
def boolsM : List D → M (List Bool)
  | [] => pure []
  | .bool b :: r => do
    let bs ← boolsM r
    pure (b :: bs)
  | _ :: _ => M.no
def intsM : List D → M (List Int)
  | [] => pure []
  | .int i :: r => do
    let ns ← intsM r
    pure (i :: ns)
  | _ :: _ => M.no
def strsM : List D → M (List Str)
  | [] => pure []
  | .str x :: r => do
    let xs ← strsM r
    pure (x :: xs)
  | _ :: _ => M.no
/-- the sorted list, as the library has it -/
def sortD (xs : List D) : List D := xs.mergeSort (PySem.W.dataLe false id)
def isTp1 : D → Bool
  | .tuple (_ :: _) => true | _ => false
def noTp : D → Bool
  | .tuple _ => false | .none => false | _ => true
/-- any two of them can be compared, place by place -/
def ordd (xs : List D) : Bool := decide (xs.length ≤ szLine) && (xs.all fun x => shp x && xs.all fun y => PySem.W.alike x y) && (xs.all isTp1 || xs.all noTp)
/-- any two of them can be compared, place by place; none of them is None -/
def ordm (xs : List D) : Bool := decide (xs.length ≤ szLine) && (xs.all fun x => shp x && xs.all fun y => PySem.W.alike x y) && xs.all fun x => match x with | .none => false | _ => true
def minDD (x : D) (xs : List D) : D := xs.foldl (fun a y => if PySem.W.dataLt y a then y else a) x
def lts (x y : D) : Bool := PySem.W.dataLt x y
def dedup : List D → List D
  | [] => []
  | x :: r => if isIn x r then dedup r else x :: dedup r
def minI : Int → List Int → Int
  | m, [] => m
  | m, x :: r => minI (if x < m then x else m) r
def maxI : Int → List Int → Int
  | m, [] => m
  | m, x :: r => maxI (if m < x then x else m) r
def tyIs (x : D) (ty : Str) : Bool := match x with
  | .none => ty == ("NoneType" : Str)
  | .bool _ => ty == ("bool" : Str) || ty == ("int" : Str)
  | .int _ => ty == ("int" : Str)
  | .str _ => ty == ("str" : Str)
  | .list _ => ty == ("list" : Str)
  | .tuple _ => ty == ("tuple" : Str)
  | .dict _ => false
def reprOf (x : D) : Option Str := none
def intKeys : List (L2.Key × Vl) → M (List Int)
  | [] => pure []
  | (.inl i, _) :: r => do
    let ks ← intKeys r
    pure (i :: ks)
  | _ :: _ => M.no
def pairD : List D → M (List (L2.Key × Vl))
  | [] => pure []
  | .tuple [k, v] :: r => do
    let k ← keyOf k
    let ps ← pairD r
    pure ((k, .d v) :: ps)
  | _ :: _ => M.no
/-- len(set(v)), sorted(set(v)) -/
def setLen (v : Vl) : M Vl := do
  let xs ← lItems v
  match xs with
  | .int _ :: _ => do
    let ns ← intsM xs
    okS (decide (ns.length ≤ 4000)) (inV (metZ ns).length)
  | _ => do
    let ss ← strsM xs
    okS (decide (ss.length ≤ 4000)) (inV (metS ss).length)
def setSrt (v : Vl) : M Vl := match v with
  | .d (.tuple xs) => do
    let ns ← intsM xs
    okS (decide (ns.length < 64)) (liV (sortD ((metZ ns).map .int)))
  | _ => do
    let xs ← lItems v
    let ss ← strsM xs
    okS (decide (ss.length ≤ 4000)) (liV (sortD ((metS ss).map .str)))
def bi (b : Bi) (vs : List Vl) : M Vl := match b, vs with
  | .len, [v] => match v with
    | .d (.str x) => okS (decide (x.length ≤ szLine)) (inV x.length)
    | _ => do
      let xs ← sItems v
      pure (inV xs.length)
  | .all, [v] => do
    let bs ← boolsM (← lItems v)
    pure (blV (bs.all id))
  | .any, [v] => do
    let bs ← boolsM (← lItems v)
    pure (blV (bs.any id))
  | .sum, [v] => do
    let ns ← intsM (← sItems v)
    pure (inV ns.sum)
  | .tuple, [v] => do
    let xs ← sItems v
    pure (tuV xs)
  | .list, [v] => do
    let xs ← sItems v
    pure (liV xs)
  | .int, [v] => match v with
    | .d (.bool b) => pure (inV (if b then 1 else 0))
    | .d (.int i) => pure (inV i)
    | .d (.str x) => match PySem.intText? x with
      | some n => okS (decide (x.length ≤ 640)) (inV n)
      | none => M.no
    | _ => M.no
  | .str, [v] => match v with
    | .d (.int i) => okS (decide (i.natAbs.log2 < 1920)) (stV (toString i))
    | .d (.str x) => pure (stV x)
    | _ => M.no
  | .sorted, [v] => do
    let xs ← sItems v
    okS (ordd xs) (liV (sortD xs))
  | .sortedK, [v] => match v with
    | .o i => do
      match ← getO i with
      | .dct kvs => do
        let ks ← intKeys kvs
        okS (decide (ks.length < 64)) (liV (sortD (ks.map .int)))
      | _ => M.no
    | _ => M.no
  | .dict, [v] => do
    let xs ← lItems v
    let ps ← pairD xs
    okS (decide (ps.length ≤ szLine)) () >>= fun _ => newO (.dct (dMrg [] ps)) >>= fun i => pure (.o i)
  | .min, [a, b] => intOp2 (fun i j => if j < i then j else i) a b
  | .max, [a, b] => intOp2 (fun i j => if j > i then j else i) a b
  | .repr, [v] => match v with
    | .d (.tuple ds) => okS (shp (.tuple ds) && (PyData.tuple ds).showable && decide ((PyData.tuple ds).shown.length ≤ szLine)) (stV (PyData.tuple ds).shown)
    | _ => M.no
  | .minD, [v] => do
    let xs ← sItems v
    match xs with
    | [] => M.no
    | x :: r => okS (ordm (x :: r)) (.d (minDD x r))
  | .min, [v] => do
    match ← intsM (← lItems v) with
    | [] => M.no
    | x :: r => pure (inV (minI x r))
  | .max, [v] => do
    match ← intsM (← lItems v) with
    | [] => M.no
    | x :: r => pure (inV (maxI x r))
  | _, _ => M.no
where intOp2 (f : Int → Int → Int) (a b : Vl) : M Vl := match a, b with
  | .d (.int i), .d (.int j) => pure (inV (f i j))
  | _, _ => M.no
/-- the first place of a thing -/
def firstAt (x : D) : List D → Nat → Option Nat
  | [], _ => none
  | y :: r, n => if PyData.eqv y x then some n else firstAt x r (n + 1)
def firstT (x : Str) : List Str → Nat → Option Nat
  | [], _ => none
  | y :: r, n => if y = x then some n else firstT x r (n + 1)
def setLst (o : Vl) (f : List D → M (Vl × List D)) : M Vl := match o with
  | .o i => do
    match ← getO i with
    | .lst xs => do
      let (v, ys) ← f xs
      setO i (.lst ys)
      pure v
    | _ => M.no
  | _ => M.no
def mt (m : Mt) (o : Vl) (vs : List Vl) : M Vl := match m, vs with
  | .append, [v] => do
    let x ← asD v
    setLst o fun xs => okS (decide (xs.length < szLine)) (nonV, xs ++ [x])
  | .extend, [v] => do
    let ys ← lItems v
    setLst o fun xs => okS (decide (xs.length + ys.length ≤ szLine)) (nonV, xs ++ ys)
  | .pop, [] => setLst o fun xs => match xs[xs.length - 1]? with
    | some x => pure (.d x, xs.dropLast)
    | none => M.no
  | .index, [v] => do
    let x ← asD v
    let xs ← lItems o
    okS (shp x && shp (.list xs)) () >>= fun _ => match firstAt x xs 0 with
      | some n => pure (inV n)
      | none => M.no
  | .remove, [v] => do
    let x ← asD v
    setLst o fun xs => do
      let ss ← strsM xs
      match x with
      | .str z => match firstT z ss 0 with
        | some n => pure (nonV, xs.eraseIdx n)
        | none => M.no
      | _ => M.no
  | _, _ => M.no

/-- what a method of a list is asked of -/
def mtTy (v : Vl) : M Unit := match v with
  | .d (.list _) => pure ()
  | .o i => do
    match ← getO i with
    | .lst _ => pure ()
    | _ => M.no
  | _ => M.no

/-! ### the syntax -/
mutual
inductive Tg where
  | nm (i : Nat)
  | tp (ts : Tgs)
inductive Tgs where
  | nil
  | cons (t : Tg) (r : Tgs)
end
mutual
inductive E where
  | non | bl (b : Bool) | int (i : Int) | str (x : Str)
  | var (i : Nat)
  | glb (x : Str) (d : D)
  | bin (op : Operator) (a b : E)
  | cmp (op : CmpOp) (a b : E)
  | chain (op1 op2 : CmpOp) (a b c : E)
  | andE (as : Es)
  | orE (as : Es)
  | notE (a : E)
  | neg (a : E)
  | call (pu : Bool) (f : Nat) (as : Es)
  | meth (c : Nat) (m : Str) (f : Nat) (o : E) (as : Es)
  | make (c f : Nat) (as : Es)
  | bi (b : Bi) (as : Es)
  | isi (a : E) (ty : Str)
  | mt (m : Mt) (o : E) (as : Es)
  | tup (as : Es)
  | lst (mu : Bool) (as : Es)
  | ix (a i : E)
  | sl (a : E) (lo hi : Eo)
  | addM (a b : E)
  | stp (a : E) (lo : Option Int) (st : Int)
  | comp (mu : Bool) (elt : E) (tg : Tg) (it : It) (ifs : Eo) (own : List Nat)
  | attr (c : Nat) (o : E) (f : Str)
  | frz (a : E)
  | setE (srt : Bool) (a : E)
  | dic (ps : Ps)
  | dgt (o k d : E)
  | told (kd : Nat) (e : E)
  | tupRg (a : E)
  /-- a text's method with one argument -/
  | txm (m : Mt) (a b : E)
  /-- dict(zip(a, b)) -/
  | dzip (as : Es)
inductive Es where
  | nil
  | cons (a : E) (r : Es)
inductive Ps where
  | nil
  | cons (k v : E) (r : Ps)
inductive Eo where
  | no
  | so (a : E)
inductive It where
  | of (a : E)
  | range (as : Es)
  | enum (a : E)
  | zip (a b : E)
  | objs (as : Es)
end
mutual
inductive S where
  | set (i : Nat) (e : E)
  | unpk (tg : Tg) (e : E)
  | par (is : List Nat) (as : Es)
  | setAttr (c : Nat) (o : E) (f : Str) (e : E)
  | setIx (o i e : E)
  | unpkAt (c i : Nat) (fs : List Str) (e : E)
  | expr (e : E)
  | ite (c : E) (a b : Ss)
  | forS (tg : Tg) (it : It) (b : Ss)
  | whil (n : Nat) (c : E) (b : Ss)
  | ret (e : E)
  | retN
  | raise (c : Nat) (x : Str)
  | cont
  | pass
inductive Ss where
  | nil
  | cons (s : S) (r : Ss)
end

/-! ### the evaluator -/
def setAt (c i : Nat) (f : Str) (v : Vl) : M Unit := do
  match ← getO i with
  | .ins c' fs => okS (decide (c' = c) && decide (fs.length < 1000)) () >>= fun _ => setO i (.ins c (putF f v fs))
  | _ => M.no
where putF (f : Str) (v : Vl) : List (Str × Vl) → List (Str × Vl)
  | [] => [(f, v)]
  | (g, x) :: r => if g = f then (g, v) :: r else (g, x) :: putF f v r
def setAts (c i : Nat) : List Str → List D → M Unit
  | [], [] => pure ()
  | f :: fs, x :: xs => do
    setAt c i f (.d x)
    setAts c i fs xs
  | _, _ => M.no
def getV (env : Env) (i : Nat) : M Vl := match env[i]? with
  | some (some v) => pure v
  | _ => M.no
def getOb : Vl → M Nat
  | .o i => pure i
  | _ => M.no
mutual
def bindT : Tg → Vl → Env → Option Env
  | .nm i, v, env => some (env.set i (some v))
  | .tp ts, .d (.tuple xs), env => bindTs ts xs env
  | .tp _, _, _ => none
def bindTs : Tgs → List D → Env → Option Env
  | .nil, [], env => some env
  | .cons t r, x :: xs, env => match bindT t (.d x) env with
    | some env => bindTs r xs env
    | none => none
  | _, _, _ => none
end
def keyPs : List (Vl × Vl) → M (List (L2.Key × Vl))
  | [] => pure []
  | (x, y) :: r => do
    let d ← asD x
    let k ← keyOf d
    let kvs ← keyPs r
    pure ((k, y) :: kvs)
def ofO {α : Type} : Option α → M α
  | some a => pure a
  | none => M.no
def wipe (env : Env) : List Nat → Env
  | [] => env
  | v :: vs => (wipe env vs).set v none
/-- names set side by side -/
def setAll : Env → List Nat → List Vl → Option Env
  | env, [], [] => some env
  | env, i :: is, v :: vs => setAll (env.set i (some v)) is vs
  | _, _, _ => none
def noEx {α : Type} (m : M α) : M α := fun s => match m s with
  | .ex _ _ => .no
  | r => r
/-- the items of what is walked, where they stay as they are -/
def compL (f : Vl → M (Option D)) : List Vl → List D → M (List D)
  | [], acc => pure acc
  | x :: r, acc => do
    match ← f x with
    | some y => okS (decide (acc.length < szLine)) () >>= fun _ => compL f r (acc ++ [y])
    | none => compL f r acc
/-- over a list object, as it stands at each turn -/
def compO (f : Vl → M (Option D)) (i : Nat) : Nat → Nat → List D → M (List D)
  | 0, _, _ => M.no
  | n + 1, j, acc => do
    match ← getO i with
    | .lst xs => match xs[j]? with
      | none => pure acc
      | some x => do
        match ← f (.d x) with
        | some y => okS (decide (acc.length < szLine)) () >>= fun _ => compO f i n (j + 1) (acc ++ [y])
        | none => compO f i n (j + 1) acc
    | _ => M.no
def forL (f : Vl → Env → M (Fl × Env)) : List Vl → Env → M (Fl × Env)
  | [], env => pure (.nx, env)
  | x :: r, env => do
    match ← f x env with
    | (.nx, env') => forL f r env'
    | (.ct, env') => forL f r env'
    | (.bk, env') => pure (.nx, env')
    | (.rt v, env') => pure (.rt v, env')
def forO (f : Vl → Env → M (Fl × Env)) (i : Nat) : Nat → Nat → Env → M (Fl × Env)
  | 0, _, _ => M.no
  | n + 1, j, env => do
    match ← getO i with
    | .lst xs => match xs[j]? with
      | none => pure (.nx, env)
      | some x => do
        match ← f (.d x) env with
        | (.nx, env') => forO f i n (j + 1) env'
        | (.ct, env') => forO f i n (j + 1) env'
        | (.bk, env') => pure (.nx, env')
        | (.rt v, env') => pure (.rt v, env')
    | _ => M.no
def whileL (c : Env → M Bool) (b : Env → M (Fl × Env)) : Nat → Env → M (Fl × Env)
  | 0, _ => M.no
  | n + 1, env => do
    if ← c env then
      match ← b env with
      | (.nx, env') => whileL c b n env'
      | (.ct, env') => whileL c b n env'
      | (.bk, env') => pure (.nx, env')
      | (.rt v, env') => pure (.rt v, env')
    else pure (.nx, env)
/-- what is walked: items that stay, or a list object -/
inductive Wk where
  | its (xs : List Vl)
  | ob (i : Nat)
def enumD : Nat → List D → List Vl
  | _, [] => []
  | n, x :: r => tuV [.int n, x] :: enumD (n + 1) r
def zipD : List D → List D → List Vl
  | x :: xs, y :: ys => tuV [x, y] :: zipD xs ys
  | _, _ => []
def rangeD (lo : Int) (n : Nat) : List Vl := (List.range n).map fun i => inV (lo + (i : Nat))
def bnd62 (i : Int) : Bool := decide (-(2 ^ 62) ≤ i) && decide (i < 2 ^ 62)
def wkOf (v : Vl) : M Wk := match v with
  | .d (.list xs) => pure (.its (xs.map .d))
  | .d (.tuple xs) => pure (.its (xs.map .d))
  | .d (.str x) => pure (.its (x.cps.toList.map fun c => stV ⟨#[c]⟩))
  | .o i => do
    match ← getO i with
    | .lst _ => pure (.ob i)
    | _ => M.no
  | _ => M.no
/-- the items of a list or a tuple that stays as it is -/
def fItems : Vl → M (List D)
  | .d (.list xs) => pure xs
  | .d (.tuple xs) => pure xs
  | _ => M.no
def wkRange (vs : List Vl) : M Wk := match vs with
  | [.d (.int j)] => okS (bnd62 j) (.its (rangeD 0 j.toNat))
  | [.d (.int i), .d (.int j)] => okS (bnd62 i && bnd62 j) (.its (rangeD i (j - i).toNat))
  | _ => M.no
def pureRun (m : M Vl) : M Vl := fun s => match m [] with
  | .ok (.d x) _ => .ok (.d x) s
  | .ex c _ => .ex c s
  | _ => .no
def frzV (v : Vl) : M Vl := match v with
  | .o i => do
    match ← getO i with
    | .lst xs => do
      setO i .dead
      pure (liV xs)
    | _ => M.no
  | _ => M.no
/-- a new list: a list that stays as it is, or an object -/
def newL (mu : Bool) (xs : List D) : M Vl := if mu then do
    let i ← newO (.lst xs)
    pure (.o i)
  else pure (liV xs)
/-- two lists, one behind the other: a new list object -/
def addMV (x y : Vl) : M Vl := do
  let xs ← lItems x
  let ys ← lItems y
  okS (decide (xs.length + ys.length ≤ szLine)) ()
  newL true (xs ++ ys)
/-- x[lo::st] of a list -/
def stpD {α : Type} (xs : List α) (lo : Option Int) (st : Int) : List α :=
  (sliceRange (sliceBounds lo none (some st) xs.length).1 (sliceBounds lo none (some st) xs.length).2.1 (sliceBounds lo none (some st) xs.length).2.2).filterMap (xs[·]?)
def stpL (x : Vl) (lo : Option Int) (st : Int) : M Vl := do
  let xs ← lItems x
  okS (decide (st ≠ 0)) (liV (stpD xs lo st))
def revS (z : Str) : Str := ⟨z.cps.toList.reverse.toArray⟩
def stpV (x : Vl) (lo : Option Int) (st : Int) : M Vl := match x with
  | .d (.tuple ds) => okS (decide (lo = none) && decide (st = -1)) (tuV ds.reverse)
  | .d (.str z) => okS (decide (lo = none) && decide (st = -1) && decide (z.length ≤ szLine)) (stV (revS z))
  | x => stpL x lo st
/-- tuple(range(v)) -/
def tupRgV (v : Vl) : M Vl := match v with
  | .d (.int j) => okS (bnd62 j && decide (j ≤ 1000000)) (tuV ((List.range j.toNat).map fun (i : Nat) => .int (i : Int)))
  | _ => M.no
/-- sep.join(xs), x.split(sep) -/
def asTx : Vl → M Str
  | .d (.str z) => pure z
  | _ => M.no
def txmV (m : Mt) (z : Str) (y : Vl) : M Vl := match m with
  | .join => do
    let xs ← lItems y
    let ss ← strsM xs
    okS (decide ((ss.map (·.length)).sum + ss.length * z.length ≤ 16777216)) (stV (PySem.Txt.join z ss))
  | .split => match y with
    | .d (.str w) => okS (!(w.length == 0) && decide (z.length + 2 ≤ szLine)) (liV ((PySem.Txt.split z w).map .str))
    | _ => M.no
  | _ => M.no
/-- d.get(x, z); None is no key of these -/
def dgtV (kvs : List (L2.Key × Vl)) (x : D) (z : Vl) : M Vl := match x with
  | .none => pure z
  | x => do
    let k ← keyOf x
    pure ((dGet kvs k).getD z)
def keysM : List D → M (List L2.Key)
  | [] => pure []
  | d :: r => do
    let k ← keyOf d
    let ks ← keysM r
    pure (k :: ks)
/-- dict(zip(a, b)) of two tuples -/
def dzipV (vs : List Vl) : M Vl := match vs with
  | [.d (.tuple xs), .d (.tuple ys)] => do
    let ks ← keysM xs
    okS (decide (ks.length = ys.length) && decide (ks.length ≤ szLine)) () >>= fun _ => newO (.dct (dMrg [] (ks.zip (ys.map .d)))) >>= fun i => pure (.o i)
  | _ => M.no
/-- told, or refused: by which class -/
def toldV (kd : Nat) (m : M Vl) : M Vl := fun s => match m s with
  | .ok (.d x) s' => .ok (tuV [.str "told", x]) s'
  | .ex c s' => if 2 ≤ c ∧ c ≤ 5 then .ok (tuV [.str "refused", if kd = 0 then .int ((c : Int) - 2) else .none]) s' else .no
  | _ => .no
section
variable (Φ : Nat → List Vl → M Vl)
mutual
def evE : E → Env → M Vl
  | .non, _ => pure nonV
  | .bl b, _ => pure (blV b)
  | .int i, _ => pure (inV i)
  | .str x, _ => pure (stV x)
  | .var i, env => getV env i
  | .glb _ d, _ => pure (.d d)
  | .bin op a b, env => do
    let x ← evE a env
    let y ← evE b env
    binop op x y
  | .cmp op a b, env => do
    let x ← evE a env
    let y ← evE b env
    let c ← cmpop op x y
    pure (blV c)
  | .chain op1 op2 a b c, env => do
    let x ← evE a env
    let y ← evE b env
    if ← cmpop op1 x y then
      let z ← evE c env
      let r ← cmpop op2 y z
      pure (blV r)
    else pure (blV false)
  | .andE as, env => evAnd as env
  | .orE as, env => evOr as env
  | .notE a, env => do
    let c ← asB (← evE a env)
    pure (blV (!c))
  | .neg a, env => do
    let i ← asI (← evE a env)
    pure (inV (-i))
  | .call pu f as, env => do
    let vs ← evEs as env
    if pu then
      let xs ← asDs vs
      pureRun (Φ f (xs.map .d))
    else Φ f vs
  | .meth c m f o as, env => do
    let v ← evE o env
    let i ← getOb v
    match ← getO i with
    | .ins c' fs =>
      if c' = c ∧ (fs.lookup m).isSome = false then
        let vs ← evEs as env
        Φ f (v :: vs)
      else M.no
    | _ => M.no
  | .make c f as, env => do
    let vs ← evEs as env
    let i ← newO (.ins c [])
    match ← Φ f (.o i :: vs) with
    | .d .none => pure (.o i)
    | _ => M.no
  | .bi b as, env => do
    let vs ← evEs as env
    bi b vs
  | .isi a ty, env => do
    match ← evE a env with
    | .d x => pure (blV (tyIs x ty))
    | .o _ => M.no
  | .mt m o as, env => do
    let v ← evE o env
    mtTy v
    let vs ← evEs as env
    mt m v vs
  | .tup as, env => do
    let xs ← asDs (← evEs as env)
    okS (decide (xs.length ≤ szLine)) (tuV xs)
  | .lst mu as, env => do
    let xs ← asDs (← evEs as env)
    okS (decide (xs.length ≤ szLine)) ()
    newL mu xs
  | .ix a i, env => do
    let x ← evE a env
    let y ← evE i env
    ixV x y
  | .sl a lo hi, env => do
    let x ← evE a env
    let l ← evEo lo env
    let h ← evEo hi env
    slV x l h
  | .addM a b, env => do
    let x ← evE a env
    let y ← evE b env
    addMV x y
  | .stp a lo st, env => do
    let x ← evE a env
    stpV x lo st
  | .comp mu elt tg it ifs own, env => do
    let w ← evIt it env
    let f : Vl → M (Option D) := fun x => noEx do
      let env1 ← ofO (bindT tg x (wipe env own))
      if ← evIf ifs env1 then
        let y ← asD (← evE elt env1)
        pure (some y)
      else pure none
    match w with
    | .its xs => do
      let ys ← compL f xs []
      newL mu ys
    | .ob i => do
      match ← getO i with
      | .lst xs => do
        let ys ← compO f i (xs.length + 1) 0 []
        newL mu ys
      | _ => M.no
  | .attr c o f, env => do
    let i ← getOb (← evE o env)
    match ← getO i with
    | .ins c' fs => okS (decide (c' = c)) () >>= fun _ => match fs.lookup f with
      | some v => pure v
      | none => M.no
    | _ => M.no
  | .frz a, env => do
    let v ← evE a env
    frzV v
  | .setE srt a, env => do
    let v ← evE a env
    if srt then setSrt v else setLen v
  | .dic ps, env => do
    let i ← newO (.dct [])
    let ps ← evPs ps env
    match ← getO i with
    | .dct [] => do
      let kvs ← keyPs ps
      okS (decide (kvs.length ≤ 15)) () >>= fun _ => setO i (.dct (dMrg [] kvs)) >>= fun _ => pure (.o i)
    | _ => M.no
  | .dgt o k d, env => do
    let v ← evE o env
    let i ← getOb v
    match ← getO i with
    | .dct _ => do
      let x ← evE k env
      let z ← evE d env
      match ← getO i with
      | .dct kvs => do
        dgtV kvs (← asD x) z
      | _ => M.no
    | _ => M.no
  | .told kd e, env => toldV kd (evE e env)
  | .tupRg a, env => do
    let v ← evE a env
    tupRgV v
  | .txm m a b, env => do
    let x ← evE a env
    let z ← asTx x
    let y ← evE b env
    txmV m z y
  | .dzip as, env => do
    let vs ← evEs as env
    dzipV vs
def evPs : Ps → Env → M (List (Vl × Vl))
  | .nil, _ => pure []
  | .cons a b r, env => do
    let x ← evE a env
    let y ← evE b env
    let ps ← evPs r env
    pure ((x, y) :: ps)
def evEs : Es → Env → M (List Vl)
  | .nil, _ => pure []
  | .cons a r, env => do
    let x ← evE a env
    let xs ← evEs r env
    pure (x :: xs)
def evEo : Eo → Env → M (Option Int)
  | .no, _ => pure none
  | .so a, env => do
    let i ← asI (← evE a env)
    pure (some i)
def evIf : Eo → Env → M Bool
  | .no, _ => pure true
  | .so a, env => do asB (← evE a env)
def evAnd : Es → Env → M Vl
  | .nil, _ => M.no
  | .cons a .nil, env => evE a env
  | .cons a (.cons b r), env => do
    if ← asB (← evE a env) then evAnd (.cons b r) env else pure (blV false)
def evOr : Es → Env → M Vl
  | .nil, _ => M.no
  | .cons a .nil, env => evE a env
  | .cons a (.cons b r), env => do
    if ← asB (← evE a env) then pure (blV true) else evOr (.cons b r) env
def evIt : It → Env → M Wk
  | .of a, env => do wkOf (← evE a env)
  | .range as, env => do wkRange (← evEs as env)
  | .enum a, env => do
    let xs ← fItems (← evE a env)
    pure (.its (enumD 0 xs))
  | .zip a b, env => do
    let x ← evE a env
    let y ← evE b env
    let xs ← fItems x
    let ys ← fItems y
    pure (.its (zipD xs ys))
  | .objs as, env => do
    let vs ← evEs as env
    okS (decide (vs.length ≤ szLine)) (.its vs)
end
mutual
def exS : S → Env → M (Fl × Env)
  | .set i e, env => do
    let v ← evE Φ e env
    pure (.nx, env.set i (some v))
  | .unpk tg e, env => do
    let v ← evE Φ e env
    let env ← ofO (bindT tg v env)
    pure (.nx, env)
  | .par is as, env => do
    let vs ← evEs Φ as env
    let env ← ofO (setAll env is vs)
    pure (.nx, env)
  | .setAttr c o f e, env => do
    let v ← evE Φ e env
    let i ← getOb (← evE Φ o env)
    setAt c i f v
    pure (.nx, env)
  | .setIx o i e, env => do
    let v ← evE Φ e env
    let w ← evE Φ o env
    let x ← evE Φ i env
    let j ← getOb w
    match ← getO j with
    | .dct kvs => do
      let d ← asD x
      let k ← keyOf d
      okS (decide (kvs.length < szLine)) () >>= fun _ => setO j (.dct (dPut kvs k v)) >>= fun _ => pure (.nx, env)
    | _ => M.no
  | .unpkAt c i fs e, env => do
    match ← evE Φ e env with
    | .d (.tuple xs) => do
      let j ← getOb (← getV env i)
      setAts c j fs xs
      pure (.nx, env)
    | _ => M.no
  | .expr e, env => do
    let _ ← evE Φ e env
    pure (.nx, env)
  | .ite c a b, env => do
    if ← asB (← evE Φ c env) then exB a env else exB b env
  | .forS tg it b, env => do
    let w ← evIt Φ it env
    let f : Vl → Env → M (Fl × Env) := fun x env => do
      let env1 ← ofO (bindT tg x env)
      exB b env1
    match w with
    | .its xs => forL f xs env
    | .ob i => do
      match ← getO i with
      | .lst xs => forO f i (xs.length + 1) 0 env
      | _ => M.no
  | .whil n c b, env => whileL (fun env => do asB (← evE Φ c env)) (fun env => exB b env) n env
  | .ret e, env => do
    let v ← evE Φ e env
    pure (.rt v, env)
  | .retN, env => pure (.rt nonV, env)
  | .raise c _, _ => M.ex c
  | .cont, env => pure (.ct, env)
  | .pass, env => pure (.nx, env)
def exB : Ss → Env → M (Fl × Env)
  | .nil, env => pure (.nx, env)
  | .cons s r, env => do
    match ← exS s env with
    | (.nx, env') => exB r env'
    | p => pure p
end
end
/-! ### defs -/
structure Fn where
  np : Nat
  nN : Nat
  body : Ss
  drop : Bool := false
def enter (F : Fn) (vs : List Vl) : Env := vs.map some ++ List.replicate (F.nN - vs.length) none
def vBelow (n : Nat) : Vl → Bool
  | .d _ => true
  | .o i => decide (i < n)
def obBelow (n : Nat) : Ob → Bool
  | .ins _ fs => fs.all fun p => vBelow n p.2
  | .dct kvs => kvs.all fun p => vBelow n p.2
  | _ => true
def leaveV (drop : Bool) (n : Nat) (v : Vl) (s' : Sto) : R Vl := if drop then
    (if vBelow 0 v && (s'.take n).all (obBelow n) then .ok v (s'.take n) else .no)
  else .ok v s'
def leave (drop : Bool) (m : M (Fl × Env)) : M Vl := fun s => match m s with
  | .ok (.rt v, _) s' => leaveV drop s.length v s'
  | .ok (.nx, _) s' => leaveV drop s.length nonV s'
  | .ok _ _ => .no
  | .ex c s' => .ex c s'
  | .no => .no
def Fn.run (Φ : Nat → List Vl → M Vl) (F : Fn) (vs : List Vl) : M Vl :=
  if vs.length = F.np then leave F.drop (exB Φ F.body (enter F vs)) else M.no
def Phi (T : Nat → Option Fn) : Nat → Nat → List Vl → M Vl
  | 0, _, _ => M.no
  | k + 1, f, vs => match T f with
    | none => M.no
    | some F => F.run (Phi T k) vs
theorem Phi_succ {T : Nat → Option Fn} {k f : Nat} {vs : List Vl} {F : Fn} (h : T f = some F) : Phi T (k + 1) f vs = F.run (Phi T k) vs := by
  show (match T f with | none => M.no | some F => F.run (Phi T k) vs) = _
  rw [h]
end Dw

namespace Dw
open PySem L2

/-- the world: the abstract heap, what is foreign, where the store's objects stand, the store -/
structure Wd where
  H : Hp
  F : Addr → Prop
  m : List Addr
  st : Sto
def isDead : Ob → Bool
  | .dead => true
  | .scr _ => true
  | _ => false
def Live (W : Wd) (a : Addr) : Prop := ∃ (i : Nat) (o : Ob), W.m[i]? = some a ∧ W.st[i]? = some o ∧ isDead o = false
def Out (W : Wd) (a : Addr) : Prop := ¬ Live W a ∧ ¬ W.F a
/-- a tuple of the module's own -/
def KTup (K : PySem.W.Frag) (a : Addr) (xs : List V) : Prop :=
  ∃ (o : Obj) (its : Array Value) (n : Nat), K.lookup a = some o ∧ o.cls = .type "tuple" ∧ o.data = .seq its n ∧ its.size ≤ sizeLine ∧ Vals xs its.toList
def TupAt (K : PySem.W.Frag) (W : Wd) (a : Addr) (xs : List V) : Prop := (W.H a = some (.tup xs) ∧ Out W a) ∨ KTup K a xs
def LstAt (W : Wd) (a : Addr) (xs : List V) : Prop := W.H a = some (.lst xs) ∧ Out W a
/-- the script: a list that is known to the object, or one of the module's own -/
def ScrAt (K : PySem.W.Frag) (H : Hp) (a : Addr) (xs : List V) : Prop := (∃ o, H a = some (.frz o (.lst xs))) ∨
  ∃ (o : Obj) (its : Array Value) (n : Nat), K.lookup a = some o ∧ o.cls = .type "list" ∧ o.dict = none ∧ o.data = .seq its n ∧ its.size ≤ sizeLine ∧ Vals xs its.toList
theorem ScrAt.sq {K : PySem.W.Frag} {H : Hp} {a : Addr} {xs : List V} (h : ScrAt K H a xs) : SqL K H a xs := by
  rcases h with ⟨o, h⟩ | h
  · exact .inl (.inr ⟨o, h⟩)
  · exact .inr h
mutual
inductive Rp (K : PySem.W.Frag) (W : Wd) : V → D → Prop
  | non : Rp K W .non .none
  | bl (b : Bool) : Rp K W (.bl b) (.bool b)
  | int (i : Int) : Rp K W (.int i) (.int i)
  | str (x : Str) : Rp K W (.str x) (.str x)
  | tup {a : Addr} {xs : List V} {ds : List D} : TupAt K W a xs → RpA K W xs ds → Rp K W (.ref a) (.tuple ds)
  | lst {a : Addr} {xs : List V} {ds : List D} : LstAt W a xs → RpA K W xs ds → Rp K W (.ref a) (.list ds)
inductive RpA (K : PySem.W.Frag) (W : Wd) : List V → List D → Prop
  | nil : RpA K W [] []
  | cons {v : V} {vs : List V} {d : D} {ds : List D} : Rp K W v d → RpA K W vs ds → RpA K W (v :: vs) (d :: ds)
end
def RpV (K : PySem.W.Frag) (W : Wd) (v : V) : Vl → Prop
  | .d x => Rp K W v x
  | .o i => ∃ a, v = .ref a ∧ W.m[i]? = some a
abbrev RpVs (K : PySem.W.Frag) (W : Wd) : List V → List Vl → Prop := Paired (RpV K W)

/-- no table of code objects -/
def NoTb (o : HO) : Prop := ∀ ps, o ≠ .tbl ps
theorem nt_tup {xs : List V} : NoTb (.tup xs) := fun _ h => by cases h
theorem nt_lst {xs : List V} : NoTb (.lst xs) := fun _ h => by cases h
/-- one world behind another -/
structure Ex (W W' : Wd) : Prop where
  f : W'.F = W.F
  m : W.m <+: W'.m
  keep : ∀ a o, W.H a = some o → ¬ Live W a → NoTb o → W'.H a = some o ∧ ¬ Live W' a
theorem Ex.refl (W : Wd) : Ex W W := ⟨rfl, List.prefix_refl _, fun _ _ h l _ => ⟨h, l⟩⟩
theorem Ex.trans {W W1 W2 : Wd} (a : Ex W W1) (b : Ex W1 W2) : Ex W W2 :=
  ⟨b.f.trans a.f, a.m.trans b.m, fun x o h l n => let ⟨h1, l1⟩ := a.keep x o h l n; b.keep x o h1 l1 n⟩
theorem Ex.out {W W' : Wd} (e : Ex W W') {a : Addr} {o : HO} (n : NoTb o) (h : W.H a = some o) (u : Out W a) : W'.H a = some o ∧ Out W' a := by
  obtain ⟨h1, l1⟩ := e.keep a o h u.1 n
  exact ⟨h1, l1, by rw [e.f]; exact u.2⟩
theorem TupAt.mono {K : PySem.W.Frag} {W W' : Wd} {a : Addr} {xs : List V} (e : Ex W W') (h : TupAt K W a xs) : TupAt K W' a xs := by
  rcases h with ⟨h, u⟩ | h
  · exact .inl (e.out nt_tup h u)
  · exact .inr h
theorem LstAt.mono {W W' : Wd} {a : Addr} {xs : List V} (e : Ex W W') (h : LstAt W a xs) : LstAt W' a xs := e.out nt_lst h.1 h.2
mutual
theorem Rp.mono {K : PySem.W.Frag} {W W' : Wd} (e : Ex W W') : ∀ (d : D) (v : V), Rp K W v d → Rp K W' v d
  | .none, _, h => by cases h; exact .non
  | .bool b, _, h => by cases h; exact .bl b
  | .int i, _, h => by cases h; exact .int i
  | .str x, _, h => by cases h; exact .str x
  | .list ds, _, h => by
    cases h with
    | lst h1 h2 => exact .lst (h1.mono e) (RpA.mono e ds _ h2)
  | .tuple ds, _, h => by
    cases h with
    | tup h1 h2 => exact .tup (h1.mono e) (RpA.mono e ds _ h2)
  | .dict _, _, h => by cases h
theorem RpA.mono {K : PySem.W.Frag} {W W' : Wd} (e : Ex W W') : ∀ (ds : List D) (vs : List V), RpA K W vs ds → RpA K W' vs ds
  | [], _, h => by cases h; exact .nil
  | d :: ds, _, h => by
    cases h with
    | cons h1 h2 => exact .cons (Rp.mono e d _ h1) (RpA.mono e ds _ h2)
end
theorem RpV.mono {K : PySem.W.Frag} {W W' : Wd} (e : Ex W W') {v : V} {x : Vl} (h : RpV K W v x) : RpV K W' v x := by
  cases x with
  | d x => exact Rp.mono e x v h
  | o i =>
    obtain ⟨a, h1, h2⟩ := h
    obtain ⟨t, ht⟩ := e.m
    exact ⟨a, h1, by rw [← ht, List.getElem?_append_left (List.getElem?_eq_some_iff.mp h2).1]; exact h2⟩
theorem Paired.imp {α β : Type} {F G : α → β → Prop} (f : ∀ a b, F a b → G a b) : ∀ {l₁ : List α} {l₂ : List β}, Paired F l₁ l₂ → Paired G l₁ l₂
  | _, _, .nil => .nil
  | _, _, .cons r t => .cons (f _ _ r) (Paired.imp f t)
theorem RpVs.mono {K : PySem.W.Frag} {W W' : Wd} (e : Ex W W') {vs : List V} {xs : List Vl} (h : RpVs K W vs xs) : RpVs K W' vs xs := Paired.imp (fun _ _ => RpV.mono e) h

/-- one world behind another, new foreign things among what was not there -/
structure Ex2 (W W' : Wd) : Prop where
  f : ∀ a, W'.F a → W.F a ∨ W.H a = none
  m : W.m <+: W'.m
  keep : ∀ a o, W.H a = some o → ¬ Live W a → NoTb o → W'.H a = some o ∧ ¬ Live W' a
theorem Ex.two {W W' : Wd} (e : Ex W W') : Ex2 W W' := ⟨fun a h => .inl (by rw [e.f] at h; exact h), e.m, e.keep⟩
theorem Ex2.trans {W W1 W2 : Wd} (a : Ex2 W W1) (b : Ex W1 W2) : Ex2 W W2 :=
  ⟨fun x h => a.f x (by rw [b.f] at h; exact h), a.m.trans b.m, fun x o h l n => let ⟨h1, l1⟩ := a.keep x o h l n; b.keep x o h1 l1 n⟩
theorem Ex2.out {W W' : Wd} (e : Ex2 W W') {a : Addr} {o : HO} (n : NoTb o) (h : W.H a = some o) (u : Out W a) : W'.H a = some o ∧ Out W' a := by
  obtain ⟨h1, l1⟩ := e.keep a o h u.1 n
  exact ⟨h1, l1, fun z => (e.f a z).elim u.2 fun q => by rw [h] at q; cases q⟩
theorem TupAt.mono2 {K : PySem.W.Frag} {W W' : Wd} {a : Addr} {xs : List V} (e : Ex2 W W') (h : TupAt K W a xs) : TupAt K W' a xs := by
  rcases h with ⟨h, u⟩ | h
  · exact .inl (e.out nt_tup h u)
  · exact .inr h
theorem LstAt.mono2 {W W' : Wd} {a : Addr} {xs : List V} (e : Ex2 W W') (h : LstAt W a xs) : LstAt W' a xs := e.out nt_lst h.1 h.2
mutual
theorem Rp.mono2 {K : PySem.W.Frag} {W W' : Wd} (e : Ex2 W W') : ∀ (d : D) (v : V), Rp K W v d → Rp K W' v d
  | .none, _, h => by cases h; exact .non
  | .bool b, _, h => by cases h; exact .bl b
  | .int i, _, h => by cases h; exact .int i
  | .str x, _, h => by cases h; exact .str x
  | .list ds, _, h => by
    cases h with
    | lst h1 h2 => exact .lst (h1.mono2 e) (RpA.mono2 e ds _ h2)
  | .tuple ds, _, h => by
    cases h with
    | tup h1 h2 => exact .tup (h1.mono2 e) (RpA.mono2 e ds _ h2)
  | .dict _, _, h => by cases h
theorem RpA.mono2 {K : PySem.W.Frag} {W W' : Wd} (e : Ex2 W W') : ∀ (ds : List D) (vs : List V), RpA K W vs ds → RpA K W' vs ds
  | [], _, h => by cases h; exact .nil
  | d :: ds, _, h => by
    cases h with
    | cons h1 h2 => exact .cons (Rp.mono2 e d _ h1) (RpA.mono2 e ds _ h2)
end
theorem RpV.mono2 {K : PySem.W.Frag} {W W' : Wd} (e : Ex2 W W') {v : V} {x : Vl} (h : RpV K W v x) : RpV K W' v x := by
  cases x with
  | d x => exact Rp.mono2 e x v h
  | o i =>
    obtain ⟨a, h1, h2⟩ := h
    obtain ⟨t, ht⟩ := e.m
    exact ⟨a, h1, by rw [← ht, List.getElem?_append_left (List.getElem?_eq_some_iff.mp h2).1]; exact h2⟩

/-- the tables of code objects -/
class Tb where
  T : List (Addr × Str)
  cs : List (Addr × Addr)
section
variable (K : PySem.W.Frag) (cl xc : Nat → Addr)
def FsR (W : Wd) : List (Str × Vl) → List (Str × V) → Prop := Paired fun p q => p.1 = q.1 ∧ RpV K W q.2 p.2
def KsR (W : Wd) : List (Key × Vl) → List (Key × V) → Prop := Paired fun p q => p.1 = q.1 ∧ RpV K W q.2 p.2
def ObR (W : Wd) (a : Addr) : Ob → Prop
  | .dead => True
  | .lst ds => ∃ xs, W.H a = some (.lst xs) ∧ RpA K W xs ds
  | .scr ds => ∃ xs, ScrAt K W.H a xs ∧ RpA K W xs ds
  | .ins c fs => ∃ dx gs, W.H a = some (.ins (cl c) dx gs) ∧ FsR K W fs gs
  | .dct kvs => ∃ gs, W.H a = some (.dK gs) ∧ KsR K W kvs gs
structure Wf [Tb] (W : Wd) : Prop where
  len : W.m.length = W.st.length
  inj : ∀ (i j : Nat) (a : Addr) (o u : Ob), W.m[i]? = some a → W.m[j]? = some a → W.st[i]? = some o → W.st[j]? = some u → isDead o = false → isDead u = false → i = j
  nf : ∀ (i : Nat) (a : Addr) (o : Ob), W.m[i]? = some a → W.st[i]? = some o → isDead o = false → ¬ W.F a
  ob : ∀ (i : Nat) (a : Addr) (o : Ob), W.m[i]? = some a → W.st[i]? = some o → ObR K cl W a o
  ft : ∀ a, W.F a → ∃ o, W.H a = some o ∧ NoTb o
  tb : LamX.Tabs Tb.T W.H
structure EnvR (W : Wd) (σ : L2.St) (env : Env) : Prop where
  len : σ.length = env.length
  at_ : ∀ (i : Nat) (x : Vl), env[i]? = some (some x) → ∃ v, σ[i]? = some (some v) ∧ RpV K W v x
variable {K cl xc}
theorem EnvR.mono {W W' : Wd} {σ : L2.St} {env : Env} (h : EnvR K W σ env) (e : Ex W W') : EnvR K W' σ env :=
  ⟨h.len, fun i x q => let ⟨v, h1, h2⟩ := h.at_ i x q; ⟨v, h1, h2.mono e⟩⟩
theorem EnvR.mono2 {W W' : Wd} {σ : L2.St} {env : Env} (h : EnvR K W σ env) (e : Ex2 W W') : EnvR K W' σ env :=
  ⟨h.len, fun i x q => let ⟨v, h1, h2⟩ := h.at_ i x q; ⟨v, h1, h2.mono2 e⟩⟩
theorem EnvR.set {W : Wd} {σ : L2.St} {env : Env} (h : EnvR K W σ env) (i : Nat) {v : V} {x : Vl} (r : RpV K W v x) : EnvR K W (σ.set i (some v)) (env.set i (some x)) := by
  refine ⟨by simp [h.len], fun j y q => ?_⟩
  by_cases hj : i = j
  · subst hj
    by_cases hl : i < env.length
    · rw [List.getElem?_set_self hl] at q
      cases q
      exact ⟨v, List.getElem?_set_self (by rw [h.len]; exact hl), r⟩
    · rw [List.getElem?_eq_none (by simpa using hl)] at q
      cases q
  · rw [List.getElem?_set_ne hj] at q
    obtain ⟨u, h1, h2⟩ := h.at_ j y q
    exact ⟨u, by rw [List.getElem?_set_ne hj]; exact h1, h2⟩
theorem EnvR.clear {W : Wd} {σ : L2.St} {env : Env} (h : EnvR K W σ env) (i : Nat) : EnvR K W (σ.set i none) (env.set i none) := by
  refine ⟨by simp [h.len], fun j y q => ?_⟩
  by_cases hj : i = j
  · subst hj
    by_cases hl : i < env.length
    · rw [List.getElem?_set_self hl] at q
      cases q
    · rw [List.getElem?_eq_none (by simpa using hl)] at q
      cases q
  · rw [List.getElem?_set_ne hj] at q
    obtain ⟨u, h1, h2⟩ := h.at_ j y q
    exact ⟨u, by rw [List.getElem?_set_ne hj]; exact h1, h2⟩
theorem EnvR.wipe {W : Wd} {σ : L2.St} {env : Env} (h : EnvR K W σ env) : ∀ own : List Nat, EnvR K W (L2.wipe σ own) (Dw.wipe env own)
  | [] => h
  | v :: vs => (EnvR.wipe h vs).clear v
end

/-! ### what is wanted behind a run -/
section
variable (K : PySem.W.Frag) (cl xc : Nat → Addr) (E : XK) [Tb]
def Post {α : Type} (W : Wd) (r : R α) (q : α → Wd → Prop) : Prop := match r with
  | .ok x st => ∀ H m, Ex W ⟨H, W.F, m, st⟩ → Wf K cl ⟨H, W.F, m, st⟩ → q x ⟨H, W.F, m, st⟩
  | .ex c st => ∀ H m, Ex W ⟨H, W.F, m, st⟩ → Wf K cl ⟨H, W.F, m, st⟩ → E (.ref (xc c)) none H
  | .no => False
/-- an expression's reading -/
def tE (f : Env → M Vl) : TE := fun σ H Q => ∃ env W, W.H = H ∧ EnvR K W σ env ∧ Wf K cl W ∧ Post K cl xc E W (f env W.st) fun x W' => ∀ v, RpV K W' v x → Q v W'.H
def tT (f : Env → M Bool) : TT := fun σ H Q => ∃ env W, W.H = H ∧ EnvR K W σ env ∧ Wf K cl W ∧ Post K cl xc E W (f env W.st) fun b W' => Q b W'.H
def tA (f : Env → M (List Vl)) : TA := fun σ H Q => ∃ env W, W.H = H ∧ EnvR K W σ env ∧ Wf K cl W ∧ Post K cl xc E W (f env W.st) fun xs W' => ∀ vs, RpVs K W' vs xs → Q vs W'.H
def tO (f : Env → M (Option Int)) : TO := fun σ H Q => ∃ env W, W.H = H ∧ EnvR K W σ env ∧ Wf K cl W ∧ Post K cl xc E W (f env W.st) fun o W' => Q o W'.H
/-- where a block's ends lead -/
def FlR (D : Ends) (σ : L2.St) (W : Wd) : Fl → Prop
  | .nx => D.nx σ W.H
  | .rt x => ∀ v, RpV K W v x → D.rt v W.H
  | .bk => D.bk σ W.H
  | .ct => D.ct σ W.H
def tS (f : Env → M (Fl × Env)) : TS := fun D σ H => ∃ env W, W.H = H ∧ EnvR K W σ env ∧ Wf K cl W ∧ Post K cl xc E W (f env W.st) fun p W' => ∀ σ', EnvR K W' σ' p.2 → FlR K D σ' W' p.1
variable {K cl xc E}
theorem Post.imp {α : Type} {W : Wd} {r : R α} {q q' : α → Wd → Prop} (h : Post K cl xc E W r q) (f : ∀ x W', Ex W W' → Wf K cl W' → q x W' → q' x W') : Post K cl xc E W r q' := by
  cases r with
  | ok x st => exact fun H m e w => f x _ e w (h H m e w)
  | ex c st => exact h
  | no => exact h
theorem Post.from {α : Type} {W W' : Wd} {r : R α} {q : α → Wd → Prop} (e : Ex W W') (h : Post K cl xc E W r q) : Post K cl xc E W' r q := by
  cases r with
  | ok x st =>
    intro H m e' w
    have z := e.f
    rw [z] at e' w ⊢
    exact h H m (e.trans e') w
  | ex c st =>
    intro H m e' w
    have z := e.f
    rw [z] at e' w
    exact h H m (e.trans e') w
  | no => exact h
/-- a run's parts -/
theorem Post.bind {α β : Type} {W : Wd} {m : M α} {f : α → M β} {q : β → Wd → Prop} (h : Post K cl xc E W ((m >>= f) W.st) q) :
    Post K cl xc E W (m W.st) fun x W' => Post K cl xc E W' (f x W'.st) q := by
  rw [M.bind_run] at h
  cases e : m W.st with
  | ok x st =>
    rw [e] at h
    exact fun H m' ex w => Post.from ex h
  | ex c st =>
    rw [e] at h
    exact h
  | no =>
    rw [e] at h
    exact h
theorem Post.pure {α : Type} {W : Wd} {a : α} {q : α → Wd → Prop} (w : Wf K cl W) (h : Post K cl xc E W ((Pure.pure a : M α) W.st) q) : q a W := h W.H W.m (Ex.refl W) w
theorem Post.no {α : Type} {W : Wd} {q : α → Wd → Prop} (h : Post K cl xc E W ((M.no : M α) W.st) q) : False := h
theorem Post.okS {α : Type} {W : Wd} {b : Bool} {a : α} {q : α → Wd → Prop} (w : Wf K cl W) (h : Post K cl xc E W ((Dw.okS b a : M α) W.st) q) : b = true ∧ q a W := by
  cases b with
  | true => exact ⟨rfl, Post.pure w h⟩
  | false => exact h.elim
end
end Dw

namespace Dw
open PySem L2
section
variable {K : PySem.W.Frag} {cl xc : Nat → Addr} {E : XK} {W W' : Wd} {a p : Addr} [Tb]

theorem FsR.mono {fs gs} (e : Ex W W') (h : FsR K W fs gs) : FsR K W' fs gs := Paired.imp (fun _ _ q => ⟨q.1, q.2.mono e⟩) h
theorem KsR.mono {fs gs} (e : Ex W W') (h : KsR K W fs gs) : KsR K W' fs gs := Paired.imp (fun _ _ q => ⟨q.1, q.2.mono e⟩) h
theorem ObR.mono (e : Ex W W') (ha : ∀ o, W.H a = some o → W'.H a = some o) : ∀ {ob : Ob}, ObR K cl W a ob → ObR K cl W' a ob
  | .dead, _ => trivial
  | .lst _, ⟨xs, h1, h2⟩ => ⟨xs, ha _ h1, RpA.mono e _ _ h2⟩
  | .scr _, ⟨xs, h1, h2⟩ => ⟨xs, by
      rcases h1 with ⟨o, h⟩ | h
      · exact .inl ⟨o, ha _ h⟩
      · exact .inr h, RpA.mono e _ _ h2⟩
  | .ins _ _, ⟨dx, gs, h1, h2⟩ => ⟨dx, gs, ha _ h1, h2.mono e⟩
  | .dct _, ⟨gs, h1, h2⟩ => ⟨gs, ha _ h1, h2.mono e⟩
theorem ObR.mono' (e : Ex W W') (ha : ∀ o, W.H a = some o → NoTb o → W'.H a = some o) : ∀ {ob : Ob}, ObR K cl W a ob → ObR K cl W' a ob
  | .dead, _ => trivial
  | .lst _, ⟨xs, h1, h2⟩ => ⟨xs, ha _ h1 (fun _ q => by cases q), RpA.mono e _ _ h2⟩
  | .scr _, ⟨xs, h1, h2⟩ => ⟨xs, by
      rcases h1 with ⟨o, h⟩ | h
      · exact .inl ⟨o, ha _ h (fun _ q => by cases q)⟩
      · exact .inr h, RpA.mono e _ _ h2⟩
  | .ins _ _, ⟨dx, gs, h1, h2⟩ => ⟨dx, gs, ha _ h1 (fun _ q => by cases q), h2.mono e⟩
  | .dct _, ⟨gs, h1, h2⟩ => ⟨gs, ha _ h1 (fun _ q => by cases q), h2.mono e⟩
theorem ObR.there {ob : Ob} (h : ObR K cl W a ob) (d : isDead ob = false) : ∃ o, W.H a = some o ∧ NoTb o ∧ ∀ f, o ≠ .ext f := by
  cases ob with
  | dead => cases d
  | scr _ => cases d
  | lst _ => obtain ⟨xs, h, _⟩ := h; exact ⟨_, h, (fun _ q => by cases q), (fun _ q => by cases q)⟩
  | ins _ _ => obtain ⟨dx, gs, h, _⟩ := h; exact ⟨_, h, (fun _ q => by cases q), (fun _ q => by cases q)⟩
  | dct _ => obtain ⟨gs, h, _⟩ := h; exact ⟨_, h, (fun _ q => by cases q), (fun _ q => by cases q)⟩
theorem Wf.live {a : Addr} (w : Wf K cl W) (h : Live W a) : ∃ o, W.H a = some o ∧ NoTb o ∧ ∀ f, o ≠ .ext f := by
  obtain ⟨i, o, h1, h2, h3⟩ := h
  exact (w.ob i a o h1 h2).there h3
theorem Wf.out_of_none (w : Wf K cl W) (h : W.H p = none) : Out W p := by
  refine ⟨fun l => ?_, fun f => ?_⟩
  · obtain ⟨o, e, _⟩ := w.live l
    rw [h] at e; cases e
  · obtain ⟨o, e, _⟩ := w.ft p f
    rw [h] at e; cases e

/-- tables stand where tables and code objects stay -/
theorem tabs_set {T : List (Addr × Str)} {H H' : Hp} (t : LamX.Tabs T H) (e : ∀ b o, H b = some o → ((∃ ps, o = .tbl ps) ∨ ∃ f, o = .ext f) → H' b = some o) : LamX.Tabs T H' := fun p hp => by
  obtain ⟨ps, h1, h2, h3⟩ := t p hp
  refine ⟨ps, e _ _ h1 (.inl ⟨ps, rfl⟩), h2, fun pos cv hc => ?_⟩
  obtain ⟨c, e1, e2⟩ := h3 pos cv hc
  exact ⟨c, e1, e _ _ e2 (.inr ⟨_, rfl⟩)⟩
/-! ### a new thing that never changes -/
theorem Ex.new {o : HO} (h : W.H p = none) : Ex W ⟨upd W.H p o, W.F, W.m, W.st⟩ :=
  ⟨rfl, List.prefix_refl _, fun b u e l _ => ⟨by show upd W.H p o b = some u; rw [upd_ne (ne_of_none e h)]; exact e, l⟩⟩
theorem Wf.new {o : HO} (w : Wf K cl W) (h : W.H p = none) : Wf K cl ⟨upd W.H p o, W.F, W.m, W.st⟩ :=
  ⟨w.len, w.inj, w.nf, fun i b u h1 h2 => (w.ob i b u h1 h2).mono (Ex.new h) fun o' e => by
      show upd W.H p o b = some o'
      rw [upd_ne (ne_of_none e h)]; exact e,
    fun b f => by
      obtain ⟨o', e, n⟩ := w.ft b f
      exact ⟨o', by show upd W.H p o b = some o'; rw [upd_ne (ne_of_none e h)]; exact e, n⟩,
    w.tb.ext fun b u e => by show upd W.H p o b = some u; rw [upd_ne (ne_of_none e h)]; exact e⟩
theorem out_new {o : HO} (w : Wf K cl W) (h : W.H p = none) : Out ⟨upd W.H p o, W.F, W.m, W.st⟩ p := w.out_of_none h
/-- .. a tuple, a list -/
theorem rp_newTup {xs : List V} {ds : List D} (w : Wf K cl W) (h : W.H p = none) (r : RpA K W xs ds) : Rp K ⟨upd W.H p (.tup xs), W.F, W.m, W.st⟩ (.ref p) (.tuple ds) :=
  .tup (.inl ⟨upd_same, out_new w h⟩) (RpA.mono (Ex.new h) _ _ r)
theorem rp_newLst {xs : List V} {ds : List D} (w : Wf K cl W) (h : W.H p = none) (r : RpA K W xs ds) : Rp K ⟨upd W.H p (.lst xs), W.F, W.m, W.st⟩ (.ref p) (.list ds) :=
  .lst ⟨upd_same, out_new w h⟩ (RpA.mono (Ex.new h) _ _ r)

/-! ### a new object of the store -/
theorem live_more {H : Hp} {ob : Ob} (hl : W.m.length = W.st.length) {a : Addr} : Live ⟨H, W.F, W.m ++ [p], W.st ++ [ob]⟩ a → Live W a ∨ (a = p ∧ isDead ob = false) := by
  rintro ⟨i, o, h1, h2, h3⟩
  have h1 : (W.m ++ [p])[i]? = some a := h1
  have h2 : (W.st ++ [ob])[i]? = some o := h2
  by_cases hi : i < W.m.length
  · rw [List.getElem?_append_left hi] at h1
    rw [List.getElem?_append_left (by omega)] at h2
    exact .inl ⟨i, o, h1, h2, h3⟩
  · rw [List.getElem?_append_right (by omega)] at h1 h2
    have e : i - W.m.length = 0 := by
      have := (List.getElem?_eq_some_iff.mp h1).1
      simp at this
      omega
    rw [e] at h1
    rw [← hl, e] at h2
    simp at h1 h2
    exact .inr ⟨h1.symm, by rw [h2]; exact h3⟩
theorem Ex.newO {H : Hp} {ob : Ob} (w : Wf K cl W) (h : W.H p = none) (hk : ∀ b u, W.H b = some u → H b = some u) : Ex W ⟨H, W.F, W.m ++ [p], W.st ++ [ob]⟩ :=
  ⟨rfl, ⟨[p], rfl⟩, fun b u e l _ => ⟨hk b u e, fun z => by
    rcases live_more w.len z with z | ⟨z, _⟩
    · exact l z
    · rw [z, h] at e; cases e⟩⟩
theorem Wf.newO {H : Hp} {ob : Ob} (w : Wf K cl W) (h : W.H p = none) (hk : ∀ b u, W.H b = some u → H b = some u) (r : ObR K cl ⟨H, W.F, W.m ++ [p], W.st ++ [ob]⟩ p ob) :
    Wf K cl ⟨H, W.F, W.m ++ [p], W.st ++ [ob]⟩ := by
  have ex : Ex W ⟨H, W.F, W.m ++ [p], W.st ++ [ob]⟩ := Ex.newO w h hk
  have sp : ∀ {i : Nat} {a : Addr} {o : Ob}, (W.m ++ [p])[i]? = some a → (W.st ++ [ob])[i]? = some o → (W.m[i]? = some a ∧ W.st[i]? = some o) ∨ (i = W.m.length ∧ a = p ∧ o = ob) := by
    intro i a o h1 h2
    by_cases hi : i < W.m.length
    · rw [List.getElem?_append_left hi] at h1
      rw [List.getElem?_append_left (by have := w.len; omega)] at h2
      exact .inl ⟨h1, h2⟩
    · rw [List.getElem?_append_right (by omega)] at h1
      rw [List.getElem?_append_right (by have := w.len; omega)] at h2
      have e : i - W.m.length = 0 := by
        have := (List.getElem?_eq_some_iff.mp h1).1
        simp at this
        omega
      rw [e] at h1
      rw [← w.len, e] at h2
      simp at h1 h2
      exact .inr ⟨by omega, h1.symm, h2.symm⟩
  have np : ∀ {i : Nat} {o : Ob}, W.m[i]? = some p → W.st[i]? = some o → isDead o = false → False := fun h1 h2 h3 => by
    obtain ⟨u, e, _⟩ := (w.ob _ _ _ h1 h2).there h3
    rw [h] at e; cases e
  refine ⟨by simp [w.len], fun i j b o u h1 h2 h3 h4 d1 d2 => ?_, fun i b o h1 h2 d => ?_, fun i b o h1 h2 => ?_, fun b f => ?_, w.tb.ext hk⟩
  · rcases sp h1 h3 with ⟨x1, x2⟩ | ⟨x1, x2, x3⟩ <;> rcases sp h2 h4 with ⟨y1, y2⟩ | ⟨y1, y2, y3⟩
    · exact w.inj i j b o u x1 y1 x2 y2 d1 d2
    · subst y2; exact (np x1 x2 d1).elim
    · subst x2; exact (np y1 y2 d2).elim
    · rw [x1, y1]
  · rcases sp h1 h2 with ⟨x1, x2⟩ | ⟨x1, x2, x3⟩
    · exact w.nf i b o x1 x2 d
    · subst x2
      intro f
      obtain ⟨u, e, _⟩ := w.ft _ f
      rw [h] at e; cases e
  · rcases sp h1 h2 with ⟨x1, x2⟩ | ⟨x1, x2, x3⟩
    · exact (w.ob i b o x1 x2).mono ex fun u e => hk b u e
    · subst x2 x3; exact r
  · obtain ⟨u, e, n⟩ := w.ft b f
    exact ⟨u, hk b u e, n⟩

/-! ### an object of the store changed, or frozen -/
theorem live_set {H : Hp} {ob ob' : Ob} {i : Nat} (hi : W.m[i]? = some a) (ho : W.st[i]? = some ob) (d : isDead ob = false) {b : Addr} : Live ⟨H, W.F, W.m, W.st.set i ob'⟩ b → Live W b := by
  rintro ⟨j, o, h1, h2, h3⟩
  by_cases hj : i = j
  · subst hj
    exact ⟨i, ob, h1, ho, d⟩
  · have h2 : (W.st.set i ob')[j]? = some o := h2
    rw [List.getElem?_set_ne hj] at h2
    exact ⟨j, o, h1, h2, h3⟩
theorem Ex.set {H : Hp} {ob ob' : Ob} {i : Nat} (hi : W.m[i]? = some a) (ho : W.st[i]? = some ob) (d : isDead ob = false) (hk : ∀ b u, b ≠ a → W.H b = some u → H b = some u) : Ex W ⟨H, W.F, W.m, W.st.set i ob'⟩ :=
  ⟨rfl, List.prefix_refl _, fun b u e l _ => ⟨hk b u (fun z => l (by rw [z]; exact ⟨i, ob, hi, ho, d⟩)) e, fun z => l (live_set hi ho d z)⟩⟩
theorem Wf.set {H : Hp} {ob ob' : Ob} {i : Nat} (w : Wf K cl W) (hi : W.m[i]? = some a) (ho : W.st[i]? = some ob) (d : isDead ob = false) (hk : ∀ b u, b ≠ a → W.H b = some u → H b = some u)
    (r : ObR K cl ⟨H, W.F, W.m, W.st.set i ob'⟩ a ob') : Wf K cl ⟨H, W.F, W.m, W.st.set i ob'⟩ := by
  have ex : Ex W ⟨H, W.F, W.m, W.st.set i ob'⟩ := Ex.set hi ho d hk
  have hil : i < W.st.length := (List.getElem?_eq_some_iff.mp ho).1
  have sp : ∀ {j : Nat} {b : Addr} {o : Ob}, W.m[j]? = some b → (W.st.set i ob')[j]? = some o → (j = i ∧ b = a ∧ o = ob') ∨ (j ≠ i ∧ W.st[j]? = some o) := by
    intro j b o h1 h2
    by_cases hj : i = j
    · subst hj
      rw [List.getElem?_set_self hil] at h2
      rw [hi] at h1
      cases h1; cases h2
      exact .inl ⟨rfl, rfl, rfl⟩
    · rw [List.getElem?_set_ne hj] at h2
      exact .inr ⟨fun e => hj e.symm, h2⟩
  have lv : ∀ {j : Nat} {b : Addr} {o : Ob}, W.m[j]? = some b → (W.st.set i ob')[j]? = some o → isDead o = false → ∃ u, W.st[j]? = some u ∧ isDead u = false := by
    intro j b o h1 h2 h3
    rcases sp h1 h2 with ⟨rfl, _, _⟩ | ⟨_, x⟩
    · exact ⟨ob, ho, d⟩
    · exact ⟨o, x, h3⟩
  have tb : LamX.Tabs Tb.T H := tabs_set w.tb fun b o' e t => hk b o' (fun z => by
    subst z
    obtain ⟨u, e1, e2, e3⟩ := (w.ob _ _ _ hi ho).there d
    rw [e] at e1
    cases e1
    rcases t with ⟨ps, t⟩ | ⟨f, t⟩
    · exact e2 ps t
    · exact e3 f t) e
  refine ⟨by simp [w.len], fun j k b o u h1 h2 h3 h4 d1 d2 => ?_, fun j b o h1 h2 d1 => ?_, fun j b o h1 h2 => ?_, fun b f => ?_, tb⟩
  · obtain ⟨x, x1, x2⟩ := lv h1 h3 d1
    obtain ⟨y, y1, y2⟩ := lv h2 h4 d2
    exact w.inj j k b x y h1 h2 x1 y1 x2 y2
  · obtain ⟨x, x1, x2⟩ := lv h1 h2 d1
    exact w.nf j b x h1 x1 x2
  · rcases sp h1 h2 with ⟨rfl, rfl, rfl⟩ | ⟨x1, x2⟩
    · exact r
    · cases hd : isDead o with
      | false =>
        refine (w.ob j b o h1 x2).mono ex fun u e => hk b u (fun z => ?_) e
        subst z
        exact x1 (w.inj j i _ o ob h1 hi x2 ho hd d)
      | true =>
        have q := w.ob j b o h1 x2
        cases o with
        | dead => trivial
        | scr ds =>
          obtain ⟨xs, h, h'⟩ := q
          refine ⟨xs, ?_, RpA.mono ex _ _ h'⟩
          rcases h with ⟨y, e⟩ | h
          rotate_left
          · exact .inr h
          · refine .inl ⟨y, hk b _ (fun q => ?_) e⟩
            subst q
            have := w.ob i b ob hi ho
            cases ob with
            | dead => cases d
            | scr _ => cases d
            | lst _ => obtain ⟨_, h, _⟩ := this; rw [e] at h; cases h
            | ins _ _ => obtain ⟨_, _, h, _⟩ := this; rw [e] at h; cases h
            | dct _ => obtain ⟨_, h, _⟩ := this; rw [e] at h; cases h
        | lst _ => cases hd
        | ins _ _ => cases hd
        | dct _ => cases hd
  · obtain ⟨u, e, n⟩ := w.ft b f
    exact ⟨u, hk b u (fun z => w.nf i a ob hi ho d (by rw [← z]; exact f)) e, n⟩
end
end Dw

namespace Dw
open PySem L2
variable [Tb]
theorem szE : szLine = sizeLine := by rw [sizeLine_eq]; rfl
section
variable {K : PySem.W.Frag} {cl xc : Nat → Addr} {E : XK} {W W' : Wd}

theorem RpA.len : ∀ {vs : List V} {ds : List D}, RpA K W vs ds → vs.length = ds.length
  | _, [], h => by cases h; rfl
  | _, d :: ds, h => by
    cases h with
    | cons _ t => simp [RpA.len t]
theorem RpA.append : ∀ {vs us : List V} {ds es : List D}, RpA K W vs ds → RpA K W us es → RpA K W (vs ++ us) (ds ++ es)
  | _, _, [], _, h, g => by cases h; exact g
  | _, _, d :: ds, _, h, g => by
    cases h with
    | cons r t => exact .cons r (RpA.append t g)
theorem RpA.take : ∀ {vs : List V} {ds : List D} (n : Nat), RpA K W vs ds → RpA K W (vs.take n) (ds.take n)
  | _, [], n, h => by cases h; cases n <;> exact .nil
  | _, d :: ds, 0, h => by simp; exact .nil
  | _, d :: ds, n + 1, h => by
    cases h with
    | cons r t => exact .cons r (RpA.take n t)
theorem RpA.drop : ∀ {vs : List V} {ds : List D} (n : Nat), RpA K W vs ds → RpA K W (vs.drop n) (ds.drop n)
  | _, [], n, h => by cases h; cases n <;> exact .nil
  | _, d :: ds, 0, h => by simpa using h
  | _, d :: ds, n + 1, h => by
    cases h with
    | cons r t => simpa using RpA.drop n t
theorem RpA.get : ∀ {vs : List V} {ds : List D} {i : Nat} {d : D}, RpA K W vs ds → ds[i]? = some d → ∃ v, vs[i]? = some v ∧ Rp K W v d
  | _, [], _, _, _, e => by simp at e
  | _, x :: ds, 0, d, h, e => by
    cases h with
    | cons r t => simp at e; subst e; exact ⟨_, rfl, r⟩
  | _, x :: ds, i + 1, d, h, e => by
    cases h with
    | cons r t =>
      obtain ⟨v, h1, h2⟩ := RpA.get (i := i) t (by simpa using e)
      exact ⟨v, by simpa using h1, h2⟩
theorem RpA.set : ∀ {vs : List V} {ds : List D} (i : Nat) {v : V} {d : D}, RpA K W vs ds → Rp K W v d → RpA K W (vs.set i v) (ds.set i d)
  | _, [], _, _, _, h, _ => by cases h; exact .nil
  | _, x :: ds, 0, _, _, h, r => by
    cases h with
    | cons _ t => exact .cons r t
  | _, x :: ds, i + 1, _, _, h, r => by
    cases h with
    | cons q t => exact .cons q (RpA.set i t r)
theorem RpA.dropLast : ∀ {vs : List V} {ds : List D}, RpA K W vs ds → RpA K W vs.dropLast ds.dropLast := fun {vs ds} h => by
  rw [List.dropLast_eq_take, List.dropLast_eq_take, h.len]
  exact h.take _
theorem RpA.rep {vs : List V} {ds : List D} (h : RpA K W vs ds) : ∀ n : Nat, RpA K W (rep vs n) (rep ds n)
  | 0 => .nil
  | n + 1 => by
    unfold Dw.rep
    rw [List.replicate_succ, List.replicate_succ, List.flatten_cons, List.flatten_cons]
    exact h.append (RpA.rep h n)
theorem RpA.rev : ∀ {vs : List V} {ds : List D}, RpA K W vs ds → RpA K W vs.reverse ds.reverse
  | _, [], h => by cases h; exact .nil
  | _, d :: ds, h => by
    cases h with
    | cons r t => rw [List.reverse_cons, List.reverse_cons]; exact (RpA.rev t).append (.cons r .nil)

/-! ### dicts -/
theorem KsR.get {kvs : List (Key × Vl)} {gs : List (Key × V)} (h : KsR K W kvs gs) (k : Key) : match dGet kvs k with
    | some x => ∃ v, valV gs k = some v ∧ RpV K W v x
    | none => valV gs k = none := by
  unfold KsR at h
  induction h with
  | nil => exact rfl
  | @cons p q ps qs r t ih =>
    obtain ⟨k1, x⟩ := p
    obtain ⟨k2, v⟩ := q
    obtain ⟨e, r⟩ := r
    simp only at e
    subst e
    unfold dGet valV at ih ⊢
    simp only [List.find?_cons]
    by_cases c : k1 = k
    · simp [c]
      exact r
    · simp [c]
      simpa using ih
theorem KsR.some_ {kvs : List (Key × Vl)} {gs : List (Key × V)} (h : KsR K W kvs gs) (k : Key) : (valV gs k).isSome = (dGet kvs k).isSome := by
  have := h.get k
  cases e : dGet kvs k with
  | none => rw [e] at this; rw [this]; rfl
  | some x => rw [e] at this; obtain ⟨v, h1, _⟩ := this; rw [h1]; rfl
theorem KsR.any_ {kvs : List (Key × Vl)} {gs : List (Key × V)} (h : KsR K W kvs gs) (k : Key) : (kvs.any fun kv => decide (kv.1 = k)) = gs.any fun kv => decide (kv.1 = k) := by
  unfold KsR at h
  induction h with
  | nil => rfl
  | @cons p q ps qs r t ih => rw [List.any_cons, List.any_cons, ih, r.1]
theorem KsR.app {as bs : List (Key × Vl)} {gs fs : List (Key × V)} (h : KsR K W as gs) (g : KsR K W bs fs) : KsR K W (as ++ bs) (gs ++ fs) := by
  unfold KsR at h
  induction h with
  | nil => exact g
  | cons r _ ih => exact .cons r ih
theorem KsR.repl {k : Key} {x : Vl} {v : V} (r : RpV K W v x) : ∀ {kvs : List (Key × Vl)} {gs : List (Key × V)}, KsR K W kvs gs → KsR K W (kvs.map fun kv => if kv.1 = k then (kv.1, x) else kv) (gs.map fun kv => if kv.1 = k then (kv.1, v) else kv)
  | _, _, .nil => .nil
  | _, _, .cons r' t => by
    refine .cons ?_ (KsR.repl r t)
    dsimp only
    rw [r'.1]
    split
    · exact ⟨rfl, r⟩
    · exact ⟨r'.1, r'.2⟩
theorem KsR.put {kvs : List (Key × Vl)} {gs : List (Key × V)} (h : KsR K W kvs gs) (k : Key) {x : Vl} {v : V} (r : RpV K W v x) : KsR K W (dPut kvs k x) (putK gs k v) := by
  unfold dPut putK
  rw [h.any_ k]
  split
  · exact h.repl r
  · exact h.app (.cons ⟨rfl, r⟩ .nil)
theorem KsR.len {kvs : List (Key × Vl)} {gs : List (Key × V)} (h : KsR K W kvs gs) : kvs.length = gs.length := by
  unfold KsR at h
  induction h with
  | nil => rfl
  | cons _ _ ih => simp [ih]
theorem KsR.mrg : ∀ {more : List (Key × Vl)} {ms : List (Key × V)} {kvs : List (Key × Vl)} {gs : List (Key × V)}, KsR K W kvs gs → KsR K W more ms → KsR K W (dMrg kvs more) (mergeK gs ms)
  | _, _, _, _, h, .nil => h
  | _, _, _, _, h, .cons (a := p) (b := q) r t => by
    have h2 := h.put p.1 r.2
    rw [r.1] at h2
    have := KsR.mrg h2 t
    unfold dMrg mergeK at this ⊢
    rw [List.foldl_cons, List.foldl_cons, r.1]
    exact this

/-! ### as the layer's data -/
theorem TupAt.sq {a : Addr} {xs : List V} (h : TupAt K W a xs) : SqT K W.H a xs := by
  rcases h with ⟨h, _⟩ | h
  · exact .inl (.inl h)
  · exact .inr h
theorem LstAt.sq {a : Addr} {xs : List V} (h : LstAt W a xs) : SqL K W.H a xs := .inl (.inl h.1)
mutual
theorem Rp.dp : ∀ (d : D) (v : V), Rp K W v d → Dp K W.H v d
  | .none, _, h => by cases h; exact .non
  | .bool b, _, h => by cases h; exact .bl b
  | .int i, _, h => by cases h; exact .int i
  | .str x, _, h => by cases h; exact .str x
  | .list ds, _, h => by
    cases h with
    | lst h1 h2 => exact .lst h1.sq (RpA.dp ds _ h2)
  | .tuple ds, _, h => by
    cases h with
    | tup h1 h2 => exact .tup h1.sq (RpA.dp ds _ h2)
  | .dict _, _, h => by cases h
theorem RpA.dp : ∀ (ds : List D) (vs : List V), RpA K W vs ds → DpAll K W.H vs ds
  | [], _, h => by cases h; exact .nil
  | d :: ds, _, h => by
    cases h with
    | cons h1 h2 => exact .cons (Rp.dp d _ h1) (RpA.dp ds _ h2)
end

/-! ### the store looked at -/
theorem Post.getO {α : Type} {i : Nat} {f : Ob → M α} {q : α → Wd → Prop} (w : Wf K cl W) (h : Post K cl xc E W ((Dw.getO i >>= f) W.st) q) : ∃ ob a, W.st[i]? = some ob ∧ W.m[i]? = some a ∧ ObR K cl W a ob ∧ Post K cl xc E W (f ob W.st) q := by
  rw [M.bind_run] at h
  unfold Dw.getO at h
  cases e : W.st[i]? with
  | none => rw [e] at h; exact h.elim
  | some ob =>
    rw [e] at h
    have hi : i < W.m.length := by rw [w.len]; exact (List.getElem?_eq_some_iff.mp e).1
    have em : W.m[i]? = some W.m[i] := List.getElem?_eq_getElem hi
    exact ⟨ob, W.m[i], rfl, em, w.ob i _ ob em e, h⟩
/-- a list's items -/
theorem Post.getO' {α : Type} {W0 : Wd} {i : Nat} {f : Ob → M α} {q : α → Wd → Prop} (w : Wf K cl W) (h : Post K cl xc E W0 ((Dw.getO i >>= f) W.st) q) : ∃ ob a, W.st[i]? = some ob ∧ W.m[i]? = some a ∧ ObR K cl W a ob ∧ Post K cl xc E W0 (f ob W.st) q := by
  have hh : (Dw.getO i >>= f) W.st = match W.st[i]? with
      | some o => f o W.st
      | none => .no := by
    rw [M.bind_run]
    unfold Dw.getO
    cases W.st[i]? <;> rfl
  rw [hh] at h
  cases e : W.st[i]? with
  | none => rw [e] at h; exact h.elim
  | some o =>
    rw [e] at h
    have hl : i < W.m.length := by rw [w.len]; exact (List.getElem?_eq_some_iff.mp e).1
    exact ⟨o, W.m[i], rfl, List.getElem?_eq_getElem hl, w.ob i _ o (List.getElem?_eq_getElem hl) e, h⟩
theorem Post.lItems {α : Type} {v : V} {x : Vl} {f : List D → M α} {q : α → Wd → Prop} (w : Wf K cl W) (r : RpV K W v x) (h : Post K cl xc E W ((Dw.lItems x >>= f) W.st) q) :
    ∃ a xs ds, v = .ref a ∧ W.H a = some (.lst xs) ∧ RpA K W xs ds ∧ Post K cl xc E W (f ds W.st) q ∧ (x = liV ds ∨ ∃ i, x = .o i ∧ W.st[i]? = some (.lst ds) ∧ W.m[i]? = some a) := by
  cases x with
  | d x =>
    cases x with
    | list ds =>
      cases r with
      | lst h1 h2 => exact ⟨_, _, ds, rfl, h1.1, h2, h, .inl rfl⟩
    | _ => exact h.elim
  | o i =>
    obtain ⟨a, rfl, hm⟩ := r
    unfold Dw.lItems at h
    rw [M.bind_assoc] at h
    obtain ⟨ob, a', h1, h2, h3, h4⟩ := Post.getO w h
    rw [hm] at h2; cases h2
    cases ob with
    | lst ds =>
      obtain ⟨xs, g1, g2⟩ := h3
      exact ⟨_, xs, ds, rfl, g1, g2, h4, .inr ⟨i, rfl, h1, hm⟩⟩
    | _ => exact h4.elim
/-- a list's or a tuple's items -/
theorem Post.sItems {α : Type} {v : V} {x : Vl} {f : List D → M α} {q : α → Wd → Prop} (w : Wf K cl W) (r : RpV K W v x) (h : Post K cl xc E W ((Dw.sItems x >>= f) W.st) q) :
    ∃ a xs ds, v = .ref a ∧ (SqL K W.H a xs ∨ SqT K W.H a xs) ∧ RpA K W xs ds ∧ Post K cl xc E W (f ds W.st) q := by
  cases x with
  | d x =>
    cases x with
    | list ds =>
      cases r with
      | lst h1 h2 => exact ⟨_, _, ds, rfl, .inl h1.sq, h2, h⟩
    | tuple ds =>
      cases r with
      | tup h1 h2 => exact ⟨_, _, ds, rfl, .inr h1.sq, h2, h⟩
    | _ => exact h.elim
  | o i =>
    obtain ⟨a, rfl, hm⟩ := r
    unfold Dw.sItems at h
    rw [M.bind_assoc] at h
    obtain ⟨ob, a', h1, h2, h3, h4⟩ := Post.getO w h
    rw [hm] at h2; cases h2
    cases ob with
    | lst ds =>
      obtain ⟨xs, g1, g2⟩ := h3
      exact ⟨_, xs, ds, rfl, .inl (.inl (.inl g1)), g2, h4⟩
    | scr ds =>
      obtain ⟨xs, g1, g2⟩ := h3
      exact ⟨_, xs, ds, rfl, .inl g1.sq, g2, h4⟩
    | _ => exact h4.elim
theorem Post.asD {α : Type} {v : V} {x : Vl} {f : D → M α} {q : α → Wd → Prop} (r : RpV K W v x) (h : Post K cl xc E W ((Dw.asD x >>= f) W.st) q) : ∃ y, x = .d y ∧ Rp K W v y ∧ Post K cl xc E W (f y W.st) q := by
  cases x with
  | d y => exact ⟨y, rfl, r, h⟩
  | o i => exact h.elim
theorem Post.asI {α : Type} {v : V} {x : Vl} {f : Int → M α} {q : α → Wd → Prop} (r : RpV K W v x) (h : Post K cl xc E W ((Dw.asI x >>= f) W.st) q) : ∃ i, v = .int i ∧ x = inV i ∧ Post K cl xc E W (f i W.st) q := by
  cases x with
  | d y =>
    cases y with
    | int i => cases r; exact ⟨i, rfl, rfl, h⟩
    | _ => exact h.elim
  | o i => exact h.elim
theorem Post.asB {α : Type} {v : V} {x : Vl} {f : Bool → M α} {q : α → Wd → Prop} (r : RpV K W v x) (h : Post K cl xc E W ((Dw.asB x >>= f) W.st) q) : ∃ b, v = .bl b ∧ x = blV b ∧ Post K cl xc E W (f b W.st) q := by
  cases x with
  | d y =>
    cases y with
    | bool b => cases r; exact ⟨b, rfl, rfl, h⟩
    | _ => exact h.elim
  | o i => exact h.elim
/-- as data: a list object as a list -/
theorem Post.asData {α : Type} {v : V} {x : Vl} {f : D → M α} {q : α → Wd → Prop} (w : Wf K cl W) (r : RpV K W v x) (h : Post K cl xc E W ((Dw.asData x >>= f) W.st) q) : ∃ y, Dp K W.H v y ∧ Post K cl xc E W (f y W.st) q := by
  cases x with
  | d y => exact ⟨y, Rp.dp y v r, h⟩
  | o i =>
    obtain ⟨a, rfl, hm⟩ := r
    unfold Dw.asData at h
    rw [M.bind_assoc] at h
    obtain ⟨ob, a', h1, h2, h3, h4⟩ := Post.getO w h
    rw [hm] at h2; cases h2
    cases ob with
    | lst ds =>
      obtain ⟨xs, g1, g2⟩ := h3
      exact ⟨.list ds, .lst (.inl (.inl g1)) (RpA.dp ds xs g2), h4⟩
    | _ => exact h4.elim
theorem Post.okB {α : Type} {b : Bool} {f : Unit → M α} {q : α → Wd → Prop} (h : Post K cl xc E W ((Dw.okS b () >>= f) W.st) q) : b = true ∧ Post K cl xc E W (f () W.st) q := by
  cases b with
  | true => exact ⟨rfl, h⟩
  | false => exact h.elim
end
end Dw

namespace Dw
open PySem L2
variable [Tb]
section
variable {X : Cx}
def rFalse : R2 := fun _ _ _ _ => False
theorem opFalse {f : Value → Value → Sem Value} : OpR X f rFalse := fun _ _ _ _ _ _ _ _ _ _ _ _ h => h.elim
/-- t * k for a tuple, k at most 1 -/
theorem tuple_mul0 (l : Addr) (items : Array Value) (n : Nat) (dd : Option Addr) (sl : Array (Option Value)) (x : Int) (u : Tok) (c0 : (decide (x < -(2 ^ 63)) || decide (x ≥ 2 ^ 63)) = false) (c1 : (items.isEmpty || x == 1) = false) (c2 : (decide (x ≤ 0) || items.isEmpty) = true) :
    Meets (Builtin.«tuple.__mul__» ⟨[.ref l, .int x u], []⟩) (fun _ R s => s.heap.get? l = some { cls := .type "tuple", dict := dd, data := .seq items n, slots := sl } ∧
      R (.ok (.ret (Value.ref s.heap.objs.size))) { s with heap := s.heap.push { cls := Value.type "tuple", data := Data.seq #[] }, toks := s.toks }) :=
  .of_wp fun prog w A R s h => by
    obtain ⟨hp, g, d, tk, os⟩ := s
    obtain ⟨hl, h⟩ := h
    have f1 := AutoSeq1.idx_int
    wp_walk using wpAny_loadPart' hl
    repeat (first
      | (refine wpAny_ite_false (decide_eq_false (by rw [c0]; exact Bool.false_ne_true)) ?_; wp_walk using wpAny_loadPart' hl)
      | (refine wpAny_ite_false (decide_eq_false (by rw [c1]; exact Bool.false_ne_true)) ?_; wp_walk using wpAny_loadPart' hl)
      | (refine wpAny_ite_true (decide_eq_true c2) ?_; wp_walk using wpAny_loadPart' hl))
    exact ⟨_, rfl, h⟩
theorem tuple_mul1 (l : Addr) (items : Array Value) (n : Nat) (dd : Option Addr) (sl : Array (Option Value)) (x : Int) (u : Tok) (c0 : (decide (x < -(2 ^ 63)) || decide (x ≥ 2 ^ 63)) = false) (c1 : (items.isEmpty || x == 1) = true) :
    Meets (Builtin.«tuple.__mul__» ⟨[.ref l, .int x u], []⟩) (fun _ R s => s.heap.get? l = some { cls := .type "tuple", dict := dd, data := .seq items n, slots := sl } ∧ R (.ok (.ret (Value.ref l))) s) :=
  .of_wp fun prog w A R s h => by
    obtain ⟨hp, g, d, tk, os⟩ := s
    obtain ⟨hl, h⟩ := h
    have f1 := AutoSeq1.idx_int
    wp_walk using wpAny_loadPart' hl
    repeat (first
      | (refine wpAny_ite_false (decide_eq_false (by rw [c0]; exact Bool.false_ne_true)) ?_; wp_walk using wpAny_loadPart' hl)
      | (refine wpAny_ite_true (decide_eq_true c1) ?_; wp_walk using wpAny_loadPart' hl))
    exact ⟨_, rfl, h⟩
def rRepA (K : PySem.W.Frag) : R2 := fun x y H Q => ∃ l k xs, x = .ref l ∧ y = .int k ∧ SqT K H l xs ∧ xs ≠ [] ∧ 0 ≤ k ∧ k ≤ 1000 ∧ xs.length ≤ 1000 ∧
  (k = 1 → Q (.ref l) H) ∧ (k ≠ 1 → ∀ p, H p = none → Q (.ref p) (upd H p (.tup (rep xs k.toNat))))
theorem op_repA : OpR X (binaryOp .Mult) (rRepA X.K) := by
  intro pins s σ H x y v u Q I rx ry h
  obtain ⟨l, k, xs, rfl, rfl, hT, hne, h1, h2, hz, q1, q2⟩ := h
  by_cases h3 : 2 ≤ k
  · exact op_repT pins s σ H _ _ v u Q I rx ry ⟨l, k, xs, rfl, rfl, hT, hne, h3, h2, hz, q2 (by omega)⟩
  · cases rx
    obtain ⟨t, rfl⟩ := ry
    obtain ⟨its, r, ⟨⟨cls, dd, data, sl⟩, ho, hc, n, hd⟩, hs⟩ := I.tuple hT
    simp only at hc hd
    subst hc hd
    have hle : its.length = xs.length := r.length.symm
    have hn : its ≠ [] := fun e => hne (by
      rw [e] at hle
      exact List.eq_nil_of_length_eq_zero hle.symm)
    have hi : its.toArray.isEmpty = false := by
      cases its with
      | nil => exact absurd rfl hn
      | cons a b => rfl
    have c0 : (decide (k < -(2 ^ 63)) || decide (k ≥ 2 ^ 63)) = false := by
      rw [decide_eq_false (by omega), decide_eq_false (by omega)] <;> rfl
    by_cases h4 : k = 1
    · subst h4
      have c1 : (its.toArray.isEmpty || (1 : Int) == 1) = true := by simp
      exact wpAny_binaryOp_repeat_ref (T := "tuple") (U := "int") (by decide) ⟨_, ho, rfl⟩ (fun s' => typeIs_int s' 1 t) noFill_tuple_mul F.fills_int_mul F.slot_int_rmul repeat_tuple F.slot_int_index.lookup
        (call_meets F.slot_int_rmul (typeIs_int s 1 t) F.entry_int_rmul (F.args_int_rmul_2 _ _) (int_rmul_tuple 1 t l its.toArray n dd sl)
          ⟨ho, rfl, ⟨_, ho, rfl⟩, call_meets F.slot_tuple_mul ⟨_, ho, rfl⟩ F.entry_tuple_mul (F.args_tuple_mul_2 _ _) (tuple_mul1 l its.toArray n dd sl 1 t c0 c1) ⟨ho, .ref l, H, I, rfl, q1 rfl⟩⟩)
    · have h5 : k = 0 := by omega
      subst h5
      have c1 : (its.toArray.isEmpty || (0 : Int) == 1) = false := by rw [hi] <;> rfl
      have c2 : (decide ((0 : Int) ≤ 0) || its.toArray.isEmpty) = true := by simp
      refine wpAny_binaryOp_repeat_ref (T := "tuple") (U := "int") (by decide) ⟨_, ho, rfl⟩ (fun s' => typeIs_int s' 0 t) noFill_tuple_mul F.fills_int_mul F.slot_int_rmul repeat_tuple F.slot_int_index.lookup
        (call_meets F.slot_int_rmul (typeIs_int s 0 t) F.entry_int_rmul (F.args_int_rmul_2 _ _) (int_rmul_tuple 0 t l its.toArray n dd sl)
          ⟨ho, rfl, ⟨_, ho, rfl⟩, call_meets F.slot_tuple_mul ⟨_, ho, rfl⟩ F.entry_tuple_mul (F.args_tuple_mul_2 _ _) (tuple_mul0 l its.toArray n dd sl 0 t c0 c1 c2) ⟨ho, ?_⟩⟩)
      have hf : H s.heap.objs.size = none := I.hok.fresh (Nat.le_refl _)
      refine ⟨.ref s.heap.objs.size, upd H s.heap.objs.size (.tup []), I.laid (t' := s.toks) (fun b u e => Heap.get?_push_of_some _ e) (Nat.le_refl _) ?_, rfl, q2 (by decide) _ hf⟩
      exact ⟨Nat.zero_le _, [], .nil, ⟨_, Heap.get?_push_size _ rfl, rfl, _, rfl⟩⟩
variable {K : PySem.W.Frag} {cl xc : Nat → Addr} {E : XK}
abbrev QE (K : PySem.W.Frag) (Q : VK) : Vl → Wd → Prop := fun z W' => ∀ v, RpV K W' v z → Q v W'.H
/-- the rule r gives what the evaluator's f reckons -/
def Ok2 (K : PySem.W.Frag) (cl xc : Nat → Addr) (E : XK) (f : Vl → Vl → M Vl) (r : R2) : Prop :=
  ∀ (W : Wd) (x y : Vl) (vx vy : V) (Q : VK), Wf K cl W → RpV K W vx x → RpV K W vy y → Post K cl xc E W (f x y W.st) (QE K Q) → r vx vy W.H Q
theorem Post.okP {α : Type} {W : Wd} {b : Bool} {a : α} {q : α → Wd → Prop} (h : Post K cl xc E W ((Dw.okS b a : M α) W.st) q) : b = true ∧ Post K cl xc E W ((Pure.pure a : M α) W.st) q := by
  cases b with
  | true => exact ⟨rfl, h⟩
  | false => exact h.elim
theorem Post.newLst {W : Wd} {xs : List V} {ds : List D} {Q : VK} (w : Wf K cl W) (h : Post K cl xc E W ((Pure.pure (liV ds) : M Vl) W.st) (QE K Q)) (r : RpA K W xs ds) {p : Addr} (hp : W.H p = none) : Q (.ref p) (upd W.H p (.lst xs)) :=
  h _ _ (Ex.new hp) (w.new hp) _ (rp_newLst w hp r)
theorem Post.newTup {W : Wd} {xs : List V} {ds : List D} {Q : VK} (w : Wf K cl W) (h : Post K cl xc E W ((Pure.pure (tuV ds) : M Vl) W.st) (QE K Q)) (r : RpA K W xs ds) {p : Addr} (hp : W.H p = none) : Q (.ref p) (upd W.H p (.tup xs)) :=
  h _ _ (Ex.new hp) (w.new hp) _ (rp_newTup w hp r)
theorem Post.val {W : Wd} {z : Vl} {v : V} {Q : VK} (w : Wf K cl W) (h : Post K cl xc E W ((Pure.pure z : M Vl) W.st) (QE K Q)) (r : RpV K W v z) : Q v W.H := h _ _ (Ex.refl W) w _ r
def rAddA (K : PySem.W.Frag) : R2 := fun x y H Q => rI0 (fun i j => .int (i + j)) x y H Q ∨ (∃ i j, x = .str i ∧ y = .str j ∧ i.length + j.length ≤ sizeLine ∧ Q (.str (i ++ j)) H) ∨ rCatA K x y H Q ∨ rCat x y H Q
theorem op_addA : OpR X (binaryOp .Add) (rAddA X.K) := op_add.or (op_add_str.or (op_catA.or op_cat))
theorem ok_add : Ok2 K cl xc E (binop .Add) (rAddA K) := by
  intro W x y vx vy Q w rx ry h
  have gen : Post K cl xc E W ((do let xs ← lItems x; let ys ← lItems y; okS (decide (xs.length + ys.length ≤ szLine)) (liV (xs ++ ys)) : M Vl) W.st) (QE K Q) → rAddA K vx vy W.H Q := fun h => by
    obtain ⟨a, xs, ds, rfl, ha, ra, h, _⟩ := Post.lItems w rx h
    obtain ⟨b, ys, es, rfl, hb, rb, h, _⟩ := Post.lItems w ry h
    obtain ⟨hz, h⟩ := Post.okP h
    have hz := of_decide_eq_true hz
    exact .inr (.inr (.inr ⟨a, b, xs, ys, rfl, rfl, ha, hb, by rw [ra.len, rb.len, ← szE]; exact hz, fun p hp => Post.newLst w h (ra.append rb) hp⟩))
  cases x with
  | o i => exact gen h
  | d x =>
    cases y with
    | o i => cases x <;> exact gen h
    | d y =>
      cases x with
      | int i =>
        cases y with
        | int j => cases rx; cases ry; exact .inl ⟨i, j, rfl, rfl, Post.val w h (.int _)⟩
        | _ => exact gen h
      | str i =>
        cases y with
        | str j =>
          cases rx; cases ry
          obtain ⟨hz, h⟩ := Post.okP h
          exact .inr (.inl ⟨i, j, rfl, rfl, by rw [← szE]; exact of_decide_eq_true hz, Post.val w h (.str _)⟩)
        | _ => exact gen h
      | tuple ds =>
        cases y with
        | tuple es =>
          cases rx with
          | tup h1 h2 =>
            cases ry with
            | tup g1 g2 =>
              obtain ⟨hz, h⟩ := Post.okP h
              refine .inr (.inr (.inl ⟨_, _, _, _, rfl, rfl, h1.sq, g1.sq, by rw [h2.len, g2.len, ← szE]; exact of_decide_eq_true hz, fun e => ?_, fun _ e => ?_, fun _ _ p hp => Post.newTup w h (h2.append g2) hp⟩))
              · subst e
                have := h2.len
                cases ds with
                | nil => exact Post.val w h (.tup g1 g2)
                | cons _ _ => simp at this
              · subst e
                have := g2.len
                cases es with
                | nil =>
                  rw [List.append_nil] at h
                  exact Post.val w h (.tup h1 h2)
                | cons _ _ => simp at this
        | _ => exact gen h
      | _ => cases y <;> exact gen h
theorem ok_sub : Ok2 K cl xc E (binop .Sub) (rI0 fun i j => .int (i - j)) := by
  intro W x y vx vy Q w rx ry h
  cases x with
  | o i => exact h.elim
  | d x =>
    cases y with
    | o i => cases x <;> exact h.elim
    | d y =>
      cases x with
      | int i =>
        cases y with
        | int j => cases rx; cases ry; exact ⟨i, j, rfl, rfl, Post.val w h (.int _)⟩
        | _ => exact h.elim
      | _ => cases y <;> exact h.elim
theorem ok_fdiv : Ok2 K cl xc E (binop .FloorDiv) (rI CDiv fun i j => .int (i / j)) := by
  intro W x y vx vy Q w rx ry h
  cases x with
  | o i => exact h.elim
  | d x =>
    cases y with
    | o i => cases x <;> exact h.elim
    | d y =>
      cases x with
      | int i =>
        cases y with
        | int j =>
          cases rx; cases ry
          obtain ⟨hz, h⟩ := Post.okP h
          simp only [Bool.and_eq_true, decide_eq_true_eq] at hz
          exact ⟨i, j, rfl, rfl, hz, Post.val w h (.int _)⟩
        | _ => exact h.elim
      | _ => cases y <;> exact h.elim
theorem ok_mod : Ok2 K cl xc E (binop .Mod) (rI (fun _ j => 0 < j) fun i j => .int (i % j)) := by
  intro W x y vx vy Q w rx ry h
  cases x with
  | o i => exact h.elim
  | d x =>
    cases y with
    | o i => cases x <;> exact h.elim
    | d y =>
      cases x with
      | int i =>
        cases y with
        | int j =>
          cases rx; cases ry
          obtain ⟨hz, h⟩ := Post.okP h
          exact ⟨i, j, rfl, rfl, of_decide_eq_true hz, Post.val w h (.int _)⟩
        | _ => exact h.elim
      | _ => cases y <;> exact h.elim
theorem ok_pow : Ok2 K cl xc E (binop .Pow) (rI CPow fun i j => .int (i ^ j.toNat)) := by
  intro W x y vx vy Q w rx ry h
  cases x with
  | o i => exact h.elim
  | d x =>
    cases y with
    | o i => cases x <;> exact h.elim
    | d y =>
      cases x with
      | int i =>
        cases y with
        | int j =>
          cases rx; cases ry
          obtain ⟨hz, h⟩ := Post.okP h
          simp only [Bool.and_eq_true, decide_eq_true_eq] at hz
          exact ⟨i, j, rfl, rfl, ⟨hz.1.1, hz.1.2, hz.2⟩, Post.val w h (.int _)⟩
        | _ => exact h.elim
      | _ => cases y <;> exact h.elim
theorem vals_rep {xs : List V} (n : Nat) : (List.replicate n xs).flatten = rep xs n := rfl
def rMulA (K : PySem.W.Frag) : R2 := fun x y H Q => rI CMul (fun i j => .int (i * j)) x y H Q ∨ rRepA K x y H Q ∨ rRep x y H Q
theorem op_mulA : OpR X (binaryOp .Mult) (rMulA X.K) := op_mul.or (op_repA.or op_rep)
theorem ok_mul : Ok2 K cl xc E (binop .Mult) (rMulA K) := by
  intro W x y vx vy Q w rx ry h
  cases x with
  | o i => exact h.elim
  | d x =>
    cases y with
    | o i => cases x <;> exact h.elim
    | d y =>
      cases x with
      | int i =>
        cases y with
        | int j =>
          cases rx; cases ry
          obtain ⟨hz, h⟩ := Post.okP h
          refine .inl ⟨i, j, rfl, rfl, ?_, Post.val w h (.int _)⟩
          unfold cMul at hz
          simp only [Bool.and_eq_true, Bool.or_eq_true, decide_eq_true_eq] at hz
          exact hz
        | _ => exact h.elim
      | tuple ds =>
        cases y with
        | int j =>
          cases ry
          cases rx with
          | tup h1 h2 =>
            obtain ⟨hz, h⟩ := Post.okP h
            simp only [Bool.and_eq_true, decide_eq_true_eq] at hz
            obtain ⟨⟨⟨z1, z2⟩, z3⟩, z4⟩ := hz
            refine .inr (.inl ⟨_, j, _, rfl, rfl, h1.sq, fun e => ?_, z2, z3, by rw [h2.len]; exact z4, fun e => ?_, fun _ p hp => Post.newTup w h (h2.rep _) hp⟩)
            · subst e
              have := h2.len
              cases ds with
              | nil => exact z1 rfl
              | cons _ _ => simp at this
            · subst e
              have e : rep ds (1 : Int).toNat = ds := by simp [rep]
              rw [e] at h
              exact Post.val w h (.tup h1 h2)
        | _ => exact h.elim
      | list ds =>
        cases y with
        | int j =>
          cases ry
          cases rx with
          | lst h1 h2 =>
            obtain ⟨hz, h⟩ := Post.okP h
            simp only [Bool.and_eq_true, decide_eq_true_eq] at hz
            obtain ⟨⟨z1, z2⟩, z3⟩ := hz
            exact .inr (.inr ⟨_, j, _, rfl, rfl, h1.1, by omega, z2, by rw [h2.len, ← szE]; exact z3, fun p hp => Post.newLst w h (h2.rep _) hp⟩)
        | _ => exact h.elim
      | _ => cases y <;> exact h.elim
theorem okFalse {f : Vl → Vl → M Vl} (hf : ∀ x y, f x y = M.no) : Ok2 K cl xc E f rFalse := fun W x y vx vy Q w rx ry h => by
  rw [hf] at h
  exact h.elim
/-- every operator -/
theorem bin_ok (op : Operator) : ∃ r, OpR X (binaryOp op) r ∧ Ok2 X.K cl xc E (binop op) r := by
  cases op with
  | Add => exact ⟨_, op_addA, ok_add⟩
  | Sub => exact ⟨_, op_sub, ok_sub⟩
  | Mult => exact ⟨_, op_mulA, ok_mul⟩
  | FloorDiv => exact ⟨_, op_fdiv, ok_fdiv⟩
  | Mod => exact ⟨_, op_mod, ok_mod⟩
  | Pow => exact ⟨_, op_pow, ok_pow⟩
  | _ => exact ⟨_, opFalse, okFalse fun _ _ => rfl⟩
end
end Dw

namespace Dw
open PySem L2
variable [Tb]
theorem lexAt_shift {e r : Nat → Bool} {z : Bool} : ∀ (k i : Nat), Ob.lexAt e r z (i + 1) k = Ob.lexAt (fun j => e (j + 1)) (fun j => r (j + 1)) z i k
  | 0, _ => rfl
  | k + 1, i => by
    rw [Ob.lexAt_succ, Ob.lexAt_succ, lexAt_shift k (i + 1)]
theorem readsAll_len : ∀ {h : Heap} {vs : List Value} {ds : List D} {as : List Addr}, ReadsAll h vs ds as → vs.length = ds.length
  | _, _, [], _, r => by cases r; rfl
  | _, _, d :: ds, _, r => by
    cases r with
    | cons _ t => simp [readsAll_len t]
theorem readsAll_at : ∀ {h : Heap} {vs : List Value} {ds : List D} {as : List Addr}, ReadsAll h vs ds as → ∀ (j : Nat) (hv : j < vs.length) (hd : j < ds.length), ∃ bs, Reads h vs[j] ds[j] bs
  | _, _, [], _, _, j, _, hd => absurd hd (Nat.not_lt_zero _)
  | _, _, d :: ds, _, r, 0, _, _ => by
    cases r with
    | cons q _ => exact ⟨_, q⟩
  | _, _, d :: ds, _, r, j + 1, hv, hd => by
    cases r with
    | cons _ t => exact readsAll_at t j (by simpa using hv) (by simpa using hd)
/-- what dltAll tells, pair by pair -/
theorem dltAll_lex : ∀ (xs ys : List D) (c : Bool), dltAll xs ys = some c → (∀ (j : Nat) (h1 : j < xs.length) (h2 : j < ys.length), ∃ b, dlt xs[j] ys[j] = some b) ∧
    Ob.lexAt (SeqAt.pairEq xs ys) (fun j => ((xs[j]?.bind fun x => ys[j]?.bind fun y => dlt x y).getD false)) (decide (xs.length < ys.length)) 0 (min xs.length ys.length) = c
  | [], [], c, h => by
    simp [dltAll] at h
    subst h
    exact ⟨fun j h1 => absurd h1 (Nat.not_lt_zero _), rfl⟩
  | [], y :: ys, c, h => by
    simp [dltAll] at h
    subst h
    exact ⟨fun j h1 => absurd h1 (Nat.not_lt_zero _), by simp [Ob.lexAt_zero]⟩
  | x :: xs, [], c, h => by
    simp [dltAll] at h
    subst h
    exact ⟨fun j _ h1 => absurd h1 (Nat.not_lt_zero _), by simp [Ob.lexAt_zero]⟩
  | x :: xs, y :: ys, c, h => by
    rw [dltAll] at h
    cases e1 : dlt x y with
    | none => rw [e1] at h; simp at h
    | some b =>
      cases e2 : dltAll xs ys with
      | none => rw [e1, e2] at h; simp at h
      | some r =>
        rw [e1, e2] at h
        simp only [Option.some.injEq] at h
        obtain ⟨i1, i2⟩ := dltAll_lex xs ys r e2
        refine ⟨fun j h1 h2 => ?_, ?_⟩
        · cases j with
          | zero => exact ⟨b, e1⟩
          | succ j => exact i1 j (by simpa using h1) (by simpa using h2)
        · have em : min (x :: xs).length (y :: ys).length = min xs.length ys.length + 1 := by simp only [List.length_cons]; omega
          rw [em, Ob.lexAt_succ, lexAt_shift]
          have ed : decide ((x :: xs).length < (y :: ys).length) = decide (xs.length < ys.length) := by
            simp only [List.length_cons]
            exact decide_eq_decide.mpr (by omega)
          rw [ed]
          have ee : (fun j => SeqAt.pairEq (x :: xs) (y :: ys) (j + 1)) = SeqAt.pairEq xs ys := by
            funext j
            simp [SeqAt.pairEq]
          have er : (fun j => (((x :: xs)[j + 1]?.bind fun x => (y :: ys)[j + 1]?.bind fun y => dlt x y).getD false)) = fun j => ((xs[j]?.bind fun x => ys[j]?.bind fun y => dlt x y).getD false) := by
            funext j
            simp
          rw [ee, er, i2]
          have e0 : SeqAt.pairEq (x :: xs) (y :: ys) 0 = PyData.eqv x y := by simp [SeqAt.pairEq]
          rw [e0]
          simp [e1, h]
mutual
theorem rc_lt : ∀ (d e : D) (c : Bool) (A : Around) (s : Shared) (u v : Value) (as bs : List Addr), dlt d e = some c → Reads s.heap u d as → Reads s.heap v e bs → d.canLay0 = true → e.canLay0 = true →
    A.units + min d.depth e.depth < cLine → Ob.RcOp .Lt A s u v c
  | .int i, e, c, A, s, u, v, as, bs, h, ra, rb, ha, hb, hu => by
    cases e with
    | int j =>
      simp [dlt] at h
      subst h
      cases ra; cases rb
      exact Ob.RcOp.lt_int _ _ _ _
    | _ => simp [dlt] at h
  | .str x, e, c, A, s, u, v, as, bs, h, ra, rb, ha, hb, hu => by
    cases e with
    | str y =>
      simp only [dlt, Option.some.injEq] at h
      subst h
      cases ra; cases rb
      exact fun _ _ _ _ q => PyProof.Rows.lt_str q
    | _ => simp [dlt] at h
  | .tuple xs, e, c, A, s, u, v, as, bs, h, ra, rb, ha, hb, hu => by
    cases e with
    | tuple ys =>
      rw [dlt] at h
      cases ra with
      | tuple h1 h2 h3 h4 =>
        cases rb with
        | tuple g1 g2 g3 g4 =>
          obtain ⟨i1, i2⟩ := dltAll_lex xs ys c h
          have ha' : PyData.canLayAll0 xs = true := by simpa [PyData.canLay0] using ha
          have hb' : PyData.canLayAll0 ys = true := by simpa [PyData.canLay0] using hb
          have hu' : A.units + (min (PyData.depthAll xs) (PyData.depthAll ys) + 1) < cLine := by
            simp only [PyData.depth] at hu
            omega
          have l1 := readsAll_len h4
          have l2 := readsAll_len g4
          have hin : A.in1.units = A.units + 1 := rfl
          have R := Ob.RcOp.tuples_lt (A := A) (s := s) (e := SeqAt.pairEq xs ys) (r := fun j => ((xs[j]?.bind fun x => ys[j]?.bind fun y => dlt x y).getD false)) ⟨_, h1, h2, _, h3⟩ ⟨_, g1, g2, _, g3⟩ (by omega)
            (fun j k1 k2 => SeqAt.eqAt_readsAll xs ys A.in1 s _ _ _ _ h4 g4 ha' hb' (by rw [hin]; omega) j (by simpa using k1) (by simpa using k2))
            (fun j k1 k2 _ => rc_ltAll xs ys A.in1 s _ _ _ _ i1 h4 g4 ha' hb' (by rw [hin]; omega) j (by simpa using k1) (by simpa using k2))
          have e1 : (_ : Array Value).size = xs.length := l1
          have e2 : (_ : Array Value).size = ys.length := l2
          rw [← Array.length_toList, ← Array.length_toList, l1, l2] at R
          rw [← i2]
          exact R
    | _ => simp [dlt] at h
  | .none, _, _, _, _, _, _, _, _, h, _, _, _, _, _ => by simp [dlt] at h
  | .bool _, _, _, _, _, _, _, _, _, h, _, _, _, _, _ => by simp [dlt] at h
  | .list _, _, _, _, _, _, _, _, _, h, _, _, _, _, _ => by simp [dlt] at h
  | .dict _, _, _, _, _, _, _, _, _, h, _, _, _, _, _ => by simp [dlt] at h
theorem rc_ltAll : ∀ (xs ys : List D) (A : Around) (s : Shared) (us vs : List Value) (as bs : List Addr), (∀ (j : Nat) (h1 : j < xs.length) (h2 : j < ys.length), ∃ b, dlt xs[j] ys[j] = some b) → ReadsAll s.heap us xs as → ReadsAll s.heap vs ys bs →
    PyData.canLayAll0 xs = true → PyData.canLayAll0 ys = true → A.units + min (PyData.depthAll xs) (PyData.depthAll ys) < cLine →
    ∀ (j : Nat) (h1 : j < us.length) (h2 : j < vs.length), Ob.RcOp .Lt A s us[j] vs[j] ((xs[j]?.bind fun x => ys[j]?.bind fun y => dlt x y).getD false)
  | [], _, _, _, _, _, _, _, _, ra, _, _, _, _, j, h1, _ => by cases ra; exact absurd h1 (Nat.not_lt_zero _)
  | _ :: _, [], _, _, _, _, _, _, _, _, rb, _, _, _, j, _, h2 => by cases rb; exact absurd h2 (Nat.not_lt_zero _)
  | x :: xs, y :: ys, A, s, us, vs, as, bs, hd, ra, rb, ha, hb, hu, j, h1, h2 => by
    have ha' : x.canLay0 = true ∧ PyData.canLayAll0 xs = true := by simpa [PyData.canLayAll0] using ha
    have hb' : y.canLay0 = true ∧ PyData.canLayAll0 ys = true := by simpa [PyData.canLayAll0] using hb
    have hu' : A.units + min (max x.depth (PyData.depthAll xs)) (max y.depth (PyData.depthAll ys)) < cLine := by simpa [PyData.depthAll] using hu
    cases ra with
    | cons r1 t1 =>
      cases rb with
      | cons r2 t2 =>
        cases j with
        | zero =>
          obtain ⟨b, e⟩ := hd 0 (by simp) (by simp)
          have e : dlt x y = some b := e
          have := rc_lt x y b A s _ _ _ _ e r1 r2 ha'.1 hb'.1 (by omega)
          simpa [e] using this
        | succ j =>
          have := rc_ltAll xs ys A s _ _ _ _ (fun j k1 k2 => hd (j + 1) (by simpa using k1) (by simpa using k2)) t1 t2 ha'.2 hb'.2 (by omega) j (by simpa using h1) (by simpa using h2)
          simpa using this
end

section
variable {X : Cx} {K : PySem.W.Frag} {cl xc : Nat → Addr} {E : XK}
def rLtD (K : PySem.W.Frag) : R2 := fun x y H Q => ∃ d e c, Dp K H x d ∧ Dp K H y e ∧ SeqAt.shaped d = true ∧ SeqAt.shaped e = true ∧ dlt d e = some c ∧ Q (.bl c) H
theorem op_ltD (hu : X.A.units + 64 < cLine) : OpR X (compareOp .Lt) (rLtD X.K) := by
  intro pins s σ H x y v u Q I rx ry h
  obtain ⟨d, e, c, hd, he, sd, se, hc, q⟩ := h
  obtain ⟨as, r1⟩ := Dp.reads I d x v hd rx
  obtain ⟨bs, r2⟩ := Dp.reads I e y u he ry
  have h1 : d.depth ≤ 64 := SeqAt.depth_of_shaped sd
  exact (rc_lt d e c X.A s v u as bs hc r1 r2 (SeqAt.canLay_of_shaped sd) (SeqAt.canLay_of_shaped se) (by omega)) X.prog X.w X.xe (EP X pins σ Q) ⟨.bl c, H, I, rfl, q⟩
def rInDT (K : PySem.W.Frag) : R2 := fun x y H Q => ∃ d ds, Dp K H x d ∧ Dp K H y (.tuple ds) ∧ SeqAt.shaped d = true ∧ SeqAt.shaped (.tuple ds) = true ∧ Q (.bl (ds.any fun z => PyData.eqv z d)) H
def rNotInDT (K : PySem.W.Frag) : R2 := fun x y H Q => ∃ d ds, Dp K H x d ∧ Dp K H y (.tuple ds) ∧ SeqAt.shaped d = true ∧ SeqAt.shaped (.tuple ds) = true ∧ Q (.bl (!ds.any fun z => PyData.eqv z d)) H
theorem op_inDT (hu : X.A.units + 65 < cLine) : OpR X (compareOp .In) (rInDT X.K) := by
  intro pins s σ H x y v u Q I rx ry h
  obtain ⟨d, ds, hd, he, sd, se, q⟩ := h
  obtain ⟨as, r1⟩ := Dp.reads I d x v hd rx
  obtain ⟨bs, r2⟩ := Dp.reads I (.tuple ds) y u he ry
  exact SeqAt.in_tuple_reads r2 r1 (SeqAt.canLay_of_shaped se) (SeqAt.canLay_of_shaped sd) (PyProof.Rows.room_in_shaped sd hu) ⟨.bl _, H, I, rfl, q⟩
theorem op_notInDT (hu : X.A.units + 65 < cLine) : OpR X (compareOp .NotIn) (rNotInDT X.K) := by
  intro pins s σ H x y v u Q I rx ry h
  obtain ⟨d, ds, hd, he, sd, se, q⟩ := h
  obtain ⟨as, r1⟩ := Dp.reads I d x v hd rx
  obtain ⟨bs, r2⟩ := Dp.reads I (.tuple ds) y u he ry
  exact SeqAt.notIn_tuple_reads r2 r1 (SeqAt.canLay_of_shaped se) (SeqAt.canLay_of_shaped sd) (PyProof.Rows.room_in_shaped sd hu) ⟨.bl _, H, I, rfl, q⟩
/-- the rule r gives what the evaluator's test f reckons -/
def OkC (K : PySem.W.Frag) (cl xc : Nat → Addr) (E : XK) (f : Vl → Vl → M Bool) (r : R2) : Prop :=
  ∀ (W : Wd) (x y : Vl) (vx vy : V) (Q : VK), Wf K cl W → RpV K W vx x → RpV K W vy y → Post K cl xc E W (f x y W.st) (fun b W' => Q (.bl b) W'.H) → r vx vy W.H Q
theorem okCFalse {f : Vl → Vl → M Bool} (hf : ∀ x y, f x y = M.no) : OkC K cl xc E f rFalse := fun W x y vx vy Q w rx ry h => by
  rw [hf] at h
  exact h.elim
theorem okc_eq : OkC K cl xc E (cmpop .Eq) (rEqD K) := by
  intro W x y vx vy Q w rx ry h
  obtain ⟨d, hd, h⟩ := Post.asData w rx h
  obtain ⟨e, he, h⟩ := Post.asData w ry h
  obtain ⟨hz, h⟩ := Post.okP h
  rw [Bool.and_eq_true] at hz
  exact ⟨d, e, hd, he, hz.1, hz.2, Post.pure w h⟩
theorem okc_ne : OkC K cl xc E (cmpop .NotEq) (rNeD K) := by
  intro W x y vx vy Q w rx ry h
  have h : Post K cl xc E W ((eqB x y >>= fun c => (pure (!c) : M Bool)) W.st) _ := h
  unfold eqB at h
  simp only [M.bind_assoc] at h
  obtain ⟨d, hd, h⟩ := Post.asData w rx h
  obtain ⟨e, he, h⟩ := Post.asData w ry h
  cases hz : (shp d && shp e) with
  | false => rw [hz] at h; exact h.elim
  | true =>
    rw [hz] at h
    rw [Bool.and_eq_true] at hz
    exact ⟨d, e, hd, he, hz.1, hz.2, Post.pure w h⟩
theorem okc_lt : OkC K cl xc E (cmpop .Lt) (rLtD K) := by
  intro W x y vx vy Q w rx ry h
  obtain ⟨d, rfl, hd, h⟩ := Post.asD rx h
  obtain ⟨e, rfl, he, h⟩ := Post.asD ry h
  obtain ⟨hz, h⟩ := Post.okB h
  rw [Bool.and_eq_true] at hz
  cases hc : dlt d e with
  | none => rw [hc] at h; exact h.elim
  | some c =>
    rw [hc] at h
    exact ⟨d, e, c, Rp.dp d vx hd, Rp.dp e vy he, hz.1, hz.2, hc, Post.pure w h⟩
theorem okc_int {p : Int → Int → Bool} : OkC K cl xc E (intCmp p) (rI0 fun i j => .bl (p i j)) := by
  intro W x y vx vy Q w rx ry h
  cases x with
  | o i => exact h.elim
  | d x =>
    cases y with
    | o i => cases x <;> exact h.elim
    | d y =>
      cases x with
      | int i =>
        cases y with
        | int j => cases rx; cases ry; exact ⟨i, j, rfl, rfl, Post.pure w h⟩
        | _ => exact h.elim
      | _ => cases y <;> exact h.elim
def rLeA : R2 := fun x y H Q => rI0 (fun i j => .bl (decide (i ≤ j))) x y H Q ∨ ∃ i j, x = .str i ∧ y = .str j ∧ Q (.bl (!decide (j.cps.toList < i.cps.toList))) H
theorem op_leA : OpR X (compareOp .LtE) rLeA := op_le.or (by
  intro pins s σ H x y v u Q I rx ry h
  obtain ⟨i, j, rfl, rfl, q⟩ := h
  obtain ⟨t, rfl⟩ := rx
  obtain ⟨t', rfl⟩ := ry
  refine PySem.P.le_str ⟨.bl _, H, I, rfl, ?_⟩
  exact q)
theorem okc_le : OkC K cl xc E (cmpop .LtE) rLeA := by
  intro W x y vx vy Q w rx ry h
  cases x with
  | o i => exact h.elim
  | d x =>
    cases y with
    | o i => cases x <;> exact h.elim
    | d y =>
      cases x with
      | int i =>
        cases y with
        | int j => cases rx; cases ry; exact .inl ⟨i, j, rfl, rfl, Post.pure w h⟩
        | _ => exact h.elim
      | str i =>
        cases y with
        | str j => cases rx; cases ry; exact .inr ⟨i, j, rfl, rfl, Post.pure w h⟩
        | _ => exact h.elim
      | _ => cases y <;> exact h.elim
/-- x in d, x not in d -/
def rInK : R2 := fun x y H Q => ∃ a o, y = .ref a ∧ DGet H a x o ∧ Q (.bl o.isSome) H
def rNotInK : R2 := fun x y H Q => ∃ a o, y = .ref a ∧ DGet H a x o ∧ Q (.bl (!o.isSome)) H
theorem op_inK (hu : X.A.units + 1 < cLine) : OpR X (compareOp .In) rInK := by
  intro pins s σ H x y v u Q I rx ry h
  obtain ⟨a, o, rfl, g, q⟩ := h
  cases ry
  exact d_in hu I g rx fun s1 I1 => ⟨.bl o.isSome, H, I1, rfl, q⟩
theorem op_notInK (hu : X.A.units + 1 < cLine) : OpR X (compareOp .NotIn) rNotInK := by
  intro pins s σ H x y v u Q I rx ry h
  obtain ⟨a, o, rfl, g, q⟩ := h
  cases ry
  exact d_notIn hu I g rx fun s1 I1 => ⟨.bl (!o.isSome), H, I1, rfl, q⟩
theorem keyOf_ok {α : Type} {W : Wd} {d : D} {v : V} {f : Key → M α} {q : α → Wd → Prop} (r : Rp K W v d) (h : Post K cl xc E W ((Dw.keyOf d >>= f) W.st) q) : ∃ k, v = kV k ∧ Post K cl xc E W (f k W.st) q := by
  cases d with
  | int i => cases r; exact ⟨.inl i, rfl, h⟩
  | str x => cases r; exact ⟨.inr x, rfl, h⟩
  | _ => exact h.elim
def rInA (K : PySem.W.Frag) : R2 := fun x y H Q => (∃ i j, x = .str i ∧ y = .str j ∧ Q (.bl (!(Builtin.Str.occurrences j i 0 j.length 1).isEmpty)) H) ∨ rInD K x y H Q ∨ rInDT K x y H Q ∨ rInK x y H Q
theorem op_inA (hu : X.A.units + 65 < cLine) : OpR X (compareOp .In) (rInA X.K) := op_in_str.or ((op_inD hu).or ((op_inDT hu).or (op_inK (by omega))))
def rNotInA (K : PySem.W.Frag) : R2 := fun x y H Q => (∃ i j, x = .str i ∧ y = .str j ∧ Q (.bl (!(!(Builtin.Str.occurrences j i 0 j.length 1).isEmpty))) H) ∨ rNotInD K x y H Q ∨ rNotInDT K x y H Q ∨ rNotInK x y H Q
theorem op_notInA (hu : X.A.units + 65 < cLine) : OpR X (compareOp .NotIn) (rNotInA X.K) := op_notin_str.or ((op_notInD hu).or ((op_notInDT hu).or (op_notInK (by omega))))
/-- what inB finds -/
theorem inB_cases {α : Type} {W : Wd} {x y : Vl} {vx vy : V} {f : Bool → M α} {q : α → Wd → Prop} (w : Wf K cl W) (rx : RpV K W vx x) (ry : RpV K W vy y) (h : Post K cl xc E W ((inB x y >>= f) W.st) q) :
    (∃ i j, vx = .str i ∧ vy = .str j ∧ Post K cl xc E W (f (!(Builtin.Str.occurrences j i 0 j.length 1).isEmpty) W.st) q) ∨
    (∃ d ds, Dp K W.H vx d ∧ Dp K W.H vy (.list ds) ∧ SeqAt.shaped d = true ∧ SeqAt.shaped (.list ds) = true ∧ Post K cl xc E W (f (isIn d ds) W.st) q) ∨
    (∃ d ds, Dp K W.H vx d ∧ Dp K W.H vy (.tuple ds) ∧ SeqAt.shaped d = true ∧ SeqAt.shaped (.tuple ds) = true ∧ Post K cl xc E W (f (isIn d ds) W.st) q) ∨
    (∃ a o, vy = .ref a ∧ DGet W.H a vx o ∧ Post K cl xc E W (f o.isSome W.st) q) := by
  cases y with
  | o i =>
    have h' : Post K cl xc E W (((asD x >>= fun x => getO i >>= fun ob => match ob with
      | .lst xs => okS (shp x && shp (.list xs)) (isIn x xs)
      | .dct kvs => do
        let k ← Dw.keyOf x
        pure (dGet kvs k).isSome
      | _ => M.no) >>= f) W.st) q := by
      cases x with
      | o j => exact h
      | d x => cases x <;> exact h
    simp only [M.bind_assoc] at h'
    obtain ⟨d, rfl, hd, h'⟩ := Post.asD rx h'
    obtain ⟨ob, a, h1, h2, h3, h4⟩ := Post.getO w h'
    obtain ⟨a', rfl, hm⟩ := ry
    rw [hm] at h2; cases h2
    cases ob with
    | lst ds =>
      obtain ⟨xs, g1, g2⟩ := h3
      cases hz : (shp d && shp (.list ds)) with
      | false => simp only [hz] at h4; exact h4.elim
      | true =>
        simp only [hz] at h4
        rw [Bool.and_eq_true] at hz
        exact .inr (.inl ⟨d, ds, Rp.dp d vx hd, .lst (.inl (.inl g1)) (RpA.dp ds xs g2), hz.1, hz.2, h4⟩)
    | dct kvs =>
      obtain ⟨gs, g1, g2⟩ := h3
      simp only [M.bind_assoc] at h4
      obtain ⟨k, rfl, h4⟩ := keyOf_ok hd h4
      simp only [M.pure_bind] at h4
      rw [← KsR.some_ g2 k] at h4
      exact .inr (.inr (.inr ⟨a, valV gs k, rfl, DGet.k g1, h4⟩))
    | _ => exact h4.elim
  | d y =>
    cases y with
    | str j =>
      cases x with
      | o _ => exact h.elim
      | d x =>
        cases x with
        | str i => cases rx; cases ry; exact .inl ⟨i, j, rfl, rfl, h⟩
        | _ => exact h.elim
    | list ds =>
      have h' : Post K cl xc E W (((asD x >>= fun x => okS (shp x && shp (.list ds)) (isIn x ds)) >>= f) W.st) q := by
        cases x with
        | o j => exact h
        | d x => cases x <;> exact h
      simp only [M.bind_assoc] at h'
      obtain ⟨d, rfl, hd, h'⟩ := Post.asD rx h'
      cases hz : (shp d && shp (.list ds)) with
      | false => simp only [hz] at h'; exact h'.elim
      | true =>
        simp only [hz] at h'
        rw [Bool.and_eq_true] at hz
        exact .inr (.inl ⟨d, ds, Rp.dp d vx hd, Rp.dp _ vy ry, hz.1, hz.2, h'⟩)
    | tuple ds =>
      have h' : Post K cl xc E W (((asD x >>= fun x => okS (shp x && shp (.tuple ds)) (isIn x ds)) >>= f) W.st) q := by
        cases x with
        | o j => exact h
        | d x => cases x <;> exact h
      simp only [M.bind_assoc] at h'
      obtain ⟨d, rfl, hd, h'⟩ := Post.asD rx h'
      cases hz : (shp d && shp (.tuple ds)) with
      | false => simp only [hz] at h'; exact h'.elim
      | true =>
        simp only [hz] at h'
        rw [Bool.and_eq_true] at hz
        exact .inr (.inr (.inl ⟨d, ds, Rp.dp d vx hd, Rp.dp _ vy ry, hz.1, hz.2, h'⟩))
    | _ =>
      have h' : Post K cl xc E W ((M.no >>= f) W.st) q := by
        cases x with
        | o j => exact h
        | d x => cases x <;> exact h
      exact h'.elim
theorem okc_in : OkC K cl xc E (cmpop .In) (rInA K) := by
  intro W x y vx vy Q w rx ry h
  have h : Post K cl xc E W ((inB x y >>= fun c => (pure c : M Bool)) W.st) (fun b W' => Q (.bl b) W'.H) := by
    rw [show (inB x y >>= fun c => (pure c : M Bool)) W.st = inB x y W.st from by
      rw [M.bind_run]; cases inB x y W.st <;> rfl]
    exact h
  rcases inB_cases w rx ry h with ⟨i, j, e1, e2, h⟩ | ⟨d, ds, h1, h2, h3, h4, h⟩ | ⟨d, ds, h1, h2, h3, h4, h⟩ | ⟨a, o, h1, h2, h⟩
  · exact .inl ⟨i, j, e1, e2, Post.pure w h⟩
  · exact .inr (.inl ⟨d, ds, h1, h2, h3, h4, Post.pure w h⟩)
  · exact .inr (.inr (.inl ⟨d, ds, h1, h2, h3, h4, Post.pure w h⟩))
  · exact .inr (.inr (.inr ⟨a, o, h1, h2, Post.pure w h⟩))
theorem okc_notIn : OkC K cl xc E (cmpop .NotIn) (rNotInA K) := by
  intro W x y vx vy Q w rx ry h
  have h : Post K cl xc E W ((inB x y >>= fun c => (pure (!c) : M Bool)) W.st) (fun b W' => Q (.bl b) W'.H) := h
  rcases inB_cases w rx ry h with ⟨i, j, e1, e2, h⟩ | ⟨d, ds, h1, h2, h3, h4, h⟩ | ⟨d, ds, h1, h2, h3, h4, h⟩ | ⟨a, o, h1, h2, h⟩
  · exact .inl ⟨i, j, e1, e2, Post.pure w h⟩
  · exact .inr (.inl ⟨d, ds, h1, h2, h3, h4, Post.pure w h⟩)
  · exact .inr (.inr (.inl ⟨d, ds, h1, h2, h3, h4, Post.pure w h⟩))
  · exact .inr (.inr (.inr ⟨a, o, h1, h2, Post.pure w h⟩))
def rIsA : R2 := fun x y H Q => (y = .non ∧ Q (.bl (decide (x = .non))) H) ∨ rIsB x y H Q
def rIsNotA : R2 := fun x y H Q => (y = .non ∧ Q (.bl (!decide (x = .non))) H) ∨ rNotB x y H Q
theorem op_isA : OpR X (compareOp .Is) rIsA := op_isN.or op_isBl
theorem op_isNotA : OpR X (compareOp .IsNot) rIsNotA := op_notN.or op_notBl
theorem isB_cases {α : Type} {W : Wd} {x y : Vl} {vx vy : V} {f : Bool → M α} {q : α → Wd → Prop} (w : Wf K cl W) (rx : RpV K W vx x) (ry : RpV K W vy y) (h : Post K cl xc E W ((isB x y >>= f) W.st) q) :
    (vy = .non ∧ Post K cl xc E W (f (decide (vx = .non)) W.st) q) ∨ ∃ a b : Bool, vx = .bl a ∧ vy = .bl b ∧ Post K cl xc E W (f (decide (a = b)) W.st) q := by
  cases y with
  | o i => cases x with
    | o j => exact h.elim
    | d x => cases x <;> exact h.elim
  | d y =>
    cases x with
    | o j => cases y <;> exact h.elim
    | d x =>
      cases y with
      | none =>
        cases ry
        refine .inl ⟨rfl, ?_⟩
        cases x <;> cases rx <;> exact h
      | bool b =>
        cases ry
        cases x with
        | bool a => cases rx; exact .inr ⟨a, b, rfl, rfl, h⟩
        | _ => exact h.elim
      | _ => cases x <;> exact h.elim
theorem okc_is : OkC K cl xc E (cmpop .Is) rIsA := by
  intro W x y vx vy Q w rx ry h
  have h : Post K cl xc E W ((isB x y >>= fun c => (pure c : M Bool)) W.st) (fun b W' => Q (.bl b) W'.H) := by
    rw [show (isB x y >>= fun c => (pure c : M Bool)) W.st = isB x y W.st from by
      rw [M.bind_run]; cases isB x y W.st <;> rfl]
    exact h
  rcases isB_cases w rx ry h with ⟨e, h⟩ | ⟨a, b, e1, e2, h⟩
  · exact .inl ⟨e, Post.pure w h⟩
  · exact .inr ⟨a, b, e1, e2, Post.pure w h⟩
theorem okc_isNot : OkC K cl xc E (cmpop .IsNot) rIsNotA := by
  intro W x y vx vy Q w rx ry h
  have h : Post K cl xc E W ((isB x y >>= fun c => (pure (!c) : M Bool)) W.st) (fun b W' => Q (.bl b) W'.H) := h
  rcases isB_cases w rx ry h with ⟨e, h⟩ | ⟨a, b, e1, e2, h⟩
  · exact .inl ⟨e, Post.pure w h⟩
  · exact .inr ⟨a, b, e1, e2, Post.pure w h⟩
/-- every comparison -/
theorem cmp_ok (hu : X.A.units + 65 < cLine) (op : CmpOp) : ∃ r, OpR X (compareOp op) r ∧ OkC X.K cl xc E (cmpop op) r := by
  cases op with
  | Eq => exact ⟨_, op_eqD (by omega), okc_eq⟩
  | NotEq => exact ⟨_, op_neD (by omega), okc_ne⟩
  | Lt => exact ⟨_, op_ltD (by omega), okc_lt⟩
  | LtE => exact ⟨_, op_leA, okc_le⟩
  | Gt => exact ⟨_, op_gt, okc_int⟩
  | GtE => exact ⟨_, op_ge, okc_int⟩
  | Is => exact ⟨_, op_isA, okc_is⟩
  | IsNot => exact ⟨_, op_isNotA, okc_isNot⟩
  | In => exact ⟨_, op_inA hu, okc_in⟩
  | NotIn => exact ⟨_, op_notInA hu, okc_notIn⟩
end
end Dw

namespace Dw
open PySem L2 PyProof.Rows
section
variable {prog : Program} {w : World} {A : Around} {E : Value → Shared → Prop} {s : Shared}
theorem collect_tup {l : Addr} {vs : List Value} {Q : List Value → Shared → Prop} (hl : s.heap.IsTuple l vs.toArray)
    (h : Q vs { s with heap := (s.heap.push (seqObj "list" #[] 0)).update s.heap.objs.size (Obj.mapSeq (· ++ vs.toArray)) }) (hsz : vs.length ≤ sizeLine) :
    wpAny (model prog w) A (collect (.ref l)) Q E s := by
  obtain ⟨o, ho, hc, n, hd⟩ := id hl
  unfold collect
  refine wpAny_bind (wpAny_runValue (codeAny_builtin entry_proto_collect' ?_))
  show wpAny _ _ (do again (.builtin "list.__iadd__" ⟨[← newList [], .ref l], []⟩)) _ _ s
  refine wpAny_bind (wpAny_newList (wpAny_pure ⟨Code.quiet_builtin _ (by decide +kernel), codeAny_builtin entry_list_iadd' ?_⟩))
  show wpAny _ _ (Builtin.List.listExtendWith (.ref s.heap.objs.size) (.ref l) (.ref s.heap.objs.size)) _ _ { s with heap := s.heap.push (seqObj "list" #[] 0) }
  unfold Builtin.List.listExtendWith
  have ho' : (s.heap.push (seqObj "list" #[] 0)).get? l = some o := Heap.get?_push_of_some _ ho
  refine wpAny_bind (wpAny_typeOf (T := "tuple") ⟨o, ho', hc⟩ ?_)
  have ht : (Value.type "tuple" == Value.type "tuple") = true := by rfl
  rw [if_pos (by rw [ht]; simp)]
  refine wpAny_bind (listItems_at ho' hd ?_)
  refine wpAny_bind (listItems_at (xs := #[]) (n := 0) (Heap.get?_push_size _ rfl) rfl ?_)
  rw [if_neg (by simp)]
  refine wpAny_bind (listUpdate_at (xs := #[]) (n := 0) (Heap.get?_push_size _ rfl) rfl ?_ (Nat.zero_le _) (by show (#[] ++ vs.toArray).size ≤ sizeLine + 1; simp only [Array.size_append, List.size_toArray, List.length_nil]; omega))
  refine wpAny_pure ?_
  show wpAny (model prog w) A (do
      let o ← load s.heap.objs.size
      match o.data with
      | .seq xs _ => pure xs.toList
      | _ => unsupported "internal:collect") Q E { s with heap := (s.heap.push (seqObj "list" #[] 0)).update s.heap.objs.size (Obj.mapSeq (· ++ vs.toArray)) }
  refine wpAny_bind (wpAny_load (get?_update_seq (Heap.get?_push_size _ rfl) _) ?_)
  show wpAny _ _ (pure ((#[] : Array Value) ++ vs.toArray).toList) Q E _
  rw [show ((#[] : Array Value) ++ vs.toArray).toList = vs by simp]
  exact wpAny_pure h
theorem sorted_either {l : Addr} {vs : List Value} {κ : PyProof.Rows.KeyKind} {Q : Value → Shared → Prop} (hl : s.heap.IsList l vs.toArray ∨ s.heap.IsTuple l vs.toArray) (S : PySem.W.SortsAt prog w A.in1.in1 { s with heap := PySem.W.sortingHeap (PySem.W.copyHeap s.heap vs) (s.heap.objs.size + 1) vs } κ vs) (hL : vs.length ≤ sizeLine)
    (h : Q (.ref (s.heap.objs.size + 1)) { s with heap := sortedAll s.heap vs (PySem.W.sortVals κ false vs vs).toArray }) : wpAny (model prog w) A (call (.builtin "sorted") [.ref l]) Q E s := by
  refine PyProof.Rows.call_function_entry_kw (kw := []) kind_sorted plain_sorted entry_sorted (args_sorted1 _) ?_
  unfold Builtin.«sorted»
  refine wpAny_bind (m := checkCount "sorted" 1 1 _) (wpAny_pure ?_)
  have key : ∀ {R : List Value → Shared → Prop} {E'}, (R vs { s with heap := (s.heap.push (seqObj "list" #[] 0)).update s.heap.objs.size (Obj.mapSeq (· ++ vs.toArray)) }) → wpAny (model prog w) A.in1 (collect (.ref l)) R E' s := fun hR => by
    rcases hl with hl | hl
    · exact collect_list hl hR hL
    · exact collect_tup hl hR hL
  refine wpAny_bind (key ?_)
  refine wpAny_bind (wpAny_newList ?_ hL)
  have hsz : ((s.heap.push (seqObj "list" #[] 0)).update s.heap.objs.size (Obj.mapSeq (· ++ vs.toArray))).objs.size = s.heap.objs.size + 1 := by
    rw [Heap.size_update, size_push']
  show wpAny _ _ _ _ _ { s with heap := PySem.W.copyHeap s.heap vs }
  rw [hsz]
  refine wpAny_bind (wpAny_holding (PyProof.Rows.wpAny_call_entry_kw (kw := []) slot_list_sort ⟨_, PySem.W.copyHeap_at s.heap vs, rfl⟩ entry_list_sort ?body (args_list_sort _)))
  case body =>
    show wpAny (model prog w) A.in1.in1 (Builtin.«list.sort» ⟨[.ref (s.heap.objs.size + 1)], []⟩) _ _ _
    refine PySem.W.list_sort_vals (s := { s with heap := PySem.W.copyHeap s.heap vs }) (PySem.W.copyHeap_at s.heap vs) S hL ?_
    exact ⟨_, rfl, wpAny_pure ⟨_, rfl, h⟩⟩
end
section
variable {X : Cx} {K : PySem.W.Frag} {cl xc : Nat → Addr} {E : XK} [Tb]
/-- sorted(l): every tie between the items and the data holds of the sorted ones -/
def rSortedD (K : PySem.W.Frag) : List V → Hp → VK → Prop := fun xs H Q => ∃ (a : Addr) (vs : List V) (ds : List D), xs = [.ref a] ∧ (SqL K H a vs ∨ SqT K H a vs) ∧ DpAll K H vs ds ∧ ordd ds = true ∧
  ∀ l vs', H l = none → (∀ R' : V → D → Prop, Paired R' vs ds → Paired R' vs' (sortD ds)) → Q (.ref l) (upd H l (.lst vs'))
theorem dpAll_vals {pins : List (Addr × Obj)} {σ : L2.St} {H : Hp} {s : Shared} (I : Inv X pins σ H s) : ∀ {ds : List D} {vs : List V} {us : List Value}, DpAll X.K H vs ds → Vals vs us → PySem.W.EachIs (fun v d => ∃ as, Reads s.heap v d as) us ds
  | [], _, _, h, r => by cases h; cases r; exact .nil
  | d :: ds, _, _, h, r => by
    cases h with
    | cons h1 h2 =>
      cases r with
      | cons r1 r2 => exact .cons (Dp.reads I d _ _ h1 r1) (dpAll_vals I h2 r2)
theorem trip : ∀ {ds : List D} {vs : List V} {us : List Value}, vs.length = ds.length → Vals vs us → PySem.W.EachIs (fun u (b : V × D) => RelV b.1 u) us (vs.zip ds)
  | [], [], _, _, r => by cases r; exact .nil
  | [], _ :: _, _, h, _ => by simp at h
  | _ :: _, [], _, h, _ => by simp at h
  | d :: ds, v :: vs, _, h, r => by
    cases r with
    | cons r1 r2 => exact .cons r1 (trip (by simpa using h) r2)
theorem each_vals : ∀ {us : List Value} {bs : List (V × D)}, PySem.W.EachIs (fun u (b : V × D) => RelV b.1 u) us bs → Vals (bs.map (·.1)) us
  | _, _, .nil => .nil
  | _, _, .cons r t => .cons r (each_vals t)
theorem dpAll_len {H : Hp} : ∀ {ds : List D} {vs : List V}, DpAll K H vs ds → vs.length = ds.length
  | [], _, h => by cases h; rfl
  | d :: ds, _, h => by
    cases h with
    | cons _ t => simp [dpAll_len t]
theorem paired_of {R' : V → D → Prop} {bs : List (V × D)} (h : ∀ b ∈ bs, R' b.1 b.2) : Paired R' (bs.map (·.1)) (bs.map (·.2)) := by
  induction bs with
  | nil => exact .nil
  | cons b bs ih => exact .cons (h b List.mem_cons_self) (ih fun c hc => h c (List.mem_cons_of_mem _ hc))
theorem paired_mem {R' : V → D → Prop} : ∀ {vs : List V} {ds : List D}, Paired R' vs ds → ∀ b ∈ vs.zip ds, R' b.1 b.2
  | _, _, .nil, b, hb => by cases hb
  | _, _, .cons r t, b, hb => by
    rcases List.mem_cons.mp hb with z | z
    · rw [z]; exact r
    · exact paired_mem t b z
theorem zip_snd : ∀ {vs : List V} {ds : List D}, vs.length = ds.length → (vs.zip ds).map (·.2) = ds
  | [], [], _ => rfl
  | [], _ :: _, h => by simp at h
  | _ :: _, [], h => by simp at h
  | v :: vs, d :: ds, h => by simp [zip_snd (vs := vs) (ds := ds) (by simpa using h)]
theorem ordd_all {ds : List D} (h : ordd ds = true) : ds.length ≤ szLine ∧ PySem.W.AllAlike ds ∧ PySem.W.Sortable ds ∧ ∀ d ∈ ds, d.depth ≤ 64 := by
  unfold ordd at h
  simp only [Bool.and_eq_true, Bool.or_eq_true, decide_eq_true_eq, List.all_eq_true] at h
  obtain ⟨⟨h1, h2⟩, h3⟩ := h
  refine ⟨h1, fun d hd e he => (h2 d hd).2 e he, ?_, fun d hd => SeqAt.depth_of_shaped (h2 d hd).1⟩
  rcases h3 with h3 | h3
  · refine .inl fun d hd => ?_
    have := h3 d hd
    unfold isTp1 at this
    split at this
    · exact ⟨_, _, rfl⟩
    · cases this
  · refine .inr fun d hd => ?_
    have := h3 d hd
    refine ⟨fun e => ?_, fun xs e => ?_⟩
    · rw [e] at this; cases this
    · rw [e] at this; cases this
theorem sortD_snd {vs : List V} {ds : List D} (h : vs.length = ds.length) : ((vs.zip ds).mergeSort (PySem.W.dataLe false Prod.snd)).map (·.2) = sortD ds := by
  have e := List.map_mergeSort (r := PySem.W.dataLe false (Prod.snd : V × D → D)) (s := PySem.W.dataLe false (id : D → D)) (f := (Prod.snd : V × D → D)) (l := vs.zip ds) (fun a _ b _ => rfl)
  refine e.trans ?_
  show ((vs.zip ds).map (·.2)).mergeSort _ = _
  rw [zip_snd h]
  rfl
theorem cr_sortedD (hu : X.A.units + 66 < cLine) : CallR X (.builtin "sorted") (rSortedD X.K) := by
  intro pins s σ H xs us Q I r h
  obtain ⟨a, vs, ds, rfl, hs, hd, ho, q⟩ := h
  obtain ⟨u, rfl, ru⟩ := vals1 r
  cases ru
  obtain ⟨z1, z2, z3, z4⟩ := ordd_all ho
  have hlen := dpAll_len hd
  have main : ∀ its : List Value, Vals vs its → (s.heap.IsList a its.toArray ∨ s.heap.IsTuple a its.toArray) → wpAny (model X.prog X.w) X.A (call (.builtin "sorted") [.ref a]) (EP X pins σ Q) X.xe s := by
    intro its rv hl
    have hz : its.length ≤ sizeLine := by rw [← rv.length, hlen, ← szE]; exact z1
    have kp : ∀ b o, s.heap.get? b = some o → (PySem.W.sortingHeap (PySem.W.copyHeap s.heap its) (s.heap.objs.size + 1) its).get? b = some o := fun b o e => PySem.W.sorting_copy_old e
    have I2 : Inv X pins σ H { s with heap := PySem.W.sortingHeap (PySem.W.copyHeap s.heap its) (s.heap.objs.size + 1) its } := I.kept (t' := s.toks) kp
    have e2 := dpAll_vals I2 hd rv
    refine sorted_either hl (PySem.W.SortsAt.data e2 z2 z3 fun d hd => ?_) hz ?_
    · have := z4 d hd
      have hin : X.A.in1.in1.units = X.A.units + 1 + 1 := rfl
      rw [hin]; omega
    · have hek := PySem.W.each_keys z2 e2
      have he : PySem.W.EachIs (fun u (b : V × D) => RelV b.1 u) (PySem.W.sortVals (PySem.W.dataKind (PySem.W.sortingHeap (PySem.W.copyHeap s.heap its) (s.heap.objs.size + 1) its) ds) false its its) ((vs.zip ds).mergeSort (PySem.W.dataLe false Prod.snd)) := by
        refine PySem.W.sortVals_each (κ := PySem.W.dataKind _ ds) (fun b : V × D => PySem.W.keyToks b.2) (trip hlen rv) ?_
        refine PySem.W.each_of_map (R := fun v d => (PySem.W.dataKind (PySem.W.sortingHeap (PySem.W.copyHeap s.heap its) (s.heap.objs.size + 1) its) ds).keyOf v = some (PySem.W.keyToks d)) Prod.snd ?_
        show PySem.W.EachIs _ its ((vs.zip ds).map (·.2))
        rw [zip_snd hlen]
        exact hek
      obtain ⟨ep, he'⟩ := sortedAll_at s.heap its (PySem.W.sortVals (PySem.W.dataKind (PySem.W.sortingHeap (PySem.W.copyHeap s.heap its) (s.heap.objs.size + 1) its) ds) false its its).toArray
      have rv' := each_vals he
      have hl' : (((vs.zip ds).mergeSort (PySem.W.dataLe false Prod.snd)).map (·.1)).length ≤ sizeLine := by
        rw [List.length_map, List.length_mergeSort, List.length_zip, hlen, Nat.min_self, ← szE]; exact z1
      refine ⟨.ref _, upd H (s.heap.objs.size + 1) (.lst (((vs.zip ds).mergeSort (PySem.W.dataLe false Prod.snd)).map (·.1))), I.laid (t' := s.toks) (fun _ _ => sortedAll_old) (Nat.le_succ _) ⟨hl', _, ep, rv', he'⟩, rfl, q _ _ (I.hok.fresh (Nat.le_succ _)) fun R' hp => ?_⟩
      rw [← sortD_snd hlen]
      refine paired_of fun b hb => ?_
      have hm := (List.mergeSort_perm _ _).mem_iff.mp hb
      exact paired_mem hp b hm
  rcases hs with hs | hs
  · obtain ⟨its, rv, hl, _⟩ := I.list hs
    exact main its rv (.inl hl.isList)
  · obtain ⟨its, rv, hl, _⟩ := I.tuple hs
    exact main its rv (.inr hl)
/-! ### min of alike data -/
theorem minD_eq (d : D) (ds : List D) : PySem.W.minD d ds = minDD d ds := rfl
theorem ordm_all {ds : List D} (h : ordm ds = true) : ds.length ≤ szLine ∧ PySem.W.AlikeAll ds ∧ ∀ d ∈ ds, d.depth ≤ 64 := by
  unfold ordm at h
  simp only [Bool.and_eq_true, decide_eq_true_eq, List.all_eq_true] at h
  obtain ⟨⟨h1, h2⟩, h3⟩ := h
  refine ⟨h1, ⟨fun d hd e he => (h2 d hd).2 e he, fun d hd e => ?_⟩, fun d hd => SeqAt.depth_of_shaped (h2 d hd).1⟩
  have := h3 d hd
  rw [e] at this
  cases this
theorem depthAll_le : ∀ {ds : List D} {n : Nat}, (∀ d ∈ ds, d.depth ≤ n) → PyData.depthAll ds ≤ n
  | [], _, _ => by unfold PyData.depthAll; omega
  | d :: ds, n, h => by
    have h1 := h d List.mem_cons_self
    have h2 := depthAll_le (ds := ds) (n := n) fun e he => h e (List.mem_cons_of_mem _ he)
    unfold PyData.depthAll
    omega
theorem reads_all {h : Heap} : ∀ {us : List Value} {ds : List D}, PySem.W.EachIs (fun v d => ∃ as, Reads h v d as) us ds → ∃ as, ReadsAll h us ds as
  | _, _, .nil => ⟨_, .nil⟩
  | _, _, .cons r t => by
    obtain ⟨as, r⟩ := r
    obtain ⟨bs, t⟩ := reads_all t
    exact ⟨_, .cons r t⟩
section
variable {prog : Program} {w : World} {A : Around} {E : Value → Shared → Prop} {s : Shared}
open PySem.W in
theorem min_at {l : Addr} {vs : Array Value} {x : PyData} {xs : List PyData} {as : List Addr} {Q : Value → Shared → Prop} (hh : A.handled = none) (hl : s.heap.IsList l vs ∨ s.heap.IsTuple l vs) (hr : ReadsAll s.heap vs.toList (x :: xs) as) (ha : AlikeAll (x :: xs)) (hu : A.units + 1 + PyData.depthAll (x :: xs) < cLine)
    (h : ∀ (i : Nat) v h' tk, vs[i]? = some v → (x :: xs).getD i .none = minD x xs → i < (x :: xs).length → (∀ b o, s.heap.get? b = some o → h'.get? b = some o) → Q v { s with heap := h', toks := tk }) :
    wpAny (model prog w) A (call (.builtin "min") [.ref l]) Q E s := by
  have hn : vs.size = xs.length + 1 := readsAll_len hr
  rcases hl with hl | hl
  · refine call_min_walkH (iter_listW (A := A.in1) hh hl fun s₂ e W st hfp hw hk => ?_)
    refine ⟨_, _, _, _, _, _, _, s.heap, _, rfl, W, st, hfp, by omega, hw, hk, cmpIn_lt (A := A.in1) hr ha (by show A.units + 1 + _ < _; exact hu), fun v s' hP m => ?_⟩
    obtain ⟨h', tk, rfl, hk'⟩ := moved_old e rfl m
    obtain ⟨bs, r, g1, _, _⟩ := readsAll_atA hr _ v hP
    have e1 : vs.size - 1 = xs.length := by omega
    have e2 := (argBest_fold dataLt PyData.none x xs xs.length (Nat.le_refl _)).2
    rw [List.take_length] at e2
    exact h _ v h' tk hP (by rw [e1]; exact e2) g1 hk'
  · refine call_min_walkH (iter_tupleW (A := A.in1) hh hl fun s₂ e W st hfp hw hk => ?_)
    refine ⟨_, _, _, _, _, _, _, s.heap, _, rfl, W, st, hfp, by omega, hw, hk, cmpIn_lt (A := A.in1) hr ha (by show A.units + 1 + _ < _; exact hu), fun v s' hP m => ?_⟩
    obtain ⟨h', tk, rfl, hk'⟩ := moved_old e rfl m
    obtain ⟨bs, r, g1, _, _⟩ := readsAll_atA hr _ v hP
    have e1 : vs.size - 1 = xs.length := by omega
    have e2 := (argBest_fold dataLt PyData.none x xs xs.length (Nat.le_refl _)).2
    rw [List.take_length] at e2
    exact h _ v h' tk hP (by rw [e1]; exact e2) g1 hk'
end
def rMinD (K : PySem.W.Frag) : List V → Hp → VK → Prop := fun xs H Q => ∃ (a : Addr) (vs : List V) (d : D) (ds : List D), xs = [.ref a] ∧ (SqL K H a vs ∨ SqT K H a vs) ∧ DpAll K H vs (d :: ds) ∧ ordm (d :: ds) = true ∧
  ∀ v, (∀ R' : V → D → Prop, Paired R' vs (d :: ds) → R' v (minDD d ds)) → Q v H
theorem cr_minD (hc : X.calm = true) (hu : X.A.units + 66 < cLine) : CallR X (.builtin "min") (rMinD X.K) := by
  intro pins s σ H xs us Q I r h
  obtain ⟨a, vs, d, ds, rfl, hs, hd, ho, q⟩ := h
  obtain ⟨u, rfl, ru⟩ := vals1 r
  cases ru
  obtain ⟨z1, z2, z4⟩ := ordm_all ho
  have hlen := dpAll_len hd
  have main : ∀ its : List Value, Vals vs its → (s.heap.IsList a its.toArray ∨ s.heap.IsTuple a its.toArray) → wpAny (model X.prog X.w) X.A (call (.builtin "min") [.ref a]) (EP X pins σ Q) X.xe s := by
    intro its rv hl
    obtain ⟨as, hra⟩ := reads_all (dpAll_vals I hd rv)
    refine min_at (I.ok.hd hc) hl (by simpa using hra) z2 (by have := depthAll_le z4; omega) fun i v h' tk hi hm hlt hk => ?_
    have hi' : its[i]? = some v := by simpa using hi
    have hvl : i < vs.length := by rw [hlen]; exact hlt
    obtain ⟨u, hu1, hu2⟩ := Vals.get rv (List.getElem?_eq_getElem hvl)
    rw [hi'] at hu1
    cases hu1
    refine ⟨vs[i], H, I.kept (t' := tk) hk, hu2, q _ fun R' hp => ?_⟩
    obtain ⟨b, hb, hR⟩ := paired_get hp (List.getElem?_eq_getElem hvl)
    rw [List.getD_eq_getElem?_getD, hb] at hm
    rw [← minD_eq, ← hm]
    exact hR
  rcases hs with hs | hs
  · obtain ⟨its, rv, hl, _⟩ := I.list hs
    exact main its rv (.inl hl.isList)
  · obtain ⟨its, rv, hl, _⟩ := I.tuple hs
    exact main its rv (.inr hl)
end
end Dw

namespace Dw
open PySem PySem.Spec PyProof.Rows L2 RZ
section
variable {prog : Program} {w : World} {A : Around} {E : Value → Shared → Prop} {s : Shared}
/-- two tuples walked side by side, the pair that was told last still held -/
structure Zp (h : Heap) (z TI TO i1 i2 a b : Addr) (xs ys : Array Value) (k : Nat) : Prop where
  ti : IsPair h TI (.ref i1) (.ref i2)
  i1 : h.IsTupleIter i1 a k
  i2 : h.IsTupleIter i2 b k
  l1 : h.IsTuple a xs
  l2 : h.IsTuple b ys
theorem Zp.step {h h' : Heap} {z TI TO i1 i2 a b : Addr} {xs ys : Array Value} {k j : Nat} (p : Zp h z TI TO i1 i2 a b xs ys k) (D : ZipApart z TI TO i1 i2 a b) (h1 : h'.IsTupleIter i1 a j) (h2 : h'.IsTupleIter i2 b j)
    (hk : ∀ c o, c ≠ z → c ≠ TO → c ≠ i1 → c ≠ i2 → h.get? c = some o → h'.get? c = some o) : Zp h' z TI TO i1 i2 a b xs ys j :=
  ⟨hk _ _ D.TIz D.TITO D.TIi1 D.TIi2 p.ti, h1, h2, p.l1.at fun o e => hk _ o D.l1z D.l1TO D.l1i1 D.l1i2 e, p.l2.at fun o e => hk _ o D.l2z D.l2TO D.l2i1 D.l2i2 e⟩
theorem held_item {z TI TO T i1 i2 a b : Addr} {f : Bool} {oT : Obj} {k : Nat} {xs ys : Array Value} {x y : Value} {Q : Option Value → Shared → Prop} (D : ZipApart z TI TO i1 i2 a b)
    (hz : IsZipHeld s.heap z TI TO T f) (hT : s.heap.get? T = some oT) (p : Zp s.heap z TI TO i1 i2 a b xs ys k) (hx : xs[k]? = some x) (hy : ys[k]? = some y)
    (hQ : ∀ h', IsZipHeld h' z TI TO T true → Zp h' z TI TO i1 i2 a b xs ys (k + 1) → IsPair h' s.heap.objs.size x y →
      (∀ c o, c ≠ z → c ≠ i1 → c ≠ i2 → s.heap.get? c = some o → h'.get? c = some o) → Q (some (.ref s.heap.objs.size)) { s with heap := h' }) :
    wpAny (model prog w) A (pyNext (.ref z)) Q E s := by
  have hTy : s.TypeIs (.ref z) "zip" := ⟨_, hz, rfl⟩
  have e1 := p.i1; have e2 := p.i2
  unfold pyNext
  refine wpAny_bind (wpAny_attempt (wpAny_callSpecial?_slot (name := Str.ofString "__next__") hTy PySem.F.slot_zip_next
    (wpAny_call_entry PySem.F.slot_zip_next hTy PySem.F.entry_zip_next ?_ (PySem.F.args_zip_next_1 _))))
  show wpAny _ _ (field (.ref z) 2 >>= _) _ _ _
  refine wpAny_bind (wpAny_field hz rfl (x := .bool false) rfl ?_)
  show wpAny _ _ (field (.ref z) 3 >>= _) _ _ _
  refine wpAny_bind (wpAny_field hz rfl (x := .ref TI) rfl ?_)
  refine wpAny_bind (wpAny_seqItems p.ti rfl ?_)
  show wpAny _ _ (Builtin.SmallTypes.ownedTupleIsFree (.ref z) >>= _) _ _ _
  refine wpAny_bind (wpAny_tupleHeld_zip hz hT fun g1 z1 s1 => ?_)
  simp only [Bool.false_eq_true, if_false]
  refine wpAny_bind ?_
  rw [← Array.forIn_toList]
  simp only [List.forIn_cons, List.forIn_nil]
  refine wpAny_bind (wpAny_bind (wpAny_holding ?_))
  show wpAny _ _ (Builtin.SmallTypes.nextOf (.ref i1) >>= _) _ _ _
  refine wpAny_bind (nextOf_tuple_item (s := { s with heap := g1 }) (e1.extBut s1.extBut D.i1z) (p.l1.extBut s1.extBut D.l1z) hx fun g2 j1 s2 => wpAny_pure ?_)
  refine wpAny_pure ?_
  refine wpAny_bind (wpAny_bind (wpAny_holding ?_))
  show wpAny _ _ (Builtin.SmallTypes.nextOf (.ref i2) >>= _) _ _ _
  refine wpAny_bind (nextOf_tuple_item (s := { s with heap := g2 }) ((e2.extBut s1.extBut D.i2z).extBut s2.extBut D.i12.symm) ((p.l2.extBut s1.extBut D.l2z).extBut s2.extBut D.l2i1) hy fun g3 j2 s3 => wpAny_pure ?_)
  refine wpAny_pure (wpAny_pure ?_)
  show wpAny _ _ (newTuple [x, y] >>= _) _ _ _
  refine wpAny_bind (wpAny_newTuple ?_)
  have sz : g3.objs.size = s.heap.objs.size := by rw [s3.1, s2.1, s1.1]
  have z3 : IsZipHeld g3 z TI TO T true := s3.extBut _ _ D.i2z.symm (s2.extBut _ _ D.i1z.symm z1)
  have hk : ∀ c o, c ≠ z → c ≠ i1 → c ≠ i2 → s.heap.get? c = some o → g3.get? c = some o := fun c o c1 c2 c3 e => s3.extBut _ _ c3 (s2.extBut _ _ c2 (s1.extBut _ _ c1 e))
  have j1' : g3.IsTupleIter i1 a (k + 1) := j1.extBut s3.extBut D.i12
  refine wpAny_pure ⟨_, rfl, ?_⟩
  have hp : IsPair (g3.push { cls := .type "tuple", data := .seq #[x, y] }) g3.objs.size x y := Heap.get?_push_size _ rfl
  refine wpAny_pure ?_
  show Q (some (.ref g3.objs.size)) _
  rw [sz] at hp ⊢
  have up : ∀ c o, g3.get? c = some o → (g3.push { cls := .type "tuple", data := .seq #[x, y] }).get? c = some o := fun c o e => Heap.get?_push_of_some _ e
  exact hQ _ (up _ _ z3) (p.step D (j1'.at fun o e => up _ o e) (j2.at fun o e => up _ o e) fun c o c1 _ c3 c4 e => up _ _ (hk c o c1 c3 c4 e)) hp fun c o c1 c2 c3 e => up _ _ (hk c o c1 c2 c3 e)
theorem held_end {z TI TO T i1 i2 a b : Addr} {f : Bool} {oT : Obj} {k : Nat} {xs ys : Array Value} {Q : Option Value → Shared → Prop} (hh : A.handled = none) (D : ZipApart z TI TO i1 i2 a b)
    (hz : IsZipHeld s.heap z TI TO T f) (hT : s.heap.get? T = some oT) (p : Zp s.heap z TI TO i1 i2 a b xs ys k) (hend : xs[k]? = none ∨ ys[k]? = none)
    (hQ : ∀ h', (∀ c o, c ≠ z → c ≠ i1 → c ≠ i2 → s.heap.get? c = some o → h'.get? c = some o) → Q none { s with heap := h' }) : wpAny (model prog w) A (pyNext (.ref z)) Q E s := by
  have hTy : s.TypeIs (.ref z) "zip" := ⟨_, hz, rfl⟩
  have e1 := p.i1; have e2 := p.i2
  unfold pyNext
  refine wpAny_bind (wpAny_attempt (wpAny_callSpecial?_slot (name := Str.ofString "__next__") hTy PySem.F.slot_zip_next
    (wpAny_call_entry PySem.F.slot_zip_next hTy PySem.F.entry_zip_next ?_ (PySem.F.args_zip_next_1 _))))
  have fin : ∀ (h' : Heap) (e : Addr), (∀ c o, c ≠ z → c ≠ i1 → c ≠ i2 → s.heap.get? c = some o → h'.get? c = some o) → (∃ o, h'.get? e = some o ∧ o.cls = .type "StopIteration") →
      wpAny (model prog w) A (match (Except.error (.ref e) : Except Value Value) with
        | .ok v => pure (some v)
        | .error e => do if ← isInstance e (.type "StopIteration") then pure none else throw e) Q E { s with heap := h' } := fun h' e hk he => by
    obtain ⟨o, ho, hc⟩ := he
    refine wpAny_bind (wpAny_isInstance (T := "StopIteration") (b := true) ⟨o, ho, hc⟩ isSubtype_stop ?_)
    exact wpAny_pure (hQ _ hk)
  show wpAny _ _ (field (.ref z) 2 >>= _) _ _ _
  refine wpAny_bind (wpAny_field hz rfl (x := .bool false) rfl ?_)
  show wpAny _ _ (field (.ref z) 3 >>= _) _ _ _
  refine wpAny_bind (wpAny_field hz rfl (x := .ref TI) rfl ?_)
  refine wpAny_bind (wpAny_seqItems p.ti rfl ?_)
  show wpAny _ _ (Builtin.SmallTypes.ownedTupleIsFree (.ref z) >>= _) _ _ _
  refine wpAny_bind (wpAny_tupleHeld_zip hz hT fun g1 z1 s1 => ?_)
  simp only [Bool.false_eq_true, if_false]
  refine wpAny_bind ?_
  rw [← Array.forIn_toList]
  simp only [List.forIn_cons, List.forIn_nil]
  refine wpAny_bind (wpAny_bind (wpAny_holding ?_))
  show wpAny _ _ (Builtin.SmallTypes.nextOf (.ref i1) >>= _) _ _ _
  cases hx : xs[k]? with
  | none =>
    refine wpAny_bind (nextOf_tuple_end (s := { s with heap := g1 }) hh (e1.extBut s1.extBut D.i1z) (p.l1.extBut s1.extBut D.l1z) hx fun g2 e s2 he => ?_)
    exact fin g2 e (fun c o c1 c2 _ q => s2 _ _ c2 (s1.extBut _ _ c1 q)) he
  | some x =>
    have hy : ys[k]? = none := by rcases hend with h | h; · rw [hx] at h; cases h
                                  · exact h
    refine wpAny_bind (nextOf_tuple_item (s := { s with heap := g1 }) (e1.extBut s1.extBut D.i1z) (p.l1.extBut s1.extBut D.l1z) hx fun g2 j1 s2 => wpAny_pure ?_)
    refine wpAny_pure ?_
    refine wpAny_bind (wpAny_bind (wpAny_holding ?_))
    show wpAny _ _ (Builtin.SmallTypes.nextOf (.ref i2) >>= _) _ _ _
    refine wpAny_bind (nextOf_tuple_end (s := { s with heap := g2 }) hh ((e2.extBut s1.extBut D.i2z).extBut s2.extBut D.i12.symm) ((p.l2.extBut s1.extBut D.l2z).extBut s2.extBut D.l2i1) hy fun g3 e s3 he => ?_)
    exact fin g3 e (fun c o c1 c2 c3 q => s3 _ _ c3 (s2.extBut _ _ c2 (s1.extBut _ _ c1 q))) he
end
/-- where a zip of two tuples stands ahead of its k-th pair -/
def ZSt (h : Heap) (z TI TO i1 i2 a b d : Addr) (xs ys : Array Value) (k : Nat) : Prop := Zp h z TI TO i1 i2 a b xs ys k ∧
  ((IsZip h z TI TO .none ∧ ∃ p q, IsPair h TO p q) ∨ ∃ T f oT, IsZipHeld h z TI TO T f ∧ h.get? T = some oT ∧ T ≠ z ∧ T ≠ i1 ∧ T ≠ i2 ∧ T ≠ d)
section
variable {prog : Program} {w : World}
theorem zip_src {A : Around} (hA : A.handled = none) {z TI TO i1 i2 a b d : Addr} (D : ZipApart z TI TO i1 i2 a b) (hd : d ∉ [z, TI, TO, i1, i2, a, b]) (xs ys : Array Value) :
    PairSrc prog w A z d [z, TO, i1, i2] (min xs.size ys.size) (fun i k v => xs[i]? = some k ∧ ys[i]? = some v) (fun k h => ZSt h z TI TO i1 i2 a b d xs ys k) := by
  simp only [List.mem_cons, List.not_mem_nil, or_false, not_or] at hd
  obtain ⟨dz, dTI, dTO, di1, di2, da, db⟩ := hd
  refine ⟨?_, ?_, ?_, ?_⟩
  · simp only [List.mem_cons, List.not_mem_nil, or_false, not_or]
    exact ⟨dz, dTO, di1, di2⟩
  · rintro i h h' ⟨p, hz⟩ hk
    refine ⟨⟨hk _ _ (Ne.symm dTI) p.ti, p.i1.at fun o e => hk _ o (Ne.symm di1) e, p.i2.at fun o e => hk _ o (Ne.symm di2) e, p.l1.at fun o e => hk _ o (Ne.symm da) e, p.l2.at fun o e => hk _ o (Ne.symm db) e⟩, ?_⟩
    rcases hz with ⟨hz, u, v, hTO⟩ | ⟨T, f, oT, hz, hT, r1, r2, r3, r4⟩
    · exact .inl ⟨hk _ _ (Ne.symm dz) hz, u, v, hk _ _ (Ne.symm dTO) hTO⟩
    · exact .inr ⟨T, f, oT, hk _ _ (Ne.symm dz) hz, hk _ _ r4 hT, r1, r2, r3, r4⟩
  · rintro i s Q E hi ⟨p, hz⟩ hds hQ
    have ex := Array.getElem?_eq_getElem (Nat.lt_of_lt_of_le hi (Nat.min_le_left ..))
    have ey := Array.getElem?_eq_getElem (Nat.lt_of_lt_of_le hi (Nat.min_le_right ..))
    have lt : ∀ {c o}, s.heap.get? c = some o → s.heap.objs.size ≠ c := fun e => Nat.ne_of_gt (Heap.lt_size e)
    have n1 : s.heap.objs.size ≠ i1 := let ⟨_, e, _⟩ := p.i1; lt e
    have n2 : s.heap.objs.size ≠ i2 := let ⟨_, e, _⟩ := p.i2; lt e
    rcases hz with ⟨hz, u, v, hTO⟩ | ⟨T, f, oT, hz, hT, r1, r2, r3, r4⟩
    · refine pyNext_zipT_item D hz p.ti hTO p.i1 p.i2 p.l1 p.l2 ex ey fun h' a1 a2 a3 a4 a5 a6 hk => ?_
      exact hQ s.heap.objs.size _ _ h' s.toks ⟨ex, ey⟩ (.inl ⟨_, a5, rfl, _, rfl⟩) ⟨p.step D a3 a4 hk, .inr ⟨s.heap.objs.size, false, _, a1, a5, lt hz, n1, n2, Nat.ne_of_gt hds⟩⟩
        fun c o hc e => hk c o (fun x => hc (by simp [x])) (fun x => hc (by simp [x])) (fun x => hc (by simp [x])) (fun x => hc (by simp [x])) e
    · refine held_item D hz hT p ex ey fun h' a1 a2 a3 hk => ?_
      exact hQ s.heap.objs.size _ _ h' s.toks ⟨ex, ey⟩ (.inl ⟨_, a3, rfl, _, rfl⟩) ⟨a2, .inr ⟨T, true, oT, a1, hk _ _ r1 r2 r3 hT, r1, r2, r3, r4⟩⟩
        fun c o hc e => hk c o (fun x => hc (by simp [x])) (fun x => hc (by simp [x])) (fun x => hc (by simp [x])) e
  · rintro s Q E ⟨p, hz⟩ hQ
    have hend : xs[min xs.size ys.size]? = none ∨ ys[min xs.size ys.size]? = none := by
      rcases Nat.le_total xs.size ys.size with h | h
      · exact .inl (Array.getElem?_eq_none (by rw [Nat.min_eq_left h]; exact Nat.le_refl _))
      · exact .inr (Array.getElem?_eq_none (by rw [Nat.min_eq_right h]; exact Nat.le_refl _))
    rcases hz with ⟨hz, u, v, hTO⟩ | ⟨T, f, oT, hz, hT, r1, r2, r3, r4⟩
    · exact pyNext_zipT_end hA D hz p.ti hTO p.i1 p.i2 p.l1 p.l2 hend fun h' hk => hQ h' s.toks fun c o hc e => hk c o (fun x => hc (by simp [x])) (fun x => hc (by simp [x])) (fun x => hc (by simp [x])) (fun x => hc (by simp [x])) e
    · exact held_end hA D hz hT p hend fun h' hk => hQ h' s.toks fun c o hc e => hk c o (fun x => hc (by simp [x])) (fun x => hc (by simp [x])) (fun x => hc (by simp [x])) e
theorem zip_arg (z TI TO i1 i2 a b : Addr) (D : ZipApart z TI TO i1 i2 a b) (xs ys : Array Value) :
    PairArg prog w "zip" z [z, TI, TO, i1, i2, a, b] [z, TO, i1, i2] (min xs.size ys.size) (fun i k v => xs[i]? = some k ∧ ys[i]? = some v)
      (fun h => Zp h z TI TO i1 i2 a b xs ys 0 ∧ IsZip h z TI TO .none ∧ ∃ p q, IsPair h TO p q) := by
  refine ⟨?_, by decide, ?_, ?_, ?_, ?_, ?_⟩
  · rintro s ⟨_, hz, _⟩; exact ⟨_, hz, rfl⟩
  · rintro h h' ⟨p, hz, u, v, hTO⟩ hk
    exact ⟨⟨hk _ _ p.ti, p.i1.at fun o e => hk _ o e, p.i2.at fun o e => hk _ o e, p.l1.at fun o e => hk _ o e, p.l2.at fun o e => hk _ o e⟩, hk _ _ hz, u, v, hk _ _ hTO⟩
  · rintro h ⟨p, hz, u, v, hTO⟩ c hc
    obtain ⟨hTI, ⟨o1, h1, _⟩, ⟨o2, h2, _⟩, ⟨o3, l1, _⟩, ⟨o4, l2, _⟩⟩ := p
    simp only [List.mem_cons, List.not_mem_nil, or_false] at hc
    rcases hc with rfl | rfl | rfl | rfl | rfl | rfl | rfl
    all_goals first | exact ⟨_, hz⟩ | exact ⟨_, hTI⟩ | exact ⟨_, hTO⟩ | exact ⟨_, h1⟩ | exact ⟨_, h2⟩ | exact ⟨_, l1⟩ | exact ⟨_, l2⟩
  · intro c hc
    simp only [List.mem_cons, List.not_mem_nil, or_false] at hc ⊢
    rcases hc with rfl | rfl | rfl | rfl <;> simp
  · rintro A s Q E hA ⟨_, hz, _⟩ h
    exact getAttrOr_miss_zip hz rfl rfl rfl zip_no_keys (by decide +kernel) hA h
  · rintro A s d Q E hA ⟨p, hz, u, v, hTO⟩ hd hdf h
    exact wpAny_pyIter_zip hz (h z _ _ s.heap s.toks (zip_src hA D hdf xs ys) ⟨p, .inl ⟨hz, u, v, hTO⟩⟩ (fun _ _ e => e) fun b hb => .inl hb)
end
def tDZ (K : PySem.W.Frag) (ta : TA) : TE := fun σ H Q => ta σ H fun vs H1 => ∃ (a b : Addr) (ks : List Key) (ys : List V), vs = [.ref a, .ref b] ∧ SqT K H1 a (ks.map kV) ∧ SqT K H1 b ys ∧ ks.length = ys.length ∧
  ∀ p, H1 p = none → Q (.ref p) (upd H1 p (.dK (mergeK [] (ks.zip ys))))
theorem zip_kv {ks : List Key} {ys : List V} {us vs : List Value} (h1 : Vals (ks.map kV) us) (h2 : Vals ys vs) (hl : ks.length = ys.length) : ∃ prs : List (Key × Value), KV (ks.zip ys) prs ∧ prs.length = ks.length ∧
    ∀ (i : Nat) (k v : Value), us[i]? = some k → vs[i]? = some v → ∃ q, prs[i]? = some (q, v) ∧ (∃ y, RelV (kV q) y ∧ y = k) := by
  induction ks generalizing ys us vs with
  | nil =>
    cases ys with
    | nil => exact ⟨[], .nil, rfl, fun i k v e => by cases h1; simp at e⟩
    | cons y ys => simp at hl
  | cons q ks ih =>
    cases ys with
    | nil => simp at hl
    | cons y ys =>
      cases h1 with
      | cons r1 t1 =>
        cases h2 with
        | cons r2 t2 =>
          rename_i u us v vs
          obtain ⟨prs, p1, p2, p3⟩ := ih t1 t2 (by simpa using hl)
          refine ⟨(q, v) :: prs, .cons ⟨rfl, r2⟩ p1, by simp [p2], fun i k w e1 e2 => ?_⟩
          cases i with
          | zero =>
            have e1 : u = k := Option.some.inj e1
            have e2 : v = w := Option.some.inj e2
            subst e1 e2
            exact ⟨q, rfl, u, r1, rfl⟩
          | succ i => exact p3 i k w (by simpa using e1) (by simpa using e2)
theorem pe_dictZip {X : Cx} (hc : X.calm = true) {e e2 : Expr} {ta : TA} {p p2 pz pos : Pos} (hgd : Gl X "dict") (hmd : X.mg "dict" = none) (hgz : Gl X "zip") (hmz : X.mg "zip" = none) (ha : PA X [e, e2] ta)
    (hs : starEach [e, e2] X.env = (false, eval e X.env) :: starEach [e2] X.env := by rfl) (hpl : (backTo pz (starEach [e2] X.env)).any (·.1) = false := by rfl) :
    PE X (.Call (.Name "dict" p) [.Call (.Name "zip" p2) [e, e2] [] pz] [] pos) (tDZ X.K ta) := by
  refine ⟨fun pins s σ H Q I h => ?_⟩
  refine wpAny_Call_Name_kw (ld_blt I hgd hmd (by rfl) ?_)
  refine PyProof.Rows.callWith_type1 ?_ (by rfl) (by rfl)
  refine Calls.spliced_cons ?_
  refine Call_ (ld_blt I hgz hmz PyProof.Rows.boot_zip (PyProof.Rows.callWith_type1 (thn (ha.run pz pins s σ H _ I h) fun us s1 ⟨vs, H1, I1, r1, q1⟩ => ?_) hs hpl))
  obtain ⟨a, b, ks, ys, ex, hqx, hqy, hl, q⟩ := q1
  subst ex
  cases r1 with
  | cons r rr =>
    cases rr with
    | cons r' rr =>
      cases rr
      cases r
      cases r'
      obtain ⟨its, rv, p1, z1⟩ := I1.tuple hqx
      obtain ⟨its2, rv2, p3, _⟩ := I1.tuple hqy
      obtain ⟨o1, ho1, _⟩ := id p1
      obtain ⟨o2, ho2, _⟩ := id p3
      refine call_zipT (show s1.heap.IsTuple a its.toArray from p1) (show s1.heap.IsTuple b its2.toArray from p3) fun h' hz hTI hTO h1 h2 hsz hk => ?_
      have D := PySem.W.ktu_apart s1.heap.objs.size a b (Heap.lt_size ho1) (Heap.lt_size ho2)
      have zp : Zp h' (s1.heap.objs.size + 4) (s1.heap.objs.size + 2) (s1.heap.objs.size + 3) s1.heap.objs.size (s1.heap.objs.size + 1) a b its.toArray its2.toArray 0 :=
        ⟨hTI, h1, h2, (show s1.heap.IsTuple a its.toArray from p1).at fun o e => hk _ o e, (show s1.heap.IsTuple b its2.toArray from p3).at fun o e => hk _ o e⟩
      obtain ⟨prs, kv, hpl2, hp⟩ := zip_kv rv rv2 hl
      have l1 : its.length = ks.length := by have := rv.length; simp at this; omega
      have l2 : its2.length = ys.length := rv2.length.symm ▸ rfl
      have hmin : min its.toArray.size its2.toArray.size = prs.length := by simp; omega
      show wpAny _ _ (spliced []) _ _ _
      refine wpAny_pure ?_
      refine PySem.call_dict_pairs (knd := mixKind X.prog X.w) (kvs := prs) (zip_arg _ _ _ _ _ a b D its.toArray its2.toArray) (I1.ok.hd hc) ⟨zp, hz, _, _, hTO⟩ ⟨hmin.symm, fun i k v ⟨ek, ev⟩ => ?_⟩ (by rw [hmin, hpl2]; simpa using z1) fun h2' tk hd' k => ?_
      · obtain ⟨q, e1, y, ry, rfl⟩ := hp i k v (by simpa using ek) (by simpa using ev)
        exact ⟨q, e1, kV_is ry⟩
      · have keep : ∀ c o, s1.heap.get? c = some o → h2'.get? c = some o := fun c o e => by
          have lt := Heap.lt_size e
          have n5 : ∀ j, c ≠ s1.heap.objs.size + j := fun j => Nat.ne_of_lt (Nat.lt_of_lt_of_le lt (Nat.le_add_right _ _))
          refine k c o ?_ (hk c o e)
          simp only [List.mem_cons, List.not_mem_nil, or_false, not_or]
          exact ⟨n5 4, n5 3, Nat.ne_of_lt lt, n5 1⟩
        have hle : s1.heap.objs.size ≤ h'.objs.size := by rw [hsz]; exact Nat.le_add_right _ _
        have hm : (h'.objs.size == sysModules) = false := beq_eq_false_iff_ne.mpr (Nat.ne_of_gt (Nat.lt_of_lt_of_le I1.big hle))
        have hlen : (mergeK [] (ks.zip ys)).length ≤ sizeLine := by
          refine Nat.le_trans (length_mergeK _ []) ?_
          rw [List.length_nil, Nat.zero_add, List.length_zip]
          refine Nat.le_trans (Nat.min_le_left ..) ?_
          simpa using z1
        exact ⟨.ref h'.objs.size, upd H1 h'.objs.size (.dK (mergeK [] (ks.zip ys))), I1.laid (t' := tk) keep hle (show ObjOk X.prog X.w _ _ _ (.dK (mergeK [] (ks.zip ys))) from ⟨hlen, hm, merged [] prs, KV.merge kv .nil, hd'⟩), rfl, q _ (I1.hok.fresh hle)⟩
/-! ### d.get(None, x) -/
section
variable {X : Cx} {pins : List (Addr × Obj)} {σ : L2.St} {H : Hp} {s : Shared} {a : Addr} {d : V} {r : Value} {A : Around} {E : Value → Shared → Prop}
def leafOf : Key → Leaf
  | .inl i => .num i
  | .inr x => .text x
theorem map_leaf {P : Program} {w : World} {h : Heap} {kvs : List (Key × Value)} (hd : h.DictOf (mixKind P w) a kvs) : ∃ f, h.MapOf (leafKind P w) a f ∧ f .none = none := by
  obtain ⟨o, es, ep, ho, hc, hdat, hk, hp, _⟩ := hd
  have hk' : PySem.KeysOf (leafKind P w) es := fun e he => by
    obtain ⟨k, h1, h2⟩ := hk e he
    refine ⟨leafOf k, ?_, ?_⟩
    · rcases keyIs_shape (show keyIs k e.key = true from h1) with ⟨i, t, rfl, e1⟩ | ⟨x, t, rfl, e1⟩
      · show Leaf.isOf (.num i) e.key = true
        rw [e1]
        exact decide_eq_true rfl
      · exact h1
    · rw [h2]
      cases k <;> rfl
  refine ⟨fun k => findBy (leafKind P w).is es k, ⟨o, es, ep, ho, hc, hdat, hk', fun k => rfl⟩, ?_⟩
  show (es.find? fun e => Leaf.isOf .none e.key).map (·.val) = none
  rw [Array.find?_eq_none.mpr]
  · rfl
  · intro e he
    obtain ⟨k, h1, _⟩ := hk e he
    rcases keyIs_shape (show keyIs k e.key = true from h1) with ⟨i, t, rfl, e1⟩ | ⟨x, t, rfl, e1⟩
    · rw [e1]; simp [Leaf.isOf]
    · rw [e1]; simp [Leaf.isOf]
theorem d_getN {Q : Value → Shared → Prop} (I : Inv X pins σ H s) {kvs : List (Key × V)} (e : Rd H a (.dK kvs)) (h : ∀ s', Inv X pins σ H s' → Q r s') :
    wpAny (model X.prog X.w) A (call (.builtin "dict.get") [.ref a, .none, r]) Q E s := by
  obtain ⟨z, hd, vs, rel, dd⟩ := dk_rd I.hok e
  obtain ⟨f, hf, h0⟩ := map_leaf dd
  refine call_meetsIn PySem.F.slot_dict_get dd.typeIs PySem.F.entry_dict_get (PySem.F.args_dict_get_3 _ _ _) (meets_dict_get_default (leafKind X.prog X.w) (k := Leaf.none) a (show (leafKind X.prog X.w).is Leaf.none Value.none = true from rfl) hd r) ⟨f, hf, ?_⟩
  rw [h0]
  exact h _ (I.tok _)
end
def tDGet2N (td ty tx : TE) : TE := fun σ H Q => td σ H fun x H1 => ∃ a, x = .ref a ∧ IsD H1 a ∧ ty σ H1 fun y H2 => tx σ H2 fun z H3 => (∃ o, DGet H3 a y o ∧ Q (o.getD z) H3) ∨ (y = .non ∧ (∃ kvs, Rd H3 a (.dK kvs)) ∧ Q z H3)
theorem pe_dget2N {X : Cx} {o e f : Expr} {apos cpos : Pos} {td ty tx : TE} (hu : X.A.units + 1 < cLine) (ho : PE X o td) (he : PE X e ty) (hf : PE X f tx) (m : M2 X o "get" apos e f cpos) : PE X (.Call (.Attribute o "get" apos) [e, f] [] cpos) (tDGet2N td ty tx) := by
  refine ⟨fun pins s σ H Q I h => ?_⟩
  refine wpAny_Call_method m.base m.few m.line PySem.F.plainAttrs_dict PySem.F.slot_dict_get PySem.F.type_dict_get (thn (ho.run pins s σ H _ I h) fun u s1 ⟨x, H1, I1, rx, a, ex, d, q1⟩ => ?_)
  subst ex
  obtain rfl : u = Value.ref a := rx
  obtain ⟨t1, t2, _⟩ := isD_at I1 d
  refine ⟨t1, t2, ?_⟩
  rw [m.trees]
  refine Calls.callWith_builtin rfl (Calls.evalArgs_plain (Calls.spliced_cons (thn (he.run pins s1 σ H1 _ I1 q1) fun iv s2 ⟨y, H2, I2, ry, q2⟩ =>
    Calls.spliced_cons (thn (hf.run pins s2 σ H2 _ I2 q2) fun fv s3 ⟨z, H3, I3, rz, q3⟩ => Calls.spliced_nil ?_))))
  rcases q3 with ⟨ov, g, q3⟩ | ⟨ey, ⟨kvs, g⟩, q3⟩
  · exact d_get2 hu I3 g ry rz fun w' s4 I4 rw' => ⟨_, H3, I4, rw', q3⟩
  · subst ey
    obtain rfl : iv = Value.none := ry
    exact d_getN I3 g fun s4 I4 => ⟨_, H3, I4, rz, q3⟩
end Dw

namespace Dw
open PySem L2
variable [Tb]
theorem SqL.lenLe {X : Cx} {pins : List (Addr × Obj)} {σ : L2.St} {H : Hp} {s : Shared} {a : Addr} {xs : List V} (I : Inv X pins σ H s) (h : SqL X.K H a xs) : xs.length ≤ sizeLine := by
  obtain ⟨_, _, _, h⟩ := I.list h
  exact h
section
variable {X : Cx} {K : PySem.W.Frag} {cl xc : Nat → Addr} {E : XK}
theorem atI_rp {W : Wd} {xs : List V} {ds : List D} (h : RpA K W xs ds) {i : Int} {d : D} (e : L2.atI ds i = some d) : ∃ v, L2.atI xs i = some v ∧ Rp K W v d := by
  unfold L2.atI at e ⊢
  rw [h.len]
  cases hj : ixN ds.length i with
  | none => rw [hj] at e; cases e
  | some j =>
    rw [hj] at e
    obtain ⟨v, h1, h2⟩ := h.get (i := j) (by simpa using e)
    exact ⟨v, by simpa using h1, h2⟩
/-- d[x] -/
def rIxK : R2 := fun x y H Q => ∃ a v, x = .ref a ∧ DGet H a y (some v) ∧ Q v H
theorem ix_dct (hu : X.A.units + 1 < cLine) : IxR X rIxK := by
  intro value slice pins s σ H x y v u Q I rx ry h hs
  obtain ⟨a, r, rfl, g, q⟩ := h
  obtain rfl : v = Value.ref a := rx
  exact PyProof.Rows.tail_any (dict_typeIs I g) PySem.F.slot_dict_getitem.lookup (d_getItem hu I g ry fun w' s1 I1 r1 => ⟨r, H, I1, r1, q⟩) hs
def rIxA (K : PySem.W.Frag) : R2 := fun x y H Q => rIx K x y H Q ∨ rIxK x y H Q
theorem ix_all (hu : X.A.units + 1 < cLine) : IxR X (rIxA X.K) := ix_seq.or (ix_dct hu)
theorem ok_ix : Ok2 K cl xc E ixV (rIxA K) := by
  intro W x y vx vy Q w rx ry h
  have gen : ∀ (a : Addr) (xs : List V) (ds : List D), vx = .ref a → (SqL K W.H a xs ∨ SqT K W.H a xs) → RpA K W xs ds → Post K cl xc E W ((asI y >>= fun i => match L2.atI ds i with
      | some v => (pure (.d v) : M Vl)
      | none => M.no) W.st) (QE K Q) → rIxA K vx vy W.H Q := fun a xs ds e hs hr h => .inl <| by
    obtain ⟨i, rfl, rfl, h2⟩ := Post.asI ry h
    cases hd : L2.atI ds i with
    | none => rw [hd] at h2; exact h2.elim
    | some d =>
      rw [hd] at h2
      obtain ⟨v, g1, g2⟩ := atI_rp hr hd
      rcases hs with hs | hs
      · exact .inl ⟨a, xs, i, v, e, rfl, hs, g1, Post.val w h2 g2⟩
      · exact .inr (.inl ⟨a, xs, i, v, e, rfl, hs, g1, Post.val w h2 g2⟩)
  cases x with
  | o j =>
    obtain ⟨a, rfl, hm⟩ := rx
    obtain ⟨ob, a', h1, h2, h3, h4⟩ := Post.getO w h
    rw [hm] at h2; cases h2
    cases ob with
    | lst ds =>
      obtain ⟨xs, g1, g2⟩ := h3
      exact gen _ xs ds rfl (.inl (.inl (.inl g1))) g2 h4
    | scr ds =>
      obtain ⟨xs, g1, g2⟩ := h3
      exact gen _ xs ds rfl (.inl g1.sq) g2 h4
    | dct kvs =>
      obtain ⟨gs, g1, g2⟩ := h3
      obtain ⟨d, rfl, hd, h4⟩ := Post.asD ry h4
      obtain ⟨k, rfl, h4⟩ := keyOf_ok hd h4
      have gk := KsR.get g2 k
      cases e : dGet kvs k with
      | none => rw [e] at h4; exact h4.elim
      | some z =>
        rw [e] at h4 gk
        obtain ⟨v, v1, v2⟩ := gk
        refine .inr ⟨a, v, rfl, by rw [← v1]; exact DGet.k g1, ?_⟩
        exact Post.pure w h4 v v2
    | _ => exact h4.elim
  | d x =>
    cases x with
    | str z =>
      cases rx
      obtain ⟨i, rfl, rfl, h2⟩ := Post.asI ry h
      obtain ⟨hz, h3⟩ := Post.okB h2
      cases hd : L2.atI z.cps.toList i with
      | none => rw [hd] at h3; exact h3.elim
      | some c =>
        rw [hd] at h3
        exact .inl <| .inr (.inr ⟨z, i, c, rfl, rfl, by rw [← szE]; exact of_decide_eq_true hz, hd, Post.val w h3 (.str _)⟩)
    | _ =>
      obtain ⟨a, xs, ds, e, hs, hr, h⟩ := Post.sItems w rx h
      exact gen a xs ds e hs hr h
/-! ### slices -/
def rSl (K : PySem.W.Frag) : V → Option Int → Option Int → Hp → VK → Prop := fun x lo hi H Q => rSlS x lo hi H Q ∨ rSlA K x lo hi H Q ∨ rSlL K x lo hi H Q
theorem sl_any : SlR X (rSl X.K) := sl_str.or (sl_tupA.or sl_list)
theorem cutD_len {α : Type} (xs : List α) (lo hi : Option Int) (h : HT.sIx xs.length 0 lo = 0 ∧ HT.sIx xs.length xs.length hi = xs.length) : cutD xs lo hi = xs := by
  unfold cutD
  rw [h.1, h.2]
  simp
theorem RpA.cut {W : Wd} {xs : List V} {ds : List D} (h : RpA K W xs ds) (lo hi : Option Int) : RpA K W (cutV xs lo hi) (cutD ds lo hi) := by
  unfold cutV cutD
  rw [h.len]
  exact (h.drop _).take _
theorem ok_sl {W : Wd} {x : Vl} {vx : V} {lo hi : Option Int} {Q : VK} (w : Wf K cl W) (rx : RpV K W vx x) (h : Post K cl xc E W (slV x lo hi W.st) (QE K Q)) : rSl K vx lo hi W.H Q := by
  have gen : Post K cl xc E W ((lItems x >>= fun xs => (pure (liV (cutD xs lo hi)) : M Vl)) W.st) (QE K Q) → rSl K vx lo hi W.H Q := fun h => by
    obtain ⟨a, xs, ds, rfl, ha, ra, h, _⟩ := Post.lItems w rx h
    exact .inr (.inr ⟨a, xs, rfl, .inl (.inl ha), fun p hp => Post.newLst w h (ra.cut lo hi) hp⟩)
  cases x with
  | o i => exact gen h
  | d x =>
    cases x with
    | str z =>
      cases rx
      obtain ⟨hz, h⟩ := Post.okP h
      refine .inl ⟨z, rfl, by rw [← szE]; exact of_decide_eq_true hz, ?_⟩
      have e : cutS z lo hi = ⟨(cutD z.cps.toList lo hi).toArray⟩ := by
        unfold cutS cutD
        rfl
      rw [e]
      exact Post.val w h (.str _)
    | tuple ds =>
      cases rx with
      | tup h1 h2 =>
        refine .inr (.inl ⟨_, _, rfl, h1.sq, fun e => ?_, fun _ p hp => Post.newTup w h (h2.cut lo hi) hp⟩)
        rw [h2.len] at e
        have h3 : Post K cl xc E W ((Pure.pure (tuV (cutD ds lo hi)) : M Vl) W.st) (QE K Q) := h
        rw [show cutD ds lo hi = ds from cutD_len ds lo hi e] at h3
        exact Post.val w h3 (.tup h1 h2)
    | _ => exact gen h
/-! ### built-ins -/
def OkA (K : PySem.W.Frag) (cl xc : Nat → Addr) (E : XK) (f : List Vl → M Vl) (r : List V → Hp → VK → Prop) : Prop :=
  ∀ (W : Wd) (xs : List Vl) (vs : List V) (Q : VK), Wf K cl W → RpVs K W vs xs → Post K cl xc E W (f xs W.st) (QE K Q) → r vs W.H Q
/-- one argument -/
theorem one_of {W : Wd} {vs : List V} {x : Vl} (h : RpVs K W vs [x]) : ∃ v, vs = [v] ∧ RpV K W v x := by
  cases h with
  | cons r t => cases t; exact ⟨_, rfl, r⟩
theorem two_of {W : Wd} {vs : List V} {x y : Vl} (h : RpVs K W vs [x, y]) : ∃ v u, vs = [v, u] ∧ RpV K W v x ∧ RpV K W u y := by
  cases h with
  | cons r t =>
    cases t with
    | cons r2 t => cases t; exact ⟨_, _, rfl, r, r2⟩
/-- sum(t) of a tuple of ints -/
def rSumT (K : PySem.W.Frag) : List V → Hp → VK → Prop := fun vs H Q => ∃ (a : Addr) (ns : List Int), vs = [V.ref a] ∧ SqT K H a (ns.map V.int) ∧ Q (.int ns.sum) H
theorem cr_sumT (hc : X.calm = true) : CallR X (.builtin "sum") (rSumT X.K) := by
  intro pins s σ H vs us Q I r h
  obtain ⟨a, ns, rfl, hs, q⟩ := h
  obtain ⟨its, rv, pl, _⟩ := I.tuple hs
  rw [Vals.ref1 r]
  have hi := rv.ints
  obtain ⟨xs, ex⟩ := hi.allInts.items
  have en : numsOf its.toArray.toList = ns := by rw [show its.toArray.toList = its from rfl]; exact hi.numsOf
  rw [ex] at pl en
  rw [nums_intItems] at en
  refine PySem.W.ktm_sumG (I.ok.hd hc) pl fun h' tk t' kp => ⟨.int ns.sum, H, I.kept kp, ⟨t', ?_⟩, q⟩
  rw [preSum_eq, List.take_of_length_le (by simp), en]
def BiR (K : PySem.W.Frag) (b : Bi) : List V → Hp → VK → Prop := match b with
  | .len => fun xs H Q => ∃ x n, xs = [x] ∧ LenV K x H n ∧ Q (.int n) H
  | .all => rAll K
  | .any => rAny K
  | .tuple => fun xs H Q => ∃ p ys, xs = [.ref p] ∧ ((SqL K H p ys ∧ ∀ l, H l = none → Q (.ref l) (upd H l (.tup ys))) ∨ (SqT K H p ys ∧ Q (.ref p) H))
  | .list => fun xs H Q => ∃ p ys, xs = [.ref p] ∧ (SqL K H p ys ∨ SqT K H p ys) ∧ ∀ l, H l = none → Q (.ref l) (upd H l (.lst ys))
  | .int => fun xs H Q => ((∃ i, xs = [.int i] ∧ Q (.int i) H) ∨ ∃ k, xs = [.bl k] ∧ Q (.int (if k then 1 else 0)) H) ∨ ∃ a n, xs = [.str a] ∧ PySem.intText? a = some n ∧ a.length ≤ 640 ∧ Q (.int n) H
  | .str => fun xs H Q => (∃ i, xs = [.int i] ∧ i.natAbs.log2 < 1920 ∧ Q (.str (toString i)) H) ∨ ∃ a, xs = [.str a] ∧ Q (.str a) H
  | .min => fun xs H Q => (∃ i j, xs = [.int i, .int j] ∧ Q (.int (if j < i then j else i)) H) ∨ rMin K xs H Q
  | .max => fun xs H Q => (∃ i j, xs = [.int i, .int j] ∧ Q (.int (if j > i then j else i)) H) ∨ rMax K xs H Q
  | .sum => fun xs H Q => rSum K xs H Q ∨ rSumT K xs H Q
  | .sorted => rSortedD K
  | .minD => rMinD K
  | .sortedK => fun xs H Q => ∃ (a : Addr) (kvs : List (Key × V)) (ks : List Int), xs = [.ref a] ∧ Rd H a (.dK kvs) ∧ kvs.map (·.1) = ks.map Sum.inl ∧ ks.length < 64 ∧
    ∀ (ys : List Int) (p : Addr), ys.Perm ks → ys.Pairwise (· ≤ ·) → H p = none → Q (.ref p) (upd H p (.lst (ys.map V.int)))
  | .dict => fun xs H Q => ∃ (a : Addr) (ps : List Addr) (kvs : List (Key × V)), xs = [.ref a] ∧ SqL K H a (ps.map V.ref) ∧ Paired (fun p kv => SqT K H p [kV kv.1, kv.2]) ps kvs ∧
    ∀ p, H p = none → Q (.ref p) (upd H p (.dK (mergeK [] kvs)))
  | .repr => fun xs H Q => ∃ (a : Addr) (ds : List D), xs = [.ref a] ∧ Dp K H (.ref a) (.tuple ds) ∧ shp (.tuple ds) = true ∧ (PyData.tuple ds).showable = true ∧ (PyData.tuple ds).shown.length ≤ sizeLine ∧ Q (.str (PyData.tuple ds).shown) H
def BiV (b : Bi) : Value := match b with
  | .len => .builtin "len" | .all => .builtin "all" | .any => .builtin "any" | .tuple => .type "tuple" | .list => .type "list" | .int => .type "int" | .str => .type "str"
  | .min => .builtin "min" | .max => .builtin "max" | .sum => .builtin "sum" | .sorted => .builtin "sorted" | .sortedK => .builtin "sorted" | .minD => .builtin "min" | .dict => .type "dict" | .repr => .builtin "repr"
def BiN (b : Bi) : Str := match b with
  | .len => "len" | .all => "all" | .any => "any" | .tuple => "tuple" | .list => "list" | .int => "int" | .str => "str"
  | .min => "min" | .max => "max" | .sum => "sum" | .sorted => "sorted" | .sortedK => "sorted" | .minD => "min" | .dict => "dict" | .repr => "repr"
theorem callFalse {f : Value} : CallR X f (fun _ _ _ => False) := fun _ _ _ _ _ _ _ _ _ h => h.elim
/-- repr(t), where nothing guards -/
theorem cr_repr (hu : X.A.units + 66 < cLine) (hg : X.A.guards = some []) : CallR X (.builtin "repr") (BiR X.K .repr) := by
  intro pins s σ H xs us Q I r q
  obtain ⟨a, ds, ex, hd, h1, h2, h3, q⟩ := q
  subst ex
  obtain ⟨u, eu, rx⟩ := vals1 r
  subst eu
  obtain ⟨as, rd⟩ := Dp.reads I _ _ u hd rx
  cases rx
  have ok : PyData.canLay0 (.tuple ds) = true ∧ (PyData.tuple ds).depth ≤ 64 := by
    unfold shp SeqAt.shaped at h1
    simpa using h1
  refine repr_of_reads' rd h2 (PyData.noDict_hsm (PyData.hasDict_of_canLay _ ok.1)) hg (by omega) (fun _ _ e => e) (fun h' u tk hk => ?_) h3
  exact ⟨.str _, H, I.kept hk, ⟨_, rfl⟩, q⟩
theorem bi_call (hc : X.calm = true) (hu : X.A.units + 66 < cLine) (b : Bi) (hb : b ≠ .repr) : CallR X (BiV b) (BiR X.K b) := by
  cases b with
  | len => exact call_len
  | all => exact cr_all hc
  | any => exact cr_any hc
  | tuple => exact call_tuple_of
  | list => exact call_list_of
  | int => exact call_int1.or call_int_str
  | str => exact call_str_int.or SkE.call_str_str
  | min => exact (call_min2 hc).or (cr_min hc)
  | max => exact (call_max2 hc).or (cr_max hc)
  | sum => exact (cr_sum hc).or (cr_sumT hc)
  | sorted => exact cr_sortedD hu
  | minD => exact cr_minD hc hu
  | sortedK => exact call_sortedDI hc
  | dict => exact call_dictP hc
  | repr => exact absurd rfl hb
theorem boolsM_ok {α : Type} {W : Wd} {xs : List V} : ∀ {ds : List D} {vs : List V} {f : List Bool → M α} {q : α → Wd → Prop}, RpA K W vs ds → Post K cl xc E W ((boolsM ds >>= f) W.st) q → ∃ bs : List Bool, vs = bs.map V.bl ∧ Post K cl xc E W (f bs W.st) q
  | [], _, f, q, r, h => by cases r; exact ⟨[], rfl, h⟩
  | d :: ds, _, f, q, r, h => by
    cases r with
    | cons r1 t =>
      cases d with
      | bool b =>
        cases r1
        unfold boolsM at h
        rw [M.bind_assoc] at h
        obtain ⟨bs, e, h⟩ := boolsM_ok (xs := xs) t h
        exact ⟨b :: bs, by rw [e]; rfl, h⟩
      | _ => exact h.elim
theorem intsM_ok {α : Type} {W : Wd} : ∀ {ds : List D} {vs : List V} {f : List Int → M α} {q : α → Wd → Prop}, RpA K W vs ds → Post K cl xc E W ((intsM ds >>= f) W.st) q → ∃ ns : List Int, vs = ns.map V.int ∧ Post K cl xc E W (f ns W.st) q
  | [], _, f, q, r, h => by cases r; exact ⟨[], rfl, h⟩
  | d :: ds, _, f, q, r, h => by
    cases r with
    | cons r1 r2 =>
      cases d with
      | int i =>
        cases r1
        unfold intsM at h
        rw [M.bind_assoc] at h
        obtain ⟨ns, rfl, h⟩ := intsM_ok r2 h
        exact ⟨i :: ns, rfl, h⟩
      | _ => exact h.elim
theorem minI_spec : ∀ (r : List Int) (x : Int), minI x r ∈ x :: r ∧ ∀ y ∈ x :: r, minI x r ≤ y
  | [], x => by simp [minI]
  | z :: r, x => by
    obtain ⟨h1, h2⟩ := minI_spec r (if z < x then z else x)
    unfold minI
    by_cases c : z < x
    · rw [if_pos c] at h1 h2 ⊢
      refine ⟨List.mem_cons_of_mem _ h1, fun y hy => ?_⟩
      rcases List.mem_cons.mp hy with e | e
      · have := h2 z List.mem_cons_self
        omega
      · exact h2 y e
    · rw [if_neg c] at h1 h2 ⊢
      refine ⟨?_, fun y hy => ?_⟩
      · rcases List.mem_cons.mp h1 with e | e
        · rw [e]; exact List.mem_cons_self
        · exact List.mem_cons_of_mem _ (List.mem_cons_of_mem _ e)
      · rcases List.mem_cons.mp hy with e | e
        · rw [e]; exact h2 x List.mem_cons_self
        · rcases List.mem_cons.mp e with e | e
          · have := h2 x List.mem_cons_self
            omega
          · exact h2 y (List.mem_cons_of_mem _ e)
theorem maxI_spec : ∀ (r : List Int) (x : Int), maxI x r ∈ x :: r ∧ ∀ y ∈ x :: r, y ≤ maxI x r
  | [], x => by simp [maxI]
  | z :: r, x => by
    obtain ⟨h1, h2⟩ := maxI_spec r (if x < z then z else x)
    unfold maxI
    by_cases c : x < z
    · rw [if_pos c] at h1 h2 ⊢
      refine ⟨List.mem_cons_of_mem _ h1, fun y hy => ?_⟩
      rcases List.mem_cons.mp hy with e | e
      · have := h2 z List.mem_cons_self
        omega
      · exact h2 y e
    · rw [if_neg c] at h1 h2 ⊢
      refine ⟨?_, fun y hy => ?_⟩
      · rcases List.mem_cons.mp h1 with e | e
        · rw [e]; exact List.mem_cons_self
        · exact List.mem_cons_of_mem _ (List.mem_cons_of_mem _ e)
      · rcases List.mem_cons.mp hy with e | e
        · rw [e]; exact h2 x List.mem_cons_self
        · rcases List.mem_cons.mp e with e | e
          · have := h2 x List.mem_cons_self
            omega
          · exact h2 y (List.mem_cons_of_mem _ e)
theorem rpa_paired {W : Wd} : ∀ {ds : List D} {vs : List V}, RpA K W vs ds → Paired (Rp K W) vs ds
  | [], _, h => by cases h; exact .nil
  | d :: ds, _, h => by
    cases h with
    | cons r t => exact .cons r (rpa_paired t)
theorem paired_rpa {W : Wd} : ∀ {ds : List D} {vs : List V}, Paired (Rp K W) vs ds → RpA K W vs ds
  | [], _, h => by cases h; exact .nil
  | d :: ds, _, h => by
    cases h with
    | cons r t => exact .cons r (paired_rpa t)
theorem intKeys_ok {α : Type} {W : Wd} : ∀ {kvs : List (Key × Vl)} {f : List Int → M α} {q : α → Wd → Prop}, Post K cl xc E W ((intKeys kvs >>= f) W.st) q → ∃ ks : List Int, kvs.map (·.1) = ks.map Sum.inl ∧ Post K cl xc E W (f ks W.st) q
  | [], f, q, h => ⟨[], rfl, h⟩
  | (.inr _, _) :: _, f, q, h => h.elim
  | (.inl i, _) :: r, f, q, h => by
    unfold intKeys at h
    rw [M.bind_assoc] at h
    obtain ⟨ks, e, h⟩ := intKeys_ok h
    exact ⟨i :: ks, by simp [e], h⟩
theorem KsR.keys {W : Wd} : ∀ {kvs : List (Key × Vl)} {gs : List (Key × V)}, KsR K W kvs gs → gs.map (·.1) = kvs.map (·.1)
  | _, _, .nil => rfl
  | _, _, .cons r t => by rw [List.map_cons, List.map_cons, KsR.keys t, r.1]
theorem dle_int (i j : Int) : PySem.W.dataLe false (id : D → D) (.int i) (.int j) = decide (i ≤ j) := by
  show (!PySem.W.dataLt (.int j) (.int i)) = _
  rw [PySem.W.dataLt_int]
  by_cases h : i ≤ j
  · rw [decide_eq_true h, decide_eq_false (by omega)]; rfl
  · rw [decide_eq_false h, decide_eq_true (by omega)]; rfl
theorem dle_str (x y : Str) : PySem.W.dataLe false (id : D → D) (.str x) (.str y) = !decide (y.cps.toList < x.cps.toList) := by
  show (!PySem.W.dataLt (.str y) (.str x)) = _
  rw [PySem.W.dataLt_str]
theorem sortD_eq {ds es : List D} (p : es.Perm ds) (h : es.Pairwise fun a b => PySem.W.dataLe false (id : D → D) a b = true) (anti : ∀ a ∈ es, ∀ b ∈ es, PySem.W.dataLe false (id : D → D) a b = true → PySem.W.dataLe false (id : D → D) b a = true → a = b) : es = sortD ds := by
  have T := PySem.W.sortLe_total (α := D) (PyProof.Rows.listOrd PyProof.Rows.itemOrd) false (fun b => PySem.W.keyToks (id b))
  have pm : (sortD ds).Perm ds := List.mergeSort_perm _ _
  refine List.Perm.eq_of_pairwise (le := fun a b => PySem.W.dataLe false (id : D → D) a b = true) (fun a b ha hb => anti a ha b ((p.trans pm.symm).mem_iff.mpr hb)) h ?_ (p.trans pm.symm)
  exact PySem.W.sort_pairwise T ds
theorem ints_sorted {ks ys : List Int} (p : ys.Perm ks) (s : ys.Pairwise (· ≤ ·)) : ys.map (PyData.int) = sortD (ks.map .int) := by
  refine sortD_eq (p.map _) ?_ ?_
  · rw [List.pairwise_map]
    exact s.imp fun {a b} h => by rw [dle_int]; exact decide_eq_true h
  · intro a ha b hb h1 h2
    obtain ⟨i, _, rfl⟩ := List.mem_map.mp ha
    obtain ⟨j, _, rfl⟩ := List.mem_map.mp hb
    rw [dle_int] at h1 h2
    have := of_decide_eq_true h1
    have := of_decide_eq_true h2
    rw [show i = j by omega]
theorem rpa_ints {W : Wd} : ∀ ns : List Int, RpA K W (ns.map V.int) (ns.map .int)
  | [] => .nil
  | n :: ns => .cons (.int n) (rpa_ints ns)
theorem rpa_strs {W : Wd} : ∀ ns : List Str, RpA K W (ns.map V.str) (ns.map .str)
  | [] => .nil
  | n :: ns => .cons (.str n) (rpa_strs ns)
theorem Post.newDct {W : Wd} {kvs : List (Key × Vl)} {gs : List (Key × V)} {Q : VK} (w : Wf K cl W) (h : Post K cl xc E W ((Dw.newO (.dct kvs) >>= fun i => (Pure.pure (.o i) : M Vl)) W.st) (QE K Q)) (r : KsR K W kvs gs) {p : Addr} (hp : W.H p = none) : Q (.ref p) (upd W.H p (.dK gs)) := by
  have hk : ∀ b u, W.H b = some u → upd W.H p (.dK gs) b = some u := fun b u e => by rw [upd_ne (ne_of_none e hp)]; exact e
  have ex : Ex W ⟨upd W.H p (.dK gs), W.F, W.m ++ [p], W.st ++ [.dct kvs]⟩ := Ex.newO w hp hk
  have w' : Wf K cl ⟨upd W.H p (.dK gs), W.F, W.m ++ [p], W.st ++ [.dct kvs]⟩ := w.newO hp hk ⟨gs, upd_same, KsR.mono ex r⟩
  exact h (upd W.H p (.dK gs)) (W.m ++ [p]) ex w' (.ref p) ⟨p, rfl, by rw [← w.len]; simp⟩
theorem pairD_ok {α : Type} {W : Wd} : ∀ {ds : List D} {vs : List V} {f : List (Key × Vl) → M α} {q : α → Wd → Prop}, RpA K W vs ds → Post K cl xc E W ((pairD ds >>= f) W.st) q →
    ∃ (ps : List Addr) (kvs : List (Key × Vl)) (gs : List (Key × V)), vs = ps.map V.ref ∧ Paired (fun p kv => SqT K W.H p [kV kv.1, kv.2]) ps gs ∧ KsR K W kvs gs ∧ Post K cl xc E W (f kvs W.st) q
  | [], _, f, q, r, h => by cases r; exact ⟨[], [], [], rfl, .nil, .nil, h⟩
  | d :: ds, _, f, q, r, h => by
    cases r with
    | cons r1 r2 =>
      cases d with
      | tuple es =>
        match es, r1, h with
        | [k, v], r1, h =>
          cases r1 with
          | tup h1 h2 =>
            cases h2 with
            | cons t1 h2 =>
              cases h2 with
              | cons t2 h2 =>
                cases h2
                unfold pairD at h
                rw [M.bind_assoc] at h
                obtain ⟨k, rfl, h⟩ := keyOf_ok t1 h
                rw [M.bind_assoc] at h
                obtain ⟨ps, kvs, gs, rfl, e2, e3, h⟩ := pairD_ok r2 h
                exact ⟨_ :: ps, (k, .d v) :: kvs, (k, _) :: gs, rfl, .cons h1.sq e2, .cons ⟨rfl, t2⟩ e3, h⟩
        | [], _, h => exact h.elim
        | [_], _, h => exact h.elim
        | _ :: _ :: _ :: _, _, h => exact h.elim
      | _ => exact h.elim
theorem bi_ok (b : Bi) : OkA K cl xc E (bi b) (BiR K b) := by
  intro W xs vs Q w rs h
  cases b with
  | len =>
    match xs, rs, h with
    | [x], rs, h =>
      obtain ⟨v, rfl, r⟩ := one_of rs
      have gen : Post K cl xc E W ((sItems x >>= fun xs => (pure (Dw.inV xs.length) : M Vl)) W.st) (QE K Q) → BiR K .len [v] W.H Q := fun h => by
        obtain ⟨a, xs, ds, rfl, hs, hr, h⟩ := Post.sItems w r h
        refine ⟨.ref a, xs.length, rfl, ?_, ?_⟩
        · rcases hs with hs | hs
          · exact .inl ⟨xs, hs, rfl⟩
          · exact .inr ⟨xs, hs, rfl⟩
        · rw [hr.len]
          exact Post.val w h (.int _)
      cases x with
      | o i => exact gen h
      | d x =>
        cases x with
        | str z =>
          cases r
          obtain ⟨hz, h⟩ := Post.okP h
          exact ⟨.str z, z.length, rfl, ⟨by rw [← szE]; exact of_decide_eq_true hz, rfl⟩, Post.val w h (.int _)⟩
        | _ => exact gen h
    | [], _, h => exact h.elim
    | _ :: _ :: _, _, h => exact h.elim
  | all =>
    match xs, rs, h with
    | [x], rs, h =>
      obtain ⟨v, rfl, r⟩ := one_of rs
      obtain ⟨a, xs, ds, rfl, ha, ra, h, _⟩ := Post.lItems w r h
      obtain ⟨bs, rfl, h⟩ := boolsM_ok (xs := xs) ra h
      exact ⟨a, bs, rfl, .inl (.inl ha), Post.val w h (.bl _)⟩
    | [], _, h => exact h.elim
    | _ :: _ :: _, _, h => exact h.elim
  | any =>
    match xs, rs, h with
    | [x], rs, h =>
      obtain ⟨v, rfl, r⟩ := one_of rs
      obtain ⟨a, xs, ds, rfl, ha, ra, h, _⟩ := Post.lItems w r h
      obtain ⟨bs, rfl, h⟩ := boolsM_ok (xs := xs) ra h
      exact ⟨a, bs, rfl, .inl (.inl ha), Post.val w h (.bl _)⟩
    | [], _, h => exact h.elim
    | _ :: _ :: _, _, h => exact h.elim
  | tuple =>
    match xs, rs, h with
    | [x], rs, h =>
      obtain ⟨v, rfl, r⟩ := one_of rs
      have h : Post K cl xc E W ((sItems x >>= fun xs => (pure (tuV xs) : M Vl)) W.st) (QE K Q) := h
      cases x with
      | o i =>
        obtain ⟨a, rfl, hm⟩ := r
        unfold Dw.sItems at h
        rw [M.bind_assoc] at h
        obtain ⟨ob, a', h1, h2, h3, h4⟩ := Post.getO w h
        rw [hm] at h2; cases h2
        cases ob with
        | lst ds =>
          obtain ⟨xs, g1, g2⟩ := h3
          exact ⟨_, xs, rfl, .inl ⟨.inl (.inl g1), fun p hp => Post.newTup w h4 g2 hp⟩⟩
        | scr ds =>
          obtain ⟨xs, g1, g2⟩ := h3
          exact ⟨_, xs, rfl, .inl ⟨g1.sq, fun p hp => Post.newTup w h4 g2 hp⟩⟩
        | _ => exact h4.elim
      | d x =>
        cases x with
        | list ds =>
          cases r with
          | lst h1 h2 => exact ⟨_, _, rfl, .inl ⟨h1.sq, fun p hp => Post.newTup w h h2 hp⟩⟩
        | tuple ds =>
          cases r with
          | tup h1 h2 => exact ⟨_, _, rfl, .inr ⟨h1.sq, Post.val w h (.tup h1 h2)⟩⟩
        | _ => exact h.elim
    | [], _, h => exact h.elim
    | _ :: _ :: _, _, h => exact h.elim
  | list =>
    match xs, rs, h with
    | [x], rs, h =>
      obtain ⟨v, rfl, r⟩ := one_of rs
      have h : Post K cl xc E W ((sItems x >>= fun xs => (pure (liV xs) : M Vl)) W.st) (QE K Q) := h
      obtain ⟨a, xs, ds, rfl, hs, hr, h⟩ := Post.sItems w r h
      exact ⟨a, xs, rfl, hs, fun p hp => Post.newLst w h hr hp⟩
    | [], _, h => exact h.elim
    | _ :: _ :: _, _, h => exact h.elim
  | int =>
    match xs, rs, h with
    | [x], rs, h =>
      obtain ⟨v, rfl, r⟩ := one_of rs
      cases x with
      | o i => exact h.elim
      | d x =>
        cases x with
        | bool b => cases r; exact .inl (.inr ⟨b, rfl, Post.val w h (.int _)⟩)
        | int i => cases r; exact .inl (.inl ⟨i, rfl, Post.val w h (.int _)⟩)
        | str z =>
          cases r
          have h : Post K cl xc E W ((match PySem.intText? z with
            | some n => okS (decide (z.length ≤ 640)) (Dw.inV n)
            | none => M.no : M Vl) W.st) (QE K Q) := h
          cases e : PySem.intText? z with
          | none => rw [e] at h; exact h.elim
          | some n =>
            rw [e] at h
            obtain ⟨hz, h⟩ := Post.okP h
            exact .inr ⟨z, n, rfl, e, of_decide_eq_true hz, Post.val w h (.int _)⟩
        | _ => exact h.elim
    | [], _, h => exact h.elim
    | _ :: _ :: _, _, h => exact h.elim
  | str =>
    match xs, rs, h with
    | [x], rs, h =>
      obtain ⟨v, rfl, r⟩ := one_of rs
      cases x with
      | o i => exact h.elim
      | d x =>
        cases x with
        | int i =>
          cases r
          obtain ⟨hz, h⟩ := Post.okP h
          exact .inl ⟨i, rfl, of_decide_eq_true hz, Post.val w h (.str _)⟩
        | str z => cases r; exact .inr ⟨z, rfl, Post.val w h (.str _)⟩
        | _ => exact h.elim
    | [], _, h => exact h.elim
    | _ :: _ :: _, _, h => exact h.elim
  | min =>
    match xs, rs, h with
    | [x, y], rs, h =>
      obtain ⟨v, u, rfl, r1, r2⟩ := two_of rs
      cases x with
      | o i => exact h.elim
      | d x =>
        cases y with
        | o i => cases x <;> exact h.elim
        | d y =>
          cases x with
          | int i =>
            cases y with
            | int j => cases r1; cases r2; exact .inl ⟨i, j, rfl, Post.val w h (.int _)⟩
            | _ => exact h.elim
          | _ => cases y <;> exact h.elim
    | [], _, h => exact h.elim
    | [x], rs, h =>
      obtain ⟨v, rfl, r⟩ := one_of rs
      obtain ⟨a, xs, ds, rfl, ha, ra, h, _⟩ := Post.lItems w r h
      obtain ⟨ns, rfl, h⟩ := intsM_ok ra h
      cases ns with
      | nil => exact h.elim
      | cons n ns =>
        refine .inr ⟨a, n :: ns, rfl, .inl (.inl ha), Nat.succ_pos _, fun m hm hy => ?_⟩
        obtain ⟨h1, h2⟩ := minI_spec ns n
        have e : m = minI n ns := Int.le_antisymm (hy _ h1) (h2 m hm)
        rw [e]
        exact Post.val w h (.int _)
    | _ :: _ :: _ :: _, _, h => exact h.elim
  | max =>
    match xs, rs, h with
    | [x, y], rs, h =>
      obtain ⟨v, u, rfl, r1, r2⟩ := two_of rs
      cases x with
      | o i => exact h.elim
      | d x =>
        cases y with
        | o i => cases x <;> exact h.elim
        | d y =>
          cases x with
          | int i =>
            cases y with
            | int j => cases r1; cases r2; exact .inl ⟨i, j, rfl, Post.val w h (.int _)⟩
            | _ => exact h.elim
          | _ => cases y <;> exact h.elim
    | [], _, h => exact h.elim
    | [x], rs, h =>
      obtain ⟨v, rfl, r⟩ := one_of rs
      obtain ⟨a, xs, ds, rfl, ha, ra, h, _⟩ := Post.lItems w r h
      obtain ⟨ns, rfl, h⟩ := intsM_ok ra h
      cases ns with
      | nil => exact h.elim
      | cons n ns =>
        refine .inr ⟨a, n :: ns, rfl, .inl (.inl ha), Nat.succ_pos _, fun m hm hy => ?_⟩
        obtain ⟨h1, h2⟩ := maxI_spec ns n
        have e : m = maxI n ns := Int.le_antisymm (h2 m hm) (hy _ h1)
        rw [e]
        exact Post.val w h (.int _)
    | _ :: _ :: _ :: _, _, h => exact h.elim
  | sum =>
    match xs, rs, h with
    | [x], rs, h =>
      obtain ⟨v, rfl, r⟩ := one_of rs
      obtain ⟨a, xs, ds, rfl, hs, ra, h⟩ := Post.sItems w r h
      obtain ⟨ns, rfl, h⟩ := intsM_ok ra h
      rcases hs with hs | hs
      · exact .inl ⟨a, ns, rfl, hs, Post.val w h (.int _)⟩
      · exact .inr ⟨a, ns, rfl, hs, Post.val w h (.int _)⟩
    | [], _, h => exact h.elim
    | _ :: _ :: _, _, h => exact h.elim
  | sortedK =>
    match xs, rs, h with
    | [.o i], rs, h =>
      obtain ⟨v, rfl, r⟩ := one_of rs
      obtain ⟨a, rfl, hm⟩ := r
      obtain ⟨ob, a', h1, h2, h3, h4⟩ := Post.getO w h
      rw [hm] at h2; cases h2
      cases ob with
      | dct kvs =>
        obtain ⟨gs, g1, g2⟩ := h3
        obtain ⟨ks, e, h4⟩ := intKeys_ok h4
        obtain ⟨h64, h4⟩ := Post.okP h4
        have h64 := of_decide_eq_true h64
        have ek : gs.map (·.1) = ks.map Sum.inl := by rw [← e, KsR.keys g2]
        refine ⟨a, gs, ks, rfl, .inl g1, ek, h64, fun ys p py sy hp => ?_⟩
        have := ints_sorted py sy
        rw [← this] at h4
        exact Post.newLst w h4 (rpa_ints ys) hp
      | _ => exact h4.elim
    | [.d _], rs, h => exact h.elim
    | [], _, h => exact h.elim
    | _ :: _ :: _, _, h => exact h.elim
  | dict =>
    match xs, rs, h with
    | [x], rs, h =>
      obtain ⟨v, rfl, r⟩ := one_of rs
      obtain ⟨a, xs, ds, rfl, ha, ra, h, _⟩ := Post.lItems w r h
      obtain ⟨ps, kvs, gs, e, hpr, hk, h⟩ := pairD_ok ra h
      obtain ⟨hz, h⟩ := Post.okB h
      subst e
      exact ⟨a, ps, gs, rfl, .inl (.inl ha), hpr, fun p hp => Post.newDct w h (KsR.mrg .nil hk) hp⟩
    | [], _, h => exact h.elim
    | _ :: _ :: _, _, h => exact h.elim
  | sorted =>
    match xs, rs, h with
    | [x], rs, h =>
      obtain ⟨v, rfl, r⟩ := one_of rs
      obtain ⟨a, xs, ds, rfl, hs, hr, h⟩ := Post.sItems w r h
      obtain ⟨ho, h⟩ := Post.okP h
      refine ⟨a, xs, ds, rfl, hs, RpA.dp ds xs hr, ho, fun p vs' hp hR => Post.newLst w h (paired_rpa (hR _ (rpa_paired hr))) hp⟩
    | [], _, h => exact h.elim
    | _ :: _ :: _, _, h => exact h.elim
  | minD =>
    match xs, rs, h with
    | [x], rs, h =>
      obtain ⟨v, rfl, r⟩ := one_of rs
      obtain ⟨a, xs, ds, rfl, hs, hr, h⟩ := Post.sItems w r h
      cases ds with
      | nil => exact h.elim
      | cons d ds =>
        obtain ⟨ho, h⟩ := Post.okP h
        exact ⟨a, xs, d, ds, rfl, hs, RpA.dp _ xs hr, ho, fun v hR => Post.val w h (hR _ (rpa_paired hr))⟩
    | [], _, h => exact h.elim
    | _ :: _ :: _, _, h => exact h.elim
  | repr =>
    match xs, rs, h with
    | [x], rs, h =>
      obtain ⟨v, rfl, r⟩ := one_of rs
      cases x with
      | o i => exact h.elim
      | d x =>
        cases x with
        | tuple ds =>
          obtain ⟨ho, h⟩ := Post.okP h
          simp only [Bool.and_eq_true, decide_eq_true_eq] at ho
          have dp := Rp.dp _ _ r
          cases r with
          | tup h1 h2 => exact ⟨_, ds, rfl, dp, ho.1.1, ho.1.2, by rw [← szE]; exact ho.2, Post.val w h (.str _)⟩
        | _ => exact h.elim
    | [], _, h => exact h.elim
    | _ :: _ :: _, _, h => exact h.elim
end
end Dw

namespace Dw
open PySem L2
section
variable {X : Cx}
/-- xs.count(z), a list of plain things -/
def rCntV (K : PySem.W.Frag) : V → List V → Hp → VK → Prop := fun x xs H Q => ∃ (a : Addr) (ys : List V) (y : V), x = V.ref a ∧ xs = [y] ∧ SqL K H a ys ∧ flatV y = true ∧ ys.all flatV = true ∧ Q (.int (ys.countP fun z => eqV z y : Nat)) H
theorem cnt_vals {y : V} : ∀ {ys : List V} {us : List Value}, Vals ys us → ys.all flatV = true → us.countP (eqU y) = ys.countP fun z => eqV z y
  | _, _, .nil, _ => rfl
  | _, _, .cons (a := z) r t, h => by
    rw [List.all_cons, Bool.and_eq_true] at h
    rw [List.countP_cons, List.countP_cons, cnt_vals t h.2, eqU_of r h.1]
theorem mt_cntV : MtR X "list.count" (rCntV X.K) := by
  intro pins s σ H x xs v us Q I rx rxs h
  obtain ⟨a, ys, y, rfl, rfl, hs, fy, fys, q⟩ := h
  cases rx
  cases rxs with
  | cons ry rt =>
    rename_i uy ut
    cases rt
    obtain ⟨its, rv, ⟨⟨cls, dd, data, sl⟩, n, ho, hc, hdn, hd⟩, hlen⟩ := I.list hs
    simp only at hc hd
    subst hc hd
    refine call_meets PySem.F.slot_list_count ⟨_, ho, rfl⟩ PySem.F.entry_list_count (PySem.F.args_list_count_2 _ _)
      (SeqAt.list_countAt a its.toArray n dd sl uy (eqU y)) ⟨ho, fun u' hu' => mem_eqAt ry fy rv fys u' (by simpa using hu'), ?_⟩
    refine ⟨.int (ys.countP fun z => eqV z y : Nat), H, I.tok _, ⟨s.toks, ?_⟩, q⟩
    show Value.int ((its.toArray.toList.countP (eqU y) : Nat) : Int) s.toks = Value.int ((ys.countP fun z => eqV z y : Nat) : Int) s.toks
    rw [← cnt_vals rv fys]
end
/-! ### what is asked of the classes of refusals -/
structure ToldK (K : PySem.W.Frag) (xc : Nat → Addr) : Prop where
  ex : ∀ c, 2 ≤ c → c ≤ 5 → ExcC K (xc c)
  ki : ∀ c d, 2 ≤ c → c ≤ 5 → 2 ≤ d → d ≤ 5 → PySem.W.kitOne K (.ref (xc c)) (.ref (xc d)) = some (decide (c = d))
  kv : ∀ c, 2 ≤ c → c ≤ 5 → PySem.W.kitOne K (.ref (xc c)) (.type "ValueError") = some true
  em : ∀ c, 2 ≤ c → c ≤ 5 → PySem.W.exmOne K (.ref (xc c)) (.ref (xc 1)) = some true
/-- what such a def makes of what it got -/
def TTold (xc : Nat → Addr) (kd : Nat) : (XK → Hp → VK → Prop) → Hp → VK → Prop := fun tl H Q =>
  (∀ (E E' : XK) (H : Hp) (Q Q' : VK), (∀ cls d H', E cls d H' → E' cls d H') → (∀ v H', Q v H' → Q' v H') → tl E H Q → tl E' H Q') ∧
  tl (fun cls d H' => ∃ c, 2 ≤ c ∧ c ≤ 5 ∧ cls = .ref (xc c) ∧ d = none ∧ ∀ H2 p, (∀ b u, H' b = some u → H2 b = some u) → H' p = none → H2 p = some (.tup [.str "refused", if kd = 0 then .int ((c : Int) - 2) else .non]) → Q (.ref p) H2) H
    (fun v H' => ∀ p, H' p = none → Q (.ref p) (upd H' p (.tup [.str "told", v])))
abbrev Ng0 : List Str := ["_law_deed", "_law_found", "e", "_law_kinds"]
/-- .. of slots enough -/
theorem takes_len {X : Cx} {W : WX} {n : Nat} (hn : X.N.length = n) (tk : Takes X W) : Takes X (fun cls d σ H => σ.length = n → W cls d σ H) := fun u s' ⟨a, B, sI, pins, σ, H, cls, d, e, I, nb, up, sky, na, os, ag, w⟩ =>
  tk u s' ⟨a, B, sI, pins, σ, H, cls, d, e, I, nb, up, sky, na, os, ag, w (by rw [I.len, hn])⟩
section
variable {X : Cx} {x q : Str} {sg : Scope} {g : Addr} {cdg : Value} {xc : Nat → Addr}
theorem told0_gives (TK : ToldK X.K xc) (nd : Ng0.Nodup) (l0 : sg.names.lookup ("_law_deed" : Str) = some .local) (l1 : sg.names.lookup ("_law_found" : Str) = some .local) (l2 : sg.names.lookup ("e" : Str) = some .local) (l3 : sg.names.lookup ("_law_kinds" : Str) = some .local)
    (g1 : sg.names.lookup ("DoorError" : Str) = some .globalImplicit) (g2 : sg.names.lookup ("NoZone" : Str) = some .globalImplicit) (g3 : sg.names.lookup ("NoWay" : Str) = some .globalImplicit) (g4 : sg.names.lookup ("NoDeed" : Str) = some .globalImplicit) (g5 : sg.names.lookup ("NoText" : Str) = some .globalImplicit)
    (gi : sg.names.lookup ("isinstance" : Str) = some .globalImplicit) (gv : sg.names.lookup ("ValueError" : Str) = some .globalImplicit)
    (m1 : X.mg ("DoorError" : Str) = some (.ref (xc 1))) (m2 : X.mg ("NoZone" : Str) = some (.ref (xc 2))) (m3 : X.mg ("NoWay" : Str) = some (.ref (xc 3))) (m4 : X.mg ("NoDeed" : Str) = some (.ref (xc 4))) (m5 : X.mg ("NoText" : Str) = some (.ref (xc 5)))
    (mi : X.mg ("isinstance" : Str) = none) (mv : X.mg ("ValueError" : Str) = none) {p1 p2 p3 p4 p5 p6 p7 p8 p9 p10 p11 p12 p13 p14 p15 p16 p17 p18 p19 p20 p21 p22 p23 p24 p25 p26 p27 p28 p29 p30 p31 p32 p33 p34 p35 p36 p37 p38 p39 p40 p41 p42 p43 p44 p45 p46 p47 p48 p49 p50 p51 p52 p53 p54 p55 p56 : Pos} {j0 j3t j25 j26 j28t j33 j39 j44 j46 j47t : Nat} (hc : (p33.endLine == p35.line) = true) (hi : (p44.endLine == p46.line) = true) :
    LamX.GivesTo X Ng0 x sg g cdg [.Try [.Assign [(.Name "_law_found" p5)] (.Tuple [(.Constant (.str "told") j0 p1), (.Call (.Name "_law_deed" p2) [] [] p3)] j3t p4) p6] [.ExceptHandler (some (.Name "DoorError" p52)) (some "e") [.Assign [(.Name "_law_kinds" p24)] (.List [(.Call (.Name "isinstance" p7) [(.Name "e" p8), (.Name "NoZone" p9)] [] p10), (.Call (.Name "isinstance" p11) [(.Name "e" p12), (.Name "NoWay" p13)] [] p14), (.Call (.Name "isinstance" p15) [(.Name "e" p16), (.Name "NoDeed" p17)] [] p18), (.Call (.Name "isinstance" p19) [(.Name "e" p20), (.Name "NoText" p21)] [] p22)] p23) p25, .Assign [(.Name "_law_found" p30)] (.Tuple [(.Constant (.str "refused") j25 p26), (.UnaryOp .USub (.Constant (.int 1) j26 p27) p28)] j28t p29) p31, .If (.BoolOp .And [(.Call (.Name "isinstance" p36) [(.Name "e" p37), (.Name "ValueError" p38)] [] p39), (.Compare (.Call (.Attribute (.Name "_law_kinds" p32) "count" p33) [(.Constant (.bool true) j33 p34)] [] p35) [.Eq] [(.Constant (.int 1) j39 p40)] p41)] p42) [.Assign [(.Name "_law_found" p49)] (.Tuple [(.Constant (.str "refused") j46 p47), (.Call (.Attribute (.Name "_law_kinds" p43) "index" p44) [(.Constant (.bool true) j44 p45)] [] p46)] j47t p48) p50] [] p51] p53] [] [] p54, .Return (some (.Name "_law_found" p55)) p56] "_law_deed" q (TTold xc 0) := by
  intro f c' s H Q tl act hco h
  -- the def's context
  let Z : Cx := (cxOf C8.CX0 X.prog X.w X.K X.mg X.base Ng0 x sg g cdg X.A X.stack s H C8.E0).nox
  have hZ : Z = (cxOf C8.CX0 X.prog X.w X.K X.mg X.base Ng0 x sg g cdg X.A X.stack s H C8.E0).nox := rfl
  have tellP : ∀ (W : WX) (pn : List (Addr × Obj)) (xe : Value → Shared → Prop), Takes (Z.tr pn xe) W →
      PE (Z.tr pn xe) (.Call (.Name "_law_deed" p2) [] [] p3) (fun σ HZ Qz => σ[0]? = some (some (.ref f)) ∧ HZ c' = some (LamX.CodeO c' q) ∧ tl (fun cls d H' => ∀ σ', σ'.length = 4 → W cls d σ' H') HZ Qz) := fun W pn xe tk =>
    act _ pn xe (fun cls d H' => ∀ σ', σ'.length = 4 → W cls d σ' H') p2 p3 (takes_len (n := 4) rfl tk) fun cls d σ' H' h => h σ'
  refine ⟨_, pss_cons (ps_try_as (X := Z) (i := 2) (c := .ref (xc 1)) rfl rfl nd rfl l2 ⟨g1, by decide, .inl m1⟩ LamX.takes0 (fun W pn xe tk _ => pss_one (ps_set (i := 1) nd rfl (.inl l1) (pe_tup (pa_cons pe_str (pa_cons (tellP W pn xe tk) pa_nil))) rfl (.inr l1)))
    (ts := fun a cls d D σ H => ∃ c, 2 ≤ c ∧ c ≤ 5 ∧ cls = .ref (xc c) ∧ d = none ∧ ∃ x0 x1 x3, σ = [x0, x1, some (.ref a), x3] ∧ ∀ H2 p y, (∀ b u, H b = some u → H2 b = some u) → H p = none → H2 p = some (.tup [.str "refused", .int ((c : Int) - 2)]) → D.nx [x0, some (.ref p), some (.ref a), y] H2)
    (fun a oe cls d pn hz hf => ?_)) (pss_one (ps_ret (pe_var (i := 1) rfl (.inl l1)))), ?_⟩
  · refine ⟨fun pins s' σ H' D I h' => ?_⟩
    obtain ⟨n, n2, n5, rfl, rfl, x0, x1, x3, rfl, hQ⟩ := h'
    have ci := call_isE (X := Z) (a := a) (pn := pn) (TK.ex n n2 n5) hz hf
    have isi : ∀ (C : Str) (k : Nat) {pa pb pc pd : Pos}, sg.names.lookup C = some .globalImplicit → X.mg C = some (.ref (xc k)) → (C == ("__debug__" : Str)) = false →
        PE (Z.suite a ((a, oe) :: pn)) (.Call (.Name "isinstance" pa) [.Name "e" pb, .Name C pc] [] pd) (tCB (rIsE X.K (xc n) a) (tCons (tVar 2) (tCons (tC (.ref (xc k))) tNil))) := fun C k _ _ _ _ gC mC hd =>
      pe_callB ci gi mi PyProof.Rows.boot_isinstance (pa_cons (pe_var (i := 2) rfl (.inl l2)) (pa_cons (pe_glob gC mC rfl hd) pa_nil))
    have isv : ∀ {pa pb pc pd : Pos}, PE (Z.suite a ((a, oe) :: pn)) (.Call (.Name "isinstance" pa) [.Name "e" pb, .Name "ValueError" pc] [] pd) (tCB (rIsE X.K (xc n) a) (tCons (tVar 2) (tCons (tC (.ty "ValueError")) tNil))) :=
      pe_callB ci gi mi PyProof.Rows.boot_isinstance (pa_cons (pe_var (i := 2) rfl (.inl l2)) (pa_cons (pe_bltn (v := .ty "ValueError") (u := .type "ValueError") gv mv (by decide +kernel) rfl) pa_nil))
    refine (pss_cons (ps_set (i := 3) nd rfl (.inl l3) (pe_lst (pa_cons (isi "NoZone" 2 g2 m2 (by decide)) (pa_cons (isi "NoWay" 3 g3 m3 (by decide)) (pa_cons (isi "NoDeed" 4 g4 m4 (by decide)) (pa_cons (isi "NoText" 5 g5 m5 (by decide)) pa_nil))))) rfl (.inr l3))
      (pss_cons (ps_set (i := 1) nd rfl (.inl l1) (pe_tup (pa_cons pe_str (pa_cons (pe_un un_neg pe_int) pa_nil))) rfl (.inr l1))
      (pss_one (ps_if (PW.pt (pw_and (pt_val isv) (pw_and1 (pt_cmpR op_eq (pe_bm PySem.F.plainAttrs_list PySem.F.slot_list_count PySem.F.type_list_count mt_cntV (pe_var (i := 3) rfl (.inl l3)) (pa_cons pe_bl pa_nil) rfl rfl hc) pe_int rfl))))
        (pss_one (ps_set (i := 1) nd rfl (.inl l1) (pe_tup (pa_cons pe_str (pa_cons (pe_bm PySem.F.plainAttrs_list PySem.F.slot_list_index PySem.F.type_list_index mt_index (pe_var (i := 3) rfl (.inl l3)) (pa_cons pe_bl pa_nil) rfl rfl hi) pa_nil))) rfl (.inr l1))) pss_nil)))).run pins s' _ H' D I ?_
    have hki := fun d (d2 : 2 ≤ d) (d5 : d ≤ 5) => TK.ki n d n2 n5 d2 d5
    have hkv := TK.kv n n2 n5
    refine ⟨.ref a, rfl, .ref (xc 2), .ref (xc 2), _, rfl, (fun u r => r), hki 2 (by decide) (by decide), ?_⟩
    refine ⟨.ref a, rfl, .ref (xc 3), .ref (xc 3), _, rfl, (fun u r => r), hki 3 (by decide) (by decide), ?_⟩
    refine ⟨.ref a, rfl, .ref (xc 4), .ref (xc 4), _, rfl, (fun u r => r), hki 4 (by decide) (by decide), ?_⟩
    refine ⟨.ref a, rfl, .ref (xc 5), .ref (xc 5), _, rfl, (fun u r => r), hki 5 (by decide) (by decide), ?_⟩
    refine ⟨by show 4 ≤ sizeLine; decide, fun l hl => ?_⟩
    refine ⟨1, rfl, by show 2 ≤ sizeLine; decide, fun t ht => ?_⟩
    refine ⟨.ref a, rfl, .ty "ValueError", .type "ValueError", true, rfl, (fun u r => r), hkv, true, rfl, ?_⟩
    have hl1 : upd (upd H' l (.lst [.bl (decide (n = 2)), .bl (decide (n = 3)), .bl (decide (n = 4)), .bl (decide (n = 5))])) t (.tup [.str "refused", .int (-1)]) l = some (.lst [.bl (decide (n = 2)), .bl (decide (n = 3)), .bl (decide (n = 4)), .bl (decide (n = 5))]) := by
      rw [upd_ne (ne_of_none upd_same ht), upd_same]
    refine ⟨.ref l, rfl, .inl ⟨rfl, _, SqL.of hl1⟩, l, _, .bl true, rfl, rfl, SqL.of hl1, rfl, rfl, rfl, _, rfl, ?_⟩
    have kp : ∀ b u, H' b = some u → upd (upd H' l (.lst [.bl (decide (n = 2)), .bl (decide (n = 3)), .bl (decide (n = 4)), .bl (decide (n = 5))])) t (.tup [.str "refused", .int (-1)]) b = some u := fun b u e => by
      have e1 : upd H' l (.lst [.bl (decide (n = 2)), .bl (decide (n = 3)), .bl (decide (n = 4)), .bl (decide (n = 5))]) b = some u := by rw [upd_ne (ne_of_none e hl)]; exact e
      rw [upd_ne (ne_of_none e1 ht)]
      exact e1
    have four : n = 2 ∨ n = 3 ∨ n = 4 ∨ n = 5 := by omega
    have fin : ∀ (j : Nat) (z : V), ([.bl (decide (n = 2)), .bl (decide (n = 3)), .bl (decide (n = 4)), .bl (decide (n = 5))] : List V)[j]? = some z → eqV z (.bl true) = true → (∀ (m : Nat) (z' : V), m < j → ([.bl (decide (n = 2)), .bl (decide (n = 3)), .bl (decide (n = 4)), .bl (decide (n = 5))] : List V)[m]? = some z' → eqV z' (.bl true) = false) → (j : Int) = (n : Int) - 2 → _ :=
      fun j z h1 h2 h3 h4 => (⟨.ref l, rfl, .inl ⟨rfl, _, SqL.of hl1⟩, l, _, .bl true, j, z, rfl, rfl, SqL.of hl1, rfl, rfl, h1, h2, h3, by show 2 ≤ sizeLine; decide, fun t1 ht1 => hQ _ t1 _ (fun b u e => by
          have := kp b u e
          rw [upd_ne (ne_of_none this ht1)]
          exact this) (by
          cases e : H' t1 with
          | none => rfl
          | some u => rw [kp t1 u e] at ht1; cases ht1) (by rw [upd_same, h4])⟩ : (tTup (tCons (tC (.str "refused")) (tCons (tBM X.K "list" (rIndex X.K) (tVar 3) (tCons (tC (.bl true)) tNil)) tNil))) [x0, some (.ref t), some (.ref a), some (.ref l)] _ fun v H1 => D.nx ([x0, some (.ref t), some (.ref a), some (.ref l)].set 1 (some v)) H1)
    rcases four with rfl | rfl | rfl | rfl
    · exact fin 0 (.bl true) rfl rfl (fun m z' hm => absurd hm (by omega)) rfl
    · exact fin 1 (.bl true) rfl rfl (fun m z' hm hz => by
        match m, hm with
        | 0, _ => cases hz; rfl) rfl
    · exact fin 2 (.bl true) rfl rfl (fun m z' hm hz => by
        match m, hm with
        | 0, _ => cases hz; rfl
        | 1, _ => cases hz; rfl) rfl
    · exact fin 3 (.bl true) rfl rfl (fun m z' hm hz => by
        match m, hm with
        | 0, _ => cases hz; rfl
        | 1, _ => cases hz; rfl
        | 2, _ => cases hz; rfl) rfl
  · obtain ⟨mono, h⟩ := h
    refine ⟨rfl, hco, mono _ _ _ _ _ (fun cls d H' hx σ' hσ => ?_) (fun v H1 hv => ⟨by show 2 ≤ sizeLine; decide, fun p hp => ⟨.ref p, rfl, hv p hp⟩⟩) h⟩
    obtain ⟨n, n2, n5, rfl, rfl, hq⟩ := hx
    obtain ⟨x0, x1, x2, x3, rfl⟩ : ∃ x0 x1 x2 x3, σ' = [x0, x1, x2, x3] := by
      match σ', hσ with
      | [x0, x1, x2, x3], _ => exact ⟨x0, x1, x2, x3, rfl⟩
    exact ⟨true, TK.em n n2 n5, fun _ a ha => ⟨n, n2, n5, rfl, rfl, x0, x1, x3, rfl, fun H2 p y kp hp h2 => ⟨.ref p, rfl, hq H2 p kp hp h2⟩⟩, fun z => nomatch z⟩
end
/-- a def that tells -/
def ToldF (K : PySem.W.Frag) (mg : Str → Option Value) (xc : Nat → Addr) (x : Str) (kd : Nat) : Prop :=
  ∃ (g : Addr) (pg : Arguments) (bg : List Stmt) (sg : Scope) (dV kV doc pm cdv ct oc : Value) (an od : Option Addr) (osl : Array (Option Value)) (Ng : List Str),
    mg x = some (.ref g) ∧ PySem.W.keepIn K (.ref g) = true ∧ K.lookup g = some ⟨oc, od, .func (PySem.W.fnOf x x pg bg sg dV kV doc pm an cdv ct), osl⟩ ∧ PySem.W.codeIn K cdv x = true ∧
    Binds K (PySem.W.fnOf x x pg bg sg dV kV doc pm an cdv ct) ["_law_deed"] [] ∧ FnScope Ng ["_law_deed"] sg ∧ Ng[0]? = some ("_law_deed" : Str) ∧ Vis sg "_law_deed" ∧
    ∀ (X : Cx) (q : Str), X.K = K → X.mg = mg → LamX.GivesTo X Ng x sg g cdv bg "_law_deed" q (TTold xc kd)
section
variable [Tb] {K : PySem.W.Frag} {cl xc : Nat → Addr} {E : XK}
theorem Wf.grow {W : Wd} {H : Hp} (w : Wf K cl W) (hk : ∀ b u, W.H b = some u → H b = some u) : Ex W ⟨H, W.F, W.m, W.st⟩ ∧ Wf K cl ⟨H, W.F, W.m, W.st⟩ := by
  have ex : Ex W ⟨H, W.F, W.m, W.st⟩ := ⟨rfl, List.prefix_refl _, fun b u e l _ => ⟨hk b u e, l⟩⟩
  exact ⟨ex, w.len, w.inj, w.nf, fun i a o h1 h2 => (w.ob i a o h1 h2).mono ex fun u => hk a u, (fun a f => let ⟨u, h, n⟩ := w.ft a f; ⟨u, hk a u h, n⟩), w.tb.ext hk⟩
theorem tE_mono2 {f : Env → M Vl} {E E' : XK} {σ : L2.St} {H : Hp} {Q Q' : VK} (hE : ∀ cls d H', E cls d H' → E' cls d H') (hQ : ∀ v H', Q v H' → Q' v H') (h : tE K cl xc E f σ H Q) : tE K cl xc E' f σ H Q' := by
  obtain ⟨env, W, rfl, he, w, p⟩ := h
  refine ⟨env, W, rfl, he, w, ?_⟩
  cases e : f env W.st with
  | ok x st => rw [e] at p; exact fun H m ex wf v rv => hQ _ _ (p H m ex wf v rv)
  | ex c st => rw [e] at p; exact fun H m ex wf => hE _ _ _ (p H m ex wf)
  | no => rw [e] at p; exact p
theorem tE_told (kd : Nat) (g : Env → M Vl) {σ : L2.St} {H : Hp} {Q : VK} (q : tE K cl xc E (fun env => toldV kd (g env)) σ H Q) : LamX.tLam Tb.T (TTold xc kd) (fun E' => tE K cl xc E' g) σ H Q := by
  obtain ⟨env, W, rfl, he, w, p⟩ := q
  refine ⟨w.tb, fun H1 eN T1 => ⟨fun E1 E2 H Q1 Q2 hE hQ h => tE_mono2 hE hQ h, ?_⟩⟩
  have ex1 : Ex W ⟨H1, W.F, W.m, W.st⟩ := ⟨rfl, List.prefix_refl _, fun b u e l n => ⟨eN b u e n, l⟩⟩
  have w1 : Wf K cl ⟨H1, W.F, W.m, W.st⟩ := ⟨w.len, w.inj, w.nf, fun i a o h1 h2 => (w.ob i a o h1 h2).mono' ex1 fun u e n => eN a u e n, (fun a f => let ⟨u, h, n⟩ := w.ft a f; ⟨u, eN a u h n, n⟩), T1⟩
  refine ⟨env, ⟨H1, W.F, W.m, W.st⟩, rfl, he.mono ex1, w1, ?_⟩
  have p : Post K cl xc E W (toldV kd (g env) W.st) fun x W' => ∀ v, RpV K W' v x → Q v W'.H := p
  show Post K cl xc _ _ (g env W.st) _
  unfold toldV at p
  cases e : g env W.st with
  | no => rw [e] at p; exact p
  | ok x st =>
    rw [e] at p
    cases x with
    | o i => exact p.elim
    | d x =>
      intro H' m' e1 wf v rv a ha
      have hn : (⟨H', W.F, m', st⟩ : Wd).H a = none := ha
      exact p _ m' ((ex1.trans e1).trans (Ex.new (o := .tup [.str "told", v]) hn)) (wf.new hn) (.ref a) (rp_newTup wf hn (.cons (.str _) (.cons rv .nil)))
  | ex c st =>
    rw [e] at p
    dsimp only at p
    by_cases hc : 2 ≤ c ∧ c ≤ 5
    · rw [if_pos hc] at p
      intro H' m' e1 wf
      refine ⟨c, hc.1, hc.2, rfl, rfl, fun H2 a kp ha h2 => ?_⟩
      obtain ⟨e2, w2⟩ := wf.grow (H := H2) kp
      have hout := wf.out_of_none (p := a) ha
      refine p H2 m' ((ex1.trans e1).trans e2) w2 (.ref a) (.tup (.inl ⟨h2, hout⟩) (.cons (.str _) (.cons ?_ .nil)))
      by_cases hk : kd = 0
      · rw [if_pos hk, if_pos hk]; exact .int _
      · rw [if_neg hk, if_neg hk]; exact .non
    · rw [if_neg hc] at p; exact p.elim
end
end Dw

namespace Dw
open PySem L2

/-! ### the tables of a text -/
/-- a def of the text: its number, its name, its parameters, the class whose method it is -/
structure FI where
  f : Nat
  nm : Str
  ps : List Str
  c : Option Nat := none
/-- a class: its number, its name, its __init__'s number, its attributes -/
structure CI where
  c : Nat
  nm : Str
  ini : Nat
  flds : List Str
structure Tx where
  fns : Nat → Option Fn
  inf : List FI
  cls : List CI := []
  con : List (Str × D)
  blt : List Str
  exc : List (Nat × Str) := []
  tol : List (Str × Nat) := []
  /-- other names of defs -/
  ali : List (Str × Str) := []
  /-- the law's own def -/
  lw : Str := Str.empty
mutual
def beqD : D → D → Bool
  | .none, .none => true
  | .bool a, .bool b => a == b
  | .int a, .int b => a == b
  | .str a, .str b => a == b
  | .tuple xs, .tuple ys => beqDs xs ys
  | .list xs, .list ys => beqDs xs ys
  | _, _ => false
def beqDs : List D → List D → Bool
  | [], [] => true
  | x :: xs, y :: ys => beqD x y && beqDs xs ys
  | _, _ => false
end
mutual
theorem beqD_eq : ∀ (x y : D), beqD x y = true → x = y
  | .none, y, h => by cases y <;> simp_all [beqD]
  | .bool a, y, h => by cases y <;> simp_all [beqD]
  | .int a, y, h => by cases y <;> simp_all [beqD]
  | .str a, y, h => by cases y <;> simp_all [beqD]
  | .tuple xs, y, h => by
    cases y with
    | tuple ys => rw [beqDs_eq xs ys (by simpa [beqD] using h)]
    | _ => simp [beqD] at h
  | .list xs, y, h => by
    cases y with
    | list ys => rw [beqDs_eq xs ys (by simpa [beqD] using h)]
    | _ => simp [beqD] at h
  | .dict _, y, h => by cases y <;> simp [beqD] at h
theorem beqDs_eq : ∀ (xs ys : List D), beqDs xs ys = true → xs = ys
  | [], ys, h => by cases ys <;> simp_all [beqDs]
  | x :: xs, ys, h => by
    cases ys with
    | nil => simp [beqDs] at h
    | cons y ys =>
      simp only [beqDs, Bool.and_eq_true] at h
      rw [beqD_eq x y h.1, beqDs_eq xs ys h.2]
end
/-! ### names -/
def okNm (x : Str) : Bool := !(x == ("__debug__" : Str)) && !(x == ("__classdict__" : Str)) && !(x == ("__name__" : Str))
def visB (sc : Scope) (x : Str) : Bool := match sc.names.lookup x with
  | some .local => true | some .cell => true | some .free => true | _ => false
def locB (sc : Scope) (x : Str) : Bool := match sc.names.lookup x with
  | some .local => true | some .cell => true | _ => false
def gloB (sc : Scope) (x : Str) : Bool := match sc.names.lookup x with
  | some .globalImplicit => true | _ => false
/-- an expression that the little syntax may stand for -/
def plainX : Expr → Bool
  | .Starred .. => false | .Set .. => false | .Slice .. => false | .IfExp .. => false | _ => true
def recvX : Expr → Bool
  | .Call (.Name _ _) [] [] _ => false | _ => true
def notComp : Expr → Bool
  | .ListComp .. => false | .SetComp .. => false | .DictComp .. => false | _ => true
section
variable (T : Tx) (N : List Str)
def chkTg (sc : Scope) : Tg → Expr → Bool
  | .nm i, .Name x _ => N[i]? == some x && locB sc x
  | .tp ts, .Tuple es _ _ => chkTgs sc ts es
  | _, _ => false
where chkTgs (sc : Scope) : Tgs → List Expr → Bool
  | .nil, [] => true
  | .cons t r, e :: es => chkTg sc t e && chkTgs sc r es
  | _, _ => false
end

mutual
def tgIn (own : List Nat) : Tg → Bool
  | .nm i => own.contains i
  | .tp ts => tgsIn own ts
def tgsIn (own : List Nat) : Tgs → Bool
  | .nil => true
  | .cons t r => tgIn own t && tgsIn own r
end
section
variable (T : Tx) (N : List Str)
def ownOf (own : List Nat) : List (Str × Nat) := own.filterMap fun i => N[i]?.map fun x => (x, i)
def tyNames : List Str := ["int", "bool", "str", "tuple", "list"]
def biKnown : Bi → Bool
  | .len => true | .all => true | .any => true | .tuple => true | .list => true | .int => true | .str => true | .min => true | .max => true | .sum => true | .sorted => true | .sortedK => true | .minD => true | .dict => true | _ => false
def mtKnown : Mt → Bool
  | .append => true | .extend => true | .pop => true | .index => true | .remove => true | _ => false
def MtN : Mt → Str
  | .append => "append" | .extend => "extend" | .pop => "pop" | .index => "index" | .remove => "remove" | .count => "count" | .join => "join" | .split => "split" | .upper => "upper" | .get => "get"
def loC : Option Int → Option Expr → Bool
  | none, none => true
  | some i, some (.Constant (.int j) _ _) => i == j
  | _, _ => false
def stC (st : Int) : Expr → Bool
  | .Constant (.int j) _ _ => st == j
  | .UnaryOp .USub (.Constant (.int j) _ _) _ => st == -j
  | _ => false
/-- attributes of a name's instance, as targets -/
def fldC (x : Str) : List Str → List Expr → Bool
  | [], [] => true
  | f :: fs, .Attribute (.Name y _) g _ :: es => x == y && f == g && fldC x fs es
  | _, _ => false
def lamA (sc : Scope) : Bool := sc.names.any fun y => match y.2 with | .local => true | .cell => true | _ => false
/-- the names of a law's own def -/
def rpN (N : List Str) : Bool := N.contains "_law_script" && N.contains "_law_plan_here"
def parsB (a : Arguments) : Bool := match a with | ⟨[], [], none, [], [], none, []⟩ => true | _ => false
mutual
def chkE (sc : Scope) : E → Expr → Bool
  | .non, x => match x with | .Constant .none _ _ => true | _ => false
  | .bl b, x => match x with | .Constant (.bool c) _ _ => b == c | _ => false
  | .int i, x => match x with | .Constant (.int j) _ _ => i == j | _ => false
  | .str z, x => match x with | .Constant (.str y) _ _ => z == y | _ => false
  | .var i, x => match x with | .Name x _ => N[i]? == some x && visB sc x && okNm x | _ => false
  | .glb z d, x => match x with | .Name y _ => z == y && gloB sc y && okNm y && (T.con.any fun p => p.1 == y && beqD p.2 d) | _ => false
  | .bin op a b, x => match x with | .BinOp x o y _ => op == o && chkE sc a x && chkE sc b y | _ => false
  | .cmp op a b, x => match x with | .Compare x [o] [y] _ => op == o && chkE sc a x && chkE sc b y | _ => false
  | .chain o1 o2 a b c, x => match x with | .Compare x [p1, p2] [y, z] _ => o1 == p1 && o2 == p2 && chkE sc a x && chkE sc b y && chkE sc c z | _ => false
  | .andE as, x => match x with | .BoolOp .And es _ => chkEs sc as es | _ => false
  | .orE as, x => match x with | .BoolOp .Or es _ => chkEs sc as es | _ => false
  | .notE a, x => match x with | .UnaryOp .Not x _ => chkE sc a x | _ => false
  | .neg a, x => match x with | .UnaryOp .USub x _ => chkE sc a x | _ => false
  | .call _ f as, x => match x with | .Call (.Name x _) (e :: es) [] _ => (T.inf.any fun I => I.f == f && I.nm == x && I.c == none) && gloB sc x && okNm x && chkEs sc as (e :: es) | _ => false
  | .meth c m f o as, x => match x with | .Call (.Attribute v n ap) es [] p => n == m && (T.inf.any fun I => I.f == f && I.nm == m && I.c == some c) && (T.cls.any fun I => I.c == c) && chkE sc o v && recvX v && ap.endLine == p.line && decide (es.length < 30) && chkEs sc as es | _ => false
  | .make c f as, x => match x with | .Call (.Name x _) (e :: es) [] _ => (T.cls.any fun I => I.c == c && I.nm == x && I.ini == f) && gloB sc x && okNm x && chkEs sc as (e :: es) | _ => false
  | .bi b as, x => match x with | .Call (.Name x _) (e :: es) [] _ => x == BiN b && (biKnown b || (decide (b = .repr) && rpN N && lamA sc)) && T.blt.contains x && gloB sc x && okNm x && chkEs sc as (e :: es) | _ => false
  | .isi a ty, x => match x with | .Call (.Name x _) [e, .Name t _] [] _ => x == ("isinstance" : Str) && t == ty && tyNames.contains ty && T.blt.contains x && T.blt.contains t && gloB sc x && gloB sc t && okNm t && chkE sc a e | _ => false
  | .mt m o as, x => match x with | .Call (.Attribute v n ap) es [] p => n == MtN m && mtKnown m && chkE sc o v && recvX v && ap.endLine == p.line && decide (es.length < 30) && chkEs sc as es | _ => false
  | .tup as, x => match x with | .Tuple es _ _ => chkEs sc as es | _ => false
  | .lst _ as, x => match x with | .List es _ => chkEs sc as es | _ => false
  | .ix a i, x => match x with | .Subscript x y _ => chkE sc a x && chkE sc i y | _ => false
  | .sl a lo hi, x => match x with | .Subscript x (.Slice l h none _) _ => chkE sc a x && chkEo sc lo l && chkEo sc hi h | _ => false
  | .addM a b, x => match x with | .BinOp x .Add y _ => chkE sc a x && chkE sc b y | _ => false
  | .stp a lo st, x => match x with | .Subscript x (.Slice l none (some z) _) _ => loC lo l && stC st z && chkE sc a x | _ => false
  | .comp _ elt tg it ifs own, x => match x with
    | .ListComp e [⟨t, i, fs, 0⟩] scope _ => blkC N sc scope (ownOf N own) && decide ((ownOf N own).map (·.2) = own) && chkIt sc it i t && chkTg N (relS scope sc) tg t && chkTg N scope tg t && tgIn own tg && chkIf (relS scope sc) ifs fs && chkE (relS scope sc) elt e && lamA sc
    | _ => false
  | .attr c o f, x => match x with | .Attribute v n _ => n == f && chkE sc o v && recvX v && (T.cls.any fun I => I.c == c && I.flds.contains f) | _ => false
  | .frz a, x => chkE sc a x
  | .setE srt a, x => match x with | .Call (.Name f _) [.Call (.Name g _) [e] [] _] [] _ => f == (if srt then ("sorted" : Str) else "len") && g == ("set" : Str) && T.blt.contains f && T.blt.contains g && gloB sc f && gloB sc g && chkE sc a e | _ => false
  | .dic ps, x => match x with | .Dict ks vs _ => chkPs sc ps ks vs && decide (ks.length ≤ 15) && !ks.isEmpty | _ => false
  | .dgt o k d, x => match x with | .Call (.Attribute v n ap) [e, f] [] p => n == ("get" : Str) && chkE sc o v && recvX v && ap.endLine == p.line && chkE sc k e && chkE sc d f | _ => false
  | .txm m a b, x => match x with | .Call (.Attribute v n ap) [e] [] p => n == MtN m && (match m with | .join => true | .split => true | _ => false) && chkE sc a v && recvX v && ap.endLine == p.line && chkE sc b e | _ => false
  | .dzip as, x => match x with | .Call (.Name f _) [.Call (.Name g _) [e, e2] [] _] [] _ => f == ("dict" : Str) && g == ("zip" : Str) && T.blt.contains f && T.blt.contains g && gloB sc f && gloB sc g && chkEs sc as [e, e2] | _ => false
  | .tupRg a, x => match x with | .Call (.Name f _) [.Call (.Name g _) [e] [] _] [] _ => f == ("tuple" : Str) && g == ("range" : Str) && T.blt.contains f && T.blt.contains g && gloB sc f && gloB sc g && chkE sc a e | _ => false
  | .told kd e, x => match x with | .Call (.Name f _) [.Lambda params body scope _] [] _ => T.tol.contains (f, kd) && gloB sc f && okNm f && lamA sc && LamX.lamSB sc scope && parsB params && chkE scope e body | _ => false
def chkPs (sc : Scope) : Ps → List (Option Expr) → List Expr → Bool
  | .nil, ks, vs => match ks, vs with | [], [] => true | _, _ => false
  | .cons k v r, ks, vs => match ks, vs with | some x :: xs, y :: ys => chkE sc k x && chkE sc v y && chkPs sc r xs ys | _, _ => false
def chkEs (sc : Scope) : Es → List Expr → Bool
  | .nil, es => match es with | [] => true | _ => false
  | .cons a r, es => match es with | e :: es => chkE sc a e && chkEs sc r es | _ => false
def chkEo (sc : Scope) : Eo → Option Expr → Bool
  | .no, x => match x with | none => true | _ => false
  | .so a, x => match x with | some e => chkE sc a e | _ => false
def chkIf (sc : Scope) : Eo → List Expr → Bool
  | .no, x => match x with | [] => true | _ => false
  | .so a, x => match x with | [e] => chkE sc a e | _ => false
/-- what is walked (the target beside it) -/
def chkIt (sc : Scope) : It → Expr → Expr → Bool
  | .of a, e, _ => chkE sc a e
  | .range as, e, _ => match e with | .Call (.Name x _) es [] _ => x == ("range" : Str) && T.blt.contains x && gloB sc x && chkEs sc as es && (es.length == 1 || es.length == 2) | _ => false
  | .enum a, e, t => match e, t with | .Call (.Name x _) [e] [] _, .Tuple _ _ _ => x == ("enumerate" : Str) && T.blt.contains x && gloB sc x && chkE sc a e | _, _ => false
  | .zip a b, e, t => match e, t with | .Call (.Name x _) [e, e2] [] _, .Tuple _ _ _ => x == ("zip" : Str) && T.blt.contains x && gloB sc x && chkE sc a e && chkE sc b e2 | _, _ => false
  | .objs as, e, _ => match e with | .Tuple es _ _ => chkEs sc as es | _ => false
end
/-- a name that is given a comprehension -/
def asgC (sc : Scope) (x : Str) (p : Pos) (e : E) (v : Expr) : Bool := match e with
  | .comp .. => match v with
    | .ListComp _ _ scope pos => (match sc.names.lookup x with | some .local => true | _ => false) && (p.line == pos.line) && !(scope.names.any fun (n, k) => n == x && (k == .local || k == .cell))
    | _ => false
  | _ => false
def celB (sc : Scope) (x : Str) : Bool := match sc.names.lookup x with | some .cell => true | _ => false
/-- one of the names is captured -/
def celT (sc : Scope) (t : Expr) : Bool := match t with | .Tuple ts _ _ => ts.any (fun e => match e with | .Name x _ => celB sc x | _ => false) | _ => false
def lclB (sc : Scope) (x : Str) : Bool := match sc.names.lookup x with | some .local => true | _ => false
def strd (e : Expr) : Bool := match e with | .Starred .. => true | _ => false
/-- names set side by side: plain locals, in one line, not all of it constant -/
def parC (sc : Scope) (is : List Nat) (ts es : List Expr) : Bool := match is, ts, es with
  | [i, j], [.Name x px, .Name y py], [a, b] => N[i]? == some x && N[j]? == some y && decide (i ≠ j) && lclB sc x && lclB sc y && (px.line == py.line) && decide (x ≠ y) && !strd a && !strd b && !([a, b].all (foldedForSure 8)) && !([a, b].all (constantsAlone 8))
  | [i, j, l], [.Name x px, .Name y py, .Name z pz], [a, b, c] => N[i]? == some x && N[j]? == some y && N[l]? == some z && decide (i ≠ j) && decide (i ≠ l) && decide (j ≠ l) && lclB sc x && lclB sc y && lclB sc z && (px.line == py.line) && (px.line == pz.line) && decide (x ≠ y) && decide (x ≠ z) && decide (y ≠ z) && !strd a && !strd b && !strd c && !([a, b, c].all (foldedForSure 8)) && !([a, b, c].all (constantsAlone 8))
  | _, _, _ => false
/-- two captured names set side by side -/
def parK (sc : Scope) (is : List Nat) (ts es : List Expr) : Bool := match is, ts, es with
  | [i, j], [.Name x _, .Name y _], [_, _] => N[i]? == some x && N[j]? == some y && celB sc x && celB sc y
  | _, _, _ => false
mutual
def chkS (sc : Scope) : S → Stmt → Bool
  | .set i e, s => match s with
    | .Assign [.Name x px] v _ => N[i]? == some x && locB sc x && chkE T N sc e v && (notComp v || celB sc x || asgC sc x px e v)
    | _ => false
  | .unpk tg e, s => match s with | .Assign [t] v _ => (match t with | .Tuple _ _ _ => true | _ => false) && chkTg N sc tg t && chkE T N sc e v && notComp v && (match v with | .Tuple _ _ _ => celT sc t | _ => true) | _ => false
  | .par is as, s => match s with | .Assign [.Tuple ts _ _] (.Tuple es _ _) _ => (parC N sc is ts es || parK N sc is ts es) && chkEs T N sc as es | _ => false
  | .setAttr c o f e, s => match s with | .Assign [.Attribute v n _] x _ => n == f && chkE T N sc o v && chkE T N sc e x && notComp x && (T.cls.any fun I => I.c == c && I.flds.contains f) | _ => false
  | .setIx o i e, s => match s with | .Assign [.Subscript x y _] v _ => chkE T N sc o x && chkE T N sc i y && chkE T N sc e v && notComp v | _ => false
  | .unpkAt c i fs e, s => match s with | .Assign [.Tuple es _ _] v _ => (match N[i]? with | some x => fldC x fs es && visB sc x && okNm x | none => false) && chkE T N sc e v && notComp v && (match v with | .Tuple _ _ _ => false | _ => true) && (T.cls.any fun I => I.c == c && fs.all fun f => I.flds.contains f) | _ => false
  | .expr e, s => match s with | .Expr x _ => chkE T N sc e x && notComp x | _ => false
  | .ite c a b, s => match s with | .If x y z _ => chkE T N sc c x && chkB sc a y && chkB sc b z | _ => false
  | .forS tg it b, s => match s with | .For t i y [] _ => chkIt T N sc it i t && chkTg N sc tg t && chkB sc b y | _ => false
  | .whil _ c b, s => match s with | .While x y [] _ => chkE T N sc c x && chkB sc b y | _ => false
  | .ret e, s => match s with | .Return (some x) _ => chkE T N sc e x | _ => false
  | .retN, s => match s with | .Return none _ => true | _ => false
  | .raise c m, s => match s with | .Raise (some (.Call (.Name x _) [.Constant (.str y) _ _] [] _)) none _ => y == m && (T.exc.any fun p => p.1 == c && p.2 == x) && gloB sc x && okNm x | _ => false
  | .cont, s => match s with | .Continue _ => true | _ => false
  | .pass, s => match s with | .Pass _ => true | _ => false
def chkB (sc : Scope) : Ss → List Stmt → Bool
  | .nil, l => match l with | [] => true | _ => false
  | .cons s r, l => match l with | x :: xs => chkS sc s x && chkB sc r xs | _ => false
end
end

/-! ### what holds of the text behind its top, and of a context -/
/-- data of the module's own -/
def KRp (K : PySem.W.Frag) (v : V) (d : D) : Prop := ∀ W, Rp K W v d
/-- a def's promise: it hands back what the evaluator reckons -/
def spF [Tb] (K : PySem.W.Frag) (cl xc : Nat → Addr) (n : Nat) (φ : List Vl → M Vl) : Sp := fun vs H Q E => ∃ xs W, W.H = H ∧ RpVs K W vs xs ∧ xs.length = n ∧ Wf K cl W ∧ Post K cl xc E W (φ xs W.st) fun z W' => ∀ v, RpV K W' v z → Q v W'.H
def npOf (T : Nat → Option Fn) (f : Nat) : Option Nat := (T f).map (·.np)
structure Fac [Tb] (T : Tx) (k : Nat) (P : Program) (w : World) (K : PySem.W.Frag) (mg : Str → Option Value) (base : Heap) (cl xc : Nat → Addr) : Prop where
  fn : ∀ I ∈ T.inf, ∃ a fd, FnOk P w K mg base (L2.CX P w) (4 * k) a fd I.ps (spF K cl xc I.ps.length (Phi T.fns k I.f)) ∧ Binds K fd I.ps [] ∧ npOf T.fns I.f = some I.ps.length ∧ (match I.c with
    | none => mg I.nm = some (.ref a) ∧ PySem.W.keepIn K (.ref a) = true
    | some c => Meth K (cl c) I.nm a)
  cls : ∀ I ∈ T.cls, Cls K (cl I.c) ∧ mg I.nm = some (.ref (cl I.c)) ∧ (∀ f ∈ I.flds, NoAttr K (cl I.c) f) ∧ ∃ a fd ps, Mk K (cl I.c) a ∧ Binds K fd ps [] ∧ npOf T.fns I.ini = some ps.length ∧ FnOk P w K mg base (L2.CX P w) (4 * k) a fd ps (spF K cl xc ps.length (Phi T.fns k I.ini))
  con : ∀ p ∈ T.con, ∃ v u, mg p.1 = some u ∧ RelV v u ∧ KRp K v p.2
  blt : ∀ x ∈ T.blt, mg x = none
  tol : ∀ p ∈ T.tol, ToldF K mg xc p.1 p.2
  exc : ∀ p ∈ T.exc, mg p.2 = some (.ref (xc p.1)) ∧ PySem.W.keepIn K (.ref (xc p.1)) = true ∧ PySem.W.excIn K (xc p.1) [.type "ValueError", .type "Exception", .type "BaseException", .type "object"] "ValueError.__new__" = true ∧
    PySem.W.subIn K (.ref (xc p.1)) (.type "BaseException") = some true ∧ PySem.W.typeIn K (.ref (xc p.1)) = some (.type "type")
/-- where a def's lambdas are made -/
structure LamC [Tb] (k : Nat) (X : Cx) : Prop where
  ex : ∃ c P, X.env.code = .ref c ∧ LamX.TabB X.base X.mg c P ∧ (P, X.env.qual ++ "<lambda>") ∈ Tb.T ∧ ∀ p ∈ Tb.T, p.1 = P → p.2 = X.env.qual ++ "<lambda>"
  room : Room (4 * k + 3) X.A
structure Cok [Tb] (k : Nat) (N : List Str) (sc : Scope) (X : Cx) (E : XK) : Prop where
  hN : X.N = N
  nd : N.Nodup
  hsc : X.env.scope = sc
  calm : X.calm = true
  room : Room (4 * k + 1) X.A
  tk : Takes X (fun cls d _ H => E cls d H)
  lam : lamA sc = true → LamC k X
  gd : rpN N = true → lamA sc = true → X.A.guards = some []
structure Cos [Tb] (k : Nat) (N : List Str) (sc : Scope) (X : Cx) (E : XK) : Prop extends Cok k N sc X E where
  fn : ∀ x, locB sc x = true → X.fn x = true ∨ sc.names.lookup x = some .local
  po : PassesOwn (model X.prog X.w) X.A X.env X.xe
  kd : X.env.scope.kind = .function
end Dw

namespace Dw
open PySem L2
variable [Tb]
section
variable {X : Cx}
theorem PE.imp {e : Expr} {t t' : TE} (h : PE X e t) (f : ∀ σ H Q, t' σ H Q → t σ H Q) : PE X e t' := ⟨fun pins s σ H Q I q => h.run pins s σ H Q I (f σ H Q q)⟩
theorem PT.imp {e : Expr} {t t' : TT} (h : PT X e t) (f : ∀ σ H Q, t' σ H Q → t σ H Q) : PT X e t' := ⟨fun pins s σ H Q I q => h.run pins s σ H Q I (f σ H Q q)⟩
theorem PW.imp {e : Expr} {t t' : TT} (h : PW X e t) (f : ∀ σ H Q, t' σ H Q → t σ H Q) : PW X e t' := ⟨fun wh pins s σ H Q I q => h.run wh pins s σ H Q I (f σ H Q q)⟩
theorem PA.imp {es : List Expr} {t t' : TA} (h : PA X es t) (f : ∀ σ H Q, t' σ H Q → t σ H Q) : PA X es t' := ⟨fun pos pins s σ H Q I q => h.run pos pins s σ H Q I (f σ H Q q)⟩
theorem PTs.imp {es : List Expr} {t t' : TT} (h : PTs X es t) (f : ∀ σ H Q, t' σ H Q → t σ H Q) : PTs X es t' := ⟨fun pins s σ H Q I q => h.run pins s σ H Q I (f σ H Q q)⟩
theorem PO.imp {e : Option Expr} {t t' : TO} (h : PO X e t) (f : ∀ σ H Q, t' σ H Q → t σ H Q) : PO X e t' := ⟨fun pins s σ H Q I q => h.run pins s σ H Q I (f σ H Q q)⟩
theorem PS.imp {e : Stmt} {t t' : TS} (h : PS X e t) (f : ∀ D σ H, t' D σ H → t D σ H) : PS X e t' := ⟨fun pins s σ H D I q => h.run pins s σ H D I (f D σ H q)⟩
theorem PSs.imp {e : List Stmt} {t t' : TS} (h : PSs X e t) (f : ∀ D σ H, t' D σ H → t D σ H) : PSs X e t' := ⟨fun pins s σ H D I q => h.run pins s σ H D I (f D σ H q)⟩
theorem PI.imp {tg e : Expr} {t t' : TI} (h : PI X tg e t) (f : ∀ σ H Q, t' σ H Q → t σ H Q) : PI X tg e t' := ⟨fun pins s σ H Q I q => h.run pins s σ H Q I (f σ H Q q)⟩
theorem PG.imp {e : Expr} {t t' : TG} (h : PG X e t) (f : ∀ v σ H Q, t' v σ H Q → t v σ H Q) : PG X e t' := ⟨fun pins s σ H v u Q I r q => h.run pins s σ H v u Q I r (f v σ H Q q)⟩
theorem PGs.imp {e : List Expr} {t t' : TGs} (h : PGs X e t) (f : ∀ v σ H Q, t' v σ H Q → t v σ H Q) : PGs X e t' := ⟨fun pins s σ H v u Q I r q => h.run pins s σ H v u Q I r (f v σ H Q q)⟩
theorem PE.none {e : Expr} : PE X e (fun _ _ _ => False) := ⟨fun _ _ _ _ _ _ h => h.elim⟩
theorem PW.none {e : Expr} : PW X e (fun _ _ _ => False) := ⟨fun _ _ _ _ _ _ _ h => h.elim⟩
theorem PT.none {e : Expr} : PT X e (fun _ _ _ => False) := ⟨fun _ _ _ _ _ _ h => h.elim⟩

/-! ### what the trees' forms give -/
theorem star_plain {e : Expr} {es : List Expr} {env : PySem.Env} (h : plainX e = true) : starEach (e :: es) env = (false, eval e env) :: starEach es env := by
  cases e <;> first | rfl | cases h
theorem star_none {es : List Expr} {pos : Pos} {env : PySem.Env} (h : ∀ e ∈ es, plainX e = true) : (backTo pos (starEach es env)).any (·.1) = false := by
  induction es with
  | nil => rfl
  | cons e es ih =>
    rw [star_plain (h e List.mem_cons_self)]
    show (false || (backTo pos (starEach es env)).any (·.1)) = false
    rw [ih fun x hx => h x (List.mem_cons_of_mem _ hx)]
    rfl
theorem star_all {es : List Expr} {pos : Pos} {env : PySem.Env} (h : ∀ e ∈ es, plainX e = true) : (backTo pos (starEach es env)).all (fun x => !x.1) = true := by
  induction es with
  | nil => rfl
  | cons e es ih =>
    rw [star_plain (h e List.mem_cons_self)]
    show (true && (backTo pos (starEach es env)).all (fun x => !x.1)) = true
    rw [ih fun x hx => h x (List.mem_cons_of_mem _ hx)]
    rfl
theorem noMark {e : Expr} {op : CmpOp} (h : plainX e = true) : behindInMarks op e = false := by
  cases e <;> first | rfl | cases h
theorem plainIx {e : Expr} (h : plainX e = true) : PlainIx e := fun o i => by
  cases e <;> first | rfl | cases h
theorem noFold {e : Expr} {env : PySem.Env} (h : plainX e = true) : ∀ x, foldedSetIterable e env x = pure x := fun x => by
  cases e <;> first | rfl | cases h
theorem recv_base {e : Expr} {f : Str} {env : PySem.Env} (h : recvX e = true) : attributeBase e f env (eval e env) = eval e env := by
  cases e with
  | Call g as ks pos =>
    cases g <;> try rfl
    cases as with
    | nil =>
      cases ks with
      | nil => cases h
      | cons _ _ => rfl
    | cons _ _ => rfl
  | _ => rfl
theorem notComp_sw {v : Expr} {t : Option Expr} {l : Nat} {env : PySem.Env} (h : notComp v = true) : swapsWith v t l env = pure false := by
  cases v <;> first | rfl | cases h
theorem meth_tree {o : Expr} {m : Str} {apos pos : Pos} {es : List Expr} {env : PySem.Env} (h1 : recvX o = true) (h2 : (apos.endLine == pos.line) = true) (h3 : es.length < 30) (h4 : ∀ e ∈ es, plainX e = true) :
    eval (.Call (.Attribute o m apos) es [] pos) env = (do
      let ov ← eval o env
      standAt apos.atName
      let (f, first) ← holding [ov] (getMethod ov m (do return (← importBound o env).getD true))
      callWith pos f first (backTo pos (starEach es env)) (backToKw pos (keywordEach [] env))) := by
  have hf : methodCallForm (es.length + ([] : List Keyword).length) (backTo pos (starEach es env)) (backToKw pos (keywordEach [] env)) = true := by
    unfold methodCallForm
    rw [star_all h4]
    show (true && true && decide (es.length + 0 + 0 < 30)) = true
    simp [h3]
  show (do
    let ov ← attributeBase o m env (eval o env)
    standAt apos.atName
    methodCall o m apos pos env ov (es.length + ([] : List Keyword).length) (backTo pos (starEach es env)) (backToKw pos (keywordEach [] env))) = _
  rw [recv_base h1]
  unfold methodCall
  rw [hf]
  have hp : methodCallPos true o env apos pos = pure pos := by
    unfold methodCallPos
    rw [if_pos (by simp [h2])]
  rw [hp]
  rfl
theorem few_args {es : List Expr} {pos : Pos} {env : PySem.Env} (h3 : es.length < 30) (h4 : ∀ e ∈ es, plainX e = true) : ((backTo pos (starEach es env)).all (fun x => !x.1) && (backToKw pos (keywordEach [] env)).all (fun x => x.1.isSome)
      && decide (es.length + ([] : List Keyword).length + (if ([] : List Keyword).isEmpty then 0 else 1) < 30)) = true := by
  rw [star_all h4]
  show (true && true && decide (es.length + 0 + 0 < 30)) = true
  simp [h3]
end
/-! ### fields by name -/
section
variable {K : PySem.W.Frag} {cl xc : Nat → Addr} {E : XK} {W W' : Wd}
theorem FsR.lookup : ∀ {fs : List (Str × Vl)} {gs : List (Str × V)} (f : Str), FsR K W fs gs → (fs.lookup f = none ∧ gs.lookup f = none) ∨ ∃ x v, fs.lookup f = some x ∧ gs.lookup f = some v ∧ RpV K W v x
  | _, _, f, .nil => .inl ⟨rfl, rfl⟩
  | (g, x) :: fs, (g', v) :: gs, f, .cons ⟨e, r⟩ t => by
    have e : g = g' := e
    subst e
    by_cases h : f = g
    · subst h
      exact .inr ⟨x, v, by simp [List.lookup], by simp [List.lookup], r⟩
    · have hb : (f == g) = false := beq_eq_false_iff_ne.mpr h
      have := FsR.lookup f t
      simpa [List.lookup, hb] using this
theorem FsR.put (f : Str) {x : Vl} {v : V} (r : RpV K W v x) : ∀ {fs : List (Str × Vl)} {gs : List (Str × V)}, FsR K W fs gs → FsR K W (setAt.putF f x fs) (L2.putF f v gs)
  | _, _, .nil => .cons ⟨rfl, r⟩ .nil
  | (g, y) :: fs, (g', u) :: gs, .cons ⟨e, q⟩ t => by
    have e : g = g' := e
    subst e
    unfold setAt.putF L2.putF
    by_cases h : g = f
    · rw [if_pos h, if_pos h]; exact .cons ⟨rfl, r⟩ t
    · rw [if_neg h, if_neg h]; exact .cons ⟨rfl, q⟩ (FsR.put f r t)
theorem FsR.len {fs : List (Str × Vl)} {gs : List (Str × V)} (h : FsR K W fs gs) : fs.length = gs.length := Paired.length h

/-! ### calls -/
/-- the world of a call that sees none of the store -/
def Wd.shut (W : Wd) : Wd := ⟨W.H, fun a => W.F a ∨ Live W a, [], []⟩
theorem shut_live (W : Wd) {H : Hp} {a : Addr} : ¬ Live ⟨H, W.shut.F, [], []⟩ a := by
  rintro ⟨i, o, h, _⟩
  simp at h
theorem shut_out {a : Addr} (h : Out W a) : Out W.shut a := ⟨shut_live W, fun z => z.elim h.2 h.1⟩
mutual
theorem Rp.shut : ∀ (d : D) (v : V), Rp K W v d → Rp K W.shut v d
  | .none, _, h => by cases h; exact .non
  | .bool b, _, h => by cases h; exact .bl b
  | .int i, _, h => by cases h; exact .int i
  | .str x, _, h => by cases h; exact .str x
  | .list ds, _, h => by
    cases h with
    | lst h1 h2 => exact .lst ⟨h1.1, shut_out h1.2⟩ (RpA.shut ds _ h2)
  | .tuple ds, _, h => by
    cases h with
    | tup h1 h2 => exact .tup (h1.imp (fun z => ⟨z.1, shut_out z.2⟩) id) (RpA.shut ds _ h2)
  | .dict _, _, h => by cases h
theorem RpA.shut : ∀ (ds : List D) (vs : List V), RpA K W vs ds → RpA K W.shut vs ds
  | [], _, h => by cases h; exact .nil
  | d :: ds, _, h => by
    cases h with
    | cons h1 h2 => exact .cons (Rp.shut d _ h1) (RpA.shut ds _ h2)
end
theorem Wf.shut (w : Wf K cl W) : Wf K cl W.shut :=
  ⟨rfl, fun _ _ _ _ _ h => by simp [Wd.shut] at h, fun _ _ _ h => by simp [Wd.shut] at h, fun _ _ _ h => by simp [Wd.shut] at h, fun a f => f.elim (w.ft a) fun l => let ⟨o, h, n, _⟩ := w.live l; ⟨o, h, n⟩, w.tb⟩
/-- back from it -/
theorem shut_back {H : Hp} {m : List Addr} {st : Sto} (w : Wf K cl W) (e : Ex W.shut ⟨H, W.shut.F, m, st⟩) (w' : Wf K cl ⟨H, W.shut.F, m, st⟩) : Ex W ⟨H, W.F, W.m, W.st⟩ ∧ Wf K cl ⟨H, W.F, W.m, W.st⟩ := by
  have k : ∀ b u, W.H b = some u → NoTb u → H b = some u := fun b u h n => (e.keep b u h (shut_live W (H := W.H)) n).1
  have ex : Ex W ⟨H, W.F, W.m, W.st⟩ := ⟨rfl, List.prefix_refl _, fun b u h l n => ⟨k b u h n, l⟩⟩
  exact ⟨ex, w.len, w.inj, w.nf, fun i a o h1 h2 => (w.ob i a o h1 h2).mono' ex fun u n => k a u n, (fun a f => let ⟨u, h, n⟩ := w.ft a f; ⟨u, k a u h n, n⟩), w'.tb⟩
theorem open_out {H : Hp} {m : List Addr} {st : Sto} {a : Addr} (h : Out ⟨H, W.shut.F, m, st⟩ a) : Out ⟨H, W.F, W.m, W.st⟩ a := ⟨fun l => h.2 (.inr l), fun f => h.2 (.inl f)⟩
mutual
theorem Rp.opened {H : Hp} {m : List Addr} {st : Sto} : ∀ (d : D) (v : V), Rp K ⟨H, W.shut.F, m, st⟩ v d → Rp K ⟨H, W.F, W.m, W.st⟩ v d
  | .none, _, h => by cases h; exact .non
  | .bool b, _, h => by cases h; exact .bl b
  | .int i, _, h => by cases h; exact .int i
  | .str x, _, h => by cases h; exact .str x
  | .list ds, _, h => by
    cases h with
    | lst h1 h2 => exact .lst ⟨h1.1, open_out h1.2⟩ (RpA.opened ds _ h2)
  | .tuple ds, _, h => by
    cases h with
    | tup h1 h2 => exact .tup (h1.imp (fun z => ⟨z.1, open_out z.2⟩) id) (RpA.opened ds _ h2)
  | .dict _, _, h => by cases h
theorem RpA.opened {H : Hp} {m : List Addr} {st : Sto} : ∀ (ds : List D) (vs : List V), RpA K ⟨H, W.shut.F, m, st⟩ vs ds → RpA K ⟨H, W.F, W.m, W.st⟩ vs ds
  | [], _, h => by cases h; exact .nil
  | d :: ds, _, h => by
    cases h with
    | cons h1 h2 => exact .cons (Rp.opened d _ h1) (RpA.opened ds _ h2)
end
theorem asDs_ok {α : Type} : ∀ {xs : List Vl} {vs : List V} {f : List D → M α} {q : α → Wd → Prop}, RpVs K W vs xs → Post K cl xc E W ((asDs xs >>= f) W.st) q → ∃ ds, xs = ds.map Vl.d ∧ RpA K W vs ds ∧ Post K cl xc E W (f ds W.st) q
  | _, _, f, q, .nil, h => ⟨[], rfl, .nil, h⟩
  | x :: xs, _, f, q, .cons r t, h => by
    unfold asDs at h
    rw [M.bind_assoc] at h
    obtain ⟨y, rfl, hy, h⟩ := Post.asD r h
    rw [M.bind_assoc] at h
    obtain ⟨ds, rfl, hd, h⟩ := asDs_ok t h
    exact ⟨y :: ds, rfl, .cons hy hd, h⟩
theorem RpVs.ofD : ∀ {ds : List D} {vs : List V}, RpA K W vs ds → RpVs K W vs (ds.map Vl.d)
  | [], _, h => by cases h; exact .nil
  | d :: ds, _, h => by
    cases h with
    | cons r t => exact .cons r (RpVs.ofD t)
theorem spF_of {n : Nat} {φ : List Vl → M Vl} {xs : List Vl} {vs : List V} {Q : VK} (w : Wf K cl W) (r : RpVs K W vs xs) (hn : xs.length = n) (h : Post K cl xc E W (φ xs W.st) (QE K Q)) : spF K cl xc n φ vs W.H Q E :=
  ⟨xs, W, rfl, r, hn, w, h⟩
theorem spF_pure {n : Nat} {φ : List Vl → M Vl} {ds : List D} {vs : List V} {Q : VK} (w : Wf K cl W) (r : RpA K W vs ds) (hn : ds.length = n) (h : Post K cl xc E W (pureRun (φ (ds.map .d)) W.st) (QE K Q)) : spF K cl xc n φ vs W.H Q E := by
  refine ⟨ds.map .d, W.shut, rfl, RpVs.ofD (RpA.shut ds vs r), by simp [hn], w.shut, ?_⟩
  unfold pureRun at h
  have e0 : W.shut.st = [] := rfl
  rw [e0]
  cases e : φ (ds.map .d) [] with
  | no => rw [e] at h; exact h
  | ex c st =>
    rw [e] at h
    intro H m ex wf
    obtain ⟨e1, w1⟩ := shut_back w ex wf
    exact h H W.m e1 w1
  | ok z st =>
    cases z with
    | o i => rw [e] at h; exact h.elim
    | d x =>
      rw [e] at h
      intro H m ex wf v rv
      obtain ⟨e1, w1⟩ := shut_back w ex wf
      exact h H W.m e1 w1 v (Rp.opened x v rv)
end
end Dw

namespace Dw
open PySem L2
variable [Tb]
section
variable {K : PySem.W.Frag} {cl xc : Nat → Addr} {E : XK} {W W' : Wd}
/-! ### targets -/
structure Nms (N : List Str) (raw sc : Scope) (X : Cx) : Prop where
  hN : X.N = N
  nd : N.Nodup
  hsc : X.env.scope = sc
  calm : X.calm = true
  fn : ∀ x, locB raw x = true → X.fn x = true ∨ sc.names.lookup x = some .local
theorem loc_of {sc : Scope} {x : Str} (h : locB sc x = true) : L2.Loc sc x := by
  unfold locB at h
  unfold L2.Loc
  cases e : sc.names.lookup x with
  | none => rw [e] at h; cases h
  | some k =>
    rw [e] at h
    cases k <;> first
      | exact .inl rfl
      | exact .inr rfl
      | cases h
theorem vis_of {sc : Scope} {x : Str} (h : visB sc x = true) : Vis sc x := by
  unfold visB at h
  unfold Vis
  cases e : sc.names.lookup x with
  | none => rw [e] at h; cases h
  | some k =>
    rw [e] at h
    cases k <;> first
      | exact .inl rfl
      | exact .inr (.inl rfl)
      | exact .inr (.inr rfl)
      | cases h
theorem glo_of {X : Cx} {sc : Scope} {x : Str} (hs : X.env.scope = sc) (h : gloB sc x = true) : Gl X x := by
  show X.env.scope.names.lookup x = some .globalImplicit
  rw [hs]
  unfold gloB at h
  cases e : sc.names.lookup x with
  | none => rw [e] at h; cases h
  | some k =>
    rw [e] at h
    cases k <;> first
      | rfl
      | cases h
theorem okNm_of {x : Str} (h : okNm x = true) : (x == ("__debug__" : Str)) = false ∧ (x == ("__classdict__" : Str)) = false ∧ x ≠ ("__name__" : Str) := by
  unfold okNm at h
  simp only [Bool.and_eq_true, Bool.not_eq_true', beq_eq_false_iff_ne] at h
  exact ⟨beq_eq_false_iff_ne.mpr h.1.1, beq_eq_false_iff_ne.mpr h.1.2, h.2⟩
theorem each_len {env : PySem.Env} : ∀ es : List Expr, (assignEach es env).length = es.length
  | [] => rfl
  | e :: es => by cases e <;> simp [assignEach, each_len es]
def noStarT : Expr → Bool
  | .Starred .. => false | _ => true
theorem each_find {env : PySem.Env} : ∀ es : List Expr, (∀ e ∈ es, noStarT e = true) → (assignEach es env).findIdx? (·.1) = none
  | [], _ => rfl
  | e :: es, h => by
    have ih := each_find (env := env) es fun x hx => h x (List.mem_cons_of_mem _ hx)
    have h0 := h e List.mem_cons_self
    cases e <;> first
      | (simp only [assignEach, List.findIdx?_cons, ih]; rfl)
      | exact absurd h0 Bool.false_ne_true
theorem each_cons {e : Expr} {es : List Expr} {env : PySem.Env} (h : noStarT e = true) : (assignEach (e :: es) env).map (·.2) = assign e env :: (assignEach es env).map (·.2) := by
  cases e <;> first
    | rfl
    | cases h
variable {X : Cx} {N : List Str} {sc : Scope}
mutual
theorem tg_star : ∀ (t : Tg) (e : Expr), chkTg N sc t e = true → noStarT e = true
  | .nm i, e, h => by cases e <;> first | rfl | cases h
  | .tp ts, e, h => by cases e <;> first | rfl | cases h
theorem tgs_star : ∀ (t : Tgs) (es : List Expr), chkTg.chkTgs N sc t es = true → ∀ e ∈ es, noStarT e = true
  | .nil, [], _ => fun e he => absurd he List.not_mem_nil
  | .nil, e :: es, h => by cases h
  | .cons t r, [], h => by cases h
  | .cons t r, e :: es, h => by
    unfold chkTg.chkTgs at h
    rw [Bool.and_eq_true] at h
    intro x hx
    rcases List.mem_cons.mp hx with z | z
    · rw [z]; exact tg_star t e h.1
    · exact tgs_star r es h.2 x z
end
theorem tgs_len : ∀ (t : Tgs) (es : List Expr) (xs : List D) (env env' : Env), chkTg.chkTgs N sc t es = true → bindTs t xs env = some env' → xs.length = es.length
  | .nil, [], [], _, _, _, _ => rfl
  | .nil, [], _ :: _, _, _, _, h => by cases h
  | .nil, _ :: _, _, _, _, h, _ => by cases h
  | .cons _ _, [], _, _, _, h, _ => by cases h
  | .cons _ _, _ :: _, [], _, _, _, h => by cases h
  | .cons t r, e :: es, x :: xs, env, env', h, hn => by
    unfold chkTg.chkTgs at h
    rw [Bool.and_eq_true] at h
    unfold bindTs at hn
    cases q : bindT t (.d x) env with
    | none => rw [q] at hn; cases hn
    | some env1 =>
      rw [q] at hn
      have := tgs_len r es xs env1 env' h.2 hn
      simp [this]
theorem wipe_set {i : Nat} {o : Option V} : ∀ {own : List Nat} {σ : L2.St}, i ∈ own → L2.wipe (σ.set i o) own = L2.wipe σ own
  | v :: vs, σ, h => by
    unfold L2.wipe
    rcases List.mem_cons.mp h with z | z
    · subst z
      by_cases q : i ∈ vs
      · rw [wipe_set q]
      · have : ∀ (vs : List Nat), i ∉ vs → L2.wipe (σ.set i o) vs = (L2.wipe σ vs).set i o := by
          intro vs
          induction vs with
          | nil => intro _; rfl
          | cons w ws ih =>
            intro hn
            unfold L2.wipe
            rw [ih fun z => hn (List.mem_cons_of_mem _ z), List.set_comm _ _ fun z => hn (by rw [z]; exact List.mem_cons_self)]
        rw [this vs q, List.set_set]
    · rw [wipe_set z]
/-- a target's reading: the environment as bindT has it -/
def tG (K : PySem.W.Frag) (cl : Nat → Addr) (t : Tg) : TG := fun v σ H Q => ∃ env W x env', W.H = H ∧ EnvR K W σ env ∧ Wf K cl W ∧ RpV K W v x ∧ bindT t x env = some env' ∧ ∀ σ', EnvR K W σ' env' → (∀ own, tgIn own t = true → L2.wipe σ' own = L2.wipe σ own) → Q σ' H
def tGs (K : PySem.W.Frag) (cl : Nat → Addr) (t : Tgs) : TGs := fun vs σ H Q => ∃ env W xs env', W.H = H ∧ EnvR K W σ env ∧ Wf K cl W ∧ RpA K W vs xs ∧ bindTs t xs env = some env' ∧ ∀ σ', EnvR K W σ' env' → (∀ own, tgsIn own t = true → L2.wipe σ' own = L2.wipe σ own) → Q σ' H
variable {raw : Scope}
mutual
theorem snd_tg (n : Nms N raw sc X) : ∀ (t : Tg) (e : Expr), chkTg N sc t e = true → chkTg N raw t e = true → PG X e (tG X.K cl t)
  | .nm i, e, h, h' => by
    cases e with
    | Name x pos =>
      unfold chkTg at h h'
      rw [Bool.and_eq_true] at h h'
      have hi : X.N[i]? = some x := by rw [n.hN]; exact of_decide_eq_true (by simpa using h.1)
      refine PG.imp (pg_name (by rw [n.hN]; exact n.nd) hi (by rw [n.hsc]; exact loc_of h.2) (by rw [n.hsc]; exact n.fn x h'.2)) fun v σ H Q q => ?_
      obtain ⟨env, W, x', env', rfl, he, w, r, e, q⟩ := q
      cases e
      refine q _ (he.set i r) fun own ho => wipe_set ?_
      unfold tgIn at ho
      simpa using ho
    | _ => cases h
  | .tp ts, e, h, h' => by
    cases e with
    | Tuple es k pos =>
      unfold chkTg at h h'
      refine PG.imp (pg_tup (n := es.length) n.calm (snd_tgs n ts es h h') (each_len es) (each_find es (tgs_star ts es h))) fun v σ H Q q => ?_
      obtain ⟨env, W, x', env', rfl, he, w, r, e, q⟩ := q
      cases x' with
      | o i => cases e
      | d x' =>
        cases x' with
        | tuple xs =>
          cases r with
          | tup h1 h2 =>
            refine ⟨_, _, rfl, h1.sq, ?_, env, W, xs, env', rfl, he, w, h2, e, fun σ' h3 h4 => q σ' h3 fun own ho => h4 own (by unfold tgIn at ho; exact ho)⟩
            rw [h2.len]
            exact tgs_len ts es xs env env' h e
        | _ => cases e
    | _ => cases h
theorem snd_tgs (n : Nms N raw sc X) : ∀ (t : Tgs) (es : List Expr), chkTg.chkTgs N sc t es = true → chkTg.chkTgs N raw t es = true → PGs X es (tGs X.K cl t)
  | .nil, [], _, _ => PGs.imp pgs_nil fun v σ H Q q => by
    obtain ⟨env, W, xs, env', rfl, he, w, r, e, q⟩ := q
    cases xs with
    | nil => cases r; cases e; exact ⟨rfl, q σ he fun _ _ => rfl⟩
    | cons _ _ => cases e
  | .nil, _ :: _, h, _ => by cases h
  | .cons _ _, [], h, _ => by cases h
  | .cons t r, e :: es, h, h' => by
    unfold chkTg.chkTgs at h h'
    rw [Bool.and_eq_true] at h h'
    refine PGs.imp (pgs_cons (snd_tg n t e h.1 h'.1) (snd_tgs n r es h.2 h'.2) (each_cons (tg_star t e h.1))) fun v σ H Q q => ?_
    obtain ⟨env, W, xs, env', rfl, he, w, rr, eq, q⟩ := q
    cases xs with
    | nil => cases eq
    | cons x xs =>
      cases rr with
      | cons r1 r2 =>
        unfold bindTs at eq
        cases q1 : bindT t (.d x) env with
        | none => rw [q1] at eq; cases eq
        | some env1 =>
          rw [q1] at eq
          refine ⟨_, _, rfl, env, W, .d x, env1, rfl, he, w, r1, q1, fun σ' he' hw => ⟨env1, W, xs, env', rfl, he', w, r2, eq, fun σ'' h3 h4 => q σ'' h3 fun own ho => ?_⟩⟩
          unfold tgsIn at ho
          rw [Bool.and_eq_true] at ho
          rw [h4 own ho.2, hw own ho.1]
end
/-! ### what is walked -/
/-- J walks what the evaluator has found -/
def JOk (K : PySem.W.Frag) (cl : Nat → Addr) (W : Wd) (J : L2.It) : Wk → Prop
  | .its xs => ∀ W1, Ex2 W W1 → Wf K cl W1 → ∀ i, (∀ y, xs[i]? = some y → J.go i W1.H ∧ ∀ x H', J.yld i W1.H x H' → ∃ W2, W2.H = H' ∧ W2.st = W1.st ∧ W2.m = W1.m ∧ Ex W1 W2 ∧ Wf K cl W2 ∧ RpV K W2 x y) ∧ (xs.length = i → J.stop i W1.H)
  | .ob j => ∀ W1, Ex2 W W1 → Wf K cl W1 → ∀ i ds, W1.st[j]? = some (.lst ds) → (∀ y, ds[i]? = some y → J.go i W1.H ∧ ∀ x H', J.yld i W1.H x H' → H' = W1.H ∧ RpV K W1 x (.d y)) ∧ (ds.length ≤ i → J.stop i W1.H)
def tI (K : PySem.W.Frag) (cl xc : Nat → Addr) (E : XK) (f : Env → M Wk) : TI := fun σ H R => ∃ env W, W.H = H ∧ EnvR K W σ env ∧ Wf K cl W ∧ Post K cl xc E W (f env W.st) fun k W' => ∀ J, JOk K cl W' J k → R J W'.H
theorem jok_lst {a : Addr} {xs : List V} {ds : List D} (h : LstAt W a xs) (r : RpA K W xs ds) : JOk K cl W (Itl K a) (.its (ds.map .d)) := fun W1 e w i => by
  have h1 := h.mono2 e
  have r1 := RpA.mono2 e ds xs r
  refine ⟨fun y hy => ?_, fun hl => ⟨xs, h1.sq, by rw [r1.len, ← hl]; simp⟩⟩
  rw [List.getElem?_map] at hy
  cases hd : ds[i]? with
  | none => rw [hd] at hy; cases hy
  | some d =>
    rw [hd] at hy
    cases hy
    obtain ⟨v, g1, g2⟩ := r1.get hd
    refine ⟨⟨xs, v, h1.sq, g1⟩, fun x H' y => ?_⟩
    obtain ⟨rfl, y⟩ := y
    have := y xs h1.sq
    rw [g1] at this
    cases this
    exact ⟨W1, rfl, rfl, rfl, Ex.refl _, w, g2⟩
theorem jok_tup {a : Addr} {xs : List V} {ds : List D} (h : TupAt K W a xs) (r : RpA K W xs ds) : JOk K cl W (Itt K a) (.its (ds.map .d)) := fun W1 e w i => by
  have h1 := h.mono2 e
  have r1 := RpA.mono2 e ds xs r
  refine ⟨fun y hy => ?_, fun hl => ⟨xs, h1.sq, by rw [r1.len, ← hl]; simp⟩⟩
  rw [List.getElem?_map] at hy
  cases hd : ds[i]? with
  | none => rw [hd] at hy; cases hy
  | some d =>
    rw [hd] at hy
    cases hy
    obtain ⟨v, g1, g2⟩ := r1.get hd
    refine ⟨⟨xs, v, h1.sq, g1⟩, fun x H' y => ?_⟩
    obtain ⟨rfl, y⟩ := y
    have := y xs h1.sq
    rw [g1] at this
    cases this
    exact ⟨W1, rfl, rfl, rfl, Ex.refl _, w, g2⟩
theorem jok_str {z : Str} : JOk K cl W (Its z) (.its (z.cps.toList.map fun c => stV ⟨#[c]⟩)) := fun W1 e w i => by
  refine ⟨fun y hy => ?_, fun hl => by
    show z.cps.size ≤ i
    rw [← hl]; simp⟩
  rw [List.getElem?_map] at hy
  cases hd : z.cps.toList[i]? with
  | none => rw [hd] at hy; cases hy
  | some c =>
    rw [hd] at hy
    cases hy
    have hd' : z.cps[i]? = some c := by simpa using hd
    refine ⟨(Array.getElem?_eq_some_iff.mp hd').1, fun x H' y => ?_⟩
    obtain ⟨rfl, c', hc, rfl⟩ := y
    rw [hd'] at hc
    cases hc
    exact ⟨W1, rfl, rfl, rfl, Ex.refl _, w, .str _⟩
theorem jok_ob {a : Addr} {j : Nat} (hm : W.m[j]? = some a) : JOk K cl W (Itl K a) (.ob j) := fun W1 e w i ds hs => by
  obtain ⟨t, ht⟩ := e.m
  have hm1 : W1.m[j]? = some a := by rw [← ht, List.getElem?_append_left (List.getElem?_eq_some_iff.mp hm).1]; exact hm
  obtain ⟨xs, g1, g2⟩ := w.ob j a _ hm1 hs
  refine ⟨fun y hy => ?_, fun hl => ⟨xs, .inl (.inl g1), by rw [g2.len]; exact hl⟩⟩
  obtain ⟨v, k1, k2⟩ := g2.get hy
  refine ⟨⟨xs, v, .inl (.inl g1), k1⟩, fun x H' y => ?_⟩
  obtain ⟨rfl, y⟩ := y
  have := y xs (.inl (.inl g1))
  rw [k1] at this
  cases this
  exact ⟨rfl, k2⟩
theorem jok_range {lo : Int} {n : Nat} : JOk K cl W (Itr lo n) (.its (rangeD lo n)) := fun W1 e w i => by
  refine ⟨fun y hy => ?_, fun hl => by
    show n ≤ i
    rw [← hl]; simp [rangeD]⟩
  unfold rangeD at hy
  rw [List.getElem?_map] at hy
  cases hd : (List.range n)[i]? with
  | none => rw [hd] at hy; cases hy
  | some k =>
    rw [hd] at hy
    cases hy
    obtain ⟨h1, h2⟩ := List.getElem?_eq_some_iff.mp hd
    simp at h1 h2
    subst h2
    refine ⟨h1, fun x H' y => ?_⟩
    obtain ⟨rfl, rfl⟩ := y
    exact ⟨W1, rfl, rfl, rfl, Ex.refl _, w, .int _⟩
/-- a list or a tuple, as it stays -/
def SqF (K : PySem.W.Frag) (W : Wd) (t : Bool) (a : Addr) (xs : List V) : Prop := match t with
  | false => LstAt W a xs
  | true => TupAt K W a xs
theorem SqF.sq {t : Bool} {a : Addr} {xs : List V} (h : SqF K W t a xs) : SqK K t W.H a xs := by
  cases t with
  | false => exact LstAt.sq h
  | true => exact TupAt.sq h
theorem SqF.mono2 {t : Bool} {a : Addr} {xs : List V} (e : Ex2 W W') (h : SqF K W t a xs) : SqF K W' t a xs := by
  cases t with
  | false => exact LstAt.mono2 e h
  | true => exact TupAt.mono2 e h
theorem enumD_get : ∀ (ds : List D) (n i : Nat), (enumD n ds)[i]? = ds[i]?.map fun d => tuV [.int ((n + i : Nat) : Int), d]
  | [], _, _ => by simp [enumD]
  | d :: ds, n, 0 => by simp [enumD]
  | d :: ds, n, i + 1 => by
    simp only [enumD, List.getElem?_cons_succ, enumD_get ds (n + 1) i]
    congr 1
    funext d
    rw [show n + 1 + i = n + (i + 1) by omega]
theorem enumD_len : ∀ (ds : List D) (n : Nat), (enumD n ds).length = ds.length
  | [], _ => rfl
  | d :: ds, n => by simp [enumD, enumD_len ds (n + 1)]
theorem zipD_get : ∀ (xs ys : List D) (i : Nat) (v : Vl), (zipD xs ys)[i]? = some v → ∃ x y, xs[i]? = some x ∧ ys[i]? = some y ∧ v = tuV [x, y]
  | [], _, i, v, h => by simp [zipD] at h
  | _ :: _, [], i, v, h => by simp [zipD] at h
  | x :: xs, y :: ys, 0, v, h => by
    simp [zipD] at h
    exact ⟨x, y, rfl, rfl, h.symm⟩
  | x :: xs, y :: ys, i + 1, v, h => by
    simp only [zipD, List.getElem?_cons_succ] at h
    simpa using zipD_get xs ys i v h
theorem zipD_len : ∀ (xs ys : List D), (zipD xs ys).length = min xs.length ys.length
  | [], ys => by simp [zipD]
  | _ :: _, [] => by simp [zipD]
  | x :: xs, y :: ys => by simp [zipD, zipD_len xs ys]
theorem jok_enum {t : Bool} {a : Addr} {xs : List V} {ds : List D} (h : SqF K W t a xs) (r : RpA K W xs ds) : JOk K cl W (IteK K t a) (.its (enumD 0 ds)) := fun W1 e w i => by
  have h1 := h.mono2 e
  have r1 := RpA.mono2 e ds xs r
  refine ⟨fun y hy => ?_, fun hl => ⟨xs, h1.sq, by rw [r1.len, ← hl, enumD_len]⟩⟩
  rw [enumD_get] at hy
  cases hd : ds[i]? with
  | none => rw [hd] at hy; cases hy
  | some d =>
    rw [hd] at hy
    cases hy
    obtain ⟨v, g1, g2⟩ := r1.get hd
    refine ⟨⟨xs, v, h1.sq, g1⟩, fun x H' y => ?_⟩
    obtain ⟨T, z, rfl, hT, rfl, y⟩ := y
    have := y xs h1.sq
    rw [g1] at this
    cases this
    refine ⟨⟨upd W1.H T (.tup [.int (i : Nat), v]), W1.F, W1.m, W1.st⟩, rfl, rfl, rfl, Ex.new hT, w.new hT, ?_⟩
    have := rp_newTup (ds := [.int ((0 + i : Nat) : Int), d]) w hT (.cons (by simpa using Rp.int (K := K) (W := W1) ((i : Nat) : Int)) (.cons g2 .nil))
    exact this
theorem jok_zip {t u : Bool} {a b : Addr} {xs ys : List V} {ds es : List D} (h : SqF K W t a xs) (r : RpA K W xs ds) (h' : SqF K W u b ys) (r' : RpA K W ys es) : JOk K cl W (ItzK K t u a b) (.its (zipD ds es)) := fun W1 e w i => by
  have h1 := h.mono2 e
  have r1 := RpA.mono2 e ds xs r
  have h2 := h'.mono2 e
  have r2 := RpA.mono2 e es ys r'
  refine ⟨fun y hy => ?_, fun hl => ?_⟩
  · obtain ⟨d1, d2, e1, e2, rfl⟩ := zipD_get ds es i y hy
    obtain ⟨v, g1, g2⟩ := r1.get e1
    obtain ⟨v', k1, k2⟩ := r2.get e2
    refine ⟨⟨xs, ys, v, v', h1.sq, h2.sq, g1, k1⟩, fun x H' y => ?_⟩
    obtain ⟨T, z, z', rfl, hT, rfl, y1, y2⟩ := y
    have q1 := y1 xs h1.sq
    rw [g1] at q1
    cases q1
    have q2 := y2 ys h2.sq
    rw [k1] at q2
    cases q2
    exact ⟨⟨upd W1.H T (.tup [v, v']), W1.F, W1.m, W1.st⟩, rfl, rfl, rfl, Ex.new hT, w.new hT, rp_newTup (ds := [d1, d2]) w hT (.cons g2 (.cons k2 .nil))⟩
  · rw [zipD_len] at hl
    refine ⟨xs, ys, h1.sq, h2.sq, ?_⟩
    rw [r1.len, r2.len]
    omega
end
end Dw

namespace Dw
open PySem L2
variable [Tb]
section
variable {X : Cx} {cl xc : Nat → Addr} {E : XK} {k : Nat} {N : List Str} {sc : Scope}
theorem Cos.nms (c : Cos k N sc X E) : Nms N sc sc X := ⟨c.hN, c.nd, c.hsc, c.calm, c.fn⟩
theorem Cok.hu6 (c : Cok k N sc X E) : X.A.units + 66 < cLine := by have := c.room.un; omega
theorem Cok.hu1 (c : Cok k N sc X E) : X.A.units + 1 < cLine := by have := c.room.un; omega
theorem Cok.hu (c : Cok k N sc X E) : X.A.units + 65 < cLine := by have := c.room.un; omega
/-! ### operators -/
theorem tE_bin (f g : Env → M Vl) (h : Vl → Vl → M Vl) {r : R2} (ok : Ok2 X.K cl xc E h r) {σ : L2.St} {H : Hp} {Q : VK}
    (q : tE X.K cl xc E (fun env => do let x ← f env; let y ← g env; h x y) σ H Q) : tOp r (tE X.K cl xc E f) (tE X.K cl xc E g) σ H Q := by
  obtain ⟨env, W, rfl, he, w, p⟩ := q
  refine ⟨env, W, rfl, he, w, (Post.bind p).imp fun x W1 e1 w1 p1 v1 r1 => ?_⟩
  refine ⟨env, W1, rfl, he.mono e1, w1, (Post.bind p1).imp fun y W2 e2 w2 p2 v2 r2 => ?_⟩
  exact ok W2 x y v1 v2 Q w2 (r1.mono e2) r2 p2
theorem tE_cmp (f g : Env → M Vl) (h : Vl → Vl → M Bool) {r : R2} (ok : OkC X.K cl xc E h r) {σ : L2.St} {H : Hp} {Q : VK}
    (q : tE X.K cl xc E (fun env => do let x ← f env; let y ← g env; let c ← h x y; pure (blV c)) σ H Q) : tOp r (tE X.K cl xc E f) (tE X.K cl xc E g) σ H Q := by
  obtain ⟨env, W, rfl, he, w, p⟩ := q
  refine ⟨env, W, rfl, he, w, (Post.bind p).imp fun x W1 e1 w1 p1 v1 r1 => ?_⟩
  refine ⟨env, W1, rfl, he.mono e1, w1, (Post.bind p1).imp fun y W2 e2 w2 p2 v2 r2 => ?_⟩
  exact ok W2 x y v1 v2 Q w2 (r1.mono e2) r2 ((Post.bind p2).imp fun b W3 e3 w3 p3 => Post.pure w3 p3 (.bl b) (.bl b))
theorem tT_cmp (f g : Env → M Vl) (h : Vl → Vl → M Bool) {r : R2} (ok : OkC X.K cl xc E h r) {σ : L2.St} {H : Hp} {Q : Bool → Hp → Prop}
    (q : tT X.K cl xc E (fun env => (do let x ← f env; let y ← g env; let c ← h x y; pure (blV c)) >>= asB) σ H Q) : tTest (tOp r (tE X.K cl xc E f) (tE X.K cl xc E g)) σ H Q := by
  obtain ⟨env, W, rfl, he, w, p⟩ := q
  simp only [M.bind_assoc] at p
  refine ⟨env, W, rfl, he, w, (Post.bind p).imp fun x W1 e1 w1 p1 v1 r1 => ?_⟩
  refine ⟨env, W1, rfl, he.mono e1, w1, (Post.bind p1).imp fun y W2 e2 w2 p2 v2 r2 => ?_⟩
  exact ok W2 x y v1 v2 _ w2 (r1.mono e2) r2 ((Post.bind p2).imp fun b W3 e3 w3 p3 => ⟨b, rfl, Post.pure w3 p3⟩)
/-- a test by its value -/
theorem tT_val (f : Env → M Vl) {σ : L2.St} {H : Hp} {Q : Bool → Hp → Prop} (q : tT X.K cl xc E (fun env => f env >>= asB) σ H Q) : tB (tE X.K cl xc E f) σ H Q := by
  obtain ⟨env, W, rfl, he, w, p⟩ := q
  refine ⟨env, W, rfl, he, w, (Post.bind p).imp fun x W1 e1 w1 p1 v1 r1 => ?_⟩
  cases x with
  | o i => exact p1.elim
  | d x =>
    cases x with
    | bool b => cases r1; exact ⟨b, rfl, Post.pure w1 p1⟩
    | _ => exact p1.elim
theorem tE_chain (f g h : Env → M Vl) (c1 c2 : Vl → Vl → M Bool) {r1 r2 : R2} (ok1 : OkC X.K cl xc E c1 r1) (ok2 : OkC X.K cl xc E c2 r2) {σ : L2.St} {H : Hp} {Q : VK}
    (q : tE X.K cl xc E (fun env => do
      let x ← f env
      let y ← g env
      if ← c1 x y then
        let z ← h env
        let r ← c2 y z
        pure (blV r)
      else pure (blV false)) σ H Q) : tChain r1 r2 (tE X.K cl xc E f) (tE X.K cl xc E g) (tE X.K cl xc E h) σ H Q := by
  obtain ⟨env, W, rfl, he, w, p⟩ := q
  refine ⟨env, W, rfl, he, w, (Post.bind p).imp fun x W1 e1 w1 p1 v1 q1 => ?_⟩
  refine ⟨env, W1, rfl, he.mono e1, w1, (Post.bind p1).imp fun y W2 e2 w2 p2 v2 q2 => ?_⟩
  refine ok1 W2 x y v1 v2 _ w2 (q1.mono e2) q2 ((Post.bind p2).imp fun b W3 e3 w3 p3 => ⟨b, rfl, ?_⟩)
  cases b with
  | false => exact Post.pure w3 p3 (.bl false) (.bl false)
  | true =>
    refine ⟨env, W3, rfl, ((he.mono e1).mono e2).mono e3, w3, (Post.bind p3).imp fun z W4 e4 w4 p4 v4 q4 => ?_⟩
    exact ok2 W4 y z v2 v4 Q w4 ((q2.mono e3).mono e4) q4 ((Post.bind p4).imp fun b W5 e5 w5 p5 => Post.pure w5 p5 (.bl b) (.bl b))
theorem tT_chain (f g h : Env → M Vl) (c1 c2 : Vl → Vl → M Bool) {r1 r2 : R2} (ok1 : OkC X.K cl xc E c1 r1) (ok2 : OkC X.K cl xc E c2 r2) {σ : L2.St} {H : Hp} {Q : Bool → Hp → Prop}
    (q : tT X.K cl xc E (fun env => (do
      let x ← f env
      let y ← g env
      if ← c1 x y then
        let z ← h env
        let r ← c2 y z
        pure (blV r)
      else pure (blV false)) >>= asB) σ H Q) : tTest (tChain r1 r2 (tE X.K cl xc E f) (tE X.K cl xc E g) (tE X.K cl xc E h)) σ H Q := by
  obtain ⟨env, W, rfl, he, w, p⟩ := q
  simp only [M.bind_assoc] at p
  refine ⟨env, W, rfl, he, w, (Post.bind p).imp fun x W1 e1 w1 p1 v1 q1 => ?_⟩
  refine ⟨env, W1, rfl, he.mono e1, w1, (Post.bind p1).imp fun y W2 e2 w2 p2 v2 q2 => ?_⟩
  refine ok1 W2 x y v1 v2 _ w2 (q1.mono e2) q2 ((Post.bind p2).imp fun b W3 e3 w3 p3 => ⟨b, rfl, ?_⟩)
  cases b with
  | false => exact ⟨false, rfl, Post.pure w3 p3⟩
  | true =>
    simp only [if_true, M.bind_assoc] at p3
    refine ⟨env, W3, rfl, ((he.mono e1).mono e2).mono e3, w3, (Post.bind p3).imp fun z W4 e4 w4 p4 v4 q4 => ?_⟩
    exact ok2 W4 y z v2 v4 _ w4 ((q2.mono e3).mono e4) q4 ((Post.bind p4).imp fun b W5 e5 w5 p5 => ⟨b, rfl, Post.pure w5 p5⟩)
theorem tE_not (f : Env → M Vl) {σ : L2.St} {H : Hp} {Q : VK} (q : tE X.K cl xc E (fun env => do let c ← asB (← f env); pure (blV (!c))) σ H Q) : tNotV (tE X.K cl xc E f) σ H Q := by
  obtain ⟨env, W, rfl, he, w, p⟩ := q
  refine ⟨env, W, rfl, he, w, (Post.bind p).imp fun x W1 e1 w1 p1 v1 r1 => ?_⟩
  obtain ⟨b, rfl, rfl, p2⟩ := Post.asB r1 p1
  exact ⟨b, rfl, Post.pure w1 p2 (.bl (!b)) (.bl _)⟩
theorem tT_not (f : Env → M Vl) {σ : L2.St} {H : Hp} {Q : Bool → Hp → Prop} (q : tT X.K cl xc E (fun env => (do let c ← asB (← f env); pure (blV (!c))) >>= asB) σ H Q) : tNot (tT X.K cl xc E (fun env => f env >>= asB)) σ H Q := by
  obtain ⟨env, W, rfl, he, w, p⟩ := q
  refine ⟨env, W, rfl, he, w, ?_⟩
  simp only [M.bind_assoc] at p
  have p' : Post X.K cl xc E W (((f env >>= asB) >>= fun c => (pure (!c) : M Bool)) W.st) fun b W' => Q b W'.H := by
    simp only [M.bind_assoc]
    exact p
  exact (Post.bind p').imp fun b W1 e1 w1 p1 => Post.pure w1 p1
theorem tE_neg (f : Env → M Vl) {σ : L2.St} {H : Hp} {Q : VK} (q : tE X.K cl xc E (fun env => do let i ← asI (← f env); pure (Dw.inV (-i))) σ H Q) : tUn (rU fun i => .int (-i)) (tE X.K cl xc E f) σ H Q := by
  obtain ⟨env, W, rfl, he, w, p⟩ := q
  refine ⟨env, W, rfl, he, w, (Post.bind p).imp fun x W1 e1 w1 p1 v1 r1 => ?_⟩
  obtain ⟨i, rfl, rfl, p2⟩ := Post.asI r1 p1
  exact ⟨i, rfl, Post.pure w1 p2 (.int (-i)) (.int _)⟩
theorem tE_and (f g : Env → M Vl) {σ : L2.St} {H : Hp} {Q : VK} (q : tE X.K cl xc E (fun env => do if ← asB (← f env) then g env else pure (blV false)) σ H Q) : tAndV (tE X.K cl xc E f) (tE X.K cl xc E g) σ H Q := by
  obtain ⟨env, W, rfl, he, w, p⟩ := q
  refine ⟨env, W, rfl, he, w, (Post.bind p).imp fun x W1 e1 w1 p1 v1 r1 => ?_⟩
  obtain ⟨b, rfl, rfl, p2⟩ := Post.asB r1 p1
  refine ⟨b, rfl, ?_⟩
  cases b with
  | true => exact ⟨env, W1, rfl, he.mono e1, w1, p2⟩
  | false => exact Post.pure w1 p2 (.bl false) (.bl _)
theorem tE_or (f g : Env → M Vl) {σ : L2.St} {H : Hp} {Q : VK} (q : tE X.K cl xc E (fun env => do if ← asB (← f env) then pure (blV true) else g env) σ H Q) : tOrV (tE X.K cl xc E f) (tE X.K cl xc E g) σ H Q := by
  obtain ⟨env, W, rfl, he, w, p⟩ := q
  refine ⟨env, W, rfl, he, w, (Post.bind p).imp fun x W1 e1 w1 p1 v1 r1 => ?_⟩
  obtain ⟨b, rfl, rfl, p2⟩ := Post.asB r1 p1
  refine ⟨b, rfl, ?_⟩
  cases b with
  | false => exact ⟨env, W1, rfl, he.mono e1, w1, p2⟩
  | true => exact Post.pure w1 p2 (.bl true) (.bl _)
theorem tT_and (f g : Env → M Vl) {σ : L2.St} {H : Hp} {Q : Bool → Hp → Prop} (q : tT X.K cl xc E (fun env => (do if ← asB (← f env) then g env else pure (blV false)) >>= asB) σ H Q) :
    tAnd (tT X.K cl xc E (fun env => f env >>= asB)) (tT X.K cl xc E (fun env => g env >>= asB)) σ H Q := by
  obtain ⟨env, W, rfl, he, w, p⟩ := q
  have p' : Post X.K cl xc E W (((f env >>= asB) >>= fun c => (if c = true then g env else pure (blV false)) >>= asB) W.st) fun b W' => Q b W'.H := by
    simp only [M.bind_assoc] at p ⊢
    exact p
  refine ⟨env, W, rfl, he, w, (Post.bind p').imp fun b W1 e1 w1 p1 => ?_⟩
  cases b with
  | true => exact ⟨env, W1, rfl, he.mono e1, w1, p1⟩
  | false => exact Post.pure w1 p1
theorem tT_or (f g : Env → M Vl) {σ : L2.St} {H : Hp} {Q : Bool → Hp → Prop} (q : tT X.K cl xc E (fun env => (do if ← asB (← f env) then pure (blV true) else g env) >>= asB) σ H Q) :
    tOr (tT X.K cl xc E (fun env => f env >>= asB)) (tT X.K cl xc E (fun env => g env >>= asB)) σ H Q := by
  obtain ⟨env, W, rfl, he, w, p⟩ := q
  have p' : Post X.K cl xc E W (((f env >>= asB) >>= fun c => (if c = true then pure (blV true) else g env) >>= asB) W.st) fun b W' => Q b W'.H := by
    simp only [M.bind_assoc] at p ⊢
    exact p
  refine ⟨env, W, rfl, he, w, (Post.bind p').imp fun b W1 e1 w1 p1 => ?_⟩
  cases b with
  | false => exact ⟨env, W1, rfl, he.mono e1, w1, p1⟩
  | true => exact Post.pure w1 p1
/-! ### names -/
theorem tE_var (i : Nat) {σ : L2.St} {H : Hp} {Q : VK} (q : tE X.K cl xc E (fun env => getV env i) σ H Q) : tVar i σ H Q := by
  obtain ⟨env, W, rfl, he, w, p⟩ := q
  have p : Post X.K cl xc E W (getV env i W.st) _ := p
  unfold getV at p
  cases e : env[i]? with
  | none => rw [e] at p; exact p.elim
  | some o =>
    cases o with
    | none => rw [e] at p; exact p.elim
    | some x =>
      rw [e] at p
      obtain ⟨v, h1, h2⟩ := he.at_ i x e
      exact ⟨v, h1, Post.pure w p v h2⟩
theorem tE_const {z : Vl} {v : V} (r : ∀ W, RpV X.K W v z) {σ : L2.St} {H : Hp} {Q : VK} (q : tE X.K cl xc E (fun _ => pure z) σ H Q) : tC v σ H Q := by
  obtain ⟨env, W, rfl, he, w, p⟩ := q
  exact Post.pure w p v (r W)
/-! ### argument lists, displays -/
theorem tA_nil {σ : L2.St} {H : Hp} {Q : List V → Hp → Prop} (q : tA X.K cl xc E (fun _ => pure []) σ H Q) : tNil σ H Q := by
  obtain ⟨env, W, rfl, he, w, p⟩ := q
  exact Post.pure w p [] .nil
theorem tA_cons (f : Env → M Vl) (g : Env → M (List Vl)) {σ : L2.St} {H : Hp} {Q : List V → Hp → Prop} (q : tA X.K cl xc E (fun env => do let x ← f env; let xs ← g env; pure (x :: xs)) σ H Q) :
    tCons (tE X.K cl xc E f) (tA X.K cl xc E g) σ H Q := by
  obtain ⟨env, W, rfl, he, w, p⟩ := q
  refine ⟨env, W, rfl, he, w, (Post.bind p).imp fun x W1 e1 w1 p1 v1 r1 => ?_⟩
  exact ⟨env, W1, rfl, he.mono e1, w1, (Post.bind p1).imp fun xs W2 e2 w2 p2 vs r2 => Post.pure w2 p2 (v1 :: vs) (.cons (r1.mono e2) r2)⟩
theorem tE_tup (g : Env → M (List Vl)) {σ : L2.St} {H : Hp} {Q : VK} (q : tE X.K cl xc E (fun env => do let xs ← asDs (← g env); okS (decide (xs.length ≤ szLine)) (tuV xs)) σ H Q) : tTup (tA X.K cl xc E g) σ H Q := by
  obtain ⟨env, W, rfl, he, w, p⟩ := q
  refine ⟨env, W, rfl, he, w, (Post.bind p).imp fun xs W1 e1 w1 p1 vs rs => ?_⟩
  obtain ⟨ds, rfl, hd, p2⟩ := asDs_ok rs p1
  obtain ⟨hz, p2⟩ := Post.okP p2
  exact ⟨by rw [hd.len, ← szE]; exact of_decide_eq_true hz, fun a ha => Post.newTup w1 p2 hd ha⟩
/-- a new list, by its kind -/
theorem newL_ok {W : Wd} {mu : Bool} {xs : List V} {ds : List D} {Q : VK} (w : Wf X.K cl W) (r : RpA X.K W xs ds) (p : Post X.K cl xc E W (newL mu ds W.st) (QE X.K Q)) {a : Addr} (ha : W.H a = none) : Q (.ref a) (upd W.H a (.lst xs)) := by
  cases mu with
  | false => exact Post.newLst w p r ha
  | true =>
    have hk : ∀ b u, W.H b = some u → upd W.H a (.lst xs) b = some u := fun b u e => by rw [upd_ne (ne_of_none e ha)]; exact e
    have w' : Wf X.K cl ⟨upd W.H a (.lst xs), W.F, W.m ++ [a], W.st ++ [.lst ds]⟩ := w.newO ha hk ⟨xs, upd_same, RpA.mono (Ex.newO w ha hk) ds xs r⟩
    exact p (upd W.H a (.lst xs)) (W.m ++ [a]) (Ex.newO w ha hk) w' (.ref a) ⟨a, rfl, by
      show (W.m ++ [a])[W.st.length]? = some a
      rw [← w.len, List.getElem?_append_right (Nat.le_refl _)]
      simp⟩
theorem tE_lst (mu : Bool) (g : Env → M (List Vl)) {σ : L2.St} {H : Hp} {Q : VK} (q : tE X.K cl xc E (fun env => do let xs ← asDs (← g env); okS (decide (xs.length ≤ szLine)) (); newL mu xs) σ H Q) : tLst (tA X.K cl xc E g) σ H Q := by
  obtain ⟨env, W, rfl, he, w, p⟩ := q
  refine ⟨env, W, rfl, he, w, (Post.bind p).imp fun xs W1 e1 w1 p1 vs rs => ?_⟩
  obtain ⟨ds, rfl, hd, p2⟩ := asDs_ok rs p1
  obtain ⟨hz, p2⟩ := Post.okB p2
  exact ⟨by rw [hd.len, ← szE]; exact of_decide_eq_true hz, fun a ha => newL_ok w1 hd p2 ha⟩
/-! ### places, slices, built-ins -/
theorem tO_no {σ : L2.St} {H : Hp} {Q : Option Int → Hp → Prop} (q : tO X.K cl xc E (fun _ => pure none) σ H Q) : tNoPart σ H Q := by
  obtain ⟨env, W, rfl, he, w, p⟩ := q
  exact Post.pure w p
theorem tO_so (f : Env → M Vl) {σ : L2.St} {H : Hp} {Q : Option Int → Hp → Prop} (q : tO X.K cl xc E (fun env => do let i ← asI (← f env); pure (some i)) σ H Q) : tPart (tE X.K cl xc E f) σ H Q := by
  obtain ⟨env, W, rfl, he, w, p⟩ := q
  refine ⟨env, W, rfl, he, w, (Post.bind p).imp fun x W1 e1 w1 p1 v1 r1 => ?_⟩
  obtain ⟨i, rfl, rfl, p2⟩ := Post.asI r1 p1
  exact ⟨i, rfl, Post.pure w1 p2⟩
theorem tE_sl (f : Env → M Vl) (l h : Env → M (Option Int)) {σ : L2.St} {H : Hp} {Q : VK} (q : tE X.K cl xc E (fun env => do let x ← f env; let a ← l env; let b ← h env; slV x a b) σ H Q) :
    tSl (rSl X.K) (tE X.K cl xc E f) (tO X.K cl xc E l) (tO X.K cl xc E h) σ H Q := by
  obtain ⟨env, W, rfl, he, w, p⟩ := q
  refine ⟨env, W, rfl, he, w, (Post.bind p).imp fun x W1 e1 w1 p1 v1 r1 => ?_⟩
  refine ⟨env, W1, rfl, he.mono e1, w1, (Post.bind p1).imp fun lo W2 e2 w2 p2 => ?_⟩
  refine ⟨env, W2, rfl, (he.mono e1).mono e2, w2, (Post.bind p2).imp fun hi W3 e3 w3 p3 => ?_⟩
  exact ok_sl w3 ((r1.mono e2).mono e3) p3
theorem tE_bi (b : Bi) (g : Env → M (List Vl)) {σ : L2.St} {H : Hp} {Q : VK} (q : tE X.K cl xc E (fun env => do let vs ← g env; bi b vs) σ H Q) : tCB (BiR X.K b) (tA X.K cl xc E g) σ H Q := by
  obtain ⟨env, W, rfl, he, w, p⟩ := q
  exact ⟨env, W, rfl, he, w, (Post.bind p).imp fun xs W1 e1 w1 p1 vs rs => bi_ok b W1 xs vs Q w1 rs p1⟩
end
end Dw

namespace Dw
open PySem L2
variable [Tb]
theorem Phi_len {T : Nat → Option Fn} {k f n : Nat} {vs : List Vl} {s : Sto} (hn : npOf T f = some n) (h : Phi T k f vs s ≠ .no) : vs.length = n := by
  cases k with
  | zero => exact absurd rfl h
  | succ k =>
    cases e : T f with
    | none => unfold npOf at hn; rw [e] at hn; cases hn
    | some F =>
      unfold npOf at hn
      rw [e] at hn
      cases hn
      rw [Phi_succ e] at h
      unfold Fn.run at h
      by_cases q : vs.length = F.np
      · exact q
      · rw [if_neg q] at h; exact absurd rfl h
theorem Post.ne {K : PySem.W.Frag} {cl xc : Nat → Addr} {E : XK} {α : Type} {W : Wd} {r : R α} {q : α → Wd → Prop} (h : Post K cl xc E W r q) : r ≠ .no := by
  intro e; rw [e] at h; exact h
theorem pureRun_ne {m : M Vl} {s : Sto} (h : pureRun m s ≠ .no) : m [] ≠ .no := by
  intro e; unfold pureRun at h; rw [e] at h; exact h rfl
section
variable {X : Cx} {cl xc : Nat → Addr} {E : XK} {k : Nat} {N : List Str} {sc : Scope} {T : Nat → Option Fn}
theorem RpVs.nilr {K : PySem.W.Frag} {W : Wd} {vs : List V} {xs : List Vl} (h : RpVs K W vs xs) : RpVs K W (vs ++ []) xs := by rw [List.append_nil]; exact h
theorem Rv.d {K : PySem.W.Frag} {W : Wd} {vs : List V} {ds : List D} (h : RpA K W vs ds) : RpA K W (vs ++ []) ds := by rw [List.append_nil]; exact h
theorem tE_call {f n : Nat} (hn : npOf T f = some n) (g : Env → M (List Vl)) {σ : L2.St} {H : Hp} {Q : VK} (q : tE X.K cl xc E (fun env => do let vs ← g env; Phi T k f vs) σ H Q) :
    tCall (spF X.K cl xc n (Phi T k f)) [] E (tA X.K cl xc E g) σ H Q := by
  obtain ⟨env, W, rfl, he, w, p⟩ := q
  refine ⟨env, W, rfl, he, w, (Post.bind p).imp fun xs W1 e1 w1 p1 vs rs => ?_⟩
  exact spF_of w1 rs.nilr (Phi_len hn (Post.ne p1)) p1
theorem tE_callP {f n : Nat} (hn : npOf T f = some n) (g : Env → M (List Vl)) {σ : L2.St} {H : Hp} {Q : VK} (q : tE X.K cl xc E (fun env => do let vs ← g env; let xs ← asDs vs; pureRun (Phi T k f (xs.map .d))) σ H Q) :
    tCall (spF X.K cl xc n (Phi T k f)) [] E (tA X.K cl xc E g) σ H Q := by
  obtain ⟨env, W, rfl, he, w, p⟩ := q
  refine ⟨env, W, rfl, he, w, (Post.bind p).imp fun xs W1 e1 w1 p1 vs rs => ?_⟩
  obtain ⟨ds, rfl, hd, p2⟩ := asDs_ok rs p1
  have := Phi_len hn (pureRun_ne (Post.ne p2))
  exact spF_pure w1 (Rv.d hd) (by simpa using this) p2
theorem getOb_ok {α : Type} {K : PySem.W.Frag} {W : Wd} {v : V} {x : Vl} {f : Nat → M α} {q : α → Wd → Prop} (r : RpV K W v x) (h : Post K cl xc E W ((getOb x >>= f) W.st) q) : ∃ i a, x = .o i ∧ v = .ref a ∧ W.m[i]? = some a ∧ Post K cl xc E W (f i W.st) q := by
  cases x with
  | d x => exact h.elim
  | o i =>
    obtain ⟨a, h1, h2⟩ := r
    exact ⟨i, a, rfl, h1, h2, h⟩
theorem tE_meth {c f n : Nat} {m : Str} (hn : npOf T f = some n) (o : Env → M Vl) (g : Env → M (List Vl)) {σ : L2.St} {H : Hp} {Q : VK}
    (q : tE X.K cl xc E (fun env => do
      let v ← o env
      let i ← getOb v
      match ← getO i with
      | .ins c' fs =>
        if c' = c ∧ (fs.lookup m).isSome = false then
          let vs ← g env
          Phi T k f (v :: vs)
        else M.no
      | _ => M.no) σ H Q) : tMeth (cl c) m (spF X.K cl xc n (Phi T k f)) [] E (tE X.K cl xc E o) (tA X.K cl xc E g) σ H Q := by
  obtain ⟨env, W, rfl, he, w, p⟩ := q
  refine ⟨env, W, rfl, he, w, (Post.bind p).imp fun x W1 e1 w1 p1 v1 r1 => ?_⟩
  obtain ⟨i, a, rfl, rfl, hm, p2⟩ := getOb_ok r1 p1
  obtain ⟨ob, a', ho, hm', hr, p3⟩ := Post.getO w1 p2
  rw [hm] at hm'
  cases hm'
  cases ob with
  | ins c' fs =>
    dsimp only at p3
    by_cases hc : c' = c ∧ (fs.lookup m).isSome = false
    · rw [if_pos hc] at p3
      obtain ⟨hc, hl⟩ := hc
      subst hc
      obtain ⟨dx, gs, h1, h2⟩ := hr
      refine ⟨a, dx, gs, rfl, h1, ?_, env, W1, rfl, he.mono e1, w1, (Post.bind p3).imp fun xs W2 e2 w2 p4 vs rs => ?_⟩
      · rcases FsR.lookup m h2 with ⟨_, z⟩ | ⟨x, v, z, _, _⟩
        · exact z
        · rw [z] at hl; cases hl
      · exact spF_of w2 (.cons (r1.mono e2) rs.nilr) (Phi_len hn (Post.ne p4)) p4
    · rw [if_neg hc] at p3
      exact p3.elim
  | _ => exact p3.elim
theorem tE_make {c f n : Nat} (hn : npOf T f = some n) (g : Env → M (List Vl)) {σ : L2.St} {H : Hp} {Q : VK}
    (q : tE X.K cl xc E (fun env => do
      let vs ← g env
      let i ← newO (.ins c [])
      match ← Phi T k f (.o i :: vs) with
      | .d .none => pure (.o i)
      | _ => M.no) σ H Q) : tMake (cl c) (spF X.K cl xc n (Phi T k f)) [] E (tA X.K cl xc E g) σ H Q := by
  obtain ⟨env, W, rfl, he, w, p⟩ := q
  refine ⟨env, W, rfl, he, w, (Post.bind p).imp fun xs W1 e1 w1 p1 vs rs a dx ha hdx hne => ?_⟩
  have hk : ∀ b u, W1.H b = some u → upd (upd W1.H dx (.own a)) a (.ins (cl c) dx []) b = some u := fun b u e => by
    rw [upd_ne (ne_of_none e ha), upd_ne (ne_of_none e hdx)]; exact e
  have w' : Wf X.K cl ⟨upd (upd W1.H dx (.own a)) a (.ins (cl c) dx []), W1.F, W1.m ++ [a], W1.st ++ [.ins c []]⟩ := w1.newO ha hk ⟨dx, [], upd_same, .nil⟩
  have ex : Ex W1 ⟨upd (upd W1.H dx (.own a)) a (.ins (cl c) dx []), W1.F, W1.m ++ [a], W1.st ++ [.ins c []]⟩ := Ex.newO w1 ha hk
  have hma : (W1.m ++ [a])[W1.st.length]? = some a := by
    rw [← w1.len, List.getElem?_append_right (Nat.le_refl _)]
    simp
  have p2 := Post.from ex (Post.bind p1)
  have p3 : Post X.K cl xc E ⟨upd (upd W1.H dx (.own a)) a (.ins (cl c) dx []), W1.F, W1.m ++ [a], W1.st ++ [.ins c []]⟩ (((Phi T k f (.o W1.st.length :: xs)) >>= fun z => match z with
      | .d .none => (pure (.o W1.st.length) : M Vl)
      | _ => M.no) (W1.st ++ [.ins c []])) (QE X.K Q) := p2 _ _ (Ex.refl _) w'
  have p4 := Post.bind p3
  refine spF_of (W := ⟨upd (upd W1.H dx (.own a)) a (.ins (cl c) dx []), W1.F, W1.m ++ [a], W1.st ++ [.ins c []]⟩) w' (.cons (b := .o W1.st.length) (show RpV X.K _ (.ref a) (.o W1.st.length) from ⟨a, rfl, hma⟩) (rs.nilr.mono ex)) (Phi_len hn (Post.ne p4)) (p4.imp fun z W2 e2 w2 p5 v rv => ?_)
  cases z with
  | o j => exact p5.elim
  | d z =>
    cases z with
    | none =>
      cases rv
      refine ⟨rfl, Post.pure w2 p5 (.ref a) ⟨a, rfl, ?_⟩⟩
      obtain ⟨t, ht⟩ := e2.m
      rw [← ht, List.getElem?_append_left (List.getElem?_eq_some_iff.mp hma).1]
      exact hma
    | _ => exact p5.elim
theorem tE_attr {c : Nat} {f : Str} (hc : Cls X.K (cl c)) (hf : NoAttr X.K (cl c) f) (o : Env → M Vl) {σ : L2.St} {H : Hp} {Q : VK}
    (q : tE X.K cl xc E (fun env => do
      let i ← getOb (← o env)
      match ← getO i with
      | .ins c' fs => okS (decide (c' = c)) () >>= fun _ => match fs.lookup f with
        | some v => pure v
        | none => M.no
      | _ => M.no) σ H Q) : tFld X.K (tE X.K cl xc E o) f σ H Q := by
  obtain ⟨env, W, rfl, he, w, p⟩ := q
  refine ⟨env, W, rfl, he, w, (Post.bind p).imp fun x W1 e1 w1 p1 v1 r1 => ?_⟩
  obtain ⟨i, a, rfl, rfl, hm, p2⟩ := getOb_ok r1 p1
  obtain ⟨ob, a', ho, hm', hr, p3⟩ := Post.getO w1 p2
  rw [hm] at hm'
  cases hm'
  cases ob with
  | ins c' fs =>
    obtain ⟨hc', p4⟩ := Post.okB p3
    have hc' := of_decide_eq_true hc'
    subst hc'
    obtain ⟨dx, gs, h1, h2⟩ := hr
    rcases FsR.lookup f h2 with ⟨z, _⟩ | ⟨x, v, z, z2, z3⟩
    · rw [z] at p4; exact p4.elim
    · rw [z] at p4
      exact ⟨a, cl c', dx, gs, v, rfl, h1, hc, hf, z2, Post.pure w1 p4 v z3⟩
  | _ => exact p3.elim
/-- a list object made a list that stays -/
theorem tE_frz (f : Env → M Vl) {σ : L2.St} {H : Hp} {Q : VK} (q : tE X.K cl xc E (fun env => do let v ← f env; frzV v) σ H Q) : tE X.K cl xc E f σ H Q := by
  obtain ⟨env, W, rfl, he, w, p⟩ := q
  refine ⟨env, W, rfl, he, w, (Post.bind p).imp fun x W1 e1 w1 p1 v1 r1 => ?_⟩
  cases x with
  | d x => exact p1.elim
  | o i =>
    obtain ⟨a, rfl, hm⟩ := r1
    obtain ⟨ob, a', ho, hm', hr, p3⟩ := Post.getO (f := fun ob => match ob with
      | .lst xs => do
        setO i .dead
        pure (liV xs)
      | _ => M.no) w1 p1
    rw [hm] at hm'
    cases hm'
    cases ob with
    | lst ds =>
      obtain ⟨xs, h1, h2⟩ := hr
      have hd : isDead (.lst ds) = false := rfl
      have ex : Ex W1 ⟨W1.H, W1.F, W1.m, W1.st.set i .dead⟩ := Ex.set hm ho hd fun b u _ h => h
      have w' : Wf X.K cl ⟨W1.H, W1.F, W1.m, W1.st.set i .dead⟩ := w1.set (ob' := .dead) hm ho hd (fun b u _ h => h) True.intro
      have hf : ¬ W1.F a := w1.nf i a _ hm ho hd
      have hout : Out ⟨W1.H, W1.F, W1.m, W1.st.set i .dead⟩ a := by
        refine ⟨?_, hf⟩
        rintro ⟨j, o, g1, g2, g3⟩
        by_cases hj : i = j
        · subst hj
          rw [show (W1.st.set i .dead)[i]? = some .dead from List.getElem?_set_self (List.getElem?_eq_some_iff.mp ho).1] at g2
          cases g2
          cases g3
        · have g2 : (W1.st.set i .dead)[j]? = some o := g2
          rw [List.getElem?_set_ne hj] at g2
          exact hj (w1.inj i j a _ _ hm g1 ho g2 hd g3)
      exact p3 W1.H W1.m ex w' (.ref a) (.lst ⟨h1, hout⟩ (RpA.mono ex ds xs h2))
    | _ => exact p3.elim
end
section
variable {K : PySem.W.Frag} {cl xc : Nat → Addr} {E : XK}
/-- an attribute of an instance set -/
theorem setAt_ok {c i : Nat} {f : Str} {x : Vl} {v : V} {a : Addr} {W : Wd} {α : Type} {g : Unit → M α} {q : α → Wd → Prop} (w : Wf K cl W) (r : RpV K W v x) (hm : W.m[i]? = some a) (h : Post K cl xc E W ((setAt c i f x >>= g) W.st) q) :
    ∃ dx gs fs, W.H a = some (.ins (cl c) dx gs) ∧ gs.length < 1000 ∧ W.st[i]? = some (.ins c fs) ∧ Ex W ⟨upd W.H a (.ins (cl c) dx (L2.putF f v gs)), W.F, W.m, W.st.set i (.ins c (setAt.putF f x fs))⟩ ∧
      Wf K cl ⟨upd W.H a (.ins (cl c) dx (L2.putF f v gs)), W.F, W.m, W.st.set i (.ins c (setAt.putF f x fs))⟩ ∧ Post K cl xc E W (g () (W.st.set i (.ins c (setAt.putF f x fs)))) q := by
  unfold setAt at h
  rw [M.bind_assoc] at h
  obtain ⟨ob, a', ho, hm', hr, p3⟩ := Post.getO w h
  rw [hm] at hm'
  cases hm'
  cases ob with
  | ins c' fs =>
    rw [M.bind_assoc] at p3
    obtain ⟨hc, p4⟩ := Post.okB p3
    rw [Bool.and_eq_true] at hc
    have h1 := of_decide_eq_true hc.1
    have h2 := of_decide_eq_true hc.2
    subst h1
    obtain ⟨dx, gs, k1, k2⟩ := hr
    have hd : isDead (.ins c' fs) = false := rfl
    have hk : ∀ b u, b ≠ a → W.H b = some u → upd W.H a (.ins (cl c') dx (L2.putF f v gs)) b = some u := fun b u hb h => by rw [upd_ne hb]; exact h
    have ex : Ex W ⟨upd W.H a (.ins (cl c') dx (L2.putF f v gs)), W.F, W.m, W.st.set i (.ins c' (setAt.putF f x fs))⟩ := Ex.set hm ho hd hk
    refine ⟨dx, gs, fs, k1, by rw [← k2.len]; exact h2, ho, ex, w.set (ob' := .ins c' (setAt.putF f x fs)) hm ho hd hk ⟨dx, _, upd_same, FsR.mono ex (FsR.put f r k2)⟩, p4⟩
  | _ => exact p3.elim
end
end Dw

namespace Dw
open PySem L2
variable [Tb]
section
variable {X : Cx} {cl xc : Nat → Addr} {E : XK}
/-- xs.remove(z), a list of texts -/
def rRemT : V → List V → Hp → VK → Prop := fun x xs H Q => ∃ (a : Addr) (ys : List Str) (z : Str) (j : Nat), x = .ref a ∧ xs = [.str z] ∧ H a = some (.lst (ys.map V.str)) ∧ ys[j]? = some z ∧ (∀ m, m < j → ys[m]? ≠ some z) ∧ Q .non (upd H a (.lst ((ys.map V.str).eraseIdx j)))
theorem mt_remT : MtM X "list.remove" rRemT := by
  intro pins s σ H x xs v us Q I rx rxs h
  obtain ⟨a, ys, z, j, rfl, rfl, hH, hj, hno, q⟩ := h
  cases rx
  obtain ⟨u, rfl, t, rfl⟩ := Vals.one rxs
  obtain ⟨zl, its, n, r, hl, e⟩ := I.lstM hH
  have hs := vals_strs r
  have le := PyProof.Rows.StrsAre.len_eq hs
  rw [List.length_map] at hl zl
  have at_ : ∀ (m : Nat) (hm : m < its.toArray.size), ∃ y k, ys[m]? = some y ∧ its.toArray[m] = .str y k := fun m hm => by
    have hm2 : m < its.length := by simpa using hm
    obtain ⟨y, k, e1, e2⟩ := PyProof.Rows.StrsAre.item hs m its[m] (List.getElem?_eq_getElem hm2)
    exact ⟨y, k, e2, by simpa using e1⟩
  have jl : j < its.toArray.size := by
    have := (List.getElem?_eq_some_iff.mp hj).1
    rw [List.size_toArray]; omega
  refine call_meets PySem.F.slot_list_remove ⟨_, e, rfl⟩ PySem.F.entry_list_remove (PySem.F.args_list_remove_2 _ _) (MeetsSeq.list_remove a its.toArray n (.str z t) (PyProof.Rows.isStrOf z) (fun y hy => PyProof.Rows.eq_isStrOf z t hs y (by simpa using hy)) j jl ?_ (fun m hm hmj => ?_) (by rw [List.size_toArray]; omega)) ⟨e, .non, _, I.lset (its' := its.eraseIdx j) (t' := s.toks) hH e ?_ (r.eraseIdx j) ?_, rfl, q⟩
  · obtain ⟨y, k, e1, e2⟩ := at_ j jl
    rw [hj] at e1
    cases e1
    rw [e2]
    show (z == z) = true
    simp
  · obtain ⟨y, k, e1, e2⟩ := at_ m hm
    rw [e2]
    show (y == z) = false
    exact beq_eq_false_iff_ne.mpr fun c => hno m hmj (c ▸ e1)
  · show its.toArray.eraseIdxIfInBounds j = (its.eraseIdx j).toArray
    rw [List.eraseIdxIfInBounds_toArray]
  · have := List.length_eraseIdx_le (ys.map V.str) j
    rw [List.length_map] at this
    omega
def MtRd (K : PySem.W.Frag) : Mt → V → List V → Hp → VK → Prop
  | .append => rAppend
  | .extend => rExtend
  | .pop => rPop
  | .index => rIndexD K
  | .remove => rRemT
  | _ => fun _ _ _ _ => False
theorem setLst_ok {K : PySem.W.Frag} {W : Wd} {v : V} {x : Vl} {f : List D → M (Vl × List D)} {q : Vl → Wd → Prop} (w : Wf K cl W) (r : RpV K W v x) (h : Post K cl xc E W (setLst x f W.st) q) :
    ∃ i a ds xs, x = .o i ∧ v = .ref a ∧ W.m[i]? = some a ∧ W.st[i]? = some (.lst ds) ∧ W.H a = some (.lst xs) ∧ RpA K W xs ds ∧ Post K cl xc E W ((f ds >>= fun p => do setO i (.lst p.2); pure p.1) W.st) q := by
  cases x with
  | d x => exact h.elim
  | o i =>
    obtain ⟨a, rfl, hm⟩ := r
    obtain ⟨ob, a', ho, hm', hr, p3⟩ := Post.getO (f := fun ob => match ob with
      | .lst xs => do
        let (v, ys) ← f xs
        setO i (.lst ys)
        pure v
      | _ => M.no) w h
    rw [hm] at hm'
    cases hm'
    cases ob with
    | lst ds =>
      obtain ⟨xs, h1, h2⟩ := hr
      exact ⟨i, a, ds, xs, rfl, rfl, hm, ho, h1, h2, p3⟩
    | _ => exact p3.elim
/-- a list object changed -/
theorem chg_lst {K : PySem.W.Frag} {W : Wd} {i : Nat} {a : Addr} {ds es : List D} {xs ys : List V} (w : Wf K cl W) (hm : W.m[i]? = some a) (ho : W.st[i]? = some (.lst ds)) (h1 : W.H a = some (.lst xs)) (r : RpA K W ys es) :
    Ex W ⟨upd W.H a (.lst ys), W.F, W.m, W.st.set i (.lst es)⟩ ∧ Wf K cl ⟨upd W.H a (.lst ys), W.F, W.m, W.st.set i (.lst es)⟩ := by
  have hd : isDead (.lst ds) = false := rfl
  have hk : ∀ b u, b ≠ a → W.H b = some u → upd W.H a (.lst ys) b = some u := fun b u hb h => by rw [upd_ne hb]; exact h
  have ex : Ex W ⟨upd W.H a (.lst ys), W.F, W.m, W.st.set i (.lst es)⟩ := Ex.set hm ho hd hk
  exact ⟨ex, w.set (ob' := .lst es) hm ho hd hk ⟨ys, upd_same, RpA.mono ex es ys r⟩⟩
theorem firstAt_some : ∀ {x : D} {ds : List D} {b n : Nat}, firstAt x ds b = some n → ∃ j z, n = b + j ∧ ds[j]? = some z ∧ PyData.eqv z x = true ∧ ∀ (m : Nat) (z' : D), m < j → ds[m]? = some z' → PyData.eqv z' x = false
  | x, [], b, n, h => by cases h
  | x, y :: r, b, n, h => by
    unfold firstAt at h
    by_cases q : PyData.eqv y x = true
    · rw [if_pos q] at h
      cases h
      exact ⟨0, y, rfl, rfl, q, fun m z' hm => absurd hm (Nat.not_lt_zero _)⟩
    · rw [if_neg q] at h
      obtain ⟨j, z, h1, h2, h3, h4⟩ := firstAt_some h
      refine ⟨j + 1, z, by omega, h2, h3, fun m z' hm hz => ?_⟩
      cases m with
      | zero => cases hz; simpa using q
      | succ m => exact h4 m z' (by omega) hz
theorem RpA.erase {K : PySem.W.Frag} {W : Wd} : ∀ {vs : List V} {ds : List D} (n : Nat), RpA K W vs ds → RpA K W (vs.eraseIdx n) (ds.eraseIdx n)
  | _, [], n, h => by cases h; exact .nil
  | _, d :: ds, 0, h => by cases h with | cons r t => exact t
  | _, d :: ds, n + 1, h => by cases h with | cons r t => exact .cons r (RpA.erase n t)
theorem strsM_ok {K : PySem.W.Frag} {α : Type} {W : Wd} : ∀ {ds : List D} {vs : List V} {f : List Str → M α} {q : α → Wd → Prop}, RpA K W vs ds → Post K cl xc E W ((strsM ds >>= f) W.st) q → ∃ ns : List Str, vs = ns.map V.str ∧ ds = ns.map .str ∧ Post K cl xc E W (f ns W.st) q
  | [], _, f, q, r, h => by cases r; exact ⟨[], rfl, rfl, h⟩
  | d :: ds, _, f, q, r, h => by
    cases r with
    | cons r1 r2 =>
      cases d with
      | str i =>
        cases r1
        unfold strsM at h
        rw [M.bind_assoc] at h
        obtain ⟨ns, e1, e2, h⟩ := strsM_ok r2 h
        exact ⟨i :: ns, by rw [e1]; rfl, by rw [e2]; rfl, h⟩
      | _ => exact h.elim
theorem firstT_some : ∀ {z : Str} {ys : List Str} {b n : Nat}, firstT z ys b = some n → ∃ j, n = b + j ∧ ys[j]? = some z ∧ ∀ m, m < j → ys[m]? ≠ some z
  | z, [], b, n, h => by cases h
  | z, y :: r, b, n, h => by
    unfold firstT at h
    by_cases q : y = z
    · rw [if_pos q] at h
      cases h
      exact ⟨0, rfl, by rw [q]; rfl, fun m hm => absurd hm (Nat.not_lt_zero _)⟩
    · rw [if_neg q] at h
      obtain ⟨j, h1, h2, h3⟩ := firstT_some h
      refine ⟨j + 1, by omega, h2, fun m hm => ?_⟩
      cases m with
      | zero => simpa using q
      | succ m => exact h3 m (by omega)
theorem mt_ok (m : Mt) {W : Wd} {x : Vl} {xs : List Vl} {v : V} {vs : List V} {Q : VK} (w : Wf X.K cl W) (rx : RpV X.K W v x) (rs : RpVs X.K W vs xs) (h : Post X.K cl xc E W (mt m x xs W.st) (QE X.K Q)) : MtRd X.K m v vs W.H Q := by
  match m, xs, h with
  | .append, [y], h =>
    obtain ⟨u, rfl, ru⟩ := one_of rs
    obtain ⟨d, rfl, hd, h⟩ := Post.asD ru h
    obtain ⟨i, a, ds, zs, rfl, rfl, hm, ho, h1, h2, h3⟩ := setLst_ok w rx h
    cases hz : decide (ds.length < szLine) with
    | false => rw [hz] at h3; exact h3.elim
    | true =>
      rw [hz] at h3
      have hz := of_decide_eq_true hz
      obtain ⟨ex, w'⟩ := chg_lst w hm ho h1 (h2.append (.cons hd .nil))
      exact ⟨a, zs, u, rfl, rfl, h1, by rw [h2.len, ← szE]; exact hz, h3 _ _ ex w' .non .non⟩
  | .extend, [y], h =>
    obtain ⟨u, rfl, ru⟩ := one_of rs
    obtain ⟨b, ys, es, rfl, hb, rb, h, _⟩ := Post.lItems w ru h
    obtain ⟨i, a, ds, zs, rfl, rfl, hm, ho, h1, h2, h3⟩ := setLst_ok w rx h
    cases hz : decide (ds.length + es.length ≤ szLine) with
    | false => rw [hz] at h3; exact h3.elim
    | true =>
      rw [hz] at h3
      have hz := of_decide_eq_true hz
      obtain ⟨ex, w'⟩ := chg_lst w hm ho h1 (h2.append rb)
      exact ⟨a, b, zs, ys, rfl, rfl, h1, hb, by rw [h2.len, rb.len, ← szE]; exact hz, h3 _ _ ex w' .non .non⟩
  | .pop, [], h =>
    cases rs
    obtain ⟨i, a, ds, zs, rfl, rfl, hm, ho, h1, h2, h3⟩ := setLst_ok w rx h
    cases e : ds[ds.length - 1]? with
    | none => rw [e] at h3; exact h3.elim
    | some d =>
      rw [e] at h3
      obtain ⟨u, g1, g2⟩ := h2.get e
      obtain ⟨ex, w'⟩ := chg_lst w hm ho h1 h2.dropLast
      exact ⟨a, zs, u, rfl, rfl, h1, by rw [h2.len]; exact g1, h3 _ _ ex w' u (Rp.mono ex d u g2)⟩
  | .index, [y], h =>
    obtain ⟨u, rfl, ru⟩ := one_of rs
    obtain ⟨d, rfl, hd, h⟩ := Post.asD ru h
    obtain ⟨b, ys, es, rfl, hb, rb, h, _⟩ := Post.lItems w rx h
    obtain ⟨hs, h⟩ := Post.okB h
    rw [Bool.and_eq_true] at hs
    cases e : firstAt d es 0 with
    | none => rw [e] at h; exact h.elim
    | some n =>
      rw [e] at h
      obtain ⟨j, z, h1, h2, h3, h4⟩ := firstAt_some e
      refine ⟨b, u, d, es, j, z, rfl, rfl, .lst (.inl (.inl hb)) (RpA.dp es ys rb), Rp.dp d u hd, hs.2, hs.1, h2, h3, h4, ?_⟩
      rw [show (V.int (j : Nat)) = V.int ((n : Nat) : Int) by rw [h1]; simp]
      exact Post.val w h (.int _)
  | .append, [], h => exact h.elim
  | .append, _ :: _ :: _, h => exact h.elim
  | .extend, [], h => exact h.elim
  | .extend, _ :: _ :: _, h => exact h.elim
  | .pop, _ :: _, h => exact h.elim
  | .index, [], h => exact h.elim
  | .index, _ :: _ :: _, h => exact h.elim
  | .remove, [y], h =>
    obtain ⟨u, rfl, ru⟩ := one_of rs
    obtain ⟨d, rfl, hd, h⟩ := Post.asD ru h
    obtain ⟨i, a, ds, zs, rfl, rfl, hm, ho, h1, h2, h3⟩ := setLst_ok w rx h
    rw [M.bind_assoc] at h3
    obtain ⟨ys, rfl, ed, h3⟩ := strsM_ok h2 h3
    cases d with
    | str z =>
      cases hd
      cases en : firstT z ys 0 with
      | none => simp only [en] at h3; exact h3.elim
      | some n =>
        simp only [en] at h3
        obtain ⟨j, g1, g2, g3⟩ := firstT_some en
        simp only [Nat.zero_add] at g1
        subst g1
        obtain ⟨ex, w'⟩ := chg_lst (ys := (ys.map V.str).eraseIdx n) (es := ds.eraseIdx n) w hm ho h1 (h2.erase n)
        exact ⟨a, ys, z, n, rfl, rfl, h1, g2, g3, h3 _ _ ex w' .non .non⟩
    | _ => exact h3.elim
  | .remove, [], h => exact h.elim
  | .remove, _ :: _ :: _, h => exact h.elim
  | .count, _, h => exact h.elim
  | .join, _, h => exact h.elim
  | .split, _, h => exact h.elim
  | .upper, _, h => exact h.elim
  | .get, _, h => exact h.elim
theorem mtTy_ok {α : Type} {W : Wd} {x : Vl} {v : V} {f : Unit → M α} {q : α → Wd → Prop} (w : Wf X.K cl W) (r : RpV X.K W v x) (h : Post X.K cl xc E W ((mtTy x >>= f) W.st) q) : tyV X.K "list" v W.H ∧ Post X.K cl xc E W (f () W.st) q := by
  cases x with
  | d x =>
    cases x with
    | list ds =>
      cases r with
      | lst h1 h2 => exact ⟨.inl ⟨rfl, _, h1.sq⟩, h⟩
    | _ => exact h.elim
  | o i =>
    obtain ⟨a, rfl, hm⟩ := r
    unfold mtTy at h
    rw [M.bind_assoc] at h
    obtain ⟨ob, a', ho, hm', hr, p3⟩ := Post.getO w h
    rw [hm] at hm'
    cases hm'
    cases ob with
    | lst ds =>
      obtain ⟨xs, h1, h2⟩ := hr
      exact ⟨.inl ⟨rfl, xs, .inl (.inl h1)⟩, p3⟩
    | _ => exact p3.elim
theorem tE_mt (m : Mt) (o : Env → M Vl) (g : Env → M (List Vl)) {σ : L2.St} {H : Hp} {Q : VK} (q : tE X.K cl xc E (fun env => do
      let v ← o env
      mtTy v
      let vs ← g env
      mt m v vs) σ H Q) : tBM X.K "list" (MtRd X.K m) (tE X.K cl xc E o) (tA X.K cl xc E g) σ H Q := by
  obtain ⟨env, W, rfl, he, w, p⟩ := q
  refine ⟨env, W, rfl, he, w, (Post.bind p).imp fun x W1 e1 w1 p1 v1 r1 => ?_⟩
  obtain ⟨ty, p1⟩ := mtTy_ok w1 r1 p1
  refine ⟨ty, env, W1, rfl, he.mono e1, w1, (Post.bind p1).imp fun xs W2 e2 w2 p2 vs rs => ?_⟩
  exact mt_ok m w2 (r1.mono e2) rs p2
theorem tE_mt0 (m : Mt) (o : Env → M Vl) {σ : L2.St} {H : Hp} {Q : VK} (q : tE X.K cl xc E (fun env => do
      let v ← o env
      mtTy v
      let vs ← (pure [] : M (List Vl))
      mt m v vs) σ H Q) : tBM0 X.K "list" (MtRd X.K m) (tE X.K cl xc E o) σ H Q := by
  obtain ⟨env, W, rfl, he, w, p⟩ := q
  refine ⟨env, W, rfl, he, w, (Post.bind p).imp fun x W1 e1 w1 p1 v1 r1 => ?_⟩
  obtain ⟨ty, p1⟩ := mtTy_ok w1 r1 p1
  exact ⟨ty, mt_ok m w1 r1 .nil p1⟩
/-! ### isinstance -/
def tyVal : Str → Option String := fun t => if t = ("int" : Str) then some "int" else if t = ("bool" : Str) then some "bool" else if t = ("str" : Str) then some "str" else if t = ("tuple" : Str) then some "tuple" else if t = ("list" : Str) then some "list" else none
theorem tyx_of {K : PySem.W.Frag} {W : Wd} {v : V} {x : D} (r : Rp K W v x) : ∃ t, TyX K W.H v (.type t) ∧ ∀ ty n, tyVal ty = some n → PySem.W.kitOne K (.type t) (.type n) = some (tyIs x ty) := by
  have key : ∀ (x : D) (t : String), (∀ ty n, tyVal ty = some n → kitB t n = some (tyIs x ty)) → ∀ ty n, tyVal ty = some n → PySem.W.kitOne K (.type t) (.type n) = some (tyIs x ty) := fun x t h ty n e => kit_ty (h ty n e)
  have all : ∀ (x : D) (t : String), (kitB t "int" = some (tyIs x "int")) → (kitB t "bool" = some (tyIs x "bool")) → (kitB t "str" = some (tyIs x "str")) → (kitB t "tuple" = some (tyIs x "tuple")) → (kitB t "list" = some (tyIs x "list")) →
      ∀ ty n, tyVal ty = some n → kitB t n = some (tyIs x ty) := fun x t a b c d e ty n h => by
    unfold tyVal at h
    split at h
    · rename_i q; cases h; rw [q]; exact a
    · split at h
      · rename_i q; cases h; rw [q]; exact b
      · split at h
        · rename_i q; cases h; rw [q]; exact c
        · split at h
          · rename_i q; cases h; rw [q]; exact d
          · split at h
            · rename_i q; cases h; rw [q]; exact e
            · cases h
  have of : ∀ (x x0 : D) (t : String), (∀ ty, tyIs x ty = tyIs x0 ty) → (∀ ty n, tyVal ty = some n → kitB t n = some (tyIs x0 ty)) → ∀ ty n, tyVal ty = some n → PySem.W.kitOne K (.type t) (.type n) = some (tyIs x ty) :=
    fun x x0 t e h => key x t fun ty n q => by rw [e]; exact h ty n q
  cases r with
  | non => exact ⟨"NoneType", .base .non, of _ .none _ (fun _ => rfl) (all _ _ (by decide +kernel) (by decide +kernel) (by decide +kernel) (by decide +kernel) (by decide +kernel))⟩
  | bl b => exact ⟨"bool", .base (.bl b), of _ (.bool true) _ (fun _ => rfl) (all _ _ (by decide +kernel) (by decide +kernel) (by decide +kernel) (by decide +kernel) (by decide +kernel))⟩
  | int i => exact ⟨"int", .base (.int i), of _ (.int 0) _ (fun _ => rfl) (all _ _ (by decide +kernel) (by decide +kernel) (by decide +kernel) (by decide +kernel) (by decide +kernel))⟩
  | str z => exact ⟨"str", .base (.str z), of _ (.str "") _ (fun _ => rfl) (all _ _ (by decide +kernel) (by decide +kernel) (by decide +kernel) (by decide +kernel) (by decide +kernel))⟩
  | @tup a xs ds h1 h2 =>
    refine ⟨"tuple", ?_, of _ (.tuple []) _ (fun _ => rfl) (all _ _ (by decide +kernel) (by decide +kernel) (by decide +kernel) (by decide +kernel) (by decide +kernel))⟩
    rcases h1 with h1 | ⟨o, its, n, e, c, _⟩
    · exact .base (.tup h1.1)
    · exact .kTuple e c
  | @lst a xs ds h1 h2 => exact ⟨"list", .base (.lst h1.1), of _ (.list []) _ (fun _ => rfl) (all _ _ (by decide +kernel) (by decide +kernel) (by decide +kernel) (by decide +kernel) (by decide +kernel))⟩
theorem tE_isi {ty : Str} {n : String} (hty : tyVal ty = some n) (f : Env → M Vl) {σ : L2.St} {H : Hp} {Q : VK} (q : tE X.K cl xc E (fun env => do
      match ← f env with
      | .d x => pure (blV (tyIs x ty))
      | .o _ => M.no) σ H Q) : tCB (rIsi X.K) (tCons (tE X.K cl xc E f) (tCons (tC (.ty n)) tNil)) σ H Q := by
  obtain ⟨env, W, rfl, he, w, p⟩ := q
  refine ⟨env, W, rfl, he, w, (Post.bind p).imp fun x W1 e1 w1 p1 v1 r1 => ?_⟩
  cases x with
  | o i => exact p1.elim
  | d x =>
    obtain ⟨t, h1, h2⟩ := tyx_of r1
    exact ⟨v1, .ty n, .type t, .type n, tyIs x ty, rfl, .ty n, h1, h2 ty n hty, Post.val w1 p1 (.bl _)⟩
/-! ### sets, dicts -/
theorem rising_pair : ∀ {r : List Str} {p : Str}, PyProof.Rows.risingS p r = true → (p :: r).Pairwise fun a b : Str => a.cps.toList ≤ b.cps.toList
  | [], p, _ => by simp
  | x :: r, p, h => by
    have h : (!Spec.ltCps x.cps.toList p.cps.toList && PyProof.Rows.risingS x r) = true := h
    rw [Bool.and_eq_true] at h
    have ih := rising_pair h.2
    have h1 : p.cps.toList ≤ x.cps.toList := by
      have := h.1
      rw [PyProof.Rows.ltCps_eq] at this
      simpa using this
    refine List.pairwise_cons.mpr ⟨fun y hy => ?_, ih⟩
    rcases List.mem_cons.mp hy with z | z
    · rw [z]; exact h1
    · exact List.le_trans h1 (List.rel_of_pairwise_cons ih z)
theorem strs_sorted {ks ys : List Str} (p : ys.Perm ks) (s : PyProof.Rows.sortedS ys = true) : ys.map (PyData.str) = sortD (ks.map .str) := by
  refine sortD_eq (p.map _) ?_ ?_
  · rw [List.pairwise_map]
    cases ys with
    | nil => exact .nil
    | cons y r =>
      refine (rising_pair (p := y) (r := r) s).imp fun {a b} h => ?_
      rw [dle_str, decide_eq_false (List.not_lt.mpr h)]
      rfl
  · intro a ha b hb h1 h2
    obtain ⟨i, _, rfl⟩ := List.mem_map.mp ha
    obtain ⟨j, _, rfl⟩ := List.mem_map.mp hb
    rw [dle_str] at h1 h2
    have h1 : i.cps.toList ≤ j.cps.toList := by simpa using h1
    have h2 : j.cps.toList ≤ i.cps.toList := by simpa using h2
    rw [PySem.W.str_of_cps (List.le_antisymm h1 h2)]
theorem tE_setLen (f : Env → M Vl) {σ : L2.St} {H : Hp} {Q : VK} (q : tE X.K cl xc E (fun env => do
      let v ← f env
      setLen v) σ H Q) : tLenS X.K (tE X.K cl xc E f) σ H Q := by
  obtain ⟨env, W, rfl, he, w, p⟩ := q
  refine ⟨env, W, rfl, he, w, (Post.bind p).imp fun x W1 e1 w1 p1 v r => ?_⟩
  obtain ⟨a, xs, ds, rfl, ha, ra, h, _⟩ := Post.lItems w1 r p1
  have txt : Post X.K cl xc E W1 ((strsM ds >>= fun ss => okS (decide (ss.length ≤ 4000)) (Dw.inV (metS ss).length)) W1.st) (QE X.K Q) → ∃ l : Addr, V.ref a = V.ref l ∧ ((∃ xs : List Str, SqL X.K W1.H l (xs.map V.str) ∧ xs.length ≤ 4000 ∧ Q (.int (metS xs).length) W1.H) ∨ ∃ ns : List Int, SqL X.K W1.H l (ns.map V.int) ∧ ns.length ≤ 4000 ∧ Q (.int (metZ ns).length) W1.H) := fun h => by
    obtain ⟨ns, rfl, _, h⟩ := strsM_ok ra h
    obtain ⟨hz, h⟩ := Post.okP h
    exact ⟨a, rfl, .inl ⟨ns, .inl (.inl ha), of_decide_eq_true hz, Post.val w1 h (.int _)⟩⟩
  cases ds with
  | nil => exact txt h
  | cons d ds =>
    cases d with
    | int i =>
      obtain ⟨ns, rfl, h⟩ := intsM_ok ra h
      obtain ⟨hz, h⟩ := Post.okP h
      exact ⟨a, rfl, .inr ⟨ns, .inl (.inl ha), of_decide_eq_true hz, Post.val w1 h (.int _)⟩⟩
    | _ => exact txt h
theorem tE_setSrt (f : Env → M Vl) {σ : L2.St} {H : Hp} {Q : VK} (q : tE X.K cl xc E (fun env => do
      let v ← f env
      setSrt v) σ H Q) : tSortS X.K (tE X.K cl xc E f) σ H Q := by
  obtain ⟨env, W, rfl, he, w, p⟩ := q
  refine ⟨env, W, rfl, he, w, (Post.bind p).imp fun x W1 e1 w1 p1 v r => ?_⟩
  have gen : Post X.K cl xc E W1 ((lItems x >>= fun xs => strsM xs >>= fun ss => okS (decide (ss.length ≤ 4000)) (Dw.liV (sortD ((metS ss).map .str)))) W1.st) (QE X.K Q) → ∃ l : Addr, v = V.ref l ∧ ((∃ xs : List Str, SqL X.K W1.H l (xs.map V.str) ∧ xs.length ≤ 4000 ∧
      ∀ (ys : List Str) (p : Addr), ys.Perm (metS xs) → PyProof.Rows.sortedS ys = true → W1.H p = none → Q (.ref p) (upd W1.H p (.lst (ys.map V.str)))) ∨ ∃ ns : List Int, SqT X.K W1.H l (ns.map V.int) ∧ ns.length < 64 ∧
      ∀ (ms : List Int) (p : Addr), ms.Pairwise (· < ·) → (∀ k, k ∈ ms ↔ k ∈ ns) → W1.H p = none → Q (.ref p) (upd W1.H p (.lst (ms.map V.int)))) := fun h => by
    obtain ⟨a, xs, ds, rfl, ha, ra, h, _⟩ := Post.lItems w1 r h
    obtain ⟨ns, rfl, _, h⟩ := strsM_ok ra h
    obtain ⟨hz, h⟩ := Post.okP h
    refine ⟨a, rfl, .inl ⟨ns, .inl (.inl ha), of_decide_eq_true hz, fun ys b py sy hb => ?_⟩⟩
    rw [← strs_sorted py sy] at h
    exact Post.newLst w1 h (rpa_strs ys) hb
  cases x with
  | o i => exact gen p1
  | d x =>
    cases x with
    | tuple ds =>
      cases r with
      | tup h1 h2 =>
        obtain ⟨ns, rfl, h⟩ := intsM_ok h2 p1
        obtain ⟨hz, h⟩ := Post.okP h
        refine ⟨_, rfl, .inr ⟨ns, h1.sq, of_decide_eq_true hz, fun ms b pm em hb => ?_⟩⟩
        have pp : ms.Perm (metZ ns) := (List.perm_ext_iff_of_nodup (pm.imp fun h => Int.ne_of_lt h) (metZ_nd ns)).mpr fun k => (em k).trans (metZ_mem ns k).symm
        rw [← ints_sorted pp (pm.imp fun h => Int.le_of_lt h)] at h
        exact Post.newLst w1 h (rpa_ints ms) hb
    | _ => exact gen p1
/-- the pairs of a display -/
def trsOf (Φ : Nat → List Vl → M Vl) (K : PySem.W.Frag) (cl xc : Nat → Addr) (E : XK) : Ps → List (TE × TE)
  | .nil => []
  | .cons k v r => (tE K cl xc E (evE Φ k), tE K cl xc E (evE Φ v)) :: trsOf Φ K cl xc E r
def PRel (K : PySem.W.Frag) (W : Wd) : List (V × V) → List (Vl × Vl) → Prop := Paired fun p q => RpV K W p.1 q.1 ∧ RpV K W p.2 q.2
theorem PRel.mono {K : PySem.W.Frag} {W W' : Wd} (e : Ex W W') {ps : List (V × V)} {qs : List (Vl × Vl)} (h : PRel K W ps qs) : PRel K W' ps qs := Paired.imp (fun _ _ r => ⟨r.1.mono e, r.2.mono e⟩) h
theorem tPs_ok {Φ : Nat → List Vl → M Vl} {K : PySem.W.Frag} : ∀ (ps : Ps) {env : Env} {W : Wd} {σ : L2.St} {α : Type} {f : List (Vl × Vl) → M α} {q : α → Wd → Prop} {R : List (V × V) → Hp → Prop}, EnvR K W σ env → Wf K cl W →
    Post K cl xc E W ((evPs Φ ps env >>= f) W.st) q →
    (∀ W' vs xs, Ex W W' → Wf K cl W' → PRel K W' vs xs → Post K cl xc E W' (f xs W'.st) q → R vs W'.H) → tPairs (trsOf Φ K cl xc E ps) σ W.H R
  | .nil, env, W, σ, α, f, q, R, he, w, p, hR => by
    have p : Post K cl xc E W ((evPs Φ .nil env >>= f) W.st) q := p
    simp only [evPs] at p
    exact hR W [] [] (Ex.refl W) w .nil p
  | .cons a b r, env, W, σ, α, f, q, R, he, w, p, hR => by
    simp only [evPs, M.bind_assoc] at p
    refine ⟨env, W, rfl, he, w, (Post.bind p).imp fun x W1 e1 w1 p1 v1 r1 => ?_⟩
    refine ⟨env, W1, rfl, he.mono e1, w1, (Post.bind p1).imp fun y W2 e2 w2 p2 v2 r2 => ?_⟩
    refine tPs_ok r (he.mono (e1.trans e2)) w2 p2 fun W3 vs xs e3 w3 rel p3 => ?_
    simp only [M.pure_bind] at p3
    exact hR W3 ((v1, v2) :: vs) ((x, y) :: xs) ((e1.trans e2).trans e3) w3 (.cons ⟨r1.mono (e2.trans e3), r2.mono e3⟩ rel) p3
theorem keyPs_ok {K : PySem.W.Frag} {α : Type} {W : Wd} : ∀ {xs : List (Vl × Vl)} {vs : List (V × V)} {f : List (Key × Vl) → M α} {q : α → Wd → Prop}, PRel K W vs xs → Post K cl xc E W ((keyPs xs >>= f) W.st) q →
    ∃ (kvs : List (Key × Vl)) (gs : List (Key × V)), vs = gs.map (fun kv => (kV kv.1, kv.2)) ∧ KsR K W kvs gs ∧ Post K cl xc E W (f kvs W.st) q
  | [], _, f, q, .nil, h => ⟨[], [], rfl, .nil, h⟩
  | (x, y) :: xs, _, f, q, .cons r t, h => by
    unfold keyPs at h
    rw [M.bind_assoc] at h
    obtain ⟨d, rfl, hd, h⟩ := Post.asD r.1 h
    rw [M.bind_assoc] at h
    obtain ⟨k, ek, h⟩ := keyOf_ok hd h
    rw [M.bind_assoc] at h
    obtain ⟨kvs, gs, e1, e2, h⟩ := keyPs_ok t h
    refine ⟨(k, y) :: kvs, (k, _) :: gs, ?_, .cons ⟨rfl, r.2⟩ e2, h⟩
    rw [List.map_cons, ← e1, ← ek]
/-- a dict changed -/
theorem chg_dct {K : PySem.W.Frag} {W : Wd} {i : Nat} {a : Addr} {ks us : List (Key × Vl)} {gs fs : List (Key × V)} (w : Wf K cl W) (hm : W.m[i]? = some a) (ho : W.st[i]? = some (.dct ks)) (h1 : W.H a = some (.dK gs)) (r : KsR K W us fs) :
    Ex W ⟨upd W.H a (.dK fs), W.F, W.m, W.st.set i (.dct us)⟩ ∧ Wf K cl ⟨upd W.H a (.dK fs), W.F, W.m, W.st.set i (.dct us)⟩ := by
  have hd : isDead (.dct ks) = false := rfl
  have hk : ∀ b u, b ≠ a → W.H b = some u → upd W.H a (.dK fs) b = some u := fun b u hb h => by rw [upd_ne hb]; exact h
  have ex : Ex W ⟨upd W.H a (.dK fs), W.F, W.m, W.st.set i (.dct us)⟩ := Ex.set hm ho hd hk
  exact ⟨ex, w.set (ob' := .dct us) hm ho hd hk ⟨fs, upd_same, KsR.mono ex r⟩⟩
theorem tE_dic {Φ : Nat → List Vl → M Vl} (ps : Ps) {σ : L2.St} {H : Hp} {Q : VK} (q : tE X.K cl xc E (fun env => do
    let i ← Dw.newO (.dct [])
    let ps ← evPs Φ ps env
    match ← Dw.getO i with
    | .dct [] => do
      let kvs ← keyPs ps
      okS (decide (kvs.length ≤ 15)) () >>= fun _ => setO i (.dct (dMrg [] kvs)) >>= fun _ => pure (.o i)
    | _ => M.no) σ H Q) : tDisp (trsOf Φ X.K cl xc E ps) σ H Q := by
  obtain ⟨env, W, rfl, he, w, p⟩ := q
  intro a ha
  have hk : ∀ b u, W.H b = some u → upd W.H a (.dK []) b = some u := fun b u e => by rw [upd_ne (ne_of_none e ha)]; exact e
  have ex : Ex W ⟨upd W.H a (.dK []), W.F, W.m ++ [a], W.st ++ [.dct []]⟩ := Ex.newO w ha hk
  have w1 : Wf X.K cl ⟨upd W.H a (.dK []), W.F, W.m ++ [a], W.st ++ [.dct []]⟩ := w.newO ha hk ⟨[], upd_same, .nil⟩
  have p1 := Post.from ex (show Post X.K cl xc E W ((evPs Φ ps env >>= fun ps => Dw.getO W.st.length >>= fun o => match o with
    | .dct [] => do
      let kvs ← keyPs ps
      okS (decide (kvs.length ≤ 15)) () >>= fun _ => setO W.st.length (.dct (dMrg [] kvs)) >>= fun _ => (pure (Vl.o W.st.length) : M Vl)
    | _ => M.no) (W.st ++ [.dct []])) (QE X.K Q) from p)
  have hma : (W.m ++ [a])[W.st.length]? = some a := by rw [← w.len]; simp
  refine tPs_ok ps (he.mono ex) w1 p1 fun W2 vs xs e2 w2 rel p2 => ?_
  obtain ⟨ob, a', h1, h2, h3, p3⟩ := Post.getO w2 p2
  have hm2 : W2.m[W.st.length]? = some a := by
    obtain ⟨t, ht⟩ := e2.m
    rw [← ht, List.getElem?_append_left (List.getElem?_eq_some_iff.mp hma).1]
    exact hma
  rw [hm2] at h2
  cases h2
  cases ob with
  | dct ks =>
    cases ks with
    | nil =>
      obtain ⟨gs, g1, g2⟩ := h3
      cases g2
      obtain ⟨kvs, fs, rfl, k2, p3⟩ := keyPs_ok rel p3
      obtain ⟨hz, p3⟩ := Post.okB p3
      refine ⟨g1, fs, rfl, by rw [← KsR.len k2]; exact of_decide_eq_true hz, ?_⟩
      obtain ⟨ex3, w3⟩ := chg_dct (us := dMrg [] kvs) (fs := mergeK [] fs) w2 hm2 h1 g1 (KsR.mrg .nil k2)
      exact p3 _ _ ex3 w3 (.ref a) ⟨a, rfl, hm2⟩
    | cons _ _ => exact p3.elim
  | _ => exact p3.elim
theorem tE_dgt (o k d : Env → M Vl) {σ : L2.St} {H : Hp} {Q : VK} (q : tE X.K cl xc E (fun env => do
    let v ← o env
    let i ← getOb v
    match ← Dw.getO i with
    | .dct _ => do
      let x ← k env
      let z ← d env
      match ← Dw.getO i with
      | .dct kvs => do
        dgtV kvs (← asD x) z
      | _ => M.no
    | _ => M.no) σ H Q) : tDGet2N (tE X.K cl xc E o) (tE X.K cl xc E k) (tE X.K cl xc E d) σ H Q := by
  obtain ⟨env, W, rfl, he, w, p⟩ := q
  refine ⟨env, W, rfl, he, w, (Post.bind p).imp fun x W1 e1 w1 p1 v r => ?_⟩
  cases x with
  | d x => exact p1.elim
  | o i =>
    obtain ⟨a, rfl, hm⟩ := r
    simp only [getOb, M.pure_bind] at p1
    obtain ⟨ob, a', h1, h2, h3, p1⟩ := Post.getO w1 p1
    rw [hm] at h2
    cases h2
    cases ob with
    | dct kvs =>
      obtain ⟨gs, g1, g2⟩ := h3
      refine ⟨a, rfl, .inl ⟨gs, .inl g1⟩, env, W1, rfl, he.mono e1, w1, (Post.bind p1).imp fun x W2 e2 w2 p2 v2 r2 => ?_⟩
      refine ⟨env, W2, rfl, (he.mono e1).mono e2, w2, (Post.bind p2).imp fun z W3 e3 w3 p3 v3 r3 => ?_⟩
      obtain ⟨ob, a', h1, h2, h3, p3⟩ := Post.getO w3 p3
      have hm3 : W3.m[i]? = some a := by
        obtain ⟨t, ht⟩ := (e2.trans e3).m
        rw [← ht, List.getElem?_append_left (List.getElem?_eq_some_iff.mp hm).1]
        exact hm
      rw [hm3] at h2
      cases h2
      cases ob with
      | dct us =>
        obtain ⟨fs, f1, f2⟩ := h3
        simp only [M.bind_assoc] at p3
        obtain ⟨d, rfl, hd, p3⟩ := Post.asD (r2.mono e3) p3
        have p3 : Post X.K cl xc E W3 (dgtV us d z W3.st) _ := p3
        by_cases hnone : d = .none
        · subst hnone
          cases hd
          exact .inr ⟨rfl, ⟨fs, .inl f1⟩, Post.pure w3 p3 _ r3⟩
        have e0 : dgtV us d z = (keyOf d >>= fun k => pure ((dGet us k).getD z)) := by
          cases d <;> first | rfl | exact absurd rfl hnone
        rw [e0] at p3
        obtain ⟨k, rfl, p3⟩ := keyOf_ok hd p3
        refine .inl ⟨valV fs k, DGet.k f1, ?_⟩
        have gk := KsR.get f2 k
        cases e : dGet us k with
        | none =>
          rw [e] at gk p3
          rw [gk]
          exact Post.pure w3 p3 _ r3
        | some z =>
          rw [e] at gk p3
          obtain ⟨v, e1, e2⟩ := gk
          rw [e1]
          exact Post.pure w3 p3 _ e2
      | _ => exact p3.elim
    | _ => exact p1.elim
end
end Dw

namespace Dw
open PySem L2 PyProof.Rows
variable [Tb]
section
variable {X : Cx} {cl xc : Nat → Addr} {E : XK}
theorem ok_addM : Ok2 X.K cl xc E addMV rCat := by
  intro W x y vx vy Q w rx ry h
  unfold addMV at h
  obtain ⟨a, xs, ds, rfl, ha, ra, h, _⟩ := Post.lItems w rx h
  obtain ⟨b, ys, es, rfl, hb, rb, h, _⟩ := Post.lItems w ry h
  obtain ⟨hz, h⟩ := Post.okB h
  have hz := of_decide_eq_true hz
  exact ⟨a, b, xs, ys, rfl, rfl, ha, hb, by rw [ra.len, rb.len, ← szE]; exact hz, fun p hp => newL_ok (mu := true) w (ra.append rb) h hp⟩
/-! ### slices with a step -/
def rStpL (K : PySem.W.Frag) (lo : Option Int) (st : Int) : V → Hp → VK → Prop := fun x H Q => ∃ a xs, x = .ref a ∧ SqL K H a xs ∧ st ≠ 0 ∧ ∀ p, H p = none → Q (.ref p) (upd H p (.lst (stpD xs lo st)))
def rStpT (K : PySem.W.Frag) (lo : Option Int) (st : Int) : V → Hp → VK → Prop := fun x H Q => lo = none ∧ st = -1 ∧ ∃ a xs, x = .ref a ∧ SqT K H a xs ∧ ∀ p, H p = none → Q (.ref p) (upd H p (.tup xs.reverse))
def rStpS (lo : Option Int) (st : Int) : V → Hp → VK → Prop := fun x H Q => lo = none ∧ st = -1 ∧ ∃ z, x = .str z ∧ z.length ≤ sizeLine ∧ Q (.str (revS z)) H
def rStp (K : PySem.W.Frag) (lo : Option Int) (st : Int) : V → Hp → VK → Prop := fun x H Q => rStpL K lo st x H Q ∨ rStpT K lo st x H Q ∨ rStpS lo st x H Q
def tStp (r : V → Hp → VK → Prop) (te : TE) : TE := fun σ H Q => te σ H fun x H1 => r x H1 Q
theorem vals_pick {vs : List V} {us : List Value} (r : Vals vs us) (is : List Nat) : Vals (is.filterMap (vs[·]?)) (is.filterMap (us[·]?)) := by
  induction is with
  | nil => exact .nil
  | cons i is ih =>
    have hl := r.length
    cases e : vs[i]? with
    | none =>
      have e2 : us[i]? = none := by rw [List.getElem?_eq_none_iff] at e ⊢; omega
      rw [List.filterMap_cons, List.filterMap_cons, e, e2]
      exact ih
    | some v =>
      obtain ⟨u, h1, h2⟩ := r.get e
      rw [List.filterMap_cons, List.filterMap_cons, e, h1]
      exact .cons h2 ih
theorem RpA.pick {K : PySem.W.Frag} {W : Wd} {vs : List V} {ds : List D} (r : RpA K W vs ds) (is : List Nat) : RpA K W (is.filterMap (vs[·]?)) (is.filterMap (ds[·]?)) := by
  induction is with
  | nil => exact .nil
  | cons i is ih =>
    have hl := r.len
    cases e : ds[i]? with
    | none =>
      have e2 : vs[i]? = none := by rw [List.getElem?_eq_none_iff] at e ⊢; omega
      rw [List.filterMap_cons, List.filterMap_cons, e, e2]
      exact ih
    | some v =>
      obtain ⟨u, h1, h2⟩ := r.get e
      rw [List.filterMap_cons, List.filterMap_cons, e, h1]
      exact .cons h2 ih
theorem rangeRev (n : Nat) : (List.range n).map (fun (m : Nat) => (((n : Int) - 1) + (m : Int) * -1).toNat) = (List.range n).reverse := by
  apply List.ext_getElem
  · simp
  · intro i h1 h2
    simp at h1
    simp
    omega
theorem pick_rev {α : Type} (xs : List α) : (List.range xs.length).reverse.filterMap (xs[·]?) = xs.reverse := by
  rw [List.filterMap_reverse]
  congr 1
  induction xs with
  | nil => rfl
  | cons x xs ih =>
    rw [List.length_cons, List.range_succ_eq_map, List.filterMap_cons]
    simp only [List.length_cons, Nat.zero_lt_succ, List.getElem?_eq_getElem, List.getElem_cons_zero]
    rw [List.filterMap_map]
    congr 1
section
variable {prog : Program} {w : World} {A : Around} {XE : Value → Shared → Prop} {s : Shared}
theorem sliceApplied_rev {sl : Addr} {vl vu vs : Value} {n : Nat} {Q : Int × Int × Nat → Shared → Prop} (hs : s.heap.IsSliceOf sl vl vu vs) (pl : IsPart vl none) (pu : IsPart vu none) (ps : IsPart vs (some (-1)))
    (h : Q ((n : Int) - 1, -1, n) s) : wpAny (model prog w) A (Builtin.Slice.sliceApplied (.ref sl) (pure (n : Int))) Q XE s := by
  obtain ⟨os, hos, hcs, hds⟩ := id hs
  unfold Builtin.Slice.sliceApplied Builtin.Slice.sliceFields
  refine wpAny_bind (wpAny_bind (wpAny_field hos hds (x := vl) rfl (wpAny_bind (wpAny_field hos hds (x := vu) rfl (wpAny_bind (wpAny_field hos hds (x := vs) rfl (wpAny_pure ?_)))))))
  refine wpAny_bind (HT.slicePart_ ps ?_)
  show wpAny _ _ (if ((-1 : Int) == 0) = true then _ else _) _ _ s
  rw [if_neg (by decide)]
  refine wpAny_bind (HT.slicePart_ pl (wpAny_bind (HT.slicePart_ pu (wpAny_bind (wpAny_pure ?_)))))
  show wpAny _ _ (pure ((n : Int) - 1, (-1 : Int), Builtin.Slice.slicePlaces ((n : Int) - 1) (-1) (-1))) _ _ s
  have e : Builtin.Slice.slicePlaces ((n : Int) - 1) (-1) (-1) = n := by
    unfold Builtin.Slice.slicePlaces
    rw [if_neg (by decide)]
    simp only [Int.neg_neg, Int.ediv_one]
    split <;> omega
  rw [e]
  exact wpAny_pure h
theorem getItem_tuple_rev {t sl : Addr} {items : Array Value} {vl vu vs : Value} {Q : Value → Shared → Prop} (ht : IsTup s.heap t items) (hs : s.heap.IsSliceOf sl vl vu vs) (pl : IsPart vl none) (pu : IsPart vu none) (ps : IsPart vs (some (-1)))
    (h : Q (.ref s.heap.objs.size) { s with heap := s.heap.push { cls := .type "tuple", data := .seq items.toList.reverse.toArray } })
    (hsz : items.size ≤ sizeLine) : wpAny (model prog w) A (getItem (.ref t) (.ref sl)) Q XE s := by
  have htake : sizeOk (.seq items.toList.reverse.toArray) := by
    show items.toList.reverse.toArray.size ≤ sizeLine
    rw [List.size_toArray, List.length_reverse, Array.length_toList]
    exact hsz
  obtain ⟨os, hos, hcs, hds⟩ := id hs
  have hTs : s.TypeIs (.ref sl) "slice" := ⟨os, hos, hcs⟩
  unfold getItem
  try with_reducible refine wpAny_holding ?_
  first | refine wpAny_bind (wpAny_pure ?_) | skip
  refine wpAny_bind (wpAny_sequenceKey ht.typeIs (by decide) ?_)
  refine wpAny_bind (wpAny_callSpecial?_slot (name := Str.ofString "__getitem__") ht.typeIs PyProof.Rows.slot_tuple_getitem
    (wpAny_call_entry PyProof.Rows.slot_tuple_getitem ht.typeIs PyProof.Rows.entry_tuple_getitem ?_ (PyProof.Rows.args_tuple_getitem _ _)))
  show wpAny _ _ (Builtin.Tuple.tupleItemsOf (.ref t) >>= _) _ _ s
  refine wpAny_bind (PyProof.Rows.tupleItemsOf_ ht ?_)
  refine wpAny_bind (wpAny_typeOf hTs ?_)
  rw [if_pos (by decide)]
  refine wpAny_bind (sliceApplied_rev hs pl pu ps ?_)
  have hno : ¬ ((((items.size : Int) - 1) == 0 && (-1 : Int) == 1 && items.size == items.size) = true) := by simp
  show wpAny _ _ (if (((items.size : Int) - 1) == 0 && (-1 : Int) == 1 && items.size == items.size) = true then _ else _) _ _ s
  have e : ((List.range items.size).filterMap fun (m : Nat) => items[(((items.size : Int) - 1) + (m : Int) * -1).toNat]?) = items.toList.reverse := by
    have h1 := rangeRev items.size
    have h2 := pick_rev items.toList
    rw [Array.length_toList, ← h1, List.filterMap_map] at h2
    rw [← h2]
    congr 1
    funext m
    simp
  rw [if_neg hno, e]
  first
    | exact wpAny_bind (m := Builtin.Tuple.tupleExact _) (wpAny_newObj_type (wpAny_pure ⟨_, rfl, wpAny_pure h⟩) htake)
    | exact wpAny_bind (m := Builtin.Tuple.tupleExact _) (wpAny_newObj_type (wpAny_bind (wpAny_pure (wpAny_pure ⟨_, rfl, wpAny_pure h⟩))) htake)
    | exact wpAny_bind (wpAny_bind (m := Builtin.Tuple.tupleExact _) (wpAny_newObj_type (wpAny_pure (wpAny_pure ⟨_, rfl, wpAny_pure h⟩)) htake))
    | exact wpAny_bind (wpAny_bind (m := Builtin.Tuple.tupleExact _) (wpAny_newObj_type (wpAny_pure ⟨_, rfl, wpAny_pure h⟩) htake))
theorem sidx_rev (n : Nat) : Builtin.Str.strSliceIndices none none (-1) n = (List.range n).reverse := by
  show sliceRange ((n : Int) - 1) (-1) (-1) = _
  unfold sliceRange
  rw [if_neg (by decide)]
  have e : (if ((n : Int) - 1) > -1 then (((n : Int) - 1) - (-1) - (-1) - 1) / (-(-1)) else 0).toNat = n := by
    simp only [Int.neg_neg, Int.ediv_one]
    split <;> omega
  dsimp only
  rw [e, ← rangeRev n]
  apply List.map_congr_left
  intro m _
  congr 1
  omega
theorem getItem_str_rev {z : Str} {t : Tok} {sl : Addr} {vl vu vs : Value} {Q : Value → Shared → Prop} (hs : s.heap.IsSliceOf sl vl vu vs) (pl : IsPart vl none) (pu : IsPart vu none) (ps : IsPart vs (some (-1)))
    (h : Made.post (Made.str (revS z)) Q s) : wpAny (model prog w) A (getItem (.str z t) (.ref sl)) Q XE s := by
  obtain ⟨os, hos, hcs, hds⟩ := hs
  obtain ⟨l, rfl, el⟩ := IsPart.raw pl
  obtain ⟨u, rfl, eu⟩ := IsPart.raw pu
  obtain ⟨v, rfl, ev⟩ := IsPart.raw ps
  refine wpAny_getItem_str_slice (l := l) (u := u) (st := v) ⟨os, hos, hcs, hds⟩ (by rw [ev]; rfl) ?_
  have e : sliceMade z t l u v = Made.str (revS z) := by
    unfold sliceMade slicePicked revS
    rw [el, eu, ev]
    show (if ((-1 : Int) == 1 && _) = true then _ else Made.str ⟨((Builtin.Str.strSliceIndices none none (-1) z.length).filterMap (z.cps[·]?)).toArray⟩) = _
    rw [if_neg (by simp), sidx_rev]
    have := pick_rev z.cps.toList
    rw [← this]
    congr 3
    simp [Str.length]
  rw [e]
  exact h
end
theorem pe_stp {e z : Expr} {l : Option Expr} {lo : Option Int} {st : Int} {te : TE} {tl ts : TO} {p3 pos : Pos} (he : PE X e te) (hl : PO X l tl) (hs : PO X (some z) ts) (gl : ∀ σ H Q, Q lo H → tl σ H Q) (gs : ∀ σ H Q, Q (some st) H → ts σ H Q) :
    PE X (.Subscript e (.Slice l none (some z) p3) pos) (tStp (rStp X.K lo st) te) := by
  refine ⟨fun pins s σ H Q I h => ?_⟩
  refine Subscript_ (thn (he.run pins s σ H _ I h) fun v s1 ⟨x, H1, I1, r1, q1⟩ => ?_)
  refine wpAny_Slice (thn (hl.run pins s1 σ H1 (fun o H2 => o = lo ∧ H2 = H1) I1 (gl _ _ _ ⟨rfl, rfl⟩)) fun vl s2 ⟨l', H2, I2, pl, el, e2⟩ => ?_)
  subst el e2
  refine thn (po_none.run pins s2 σ H2 (fun o H3 => o = none ∧ H3 = H2) I2 ⟨rfl, rfl⟩) fun vu s3 ⟨u, H3, I3, pu, eu, e3⟩ => ?_
  subst eu e3
  refine thn (hs.run pins s3 σ H3 (fun o H4 => o = some st ∧ H4 = H3) I3 (gs _ _ _ ⟨rfl, rfl⟩)) fun vs s4 ⟨o, H4, I4, ps, eo, e4⟩ => ?_
  subst eo e4
  have I5 : Inv X pins σ H4 { s4 with heap := s4.heap.push { cls := .type "slice", data := .fields #[vl, vu, vs] } } := I4.kept (t' := s4.toks) fun b ob q => Heap.get?_push_of_some _ q
  rcases q1 with ⟨a, xs, ex, hx, h0, q⟩ | ⟨rfl, rfl, a, xs, ex, hx, q⟩ | ⟨rfl, rfl, z, ex, hz, q⟩
  case' inr.inl =>
    subst ex
    cases r1
    obtain ⟨its, r, ht, hz⟩ := I5.tuple hx
    have hlen : its.toArray.size = xs.length := by rw [List.size_toArray]; exact r.length.symm
    refine tail_any (ops := [.ref a, .ref s4.heap.objs.size]) ht.typeIs PyProof.Rows.slot_tuple_getitem.lookup ?_ (by with_unfolding_all rfl)
    refine getItem_tuple_rev ht (Heap.IsSliceOf.new _ vl vu vs) pl pu ps ?_ (by rw [hlen]; exact hz)
    refine ⟨.ref _, _, I5.laid (t' := s4.toks) (o := .tup xs.reverse) (fun b ob q => Heap.get?_push_of_some _ q) (Nat.le_refl _) ?_, rfl, q _ (I5.hok.fresh (Nat.le_refl _))⟩
    exact ⟨by rw [List.length_reverse]; exact hz, _, r.reverse, IsTup.new _ _⟩
  case' inr.inr =>
    subst ex
    obtain ⟨t, rfl⟩ := r1
    refine tail_any (ops := [.str z t, .ref s4.heap.objs.size]) (typeIs_str _ _ _) F.slot_str_getitem.lookup ?_ (by with_unfolding_all rfl)
    refine getItem_str_rev (Heap.IsSliceOf.new _ vl vu vs) pl pu ps ?_
    exact ⟨by show (revS z).length ≤ sizeLine; unfold revS Str.length; simpa [Str.length] using hz, .str _, _, I5.tok _, ⟨_, rfl⟩, q⟩
  subst ex
  cases r1
  obtain ⟨its, r, ht, hz⟩ := I5.list hx
  have hlen := r.length
  show wpAny (model X.prog X.w) X.A (subscriptTail e (.Slice l none (some z) p3) (.ref a) (.ref s4.heap.objs.size)) (EP X pins σ Q) X.xe { s4 with heap := s4.heap.push { cls := .type "slice", data := .fields #[vl, vu, vs] } }
  refine tail_any (ops := [.ref a, .ref s4.heap.objs.size]) ht.isList.typeIs (PySem.slot_list_getitem.lookup) ?_ (by with_unfolding_all rfl)
  refine wpAny_getItem_list_slice ht.isList (Heap.IsSliceOf.new _ vl vu vs) pl pu ps (fun z => h0 (Option.some.inj z)) ?_ (by rw [List.size_toArray]; omega)
  have hpk : slicePick its.toArray l' none (some st) = (stpD its l' st).toArray := by
    unfold slicePick stpD
    simp
  have hsz := slicePick_size_le its.toArray l' none (some st)
  rw [hpk] at hsz ⊢
  have rv : Vals (stpD xs l' st) (stpD its l' st) := by
    unfold stpD
    rw [hlen]
    exact vals_pick r _
  refine ⟨.ref _, _, I5.laid (t' := s4.toks) (o := .lst (stpD xs l' st)) (fun b ob q => Heap.get?_push_of_some _ q) (Nat.le_refl _) ?_, rfl, q _ (I5.hok.fresh (Nat.le_refl _))⟩
  refine ⟨?_, _, 0, rv, Heap.get?_push_size _ rfl⟩
  have := rv.length
  simp only [List.size_toArray] at hsz
  omega
theorem tE_stp {lo : Option Int} {st : Int} (f : Env → M Vl) {σ : L2.St} {H : Hp} {Q : VK} (q : tE X.K cl xc E (fun env => do let x ← f env; stpV x lo st) σ H Q) : tStp (rStp X.K lo st) (tE X.K cl xc E f) σ H Q := by
  obtain ⟨env, W, rfl, he, w, p⟩ := q
  refine ⟨env, W, rfl, he, w, (Post.bind p).imp fun x W1 e1 w1 p1 v1 r1 => ?_⟩
  have lst : Post X.K cl xc E W1 (stpL x lo st W1.st) (QE X.K Q) → rStp X.K lo st v1 W1.H Q := fun p1 => by
    unfold stpL at p1
    obtain ⟨a, xs, ds, rfl, ha, ra, h, _⟩ := Post.lItems w1 r1 p1
    obtain ⟨h0, h⟩ := Post.okP h
    refine .inl ⟨a, xs, rfl, .inl (.inl ha), of_decide_eq_true h0, fun p hp => Post.newLst w1 h ?_ hp⟩
    unfold stpD
    rw [ra.len]
    exact ra.pick _
  cases x with
  | o i => exact lst p1
  | d x =>
    cases x with
    | tuple ds =>
      cases r1 with
      | tup g1 g2 =>
        obtain ⟨h0, h⟩ := Post.okP p1
        simp only [Bool.and_eq_true, decide_eq_true_eq] at h0
        exact .inr (.inl ⟨h0.1, h0.2, _, _, rfl, g1.sq, fun p hp => Post.newTup w1 h g2.rev hp⟩)
    | str z =>
      cases r1
      obtain ⟨h0, h⟩ := Post.okP p1
      simp only [Bool.and_eq_true, decide_eq_true_eq] at h0
      exact .inr (.inr ⟨h0.1.1, h0.1.2, z, rfl, by rw [← szE]; exact h0.2, Post.val w1 h (.str _)⟩)
    | _ => exact lst p1
/-! ### attributes as targets -/
def gFld (K : PySem.W.Frag) (to : TE) (f : Str) : TG := fun v σ H Q => to σ H fun x H1 => ∃ a C dx fs, x = .ref a ∧ H1 a = some (.ins C dx fs) ∧ L2.Cls K C ∧ NoAttr K C f ∧ fs.length < 1000 ∧ Q σ (upd H1 a (.ins C dx (L2.putF f v fs)))
theorem pg_fld {o : Expr} {f : Str} {to : TE} {pos : Pos} (ho : PE X o to) : PG X (.Attribute o f pos) (gFld X.K to f) := by
  refine ⟨fun pins s σ H v u Q I r h => ?_⟩
  rw [assign_Attribute]
  refine wpAny_bind (wpAny_holding (thn (ho.run pins s σ H _ I h) fun ov s1 ⟨x, H1, I1, r1, q1⟩ => ?_))
  obtain ⟨a, C, dx, fs, rfl, ea, c, n, l, q⟩ := q1
  cases r1
  exact wpAny_bind (wpAny_standAt (wpAny_bind (wpAny_holding (setattr_ok I1 ea c n l r fun s2 I2 => wpAny_release ⟨σ, _, I2, q⟩))))
variable {N : List Str} {sc : Scope}
/-- a row of them -/
def tGf (K : PySem.W.Frag) (cl xc : Nat → Addr) (E : XK) (c i : Nat) (fs : List Str) : TGs := fun vs σ H Q => ∃ env W xs, W.H = H ∧ EnvR K W σ env ∧ Wf K cl W ∧ RpA K W vs xs ∧ Post K cl xc E W ((getV env i >>= getOb >>= fun j => setAts c j fs xs) W.st) fun _ W' => Q σ W'.H
theorem getV_ok {K : PySem.W.Frag} {W : Wd} {σ : L2.St} {env : Env} {i : Nat} {α : Type} {f : Vl → M α} {q : α → Wd → Prop} (he : EnvR K W σ env) (h : Post K cl xc E W ((getV env i >>= f) W.st) q) : ∃ x v, σ[i]? = some (some v) ∧ RpV K W v x ∧ Post K cl xc E W (f x W.st) q ∧ env[i]? = some (some x) := by
  unfold getV at h
  cases e : env[i]? with
  | none => rw [e] at h; exact h.elim
  | some o =>
    cases o with
    | none => rw [e] at h; exact h.elim
    | some x =>
      rw [e] at h
      obtain ⟨v, h1, h2⟩ := he.at_ i x e
      exact ⟨x, v, h1, h2, h, rfl⟩
theorem fld_len : ∀ {x : Str} {fs : List Str} {es : List Expr}, fldC x fs es = true → fs.length = es.length
  | _, [], [], _ => rfl
  | _, [], _ :: _, h => by cases h
  | _, _ :: _, [], h => by cases h
  | x, f :: fs, e :: es, h => by
    unfold fldC at h
    split at h
    · rename_i heq1 heq2; cases heq1
    · rename_i heq1 heq2
      cases heq1; cases heq2
      simp only [Bool.and_eq_true] at h
      simp [fld_len h.2]
    · cases h
theorem fld_star : ∀ {x : Str} {fs : List Str} {es : List Expr}, fldC x fs es = true → ∀ e ∈ es, noStarT e = true
  | _, [], [], _, e, he => by cases he
  | _, [], _ :: _, h, _, _ => by cases h
  | _, _ :: _, [], h, _, _ => by cases h
  | x, f :: fs, e0 :: es, h, e, he => by
    unfold fldC at h
    split at h
    · rename_i heq1 heq2; cases heq1
    · rename_i heq1 heq2
      cases heq1; cases heq2
      simp only [Bool.and_eq_true] at h
      rcases List.mem_cons.mp he with z | z
      · rw [z]; rfl
      · exact fld_star h.2 e z
    · cases h
theorem snd_flds {c i : Nat} {x : Str} (hN : X.N[i]? = some x) (hv : Vis X.env.scope x) (n1 : (x == ("__debug__" : Str)) = false) (n2 : (x == ("__classdict__" : Str)) = false) (hc : L2.Cls X.K (cl c)) : ∀ (fs : List Str) (es : List Expr), fldC x fs es = true → (∀ f ∈ fs, NoAttr X.K (cl c) f) →
    PGs X es (tGf X.K cl xc E c i fs)
  | [], [], _, _ => PGs.imp pgs_nil fun vs σ H Q q => by
    obtain ⟨env, W, xs, rfl, he, w, r, p⟩ := q
    rw [M.bind_assoc] at p
    obtain ⟨y, v, h1, h2, p, _⟩ := getV_ok he p
    obtain ⟨j, a, rfl, rfl, hm, p⟩ := getOb_ok h2 p
    cases xs with
    | nil => cases r; exact ⟨rfl, Post.pure w p⟩
    | cons _ _ => exact p.elim
  | [], _ :: _, h, _ => by cases h
  | _ :: _, [], h, _ => by cases h
  | f :: fs, e0 :: es, h, hf => by
    unfold fldC at h
    split at h
    · rename_i heq1 heq2; cases heq1
    · rename_i heq1 heq2
      cases heq1; cases heq2
      simp only [Bool.and_eq_true, beq_iff_eq] at h
      obtain ⟨⟨h1, h2⟩, h3⟩ := h
      subst h1 h2
      refine PGs.imp (pgs_cons (pg_fld (pe_var hN hv n1 n2)) (snd_flds hN hv n1 n2 hc fs _ h3 fun g hg => hf g (List.mem_cons_of_mem _ hg)) rfl) fun vs σ H Q q => ?_
      obtain ⟨env, W, xs, rfl, he, w, r, p⟩ := q
      rw [M.bind_assoc] at p
      obtain ⟨y, v, k1, k2, p, hen⟩ := getV_ok he p
      obtain ⟨j, a, rfl, rfl, hm, p⟩ := getOb_ok k2 p
      cases xs with
      | nil => exact p.elim
      | cons d ds =>
        cases r with
        | cons r1 r2 =>
          have p : Post X.K cl xc E W ((setAt c j f (.d d) >>= fun _ => setAts c j fs ds) W.st) _ := p
          obtain ⟨dx, gs, fs0, g1, g2, g3, g4, g5, g6⟩ := setAt_ok w (x := .d d) r1 hm p
          refine ⟨_, _, rfl, _, k1, a, cl c, dx, gs, rfl, g1, hc, hf _ List.mem_cons_self, g2, env, _, ds, rfl, he.mono g4, g5, RpA.mono g4 _ _ r2, ?_⟩
          have hq := Post.from g4 g6
          have e2 : getV env i = (Pure.pure (.o j) : M Vl) := by unfold getV; rw [hen]
          rw [e2]
          exact hq
    · cases h
theorem setAts_len {c j : Nat} : ∀ (fs : List Str) (xs : List D) (s : Sto), setAts c j fs xs s ≠ .no → xs.length = fs.length
  | [], [], _, _ => rfl
  | [], _ :: _, _, h => absurd rfl h
  | _ :: _, [], _, h => absurd rfl h
  | f :: fs, x :: xs, s, h => by
    unfold setAts at h
    rw [M.bind_run] at h
    cases e : setAt c j f (.d x) s with
    | no => rw [e] at h; exact absurd rfl h
    | ok u s' => rw [e] at h; simp [setAts_len fs xs s' h]
    | ex cc s' =>
      exfalso
      unfold setAt at e
      rw [M.bind_run] at e
      unfold getO at e
      cases q : s[j]? with
      | none => rw [q] at e; cases e
      | some ob =>
        rw [q] at e
        cases ob with
        | ins c' gs =>
          dsimp only at e
          have no : ∀ b : Bool, ((okS b () >>= fun _ => setO j (.ins c (setAt.putF f (.d x) gs))) s) ≠ .ex cc s' := by
            intro b z
            cases b <;> cases z
          exact no _ e
        | _ => cases e
theorem tS_unpkAt {c i : Nat} {fs : List Str} {n : Nat} (hn : fs.length = n) (e : Env → M Vl) {D : Ends} {σ : L2.St} {H : Hp} (q : tS X.K cl xc E (fun env => do
    match ← e env with
    | .d (.tuple xs) => do
      let j ← getOb (← getV env i)
      setAts c j fs xs
      pure (.nx, env)
    | _ => M.no) D σ H) : tAsg (tE X.K cl xc E e) (gTup X.K n (tGf X.K cl xc E c i fs)) D σ H := by
  obtain ⟨env, W, rfl, he, w, p⟩ := q
  refine ⟨env, W, rfl, he, w, (Post.bind p).imp fun x W1 e1 w1 p1 v r => ?_⟩
  cases x with
  | o j => exact p1.elim
  | d x =>
    cases x with
    | tuple xs =>
      cases r with
      | tup h1 h2 =>
        have p1 : Post X.K cl xc E W1 ((getV env i >>= fun y => getOb y >>= fun j => setAts c j fs xs >>= fun _ => (Pure.pure (.nx, env) : M (Fl × Env))) W1.st) (fun p W' => ∀ σ', EnvR X.K W' σ' p.2 → FlR X.K D σ' W' p.1) := p1
        have hl : xs.length = n := by
          obtain ⟨y, u, g1, g2, p2, _⟩ := getV_ok (he.mono e1) p1
          obtain ⟨j, a, rfl, rfl, hm, p2⟩ := getOb_ok g2 p2
          rw [← hn]
          exact setAts_len fs xs W1.st (fun z => by rw [M.bind_run, z] at p2; exact p2)
        refine ⟨_, _, rfl, h1.sq, by rw [h2.len]; exact hl, env, W1, xs, rfl, he.mono e1, w1, h2, ?_⟩
        have p3 : Post X.K cl xc E W1 (((getV env i >>= getOb >>= fun j => setAts c j fs xs) >>= fun _ => (Pure.pure (.nx, env) : M (Fl × Env))) W1.st) (fun p W' => ∀ σ', EnvR X.K W' σ' p.2 → FlR X.K D σ' W' p.1) := by
          simp only [M.bind_assoc] at p1 ⊢
          exact p1
        exact (Post.bind p3).imp fun _ W2 e2 w2 p4 => Post.pure w2 p4 σ ((he.mono e1).mono e2)
    | _ => exact p1.elim
end
end Dw

namespace Dw
open PySem L2
variable [Tb]
section
variable {K : PySem.W.Frag} {cl xc : Nat → Addr} {E : XK}
/-! ### a run of a loop, turn by turn -/
/-- r is what is left of a comprehension behind i turns -/
def RunC (f : Vl → M (Option D)) : Wk → Nat → Nat → List D → M (List D) → Prop
  | .its xs, m, i, acc, r => i ≤ xs.length ∧ m = xs.length - i ∧ r = compL f (xs.drop i) acc
  | .ob j, m, i, acc, r => r = compO f j m i acc
def RunF (f : Vl → Env → M (Fl × Env)) : Wk → Nat → Nat → Env → M (Fl × Env) → Prop
  | .its xs, m, i, env, r => i ≤ xs.length ∧ m = xs.length - i ∧ r = forL f (xs.drop i) env
  | .ob j, m, i, env, r => r = forO f j m i env
/-- the next thing that a loop comes to -/
inductive Nxt (K : PySem.W.Frag) (cl : Nat → Addr) (W1 : Wd) (J : L2.It) (i : Nat) : Option Vl → Prop
  | stop : J.stop i W1.H → Nxt K cl W1 J i none
  | item {y : Vl} : J.go i W1.H → (∀ x H', J.yld i W1.H x H' → ∃ W2, W2.H = H' ∧ W2.st = W1.st ∧ W2.m = W1.m ∧ Ex W1 W2 ∧ Wf K cl W2 ∧ RpV K W2 x y) → Nxt K cl W1 J i (some y)
theorem runC_step {α : Type} {f : Vl → M (Option D)} {g : List D → M α} {wk : Wk} {m i : Nat} {acc : List D} {r : M (List D)} {W W0 W1 : Wd} {J : L2.It} {q : α → Wd → Prop} (R : RunC f wk m i acc r) (jk : JOk K cl W0 J wk) (e : Ex2 W0 W1) (w : Wf K cl W1)
    (h : Post K cl xc E W ((r >>= g) W1.st) q) :
    (Nxt K cl W1 J i none ∧ Post K cl xc E W (g acc W1.st) q) ∨ ∃ y m', m' < m ∧ Nxt K cl W1 J i (some y) ∧ ∃ r1 r2 : List D → M (List D), (∀ acc', RunC f wk m' (i + 1) acc' (r1 acc')) ∧
      Post K cl xc E W (((f y >>= fun o => match o with
        | some z => okS (decide (acc.length < szLine)) () >>= fun _ => r1 (acc ++ [z])
        | none => r1 acc) >>= g) W1.st) q := by
  cases wk with
  | its xs =>
    obtain ⟨hi, hm, rfl⟩ := R
    obtain ⟨j1, j2⟩ := jk W1 e w i
    cases hx : xs[i]? with
    | none =>
      have hl : xs.length = i := Nat.le_antisymm (List.getElem?_eq_none_iff.mp hx) hi
      refine .inl ⟨.stop (j2 hl), ?_⟩
      rw [show xs.drop i = [] from by rw [← hl]; simp] at h
      exact h
    | some y =>
      obtain ⟨hlt, hy⟩ := List.getElem?_eq_some_iff.mp hx
      obtain ⟨g1, g2⟩ := j1 y hx
      refine .inr ⟨y, xs.length - (i + 1), by omega, .item g1 g2, fun acc' => compL f (xs.drop (i + 1)) acc', fun _ => M.no, fun acc' => ⟨hlt, rfl, rfl⟩, ?_⟩
      rw [List.drop_eq_getElem_cons hlt, hy] at h
      exact h
  | ob j =>
    cases (show r = compO f j m i acc from R)
    cases m with
    | zero => exact h.elim
    | succ n =>
      unfold compO at h
      rw [M.bind_assoc] at h
      obtain ⟨ob, a, ho, hm, hr, h⟩ := Post.getO' w h
      cases ob with
      | lst ds =>
        obtain ⟨j1, j2⟩ := jk W1 e w i ds ho
        dsimp only at h
        cases hx : ds[i]? with
        | none =>
          rw [hx] at h
          exact .inl ⟨.stop (j2 (List.getElem?_eq_none_iff.mp hx)), h⟩
        | some y =>
          rw [hx] at h
          obtain ⟨g1, g2⟩ := j1 y hx
          refine .inr ⟨.d y, n, Nat.lt_succ_self _, .item g1 fun x H' y' => ?_, fun acc' => compO f j n (i + 1) acc', fun _ => M.no, fun acc' => rfl, h⟩
          obtain ⟨rfl, z⟩ := g2 x H' y'
          exact ⟨W1, rfl, rfl, rfl, Ex.refl _, w, z⟩
      | _ => exact h.elim
theorem runF_step {α : Type} {f : Vl → Env → M (Fl × Env)} {g : Fl × Env → M α} {wk : Wk} {m i : Nat} {env : Env} {r : M (Fl × Env)} {W W0 W1 : Wd} {J : L2.It} {q : α → Wd → Prop} (R : RunF f wk m i env r) (jk : JOk K cl W0 J wk) (e : Ex2 W0 W1) (w : Wf K cl W1)
    (h : Post K cl xc E W ((r >>= g) W1.st) q) :
    (Nxt K cl W1 J i none ∧ Post K cl xc E W (g (.nx, env) W1.st) q) ∨ ∃ y m', m' < m ∧ Nxt K cl W1 J i (some y) ∧ ∃ r1 : Env → M (Fl × Env), (∀ env', RunF f wk m' (i + 1) env' (r1 env')) ∧
      Post K cl xc E W (((f y env >>= fun p => match p with
        | (.nx, env') => r1 env'
        | (.ct, env') => r1 env'
        | (.bk, env') => pure (.nx, env')
        | (.rt v, env') => pure (.rt v, env')) >>= g) W1.st) q := by
  cases wk with
  | its xs =>
    obtain ⟨hi, hm, rfl⟩ := R
    obtain ⟨j1, j2⟩ := jk W1 e w i
    cases hx : xs[i]? with
    | none =>
      have hl : xs.length = i := Nat.le_antisymm (List.getElem?_eq_none_iff.mp hx) hi
      refine .inl ⟨.stop (j2 hl), ?_⟩
      rw [show xs.drop i = [] from by rw [← hl]; simp] at h
      exact h
    | some y =>
      obtain ⟨hlt, hy⟩ := List.getElem?_eq_some_iff.mp hx
      obtain ⟨g1, g2⟩ := j1 y hx
      refine .inr ⟨y, xs.length - (i + 1), by omega, .item g1 g2, fun env' => forL f (xs.drop (i + 1)) env', fun env' => ⟨hlt, rfl, rfl⟩, ?_⟩
      rw [List.drop_eq_getElem_cons hlt, hy] at h
      exact h
  | ob j =>
    cases (show r = forO f j m i env from R)
    cases m with
    | zero => exact h.elim
    | succ n =>
      unfold forO at h
      rw [M.bind_assoc] at h
      obtain ⟨ob, a, ho, hm, hr, h⟩ := Post.getO' w h
      cases ob with
      | lst ds =>
        obtain ⟨j1, j2⟩ := jk W1 e w i ds ho
        dsimp only at h
        cases hx : ds[i]? with
        | none =>
          rw [hx] at h
          exact .inl ⟨.stop (j2 (List.getElem?_eq_none_iff.mp hx)), h⟩
        | some y =>
          rw [hx] at h
          obtain ⟨g1, g2⟩ := j1 y hx
          refine .inr ⟨.d y, n, Nat.lt_succ_self _, .item g1 fun x H' y' => ?_, fun env' => forO f j n (i + 1) env', fun env' => rfl, h⟩
          obtain ⟨rfl, z⟩ := g2 x H' y'
          exact ⟨W1, rfl, rfl, rfl, Ex.refl _, w, z⟩
      | _ => exact h.elim
end
end Dw

namespace Dw
open PySem L2
variable [Tb]
section
variable {K : PySem.W.Frag} {cl xc : Nat → Addr} {E : XK}
/-- what is told of one world holds in another -/
structure Mp (W W' : Wd) : Prop where
  out : ∀ a o, W.H a = some o → Out W a → W'.H a = some o ∧ Out W' a
  m : W.m <+: W'.m
mutual
theorem Rp.mp {W W' : Wd} (e : Mp W W') : ∀ (d : D) (v : V), Rp K W v d → Rp K W' v d
  | .none, _, h => by cases h; exact .non
  | .bool b, _, h => by cases h; exact .bl b
  | .int i, _, h => by cases h; exact .int i
  | .str x, _, h => by cases h; exact .str x
  | .list ds, _, h => by
    cases h with
    | lst h1 h2 => exact .lst (e.out _ _ h1.1 h1.2) (RpA.mp e ds _ h2)
  | .tuple ds, _, h => by
    cases h with
    | tup h1 h2 => exact .tup (h1.imp (fun z => e.out _ _ z.1 z.2) id) (RpA.mp e ds _ h2)
  | .dict _, _, h => by cases h
theorem RpA.mp {W W' : Wd} (e : Mp W W') : ∀ (ds : List D) (vs : List V), RpA K W vs ds → RpA K W' vs ds
  | [], _, h => by cases h; exact .nil
  | d :: ds, _, h => by
    cases h with
    | cons h1 h2 => exact .cons (Rp.mp e d _ h1) (RpA.mp e ds _ h2)
end
theorem RpV.mp {W W' : Wd} (e : Mp W W') {v : V} {x : Vl} (h : RpV K W v x) : RpV K W' v x := by
  cases x with
  | d x => exact Rp.mp e x v h
  | o i =>
    obtain ⟨a, h1, h2⟩ := h
    obtain ⟨t, ht⟩ := e.m
    exact ⟨a, h1, by rw [← ht, List.getElem?_append_left (List.getElem?_eq_some_iff.mp h2).1]; exact h2⟩
theorem EnvR.mp {W W' : Wd} {σ : L2.St} {env : Env} (h : EnvR K W σ env) (e : Mp W W') : EnvR K W' σ env :=
  ⟨h.len, fun i x q => let ⟨v, h1, h2⟩ := h.at_ i x q; ⟨v, h1, h2.mp e⟩⟩
theorem ObR.mp {W W' : Wd} {a : Addr} (e : Mp W W') (hs : ∀ b ys, ScrAt K W.H b ys → ScrAt K W'.H b ys) (ha : ∀ o, W.H a = some o → W'.H a = some o) : ∀ {ob : Ob}, ObR K cl W a ob → ObR K cl W' a ob
  | .dead, _ => True.intro
  | .lst ds, ⟨xs, h1, h2⟩ => ⟨xs, ha _ h1, RpA.mp e ds xs h2⟩
  | .scr ds, ⟨xs, h1, h2⟩ => ⟨xs, hs _ _ h1, RpA.mp e ds xs h2⟩
  | .ins c fs, ⟨dx, gs, h1, h2⟩ => ⟨dx, gs, ha _ h1, Paired.imp (fun _ _ q => ⟨q.1, q.2.mp e⟩) h2⟩
  | .dct kvs, ⟨gs, h1, h2⟩ => ⟨gs, ha _ h1, Paired.imp (fun _ _ q => ⟨q.1, q.2.mp e⟩) h2⟩
theorem ObR.mp' {W W' : Wd} {a : Addr} (e : Mp W W') (hs : ∀ b ys, ScrAt K W.H b ys → ScrAt K W'.H b ys) {ob : Ob} (h : ObR K cl W a ob) (ha : isDead ob = false → ∀ o, W.H a = some o → W'.H a = some o) : ObR K cl W' a ob := by
  cases hd : isDead ob with
  | false => exact h.mp e hs (ha hd)
  | true =>
    cases ob with
    | dead => trivial
    | scr ds => obtain ⟨xs, h1, h2⟩ := h; exact ⟨xs, hs _ _ h1, RpA.mp e ds xs h2⟩
    | _ => cases hd
theorem M.ok_bind {α β : Type} {m : M α} {f : α → M β} {s s' : Sto} {b : β} (h : (m >>= f) s = .ok b s') : ∃ a s1, m s = .ok a s1 ∧ f a s1 = .ok b s' := by
  rw [M.bind_run] at h
  cases e : m s with
  | ok a s1 => rw [e] at h; exact ⟨a, s1, rfl, h⟩
  | ex c s1 => rw [e] at h; cases h
  | no => rw [e] at h; cases h
theorem noEx_post {α β : Type} {m : M α} {k : α → M β} {s : Sto} {W : Wd} {q : β → Wd → Prop} (h : Post K cl xc E W ((noEx m >>= k) s) q) : ∃ a s', m s = .ok a s' ∧ Post K cl xc E W (k a s') q := by
  rw [M.bind_run] at h
  unfold noEx at h
  cases e : m s with
  | ok a s' => rw [e] at h; exact ⟨a, s', rfl, h⟩
  | ex c s' => rw [e] at h; exact h.elim
  | no => rw [e] at h; exact h.elim
theorem wipe_wipe {σ : L2.St} (own : List Nat) : L2.wipe (L2.wipe σ own) own = L2.wipe σ own := by
  have : ∀ (vs : List Nat), (∀ i ∈ vs, i ∈ own) → ∀ σ : L2.St, L2.wipe (L2.wipe σ vs) own = L2.wipe σ own := by
    intro vs
    induction vs with
    | nil => intro _ _; rfl
    | cons v vs ih =>
      intro h σ
      show L2.wipe ((L2.wipe σ vs).set v none) own = _
      rw [wipe_set (h v List.mem_cons_self), ih (fun i hi => h i (List.mem_cons_of_mem _ hi))]
  exact this own (fun _ h => h) σ
abbrev F0 : XK := fun _ _ _ => False
/-- the world of a block: the new list at D is foreign -/
abbrev wD (W : Wd) (D : Addr) (H : Hp) (m : List Addr) (st : Sto) : Wd := ⟨H, fun a => W.F a ∨ a = D, m, st⟩
theorem scr_keep {H H' : Hp} (hk : ∀ b o ys, H b = some (.frz o (.lst ys)) → H' b = some (.frz o (.lst ys))) : ∀ b ys, ScrAt K H b ys → ScrAt K H' b ys := fun b ys h => by
  rcases h with ⟨o, h⟩ | h
  · exact .inl ⟨o, hk b o ys h⟩
  · exact .inr h
theorem upd_keep {H : Hp} {D a : Addr} {o u : HO} (h : H a = some u) (hne : a ≠ D) : upd H D o a = some u := by rw [upd_ne hne]; exact h
theorem mp_start {W : Wd} {D : Addr} {o : HO} (hD : W.H D = none) : Mp W (wD W D (upd W.H D o) W.m W.st) :=
  ⟨fun a u h z => ⟨upd_keep h (ne_of_none h hD), z.1, fun q => q.elim z.2 fun q => by rw [q, hD] at h; cases h⟩, List.prefix_refl _⟩
theorem ex_start {W : Wd} {D : Addr} {o : HO} (hD : W.H D = none) : Ex2 W (wD W D (upd W.H D o) W.m W.st) :=
  ⟨fun a z => z.imp id fun z => by rw [z]; exact hD, List.prefix_refl _, fun a u h l _ => ⟨upd_keep h (ne_of_none h hD), l⟩⟩
theorem wf_start {W : Wd} {D : Addr} {o : HO} (w : Wf K cl W) (hD : W.H D = none) (hn : NoTb o) : Wf K cl (wD W D (upd W.H D o) W.m W.st) := by
  have up : ∀ a u, W.H a = some u → upd W.H D o a = some u := fun a u h => by rw [upd_ne (ne_of_none h hD)]; exact h
  refine ⟨w.len, w.inj, fun i a u h1 h2 h3 z => z.elim (w.nf i a u h1 h2 h3) fun z => ?_, fun i a u h1 h2 => ?_, fun a z => z.elim (fun z => let ⟨u, h, n⟩ := w.ft a z; ⟨u, up a u h, n⟩) fun z => by rw [z]; exact ⟨o, upd_same, hn⟩, w.tb.ext up⟩
  · obtain ⟨u, e, _⟩ := (w.ob i a u h1 h2).there h3
    rw [z, hD] at e; cases e
  · exact (w.ob i a u h1 h2).mp (mp_start hD) (scr_keep fun b o ys h => up b _ h) (up a)
variable {W : Wd} {D : Addr} {H : Hp} {m : List Addr} {st : Sto}
theorem notLive (w : Wf K cl (wD W D H m st)) : ¬ Live (wD W D H m st) D := fun ⟨i, o, h1, h2, h3⟩ => w.nf i D o h1 h2 h3 (.inr rfl)
theorem mp_poke {o' : HO} : Mp (wD W D H m st) (wD W D (upd H D o') m st) :=
  ⟨fun a u h z => ⟨upd_keep h (fun q => z.2 (.inr q)), z⟩, List.prefix_refl _⟩
theorem wf_poke {o' : HO} {xs : List V} (hn : NoTb o') (w : Wf K cl (wD W D H m st)) (hD : H D = some (.lst xs)) : Wf K cl (wD W D (upd H D o') m st) := by
  refine ⟨w.len, w.inj, w.nf, fun i a u h1 h2 => ?_, fun a z => ?_, tabs_set w.tb fun b o e t => upd_keep e fun z => by
    have e : H b = some o := e
    rw [z, hD] at e
    cases e
    rcases t with ⟨ps, t⟩ | ⟨f, t⟩ <;> cases t⟩
  · refine (w.ob i a u h1 h2).mp' mp_poke (scr_keep fun b o ys h => ?_) fun q => ?_
    · exact upd_keep h (fun z => by rw [z] at h; have h : H D = _ := h; rw [hD] at h; cases h)
    · intro o e
      exact upd_keep e (fun z => notLive w (by rw [← z]; exact ⟨i, u, h1, h2, q⟩))
  · by_cases q : a = D
    · rw [q]; exact ⟨o', upd_same, hn⟩
    · obtain ⟨u, h, n⟩ := w.ft a z
      exact ⟨u, upd_keep h q, n⟩
theorem mp_unF : Mp (wD W D H m st) ⟨H, W.F, m, st⟩ := ⟨fun a u h z => ⟨h, z.1, fun q => z.2 (.inl q)⟩, List.prefix_refl _⟩
theorem wf_unF (w : Wf K cl (wD W D H m st)) : Wf K cl ⟨H, W.F, m, st⟩ :=
  ⟨w.len, w.inj, fun i a o h1 h2 h3 q => w.nf i a o h1 h2 h3 (.inl q), fun i a o h1 h2 => (w.ob i a o h1 h2).mp mp_unF (fun _ _ h => h) (fun _ h => h), fun a q => w.ft a (.inl q), w.tb⟩
theorem mp_thaw {ob : Ob} (hl : m.length = st.length) : Mp (wD W D H m st) ⟨H, W.F, m ++ [D], st ++ [ob]⟩ := by
  refine ⟨fun a u h z => ⟨h, fun q => ?_, fun q => z.2 (.inl q)⟩, List.prefix_append _ _⟩
  rcases live_more (W := ⟨H, W.F, m, st⟩) hl q with q | ⟨q, _⟩
  · exact z.1 q
  · exact z.2 (.inr q)
theorem wf_thaw {xs : List V} {ds : List Dw.D} (w : Wf K cl (wD W D H m st)) (hD : H D = some (.lst xs)) (r : RpA K (wD W D H m st) xs ds) (hn : ¬ W.F D) : Wf K cl ⟨H, W.F, m ++ [D], st ++ [.lst ds]⟩ := by
  have hl : m.length = st.length := w.len
  have mp : Mp (wD W D H m st) ⟨H, W.F, m ++ [D], st ++ [.lst ds]⟩ := mp_thaw hl
  have sp : ∀ {i : Nat} {b : Addr} {o : Ob}, (m ++ [D])[i]? = some b → (st ++ [Ob.lst ds])[i]? = some o → (m[i]? = some b ∧ st[i]? = some o) ∨ (i = st.length ∧ b = D ∧ o = .lst ds) := by
    intro i b o h1 h2
    by_cases hi : i < st.length
    · rw [List.getElem?_append_left (by rw [hl]; exact hi)] at h1
      rw [List.getElem?_append_left hi] at h2
      exact .inl ⟨h1, h2⟩
    · rw [List.getElem?_append_right (by omega)] at h1 h2
      cases e : i - st.length with
      | zero =>
        rw [e] at h2
        rw [hl, e] at h1
        simp at h1 h2
        exact .inr ⟨by omega, h1.symm, h2.symm⟩
      | succ n =>
        rw [e] at h2
        simp at h2
  have nd : ∀ {i : Nat} {o : Ob}, m[i]? = some D → st[i]? = some o → isDead o = false → False := fun h1 h2 h3 => w.nf _ _ _ h1 h2 h3 (.inr rfl)
  refine ⟨by simp [hl], fun i j b o u h1 h2 h3 h4 d1 d2 => ?_, fun i b o h1 h2 d => ?_, fun i b o h1 h2 => ?_, fun a q => w.ft a (.inl q), w.tb⟩
  · rcases sp h1 h3 with ⟨x1, x2⟩ | ⟨x1, x2, x3⟩ <;> rcases sp h2 h4 with ⟨y1, y2⟩ | ⟨y1, y2, y3⟩
    · exact w.inj i j b o u x1 y1 x2 y2 d1 d2
    · subst y2; exact (nd x1 x2 d1).elim
    · subst x2; exact (nd y1 y2 d2).elim
    · rw [x1, y1]
  · rcases sp h1 h2 with ⟨x1, x2⟩ | ⟨x1, x2, x3⟩
    · exact fun q => w.nf i b o x1 x2 d (.inl q)
    · subst x2; exact hn
  · rcases sp h1 h2 with ⟨x1, x2⟩ | ⟨x1, x2, x3⟩
    · exact (w.ob i b o x1 x2).mp mp (fun _ _ h => h) (fun _ h => h)
    · subst x2 x3; exact ⟨xs, hD, RpA.mp mp ds xs r⟩
theorem tE_comp {mu : Bool} {tg : Tg} {own : List Nat} (hin : tgIn own tg = true) (itf : Env → M Wk) (cf : Env → M Bool) (ef : Env → M Vl) {σ : L2.St} {H : Hp} {Q : VK}
    (q : tE K cl xc E (fun env => do
      let w ← itf env
      let f : Vl → M (Option Dw.D) := fun x => noEx do
        let env1 ← ofO (bindT tg x (wipe env own))
        if ← cf env1 then
          let y ← asD (← ef env1)
          pure (some y)
        else pure none
      match w with
      | .its xs => do
        let ys ← compL f xs []
        newL mu ys
      | .ob i => do
        match ← getO i with
        | .lst xs => do
          let ys ← compO f i (xs.length + 1) 0 []
          newL mu ys
        | _ => M.no) σ H Q) : tLc (tI K cl xc E itf) (tG K cl tg) (tT K cl xc F0 cf) (tE K cl xc F0 ef) own σ H Q := by
  obtain ⟨env, W, rfl, he, w, p⟩ := q
  refine ⟨env, W, rfl, he, w, (Post.bind p).imp fun wk W0 e0 w0 p0 J hJ D hD => ?_⟩
  generalize hf : (fun x : Vl => noEx (do
        let env1 ← ofO (bindT tg x (wipe env own))
        if ← cf env1 then
          let y ← asD (← ef env1)
          pure (some y)
        else pure none)) = f at p0
  have h0 : ∃ mm r, RunC f wk mm 0 [] r ∧ Post K cl xc E W0 ((r >>= newL mu) W0.st) (QE K Q) := by
    cases wk with
    | its xs => exact ⟨xs.length, compL f xs [], ⟨Nat.zero_le _, rfl, rfl⟩, p0⟩
    | ob i =>
      obtain ⟨ob, a, ho, hm, hr, p0⟩ := Post.getO' w0 p0
      cases ob with
      | lst xs => exact ⟨xs.length + 1, compO f i (xs.length + 1) 0 [], rfl, p0⟩
      | _ => exact p0.elim
  obtain ⟨m0, r0, R0, p0⟩ := h0
  have hnF : ¬ W0.F D := fun z => by
    obtain ⟨u, e, _⟩ := w0.ft D z
    rw [hD] at e; cases e
  refine ⟨fun i n H => ∃ (mm : List Addr) (st : Sto) (accv : List V) (accd : List Dw.D) (r : M (List Dw.D)), Ex2 W0 (wD W0 D H mm st) ∧ Wf K cl (wD W0 D H mm st) ∧ H D = some (.lst accv) ∧ RpA K (wD W0 D H mm st) accv accd ∧
      EnvR K (wD W0 D H mm st) (L2.wipe σ own) (Dw.wipe env own) ∧ RunC f wk n i accd r ∧ Post K cl xc E W0 ((r >>= newL mu) st) (QE K Q), ⟨m0, W0.m, W0.st, [], [], r0, ex_start hD, wf_start w0 hD nt_lst, upd_same, .nil, ((he.mono e0).mp (mp_start hD)).wipe own, R0, p0⟩, ?_⟩
  rintro i n H ⟨mm, st, accv, accd, r, ex, wf, hH, hr, hev, R, p⟩
  rcases runC_step (W1 := wD W0 D H mm st) R hJ ex wf p with ⟨nx, p⟩ | ⟨y, n', hn, nx, r1, _, R1, p⟩
  · refine .inl ⟨by cases nx with | stop h => exact h, ?_⟩
    have exF : Ex W0 ⟨H, W0.F, mm, st⟩ := ⟨rfl, ex.m, ex.keep⟩
    cases mu with
    | false =>
      exact p H mm exF (wf_unF wf) (.ref D) (.lst ⟨hH, fun z => notLive wf z, hnF⟩ (RpA.mp mp_unF accd accv hr))
    | true =>
      have hl : mm.length = st.length := wf.len
      have exT : Ex W0 ⟨H, W0.F, mm ++ [D], st ++ [.lst accd]⟩ := by
        refine ⟨rfl, ex.m.trans (List.prefix_append _ _), fun a o h l n => ?_⟩
        obtain ⟨h1, l1⟩ := ex.keep a o h l n
        refine ⟨h1, fun z => ?_⟩
        rcases live_more (W := ⟨H, W0.F, mm, st⟩) hl z with z | ⟨z, _⟩
        · exact l1 z
        · rw [z, hD] at h; cases h
      refine p H (mm ++ [D]) exT (wf_thaw wf hH hr hnF) (.ref D) ⟨D, rfl, ?_⟩
      show (mm ++ [D])[st.length]? = some D
      rw [← hl, List.getElem?_append_right (Nat.le_refl _)]
      simp
  · cases nx with
    | item go yld =>
      refine .inr ⟨go, fun H' => ∃ (mm : List Addr) (st : Sto) (accv : List V) (accd : List Dw.D) (r : M (List Dw.D)), Ex2 W0 (wD W0 D H' mm st) ∧ Wf K cl (wD W0 D H' mm st) ∧ H' D = some (.lst accv) ∧ RpA K (wD W0 D H' mm st) accv accd ∧
        EnvR K (wD W0 D H' mm st) (L2.wipe σ own) (Dw.wipe env own) ∧ RunC f wk n' (i + 1) accd r ∧ Post K cl xc E W0 ((r >>= newL mu) st) (QE K Q), fun H' h => ⟨n', hn, h⟩, fun x H' y' => ?_⟩
      obtain ⟨W2, rfl, hst, hm2, e2, w2, rv⟩ := yld x H' y'
      have hF2 : W2.F = fun a => W0.F a ∨ a = D := e2.f
      rw [M.bind_assoc, ← hf] at p
      obtain ⟨opt, st4, runZ, p⟩ := noEx_post p
      obtain ⟨env1, st1, hb0, run⟩ := M.ok_bind runZ
      clear runZ
      have hbb : bindT tg y (wipe env own) = some env1 ∧ st1 = st := by
        cases e : bindT tg y (wipe env own) with
        | none => rw [e] at hb0; cases hb0
        | some z => rw [e] at hb0; cases hb0; exact ⟨rfl, rfl⟩
      clear hb0
      obtain ⟨hb, hst1⟩ := hbb
      subst hst1
      obtain ⟨b, st3, run1, runB⟩ := M.ok_bind run
      refine ⟨wipe env own, W2, y, env1, rfl, hev.mono e2, w2, rv, hb, fun σ2 he2 hw => ⟨(hw own hin).trans (wipe_wipe own), env1, W2, rfl, he2, w2, ?_⟩⟩
      show Post K cl xc F0 W2 (cf env1 W2.st) _
      rw [show W2.st = st1 from hst, run1]
      intro H3 m3 ex3 wf3
      have ex23 : Ex (wD W0 D H mm st1) ⟨H3, W2.F, m3, st3⟩ := e2.trans ex3
      cases b with
      | false =>
        dsimp only
        rw [if_neg (by simp)] at runB ⊢
        cases runB
        have wk3 : (⟨H3, W2.F, m3, st4⟩ : Wd) = wD W0 D H3 m3 st4 := by rw [hF2]
        rw [wk3] at ex23 wf3
        exact ⟨m3, st4, accv, accd, r1 accd, ex.trans ex23, wf3, (ex23.keep D _ hH (notLive wf) nt_lst).1, RpA.mono ex23 _ _ hr, hev.mono ex23, R1 accd, p⟩
      | true =>
        dsimp only
        rw [if_pos rfl] at runB ⊢
        obtain ⟨z, st5, run2, runC⟩ := M.ok_bind runB
        refine ⟨env1, ⟨H3, W2.F, m3, st3⟩, rfl, he2.mono ex3, wf3, ?_⟩
        show Post K cl xc F0 _ (ef env1 st3) _
        rw [run2]
        intro H4 m4 ex4 wf4 v rv4
        cases z with
        | o j => cases runC
        | d z =>
          cases runC
          have ex24 : Ex (wD W0 D H mm st1) ⟨H4, W2.F, m4, st4⟩ := ex23.trans ex4
          have wk4 : (⟨H4, W2.F, m4, st4⟩ : Wd) = wD W0 D H4 m4 st4 := by rw [hF2]
          rw [show (⟨H4, (⟨H3, W2.F, m3, st3⟩ : Wd).F, m4, st4⟩ : Wd) = wD W0 D H4 m4 st4 from wk4] at wf4 rv4
          rw [wk4] at ex24
          obtain ⟨hz, p⟩ : accd.length < szLine ∧ Post K cl xc E W0 ((r1 (accd ++ [z]) >>= newL mu) st4) (QE K Q) := by
            by_cases hz : accd.length < szLine
            · refine ⟨hz, ?_⟩
              rw [show decide (accd.length < szLine) = true from decide_eq_true hz] at p
              exact p
            · rw [show decide (accd.length < szLine) = false from decide_eq_false hz] at p
              exact p.elim
          have hH4 := (ex24.keep D _ hH (notLive wf) nt_lst).1
          refine ⟨accv, hH4, by rw [hr.len, ← szE]; exact hz, m4, st4, accv ++ [v], accd ++ [z], r1 (accd ++ [z]), ?_, wf_poke nt_lst wf4 hH4, upd_same, ?_, ?_, R1 _, p⟩
          · have e4 := ex.trans ex24
            refine ⟨e4.f, e4.m, fun a o h l n => ?_⟩
            obtain ⟨h1, l1⟩ := e4.keep a o h l n
            exact ⟨upd_keep h1 (ne_of_none h hD), l1⟩
          · exact RpA.append (RpA.mp mp_poke _ _ (RpA.mono ex24 _ _ hr)) (.cons (Rp.mp mp_poke _ _ rv4) .nil)
          · exact (hev.mono ex24).mp mp_poke
end
end Dw

namespace Dw
open PySem L2
variable [Tb]
section
variable {K : PySem.W.Frag} {cl xc : Nat → Addr} {E : XK}
theorem Post.bind' {α β : Type} {W : Wd} {s : Sto} {m : M α} {f : α → M β} {q : β → Wd → Prop} (h : Post K cl xc E W ((m >>= f) s) q) :
    Post K cl xc E W (m s) fun x W' => Post K cl xc E W' (f x W'.st) q := by
  rw [M.bind_run] at h
  cases e : m s with
  | ok x st =>
    rw [e] at h
    exact fun H m' ex w => Post.from ex h
  | ex c st =>
    rw [e] at h
    exact h
  | no =>
    rw [e] at h
    exact h
theorem M.bind_pure' {α : Type} (m : M α) : (m >>= fun a => (Pure.pure a : M α)) = m := by
  funext s
  rw [M.bind_run]
  cases m s <;> rfl
theorem tS_for {tg : Tg} (itf : Env → M Wk) (bf : Env → M (Fl × Env)) {D : Ends} {σ : L2.St} {H : Hp}
    (q : tS K cl xc E (fun env => do
      let w ← itf env
      let f : Vl → Env → M (Fl × Env) := fun x env => do
        let env1 ← ofO (bindT tg x env)
        bf env1
      match w with
      | .its xs => forL f xs env
      | .ob i => do
        match ← getO i with
        | .lst xs => forO f i (xs.length + 1) 0 env
        | _ => M.no) D σ H) : tFor (tI K cl xc E itf) (tG K cl tg) (tS K cl xc E bf) D σ H := by
  obtain ⟨env, W, rfl, he, w, p⟩ := q
  refine ⟨env, W, rfl, he, w, (Post.bind p).imp fun wk W0 e0 w0 p0 J hJ => ?_⟩
  generalize hf : (fun (x : Vl) (env : Env) => do
        let env1 ← ofO (bindT tg x env)
        bf env1) = f at p0
  have h0 : ∃ mm r, RunF f wk mm 0 env r ∧ Post K cl xc E W0 ((r >>= fun a => pure a) W0.st) fun p W' => ∀ σ', EnvR K W' σ' p.2 → FlR K D σ' W' p.1 := by
    cases wk with
    | its xs => exact ⟨xs.length, forL f xs env, ⟨Nat.zero_le _, rfl, rfl⟩, by rw [M.bind_pure']; exact p0⟩
    | ob i =>
      obtain ⟨ob, a, ho, hm, hr, p0⟩ := Post.getO' w0 p0
      cases ob with
      | lst xs => exact ⟨xs.length + 1, forO f i (xs.length + 1) 0 env, rfl, by rw [M.bind_pure']; exact p0⟩
      | _ => exact p0.elim
  obtain ⟨m0, r0, R0, p0⟩ := h0
  refine ⟨fun i n σ H => ∃ (mm : List Addr) (st : Sto) (env : Env) (r : M (Fl × Env)), Ex W0 ⟨H, W0.F, mm, st⟩ ∧ Wf K cl ⟨H, W0.F, mm, st⟩ ∧ EnvR K ⟨H, W0.F, mm, st⟩ σ env ∧ RunF f wk n i env r ∧
      Post K cl xc E ⟨H, W0.F, mm, st⟩ ((r >>= fun a => pure a) st) fun p W' => ∀ σ', EnvR K W' σ' p.2 → FlR K D σ' W' p.1, ⟨m0, W0.m, W0.st, env, r0, Ex.refl _, w0, he.mono e0, R0, p0⟩, ?_⟩
  rintro i n σ1 H ⟨mm, st, env1, r, ex, wf, hev, R, p⟩
  rcases runF_step (W1 := ⟨H, W0.F, mm, st⟩) R hJ ex.two wf p with ⟨nx, p⟩ | ⟨y, n', hn, nx, r1, R1, p⟩
  · refine .inl ⟨by cases nx with | stop h => exact h, ?_⟩
    exact Post.pure (W := ⟨H, W0.F, mm, st⟩) wf p σ1 hev
  · cases nx with
    | item go yld =>
      refine .inr ⟨go, fun σ H' => ∃ (mm : List Addr) (st : Sto) (env : Env) (r : M (Fl × Env)), Ex W0 ⟨H', W0.F, mm, st⟩ ∧ Wf K cl ⟨H', W0.F, mm, st⟩ ∧ EnvR K ⟨H', W0.F, mm, st⟩ σ env ∧ RunF f wk n' (i + 1) env r ∧
        Post K cl xc E ⟨H', W0.F, mm, st⟩ ((r >>= fun a => pure a) st) fun p W' => ∀ σ', EnvR K W' σ' p.2 → FlR K D σ' W' p.1, fun σ' H' h => ⟨n', hn, h⟩, fun x H' y' => ?_⟩
      obtain ⟨W2, rfl, hst, hm2, e2, w2, rv⟩ := yld x H' y'
      rw [M.bind_pure', ← hf] at p
      have p2 := Post.from e2 p
      rw [show (⟨H, W0.F, mm, st⟩ : Wd).st = W2.st from hst.symm] at p2
      dsimp only at p2
      rw [M.bind_assoc] at p2
      cases hb : bindT tg y env1 with
      | none => rw [hb] at p2; exact p2.elim
      | some env2 =>
        rw [hb] at p2
        have p2 : Post K cl xc E W2 ((bf env2 >>= fun p => match p with
          | (.nx, env') => r1 env'
          | (.ct, env') => r1 env'
          | (.bk, env') => pure (.nx, env')
          | (.rt v, env') => pure (.rt v, env')) W2.st) _ := p2
        refine ⟨env1, W2, y, env2, rfl, hev.mono e2, w2, rv, hb, fun σ2 he2 _ => ⟨env2, W2, rfl, he2, w2, (Post.bind' p2).imp fun pr W3 e3 w3 p3 σ3 he3 => ?_⟩⟩
        have hF3 : W3.F = W0.F := by rw [e3.f, e2.f]
        obtain ⟨fl, env3⟩ := pr
        have ex3 : Ex W0 W3 := (ex.trans e2).trans e3
        have hW : (⟨W3.H, W0.F, W3.m, W3.st⟩ : Wd) = W3 := by rw [← hF3]
        cases fl with
        | nx => exact ⟨W3.m, W3.st, env3, r1 env3, by rw [hW]; exact ex3, by rw [hW]; exact w3, by rw [hW]; exact he3, R1 env3, by rw [hW, M.bind_pure']; exact p3⟩
        | ct => exact ⟨W3.m, W3.st, env3, r1 env3, by rw [hW]; exact ex3, by rw [hW]; exact w3, by rw [hW]; exact he3, R1 env3, by rw [hW, M.bind_pure']; exact p3⟩
        | bk => exact Post.pure w3 p3 σ3 he3
        | rt v => exact Post.pure w3 p3 σ3 he3
theorem tS_while {n : Nat} (cf : Env → M Bool) (bf : Env → M (Fl × Env)) {D : Ends} {σ : L2.St} {H : Hp}
    (q : tS K cl xc E (fun env => whileL cf bf n env) D σ H) : tWhile (tT K cl xc E cf) (tS K cl xc E bf) D σ H := by
  refine ⟨fun m σ H => tS K cl xc E (fun env => whileL cf bf m env) D σ H, ⟨n, q⟩, ?_⟩
  rintro m σ H ⟨env, W, rfl, he, w, p⟩
  cases m with
  | zero => exact p.elim
  | succ m =>
    have p : Post K cl xc E W ((cf env >>= fun c => if c = true then (bf env >>= fun p => match p with
      | (.nx, env') => whileL cf bf m env'
      | (.ct, env') => whileL cf bf m env'
      | (.bk, env') => pure (.nx, env')
      | (.rt v, env') => pure (.rt v, env')) else pure (.nx, env)) W.st) _ := p
    refine ⟨env, W, rfl, he, w, (Post.bind p).imp fun c W1 e1 w1 p1 => ?_⟩
    cases c with
    | false =>
      rw [if_neg (by simp)] at p1 ⊢
      exact Post.pure w1 p1 σ (he.mono e1)
    | true =>
      rw [if_pos rfl] at p1 ⊢
      refine ⟨fun σ' H' => tS K cl xc E (fun env => whileL cf bf m env) D σ' H', fun σ' H' h => ⟨m, Nat.lt_succ_self _, h⟩, env, W1, rfl, he.mono e1, w1, (Post.bind' p1).imp fun pr W2 e2 w2 p2 σ2 he2 => ?_⟩
      obtain ⟨fl, env3⟩ := pr
      cases fl with
      | nx => exact ⟨env3, W2, rfl, he2, w2, p2⟩
      | ct => exact ⟨env3, W2, rfl, he2, w2, p2⟩
      | bk => exact Post.pure w2 p2 σ2 he2
      | rt v => exact Post.pure w2 p2 σ2 he2
theorem tS_set {i : Nat} (f : Env → M Vl) {D : Ends} {σ : L2.St} {H : Hp} (q : tS K cl xc E (fun env => do let v ← f env; pure (.nx, env.set i (some v))) D σ H) : tE K cl xc E f σ H fun x H1 => gName i x σ H1 D.nx := by
  obtain ⟨env, W, rfl, he, w, p⟩ := q
  refine ⟨env, W, rfl, he, w, (Post.bind p).imp fun x W1 e1 w1 p1 v r => ?_⟩
  exact Post.pure w1 p1 _ ((he.mono e1).set i r)
theorem tS_par2 {i j : Nat} (f : Env → M (List Vl)) {D : Ends} {σ : L2.St} {H : Hp} (q : tS K cl xc E (fun env => do let vs ← f env; let env ← ofO (setAll env [i, j] vs); pure (.nx, env)) D σ H) : tPar i j (tA K cl xc E f) D σ H := by
  obtain ⟨env, W, rfl, he, w, p⟩ := q
  refine ⟨env, W, rfl, he, w, (Post.bind p).imp fun xs W1 e1 w1 p1 vs r => ?_⟩
  match xs, p1, r with
  | [x, y], p1, .cons r1 (.cons r2 .nil) => exact ⟨_, _, rfl, Post.pure (a := ((.nx, (env.set i (some x)).set j (some y)) : Fl × Env)) w1 p1 _ (((he.mono e1).set i r1).set j r2)⟩
  | [], p1, _ => exact p1.elim
  | [_], p1, _ => exact p1.elim
  | _ :: _ :: _ :: _, p1, _ => exact p1.elim
theorem tS_parC {i j : Nat} (f : Env → M (List Vl)) {D : Ends} {σ : L2.St} {H : Hp} (q : tS K cl xc E (fun env => do let vs ← f env; let env ← ofO (setAll env [i, j] vs); pure (.nx, env)) D σ H) :
    tAsg (tTup (tA K cl xc E f)) (gTup K 2 (gCons (gName i) (gCons (gName j) gNil))) D σ H := by
  obtain ⟨env, W, rfl, he, w, p⟩ := q
  refine ⟨env, W, rfl, he, w, (Post.bind p).imp fun xs W1 e1 w1 p1 vs r => ?_⟩
  match xs, p1, r with
  | [x, y], p1, .cons (a := v1) r1 (.cons (a := v2) r2 .nil) =>
    refine ⟨by show 2 ≤ sizeLine; decide, fun a ha => ⟨a, _, rfl, .inl (.inl upd_same), rfl, _, _, rfl, _, _, rfl, rfl, ?_⟩⟩
    have ex := Ex.new (o := .tup [v1, v2]) ha
    exact Post.pure (a := ((.nx, (env.set i (some x)).set j (some y)) : Fl × Env)) (w1.new ha) (Post.from ex p1) _ (((he.mono (e1.trans ex)).set i (r1.mono ex)).set j (r2.mono ex))
  | [], p1, _ => exact p1.elim
  | [_], p1, _ => exact p1.elim
  | _ :: _ :: _ :: _, p1, _ => exact p1.elim
theorem tS_par3 {i j l : Nat} (f : Env → M (List Vl)) {D : Ends} {σ : L2.St} {H : Hp} (q : tS K cl xc E (fun env => do let vs ← f env; let env ← ofO (setAll env [i, j, l] vs); pure (.nx, env)) D σ H) : tPar3 i j l (tA K cl xc E f) D σ H := by
  obtain ⟨env, W, rfl, he, w, p⟩ := q
  refine ⟨env, W, rfl, he, w, (Post.bind p).imp fun xs W1 e1 w1 p1 vs r => ?_⟩
  match xs, p1, r with
  | [x, y, z], p1, .cons r1 (.cons r2 (.cons r3 .nil)) => exact ⟨_, _, _, rfl, Post.pure (a := ((.nx, ((env.set i (some x)).set j (some y)).set l (some z)) : Fl × Env)) w1 p1 _ ((((he.mono e1).set i r1).set j r2).set l r3)⟩
  | [], p1, _ => exact p1.elim
  | [_], p1, _ => exact p1.elim
  | [_, _], p1, _ => exact p1.elim
  | _ :: _ :: _ :: _ :: _, p1, _ => exact p1.elim
theorem tS_unpk {tg : Tg} (f : Env → M Vl) {D : Ends} {σ : L2.St} {H : Hp} (q : tS K cl xc E (fun env => do let v ← f env; let env ← ofO (bindT tg v env); pure (.nx, env)) D σ H) : tAsg (tE K cl xc E f) (tG K cl tg) D σ H := by
  obtain ⟨env, W, rfl, he, w, p⟩ := q
  refine ⟨env, W, rfl, he, w, (Post.bind p).imp fun x W1 e1 w1 p1 v r => ?_⟩
  cases hb : bindT tg x env with
  | none => rw [hb] at p1; exact p1.elim
  | some env1 =>
    rw [hb] at p1
    exact ⟨env, W1, x, env1, rfl, he.mono e1, w1, r, hb, fun σ' h' _ => Post.pure (a := ((.nx, env1) : Fl × Env)) w1 p1 σ' h'⟩
theorem tS_expr (f : Env → M Vl) {D : Ends} {σ : L2.St} {H : Hp} (q : tS K cl xc E (fun env => do let _ ← f env; pure (.nx, env)) D σ H) : tDrop (tE K cl xc E f) D σ H := by
  obtain ⟨env, W, rfl, he, w, p⟩ := q
  refine ⟨env, W, rfl, he, w, (Post.bind p).imp fun x W1 e1 w1 p1 v r => ?_⟩
  exact Post.pure w1 p1 σ (he.mono e1)
theorem tS_ret (f : Env → M Vl) {D : Ends} {σ : L2.St} {H : Hp} (q : tS K cl xc E (fun env => do let v ← f env; pure (.rt v, env)) D σ H) : tRet (tE K cl xc E f) D σ H := by
  obtain ⟨env, W, rfl, he, w, p⟩ := q
  refine ⟨env, W, rfl, he, w, (Post.bind p).imp fun x W1 e1 w1 p1 v r => ?_⟩
  exact Post.pure w1 p1 σ (he.mono e1) v r
theorem tS_retN {D : Ends} {σ : L2.St} {H : Hp} (q : tS K cl xc E (fun env => pure (.rt nonV, env)) D σ H) : tRetN D σ H := by
  obtain ⟨env, W, rfl, he, w, p⟩ := q
  exact Post.pure w p σ he .non .non
theorem tS_ite (c : Env → M Vl) (a b : Env → M (Fl × Env)) {D : Ends} {σ : L2.St} {H : Hp} (q : tS K cl xc E (fun env => do if ← asB (← c env) then a env else b env) D σ H) :
    tIfS (tT K cl xc E (fun env => c env >>= asB)) (tS K cl xc E a) (tS K cl xc E b) D σ H := by
  obtain ⟨env, W, rfl, he, w, p⟩ := q
  have p' : Post K cl xc E W (((c env >>= asB) >>= fun k => if k = true then a env else b env) W.st) fun p W' => ∀ σ', EnvR K W' σ' p.2 → FlR K D σ' W' p.1 := by
    rw [M.bind_assoc]; exact p
  refine ⟨env, W, rfl, he, w, (Post.bind p').imp fun k W1 e1 w1 p1 => ?_⟩
  cases k with
  | true => exact ⟨env, W1, rfl, he.mono e1, w1, p1⟩
  | false => exact ⟨env, W1, rfl, he.mono e1, w1, p1⟩
theorem tS_nil {D : Ends} {σ : L2.St} {H : Hp} (q : tS K cl xc E (fun env => pure (.nx, env)) D σ H) : tNext D σ H := by
  obtain ⟨env, W, rfl, he, w, p⟩ := q
  exact Post.pure w p σ he
theorem tS_cont {D : Ends} {σ : L2.St} {H : Hp} (q : tS K cl xc E (fun env => pure (.ct, env)) D σ H) : tCont D σ H := by
  obtain ⟨env, W, rfl, he, w, p⟩ := q
  exact Post.pure w p σ he
theorem tS_seq (a b : Env → M (Fl × Env)) {D : Ends} {σ : L2.St} {H : Hp} (q : tS K cl xc E (fun env => do
    match ← a env with
    | (.nx, env') => b env'
    | p => pure p) D σ H) : tSeq (tS K cl xc E a) (tS K cl xc E b) D σ H := by
  obtain ⟨env, W, rfl, he, w, p⟩ := q
  refine ⟨env, W, rfl, he, w, (Post.bind p).imp fun pr W1 e1 w1 p1 σ1 he1 => ?_⟩
  obtain ⟨fl, env1⟩ := pr
  cases fl with
  | nx => exact ⟨env1, W1, rfl, he1, w1, p1⟩
  | ct => exact Post.pure w1 p1 σ1 he1
  | bk => exact Post.pure w1 p1 σ1 he1
  | rt v => exact Post.pure w1 p1 σ1 he1
theorem tS_raise {c : Nat} {D : Ends} {σ : L2.St} {H : Hp} (q : tS K cl xc E (fun env => M.ex c) D σ H) : E (.ref (xc c)) none H := by
  obtain ⟨env, W, rfl, he, w, p⟩ := q
  exact p W.H W.m (Ex.refl _) w
theorem tS_setAttr {c : Nat} {f : Str} (hc : Cls K (cl c)) (hf : NoAttr K (cl c) f) (o e : Env → M Vl) {D : Ends} {σ : L2.St} {H : Hp} (q : tS K cl xc E (fun env => do
    let v ← e env
    let i ← getOb (← o env)
    setAt c i f v
    pure (.nx, env)) D σ H) : sFld K (tE K cl xc E o) (tE K cl xc E e) f D σ H := by
  obtain ⟨env, W, rfl, he, w, p⟩ := q
  refine ⟨env, W, rfl, he, w, (Post.bind p).imp fun x W1 e1 w1 p1 v r => ?_⟩
  refine ⟨env, W1, rfl, he.mono e1, w1, (Post.bind p1).imp fun y W2 e2 w2 p2 u ru => ?_⟩
  obtain ⟨i, a, rfl, rfl, hm, p3⟩ := getOb_ok ru p2
  obtain ⟨dx, gs, fs, h1, h2, h3, h4, h5, h6⟩ := setAt_ok w2 (r.mono e2) hm p3
  exact ⟨a, cl c, dx, gs, rfl, h1, hc, hf, h2, h6 _ _ h4 h5 σ (((he.mono e1).mono e2).mono h4)⟩
theorem tS_setIx (o i e : Env → M Vl) {D : Ends} {σ : L2.St} {H : Hp} (q : tS K cl xc E (fun env => do
    let v ← e env
    let w ← o env
    let x ← i env
    let j ← getOb w
    match ← Dw.getO j with
    | .dct kvs => do
      let d ← asD x
      let k ← Dw.keyOf d
      okS (decide (kvs.length < szLine)) () >>= fun _ => setO j (.dct (dPut kvs k v)) >>= fun _ => pure (.nx, env)
    | _ => M.no) D σ H) : sDPut (tE K cl xc E o) (tE K cl xc E i) (tE K cl xc E e) D σ H := by
  obtain ⟨env, W, rfl, he, w, p⟩ := q
  refine ⟨env, W, rfl, he, w, (Post.bind p).imp fun v W1 e1 w1 p1 u ru => ?_⟩
  refine ⟨env, W1, rfl, he.mono e1, w1, (Post.bind p1).imp fun y W2 e2 w2 p2 ub rb => ?_⟩
  refine ⟨env, W2, rfl, (he.mono e1).mono e2, w2, (Post.bind p2).imp fun z W3 e3 w3 p3 uz rz => ?_⟩
  obtain ⟨j, a, rfl, rfl, hm, p4⟩ := getOb_ok (rb.mono e3) p3
  obtain ⟨ob, a', h1, h2, h3, p5⟩ := Post.getO w3 p4
  rw [hm] at h2
  cases h2
  cases ob with
  | dct kvs =>
    obtain ⟨gs, g1, g2⟩ := h3
    obtain ⟨d, rfl, hd, p5⟩ := Post.asD rz p5
    obtain ⟨k, rfl, p5⟩ := keyOf_ok hd p5
    obtain ⟨hz, p5⟩ := Post.okB p5
    have hz := of_decide_eq_true hz
    obtain ⟨ex, w4⟩ := chg_dct (us := dPut kvs k v) (fs := putK gs k u) w3 hm h1 g1 (KsR.put g2 k ((ru.mono e2).mono e3))
    exact ⟨a, upd W3.H a (.dK (putK gs k u)), rfl, DPut.k g1 (by rw [← KsR.len g2, ← szE]; exact hz), p5 _ _ ex w4 σ ((((he.mono e1).mono e2).mono e3).mono ex)⟩
  | _ => exact p5.elim
end
end Dw

namespace Dw
open PySem L2
variable [Tb]
section
variable {X : Cx} {cl xc : Nat → Addr} {E : XK} {k : Nat} {N : List Str} {sc : Scope} {T : Tx}
theorem fItems_ok {K : PySem.W.Frag} {α : Type} {W : Wd} {v : V} {x : Vl} {f : List D → M α} {q : α → Wd → Prop} (r : RpV K W v x) (h : Post K cl xc E W ((fItems x >>= f) W.st) q) :
    ∃ t a xs ds, v = .ref a ∧ SqF K W t a xs ∧ RpA K W xs ds ∧ Post K cl xc E W (f ds W.st) q := by
  cases x with
  | o i => exact h.elim
  | d x =>
    cases x with
    | list ds =>
      cases r with
      | lst h1 h2 => exact ⟨false, _, _, ds, rfl, h1, h2, h⟩
    | tuple ds =>
      cases r with
      | tup h1 h2 => exact ⟨true, _, _, ds, rfl, h1, h2, h⟩
    | _ => exact h.elim
theorem tI_of (f : Env → M Vl) {σ : L2.St} {H : Hp} {R : L2.It → Hp → Prop} (q : tI X.K cl xc E (fun env => do wkOf (← f env)) σ H R) : iAny X.K (tE X.K cl xc E f) σ H R := by
  obtain ⟨env, W, rfl, he, w, p⟩ := q
  refine ⟨env, W, rfl, he, w, (Post.bind p).imp fun x W1 e1 w1 p1 v r => ?_⟩
  cases x with
  | o i =>
    obtain ⟨a, rfl, hm⟩ := r
    unfold wkOf at p1
    obtain ⟨ob, a', ho, hm', hr, p2⟩ := Post.getO w1 p1
    rw [hm] at hm'
    cases hm'
    cases ob with
    | lst ds =>
      obtain ⟨xs, h1, h2⟩ := hr
      exact .inl ⟨a, rfl, ⟨xs, .inl (.inl h1)⟩, Post.pure w1 p2 _ (jok_ob hm)⟩
    | _ => exact p2.elim
  | d x =>
    cases x with
    | list ds =>
      cases r with
      | lst h1 h2 => exact .inl ⟨_, rfl, ⟨_, h1.sq⟩, Post.pure w1 p1 _ (jok_lst h1 h2)⟩
    | tuple ds =>
      cases r with
      | tup h1 h2 => exact .inr (.inl ⟨_, rfl, ⟨_, h1.sq⟩, Post.pure w1 p1 _ (jok_tup h1 h2)⟩)
    | str z =>
      cases r
      exact .inr (.inr ⟨z, rfl, Post.pure w1 p1 _ jok_str⟩)
    | _ => exact p1.elim
theorem bnd_of {i : Int} (h : bnd62 i = true) : -(2 ^ 62) ≤ i ∧ i < 2 ^ 62 := by
  unfold bnd62 at h
  rw [Bool.and_eq_true] at h
  exact ⟨of_decide_eq_true h.1, of_decide_eq_true h.2⟩
theorem tI_range1 (g : Env → M (List Vl)) {σ : L2.St} {H : Hp} {R : L2.It → Hp → Prop} (hl : ∀ env s vs s', g env s = .ok vs s' → vs.length = 1) (q : tI X.K cl xc E (fun env => do wkRange (← g env)) σ H R) : iRng1 (tA X.K cl xc E g) σ H R := by
  obtain ⟨env, W, rfl, he, w, p⟩ := q
  refine ⟨env, W, rfl, he, w, ?_⟩
  have p' := Post.bind p
  cases e : g env W.st with
  | no => rw [e] at p'; exact p'.elim
  | ex c s => rw [e] at p'; exact p'
  | ok vs s =>
    have hv := hl _ _ _ _ e
    rw [e] at p'
    intro H1 m1 e1 w1 us rs
    have p1 := p' H1 m1 e1 w1
    match vs, hv, rs, p1 with
    | [x], _, rs, p1 =>
      obtain ⟨u, rfl, ru⟩ := one_of rs
      match x, ru, p1 with
      | .d (.int j), ru, p1 =>
        cases ru
        obtain ⟨hb, p2⟩ := Post.okP p1
        obtain ⟨b1, b2⟩ := bnd_of hb
        exact ⟨j, rfl, b1, b2, Post.pure (W := ⟨H1, W.F, m1, s⟩) w1 p2 _ jok_range⟩
      | .o _, _, p1 => exact p1.elim
      | .d .none, _, p1 => exact p1.elim
      | .d (.bool _), _, p1 => exact p1.elim
      | .d (.str _), _, p1 => exact p1.elim
      | .d (.tuple _), _, p1 => exact p1.elim
      | .d (.list _), _, p1 => exact p1.elim
      | .d (.dict _), _, p1 => exact p1.elim
theorem tI_range2 (g : Env → M (List Vl)) {σ : L2.St} {H : Hp} {R : L2.It → Hp → Prop} (hl : ∀ env s vs s', g env s = .ok vs s' → vs.length = 2) (q : tI X.K cl xc E (fun env => do wkRange (← g env)) σ H R) : iRng2 (tA X.K cl xc E g) σ H R := by
  obtain ⟨env, W, rfl, he, w, p⟩ := q
  refine ⟨env, W, rfl, he, w, ?_⟩
  have p' := Post.bind p
  cases e : g env W.st with
  | no => rw [e] at p'; exact p'.elim
  | ex c s => rw [e] at p'; exact p'
  | ok vs s =>
    have hv := hl _ _ _ _ e
    rw [e] at p'
    intro H1 m1 e1 w1 us rs
    have p1 := p' H1 m1 e1 w1
    match vs, hv, rs, p1 with
    | [x, y], _, rs, p1 =>
      obtain ⟨u, u2, rfl, ru, ru2⟩ := two_of rs
      cases x with
      | o i => exact p1.elim
      | d x =>
        cases x with
        | int i =>
          cases y with
          | o i => exact p1.elim
          | d y =>
            cases y with
            | int j =>
              cases ru; cases ru2
              obtain ⟨hb, p2⟩ := Post.okP p1
              rw [Bool.and_eq_true] at hb
              obtain ⟨b1, b2⟩ := bnd_of hb.1
              obtain ⟨b3, b4⟩ := bnd_of hb.2
              exact ⟨i, j, rfl, ⟨b1, b2, b3, b4⟩, Post.pure (W := ⟨H1, W.F, m1, s⟩) w1 p2 _ jok_range⟩
            | _ => exact p1.elim
        | _ => cases y <;> exact p1.elim
theorem tI_enum (f : Env → M Vl) {σ : L2.St} {H : Hp} {R : L2.It → Hp → Prop} (q : tI X.K cl xc E (fun env => do let xs ← fItems (← f env); pure (.its (enumD 0 xs))) σ H R) : iEnumK X.K (tCons (tE X.K cl xc E f) tNil) σ H R := by
  obtain ⟨env, W, rfl, he, w, p⟩ := q
  refine ⟨env, W, rfl, he, w, (Post.bind p).imp fun x W1 e1 w1 p1 v r => ?_⟩
  obtain ⟨t, a, xs, ds, rfl, h1, h2, p2⟩ := fItems_ok r p1
  exact ⟨t, a, xs, rfl, h1.sq, Post.pure w1 p2 _ (jok_enum h1 h2)⟩
theorem tI_zip (f g : Env → M Vl) {σ : L2.St} {H : Hp} {R : L2.It → Hp → Prop} (q : tI X.K cl xc E (fun env => do
    let x ← f env
    let y ← g env
    let xs ← fItems x
    let ys ← fItems y
    pure (.its (zipD xs ys))) σ H R) : iZipK X.K (tCons (tE X.K cl xc E f) (tCons (tE X.K cl xc E g) tNil)) σ H R := by
  obtain ⟨env, W, rfl, he, w, p⟩ := q
  refine ⟨env, W, rfl, he, w, (Post.bind p).imp fun x W1 e1 w1 p1 v r => ?_⟩
  refine ⟨env, W1, rfl, he.mono e1, w1, (Post.bind p1).imp fun y W2 e2 w2 p2 v2 r2 => ?_⟩
  obtain ⟨t, a, xs, ds, rfl, h1, h2, p3⟩ := fItems_ok (r.mono e2) p2
  obtain ⟨u, b, ys, es, rfl, h3, h4, p4⟩ := fItems_ok r2 p3
  exact ⟨t, u, a, b, xs, ys, rfl, h1.sq, h3.sq, Post.pure w2 p4 _ (jok_zip h1 h2 h3 h4)⟩
theorem rpvs_mono2 {K : PySem.W.Frag} {W W' : Wd} (e : Ex2 W W') : ∀ {vs : List V} {xs : List Vl}, RpVs K W vs xs → RpVs K W' vs xs
  | _, _, .nil => .nil
  | _, _, .cons r t => .cons (r.mono2 e) (rpvs_mono2 e t)
theorem rpvs_get {K : PySem.W.Frag} {W : Wd} : ∀ {vs : List V} {xs : List Vl}, RpVs K W vs xs → ∀ {i : Nat} {y : Vl}, xs[i]? = some y → ∃ v, vs[i]? = some v ∧ RpV K W v y
  | _, _, .nil, i, y, h => by simp at h
  | _, _, .cons r t, 0, y, h => by simp at h; subst h; exact ⟨_, rfl, r⟩
  | _, _, .cons r t, i + 1, y, h => by
    obtain ⟨v, h1, h2⟩ := rpvs_get t (i := i) (y := y) (by simpa using h)
    exact ⟨v, by simpa using h1, h2⟩
theorem rpvs_len {K : PySem.W.Frag} {W : Wd} : ∀ {vs : List V} {xs : List Vl}, RpVs K W vs xs → vs.length = xs.length
  | _, _, .nil => rfl
  | _, _, .cons _ t => by simp [rpvs_len t]
theorem jok_objs {K : PySem.W.Frag} {W : Wd} {a : Addr} {vs : List V} {xs : List Vl} (h : W.H a = some (.tup vs)) (o : Out W a) (r : RpVs K W vs xs) : JOk K cl W (Itt K a) (.its xs) := fun W1 e w i => by
  have h1 : TupAt K W1 a vs := .inl (e.out nt_tup h o)
  have r1 := rpvs_mono2 e r
  refine ⟨fun y hy => ?_, fun hl => ⟨vs, h1.sq, by rw [rpvs_len r1, ← hl]; exact Nat.le_refl _⟩⟩
  obtain ⟨v, g1, g2⟩ := rpvs_get r1 hy
  refine ⟨⟨vs, v, h1.sq, g1⟩, fun x H' q => ?_⟩
  obtain ⟨rfl, q⟩ := q
  have := q vs h1.sq
  rw [g1] at this
  cases this
  exact ⟨W1, rfl, rfl, rfl, Ex.refl _, w, g2⟩
theorem tI_objs (g : Env → M (List Vl)) {σ : L2.St} {H : Hp} {R : L2.It → Hp → Prop} (q : tI X.K cl xc E (fun env => do
    let vs ← g env
    okS (decide (vs.length ≤ szLine)) (.its vs)) σ H R) : iAny X.K (tTup (tA X.K cl xc E g)) σ H R := by
  obtain ⟨env, W, rfl, he, w, p⟩ := q
  refine ⟨env, W, rfl, he, w, (Post.bind p).imp fun xs W1 e1 w1 p1 vs rs => ?_⟩
  obtain ⟨hz, p2⟩ := Post.okP p1
  refine ⟨by rw [rpvs_len rs, ← szE]; exact of_decide_eq_true hz, fun a ha => .inr (.inl ⟨a, rfl, ⟨vs, (show TupAt X.K ⟨upd W1.H a (.tup vs), W1.F, W1.m, W1.st⟩ a vs from .inl ⟨upd_same, out_new w1 ha⟩).sq⟩, ?_⟩)⟩
  have ex : Ex W1 ⟨upd W1.H a (.tup vs), W1.F, W1.m, W1.st⟩ := Ex.new ha
  exact (p2 _ _ ex (w1.new ha)) _ (jok_objs (W := ⟨upd W1.H a (.tup vs), W1.F, W1.m, W1.st⟩) upd_same (out_new w1 ha) (RpVs.mono ex rs))
theorem rpa_rg {W : Wd} {j : Int} : ∀ n : Nat, RpA X.K W ((List.range n).map fun i => V.int (0 + (i : Nat))) ((List.range n).map fun (i : Nat) => PyData.int (i : Int)) := fun n => by
  generalize List.range n = l
  induction l with
  | nil => exact .nil
  | cons i l ih =>
    refine .cons ?_ ih
    show Rp X.K W (V.int (0 + (i : Int))) (.int (i : Int))
    rw [Int.zero_add]
    exact .int _
theorem tE_tupRg (f : Env → M Vl) {σ : L2.St} {H : Hp} {Q : VK} (q : tE X.K cl xc E (fun env => do let v ← f env; tupRgV v) σ H Q) : tTupRg (tRg1 (tE X.K cl xc E f)) σ H Q := by
  obtain ⟨env, W, rfl, he, w, p⟩ := q
  refine ⟨env, W, rfl, he, w, (Post.bind p).imp fun x W1 e1 w1 p1 v r => ?_⟩
  cases x with
  | o i => exact p1.elim
  | d x =>
    cases x with
    | int j =>
      cases r
      obtain ⟨hz, p2⟩ := Post.okP p1
      rw [Bool.and_eq_true, decide_eq_true_eq] at hz
      obtain ⟨b1, b2⟩ := bnd_of hz.1
      refine ⟨j, rfl, ⟨by omega, by omega, b1, b2, by have := hz.2; omega⟩, fun a ha => ?_⟩
      have e : rgV 0 j = (List.range j.toNat).map fun i => V.int (0 + (i : Nat)) := by unfold rgV; rw [Int.sub_zero]
      rw [e]
      exact Post.newTup w1 p2 (rpa_rg (j := j) j.toNat) ha
    | _ => exact p1.elim
theorem keysM_ok {K : PySem.W.Frag} {α : Type} {W : Wd} : ∀ {ds : List D} {vs : List V} {f : List Key → M α} {q : α → Wd → Prop}, RpA K W vs ds → Post K cl xc E W ((keysM ds >>= f) W.st) q → ∃ ks : List Key, vs = ks.map kV ∧ Post K cl xc E W (f ks W.st) q
  | [], _, f, q, r, h => by cases r; exact ⟨[], rfl, h⟩
  | d :: ds, _, f, q, r, h => by
    cases r with
    | cons r1 r2 =>
      unfold keysM at h
      rw [M.bind_assoc] at h
      obtain ⟨k, rfl, h⟩ := keyOf_ok r1 h
      rw [M.bind_assoc] at h
      obtain ⟨ks, rfl, h⟩ := keysM_ok r2 h
      exact ⟨k :: ks, rfl, h⟩
theorem zip_ks {W : Wd} : ∀ {ks : List Key} {vs : List V} {ds : List D}, ks.length = ds.length → RpA X.K W vs ds → KsR X.K W (ks.zip (ds.map Vl.d)) (ks.zip vs)
  | [], _, [], _, r => by cases r; exact .nil
  | [], _, _ :: _, h, _ => by simp at h
  | _ :: _, _, [], h, _ => by simp at h
  | k :: ks, _, d :: ds, h, .cons r1 r2 => .cons ⟨rfl, r1⟩ (zip_ks (by simpa using h) r2)
theorem tE_dzip (g : Env → M (List Vl)) {σ : L2.St} {H : Hp} {Q : VK} (q : tE X.K cl xc E (fun env => do let vs ← g env; dzipV vs) σ H Q) : tDZ X.K (tA X.K cl xc E g) σ H Q := by
  obtain ⟨env, W, rfl, he, w, p⟩ := q
  refine ⟨env, W, rfl, he, w, (Post.bind p).imp fun xs W1 e1 w1 p1 vs rs => ?_⟩
  unfold dzipV at p1
  split at p1
  · rename_i xs ys
    cases rs with
    | cons r1 rs =>
      cases rs with
      | cons r2 rs =>
        cases rs
        cases r1 with
        | tup a1 a2 =>
          cases r2 with
          | tup b1 b2 =>
            obtain ⟨ks, rfl, p2⟩ := keysM_ok a2 p1
            obtain ⟨hz, p2⟩ := Post.okB p2
            simp only [Bool.and_eq_true, decide_eq_true_eq] at hz
            exact ⟨_, _, ks, _, rfl, a1.sq, b1.sq, by rw [hz.1]; exact b2.len.symm ▸ rfl, fun p hp => Post.newDct w1 p2 (KsR.mrg .nil (zip_ks hz.1 b2)) hp⟩
  · exact p1.elim
theorem tE_join (f g : Env → M Vl) {σ : L2.St} {H : Hp} {Q : VK} (q : tE X.K cl xc E (fun env => do let x ← f env; let z ← asTx x; let y ← g env; txmV .join z y) σ H Q) :
    tM1 (fun x xs H Q => ∃ a p, ∃ ys : List Str, x = .str a ∧ xs = [.ref p] ∧ (SqL X.K H p (ys.map V.str) ∨ SqT X.K H p (ys.map V.str)) ∧
      (ys.map (·.length)).sum + ys.length * a.length ≤ 16777216 ∧ Q (.str (PySem.Txt.join a ys)) H) (tE X.K cl xc E f) (tE X.K cl xc E g) σ H Q := by
  obtain ⟨env, W, rfl, he, w, p⟩ := q
  refine ⟨env, W, rfl, he, w, (Post.bind p).imp fun x W1 e1 w1 p1 v r => ?_⟩
  cases x with
  | o i => exact p1.elim
  | d x =>
    cases x with
    | str z =>
      cases r
      have p1 : Post X.K cl xc E W1 ((g env >>= fun y => txmV .join z y) W1.st) _ := p1
      refine ⟨⟨z, rfl⟩, env, W1, rfl, he.mono e1, w1, (Post.bind p1).imp fun y W2 e2 w2 p2 u ru => ?_⟩
      obtain ⟨a, xs, ds, rfl, ha, ra, h, _⟩ := Post.lItems w2 ru p2
      obtain ⟨ss, rfl, _, h⟩ := strsM_ok ra h
      obtain ⟨hz, h⟩ := Post.okP h
      exact ⟨z, a, ss, rfl, rfl, .inl (.inl (.inl ha)), of_decide_eq_true hz, Post.val w2 h (.str _)⟩
    | _ => exact p1.elim
theorem tE_split (f g : Env → M Vl) {σ : L2.St} {H : Hp} {Q : VK} (q : tE X.K cl xc E (fun env => do let x ← f env; let z ← asTx x; let y ← g env; txmV .split z y) σ H Q) :
    tM1 (fun x xs H Q => ∃ a b, x = .str a ∧ xs = [.str b] ∧ (b.length == 0) = false ∧ a.length + 2 ≤ sizeLine ∧ rNewStrs (PySem.Txt.split a b) H Q) (tE X.K cl xc E f) (tE X.K cl xc E g) σ H Q := by
  obtain ⟨env, W, rfl, he, w, p⟩ := q
  refine ⟨env, W, rfl, he, w, (Post.bind p).imp fun x W1 e1 w1 p1 v r => ?_⟩
  cases x with
  | o i => exact p1.elim
  | d x =>
    cases x with
    | str z =>
      cases r
      have p1 : Post X.K cl xc E W1 ((g env >>= fun y => txmV .split z y) W1.st) _ := p1
      refine ⟨⟨z, rfl⟩, env, W1, rfl, he.mono e1, w1, (Post.bind p1).imp fun y W2 e2 w2 p2 u ru => ?_⟩
      cases y with
      | o i => exact p2.elim
      | d y =>
        cases y with
        | str b =>
          cases ru
          obtain ⟨hz, h⟩ := Post.okP p2
          rw [Bool.and_eq_true, decide_eq_true_eq, Bool.not_eq_true'] at hz
          exact ⟨z, b, rfl, rfl, hz.1, by rw [← szE]; exact hz.2, fun p hp => Post.newLst w2 h (rpa_strs _) hp⟩
        | _ => exact p2.elim
    | _ => exact p1.elim
/-! ### forms -/
mutual
theorem chk_plain : ∀ (e : Dw.E) (sc : Scope) (x : Expr), chkE T N sc e x = true → plainX x = true
  | .frz a, sc, x, h => by unfold chkE at h; exact chk_plain a sc x h
  | .non, sc, x, h => by unfold chkE at h; cases x <;> first | rfl | cases h
  | .bl b, sc, x, h => by unfold chkE at h; cases x <;> first | rfl | cases h
  | .int b, sc, x, h => by unfold chkE at h; cases x <;> first | rfl | cases h
  | .str b, sc, x, h => by unfold chkE at h; cases x <;> first | rfl | cases h
  | .var b, sc, x, h => by unfold chkE at h; cases x <;> first | rfl | cases h
  | .glb b c, sc, x, h => by unfold chkE at h; cases x <;> first | rfl | cases h
  | .bin _ _ _, sc, x, h => by unfold chkE at h; cases x <;> first | rfl | cases h
  | .cmp _ _ _, sc, x, h => by unfold chkE at h; cases x <;> first | rfl | cases h
  | .chain _ _ _ _ _, sc, x, h => by unfold chkE at h; cases x <;> first | rfl | cases h
  | .andE _, sc, x, h => by unfold chkE at h; cases x <;> first | rfl | cases h
  | .orE _, sc, x, h => by unfold chkE at h; cases x <;> first | rfl | cases h
  | .notE _, sc, x, h => by unfold chkE at h; cases x <;> first | rfl | cases h
  | .neg _, sc, x, h => by unfold chkE at h; cases x <;> first | rfl | cases h
  | .call _ _ _, sc, x, h => by unfold chkE at h; cases x <;> first | rfl | cases h
  | .meth _ _ _ _ _, sc, x, h => by unfold chkE at h; cases x <;> first | rfl | cases h
  | .make _ _ _, sc, x, h => by unfold chkE at h; cases x <;> first | rfl | cases h
  | .bi _ _, sc, x, h => by unfold chkE at h; cases x <;> first | rfl | cases h
  | .isi _ _, sc, x, h => by unfold chkE at h; cases x <;> first | rfl | cases h
  | .mt _ _ _, sc, x, h => by unfold chkE at h; cases x <;> first | rfl | cases h
  | .tup _, sc, x, h => by unfold chkE at h; cases x <;> first | rfl | cases h
  | .lst _ _, sc, x, h => by unfold chkE at h; cases x <;> first | rfl | cases h
  | .ix _ _, sc, x, h => by unfold chkE at h; cases x <;> first | rfl | cases h
  | .sl _ _ _, sc, x, h => by unfold chkE at h; cases x <;> first | rfl | cases h
  | .addM _ _, sc, x, h => by unfold chkE at h; cases x <;> first | rfl | cases h
  | .stp _ _ _, sc, x, h => by unfold chkE at h; cases x <;> first | rfl | cases h
  | .comp _ _ _ _ _ _, sc, x, h => by unfold chkE at h; cases x <;> first | rfl | cases h
  | .attr _ _ _, sc, x, h => by unfold chkE at h; cases x <;> first | rfl | cases h
  | .setE _ _, sc, x, h => by unfold chkE at h; cases x <;> first | rfl | cases h
  | .dic _, sc, x, h => by unfold chkE at h; cases x <;> first | rfl | cases h
  | .dgt _ _ _, sc, x, h => by unfold chkE at h; cases x <;> first | rfl | cases h
  | .tupRg _, sc, x, h => by unfold chkE at h; cases x <;> first | rfl | cases h
  | .dzip _, sc, x, h => by unfold chkE at h; cases x <;> first | rfl | cases h
  | .txm _ _ _, sc, x, h => by unfold chkE at h; cases x <;> first | rfl | cases h
  | .told _ _, sc, x, h => by unfold chkE at h; cases x <;> first | rfl | cases h
end
theorem chkIt_plain : ∀ (it : Dw.It) (sc : Scope) (x t : Expr), chkIt T N sc it x t = true → plainX x = true
  | .of a, sc, x, t, h => by unfold chkIt at h; exact chk_plain a sc x h
  | .range _, sc, x, t, h => by unfold chkIt at h; cases x <;> first | rfl | cases h
  | .enum _, sc, x, t, h => by
    unfold chkIt at h
    split at h
    · rfl
    · cases h
  | .zip _ _, sc, x, t, h => by
    unfold chkIt at h
    split at h
    · rfl
    · cases h
  | .objs _, sc, x, t, h => by unfold chkIt at h; cases x <;> first | rfl | cases h
theorem tMeth_mono {C : Addr} {m : Str} {sp : Sp} {dvs : List V} {E : XK} {ta : TE} {t t' : TA} (h : ∀ σ H Q, t' σ H Q → t σ H Q) {σ : L2.St} {H : Hp} {Q : VK} (q : tMeth C m sp dvs E ta t' σ H Q) (hta : ∀ (σ : L2.St) (H : Hp) (Q Q' : VK), (∀ v H, Q v H → Q' v H) → ta σ H Q → ta σ H Q') : tMeth C m sp dvs E ta t σ H Q :=
  hta _ _ _ _ (fun x H1 ⟨a, dx, fs, e, i, l, q⟩ => ⟨a, dx, fs, e, i, l, h _ _ _ q⟩) q
theorem tE_monoQ {K : PySem.W.Frag} {f : Env → M Vl} (σ : L2.St) (H : Hp) (Q Q' : VK) (h : ∀ v H, Q v H → Q' v H) (q : tE K cl xc E f σ H Q) : tE K cl xc E f σ H Q' := by
  obtain ⟨env, W, e, he, w, p⟩ := q
  exact ⟨env, W, e, he, w, p.imp fun x W1 _ _ p v r => h _ _ (p v r)⟩
theorem chks_plain : ∀ (as : Es) (sc : Scope) (es : List Expr), chkEs T N sc as es = true → ∀ e ∈ es, plainX e = true
  | .nil, sc, es, h => by
    unfold chkEs at h
    cases es with
    | nil => exact fun e he => absurd he List.not_mem_nil
    | cons e es => cases h
  | .cons a r, sc, es, h => by
    unfold chkEs at h
    cases es with
    | nil => cases h
    | cons e es =>
      simp only [Bool.and_eq_true] at h
      intro x hx
      rcases List.mem_cons.mp hx with z | z
      · rw [z]; exact chk_plain a sc e h.1
      · exact chks_plain r sc es h.2 x z
theorem chkPs_all : ∀ (ps : Ps) (sc : Scope) (ks : List (Option Expr)) (vs : List Expr), chkPs T N sc ps ks vs = true → ks.all (·.isSome) = true ∧ ks.length = vs.length
  | .nil, sc, ks, vs, h => by
    unfold chkPs at h
    split at h
    · exact ⟨rfl, rfl⟩
    · cases h
  | .cons _ _ r, sc, ks, vs, h => by
    unfold chkPs at h
    split at h
    · rename_i x xs y ys
      simp only [Bool.and_eq_true] at h
      obtain ⟨a, b⟩ := chkPs_all r sc xs ys h.2
      exact ⟨by rw [List.all_cons, a]; rfl, by rw [List.length_cons, List.length_cons, b]⟩
    · cases h
theorem get_m2 {o e f : Expr} {ap p : Pos} (h1 : recvX o = true) (h2 : (ap.endLine == p.line) = true) (h3 : plainX e = true) (h4 : plainX f = true) : M2 X o "get" ap e f p where
  base := recv_base h1
  few := few_args (by show 2 < 30; decide) fun x hx => by
    rcases List.mem_cons.mp hx with z | z
    · rw [z]; exact h3
    · rw [List.mem_singleton.mp z]; exact h4
  line := h2
  trees := by rw [star_plain h3, star_plain h4]; rfl
theorem evEs_len {Φ : Nat → List Vl → M Vl} : ∀ (as : Es) (sc : Scope) (es : List Expr), chkEs T N sc as es = true → ∀ env s vs s', evEs Φ as env s = .ok vs s' → vs.length = es.length
  | .nil, sc, es, h, env, s, vs, s', e => by
    unfold chkEs at h
    cases es with
    | nil => rw [evEs] at e; cases e; rfl
    | cons _ _ => cases h
  | .cons a r, sc, es, h, env, s, vs, s', e => by
    unfold chkEs at h
    cases es with
    | nil => cases h
    | cons e1 es =>
      simp only [Bool.and_eq_true] at h
      rw [evEs] at e
      obtain ⟨x, s1, h1, e2⟩ := M.ok_bind e
      obtain ⟨xs, s2, h2, e3⟩ := M.ok_bind e2
      cases e3
      simp [evEs_len r sc es h.2 env s1 xs _ h2]
end
end Dw

namespace Dw
open PySem L2
variable [Tb]
section
variable {cl xc : Nat → Addr} {k : Nat} {N : List Str} {T : Tx}
theorem blt_of {X : Cx} (F : Fac T k X.prog X.w X.K X.mg X.base cl xc) {x : Str} (h : T.blt.contains x = true) : X.mg x = none := F.blt x (by simpa using h)
theorem lastM {op1 op2 : CmpOp} {b c : Expr} (hb : plainX b = true) (hc : plainX c = true) : lastMarks [op1, op2] [b, c] = false := by
  cases c <;> first
    | rfl
    | cases hc
theorem passes0 {X : Cx} {E : XK} {sc : Scope} (c : Cok k N sc X E) : Passes (L2.CX X.prog X.w) X E := passes_call c.tk fun _ _ _ _ h => h
theorem any_inf {T : Tx} {p : FI → Bool} (h : T.inf.any p = true) : ∃ I ∈ T.inf, p I = true := by simpa [List.any_eq_true] using h
theorem any_cls {T : Tx} {p : CI → Bool} (h : T.cls.any p = true) : ∃ I ∈ T.cls, p I = true := by simpa [List.any_eq_true] using h
theorem any_con {T : Tx} {p : Str × D → Bool} (h : T.con.any p = true) : ∃ I ∈ T.con, p I = true := by simpa [List.any_eq_true] using h
theorem room_of {X : Cx} {E : XK} {sc : Scope} (c : Cok k N sc X E) : Room (4 * k) X.A := c.room.mono (by omega)
/-- a call's names -/
theorem nmF {x : Str} (h : okNm x = true) : (x == ("__debug__" : Str)) = false := (okNm_of h).1
theorem takes0 {X : Cx} {s : Shared} {H : Hp} {scope : Scope} {cenv : PySem.Env} {fp : List Addr} : Takes (X.blk s H scope cenv fp) (fun cls d _ H => F0 cls d H) := fun u s' ⟨a, B, sI, pins, σ, H, cls, d, e, I, nb, up, sky, na, os, ag, w⟩ => w
/-- the context of a block -/
theorem Cok.blk {X : Cx} {E : XK} {sc : Scope} (c : Cok k N sc X E) (hl : lamA sc = true) (s : Shared) (H : Hp) (C : Addr) (clo : List (Str × Addr)) (fp : List Addr) (scope : Scope) :
    Cok k N (relS scope sc) (X.blk s H scope (compEnvC scope clo C X.env) fp) F0 :=
  ⟨c.hN, c.nd, by show relS scope X.env.scope = _; rw [c.hsc], c.calm, c.room, takes0, fun _ => (let ⟨⟨cc, P, h1, h2, h3⟩, h4⟩ := c.lam hl; ⟨⟨cc, P, h1, h2, h3⟩, h4⟩), fun z _ => c.gd z hl⟩
theorem nms_blk {X : Cx} {E : XK} {sc : Scope} (c : Cok k N sc X E) (s : Shared) (H : Hp) (C : Addr) (clo : List (Str × Addr)) (fp : List Addr) (scope : Scope) :
    Nms N scope (relS scope sc) (X.blk s H scope (compEnvC scope clo C X.env) fp) := by
  refine ⟨c.hN, c.nd, by show relS scope X.env.scope = _; rw [c.hsc], c.calm, fun x h => ?_⟩
  unfold locB at h
  cases e : scope.names.lookup x with
  | none => rw [e] at h; cases h
  | some kd =>
    rw [e] at h
    cases kd <;> first
      | exact .inr (lookup_relS_keep (by simp) e)
      | (refine .inl ?_
         show (scope.names.lookup x == some NameKind.cell) = true
         rw [e]; rfl)
      | cases h
theorem frz_no (v : Vl) (s : Sto) : (frzV v >>= asB) s = .no := by
  cases v with
  | d x => rfl
  | o i =>
    unfold frzV
    simp only [M.bind_assoc]
    rw [M.bind_run]
    unfold getO
    cases s[i]? with
    | none => rfl
    | some o => cases o <;> rfl
theorem lo_ok {X : Cx} {lo : Option Int} {l : Option Expr} (h : loC lo l = true) : ∃ tl : TO, PO X l tl ∧ ∀ σ H Q, Q lo H → tl σ H Q := by
  unfold loC at h
  split at h
  · exact ⟨_, po_none, fun σ H Q q => q⟩
  · rename_i i j k p
    have : i = j := by simpa using h
    subst this
    exact ⟨_, po_some pe_int, fun σ H Q q => ⟨i, rfl, q⟩⟩
  · cases h
theorem st_ok {X : Cx} {st : Int} {z : Expr} (h : stC st z = true) : ∃ ts : TO, PO X (some z) ts ∧ ∀ σ H Q, Q (some st) H → ts σ H Q := by
  unfold stC at h
  split at h
  · rename_i j k p
    have : st = j := by simpa using h
    subst this
    exact ⟨_, po_some pe_int, fun σ H Q q => ⟨st, rfl, q⟩⟩
  · rename_i j k p p2
    have : st = -j := by simpa using h
    subst this
    exact ⟨_, po_some (pe_un un_neg pe_int), fun σ H Q q => ⟨j, rfl, -j, rfl, q⟩⟩
  · cases h
mutual
theorem sndE : ∀ (e : Dw.E) {X : Cx} {E : XK} {sc : Scope}, Cok k N sc X E → Fac T k X.prog X.w X.K X.mg X.base cl xc → ∀ x : Expr, chkE T N sc e x = true → PE X x (tE X.K cl xc E (evE (Phi T.fns k) e))
  | .non, X, E, sc, c, F, x, h => by
    unfold chkE at h
    split at h
    · exact PE.imp pe_non fun σ H Q q => tE_const (z := nonV) (v := .non) (fun _ => .non) (by simp only [evE] at q; exact q)
    · cases h
  | .bl b, X, E, sc, c, F, x, h => by
    unfold chkE at h
    split at h
    · simp only [beq_iff_eq] at h
      subst h
      exact PE.imp pe_bl fun σ H Q q => tE_const (z := blV b) (v := .bl b) (fun _ => .bl b) (by simp only [evE] at q; exact q)
    · cases h
  | .int b, X, E, sc, c, F, x, h => by
    unfold chkE at h
    split at h
    · simp only [beq_iff_eq] at h
      subst h
      exact PE.imp pe_int fun σ H Q q => tE_const (z := Dw.inV b) (v := .int b) (fun _ => .int b) (by simp only [evE] at q; exact q)
    · cases h
  | .str b, X, E, sc, c, F, x, h => by
    unfold chkE at h
    split at h
    · simp only [beq_iff_eq] at h
      subst h
      exact PE.imp pe_str fun σ H Q q => tE_const (z := stV b) (v := .str b) (fun _ => .str b) (by simp only [evE] at q; exact q)
    · cases h
  | .var i, X, E, sc, c, F, x, h => by
    unfold chkE at h
    split at h
    · simp only [Bool.and_eq_true, beq_iff_eq] at h
      obtain ⟨⟨h1, h2⟩, h3⟩ := h
      obtain ⟨n1, n2, n3⟩ := okNm_of h3
      exact PE.imp (pe_var (by rw [c.hN]; exact h1) (by rw [c.hsc]; exact vis_of h2) n1 n2) fun σ H Q q => tE_var (X := X) (cl := cl) (xc := xc) (E := E) i (by simp only [evE] at q; exact q)
    · cases h
  | .glb z d, X, E, sc, c, F, x, h => by
    unfold chkE at h
    split at h
    · simp only [Bool.and_eq_true, beq_iff_eq] at h
      obtain ⟨⟨⟨h1, h2⟩, h3⟩, h4⟩ := h
      obtain ⟨p, hp, hq⟩ := any_con h4
      simp only [Bool.and_eq_true, beq_iff_eq] at hq
      obtain ⟨v, u, f1, f2, f3⟩ := F.con p hp
      have hd := beqD_eq _ _ hq.2
      rw [hq.1] at f1
      exact PE.imp (pe_glob (glo_of c.hsc h2) f1 f2 (nmF h3)) fun σ H Q q => tE_const (z := .d d) (v := v) (fun W => by rw [← hd]; exact f3 W) (by simp only [evE] at q; exact q)
    · cases h
  | .bin op a b, X, E, sc, c, F, x, h => by
    unfold chkE at h
    split at h
    · simp only [Bool.and_eq_true, beq_iff_eq] at h
      obtain ⟨⟨rfl, ha⟩, hb⟩ := h
      obtain ⟨r, o1, o2⟩ := bin_ok (X := X) (cl := cl) (xc := xc) (E := E) op
      exact PE.imp (pe_op o1 (sndE a c F _ ha) (sndE b c F _ hb)) fun σ H Q q => tE_bin _ _ _ o2 (by simp only [evE] at q; exact q)
    · cases h
  | .cmp op a b, X, E, sc, c, F, x, h => by
    unfold chkE at h
    split at h
    · simp only [Bool.and_eq_true, beq_iff_eq] at h
      obtain ⟨⟨rfl, ha⟩, hb⟩ := h
      obtain ⟨r, o1, o2⟩ := cmp_ok (cl := cl) (xc := xc) (E := E) c.hu op
      exact PE.imp (pe_cmpR o1 (sndE a c F _ ha) (sndE b c F _ hb) (noMark (chk_plain b sc _ hb))) fun σ H Q q => tE_cmp _ _ _ o2 (by simp only [evE] at q; exact q)
    · cases h
  | .chain p1 p2 a b d, X, E, sc, c, F, x, h => by
    unfold chkE at h
    split at h
    · simp only [Bool.and_eq_true, beq_iff_eq] at h
      obtain ⟨⟨⟨⟨rfl, rfl⟩, ha⟩, hb⟩, hd⟩ := h
      obtain ⟨r1, o1, o2⟩ := cmp_ok (cl := cl) (xc := xc) (E := E) c.hu p1
      obtain ⟨r2, o3, o4⟩ := cmp_ok (cl := cl) (xc := xc) (E := E) c.hu p2
      exact PE.imp (pe_chain o1 o3 (sndE a c F _ ha) (sndE b c F _ hb) (sndE d c F _ hd) (lastM (chk_plain b sc _ hb) (chk_plain d sc _ hd))) fun σ H Q q => tE_chain _ _ _ _ _ o2 o4 (by simp only [evE] at q; exact q)
    · cases h
  | .andE as, X, E, sc, c, F, x, h => by
    unfold chkE at h
    split at h
    · exact PE.imp (sndAnd as c F _ h) fun σ H Q q => by simpa only [evE] using q
    · cases h
  | .orE as, X, E, sc, c, F, x, h => by
    unfold chkE at h
    split at h
    · exact PE.imp (sndOr as c F _ h) fun σ H Q q => by simpa only [evE] using q
    · cases h
  | .notE a, X, E, sc, c, F, x, h => by
    unfold chkE at h
    split at h
    · exact PE.imp (pe_not (sndE a c F _ h)) fun σ H Q q => tE_not (X := X) _ (by simp only [evE] at q; exact q)
    · cases h
  | .neg a, X, E, sc, c, F, x, h => by
    unfold chkE at h
    split at h
    · exact PE.imp (pe_un un_neg (sndE a c F _ h)) fun σ H Q q => tE_neg (X := X) _ (by simp only [evE] at q; exact q)
    · cases h
  | .call pu f as, X, E, sc, c, F, x, h => by
    unfold chkE at h
    split at h
    · simp only [Bool.and_eq_true] at h
      obtain ⟨⟨⟨h1, h2⟩, h3⟩, h4⟩ := h
      obtain ⟨I, hI, hq⟩ := any_inf h1
      simp only [Bool.and_eq_true, beq_iff_eq] at hq
      obtain ⟨⟨i1, i2⟩, i3⟩ := hq
      obtain ⟨a, fd, g1, g2, g3, g4⟩ := F.fn I hI
      rw [i3] at g4
      obtain ⟨g4, g5⟩ := g4
      have hp := chks_plain as sc _ h4
      rw [i1] at g1 g3
      refine PE.imp (pe_call g1 (room_of c) (glo_of c.hsc h2) (by rw [← i2]; exact g4) g5 g2 .nil (passes0 c) (sndA as c F _ h4) (nmF h3) (star_plain (hp _ List.mem_cons_self)) (star_none fun e he => hp e (List.mem_cons_of_mem _ he))) fun σ H Q q => ?_
      cases pu with
      | false => exact tE_call g3 _ (by simp only [evE, Bool.false_eq_true, if_false] at q; exact q)
      | true => exact tE_callP g3 _ (by simp only [evE, if_true] at q; exact q)
    · cases h
  | .meth ci m f o as, X, E, sc, c, F, x, h => by
    unfold chkE at h
    split at h
    · rename_i v n ap es p
      simp only [Bool.and_eq_true, beq_iff_eq, decide_eq_true_eq] at h
      obtain ⟨⟨⟨⟨⟨⟨⟨h1, h2⟩, h3⟩, h4⟩, h5⟩, h6⟩, h7⟩, h8⟩ := h
      subst h1
      obtain ⟨I, hI, hq⟩ := any_inf h2
      simp only [Bool.and_eq_true, beq_iff_eq] at hq
      obtain ⟨⟨i1, i2⟩, i3⟩ := hq
      obtain ⟨J, hJ, j1⟩ := any_cls h3
      have j1 : J.c = ci := by simpa using j1
      obtain ⟨a, fd, g1, g2, g3, g4⟩ := F.fn I hI
      rw [i3] at g4
      dsimp only at g4
      rw [i1] at g1 g3
      rw [i2] at g4
      have hcl := (F.cls J hJ).1
      rw [j1] at hcl
      have hp := chks_plain as sc _ h8
      cases es with
      | nil =>
        cases as with
        | nil =>
          refine PE.imp (pe_meth0 (sndE o c F _ h4) hcl g4 g1 (room_of c) g2 .nil (passes0 c) (meth_tree h5 (by simpa using h6) h7 hp)) fun σ H Q q => ?_
          have := tE_meth (X := X) g3 (evE (Phi T.fns k) o) (fun _ => (pure [] : M (List Vl))) (σ := σ) (H := H) (Q := Q) (c := ci) (m := n) (by simp only [evE, evEs] at q; exact q)
          exact tMeth_mono (fun σ H Q q => tA_nil (X := X) q) this tE_monoQ
        | cons _ _ => unfold chkEs at h8; cases h8
      | cons e es =>
        exact PE.imp (pe_meth (sndE o c F _ h4) hcl g4 g1 (room_of c) g2 .nil (passes0 c) (sndA as c F _ h8) (star_plain (hp _ List.mem_cons_self)) (star_none fun e he => hp e (List.mem_cons_of_mem _ he)) (meth_tree h5 (by simpa using h6) h7 hp)) fun σ H Q q =>
          tE_meth (X := X) g3 _ _ (by simp only [evE] at q; exact q)
    · cases h
  | .make ci f as, X, E, sc, c, F, x, h => by
    unfold chkE at h
    split at h
    · simp only [Bool.and_eq_true] at h
      obtain ⟨⟨⟨h1, h2⟩, h3⟩, h4⟩ := h
      obtain ⟨J, hJ, j1⟩ := any_cls h1
      simp only [Bool.and_eq_true, beq_iff_eq] at j1
      obtain ⟨⟨j1, j2⟩, j3⟩ := j1
      obtain ⟨g1, g2, g3, a, fd, ps, g4, g5, g6, g7⟩ := F.cls J hJ
      rw [j1] at g1 g2 g4
      rw [j2] at g2
      rw [j3] at g6 g7
      have hp := chks_plain as sc _ h4
      exact PE.imp (pe_make g4 g7 (c.room) (glo_of c.hsc h2) g2 g5 .nil (passes0 c) (sndA as c F _ h4) (nmF h3) (star_plain (hp _ List.mem_cons_self)) (star_none fun e he => hp e (List.mem_cons_of_mem _ he))) fun σ H Q q =>
        tE_make (X := X) g6 _ (by simp only [evE] at q; exact q)
    · cases h
  | .bi b as, X, E, sc, c, F, x, h => by
    unfold chkE at h
    split at h
    · simp only [Bool.and_eq_true, beq_iff_eq] at h
      obtain ⟨⟨⟨⟨⟨h1, h2⟩, h3⟩, h4⟩, h5⟩, h6⟩ := h
      have hp := chks_plain as sc _ h6
      have hs := star_plain (env := X.env) (es := ‹List Expr›) (hp _ List.mem_cons_self)
      have hn := star_none (env := X.env) (pos := ‹Pos›) fun e he => hp e (List.mem_cons_of_mem _ he)
      refine PE.imp (t := tCB (BiR X.K b) (tA X.K cl xc E (evEs (Phi T.fns k) as))) ?_ fun σ H Q q => tE_bi (X := X) b _ (by simp only [evE] at q; exact q)
      have hm := blt_of F h3
      have ha := sndA as c F _ h6
      have hg := glo_of c.hsc h4
      obtain ⟨n1, n2, n3⟩ := okNm_of h5
      subst h1
      have hrp : b = .repr → X.A.guards = some [] := fun e => by
        subst e
        rw [Bool.or_eq_true] at h2
        rcases h2 with h2 | h2
        · cases h2
        · simp only [Bool.and_eq_true] at h2
          exact c.gd h2.1.2 h2.2
      cases b <;> first
        | exact pe_callB (cr_repr c.hu6 (hrp rfl)) hg hm (by decide +kernel) ha n3 n1 hs hn
        | exact pe_callB (bi_call c.calm c.hu6 .len (by decide)) hg hm (by decide +kernel) ha n3 n1 hs hn
        | exact pe_callB (bi_call c.calm c.hu6 .all (by decide)) hg hm (by decide +kernel) ha n3 n1 hs hn
        | exact pe_callB (bi_call c.calm c.hu6 .any (by decide)) hg hm (by decide +kernel) ha n3 n1 hs hn
        | exact pe_callB (bi_call c.calm c.hu6 .min (by decide)) hg hm (by decide +kernel) ha n3 n1 hs hn
        | exact pe_callB (bi_call c.calm c.hu6 .max (by decide)) hg hm (by decide +kernel) ha n3 n1 hs hn
        | exact pe_callB (bi_call c.calm c.hu6 .sum (by decide)) hg hm (by decide +kernel) ha n3 n1 hs hn
        | exact pe_callB (bi_call c.calm c.hu6 .sorted (by decide)) hg hm (by decide +kernel) ha n3 n1 hs hn
        | exact pe_callB (bi_call c.calm c.hu6 .sortedK (by decide)) hg hm (by decide +kernel) ha n3 n1 hs hn
        | exact pe_callB (bi_call c.calm c.hu6 .minD (by decide)) hg hm (by decide +kernel) ha n3 n1 hs hn
        | exact pe_callTy (bi_call c.calm c.hu6 .dict (by decide)) hg hm (by decide +kernel) ha n3 n1 hs hn
        | exact pe_callTy (bi_call c.calm c.hu6 .tuple (by decide)) hg hm (by decide +kernel) ha n3 n1 hs hn
        | exact pe_callTy (bi_call c.calm c.hu6 .list (by decide)) hg hm (by decide +kernel) ha n3 n1 hs hn
        | exact pe_callTy (bi_call c.calm c.hu6 .int (by decide)) hg hm (by decide +kernel) ha n3 n1 hs hn
        | exact pe_callTy (bi_call c.calm c.hu6 .str (by decide)) hg hm (by decide +kernel) ha n3 n1 hs hn
        | cases h2
    · cases h
  | .isi a ty, X, E, sc, c, F, x, h => by
    unfold chkE at h
    split at h
    · rename_i p e t p2 pos
      simp only [Bool.and_eq_true, beq_iff_eq] at h
      obtain ⟨⟨⟨⟨⟨⟨⟨⟨h1, h2⟩, h3⟩, h4⟩, h5⟩, h6⟩, h7⟩, h8⟩, h9⟩ := h
      subst h1 h2
      obtain ⟨n1, n2, n3⟩ := okNm_of h8
      have hpe := chk_plain a sc _ h9
      have ht := blt_of F h5
      have hgt := glo_of c.hsc h7
      have key : ∀ n : String, tyVal t = some n → bootBuiltins t = some (.type n) → PE X (.Call (.Name "isinstance" p) [e, .Name t p2] [] pos) (tE X.K cl xc E (evE (Phi T.fns k) (.isi a t))) := fun n hv hb =>
        PE.imp (pe_callB call_isi (glo_of c.hsc h6) (blt_of F h4) PyProof.Rows.boot_isinstance (pa_cons (sndE a c F _ h9) (pa_cons (pe_bltn (v := .ty n) (u := .type n) hgt ht hb rfl n3 n1) pa_nil rfl) (star_plain hpe)) (by decide) (by decide) (star_plain hpe) (star_none (es := [.Name t p2]) (fun e he => by
            rcases List.mem_cons.mp he with z | z
            · rw [z]; rfl
            · cases z))) fun σ H Q q => tE_isi (X := X) hv _ (by simp only [evE] at q; exact q)
      have hmem : t = "int" ∨ t = "bool" ∨ t = "str" ∨ t = "tuple" ∨ t = "list" := by simpa [tyNames] using h3
      rcases hmem with rfl | rfl | rfl | rfl | rfl
      · exact key "int" rfl (by decide +kernel)
      · exact key "bool" rfl (by decide +kernel)
      · exact key "str" rfl (by decide +kernel)
      · exact key "tuple" rfl (by decide +kernel)
      · exact key "list" rfl (by decide +kernel)
    · cases h
  | .mt m o as, X, E, sc, c, F, x, h => by
    unfold chkE at h
    split at h
    · rename_i v n ap es p
      simp only [Bool.and_eq_true, beq_iff_eq, decide_eq_true_eq] at h
      obtain ⟨⟨⟨⟨⟨⟨h1, h2⟩, h4⟩, h5⟩, h6⟩, h7⟩, h8⟩ := h
      subst h1
      have hp := chks_plain as sc _ h8
      have hb := recv_base (env := X.env) (f := MtN m) h5
      have hl : (ap.endLine == p.line) = true := by simpa using h6
      have hf := few_args (pos := p) (env := X.env) h7 hp
      have ho := sndE o c F _ h4
      cases es with
      | nil =>
        cases as with
        | nil =>
          refine PE.imp (t := tBM0 X.K "list" (MtRd X.K m) (tE X.K cl xc E (evE (Phi T.fns k) o))) ?_ fun σ H Q q => tE_mt0 (X := X) m _ (by simp only [evE, evEs] at q; exact q)
          cases m <;> first
            | exact pe_bm0 PySem.F.plainAttrs_list PySem.F.slot_list_append PySem.F.type_list_append mt_append ho hb hl
            | exact pe_bm0 PySem.F.plainAttrs_list PySem.F.slot_list_extend PySem.F.type_list_extend mt_extend ho hb hl
            | exact pe_bm0 PySem.F.plainAttrs_list PySem.F.slot_list_pop PySem.F.type_list_pop mt_pop ho hb hl
            | exact pe_bm0 PySem.F.plainAttrs_list PySem.F.slot_list_index PySem.F.type_list_index (mt_indexD c.hu) ho hb hl
            | exact pe_bm0 PySem.F.plainAttrs_list PySem.F.slot_list_remove PySem.F.type_list_remove mt_remT ho hb hl
            | cases h2
        | cons _ _ => unfold chkEs at h8; cases h8
      | cons e es =>
        have ha := sndA as c F _ h8
        have hs := star_plain (env := X.env) (es := es) (hp _ List.mem_cons_self)
        have hn := star_none (env := X.env) (pos := p) fun e he => hp e (List.mem_cons_of_mem _ he)
        refine PE.imp (t := tBM X.K "list" (MtRd X.K m) (tE X.K cl xc E (evE (Phi T.fns k) o)) (tA X.K cl xc E (evEs (Phi T.fns k) as))) ?_ fun σ H Q q => tE_mt (X := X) m _ _ (by simp only [evE] at q; exact q)
        cases m <;> first
          | exact pe_bm PySem.F.plainAttrs_list PySem.F.slot_list_append PySem.F.type_list_append mt_append ho ha hb hf hl hs hn
          | exact pe_bm PySem.F.plainAttrs_list PySem.F.slot_list_extend PySem.F.type_list_extend mt_extend ho ha hb hf hl hs hn
          | exact pe_bm PySem.F.plainAttrs_list PySem.F.slot_list_pop PySem.F.type_list_pop mt_pop ho ha hb hf hl hs hn
          | exact pe_bm PySem.F.plainAttrs_list PySem.F.slot_list_index PySem.F.type_list_index (mt_indexD c.hu) ho ha hb hf hl hs hn
          | exact pe_bm PySem.F.plainAttrs_list PySem.F.slot_list_remove PySem.F.type_list_remove mt_remT ho ha hb hf hl hs hn
          | cases h2
    · cases h
  | .tup as, X, E, sc, c, F, x, h => by
    unfold chkE at h
    split at h
    · exact PE.imp (pe_tup (sndA as c F _ h)) fun σ H Q q => tE_tup (X := X) _ (by simp only [evE] at q; exact q)
    · cases h
  | .lst mu as, X, E, sc, c, F, x, h => by
    unfold chkE at h
    split at h
    · exact PE.imp (pe_lst (sndA as c F _ h)) fun σ H Q q => tE_lst (X := X) mu _ (by simp only [evE] at q; exact q)
    · cases h
  | .ix a i, X, E, sc, c, F, x, h => by
    unfold chkE at h
    split at h
    · simp only [Bool.and_eq_true] at h
      exact PE.imp (pe_ix (ix_all c.hu1) (sndE a c F _ h.1) (sndE i c F _ h.2) (plainIx (chk_plain i sc _ h.2))) fun σ H Q q => tE_bin (X := X) _ _ _ ok_ix (by simp only [evE] at q; exact q)
    · cases h
  | .sl a lo hi, X, E, sc, c, F, x, h => by
    unfold chkE at h
    split at h
    · simp only [Bool.and_eq_true] at h
      obtain ⟨⟨h1, h2⟩, h3⟩ := h
      exact PE.imp (pe_slice sl_any (sndE a c F _ h1) (sndO lo c F _ h2) (sndO hi c F _ h3)) fun σ H Q q => tE_sl (X := X) _ _ _ (by simp only [evE] at q; exact q)
    · cases h
  | .addM a b, X, E, sc, c, F, x, h => by
    unfold chkE at h
    split at h
    · simp only [Bool.and_eq_true] at h
      exact PE.imp (pe_op op_cat (sndE a c F _ h.1) (sndE b c F _ h.2)) fun σ H Q q => tE_bin (X := X) _ _ _ ok_addM (by simp only [evE] at q; exact q)
    · cases h
  | .stp a lo st, X, E, sc, c, F, x, h => by
    unfold chkE at h
    split at h
    · simp only [Bool.and_eq_true] at h
      obtain ⟨⟨h1, h2⟩, h3⟩ := h
      have he := sndE a c F _ h3
      have fin := fun (σ : L2.St) (H : Hp) (Q : VK) (q : tE X.K cl xc E (evE (Phi T.fns k) (.stp a lo st)) σ H Q) => tE_stp (X := X) (lo := lo) (st := st) (evE (Phi T.fns k) a) (σ := σ) (H := H) (Q := Q) (by simp only [evE] at q; exact q)
      obtain ⟨tl, hl, gl⟩ := lo_ok (X := X) h1
      obtain ⟨ts, hs, gs⟩ := st_ok (X := X) h2
      exact PE.imp (pe_stp he hl hs gl gs) fin
    · cases h
  | .comp mu elt tg it ifs own, X, E, sc, c, F, x, h => by
    unfold chkE at h
    split at h
    · simp only [Bool.and_eq_true, decide_eq_true_eq] at h
      obtain ⟨⟨⟨⟨⟨⟨⟨⟨h1, h2⟩, h3⟩, h4⟩, h5⟩, h6⟩, h7⟩, h8⟩, hl⟩ := h
      have hit := chkIt_plain it sc _ _ h3
      refine PE.imp (pe_lc (wi := tI X.K cl xc E (evIt (Phi T.fns k) it)) (g := tG X.K cl tg) (tt := tT X.K cl xc F0 (evIf (Phi T.fns k) ifs)) (te := tE X.K cl xc F0 (evE (Phi T.fns k) elt)) c.calm (by rw [c.hN]; exact c.nd) (sndI it c F _ _ h3) (by rw [c.hN, c.hsc]; exact blkOk_by h1) (fun s H C clo fp => snd_tg (nms_blk c s H C clo fp _) tg _ h4 h5) (fun s H C clo fp => sndIf ifs (c.blk hl s H C clo fp _) F _ h7) (fun s H C clo fp => sndE elt (c.blk hl s H C clo fp _) F _ h8) (noFold hit)) fun σ H Q q => ?_
      rw [h2]
      exact tE_comp h6 _ _ _ (by simp only [evE] at q; exact q)
    · cases h
  | .attr ci o f, X, E, sc, c, F, x, h => by
    unfold chkE at h
    split at h
    · simp only [Bool.and_eq_true, beq_iff_eq] at h
      obtain ⟨⟨⟨h1, h2⟩, h3⟩, h4⟩ := h
      subst h1
      obtain ⟨J, hJ, j1⟩ := any_cls h4
      simp only [Bool.and_eq_true, beq_iff_eq] at j1
      obtain ⟨j1, j2⟩ := j1
      obtain ⟨g1, g2, g3, _⟩ := F.cls J hJ
      have g3 := g3 _ (by simpa using j2)
      rw [j1] at g1 g3
      exact PE.imp (pe_fld (sndE o c F _ h2) (recv_base h3)) fun σ H Q q => tE_attr (X := X) g1 g3 _ (by simp only [evE] at q; exact q)
    · cases h
  | .frz a, X, E, sc, c, F, x, h => by
    unfold chkE at h
    exact PE.imp (sndE a c F _ h) fun σ H Q q => tE_frz (X := X) _ (by simp only [evE] at q; exact q)
  | .setE srt a, X, E, sc, c, F, x, h => by
    unfold chkE at h
    split at h
    · rename_i f p1 g p2 e q pos
      simp only [Bool.and_eq_true, beq_iff_eq] at h
      obtain ⟨⟨⟨⟨⟨⟨h1, h2⟩, h3⟩, h4⟩, h5⟩, h6⟩, h7⟩ := h
      subst h2
      have na := star_plain (env := X.env) (es := []) (chk_plain a sc _ h7)
      cases srt with
      | true =>
        have h1 : f = "sorted" := h1
        subst h1
        exact PE.imp (pe_sortS c.calm (glo_of c.hsc h5) (blt_of F h3) (glo_of c.hsc h6) (blt_of F h4) (sndE a c F _ h7) na) fun σ H Q q => tE_setSrt (X := X) _ (by simp only [evE, if_true] at q; exact q)
      | false =>
        have h1 : f = "len" := h1
        subst h1
        exact PE.imp (pe_lenS c.calm (glo_of c.hsc h5) (blt_of F h3) (glo_of c.hsc h6) (blt_of F h4) (sndE a c F _ h7) na) fun σ H Q q => tE_setLen (X := X) _ (by simp only [evE, Bool.false_eq_true, if_false] at q; exact q)
    · cases h
  | .dic ps, X, E, sc, c, F, x, h => by
    unfold chkE at h
    split at h
    · rename_i ks vs p
      simp only [Bool.and_eq_true, decide_eq_true_eq, Bool.not_eq_true'] at h
      obtain ⟨⟨h1, h2⟩, h3⟩ := h
      obtain ⟨a1, a2⟩ := chkPs_all ps sc ks vs h1
      exact PE.imp (pe_disp (sndPs ps c F ks vs h1) a1 a2 (fun z => by rw [z] at h3; cases h3) h2) fun σ H Q q => tE_dic (X := X) ps (by simp only [evE] at q; exact q)
    · cases h
  | .txm m a b, X, E, sc, c, F, x, h => by
    unfold chkE at h
    split at h
    · rename_i v n ap e p
      simp only [Bool.and_eq_true, beq_iff_eq] at h
      obtain ⟨⟨⟨⟨⟨h1, h2⟩, h4⟩, h5⟩, h6⟩, h7⟩ := h
      subst h1
      have hb := recv_base (env := X.env) (f := MtN m) h5
      have hl : (ap.endLine == p.line) = true := by simpa using h6
      have na := star_plain (env := X.env) (es := []) (chk_plain b sc _ h7)
      have ha := sndE a c F _ h4
      have he := sndE b c F _ h7
      cases m with
      | join => exact PE.imp (pe_join ha he na hb hl) fun σ H Q q => tE_join (X := X) _ _ (by simp only [evE] at q; exact q)
      | split => exact PE.imp (pe_split ha he na hb hl) fun σ H Q q => tE_split (X := X) _ _ (by simp only [evE] at q; exact q)
      | _ => cases h2
    · cases h
  | .dzip as, X, E, sc, c, F, x, h => by
    unfold chkE at h
    split at h
    · rename_i f p1 g p2 e e2 q pos
      simp only [Bool.and_eq_true, beq_iff_eq] at h
      obtain ⟨⟨⟨⟨⟨⟨h1, h2⟩, h3⟩, h4⟩, h5⟩, h6⟩, h7⟩ := h
      subst h1 h2
      have hp := chks_plain as sc _ h7
      exact PE.imp (pe_dictZip c.calm (glo_of c.hsc h5) (blt_of F h3) (glo_of c.hsc h6) (blt_of F h4) (sndA as c F _ h7) (star_plain (hp _ List.mem_cons_self)) (star_none fun e he => hp e (List.mem_cons_of_mem _ he))) fun σ H Q q => tE_dzip (X := X) _ (by simp only [evE] at q; exact q)
    · cases h
  | .tupRg a, X, E, sc, c, F, x, h => by
    unfold chkE at h
    split at h
    · rename_i f p1 g p2 e q pos
      simp only [Bool.and_eq_true, beq_iff_eq] at h
      obtain ⟨⟨⟨⟨⟨⟨h1, h2⟩, h3⟩, h4⟩, h5⟩, h6⟩, h7⟩ := h
      subst h1 h2
      have na := star_plain (env := X.env) (es := []) (chk_plain a sc _ h7)
      exact PE.imp (pe_tupRg c.calm (glo_of c.hsc h5) (blt_of F h3) (prg_1 (glo_of c.hsc h6) (blt_of F h4) (sndE a c F _ h7) na)) fun σ H Q q => tE_tupRg (X := X) _ (by simp only [evE] at q; exact q)
    · cases h
  | .told kd e, X, E, sc, c, F, x, h => by
    unfold chkE at h
    split at h
    · rename_i f p params body scope lpos pos
      simp only [Bool.and_eq_true] at h
      obtain ⟨⟨⟨⟨⟨⟨h1, h2⟩, h3⟩, h4⟩, h5⟩, h6⟩, h7⟩ := h
      obtain ⟨g, pg, bg, sg, dV, kV, doc, pm, cdv, ct, oc, an, od, osl, Ng, t1, t2, t3, t4, t5, t6, t7, t8, t9⟩ := F.tol (f, kd) (by simpa using h1)
      obtain ⟨⟨cc, P, hcode, TB, hmT, hu⟩, hr⟩ := c.lam h4
      have L := LamX.lamS_by h5
      rw [← c.hsc] at L
      have hpar : params = ⟨[], [], none, [], [], none, []⟩ := by
        unfold parsB at h6
        split at h6
        · rfl
        · cases h6
      subst hpar
      have noL : lamA scope = true → False := fun z => by
        unfold lamA at z
        rw [List.any_eq_true] at z
        obtain ⟨y, hy, hz⟩ := z
        have := L.own y hy
        split at hz
        · exact this.1 ‹_›
        · exact this.2 ‹_›
        · cases hz
      exact PE.imp (LamX.pe_lamcall (T := Tb.T) (TT := TTold xc kd) (a := "_law_deed") (k := 4 * k + 1) (t := fun E' => tE X.K cl xc E' (evE (Phi T.fns k) e)) (glo_of c.hsc h2) t1 t2 t3 t4 t5 t6 t7 t8 (t9 X _ rfl rfl) TB hcode hmT hu hr L rfl (fun _ _ _ _ _ => rfl)
        (fun A outer s H E' f' c' hroom => sndE e (X := LamX.lamCx X A outer s H E' scope f' c') (E := E') (sc := scope) ⟨c.hN, c.nd, rfl, rfl, hroom, takes_of rfl rfl rfl rfl, fun z => (noL z).elim, fun _ z => (noL z).elim⟩ F body h7) (nmF h3)) fun σ H Q q => tE_told kd _ (by simp only [evE] at q; exact q)
    · cases h
  | .dgt o k1 d, X, E, sc, c, F, x, h => by
    unfold chkE at h
    split at h
    · rename_i v n ap e f p
      simp only [Bool.and_eq_true, beq_iff_eq] at h
      obtain ⟨⟨⟨⟨⟨h1, h2⟩, h3⟩, h4⟩, h5⟩, h6⟩ := h
      subst h1
      exact PE.imp (pe_dget2N c.hu1 (sndE o c F _ h2) (sndE k1 c F _ h5) (sndE d c F _ h6) (get_m2 h3 (by simpa using h4) (chk_plain k1 sc _ h5) (chk_plain d sc _ h6))) fun σ H Q q => tE_dgt (X := X) _ _ _ (by simp only [evE] at q; exact q)
    · cases h
theorem sndPs : ∀ (ps : Ps) {X : Cx} {E : XK} {sc : Scope}, Cok k N sc X E → Fac T k X.prog X.w X.K X.mg X.base cl xc → ∀ (ks : List (Option Expr)) (vs : List Expr) {pos : Pos}, chkPs T N sc ps ks vs = true → PPs X pos ks vs (trsOf (Phi T.fns k) X.K cl xc E ps)
  | .nil, X, E, sc, c, F, ks, vs, pos, h => by
    unfold chkPs at h
    split at h
    · exact pps_nil
    · cases h
  | .cons a b r, X, E, sc, c, F, ks, vs, pos, h => by
    unfold chkPs at h
    split at h
    · simp only [Bool.and_eq_true] at h
      exact pps_cons (sndE a c F _ h.1.1) (sndE b c F _ h.1.2) (sndPs r c F _ _ h.2)
    · cases h
theorem sndA : ∀ (as : Es) {X : Cx} {E : XK} {sc : Scope}, Cok k N sc X E → Fac T k X.prog X.w X.K X.mg X.base cl xc → ∀ es : List Expr, chkEs T N sc as es = true → PA X es (tA X.K cl xc E (evEs (Phi T.fns k) as))
  | .nil, X, E, sc, c, F, es, h => by
    unfold chkEs at h
    split at h
    · exact PA.imp pa_nil fun σ H Q q => tA_nil (X := X) (by simp only [evEs] at q; exact q)
    · cases h
  | .cons a r, X, E, sc, c, F, es, h => by
    unfold chkEs at h
    split at h
    · simp only [Bool.and_eq_true] at h
      exact PA.imp (pa_cons (sndE a c F _ h.1) (sndA r c F _ h.2) (star_plain (chk_plain a sc _ h.1))) fun σ H Q q => tA_cons (X := X) _ _ (by simp only [evEs] at q; exact q)
    · cases h
theorem sndO : ∀ (o : Eo) {X : Cx} {E : XK} {sc : Scope}, Cok k N sc X E → Fac T k X.prog X.w X.K X.mg X.base cl xc → ∀ x : Option Expr, chkEo T N sc o x = true → PO X x (tO X.K cl xc E (evEo (Phi T.fns k) o))
  | .no, X, E, sc, c, F, x, h => by
    unfold chkEo at h
    split at h
    · exact PO.imp po_none fun σ H Q q => tO_no (X := X) (by simp only [evEo] at q; exact q)
    · cases h
  | .so a, X, E, sc, c, F, x, h => by
    unfold chkEo at h
    split at h
    · exact PO.imp (po_some (sndE a c F _ h)) fun σ H Q q => tO_so (X := X) _ (by simp only [evEo] at q; exact q)
    · cases h
theorem sndAnd : ∀ (as : Es) {X : Cx} {E : XK} {sc : Scope}, Cok k N sc X E → Fac T k X.prog X.w X.K X.mg X.base cl xc → ∀ (es : List Expr) {pos : Pos}, chkEs T N sc as es = true → PE X (.BoolOp .And es pos) (tE X.K cl xc E (evAnd (Phi T.fns k) as))
  | .nil, X, E, sc, c, F, es, pos, h => PE.imp PE.none fun σ H Q q => by
    obtain ⟨env, W, rfl, he, w, p⟩ := q
    simp only [evAnd] at p
    exact p.elim
  | .cons a .nil, X, E, sc, c, F, es, pos, h => by
    unfold chkEs at h
    split at h
    · rename_i e es
      simp only [Bool.and_eq_true] at h
      have h2 := h.2
      unfold chkEs at h2
      split at h2
      · exact PE.imp (pe_one (sndE a c F _ h.1)) fun σ H Q q => by simpa only [evAnd] using q
      · cases h2
    · cases h
  | .cons a (.cons b r), X, E, sc, c, F, es, pos, h => by
    unfold chkEs at h
    split at h
    · rename_i e es
      simp only [Bool.and_eq_true] at h
      cases es with
      | nil => have h2 := h.2; unfold chkEs at h2; cases h2
      | cons e2 es => exact PE.imp (pe_and (sndE a c F _ h.1) (sndAnd (.cons b r) c F _ h.2)) fun σ H Q q => tE_and (X := X) _ _ (by simp only [evAnd] at q; exact q)
    · cases h
theorem sndOr : ∀ (as : Es) {X : Cx} {E : XK} {sc : Scope}, Cok k N sc X E → Fac T k X.prog X.w X.K X.mg X.base cl xc → ∀ (es : List Expr) {pos : Pos}, chkEs T N sc as es = true → PE X (.BoolOp .Or es pos) (tE X.K cl xc E (evOr (Phi T.fns k) as))
  | .nil, X, E, sc, c, F, es, pos, h => PE.imp PE.none fun σ H Q q => by
    obtain ⟨env, W, rfl, he, w, p⟩ := q
    simp only [evOr] at p
    exact p.elim
  | .cons a .nil, X, E, sc, c, F, es, pos, h => by
    unfold chkEs at h
    split at h
    · rename_i e es
      simp only [Bool.and_eq_true] at h
      have h2 := h.2
      unfold chkEs at h2
      split at h2
      · exact PE.imp (pe_one (sndE a c F _ h.1)) fun σ H Q q => by simpa only [evOr] using q
      · cases h2
    · cases h
  | .cons a (.cons b r), X, E, sc, c, F, es, pos, h => by
    unfold chkEs at h
    split at h
    · rename_i e es
      simp only [Bool.and_eq_true] at h
      cases es with
      | nil => have h2 := h.2; unfold chkEs at h2; cases h2
      | cons e2 es => exact PE.imp (pe_or (sndE a c F _ h.1) (sndOr (.cons b r) c F _ h.2)) fun σ H Q q => tE_or (X := X) _ _ (by simp only [evOr] at q; exact q)
    · cases h
/-- as tests -/
theorem sndT : ∀ (e : Dw.E) {X : Cx} {E : XK} {sc : Scope}, Cok k N sc X E → Fac T k X.prog X.w X.K X.mg X.base cl xc → ∀ x : Expr, chkE T N sc e x = true → PT X x (tT X.K cl xc E (fun env => evE (Phi T.fns k) e env >>= asB))
  | .andE as, X, E, sc, c, F, x, h => by
    unfold chkE at h
    split at h
    · exact PT.imp (PW.pt (sndAndT as c F _ h)) fun σ H Q q => by simpa only [evE] using q
    · cases h
  | .orE as, X, E, sc, c, F, x, h => by
    unfold chkE at h
    split at h
    · exact PT.imp (PW.pt (sndOrT as c F _ h)) fun σ H Q q => by simpa only [evE] using q
    · cases h
  | .notE a, X, E, sc, c, F, x, h => by
    unfold chkE at h
    split at h
    · exact PT.imp (pt_not (sndT a c F _ h)) fun σ H Q q => tT_not (X := X) _ (by simp only [evE] at q; exact q)
    · cases h
  | .cmp op a b, X, E, sc, c, F, x, h => by
    unfold chkE at h
    split at h
    · simp only [Bool.and_eq_true, beq_iff_eq] at h
      obtain ⟨⟨rfl, ha⟩, hb⟩ := h
      obtain ⟨r, o1, o2⟩ := cmp_ok (cl := cl) (xc := xc) (E := E) c.hu op
      exact PT.imp (pt_cmpR o1 (sndE a c F _ ha) (sndE b c F _ hb) (noMark (chk_plain b sc _ hb))) fun σ H Q q => tT_cmp _ _ _ o2 (by simp only [evE] at q; exact q)
    · cases h
  | .chain p1 p2 a b d, X, E, sc, c, F, x, h => by
    unfold chkE at h
    split at h
    · simp only [Bool.and_eq_true, beq_iff_eq] at h
      obtain ⟨⟨⟨⟨rfl, rfl⟩, ha⟩, hb⟩, hd⟩ := h
      obtain ⟨r1, o1, o2⟩ := cmp_ok (cl := cl) (xc := xc) (E := E) c.hu p1
      obtain ⟨r2, o3, o4⟩ := cmp_ok (cl := cl) (xc := xc) (E := E) c.hu p2
      exact PT.imp (pt_chain o1 o3 (sndE a c F _ ha) (sndE b c F _ hb) (sndE d c F _ hd) (lastM (chk_plain b sc _ hb) (chk_plain d sc _ hd))) fun σ H Q q => tT_chain _ _ _ _ _ o2 o4 (by simp only [evE] at q; exact q)
    · cases h
  | .call pu f as, X, E, sc, c, F, x, h => by
    have hx := sndE (.call pu f as) c F x h
    unfold chkE at h
    split at h
    · exact PT.imp (pt_val hx) fun σ H Q q => tT_val (X := X) _ q
    · cases h
  | .meth ci m f o as, X, E, sc, c, F, x, h => by
    have hx := sndE (.meth ci m f o as) c F x h
    unfold chkE at h
    split at h
    · exact PT.imp (pt_val hx) fun σ H Q q => tT_val (X := X) _ q
    · cases h
  | .bi b as, X, E, sc, c, F, x, h => by
    have hx := sndE (.bi b as) c F x h
    unfold chkE at h
    split at h
    · exact PT.imp (pt_val hx) fun σ H Q q => tT_val (X := X) _ q
    · cases h
  | .isi b as, X, E, sc, c, F, x, h => by
    have hx := sndE (.isi b as) c F x h
    unfold chkE at h
    split at h
    · exact PT.imp (pt_val hx) fun σ H Q q => tT_val (X := X) _ q
    · cases h
  | .var i, X, E, sc, c, F, x, h => by
    have hx := sndE (.var i) c F x h
    unfold chkE at h
    split at h
    · exact PT.imp (pt_val hx) fun σ H Q q => tT_val (X := X) _ q
    · cases h
  | .ix a i, X, E, sc, c, F, x, h => by
    have hx := sndE (.ix a i) c F x h
    unfold chkE at h
    split at h
    · exact PT.imp (pt_val hx) fun σ H Q q => tT_val (X := X) _ q
    · cases h
  | .attr ci o f, X, E, sc, c, F, x, h => by
    have hx := sndE (.attr ci o f) c F x h
    unfold chkE at h
    split at h
    · exact PT.imp (pt_val hx) fun σ H Q q => tT_val (X := X) _ q
    · cases h
  | .bl b, X, E, sc, c, F, x, h => by
    have hx := sndE (.bl b) c F x h
    unfold chkE at h
    split at h
    · exact PT.imp (pt_val hx) fun σ H Q q => tT_val (X := X) _ q
    · cases h
  | .non, X, E, sc, c, F, x, h => by
    have hx := sndE (.non) c F x h
    unfold chkE at h
    split at h
    · exact PT.imp (pt_val hx) fun σ H Q q => tT_val (X := X) _ q
    · cases h
  | .int b, X, E, sc, c, F, x, h => by
    have hx := sndE (.int b) c F x h
    unfold chkE at h
    split at h
    · exact PT.imp (pt_val hx) fun σ H Q q => tT_val (X := X) _ q
    · cases h
  | .str b, X, E, sc, c, F, x, h => by
    have hx := sndE (.str b) c F x h
    unfold chkE at h
    split at h
    · exact PT.imp (pt_val hx) fun σ H Q q => tT_val (X := X) _ q
    · cases h
  | .glb z d, X, E, sc, c, F, x, h => by
    have hx := sndE (.glb z d) c F x h
    unfold chkE at h
    split at h
    · exact PT.imp (pt_val hx) fun σ H Q q => tT_val (X := X) _ q
    · cases h
  | .bin op a b, X, E, sc, c, F, x, h => by
    have hx := sndE (.bin op a b) c F x h
    unfold chkE at h
    split at h
    · exact PT.imp (pt_val hx) fun σ H Q q => tT_val (X := X) _ q
    · cases h
  | .neg a, X, E, sc, c, F, x, h => by
    have hx := sndE (.neg a) c F x h
    unfold chkE at h
    split at h
    · exact PT.imp (pt_val hx) fun σ H Q q => tT_val (X := X) _ q
    · cases h
  | .make ci f as, X, E, sc, c, F, x, h => by
    have hx := sndE (.make ci f as) c F x h
    unfold chkE at h
    split at h
    · exact PT.imp (pt_val hx) fun σ H Q q => tT_val (X := X) _ q
    · cases h
  | .mt m o as, X, E, sc, c, F, x, h => by
    have hx := sndE (.mt m o as) c F x h
    unfold chkE at h
    split at h
    · exact PT.imp (pt_val hx) fun σ H Q q => tT_val (X := X) _ q
    · cases h
  | .tup as, X, E, sc, c, F, x, h => by
    have hx := sndE (.tup as) c F x h
    unfold chkE at h
    split at h
    · exact PT.imp (pt_val hx) fun σ H Q q => tT_val (X := X) _ q
    · cases h
  | .lst mu as, X, E, sc, c, F, x, h => by
    have hx := sndE (.lst mu as) c F x h
    unfold chkE at h
    split at h
    · exact PT.imp (pt_val hx) fun σ H Q q => tT_val (X := X) _ q
    · cases h
  | .sl a lo hi, X, E, sc, c, F, x, h => by
    have hx := sndE (.sl a lo hi) c F x h
    unfold chkE at h
    split at h
    · exact PT.imp (pt_val hx) fun σ H Q q => tT_val (X := X) _ q
    · cases h
  | .addM a b, X, E, sc, c, F, x, h => by
    have hx := sndE (.addM a b) c F x h
    unfold chkE at h
    split at h
    · exact PT.imp (pt_val hx) fun σ H Q q => tT_val (X := X) _ q
    · cases h
  | .stp a b st, X, E, sc, c, F, x, h => by
    have hx := sndE (.stp a b st) c F x h
    unfold chkE at h
    split at h
    · exact PT.imp (pt_val hx) fun σ H Q q => tT_val (X := X) _ q
    · cases h
  | .comp mu elt tg it ifs own, X, E, sc, c, F, x, h => by
    have hx := sndE (.comp mu elt tg it ifs own) c F x h
    unfold chkE at h
    split at h
    · exact PT.imp (pt_val hx) fun σ H Q q => tT_val (X := X) _ q
    · cases h
  | .setE srt a, X, E, sc, c, F, x, h => by
    have hx := sndE (.setE srt a) c F x h
    unfold chkE at h
    split at h
    · exact PT.imp (pt_val hx) fun σ H Q q => tT_val (X := X) _ q
    · cases h
  | .dic ps, X, E, sc, c, F, x, h => by
    have hx := sndE (.dic ps) c F x h
    unfold chkE at h
    split at h
    · exact PT.imp (pt_val hx) fun σ H Q q => tT_val (X := X) _ q
    · cases h
  | .txm m a b, X, E, sc, c, F, x, h => by
    have hx := sndE (.txm m a b) c F x h
    unfold chkE at h
    split at h
    · exact PT.imp (pt_val hx) fun σ H Q q => tT_val (X := X) _ q
    · cases h
  | .dzip as, X, E, sc, c, F, x, h => by
    have hx := sndE (.dzip as) c F x h
    unfold chkE at h
    split at h
    · exact PT.imp (pt_val hx) fun σ H Q q => tT_val (X := X) _ q
    · cases h
  | .tupRg a, X, E, sc, c, F, x, h => by
    have hx := sndE (.tupRg a) c F x h
    unfold chkE at h
    split at h
    · exact PT.imp (pt_val hx) fun σ H Q q => tT_val (X := X) _ q
    · cases h
  | .told kd e, X, E, sc, c, F, x, h => by
    have hx := sndE (.told kd e) c F x h
    unfold chkE at h
    split at h
    · exact PT.imp (pt_val hx) fun σ H Q q => tT_val (X := X) _ q
    · cases h
  | .dgt o k1 d, X, E, sc, c, F, x, h => by
    have hx := sndE (.dgt o k1 d) c F x h
    unfold chkE at h
    split at h
    · exact PT.imp (pt_val hx) fun σ H Q q => tT_val (X := X) _ q
    · cases h
  | .frz a, X, E, sc, c, F, x, h => by
    unfold chkE at h
    refine PT.imp (sndT a c F x h) fun σ H Q q => ?_
    obtain ⟨env, W, rfl, he, w, p⟩ := q
    refine ⟨env, W, rfl, he, w, ?_⟩
    simp only [evE, M.bind_assoc] at p
    show Post X.K cl xc E W ((evE (Phi T.fns k) a env >>= asB) W.st) _
    rw [M.bind_run] at p ⊢
    cases e : evE (Phi T.fns k) a env W.st with
    | no => rw [e] at p; exact p.elim
    | ex cc s => rw [e] at p; exact p
    | ok v s =>
      rw [e] at p
      have p : Post X.K cl xc E W ((frzV v >>= asB) s) _ := p
      rw [frz_no] at p
      exact p.elim
theorem sndAndT : ∀ (as : Es) {X : Cx} {E : XK} {sc : Scope}, Cok k N sc X E → Fac T k X.prog X.w X.K X.mg X.base cl xc → ∀ (es : List Expr) {pos : Pos}, chkEs T N sc as es = true → PW X (.BoolOp .And es pos) (tT X.K cl xc E (fun env => evAnd (Phi T.fns k) as env >>= asB))
  | .nil, X, E, sc, c, F, es, pos, h => PW.imp PW.none fun σ H Q q => by
    obtain ⟨env, W, rfl, he, w, p⟩ := q
    simp only [evAnd] at p
    exact p.elim
  | .cons a .nil, X, E, sc, c, F, es, pos, h => by
    unfold chkEs at h
    split at h
    · rename_i e es
      simp only [Bool.and_eq_true] at h
      have h2 := h.2
      unfold chkEs at h2
      split at h2
      · exact PW.imp (pw_and1 (sndT a c F _ h.1)) fun σ H Q q => by simpa only [evAnd] using q
      · cases h2
    · cases h
  | .cons a (.cons b r), X, E, sc, c, F, es, pos, h => by
    unfold chkEs at h
    split at h
    · rename_i e es
      simp only [Bool.and_eq_true] at h
      cases es with
      | nil => have h2 := h.2; unfold chkEs at h2; cases h2
      | cons e2 es => exact PW.imp (pw_and (sndT a c F _ h.1) (sndAndT (.cons b r) c F _ h.2)) fun σ H Q q => tT_and (X := X) _ _ (by simp only [evAnd] at q; exact q)
    · cases h
theorem sndOrT : ∀ (as : Es) {X : Cx} {E : XK} {sc : Scope}, Cok k N sc X E → Fac T k X.prog X.w X.K X.mg X.base cl xc → ∀ (es : List Expr) {pos : Pos}, chkEs T N sc as es = true → PW X (.BoolOp .Or es pos) (tT X.K cl xc E (fun env => evOr (Phi T.fns k) as env >>= asB))
  | .nil, X, E, sc, c, F, es, pos, h => PW.imp PW.none fun σ H Q q => by
    obtain ⟨env, W, rfl, he, w, p⟩ := q
    simp only [evOr] at p
    exact p.elim
  | .cons a .nil, X, E, sc, c, F, es, pos, h => by
    unfold chkEs at h
    split at h
    · rename_i e es
      simp only [Bool.and_eq_true] at h
      have h2 := h.2
      unfold chkEs at h2
      split at h2
      · exact PW.imp (pw_or1 (sndT a c F _ h.1)) fun σ H Q q => by simpa only [evOr] using q
      · cases h2
    · cases h
  | .cons a (.cons b r), X, E, sc, c, F, es, pos, h => by
    unfold chkEs at h
    split at h
    · rename_i e es
      simp only [Bool.and_eq_true] at h
      cases es with
      | nil => have h2 := h.2; unfold chkEs at h2; cases h2
      | cons e2 es => exact PW.imp (pw_or (sndT a c F _ h.1) (sndOrT (.cons b r) c F _ h.2)) fun σ H Q q => tT_or (X := X) _ _ (by simp only [evOr] at q; exact q)
    · cases h
theorem sndIf : ∀ (o : Eo) {X : Cx} {E : XK} {sc : Scope}, Cok k N sc X E → Fac T k X.prog X.w X.K X.mg X.base cl xc → ∀ x : List Expr, chkIf T N sc o x = true → PTs X x (tT X.K cl xc E (evIf (Phi T.fns k) o))
  | .no, X, E, sc, c, F, x, h => by
    unfold chkIf at h
    split at h
    · exact PTs.imp pts_nil fun σ H Q q => by
        obtain ⟨env, W, rfl, he, w, p⟩ := q
        rw [evIf] at p
        exact Post.pure w p
    · cases h
  | .so a, X, E, sc, c, F, x, h => by
    unfold chkIf at h
    split at h
    · exact PTs.imp (pts_one (sndT a c F _ h)) fun σ H Q q => by simpa only [evIf] using q
    · cases h
theorem sndI : ∀ (it : Dw.It) {X : Cx} {E : XK} {sc : Scope}, Cok k N sc X E → Fac T k X.prog X.w X.K X.mg X.base cl xc → ∀ x tg : Expr, chkIt T N sc it x tg = true → PI X tg x (tI X.K cl xc E (evIt (Phi T.fns k) it))
  | .of a, X, E, sc, c, F, x, tg, h => by
    unfold chkIt at h
    exact PI.imp (pi_any (sndE a c F _ h)) fun σ H R q => tI_of (X := X) _ (by simp only [evIt] at q; exact q)
  | .range as, X, E, sc, c, F, x, tg, h => by
    unfold chkIt at h
    split at h
    · rename_i z p1 es p2
      simp only [Bool.and_eq_true] at h
      obtain ⟨⟨⟨⟨h1, h2⟩, h3⟩, h4⟩, h5⟩ := h
      have h1 : z = "range" := by simpa using h1
      subst h1
      have hp := chks_plain as sc _ h4
      have hl := evEs_len (Φ := Phi T.fns k) as sc _ h4
      have hm := blt_of F h2
      have hg := glo_of c.hsc h3
      have ha := sndA as c F _ h4
      match es, h4, h5, hp, hl, ha with
      | [], _, h5, _, _, _ => cases h5
      | [e], h4, h5, hp, hl, ha =>
        exact PI.imp (pi_range1 hg hm ha (star_plain (hp _ List.mem_cons_self))) fun σ H R q => tI_range1 (X := X) _ (fun env s vs s' e => hl env s vs s' e) (by simp only [evIt] at q; exact q)
      | [e, e2], h4, h5, hp, hl, ha =>
        have q2 : starEach [e2] X.env = [(false, eval e2 X.env)] := star_plain (hp _ (List.mem_cons_of_mem _ List.mem_cons_self))
        exact PI.imp (pi_range2 hg hm ha (by rw [star_plain (hp _ List.mem_cons_self), q2]) q2) fun σ H R q => tI_range2 (X := X) _ (fun env s vs s' e => hl env s vs s' e) (by simp only [evIt] at q; exact q)
      | _ :: _ :: _ :: _, _, h5, _, _, _ => simp at h5
    · cases h
  | .enum a, X, E, sc, c, F, x, tg, h => by
    unfold chkIt at h
    split at h
    · simp only [Bool.and_eq_true, beq_iff_eq] at h
      obtain ⟨⟨⟨h1, h2⟩, h3⟩, h4⟩ := h
      subst h1
      exact PI.imp (pi_enumK (glo_of c.hsc h3) (blt_of F h2) (pa_cons (sndE a c F _ h4) pa_nil (star_plain (chk_plain a sc _ h4))) (star_plain (chk_plain a sc _ h4))) fun σ H R q => tI_enum (X := X) _ (by simp only [evIt] at q; exact q)
    · cases h
  | .zip a b, X, E, sc, c, F, x, tg, h => by
    unfold chkIt at h
    split at h
    · simp only [Bool.and_eq_true, beq_iff_eq] at h
      obtain ⟨⟨⟨⟨h1, h2⟩, h3⟩, h4⟩, h5⟩ := h
      subst h1
      have s2 := star_plain (env := X.env) (es := []) (chk_plain b sc _ h5)
      exact PI.imp (pi_zipK (glo_of c.hsc h3) (blt_of F h2) (pa_cons (sndE a c F _ h4) (pa_cons (sndE b c F _ h5) pa_nil s2) (star_plain (chk_plain a sc _ h4))) (star_plain (chk_plain a sc _ h4)) (star_none (es := [_]) fun e he => by
        rcases List.mem_cons.mp he with z | z
        · rw [z]; exact chk_plain b sc _ h5
        · cases z)) fun σ H R q => tI_zip (X := X) _ _ (by simp only [evIt] at q; exact q)
    · cases h
  | .objs as, X, E, sc, c, F, x, tg, h => by
    unfold chkIt at h
    split at h
    · exact PI.imp (pi_any (pe_tup (sndA as c F _ h))) fun σ H R q => tI_objs (X := X) _ (by simp only [evIt] at q; exact q)
    · cases h
end
end
end Dw

namespace Dw
open PySem L2
variable [Tb]
section
variable {cl xc : Nat → Addr} {k : Nat} {N : List Str} {T : Tx}
theorem any_exc {T : Tx} {p : Nat × Str → Bool} (h : T.exc.any p = true) : ∃ I ∈ T.exc, p I = true := by simpa [List.any_eq_true] using h
theorem sole_of {X : Cx} {t v : Expr} {l : Nat} (h : notComp v = true) : swapsWithSole [t] v l X.env = pure false := by
  unfold swapsWithSole
  exact notComp_sw h
theorem sw_stores {t v : Expr} {env : PySem.Env} (h : (match v with | .Tuple _ _ _ => true | _ => false) = false) : swappedStores [t] v env = pure none := by
  cases v <;> first
    | rfl
    | (cases t <;> rfl)
    | cases h
theorem cel_of {sc : Scope} {x : Str} (h : celB sc x = true) : sc.names.lookup x = some .cell := by
  unfold celB at h
  split at h
  · assumption
  · cases h
theorem sw_cell {t : Expr} {vs : List Expr} {k2 p2} {env : PySem.Env} (h : celT env.scope t = true) : swappedStores [t] (.Tuple vs k2 p2) env = pure none := by
  unfold celT at h
  split at h
  · rename_i ts k p
    have hn : ∀ line : Nat, ((ts.filterMap fun
      | .Name id pos => if env.kindOf id == some .local && pos.line == line then some id else none
      | _ => none).length != ts.length) = true := by
      intro line
      rw [bne_iff_ne]
      intro e
      rw [List.filterMap_length_eq_length] at e
      obtain ⟨x, hx, hc⟩ := List.any_eq_true.mp h
      have := e x hx
      split at hc
      · rename_i y py
        have hk : env.kindOf y = some .cell := cel_of hc
        dsimp only at this
        rw [hk, show ((some NameKind.cell : Option NameKind) == some NameKind.local) = false from rfl] at this
        simp at this
      · cases hc
    unfold swappedStores
    dsimp only
    split
    · rfl
    · split
      · rfl
      · rw [if_pos (by rw [Bool.or_eq_true]; exact .inl (hn _))]
  · cases h
theorem swp_cell {v : Expr} {x : Str} {px : Pos} {l : Nat} {env : PySem.Env} (h : env.scope.names.lookup x = some .cell) : swapsWith v (some (.Name x px)) l env = pure false := by
  have hk : env.kindOf x = some .cell := h
  unfold swapsWith
  cases v <;> first
    | rfl
    | (dsimp only; rw [hk, show ((some NameKind.cell : Option NameKind) == some NameKind.local) = false from rfl]; simp)
theorem lcl_of {sc : Scope} {x : Str} (h : lclB sc x = true) : sc.names.lookup x = some .local := by
  unfold lclB at h
  split at h
  · assumption
  · cases h
theorem swp2 {x y : Str} {a b : Expr} {px py pt : Pos} {kt k2 pt2} {env : PySem.Env} (hk : env.scope.kind = .function) (hx : env.scope.names.lookup x = some .local) (hy : env.scope.names.lookup y = some .local) (hl : px.line = py.line) (hn : x ≠ y)
    (sa : strd a = false) (sb : strd b = false) (f1 : ([a, b].all (foldedForSure 8)) = false) (f2 : ([a, b].all (constantsAlone 8)) = false) : swappedStores [.Tuple [.Name x px, .Name y py] kt pt] (.Tuple [a, b] k2 pt2) env = pure (some [x, y]) := by
  have hb : env.blockKind = .function := by unfold Env.blockKind; rw [hk]; rfl
  have hx' : env.kindOf x = some .local := hx
  have hy' : env.kindOf y = some .local := hy
  have hs : ([a, b].any fun e => match e with | .Starred .. => true | _ => false) = false := by
    show (strd a || (strd b || false)) = false
    rw [sa, sb]; rfl
  have hd : [x, y].eraseDups.length = 2 := by
    have : (y == x) = false := by simpa using fun e => hn e.symm
    simp [List.eraseDups_cons, this]
  unfold swappedStores
  dsimp only
  rw [hb, f1, f2]
  simp only [List.filterMap_cons, List.filterMap_nil, hx', hy', hs]
  simp [Expr.pos, hl, hd]
  rintro (h | h)
  · exact absurd (show strd a = true from h) (by rw [sa]; simp)
  · exact absurd (show strd b = true from h) (by rw [sb]; simp)
theorem swp3 {x y z : Str} {a b c : Expr} {px py pz pt : Pos} {kt k2 pt2} {env : PySem.Env} (hk : env.scope.kind = .function) (hx : env.scope.names.lookup x = some .local) (hy : env.scope.names.lookup y = some .local) (hz : env.scope.names.lookup z = some .local) (hl : px.line = py.line) (hl2 : px.line = pz.line) (hn : x ≠ y) (hn2 : x ≠ z) (hn3 : y ≠ z)
    (sa : strd a = false) (sb : strd b = false) (sc : strd c = false) (f1 : ([a, b, c].all (foldedForSure 8)) = false) (f2 : ([a, b, c].all (constantsAlone 8)) = false) : swappedStores [.Tuple [.Name x px, .Name y py, .Name z pz] kt pt] (.Tuple [a, b, c] k2 pt2) env = pure (some [x, y, z]) := by
  have hb : env.blockKind = .function := by unfold Env.blockKind; rw [hk]; rfl
  have hx' : env.kindOf x = some .local := hx
  have hy' : env.kindOf y = some .local := hy
  have hz' : env.kindOf z = some .local := hz
  have hs : ([a, b, c].any fun e => match e with | .Starred .. => true | _ => false) = false := by
    show (strd a || (strd b || (strd c || false))) = false
    rw [sa, sb, sc]; rfl
  have hd : [x, y, z].eraseDups.length = 3 := by
    have h1 : (y == x) = false := by simpa using fun e => hn e.symm
    have h2 : (z == x) = false := by simpa using fun e => hn2 e.symm
    have h3 : (z == y) = false := by simpa using fun e => hn3 e.symm
    simp [List.eraseDups_cons, h1, h2, h3]
  unfold swappedStores
  dsimp only
  rw [hb, f1, f2]
  simp only [List.filterMap_cons, List.filterMap_nil, hx', hy', hz', hs]
  simp [Expr.pos, ← hl, ← hl2, hd]
  rintro (h | h | h)
  · exact absurd (show strd a = true from h) (by rw [sa]; simp)
  · exact absurd (show strd b = true from h) (by rw [sb]; simp)
  · exact absurd (show strd c = true from h) (by rw [sc]; simp)
mutual
theorem sndS : ∀ (s : S) {X : Cx} {E : XK} {sc : Scope}, Cos k N sc X E → Fac T k X.prog X.w X.K X.mg X.base cl xc → ∀ x : Stmt, chkS T N sc s x = true → PS X x (tS X.K cl xc E (exS (Phi T.fns k) s))
  | .set i e, X, E, sc, c, F, x, h => by
    unfold chkS at h
    split at h
    · rename_i y py v p
      simp only [Bool.and_eq_true, beq_iff_eq] at h
      obtain ⟨⟨⟨h1, h2⟩, h3⟩, h4⟩ := h
      have hi : X.N[i]? = some y := by rw [c.hN]; exact h1
      have hN : X.N.Nodup := by rw [c.hN]; exact c.nd
      cases hnc : notComp v with
      | true => exact PS.imp (ps_set hN hi (by rw [c.hsc]; exact loc_of h2) (sndE e c.toCok F v h3) (notComp_sw hnc) (by rw [c.hsc]; exact c.fn y h2)) fun D σ H q => tS_set _ (by simp only [exS] at q; exact q)
      | false =>
        rw [hnc] at h4
        cases hcl : celB sc y with
        | true => exact PS.imp (ps_set hN hi (by rw [c.hsc]; exact loc_of h2) (sndE e c.toCok F v h3) (swp_cell (by rw [c.hsc]; exact cel_of hcl)) (by rw [c.hsc]; exact c.fn y h2)) fun D σ H q => tS_set _ (by simp only [exS] at q; exact q)
        | false =>
        rw [hcl] at h4
        have h4 : asgC sc y py e v = true := by simpa using h4
        unfold asgC at h4
        split at h4
        · rename_i mu elt tg it ifs own heq0
          try subst heq0
          split at h4
          · rename_i el gs scope pos
            simp only [Bool.and_eq_true, Bool.not_eq_true'] at h4
            obtain ⟨⟨h4, h5⟩, h6⟩ := h4
            have hl : sc.names.lookup y = some .local := by
              split at h4
              · assumption
              · cases h4
            unfold chkE at h3
            split at h3
            · rename_i e1 t1 i1 f1 sc1 p1 heq
              cases heq
              simp only [Bool.and_eq_true, decide_eq_true_eq] at h3
              obtain ⟨⟨⟨⟨⟨⟨⟨⟨g1, g2⟩, g3⟩, g4⟩, g5⟩, g6⟩, g7⟩, g8⟩, gl⟩ := h3
              have hit := chkIt_plain it sc _ _ g3
              have cc := c.toCok
              refine PS.imp (ps_setLc (wi := tI X.K cl xc E (evIt (Phi T.fns k) it)) (g := tG X.K cl tg) (tt := tT X.K cl xc F0 (evIf (Phi T.fns k) ifs)) (te := tE X.K cl xc F0 (evE (Phi T.fns k) elt)) c.calm hN hi (by rw [c.hsc]; exact hl) (sw_true c.kd (by rw [c.hsc]; exact hl) h5 h6) (sndI it cc F _ _ g3) (by rw [c.hN, c.hsc]; exact blkOk_by g1) (fun s H C clo fp => snd_tg (nms_blk cc s H C clo fp _) tg _ g4 g5) (fun s H C clo fp => sndIf ifs (cc.blk gl s H C clo fp _) F _ g7) (fun s H C clo fp => sndE elt (cc.blk gl s H C clo fp _) F _ g8) (noFold hit)) fun D σ H q => ?_
              rw [g2]
              have q := tS_set (K := X.K) (cl := cl) (xc := xc) (E := E) (i := i) _ (by simp only [exS] at q; exact q)
              exact tE_comp g6 _ _ _ (by simp only [evE] at q; exact q)
            · cases h3
          · cases h4
        · cases h4
    · cases h
  | .unpk tg e, X, E, sc, c, F, x, h => by
    unfold chkS at h
    split at h
    · rename_i t v p
      simp only [Bool.and_eq_true] at h
      obtain ⟨⟨⟨⟨h1, h2⟩, h3⟩, h4⟩, h5⟩ := h
      exact PS.imp (ps_asg (sndE e c.toCok F v h3) (snd_tg c.nms tg t h2 h2) (sole_of h4) (by
        cases v with
        | Tuple vs k2 p2 => exact sw_cell (by rw [c.hsc]; exact h5)
        | _ => exact sw_stores rfl) (by cases t <;> first | rfl | cases h1)) fun D σ H q => tS_unpk _ (by simp only [exS] at q; exact q)
    · cases h
  | .par is as, X, E, sc, c, F, x, h => by
    unfold chkS at h
    split at h
    · rename_i ts k1 p1 es k2 p2 pp
      rw [Bool.and_eq_true] at h
      obtain ⟨h1, h2⟩ := h
      have hN : X.N.Nodup := by rw [c.hN]; exact c.nd
      have hes := sndA as c.toCok F _ h2
      rw [Bool.or_eq_true] at h1
      rcases h1 with h1 | h1
      rotate_left
      · unfold parK at h1
        split at h1
        · rename_i i j x px y py a b
          simp only [Bool.and_eq_true, beq_iff_eq] at h1
          obtain ⟨⟨⟨g1, g2⟩, g3⟩, g4⟩ := h1
          have l1 : locB sc x = true := by unfold locB; rw [cel_of g3]
          have l2 : locB sc y = true := by unfold locB; rw [cel_of g4]
          have n1 : PG X (.Name x px) (gName i) := pg_name hN (by rw [c.hN]; exact g1) (by rw [c.hsc]; exact loc_of l1) (by rw [c.hsc]; exact c.fn x l1)
          have n2 : PG X (.Name y py) (gName j) := pg_name hN (by rw [c.hN]; exact g2) (by rw [c.hsc]; exact loc_of l2) (by rw [c.hsc]; exact c.fn y l2)
          exact PS.imp (ps_asg (pe_tup hes) (pg_tup (n := 2) c.calm (pgs_cons n1 (pgs_cons n2 pgs_nil))) (sole_of rfl) (sw_cell (by rw [c.hsc]; unfold celT; simp [g3]))) fun D σ H q => tS_parC _ (by simp only [exS] at q; exact q)
        · cases h1
      unfold parC at h1
      split at h1
      · rename_i i j x px y py a b
        simp only [Bool.and_eq_true, beq_iff_eq, decide_eq_true_eq, Bool.not_eq_true'] at h1
        obtain ⟨⟨⟨⟨⟨⟨⟨⟨⟨⟨g1, g2⟩, g3⟩, g4⟩, g5⟩, g6⟩, g7⟩, g8⟩, g9⟩, g10⟩, g11⟩ := h1
        exact PS.imp (ps_par c.calm hN (by rw [c.hN]; exact g1) (by rw [c.hN]; exact g2) g3 (by rw [c.hsc]; exact lcl_of g4) (by rw [c.hsc]; exact lcl_of g5) hes (swp2 c.kd (by rw [c.hsc]; exact lcl_of g4) (by rw [c.hsc]; exact lcl_of g5) g6 g7 g8 g9 g10 g11)) fun D σ H q => tS_par2 _ (by simp only [exS] at q; exact q)
      · rename_i i j l x px y py z pz a b d
        simp only [Bool.and_eq_true, beq_iff_eq, decide_eq_true_eq, Bool.not_eq_true'] at h1
        obtain ⟨⟨⟨⟨⟨⟨⟨⟨⟨⟨⟨⟨⟨⟨⟨⟨⟨⟨g1, g2⟩, g3⟩, g4⟩, g5⟩, g6⟩, g7⟩, g8⟩, g9⟩, g10⟩, g11⟩, g12⟩, g13⟩, g14⟩, g15⟩, g16⟩, g17⟩, g18⟩, g19⟩ := h1
        exact PS.imp (ps_par3 c.calm hN (by rw [c.hN]; exact g1) (by rw [c.hN]; exact g2) (by rw [c.hN]; exact g3) g4 g5 g6 (by rw [c.hsc]; exact lcl_of g7) (by rw [c.hsc]; exact lcl_of g8) (by rw [c.hsc]; exact lcl_of g9) hes (swp3 c.kd (by rw [c.hsc]; exact lcl_of g7) (by rw [c.hsc]; exact lcl_of g8) (by rw [c.hsc]; exact lcl_of g9) g10 g11 g12 g13 g14 g15 g16 g17 g18 g19)) fun D σ H q => tS_par3 _ (by simp only [exS] at q; exact q)
      · cases h1
    · cases h
  | .setAttr ci o f e, X, E, sc, c, F, x, h => by
    unfold chkS at h
    split at h
    · rename_i v n pa y p
      simp only [Bool.and_eq_true, beq_iff_eq] at h
      obtain ⟨⟨⟨⟨h1, h2⟩, h3⟩, h4⟩, h5⟩ := h
      subst h1
      obtain ⟨J, hJ, j1⟩ := any_cls h5
      simp only [Bool.and_eq_true, beq_iff_eq] at j1
      obtain ⟨j1, j2⟩ := j1
      obtain ⟨g1, g2, g3, _⟩ := F.cls J hJ
      have g3 := g3 _ (by simpa using j2)
      rw [j1] at g1 g3
      exact PS.imp (ps_fld (sndE o c.toCok F v h2) (sndE e c.toCok F y h3) (notComp_sw h4)) fun D σ H q => tS_setAttr g1 g3 _ _ (by simp only [exS] at q; exact q)
    · cases h
  | .setIx o i e, X, E, sc, c, F, x, h => by
    unfold chkS at h
    split at h
    · rename_i y z p1 v p2
      simp only [Bool.and_eq_true] at h
      obtain ⟨⟨⟨h1, h2⟩, h3⟩, h4⟩ := h
      exact PS.imp (ps_dput c.toCok.hu1 (sndE o c.toCok F _ h1) (sndE i c.toCok F _ h2) (sndE e c.toCok F _ h3) (notComp_sw h4)) fun D σ H q => tS_setIx _ _ _ (by simp only [exS] at q; exact q)
    · cases h
  | .unpkAt ci i fs e, X, E, sc, c, F, x, h => by
    unfold chkS at h
    split at h
    · rename_i es kk pt v p
      simp only [Bool.and_eq_true] at h
      obtain ⟨⟨⟨⟨h1, h2⟩, h3⟩, h4⟩, h5⟩ := h
      cases hx : N[i]? with
      | none => rw [hx] at h1; cases h1
      | some z =>
        rw [hx] at h1
        simp only [Bool.and_eq_true] at h1
        obtain ⟨⟨h1, hv⟩, hk⟩ := h1
        obtain ⟨n1, n2, n3⟩ := okNm_of hk
        obtain ⟨J, hJ, j1⟩ := any_cls h5
        simp only [Bool.and_eq_true, beq_iff_eq, List.all_eq_true] at j1
        obtain ⟨j1, j2⟩ := j1
        obtain ⟨g1, g2, g3, _⟩ := F.cls J hJ
        rw [j1] at g1 g3
        exact PS.imp (ps_asg (sndE e c.toCok F v h2) (pg_tup (n := es.length) c.calm (snd_flds (xc := xc) (E := E) (by rw [c.hN]; exact hx) (by rw [c.hsc]; exact vis_of hv) n1 n2 g1 fs es h1 fun f hf => g3 f (by simpa using j2 f hf)) (each_len es) (each_find es (fld_star h1))) (sole_of h3) (sw_stores (by cases v <;> first | rfl | cases h4))) fun D σ H q => tS_unpkAt (fld_len h1) _ (by simp only [exS] at q; exact q)
    · cases h
  | .expr e, X, E, sc, c, F, x, h => by
    unfold chkS at h
    split at h
    · simp only [Bool.and_eq_true] at h
      exact PS.imp (ps_expr (sndE e c.toCok F _ h.1) (notComp_sw h.2)) fun D σ H q => tS_expr _ (by simp only [exS] at q; exact q)
    · cases h
  | .ite e a b, X, E, sc, c, F, x, h => by
    unfold chkS at h
    split at h
    · simp only [Bool.and_eq_true] at h
      exact PS.imp (ps_if (sndT e c.toCok F _ h.1.1) (sndB a c F _ h.1.2) (sndB b c F _ h.2)) fun D σ H q => tS_ite _ _ _ (by simp only [exS] at q; exact q)
    · cases h
  | .forS tg it b, X, E, sc, c, F, x, h => by
    unfold chkS at h
    split at h
    · simp only [Bool.and_eq_true] at h
      exact PS.imp (ps_for c.po c.calm (sndI it c.toCok F _ _ h.1.1) (snd_tg c.nms tg _ h.1.2 h.1.2) (sndB b c F _ h.2) (noFold (chkIt_plain it sc _ _ h.1.1))) fun D σ H q => tS_for _ _ (by simp only [exS] at q; exact q)
    · cases h
  | .whil n e b, X, E, sc, c, F, x, h => by
    unfold chkS at h
    split at h
    · simp only [Bool.and_eq_true] at h
      exact PS.imp (ps_while c.po (sndT e c.toCok F _ h.1) (sndB b c F _ h.2)) fun D σ H q => tS_while (n := n) _ _ (by simp only [exS] at q; exact q)
    · cases h
  | .ret e, X, E, sc, c, F, x, h => by
    unfold chkS at h
    split at h
    · exact PS.imp (ps_ret (sndE e c.toCok F _ h)) fun D σ H q => tS_ret _ (by simp only [exS] at q; exact q)
    · cases h
  | .retN, X, E, sc, c, F, x, h => by
    unfold chkS at h
    split at h
    · exact PS.imp ps_retN fun D σ H q => tS_retN (K := X.K) (cl := cl) (xc := xc) (E := E) (by simp only [exS] at q; exact q)
    · cases h
  | .raise ci m, X, E, sc, c, F, x, h => by
    unfold chkS at h
    split at h
    · simp only [Bool.and_eq_true, beq_iff_eq] at h
      obtain ⟨⟨⟨h1, h2⟩, h3⟩, h4⟩ := h
      obtain ⟨p, hp, hq⟩ := any_exc h2
      simp only [Bool.and_eq_true, beq_iff_eq] at hq
      obtain ⟨f1, f2, f3, f4, f5⟩ := F.exc p hp
      rw [hq.1] at f1 f2 f3 f4 f5
      rw [hq.2] at f1
      exact PS.imp (ps_raise c.calm c.tk (pmk_own PySem.F.excBase_ValueError f3 f1 f2 (raises_own f4 f5) (glo_of c.hsc h3) (nmF h4))) fun D σ H q => tS_raise (K := X.K) (cl := cl) (xc := xc) (E := E) (by simp only [exS] at q; exact q)
    · cases h
  | .cont, X, E, sc, c, F, x, h => by
    unfold chkS at h
    split at h
    · exact PS.imp ps_continue fun D σ H q => tS_cont (K := X.K) (cl := cl) (xc := xc) (E := E) (by simp only [exS] at q; exact q)
    · cases h
  | .pass, X, E, sc, c, F, x, h => by
    unfold chkS at h
    split at h
    · exact PS.imp ps_pass fun D σ H q => tS_nil (K := X.K) (cl := cl) (xc := xc) (E := E) (by simp only [exS] at q; exact q)
    · cases h
theorem sndB : ∀ (b : Ss) {X : Cx} {E : XK} {sc : Scope}, Cos k N sc X E → Fac T k X.prog X.w X.K X.mg X.base cl xc → ∀ l : List Stmt, chkB T N sc b l = true → PSs X l (tS X.K cl xc E (exB (Phi T.fns k) b))
  | .nil, X, E, sc, c, F, l, h => by
    unfold chkB at h
    split at h
    · exact PSs.imp pss_nil fun D σ H q => tS_nil (K := X.K) (cl := cl) (xc := xc) (E := E) (by simp only [exB] at q; exact q)
    · cases h
  | .cons s r, X, E, sc, c, F, l, h => by
    unfold chkB at h
    split at h
    · simp only [Bool.and_eq_true] at h
      exact PSs.imp (pss_cons (sndS s c F _ h.1) (sndB r c F _ h.2)) fun D σ H q => tS_seq _ _ (by simp only [exB] at q; exact q)
    · cases h
end
end
end Dw

namespace Dw
open PySem PySem.Spec PyProof.Rows L2 LamX
/-- a def's promise, where it is called from outside -/
def RunAt (P : Program) (w : World) (K : PySem.W.Frag) (mg : Str → Option Value) (base : Heap) (CX : CXT) (A : Around) (f : Addr) (fd : FuncData) (ps : List Str) (sp : Sp) : Prop :=
  ∀ (s : Shared) (H : Hp) (args : Args) (us : List Value) (vs : List V) (Q : VK) (E : XK), Env0 P w K mg base A [] s H → BindsTo s fd args (ps.zip us) → Vals vs us → sp vs H Q E →
    codeAny (model P w) A (.call (.ref f) args) (CR CX [] P w H s Q E) s
theorem run_body {CX : CXT} {P : Program} {w : World} {K : PySem.W.Frag} {mg : Str → Option Value} {base : Heap} {k : Nat} {A : Around} {f : Addr} {name qual : Str} {params : Arguments} {body : List Stmt} {scope : Scope} {dV kV doc pm cdv ct oc : Value} {an od : Option Addr}
    {osl : Array (Option Value)} {N ps : List Str} {sp : Sp} (lk : K.lookup f = some ⟨oc, od, .func (PySem.W.fnOf name qual params body scope dV kV doc pm an cdv ct), osl⟩) (hcd : PySem.W.codeIn K cdv qual = true) (S : FnScope N ps scope) (hr : Room (k + 1) A)
    (len : ∀ vs H Q E, sp vs H Q E → vs.length = ps.length)
    (hbody : ∀ (s : Shared) (H : Hp) (vs : List V) (Q : VK) (E : XK), Room k (A.deeper (envOfC qual scope s.heap.objs.size f cdv)) → sp vs H Q E →
      ∃ t, PSs (cxOf CX P w K mg base N qual scope f cdv A [] s H E) body t ∧ t { nx := fun _ H' => Q .non H', rt := Q } (start N vs) H) :
    RunAt P w K mg base CX A f (PySem.W.fnOf name qual params body scope dV kV doc pm an cdv ct) ps sp := by
  intro s H args us vs Q E e0 hb r hsp
  obtain ⟨t, ht, hq⟩ := hbody s H vs Q E (hr.deeper _) hsp
  have mem : ∀ y ∈ ps.zip us, scope.names.lookup y.1 = some .local ∨ (scope.names.lookup y.1 = some .cell ∧ ((cellsFrom (s.heap.objs.size + 1) scope.names []).lookup y.1).isSome = true) := by
    rintro ⟨n, v⟩ hy
    exact (S.par n (List.of_mem_zip hy).1).imp id fun q => ⟨q, PySem.W.cellsFrom_some _ _ _ (.inl q)⟩
  have there : ∀ b o, base.get? b = some o → s.heap.get? b = some o := fun b o e => (e0.bs b o e).1
  have KX : K.In s.heap := e0.mod.kin.keeps there
  refine codeAny_call_function hr.depth (KX _ _ lk) rfl S.co S.gen rfl (PySem.W.codeRec_of KX hcd) (hb _ _ _ _ (wpAny_newFunctionEnv_cells S.kind mem fun env he s1 x => ?_))
  subst he
  refine ⟨(e0.mod.nolimit.keeps there).keeps x.toInCall.keep, codeAny_func ?_⟩
  have I : Inv (cxOf CX P w K mg base N qual scope f cdv A [] s H E) [] (start N vs) H s1 := inv_start S hr.hd e0 (len _ _ _ _ hsp) r x
  refine wpAny_mono (ht.run [] s1 (start N vs) H _ I hq) (fun fl s' hs => ?_) fun e s' hs => hs
  match fl, hs with
  | .ret u, ⟨v, σ', H', J, rv, q⟩ => exact ⟨v, H', J.os, J.bare, J.base, J.hok, rv, q⟩
  | .next, ⟨σ', H', J, q⟩ => exact ⟨.non, H', J.os, J.bare, J.base, J.hok, rfl, q⟩
  | .brk, ⟨_, _, _, q⟩ => exact q.elim
  | .cont, ⟨_, _, _, q⟩ => exact q.elim
/-- what is tracked at the beginning: the tables, and the script where it is none of the text's own -/
def trk (cs : List (Addr × Addr)) (K : PySem.W.Frag) (a : Addr) (o : Obj) (xs : List V) : Hp := fun b => if b ∈ cs.map (·.2) then some (.tbl #[]) else if b = a ∧ K.lookup a = none then some (.frz o (.lst xs)) else none
section
variable {P : Program} {w : World} {K : PySem.W.Frag} {mg mb : Str → Option Value} {CX : CXT} {fa a : Addr} {cs : List (Addr × Addr)} {fd : FuncData} {x : Str} {sp : Sp} {s : Shared} {vs : List Value} {ns : List Int}
theorem law_callG (KX : K.In s.heap) (hns : s.heap.Ns mainGlobals mg) (hb : s.heap.Ns builtinsNs mb) (hbb : ∀ x : Str, x ≠ "__name__" → mb x = bootBuiltins x) (hlim : s.heap.NoLimit) (hg : s.gens = #[])
    (hT : ∀ p ∈ cs, s.heap.get? p.2 = some { cls := .none, data := .fields #[] }) (nT : ∀ p ∈ cs, K.lookup p.2 = none) (C : ∀ p ∈ cs, PySem.W.CodeHd s.heap p.1 p.2)
    (hbm : ∃ (bm : Addr) (ob : Obj), mg "__builtins__" = some (.ref bm) ∧ bm ≠ builtinsNs ∧ s.heap.get? bm = some ob ∧ ob.cls = .type "module" ∧ ob.dict = some builtinsNs ∧ ob.data = .plain)
    (ha : s.heap.get? a = some { cls := .type "list", data := .seq vs.toArray }) (hi : IntsAre vs ns) (hl : ns.length ≤ sizeLine)
    (F : ∀ base : Heap, K.In base → base.Ns mainGlobals mg → (∀ p ∈ cs, TabB base mg p.1 p.2) → RunAt P w K mg base CX callerA fa fd [x] sp) (hbind : ∀ (s : Shared) (u : Value), BindsTo s fd ⟨[u], []⟩ [(x, u)])
    (hsp : ∀ H : Hp, (∀ p ∈ cs, H p.2 = some (.tbl #[])) → SqL K H a (ns.map V.int) → sp [.ref a] H (fun v _ => v = .bl true) fun _ _ _ => False)
    (hCX : ∀ H e s', CX [] H s (fun _ _ _ => False) e s' → False) :
    codeAny (model P w) callerA (.call (.ref fa) ⟨[.ref a], []⟩) (fun r s' => r = .ok (.ret (.bool true)) ∧ OldK s.heap s'.heap ∧ s'.os = s.os ∧ AllBare s'.gens) s := by
  have rv := vals_ints hi
  have lenV := hi.length
  have tab : ∀ b : Addr, b ∈ cs.map (·.2) → ∃ p ∈ cs, p.2 = b := fun b h => by obtain ⟨p, h1, h2⟩ := List.mem_map.mp h; exact ⟨p, h1, h2⟩
  have isT : ∀ b : Addr, b ∈ cs.map (·.2) → s.heap.get? b = some { cls := .none, data := .fields #[] } := fun b h => by obtain ⟨p, h1, rfl⟩ := tab b h; exact hT p h1
  have aT : a ∉ cs.map (·.2) := fun z => by
    have q := (isT a z).symm.trans ha
    simp at q
  obtain ⟨H, hH⟩ : ∃ H, H = trk cs K a { cls := .type "list", data := .seq vs.toArray } (ns.map V.int) := ⟨_, rfl⟩
  have H1 : ∀ b, b ∈ cs.map (·.2) → H b = some (.tbl #[]) := fun b h => by rw [hH]; exact if_pos h
  have H2 : K.lookup a = none → H a = some (.frz { cls := .type "list", data := .seq vs.toArray } (.lst (ns.map V.int))) := fun h => by rw [hH]; exact (if_neg aT).trans (if_pos ⟨rfl, h⟩)
  have H3 : ∀ b, H b ≠ none → b ∈ cs.map (·.2) ∨ (b = a ∧ K.lookup a = none) := fun b h => by
    rw [hH] at h
    unfold trk at h
    by_cases h1 : b ∈ cs.map (·.2)
    · exact .inl h1
    · rw [if_neg h1] at h
      by_cases h2 : b = a ∧ K.lookup a = none
      · exact .inr h2
      · rw [if_neg h2] at h; exact absurd rfl h
  have hcs : ∀ p ∈ cs, H p.2 = some (.tbl #[]) := fun p hp => H1 _ (List.mem_map.mpr ⟨p, hp, rfl⟩)
  have sq : SqL K H a (ns.map V.int) := by
    cases hk : K.lookup a with
    | some o =>
      have e := (KX a o hk).symm.trans ha
      cases e
      exact .inr ⟨_, vs.toArray, _, hk, rfl, rfl, rfl, by rw [List.size_toArray, lenV]; exact hl, by simpa using rv⟩
    | none => exact .inl (.inr ⟨_, H2 hk⟩)
  have hok : HOk P w H s.heap := fun b u z => by
    rcases H3 b (by rw [z]; simp) with h | ⟨rfl, h⟩
    · rw [H1 b h] at z
      cases z
      exact isT b h
    · rw [H2 h] at z
      cases z
      exact ⟨ha, by rw [List.length_map]; exact hl, vs, _, rv, ha⟩
  -- what is neither a list nor a table is not tracked
  have free : ∀ {b : Addr} {o : Obj}, s.heap.get? b = some o → (∀ vs n, o.data ≠ .seq vs n) → o.data ≠ .fields #[] → H b = none := fun {b o} e h1 h2 => Classical.byContradiction fun z => by
    rcases H3 b z with h | ⟨rfl, h⟩
    · have q := e.symm.trans (isT b h)
      cases q
      exact h2 rfl
    · have q := e.symm.trans ha
      cases q
      exact h1 _ _ rfl
  have below : ∀ {b : Addr} {o : Obj}, s.heap.get? b = some o → (∀ vs n, o.data ≠ .seq vs n) → o.data ≠ .fields #[] → (hidT s.heap H).get? b = some o := fun e h1 h2 => hidT_get e (free e h1 h2)
  have ns' : ∀ {b : Addr} {m : Str → Option Value}, s.heap.Ns b m → (hidT s.heap H).Ns b m := fun {b m} ⟨o, es, ep, e, d, r⟩ => ⟨o, es, ep, below e (fun _ _ z => by rw [d] at z; cases z) (fun z => by rw [d] at z; cases z), d, r⟩
  have kin : K.In (hidT s.heap H) := fun b o e => hidT_get (KX b o e) (Classical.byContradiction fun z => by
    rcases H3 b z with h | ⟨rfl, h⟩
    · obtain ⟨p, hp, rfl⟩ := tab b h
      rw [nT p hp] at e
      cases e
    · rw [h] at e
      cases e)
  have md : L2.Mod K mg (hidT s.heap H) := ⟨kin, ns' hns, ⟨mb, ns' hb, hbb⟩, let ⟨mc, h1, h2⟩ := hlim; ⟨mc, ns' h1, h2⟩⟩
  have tabs : ∀ p ∈ cs, TabB (hidT s.heap H) mg p.1 p.2 := fun p hp => by
    have hTp := hT p hp
    refine ⟨?_, ?_, fun z => ?_⟩
    · obtain ⟨o, us, file, tf, flags, tg, inF, text, tt, e1, r1, r2, r3, r4, r5, r6, r7, r8, hne⟩ := C p hp
      refine ⟨o, us, file, tf, flags, tg, inF, text, tt, below e1 (fun _ _ z => ?_) (fun z => ?_), r1, r2, r3, r4, r5, r6, r7, r8, hne⟩
      · rw [r2] at z; cases z
      · rw [r2] at z
        cases z
        simp at r3
    · obtain ⟨bm, ob, b1, b2, b3, b4, b5, b6⟩ := hbm
      refine ⟨bm, ob, b1, b2, fun q => ?_, fun q => ?_, below b3 (fun _ _ z => by rw [b6] at z; cases z) (fun z => by rw [b6] at z; cases z), b4, b5, b6⟩
      · obtain ⟨o, es, ep, e, hd, _⟩ := hns
        rw [q, e] at b3
        cases b3
        rw [hd] at b6
        cases b6
      · rw [q, hTp] at b3
        cases b3
        cases b6
    · obtain ⟨o, es, ep, e, hd, _⟩ := hns
      rw [z, hTp] at e
      cases e
      cases hd
  have e0 : Env0 P w K mg (hidT s.heap H) callerA [] s H := ⟨rfl, md, fun b o e => of_hidT e, Nat.le_of_eq (hidT_size _ _), trivial, fun b hb => (List.not_mem_nil hb).elim, hok, .of_eq hg⟩
  refine codeAny_mono (F _ kin (ns' hns) tabs s H ⟨[.ref a], []⟩ [.ref a] [.ref a] _ _ e0 (hbind s (.ref a)) (.cons rfl .nil) (hsp H hcs sq)) fun r s' h => ?_
  match r, h with
  | .error e, h => exact (hCX H e s' h).elim
  | .ok .next, h => exact h.elim
  | .ok .brk, h => exact h.elim
  | .ok .cont, h => exact h.elim
  | .ok (.ret u), ⟨v, H', os, bare, un, hok', r', q⟩ =>
    have q' : v = .bl true := q
    subst q'
    obtain rfl : u = Value.bool true := r'
    have grown : ∀ b ∈ cs.map (·.2), ∃ more : Array Value, s'.heap.get? b = some { cls := .none, data := .fields more } := fun b hb => by
      obtain ⟨more, z⟩ := un.tbls b #[] (H1 b hb)
      exact ⟨_, hok' b _ z⟩
    have key : ∀ b o, b ∉ cs.map (·.2) → s.heap.get? b = some o → s'.heap.get? b = some o := fun b o nb e => by
      by_cases q : H b = none
      · exact un.keep b o e q (List.not_mem_nil) (by simp)
      · rcases H3 b q with h | ⟨rfl, h⟩
        · exact absurd h nb
        · obtain ⟨e2, _⟩ := hok' b _ (un.frzs b _ _ (H2 h))
          cases e.symm.trans ha
          exact e2
    refine ⟨rfl, ⟨fun b o e => ?_, fun b o e => ?_⟩, os, bare⟩
    · by_cases hb : b ∈ cs.map (·.2)
      · obtain ⟨more, hm⟩ := grown b hb
        obtain ⟨p, hp, rfl⟩ := tab b hb
        cases e.symm.trans (hT p hp)
        exact .inr (.inl ⟨((C p hp).tab (hT p hp)).isCodeTable, rfl, #[], more, rfl, by rw [Array.empty_append]; exact hm⟩)
      · exact .inl (key b o hb e)
    · by_cases hb : b ∈ cs.map (·.2)
      · obtain ⟨more, hm⟩ := grown b hb
        exact ⟨_, hm⟩
      · exact ⟨o, key b o hb e⟩
end
/-- what a law's own def must keep, told at one world -/
def LawAtG (l : PySem.W.OpenLaw) (w : World) (K : PySem.W.Frag) (CX : CXT) (n : Nat) (x : Str) (mg : Str → Option Value) (fa : Addr) (h : Heap) : Prop :=
  ∃ (fd : FuncData) (cs : List (Addr × Addr)) (sp : Sp), (∀ p ∈ cs, h.get? p.2 = some { cls := .none, data := .fields #[] }) ∧ (∀ p ∈ cs, K.lookup p.2 = none) ∧ (∀ p ∈ cs, PySem.W.CodeHd h p.1 p.2) ∧ (∀ (s : Shared) (u : Value), BindsTo s fd ⟨[u], []⟩ [(x, u)]) ∧
    (∀ (H : Hp) (a : Addr) (ns : List Int), ns.length ≤ n → (∀ p ∈ cs, H p.2 = some (.tbl #[])) → SqL K H a (ns.map V.int) → sp [.ref a] H (fun v _ => v = .bl true) fun _ _ _ => False) ∧
    ∀ base : Heap, K.In base → base.Ns mainGlobals mg → (∀ p ∈ cs, TabB base mg p.1 p.2) → RunAt l.prog w K mg base CX callerA fa fd [x] sp
theorem walk_G {l : PySem.W.OpenLaw} {n : Nat} {q : Program} {loose : List Str} {XP : (Str → Option Value) → Heap → Prop} {YP : World → Heap → Prop} {d : DefRec} {CX : World → CXT} {x : Str}
    (hn : l.most = some n) (hn2 : n ≤ sizeLine) (hdf : d.params.defaults = [])
    (F : ∀ (w : World) (mg : Str → Option Value) (fa : Addr) (h : Heap), YP w h → h.Ns mainGlobals mg → mg d.name = some (.ref fa) → ∃ K : PySem.W.Frag, K.In h ∧ LawAtG l w K (CX w) n x mg fa h)
    (hCX : ∀ (w : World) (H : Hp) (s : Shared) (e : Value) (s' : Shared), CX w [] H s (fun _ _ _ => False) e s' → False) :
    PySem.W.WalkO q loose XP YP l.row.toRowW d [] (fun f vs => PySem.call f vs) := by
  refine Att.attach_callB hn hdf fun w s₀ s₁ mg mb fa o pm cd doc a vs ns G Y ho hd hcd hmg hobj hints hlen hbits hg => ?_
  obtain ⟨K, KX, fd, cs, sp, hT, nT, C, hb, hsp, hF⟩ := F w mg fa _ Y G.T.g hmg
  exact law_callG KX G.T.g G.T.b G.T.builtins G.T.nolimit hg hT nT C G.T.bmain hobj hints (Nat.le_trans hlen hn2) hF hb (fun H hH hS => hsp H a ns hlen hH hS) fun H e s' => hCX w H s₁ e s'
end Dw

namespace Dw
open PySem L2
variable [Tb]
section
variable {K : PySem.W.Frag} {cl xc : Nat → Addr} {E : XK}
/-! ### leaving a def: the store cut back -/
theorem live_take {H : Hp} {F : Addr → Prop} {m : List Addr} {st : Sto} {n : Nat} {a : Addr} (h : Live ⟨H, F, m.take n, st.take n⟩ a) : Live ⟨H, F, m, st⟩ a := by
  obtain ⟨i, o, h1, h2, h3⟩ := h
  have h1 : (m.take n)[i]? = some a := h1
  have h2 : (st.take n)[i]? = some o := h2
  rw [List.getElem?_take] at h1 h2
  by_cases hi : i < n
  · rw [if_pos hi] at h1 h2
    exact ⟨i, o, h1, h2, h3⟩
  · rw [if_neg hi] at h1; cases h1
theorem below_v {H : Hp} {F : Addr → Prop} {m : List Addr} {st : Sto} {n : Nat} {v : V} {x : Vl} (hb : vBelow n x = true) (h : RpV K ⟨H, F, m, st⟩ v x) (mpD : ∀ d v, Rp K ⟨H, F, m, st⟩ v d → Rp K ⟨H, F, m.take n, st.take n⟩ v d) : RpV K ⟨H, F, m.take n, st.take n⟩ v x := by
  cases x with
  | d x => exact mpD x v h
  | o i =>
    obtain ⟨a, h1, h2⟩ := h
    have hi : i < n := of_decide_eq_true hb
    exact ⟨a, h1, by show (m.take n)[i]? = _; rw [List.getElem?_take, if_pos hi]; exact h2⟩
mutual
theorem Rp.cut {H : Hp} {F : Addr → Prop} {m : List Addr} {st : Sto} {n : Nat} : ∀ (d : D) (v : V), Rp K ⟨H, F, m, st⟩ v d → Rp K ⟨H, F, m.take n, st.take n⟩ v d
  | .none, _, h => by cases h; exact .non
  | .bool b, _, h => by cases h; exact .bl b
  | .int i, _, h => by cases h; exact .int i
  | .str x, _, h => by cases h; exact .str x
  | .list ds, _, h => by
    cases h with
    | lst h1 h2 => exact .lst ⟨h1.1, fun z => h1.2.1 (live_take z), h1.2.2⟩ (RpA.cut2 ds _ h2)
  | .tuple ds, _, h => by
    cases h with
    | tup h1 h2 => exact .tup (h1.imp (fun z => ⟨z.1, fun q => z.2.1 (live_take q), z.2.2⟩) id) (RpA.cut2 ds _ h2)
  | .dict _, _, h => by cases h
theorem RpA.cut2 {H : Hp} {F : Addr → Prop} {m : List Addr} {st : Sto} {n : Nat} : ∀ (ds : List D) (vs : List V), RpA K ⟨H, F, m, st⟩ vs ds → RpA K ⟨H, F, m.take n, st.take n⟩ vs ds
  | [], _, h => by cases h; exact .nil
  | d :: ds, _, h => by
    cases h with
    | cons h1 h2 => exact .cons (Rp.cut d _ h1) (RpA.cut2 ds _ h2)
end
theorem Paired.imp2 {α β : Type} {F G : α → β → Prop} {p : α → Bool} (f : ∀ a b, p a = true → F a b → G a b) : ∀ {l₁ : List α} {l₂ : List β}, l₁.all p = true → Paired F l₁ l₂ → Paired G l₁ l₂
  | _, _, _, .nil => .nil
  | _, _, h, .cons r t => by
    simp only [List.all_cons, Bool.and_eq_true] at h
    exact .cons (f _ _ h.1 r) (Paired.imp2 f h.2 t)
theorem wf_take {H : Hp} {F : Addr → Prop} {m : List Addr} {st : Sto} {n : Nat} (w : Wf K cl ⟨H, F, m, st⟩) (hb : (st.take n).all (obBelow n) = true) : Wf K cl ⟨H, F, m.take n, st.take n⟩ := by
  have at1 : ∀ {i : Nat} {a : Addr}, (m.take n)[i]? = some a → i < n ∧ m[i]? = some a := fun {i a} h => by
    rw [List.getElem?_take] at h
    by_cases hi : i < n
    · rw [if_pos hi] at h; exact ⟨hi, h⟩
    · rw [if_neg hi] at h; cases h
  have at2 : ∀ {i : Nat} {a : Ob}, (st.take n)[i]? = some a → i < n ∧ st[i]? = some a := fun {i a} h => by
    rw [List.getElem?_take] at h
    by_cases hi : i < n
    · rw [if_pos hi] at h; exact ⟨hi, h⟩
    · rw [if_neg hi] at h; cases h
  have hl : m.length = st.length := w.len
  refine ⟨by simp [hl], fun i j a o u h1 h2 h3 h4 d1 d2 => w.inj i j a o u (at1 h1).2 (at1 h2).2 (at2 h3).2 (at2 h4).2 d1 d2, fun i a o h1 h2 d => w.nf i a o (at1 h1).2 (at2 h2).2 d, fun i a o h1 h2 => ?_, w.ft, w.tb⟩
  have ho : obBelow n o = true := List.all_eq_true.mp hb o (List.mem_of_getElem? h2)
  have hr := w.ob i a o (at1 h1).2 (at2 h2).2
  have cutD : ∀ d v, Rp K ⟨H, F, m, st⟩ v d → Rp K ⟨H, F, m.take n, st.take n⟩ v d := fun d v => Rp.cut d v
  cases o with
  | dead => exact True.intro
  | lst ds => obtain ⟨xs, k1, k2⟩ := hr; exact ⟨xs, k1, RpA.cut2 ds xs k2⟩
  | scr ds => obtain ⟨xs, k1, k2⟩ := hr; exact ⟨xs, k1, RpA.cut2 ds xs k2⟩
  | ins c fs =>
    obtain ⟨dx, gs, k1, k2⟩ := hr
    exact ⟨dx, gs, k1, Paired.imp2 (p := fun (p : Str × Vl) => vBelow n p.2) (fun p q hp hq => ⟨hq.1, below_v hp hq.2 cutD⟩) ho k2⟩
  | dct kvs =>
    obtain ⟨gs, k1, k2⟩ := hr
    exact ⟨gs, k1, Paired.imp2 (p := fun (p : Key × Vl) => vBelow n p.2) (fun p q hp hq => ⟨hq.1, below_v hp hq.2 cutD⟩) ho k2⟩
theorem ex_take {W : Wd} {H : Hp} {m : List Addr} {st : Sto} (w : Wf K cl W) (e : Ex W ⟨H, W.F, m, st⟩) : Ex W ⟨H, W.F, m.take W.st.length, st.take W.st.length⟩ := by
  refine ⟨rfl, ?_, fun a o h l n => ?_⟩
  · obtain ⟨t, ht⟩ := e.m
    have ht : W.m ++ t = m := ht
    show W.m <+: m.take W.st.length
    rw [← w.len, ← ht, List.take_left]
    exact List.prefix_refl _
  · obtain ⟨h1, l1⟩ := e.keep a o h l n
    exact ⟨h1, fun z => l1 (live_take z)⟩
theorem leave_ok {drop : Bool} {m : M (Fl × Env)} {W : Wd} {Q : VK} (w : Wf K cl W) (h : Post K cl xc E W (leave drop m W.st) (QE K Q)) :
    Post K cl xc E W (m W.st) fun p W' => ∀ σ', EnvR K W' σ' p.2 → FlR K { nx := fun _ H' => Q .non H', rt := Q } σ' W' p.1 := by
  unfold leave at h
  have key : ∀ (v : Vl) (s' : Sto), Post K cl xc E W (leaveV drop W.st.length v s') (QE K Q) → ∀ H m, Ex W ⟨H, W.F, m, s'⟩ → Wf K cl ⟨H, W.F, m, s'⟩ → ∀ u, RpV K ⟨H, W.F, m, s'⟩ u v → Q u H := by
    intro v s' hp H mm ex wf u ru
    unfold leaveV at hp
    cases drop with
    | false => exact hp H mm ex wf u ru
    | true =>
      rw [if_pos rfl] at hp
      by_cases hc : (vBelow 0 v && (s'.take W.st.length).all (obBelow W.st.length)) = true
      · rw [if_pos hc] at hp
        rw [Bool.and_eq_true] at hc
        refine hp H (mm.take W.st.length) (ex_take w ex) (wf_take wf hc.2) u ?_
        cases v with
        | o i => exact absurd (show decide (i < 0) = true from hc.1) (by simp)
        | d x => exact Rp.cut x u ru
      · rw [if_neg hc] at hp; exact hp.elim
  cases e : m W.st with
  | no => rw [e] at h; exact h
  | ex c s' => rw [e] at h; exact h
  | ok p s' =>
    rw [e] at h
    obtain ⟨fl, env⟩ := p
    intro H mm ex wf σ' he
    cases fl with
    | rt v => exact fun u ru => key v s' h H mm ex wf u ru
    | nx => exact key nonV s' h H mm ex wf .non .non
    | bk => exact h.elim
    | ct => exact h.elim
theorem RpVs.get {W : Wd} : ∀ {vs : List V} {xs : List Vl} {i : Nat} {y : Vl}, RpVs K W vs xs → xs[i]? = some y → ∃ v, vs[i]? = some v ∧ RpV K W v y
  | _, _, i, y, .nil, h => by cases h
  | _, _, 0, y, .cons r t, h => by cases h; exact ⟨_, rfl, r⟩
  | _, _, i + 1, y, .cons r t, h => RpVs.get (i := i) t h
theorem start_env {N : List Str} {Fn : Fn} {W : Wd} {vs : List V} {xs : List Vl} (hN : Fn.nN = N.length) (r : RpVs K W vs xs) : EnvR K W (L2.start N vs) (enter Fn xs) := by
  have hl : vs.length = xs.length := (Paired.length r).symm ▸ rfl
  refine ⟨?_, fun i x h => ?_⟩
  · unfold L2.start enter
    simp [hl, hN]
  · unfold enter at h
    unfold L2.start
    by_cases hi : i < xs.length
    · rw [List.getElem?_append_left (by simpa using hi), List.getElem?_map] at h
      rw [List.getElem?_append_left (by simpa [hl] using hi), List.getElem?_map]
      cases hx : xs[i]? with
      | none => rw [hx] at h; cases h
      | some y =>
        rw [hx] at h
        cases h
        obtain ⟨v, h1, h2⟩ := RpVs.get r hx
        exact ⟨v, by rw [h1]; rfl, h2⟩
    · rw [List.getElem?_append_right (by simpa using hi)] at h
      rw [List.getElem?_replicate] at h
      split at h <;> cases h
end
theorem gd_deeper {A : Around} (h : A.guards = some []) (env : PySem.Env) : (A.deeper env).guards = some [] := by
  have : (A.deeper env).guards = A.guards := rfl
  rw [this, h]
/-- what stands in the text of a def -/
structure DefOk (lw : Bool) (T : Tx) (K : PySem.W.Frag) (f : Nat) (ps : List Str) (a : Addr) (fd : FuncData) : Prop where
  ex : ∃ (x qual : Str) (st : Stmt) (N : List Str) (Fn : Fn), FunD K x qual (defArgs st) (defBody st) (defScope st) [] [] a fd ∧ FnScope N ps (defScope st) ∧ T.fns f = some Fn ∧ Fn.np = ps.length ∧ Fn.nN = N.length ∧ chkB T N (defScope st) Fn.body (defBody st) = true ∧
    (lw = false → rpN N = false) ∧ ∃ c P, fd.code = .ref c ∧ (c, P) ∈ Tb.cs ∧ (P, qual ++ ".<locals>." ++ "<lambda>") ∈ Tb.T ∧ ∀ p ∈ Tb.T, p.1 = P → p.2 = qual ++ ".<locals>." ++ "<lambda>"
  bd : Binds K fd ps []
  bt : ∀ (s : Shared) (us : List Value), us.length = ps.length → BindsTo s fd ⟨us, []⟩ (ps.zip us)
structure Txt (T : Tx) (K : PySem.W.Frag) (mg : Str → Option Value) (cl xc : Nat → Addr) : Prop where
  fn : ∀ I ∈ T.inf, ∃ a fd, DefOk false T K I.f I.ps a fd ∧ (match I.c with
    | none => mg I.nm = some (.ref a) ∧ PySem.W.keepIn K (.ref a) = true
    | some c => Meth K (cl c) I.nm a)
  cls : ∀ I ∈ T.cls, Cls K (cl I.c) ∧ mg I.nm = some (.ref (cl I.c)) ∧ (∀ f ∈ I.flds, NoAttr K (cl I.c) f) ∧ ∃ a fd ps, Mk K (cl I.c) a ∧ DefOk false T K I.ini ps a fd
  con : ∀ p ∈ T.con, ∃ v u, mg p.1 = some u ∧ RelV v u ∧ KRp K v p.2
  blt : ∀ x ∈ T.blt, mg x = none
  tol : ∀ p ∈ T.tol, ToldF K mg xc p.1 p.2
  exc : ∀ p ∈ T.exc, mg p.2 = some (.ref (xc p.1)) ∧ PySem.W.keepIn K (.ref (xc p.1)) = true ∧ PySem.W.excIn K (xc p.1) [.type "ValueError", .type "Exception", .type "BaseException", .type "object"] "ValueError.__new__" = true ∧
    PySem.W.subIn K (.ref (xc p.1)) (.type "BaseException") = some true ∧ PySem.W.typeIn K (.ref (xc p.1)) = some (.type "type")
theorem spF_len {K : PySem.W.Frag} {cl xc : Nat → Addr} {n : Nat} {φ : List Vl → M Vl} {ps : List Str} (hn : n = ps.length) : ∀ vs H Q E, spF K cl xc n φ vs H Q E → vs.length = ps.length := by
  rintro vs H Q E ⟨xs, W, _, r, h, _⟩
  rw [← hn, ← h]
  exact Paired.length r ▸ rfl
section
variable {T : Tx} {P : Program} {w : World} {K : PySem.W.Frag} {mg : Str → Option Value} {base : Heap} {cl xc : Nat → Addr}
theorem def_zero {f : Nat} {ps : List Str} {a : Addr} {fd : FuncData} : FnOk P w K mg base (L2.CX P w) (4 * 0) a fd ps (spF K cl xc ps.length (Phi T.fns 0 f)) :=
  ⟨spF_len rfl, fun A outer s H args us vs Q E hr he hb hv ⟨xs, W, _, _, _, _, p⟩ => p.elim⟩
theorem def_succ {k f : Nat} {ps : List Str} {a : Addr} {fd : FuncData} (hTB : ∀ p ∈ Tb.cs, LamX.TabB base mg p.1 p.2) (F : Fac T k P w K mg base cl xc) (d : DefOk false T K f ps a fd) : FnOk P w K mg base (L2.CX P w) (4 * (k + 1)) a fd ps (spF K cl xc ps.length (Phi T.fns (k + 1) f)) := by
  obtain ⟨x, qual, st, N, Fn, h1, S, h3, h4, h5, h6, hnr, cc, PP, hcode, hcs, hT, hu⟩ := d.ex
  obtain ⟨oc, od, dV, kV, doc, pm, an, cdv, ct, osl, rfl, lk, hcd, _, _⟩ := h1.ex
  have hcode : cdv = .ref cc := hcode
  have e4 : 4 * (k + 1) = (4 * k + 3) + 1 := by omega
  rw [e4]
  generalize hm : 4 * k + 3 = m
  refine fn_of (k := m) lk hcd S (spF_len rfl) fun A outer s H vs Q E hr ⟨xs, W, hW, r, hn, w', p⟩ => ?_
  rw [← hm] at hr
  subst hW
  have key : ∀ X : Cx, X.env.code = .ref cc → X.env.qual = qual ++ ".<locals>." → X.base = base → X.mg = mg → Room (4 * k + 3) X.A → LamC k X := fun X h1 h2 h3 h4 h5 => ⟨⟨cc, PP, h1, by rw [h3, h4]; exact hTB _ hcs, by rw [h2]; exact hT, by rw [h2]; exact hu⟩, h5⟩
  have c : Cos k N (defScope st) (cxOf (L2.CX P w) P w K mg base N qual (defScope st) a cdv A outer s W.H E) E :=
    { hN := rfl, nd := S.nd, hsc := rfl, calm := rfl, room := hr.mono (by omega), tk := takes_of rfl rfl rfl rfl, lam := fun _ => key _ hcode rfl rfl rfl hr, gd := fun z _ => absurd z (by rw [hnr rfl]; simp), fn := fun _ _ => .inl rfl, po := passes_of rfl, kd := S.kind }
  refine ⟨_, sndB Fn.body c F _ h6, enter Fn xs, W, rfl, start_env h5 r, w', ?_⟩
  rw [Phi_succ h3] at p
  unfold Dw.Fn.run at p
  rw [if_pos (by rw [hn, h4])] at p
  exact leave_ok w' p
theorem np_of {lw : Bool} {f : Nat} {ps : List Str} {a : Addr} {fd : FuncData} (d : DefOk lw T K f ps a fd) : npOf T.fns f = some ps.length := by
  obtain ⟨x, qual, st, N, Fn, h1, S, h3, h4, h5, h6, _⟩ := d.ex
  unfold npOf
  rw [h3, ← h4]
  rfl
/-- all defs of the text keep their promises -/
theorem fac_all (hTB : ∀ p ∈ Tb.cs, LamX.TabB base mg p.1 p.2) (t : Txt T K mg cl xc) : ∀ k, Fac T k P w K mg base cl xc
  | 0 => ⟨fun I hI => let ⟨a, fd, d, h⟩ := t.fn I hI; ⟨a, fd, def_zero, d.bd, np_of d, h⟩, fun I hI => let ⟨h1, h2, h3, a, fd, ps, h4, d⟩ := t.cls I hI; ⟨h1, h2, h3, a, fd, ps, h4, d.bd, np_of d, def_zero⟩, t.con, t.blt, t.tol, t.exc⟩
  | k + 1 => by
    have ih := fac_all hTB t k
    exact ⟨fun I hI => let ⟨a, fd, d, h⟩ := t.fn I hI; ⟨a, fd, def_succ hTB ih d, d.bd, np_of d, h⟩, fun I hI => let ⟨h1, h2, h3, a, fd, ps, h4, d⟩ := t.cls I hI; ⟨h1, h2, h3, a, fd, ps, h4, d.bd, np_of d, def_succ hTB ih d⟩, t.con, t.blt, t.tol, t.exc⟩
/-- the law's own def, where nothing guards -/
theorem def_law (hTB : ∀ p ∈ Tb.cs, LamX.TabB base mg p.1 p.2) (t : Txt T K mg cl xc) {lw : Bool} {f : Nat} {ps : List Str} {a : Addr} {fd : FuncData} (d : DefOk lw T K f ps a fd) {A : Around} (hg : A.guards = some []) : ∀ k, Room (4 * k) A → RunAt P w K mg base (L2.CX P w) A a fd ps (spF K cl xc ps.length (Phi T.fns k f))
  | 0, _ => fun s H args us vs Q E he hb hv ⟨xs, W, _, _, _, _, p⟩ => p.elim
  | k + 1, hr0 => by
    have F := fac_all (P := P) (w := w) (base := base) hTB t k
    obtain ⟨x, qual, st, N, Fn, h1, S, h3, h4, h5, h6, _, cc, PP, hcode, hcs, hT, hu⟩ := d.ex
    obtain ⟨oc, od, dV, kV, doc, pm, an, cdv, ct, osl, rfl, lk, hcd, _, _⟩ := h1.ex
    have hcode : cdv = .ref cc := hcode
    have e4 : 4 * (k + 1) = (4 * k + 3) + 1 := by omega
    rw [e4] at hr0
    generalize hm : 4 * k + 3 = m at hr0
    refine run_body (k := m) lk hcd S hr0 (spF_len rfl) fun s H vs Q E hr ⟨xs, W, hW, r, hn, w', p⟩ => ?_
    rw [← hm] at hr
    subst hW
    have key : ∀ X : Cx, X.env.code = .ref cc → X.env.qual = qual ++ ".<locals>." → X.base = base → X.mg = mg → Room (4 * k + 3) X.A → LamC k X := fun X h1 h2 h3 h4 h5 => ⟨⟨cc, PP, h1, by rw [h3, h4]; exact hTB _ hcs, by rw [h2]; exact hT, by rw [h2]; exact hu⟩, h5⟩
    have c : Cos k N (defScope st) (cxOf (L2.CX P w) P w K mg base N qual (defScope st) a cdv A [] s W.H E) E :=
      { hN := rfl, nd := S.nd, hsc := rfl, calm := rfl, room := hr.mono (by omega), tk := takes_of rfl rfl rfl rfl, lam := fun _ => key _ hcode rfl rfl rfl hr, gd := fun _ _ => gd_deeper hg _, fn := fun _ _ => .inl rfl, po := passes_of rfl, kd := S.kind }
    refine ⟨_, sndB Fn.body c F _ h6, enter Fn xs, W, rfl, start_env h5 r, w', ?_⟩
    rw [Phi_succ h3] at p
    unfold Dw.Fn.run at p
    rw [if_pos (by rw [hn, h4])] at p
    exact leave_ok w' p
end
end Dw

namespace Dw
open PySem L2
/-! ### constants of the module -/
mutual
def relD (K : PySem.W.Frag) : D → Value → Bool
  | .none, u => match u with | .none => true | _ => false
  | .bool b, u => match u with | .bool c => b == c | _ => false
  | .int i, u => match u with | .int j _ => decide (i = j) | _ => false
  | .str x, u => match u with | .str y _ => decide (x = y) | _ => false
  | .tuple ds, u => match u with
    | .ref a => match K.lookup a with
      | some ⟨.type c, _, .seq its _, _⟩ => decide (c = "tuple") && decide (its.size ≤ sizeLine) && relDs K ds its.toList
      | _ => false
    | _ => false
  | _, _ => false
def relDs (K : PySem.W.Frag) : List D → List Value → Bool
  | [], us => match us with | [] => true | _ => false
  | d :: ds, us => match us with | u :: us => relD K d u && relDs K ds us | _ => false
end
mutual
theorem relD_ok {K : PySem.W.Frag} : ∀ (d : D) (u : Value), relD K d u = true → ∃ v, RelV v u ∧ KRp K v d
  | .none, u, h => by
    unfold relD at h
    split at h
    · exact ⟨.non, rfl, fun _ => .non⟩
    · cases h
  | .bool b, u, h => by
    unfold relD at h
    split at h
    · have : b = _ := eq_of_beq h
      subst this
      exact ⟨.bl b, rfl, fun _ => .bl b⟩
    · cases h
  | .int i, u, h => by
    unfold relD at h
    split at h
    · have := of_decide_eq_true h
      subst this
      exact ⟨.int i, ⟨_, rfl⟩, fun _ => .int i⟩
    · cases h
  | .str x, u, h => by
    unfold relD at h
    split at h
    · have := of_decide_eq_true h
      subst this
      exact ⟨.str x, ⟨_, rfl⟩, fun _ => .str x⟩
    · cases h
  | .tuple ds, u, h => by
    unfold relD at h
    split at h
    · rename_i a
      split at h
      · rename_i c od its n sl hl
        simp only [Bool.and_eq_true, decide_eq_true_eq] at h
        obtain ⟨⟨h1, h2⟩, h3⟩ := h
        subst h1
        obtain ⟨vs, r, k⟩ := relDs_ok ds its.toList h3
        exact ⟨.ref a, rfl, fun W => .tup (.inr ⟨_, its, n, hl, rfl, rfl, h2, r⟩) (k W)⟩
      · cases h
    · cases h
  | .list _, u, h => by unfold relD at h; cases h
  | .dict _, u, h => by unfold relD at h; cases h
theorem relDs_ok {K : PySem.W.Frag} : ∀ (ds : List D) (us : List Value), relDs K ds us = true → ∃ vs, Vals vs us ∧ ∀ W, RpA K W vs ds
  | [], us, h => by
    unfold relDs at h
    split at h
    · exact ⟨[], .nil, fun _ => .nil⟩
    · cases h
  | d :: ds, us, h => by
    unfold relDs at h
    split at h
    · simp only [Bool.and_eq_true] at h
      obtain ⟨v, r1, k1⟩ := relD_ok d _ h.1
      obtain ⟨vs, r2, k2⟩ := relDs_ok ds _ h.2
      exact ⟨v :: vs, .cons r1 r2, fun W => .cons (k1 W) (k2 W)⟩
    · cases h
end
def conOk (K : PySem.W.Frag) (p : Str × D) : Bool := match PySem.W.nsIn K mainGlobals p.1 with
  | some (some u) => relD K p.2 u
  | _ => false
/-! ### the defs of a text -/
structure DefS where
  f : Nat
  c : Option Str := none
  nm : Str
  st : Stmt
  N : List Str
  ps : List Str
def DefS.dd (d : DefS) : He.DefD := match d.c with
  | none => ⟨(d.nm, none), d.nm, d.nm, defArgs d.st, defBody d.st, defScope d.st, [], []⟩
  | some C => ⟨(C, some d.nm), d.nm, C ++ "." ++ d.nm, defArgs d.st, defBody d.st, defScope d.st, [], []⟩
def scB (N P : List Str) (sc : Scope) : Bool := (match sc.kind with | .function => true | _ => false) && !sc.isCoroutine && !sc.isGenerator && decide N.Nodup && decide (N.take P.length = P) &&
  (P.all fun x => locB sc x) && sc.names.all fun y => match y.2 with | .free => false | _ => true
theorem scB_ok [Tb] {N P : List Str} {sc : Scope} (h : scB N P sc = true) : FnScope N P sc := by
  unfold scB at h
  simp only [Bool.and_eq_true, decide_eq_true_eq, Bool.not_eq_true', List.all_eq_true] at h
  obtain ⟨⟨⟨⟨⟨⟨h1, h2⟩, h3⟩, h4⟩, h5⟩, h6⟩, h7⟩ := h
  refine ⟨?_, h2, h3, h4, h5, fun x hx => ?_, fun y hy e => ?_⟩
  · split at h1
    · assumption
    · cases h1
  · have := loc_of (h6 x hx)
    exact this
  · have q := h7 y hy
    rw [e] at q
    cases q
def chkD (T : Tx) (d : DefS) : Bool := (match T.fns d.f with
  | some F => F.np == d.ps.length && F.nN == d.N.length && chkB T d.N (defScope d.st) F.body (defBody d.st)
  | none => false) && scB d.N d.ps (defScope d.st)
/-- how a def's arguments bind -/
def BndS (d : DefS) : Prop := ∀ (q : Str) (kV doc pm : Value) (an : Option Addr) (cdv ct : Value) (us : List Value), us.length = d.ps.length → bindArgs (PySem.W.fnOf d.nm q (defArgs d.st) (defBody d.st) (defScope d.st) .none kV doc pm an cdv ct) ⟨us, []⟩ = pure (d.ps.zip us)
theorem defOk [Tb] {lw : Bool} {T : Tx} {K : PySem.W.Frag} {d : DefS} {q : Str} {a : Addr} {fd : FuncData} (F : FunD K d.nm q (defArgs d.st) (defBody d.st) (defScope d.st) [] [] a fd) (h : chkD T d = true) (b : BndS d) (hr : lw = false → rpN d.N = false)
    (hc : ∃ c P, fd.code = .ref c ∧ (c, P) ∈ Tb.cs ∧ (P, q ++ ".<locals>." ++ "<lambda>") ∈ Tb.T ∧ ∀ p ∈ Tb.T, p.1 = P → p.2 = q ++ ".<locals>." ++ "<lambda>") : DefOk lw T K d.f d.ps a fd := by
  unfold chkD at h
  rw [Bool.and_eq_true] at h
  obtain ⟨h1, h2⟩ := h
  split at h1
  · rename_i Fn hf
    simp only [Bool.and_eq_true, beq_iff_eq] at h1
    exact ⟨⟨d.nm, q, d.st, d.N, Fn, F, scB_ok h2, hf, h1.1.1, h1.1.2, h1.2, hr, hc⟩, F.bindsN (b q), fun s us hl => F.bindsA (b q) s us hl⟩
  · cases h1
/-! ### defs that tell -/
def told0B (bg : List Stmt) : Bool := match bg with
  | [.Try [.Assign [(.Name x1 _)] (.Tuple [(.Constant (.str x2) _ _), (.Call (.Name x3 _) [] [] _)] _ _) _] [.ExceptHandler (some (.Name x4 _)) (some x5) [.Assign [(.Name x6 _)] (.List [(.Call (.Name x7 _) [(.Name x8 _), (.Name x9 _)] [] _), (.Call (.Name x10 _) [(.Name x11 _), (.Name x12 _)] [] _), (.Call (.Name x13 _) [(.Name x14 _), (.Name x15 _)] [] _), (.Call (.Name x16 _) [(.Name x17 _), (.Name x18 _)] [] _)] _) _, .Assign [(.Name x19 _)] (.Tuple [(.Constant (.str x20) _ _), (.UnaryOp .USub (.Constant (.int 1) _ _) _)] _ _) _, .If (.BoolOp .And [(.Call (.Name x21 _) [(.Name x22 _), (.Name x23 _)] [] _), (.Compare (.Call (.Attribute (.Name x24 _) x25 p33) [(.Constant (.bool true) _ _)] [] p35) [.Eq] [(.Constant (.int 1) _ _)] _)] _) [.Assign [(.Name x26 _)] (.Tuple [(.Constant (.str x27) _ _), (.Call (.Attribute (.Name x28 _) x29 p44) [(.Constant (.bool true) _ _)] [] p46)] _ _) _] [] _] _] [] [] _, .Return (some (.Name x30 _)) _] => decide (x1 = ("_law_found" : Str)) && decide (x2 = ("told" : Str)) && decide (x3 = ("_law_deed" : Str)) && decide (x4 = ("DoorError" : Str)) && decide (x5 = ("e" : Str)) && decide (x6 = ("_law_kinds" : Str)) && decide (x7 = ("isinstance" : Str)) && decide (x8 = ("e" : Str)) && decide (x9 = ("NoZone" : Str)) && decide (x10 = ("isinstance" : Str)) && decide (x11 = ("e" : Str)) && decide (x12 = ("NoWay" : Str)) && decide (x13 = ("isinstance" : Str)) && decide (x14 = ("e" : Str)) && decide (x15 = ("NoDeed" : Str)) && decide (x16 = ("isinstance" : Str)) && decide (x17 = ("e" : Str)) && decide (x18 = ("NoText" : Str)) && decide (x19 = ("_law_found" : Str)) && decide (x20 = ("refused" : Str)) && decide (x21 = ("isinstance" : Str)) && decide (x22 = ("e" : Str)) && decide (x23 = ("ValueError" : Str)) && decide (x24 = ("_law_kinds" : Str)) && decide (x25 = ("count" : Str)) && decide (x26 = ("_law_found" : Str)) && decide (x27 = ("refused" : Str)) && decide (x28 = ("_law_kinds" : Str)) && decide (x29 = ("index" : Str)) && decide (x30 = ("_law_found" : Str)) && (p33.endLine == p35.line) && (p44.endLine == p46.line)
  | _ => false
def exCB (K : PySem.W.Frag) (D : Addr) : Bool := decide (PySem.W.findIn K (.ref D) "__getattribute__" = some (some (.builtin "BaseException.__getattribute__"))) && decide (PySem.W.findIn K (.ref D) "__getattr__" = some none) && decide (PySem.W.subIn K (.ref D) (.type "BaseException") = some true) &&
  PySem.W.hasDictIn K D && decide (PySem.W.findIn K (.ref D) "__class__" = some (some (.builtin "object.__class__"))) && decide (PySem.W.specialIn K (.builtin "object.__class__") "__get__" = some (some (.builtin "getset_descriptor.__get__"))) &&
  decide (PySem.W.takesIn K (.builtin "object.__class__") = some true) && decide (PySem.W.mroIn K D (.type "object") = some true)
def toldKB (K : PySem.W.Frag) (xc : Nat → Addr) : Bool := [2, 3, 4, 5].all fun c => exCB K (xc c) && decide (PySem.W.kitOne K (.ref (xc c)) (.type "ValueError") = some true) && decide (PySem.W.exmOne K (.ref (xc c)) (.ref (xc 1)) = some true) &&
  [2, 3, 4, 5].all fun d => decide (PySem.W.kitOne K (.ref (xc c)) (.ref (xc d)) = some (decide (c = d)))
theorem four_mem {c : Nat} (h1 : 2 ≤ c) (h2 : c ≤ 5) : c ∈ [2, 3, 4, 5] := by
  have : c = 2 ∨ c = 3 ∨ c = 4 ∨ c = 5 := by omega
  simpa using this
theorem toldK_of {K : PySem.W.Frag} {xc : Nat → Addr} (h : toldKB K xc = true) : ToldK K xc := by
  unfold toldKB at h
  rw [List.all_eq_true] at h
  have key := fun c h1 h2 => h c (four_mem h1 h2)
  simp only [Bool.and_eq_true, decide_eq_true_eq, List.all_eq_true] at key
  refine ⟨fun c h1 h2 => ?_, fun c d h1 h2 h3 h4 => (key c h1 h2).2 d (four_mem h3 h4), fun c h1 h2 => (key c h1 h2).1.1.2, fun c h1 h2 => (key c h1 h2).1.2⟩
  have k := (key c h1 h2).1.1.1
  unfold exCB at k
  simp only [Bool.and_eq_true, decide_eq_true_eq] at k
  obtain ⟨⟨⟨⟨⟨⟨⟨k1, k2⟩, k3⟩, k4⟩, k5⟩, k6⟩, k7⟩, k8⟩ := k
  exact ⟨k1, k2, k3, k4, k5, k6, k7, k8⟩
def locL (sc : Scope) (x : Str) : Bool := match sc.names.lookup x with | some .local => true | _ => false
def gloL (sc : Scope) (x : Str) : Bool := match sc.names.lookup x with | some .globalImplicit => true | _ => false
theorem locL_ok {sc : Scope} {x : Str} (h : locL sc x = true) : sc.names.lookup x = some .local := by
  unfold locL at h
  split at h
  · assumption
  · cases h
theorem gloL_ok {sc : Scope} {x : Str} (h : gloL sc x = true) : sc.names.lookup x = some .globalImplicit := by
  unfold gloL at h
  split at h
  · assumption
  · cases h
def lcs0 : List Str := ["_law_deed", "_law_found", "e", "_law_kinds"]
def gls0 : List Str := ["DoorError", "NoZone", "NoWay", "NoDeed", "NoText", "isinstance", "ValueError"]
def tol0B (d : DefS) : Bool := decide (d.c = none) && decide (d.N = Ng0) && decide (d.ps = [("_law_deed" : Str)]) && scB d.N d.ps (defScope d.st) && told0B (defBody d.st) && (lcs0.all (locL (defScope d.st))) && (gls0.all (gloL (defScope d.st)))
def excs0 : List (Nat × Str) := [(1, "DoorError"), (2, "NoZone"), (3, "NoWay"), (4, "NoDeed"), (5, "NoText")]
theorem told0_of [Tb] {K : PySem.W.Frag} {mg : Str → Option Value} {xc : Nat → Addr} {d : DefS} {a : Addr} {fd : FuncData} (F : FunD K d.nm d.nm (defArgs d.st) (defBody d.st) (defScope d.st) [] [] a fd) (b : BndS d) (h : tol0B d = true) (hm : mg d.nm = some (.ref a)) (hk : PySem.W.keepIn K (.ref a) = true) (TK : ToldK K xc)
    (hx : ∀ p ∈ excs0, mg p.2 = some (.ref (xc p.1))) (mi : mg ("isinstance" : Str) = none) (mv : mg ("ValueError" : Str) = none) : ToldF K mg xc d.nm 0 := by
  unfold tol0B at h
  simp only [Bool.and_eq_true, decide_eq_true_eq, List.all_eq_true] at h
  obtain ⟨⟨⟨⟨⟨⟨h1, h2⟩, h3⟩, h4⟩, h5⟩, h6⟩, h7⟩ := h
  obtain ⟨oc, od, dV, kV, doc, pm, an, cdv, ct, osl, rfl, lk, hcd, _, _⟩ := F.ex
  have S := scB_ok h4
  have hb := F.bindsN (b d.nm)
  rw [h3] at S hb
  rw [h2] at S
  have lc := fun x hx => locL_ok (h6 x hx)
  have gl := fun x hx => gloL_ok (h7 x hx)
  refine ⟨a, defArgs d.st, defBody d.st, defScope d.st, dV, kV, doc, pm, cdv, ct, oc, an, od, osl, Ng0, hm, hk, lk, hcd, hb, S, rfl, .inl (lc "_law_deed" (by simp [lcs0])), fun X q hK hM => ?_⟩
  subst hK hM
  have mm := fun n x (h : (n, x) ∈ excs0) => hx (n, x) h
  generalize defBody d.st = bg at h5 ⊢
  unfold told0B at h5
  split at h5
  · simp only [Bool.and_eq_true, decide_eq_true_eq] at h5
    obtain ⟨⟨h5, e1⟩, e2⟩ := h5
    obtain ⟨⟨⟨⟨⟨⟨⟨⟨⟨⟨⟨⟨⟨⟨⟨⟨⟨⟨⟨⟨⟨⟨⟨⟨⟨⟨⟨⟨⟨r1, r2⟩, r3⟩, r4⟩, r5⟩, r6⟩, r7⟩, r8⟩, r9⟩, r10⟩, r11⟩, r12⟩, r13⟩, r14⟩, r15⟩, r16⟩, r17⟩, r18⟩, r19⟩, r20⟩, r21⟩, r22⟩, r23⟩, r24⟩, r25⟩, r26⟩, r27⟩, r28⟩, r29⟩, r30⟩ := h5
    subst r1 r2 r3 r4 r5 r6 r7 r8 r9 r10 r11 r12 r13 r14 r15 r16 r17 r18 r19 r20 r21 r22 r23 r24 r25 r26 r27 r28 r29 r30
    exact told0_gives TK S.nd (lc "_law_deed" (by simp [lcs0])) (lc "_law_found" (by simp [lcs0])) (lc "e" (by simp [lcs0])) (lc "_law_kinds" (by simp [lcs0])) (gl "DoorError" (by simp [gls0])) (gl "NoZone" (by simp [gls0])) (gl "NoWay" (by simp [gls0])) (gl "NoDeed" (by simp [gls0])) (gl "NoText" (by simp [gls0])) (gl "isinstance" (by simp [gls0])) (gl "ValueError" (by simp [gls0]))
      (mm 1 "DoorError" (by simp [excs0])) (mm 2 "NoZone" (by simp [excs0])) (mm 3 "NoWay" (by simp [excs0])) (mm 4 "NoDeed" (by simp [excs0])) (mm 5 "NoText" (by simp [excs0])) mi mv e1 e2
  · cases h5
/-! ### the facts of a text -/
def clOf (T : Tx) (K : PySem.W.Frag) (c : Nat) : Addr := match T.cls.find? (fun J => J.c == c) with
  | some J => He.ga K J.nm
  | none => 0
def xcOf (T : Tx) (K : PySem.W.Frag) (c : Nat) : Addr := match T.exc.find? (fun J => J.1 == c) with
  | some J => He.ga K J.2
  | none => 0
def clNm (T : Tx) (c : Nat) : Option Str := (T.cls.find? (fun J => J.c == c)).map (·.nm)
def factsOf (T : Tx) : List He.Fa :=
  (T.inf.map fun I => match I.c with
    | none => He.Fa.glo I.nm
    | some c => He.Fa.meth ((clNm T c).getD Str.empty) I.nm) ++
  (T.cls.flatMap fun J => [He.Fa.glo J.nm, .cls J.nm, .mkr J.nm] ++ J.flds.map fun f => .noat J.nm f) ++
  (T.tol.map fun p => He.Fa.glo p.1) ++ (T.blt.map He.Fa.free) ++ (T.exc.flatMap fun p => [He.Fa.glo p.2, .exc p.2]) ++ [He.Fa.glo T.lw]
def wellT (T : Tx) (defs : List DefS) : Bool :=
  (T.inf.all fun I => defs.any fun d => !rpN d.N && d.f == I.f && d.ps == I.ps && (d.nm == I.nm || (I.c == none && T.ali.contains (I.nm, d.nm))) && (match I.c with
    | none => d.c == none
    | some c => d.c == clNm T c && (clNm T c).isSome)) &&
  (T.cls.all fun J => (clNm T J.c == some J.nm) && defs.any fun d => d.f == J.ini && d.nm == ("__init__" : Str) && d.c == some J.nm && !rpN d.N) &&
  (T.exc.all fun p => (T.exc.find? (fun J => J.1 == p.1)).map (·.2) == some p.2)
/-! the defs' tables -/
def tfs (defs : List DefS) : List He.Defn := defs.map fun d => d.dd.at_
def qls (q : Str) : Str := q ++ ".<locals>." ++ "<lambda>"
abbrev tbOf (K : PySem.W.Frag) (defs : List DefS) : Tb := ⟨defs.map fun d => ((He.cT K d.dd.at_).2, qls d.dd.qual), defs.map fun d => He.cT K d.dd.at_⟩
def nodB : List Addr → Bool
  | [] => true
  | a :: r => !r.contains a && nodB r
def excB (T : Tx) (defs : List DefS) (K : PySem.W.Frag) : Bool := T.con.all (conOk K) && nodB (defs.map fun d => (He.cT K d.dd.at_).2) && (T.tol.isEmpty || toldKB K (xcOf T K)) && (T.ali.all fun p => decide (He.ga K p.1 = He.fAd K (p.2, none)))
def wellTol (T : Tx) (tds : List DefS) : Bool := decide (T.tol = tds.map fun d => (d.nm, 0)) && tds.all tol0B && (tds.isEmpty || (excs0.all (fun p => T.exc.contains p) && T.blt.contains ("isinstance" : Str) && T.blt.contains ("ValueError" : Str)))
theorem nodB_inj {α : Type} {f : α → Addr} : ∀ {l : List α}, nodB (l.map f) = true → ∀ x ∈ l, ∀ y ∈ l, f x = f y → x = y
  | [], _, x, hx, _, _, _ => by cases hx
  | a :: l, h, x, hx, y, hy, e => by
    rw [List.map_cons] at h
    unfold nodB at h
    rw [Bool.and_eq_true, Bool.not_eq_true'] at h
    have hn : ∀ z ∈ l, f z ≠ f a := fun z hz q => by
      have : (l.map f).contains (f a) = true := by
        rw [List.contains_iff_mem]
        exact q ▸ List.mem_map.mpr ⟨z, hz, rfl⟩
      rw [h.1] at this
      cases this
    rcases List.mem_cons.mp hx with hx | hx <;> rcases List.mem_cons.mp hy with hy | hy
    · rw [hx, hy]
    · rw [hx] at e; exact absurd e.symm (hn y hy)
    · rw [hy] at e; exact absurd e (hn x hx)
    · exact nodB_inj h.2 x hx y hy e
theorem clOf_nm {T : Tx} {K : PySem.W.Frag} {c : Nat} {x : Str} (h : clNm T c = some x) : clOf T K c = He.ga K x := by
  unfold clNm at h
  unfold clOf
  cases e : T.cls.find? (fun J => J.c == c) with
  | none => rw [e] at h; cases h
  | some J => rw [e] at h; cases h; rfl
theorem txt_of {T : Tx} {defs tds : List DefS} {K : PySem.W.Frag} {h : Heap} {mg : Str → Option Value} (X : K.In h) (G : h.Ns mainGlobals mg) (c : He.SaysD (factsOf T) ((defs ++ tds).map DefS.dd) K) (hc : excB T defs K = true) (hw : wellT T defs = true) (hwt : wellTol T tds = true)
    (hd : ∀ d ∈ defs, chkD T d = true) (hb : ∀ d ∈ defs, BndS d) (hbt : ∀ d ∈ tds, BndS d) : letI : Tb := tbOf K defs; Txt T K mg (clOf T K) (xcOf T K) ∧ ∀ D ∈ defs, D.c = none → D.nm = T.lw → ∃ fd, DefOk true T K D.f D.ps (He.fAd K (D.nm, none)) fd ∧ mg D.nm = some (.ref (He.fAd K (D.nm, none))) := by
  letI : Tb := tbOf K defs
  have fact : ∀ f ∈ factsOf T, f.ok K = true := fun f hf => c.facts hf
  unfold excB at hc
  simp only [Bool.and_eq_true] at hc
  obtain ⟨⟨⟨hc, hnd⟩, htk⟩, hal⟩ := hc
  have code : ∀ d ∈ defs, ∀ fd, FunD K d.dd.name d.dd.qual d.dd.params d.dd.body d.dd.scope (d.dd.dvs K) (d.dd.kws K) (He.fAd K d.dd.at_) fd → ∀ q, q = d.dd.qual → ∃ c P, fd.code = .ref c ∧ (c, P) ∈ Tb.cs ∧ (P, q ++ ".<locals>." ++ "<lambda>") ∈ Tb.T ∧ ∀ p ∈ Tb.T, p.1 = P → p.2 = q ++ ".<locals>." ++ "<lambda>" := fun d hm fd F q hq => by
    subst hq
    obtain ⟨oc, od, dV, kV, doc, pm, an, cdv, ct, osl, rfl, lk, hcd, _, _⟩ := F.ex
    obtain ⟨cc, rfl⟩ := He.codeIn_ref hcd
    have e : He.codeOf K d.dd.at_ = cc := He.codeOf_eq lk rfl
    have e2 : He.cT K d.dd.at_ = (cc, He.tabOf K cc) := by unfold He.cT; rw [e]
    refine ⟨cc, He.tabOf K cc, rfl, List.mem_map.mpr ⟨d, hm, e2⟩, List.mem_map.mpr ⟨d, hm, by rw [e2]; rfl⟩, fun p hp hpe => ?_⟩
    obtain ⟨d', hm', rfl⟩ := List.mem_map.mp hp
    have : d' = d := nodB_inj hnd d' hm' d hm (by rw [e2]; exact hpe)
    rw [this]
    rfl
  have dok : ∀ (lw : Bool), ∀ d ∈ defs, (lw = false → rpN d.N = false) → ∃ fd, DefOk lw T K d.f d.ps (He.fAd K d.dd.at_) fd ∧ PySem.W.keepIn K (.ref (He.fAd K d.dd.at_)) = true := fun lw d hm hnr => by
    obtain ⟨fd, F⟩ := c.defs (d := d.dd) (List.mem_map.mpr ⟨d, List.mem_append_left _ hm, rfl⟩)
    have hcd := code d hm fd F
    refine ⟨fd, ?_, F.kp⟩
    unfold DefS.dd at F ⊢
    cases hcc : d.c with
    | none => rw [hcc] at F; exact defOk F (hd d hm) (hb d hm) hnr (hcd _ (by unfold DefS.dd; rw [hcc]))
    | some C => rw [hcc] at F; exact defOk F (hd d hm) (hb d hm) hnr (hcd _ (by unfold DefS.dd; rw [hcc]))
  have exf : ∀ p ∈ T.exc, (T.exc.find? (fun J => J.1 == p.1)).map (·.2) = some p.2 → mg p.2 = some (.ref (xcOf T K p.1)) := fun p hp q => by
    have ex : xcOf T K p.1 = He.ga K p.2 := by
      unfold xcOf
      cases e : T.exc.find? (fun J => J.1 == p.1) with
      | none => rw [e] at q; cases q
      | some J =>
        rw [e] at q
        have : J.2 = p.2 := by simpa using q
        dsimp only
        rw [this]
    rw [ex]
    refine He.glo_ok X G (fact (.glo p.2) ?_)
    unfold factsOf
    simp only [List.mem_append, List.mem_flatMap]
    exact .inl (.inr ⟨p, hp, by simp⟩)
  have bltf : ∀ x ∈ T.blt, mg x = none := fun x hx => by
    refine He.free_ok X G (fact _ ?_)
    unfold factsOf
    simp only [List.mem_append, List.mem_map]
    exact .inl (.inl (.inr ⟨x, hx, rfl⟩))
  unfold wellT at hw
  simp only [Bool.and_eq_true, List.all_eq_true] at hw
  obtain ⟨⟨hw1, hw2⟩, hw3⟩ := hw
  refine ⟨⟨fun I hI => ?_, fun J hJ => ?_, fun p hp => ?_, bltf, fun p hp => ?_, fun p hp => ?_⟩, fun D hm hcn hlw => ?_⟩
  rotate_right
  · obtain ⟨fd, k1, k2⟩ := dok true D hm (by simp)
    have hf : He.Fa.glo D.nm ∈ factsOf T := by
      unfold factsOf
      rw [hlw]
      simp
    have g := He.glo_ok X G (fact _ hf)
    unfold DefS.dd at k1
    rw [hcn] at k1
    exact ⟨fd, k1, g⟩
  · have q := hw1 I hI
    rw [List.any_eq_true] at q
    obtain ⟨d, hm, q⟩ := q
    simp only [Bool.and_eq_true, beq_iff_eq, Bool.not_eq_true'] at q
    obtain ⟨⟨⟨⟨q0, q1⟩, q2⟩, q3⟩, q4⟩ := q
    obtain ⟨fd, k1, k2⟩ := dok false d hm (fun _ => q0)
    rw [q1, q2] at k1
    refine ⟨_, fd, k1, ?_⟩
    have hf : (match I.c with
      | none => He.Fa.glo I.nm
      | some c => He.Fa.meth ((clNm T c).getD Str.empty) I.nm) ∈ factsOf T := by
      unfold factsOf
      simp only [List.mem_append, List.mem_map]
      exact .inl (.inl (.inl (.inl (.inl ⟨I, hI, rfl⟩))))
    have hf := fact _ hf
    unfold DefS.dd at k2 ⊢
    cases hcc : I.c with
    | none =>
      rw [hcc] at q4 hf
      have q4 : d.c = none := by simpa using q4
      rw [q4] at k2 ⊢
      dsimp only at hf k2 ⊢
      have g := He.glo_ok X G hf
      rw [Bool.or_eq_true] at q3
      rcases q3 with q3 | q3
      · have q3 := eq_of_beq q3
        rw [← q3] at g ⊢
        exact ⟨g, k2⟩
      · rw [Bool.and_eq_true] at q3
        have e := of_decide_eq_true (List.all_eq_true.mp hal _ (by simpa using q3.2))
        dsimp only at e
        rw [e] at g
        exact ⟨g, k2⟩
    | some cc =>
      rw [hcc] at q4 hf
      dsimp only at q4 hf ⊢
      simp only [Bool.and_eq_true, beq_iff_eq] at q4
      obtain ⟨q5, q6⟩ := q4
      cases hn : clNm T cc with
      | none => rw [hn] at q6; cases q6
      | some C =>
        rw [hn] at q5 hf
        have q3 : d.nm = I.nm := by
          rw [hcc] at q3
          simpa using q3
        rw [q5] at k2 ⊢
        rw [clOf_nm hn, ← q3]
        rw [← q3] at hf
        exact He.meth_ok hf
  · have q := hw2 J hJ
    simp only [Bool.and_eq_true, beq_iff_eq, List.any_eq_true, Bool.not_eq_true'] at q
    obtain ⟨q1, d, hm, ⟨⟨q2, q3⟩, q4⟩, q5⟩ := q
    obtain ⟨fd, k1, k2⟩ := dok false d hm (fun _ => q5)
    have inF : ∀ f ∈ [He.Fa.glo J.nm, .cls J.nm, .mkr J.nm] ++ J.flds.map fun f => He.Fa.noat J.nm f, f.ok K = true := fun f hf => by
      refine fact f ?_
      unfold factsOf
      simp only [List.mem_append, List.mem_flatMap]
      exact .inl (.inl (.inl (.inl (.inr ⟨J, hJ, List.mem_append.mp hf⟩))))
    rw [clOf_nm q1]
    refine ⟨He.cls_ok (inF (.cls J.nm) (by simp)), He.glo_ok X G (inF (.glo J.nm) (by simp)), fun f hf => He.noat_ok (inF _ (List.mem_append_right _ (List.mem_map.mpr ⟨f, hf, rfl⟩))), _, fd, d.ps, He.mkr_ok (inF (.mkr J.nm) (by simp)), ?_⟩
    rw [q2] at k1
    unfold DefS.dd at k1
    rw [q4, q3] at k1
    exact k1
  · have q := List.all_eq_true.mp hc p hp
    unfold conOk at q
    split at q
    · rename_i u e
      obtain ⟨v, r, kk⟩ := relD_ok p.2 u q
      exact ⟨v, u, PySem.W.mg_of X G e, r, kk⟩
    · cases q
  · unfold wellTol at hwt
    simp only [Bool.and_eq_true, decide_eq_true_eq, List.all_eq_true] at hwt
    obtain ⟨⟨w1, w2⟩, w3⟩ := hwt
    have hp0 := hp
    rw [w1] at hp
    obtain ⟨d, hm, rfl⟩ := List.mem_map.mp hp
    obtain ⟨fd, F⟩ := c.defs (d := d.dd) (List.mem_map.mpr ⟨d, List.mem_append_right _ hm, rfl⟩)
    have ht := w2 d hm
    have hcn : d.c = none := by
      unfold tol0B at ht
      simp only [Bool.and_eq_true, decide_eq_true_eq] at ht
      exact ht.1.1.1.1.1.1
    have ne : tds.isEmpty = false := by
      cases tds with
      | nil => cases hm
      | cons _ _ => rfl
    have ne2 : T.tol.isEmpty = false := by
      rw [w1]
      cases tds with
      | nil => cases hm
      | cons _ _ => rfl
    rw [ne, Bool.false_or] at w3
    rw [ne2, Bool.false_or] at htk
    simp only [Bool.and_eq_true, List.all_eq_true] at w3
    have kp := F.kp
    have hg : mg d.nm = some (.ref (He.fAd K d.dd.at_)) := by
      have hf : He.Fa.glo d.nm ∈ factsOf T := by
        unfold factsOf
        simp only [List.mem_append, List.mem_map]
        exact .inl (.inl (.inl (.inr ⟨_, hp0, rfl⟩)))
      have g := He.glo_ok X G (fact _ hf)
      unfold DefS.dd
      rw [hcn]
      exact g
    have hx : ∀ p ∈ excs0, mg p.2 = some (.ref (xcOf T K p.1)) := fun p hp => by
      have hp2 : p ∈ T.exc := by simpa using w3.1.1 p hp
      exact exf p hp2 (by simpa using hw3 p hp2)
    have F' : FunD K d.nm d.nm (defArgs d.st) (defBody d.st) (defScope d.st) [] [] (He.fAd K d.dd.at_) fd := by
      unfold DefS.dd at F ⊢
      rw [hcn] at F ⊢
      exact F
    exact told0_of F' (hbt d hm) ht hg kp (toldK_of htk) hx (bltf _ (by simpa using w3.1.2)) (bltf _ (by simpa using w3.2))
  · have q := hw3 p hp
    simp only [beq_iff_eq] at q
    have inF : ∀ f ∈ [He.Fa.glo p.2, He.Fa.exc p.2], f.ok K = true := fun f hf => by
      refine fact f ?_
      unfold factsOf
      simp only [List.mem_append, List.mem_flatMap]
      exact .inl (.inr ⟨p, hp, hf⟩)
    have ex : xcOf T K p.1 = He.ga K p.2 := by
      unfold xcOf
      cases e : T.exc.find? (fun J => J.1 == p.1) with
      | none => rw [e] at q; cases q
      | some J =>
        rw [e] at q
        have : J.2 = p.2 := by simpa using q
        dsimp only
        rw [this]
    rw [ex]
    obtain ⟨e1, e2, e3, e4⟩ := He.exc_ok (inF (.exc p.2) (by simp))
    exact ⟨He.glo_ok X G (inF (.glo p.2) (by simp)), e2, e1, e3, e4⟩
/-! ### a law's end -/
/-- the law's promise at the script -/
theorem law_sp [Tb] {K : PySem.W.Frag} {cl xc : Nat → Addr} {φ : List Vl → M Vl} {H : Hp} {a : Addr} {ns : List Int} (hT : LamX.Tabs Tb.T H) (hS : SqL K H a (ns.map V.int)) (h : ∀ o : Ob, o = .scr (ns.map .int) ∨ o = .lst (ns.map .int) → ∃ st, φ [.o 0] [o] = .ok (blV true) st) :
    spF K cl xc 1 φ [.ref a] H (fun v _ => v = .bl true) fun _ _ _ => False := by
  have core : ∀ o : Ob, (∃ st, φ [.o 0] [o] = .ok (blV true) st) → ObR K cl ⟨H, fun _ => False, [a], [o]⟩ a o → spF K cl xc 1 φ [.ref a] H (fun v _ => v = .bl true) fun _ _ _ => False := fun o ⟨st, h⟩ ho => by
    refine ⟨[.o 0], ⟨H, fun _ => False, [a], [o]⟩, rfl, .cons ⟨a, rfl, rfl⟩ .nil, rfl, ⟨rfl, fun i j b o u h1 h2 h3 h4 d1 d2 => ?_, fun i b o h1 h2 d => fun z => z, fun i b o h1 h2 => ?_, fun b z => z.elim, hT⟩, ?_⟩
    · cases i with
      | zero =>
        cases j with
        | zero => rfl
        | succ j => have h2 : [a][j + 1]? = some b := h2; simp at h2
      | succ i => have h1 : [a][i + 1]? = some b := h1; simp at h1
    · cases i with
      | zero =>
        cases h1
        cases h2
        exact ho
      | succ i =>
        have h1 : [a][i + 1]? = some b := h1
        simp at h1
    · show Post K cl xc _ _ (φ [.o 0] [o]) _
      rw [h]
      intro H1 m1 ex wf v rv
      cases rv
      rfl
  rcases hS with (e | e) | e
  · exact core _ (h _ (.inr rfl)) ⟨_, e, rpa_ints ns⟩
  · exact core _ (h _ (.inl rfl)) ⟨_, .inl e, rpa_ints ns⟩
  · exact core _ (h _ (.inl rfl)) ⟨_, .inr e, rpa_ints ns⟩
theorem cx_none {P : Program} {w : World} {H : Hp} {s : Shared} {e : Value} {s' : Shared} (h : L2.CX P w [] H s (fun _ _ _ => False) e s') : False := by
  obtain ⟨_, _, _, _, _, _, _, _, _, _, _, _, z⟩ := h
  exact z
/-- the end of a law -/
theorem law_walk {l : PySem.W.OpenLaw} {T : Tx} {defs tds : List DefS} {n k : Nat} {q : Program} {loose : List Str} {XP : (Str → Option Value) → Heap → Prop} {d : DefRec} {x : Str} {D : DefS} (hn : l.most = some n) (hn2 : n ≤ sizeLine) (hdf : d.params.defaults = []) (hr : Room (4 * k) callerA)
    (hnm : d.name = D.nm) (hw : wellT T defs = true) (hwt : wellTol T tds = true) (hd : ∀ d ∈ defs, chkD T d = true) (hb : ∀ d ∈ defs, BndS d) (hbt : ∀ d ∈ tds, BndS d) (hD : D ∈ defs) (hDc : D.c = none) (hlw : D.nm = T.lw) (hps : D.ps = [x])
    (math : ∀ ns : List Int, ns.length ≤ n → ∀ o : Ob, o = .scr (ns.map .int) ∨ o = .lst (ns.map .int) → ∃ st, Phi T.fns k D.f [.o 0] [o] = .ok (blV true) st) :
    PySem.W.WalkO q loose XP (fun w h => ∃ K : PySem.W.Frag, K.In h ∧ He.SaysX (factsOf T) ((defs ++ tds).map DefS.dd) [] (tfs defs) (excB T defs) w h K) l.row.toRowW d [] (fun f vs => PySem.call f vs) := by
  refine walk_G (n := n) (x := x) (CX := fun w => L2.CX l.prog w) hn hn2 hdf (fun w mg fa h Y G hmg0 => ?_) fun w H s e s' h => cx_none h
  obtain ⟨K, KX, c⟩ := Y
  letI : Tb := tbOf K defs
  obtain ⟨t, tl⟩ := txt_of KX G c.t.d c.more hw hwt hd hb hbt
  obtain ⟨fd, dk, h1⟩ := tl D hD hDc hlw
  rw [hnm] at hmg0
  have e := hmg0.symm.trans h1
  cases e
  rw [hps] at dk
  have mem : ∀ p ∈ Tb.cs, ∃ u ∈ tfs defs, He.cT K u = p := fun p hp => by
    obtain ⟨d', hm, rfl⟩ := List.mem_map.mp hp
    exact ⟨_, List.mem_map.mpr ⟨d', hm, rfl⟩, rfl⟩
  refine ⟨K, KX, fd, Tb.cs, spF K (clOf T K) (xcOf T K) 1 (Phi T.fns k D.f), fun p hp => ?_, fun p hp => ?_, fun p hp => ?_, fun s v => dk.bt s [v] rfl, fun H a ns hl hH hS => law_sp (fun p hp => ?_) hS (math ns hl), fun base _ _ hTB => def_law hTB t dk rfl k hr⟩
  · obtain ⟨u, hu, rfl⟩ := mem p hp; exact c.empty u hu
  · obtain ⟨u, hu, rfl⟩ := mem p hp; exact c.out u hu
  · obtain ⟨u, hu, rfl⟩ := mem p hp; exact PySem.W.codeHd_of_K KX (c.hd u hu)
  · obtain ⟨d', hm, rfl⟩ := List.mem_map.mp hp
    exact LamX.TabS.nil (hH _ (List.mem_map.mpr ⟨d', hm, rfl⟩))
end Dw

namespace Dw
open PySem
abbrev wh : Nat := 100000000
def b_is_whole : Ss :=
  .cons (.ret (.andE (.cons (.isi (.var 0) "int") (.cons (.notE (.isi (.var 0) "bool")) (.cons (.chain .LtE .LtE (.var 1) (.var 0) (.var 2)) .nil))))) .nil
def f_is_whole : Fn := ⟨3, 3, b_is_whole, false⟩
def b_is_row : Ss :=
  .cons (.ret (.andE (.cons (.isi (.var 0) "tuple") (.cons (.cmp .Eq (.bi .len (.cons (.var 0) .nil)) (.var 1)) .nil)))) .nil
def f_is_row : Fn := ⟨2, 2, b_is_row, false⟩
def b_is_one_of : Ss :=
  .cons (.ret (.andE (.cons (.isi (.var 0) "str") (.cons (.cmp .In (.var 0) (.var 1)) .nil)))) .nil
def f_is_one_of : Fn := ⟨2, 2, b_is_one_of, false⟩
def b_is_name : Ss :=
  .cons (.ret (.andE (.cons (.isi (.var 0) "str") (.cons (.chain .LtE .LtE (.int 1) (.bi .len (.cons (.var 0) .nil)) (.glb "MOST_NAME" (.int 4))) (.cons (.bi .all (.cons (.comp false (.cmp .In (.var 1) (.glb "LETTERS" (.str "abcdefghijklmnopqrstuvwxyz"))) (.nm 1) (.of (.var 0)) .no [1]) .nil)) .nil))))) .nil
def f_is_name : Fn := ⟨1, 2, b_is_name, false⟩
def b_are_figures : Ss :=
  .cons (.ret (.andE (.cons (.isi (.var 0) "str") (.cons (.cmp .Eq (.bi .len (.cons (.var 0) .nil)) (.glb "CODE_SIZE" (.int 4))) (.cons (.bi .all (.cons (.comp false (.cmp .In (.var 1) (.glb "FIGURES" (.str "0123456789"))) (.nm 1) (.of (.var 0)) .no [1]) .nil)) .nil))))) .nil
def f_are_figures : Fn := ⟨1, 2, b_are_figures, false⟩
def b_rises : Ss :=
  .cons (.ret (.bi .all (.cons (.comp false (.cmp .Lt (.var 1) (.var 2)) (.tp (.cons (.nm 1) (.cons (.nm 2) .nil))) (.zip (.sl (.var 0) .no (.so (.neg (.int 1)))) (.sl (.var 0) (.so (.int 1)) .no)) .no [1, 2]) .nil))) .nil
def f_rises : Fn := ⟨1, 3, b_rises, false⟩
def b_is_zone : Ss :=
  .cons (.ret (.andE (.cons (.call true 2 (.cons (.var 0) (.cons (.int 2) .nil))) (.cons (.call true 4 (.cons (.ix (.var 0) (.int 0)) .nil)) (.cons (.call true 3 (.cons (.ix (.var 0) (.int 1)) (.cons (.glb "KINDS" (.tuple [.str "day", .str "inner", .str "once", .str "way"])) .nil))) .nil))))) .nil
def f_is_zone : Fn := ⟨1, 1, b_is_zone, false⟩
def b_is_code : Ss :=
  .cons (.ite (.orE (.cons (.notE (.call true 2 (.cons (.var 0) (.cons (.int 4) .nil)))) (.cons (.notE (.call true 5 (.cons (.ix (.var 0) (.int 0)) .nil))) (.cons (.notE (.call true 4 (.cons (.ix (.var 0) (.int 1)) .nil))) .nil)))) (.cons (.ret (.bl false)) .nil) (.nil))
  (.cons (.ite (.orE (.cons (.notE (.isi (.ix (.var 0) (.int 2)) "tuple")) (.cons (.notE (.bi .all (.cons (.comp false (.call true 3 (.cons (.var 1) (.cons (.glb "RIGHTS" (.tuple [.str "set", .str "shunt", .str "unset"])) .nil))) (.nm 1) (.of (.ix (.var 0) (.int 2))) .no [1]) .nil))) .nil))) (.cons (.ret (.bl false)) .nil) (.nil))
  (.cons (.ret (.andE (.cons (.call true 6 (.cons (.ix (.var 0) (.int 2)) .nil)) (.cons (.call true 1 (.cons (.ix (.var 0) (.int 3)) (.cons (.int 0) (.cons (.glb "MOST_USES" (.int 9)) .nil)))) .nil)))) .nil))
def f_is_code : Fn := ⟨1, 2, b_is_code, false⟩
def b_are_times : Ss :=
  .cons (.ite (.orE (.cons (.notE (.call true 2 (.cons (.var 0) (.cons (.int 3) .nil)))) (.cons (.notE (.call true 1 (.cons (.ix (.var 0) (.int 0)) (.cons (.int 0) (.cons (.glb "MOST_DELAY" (.int 60)) .nil))))) (.cons (.notE (.call true 1 (.cons (.ix (.var 0) (.int 1)) (.cons (.int 0) (.cons (.glb "MOST_DELAY" (.int 60)) .nil))))) .nil)))) (.cons (.ret (.bl false)) .nil) (.nil))
  (.cons (.ret (.call true 1 (.cons (.ix (.var 0) (.int 2)) (.cons (.int 1) (.cons (.glb "MOST_LOUD" (.int 300)) .nil))))) .nil)
def f_are_times : Fn := ⟨1, 1, b_are_times, false⟩
def b_is_plan : Ss :=
  .cons (.ite (.orE (.cons (.notE (.call true 2 (.cons (.var 0) (.cons (.int 3) .nil)))) (.cons (.notE (.isi (.ix (.var 0) (.int 0)) "tuple")) (.cons (.notE (.chain .LtE .LtE (.int 1) (.bi .len (.cons (.ix (.var 0) (.int 0)) .nil)) (.glb "MOST_ZONES" (.int 8)))) .nil)))) (.cons (.ret (.bl false)) .nil) (.nil))
  (.cons (.ite (.orE (.cons (.notE (.isi (.ix (.var 0) (.int 1)) "tuple")) (.cons (.notE (.chain .LtE .LtE (.int 1) (.bi .len (.cons (.ix (.var 0) (.int 1)) .nil)) (.glb "MOST_CODES" (.int 6)))) .nil))) (.cons (.ret (.bl false)) .nil) (.nil))
  (.cons (.ite (.orE (.cons (.notE (.bi .all (.cons (.comp false (.call true 7 (.cons (.var 1) .nil)) (.nm 1) (.of (.ix (.var 0) (.int 0))) .no [1]) .nil))) (.cons (.notE (.bi .all (.cons (.comp false (.call true 8 (.cons (.var 1) .nil)) (.nm 1) (.of (.ix (.var 0) (.int 1))) .no [1]) .nil))) .nil))) (.cons (.ret (.bl false)) .nil) (.nil))
  (.cons (.ite (.orE (.cons (.notE (.call true 6 (.cons (.comp false (.ix (.var 1) (.int 0)) (.nm 1) (.of (.ix (.var 0) (.int 0))) .no [1]) .nil))) (.cons (.notE (.call true 6 (.cons (.comp false (.ix (.var 1) (.int 0)) (.nm 1) (.of (.ix (.var 0) (.int 1))) .no [1]) .nil))) .nil))) (.cons (.ret (.bl false)) .nil) (.nil))
  (.cons (.ret (.call true 9 (.cons (.ix (.var 0) (.int 2)) .nil))) .nil))))
def f_is_plan : Fn := ⟨1, 2, b_is_plan, false⟩
def b_names_of : Ss :=
  .cons (.ret (.comp false (.ix (.var 1) (.int 0)) (.nm 1) (.of (.ix (.var 0) (.int 0))) .no [1])) .nil
def f_names_of : Fn := ⟨1, 2, b_names_of, false⟩
def b_is_event : Ss :=
  .cons (.ite (.orE (.cons (.notE (.isi (.var 1) "tuple")) (.cons (.cmp .Lt (.bi .len (.cons (.var 1) .nil)) (.int 2)) (.cons (.notE (.isi (.ix (.var 1) (.int 0)) "str")) .nil)))) (.cons (.ret (.bl false)) .nil) (.nil))
  (.cons (.ite (.cmp .Eq (.ix (.var 1) (.int 0)) (.glb "LINE" (.str "line"))) (.cons (.ret (.andE (.cons (.cmp .Eq (.bi .len (.cons (.var 1) .nil)) (.int 3)) (.cons (.call true 3 (.cons (.ix (.var 1) (.int 1)) (.cons (.call true 11 (.cons (.var 0) .nil)) .nil))) (.cons (.call true 3 (.cons (.ix (.var 1) (.int 2)) (.cons (.tup (.cons (.glb "SHUT" (.str "shut")) (.cons (.glb "OPEN" (.str "open")) (.cons (.glb "CUT" (.str "cut")) .nil)))) .nil))) .nil))))) .nil) (.nil))
  (.cons (.ite (.cmp .Eq (.ix (.var 1) (.int 0)) (.glb "TICKS" (.str "ticks"))) (.cons (.ret (.andE (.cons (.cmp .Eq (.bi .len (.cons (.var 1) .nil)) (.int 2)) (.cons (.isi (.ix (.var 1) (.int 1)) "int") (.cons (.notE (.isi (.ix (.var 1) (.int 1)) "bool")) (.cons (.cmp .Gt (.ix (.var 1) (.int 1)) (.int 0)) .nil)))))) .nil) (.nil))
  (.cons (.ite (.orE (.cons (.cmp .NotEq (.ix (.var 1) (.int 0)) (.glb "CODE" (.str "code"))) (.cons (.cmp .NotEq (.bi .len (.cons (.var 1) .nil)) (.int 4)) (.cons (.notE (.call true 5 (.cons (.ix (.var 1) (.int 1)) .nil))) (.cons (.notE (.isi (.ix (.var 1) (.int 2)) "str")) .nil))))) (.cons (.ret (.bl false)) .nil) (.nil))
  (.cons (.ite (.cmp .In (.ix (.var 1) (.int 2)) (.tup (.cons (.glb "SET" (.str "set")) (.cons (.glb "UNSET" (.str "unset")) .nil)))) (.cons (.ret (.cmp .Is (.ix (.var 1) (.int 3)) (.non))) .nil) (.nil))
  (.cons (.ret (.andE (.cons (.cmp .In (.ix (.var 1) (.int 2)) (.tup (.cons (.glb "SHUNT" (.str "shunt")) (.cons (.glb "FREE" (.str "free")) .nil)))) (.cons (.call true 3 (.cons (.ix (.var 1) (.int 3)) (.cons (.call true 11 (.cons (.var 0) .nil)) .nil))) .nil)))) .nil)))))
def f_is_event : Fn := ⟨2, 2, b_is_event, false⟩
def b_law_cell_at : Ss :=
  .cons (.ite (.cmp .Lt (.var 1) (.bi .len (.cons (.var 0) .nil))) (.cons (.ret (.ix (.var 0) (.var 1))) .nil) (.nil))
  (.cons (.ret (.int 0)) .nil)
def f_law_cell_at : Fn := ⟨2, 2, b_law_cell_at, true⟩
def b_law_mixed : Ss :=
  .cons (.set 2 (.bin .Mod (.bin .Mult (.bin .Add (.bin .Add (.call false 13 (.cons (.var 0) (.cons (.var 1) .nil))) (.bin .Mult (.int 7919) (.var 1))) (.int 1)) (.int 48271)) (.int 2147483647)))
  (.cons (.ret (.bin .Mod (.bin .Add (.bin .Add (.bin .Mult (.var 2) (.var 2)) (.bin .Mult (.int 7) (.var 2))) (.var 1)) (.int 2147483629))) .nil)
def f_law_mixed : Fn := ⟨2, 3, b_law_mixed, true⟩
def b_is_opening : Ss :=
  .cons (.ite (.orE (.cons (.notE (.call true 2 (.cons (.var 0) (.cons (.int 3) .nil)))) (.cons (.notE (.call true 1 (.cons (.ix (.var 0) (.int 0)) (.cons (.glb "OUTSIDE" (.int 0)) (.cons (.var 1) .nil))))) (.cons (.notE (.call true 1 (.cons (.ix (.var 0) (.int 1)) (.cons (.glb "OUTSIDE" (.int 0)) (.cons (.var 1) .nil))))) .nil)))) (.cons (.ret (.bl false)) .nil) (.nil))
  (.cons (.ret (.andE (.cons (.cmp .Lt (.ix (.var 0) (.int 0)) (.ix (.var 0) (.int 1))) (.cons (.orE (.cons (.cmp .Is (.ix (.var 0) (.int 2)) (.non)) (.cons (.call true 4 (.cons (.ix (.var 0) (.int 2)) .nil)) .nil))) .nil)))) .nil)
def f_is_opening : Fn := ⟨2, 2, b_is_opening, false⟩
def b_is_house : Ss :=
  .cons (.ite (.orE (.cons (.notE (.call true 2 (.cons (.var 0) (.cons (.int 2) .nil)))) (.cons (.notE (.call true 1 (.cons (.ix (.var 0) (.int 0)) (.cons (.int 1) (.cons (.glb "MOST_ROOMS" (.int 7)) .nil))))) (.cons (.notE (.isi (.ix (.var 0) (.int 1)) "tuple")) .nil)))) (.cons (.ret (.bl false)) .nil) (.nil))
  (.cons (.ret (.andE (.cons (.cmp .LtE (.bi .len (.cons (.ix (.var 0) (.int 1)) .nil)) (.glb "MOST_OPENINGS" (.int 10))) (.cons (.bi .all (.cons (.comp false (.call true 33 (.cons (.var 1) (.cons (.ix (.var 0) (.int 0)) .nil))) (.nm 1) (.of (.ix (.var 0) (.int 1))) .no [1]) .nil)) .nil)))) .nil)
def f_is_house : Fn := ⟨1, 2, b_is_house, false⟩
def b_law_drawn_v2 : Ss :=
  .cons (.set 2 (.bin .Mod (.bin .Mult (.bin .Add (.bin .Add (.var 0) (.bin .Mult (.int 104729) (.var 1))) (.int 17)) (.int 69621)) (.int 2147483647)))
  (.cons (.ret (.bin .Mod (.bin .Add (.bin .Add (.bin .Mult (.var 2) (.var 2)) (.bin .Mult (.int 3) (.var 2))) (.var 1)) (.int 2147483629))) .nil)
def f_law_drawn_v2 : Fn := ⟨2, 3, b_law_drawn_v2, false⟩
def l1_law_plan_v2 : Ss :=
  .cons (.set 4 (.bin .FloorDiv (.call true 51 (.cons (.var 0) (.cons (.bin .Add (.int 10) (.var 2)) .nil))) (.int 4)))
  (.cons (.ite (.orE (.cons (.cmp .Gt (.bin .Mod (.var 4) (.int 3)) (.int 0)) (.cons (.cmp .Eq (.var 2) (.int 1)) .nil))) (.cons (.set 7 (.bi .tuple (.cons (.comp false (.ix (.tup (.cons (.str "set") (.cons (.str "shunt") (.cons (.str "unset") .nil)))) (.var 10)) (.nm 10) (.range (.cons (.int 3) .nil)) (.so (.cmp .Gt (.bin .Mod (.bin .FloorDiv (.var 4) (.ix (.tup (.cons (.int 4) (.cons (.int 16) (.cons (.int 64) .nil)))) (.var 10))) (.int 4)) (.int 0))) [10]) .nil)))
  (.cons (.set 8 (.ix (.tup (.cons (.str "ann") (.cons (.str "bo") (.cons (.str "cy") .nil)))) (.bin .Mod (.bin .FloorDiv (.var 4) (.int 256)) (.int 3))))
  (.cons (.set 5 (.bin .Add (.var 5) (.tup (.cons (.tup (.cons (.var 6) (.cons (.var 8) (.cons (.var 7) (.cons (.ix (.tup (.cons (.int 0) (.cons (.int 0) (.cons (.int 1) (.cons (.int 2) (.cons (.int 9) .nil)))))) (.bin .Mod (.bin .FloorDiv (.var 4) (.int 1024)) (.int 5))) .nil))))) .nil)))) .nil))) (.nil)) .nil)
def l2_law_plan_v2 : Ss :=
  .cons (.set 4 (.bin .FloorDiv (.call true 51 (.cons (.var 0) (.cons (.var 2) .nil))) (.int 4)))
  (.cons (.ite (.orE (.cons (.cmp .Lt (.bin .Mod (.var 4) (.int 8)) (.bin .Add (.int 3) (.bin .Mod (.var 0) (.int 5)))) (.cons (.cmp .Eq (.var 2) (.bin .Mod (.bin .FloorDiv (.var 0) (.int 8)) (.int 8))) .nil))) (.cons (.set 1 (.bin .Add (.var 1) (.tup (.cons (.tup (.cons (.var 3) (.cons (.ix (.tup (.cons (.str "day") (.cons (.str "inner") (.cons (.str "once") (.cons (.str "way") (.cons (.str "way") .nil)))))) (.bin .Mod (.bin .FloorDiv (.var 4) (.int 8)) (.int 5))) .nil))) .nil)))) .nil) (.nil)) .nil)
def b_law_plan_v2 : Ss :=
  .cons (.set 1 (.tup (.nil)))
  (.cons (.forS (.tp (.cons (.nm 2) (.cons (.nm 3) .nil))) (.enum (.tup (.cons (.str "a") (.cons (.str "b") (.cons (.str "back") (.cons (.str "d") (.cons (.str "hall") (.cons (.str "r") (.cons (.str "win") (.cons (.str "z") .nil)))))))))) l2_law_plan_v2)
  (.cons (.set 5 (.tup (.nil)))
  (.cons (.forS (.tp (.cons (.nm 2) (.cons (.nm 6) .nil))) (.enum (.tup (.cons (.str "0000") (.cons (.str "1234") (.cons (.str "4321") (.cons (.str "7777") (.cons (.str "9990") (.cons (.str "9999") .nil)))))))) l1_law_plan_v2)
  (.cons (.set 4 (.bin .FloorDiv (.call true 51 (.cons (.var 0) (.cons (.int 20) .nil))) (.int 4)))
  (.cons (.set 9 (.tup (.cons (.ix (.tup (.cons (.int 0) (.cons (.int 5) (.cons (.int 30) (.cons (.int 60) .nil))))) (.bin .Mod (.var 4) (.int 4))) (.cons (.ix (.tup (.cons (.int 0) (.cons (.int 4) (.cons (.int 20) (.cons (.int 60) .nil))))) (.bin .Mod (.bin .FloorDiv (.var 4) (.int 4)) (.int 4))) (.cons (.ix (.tup (.cons (.int 1) (.cons (.int 9) (.cons (.int 120) (.cons (.int 300) .nil))))) (.bin .Mod (.bin .FloorDiv (.var 4) (.int 16)) (.int 4))) .nil)))))
  (.cons (.ret (.tup (.cons (.var 1) (.cons (.var 5) (.cons (.var 9) .nil))))) .nil))))))
def f_law_plan_v2 : Fn := ⟨1, 11, b_law_plan_v2, false⟩
def b_law_event_v2 : Ss :=
  .cons (.set 2 (.ix (.ix (.ix (.var 0) (.int 0)) (.bin .Mod (.bin .FloorDiv (.var 1) (.int 8)) (.bi .len (.cons (.ix (.var 0) (.int 0)) .nil)))) (.int 0)))
  (.cons (.set 3 (.bin .Mod (.var 1) (.int 10)))
  (.cons (.ite (.cmp .Lt (.var 3) (.int 5)) (.cons (.ret (.tup (.cons (.str "line") (.cons (.var 2) (.cons (.ix (.tup (.cons (.str "shut") (.cons (.str "open") (.cons (.str "open") (.cons (.str "cut") .nil))))) (.bin .Mod (.bin .FloorDiv (.var 1) (.int 512)) (.int 4))) .nil))))) .nil) (.nil))
  (.cons (.ite (.cmp .Lt (.var 3) (.int 7)) (.cons (.ret (.tup (.cons (.str "ticks") (.cons (.bin .Add (.int 1) (.bin .Mod (.bin .FloorDiv (.var 1) (.int 64)) (.ix (.tup (.cons (.int 3) (.cons (.int 40) (.cons (.int 200) .nil)))) (.bin .Mod (.bin .FloorDiv (.var 1) (.int 4096)) (.int 3))))) .nil)))) .nil) (.nil))
  (.cons (.set 4 (.ix (.ix (.ix (.var 0) (.int 1)) (.bin .Mod (.bin .FloorDiv (.var 1) (.int 64)) (.bi .len (.cons (.ix (.var 0) (.int 1)) .nil)))) (.int 0)))
  (.cons (.ite (.cmp .Eq (.bin .Mod (.bin .FloorDiv (.var 1) (.int 65536)) (.int 4)) (.int 0)) (.cons (.set 4 (.ix (.tup (.cons (.str "0001") (.cons (.str "1111") (.cons (.str "9999") (.cons (.str "0000") .nil))))) (.bin .Mod (.bin .FloorDiv (.var 1) (.int 512)) (.int 4)))) .nil) (.nil))
  (.cons (.set 5 (.ix (.tup (.cons (.str "set") (.cons (.str "set") (.cons (.str "unset") (.cons (.str "shunt") (.cons (.str "free") (.cons (.str "shunt") .nil))))))) (.bin .Mod (.bin .FloorDiv (.var 1) (.int 4096)) (.int 6))))
  (.cons (.ite (.cmp .In (.var 5) (.tup (.cons (.str "set") (.cons (.str "unset") .nil)))) (.cons (.ret (.tup (.cons (.str "code") (.cons (.var 4) (.cons (.var 5) (.cons (.non) .nil)))))) .nil) (.nil))
  (.cons (.ret (.tup (.cons (.str "code") (.cons (.var 4) (.cons (.var 5) (.cons (.var 2) .nil)))))) .nil))))))))
def f_law_event_v2 : Fn := ⟨2, 6, b_law_event_v2, false⟩
def b_law_row_v2 : Ss :=
  .cons (.set 3 (.bi .tuple (.cons (.comp false (.call true 53 (.cons (.var 0) (.cons (.bin .FloorDiv (.call true 51 (.cons (.var 1) (.cons (.bin .Add (.int 30) (.var 4)) .nil))) (.int 4)) .nil))) (.nm 4) (.range (.cons (.bin .Mod (.var 1) (.bin .Add (.var 2) (.int 1))) .nil)) .no [4]) .nil)))
  (.cons (.ite (.andE (.cons (.cmp .Eq (.bin .Mod (.bin .FloorDiv (.var 1) (.int 64)) (.int 5)) (.int 0)) (.cons (.cmp .Gt (.bi .len (.cons (.var 3) .nil)) (.int 2)) .nil))) (.cons (.set 3 (.bin .Add (.sl (.var 3) .no (.so (.neg (.int 3)))) (.bin .Mult (.tup (.cons (.tup (.cons (.str "code") (.cons (.str "5555") (.cons (.str "unset") (.cons (.non) .nil))))) .nil)) (.int 3)))) .nil) (.nil))
  (.cons (.ret (.var 3)) .nil))
def f_law_row_v2 : Fn := ⟨3, 5, b_law_row_v2, false⟩
def l1_law_house_v2 : Ss :=
  .cons (.set 4 (.bin .FloorDiv (.call true 51 (.cons (.var 0) (.cons (.bin .Add (.int 50) (.var 3)) .nil))) (.int 4)))
  (.cons (.set 5 (.bin .Mod (.var 4) (.bin .Add (.var 1) (.int 1))))
  (.cons (.set 6 (.bin .Mod (.bin .Add (.bin .Add (.var 5) (.int 1)) (.bin .Mod (.bin .FloorDiv (.var 4) (.int 8)) (.var 1))) (.bin .Add (.var 1) (.int 1))))
  (.cons (.set 7 (.ix (.tup (.cons (.non) (.cons (.non) (.cons (.str "a") (.cons (.str "b") (.cons (.str "back") (.cons (.str "hall") (.cons (.str "win") .nil)))))))) (.bin .Mod (.bin .FloorDiv (.var 4) (.int 64)) (.int 7))))
  (.cons (.set 2 (.bin .Add (.var 2) (.tup (.cons (.tup (.cons (.bi .min (.cons (.var 5) (.cons (.var 6) .nil))) (.cons (.bi .max (.cons (.var 5) (.cons (.var 6) .nil))) (.cons (.var 7) .nil)))) .nil)))) .nil))))
def b_law_house_v2 : Ss :=
  .cons (.set 1 (.bin .Add (.int 1) (.bin .Mod (.var 0) (.int 7))))
  (.cons (.set 2 (.tup (.nil)))
  (.cons (.forS (.nm 3) (.range (.cons (.bin .Mod (.bin .FloorDiv (.var 0) (.int 8)) (.int 11)) .nil)) l1_law_house_v2)
  (.cons (.ret (.tup (.cons (.var 1) (.cons (.var 2) .nil)))) .nil)))
def f_law_house_v2 : Fn := ⟨1, 8, b_law_house_v2, false⟩
def b_lines_text : Ss :=
  .cons (.ret (.txm .join (.str "") (.comp false (.bin .Add (.txm .join (.str " ") (.comp false (.bi .str (.cons (.var 2) .nil)) (.nm 2) (.of (.var 1)) .no [2])) (.glb "ROW_END" (.str "\n"))) (.nm 1) (.of (.var 0)) .no [1]))) .nil
def f_lines_text : Fn := ⟨1, 3, b_lines_text, false⟩
def b_event_words : Ss :=
  .cons (.ret (.bi .tuple (.cons (.comp false (.var 1) (.nm 1) (.of (.var 0)) (.so (.cmp .IsNot (.var 1) (.non))) [1]) .nil))) .nil
def f_event_words : Fn := ⟨1, 2, b_event_words, false⟩
def b_row_text : Ss :=
  .cons (.ret (.call true 156 (.cons (.comp false (.call true 157 (.cons (.var 1) .nil)) (.nm 1) (.of (.var 0)) .no [1]) .nil))) .nil
def f_row_text : Fn := ⟨1, 2, b_row_text, false⟩
def b_need : Ss :=
  .cons (.ite (.notE (.var 0)) (.cons (.raise 5 "no such text") .nil) (.nil)) .nil
def f_need : Fn := ⟨1, 1, b_need, false⟩
def b_number_of : Ss :=
  .cons (.expr (.call true 159 (.cons (.andE (.cons (.cmp .NotEq (.var 0) (.str "")) (.cons (.bi .all (.cons (.comp false (.cmp .In (.var 1) (.glb "FIGURES" (.str "0123456789"))) (.nm 1) (.of (.var 0)) .no [1]) .nil)) .nil))) .nil)))
  (.cons (.ret (.bi .int (.cons (.var 0) .nil))) .nil)
def f_number_of : Fn := ⟨1, 2, b_number_of, false⟩
def b_lines_of : Ss :=
  .cons (.set 1 (.txm .split (.var 0) (.glb "ROW_END" (.str "\n"))))
  (.cons (.expr (.call true 159 (.cons (.cmp .Eq (.ix (.var 1) (.neg (.int 1))) (.str "")) .nil)))
  (.cons (.ret (.comp false (.txm .split (.var 2) (.str " ")) (.nm 2) (.of (.sl (.var 1) .no (.so (.neg (.int 1))))) .no [2])) .nil))
def f_lines_of : Fn := ⟨1, 3, b_lines_of, false⟩
def b_event_of : Ss :=
  .cons (.ite (.cmp .Eq (.ix (.var 0) (.int 0)) (.glb "TICKS" (.str "ticks"))) (.cons (.expr (.call true 159 (.cons (.cmp .Eq (.bi .len (.cons (.var 0) .nil)) (.int 2)) .nil)))
  (.cons (.ret (.tup (.cons (.glb "TICKS" (.str "ticks")) (.cons (.call true 160 (.cons (.ix (.var 0) (.int 1)) .nil)) .nil)))) .nil)) (.nil))
  (.cons (.ite (.cmp .Eq (.ix (.var 0) (.int 0)) (.glb "LINE" (.str "line"))) (.cons (.ret (.bi .tuple (.cons (.var 0) .nil))) .nil) (.nil))
  (.cons (.expr (.call true 159 (.cons (.andE (.cons (.cmp .Eq (.ix (.var 0) (.int 0)) (.glb "CODE" (.str "code"))) (.cons (.chain .LtE .LtE (.int 3) (.bi .len (.cons (.var 0) .nil)) (.int 4)) .nil))) .nil)))
  (.cons (.ite (.cmp .In (.ix (.var 0) (.int 2)) (.tup (.cons (.glb "SHUNT" (.str "shunt")) (.cons (.glb "FREE" (.str "free")) .nil)))) (.cons (.ret (.bi .tuple (.cons (.var 0) .nil))) .nil) (.nil))
  (.cons (.ret (.bi .tuple (.cons (.bin .Add (.var 0) (.lst false (.cons (.non) .nil))) .nil))) .nil))))
def f_event_of : Fn := ⟨1, 1, b_event_of, false⟩
def b_read_row : Ss :=
  .cons (.set 2 (.bi .tuple (.cons (.comp false (.call true 162 (.cons (.var 3) .nil)) (.nm 3) (.of (.call true 161 (.cons (.var 1) .nil))) .no [3]) .nil)))
  (.cons (.expr (.call true 159 (.cons (.andE (.cons (.bi .all (.cons (.comp false (.call true 12 (.cons (.var 0) (.cons (.var 4) .nil))) (.nm 4) (.of (.var 2)) .no [4]) .nil)) (.cons (.cmp .Eq (.call true 158 (.cons (.var 2) .nil)) (.var 1)) .nil))) .nil)))
  (.cons (.ret (.var 2)) .nil))
def f_read_row : Fn := ⟨2, 5, b_read_row, false⟩
def b_plan_text : Ss :=
  .cons (.set 1 (.lst true (.cons (.bin .Add (.tup (.cons (.glb "TIMES" (.str "times")) .nil)) (.ix (.var 0) (.int 2))) .nil)))
  (.cons (.expr (.mt .extend (.var 1) (.cons (.comp false (.tup (.cons (.glb "ZONE" (.str "zone")) (.cons (.var 2) (.cons (.var 3) .nil)))) (.tp (.cons (.nm 2) (.cons (.nm 3) .nil))) (.of (.ix (.var 0) (.int 0))) .no [2, 3]) .nil)))
  (.cons (.expr (.mt .extend (.var 1) (.cons (.comp false (.bin .Add (.tup (.cons (.glb "CODE" (.str "code")) (.cons (.var 4) (.cons (.var 5) (.cons (.var 7) .nil))))) (.var 6)) (.tp (.cons (.nm 4) (.cons (.nm 5) (.cons (.nm 6) (.cons (.nm 7) .nil))))) (.of (.ix (.var 0) (.int 1))) .no [4, 5, 6, 7]) .nil)))
  (.cons (.ret (.call true 156 (.cons (.frz (.var 1)) .nil))) .nil)))
def f_plan_text : Fn := ⟨1, 8, b_plan_text, false⟩
def b_zone_word : Ss :=
  .cons (.ite (.cmp .Is (.var 0) (.non)) (.cons (.ret (.glb "NO_ZONE" (.str "-"))) .nil) (.nil))
  (.cons (.ret (.var 0)) .nil)
def f_zone_word : Fn := ⟨1, 1, b_zone_word, false⟩
def b_house_text : Ss :=
  .cons (.set 1 (.lst true (.cons (.tup (.cons (.glb "ROOMS" (.str "rooms")) (.cons (.ix (.var 0) (.int 0)) .nil))) .nil)))
  (.cons (.expr (.mt .extend (.var 1) (.cons (.comp false (.tup (.cons (.var 2) (.cons (.var 3) (.cons (.call true 183 (.cons (.var 4) .nil)) .nil)))) (.tp (.cons (.nm 2) (.cons (.nm 3) (.cons (.nm 4) .nil)))) (.of (.ix (.var 0) (.int 1))) .no [2, 3, 4]) .nil)))
  (.cons (.ret (.call true 156 (.cons (.frz (.var 1)) .nil))) .nil))
def f_house_text : Fn := ⟨1, 5, b_house_text, false⟩
def l1_read_plan : Ss :=
  .cons (.ite (.cmp .Eq (.ix (.var 5) (.int 0)) (.glb "ZONE" (.str "zone"))) (.cons (.set 3 (.bin .Add (.var 3) (.tup (.cons (.bi .tuple (.cons (.sl (.var 5) (.so (.int 1)) .no) .nil)) .nil)))) .nil) (.cons (.expr (.call true 159 (.cons (.andE (.cons (.cmp .Eq (.ix (.var 5) (.int 0)) (.glb "CODE" (.str "code"))) (.cons (.cmp .GtE (.bi .len (.cons (.var 5) .nil)) (.int 4)) .nil))) .nil)))
  (.cons (.set 4 (.bin .Add (.var 4) (.tup (.cons (.tup (.cons (.ix (.var 5) (.int 1)) (.cons (.ix (.var 5) (.int 2)) (.cons (.bi .tuple (.cons (.sl (.var 5) (.so (.int 4)) .no) .nil)) (.cons (.call true 160 (.cons (.ix (.var 5) (.int 3)) .nil)) .nil))))) .nil)))) .nil))) .nil
def b_read_plan : Ss :=
  .cons (.set 1 (.call true 161 (.cons (.var 0) .nil)))
  (.cons (.expr (.call true 159 (.cons (.andE (.cons (.cmp .Gt (.bi .len (.cons (.var 1) .nil)) (.int 0)) (.cons (.cmp .Eq (.ix (.ix (.var 1) (.int 0)) (.int 0)) (.glb "TIMES" (.str "times"))) .nil))) .nil)))
  (.cons (.set 2 (.bi .tuple (.cons (.comp false (.call true 160 (.cons (.var 7) .nil)) (.nm 7) (.of (.sl (.ix (.var 1) (.int 0)) (.so (.int 1)) .no)) .no [7]) .nil)))
  (.cons (.set 3 (.tup (.nil)))
  (.cons (.set 4 (.tup (.nil)))
  (.cons (.forS (.nm 5) (.of (.sl (.var 1) (.so (.int 1)) .no)) l1_read_plan)
  (.cons (.set 6 (.tup (.cons (.var 3) (.cons (.var 4) (.cons (.var 2) .nil)))))
  (.cons (.expr (.call true 159 (.cons (.andE (.cons (.call true 10 (.cons (.var 6) .nil)) (.cons (.cmp .Eq (.call true 182 (.cons (.var 6) .nil)) (.var 0)) .nil))) .nil)))
  (.cons (.ret (.var 6)) .nil))))))))
def f_read_plan : Fn := ⟨1, 8, b_read_plan, false⟩
def b_opening_of : Ss :=
  .cons (.expr (.call true 159 (.cons (.cmp .Eq (.bi .len (.cons (.var 0) .nil)) (.int 3)) .nil)))
  (.cons (.set 1 (.ix (.var 0) (.int 2)))
  (.cons (.ite (.cmp .Eq (.var 1) (.glb "NO_ZONE" (.str "-"))) (.cons (.set 1 (.non)) .nil) (.nil))
  (.cons (.ret (.tup (.cons (.call true 160 (.cons (.ix (.var 0) (.int 0)) .nil)) (.cons (.call true 160 (.cons (.ix (.var 0) (.int 1)) .nil)) (.cons (.var 1) .nil))))) .nil)))
def f_opening_of : Fn := ⟨1, 2, b_opening_of, false⟩
def b_read_house : Ss :=
  .cons (.set 1 (.call true 161 (.cons (.var 0) .nil)))
  (.cons (.expr (.call true 159 (.cons (.andE (.cons (.cmp .Gt (.bi .len (.cons (.var 1) .nil)) (.int 0)) (.cons (.cmp .Eq (.bi .len (.cons (.ix (.var 1) (.int 0)) .nil)) (.int 2)) (.cons (.cmp .Eq (.ix (.ix (.var 1) (.int 0)) (.int 0)) (.glb "ROOMS" (.str "rooms"))) .nil)))) .nil)))
  (.cons (.set 2 (.tup (.cons (.call true 160 (.cons (.ix (.ix (.var 1) (.int 0)) (.int 1)) .nil)) (.cons (.bi .tuple (.cons (.comp false (.call true 186 (.cons (.var 3) .nil)) (.nm 3) (.of (.sl (.var 1) (.so (.int 1)) .no)) .no [3]) .nil)) .nil))))
  (.cons (.expr (.call true 159 (.cons (.andE (.cons (.call true 34 (.cons (.var 2) .nil)) (.cons (.cmp .Eq (.call true 184 (.cons (.var 2) .nil)) (.var 0)) .nil))) .nil)))
  (.cons (.ret (.var 2)) .nil))))
def f_read_house : Fn := ⟨1, 4, b_read_house, false⟩
def l1_law_lines : Ss :=
  .cons (.set 1 (.bin .Add (.bin .Add (.var 1) (.txm .join (.str " ") (.comp false (.bi .str (.cons (.var 3) .nil)) (.nm 3) (.of (.var 2)) (.so (.cmp .IsNot (.var 3) (.non))) [3]))) (.str "\n"))) .nil
def b_law_lines : Ss :=
  .cons (.set 1 (.str ""))
  (.cons (.forS (.nm 2) (.of (.var 0)) l1_law_lines)
  (.cons (.ret (.var 1)) .nil))
def f_law_lines : Fn := ⟨1, 4, b_law_lines, false⟩
def l1_law_k50 : Ss :=
  .cons (.expr (.mt .append (.var 4) (.cons (.bin .Add (.tup (.cons (.str "code") (.cons (.var 5) (.cons (.var 6) (.cons (.var 8) .nil))))) (.var 7)) .nil))) .nil
def b_law_k50 : Ss :=
  .cons (.set 1 (.call true 52 (.cons (.call false 14 (.cons (.var 0) (.cons (.int 0) .nil))) .nil)))
  (.cons (.set 2 (.call true 109 (.cons (.call false 14 (.cons (.var 0) (.cons (.int 1) .nil))) .nil)))
  (.cons (.set 3 (.call true 54 (.cons (.var 1) (.cons (.call false 14 (.cons (.var 0) (.cons (.int 2) .nil))) (.cons (.int 9) .nil)))))
  (.cons (.set 4 (.addM (.lst false (.cons (.bin .Add (.tup (.cons (.str "times") .nil)) (.ix (.var 1) (.int 2))) .nil)) (.comp false (.bin .Add (.tup (.cons (.str "zone") .nil)) (.var 15)) (.nm 15) (.of (.ix (.var 1) (.int 0))) .no [15])))
  (.cons (.forS (.tp (.cons (.nm 5) (.cons (.nm 6) (.cons (.nm 7) (.cons (.nm 8) .nil))))) (.of (.ix (.var 1) (.int 1))) l1_law_k50)
  (.cons (.set 9 (.bin .Add (.lst false (.cons (.tup (.cons (.str "rooms") (.cons (.ix (.var 2) (.int 0)) .nil))) .nil)) (.comp false (.tup (.cons (.var 16) (.cons (.var 12) (.cons (.ix (.lst false (.cons (.var 15) (.cons (.str "-") .nil))) (.bi .int (.cons (.cmp .Is (.var 15) (.non)) .nil))) .nil)))) (.tp (.cons (.nm 16) (.cons (.nm 12) (.cons (.nm 15) .nil)))) (.of (.ix (.var 2) (.int 1))) .no [16, 12, 15])))
  (.cons (.ite (.orE (.cons (.cmp .NotEq (.call true 182 (.cons (.var 1) .nil)) (.call true 188 (.cons (.frz (.var 4)) .nil))) (.cons (.cmp .NotEq (.call true 184 (.cons (.var 2) .nil)) (.call true 188 (.cons (.var 9) .nil))) .nil))) (.cons (.ret (.bl false)) .nil) (.nil))
  (.cons (.ite (.cmp .NotEq (.call true 158 (.cons (.var 3) .nil)) (.call true 188 (.cons (.var 3) .nil))) (.cons (.ret (.bl false)) .nil) (.nil))
  (.cons (.ite (.orE (.cons (.cmp .NotEq (.bi .repr (.cons (.call true 185 (.cons (.call true 182 (.cons (.var 1) .nil)) .nil)) .nil)) (.bi .repr (.cons (.var 1) .nil))) (.cons (.cmp .NotEq (.bi .repr (.cons (.call true 187 (.cons (.call true 184 (.cons (.var 2) .nil)) .nil)) .nil)) (.bi .repr (.cons (.var 2) .nil))) .nil))) (.cons (.ret (.bl false)) .nil) (.nil))
  (.cons (.ite (.cmp .NotEq (.bi .repr (.cons (.call true 163 (.cons (.var 1) (.cons (.call true 158 (.cons (.var 3) .nil)) .nil))) .nil)) (.bi .repr (.cons (.var 3) .nil))) (.cons (.ret (.bl false)) .nil) (.nil))
  (.cons (.set 10 (.call false 14 (.cons (.var 0) (.cons (.int 3) .nil))))
  (.cons (.set 11 (.tup (.cons (.bin .Mod (.var 10) (.int 61)) (.cons (.bin .Mod (.bin .FloorDiv (.var 10) (.int 64)) (.int 61)) (.cons (.bin .Add (.int 1) (.bin .Mod (.bin .FloorDiv (.var 10) (.int 4096)) (.int 300))) .nil)))))
  (.cons (.set 12 (.tup (.cons (.ix (.var 1) (.int 0)) (.cons (.ix (.var 1) (.int 1)) (.cons (.ix (.tup (.cons (.var 11) (.cons (.ix (.var 1) (.int 2)) .nil))) (.bin .Mod (.bin .FloorDiv (.var 10) (.int 2097152)) (.int 2))) .nil)))))
  (.cons (.ite (.orE (.cons (.cmp .NotEq (.cmp .Eq (.call true 182 (.cons (.var 12) .nil)) (.call true 182 (.cons (.var 1) .nil))) (.cmp .Eq (.var 12) (.var 1))) (.cons (.cmp .NotEq (.call true 185 (.cons (.call true 182 (.cons (.var 12) .nil)) .nil)) (.var 12)) .nil))) (.cons (.ret (.bl false)) .nil) (.nil))
  (.cons (.set 13 (.call true 109 (.cons (.var 10) .nil)))
  (.cons (.ite (.cmp .NotEq (.cmp .Eq (.call true 184 (.cons (.var 13) .nil)) (.call true 184 (.cons (.var 2) .nil))) (.cmp .Eq (.var 13) (.var 2))) (.cons (.ret (.bl false)) .nil) (.nil))
  (.cons (.set 14 (.call true 53 (.cons (.var 1) (.cons (.var 10) .nil))))
  (.cons (.ret (.andE (.cons (.cmp .Eq (.call true 163 (.cons (.var 1) (.cons (.call true 158 (.cons (.bin .Add (.var 3) (.tup (.cons (.var 14) .nil))) .nil)) .nil))) (.bin .Add (.var 3) (.tup (.cons (.var 14) .nil)))) (.cons (.cmp .NotEq (.call true 158 (.cons (.bin .Add (.var 3) (.tup (.cons (.var 14) .nil))) .nil)) (.call true 158 (.cons (.var 3) .nil))) .nil)))) .nil)))))))))))))))))
def f_law_k50 : Fn := ⟨1, 17, b_law_k50, true⟩
def fns : Nat → Option Fn
  | 1 => some f_is_whole
  | 2 => some f_is_row
  | 3 => some f_is_one_of
  | 4 => some f_is_name
  | 5 => some f_are_figures
  | 6 => some f_rises
  | 7 => some f_is_zone
  | 8 => some f_is_code
  | 9 => some f_are_times
  | 10 => some f_is_plan
  | 11 => some f_names_of
  | 12 => some f_is_event
  | 13 => some f_law_cell_at
  | 14 => some f_law_mixed
  | 33 => some f_is_opening
  | 34 => some f_is_house
  | 51 => some f_law_drawn_v2
  | 52 => some f_law_plan_v2
  | 53 => some f_law_event_v2
  | 54 => some f_law_row_v2
  | 109 => some f_law_house_v2
  | 156 => some f_lines_text
  | 157 => some f_event_words
  | 158 => some f_row_text
  | 159 => some f_need
  | 160 => some f_number_of
  | 161 => some f_lines_of
  | 162 => some f_event_of
  | 163 => some f_read_row
  | 182 => some f_plan_text
  | 183 => some f_zone_word
  | 184 => some f_house_text
  | 185 => some f_read_plan
  | 186 => some f_opening_of
  | 187 => some f_read_house
  | 188 => some f_law_lines
  | 189 => some f_law_k50
  | _ => none
end Dw
namespace Dw
open PySem
section
variable {Φ : Nat → List Vl → M Vl} {env : Env}
theorem M.ite_run {α : Type} {c : Prop} [Decidable c] (a b : M α) (s : Sto) : (if c then a else b) s = if c then a s else b s := by split <;> rfl
theorem M.ite_bind {α β : Type} {c : Prop} [Decidable c] (a b : M α) (f : α → M β) : ((if c then a else b) >>= f) = if c then a >>= f else b >>= f := by split <;> rfl
@[simp] theorem ev_non : evE Φ .non env = pure nonV := by rw [evE]
@[simp] theorem ev_bl {b : Bool} : evE Φ (.bl b) env = pure (blV b) := by rw [evE]
@[simp] theorem ev_int {i : Int} : evE Φ (.int i) env = pure (inV i) := by rw [evE]
@[simp] theorem ev_str {x : Str} : evE Φ (.str x) env = pure (stV x) := by rw [evE]
@[simp] theorem ev_var {i : Nat} : evE Φ (.var i) env = getV env i := by rw [evE]
@[simp] theorem ev_glb {x : Str} {d : D} : evE Φ (.glb x d) env = pure (.d d) := by rw [evE]
@[simp] theorem ev_bin {op : Operator} {a b : E} : evE Φ (.bin op a b) env = (evE Φ a env >>= fun x => evE Φ b env >>= fun y => binop op x y) := by rw [evE]
@[simp] theorem ev_cmp {op : CmpOp} {a b : E} : evE Φ (.cmp op a b) env = (evE Φ a env >>= fun x => evE Φ b env >>= fun y => cmpop op x y >>= fun c => pure (blV c)) := by rw [evE]
@[simp] theorem ev_chain {o1 o2 : CmpOp} {a b c : E} : evE Φ (.chain o1 o2 a b c) env = (evE Φ a env >>= fun x => evE Φ b env >>= fun y => cmpop o1 x y >>= fun k => if k then evE Φ c env >>= fun z => cmpop o2 y z >>= fun r => pure (blV r) else pure (blV false)) := by rw [evE]
@[simp] theorem ev_and {as : Es} : evE Φ (.andE as) env = evAnd Φ as env := by rw [evE]
@[simp] theorem ev_or {as : Es} : evE Φ (.orE as) env = evOr Φ as env := by rw [evE]
@[simp] theorem ev_not {a : E} : evE Φ (.notE a) env = (evE Φ a env >>= fun x => asB x >>= fun c => pure (blV (!c))) := by rw [evE]
@[simp] theorem ev_neg {a : E} : evE Φ (.neg a) env = (evE Φ a env >>= fun x => asI x >>= fun c => pure (inV (-c))) := by rw [evE]
@[simp] theorem ev_callP {f : Nat} {as : Es} : evE Φ (.call true f as) env = (evEs Φ as env >>= fun vs => asDs vs >>= fun xs => pureRun (Φ f (xs.map .d))) := by first | (rw [evE]; done) | (rw [evE]; exact (rfl))
@[simp] theorem ev_call {f : Nat} {as : Es} : evE Φ (.call false f as) env = (evEs Φ as env >>= fun vs => Φ f vs) := by first | (rw [evE]; done) | (rw [evE]; exact (rfl))
@[simp] theorem ev_bi {b : Bi} {as : Es} : evE Φ (.bi b as) env = (evEs Φ as env >>= fun vs => bi b vs) := by rw [evE]
@[simp] theorem ev_isi {a : E} {ty : Str} : evE Φ (.isi a ty) env = (evE Φ a env >>= fun v => match v with | .d x => pure (blV (tyIs x ty)) | .o _ => M.no) := by first | (rw [evE]; done) | (rw [evE]; exact (rfl))
@[simp] theorem ev_mt {m : Mt} {o : E} {as : Es} : evE Φ (.mt m o as) env = (evE Φ o env >>= fun v => mtTy v >>= fun _ => evEs Φ as env >>= fun vs => mt m v vs) := by rw [evE]
@[simp] theorem ev_tup {as : Es} : evE Φ (.tup as) env = (evEs Φ as env >>= fun vs => asDs vs >>= fun xs => okS (decide (xs.length ≤ szLine)) (tuV xs)) := by rw [evE]
@[simp] theorem ev_lst {mu : Bool} {as : Es} : evE Φ (.lst mu as) env = (evEs Φ as env >>= fun vs => asDs vs >>= fun xs => okS (decide (xs.length ≤ szLine)) () >>= fun _ => newL mu xs) := by rw [evE]
@[simp] theorem ev_ix {a i : E} : evE Φ (.ix a i) env = (evE Φ a env >>= fun x => evE Φ i env >>= fun y => ixV x y) := by rw [evE]
@[simp] theorem ev_sl {a : E} {lo hi : Eo} : evE Φ (.sl a lo hi) env = (evE Φ a env >>= fun x => evEo Φ lo env >>= fun l => evEo Φ hi env >>= fun h => slV x l h) := by rw [evE]
@[simp] theorem ev_addM {a b : E} : evE Φ (.addM a b) env = (evE Φ a env >>= fun x => evE Φ b env >>= fun y => addMV x y) := by rw [evE]
@[simp] theorem ev_stp {a : E} {lo : Option Int} {st : Int} : evE Φ (.stp a lo st) env = (evE Φ a env >>= fun x => stpV x lo st) := by rw [evE]
@[simp] theorem ev_frz {a : E} : evE Φ (.frz a) env = (evE Φ a env >>= fun x => frzV x) := by rw [evE]
@[simp] theorem ev_told {kd : Nat} {a : E} : evE Φ (.told kd a) env = toldV kd (evE Φ a env) := by rw [evE]
@[simp] theorem ev_tupRg {a : E} : evE Φ (.tupRg a) env = (evE Φ a env >>= fun v => tupRgV v) := by rw [evE]
@[simp] theorem ev_txm {m : Mt} {a b : E} : evE Φ (.txm m a b) env = (evE Φ a env >>= fun x => asTx x >>= fun z => evE Φ b env >>= fun y => txmV m z y) := by rw [evE]
@[simp] theorem ev_dzip {as : Es} : evE Φ (.dzip as) env = (evEs Φ as env >>= fun vs => dzipV vs) := by rw [evE]
@[simp] theorem asTx_str (z : Str) : asTx (stV z) = pure z := (rfl)
@[simp] theorem tupRg_int (j : Int) : tupRgV (inV j) = okS (bnd62 j && decide (j ≤ 1000000)) (tuV ((List.range j.toNat).map fun (i : Nat) => .int (i : Int))) := (rfl)
theorem toldV_ok {kd : Nat} {m : M Vl} {s s' : Sto} {x : D} (h : m s = .ok (.d x) s') : toldV kd m s = .ok (tuV [.str "told", x]) s' := by rw [toldV, h]
theorem toldV_ex {m : M Vl} {s s' : Sto} {c : Nat} (h : m s = .ex c s') (h1 : 2 ≤ c) (h2 : c ≤ 5) : toldV 0 m s = .ok (tuV [.str "refused", .int ((c : Int) - 2)]) s' := by rw [toldV, h]; simp [h1, h2]
@[simp] theorem evs_nil : evEs Φ .nil env = pure [] := by rw [evEs]
@[simp] theorem evs_cons {a : E} {r : Es} : evEs Φ (.cons a r) env = (evE Φ a env >>= fun x => evEs Φ r env >>= fun xs => pure (x :: xs)) := by rw [evEs]
@[simp] theorem evo_no : evEo Φ .no env = pure none := by rw [evEo]
@[simp] theorem evo_so {a : E} : evEo Φ (.so a) env = (evE Φ a env >>= fun x => asI x >>= fun i => pure (some i)) := by rw [evEo]
@[simp] theorem evi_no : evIf Φ .no env = pure true := by rw [evIf]
@[simp] theorem evi_so {a : E} : evIf Φ (.so a) env = (evE Φ a env >>= fun x => asB x) := by rw [evIf]
@[simp] theorem evand_one {a : E} : evAnd Φ (.cons a .nil) env = evE Φ a env := by rw [evAnd]
@[simp] theorem evand_cons {a b : E} {r : Es} : evAnd Φ (.cons a (.cons b r)) env = (evE Φ a env >>= fun x => asB x >>= fun c => if c then evAnd Φ (.cons b r) env else pure (blV false)) := by rw [evAnd]
@[simp] theorem evor_one {a : E} : evOr Φ (.cons a .nil) env = evE Φ a env := by rw [evOr]
@[simp] theorem evor_cons {a b : E} {r : Es} : evOr Φ (.cons a (.cons b r)) env = (evE Φ a env >>= fun x => asB x >>= fun c => if c then pure (blV true) else evOr Φ (.cons b r) env) := by rw [evOr]
@[simp] theorem evit_of {a : E} : evIt Φ (.of a) env = (evE Φ a env >>= fun x => wkOf x) := by rw [evIt]
@[simp] theorem evit_range {as : Es} : evIt Φ (.range as) env = (evEs Φ as env >>= fun vs => wkRange vs) := by rw [evIt]
@[simp] theorem evit_enum {a : E} : evIt Φ (.enum a) env = (evE Φ a env >>= fun x => fItems x >>= fun xs => pure (.its (enumD 0 xs))) := by rw [evIt]
@[simp] theorem evit_zip {a b : E} : evIt Φ (.zip a b) env = (evE Φ a env >>= fun x => evE Φ b env >>= fun y => fItems x >>= fun xs => fItems y >>= fun ys => pure (.its (zipD xs ys))) := by rw [evIt]
/-! statements -/
@[simp] theorem ex_set {i : Nat} {e : E} : exS Φ (.set i e) env = (evE Φ e env >>= fun v => pure (.nx, env.set i (some v))) := by rw [exS]
@[simp] theorem ex_unpk {tg : Tg} {e : E} : exS Φ (.unpk tg e) env = (evE Φ e env >>= fun v => ofO (bindT tg v env) >>= fun env => pure (.nx, env)) := by rw [exS]
@[simp] theorem ex_par {is : List Nat} {as : Es} : exS Φ (.par is as) env = (evEs Φ as env >>= fun vs => ofO (setAll env is vs) >>= fun env => pure (.nx, env)) := by rw [exS]
@[simp] theorem setAll_nil {env : Env} : setAll env [] [] = some env := (rfl)
@[simp] theorem setAll_cons {env : Env} {i : Nat} {is : List Nat} {v : Vl} {vs : List Vl} : setAll env (i :: is) (v :: vs) = setAll (env.set i (some v)) is vs := (rfl)
@[simp] theorem ex_expr {e : E} : exS Φ (.expr e) env = (evE Φ e env >>= fun _ => pure (.nx, env)) := by rw [exS]
@[simp] theorem ex_ite {c : E} {a b : Ss} : exS Φ (.ite c a b) env = (evE Φ c env >>= fun x => asB x >>= fun k => if k then exB Φ a env else exB Φ b env) := by rw [exS]
@[simp] theorem ex_ret {e : E} : exS Φ (.ret e) env = (evE Φ e env >>= fun v => pure (.rt v, env)) := by rw [exS]
@[simp] theorem ex_retN : exS Φ .retN env = pure (.rt nonV, env) := by rw [exS]
@[simp] theorem ex_raise {c : Nat} {x : Str} : exS Φ (.raise c x) env = M.ex c := by rw [exS]
@[simp] theorem ex_cont : exS Φ .cont env = pure (.ct, env) := by rw [exS]
@[simp] theorem ex_pass : exS Φ .pass env = pure (.nx, env) := by rw [exS]
/-- what comes behind a statement -/
def aft (k : Env → M (Fl × Env)) (p : Fl × Env) : M (Fl × Env) := match p with
  | (.nx, env') => k env'
  | p => pure p
@[simp] theorem aft_nx {k : Env → M (Fl × Env)} {e : Env} : aft k (.nx, e) = k e := (rfl)
@[simp] theorem aft_rt {k : Env → M (Fl × Env)} {v : Vl} {e : Env} : aft k (.rt v, e) = pure (.rt v, e) := (rfl)
@[simp] theorem aft_ct {k : Env → M (Fl × Env)} {e : Env} : aft k (.ct, e) = pure (.ct, e) := (rfl)
@[simp] theorem exb_nil : exB Φ .nil env = pure (.nx, env) := by rw [exB]
@[simp] theorem exb_cons {s : S} {r : Ss} : exB Φ (.cons s r) env = (exS Φ s env >>= aft fun env' => exB Φ r env') := by rw [exB]; rfl
end
/-! ### primitives -/
@[simp] theorem asB_bl (b : Bool) : asB (blV b) = pure b := (rfl)
@[simp] theorem asI_int (i : Int) : asI (inV i) = pure i := (rfl)
@[simp] theorem asD_d (x : D) : asD (.d x) = pure x := (rfl)
@[simp] theorem asDs_nil : asDs [] = pure [] := (rfl)
@[simp] theorem asDs_cons (v : Vl) (vs : List Vl) : asDs (v :: vs) = (asD v >>= fun x => asDs vs >>= fun xs => pure (x :: xs)) := (rfl)
@[simp] theorem okS_true {α : Type} (a : α) : okS true a = pure a := (rfl)
@[simp] theorem okS_false {α : Type} (a : α) : okS false a = M.no := (rfl)
@[simp] theorem ofO_some {α : Type} (a : α) : ofO (some a) = pure a := (rfl)
@[simp] theorem ofO_none {α : Type} : ofO (none : Option α) = M.no := (rfl)
@[simp] theorem getV_some {env : Env} {i : Nat} {v : Vl} (h : env[i]? = some (some v)) : getV env i = pure v := by unfold getV; rw [h]
@[simp] theorem asData_d (x : D) : asData (.d x) = pure x := (rfl)
@[simp] theorem add_int (i j : Int) : binop .Add (inV i) (inV j) = pure (inV (i + j)) := (rfl)
@[simp] theorem sub_int (i j : Int) : binop .Sub (inV i) (inV j) = pure (inV (i - j)) := (rfl)
@[simp] theorem mul_int (i j : Int) : binop .Mult (inV i) (inV j) = okS (cMul i j) (inV (i * j)) := (rfl)
@[simp] theorem div_int (i j : Int) : binop .FloorDiv (inV i) (inV j) = okS (decide (0 < j) && decide (j < 1073741824)) (inV (i / j)) := (rfl)
@[simp] theorem mod_int (i j : Int) : binop .Mod (inV i) (inV j) = okS (decide (0 < j)) (inV (i % j)) := (rfl)
@[simp] theorem add_tup (xs ys : List D) : binop .Add (tuV xs) (tuV ys) = okS (decide (xs.length + ys.length ≤ szLine)) (tuV (xs ++ ys)) := (rfl)
@[simp] theorem add_str (x y : Str) : binop .Add (stV x) (stV y) = okS (decide (x.length + y.length ≤ szLine)) (stV (x ++ y)) := (rfl)
@[simp] theorem add_lst (xs ys : List D) : binop .Add (liV xs) (liV ys) = okS (decide (xs.length + ys.length ≤ szLine)) (liV (xs ++ ys)) := (rfl)
@[simp] theorem cmp_eq (x y : D) : cmpop .Eq (.d x) (.d y) = okS (shp x && shp y) (PyData.eqv x y) := (rfl)
@[simp] theorem cmp_ne (x y : D) : cmpop .NotEq (.d x) (.d y) = (okS (shp x && shp y) (PyData.eqv x y) >>= fun c => pure (!c)) := (rfl)
@[simp] theorem cmp_lt (i j : Int) : cmpop .Lt (inV i) (inV j) = pure (decide (i < j)) := (rfl)
@[simp] theorem cmp_le (i j : Int) : cmpop .LtE (inV i) (inV j) = pure (decide (i ≤ j)) := (rfl)
@[simp] theorem cmp_gt (i j : Int) : cmpop .Gt (inV i) (inV j) = pure (decide (j < i)) := (rfl)
@[simp] theorem cmp_ge (i j : Int) : cmpop .GtE (inV i) (inV j) = pure (decide (j ≤ i)) := (rfl)
def isNn : D → Bool
  | .none => true
  | _ => false
@[simp] theorem isNn_n : isNn .none = true := (rfl)
@[simp] theorem isNn_i (i : Int) : isNn (.int i) = false := (rfl)
@[simp] theorem isNn_s (i : Str) : isNn (.str i) = false := (rfl)
@[simp] theorem isNn_b (i : Bool) : isNn (.bool i) = false := (rfl)
@[simp] theorem isNn_t (i : List D) : isNn (.tuple i) = false := (rfl)
@[simp] theorem isNn_l (i : List D) : isNn (.list i) = false := (rfl)
@[simp] theorem cmp_isN (x : D) : cmpop .Is (.d x) nonV = pure (isNn x) := by cases x <;> exact (rfl)
@[simp] theorem cmp_isNotN (x : D) : cmpop .IsNot (.d x) nonV = pure (!isNn x) := by cases x <;> exact (rfl)
@[simp] theorem cmp_in_tup (x : D) (xs : List D) : cmpop .In (.d x) (tuV xs) = okS (shp x && shp (.tuple xs)) (isIn x xs) := by cases x <;> exact (rfl)
@[simp] theorem cmp_notIn_tup (x : D) (xs : List D) : cmpop .NotIn (.d x) (tuV xs) = (okS (shp x && shp (.tuple xs)) (isIn x xs) >>= fun c => pure (!c)) := by cases x <;> exact (rfl)
@[simp] theorem cmp_in_lst (x : D) (xs : List D) : cmpop .In (.d x) (liV xs) = okS (shp x && shp (.list xs)) (isIn x xs) := by cases x <;> exact (rfl)
@[simp] theorem ix_tup (xs : List D) (i : Int) : ixV (tuV xs) (inV i) = (match L2.atI xs i with | some v => pure (.d v) | none => M.no) := (rfl)
@[simp] theorem ix_lst (xs : List D) (i : Int) : ixV (liV xs) (inV i) = (match L2.atI xs i with | some v => pure (.d v) | none => M.no) := (rfl)
@[simp] theorem sl_tup (xs : List D) (lo hi : Option Int) : slV (tuV xs) lo hi = pure (tuV (cutD xs lo hi)) := (rfl)
@[simp] theorem sl_lst (xs : List D) (lo hi : Option Int) : slV (liV xs) lo hi = pure (liV (cutD xs lo hi)) := (rfl)
@[simp] theorem newL_false (xs : List D) : newL false xs = pure (liV xs) := (rfl)
@[simp] theorem wkOf_tup (xs : List D) : wkOf (tuV xs) = pure (.its (xs.map .d)) := (rfl)
@[simp] theorem wkOf_lst (xs : List D) : wkOf (liV xs) = pure (.its (xs.map .d)) := (rfl)
@[simp] theorem fIt_tup (xs : List D) : fItems (tuV xs) = pure xs := (rfl)
@[simp] theorem fIt_lst (xs : List D) : fItems (liV xs) = pure xs := (rfl)
@[simp] theorem bi_len_tup (xs : List D) : bi .len [tuV xs] = pure (inV xs.length) := (rfl)
@[simp] theorem bi_len_lst (xs : List D) : bi .len [liV xs] = pure (inV xs.length) := (rfl)
@[simp] theorem bi_min2 (i j : Int) : bi .min [inV i, inV j] = pure (inV (if j < i then j else i)) := (rfl)
@[simp] theorem bi_max2 (i j : Int) : bi .max [inV i, inV j] = pure (inV (if j > i then j else i)) := (rfl)
@[simp] theorem bi_tup_lst (xs : List D) : bi .tuple [liV xs] = pure (tuV xs) := (rfl)
@[simp] theorem bi_tup_tup (xs : List D) : bi .tuple [tuV xs] = pure (tuV xs) := (rfl)
@[simp] theorem bi_sorted_lst (xs : List D) : bi .sorted [liV xs] = okS (ordd xs) (liV (sortD xs)) := (rfl)
@[simp] theorem bi_sorted_tup (xs : List D) : bi .sorted [tuV xs] = okS (ordd xs) (liV (sortD xs)) := (rfl)
@[simp] theorem range1 (j : Int) : wkRange [inV j] = okS (bnd62 j) (.its (rangeD 0 j.toNat)) := (rfl)
@[simp] theorem range2 (i j : Int) : wkRange [inV i, inV j] = okS (bnd62 i && bnd62 j) (.its (rangeD i (j - i).toNat)) := (rfl)
theorem pureRun_ok {m : M Vl} {x : D} {s' : Sto} {s : Sto} (h : m [] = .ok (.d x) s') : pureRun m s = .ok (.d x) s := by unfold pureRun; rw [h]
theorem pureRun_eq {m : M Vl} {x : D} {s' : Sto} (h : m [] = .ok (.d x) s') : pureRun m = pure (.d x) := by funext s; exact pureRun_ok h
/-- a def run at its body -/
theorem run_of {T : Nat → Option Fn} {k f : Nat} {vs : List Vl} {F : Fn} {s : Sto} (hf : T f = some F) (hl : vs.length = F.np) : Phi T (k + 1) f vs s = leave F.drop (exB (Phi T k) F.body (enter F vs)) s := by
  rw [Phi_succ hf]
  unfold Fn.run
  rw [if_pos hl]
/-! ### loops -/
def forW (f : Vl → Env → M (Fl × Env)) (w : Wk) (env : Env) : M (Fl × Env) := match w with
  | .its xs => forL f xs env
  | .ob i => getO i >>= fun o => match o with
    | .lst xs => forO f i (xs.length + 1) 0 env
    | _ => M.no
@[simp] theorem forW_its (f : Vl → Env → M (Fl × Env)) (xs : List Vl) (env : Env) : forW f (.its xs) env = forL f xs env := (rfl)
@[simp] theorem ex_for {Φ : Nat → List Vl → M Vl} {env : Env} {tg : Tg} {it : It} {b : Ss} : exS Φ (.forS tg it b) env = (evIt Φ it env >>= fun w => forW (fun x env => ofO (bindT tg x env) >>= fun e => exB Φ b e) w env) := by
  rw [exS]
  rfl
def compW (f : Vl → M (Option D)) (w : Wk) : M (List D) := match w with
  | .its xs => compL f xs []
  | .ob i => getO i >>= fun o => match o with
    | .lst xs => compO f i (xs.length + 1) 0 []
    | _ => M.no
@[simp] theorem compW_its (f : Vl → M (Option D)) (xs : List Vl) : compW f (.its xs) = compL f xs [] := (rfl)
/-- a comprehension's step -/
def compF (Φ : Nat → List Vl → M Vl) (tg : Tg) (ifs : Eo) (elt : E) (env : Env) (x : Vl) : M (Option D) := noEx (ofO (bindT tg x env) >>= fun e => evIf Φ ifs e >>= fun c => if c then evE Φ elt e >>= fun v => asD v >>= fun y => pure (some y) else pure none)
@[simp] theorem ev_comp {Φ : Nat → List Vl → M Vl} {env : Env} {mu : Bool} {elt : E} {tg : Tg} {it : It} {ifs : Eo} {own : List Nat} : evE Φ (.comp mu elt tg it ifs own) env = (evIt Φ it env >>= fun w => compW (compF Φ tg ifs elt (wipe env own)) w >>= fun ys => newL mu ys) := by
  rw [evE]
  congr 1
  funext w
  cases w with
  | its xs => rfl
  | ob i =>
    show (getO i >>= _) = ((getO i >>= _) >>= _)
    rw [M.bind_assoc]
    congr 1
    funext o
    cases o <;> rfl
/-- a loop over items that stay: P holds ahead of each turn, and behind the last -/
theorem forL_ok {f : Vl → Env → M (Fl × Env)} (P : Nat → Env → Sto → Prop) : ∀ (xs : List Vl) (i : Nat) (env : Env) (s : Sto), P i env s →
    (∀ j x env s, xs[j]? = some x → P (i + j) env s → ∃ env' s', (f x env s = .ok (.nx, env') s' ∨ f x env s = .ok (.ct, env') s') ∧ P (i + j + 1) env' s') → ∃ env' s', forL f xs env s = .ok (.nx, env') s' ∧ P (i + xs.length) env' s'
  | [], i, env, s, h, _ => ⟨env, s, rfl, h⟩
  | x :: xs, i, env, s, h, st => by
    obtain ⟨env1, s1, h1, h2⟩ := st 0 x env s rfl h
    obtain ⟨env2, s2, h3, h4⟩ := forL_ok P xs (i + 1) env1 s1 h2 fun j y e t hy hp => by
      have := st (j + 1) y e t hy (by rw [show i + (j + 1) = i + 1 + j by omega]; exact hp)
      rw [show i + (j + 1) + 1 = i + 1 + j + 1 by omega] at this
      exact this
    refine ⟨env2, s2, ?_, by rw [show i + (x :: xs).length = i + 1 + xs.length by simp; omega]; exact h4⟩
    unfold forL
    rw [M.bind_run]
    rcases h1 with h1 | h1 <;> rw [h1] <;> exact h3
/-- a comprehension whose steps are known -/
theorem compL_ok {f : Vl → M (Option D)} {s : Sto} (g : Nat → Vl → Option D) : ∀ (xs : List Vl) (acc : List D) (i : Nat), (∀ j x, xs[j]? = some x → f x s = .ok (g (i + j) x) s) → acc.length + xs.length ≤ szLine →
    compL f xs acc s = .ok (acc ++ (xs.zipIdx i).filterMap fun p => g p.2 p.1) s
  | [], acc, i, _, _ => by simp [compL]
  | x :: xs, acc, i, h, hz => by
    unfold compL
    have h0 := h 0 x rfl
    rw [M.bind_run, h0]
    simp only [Nat.add_zero]
    have hz' : acc.length + (xs.length + 1) ≤ szLine := by simpa using hz
    have ih := fun acc' (hl : acc'.length + xs.length ≤ szLine) => compL_ok g xs acc' (i + 1) (fun j y hy => by
      have := h (j + 1) y hy
      rw [show i + (j + 1) = i + 1 + j by omega] at this
      exact this) hl
    cases e : g i x with
    | none =>
      dsimp only
      rw [ih acc (by omega)]
      simp [List.zipIdx_cons, e]
    | some y =>
      dsimp only
      rw [show decide (acc.length < szLine) = true from decide_eq_true (by omega)]
      show compL f xs (acc ++ [y]) s = _
      rw [ih (acc ++ [y]) (by simp; omega)]
      simp [List.zipIdx_cons, e]
theorem noEx_ok {α : Type} {m : M α} {s s' : Sto} {a : α} (h : m s = .ok a s') : noEx m s = .ok a s' := by unfold noEx; rw [h]
/-- the items one by one, each giving one -/
theorem compL_map {f : Vl → M (Option D)} {s : Sto} {β : Type} (h : β → Vl) (g : β → D) (bs : List β) (hf : ∀ b ∈ bs, f (h b) s = .ok (some (g b)) s) (hz : bs.length ≤ szLine) : compL f (bs.map h) [] s = .ok (bs.map g) s := by
  have : ∀ (bs : List β) (acc : List D), (∀ b ∈ bs, f (h b) s = .ok (some (g b)) s) → acc.length + bs.length ≤ szLine → compL f (bs.map h) acc s = .ok (acc ++ bs.map g) s := by
    intro bs
    induction bs with
    | nil => intro acc _ _; simp [compL]
    | cons b bs ih =>
      intro acc hf hz
      have hz' : acc.length + (bs.length + 1) ≤ szLine := by simpa using hz
      show compL f (h b :: bs.map h) acc s = _
      unfold compL
      rw [M.bind_run, hf b List.mem_cons_self]
      dsimp only
      rw [show decide (acc.length < szLine) = true from decide_eq_true (by omega)]
      show compL f (bs.map h) (acc ++ [g b]) s = _
      rw [ih _ (fun c hc => hf c (List.mem_cons_of_mem _ hc)) (by simp; omega)]
      simp
  simpa using this bs [] hf (by simpa using hz)
/-- .. or none -/
theorem compL_fm {f : Vl → M (Option D)} {s : Sto} {β : Type} (h : β → Vl) (g : β → Option D) (bs : List β) (hf : ∀ b ∈ bs, f (h b) s = .ok (g b) s) (hz : bs.length ≤ szLine) : compL f (bs.map h) [] s = .ok (bs.filterMap g) s := by
  have : ∀ (bs : List β) (acc : List D), (∀ b ∈ bs, f (h b) s = .ok (g b) s) → acc.length + bs.length ≤ szLine → compL f (bs.map h) acc s = .ok (acc ++ bs.filterMap g) s := by
    intro bs
    induction bs with
    | nil => intro acc _ _; simp [compL]
    | cons b bs ih =>
      intro acc hf hz
      have hz' : acc.length + (bs.length + 1) ≤ szLine := by simpa using hz
      show compL f (h b :: bs.map h) acc s = _
      unfold compL
      rw [M.bind_run, hf b List.mem_cons_self]
      cases e : g b with
      | none =>
        dsimp only
        rw [ih _ (fun c hc => hf c (List.mem_cons_of_mem _ hc)) (by omega)]
        simp [e]
      | some y =>
        dsimp only
        rw [show decide (acc.length < szLine) = true from decide_eq_true (by omega)]
        show compL f (bs.map h) (acc ++ [y]) s = _
        rw [ih _ (fun c hc => hf c (List.mem_cons_of_mem _ hc)) (by simp; omega)]
        simp [e]
  simpa using this bs [] hf (by simpa using hz)
/-! ### places -/
@[simp] theorem atI_nat {α : Type} (xs : List α) (n : Nat) : L2.atI xs (n : Int) = xs[n]? := by
  unfold L2.atI L2.ixN
  rw [if_pos (by omega)]
  by_cases h : n < xs.length
  · rw [if_pos (by omega)]; simp
  · rw [if_neg (by omega)]
    simp only [Option.bind_none]
    rw [List.getElem?_eq_none (by omega)]
@[simp] theorem atI_ofNat {α : Type} (xs : List α) (n : Nat) : L2.atI xs (no_index (OfNat.ofNat n)) = xs[n]? := atI_nat xs n
@[simp] theorem atI_zero {α : Type} (xs : List α) : L2.atI xs 0 = xs[0]? := atI_nat xs 0
@[simp] theorem atI_one {α : Type} (xs : List α) : L2.atI xs 1 = xs[1]? := atI_nat xs 1
theorem atI_last {α : Type} (xs : List α) (h : xs ≠ []) : L2.atI xs (-1) = xs.getLast? := by
  unfold L2.atI L2.ixN
  have : 0 < xs.length := List.length_pos_iff.mpr h
  rw [if_neg (by omega), if_pos (by omega)]
  rw [show ((-1 : Int) + xs.length).toNat = xs.length - 1 by omega]
  simp [List.getLast?_eq_getElem?]
theorem atI_pos {α : Type} (xs : List α) {i : Int} (h : 0 ≤ i) : L2.atI xs i = xs[i.toNat]? := by
  have := atI_nat xs i.toNat
  rw [show ((i.toNat : Nat) : Int) = i by omega] at this
  exact this
theorem cMul_l {i j : Int} (h : (decide (-(2 ^ 64) < i) && decide (i < 2 ^ 64)) = true) : cMul i j = true := by unfold cMul; rw [h]; rfl
theorem cMul_r {i j : Int} (h : (decide (-(2 ^ 64) < j) && decide (j < 2 ^ 64)) = true) : cMul i j = true := by unfold cMul; rw [h]; simp
/-! ### equality -/
@[simp] theorem eqv_int (i j : Int) : PyData.eqv (.int i) (.int j) = decide (i = j) := by simp [PyData.eqv, BEq.beq]
@[simp] theorem eqv_str (i j : Str) : PyData.eqv (.str i) (.str j) = decide (i = j) := by simp [PyData.eqv, BEq.beq]
/-! ### data that may be compared -/
structure OkD (n : Nat) (d : D) : Prop where
  c : d.canLay0 = true
  p : d.depth ≤ n
theorem OkD.int {n : Nat} (i : Int) : OkD n (.int i) := ⟨rfl, Nat.zero_le _⟩
theorem OkD.non {n : Nat} : OkD n .none := ⟨rfl, Nat.zero_le _⟩
theorem OkD.bl {n : Nat} (b : Bool) : OkD n (.bool b) := ⟨rfl, Nat.zero_le _⟩
theorem OkD.str {n : Nat} {x : Str} (h : PyData.canLay0 (.str x) = true) : OkD n (.str x) := ⟨h, Nat.zero_le _⟩
theorem okAll : ∀ {xs : List D} {n : Nat}, (∀ x ∈ xs, OkD n x) → PyData.canLayAll0 xs = true ∧ PyData.depthAll xs ≤ n
  | [], n, _ => ⟨rfl, Nat.zero_le _⟩
  | x :: xs, n, h => by
    obtain ⟨h1, h2⟩ := okAll fun y hy => h y (List.mem_cons_of_mem _ hy)
    have h3 := h x List.mem_cons_self
    refine ⟨by simp [PyData.canLayAll0, h3.c, h1], ?_⟩
    simp only [PyData.depthAll]
    exact Nat.max_le.mpr ⟨h3.p, h2⟩
theorem OkD.tup {xs : List D} {n : Nat} (h : ∀ x ∈ xs, OkD n x) : OkD (n + 1) (.tuple xs) := by
  obtain ⟨h1, h2⟩ := okAll h
  exact ⟨by simpa [PyData.canLay0] using h1, by simp only [PyData.depth]; omega⟩
theorem OkD.lst {xs : List D} {n : Nat} (h : ∀ x ∈ xs, OkD n x) : OkD (n + 1) (.list xs) := by
  obtain ⟨h1, h2⟩ := okAll h
  exact ⟨by simpa [PyData.canLay0] using h1, by simp only [PyData.depth]; omega⟩
theorem OkD.shp {n : Nat} {d : D} (h : OkD n d) (hn : n ≤ 64) : shp d = true := by
  show SeqAt.shaped d = true
  unfold SeqAt.shaped
  rw [h.c, decide_eq_true (Nat.le_trans h.p hn)]
  rfl
theorem OkD.up {n m : Nat} {d : D} (h : OkD n d) (hn : n ≤ m) : OkD m d := ⟨h.c, Nat.le_trans h.p hn⟩
@[simp] theorem shp_int (i : Int) : shp (.int i) = true := (OkD.int (n := 0) i).shp (by omega)
@[simp] theorem shp_non : shp .none = true := (OkD.non (n := 0)).shp (by omega)
@[simp] theorem shp_bl (b : Bool) : shp (.bool b) = true := (OkD.bl (n := 0) b).shp (by omega)
/-- a block, statement by statement -/
theorem step_nx {Φ : Nat → List Vl → M Vl} {s : S} {r : Ss} {env env' : Env} {t t' : Sto} {x : Dw.R (Fl × Env)} (h : exS Φ s env t = .ok (.nx, env') t') (h2 : exB Φ r env' t' = x) : exB Φ (.cons s r) env t = x := by
  rw [exb_cons, M.bind_run, h]
  exact h2
theorem step_rt {Φ : Nat → List Vl → M Vl} {s : S} {r : Ss} {env env' : Env} {t t' : Sto} {v : Vl} (h : exS Φ s env t = .ok (.rt v, env') t') : exB Φ (.cons s r) env t = .ok (.rt v, env') t' := by
  rw [exb_cons, M.bind_run, h]
  rfl
end Dw

namespace Dw
open PySem
/-! ### runs -/
def R.bd {α β : Type} (r : R α) (f : α → M β) : R β := match r with
  | .ok a s => f a s
  | .ex c s => .ex c s
  | .no => .no
def R.sat {α : Type} (r : R α) (Q : α → Sto → Prop) : Prop := match r with
  | .ok a s => Q a s
  | _ => False
section
variable {α β γ : Type}
@[simp] theorem bd_ok (a : α) (s : Sto) (f : α → M β) : (R.ok a s).bd f = f a s := (rfl)
@[simp] theorem bd_ex (c : Nat) (s : Sto) (f : α → M β) : (R.ex c s : R α).bd f = .ex c s := (rfl)
@[simp] theorem bd_no (f : α → M β) : (R.no : R α).bd f = .no := (rfl)
@[simp] theorem run_bd (m : M α) (f : α → M β) (s : Sto) : (m >>= f) s = (m s).bd f := (rfl)
@[simp] theorem ite_run (c : Prop) [Decidable c] (a b : M α) (s : Sto) : (if c then a else b) s = if c then a s else b s := by split <;> rfl
@[simp] theorem bd_ite (c : Prop) [Decidable c] (a b : R α) (f : α → M β) : (if c then a else b).bd f = if c then a.bd f else b.bd f := by split <;> rfl
@[simp] theorem sat_ok (a : α) (s : Sto) (Q : α → Sto → Prop) : (R.ok a s).sat Q = Q a s := (rfl)
@[simp] theorem sat_ex (c : Nat) (s : Sto) (Q : α → Sto → Prop) : (R.ex c s : R α).sat Q = False := (rfl)
@[simp] theorem sat_no (Q : α → Sto → Prop) : (R.no : R α).sat Q = False := (rfl)
theorem sat_bd (r : R α) (f : α → M β) (Q : β → Sto → Prop) : (r.bd f).sat Q = r.sat fun a s => (f a s).sat Q := by cases r <;> rfl
theorem sat_mono {r : R α} {Q Q' : α → Sto → Prop} (h : r.sat Q) (f : ∀ a s, Q a s → Q' a s) : r.sat Q' := by
  cases r with
  | ok a s => exact f a s h
  | ex c s => exact h
  | no => exact h
@[simp] theorem ite_sat (c : Prop) [Decidable c] (a b : R α) (Q : α → Sto → Prop) : (if c then a else b).sat Q = if c then a.sat Q else b.sat Q := by split <;> rfl
theorem sat_ite {c : Prop} [Decidable c] {a b : R α} {Q : α → Sto → Prop} (h1 : c → a.sat Q) (h2 : ¬c → b.sat Q) : (if c then a else b).sat Q := by
  split
  · exact h1 ‹_›
  · exact h2 ‹_›
theorem eq_of_sat {r : R α} {a : α} {s : Sto} (h : r.sat fun b t => b = a ∧ t = s) : r = .ok a s := by
  cases r with
  | ok b t => obtain ⟨rfl, rfl⟩ := h; rfl
  | ex c s => exact h.elim
  | no => exact h.elim
theorem sat_eq {r : R α} {Q : α → Sto → Prop} (h : r.sat Q) : ∃ a s, r = .ok a s ∧ Q a s := by
  cases r with
  | ok b t => exact ⟨b, t, rfl, h⟩
  | ex c s => exact h.elim
  | no => exact h.elim
theorem sat_of {r : R α} {a : α} {s : Sto} {Q : α → Sto → Prop} (h : r = .ok a s) (q : Q a s) : r.sat Q := by rw [h]; exact q
end
/-! ### leaving -/
def lvK (d : Bool) (n : Nat) (p : Fl × Env) : M Vl := fun s' => match p.1 with
  | .rt v => leaveV d n v s'
  | .nx => leaveV d n nonV s'
  | _ => .no
@[simp] theorem leave_bd (d : Bool) (m : M (Fl × Env)) (s : Sto) : leave d m s = (m s).bd (lvK d s.length) := by
  unfold leave
  cases m s with
  | ok p t => obtain ⟨f, e⟩ := p; cases f <;> rfl
  | ex c t => rfl
  | no => rfl
@[simp] theorem lvK_rt (n : Nat) (v : Vl) (env : Env) (s : Sto) : lvK false n (.rt v, env) s = .ok v s := (rfl)
@[simp] theorem lvK_nx (n : Nat) (env : Env) (s : Sto) : lvK false n (.nx, env) s = .ok nonV s := (rfl)
@[simp] theorem lvK_rtD (n : Nat) (v : D) (env : Env) (s : Sto) : lvK true n (.rt (.d v), env) s = if (s.take n).all (obBelow n) = true then .ok (.d v) (s.take n) else .no := by
  show leaveV true n (.d v) s = _
  unfold leaveV
  simp [vBelow]
@[simp] theorem lvK_nxD (n : Nat) (env : Env) (s : Sto) : lvK true n (.nx, env) s = if (s.take n).all (obBelow n) = true then .ok nonV (s.take n) else .no := by
  show leaveV true n nonV s = _
  unfold leaveV
  simp [vBelow]
/-! ### loops -/
def forK (f : Vl → Env → M (Fl × Env)) (r : List Vl) (p : Fl × Env) : M (Fl × Env) := match p with
  | (.nx, e) => forL f r e
  | (.ct, e) => forL f r e
  | (.bk, e) => pure (.nx, e)
  | (.rt v, e) => pure (.rt v, e)
theorem forL_cons (f : Vl → Env → M (Fl × Env)) (x : Vl) (r : List Vl) (env : Env) (s : Sto) : forL f (x :: r) env s = (f x env s).bd (forK f r) := by
  conv => lhs; unfold forL
  rw [run_bd]
  congr 1
theorem for_sat {α : Type} {h : α → Vl} {f : Vl → Env → M (Fl × Env)} {Q : Fl × Env → Sto → Prop} (I : List α → Env → Sto → Prop) :
    ∀ (as : List α) (env : Env) (s : Sto), I [] env s →
    (∀ pre a post e t, as = pre ++ a :: post → I pre e t → (f (h a) e t).sat fun p t' => (p.1 = .nx ∨ p.1 = .ct) ∧ I (pre ++ [a]) p.2 t' ∨ ∃ v, p.1 = .rt v ∧ Q p t') →
    (∀ e t, I as e t → Q (.nx, e) t) → (forL f (as.map h) env s).sat Q := by
  have key : ∀ (as pre : List α) (env : Env) (s : Sto), I pre env s →
      (∀ q a post e t, pre ++ as = q ++ a :: post → I q e t → (f (h a) e t).sat fun p t' => (p.1 = .nx ∨ p.1 = .ct) ∧ I (q ++ [a]) p.2 t' ∨ ∃ v, p.1 = .rt v ∧ Q p t') →
      (∀ e t, I (pre ++ as) e t → Q (.nx, e) t) → (forL f (as.map h) env s).sat Q := by
    intro as
    induction as with
    | nil => intro pre env s h0 _ hq; exact hq env s (by simpa using h0)
    | cons a as ih =>
      intro pre env s h0 st hq
      rw [List.map_cons, forL_cons, sat_bd]
      refine sat_mono (st pre a as env s rfl h0) ?_
      rintro ⟨fl, e⟩ t h2
      rcases h2 with ⟨h2, h3⟩ | ⟨v, h2, h3⟩
      · have go : (forL f (as.map h) e t).sat Q := ih (pre ++ [a]) e t h3 (fun q b post e' t' hq' => st q b post e' t' (by rw [← hq']; simp)) (fun e' t' hh => hq e' t' (by simpa using hh))
        dsimp only at h2
        rcases h2 with rfl | rfl <;> exact go
      · cases h2; exact h3
  intro as env s h0 st hq
  exact key as [] env s h0 st hq
theorem for_sat_bd {α β : Type} {h : α → Vl} {f : Vl → Env → M (Fl × Env)} {K : Fl × Env → M β} {Q : β → Sto → Prop} (I : List α → Env → Sto → Prop)
    (as : List α) (env : Env) (s : Sto) (h0 : I [] env s)
    (hs : ∀ pre a post e t, as = pre ++ a :: post → I pre e t → (f (h a) e t).sat fun p t' => (p.1 = .nx ∨ p.1 = .ct) ∧ I (pre ++ [a]) p.2 t' ∨ ∃ v, p.1 = .rt v ∧ (K p t').sat Q)
    (hq : ∀ e t, I as e t → (K (.nx, e) t).sat Q) : ((forL f (as.map h) env s).bd K).sat Q := by
  rw [sat_bd]
  exact for_sat (Q := fun p t => (K p t).sat Q) I as env s h0 hs hq
/-- a loop that neither returns nor breaks -/
theorem for_nx_bd {α β : Type} {h : α → Vl} {f : Vl → Env → M (Fl × Env)} {K : Fl × Env → M β} {Q : β → Sto → Prop} (I : List α → Env → Sto → Prop)
    (as : List α) (env : Env) (s : Sto) (h0 : I [] env s)
    (hs : ∀ pre a post e t, as = pre ++ a :: post → I pre e t → (f (h a) e t).sat fun p t' => p.1 = .nx ∧ I (pre ++ [a]) p.2 t')
    (hq : ∀ e t, I as e t → (K (.nx, e) t).sat Q) : ((forL f (as.map h) env s).bd K).sat Q := by
  refine for_sat_bd I as env s h0 ?_ hq
  intro pre a post e t hx hi
  refine sat_mono (hs pre a post e t hx hi) ?_
  rintro p t' ⟨h1, h2⟩
  exact .inl ⟨.inl h1, h2⟩
/-- a while by a measure -/
theorem while_sat {c : Env → M Bool} {b : Env → M (Fl × Env)} {Q : Fl × Env → Sto → Prop} (I : Nat → Env → Sto → Prop) : ∀ (n m : Nat) (env : Env) (s : Sto), m < n → I m env s →
    (∀ m e t, I m e t → (c e t).sat fun k t' => if k then (b e t').sat fun p t'' => (p.1 = .nx ∨ p.1 = .ct) ∧ (∃ m' < m, I m' p.2 t'') ∨ ∃ v, p.1 = .rt v ∧ Q p t'' else Q (.nx, e) t') →
    (whileL c b n env s).sat Q
  | 0, m, _, _, h, _, _ => absurd h (Nat.not_lt_zero _)
  | n + 1, m, env, s, h, hi, st => by
    unfold whileL
    rw [run_bd, sat_bd]
    refine sat_mono (st m env s hi) fun k t h2 => ?_
    cases k with
    | false => simpa using h2
    | true =>
      simp only [if_true] at h2 ⊢
      rw [run_bd, sat_bd]
      refine sat_mono h2 ?_
      rintro ⟨fl, e⟩ t' h4
      rcases h4 with ⟨h4, m', hm, h5⟩ | ⟨v, h4, h5⟩
      · have go := while_sat I n m' e t' (by omega) h5 st
        dsimp only at h4
        rcases h4 with rfl | rfl <;> exact go
      · cases h4; exact h5
/-! ### list objects -/
theorem getO_at {t : Sto} {i : Nat} {o : Ob} (h : t[i]? = some o) : getO i t = .ok o t := by unfold getO; rw [h]
theorem mtTy_run {t : Sto} {i : Nat} {xs : List D} (h : t[i]? = some (.lst xs)) : mtTy (.o i) t = .ok () t := by
  unfold mtTy
  dsimp only
  rw [M.bind_run]
  unfold getO
  rw [h]
  rfl
theorem ext_run {t : Sto} {i : Nat} {xs ys : List D} (h : t[i]? = some (.lst xs)) (hz : xs.length + ys.length ≤ szLine) : mt .extend (.o i) [liV ys] t = .ok nonV (t.set i (.lst (xs ++ ys))) := by
  show setLst (.o i) (fun xs => okS (decide (xs.length + ys.length ≤ szLine)) (nonV, xs ++ ys)) t = _
  unfold setLst
  dsimp only
  rw [M.bind_run]
  unfold getO
  rw [h]
  dsimp only
  rw [show decide (xs.length + ys.length ≤ szLine) = true from decide_eq_true hz]
  rfl
theorem app_run {t : Sto} {i : Nat} {xs : List D} {y : D} (h : t[i]? = some (.lst xs)) (hz : xs.length < szLine) : mt .append (.o i) [.d y] t = .ok nonV (t.set i (.lst (xs ++ [y]))) := by
  show setLst (.o i) (fun xs => okS (decide (xs.length < szLine)) (nonV, xs ++ [y])) t = _
  unfold setLst
  dsimp only
  rw [M.bind_run]
  unfold getO
  rw [h]
  dsimp only
  rw [show decide (xs.length < szLine) = true from decide_eq_true hz]
  rfl
theorem frz_run {t : Sto} {i : Nat} {xs : List D} (h : t[i]? = some (.lst xs)) : frzV (.o i) t = .ok (liV xs) (t.set i .dead) := by
  unfold frzV
  dsimp only
  rw [M.bind_run]
  unfold getO
  rw [h]
  rfl
/-! ### comprehensions over typed items -/
def compT {α : Type} (f : α → M (Option D)) : List α → List D → M (List D)
  | [], acc => pure acc
  | x :: r, acc => do
    match ← f x with
    | some y => okS (decide (acc.length < szLine)) () >>= fun _ => compT f r (acc ++ [y])
    | none => compT f r acc
theorem compL_T {α : Type} (f : Vl → M (Option D)) (h : α → Vl) : ∀ (as : List α) (acc : List D), compL f (as.map h) acc = compT (fun a => f (h a)) as acc
  | [], acc => rfl
  | a :: as, acc => by
    rw [List.map_cons]
    unfold compL compT
    congr 1
    funext o
    cases o with
    | none => exact compL_T f h as acc
    | some y =>
      dsimp only
      congr 1
      funext _
      exact compL_T f h as _
/-- each item gives one or none; the store stays -/
theorem comp_sat {α : Type} {f : Vl → M (Option D)} {h : α → Vl} (g : α → Option D) (as : List α) (s : Sto) (hz : as.length ≤ szLine) (hf : ∀ a ∈ as, f (h a) s = .ok (g a) s) : compL f (as.map h) [] s = .ok (as.filterMap g) s := compL_fm h g as hf hz
@[simp] theorem noEx_pure {α : Type} (a : α) : noEx (pure a : M α) = pure a := (rfl)
@[simp] theorem noEx_ite {α : Type} (c : Prop) [Decidable c] (a b : M α) : noEx (if c then a else b) = if c then noEx a else noEx b := by split <;> rfl
theorem compT_congr {α : Type} {f g : α → M (Option D)} {as bs : List α} (h : as = bs) (hf : ∀ a ∈ bs, f a = g a) (acc : List D) : compT f as acc = compT g bs acc := by
  subst h
  induction as generalizing acc with
  | nil => rfl
  | cons a as ih =>
    unfold compT
    rw [hf a List.mem_cons_self]
    congr 1
    funext o
    cases o with
    | none => exact ih acc (fun b hb => hf b (List.mem_cons_of_mem _ hb))
    | some y =>
      dsimp only
      congr 1
      funext _
      exact ih _ (fun b hb => hf b (List.mem_cons_of_mem _ hb))
theorem compT_fm {α : Type} (g : α → Option D) (as : List α) (hz : as.length ≤ szLine) : compT (fun a => pure (g a)) as [] = pure (as.filterMap g) := by
  funext s
  have key : ∀ (as : List α) (acc : List D), acc.length + as.length ≤ szLine → compT (fun a => pure (g a)) as acc s = .ok (acc ++ as.filterMap g) s := by
    intro as
    induction as with
    | nil => intro acc _; simp [compT]
    | cons a as ih =>
      intro acc hz
      have hz' : acc.length + (as.length + 1) ≤ szLine := by simpa using hz
      unfold compT
      rw [run_bd]
      simp only [M.pure_run, bd_ok]
      cases e : g a with
      | none =>
        dsimp only
        rw [ih acc (by omega)]
        simp [e]
      | some y =>
        dsimp only
        rw [show decide (acc.length < szLine) = true from decide_eq_true (by omega)]
        show compT _ as (acc ++ [y]) s = _
        rw [ih _ (by simp; omega)]
        simp [e]
  simpa using key as [] (by simpa using hz)
@[simp] theorem compT_map {α : Type} (g : α → D) (as : List α) (hz : as.length ≤ szLine) : compT (fun a => pure (some (g a))) as [] = pure (as.map g) := by
  rw [compT_fm (fun a => some (g a)) as hz]
  simp
@[simp] theorem compT_filter {α : Type} (p : α → Prop) [DecidablePred p] (g : α → D) (as : List α) (hz : as.length ≤ szLine) : compT (fun a => if p a then pure (some (g a)) else pure none) as [] = pure ((as.filter p).map g) := by
  have e : (fun a => if p a then pure (some (g a)) else pure none : α → M (Option D)) = fun a => pure (if p a then some (g a) else none) := by
    funext a; split <;> rfl
  rw [e, compT_fm _ as hz]
  congr 1
  induction as with
  | nil => rfl
  | cons a as ih =>
    have ih := ih (by simp at hz; omega)
    by_cases h : p a
    · simp [h, ih]
    · simp [h, ih]
@[simp] theorem compT_filter' {α : Type} (p : α → Prop) [DecidablePred p] (g : α → D) (as : List α) (hz : as.length ≤ szLine) : compT (fun a => if p a then pure none else pure (some (g a))) as [] = pure ((as.filter fun a => ¬ p a).map g) := by
  have e : (fun a => if p a then pure none else pure (some (g a)) : α → M (Option D)) = fun a => if ¬ p a then pure (some (g a)) else pure none := by
    funext a; split <;> simp_all
  rw [e]
  exact compT_filter (fun a => ¬ p a) g as hz
@[simp] theorem bindT_nm (i : Nat) (v : Vl) (env : Env) : bindT (.nm i) v env = some (env.set i (some v)) := (rfl)
@[simp] theorem bindT_tp (ts : Tgs) (xs : List D) (env : Env) : bindT (.tp ts) (tuV xs) env = bindTs ts xs env := (rfl)
@[simp] theorem bindTs_nil (env : Env) : bindTs .nil [] env = some env := (rfl)
@[simp] theorem bindTs_cons (t : Tg) (r : Tgs) (x : D) (xs : List D) (env : Env) : bindTs (.cons t r) (x :: xs) env = (match bindT t (.d x) env with | some env => bindTs r xs env | none => none) := (rfl)
@[simp] theorem wipe_nil (env : Env) : wipe env [] = env := (rfl)
@[simp] theorem wipe_cons (env : Env) (v : Nat) (vs : List Nat) : wipe env (v :: vs) = (wipe env vs).set v none := (rfl)
@[simp] theorem compF_eq (Φ : Nat → List Vl → M Vl) (tg : Tg) (ifs : Eo) (elt : E) (env : Env) (x : Vl) : compF Φ tg ifs elt env x = noEx (ofO (bindT tg x env) >>= fun e => evIf Φ ifs e >>= fun c => if c then evE Φ elt e >>= fun v => asD v >>= fun y => pure (some y) else pure none) := (rfl)
@[simp] theorem compL_TT {α : Type} (f : Vl → M (Option D)) (h : α → Vl) (as : List α) : compL f (as.map h) [] = compT (fun a => f (h a)) as [] := compL_T f h as []
@[simp] theorem rangeD_map (lo : Int) (n : Nat) : rangeD lo n = (List.range n).map fun (i : Nat) => inV (lo + (i : Int)) := (rfl)
theorem enumD_map {α : Type} (h : α → D) : ∀ (as : List α) (n : Nat), enumD n (as.map h) = (as.zipIdx n).map fun p => tuV [.int (p.2 : Int), h p.1]
  | [], n => rfl
  | a :: as, n => by simp [enumD, enumD_map h as (n + 1)]
@[simp] theorem enumD_map0 {α : Type} (h : α → D) (as : List α) : enumD 0 (as.map h) = as.zipIdx.map fun p => tuV [.int (p.2 : Int), h p.1] := enumD_map h as 0
@[simp] theorem zipD_map {α β : Type} (h : α → D) (k : β → D) : ∀ (as : List α) (bs : List β), zipD (as.map h) (bs.map k) = (as.zip bs).map fun p => tuV [h p.1, k p.2]
  | [], bs => by cases bs <;> rfl
  | a :: as, [] => rfl
  | a :: as, b :: bs => by simp [zipD, zipD_map h k as bs]
@[simp] theorem cutD_hi {α : Type} (xs : List α) (n : Nat) : cutD xs none (some (n : Int)) = xs.take n := by
  unfold cutD
  rw [HT.sIx_nat, HT.sIx_none]
  simp
@[simp] theorem cutD_lo {α : Type} (xs : List α) (n : Nat) : cutD xs (some (n : Int)) none = xs.drop n := by
  unfold cutD
  rw [HT.sIx_nat, HT.sIx_none]
  by_cases h : n ≤ xs.length
  · rw [Nat.min_eq_left h, List.take_of_length_le (by simp)]
  · rw [Nat.min_eq_right (by omega), List.drop_of_length_le (by omega), List.drop_of_length_le (by omega)]
    simp
@[simp] theorem cutD_lo1 {α : Type} (xs : List α) (n : Nat) : cutD xs (some ((n : Int) + 1)) none = xs.drop (n + 1) := cutD_lo xs (n + 1)
@[simp] theorem cutD_hiL {α : Type} (xs : List α) (n : Nat) : cutD xs none (some (no_index (OfNat.ofNat n : Int))) = xs.take n := cutD_hi xs n
@[simp] theorem cutD_loL {α : Type} (xs : List α) (n : Nat) : cutD xs (some (no_index (OfNat.ofNat n : Int))) none = xs.drop n := cutD_lo xs n
@[simp] theorem cutD_lo_1 {α : Type} (xs : List α) : cutD xs (some 1) none = xs.drop 1 := cutD_lo xs 1
@[simp] theorem cutD_hi_1 {α : Type} (xs : List α) : cutD xs none (some 1) = xs.take 1 := cutD_hi xs 1
@[simp] theorem cutD_hi_0 {α : Type} (xs : List α) : cutD xs none (some 0) = [] := cutD_hi xs 0
/-! ### typed data -/
def strOk (x : Str) : Bool := PyData.canLay0 (.str x)
def okB (n : Nat) (d : D) : Bool := d.canLay0 && decide (d.depth ≤ n)
@[simp] theorem szLine_eq : szLine = 16777216 := (rfl)
theorem shp_okB (d : D) : shp d = okB 64 d := (rfl)
theorem okB_iff {n : Nat} {d : D} : okB n d = true ↔ OkD n d := by
  unfold okB
  rw [Bool.and_eq_true, decide_eq_true_eq]
  exact ⟨fun h => ⟨h.1, h.2⟩, fun h => ⟨h.c, h.p⟩⟩
theorem okB_up {n m : Nat} {d : D} (h : okB n d = true) (hm : n ≤ m) : okB m d = true := okB_iff.mpr ((okB_iff.mp h).up hm)
@[simp] theorem okB_int (n : Nat) (i : Int) : okB n (.int i) = true := okB_iff.mpr (.int i)
@[simp] theorem okB_non (n : Nat) : okB n .none = true := okB_iff.mpr .non
@[simp] theorem okB_bl (n : Nat) (b : Bool) : okB n (.bool b) = true := okB_iff.mpr (.bl b)
@[simp] theorem okB_str (n : Nat) (x : Str) : okB n (.str x) = strOk x := by
  unfold okB strOk
  simp [PyData.depth]
theorem okB_all (n : Nat) : ∀ xs : List D, (PyData.canLayAll0 xs && decide (PyData.depthAll xs ≤ n)) = xs.all (okB n)
  | [] => rfl
  | x :: xs => by
    rw [List.all_cons, ← okB_all n xs]
    unfold okB
    simp only [PyData.canLayAll0, PyData.depthAll, Nat.max_le]
    cases x.canLay0 <;> cases PyData.canLayAll0 xs <;> simp
@[simp] theorem okB_tup (n : Nat) (xs : List D) : okB (n + 1) (.tuple xs) = xs.all (okB n) := by
  rw [← okB_all]
  unfold okB
  simp only [PyData.canLay0, PyData.depth, Nat.add_comm 1, Nat.add_le_add_iff_right]
@[simp] theorem okB_lst (n : Nat) (xs : List D) : okB (n + 1) (.list xs) = xs.all (okB n) := by
  rw [← okB_all]
  unfold okB
  simp only [PyData.canLay0, PyData.depth, Nat.add_comm 1, Nat.add_le_add_iff_right]
@[simp] theorem eqv_tup (xs ys : List D) : PyData.eqv (.tuple xs) (.tuple ys) = PyData.eqvAll xs ys := by simp [PyData.eqv]
@[simp] theorem eqv_lst (xs ys : List D) : PyData.eqv (.list xs) (.list ys) = PyData.eqvAll xs ys := by simp [PyData.eqv]
@[simp] theorem eqvA_nn : PyData.eqvAll [] [] = true := by simp [PyData.eqvAll]
@[simp] theorem eqvA_cc (x y : D) (xs ys : List D) : PyData.eqvAll (x :: xs) (y :: ys) = (PyData.eqv x y && PyData.eqvAll xs ys) := by simp [PyData.eqvAll]
@[simp] theorem eqvA_nc (y : D) (ys : List D) : PyData.eqvAll [] (y :: ys) = false := by simp [PyData.eqvAll]
@[simp] theorem eqvA_cn (y : D) (ys : List D) : PyData.eqvAll (y :: ys) [] = false := by simp [PyData.eqvAll]
@[simp] theorem eqv_bl (a b : Bool) : PyData.eqv (.bool a) (.bool b) = decide (a = b) := by cases a <;> cases b <;> simp [PyData.eqv]
@[simp] theorem eqv_nn : PyData.eqv .none .none = true := by simp [PyData.eqv]
@[simp] theorem eqv_ns (x : Str) : PyData.eqv .none (.str x) = false := by simp [PyData.eqv]
@[simp] theorem eqv_sn (x : Str) : PyData.eqv (.str x) .none = false := by simp [PyData.eqv]
@[simp] theorem eqv_nt (x : List D) : PyData.eqv .none (.tuple x) = false := by simp [PyData.eqv]
@[simp] theorem eqv_tn (x : List D) : PyData.eqv (.tuple x) .none = false := by simp [PyData.eqv]
@[simp] theorem eqv_ni (x : Int) : PyData.eqv .none (.int x) = false := by simp [PyData.eqv]
@[simp] theorem eqv_in (x : Int) : PyData.eqv (.int x) .none = false := by simp [PyData.eqv]
end Dw
namespace Dt
open PySem Dw
/-- data of a type: it is small, and told apart -/
class Enc (α : Type) [DecidableEq α] where
  e : α → D
  dp : Nat
  ok : ∀ a, okB dp (e a) = true
  inj : ∀ a b, PyData.eqv (e a) (e b) = decide (a = b)

section
variable {α : Type} [DecidableEq α] [Enc α]
@[simp] abbrev V (a : α) : Vl := .d (Enc.e a)
@[simp] theorem okB_e (n : Nat) (a : α) (h : Enc.dp α ≤ n) : okB n (Enc.e a) = true := okB_up (Enc.ok a) h
@[simp] theorem eqv_e (a b : α) : PyData.eqv (Enc.e a) (Enc.e b) = decide (a = b) := Enc.inj a b
@[simp] theorem all_okB (n : Nat) (as : List α) (h : Enc.dp α ≤ n) : (as.map Enc.e).all (okB n) = true := by
  rw [List.all_map, List.all_eq_true]
  intro a _
  exact okB_e n a h
@[simp] theorem all_okBc (n : Nat) (as : List α) (h : Enc.dp α ≤ n) : as.all (okB n ∘ Enc.e) = true := by
  rw [List.all_eq_true]
  intro a _
  exact okB_e n a h
@[simp] theorem eqvA_map : ∀ as bs : List α, PyData.eqvAll (as.map Enc.e) (bs.map Enc.e) = decide (as = bs)
  | [], [] => by simp
  | [], b :: bs => by simp
  | a :: as, [] => by simp
  | a :: as, b :: bs => by
    simp only [List.map_cons, eqvA_cc, eqv_e, eqvA_map as bs]
    simp
@[simp] theorem isIn_map (a : α) (as : List α) : isIn (Enc.e a) (as.map Enc.e) = decide (a ∈ as) := by
  unfold isIn
  rw [List.any_map]
  induction as with
  | nil => simp
  | cons b bs ih =>
    simp only [List.any_cons, Function.comp, eqv_e, List.mem_cons] at ih ⊢
    rw [ih]
    by_cases h : a = b
    · simp [h]
    · have : ¬ b = a := fun x => h x.symm
      simp [h, this]
end
instance : Enc Int where
  e i := .int i
  dp := 0
  ok i := okB_int _ i
  inj a b := by simp [BEq.beq]
@[simp] theorem e_int (i : Int) : Enc.e i = PyData.int i := (rfl)
structure Tx where
  x : Str
  ok : strOk x = true
  deriving DecidableEq
instance : Enc Tx where
  e t := .str t.x
  dp := 0
  ok t := by rw [okB_str]; exact t.ok
  inj a b := by
    cases a; cases b
    simp [BEq.beq]
def oE {α : Type} [DecidableEq α] [Enc α] : Option α → D
  | none => .none
  | some a => Enc.e a
instance : Enc (Option Tx) where
  e := oE
  dp := 0
  ok t := by
    cases t with
    | none => exact okB_non _
    | some t => exact Enc.ok t
  inj a b := by
    cases a <;> cases b <;> simp [oE]
    · exact (eqv_ns _)
    · exact (eqv_sn _)
@[simp] theorem dp_Int : Enc.dp Int = 0 := (rfl)
@[simp] theorem dp_Tx : Enc.dp Tx = 0 := (rfl)
@[simp] theorem dp_OTx : Enc.dp (Option Tx) = 0 := (rfl)
@[simp] theorem e_noneT : Enc.e (none : Option Tx) = PyData.none := (rfl)
@[simp] theorem e_someT (t : Tx) : Enc.e (some t) = Enc.e t := (rfl)
@[simp] theorem isNn_T (t : Tx) : isNn (Enc.e t) = false := (rfl)
@[simp] theorem isNn_O (o : Option Tx) : isNn (Enc.e o) = o.isNone := by cases o <;> rfl
/-! strings -/
theorem ofString_inj' {a b : String} (h : Str.ofString a = Str.ofString b) : a = b := by
  rw [Str.ofString_eq_toList, Str.ofString_eq_toList] at h
  have h1 : (a.toList.map Char.toNat).toArray = (b.toList.map Char.toNat).toArray := Str.mk.inj h
  have h2 : a.toList.map Char.toNat = b.toList.map Char.toNat := by simpa using h1
  have h3 : a.toList = b.toList := (List.map_inj_right (fun x y e => Char.toNat_inj.mp e)).mp h2
  exact String.toList_inj.mp h3
@[simp] theorem ofString_inj (a b : String) : (Str.ofString a = Str.ofString b) = (a = b) := propext ⟨ofString_inj', fun h => h ▸ rfl⟩
@[simp] theorem beq_lit (a b : String) : (Str.ofString a == Str.ofString b) = decide (a = b) := by
  by_cases h : a = b
  · subst h; simp
  · simp [h]
@[simp] theorem strOk_lit (a : String) : strOk (Str.ofString a) = true := by
  unfold strOk
  rw [Str.ofString_eq_toList]
  unfold PyData.canLay0 PyData.strOk
  show (List.map Char.toNat a.toList).toArray.all (fun x => decide (x < 0x110000)) = true
  rw [List.all_toArray, List.all_map, List.all_eq_true]
  intro x _
  have h : x.toNat < 0x110000 := by
    have := x.valid
    unfold UInt32.isValidChar Nat.isValidChar at this
    show x.val.toNat < 0x110000
    omega
  exact decide_eq_true h
theorem lit_test1 : (("on" : Str) = "off") = False := by simp
theorem lit_test2 : (("on" : Str) == "off") = false := by simp
end Dt

/-! GoA: plans, states, events: typed, and as data. -/
namespace Dt
open PySem Dw
inductive Md where | off | leaving | on | coming deriving DecidableEq
inductive Ln where | shut | opn | cut deriving DecidableEq
inductive Kd where | day | inner | once | way deriving DecidableEq
inductive Dd where | set | unset | shunt | free deriving DecidableEq
inductive Wo where | alarm | attack | mended | fault | coming | on | locked | wrong | denied | no | opn | set | unset | shunt | free deriving DecidableEq
def Md.s : Md → Str | .off => "off" | .leaving => "leaving" | .on => "on" | .coming => "coming"
def Ln.s : Ln → Str | .shut => "shut" | .opn => "open" | .cut => "cut"
def Kd.s : Kd → Str | .day => "day" | .inner => "inner" | .once => "once" | .way => "way"
def Dd.s : Dd → Str | .set => "set" | .unset => "unset" | .shunt => "shunt" | .free => "free"
def Wo.s : Wo → Str
  | .alarm => "alarm" | .attack => "attack" | .mended => "mended" | .fault => "fault" | .coming => "coming" | .on => "on" | .locked => "locked" | .wrong => "wrong"
  | .denied => "denied" | .no => "no" | .opn => "open" | .set => "set" | .unset => "unset" | .shunt => "shunt" | .free => "free"
instance : Enc Md where
  e m := .str m.s
  dp := 0
  ok m := by cases m <;> simp [Md.s]
  inj a b := by cases a <;> cases b <;> simp [Md.s]
instance : Enc Ln where
  e m := .str m.s
  dp := 0
  ok m := by cases m <;> simp [Ln.s]
  inj a b := by cases a <;> cases b <;> simp [Ln.s]
instance : Enc Kd where
  e m := .str m.s
  dp := 0
  ok m := by cases m <;> simp [Kd.s]
  inj a b := by cases a <;> cases b <;> simp [Kd.s]
instance : Enc Dd where
  e m := .str m.s
  dp := 0
  ok m := by cases m <;> simp [Dd.s]
  inj a b := by cases a <;> cases b <;> simp [Dd.s]
instance : Enc Wo where
  e m := .str m.s
  dp := 0
  ok m := by cases m <;> simp [Wo.s]
  inj a b := by cases a <;> cases b <;> simp [Wo.s]
@[simp] theorem dp_Md : Enc.dp Md = 0 := (rfl)
@[simp] theorem dp_Ln : Enc.dp Ln = 0 := (rfl)
@[simp] theorem dp_Kd : Enc.dp Kd = 0 := (rfl)
@[simp] theorem dp_Dd : Enc.dp Dd = 0 := (rfl)
@[simp] theorem dp_Wo : Enc.dp Wo = 0 := (rfl)
structure Zn where
  nm : Tx
  kd : Kd
  deriving DecidableEq
structure Cd where
  fg : Tx
  who : Tx
  rts : List Dd
  us : Int
  deriving DecidableEq
structure Plan where
  zs : List Zn
  cs : List Cd
  lv : Int
  cm : Int
  ld : Int
  deriving DecidableEq
structure St where
  mode : Md
  left : Int
  came : Option Tx
  lines : List Ln
  shunts : List Tx
  siren : Int
  alarms : List Tx
  tries : Int
  locked : Int
  used : List Int
  deriving DecidableEq
inductive Ev where
  | line (z : Tx) (w : Ln)
  | code (f : Tx) (d : Dd) (z : Option Tx)
  | ticks (n : Int)
  deriving DecidableEq
structure Td where
  t : Int
  w : Wo
  n : Option Tx
  deriving DecidableEq
instance : Enc Zn where
  e z := .tuple [Enc.e z.nm, Enc.e z.kd]
  dp := 1
  ok z := by simp
  inj a b := by cases a; cases b; simp
instance : Enc Cd where
  e z := .tuple [Enc.e z.fg, Enc.e z.who, .tuple (z.rts.map Enc.e), .int z.us]
  dp := 2
  ok z := by simp
  inj a b := by cases a; cases b; simp
instance : Enc Td where
  e z := .tuple [.int z.t, Enc.e z.w, Enc.e z.n]
  dp := 1
  ok z := by simp
  inj a b := by cases a; cases b; simp
@[simp] theorem dp_Zn : Enc.dp Zn = 1 := (rfl)
@[simp] theorem dp_Cd : Enc.dp Cd = 2 := (rfl)
@[simp] theorem dp_Td : Enc.dp Td = 1 := (rfl)
instance : Enc Plan where
  e P := .tuple [.tuple (P.zs.map Enc.e), .tuple (P.cs.map Enc.e), .tuple [.int P.lv, .int P.cm, .int P.ld]]
  dp := 4
  ok z := by simp
  inj a b := by cases a; cases b; simp
instance : Enc St where
  e s := .tuple [Enc.e s.mode, .int s.left, Enc.e s.came, .tuple (s.lines.map Enc.e), .tuple (s.shunts.map Enc.e), .int s.siren, .tuple (s.alarms.map Enc.e), .int s.tries, .int s.locked, .tuple (s.used.map Enc.e)]
  dp := 2
  ok z := by simp
  inj a b := by cases a; cases b; simp
def encEv : Ev → D
  | .line z w => .tuple [.str "line", Enc.e z, Enc.e w]
  | .code f d z => .tuple [.str "code", Enc.e f, Enc.e d, Enc.e z]
  | .ticks n => .tuple [.str "ticks", .int n]
instance : Enc Ev where
  e := encEv
  dp := 1
  ok z := by cases z <;> simp [encEv]
  inj a b := by cases a <;> cases b <;> simp [encEv]
@[simp] theorem dp_Plan : Enc.dp Plan = 4 := (rfl)
@[simp] theorem dp_St : Enc.dp St = 2 := (rfl)
@[simp] theorem dp_Ev : Enc.dp Ev = 1 := (rfl)
end Dt

/-! GoB: the object Going in the store. -/
namespace Dw
open PySem
/-! ### attributes, methods -/
def attrV (c i : Nat) (f : Str) : M Vl := getO i >>= fun o => match o with
  | .ins c' fs => okS (decide (c' = c)) () >>= fun _ => match fs.lookup f with
    | some v => pure v
    | none => M.no
  | _ => M.no
def methV (c : Nat) (m : Str) (i : Nat) : M Unit := getO i >>= fun o => match o with
  | .ins c' fs => if c' = c ∧ (fs.lookup m).isSome = false then pure () else M.no
  | _ => M.no
@[simp] theorem getOb_o (i : Nat) : getOb (.o i) = pure i := (rfl)
section
variable {Φ : Nat → List Vl → M Vl} {env : Env}
@[simp] theorem ev_attr {c : Nat} {o : E} {f : Str} : evE Φ (.attr c o f) env = (evE Φ o env >>= fun v => getOb v >>= fun i => attrV c i f) := by
  first | (rw [evE]; done) | (rw [evE]; exact (rfl))
@[simp] theorem ev_meth {c f : Nat} {m : Str} {o : E} {as : Es} : evE Φ (.meth c m f o as) env = (evE Φ o env >>= fun v => getOb v >>= fun i => methV c m i >>= fun _ => evEs Φ as env >>= fun vs => Φ f (v :: vs)) := by
  rw [evE]
  unfold methV
  congr 1
  funext v
  congr 1
  funext i
  rw [M.bind_assoc]
  congr 1
  funext o
  cases o with
  | ins c' fs =>
    dsimp only
    split <;> rfl
  | _ => rfl
@[simp] theorem ev_make {c f : Nat} {as : Es} : evE Φ (.make c f as) env = (evEs Φ as env >>= fun vs => newO (.ins c []) >>= fun i => Φ f (.o i :: vs) >>= fun r => match r with
  | .d .none => pure (.o i)
  | _ => M.no) := by first | (rw [evE]; done) | (rw [evE]; exact (rfl))
@[simp] theorem ex_setAttr {c : Nat} {o e : E} {f : Str} : exS Φ (.setAttr c o f e) env = (evE Φ e env >>= fun v => evE Φ o env >>= fun w => getOb w >>= fun i => setAt c i f v >>= fun _ => pure (.nx, env)) := by rw [exS]
def unpkV (c i : Nat) (fs : List Str) (v : Vl) (env : Env) : M (Fl × Env) := match v with
  | .d (.tuple xs) => do
    let j ← getOb (← getV env i)
    setAts c j fs xs
    pure (.nx, env)
  | _ => M.no
@[simp] theorem unpkV_tup (c i : Nat) (fs : List Str) (xs : List D) (env : Env) : unpkV c i fs (tuV xs) env = (getV env i >>= fun v => getOb v >>= fun j => setAts c j fs xs >>= fun _ => pure (.nx, env)) := (rfl)
@[simp] theorem ex_unpkAt {c i : Nat} {fs : List Str} {e : E} : exS Φ (.unpkAt c i fs e) env = (evE Φ e env >>= fun v => unpkV c i fs v env) := by first | (rw [exS]; done) | (rw [exS]; exact (rfl))
@[simp] theorem ex_whil {n : Nat} {c : E} {b : Ss} : exS Φ (.whil n c b) env = whileL (fun env => evE Φ c env >>= asB) (fun env => exB Φ b env) n env := by rw [exS]
end
@[simp] theorem setAts_nil (c i : Nat) : setAts c i [] [] = pure () := (rfl)
@[simp] theorem setAts_cons (c i : Nat) (f : Str) (fs : List Str) (x : D) (xs : List D) : setAts c i (f :: fs) (x :: xs) = (setAt c i f (.d x) >>= fun _ => setAts c i fs xs) := (rfl)
end Dw
namespace Dt
open PySem Dw
/-! ### the object -/
structure G extends St where
  went : Int
  told : List Td
def gFs (j : Nat) (P : Plan) (g : G) : List (Str × Vl) := [
("plan", V P),
  ("mode", V g.mode),
  ("left", inV g.left),
  ("came", V g.came),
  ("lines", tuV (g.lines.map Enc.e)),
  ("shunts", tuV (g.shunts.map Enc.e)),
  ("siren", inV g.siren),
  ("alarms", tuV (g.alarms.map Enc.e)),
  ("tries", inV g.tries),
  ("locked", inV g.locked),
  ("used", tuV (g.used.map Enc.e)),
  ("went", inV g.went),
  ("told", .o j)]
def putG (i j : Nat) (P : Plan) (g : G) (s : Sto) : Sto := (s.set i (.ins 1 (gFs j P g))).set j (.lst (g.told.map Enc.e))
structure Pl (i j : Nat) (s : Sto) : Prop where
  ne : i ≠ j
  li : i < s.length
  lj : j < s.length
variable {i j : Nat} {P : Plan} {g : G} {s : Sto}
@[simp] theorem putG_len : (putG i j P g s).length = s.length := by simp [putG]
theorem getO_i (h : Pl i j s) : getO i (putG i j P g s) = .ok (.ins 1 (gFs j P g)) (putG i j P g s) := by
  unfold getO putG
  rw [List.getElem?_set_ne (fun e => h.ne e.symm), List.getElem?_set_self h.li]
theorem getO_j (h : Pl i j s) : getO j (putG i j P g s) = .ok (.lst (g.told.map Enc.e)) (putG i j P g s) := by
  unfold getO putG
  rw [List.getElem?_set_self (by simpa using h.lj)]
theorem putG_i (h : Pl i j s) {g' : G} (e : g'.told = g.told) : (putG i j P g s).set i (.ins 1 (gFs j P g')) = putG i j P g' s := by
  unfold putG
  rw [List.set_comm _ _ h.ne.symm, List.set_set, e]
theorem putG_j (h : Pl i j s) {xs : List Td} : (putG i j P g s).set j (.lst (xs.map Enc.e)) = putG i j P {g with told := xs} s := by
  unfold putG
  rw [List.set_set]
  rfl
theorem attr_of {f : Str} {v : Vl} (h : Pl i j s) (e : (gFs j P g).lookup f = some v) : attrV 1 i f (putG i j P g s) = .ok v (putG i j P g s) := by
  unfold attrV
  rw [run_bd, getO_i h, bd_ok]
  simp [e]
theorem meth_of {f : Str} (h : Pl i j s) (e : (gFs j P g).lookup f = none) : methV 1 f i (putG i j P g s) = .ok () (putG i j P g s) := by
  unfold methV
  rw [run_bd, getO_i h, bd_ok]
  simp [e]
theorem set_of {f : Str} {v : Vl} {g' : G} (h : Pl i j s) (e : setAt.putF f v (gFs j P g) = gFs j P g') (t : g'.told = g.told) : setAt 1 i f v (putG i j P g s) = .ok () (putG i j P g' s) := by
  unfold setAt
  rw [run_bd, getO_i h, bd_ok]
  have l : (gFs j P g).length = 13 := rfl
  simp [l, e, setO, putG_i h t]

@[simp] theorem at_plan (h : Pl i j s) : attrV 1 i "plan" (putG i j P g s) = .ok (V P) (putG i j P g s) := attr_of h (by simp [gFs, List.lookup])
@[simp] theorem at_mode (h : Pl i j s) : attrV 1 i "mode" (putG i j P g s) = .ok (V g.mode) (putG i j P g s) := attr_of h (by simp [gFs, List.lookup])
@[simp] theorem at_left (h : Pl i j s) : attrV 1 i "left" (putG i j P g s) = .ok (inV g.left) (putG i j P g s) := attr_of h (by simp [gFs, List.lookup])
@[simp] theorem at_came (h : Pl i j s) : attrV 1 i "came" (putG i j P g s) = .ok (V g.came) (putG i j P g s) := attr_of h (by simp [gFs, List.lookup])
@[simp] theorem at_lines (h : Pl i j s) : attrV 1 i "lines" (putG i j P g s) = .ok (tuV (g.lines.map Enc.e)) (putG i j P g s) := attr_of h (by simp [gFs, List.lookup])
@[simp] theorem at_shunts (h : Pl i j s) : attrV 1 i "shunts" (putG i j P g s) = .ok (tuV (g.shunts.map Enc.e)) (putG i j P g s) := attr_of h (by simp [gFs, List.lookup])
@[simp] theorem at_siren (h : Pl i j s) : attrV 1 i "siren" (putG i j P g s) = .ok (inV g.siren) (putG i j P g s) := attr_of h (by simp [gFs, List.lookup])
@[simp] theorem at_alarms (h : Pl i j s) : attrV 1 i "alarms" (putG i j P g s) = .ok (tuV (g.alarms.map Enc.e)) (putG i j P g s) := attr_of h (by simp [gFs, List.lookup])
@[simp] theorem at_tries (h : Pl i j s) : attrV 1 i "tries" (putG i j P g s) = .ok (inV g.tries) (putG i j P g s) := attr_of h (by simp [gFs, List.lookup])
@[simp] theorem at_locked (h : Pl i j s) : attrV 1 i "locked" (putG i j P g s) = .ok (inV g.locked) (putG i j P g s) := attr_of h (by simp [gFs, List.lookup])
@[simp] theorem at_used (h : Pl i j s) : attrV 1 i "used" (putG i j P g s) = .ok (tuV (g.used.map Enc.e)) (putG i j P g s) := attr_of h (by simp [gFs, List.lookup])
@[simp] theorem at_went (h : Pl i j s) : attrV 1 i "went" (putG i j P g s) = .ok (inV g.went) (putG i j P g s) := attr_of h (by simp [gFs, List.lookup])
@[simp] theorem at_told (h : Pl i j s) : attrV 1 i "told" (putG i j P g s) = .ok (.o j) (putG i j P g s) := attr_of h (by simp [gFs, List.lookup])
@[simp] theorem me_state (h : Pl i j s) : methV 1 "state" i (putG i j P g s) = .ok () (putG i j P g s) := meth_of h (by simp [gFs, List.lookup])
@[simp] theorem me_tell (h : Pl i j s) : methV 1 "tell" i (putG i j P g s) = .ok () (putG i j P g s) := meth_of h (by simp [gFs, List.lookup])
@[simp] theorem me_alarm (h : Pl i j s) : methV 1 "alarm" i (putG i j P g s) = .ok () (putG i j P g s) := meth_of h (by simp [gFs, List.lookup])
@[simp] theorem me_line_of (h : Pl i j s) : methV 1 "line_of" i (putG i j P g s) = .ok () (putG i j P g s) := meth_of h (by simp [gFs, List.lookup])
@[simp] theorem me_line (h : Pl i j s) : methV 1 "line" i (putG i j P g s) = .ok () (putG i j P g s) := meth_of h (by simp [gFs, List.lookup])
@[simp] theorem me_opened (h : Pl i j s) : methV 1 "opened" i (putG i j P g s) = .ok () (putG i j P g s) := meth_of h (by simp [gFs, List.lookup])
@[simp] theorem me_left_behind (h : Pl i j s) : methV 1 "left_behind" i (putG i j P g s) = .ok () (putG i j P g s) := meth_of h (by simp [gFs, List.lookup])
@[simp] theorem me_come_in (h : Pl i j s) : methV 1 "come_in" i (putG i j P g s) = .ok () (putG i j P g s) := meth_of h (by simp [gFs, List.lookup])
@[simp] theorem me_step (h : Pl i j s) : methV 1 "step" i (putG i j P g s) = .ok () (putG i j P g s) := meth_of h (by simp [gFs, List.lookup])
@[simp] theorem me_ticks (h : Pl i j s) : methV 1 "ticks" i (putG i j P g s) = .ok () (putG i j P g s) := meth_of h (by simp [gFs, List.lookup])
@[simp] theorem me_wrong (h : Pl i j s) : methV 1 "wrong" i (putG i j P g s) = .ok () (putG i j P g s) := meth_of h (by simp [gFs, List.lookup])
@[simp] theorem me_first_open (h : Pl i j s) : methV 1 "first_open" i (putG i j P g s) = .ok () (putG i j P g s) := meth_of h (by simp [gFs, List.lookup])
@[simp] theorem me_may_not (h : Pl i j s) : methV 1 "may_not" i (putG i j P g s) = .ok () (putG i j P g s) := meth_of h (by simp [gFs, List.lookup])
@[simp] theorem me_code (h : Pl i j s) : methV 1 "code" i (putG i j P g s) = .ok () (putG i j P g s) := meth_of h (by simp [gFs, List.lookup])
@[simp] theorem me_do (h : Pl i j s) : methV 1 "do" i (putG i j P g s) = .ok () (putG i j P g s) := meth_of h (by simp [gFs, List.lookup])
@[simp] theorem me_happen (h : Pl i j s) : methV 1 "happen" i (putG i j P g s) = .ok () (putG i j P g s) := meth_of h (by simp [gFs, List.lookup])
@[simp] theorem st_mode_off (h : Pl i j s)  : setAt 1 i "mode" (stV "off") (putG i j P g s) = .ok () (putG i j P {g with mode := .off} s) := set_of h (by simp [gFs, setAt.putF, Md.s, Enc.e, oE]) rfl
@[simp] theorem st_mode_leaving (h : Pl i j s)  : setAt 1 i "mode" (stV "leaving") (putG i j P g s) = .ok () (putG i j P {g with mode := .leaving} s) := set_of h (by simp [gFs, setAt.putF, Md.s, Enc.e, oE]) rfl
@[simp] theorem st_mode_on (h : Pl i j s)  : setAt 1 i "mode" (stV "on") (putG i j P g s) = .ok () (putG i j P {g with mode := .on} s) := set_of h (by simp [gFs, setAt.putF, Md.s, Enc.e, oE]) rfl
@[simp] theorem st_mode_coming (h : Pl i j s)  : setAt 1 i "mode" (stV "coming") (putG i j P g s) = .ok () (putG i j P {g with mode := .coming} s) := set_of h (by simp [gFs, setAt.putF, Md.s, Enc.e, oE]) rfl
@[simp] theorem st_left (h : Pl i j s) (n : Int) : setAt 1 i "left" (inV n) (putG i j P g s) = .ok () (putG i j P {g with left := n} s) := set_of h (by simp [gFs, setAt.putF, Md.s, Enc.e, oE]) rfl
@[simp] theorem st_lines (h : Pl i j s) (n : List Ln) : setAt 1 i "lines" (tuV (n.map Enc.e)) (putG i j P g s) = .ok () (putG i j P {g with lines := n} s) := set_of h (by simp [gFs, setAt.putF, Md.s, Enc.e, oE]) rfl
@[simp] theorem st_lines0 (h : Pl i j s)  : setAt 1 i "lines" (tuV []) (putG i j P g s) = .ok () (putG i j P {g with lines := []} s) := set_of h (by simp [gFs, setAt.putF, Md.s, Enc.e, oE]) rfl
@[simp] theorem st_shunts (h : Pl i j s) (n : List Tx) : setAt 1 i "shunts" (tuV (n.map Enc.e)) (putG i j P g s) = .ok () (putG i j P {g with shunts := n} s) := set_of h (by simp [gFs, setAt.putF, Md.s, Enc.e, oE]) rfl
@[simp] theorem st_shunts0 (h : Pl i j s)  : setAt 1 i "shunts" (tuV []) (putG i j P g s) = .ok () (putG i j P {g with shunts := []} s) := set_of h (by simp [gFs, setAt.putF, Md.s, Enc.e, oE]) rfl
@[simp] theorem st_siren (h : Pl i j s) (n : Int) : setAt 1 i "siren" (inV n) (putG i j P g s) = .ok () (putG i j P {g with siren := n} s) := set_of h (by simp [gFs, setAt.putF, Md.s, Enc.e, oE]) rfl
@[simp] theorem st_alarms (h : Pl i j s) (n : List Tx) : setAt 1 i "alarms" (tuV (n.map Enc.e)) (putG i j P g s) = .ok () (putG i j P {g with alarms := n} s) := set_of h (by simp [gFs, setAt.putF, Md.s, Enc.e, oE]) rfl
@[simp] theorem st_alarms0 (h : Pl i j s)  : setAt 1 i "alarms" (tuV []) (putG i j P g s) = .ok () (putG i j P {g with alarms := []} s) := set_of h (by simp [gFs, setAt.putF, Md.s, Enc.e, oE]) rfl
@[simp] theorem st_tries (h : Pl i j s) (n : Int) : setAt 1 i "tries" (inV n) (putG i j P g s) = .ok () (putG i j P {g with tries := n} s) := set_of h (by simp [gFs, setAt.putF, Md.s, Enc.e, oE]) rfl
@[simp] theorem st_locked (h : Pl i j s) (n : Int) : setAt 1 i "locked" (inV n) (putG i j P g s) = .ok () (putG i j P {g with locked := n} s) := set_of h (by simp [gFs, setAt.putF, Md.s, Enc.e, oE]) rfl
@[simp] theorem st_used (h : Pl i j s) (n : List Int) : setAt 1 i "used" (tuV (n.map Enc.e)) (putG i j P g s) = .ok () (putG i j P {g with used := n} s) := set_of h (by simp [gFs, setAt.putF, Md.s, Enc.e, oE]) rfl
@[simp] theorem st_used0 (h : Pl i j s)  : setAt 1 i "used" (tuV []) (putG i j P g s) = .ok () (putG i j P {g with used := []} s) := set_of h (by simp [gFs, setAt.putF, Md.s, Enc.e, oE]) rfl
@[simp] theorem st_went (h : Pl i j s) (n : Int) : setAt 1 i "went" (inV n) (putG i j P g s) = .ok () (putG i j P {g with went := n} s) := set_of h (by simp [gFs, setAt.putF, Md.s, Enc.e, oE]) rfl
@[simp] theorem st_came0 (h : Pl i j s)  : setAt 1 i "came" (nonV) (putG i j P g s) = .ok () (putG i j P {g with came := none} s) := set_of h (by simp [gFs, setAt.putF, Md.s, Enc.e, oE]) rfl
@[simp] theorem st_came1 (h : Pl i j s) (z : Tx) : setAt 1 i "came" (V z) (putG i j P g s) = .ok () (putG i j P {g with came := some z} s) := set_of h (by simp [gFs, setAt.putF, Md.s, Enc.e, oE]) rfl
@[simp] theorem st_alarms1 (h : Pl i j s) (n : List Tx) (z : Tx) : setAt 1 i "alarms" (tuV (n.map Enc.e ++ [Enc.e z])) (putG i j P g s) = .ok () (putG i j P {g with alarms := n ++ [z]} s) := by rw [show n.map Enc.e ++ [Enc.e z] = (n ++ [z]).map Enc.e by simp]; exact st_alarms h _
@[simp] theorem st_linesS (h : Pl i j s) (n : List Ln) (a : Nat) (w : Ln) : setAt 1 i "lines" (tuV ((n.map Enc.e).set a (Enc.e w))) (putG i j P g s) = .ok () (putG i j P {g with lines := n.set a w} s) := by rw [show ((n.map Enc.e).set a (Enc.e w) : List D) = (n.set a w).map Enc.e by simp]; exact st_lines h _
@[simp] theorem st_usedS (h : Pl i j s) (n : List Int) (a : Nat) (w : Int) : setAt 1 i "used" (tuV ((n.map Enc.e).set a (.int w))) (putG i j P g s) = .ok () (putG i j P {g with used := n.set a w} s) := by rw [show ((n.map Enc.e).set a (.int w) : List D) = (n.set a w).map Enc.e by simp]; exact st_used h _
def G.tell (g : G) (w : Wo) (n : Option Tx) : G := {g with told := g.told ++ [⟨g.went, w, n⟩]}
@[simp] theorem mtTy_j (h : Pl i j s) : mtTy (.o j) (putG i j P g s) = .ok () (putG i j P g s) := by
  unfold mtTy
  dsimp only
  rw [run_bd, getO_j h, bd_ok]
  rfl
theorem app_j (h : Pl i j s) (t : Td) (hz : g.told.length < szLine) : mt .append (.o j) [.d (Enc.e t)] (putG i j P g s) = .ok nonV (putG i j P {g with told := g.told ++ [t]} s) := by
  rw [app_run (show (putG i j P g s)[j]? = some (.lst (g.told.map Enc.e)) by unfold putG; rw [List.getElem?_set_self (by simpa using h.lj)]) (by simpa using hz)]
  rw [show g.told.map Enc.e ++ [Enc.e t] = (g.told ++ [t]).map Enc.e by simp, putG_j h]
/-- what is appended, as it stands in the code -/
theorem app_t (h : Pl i j s) (w : Wo) (n : Option Tx) (d : D) (hd : d = .tuple [.int g.went, Enc.e w, Enc.e n]) (hz : g.told.length < szLine) : mt .append (.o j) [.d d] (putG i j P g s) = .ok nonV (putG i j P (g.tell w n) s) := by
  subst hd
  exact app_j h ⟨g.went, w, n⟩ hz
end Dt

/-! GoC: what the methods of Going do, typed. -/
namespace Dt
open PySem Dw
/-! ### places of typed things -/
@[simp] theorem ix_P0 (P : Plan) : ixV (V P) (inV 0) = pure (tuV (P.zs.map Enc.e)) := (rfl)
@[simp] theorem ix_P1 (P : Plan) : ixV (V P) (inV 1) = pure (tuV (P.cs.map Enc.e)) := (rfl)
@[simp] theorem ix_P2 (P : Plan) : ixV (V P) (inV 2) = pure (tuV [.int P.lv, .int P.cm, .int P.ld]) := (rfl)
@[simp] theorem ix_Z0 (z : Zn) : ixV (V z) (inV 0) = pure (V z.nm) := (rfl)
@[simp] theorem ix_Z1 (z : Zn) : ixV (V z) (inV 1) = pure (V z.kd) := (rfl)
@[simp] theorem ix_C0 (z : Cd) : ixV (V z) (inV 0) = pure (V z.fg) := (rfl)
@[simp] theorem ix_C1 (z : Cd) : ixV (V z) (inV 1) = pure (V z.who) := (rfl)
@[simp] theorem ix_C2 (z : Cd) : ixV (V z) (inV 2) = pure (tuV (z.rts.map Enc.e)) := (rfl)
@[simp] theorem ix_C3 (z : Cd) : ixV (V z) (inV 3) = pure (inV z.us) := (rfl)
theorem e_Zn (z : Zn) : Enc.e z = PyData.tuple [Enc.e z.nm, Enc.e z.kd] := (rfl)
theorem e_Cd (z : Cd) : Enc.e z = PyData.tuple [Enc.e z.fg, Enc.e z.who, .tuple (z.rts.map Enc.e), .int z.us] := (rfl)
theorem e_Td (z : Td) : Enc.e z = PyData.tuple [.int z.t, Enc.e z.w, Enc.e z.n] := (rfl)
/-- a typed thing against a text of the code -/
@[simp] theorem eqv_Tx (t : Tx) (x : Str) : PyData.eqv (Enc.e t) (.str x) = decide (t.x = x) := by show PyData.eqv (.str t.x) _ = _; simp
@[simp] theorem eqv_Tx' (t : Tx) (x : Str) : PyData.eqv (.str x) (Enc.e t) = decide (x = t.x) := by show PyData.eqv _ (.str t.x) = _; simp
@[simp] theorem eqv_Md (m : Md) (x : Str) : PyData.eqv (Enc.e m) (.str x) = decide (m.s = x) := by show PyData.eqv (.str m.s) _ = _; simp
@[simp] theorem eqv_Ln (m : Ln) (x : Str) : PyData.eqv (Enc.e m) (.str x) = decide (m.s = x) := by show PyData.eqv (.str m.s) _ = _; simp
@[simp] theorem eqv_Kd (m : Kd) (x : Str) : PyData.eqv (Enc.e m) (.str x) = decide (m.s = x) := by show PyData.eqv (.str m.s) _ = _; simp
@[simp] theorem eqv_Dd (m : Dd) (x : Str) : PyData.eqv (Enc.e m) (.str x) = decide (m.s = x) := by show PyData.eqv (.str m.s) _ = _; simp
@[simp] theorem eqv_Wo (m : Wo) (x : Str) : PyData.eqv (Enc.e m) (.str x) = decide (m.s = x) := by show PyData.eqv (.str m.s) _ = _; simp
@[simp] theorem Mds_off (m : Md) : (m.s = Str.ofString "off") = (m = .off) := by cases m <;> simp [Md.s]
@[simp] theorem Mds_leaving (m : Md) : (m.s = Str.ofString "leaving") = (m = .leaving) := by cases m <;> simp [Md.s]
@[simp] theorem Mds_on (m : Md) : (m.s = Str.ofString "on") = (m = .on) := by cases m <;> simp [Md.s]
@[simp] theorem Mds_coming (m : Md) : (m.s = Str.ofString "coming") = (m = .coming) := by cases m <;> simp [Md.s]
@[simp] theorem Lns_shut (m : Ln) : (m.s = Str.ofString "shut") = (m = .shut) := by cases m <;> simp [Ln.s]
@[simp] theorem Lns_opn (m : Ln) : (m.s = Str.ofString "open") = (m = .opn) := by cases m <;> simp [Ln.s]
@[simp] theorem Lns_cut (m : Ln) : (m.s = Str.ofString "cut") = (m = .cut) := by cases m <;> simp [Ln.s]
@[simp] theorem Kds_day (m : Kd) : (m.s = Str.ofString "day") = (m = .day) := by cases m <;> simp [Kd.s]
@[simp] theorem Kds_inner (m : Kd) : (m.s = Str.ofString "inner") = (m = .inner) := by cases m <;> simp [Kd.s]
@[simp] theorem Kds_once (m : Kd) : (m.s = Str.ofString "once") = (m = .once) := by cases m <;> simp [Kd.s]
@[simp] theorem Kds_way (m : Kd) : (m.s = Str.ofString "way") = (m = .way) := by cases m <;> simp [Kd.s]
@[simp] theorem Dds_set (m : Dd) : (m.s = Str.ofString "set") = (m = .set) := by cases m <;> simp [Dd.s]
@[simp] theorem Dds_unset (m : Dd) : (m.s = Str.ofString "unset") = (m = .unset) := by cases m <;> simp [Dd.s]
@[simp] theorem Dds_shunt (m : Dd) : (m.s = Str.ofString "shunt") = (m = .shunt) := by cases m <;> simp [Dd.s]
@[simp] theorem Dds_free (m : Dd) : (m.s = Str.ofString "free") = (m = .free) := by cases m <;> simp [Dd.s]
/-- among texts of the code -/
@[simp] theorem isIn_nil (x : D) : isIn x [] = false := (rfl)
@[simp] theorem isIn_cons (x y : D) (ys : List D) : isIn x (y :: ys) = (PyData.eqv y x || isIn x ys) := (rfl)
@[simp] theorem eqv_sMd (m : Md) (x : Str) : PyData.eqv (.str x) (Enc.e m) = decide (m.s = x) := by show PyData.eqv _ (.str m.s) = _; simp [eq_comm]
@[simp] theorem eqv_sLn (m : Ln) (x : Str) : PyData.eqv (.str x) (Enc.e m) = decide (m.s = x) := by show PyData.eqv _ (.str m.s) = _; simp [eq_comm]
@[simp] theorem eqv_sKd (m : Kd) (x : Str) : PyData.eqv (.str x) (Enc.e m) = decide (m.s = x) := by show PyData.eqv _ (.str m.s) = _; simp [eq_comm]
@[simp] theorem eqv_sDd (m : Dd) (x : Str) : PyData.eqv (.str x) (Enc.e m) = decide (m.s = x) := by show PyData.eqv _ (.str m.s) = _; simp [eq_comm]
@[simp] theorem eqv_sWo (m : Wo) (x : Str) : PyData.eqv (.str x) (Enc.e m) = decide (m.s = x) := by show PyData.eqv _ (.str m.s) = _; simp [eq_comm]
/-! ### typed -/
def Plan.names (P : Plan) : List Tx := P.zs.map (·.nm)
def Plan.idx (P : Plan) (z : Tx) : Nat := P.names.idxOf z
def Plan.kind (P : Plan) (z : Tx) : Kd := ((P.zs.find? (·.nm = z)).map (·.kd)).getD .day
variable {i j : Nat} {P : Plan} {g : G} {s : Sto}
@[simp] theorem names_map (P : Plan) : (P.zs.map fun a => (Enc.e a.nm : D)) = P.names.map Enc.e := by simp [Plan.names]
theorem names_ok {k : Nat} (hz : P.zs.length ≤ 16777216) : Phi fns (k + 1) 11 [V P] s = .ok (liV (P.names.map Enc.e)) s := by
  rw [run_of (F := f_names_of) rfl rfl]
  simp [f_names_of, b_names_of, enter, hz]
@[simp] theorem names_call {k : Nat} (hz : P.zs.length ≤ 16777216) : pureRun (Phi fns (k + 1) 11 [V P]) = pure (liV (P.names.map Enc.e)) := pureRun_eq (names_ok hz)
theorem firstAt_map {α : Type} [DecidableEq α] [Enc α] (a : α) : ∀ (as : List α) (n : Nat), firstAt (Enc.e a) (as.map Enc.e) n = if a ∈ as then some (n + as.idxOf a) else none
  | [], n => by simp [firstAt]
  | b :: bs, n => by
    simp only [List.map_cons, firstAt, eqv_e, firstAt_map a bs (n + 1), List.mem_cons, List.idxOf_cons]
    by_cases h : b = a
    · simp [h]
    · have h' : ¬ a = b := fun e => h e.symm
      have hb : (b == a) = false := by simp [h]
      rw [hb]
      simp only [h', false_or]
      rw [if_neg (by simp [h])]
      split
      · simp; omega
      · rfl
@[simp] theorem index_ok {α : Type} [DecidableEq α] [Enc α] (a : α) (as : List α) (h : a ∈ as) (hd : Enc.dp α ≤ 60) : mt .index (liV (as.map Enc.e)) [V a] = pure (inV (as.idxOf a : Nat)) := by
  show (asD (V a) >>= fun x => lItems (liV (as.map Enc.e)) >>= fun xs => okS (shp x && shp (.list xs)) () >>= fun _ => match firstAt x xs 0 with | some n => (pure (inV n) : M Vl) | none => M.no) = _
  have h1 : shp (Enc.e a) = true := by rw [shp_okB]; exact okB_e 64 a (by omega)
  have h2 : shp (.list (as.map Enc.e)) = true := by rw [shp_okB, show (64 : Nat) = 63 + 1 from rfl, okB_lst]; exact all_okB 63 as (by omega)
  simp only [asD_d, M.pure_bind, lItems, h1, h2, firstAt_map, h, if_true, Bool.and_self, okS_true, Nat.zero_add]
@[simp] theorem mtTy_lst (xs : List D) : mtTy (liV xs) = pure () := (rfl)
/-! ### the object's parts -/
def lineAt (P : Plan) (ls : List Ln) (z : Tx) : Ln := ls.getD (P.idx z) .shut
structure Bas (P : Plan) (ls : List Ln) (us : List Int) (as ss : List Tx) : Prop where
  ll : ls.length = P.zs.length
  ul : us.length = P.cs.length
  an : as.Nodup
  am : ∀ z ∈ as, z ∈ P.names
  sn : ss.Nodup
  sm : ∀ z ∈ ss, z ∈ P.names
@[simp] abbrev G.bas (P : Plan) (g : G) : Prop := Bas P g.lines g.used g.alarms g.shunts
structure GoodP (P : Plan) : Prop where
  z1 : 1 ≤ P.zs.length
  z8 : P.zs.length ≤ 8
  c1 : 1 ≤ P.cs.length
  c6 : P.cs.length ≤ 6
  nd : P.names.Nodup
  fd : (P.cs.map (·.fg)).Nodup
  lv : 0 ≤ P.lv
  cm : 0 ≤ P.cm
  ld : 1 ≤ P.ld
  us : ∀ c ∈ P.cs, 0 ≤ c.us
  lv1 : P.lv ≤ 60
  cm1 : P.cm ≤ 60
  ld1 : P.ld ≤ 300
theorem GoodP.zsz (h : GoodP P) : P.zs.length ≤ 16777216 := Nat.le_trans h.z8 (by decide)
theorem names_len : P.names.length = P.zs.length := by simp [Plan.names]
theorem idx_lt {z : Tx} (h : z ∈ P.names) : P.idx z < P.zs.length := by
  rw [← names_len]; exact List.idxOf_lt_length_of_mem h
theorem sub_len {α : Type} [DecidableEq α] : ∀ (l m : List α), l.Nodup → (∀ x ∈ l, x ∈ m) → l.length ≤ m.length
  | [], m, _, _ => by simp
  | a :: l, m, nd, h => by
    have nd := List.nodup_cons.mp nd
    have ha := h a List.mem_cons_self
    have := sub_len l (m.erase a) nd.2 fun x hx => by
      have hx' := h x (List.mem_cons_of_mem _ hx)
      have : x ≠ a := fun e => nd.1 (e ▸ hx)
      exact (List.mem_erase_of_ne this).mpr hx'
    rw [List.length_erase_of_mem ha] at this
    have : 0 < m.length := List.length_pos_of_mem ha
    simp; omega
theorem Bas.al8 {ls : List Ln} {us : List Int} {as ss : List Tx} (h : Bas P ls us as ss) (p : GoodP P) : as.length ≤ 8 := by
  have := sub_len as P.names h.an h.am
  rw [names_len] at this
  have := p.z8; omega
theorem Bas.sl8 {ls : List Ln} {us : List Int} {as ss : List Tx} (h : Bas P ls us as ss) (p : GoodP P) : ss.length ≤ 8 := by
  have := sub_len ss P.names h.sn h.sm
  rw [names_len] at this
  have := p.z8; omega
theorem Bas.more {ls : List Ln} {us : List Int} {as ss : List Tx} (h : Bas P ls us as ss) {z : Tx} (hz : z ∈ P.names) (hn : z ∉ as) : Bas P ls us (as ++ [z]) ss := by
  refine ⟨h.ll, h.ul, ?_, fun x hx => ?_, h.sn, h.sm⟩
  · rw [List.nodup_append]
    exact ⟨h.an, by simp, fun a ha b hb e => by simp at hb; subst hb; exact hn (e ▸ ha)⟩
  · rcases List.mem_append.mp hx with q | q
    · exact h.am x q
    · simp at q; rw [q]; exact hz
/-! ### telling, alarms -/
@[simp] theorem tell_st (w : Wo) (n : Option Tx) : (g.tell w n).toSt = g.toSt := (rfl)
@[simp] theorem tell_went (w : Wo) (n : Option Tx) : (g.tell w n).went = g.went := (rfl)
@[simp] theorem tell_told (w : Wo) (n : Option Tx) : (g.tell w n).told = g.told ++ [⟨g.went, w, n⟩] := (rfl)
def G.alarm (P : Plan) (g : G) (z : Tx) : G := if z ∈ g.alarms then {g with siren := P.ld} else ({g with siren := P.ld, alarms := g.alarms ++ [z]} : G).tell .alarm (some z)
theorem alarm_bas (b : g.bas P) {z : Tx} (hz : z ∈ P.names) : (g.alarm P z).bas P := by
  unfold G.alarm
  split
  · exact b
  · exact b.more hz ‹_›
theorem alarm_len (z : Tx) : (g.alarm P z).told.length ≤ g.told.length + 1 := by
  unfold G.alarm
  split <;> simp
@[simp] theorem alarm_lines (z : Tx) : (g.alarm P z).lines = g.lines := by unfold G.alarm; split <;> rfl
@[simp] theorem alarm_used (z : Tx) : (g.alarm P z).used = g.used := by unfold G.alarm; split <;> rfl
@[simp] theorem alarm_shunts (z : Tx) : (g.alarm P z).shunts = g.shunts := by unfold G.alarm; split <;> rfl
@[simp] theorem alarm_mode (z : Tx) : (g.alarm P z).mode = g.mode := by unfold G.alarm; split <;> rfl
@[simp] theorem alarm_left (z : Tx) : (g.alarm P z).left = g.left := by unfold G.alarm; split <;> rfl
@[simp] theorem alarm_came (z : Tx) : (g.alarm P z).came = g.came := by unfold G.alarm; split <;> rfl
@[simp] theorem alarm_tries (z : Tx) : (g.alarm P z).tries = g.tries := by unfold G.alarm; split <;> rfl
@[simp] theorem alarm_locked (z : Tx) : (g.alarm P z).locked = g.locked := by unfold G.alarm; split <;> rfl
@[simp] theorem alarm_went (z : Tx) : (g.alarm P z).went = g.went := by unfold G.alarm; split <;> rfl
/-! ### lines -/
def G.opened (P : Plan) (g : G) (z : Tx) (kd : Kd) : G :=
  if kd = .once ∨ g.mode = .on ∧ kd = .inner then g.alarm P z
  else if g.mode = .on ∧ P.cm = 0 then g.alarm P z
  else if g.mode = .on then ({g with mode := .coming, left := P.cm, came := some z} : G).tell .coming (some z)
  else g
theorem opened_bas (b : g.bas P) {z : Tx} (hz : z ∈ P.names) (kd : Kd) : (g.opened P z kd).bas P := by
  unfold G.opened
  split
  · exact alarm_bas b hz
  · split
    · exact alarm_bas b hz
    · split
      · exact b
      · exact b
theorem opened_len (z : Tx) (kd : Kd) : (g.opened P z kd).told.length ≤ g.told.length + 1 := by
  unfold G.opened
  split
  · exact alarm_len z
  · split
    · exact alarm_len z
    · split
      · simp
      · simp
def G.line (P : Plan) (g : G) (z : Tx) (w : Ln) : G :=
  if w = lineAt P g.lines z then g
  else
    let g1 : G := {g with lines := g.lines.set (P.idx z) w}
    if w = .shut then (if lineAt P g.lines z = .cut then g1.tell .mended (some z) else g1)
    else if z ∈ g.shunts then g1
    else if P.kind z = .day then g1.alarm P z
    else if g.mode = .off then (if w = .cut then g1.tell .fault (some z) else g1)
    else if w = .cut then g1.alarm P z
    else g1.opened P z (P.kind z)
theorem Bas.set {ls : List Ln} {us : List Int} {as ss : List Tx} (b : Bas P ls us as ss) (n : Nat) (w : Ln) : Bas P (ls.set n w) us as ss := ⟨by simp [b.ll], b.ul, b.an, b.am, b.sn, b.sm⟩
theorem line_bas (b : g.bas P) {z : Tx} (hz : z ∈ P.names) (w : Ln) : (g.line P z w).bas P := by
  have b1 : ({g with lines := g.lines.set (P.idx z) w} : G).bas P := b.set _ _
  unfold G.line
  split
  · exact b
  · dsimp only
    repeat' split
    all_goals first | exact b1 | exact alarm_bas b1 hz | exact opened_bas b1 hz _
theorem line_len (z : Tx) (w : Ln) : (g.line P z w).told.length ≤ g.told.length + 1 := by
  unfold G.line
  split
  · simp
  · dsimp only
    repeat' split
    all_goals first | (simp; done) | exact alarm_len z | exact opened_len z _
theorem set_map {α : Type} [DecidableEq α] [Enc α] (ls : List α) (n : Nat) (w : α) (h : n < ls.length) : List.take n (ls.map Enc.e) ++ Enc.e w :: List.drop (n + 1) (ls.map Enc.e) = (ls.set n w).map (Enc.e : α → D) := by
  rw [List.map_set, List.set_eq_take_append_cons_drop, if_pos (by simpa using h)]
end Dt

/-! GoD: ticks, codes. -/
namespace Dt
open PySem Dw
variable {i j : Nat} {P : Plan} {g : G} {s : Sto}
/-! ### the time to leave is over -/
def G.ringIf (P : Plan) (g : G) (z : Zn) : G := if (z.kd = .way ∨ z.kd = .inner) ∧ lineAt P g.lines z.nm ≠ .shut ∧ z.nm ∉ g.shunts then g.alarm P z.nm else g
def G.leftBehind (P : Plan) (g : G) : G := P.zs.foldl (G.ringIf P) (({g with mode := .on} : G).tell .on none)
theorem ringIf_bas (b : g.bas P) {z : Zn} (hz : z ∈ P.zs) : (g.ringIf P z).bas P := by
  unfold G.ringIf
  split
  · exact alarm_bas b (List.mem_map.mpr ⟨z, hz, rfl⟩)
  · exact b
theorem ringIf_len (z : Zn) : (g.ringIf P z).told.length ≤ g.told.length + 1 := by
  unfold G.ringIf
  split
  · exact alarm_len _
  · omega
theorem rings_bas : ∀ (zs : List Zn) {g : G}, g.bas P → (∀ z ∈ zs, z ∈ P.zs) → (zs.foldl (G.ringIf P) g).bas P
  | [], _, b, _ => b
  | z :: zs, _, b, h => rings_bas zs (ringIf_bas b (h z List.mem_cons_self)) fun y hy => h y (List.mem_cons_of_mem _ hy)
theorem rings_len : ∀ (zs : List Zn) {g : G}, (zs.foldl (G.ringIf P) g).told.length ≤ g.told.length + zs.length
  | [], _ => by simp
  | z :: zs, g => by
    have h1 := rings_len zs (g := g.ringIf P z)
    have h2 := ringIf_len (P := P) (g := g) z
    simp only [List.foldl_cons, List.length_cons]
    omega
theorem leftBehind_bas (b : g.bas P) : (g.leftBehind P).bas P := rings_bas P.zs (g := ({g with mode := .on} : G).tell .on none) b fun _ h => h
theorem leftBehind_len (p : GoodP P) : (g.leftBehind P).told.length ≤ g.told.length + 9 := by
  have := rings_len (P := P) P.zs (g := ({g with mode := .on} : G).tell .on none)
  have := p.z8
  simp at this ⊢
  unfold G.leftBehind
  simp at *
  omega
/-! ### ticks -/
def G.comeIn (P : Plan) (g : G) (z : Tx) : G := ({g with mode := .on, came := none} : G).alarm P z
theorem comeIn_bas (b : g.bas P) {z : Tx} (hz : z ∈ P.names) : (g.comeIn P z).bas P := alarm_bas (g := {g with mode := .on, came := none}) b hz
theorem comeIn_len (z : Tx) : (g.comeIn P z).told.length ≤ g.told.length + 1 := alarm_len (g := {g with mode := .on, came := none}) z
def mx (x : Int) : Int := if 0 < x then x else 0
def wait (m : Md) : Bool := m = .leaving ∨ m = .coming
def G.pass (g : G) (n : Int) : G := {g with went := g.went + n, locked := mx (g.locked - n), siren := mx (g.siren - n)}
def G.step (P : Plan) (g : G) (n : Int) : G :=
  if wait g.mode then
    if g.left - n = 0 then
      if g.mode = .leaving then ({g.pass n with left := 0} : G).leftBehind P
      else ({g.pass n with left := 0} : G).comeIn P (g.came.getD ⟨"", by simp⟩)
    else {g.pass n with left := g.left - n}
  else g.pass n
theorem step_bas (b : g.bas P) (n : Int) (hc : g.mode = .coming → ∃ z, g.came = some z ∧ z ∈ P.names) : (g.step P n).bas P := by
  unfold G.step
  split
  · split
    · split
      · exact leftBehind_bas (g := {g.pass n with left := 0}) b
      · have hm : g.mode = .coming := by
          have : wait g.mode = true := ‹_›
          simp [wait] at this
          rcases this with h | h
          · exact absurd h ‹_›
          · exact h
        obtain ⟨z, h1, h2⟩ := hc hm
        rw [h1]
        exact comeIn_bas (g := {g.pass n with left := 0}) b h2
    · exact b
  · exact b
theorem step_len (p : GoodP P) (n : Int) : (g.step P n).told.length ≤ g.told.length + 9 := by
  unfold G.step
  split
  · split
    · split
      · exact leftBehind_len (g := {g.pass n with left := 0}) p
      · have := comeIn_len (P := P) (g := {g.pass n with left := 0}) (g.came.getD ⟨"", by simp⟩)
        exact Nat.le_trans this (Nat.add_le_add_left (by decide) _)
    · exact Nat.le_add_right _ _
  · exact Nat.le_add_right _ _
end Dt

/-! GoE: rows of ticks, codes. -/
namespace Dt
open PySem Dw
variable {i j : Nat} {P : Plan} {g : G} {s : Sto}
@[simp] theorem ringIf_mode (z : Zn) : (g.ringIf P z).mode = g.mode := by unfold G.ringIf; split <;> simp
@[simp] theorem ringIf_left (z : Zn) : (g.ringIf P z).left = g.left := by unfold G.ringIf; split <;> simp
@[simp] theorem ringIf_came (z : Zn) : (g.ringIf P z).came = g.came := by unfold G.ringIf; split <;> simp
@[simp] theorem ringIf_lines (z : Zn) : (g.ringIf P z).lines = g.lines := by unfold G.ringIf; split <;> simp
@[simp] theorem ringIf_shunts (z : Zn) : (g.ringIf P z).shunts = g.shunts := by unfold G.ringIf; split <;> simp
@[simp] theorem ringIf_used (z : Zn) : (g.ringIf P z).used = g.used := by unfold G.ringIf; split <;> simp
@[simp] theorem ringIf_tries (z : Zn) : (g.ringIf P z).tries = g.tries := by unfold G.ringIf; split <;> simp
@[simp] theorem ringIf_locked (z : Zn) : (g.ringIf P z).locked = g.locked := by unfold G.ringIf; split <;> simp
@[simp] theorem ringIf_went (z : Zn) : (g.ringIf P z).went = g.went := by unfold G.ringIf; split <;> simp
@[simp] theorem rings_mode : ∀ (zs : List Zn) (g : G), (zs.foldl (G.ringIf P) g).mode = g.mode
  | [], _ => rfl
  | z :: zs, g => by simp [rings_mode zs]
@[simp] theorem rings_left : ∀ (zs : List Zn) (g : G), (zs.foldl (G.ringIf P) g).left = g.left
  | [], _ => rfl
  | z :: zs, g => by simp [rings_left zs]
@[simp] theorem rings_came : ∀ (zs : List Zn) (g : G), (zs.foldl (G.ringIf P) g).came = g.came
  | [], _ => rfl
  | z :: zs, g => by simp [rings_came zs]
@[simp] theorem rings_lines : ∀ (zs : List Zn) (g : G), (zs.foldl (G.ringIf P) g).lines = g.lines
  | [], _ => rfl
  | z :: zs, g => by simp [rings_lines zs]
@[simp] theorem rings_shunts : ∀ (zs : List Zn) (g : G), (zs.foldl (G.ringIf P) g).shunts = g.shunts
  | [], _ => rfl
  | z :: zs, g => by simp [rings_shunts zs]
@[simp] theorem rings_used : ∀ (zs : List Zn) (g : G), (zs.foldl (G.ringIf P) g).used = g.used
  | [], _ => rfl
  | z :: zs, g => by simp [rings_used zs]
@[simp] theorem rings_tries : ∀ (zs : List Zn) (g : G), (zs.foldl (G.ringIf P) g).tries = g.tries
  | [], _ => rfl
  | z :: zs, g => by simp [rings_tries zs]
@[simp] theorem rings_locked : ∀ (zs : List Zn) (g : G), (zs.foldl (G.ringIf P) g).locked = g.locked
  | [], _ => rfl
  | z :: zs, g => by simp [rings_locked zs]
@[simp] theorem rings_went : ∀ (zs : List Zn) (g : G), (zs.foldl (G.ringIf P) g).went = g.went
  | [], _ => rfl
  | z :: zs, g => by simp [rings_went zs]
@[simp] theorem lb_mode : (g.leftBehind P).mode = .on := by simp [G.leftBehind]
@[simp] theorem lb_left : (g.leftBehind P).left = g.left := by simp [G.leftBehind]
@[simp] theorem lb_came : (g.leftBehind P).came = g.came := by simp [G.leftBehind]
@[simp] theorem lb_lines : (g.leftBehind P).lines = g.lines := by simp [G.leftBehind]
@[simp] theorem lb_shunts : (g.leftBehind P).shunts = g.shunts := by simp [G.leftBehind]
@[simp] theorem lb_used : (g.leftBehind P).used = g.used := by simp [G.leftBehind]
@[simp] theorem lb_tries : (g.leftBehind P).tries = g.tries := by simp [G.leftBehind]
@[simp] theorem lb_locked : (g.leftBehind P).locked = g.locked := by simp [G.leftBehind]
@[simp] theorem lb_went : (g.leftBehind P).went = g.went := by simp [G.leftBehind]
@[simp] theorem ci_mode (z : Tx) : (g.comeIn P z).mode = .on := by simp [G.comeIn]
@[simp] theorem ci_left (z : Tx) : (g.comeIn P z).left = g.left := by simp [G.comeIn]
@[simp] theorem ci_came (z : Tx) : (g.comeIn P z).came = none := by simp [G.comeIn]
@[simp] theorem ci_lines (z : Tx) : (g.comeIn P z).lines = g.lines := by simp [G.comeIn]
@[simp] theorem ci_shunts (z : Tx) : (g.comeIn P z).shunts = g.shunts := by simp [G.comeIn]
@[simp] theorem ci_used (z : Tx) : (g.comeIn P z).used = g.used := by simp [G.comeIn]
@[simp] theorem ci_tries (z : Tx) : (g.comeIn P z).tries = g.tries := by simp [G.comeIn]
@[simp] theorem ci_locked (z : Tx) : (g.comeIn P z).locked = g.locked := by simp [G.comeIn]
@[simp] theorem ci_went (z : Tx) : (g.comeIn P z).went = g.went := by simp [G.comeIn]
/-- what a waiting box has -/
structure Wt (P : Plan) (g : St) : Prop where
  l : wait g.mode = true → 0 < g.left
  c : g.mode = .coming → ∃ z, g.came = some z ∧ z ∈ P.names
def G.ticks (P : Plan) (g : G) (n : Int) : G :=
  if 0 < n then
    if wait g.mode = true ∧ g.left ≤ n then (if 0 < n - g.left then (g.step P g.left).step P (n - g.left) else g.step P g.left)
    else g.step P n
  else g
theorem step_over (h : wait g.mode = true) : (g.step P g.left).mode = .on := by
  unfold G.step
  rw [if_pos h, if_pos (by omega)]
  split <;> simp
theorem step_not (h : wait g.mode = false) (n : Int) : g.step P n = g.pass n := by
  unfold G.step
  rw [h]
  rfl
theorem step_part (h : wait g.mode = true) {n : Int} (hn : g.left - n ≠ 0) : g.step P n = {g.pass n with left := g.left - n} := by
  unfold G.step
  rw [if_pos h, if_neg hn]
theorem ticks_zero {n : Int} (h : n ≤ 0) : g.ticks P n = g := by
  unfold G.ticks
  rw [if_neg (by omega)]
def now (g : G) (n : Int) : Int := if wait g.mode = true then (if g.left < n then g.left else n) else n
def tkM (g : G) (n : Int) : Nat := if n ≤ 0 then 0 else if wait g.mode = true then 2 else 1
theorem ticks_turn (w : Wt P g.toSt) {n : Int} (hn : 0 < n) : (g.step P (now g n)).ticks P (n - now g n) = g.ticks P n ∧ Wt P (g.step P (now g n)).toSt ∧ 0 ≤ n - now g n ∧ tkM (g.step P (now g n)) (n - now g n) < tkM g n := by
  cases hw : wait g.mode with
  | false =>
    have e : now g n = n := by unfold now; rw [hw]; rfl
    rw [e, ticks_zero (by omega)]
    refine ⟨?_, ?_, by omega, ?_⟩
    · unfold G.ticks
      rw [if_pos hn, hw]
      simp
    · rw [step_not hw]
      exact ⟨w.l, w.c⟩
    · unfold tkM
      rw [if_pos (by omega), if_neg (by omega), hw]
      simp
  | true =>
    have hl := w.l hw
    by_cases hc : g.left ≤ n
    · have e : now g n = g.left := by
        unfold now
        rw [hw]
        simp
        omega
      have e0 : n - now g n = n - g.left := by rw [e]
      rw [e]
      have m := step_over (P := P) hw
      have nw : wait (g.step P g.left).mode = false := by rw [m]; rfl
      refine ⟨?_, ⟨fun h => absurd h (by rw [nw]; simp), fun h => absurd h (by rw [m]; simp)⟩, by omega, ?_⟩
      · by_cases hz : 0 < n - g.left
        · conv => rhs; unfold G.ticks
          rw [if_pos hn, hw, if_pos ⟨rfl, hc⟩, if_pos hz]
          unfold G.ticks
          rw [if_pos hz, nw]
          simp
        · rw [ticks_zero (by omega)]
          unfold G.ticks
          rw [if_pos hn, hw, if_pos ⟨rfl, hc⟩, if_neg hz]
      · unfold tkM
        rw [nw, hw, if_neg (show ¬ n ≤ 0 by omega)]
        split <;> simp
    · have e : now g n = n := by
        unfold now
        rw [hw]
        simp
        omega
      rw [e, ticks_zero (by omega)]
      refine ⟨?_, ?_, by omega, ?_⟩
      · unfold G.ticks
        rw [if_pos hn, if_neg (fun h => hc h.2)]
      · rw [step_part hw (by omega)]
        exact ⟨fun _ => by show 0 < g.left - n; omega, w.c⟩
      · unfold tkM
        rw [if_pos (by omega), if_neg (by omega), hw]
        simp
theorem ticks_len (p : GoodP P) (n : Int) : (g.ticks P n).told.length ≤ g.told.length + 18 := by
  unfold G.ticks
  repeat' split
  · have h1 := step_len p g.left (g := g)
    have h2 := step_len p (n - g.left) (g := g.step P g.left)
    omega
  · have h1 := step_len p g.left (g := g)
    omega
  · have h1 := step_len p n (g := g)
    omega
  · omega
/-! ### codes -/
def G.wrong (P : Plan) (g : G) : G :=
  if g.tries + 1 = 3 then ({g.tell .wrong none with tries := 0, locked := 90, siren := P.ld} : G).tell .attack none
  else {g.tell .wrong none with tries := g.tries + 1}
theorem wrong_len : (g.wrong P).told.length ≤ g.told.length + 2 := by
  unfold G.wrong
  split <;> simp
def mustShut (P : Plan) (ls : List Ln) (sh : List Tx) (z : Zn) : Bool := decide ((z.kd = .once ∨ z.kd = .day) ∧ lineAt P ls z.nm ≠ .shut ∧ z.nm ∉ sh)
def firstOpen (P : Plan) (ls : List Ln) (sh : List Tx) : Option Tx := (P.zs.find? (mustShut P ls sh)).map (·.nm)
def mayNot (P : Plan) (m : Md) (sh : List Tx) (d : Dd) (z : Option Tx) : Bool := match d, z with
  | .unset, _ => false
  | .set, _ => decide (m ≠ .off)
  | .shunt, some z => decide (m ≠ .off ∨ P.kind z = .day ∨ z ∈ sh)
  | .free, some z => decide (m ≠ .off ∨ z ∉ sh)
  | _, none => decide (m ≠ .off)
/-- a zone that goes with a deed -/
def zfit (P : Plan) : Dd → Option Tx → Prop
  | .set, z => z = none
  | .unset, z => z = none
  | _, z => ∃ x, z = some x ∧ x ∈ P.names
theorem e_set : (Enc.e Dd.set : D) = .str "set" := (rfl)
theorem e_unset : (Enc.e Dd.unset : D) = .str "unset" := (rfl)
theorem e_shunt : (Enc.e Dd.shunt : D) = .str "shunt" := (rfl)
theorem e_free : (Enc.e Dd.free : D) = .str "free" := (rfl)
def Plan.codeAt (P : Plan) (f : Tx) : Option Nat := (P.cs.zipIdx.find? fun p => decide (p.1.fg = f)).map (·.2)
def oN : Option Nat → D
  | some n => .int n
  | none => .none
@[simp] theorem isNn_N (o : Option Nat) : isNn (oN o) = o.isNone := by cases o <;> rfl
theorem codeAt_some {f : Tx} {n : Nat} (h : P.codeAt f = some n) : ∃ c, P.cs[n]? = some c ∧ c.fg = f := by
  unfold Plan.codeAt at h
  rw [Option.map_eq_some_iff] at h
  obtain ⟨⟨c, m⟩, h1, rfl⟩ := h
  have h2 := List.mem_of_find?_eq_some h1
  have h3 := List.find?_some h1
  rw [List.mem_zipIdx_iff_getElem?] at h2
  exact ⟨c, h2, by simpa using h3⟩
theorem codeAt_lt {f : Tx} {n : Nat} (h : P.codeAt f = some n) : n < P.cs.length := by
  obtain ⟨c, h1, _⟩ := codeAt_some h
  exact (List.getElem?_eq_some_iff.mp h1).1
/-! ### deeds -/
theorem shp_e {α : Type} [DecidableEq α] [Enc α] (a : α) (hd : Enc.dp α ≤ 64) : shp (Enc.e a) = true := by rw [shp_okB]; exact okB_e 64 a hd
def leT (a b : Tx) : Bool := decide (a.x.cps.toList ≤ b.x.cps.toList)
def sortT (l : List Tx) : List Tx := l.mergeSort leT
@[simp] theorem sortD_map (l : List Tx) : sortD (l.map Enc.e) = (sortT l).map Enc.e := by
  unfold sortD sortT
  rw [List.map_mergeSort]
  intro a _ b _
  show decide (a.x.cps.toList ≤ b.x.cps.toList) = (!PySem.W.dataLt (.str b.x) (.str a.x))
  rw [PySem.W.dataLt_str]
  by_cases h : b.x.cps.toList < a.x.cps.toList
  · have h' : ¬ a.x.cps.toList ≤ b.x.cps.toList := fun q => List.not_lt.mpr q h
    simp [h, h']
  · have h' : a.x.cps.toList ≤ b.x.cps.toList := List.not_lt.mp h
    simp [h, h']
@[simp] theorem sortD_map1 (l : List Tx) (z : Tx) : sortD (l.map Enc.e ++ [Enc.e z]) = (sortT (l ++ [z])).map Enc.e := by
  rw [← sortD_map]
  simp
theorem ordd_map (l : List Tx) (h : l.length ≤ 16777216) : ordd (l.map Enc.e) = true := by
  unfold ordd
  have h1 : ((l.map Enc.e).all fun x => shp x && (l.map Enc.e).all fun y => PySem.W.alike x y) = true := by
    rw [List.all_eq_true]
    intro x hx
    obtain ⟨a, _, rfl⟩ := List.mem_map.mp hx
    rw [Bool.and_eq_true, List.all_eq_true]
    refine ⟨shp_e a (by simp), fun y hy => ?_⟩
    obtain ⟨b, _, rfl⟩ := List.mem_map.mp hy
    rfl
  have h2 : (l.map Enc.e).all noTp = true := by
    rw [List.all_eq_true]
    intro x hx
    obtain ⟨a, _, rfl⟩ := List.mem_map.mp hx
    rfl
  rw [h1, h2]
  simp [h]
theorem ordd_map1 (l : List Tx) (z : Tx) (h : l.length + 1 ≤ 16777216) : ordd (l.map Enc.e ++ [Enc.e z]) = true := by
  have := ordd_map (l ++ [z]) (by simpa using h)
  simpa using this
def G.doIt (P : Plan) (g : G) (d : Dd) (z : Option Tx) (who : Tx) : G := match d, z with
  | .set, _ =>
    let g1 := ({g with alarms := [], siren := 0, mode := .leaving, left := P.lv} : G).tell .set (some who)
    if P.lv = 0 then g1.leftBehind P else g1
  | .unset, _ => ({g with mode := .off, left := 0, came := none, siren := 0, shunts := []} : G).tell .unset (some who)
  | .shunt, some z => ({g with shunts := sortT (g.shunts ++ [z])} : G).tell .shunt (some z)
  | .free, some z => ({g with shunts := g.shunts.filter fun x => x ≠ z} : G).tell .free (some z)
  | _, none => g
def Dd.right : Dd → Dd
  | .set => .set
  | .unset => .unset
  | _ => .shunt
/-- a code that is taken: what comes of it -/
def G.done (P : Plan) (g : G) (at' : Nat) (c : Cd) (d : Dd) (z : Option Tx) : G :=
  let g1 : G := {g with tries := 0}
  if d.right ∉ c.rts then g1.tell .denied (some c.who)
  else if mayNot P g.mode g.shunts d z = true then g1.tell .no (some c.who)
  else if d = .set ∧ (firstOpen P g.lines g.shunts).isSome = true then g1.tell .opn (firstOpen P g.lines g.shunts)
  else ({g1 with used := g.used.set at' (g.used.getD at' 0 + 1)} : G).doIt P d z c.who
def G.code (P : Plan) (g : G) (f : Tx) (d : Dd) (z : Option Tx) : G :=
  if 0 < g.locked then g.tell .locked none
  else match P.codeAt f with
    | none => g.wrong P
    | some at' => match P.cs[at']? with
      | none => g
      | some c => if 0 < c.us ∧ c.us ≤ g.used.getD at' 0 then g.wrong P else g.done P at' c d z
theorem doIt_len (p : GoodP P) (d : Dd) (z : Option Tx) (who : Tx) : (g.doIt P d z who).told.length ≤ g.told.length + 10 := by
  unfold G.doIt
  split
  · dsimp only
    split
    · refine Nat.le_trans (leftBehind_len p) ?_
      simp
    · simp
  · simp
  · simp
  · simp
  · simp
theorem code_len (p : GoodP P) (f : Tx) (d : Dd) (z : Option Tx) : (g.code P f d z).told.length ≤ g.told.length + 10 := by
  have hw := wrong_len (P := P) (g := g)
  unfold G.code
  split
  · simp
  · split
    · omega
    · split
      · omega
      · split
        · omega
        · unfold G.done
          dsimp only
          repeat' split
          · simp
          · simp
          · simp
          · exact doIt_len p d z _
theorem Bas.setU {ls : List Ln} {us : List Int} {as ss : List Tx} (b : Bas P ls us as ss) (n : Nat) (w : Int) : Bas P ls (us.set n w) as ss := ⟨b.ll, by simp [b.ul], b.an, b.am, b.sn, b.sm⟩
end Dt

/-! GoF: codes, events. -/
namespace Dt
open PySem Dw
variable {i j : Nat} {P : Plan} {g : G} {s : Sto}
@[simp] theorem done_ok_aux {p : Prop} [Decidable p] {a b : G} : putG i j P (if p then a else b) s = if p then putG i j P a s else putG i j P b s := by split <;> rfl
@[simp] theorem isIn_shunt (l : List Dd) : isIn (.str "shunt") (l.map Enc.e) = decide (Dd.shunt ∈ l) := isIn_map Dd.shunt l
theorem ite_us {a b : Int} (h : ¬ (0 < a ∧ a ≤ b)) : (decide (0 < a) = true → decide (a ≤ b) = false) := by
  intro h1
  simp at h1 ⊢
  omega
/-! ### events -/
def G.happen (P : Plan) (g : G) : Ev → G
  | .line z w => g.line P z w
  | .code f d z => g.code P f d z
  | .ticks n => g.ticks P n
def efit (P : Plan) : Ev → Prop
  | .line z _ => z ∈ P.names
  | .code _ d z => zfit P d z
  | .ticks n => 1 ≤ n
theorem happen_len (p : GoodP P) (e : Ev) : (g.happen P e).told.length ≤ g.told.length + 18 := by
  cases e with
  | line z w => exact Nat.le_trans (line_len z w) (by omega)
  | code f d z => exact Nat.le_trans (code_len p f d z) (by omega)
  | ticks n => exact ticks_len p n
@[simp] theorem e_line (z : Tx) (w : Ln) : (Enc.e (Ev.line z w) : D) = .tuple [.str "line", Enc.e z, Enc.e w] := (rfl)
@[simp] theorem e_code (f : Tx) (d : Dd) (z : Option Tx) : (Enc.e (Ev.code f d z) : D) = .tuple [.str "code", Enc.e f, Enc.e d, Enc.e z] := (rfl)
@[simp] theorem e_ticks (n : Int) : (Enc.e (Ev.ticks n) : D) = .tuple [.str "ticks", .int n] := (rfl)
end Dt

/-! GoG: states that come. -/
namespace Dt
open PySem Dw
variable {i j : Nat} {P : Plan} {g : G} {s : Sto}
/-- states that come -/
structure Ok (P : Plan) (g : St) : Prop extends Bas P g.lines g.used g.alarms g.shunts, Wt P g where
  s0 : 0 ≤ g.siren
  s1 : g.siren ≤ P.ld
  k0 : 0 ≤ g.locked
  k1 : g.locked ≤ 90
  t0 : 0 ≤ g.tries
  t1 : g.tries ≤ 2
  l1 : g.mode = .leaving → g.left ≤ P.lv
  l2 : g.mode = .coming → g.left ≤ P.cm
  l3 : wait g.mode = false → g.left = 0
  c1 : g.mode ≠ .coming → g.came = none
@[simp] theorem alarm_siren (z : Tx) : (g.alarm P z).siren = P.ld := by unfold G.alarm; split <;> rfl
theorem GoodP.ld0 (p : GoodP P) : 0 ≤ P.ld := by have := p.ld; omega
theorem ok_alarm (p : GoodP P) (o : Ok P g.toSt) {z : Tx} (hz : z ∈ P.names) : Ok P (g.alarm P z).toSt where
  toBas := alarm_bas o.toBas hz
  toWt := ⟨by simpa using o.l, by simpa using o.c⟩
  s0 := by simpa using p.ld0
  s1 := by simp
  k0 := by simpa using o.k0
  k1 := by simpa using o.k1
  t0 := by simpa using o.t0
  t1 := by simpa using o.t1
  l1 := by simpa using o.l1
  l2 := by simpa using o.l2
  l3 := by simpa using o.l3
  c1 := by simpa using o.c1
theorem ok_opened (p : GoodP P) (o : Ok P g.toSt) {z : Tx} (hz : z ∈ P.names) (kd : Kd) : Ok P (g.opened P z kd).toSt := by
  unfold G.opened
  split
  · exact ok_alarm p o hz
  · split
    · exact ok_alarm p o hz
    · split
      · have hc : 0 < P.cm := by
          have := p.cm
          rcases Int.lt_or_eq_of_le this with h | h
          · exact h
          · exact absurd ⟨‹_›, h.symm⟩ ‹¬ (g.mode = .on ∧ P.cm = 0)›
        exact ⟨o.toBas, ⟨fun _ => hc, fun _ => ⟨z, rfl, hz⟩⟩, o.s0, o.s1, o.k0, o.k1, o.t0, o.t1, by simp [G.tell], by simp [G.tell], by simp [G.tell, wait], by simp [G.tell]⟩
      · exact o
theorem ok_line (p : GoodP P) (o : Ok P g.toSt) {z : Tx} (hz : z ∈ P.names) (w : Ln) : Ok P (g.line P z w).toSt := by
  have o1 : Ok P ({g with lines := g.lines.set (P.idx z) w} : G).toSt := ⟨o.toBas.set _ _, ⟨o.l, o.c⟩, o.s0, o.s1, o.k0, o.k1, o.t0, o.t1, o.l1, o.l2, o.l3, o.c1⟩
  unfold G.line
  split
  · exact o
  · dsimp only
    repeat' split
    all_goals first | exact o1 | exact ok_alarm p o1 hz | exact ok_opened p o1 hz _
theorem ok_ring (p : GoodP P) (o : Ok P g.toSt) {z : Zn} (hz : z ∈ P.zs) : Ok P (g.ringIf P z).toSt := by
  unfold G.ringIf
  split
  · exact ok_alarm p o (List.mem_map.mpr ⟨z, hz, rfl⟩)
  · exact o
theorem ok_rings (p : GoodP P) : ∀ (zs : List Zn) {g : G}, Ok P g.toSt → (∀ z ∈ zs, z ∈ P.zs) → Ok P (zs.foldl (G.ringIf P) g).toSt
  | [], _, b, _ => b
  | z :: zs, _, b, h => ok_rings p zs (ok_ring p b (h z List.mem_cons_self)) fun y hy => h y (List.mem_cons_of_mem _ hy)
theorem ok_leftBehind (p : GoodP P) (o : Ok P ({g with mode := .on} : G).toSt) : Ok P (g.leftBehind P).toSt :=
  ok_rings p P.zs (g := ({g with mode := .on} : G).tell .on none) o fun _ h => h
theorem mx0 (x : Int) : 0 ≤ mx x := by unfold mx; split <;> omega
theorem mx_le {x y : Int} (h : x ≤ y) (hy : 0 ≤ y) : mx x ≤ y := by unfold mx; split <;> omega
theorem ok_pass (p : GoodP P) (o : Ok P g.toSt) {n : Int} (hn : 0 ≤ n) : Ok P (g.pass n).toSt :=
  ⟨o.toBas, ⟨o.l, o.c⟩, mx0 _, mx_le (by have := o.s1; omega) p.ld0, mx0 _, mx_le (by have := o.k1; omega) (by omega), o.t0, o.t1, o.l1, o.l2, o.l3, o.c1⟩
theorem ok_step (p : GoodP P) (o : Ok P g.toSt) {n : Int} (hn : 0 ≤ n) (hl : wait g.mode = true → n ≤ g.left) : Ok P (g.step P n).toSt := by
  have o1 := ok_pass p o hn
  have base : ∀ c : Option Tx, c = none → Ok P ({g.pass n with left := 0, came := c, mode := .on} : G).toSt := fun c hc =>
    ⟨o1.toBas, ⟨by simp [wait], by simp⟩, o1.s0, o1.s1, o1.k0, o1.k1, o1.t0, o1.t1, by simp, by simp, fun _ => rfl, fun _ => hc⟩
  unfold G.step
  split
  · rename_i hw
    have hl := hl hw
    split
    · rename_i h0
      by_cases hm : g.mode = .leaving
      · rw [if_pos hm]
        have hc : g.came = none := o.c1 (by rw [hm]; simp)
        exact ok_leftBehind p (base _ hc)
      · rw [if_neg hm]
        have hm' : g.mode = .coming := by
          simp [wait] at hw
          rcases hw with h | h
          · exact absurd h hm
          · exact h
        obtain ⟨z, h1, h2⟩ := o.c hm'
        rw [h1]
        exact ok_alarm p (base none rfl) h2
    · rename_i h0
      refine ⟨o1.toBas, ⟨fun _ => ?_, o1.c⟩, o1.s0, o1.s1, o1.k0, o1.k1, o1.t0, o1.t1, fun h => ?_, fun h => ?_, fun h => ?_, o1.c1⟩
      · show 0 < g.left - n; omega
      · have := o.l1 h; show g.left - n ≤ _; omega
      · have := o.l2 h; show g.left - n ≤ _; omega
      · exact absurd hw (by rw [show wait g.mode = false from h]; simp)
  · exact o1
theorem ok_ticks (p : GoodP P) (o : Ok P g.toSt) (n : Int) : Ok P (g.ticks P n).toSt := by
  unfold G.ticks
  split
  · split
    · rename_i h
      have hl := o.l h.1
      have o1 := ok_step p o (n := g.left) (by omega) (fun _ => by omega)
      split
      · refine ok_step p o1 (by omega) fun hw => ?_
        rw [step_over h.1] at hw
        simp [wait] at hw
      · exact o1
    · rename_i h0 h
      exact ok_step p o (by omega) fun hw => by
        by_cases hc : g.left ≤ n
        · exact absurd ⟨hw, hc⟩ h
        · omega
  · exact o
theorem ok_wrong (p : GoodP P) (o : Ok P g.toSt) : Ok P (g.wrong P).toSt := by
  unfold G.wrong
  split
  · exact ⟨o.toBas, ⟨o.l, o.c⟩, p.ld0, by simp [G.tell], by simp [G.tell], by simp [G.tell], by simp [G.tell], by simp [G.tell], o.l1, o.l2, o.l3, o.c1⟩
  · refine ⟨o.toBas, ⟨o.l, o.c⟩, o.s0, o.s1, o.k0, o.k1, ?_, ?_, o.l1, o.l2, o.l3, o.c1⟩
    · have := o.t0; show 0 ≤ g.tries + 1; omega
    · have := o.t1; show g.tries + 1 ≤ 2; omega
theorem sortT_perm (l : List Tx) : (sortT l).Perm l := List.mergeSort_perm _ _
theorem mem_sortT {z : Tx} {l : List Tx} : z ∈ sortT l ↔ z ∈ l := (sortT_perm l).mem_iff
theorem wait_off : wait .off = false := rfl
theorem wait_on : wait .on = false := rfl
theorem ok_doIt (p : GoodP P) (o : Ok P g.toSt) {d : Dd} {z : Option Tx} (hf : zfit P d z) (hm : mayNot P g.mode g.shunts d z = false) (who : Tx) : Ok P (g.doIt P d z who).toSt := by
  cases d with
  | set =>
    have hoff : g.mode = .off := by simpa [mayNot] using hm
    have hc : g.came = none := o.c1 (by rw [hoff]; simp)
    have b0 : Bas P g.lines g.used [] g.shunts := ⟨o.ll, o.ul, by simp, by simp, o.sn, o.sm⟩
    unfold G.doIt
    dsimp only
    split
    · rename_i h0
      have o1 : Ok P ({g with alarms := [], siren := 0, mode := .on, left := 0} : G).toSt :=
        ⟨b0, ⟨by simp [wait], by simp⟩, by simp, p.ld0, o.k0, o.k1, o.t0, o.t1, by simp, by simp, fun _ => rfl, fun _ => hc⟩
      refine ok_leftBehind p ?_
      simp only [h0]
      exact o1
    · rename_i h0
      have hlv := p.lv
      exact ⟨b0, ⟨fun _ => by show 0 < P.lv; omega, by simp [G.tell]⟩, by simp [G.tell], p.ld0, o.k0, o.k1, o.t0, o.t1, fun _ => by simp [G.tell], by simp [G.tell], by simp [G.tell, wait], fun _ => hc⟩
  | unset =>
    have b0 : Bas P g.lines g.used g.alarms [] := ⟨o.ll, o.ul, o.an, o.am, by simp, by simp⟩
    exact ⟨b0, ⟨by simp [G.doIt, G.tell, wait], by simp [G.doIt, G.tell]⟩, by simp [G.doIt, G.tell], p.ld0, o.k0, o.k1, o.t0, o.t1, by simp [G.doIt, G.tell], by simp [G.doIt, G.tell], fun _ => rfl, fun _ => rfl⟩
  | shunt =>
    obtain ⟨x, rfl, hx⟩ := hf
    have hn : x ∉ g.shunts := by
      simp [mayNot] at hm
      exact hm.2.2
    have b0 : Bas P g.lines g.used g.alarms (sortT (g.shunts ++ [x])) := ⟨o.ll, o.ul, o.an, o.am, (sortT_perm _).nodup_iff.mpr (by
      rw [List.nodup_append]
      refine ⟨o.sn, by simp, ?_⟩
      rintro a ha b hb rfl
      simp at hb
      subst hb
      exact hn ha), fun z hz => by
      have := mem_sortT.mp hz
      simp at this
      rcases this with h | rfl
      · exact o.sm z h
      · exact hx⟩
    exact ⟨b0, ⟨o.l, o.c⟩, o.s0, o.s1, o.k0, o.k1, o.t0, o.t1, o.l1, o.l2, o.l3, o.c1⟩
  | free =>
    obtain ⟨x, rfl, hx⟩ := hf
    have b0 : Bas P g.lines g.used g.alarms (g.shunts.filter fun y => y ≠ x) := ⟨o.ll, o.ul, o.an, o.am, o.sn.filter _, fun z hz => o.sm z (List.mem_filter.mp hz).1⟩
    exact ⟨b0, ⟨o.l, o.c⟩, o.s0, o.s1, o.k0, o.k1, o.t0, o.t1, o.l1, o.l2, o.l3, o.c1⟩
theorem ok_code (p : GoodP P) (o : Ok P g.toSt) (f : Tx) {d : Dd} {z : Option Tx} (hf : zfit P d z) : Ok P (g.code P f d z).toSt := by
  unfold G.code
  split
  · exact o
  · split
    · exact ok_wrong p o
    · split
      · exact o
      · split
        · exact ok_wrong p o
        · unfold G.done
          have o1 : Ok P ({g with tries := 0} : G).toSt := ⟨o.toBas, ⟨o.l, o.c⟩, o.s0, o.s1, o.k0, o.k1, by simp, by simp, o.l1, o.l2, o.l3, o.c1⟩
          dsimp only
          split
          · exact o1
          · split
            · exact o1
            · split
              · exact o1
              · rename_i hm _
                refine ok_doIt p (g := {g with tries := 0, used := _}) ?_ hf (by simpa using hm) _
                exact ⟨o.toBas.setU _ _, ⟨o.l, o.c⟩, o.s0, o.s1, o.k0, o.k1, by simp, by simp, o.l1, o.l2, o.l3, o.c1⟩
theorem ok_happen (p : GoodP P) (o : Ok P g.toSt) {e : Ev} (he : efit P e) : Ok P (g.happen P e).toSt := by
  cases e with
  | line z w => exact ok_line p o he w
  | code f d z => exact ok_code p o f he
  | ticks n => exact ok_ticks p o n
end Dt

/-! GoH: a box that is begun; what is asked of it. -/
namespace Dt
open PySem Dw
variable {i j : Nat} {P : Plan} {g : G} {s : Sto}
theorem setAt_app (c : Nat) (f : Str) (v : Vl) (s r : Sto) (fs : List (Str × Vl)) (h : fs.length < 1000) : setAt c s.length f v (s ++ .ins c fs :: r) = .ok () (s ++ .ins c (setAt.putF f v fs) :: r) := by
  unfold setAt
  rw [run_bd, getO_at (o := .ins c fs) (by simp)]
  simp [h, setO]
theorem e_St (s : St) : (Enc.e s : D) = .tuple [Enc.e s.mode, .int s.left, Enc.e s.came, .tuple (s.lines.map Enc.e), .tuple (s.shunts.map Enc.e), .int s.siren, .tuple (s.alarms.map Enc.e), .int s.tries, .int s.locked, .tuple (s.used.map Enc.e)] := (rfl)
@[simp] theorem newL_true (xs : List D) (s : Sto) : newL true xs s = .ok (.o s.length) (s ++ [.lst xs]) := (rfl)
@[simp] theorem newO_run (o : Ob) (s : Sto) : newO o s = .ok s.length (s ++ [o]) := (rfl)
theorem pl_end (s : Sto) (a b : Ob) : Pl s.length (s.length + 1) (s ++ [a, b]) := ⟨by omega, by simp, by simp⟩
def begG (st : St) : G := ⟨st, 0, []⟩
@[simp] theorem begG_st (st : St) : (begG st).toSt = st := (rfl)
@[simp] theorem begG_told (st : St) : (begG st).told = [] := (rfl)
@[simp] theorem begG_went (st : St) : (begG st).went = 0 := (rfl)
@[simp] theorem begG_eta (st : St) : (⟨st, 0, []⟩ : G) = begG st := (rfl)
def G.row (P : Plan) (g : G) (r : List Ev) : G := r.foldl (G.happen P) g
def goneG (P : Plan) (st : St) (e : Ev) : G := (begG st).happen P e
def goneS (P : Plan) (st : St) (e : Ev) : St := (goneG P st e).toSt
def afterS (P : Plan) (st : St) (r : List Ev) : St := ((begG st).row P r).toSt
def storyS (P : Plan) (st : St) (r : List Ev) : List Td := ((begG st).row P r).told
/-! ### words -/
structure Wd where
  w : Wo
  n : Option Tx
  deriving DecidableEq
instance : Enc Wd where
  e z := .tuple [Enc.e z.w, Enc.e z.n]
  dp := 1
  ok z := by simp
  inj a b := by cases a; cases b; simp
@[simp] theorem dp_Wd : Enc.dp Wd = 1 := (rfl)
theorem e_Wd (z : Wd) : Enc.e z = PyData.tuple [Enc.e z.w, Enc.e z.n] := (rfl)
def Td.wd (t : Td) : Wd := ⟨t.w, t.n⟩
@[simp] theorem sl_Td1 (t : Td) : slV (V t) (some 1) none = pure (V t.wd) := by
  show slV (tuV [.int t.t, Enc.e t.w, Enc.e t.n]) (some 1) none = _
  simp [Td.wd, e_Wd]
@[simp] theorem ix_Td0 (t : Td) : ixV (V t) (inV 0) = pure (inV t.t) := (rfl)
@[simp] theorem ix_Td1 (t : Td) : ixV (V t) (inV 1) = pure (V t.w) := (rfl)
@[simp] theorem ix_Td2 (t : Td) : ixV (V t) (inV 2) = pure (V t.n) := (rfl)
theorem compO_run {f : Vl → M (Option D)} {s : Sto} {i : Nat} {xs : List D} (hs : s[i]? = some (.lst xs)) (g : D → Option D) (hf : ∀ x ∈ xs, f (.d x) s = .ok (g x) s) : ∀ (n j : Nat) (acc : List D), xs.length < n + j → j ≤ xs.length → acc.length + (xs.length - j) ≤ szLine → compO f i n j acc s = .ok (acc ++ (xs.drop j).filterMap g) s
  | 0, j, acc, hn, hj, hz => by omega
  | n + 1, j, acc, hn, hj0, hz => by
    unfold compO
    rw [run_bd, getO_at hs, bd_ok]
    dsimp only
    cases e : xs[j]? with
    | none =>
      have : xs.length ≤ j := List.getElem?_eq_none_iff.mp e
      simp [List.drop_of_length_le this]
    | some x =>
      obtain ⟨hj, hx⟩ := List.getElem?_eq_some_iff.mp e
      have hm : x ∈ xs := List.mem_of_getElem? e
      dsimp only
      rw [run_bd, hf x hm, bd_ok]
      have hd : xs.drop j = x :: xs.drop (j + 1) := by rw [← hx]; exact List.drop_eq_getElem_cons hj
      cases eg : g x with
      | none =>
        dsimp only
        rw [compO_run hs g hf n (j + 1) acc (by omega) (by omega) (by omega), hd]
        simp [eg]
      | some y =>
        dsimp only
        rw [show decide (acc.length < szLine) = true from decide_eq_true (by omega)]
        show compO f i n (j + 1) (acc ++ [y]) s = _
        rw [compO_run hs g hf n (j + 1) (acc ++ [y]) (by omega) (by omega) (by rw [List.length_append]; simp only [List.length_cons, List.length_nil]; omega), hd]
        simp [eg]
theorem wkOf_ob {s : Sto} {i : Nat} {xs : List D} (hs : s[i]? = some (.lst xs)) : wkOf (.o i) s = .ok (.ob i) s := by
  unfold wkOf
  dsimp only
  rw [run_bd, getO_at hs, bd_ok]
  rfl
theorem compW_ob {f : Vl → M (Option D)} {s : Sto} {i : Nat} {xs : List D} (hs : s[i]? = some (.lst xs)) (g : D → Option D) (hf : ∀ x ∈ xs, f (.d x) s = .ok (g x) s) (hz : xs.length ≤ szLine) : compW f (.ob i) s = .ok (xs.filterMap g) s := by
  unfold compW
  dsimp only
  rw [run_bd, getO_at hs, bd_ok]
  dsimp only
  rw [compO_run hs g hf _ 0 [] (by omega) (by omega) (by simpa using hz)]
  simp
theorem putG_at (h : Pl i j s) : (putG i j P g s)[j]? = some (.lst (g.told.map Enc.e)) := by
  unfold putG; rw [List.getElem?_set_self (by simpa using h.lj)]
def wordsS (P : Plan) (st : St) (e : Ev) : List Wd := (goneG P st e).told.map Td.wd
theorem tup_ob {s : Sto} {i : Nat} {xs : List D} (hs : s[i]? = some (.lst xs)) : bi .tuple [.o i] s = .ok (tuV xs) s := by
  show (sItems (.o i) >>= fun xs => (pure (tuV xs) : M Vl)) s = _
  unfold sItems
  dsimp only
  rw [run_bd, run_bd, getO_at hs]
  rfl
theorem fm_some {α β γ : Type} (f : α → β) (h : β → Option γ) (q : α → γ) (hh : ∀ a, h (f a) = some (q a)) (l : List α) : (l.map f).filterMap h = l.map q := by
  induction l with
  | nil => rfl
  | cons a l ih => simp [hh, ih]
end Dt

namespace Dw
open PySem
abbrev scr0 (ns : List Int) : Sto := [.scr (ns.map .int)]
theorem cell_ok {k : Nat} (ns : List Int) (i : Nat) : Phi fns (k + 1) 13 [.o 0, inV i] (scr0 ns) = .ok (inV (ns.getD i 0)) (scr0 ns) := by
  rw [run_of (F := f_law_cell_at) rfl rfl]
  have e : bi .len [.o 0] [.scr (ns.map PyData.int)] = .ok (inV ns.length) [.scr (ns.map .int)] := by
    show R.ok (inV (ns.map PyData.int).length) _ = _
    simp
  have e2 : i < ns.length → ixV (.o 0) (inV i) [.scr (ns.map PyData.int)] = .ok (inV (ns.getD i 0)) [.scr (ns.map .int)] := fun h => by
    show (match L2.atI (ns.map PyData.int) (i : Int) with | some v => (pure (.d v) : M Vl) | none => M.no) _ = _
    rw [atI_nat]
    simp [h]
  by_cases h : i < ns.length
  · simp [f_law_cell_at, b_law_cell_at, enter, leave, leaveV, M.bind_run, e, h, e2 h, vBelow, obBelow]
  · simp [f_law_cell_at, b_law_cell_at, enter, leave, leaveV, M.bind_run, e, h, vBelow, obBelow]
theorem mod_mul (x : Int) : cMul (x % 2147483647) (x % 2147483647) = true := by
  unfold cMul
  simp only [Bool.or_eq_true, Bool.and_eq_true, decide_eq_true_eq]
  omega
def mixed (c k : Int) : Int := ((c + 7919 * k + 1) * 48271 % 2147483647 * ((c + 7919 * k + 1) * 48271 % 2147483647) + 7 * ((c + 7919 * k + 1) * 48271 % 2147483647) + k) % 2147483629
theorem mixed_ok {k : Nat} (ns : List Int) (i : Nat) : Phi fns (k + 2) 14 [.o 0, inV i] (scr0 ns) = .ok (inV (mixed (ns.getD i 0) i)) (scr0 ns) := by
  rw [run_of (F := f_law_mixed) rfl rfl]
  have h := cell_ok (k := k) ns i
  have c1 : cMul 7919 (i : Int) = true := cMul_l (by decide)
  have c2 : ∀ x : Int, cMul x 48271 = true := fun x => cMul_r (by decide)
  have c3 : ∀ x : Int, cMul 7 x = true := fun x => cMul_l (by decide)
  simp [f_law_mixed, b_law_mixed, enter, leave, leaveV, M.bind_run, h, vBelow, obBelow, c1, c2, c3, mod_mul, mixed]
/-- the script's store: read only, or a plain list -/
def ScrO (ns : List Int) (o : Ob) : Prop := o = .scr (ns.map .int) ∨ o = .lst (ns.map .int)
theorem cell_ok2 {k : Nat} (ns : List Int) (i : Nat) : Phi fns (k + 1) 13 [.o 0, inV i] [.lst (ns.map .int)] = .ok (inV (ns.getD i 0)) [.lst (ns.map .int)] := by
  rw [run_of (F := f_law_cell_at) rfl rfl]
  have e : bi .len [.o 0] [.lst (ns.map PyData.int)] = .ok (inV ns.length) [.lst (ns.map .int)] := by
    show R.ok (inV (ns.map PyData.int).length) _ = _
    simp
  have e2 : i < ns.length → ixV (.o 0) (inV i) [.lst (ns.map PyData.int)] = .ok (inV (ns.getD i 0)) [.lst (ns.map .int)] := fun h => by
    show (match L2.atI (ns.map PyData.int) (i : Int) with | some v => (pure (.d v) : M Vl) | none => M.no) _ = _
    rw [atI_nat]
    simp [h]
  by_cases h : i < ns.length
  · simp [f_law_cell_at, b_law_cell_at, enter, leave, leaveV, M.bind_run, e, h, e2 h, vBelow, obBelow]
  · simp [f_law_cell_at, b_law_cell_at, enter, leave, leaveV, M.bind_run, e, h, vBelow, obBelow]
theorem mixed_ok2 {k : Nat} (ns : List Int) (i : Nat) : Phi fns (k + 2) 14 [.o 0, inV i] [.lst (ns.map .int)] = .ok (inV (mixed (ns.getD i 0) i)) [.lst (ns.map .int)] := by
  rw [run_of (F := f_law_mixed) rfl rfl]
  have h := cell_ok2 (k := k) ns i
  have c1 : cMul 7919 (i : Int) = true := cMul_l (by decide)
  have c2 : ∀ x : Int, cMul x 48271 = true := fun x => cMul_r (by decide)
  have c3 : ∀ x : Int, cMul 7 x = true := fun x => cMul_l (by decide)
  simp [f_law_mixed, b_law_mixed, enter, leave, leaveV, M.bind_run, h, vBelow, obBelow, c1, c2, c3, mod_mul, mixed]
def drawn (n k : Int) : Int := ((n + 104729 * k + 17) * 69621 % 2147483647 * ((n + 104729 * k + 17) * 69621 % 2147483647) + 3 * ((n + 104729 * k + 17) * 69621 % 2147483647) + k) % 2147483629
theorem drawn_ok {k : Nat} {s : Sto} (n j : Int) : Phi fns (k + 1) 51 [inV n, inV j] s = .ok (inV (drawn n j)) s := by
  rw [run_of (F := f_law_drawn_v2) rfl rfl]
  have c1 : ∀ x : Int, cMul 104729 x = true := fun x => cMul_l (by decide)
  have c2 : ∀ x : Int, cMul x 69621 = true := fun x => cMul_r (by decide)
  have c3 : ∀ x : Int, cMul 3 x = true := fun x => cMul_l (by decide)
  simp [f_law_drawn_v2, b_law_drawn_v2, enter, leave, leaveV, c1, c2, c3, mod_mul, drawn]
end Dw

/-! PLa: drawn plans. -/
namespace Dt
open PySem Dw
def tx (a : String) : Tx := ⟨Str.ofString a, strOk_lit a⟩
theorem e_tx (a : String) : Enc.e (tx a) = PyData.str (Str.ofString a) := (rfl)
def pick {α : Type} (as : List α) (d : α) (x : Int) : α := as.getD (x % (as.length : Int)).toNat d
theorem pick_at {α : Type} (as : List α) (d : α) (x : Int) (h : 0 < as.length) : as[(x % (as.length : Int)).toNat]? = some (pick as d x) := by
  have h1 := Int.emod_nonneg x (show (as.length : Int) ≠ 0 by omega)
  have h2 := Int.emod_lt_of_pos x (show 0 < (as.length : Int) by omega)
  have h3 : (x % (as.length : Int)).toNat < as.length := by omega
  unfold pick
  simp [List.getD, List.getElem?_eq_getElem h3]
theorem pick_mem {α : Type} (as : List α) (d : α) (x : Int) (h : 0 < as.length) : pick as d x ∈ as := List.mem_of_getElem? (pick_at as d x h)
theorem atI_pick {α : Type} (f : α → D) (as : List α) (d : α) (x : Int) (h : 0 < as.length) : L2.atI (as.map f) (x % (as.length : Int)) = some (f (pick as d x)) := by
  rw [atI_pos _ (Int.emod_nonneg x (by omega)), List.getElem?_map, pick_at as d x h]
  rfl
def names8 : List Tx := [tx "a", tx "b", tx "back", tx "d", tx "hall", tx "r", tx "win", tx "z"]
def figs6 : List Tx := [tx "0000", tx "1234", tx "4321", tx "7777", tx "9990", tx "9999"]
def kinds5 : List Kd := [.day, .inner, .once, .way, .way]
def zoneAt (n : Int) (p : Tx × Nat) : Option Zn :=
  if drawn n p.2 / 4 % 8 < 3 + n % 5 ∨ (p.2 : Int) = n / 8 % 8 then some ⟨p.1, pick kinds5 .way (drawn n p.2 / 4 / 8)⟩ else none
def zonesOf (n : Int) : List Zn := names8.zipIdx.filterMap (zoneAt n)
def rtsOf (d : Int) : List Dd := (if d / 4 % 4 > 0 then [Dd.set] else []) ++ (if d / 16 % 4 > 0 then [Dd.shunt] else []) ++ (if d / 64 % 4 > 0 then [Dd.unset] else [])
def whos3 : List Tx := [tx "ann", tx "bo", tx "cy"]
def uses5 : List Int := [0, 0, 1, 2, 9]
def codeAtN (n : Int) (p : Tx × Nat) : Option Cd :=
  let d := drawn n (10 + p.2) / 4
  if d % 3 > 0 ∨ p.2 = 1 then some ⟨p.1, pick whos3 (tx "cy") (d / 256), rtsOf d, pick uses5 9 (d / 1024)⟩ else none
def codesOf (n : Int) : List Cd := figs6.zipIdx.filterMap (codeAtN n)
def planOf (n : Int) : Plan where
  zs := zonesOf n
  cs := codesOf n
  lv := pick [0, 5, 30, 60] 60 (drawn n 20 / 4)
  cm := pick [0, 4, 20, 60] 60 (drawn n 20 / 4 / 4)
  ld := pick [1, 9, 120, 300] 300 (drawn n 20 / 4 / 16)
@[simp] theorem at_kinds (x : Int) : L2.atI [(.str "day" : D), .str "inner", .str "once", .str "way", .str "way"] (x % 5) = some (Enc.e (pick kinds5 .way x)) := atI_pick Enc.e kinds5 .way x (by decide)
@[simp] theorem at_whos (x : Int) : L2.atI [(.str "ann" : D), .str "bo", .str "cy"] (x % 3) = some (Enc.e (pick whos3 (tx "cy") x)) := atI_pick Enc.e whos3 (tx "cy") x (by decide)
@[simp] theorem at_uses (x : Int) : L2.atI [(.int 0 : D), .int 0, .int 1, .int 2, .int 9] (x % 5) = some (.int (pick uses5 9 x)) := atI_pick Enc.e uses5 9 x (by decide)
theorem drawn_call {k : Nat} (n j : Int) : pureRun (Phi fns (k + 1) 51 [inV n, inV j]) = pure (inV (drawn n j)) := pureRun_eq (drawn_ok n j)
def enP (p : Tx × Nat) : Vl := tuV [.int (p.2 : Int), Enc.e p.1]
@[simp] theorem enum8 : enumD 0 [(.str "a" : D), .str "b", .str "back", .str "d", .str "hall", .str "r", .str "win", .str "z"] = names8.zipIdx.map enP := rfl
@[simp] theorem enum6 : enumD 0 [(.str "0000" : D), .str "1234", .str "4321", .str "7777", .str "9990", .str "9999"] = figs6.zipIdx.map enP := rfl
@[simp] theorem at_lv (x : Int) : L2.atI [(.int 0 : D), .int 5, .int 30, .int 60] (x % 4) = some (.int (pick [0, 5, 30, 60] 60 x)) := atI_pick .int [0, 5, 30, 60] 60 x (by decide)
@[simp] theorem at_cm (x : Int) : L2.atI [(.int 0 : D), .int 4, .int 20, .int 60] (x % 4) = some (.int (pick [0, 4, 20, 60] 60 x)) := atI_pick .int [0, 4, 20, 60] 60 x (by decide)
@[simp] theorem at_ld (x : Int) : L2.atI [(.int 1 : D), .int 9, .int 120, .int 300] (x % 4) = some (.int (pick [1, 9, 120, 300] 300 x)) := atI_pick .int [1, 9, 120, 300] 300 x (by decide)
theorem filterMap_snoc {α β : Type} (f : α → Option β) (as : List α) (a : α) : (as ++ [a]).filterMap f = as.filterMap f ++ (f a).toList := by
  rw [List.filterMap_append]
  cases h : f a <;> simp [h]
theorem compL_cons' (f : Vl → M (Option D)) (x : Vl) (r : List Vl) (acc : List D) : compL f (x :: r) acc = (f x >>= fun o => match o with
    | some y => okS (decide (acc.length < szLine)) () >>= fun _ => compL f r (acc ++ [y])
    | none => compL f r acc) := rfl
theorem compL_nil' (f : Vl → M (Option D)) (acc : List D) : compL f [] acc = pure acc := rfl
theorem plan_ok {k : Nat} {s : Sto} (n : Int) : Phi fns (k + 2) 52 [inV n] s = .ok (V (planOf n)) s := by
  rw [run_of (F := f_law_plan_v2) rfl rfl]
  simp [f_law_plan_v2, b_law_plan_v2, enter]
  apply eq_of_sat
  rw [sat_bd]
  refine for_nx_bd (fun pre e t => t = s ∧ ∃ e2 e3 e4, e = [some (inV n), some (tuV ((pre.filterMap (zoneAt n)).map Enc.e)), e2, e3, e4, none, none, none, none, none, none]) _ _ _ ⟨rfl, none, none, none, rfl⟩ ?_ ?_
  · rintro pre ⟨x, i⟩ post e t hx ⟨rfl, e2, e3, e4, rfl⟩
    have hl : (pre.filterMap (zoneAt n)).length ≤ 16777215 := by
      have := List.length_filterMap_le (zoneAt n) pre
      have := congrArg List.length hx
      simp [names8] at this
      omega
    rw [filterMap_snoc]
    generalize pre.filterMap (zoneAt n) = zs at hl ⊢
    by_cases h1 : drawn n i / 4 % 8 < 3 + n % 5
    · simp [enP, l2_law_plan_v2, drawn_call, zoneAt, h1, hl, e_Zn]
    · by_cases h2 : (i : Int) = n / 8 % 8
      · simp [enP, l2_law_plan_v2, drawn_call, zoneAt, h1, h2, hl, e_Zn]
      · simp [enP, l2_law_plan_v2, drawn_call, zoneAt, h1, h2, hl, e_Zn]
  · rintro e t ⟨rfl, e2, e3, e4, rfl⟩
    simp
    refine for_nx_bd (fun pre e t' => t' = t ∧ ∃ e2 e3 e4 e6 e7 e8 e10, e = [some (inV n), some (tuV ((zonesOf n).map Enc.e)), e2, e3, e4, some (tuV ((pre.filterMap (codeAtN n)).map Enc.e)), e6, e7, e8, none, e10]) _ _ _ ⟨rfl, _, _, _, _, _, _, _, rfl⟩ ?_ ?_
    · rintro pre ⟨x, i⟩ post e t hx ⟨rfl, e2, e3, e4, e6, e7, e8, e10, rfl⟩
      have hl : (pre.filterMap (codeAtN n)).length ≤ 16777215 := by
        have := List.length_filterMap_le (codeAtN n) pre
        have := congrArg List.length hx
        simp [figs6] at this
        omega
      rw [filterMap_snoc]
      generalize pre.filterMap (codeAtN n) = zs at hl ⊢
      have r3 : List.range 3 = [0, 1, 2] := rfl
      have b3 : bnd62 3 = true := by decide
      generalize hd : drawn n (10 + (i : Int)) / 4 = d
      have key : (0 < d % 3 ∨ i = 1) → ∃ v, compL (compF (Phi fns (k + 1)) (Tg.nm 10)
                      (Eo.so
                        (E.cmp CmpOp.Gt
                          (E.bin Operator.Mod
                            (E.bin Operator.FloorDiv (E.var 4)
                              ((E.tup (Es.cons (E.int 4) (Es.cons (E.int 16) (Es.cons (E.int 64) Es.nil)))).ix
                                (E.var 10)))
                            (E.int 4))
                          (E.int 0)))
                      ((E.tup
                            (Es.cons (E.str (Str.ofString "set"))
                              (Es.cons (E.str (Str.ofString "shunt"))
                                (Es.cons (E.str (Str.ofString "unset")) Es.nil)))).ix
                        (E.var 10))
                      [some (inV n), some (tuV (List.map Enc.e (zonesOf n))), some (Vl.d (PyData.int ↑i)), e3,
                        some (inV d), some (tuV (List.map Enc.e zs)), some (Vl.d (Enc.e x)), e7,
                        e8, none, none]) ((List.range 3).map fun (i : Nat) => inV (i : Int)) [] = pure v ∧ v = (rtsOf d).map Enc.e := by
        intro _
        refine ⟨_, ?_, rfl⟩
        by_cases c1 : 0 < d / 4 % 4 <;> by_cases c2 : 0 < d / 16 % 4 <;> by_cases c3 : 0 < d / 64 % 4 <;>
          simp [r3, compL_cons', compL_nil', c1, c2, c3, rtsOf, e_set, e_shunt, e_unset]
      by_cases h1 : 0 < d % 3
      · obtain ⟨v, k1, k2⟩ := key (.inl h1)
        simp at k1
        simp [enP, l1_law_plan_v2, drawn_call, codeAtN, hl, e_Cd, hd, h1, b3, k1, k2]
      · by_cases h2 : i = 1
        · obtain ⟨v, k1, k2⟩ := key (.inr h2)
          subst h2
          simp at k1 hd
          simp [enP, l1_law_plan_v2, drawn_call, codeAtN, hl, e_Cd, hd, h1, b3, k1, k2]
        · have h3 : ¬ (i : Int) = 1 := by omega
          simp [enP, l1_law_plan_v2, drawn_call, codeAtN, hl, e_Cd, hd, h1, h2, h3, b3]
    · rintro e t ⟨rfl, e2, e3, e4, e6, e7, e8, e10, rfl⟩
      simp [drawn_call, planOf, codesOf, Enc.e]
end Dt

/-! PLb: what drawn plans are; drawn rows. -/
namespace Dt
open PySem Dw
@[simp] theorem plan_call {k : Nat} (n : Int) : pureRun (Phi fns (k + 2) 52 [inV n]) = pure (V (planOf n)) := pureRun_eq (plan_ok n)
theorem fm_sub {α β : Type} (f : α × Nat → Option β) (g : β → α) (h : ∀ p z, f p = some z → g z = p.1) : ∀ (as : List α) (n : Nat), (((as.zipIdx n).filterMap f).map g).Sublist as
  | [], _ => by simp
  | a :: as, n => by
    rw [List.zipIdx_cons]
    cases e : f (a, n) with
    | none => rw [List.filterMap_cons_none e]; exact (fm_sub f g h as (n + 1)).cons _
    | some z =>
      rw [List.filterMap_cons_some e, List.map_cons, h _ _ e]
      exact (fm_sub f g h as (n + 1)).cons₂ _
theorem names_sub (n : Int) : (planOf n).names.Sublist names8 := fm_sub (zoneAt n) (·.nm) (fun p z h => by
  unfold zoneAt at h
  split at h
  · cases h; rfl
  · cases h) names8 0
theorem figs_sub (n : Int) : ((planOf n).cs.map (·.fg)).Sublist figs6 := fm_sub (codeAtN n) (·.fg) (fun p z h => by
  unfold codeAtN at h
  dsimp only at h
  split at h
  · cases h; rfl
  · cases h) figs6 0
theorem names8_nd : names8.Nodup := by decide +kernel
theorem figs6_nd : figs6.Nodup := by decide +kernel
theorem fm_pos {α β : Type} {f : α → Option β} {as : List α} {a : α} (h : a ∈ as) (hf : f a ≠ none) : 1 ≤ (as.filterMap f).length := by
  cases e : f a with
  | none => exact absurd e hf
  | some b => exact List.length_pos_of_mem (List.mem_filterMap.mpr ⟨a, h, e⟩)
theorem planOf_good (n : Int) : GoodP (planOf n) where
  z1 := by
    have h1 : 0 ≤ n / 8 % 8 ∧ n / 8 % 8 < 8 := by omega
    have key : ∀ i : Nat, i < 8 → ∃ a ∈ names8.zipIdx, a.2 = i := by decide +kernel
    obtain ⟨a, ha, e⟩ := key (n / 8 % 8).toNat (by omega)
    refine fm_pos ha ?_
    unfold zoneAt
    rw [if_pos (.inr (by omega))]
    simp
  z8 := by
    have := (names_sub n).length_le
    rw [names_len] at this
    exact this
  c1 := by
    have ha : (tx "1234", 1) ∈ figs6.zipIdx := by decide +kernel
    refine fm_pos ha ?_
    unfold codeAtN
    dsimp only
    rw [if_pos (.inr rfl)]
    simp
  c6 := by
    have := (figs_sub n).length_le
    rw [List.length_map] at this
    exact this
  nd := (names_sub n).nodup names8_nd
  fd := (figs_sub n).nodup figs6_nd
  lv := by
    have := pick_mem [(0 : Int), 5, 30, 60] 60 (drawn n 20 / 4) (by decide)
    simp at this
    show 0 ≤ pick _ _ _
    omega
  cm := by
    have := pick_mem [(0 : Int), 4, 20, 60] 60 (drawn n 20 / 4 / 4) (by decide)
    simp at this
    show 0 ≤ pick _ _ _
    omega
  ld := by
    have := pick_mem [(1 : Int), 9, 120, 300] 300 (drawn n 20 / 4 / 16) (by decide)
    simp at this
    show 1 ≤ pick _ _ _
    omega
  us := by
    intro c hc
    obtain ⟨p, _, e⟩ := List.mem_filterMap.mp hc
    unfold codeAtN at e
    dsimp only at e
    split at e
    · cases e
      have := pick_mem uses5 9 (drawn n (10 + p.2) / 4 / 1024) (by decide)
      simp [uses5] at this
      show 0 ≤ pick _ _ _
      unfold uses5
      omega
    · cases e
  lv1 := by
    have := pick_mem [(0 : Int), 5, 30, 60] 60 (drawn n 20 / 4) (by decide)
    simp at this
    show pick _ _ _ ≤ 60
    omega
  cm1 := by
    have := pick_mem [(0 : Int), 4, 20, 60] 60 (drawn n 20 / 4 / 4) (by decide)
    simp at this
    show pick _ _ _ ≤ 60
    omega
  ld1 := by
    have := pick_mem [(1 : Int), 9, 120, 300] 300 (drawn n 20 / 4 / 16) (by decide)
    simp at this
    show pick _ _ _ ≤ 300
    omega
/-! ### drawn events -/
def zoneN (P : Plan) (x : Int) : Tx := (pick P.zs ⟨tx "a", .day⟩ x).nm
def figN (P : Plan) (x : Int) : Tx := (pick P.cs ⟨tx "1234", tx "a", [], 0⟩ x).fg
theorem zoneN_mem (p : GoodP P) (x : Int) : zoneN P x ∈ P.names := List.mem_map.mpr ⟨_, pick_mem _ _ x (by have := p.z1; omega), rfl⟩
def evOf (P : Plan) (n : Int) : Ev :=
  if n % 10 < 5 then .line (zoneN P (n / 8)) (pick [.shut, .opn, .opn, .cut] .cut (n / 512))
  else if n % 10 < 7 then .ticks (1 + n / 64 % pick [3, 40, 200] 200 (n / 4096))
  else
    let f := if n / 65536 % 4 = 0 then pick [tx "0001", tx "1111", tx "9999", tx "0000"] (tx "0000") (n / 512) else figN P (n / 64)
    let d := pick [Dd.set, .set, .unset, .shunt, .free, .shunt] .shunt (n / 4096)
    if d = .set ∨ d = .unset then .code f d none else .code f d (some (zoneN P (n / 8)))
@[simp] theorem at_whats (x : Int) : L2.atI [(.str "shut" : D), .str "open", .str "open", .str "cut"] (x % 4) = some (Enc.e (pick [Ln.shut, .opn, .opn, .cut] .cut x)) := atI_pick Enc.e [Ln.shut, .opn, .opn, .cut] .cut x (by decide)
@[simp] theorem at_manys (x : Int) : L2.atI [(.int 3 : D), .int 40, .int 200] (x % 3) = some (.int (pick [3, 40, 200] 200 x)) := atI_pick .int [3, 40, 200] 200 x (by decide)
@[simp] theorem at_figs (x : Int) : L2.atI [(.str "0001" : D), .str "1111", .str "9999", .str "0000"] (x % 4) = some (Enc.e (pick [tx "0001", tx "1111", tx "9999", tx "0000"] (tx "0000") x)) := atI_pick Enc.e [tx "0001", tx "1111", tx "9999", tx "0000"] (tx "0000") x (by decide)
@[simp] theorem at_deeds (x : Int) : L2.atI [(.str "set" : D), .str "set", .str "unset", .str "shunt", .str "free", .str "shunt"] (x % 6) = some (Enc.e (pick [Dd.set, .set, .unset, .shunt, .free, .shunt] .shunt x)) := atI_pick Enc.e [Dd.set, .set, .unset, .shunt, .free, .shunt] .shunt x (by decide)
theorem atI_zs (p : GoodP P) (x : Int) : L2.atI (P.zs.map Enc.e) (x % (P.zs.length : Int)) = some (Enc.e (pick P.zs ⟨tx "a", .day⟩ x)) := atI_pick Enc.e P.zs _ x (by have := p.z1; omega)
theorem atI_cs (p : GoodP P) (x : Int) : L2.atI (P.cs.map Enc.e) (x % (P.cs.length : Int)) = some (Enc.e (pick P.cs ⟨tx "1234", tx "a", [], 0⟩ x)) := atI_pick Enc.e P.cs _ x (by have := p.c1; omega)
theorem event_ok {k : Nat} {s : Sto} (p : GoodP P) (n : Int) : Phi fns (k + 1) 53 [V P, inV n] s = .ok (V (evOf P n)) s := by
  rw [run_of (F := f_law_event_v2) rfl rfl]
  have h1 := p.z1
  have h2 := p.c1
  have hz : 0 < P.zs.length := h1
  have hc : 0 < P.cs.length := h2
  have m3 : 0 < pick [(3 : Int), 40, 200] 200 (n / 4096) := by
    have := pick_mem [(3 : Int), 40, 200] 200 (n / 4096) (by decide)
    simp at this
    omega
  unfold evOf
  by_cases c1 : n % 10 < 5
  · simp [f_law_event_v2, b_law_event_v2, enter, atI_zs p, hz, c1, zoneN]
  · by_cases c2 : n % 10 < 7
    · simp [f_law_event_v2, b_law_event_v2, enter, atI_zs p, hz, c1, c2, zoneN, m3]
    · have hd := pick_mem [Dd.set, .set, .unset, .shunt, .free, .shunt] .shunt (n / 4096) (by decide)
      by_cases c3 : n / 65536 % 4 = 0
      · simp [f_law_event_v2, b_law_event_v2, enter, atI_zs p, atI_cs p, hz, hc, c1, c2, c3, zoneN, figN, shp_okB]
        split <;> simp_all
      · simp [f_law_event_v2, b_law_event_v2, enter, atI_zs p, atI_cs p, hz, hc, c1, c2, c3, zoneN, figN, shp_okB]
        split <;> simp_all
theorem evOf_fit (p : GoodP P) (n : Int) : efit P (evOf P n) := by
  unfold evOf
  split
  · exact zoneN_mem p _
  · split
    · have m3 : 0 < pick [(3 : Int), 40, 200] 200 (n / 4096) := by
        have := pick_mem [(3 : Int), 40, 200] 200 (n / 4096) (by decide)
        simp at this
        omega
      have := Int.emod_nonneg (n / 64) (show pick [(3 : Int), 40, 200] 200 (n / 4096) ≠ 0 by omega)
      show 1 ≤ 1 + n / 64 % _
      omega
    · dsimp only
      generalize pick [Dd.set, .set, .unset, .shunt, .free, .shunt] .shunt (n / 4096) = d
      split
      · rename_i h
        rcases h with rfl | rfl <;> exact rfl
      · rename_i h
        cases d with
        | set => exact absurd (.inl rfl) h
        | unset => exact absurd (.inr rfl) h
        | shunt => exact ⟨_, rfl, zoneN_mem p _⟩
        | free => exact ⟨_, rfl, zoneN_mem p _⟩
end Dt

/-! PLc: drawn rows; what is asked of rows. -/
namespace Dt
open PySem Dw
variable {i j : Nat} {P : Plan} {g : G} {s : Sto}
@[simp] theorem Wos_alarm (m : Wo) : (m.s = Str.ofString "alarm") = (m = .alarm) := by cases m <;> simp [Wo.s]
@[simp] theorem Wos_attack (m : Wo) : (m.s = Str.ofString "attack") = (m = .attack) := by cases m <;> simp [Wo.s]
@[simp] theorem Wos_mended (m : Wo) : (m.s = Str.ofString "mended") = (m = .mended) := by cases m <;> simp [Wo.s]
@[simp] theorem Wos_fault (m : Wo) : (m.s = Str.ofString "fault") = (m = .fault) := by cases m <;> simp [Wo.s]
@[simp] theorem Wos_coming (m : Wo) : (m.s = Str.ofString "coming") = (m = .coming) := by cases m <;> simp [Wo.s]
@[simp] theorem Wos_on (m : Wo) : (m.s = Str.ofString "on") = (m = .on) := by cases m <;> simp [Wo.s]
@[simp] theorem Wos_locked (m : Wo) : (m.s = Str.ofString "locked") = (m = .locked) := by cases m <;> simp [Wo.s]
@[simp] theorem Wos_wrong (m : Wo) : (m.s = Str.ofString "wrong") = (m = .wrong) := by cases m <;> simp [Wo.s]
@[simp] theorem Wos_denied (m : Wo) : (m.s = Str.ofString "denied") = (m = .denied) := by cases m <;> simp [Wo.s]
@[simp] theorem Wos_no (m : Wo) : (m.s = Str.ofString "no") = (m = .no) := by cases m <;> simp [Wo.s]
@[simp] theorem Wos_open (m : Wo) : (m.s = Str.ofString "open") = (m = .opn) := by cases m <;> simp [Wo.s]
@[simp] theorem Wos_set (m : Wo) : (m.s = Str.ofString "set") = (m = .set) := by cases m <;> simp [Wo.s]
@[simp] theorem Wos_unset (m : Wo) : (m.s = Str.ofString "unset") = (m = .unset) := by cases m <;> simp [Wo.s]
@[simp] theorem Wos_shunt (m : Wo) : (m.s = Str.ofString "shunt") = (m = .shunt) := by cases m <;> simp [Wo.s]
@[simp] theorem Wos_free (m : Wo) : (m.s = Str.ofString "free") = (m = .free) := by cases m <;> simp [Wo.s]
@[simp] theorem event_call {k : Nat} (p : GoodP P) (n : Int) : pureRun (Phi fns (k + 1) 53 [V P, inV n]) = pure (V (evOf P n)) := pureRun_eq (event_ok p n)
def c5555 (d : Dd) : Ev := .code (tx "5555") d none
def rowBase (P : Plan) (n most : Int) : List Ev := (List.range (n % (most + 1)).toNat).map fun (i : Nat) => evOf P (drawn n (30 + (i : Int)) / 4)
def rowOf (P : Plan) (n most : Int) : List Ev :=
  if n / 64 % 5 = 0 ∧ 2 < (rowBase P n most).length then (rowBase P n most).take ((rowBase P n most).length - 3) ++ [c5555 .unset, c5555 .unset, c5555 .unset] else rowBase P n most
theorem cutD_neg {α : Type} (xs : List α) (n : Nat) (h : n ≤ xs.length) (hn : 0 < n) : cutD xs none (some (-(n : Int))) = xs.take (xs.length - n) := by
  unfold cutD
  rw [HT.sIx_none]
  have : HT.sIx xs.length xs.length (some (-(n : Int))) = xs.length - n := by
    unfold HT.sIx
    simp
    split <;> omega
  rw [this]
  simp
theorem bnd62_of {i : Int} (h : -1000000 ≤ i) (h2 : i ≤ 10000000000) : bnd62 i = true := by
  unfold bnd62
  simp only [Bool.and_eq_true, decide_eq_true_eq]
  omega
@[simp] theorem mul_tup (xs : List D) (j : Int) : binop .Mult (tuV xs) (inV j) = okS (decide (xs ≠ []) && decide (0 ≤ j) && decide (j ≤ 1000) && decide (xs.length ≤ 1000)) (tuV (rep xs j.toNat)) := (rfl)
theorem row_ok {k : Nat} (p : GoodP P) (n most : Int) (hm : 0 ≤ most) (hm2 : most ≤ 1000) : Phi fns (k + 2) 54 [V P, inV n, inV most] s = .ok (tuV ((rowOf P n most).map Enc.e)) s := by
  rw [run_of (F := f_law_row_v2) rfl rfl]
  have h0 := Int.emod_nonneg n (show most + 1 ≠ 0 by omega)
  have h1 := Int.emod_lt_of_pos n (show 0 < most + 1 by omega)
  have h2 : 0 < most + 1 := by omega
  have hb : bnd62 (n % (most + 1)) = true := bnd62_of (by omega) (by omega)
  have hl : (n % (most + 1)).toNat ≤ 16777216 := by omega
  have hlen : (rowBase P n most).length ≤ 1000 := by unfold rowBase; simp; omega
  have e : (List.range (n % (most + 1)).toNat).map (fun (i : Nat) => (Enc.e (evOf P (drawn n (30 + (i : Int)) / 4)) : D)) = (rowBase P n most).map Enc.e := by
    unfold rowBase
    rw [List.map_map]
    rfl
  unfold rowOf
  simp only [f_law_row_v2, b_law_row_v2, enter]
  by_cases c1 : n / 64 % 5 = 0
  · by_cases c2 : 2 < (rowBase P n most).length
    · have c2' : (2 : Int) < ((rowBase P n most).length : Int) := by omega
      have hcut := cutD_neg ((rowBase P n most).map (Enc.e : Ev → D)) 3 (by simp; omega) (by omega)
      have hl3 : (rowBase P n most).length - 3 ≤ 16777213 := by omega
      simp [h2, hb, hl, drawn_call, p, e]
      generalize rowBase P n most = r at hlen c2 c2' hcut hl3 ⊢
      simp at hcut
      simp [c1, c2, c2', hcut, hl3, rep]
      rfl
    · have c2' : ¬ (2 : Int) < ((rowBase P n most).length : Int) := by omega
      simp [h2, hb, hl, drawn_call, p, e]
      generalize rowBase P n most = r at hlen c2 c2' ⊢
      simp [c1, c2, c2']
  · simp [h2, hb, hl, drawn_call, p, e]
    generalize rowBase P n most = r at hlen ⊢
    simp [c1]
@[simp] theorem row_call {k : Nat} (p : GoodP P) (n most : Int) (hm : 0 ≤ most) (hm2 : most ≤ 1000) : pureRun (Phi fns (k + 2) 54 [V P, inV n, inV most]) = pure (tuV ((rowOf P n most).map Enc.e)) := pureRun_eq (row_ok p n most hm hm2)
def rfit (P : Plan) (r : List Ev) : Prop := ∀ e ∈ r, efit P e
theorem rowOf_fit (p : GoodP P) (n most : Int) : rfit P (rowOf P n most) := by
  have hb : rfit P (rowBase P n most) := by
    intro e he
    obtain ⟨i, _, rfl⟩ := List.mem_map.mp he
    exact evOf_fit p _
  unfold rowOf
  split
  · intro e he
    rcases List.mem_append.mp he with h | h
    · exact hb e (List.mem_of_mem_take h)
    · simp at h
      subst h
      exact rfl
  · exact hb
theorem rowOf_len (n most : Int) (hm : 0 ≤ most) : ((rowOf P n most).length : Int) ≤ most := by
  have h1 := Int.emod_lt_of_pos n (show 0 < most + 1 by omega)
  have h0 := Int.emod_nonneg n (show most + 1 ≠ 0 by omega)
  have hb : ((rowBase P n most).length : Int) ≤ most := by
    unfold rowBase
    simp
    omega
  unfold rowOf
  split
  · simp
    omega
  · exact hb
/-! ### rows -/
theorem row_len (p : GoodP P) : ∀ (r : List Ev) (g : G), (g.row P r).told.length ≤ g.told.length + 18 * r.length
  | [], g => by simp [G.row]
  | e :: r, g => by
    have h1 := happen_len (g := g) p e
    have h2 := row_len p r (g.happen P e)
    simp only [G.row, List.foldl_cons, List.length_cons] at h2 ⊢
    omega
theorem ok_row (p : GoodP P) : ∀ (r : List Ev) (g : G), Ok P g.toSt → rfit P r → Ok P (g.row P r).toSt
  | [], g, o, _ => o
  | e :: r, g, o, h => ok_row p r (g.happen P e) (ok_happen p o (h e List.mem_cons_self)) fun x hx => h x (List.mem_cons_of_mem _ hx)
theorem row_snoc (g : G) (r : List Ev) (e : Ev) : g.row P (r ++ [e]) = (g.row P r).happen P e := by simp [G.row]
theorem row_append (g : G) (r q : List Ev) : g.row P (r ++ q) = (g.row P r).row P q := by simp [G.row]
theorem story_len (p : GoodP P) {st : St} (r : List Ev) : (storyS P st r).length ≤ 18 * r.length := by
  have := row_len p r (begG st)
  unfold storyS
  simpa using this
/-! ### the begin -/
def begS (P : Plan) : St := ⟨.off, 0, none, List.replicate P.zs.length .shut, [], 0, [], 0, 0, List.replicate P.cs.length 0⟩
theorem rep_one {α : Type} (a : α) (n : Nat) : rep [a] n = List.replicate n a := by
  unfold rep
  induction n with
  | zero => rfl
  | succ n ih => rw [List.replicate_succ, List.flatten_cons, ih]; rfl
theorem begS_ok (p : GoodP P) : Ok P (begS P) where
  ll := by simp [begS]
  ul := by simp [begS]
  an := by simp [begS]
  am := by simp [begS]
  sn := by simp [begS]
  sm := by simp [begS]
  l := by simp [begS, wait]
  c := by simp [begS]
  s0 := by simp [begS]
  s1 := p.ld0
  k0 := by simp [begS]
  k1 := by simp [begS]
  t0 := by simp [begS]
  t1 := by simp [begS]
  l1 := by simp [begS]
  l2 := by simp [begS]
  l3 := by simp [begS]
  c1 := by simp [begS]
/-! ### shown, first_loud -/
def openOf (P : Plan) (ls : List Ln) : List Tx := ((P.names.zip ls).filter fun p => p.2 ≠ .shut).map (·.1)
structure Sh where
  m : Md
  l : Bool
  ns : List Tx
  deriving DecidableEq
instance : Enc Sh where
  e z := .tuple [Enc.e z.m, .bool z.l, .tuple (z.ns.map Enc.e)]
  dp := 2
  ok z := by simp
  inj a b := by cases a; cases b; simp
theorem e_Sh (z : Sh) : Enc.e z = PyData.tuple [Enc.e z.m, .bool z.l, .tuple (z.ns.map Enc.e)] := (rfl)
@[simp] theorem dp_Sh : Enc.dp Sh = 2 := (rfl)
def shownS (P : Plan) (st : St) : Sh := ⟨st.mode, decide (0 < st.siren), openOf P st.lines⟩
@[simp] theorem ix_S0 (z : St) : ixV (V z) (inV 0) = pure (V z.mode) := (rfl)
@[simp] theorem ix_S1 (z : St) : ixV (V z) (inV 1) = pure (inV z.left) := (rfl)
@[simp] theorem ix_S2 (z : St) : ixV (V z) (inV 2) = pure (V z.came) := (rfl)
@[simp] theorem ix_S3 (z : St) : ixV (V z) (inV 3) = pure (tuV (z.lines.map Enc.e)) := (rfl)
@[simp] theorem ix_S4 (z : St) : ixV (V z) (inV 4) = pure (tuV (z.shunts.map Enc.e)) := (rfl)
@[simp] theorem ix_S5 (z : St) : ixV (V z) (inV 5) = pure (inV z.siren) := (rfl)
@[simp] theorem ix_S6 (z : St) : ixV (V z) (inV 6) = pure (tuV (z.alarms.map Enc.e)) := (rfl)
@[simp] theorem ix_S7 (z : St) : ixV (V z) (inV 7) = pure (inV z.tries) := (rfl)
@[simp] theorem ix_S8 (z : St) : ixV (V z) (inV 8) = pure (inV z.locked) := (rfl)
@[simp] theorem ix_S9 (z : St) : ixV (V z) (inV 9) = pure (tuV (z.used.map Enc.e)) := (rfl)
def loud (t : Td) : Bool := decide (t.w = .alarm ∨ t.w = .attack)
def oTd : Option Td → D
  | some t => Enc.e t
  | none => .none
def firstLoud (P : Plan) (st : St) (r : List Ev) : Option Td := (storyS P st r).find? loud
end Dt

/-! GT: what was told before stays; rows in parts; ticks in parts. -/
namespace Dt
open PySem Dw
variable {P : Plan} {g : G}
def sh (w : Int) (t : Td) : Td := {t with t := w + t.t}
def G.fr (g : G) (w : Int) (td : List Td) : G := {g with went := w + g.went, told := td ++ g.told.map (sh w)}
@[simp] theorem fr_st (w : Int) (td : List Td) : (g.fr w td).toSt = g.toSt := rfl
@[simp] theorem fr_went (w : Int) (td : List Td) : (g.fr w td).went = w + g.went := rfl
@[simp] theorem fr_told (w : Int) (td : List Td) : (g.fr w td).told = td ++ g.told.map (sh w) := rfl
theorem fr_tell (w : Int) (td : List Td) (a : Wo) (n : Option Tx) : (g.fr w td).tell a n = (g.tell a n).fr w td := by simp [G.fr, G.tell, sh]
theorem fr_alarm (w : Int) (td : List Td) (z : Tx) : (g.fr w td).alarm P z = (g.alarm P z).fr w td := by
  by_cases h : z ∈ g.alarms
  · simp [G.alarm, G.fr, h]
  · simp [G.alarm, G.fr, G.tell, sh, h]
theorem ite_fr {c : Prop} [Decidable c] {w : Int} {td : List Td} {a b a' b' : G} (h1 : c → a' = a.fr w td) (h2 : ¬c → b' = b.fr w td) : (if c then a' else b') = (if c then a else b).fr w td := by
  split
  · exact h1 ‹_›
  · exact h2 ‹_›
theorem fr_opened (w : Int) (td : List Td) (z : Tx) (kd : Kd) : (g.fr w td).opened P z kd = (g.opened P z kd).fr w td := by
  unfold G.opened
  refine ite_fr (fun _ => fr_alarm w td z) fun _ => ite_fr (fun _ => fr_alarm w td z) fun _ => ite_fr (fun _ => ?_) fun _ => rfl
  exact fr_tell (g := {g with mode := .coming, left := P.cm, came := some z}) w td _ _
theorem fr_line (w : Int) (td : List Td) (z : Tx) (x : Ln) : (g.fr w td).line P z x = (g.line P z x).fr w td := by
  unfold G.line
  refine ite_fr (fun _ => rfl) fun _ => ?_
  dsimp only
  refine ite_fr (fun _ => ite_fr (fun _ => ?_) fun _ => rfl) fun _ => ite_fr (fun _ => rfl) fun _ => ite_fr (fun _ => ?_) fun _ => ite_fr (fun _ => ite_fr (fun _ => ?_) fun _ => rfl) fun _ => ite_fr (fun _ => ?_) fun _ => ?_
  · exact fr_tell (g := {g with lines := g.lines.set (P.idx z) x}) w td _ _
  · exact fr_alarm (g := {g with lines := g.lines.set (P.idx z) x}) w td z
  · exact fr_tell (g := {g with lines := g.lines.set (P.idx z) x}) w td _ _
  · exact fr_alarm (g := {g with lines := g.lines.set (P.idx z) x}) w td z
  · exact fr_opened (g := {g with lines := g.lines.set (P.idx z) x}) w td z _
theorem fr_ringIf (w : Int) (td : List Td) (z : Zn) : (g.fr w td).ringIf P z = (g.ringIf P z).fr w td := by
  unfold G.ringIf
  exact ite_fr (fun _ => fr_alarm w td _) fun _ => rfl
theorem fr_rings (w : Int) (td : List Td) : ∀ (zs : List Zn) (g : G), zs.foldl (G.ringIf P) (g.fr w td) = (zs.foldl (G.ringIf P) g).fr w td
  | [], g => rfl
  | z :: zs, g => by rw [List.foldl_cons, List.foldl_cons, fr_ringIf, fr_rings w td zs]
theorem fr_leftBehind (w : Int) (td : List Td) : (g.fr w td).leftBehind P = (g.leftBehind P).fr w td := by
  unfold G.leftBehind
  rw [show ({g.fr w td with mode := .on} : G) = ({g with mode := .on} : G).fr w td from rfl, fr_tell, fr_rings]
theorem fr_comeIn (w : Int) (td : List Td) (z : Tx) : (g.fr w td).comeIn P z = (g.comeIn P z).fr w td :=
  fr_alarm (g := {g with mode := .on, came := none}) w td z
theorem fr_pass (w : Int) (td : List Td) (n : Int) : (g.fr w td).pass n = (g.pass n).fr w td := by
  simp [G.pass, G.fr, Int.add_assoc]
theorem fr_step (w : Int) (td : List Td) (n : Int) : (g.fr w td).step P n = (g.step P n).fr w td := by
  unfold G.step
  rw [fr_pass]
  refine ite_fr (fun _ => ite_fr (fun _ => ite_fr (fun _ => ?_) fun _ => ?_) fun _ => rfl) fun _ => rfl
  · exact fr_leftBehind (g := {g.pass n with left := 0}) w td
  · exact fr_comeIn (g := {g.pass n with left := 0}) w td _
theorem fr_ticks (w : Int) (td : List Td) (n : Int) : (g.fr w td).ticks P n = (g.ticks P n).fr w td := by
  unfold G.ticks
  refine ite_fr (fun _ => ite_fr (fun _ => ite_fr (fun _ => ?_) fun _ => ?_) fun _ => ?_) fun _ => rfl
  · rw [fr_step, fr_step]; rfl
  · rw [fr_step]; rfl
  · rw [fr_step]
theorem fr_wrong (w : Int) (td : List Td) : (g.fr w td).wrong P = (g.wrong P).fr w td := by
  unfold G.wrong
  rw [fr_tell]
  exact ite_fr (fun _ => fr_tell (g := {g.tell .wrong none with tries := 0, locked := 90, siren := P.ld}) w td _ _) fun _ => rfl
theorem fr_doIt (w : Int) (td : List Td) (d : Dd) (z : Option Tx) (who : Tx) : (g.fr w td).doIt P d z who = (g.doIt P d z who).fr w td := by
  cases d with
  | set =>
    show (if P.lv = 0 then _ else _) = _
    rw [show (({g.fr w td with alarms := [], siren := 0, mode := .leaving, left := P.lv} : G).tell .set (some who)) = (({g with alarms := [], siren := 0, mode := .leaving, left := P.lv} : G).tell .set (some who)).fr w td from fr_tell (g := {g with alarms := [], siren := 0, mode := .leaving, left := P.lv}) w td _ _, fr_leftBehind]
    exact ite_fr (fun _ => rfl) fun _ => rfl
  | unset => exact fr_tell (g := {g with mode := .off, left := 0, came := none, siren := 0, shunts := []}) w td _ _
  | shunt =>
    cases z with
    | none => rfl
    | some z => exact fr_tell (g := {g with shunts := sortT (g.shunts ++ [z])}) w td _ _
  | free =>
    cases z with
    | none => rfl
    | some z => exact fr_tell (g := {g with shunts := g.shunts.filter fun x => x ≠ z}) w td _ _
theorem fr_done (w : Int) (td : List Td) (a : Nat) (c : Cd) (d : Dd) (z : Option Tx) : (g.fr w td).done P a c d z = (g.done P a c d z).fr w td := by
  unfold G.done
  dsimp only
  refine ite_fr (fun _ => ?_) fun _ => ite_fr (fun _ => ?_) fun _ => ite_fr (fun _ => ?_) fun _ => ?_
  · exact fr_tell (g := {g with tries := 0}) w td _ _
  · exact fr_tell (g := {g with tries := 0}) w td _ _
  · exact fr_tell (g := {g with tries := 0}) w td _ _
  · exact fr_doIt (g := {g with tries := 0, used := _}) w td _ _ _
theorem fr_code (w : Int) (td : List Td) (f : Tx) (d : Dd) (z : Option Tx) : (g.fr w td).code P f d z = (g.code P f d z).fr w td := by
  unfold G.code
  refine ite_fr (fun _ => fr_tell w td _ _) fun _ => ?_
  cases P.codeAt f with
  | none => exact fr_wrong w td
  | some a =>
    dsimp only
    cases P.cs[a]? with
    | none => rfl
    | some c => exact ite_fr (fun _ => fr_wrong w td) fun _ => fr_done w td _ _ _ _
theorem fr_happen (w : Int) (td : List Td) (e : Ev) : (g.fr w td).happen P e = (g.happen P e).fr w td := by
  cases e with
  | line z x => exact fr_line w td z x
  | code f d z => exact fr_code w td f d z
  | ticks n => exact fr_ticks w td n
theorem fr_row (w : Int) (td : List Td) : ∀ (r : List Ev) (g : G), (g.fr w td).row P r = (g.row P r).fr w td
  | [], g => rfl
  | e :: r, g => by
    show ((g.fr w td).happen P e).row P r = _
    rw [fr_happen]
    exact fr_row w td r _
theorem fr_beg (g : G) : (begG g.toSt).fr g.went g.told = g := by
  obtain ⟨st, w, td⟩ := g
  show (⟨st, w + 0, td ++ [].map (sh w)⟩ : G) = _
  simp only [Int.add_zero, List.map_nil, List.append_nil]
theorem happen_eq (g : G) (e : Ev) : g.happen P e = (goneG P g.toSt e).fr g.went g.told := by
  conv => lhs; rw [← fr_beg g]
  exact fr_happen _ _ e
theorem row_eq (g : G) (r : List Ev) : g.row P r = ((begG g.toSt).row P r).fr g.went g.told := by
  conv => lhs; rw [← fr_beg g]
  exact fr_row _ _ r _
def wentS (P : Plan) (st : St) (r : List Ev) : Int := ((begG st).row P r).went
theorem after_append (st : St) (r q : List Ev) : afterS P st (r ++ q) = afterS P (afterS P st r) q := by
  unfold afterS
  rw [row_append, row_eq]
  rfl
theorem story_append (st : St) (r q : List Ev) : storyS P st (r ++ q) = storyS P st r ++ (storyS P (afterS P st r) q).map (sh (wentS P st r)) := by
  unfold storyS
  rw [row_append, row_eq]
  rfl
theorem went_append (st : St) (r q : List Ev) : wentS P st (r ++ q) = wentS P st r + wentS P (afterS P st r) q := by
  unfold wentS
  rw [row_append, row_eq]
  rfl
@[simp] theorem after_nil (st : St) : afterS P st [] = st := rfl
@[simp] theorem story_nil (st : St) : storyS P st [] = [] := rfl
@[simp] theorem went_nil (st : St) : wentS P st [] = 0 := rfl
theorem after_one (st : St) (e : Ev) : afterS P st [e] = goneS P st e := rfl
theorem story_one (st : St) (e : Ev) : storyS P st [e] = (goneG P st e).told := rfl
theorem went_one (st : St) (e : Ev) : wentS P st [e] = (goneG P st e).went := rfl
theorem after_cons (st : St) (e : Ev) (r : List Ev) : afterS P st (e :: r) = afterS P (goneS P st e) r := after_append st [e] r
theorem story_cons (st : St) (e : Ev) (r : List Ev) : storyS P st (e :: r) = (goneG P st e).told ++ (storyS P (goneS P st e) r).map (sh (goneG P st e).went) := story_append st [e] r
theorem went_cons (st : St) (e : Ev) (r : List Ev) : wentS P st (e :: r) = (goneG P st e).went + wentS P (goneS P st e) r := went_append st [e] r
/-- how many ticks an event takes -/
def evT : Ev → Int
  | .ticks n => n
  | _ => 0
theorem opened_went (z : Tx) (kd : Kd) : (g.opened P z kd).went = g.went := by
  unfold G.opened
  repeat' split
  all_goals simp
theorem line_went (z : Tx) (w : Ln) : (g.line P z w).went = g.went := by
  unfold G.line
  dsimp only
  repeat' split
  all_goals simp [opened_went]
theorem step_went (n : Int) : (g.step P n).went = g.went + n := by
  unfold G.step
  repeat' split
  all_goals simp [G.pass]
theorem ticks_went {n : Int} (hn : 0 < n) : (g.ticks P n).went = g.went + n := by
  unfold G.ticks
  rw [if_pos hn]
  split
  · split
    · rw [step_went, step_went]; omega
    · rw [step_went]; omega
  · rw [step_went]
theorem wrong_went : (g.wrong P).went = g.went := by
  unfold G.wrong
  split <;> simp
theorem doIt_went (d : Dd) (z : Option Tx) (who : Tx) : (g.doIt P d z who).went = g.went := by
  unfold G.doIt
  split
  · dsimp only
    split <;> simp
  all_goals simp
theorem code_went (f : Tx) (d : Dd) (z : Option Tx) : (g.code P f d z).went = g.went := by
  unfold G.code G.done
  dsimp only
  repeat' split
  all_goals simp [wrong_went, doIt_went]
theorem happen_went {e : Ev} (he : efit P e) : (g.happen P e).went = g.went + evT e := by
  cases e with
  | line z w => simp [G.happen, line_went, evT]
  | code f d z => simp [G.happen, code_went, evT]
  | ticks n => exact ticks_went (by have : 1 ≤ n := he; omega)
theorem row_went : ∀ (r : List Ev) (g : G), rfit P r → (g.row P r).went = g.went + (r.map evT).sum
  | [], g, _ => by simp [G.row]
  | e :: r, g, h => by
    show ((g.happen P e).row P r).went = _
    rw [row_went r _ fun x hx => h x (List.mem_cons_of_mem _ hx), happen_went (h e List.mem_cons_self)]
    simp
    omega
theorem went_sum (st : St) {r : List Ev} (h : rfit P r) : wentS P st r = (r.map evT).sum := by
  unfold wentS
  rw [row_went r _ h]
  simp
theorem rfit_app {r q : List Ev} : rfit P (r ++ q) ↔ rfit P r ∧ rfit P q := by
  unfold rfit
  constructor
  · intro h
    exact ⟨fun e he => h e (List.mem_append_left _ he), fun e he => h e (List.mem_append_right _ he)⟩
  · rintro ⟨h1, h2⟩ e he
    rcases List.mem_append.mp he with h | h
    · exact h1 e h
    · exact h2 e h
theorem rfit_take {r : List Ev} (h : rfit P r) (n : Nat) : rfit P (r.take n) := fun e he => h e (List.mem_of_mem_take he)
theorem rfit_drop {r : List Ev} (h : rfit P r) (n : Nat) : rfit P (r.drop n) := fun e he => h e (List.mem_of_mem_drop he)
theorem rfit_cons {e : Ev} {r : List Ev} : rfit P (e :: r) ↔ efit P e ∧ rfit P r := rfit_app (r := [e]) |>.trans (by
  constructor
  · rintro ⟨h1, h2⟩; exact ⟨h1 e (by simp), h2⟩
  · rintro ⟨h1, h2⟩; exact ⟨fun x hx => by simp at hx; subst hx; exact h1, h2⟩)
theorem rfit_nil : rfit P [] := fun _ h => by cases h
theorem ok_after (p : GoodP P) {st : St} (o : Ok P st) {r : List Ev} (h : rfit P r) : Ok P (afterS P st r) := ok_row p r (begG st) o h
theorem ok_gone (p : GoodP P) {st : St} (o : Ok P st) {e : Ev} (h : efit P e) : Ok P (goneS P st e) := ok_happen p (g := begG st) o h
/-! ### ticks in parts -/
theorem mx_mx (x a b : Int) (ha : 0 ≤ a) (hb : 0 ≤ b) : mx (mx (x - a) - b) = mx (x - (a + b)) := by
  unfold mx
  repeat' split
  all_goals omega
theorem pass_pass {a b : Int} (ha : 0 ≤ a) (hb : 0 ≤ b) : (g.pass a).pass b = g.pass (a + b) := by
  unfold G.pass
  simp [mx_mx _ a b ha hb, Int.add_assoc]
theorem step_full (hw : wait g.mode = true) : g.step P g.left = if g.mode = .leaving then ({g.pass g.left with left := 0} : G).leftBehind P else ({g.pass g.left with left := 0} : G).comeIn P (g.came.getD ⟨"", by simp⟩) := by
  unfold G.step
  rw [if_pos hw, if_pos (by omega)]
theorem step_step (hw : wait g.mode = true) {a : Int} (ha : 0 ≤ a) (hl : a ≤ g.left) : ({g.pass a with left := g.left - a} : G).step P (g.left - a) = g.step P g.left := by
  have e : ({g.pass a with left := g.left - a} : G).pass (g.left - a) = {g.pass g.left with left := g.left - a} := by
    have := pass_pass (g := g) ha (show 0 ≤ g.left - a by omega)
    rw [show a + (g.left - a) = g.left by omega] at this
    rw [← this]
    rfl
  rw [step_full hw]
  refine (step_full (g := {g.pass a with left := g.left - a}) hw).trans ?_
  show (if g.mode = .leaving then ({({g.pass a with left := g.left - a} : G).pass (g.left - a) with left := 0} : G).leftBehind P else ({({g.pass a with left := g.left - a} : G).pass (g.left - a) with left := 0} : G).comeIn P (g.came.getD _)) = _
  rw [e]
theorem ticks_add (w : Wt P g.toSt) {a b : Int} (ha : 0 ≤ a) (hb : 0 ≤ b) : (g.ticks P a).ticks P b = g.ticks P (a + b) := by
  rcases Int.lt_or_eq_of_le ha with ha | rfl
  · rcases Int.lt_or_eq_of_le hb with hb | rfl
    · cases hw : wait g.mode with
      | false =>
        have e : ∀ n, 0 < n → g.ticks P n = g.pass n := fun n hn => by
          unfold G.ticks
          rw [if_pos hn, hw, step_not hw n]
          simp
        have e2 : ∀ n, 0 < n → (g.pass a).ticks P n = (g.pass a).pass n := fun n hn => by
          unfold G.ticks
          rw [if_pos hn, if_neg (by rw [show (g.pass a).mode = g.mode from rfl, hw]; simp), step_not (by exact hw)]
        rw [e a ha, e2 b hb, e _ (by omega), pass_pass (by omega) (by omega)]
      | true =>
        have hl := w.l hw
        by_cases hc : g.left ≤ a
        · have m := step_over (P := P) hw
          have nw : wait (g.step P g.left).mode = false := by rw [m]; rfl
          have e : ∀ n, 0 < n → (g.step P g.left).ticks P n = (g.step P g.left).pass n := fun n hn => by
            unfold G.ticks
            rw [if_pos hn, nw, step_not nw n]
            simp
          have e2 : ∀ c n, 0 < n → ((g.step P g.left).pass c).ticks P n = ((g.step P g.left).pass c).pass n := fun c n hn => by
            unfold G.ticks
            rw [if_pos hn, if_neg (by rw [show ((g.step P g.left).pass c).mode = (g.step P g.left).mode from rfl, nw]; simp), step_not (by exact nw)]
          have t1 : g.ticks P a = if 0 < a - g.left then (g.step P g.left).pass (a - g.left) else g.step P g.left := by
            unfold G.ticks
            rw [if_pos ha, if_pos ⟨hw, hc⟩, step_not nw]
          have t2 : g.ticks P (a + b) = (g.step P g.left).pass (a + b - g.left) := by
            unfold G.ticks
            rw [if_pos (by omega), if_pos ⟨hw, by omega⟩, if_pos (by omega), step_not nw]
          rw [t1, t2]
          by_cases h0 : 0 < a - g.left
          · rw [if_pos h0, e2 _ _ hb, pass_pass (by omega) (by omega)]
            congr 1; omega
          · rw [if_neg h0, e _ hb]
            congr 1; omega
        · have t1 : g.ticks P a = {g.pass a with left := g.left - a} := by
            unfold G.ticks
            rw [if_pos ha, if_neg (fun h => hc h.2), step_part hw (by omega)]
          rw [t1]
          have hw1 : wait ({g.pass a with left := g.left - a} : G).mode = true := hw
          by_cases h2 : g.left - a ≤ b
          · unfold G.ticks
            rw [if_pos hb, if_pos (show 0 < a + b by omega), if_pos (show wait g.mode = true ∧ g.left ≤ a + b from ⟨hw, by omega⟩), if_pos ⟨hw1, h2⟩]
            have := step_step (P := P) hw (show 0 ≤ a by omega) (show a ≤ g.left by omega)
            show (if 0 < b - (g.left - a) then (G.step P ({g.pass a with left := g.left - a} : G) (g.left - a)).step P (b - (g.left - a)) else G.step P ({g.pass a with left := g.left - a} : G) (g.left - a)) = _
            rw [this, show b - (g.left - a) = a + b - g.left by omega]
          · unfold G.ticks
            rw [if_pos hb, if_pos (show 0 < a + b by omega), if_neg (show ¬ (wait g.mode = true ∧ g.left ≤ a + b) from fun h => by omega), if_neg (fun h => h2 h.2), step_part hw1 (show ({g.pass a with left := g.left - a} : G).left - b ≠ 0 by show g.left - a - b ≠ 0; omega), step_part hw (by omega)]
            have e : ({g.pass a with left := g.left - a} : G).pass b = {g.pass (a + b) with left := g.left - a} := by
              rw [← pass_pass (by omega) (by omega)]
              rfl
            rw [e]
            show ({g.pass (a + b) with left := g.left - a - b} : G) = {g.pass (a + b) with left := g.left - (a + b)}
            rw [show g.left - a - b = g.left - (a + b) by omega]
    · rw [ticks_zero (n := 0) (by omega), Int.add_zero]
  · rw [ticks_zero (n := 0) (by omega), Int.zero_add]
theorem wt_ticks (p : GoodP P) (o : Ok P g.toSt) (n : Int) : Wt P (g.ticks P n).toSt := (ok_ticks p o n).toWt
theorem row_ticks (p : GoodP P) : ∀ (ns : List Int) (g : G), Ok P g.toSt → (∀ n ∈ ns, 1 ≤ n) → g.row P (ns.map .ticks) = g.ticks P ns.sum ∧ 0 ≤ ns.sum
  | [], g, _, _ => by
    refine ⟨?_, by simp⟩
    rw [ticks_zero (by simp)]
    rfl
  | n :: ns, g, o, h => by
    have hn := h n List.mem_cons_self
    obtain ⟨h1, h2⟩ := row_ticks p ns (g.ticks P n) (ok_ticks p o n) fun m hm => h m (List.mem_cons_of_mem _ hm)
    refine ⟨?_, by rw [List.sum_cons]; omega⟩
    show (g.ticks P n).row P (ns.map .ticks) = _
    rw [h1, ticks_add o.toWt (by omega) h2, List.sum_cons]
/-! ### ticks change little -/
@[simp] theorem step_lines (n : Int) : (g.step P n).lines = g.lines := by unfold G.step; (repeat' split) <;> simp [G.pass]
@[simp] theorem step_shunts (n : Int) : (g.step P n).shunts = g.shunts := by unfold G.step; (repeat' split) <;> simp [G.pass]
@[simp] theorem step_used (n : Int) : (g.step P n).used = g.used := by unfold G.step; (repeat' split) <;> simp [G.pass]
@[simp] theorem step_tries (n : Int) : (g.step P n).tries = g.tries := by unfold G.step; (repeat' split) <;> simp [G.pass]
@[simp] theorem ticks_lines (n : Int) : (g.ticks P n).lines = g.lines := by unfold G.ticks; (repeat' split) <;> simp
@[simp] theorem ticks_shunts (n : Int) : (g.ticks P n).shunts = g.shunts := by unfold G.ticks; (repeat' split) <;> simp
@[simp] theorem ticks_used (n : Int) : (g.ticks P n).used = g.used := by unfold G.ticks; (repeat' split) <;> simp
@[simp] theorem ticks_tries (n : Int) : (g.ticks P n).tries = g.tries := by unfold G.ticks; (repeat' split) <;> simp
theorem mx_neg {x : Int} (h : x ≤ 0) : mx x = 0 := by unfold mx; split <;> omega
/-- behind very many ticks -/
theorem ticks_far (p : GoodP P) (o : Ok P g.toSt) {n : Int} (hn : 400 ≤ n) : wait (g.ticks P n).mode = false ∧ (g.ticks P n).left = 0 ∧ (g.ticks P n).siren = 0 ∧ (g.ticks P n).locked = 0 ∧ (g.ticks P n).came = none := by
  have h1 := o.s1
  have h2 := o.k1
  have h3 := p.ld1
  have h4 := p.lv1
  have h5 := p.cm1
  have key : wait (g.ticks P n).mode = false ∧ (g.ticks P n).siren = 0 ∧ (g.ticks P n).locked = 0 := by
    cases hw : wait g.mode with
    | false =>
      have e : g.ticks P n = g.pass n := by
        unfold G.ticks
        rw [if_pos (by omega), hw, step_not hw n]
        simp
      rw [e]
      exact ⟨hw, mx_neg (by omega), mx_neg (by omega)⟩
    | true =>
      have hl : g.left ≤ 60 := by
        simp [wait] at hw
        rcases hw with h | h
        · have := o.l1 h; omega
        · have := o.l2 h; omega
      have m := step_over (P := P) hw
      have nw : wait (g.step P g.left).mode = false := by rw [m]; rfl
      have o1 := ok_step p o (n := g.left) (by have := o.l hw; omega) (fun _ => by omega)
      have e : g.ticks P n = (g.step P g.left).pass (n - g.left) := by
        unfold G.ticks
        rw [if_pos (by omega), if_pos ⟨hw, by omega⟩, if_pos (by omega), step_not nw]
      rw [e]
      refine ⟨nw, mx_neg ?_, mx_neg ?_⟩
      · have := o1.s1; omega
      · have := o1.k1; omega
  have o1 := ok_ticks p o n
  refine ⟨key.1, o1.l3 key.1, key.2.1, key.2.2, o1.c1 ?_⟩
  intro h
  rw [h] at key
  simp [wait] at key
/-- ticks in which nothing is under way -/
theorem ticks_idle {st : St} (h0 : wait st.mode = false) (h1 : st.siren = 0) (h2 : st.locked = 0) {n : Int} (hn : 0 < n) : goneG P st (.ticks n) = (begG st).fr n [] := by
  have e : goneG P st (.ticks n) = (begG st).pass n := by
    show (begG st).ticks P n = _
    unfold G.ticks
    rw [if_pos hn, if_neg (by rw [show wait (begG st).mode = wait st.mode from rfl, h0]; simp), step_not (by exact h0)]
  rw [e]
  obtain ⟨mode, left, came, lines, shunts, siren, alarms, tries, locked, used⟩ := st
  simp only at h1 h2
  subst h1 h2
  show (⟨⟨mode, left, came, lines, shunts, mx (0 - n), alarms, tries, mx (0 - n), used⟩, 0 + n, []⟩ : G) = ⟨⟨mode, left, came, lines, shunts, 0, alarms, tries, 0, used⟩, n + 0, [] ++ [].map (sh n)⟩
  rw [mx_neg (by omega), Int.zero_add, Int.add_zero]
  rfl
end Dt

/-! LawT: steps through a law's body. -/
namespace Dt
open PySem Dw
theorem e_Plan (P : Plan) : Enc.e P = PyData.tuple [.tuple (P.zs.map Enc.e), .tuple (P.cs.map Enc.e), .tuple [.int P.lv, .int P.cm, .int P.ld]] := (rfl)
@[simp] theorem bi_int_bl (b : Bool) : bi .int [blV b] = pure (inV (if b then 1 else 0)) := (rfl)
@[simp] theorem mul_lst (xs : List D) (j : Int) : binop .Mult (liV xs) (inV j) = okS (decide (0 ≤ j) && decide (j < 2 ^ 63) && decide (xs.length * j.toNat ≤ szLine)) (liV (rep xs j.toNat)) := (rfl)
@[simp] theorem rep_0 {α : Type} (xs : List α) : rep xs 0 = [] := rfl
@[simp] theorem rep_1 {α : Type} (xs : List α) : rep xs 1 = xs := by simp [rep]
@[simp] theorem atI_ite {α : Type} (c : Prop) [Decidable c] (a b : α) : L2.atI [a, b] (if c then 1 else 0) = some (if c then b else a) := by split <;> simp
theorem for_nx_ex {α : Type} {h : α → Vl} {f : Vl → Dw.Env → M (Fl × Dw.Env)} (I : List α → Dw.Env → Sto → Prop)
    (as : List α) (env : Dw.Env) (s : Sto) (h0 : I [] env s)
    (hs : ∀ pre a post e t, as = pre ++ a :: post → I pre e t → (f (h a) e t).sat fun p t' => p.1 = .nx ∧ I (pre ++ [a]) p.2 t') : ∃ e t, forL f (as.map h) env s = .ok (.nx, e) t ∧ I as e t := by
  have key : (forL f (as.map h) env s).sat fun p t => p.1 = .nx ∧ I as p.2 t := by
    refine for_sat (h := h) (f := f) (Q := fun p t => p.1 = .nx ∧ I as p.2 t) I as env s h0 ?_ (fun e t hi => ⟨rfl, hi⟩)
    intro pre a post e t hx hi
    refine sat_mono (hs pre a post e t hx hi) ?_
    rintro p t' ⟨h1, h2⟩
    exact .inl ⟨.inl h1, h2⟩
  obtain ⟨⟨fl, e⟩, t, h1, rfl, h2⟩ := sat_eq key
  exact ⟨e, t, h1, h2⟩
/-- a state's parts -/
def stL (s : St) : List D := [Enc.e s.mode, .int s.left, Enc.e s.came, .tuple (s.lines.map Enc.e), .tuple (s.shunts.map Enc.e), .int s.siren, .tuple (s.alarms.map Enc.e), .int s.tries, .int s.locked, .tuple (s.used.map Enc.e)]
@[simp] theorem sl_St (z : St) (lo hi : Option Int) : slV (V z) lo hi = pure (tuV (cutD (stL z) lo hi)) := (rfl)
@[simp] theorem eqv_St (z : St) (xs : List D) : PyData.eqv (Enc.e z) (.tuple xs) = PyData.eqvAll (stL z) xs := by
  show PyData.eqv (.tuple (stL z)) _ = _
  rw [eqv_tup]
@[simp] theorem eqv_St' (z : St) (xs : List D) : PyData.eqv (.tuple xs) (Enc.e z) = PyData.eqvAll xs (stL z) := by
  show PyData.eqv _ (.tuple (stL z)) = _
  rw [eqv_tup]
@[simp] theorem eqv_Sh (z : Sh) (xs : List D) : PyData.eqv (Enc.e z) (.tuple xs) = PyData.eqvAll [Enc.e z.m, .bool z.l, .tuple (z.ns.map Enc.e)] xs := by
  show PyData.eqv (.tuple _) _ = _
  rw [eqv_tup]
/-- the script in the store -/
structure Scr (ns : List Int) (s : Sto) : Prop where
  t : s.take 1 = s
  b : ∀ x ∈ s, obBelow 1 x = true
  n : s.length = 1
  m : ∀ (k i : Nat) (x : Int), x = i → Phi fns (k + 2) 14 [.o 0, inV x] s = .ok (inV (mixed (ns.getD i 0) i)) s
theorem scr_scr (ns : List Int) : Scr ns (scr0 ns) := ⟨rfl, by simp [obBelow], rfl, fun k i x h => by subst h; exact mixed_ok ns i⟩
/-- a law's end -/
theorem law_end {id : Nat} {F : Fn} {ns : List Int} (hf : fns id = some F) (hp : F.np = 1) (hd : F.drop = true)
    (h : ∀ s, Scr ns s → ∃ s', (exB (Phi fns (0 + 59)) F.body (enter F [.o 0]) s).bd (lvK true 1) = .ok (blV true) s') : ∃ st, Phi fns 60 id [.o 0] (scr0 ns) = .ok (blV true) st := by
  obtain ⟨s', h⟩ := h _ (scr_scr ns)
  refine ⟨s', ?_⟩
  rw [run_of hf (by rw [hp]; rfl), hd, leave_bd]
  exact h
theorem scr_o {ns : List Int} {o : Ob} (h : ScrO ns o) : Scr ns [o] := by
  rcases h with rfl | rfl
  · exact scr_scr ns
  · exact ⟨rfl, by simp [obBelow], rfl, fun k i x h => by subst h; exact mixed_ok2 ns i⟩
/-- a law's end, for both stores -/
theorem law_end2 {id : Nat} {F : Fn} {ns : List Int} {o : Ob} (ho : ScrO ns o) (hf : fns id = some F) (hp : F.np = 1) (hd : F.drop = true)
    (h : ∀ s, Scr ns s → ∃ s', (exB (Phi fns (0 + 49)) F.body (enter F [.o 0]) s).bd (lvK true 1) = .ok (blV true) s') : ∃ st, Phi fns 50 id [.o 0] [o] = .ok (blV true) st := by
  obtain ⟨s', h⟩ := h _ (scr_o ho)
  refine ⟨s', ?_⟩
  rw [run_of hf (by rw [hp]; rfl), hd, leave_bd]
  exact h
end Dt

/-! GU: what is told, in time and by words. -/
namespace Dt
open PySem Dw
variable {P : Plan} {g : G}
/-! ### in time -/
/-- g' comes of g by tellings: what is told more is told in between, in order -/
def Tl (lo : Int) (g g' : G) : Prop := g.went ≤ g'.went ∧ ∃ m, g'.told = g.told ++ m ∧ (∀ t ∈ m, lo ≤ t.t ∧ t.t ≤ g'.went) ∧ m.Pairwise fun a b => a.t ≤ b.t
theorem Tl.rfl' (lo : Int) (g : G) : Tl lo g g := ⟨Int.le_refl _, [], by simp, by simp, .nil⟩
theorem Tl.same {lo : Int} {g g' : G} (h : g'.told = g.told) (w : g.went ≤ g'.went) : Tl lo g g' := ⟨w, [], by simp [h], by simp, .nil⟩
theorem Tl.trans {lo : Int} {g1 g2 g3 : G} (h1 : Tl lo g1 g2) (h2 : Tl g2.went g2 g3) (hl : lo ≤ g2.went) : Tl lo g1 g3 := by
  obtain ⟨w1, m1, e1, b1, p1⟩ := h1
  obtain ⟨w2, m2, e2, b2, p2⟩ := h2
  refine ⟨Int.le_trans w1 w2, m1 ++ m2, by rw [e2, e1, List.append_assoc], fun t ht => ?_, ?_⟩
  · rcases List.mem_append.mp ht with h | h
    · exact ⟨(b1 t h).1, Int.le_trans (b1 t h).2 w2⟩
    · exact ⟨Int.le_trans hl (b2 t h).1, (b2 t h).2⟩
  · rw [List.pairwise_append]
    refine ⟨p1, p2, fun a ha b hb => Int.le_trans (b1 a ha).2 (b2 b hb).1⟩
theorem Tl.tell (g0 g : G) (h : Tl g0.went g0 g) (w : Wo) (n : Option Tx) : Tl g0.went g0 (g.tell w n) := h.trans ⟨Int.le_refl _, [⟨g.went, w, n⟩], rfl, by simp, by simp⟩ h.1
theorem tl_alarm (z : Tx) : Tl g.went g (g.alarm P z) := by
  unfold G.alarm
  split
  · exact .same rfl (Int.le_refl _)
  · exact Tl.tell g {g with siren := P.ld, alarms := g.alarms ++ [z]} (.same rfl (Int.le_refl _)) _ _
theorem tl_opened (z : Tx) (kd : Kd) : Tl g.went g (g.opened P z kd) := by
  unfold G.opened
  split
  · exact tl_alarm z
  · split
    · exact tl_alarm z
    · split
      · exact Tl.tell g {g with mode := .coming, left := P.cm, came := some z} (.same rfl (Int.le_refl _)) _ _
      · exact .rfl' _ _
theorem tl_line (z : Tx) (w : Ln) : Tl g.went g (g.line P z w) := by
  have h0 : Tl g.went g ({g with lines := g.lines.set (P.idx z) w} : G) := .same rfl (Int.le_refl _)
  unfold G.line
  split
  · exact .rfl' _ _
  · dsimp only
    repeat' split
    all_goals first | exact h0 | exact h0.tell _ _ _ _ | exact h0.trans (tl_alarm (g := {g with lines := g.lines.set (P.idx z) w}) z) (Int.le_refl _) | exact h0.trans (tl_opened (g := {g with lines := g.lines.set (P.idx z) w}) z _) (Int.le_refl _)
theorem tl_ring (z : Zn) : Tl g.went g (g.ringIf P z) := by
  unfold G.ringIf
  split
  · exact tl_alarm _
  · exact .rfl' _ _
theorem tl_rings : ∀ (zs : List Zn) (g : G), Tl g.went g (zs.foldl (G.ringIf P) g)
  | [], g => .rfl' _ _
  | z :: zs, g => (tl_ring z).trans (tl_rings zs _) (tl_ring (P := P) z).1
theorem tl_leftBehind : Tl g.went g (g.leftBehind P) := by
  unfold G.leftBehind
  exact (Tl.tell g {g with mode := .on} (.same rfl (Int.le_refl _)) _ _).trans (tl_rings _ _) (Int.le_refl _)
theorem tl_comeIn (z : Tx) : Tl g.went g (g.comeIn P z) := by
  unfold G.comeIn
  exact (Tl.same (lo := g.went) (g := g) (g' := {g with mode := .on, came := none}) rfl (Int.le_refl _)).trans (tl_alarm z) (Int.le_refl _)
theorem tl_step {n : Int} (hn : 0 ≤ n) : Tl (g.went + n) g (g.step P n) := by
  have h0 : ∀ l, Tl (g.went + n) g ({g.pass n with left := l} : G) := fun l => .same rfl (by show g.went ≤ g.went + n; omega)
  unfold G.step
  split
  · split
    · split
      · exact (h0 0).trans (tl_leftBehind (g := {g.pass n with left := 0})) (by exact Int.le_refl _)
      · exact (h0 0).trans (tl_comeIn (g := {g.pass n with left := 0}) _) (by exact Int.le_refl _)
    · exact h0 _
  · exact .same rfl (by show g.went ≤ g.went + n; omega)
theorem Tl.lo {lo lo' : Int} {g g' : G} (h : Tl lo g g') (hl : lo' ≤ lo) : Tl lo' g g' := by
  obtain ⟨w, m, e, b, p⟩ := h
  exact ⟨w, m, e, fun t ht => ⟨Int.le_trans hl (b t ht).1, (b t ht).2⟩, p⟩
theorem tl_ticks (w : Wt P g.toSt) {n : Int} (hn : 0 < n) : Tl (g.went + 1) g (g.ticks P n) := by
  unfold G.ticks
  rw [if_pos hn]
  split
  · rename_i h
    have hl := w.l h.1
    have h1 := tl_step (P := P) (g := g) (n := g.left) (by omega)
    split
    · have h2 := tl_step (P := P) (g := g.step P g.left) (n := n - g.left) (by omega)
      exact (h1.lo (by omega)).trans (h2.lo (by omega)) (by rw [step_went]; omega)
    · exact h1.lo (by omega)
  · exact (tl_step (by omega)).lo (by omega)
theorem tl_wrong : Tl g.went g (g.wrong P) := by
  unfold G.wrong
  split
  · exact Tl.tell g {g.tell .wrong none with tries := 0, locked := 90, siren := P.ld} (Tl.tell g g (.rfl' _ _) .wrong none) _ _
  · exact Tl.tell g g (.rfl' _ _) .wrong none
theorem tl_doIt (d : Dd) (z : Option Tx) (who : Tx) : Tl g.went g (g.doIt P d z who) := by
  unfold G.doIt
  split
  · dsimp only
    have h1 := Tl.tell g {g with alarms := [], siren := 0, mode := .leaving, left := P.lv} (.same rfl (Int.le_refl _)) .set (some who)
    split
    · exact h1.trans tl_leftBehind (Int.le_refl _)
    · exact h1
  · exact Tl.tell g {g with mode := .off, left := 0, came := none, siren := 0, shunts := []} (.same rfl (Int.le_refl _)) _ _
  · exact Tl.tell g {g with shunts := _} (.same rfl (Int.le_refl _)) _ _
  · exact Tl.tell g {g with shunts := _} (.same rfl (Int.le_refl _)) _ _
  · exact .rfl' _ _
theorem tl_code (f : Tx) (d : Dd) (z : Option Tx) : Tl g.went g (g.code P f d z) := by
  have h1 : ∀ us, Tl g.went g ({g with tries := 0, used := us} : G) := fun us => .same rfl (Int.le_refl _)
  unfold G.code
  split
  · exact Tl.tell g g (.rfl' _ _) _ _
  · split
    · exact tl_wrong
    · split
      · exact .rfl' _ _
      · split
        · exact tl_wrong
        · unfold G.done
          dsimp only
          split
          · exact (h1 g.used).tell _ _ _ _
          · split
            · exact (h1 g.used).tell _ _ _ _
            · split
              · exact (h1 g.used).tell _ _ _ _
              · exact (h1 _).trans (tl_doIt (g := {g with tries := 0, used := _}) _ _ _) (Int.le_refl _)
theorem tl_happen (w : Wt P g.toSt) {e : Ev} (he : efit P e) : Tl g.went g (g.happen P e) := by
  cases e with
  | line z x => exact tl_line z x
  | code f d z => exact tl_code f d z
  | ticks n => exact (tl_ticks w (by have : 1 ≤ n := he; omega)).lo (by omega)
theorem tl_row (p : GoodP P) : ∀ (r : List Ev) (g : G), Ok P g.toSt → rfit P r → Tl g.went g (g.row P r)
  | [], g, _, _ => .rfl' _ _
  | e :: r, g, o, h => by
    have h1 := tl_happen o.toWt (h e List.mem_cons_self)
    exact h1.trans (tl_row p r (g.happen P e) (ok_happen p o (h e List.mem_cons_self)) fun x hx => h x (List.mem_cons_of_mem _ hx)) h1.1
/-- a story stands in order of time -/
theorem story_sorted (p : GoodP P) {st : St} (o : Ok P st) {r : List Ev} (h : rfit P r) : (storyS P st r).Pairwise (fun a b => a.t ≤ b.t) ∧ ∀ t ∈ storyS P st r, 0 ≤ t.t ∧ t.t ≤ wentS P st r := by
  obtain ⟨_, m, e, b, q⟩ := tl_row p r (begG st) o h
  have e : storyS P st r = m := by unfold storyS; rw [e]; rfl
  rw [e]
  exact ⟨q, b⟩
/-- what ticks tell is told within them -/
theorem ticks_told {st : St} (w : Wt P st) {n : Int} (hn : 1 ≤ n) : ∀ t ∈ storyS P st [.ticks n], 1 ≤ t.t ∧ t.t ≤ n := by
  obtain ⟨_, m, e, b, _⟩ := tl_ticks (P := P) (g := begG st) w (show 0 < n by omega)
  have hw : ((begG st).ticks P n).went = n := by rw [ticks_went (by omega)]; show 0 + n = n; omega
  intro t ht
  have e : storyS P st [.ticks n] = m := by
    show ((begG st).ticks P n).told = m
    rw [e]; rfl
  rw [e] at ht
  have := b t ht
  rw [hw] at this
  exact ⟨by have h := this.1; show 1 ≤ t.t; simp at h; exact h, this.2⟩
end Dt

/-! LawU: more steps through a law's body. -/
namespace Dt
open PySem Dw
section
variable {Φ : Nat → List Vl → M Vl} {env : Dw.Env}
@[simp] theorem ev_setL {a : Dw.E} : evE Φ (.setE false a) env = (evE Φ a env >>= fun v => setLen v) := by first | (rw [evE]; done) | (rw [evE]; exact (rfl))
@[simp] theorem ev_setS {a : Dw.E} : evE Φ (.setE true a) env = (evE Φ a env >>= fun v => setSrt v) := by first | (rw [evE]; done) | (rw [evE]; exact (rfl))
@[simp] theorem evps_nil : evPs Φ .nil env = pure [] := by rw [evPs]
@[simp] theorem evps_cons {k v : Dw.E} {r : Ps} : evPs Φ (.cons k v r) env = (evE Φ k env >>= fun x => evE Φ v env >>= fun y => evPs Φ r env >>= fun ps => pure ((x, y) :: ps)) := by rw [evPs]
@[simp] theorem evit_objs {as : Es} : evIt Φ (.objs as) env = (evEs Φ as env >>= fun vs => okS (decide (vs.length ≤ szLine)) (.its vs)) := by rw [evIt]
@[simp] theorem ev_dic {ps : Ps} : evE Φ (.dic ps) env = (newO (.dct []) >>= fun i => evPs Φ ps env >>= fun ps => getO i >>= fun o => match o with
    | .dct [] => keyPs ps >>= fun kvs => okS (decide (kvs.length ≤ 15)) () >>= fun _ => setO i (.dct (dMrg [] kvs)) >>= fun _ => pure (.o i)
    | _ => M.no) := by first | (rw [evE]; done) | (rw [evE]; exact (rfl))
@[simp] theorem ex_setIx {o i e : Dw.E} : exS Φ (.setIx o i e) env = (evE Φ e env >>= fun v => evE Φ o env >>= fun w => evE Φ i env >>= fun x => getOb w >>= fun j => getO j >>= fun ob => match ob with
    | .dct kvs => asD x >>= fun d => Dw.keyOf d >>= fun k => okS (decide (kvs.length < szLine)) () >>= fun _ => setO j (.dct (dPut kvs k v)) >>= fun _ => pure (.nx, env)
    | _ => M.no) := by first | (rw [exS]; done) | (rw [exS]; exact (rfl))
@[simp] theorem getOb_o (i : Nat) : getOb (.o i) = pure i := (rfl)
@[simp] theorem keyOf_int (i : Int) : Dw.keyOf (.int i) = pure (Sum.inl i) := (rfl)
end
theorem compT_eq {α : Type} {f : α → M (Option D)} (g : α → Option D) {as : List α} (hz : as.length ≤ szLine) (hf : ∀ a ∈ as, f a = pure (g a)) : compT f as [] = pure (as.filterMap g) := by
  rw [← compT_fm g as hz]
  exact compT_congr rfl hf []
theorem compT_none {α : Type} {f : α → M (Option D)} {as : List α} (hz : as.length ≤ szLine) (hf : ∀ a ∈ as, f a = pure none) : compT f as [] = pure [] := by
  rw [compT_eq (fun _ => none) hz hf]
  congr 1
  induction as with
  | nil => rfl
  | cons a as ih => simp
theorem for_nx_eq {α β γ : Type} {h : α → Vl} {f : Vl → Dw.Env → M (Fl × Dw.Env)} {K : Fl × Dw.Env → M β} {K2 : β → M γ} {R : R γ} (I : List α → Dw.Env → Sto → Prop)
    {as : List α} {env : Dw.Env} {s : Sto} (h0 : I [] env s)
    (hs : ∀ pre a post e t, as = pre ++ a :: post → I pre e t → (f (h a) e t).sat fun p t' => p.1 = .nx ∧ I (pre ++ [a]) p.2 t')
    (hq : ∀ e t, I as e t → (K (.nx, e) t).bd K2 = R) : ((forL f (as.map h) env s).bd K).bd K2 = R := by
  obtain ⟨e, t, h1, h2⟩ := for_nx_ex I as env s h0 hs
  rw [h1, bd_ok]
  exact hq e t h2
@[simp] theorem cutD_lh {α : Type} (xs : List α) (n m : Nat) : cutD xs (some (n : Int)) (some (m : Int)) = (xs.take m).drop n := by
  unfold cutD
  rw [HT.sIx_nat, HT.sIx_nat]
  apply List.ext_getElem?
  intro i
  rw [List.getElem?_take, List.getElem?_drop, List.getElem?_drop, List.getElem?_take]
  by_cases h : n + i < m
  · rw [if_pos h]
    by_cases h2 : n + i < xs.length
    · rw [if_pos (by omega)]
      congr 1
      omega
    · have hn : ∀ j, n + i ≤ j → xs[j]? = none := fun j hj => List.getElem?_eq_none (by omega)
      rw [hn (n + i) (by omega)]
      split
      · exact (hn _ (by omega))
      · rfl
  · rw [if_neg h, if_neg (by omega)]
@[simp] theorem cutD_lhL {α : Type} (xs : List α) (n m : Nat) : cutD xs (some (no_index (OfNat.ofNat n : Int))) (some (no_index (OfNat.ofNat m : Int))) = (xs.take m).drop n := cutD_lh xs n m
@[simp] theorem cutD_lh1 {α : Type} (xs : List α) (m : Nat) : cutD xs (some 1) (some (no_index (OfNat.ofNat m : Int))) = (xs.take m).drop 1 := cutD_lh xs 1 m
theorem le24 {n : Nat} (h : n ≤ 10000) : n ≤ 16777216 := by omega
theorem le23 {n : Nat} (h : n ≤ 10000) : n ≤ 16777215 := by omega
theorem sum_rev : ∀ ns : List Int, ns.reverse.sum = ns.sum
  | [] => rfl
  | n :: ns => by rw [List.reverse_cons, List.sum_append, sum_rev ns]; simp; omega
theorem intsM_map : ∀ ns : List Int, intsM (ns.map .int) = pure ns
  | [] => rfl
  | n :: ns => by rw [List.map_cons]; unfold intsM; rw [intsM_map ns]; rfl
@[simp] theorem bi_sum (ns : List Int) : bi .sum [liV (ns.map .int)] = pure (inV ns.sum) := by
  show (intsM (ns.map .int) >>= fun ns => (pure (inV ns.sum) : M Vl)) = _
  rw [intsM_map]
  rfl
@[simp] theorem bi_sumT (ns : List Int) : bi .sum [tuV (ns.map .int)] = pure (inV ns.sum) := by
  show (intsM (ns.map .int) >>= fun ns => (pure (inV ns.sum) : M Vl)) = _
  rw [intsM_map]
  rfl
def boolsM_map : ∀ bs : List Bool, boolsM (bs.map .bool) = pure bs
  | [] => rfl
  | b :: bs => by rw [List.map_cons]; unfold boolsM; rw [boolsM_map bs]; rfl
@[simp] theorem bi_all (bs : List Bool) : bi .all [liV (bs.map .bool)] = pure (blV (bs.all id)) := by
  show (boolsM (bs.map .bool) >>= fun bs => (pure (blV (bs.all id)) : M Vl)) = _
  rw [boolsM_map]
  rfl
@[simp] theorem bi_any (bs : List Bool) : bi .any [liV (bs.map .bool)] = pure (blV (bs.any id)) := by
  show (boolsM (bs.map .bool) >>= fun bs => (pure (blV (bs.any id)) : M Vl)) = _
  rw [boolsM_map]
  rfl
@[simp] theorem cmp_notIn_lst (x : D) (xs : List D) : cmpop .NotIn (.d x) (liV xs) = (okS (shp x && shp (.list xs)) (isIn x xs) >>= fun c => pure (!c)) := by cases x <;> exact (rfl)
@[simp] theorem all_int (n : Nat) (ts : List Int) : ts.all (okB n ∘ PyData.int) = true := by
  rw [List.all_eq_true]; intro x _; exact okB_int n x
@[simp] theorem eqvA_int (as bs : List Int) : PyData.eqvAll (as.map PyData.int) (bs.map PyData.int) = decide (as = bs) := eqvA_map as bs
@[simp] theorem bi_list_tup (xs : List D) : bi .list [tuV xs] = pure (liV xs) := (rfl)
@[simp] theorem bi_list_lst (xs : List D) : bi .list [liV xs] = pure (liV xs) := (rfl)
/-! ### list objects -/
theorem eq_ob {t : Sto} {j : Nat} {ys : List D} (x : D) (h : t[j]? = some (.lst ys)) : cmpop .Eq (.d x) (.o j) t = okS (shp x && shp (.list ys)) (PyData.eqv x (.list ys)) t := by
  show (asData (.d x) >>= fun x => asData (.o j) >>= fun y => okS (shp x && shp y) (PyData.eqv x y)) t = _
  rw [run_bd, asData_d, M.pure_run, bd_ok]
  unfold asData
  dsimp only
  rw [run_bd, run_bd, getO_at h, bd_ok]
  rfl
theorem ne_ob {t : Sto} {j : Nat} {ys : List D} (x : D) (h : t[j]? = some (.lst ys)) : cmpop .NotEq (.d x) (.o j) t = (okS (shp x && shp (.list ys)) (PyData.eqv x (.list ys)) t).bd fun c => pure (!c) := by
  rw [← eq_ob x h]
  rfl
theorem in_ob {t : Sto} {j : Nat} {ys : List D} (x : D) (h : t[j]? = some (.lst ys)) : cmpop .In (.d x) (.o j) t = okS (shp x && shp (.list ys)) (isIn x ys) t := by
  have e : cmpop .In (.d x) (.o j) = (asD (.d x) >>= fun x => getO j >>= fun o => match o with | .lst xs => okS (shp x && shp (.list xs)) (isIn x xs) | .dct kvs => (Dw.keyOf x >>= fun k => pure (dGet kvs k).isSome) | _ => M.no) := by cases x <;> rfl
  rw [e, run_bd, asD_d, M.pure_run, bd_ok, run_bd, getO_at h, bd_ok]
theorem len_ob {t : Sto} {j : Nat} {ys : List D} (h : t[j]? = some (.lst ys)) : bi .len [.o j] t = .ok (inV ys.length) t := by
  show (sItems (.o j) >>= fun xs => (pure (inV xs.length) : M Vl)) t = _
  unfold sItems
  dsimp only
  rw [run_bd, run_bd, getO_at h, bd_ok]
  rfl
theorem sort_ints (ts : List Int) (h : ts.Pairwise (fun a b => a ≤ b)) : sortD (ts.map .int) = ts.map .int := by
  unfold sortD
  apply List.mergeSort_of_pairwise
  rw [List.pairwise_map]
  refine h.imp fun {a b} hab => ?_
  show (!PySem.W.dataLt (.int b) (.int a)) = true
  rw [PySem.W.dataLt_int]
  simp
  omega
theorem ordd_ints (ts : List Int) (h : ts.length ≤ 16777216) : ordd (ts.map .int) = true := by
  unfold ordd
  have h1 : ((ts.map PyData.int).all fun x => shp x && (ts.map PyData.int).all fun y => PySem.W.alike x y) = true := by
    rw [List.all_eq_true]
    intro x hx
    obtain ⟨a, _, rfl⟩ := List.mem_map.mp hx
    rw [Bool.and_eq_true, List.all_eq_true]
    refine ⟨by simp [shp_okB], fun y hy => ?_⟩
    obtain ⟨b, _, rfl⟩ := List.mem_map.mp hy
    rfl
  have h2 : (ts.map PyData.int).all noTp = true := by
    rw [List.all_eq_true]
    intro x hx
    obtain ⟨a, _, rfl⟩ := List.mem_map.mp hx
    rfl
  rw [h1, h2]
  simp [h]
/-! ### events' places -/
def Ev.tag : Ev → Str
  | .line _ _ => "line"
  | .code _ _ _ => "code"
  | .ticks _ => "ticks"
def Ev.snd : Ev → D
  | .line z _ => Enc.e z
  | .code f _ _ => Enc.e f
  | .ticks n => .int n
@[simp] theorem ix_E0 (e : Ev) : ixV (V e) (inV 0) = pure (stV e.tag) := by cases e <;> rfl
@[simp] theorem ix_E1 (e : Ev) : ixV (V e) (inV 1) = pure (.d e.snd) := by cases e <;> rfl
def Ev.isT : Ev → Bool
  | .ticks _ => true
  | _ => false
@[simp] theorem tag_T (e : Ev) : (e.tag = Str.ofString "ticks") = (e.isT = true) := by cases e <;> simp [Ev.tag, Ev.isT]
@[simp] theorem tag_L (e : Ev) : (e.tag = Str.ofString "line") = (∃ z w, e = .line z w) := by cases e <;> simp [Ev.tag]
@[simp] theorem tag_ok (e : Ev) : strOk e.tag = true := by cases e <;> simp [Ev.tag]
theorem evT_sum : ∀ r : List Ev, ∃ ns : List Int, (r.filter fun e => e.isT).map Ev.snd = ns.map .int ∧ ns.sum = (r.map evT).sum
  | [] => ⟨[], rfl, rfl⟩
  | e :: r => by
    obtain ⟨ns, h1, h2⟩ := evT_sum r
    cases e with
    | ticks n => exact ⟨n :: ns, by simp [Ev.isT, Ev.snd] at h1 ⊢; exact h1, by simp [evT, h2]⟩
    | line z w => exact ⟨ns, by simp [Ev.isT] at h1 ⊢; exact h1, by simp [evT, h2]⟩
    | code f d z => exact ⟨ns, by simp [Ev.isT] at h1 ⊢; exact h1, by simp [evT, h2]⟩
@[simp] theorem stp_rev (ds : List D) : stpV (tuV ds) none (-1) = pure (tuV ds.reverse) := (rfl)
end Dt

namespace Dw
open PySem
abbrev Op := Int × Int × Option Str
def encZ : Option Str → D
  | none => .none
  | some x => .str x
def encO (o : Op) : D := .tuple [.int o.1, .int o.2.1, encZ o.2.2]
def encH (R : Int) (os : List Op) : D := .tuple [.int R, .tuple (os.map encO)]
structure GoodO (R : Int) (o : Op) : Prop where
  a : 0 ≤ o.1
  b : o.1 < o.2.1
  c : o.2.1 ≤ R
  z : OkD 0 (encZ o.2.2)
theorem OkD.encO {R : Int} {o : Op} (h : GoodO R o) : OkD 1 (encO o) := OkD.tup fun x hx => by
  simp at hx
  rcases hx with rfl | rfl | rfl
  · exact OkD.int _
  · exact OkD.int _
  · exact h.z
theorem rangeD_get {lo : Int} {n j : Nat} {x : Vl} (h : (rangeD lo n)[j]? = some x) : j < n ∧ x = inV (lo + j) := by
  unfold rangeD at h
  rw [List.getElem?_map] at h
  cases e : (List.range n)[j]? with
  | none => rw [e] at h; cases h
  | some k =>
    rw [e] at h
    cases h
    obtain ⟨h1, h2⟩ := List.getElem?_eq_some_iff.mp e
    simp at h1 h2
    subst h2
    exact ⟨h1, rfl⟩
theorem rangeD_len {lo : Int} {n : Nat} : (rangeD lo n).length = n := by simp [rangeD]
def zones7 : List (Option Str) := [none, none, some "a", some "b", some "back", some "hall", some "win"]
theorem pure_at {f : Nat} {vs : List D} {x : D} {s' : Sto} {k : Nat} (h : Phi fns k f (vs.map .d) [] = .ok (.d x) s') : pureRun (Phi fns k f (vs.map .d)) = pure (.d x) := pureRun_eq h
end Dw

/-! HoM: ways. -/
namespace Dw
open PySem
def encW (w : List Nat) : D := .tuple (w.map fun (i : Nat) => .int i)
def encR (rooms : List Int) : D := .tuple (rooms.map .int)
def beyL (o : Op) (r : Int) : Option Int := if o.1 = r then some o.2.1 else if o.2.1 = r then some o.1 else none
def encI : Option Int → D
  | some i => .int i
  | none => .none
def waysL : Nat → List Op → List Int → Int → List (List Nat)
  | 0, _, _, _ => []
  | d + 1, os, rooms, goal => if rooms.getLast? = some goal then [[]] else os.zipIdx.flatMap fun p =>
      match beyL p.1 (rooms.getLast?.getD 0) with
      | some r => if r ∈ rooms then [] else (waysL d os (rooms ++ [r]) goal).map (p.2 :: ·)
      | none => []
theorem isIn_ints (r : Int) (rooms : List Int) : isIn (.int r) (rooms.map .int) = decide (r ∈ rooms) := by
  unfold isIn
  rw [List.any_map]
  induction rooms with
  | nil => simp
  | cons a as ih =>
    rw [List.any_cons, ih]
    simp only [Function.comp, eqv_int, List.mem_cons]
    by_cases h : r = a
    · simp [h]
    · simp [h]
      intro e
      exact absurd e.symm h
theorem last_at {rooms : List Int} {l : Int} (h : rooms.getLast? = some l) : L2.atI (rooms.map PyData.int) (-1) = some (.int l) := by
  rw [atI_last _ (by intro e; simp at e; rw [e] at h; cases h), List.getLast?_map, h]
  rfl
theorem okR (rooms : List Int) : OkD 1 (encR rooms) := OkD.tup fun x hx => by
  obtain ⟨i, _, rfl⟩ := List.mem_map.mp hx
  exact OkD.int i
theorem flat_le {α β : Type} (g : α → List β) (b : Nat) : ∀ (l : List α), (∀ x ∈ l, (g x).length ≤ b) → (l.flatMap g).length ≤ l.length * b
  | [], _ => by simp
  | x :: l, h => by
    rw [List.flatMap_cons, List.length_append, List.length_cons, Nat.succ_mul]
    have h1 := h x List.mem_cons_self
    have h2 := flat_le g b l fun y hy => h y (List.mem_cons_of_mem _ hy)
    omega
theorem nodup_lt : ∀ (n : Nat) (l : List Nat), l.Nodup → (∀ x ∈ l, x < n) → l.length ≤ n
  | 0, l, _, h => by
    cases l with
    | nil => simp
    | cons x _ => exact absurd (h x List.mem_cons_self) (Nat.not_lt_zero _)
  | n + 1, l, nd, h => by
    by_cases q : n ∈ l
    · have h1 := nodup_lt n (l.erase n) (nd.erase n) fun x hx => by
        have h2 := (nd.mem_erase_iff).mp hx
        have := h x h2.2
        omega
      rw [List.length_erase_of_mem q] at h1
      omega
    · have := nodup_lt n l nd fun x hx => by
        have h2 := h x hx
        have : x ≠ n := fun e => q (e ▸ hx)
        omega
      omega
/-- how many more rooms there can be -/
structure Rms (R : Int) (rooms : List Int) : Prop where
  nd : rooms.Nodup
  lo : ∀ r ∈ rooms, 0 ≤ r ∧ r ≤ R
theorem Rms.len {R : Int} {rooms : List Int} (h : Rms R rooms) (hR : 0 ≤ R) : rooms.length ≤ R.toNat + 1 := by
  have : (rooms.map Int.toNat).Nodup := List.pairwise_map.mpr (h.nd.imp_of_mem fun {a b} ha hb hne e => hne (by have := h.lo a ha; have := h.lo b hb; omega))
  have h2 := nodup_lt (R.toNat + 1) _ this fun x hx => by
    obtain ⟨r, hr, rfl⟩ := List.mem_map.mp hx
    have := h.lo r hr
    omega
  simpa using h2
theorem beyL_good {R : Int} {o : Op} (h : GoodO R o) {r x : Int} (e : beyL o r = some x) : 0 ≤ x ∧ x ≤ R := by
  unfold beyL at e
  have h1 := h.a
  have h2 := h.b
  have h3 := h.c
  split at e
  · cases e; omega
  · split at e
    · cases e; omega
    · cases e
theorem Rms.more {R : Int} {rooms : List Int} (h : Rms R rooms) {r : Int} (hr : 0 ≤ r ∧ r ≤ R) (hn : r ∉ rooms) : Rms R (rooms ++ [r]) := by
  refine ⟨?_, fun x hx => ?_⟩
  · rw [List.nodup_append]
    exact ⟨h.nd, by simp, fun a ha b hb e => by simp at hb; subst hb; exact hn (e ▸ ha)⟩
  · rcases List.mem_append.mp hx with z | z
    · exact h.lo x z
    · simp at z; rw [z]; exact hr
/-- what is known of the ways -/
theorem ways_facts {R goal : Int} (hR : 0 ≤ R) : ∀ (d : Nat) (os : List Op) (rooms : List Int), os.length ≤ 10 → (∀ o ∈ os, GoodO R o) → Rms R rooms → R.toNat + 1 < rooms.length + d →
    (waysL d os rooms goal).length ≤ 10 ^ (R.toNat + 1 - rooms.length) ∧ ∀ w ∈ waysL d os rooms goal, (∀ i ∈ w, i < os.length) ∧ w.length ≤ R.toNat + 1 - rooms.length ∧ (w = [] → rooms.getLast? = some goal)
  | 0, os, rooms, ho, hg, hr, hd => absurd (hr.len hR) (by omega)
  | d + 1, os, rooms, ho, hg, hr, hd => by
    unfold waysL
    by_cases e : rooms.getLast? = some goal
    · rw [if_pos e]
      refine ⟨Nat.pos_of_ne_zero (by simp), fun w hw => ?_⟩
      simp at hw
      subst hw
      exact ⟨fun i hi => by simp at hi, by simp, fun _ => e⟩
    · rw [if_neg e]
      have key : ∀ p ∈ os.zipIdx, (match beyL p.1 (rooms.getLast?.getD 0) with
          | some r => if r ∈ rooms then [] else (waysL d os (rooms ++ [r]) goal).map (p.2 :: ·)
          | none => []).length ≤ 10 ^ (R.toNat + 1 - rooms.length - 1) ∧ ∀ w ∈ (match beyL p.1 (rooms.getLast?.getD 0) with
          | some r => if r ∈ rooms then [] else (waysL d os (rooms ++ [r]) goal).map (p.2 :: ·)
          | none => [] : List (List Nat)), (∀ i ∈ w, i < os.length) ∧ w.length ≤ R.toNat + 1 - rooms.length ∧ w ≠ [] := by
        intro p hp
        obtain ⟨o, i⟩ := p
        have hi := List.mem_zipIdx hp
        have hoi : i < os.length := by simpa using hi.2.1
        have hom : o ∈ os := by
          have := hi.2.2
          simp at this
          rw [this]
          exact List.getElem_mem _
        dsimp only
        cases hb : beyL o (rooms.getLast?.getD 0) with
        | none => exact ⟨by simp, fun w hw => by simp at hw⟩
        | some r =>
          dsimp only
          by_cases hm : r ∈ rooms
          · rw [if_pos hm]
            exact ⟨by simp, fun w hw => by simp at hw⟩
          · rw [if_neg hm]
            have hr' := hr.more (beyL_good (hg o hom) hb) hm
            have hl := hr'.len hR
            have ll : (rooms ++ [r]).length = rooms.length + 1 := by simp
            obtain ⟨i1, i2⟩ := ways_facts hR d os (rooms ++ [r]) ho hg hr' (by rw [ll]; omega)
            rw [ll] at i1 hl
            refine ⟨by rw [List.length_map]; exact Nat.le_trans i1 (by rw [Nat.sub_add_eq]; exact Nat.le_refl _), fun w hw => ?_⟩
            obtain ⟨w', hw', rfl⟩ := List.mem_map.mp hw
            obtain ⟨j1, j2, _⟩ := i2 w' hw'
            rw [ll] at j2
            refine ⟨fun x hx => ?_, by simp; omega, by simp⟩
            rcases List.mem_cons.mp hx with z | z
            · rw [z]; exact hoi
            · exact j1 x z
      refine ⟨?_, fun w hw => ?_⟩
      · by_cases hfull : R.toNat + 1 - rooms.length = 0
        · -- no room is left: nothing more
          have hnone : ∀ p ∈ os.zipIdx, (match beyL p.1 (rooms.getLast?.getD 0) with
            | some r => if r ∈ rooms then [] else (waysL d os (rooms ++ [r]) goal).map (p.2 :: ·)
            | none => [] : List (List Nat)) = [] := by
            intro p hp
            obtain ⟨o, i⟩ := p
            have hi := List.mem_zipIdx hp
            have hom : o ∈ os := by
              have := hi.2.2
              simp at this
              rw [this]
              exact List.getElem_mem _
            dsimp only
            cases hb : beyL o (rooms.getLast?.getD 0) with
            | none => rfl
            | some r =>
              dsimp only
              by_cases hm : r ∈ rooms
              · rw [if_pos hm]
              · have hr' := hr.more (beyL_good (hg o hom) hb) hm
                have hl := hr'.len hR
                simp at hl
                omega
          rw [List.flatMap_eq_nil_iff.mpr hnone]
          exact Nat.zero_le _
        · refine Nat.le_trans (flat_le _ (10 ^ (R.toNat + 1 - rooms.length - 1)) _ fun p hp => (key p hp).1) ?_
          rw [List.length_zipIdx]
          have h3 : 10 ^ (R.toNat + 1 - rooms.length) = 10 * 10 ^ (R.toNat + 1 - rooms.length - 1) := by
            rw [← Nat.pow_succ']
            congr 1
            omega
          rw [h3]
          exact Nat.mul_le_mul_right _ ho
      · obtain ⟨p, hp, hw⟩ := List.mem_flatMap.mp hw
        obtain ⟨k1, k2, k3⟩ := (key p hp).2 w hw
        exact ⟨k1, k2, fun z => absurd z k3⟩
/-! ### the run -/
theorem enumD_at {ds : List D} {n j : Nat} {x : Vl} (h : (enumD n ds)[j]? = some x) : ∃ d, ds[j]? = some d ∧ x = tuV [.int ((n + j : Nat) : Int), d] := by
  induction ds generalizing n j with
  | nil => simp [enumD] at h
  | cons a as ih =>
    cases j with
    | zero =>
      simp [enumD] at h
      exact ⟨a, rfl, by simp [← h]⟩
    | succ j =>
      simp only [enumD, List.getElem?_cons_succ] at h
      obtain ⟨d, h1, h2⟩ := ih h
      exact ⟨d, by simpa using h1, by rw [h2, show n + 1 + j = n + (j + 1) by omega]⟩
theorem enumD_length {ds : List D} {n : Nat} : (enumD n ds).length = ds.length := by
  induction ds generalizing n with
  | nil => rfl
  | cons a as ih => simp [enumD, ih]
/-- one turn's ways -/
def turnW (d : Nat) (os : List Op) (rooms : List Int) (goal : Int) (p : Op × Nat) : List (List Nat) :=
  match beyL p.1 (rooms.getLast?.getD 0) with
  | some r => if r ∈ rooms then [] else (waysL d os (rooms ++ [r]) goal).map (p.2 :: ·)
  | none => []
theorem okW (w : List Nat) : OkD 1 (encW w) := OkD.tup fun x hx => by
  obtain ⟨i, _, rfl⟩ := List.mem_map.mp hx
  exact OkD.int _
theorem alike_ints : ∀ (a b : List Nat), PySem.W.alikeAll (a.map fun (i : Nat) => PyData.int i) (b.map fun (i : Nat) => PyData.int i) = true
  | [], b => by simp [PySem.W.alikeAll]
  | x :: a, [] => by simp [PySem.W.alikeAll]
  | x :: a, y :: b => by simp [PySem.W.alikeAll, PySem.W.alike, alike_ints a b]
theorem ordd_ways {ws : List (List Nat)} (hl : ws.length ≤ 10000000) (hn : ∀ w ∈ ws, w ≠ []) : ordd (ws.map encW) = true := by
  unfold ordd
  simp only [Bool.and_eq_true, Bool.or_eq_true, decide_eq_true_eq, List.all_eq_true, List.length_map]
  refine ⟨⟨by show _ ≤ 16777216; omega, fun d hd => ?_⟩, .inl fun d hd => ?_⟩
  · obtain ⟨w, hw, rfl⟩ := List.mem_map.mp hd
    refine ⟨(okW w).shp (by omega), fun e he => ?_⟩
    obtain ⟨v, hv, rfl⟩ := List.mem_map.mp he
    unfold encW
    rw [PySem.W.alike]
    exact alike_ints w v
  · obtain ⟨w, hw, rfl⟩ := List.mem_map.mp hd
    have := hn w hw
    cases w with
    | nil => exact absurd rfl this
    | cons a w => rfl
theorem sort_map {ws : List (List Nat)} : ∃ us : List (List Nat), us.Perm ws ∧ sortD (ws.map encW) = us.map encW := by
  unfold sortD
  exact ⟨ws.mergeSort fun a b => PySem.W.dataLe false id (encW a) (encW b), List.mergeSort_perm _ _, (List.map_mergeSort (f := encW) (r := fun a b => PySem.W.dataLe false id (encW a) (encW b)) (s := PySem.W.dataLe false id) (fun a _ b _ => rfl)).symm⟩
end Dw

/-! HoA: houses, typed. -/
namespace Dt
open PySem Dw
structure Opn where
  a : Int
  b : Int
  z : Option Tx
  deriving DecidableEq
structure Hs where
  R : Int
  os : List Opn
  deriving DecidableEq
instance : Enc Opn where
  e o := .tuple [.int o.a, .int o.b, Enc.e o.z]
  dp := 1
  ok z := by simp
  inj a b := by cases a; cases b; simp
@[simp] theorem dp_Opn : Enc.dp Opn = 1 := (rfl)
instance : Enc Hs where
  e h := .tuple [.int h.R, .tuple (h.os.map Enc.e)]
  dp := 3
  ok z := by simp
  inj a b := by cases a; cases b; simp
@[simp] theorem dp_Hs : Enc.dp Hs = 3 := (rfl)
theorem e_Opn (o : Opn) : Enc.e o = PyData.tuple [.int o.a, .int o.b, Enc.e o.z] := (rfl)
theorem e_Hs (h : Hs) : Enc.e h = PyData.tuple [.int h.R, .tuple (h.os.map Enc.e)] := (rfl)
@[simp] theorem ix_O0 (o : Opn) : ixV (V o) (inV 0) = pure (inV o.a) := (rfl)
@[simp] theorem ix_O1 (o : Opn) : ixV (V o) (inV 1) = pure (inV o.b) := (rfl)
@[simp] theorem ix_O2 (o : Opn) : ixV (V o) (inV 2) = pure (V o.z) := (rfl)
@[simp] theorem ix_H0 (h : Hs) : ixV (V h) (inV 0) = pure (inV h.R) := (rfl)
@[simp] theorem ix_H1 (h : Hs) : ixV (V h) (inV 1) = pure (tuV (h.os.map Enc.e)) := (rfl)
/-! ways: lists of places -/
def natD (i : Nat) : D := .int i
theorem okB_nats (n : Nat) (w : List Nat) : (w.map natD).all (okB n) = true := by
  rw [List.all_map, List.all_eq_true]; intro x _; exact okB_int n x
theorem eqvA_nats : ∀ as bs : List Nat, PyData.eqvAll (as.map natD) (bs.map natD) = decide (as = bs)
  | [], [] => by simp
  | [], b :: bs => by simp
  | a :: as, [] => by simp
  | a :: as, b :: bs => by
    rw [List.map_cons, List.map_cons, eqvA_cc, eqvA_nats as bs]
    unfold natD
    simp [BEq.beq, Int.natCast_inj]
instance : Enc (List Nat) where
  e w := .tuple (w.map natD)
  dp := 1
  ok w := by rw [okB_tup]; exact okB_nats 0 w
  inj a b := by rw [eqv_tup, eqvA_nats]
@[simp] theorem dp_W : Enc.dp (List Nat) = 1 := (rfl)
theorem e_W (w : List Nat) : Enc.e w = PyData.tuple (w.map natD) := (rfl)
@[simp] theorem fIt_W (w : List Nat) : fItems (V w) = pure (w.map natD) := (rfl)
@[simp] theorem wkOf_W (w : List Nat) : wkOf (V w) = pure (.its (w.map fun (i : Nat) => inV i)) := by
  show (pure (.its ((w.map natD).map .d)) : M Wk) = _
  rw [List.map_map]
  rfl
@[simp] theorem len_W (w : List Nat) : bi .len [V w] = pure (inV w.length) := by
  show (pure (inV (w.map natD).length) : M Vl) = _
  rw [List.length_map]
@[simp] theorem sl_W (w : List Nat) (n : Nat) : slV (V w) none (some (n : Int)) = pure (V (w.take n)) := by
  show (pure (tuV (cutD (w.map natD) none (some (n : Int)))) : M Vl) = _
  rw [cutD_hi, ← List.map_take]
  rfl
theorem enum_W (w : List Nat) : enumD 0 (w.map natD) = w.zipIdx.map fun p => tuV [.int (p.2 : Int), .int (p.1 : Int)] := enumD_map0 natD w
/-! ### drawn houses -/
def zns7 : List (Option Tx) := [none, none, some (tx "a"), some (tx "b"), some (tx "back"), some (tx "hall"), some (tx "win")]
@[simp] theorem at_zns (x : Int) : L2.atI [(.none : D), .none, .str "a", .str "b", .str "back", .str "hall", .str "win"] (x % 7) = some (Enc.e (pick zns7 none x)) := atI_pick Enc.e zns7 none x (by decide)
def mn (a b : Int) : Int := if b < a then b else a
def mxx (a b : Int) : Int := if b > a then b else a
def opnAt (n : Int) (i : Nat) : Opn :=
  let d := drawn n (50 + i) / 4
  let r := 1 + n % 7
  let one := d % (r + 1)
  let other := (one + 1 + d / 8 % r) % (r + 1)
  ⟨mn one other, mxx one other, pick zns7 none (d / 64)⟩
def houseOf (n : Int) : Hs := ⟨1 + n % 7, (List.range (n / 8 % 11).toNat).map (opnAt n)⟩
structure GoodH (H : Hs) : Prop where
  r1 : 1 ≤ H.R
  r7 : H.R ≤ 7
  o10 : H.os.length ≤ 10
  o : ∀ x ∈ H.os, 0 ≤ x.a ∧ x.a < x.b ∧ x.b ≤ H.R
theorem houseOf_good (n : Int) : GoodH (houseOf n) where
  r1 := by show 1 ≤ 1 + n % 7; omega
  r7 := by show 1 + n % 7 ≤ 7; omega
  o10 := by
    show ((List.range _).map _).length ≤ 10
    rw [List.length_map, List.length_range]
    omega
  o := by
    intro x hx
    obtain ⟨i, _, rfl⟩ := List.mem_map.mp hx
    show 0 ≤ mn _ _ ∧ mn _ _ < mxx _ _ ∧ mxx _ _ ≤ 1 + n % 7
    generalize drawn n (50 + (i : Int)) / 4 = d
    generalize hr : 1 + n % 7 = r
    have hr0 : 1 ≤ r := by omega
    have h1 := Int.emod_nonneg d (show r + 1 ≠ 0 by omega)
    have h2 := Int.emod_lt_of_pos d (show 0 < r + 1 by omega)
    have h3 := Int.emod_nonneg (d / 8) (show r ≠ 0 by omega)
    have h4 := Int.emod_lt_of_pos (d / 8) (show 0 < r by omega)
    generalize d % (r + 1) = o at h1 h2
    generalize d / 8 % r = e at h3 h4
    have h5 := Int.emod_nonneg (o + 1 + e) (show r + 1 ≠ 0 by omega)
    have h6 := Int.emod_lt_of_pos (o + 1 + e) (show 0 < r + 1 by omega)
    have h7 : (o + 1 + e) % (r + 1) ≠ o := by
      intro q
      by_cases c : o + 1 + e < r + 1
      · rw [Int.emod_eq_of_lt (by omega) c] at q
        omega
      · have : (o + 1 + e) % (r + 1) = o + 1 + e - (r + 1) := by
          rw [← Int.sub_emod_right, Int.emod_eq_of_lt (by omega) (by omega)]
        omega
    generalize (o + 1 + e) % (r + 1) = f at h5 h6 h7
    unfold mn mxx
    repeat' split
    all_goals omega
theorem house_ok {k : Nat} {s : Sto} (n : Int) : Phi fns (k + 2) 109 [inV n] s = .ok (V (houseOf n)) s := by
  rw [run_of (F := f_law_house_v2) rfl rfl, leave_bd]
  simp only [b_law_house_v2, f_law_house_v2, enter]
  have h0 := Int.emod_nonneg (n / 8) (show (11 : Int) ≠ 0 by omega)
  have h1 := Int.emod_lt_of_pos (n / 8) (show (0 : Int) < 11 by omega)
  have hb : bnd62 (n / 8 % 11) = true := bnd62_of (by omega) (by omega)
  (rw [exb_cons, run_bd]; simp [-exb_cons])
  (rw [exb_cons, run_bd]; simp [-exb_cons])
  (rw [exb_cons, run_bd]; simp [-exb_cons, hb])
  refine for_nx_eq (fun pre e t => t = s ∧ ∃ v3 v4 v5 v6 v7 : Option Vl, e = [some (inV n), some (inV (1 + n % 7)), some (tuV ((pre.map (opnAt n)).map Enc.e)), v3, v4, v5, v6, v7])
    ⟨rfl, _, _, _, _, _, rfl⟩ ?_ ?_
  · rintro pre i post e t hx ⟨rfl, v3, v4, v5, v6, v7, rfl⟩
    have hlen := congrArg List.length hx
    simp at hlen
    have hl : pre.length ≤ 16777215 := by omega
    have hr0 : 0 < 1 + n % 7 := by omega
    have hr1 : 0 < 1 + n % 7 + 1 := by omega
    have e1 : ((pre ++ [i]).map (opnAt n)).map Enc.e = (pre.map (opnAt n)).map Enc.e ++ [(Enc.e (opnAt n i) : D)] := by simp
    rw [e1]
    simp [l1_law_house_v2, drawn_call, hr0, hr1, hl, e_Opn, opnAt, mn, mxx]
  · rintro e t ⟨rfl, v3, v4, v5, v6, v7, rfl⟩
    simp [-exb_cons]
    (rw [exb_cons, run_bd]; simp [-exb_cons])
    rw [houseOf, e_Hs]
    simp
@[simp] theorem house_call {k : Nat} (n : Int) : pureRun (Phi fns (k + 2) 109 [inV n]) = pure (V (houseOf n)) := pureRun_eq (house_ok (s := []) n)
end Dt

/-! HoB: ways, typed. -/
namespace Dt
open PySem Dw
instance : Enc (Option Int) where
  e := oE
  dp := 0
  ok t := by
    cases t with
    | none => exact okB_non _
    | some t => exact Enc.ok t
  inj a b := by
    cases a <;> cases b <;> simp [oE]
@[simp] theorem dp_OI : Enc.dp (Option Int) = 0 := (rfl)
@[simp] theorem e_noneI : Enc.e (none : Option Int) = PyData.none := (rfl)
@[simp] theorem e_someI (t : Int) : Enc.e (some t) = PyData.int t := (rfl)
def Opn.op (o : Opn) : Op := (o.a, o.b, o.z.map (·.x))
theorem good_op {H : Hs} (g : GoodH H) : ∀ o ∈ H.os.map Opn.op, GoodO H.R o := by
  intro o ho
  obtain ⟨x, hx, rfl⟩ := List.mem_map.mp ho
  have := g.o x hx
  refine ⟨this.1, this.2.1, this.2.2, ?_⟩
  obtain ⟨a, b, z⟩ := x
  cases z with
  | none => exact OkD.non
  | some z => exact okB_iff.mp (by show okB 0 (.str z.x) = true; rw [okB_str]; exact z.ok)
@[simp] theorem isNn_I (o : Option Int) : isNn (Enc.e o) = o.isNone := by cases o <;> rfl
def turnT (d : Nat) (os : List Opn) (rooms : List Int) (goal : Int) (p : Opn × Nat) : List (List Nat) := turnW d (os.map Opn.op) rooms goal (p.1.op, p.2)
theorem waysL_turns {d : Nat} {os : List Opn} {rooms : List Int} {goal : Int} (h : rooms.getLast? ≠ some goal) : waysL (d + 1) (os.map Opn.op) rooms goal = os.zipIdx.flatMap (turnT d os rooms goal) := by
  conv => lhs; unfold waysL
  rw [if_neg h, List.zipIdx_map, List.flatMap_map]
  rfl
@[simp] theorem isIn_I (r : Int) (rooms : List Int) : isIn (.int r) (rooms.map Enc.e) = decide (r ∈ rooms) := isIn_map r rooms
@[simp] theorem all_intE (n : Nat) (rooms : List Int) : rooms.all (okB n ∘ Enc.e) = true := all_okBc n rooms (by simp)
theorem cat_W (i : Nat) (w : List Nat) : binop .Add (tuV [.int (i : Int)]) (V w) = okS (decide (1 + w.length ≤ szLine)) (V (i :: w)) := by
  show okS (decide ([PyData.int (i : Int)].length + (w.map natD).length ≤ szLine)) (tuV ([.int (i : Int)] ++ w.map natD)) = _
  rw [List.length_map]
  rfl
theorem mem_of_zip {α : Type} {as : List α} {n : Nat} {pre post : List (α × Nat)} {a : α} {i : Nat} (h : as.zipIdx n = pre ++ (a, i) :: post) : a ∈ as := by
  have : (a, i) ∈ as.zipIdx n := by rw [h]; simp
  exact List.fst_mem_of_mem_zipIdx this
/-! ### sorted -/
def leW (a b : List Nat) : Bool := PySem.W.dataLe false id (Enc.e a : D) (Enc.e b)
def sortW (l : List (List Nat)) : List (List Nat) := l.mergeSort leW
theorem sortD_W (l : List (List Nat)) : sortD (l.map Enc.e) = (sortW l).map Enc.e := by
  unfold sortD sortW
  rw [List.map_mergeSort]
  intro a _ b _
  rfl
theorem sortW_perm (l : List (List Nat)) : (sortW l).Perm l := List.mergeSort_perm _ _
def waysU (H : Hs) (room : Int) : List (List Nat) := waysL 10 (H.os.map Opn.op) [0] room
def waysS (H : Hs) (room : Int) : List (List Nat) := sortW (waysU H room)
theorem rms0 {H : Hs} (g : GoodH H) : Rms H.R [0] := ⟨by simp, by simp; have := g.r1; omega⟩
theorem waysU_facts {H : Hs} (g : GoodH H) {room : Int} (hr : 1 ≤ room) : (waysU H room).length ≤ 10000000 ∧ ∀ w ∈ waysU H room, (∀ i ∈ w, i < H.os.length) ∧ w.length ≤ 7 ∧ w ≠ [] := by
  have wf := ways_facts (goal := room) (by have := g.r1; omega) 10 (H.os.map Opn.op) [0] (by simpa using g.o10) (good_op g) (rms0 g) (by have := g.r7; simp; omega)
  have h7 := g.r7
  refine ⟨Nat.le_trans wf.1 ?_, fun w hw => ?_⟩
  · have : 10 ^ (H.R.toNat + 1 - [(0 : Int)].length) ≤ 10 ^ 7 := Nat.pow_le_pow_right (by omega) (by simp; omega)
    exact this
  · obtain ⟨a, b, c⟩ := wf.2 w hw
    refine ⟨by simpa using a, by simp at b; omega, fun e => ?_⟩
    have := c e
    simp at this
    omega
theorem waysS_facts {H : Hs} (g : GoodH H) {room : Int} (hr : 1 ≤ room) : (waysS H room).length ≤ 10000000 ∧ ∀ w ∈ waysS H room, (∀ i ∈ w, i < H.os.length) ∧ w.length ≤ 7 ∧ w ≠ [] := by
  have h := waysU_facts g hr
  have hp := sortW_perm (waysU H room)
  exact ⟨by rw [waysS, hp.length_eq]; exact h.1, fun w hw => h.2 w (hp.mem_iff.mp hw)⟩
end Dt

/-! HoC: walkers, typed. -/
namespace Dt
open PySem Dw
variable {P : Plan} {H : Hs}
def Hs.z (H : Hs) (i : Nat) : Option Tx := (H.os[i]?).bind (·.z)
def evsFor (H : Hs) (i : Nat) (pace : Int) : List Ev := match H.z i with
  | none => [.ticks 1, .ticks pace]
  | some z => [.line z .opn, .ticks 1, .line z .shut, .ticks pace]
theorem evsFor_len (H : Hs) (i : Nat) (pace : Int) : (evsFor H i pace).length ≤ 4 := by
  unfold evsFor; split <;> simp
def walk (H : Hs) (w : List Nat) (pace : Int) : List Ev := w.flatMap fun i => evsFor H i pace
theorem walk_nil (pace : Int) : walk H [] pace = [] := rfl
theorem walk_append (w v : List Nat) (pace : Int) : walk H (w ++ v) pace = walk H w pace ++ walk H v pace := List.flatMap_append ..
theorem walk_snoc (w : List Nat) (i : Nat) (pace : Int) : walk H (w ++ [i]) pace = walk H w pace ++ evsFor H i pace := by rw [walk_append]; simp [walk]
theorem walk_cons (w : List Nat) (i : Nat) (pace : Int) : walk H (i :: w) pace = evsFor H i pace ++ walk H w pace := by simp [walk]
theorem walk_len : ∀ (w : List Nat) (pace : Int), (walk H w pace).length ≤ 4 * w.length
  | [], _ => by simp [walk]
  | i :: w, pace => by
    rw [walk_cons, List.length_append, List.length_cons]
    have := evsFor_len H i pace
    have := walk_len w pace
    omega
def isAl (t : Td) : Bool := decide (t.w = .alarm)
def alBy (P : Plan) (H : Hs) (st : St) (w : List Nat) (pace : Int) (n : Nat) : Bool := (storyS P st (walk H (w.take n) pace)).any isAl
def caughtS (P : Plan) (H : Hs) (st : St) (w : List Nat) (pace : Int) : Option Nat := ((List.range w.length).find? fun i => alBy P H st w pace (i + 1)).map (· + 1)
def oNat (o : Option Nat) : D := match o with
  | some n => .int n
  | none => .none
/-- zones of a house are zones of the plan -/
def Fits (P : Plan) (H : Hs) : Prop := ∀ o ∈ H.os, ∀ z, o.z = some z → z ∈ P.names
theorem evsFor_fit (hf : Fits P H) {pace : Int} (hp : 1 ≤ pace) (i : Nat) : rfit P (evsFor H i pace) := by
  unfold evsFor
  cases e : H.z i with
  | none =>
    intro x hx
    simp at hx
    rcases hx with rfl | rfl
    · show (1 : Int) ≤ 1; omega
    · exact hp
  | some z =>
    have hz : z ∈ P.names := by
      unfold Hs.z at e
      cases eo : H.os[i]? with
      | none => rw [eo] at e; cases e
      | some o => rw [eo] at e; exact hf o (List.mem_of_getElem? eo) z e
    intro x hx
    simp at hx
    rcases hx with rfl | rfl | rfl | rfl
    · exact hz
    · show (1 : Int) ≤ 1; omega
    · exact hz
    · exact hp
theorem walk_fit (hf : Fits P H) {pace : Int} (hp : 1 ≤ pace) (w : List Nat) : rfit P (walk H w pace) := by
  intro e he
  obtain ⟨i, _, h⟩ := List.mem_flatMap.mp he
  exact evsFor_fit hf hp i e h
theorem find_range_some {n m : Nat} {p : Nat → Bool} (hm : m < n) (hp : p m = true) (hb : ∀ j < m, p j = false) : (List.range n).find? p = some m := by
  rw [List.find?_range_eq_some]
  exact ⟨hp, by simpa using hm, fun j hj => by rw [hb j hj]; rfl⟩
theorem find_range_none {n : Nat} {p : Nat → Bool} (hb : ∀ j < n, p j = false) : (List.range n).find? p = none := by
  rw [List.find?_eq_none]
  intro x hx
  rw [hb x (by simpa using hx)]
  simp
theorem pureRun_sat {m : M Vl} {v : D} (h : (m []).sat fun a _ => a = .d v) : pureRun m = pure (.d v) := by
  cases e : m [] with
  | ok a t =>
    rw [e] at h
    have h : a = .d v := h
    subst h
    exact pureRun_eq e
  | ex c t => rw [e] at h; exact h.elim
  | no => rw [e] at h; exact h.elim
/-! ### a house fitted to a plan -/
def fitO (P : Plan) (o : Opn) : Opn := ⟨o.a, o.b, match o.z with
  | some z => if z ∈ P.names then some z else none
  | none => none⟩
def houseIn (P : Plan) (n : Int) : Hs := ⟨(houseOf n).R, (houseOf n).os.map (fitO P)⟩
theorem houseIn_good (n : Int) : GoodH (houseIn P n) where
  r1 := (houseOf_good n).r1
  r7 := (houseOf_good n).r7
  o10 := by show (List.map _ _).length ≤ 10; rw [List.length_map]; exact (houseOf_good n).o10
  o := by
    intro x hx
    obtain ⟨y, hy, rfl⟩ := List.mem_map.mp hx
    exact (houseOf_good n).o y hy
theorem houseIn_fits (n : Int) : Fits P (houseIn P n) := by
  intro x hx z hz
  obtain ⟨y, hy, rfl⟩ := List.mem_map.mp hx
  unfold fitO at hz
  dsimp only at hz
  split at hz
  · split at hz
    · cases hz; assumption
    · cases hz
  · cases hz
end Dt

namespace Dt
open PySem Dw
variable {P : Plan} {H : Hs} {st : St} {w : List Nat} {pace : Int}
theorem al_mono {n m : Nat} (h : n ≤ m) (ha : alBy P H st w pace n = true) : alBy P H st w pace m = true := by
  unfold alBy at ha ⊢
  have e : w.take m = w.take n ++ (w.take m).drop n := by
    conv => lhs; rw [← List.take_append_drop n (w.take m)]
    rw [List.take_take, Nat.min_eq_left h]
  rw [e, walk_append, story_append, List.any_append, ha, Bool.true_or]
theorem al_zero : alBy P H st w pace 0 = false := rfl
theorem al_all : (storyS P st (walk H w pace)).any isAl = alBy P H st w pace w.length := by
  unfold alBy; rw [List.take_length]
theorem caught_none : caughtS P H st w pace = none ↔ alBy P H st w pace w.length = false := by
  unfold caughtS
  rw [Option.map_eq_none_iff, List.find?_eq_none]
  constructor
  · intro h
    cases hw : w.length with
    | zero => exact al_zero
    | succ n =>
      have := h n (by simp; omega)
      simpa using this
  · intro h x hx
    have hx : x < w.length := by simpa using hx
    intro hc
    have := al_mono (m := w.length) (by omega) hc
    rw [h] at this
    cases this
theorem caught_some {c : Nat} : caughtS P H st w pace = some c ↔ 1 ≤ c ∧ c ≤ w.length ∧ alBy P H st w pace c = true ∧ ∀ j, j < c → alBy P H st w pace j = false := by
  unfold caughtS
  rw [Option.map_eq_some_iff]
  constructor
  · rintro ⟨a, ha, rfl⟩
    rw [List.find?_range_eq_some] at ha
    obtain ⟨h1, h2, h3⟩ := ha
    have h2 : a < w.length := by simpa using h2
    refine ⟨by omega, by omega, h1, fun j hj => ?_⟩
    cases j with
    | zero => exact al_zero
    | succ j => simpa using h3 j (by omega)
  · rintro ⟨h1, h2, h3, h4⟩
    refine ⟨c - 1, ?_, by omega⟩
    rw [List.find?_range_eq_some]
    refine ⟨by rw [Nat.sub_add_cancel h1]; exact h3, by simp; omega, fun j hj => by rw [h4 (j + 1) (by omega)]; rfl⟩
theorem al_take {m n : Nat} (h : n ≤ m) : alBy P H st (w.take m) pace n = alBy P H st w pace n := by
  unfold alBy
  rw [List.take_take, Nat.min_eq_left h]
def due33 (o : Option Nat) (m : Nat) : Option Nat := match o with
  | some c => if m < c then none else some c
  | none => none
theorem caught_take (m : Nat) (hm : m ≤ w.length) : caughtS P H st (w.take m) pace = due33 (caughtS P H st w pace) m := by
  have hl : (w.take m).length = m := by rw [List.length_take]; omega
  cases e : caughtS P H st w pace with
  | none =>
    rw [caught_none] at e
    show _ = none
    rw [caught_none, hl, al_take (Nat.le_refl m)]
    cases hc : alBy P H st w pace m with
    | false => rfl
    | true => rw [al_mono hm hc] at e; cases e
  | some c =>
    obtain ⟨h1, h2, h3, h4⟩ := caught_some.mp e
    unfold due33
    dsimp only
    by_cases hc : m < c
    · rw [if_pos hc, caught_none, hl, al_take (Nat.le_refl m)]
      exact h4 m hc
    · rw [if_neg hc, caught_some, hl]
      refine ⟨h1, by omega, by rw [al_take (by omega)]; exact h3, fun j hj => by rw [al_take (by omega)]; exact h4 j hj⟩
theorem eqv_oNat (a b : Option Nat) : PyData.eqv (oNat a) (oNat b) = decide (a = b) := by
  cases a <;> cases b <;> simp [oNat, BEq.beq, Int.natCast_inj]
theorem okB_oNat (n : Nat) (a : Option Nat) : okB n (oNat a) = true := by cases a <;> simp [oNat]
theorem isNn_oNat (a : Option Nat) : isNn (oNat a) = a.isNone := by cases a <;> rfl
end Dt
namespace Dw
end Dw

/-! HoD: steps, traces, ways, rooms that one comes to: plain. -/
namespace Dt
open Dw
/-! ### steps, traces -/
def Stp (os : List Opn) (i : Nat) (a b : Int) : Prop := ∃ o, os[i]? = some o ∧ beyL o.op a = some b
inductive Tr (os : List Opn) : Int → List Nat → List Int → Prop
  | nil {a : Int} : Tr os a [] []
  | cons {a b : Int} {i : Nat} {w : List Nat} {rs : List Int} : Stp os i a b → Tr os b w rs → Tr os a (i :: w) (b :: rs)
def lst : Int → List Int → Int
  | a, [] => a
  | _, b :: rs => lst b rs
section
variable {os : List Opn} {a b c : Int} {i : Nat} {w v : List Nat} {rs qs : List Int}
theorem lst_app : ∀ (a : Int) (rs qs : List Int), lst a (rs ++ qs) = lst (lst a rs) qs
  | _, [], _ => rfl
  | _, b :: rs, qs => lst_app b rs qs
theorem lst_last : ∀ (a : Int) (rs : List Int), (a :: rs).getLast? = some (lst a rs)
  | a, [] => rfl
  | a, b :: rs => by rw [List.getLast?_cons_cons]; exact lst_last b rs
theorem lst_mem : ∀ (a : Int) (rs : List Int), lst a rs ∈ a :: rs
  | a, [] => by simp [lst]
  | a, b :: rs => List.mem_cons_of_mem _ (lst_mem b rs)
theorem last_app {pre : List Int} : (pre ++ a :: rs).getLast? = some (lst a rs) := by
  rw [List.getLast?_append, lst_last]
  rfl
theorem Stp.det (h : Stp os i a b) (k : Stp os i a c) : b = c := by
  obtain ⟨o, h1, h2⟩ := h
  obtain ⟨o', k1, k2⟩ := k
  rw [h1] at k1
  cases k1
  rw [h2] at k2
  exact Option.some.inj k2
theorem Stp.lt (h : Stp os i a b) : i < os.length := by
  obtain ⟨o, h1, _⟩ := h
  exact (List.getElem?_eq_some_iff.mp h1).1
theorem stp_iff (ho : ∀ x ∈ os, x.a < x.b) : Stp os i a b ↔ ∃ o, os[i]? = some o ∧ ((o.a = a ∧ o.b = b) ∨ (o.b = a ∧ o.a = b)) := by
  constructor
  · rintro ⟨o, h1, h2⟩
    refine ⟨o, h1, ?_⟩
    unfold beyL Opn.op at h2
    dsimp only at h2
    split at h2
    · cases h2; exact .inl ⟨‹_›, rfl⟩
    · split at h2
      · cases h2; exact .inr ⟨‹_›, rfl⟩
      · cases h2
  · rintro ⟨o, h1, h2⟩
    have := ho o (List.mem_of_getElem? h1)
    refine ⟨o, h1, ?_⟩
    unfold beyL Opn.op
    dsimp only
    rcases h2 with ⟨e1, e2⟩ | ⟨e1, e2⟩
    · rw [if_pos e1, e2]
    · rw [if_neg (by omega), if_pos e1, e2]
theorem Stp.symm (ho : ∀ x ∈ os, x.a < x.b) (h : Stp os i a b) : Stp os i b a := by
  obtain ⟨o, h1, h2⟩ := (stp_iff ho).mp h
  exact (stp_iff ho).mpr ⟨o, h1, h2.symm.imp (fun e => ⟨e.2, e.1⟩) fun e => ⟨e.2, e.1⟩⟩
theorem Tr.det (h : Tr os a w rs) : ∀ {qs}, Tr os a w qs → rs = qs := by
  induction h with
  | nil => intro qs k; cases k; rfl
  | cons s t ih =>
    intro qs k
    cases k with
    | cons s' t' =>
      cases s.det s'
      rw [ih t']
theorem Tr.len (h : Tr os a w rs) : rs.length = w.length := by
  induction h with
  | nil => rfl
  | cons s t ih => simp [ih]
theorem Tr.app (h : Tr os a w rs) (k : Tr os (lst a rs) v qs) : Tr os a (w ++ v) (rs ++ qs) := by
  induction h with
  | nil => exact k
  | cons s t ih => exact .cons s (ih k)
theorem Tr.snoc (h : Tr os a w rs) (s : Stp os i (lst a rs) b) : Tr os a (w ++ [i]) (rs ++ [b]) := h.app (.cons s .nil)
theorem Tr.lt (h : Tr os a w rs) : ∀ i ∈ w, i < os.length := by
  induction h with
  | nil => intro i hi; cases hi
  | cons s t ih =>
    intro j hj
    rcases List.mem_cons.mp hj with e | e
    · rw [e]; exact s.lt
    · exact ih j e
/-- a trace taken apart -/
theorem Tr.split : ∀ {w v : List Nat} {a : Int} {rs : List Int}, Tr os a (w ++ v) rs → ∃ r1 r2, rs = r1 ++ r2 ∧ Tr os a w r1 ∧ Tr os (lst a r1) v r2
  | [], v, a, rs, h => ⟨[], rs, rfl, .nil, h⟩
  | i :: w, v, a, _, h => by
    cases h with
    | cons s t =>
      obtain ⟨r1, r2, e, t1, t2⟩ := Tr.split t
      exact ⟨_ :: r1, r2, by rw [e]; rfl, .cons s t1, t2⟩
/-- a trace up to a room on it -/
theorem Tr.upto (h : Tr os a w rs) : ∀ x ∈ a :: rs, ∃ n, Tr os a (w.take n) (rs.take n) ∧ lst a (rs.take n) = x := by
  induction h with
  | nil => intro x hx; simp at hx; exact ⟨0, .nil, hx.symm⟩
  | @cons a b i w rs s t ih =>
    intro x hx
    rcases List.mem_cons.mp hx with e | e
    · exact ⟨0, .nil, e.symm⟩
    · obtain ⟨n, t1, e1⟩ := ih x e
      exact ⟨n + 1, .cons s t1, e1⟩
/-! ### ways -/
def IsW (os : List Opn) (a : Int) (goal : Int) (w : List Nat) : Prop := ∃ rs, Tr os a w rs ∧ (a :: rs).Nodup ∧ lst a rs = goal
theorem mem_waysL {R goal : Int} (hg : ∀ o ∈ os, ∀ a b, beyL o.op a = some b → 0 ≤ b ∧ b ≤ R) (hlen : ∀ rooms, Rms R rooms → rooms.length ≤ R.toNat + 1) : ∀ (d : Nat) (pre : List Int) (a : Int), Rms R (pre ++ [a]) → R.toNat + 1 < pre.length + 1 + d →
    ∀ w, w ∈ waysL d (os.map Opn.op) (pre ++ [a]) goal ↔ ∃ rs, Tr os a w rs ∧ (pre ++ a :: rs).Nodup ∧ lst a rs = goal
  | 0, pre, a, hr, hd, w => absurd (hlen _ hr) (by simp; omega)
  | d + 1, pre, a, hr, hd, w => by
    have hl : (pre ++ [a]).getLast? = some a := by simp
    unfold waysL
    rw [hl]
    by_cases e : a = goal
    · rw [if_pos (by rw [e]), List.mem_singleton]
      constructor
      · rintro rfl
        exact ⟨[], .nil, hr.nd, e⟩
      · rintro ⟨rs, t, nd, l⟩
        cases t with
        | nil => rfl
        | @cons _ b i w rs s t =>
          exfalso
          have m : lst b rs ∈ b :: rs := lst_mem b rs
          rw [show lst b rs = goal from l, ← e] at m
          have n2 := (List.nodup_append.mp nd).2.1
          exact (List.nodup_cons.mp n2).1 m
    · rw [if_neg (by simpa using e), List.mem_flatMap]
      simp only [Option.getD_some]
      constructor
      · rintro ⟨⟨o, i⟩, hp, hw⟩
        rw [List.zipIdx_map] at hp
        obtain ⟨⟨x, j⟩, hx, ex⟩ := List.mem_map.mp hp
        cases ex
        have hxi : os[j]? = some x := by
          rw [List.mem_zipIdx_iff_getElem?] at hx
          exact hx
        dsimp only [Prod.map, id] at hw
        cases hb : beyL x.op a with
        | none => rw [hb] at hw; cases hw
        | some r =>
          rw [hb] at hw
          dsimp only at hw
          split at hw
          · cases hw
          · rename_i hn
            obtain ⟨w', hw', rfl⟩ := List.mem_map.mp hw
            have hr2 : Rms R (pre ++ [a] ++ [r]) := ⟨by
              rw [List.nodup_append]
              exact ⟨hr.nd, by simp, fun x hx y hy e => by simp at hy; subst hy; exact hn (e ▸ hx)⟩, fun y hy => by
              rcases List.mem_append.mp hy with z | z
              · exact hr.lo y z
              · simp at z; rw [z]; exact hg x (List.mem_of_getElem? hxi) a r hb⟩
            obtain ⟨rs, t, nd, l⟩ := (mem_waysL hg hlen d (pre ++ [a]) r hr2 (by simp; omega) w').mp hw'
            exact ⟨r :: rs, .cons ⟨x, hxi, hb⟩ t, by simpa using nd, l⟩
      · rintro ⟨rs, t, nd, l⟩
        cases t with
        | nil => exact absurd l e
        | @cons _ b i w rs s t =>
          obtain ⟨x, hxi, hb⟩ := s
          have hn : b ∉ pre ++ [a] := by
            have nd' : (pre ++ [a] ++ b :: rs).Nodup := by simpa using nd
            intro hm
            exact (List.nodup_append.mp nd').2.2 b hm b List.mem_cons_self rfl
          have hr2 : Rms R (pre ++ [a] ++ [b]) := ⟨by
              rw [List.nodup_append]
              exact ⟨hr.nd, by simp, fun x hx y hy e => by simp at hy; subst hy; exact hn (e ▸ hx)⟩, fun y hy => by
              rcases List.mem_append.mp hy with z | z
              · exact hr.lo y z
              · simp at z; rw [z]; exact hg x (List.mem_of_getElem? hxi) a b hb⟩
          refine ⟨(x.op, i), ?_, ?_⟩
          · rw [List.mem_zipIdx_iff_getElem?, List.getElem?_map, hxi]
            rfl
          · dsimp only
            rw [hb]
            dsimp only
            rw [if_neg hn, List.mem_map]
            exact ⟨w, (mem_waysL hg hlen d (pre ++ [a]) b hr2 (by simp; omega) w).mpr ⟨rs, t, by simpa using nd, l⟩, rfl⟩
theorem waysL_nodup (os : List Op) (goal : Int) : ∀ (d : Nat) (rooms : List Int), (waysL d os rooms goal).Nodup
  | 0, _ => by simp [waysL]
  | d + 1, rooms => by
    unfold waysL
    split
    · simp
    · unfold List.Nodup
      rw [List.pairwise_flatMap]
      constructor
      · rintro ⟨o, i⟩ _
        dsimp only
        cases beyL o (rooms.getLast?.getD 0) with
        | none => simp
        | some r =>
          dsimp only
          split
          · simp
          · rw [List.pairwise_map]
            exact (waysL_nodup os goal d _).imp fun h e => h (by simpa using e)
      · have hz : (os.zipIdx).Pairwise (fun p q => p.2 ≠ q.2) := by
          have : ((os.zipIdx).map (·.2)).Nodup := by
            rw [List.zipIdx_map_snd]
            exact List.nodup_range'
          exact List.pairwise_map.mp this
        have hd : ∀ (p : Op × Nat) (x : List Nat), (x ∈ (match beyL p.1 (rooms.getLast?.getD 0) with
            | some r => if r ∈ rooms then [] else (waysL d os (rooms ++ [r]) goal).map (p.2 :: ·)
            | none => [])) → x.head? = some p.2 := by
          rintro ⟨o, i⟩ x hx
          dsimp only at hx
          cases hb : beyL o (rooms.getLast?.getD 0) with
          | none => rw [hb] at hx; cases hx
          | some r =>
            rw [hb] at hx
            dsimp only at hx
            split at hx
            · cases hx
            · obtain ⟨y, _, rfl⟩ := List.mem_map.mp hx
              rfl
        refine hz.imp ?_
        intro p q hne x hx y hy e
        have h1 := hd p x hx
        have h2 := hd q y hy
        rw [e, h2] at h1
        exact hne (Option.some.inj h1).symm
/-! ### rooms that one comes to -/
inductive Rch (os : List Opn) (p : Nat → Prop) : Int → Prop
  | out : Rch os p 0
  | stp {i : Nat} {a b : Int} : p i → Rch os p a → Stp os i a b → Rch os p b
theorem rch_tr {p : Nat → Prop} (ha : Rch os p a) (t : Tr os a w rs) (hp : ∀ i ∈ w, p i) : Rch os p (lst a rs) := by
  induction t with
  | nil => exact ha
  | cons s t ih => exact ih (.stp (hp _ List.mem_cons_self) ha s) fun i hi => hp i (List.mem_cons_of_mem _ hi)
theorem rch_way {p : Nat → Prop} : Rch os p b ↔ ∃ w, IsW os 0 b w ∧ ∀ i ∈ w, p i := by
  constructor
  · intro h
    induction h with
    | out => exact ⟨[], ⟨[], .nil, by simp, rfl⟩, by simp⟩
    | @stp i a b hi ha s ih =>
      obtain ⟨w, ⟨rs, t, nd, l⟩, hp⟩ := ih
      by_cases hb : b ∈ (0 : Int) :: rs
      · obtain ⟨n, t1, e1⟩ := t.upto b hb
        exact ⟨w.take n, ⟨rs.take n, t1, nd.sublist ((List.take_sublist n rs).cons₂ 0), e1⟩, fun j hj => hp j (List.mem_of_mem_take hj)⟩
      · refine ⟨w ++ [i], ⟨rs ++ [b], t.snoc (by rw [l]; exact s), ?_, ?_⟩, fun j hj => ?_⟩
        · rw [← List.cons_append, List.nodup_append]
          exact ⟨nd, by simp, fun x hx y hy e => by simp at hy; subst hy; exact hb (e ▸ hx)⟩
        · rw [lst_app]; rfl
        · rcases List.mem_append.mp hj with z | z
          · exact hp j z
          · simp at z; rw [z]; exact hi
  · rintro ⟨w, ⟨rs, t, _, l⟩, hp⟩
    rw [← l]
    exact rch_tr .out t hp
theorem Rch.mono {p q : Nat → Prop} (h : Rch os p b) (f : ∀ i, i < os.length → p i → q i) : Rch os q b := by
  induction h with
  | out => exact .out
  | stp hi _ s ih => exact .stp (f _ s.lt hi) ih s
end
end Dt

/-! HoE: ways and the rooms beside. -/
namespace Dt
open Dw
section
variable {os : List Opn} {a b c : Int} {i : Nat} {w v : List Nat} {rs qs : List Int}
theorem IsW.self : IsW os a a [] := ⟨[], .nil, by simp, rfl⟩
theorem IsW.nil_of (h : IsW os a a w) : w = [] := by
  obtain ⟨rs, t, nd, l⟩ := h
  cases t with
  | nil => rfl
  | @cons _ b i w rs s t =>
    exfalso
    have m : lst b rs ∈ b :: rs := lst_mem b rs
    rw [show lst b rs = a from l] at m
    exact (List.nodup_cons.mp nd).1 m
/-- a way's last opening -/
theorem isW_snoc : IsW os a c (v ++ [i]) ↔ ∃ b rs, Tr os a v rs ∧ (a :: rs).Nodup ∧ lst a rs = b ∧ c ∉ a :: rs ∧ Stp os i b c := by
  constructor
  · rintro ⟨rs, t, nd, l⟩
    obtain ⟨r1, r2, rfl, t1, t2⟩ := t.split
    cases t2 with
    | @cons _ b _ _ rs s t3 =>
      cases t3 with
      | nil =>
        rw [lst_app] at l
        obtain rfl : b = c := l
        rw [← List.cons_append, List.nodup_append] at nd
        exact ⟨_, r1, t1, nd.1, rfl, fun hm => nd.2.2 _ hm _ (by simp) rfl, s⟩
  · rintro ⟨b, rs, t, nd, l, hn, s⟩
    subst l
    refine ⟨rs ++ [c], t.snoc s, ?_, by rw [lst_app]; rfl⟩
    rw [← List.cons_append, List.nodup_append]
    exact ⟨nd, by simp, fun x hx y hy e => by simp at hy; subst hy; exact hn (e ▸ hx)⟩
theorem isW_last (h : IsW os a c w) (hn : a ≠ c) : ∃ v i, w = v ++ [i] := by
  rcases List.eq_nil_or_concat w with e | ⟨v, i, e⟩
  · subst e
    obtain ⟨rs, t, nd, l⟩ := h
    cases t
    exact absurd l hn
  · exact ⟨v, i, by rw [e, List.concat_eq_append]⟩
/-- the rooms of a way, by what lies beyond -/
def rmsF (os : List Opn) (st : Int × List Int) (i : Nat) : Int × List Int :=
  let o := os.getD i ⟨0, 0, none⟩
  let x := o.a + o.b - st.1
  (x, st.2 ++ [x])
def roomsOf (os : List Opn) (w : List Nat) : List Int := (w.foldl (rmsF os) (0, [0])).2
theorem Stp.sum (ho : ∀ x ∈ os, x.a < x.b) (h : Stp os i a b) : (os.getD i ⟨0, 0, none⟩).a + (os.getD i ⟨0, 0, none⟩).b - a = b := by
  obtain ⟨o, h1, h2⟩ := (stp_iff ho).mp h
  rw [List.getD_eq_getElem?_getD, h1]
  show o.a + o.b - a = b
  rcases h2 with ⟨e1, e2⟩ | ⟨e1, e2⟩ <;> omega
theorem rms_fold (ho : ∀ x ∈ os, x.a < x.b) (t : Tr os a w rs) : ∀ acc, w.foldl (rmsF os) (a, acc) = (lst a rs, acc ++ rs) := by
  induction t with
  | nil => intro acc; simp [lst]
  | @cons a b i w rs s t ih =>
    intro acc
    rw [List.foldl_cons]
    have e : rmsF os (a, acc) i = (b, acc ++ [b]) := by
      unfold rmsF
      dsimp only
      rw [s.sum ho]
    rw [e, ih]
    simp [lst]
theorem roomsOf_tr (ho : ∀ x ∈ os, x.a < x.b) (t : Tr os 0 w rs) : roomsOf os w = 0 :: rs := by
  unfold roomsOf
  rw [rms_fold ho t]
  rfl
/-- ways by those to the rooms beside -/
def dueW (os : List Opn) (every : Int → List (List Nat)) (r : Int) : List (List Nat) :=
  os.zipIdx.flatMap fun p => if r = p.1.a ∨ r = p.1.b then ((every (p.1.a + p.1.b - r)).filter fun w => decide (r ∉ roomsOf os w)).map (· ++ [p.2]) else []
theorem due_mem (ho : ∀ x ∈ os, 0 ≤ x.a ∧ x.a < x.b) {every : Int → List (List Nat)} {R : Int} (hb : ∀ x ∈ os, x.b ≤ R) (he : ∀ r, 0 ≤ r → r ≤ R → ∀ w, w ∈ every r ↔ IsW os 0 r w) {r : Int} (hr : 1 ≤ r) (w : List Nat) : w ∈ dueW os every r ↔ IsW os 0 r w := by
  have ho' : ∀ x ∈ os, x.a < x.b := fun x hx => (ho x hx).2
  unfold dueW
  rw [List.mem_flatMap]
  constructor
  · rintro ⟨⟨o, i⟩, hp, hw⟩
    rw [List.mem_zipIdx_iff_getElem?] at hp
    have hp : os[i]? = some o := hp
    dsimp only at hw
    split at hw
    · rename_i hc
      obtain ⟨v, hv, rfl⟩ := List.mem_map.mp hw
      rw [List.mem_filter, decide_eq_true_eq] at hv
      have h1 := ho o (List.mem_of_getElem? hp)
      have h2 := hb o (List.mem_of_getElem? hp)
      obtain ⟨rs, t, nd, l⟩ := (he _ (by omega) (by omega) v).mp hv.1
      have hn := hv.2
      rw [roomsOf_tr ho' t] at hn
      exact isW_snoc.mpr ⟨_, rs, t, nd, l, hn, (stp_iff ho').mpr ⟨o, hp, by omega⟩⟩
    · cases hw
  · intro h
    obtain ⟨v, i, rfl⟩ := isW_last h (by omega)
    obtain ⟨b, rs, t, nd, l, hn, s⟩ := isW_snoc.mp h
    obtain ⟨o, h1, h2⟩ := (stp_iff ho').mp s
    have k1 := ho o (List.mem_of_getElem? h1)
    have k2 := hb o (List.mem_of_getElem? h1)
    refine ⟨(o, i), List.mem_zipIdx_iff_getElem?.mpr h1, ?_⟩
    dsimp only
    rw [if_pos (by omega), List.mem_map]
    refine ⟨v, ?_, rfl⟩
    rw [List.mem_filter, decide_eq_true_eq, roomsOf_tr ho' t]
    have eb : o.a + o.b - r = b := by omega
    rw [eb]
    exact ⟨(he b (by omega) (by omega) v).mpr ⟨rs, t, nd, l⟩, hn⟩
theorem due_nodup {every : Int → List (List Nat)} (he : ∀ r, (every r).Nodup) (r : Int) : (dueW os every r).Nodup := by
  unfold dueW List.Nodup
  rw [List.pairwise_flatMap]
  constructor
  · rintro ⟨o, i⟩ _
    dsimp only
    split
    · rw [List.pairwise_map]
      exact ((he _).filter _).imp fun h e => h (by simpa using e)
    · simp
  · have hz : (os.zipIdx).Pairwise (fun p q => p.2 ≠ q.2) := by
      have : ((os.zipIdx).map (·.2)).Nodup := by
        rw [List.zipIdx_map_snd]
        exact List.nodup_range'
      exact List.pairwise_map.mp this
    refine hz.imp ?_
    rintro ⟨o, i⟩ ⟨o', j⟩ hne x hx y hy e
    dsimp only at hx hy hne
    split at hx
    · split at hy
      · obtain ⟨v, _, rfl⟩ := List.mem_map.mp hx
        obtain ⟨v', _, rfl⟩ := List.mem_map.mp hy
        have := congrArg List.getLast? e
        simp at this
        exact hne this
      · cases hy
    · cases hx
theorem perm_of {α : Type} [DecidableEq α] : ∀ {l m : List α}, l.Nodup → m.Nodup → (∀ x, x ∈ l ↔ x ∈ m) → l.Perm m := by
  intro l m h1 h2 h
  rw [List.perm_iff_count]
  intro x
  by_cases hx : x ∈ l
  · rw [h1.count, h2.count, if_pos hx, if_pos ((h x).mp hx)]
  · rw [h1.count, h2.count, if_neg hx, if_neg fun q => hx ((h x).mpr q)]
end
end Dt

/-! HoF: reached, unseen, zones_of. -/
namespace Dt
open PySem Dw
/-! ### dicts of rooms -/
def kvR (F : List Int) : List (L2.Key × Vl) := F.map fun r => (Sum.inl r, blV true)
theorem kvR_any (F : List Int) (b : Int) : ((kvR F).any fun kv => decide (kv.1 = Sum.inl b)) = decide (b ∈ F) := by
  unfold kvR
  rw [List.any_map]
  induction F with
  | nil => simp
  | cons a F ih =>
    rw [List.any_cons, ih]
    simp only [Function.comp]
    by_cases h : a = b
    · simp [h]
    · have : ¬ b = a := fun e => h e.symm
      have h2 : ¬ ((Sum.inl a : L2.Key) = Sum.inl b) := fun e => h (Sum.inl.inj e)
      simp [h2, this]
theorem kvR_get (F : List Int) (b : Int) : (dGet (kvR F) (Sum.inl b)).isSome = decide (b ∈ F) := by
  rw [← kvR_any]
  unfold dGet
  rw [Option.isSome_map, Bool.eq_iff_iff]
  simp
theorem kvR_put {F : List Int} {b : Int} (h : b ∉ F) : dPut (kvR F) (Sum.inl b) (blV true) = kvR (F ++ [b]) := by
  unfold dPut
  rw [kvR_any, if_neg (by simpa using h)]
  simp [kvR]
theorem intKeys_kv : ∀ F : List Int, intKeys (kvR F) = pure F
  | [] => rfl
  | a :: F => by
    show (intKeys (kvR F) >>= fun ks => (pure (a :: ks) : M (List Int))) = _
    rw [intKeys_kv F]
    rfl
theorem notIn_dct {t : Sto} {j : Nat} {F : List Int} (b : Int) (h : t[j]? = some (.dct (kvR F))) : cmpop .NotIn (inV b) (.o j) t = .ok (!decide (b ∈ F)) t := by
  show (inB (inV b) (.o j) >>= fun c => (pure (!c) : M Bool)) t = _
  have e : inB (inV b) (.o j) = (getO j >>= fun o => match o with
    | .lst xs => okS (shp (.int b) && shp (.list xs)) (isIn (.int b) xs)
    | .dct kvs => do
      let k ← Dw.keyOf (.int b)
      pure (dGet kvs k).isSome
    | _ => M.no) := rfl
  rw [e, run_bd, run_bd, getO_at h, bd_ok]
  dsimp only
  rw [run_bd, keyOf_int, M.pure_run, bd_ok, M.pure_run, bd_ok, kvR_get]
  rfl
theorem pop_run {t : Sto} {i : Nat} {ys : List D} {x : D} (h : t[i]? = some (.lst (ys ++ [x]))) : mt .pop (.o i) [] t = .ok (.d x) (t.set i (.lst ys)) := by
  show setLst (.o i) (fun xs => match xs[xs.length - 1]? with
    | some x => pure (.d x, xs.dropLast)
    | none => M.no) t = _
  unfold setLst
  dsimp only
  rw [M.bind_run]
  unfold getO
  rw [h]
  dsimp only
  simp
  rfl
theorem sorted_eq {l m : List Int} (p : l.Perm m) (h : m.Pairwise (fun a b => a ≤ b)) : sortD (l.map .int) = m.map .int := by
  have e1 : sortD (l.map .int) = (l.mergeSort fun a b => decide (a ≤ b)).map .int := by
    unfold sortD
    rw [List.map_mergeSort]
    intro a _ b _
    show decide (a ≤ b) = (!PySem.W.dataLt (.int b) (.int a))
    rw [PySem.W.dataLt_int]
    by_cases c : b < a
    · have : ¬ a ≤ b := by omega
      simp [c, this]
    · have : a ≤ b := by omega
      simp [c, this]
  rw [e1]
  congr 1
  refine List.Perm.eq_of_pairwise (le := fun a b => a ≤ b) (fun a b _ _ h1 h2 => by omega) ?_ h ((List.mergeSort_perm _ _).trans p)
  have := List.pairwise_mergeSort (le := fun (a b : Int) => decide (a ≤ b)) (fun a b c h1 h2 => by simp at *; omega) (fun a b => by simp; omega) l
  exact this.imp fun h => by simpa using h
theorem sortedK_run {t : Sto} {j : Nat} {F L : List Int} (h : t[j]? = some (.dct (kvR F))) (hl : F.length < 64) (p : F.Perm L) (hs : L.Pairwise (fun a b => a ≤ b)) : bi .sortedK [.o j] t = .ok (liV (L.map .int)) t := by
  show (getO j >>= fun o => match o with
      | .dct kvs => do
        let ks ← intKeys kvs
        okS (decide (ks.length < 64)) (liV (sortD (ks.map .int)))
      | _ => M.no) t = _
  rw [run_bd, getO_at h, bd_ok]
  dsimp only
  rw [run_bd, intKeys_kv, M.pure_run, bd_ok, show decide (F.length < 64) = true from decide_eq_true hl, sorted_eq p hs]
  rfl
/-! ### reached -/
def rooms (R : Int) : List Int := (List.range (R.toNat + 1)).map fun (n : Nat) => (n : Int)
theorem rooms_mem {R : Int} (hR : 0 ≤ R) (r : Int) : r ∈ rooms R ↔ 0 ≤ r ∧ r ≤ R := by
  unfold rooms
  rw [List.mem_map]
  constructor
  · rintro ⟨n, hn, rfl⟩
    rw [List.mem_range] at hn
    omega
  · rintro ⟨h1, h2⟩
    exact ⟨r.toNat, by rw [List.mem_range]; omega, by omega⟩
theorem rooms_lt (R : Int) : (rooms R).Pairwise (fun a b => a < b) := by
  unfold rooms
  rw [List.pairwise_map]
  exact List.pairwise_lt_range.imp fun h => by omega
noncomputable def rchD (os : List Opn) (p : Nat → Prop) (r : Int) : Bool := @decide (Rch os p r) (Classical.propDecidable _)
theorem rchD_iff {os : List Opn} {p : Nat → Prop} {r : Int} : rchD os p r = true ↔ Rch os p r := by
  unfold rchD
  exact @decide_eq_true_iff (Rch os p r) (Classical.propDecidable _)
noncomputable def rchL (H : Hs) (p : Nat → Prop) : List Int := (rooms H.R).filter (rchD H.os p)
theorem rchL_lt (H : Hs) (p : Nat → Prop) : (rchL H p).Pairwise (fun a b => a < b) := (rooms_lt H.R).filter _
theorem rchL_le (H : Hs) (p : Nat → Prop) : (rchL H p).Pairwise (fun a b => a ≤ b) := (rchL_lt H p).imp fun h => by omega
theorem rchL_nd (H : Hs) (p : Nat → Prop) : (rchL H p).Nodup := (rchL_lt H p).imp fun h => by omega
theorem stp_lo {H : Hs} (g : GoodH H) {i : Nat} {a b : Int} (s : Stp H.os i a b) : 0 ≤ b ∧ b ≤ H.R := by
  obtain ⟨o, h1, h2⟩ := s
  exact beyL_good (good_op g o.op (List.mem_map.mpr ⟨o, List.mem_of_getElem? h1, rfl⟩)) h2
theorem rch_lo {H : Hs} (g : GoodH H) {p : Nat → Prop} {r : Int} (h : Rch H.os p r) : 0 ≤ r ∧ r ≤ H.R := by
  cases h with
  | out => exact ⟨by omega, by have := g.r1; omega⟩
  | stp _ _ s => exact stp_lo g s
theorem rchL_mem {H : Hs} (g : GoodH H) (p : Nat → Prop) (r : Int) : r ∈ rchL H p ↔ Rch H.os p r := by
  unfold rchL
  rw [List.mem_filter, rooms_mem (by have := g.r1; omega), rchD_iff]
  exact ⟨fun h => h.2, fun h => ⟨rch_lo g h, h⟩⟩
theorem rchL_len {H : Hs} (g : GoodH H) (p : Nat → Prop) : (rchL H p).length ≤ 8 := by
  refine Nat.le_trans (List.length_filter_le _ _) ?_
  unfold rooms
  rw [List.length_map, List.length_range]
  have := g.r7
  omega
/-- what has been found, what is still to be looked at -/
structure RInv (H : Hs) (p : Nat → Prop) (F T : List Int) : Prop where
  nd : F.Nodup
  rc : ∀ r ∈ F, Rch H.os p r
  z : (0 : Int) ∈ F
  sub : ∀ r ∈ T, r ∈ F
  td : T.Nodup
  cl : ∀ a ∈ F, a ∉ T → ∀ i b, p i → Stp H.os i a b → b ∈ F
theorem lenR {H : Hs} (g : GoodH H) {p : Nat → Prop} {F : List Int} (nd : F.Nodup) (rc : ∀ r ∈ F, Rch H.os p r) : F.length ≤ H.R.toNat + 1 := by
  have h1 : Rms H.R F := ⟨nd, fun r hr => rch_lo g (rc r hr)⟩
  exact h1.len (by have := g.r1; omega)
theorem RInv.end_ {H : Hs} (g : GoodH H) {p : Nat → Prop} {F : List Int} (h : RInv H p F []) : F.Perm (rchL H p) := by
  refine perm_of h.nd (rchL_nd H p) fun x => ?_
  rw [rchL_mem g]
  refine ⟨h.rc x, fun hx => ?_⟩
  induction hx with
  | out => exact h.z
  | stp hi _ s ih => exact h.cl _ ih (by simp) _ _ hi s
/-- what a turn over the openings keeps -/
def TI (H : Hs) (ns : List Nat) (p : Nat → Prop) (F T : List Int) (a : Int) (pre : List Nat) (e : Dw.Env) (t : Sto) : Prop := ∃ (N : List Int) (v5 v6 : Option Vl), e = [some (V H), some (liV (ns.map natD)), some (.o 0), some (.o 1), some (inV a), v5, v6] ∧ t = [.dct (kvR (F ++ N)), .lst ((T ++ N).map .int)] ∧
        (F ++ N).Nodup ∧ (∀ r ∈ N, Rch H.os p r) ∧ ∀ i ∈ pre, ∀ b, Stp H.os i a b → b ∈ F ++ N
def WI (H : Hs) (ns : List Nat) (m : Nat) (e : Dw.Env) (t : Sto) : Prop := ∃ (F T : List Int) (v4 v5 v6 : Option Vl), e = [some (V H), some (liV (ns.map natD)), some (.o 0), some (.o 1), v4, v5, v6] ∧ t = [.dct (kvR F), .lst (T.map .int)] ∧ RInv H (· ∈ ns) F T ∧ m + 2 * F.length = 2 * (H.R.toNat + 1) + T.length
/-! ### unseen -/
theorem rchL_congr {H : Hs} {p q : Nat → Prop} (h : ∀ i, i < H.os.length → (p i ↔ q i)) : rchL H p = rchL H q := by
  unfold rchL
  apply List.filter_congr
  intro r _
  rw [Bool.eq_iff_iff, rchD_iff, rchD_iff]
  exact ⟨fun a => a.mono fun i hi => (h i hi).mp, fun a => a.mono fun i hi => (h i hi).mpr⟩
/-- nothing watches it, or such a name -/
def freeO (names : List Tx) (o : Opn) : Bool := match o.z with
  | none => true
  | some z => decide (z ∈ names)
def freeI (H : Hs) (names : List Tx) (i : Nat) : Prop := ∃ o, H.os[i]? = some o ∧ freeO names o = true
noncomputable def unsS (H : Hs) (names : List Tx) : List Int := rchL H (freeI H names)
theorem isIn_O (o : Option Tx) (names : List Tx) : isIn (Enc.e o) (names.map Enc.e) = (match o with | none => false | some z => decide (z ∈ names)) := by
  cases o with
  | some z => exact isIn_map z names
  | none =>
    unfold isIn
    rw [List.any_map, List.any_eq_false]
    intro x _
    show ¬ PyData.eqv (.str x.x) .none = true
    rw [eqv_sn]
    simp
end Dt

/-! HoG: zones of houses. -/
namespace Dt
open PySem Dw
theorem strsM_tx : ∀ as : List Tx, strsM (as.map Enc.e) = pure (as.map (·.x))
  | [] => rfl
  | a :: as => by
    rw [List.map_cons]
    show (strsM (as.map Enc.e) >>= fun xs => (pure (a.x :: xs) : M (List Str))) = _
    rw [strsM_tx as]
    rfl
def dedF (l : List Tx) (k : Tx) : List Tx := if k ∈ l then l else k :: l
def dedT (as : List Tx) : List Tx := as.foldl dedF []
theorem tx_ext {a b : Tx} (h : a.x = b.x) : a = b := by cases a; cases b; simp at h; simp [h]
theorem dedG_met : ∀ (as l : List Tx), (as.foldl dedF l).map (·.x) = (as.map (·.x)).foldl metF (l.map (·.x))
  | [], l => rfl
  | a :: as, l => by
    rw [List.foldl_cons, dedG_met as, List.map_cons, List.foldl_cons]
    congr 1
    unfold dedF metF
    by_cases h : a ∈ l
    · rw [if_pos h, if_pos (List.mem_map.mpr ⟨a, h, rfl⟩)]
    · rw [if_neg h, if_neg (fun q => by
        obtain ⟨b, hb, e⟩ := List.mem_map.mp q
        exact h (tx_ext e ▸ hb))]
      rfl
theorem dedT_met (as : List Tx) : (dedT as).map (·.x) = metS (as.map (·.x)) := dedG_met as []
theorem dedG_mem : ∀ (as l : List Tx) (x : Tx), x ∈ as.foldl dedF l ↔ x ∈ l ∨ x ∈ as
  | [], l, x => by simp
  | a :: as, l, x => by
    rw [List.foldl_cons, dedG_mem as]
    unfold dedF
    split
    · constructor
      · rintro (h | h)
        · exact .inl h
        · exact .inr (List.mem_cons_of_mem _ h)
      · rintro (h | h)
        · exact .inl h
        · rcases List.mem_cons.mp h with h | h
          · rw [h]; exact .inl ‹_›
          · exact .inr h
    · simp only [List.mem_cons]
      constructor
      · rintro ((h | h) | h)
        · exact .inr (.inl h)
        · exact .inl h
        · exact .inr (.inr h)
      · rintro (h | h | h)
        · exact .inl (.inr h)
        · exact .inl (.inl h)
        · exact .inr h
theorem dedT_mem (as : List Tx) (x : Tx) : x ∈ dedT as ↔ x ∈ as := by simp [dedT, dedG_mem]
theorem dedT_nd (as : List Tx) : (dedT as).Nodup := by
  have h := metS_nd (as.map (·.x))
  rw [← dedT_met] at h
  exact (List.pairwise_map.mp h).imp fun h e => h (by rw [e])
theorem setSrt_tx (as : List Tx) (h : as.length ≤ 4000) : setSrt (liV (as.map Enc.e)) = pure (liV ((sortT (dedT as)).map Enc.e)) := by
  show (lItems (liV (as.map Enc.e)) >>= fun xs => strsM xs >>= fun ss => okS (decide (ss.length ≤ 4000)) (liV (sortD ((metS ss).map .str)))) = _
  show (strsM (as.map Enc.e) >>= fun ss => okS (decide (ss.length ≤ 4000)) (liV (sortD ((metS ss).map .str)))) = _
  rw [strsM_tx, M.pure_bind, List.length_map, decide_eq_true h, ← dedT_met, List.map_map]
  show pure (liV (sortD ((dedT as).map Enc.e))) = _
  rw [sortD_map]
/-! order of texts -/
theorem leT_trans (a b c : Tx) (h1 : leT a b = true) (h2 : leT b c = true) : leT a c = true := by
  unfold leT at *
  rw [decide_eq_true_eq] at *
  exact List.le_trans h1 h2
theorem leT_total (a b : Tx) : (leT a b || leT b a) = true := by
  unfold leT
  rw [Bool.or_eq_true, decide_eq_true_eq, decide_eq_true_eq]
  exact List.le_total _ _
theorem leT_anti {a b : Tx} (h1 : leT a b = true) (h2 : leT b a = true) : a = b := by
  unfold leT at *
  rw [decide_eq_true_eq] at *
  have := List.le_antisymm h1 h2
  apply tx_ext
  cases a with | mk a _ => cases b with | mk b _ =>
  cases a with | mk a => cases b with | mk b =>
  simp at this
  subst this
  rfl
theorem sortT_pw (l : List Tx) : (sortT l).Pairwise (fun a b => leT a b = true) := List.pairwise_mergeSort leT_trans leT_total l
theorem sortT_nd {l : List Tx} (h : l.Nodup) : (sortT l).Nodup := (sortT_perm l).nodup_iff.mpr h
/-- sorted rows of the same texts -/
theorem sorted_tx {l m : List Tx} (h1 : l.Pairwise (fun a b => leT a b = true)) (h2 : m.Pairwise (fun a b => leT a b = true)) (n1 : l.Nodup) (n2 : m.Nodup) (h : ∀ x, x ∈ l ↔ x ∈ m) : l = m :=
  List.Perm.eq_of_pairwise (le := fun a b => leT a b = true) (fun a b _ _ h1 h2 => leT_anti h1 h2) h1 h2 (perm_of n1 n2 h)
def znsL (H : Hs) : List Tx := sortT (dedT (H.os.filterMap (·.z)))
theorem znsL_mem (H : Hs) (z : Tx) : z ∈ znsL H ↔ ∃ o ∈ H.os, o.z = some z := by
  unfold znsL
  rw [mem_sortT, dedT_mem, List.mem_filterMap]
theorem znsL_nd (H : Hs) : (znsL H).Nodup := sortT_nd (dedT_nd _)
theorem znsL_pw (H : Hs) : (znsL H).Pairwise (fun a b => leT a b = true) := sortT_pw _
theorem dedG_len : ∀ (as l : List Tx), (as.foldl dedF l).length ≤ l.length + as.length
  | [], l => by simp
  | a :: as, l => by
    have := dedG_len as (dedF l a)
    have h : (dedF l a).length ≤ l.length + 1 := by unfold dedF; split <;> simp
    simp at this ⊢
    omega
theorem znsL_len (H : Hs) : (znsL H).length ≤ H.os.length := by
  unfold znsL
  rw [(sortT_perm _).length_eq]
  have := dedG_len (H.os.filterMap (·.z)) []
  have h2 := List.length_filterMap_le (·.z) H.os
  simp at this
  unfold dedT
  omega
end Dt

namespace Dt
open PySem Dw
theorem mem_waysU {H : Hs} (g : GoodH H) (r : Int) (w : List Nat) : w ∈ waysU H r ↔ IsW H.os 0 r w := by
  have h := mem_waysL (os := H.os) (R := H.R) (goal := r) (fun o ho a b h => beyL_good (good_op g o.op (List.mem_map.mpr ⟨o, ho, rfl⟩)) h) (fun rooms h => h.len (by have := g.r1; omega)) 10 [] 0 (rms0 g) (by have := g.r7; simp; omega) w
  exact h
theorem mem_waysS {H : Hs} (g : GoodH H) (r : Int) (w : List Nat) : w ∈ waysS H r ↔ IsW H.os 0 r w := by
  unfold waysS
  rw [(sortW_perm _).mem_iff, mem_waysU g]
theorem rch_same {H H' : Hs} (hR : H'.R = H.R) (hl : H'.os.length = H.os.length) (hs : ∀ i a b, Stp H'.os i a b ↔ Stp H.os i a b) {p q : Nat → Prop} (hp : ∀ i, i < H.os.length → (p i ↔ q i)) : rchL H' p = rchL H q := by
  unfold rchL
  rw [hR]
  apply List.filter_congr
  rintro r -
  rw [Bool.eq_iff_iff, rchD_iff, rchD_iff]
  constructor
  · intro h
    induction h with
    | out => exact .out
    | stp hi _ s ih => exact .stp ((hp _ (by rw [← hl]; exact s.lt)).mp hi) ih ((hs _ _ _).mp s)
  · intro h
    induction h with
    | out => exact .out
    | stp hi _ s ih => exact .stp ((hp _ s.lt).mpr hi) ih ((hs _ _ _).mpr s)
theorem stp_map {os : List Opn} {f : Opn → Opn} (hf : ∀ o, (f o).a = o.a ∧ (f o).b = o.b) (i : Nat) (a b : Int) : Stp (os.map f) i a b ↔ Stp os i a b := by
  unfold Stp
  have e : ∀ o : Opn, beyL (f o).op a = beyL o.op a := fun o => by
    unfold beyL Opn.op
    dsimp only
    rw [(hf o).1, (hf o).2]
  constructor
  · rintro ⟨o, h1, h2⟩
    rw [List.getElem?_map] at h1
    cases ho : os[i]? with
    | none => rw [ho] at h1; cases h1
    | some x =>
      rw [ho] at h1
      cases h1
      exact ⟨x, rfl, by rw [← e]; exact h2⟩
  · rintro ⟨o, h1, h2⟩
    exact ⟨f o, by rw [List.getElem?_map, h1]; rfl, by rw [e]; exact h2⟩
/-- openings of such names watched by nothing -/
def bareO (names : List Tx) (o : Opn) : Opn := ⟨o.a, o.b, match o.z with | none => none | some z => if z ∈ names then none else some z⟩
def bareH (H : Hs) (names : List Tx) : Hs := ⟨H.R, H.os.map (bareO names)⟩
theorem bareH_good {H : Hs} (g : GoodH H) (names : List Tx) : GoodH (bareH H names) where
  r1 := g.r1
  r7 := g.r7
  o10 := by show (List.map _ _).length ≤ 10; rw [List.length_map]; exact g.o10
  o := by
    intro x hx
    obtain ⟨y, hy, rfl⟩ := List.mem_map.mp hx
    exact g.o y hy
theorem freeI_iff {H : Hs} {names : List Tx} {i : Nat} {o : Opn} (h : H.os[i]? = some o) : freeI H names i ↔ freeO names o = true := by
  constructor
  · rintro ⟨o', h1, h2⟩
    rw [h] at h1; cases h1; exact h2
  · exact fun k => ⟨o, h, k⟩
theorem uns_bare {H : Hs} (names more : List Tx) (hm : ∀ z ∈ more, z ∈ names) : unsS (bareH H names) more = unsS H names := by
  unfold unsS
  refine rch_same (H := H) (H' := bareH H names) rfl (by simp [bareH]) (fun i a b => stp_map (f := bareO names) (fun o => ⟨rfl, rfl⟩) i a b) fun i hi => ?_
  obtain ⟨o, ho⟩ : ∃ o, H.os[i]? = some o := ⟨_, List.getElem?_eq_getElem hi⟩
  have hb : (bareH H names).os[i]? = some (bareO names o) := by show (H.os.map _)[i]? = _; rw [List.getElem?_map, ho]; rfl
  rw [freeI_iff hb, freeI_iff ho]
  obtain ⟨a, b, z⟩ := o
  cases z with
  | none => simp [freeO, bareO]
  | some z =>
    by_cases hz : z ∈ names
    · simp [freeO, bareO, hz]
    · simp [freeO, bareO, hz]
      exact fun q => hz (hm z q)
theorem uns_congr {H : Hs} {l m : List Tx} (h : ∀ o ∈ H.os, ∀ z, o.z = some z → (z ∈ l ↔ z ∈ m)) : unsS H l = unsS H m := by
  unfold unsS
  refine rchL_congr fun i hi => ?_
  obtain ⟨o, ho⟩ : ∃ o, H.os[i]? = some o := ⟨_, List.getElem?_eq_getElem hi⟩
  rw [freeI_iff ho, freeI_iff ho]
  unfold freeO
  cases hz : o.z with
  | none => simp
  | some z => simp [h o (List.mem_of_getElem? ho) z hz]
theorem zns_bare (H : Hs) (names : List Tx) : (znsL H).filter (fun z => !decide (z ∈ names)) = znsL (bareH H names) := by
  refine sorted_tx ((znsL_pw H).filter _) (znsL_pw _) ((znsL_nd H).filter _) (znsL_nd _) fun x => ?_
  rw [List.mem_filter, znsL_mem, znsL_mem]
  simp only [Bool.not_eq_true', decide_eq_false_iff_not, bareH, List.mem_map]
  constructor
  · rintro ⟨⟨o, ho, hz⟩, hn⟩
    exact ⟨_, ⟨o, ho, rfl⟩, by simp [bareO, hz, hn]⟩
  · rintro ⟨_, ⟨o, ho, rfl⟩, hz⟩
    unfold bareO at hz
    dsimp only at hz
    split at hz
    · cases hz
    · rename_i z e
      split at hz
      · cases hz
      · cases hz
        exact ⟨⟨o, ho, e⟩, ‹_›⟩
theorem rooms_cons {R : Int} (hR : 0 ≤ R) : rooms R = 0 :: (List.range R.toNat).map fun (n : Nat) => 1 + (n : Int) := by
  unfold rooms
  rw [List.range_succ_eq_map, List.map_cons, List.map_map]
  congr 1
  apply List.map_congr_left
  intro n _
  show ((n + 1 : Nat) : Int) = 1 + n
  omega
theorem uns_all {H : Hs} (g : GoodH H) : unsS H (znsL H) = 0 :: ((List.range H.R.toNat).map fun (n : Nat) => 1 + (n : Int)).filter fun r => decide (waysS H r ≠ []) := by
  unfold unsS rchL
  rw [rooms_cons (by have := g.r1; omega), List.filter_cons_of_pos (rchD_iff.mpr .out)]
  congr 1
  apply List.filter_congr
  intro r _
  rw [Bool.eq_iff_iff, rchD_iff, decide_eq_true_eq, rch_way]
  constructor
  · rintro ⟨w, hw, _⟩ e
    have := (mem_waysS g r w).mpr hw
    rw [e] at this
    cases this
  · intro h
    obtain ⟨w, hw⟩ := List.exists_mem_of_ne_nil _ h
    have hw := (mem_waysS g r w).mp hw
    refine ⟨w, hw, fun i hi => ?_⟩
    obtain ⟨rs, t, _⟩ := hw
    have hl := t.lt i hi
    obtain ⟨o, ho⟩ : ∃ o, H.os[i]? = some o := ⟨_, List.getElem?_eq_getElem hl⟩
    refine (freeI_iff ho).mpr ?_
    unfold freeO
    cases hz : o.z with
    | none => rfl
    | some z =>
      simp only [decide_eq_true_eq]
      exact (znsL_mem H z).mpr ⟨o, List.mem_of_getElem? ho, hz⟩
theorem zero_uns {H : Hs} (g : GoodH H) (names : List Tx) : (0 : Int) ∈ unsS H names := (rchL_mem g _ 0).mpr .out
theorem houseOf_zone (n : Int) : ∀ o ∈ (houseOf n).os, o.z ∈ zns7 := by
  intro o ho
  obtain ⟨i, _, rfl⟩ := List.mem_map.mp ho
  exact pick_mem zns7 none _ (by decide)
def nms6 : List Tx := [tx "a", tx "b", tx "back", tx "hall", tx "win", tx "none"]
def pw6 (i : Nat) : Int := [1, 2, 4, 8, 16, 32].getD i 1
def nm27 (n : Int) (p : Tx × Nat) : Option Tx := if n / pw6 p.2 % 2 = 1 then some p.1 else none
@[simp] theorem enum27 : enumD 0 [(.str "a" : D), .str "b", .str "back", .str "hall", .str "win", .str "none"] = nms6.zipIdx.map enP := rfl
end Dt
namespace Dw
end Dw

/-! HoH: rooms of ways. -/
namespace Dt
open PySem Dw
theorem rmsF_len (os : List Opn) : ∀ (w : List Nat) (st : Int × List Int), (w.foldl (rmsF os) st).2.length = st.2.length + w.length
  | [], st => rfl
  | i :: w, st => by
    rw [List.foldl_cons, rmsF_len os w]
    simp [rmsF]
    omega
/-! dicts, lists of the store -/
theorem ix_dct {t : Sto} {j : Nat} {kvs : List (L2.Key × Vl)} {r : Int} {v : Vl} (h : t[j]? = some (.dct kvs)) (hv : dGet kvs (Sum.inl r) = some v) : ixV (.o j) (inV r) t = .ok v t := by
  unfold ixV
  dsimp only
  rw [run_bd, getO_at h, bd_ok]
  dsimp only
  rw [run_bd, asD_d, M.pure_run, bd_ok, run_bd, keyOf_int, M.pure_run, bd_ok, hv]
  rfl
theorem sorted_ob {t : Sto} {j : Nat} {ys : List D} (h : t[j]? = some (.lst ys)) (ho : ordd ys = true) : bi .sorted [.o j] t = .ok (liV (sortD ys)) t := by
  show (sItems (.o j) >>= fun xs => okS (ordd xs) (liV (sortD xs))) t = _
  unfold sItems
  dsimp only
  rw [run_bd, run_bd, getO_at h, bd_ok]
  show (okS (ordd ys) (liV (sortD ys))) t = _
  rw [ho]
  rfl
theorem metZ_nodup : ∀ (xs l : List Int), (∀ x ∈ xs, x ∉ l) → xs.Nodup → (xs.foldl metG l).length = l.length + xs.length
  | [], l, _, _ => by simp
  | x :: xs, l, h, nd => by
    obtain ⟨n1, n2⟩ := List.nodup_cons.mp nd
    have h0 := h x List.mem_cons_self
    rw [List.foldl_cons, metZ_nodup xs (metG l x) (fun y hy => ?_) n2]
    · unfold metG
      rw [if_neg h0]
      simp
      omega
    · unfold metG
      rw [if_neg h0, List.mem_cons]
      rintro (z | z)
      · exact n1 (z ▸ hy)
      · exact h y (List.mem_cons_of_mem _ hy) z
theorem setLen_ints (ns : List Int) (nd : ns.Nodup) (hl : ns.length ≤ 1000) : setLen (liV (ns.map .int)) = pure (inV ns.length) := by
  cases ns with
  | nil => rfl
  | cons a ns =>
    show (intsM ((a :: ns).map .int) >>= fun ns => okS (decide (ns.length ≤ 4000)) (inV (metZ ns).length)) = _
    rw [intsM_map, M.pure_bind, decide_eq_true (by omega)]
    have := metZ_nodup (a :: ns) [] (by simp) nd
    unfold metZ
    rw [this]
    simp
end Dt

namespace Dt
open PySem Dw
def ev28 (H : Hs) (r : Int) : List (List Nat) := if r = 0 then [[]] else waysS H r
theorem ev28_mem {H : Hs} (g : GoodH H) (r : Int) (w : List Nat) : w ∈ ev28 H r ↔ IsW H.os 0 r w := by
  unfold ev28
  by_cases h : r = 0
  · rw [if_pos h, h, List.mem_singleton]
    constructor
    · rintro rfl; exact IsW.self
    · exact fun q => q.nil_of
  · rw [if_neg h, mem_waysS g]
theorem ev28_nd {H : Hs} (r : Int) : (ev28 H r).Nodup := by
  unfold ev28
  split
  · simp
  · exact (sortW_perm _).nodup_iff.mpr (waysL_nodup _ _ _ _)
def kv28 (H : Hs) : List (L2.Key × Vl) := ((List.range H.R.toNat).map fun (i : Nat) => ((Sum.inl (1 + (i : Int)) : L2.Key), tuV ((waysS H (1 + i)).map Enc.e))) ++ [(Sum.inl 0, tuV [Enc.e ([] : List Nat)])]
theorem dget_in {kvs : List (L2.Key × Vl)} {k : L2.Key} {v : Vl} (h : (k, v) ∈ kvs) (nd : (kvs.map (·.1)).Nodup) : dGet kvs k = some v := by
  unfold dGet
  induction kvs with
  | nil => cases h
  | cons p kvs ih =>
    rw [List.map_cons, List.nodup_cons] at nd
    by_cases e : p.1 = k
    · rcases List.mem_cons.mp h with q | q
      · subst q; simp
      · exact absurd (List.mem_map.mpr ⟨_, q, rfl⟩) (by rw [← e] at *; exact nd.1)
    · rcases List.mem_cons.mp h with q | q
      · subst q; exact absurd rfl e
      · rw [List.find?_cons_of_neg (by simpa using e)]
        exact ih q nd.2
theorem kv28_nd (H : Hs) : ((kv28 H).map (·.1)).Nodup := by
  unfold kv28
  rw [List.map_append, List.map_map, List.nodup_append]
  refine ⟨?_, by simp, ?_⟩
  · unfold List.Nodup
    rw [List.pairwise_map]
    exact List.nodup_range.imp fun {a b} h e => h (by have := Sum.inl.inj e; omega)
  · intro a ha b hb e
    simp at hb
    obtain ⟨i, _, rfl⟩ := List.mem_map.mp ha
    rw [hb] at e
    have := Sum.inl.inj e
    omega
theorem kv28_get {H : Hs} (g : GoodH H) {r : Int} (h0 : 0 ≤ r) (h1 : r ≤ H.R) : dGet (kv28 H) (Sum.inl r) = some (tuV ((ev28 H r).map Enc.e)) := by
  refine dget_in ?_ (kv28_nd H)
  unfold kv28 ev28
  by_cases h : r = 0
  · rw [if_pos h, h]
    exact List.mem_append_right _ (by simp)
  · rw [if_neg h]
    refine List.mem_append_left _ (List.mem_map.mpr ⟨(r - 1).toNat, by rw [List.mem_range]; omega, ?_⟩)
    have : 1 + ((r - 1).toNat : Int) = r := by omega
    rw [this]
theorem pairD_map {α : Type} (f : α → Int) (g : α → D) : ∀ l : List α, pairD (l.map fun i => PyData.tuple [.int (f i), g i]) = pure (l.map fun i => (Sum.inl (f i), .d (g i)))
  | [] => rfl
  | a :: l => by
    show (Dw.keyOf (.int (f a)) >>= fun k => pairD (l.map fun i => PyData.tuple [.int (f i), g i]) >>= fun ps => (pure ((k, .d (g a)) :: ps) : M (List (L2.Key × Vl)))) = _
    rw [pairD_map f g l, keyOf_int]
    rfl
theorem dPut_new {kvs : List (L2.Key × Vl)} {k : L2.Key} {v : Vl} (h : k ∉ kvs.map (·.1)) : dPut kvs k v = kvs ++ [(k, v)] := by
  unfold dPut
  rw [if_neg]
  rw [Bool.not_eq_true, List.any_eq_false]
  intro p hp q
  exact h (List.mem_map.mpr ⟨p, hp, by simpa using q⟩)
theorem dMrg_nd : ∀ (ps kvs : List (L2.Key × Vl)), ((kvs ++ ps).map (·.1)).Nodup → dMrg kvs ps = kvs ++ ps
  | [], kvs, _ => by simp [dMrg]
  | p :: ps, kvs, nd => by
    have e : dMrg kvs (p :: ps) = dMrg (dPut kvs p.1 p.2) ps := rfl
    rw [e, dPut_new, dMrg_nd ps _ (by simpa using nd)]
    · simp
    · intro h
      rw [List.map_append, List.nodup_append] at nd
      exact nd.2.2 p.1 h p.1 (by simp) rfl
/-- the rooms beside, opening by opening -/
def dueO (H : Hs) (r : Int) (p : Opn × Nat) : List (List Nat) := if r = p.1.a ∨ r = p.1.b then ((ev28 H (p.1.a + p.1.b - r)).filter fun w => decide (r ∉ roomsOf H.os w)).map (· ++ [p.2]) else []
theorem due_perm {H : Hs} (g : GoodH H) {r : Int} (h1 : 1 ≤ r) : (H.os.zipIdx.flatMap (dueO H r)).Perm (waysU H r) := by
  have ho : ∀ x ∈ H.os, 0 ≤ x.a ∧ x.a < x.b := fun x hx => ⟨(g.o x hx).1, (g.o x hx).2.1⟩
  refine perm_of (due_nodup (every := ev28 H) (fun r => ev28_nd r) r) (waysL_nodup _ _ _ _) fun w => ?_
  rw [show H.os.zipIdx.flatMap (dueO H r) = dueW H.os (ev28 H) r from rfl, due_mem ho (fun x hx => (g.o x hx).2.2) (fun r _ _ w => ev28_mem g r w) h1]
  exact (mem_waysU g r w).symm
/-! order of ways -/
theorem leW_eq (a b : List Nat) : leW a b = decide ((a.map fun (i : Nat) => (i : Int)) ≤ b.map fun (i : Nat) => (i : Int)) := by
  show (!PySem.W.dataLt (.tuple (b.map natD)) (.tuple (a.map natD))) = _
  rw [PySem.W.dataLt_tuple]
  have e : ∀ l : List Nat, l.map natD = (l.map fun (i : Nat) => (i : Int)).map PyData.int := fun l => by rw [List.map_map]; rfl
  rw [e, e]
  have := PySem.W.dataLt_ints (b.map fun (i : Nat) => (i : Int)) (a.map fun (i : Nat) => (i : Int))
  unfold PySem.W.rowLt at this
  rw [this]
  by_cases h : (b.map fun (i : Nat) => (i : Int)) < a.map fun (i : Nat) => (i : Int)
  · have h' := fun r => List.not_lt.mpr r h
    simp [h, h']
  · have h' := List.not_lt.mp h
    simp [h, h']
theorem leW_trans (a b c : List Nat) (h1 : leW a b = true) (h2 : leW b c = true) : leW a c = true := by
  rw [leW_eq, decide_eq_true_eq] at *
  exact List.le_trans h1 h2
theorem leW_total (a b : List Nat) : (leW a b || leW b a) = true := by
  rw [leW_eq, leW_eq, Bool.or_eq_true, decide_eq_true_eq, decide_eq_true_eq]
  exact List.le_total _ _
theorem leW_anti {a b : List Nat} (h1 : leW a b = true) (h2 : leW b a = true) : a = b := by
  rw [leW_eq, decide_eq_true_eq] at *
  have := List.le_antisymm h1 h2
  exact (List.map_inj_right (fun x y e => by have e : (x : Int) = y := e; omega)).mp this
theorem sortW_pw (l : List (List Nat)) : (sortW l).Pairwise (fun a b => leW a b = true) := List.pairwise_mergeSort leW_trans leW_total l
theorem sortW_congr {l m : List (List Nat)} (p : l.Perm m) : sortW l = sortW m :=
  List.Perm.eq_of_pairwise (le := fun a b => leW a b = true) (fun a b _ _ h1 h2 => leW_anti h1 h2) (sortW_pw l) (sortW_pw m) ((sortW_perm l).trans (p.trans (sortW_perm m).symm))
theorem due_sorted {H : Hs} (g : GoodH H) {r : Int} (h1 : 1 ≤ r) : sortW (H.os.zipIdx.flatMap (dueO H r)) = waysS H r := sortW_congr (due_perm g h1)
theorem dict_run {xs : List D} {ps : List (L2.Key × Vl)} (h : pairD xs = pure ps) (nd : (ps.map (·.1)).Nodup) (hl : ps.length ≤ 1000) (t : Sto) : bi .dict [liV xs] t = .ok (.o t.length) (t ++ [.dct ps]) := by
  show (lItems (liV xs) >>= fun xs => pairD xs >>= fun ps => okS (decide (ps.length ≤ szLine)) () >>= fun _ => newO (.dct (dMrg [] ps)) >>= fun i => (pure (.o i) : M Vl)) t = _
  show (pairD xs >>= fun ps => okS (decide (ps.length ≤ szLine)) () >>= fun _ => newO (.dct (dMrg [] ps)) >>= fun i => (pure (.o i) : M Vl)) t = _
  rw [h, M.pure_bind, decide_eq_true (by rw [szLine_eq]; omega), dMrg_nd ps [] (by simpa using nd)]
  rfl
theorem set_end (t : Sto) (a b : Ob) : (t ++ [a]).set t.length b = t ++ [b] := by simp
theorem at_end (t : Sto) (a : Ob) : (t ++ [a])[t.length]? = some a := by simp
@[simp] theorem sl_Opn2 (o : Opn) : slV (V o) none (some 2) = pure (tuV [.int o.a, .int o.b]) := (rfl)
theorem isIn_2 (r a b : Int) : isIn (.int r) [.int a, .int b] = decide (r = a ∨ r = b) := by
  have : isIn (.int r) [.int a, .int b] = decide (r ∈ [a, b]) := isIn_map r [a, b]
  rw [this]
  simp
theorem cat_W1 (w : List Nat) (i : Nat) : binop .Add (V w) (tuV [.int (i : Int)]) = okS (decide (w.length + 1 ≤ szLine)) (V (w ++ [i])) := by
  show okS (decide ((w.map natD).length + [PyData.int (i : Int)].length ≤ szLine)) (tuV (w.map natD ++ [.int (i : Int)])) = _
  rw [List.length_map]
  have e : V (w ++ [i]) = tuV (w.map natD ++ [.int (i : Int)]) := by show tuV ((w ++ [i]).map natD) = _; rw [List.map_append]; rfl
  rw [e]
  rfl
theorem ev28_w {H : Hs} (g : GoodH H) {r : Int} {w : List Nat} (h : w ∈ ev28 H r) : (∀ i ∈ w, i < H.os.length) ∧ w.length ≤ 7 := by
  obtain ⟨rs, t, nd, l⟩ := (ev28_mem g r w).mp h
  refine ⟨t.lt, ?_⟩
  have h1 : ∀ {a : Int} {w : List Nat} {rs : List Int}, Tr H.os a w rs → ∀ x ∈ rs, 0 ≤ x ∧ x ≤ H.R := fun t => by
    induction t with
    | nil => intro x hx; cases hx
    | cons s t ih =>
      intro x hx
      rcases List.mem_cons.mp hx with e | e
      · rw [e]; exact stp_lo g s
      · exact ih x e
  have h2 : Rms H.R (0 :: rs) := ⟨nd, fun x hx => by
    rcases List.mem_cons.mp hx with e | e
    · rw [e]; exact ⟨by omega, by have := g.r1; omega⟩
    · exact h1 t x e⟩
  have h3 := h2.len (by have := g.r1; omega)
  have := g.r7
  have := t.len
  simp at h3
  omega
def accW (os : List Opn) (A : List (List Nat)) (r : Int) (i : Nat) (ws : List (List Nat)) : List (List Nat) := A ++ (ws.filter fun w => decide (r ∉ roomsOf os w)).map (· ++ [i])
theorem accW_nil (os : List Opn) (A : List (List Nat)) (r : Int) (i : Nat) : accW os A r i [] = A := by simp [accW]
theorem accW_no {os : List Opn} {A : List (List Nat)} {r : Int} {i : Nat} {ws : List (List Nat)} {w : List Nat} (h : r ∈ roomsOf os w) : accW os A r i (ws ++ [w]) = accW os A r i ws := by
  simp [accW, h]
theorem accW_yes {os : List Opn} {A : List (List Nat)} {r : Int} {i : Nat} {ws : List (List Nat)} {w : List Nat} (h : r ∉ roomsOf os w) : accW os A r i (ws ++ [w]) = accW os A r i ws ++ [w ++ [i]] := by
  simp [accW, h]
theorem accW_le (os : List Opn) (A : List (List Nat)) (r : Int) (i : Nat) (ws vs : List (List Nat)) : (accW os A r i ws).length ≤ (accW os A r i (ws ++ vs)).length := by
  simp [accW]
end Dt
namespace Dw
end Dw

namespace Dt
open PySem Dw
def nm5 : List Tx := [tx "a", tx "b", tx "back", tx "hall", tx "win"]
theorem zns_five {H : Hs} (h : ∀ o ∈ H.os, o.z ∈ zns7) : (znsL H).length ≤ 5 := by
  have h1 : ∀ z ∈ znsL H, z ∈ nm5 := fun z hz => by
    obtain ⟨o, ho, e⟩ := (znsL_mem H z).mp hz
    have := h o ho
    rw [e] at this
    simpa [zns7, nm5] using this
  have h2 : ((znsL H).map fun z => nm5.idxOf z).Nodup := List.pairwise_map.mpr ((znsL_nd H).imp_of_mem fun {a b} ha hb hne e => hne (by
    have ha' := List.getElem_idxOf (List.idxOf_lt_length_of_mem (h1 a ha))
    have hb' := List.getElem_idxOf (List.idxOf_lt_length_of_mem (h1 b hb))
    rw [← ha', ← hb']
    congr 1))
  have := nodup_lt 5 _ h2 fun x hx => by
    obtain ⟨z, hz, rfl⟩ := List.mem_map.mp hx
    exact List.idxOf_lt_length_of_mem (h1 z hz)
  simpa using this
theorem uns_mono {H : Hs} (g : GoodH H) {l m : List Tx} (h : ∀ z ∈ l, z ∈ m) {r : Int} (hr : r ∈ unsS H l) : r ∈ unsS H m := by
  unfold unsS at *
  rw [rchL_mem g] at *
  refine hr.mono fun i _ => ?_
  rintro ⟨o, h1, h2⟩
  refine ⟨o, h1, ?_⟩
  unfold freeO at *
  cases hz : o.z with
  | none => rfl
  | some z => rw [hz] at h2; simp at h2 ⊢; exact h z h2
theorem uns_cons {H : Hs} (g : GoodH H) (l : List Tx) : ∃ U, unsS H l = 0 :: U := by
  unfold unsS rchL
  rw [rooms_cons (by have := g.r1; omega), List.filter_cons_of_pos (rchD_iff.mpr .out)]
  exact ⟨_, rfl⟩
def okW (H : Hs) (names : List Tx) (w : List Nat) : Bool := w.all fun i => freeO names (H.os.getD i ⟨0, 0, none⟩)
theorem uns_any {H : Hs} (g : GoodH H) (names : List Tx) (r : Int) : decide (r ∈ unsS H names) = (waysS H r).any (okW H names) := by
  rw [Bool.eq_iff_iff, decide_eq_true_eq, List.any_eq_true]
  unfold unsS
  rw [rchL_mem g, rch_way]
  have key : ∀ w, IsW H.os 0 r w → ((∀ i ∈ w, freeI H names i) ↔ okW H names w = true) := fun w hw => by
    obtain ⟨rs, t, _⟩ := hw
    unfold okW
    rw [List.all_eq_true]
    constructor
    · intro h i hi
      obtain ⟨o, h1, h2⟩ := h i hi
      rw [List.getD_eq_getElem?_getD, h1]
      exact h2
    · intro h i hi
      have hl := t.lt i hi
      refine ⟨H.os[i], List.getElem?_eq_getElem hl, ?_⟩
      have := h i hi
      rwa [List.getD_eq_getElem?_getD, List.getElem?_eq_getElem hl] at this
  constructor
  · rintro ⟨w, h1, h2⟩
    exact ⟨w, (mem_waysS g r w).mpr h1, (key w h1).mp h2⟩
  · rintro ⟨w, h1, h2⟩
    have h1 := (mem_waysS g r w).mp h1
    exact ⟨w, h1, (key w h1).mpr h2⟩
theorem setSrt_ints {U : List Int} (h : U.Pairwise (fun a b => a < b)) (hl : U.length < 64) : setSrt (tuV (U.map .int)) = pure (liV (U.map .int)) := by
  show (intsM (U.map .int) >>= fun ns => okS (decide (ns.length < 64)) (liV (sortD ((metZ ns).map .int)))) = _
  rw [intsM_map, M.pure_bind, decide_eq_true hl, sorted_eq (perm_of (metZ_nd U) (h.imp fun h => by omega) (metZ_mem U)) (h.imp fun h => by omega)]
  rfl
theorem ixLast_ob {t : Sto} {j : Nat} {ys : List D} {x : D} (h : t[j]? = some (.lst ys)) (hx : L2.atI ys (-1) = some x) : ixV (.o j) (inV (-1)) t = .ok (.d x) t := by
  unfold ixV
  dsimp only
  rw [run_bd, getO_at h, bd_ok]
  dsimp only
  rw [run_bd, asI_int, M.pure_run, bd_ok, hx]
  rfl
@[simp] theorem sum_2 (a b : Int) : bi .sum [tuV [.int a, .int b]] = pure (inV (a + b)) := by
  have := bi_sumT [a, b]
  simpa using this
theorem fm_not (p : Nat → Bool) : ∀ w : List Nat, w.filterMap (fun (i : Nat) => if p i then none else some (PyData.int (i : Int))) = (w.filter fun i => !p i).map natD
  | [] => rfl
  | i :: w => by
    cases hp : p i with
    | true => simp [hp, fm_not p w]
    | false => simp [hp, fm_not p w, natD]
end Dt
namespace Dw
end Dw

/-! BxA: the box. -/
namespace Dt
open PySem Dw
structure Bx where
  sts : List St
  evs : List Ev
  sto : List (List Td)
  tms : List Int
def tdL (l : List Td) : D := .tuple (l.map Enc.e)
def bxFs (b : Nat) (P : Plan) : List (Str × Vl) := [("plan", V P), ("states", .o (b + 1)), ("events", .o (b + 2)), ("stories", .o (b + 3)), ("times", .o (b + 4))]
structure BoxAt (b : Nat) (P : Plan) (x : Bx) (t : Sto) : Prop where
  b0 : t[b]? = some (.ins 2 (bxFs b P))
  b1 : t[b + 1]? = some (.lst (x.sts.map Enc.e))
  b2 : t[b + 2]? = some (.lst (x.evs.map Enc.e))
  b3 : t[b + 3]? = some (.lst (x.sto.map tdL))
  b4 : t[b + 4]? = some (.lst (x.tms.map .int))
section
variable {b : Nat} {P : Plan} {x : Bx} {t : Sto}
theorem BoxAt.lt (h : BoxAt b P x t) : b + 4 < t.length := (List.getElem?_eq_some_iff.mp h.b4).1
theorem attr_bx {f : Str} {v : Vl} (h : t[b]? = some (.ins 2 (bxFs b P))) (e : (bxFs b P).lookup f = some v) : attrV 2 b f t = .ok v t := by
  unfold attrV
  rw [run_bd, getO_at h, bd_ok]
  simp [e]
theorem BoxAt.plan (h : BoxAt b P x t) : attrV 2 b "plan" t = .ok (V P) t := attr_bx h.b0 (by simp [bxFs, List.lookup])
theorem BoxAt.states (h : BoxAt b P x t) : attrV 2 b "states" t = .ok (.o (b + 1)) t := attr_bx h.b0 (by simp [bxFs, List.lookup])
theorem BoxAt.events (h : BoxAt b P x t) : attrV 2 b "events" t = .ok (.o (b + 2)) t := attr_bx h.b0 (by simp [bxFs, List.lookup])
theorem BoxAt.stories (h : BoxAt b P x t) : attrV 2 b "stories" t = .ok (.o (b + 3)) t := attr_bx h.b0 (by simp [bxFs, List.lookup])
theorem BoxAt.times (h : BoxAt b P x t) : attrV 2 b "times" t = .ok (.o (b + 4)) t := attr_bx h.b0 (by simp [bxFs, List.lookup])
theorem meth_bx {f : Str} (h : t[b]? = some (.ins 2 (bxFs b P))) (e : (bxFs b P).lookup f = none) : methV 2 f b t = .ok () t := by
  unfold methV
  rw [run_bd, getO_at h, bd_ok]
  simp [e]
/-- the box put anew -/
def bxPut (b : Nat) (x : Bx) (t : Sto) : Sto := (((t.set (b + 1) (.lst (x.sts.map Enc.e))).set (b + 2) (.lst (x.evs.map Enc.e))).set (b + 3) (.lst (x.sto.map tdL))).set (b + 4) (.lst (x.tms.map .int))
theorem bxPut_len {y : Bx} : (bxPut b y t).length = t.length := by simp [bxPut]
theorem bxPut_at {y : Bx} (h : BoxAt b P x t) : BoxAt b P y (bxPut b y t) := by
  have hl := h.lt
  unfold bxPut
  refine ⟨?_, ?_, ?_, ?_, ?_⟩
  · rw [List.getElem?_set_ne (by omega), List.getElem?_set_ne (by omega), List.getElem?_set_ne (by omega), List.getElem?_set_ne (by omega)]; exact h.b0
  · rw [List.getElem?_set_ne (by omega), List.getElem?_set_ne (by omega), List.getElem?_set_ne (by omega), List.getElem?_set_self (by omega)]
  · rw [List.getElem?_set_ne (by omega), List.getElem?_set_ne (by omega), List.getElem?_set_self (by simp; omega)]
  · rw [List.getElem?_set_ne (by omega), List.getElem?_set_self (by simp; omega)]
  · rw [List.getElem?_set_self (by simp; omega)]
theorem bxPut_ne {y : Bx} {i : Nat} (h : i ≤ b ∨ b + 4 < i) : (bxPut b y t)[i]? = t[i]? := by
  unfold bxPut
  rw [List.getElem?_set_ne (by omega), List.getElem?_set_ne (by omega), List.getElem?_set_ne (by omega), List.getElem?_set_ne (by omega)]
theorem BoxAt.app {J : Sto} (h : BoxAt b P x t) : BoxAt b P x (t ++ J) := by
  have g : ∀ {i : Nat} {o : Ob}, t[i]? = some o → (t ++ J)[i]? = some o := fun {i o} e => by
    rw [List.getElem?_append_left (List.getElem?_eq_some_iff.mp e).1]; exact e
  exact ⟨g h.b0, g h.b1, g h.b2, g h.b3, g h.b4⟩
/-- another box stays -/
theorem BoxAt.keep {t' : Sto} (h : BoxAt b P x t) (hk : ∀ i, b ≤ i → i ≤ b + 4 → t'[i]? = t[i]?) : BoxAt b P x t' :=
  ⟨(hk _ (by omega) (by omega)).trans h.b0, (hk _ (by omega) (by omega)).trans h.b1, (hk _ (by omega) (by omega)).trans h.b2, (hk _ (by omega) (by omega)).trans h.b3, (hk _ (by omega) (by omega)).trans h.b4⟩
theorem putG_get {i j m : Nat} {g : G} {s : Sto} (h1 : m ≠ i) (h2 : m ≠ j) : (putG i j P g s)[m]? = s[m]? := by
  unfold putG
  rw [List.getElem?_set_ne (by omega), List.getElem?_set_ne (by omega)]
theorem putG_set {i j m : Nat} {g : G} {s : Sto} {o : Ob} (h1 : m ≠ i) (h2 : m ≠ j) : (putG i j P g s).set m o = putG i j P g (s.set m o) := by
  unfold putG
  rw [List.set_comm _ _ (by omega), List.set_comm (i := i) _ _ (by omega)]
theorem BoxAt.putG {g : G} (h : BoxAt b P x t) (u v : Ob) : BoxAt b P x (putG t.length (t.length + 1) P g (t ++ [u, v])) := by
  have hl := h.lt
  refine (h.app (J := [u, v])).keep fun i _ hi => putG_get (by omega) (by omega)
end
end Dt
namespace Dt
open PySem Dw
section
variable {b : Nat} {P : Plan} {x : Bx} {t : Sto}
theorem last_map {α : Type} (f : α → D) {xs : List α} {a : α} (h : xs.getLast? = some a) : L2.atI (xs.map f) (-1) = some (f a) := by
  rw [atI_last _ (by intro e; simp at e; rw [e] at h; cases h), List.getLast?_map, h]
  rfl
theorem wkOf_lst {j : Nat} {ys : List D} (h : t[j]? = some (.lst ys)) : wkOf (.o j) t = .ok (.ob j) t := wkOf_ob h
theorem forO_inv {f : Vl → Dw.Env → M (Fl × Dw.Env)} {i : Nat} {xs : List D} (I : List D → Dw.Env → Sto → Prop) (hI : ∀ pre e t, I pre e t → t[i]? = some (.lst xs))
    (hs : ∀ pre a post e t, xs = pre ++ a :: post → I pre e t → (f (.d a) e t).sat fun p t' => p.1 = .nx ∧ I (pre ++ [a]) p.2 t') :
    ∀ (post pre : List D) (env : Dw.Env) (s : Sto), xs = pre ++ post → I pre env s → ∃ e t, forO f i (post.length + 1) pre.length env s = .ok (.nx, e) t ∧ I xs e t
  | [], pre, env, s, hx, h => by
    simp at hx
    subst hx
    refine ⟨env, s, ?_, h⟩
    unfold forO
    rw [run_bd, getO_at (hI _ _ _ h), bd_ok]
    simp
  | a :: post, pre, env, s, hx, h => by
    obtain ⟨⟨fl, e⟩, t, h1, h2, h3⟩ := sat_eq (hs pre a post env s hx h)
    dsimp only at h2 h3
    subst h2
    obtain ⟨e', t', h4, h5⟩ := forO_inv I hI hs post (pre ++ [a]) e t (by rw [hx]; simp) h3
    refine ⟨e', t', ?_, h5⟩
    have hg : xs[pre.length]? = some a := by rw [hx]; simp
    rw [List.length_cons]
    unfold forO
    rw [run_bd, getO_at (hI _ _ _ h), bd_ok]
    simp only [hg]
    rw [run_bd, h1, bd_ok]
    simpa using h4
theorem forW_ob {f : Vl → Dw.Env → M (Fl × Dw.Env)} {i : Nat} {xs : List D} (I : List D → Dw.Env → Sto → Prop) (hI : ∀ pre e t, I pre e t → t[i]? = some (.lst xs))
    (hs : ∀ pre a post e t, xs = pre ++ a :: post → I pre e t → (f (.d a) e t).sat fun p t' => p.1 = .nx ∧ I (pre ++ [a]) p.2 t') {env : Dw.Env} {s : Sto} (h : I [] env s) : ∃ e t, forW f (.ob i) env s = .ok (.nx, e) t ∧ I xs e t := by
  obtain ⟨e, t, h1, h2⟩ := forO_inv I hI hs xs [] env s rfl h
  refine ⟨e, t, ?_, h2⟩
  unfold forW
  dsimp only
  rw [run_bd, getO_at (hI _ _ _ h), bd_ok]
  exact h1
def bxObs (b : Nat) (P : Plan) (x : Bx) : Sto := [.ins 2 (bxFs b P), .lst (x.sts.map Enc.e), .lst (x.evs.map Enc.e), .lst (x.sto.map tdL), .lst (x.tms.map .int)]
def bx0 (P : Plan) : Bx := ⟨[begS P], [], [], [0]⟩
theorem bxObs_at (t : Sto) (J : Sto) : BoxAt t.length P x (t ++ bxObs t.length P x ++ J) := by
  have g : ∀ (i : Nat), (t ++ bxObs t.length P x ++ J)[t.length + i]? = (bxObs t.length P x ++ J)[i]? := fun i => by
    rw [List.append_assoc, List.getElem?_append_right (by omega)]
    congr 1
    omega
  exact ⟨g 0, g 1, g 2, g 3, g 4⟩
theorem words_len (p : GoodP P) {st : St} {e : Ev} : (goneG P st e).told.length ≤ 18 := by
  have hl := happen_len (g := begG st) p e
  simp at hl
  unfold goneG
  omega
/-- one event more -/
def Bx.snoc (x : Bx) (P : Plan) (st : St) (w : Int) (e : Ev) : Bx := ⟨x.sts ++ [(goneG P st e).toSt], x.evs ++ [e], x.sto ++ [(goneG P st e).told.map (sh w)], x.tms ++ [w + (goneG P st e).went]⟩
def gS (n : Nat) (P : Plan) (g : G) (u : Sto) : Sto := putG n (n + 1) P g (u ++ [.dead, .dead])
theorem gS_set {n m : Nat} {g : G} {u : Sto} {o : Ob} (hn : u.length = n) (hm : m < n) : (gS n P g u).set m o = gS n P g (u.set m o) := by
  unfold gS
  rw [putG_set (by omega) (by omega), List.set_append_left _ _ (by omega)]
theorem gS_pl {n : Nat} {u : Sto} (hn : u.length = n) : Pl n (n + 1) (u ++ [.dead, .dead]) := by
  subst hn
  exact pl_end u .dead .dead
theorem gS_get {n m : Nat} {g : G} {u : Sto} (hn : u.length = n) (hm : m < n) : (gS n P g u)[m]? = u[m]? := by
  unfold gS
  rw [putG_get (by omega) (by omega), List.getElem?_append_left (by omega)]
end
end Dt

/-! BxB: the box's other methods. -/
namespace Dt
open PySem Dw
section
variable {b : Nat} {P : Plan} {x : Bx} {t : Sto}
/-- one event less -/
def Bx.pop (x : Bx) : Bx := ⟨x.sts.dropLast, x.evs.dropLast, x.sto.dropLast, x.tms.dropLast⟩
theorem map_last {α : Type} (f : α → D) {xs : List α} (h : xs ≠ []) : ∃ a, xs.map f = xs.dropLast.map f ++ [f a] := by
  refine ⟨xs.getLast h, ?_⟩
  have := congrArg (List.map f) (List.dropLast_concat_getLast h)
  rw [List.map_append] at this
  exact this.symm
/-! ### one event done -/
theorem obB_set {n m : Nat} {u : Sto} {xs : List D} (h : ∀ o ∈ u, obBelow n o = true) : ∀ o ∈ u.set m (.lst xs), obBelow n o = true := fun o ho => by
  rcases List.mem_or_eq_of_mem_set ho with ho | rfl
  · exact h o ho
  · rfl
theorem obB_put {n : Nat} {y : Bx} (h : ∀ o ∈ t, obBelow n o = true) : ∀ o ∈ bxPut b y t, obBelow n o = true := obB_set (obB_set (obB_set (obB_set h)))
theorem gS_take {n : Nat} {g : G} {u : Sto} (hn : u.length = n) : (gS n P g u).take n = u := by
  unfold gS putG
  rw [List.take_set_of_le (by omega), List.take_set_of_le (by omega), ← hn, List.take_left']
  rfl
end
end Dt

/-! BxC: the box of a row: plain. -/
namespace Dt
open PySem Dw
def bxR (P : Plan) : List Ev → Bx
  | [] => bx0 P
  | e :: q => (bxR P q).snoc P (afterS P (begS P) q.reverse) (wentS P (begS P) q.reverse) e
def bxOf (P : Plan) (r : List Ev) : Bx := bxR P r.reverse
section
variable {P : Plan}
theorem bxOf_nil : bxOf P [] = bx0 P := rfl
theorem bxOf_snoc (r : List Ev) (e : Ev) : bxOf P (r ++ [e]) = (bxOf P r).snoc P (afterS P (begS P) r) (wentS P (begS P) r) e := by
  unfold bxOf
  rw [List.reverse_append]
  show (bxR P r.reverse).snoc P (afterS P (begS P) r.reverse.reverse) (wentS P (begS P) r.reverse.reverse) e = _
  rw [List.reverse_reverse]
theorem snoc_pop (x : Bx) (st : St) (w : Int) (e : Ev) : (x.snoc P st w e).pop = x := by
  unfold Bx.pop Bx.snoc
  simp
theorem bxOf_pop (r : List Ev) (e : Ev) : (bxOf P (r ++ [e])).pop = bxOf P r := by rw [bxOf_snoc, snoc_pop]
structure BxOk (P : Plan) (r : List Ev) (x : Bx) : Prop where
  ev : x.evs = r
  ls : x.sts.getLast? = some (afterS P (begS P) r)
  lw : x.tms.getLast? = some (wentS P (begS P) r)
  st : x.sto.flatMap id = storyS P (begS P) r
  n1 : x.sts.length = r.length + 1
  n3 : x.sto.length = r.length
  n4 : x.tms.length = r.length + 1
theorem bxOf_ok : ∀ (n : Nat) (r : List Ev), r.length = n → BxOk P r (bxOf P r)
  | 0, r, h => by
    have : r = [] := List.length_eq_zero_iff.mp h
    subst this
    exact ⟨rfl, rfl, rfl, rfl, rfl, rfl, rfl⟩
  | n + 1, r, h => by
    rcases List.eq_nil_or_concat r with rfl | ⟨q, e, rfl⟩
    · simp at h
    · rw [List.concat_eq_append] at h ⊢
      have ih := bxOf_ok n q (by simpa using h)
      rw [bxOf_snoc]
      refine ⟨?_, ?_, ?_, ?_, ?_, ?_, ?_⟩
      · show (bxOf P q).evs ++ [e] = _; rw [ih.ev]
      · show ((bxOf P q).sts ++ [_]).getLast? = _; rw [List.getLast?_concat, after_append, after_one]; rfl
      · show ((bxOf P q).tms ++ [_]).getLast? = _; rw [List.getLast?_concat, went_append]; rfl
      · show ((bxOf P q).sto ++ [_]).flatMap id = _
        rw [List.flatMap_append, ih.st, story_append, story_one]
        simp
      · show ((bxOf P q).sts ++ [_]).length = _; simp [ih.n1]
      · show ((bxOf P q).sto ++ [_]).length = _; simp [ih.n3]
      · show ((bxOf P q).tms ++ [_]).length = _; simp [ih.n4]
theorem bx_ok (r : List Ev) : BxOk P r (bxOf P r) := bxOf_ok _ r rfl
/-! ### what a box of a row answers -/
variable {b : Nat} {t : Sto} {r : List Ev}
end
end Dt

/-! BxD: a box kept along a law. -/
namespace Dt
open PySem Dw
/-- a box of row r at b; all else as in t -/
structure BI (b : Nat) (P : Plan) (r : List Ev) (t t' : Sto) : Prop where
  bx : BoxAt b P (bxOf P r) t'
  ln : t'.length = t.length
  ob : ∀ o ∈ t', obBelow t'.length o = true
  ot : ∀ i, (i < b ∨ b + 4 < i) → t'[i]? = t[i]?
section
variable {b : Nat} {P : Plan} {r : List Ev} {t t' : Sto}
theorem BI.put (h : BI b P r t t') (q : List Ev) : BI b P q t (bxPut b (bxOf P q) t') where
  bx := bxPut_at h.bx
  ln := by rw [bxPut_len]; exact h.ln
  ob := by rw [bxPut_len]; exact obB_put h.ob
  ot := fun i hi => by rw [bxPut_ne (by omega)]; exact h.ot i hi
theorem obB_app {t : Sto} {n : Nat} (h : ∀ o ∈ t, obBelow n o = true) {m : Nat} (hm : n ≤ m) : ∀ o ∈ t, obBelow m o = true := fun o ho => by
  have := h o ho
  cases o with
  | ins c fs =>
    unfold obBelow at this ⊢
    rw [List.all_eq_true] at this ⊢
    intro x hx
    have := this x hx
    unfold vBelow at this ⊢
    split at this
    · rfl
    · rw [decide_eq_true_eq] at this ⊢; omega
  | dct kvs =>
    unfold obBelow at this ⊢
    rw [List.all_eq_true] at this ⊢
    intro x hx
    have := this x hx
    unfold vBelow at this ⊢
    split at this
    · rfl
    · rw [decide_eq_true_eq] at this ⊢; omega
  | _ => rfl
/-- a new box -/
theorem BI.new {t : Sto} (h : ∀ o ∈ t, obBelow t.length o = true) : BI t.length P [] (t ++ bxObs t.length P (bx0 P)) (t ++ bxObs t.length P (bx0 P)) where
  bx := by have := bxObs_at (P := P) (x := bx0 P) t []; rw [List.append_nil] at this; exact this
  ln := rfl
  ob := by
    have hl : (t ++ bxObs t.length P (bx0 P)).length = t.length + 5 := by simp [bxObs]
    rw [hl]
    intro o ho
    rcases List.mem_append.mp ho with ho | ho
    · exact obB_app h (by omega) o ho
    · unfold bxObs at ho
      simp only [List.mem_cons, List.not_mem_nil, or_false] at ho
      rcases ho with rfl | rfl | rfl | rfl | rfl
      · simp [obBelow, bxFs, vBelow]
      · rfl
      · rfl
      · rfl
      · rfl
  ot := fun _ _ => rfl
/-- rows done keep to the plan -/
theorem ok_row2 (p : GoodP P) {r : List Ev} (hr : rfit P r) : Ok P (afterS P (begS P) r) := ok_after p (begS_ok p) hr
end
end Dt

/-! BxE: several boxes side by side, behind the script. -/
namespace Dt
open PySem Dw
theorem BoxAt.same {b : Nat} {P : Plan} {x : Bx} {t t' : Sto} (h : BoxAt b P x t) (e : ∀ i, b ≤ i → i ≤ b + 4 → t'[i]? = t[i]?) : BoxAt b P x t' :=
  ⟨(e _ (by omega) (by omega)).trans h.b0, (e _ (by omega) (by omega)).trans h.b1, (e _ (by omega) (by omega)).trans h.b2, (e _ (by omega) (by omega)).trans h.b3, (e _ (by omega) (by omega)).trans h.b4⟩
/-- boxes of the rows of L, one behind the other, behind the script's object -/
structure BL (s : Sto) (L : List (Plan × List Ev)) (t : Sto) : Prop where
  bx : ∀ i P r, L[i]? = some (P, r) → BoxAt (1 + 5 * i) P (bxOf P r) t
  ln : t.length = 1 + 5 * L.length
  ob : ∀ o ∈ t, obBelow t.length o = true
  lo : t.take 1 = s
section
variable {s t : Sto} {L : List (Plan × List Ev)}
theorem BL.nil {ns : List Int} (sc : Scr ns s) : BL s [] s := ⟨fun i P r h => by simp at h, sc.n, by rw [sc.n]; exact sc.b, sc.t⟩
theorem BL.at (h : BL s L t) (i : Nat) {P : Plan} {r : List Ev} {b : Nat} (hb : b = 1 + 5 * i) (hi : L[i]? = some (P, r)) : BoxAt b P (bxOf P r) t := by subst hb; exact h.bx i P r hi
theorem BL.put (h : BL s L t) {i : Nat} {P : Plan} {r : List Ev} (hi : L[i]? = some (P, r)) (q : List Ev) : BL s (L.set i (P, q)) (bxPut (1 + 5 * i) (bxOf P q) t) where
  bx := fun j P' r' hj => by
    by_cases e : i = j
    · subst e
      have hl := (List.getElem?_eq_some_iff.mp hi).1
      rw [List.getElem?_set_self hl] at hj
      cases hj
      exact bxPut_at (h.bx i P r hi)
    · rw [List.getElem?_set_ne e] at hj
      exact (h.bx j P' r' hj).same fun m h1 h2 => bxPut_ne (by omega)
  ln := by rw [bxPut_len, List.length_set]; exact h.ln
  ob := by rw [bxPut_len]; exact obB_put h.ob
  lo := by
    have : (bxPut (1 + 5 * i) (bxOf P q) t).take 1 = t.take 1 := by
      apply List.ext_getElem?
      intro j
      by_cases hj : j < 1
      · rw [List.getElem?_take_of_lt hj, List.getElem?_take_of_lt hj]
        exact bxPut_ne (by omega)
      · rw [List.getElem?_eq_none (by simp; omega), List.getElem?_eq_none (by simp; omega)]
    rw [this]
    exact h.lo
theorem BL.new (h : BL s L t) {P : Plan} {b : Nat} (hb : b = 1 + 5 * L.length) : BL s (L ++ [(P, [])]) (t ++ bxObs b P (bx0 P)) := by
  have e : b = t.length := by rw [h.ln, hb]
  subst e
  have hl := h.ln
  have g := BI.new (P := P) h.ob
  refine ⟨fun j P' r' hj => ?_, ?_, g.ob, ?_⟩
  · by_cases e : j < L.length
    · rw [List.getElem?_append_left e] at hj
      exact (h.bx j P' r' hj).app
    · have : j = L.length := by
        have := (List.getElem?_eq_some_iff.mp hj).1
        simp at this
        omega
      subst this
      rw [List.getElem?_concat_length] at hj
      cases hj
      rw [← hl]
      exact g.bx
  · simp [bxObs, hl]
    omega
  · rw [List.take_append_of_le_length (by omega)]
    exact h.lo
end
/-! ### no such zone -/
section
variable {b : Nat} {P : Plan} {x : Bx} {t : Sto}
end
theorem planOf_names (n : Int) : ∀ z ∈ (planOf n).names, z ∈ names8 := (names_sub n).subset
/-- what a law asks of a box -/
def askD (P : Plan) (r : List Ev) : D := .tuple [Enc.e (afterS P (begS P) r), Enc.e (shownS P (afterS P (begS P) r)), .tuple ((storyS P (begS P) r).map Enc.e), .tuple (r.map Enc.e)]
theorem ask_shp (P : Plan) (r : List Ev) : shp (askD P r) = true := by unfold askD; simp [shp_okB]
theorem ask_eqv (P : Plan) (r : List Ev) : PyData.eqv (askD P r) (askD P r) = true := by unfold askD; simp
theorem ask_ne (P : Plan) (r : List Ev) : cmpop .NotEq (.d (askD P r)) (.d (askD P r)) = pure false := by
  have h1 := ask_shp P r
  have h2 := ask_eqv P r
  simp [h1, h2]
theorem ask_eq (P : Plan) (r : List Ev) : cmpop .Eq (.d (askD P r)) (.d (askD P r)) = pure true := by
  have h1 := ask_shp P r
  have h2 := ask_eqv P r
  simp [h1, h2]
/-! ### the script's numbers, whatever lies behind the script -/
theorem cell_gen {k : Nat} {ns : List Int} {o : Ob} (ho : ScrO ns o) {J : Sto} (hb : (o :: J).all (obBelow (o :: J).length) = true) (i : Nat) : Phi fns (k + 1) 13 [.o 0, inV i] (o :: J) = .ok (inV (ns.getD i 0)) (o :: J) := by
  rw [run_of (F := f_law_cell_at) rfl rfl]
  have e : bi .len [.o 0] (o :: J) = .ok (inV ns.length) (o :: J) := by
    rcases ho with rfl | rfl
    · show R.ok (inV (ns.map PyData.int).length) _ = _
      simp
    · show R.ok (inV (ns.map PyData.int).length) _ = _
      simp
  have e2 : i < ns.length → ixV (.o 0) (inV i) (o :: J) = .ok (inV (ns.getD i 0)) (o :: J) := fun h => by
    rcases ho with rfl | rfl
    · show (match L2.atI (ns.map PyData.int) (i : Int) with | some v => (pure (.d v) : M Vl) | none => M.no) _ = _
      rw [atI_nat]
      simp [h]
    · show (match L2.atI (ns.map PyData.int) (i : Int) with | some v => (pure (.d v) : M Vl) | none => M.no) _ = _
      rw [atI_nat]
      simp [h]
  generalize o :: J = t at hb e e2 ⊢
  have htk : t.take t.length = t := List.take_length
  by_cases h : i < ns.length
  · simp [f_law_cell_at, b_law_cell_at, enter, leave, leaveV, M.bind_run, e, h, e2 h, vBelow, -List.all_eq_true, hb, htk]
  · simp [f_law_cell_at, b_law_cell_at, enter, leave, leaveV, M.bind_run, e, h, vBelow, -List.all_eq_true, hb, htk]
theorem mixed_gen {k : Nat} {ns : List Int} {o : Ob} (ho : ScrO ns o) {t : Sto} (h0 : t.take 1 = [o]) (hb : ∀ x ∈ t, obBelow t.length x = true) (i : Nat) : Phi fns (k + 2) 14 [.o 0, inV i] t = .ok (inV (mixed (ns.getD i 0) i)) t := by
  obtain ⟨J, rfl⟩ : ∃ J, t = o :: J := by
    cases t with
    | nil => simp at h0
    | cons a J => simp at h0; exact ⟨J, by rw [h0]⟩
  have hb : (o :: J).all (obBelow (o :: J).length) = true := by rw [List.all_eq_true]; exact hb
  rw [run_of (F := f_law_mixed) rfl rfl]
  have h := cell_gen (k := k) ho hb i
  generalize o :: J = t at hb h ⊢
  have htk : t.take t.length = t := List.take_length
  have c1 : cMul 7919 (i : Int) = true := cMul_l (by decide)
  have c2 : ∀ x : Int, cMul x 48271 = true := fun x => cMul_r (by decide)
  have c3 : ∀ x : Int, cMul 7 x = true := fun x => cMul_l (by decide)
  simp [f_law_mixed, b_law_mixed, enter, leave, leaveV, M.bind_run, h, vBelow, -List.all_eq_true, hb, htk, c1, c2, c3, mod_mul, mixed]
theorem law_end3 {id : Nat} {F : Fn} {ns : List Int} {o : Ob} (ho : ScrO ns o) (hf : fns id = some F) (hp : F.np = 1) (hd : F.drop = true)
    (h : ∃ s', (exB (Phi fns (0 + 49)) F.body (enter F [.o 0]) [o]).bd (lvK true 1) = .ok (blV true) s') : ∃ st, Phi fns 50 id [.o 0] [o] = .ok (blV true) st := by
  obtain ⟨s', h⟩ := h
  refine ⟨s', ?_⟩
  rw [run_of hf (by rw [hp]; rfl), hd, leave_bd]
  exact h
/-! ### a comprehension that changes objects -/
def outs {α : Type} (g : List α → α → D) : List α → List α → List D
  | _, [] => []
  | pre, a :: as => g pre a :: outs g (pre ++ [a]) as
theorem outs_append {α : Type} (g : List α → α → D) : ∀ (as bs pre : List α), outs g pre (as ++ bs) = outs g pre as ++ outs g (pre ++ as) bs
  | [], bs, pre => by simp [outs]
  | a :: as, bs, pre => by simp [outs, outs_append g as bs]
theorem outs_len {α : Type} (g : List α → α → D) : ∀ (as pre : List α), (outs g pre as).length = as.length
  | [], pre => rfl
  | a :: as, pre => by simp [outs, outs_len g as]
theorem outs_shift {α : Type} (g g' : List α → α → D) : ∀ (as pre pre' : List α), (∀ q a, g (pre ++ q) a = g' (pre' ++ q) a) → outs g pre as = outs g' pre' as
  | [], pre, pre', h => rfl
  | a :: as, pre, pre', h => by
    have h0 := h [] a
    rw [List.append_nil, List.append_nil] at h0
    simp only [outs, h0]
    rw [outs_shift g g' as (pre ++ [a]) (pre' ++ [a]) fun q b => by rw [List.append_assoc, List.append_assoc]; exact h ([a] ++ q) b]
theorem comp_eff {α : Type} {f : Vl → M (Option D)} {h : α → Vl} (J : List α → Sto → Prop) (g : List α → α → D) (as : List α) (s : Sto) (h0 : J [] s) (hz : as.length ≤ szLine)
    (hs : ∀ pre a post t, as = pre ++ a :: post → J pre t → ∃ t', f (h a) t = .ok (some (g pre a)) t' ∧ J (pre ++ [a]) t') : ∃ t', compL f (as.map h) [] s = .ok (outs g [] as) t' ∧ J as t' := by
  have key : ∀ (as pre : List α) (acc : List D) (s : Sto), J pre s → acc.length + as.length ≤ szLine →
      (∀ q a post t, pre ++ as = q ++ a :: post → J q t → ∃ t', f (h a) t = .ok (some (g q a)) t' ∧ J (q ++ [a]) t') → ∃ t', compL f (as.map h) acc s = .ok (acc ++ outs g pre as) t' ∧ J (pre ++ as) t' := by
    intro as
    induction as with
    | nil => intro pre acc s h0 _ _; exact ⟨s, by simp [compL, outs], by simpa using h0⟩
    | cons a as ih =>
      intro pre acc s h0 hz hs
      have hz' : acc.length + (as.length + 1) ≤ szLine := by simpa using hz
      obtain ⟨t1, e1, j1⟩ := hs pre a as s rfl h0
      obtain ⟨t2, e2, j2⟩ := ih (pre ++ [a]) (acc ++ [g pre a]) t1 j1 (by rw [List.length_append, List.length_singleton]; omega) (fun q b post t hx => hs q b post t (by rw [← hx]; simp))
      refine ⟨t2, ?_, by simpa using j2⟩
      rw [List.map_cons]
      unfold compL
      rw [M.bind_run, e1]
      dsimp only
      rw [show decide (acc.length < szLine) = true from decide_eq_true (by omega)]
      show compL f (as.map h) (acc ++ [g pre a]) t1 = _
      rw [e2]
      simp [outs]
  obtain ⟨t', e, j⟩ := key as [] [] s h0 (by simpa using hz) hs
  exact ⟨t', by simpa using e, by simpa using j⟩
end Dt

/-! TxA: texts of lines of words: plain. -/
namespace Dt
open PySem Dw
abbrev NL : Str := "\n"
abbrev SP : Str := " "
/-- a word without blanks and line ends -/
structure WdOk (t : Str) : Prop where
  n : t.length ≤ 20
  c : ∀ c ∈ TL.tl t, c ≠ 32 ∧ c ≠ 10 ∧ c < 1114112
def numS (n : Nat) : Str := Str.ofString (toString ((n : Nat) : Int))
theorem numS_ok {n : Nat} (h : n < 10 ^ 10) : WdOk (numS n) where
  n := by
    rw [TL.len_tl]
    show (TL.tl (Str.ofString _)).length ≤ 20
    rw [TL.tl_num]
    have := TL.numL_len (n := n) (k := 10) (by omega) h
    omega
  c := fun c hc => by
    have hc : c ∈ TL.numL n := by rw [← TL.tl_num]; exact hc
    exact ⟨fun e => TL.numL_free (s := 32) (.inl (by omega)) (e ▸ hc), fun e => TL.numL_free (s := 10) (.inl (by omega)) (e ▸ hc), by have := TL.numL_digits n c hc; omega⟩
theorem joinL_nil : ∀ parts : List (List Nat), TL.joinL [] parts = parts.flatten
  | [] => rfl
  | [p] => by simp [TL.joinL]
  | p :: q :: r => by
    show p ++ ([] ++ TL.joinL [] (q :: r)) = _
    rw [joinL_nil (q :: r)]
    simp
theorem joinL_ends : ∀ ls : List (List Nat), TL.joinL [10] (ls ++ [[]]) = (ls.map (· ++ [10])).flatten
  | [] => rfl
  | [p] => by simp [TL.joinL]
  | p :: q :: r => by
    show p ++ ([10] ++ TL.joinL [10] ((q :: r) ++ [[]])) = _
    rw [joinL_ends (q :: r)]
    simp
theorem mem_joinL {S : List Nat} {c : Nat} : ∀ {parts : List (List Nat)}, c ∈ TL.joinL S parts → c ∈ S ∨ ∃ p ∈ parts, c ∈ p
  | [], h => by cases h
  | [p], h => .inr ⟨p, by simp, h⟩
  | p :: q :: r, h => by
    have h : c ∈ p ++ (S ++ TL.joinL S (q :: r)) := h
    simp only [List.mem_append] at h
    rcases h with h | h | h
    · exact .inr ⟨p, by simp, h⟩
    · exact .inl h
    · rcases mem_joinL h with h | ⟨x, hx, hc⟩
      · exact .inl h
      · exact .inr ⟨x, by simp at hx ⊢; exact .inr hx, hc⟩
theorem len_joinL {S : List Nat} : ∀ {parts : List (List Nat)} {m : Nat}, (∀ p ∈ parts, p.length ≤ m) → (TL.joinL S parts).length ≤ parts.length * (m + S.length)
  | [], m, _ => by simp [TL.joinL]
  | [p], m, h => by
    have := h p (by simp)
    show p.length ≤ _
    simp
    omega
  | p :: q :: r, m, h => by
    have h1 := h p (by simp)
    have h2 := len_joinL (S := S) (parts := q :: r) (m := m) fun x hx => h x (by simp at hx ⊢; exact .inr hx)
    show (p ++ (S ++ TL.joinL S (q :: r))).length ≤ _
    rw [List.length_append, List.length_append]
    have e : (p :: q :: r).length * (m + S.length) = (q :: r).length * (m + S.length) + (m + S.length) := by
      rw [List.length_cons, Nat.succ_mul]
    omega
def lnS (ws : List Str) : Str := Txt.join SP ws
def linesS (L : List (List Str)) : Str := Txt.join "" (L.map fun ws => lnS ws ++ NL)
theorem tl_lnS (ws : List Str) : TL.tl (lnS ws) = TL.joinL [32] (ws.map TL.tl) := by unfold lnS; rw [TL.join_eq, TL.tl_join]; rfl
theorem tl_NL : TL.tl NL = [10] := rfl
theorem tl_linesS (L : List (List Str)) : TL.tl (linesS L) = (L.map fun ws => TL.tl (lnS ws) ++ [10]).flatten := by
  unfold linesS
  rw [TL.join_eq, TL.tl_join, List.map_map, show TL.tl ("" : Str) = [] from rfl, joinL_nil]
  congr 1
  refine List.map_congr_left fun ws _ => ?_
  show TL.tl (lnS ws ++ NL) = _
  rw [TL.tl_append, tl_NL]
theorem lines_join (L : List (List Str)) : linesS L = Txt.join NL (L.map lnS ++ [Str.empty]) := by
  apply TL.ext_tl
  rw [tl_linesS, TL.join_eq, TL.tl_join, List.map_append, List.map_map, show ([Str.empty].map TL.tl) = [[]] from rfl, tl_NL, joinL_ends, List.map_map]
  rfl
theorem ln_len {ws : List Str} (h : ∀ w ∈ ws, WdOk w) : (lnS ws).length ≤ ws.length * 21 := by
  rw [TL.len_tl, tl_lnS]
  have := len_joinL (S := [32]) (parts := ws.map TL.tl) (m := 20) fun p hp => by
    obtain ⟨w, hw, rfl⟩ := List.mem_map.mp hp
    rw [← TL.len_tl]
    exact (h w hw).n
  simpa using this
theorem ln_free {ws : List Str} (h : ∀ w ∈ ws, WdOk w) : 10 ∉ TL.tl (lnS ws) := by
  rw [tl_lnS]
  intro hc
  rcases mem_joinL hc with hc | ⟨p, hp, hc⟩
  · simp at hc
  · obtain ⟨w, hw, rfl⟩ := List.mem_map.mp hp
    exact ((h w hw).c _ hc).2.1 rfl
theorem split_lines {L : List (List Str)} (h : ∀ ws ∈ L, ∀ w ∈ ws, WdOk w) : Txt.split (linesS L) NL = L.map lnS ++ [Str.empty] := by
  rw [lines_join]
  refine TL.split_join (s := 10) (S := []) tl_NL (by decide +kernel) (by simp) fun p hp => ?_
  rcases List.mem_append.mp hp with hp | hp
  · obtain ⟨ws, hw, rfl⟩ := List.mem_map.mp hp
    exact ln_free (h ws hw)
  · simp at hp
    subst hp
    intro hc
    cases hc
theorem split_words {ws : List Str} (hne : ws ≠ []) (h : ∀ w ∈ ws, WdOk w) : Txt.split (lnS ws) SP = ws :=
  TL.split_join (s := 32) (S := []) rfl (by decide +kernel) hne fun p hp hc => ((h p hp).c _ hc).1 rfl
theorem lines_strOk {L : List (List Str)} (h : ∀ ws ∈ L, ∀ w ∈ ws, WdOk w) : strOk (linesS L) = true := by
  have key : ∀ c ∈ TL.tl (linesS L), c < 1114112 := fun c hc => by
    rw [tl_linesS, List.mem_flatten] at hc
    obtain ⟨l, hl, hc⟩ := hc
    obtain ⟨ws, hws, rfl⟩ := List.mem_map.mp hl
    rcases List.mem_append.mp hc with hc | hc
    · rw [tl_lnS] at hc
      rcases mem_joinL hc with hc | ⟨p, hp, hc⟩
      · simp at hc; omega
      · obtain ⟨w, hw, rfl⟩ := List.mem_map.mp hp
        exact ((h ws hws w hw).c _ hc).2.2
    · simp at hc; omega
  unfold strOk PyData.canLay0 PyData.strOk
  rw [Array.all_eq_true']
  intro c hc
  have hc : c ∈ TL.tl (linesS L) := by unfold TL.tl; exact Array.mem_def.mp hc
  have := key c hc
  rw [decide_eq_true_eq]
  exact this
theorem linesS_append (L M : List (List Str)) : linesS (L ++ M) = linesS L ++ linesS M := by
  apply TL.ext_tl
  rw [TL.tl_append, tl_linesS, tl_linesS, tl_linesS, List.map_append, List.flatten_append]
theorem sum_le {l : List Nat} {m : Nat} (h : ∀ x ∈ l, x ≤ m) : l.sum ≤ l.length * m := by
  induction l with
  | nil => simp
  | cons a l ih =>
    have h1 := h a (by simp)
    have h2 := ih fun x hx => h x (by simp [hx])
    rw [List.sum_cons, List.length_cons, Nat.succ_mul]
    omega
theorem lines_len {L : List (List Str)} (h : ∀ ws ∈ L, (∀ w ∈ ws, WdOk w) ∧ ws.length ≤ 10) : (linesS L).length ≤ L.length * 211 := by
  rw [TL.len_tl, tl_linesS, List.length_flatten, List.map_map]
  have := sum_le (l := L.map (List.length ∘ fun ws => TL.tl (lnS ws) ++ [10])) (m := 211) fun x hx => by
    obtain ⟨ws, hw, rfl⟩ := List.mem_map.mp hx
    obtain ⟨h1, h2⟩ := h ws hw
    have := ln_len h1
    rw [TL.len_tl] at this
    show (TL.tl (lnS ws) ++ [10]).length ≤ 211
    rw [List.length_append, List.length_singleton]
    omega
  simpa using this
end Dt

/-! TxB: rows as texts: the program's functions. -/
namespace Dt
open PySem Dw
/-! ### words -/
def wS : D → Str
  | .int i => Str.ofString (toString i)
  | .str x => x
  | _ => Str.empty
def evW : Ev → List D
  | .line z w => [.str "line", Enc.e z, Enc.e w]
  | .code f d z => [.str "code", Enc.e f, Enc.e d] ++ (match z with | none => [] | some z => [Enc.e z])
  | .ticks n => [.str "ticks", .int n]
theorem isNn_Ln (w : Ln) : isNn (Enc.e w) = false := by cases w <;> rfl
theorem isNn_Dd (w : Dd) : isNn (Enc.e w) = false := by cases w <;> rfl
theorem evWords_ok {k : Nat} (e : Ev) (s : Sto) : Phi fns (k + 1) 157 [V e] s = .ok (tuV (evW e)) s := by
  rw [run_of (F := f_event_words) rfl rfl, leave_bd]
  simp only [b_event_words, f_event_words, enter]
  cases e with
  | line z w => 
    rw [exb_cons, run_bd]
    simp [-exb_cons, compL, isNn_Ln, szLine_eq]
    rfl
  | code f d z =>
    cases z with
    | none =>
      rw [exb_cons, run_bd]
      simp [-exb_cons, compL, isNn_Dd, szLine_eq]
      rfl
    | some z =>
      rw [exb_cons, run_bd]
      simp [-exb_cons, compL, isNn_Dd, szLine_eq]
      rfl
  | ticks n =>
    rw [exb_cons, run_bd]
    simp [-exb_cons, compL, szLine_eq]
    rfl
theorem evWords_call {k : Nat} (e : Ev) : pureRun (Phi fns (k + 1) 157 [V e]) = pure (tuV (evW e)) := pureRun_eq (evWords_ok e [])
/-! ### lines -/
/-- a word that a line may hold -/
inductive Wok : D → Prop
  | n (m : Nat) (h : m < 10 ^ 10) : Wok (.int (m : Int))
  | t (x : Str) (h : WdOk x) : Wok (.str x)
theorem Wok.ok {d : D} (h : Wok d) : WdOk (wS d) := by
  cases h with
  | n m h => exact numS_ok h
  | t x h => exact h
theorem log_lt {m : Nat} (h : m < 10 ^ 10) : m.log2 < 1920 := by
  have : m < 2 ^ 34 := by
    have : (10 : Nat) ^ 10 < 2 ^ 34 := by decide
    omega
  by_cases h0 : m = 0
  · subst h0; decide
  · have := (Nat.log2_lt h0).mpr this
    omega
theorem str_run {d : D} (h : Wok d) : bi .str [.d d] = pure (stV (wS d)) := by
  cases h with
  | n m h =>
    have h2 : ((m : Int).natAbs.log2 < 1920) := by simpa using log_lt h
    show okS (decide ((m : Int).natAbs.log2 < 1920)) (stV (Str.ofString (toString (m : Int)))) = _
    rw [decide_eq_true h2]
    rfl
  | t x h => rfl
def LnOk (ws : List D) : Prop := (∀ w ∈ ws, Wok w) ∧ ws.length ≤ 10
theorem lineAdd {x : Str} (h : x.length ≤ 1000) : binop .Add (stV x) (stV "\n") = pure (stV (x ++ NL)) := by
  show okS (decide (x.length + ("\n" : Str).length ≤ szLine)) (stV (x ++ ("\n" : Str))) = _
  rw [decide_eq_true (by rw [szLine_eq]; show x.length + 1 ≤ _; omega)]
  rfl
def lnE : E := .bin .Add (.txm .join (.str " ") (.comp false (.bi .str (.cons (.var 2) .nil)) (.nm 2) (.of (.var 1)) .no [2])) (.glb "ROW_END" (.str "\n"))
theorem strsM_map (ss : List Str) : strsM (ss.map .str) = pure ss := by
  induction ss with
  | nil => rfl
  | cons a ss ih => rw [List.map_cons, strsM, ih]; rfl
theorem join_run (z : Str) {ss : List Str} {m : Nat} (h : ∀ x ∈ ss, x.length ≤ m) (hz : ss.length * (m + z.length) ≤ 16777216) : txmV .join z (liV (ss.map .str)) = pure (stV (PySem.Txt.join z ss)) := by
  have h1 : (ss.map (·.length)).sum ≤ ss.length * m := by
    have := sum_le (l := ss.map (·.length)) (m := m) fun x hx => by
      obtain ⟨y, hy, rfl⟩ := List.mem_map.mp hx
      exact h y hy
    simpa using this
  have h2 : (ss.map (·.length)).sum + ss.length * z.length ≤ 16777216 := by
    rw [Nat.mul_add] at hz
    omega
  show (lItems (liV (ss.map .str)) >>= fun xs => strsM xs >>= fun ss => okS (decide ((ss.map (·.length)).sum + ss.length * z.length ≤ 16777216)) (stV (PySem.Txt.join z ss))) = _
  rw [show lItems (liV (ss.map .str)) = pure (ss.map .str) from rfl]
  show (strsM (ss.map .str) >>= fun ss => okS (decide ((ss.map (·.length)).sum + ss.length * z.length ≤ 16777216)) (stV (PySem.Txt.join z ss))) = _
  rw [strsM_map]
  show okS (decide ((ss.map (·.length)).sum + ss.length * z.length ≤ 16777216)) (stV (PySem.Txt.join z ss)) = _
  rw [decide_eq_true h2]
  rfl
theorem line_run {k : Nat} {ws : List D} (h : LnOk ws) (v0 v2 : Option Vl) (s : Sto) : evE (Phi fns k) lnE [v0, some (tuV ws), v2] s = .ok (stV (lnS (ws.map wS) ++ NL)) s := by
  obtain ⟨h1, h2⟩ := h
  have hc : compL (compF (Phi fns k) (.nm 2) .no (.bi .str (.cons (.var 2) .nil)) [v0, some (tuV ws), none]) (ws.map Vl.d) [] s = .ok (ws.map fun d => .str (wS d)) s := by
    refine compL_map (h := Vl.d) (g := fun d => .str (wS d)) ws (fun d hd => ?_) (by rw [szLine_eq]; omega)
    unfold compF
    apply noEx_ok
    have := str_run (h1 d hd)
    simp [this]
  have hj := join_run SP (ss := ws.map wS) (m := 20) (fun x hx => by
    obtain ⟨d, hd, rfl⟩ := List.mem_map.mp hx
    exact (h1 d hd).ok.n) (by rw [List.length_map]; show ws.length * 21 ≤ _; omega)
  rw [List.map_map] at hj
  have hl := ln_len (ws := ws.map wS) (fun x hx => by
    obtain ⟨d, hd, rfl⟩ := List.mem_map.mp hx
    exact (h1 d hd).ok)
  rw [List.length_map] at hl
  have ha := lineAdd (x := lnS (ws.map wS)) (by omega)
  have hj2 : txmV .join (Str.ofString " ") (liV (ws.map fun d => .str (wS d))) = pure (stV (lnS (ws.map wS))) := hj
  unfold lnE
  simp [-compL_TT, -compF_eq, hc, hj2, ha]
def linesD (L : List (List D)) : Str := linesS (L.map fun ws => ws.map wS)
theorem lines_ok {k : Nat} {L : List (List D)} (h : ∀ ws ∈ L, LnOk ws) (hz : L.length ≤ 50000) (s : Sto) : Phi fns (k + 1) 156 [liV (L.map .tuple)] s = .ok (stV (linesD L)) s := by
  rw [run_of (F := f_lines_text) rfl rfl, leave_bd]
  simp only [b_lines_text, f_lines_text, enter]
  have hc : compL (compF (Phi fns k) (.nm 1) .no lnE [some (liV (L.map .tuple)), none, none]) (L.map (Vl.d ∘ .tuple)) [] s = .ok (L.map fun ws => .str (lnS (ws.map wS) ++ NL)) s := by
    refine compL_map (h := Vl.d ∘ .tuple) (g := fun ws => .str (lnS (ws.map wS) ++ NL)) L (fun ws hd => ?_) (by rw [szLine_eq]; omega)
    unfold compF
    apply noEx_ok
    have := line_run (k := k) (h ws hd) (some (liV (L.map .tuple))) none s
    simp [this]
  have hj := join_run ("" : Str) (ss := L.map fun ws => lnS (ws.map wS) ++ NL) (m := 211) (fun x hx => by
    obtain ⟨ws, hd, rfl⟩ := List.mem_map.mp hx
    obtain ⟨h1, h2⟩ := h ws hd
    have hl := ln_len (ws := ws.map wS) (fun x hx => by
      obtain ⟨d, hd, rfl⟩ := List.mem_map.mp hx
      exact (h1 d hd).ok)
    rw [List.length_map] at hl
    have : (lnS (ws.map wS) ++ NL).length = (lnS (ws.map wS)).length + 1 := by rw [TL.len_tl, TL.tl_append, List.length_append, ← TL.len_tl]; rfl
    omega) (by rw [List.length_map]; show L.length * 211 ≤ _; omega)
  have hj2 : txmV .join (Str.ofString "") (liV (L.map fun ws => .str (lnS (ws.map wS) ++ NL))) = pure (stV (linesD L)) := by
    rw [List.map_map] at hj
    unfold linesD linesS
    rw [List.map_map]
    exact hj
  unfold lnE at hc
  rw [exb_cons, run_bd]
  simp [-exb_cons, -compL_TT, -compF_eq, hc, hj2]
theorem lines_call {k : Nat} {L : List (List D)} (h : ∀ ws ∈ L, LnOk ws) (hz : L.length ≤ 50000) : pureRun (Phi fns (k + 1) 156 [liV (L.map .tuple)]) = pure (stV (linesD L)) := pureRun_eq (lines_ok h hz [])
/-! ### rows -/
/-- figures of a code -/
structure FgOk (f : Tx) : Prop where
  n : (TL.tl f.x).length = 4
  c : ∀ c ∈ TL.tl f.x, 48 ≤ c ∧ c ≤ 57
theorem FgOk.wd {f : Tx} (h : FgOk f) : WdOk f.x := ⟨by rw [TL.len_tl, h.n]; omega, fun c hc => by have := h.c c hc; omega⟩
/-- an event whose text can be read again -/
def TEv (P : Plan) : Ev → Prop
  | .line z _ => z ∈ P.names ∧ WdOk z.x
  | .code f d z => zfit P d z ∧ FgOk f ∧ ∀ y, z = some y → WdOk y.x
  | .ticks n => 1 ≤ n ∧ n < 10 ^ 10
def Trow (P : Plan) (r : List Ev) : Prop := ∀ e ∈ r, TEv P e
theorem wd_lit {x : Str} (h : (decide (x.length ≤ 20) && x.cps.toList.all fun c => c != 32 && c != 10 && decide (c < 1114112)) = true) : WdOk x := by
  rw [Bool.and_eq_true, decide_eq_true_eq, List.all_eq_true] at h
  exact ⟨h.1, fun c hc => by have := h.2 c hc; simp at this; exact ⟨this.1.1, this.1.2, this.2⟩⟩
theorem wok_line : Wok (.str "line") := .t _ (wd_lit (by decide +kernel))
theorem wok_code : Wok (.str "code") := .t _ (wd_lit (by decide +kernel))
theorem wok_ticks : Wok (.str "ticks") := .t _ (wd_lit (by decide +kernel))
theorem wok_Ln (w : Ln) : Wok (Enc.e w) := by cases w <;> exact .t _ (wd_lit (by decide +kernel))
theorem wok_Dd (w : Dd) : Wok (Enc.e w) := by cases w <;> exact .t _ (wd_lit (by decide +kernel))
theorem TEv.ln {P : Plan} {e : Ev} (h : TEv P e) : LnOk (evW e) := by
  cases e with
  | line z w => exact ⟨by simp [evW]; exact ⟨wok_line, .t _ h.2, wok_Ln w⟩, by simp [evW]⟩
  | code f d z =>
    cases z with
    | none => exact ⟨by simp [evW]; exact ⟨wok_code, .t _ h.2.1.wd, wok_Dd d⟩, by simp [evW]⟩
    | some z => exact ⟨by simp [evW]; exact ⟨wok_code, .t _ h.2.1.wd, wok_Dd d, .t _ (h.2.2 z rfl)⟩, by simp [evW]⟩
  | ticks n =>
    obtain ⟨h1, h2⟩ := h
    obtain ⟨m, rfl⟩ := Int.eq_ofNat_of_zero_le (show 0 ≤ n by omega)
    exact ⟨by simp [evW]; exact ⟨wok_ticks, .n m (by omega)⟩, by simp [evW]⟩
def rowT (r : List Ev) : Str := linesD (r.map evW)
theorem rowText_ok {k : Nat} {P : Plan} {r : List Ev} (h : Trow P r) (hz : r.length ≤ 50000) (s : Sto) : Phi fns (k + 2) 158 [tuV (r.map Enc.e)] s = .ok (stV (rowT r)) s := by
  rw [run_of (F := f_row_text) rfl rfl, leave_bd]
  simp only [b_row_text, f_row_text, enter]
  have hw := fun e => evWords_call (k := k) e
  have hl := lines_call (k := k) (L := r.map evW) (fun ws hws => by
    obtain ⟨e, he, rfl⟩ := List.mem_map.mp hws
    exact (h e he).ln) (by simpa using hz)
  rw [List.map_map] at hl
  simp only [V] at hw
  have hz2 : r.length ≤ 16777216 := by omega
  rw [exb_cons, run_bd]
  have hl2 : pureRun (Phi fns (k + 1) 156 [.d (.list (r.map fun a => .tuple (evW a)))]) = pure (stV (rowT r)) := hl
  simp [-exb_cons, hw, hz2, hl2]
theorem rowText_call {k : Nat} {P : Plan} {r : List Ev} (h : Trow P r) (hz : r.length ≤ 50000) : pureRun (Phi fns (k + 2) 158 [tuV (r.map Enc.e)]) = pure (stV (rowT r)) := pureRun_eq (rowText_ok h hz [])
end Dt

/-! TxC: rows read. -/
namespace Dt
open PySem Dw
theorem need_ok {k : Nat} (s : Sto) : Phi fns (k + 1) 159 [blV true] s = .ok nonV s := by
  rw [run_of (F := f_need) rfl rfl, leave_bd]
  simp only [b_need, f_need, enter]
  (rw [exb_cons, run_bd]; simp [-exb_cons])
theorem need_call {k : Nat} : pureRun (Phi fns (k + 1) 159 [blV true]) = pure nonV := pureRun_eq (need_ok [])
theorem need_no {k : Nat} (s : Sto) : Phi fns (k + 1) 159 [blV false] s = .ex 5 s := by
  rw [run_of (F := f_need) rfl rfl, leave_bd]
  simp only [b_need, f_need, enter]
  (rw [exb_cons, run_bd]; simp [-exb_cons])
  (rw [exb_cons, run_bd]; simp [-exb_cons, M.ex])
theorem dig_in {c : Nat} (h : 48 ≤ c ∧ c ≤ 57) : cmpop .In (stV ⟨#[c]⟩) (stV "0123456789") = pure true := by
  have : c = 48 ∨ c = 49 ∨ c = 50 ∨ c = 51 ∨ c = 52 ∨ c = 53 ∨ c = 54 ∨ c = 55 ∨ c = 56 ∨ c = 57 := by omega
  show (pure (!(Builtin.Str.occurrences ("0123456789" : Str) ⟨#[c]⟩ 0 ("0123456789" : Str).length 1).isEmpty) : M Bool) = pure true
  congr 1
  rcases this with rfl | rfl | rfl | rfl | rfl | rfl | rfl | rfl | rfl | rfl <;> decide +kernel
theorem boolsM_tt {α : Type} : ∀ l : List α, boolsM (l.map fun _ => .bool true) = pure (l.map fun _ => true)
  | [] => rfl
  | a :: l => by rw [List.map_cons, boolsM, boolsM_tt l]; rfl
theorem all_tt {α : Type} (l : List α) : bi .all [liV (l.map fun _ => .bool true)] = pure (blV true) := by
  show (lItems (liV (l.map fun _ => .bool true)) >>= fun xs => boolsM xs >>= fun bs => (pure (blV (bs.all id)) : M Vl)) = _
  show (boolsM (l.map fun _ => .bool true) >>= fun bs => (pure (blV (bs.all id)) : M Vl)) = _
  rw [boolsM_tt]
  show (pure (blV ((l.map fun _ => true).all id)) : M Vl) = _
  have : (l.map fun _ => true).all id = true := by simp
  rw [this]
def digE : E := .cmp .In (.var 1) (.glb "FIGURES" (.str "0123456789"))
theorem dig_comp {k : Nat} {x : Str} (h : ∀ c ∈ TL.tl x, 48 ≤ c ∧ c ≤ 57) (hz : x.length ≤ 1000) (v0 : Option Vl) (s : Sto) : compL (compF (Phi fns k) (.nm 1) .no digE [v0, none]) (x.cps.toList.map fun c => stV ⟨#[c]⟩) [] s = .ok (x.cps.toList.map fun _ => .bool true) s := by
  refine compL_map (h := fun c => stV ⟨#[c]⟩) (g := fun _ => .bool true) x.cps.toList (fun c hc => ?_) (by rw [szLine_eq]; have := TL.len_tl x; unfold TL.tl at this; omega)
  unfold compF digE
  apply noEx_ok
  have := dig_in (h c hc)
  simp [this]
theorem number_ok {k : Nat} {m : Nat} (h : m < 10 ^ 10) (s : Sto) : Phi fns (k + 2) 160 [stV (numS m)] s = .ok (inV (m : Int)) s := by
  have hd := numS_ok h
  have h2 : (stV (numS m) : Vl) = stV (Str.ofString (toString (m : Int))) := rfl
  have tlm : TL.tl (numS m) = TL.numL m := TL.tl_num m
  have hc := dig_comp (k := k + 1) (x := numS m) (fun c hc => by
    rw [tlm] at hc
    have := TL.numL_digits m c hc
    exact this) (by have := hd.n; omega) (some (stV (numS m))) s
  have hal := all_tt (numS m).cps.toList
  have hne : ¬ numS m = Str.ofString "" := fun e2 => by
    have := congrArg TL.tl e2
    rw [tlm] at this
    exact TL.numL_ne m this
  have hsh : shp (.str (numS m)) = true := by rw [shp_okB]; unfold numS; simp
  have hint : bi .int [stV (numS m)] = pure (inV (m : Int)) := by
    have hr := TL.int_num (n := m) (by have := TL.numL_len (n := m) (k := 10) (by omega) h; omega)
    show (match PySem.intText? (numS m) with
      | some n => okS (decide ((numS m).length ≤ 640)) (inV n)
      | none => M.no) = _
    unfold numS at hd ⊢
    rw [hr]
    have := hd.n
    dsimp only
    rw [decide_eq_true (by omega)]
    rfl
  have hnd := need_call (k := k)
  rw [run_of (F := f_number_of) rfl rfl, leave_bd]
  simp only [b_number_of, f_number_of, enter]
  unfold digE at hc
  generalize numS m = x at hd hc hal hne hint hsh ⊢
  have hwk : wkOf (stV x) = pure (.its (x.cps.toList.map fun c => stV ⟨#[c]⟩)) := rfl
  have hsh2 : shp (.str (Str.ofString "")) = true := by rw [shp_okB]; simp
  rw [exb_cons, run_bd]
  simp [-exb_cons, -compL_TT, -compF_eq, hc, hne, hsh, hsh2, hwk, hal, hnd]
  rw [exb_cons, run_bd]
  simp [-exb_cons, hint]
theorem number_call {k : Nat} {m : Nat} (h : m < 10 ^ 10) : pureRun (Phi fns (k + 2) 160 [stV (numS m)]) = pure (inV (m : Int)) := pureRun_eq (number_ok h [])
/-! ### lines -/
theorem split_run {x : Str} {w : Str} (hw : w.length ≠ 0) (hx : x.length ≤ 16000000) : txmV .split x (stV w) = pure (liV ((PySem.Txt.split x w).map .str)) := by
  show okS (!(w.length == 0) && decide (x.length + 2 ≤ szLine)) (liV ((PySem.Txt.split x w).map .str)) = _
  have : (!(w.length == 0) && decide (x.length + 2 ≤ szLine)) = true := by
    rw [Bool.and_eq_true, decide_eq_true_eq, szLine_eq]
    exact ⟨by simpa using hw, by omega⟩
  rw [this]
  rfl
theorem linesOf_ok {k : Nat} {L : List (List Str)} (h : ∀ ws ∈ L, (∀ w ∈ ws, WdOk w) ∧ ws.length ≤ 10 ∧ ws ≠ []) (hz : L.length ≤ 50000) (s : Sto) : Phi fns (k + 2) 161 [stV (linesS L)] s = .ok (liV (L.map fun ws => .list (ws.map .str))) s := by
  have h1 := split_run (x := linesS L) (w := NL) (by decide +kernel) (by have := lines_len (L := L) fun ws hw => ⟨(h ws hw).1, (h ws hw).2.1⟩; omega)
  rw [split_lines fun ws hw => (h ws hw).1, List.map_append] at h1
  obtain ⟨ls, hls⟩ : ∃ ls, ls = L.map lnS := ⟨_, rfl⟩
  rw [← hls] at h1
  have h1 : txmV .split (linesS L) (stV (Str.ofString "\n")) = pure (liV (ls.map PyData.str ++ [.str Str.empty])) := h1
  have hat : L2.atI (ls.map PyData.str ++ [.str Str.empty]) (-1) = some (.str Str.empty) := by
    unfold L2.atI
    have e : L2.ixN (ls.map PyData.str ++ [PyData.str Str.empty]).length (-1) = some ls.length := by
      unfold L2.ixN
      simp
      try omega
    rw [e]
    simp
  have hcut : cutD (ls.map PyData.str ++ [.str Str.empty]) none (some (-1)) = ls.map PyData.str := by
    have := cutD_neg (ls.map PyData.str ++ [.str Str.empty]) 1 (by simp) (by omega)
    rw [show (-((1 : Nat) : Int)) = -1 from rfl] at this
    rw [this]
    simp
  have hnd := need_call (k := k)
  have hem : cmpop .Eq (stV Str.empty) (stV (Str.ofString "")) = pure true := by
    have h1 : shp (PyData.str Str.empty) = true := by decide +kernel
    have e2 : PyData.eqv (PyData.str Str.empty) (PyData.str Str.empty) = true := by decide +kernel
    show okS (shp (PyData.str Str.empty) && shp (PyData.str Str.empty)) (PyData.eqv (PyData.str Str.empty) (PyData.str Str.empty)) = _
    rw [h1, e2]
    rfl
  have hc : compL (compF (Phi fns (k + 1)) (.nm 2) .no (.txm .split (.var 2) (.str " ")) [some (stV (linesS L)), some (liV (ls.map PyData.str ++ [.str Str.empty])), none]) (ls.map (Vl.d ∘ PyData.str)) [] s = .ok (ls.map fun x => PyData.list ((PySem.Txt.split x SP).map PyData.str)) s := by
    refine compL_map (h := Vl.d ∘ PyData.str) (g := fun x => PyData.list ((PySem.Txt.split x SP).map PyData.str)) ls (fun x hx => ?_) (by rw [szLine_eq, hls, List.length_map]; omega)
    rw [hls] at hx
    obtain ⟨ws, hws, rfl⟩ := List.mem_map.mp hx
    obtain ⟨g1, g2, g3⟩ := h ws hws
    have hs := split_run (x := lnS ws) (w := SP) (by decide +kernel) (by have := ln_len g1; omega)
    have hs : txmV .split (lnS ws) (stV (Str.ofString " ")) = pure (liV ((PySem.Txt.split (lnS ws) SP).map PyData.str)) := hs
    unfold compF
    apply noEx_ok
    simp [hs]
  have hfin : (ls.map fun x => PyData.list ((PySem.Txt.split x SP).map PyData.str)) = L.map fun ws => PyData.list (ws.map PyData.str) := by
    rw [hls, List.map_map]
    refine List.map_congr_left fun ws hws => ?_
    show PyData.list ((PySem.Txt.split (lnS ws) SP).map PyData.str) = _
    rw [split_words (h ws hws).2.2 (h ws hws).1]
  rw [run_of (F := f_lines_of) rfl rfl, leave_bd]
  simp only [b_lines_of, f_lines_of, enter]
  (rw [exb_cons, run_bd]; simp [-exb_cons, h1])
  rw [exb_cons, run_bd]
  simp [-exb_cons, hat, hem, hnd]
  rw [exb_cons, run_bd]
  simp [-exb_cons, -compL_TT, -compF_eq, hcut, hc, hfin]
theorem linesOf_call {k : Nat} {L : List (List Str)} (h : ∀ ws ∈ L, (∀ w ∈ ws, WdOk w) ∧ ws.length ≤ 10 ∧ ws ≠ []) (hz : L.length ≤ 50000) : pureRun (Phi fns (k + 2) 161 [stV (linesS L)]) = pure (liV (L.map fun ws => .list (ws.map .str))) := pureRun_eq (linesOf_ok h hz [])
/-! ### events -/
def evS (e : Ev) : List Str := (evW e).map wS
theorem eventOf_ok {k : Nat} {P : Plan} {e : Ev} (h : TEv P e) (s : Sto) : Phi fns (k + 3) 162 [liV ((evS e).map .str)] s = .ok (V e) s := by
  have hnd := need_call (k := k + 1)
  rw [run_of (F := f_event_of) rfl rfl, leave_bd]
  simp only [b_event_of, f_event_of, enter]
  cases e with
  | line z w =>
    have e1 : (evS (.line z w)).map PyData.str = [.str "line", Enc.e z, Enc.e w] := by cases w <;> rfl
    rw [e1]
    (rw [exb_cons, run_bd]; simp [-exb_cons, shp_okB])
    (rw [exb_cons, run_bd]; simp [-exb_cons, shp_okB])
    (rw [exb_cons, run_bd]; simp [-exb_cons])
  | ticks n =>
    obtain ⟨h1, h2⟩ := h
    obtain ⟨m, rfl⟩ := Int.eq_ofNat_of_zero_le (show 0 ≤ n by omega)
    have hnum := number_call (k := k) (m := m) (by omega)
    have e1 : (evS (.ticks (m : Int))).map PyData.str = [.str "ticks", .str (numS m)] := rfl
    rw [e1]
    have hsh : shp (.str (numS m)) = true := by rw [shp_okB]; unfold numS; simp
    generalize numS m = x at hnum hsh ⊢
    (rw [exb_cons, run_bd]; simp [-exb_cons, shp_okB])
    (rw [exb_cons, run_bd]; simp [-exb_cons, hnd])
    (rw [exb_cons, run_bd]; simp [-exb_cons, hnum])
  | code f d z =>
    obtain ⟨h1, h2, h3⟩ := h
    cases d with
    | set =>
      have h1 : z = none := h1
      subst h1
      have e1 : (evS (.code f .set none)).map PyData.str = [.str "code", Enc.e f, .str "set"] := rfl
      rw [e1]
      (rw [exb_cons, run_bd]; simp [-exb_cons, shp_okB])
      (rw [exb_cons, run_bd]; simp [-exb_cons, shp_okB])
      (rw [exb_cons, run_bd]; simp [-exb_cons, shp_okB, hnd])
      (rw [exb_cons, run_bd]; simp [-exb_cons, shp_okB])
      (rw [exb_cons, run_bd]; simp [-exb_cons, szLine_eq])
      rfl
    | unset =>
      have h1 : z = none := h1
      subst h1
      have e1 : (evS (.code f .unset none)).map PyData.str = [.str "code", Enc.e f, .str "unset"] := rfl
      rw [e1]
      (rw [exb_cons, run_bd]; simp [-exb_cons, shp_okB])
      (rw [exb_cons, run_bd]; simp [-exb_cons, shp_okB])
      (rw [exb_cons, run_bd]; simp [-exb_cons, shp_okB, hnd])
      (rw [exb_cons, run_bd]; simp [-exb_cons, shp_okB])
      (rw [exb_cons, run_bd]; simp [-exb_cons, szLine_eq])
      rfl
    | shunt =>
      obtain ⟨y, rfl, hy⟩ := h1
      have e1 : (evS (.code f .shunt (some y))).map PyData.str = [.str "code", Enc.e f, .str "shunt", Enc.e y] := rfl
      rw [e1]
      (rw [exb_cons, run_bd]; simp [-exb_cons, shp_okB])
      (rw [exb_cons, run_bd]; simp [-exb_cons, shp_okB])
      (rw [exb_cons, run_bd]; simp [-exb_cons, shp_okB, hnd])
      (rw [exb_cons, run_bd]; simp [-exb_cons, shp_okB])
      (rw [exb_cons, run_bd]; simp [-exb_cons])
      rfl
    | free =>
      obtain ⟨y, rfl, hy⟩ := h1
      have e1 : (evS (.code f .free (some y))).map PyData.str = [.str "code", Enc.e f, .str "free", Enc.e y] := rfl
      rw [e1]
      (rw [exb_cons, run_bd]; simp [-exb_cons, shp_okB])
      (rw [exb_cons, run_bd]; simp [-exb_cons, shp_okB])
      (rw [exb_cons, run_bd]; simp [-exb_cons, shp_okB, hnd])
      (rw [exb_cons, run_bd]; simp [-exb_cons, shp_okB])
      (rw [exb_cons, run_bd]; simp [-exb_cons])
      rfl
theorem eventOf_call {k : Nat} {P : Plan} {e : Ev} (h : TEv P e) : pureRun (Phi fns (k + 3) 162 [liV ((evS e).map .str)]) = pure (V e) := pureRun_eq (eventOf_ok h [])
@[simp] theorem ty_T (z : Tx) : tyIs (Enc.e z) (Str.ofString "str") = true := by show ((Str.ofString "str") == ("str" : Str)) = true; decide +kernel
@[simp] theorem ty_Ln (z : Ln) : tyIs (Enc.e z) (Str.ofString "str") = true := by cases z <;> (show ((Str.ofString "str") == ("str" : Str)) = true; decide +kernel)
@[simp] theorem ty_Dd (z : Dd) : tyIs (Enc.e z) (Str.ofString "str") = true := by cases z <;> (show ((Str.ofString "str") == ("str" : Str)) = true; decide +kernel)
@[simp] theorem ty_s (x : Str) : tyIs (.str x) (Str.ofString "str") = true := by show ((Str.ofString "str") == ("str" : Str)) = true; decide +kernel
@[simp] theorem ty_t (x : List D) : tyIs (.tuple x) (Str.ofString "tuple") = true := by show ((Str.ofString "tuple") == ("tuple" : Str)) = true; decide +kernel
@[simp] theorem ty_i (x : Int) : tyIs (.int x) (Str.ofString "int") = true := by show ((Str.ofString "int") == ("int" : Str)) = true; decide +kernel
@[simp] theorem ty_ib (x : Int) : tyIs (.int x) (Str.ofString "bool") = false := by show ((Str.ofString "bool") == ("int" : Str)) = false; decide +kernel
theorem names_call2 {k : Nat} {P : Plan} (p : GoodP P) : pureRun (Phi fns (k + 1) 11 [V P]) = pure (liV (P.names.map Enc.e)) := names_call p.zsz
theorem oneOf_names {k : Nat} {P : Plan} (p : GoodP P) {z : Tx} (h : z ∈ P.names) : pureRun (Phi fns (k + 1) 3 [V z, liV (P.names.map Enc.e)]) = pure (blV true) := by
  refine pureRun_eq (s' := []) ?_
  rw [run_of (F := f_is_one_of) rfl rfl, leave_bd]
  simp only [b_is_one_of, f_is_one_of, enter]
  rw [exb_cons, run_bd]
  have hsh : shp (.list (P.names.map Enc.e)) = true := by rw [shp_okB]; simp
  simp [-exb_cons, h, hsh, shp_okB]
theorem oneOf_Ln {k : Nat} (w : Ln) : pureRun (Phi fns (k + 1) 3 [V w, tuV [.str "shut", .str "open", .str "cut"]]) = pure (blV true) := by
  refine pureRun_eq (s' := []) ?_
  rw [run_of (F := f_is_one_of) rfl rfl, leave_bd]
  simp only [b_is_one_of, f_is_one_of, enter]
  cases w with
  | shut => 
    rw [exb_cons, run_bd]
    simp [-exb_cons, shp_okB]
  | opn =>
    rw [exb_cons, run_bd]
    simp [-exb_cons, shp_okB]
  | cut =>
    rw [exb_cons, run_bd]
    simp [-exb_cons, shp_okB]
theorem figs_ok {k : Nat} {f : Tx} (h : FgOk f) : pureRun (Phi fns (k + 1) 5 [V f]) = pure (blV true) := by
  refine pureRun_eq (s' := []) ?_
  rw [run_of (F := f_are_figures) rfl rfl, leave_bd]
  simp only [b_are_figures, f_are_figures, enter]
  have hlen : bi .len [V f] = pure (inV 4) := by
    show okS (decide (f.x.length ≤ szLine)) (inV f.x.length) = _
    have := TL.len_tl f.x
    rw [h.n] at this
    rw [this, szLine_eq]
    rfl
  have hwk : wkOf (V f) = pure (.its (f.x.cps.toList.map fun c => stV ⟨#[c]⟩)) := rfl
  have hc := dig_comp (k := k) (x := f.x) h.c (by rw [TL.len_tl, h.n]; omega) (some (V f)) []
  have hal := all_tt f.x.cps.toList
  unfold digE at hc
  simp only [V] at hlen hwk hc
  rw [exb_cons, run_bd]
  simp [-exb_cons, -compL_TT, -compF_eq, hlen, hwk, hc, hal, shp_okB]
theorem isEvent_ok {k : Nat} {P : Plan} (p : GoodP P) {e : Ev} (h : TEv P e) (s : Sto) : Phi fns (k + 2) 12 [V P, V e] s = .ok (blV true) s := by
  rw [run_of (F := f_is_event) rfl rfl, leave_bd]
  simp only [b_is_event, f_is_event, enter]
  have hn := names_call2 (k := k) p
  cases e with
  | line z w =>
    have hz := oneOf_names (k := k) p h.1
    have eE : (V (Ev.line z w) : Vl) = tuV [.str "line", Enc.e z, Enc.e w] := rfl
    rw [eE]
    have hw := oneOf_Ln (k := k) w
    simp only [V] at hn hz hw
    (rw [exb_cons, run_bd]; simp [-exb_cons, shp_okB])
    (rw [exb_cons, run_bd]; simp [-exb_cons, shp_okB])
    (rw [exb_cons, run_bd]; simp [-exb_cons, hn, hz, hw, shp_okB])
  | ticks n =>
    obtain ⟨h1, h2⟩ := h
    have hp : 0 < n := by omega
    have eE : (V (Ev.ticks n) : Vl) = tuV [.str "ticks", .int n] := rfl
    rw [eE]
    (rw [exb_cons, run_bd]; simp [-exb_cons, shp_okB])
    (rw [exb_cons, run_bd]; simp [-exb_cons, shp_okB])
    (rw [exb_cons, run_bd]; simp [-exb_cons, shp_okB])
    (rw [exb_cons, run_bd]; simp [-exb_cons, shp_okB, hp])
  | code f d z =>
    obtain ⟨h1, h2, h3⟩ := h
    have hf := figs_ok (k := k) h2
    have eE : (V (Ev.code f d z) : Vl) = tuV [.str "code", Enc.e f, Enc.e d, Enc.e z] := rfl
    rw [eE]
    simp only [V] at hn hf
    cases d with
    | set =>
      have h1 : z = none := h1
      subst h1
      (rw [exb_cons, run_bd]; simp [-exb_cons, shp_okB])
      (rw [exb_cons, run_bd]; simp [-exb_cons, shp_okB])
      (rw [exb_cons, run_bd]; simp [-exb_cons, shp_okB])
      (rw [exb_cons, run_bd]; simp [-exb_cons, shp_okB, hf])
      (rw [exb_cons, run_bd]; simp [-exb_cons, shp_okB])
      (rw [exb_cons, run_bd]; simp [-exb_cons])
    | unset =>
      have h1 : z = none := h1
      subst h1
      (rw [exb_cons, run_bd]; simp [-exb_cons, shp_okB])
      (rw [exb_cons, run_bd]; simp [-exb_cons, shp_okB])
      (rw [exb_cons, run_bd]; simp [-exb_cons, shp_okB])
      (rw [exb_cons, run_bd]; simp [-exb_cons, shp_okB, hf])
      (rw [exb_cons, run_bd]; simp [-exb_cons, shp_okB])
      (rw [exb_cons, run_bd]; simp [-exb_cons])
    | shunt =>
      obtain ⟨y, rfl, hy⟩ := h1
      have hz := oneOf_names (k := k) p hy
      simp only [V] at hz
      (rw [exb_cons, run_bd]; simp [-exb_cons, shp_okB])
      (rw [exb_cons, run_bd]; simp [-exb_cons, shp_okB])
      (rw [exb_cons, run_bd]; simp [-exb_cons, shp_okB])
      (rw [exb_cons, run_bd]; simp [-exb_cons, shp_okB, hf])
      (rw [exb_cons, run_bd]; simp [-exb_cons, shp_okB])
      (rw [exb_cons, run_bd]; simp [-exb_cons, hn, hz, shp_okB])
    | free =>
      obtain ⟨y, rfl, hy⟩ := h1
      have hz := oneOf_names (k := k) p hy
      simp only [V] at hz
      (rw [exb_cons, run_bd]; simp [-exb_cons, shp_okB])
      (rw [exb_cons, run_bd]; simp [-exb_cons, shp_okB])
      (rw [exb_cons, run_bd]; simp [-exb_cons, shp_okB])
      (rw [exb_cons, run_bd]; simp [-exb_cons, shp_okB, hf])
      (rw [exb_cons, run_bd]; simp [-exb_cons, shp_okB])
      (rw [exb_cons, run_bd]; simp [-exb_cons, hn, hz, shp_okB])
theorem isEvent_call {k : Nat} {P : Plan} (p : GoodP P) {e : Ev} (h : TEv P e) : pureRun (Phi fns (k + 2) 12 [V P, V e]) = pure (blV true) := pureRun_eq (isEvent_ok p h [])
end Dt

/-! TxD: a row's text read. -/
namespace Dt
open PySem Dw
theorem rowT_eq (r : List Ev) : rowT r = linesS (r.map evS) := by unfold rowT linesD; rw [List.map_map]; rfl
theorem evS_ne (e : Ev) : evS e ≠ [] := by cases e <;> simp [evS, evW]
theorem readRow_ok {k : Nat} {P : Plan} (p : GoodP P) {r : List Ev} (h : Trow P r) (hz : r.length ≤ 50000) (s : Sto) : Phi fns (k + 4) 163 [V P, stV (rowT r)] s = .ok (tuV (r.map Enc.e)) s := by
  have hl := linesOf_call (k := k + 1) (L := r.map evS) (fun ws hws => by
    obtain ⟨e, he, rfl⟩ := List.mem_map.mp hws
    have hln := (h e he).ln
    refine ⟨fun w hw => ?_, by unfold evS; rw [List.length_map]; exact hln.2, evS_ne e⟩
    obtain ⟨d, hd, rfl⟩ := List.mem_map.mp hw
    exact (hln.1 d hd).ok) (by simpa using hz)
  rw [← rowT_eq, List.map_map] at hl
  have hrt := rowText_call (k := k + 1) h hz
  have hnd := need_call (k := k + 2)
  have hso : strOk (rowT r) = true := by
    rw [rowT_eq]
    refine lines_strOk fun ws hws w hw => ?_
    obtain ⟨e, he, rfl⟩ := List.mem_map.mp hws
    obtain ⟨d, hd, rfl⟩ := List.mem_map.mp hw
    exact ((h e he).ln.1 d hd).ok
  generalize rowT r = x at hl hrt hso ⊢
  have hc : compL (compF (Phi fns (k + 3)) (.nm 3) .no (.call true 162 (.cons (.var 3) .nil)) [some (.d (Enc.e P)), some (stV x), none, none, none]) (r.map (Vl.d ∘ (fun ws => PyData.list (ws.map PyData.str)) ∘ evS)) [] s = .ok (r.map Enc.e) s := by
    refine compL_map (h := Vl.d ∘ (fun ws => PyData.list (ws.map PyData.str)) ∘ evS) (g := Enc.e) r (fun e he => ?_) (by rw [szLine_eq]; omega)
    have := eventOf_call (k := k) (h e he)
    unfold compF
    apply noEx_ok
    simp only [V] at this
    simp [this]
  have hc2 : ∀ v2, compL (compF (Phi fns (k + 3)) (.nm 4) .no (.call true 12 (.cons (.var 0) (.cons (.var 4) .nil))) [some (.d (Enc.e P)), some (stV x), v2, none, none]) (r.map (Vl.d ∘ Enc.e)) [] s = .ok (r.map fun _ => .bool true) s := fun v2 => by
    refine compL_map (h := Vl.d ∘ Enc.e) (g := fun _ => .bool true) r (fun e he => ?_) (by rw [szLine_eq]; omega)
    have := isEvent_call (k := k + 1) p (h e he)
    unfold compF
    apply noEx_ok
    simp only [V] at this
    simp [this]
  have hal := all_tt r
  rw [run_of (F := f_read_row) rfl rfl, leave_bd]
  simp only [b_read_row, f_read_row, enter]
  rw [exb_cons, run_bd]
  simp [-exb_cons, -compL_TT, -compF_eq, hl, hc]
  rw [exb_cons, run_bd]
  simp [-exb_cons, -compL_TT, -compF_eq, hc2, hal, hrt, shp_okB, hso, hnd]
  (rw [exb_cons, run_bd]; simp [-exb_cons])
theorem readRow_call {k : Nat} {P : Plan} (p : GoodP P) {r : List Ev} (h : Trow P r) (hz : r.length ≤ 50000) : pureRun (Phi fns (k + 4) 163 [V P, stV (rowT r)]) = pure (tuV (r.map Enc.e)) := pureRun_eq (readRow_ok p h hz [])
/-! ### the plans and rows that a law draws -/
structure TPlan (P : Plan) : Prop where
  nm : ∀ z ∈ P.names, WdOk z.x
  fg : ∀ c ∈ P.cs, FgOk c.fg
theorem fg_lit {f : Tx} (h : (decide (f.x.cps.toList.length = 4) && f.x.cps.toList.all fun c => decide (48 ≤ c) && decide (c ≤ 57)) = true) : FgOk f := by
  rw [Bool.and_eq_true, decide_eq_true_eq, List.all_eq_true] at h
  exact ⟨h.1, fun c hc => by have := h.2 c hc; simpa using this⟩
theorem planOf_text (n : Int) : TPlan (planOf n) where
  nm := fun z hz => by
    have h := planOf_names n z hz
    have key : ∀ z ∈ names8, WdOk z.x := fun z hz => by
      simp only [names8, List.mem_cons, List.not_mem_nil, or_false] at hz
      rcases hz with rfl | rfl | rfl | rfl | rfl | rfl | rfl | rfl <;> exact wd_lit (by decide +kernel)
    exact key z h
  fg := fun c hc => by
    have h : c.fg ∈ figs6 := (figs_sub n).subset (List.mem_map.mpr ⟨c, hc, rfl⟩)
    have key : ∀ f ∈ figs6, FgOk f := fun z hz => by
      simp only [figs6, List.mem_cons, List.not_mem_nil, or_false] at hz
      rcases hz with rfl | rfl | rfl | rfl | rfl | rfl <;> exact fg_lit (by decide +kernel)
    exact key _ h
theorem evOf_text {P : Plan} (p : GoodP P) (t : TPlan P) (n : Int) : TEv P (evOf P n) := by
  have hz := zoneN_mem p (n / 8)
  have hw := t.nm _ hz
  unfold evOf
  split
  · exact ⟨hz, hw⟩
  · split
    · have m3 := pick_mem [(3 : Int), 40, 200] 200 (n / 4096) (by decide)
      simp at m3
      generalize pick [(3 : Int), 40, 200] 200 (n / 4096) = m at m3 ⊢
      have h1 := Int.emod_nonneg (n / 64) (show m ≠ 0 by omega)
      have h2 := Int.emod_lt_of_pos (n / 64) (show 0 < m by omega)
      have e10 : ((10 : Int) ^ 10) = 10000000000 := by decide
      exact ⟨by omega, by rw [e10]; omega⟩
    · dsimp only
      have hf : FgOk (if n / 65536 % 4 = 0 then pick [tx "0001", tx "1111", tx "9999", tx "0000"] (tx "0000") (n / 512) else figN P (n / 64)) := by
        split
        · have := pick_mem [tx "0001", tx "1111", tx "9999", tx "0000"] (tx "0000") (n / 512) (by decide)
          generalize pick [tx "0001", tx "1111", tx "9999", tx "0000"] (tx "0000") (n / 512) = f at this ⊢
          simp only [List.mem_cons, List.not_mem_nil, or_false] at this
          rcases this with rfl | rfl | rfl | rfl <;> exact fg_lit (by decide +kernel)
        · exact t.fg _ (pick_mem _ _ _ (by have := p.c1; omega))
      generalize (if n / 65536 % 4 = 0 then pick [tx "0001", tx "1111", tx "9999", tx "0000"] (tx "0000") (n / 512) else figN P (n / 64)) = f at hf ⊢
      generalize pick [Dd.set, .set, .unset, .shunt, .free, .shunt] .shunt (n / 4096) = d
      split
      · rename_i h
        refine ⟨?_, hf, fun y hy => by cases hy⟩
        rcases h with rfl | rfl <;> exact rfl
      · rename_i h
        refine ⟨?_, hf, fun y hy => by cases hy; exact hw⟩
        cases d with
        | set => exact absurd (.inl rfl) h
        | unset => exact absurd (.inr rfl) h
        | shunt => exact ⟨_, rfl, hz⟩
        | free => exact ⟨_, rfl, hz⟩
theorem rowOf_text {P : Plan} (p : GoodP P) (t : TPlan P) (n most : Int) : Trow P (rowOf P n most) := by
  have hb : Trow P (rowBase P n most) := fun e he => by
    obtain ⟨i, _, rfl⟩ := List.mem_map.mp he
    exact evOf_text p t _
  unfold rowOf
  split
  · intro e he
    rcases List.mem_append.mp he with he | he
    · exact hb e (List.mem_of_mem_take he)
    · simp at he
      subst he
      exact ⟨rfl, fg_lit (by decide +kernel), fun y hy => by cases hy⟩
  · exact hb
end Dt

/-! TxE: what is a plan, a house. -/
namespace Dt
open PySem Dw
/-- a name -/
structure NmOk (x : Str) : Prop where
  n : 1 ≤ (TL.tl x).length ∧ (TL.tl x).length ≤ 4
  c : ∀ c ∈ TL.tl x, 97 ≤ c ∧ c ≤ 122
theorem NmOk.wd {x : Str} (h : NmOk x) : WdOk x := ⟨by rw [TL.len_tl]; have := h.n; omega, fun c hc => by have := h.c c hc; omega⟩
theorem nm_lit {x : Str} (h : (decide (1 ≤ x.cps.toList.length) && decide (x.cps.toList.length ≤ 4) && x.cps.toList.all fun c => decide (97 ≤ c) && decide (c ≤ 122)) = true) : NmOk x := by
  simp only [Bool.and_eq_true, decide_eq_true_eq, List.all_eq_true] at h
  exact ⟨h.1, fun c hc => h.2 c hc⟩
theorem wd_ok {x : Str} (h : WdOk x) : strOk x = true := by
  unfold strOk PyData.canLay0 PyData.strOk
  rw [Array.all_eq_true']
  intro c hc
  have hc : c ∈ TL.tl x := by unfold TL.tl; exact Array.mem_def.mp hc
  rw [decide_eq_true_eq]
  exact (h.c c hc).2.2
theorem let_in {c : Nat} (h : 97 ≤ c ∧ c ≤ 122) : cmpop .In (stV ⟨#[c]⟩) (stV "abcdefghijklmnopqrstuvwxyz") = pure true := by
  have : c = 97 ∨ c = 98 ∨ c = 99 ∨ c = 100 ∨ c = 101 ∨ c = 102 ∨ c = 103 ∨ c = 104 ∨ c = 105 ∨ c = 106 ∨ c = 107 ∨ c = 108 ∨ c = 109 ∨ c = 110 ∨ c = 111 ∨ c = 112 ∨ c = 113 ∨ c = 114 ∨ c = 115 ∨ c = 116 ∨ c = 117 ∨ c = 118 ∨ c = 119 ∨ c = 120 ∨ c = 121 ∨ c = 122 := by omega
  show (pure (!(Builtin.Str.occurrences ("abcdefghijklmnopqrstuvwxyz" : Str) ⟨#[c]⟩ 0 ("abcdefghijklmnopqrstuvwxyz" : Str).length 1).isEmpty) : M Bool) = pure true
  congr 1
  rcases this with rfl | rfl | rfl | rfl | rfl | rfl | rfl | rfl | rfl | rfl | rfl | rfl | rfl | rfl | rfl | rfl | rfl | rfl | rfl | rfl | rfl | rfl | rfl | rfl | rfl | rfl <;> decide +kernel
theorem isName_call {k : Nat} {x : Str} (h : NmOk x) : pureRun (Phi fns (k + 1) 4 [stV x]) = pure (blV true) := by
  refine pureRun_eq (s' := []) ?_
  rw [run_of (F := f_is_name) rfl rfl, leave_bd]
  simp only [b_is_name, f_is_name, enter]
  obtain ⟨n1, n4⟩ := h.n
  have hl := TL.len_tl x
  have hlen : bi .len [stV x] = pure (inV (x.length : Int)) := by
    show okS (decide (x.length ≤ szLine)) (inV x.length) = _
    rw [szLine_eq, decide_eq_true (by omega)]
    rfl
  have hwk : wkOf (stV x) = pure (.its (x.cps.toList.map fun c => stV ⟨#[c]⟩)) := rfl
  have hc : compL (compF (Phi fns k) (.nm 1) .no (.cmp .In (.var 1) (.glb "LETTERS" (.str "abcdefghijklmnopqrstuvwxyz"))) [some (stV x), none]) (x.cps.toList.map fun c => stV ⟨#[c]⟩) [] [] = .ok (x.cps.toList.map fun _ => .bool true) [] := by
    refine compL_map (h := fun c => stV ⟨#[c]⟩) (g := fun _ => .bool true) x.cps.toList (fun c hc => ?_) (by rw [szLine_eq]; unfold TL.tl at n4; omega)
    unfold compF
    apply noEx_ok
    have := let_in (h.c c hc)
    simp [this]
  have hal := all_tt x.cps.toList
  have h1 : (1 : Int) ≤ (x.length : Int) := by omega
  have h4 : (x.length : Int) ≤ 4 := by omega
  rw [exb_cons, run_bd]
  simp [-exb_cons, -compL_TT, -compF_eq, hlen, hwk, hc, hal, h1, h4]
theorem isWhole_call {k : Nat} {i lo hi : Int} (h : lo ≤ i ∧ i ≤ hi) : pureRun (Phi fns (k + 1) 1 [inV i, inV lo, inV hi]) = pure (blV true) := by
  refine pureRun_eq (s' := []) ?_
  rw [run_of (F := f_is_whole) rfl rfl, leave_bd]
  simp only [b_is_whole, f_is_whole, enter]
  rw [exb_cons, run_bd]
  simp [-exb_cons, h.1, h.2]
theorem isRow_call {k : Nat} (xs : List D) : pureRun (Phi fns (k + 1) 2 [tuV xs, inV (xs.length : Int)]) = pure (blV true) := by
  refine pureRun_eq (s' := []) ?_
  rw [run_of (F := f_is_row) rfl rfl, leave_bd]
  simp only [b_is_row, f_is_row, enter]
  rw [exb_cons, run_bd]
  simp [-exb_cons, shp_okB]
theorem oneOf_call {k : Nat} {x : Str} {xs : List D} (h : isIn (.str x) xs = true) (h1 : strOk x = true) (h2 : xs.all (okB 63) = true) : pureRun (Phi fns (k + 1) 3 [stV x, tuV xs]) = pure (blV true) := by
  refine pureRun_eq (s' := []) ?_
  rw [run_of (F := f_is_one_of) rfl rfl, leave_bd]
  simp only [b_is_one_of, f_is_one_of, enter]
  rw [exb_cons, run_bd]
  simp [-exb_cons, shp_okB, h, h1, h2]
/-- texts that rise -/
def Rise (l : List Str) : Prop := l.Pairwise fun a b => a.cps.toList < b.cps.toList
theorem rise_zip : ∀ {l : List Str}, Rise l → ∀ p ∈ l.dropLast.zip l.tail, p.1.cps.toList < p.2.cps.toList
  | [], _, p, hp => by simp at hp
  | [a], _, p, hp => by simp at hp
  | a :: b :: r, h, p, hp => by
    have h := List.pairwise_cons.mp h
    have e : (a :: b :: r).dropLast.zip (a :: b :: r).tail = (a, b) :: (b :: r).dropLast.zip (b :: r).tail := rfl
    rw [e] at hp
    rcases List.mem_cons.mp hp with rfl | hp
    · exact h.1 b (by simp)
    · exact rise_zip h.2 p hp
theorem lt_run {x y : Str} (hx : strOk x = true) (hy : strOk y = true) (h : x.cps.toList < y.cps.toList) : cmpop .Lt (stV x) (stV y) = pure true := by
  show ltB (stV x) (stV y) = _
  have h1 : shp (.str x) = true := by rw [shp_okB]; simpa using hx
  have h2 : shp (.str y) = true := by rw [shp_okB]; simpa using hy
  unfold ltB
  simp [h1, h2, dlt, h]
theorem cut_last (l : List Str) : cutD (l.map PyData.str) none (some (-1)) = l.dropLast.map PyData.str := by
  cases l with
  | nil => rfl
  | cons a r =>
    have := cutD_neg ((a :: r).map PyData.str) 1 (by simp) (by omega)
    rw [show (-((1 : Nat) : Int)) = -1 from rfl] at this
    rw [this, ← List.map_take, List.length_map, List.dropLast_eq_take]
theorem rise_comp {k : Nat} {l : List Str} (h : Rise l) (hw : ∀ x ∈ l, strOk x = true) (hz : l.length ≤ 100) (v0 : Option Vl) :
    compL (compF (Phi fns k) (.tp (.cons (.nm 1) (.cons (.nm 2) .nil))) .no (.cmp .Lt (.var 1) (.var 2)) [v0, none, none]) ((l.dropLast.zip l.tail).map fun p => tuV [.str p.1, .str p.2]) [] [] = .ok ((l.dropLast.zip l.tail).map fun _ => .bool true) [] := by
  refine compL_map (h := fun p : Str × Str => tuV [.str p.1, .str p.2]) (g := fun _ => .bool true) _ (fun p hp => ?_) (by have h9 : l.dropLast.length ≤ l.length := (by simp); rw [szLine_eq, List.length_zip]; omega)
  have h1 : p.1 ∈ l := (List.dropLast_sublist l).subset (List.of_mem_zip hp).1
  have h2 : p.2 ∈ l := List.mem_of_mem_tail (List.of_mem_zip hp).2
  have := lt_run (hw _ h1) (hw _ h2) (rise_zip h p hp)
  unfold compF
  apply noEx_ok
  simp [this]
theorem rises_tup {k : Nat} {l : List Str} (h : Rise l) (hw : ∀ x ∈ l, strOk x = true) (hz : l.length ≤ 100) : pureRun (Phi fns (k + 1) 6 [tuV (l.map .str)]) = pure (blV true) := by
  refine pureRun_eq (s' := []) ?_
  rw [run_of (F := f_rises) rfl rfl, leave_bd]
  simp only [b_rises, f_rises, enter]
  have h1 := cut_last l
  have h2 : (l.map PyData.str).tail = l.tail.map PyData.str := by rw [List.map_tail]
  have h3 := rise_comp (k := k) h hw hz
  have h4 := all_tt (l.dropLast.zip l.tail)
  rw [exb_cons, run_bd]
  simp [-exb_cons, -compL_TT, -compF_eq, -List.map_tail, -List.map_dropLast, h1, h2, h3, h4]
theorem rises_lst {k : Nat} {l : List Str} (h : Rise l) (hw : ∀ x ∈ l, strOk x = true) (hz : l.length ≤ 100) : pureRun (Phi fns (k + 1) 6 [liV (l.map .str)]) = pure (blV true) := by
  refine pureRun_eq (s' := []) ?_
  rw [run_of (F := f_rises) rfl rfl, leave_bd]
  simp only [b_rises, f_rises, enter]
  have h1 := cut_last l
  have h2 : (l.map PyData.str).tail = l.tail.map PyData.str := by rw [List.map_tail]
  have h3 := rise_comp (k := k) h hw hz
  have h4 := all_tt (l.dropLast.zip l.tail)
  rw [exb_cons, run_bd]
  simp [-exb_cons, -compL_TT, -compF_eq, -List.map_tail, -List.map_dropLast, h1, h2, h3, h4]
end Dt

/-! TxF: plans are plans. -/
namespace Dt
open PySem Dw
def ddS : Dd → Str
  | .set => "set" | .unset => "unset" | .shunt => "shunt" | .free => "free"
theorem e_ddS (d : Dd) : (Enc.e d : D) = .str (ddS d) := by cases d <;> rfl
def kdS : Kd → Str
  | .day => "day" | .inner => "inner" | .once => "once" | .way => "way"
theorem e_kdS (d : Kd) : (Enc.e d : D) = .str (kdS d) := by cases d <;> rfl
structure TPl (P : Plan) : Prop where
  nm : ∀ z ∈ P.zs, NmOk z.nm.x
  rn : Rise (P.zs.map fun z => z.nm.x)
  fg : ∀ c ∈ P.cs, FgOk c.fg
  wh : ∀ c ∈ P.cs, NmOk c.who.x
  rt : ∀ c ∈ P.cs, c.rts.length ≤ 3 ∧ Rise (c.rts.map ddS) ∧ ∀ d ∈ c.rts, d ≠ .free
  us : ∀ c ∈ P.cs, 0 ≤ c.us ∧ c.us ≤ 9
  rf : Rise (P.cs.map fun c => c.fg.x)
section
variable {P : Plan}
theorem isZone_call {k : Nat} {z : Zn} (h : NmOk z.nm.x) : pureRun (Phi fns (k + 2) 7 [V z]) = pure (blV true) := by
  refine pureRun_eq (s' := []) ?_
  rw [run_of (F := f_is_zone) rfl rfl, leave_bd]
  simp only [b_is_zone, f_is_zone, enter]
  have eE : (V z : Vl) = tuV [.str z.nm.x, .str (kdS z.kd)] := by rw [← e_kdS]; rfl
  have h1 := isRow_call (k := k) [.str z.nm.x, .str (kdS z.kd)]
  have h2 := isName_call (k := k) h
  have h3 := oneOf_call (k := k) (x := kdS z.kd) (xs := [.str "day", .str "inner", .str "once", .str "way"]) (by cases z.kd <;> decide +kernel) (by cases z.kd <;> decide +kernel) (by simp)
  rw [eE]
  have h1 : pureRun (Phi fns (k + 1) 2 [tuV [.str z.nm.x, .str (kdS z.kd)], inV 2]) = pure (blV true) := h1
  rw [exb_cons, run_bd]
  simp [-exb_cons, h1, h2, h3]
theorem times_call {k : Nat} (p : GoodP P) : pureRun (Phi fns (k + 2) 9 [tuV [.int P.lv, .int P.cm, .int P.ld]]) = pure (blV true) := by
  refine pureRun_eq (s' := []) ?_
  rw [run_of (F := f_are_times) rfl rfl, leave_bd]
  simp only [b_are_times, f_are_times, enter]
  have h1 : pureRun (Phi fns (k + 1) 2 [tuV [.int P.lv, .int P.cm, .int P.ld], inV 3]) = pure (blV true) := isRow_call (k := k) [.int P.lv, .int P.cm, .int P.ld]
  have h2 := isWhole_call (k := k) (i := P.lv) (lo := 0) (hi := 60) ⟨p.lv, p.lv1⟩
  have h3 := isWhole_call (k := k) (i := P.cm) (lo := 0) (hi := 60) ⟨p.cm, p.cm1⟩
  have h4 := isWhole_call (k := k) (i := P.ld) (lo := 1) (hi := 300) ⟨p.ld, p.ld1⟩
  (rw [exb_cons, run_bd]; simp [-exb_cons, h1, h2, h3])
  (rw [exb_cons, run_bd]; simp [-exb_cons, h4])
theorem isCode_call {k : Nat} {c : Cd} (h1 : FgOk c.fg) (h2 : NmOk c.who.x) (h3 : c.rts.length ≤ 3 ∧ Rise (c.rts.map ddS) ∧ ∀ d ∈ c.rts, d ≠ .free) (h4 : 0 ≤ c.us ∧ c.us ≤ 9) : pureRun (Phi fns (k + 2) 8 [V c]) = pure (blV true) := by
  refine pureRun_eq (s' := []) ?_
  rw [run_of (F := f_is_code) rfl rfl, leave_bd]
  simp only [b_is_code, f_is_code, enter]
  have eE : (V c : Vl) = tuV [.str c.fg.x, .str c.who.x, .tuple ((c.rts.map ddS).map .str), .int c.us] := by
    have : (c.rts.map ddS).map PyData.str = c.rts.map Enc.e := by rw [List.map_map]; exact List.map_congr_left fun d _ => (e_ddS d).symm
    rw [this]
    rfl
  have g1 : pureRun (Phi fns (k + 1) 2 [tuV [.str c.fg.x, .str c.who.x, .tuple ((c.rts.map ddS).map .str), .int c.us], inV 4]) = pure (blV true) := isRow_call (k := k) [.str c.fg.x, .str c.who.x, .tuple ((c.rts.map ddS).map .str), .int c.us]
  have g2 : pureRun (Phi fns (k + 1) 5 [stV c.fg.x]) = pure (blV true) := figs_ok (k := k) h1
  have g3 := isName_call (k := k) h2
  have hsk : ∀ x ∈ c.rts.map ddS, strOk x = true := fun x hx => by
    obtain ⟨d, _, rfl⟩ := List.mem_map.mp hx
    cases d <;> decide +kernel
  have g4 := rises_tup (k := k) h3.2.1 hsk (by rw [List.length_map]; omega)
  have g5 := isWhole_call (k := k) (i := c.us) (lo := 0) (hi := 9) h4
  have hc : ∀ v0, compL (compF (Phi fns (k + 1)) (.nm 1) .no (.call true 3 (.cons (.var 1) (.cons (.glb "RIGHTS" (.tuple [.str "set", .str "shunt", .str "unset"])) .nil))) [v0, none]) ((c.rts.map ddS).map (Vl.d ∘ .str)) [] [] = .ok ((c.rts.map ddS).map fun _ => .bool true) [] := fun v0 => by
    refine compL_map (h := Vl.d ∘ .str) (g := fun _ => .bool true) (c.rts.map ddS) (fun x hx => ?_) (by rw [szLine_eq, List.length_map]; omega)
    have hx2 := hsk x hx
    obtain ⟨d, hd, rfl⟩ := List.mem_map.mp hx
    have := oneOf_call (k := k) (x := ddS d) (xs := [.str "set", .str "shunt", .str "unset"]) (by have := h3.2.2 d hd; cases d <;> first | exact absurd rfl this | decide +kernel) hx2 (by simp)
    unfold compF
    apply noEx_ok
    simp [this]
  have hal := all_tt (c.rts.map ddS)
  obtain ⟨R, hR⟩ : ∃ R, R = c.rts.map ddS := ⟨_, rfl⟩
  rw [eE]
  rw [← hR] at g1 g4 hc hal ⊢
  (rw [exb_cons, run_bd]; simp [-exb_cons, g1, g2, g3])
  rw [exb_cons, run_bd]
  simp [-exb_cons, -compL_TT, -compF_eq, hc, hal]
  (rw [exb_cons, run_bd]; simp [-exb_cons, g4, g5])
theorem isPlan_call {k : Nat} (p : GoodP P) (t : TPl P) : pureRun (Phi fns (k + 3) 10 [V P]) = pure (blV true) := by
  refine pureRun_eq (s' := []) ?_
  rw [run_of (F := f_is_plan) rfl rfl, leave_bd]
  simp only [b_is_plan, f_is_plan, enter]
  have eE : (V P : Vl) = tuV [.tuple (P.zs.map Enc.e), .tuple (P.cs.map Enc.e), .tuple [.int P.lv, .int P.cm, .int P.ld]] := rfl
  have g1 : pureRun (Phi fns (k + 2) 2 [tuV [.tuple (P.zs.map Enc.e), .tuple (P.cs.map Enc.e), .tuple [.int P.lv, .int P.cm, .int P.ld]], inV 3]) = pure (blV true) := isRow_call (k := k + 1) _
  have g2 := times_call (k := k) p
  have z1 : (1 : Int) ≤ (P.zs.length : Int) := by have := p.z1; omega
  have z8 : (P.zs.length : Int) ≤ 8 := by have := p.z8; omega
  have c1 : (1 : Int) ≤ (P.cs.length : Int) := by have := p.c1; omega
  have c6 : (P.cs.length : Int) ≤ 6 := by have := p.c6; omega
  have hcz : ∀ v0, compL (compF (Phi fns (k + 2)) (.nm 1) .no (.call true 7 (.cons (.var 1) .nil)) [v0, none]) (P.zs.map (Vl.d ∘ Enc.e)) [] [] = .ok (P.zs.map fun _ => .bool true) [] := fun v0 => by
    refine compL_map (h := Vl.d ∘ Enc.e) (g := fun _ => .bool true) P.zs (fun z hz => ?_) (by rw [szLine_eq]; have := p.z8; omega)
    have := isZone_call (k := k) (t.nm z hz)
    unfold compF
    apply noEx_ok
    simp only [V] at this
    simp [this]
  have hcc : ∀ v0, compL (compF (Phi fns (k + 2)) (.nm 1) .no (.call true 8 (.cons (.var 1) .nil)) [v0, none]) (P.cs.map (Vl.d ∘ Enc.e)) [] [] = .ok (P.cs.map fun _ => .bool true) [] := fun v0 => by
    refine compL_map (h := Vl.d ∘ Enc.e) (g := fun _ => .bool true) P.cs (fun c hc => ?_) (by rw [szLine_eq]; have := p.c6; omega)
    have := isCode_call (k := k) (t.fg c hc) (t.wh c hc) (t.rt c hc) (t.us c hc)
    unfold compF
    apply noEx_ok
    simp only [V] at this
    simp [this]
  have az := all_tt P.zs
  have ac := all_tt P.cs
  rw [eE]
  (rw [exb_cons, run_bd]; simp [-exb_cons, g1, z1, z8])
  (rw [exb_cons, run_bd]; simp [-exb_cons, c1, c6])
  rw [exb_cons, run_bd]
  simp [-exb_cons, -compL_TT, -compF_eq, hcz, hcc, az, ac]
  have hnz : ∀ v0, compL (compF (Phi fns (k + 2)) (.nm 1) .no (.ix (.var 1) (.int 0)) [v0, none]) (P.zs.map (Vl.d ∘ Enc.e)) [] [] = .ok (P.zs.map fun z => .str z.nm.x) [] := fun v0 => by
    refine compL_map (h := Vl.d ∘ Enc.e) (g := fun z => .str z.nm.x) P.zs (fun z hz => ?_) (by rw [szLine_eq]; have := p.z8; omega)
    unfold compF
    apply noEx_ok
    have : ixV (V z) (inV 0) = pure (stV z.nm.x) := rfl
    simp only [V] at this
    simp [this]
  have hnc : ∀ v0, compL (compF (Phi fns (k + 2)) (.nm 1) .no (.ix (.var 1) (.int 0)) [v0, none]) (P.cs.map (Vl.d ∘ Enc.e)) [] [] = .ok (P.cs.map fun c => .str c.fg.x) [] := fun v0 => by
    refine compL_map (h := Vl.d ∘ Enc.e) (g := fun c => .str c.fg.x) P.cs (fun c hc => ?_) (by rw [szLine_eq]; have := p.c6; omega)
    unfold compF
    apply noEx_ok
    have : ixV (V c) (inV 0) = pure (stV c.fg.x) := rfl
    simp only [V] at this
    simp [this]
  have rz := rises_lst (k := k + 1) t.rn (fun x hx => by
    obtain ⟨z, hz, rfl⟩ := List.mem_map.mp hx
    exact wd_ok (t.nm z hz).wd) (by rw [List.length_map]; have := p.z8; omega)
  have rc := rises_lst (k := k + 1) t.rf (fun x hx => by
    obtain ⟨c, hc, rfl⟩ := List.mem_map.mp hx
    exact wd_ok (t.fg c hc).wd) (by rw [List.length_map]; have := p.c6; omega)
  rw [List.map_map] at rz rc
  have rz : pureRun (Phi fns (k + 2) 6 [liV (P.zs.map fun z => .str z.nm.x)]) = pure (blV true) := rz
  have rc : pureRun (Phi fns (k + 2) 6 [liV (P.cs.map fun c => .str c.fg.x)]) = pure (blV true) := rc
  rw [exb_cons, run_bd]
  simp [-exb_cons, -compL_TT, -compF_eq, hnz, hnc, rz, rc]
  (rw [exb_cons, run_bd]; simp [-exb_cons, g2])
end
end Dt

/-! TxG: the texts of plans and houses. -/
namespace Dt
open PySem Dw
/-! ### a plan's text -/
def znW (z : Zn) : List D := [.str "zone", Enc.e z.nm, Enc.e z.kd]
def cdW (c : Cd) : List D := [.str "code", Enc.e c.fg, Enc.e c.who, .int c.us] ++ c.rts.map Enc.e
def planW (P : Plan) : List (List D) := [.str "times", .int P.lv, .int P.cm, .int P.ld] :: (P.zs.map znW ++ P.cs.map cdW)
def planT (P : Plan) : Str := linesD (planW P)
theorem Wok.i {i : Int} (h0 : 0 ≤ i) (h1 : i ≤ 1000000) : Wok (.int i) := by
  obtain ⟨m, rfl⟩ := Int.eq_ofNat_of_zero_le h0
  exact .n m (by have : (10 : Nat) ^ 10 = 10000000000 := by decide
                 omega)
theorem wok_lit {x : Str} (h : (decide (x.length ≤ 20) && x.cps.toList.all fun c => c != 32 && c != 10 && decide (c < 1114112)) = true) : Wok (.str x) := .t _ (wd_lit h)
theorem wok_Kd (w : Kd) : Wok (Enc.e w) := by cases w <;> exact .t _ (wd_lit (by decide +kernel))
section
variable {P : Plan}
theorem planW_ok (p : GoodP P) (t : TPl P) : ∀ ws ∈ planW P, LnOk ws := by
  intro ws hws
  unfold planW at hws
  simp only [List.mem_cons, List.mem_append, List.mem_map] at hws
  rcases hws with rfl | ⟨z, hz, rfl⟩ | ⟨c, hc, rfl⟩
  · refine ⟨fun w hw => ?_, by simp⟩
    simp only [List.mem_cons, List.not_mem_nil, or_false] at hw
    rcases hw with rfl | rfl | rfl | rfl
    · exact wok_lit (by decide +kernel)
    · exact Wok.i p.lv (by have := p.lv1; omega)
    · exact Wok.i p.cm (by have := p.cm1; omega)
    · exact Wok.i (by have := p.ld; omega) (by have := p.ld1; omega)
  · refine ⟨fun w hw => ?_, by simp [znW]⟩
    simp only [znW, List.mem_cons, List.not_mem_nil, or_false] at hw
    rcases hw with rfl | rfl | rfl
    · exact wok_lit (by decide +kernel)
    · exact .t _ (t.nm z hz).wd
    · exact wok_Kd _
  · refine ⟨fun w hw => ?_, by have := (t.rt c hc).1; simp [cdW]; omega⟩
    simp only [cdW, List.mem_append, List.mem_cons, List.not_mem_nil, or_false, List.mem_map] at hw
    rcases hw with (rfl | rfl | rfl | rfl) | ⟨d, hd, rfl⟩
    · exact wok_lit (by decide +kernel)
    · exact .t _ (t.fg c hc).wd
    · exact .t _ (t.wh c hc).wd
    · exact Wok.i (t.us c hc).1 (by have := (t.us c hc).2; omega)
    · exact wok_Dd _
theorem planText_call {k : Nat} (p : GoodP P) (t : TPl P) : pureRun (Phi fns (k + 2) 182 [V P]) = pure (stV (planT P)) := by
  have hl := lines_call (k := k) (L := planW P) (planW_ok p t) (by have := p.z8; have := p.c6; simp [planW]; omega)
  have hz8 := p.z8
  have hc6 := p.c6
  refine pureRun_eq (s' := [.dead]) ?_
  rw [run_of (F := f_plan_text) rfl rfl, leave_bd]
  simp only [b_plan_text, f_plan_text, enter]
  have eE : (V P : Vl) = tuV [.tuple (P.zs.map Enc.e), .tuple (P.cs.map Enc.e), .tuple [.int P.lv, .int P.cm, .int P.ld]] := rfl
  rw [eE]
  have hcz : ∀ v0 v1 v4 v5 v6 v7 s, compL (compF (Phi fns (k + 1)) (.tp (.cons (.nm 2) (.cons (.nm 3) .nil))) .no (.tup (.cons (.glb "ZONE" (.str "zone")) (.cons (.var 2) (.cons (.var 3) .nil)))) [v0, v1, none, none, v4, v5, v6, v7]) (P.zs.map (Vl.d ∘ Enc.e)) [] s = .ok (P.zs.map fun z => .tuple (znW z)) s := fun v0 v1 v4 v5 v6 v7 s => by
    refine compL_map (h := Vl.d ∘ Enc.e) (g := fun z => .tuple (znW z)) P.zs (fun z hz => ?_) (by rw [szLine_eq]; omega)
    unfold compF
    apply noEx_ok
    have : (Vl.d (Enc.e z) : Vl) = tuV [Enc.e z.nm, Enc.e z.kd] := rfl
    simp [this, szLine_eq]
    rfl
  have hcc : ∀ v0 v1 v2 v3 s, compL (compF (Phi fns (k + 1)) (.tp (.cons (.nm 4) (.cons (.nm 5) (.cons (.nm 6) (.cons (.nm 7) .nil))))) .no (.bin .Add (.tup (.cons (.glb "CODE" (.str "code")) (.cons (.var 4) (.cons (.var 5) (.cons (.var 7) .nil))))) (.var 6)) [v0, v1, v2, v3, none, none, none, none]) (P.cs.map (Vl.d ∘ Enc.e)) [] s = .ok (P.cs.map fun c => .tuple (cdW c)) s := fun v0 v1 v2 v3 s => by
    refine compL_map (h := Vl.d ∘ Enc.e) (g := fun c => .tuple (cdW c)) P.cs (fun c hc => ?_) (by rw [szLine_eq]; omega)
    unfold compF
    apply noEx_ok
    have : (Vl.d (Enc.e c) : Vl) = tuV [Enc.e c.fg, Enc.e c.who, .tuple (c.rts.map Enc.e), .int c.us] := rfl
    have h3 := (t.rt c hc).1
    have hb : 4 + c.rts.length ≤ 16777216 := by omega
    simp [this, szLine_eq, hb]
    rfl
  (rw [exb_cons, run_bd]; simp [-exb_cons])
  obtain ⟨L1, hL1⟩ : ∃ L1 : List D, L1 = [.tuple [.str "times", .int P.lv, .int P.cm, .int P.ld]] := ⟨_, rfl⟩
  have hl1 : L1.length = 1 := by rw [hL1]; rfl
  obtain ⟨Z, hZ⟩ : ∃ Z : List D, Z = P.zs.map fun z => .tuple (znW z) := ⟨_, rfl⟩
  obtain ⟨C, hC⟩ : ∃ C : List D, C = P.cs.map fun c => .tuple (cdW c) := ⟨_, rfl⟩
  have lZ : Z.length ≤ 8 := by rw [hZ, List.length_map]; exact hz8
  have lC : C.length ≤ 6 := by rw [hC, List.length_map]; exact hc6
  have mt1 := mtTy_run (t := [Ob.lst L1]) (i := 0) rfl
  have ex1 := ext_run (t := [Ob.lst L1]) (i := 0) (ys := Z) rfl (by rw [szLine_eq]; omega)
  have mt2 := mtTy_run (t := [Ob.lst (L1 ++ Z)]) (i := 0) rfl
  have ex2 := ext_run (t := [Ob.lst (L1 ++ Z)]) (i := 0) (ys := C) rfl (by rw [szLine_eq, List.length_append]; omega)
  have fz := frz_run (t := [Ob.lst (L1 ++ Z ++ C)]) (i := 0) rfl
  have hW : (planW P).map PyData.tuple = L1 ++ Z ++ C := by rw [hL1, hZ, hC]; simp [planW]; rfl
  rw [hW] at hl
  rw [← hZ] at hcz
  rw [← hC] at hcc
  have ex1 : mt .extend (.o 0) [liV Z] [Ob.lst L1] = .ok nonV [Ob.lst (L1 ++ Z)] := ex1
  have ex2 : mt .extend (.o 0) [liV C] [Ob.lst (L1 ++ Z)] = .ok nonV [Ob.lst (L1 ++ Z ++ C)] := ex2
  have fz : frzV (.o 0) [Ob.lst (L1 ++ Z ++ C)] = .ok (liV (L1 ++ Z ++ C)) [.dead] := fz
  have e1 : ([Ob.lst [PyData.tuple [PyData.str (Str.ofString "times"), PyData.int P.lv, PyData.int P.cm, PyData.int P.ld]]] : Sto) = [Ob.lst L1] := by rw [hL1]
  rw [e1]
  generalize L1 ++ Z ++ C = LL at hl ex2 fz
  rw [exb_cons, run_bd]
  simp [-exb_cons, -compL_TT, -compF_eq, mt1, hcz, ex1]
  rw [exb_cons, run_bd]
  simp [-exb_cons, -compL_TT, -compF_eq, mt2, hcc, ex2]
  rw [exb_cons, run_bd]
  simp [-exb_cons, fz, hl]
  rfl
end
/-! ### a house's text -/
def zwD : Option Tx → D
  | none => .str "-"
  | some z => Enc.e z
def opW (o : Opn) : List D := [.int o.a, .int o.b, zwD o.z]
def houseW (H : Hs) : List (List D) := [.str "rooms", .int H.R] :: H.os.map opW
def houseT (H : Hs) : Str := linesD (houseW H)
structure TH (H : Hs) : Prop where
  z : ∀ o ∈ H.os, ∀ y, o.z = some y → NmOk y.x
theorem zw_wok {z : Option Tx} (h : ∀ y, z = some y → NmOk y.x) : Wok (zwD z) := by
  cases z with
  | none => exact wok_lit (by decide +kernel)
  | some y => exact .t _ (h y rfl).wd
theorem houseW_ok {H : Hs} (g : GoodH H) (t : TH H) : ∀ ws ∈ houseW H, LnOk ws := by
  intro ws hws
  have r1 := g.r1
  have r7 := g.r7
  simp only [houseW, List.mem_cons, List.mem_map] at hws
  rcases hws with rfl | ⟨o, ho, rfl⟩
  · refine ⟨fun w hw => ?_, by simp⟩
    simp only [List.mem_cons, List.not_mem_nil, or_false] at hw
    rcases hw with rfl | rfl
    · exact wok_lit (by decide +kernel)
    · exact Wok.i (by omega) (by omega)
  · have := g.o o ho
    refine ⟨fun w hw => ?_, by simp [opW]⟩
    simp only [opW, List.mem_cons, List.not_mem_nil, or_false] at hw
    rcases hw with rfl | rfl | rfl
    · exact Wok.i (by omega) (by omega)
    · exact Wok.i (by omega) (by omega)
    · exact zw_wok (t.z o ho)
theorem zoneWord_call {k : Nat} (z : Option Tx) : pureRun (Phi fns (k + 1) 183 [V z]) = pure (.d (zwD z)) := by
  refine pureRun_eq (s' := []) ?_
  rw [run_of (F := f_zone_word) rfl rfl, leave_bd]
  simp only [b_zone_word, f_zone_word, enter]
  cases z with
  | none =>
    (rw [exb_cons, run_bd]; simp [-exb_cons])
    rfl
  | some y =>
    (rw [exb_cons, run_bd]; simp [-exb_cons])
    (rw [exb_cons, run_bd]; simp [-exb_cons])
    rfl
theorem houseText_call {k : Nat} {H : Hs} (g : GoodH H) (t : TH H) : pureRun (Phi fns (k + 2) 184 [V H]) = pure (stV (houseT H)) := by
  have o10 := g.o10
  have hl := lines_call (k := k) (L := houseW H) (houseW_ok g t) (by simp [houseW]; omega)
  refine pureRun_eq (s' := [.dead]) ?_
  rw [run_of (F := f_house_text) rfl rfl, leave_bd]
  simp only [b_house_text, f_house_text, enter]
  obtain ⟨L1, hL1⟩ : ∃ L1 : List D, L1 = [.tuple [.str "rooms", .int H.R]] := ⟨_, rfl⟩
  have hl1 : L1.length = 1 := by rw [hL1]; rfl
  obtain ⟨Z, hZ⟩ : ∃ Z : List D, Z = H.os.map fun o => .tuple (opW o) := ⟨_, rfl⟩
  have lZ : Z.length ≤ 10 := by rw [hZ, List.length_map]; exact o10
  have hc : ∀ v0 v1 s, compL (compF (Phi fns (k + 1)) (.tp (.cons (.nm 2) (.cons (.nm 3) (.cons (.nm 4) .nil)))) .no (.tup (.cons (.var 2) (.cons (.var 3) (.cons (.call true 183 (.cons (.var 4) .nil)) .nil)))) [v0, v1, none, none, none]) (H.os.map (Vl.d ∘ Enc.e)) [] s = .ok (H.os.map fun o => .tuple (opW o)) s := fun v0 v1 s => by
    refine compL_map (h := Vl.d ∘ Enc.e) (g := fun o => .tuple (opW o)) H.os (fun o ho => ?_) (by rw [szLine_eq]; omega)
    unfold compF
    apply noEx_ok
    have hz := zoneWord_call (k := k) o.z
    have : (Vl.d (Enc.e o) : Vl) = tuV [.int o.a, .int o.b, Enc.e o.z] := rfl
    simp only [V] at hz
    simp [this, szLine_eq, hz]
    rfl
  rw [← hZ] at hc
  have mt1 := mtTy_run (t := [Ob.lst L1]) (i := 0) rfl
  have ex1 : mt .extend (.o 0) [liV Z] [Ob.lst L1] = .ok nonV [Ob.lst (L1 ++ Z)] := ext_run (t := [Ob.lst L1]) (i := 0) (ys := Z) rfl (by rw [szLine_eq]; omega)
  have fz : frzV (.o 0) [Ob.lst (L1 ++ Z)] = .ok (liV (L1 ++ Z)) [.dead] := frz_run (t := [Ob.lst (L1 ++ Z)]) (i := 0) rfl
  have hW : (houseW H).map PyData.tuple = L1 ++ Z := by rw [hL1, hZ]; simp [houseW]
  rw [hW] at hl
  have e1 : ([Ob.lst [PyData.tuple [PyData.str (Str.ofString "rooms"), PyData.int H.R]]] : Sto) = [Ob.lst L1] := by rw [hL1]
  generalize L1 ++ Z = LL at hl ex1 fz
  (rw [exb_cons, run_bd]; simp [-exb_cons])
  rw [e1]
  rw [exb_cons, run_bd]
  simp [-exb_cons, -compL_TT, -compF_eq, mt1, hc, ex1]
  rw [exb_cons, run_bd]
  simp [-exb_cons, fz, hl]
  rfl
end Dt

/-! TxH: drawn plans and houses. -/
namespace Dt
open PySem Dw
theorem rts_ok (d : Int) : (rtsOf d).length ≤ 3 ∧ Rise ((rtsOf d).map ddS) ∧ ∀ x ∈ rtsOf d, x ≠ .free := by
  have key : ∀ b1 b2 b3 : Bool, (((if b1 then [Dd.set] else []) ++ (if b2 then [Dd.shunt] else []) ++ (if b3 then [Dd.unset] else [])) : List Dd).length ≤ 3 ∧ Rise ((((if b1 then [Dd.set] else []) ++ (if b2 then [Dd.shunt] else []) ++ (if b3 then [Dd.unset] else [])) : List Dd).map ddS) ∧ ∀ x ∈ (((if b1 then [Dd.set] else []) ++ (if b2 then [Dd.shunt] else []) ++ (if b3 then [Dd.unset] else [])) : List Dd), x ≠ .free := by
    unfold Rise
    decide +kernel
  have := key (decide (d / 4 % 4 > 0)) (decide (d / 16 % 4 > 0)) (decide (d / 64 % 4 > 0))
  simp only [decide_eq_true_eq] at this
  exact this
theorem planOf_tpl (n : Int) : TPl (planOf n) where
  nm := fun z hz => by
    have h : z.nm ∈ names8 := (names_sub n).subset (List.mem_map.mpr ⟨z, hz, rfl⟩)
    have key : ∀ z ∈ names8, NmOk z.x := fun z hz => by
      simp only [names8, List.mem_cons, List.not_mem_nil, or_false] at hz
      rcases hz with rfl | rfl | rfl | rfl | rfl | rfl | rfl | rfl <;> exact nm_lit (by decide +kernel)
    exact key _ h
  rn := by
    have h := (names_sub n).map Tx.x
    have e : (planOf n).names.map Tx.x = (planOf n).zs.map fun z => z.nm.x := by unfold Plan.names; rw [List.map_map]; rfl
    rw [e] at h
    refine List.Pairwise.sublist h ?_
    unfold names8
    decide +kernel
  fg := (planOf_text n).fg
  wh := fun c hc => by
    obtain ⟨p, _, e⟩ := List.mem_filterMap.mp hc
    unfold codeAtN at e
    dsimp only at e
    split at e
    · cases e
      have h := pick_mem whos3 (tx "cy") (drawn n (10 + p.2) / 4 / 256) (by decide)
      dsimp only
      generalize pick whos3 (tx "cy") (drawn n (10 + p.2) / 4 / 256) = w at h
      simp only [whos3, List.mem_cons, List.not_mem_nil, or_false] at h
      rcases h with rfl | rfl | rfl <;> exact nm_lit (by decide +kernel)
    · cases e
  rt := fun c hc => by
    obtain ⟨p, _, e⟩ := List.mem_filterMap.mp hc
    unfold codeAtN at e
    dsimp only at e
    split at e
    · cases e
      exact rts_ok _
    · cases e
  us := fun c hc => by
    obtain ⟨p, _, e⟩ := List.mem_filterMap.mp hc
    unfold codeAtN at e
    dsimp only at e
    split at e
    · cases e
      have h := pick_mem uses5 9 (drawn n (10 + p.2) / 4 / 1024) (by decide)
      dsimp only
      generalize pick uses5 9 (drawn n (10 + p.2) / 4 / 1024) = w at h
      simp [uses5] at h
      omega
    · cases e
  rf := by
    have h := (figs_sub n).map Tx.x
    rw [List.map_map] at h
    refine List.Pairwise.sublist h ?_
    unfold figs6
    decide +kernel
end Dt

/-! TxI: plans and houses read. -/
namespace Dt
open PySem Dw
theorem numI_call {k : Nat} {i : Int} (h0 : 0 ≤ i) (h1 : i ≤ 1000000) : pureRun (Phi fns (k + 2) 160 [stV (wS (.int i))]) = pure (inV i) := by
  obtain ⟨m, rfl⟩ := Int.eq_ofNat_of_zero_le h0
  exact number_call (by have : (10 : Nat) ^ 10 = 10000000000 := by decide
                        omega)
def timL (P : Plan) : List D := [.str "times", .str (wS (.int P.lv)), .str (wS (.int P.cm)), .str (wS (.int P.ld))]
def znL (z : Zn) : List D := [.str "zone", Enc.e z.nm, Enc.e z.kd]
def cdL (c : Cd) : List D := [.str "code", Enc.e c.fg, Enc.e c.who, .str (wS (.int c.us))] ++ c.rts.map Enc.e
def ipL : Zn ⊕ Cd → D
  | .inl z => .list (znL z)
  | .inr c => .list (cdL c)
def ipA (P : Plan) : List (Zn ⊕ Cd) := P.zs.map .inl ++ P.cs.map .inr
def zsOf (l : List (Zn ⊕ Cd)) : List Zn := l.filterMap Sum.getLeft?
def csOf (l : List (Zn ⊕ Cd)) : List Cd := l.filterMap Sum.getRight?
section
variable {P : Plan}
theorem zsOf_A : zsOf (ipA P) = P.zs := by
  unfold zsOf ipA
  rw [List.filterMap_append, List.filterMap_map, List.filterMap_map]
  have h1 : P.zs.filterMap (Sum.getLeft? ∘ (Sum.inl : Zn → Zn ⊕ Cd)) = P.zs := by rw [show (Sum.getLeft? ∘ (Sum.inl : Zn → Zn ⊕ Cd)) = some from rfl, List.filterMap_some]
  have h2 : P.cs.filterMap (Sum.getLeft? ∘ (Sum.inr : Cd → Zn ⊕ Cd)) = [] := by rw [List.filterMap_eq_nil_iff]; intro a _; rfl
  rw [h1, h2, List.append_nil]
theorem csOf_A : csOf (ipA P) = P.cs := by
  unfold csOf ipA
  rw [List.filterMap_append, List.filterMap_map, List.filterMap_map]
  have h1 : P.cs.filterMap (Sum.getRight? ∘ (Sum.inr : Cd → Zn ⊕ Cd)) = P.cs := by rw [show (Sum.getRight? ∘ (Sum.inr : Cd → Zn ⊕ Cd)) = some from rfl, List.filterMap_some]
  have h2 : P.zs.filterMap (Sum.getRight? ∘ (Sum.inl : Zn → Zn ⊕ Cd)) = [] := by rw [List.filterMap_eq_nil_iff]; intro a _; rfl
  rw [h1, h2, List.nil_append]
theorem rts_S (l : List Dd) : (l.map Enc.e : List D).map (PyData.str ∘ wS) = l.map Enc.e := by
  rw [List.map_map]
  refine List.map_congr_left fun d _ => ?_
  show PyData.str (wS (Enc.e d)) = Enc.e d
  rw [e_ddS]
  rfl
theorem planL (P : Plan) : ((planW P).map fun ws => ws.map wS).map (fun ws => PyData.list (ws.map .str)) = .list (timL P) :: (ipA P).map ipL := by
  have ez : ∀ z : Zn, PyData.list (((znW z).map wS).map .str) = ipL (.inl z) := fun z => by
    show PyData.list [.str "zone", .str z.nm.x, .str (wS (Enc.e z.kd))] = PyData.list [.str "zone", Enc.e z.nm, Enc.e z.kd]
    rw [e_kdS]
    rfl
  have ec : ∀ c : Cd, PyData.list (((cdW c).map wS).map .str) = ipL (.inr c) := fun c => by
    unfold cdW ipL cdL
    rw [List.map_map, List.map_append, rts_S]
    rfl
  have hz : P.zs.map ((fun ws => PyData.list (ws.map PyData.str)) ∘ (fun ws => ws.map wS) ∘ znW) = P.zs.map (ipL ∘ Sum.inl) := List.map_congr_left fun z _ => ez z
  have hc : P.cs.map ((fun ws => PyData.list (ws.map PyData.str)) ∘ (fun ws => ws.map wS) ∘ cdW) = P.cs.map (ipL ∘ Sum.inr) := List.map_congr_left fun c _ => ec c
  unfold planW ipA
  simp only [List.map_cons, List.map_append, List.map_map]
  rw [hz, hc]
  rfl
theorem planT_eq : planT P = linesS ((planW P).map fun ws => ws.map wS) := rfl
theorem planWS (p : GoodP P) (t : TPl P) : ∀ ws ∈ (planW P).map (fun ws => ws.map wS), (∀ w ∈ ws, WdOk w) ∧ ws.length ≤ 10 ∧ ws ≠ [] := by
  intro ws hws
  obtain ⟨l, hl, rfl⟩ := List.mem_map.mp hws
  have h := planW_ok p t l hl
  refine ⟨fun w hw => ?_, by rw [List.length_map]; exact h.2, fun e => ?_⟩
  · obtain ⟨d, hd, rfl⟩ := List.mem_map.mp hw
    exact (h.1 d hd).ok
  · have e := List.map_eq_nil_iff.mp e
    subst e
    simp [planW, znW, cdW] at hl
theorem planT_ok (p : GoodP P) (t : TPl P) : strOk (planT P) = true := by
  rw [planT_eq]
  exact lines_strOk fun ws hws => (planWS p t ws hws).1
theorem readPlan_call {k : Nat} (p : GoodP P) (t : TPl P) : pureRun (Phi fns (k + 4) 185 [stV (planT P)]) = pure (V P) := by
  have hz8 := p.z8
  have hc6 := p.c6
  have hlo := linesOf_call (k := k + 1) (planWS p t) (by have := p.z8; have := p.c6; simp [planW]; omega)
  rw [← planT_eq, planL] at hlo
  have hpt := planText_call (k := k + 1) p t
  have hip := isPlan_call (k := k) p t
  have hnd := need_call (k := k + 2)
  have hso := planT_ok p t
  generalize planT P = x at hlo hpt hso ⊢
  have n1 := numI_call (k := k + 1) (i := P.lv) p.lv (by have := p.lv1; omega)
  have n2 := numI_call (k := k + 1) (i := P.cm) p.cm (by have := p.cm1; omega)
  have n3 := numI_call (k := k + 1) (i := P.ld) (by have := p.ld; omega) (by have := p.ld1; omega)
  refine pureRun_eq (s' := []) ?_
  rw [run_of (F := f_read_plan) rfl rfl, leave_bd]
  simp only [b_read_plan, f_read_plan, enter]
  obtain ⟨A, hA⟩ : ∃ A, A = (ipA P).map ipL := ⟨_, rfl⟩
  rw [← hA] at hlo
  (rw [exb_cons, run_bd]; simp [-exb_cons, hlo])
  unfold timL
  have hp1 : (0 : Int) < (A.length : Int) + 1 := by omega
  (rw [exb_cons, run_bd]; simp [-exb_cons, shp_okB, hnd, hp1])
  generalize hs1 : wS (.int P.lv) = s1 at n1 ⊢
  generalize hs2 : wS (.int P.cm) = s2 at n2 ⊢
  generalize hs3 : wS (.int P.ld) = s3 at n3 ⊢
  rw [exb_cons, run_bd]
  simp [-exb_cons, compL, n1, n2, n3, szLine_eq]
  (rw [exb_cons, run_bd]; simp [-exb_cons])
  (rw [exb_cons, run_bd]; simp [-exb_cons])
  rw [exb_cons, run_bd]
  simp [-exb_cons, hA]
  obtain ⟨v1, hv1⟩ : ∃ v1 : Vl, v1 = liV (PyData.list [.str (Str.ofString "times"), .str s1, .str s2, .str s3] :: (ipA P).map ipL) := ⟨_, rfl⟩
  obtain ⟨v2, hv2⟩ : ∃ v2 : Vl, v2 = tuV [.int P.lv, .int P.cm, .int P.ld] := ⟨_, rfl⟩
  have hAl : (ipA P).length ≤ 14 := by unfold ipA; simp; omega
  have hv2' : (Vl.d (PyData.tuple [.int P.lv, .int P.cm, .int P.ld])) = v2 := hv2.symm
  rw [← hv1, ← hv2]
  refine for_nx_eq (fun pre e t => t = [] ∧ ∃ v5, e = [some (stV x), some v1, some v2, some (tuV ((zsOf pre).map Enc.e)), some (tuV ((csOf pre).map Enc.e)), v5, none, none]) ⟨rfl, _, rfl⟩ ?_ ?_
  · rintro pre a post e t hx ⟨rfl, v5, rfl⟩
    have hpl := congrArg List.length hx
    simp at hpl
    have lz : (zsOf pre).length ≤ pre.length := List.length_filterMap_le _ _
    have lc : (csOf pre).length ≤ pre.length := List.length_filterMap_le _ _
    have ham : a ∈ ipA P := by rw [hx]; simp
    have hzz : (zsOf pre).length ≤ 16777215 := by omega
    have hcz : (csOf pre).length ≤ 16777215 := by omega
    cases a with
    | inl z =>
      have e1 : zsOf (pre ++ [.inl z]) = zsOf pre ++ [z] := by unfold zsOf; rw [List.filterMap_append]; rfl
      have e2 : csOf (pre ++ [.inl z]) = csOf pre := by unfold csOf; rw [List.filterMap_append]; simp
      have e3 : (Enc.e z : D) = .tuple [Enc.e z.nm, Enc.e z.kd] := rfl
      rw [e1, e2]
      simp only [l1_read_plan, Function.comp, ipL, znL]
      simp [shp_okB, hzz, e3]
    | inr c =>
      have hcm : c ∈ P.cs := by
        unfold ipA at ham
        simpa using ham
      have e1 : zsOf (pre ++ [.inr c]) = zsOf pre := by unfold zsOf; rw [List.filterMap_append]; simp
      have e2 : csOf (pre ++ [.inr c]) = csOf pre ++ [c] := by unfold csOf; rw [List.filterMap_append]; rfl
      have e3 : (Enc.e c : D) = .tuple [Enc.e c.fg, Enc.e c.who, .tuple (c.rts.map Enc.e), .int c.us] := rfl
      have nu := numI_call (k := k + 1) (i := c.us) (t.us c hcm).1 (by have := (t.us c hcm).2; omega)
      rw [e1, e2]
      have h4 : (4 : Int) ≤ (c.rts.length : Int) + 1 + 1 + 1 + 1 := by omega
      simp only [l1_read_plan, Function.comp, ipL, cdL]
      generalize wS (.int c.us) = su at nu ⊢
      simp [shp_okB, hcz, e3, nu, hnd, h4]
  · rintro e t ⟨rfl, v5, rfl⟩
    rw [zsOf_A, csOf_A]
    have eP : (Vl.d (PyData.tuple [.tuple (P.zs.map Enc.e), .tuple (P.cs.map Enc.e), .tuple [.int P.lv, .int P.cm, .int P.ld]]) : Vl) = V P := rfl
    simp only [aft_nx, hv2]
    (rw [exb_cons, run_bd]; simp [-exb_cons, eP])
    simp only [V] at hip hpt
    (rw [exb_cons, run_bd]; simp [-exb_cons, hip, hpt, shp_okB, hso, hnd])
    (rw [exb_cons, run_bd]; simp [-exb_cons])
end
/-! ### houses -/
section
variable {H : Hs}
def opL (o : Opn) : List D := [.str (wS (.int o.a)), .str (wS (.int o.b)), zwD o.z]
theorem houseL (H : Hs) : ((houseW H).map fun ws => ws.map wS).map (fun ws => PyData.list (ws.map .str)) = .list [.str "rooms", .str (wS (.int H.R))] :: H.os.map fun o => .list (opL o) := by
  have eo : ∀ o : Opn, PyData.list (((opW o).map wS).map .str) = .list (opL o) := fun o => by
    unfold opW opL
    cases o.z <;> rfl
  have ho : H.os.map ((fun ws => PyData.list (ws.map PyData.str)) ∘ (fun ws => ws.map wS) ∘ opW) = H.os.map fun o => .list (opL o) := List.map_congr_left fun o _ => eo o
  unfold houseW
  simp only [List.map_cons, List.map_map]
  rw [ho]
  rfl
theorem houseT_eq : houseT H = linesS ((houseW H).map fun ws => ws.map wS) := rfl
theorem houseWS (g : GoodH H) (t : TH H) : ∀ ws ∈ (houseW H).map (fun ws => ws.map wS), (∀ w ∈ ws, WdOk w) ∧ ws.length ≤ 10 ∧ ws ≠ [] := by
  intro ws hws
  obtain ⟨l, hl, rfl⟩ := List.mem_map.mp hws
  have h := houseW_ok g t l hl
  refine ⟨fun w hw => ?_, by rw [List.length_map]; exact h.2, fun e => ?_⟩
  · obtain ⟨d, hd, rfl⟩ := List.mem_map.mp hw
    exact (h.1 d hd).ok
  · have e := List.map_eq_nil_iff.mp e
    subst e
    simp [houseW, opW] at hl
theorem houseT_ok (g : GoodH H) (t : TH H) : strOk (houseT H) = true := by
  rw [houseT_eq]
  exact lines_strOk fun ws hws => (houseWS g t ws hws).1
theorem isOpening_call {k : Nat} {o : Opn} (ho : 0 ≤ o.a ∧ o.a < o.b ∧ o.b ≤ H.R) (hz : ∀ y, o.z = some y → NmOk y.x) : pureRun (Phi fns (k + 2) 33 [V o, inV H.R]) = pure (blV true) := by
  refine pureRun_eq (s' := []) ?_
  rw [run_of (F := f_is_opening) rfl rfl, leave_bd]
  simp only [b_is_opening, f_is_opening, enter]
  have h1 : pureRun (Phi fns (k + 1) 2 [tuV [.int o.a, .int o.b, Enc.e o.z], inV 3]) = pure (blV true) := isRow_call (k := k) _
  have h2 := isWhole_call (k := k) (i := o.a) (lo := 0) (hi := H.R) ⟨ho.1, by omega⟩
  have h3 := isWhole_call (k := k) (i := o.b) (lo := 0) (hi := H.R) ⟨by omega, ho.2.2⟩
  have eE : (V o : Vl) = tuV [.int o.a, .int o.b, Enc.e o.z] := rfl
  have hlt := ho.2.1
  rw [eE]
  (rw [exb_cons, run_bd]; simp [-exb_cons, h1, h2, h3])
  cases e : o.z with
  | none =>
    rw [exb_cons, run_bd]
    simp [-exb_cons, ltB, dlt, shp_okB, hlt]
  | some y =>
    have h4 := isName_call (k := k) (hz y e)
    have h4 : pureRun (Phi fns (k + 1) 4 [.d (Enc.e y)]) = pure (blV true) := h4
    rw [exb_cons, run_bd]
    simp [-exb_cons, ltB, dlt, shp_okB, hlt, h4]
theorem isHouse_call {k : Nat} (g : GoodH H) (t : TH H) : pureRun (Phi fns (k + 3) 34 [V H]) = pure (blV true) := by
  have o10 := g.o10
  have hc : ∀ v0, v0 = some (.d (Enc.e H)) → compL (compF (Phi fns (k + 2)) (.nm 1) .no (.call true 33 (.cons (.var 1) (.cons (.ix (.var 0) (.int 0)) .nil))) [v0, none]) (H.os.map (Vl.d ∘ Enc.e)) [] [] = .ok (H.os.map fun _ => .bool true) [] := fun v0 e => by
    subst e
    refine compL_map (h := Vl.d ∘ Enc.e) (g := fun _ => .bool true) H.os (fun o ho => ?_) (by rw [szLine_eq]; omega)
    have := isOpening_call (k := k) (H := H) (g.o o ho) (t.z o ho)
    unfold compF
    apply noEx_ok
    simp only [V] at this
    simp [this]
  have hc := hc _ rfl
  have hal := all_tt H.os
  refine pureRun_eq (s' := []) ?_
  rw [run_of (F := f_is_house) rfl rfl, leave_bd]
  simp only [b_is_house, f_is_house, enter]
  have h1 : pureRun (Phi fns (k + 2) 2 [.d (Enc.e H), inV 2]) = pure (blV true) := isRow_call (k := k + 1) [.int H.R, .tuple (H.os.map Enc.e)]
  have h2 := isWhole_call (k := k + 1) (i := H.R) (lo := 1) (hi := 7) ⟨g.r1, g.r7⟩
  have o10i : (H.os.length : Int) ≤ 10 := by omega
  (rw [exb_cons, run_bd]; simp [-exb_cons, h1, h2])
  rw [exb_cons, run_bd]
  simp [-exb_cons, -compL_TT, -compF_eq, o10i, hc, hal]
theorem openingOf_call {k : Nat} {o : Opn} (h0 : 0 ≤ o.a ∧ o.a ≤ 1000000) (h1 : 0 ≤ o.b ∧ o.b ≤ 1000000) (hz : ∀ y, o.z = some y → NmOk y.x) : pureRun (Phi fns (k + 3) 186 [liV (opL o)]) = pure (V o) := by
  refine pureRun_eq (s' := []) ?_
  rw [run_of (F := f_opening_of) rfl rfl, leave_bd]
  simp only [b_opening_of, f_opening_of, enter]
  have n1 := numI_call (k := k) (i := o.a) h0.1 h0.2
  have n2 := numI_call (k := k) (i := o.b) h1.1 h1.2
  have hnd := need_call (k := k + 1)
  have eE : (Vl.d (Enc.e o) : Vl) = tuV [.int o.a, .int o.b, Enc.e o.z] := rfl
  rw [eE]
  unfold opL
  generalize wS (.int o.a) = sa at n1 ⊢
  generalize wS (.int o.b) = sb at n2 ⊢
  (rw [exb_cons, run_bd]; simp [-exb_cons, shp_okB, hnd])
  cases e : o.z with
  | none =>
    unfold zwD
    (rw [exb_cons, run_bd]; simp [-exb_cons])
    (rw [exb_cons, run_bd]; simp [-exb_cons, shp_okB])
    (rw [exb_cons, run_bd]; simp [-exb_cons, n1, n2])
    (rw [exb_cons, run_bd]; simp [-exb_cons, n1, n2])
  | some y =>
    have hy := hz y e
    have hne : PyData.eqv (Enc.e y) (.str "-") = false := by
      have e1 : PyData.eqv (Enc.e y) (.str "-") = decide (y.x = "-") := by show PyData.eqv (.str y.x) (.str "-") = _; simp [BEq.beq]
      rw [e1, decide_eq_false_iff_not]
      intro e2
      have := hy.c 45 (by rw [e2]; decide +kernel)
      omega
    unfold zwD
    (rw [exb_cons, run_bd]; simp [-exb_cons])
    (rw [exb_cons, run_bd]; simp [-exb_cons, shp_okB, hne])
    (rw [exb_cons, run_bd]; simp [-exb_cons, n1, n2])
theorem readHouse_call {k : Nat} (g : GoodH H) (t : TH H) : pureRun (Phi fns (k + 4) 187 [stV (houseT H)]) = pure (V H) := by
  have o10 := g.o10
  have r1 := g.r1
  have r7 := g.r7
  have hlo := linesOf_call (k := k + 1) (houseWS g t) (by simp [houseW]; omega)
  rw [← houseT_eq, houseL] at hlo
  have hpt := houseText_call (k := k + 1) g t
  have hip := isHouse_call (k := k) g t
  have hnd := need_call (k := k + 2)
  have hso := houseT_ok g t
  generalize houseT H = x at hlo hpt hso ⊢
  have n1 := numI_call (k := k + 1) (i := H.R) (by omega) (by omega)
  have hc : ∀ v0 v1 v2, compL (compF (Phi fns (k + 3)) (.nm 3) .no (.call true 186 (.cons (.var 3) .nil)) [v0, v1, v2, none]) (H.os.map fun o => liV (opL o)) [] [] = .ok (H.os.map Enc.e) [] := fun v0 v1 v2 => by
    refine compL_map (h := fun o => liV (opL o)) (g := Enc.e) H.os (fun o ho => ?_) (by rw [szLine_eq]; omega)
    have hb := g.o o ho
    have := openingOf_call (k := k) (o := o) ⟨by omega, by omega⟩ ⟨by omega, by omega⟩ (t.z o ho)
    unfold compF
    apply noEx_ok
    simp only [V] at this
    simp [this]
  refine pureRun_eq (s' := []) ?_
  rw [run_of (F := f_read_house) rfl rfl, leave_bd]
  simp only [b_read_house, f_read_house, enter]
  generalize hsr : wS (.int H.R) = sr at n1 hlo ⊢
  (rw [exb_cons, run_bd]; simp [-exb_cons, hlo])
  have hp1 : (0 : Int) < (H.os.length : Int) + 1 := by omega
  (rw [exb_cons, run_bd]; simp [-exb_cons, shp_okB, hnd, hp1])
  have hc2 : ∀ v0 v1 v2, compL (compF (Phi fns (k + 3)) (.nm 3) .no (.call true 186 (.cons (.var 3) .nil)) [v0, v1, v2, none]) (H.os.map (Vl.d ∘ fun o => PyData.list (opL o))) [] [] = .ok (H.os.map Enc.e) [] := hc
  have eH : (tuV [.int H.R, .tuple (H.os.map Enc.e)] : Vl) = V H := rfl
  rw [exb_cons, run_bd]
  simp [-exb_cons, -compL_TT, -compF_eq, n1, hc2]
  rw [eH]
  simp only [V] at hip hpt
  (rw [exb_cons, run_bd]; simp [-exb_cons, hip, hpt, shp_okB, hso, hnd])
  (rw [exb_cons, run_bd]; simp [-exb_cons])
end
end Dt

/-! TxJ: reprs of data; the law's own lines. -/
namespace Dt
open PySem Dw
/-- what its repr is no longer than -/
def Shn (n : Nat) (d : D) : Prop := d.showable = true ∧ d.shown.length ≤ n ∧ strOk d.shown = true
theorem Shn.mono {n m : Nat} {d : D} (h : Shn n d) (hm : n ≤ m) : Shn m d := ⟨h.1, Nat.le_trans h.2.1 hm, h.2.2⟩
theorem strOk_iff {x : Str} : strOk x = true ↔ ∀ c ∈ TL.tl x, c < 1114112 := by
  unfold strOk PyData.canLay0 PyData.strOk
  rw [Array.all_eq_true']
  constructor
  · intro h c hc
    have := h c (Array.mem_def.mpr hc)
    rwa [decide_eq_true_eq] at this
  · intro h c hc
    rw [decide_eq_true_eq]
    exact h c (by unfold TL.tl; exact Array.mem_def.mp hc)
theorem strOk_app {x y : Str} (hx : strOk x = true) (hy : strOk y = true) : strOk (x ++ y) = true := by
  rw [strOk_iff] at *
  intro c hc
  rw [TL.tl_append] at hc
  rcases List.mem_append.mp hc with h | h
  · exact hx c h
  · exact hy c h
theorem strOk_sjoin {z : Str} (hz : strOk z = true) : ∀ {ts : List Str}, (∀ t ∈ ts, strOk t = true) → strOk (Str.join z ts) = true
  | [], _ => (by decide +kernel : strOk Str.empty = true)
  | [x], h => h x (by simp)
  | x :: y :: r, h => strOk_app (strOk_app (h x (by simp)) hz) (strOk_sjoin hz fun t ht => h t (List.mem_cons_of_mem _ ht))
theorem char_lt (c : Char) : c.toNat < 1114112 := by
  have := c.valid
  unfold UInt32.isValidChar Nat.isValidChar at this
  show c.val.toNat < 1114112
  omega
theorem reprChar_lt {q c : Nat} (hc : c < 1114112) : ∀ d ∈ Builtin.Str.reprChar q c, d < 1114112 := by
  have hx : ∀ w, ∀ d ∈ (List.replicate (w - ((Nat.toDigits 16 c).map Char.toNat).length) 48 ++ (Nat.toDigits 16 c).map Char.toNat), d < 1114112 := fun w d hd => by
    rcases List.mem_append.mp hd with h | h
    · have := List.eq_of_mem_replicate h
      omega
    · obtain ⟨e, _, rfl⟩ := List.mem_map.mp h
      exact char_lt e
  unfold Builtin.Str.reprChar
  dsimp only
  intro d hd
  repeat' split at hd
  all_goals first
    | (simp only [List.mem_cons, List.not_mem_nil, or_false] at hd; omega)
    | (rcases List.mem_append.mp hd with h | h
       · simp only [List.mem_cons, List.not_mem_nil, or_false] at h; omega
       · exact hx _ d h)
theorem strOk_repr {x : Str} (h : strOk x = true) : strOk (reprText x) = true := by
  rw [strOk_iff] at *
  have hq : reprQuote x < 1114112 := by unfold reprQuote; split <;> omega
  have key : ∀ (l : List Nat) (acc : Array Nat), (∀ c ∈ l, c < 1114112) → (∀ c ∈ acc.toList, c < 1114112) → ∀ c ∈ (l.foldl (fun out c => out ++ (Builtin.Str.reprChar (reprQuote x) c).toArray) acc).toList, c < 1114112 := by
    intro l
    induction l with
    | nil => intro acc _ h2; exact h2
    | cons a l ih =>
      intro acc h1 h2
      refine ih _ (fun c hc => h1 c (List.mem_cons_of_mem _ hc)) fun c hc => ?_
      rw [Array.toList_append] at hc
      rcases List.mem_append.mp hc with h | h
      · exact h2 c h
      · exact reprChar_lt (h1 a List.mem_cons_self) c (by simpa using h)
  intro c hc
  unfold reprText TL.tl at hc
  rw [Array.toList_push, ← Array.foldl_toList] at hc
  rcases List.mem_append.mp hc with h1 | h1
  · exact key _ _ h (fun c hc => by simp at hc; omega) c h1
  · simp at h1; omega
theorem shown_all (ds : List D) : PyData.shownAll ds = ds.map PyData.shown := by
  induction ds with
  | nil => rfl
  | cons d ds ih => rw [PyData.shownAll, ih]; rfl
theorem showable_all (ds : List D) : PyData.showableAll ds = ds.all PyData.showable := by
  induction ds with
  | nil => rfl
  | cons d ds ih => rw [PyData.showableAll, ih]; rfl
theorem piled_le {ts : List Str} {b : Nat} (h : ∀ t ∈ ts, t.length ≤ b) : piled ts ≤ ts.length * (b + 2) := by
  induction ts with
  | nil => simp [piled]
  | cons t ts ih =>
    rw [piled_cons, List.length_cons, Nat.succ_mul]
    have h1 := h t List.mem_cons_self
    have h2 := ih fun x hx => h x (List.mem_cons_of_mem _ hx)
    omega
theorem tupleText_len (ts : List Str) : (tupleText ts).length ≤ piled ts + 3 := by
  unfold tupleText
  rw [strLen_append, strLen_append]
  have e1 : ((("(" : String) : Str)).length = 1 := rfl
  have e3 : (((if ts.length == 1 then ",)" else ")" : String) : Str)).length ≤ 2 := by split <;> decide
  rw [e1]
  by_cases h : ts = []
  · subst h
    have : (Str.join ", " []).length = 0 := rfl
    rw [this]
    omega
  · have := join_length_add ts h
    omega
theorem shn_tup {ds : List D} {b n : Nat} (h : ∀ d ∈ ds, Shn b d) (hl : ds.length ≤ n) : Shn (n * (b + 2) + 3) (.tuple ds) := by
  refine ⟨?_, ?_, ?_⟩
  · show PyData.showableAll ds = true
    rw [showable_all, List.all_eq_true]
    exact fun d hd => (h d hd).1
  rotate_left
  · show strOk (tupleText (PyData.shownAll ds)) = true
    rw [shown_all]
    unfold tupleText
    refine strOk_app (strOk_app (by decide +kernel) (strOk_sjoin (by decide +kernel) fun t ht => ?_)) (by split <;> decide +kernel)
    obtain ⟨d, hd, rfl⟩ := List.mem_map.mp ht
    exact (h d hd).2.2
  · show (tupleText (PyData.shownAll ds)).length ≤ _
    rw [shown_all]
    have h1 := tupleText_len (ds.map PyData.shown)
    have h2 := piled_le (ts := ds.map PyData.shown) (b := b) fun t ht => by
      obtain ⟨d, hd, rfl⟩ := List.mem_map.mp ht
      exact (h d hd).2.1
    rw [List.length_map] at h2
    have h3 : ds.length * (b + 2) ≤ n * (b + 2) := Nat.mul_le_mul_right _ hl
    omega
theorem shn_int {i : Int} (h0 : 0 ≤ i) (h1 : i < 10 ^ 10) : Shn 202 (.int i) := by
  obtain ⟨n, rfl⟩ : ∃ n : Nat, i = (n : Int) := ⟨i.toNat, by omega⟩
  have hn : n < 10 ^ 10 := by omega
  refine ⟨?_, ?_, wd_ok (numS_ok hn)⟩
  · show decide ((n : Int).natAbs.log2 < 1920) = true
    rw [decide_eq_true_eq]
    simpa using log_lt hn
  · have := (numS_ok hn).n
    show (numS n).length ≤ 202
    omega
theorem shn_str {x : Str} (h : WdOk x) : Shn 202 (.str x) := by
  refine ⟨rfl, ?_, strOk_repr (wd_ok h)⟩
  have := StrLaws.reprText_len x fun c hc => by
    have := h.c c hc
    omega
  have h2 := h.n
  show (reprText x).length ≤ 202
  omega
theorem shn_none : Shn 202 .none := ⟨rfl, by decide, by decide +kernel⟩
theorem shn_bool (b : Bool) : Shn 202 (.bool b) := ⟨rfl, by cases b <;> decide, by cases b <;> decide +kernel⟩
theorem shn_wok {d : D} (h : Wok d) : Shn 202 d := by
  cases h with
  | n m h => exact shn_int (by omega) (by omega)
  | t x h => exact shn_str h
theorem repr_run {ds : List D} (h : Shn 16777216 (.tuple ds)) (hs : okB 64 (.tuple ds) = true) : bi .repr [.d (.tuple ds)] = pure (stV (PyData.tuple ds).shown) := by
  show okS (shp (.tuple ds) && (PyData.tuple ds).showable && decide ((PyData.tuple ds).shown.length ≤ szLine)) (stV (PyData.tuple ds).shown) = _
  rw [shp_okB, hs, h.1, decide_eq_true (by rw [szLine_eq]; exact h.2.1)]
  rfl
/-! ### plans, houses, rows -/
theorem shn_plan {P : Plan} (p : GoodP P) (t : TPl P) : Shn 50000 (Enc.e P : D) := by
  have lv := p.lv; have lv1 := p.lv1; have cm := p.cm; have cm1 := p.cm1; have ld := p.ld; have ld1 := p.ld1
  refine Shn.mono (shn_tup (ds := [.tuple (P.zs.map Enc.e), .tuple (P.cs.map Enc.e), .tuple [.int P.lv, .int P.cm, .int P.ld]]) (b := 14874) (n := 3) (fun d hd => ?_) (by simp)) (by omega)
  · simp only [List.mem_cons, List.not_mem_nil, or_false] at hd
    rcases hd with rfl | rfl | rfl
    · refine Shn.mono (shn_tup (b := 411) (n := 8) (fun d hd => ?_) (by rw [List.length_map]; exact p.z8)) (by omega)
      obtain ⟨z, hz, rfl⟩ := List.mem_map.mp hd
      refine Shn.mono (shn_tup (ds := [Enc.e z.nm, Enc.e z.kd]) (b := 202) (n := 2) (fun d hd => ?_) (by simp)) (by omega)
      simp only [List.mem_cons, List.not_mem_nil, or_false] at hd
      rcases hd with rfl | rfl
      · exact shn_str (t.nm z hz).wd
      · exact shn_wok (wok_Kd _)
    · refine Shn.mono (shn_tup (b := 2475) (n := 6) (fun d hd => ?_) (by rw [List.length_map]; exact p.c6)) (by omega)
      obtain ⟨c, hc, rfl⟩ := List.mem_map.mp hd
      refine Shn.mono (shn_tup (ds := [Enc.e c.fg, Enc.e c.who, .tuple (c.rts.map Enc.e), .int c.us]) (b := 615) (n := 4) (fun d hd => ?_) (by simp)) (by omega)
      simp only [List.mem_cons, List.not_mem_nil, or_false] at hd
      have hu := t.us c hc
      rcases hd with rfl | rfl | rfl | rfl
      · exact (shn_str (t.fg c hc).wd).mono (by omega)
      · exact (shn_str (t.wh c hc).wd).mono (by omega)
      · refine Shn.mono (shn_tup (b := 202) (n := 3) (fun d hd => ?_) (by rw [List.length_map]; exact (t.rt c hc).1)) (by omega)
        obtain ⟨w, _, rfl⟩ := List.mem_map.mp hd
        exact shn_wok (wok_Dd w)
      · exact (shn_int hu.1 (by omega)).mono (by omega)
    · refine Shn.mono (shn_tup (b := 202) (n := 3) (fun d hd => ?_) (by simp)) (by omega)
      simp only [List.mem_cons, List.not_mem_nil, or_false] at hd
      rcases hd with rfl | rfl | rfl
      · exact shn_int lv (by omega)
      · exact shn_int cm (by omega)
      · exact shn_int (by omega) (by omega)
theorem repr_plan {P : Plan} (p : GoodP P) (t : TPl P) : bi .repr [V P] = pure (stV (PyData.shown (Enc.e P))) :=
  repr_run (ds := [.tuple (P.zs.map Enc.e), .tuple (P.cs.map Enc.e), .tuple [.int P.lv, .int P.cm, .int P.ld]]) ((shn_plan p t).mono (by omega)) (okB_e 64 P (by decide))
theorem shn_house {H : Hs} (g : GoodH H) (t : TH H) : Shn 50000 (Enc.e H : D) := by
  have r1 := g.r1; have r7 := g.r7
  refine Shn.mono (shn_tup (ds := [.int H.R, .tuple (H.os.map Enc.e)]) (b := 10000) (n := 2) (fun d hd => ?_) (by simp)) (by omega)
  · simp only [List.mem_cons, List.not_mem_nil, or_false] at hd
    rcases hd with rfl | rfl
    · exact (shn_int (by omega) (by omega)).mono (by omega)
    · refine Shn.mono (shn_tup (b := 615) (n := 10) (fun d hd => ?_) (by rw [List.length_map]; exact g.o10)) (by omega)
      obtain ⟨o, ho, rfl⟩ := List.mem_map.mp hd
      have hg := g.o o ho
      refine Shn.mono (shn_tup (ds := [.int o.a, .int o.b, Enc.e o.z]) (b := 202) (n := 3) (fun d hd => ?_) (by simp)) (by omega)
      simp only [List.mem_cons, List.not_mem_nil, or_false] at hd
      rcases hd with rfl | rfl | rfl
      · exact shn_int hg.1 (by omega)
      · exact shn_int (by omega) (by omega)
      · cases hz : o.z with
        | none => exact shn_none
        | some y => exact shn_str (t.z o ho y hz).wd
theorem repr_house {H : Hs} (g : GoodH H) (t : TH H) : bi .repr [V H] = pure (stV (PyData.shown (Enc.e H))) :=
  repr_run (ds := [.int H.R, .tuple (H.os.map Enc.e)]) ((shn_house g t).mono (by omega)) (okB_e 64 H (by decide))
theorem shn_ev {P : Plan} {e : Ev} (h : TEv P e) : Shn 819 (Enc.e e : D) := by
  have hw := h.ln.1
  cases e with
  | line z w =>
    refine Shn.mono (shn_tup (ds := [.str "line", Enc.e z, Enc.e w]) (b := 202) (n := 3) (fun d hd => ?_) (by simp)) (by omega)
    exact shn_wok (hw d hd)
  | ticks n =>
    refine Shn.mono (shn_tup (ds := [.str "ticks", .int n]) (b := 202) (n := 2) (fun d hd => ?_) (by simp)) (by omega)
    exact shn_wok (hw d hd)
  | code f d z =>
    refine Shn.mono (shn_tup (ds := [.str "code", Enc.e f, Enc.e d, Enc.e z]) (b := 202) (n := 4) (fun x hx => ?_) (by simp)) (by omega)
    simp only [List.mem_cons, List.not_mem_nil, or_false] at hx
    rcases hx with rfl | rfl | rfl | rfl
    · exact shn_wok (hw _ (by cases z <;> simp [evW]))
    · exact shn_wok (hw _ (by cases z <;> simp [evW]))
    · exact shn_wok (hw _ (by cases z <;> simp [evW]))
    · cases z with
      | none => exact shn_none
      | some y => exact shn_wok (hw (Enc.e y) (by simp [evW]))
theorem shn_row {P : Plan} {r : List Ev} (h : Trow P r) (hl : r.length ≤ 1000) : Shn 1000000 (.tuple (r.map Enc.e)) := by
  refine Shn.mono (shn_tup (b := 819) (n := 1000) (fun d hd => ?_) (by rw [List.length_map]; exact hl)) (by omega)
  obtain ⟨e, he, rfl⟩ := List.mem_map.mp hd
  exact shn_ev (h e he)
theorem repr_row {P : Plan} {r : List Ev} (h : Trow P r) (hl : r.length ≤ 1000) : bi .repr [tuV (r.map Enc.e)] = pure (stV (PyData.tuple (r.map Enc.e)).shown) :=
  repr_run ((shn_row h hl).mono (by omega)) (by simp)
/-! ### the law's own lines -/
def nnD (d : D) : Bool := !isNn d
def wdE : E := .txm .join (.str " ") (.comp false (.bi .str (.cons (.var 3) .nil)) (.nm 3) (.of (.var 2)) (.so (.cmp .IsNot (.var 3) (.non))) [3])
theorem words_run {k : Nat} {ws : List D} (h : LnOk (ws.filter nnD)) (hl : ws.length ≤ 1000) (v0 v1 v3 : Option Vl) (s : Sto) : evE (Phi fns k) wdE [v0, v1, some (tuV ws), v3] s = .ok (stV (lnS ((ws.filter nnD).map wS))) s := by
  obtain ⟨h1, h2⟩ := h
  have hc : compL (compF (Phi fns k) (.nm 3) (.so (.cmp .IsNot (.var 3) (.non))) (.bi .str (.cons (.var 3) .nil)) [v0, v1, some (tuV ws), none]) (ws.map Vl.d) [] s = .ok (ws.filterMap fun d => if nnD d = true then some (.str (wS d)) else none) s := by
    refine compL_fm (h := Vl.d) (g := fun d => if nnD d = true then some (.str (wS d)) else none) ws (fun d hd => ?_) (by rw [szLine_eq]; omega)
    unfold compF
    apply noEx_ok
    by_cases hn : nnD d = true
    · have := str_run (h1 d (List.mem_filter.mpr ⟨hd, hn⟩))
      unfold nnD at hn
      simp at hn
      simp [this, hn, nnD]
    · unfold nnD at hn
      simp at hn
      simp [hn, nnD]
  have e : (ws.filterMap fun d => if nnD d = true then some (.str (wS d) : D) else none) = (ws.filter nnD).map fun d => .str (wS d) := by
    clear hc h1 h2 hl
    induction ws with
    | nil => rfl
    | cons d l ih => by_cases hn : nnD d = true <;> simp [hn, ih]
  rw [e] at hc
  have hj := join_run SP (ss := (ws.filter nnD).map wS) (m := 20) (fun x hx => by
    obtain ⟨d, hd, rfl⟩ := List.mem_map.mp hx
    exact (h1 d hd).ok.n) (by rw [List.length_map]; show (ws.filter nnD).length * 21 ≤ _; omega)
  rw [List.map_map] at hj
  have hj2 : txmV .join (Str.ofString " ") (liV ((ws.filter nnD).map fun d => .str (wS d))) = pure (stV (lnS ((ws.filter nnD).map wS))) := hj
  unfold wdE
  simp [-compL_TT, -compF_eq, hc, hj2]
theorem lnD_len {L : List (List D)} (h : ∀ ws ∈ L, LnOk ws) : (linesD L).length ≤ L.length * 211 := by
  have := lines_len (L := L.map fun ws => ws.map wS) fun ws hws => by
    obtain ⟨w, hw, rfl⟩ := List.mem_map.mp hws
    refine ⟨fun x hx => ?_, by rw [List.length_map]; exact (h w hw).2⟩
    obtain ⟨d, hd, rfl⟩ := List.mem_map.mp hx
    exact ((h w hw).1 d hd).ok
  rw [List.length_map] at this
  exact this
theorem lawLines_its {k : Nat} {L : List (List D)} (h : ∀ ws ∈ L, LnOk (ws.filter nnD) ∧ ws.length ≤ 1000) (hz : L.length ≤ 50000) (x : Vl) (hx : x = liV (L.map .tuple) ∨ x = tuV (L.map .tuple)) (s : Sto) : Phi fns (k + 1) 188 [x] s = .ok (stV (linesD (L.map (List.filter nnD)))) s := by
  rw [run_of (F := f_law_lines) rfl rfl, leave_bd]
  simp only [b_law_lines, f_law_lines, enter]
  have el : l1_law_lines = .cons (.set 1 (.bin .Add (.bin .Add (.var 1) wdE) (.str "\n"))) .nil := rfl
  (rw [exb_cons, run_bd]; simp [-exb_cons])
  have hw : wkOf x = pure (.its (L.map (Vl.d ∘ .tuple))) := by
    rcases hx with rfl | rfl
    · show (pure (.its ((L.map PyData.tuple).map Vl.d)) : M Wk) = _
      rw [List.map_map]
    · show (pure (.its ((L.map PyData.tuple).map Vl.d)) : M Wk) = _
      rw [List.map_map]
  rw [exb_cons, run_bd]
  simp [-exb_cons, hw]
  refine for_nx_eq (h := Vl.d ∘ .tuple) (fun pre e t => t = s ∧ ∃ v2 v3, e = [some x, some (stV (linesD (pre.map (List.filter nnD)))), v2, v3]) ⟨rfl, _, _, rfl⟩ ?_ ?_
  · rintro pre ws post e t hp ⟨rfl, v2, v3, rfl⟩
    have hm : ws ∈ L := by rw [hp]; simp
    have hw := words_run (k := k) (h ws hm).1 (h ws hm).2 (some x) (some (stV (linesD (pre.map (List.filter nnD))))) v3 t
    have hpl := congrArg List.length hp
    simp at hpl
    have hl1 := lnD_len (L := pre.map (List.filter nnD)) fun w hw => by
      obtain ⟨w', hw', rfl⟩ := List.mem_map.mp hw
      exact (h w' (by rw [hp]; exact List.mem_append_left _ hw')).1
    rw [List.length_map] at hl1
    have hl2 := ln_len (ws := (ws.filter nnD).map wS) fun y hy => by
      obtain ⟨d, hd, rfl⟩ := List.mem_map.mp hy
      exact ((h ws hm).1.1 d hd).ok
    rw [List.length_map] at hl2
    have h10 := (h ws hm).1.2
    have e1 : linesD ((pre ++ [ws]).map (List.filter nnD)) = (linesD (pre.map (List.filter nnD)) ++ lnS ((ws.filter nnD).map wS)) ++ NL := by
      unfold linesD
      rw [List.map_append, List.map_append, linesS_append]
      apply TL.ext_tl
      rw [TL.tl_append, TL.tl_append, TL.tl_append, tl_linesS (([ws].map (List.filter nnD)).map fun ws => ws.map wS), tl_NL, List.append_assoc]
      simp
    generalize linesD (pre.map (List.filter nnD)) = X at hw hl1 e1 ⊢
    generalize lnS ((ws.filter nnD).map wS) = Y at hw hl2 e1
    rw [e1]
    have c1 : binop .Add (stV X) (stV Y) = pure (stV (X ++ Y)) := by
      show okS (decide (X.length + Y.length ≤ szLine)) (stV (X ++ Y)) = _
      rw [decide_eq_true (by rw [szLine_eq]; omega)]
      rfl
    have c2 : binop .Add (stV (X ++ Y)) (stV "\n") = pure (stV ((X ++ Y) ++ NL)) := by
      have : (X ++ Y).length = X.length + Y.length := strLen_append _ _
      show okS (decide ((X ++ Y).length + ("\n" : Str).length ≤ szLine)) (stV ((X ++ Y) ++ NL)) = _
      rw [decide_eq_true (by rw [szLine_eq, this]; show X.length + Y.length + 1 ≤ _; omega)]
      rfl
    rw [el]
    simp [hw, c1, c2]
  · rintro e t ⟨rfl, v2, v3, rfl⟩
    simp only [aft_nx]
    (rw [exb_cons, run_bd]; simp [-exb_cons])
theorem lawLines_l {k : Nat} {L : List (List D)} (h : ∀ ws ∈ L, LnOk (ws.filter nnD) ∧ ws.length ≤ 1000) (hz : L.length ≤ 50000) : pureRun (Phi fns (k + 1) 188 [liV (L.map .tuple)]) = pure (stV (linesD (L.map (List.filter nnD)))) := pureRun_eq (lawLines_its h hz _ (.inl rfl) [])
theorem lawLines_t {k : Nat} {L : List (List D)} (h : ∀ ws ∈ L, LnOk (ws.filter nnD) ∧ ws.length ≤ 1000) (hz : L.length ≤ 50000) : pureRun (Phi fns (k + 1) 188 [tuV (L.map .tuple)]) = pure (stV (linesD (L.map (List.filter nnD)))) := pureRun_eq (lawLines_its h hz _ (.inr rfl) [])
end Dt

/-! TxK: more of texts. -/
namespace Dt
open PySem Dw
theorem rowT_append (a b : List Ev) : rowT (a ++ b) = rowT a ++ rowT b := by rw [rowT_eq, rowT_eq, rowT_eq, List.map_append, linesS_append]
theorem rowT_nil : rowT [] = Str.ofString "" := by decide +kernel
theorem rowT_one (e : Ev) : rowT [e] = lnS (evS e) ++ NL := by
  apply TL.ext_tl
  rw [rowT_eq, tl_linesS, TL.tl_append, tl_NL]
  simp
theorem evWS {P : Plan} {r : List Ev} (h : Trow P r) : ∀ ws ∈ r.map evS, (∀ w ∈ ws, WdOk w) ∧ ws.length ≤ 10 := by
  intro ws hws
  obtain ⟨e, he, rfl⟩ := List.mem_map.mp hws
  have hln := (h e he).ln
  refine ⟨fun w hw => ?_, by unfold evS; rw [List.length_map]; exact hln.2⟩
  obtain ⟨d, hd, rfl⟩ := List.mem_map.mp hw
  exact (hln.1 d hd).ok
theorem rowT_ok {P : Plan} {r : List Ev} (h : Trow P r) : strOk (rowT r) = true := by rw [rowT_eq]; exact lines_strOk fun ws hws => (evWS h ws hws).1
theorem rowT_len {P : Plan} {r : List Ev} (h : Trow P r) : (rowT r).length ≤ r.length * 211 := by
  rw [rowT_eq]
  have := lines_len (evWS h)
  rw [List.length_map] at this
  exact this
theorem txt_ne (x : Str) (h : strOk x = true) : cmpop .NotEq (stV x) (stV x) = pure false := by simp [shp_okB, h]
theorem houseOf_th (n : Int) : TH (houseOf n) where
  z := fun o ho y hy => by
    obtain ⟨i, _, rfl⟩ := List.mem_map.mp ho
    have h : (opnAt n i).z ∈ zns7 := pick_mem zns7 none _ (by decide)
    rw [hy] at h
    simp only [zns7, List.mem_cons, List.not_mem_nil, or_false, Option.some.injEq, reduceCtorEq, false_or] at h
    rcases h with rfl | rfl | rfl | rfl | rfl <;> exact nm_lit (by decide +kernel)
theorem linesOf_split {L : List (List Str)} (h : ∀ ws ∈ L, (∀ w ∈ ws, WdOk w) ∧ ws.length ≤ 10) (hz : L.length ≤ 50000) : txmV .split (linesS L) (stV (Str.ofString "\n")) = pure (liV ((L.map lnS).map PyData.str ++ [.str Str.empty])) := by
  have h1 := split_run (x := linesS L) (w := NL) (by decide +kernel) (by have := lines_len h; omega)
  rw [split_lines fun ws hw => (h ws hw).1, List.map_append] at h1
  exact h1
theorem addMV_ll (a b : List D) : addMV (liV a) (liV b) = (okS (decide (a.length + b.length ≤ szLine)) () >>= fun _ => newL true (a ++ b)) := (rfl)
theorem planT_len {P : Plan} (p : GoodP P) (t : TPl P) : (planT P).length ≤ 15 * 211 := by
  rw [planT_eq]
  have h := lines_len (L := (planW P).map fun ws => ws.map wS) fun ws hws => ⟨(planWS p t ws hws).1, (planWS p t ws hws).2.1⟩
  have hz := p.z8
  have hc := p.c6
  have : ((planW P).map fun ws => ws.map wS).length ≤ 15 := by simp [planW]; omega
  omega
theorem houseT_len {H : Hs} (g : GoodH H) (t : TH H) : (houseT H).length ≤ 11 * 211 := by
  rw [houseT_eq]
  have h := lines_len (L := (houseW H).map fun ws => ws.map wS) fun ws hws => ⟨(houseWS g t ws hws).1, (houseWS g t ws hws).2.1⟩
  have ho := g.o10
  have : ((houseW H).map fun ws => ws.map wS).length ≤ 11 := by simp [houseW]; omega
  omega
theorem planT_inj {P Q : Plan} (p : GoodP P) (t : TPl P) (q : GoodP Q) (u : TPl Q) : planT P = planT Q ↔ P = Q := by
  refine ⟨fun h => ?_, fun h => by rw [h]⟩
  have h1 := readPlan_call (k := 0) p t
  have h2 := readPlan_call (k := 0) q u
  rw [h, h2] at h1
  have h3 : (V Q : Vl) = V P := by
    have := congrFun h1 []
    simpa using this
  have h4 : PyData.eqv (Enc.e Q) (Enc.e P) = true := by
    have : (Enc.e Q : D) = Enc.e P := by simpa [V] using h3
    rw [← this, eqv_e]; simp
  rw [eqv_e] at h4
  exact (of_decide_eq_true h4).symm
theorem houseT_inj {P Q : Hs} (p : GoodH P) (t : TH P) (q : GoodH Q) (u : TH Q) : houseT P = houseT Q ↔ P = Q := by
  refine ⟨fun h => ?_, fun h => by rw [h]⟩
  have h1 := readHouse_call (k := 0) p t
  have h2 := readHouse_call (k := 0) q u
  rw [h, h2] at h1
  have h3 : (V Q : Vl) = V P := by
    have := congrFun h1 []
    simpa using this
  have h4 : PyData.eqv (Enc.e Q) (Enc.e P) = true := by
    have : (Enc.e Q : D) = Enc.e P := by simpa [V] using h3
    rw [← this, eqv_e]; simp
  rw [eqv_e] at h4
  exact (of_decide_eq_true h4).symm
end Dt

namespace Dt
open PySem Dw
def rmL (H : Hs) : List (List D) := [.str "rooms", .int H.R] :: H.os.map opW
theorem nn_all {ws : List D} (h : ∀ w ∈ ws, isNn w = false) : ws.filter nnD = ws := by
  rw [List.filter_eq_self]
  intro w hw
  unfold nnD
  rw [h w hw]
  rfl
theorem wok_nn {w : D} (h : Wok w) : isNn w = false := by cases h <;> rfl
theorem ln_nn {ws : List D} (h : LnOk ws) : ws.filter nnD = ws := nn_all fun w hw => wok_nn (h.1 w hw)
theorem lnmap_nn {L : List (List D)} (h : ∀ ws ∈ L, LnOk ws) : L.map (List.filter nnD) = L := by
  conv => rhs; rw [← List.map_id L]
  exact List.map_congr_left fun ws hws => ln_nn (h ws hws)
def evL : Ev → List D
  | .line z w => [.str "line", Enc.e z, Enc.e w]
  | .code f d z => [.str "code", Enc.e f, Enc.e d, Enc.e z]
  | .ticks n => [.str "ticks", .int n]
theorem e_evL (e : Ev) : (Enc.e e : D) = .tuple (evL e) := by cases e <;> rfl
theorem evL_nn (e : Ev) : (evL e).filter nnD = evW e := by
  cases e with
  | line z w =>
    have : isNn (Enc.e w) = false := isNn_Ln w
    have h2 : isNn (Enc.e z) = false := rfl
    simp [evL, evW, nnD, this, h2]
  | code f d z =>
    have h1 : isNn (Enc.e f) = false := rfl
    have h2 : isNn (Enc.e d) = false := isNn_Dd d
    cases z with
    | none =>
      have h3 : isNn (Enc.e (none : Option Tx)) = true := rfl
      simp [evL, evW, nnD, h1, h2, h3]
    | some y =>
      have h3 : isNn (Enc.e (some y)) = false := rfl
      simp [evL, evW, nnD, h1, h2, h3]
  | ticks n => simp [evL, evW, nnD]
theorem evL_len (e : Ev) : (evL e).length ≤ 4 := by cases e <;> simp [evL]
theorem body50 {k : Nat} {ns : List Int} {o : Ob} (ho : ScrO ns o) : ∃ s', (exB (Phi fns (k + 49)) b_law_k50 (enter f_law_k50 [.o 0]) [o]).bd (lvK true 1) = .ok (blV true) s' := by
  have hbo : ∀ n, obBelow n o = true := fun n => by rcases ho with rfl | rfl <;> rfl
  have hb0 : ∀ x ∈ [o], obBelow [o].length x = true := fun x hx => by simp at hx; subst hx; exact hbo _
  have m0 : Phi fns (k + 49) 14 [.o 0, inV 0] [o] = .ok (inV (mixed (ns.getD 0 0) ((0 : Nat) : Int))) [o] := mixed_gen (k := k + 47) ho (t := [o]) rfl hb0 0
  have m1 : Phi fns (k + 49) 14 [.o 0, inV 1] [o] = .ok (inV (mixed (ns.getD 1 0) ((1 : Nat) : Int))) [o] := mixed_gen (k := k + 47) ho (t := [o]) rfl hb0 1
  have m2 : Phi fns (k + 49) 14 [.o 0, inV 2] [o] = .ok (inV (mixed (ns.getD 2 0) ((2 : Nat) : Int))) [o] := mixed_gen (k := k + 47) ho (t := [o]) rfl hb0 2
  have m3 : Phi fns (k + 49) 14 [.o 0, inV 3] [o, .dead] = .ok (inV (mixed (ns.getD 3 0) ((3 : Nat) : Int))) [o, .dead] := mixed_gen (k := k + 47) ho (t := [o, .dead]) rfl (fun x hx => by simp at hx; rcases hx with rfl | rfl <;> first | exact hbo _ | rfl) 3
  generalize mixed (ns.getD 0 0) ((0 : Nat) : Int) = a0 at m0
  generalize mixed (ns.getD 1 0) ((1 : Nat) : Int) = a1 at m1
  generalize mixed (ns.getD 2 0) ((2 : Nat) : Int) = a2 at m2
  generalize mixed (ns.getD 3 0) ((3 : Nat) : Int) = a3 at m3
  simp only [b_law_k50, f_law_k50, enter]
  (rw [exb_cons, run_bd]; simp [-exb_cons, m0])
  have p := planOf_good a0
  have tp := planOf_text a0
  have tl := planOf_tpl a0
  generalize planOf a0 = P at p tp tl ⊢
  (rw [exb_cons, run_bd]; simp [-exb_cons, m1])
  have g := houseOf_good a1
  have tH := houseOf_th a1
  generalize houseOf a1 = H at g tH ⊢
  have ha := rowOf_text p tp a2 9
  have hal := rowOf_len (P := P) a2 9 (by omega)
  have rca := row_call (k := k + 47) p a2 9 (by omega) (by omega)
  generalize rowOf P a2 9 = r at ha hal rca
  (rw [exb_cons, run_bd]; simp [-exb_cons, m2, rca])
  -- the law's own lines
  have hz8 := p.z8
  have hc6 := p.c6
  have ho10 := g.o10
  have hcz : ∀ v0 v1 v2 v3 v4 v5 v6 v7 v8 v9 v10 v11 v12 v13 v14 v16 s, compL (compF (Phi fns (k + 49)) (.nm 15) .no (.bin .Add (.tup (.cons (.str "zone") .nil)) (.var 15)) [v0, v1, v2, v3, v4, v5, v6, v7, v8, v9, v10, v11, v12, v13, v14, none, v16]) (P.zs.map (Vl.d ∘ Enc.e)) [] s = .ok (P.zs.map fun z => .tuple (znW z)) s := fun v0 v1 v2 v3 v4 v5 v6 v7 v8 v9 v10 v11 v12 v13 v14 v16 s => by
    refine compL_map (h := Vl.d ∘ Enc.e) (g := fun z => .tuple (znW z)) P.zs (fun z hz => ?_) (by rw [szLine_eq]; omega)
    unfold compF
    apply noEx_ok
    have : (Vl.d (Enc.e z) : Vl) = tuV [Enc.e z.nm, Enc.e z.kd] := rfl
    simp [this, szLine_eq]
    rfl
  obtain ⟨L1, hL1⟩ : ∃ L1 : List D, L1 = [.tuple [.str "times", .int P.lv, .int P.cm, .int P.ld]] := ⟨_, rfl⟩
  have hl1 : L1.length = 1 := by rw [hL1]; rfl
  obtain ⟨Z, hZ⟩ : ∃ Z : List D, Z = P.zs.map fun z => .tuple (znW z) := ⟨_, rfl⟩
  have lZ : Z.length ≤ 8 := by rw [hZ, List.length_map]; exact hz8
  rw [← hZ] at hcz
  have hLZ : L1.length + Z.length ≤ 16777216 := by omega
  have hadd : ∀ s : Sto, addMV (liV L1) (liV Z) s = .ok (.o s.length) (s ++ [.lst (L1 ++ Z)]) := fun s => by
    rw [addMV_ll, szLine_eq, decide_eq_true hLZ]
    rfl
  rw [hL1] at hadd
  rw [exb_cons, run_bd]
  simp [-exb_cons, -compL_TT, -compF_eq, hcz, hadd]
  rw [exb_cons, run_bd]
  simp [-exb_cons]
  refine ⟨[o], ?_⟩
  refine for_nx_eq (h := Vl.d ∘ Enc.e) (fun pre e t => t = [o, .lst (L1 ++ Z ++ pre.map fun c => .tuple (cdW c))] ∧ ∃ v5 v6 v7 v8, e = [some (.o 0), some (V P), some (V H), some (tuV (r.map Enc.e)), some (.o 1), v5, v6, v7, v8, none, none, none, none, none, none, none, none]) ⟨by rw [hL1]; simp, _, _, _, _, rfl⟩ ?_ ?_
  · rintro pre c post e t hx ⟨rfl, v5, v6, v7, v8, rfl⟩
    have hpl := congrArg List.length hx
    simp at hpl
    have hcm : c ∈ P.cs := by rw [hx]; simp
    have h3 := (tl.rt c hcm).1
    have hb : 4 + c.rts.length ≤ 16777216 := by omega
    have e3 : (Vl.d (Enc.e c) : Vl) = tuV [Enc.e c.fg, Enc.e c.who, .tuple (c.rts.map Enc.e), .int c.us] := rfl
    obtain ⟨Y, hY⟩ : ∃ Y : List D, Y = L1 ++ Z ++ pre.map fun c => .tuple (cdW c) := ⟨_, rfl⟩
    have hYl : Y.length < 16777216 := by rw [hY]; simp; omega
    have mt1 := mtTy_run (t := [o, Ob.lst Y]) (i := 1) rfl
    have ap := app_run (t := [o, Ob.lst Y]) (i := 1) (y := .tuple (cdW c)) rfl (by rw [szLine_eq]; exact hYl)
    have ap : mt .append (.o 1) [.d (.tuple (cdW c))] [o, Ob.lst Y] = .ok nonV [o, .lst (Y ++ [.tuple (cdW c)])] := ap
    have eC : PyData.str (Str.ofString "code") :: Enc.e c.fg :: Enc.e c.who :: PyData.int c.us :: c.rts.map Enc.e = cdW c := rfl
    rw [← hY]
    simp [l1_law_k50, e3, szLine_eq, hb, mt1, eC, ap]
    rw [hY]
    simp
  · rintro e t ⟨rfl, v5, v6, v7, v8, rfl⟩
    obtain ⟨W, hW⟩ : ∃ W : List D, W = L1 ++ Z ++ P.cs.map fun c => .tuple (cdW c) := ⟨_, rfl⟩
    have hWp : W = (planW P).map .tuple := by rw [hW, hL1, hZ]; simp [planW]; rfl
    rw [← hW]
    simp only [aft_nx]
    have hch : ∀ v0 v1 v2 v3 v4 v5 v6 v7 v8 v9 v10 v11 v13 v14 s, compL (compF (Phi fns (k + 49)) (.tp (.cons (.nm 16) (.cons (.nm 12) (.cons (.nm 15) .nil)))) .no (.tup (.cons (.var 16) (.cons (.var 12) (.cons (.ix (.lst false (.cons (.var 15) (.cons (.str "-") .nil))) (.bi .int (.cons (.cmp .Is (.var 15) (.non)) .nil))) .nil)))) [v0, v1, v2, v3, v4, v5, v6, v7, v8, v9, v10, v11, none, v13, v14, none, none]) (H.os.map (Vl.d ∘ Enc.e)) [] s = .ok (H.os.map fun o => .tuple (opW o)) s := fun v0 v1 v2 v3 v4 v5 v6 v7 v8 v9 v10 v11 v13 v14 s => by
      refine compL_map (h := Vl.d ∘ Enc.e) (g := fun o => .tuple (opW o)) H.os (fun o ho => ?_) (by rw [szLine_eq]; omega)
      unfold compF
      apply noEx_ok
      have e3 : (Vl.d (Enc.e o) : Vl) = tuV [.int o.a, .int o.b, Enc.e o.z] := rfl
      cases hz : o.z with
      | none => simp [e3, szLine_eq, hz, opW, zwD]
      | some y => simp [e3, szLine_eq, hz, opW, zwD]
    rw [exb_cons, run_bd]
    simp [-exb_cons, -compL_TT, -compF_eq, hch, szLine_eq]
    have h10 : 1 + H.os.length ≤ 16777216 := by omega
    have hHp : (PyData.tuple [PyData.str (Str.ofString "rooms"), PyData.int H.R] :: H.os.map fun o => PyData.tuple (opW o)) = (houseW H).map .tuple := by simp [houseW]
    rw [hHp, decide_eq_true h10, okS_true]
    simp only [M.pure_run, bd_ok, aft_nx]
    -- the texts are as the law's
    have w1 := planText_call (k := k + 47) p tl
    have w2 := houseText_call (k := k + 47) g tH
    have w3 := rowText_call (k := k + 47) ha (by omega)
    have l1 := lawLines_l (k := k + 48) (L := planW P) (fun ws hws => by
      have h := planW_ok p tl ws hws
      rw [ln_nn h]
      exact ⟨h, by have := h.2; omega⟩) (by simp [planW]; omega)
    have l2 := lawLines_l (k := k + 48) (L := houseW H) (fun ws hws => by
      have h := houseW_ok g tH ws hws
      rw [ln_nn h]
      exact ⟨h, by have := h.2; omega⟩) (by simp [houseW]; omega)
    have l3 := lawLines_t (k := k + 48) (L := r.map evL) (fun ws hws => by
      obtain ⟨e, he, rfl⟩ := List.mem_map.mp hws
      rw [evL_nn]
      exact ⟨(ha e he).ln, by have := evL_len e; omega⟩) (by rw [List.length_map]; omega)
    rw [lnmap_nn (planW_ok p tl), ← hWp] at l1
    rw [lnmap_nn (houseW_ok g tH)] at l2
    rw [List.map_map, List.map_map, show (List.filter nnD ∘ evL) = evW from funext evL_nn, show (PyData.tuple ∘ evL) = Enc.e from funext fun e => (e_evL e).symm] at l3
    have s1 := planT_ok p tl
    have s2 := houseT_ok g tH
    have s3 := rowT_ok ha
    have r1 := readPlan_call (k := k + 45) p tl
    have r2 := readHouse_call (k := k + 45) g tH
    have r3 := readRow_call (k := k + 45) p ha (by omega)
    have p1 := repr_plan p tl
    have p2 := repr_house g tH
    have p3 := repr_row ha (by omega)
    have q1 := (shn_plan p tl).2.2
    have q2 := (shn_house g tH).2.2
    have q3 := (shn_row ha (by omega)).2.2
    have fz : frzV (.o 1) [o, Ob.lst W] = .ok (liV W) [o, .dead] := frz_run (t := [o, Ob.lst W]) (i := 1) rfl
    have l1 : pureRun (Phi fns (k + 49) 188 [liV W]) = pure (stV (planT P)) := l1
    have l2 : pureRun (Phi fns (k + 49) 188 [liV ((houseW H).map .tuple)]) = pure (stV (houseT H)) := l2
    have l3 : pureRun (Phi fns (k + 49) 188 [tuV (r.map Enc.e)]) = pure (stV (rowT r)) := l3
    simp only [V] at w1 w2 r1 r2 r3 p1 p2
    obtain ⟨HW, hHW⟩ : ∃ HW, HW = (houseW H).map PyData.tuple := ⟨_, rfl⟩
    rw [← hHW] at l2 ⊢
    (rw [exb_cons, run_bd]; simp [-exb_cons, w1, fz, l1, w2, l2, shp_okB, s1, s2])
    (rw [exb_cons, run_bd]; simp [-exb_cons, w3, l3, shp_okB, s3])
    (rw [exb_cons, run_bd]; simp [-exb_cons, w1, w2, r1, r2, p1, p2, shp_okB, q1, q2])
    (rw [exb_cons, run_bd]; simp [-exb_cons, w3, r3, p3, shp_okB, q3])
    (rw [exb_cons, run_bd]; simp [-exb_cons, m3])
    (rw [exb_cons, run_bd]; simp [-exb_cons])
    obtain ⟨Q, q, tq, hQ, hz, hc⟩ : ∃ Q : Plan, GoodP Q ∧ TPl Q ∧ L2.atI [(.tuple [.int (a3 % 61), .int (a3 / 64 % 61), .int (1 + a3 / 4096 % 300)] : D), .tuple [.int P.lv, .int P.cm, .int P.ld]] (a3 / 2097152 % 2) = some (.tuple [.int Q.lv, .int Q.cm, .int Q.ld]) ∧ Q.zs = P.zs ∧ Q.cs = P.cs := by
      rcases Int.emod_two_eq (a3 / 2097152) with h | h
      · refine ⟨⟨P.zs, P.cs, a3 % 61, a3 / 64 % 61, 1 + a3 / 4096 % 300⟩, ⟨p.z1, p.z8, p.c1, p.c6, p.nd, p.fd, ?_, ?_, ?_, p.us, ?_, ?_, ?_⟩, ⟨tl.nm, tl.rn, tl.fg, tl.wh, tl.rt, tl.us, tl.rf⟩, by rw [h]; rfl, rfl, rfl⟩ <;> (dsimp only; omega)
      · exact ⟨P, p, tl, by rw [h]; rfl, rfl, rfl⟩
    have eQ : (tuV [.tuple (P.zs.map Enc.e), .tuple (P.cs.map Enc.e), .tuple [.int Q.lv, .int Q.cm, .int Q.ld]] : Vl) = V Q := by rw [← hz, ← hc]; rfl
    rw [exb_cons, run_bd]
    simp [-exb_cons, hQ]
    rw [eQ]
    simp only [V]
    have u1 := planText_call (k := k + 47) q tq
    have u2 := readPlan_call (k := k + 45) q tq
    have u3 := planT_ok q tq
    have u4 := planT_inj q tq p tl
    simp only [V] at u1 u2
    (rw [exb_cons, run_bd]; simp [-exb_cons, w1, u1, u2, shp_okB, s1, u3, u4])
    have gM := houseOf_good a3
    have tM := houseOf_th a3
    (rw [exb_cons, run_bd]; simp [-exb_cons])
    generalize houseOf a3 = M at gM tM ⊢
    have x1 := houseText_call (k := k + 47) gM tM
    have x2 := houseT_ok gM tM
    have x3 := houseT_inj gM tM g tH
    simp only [V] at x1
    (rw [exb_cons, run_bd]; simp [-exb_cons, w2, x1, shp_okB, s2, x2, x3])
    have he := evOf_text p tp a3
    (rw [exb_cons, run_bd]; simp [-exb_cons, event_call p])
    generalize evOf P a3 = e at he ⊢
    have hre : Trow P (r ++ [e]) := fun y hy => by
      rcases List.mem_append.mp hy with h | h
      · exact ha y h
      · simp at h; rw [h]; exact he
    have y1 := rowText_call (k := k + 47) hre (by simp; omega)
    have y2 := readRow_call (k := k + 45) p hre (by simp; omega)
    have y3 := rowT_ok hre
    have y4 : ¬ rowT (r ++ [e]) = rowT r := fun h => by
      rw [rowT_append, rowT_one] at h
      have := congrArg (fun x => (TL.tl x).length) h
      simp [TL.tl_append, tl_NL] at this
    have eR : (r ++ [e]).map (Enc.e : Ev → D) = r.map Enc.e ++ [Enc.e e] := by simp
    rw [eR] at y1 y2
    have hz2 : r.length + 1 ≤ 16777216 := by omega
    have hrl : r.length ≤ 16777216 := by omega
    simp only [V] at y1 y2
    rw [exb_cons, run_bd]
    simp [-exb_cons, hz2, y1, y2, w3, y3, s3, y4, shp_okB]
    have h1 : PyData.eqvAll (r.map Enc.e ++ [Enc.e e]) (r.map Enc.e ++ [Enc.e e]) = true := by
      rw [← eR, eqvA_map]
      simp
    rw [if_pos h1, if_pos (hbo 1)]
end Dt
namespace Dw
theorem law50 (ns : List Int) (o : Ob) (h : ScrO ns o) : ∃ st, Phi fns 50 189 [.o 0] [o] = .ok (blV true) st := Dt.law_end3 h (F := f_law_k50) rfl rfl rfl (Dt.body50 h)
end Dw

namespace K50
open PySem Dw
def top (i : Nat) : Stmt := PySem.Challenge.pw_doorwatch_k50_whole_texts.main.body.getD i (.Pass ⟨0, 0, 0, 0⟩)
def inC (s : Stmt) (i : Nat) : Stmt := match s with | .ClassDef (body := b) .. => b.getD i (.Pass ⟨0, 0, 0, 0⟩) | s => s
def d_is_whole : DefS := ⟨1, none, "is_whole", top 29, ["thing", "low", "high"], ["thing", "low", "high"]⟩
def d_is_row : DefS := ⟨2, none, "is_row", top 30, ["thing", "many"], ["thing", "many"]⟩
def d_is_one_of : DefS := ⟨3, none, "is_one_of", top 31, ["thing", "some"], ["thing", "some"]⟩
def d_is_name : DefS := ⟨4, none, "is_name", top 32, ["thing", "sign"], ["thing"]⟩
def d_are_figures : DefS := ⟨5, none, "are_figures", top 33, ["thing", "sign"], ["thing"]⟩
def d_rises : DefS := ⟨6, none, "rises", top 34, ["row", "one", "other"], ["row"]⟩
def d_is_zone : DefS := ⟨7, none, "is_zone", top 35, ["thing"], ["thing"]⟩
def d_is_code : DefS := ⟨8, none, "is_code", top 36, ["thing", "part"], ["thing"]⟩
def d_are_times : DefS := ⟨9, none, "are_times", top 37, ["thing"], ["thing"]⟩
def d_is_plan : DefS := ⟨10, none, "is_plan", top 38, ["thing", "part"], ["thing"]⟩
def d_names_of : DefS := ⟨11, none, "names_of", top 39, ["plan", "zone"], ["plan"]⟩
def d_is_event : DefS := ⟨12, none, "is_event", top 40, ["plan", "thing"], ["plan", "thing"]⟩
def d_lines_text : DefS := ⟨156, none, "lines_text", top 47, ["lines", "words", "word"], ["lines"]⟩
def d_plan_text : DefS := ⟨182, none, "plan_text", top 48, ["plan", "lines", "name", "kind", "figures", "who", "rights", "uses"], ["plan"]⟩
def d_zone_word : DefS := ⟨183, none, "zone_word", top 49, ["zone"], ["zone"]⟩
def d_house_text : DefS := ⟨184, none, "house_text", top 50, ["house", "lines", "one", "other", "zone"], ["house"]⟩
def d_event_words : DefS := ⟨157, none, "event_words", top 51, ["event", "word"], ["event"]⟩
def d_row_text : DefS := ⟨158, none, "row_text", top 52, ["row", "event"], ["row"]⟩
def d_is_opening : DefS := ⟨33, none, "is_opening", top 57, ["thing", "rooms"], ["thing", "rooms"]⟩
def d_is_house : DefS := ⟨34, none, "is_house", top 58, ["thing", "part"], ["thing"]⟩
def d_need : DefS := ⟨159, none, "need", top 60, ["good"], ["good"]⟩
def d_number_of : DefS := ⟨160, none, "number_of", top 61, ["word", "sign"], ["word"]⟩
def d_lines_of : DefS := ⟨161, none, "lines_of", top 62, ["text", "lines", "line"], ["text"]⟩
def d_read_plan : DefS := ⟨185, none, "read_plan", top 63, ["text", "lines", "times", "zones", "codes", "words", "found", "word"], ["text"]⟩
def d_opening_of : DefS := ⟨186, none, "opening_of", top 64, ["words", "zone"], ["words"]⟩
def d_read_house : DefS := ⟨187, none, "read_house", top 65, ["text", "lines", "found", "words"], ["text"]⟩
def d_event_of : DefS := ⟨162, none, "event_of", top 66, ["words"], ["words"]⟩
def d_read_row : DefS := ⟨163, none, "read_row", top 67, ["plan", "text", "found", "words", "event"], ["plan", "text"]⟩
def d_law_cell_at : DefS := ⟨13, none, "_law_cell_at", top 69, ["_law_script", "_law_k"], ["_law_script", "_law_k"]⟩
def d_law_mixed : DefS := ⟨14, none, "_law_mixed", top 70, ["_law_script", "_law_k", "_law_drawn_here"], ["_law_script", "_law_k"]⟩
def d_law_drawn_v2 : DefS := ⟨51, none, "_law_drawn", top 71, ["_law_number", "_law_k", "_law_drawn_here"], ["_law_number", "_law_k"]⟩
def d_law_plan_v2 : DefS := ⟨52, none, "_law_plan", top 72, ["_law_number", "_law_zones", "_law_k", "_law_name", "_law_drawn_here", "_law_codes", "_law_figures", "_law_rights", "_law_who", "_law_times", "_law_j"], ["_law_number"]⟩
def d_law_event_v2 : DefS := ⟨53, none, "_law_event", top 73, ["_law_plan_here", "_law_number", "_law_zone", "_law_kind", "_law_figures", "_law_deed"], ["_law_plan_here", "_law_number"]⟩
def d_law_row_v2 : DefS := ⟨54, none, "_law_row", top 74, ["_law_plan_here", "_law_number", "_law_most", "_law_row_here", "_law_k"], ["_law_plan_here", "_law_number", "_law_most"]⟩
def d_law_house_v2 : DefS := ⟨109, none, "_law_house", top 75, ["_law_number", "_law_rooms", "_law_openings", "_law_k", "_law_drawn_here", "_law_one", "_law_other", "_law_zone"], ["_law_number"]⟩
def d_law_lines : DefS := ⟨188, none, "_law_lines", top 76, ["_law_lines_here", "_law_found", "_law_line", "_law_word"], ["_law_lines_here"]⟩
def d_law_k50 : DefS := ⟨189, none, "law", top 77, ["_law_script", "_law_plan_here", "_law_house_here", "_law_row_here", "_law_lines_here", "_law_figures", "_law_who", "_law_rights", "_law_uses", "_law_rooms", "_law_number", "_law_new", "_law_other", "_law_more", "_law_event_here", "_law_zone", "_law_one"], ["_law_script"]⟩
def T : Tx := {
  fns := fns,
  inf := [⟨1, "is_whole", ["thing", "low", "high"], none⟩,
  ⟨2, "is_row", ["thing", "many"], none⟩,
  ⟨3, "is_one_of", ["thing", "some"], none⟩,
  ⟨4, "is_name", ["thing"], none⟩,
  ⟨5, "are_figures", ["thing"], none⟩,
  ⟨6, "rises", ["row"], none⟩,
  ⟨7, "is_zone", ["thing"], none⟩,
  ⟨8, "is_code", ["thing"], none⟩,
  ⟨9, "are_times", ["thing"], none⟩,
  ⟨10, "is_plan", ["thing"], none⟩,
  ⟨11, "names_of", ["plan"], none⟩,
  ⟨12, "is_event", ["plan", "thing"], none⟩,
  ⟨156, "lines_text", ["lines"], none⟩,
  ⟨182, "plan_text", ["plan"], none⟩,
  ⟨183, "zone_word", ["zone"], none⟩,
  ⟨184, "house_text", ["house"], none⟩,
  ⟨157, "event_words", ["event"], none⟩,
  ⟨158, "row_text", ["row"], none⟩,
  ⟨33, "is_opening", ["thing", "rooms"], none⟩,
  ⟨34, "is_house", ["thing"], none⟩,
  ⟨159, "need", ["good"], none⟩,
  ⟨160, "number_of", ["word"], none⟩,
  ⟨161, "lines_of", ["text"], none⟩,
  ⟨185, "read_plan", ["text"], none⟩,
  ⟨186, "opening_of", ["words"], none⟩,
  ⟨187, "read_house", ["text"], none⟩,
  ⟨162, "event_of", ["words"], none⟩,
  ⟨163, "read_row", ["plan", "text"], none⟩,
  ⟨13, "_law_cell_at", ["_law_script", "_law_k"], none⟩,
  ⟨14, "_law_mixed", ["_law_script", "_law_k"], none⟩,
  ⟨51, "_law_drawn", ["_law_number", "_law_k"], none⟩,
  ⟨52, "_law_plan", ["_law_number"], none⟩,
  ⟨53, "_law_event", ["_law_plan_here", "_law_number"], none⟩,
  ⟨54, "_law_row", ["_law_plan_here", "_law_number", "_law_most"], none⟩,
  ⟨109, "_law_house", ["_law_number"], none⟩,
  ⟨188, "_law_lines", ["_law_lines_here"], none⟩],
  cls := [],
  con := [("CODE", .str "code"), ("CODE_SIZE", .int 4), ("CUT", .str "cut"), ("FIGURES", .str "0123456789"), ("FREE", .str "free"), ("KINDS", .tuple [.str "day", .str "inner", .str "once", .str "way"]), ("LETTERS", .str "abcdefghijklmnopqrstuvwxyz"), ("LINE", .str "line"), ("MOST_CODES", .int 6), ("MOST_DELAY", .int 60), ("MOST_LOUD", .int 300), ("MOST_NAME", .int 4), ("MOST_OPENINGS", .int 10), ("MOST_ROOMS", .int 7), ("MOST_USES", .int 9), ("MOST_ZONES", .int 8), ("NO_ZONE", .str "-"), ("OPEN", .str "open"), ("OUTSIDE", .int 0), ("RIGHTS", .tuple [.str "set", .str "shunt", .str "unset"]), ("ROOMS", .str "rooms"), ("ROW_END", .str "\n"), ("SET", .str "set"), ("SHUNT", .str "shunt"), ("SHUT", .str "shut"), ("TICKS", .str "ticks"), ("TIMES", .str "times"), ("UNSET", .str "unset"), ("ZONE", .str "zone")],
  blt := ["all", "bool", "enumerate", "int", "isinstance", "len", "max", "min", "range", "repr", "str", "tuple", "zip"],
  exc := [(1, "DoorError"), (5, "NoText")],
  tol := [],
  lw := "law" }
def defs : List DefS := [d_is_whole, d_is_row, d_is_one_of, d_is_name, d_are_figures, d_rises, d_is_zone, d_is_code, d_are_times, d_is_plan, d_names_of, d_is_event, d_lines_text, d_plan_text, d_zone_word, d_house_text, d_event_words, d_row_text, d_is_opening, d_is_house, d_need, d_number_of, d_lines_of, d_read_plan, d_opening_of, d_read_house, d_event_of, d_read_row, d_law_cell_at, d_law_mixed, d_law_drawn_v2, d_law_plan_v2, d_law_event_v2, d_law_row_v2, d_law_house_v2, d_law_lines, d_law_k50]
def tds : List DefS := []
theorem bndT : ∀ d ∈ tds, BndS d := by
  intro d hd
  cases hd
theorem c_is_whole : chkD T d_is_whole = true := by decide +kernel
theorem b_is_whole : BndS d_is_whole := fun _ _ _ _ _ _ _ us hl => match us, hl with | [_, _, _], _ => rfl
theorem c_is_row : chkD T d_is_row = true := by decide +kernel
theorem b_is_row : BndS d_is_row := fun _ _ _ _ _ _ _ us hl => match us, hl with | [_, _], _ => rfl
theorem c_is_one_of : chkD T d_is_one_of = true := by decide +kernel
theorem b_is_one_of : BndS d_is_one_of := fun _ _ _ _ _ _ _ us hl => match us, hl with | [_, _], _ => rfl
theorem c_is_name : chkD T d_is_name = true := by decide +kernel
theorem b_is_name : BndS d_is_name := fun _ _ _ _ _ _ _ us hl => match us, hl with | [_], _ => rfl
theorem c_are_figures : chkD T d_are_figures = true := by decide +kernel
theorem b_are_figures : BndS d_are_figures := fun _ _ _ _ _ _ _ us hl => match us, hl with | [_], _ => rfl
theorem c_rises : chkD T d_rises = true := by decide +kernel
theorem b_rises : BndS d_rises := fun _ _ _ _ _ _ _ us hl => match us, hl with | [_], _ => rfl
theorem c_is_zone : chkD T d_is_zone = true := by decide +kernel
theorem b_is_zone : BndS d_is_zone := fun _ _ _ _ _ _ _ us hl => match us, hl with | [_], _ => rfl
theorem c_is_code : chkD T d_is_code = true := by decide +kernel
theorem b_is_code : BndS d_is_code := fun _ _ _ _ _ _ _ us hl => match us, hl with | [_], _ => rfl
theorem c_are_times : chkD T d_are_times = true := by decide +kernel
theorem b_are_times : BndS d_are_times := fun _ _ _ _ _ _ _ us hl => match us, hl with | [_], _ => rfl
theorem c_is_plan : chkD T d_is_plan = true := by decide +kernel
theorem b_is_plan : BndS d_is_plan := fun _ _ _ _ _ _ _ us hl => match us, hl with | [_], _ => rfl
theorem c_names_of : chkD T d_names_of = true := by decide +kernel
theorem b_names_of : BndS d_names_of := fun _ _ _ _ _ _ _ us hl => match us, hl with | [_], _ => rfl
theorem c_is_event : chkD T d_is_event = true := by decide +kernel
theorem b_is_event : BndS d_is_event := fun _ _ _ _ _ _ _ us hl => match us, hl with | [_, _], _ => rfl
theorem c_lines_text : chkD T d_lines_text = true := by decide +kernel
theorem b_lines_text : BndS d_lines_text := fun _ _ _ _ _ _ _ us hl => match us, hl with | [_], _ => rfl
theorem c_plan_text : chkD T d_plan_text = true := by decide +kernel
theorem b_plan_text : BndS d_plan_text := fun _ _ _ _ _ _ _ us hl => match us, hl with | [_], _ => rfl
theorem c_zone_word : chkD T d_zone_word = true := by decide +kernel
theorem b_zone_word : BndS d_zone_word := fun _ _ _ _ _ _ _ us hl => match us, hl with | [_], _ => rfl
theorem c_house_text : chkD T d_house_text = true := by decide +kernel
theorem b_house_text : BndS d_house_text := fun _ _ _ _ _ _ _ us hl => match us, hl with | [_], _ => rfl
theorem c_event_words : chkD T d_event_words = true := by decide +kernel
theorem b_event_words : BndS d_event_words := fun _ _ _ _ _ _ _ us hl => match us, hl with | [_], _ => rfl
theorem c_row_text : chkD T d_row_text = true := by decide +kernel
theorem b_row_text : BndS d_row_text := fun _ _ _ _ _ _ _ us hl => match us, hl with | [_], _ => rfl
theorem c_is_opening : chkD T d_is_opening = true := by decide +kernel
theorem b_is_opening : BndS d_is_opening := fun _ _ _ _ _ _ _ us hl => match us, hl with | [_, _], _ => rfl
theorem c_is_house : chkD T d_is_house = true := by decide +kernel
theorem b_is_house : BndS d_is_house := fun _ _ _ _ _ _ _ us hl => match us, hl with | [_], _ => rfl
theorem c_need : chkD T d_need = true := by decide +kernel
theorem b_need : BndS d_need := fun _ _ _ _ _ _ _ us hl => match us, hl with | [_], _ => rfl
theorem c_number_of : chkD T d_number_of = true := by decide +kernel
theorem b_number_of : BndS d_number_of := fun _ _ _ _ _ _ _ us hl => match us, hl with | [_], _ => rfl
theorem c_lines_of : chkD T d_lines_of = true := by decide +kernel
theorem b_lines_of : BndS d_lines_of := fun _ _ _ _ _ _ _ us hl => match us, hl with | [_], _ => rfl
theorem c_read_plan : chkD T d_read_plan = true := by decide +kernel
theorem b_read_plan : BndS d_read_plan := fun _ _ _ _ _ _ _ us hl => match us, hl with | [_], _ => rfl
theorem c_opening_of : chkD T d_opening_of = true := by decide +kernel
theorem b_opening_of : BndS d_opening_of := fun _ _ _ _ _ _ _ us hl => match us, hl with | [_], _ => rfl
theorem c_read_house : chkD T d_read_house = true := by decide +kernel
theorem b_read_house : BndS d_read_house := fun _ _ _ _ _ _ _ us hl => match us, hl with | [_], _ => rfl
theorem c_event_of : chkD T d_event_of = true := by decide +kernel
theorem b_event_of : BndS d_event_of := fun _ _ _ _ _ _ _ us hl => match us, hl with | [_], _ => rfl
theorem c_read_row : chkD T d_read_row = true := by decide +kernel
theorem b_read_row : BndS d_read_row := fun _ _ _ _ _ _ _ us hl => match us, hl with | [_, _], _ => rfl
theorem c_law_cell_at : chkD T d_law_cell_at = true := by decide +kernel
theorem b_law_cell_at : BndS d_law_cell_at := fun _ _ _ _ _ _ _ us hl => match us, hl with | [_, _], _ => rfl
theorem c_law_mixed : chkD T d_law_mixed = true := by decide +kernel
theorem b_law_mixed : BndS d_law_mixed := fun _ _ _ _ _ _ _ us hl => match us, hl with | [_, _], _ => rfl
theorem c_law_drawn_v2 : chkD T d_law_drawn_v2 = true := by decide +kernel
theorem b_law_drawn_v2 : BndS d_law_drawn_v2 := fun _ _ _ _ _ _ _ us hl => match us, hl with | [_, _], _ => rfl
theorem c_law_plan_v2 : chkD T d_law_plan_v2 = true := by decide +kernel
theorem b_law_plan_v2 : BndS d_law_plan_v2 := fun _ _ _ _ _ _ _ us hl => match us, hl with | [_], _ => rfl
theorem c_law_event_v2 : chkD T d_law_event_v2 = true := by decide +kernel
theorem b_law_event_v2 : BndS d_law_event_v2 := fun _ _ _ _ _ _ _ us hl => match us, hl with | [_, _], _ => rfl
theorem c_law_row_v2 : chkD T d_law_row_v2 = true := by decide +kernel
theorem b_law_row_v2 : BndS d_law_row_v2 := fun _ _ _ _ _ _ _ us hl => match us, hl with | [_, _, _], _ => rfl
theorem c_law_house_v2 : chkD T d_law_house_v2 = true := by decide +kernel
theorem b_law_house_v2 : BndS d_law_house_v2 := fun _ _ _ _ _ _ _ us hl => match us, hl with | [_], _ => rfl
theorem c_law_lines : chkD T d_law_lines = true := by decide +kernel
theorem b_law_lines : BndS d_law_lines := fun _ _ _ _ _ _ _ us hl => match us, hl with | [_], _ => rfl
theorem c_law_k50 : chkD T d_law_k50 = true := by decide +kernel
theorem b_law_k50 : BndS d_law_k50 := fun _ _ _ _ _ _ _ us hl => match us, hl with | [_], _ => rfl
theorem chk : ∀ d ∈ defs, chkD T d = true := by
  intro d hd
  simp only [defs, List.mem_cons, List.not_mem_nil, or_false] at hd
  rcases hd with rfl | rfl | rfl | rfl | rfl | rfl | rfl | rfl | rfl | rfl | rfl | rfl | rfl | rfl | rfl | rfl | rfl | rfl | rfl | rfl | rfl | rfl | rfl | rfl | rfl | rfl | rfl | rfl | rfl | rfl | rfl | rfl | rfl | rfl | rfl | rfl | rfl
  · exact c_is_whole
  · exact c_is_row
  · exact c_is_one_of
  · exact c_is_name
  · exact c_are_figures
  · exact c_rises
  · exact c_is_zone
  · exact c_is_code
  · exact c_are_times
  · exact c_is_plan
  · exact c_names_of
  · exact c_is_event
  · exact c_lines_text
  · exact c_plan_text
  · exact c_zone_word
  · exact c_house_text
  · exact c_event_words
  · exact c_row_text
  · exact c_is_opening
  · exact c_is_house
  · exact c_need
  · exact c_number_of
  · exact c_lines_of
  · exact c_read_plan
  · exact c_opening_of
  · exact c_read_house
  · exact c_event_of
  · exact c_read_row
  · exact c_law_cell_at
  · exact c_law_mixed
  · exact c_law_drawn_v2
  · exact c_law_plan_v2
  · exact c_law_event_v2
  · exact c_law_row_v2
  · exact c_law_house_v2
  · exact c_law_lines
  · exact c_law_k50
theorem bnd : ∀ d ∈ defs, BndS d := by
  intro d hd
  simp only [defs, List.mem_cons, List.not_mem_nil, or_false] at hd
  rcases hd with rfl | rfl | rfl | rfl | rfl | rfl | rfl | rfl | rfl | rfl | rfl | rfl | rfl | rfl | rfl | rfl | rfl | rfl | rfl | rfl | rfl | rfl | rfl | rfl | rfl | rfl | rfl | rfl | rfl | rfl | rfl | rfl | rfl | rfl | rfl | rfl | rfl
  · exact b_is_whole
  · exact b_is_row
  · exact b_is_one_of
  · exact b_is_name
  · exact b_are_figures
  · exact b_rises
  · exact b_is_zone
  · exact b_is_code
  · exact b_are_times
  · exact b_is_plan
  · exact b_names_of
  · exact b_is_event
  · exact b_lines_text
  · exact b_plan_text
  · exact b_zone_word
  · exact b_house_text
  · exact b_event_words
  · exact b_row_text
  · exact b_is_opening
  · exact b_is_house
  · exact b_need
  · exact b_number_of
  · exact b_lines_of
  · exact b_read_plan
  · exact b_opening_of
  · exact b_read_house
  · exact b_event_of
  · exact b_read_row
  · exact b_law_cell_at
  · exact b_law_mixed
  · exact b_law_drawn_v2
  · exact b_law_plan_v2
  · exact b_law_event_v2
  · exact b_law_row_v2
  · exact b_law_house_v2
  · exact b_law_lines
  · exact b_law_k50
theorem well : wellT T defs = true := by decide +kernel
theorem welltol : wellTol T tds = true := by decide +kernel
end K50
set_option maxHeartbeats 0
namespace K50
open PySem PySem.Spec PyProof.Rows L2 Dw
def names : List PySem.Str := (["__name__", "DoorError", "NoText", "LETTERS", "FIGURES", "MOST_NAME", "CODE_SIZE", "MOST_ZONES", "MOST_CODES", "MOST_USES", "MOST_DELAY", "MOST_LOUD", "DAY", "INNER", "ONCE", "WAY", "KINDS", "SET", "UNSET", "SHUNT", "FREE", "RIGHTS", "SHUT", "OPEN", "CUT", "LINE", "CODE", "TICKS", "is_whole", "is_row"] : List PySem.Str) ++ (["is_one_of", "is_name", "are_figures", "rises", "is_zone", "is_code", "are_times", "is_plan", "names_of", "is_event", "ROW_END", "NO_ZONE", "TIMES", "ZONE", "ROOMS", "lines_text", "plan_text", "zone_word", "house_text", "event_words", "row_text", "MOST_ROOMS", "MOST_OPENINGS", "OUTSIDE", "is_opening", "is_house", "need", "number_of", "lines_of", "read_plan"] : List PySem.Str) ++ (["opening_of", "read_house", "event_of", "read_row", "_law_cell_at", "_law_mixed", "_law_drawn", "_law_plan", "_law_event", "_law_row", "_law_house", "_law_lines"] : List PySem.Str)
abbrev R : PySem.W.OpenRow := PySem.W.OpenLaw.row PySem.Challenge.rw_doorwatch_k50_whole_texts
def fa : List He.Fa := factsOf T
def fn : List He.DefD := (defs ++ tds).map DefS.dd
def exc (K : PySem.W.Frag) : Bool := excB T defs K
abbrev hk : PySem.W.Hook := He.hookX 6 fa fn [] (tfs defs) exc
def ob (s : PySem.W.SharedT) : He.AlX := He.obsX 6 fa fn [] (tfs defs) exc (HandSHeadRun.getT s)
theorem ob_eq (s : PySem.W.SharedT) : ob s = hk.obs s.abs := He.obsX_eq (HandSHeadRun.getT_eq s)
theorem run (w : World) : HandSHeadRun.RunEq R (PySem.W.view R.prog [77]) hk ob 6000 names w := by
  intro os
  kernel_rfl
theorem math : ∀ ns : List Int, ns.length ≤ 63 → ∀ o : Ob, o = .scr (ns.map .int) ∨ o = .lst (ns.map .int) → ∃ st, Phi T.fns 50 189 [.o 0] [o] = .ok (blV true) st := fun ns _ o h => Dw.law50 ns o h
end K50
open PySem PySem.W PySem.Calls PyProof.Rows
theorem PySem.Challenge.cw_doorwatch_k50_whole_texts_holds : PySem.Challenge.rw_doorwatch_k50_whole_texts.Holds := by
  w_on; o_law
  refine HandSHeadRun.head_any (r := OpenLaw.row PySem.Challenge.rw_doorwatch_k50_whole_texts) (q := view (OpenLaw.row PySem.Challenge.rw_doorwatch_k50_whole_texts).prog [77]) (H := K50.hk) (ob := K50.ob) (M := 6000) (loose := K50.names) (d := HandSHeadRun.topDef (OpenLaw.row PySem.Challenge.rw_doorwatch_k50_whole_texts).prog 77) (kwd := []) K50.ob_eq
    (by kernel_rfl) (fun s => by kernel_rfl) K50.run (by kernel_rfl) (by kernel_rfl) (by kernel_rfl) (by rfl) (by first | assumption | decide +kernel) (by decide +kernel) ⟨rfl, rfl, rfl, rfl, rfl, by decide +kernel⟩ ?hw ?hc
  case hw => w_witness2
  case hc =>
    exact Dw.law_walk (l := PySem.Challenge.rw_doorwatch_k50_whole_texts) (T := K50.T) (defs := K50.defs) (tds := K50.tds) (n := 63) (k := 50) (x := "_law_script") (D := K50.d_law_k50) rfl (by decide) (by kernel_rfl) ⟨rfl, by decide, by decide⟩ (by kernel_rfl) K50.well K50.welltol K50.chk K50.bnd K50.bndT (by simp [K50.defs]) rfl rfl rfl K50.math
