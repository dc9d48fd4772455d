import PyProof.Rows.All
import HandS.ForMost
import HandS.Zip
import KE.GoesMore
import KE.GoesEnum
import Wide.All
import OpenK.AllK
import Wide.FinOn
import HandS.Exc
import KE.SortKeyed
import KE.SortCalls
import HandS.TupAny
import HandS.TupMul
import HandS.TupLe
import HandS.Deep
import HandS.Style
import PyProof.P3In
import HandS.RaiseMore
import HandS.Text
import HandS.IsInst
import HandS.WordsExc
import HandS.Defaults
import HandS.Head0
import HandS.Head1
import HandS.Head2
import HandS.HeadEnd
import HandS.HeadHook1
import HandS.HeadHook2
import HandS.HeadHook3
import HandS.HeadHook4
import Lean
import PySem.Challenge.RW_doorwatch_k32_whole_walks_put_together
set_option Elab.async false
set_option linter.all false
set_option maxRecDepth 100000
set_option maxHeartbeats 8000000
namespace PySem
open Sem (wp)
open AutoSeq1 (wpAny_loadPart')
theorem dw_enumerate_new {v : Value} {o : Obj} {H : Heap → Prop} (B : Begins v o H) :
    Meets (Builtin.«enumerate.__new__» ⟨[.type "enumerate", v], []⟩) (fun _ R s => H s.heap ∧
      R (.ok (.ret (.ref (s.heap.push o).objs.size))) { s with heap := (s.heap.push o).push { cls := .type "enumerate", data := .fields #[.none, .bool false, .ref s.heap.objs.size, rawInt 0, .none, .none] } }) :=
  .of_wp fun prog w A R s h => by
    obtain ⟨hp, g, d, tk, os⟩ := s; obtain ⟨h1, h⟩ := h
    have hsub := sub_enumerate
    have q1 : ∀ {A' : Around} {E : Value → Shared → Prop} {Q : Value → Shared → Prop}, Q (.ref hp.objs.size) ⟨hp.push o, g, d, tk, os⟩ → wpAny (model prog w) A' (pyIter v) Q E ⟨hp, g, d, tk, os⟩ :=
      fun q => B.iter prog w _ _ ⟨hp, g, d, tk, os⟩ _ h1 q
    wp_walk using q1
    refine wpAny_stack_any fun st => wpAny_pure ?_
    split
    · rename_i c _ _ _ _ _
      cases (c == Value.type "enumerate")
      · wp_walk using q1
        exact ⟨_, rfl, h⟩
      · wp_walk using q1
        exact ⟨_, rfl, h⟩
    · wp_walk using q1
      exact ⟨_, rfl, h⟩
theorem dw_enum_begins {prog : Program} {w : World} {A : Around} {E : Value → Shared → Prop} {s : Shared} {v : Value} {o : Obj} {H : Heap → Prop} {Q : Value → Shared → Prop} (B : Begins v o H) (h1 : H s.heap)
    (h : ∀ h', IsEnum h' (s.heap.objs.size + 1) s.heap.objs.size 0 .none → h'.get? s.heap.objs.size = some o → h'.objs.size = s.heap.objs.size + 2 →
      (∀ b o, s.heap.get? b = some o → h'.get? b = some o) → Q (.ref (s.heap.objs.size + 1)) { s with heap := h' }) :
    wpAny (model prog w) A (call (.type "enumerate") [v]) Q E s := by
  refine callType_new F.called_enumerate (by decide) (F.typeCall_enumerate_1 _) (F.newCall_enumerate_1 _) (fun obj => F.args_object_init_2 obj _) F.entry_enumerate_new
    (dw_enumerate_new B) ⟨h1, ?_⟩
  have hz : (s.heap.push o).objs.size = s.heap.objs.size + 1 := Heap.size_push ..
  show _ ∧ _
  rw [hz]
  have he : IsEnum ((s.heap.push o).push { cls := .type "enumerate", data := .fields #[.none, .bool false, .ref s.heap.objs.size, rawInt 0, .none, .none] }) (s.heap.objs.size + 1) s.heap.objs.size 0 .none := by
    have := Heap.get?_push_size (s.heap.push o) (o := { cls := .type "enumerate", data := .fields #[.none, .bool false, .ref s.heap.objs.size, rawInt 0, .none, .none] }) rfl
    rw [hz] at this; exact this
  exact ⟨⟨_, he, rfl⟩, h _ he (Heap.get?_push_of_some _ (Heap.get?_push_size _ B.free)) (by rw [Heap.size_push, hz]) fun b o x => Heap.get?_push_of_some _ (Heap.get?_push_of_some _ x)⟩
end PySem
namespace Dw
open PySem L2
/-- a list (t = false) or a tuple at a -/
def SqK (K : PySem.W.Frag) (t : Bool) (H : Hp) (a : Addr) (xs : List V) : Prop := match t with
  | false => SqL K H a xs
  | true => SqT K H a xs
/-- its iterator at place i -/
def ItK (t : Bool) (h : Heap) (it a : Addr) (i : Nat) : Prop := match t with
  | false => h.IsListIter it a i
  | true => h.IsTupleIter it a i
def IsK (t : Bool) (h : Heap) (a : Addr) (items : Array Value) : Prop := match t with
  | false => h.IsList a items
  | true => h.IsTuple a items
def ItO (t : Bool) (a : Addr) : Obj := match t with
  | false => { cls := .type "list_iterator", data := .fields #[.ref a, .int 0 0] }
  | true => { cls := .type "tuple_iterator", data := .fields #[.ref a, .int 0 0] }
theorem ItK.at {t : Bool} {h h' : Heap} {it a : Addr} {i : Nat} (x : ItK t h it a i) (k : ∀ o, h.get? it = some o → h'.get? it = some o) : ItK t h' it a i := by
  cases t with
  | false => exact Heap.IsListIter.at x k
  | true => exact Heap.IsTupleIter.at x k
theorem ItK.obj {t : Bool} {h : Heap} {it a : Addr} {i : Nat} (x : ItK t h it a i) : ∃ o, h.get? it = some o ∧ ∀ v, o.data ≠ .cell v := by
  cases t with
  | false =>
    obtain ⟨o, e, _, d⟩ := x
    exact ⟨o, e, fun v z => by rw [d] at z; cases z⟩
  | true =>
    obtain ⟨o, e, _, d⟩ := x
    exact ⟨o, e, fun v z => by rw [d] at z; cases z⟩
theorem itk_new {t : Bool} {h : Heap} {it a : Addr} (x : h.get? it = some (ItO t a)) : ItK t h it a 0 := by
  cases t with
  | false => exact ⟨_, x, rfl, rfl⟩
  | true => exact ⟨_, x, rfl, rfl⟩
theorem begK (t : Bool) (a : Addr) (items : Array Value) : Begins (.ref a) (ItO t a) (fun h => IsK t h a items) := by
  cases t with
  | false => exact begins_list a items
  | true => exact begins_tuple a items
theorem drawsK {prog : Program} {w : World} {A : Around} (t : Bool) (hh : A.handled = none) (it a : Addr) (hne : a ≠ it) (items : Array Value) :
    Draws prog w A it [it, a] items.size (fun i v => items[i]? = some v) (fun i h => ItK t h it a i ∧ IsK t h a items) := by
  cases t with
  | false => exact Draws.list hh it a hne items
  | true => exact Draws.tuple hh it a hne items
theorem isK_of {X : Cx} {pins : List (Addr × Obj)} {σ : L2.St} {H : Hp} {s : Shared} {t : Bool} {a : Addr} {xs : List V} (I : Inv X pins σ H s) (h : SqK X.K t H a xs) :
    ∃ its : List Value, Vals xs its ∧ IsK t s.heap a its.toArray ∧ a < s.heap.objs.size := by
  cases t with
  | false =>
    obtain ⟨its, r, p, _⟩ := I.list h
    exact ⟨its, r, p.isList, p.lt⟩
  | true =>
    obtain ⟨its, r, p, _⟩ := I.tuple h
    exact ⟨its, r, p, p.lt⟩
theorem sqK_inj {X : Cx} {pins : List (Addr × Obj)} {σ : L2.St} {H : Hp} {s : Shared} {t : Bool} {a : Addr} {xs ys : List V} (I : Inv X pins σ H s) (h : SqK X.K t H a xs) (h' : SqK X.K t H a ys) : xs = ys := by
  cases t with
  | false => exact I.list_inj h h'
  | true => exact I.tuple_inj h h'
/-! ### enumerate -/
def IteK (K : PySem.W.Frag) (t : Bool) (a : Addr) : It :=
  ⟨fun i H => ∃ (xs : List V) (x : V), SqK K t H a xs ∧ xs[i]? = some x, fun i H v H' => ∃ T x, v = .ref T ∧ H T = none ∧ H' = upd H T (.tup [.int (i : Nat), x]) ∧ ∀ xs, SqK K t H a xs → xs[i]? = some x, fun i H => ∃ xs : List V, SqK K t H a xs ∧ xs.length = i⟩
theorem turn_enumK {P : Program} {w : World} {K : PySem.W.Frag} {elts : List Expr} {kk : Nat} {tpos : Pos} {t : Bool} (a e it : Addr) (hea : e ≠ a) (hia : a ≠ it) :
    Turn P w K (.Tuple elts kk tpos) (IteK K t a) [e, it] e (fun i h => (∃ old, IsEnum h e it ((i : Nat) : Int) old) ∧ ItK t h it a i ∧ e ≠ it) where
  mem := by simp
  obj := fun i h st b hb => by
    obtain ⟨⟨old, he⟩, hi, _⟩ := st
    have e' : b = e ∨ b = it := by simpa using hb
    rcases e' with z | z
    · rw [z]; exact ⟨_, he, fun v q => nomatch q⟩
    · rw [z]; exact hi.obj
  keep := fun i h h' st k => let ⟨⟨old, he⟩, hi, hne⟩ := st; ⟨⟨old, k e (by simp) _ he⟩, hi.at fun o q => k it (by simp) o q, hne⟩
  item := by
    intro X hP hw hK hc i pins s σ H E I hf st hg
    subst hP hw hK
    obtain ⟨⟨old, he⟩, hit, hne⟩ := st
    obtain ⟨xs, x, hq, hx⟩ := hg
    obtain ⟨its, rv, p, _⟩ := isK_of I hq
    obtain ⟨u, hu, ru⟩ := rv.get hx
    have hel : e < s.heap.objs.size := Heap.lt_size he
    have hil : it < s.heap.objs.size := by obtain ⟨_, q, _⟩ := hit.obj; exact Heap.lt_size q
    have hlt : i < its.toArray.size := by
      have := (List.getElem?_eq_some_iff.mp hu).1
      simpa using this
    have D := drawsK (prog := X.prog) (w := X.w) (A := X.A.in1) t (I.ok.hd hc) it a hia its.toArray
    refine wpAny_pyNext_enum_itemD D he ⟨hit, p⟩ hlt hne (by simp [hne, hea]) fun x' h' tk hP ho st' hT hsz hk => ?_
    have ex : x' = u := by
      have e1 : its.toArray[i]? = some u := by simpa using hu
      rw [e1] at hP
      exact (Option.some.inj hP).symm
    subst ex
    refine ⟨_, rfl, wpAny_letOwnedTupleGo_enum (s := { s with heap := h', toks := tk + 1 }) ho fun h'' he' sb => ?_⟩
    have hT2 : h''.get? s.heap.objs.size = some { cls := .type "tuple", data := .seq #[.int i tk, x'] } := (sb.2 _ (Nat.ne_of_gt hel)).trans hT
    have new : ObjOk X.prog X.w (upd H s.heap.objs.size (.tup [.int (i : Nat), x])) h'' s.heap.objs.size (.tup [.int (i : Nat), x]) :=
      ⟨by show 2 ≤ sizeLine; decide, [.int i tk, x'], .cons ⟨_, rfl⟩ (.cons ru .nil), ⟨_, hT2, rfl, _, rfl⟩⟩
    have I1 : Inv X pins σ (upd H s.heap.objs.size (.tup [.int (i : Nat), x])) { s with heap := h'', toks := tk + 1 } :=
      I.turnedNew (ch := [e, it]) (fun b ob hb q => (sb.2 b (fun z => hb (by simp [z]))).trans (hk b ob (fun z => hb (by simp [z])) (fun z => hb (by simp [z])) q)) hf (Nat.le_refl _) new
    refine ⟨.ref s.heap.objs.size, _, I1, rfl, ⟨_, x, rfl, I.hok.fresh (Nat.le_refl _), rfl, fun ys hy => by rw [sqK_inj I hy hq]; exact hx⟩, ⟨⟨x', ?_⟩, st'.1.at fun o q => (sb.2 it (Ne.symm hne)).trans q, hne⟩, fun b hb => ?_⟩
    · have e1 : ((i + 1 : Nat) : Int) = (i : Int) + 1 := by omega
      rw [e1]; exact he'
    · have hb' : b < s.heap.objs.size := by
        have e' : b = e ∨ b = it := by simpa using hb
        rcases e' with z | z
        · rw [z]; exact hel
        · rw [z]; exact hil
      rw [upd_ne (Nat.ne_of_lt hb')]
      exact (hf b hb).1
  done := by
    intro X hP hw hK hc i pins s σ H E I hf st hg
    subst hP hw hK
    obtain ⟨⟨old, he⟩, hit, hne⟩ := st
    obtain ⟨xs, hq, hx⟩ := hg
    obtain ⟨its, rv, p, _⟩ := isK_of I hq
    obtain ⟨f0, f1, f2, f3, f4, f5⟩ := hf it (by simp)
    have hl := rv.length
    have hn : its.toArray.size = i := by simp; omega
    have D := drawsK (prog := X.prog) (w := X.w) (A := X.A.in1) t (I.ok.hd hc) it a hia its.toArray
    refine wpAny_pyNext_enum_endD D he (by rw [hn]; exact ⟨hit, p⟩) fun h' eb => ⟨rfl, I.turned (t' := s.toks) (fun b o hb q => eb b o hb q) f0 f1 f3 f4 f5⟩
  self := fun A i s Q E st h => let ⟨⟨_, he⟩, _⟩ := st; wpAny_pyIter_enum he h
def iEnumK (K : PySem.W.Frag) (ta : TA) : TI := fun σ H R => ta σ H fun vs H1 => ∃ t a xs, vs = [.ref a] ∧ SqK K t H1 a xs ∧ R (IteK K t a) H1
theorem pi_enumK {X : Cx} {e : Expr} {ta : TA} {p pos tpos : Pos} {elts : List Expr} {kk : Nat} (hg : Gl X "enumerate") (hm : X.mg "enumerate" = none) (ha : PA X [e] ta) (hs : starEach [e] X.env = [(false, eval e X.env)]) :
    PI X (.Tuple elts kk tpos) (.Call (.Name "enumerate" p) [e] [] pos) (iEnumK X.K ta) := by
  refine ⟨fun pins s σ H R I h => ?_⟩
  refine PyProof.Rows.Call_ (ld_blt I hg hm PyProof.Rows.boot_enumerate (PyProof.Rows.callWith_type1 (thn (ha.run pos pins s σ H _ I h) fun us s1 ⟨vs, H1, I1, r1, q1⟩ => ?_) hs rfl))
  obtain ⟨t, a, xs, ex, hq, q⟩ := q1
  subst ex
  cases r1 with
  | cons r rr =>
    cases rr
    cases r
    obtain ⟨its, rv, p', hlt⟩ := isK_of I1 hq
    refine dw_enum_begins (begK t a its.toArray) p' fun h' he hit hsz hk => wpAny_pyIter_enum he ?_
    have I2 : Inv X pins σ H1 { s1 with heap := h' } := I1.kept (t' := s1.toks) hk
    refine ⟨s1.heap.objs.size + 1, [s1.heap.objs.size + 1, s1.heap.objs.size], _, _, H1, rfl, I2, turn_enumK a (s1.heap.objs.size + 1) s1.heap.objs.size (Nat.ne_of_gt (Nat.lt_succ_of_lt hlt)) (Nat.ne_of_lt hlt), ⟨⟨.none, he⟩, itk_new hit, Nat.succ_ne_self _⟩, fun b hb => ?_, q⟩
    have e' : b = s1.heap.objs.size + 1 ∨ b = s1.heap.objs.size := by simpa using hb
    have hle : s1.heap.objs.size ≤ b := by
      rcases e' with z | z
      · rw [z]; exact Nat.le_add_right _ _
      · rw [z]; exact Nat.le_refl _
    exact I1.fpOk hle (I1.hok.fresh hle)
/-! ### zip -/
def ItzK (K : PySem.W.Frag) (t u : Bool) (a b : Addr) : It :=
  ⟨fun i H => ∃ (xs ys : List V) (x y : V), SqK K t H a xs ∧ SqK K u H b ys ∧ xs[i]? = some x ∧ ys[i]? = some y,
    fun i H v H' => ∃ T x y, v = .ref T ∧ H T = none ∧ H' = upd H T (.tup [x, y]) ∧ (∀ xs, SqK K t H a xs → xs[i]? = some x) ∧ ∀ ys, SqK K u H b ys → ys[i]? = some y,
    fun i H => ∃ xs ys : List V, SqK K t H a xs ∧ SqK K u H b ys ∧ i ≤ xs.length ∧ i ≤ ys.length ∧ (i = xs.length ∨ i = ys.length)⟩
theorem turn_zipK {P : Program} {w : World} {K : PySem.W.Frag} {elts : List Expr} {kk : Nat} {tpos : Pos} {t u : Bool} {a b z TI TO i1 i2 : Addr} (D : ZipSep2 z TI TO i1 i2 [i1, a] [i2, b]) (na : a ≠ i1) (nb : b ≠ i2) :
    Turn P w K (.Tuple elts kk tpos) (ItzK K t u a b) [z, TI, TO, i1, i2] z (fun i h => IsZip h z TI TO .none ∧ IsTupOf2 h TI (.ref i1) (.ref i2) ∧ (∃ x y, IsTupOf2 h TO x y) ∧ ItK t h i1 a i ∧ ItK u h i2 b i) where
  mem := by simp
  obj := fun i h st c hc => by
    obtain ⟨hz, hTI, ⟨x, y, hTO⟩, h1, h2⟩ := st
    have e' : c = z ∨ c = TI ∨ c = TO ∨ c = i1 ∨ c = i2 := by simpa using hc
    rcases e' with q | q | q | q | q
    · rw [q]; exact ⟨_, hz, fun v q => nomatch q⟩
    · rw [q]; exact ⟨_, hTI, fun v q => nomatch q⟩
    · rw [q]; exact ⟨_, hTO, fun v q => nomatch q⟩
    · rw [q]; exact h1.obj
    · rw [q]; exact h2.obj
  keep := fun i h h' st k => by
    obtain ⟨hz, hTI, ⟨x, y, hTO⟩, h1, h2⟩ := st
    exact ⟨k z (by simp) _ hz, k TI (by simp) _ hTI, ⟨x, y, k TO (by simp) _ hTO⟩, h1.at fun o q => k i1 (by simp) o q, h2.at fun o q => k i2 (by simp) o q⟩
  item := by
    intro X hP hw hK hc i pins s σ H E I hf st hg
    subst hP hw hK
    obtain ⟨hz, hTI, ⟨x0, y0, hTO⟩, h1, h2⟩ := st
    obtain ⟨xs, ys, x, y, hqx, hqy, hx, hy⟩ := hg
    obtain ⟨its, rv, p, _⟩ := isK_of I hqx
    obtain ⟨its2, rv2, p2, _⟩ := isK_of I hqy
    obtain ⟨v1, hv1, r1⟩ := rv.get hx
    obtain ⟨v2, hv2, r2⟩ := rv2.get hy
    have hzl : z < s.heap.objs.size := Heap.lt_size hz
    have D1 := drawsK (prog := X.prog) (w := X.w) (A := X.A.in1) t (I.ok.hd hc) i1 a na its.toArray
    have D2 := drawsK (prog := X.prog) (w := X.w) (A := X.A.in1) u (I.ok.hd hc) i2 b nb its2.toArray
    have l1 : i < its.toArray.size := by simpa using (List.getElem?_eq_some_iff.mp hv1).1
    have l2 : i < its2.toArray.size := by simpa using (List.getElem?_eq_some_iff.mp hv2).1
    refine wpAny_pyNext_zipD2_item D D1 D2 hz hTI hTO ⟨h1, p⟩ ⟨h2, p2⟩ l1 l2 fun x1 x2 h' tk y1 y2 z' TO' s1' s2' hT hsz hk => ?_
    have e1 : x1 = v1 := by
      have e1 : its.toArray[i]? = some v1 := by simpa using hv1
      rw [e1] at y1
      exact (Option.some.inj y1).symm
    have e2 : x2 = v2 := by
      have e1 : its2.toArray[i]? = some v2 := by simpa using hv2
      rw [e1] at y2
      exact (Option.some.inj y2).symm
    subst e1 e2
    refine ⟨_, rfl, wpAny_letOwnedTupleGo_zip (s := { s with heap := h', toks := tk }) z' fun h'' z'' sb => ?_⟩
    have hT2 : h''.get? s.heap.objs.size = some { cls := .type "tuple", data := .seq #[x1, x2] } := (sb.2 _ (Nat.ne_of_gt hzl)).trans hT
    have new : ObjOk X.prog X.w (upd H s.heap.objs.size (.tup [x, y])) h'' s.heap.objs.size (.tup [x, y]) :=
      ⟨by show 2 ≤ sizeLine; decide, [x1, x2], .cons r1 (.cons r2 .nil), ⟨_, hT2, rfl, _, rfl⟩⟩
    have I1 : Inv X pins σ (upd H s.heap.objs.size (.tup [x, y])) { s with heap := h'', toks := tk } :=
      I.turnedNew (t' := tk) (ch := [z, TI, TO, i1, i2]) (fun c o hb q => (sb.2 c (fun q' => hb (by simp [q']))).trans (hk c o (fun q' => hb (by simp [q'])) (fun q' => hb (by simp [q'])) (fun q' => hb (by simp [q'])) (fun q' => hb (by simp [q'])) q)) hf (Nat.le_refl _) new
    refine ⟨.ref s.heap.objs.size, _, I1, rfl, ⟨_, x, y, rfl, I.hok.fresh (Nat.le_refl _), rfl, fun l hl => by rw [sqK_inj I hl hqx]; exact hx, fun l hl => by rw [sqK_inj I hl hqy]; exact hy⟩, ⟨z'', ?_, ⟨x1, x2, ?_⟩, ?_, ?_⟩, fun c hcm => ?_⟩
    · exact (sb.2 _ D.TIz).trans (hk _ _ D.TIz D.TITO D.TIi1 D.TIi2 hTI)
    · exact (sb.2 _ D.TOz).trans TO'
    · exact s1'.1.at fun o q => (sb.2 _ (Ne.symm D.zi1)).trans q
    · exact s2'.1.at fun o q => (sb.2 _ (Ne.symm D.zi2)).trans q
    · have hlt : c < s.heap.objs.size := by
        have e' : c = z ∨ c = TI ∨ c = TO ∨ c = i1 ∨ c = i2 := by simpa using hcm
        rcases e' with q | q | q | q | q
        · rw [q]; exact hzl
        · rw [q]; exact Heap.lt_size hTI
        · rw [q]; exact Heap.lt_size hTO
        · rw [q]; obtain ⟨_, e1, _⟩ := h1.obj; exact Heap.lt_size e1
        · rw [q]; obtain ⟨_, e2, _⟩ := h2.obj; exact Heap.lt_size e2
      rw [upd_ne (Nat.ne_of_lt hlt)]
      exact (hf c hcm).1
  done := by
    intro X hP hw hK hc i pins s σ H E I hf st hg
    subst hP hw hK
    obtain ⟨hz, hTI, ⟨x0, y0, hTO⟩, h1, h2⟩ := st
    obtain ⟨xs, ys, hqx, hqy, le1, le2, hend⟩ := hg
    obtain ⟨its, rv, p, _⟩ := isK_of I hqx
    obtain ⟨its2, rv2, p2, _⟩ := isK_of I hqy
    have l1 := rv.length
    have l2 := rv2.length
    have D1 := drawsK (prog := X.prog) (w := X.w) (A := X.A.in1) t (I.ok.hd hc) i1 a na its.toArray
    have D2 := drawsK (prog := X.prog) (w := X.w) (A := X.A.in1) u (I.ok.hd hc) i2 b nb its2.toArray
    exact wpAny_pyNext_zipD2_end D D1 D2 hz hTI hTO ⟨h1, p⟩ ⟨h2, p2⟩ (by simp; omega) (by simp; omega) (by simp; omega) fun h' tk hk => ⟨rfl, I.turnedL (t' := tk) (ch := [z, TI, TO, i1, i2]) (fun c o hb q =>
      hk c o (fun q' => hb (by simp [q'])) (fun q' => hb (by simp [q'])) (fun q' => hb (by simp [q'])) (fun q' => hb (by simp [q'])) q) hf⟩
  self := fun A i s Q E st h => wpAny_pyIter_zip st.1 h
def iZipK (K : PySem.W.Frag) (ta : TA) : TI := fun σ H R => ta σ H fun vs H1 => ∃ t u a b xs ys, vs = [.ref a, .ref b] ∧ SqK K t H1 a xs ∧ SqK K u H1 b ys ∧ R (ItzK K t u a b) H1
theorem pi_zipK {X : Cx} {e e2 : Expr} {ta : TA} {p pos tpos : Pos} {elts : List Expr} {kk : Nat} (hg : Gl X "zip") (hm : X.mg "zip" = none) (ha : PA X [e, e2] ta)
    (hs : starEach [e, e2] X.env = (false, eval e X.env) :: starEach [e2] X.env) (hpl : (backTo pos (starEach [e2] X.env)).any (·.1) = false) :
    PI X (.Tuple elts kk tpos) (.Call (.Name "zip" p) [e, e2] [] pos) (iZipK X.K ta) := by
  refine ⟨fun pins s σ H R I h => ?_⟩
  refine PyProof.Rows.Call_ (ld_blt I hg hm PyProof.Rows.boot_zip (PyProof.Rows.callWith_type1 (thn (ha.run pos pins s σ H _ I h) fun us s1 ⟨vs, H1, I1, r1, q1⟩ => ?_) hs hpl))
  obtain ⟨t, u, a, b, xs, ys, ex, hqx, hqy, q⟩ := q1
  subst ex
  cases r1 with
  | cons r rr =>
    cases rr with
    | cons r' rr =>
      cases rr
      cases r
      cases r'
      obtain ⟨its, rv, p1, la⟩ := isK_of I1 hqx
      obtain ⟨its2, rv2, p2, lb⟩ := isK_of I1 hqy
      refine zip_begins2 (begK t a its.toArray) (begK u b its2.toArray) p1 p2 fun h' hz hTI hTO h1 h2 hsz hk => wpAny_pyIter_zip hz ?_
      have I2 : Inv X pins σ H1 { s1 with heap := h' } := I1.kept (t' := s1.toks) hk
      have S : ZipSep2 (s1.heap.objs.size + 4) (s1.heap.objs.size + 2) (s1.heap.objs.size + 3) s1.heap.objs.size (s1.heap.objs.size + 1) [s1.heap.objs.size, a] [s1.heap.objs.size + 1, b] :=
        zip_sep2 (N := s1.heap.objs.size) (fp1 := [a]) (fp2 := [b]) (fun c hc => by
          have : c = a := by simpa using hc
          rw [this]; exact la) (fun c hc => by
          have : c = b := by simpa using hc
          rw [this]; exact lb)
      refine ⟨s1.heap.objs.size + 4, [s1.heap.objs.size + 4, s1.heap.objs.size + 2, s1.heap.objs.size + 3, s1.heap.objs.size, s1.heap.objs.size + 1], _, _, H1, rfl, I2, turn_zipK S (Nat.ne_of_lt la) (Nat.ne_of_lt (Nat.lt_succ_of_lt lb)), ⟨hz, hTI, ⟨_, _, hTO⟩, itk_new h1, itk_new h2⟩, fun c hcm => ?_, q⟩
      have e' : c = s1.heap.objs.size + 4 ∨ c = s1.heap.objs.size + 2 ∨ c = s1.heap.objs.size + 3 ∨ c = s1.heap.objs.size ∨ c = s1.heap.objs.size + 1 := by simpa using hcm
      have hle : s1.heap.objs.size ≤ c := by
        rcases e' with z | z | z | z | z
        · rw [z]; exact Nat.le_add_right _ _
        · rw [z]; exact Nat.le_add_right _ _
        · rw [z]; exact Nat.le_add_right _ _
        · rw [z]; exact Nat.le_refl _
        · rw [z]; exact Nat.le_add_right _ _
      exact I1.fpOk hle (I1.hok.fresh hle)
/-! ### what is walked, by its value -/
def iAny (K : PySem.W.Frag) (te : TE) : TI := fun σ H R => te σ H fun x H1 => (∃ a, x = .ref a ∧ (∃ xs, SqL K H1 a xs) ∧ R (Itl K a) H1) ∨ (∃ a, x = .ref a ∧ (∃ xs, SqT K H1 a xs) ∧ R (Itt K a) H1) ∨ ∃ z, x = .str z ∧ R (Its z) H1
theorem pi_any {X : Cx} {tg l : Expr} {tl : TE} (hl : PE X l tl) : PI X tg l (iAny X.K tl) := by
  refine ⟨fun pins s σ H R I h => ?_⟩
  refine thn (hl.run pins s σ H _ I h) fun v s1 ⟨x, H1, I1, r1, q1⟩ => ?_
  rcases q1 with ⟨a, e, ⟨xs, hq⟩, q⟩ | ⟨a, e, ⟨xs, hq⟩, q⟩ | ⟨z, e, q⟩
  · subst e
    cases r1
    obtain ⟨its, rv, p, hz⟩ := I1.list hq
    refine wpAny_pyIter_list p.isList ?_
    refine ⟨s1.heap.objs.size, [s1.heap.objs.size], _, _, H1, rfl, I1.kept (t' := s1.toks) fun b o e => Heap.get?_push_of_some _ e, turn_list a _, ⟨_, Heap.get?_push_size _ rfl, rfl, rfl⟩, fun b hb => ?_, q⟩
    have e : b = s1.heap.objs.size := by simpa using hb
    subst e
    exact I1.fpOk (Nat.le_refl _) (I1.hok.fresh (Nat.le_refl _))
  · subst e
    cases r1
    obtain ⟨its, rv, p, hz⟩ := I1.tuple hq
    refine wpAny_pyIter_tuple (show s1.heap.IsTuple a its.toArray from p) ?_
    refine ⟨s1.heap.objs.size, [s1.heap.objs.size], _, _, H1, rfl, I1.kept (t' := s1.toks) fun b o e => Heap.get?_push_of_some _ e, turn_tuple a _, ⟨_, Heap.get?_push_size _ rfl, rfl, rfl⟩, fun b hb => ?_, q⟩
    have e : b = s1.heap.objs.size := by simpa using hb
    subst e
    exact I1.fpOk (Nat.le_refl _) (I1.hok.fresh (Nat.le_refl _))
  · subst e
    obtain ⟨t, rfl⟩ := r1
    cases ha : z.cps.all (· < 128)
    · exact wpAny_pyIter_wide ha (pi_one (tk := s1.toks) I1 _ (turn_str _ z t "str_iterator" (.inr rfl)) ⟨_, Heap.get?_push_size _ rfl, rfl, rfl⟩ q)
    · exact wpAny_pyIter_ascii ha (pi_one (tk := s1.toks) I1 _ (turn_str _ z t "str_ascii_iterator" (.inl rfl)) ⟨_, Heap.get?_push_size _ rfl, rfl, rfl⟩ q)
end Dw

namespace Dw
open PySem

abbrev D := PyData
/-- a value: data, or one of the store's objects -/
inductive Vl where
  | d (x : D) | o (i : Nat)
/-- what the store holds -/
inductive Ob where
  | dead
  | lst (xs : List D)
  | scr (xs : List D)
  | ins (c : Nat) (fs : List (Str × Vl))
  | dct (kvs : List (L2.Key × Vl))
abbrev Sto := List Ob
inductive R (α : Type) where
  | ok (a : α) (s : Sto) | ex (c : Nat) (s : Sto) | no
def M (α : Type) : Type := Sto → R α
namespace M
variable {α β γ : Type}
def pure (a : α) : M α := fun s => .ok a s
def bind (m : M α) (f : α → M β) : M β := fun s => match m s with
  | .ok a s' => f a s'
  | .ex c s' => .ex c s'
  | .no => .no
def no : M α := fun _ => .no
def ex (c : Nat) : M α := fun s => .ex c s
instance : Monad M where
  pure := M.pure
  bind := M.bind
@[simp] theorem pure_bind (a : α) (f : α → M β) : (Pure.pure a : M α) >>= f = f a := (rfl)
@[simp] theorem no_bind (f : α → M β) : (M.no : M α) >>= f = M.no := (rfl)
@[simp] theorem ex_bind (c : Nat) (f : α → M β) : (M.ex c : M α) >>= f = M.ex c := (rfl)
@[simp] theorem bind_assoc (m : M α) (f : α → M β) (g : β → M γ) : (m >>= f) >>= g = m >>= fun a => f a >>= g := by
  funext s
  show M.bind (M.bind m f) g s = M.bind m (fun a => M.bind (f a) g) s
  unfold M.bind
  cases m s <;> rfl
theorem bind_run (m : M α) (f : α → M β) (s : Sto) : (m >>= f) s = match m s with
  | .ok a s' => f a s'
  | .ex c s' => .ex c s'
  | .no => .no := rfl
@[simp] theorem pure_run (a : α) (s : Sto) : (Pure.pure a : M α) s = .ok a s := (rfl)
@[simp] theorem no_run (s : Sto) : (M.no : M α) s = .no := (rfl)
@[simp] theorem ex_run (c : Nat) (s : Sto) : (M.ex c : M α) s = .ex c s := (rfl)
end M

abbrev Env := List (Option Vl)
/-- how a block ends -/
inductive Fl where
  | nx | rt (v : Vl) | bk | ct

abbrev nonV : Vl := .d .none
abbrev blV (b : Bool) : Vl := .d (.bool b)
abbrev inV (i : Int) : Vl := .d (.int i)
abbrev stV (x : Str) : Vl := .d (.str x)
abbrev tuV (xs : List D) : Vl := .d (.tuple xs)
abbrev liV (xs : List D) : Vl := .d (.list xs)

/-! ### looking at values -/
def asD : Vl → M D
  | .d x => pure x
  | .o _ => M.no
def asDs : List Vl → M (List D)
  | [] => pure []
  | v :: vs => do
    let x ← asD v
    let xs ← asDs vs
    pure (x :: xs)
def getO (i : Nat) : M Ob := fun s => match s[i]? with
  | some o => .ok o s
  | none => .no
def setO (i : Nat) (o : Ob) : M Unit := fun s => .ok () (s.set i o)
def newO (o : Ob) : M Nat := fun s => .ok s.length (s ++ [o])
/-- a list's items -/
def lItems : Vl → M (List D)
  | .d (.list xs) => pure xs
  | .o i => do
    match ← getO i with
    | .lst xs => pure xs
    | _ => M.no
  | _ => M.no
/-- a list's or a tuple's items; the script's, too -/
def sItems : Vl → M (List D)
  | .d (.list xs) => pure xs
  | .d (.tuple xs) => pure xs
  | .o i => do
    match ← getO i with
    | .lst xs => pure xs
    | .scr xs => pure xs
    | _ => M.no
  | _ => M.no
/-- as data, a list object as a list -/
def asData : Vl → M D
  | .d x => pure x
  | .o i => do
    match ← getO i with
    | .lst xs => pure (.list xs)
    | _ => M.no
def okS (b : Bool) (v : α) : M α := if b then pure v else M.no

/-! ### operators -/
def szLine : Nat := 16777216
def cMul (i j : Int) : Bool := (decide (-(2 ^ 64) < i) && decide (i < 2 ^ 64)) || (decide (-(2 ^ 64) < j) && decide (j < 2 ^ 64))
def rep {α : Type} (xs : List α) (n : Nat) : List α := (List.replicate n xs).flatten
def binop (op : Operator) (a b : Vl) : M Vl := match op with
  | .Add => match a, b with
    | .d (.int i), .d (.int j) => pure (inV (i + j))
    | .d (.str x), .d (.str y) => okS (decide (x.length + y.length ≤ szLine)) (stV (x ++ y))
    | .d (.tuple xs), .d (.tuple ys) => okS (decide (xs.length + ys.length ≤ szLine)) (tuV (xs ++ ys))
    | _, _ => do
      let xs ← lItems a
      let ys ← lItems b
      okS (decide (xs.length + ys.length ≤ szLine)) (liV (xs ++ ys))
  | .Sub => match a, b with
    | .d (.int i), .d (.int j) => pure (inV (i - j))
    | _, _ => M.no
  | .Mult => match a, b with
    | .d (.int i), .d (.int j) => okS (cMul i j) (inV (i * j))
    | .d (.tuple xs), .d (.int j) => okS (decide (xs ≠ []) && decide (0 ≤ j) && decide (j ≤ 1000) && decide (xs.length ≤ 1000)) (tuV (rep xs j.toNat))
    | .d (.list xs), .d (.int j) => okS (decide (0 ≤ j) && decide (j < 2 ^ 63) && decide (xs.length * j.toNat ≤ szLine)) (liV (rep xs j.toNat))
    | _, _ => M.no
  | .FloorDiv => match a, b with
    | .d (.int i), .d (.int j) => okS (decide (0 < j) && decide (j < 1073741824)) (inV (i / j))
    | _, _ => M.no
  | .Mod => match a, b with
    | .d (.int i), .d (.int j) => okS (decide (0 < j)) (inV (i % j))
    | _, _ => M.no
  | .Pow => match a, b with
    | .d (.int i), .d (.int j) => okS (decide (0 ≤ j) && decide (j ≤ 1000000) && decide (i.natAbs < 2 ^ 64)) (inV (i ^ j.toNat))
    | _, _ => M.no
  | _ => M.no
def shp (x : D) : Bool := SeqAt.shaped x
def isScal : D → Bool
  | .none => true | .bool _ => true | .int _ => true | .str _ => true | _ => false
def eqB (a b : Vl) : M Bool := do
  let x ← asData a
  let y ← asData b
  okS (shp x && shp y) (PyData.eqv x y)
/-- order of data: ints, texts, tuples of such -/
def isIn (x : D) (xs : List D) : Bool := xs.any fun z => PyData.eqv z x
mutual
/-- the order of two things: none where it isn't known -/
def dlt : D → D → Option Bool
  | .int i, .int j => some (decide (i < j))
  | .str x, .str y => some (decide (x.cps.toList < y.cps.toList))
  | .tuple xs, .tuple ys => dltAll xs ys
  | _, _ => none
def dltAll : List D → List D → Option Bool
  | [], [] => some false
  | [], _ :: _ => some true
  | _ :: _, [] => some false
  | x :: xs, y :: ys => match dlt x y, dltAll xs ys with
    | some c, some r => some (if PyData.eqv x y then r else c)
    | _, _ => none
end
def ltB (a b : Vl) : M Bool := do
  let x ← asD a
  let y ← asD b
  okS (shp x && shp y) () >>= fun _ => match dlt x y with
    | some c => pure c
    | none => M.no
def intCmp (p : Int → Int → Bool) (a b : Vl) : M Bool := match a, b with
  | .d (.int i), .d (.int j) => pure (p i j)
  | _, _ => M.no
def leB (a b : Vl) : M Bool := match a, b with
  | .d (.int i), .d (.int j) => pure (decide (i ≤ j))
  | .d (.str x), .d (.str y) => pure (!decide (y.cps.toList < x.cps.toList))
  | _, _ => M.no
def hasKey (kvs : List (L2.Key × Vl)) (k : L2.Key) : Bool := (kvs.lookup k).isSome
def keyOf : D → M L2.Key
  | .int i => pure (.inl i)
  | .str x => pure (.inr x)
  | _ => M.no
def inB (a b : Vl) : M Bool := match a, b with
  | .d (.str x), .d (.str y) => pure (!(Builtin.Str.occurrences y x 0 y.length 1).isEmpty)
  | _, .o i => do
    let x ← asD a
    match ← getO i with
    | .lst xs => okS (shp x && shp (.list xs)) (isIn x xs)
    | _ => M.no
  | _, .d (.list xs) => do
    let x ← asD a
    okS (shp x && shp (.list xs)) (isIn x xs)
  | _, .d (.tuple xs) => do
    let x ← asD a
    okS (shp x && shp (.tuple xs)) (isIn x xs)
  | _, _ => M.no
def isB (a b : Vl) : M Bool := match a, b with
  | .d x, .d .none => pure (match x with | .none => true | _ => false)
  | .d (.bool k), .d (.bool c) => pure (decide (k = c))
  | _, _ => M.no
def cmpop (op : CmpOp) (a b : Vl) : M Bool := match op with
  | .Eq => eqB a b
  | .NotEq => do pure (!(← eqB a b))
  | .Lt => ltB a b
  | .Gt => intCmp (fun i j => decide (j < i)) a b
  | .LtE => leB a b
  | .GtE => intCmp (fun i j => decide (j ≤ i)) a b
  | .In => inB a b
  | .NotIn => do pure (!(← inB a b))
  | .Is => isB a b
  | .IsNot => do pure (!(← isB a b))
def asB : Vl → M Bool
  | .d (.bool b) => pure b
  | _ => M.no
def asI : Vl → M Int
  | .d (.int i) => pure i
  | _ => M.no

/-! ### places, slices -/
def atI {α : Type} (xs : List α) (i : Int) : Option α := L2.atI xs i
def ixV (a i : Vl) : M Vl := match a with
  | .d (.str x) => do
    let i ← asI i
    okS (decide (x.length ≤ szLine)) () >>= fun _ => match L2.atI x.cps.toList i with
      | some c => pure (stV ⟨#[c]⟩)
      | none => M.no
  | .o j => do
    match ← getO j with
    | .lst xs => do
      match L2.atI xs (← asI i) with
      | some v => pure (.d v)
      | none => M.no
    | .scr xs => do
      match L2.atI xs (← asI i) with
      | some v => pure (.d v)
      | none => M.no
    | _ => M.no
  | _ => do
    let xs ← sItems a
    match L2.atI xs (← asI i) with
    | some v => pure (.d v)
    | none => M.no
def cutD {α : Type} (xs : List α) (lo hi : Option Int) : List α := (xs.drop (HT.sIx xs.length 0 lo)).take (HT.sIx xs.length xs.length hi - HT.sIx xs.length 0 lo)
def slV (a : Vl) (lo hi : Option Int) : M Vl := match a with
  | .d (.str x) => okS (decide (x.length ≤ szLine)) (stV ⟨(cutD x.cps.toList lo hi).toArray⟩)
  | .d (.tuple xs) => pure (tuV (cutD xs lo hi))
  | _ => do
    let xs ← lItems a
    pure (liV (cutD xs lo hi))
end Dw

namespace Dw
open PySem

/-! ### built-ins -/
inductive Bi where
  | len | all | any | sorted | sortedSet | lenSet | min | max | sum | tuple | list | int | str | repr
  deriving DecidableEq
inductive Mt where
  | append | extend | pop | remove | count | index | join | split | upper | get
  deriving DecidableEq
def boolsM : List D → M (List Bool)
  | [] => pure []
  | .bool b :: r => do
    let bs ← boolsM r
    pure (b :: bs)
  | _ :: _ => M.no
def intsM : List D → M (List Int)
  | [] => pure []
  | .int i :: r => do
    let ns ← intsM r
    pure (i :: ns)
  | _ :: _ => M.no
def strsM : List D → M (List Str)
  | [] => pure []
  | .str x :: r => do
    let xs ← strsM r
    pure (x :: xs)
  | _ :: _ => M.no
/-- the sorted list, as the library has it -/
def sortD (xs : List D) : List D := xs.mergeSort (PySem.W.dataLe false id)
def isTp1 : D → Bool
  | .tuple (_ :: _) => true | _ => false
def noTp : D → Bool
  | .tuple _ => false | .none => false | _ => true
/-- any two of them can be compared, place by place -/
def ordd (xs : List D) : Bool := decide (xs.length ≤ szLine) && (xs.all fun x => shp x && xs.all fun y => PySem.W.alike x y) && (xs.all isTp1 || xs.all noTp)
def lts (x y : D) : Bool := PySem.W.dataLt x y
def dedup : List D → List D
  | [] => []
  | x :: r => if isIn x r then dedup r else x :: dedup r
def minI : Int → List Int → Int
  | m, [] => m
  | m, x :: r => minI (if x < m then x else m) r
def maxI : Int → List Int → Int
  | m, [] => m
  | m, x :: r => maxI (if m < x then x else m) r
def tyIs (x : D) (ty : Str) : Bool := match x with
  | .none => ty == ("NoneType" : Str)
  | .bool _ => ty == ("bool" : Str) || ty == ("int" : Str)
  | .int _ => ty == ("int" : Str)
  | .str _ => ty == ("str" : Str)
  | .list _ => ty == ("list" : Str)
  | .tuple _ => ty == ("tuple" : Str)
  | .dict _ => false
def reprOf (x : D) : Option Str := none
def bi (b : Bi) (vs : List Vl) : M Vl := match b, vs with
  | .len, [v] => match v with
    | .d (.str x) => okS (decide (x.length ≤ szLine)) (inV x.length)
    | _ => do
      let xs ← sItems v
      pure (inV xs.length)
  | .all, [v] => do
    let bs ← boolsM (← lItems v)
    pure (blV (bs.all id))
  | .any, [v] => do
    let bs ← boolsM (← lItems v)
    pure (blV (bs.any id))
  | .sum, [v] => do
    let ns ← intsM (← lItems v)
    pure (inV ns.sum)
  | .tuple, [v] => do
    let xs ← sItems v
    pure (tuV xs)
  | .list, [v] => do
    let xs ← sItems v
    pure (liV xs)
  | .int, [v] => match v with
    | .d (.bool b) => pure (inV (if b then 1 else 0))
    | .d (.int i) => pure (inV i)
    | .d (.str x) => match PySem.intText? x with
      | some n => okS (decide (x.length ≤ 640)) (inV n)
      | none => M.no
    | _ => M.no
  | .str, [v] => match v with
    | .d (.int i) => okS (decide (i.natAbs.log2 < 1920)) (stV (toString i))
    | .d (.str x) => pure (stV x)
    | _ => M.no
  | .sorted, [v] => do
    let xs ← sItems v
    okS (ordd xs) (liV (sortD xs))
  | .min, [a, b] => intOp2 (fun i j => if j < i then j else i) a b
  | .max, [a, b] => intOp2 (fun i j => if j > i then j else i) a b
  | .min, [v] => do
    match ← intsM (← lItems v) with
    | [] => M.no
    | x :: r => pure (inV (minI x r))
  | .max, [v] => do
    match ← intsM (← lItems v) with
    | [] => M.no
    | x :: r => pure (inV (maxI x r))
  | _, _ => M.no
where intOp2 (f : Int → Int → Int) (a b : Vl) : M Vl := match a, b with
  | .d (.int i), .d (.int j) => pure (inV (f i j))
  | _, _ => M.no
/-- the first place of a thing -/
def firstAt (x : D) : List D → Nat → Option Nat
  | [], _ => none
  | y :: r, n => if PyData.eqv y x then some n else firstAt x r (n + 1)
def setLst (o : Vl) (f : List D → M (Vl × List D)) : M Vl := match o with
  | .o i => do
    match ← getO i with
    | .lst xs => do
      let (v, ys) ← f xs
      setO i (.lst ys)
      pure v
    | _ => M.no
  | _ => M.no
def mt (m : Mt) (o : Vl) (vs : List Vl) : M Vl := match m, vs with
  | .append, [v] => do
    let x ← asD v
    setLst o fun xs => okS (decide (xs.length < szLine)) (nonV, xs ++ [x])
  | .extend, [v] => do
    let ys ← lItems v
    setLst o fun xs => okS (decide (xs.length + ys.length ≤ szLine)) (nonV, xs ++ ys)
  | .pop, [] => setLst o fun xs => match xs[xs.length - 1]? with
    | some x => pure (.d x, xs.dropLast)
    | none => M.no
  | .index, [v] => do
    let x ← asD v
    let xs ← lItems o
    okS (shp x && shp (.list xs)) () >>= fun _ => match firstAt x xs 0 with
      | some n => pure (inV n)
      | none => M.no
  | _, _ => M.no

/-- what a method of a list is asked of -/
def mtTy (v : Vl) : M Unit := match v with
  | .d (.list _) => pure ()
  | .o i => do
    match ← getO i with
    | .lst _ => pure ()
    | _ => M.no
  | _ => M.no

/-! ### the syntax -/
mutual
inductive Tg where
  | nm (i : Nat)
  | tp (ts : Tgs)
inductive Tgs where
  | nil
  | cons (t : Tg) (r : Tgs)
end
mutual
inductive E where
  | non | bl (b : Bool) | int (i : Int) | str (x : Str)
  | var (i : Nat)
  | glb (x : Str) (d : D)
  | bin (op : Operator) (a b : E)
  | cmp (op : CmpOp) (a b : E)
  | chain (op1 op2 : CmpOp) (a b c : E)
  | andE (as : Es)
  | orE (as : Es)
  | notE (a : E)
  | neg (a : E)
  | call (pu : Bool) (f : Nat) (as : Es)
  | meth (c : Nat) (m : Str) (f : Nat) (o : E) (as : Es)
  | make (c f : Nat) (as : Es)
  | bi (b : Bi) (as : Es)
  | isi (a : E) (ty : Str)
  | mt (m : Mt) (o : E) (as : Es)
  | tup (as : Es)
  | lst (mu : Bool) (as : Es)
  | ix (a i : E)
  | sl (a : E) (lo hi : Eo)
  | addM (a b : E)
  | stp (a : E) (lo : Option Int) (st : Int)
  | comp (mu : Bool) (elt : E) (tg : Tg) (it : It) (ifs : Eo) (own : List Nat)
  | attr (c : Nat) (o : E) (f : Str)
  | frz (a : E)
inductive Es where
  | nil
  | cons (a : E) (r : Es)
inductive Eo where
  | no
  | so (a : E)
inductive It where
  | of (a : E)
  | range (as : Es)
  | enum (a : E)
  | zip (a b : E)
end
mutual
inductive S where
  | set (i : Nat) (e : E)
  | unpk (tg : Tg) (e : E)
  | par (i j : Nat) (a b : E)
  | setAttr (c : Nat) (o : E) (f : Str) (e : E)
  | setIx (o i e : E)
  | unpkAt (c i : Nat) (fs : List Str) (e : E)
  | expr (e : E)
  | ite (c : E) (a b : Ss)
  | forS (tg : Tg) (it : It) (b : Ss)
  | whil (n : Nat) (c : E) (b : Ss)
  | ret (e : E)
  | retN
  | raise (c : Nat) (x : Str)
  | cont
  | pass
inductive Ss where
  | nil
  | cons (s : S) (r : Ss)
end

/-! ### the evaluator -/
def setAt (c i : Nat) (f : Str) (v : Vl) : M Unit := do
  match ← getO i with
  | .ins c' fs => okS (decide (c' = c) && decide (fs.length < 1000)) () >>= fun _ => setO i (.ins c (putF f v fs))
  | _ => M.no
where putF (f : Str) (v : Vl) : List (Str × Vl) → List (Str × Vl)
  | [] => [(f, v)]
  | (g, x) :: r => if g = f then (g, v) :: r else (g, x) :: putF f v r
def setAts (c i : Nat) : List Str → List D → M Unit
  | [], [] => pure ()
  | f :: fs, x :: xs => do
    setAt c i f (.d x)
    setAts c i fs xs
  | _, _ => M.no
def getV (env : Env) (i : Nat) : M Vl := match env[i]? with
  | some (some v) => pure v
  | _ => M.no
def getOb : Vl → M Nat
  | .o i => pure i
  | _ => M.no
mutual
def bindT : Tg → Vl → Env → Option Env
  | .nm i, v, env => some (env.set i (some v))
  | .tp ts, .d (.tuple xs), env => bindTs ts xs env
  | .tp _, _, _ => none
def bindTs : Tgs → List D → Env → Option Env
  | .nil, [], env => some env
  | .cons t r, x :: xs, env => match bindT t (.d x) env with
    | some env => bindTs r xs env
    | none => none
  | _, _, _ => none
end
def ofO {α : Type} : Option α → M α
  | some a => pure a
  | none => M.no
def wipe (env : Env) : List Nat → Env
  | [] => env
  | v :: vs => (wipe env vs).set v none
def noEx {α : Type} (m : M α) : M α := fun s => match m s with
  | .ex _ _ => .no
  | r => r
/-- the items of what is walked, where they stay as they are -/
def compL (f : Vl → M (Option D)) : List Vl → List D → M (List D)
  | [], acc => pure acc
  | x :: r, acc => do
    match ← f x with
    | some y => okS (decide (acc.length < szLine)) () >>= fun _ => compL f r (acc ++ [y])
    | none => compL f r acc
/-- over a list object, as it stands at each turn -/
def compO (f : Vl → M (Option D)) (i : Nat) : Nat → Nat → List D → M (List D)
  | 0, _, _ => M.no
  | n + 1, j, acc => do
    match ← getO i with
    | .lst xs => match xs[j]? with
      | none => pure acc
      | some x => do
        match ← f (.d x) with
        | some y => okS (decide (acc.length < szLine)) () >>= fun _ => compO f i n (j + 1) (acc ++ [y])
        | none => compO f i n (j + 1) acc
    | _ => M.no
def forL (f : Vl → Env → M (Fl × Env)) : List Vl → Env → M (Fl × Env)
  | [], env => pure (.nx, env)
  | x :: r, env => do
    match ← f x env with
    | (.nx, env') => forL f r env'
    | (.ct, env') => forL f r env'
    | (.bk, env') => pure (.nx, env')
    | (.rt v, env') => pure (.rt v, env')
def forO (f : Vl → Env → M (Fl × Env)) (i : Nat) : Nat → Nat → Env → M (Fl × Env)
  | 0, _, _ => M.no
  | n + 1, j, env => do
    match ← getO i with
    | .lst xs => match xs[j]? with
      | none => pure (.nx, env)
      | some x => do
        match ← f (.d x) env with
        | (.nx, env') => forO f i n (j + 1) env'
        | (.ct, env') => forO f i n (j + 1) env'
        | (.bk, env') => pure (.nx, env')
        | (.rt v, env') => pure (.rt v, env')
    | _ => M.no
def whileL (c : Env → M Bool) (b : Env → M (Fl × Env)) : Nat → Env → M (Fl × Env)
  | 0, _ => M.no
  | n + 1, env => do
    if ← c env then
      match ← b env with
      | (.nx, env') => whileL c b n env'
      | (.ct, env') => whileL c b n env'
      | (.bk, env') => pure (.nx, env')
      | (.rt v, env') => pure (.rt v, env')
    else pure (.nx, env)
/-- what is walked: items that stay, or a list object -/
inductive Wk where
  | its (xs : List Vl)
  | ob (i : Nat)
def enumD : Nat → List D → List Vl
  | _, [] => []
  | n, x :: r => tuV [.int n, x] :: enumD (n + 1) r
def zipD : List D → List D → List Vl
  | x :: xs, y :: ys => tuV [x, y] :: zipD xs ys
  | _, _ => []
def rangeD (lo : Int) (n : Nat) : List Vl := (List.range n).map fun i => inV (lo + (i : Nat))
def bnd62 (i : Int) : Bool := decide (-(2 ^ 62) ≤ i) && decide (i < 2 ^ 62)
def wkOf (v : Vl) : M Wk := match v with
  | .d (.list xs) => pure (.its (xs.map .d))
  | .d (.tuple xs) => pure (.its (xs.map .d))
  | .d (.str x) => pure (.its (x.cps.toList.map fun c => stV ⟨#[c]⟩))
  | .o i => do
    match ← getO i with
    | .lst _ => pure (.ob i)
    | _ => M.no
  | _ => M.no
/-- the items of a list or a tuple that stays as it is -/
def fItems : Vl → M (List D)
  | .d (.list xs) => pure xs
  | .d (.tuple xs) => pure xs
  | _ => M.no
def wkRange (vs : List Vl) : M Wk := match vs with
  | [.d (.int j)] => okS (bnd62 j) (.its (rangeD 0 j.toNat))
  | [.d (.int i), .d (.int j)] => okS (bnd62 i && bnd62 j) (.its (rangeD i (j - i).toNat))
  | _ => M.no
def pureRun (m : M Vl) : M Vl := fun s => match m [] with
  | .ok (.d x) _ => .ok (.d x) s
  | .ex c _ => .ex c s
  | _ => .no
def frzV (v : Vl) : M Vl := match v with
  | .o i => do
    match ← getO i with
    | .lst xs => do
      setO i .dead
      pure (liV xs)
    | _ => M.no
  | _ => M.no
/-- a new list: a list that stays as it is, or an object -/
def newL (mu : Bool) (xs : List D) : M Vl := if mu then do
    let i ← newO (.lst xs)
    pure (.o i)
  else pure (liV xs)
/-- two lists, one behind the other: a new list object -/
def addMV (x y : Vl) : M Vl := do
  let xs ← lItems x
  let ys ← lItems y
  okS (decide (xs.length + ys.length ≤ szLine)) ()
  newL true (xs ++ ys)
/-- x[lo::st] of a list -/
def stpD {α : Type} (xs : List α) (lo : Option Int) (st : Int) : List α :=
  (sliceRange (sliceBounds lo none (some st) xs.length).1 (sliceBounds lo none (some st) xs.length).2.1 (sliceBounds lo none (some st) xs.length).2.2).filterMap (xs[·]?)
def stpV (x : Vl) (lo : Option Int) (st : Int) : M Vl := do
  let xs ← lItems x
  okS (decide (st ≠ 0)) (liV (stpD xs lo st))
section
variable (Φ : Nat → List Vl → M Vl)
mutual
def evE : E → Env → M Vl
  | .non, _ => pure nonV
  | .bl b, _ => pure (blV b)
  | .int i, _ => pure (inV i)
  | .str x, _ => pure (stV x)
  | .var i, env => getV env i
  | .glb _ d, _ => pure (.d d)
  | .bin op a b, env => do
    let x ← evE a env
    let y ← evE b env
    binop op x y
  | .cmp op a b, env => do
    let x ← evE a env
    let y ← evE b env
    let c ← cmpop op x y
    pure (blV c)
  | .chain op1 op2 a b c, env => do
    let x ← evE a env
    let y ← evE b env
    if ← cmpop op1 x y then
      let z ← evE c env
      let r ← cmpop op2 y z
      pure (blV r)
    else pure (blV false)
  | .andE as, env => evAnd as env
  | .orE as, env => evOr as env
  | .notE a, env => do
    let c ← asB (← evE a env)
    pure (blV (!c))
  | .neg a, env => do
    let i ← asI (← evE a env)
    pure (inV (-i))
  | .call pu f as, env => do
    let vs ← evEs as env
    if pu then
      let xs ← asDs vs
      pureRun (Φ f (xs.map .d))
    else Φ f vs
  | .meth c m f o as, env => do
    let v ← evE o env
    let i ← getOb v
    match ← getO i with
    | .ins c' fs =>
      if c' = c ∧ (fs.lookup m).isSome = false then
        let vs ← evEs as env
        Φ f (v :: vs)
      else M.no
    | _ => M.no
  | .make c f as, env => do
    let vs ← evEs as env
    let i ← newO (.ins c [])
    match ← Φ f (.o i :: vs) with
    | .d .none => pure (.o i)
    | _ => M.no
  | .bi b as, env => do
    let vs ← evEs as env
    bi b vs
  | .isi a ty, env => do
    match ← evE a env with
    | .d x => pure (blV (tyIs x ty))
    | .o _ => M.no
  | .mt m o as, env => do
    let v ← evE o env
    mtTy v
    let vs ← evEs as env
    mt m v vs
  | .tup as, env => do
    let xs ← asDs (← evEs as env)
    okS (decide (xs.length ≤ szLine)) (tuV xs)
  | .lst mu as, env => do
    let xs ← asDs (← evEs as env)
    okS (decide (xs.length ≤ szLine)) ()
    newL mu xs
  | .ix a i, env => do
    let x ← evE a env
    let y ← evE i env
    ixV x y
  | .sl a lo hi, env => do
    let x ← evE a env
    let l ← evEo lo env
    let h ← evEo hi env
    slV x l h
  | .addM a b, env => do
    let x ← evE a env
    let y ← evE b env
    addMV x y
  | .stp a lo st, env => do
    let x ← evE a env
    stpV x lo st
  | .comp mu elt tg it ifs own, env => do
    let w ← evIt it env
    let f : Vl → M (Option D) := fun x => noEx do
      let env1 ← ofO (bindT tg x (wipe env own))
      if ← evIf ifs env1 then
        let y ← asD (← evE elt env1)
        pure (some y)
      else pure none
    match w with
    | .its xs => do
      let ys ← compL f xs []
      newL mu ys
    | .ob i => do
      match ← getO i with
      | .lst xs => do
        let ys ← compO f i (xs.length + 1) 0 []
        newL mu ys
      | _ => M.no
  | .attr c o f, env => do
    let i ← getOb (← evE o env)
    match ← getO i with
    | .ins c' fs => okS (decide (c' = c)) () >>= fun _ => match fs.lookup f with
      | some v => pure v
      | none => M.no
    | _ => M.no
  | .frz a, env => do
    let v ← evE a env
    frzV v
def evEs : Es → Env → M (List Vl)
  | .nil, _ => pure []
  | .cons a r, env => do
    let x ← evE a env
    let xs ← evEs r env
    pure (x :: xs)
def evEo : Eo → Env → M (Option Int)
  | .no, _ => pure none
  | .so a, env => do
    let i ← asI (← evE a env)
    pure (some i)
def evIf : Eo → Env → M Bool
  | .no, _ => pure true
  | .so a, env => do asB (← evE a env)
def evAnd : Es → Env → M Vl
  | .nil, _ => M.no
  | .cons a .nil, env => evE a env
  | .cons a (.cons b r), env => do
    if ← asB (← evE a env) then evAnd (.cons b r) env else pure (blV false)
def evOr : Es → Env → M Vl
  | .nil, _ => M.no
  | .cons a .nil, env => evE a env
  | .cons a (.cons b r), env => do
    if ← asB (← evE a env) then pure (blV true) else evOr (.cons b r) env
def evIt : It → Env → M Wk
  | .of a, env => do wkOf (← evE a env)
  | .range as, env => do wkRange (← evEs as env)
  | .enum a, env => do
    let xs ← fItems (← evE a env)
    pure (.its (enumD 0 xs))
  | .zip a b, env => do
    let x ← evE a env
    let y ← evE b env
    let xs ← fItems x
    let ys ← fItems y
    pure (.its (zipD xs ys))
end
mutual
def exS : S → Env → M (Fl × Env)
  | .set i e, env => do
    let v ← evE Φ e env
    pure (.nx, env.set i (some v))
  | .unpk tg e, env => do
    let v ← evE Φ e env
    let env ← ofO (bindT tg v env)
    pure (.nx, env)
  | .par i j a b, env => do
    let x ← evE Φ a env
    let y ← evE Φ b env
    pure (.nx, (env.set i (some x)).set j (some y))
  | .setAttr c o f e, env => do
    let v ← evE Φ e env
    let i ← getOb (← evE Φ o env)
    setAt c i f v
    pure (.nx, env)
  | .setIx o i e, env => do
    let v ← evE Φ e env
    let w ← evE Φ o env
    let x ← evE Φ i env
    match ← getO (← getOb w) with
    | .dct kvs => do
      let k ← keyOf (← asD x)
      okS (decide (kvs.length < szLine)) ()
      setO (← getOb w) (.dct (putK k v kvs))
      pure (.nx, env)
    | .lst xs => do
      match L2.ixN xs.length (← asI x) with
      | some j => do
        setO (← getOb w) (.lst (xs.set j (← asD v)))
        pure (.nx, env)
      | none => M.no
    | _ => M.no
  | .unpkAt c i fs e, env => do
    match ← evE Φ e env with
    | .d (.tuple xs) => do
      let j ← getOb (← getV env i)
      setAts c j fs xs
      pure (.nx, env)
    | _ => M.no
  | .expr e, env => do
    let _ ← evE Φ e env
    pure (.nx, env)
  | .ite c a b, env => do
    if ← asB (← evE Φ c env) then exB a env else exB b env
  | .forS tg it b, env => do
    let w ← evIt Φ it env
    let f : Vl → Env → M (Fl × Env) := fun x env => do
      let env1 ← ofO (bindT tg x env)
      exB b env1
    match w with
    | .its xs => forL f xs env
    | .ob i => do
      match ← getO i with
      | .lst xs => forO f i (xs.length + 1) 0 env
      | _ => M.no
  | .whil n c b, env => whileL (fun env => do asB (← evE Φ c env)) (fun env => exB b env) n env
  | .ret e, env => do
    let v ← evE Φ e env
    pure (.rt v, env)
  | .retN, env => pure (.rt nonV, env)
  | .raise c _, _ => M.ex c
  | .cont, env => pure (.ct, env)
  | .pass, env => pure (.nx, env)
where putK (k : L2.Key) (v : Vl) : List (L2.Key × Vl) → List (L2.Key × Vl)
  | [] => [(k, v)]
  | (g, x) :: r => if g = k then (g, v) :: r else (g, x) :: putK k v r
def exB : Ss → Env → M (Fl × Env)
  | .nil, env => pure (.nx, env)
  | .cons s r, env => do
    match ← exS s env with
    | (.nx, env') => exB r env'
    | p => pure p
end
end
/-! ### defs -/
structure Fn where
  np : Nat
  nN : Nat
  body : Ss
  drop : Bool := false
def enter (F : Fn) (vs : List Vl) : Env := vs.map some ++ List.replicate (F.nN - vs.length) none
def vBelow (n : Nat) : Vl → Bool
  | .d _ => true
  | .o i => decide (i < n)
def obBelow (n : Nat) : Ob → Bool
  | .ins _ fs => fs.all fun p => vBelow n p.2
  | .dct kvs => kvs.all fun p => vBelow n p.2
  | _ => true
def leaveV (drop : Bool) (n : Nat) (v : Vl) (s' : Sto) : R Vl := if drop then
    (if vBelow 0 v && (s'.take n).all (obBelow n) then .ok v (s'.take n) else .no)
  else .ok v s'
def leave (drop : Bool) (m : M (Fl × Env)) : M Vl := fun s => match m s with
  | .ok (.rt v, _) s' => leaveV drop s.length v s'
  | .ok (.nx, _) s' => leaveV drop s.length nonV s'
  | .ok _ _ => .no
  | .ex c s' => .ex c s'
  | .no => .no
def Fn.run (Φ : Nat → List Vl → M Vl) (F : Fn) (vs : List Vl) : M Vl :=
  if vs.length = F.np then leave F.drop (exB Φ F.body (enter F vs)) else M.no
def Phi (T : Nat → Option Fn) : Nat → Nat → List Vl → M Vl
  | 0, _, _ => M.no
  | k + 1, f, vs => match T f with
    | none => M.no
    | some F => F.run (Phi T k) vs
theorem Phi_succ {T : Nat → Option Fn} {k f : Nat} {vs : List Vl} {F : Fn} (h : T f = some F) : Phi T (k + 1) f vs = F.run (Phi T k) vs := by
  show (match T f with | none => M.no | some F => F.run (Phi T k) vs) = _
  rw [h]
end Dw

namespace Dw
open PySem L2

/-- the world: the abstract heap, what is foreign, where the store's objects stand, the store -/
structure Wd where
  H : Hp
  F : Addr → Prop
  m : List Addr
  st : Sto
def isDead : Ob → Bool
  | .dead => true
  | .scr _ => true
  | _ => false
def Live (W : Wd) (a : Addr) : Prop := ∃ (i : Nat) (o : Ob), W.m[i]? = some a ∧ W.st[i]? = some o ∧ isDead o = false
def Out (W : Wd) (a : Addr) : Prop := ¬ Live W a ∧ ¬ W.F a
/-- a tuple of the module's own -/
def KTup (K : PySem.W.Frag) (a : Addr) (xs : List V) : Prop :=
  ∃ (o : Obj) (its : Array Value) (n : Nat), K.lookup a = some o ∧ o.cls = .type "tuple" ∧ o.data = .seq its n ∧ its.size ≤ sizeLine ∧ Vals xs its.toList
def TupAt (K : PySem.W.Frag) (W : Wd) (a : Addr) (xs : List V) : Prop := (W.H a = some (.tup xs) ∧ Out W a) ∨ KTup K a xs
def LstAt (W : Wd) (a : Addr) (xs : List V) : Prop := W.H a = some (.lst xs) ∧ Out W a
/-- the script: a list that is known to the object, or one of the module's own -/
def ScrAt (K : PySem.W.Frag) (H : Hp) (a : Addr) (xs : List V) : Prop := (∃ o, H a = some (.frz o (.lst xs))) ∨
  ∃ (o : Obj) (its : Array Value) (n : Nat), K.lookup a = some o ∧ o.cls = .type "list" ∧ o.dict = none ∧ o.data = .seq its n ∧ its.size ≤ sizeLine ∧ Vals xs its.toList
theorem ScrAt.sq {K : PySem.W.Frag} {H : Hp} {a : Addr} {xs : List V} (h : ScrAt K H a xs) : SqL K H a xs := by
  rcases h with ⟨o, h⟩ | h
  · exact .inl (.inr ⟨o, h⟩)
  · exact .inr h
mutual
inductive Rp (K : PySem.W.Frag) (W : Wd) : V → D → Prop
  | non : Rp K W .non .none
  | bl (b : Bool) : Rp K W (.bl b) (.bool b)
  | int (i : Int) : Rp K W (.int i) (.int i)
  | str (x : Str) : Rp K W (.str x) (.str x)
  | tup {a : Addr} {xs : List V} {ds : List D} : TupAt K W a xs → RpA K W xs ds → Rp K W (.ref a) (.tuple ds)
  | lst {a : Addr} {xs : List V} {ds : List D} : LstAt W a xs → RpA K W xs ds → Rp K W (.ref a) (.list ds)
inductive RpA (K : PySem.W.Frag) (W : Wd) : List V → List D → Prop
  | nil : RpA K W [] []
  | cons {v : V} {vs : List V} {d : D} {ds : List D} : Rp K W v d → RpA K W vs ds → RpA K W (v :: vs) (d :: ds)
end
def RpV (K : PySem.W.Frag) (W : Wd) (v : V) : Vl → Prop
  | .d x => Rp K W v x
  | .o i => ∃ a, v = .ref a ∧ W.m[i]? = some a
abbrev RpVs (K : PySem.W.Frag) (W : Wd) : List V → List Vl → Prop := Paired (RpV K W)

/-- one world behind another -/
structure Ex (W W' : Wd) : Prop where
  f : W'.F = W.F
  m : W.m <+: W'.m
  keep : ∀ a o, W.H a = some o → ¬ Live W a → W'.H a = some o ∧ ¬ Live W' a
theorem Ex.refl (W : Wd) : Ex W W := ⟨rfl, List.prefix_refl _, fun _ _ h l => ⟨h, l⟩⟩
theorem Ex.trans {W W1 W2 : Wd} (a : Ex W W1) (b : Ex W1 W2) : Ex W W2 :=
  ⟨b.f.trans a.f, a.m.trans b.m, fun x o h l => let ⟨h1, l1⟩ := a.keep x o h l; b.keep x o h1 l1⟩
theorem Ex.out {W W' : Wd} (e : Ex W W') {a : Addr} {o : HO} (h : W.H a = some o) (u : Out W a) : W'.H a = some o ∧ Out W' a := by
  obtain ⟨h1, l1⟩ := e.keep a o h u.1
  exact ⟨h1, l1, by rw [e.f]; exact u.2⟩
theorem TupAt.mono {K : PySem.W.Frag} {W W' : Wd} {a : Addr} {xs : List V} (e : Ex W W') (h : TupAt K W a xs) : TupAt K W' a xs := by
  rcases h with ⟨h, u⟩ | h
  · exact .inl (e.out h u)
  · exact .inr h
theorem LstAt.mono {W W' : Wd} {a : Addr} {xs : List V} (e : Ex W W') (h : LstAt W a xs) : LstAt W' a xs := e.out h.1 h.2
mutual
theorem Rp.mono {K : PySem.W.Frag} {W W' : Wd} (e : Ex W W') : ∀ (d : D) (v : V), Rp K W v d → Rp K W' v d
  | .none, _, h => by cases h; exact .non
  | .bool b, _, h => by cases h; exact .bl b
  | .int i, _, h => by cases h; exact .int i
  | .str x, _, h => by cases h; exact .str x
  | .list ds, _, h => by
    cases h with
    | lst h1 h2 => exact .lst (h1.mono e) (RpA.mono e ds _ h2)
  | .tuple ds, _, h => by
    cases h with
    | tup h1 h2 => exact .tup (h1.mono e) (RpA.mono e ds _ h2)
  | .dict _, _, h => by cases h
theorem RpA.mono {K : PySem.W.Frag} {W W' : Wd} (e : Ex W W') : ∀ (ds : List D) (vs : List V), RpA K W vs ds → RpA K W' vs ds
  | [], _, h => by cases h; exact .nil
  | d :: ds, _, h => by
    cases h with
    | cons h1 h2 => exact .cons (Rp.mono e d _ h1) (RpA.mono e ds _ h2)
end
theorem RpV.mono {K : PySem.W.Frag} {W W' : Wd} (e : Ex W W') {v : V} {x : Vl} (h : RpV K W v x) : RpV K W' v x := by
  cases x with
  | d x => exact Rp.mono e x v h
  | o i =>
    obtain ⟨a, h1, h2⟩ := h
    obtain ⟨t, ht⟩ := e.m
    exact ⟨a, h1, by rw [← ht, List.getElem?_append_left (List.getElem?_eq_some_iff.mp h2).1]; exact h2⟩
theorem Paired.imp {α β : Type} {F G : α → β → Prop} (f : ∀ a b, F a b → G a b) : ∀ {l₁ : List α} {l₂ : List β}, Paired F l₁ l₂ → Paired G l₁ l₂
  | _, _, .nil => .nil
  | _, _, .cons r t => .cons (f _ _ r) (Paired.imp f t)
theorem RpVs.mono {K : PySem.W.Frag} {W W' : Wd} (e : Ex W W') {vs : List V} {xs : List Vl} (h : RpVs K W vs xs) : RpVs K W' vs xs := Paired.imp (fun _ _ => RpV.mono e) h

/-- one world behind another, new foreign things among what was not there -/
structure Ex2 (W W' : Wd) : Prop where
  f : ∀ a, W'.F a → W.F a ∨ W.H a = none
  m : W.m <+: W'.m
  keep : ∀ a o, W.H a = some o → ¬ Live W a → W'.H a = some o ∧ ¬ Live W' a
theorem Ex.two {W W' : Wd} (e : Ex W W') : Ex2 W W' := ⟨fun a h => .inl (by rw [e.f] at h; exact h), e.m, e.keep⟩
theorem Ex2.trans {W W1 W2 : Wd} (a : Ex2 W W1) (b : Ex W1 W2) : Ex2 W W2 :=
  ⟨fun x h => a.f x (by rw [b.f] at h; exact h), a.m.trans b.m, fun x o h l => let ⟨h1, l1⟩ := a.keep x o h l; b.keep x o h1 l1⟩
theorem Ex2.out {W W' : Wd} (e : Ex2 W W') {a : Addr} {o : HO} (h : W.H a = some o) (u : Out W a) : W'.H a = some o ∧ Out W' a := by
  obtain ⟨h1, l1⟩ := e.keep a o h u.1
  exact ⟨h1, l1, fun z => (e.f a z).elim u.2 fun q => by rw [h] at q; cases q⟩
theorem TupAt.mono2 {K : PySem.W.Frag} {W W' : Wd} {a : Addr} {xs : List V} (e : Ex2 W W') (h : TupAt K W a xs) : TupAt K W' a xs := by
  rcases h with ⟨h, u⟩ | h
  · exact .inl (e.out h u)
  · exact .inr h
theorem LstAt.mono2 {W W' : Wd} {a : Addr} {xs : List V} (e : Ex2 W W') (h : LstAt W a xs) : LstAt W' a xs := e.out h.1 h.2
mutual
theorem Rp.mono2 {K : PySem.W.Frag} {W W' : Wd} (e : Ex2 W W') : ∀ (d : D) (v : V), Rp K W v d → Rp K W' v d
  | .none, _, h => by cases h; exact .non
  | .bool b, _, h => by cases h; exact .bl b
  | .int i, _, h => by cases h; exact .int i
  | .str x, _, h => by cases h; exact .str x
  | .list ds, _, h => by
    cases h with
    | lst h1 h2 => exact .lst (h1.mono2 e) (RpA.mono2 e ds _ h2)
  | .tuple ds, _, h => by
    cases h with
    | tup h1 h2 => exact .tup (h1.mono2 e) (RpA.mono2 e ds _ h2)
  | .dict _, _, h => by cases h
theorem RpA.mono2 {K : PySem.W.Frag} {W W' : Wd} (e : Ex2 W W') : ∀ (ds : List D) (vs : List V), RpA K W vs ds → RpA K W' vs ds
  | [], _, h => by cases h; exact .nil
  | d :: ds, _, h => by
    cases h with
    | cons h1 h2 => exact .cons (Rp.mono2 e d _ h1) (RpA.mono2 e ds _ h2)
end
theorem RpV.mono2 {K : PySem.W.Frag} {W W' : Wd} (e : Ex2 W W') {v : V} {x : Vl} (h : RpV K W v x) : RpV K W' v x := by
  cases x with
  | d x => exact Rp.mono2 e x v h
  | o i =>
    obtain ⟨a, h1, h2⟩ := h
    obtain ⟨t, ht⟩ := e.m
    exact ⟨a, h1, by rw [← ht, List.getElem?_append_left (List.getElem?_eq_some_iff.mp h2).1]; exact h2⟩

section
variable (K : PySem.W.Frag) (cl xc : Nat → Addr)
def FsR (W : Wd) : List (Str × Vl) → List (Str × V) → Prop := Paired fun p q => p.1 = q.1 ∧ RpV K W q.2 p.2
def KsR (W : Wd) : List (Key × Vl) → List (Key × V) → Prop := Paired fun p q => p.1 = q.1 ∧ RpV K W q.2 p.2
def ObR (W : Wd) (a : Addr) : Ob → Prop
  | .dead => True
  | .lst ds => ∃ xs, W.H a = some (.lst xs) ∧ RpA K W xs ds
  | .scr ds => ∃ xs, ScrAt K W.H a xs ∧ RpA K W xs ds
  | .ins c fs => ∃ dx gs, W.H a = some (.ins (cl c) dx gs) ∧ FsR K W fs gs
  | .dct kvs => ∃ gs, W.H a = some (.dK gs) ∧ KsR K W kvs gs
structure Wf (W : Wd) : Prop where
  len : W.m.length = W.st.length
  inj : ∀ (i j : Nat) (a : Addr) (o u : Ob), W.m[i]? = some a → W.m[j]? = some a → W.st[i]? = some o → W.st[j]? = some u → isDead o = false → isDead u = false → i = j
  nf : ∀ (i : Nat) (a : Addr) (o : Ob), W.m[i]? = some a → W.st[i]? = some o → isDead o = false → ¬ W.F a
  ob : ∀ (i : Nat) (a : Addr) (o : Ob), W.m[i]? = some a → W.st[i]? = some o → ObR K cl W a o
  ft : ∀ a, W.F a → ∃ o, W.H a = some o
structure EnvR (W : Wd) (σ : L2.St) (env : Env) : Prop where
  len : σ.length = env.length
  at_ : ∀ (i : Nat) (x : Vl), env[i]? = some (some x) → ∃ v, σ[i]? = some (some v) ∧ RpV K W v x
variable {K cl xc}
theorem EnvR.mono {W W' : Wd} {σ : L2.St} {env : Env} (h : EnvR K W σ env) (e : Ex W W') : EnvR K W' σ env :=
  ⟨h.len, fun i x q => let ⟨v, h1, h2⟩ := h.at_ i x q; ⟨v, h1, h2.mono e⟩⟩
theorem EnvR.mono2 {W W' : Wd} {σ : L2.St} {env : Env} (h : EnvR K W σ env) (e : Ex2 W W') : EnvR K W' σ env :=
  ⟨h.len, fun i x q => let ⟨v, h1, h2⟩ := h.at_ i x q; ⟨v, h1, h2.mono2 e⟩⟩
theorem EnvR.set {W : Wd} {σ : L2.St} {env : Env} (h : EnvR K W σ env) (i : Nat) {v : V} {x : Vl} (r : RpV K W v x) : EnvR K W (σ.set i (some v)) (env.set i (some x)) := by
  refine ⟨by simp [h.len], fun j y q => ?_⟩
  by_cases hj : i = j
  · subst hj
    by_cases hl : i < env.length
    · rw [List.getElem?_set_self hl] at q
      cases q
      exact ⟨v, List.getElem?_set_self (by rw [h.len]; exact hl), r⟩
    · rw [List.getElem?_eq_none (by simpa using hl)] at q
      cases q
  · rw [List.getElem?_set_ne hj] at q
    obtain ⟨u, h1, h2⟩ := h.at_ j y q
    exact ⟨u, by rw [List.getElem?_set_ne hj]; exact h1, h2⟩
theorem EnvR.clear {W : Wd} {σ : L2.St} {env : Env} (h : EnvR K W σ env) (i : Nat) : EnvR K W (σ.set i none) (env.set i none) := by
  refine ⟨by simp [h.len], fun j y q => ?_⟩
  by_cases hj : i = j
  · subst hj
    by_cases hl : i < env.length
    · rw [List.getElem?_set_self hl] at q
      cases q
    · rw [List.getElem?_eq_none (by simpa using hl)] at q
      cases q
  · rw [List.getElem?_set_ne hj] at q
    obtain ⟨u, h1, h2⟩ := h.at_ j y q
    exact ⟨u, by rw [List.getElem?_set_ne hj]; exact h1, h2⟩
theorem EnvR.wipe {W : Wd} {σ : L2.St} {env : Env} (h : EnvR K W σ env) : ∀ own : List Nat, EnvR K W (L2.wipe σ own) (Dw.wipe env own)
  | [] => h
  | v :: vs => (EnvR.wipe h vs).clear v
end

/-! ### what is wanted behind a run -/
section
variable (K : PySem.W.Frag) (cl xc : Nat → Addr) (E : XK)
def Post {α : Type} (W : Wd) (r : R α) (q : α → Wd → Prop) : Prop := match r with
  | .ok x st => ∀ H m, Ex W ⟨H, W.F, m, st⟩ → Wf K cl ⟨H, W.F, m, st⟩ → q x ⟨H, W.F, m, st⟩
  | .ex c st => ∀ H m d, Ex W ⟨H, W.F, m, st⟩ → Wf K cl ⟨H, W.F, m, st⟩ → E (.ref (xc c)) d H
  | .no => False
/-- an expression's reading -/
def tE (f : Env → M Vl) : TE := fun σ H Q => ∃ env W, W.H = H ∧ EnvR K W σ env ∧ Wf K cl W ∧ Post K cl xc E W (f env W.st) fun x W' => ∀ v, RpV K W' v x → Q v W'.H
def tT (f : Env → M Bool) : TT := fun σ H Q => ∃ env W, W.H = H ∧ EnvR K W σ env ∧ Wf K cl W ∧ Post K cl xc E W (f env W.st) fun b W' => Q b W'.H
def tA (f : Env → M (List Vl)) : TA := fun σ H Q => ∃ env W, W.H = H ∧ EnvR K W σ env ∧ Wf K cl W ∧ Post K cl xc E W (f env W.st) fun xs W' => ∀ vs, RpVs K W' vs xs → Q vs W'.H
def tO (f : Env → M (Option Int)) : TO := fun σ H Q => ∃ env W, W.H = H ∧ EnvR K W σ env ∧ Wf K cl W ∧ Post K cl xc E W (f env W.st) fun o W' => Q o W'.H
/-- where a block's ends lead -/
def FlR (D : Ends) (σ : L2.St) (W : Wd) : Fl → Prop
  | .nx => D.nx σ W.H
  | .rt x => ∀ v, RpV K W v x → D.rt v W.H
  | .bk => D.bk σ W.H
  | .ct => D.ct σ W.H
def tS (f : Env → M (Fl × Env)) : TS := fun D σ H => ∃ env W, W.H = H ∧ EnvR K W σ env ∧ Wf K cl W ∧ Post K cl xc E W (f env W.st) fun p W' => ∀ σ', EnvR K W' σ' p.2 → FlR K D σ' W' p.1
variable {K cl xc E}
theorem Post.imp {α : Type} {W : Wd} {r : R α} {q q' : α → Wd → Prop} (h : Post K cl xc E W r q) (f : ∀ x W', Ex W W' → Wf K cl W' → q x W' → q' x W') : Post K cl xc E W r q' := by
  cases r with
  | ok x st => exact fun H m e w => f x _ e w (h H m e w)
  | ex c st => exact h
  | no => exact h
theorem Post.from {α : Type} {W W' : Wd} {r : R α} {q : α → Wd → Prop} (e : Ex W W') (h : Post K cl xc E W r q) : Post K cl xc E W' r q := by
  cases r with
  | ok x st =>
    intro H m e' w
    have z := e.f
    rw [z] at e' w ⊢
    exact h H m (e.trans e') w
  | ex c st =>
    intro H m d e' w
    have z := e.f
    rw [z] at e' w
    exact h H m d (e.trans e') w
  | no => exact h
/-- a run's parts -/
theorem Post.bind {α β : Type} {W : Wd} {m : M α} {f : α → M β} {q : β → Wd → Prop} (h : Post K cl xc E W ((m >>= f) W.st) q) :
    Post K cl xc E W (m W.st) fun x W' => Post K cl xc E W' (f x W'.st) q := by
  rw [M.bind_run] at h
  cases e : m W.st with
  | ok x st =>
    rw [e] at h
    exact fun H m' ex w => Post.from ex h
  | ex c st =>
    rw [e] at h
    exact h
  | no =>
    rw [e] at h
    exact h
theorem Post.pure {α : Type} {W : Wd} {a : α} {q : α → Wd → Prop} (w : Wf K cl W) (h : Post K cl xc E W ((Pure.pure a : M α) W.st) q) : q a W := h W.H W.m (Ex.refl W) w
theorem Post.no {α : Type} {W : Wd} {q : α → Wd → Prop} (h : Post K cl xc E W ((M.no : M α) W.st) q) : False := h
theorem Post.okS {α : Type} {W : Wd} {b : Bool} {a : α} {q : α → Wd → Prop} (w : Wf K cl W) (h : Post K cl xc E W ((Dw.okS b a : M α) W.st) q) : b = true ∧ q a W := by
  cases b with
  | true => exact ⟨rfl, Post.pure w h⟩
  | false => exact h.elim
end
end Dw

namespace Dw
open PySem L2
section
variable {K : PySem.W.Frag} {cl xc : Nat → Addr} {E : XK} {W W' : Wd} {a p : Addr}

theorem FsR.mono {fs gs} (e : Ex W W') (h : FsR K W fs gs) : FsR K W' fs gs := Paired.imp (fun _ _ q => ⟨q.1, q.2.mono e⟩) h
theorem KsR.mono {fs gs} (e : Ex W W') (h : KsR K W fs gs) : KsR K W' fs gs := Paired.imp (fun _ _ q => ⟨q.1, q.2.mono e⟩) h
theorem ObR.mono (e : Ex W W') (ha : ∀ o, W.H a = some o → W'.H a = some o) : ∀ {ob : Ob}, ObR K cl W a ob → ObR K cl W' a ob
  | .dead, _ => trivial
  | .lst _, ⟨xs, h1, h2⟩ => ⟨xs, ha _ h1, RpA.mono e _ _ h2⟩
  | .scr _, ⟨xs, h1, h2⟩ => ⟨xs, by
      rcases h1 with ⟨o, h⟩ | h
      · exact .inl ⟨o, ha _ h⟩
      · exact .inr h, RpA.mono e _ _ h2⟩
  | .ins _ _, ⟨dx, gs, h1, h2⟩ => ⟨dx, gs, ha _ h1, h2.mono e⟩
  | .dct _, ⟨gs, h1, h2⟩ => ⟨gs, ha _ h1, h2.mono e⟩
theorem ObR.there {ob : Ob} (h : ObR K cl W a ob) (d : isDead ob = false) : ∃ o, W.H a = some o := by
  cases ob with
  | dead => cases d
  | scr _ => cases d
  | lst _ => obtain ⟨xs, h, _⟩ := h; exact ⟨_, h⟩
  | ins _ _ => obtain ⟨dx, gs, h, _⟩ := h; exact ⟨_, h⟩
  | dct _ => obtain ⟨gs, h, _⟩ := h; exact ⟨_, h⟩
theorem Wf.live {a : Addr} (w : Wf K cl W) (h : Live W a) : ∃ o, W.H a = some o := by
  obtain ⟨i, o, h1, h2, h3⟩ := h
  exact (w.ob i a o h1 h2).there h3
theorem Wf.out_of_none (w : Wf K cl W) (h : W.H p = none) : Out W p := by
  refine ⟨fun l => ?_, fun f => ?_⟩
  · obtain ⟨o, e⟩ := w.live l
    rw [h] at e; cases e
  · obtain ⟨o, e⟩ := w.ft p f
    rw [h] at e; cases e

/-! ### a new thing that never changes -/
theorem Ex.new {o : HO} (h : W.H p = none) : Ex W ⟨upd W.H p o, W.F, W.m, W.st⟩ :=
  ⟨rfl, List.prefix_refl _, fun b u e l => ⟨by show upd W.H p o b = some u; rw [upd_ne (ne_of_none e h)]; exact e, l⟩⟩
theorem Wf.new {o : HO} (w : Wf K cl W) (h : W.H p = none) : Wf K cl ⟨upd W.H p o, W.F, W.m, W.st⟩ :=
  ⟨w.len, w.inj, w.nf, fun i b u h1 h2 => (w.ob i b u h1 h2).mono (Ex.new h) fun o' e => by
      show upd W.H p o b = some o'
      rw [upd_ne (ne_of_none e h)]; exact e,
    fun b f => by
      obtain ⟨o', e⟩ := w.ft b f
      exact ⟨o', by show upd W.H p o b = some o'; rw [upd_ne (ne_of_none e h)]; exact e⟩⟩
theorem out_new {o : HO} (w : Wf K cl W) (h : W.H p = none) : Out ⟨upd W.H p o, W.F, W.m, W.st⟩ p := w.out_of_none h
/-- .. a tuple, a list -/
theorem rp_newTup {xs : List V} {ds : List D} (w : Wf K cl W) (h : W.H p = none) (r : RpA K W xs ds) : Rp K ⟨upd W.H p (.tup xs), W.F, W.m, W.st⟩ (.ref p) (.tuple ds) :=
  .tup (.inl ⟨upd_same, out_new w h⟩) (RpA.mono (Ex.new h) _ _ r)
theorem rp_newLst {xs : List V} {ds : List D} (w : Wf K cl W) (h : W.H p = none) (r : RpA K W xs ds) : Rp K ⟨upd W.H p (.lst xs), W.F, W.m, W.st⟩ (.ref p) (.list ds) :=
  .lst ⟨upd_same, out_new w h⟩ (RpA.mono (Ex.new h) _ _ r)

/-! ### a new object of the store -/
theorem live_more {H : Hp} {ob : Ob} (hl : W.m.length = W.st.length) {a : Addr} : Live ⟨H, W.F, W.m ++ [p], W.st ++ [ob]⟩ a → Live W a ∨ (a = p ∧ isDead ob = false) := by
  rintro ⟨i, o, h1, h2, h3⟩
  have h1 : (W.m ++ [p])[i]? = some a := h1
  have h2 : (W.st ++ [ob])[i]? = some o := h2
  by_cases hi : i < W.m.length
  · rw [List.getElem?_append_left hi] at h1
    rw [List.getElem?_append_left (by omega)] at h2
    exact .inl ⟨i, o, h1, h2, h3⟩
  · rw [List.getElem?_append_right (by omega)] at h1 h2
    have e : i - W.m.length = 0 := by
      have := (List.getElem?_eq_some_iff.mp h1).1
      simp at this
      omega
    rw [e] at h1
    rw [← hl, e] at h2
    simp at h1 h2
    exact .inr ⟨h1.symm, by rw [h2]; exact h3⟩
theorem Ex.newO {H : Hp} {ob : Ob} (w : Wf K cl W) (h : W.H p = none) (hk : ∀ b u, W.H b = some u → H b = some u) : Ex W ⟨H, W.F, W.m ++ [p], W.st ++ [ob]⟩ :=
  ⟨rfl, ⟨[p], rfl⟩, fun b u e l => ⟨hk b u e, fun z => by
    rcases live_more w.len z with z | ⟨z, _⟩
    · exact l z
    · rw [z, h] at e; cases e⟩⟩
theorem Wf.newO {H : Hp} {ob : Ob} (w : Wf K cl W) (h : W.H p = none) (hk : ∀ b u, W.H b = some u → H b = some u) (r : ObR K cl ⟨H, W.F, W.m ++ [p], W.st ++ [ob]⟩ p ob) :
    Wf K cl ⟨H, W.F, W.m ++ [p], W.st ++ [ob]⟩ := by
  have ex : Ex W ⟨H, W.F, W.m ++ [p], W.st ++ [ob]⟩ := Ex.newO w h hk
  have sp : ∀ {i : Nat} {a : Addr} {o : Ob}, (W.m ++ [p])[i]? = some a → (W.st ++ [ob])[i]? = some o → (W.m[i]? = some a ∧ W.st[i]? = some o) ∨ (i = W.m.length ∧ a = p ∧ o = ob) := by
    intro i a o h1 h2
    by_cases hi : i < W.m.length
    · rw [List.getElem?_append_left hi] at h1
      rw [List.getElem?_append_left (by have := w.len; omega)] at h2
      exact .inl ⟨h1, h2⟩
    · rw [List.getElem?_append_right (by omega)] at h1
      rw [List.getElem?_append_right (by have := w.len; omega)] at h2
      have e : i - W.m.length = 0 := by
        have := (List.getElem?_eq_some_iff.mp h1).1
        simp at this
        omega
      rw [e] at h1
      rw [← w.len, e] at h2
      simp at h1 h2
      exact .inr ⟨by omega, h1.symm, h2.symm⟩
  have np : ∀ {i : Nat} {o : Ob}, W.m[i]? = some p → W.st[i]? = some o → isDead o = false → False := fun h1 h2 h3 => by
    obtain ⟨u, e⟩ := (w.ob _ _ _ h1 h2).there h3
    rw [h] at e; cases e
  refine ⟨by simp [w.len], fun i j b o u h1 h2 h3 h4 d1 d2 => ?_, fun i b o h1 h2 d => ?_, fun i b o h1 h2 => ?_, fun b f => ?_⟩
  · rcases sp h1 h3 with ⟨x1, x2⟩ | ⟨x1, x2, x3⟩ <;> rcases sp h2 h4 with ⟨y1, y2⟩ | ⟨y1, y2, y3⟩
    · exact w.inj i j b o u x1 y1 x2 y2 d1 d2
    · subst y2; exact (np x1 x2 d1).elim
    · subst x2; exact (np y1 y2 d2).elim
    · rw [x1, y1]
  · rcases sp h1 h2 with ⟨x1, x2⟩ | ⟨x1, x2, x3⟩
    · exact w.nf i b o x1 x2 d
    · subst x2
      intro f
      obtain ⟨u, e⟩ := w.ft _ f
      rw [h] at e; cases e
  · rcases sp h1 h2 with ⟨x1, x2⟩ | ⟨x1, x2, x3⟩
    · exact (w.ob i b o x1 x2).mono ex fun u e => hk b u e
    · subst x2 x3; exact r
  · obtain ⟨u, e⟩ := w.ft b f
    exact ⟨u, hk b u e⟩

/-! ### an object of the store changed, or frozen -/
theorem live_set {H : Hp} {ob ob' : Ob} {i : Nat} (hi : W.m[i]? = some a) (ho : W.st[i]? = some ob) (d : isDead ob = false) {b : Addr} : Live ⟨H, W.F, W.m, W.st.set i ob'⟩ b → Live W b := by
  rintro ⟨j, o, h1, h2, h3⟩
  by_cases hj : i = j
  · subst hj
    exact ⟨i, ob, h1, ho, d⟩
  · have h2 : (W.st.set i ob')[j]? = some o := h2
    rw [List.getElem?_set_ne hj] at h2
    exact ⟨j, o, h1, h2, h3⟩
theorem Ex.set {H : Hp} {ob ob' : Ob} {i : Nat} (hi : W.m[i]? = some a) (ho : W.st[i]? = some ob) (d : isDead ob = false) (hk : ∀ b u, b ≠ a → W.H b = some u → H b = some u) : Ex W ⟨H, W.F, W.m, W.st.set i ob'⟩ :=
  ⟨rfl, List.prefix_refl _, fun b u e l => ⟨hk b u (fun z => l (by rw [z]; exact ⟨i, ob, hi, ho, d⟩)) e, fun z => l (live_set hi ho d z)⟩⟩
theorem Wf.set {H : Hp} {ob ob' : Ob} {i : Nat} (w : Wf K cl W) (hi : W.m[i]? = some a) (ho : W.st[i]? = some ob) (d : isDead ob = false) (hk : ∀ b u, b ≠ a → W.H b = some u → H b = some u)
    (r : ObR K cl ⟨H, W.F, W.m, W.st.set i ob'⟩ a ob') : Wf K cl ⟨H, W.F, W.m, W.st.set i ob'⟩ := by
  have ex : Ex W ⟨H, W.F, W.m, W.st.set i ob'⟩ := Ex.set hi ho d hk
  have hil : i < W.st.length := (List.getElem?_eq_some_iff.mp ho).1
  have sp : ∀ {j : Nat} {b : Addr} {o : Ob}, W.m[j]? = some b → (W.st.set i ob')[j]? = some o → (j = i ∧ b = a ∧ o = ob') ∨ (j ≠ i ∧ W.st[j]? = some o) := by
    intro j b o h1 h2
    by_cases hj : i = j
    · subst hj
      rw [List.getElem?_set_self hil] at h2
      rw [hi] at h1
      cases h1; cases h2
      exact .inl ⟨rfl, rfl, rfl⟩
    · rw [List.getElem?_set_ne hj] at h2
      exact .inr ⟨fun e => hj e.symm, h2⟩
  have lv : ∀ {j : Nat} {b : Addr} {o : Ob}, W.m[j]? = some b → (W.st.set i ob')[j]? = some o → isDead o = false → ∃ u, W.st[j]? = some u ∧ isDead u = false := by
    intro j b o h1 h2 h3
    rcases sp h1 h2 with ⟨rfl, _, _⟩ | ⟨_, x⟩
    · exact ⟨ob, ho, d⟩
    · exact ⟨o, x, h3⟩
  refine ⟨by simp [w.len], fun j k b o u h1 h2 h3 h4 d1 d2 => ?_, fun j b o h1 h2 d1 => ?_, fun j b o h1 h2 => ?_, fun b f => ?_⟩
  · obtain ⟨x, x1, x2⟩ := lv h1 h3 d1
    obtain ⟨y, y1, y2⟩ := lv h2 h4 d2
    exact w.inj j k b x y h1 h2 x1 y1 x2 y2
  · obtain ⟨x, x1, x2⟩ := lv h1 h2 d1
    exact w.nf j b x h1 x1 x2
  · rcases sp h1 h2 with ⟨rfl, rfl, rfl⟩ | ⟨x1, x2⟩
    · exact r
    · cases hd : isDead o with
      | false =>
        refine (w.ob j b o h1 x2).mono ex fun u e => hk b u (fun z => ?_) e
        subst z
        exact x1 (w.inj j i _ o ob h1 hi x2 ho hd d)
      | true =>
        have q := w.ob j b o h1 x2
        cases o with
        | dead => trivial
        | scr ds =>
          obtain ⟨xs, h, h'⟩ := q
          refine ⟨xs, ?_, RpA.mono ex _ _ h'⟩
          rcases h with ⟨y, e⟩ | h
          · refine .inl ⟨y, hk b _ (fun q => ?_) e⟩
            subst q
            have := w.ob i b ob hi ho
            cases ob with
            | dead => cases d
            | scr _ => cases d
            | lst _ => obtain ⟨_, h, _⟩ := this; rw [e] at h; cases h
            | ins _ _ => obtain ⟨_, _, h, _⟩ := this; rw [e] at h; cases h
            | dct _ => obtain ⟨_, h, _⟩ := this; rw [e] at h; cases h
          · exact .inr h
        | lst _ => cases hd
        | ins _ _ => cases hd
        | dct _ => cases hd
  · obtain ⟨u, e⟩ := w.ft b f
    exact ⟨u, hk b u (fun z => w.nf i a ob hi ho d (by rw [← z]; exact f)) e⟩
end
end Dw

namespace Dw
open PySem L2
theorem szE : szLine = sizeLine := by rw [sizeLine_eq]; rfl
section
variable {K : PySem.W.Frag} {cl xc : Nat → Addr} {E : XK} {W W' : Wd}

theorem RpA.len : ∀ {vs : List V} {ds : List D}, RpA K W vs ds → vs.length = ds.length
  | _, [], h => by cases h; rfl
  | _, d :: ds, h => by
    cases h with
    | cons _ t => simp [RpA.len t]
theorem RpA.append : ∀ {vs us : List V} {ds es : List D}, RpA K W vs ds → RpA K W us es → RpA K W (vs ++ us) (ds ++ es)
  | _, _, [], _, h, g => by cases h; exact g
  | _, _, d :: ds, _, h, g => by
    cases h with
    | cons r t => exact .cons r (RpA.append t g)
theorem RpA.take : ∀ {vs : List V} {ds : List D} (n : Nat), RpA K W vs ds → RpA K W (vs.take n) (ds.take n)
  | _, [], n, h => by cases h; cases n <;> exact .nil
  | _, d :: ds, 0, h => by simp; exact .nil
  | _, d :: ds, n + 1, h => by
    cases h with
    | cons r t => exact .cons r (RpA.take n t)
theorem RpA.drop : ∀ {vs : List V} {ds : List D} (n : Nat), RpA K W vs ds → RpA K W (vs.drop n) (ds.drop n)
  | _, [], n, h => by cases h; cases n <;> exact .nil
  | _, d :: ds, 0, h => by simpa using h
  | _, d :: ds, n + 1, h => by
    cases h with
    | cons r t => simpa using RpA.drop n t
theorem RpA.get : ∀ {vs : List V} {ds : List D} {i : Nat} {d : D}, RpA K W vs ds → ds[i]? = some d → ∃ v, vs[i]? = some v ∧ Rp K W v d
  | _, [], _, _, _, e => by simp at e
  | _, x :: ds, 0, d, h, e => by
    cases h with
    | cons r t => simp at e; subst e; exact ⟨_, rfl, r⟩
  | _, x :: ds, i + 1, d, h, e => by
    cases h with
    | cons r t =>
      obtain ⟨v, h1, h2⟩ := RpA.get (i := i) t (by simpa using e)
      exact ⟨v, by simpa using h1, h2⟩
theorem RpA.set : ∀ {vs : List V} {ds : List D} (i : Nat) {v : V} {d : D}, RpA K W vs ds → Rp K W v d → RpA K W (vs.set i v) (ds.set i d)
  | _, [], _, _, _, h, _ => by cases h; exact .nil
  | _, x :: ds, 0, _, _, h, r => by
    cases h with
    | cons _ t => exact .cons r t
  | _, x :: ds, i + 1, _, _, h, r => by
    cases h with
    | cons q t => exact .cons q (RpA.set i t r)
theorem RpA.dropLast : ∀ {vs : List V} {ds : List D}, RpA K W vs ds → RpA K W vs.dropLast ds.dropLast := fun {vs ds} h => by
  rw [List.dropLast_eq_take, List.dropLast_eq_take, h.len]
  exact h.take _
theorem RpA.rep {vs : List V} {ds : List D} (h : RpA K W vs ds) : ∀ n : Nat, RpA K W (rep vs n) (rep ds n)
  | 0 => .nil
  | n + 1 => by
    unfold Dw.rep
    rw [List.replicate_succ, List.replicate_succ, List.flatten_cons, List.flatten_cons]
    exact h.append (RpA.rep h n)
theorem RpA.rev : ∀ {vs : List V} {ds : List D}, RpA K W vs ds → RpA K W vs.reverse ds.reverse
  | _, [], h => by cases h; exact .nil
  | _, d :: ds, h => by
    cases h with
    | cons r t => rw [List.reverse_cons, List.reverse_cons]; exact (RpA.rev t).append (.cons r .nil)

/-! ### as the layer's data -/
theorem TupAt.sq {a : Addr} {xs : List V} (h : TupAt K W a xs) : SqT K W.H a xs := by
  rcases h with ⟨h, _⟩ | h
  · exact .inl (.inl h)
  · exact .inr h
theorem LstAt.sq {a : Addr} {xs : List V} (h : LstAt W a xs) : SqL K W.H a xs := .inl (.inl h.1)
mutual
theorem Rp.dp : ∀ (d : D) (v : V), Rp K W v d → Dp K W.H v d
  | .none, _, h => by cases h; exact .non
  | .bool b, _, h => by cases h; exact .bl b
  | .int i, _, h => by cases h; exact .int i
  | .str x, _, h => by cases h; exact .str x
  | .list ds, _, h => by
    cases h with
    | lst h1 h2 => exact .lst h1.sq (RpA.dp ds _ h2)
  | .tuple ds, _, h => by
    cases h with
    | tup h1 h2 => exact .tup h1.sq (RpA.dp ds _ h2)
  | .dict _, _, h => by cases h
theorem RpA.dp : ∀ (ds : List D) (vs : List V), RpA K W vs ds → DpAll K W.H vs ds
  | [], _, h => by cases h; exact .nil
  | d :: ds, _, h => by
    cases h with
    | cons h1 h2 => exact .cons (Rp.dp d _ h1) (RpA.dp ds _ h2)
end

/-! ### the store looked at -/
theorem Post.getO {α : Type} {i : Nat} {f : Ob → M α} {q : α → Wd → Prop} (w : Wf K cl W) (h : Post K cl xc E W ((Dw.getO i >>= f) W.st) q) : ∃ ob a, W.st[i]? = some ob ∧ W.m[i]? = some a ∧ ObR K cl W a ob ∧ Post K cl xc E W (f ob W.st) q := by
  rw [M.bind_run] at h
  unfold Dw.getO at h
  cases e : W.st[i]? with
  | none => rw [e] at h; exact h.elim
  | some ob =>
    rw [e] at h
    have hi : i < W.m.length := by rw [w.len]; exact (List.getElem?_eq_some_iff.mp e).1
    have em : W.m[i]? = some W.m[i] := List.getElem?_eq_getElem hi
    exact ⟨ob, W.m[i], rfl, em, w.ob i _ ob em e, h⟩
/-- a list's items -/
theorem Post.getO' {α : Type} {W0 : Wd} {i : Nat} {f : Ob → M α} {q : α → Wd → Prop} (w : Wf K cl W) (h : Post K cl xc E W0 ((Dw.getO i >>= f) W.st) q) : ∃ ob a, W.st[i]? = some ob ∧ W.m[i]? = some a ∧ ObR K cl W a ob ∧ Post K cl xc E W0 (f ob W.st) q := by
  have hh : (Dw.getO i >>= f) W.st = match W.st[i]? with
      | some o => f o W.st
      | none => .no := by
    rw [M.bind_run]
    unfold Dw.getO
    cases W.st[i]? <;> rfl
  rw [hh] at h
  cases e : W.st[i]? with
  | none => rw [e] at h; exact h.elim
  | some o =>
    rw [e] at h
    have hl : i < W.m.length := by rw [w.len]; exact (List.getElem?_eq_some_iff.mp e).1
    exact ⟨o, W.m[i], rfl, List.getElem?_eq_getElem hl, w.ob i _ o (List.getElem?_eq_getElem hl) e, h⟩
theorem Post.lItems {α : Type} {v : V} {x : Vl} {f : List D → M α} {q : α → Wd → Prop} (w : Wf K cl W) (r : RpV K W v x) (h : Post K cl xc E W ((Dw.lItems x >>= f) W.st) q) :
    ∃ a xs ds, v = .ref a ∧ W.H a = some (.lst xs) ∧ RpA K W xs ds ∧ Post K cl xc E W (f ds W.st) q ∧ (x = liV ds ∨ ∃ i, x = .o i ∧ W.st[i]? = some (.lst ds) ∧ W.m[i]? = some a) := by
  cases x with
  | d x =>
    cases x with
    | list ds =>
      cases r with
      | lst h1 h2 => exact ⟨_, _, ds, rfl, h1.1, h2, h, .inl rfl⟩
    | _ => exact h.elim
  | o i =>
    obtain ⟨a, rfl, hm⟩ := r
    unfold Dw.lItems at h
    rw [M.bind_assoc] at h
    obtain ⟨ob, a', h1, h2, h3, h4⟩ := Post.getO w h
    rw [hm] at h2; cases h2
    cases ob with
    | lst ds =>
      obtain ⟨xs, g1, g2⟩ := h3
      exact ⟨_, xs, ds, rfl, g1, g2, h4, .inr ⟨i, rfl, h1, hm⟩⟩
    | _ => exact h4.elim
/-- a list's or a tuple's items -/
theorem Post.sItems {α : Type} {v : V} {x : Vl} {f : List D → M α} {q : α → Wd → Prop} (w : Wf K cl W) (r : RpV K W v x) (h : Post K cl xc E W ((Dw.sItems x >>= f) W.st) q) :
    ∃ a xs ds, v = .ref a ∧ (SqL K W.H a xs ∨ SqT K W.H a xs) ∧ RpA K W xs ds ∧ Post K cl xc E W (f ds W.st) q := by
  cases x with
  | d x =>
    cases x with
    | list ds =>
      cases r with
      | lst h1 h2 => exact ⟨_, _, ds, rfl, .inl h1.sq, h2, h⟩
    | tuple ds =>
      cases r with
      | tup h1 h2 => exact ⟨_, _, ds, rfl, .inr h1.sq, h2, h⟩
    | _ => exact h.elim
  | o i =>
    obtain ⟨a, rfl, hm⟩ := r
    unfold Dw.sItems at h
    rw [M.bind_assoc] at h
    obtain ⟨ob, a', h1, h2, h3, h4⟩ := Post.getO w h
    rw [hm] at h2; cases h2
    cases ob with
    | lst ds =>
      obtain ⟨xs, g1, g2⟩ := h3
      exact ⟨_, xs, ds, rfl, .inl (.inl (.inl g1)), g2, h4⟩
    | scr ds =>
      obtain ⟨xs, g1, g2⟩ := h3
      exact ⟨_, xs, ds, rfl, .inl g1.sq, g2, h4⟩
    | _ => exact h4.elim
theorem Post.asD {α : Type} {v : V} {x : Vl} {f : D → M α} {q : α → Wd → Prop} (r : RpV K W v x) (h : Post K cl xc E W ((Dw.asD x >>= f) W.st) q) : ∃ y, x = .d y ∧ Rp K W v y ∧ Post K cl xc E W (f y W.st) q := by
  cases x with
  | d y => exact ⟨y, rfl, r, h⟩
  | o i => exact h.elim
theorem Post.asI {α : Type} {v : V} {x : Vl} {f : Int → M α} {q : α → Wd → Prop} (r : RpV K W v x) (h : Post K cl xc E W ((Dw.asI x >>= f) W.st) q) : ∃ i, v = .int i ∧ x = inV i ∧ Post K cl xc E W (f i W.st) q := by
  cases x with
  | d y =>
    cases y with
    | int i => cases r; exact ⟨i, rfl, rfl, h⟩
    | _ => exact h.elim
  | o i => exact h.elim
theorem Post.asB {α : Type} {v : V} {x : Vl} {f : Bool → M α} {q : α → Wd → Prop} (r : RpV K W v x) (h : Post K cl xc E W ((Dw.asB x >>= f) W.st) q) : ∃ b, v = .bl b ∧ x = blV b ∧ Post K cl xc E W (f b W.st) q := by
  cases x with
  | d y =>
    cases y with
    | bool b => cases r; exact ⟨b, rfl, rfl, h⟩
    | _ => exact h.elim
  | o i => exact h.elim
/-- as data: a list object as a list -/
theorem Post.asData {α : Type} {v : V} {x : Vl} {f : D → M α} {q : α → Wd → Prop} (w : Wf K cl W) (r : RpV K W v x) (h : Post K cl xc E W ((Dw.asData x >>= f) W.st) q) : ∃ y, Dp K W.H v y ∧ Post K cl xc E W (f y W.st) q := by
  cases x with
  | d y => exact ⟨y, Rp.dp y v r, h⟩
  | o i =>
    obtain ⟨a, rfl, hm⟩ := r
    unfold Dw.asData at h
    rw [M.bind_assoc] at h
    obtain ⟨ob, a', h1, h2, h3, h4⟩ := Post.getO w h
    rw [hm] at h2; cases h2
    cases ob with
    | lst ds =>
      obtain ⟨xs, g1, g2⟩ := h3
      exact ⟨.list ds, .lst (.inl (.inl g1)) (RpA.dp ds xs g2), h4⟩
    | _ => exact h4.elim
theorem Post.okB {α : Type} {b : Bool} {f : Unit → M α} {q : α → Wd → Prop} (h : Post K cl xc E W ((Dw.okS b () >>= f) W.st) q) : b = true ∧ Post K cl xc E W (f () W.st) q := by
  cases b with
  | true => exact ⟨rfl, h⟩
  | false => exact h.elim
end
end Dw

namespace Dw
open PySem L2
section
variable {X : Cx}
def rFalse : R2 := fun _ _ _ _ => False
theorem opFalse {f : Value → Value → Sem Value} : OpR X f rFalse := fun _ _ _ _ _ _ _ _ _ _ _ _ h => h.elim
/-- t * k for a tuple, k at most 1 -/
theorem tuple_mul0 (l : Addr) (items : Array Value) (n : Nat) (dd : Option Addr) (sl : Array (Option Value)) (x : Int) (u : Tok) (c0 : (decide (x < -(2 ^ 63)) || decide (x ≥ 2 ^ 63)) = false) (c1 : (items.isEmpty || x == 1) = false) (c2 : (decide (x ≤ 0) || items.isEmpty) = true) :
    Meets (Builtin.«tuple.__mul__» ⟨[.ref l, .int x u], []⟩) (fun _ R s => s.heap.get? l = some { cls := .type "tuple", dict := dd, data := .seq items n, slots := sl } ∧
      R (.ok (.ret (Value.ref s.heap.objs.size))) { s with heap := s.heap.push { cls := Value.type "tuple", data := Data.seq #[] }, toks := s.toks }) :=
  .of_wp fun prog w A R s h => by
    obtain ⟨hp, g, d, tk, os⟩ := s
    obtain ⟨hl, h⟩ := h
    have f1 := AutoSeq1.idx_int
    wp_walk using wpAny_loadPart' hl
    repeat (first
      | (refine wpAny_ite_false (decide_eq_false (by rw [c0]; exact Bool.false_ne_true)) ?_; wp_walk using wpAny_loadPart' hl)
      | (refine wpAny_ite_false (decide_eq_false (by rw [c1]; exact Bool.false_ne_true)) ?_; wp_walk using wpAny_loadPart' hl)
      | (refine wpAny_ite_true (decide_eq_true c2) ?_; wp_walk using wpAny_loadPart' hl))
    exact ⟨_, rfl, h⟩
theorem tuple_mul1 (l : Addr) (items : Array Value) (n : Nat) (dd : Option Addr) (sl : Array (Option Value)) (x : Int) (u : Tok) (c0 : (decide (x < -(2 ^ 63)) || decide (x ≥ 2 ^ 63)) = false) (c1 : (items.isEmpty || x == 1) = true) :
    Meets (Builtin.«tuple.__mul__» ⟨[.ref l, .int x u], []⟩) (fun _ R s => s.heap.get? l = some { cls := .type "tuple", dict := dd, data := .seq items n, slots := sl } ∧ R (.ok (.ret (Value.ref l))) s) :=
  .of_wp fun prog w A R s h => by
    obtain ⟨hp, g, d, tk, os⟩ := s
    obtain ⟨hl, h⟩ := h
    have f1 := AutoSeq1.idx_int
    wp_walk using wpAny_loadPart' hl
    repeat (first
      | (refine wpAny_ite_false (decide_eq_false (by rw [c0]; exact Bool.false_ne_true)) ?_; wp_walk using wpAny_loadPart' hl)
      | (refine wpAny_ite_true (decide_eq_true c1) ?_; wp_walk using wpAny_loadPart' hl))
    exact ⟨_, rfl, h⟩
def rRepA (K : PySem.W.Frag) : R2 := fun x y H Q => ∃ l k xs, x = .ref l ∧ y = .int k ∧ SqT K H l xs ∧ xs ≠ [] ∧ 0 ≤ k ∧ k ≤ 1000 ∧ xs.length ≤ 1000 ∧
  (k = 1 → Q (.ref l) H) ∧ (k ≠ 1 → ∀ p, H p = none → Q (.ref p) (upd H p (.tup (rep xs k.toNat))))
theorem op_repA : OpR X (binaryOp .Mult) (rRepA X.K) := by
  intro pins s σ H x y v u Q I rx ry h
  obtain ⟨l, k, xs, rfl, rfl, hT, hne, h1, h2, hz, q1, q2⟩ := h
  by_cases h3 : 2 ≤ k
  · exact op_repT pins s σ H _ _ v u Q I rx ry ⟨l, k, xs, rfl, rfl, hT, hne, h3, h2, hz, q2 (by omega)⟩
  · cases rx
    obtain ⟨t, rfl⟩ := ry
    obtain ⟨its, r, ⟨⟨cls, dd, data, sl⟩, ho, hc, n, hd⟩, hs⟩ := I.tuple hT
    simp only at hc hd
    subst hc hd
    have hle : its.length = xs.length := r.length.symm
    have hn : its ≠ [] := fun e => hne (by
      rw [e] at hle
      exact List.eq_nil_of_length_eq_zero hle.symm)
    have hi : its.toArray.isEmpty = false := by
      cases its with
      | nil => exact absurd rfl hn
      | cons a b => rfl
    have c0 : (decide (k < -(2 ^ 63)) || decide (k ≥ 2 ^ 63)) = false := by
      rw [decide_eq_false (by omega), decide_eq_false (by omega)] <;> rfl
    by_cases h4 : k = 1
    · subst h4
      have c1 : (its.toArray.isEmpty || (1 : Int) == 1) = true := by simp
      exact wpAny_binaryOp_repeat_ref (T := "tuple") (U := "int") (by decide) ⟨_, ho, rfl⟩ (fun s' => typeIs_int s' 1 t) noFill_tuple_mul F.fills_int_mul F.slot_int_rmul repeat_tuple F.slot_int_index.lookup
        (call_meets F.slot_int_rmul (typeIs_int s 1 t) F.entry_int_rmul (F.args_int_rmul_2 _ _) (int_rmul_tuple 1 t l its.toArray n dd sl)
          ⟨ho, rfl, ⟨_, ho, rfl⟩, call_meets F.slot_tuple_mul ⟨_, ho, rfl⟩ F.entry_tuple_mul (F.args_tuple_mul_2 _ _) (tuple_mul1 l its.toArray n dd sl 1 t c0 c1) ⟨ho, .ref l, H, I, rfl, q1 rfl⟩⟩)
    · have h5 : k = 0 := by omega
      subst h5
      have c1 : (its.toArray.isEmpty || (0 : Int) == 1) = false := by rw [hi] <;> rfl
      have c2 : (decide ((0 : Int) ≤ 0) || its.toArray.isEmpty) = true := by simp
      refine wpAny_binaryOp_repeat_ref (T := "tuple") (U := "int") (by decide) ⟨_, ho, rfl⟩ (fun s' => typeIs_int s' 0 t) noFill_tuple_mul F.fills_int_mul F.slot_int_rmul repeat_tuple F.slot_int_index.lookup
        (call_meets F.slot_int_rmul (typeIs_int s 0 t) F.entry_int_rmul (F.args_int_rmul_2 _ _) (int_rmul_tuple 0 t l its.toArray n dd sl)
          ⟨ho, rfl, ⟨_, ho, rfl⟩, call_meets F.slot_tuple_mul ⟨_, ho, rfl⟩ F.entry_tuple_mul (F.args_tuple_mul_2 _ _) (tuple_mul0 l its.toArray n dd sl 0 t c0 c1 c2) ⟨ho, ?_⟩⟩)
      have hf : H s.heap.objs.size = none := I.hok.fresh (Nat.le_refl _)
      refine ⟨.ref s.heap.objs.size, upd H s.heap.objs.size (.tup []), I.laid (t' := s.toks) (fun b u e => Heap.get?_push_of_some _ e) (Nat.le_refl _) ?_, rfl, q2 (by decide) _ hf⟩
      exact ⟨Nat.zero_le _, [], .nil, ⟨_, Heap.get?_push_size _ rfl, rfl, _, rfl⟩⟩
variable {K : PySem.W.Frag} {cl xc : Nat → Addr} {E : XK}
abbrev QE (K : PySem.W.Frag) (Q : VK) : Vl → Wd → Prop := fun z W' => ∀ v, RpV K W' v z → Q v W'.H
/-- the rule r gives what the evaluator's f reckons -/
def Ok2 (K : PySem.W.Frag) (cl xc : Nat → Addr) (E : XK) (f : Vl → Vl → M Vl) (r : R2) : Prop :=
  ∀ (W : Wd) (x y : Vl) (vx vy : V) (Q : VK), Wf K cl W → RpV K W vx x → RpV K W vy y → Post K cl xc E W (f x y W.st) (QE K Q) → r vx vy W.H Q
theorem Post.okP {α : Type} {W : Wd} {b : Bool} {a : α} {q : α → Wd → Prop} (h : Post K cl xc E W ((Dw.okS b a : M α) W.st) q) : b = true ∧ Post K cl xc E W ((Pure.pure a : M α) W.st) q := by
  cases b with
  | true => exact ⟨rfl, h⟩
  | false => exact h.elim
theorem Post.newLst {W : Wd} {xs : List V} {ds : List D} {Q : VK} (w : Wf K cl W) (h : Post K cl xc E W ((Pure.pure (liV ds) : M Vl) W.st) (QE K Q)) (r : RpA K W xs ds) {p : Addr} (hp : W.H p = none) : Q (.ref p) (upd W.H p (.lst xs)) :=
  h _ _ (Ex.new hp) (w.new hp) _ (rp_newLst w hp r)
theorem Post.newTup {W : Wd} {xs : List V} {ds : List D} {Q : VK} (w : Wf K cl W) (h : Post K cl xc E W ((Pure.pure (tuV ds) : M Vl) W.st) (QE K Q)) (r : RpA K W xs ds) {p : Addr} (hp : W.H p = none) : Q (.ref p) (upd W.H p (.tup xs)) :=
  h _ _ (Ex.new hp) (w.new hp) _ (rp_newTup w hp r)
theorem Post.val {W : Wd} {z : Vl} {v : V} {Q : VK} (w : Wf K cl W) (h : Post K cl xc E W ((Pure.pure z : M Vl) W.st) (QE K Q)) (r : RpV K W v z) : Q v W.H := h _ _ (Ex.refl W) w _ r
def rAddA (K : PySem.W.Frag) : R2 := fun x y H Q => rI0 (fun i j => .int (i + j)) x y H Q ∨ (∃ i j, x = .str i ∧ y = .str j ∧ i.length + j.length ≤ sizeLine ∧ Q (.str (i ++ j)) H) ∨ rCatA K x y H Q ∨ rCat x y H Q
theorem op_addA : OpR X (binaryOp .Add) (rAddA X.K) := op_add.or (op_add_str.or (op_catA.or op_cat))
theorem ok_add : Ok2 K cl xc E (binop .Add) (rAddA K) := by
  intro W x y vx vy Q w rx ry h
  have gen : Post K cl xc E W ((do let xs ← lItems x; let ys ← lItems y; okS (decide (xs.length + ys.length ≤ szLine)) (liV (xs ++ ys)) : M Vl) W.st) (QE K Q) → rAddA K vx vy W.H Q := fun h => by
    obtain ⟨a, xs, ds, rfl, ha, ra, h, _⟩ := Post.lItems w rx h
    obtain ⟨b, ys, es, rfl, hb, rb, h, _⟩ := Post.lItems w ry h
    obtain ⟨hz, h⟩ := Post.okP h
    have hz := of_decide_eq_true hz
    exact .inr (.inr (.inr ⟨a, b, xs, ys, rfl, rfl, ha, hb, by rw [ra.len, rb.len, ← szE]; exact hz, fun p hp => Post.newLst w h (ra.append rb) hp⟩))
  cases x with
  | o i => exact gen h
  | d x =>
    cases y with
    | o i => cases x <;> exact gen h
    | d y =>
      cases x with
      | int i =>
        cases y with
        | int j => cases rx; cases ry; exact .inl ⟨i, j, rfl, rfl, Post.val w h (.int _)⟩
        | _ => exact gen h
      | str i =>
        cases y with
        | str j =>
          cases rx; cases ry
          obtain ⟨hz, h⟩ := Post.okP h
          exact .inr (.inl ⟨i, j, rfl, rfl, by rw [← szE]; exact of_decide_eq_true hz, Post.val w h (.str _)⟩)
        | _ => exact gen h
      | tuple ds =>
        cases y with
        | tuple es =>
          cases rx with
          | tup h1 h2 =>
            cases ry with
            | tup g1 g2 =>
              obtain ⟨hz, h⟩ := Post.okP h
              refine .inr (.inr (.inl ⟨_, _, _, _, rfl, rfl, h1.sq, g1.sq, by rw [h2.len, g2.len, ← szE]; exact of_decide_eq_true hz, fun e => ?_, fun _ e => ?_, fun _ _ p hp => Post.newTup w h (h2.append g2) hp⟩))
              · subst e
                have := h2.len
                cases ds with
                | nil => exact Post.val w h (.tup g1 g2)
                | cons _ _ => simp at this
              · subst e
                have := g2.len
                cases es with
                | nil =>
                  rw [List.append_nil] at h
                  exact Post.val w h (.tup h1 h2)
                | cons _ _ => simp at this
        | _ => exact gen h
      | _ => cases y <;> exact gen h
theorem ok_sub : Ok2 K cl xc E (binop .Sub) (rI0 fun i j => .int (i - j)) := by
  intro W x y vx vy Q w rx ry h
  cases x with
  | o i => exact h.elim
  | d x =>
    cases y with
    | o i => cases x <;> exact h.elim
    | d y =>
      cases x with
      | int i =>
        cases y with
        | int j => cases rx; cases ry; exact ⟨i, j, rfl, rfl, Post.val w h (.int _)⟩
        | _ => exact h.elim
      | _ => cases y <;> exact h.elim
theorem ok_fdiv : Ok2 K cl xc E (binop .FloorDiv) (rI CDiv fun i j => .int (i / j)) := by
  intro W x y vx vy Q w rx ry h
  cases x with
  | o i => exact h.elim
  | d x =>
    cases y with
    | o i => cases x <;> exact h.elim
    | d y =>
      cases x with
      | int i =>
        cases y with
        | int j =>
          cases rx; cases ry
          obtain ⟨hz, h⟩ := Post.okP h
          simp only [Bool.and_eq_true, decide_eq_true_eq] at hz
          exact ⟨i, j, rfl, rfl, hz, Post.val w h (.int _)⟩
        | _ => exact h.elim
      | _ => cases y <;> exact h.elim
theorem ok_mod : Ok2 K cl xc E (binop .Mod) (rI (fun _ j => 0 < j) fun i j => .int (i % j)) := by
  intro W x y vx vy Q w rx ry h
  cases x with
  | o i => exact h.elim
  | d x =>
    cases y with
    | o i => cases x <;> exact h.elim
    | d y =>
      cases x with
      | int i =>
        cases y with
        | int j =>
          cases rx; cases ry
          obtain ⟨hz, h⟩ := Post.okP h
          exact ⟨i, j, rfl, rfl, of_decide_eq_true hz, Post.val w h (.int _)⟩
        | _ => exact h.elim
      | _ => cases y <;> exact h.elim
theorem ok_pow : Ok2 K cl xc E (binop .Pow) (rI CPow fun i j => .int (i ^ j.toNat)) := by
  intro W x y vx vy Q w rx ry h
  cases x with
  | o i => exact h.elim
  | d x =>
    cases y with
    | o i => cases x <;> exact h.elim
    | d y =>
      cases x with
      | int i =>
        cases y with
        | int j =>
          cases rx; cases ry
          obtain ⟨hz, h⟩ := Post.okP h
          simp only [Bool.and_eq_true, decide_eq_true_eq] at hz
          exact ⟨i, j, rfl, rfl, ⟨hz.1.1, hz.1.2, hz.2⟩, Post.val w h (.int _)⟩
        | _ => exact h.elim
      | _ => cases y <;> exact h.elim
theorem vals_rep {xs : List V} (n : Nat) : (List.replicate n xs).flatten = rep xs n := rfl
def rMulA (K : PySem.W.Frag) : R2 := fun x y H Q => rI CMul (fun i j => .int (i * j)) x y H Q ∨ rRepA K x y H Q ∨ rRep x y H Q
theorem op_mulA : OpR X (binaryOp .Mult) (rMulA X.K) := op_mul.or (op_repA.or op_rep)
theorem ok_mul : Ok2 K cl xc E (binop .Mult) (rMulA K) := by
  intro W x y vx vy Q w rx ry h
  cases x with
  | o i => exact h.elim
  | d x =>
    cases y with
    | o i => cases x <;> exact h.elim
    | d y =>
      cases x with
      | int i =>
        cases y with
        | int j =>
          cases rx; cases ry
          obtain ⟨hz, h⟩ := Post.okP h
          refine .inl ⟨i, j, rfl, rfl, ?_, Post.val w h (.int _)⟩
          unfold cMul at hz
          simp only [Bool.and_eq_true, Bool.or_eq_true, decide_eq_true_eq] at hz
          exact hz
        | _ => exact h.elim
      | tuple ds =>
        cases y with
        | int j =>
          cases ry
          cases rx with
          | tup h1 h2 =>
            obtain ⟨hz, h⟩ := Post.okP h
            simp only [Bool.and_eq_true, decide_eq_true_eq] at hz
            obtain ⟨⟨⟨z1, z2⟩, z3⟩, z4⟩ := hz
            refine .inr (.inl ⟨_, j, _, rfl, rfl, h1.sq, fun e => ?_, z2, z3, by rw [h2.len]; exact z4, fun e => ?_, fun _ p hp => Post.newTup w h (h2.rep _) hp⟩)
            · subst e
              have := h2.len
              cases ds with
              | nil => exact z1 rfl
              | cons _ _ => simp at this
            · subst e
              have e : rep ds (1 : Int).toNat = ds := by simp [rep]
              rw [e] at h
              exact Post.val w h (.tup h1 h2)
        | _ => exact h.elim
      | list ds =>
        cases y with
        | int j =>
          cases ry
          cases rx with
          | lst h1 h2 =>
            obtain ⟨hz, h⟩ := Post.okP h
            simp only [Bool.and_eq_true, decide_eq_true_eq] at hz
            obtain ⟨⟨z1, z2⟩, z3⟩ := hz
            exact .inr (.inr ⟨_, j, _, rfl, rfl, h1.1, by omega, z2, by rw [h2.len, ← szE]; exact z3, fun p hp => Post.newLst w h (h2.rep _) hp⟩)
        | _ => exact h.elim
      | _ => cases y <;> exact h.elim
theorem okFalse {f : Vl → Vl → M Vl} (hf : ∀ x y, f x y = M.no) : Ok2 K cl xc E f rFalse := fun W x y vx vy Q w rx ry h => by
  rw [hf] at h
  exact h.elim
/-- every operator -/
theorem bin_ok (op : Operator) : ∃ r, OpR X (binaryOp op) r ∧ Ok2 X.K cl xc E (binop op) r := by
  cases op with
  | Add => exact ⟨_, op_addA, ok_add⟩
  | Sub => exact ⟨_, op_sub, ok_sub⟩
  | Mult => exact ⟨_, op_mulA, ok_mul⟩
  | FloorDiv => exact ⟨_, op_fdiv, ok_fdiv⟩
  | Mod => exact ⟨_, op_mod, ok_mod⟩
  | Pow => exact ⟨_, op_pow, ok_pow⟩
  | _ => exact ⟨_, opFalse, okFalse fun _ _ => rfl⟩
end
end Dw

namespace Dw
open PySem L2
theorem lexAt_shift {e r : Nat → Bool} {z : Bool} : ∀ (k i : Nat), Ob.lexAt e r z (i + 1) k = Ob.lexAt (fun j => e (j + 1)) (fun j => r (j + 1)) z i k
  | 0, _ => rfl
  | k + 1, i => by
    rw [Ob.lexAt_succ, Ob.lexAt_succ, lexAt_shift k (i + 1)]
theorem readsAll_len : ∀ {h : Heap} {vs : List Value} {ds : List D} {as : List Addr}, ReadsAll h vs ds as → vs.length = ds.length
  | _, _, [], _, r => by cases r; rfl
  | _, _, d :: ds, _, r => by
    cases r with
    | cons _ t => simp [readsAll_len t]
theorem readsAll_at : ∀ {h : Heap} {vs : List Value} {ds : List D} {as : List Addr}, ReadsAll h vs ds as → ∀ (j : Nat) (hv : j < vs.length) (hd : j < ds.length), ∃ bs, Reads h vs[j] ds[j] bs
  | _, _, [], _, _, j, _, hd => absurd hd (Nat.not_lt_zero _)
  | _, _, d :: ds, _, r, 0, _, _ => by
    cases r with
    | cons q _ => exact ⟨_, q⟩
  | _, _, d :: ds, _, r, j + 1, hv, hd => by
    cases r with
    | cons _ t => exact readsAll_at t j (by simpa using hv) (by simpa using hd)
/-- what dltAll tells, pair by pair -/
theorem dltAll_lex : ∀ (xs ys : List D) (c : Bool), dltAll xs ys = some c → (∀ (j : Nat) (h1 : j < xs.length) (h2 : j < ys.length), ∃ b, dlt xs[j] ys[j] = some b) ∧
    Ob.lexAt (SeqAt.pairEq xs ys) (fun j => ((xs[j]?.bind fun x => ys[j]?.bind fun y => dlt x y).getD false)) (decide (xs.length < ys.length)) 0 (min xs.length ys.length) = c
  | [], [], c, h => by
    simp [dltAll] at h
    subst h
    exact ⟨fun j h1 => absurd h1 (Nat.not_lt_zero _), rfl⟩
  | [], y :: ys, c, h => by
    simp [dltAll] at h
    subst h
    exact ⟨fun j h1 => absurd h1 (Nat.not_lt_zero _), by simp [Ob.lexAt_zero]⟩
  | x :: xs, [], c, h => by
    simp [dltAll] at h
    subst h
    exact ⟨fun j _ h1 => absurd h1 (Nat.not_lt_zero _), by simp [Ob.lexAt_zero]⟩
  | x :: xs, y :: ys, c, h => by
    rw [dltAll] at h
    cases e1 : dlt x y with
    | none => rw [e1] at h; simp at h
    | some b =>
      cases e2 : dltAll xs ys with
      | none => rw [e1, e2] at h; simp at h
      | some r =>
        rw [e1, e2] at h
        simp only [Option.some.injEq] at h
        obtain ⟨i1, i2⟩ := dltAll_lex xs ys r e2
        refine ⟨fun j h1 h2 => ?_, ?_⟩
        · cases j with
          | zero => exact ⟨b, e1⟩
          | succ j => exact i1 j (by simpa using h1) (by simpa using h2)
        · have em : min (x :: xs).length (y :: ys).length = min xs.length ys.length + 1 := by simp only [List.length_cons]; omega
          rw [em, Ob.lexAt_succ, lexAt_shift]
          have ed : decide ((x :: xs).length < (y :: ys).length) = decide (xs.length < ys.length) := by
            simp only [List.length_cons]
            exact decide_eq_decide.mpr (by omega)
          rw [ed]
          have ee : (fun j => SeqAt.pairEq (x :: xs) (y :: ys) (j + 1)) = SeqAt.pairEq xs ys := by
            funext j
            simp [SeqAt.pairEq]
          have er : (fun j => (((x :: xs)[j + 1]?.bind fun x => (y :: ys)[j + 1]?.bind fun y => dlt x y).getD false)) = fun j => ((xs[j]?.bind fun x => ys[j]?.bind fun y => dlt x y).getD false) := by
            funext j
            simp
          rw [ee, er, i2]
          have e0 : SeqAt.pairEq (x :: xs) (y :: ys) 0 = PyData.eqv x y := by simp [SeqAt.pairEq]
          rw [e0]
          simp [e1, h]
mutual
theorem rc_lt : ∀ (d e : D) (c : Bool) (A : Around) (s : Shared) (u v : Value) (as bs : List Addr), dlt d e = some c → Reads s.heap u d as → Reads s.heap v e bs → d.canLay0 = true → e.canLay0 = true →
    A.units + min d.depth e.depth < cLine → Ob.RcOp .Lt A s u v c
  | .int i, e, c, A, s, u, v, as, bs, h, ra, rb, ha, hb, hu => by
    cases e with
    | int j =>
      simp [dlt] at h
      subst h
      cases ra; cases rb
      exact Ob.RcOp.lt_int _ _ _ _
    | _ => simp [dlt] at h
  | .str x, e, c, A, s, u, v, as, bs, h, ra, rb, ha, hb, hu => by
    cases e with
    | str y =>
      simp only [dlt, Option.some.injEq] at h
      subst h
      cases ra; cases rb
      exact fun _ _ _ _ q => PyProof.Rows.lt_str q
    | _ => simp [dlt] at h
  | .tuple xs, e, c, A, s, u, v, as, bs, h, ra, rb, ha, hb, hu => by
    cases e with
    | tuple ys =>
      rw [dlt] at h
      cases ra with
      | tuple h1 h2 h3 h4 =>
        cases rb with
        | tuple g1 g2 g3 g4 =>
          obtain ⟨i1, i2⟩ := dltAll_lex xs ys c h
          have ha' : PyData.canLayAll0 xs = true := by simpa [PyData.canLay0] using ha
          have hb' : PyData.canLayAll0 ys = true := by simpa [PyData.canLay0] using hb
          have hu' : A.units + (min (PyData.depthAll xs) (PyData.depthAll ys) + 1) < cLine := by
            simp only [PyData.depth] at hu
            omega
          have l1 := readsAll_len h4
          have l2 := readsAll_len g4
          have hin : A.in1.units = A.units + 1 := rfl
          have R := Ob.RcOp.tuples_lt (A := A) (s := s) (e := SeqAt.pairEq xs ys) (r := fun j => ((xs[j]?.bind fun x => ys[j]?.bind fun y => dlt x y).getD false)) ⟨_, h1, h2, _, h3⟩ ⟨_, g1, g2, _, g3⟩ (by omega)
            (fun j k1 k2 => SeqAt.eqAt_readsAll xs ys A.in1 s _ _ _ _ h4 g4 ha' hb' (by rw [hin]; omega) j (by simpa using k1) (by simpa using k2))
            (fun j k1 k2 _ => rc_ltAll xs ys A.in1 s _ _ _ _ i1 h4 g4 ha' hb' (by rw [hin]; omega) j (by simpa using k1) (by simpa using k2))
          have e1 : (_ : Array Value).size = xs.length := l1
          have e2 : (_ : Array Value).size = ys.length := l2
          rw [← Array.length_toList, ← Array.length_toList, l1, l2] at R
          rw [← i2]
          exact R
    | _ => simp [dlt] at h
  | .none, _, _, _, _, _, _, _, _, h, _, _, _, _, _ => by simp [dlt] at h
  | .bool _, _, _, _, _, _, _, _, _, h, _, _, _, _, _ => by simp [dlt] at h
  | .list _, _, _, _, _, _, _, _, _, h, _, _, _, _, _ => by simp [dlt] at h
  | .dict _, _, _, _, _, _, _, _, _, h, _, _, _, _, _ => by simp [dlt] at h
theorem rc_ltAll : ∀ (xs ys : List D) (A : Around) (s : Shared) (us vs : List Value) (as bs : List Addr), (∀ (j : Nat) (h1 : j < xs.length) (h2 : j < ys.length), ∃ b, dlt xs[j] ys[j] = some b) → ReadsAll s.heap us xs as → ReadsAll s.heap vs ys bs →
    PyData.canLayAll0 xs = true → PyData.canLayAll0 ys = true → A.units + min (PyData.depthAll xs) (PyData.depthAll ys) < cLine →
    ∀ (j : Nat) (h1 : j < us.length) (h2 : j < vs.length), Ob.RcOp .Lt A s us[j] vs[j] ((xs[j]?.bind fun x => ys[j]?.bind fun y => dlt x y).getD false)
  | [], _, _, _, _, _, _, _, _, ra, _, _, _, _, j, h1, _ => by cases ra; exact absurd h1 (Nat.not_lt_zero _)
  | _ :: _, [], _, _, _, _, _, _, _, _, rb, _, _, _, j, _, h2 => by cases rb; exact absurd h2 (Nat.not_lt_zero _)
  | x :: xs, y :: ys, A, s, us, vs, as, bs, hd, ra, rb, ha, hb, hu, j, h1, h2 => by
    have ha' : x.canLay0 = true ∧ PyData.canLayAll0 xs = true := by simpa [PyData.canLayAll0] using ha
    have hb' : y.canLay0 = true ∧ PyData.canLayAll0 ys = true := by simpa [PyData.canLayAll0] using hb
    have hu' : A.units + min (max x.depth (PyData.depthAll xs)) (max y.depth (PyData.depthAll ys)) < cLine := by simpa [PyData.depthAll] using hu
    cases ra with
    | cons r1 t1 =>
      cases rb with
      | cons r2 t2 =>
        cases j with
        | zero =>
          obtain ⟨b, e⟩ := hd 0 (by simp) (by simp)
          have e : dlt x y = some b := e
          have := rc_lt x y b A s _ _ _ _ e r1 r2 ha'.1 hb'.1 (by omega)
          simpa [e] using this
        | succ j =>
          have := rc_ltAll xs ys A s _ _ _ _ (fun j k1 k2 => hd (j + 1) (by simpa using k1) (by simpa using k2)) t1 t2 ha'.2 hb'.2 (by omega) j (by simpa using h1) (by simpa using h2)
          simpa using this
end

section
variable {X : Cx} {K : PySem.W.Frag} {cl xc : Nat → Addr} {E : XK}
def rLtD (K : PySem.W.Frag) : R2 := fun x y H Q => ∃ d e c, Dp K H x d ∧ Dp K H y e ∧ SeqAt.shaped d = true ∧ SeqAt.shaped e = true ∧ dlt d e = some c ∧ Q (.bl c) H
theorem op_ltD (hu : X.A.units + 64 < cLine) : OpR X (compareOp .Lt) (rLtD X.K) := by
  intro pins s σ H x y v u Q I rx ry h
  obtain ⟨d, e, c, hd, he, sd, se, hc, q⟩ := h
  obtain ⟨as, r1⟩ := Dp.reads I d x v hd rx
  obtain ⟨bs, r2⟩ := Dp.reads I e y u he ry
  have h1 : d.depth ≤ 64 := SeqAt.depth_of_shaped sd
  exact (rc_lt d e c X.A s v u as bs hc r1 r2 (SeqAt.canLay_of_shaped sd) (SeqAt.canLay_of_shaped se) (by omega)) X.prog X.w X.xe (EP X pins σ Q) ⟨.bl c, H, I, rfl, q⟩
def rInDT (K : PySem.W.Frag) : R2 := fun x y H Q => ∃ d ds, Dp K H x d ∧ Dp K H y (.tuple ds) ∧ SeqAt.shaped d = true ∧ SeqAt.shaped (.tuple ds) = true ∧ Q (.bl (ds.any fun z => PyData.eqv z d)) H
def rNotInDT (K : PySem.W.Frag) : R2 := fun x y H Q => ∃ d ds, Dp K H x d ∧ Dp K H y (.tuple ds) ∧ SeqAt.shaped d = true ∧ SeqAt.shaped (.tuple ds) = true ∧ Q (.bl (!ds.any fun z => PyData.eqv z d)) H
theorem op_inDT (hu : X.A.units + 65 < cLine) : OpR X (compareOp .In) (rInDT X.K) := by
  intro pins s σ H x y v u Q I rx ry h
  obtain ⟨d, ds, hd, he, sd, se, q⟩ := h
  obtain ⟨as, r1⟩ := Dp.reads I d x v hd rx
  obtain ⟨bs, r2⟩ := Dp.reads I (.tuple ds) y u he ry
  exact SeqAt.in_tuple_reads r2 r1 (SeqAt.canLay_of_shaped se) (SeqAt.canLay_of_shaped sd) (PyProof.Rows.room_in_shaped sd hu) ⟨.bl _, H, I, rfl, q⟩
theorem op_notInDT (hu : X.A.units + 65 < cLine) : OpR X (compareOp .NotIn) (rNotInDT X.K) := by
  intro pins s σ H x y v u Q I rx ry h
  obtain ⟨d, ds, hd, he, sd, se, q⟩ := h
  obtain ⟨as, r1⟩ := Dp.reads I d x v hd rx
  obtain ⟨bs, r2⟩ := Dp.reads I (.tuple ds) y u he ry
  exact SeqAt.notIn_tuple_reads r2 r1 (SeqAt.canLay_of_shaped se) (SeqAt.canLay_of_shaped sd) (PyProof.Rows.room_in_shaped sd hu) ⟨.bl _, H, I, rfl, q⟩
/-- the rule r gives what the evaluator's test f reckons -/
def OkC (K : PySem.W.Frag) (cl xc : Nat → Addr) (E : XK) (f : Vl → Vl → M Bool) (r : R2) : Prop :=
  ∀ (W : Wd) (x y : Vl) (vx vy : V) (Q : VK), Wf K cl W → RpV K W vx x → RpV K W vy y → Post K cl xc E W (f x y W.st) (fun b W' => Q (.bl b) W'.H) → r vx vy W.H Q
theorem okCFalse {f : Vl → Vl → M Bool} (hf : ∀ x y, f x y = M.no) : OkC K cl xc E f rFalse := fun W x y vx vy Q w rx ry h => by
  rw [hf] at h
  exact h.elim
theorem okc_eq : OkC K cl xc E (cmpop .Eq) (rEqD K) := by
  intro W x y vx vy Q w rx ry h
  obtain ⟨d, hd, h⟩ := Post.asData w rx h
  obtain ⟨e, he, h⟩ := Post.asData w ry h
  obtain ⟨hz, h⟩ := Post.okP h
  rw [Bool.and_eq_true] at hz
  exact ⟨d, e, hd, he, hz.1, hz.2, Post.pure w h⟩
theorem okc_ne : OkC K cl xc E (cmpop .NotEq) (rNeD K) := by
  intro W x y vx vy Q w rx ry h
  have h : Post K cl xc E W ((eqB x y >>= fun c => (pure (!c) : M Bool)) W.st) _ := h
  unfold eqB at h
  simp only [M.bind_assoc] at h
  obtain ⟨d, hd, h⟩ := Post.asData w rx h
  obtain ⟨e, he, h⟩ := Post.asData w ry h
  cases hz : (shp d && shp e) with
  | false => rw [hz] at h; exact h.elim
  | true =>
    rw [hz] at h
    rw [Bool.and_eq_true] at hz
    exact ⟨d, e, hd, he, hz.1, hz.2, Post.pure w h⟩
theorem okc_lt : OkC K cl xc E (cmpop .Lt) (rLtD K) := by
  intro W x y vx vy Q w rx ry h
  obtain ⟨d, rfl, hd, h⟩ := Post.asD rx h
  obtain ⟨e, rfl, he, h⟩ := Post.asD ry h
  obtain ⟨hz, h⟩ := Post.okB h
  rw [Bool.and_eq_true] at hz
  cases hc : dlt d e with
  | none => rw [hc] at h; exact h.elim
  | some c =>
    rw [hc] at h
    exact ⟨d, e, c, Rp.dp d vx hd, Rp.dp e vy he, hz.1, hz.2, hc, Post.pure w h⟩
theorem okc_int {p : Int → Int → Bool} : OkC K cl xc E (intCmp p) (rI0 fun i j => .bl (p i j)) := by
  intro W x y vx vy Q w rx ry h
  cases x with
  | o i => exact h.elim
  | d x =>
    cases y with
    | o i => cases x <;> exact h.elim
    | d y =>
      cases x with
      | int i =>
        cases y with
        | int j => cases rx; cases ry; exact ⟨i, j, rfl, rfl, Post.pure w h⟩
        | _ => exact h.elim
      | _ => cases y <;> exact h.elim
def rLeA : R2 := fun x y H Q => rI0 (fun i j => .bl (decide (i ≤ j))) x y H Q ∨ ∃ i j, x = .str i ∧ y = .str j ∧ Q (.bl (!decide (j.cps.toList < i.cps.toList))) H
theorem op_leA : OpR X (compareOp .LtE) rLeA := op_le.or (by
  intro pins s σ H x y v u Q I rx ry h
  obtain ⟨i, j, rfl, rfl, q⟩ := h
  obtain ⟨t, rfl⟩ := rx
  obtain ⟨t', rfl⟩ := ry
  refine PySem.P.le_str ⟨.bl _, H, I, rfl, ?_⟩
  exact q)
theorem okc_le : OkC K cl xc E (cmpop .LtE) rLeA := by
  intro W x y vx vy Q w rx ry h
  cases x with
  | o i => exact h.elim
  | d x =>
    cases y with
    | o i => cases x <;> exact h.elim
    | d y =>
      cases x with
      | int i =>
        cases y with
        | int j => cases rx; cases ry; exact .inl ⟨i, j, rfl, rfl, Post.pure w h⟩
        | _ => exact h.elim
      | str i =>
        cases y with
        | str j => cases rx; cases ry; exact .inr ⟨i, j, rfl, rfl, Post.pure w h⟩
        | _ => exact h.elim
      | _ => cases y <;> exact h.elim
def rInA (K : PySem.W.Frag) : R2 := fun x y H Q => (∃ i j, x = .str i ∧ y = .str j ∧ Q (.bl (!(Builtin.Str.occurrences j i 0 j.length 1).isEmpty)) H) ∨ rInD K x y H Q ∨ rInDT K x y H Q
theorem op_inA (hu : X.A.units + 65 < cLine) : OpR X (compareOp .In) (rInA X.K) := op_in_str.or ((op_inD hu).or (op_inDT hu))
def rNotInA (K : PySem.W.Frag) : R2 := fun x y H Q => (∃ i j, x = .str i ∧ y = .str j ∧ Q (.bl (!(!(Builtin.Str.occurrences j i 0 j.length 1).isEmpty))) H) ∨ rNotInD K x y H Q ∨ rNotInDT K x y H Q
theorem op_notInA (hu : X.A.units + 65 < cLine) : OpR X (compareOp .NotIn) (rNotInA X.K) := op_notin_str.or ((op_notInD hu).or (op_notInDT hu))
/-- what inB finds -/
theorem inB_cases {α : Type} {W : Wd} {x y : Vl} {vx vy : V} {f : Bool → M α} {q : α → Wd → Prop} (w : Wf K cl W) (rx : RpV K W vx x) (ry : RpV K W vy y) (h : Post K cl xc E W ((inB x y >>= f) W.st) q) :
    (∃ i j, vx = .str i ∧ vy = .str j ∧ Post K cl xc E W (f (!(Builtin.Str.occurrences j i 0 j.length 1).isEmpty) W.st) q) ∨
    (∃ d ds, Dp K W.H vx d ∧ Dp K W.H vy (.list ds) ∧ SeqAt.shaped d = true ∧ SeqAt.shaped (.list ds) = true ∧ Post K cl xc E W (f (isIn d ds) W.st) q) ∨
    (∃ d ds, Dp K W.H vx d ∧ Dp K W.H vy (.tuple ds) ∧ SeqAt.shaped d = true ∧ SeqAt.shaped (.tuple ds) = true ∧ Post K cl xc E W (f (isIn d ds) W.st) q) := by
  cases y with
  | o i =>
    have h' : Post K cl xc E W (((asD x >>= fun x => getO i >>= fun ob => match ob with
      | .lst xs => okS (shp x && shp (.list xs)) (isIn x xs)
      | _ => M.no) >>= f) W.st) q := by
      cases x with
      | o j => exact h
      | d x => cases x <;> exact h
    simp only [M.bind_assoc] at h'
    obtain ⟨d, rfl, hd, h'⟩ := Post.asD rx h'
    obtain ⟨ob, a, h1, h2, h3, h4⟩ := Post.getO w h'
    obtain ⟨a', rfl, hm⟩ := ry
    rw [hm] at h2; cases h2
    cases ob with
    | lst ds =>
      obtain ⟨xs, g1, g2⟩ := h3
      cases hz : (shp d && shp (.list ds)) with
      | false => simp only [hz] at h4; exact h4.elim
      | true =>
        simp only [hz] at h4
        rw [Bool.and_eq_true] at hz
        exact .inr (.inl ⟨d, ds, Rp.dp d vx hd, .lst (.inl (.inl g1)) (RpA.dp ds xs g2), hz.1, hz.2, h4⟩)
    | _ => exact h4.elim
  | d y =>
    cases y with
    | str j =>
      cases x with
      | o _ => exact h.elim
      | d x =>
        cases x with
        | str i => cases rx; cases ry; exact .inl ⟨i, j, rfl, rfl, h⟩
        | _ => exact h.elim
    | list ds =>
      have h' : Post K cl xc E W (((asD x >>= fun x => okS (shp x && shp (.list ds)) (isIn x ds)) >>= f) W.st) q := by
        cases x with
        | o j => exact h
        | d x => cases x <;> exact h
      simp only [M.bind_assoc] at h'
      obtain ⟨d, rfl, hd, h'⟩ := Post.asD rx h'
      cases hz : (shp d && shp (.list ds)) with
      | false => simp only [hz] at h'; exact h'.elim
      | true =>
        simp only [hz] at h'
        rw [Bool.and_eq_true] at hz
        exact .inr (.inl ⟨d, ds, Rp.dp d vx hd, Rp.dp _ vy ry, hz.1, hz.2, h'⟩)
    | tuple ds =>
      have h' : Post K cl xc E W (((asD x >>= fun x => okS (shp x && shp (.tuple ds)) (isIn x ds)) >>= f) W.st) q := by
        cases x with
        | o j => exact h
        | d x => cases x <;> exact h
      simp only [M.bind_assoc] at h'
      obtain ⟨d, rfl, hd, h'⟩ := Post.asD rx h'
      cases hz : (shp d && shp (.tuple ds)) with
      | false => simp only [hz] at h'; exact h'.elim
      | true =>
        simp only [hz] at h'
        rw [Bool.and_eq_true] at hz
        exact .inr (.inr ⟨d, ds, Rp.dp d vx hd, Rp.dp _ vy ry, hz.1, hz.2, h'⟩)
    | _ =>
      have h' : Post K cl xc E W ((M.no >>= f) W.st) q := by
        cases x with
        | o j => exact h
        | d x => cases x <;> exact h
      exact h'.elim
theorem okc_in : OkC K cl xc E (cmpop .In) (rInA K) := by
  intro W x y vx vy Q w rx ry h
  have h : Post K cl xc E W ((inB x y >>= fun c => (pure c : M Bool)) W.st) (fun b W' => Q (.bl b) W'.H) := by
    rw [show (inB x y >>= fun c => (pure c : M Bool)) W.st = inB x y W.st from by
      rw [M.bind_run]; cases inB x y W.st <;> rfl]
    exact h
  rcases inB_cases w rx ry h with ⟨i, j, e1, e2, h⟩ | ⟨d, ds, h1, h2, h3, h4, h⟩ | ⟨d, ds, h1, h2, h3, h4, h⟩
  · exact .inl ⟨i, j, e1, e2, Post.pure w h⟩
  · exact .inr (.inl ⟨d, ds, h1, h2, h3, h4, Post.pure w h⟩)
  · exact .inr (.inr ⟨d, ds, h1, h2, h3, h4, Post.pure w h⟩)
theorem okc_notIn : OkC K cl xc E (cmpop .NotIn) (rNotInA K) := by
  intro W x y vx vy Q w rx ry h
  have h : Post K cl xc E W ((inB x y >>= fun c => (pure (!c) : M Bool)) W.st) (fun b W' => Q (.bl b) W'.H) := h
  rcases inB_cases w rx ry h with ⟨i, j, e1, e2, h⟩ | ⟨d, ds, h1, h2, h3, h4, h⟩ | ⟨d, ds, h1, h2, h3, h4, h⟩
  · exact .inl ⟨i, j, e1, e2, Post.pure w h⟩
  · exact .inr (.inl ⟨d, ds, h1, h2, h3, h4, Post.pure w h⟩)
  · exact .inr (.inr ⟨d, ds, h1, h2, h3, h4, Post.pure w h⟩)
def rIsA : R2 := fun x y H Q => (y = .non ∧ Q (.bl (decide (x = .non))) H) ∨ rIsB x y H Q
def rIsNotA : R2 := fun x y H Q => (y = .non ∧ Q (.bl (!decide (x = .non))) H) ∨ rNotB x y H Q
theorem op_isA : OpR X (compareOp .Is) rIsA := op_isN.or op_isBl
theorem op_isNotA : OpR X (compareOp .IsNot) rIsNotA := op_notN.or op_notBl
theorem isB_cases {α : Type} {W : Wd} {x y : Vl} {vx vy : V} {f : Bool → M α} {q : α → Wd → Prop} (w : Wf K cl W) (rx : RpV K W vx x) (ry : RpV K W vy y) (h : Post K cl xc E W ((isB x y >>= f) W.st) q) :
    (vy = .non ∧ Post K cl xc E W (f (decide (vx = .non)) W.st) q) ∨ ∃ a b : Bool, vx = .bl a ∧ vy = .bl b ∧ Post K cl xc E W (f (decide (a = b)) W.st) q := by
  cases y with
  | o i => cases x with
    | o j => exact h.elim
    | d x => cases x <;> exact h.elim
  | d y =>
    cases x with
    | o j => cases y <;> exact h.elim
    | d x =>
      cases y with
      | none =>
        cases ry
        refine .inl ⟨rfl, ?_⟩
        cases x <;> cases rx <;> exact h
      | bool b =>
        cases ry
        cases x with
        | bool a => cases rx; exact .inr ⟨a, b, rfl, rfl, h⟩
        | _ => exact h.elim
      | _ => cases x <;> exact h.elim
theorem okc_is : OkC K cl xc E (cmpop .Is) rIsA := by
  intro W x y vx vy Q w rx ry h
  have h : Post K cl xc E W ((isB x y >>= fun c => (pure c : M Bool)) W.st) (fun b W' => Q (.bl b) W'.H) := by
    rw [show (isB x y >>= fun c => (pure c : M Bool)) W.st = isB x y W.st from by
      rw [M.bind_run]; cases isB x y W.st <;> rfl]
    exact h
  rcases isB_cases w rx ry h with ⟨e, h⟩ | ⟨a, b, e1, e2, h⟩
  · exact .inl ⟨e, Post.pure w h⟩
  · exact .inr ⟨a, b, e1, e2, Post.pure w h⟩
theorem okc_isNot : OkC K cl xc E (cmpop .IsNot) rIsNotA := by
  intro W x y vx vy Q w rx ry h
  have h : Post K cl xc E W ((isB x y >>= fun c => (pure (!c) : M Bool)) W.st) (fun b W' => Q (.bl b) W'.H) := h
  rcases isB_cases w rx ry h with ⟨e, h⟩ | ⟨a, b, e1, e2, h⟩
  · exact .inl ⟨e, Post.pure w h⟩
  · exact .inr ⟨a, b, e1, e2, Post.pure w h⟩
/-- every comparison -/
theorem cmp_ok (hu : X.A.units + 65 < cLine) (op : CmpOp) : ∃ r, OpR X (compareOp op) r ∧ OkC X.K cl xc E (cmpop op) r := by
  cases op with
  | Eq => exact ⟨_, op_eqD (by omega), okc_eq⟩
  | NotEq => exact ⟨_, op_neD (by omega), okc_ne⟩
  | Lt => exact ⟨_, op_ltD (by omega), okc_lt⟩
  | LtE => exact ⟨_, op_leA, okc_le⟩
  | Gt => exact ⟨_, op_gt, okc_int⟩
  | GtE => exact ⟨_, op_ge, okc_int⟩
  | Is => exact ⟨_, op_isA, okc_is⟩
  | IsNot => exact ⟨_, op_isNotA, okc_isNot⟩
  | In => exact ⟨_, op_inA hu, okc_in⟩
  | NotIn => exact ⟨_, op_notInA hu, okc_notIn⟩
end
end Dw

namespace Dw
open PySem L2 PyProof.Rows
section
variable {prog : Program} {w : World} {A : Around} {E : Value → Shared → Prop} {s : Shared}
theorem collect_tup {l : Addr} {vs : List Value} {Q : List Value → Shared → Prop} (hl : s.heap.IsTuple l vs.toArray)
    (h : Q vs { s with heap := (s.heap.push (seqObj "list" #[] 0)).update s.heap.objs.size (Obj.mapSeq (· ++ vs.toArray)) }) (hsz : vs.length ≤ sizeLine) :
    wpAny (model prog w) A (collect (.ref l)) Q E s := by
  obtain ⟨o, ho, hc, n, hd⟩ := id hl
  unfold collect
  refine wpAny_bind (wpAny_runValue (codeAny_builtin entry_proto_collect' ?_))
  show wpAny _ _ (do again (.builtin "list.__iadd__" ⟨[← newList [], .ref l], []⟩)) _ _ s
  refine wpAny_bind (wpAny_newList (wpAny_pure ⟨Code.quiet_builtin _ (by decide +kernel), codeAny_builtin entry_list_iadd' ?_⟩))
  show wpAny _ _ (Builtin.List.listExtendWith (.ref s.heap.objs.size) (.ref l) (.ref s.heap.objs.size)) _ _ { s with heap := s.heap.push (seqObj "list" #[] 0) }
  unfold Builtin.List.listExtendWith
  have ho' : (s.heap.push (seqObj "list" #[] 0)).get? l = some o := Heap.get?_push_of_some _ ho
  refine wpAny_bind (wpAny_typeOf (T := "tuple") ⟨o, ho', hc⟩ ?_)
  have ht : (Value.type "tuple" == Value.type "tuple") = true := by rfl
  rw [if_pos (by rw [ht]; simp)]
  refine wpAny_bind (listItems_at ho' hd ?_)
  refine wpAny_bind (listItems_at (xs := #[]) (n := 0) (Heap.get?_push_size _ rfl) rfl ?_)
  rw [if_neg (by simp)]
  refine wpAny_bind (listUpdate_at (xs := #[]) (n := 0) (Heap.get?_push_size _ rfl) rfl ?_ (Nat.zero_le _) (by show (#[] ++ vs.toArray).size ≤ sizeLine + 1; simp only [Array.size_append, List.size_toArray, List.length_nil]; omega))
  refine wpAny_pure ?_
  show wpAny (model prog w) A (do
      let o ← load s.heap.objs.size
      match o.data with
      | .seq xs _ => pure xs.toList
      | _ => unsupported "internal:collect") Q E { s with heap := (s.heap.push (seqObj "list" #[] 0)).update s.heap.objs.size (Obj.mapSeq (· ++ vs.toArray)) }
  refine wpAny_bind (wpAny_load (get?_update_seq (Heap.get?_push_size _ rfl) _) ?_)
  show wpAny _ _ (pure ((#[] : Array Value) ++ vs.toArray).toList) Q E _
  rw [show ((#[] : Array Value) ++ vs.toArray).toList = vs by simp]
  exact wpAny_pure h
theorem sorted_either {l : Addr} {vs : List Value} {κ : PyProof.Rows.KeyKind} {Q : Value → Shared → Prop} (hl : s.heap.IsList l vs.toArray ∨ s.heap.IsTuple l vs.toArray) (S : PySem.W.SortsAt prog w A.in1.in1 { s with heap := PySem.W.sortingHeap (PySem.W.copyHeap s.heap vs) (s.heap.objs.size + 1) vs } κ vs) (hL : vs.length ≤ sizeLine)
    (h : Q (.ref (s.heap.objs.size + 1)) { s with heap := sortedAll s.heap vs (PySem.W.sortVals κ false vs vs).toArray }) : wpAny (model prog w) A (call (.builtin "sorted") [.ref l]) Q E s := by
  refine PyProof.Rows.call_function_entry_kw (kw := []) kind_sorted plain_sorted entry_sorted (args_sorted1 _) ?_
  unfold Builtin.«sorted»
  refine wpAny_bind (m := checkCount "sorted" 1 1 _) (wpAny_pure ?_)
  have key : ∀ {R : List Value → Shared → Prop} {E'}, (R vs { s with heap := (s.heap.push (seqObj "list" #[] 0)).update s.heap.objs.size (Obj.mapSeq (· ++ vs.toArray)) }) → wpAny (model prog w) A.in1 (collect (.ref l)) R E' s := fun hR => by
    rcases hl with hl | hl
    · exact collect_list hl hR hL
    · exact collect_tup hl hR hL
  refine wpAny_bind (key ?_)
  refine wpAny_bind (wpAny_newList ?_ hL)
  have hsz : ((s.heap.push (seqObj "list" #[] 0)).update s.heap.objs.size (Obj.mapSeq (· ++ vs.toArray))).objs.size = s.heap.objs.size + 1 := by
    rw [Heap.size_update, size_push']
  show wpAny _ _ _ _ _ { s with heap := PySem.W.copyHeap s.heap vs }
  rw [hsz]
  refine wpAny_bind (wpAny_holding (PyProof.Rows.wpAny_call_entry_kw (kw := []) slot_list_sort ⟨_, PySem.W.copyHeap_at s.heap vs, rfl⟩ entry_list_sort ?body (args_list_sort _)))
  case body =>
    show wpAny (model prog w) A.in1.in1 (Builtin.«list.sort» ⟨[.ref (s.heap.objs.size + 1)], []⟩) _ _ _
    refine PySem.W.list_sort_vals (s := { s with heap := PySem.W.copyHeap s.heap vs }) (PySem.W.copyHeap_at s.heap vs) S hL ?_
    exact ⟨_, rfl, wpAny_pure ⟨_, rfl, h⟩⟩
end
section
variable {X : Cx} {K : PySem.W.Frag} {cl xc : Nat → Addr} {E : XK}
/-- sorted(l): every tie between the items and the data holds of the sorted ones -/
def rSortedD (K : PySem.W.Frag) : List V → Hp → VK → Prop := fun xs H Q => ∃ (a : Addr) (vs : List V) (ds : List D), xs = [.ref a] ∧ (SqL K H a vs ∨ SqT K H a vs) ∧ DpAll K H vs ds ∧ ordd ds = true ∧
  ∀ l vs', H l = none → (∀ R' : V → D → Prop, Paired R' vs ds → Paired R' vs' (sortD ds)) → Q (.ref l) (upd H l (.lst vs'))
theorem dpAll_vals {pins : List (Addr × Obj)} {σ : L2.St} {H : Hp} {s : Shared} (I : Inv X pins σ H s) : ∀ {ds : List D} {vs : List V} {us : List Value}, DpAll X.K H vs ds → Vals vs us → PySem.W.EachIs (fun v d => ∃ as, Reads s.heap v d as) us ds
  | [], _, _, h, r => by cases h; cases r; exact .nil
  | d :: ds, _, _, h, r => by
    cases h with
    | cons h1 h2 =>
      cases r with
      | cons r1 r2 => exact .cons (Dp.reads I d _ _ h1 r1) (dpAll_vals I h2 r2)
theorem trip : ∀ {ds : List D} {vs : List V} {us : List Value}, vs.length = ds.length → Vals vs us → PySem.W.EachIs (fun u (b : V × D) => RelV b.1 u) us (vs.zip ds)
  | [], [], _, _, r => by cases r; exact .nil
  | [], _ :: _, _, h, _ => by simp at h
  | _ :: _, [], _, h, _ => by simp at h
  | d :: ds, v :: vs, _, h, r => by
    cases r with
    | cons r1 r2 => exact .cons r1 (trip (by simpa using h) r2)
theorem each_vals : ∀ {us : List Value} {bs : List (V × D)}, PySem.W.EachIs (fun u (b : V × D) => RelV b.1 u) us bs → Vals (bs.map (·.1)) us
  | _, _, .nil => .nil
  | _, _, .cons r t => .cons r (each_vals t)
theorem dpAll_len {H : Hp} : ∀ {ds : List D} {vs : List V}, DpAll K H vs ds → vs.length = ds.length
  | [], _, h => by cases h; rfl
  | d :: ds, _, h => by
    cases h with
    | cons _ t => simp [dpAll_len t]
theorem paired_of {R' : V → D → Prop} {bs : List (V × D)} (h : ∀ b ∈ bs, R' b.1 b.2) : Paired R' (bs.map (·.1)) (bs.map (·.2)) := by
  induction bs with
  | nil => exact .nil
  | cons b bs ih => exact .cons (h b List.mem_cons_self) (ih fun c hc => h c (List.mem_cons_of_mem _ hc))
theorem paired_mem {R' : V → D → Prop} : ∀ {vs : List V} {ds : List D}, Paired R' vs ds → ∀ b ∈ vs.zip ds, R' b.1 b.2
  | _, _, .nil, b, hb => by cases hb
  | _, _, .cons r t, b, hb => by
    rcases List.mem_cons.mp hb with z | z
    · rw [z]; exact r
    · exact paired_mem t b z
theorem zip_snd : ∀ {vs : List V} {ds : List D}, vs.length = ds.length → (vs.zip ds).map (·.2) = ds
  | [], [], _ => rfl
  | [], _ :: _, h => by simp at h
  | _ :: _, [], h => by simp at h
  | v :: vs, d :: ds, h => by simp [zip_snd (vs := vs) (ds := ds) (by simpa using h)]
theorem ordd_all {ds : List D} (h : ordd ds = true) : ds.length ≤ szLine ∧ PySem.W.AllAlike ds ∧ PySem.W.Sortable ds ∧ ∀ d ∈ ds, d.depth ≤ 64 := by
  unfold ordd at h
  simp only [Bool.and_eq_true, Bool.or_eq_true, decide_eq_true_eq, List.all_eq_true] at h
  obtain ⟨⟨h1, h2⟩, h3⟩ := h
  refine ⟨h1, fun d hd e he => (h2 d hd).2 e he, ?_, fun d hd => SeqAt.depth_of_shaped (h2 d hd).1⟩
  rcases h3 with h3 | h3
  · refine .inl fun d hd => ?_
    have := h3 d hd
    unfold isTp1 at this
    split at this
    · exact ⟨_, _, rfl⟩
    · cases this
  · refine .inr fun d hd => ?_
    have := h3 d hd
    refine ⟨fun e => ?_, fun xs e => ?_⟩
    · rw [e] at this; cases this
    · rw [e] at this; cases this
theorem sortD_snd {vs : List V} {ds : List D} (h : vs.length = ds.length) : ((vs.zip ds).mergeSort (PySem.W.dataLe false Prod.snd)).map (·.2) = sortD ds := by
  have e := List.map_mergeSort (r := PySem.W.dataLe false (Prod.snd : V × D → D)) (s := PySem.W.dataLe false (id : D → D)) (f := (Prod.snd : V × D → D)) (l := vs.zip ds) (fun a _ b _ => rfl)
  refine e.trans ?_
  show ((vs.zip ds).map (·.2)).mergeSort _ = _
  rw [zip_snd h]
  rfl
theorem cr_sortedD (hu : X.A.units + 66 < cLine) : CallR X (.builtin "sorted") (rSortedD X.K) := by
  intro pins s σ H xs us Q I r h
  obtain ⟨a, vs, ds, rfl, hs, hd, ho, q⟩ := h
  obtain ⟨u, rfl, ru⟩ := vals1 r
  cases ru
  obtain ⟨z1, z2, z3, z4⟩ := ordd_all ho
  have hlen := dpAll_len hd
  have main : ∀ its : List Value, Vals vs its → (s.heap.IsList a its.toArray ∨ s.heap.IsTuple a its.toArray) → wpAny (model X.prog X.w) X.A (call (.builtin "sorted") [.ref a]) (EP X pins σ Q) X.xe s := by
    intro its rv hl
    have hz : its.length ≤ sizeLine := by rw [← rv.length, hlen, ← szE]; exact z1
    have kp : ∀ b o, s.heap.get? b = some o → (PySem.W.sortingHeap (PySem.W.copyHeap s.heap its) (s.heap.objs.size + 1) its).get? b = some o := fun b o e => PySem.W.sorting_copy_old e
    have I2 : Inv X pins σ H { s with heap := PySem.W.sortingHeap (PySem.W.copyHeap s.heap its) (s.heap.objs.size + 1) its } := I.kept (t' := s.toks) kp
    have e2 := dpAll_vals I2 hd rv
    refine sorted_either hl (PySem.W.SortsAt.data e2 z2 z3 fun d hd => ?_) hz ?_
    · have := z4 d hd
      have hin : X.A.in1.in1.units = X.A.units + 1 + 1 := rfl
      rw [hin]; omega
    · have hek := PySem.W.each_keys z2 e2
      have he : PySem.W.EachIs (fun u (b : V × D) => RelV b.1 u) (PySem.W.sortVals (PySem.W.dataKind (PySem.W.sortingHeap (PySem.W.copyHeap s.heap its) (s.heap.objs.size + 1) its) ds) false its its) ((vs.zip ds).mergeSort (PySem.W.dataLe false Prod.snd)) := by
        refine PySem.W.sortVals_each (κ := PySem.W.dataKind _ ds) (fun b : V × D => PySem.W.keyToks b.2) (trip hlen rv) ?_
        refine PySem.W.each_of_map (R := fun v d => (PySem.W.dataKind (PySem.W.sortingHeap (PySem.W.copyHeap s.heap its) (s.heap.objs.size + 1) its) ds).keyOf v = some (PySem.W.keyToks d)) Prod.snd ?_
        show PySem.W.EachIs _ its ((vs.zip ds).map (·.2))
        rw [zip_snd hlen]
        exact hek
      obtain ⟨ep, he'⟩ := sortedAll_at s.heap its (PySem.W.sortVals (PySem.W.dataKind (PySem.W.sortingHeap (PySem.W.copyHeap s.heap its) (s.heap.objs.size + 1) its) ds) false its its).toArray
      have rv' := each_vals he
      have hl' : (((vs.zip ds).mergeSort (PySem.W.dataLe false Prod.snd)).map (·.1)).length ≤ sizeLine := by
        rw [List.length_map, List.length_mergeSort, List.length_zip, hlen, Nat.min_self, ← szE]; exact z1
      refine ⟨.ref _, upd H (s.heap.objs.size + 1) (.lst (((vs.zip ds).mergeSort (PySem.W.dataLe false Prod.snd)).map (·.1))), I.laid (t' := s.toks) (fun _ _ => sortedAll_old) (Nat.le_succ _) ⟨hl', _, ep, rv', he'⟩, rfl, q _ _ (I.hok.fresh (Nat.le_succ _)) fun R' hp => ?_⟩
      rw [← sortD_snd hlen]
      refine paired_of fun b hb => ?_
      have hm := (List.mergeSort_perm _ _).mem_iff.mp hb
      exact paired_mem hp b hm
  rcases hs with hs | hs
  · obtain ⟨its, rv, hl, _⟩ := I.list hs
    exact main its rv (.inl hl.isList)
  · obtain ⟨its, rv, hl, _⟩ := I.tuple hs
    exact main its rv (.inr hl)
end
end Dw

namespace Dw
open PySem L2
theorem SqL.lenLe {X : Cx} {pins : List (Addr × Obj)} {σ : L2.St} {H : Hp} {s : Shared} {a : Addr} {xs : List V} (I : Inv X pins σ H s) (h : SqL X.K H a xs) : xs.length ≤ sizeLine := by
  obtain ⟨_, _, _, h⟩ := I.list h
  exact h
section
variable {X : Cx} {K : PySem.W.Frag} {cl xc : Nat → Addr} {E : XK}
theorem atI_rp {W : Wd} {xs : List V} {ds : List D} (h : RpA K W xs ds) {i : Int} {d : D} (e : L2.atI ds i = some d) : ∃ v, L2.atI xs i = some v ∧ Rp K W v d := by
  unfold L2.atI at e ⊢
  rw [h.len]
  cases hj : ixN ds.length i with
  | none => rw [hj] at e; cases e
  | some j =>
    rw [hj] at e
    obtain ⟨v, h1, h2⟩ := h.get (i := j) (by simpa using e)
    exact ⟨v, by simpa using h1, h2⟩
theorem ok_ix : Ok2 K cl xc E ixV (rIx K) := by
  intro W x y vx vy Q w rx ry h
  have gen : ∀ (a : Addr) (xs : List V) (ds : List D), vx = .ref a → (SqL K W.H a xs ∨ SqT K W.H a xs) → RpA K W xs ds → Post K cl xc E W ((asI y >>= fun i => match L2.atI ds i with
      | some v => (pure (.d v) : M Vl)
      | none => M.no) W.st) (QE K Q) → rIx K vx vy W.H Q := fun a xs ds e hs hr h => by
    obtain ⟨i, rfl, rfl, h2⟩ := Post.asI ry h
    cases hd : L2.atI ds i with
    | none => rw [hd] at h2; exact h2.elim
    | some d =>
      rw [hd] at h2
      obtain ⟨v, g1, g2⟩ := atI_rp hr hd
      rcases hs with hs | hs
      · exact .inl ⟨a, xs, i, v, e, rfl, hs, g1, Post.val w h2 g2⟩
      · exact .inr (.inl ⟨a, xs, i, v, e, rfl, hs, g1, Post.val w h2 g2⟩)
  cases x with
  | o j =>
    obtain ⟨a, rfl, hm⟩ := rx
    obtain ⟨ob, a', h1, h2, h3, h4⟩ := Post.getO w h
    rw [hm] at h2; cases h2
    cases ob with
    | lst ds =>
      obtain ⟨xs, g1, g2⟩ := h3
      exact gen _ xs ds rfl (.inl (.inl (.inl g1))) g2 h4
    | scr ds =>
      obtain ⟨xs, g1, g2⟩ := h3
      exact gen _ xs ds rfl (.inl g1.sq) g2 h4
    | _ => exact h4.elim
  | d x =>
    cases x with
    | str z =>
      cases rx
      obtain ⟨i, rfl, rfl, h2⟩ := Post.asI ry h
      obtain ⟨hz, h3⟩ := Post.okB h2
      cases hd : L2.atI z.cps.toList i with
      | none => rw [hd] at h3; exact h3.elim
      | some c =>
        rw [hd] at h3
        exact .inr (.inr ⟨z, i, c, rfl, rfl, by rw [← szE]; exact of_decide_eq_true hz, hd, Post.val w h3 (.str _)⟩)
    | _ =>
      obtain ⟨a, xs, ds, e, hs, hr, h⟩ := Post.sItems w rx h
      exact gen a xs ds e hs hr h
/-! ### slices -/
def rSl (K : PySem.W.Frag) : V → Option Int → Option Int → Hp → VK → Prop := fun x lo hi H Q => rSlS x lo hi H Q ∨ rSlA K x lo hi H Q ∨ rSlL K x lo hi H Q
theorem sl_any : SlR X (rSl X.K) := sl_str.or (sl_tupA.or sl_list)
theorem cutD_len {α : Type} (xs : List α) (lo hi : Option Int) (h : HT.sIx xs.length 0 lo = 0 ∧ HT.sIx xs.length xs.length hi = xs.length) : cutD xs lo hi = xs := by
  unfold cutD
  rw [h.1, h.2]
  simp
theorem RpA.cut {W : Wd} {xs : List V} {ds : List D} (h : RpA K W xs ds) (lo hi : Option Int) : RpA K W (cutV xs lo hi) (cutD ds lo hi) := by
  unfold cutV cutD
  rw [h.len]
  exact (h.drop _).take _
theorem ok_sl {W : Wd} {x : Vl} {vx : V} {lo hi : Option Int} {Q : VK} (w : Wf K cl W) (rx : RpV K W vx x) (h : Post K cl xc E W (slV x lo hi W.st) (QE K Q)) : rSl K vx lo hi W.H Q := by
  have gen : Post K cl xc E W ((lItems x >>= fun xs => (pure (liV (cutD xs lo hi)) : M Vl)) W.st) (QE K Q) → rSl K vx lo hi W.H Q := fun h => by
    obtain ⟨a, xs, ds, rfl, ha, ra, h, _⟩ := Post.lItems w rx h
    exact .inr (.inr ⟨a, xs, rfl, .inl (.inl ha), fun p hp => Post.newLst w h (ra.cut lo hi) hp⟩)
  cases x with
  | o i => exact gen h
  | d x =>
    cases x with
    | str z =>
      cases rx
      obtain ⟨hz, h⟩ := Post.okP h
      refine .inl ⟨z, rfl, by rw [← szE]; exact of_decide_eq_true hz, ?_⟩
      have e : cutS z lo hi = ⟨(cutD z.cps.toList lo hi).toArray⟩ := by
        unfold cutS cutD
        rfl
      rw [e]
      exact Post.val w h (.str _)
    | tuple ds =>
      cases rx with
      | tup h1 h2 =>
        refine .inr (.inl ⟨_, _, rfl, h1.sq, fun e => ?_, fun _ p hp => Post.newTup w h (h2.cut lo hi) hp⟩)
        rw [h2.len] at e
        have h3 : Post K cl xc E W ((Pure.pure (tuV (cutD ds lo hi)) : M Vl) W.st) (QE K Q) := h
        rw [show cutD ds lo hi = ds from cutD_len ds lo hi e] at h3
        exact Post.val w h3 (.tup h1 h2)
    | _ => exact gen h
/-! ### built-ins -/
def OkA (K : PySem.W.Frag) (cl xc : Nat → Addr) (E : XK) (f : List Vl → M Vl) (r : List V → Hp → VK → Prop) : Prop :=
  ∀ (W : Wd) (xs : List Vl) (vs : List V) (Q : VK), Wf K cl W → RpVs K W vs xs → Post K cl xc E W (f xs W.st) (QE K Q) → r vs W.H Q
/-- one argument -/
theorem one_of {W : Wd} {vs : List V} {x : Vl} (h : RpVs K W vs [x]) : ∃ v, vs = [v] ∧ RpV K W v x := by
  cases h with
  | cons r t => cases t; exact ⟨_, rfl, r⟩
theorem two_of {W : Wd} {vs : List V} {x y : Vl} (h : RpVs K W vs [x, y]) : ∃ v u, vs = [v, u] ∧ RpV K W v x ∧ RpV K W u y := by
  cases h with
  | cons r t =>
    cases t with
    | cons r2 t => cases t; exact ⟨_, _, rfl, r, r2⟩
def BiR (K : PySem.W.Frag) (b : Bi) : List V → Hp → VK → Prop := match b with
  | .len => fun xs H Q => ∃ x n, xs = [x] ∧ LenV K x H n ∧ Q (.int n) H
  | .all => rAll K
  | .any => rAny K
  | .tuple => fun xs H Q => ∃ p ys, xs = [.ref p] ∧ ((SqL K H p ys ∧ ∀ l, H l = none → Q (.ref l) (upd H l (.tup ys))) ∨ (SqT K H p ys ∧ Q (.ref p) H))
  | .list => fun xs H Q => ∃ p ys, xs = [.ref p] ∧ (SqL K H p ys ∨ SqT K H p ys) ∧ ∀ l, H l = none → Q (.ref l) (upd H l (.lst ys))
  | .int => fun xs H Q => ((∃ i, xs = [.int i] ∧ Q (.int i) H) ∨ ∃ k, xs = [.bl k] ∧ Q (.int (if k then 1 else 0)) H) ∨ ∃ a n, xs = [.str a] ∧ PySem.intText? a = some n ∧ a.length ≤ 640 ∧ Q (.int n) H
  | .str => fun xs H Q => (∃ i, xs = [.int i] ∧ i.natAbs.log2 < 1920 ∧ Q (.str (toString i)) H) ∨ ∃ a, xs = [.str a] ∧ Q (.str a) H
  | .min => fun xs H Q => (∃ i j, xs = [.int i, .int j] ∧ Q (.int (if j < i then j else i)) H) ∨ rMin K xs H Q
  | .max => fun xs H Q => (∃ i j, xs = [.int i, .int j] ∧ Q (.int (if j > i then j else i)) H) ∨ rMax K xs H Q
  | .sum => rSum K
  | .sorted => rSortedD K
  | _ => fun _ _ _ => False
def BiV (b : Bi) : Value := match b with
  | .len => .builtin "len" | .all => .builtin "all" | .any => .builtin "any" | .tuple => .type "tuple" | .list => .type "list" | .int => .type "int" | .str => .type "str"
  | .min => .builtin "min" | .max => .builtin "max" | .sum => .builtin "sum" | .sorted => .builtin "sorted" | .repr => .builtin "repr" | _ => .none
def BiN (b : Bi) : Str := match b with
  | .len => "len" | .all => "all" | .any => "any" | .tuple => "tuple" | .list => "list" | .int => "int" | .str => "str"
  | .min => "min" | .max => "max" | .sum => "sum" | .sorted => "sorted" | .repr => "repr" | _ => ""
theorem callFalse {f : Value} : CallR X f (fun _ _ _ => False) := fun _ _ _ _ _ _ _ _ _ h => h.elim
theorem bi_call (hc : X.calm = true) (hu : X.A.units + 66 < cLine) (b : Bi) : CallR X (BiV b) (BiR X.K b) := by
  cases b with
  | len => exact call_len
  | all => exact cr_all hc
  | any => exact cr_any hc
  | tuple => exact call_tuple_of
  | list => exact call_list_of
  | int => exact call_int1.or call_int_str
  | str => exact call_str_int.or SkE.call_str_str
  | min => exact (call_min2 hc).or (cr_min hc)
  | max => exact (call_max2 hc).or (cr_max hc)
  | sum => exact cr_sum hc
  | sorted => exact cr_sortedD hu
  | _ => exact callFalse
theorem boolsM_ok {α : Type} {W : Wd} {xs : List V} : ∀ {ds : List D} {vs : List V} {f : List Bool → M α} {q : α → Wd → Prop}, RpA K W vs ds → Post K cl xc E W ((boolsM ds >>= f) W.st) q → ∃ bs : List Bool, vs = bs.map V.bl ∧ Post K cl xc E W (f bs W.st) q
  | [], _, f, q, r, h => by cases r; exact ⟨[], rfl, h⟩
  | d :: ds, _, f, q, r, h => by
    cases r with
    | cons r1 t =>
      cases d with
      | bool b =>
        cases r1
        unfold boolsM at h
        rw [M.bind_assoc] at h
        obtain ⟨bs, e, h⟩ := boolsM_ok (xs := xs) t h
        exact ⟨b :: bs, by rw [e]; rfl, h⟩
      | _ => exact h.elim
theorem intsM_ok {α : Type} {W : Wd} : ∀ {ds : List D} {vs : List V} {f : List Int → M α} {q : α → Wd → Prop}, RpA K W vs ds → Post K cl xc E W ((intsM ds >>= f) W.st) q → ∃ ns : List Int, vs = ns.map V.int ∧ Post K cl xc E W (f ns W.st) q
  | [], _, f, q, r, h => by cases r; exact ⟨[], rfl, h⟩
  | d :: ds, _, f, q, r, h => by
    cases r with
    | cons r1 r2 =>
      cases d with
      | int i =>
        cases r1
        unfold intsM at h
        rw [M.bind_assoc] at h
        obtain ⟨ns, rfl, h⟩ := intsM_ok r2 h
        exact ⟨i :: ns, rfl, h⟩
      | _ => exact h.elim
theorem minI_spec : ∀ (r : List Int) (x : Int), minI x r ∈ x :: r ∧ ∀ y ∈ x :: r, minI x r ≤ y
  | [], x => by simp [minI]
  | z :: r, x => by
    obtain ⟨h1, h2⟩ := minI_spec r (if z < x then z else x)
    unfold minI
    by_cases c : z < x
    · rw [if_pos c] at h1 h2 ⊢
      refine ⟨List.mem_cons_of_mem _ h1, fun y hy => ?_⟩
      rcases List.mem_cons.mp hy with e | e
      · have := h2 z List.mem_cons_self
        omega
      · exact h2 y e
    · rw [if_neg c] at h1 h2 ⊢
      refine ⟨?_, fun y hy => ?_⟩
      · rcases List.mem_cons.mp h1 with e | e
        · rw [e]; exact List.mem_cons_self
        · exact List.mem_cons_of_mem _ (List.mem_cons_of_mem _ e)
      · rcases List.mem_cons.mp hy with e | e
        · rw [e]; exact h2 x List.mem_cons_self
        · rcases List.mem_cons.mp e with e | e
          · have := h2 x List.mem_cons_self
            omega
          · exact h2 y (List.mem_cons_of_mem _ e)
theorem maxI_spec : ∀ (r : List Int) (x : Int), maxI x r ∈ x :: r ∧ ∀ y ∈ x :: r, y ≤ maxI x r
  | [], x => by simp [maxI]
  | z :: r, x => by
    obtain ⟨h1, h2⟩ := maxI_spec r (if x < z then z else x)
    unfold maxI
    by_cases c : x < z
    · rw [if_pos c] at h1 h2 ⊢
      refine ⟨List.mem_cons_of_mem _ h1, fun y hy => ?_⟩
      rcases List.mem_cons.mp hy with e | e
      · have := h2 z List.mem_cons_self
        omega
      · exact h2 y e
    · rw [if_neg c] at h1 h2 ⊢
      refine ⟨?_, fun y hy => ?_⟩
      · rcases List.mem_cons.mp h1 with e | e
        · rw [e]; exact List.mem_cons_self
        · exact List.mem_cons_of_mem _ (List.mem_cons_of_mem _ e)
      · rcases List.mem_cons.mp hy with e | e
        · rw [e]; exact h2 x List.mem_cons_self
        · rcases List.mem_cons.mp e with e | e
          · have := h2 x List.mem_cons_self
            omega
          · exact h2 y (List.mem_cons_of_mem _ e)
theorem rpa_paired {W : Wd} : ∀ {ds : List D} {vs : List V}, RpA K W vs ds → Paired (Rp K W) vs ds
  | [], _, h => by cases h; exact .nil
  | d :: ds, _, h => by
    cases h with
    | cons r t => exact .cons r (rpa_paired t)
theorem paired_rpa {W : Wd} : ∀ {ds : List D} {vs : List V}, Paired (Rp K W) vs ds → RpA K W vs ds
  | [], _, h => by cases h; exact .nil
  | d :: ds, _, h => by
    cases h with
    | cons r t => exact .cons r (paired_rpa t)
theorem bi_ok (b : Bi) : OkA K cl xc E (bi b) (BiR K b) := by
  intro W xs vs Q w rs h
  cases b with
  | len =>
    match xs, rs, h with
    | [x], rs, h =>
      obtain ⟨v, rfl, r⟩ := one_of rs
      have gen : Post K cl xc E W ((sItems x >>= fun xs => (pure (Dw.inV xs.length) : M Vl)) W.st) (QE K Q) → BiR K .len [v] W.H Q := fun h => by
        obtain ⟨a, xs, ds, rfl, hs, hr, h⟩ := Post.sItems w r h
        refine ⟨.ref a, xs.length, rfl, ?_, ?_⟩
        · rcases hs with hs | hs
          · exact .inl ⟨xs, hs, rfl⟩
          · exact .inr ⟨xs, hs, rfl⟩
        · rw [hr.len]
          exact Post.val w h (.int _)
      cases x with
      | o i => exact gen h
      | d x =>
        cases x with
        | str z =>
          cases r
          obtain ⟨hz, h⟩ := Post.okP h
          exact ⟨.str z, z.length, rfl, ⟨by rw [← szE]; exact of_decide_eq_true hz, rfl⟩, Post.val w h (.int _)⟩
        | _ => exact gen h
    | [], _, h => exact h.elim
    | _ :: _ :: _, _, h => exact h.elim
  | all =>
    match xs, rs, h with
    | [x], rs, h =>
      obtain ⟨v, rfl, r⟩ := one_of rs
      obtain ⟨a, xs, ds, rfl, ha, ra, h, _⟩ := Post.lItems w r h
      obtain ⟨bs, rfl, h⟩ := boolsM_ok (xs := xs) ra h
      exact ⟨a, bs, rfl, .inl (.inl ha), Post.val w h (.bl _)⟩
    | [], _, h => exact h.elim
    | _ :: _ :: _, _, h => exact h.elim
  | any =>
    match xs, rs, h with
    | [x], rs, h =>
      obtain ⟨v, rfl, r⟩ := one_of rs
      obtain ⟨a, xs, ds, rfl, ha, ra, h, _⟩ := Post.lItems w r h
      obtain ⟨bs, rfl, h⟩ := boolsM_ok (xs := xs) ra h
      exact ⟨a, bs, rfl, .inl (.inl ha), Post.val w h (.bl _)⟩
    | [], _, h => exact h.elim
    | _ :: _ :: _, _, h => exact h.elim
  | tuple =>
    match xs, rs, h with
    | [x], rs, h =>
      obtain ⟨v, rfl, r⟩ := one_of rs
      have h : Post K cl xc E W ((sItems x >>= fun xs => (pure (tuV xs) : M Vl)) W.st) (QE K Q) := h
      cases x with
      | o i =>
        obtain ⟨a, rfl, hm⟩ := r
        unfold Dw.sItems at h
        rw [M.bind_assoc] at h
        obtain ⟨ob, a', h1, h2, h3, h4⟩ := Post.getO w h
        rw [hm] at h2; cases h2
        cases ob with
        | lst ds =>
          obtain ⟨xs, g1, g2⟩ := h3
          exact ⟨_, xs, rfl, .inl ⟨.inl (.inl g1), fun p hp => Post.newTup w h4 g2 hp⟩⟩
        | scr ds =>
          obtain ⟨xs, g1, g2⟩ := h3
          exact ⟨_, xs, rfl, .inl ⟨g1.sq, fun p hp => Post.newTup w h4 g2 hp⟩⟩
        | _ => exact h4.elim
      | d x =>
        cases x with
        | list ds =>
          cases r with
          | lst h1 h2 => exact ⟨_, _, rfl, .inl ⟨h1.sq, fun p hp => Post.newTup w h h2 hp⟩⟩
        | tuple ds =>
          cases r with
          | tup h1 h2 => exact ⟨_, _, rfl, .inr ⟨h1.sq, Post.val w h (.tup h1 h2)⟩⟩
        | _ => exact h.elim
    | [], _, h => exact h.elim
    | _ :: _ :: _, _, h => exact h.elim
  | list =>
    match xs, rs, h with
    | [x], rs, h =>
      obtain ⟨v, rfl, r⟩ := one_of rs
      have h : Post K cl xc E W ((sItems x >>= fun xs => (pure (liV xs) : M Vl)) W.st) (QE K Q) := h
      obtain ⟨a, xs, ds, rfl, hs, hr, h⟩ := Post.sItems w r h
      exact ⟨a, xs, rfl, hs, fun p hp => Post.newLst w h hr hp⟩
    | [], _, h => exact h.elim
    | _ :: _ :: _, _, h => exact h.elim
  | int =>
    match xs, rs, h with
    | [x], rs, h =>
      obtain ⟨v, rfl, r⟩ := one_of rs
      cases x with
      | o i => exact h.elim
      | d x =>
        cases x with
        | bool b => cases r; exact .inl (.inr ⟨b, rfl, Post.val w h (.int _)⟩)
        | int i => cases r; exact .inl (.inl ⟨i, rfl, Post.val w h (.int _)⟩)
        | str z =>
          cases r
          have h : Post K cl xc E W ((match PySem.intText? z with
            | some n => okS (decide (z.length ≤ 640)) (Dw.inV n)
            | none => M.no : M Vl) W.st) (QE K Q) := h
          cases e : PySem.intText? z with
          | none => rw [e] at h; exact h.elim
          | some n =>
            rw [e] at h
            obtain ⟨hz, h⟩ := Post.okP h
            exact .inr ⟨z, n, rfl, e, of_decide_eq_true hz, Post.val w h (.int _)⟩
        | _ => exact h.elim
    | [], _, h => exact h.elim
    | _ :: _ :: _, _, h => exact h.elim
  | str =>
    match xs, rs, h with
    | [x], rs, h =>
      obtain ⟨v, rfl, r⟩ := one_of rs
      cases x with
      | o i => exact h.elim
      | d x =>
        cases x with
        | int i =>
          cases r
          obtain ⟨hz, h⟩ := Post.okP h
          exact .inl ⟨i, rfl, of_decide_eq_true hz, Post.val w h (.str _)⟩
        | str z => cases r; exact .inr ⟨z, rfl, Post.val w h (.str _)⟩
        | _ => exact h.elim
    | [], _, h => exact h.elim
    | _ :: _ :: _, _, h => exact h.elim
  | min =>
    match xs, rs, h with
    | [x, y], rs, h =>
      obtain ⟨v, u, rfl, r1, r2⟩ := two_of rs
      cases x with
      | o i => exact h.elim
      | d x =>
        cases y with
        | o i => cases x <;> exact h.elim
        | d y =>
          cases x with
          | int i =>
            cases y with
            | int j => cases r1; cases r2; exact .inl ⟨i, j, rfl, Post.val w h (.int _)⟩
            | _ => exact h.elim
          | _ => cases y <;> exact h.elim
    | [], _, h => exact h.elim
    | [x], rs, h =>
      obtain ⟨v, rfl, r⟩ := one_of rs
      obtain ⟨a, xs, ds, rfl, ha, ra, h, _⟩ := Post.lItems w r h
      obtain ⟨ns, rfl, h⟩ := intsM_ok ra h
      cases ns with
      | nil => exact h.elim
      | cons n ns =>
        refine .inr ⟨a, n :: ns, rfl, .inl (.inl ha), Nat.succ_pos _, fun m hm hy => ?_⟩
        obtain ⟨h1, h2⟩ := minI_spec ns n
        have e : m = minI n ns := Int.le_antisymm (hy _ h1) (h2 m hm)
        rw [e]
        exact Post.val w h (.int _)
    | _ :: _ :: _ :: _, _, h => exact h.elim
  | max =>
    match xs, rs, h with
    | [x, y], rs, h =>
      obtain ⟨v, u, rfl, r1, r2⟩ := two_of rs
      cases x with
      | o i => exact h.elim
      | d x =>
        cases y with
        | o i => cases x <;> exact h.elim
        | d y =>
          cases x with
          | int i =>
            cases y with
            | int j => cases r1; cases r2; exact .inl ⟨i, j, rfl, Post.val w h (.int _)⟩
            | _ => exact h.elim
          | _ => cases y <;> exact h.elim
    | [], _, h => exact h.elim
    | [x], rs, h =>
      obtain ⟨v, rfl, r⟩ := one_of rs
      obtain ⟨a, xs, ds, rfl, ha, ra, h, _⟩ := Post.lItems w r h
      obtain ⟨ns, rfl, h⟩ := intsM_ok ra h
      cases ns with
      | nil => exact h.elim
      | cons n ns =>
        refine .inr ⟨a, n :: ns, rfl, .inl (.inl ha), Nat.succ_pos _, fun m hm hy => ?_⟩
        obtain ⟨h1, h2⟩ := maxI_spec ns n
        have e : m = maxI n ns := Int.le_antisymm (h2 m hm) (hy _ h1)
        rw [e]
        exact Post.val w h (.int _)
    | _ :: _ :: _ :: _, _, h => exact h.elim
  | sum =>
    match xs, rs, h with
    | [x], rs, h =>
      obtain ⟨v, rfl, r⟩ := one_of rs
      obtain ⟨a, xs, ds, rfl, ha, ra, h, _⟩ := Post.lItems w r h
      obtain ⟨ns, rfl, h⟩ := intsM_ok ra h
      exact ⟨a, ns, rfl, .inl (.inl ha), Post.val w h (.int _)⟩
    | [], _, h => exact h.elim
    | _ :: _ :: _, _, h => exact h.elim
  | sorted =>
    match xs, rs, h with
    | [x], rs, h =>
      obtain ⟨v, rfl, r⟩ := one_of rs
      obtain ⟨a, xs, ds, rfl, hs, hr, h⟩ := Post.sItems w r h
      obtain ⟨ho, h⟩ := Post.okP h
      refine ⟨a, xs, ds, rfl, hs, RpA.dp ds xs hr, ho, fun p vs' hp hR => Post.newLst w h (paired_rpa (hR _ (rpa_paired hr))) hp⟩
    | [], _, h => exact h.elim
    | _ :: _ :: _, _, h => exact h.elim
  | sortedSet => exact h.elim
  | lenSet => exact h.elim
  | repr => exact h.elim
end
end Dw

namespace Dw
open PySem L2

/-! ### the tables of a text -/
/-- a def of the text: its number, its name, its parameters, the class whose method it is -/
structure FI where
  f : Nat
  nm : Str
  ps : List Str
  c : Option Nat := none
/-- a class: its number, its name, its __init__'s number, its attributes -/
structure CI where
  c : Nat
  nm : Str
  ini : Nat
  flds : List Str
structure Tx where
  fns : Nat → Option Fn
  inf : List FI
  cls : List CI := []
  con : List (Str × D)
  blt : List Str
  exc : List (Nat × Str) := []
mutual
def beqD : D → D → Bool
  | .none, .none => true
  | .bool a, .bool b => a == b
  | .int a, .int b => a == b
  | .str a, .str b => a == b
  | .tuple xs, .tuple ys => beqDs xs ys
  | .list xs, .list ys => beqDs xs ys
  | _, _ => false
def beqDs : List D → List D → Bool
  | [], [] => true
  | x :: xs, y :: ys => beqD x y && beqDs xs ys
  | _, _ => false
end
mutual
theorem beqD_eq : ∀ (x y : D), beqD x y = true → x = y
  | .none, y, h => by cases y <;> simp_all [beqD]
  | .bool a, y, h => by cases y <;> simp_all [beqD]
  | .int a, y, h => by cases y <;> simp_all [beqD]
  | .str a, y, h => by cases y <;> simp_all [beqD]
  | .tuple xs, y, h => by
    cases y with
    | tuple ys => rw [beqDs_eq xs ys (by simpa [beqD] using h)]
    | _ => simp [beqD] at h
  | .list xs, y, h => by
    cases y with
    | list ys => rw [beqDs_eq xs ys (by simpa [beqD] using h)]
    | _ => simp [beqD] at h
  | .dict _, y, h => by cases y <;> simp [beqD] at h
theorem beqDs_eq : ∀ (xs ys : List D), beqDs xs ys = true → xs = ys
  | [], ys, h => by cases ys <;> simp_all [beqDs]
  | x :: xs, ys, h => by
    cases ys with
    | nil => simp [beqDs] at h
    | cons y ys =>
      simp only [beqDs, Bool.and_eq_true] at h
      rw [beqD_eq x y h.1, beqDs_eq xs ys h.2]
end
/-! ### names -/
def okNm (x : Str) : Bool := !(x == ("__debug__" : Str)) && !(x == ("__classdict__" : Str)) && !(x == ("__name__" : Str))
def visB (sc : Scope) (x : Str) : Bool := match sc.names.lookup x with
  | some .local => true | some .cell => true | some .free => true | _ => false
def locB (sc : Scope) (x : Str) : Bool := match sc.names.lookup x with
  | some .local => true | some .cell => true | _ => false
def gloB (sc : Scope) (x : Str) : Bool := match sc.names.lookup x with
  | some .globalImplicit => true | _ => false
/-- an expression that the little syntax may stand for -/
def plainX : Expr → Bool
  | .Starred .. => false | .Set .. => false | .Slice .. => false | .IfExp .. => false | _ => true
def recvX : Expr → Bool
  | .Call (.Name _ _) [] [] _ => false | _ => true
def notComp : Expr → Bool
  | .ListComp .. => false | .SetComp .. => false | .DictComp .. => false | _ => true
section
variable (T : Tx) (N : List Str)
def chkTg (sc : Scope) : Tg → Expr → Bool
  | .nm i, .Name x _ => N[i]? == some x && locB sc x
  | .tp ts, .Tuple es _ _ => chkTgs sc ts es
  | _, _ => false
where chkTgs (sc : Scope) : Tgs → List Expr → Bool
  | .nil, [] => true
  | .cons t r, e :: es => chkTg sc t e && chkTgs sc r es
  | _, _ => false
end

mutual
def tgIn (own : List Nat) : Tg → Bool
  | .nm i => own.contains i
  | .tp ts => tgsIn own ts
def tgsIn (own : List Nat) : Tgs → Bool
  | .nil => true
  | .cons t r => tgIn own t && tgsIn own r
end
section
variable (T : Tx) (N : List Str)
def ownOf (own : List Nat) : List (Str × Nat) := own.filterMap fun i => N[i]?.map fun x => (x, i)
def tyNames : List Str := ["int", "bool", "str", "tuple", "list"]
def biKnown : Bi → Bool
  | .len => true | .all => true | .any => true | .tuple => true | .list => true | .int => true | .str => true | .min => true | .max => true | .sum => true | .sorted => true | _ => false
def mtKnown : Mt → Bool
  | .append => true | .extend => true | .pop => true | .index => true | _ => false
def MtN : Mt → Str
  | .append => "append" | .extend => "extend" | .pop => "pop" | .index => "index" | .remove => "remove" | .count => "count" | .join => "join" | .split => "split" | .upper => "upper" | .get => "get"
def loC : Option Int → Option Expr → Bool
  | none, none => true
  | some i, some (.Constant (.int j) _ _) => i == j
  | _, _ => false
def stC (st : Int) : Expr → Bool
  | .Constant (.int j) _ _ => st == j
  | .UnaryOp .USub (.Constant (.int j) _ _) _ => st == -j
  | _ => false
/-- attributes of a name's instance, as targets -/
def fldC (x : Str) : List Str → List Expr → Bool
  | [], [] => true
  | f :: fs, .Attribute (.Name y _) g _ :: es => x == y && f == g && fldC x fs es
  | _, _ => false
mutual
def chkE (sc : Scope) : E → Expr → Bool
  | .non, x => match x with | .Constant .none _ _ => true | _ => false
  | .bl b, x => match x with | .Constant (.bool c) _ _ => b == c | _ => false
  | .int i, x => match x with | .Constant (.int j) _ _ => i == j | _ => false
  | .str z, x => match x with | .Constant (.str y) _ _ => z == y | _ => false
  | .var i, x => match x with | .Name x _ => N[i]? == some x && visB sc x && okNm x | _ => false
  | .glb z d, x => match x with | .Name y _ => z == y && gloB sc y && okNm y && (T.con.any fun p => p.1 == y && beqD p.2 d) | _ => false
  | .bin op a b, x => match x with | .BinOp x o y _ => op == o && chkE sc a x && chkE sc b y | _ => false
  | .cmp op a b, x => match x with | .Compare x [o] [y] _ => op == o && chkE sc a x && chkE sc b y | _ => false
  | .chain o1 o2 a b c, x => match x with | .Compare x [p1, p2] [y, z] _ => o1 == p1 && o2 == p2 && chkE sc a x && chkE sc b y && chkE sc c z | _ => false
  | .andE as, x => match x with | .BoolOp .And es _ => chkEs sc as es | _ => false
  | .orE as, x => match x with | .BoolOp .Or es _ => chkEs sc as es | _ => false
  | .notE a, x => match x with | .UnaryOp .Not x _ => chkE sc a x | _ => false
  | .neg a, x => match x with | .UnaryOp .USub x _ => chkE sc a x | _ => false
  | .call _ f as, x => match x with | .Call (.Name x _) (e :: es) [] _ => (T.inf.any fun I => I.f == f && I.nm == x && I.c == none) && gloB sc x && okNm x && chkEs sc as (e :: es) | _ => false
  | .meth c m f o as, x => match x with | .Call (.Attribute v n ap) es [] p => n == m && (T.inf.any fun I => I.f == f && I.nm == m && I.c == some c) && (T.cls.any fun I => I.c == c) && chkE sc o v && recvX v && ap.endLine == p.line && decide (es.length < 30) && chkEs sc as es | _ => false
  | .make c f as, x => match x with | .Call (.Name x _) (e :: es) [] _ => (T.cls.any fun I => I.c == c && I.nm == x && I.ini == f) && gloB sc x && okNm x && chkEs sc as (e :: es) | _ => false
  | .bi b as, x => match x with | .Call (.Name x _) (e :: es) [] _ => x == BiN b && biKnown b && T.blt.contains x && gloB sc x && okNm x && chkEs sc as (e :: es) | _ => false
  | .isi a ty, x => match x with | .Call (.Name x _) [e, .Name t _] [] _ => x == ("isinstance" : Str) && t == ty && tyNames.contains ty && T.blt.contains x && T.blt.contains t && gloB sc x && gloB sc t && okNm t && chkE sc a e | _ => false
  | .mt m o as, x => match x with | .Call (.Attribute v n ap) es [] p => n == MtN m && mtKnown m && chkE sc o v && recvX v && ap.endLine == p.line && decide (es.length < 30) && chkEs sc as es | _ => false
  | .tup as, x => match x with | .Tuple es _ _ => chkEs sc as es | _ => false
  | .lst _ as, x => match x with | .List es _ => chkEs sc as es | _ => false
  | .ix a i, x => match x with | .Subscript x y _ => chkE sc a x && chkE sc i y | _ => false
  | .sl a lo hi, x => match x with | .Subscript x (.Slice l h none _) _ => chkE sc a x && chkEo sc lo l && chkEo sc hi h | _ => false
  | .addM a b, x => match x with | .BinOp x .Add y _ => chkE sc a x && chkE sc b y | _ => false
  | .stp a lo st, x => match x with | .Subscript x (.Slice l none (some z) _) _ => loC lo l && stC st z && chkE sc a x | _ => false
  | .comp _ elt tg it ifs own, x => match x with
    | .ListComp e [⟨t, i, fs, 0⟩] scope _ => blkC N sc scope (ownOf N own) && decide ((ownOf N own).map (·.2) = own) && chkIt sc it i t && chkTg N (relS scope sc) tg t && chkTg N scope tg t && tgIn own tg && chkIf (relS scope sc) ifs fs && chkE (relS scope sc) elt e
    | _ => false
  | .attr c o f, x => match x with | .Attribute v n _ => n == f && chkE sc o v && recvX v && (T.cls.any fun I => I.c == c && I.flds.contains f) | _ => false
  | .frz a, x => chkE sc a x
def chkEs (sc : Scope) : Es → List Expr → Bool
  | .nil, es => match es with | [] => true | _ => false
  | .cons a r, es => match es with | e :: es => chkE sc a e && chkEs sc r es | _ => false
def chkEo (sc : Scope) : Eo → Option Expr → Bool
  | .no, x => match x with | none => true | _ => false
  | .so a, x => match x with | some e => chkE sc a e | _ => false
def chkIf (sc : Scope) : Eo → List Expr → Bool
  | .no, x => match x with | [] => true | _ => false
  | .so a, x => match x with | [e] => chkE sc a e | _ => false
/-- what is walked (the target beside it) -/
def chkIt (sc : Scope) : It → Expr → Expr → Bool
  | .of a, e, _ => chkE sc a e
  | .range as, e, _ => match e with | .Call (.Name x _) es [] _ => x == ("range" : Str) && T.blt.contains x && gloB sc x && chkEs sc as es && (es.length == 1 || es.length == 2) | _ => false
  | .enum a, e, t => match e, t with | .Call (.Name x _) [e] [] _, .Tuple _ _ _ => x == ("enumerate" : Str) && T.blt.contains x && gloB sc x && chkE sc a e | _, _ => false
  | .zip a b, e, t => match e, t with | .Call (.Name x _) [e, e2] [] _, .Tuple _ _ _ => x == ("zip" : Str) && T.blt.contains x && gloB sc x && chkE sc a e && chkE sc b e2 | _, _ => false
end
/-- a name that is given a comprehension -/
def asgC (sc : Scope) (x : Str) (p : Pos) (e : E) (v : Expr) : Bool := match e with
  | .comp .. => match v with
    | .ListComp _ _ scope pos => (match sc.names.lookup x with | some .local => true | _ => false) && (p.line == pos.line) && !(scope.names.any fun (n, k) => n == x && (k == .local || k == .cell))
    | _ => false
  | _ => false
mutual
def chkS (sc : Scope) : S → Stmt → Bool
  | .set i e, s => match s with
    | .Assign [.Name x px] v _ => N[i]? == some x && locB sc x && chkE T N sc e v && (notComp v || asgC sc x px e v)
    | _ => false
  | .unpk tg e, s => match s with | .Assign [t] v _ => (match t with | .Tuple _ _ _ => true | _ => false) && chkTg N sc tg t && chkE T N sc e v && notComp v && (match v with | .Tuple _ _ _ => false | _ => true) | _ => false
  | .par i j a b, _ => false
  | .setAttr c o f e, s => match s with | .Assign [.Attribute v n _] x _ => n == f && chkE T N sc o v && chkE T N sc e x && notComp x && (T.cls.any fun I => I.c == c && I.flds.contains f) | _ => false
  | .setIx _ _ _, _ => false
  | .unpkAt c i fs e, s => match s with | .Assign [.Tuple es _ _] v _ => (match N[i]? with | some x => fldC x fs es && visB sc x && okNm x | none => false) && chkE T N sc e v && notComp v && (match v with | .Tuple _ _ _ => false | _ => true) && (T.cls.any fun I => I.c == c && fs.all fun f => I.flds.contains f) | _ => false
  | .expr e, s => match s with | .Expr x _ => chkE T N sc e x && notComp x | _ => false
  | .ite c a b, s => match s with | .If x y z _ => chkE T N sc c x && chkB sc a y && chkB sc b z | _ => false
  | .forS tg it b, s => match s with | .For t i y [] _ => chkIt T N sc it i t && chkTg N sc tg t && chkB sc b y | _ => false
  | .whil _ c b, s => match s with | .While x y [] _ => chkE T N sc c x && chkB sc b y | _ => false
  | .ret e, s => match s with | .Return (some x) _ => chkE T N sc e x | _ => false
  | .retN, s => match s with | .Return none _ => true | _ => false
  | .raise c m, s => match s with | .Raise (some (.Call (.Name x _) [.Constant (.str y) _ _] [] _)) none _ => y == m && (T.exc.any fun p => p.1 == c && p.2 == x) && gloB sc x && okNm x | _ => false
  | .cont, s => match s with | .Continue _ => true | _ => false
  | .pass, s => match s with | .Pass _ => true | _ => false
def chkB (sc : Scope) : Ss → List Stmt → Bool
  | .nil, l => match l with | [] => true | _ => false
  | .cons s r, l => match l with | x :: xs => chkS sc s x && chkB sc r xs | _ => false
end
end

/-! ### what holds of the text behind its top, and of a context -/
/-- data of the module's own -/
def KRp (K : PySem.W.Frag) (v : V) (d : D) : Prop := ∀ W, Rp K W v d
/-- a def's promise: it hands back what the evaluator reckons -/
def spF (K : PySem.W.Frag) (cl xc : Nat → Addr) (n : Nat) (φ : List Vl → M Vl) : Sp := fun vs H Q E => ∃ xs W, W.H = H ∧ RpVs K W vs xs ∧ xs.length = n ∧ Wf K cl W ∧ Post K cl xc E W (φ xs W.st) fun z W' => ∀ v, RpV K W' v z → Q v W'.H
def npOf (T : Nat → Option Fn) (f : Nat) : Option Nat := (T f).map (·.np)
structure Fac (T : Tx) (k : Nat) (P : Program) (w : World) (K : PySem.W.Frag) (mg : Str → Option Value) (base : Heap) (cl xc : Nat → Addr) : Prop where
  fn : ∀ I ∈ T.inf, ∃ a fd, FnOk P w K mg base (L2.CX P w) (2 * k) a fd I.ps (spF K cl xc I.ps.length (Phi T.fns k I.f)) ∧ Binds K fd I.ps [] ∧ npOf T.fns I.f = some I.ps.length ∧ (match I.c with
    | none => mg I.nm = some (.ref a) ∧ PySem.W.keepIn K (.ref a) = true
    | some c => Meth K (cl c) I.nm a)
  cls : ∀ I ∈ T.cls, Cls K (cl I.c) ∧ mg I.nm = some (.ref (cl I.c)) ∧ (∀ f ∈ I.flds, NoAttr K (cl I.c) f) ∧ ∃ a fd ps, Mk K (cl I.c) a ∧ Binds K fd ps [] ∧ npOf T.fns I.ini = some ps.length ∧ FnOk P w K mg base (L2.CX P w) (2 * k) a fd ps (spF K cl xc ps.length (Phi T.fns k I.ini))
  con : ∀ p ∈ T.con, ∃ v u, mg p.1 = some u ∧ RelV v u ∧ KRp K v p.2
  blt : ∀ x ∈ T.blt, mg x = none
  exc : ∀ p ∈ T.exc, mg p.2 = some (.ref (xc p.1)) ∧ PySem.W.keepIn K (.ref (xc p.1)) = true ∧ PySem.W.excIn K (xc p.1) [.type "ValueError", .type "Exception", .type "BaseException", .type "object"] "ValueError.__new__" = true ∧
    PySem.W.subIn K (.ref (xc p.1)) (.type "BaseException") = some true ∧ PySem.W.typeIn K (.ref (xc p.1)) = some (.type "type")
structure Cok (k : Nat) (N : List Str) (sc : Scope) (X : Cx) (E : XK) : Prop where
  hN : X.N = N
  nd : N.Nodup
  hsc : X.env.scope = sc
  calm : X.calm = true
  room : Room (2 * k + 1) X.A
  tk : Takes X (fun cls d _ H => E cls d H)
structure Cos (k : Nat) (N : List Str) (sc : Scope) (X : Cx) (E : XK) : Prop extends Cok k N sc X E where
  fn : ∀ x, locB sc x = true → X.fn x = true ∨ sc.names.lookup x = some .local
  po : PassesOwn (model X.prog X.w) X.A X.env X.xe
  kd : X.env.scope.kind = .function
end Dw

namespace Dw
open PySem L2
section
variable {X : Cx}
theorem PE.imp {e : Expr} {t t' : TE} (h : PE X e t) (f : ∀ σ H Q, t' σ H Q → t σ H Q) : PE X e t' := ⟨fun pins s σ H Q I q => h.run pins s σ H Q I (f σ H Q q)⟩
theorem PT.imp {e : Expr} {t t' : TT} (h : PT X e t) (f : ∀ σ H Q, t' σ H Q → t σ H Q) : PT X e t' := ⟨fun pins s σ H Q I q => h.run pins s σ H Q I (f σ H Q q)⟩
theorem PW.imp {e : Expr} {t t' : TT} (h : PW X e t) (f : ∀ σ H Q, t' σ H Q → t σ H Q) : PW X e t' := ⟨fun wh pins s σ H Q I q => h.run wh pins s σ H Q I (f σ H Q q)⟩
theorem PA.imp {es : List Expr} {t t' : TA} (h : PA X es t) (f : ∀ σ H Q, t' σ H Q → t σ H Q) : PA X es t' := ⟨fun pos pins s σ H Q I q => h.run pos pins s σ H Q I (f σ H Q q)⟩
theorem PTs.imp {es : List Expr} {t t' : TT} (h : PTs X es t) (f : ∀ σ H Q, t' σ H Q → t σ H Q) : PTs X es t' := ⟨fun pins s σ H Q I q => h.run pins s σ H Q I (f σ H Q q)⟩
theorem PO.imp {e : Option Expr} {t t' : TO} (h : PO X e t) (f : ∀ σ H Q, t' σ H Q → t σ H Q) : PO X e t' := ⟨fun pins s σ H Q I q => h.run pins s σ H Q I (f σ H Q q)⟩
theorem PS.imp {e : Stmt} {t t' : TS} (h : PS X e t) (f : ∀ D σ H, t' D σ H → t D σ H) : PS X e t' := ⟨fun pins s σ H D I q => h.run pins s σ H D I (f D σ H q)⟩
theorem PSs.imp {e : List Stmt} {t t' : TS} (h : PSs X e t) (f : ∀ D σ H, t' D σ H → t D σ H) : PSs X e t' := ⟨fun pins s σ H D I q => h.run pins s σ H D I (f D σ H q)⟩
theorem PI.imp {tg e : Expr} {t t' : TI} (h : PI X tg e t) (f : ∀ σ H Q, t' σ H Q → t σ H Q) : PI X tg e t' := ⟨fun pins s σ H Q I q => h.run pins s σ H Q I (f σ H Q q)⟩
theorem PG.imp {e : Expr} {t t' : TG} (h : PG X e t) (f : ∀ v σ H Q, t' v σ H Q → t v σ H Q) : PG X e t' := ⟨fun pins s σ H v u Q I r q => h.run pins s σ H v u Q I r (f v σ H Q q)⟩
theorem PGs.imp {e : List Expr} {t t' : TGs} (h : PGs X e t) (f : ∀ v σ H Q, t' v σ H Q → t v σ H Q) : PGs X e t' := ⟨fun pins s σ H v u Q I r q => h.run pins s σ H v u Q I r (f v σ H Q q)⟩
theorem PE.none {e : Expr} : PE X e (fun _ _ _ => False) := ⟨fun _ _ _ _ _ _ h => h.elim⟩
theorem PW.none {e : Expr} : PW X e (fun _ _ _ => False) := ⟨fun _ _ _ _ _ _ _ h => h.elim⟩
theorem PT.none {e : Expr} : PT X e (fun _ _ _ => False) := ⟨fun _ _ _ _ _ _ h => h.elim⟩

/-! ### what the trees' forms give -/
theorem star_plain {e : Expr} {es : List Expr} {env : PySem.Env} (h : plainX e = true) : starEach (e :: es) env = (false, eval e env) :: starEach es env := by
  cases e <;> first | rfl | cases h
theorem star_none {es : List Expr} {pos : Pos} {env : PySem.Env} (h : ∀ e ∈ es, plainX e = true) : (backTo pos (starEach es env)).any (·.1) = false := by
  induction es with
  | nil => rfl
  | cons e es ih =>
    rw [star_plain (h e List.mem_cons_self)]
    show (false || (backTo pos (starEach es env)).any (·.1)) = false
    rw [ih fun x hx => h x (List.mem_cons_of_mem _ hx)]
    rfl
theorem star_all {es : List Expr} {pos : Pos} {env : PySem.Env} (h : ∀ e ∈ es, plainX e = true) : (backTo pos (starEach es env)).all (fun x => !x.1) = true := by
  induction es with
  | nil => rfl
  | cons e es ih =>
    rw [star_plain (h e List.mem_cons_self)]
    show (true && (backTo pos (starEach es env)).all (fun x => !x.1)) = true
    rw [ih fun x hx => h x (List.mem_cons_of_mem _ hx)]
    rfl
theorem noMark {e : Expr} {op : CmpOp} (h : plainX e = true) : behindInMarks op e = false := by
  cases e <;> first | rfl | cases h
theorem plainIx {e : Expr} (h : plainX e = true) : PlainIx e := fun o i => by
  cases e <;> first | rfl | cases h
theorem noFold {e : Expr} {env : PySem.Env} (h : plainX e = true) : ∀ x, foldedSetIterable e env x = pure x := fun x => by
  cases e <;> first | rfl | cases h
theorem recv_base {e : Expr} {f : Str} {env : PySem.Env} (h : recvX e = true) : attributeBase e f env (eval e env) = eval e env := by
  cases e with
  | Call g as ks pos =>
    cases g <;> try rfl
    cases as with
    | nil =>
      cases ks with
      | nil => cases h
      | cons _ _ => rfl
    | cons _ _ => rfl
  | _ => rfl
theorem notComp_sw {v : Expr} {t : Option Expr} {l : Nat} {env : PySem.Env} (h : notComp v = true) : swapsWith v t l env = pure false := by
  cases v <;> first | rfl | cases h
theorem meth_tree {o : Expr} {m : Str} {apos pos : Pos} {es : List Expr} {env : PySem.Env} (h1 : recvX o = true) (h2 : (apos.endLine == pos.line) = true) (h3 : es.length < 30) (h4 : ∀ e ∈ es, plainX e = true) :
    eval (.Call (.Attribute o m apos) es [] pos) env = (do
      let ov ← eval o env
      standAt apos.atName
      let (f, first) ← holding [ov] (getMethod ov m (do return (← importBound o env).getD true))
      callWith pos f first (backTo pos (starEach es env)) (backToKw pos (keywordEach [] env))) := by
  have hf : methodCallForm (es.length + ([] : List Keyword).length) (backTo pos (starEach es env)) (backToKw pos (keywordEach [] env)) = true := by
    unfold methodCallForm
    rw [star_all h4]
    show (true && true && decide (es.length + 0 + 0 < 30)) = true
    simp [h3]
  show (do
    let ov ← attributeBase o m env (eval o env)
    standAt apos.atName
    methodCall o m apos pos env ov (es.length + ([] : List Keyword).length) (backTo pos (starEach es env)) (backToKw pos (keywordEach [] env))) = _
  rw [recv_base h1]
  unfold methodCall
  rw [hf]
  have hp : methodCallPos true o env apos pos = pure pos := by
    unfold methodCallPos
    rw [if_pos (by simp [h2])]
  rw [hp]
  rfl
theorem few_args {es : List Expr} {pos : Pos} {env : PySem.Env} (h3 : es.length < 30) (h4 : ∀ e ∈ es, plainX e = true) : ((backTo pos (starEach es env)).all (fun x => !x.1) && (backToKw pos (keywordEach [] env)).all (fun x => x.1.isSome)
      && decide (es.length + ([] : List Keyword).length + (if ([] : List Keyword).isEmpty then 0 else 1) < 30)) = true := by
  rw [star_all h4]
  show (true && true && decide (es.length + 0 + 0 < 30)) = true
  simp [h3]
end
/-! ### fields by name -/
section
variable {K : PySem.W.Frag} {cl xc : Nat → Addr} {E : XK} {W W' : Wd}
theorem FsR.lookup : ∀ {fs : List (Str × Vl)} {gs : List (Str × V)} (f : Str), FsR K W fs gs → (fs.lookup f = none ∧ gs.lookup f = none) ∨ ∃ x v, fs.lookup f = some x ∧ gs.lookup f = some v ∧ RpV K W v x
  | _, _, f, .nil => .inl ⟨rfl, rfl⟩
  | (g, x) :: fs, (g', v) :: gs, f, .cons ⟨e, r⟩ t => by
    have e : g = g' := e
    subst e
    by_cases h : f = g
    · subst h
      exact .inr ⟨x, v, by simp [List.lookup], by simp [List.lookup], r⟩
    · have hb : (f == g) = false := beq_eq_false_iff_ne.mpr h
      have := FsR.lookup f t
      simpa [List.lookup, hb] using this
theorem FsR.put (f : Str) {x : Vl} {v : V} (r : RpV K W v x) : ∀ {fs : List (Str × Vl)} {gs : List (Str × V)}, FsR K W fs gs → FsR K W (setAt.putF f x fs) (L2.putF f v gs)
  | _, _, .nil => .cons ⟨rfl, r⟩ .nil
  | (g, y) :: fs, (g', u) :: gs, .cons ⟨e, q⟩ t => by
    have e : g = g' := e
    subst e
    unfold setAt.putF L2.putF
    by_cases h : g = f
    · rw [if_pos h, if_pos h]; exact .cons ⟨rfl, r⟩ t
    · rw [if_neg h, if_neg h]; exact .cons ⟨rfl, q⟩ (FsR.put f r t)
theorem FsR.len {fs : List (Str × Vl)} {gs : List (Str × V)} (h : FsR K W fs gs) : fs.length = gs.length := Paired.length h

/-! ### calls -/
/-- the world of a call that sees none of the store -/
def Wd.shut (W : Wd) : Wd := ⟨W.H, fun a => W.F a ∨ Live W a, [], []⟩
theorem shut_live (W : Wd) {H : Hp} {a : Addr} : ¬ Live ⟨H, W.shut.F, [], []⟩ a := by
  rintro ⟨i, o, h, _⟩
  simp at h
theorem shut_out {a : Addr} (h : Out W a) : Out W.shut a := ⟨shut_live W, fun z => z.elim h.2 h.1⟩
mutual
theorem Rp.shut : ∀ (d : D) (v : V), Rp K W v d → Rp K W.shut v d
  | .none, _, h => by cases h; exact .non
  | .bool b, _, h => by cases h; exact .bl b
  | .int i, _, h => by cases h; exact .int i
  | .str x, _, h => by cases h; exact .str x
  | .list ds, _, h => by
    cases h with
    | lst h1 h2 => exact .lst ⟨h1.1, shut_out h1.2⟩ (RpA.shut ds _ h2)
  | .tuple ds, _, h => by
    cases h with
    | tup h1 h2 => exact .tup (h1.imp (fun z => ⟨z.1, shut_out z.2⟩) id) (RpA.shut ds _ h2)
  | .dict _, _, h => by cases h
theorem RpA.shut : ∀ (ds : List D) (vs : List V), RpA K W vs ds → RpA K W.shut vs ds
  | [], _, h => by cases h; exact .nil
  | d :: ds, _, h => by
    cases h with
    | cons h1 h2 => exact .cons (Rp.shut d _ h1) (RpA.shut ds _ h2)
end
theorem Wf.shut (w : Wf K cl W) : Wf K cl W.shut :=
  ⟨rfl, fun _ _ _ _ _ h => by simp [Wd.shut] at h, fun _ _ _ h => by simp [Wd.shut] at h, fun _ _ _ h => by simp [Wd.shut] at h, fun a f => f.elim (w.ft a) w.live⟩
/-- back from it -/
theorem shut_back {H : Hp} {m : List Addr} {st : Sto} (w : Wf K cl W) (e : Ex W.shut ⟨H, W.shut.F, m, st⟩) : Ex W ⟨H, W.F, W.m, W.st⟩ ∧ Wf K cl ⟨H, W.F, W.m, W.st⟩ := by
  have k : ∀ b u, W.H b = some u → H b = some u := fun b u h => (e.keep b u h (shut_live W (H := W.H))).1
  have ex : Ex W ⟨H, W.F, W.m, W.st⟩ := ⟨rfl, List.prefix_refl _, fun b u h l => ⟨k b u h, l⟩⟩
  exact ⟨ex, w.len, w.inj, w.nf, fun i a o h1 h2 => (w.ob i a o h1 h2).mono ex fun u => k a u, fun a f => let ⟨u, h⟩ := w.ft a f; ⟨u, k a u h⟩⟩
theorem open_out {H : Hp} {m : List Addr} {st : Sto} {a : Addr} (h : Out ⟨H, W.shut.F, m, st⟩ a) : Out ⟨H, W.F, W.m, W.st⟩ a := ⟨fun l => h.2 (.inr l), fun f => h.2 (.inl f)⟩
mutual
theorem Rp.opened {H : Hp} {m : List Addr} {st : Sto} : ∀ (d : D) (v : V), Rp K ⟨H, W.shut.F, m, st⟩ v d → Rp K ⟨H, W.F, W.m, W.st⟩ v d
  | .none, _, h => by cases h; exact .non
  | .bool b, _, h => by cases h; exact .bl b
  | .int i, _, h => by cases h; exact .int i
  | .str x, _, h => by cases h; exact .str x
  | .list ds, _, h => by
    cases h with
    | lst h1 h2 => exact .lst ⟨h1.1, open_out h1.2⟩ (RpA.opened ds _ h2)
  | .tuple ds, _, h => by
    cases h with
    | tup h1 h2 => exact .tup (h1.imp (fun z => ⟨z.1, open_out z.2⟩) id) (RpA.opened ds _ h2)
  | .dict _, _, h => by cases h
theorem RpA.opened {H : Hp} {m : List Addr} {st : Sto} : ∀ (ds : List D) (vs : List V), RpA K ⟨H, W.shut.F, m, st⟩ vs ds → RpA K ⟨H, W.F, W.m, W.st⟩ vs ds
  | [], _, h => by cases h; exact .nil
  | d :: ds, _, h => by
    cases h with
    | cons h1 h2 => exact .cons (Rp.opened d _ h1) (RpA.opened ds _ h2)
end
theorem asDs_ok {α : Type} : ∀ {xs : List Vl} {vs : List V} {f : List D → M α} {q : α → Wd → Prop}, RpVs K W vs xs → Post K cl xc E W ((asDs xs >>= f) W.st) q → ∃ ds, xs = ds.map Vl.d ∧ RpA K W vs ds ∧ Post K cl xc E W (f ds W.st) q
  | _, _, f, q, .nil, h => ⟨[], rfl, .nil, h⟩
  | x :: xs, _, f, q, .cons r t, h => by
    unfold asDs at h
    rw [M.bind_assoc] at h
    obtain ⟨y, rfl, hy, h⟩ := Post.asD r h
    rw [M.bind_assoc] at h
    obtain ⟨ds, rfl, hd, h⟩ := asDs_ok t h
    exact ⟨y :: ds, rfl, .cons hy hd, h⟩
theorem RpVs.ofD : ∀ {ds : List D} {vs : List V}, RpA K W vs ds → RpVs K W vs (ds.map Vl.d)
  | [], _, h => by cases h; exact .nil
  | d :: ds, _, h => by
    cases h with
    | cons r t => exact .cons r (RpVs.ofD t)
theorem spF_of {n : Nat} {φ : List Vl → M Vl} {xs : List Vl} {vs : List V} {Q : VK} (w : Wf K cl W) (r : RpVs K W vs xs) (hn : xs.length = n) (h : Post K cl xc E W (φ xs W.st) (QE K Q)) : spF K cl xc n φ vs W.H Q E :=
  ⟨xs, W, rfl, r, hn, w, h⟩
theorem spF_pure {n : Nat} {φ : List Vl → M Vl} {ds : List D} {vs : List V} {Q : VK} (w : Wf K cl W) (r : RpA K W vs ds) (hn : ds.length = n) (h : Post K cl xc E W (pureRun (φ (ds.map .d)) W.st) (QE K Q)) : spF K cl xc n φ vs W.H Q E := by
  refine ⟨ds.map .d, W.shut, rfl, RpVs.ofD (RpA.shut ds vs r), by simp [hn], w.shut, ?_⟩
  unfold pureRun at h
  have e0 : W.shut.st = [] := rfl
  rw [e0]
  cases e : φ (ds.map .d) [] with
  | no => rw [e] at h; exact h
  | ex c st =>
    rw [e] at h
    intro H m d ex wf
    obtain ⟨e1, w1⟩ := shut_back w ex
    exact h H W.m d e1 w1
  | ok z st =>
    cases z with
    | o i => rw [e] at h; exact h.elim
    | d x =>
      rw [e] at h
      intro H m ex wf v rv
      obtain ⟨e1, w1⟩ := shut_back w ex
      exact h H W.m e1 w1 v (Rp.opened x v rv)
end
end Dw

namespace Dw
open PySem L2
section
variable {K : PySem.W.Frag} {cl xc : Nat → Addr} {E : XK} {W W' : Wd}
/-! ### targets -/
structure Nms (N : List Str) (raw sc : Scope) (X : Cx) : Prop where
  hN : X.N = N
  nd : N.Nodup
  hsc : X.env.scope = sc
  calm : X.calm = true
  fn : ∀ x, locB raw x = true → X.fn x = true ∨ sc.names.lookup x = some .local
theorem loc_of {sc : Scope} {x : Str} (h : locB sc x = true) : L2.Loc sc x := by
  unfold locB at h
  unfold L2.Loc
  cases e : sc.names.lookup x with
  | none => rw [e] at h; cases h
  | some k =>
    rw [e] at h
    cases k <;> first
      | exact .inl rfl
      | exact .inr rfl
      | cases h
theorem vis_of {sc : Scope} {x : Str} (h : visB sc x = true) : Vis sc x := by
  unfold visB at h
  unfold Vis
  cases e : sc.names.lookup x with
  | none => rw [e] at h; cases h
  | some k =>
    rw [e] at h
    cases k <;> first
      | exact .inl rfl
      | exact .inr (.inl rfl)
      | exact .inr (.inr rfl)
      | cases h
theorem glo_of {X : Cx} {sc : Scope} {x : Str} (hs : X.env.scope = sc) (h : gloB sc x = true) : Gl X x := by
  show X.env.scope.names.lookup x = some .globalImplicit
  rw [hs]
  unfold gloB at h
  cases e : sc.names.lookup x with
  | none => rw [e] at h; cases h
  | some k =>
    rw [e] at h
    cases k <;> first
      | rfl
      | cases h
theorem okNm_of {x : Str} (h : okNm x = true) : (x == ("__debug__" : Str)) = false ∧ (x == ("__classdict__" : Str)) = false ∧ x ≠ ("__name__" : Str) := by
  unfold okNm at h
  simp only [Bool.and_eq_true, Bool.not_eq_true', beq_eq_false_iff_ne] at h
  exact ⟨beq_eq_false_iff_ne.mpr h.1.1, beq_eq_false_iff_ne.mpr h.1.2, h.2⟩
theorem each_len {env : PySem.Env} : ∀ es : List Expr, (assignEach es env).length = es.length
  | [] => rfl
  | e :: es => by cases e <;> simp [assignEach, each_len es]
def noStarT : Expr → Bool
  | .Starred .. => false | _ => true
theorem each_find {env : PySem.Env} : ∀ es : List Expr, (∀ e ∈ es, noStarT e = true) → (assignEach es env).findIdx? (·.1) = none
  | [], _ => rfl
  | e :: es, h => by
    have ih := each_find (env := env) es fun x hx => h x (List.mem_cons_of_mem _ hx)
    have h0 := h e List.mem_cons_self
    cases e <;> first
      | (simp only [assignEach, List.findIdx?_cons, ih]; rfl)
      | exact absurd h0 Bool.false_ne_true
theorem each_cons {e : Expr} {es : List Expr} {env : PySem.Env} (h : noStarT e = true) : (assignEach (e :: es) env).map (·.2) = assign e env :: (assignEach es env).map (·.2) := by
  cases e <;> first
    | rfl
    | cases h
variable {X : Cx} {N : List Str} {sc : Scope}
mutual
theorem tg_star : ∀ (t : Tg) (e : Expr), chkTg N sc t e = true → noStarT e = true
  | .nm i, e, h => by cases e <;> first | rfl | cases h
  | .tp ts, e, h => by cases e <;> first | rfl | cases h
theorem tgs_star : ∀ (t : Tgs) (es : List Expr), chkTg.chkTgs N sc t es = true → ∀ e ∈ es, noStarT e = true
  | .nil, [], _ => fun e he => absurd he List.not_mem_nil
  | .nil, e :: es, h => by cases h
  | .cons t r, [], h => by cases h
  | .cons t r, e :: es, h => by
    unfold chkTg.chkTgs at h
    rw [Bool.and_eq_true] at h
    intro x hx
    rcases List.mem_cons.mp hx with z | z
    · rw [z]; exact tg_star t e h.1
    · exact tgs_star r es h.2 x z
end
theorem tgs_len : ∀ (t : Tgs) (es : List Expr) (xs : List D) (env env' : Env), chkTg.chkTgs N sc t es = true → bindTs t xs env = some env' → xs.length = es.length
  | .nil, [], [], _, _, _, _ => rfl
  | .nil, [], _ :: _, _, _, _, h => by cases h
  | .nil, _ :: _, _, _, _, h, _ => by cases h
  | .cons _ _, [], _, _, _, h, _ => by cases h
  | .cons _ _, _ :: _, [], _, _, _, h => by cases h
  | .cons t r, e :: es, x :: xs, env, env', h, hn => by
    unfold chkTg.chkTgs at h
    rw [Bool.and_eq_true] at h
    unfold bindTs at hn
    cases q : bindT t (.d x) env with
    | none => rw [q] at hn; cases hn
    | some env1 =>
      rw [q] at hn
      have := tgs_len r es xs env1 env' h.2 hn
      simp [this]
theorem wipe_set {i : Nat} {o : Option V} : ∀ {own : List Nat} {σ : L2.St}, i ∈ own → L2.wipe (σ.set i o) own = L2.wipe σ own
  | v :: vs, σ, h => by
    unfold L2.wipe
    rcases List.mem_cons.mp h with z | z
    · subst z
      by_cases q : i ∈ vs
      · rw [wipe_set q]
      · have : ∀ (vs : List Nat), i ∉ vs → L2.wipe (σ.set i o) vs = (L2.wipe σ vs).set i o := by
          intro vs
          induction vs with
          | nil => intro _; rfl
          | cons w ws ih =>
            intro hn
            unfold L2.wipe
            rw [ih fun z => hn (List.mem_cons_of_mem _ z), List.set_comm _ _ fun z => hn (by rw [z]; exact List.mem_cons_self)]
        rw [this vs q, List.set_set]
    · rw [wipe_set z]
/-- a target's reading: the environment as bindT has it -/
def tG (K : PySem.W.Frag) (cl : Nat → Addr) (t : Tg) : TG := fun v σ H Q => ∃ env W x env', W.H = H ∧ EnvR K W σ env ∧ Wf K cl W ∧ RpV K W v x ∧ bindT t x env = some env' ∧ ∀ σ', EnvR K W σ' env' → (∀ own, tgIn own t = true → L2.wipe σ' own = L2.wipe σ own) → Q σ' H
def tGs (K : PySem.W.Frag) (cl : Nat → Addr) (t : Tgs) : TGs := fun vs σ H Q => ∃ env W xs env', W.H = H ∧ EnvR K W σ env ∧ Wf K cl W ∧ RpA K W vs xs ∧ bindTs t xs env = some env' ∧ ∀ σ', EnvR K W σ' env' → (∀ own, tgsIn own t = true → L2.wipe σ' own = L2.wipe σ own) → Q σ' H
variable {raw : Scope}
mutual
theorem snd_tg (n : Nms N raw sc X) : ∀ (t : Tg) (e : Expr), chkTg N sc t e = true → chkTg N raw t e = true → PG X e (tG X.K cl t)
  | .nm i, e, h, h' => by
    cases e with
    | Name x pos =>
      unfold chkTg at h h'
      rw [Bool.and_eq_true] at h h'
      have hi : X.N[i]? = some x := by rw [n.hN]; exact of_decide_eq_true (by simpa using h.1)
      refine PG.imp (pg_name (by rw [n.hN]; exact n.nd) hi (by rw [n.hsc]; exact loc_of h.2) (by rw [n.hsc]; exact n.fn x h'.2)) fun v σ H Q q => ?_
      obtain ⟨env, W, x', env', rfl, he, w, r, e, q⟩ := q
      cases e
      refine q _ (he.set i r) fun own ho => wipe_set ?_
      unfold tgIn at ho
      simpa using ho
    | _ => cases h
  | .tp ts, e, h, h' => by
    cases e with
    | Tuple es k pos =>
      unfold chkTg at h h'
      refine PG.imp (pg_tup (n := es.length) n.calm (snd_tgs n ts es h h') (each_len es) (each_find es (tgs_star ts es h))) fun v σ H Q q => ?_
      obtain ⟨env, W, x', env', rfl, he, w, r, e, q⟩ := q
      cases x' with
      | o i => cases e
      | d x' =>
        cases x' with
        | tuple xs =>
          cases r with
          | tup h1 h2 =>
            refine ⟨_, _, rfl, h1.sq, ?_, env, W, xs, env', rfl, he, w, h2, e, fun σ' h3 h4 => q σ' h3 fun own ho => h4 own (by unfold tgIn at ho; exact ho)⟩
            rw [h2.len]
            exact tgs_len ts es xs env env' h e
        | _ => cases e
    | _ => cases h
theorem snd_tgs (n : Nms N raw sc X) : ∀ (t : Tgs) (es : List Expr), chkTg.chkTgs N sc t es = true → chkTg.chkTgs N raw t es = true → PGs X es (tGs X.K cl t)
  | .nil, [], _, _ => PGs.imp pgs_nil fun v σ H Q q => by
    obtain ⟨env, W, xs, env', rfl, he, w, r, e, q⟩ := q
    cases xs with
    | nil => cases r; cases e; exact ⟨rfl, q σ he fun _ _ => rfl⟩
    | cons _ _ => cases e
  | .nil, _ :: _, h, _ => by cases h
  | .cons _ _, [], h, _ => by cases h
  | .cons t r, e :: es, h, h' => by
    unfold chkTg.chkTgs at h h'
    rw [Bool.and_eq_true] at h h'
    refine PGs.imp (pgs_cons (snd_tg n t e h.1 h'.1) (snd_tgs n r es h.2 h'.2) (each_cons (tg_star t e h.1))) fun v σ H Q q => ?_
    obtain ⟨env, W, xs, env', rfl, he, w, rr, eq, q⟩ := q
    cases xs with
    | nil => cases eq
    | cons x xs =>
      cases rr with
      | cons r1 r2 =>
        unfold bindTs at eq
        cases q1 : bindT t (.d x) env with
        | none => rw [q1] at eq; cases eq
        | some env1 =>
          rw [q1] at eq
          refine ⟨_, _, rfl, env, W, .d x, env1, rfl, he, w, r1, q1, fun σ' he' hw => ⟨env1, W, xs, env', rfl, he', w, r2, eq, fun σ'' h3 h4 => q σ'' h3 fun own ho => ?_⟩⟩
          unfold tgsIn at ho
          rw [Bool.and_eq_true] at ho
          rw [h4 own ho.2, hw own ho.1]
end
/-! ### what is walked -/
/-- J walks what the evaluator has found -/
def JOk (K : PySem.W.Frag) (cl : Nat → Addr) (W : Wd) (J : L2.It) : Wk → Prop
  | .its xs => ∀ W1, Ex2 W W1 → Wf K cl W1 → ∀ i, (∀ y, xs[i]? = some y → J.go i W1.H ∧ ∀ x H', J.yld i W1.H x H' → ∃ W2, W2.H = H' ∧ W2.st = W1.st ∧ W2.m = W1.m ∧ Ex W1 W2 ∧ Wf K cl W2 ∧ RpV K W2 x y) ∧ (xs.length = i → J.stop i W1.H)
  | .ob j => ∀ W1, Ex2 W W1 → Wf K cl W1 → ∀ i ds, W1.st[j]? = some (.lst ds) → (∀ y, ds[i]? = some y → J.go i W1.H ∧ ∀ x H', J.yld i W1.H x H' → H' = W1.H ∧ RpV K W1 x (.d y)) ∧ (ds.length ≤ i → J.stop i W1.H)
def tI (K : PySem.W.Frag) (cl xc : Nat → Addr) (E : XK) (f : Env → M Wk) : TI := fun σ H R => ∃ env W, W.H = H ∧ EnvR K W σ env ∧ Wf K cl W ∧ Post K cl xc E W (f env W.st) fun k W' => ∀ J, JOk K cl W' J k → R J W'.H
theorem jok_lst {a : Addr} {xs : List V} {ds : List D} (h : LstAt W a xs) (r : RpA K W xs ds) : JOk K cl W (Itl K a) (.its (ds.map .d)) := fun W1 e w i => by
  have h1 := h.mono2 e
  have r1 := RpA.mono2 e ds xs r
  refine ⟨fun y hy => ?_, fun hl => ⟨xs, h1.sq, by rw [r1.len, ← hl]; simp⟩⟩
  rw [List.getElem?_map] at hy
  cases hd : ds[i]? with
  | none => rw [hd] at hy; cases hy
  | some d =>
    rw [hd] at hy
    cases hy
    obtain ⟨v, g1, g2⟩ := r1.get hd
    refine ⟨⟨xs, v, h1.sq, g1⟩, fun x H' y => ?_⟩
    obtain ⟨rfl, y⟩ := y
    have := y xs h1.sq
    rw [g1] at this
    cases this
    exact ⟨W1, rfl, rfl, rfl, Ex.refl _, w, g2⟩
theorem jok_tup {a : Addr} {xs : List V} {ds : List D} (h : TupAt K W a xs) (r : RpA K W xs ds) : JOk K cl W (Itt K a) (.its (ds.map .d)) := fun W1 e w i => by
  have h1 := h.mono2 e
  have r1 := RpA.mono2 e ds xs r
  refine ⟨fun y hy => ?_, fun hl => ⟨xs, h1.sq, by rw [r1.len, ← hl]; simp⟩⟩
  rw [List.getElem?_map] at hy
  cases hd : ds[i]? with
  | none => rw [hd] at hy; cases hy
  | some d =>
    rw [hd] at hy
    cases hy
    obtain ⟨v, g1, g2⟩ := r1.get hd
    refine ⟨⟨xs, v, h1.sq, g1⟩, fun x H' y => ?_⟩
    obtain ⟨rfl, y⟩ := y
    have := y xs h1.sq
    rw [g1] at this
    cases this
    exact ⟨W1, rfl, rfl, rfl, Ex.refl _, w, g2⟩
theorem jok_str {z : Str} : JOk K cl W (Its z) (.its (z.cps.toList.map fun c => stV ⟨#[c]⟩)) := fun W1 e w i => by
  refine ⟨fun y hy => ?_, fun hl => by
    show z.cps.size ≤ i
    rw [← hl]; simp⟩
  rw [List.getElem?_map] at hy
  cases hd : z.cps.toList[i]? with
  | none => rw [hd] at hy; cases hy
  | some c =>
    rw [hd] at hy
    cases hy
    have hd' : z.cps[i]? = some c := by simpa using hd
    refine ⟨(Array.getElem?_eq_some_iff.mp hd').1, fun x H' y => ?_⟩
    obtain ⟨rfl, c', hc, rfl⟩ := y
    rw [hd'] at hc
    cases hc
    exact ⟨W1, rfl, rfl, rfl, Ex.refl _, w, .str _⟩
theorem jok_ob {a : Addr} {j : Nat} (hm : W.m[j]? = some a) : JOk K cl W (Itl K a) (.ob j) := fun W1 e w i ds hs => by
  obtain ⟨t, ht⟩ := e.m
  have hm1 : W1.m[j]? = some a := by rw [← ht, List.getElem?_append_left (List.getElem?_eq_some_iff.mp hm).1]; exact hm
  obtain ⟨xs, g1, g2⟩ := w.ob j a _ hm1 hs
  refine ⟨fun y hy => ?_, fun hl => ⟨xs, .inl (.inl g1), by rw [g2.len]; exact hl⟩⟩
  obtain ⟨v, k1, k2⟩ := g2.get hy
  refine ⟨⟨xs, v, .inl (.inl g1), k1⟩, fun x H' y => ?_⟩
  obtain ⟨rfl, y⟩ := y
  have := y xs (.inl (.inl g1))
  rw [k1] at this
  cases this
  exact ⟨rfl, k2⟩
theorem jok_range {lo : Int} {n : Nat} : JOk K cl W (Itr lo n) (.its (rangeD lo n)) := fun W1 e w i => by
  refine ⟨fun y hy => ?_, fun hl => by
    show n ≤ i
    rw [← hl]; simp [rangeD]⟩
  unfold rangeD at hy
  rw [List.getElem?_map] at hy
  cases hd : (List.range n)[i]? with
  | none => rw [hd] at hy; cases hy
  | some k =>
    rw [hd] at hy
    cases hy
    obtain ⟨h1, h2⟩ := List.getElem?_eq_some_iff.mp hd
    simp at h1 h2
    subst h2
    refine ⟨h1, fun x H' y => ?_⟩
    obtain ⟨rfl, rfl⟩ := y
    exact ⟨W1, rfl, rfl, rfl, Ex.refl _, w, .int _⟩
/-- a list or a tuple, as it stays -/
def SqF (K : PySem.W.Frag) (W : Wd) (t : Bool) (a : Addr) (xs : List V) : Prop := match t with
  | false => LstAt W a xs
  | true => TupAt K W a xs
theorem SqF.sq {t : Bool} {a : Addr} {xs : List V} (h : SqF K W t a xs) : SqK K t W.H a xs := by
  cases t with
  | false => exact LstAt.sq h
  | true => exact TupAt.sq h
theorem SqF.mono2 {t : Bool} {a : Addr} {xs : List V} (e : Ex2 W W') (h : SqF K W t a xs) : SqF K W' t a xs := by
  cases t with
  | false => exact LstAt.mono2 e h
  | true => exact TupAt.mono2 e h
theorem enumD_get : ∀ (ds : List D) (n i : Nat), (enumD n ds)[i]? = ds[i]?.map fun d => tuV [.int ((n + i : Nat) : Int), d]
  | [], _, _ => by simp [enumD]
  | d :: ds, n, 0 => by simp [enumD]
  | d :: ds, n, i + 1 => by
    simp only [enumD, List.getElem?_cons_succ, enumD_get ds (n + 1) i]
    congr 1
    funext d
    rw [show n + 1 + i = n + (i + 1) by omega]
theorem enumD_len : ∀ (ds : List D) (n : Nat), (enumD n ds).length = ds.length
  | [], _ => rfl
  | d :: ds, n => by simp [enumD, enumD_len ds (n + 1)]
theorem zipD_get : ∀ (xs ys : List D) (i : Nat) (v : Vl), (zipD xs ys)[i]? = some v → ∃ x y, xs[i]? = some x ∧ ys[i]? = some y ∧ v = tuV [x, y]
  | [], _, i, v, h => by simp [zipD] at h
  | _ :: _, [], i, v, h => by simp [zipD] at h
  | x :: xs, y :: ys, 0, v, h => by
    simp [zipD] at h
    exact ⟨x, y, rfl, rfl, h.symm⟩
  | x :: xs, y :: ys, i + 1, v, h => by
    simp only [zipD, List.getElem?_cons_succ] at h
    simpa using zipD_get xs ys i v h
theorem zipD_len : ∀ (xs ys : List D), (zipD xs ys).length = min xs.length ys.length
  | [], ys => by simp [zipD]
  | _ :: _, [] => by simp [zipD]
  | x :: xs, y :: ys => by simp [zipD, zipD_len xs ys]
theorem jok_enum {t : Bool} {a : Addr} {xs : List V} {ds : List D} (h : SqF K W t a xs) (r : RpA K W xs ds) : JOk K cl W (IteK K t a) (.its (enumD 0 ds)) := fun W1 e w i => by
  have h1 := h.mono2 e
  have r1 := RpA.mono2 e ds xs r
  refine ⟨fun y hy => ?_, fun hl => ⟨xs, h1.sq, by rw [r1.len, ← hl, enumD_len]⟩⟩
  rw [enumD_get] at hy
  cases hd : ds[i]? with
  | none => rw [hd] at hy; cases hy
  | some d =>
    rw [hd] at hy
    cases hy
    obtain ⟨v, g1, g2⟩ := r1.get hd
    refine ⟨⟨xs, v, h1.sq, g1⟩, fun x H' y => ?_⟩
    obtain ⟨T, z, rfl, hT, rfl, y⟩ := y
    have := y xs h1.sq
    rw [g1] at this
    cases this
    refine ⟨⟨upd W1.H T (.tup [.int (i : Nat), v]), W1.F, W1.m, W1.st⟩, rfl, rfl, rfl, Ex.new hT, w.new hT, ?_⟩
    have := rp_newTup (ds := [.int ((0 + i : Nat) : Int), d]) w hT (.cons (by simpa using Rp.int (K := K) (W := W1) ((i : Nat) : Int)) (.cons g2 .nil))
    exact this
theorem jok_zip {t u : Bool} {a b : Addr} {xs ys : List V} {ds es : List D} (h : SqF K W t a xs) (r : RpA K W xs ds) (h' : SqF K W u b ys) (r' : RpA K W ys es) : JOk K cl W (ItzK K t u a b) (.its (zipD ds es)) := fun W1 e w i => by
  have h1 := h.mono2 e
  have r1 := RpA.mono2 e ds xs r
  have h2 := h'.mono2 e
  have r2 := RpA.mono2 e es ys r'
  refine ⟨fun y hy => ?_, fun hl => ?_⟩
  · obtain ⟨d1, d2, e1, e2, rfl⟩ := zipD_get ds es i y hy
    obtain ⟨v, g1, g2⟩ := r1.get e1
    obtain ⟨v', k1, k2⟩ := r2.get e2
    refine ⟨⟨xs, ys, v, v', h1.sq, h2.sq, g1, k1⟩, fun x H' y => ?_⟩
    obtain ⟨T, z, z', rfl, hT, rfl, y1, y2⟩ := y
    have q1 := y1 xs h1.sq
    rw [g1] at q1
    cases q1
    have q2 := y2 ys h2.sq
    rw [k1] at q2
    cases q2
    exact ⟨⟨upd W1.H T (.tup [v, v']), W1.F, W1.m, W1.st⟩, rfl, rfl, rfl, Ex.new hT, w.new hT, rp_newTup (ds := [d1, d2]) w hT (.cons g2 (.cons k2 .nil))⟩
  · rw [zipD_len] at hl
    refine ⟨xs, ys, h1.sq, h2.sq, ?_⟩
    rw [r1.len, r2.len]
    omega
end
end Dw

namespace Dw
open PySem L2
section
variable {X : Cx} {cl xc : Nat → Addr} {E : XK} {k : Nat} {N : List Str} {sc : Scope}
theorem Cos.nms (c : Cos k N sc X E) : Nms N sc sc X := ⟨c.hN, c.nd, c.hsc, c.calm, c.fn⟩
theorem Cok.hu6 (c : Cok k N sc X E) : X.A.units + 66 < cLine := by have := c.room.un; omega
theorem Cok.hu (c : Cok k N sc X E) : X.A.units + 65 < cLine := by have := c.room.un; omega
/-! ### operators -/
theorem tE_bin (f g : Env → M Vl) (h : Vl → Vl → M Vl) {r : R2} (ok : Ok2 X.K cl xc E h r) {σ : L2.St} {H : Hp} {Q : VK}
    (q : tE X.K cl xc E (fun env => do let x ← f env; let y ← g env; h x y) σ H Q) : tOp r (tE X.K cl xc E f) (tE X.K cl xc E g) σ H Q := by
  obtain ⟨env, W, rfl, he, w, p⟩ := q
  refine ⟨env, W, rfl, he, w, (Post.bind p).imp fun x W1 e1 w1 p1 v1 r1 => ?_⟩
  refine ⟨env, W1, rfl, he.mono e1, w1, (Post.bind p1).imp fun y W2 e2 w2 p2 v2 r2 => ?_⟩
  exact ok W2 x y v1 v2 Q w2 (r1.mono e2) r2 p2
theorem tE_cmp (f g : Env → M Vl) (h : Vl → Vl → M Bool) {r : R2} (ok : OkC X.K cl xc E h r) {σ : L2.St} {H : Hp} {Q : VK}
    (q : tE X.K cl xc E (fun env => do let x ← f env; let y ← g env; let c ← h x y; pure (blV c)) σ H Q) : tOp r (tE X.K cl xc E f) (tE X.K cl xc E g) σ H Q := by
  obtain ⟨env, W, rfl, he, w, p⟩ := q
  refine ⟨env, W, rfl, he, w, (Post.bind p).imp fun x W1 e1 w1 p1 v1 r1 => ?_⟩
  refine ⟨env, W1, rfl, he.mono e1, w1, (Post.bind p1).imp fun y W2 e2 w2 p2 v2 r2 => ?_⟩
  exact ok W2 x y v1 v2 Q w2 (r1.mono e2) r2 ((Post.bind p2).imp fun b W3 e3 w3 p3 => Post.pure w3 p3 (.bl b) (.bl b))
theorem tT_cmp (f g : Env → M Vl) (h : Vl → Vl → M Bool) {r : R2} (ok : OkC X.K cl xc E h r) {σ : L2.St} {H : Hp} {Q : Bool → Hp → Prop}
    (q : tT X.K cl xc E (fun env => (do let x ← f env; let y ← g env; let c ← h x y; pure (blV c)) >>= asB) σ H Q) : tTest (tOp r (tE X.K cl xc E f) (tE X.K cl xc E g)) σ H Q := by
  obtain ⟨env, W, rfl, he, w, p⟩ := q
  simp only [M.bind_assoc] at p
  refine ⟨env, W, rfl, he, w, (Post.bind p).imp fun x W1 e1 w1 p1 v1 r1 => ?_⟩
  refine ⟨env, W1, rfl, he.mono e1, w1, (Post.bind p1).imp fun y W2 e2 w2 p2 v2 r2 => ?_⟩
  exact ok W2 x y v1 v2 _ w2 (r1.mono e2) r2 ((Post.bind p2).imp fun b W3 e3 w3 p3 => ⟨b, rfl, Post.pure w3 p3⟩)
/-- a test by its value -/
theorem tT_val (f : Env → M Vl) {σ : L2.St} {H : Hp} {Q : Bool → Hp → Prop} (q : tT X.K cl xc E (fun env => f env >>= asB) σ H Q) : tB (tE X.K cl xc E f) σ H Q := by
  obtain ⟨env, W, rfl, he, w, p⟩ := q
  refine ⟨env, W, rfl, he, w, (Post.bind p).imp fun x W1 e1 w1 p1 v1 r1 => ?_⟩
  cases x with
  | o i => exact p1.elim
  | d x =>
    cases x with
    | bool b => cases r1; exact ⟨b, rfl, Post.pure w1 p1⟩
    | _ => exact p1.elim
theorem tE_chain (f g h : Env → M Vl) (c1 c2 : Vl → Vl → M Bool) {r1 r2 : R2} (ok1 : OkC X.K cl xc E c1 r1) (ok2 : OkC X.K cl xc E c2 r2) {σ : L2.St} {H : Hp} {Q : VK}
    (q : tE X.K cl xc E (fun env => do
      let x ← f env
      let y ← g env
      if ← c1 x y then
        let z ← h env
        let r ← c2 y z
        pure (blV r)
      else pure (blV false)) σ H Q) : tChain r1 r2 (tE X.K cl xc E f) (tE X.K cl xc E g) (tE X.K cl xc E h) σ H Q := by
  obtain ⟨env, W, rfl, he, w, p⟩ := q
  refine ⟨env, W, rfl, he, w, (Post.bind p).imp fun x W1 e1 w1 p1 v1 q1 => ?_⟩
  refine ⟨env, W1, rfl, he.mono e1, w1, (Post.bind p1).imp fun y W2 e2 w2 p2 v2 q2 => ?_⟩
  refine ok1 W2 x y v1 v2 _ w2 (q1.mono e2) q2 ((Post.bind p2).imp fun b W3 e3 w3 p3 => ⟨b, rfl, ?_⟩)
  cases b with
  | false => exact Post.pure w3 p3 (.bl false) (.bl false)
  | true =>
    refine ⟨env, W3, rfl, ((he.mono e1).mono e2).mono e3, w3, (Post.bind p3).imp fun z W4 e4 w4 p4 v4 q4 => ?_⟩
    exact ok2 W4 y z v2 v4 Q w4 ((q2.mono e3).mono e4) q4 ((Post.bind p4).imp fun b W5 e5 w5 p5 => Post.pure w5 p5 (.bl b) (.bl b))
theorem tT_chain (f g h : Env → M Vl) (c1 c2 : Vl → Vl → M Bool) {r1 r2 : R2} (ok1 : OkC X.K cl xc E c1 r1) (ok2 : OkC X.K cl xc E c2 r2) {σ : L2.St} {H : Hp} {Q : Bool → Hp → Prop}
    (q : tT X.K cl xc E (fun env => (do
      let x ← f env
      let y ← g env
      if ← c1 x y then
        let z ← h env
        let r ← c2 y z
        pure (blV r)
      else pure (blV false)) >>= asB) σ H Q) : tTest (tChain r1 r2 (tE X.K cl xc E f) (tE X.K cl xc E g) (tE X.K cl xc E h)) σ H Q := by
  obtain ⟨env, W, rfl, he, w, p⟩ := q
  simp only [M.bind_assoc] at p
  refine ⟨env, W, rfl, he, w, (Post.bind p).imp fun x W1 e1 w1 p1 v1 q1 => ?_⟩
  refine ⟨env, W1, rfl, he.mono e1, w1, (Post.bind p1).imp fun y W2 e2 w2 p2 v2 q2 => ?_⟩
  refine ok1 W2 x y v1 v2 _ w2 (q1.mono e2) q2 ((Post.bind p2).imp fun b W3 e3 w3 p3 => ⟨b, rfl, ?_⟩)
  cases b with
  | false => exact ⟨false, rfl, Post.pure w3 p3⟩
  | true =>
    simp only [if_true, M.bind_assoc] at p3
    refine ⟨env, W3, rfl, ((he.mono e1).mono e2).mono e3, w3, (Post.bind p3).imp fun z W4 e4 w4 p4 v4 q4 => ?_⟩
    exact ok2 W4 y z v2 v4 _ w4 ((q2.mono e3).mono e4) q4 ((Post.bind p4).imp fun b W5 e5 w5 p5 => ⟨b, rfl, Post.pure w5 p5⟩)
theorem tE_not (f : Env → M Vl) {σ : L2.St} {H : Hp} {Q : VK} (q : tE X.K cl xc E (fun env => do let c ← asB (← f env); pure (blV (!c))) σ H Q) : tNotV (tE X.K cl xc E f) σ H Q := by
  obtain ⟨env, W, rfl, he, w, p⟩ := q
  refine ⟨env, W, rfl, he, w, (Post.bind p).imp fun x W1 e1 w1 p1 v1 r1 => ?_⟩
  obtain ⟨b, rfl, rfl, p2⟩ := Post.asB r1 p1
  exact ⟨b, rfl, Post.pure w1 p2 (.bl (!b)) (.bl _)⟩
theorem tT_not (f : Env → M Vl) {σ : L2.St} {H : Hp} {Q : Bool → Hp → Prop} (q : tT X.K cl xc E (fun env => (do let c ← asB (← f env); pure (blV (!c))) >>= asB) σ H Q) : tNot (tT X.K cl xc E (fun env => f env >>= asB)) σ H Q := by
  obtain ⟨env, W, rfl, he, w, p⟩ := q
  refine ⟨env, W, rfl, he, w, ?_⟩
  simp only [M.bind_assoc] at p
  have p' : Post X.K cl xc E W (((f env >>= asB) >>= fun c => (pure (!c) : M Bool)) W.st) fun b W' => Q b W'.H := by
    simp only [M.bind_assoc]
    exact p
  exact (Post.bind p').imp fun b W1 e1 w1 p1 => Post.pure w1 p1
theorem tE_neg (f : Env → M Vl) {σ : L2.St} {H : Hp} {Q : VK} (q : tE X.K cl xc E (fun env => do let i ← asI (← f env); pure (Dw.inV (-i))) σ H Q) : tUn (rU fun i => .int (-i)) (tE X.K cl xc E f) σ H Q := by
  obtain ⟨env, W, rfl, he, w, p⟩ := q
  refine ⟨env, W, rfl, he, w, (Post.bind p).imp fun x W1 e1 w1 p1 v1 r1 => ?_⟩
  obtain ⟨i, rfl, rfl, p2⟩ := Post.asI r1 p1
  exact ⟨i, rfl, Post.pure w1 p2 (.int (-i)) (.int _)⟩
theorem tE_and (f g : Env → M Vl) {σ : L2.St} {H : Hp} {Q : VK} (q : tE X.K cl xc E (fun env => do if ← asB (← f env) then g env else pure (blV false)) σ H Q) : tAndV (tE X.K cl xc E f) (tE X.K cl xc E g) σ H Q := by
  obtain ⟨env, W, rfl, he, w, p⟩ := q
  refine ⟨env, W, rfl, he, w, (Post.bind p).imp fun x W1 e1 w1 p1 v1 r1 => ?_⟩
  obtain ⟨b, rfl, rfl, p2⟩ := Post.asB r1 p1
  refine ⟨b, rfl, ?_⟩
  cases b with
  | true => exact ⟨env, W1, rfl, he.mono e1, w1, p2⟩
  | false => exact Post.pure w1 p2 (.bl false) (.bl _)
theorem tE_or (f g : Env → M Vl) {σ : L2.St} {H : Hp} {Q : VK} (q : tE X.K cl xc E (fun env => do if ← asB (← f env) then pure (blV true) else g env) σ H Q) : tOrV (tE X.K cl xc E f) (tE X.K cl xc E g) σ H Q := by
  obtain ⟨env, W, rfl, he, w, p⟩ := q
  refine ⟨env, W, rfl, he, w, (Post.bind p).imp fun x W1 e1 w1 p1 v1 r1 => ?_⟩
  obtain ⟨b, rfl, rfl, p2⟩ := Post.asB r1 p1
  refine ⟨b, rfl, ?_⟩
  cases b with
  | false => exact ⟨env, W1, rfl, he.mono e1, w1, p2⟩
  | true => exact Post.pure w1 p2 (.bl true) (.bl _)
theorem tT_and (f g : Env → M Vl) {σ : L2.St} {H : Hp} {Q : Bool → Hp → Prop} (q : tT X.K cl xc E (fun env => (do if ← asB (← f env) then g env else pure (blV false)) >>= asB) σ H Q) :
    tAnd (tT X.K cl xc E (fun env => f env >>= asB)) (tT X.K cl xc E (fun env => g env >>= asB)) σ H Q := by
  obtain ⟨env, W, rfl, he, w, p⟩ := q
  have p' : Post X.K cl xc E W (((f env >>= asB) >>= fun c => (if c = true then g env else pure (blV false)) >>= asB) W.st) fun b W' => Q b W'.H := by
    simp only [M.bind_assoc] at p ⊢
    exact p
  refine ⟨env, W, rfl, he, w, (Post.bind p').imp fun b W1 e1 w1 p1 => ?_⟩
  cases b with
  | true => exact ⟨env, W1, rfl, he.mono e1, w1, p1⟩
  | false => exact Post.pure w1 p1
theorem tT_or (f g : Env → M Vl) {σ : L2.St} {H : Hp} {Q : Bool → Hp → Prop} (q : tT X.K cl xc E (fun env => (do if ← asB (← f env) then pure (blV true) else g env) >>= asB) σ H Q) :
    tOr (tT X.K cl xc E (fun env => f env >>= asB)) (tT X.K cl xc E (fun env => g env >>= asB)) σ H Q := by
  obtain ⟨env, W, rfl, he, w, p⟩ := q
  have p' : Post X.K cl xc E W (((f env >>= asB) >>= fun c => (if c = true then pure (blV true) else g env) >>= asB) W.st) fun b W' => Q b W'.H := by
    simp only [M.bind_assoc] at p ⊢
    exact p
  refine ⟨env, W, rfl, he, w, (Post.bind p').imp fun b W1 e1 w1 p1 => ?_⟩
  cases b with
  | false => exact ⟨env, W1, rfl, he.mono e1, w1, p1⟩
  | true => exact Post.pure w1 p1
/-! ### names -/
theorem tE_var (i : Nat) {σ : L2.St} {H : Hp} {Q : VK} (q : tE X.K cl xc E (fun env => getV env i) σ H Q) : tVar i σ H Q := by
  obtain ⟨env, W, rfl, he, w, p⟩ := q
  have p : Post X.K cl xc E W (getV env i W.st) _ := p
  unfold getV at p
  cases e : env[i]? with
  | none => rw [e] at p; exact p.elim
  | some o =>
    cases o with
    | none => rw [e] at p; exact p.elim
    | some x =>
      rw [e] at p
      obtain ⟨v, h1, h2⟩ := he.at_ i x e
      exact ⟨v, h1, Post.pure w p v h2⟩
theorem tE_const {z : Vl} {v : V} (r : ∀ W, RpV X.K W v z) {σ : L2.St} {H : Hp} {Q : VK} (q : tE X.K cl xc E (fun _ => pure z) σ H Q) : tC v σ H Q := by
  obtain ⟨env, W, rfl, he, w, p⟩ := q
  exact Post.pure w p v (r W)
/-! ### argument lists, displays -/
theorem tA_nil {σ : L2.St} {H : Hp} {Q : List V → Hp → Prop} (q : tA X.K cl xc E (fun _ => pure []) σ H Q) : tNil σ H Q := by
  obtain ⟨env, W, rfl, he, w, p⟩ := q
  exact Post.pure w p [] .nil
theorem tA_cons (f : Env → M Vl) (g : Env → M (List Vl)) {σ : L2.St} {H : Hp} {Q : List V → Hp → Prop} (q : tA X.K cl xc E (fun env => do let x ← f env; let xs ← g env; pure (x :: xs)) σ H Q) :
    tCons (tE X.K cl xc E f) (tA X.K cl xc E g) σ H Q := by
  obtain ⟨env, W, rfl, he, w, p⟩ := q
  refine ⟨env, W, rfl, he, w, (Post.bind p).imp fun x W1 e1 w1 p1 v1 r1 => ?_⟩
  exact ⟨env, W1, rfl, he.mono e1, w1, (Post.bind p1).imp fun xs W2 e2 w2 p2 vs r2 => Post.pure w2 p2 (v1 :: vs) (.cons (r1.mono e2) r2)⟩
theorem tE_tup (g : Env → M (List Vl)) {σ : L2.St} {H : Hp} {Q : VK} (q : tE X.K cl xc E (fun env => do let xs ← asDs (← g env); okS (decide (xs.length ≤ szLine)) (tuV xs)) σ H Q) : tTup (tA X.K cl xc E g) σ H Q := by
  obtain ⟨env, W, rfl, he, w, p⟩ := q
  refine ⟨env, W, rfl, he, w, (Post.bind p).imp fun xs W1 e1 w1 p1 vs rs => ?_⟩
  obtain ⟨ds, rfl, hd, p2⟩ := asDs_ok rs p1
  obtain ⟨hz, p2⟩ := Post.okP p2
  exact ⟨by rw [hd.len, ← szE]; exact of_decide_eq_true hz, fun a ha => Post.newTup w1 p2 hd ha⟩
/-- a new list, by its kind -/
theorem newL_ok {W : Wd} {mu : Bool} {xs : List V} {ds : List D} {Q : VK} (w : Wf X.K cl W) (r : RpA X.K W xs ds) (p : Post X.K cl xc E W (newL mu ds W.st) (QE X.K Q)) {a : Addr} (ha : W.H a = none) : Q (.ref a) (upd W.H a (.lst xs)) := by
  cases mu with
  | false => exact Post.newLst w p r ha
  | true =>
    have hk : ∀ b u, W.H b = some u → upd W.H a (.lst xs) b = some u := fun b u e => by rw [upd_ne (ne_of_none e ha)]; exact e
    have w' : Wf X.K cl ⟨upd W.H a (.lst xs), W.F, W.m ++ [a], W.st ++ [.lst ds]⟩ := w.newO ha hk ⟨xs, upd_same, RpA.mono (Ex.newO w ha hk) ds xs r⟩
    exact p (upd W.H a (.lst xs)) (W.m ++ [a]) (Ex.newO w ha hk) w' (.ref a) ⟨a, rfl, by
      show (W.m ++ [a])[W.st.length]? = some a
      rw [← w.len, List.getElem?_append_right (Nat.le_refl _)]
      simp⟩
theorem tE_lst (mu : Bool) (g : Env → M (List Vl)) {σ : L2.St} {H : Hp} {Q : VK} (q : tE X.K cl xc E (fun env => do let xs ← asDs (← g env); okS (decide (xs.length ≤ szLine)) (); newL mu xs) σ H Q) : tLst (tA X.K cl xc E g) σ H Q := by
  obtain ⟨env, W, rfl, he, w, p⟩ := q
  refine ⟨env, W, rfl, he, w, (Post.bind p).imp fun xs W1 e1 w1 p1 vs rs => ?_⟩
  obtain ⟨ds, rfl, hd, p2⟩ := asDs_ok rs p1
  obtain ⟨hz, p2⟩ := Post.okB p2
  exact ⟨by rw [hd.len, ← szE]; exact of_decide_eq_true hz, fun a ha => newL_ok w1 hd p2 ha⟩
/-! ### places, slices, built-ins -/
theorem tO_no {σ : L2.St} {H : Hp} {Q : Option Int → Hp → Prop} (q : tO X.K cl xc E (fun _ => pure none) σ H Q) : tNoPart σ H Q := by
  obtain ⟨env, W, rfl, he, w, p⟩ := q
  exact Post.pure w p
theorem tO_so (f : Env → M Vl) {σ : L2.St} {H : Hp} {Q : Option Int → Hp → Prop} (q : tO X.K cl xc E (fun env => do let i ← asI (← f env); pure (some i)) σ H Q) : tPart (tE X.K cl xc E f) σ H Q := by
  obtain ⟨env, W, rfl, he, w, p⟩ := q
  refine ⟨env, W, rfl, he, w, (Post.bind p).imp fun x W1 e1 w1 p1 v1 r1 => ?_⟩
  obtain ⟨i, rfl, rfl, p2⟩ := Post.asI r1 p1
  exact ⟨i, rfl, Post.pure w1 p2⟩
theorem tE_sl (f : Env → M Vl) (l h : Env → M (Option Int)) {σ : L2.St} {H : Hp} {Q : VK} (q : tE X.K cl xc E (fun env => do let x ← f env; let a ← l env; let b ← h env; slV x a b) σ H Q) :
    tSl (rSl X.K) (tE X.K cl xc E f) (tO X.K cl xc E l) (tO X.K cl xc E h) σ H Q := by
  obtain ⟨env, W, rfl, he, w, p⟩ := q
  refine ⟨env, W, rfl, he, w, (Post.bind p).imp fun x W1 e1 w1 p1 v1 r1 => ?_⟩
  refine ⟨env, W1, rfl, he.mono e1, w1, (Post.bind p1).imp fun lo W2 e2 w2 p2 => ?_⟩
  refine ⟨env, W2, rfl, (he.mono e1).mono e2, w2, (Post.bind p2).imp fun hi W3 e3 w3 p3 => ?_⟩
  exact ok_sl w3 ((r1.mono e2).mono e3) p3
theorem tE_bi (b : Bi) (g : Env → M (List Vl)) {σ : L2.St} {H : Hp} {Q : VK} (q : tE X.K cl xc E (fun env => do let vs ← g env; bi b vs) σ H Q) : tCB (BiR X.K b) (tA X.K cl xc E g) σ H Q := by
  obtain ⟨env, W, rfl, he, w, p⟩ := q
  exact ⟨env, W, rfl, he, w, (Post.bind p).imp fun xs W1 e1 w1 p1 vs rs => bi_ok b W1 xs vs Q w1 rs p1⟩
end
end Dw

namespace Dw
open PySem L2
theorem Phi_len {T : Nat → Option Fn} {k f n : Nat} {vs : List Vl} {s : Sto} (hn : npOf T f = some n) (h : Phi T k f vs s ≠ .no) : vs.length = n := by
  cases k with
  | zero => exact absurd rfl h
  | succ k =>
    cases e : T f with
    | none => unfold npOf at hn; rw [e] at hn; cases hn
    | some F =>
      unfold npOf at hn
      rw [e] at hn
      cases hn
      rw [Phi_succ e] at h
      unfold Fn.run at h
      by_cases q : vs.length = F.np
      · exact q
      · rw [if_neg q] at h; exact absurd rfl h
theorem Post.ne {K : PySem.W.Frag} {cl xc : Nat → Addr} {E : XK} {α : Type} {W : Wd} {r : R α} {q : α → Wd → Prop} (h : Post K cl xc E W r q) : r ≠ .no := by
  intro e; rw [e] at h; exact h
theorem pureRun_ne {m : M Vl} {s : Sto} (h : pureRun m s ≠ .no) : m [] ≠ .no := by
  intro e; unfold pureRun at h; rw [e] at h; exact h rfl
section
variable {X : Cx} {cl xc : Nat → Addr} {E : XK} {k : Nat} {N : List Str} {sc : Scope} {T : Nat → Option Fn}
theorem RpVs.nilr {K : PySem.W.Frag} {W : Wd} {vs : List V} {xs : List Vl} (h : RpVs K W vs xs) : RpVs K W (vs ++ []) xs := by rw [List.append_nil]; exact h
theorem Rv.d {K : PySem.W.Frag} {W : Wd} {vs : List V} {ds : List D} (h : RpA K W vs ds) : RpA K W (vs ++ []) ds := by rw [List.append_nil]; exact h
theorem tE_call {f n : Nat} (hn : npOf T f = some n) (g : Env → M (List Vl)) {σ : L2.St} {H : Hp} {Q : VK} (q : tE X.K cl xc E (fun env => do let vs ← g env; Phi T k f vs) σ H Q) :
    tCall (spF X.K cl xc n (Phi T k f)) [] E (tA X.K cl xc E g) σ H Q := by
  obtain ⟨env, W, rfl, he, w, p⟩ := q
  refine ⟨env, W, rfl, he, w, (Post.bind p).imp fun xs W1 e1 w1 p1 vs rs => ?_⟩
  exact spF_of w1 rs.nilr (Phi_len hn (Post.ne p1)) p1
theorem tE_callP {f n : Nat} (hn : npOf T f = some n) (g : Env → M (List Vl)) {σ : L2.St} {H : Hp} {Q : VK} (q : tE X.K cl xc E (fun env => do let vs ← g env; let xs ← asDs vs; pureRun (Phi T k f (xs.map .d))) σ H Q) :
    tCall (spF X.K cl xc n (Phi T k f)) [] E (tA X.K cl xc E g) σ H Q := by
  obtain ⟨env, W, rfl, he, w, p⟩ := q
  refine ⟨env, W, rfl, he, w, (Post.bind p).imp fun xs W1 e1 w1 p1 vs rs => ?_⟩
  obtain ⟨ds, rfl, hd, p2⟩ := asDs_ok rs p1
  have := Phi_len hn (pureRun_ne (Post.ne p2))
  exact spF_pure w1 (Rv.d hd) (by simpa using this) p2
theorem getOb_ok {α : Type} {K : PySem.W.Frag} {W : Wd} {v : V} {x : Vl} {f : Nat → M α} {q : α → Wd → Prop} (r : RpV K W v x) (h : Post K cl xc E W ((getOb x >>= f) W.st) q) : ∃ i a, x = .o i ∧ v = .ref a ∧ W.m[i]? = some a ∧ Post K cl xc E W (f i W.st) q := by
  cases x with
  | d x => exact h.elim
  | o i =>
    obtain ⟨a, h1, h2⟩ := r
    exact ⟨i, a, rfl, h1, h2, h⟩
theorem tE_meth {c f n : Nat} {m : Str} (hn : npOf T f = some n) (o : Env → M Vl) (g : Env → M (List Vl)) {σ : L2.St} {H : Hp} {Q : VK}
    (q : tE X.K cl xc E (fun env => do
      let v ← o env
      let i ← getOb v
      match ← getO i with
      | .ins c' fs =>
        if c' = c ∧ (fs.lookup m).isSome = false then
          let vs ← g env
          Phi T k f (v :: vs)
        else M.no
      | _ => M.no) σ H Q) : tMeth (cl c) m (spF X.K cl xc n (Phi T k f)) [] E (tE X.K cl xc E o) (tA X.K cl xc E g) σ H Q := by
  obtain ⟨env, W, rfl, he, w, p⟩ := q
  refine ⟨env, W, rfl, he, w, (Post.bind p).imp fun x W1 e1 w1 p1 v1 r1 => ?_⟩
  obtain ⟨i, a, rfl, rfl, hm, p2⟩ := getOb_ok r1 p1
  obtain ⟨ob, a', ho, hm', hr, p3⟩ := Post.getO w1 p2
  rw [hm] at hm'
  cases hm'
  cases ob with
  | ins c' fs =>
    dsimp only at p3
    by_cases hc : c' = c ∧ (fs.lookup m).isSome = false
    · rw [if_pos hc] at p3
      obtain ⟨hc, hl⟩ := hc
      subst hc
      obtain ⟨dx, gs, h1, h2⟩ := hr
      refine ⟨a, dx, gs, rfl, h1, ?_, env, W1, rfl, he.mono e1, w1, (Post.bind p3).imp fun xs W2 e2 w2 p4 vs rs => ?_⟩
      · rcases FsR.lookup m h2 with ⟨_, z⟩ | ⟨x, v, z, _, _⟩
        · exact z
        · rw [z] at hl; cases hl
      · exact spF_of w2 (.cons (r1.mono e2) rs.nilr) (Phi_len hn (Post.ne p4)) p4
    · rw [if_neg hc] at p3
      exact p3.elim
  | _ => exact p3.elim
theorem tE_make {c f n : Nat} (hn : npOf T f = some n) (g : Env → M (List Vl)) {σ : L2.St} {H : Hp} {Q : VK}
    (q : tE X.K cl xc E (fun env => do
      let vs ← g env
      let i ← newO (.ins c [])
      match ← Phi T k f (.o i :: vs) with
      | .d .none => pure (.o i)
      | _ => M.no) σ H Q) : tMake (cl c) (spF X.K cl xc n (Phi T k f)) [] E (tA X.K cl xc E g) σ H Q := by
  obtain ⟨env, W, rfl, he, w, p⟩ := q
  refine ⟨env, W, rfl, he, w, (Post.bind p).imp fun xs W1 e1 w1 p1 vs rs a dx ha hdx hne => ?_⟩
  have hk : ∀ b u, W1.H b = some u → upd (upd W1.H dx (.own a)) a (.ins (cl c) dx []) b = some u := fun b u e => by
    rw [upd_ne (ne_of_none e ha), upd_ne (ne_of_none e hdx)]; exact e
  have w' : Wf X.K cl ⟨upd (upd W1.H dx (.own a)) a (.ins (cl c) dx []), W1.F, W1.m ++ [a], W1.st ++ [.ins c []]⟩ := w1.newO ha hk ⟨dx, [], upd_same, .nil⟩
  have ex : Ex W1 ⟨upd (upd W1.H dx (.own a)) a (.ins (cl c) dx []), W1.F, W1.m ++ [a], W1.st ++ [.ins c []]⟩ := Ex.newO w1 ha hk
  have hma : (W1.m ++ [a])[W1.st.length]? = some a := by
    rw [← w1.len, List.getElem?_append_right (Nat.le_refl _)]
    simp
  have p2 := Post.from ex (Post.bind p1)
  have p3 : Post X.K cl xc E ⟨upd (upd W1.H dx (.own a)) a (.ins (cl c) dx []), W1.F, W1.m ++ [a], W1.st ++ [.ins c []]⟩ (((Phi T k f (.o W1.st.length :: xs)) >>= fun z => match z with
      | .d .none => (pure (.o W1.st.length) : M Vl)
      | _ => M.no) (W1.st ++ [.ins c []])) (QE X.K Q) := p2 _ _ (Ex.refl _) w'
  have p4 := Post.bind p3
  refine spF_of (W := ⟨upd (upd W1.H dx (.own a)) a (.ins (cl c) dx []), W1.F, W1.m ++ [a], W1.st ++ [.ins c []]⟩) w' (.cons (b := .o W1.st.length) (show RpV X.K _ (.ref a) (.o W1.st.length) from ⟨a, rfl, hma⟩) (rs.nilr.mono ex)) (Phi_len hn (Post.ne p4)) (p4.imp fun z W2 e2 w2 p5 v rv => ?_)
  cases z with
  | o j => exact p5.elim
  | d z =>
    cases z with
    | none =>
      cases rv
      refine ⟨rfl, Post.pure w2 p5 (.ref a) ⟨a, rfl, ?_⟩⟩
      obtain ⟨t, ht⟩ := e2.m
      rw [← ht, List.getElem?_append_left (List.getElem?_eq_some_iff.mp hma).1]
      exact hma
    | _ => exact p5.elim
theorem tE_attr {c : Nat} {f : Str} (hc : Cls X.K (cl c)) (hf : NoAttr X.K (cl c) f) (o : Env → M Vl) {σ : L2.St} {H : Hp} {Q : VK}
    (q : tE X.K cl xc E (fun env => do
      let i ← getOb (← o env)
      match ← getO i with
      | .ins c' fs => okS (decide (c' = c)) () >>= fun _ => match fs.lookup f with
        | some v => pure v
        | none => M.no
      | _ => M.no) σ H Q) : tFld X.K (tE X.K cl xc E o) f σ H Q := by
  obtain ⟨env, W, rfl, he, w, p⟩ := q
  refine ⟨env, W, rfl, he, w, (Post.bind p).imp fun x W1 e1 w1 p1 v1 r1 => ?_⟩
  obtain ⟨i, a, rfl, rfl, hm, p2⟩ := getOb_ok r1 p1
  obtain ⟨ob, a', ho, hm', hr, p3⟩ := Post.getO w1 p2
  rw [hm] at hm'
  cases hm'
  cases ob with
  | ins c' fs =>
    obtain ⟨hc', p4⟩ := Post.okB p3
    have hc' := of_decide_eq_true hc'
    subst hc'
    obtain ⟨dx, gs, h1, h2⟩ := hr
    rcases FsR.lookup f h2 with ⟨z, _⟩ | ⟨x, v, z, z2, z3⟩
    · rw [z] at p4; exact p4.elim
    · rw [z] at p4
      exact ⟨a, cl c', dx, gs, v, rfl, h1, hc, hf, z2, Post.pure w1 p4 v z3⟩
  | _ => exact p3.elim
/-- a list object made a list that stays -/
theorem tE_frz (f : Env → M Vl) {σ : L2.St} {H : Hp} {Q : VK} (q : tE X.K cl xc E (fun env => do let v ← f env; frzV v) σ H Q) : tE X.K cl xc E f σ H Q := by
  obtain ⟨env, W, rfl, he, w, p⟩ := q
  refine ⟨env, W, rfl, he, w, (Post.bind p).imp fun x W1 e1 w1 p1 v1 r1 => ?_⟩
  cases x with
  | d x => exact p1.elim
  | o i =>
    obtain ⟨a, rfl, hm⟩ := r1
    obtain ⟨ob, a', ho, hm', hr, p3⟩ := Post.getO (f := fun ob => match ob with
      | .lst xs => do
        setO i .dead
        pure (liV xs)
      | _ => M.no) w1 p1
    rw [hm] at hm'
    cases hm'
    cases ob with
    | lst ds =>
      obtain ⟨xs, h1, h2⟩ := hr
      have hd : isDead (.lst ds) = false := rfl
      have ex : Ex W1 ⟨W1.H, W1.F, W1.m, W1.st.set i .dead⟩ := Ex.set hm ho hd fun b u _ h => h
      have w' : Wf X.K cl ⟨W1.H, W1.F, W1.m, W1.st.set i .dead⟩ := w1.set (ob' := .dead) hm ho hd (fun b u _ h => h) True.intro
      have hf : ¬ W1.F a := w1.nf i a _ hm ho hd
      have hout : Out ⟨W1.H, W1.F, W1.m, W1.st.set i .dead⟩ a := by
        refine ⟨?_, hf⟩
        rintro ⟨j, o, g1, g2, g3⟩
        by_cases hj : i = j
        · subst hj
          rw [show (W1.st.set i .dead)[i]? = some .dead from List.getElem?_set_self (List.getElem?_eq_some_iff.mp ho).1] at g2
          cases g2
          cases g3
        · have g2 : (W1.st.set i .dead)[j]? = some o := g2
          rw [List.getElem?_set_ne hj] at g2
          exact hj (w1.inj i j a _ _ hm g1 ho g2 hd g3)
      exact p3 W1.H W1.m ex w' (.ref a) (.lst ⟨h1, hout⟩ (RpA.mono ex ds xs h2))
    | _ => exact p3.elim
end
section
variable {K : PySem.W.Frag} {cl xc : Nat → Addr} {E : XK}
/-- an attribute of an instance set -/
theorem setAt_ok {c i : Nat} {f : Str} {x : Vl} {v : V} {a : Addr} {W : Wd} {α : Type} {g : Unit → M α} {q : α → Wd → Prop} (w : Wf K cl W) (r : RpV K W v x) (hm : W.m[i]? = some a) (h : Post K cl xc E W ((setAt c i f x >>= g) W.st) q) :
    ∃ dx gs fs, W.H a = some (.ins (cl c) dx gs) ∧ gs.length < 1000 ∧ W.st[i]? = some (.ins c fs) ∧ Ex W ⟨upd W.H a (.ins (cl c) dx (L2.putF f v gs)), W.F, W.m, W.st.set i (.ins c (setAt.putF f x fs))⟩ ∧
      Wf K cl ⟨upd W.H a (.ins (cl c) dx (L2.putF f v gs)), W.F, W.m, W.st.set i (.ins c (setAt.putF f x fs))⟩ ∧ Post K cl xc E W (g () (W.st.set i (.ins c (setAt.putF f x fs)))) q := by
  unfold setAt at h
  rw [M.bind_assoc] at h
  obtain ⟨ob, a', ho, hm', hr, p3⟩ := Post.getO w h
  rw [hm] at hm'
  cases hm'
  cases ob with
  | ins c' fs =>
    rw [M.bind_assoc] at p3
    obtain ⟨hc, p4⟩ := Post.okB p3
    rw [Bool.and_eq_true] at hc
    have h1 := of_decide_eq_true hc.1
    have h2 := of_decide_eq_true hc.2
    subst h1
    obtain ⟨dx, gs, k1, k2⟩ := hr
    have hd : isDead (.ins c' fs) = false := rfl
    have hk : ∀ b u, b ≠ a → W.H b = some u → upd W.H a (.ins (cl c') dx (L2.putF f v gs)) b = some u := fun b u hb h => by rw [upd_ne hb]; exact h
    have ex : Ex W ⟨upd W.H a (.ins (cl c') dx (L2.putF f v gs)), W.F, W.m, W.st.set i (.ins c' (setAt.putF f x fs))⟩ := Ex.set hm ho hd hk
    refine ⟨dx, gs, fs, k1, by rw [← k2.len]; exact h2, ho, ex, w.set (ob' := .ins c' (setAt.putF f x fs)) hm ho hd hk ⟨dx, _, upd_same, FsR.mono ex (FsR.put f r k2)⟩, p4⟩
  | _ => exact p3.elim
end
end Dw

namespace Dw
open PySem L2
section
variable {X : Cx} {cl xc : Nat → Addr} {E : XK}
def MtRd (K : PySem.W.Frag) : Mt → V → List V → Hp → VK → Prop
  | .append => rAppend
  | .extend => rExtend
  | .pop => rPop
  | .index => rIndexD K
  | _ => fun _ _ _ _ => False
theorem setLst_ok {K : PySem.W.Frag} {W : Wd} {v : V} {x : Vl} {f : List D → M (Vl × List D)} {q : Vl → Wd → Prop} (w : Wf K cl W) (r : RpV K W v x) (h : Post K cl xc E W (setLst x f W.st) q) :
    ∃ i a ds xs, x = .o i ∧ v = .ref a ∧ W.m[i]? = some a ∧ W.st[i]? = some (.lst ds) ∧ W.H a = some (.lst xs) ∧ RpA K W xs ds ∧ Post K cl xc E W ((f ds >>= fun p => do setO i (.lst p.2); pure p.1) W.st) q := by
  cases x with
  | d x => exact h.elim
  | o i =>
    obtain ⟨a, rfl, hm⟩ := r
    obtain ⟨ob, a', ho, hm', hr, p3⟩ := Post.getO (f := fun ob => match ob with
      | .lst xs => do
        let (v, ys) ← f xs
        setO i (.lst ys)
        pure v
      | _ => M.no) w h
    rw [hm] at hm'
    cases hm'
    cases ob with
    | lst ds =>
      obtain ⟨xs, h1, h2⟩ := hr
      exact ⟨i, a, ds, xs, rfl, rfl, hm, ho, h1, h2, p3⟩
    | _ => exact p3.elim
/-- a list object changed -/
theorem chg_lst {K : PySem.W.Frag} {W : Wd} {i : Nat} {a : Addr} {ds es : List D} {xs ys : List V} (w : Wf K cl W) (hm : W.m[i]? = some a) (ho : W.st[i]? = some (.lst ds)) (h1 : W.H a = some (.lst xs)) (r : RpA K W ys es) :
    Ex W ⟨upd W.H a (.lst ys), W.F, W.m, W.st.set i (.lst es)⟩ ∧ Wf K cl ⟨upd W.H a (.lst ys), W.F, W.m, W.st.set i (.lst es)⟩ := by
  have hd : isDead (.lst ds) = false := rfl
  have hk : ∀ b u, b ≠ a → W.H b = some u → upd W.H a (.lst ys) b = some u := fun b u hb h => by rw [upd_ne hb]; exact h
  have ex : Ex W ⟨upd W.H a (.lst ys), W.F, W.m, W.st.set i (.lst es)⟩ := Ex.set hm ho hd hk
  exact ⟨ex, w.set (ob' := .lst es) hm ho hd hk ⟨ys, upd_same, RpA.mono ex es ys r⟩⟩
theorem firstAt_some : ∀ {x : D} {ds : List D} {b n : Nat}, firstAt x ds b = some n → ∃ j z, n = b + j ∧ ds[j]? = some z ∧ PyData.eqv z x = true ∧ ∀ (m : Nat) (z' : D), m < j → ds[m]? = some z' → PyData.eqv z' x = false
  | x, [], b, n, h => by cases h
  | x, y :: r, b, n, h => by
    unfold firstAt at h
    by_cases q : PyData.eqv y x = true
    · rw [if_pos q] at h
      cases h
      exact ⟨0, y, rfl, rfl, q, fun m z' hm => absurd hm (Nat.not_lt_zero _)⟩
    · rw [if_neg q] at h
      obtain ⟨j, z, h1, h2, h3, h4⟩ := firstAt_some h
      refine ⟨j + 1, z, by omega, h2, h3, fun m z' hm hz => ?_⟩
      cases m with
      | zero => cases hz; simpa using q
      | succ m => exact h4 m z' (by omega) hz
theorem mt_ok (m : Mt) {W : Wd} {x : Vl} {xs : List Vl} {v : V} {vs : List V} {Q : VK} (w : Wf X.K cl W) (rx : RpV X.K W v x) (rs : RpVs X.K W vs xs) (h : Post X.K cl xc E W (mt m x xs W.st) (QE X.K Q)) : MtRd X.K m v vs W.H Q := by
  match m, xs, h with
  | .append, [y], h =>
    obtain ⟨u, rfl, ru⟩ := one_of rs
    obtain ⟨d, rfl, hd, h⟩ := Post.asD ru h
    obtain ⟨i, a, ds, zs, rfl, rfl, hm, ho, h1, h2, h3⟩ := setLst_ok w rx h
    cases hz : decide (ds.length < szLine) with
    | false => rw [hz] at h3; exact h3.elim
    | true =>
      rw [hz] at h3
      have hz := of_decide_eq_true hz
      obtain ⟨ex, w'⟩ := chg_lst w hm ho h1 (h2.append (.cons hd .nil))
      exact ⟨a, zs, u, rfl, rfl, h1, by rw [h2.len, ← szE]; exact hz, h3 _ _ ex w' .non .non⟩
  | .extend, [y], h =>
    obtain ⟨u, rfl, ru⟩ := one_of rs
    obtain ⟨b, ys, es, rfl, hb, rb, h, _⟩ := Post.lItems w ru h
    obtain ⟨i, a, ds, zs, rfl, rfl, hm, ho, h1, h2, h3⟩ := setLst_ok w rx h
    cases hz : decide (ds.length + es.length ≤ szLine) with
    | false => rw [hz] at h3; exact h3.elim
    | true =>
      rw [hz] at h3
      have hz := of_decide_eq_true hz
      obtain ⟨ex, w'⟩ := chg_lst w hm ho h1 (h2.append rb)
      exact ⟨a, b, zs, ys, rfl, rfl, h1, hb, by rw [h2.len, rb.len, ← szE]; exact hz, h3 _ _ ex w' .non .non⟩
  | .pop, [], h =>
    cases rs
    obtain ⟨i, a, ds, zs, rfl, rfl, hm, ho, h1, h2, h3⟩ := setLst_ok w rx h
    cases e : ds[ds.length - 1]? with
    | none => rw [e] at h3; exact h3.elim
    | some d =>
      rw [e] at h3
      obtain ⟨u, g1, g2⟩ := h2.get e
      obtain ⟨ex, w'⟩ := chg_lst w hm ho h1 h2.dropLast
      exact ⟨a, zs, u, rfl, rfl, h1, by rw [h2.len]; exact g1, h3 _ _ ex w' u (Rp.mono ex d u g2)⟩
  | .index, [y], h =>
    obtain ⟨u, rfl, ru⟩ := one_of rs
    obtain ⟨d, rfl, hd, h⟩ := Post.asD ru h
    obtain ⟨b, ys, es, rfl, hb, rb, h, _⟩ := Post.lItems w rx h
    obtain ⟨hs, h⟩ := Post.okB h
    rw [Bool.and_eq_true] at hs
    cases e : firstAt d es 0 with
    | none => rw [e] at h; exact h.elim
    | some n =>
      rw [e] at h
      obtain ⟨j, z, h1, h2, h3, h4⟩ := firstAt_some e
      refine ⟨b, u, d, es, j, z, rfl, rfl, .lst (.inl (.inl hb)) (RpA.dp es ys rb), Rp.dp d u hd, hs.2, hs.1, h2, h3, h4, ?_⟩
      rw [show (V.int (j : Nat)) = V.int ((n : Nat) : Int) by rw [h1]; simp]
      exact Post.val w h (.int _)
  | .append, [], h => exact h.elim
  | .append, _ :: _ :: _, h => exact h.elim
  | .extend, [], h => exact h.elim
  | .extend, _ :: _ :: _, h => exact h.elim
  | .pop, _ :: _, h => exact h.elim
  | .index, [], h => exact h.elim
  | .index, _ :: _ :: _, h => exact h.elim
  | .remove, _, h => exact h.elim
  | .count, _, h => exact h.elim
  | .join, _, h => exact h.elim
  | .split, _, h => exact h.elim
  | .upper, _, h => exact h.elim
  | .get, _, h => exact h.elim
theorem mtTy_ok {α : Type} {W : Wd} {x : Vl} {v : V} {f : Unit → M α} {q : α → Wd → Prop} (w : Wf X.K cl W) (r : RpV X.K W v x) (h : Post X.K cl xc E W ((mtTy x >>= f) W.st) q) : tyV X.K "list" v W.H ∧ Post X.K cl xc E W (f () W.st) q := by
  cases x with
  | d x =>
    cases x with
    | list ds =>
      cases r with
      | lst h1 h2 => exact ⟨.inl ⟨rfl, _, h1.sq⟩, h⟩
    | _ => exact h.elim
  | o i =>
    obtain ⟨a, rfl, hm⟩ := r
    unfold mtTy at h
    rw [M.bind_assoc] at h
    obtain ⟨ob, a', ho, hm', hr, p3⟩ := Post.getO w h
    rw [hm] at hm'
    cases hm'
    cases ob with
    | lst ds =>
      obtain ⟨xs, h1, h2⟩ := hr
      exact ⟨.inl ⟨rfl, xs, .inl (.inl h1)⟩, p3⟩
    | _ => exact p3.elim
theorem tE_mt (m : Mt) (o : Env → M Vl) (g : Env → M (List Vl)) {σ : L2.St} {H : Hp} {Q : VK} (q : tE X.K cl xc E (fun env => do
      let v ← o env
      mtTy v
      let vs ← g env
      mt m v vs) σ H Q) : tBM X.K "list" (MtRd X.K m) (tE X.K cl xc E o) (tA X.K cl xc E g) σ H Q := by
  obtain ⟨env, W, rfl, he, w, p⟩ := q
  refine ⟨env, W, rfl, he, w, (Post.bind p).imp fun x W1 e1 w1 p1 v1 r1 => ?_⟩
  obtain ⟨ty, p1⟩ := mtTy_ok w1 r1 p1
  refine ⟨ty, env, W1, rfl, he.mono e1, w1, (Post.bind p1).imp fun xs W2 e2 w2 p2 vs rs => ?_⟩
  exact mt_ok m w2 (r1.mono e2) rs p2
theorem tE_mt0 (m : Mt) (o : Env → M Vl) {σ : L2.St} {H : Hp} {Q : VK} (q : tE X.K cl xc E (fun env => do
      let v ← o env
      mtTy v
      let vs ← (pure [] : M (List Vl))
      mt m v vs) σ H Q) : tBM0 X.K "list" (MtRd X.K m) (tE X.K cl xc E o) σ H Q := by
  obtain ⟨env, W, rfl, he, w, p⟩ := q
  refine ⟨env, W, rfl, he, w, (Post.bind p).imp fun x W1 e1 w1 p1 v1 r1 => ?_⟩
  obtain ⟨ty, p1⟩ := mtTy_ok w1 r1 p1
  exact ⟨ty, mt_ok m w1 r1 .nil p1⟩
/-! ### isinstance -/
def tyVal : Str → Option String := fun t => if t = ("int" : Str) then some "int" else if t = ("bool" : Str) then some "bool" else if t = ("str" : Str) then some "str" else if t = ("tuple" : Str) then some "tuple" else if t = ("list" : Str) then some "list" else none
theorem tyx_of {K : PySem.W.Frag} {W : Wd} {v : V} {x : D} (r : Rp K W v x) : ∃ t, TyX K W.H v (.type t) ∧ ∀ ty n, tyVal ty = some n → PySem.W.kitOne K (.type t) (.type n) = some (tyIs x ty) := by
  have key : ∀ (x : D) (t : String), (∀ ty n, tyVal ty = some n → kitB t n = some (tyIs x ty)) → ∀ ty n, tyVal ty = some n → PySem.W.kitOne K (.type t) (.type n) = some (tyIs x ty) := fun x t h ty n e => kit_ty (h ty n e)
  have all : ∀ (x : D) (t : String), (kitB t "int" = some (tyIs x "int")) → (kitB t "bool" = some (tyIs x "bool")) → (kitB t "str" = some (tyIs x "str")) → (kitB t "tuple" = some (tyIs x "tuple")) → (kitB t "list" = some (tyIs x "list")) →
      ∀ ty n, tyVal ty = some n → kitB t n = some (tyIs x ty) := fun x t a b c d e ty n h => by
    unfold tyVal at h
    split at h
    · rename_i q; cases h; rw [q]; exact a
    · split at h
      · rename_i q; cases h; rw [q]; exact b
      · split at h
        · rename_i q; cases h; rw [q]; exact c
        · split at h
          · rename_i q; cases h; rw [q]; exact d
          · split at h
            · rename_i q; cases h; rw [q]; exact e
            · cases h
  have of : ∀ (x x0 : D) (t : String), (∀ ty, tyIs x ty = tyIs x0 ty) → (∀ ty n, tyVal ty = some n → kitB t n = some (tyIs x0 ty)) → ∀ ty n, tyVal ty = some n → PySem.W.kitOne K (.type t) (.type n) = some (tyIs x ty) :=
    fun x x0 t e h => key x t fun ty n q => by rw [e]; exact h ty n q
  cases r with
  | non => exact ⟨"NoneType", .base .non, of _ .none _ (fun _ => rfl) (all _ _ (by decide +kernel) (by decide +kernel) (by decide +kernel) (by decide +kernel) (by decide +kernel))⟩
  | bl b => exact ⟨"bool", .base (.bl b), of _ (.bool true) _ (fun _ => rfl) (all _ _ (by decide +kernel) (by decide +kernel) (by decide +kernel) (by decide +kernel) (by decide +kernel))⟩
  | int i => exact ⟨"int", .base (.int i), of _ (.int 0) _ (fun _ => rfl) (all _ _ (by decide +kernel) (by decide +kernel) (by decide +kernel) (by decide +kernel) (by decide +kernel))⟩
  | str z => exact ⟨"str", .base (.str z), of _ (.str "") _ (fun _ => rfl) (all _ _ (by decide +kernel) (by decide +kernel) (by decide +kernel) (by decide +kernel) (by decide +kernel))⟩
  | @tup a xs ds h1 h2 =>
    refine ⟨"tuple", ?_, of _ (.tuple []) _ (fun _ => rfl) (all _ _ (by decide +kernel) (by decide +kernel) (by decide +kernel) (by decide +kernel) (by decide +kernel))⟩
    rcases h1 with h1 | ⟨o, its, n, e, c, _⟩
    · exact .base (.tup h1.1)
    · exact .kTuple e c
  | @lst a xs ds h1 h2 => exact ⟨"list", .base (.lst h1.1), of _ (.list []) _ (fun _ => rfl) (all _ _ (by decide +kernel) (by decide +kernel) (by decide +kernel) (by decide +kernel) (by decide +kernel))⟩
theorem tE_isi {ty : Str} {n : String} (hty : tyVal ty = some n) (f : Env → M Vl) {σ : L2.St} {H : Hp} {Q : VK} (q : tE X.K cl xc E (fun env => do
      match ← f env with
      | .d x => pure (blV (tyIs x ty))
      | .o _ => M.no) σ H Q) : tCB (rIsi X.K) (tCons (tE X.K cl xc E f) (tCons (tC (.ty n)) tNil)) σ H Q := by
  obtain ⟨env, W, rfl, he, w, p⟩ := q
  refine ⟨env, W, rfl, he, w, (Post.bind p).imp fun x W1 e1 w1 p1 v1 r1 => ?_⟩
  cases x with
  | o i => exact p1.elim
  | d x =>
    obtain ⟨t, h1, h2⟩ := tyx_of r1
    exact ⟨v1, .ty n, .type t, .type n, tyIs x ty, rfl, .ty n, h1, h2 ty n hty, Post.val w1 p1 (.bl _)⟩
end
end Dw

namespace Dw
open PySem L2 PyProof.Rows
section
variable {X : Cx} {cl xc : Nat → Addr} {E : XK}
theorem ok_addM : Ok2 X.K cl xc E addMV rCat := by
  intro W x y vx vy Q w rx ry h
  unfold addMV at h
  obtain ⟨a, xs, ds, rfl, ha, ra, h, _⟩ := Post.lItems w rx h
  obtain ⟨b, ys, es, rfl, hb, rb, h, _⟩ := Post.lItems w ry h
  obtain ⟨hz, h⟩ := Post.okB h
  have hz := of_decide_eq_true hz
  exact ⟨a, b, xs, ys, rfl, rfl, ha, hb, by rw [ra.len, rb.len, ← szE]; exact hz, fun p hp => newL_ok (mu := true) w (ra.append rb) h hp⟩
/-! ### slices with a step -/
def rStp (K : PySem.W.Frag) (lo : Option Int) (st : Int) : V → Hp → VK → Prop := fun x H Q => ∃ a xs, x = .ref a ∧ SqL K H a xs ∧ st ≠ 0 ∧ ∀ p, H p = none → Q (.ref p) (upd H p (.lst (stpD xs lo st)))
def tStp (r : V → Hp → VK → Prop) (te : TE) : TE := fun σ H Q => te σ H fun x H1 => r x H1 Q
theorem vals_pick {vs : List V} {us : List Value} (r : Vals vs us) (is : List Nat) : Vals (is.filterMap (vs[·]?)) (is.filterMap (us[·]?)) := by
  induction is with
  | nil => exact .nil
  | cons i is ih =>
    have hl := r.length
    cases e : vs[i]? with
    | none =>
      have e2 : us[i]? = none := by rw [List.getElem?_eq_none_iff] at e ⊢; omega
      rw [List.filterMap_cons, List.filterMap_cons, e, e2]
      exact ih
    | some v =>
      obtain ⟨u, h1, h2⟩ := r.get e
      rw [List.filterMap_cons, List.filterMap_cons, e, h1]
      exact .cons h2 ih
theorem RpA.pick {K : PySem.W.Frag} {W : Wd} {vs : List V} {ds : List D} (r : RpA K W vs ds) (is : List Nat) : RpA K W (is.filterMap (vs[·]?)) (is.filterMap (ds[·]?)) := by
  induction is with
  | nil => exact .nil
  | cons i is ih =>
    have hl := r.len
    cases e : ds[i]? with
    | none =>
      have e2 : vs[i]? = none := by rw [List.getElem?_eq_none_iff] at e ⊢; omega
      rw [List.filterMap_cons, List.filterMap_cons, e, e2]
      exact ih
    | some v =>
      obtain ⟨u, h1, h2⟩ := r.get e
      rw [List.filterMap_cons, List.filterMap_cons, e, h1]
      exact .cons h2 ih
theorem pe_stp {e z : Expr} {l : Option Expr} {lo : Option Int} {st : Int} {te : TE} {tl ts : TO} {p3 pos : Pos} (he : PE X e te) (hl : PO X l tl) (hs : PO X (some z) ts) (gl : ∀ σ H Q, Q lo H → tl σ H Q) (gs : ∀ σ H Q, Q (some st) H → ts σ H Q) :
    PE X (.Subscript e (.Slice l none (some z) p3) pos) (tStp (rStp X.K lo st) te) := by
  refine ⟨fun pins s σ H Q I h => ?_⟩
  refine Subscript_ (thn (he.run pins s σ H _ I h) fun v s1 ⟨x, H1, I1, r1, q1⟩ => ?_)
  obtain ⟨a, xs, ex, hx, h0, q⟩ := q1
  subst ex
  cases r1
  refine wpAny_Slice (thn (hl.run pins s1 σ H1 (fun o H2 => o = lo ∧ H2 = H1) I1 (gl _ _ _ ⟨rfl, rfl⟩)) fun vl s2 ⟨l', H2, I2, pl, el, e2⟩ => ?_)
  subst el e2
  refine thn (po_none.run pins s2 σ H2 (fun o H3 => o = none ∧ H3 = H2) I2 ⟨rfl, rfl⟩) fun vu s3 ⟨u, H3, I3, pu, eu, e3⟩ => ?_
  subst eu e3
  refine thn (hs.run pins s3 σ H3 (fun o H4 => o = some st ∧ H4 = H3) I3 (gs _ _ _ ⟨rfl, rfl⟩)) fun vs s4 ⟨o, H4, I4, ps, eo, e4⟩ => ?_
  subst eo e4
  have I5 : Inv X pins σ H4 { s4 with heap := s4.heap.push { cls := .type "slice", data := .fields #[vl, vu, vs] } } := I4.kept (t' := s4.toks) fun b ob q => Heap.get?_push_of_some _ q
  obtain ⟨its, r, ht, hz⟩ := I5.list hx
  have hlen := r.length
  show wpAny (model X.prog X.w) X.A (subscriptTail e (.Slice l none (some z) p3) (.ref a) (.ref s4.heap.objs.size)) (EP X pins σ Q) X.xe { s4 with heap := s4.heap.push { cls := .type "slice", data := .fields #[vl, vu, vs] } }
  refine tail_any (ops := [.ref a, .ref s4.heap.objs.size]) ht.isList.typeIs (PySem.slot_list_getitem.lookup) ?_ (by with_unfolding_all rfl)
  refine wpAny_getItem_list_slice ht.isList (Heap.IsSliceOf.new _ vl vu vs) pl pu ps (fun z => h0 (Option.some.inj z)) ?_ (by rw [List.size_toArray]; omega)
  have hpk : slicePick its.toArray l' none (some st) = (stpD its l' st).toArray := by
    unfold slicePick stpD
    simp
  have hsz := slicePick_size_le its.toArray l' none (some st)
  rw [hpk] at hsz ⊢
  have rv : Vals (stpD xs l' st) (stpD its l' st) := by
    unfold stpD
    rw [hlen]
    exact vals_pick r _
  refine ⟨.ref _, _, I5.laid (t' := s4.toks) (o := .lst (stpD xs l' st)) (fun b ob q => Heap.get?_push_of_some _ q) (Nat.le_refl _) ?_, rfl, q _ (I5.hok.fresh (Nat.le_refl _))⟩
  refine ⟨?_, _, 0, rv, Heap.get?_push_size _ rfl⟩
  have := rv.length
  simp only [List.size_toArray] at hsz
  omega
theorem tE_stp {lo : Option Int} {st : Int} (f : Env → M Vl) {σ : L2.St} {H : Hp} {Q : VK} (q : tE X.K cl xc E (fun env => do let x ← f env; stpV x lo st) σ H Q) : tStp (rStp X.K lo st) (tE X.K cl xc E f) σ H Q := by
  obtain ⟨env, W, rfl, he, w, p⟩ := q
  refine ⟨env, W, rfl, he, w, (Post.bind p).imp fun x W1 e1 w1 p1 v1 r1 => ?_⟩
  unfold stpV at p1
  obtain ⟨a, xs, ds, rfl, ha, ra, h, _⟩ := Post.lItems w1 r1 p1
  obtain ⟨h0, h⟩ := Post.okP h
  refine ⟨a, xs, rfl, .inl (.inl ha), of_decide_eq_true h0, fun p hp => Post.newLst w1 h ?_ hp⟩
  unfold stpD
  rw [ra.len]
  exact ra.pick _
/-! ### attributes as targets -/
def gFld (K : PySem.W.Frag) (to : TE) (f : Str) : TG := fun v σ H Q => to σ H fun x H1 => ∃ a C dx fs, x = .ref a ∧ H1 a = some (.ins C dx fs) ∧ L2.Cls K C ∧ NoAttr K C f ∧ fs.length < 1000 ∧ Q σ (upd H1 a (.ins C dx (L2.putF f v fs)))
theorem pg_fld {o : Expr} {f : Str} {to : TE} {pos : Pos} (ho : PE X o to) : PG X (.Attribute o f pos) (gFld X.K to f) := by
  refine ⟨fun pins s σ H v u Q I r h => ?_⟩
  rw [assign_Attribute]
  refine wpAny_bind (wpAny_holding (thn (ho.run pins s σ H _ I h) fun ov s1 ⟨x, H1, I1, r1, q1⟩ => ?_))
  obtain ⟨a, C, dx, fs, rfl, ea, c, n, l, q⟩ := q1
  cases r1
  exact wpAny_bind (wpAny_standAt (wpAny_bind (wpAny_holding (setattr_ok I1 ea c n l r fun s2 I2 => wpAny_release ⟨σ, _, I2, q⟩))))
variable {N : List Str} {sc : Scope}
/-- a row of them -/
def tGf (K : PySem.W.Frag) (cl xc : Nat → Addr) (E : XK) (c i : Nat) (fs : List Str) : TGs := fun vs σ H Q => ∃ env W xs, W.H = H ∧ EnvR K W σ env ∧ Wf K cl W ∧ RpA K W vs xs ∧ Post K cl xc E W ((getV env i >>= getOb >>= fun j => setAts c j fs xs) W.st) fun _ W' => Q σ W'.H
theorem getV_ok {K : PySem.W.Frag} {W : Wd} {σ : L2.St} {env : Env} {i : Nat} {α : Type} {f : Vl → M α} {q : α → Wd → Prop} (he : EnvR K W σ env) (h : Post K cl xc E W ((getV env i >>= f) W.st) q) : ∃ x v, σ[i]? = some (some v) ∧ RpV K W v x ∧ Post K cl xc E W (f x W.st) q ∧ env[i]? = some (some x) := by
  unfold getV at h
  cases e : env[i]? with
  | none => rw [e] at h; exact h.elim
  | some o =>
    cases o with
    | none => rw [e] at h; exact h.elim
    | some x =>
      rw [e] at h
      obtain ⟨v, h1, h2⟩ := he.at_ i x e
      exact ⟨x, v, h1, h2, h, rfl⟩
theorem fld_len : ∀ {x : Str} {fs : List Str} {es : List Expr}, fldC x fs es = true → fs.length = es.length
  | _, [], [], _ => rfl
  | _, [], _ :: _, h => by cases h
  | _, _ :: _, [], h => by cases h
  | x, f :: fs, e :: es, h => by
    unfold fldC at h
    split at h
    · rename_i heq1 heq2; cases heq1
    · rename_i heq1 heq2
      cases heq1; cases heq2
      simp only [Bool.and_eq_true] at h
      simp [fld_len h.2]
    · cases h
theorem fld_star : ∀ {x : Str} {fs : List Str} {es : List Expr}, fldC x fs es = true → ∀ e ∈ es, noStarT e = true
  | _, [], [], _, e, he => by cases he
  | _, [], _ :: _, h, _, _ => by cases h
  | _, _ :: _, [], h, _, _ => by cases h
  | x, f :: fs, e0 :: es, h, e, he => by
    unfold fldC at h
    split at h
    · rename_i heq1 heq2; cases heq1
    · rename_i heq1 heq2
      cases heq1; cases heq2
      simp only [Bool.and_eq_true] at h
      rcases List.mem_cons.mp he with z | z
      · rw [z]; rfl
      · exact fld_star h.2 e z
    · cases h
theorem snd_flds {c i : Nat} {x : Str} (hN : X.N[i]? = some x) (hv : Vis X.env.scope x) (n1 : (x == ("__debug__" : Str)) = false) (n2 : (x == ("__classdict__" : Str)) = false) (hc : L2.Cls X.K (cl c)) : ∀ (fs : List Str) (es : List Expr), fldC x fs es = true → (∀ f ∈ fs, NoAttr X.K (cl c) f) →
    PGs X es (tGf X.K cl xc E c i fs)
  | [], [], _, _ => PGs.imp pgs_nil fun vs σ H Q q => by
    obtain ⟨env, W, xs, rfl, he, w, r, p⟩ := q
    rw [M.bind_assoc] at p
    obtain ⟨y, v, h1, h2, p, _⟩ := getV_ok he p
    obtain ⟨j, a, rfl, rfl, hm, p⟩ := getOb_ok h2 p
    cases xs with
    | nil => cases r; exact ⟨rfl, Post.pure w p⟩
    | cons _ _ => exact p.elim
  | [], _ :: _, h, _ => by cases h
  | _ :: _, [], h, _ => by cases h
  | f :: fs, e0 :: es, h, hf => by
    unfold fldC at h
    split at h
    · rename_i heq1 heq2; cases heq1
    · rename_i heq1 heq2
      cases heq1; cases heq2
      simp only [Bool.and_eq_true, beq_iff_eq] at h
      obtain ⟨⟨h1, h2⟩, h3⟩ := h
      subst h1 h2
      refine PGs.imp (pgs_cons (pg_fld (pe_var hN hv n1 n2)) (snd_flds hN hv n1 n2 hc fs _ h3 fun g hg => hf g (List.mem_cons_of_mem _ hg)) rfl) fun vs σ H Q q => ?_
      obtain ⟨env, W, xs, rfl, he, w, r, p⟩ := q
      rw [M.bind_assoc] at p
      obtain ⟨y, v, k1, k2, p, hen⟩ := getV_ok he p
      obtain ⟨j, a, rfl, rfl, hm, p⟩ := getOb_ok k2 p
      cases xs with
      | nil => exact p.elim
      | cons d ds =>
        cases r with
        | cons r1 r2 =>
          have p : Post X.K cl xc E W ((setAt c j f (.d d) >>= fun _ => setAts c j fs ds) W.st) _ := p
          obtain ⟨dx, gs, fs0, g1, g2, g3, g4, g5, g6⟩ := setAt_ok w (x := .d d) r1 hm p
          refine ⟨_, _, rfl, _, k1, a, cl c, dx, gs, rfl, g1, hc, hf _ List.mem_cons_self, g2, env, _, ds, rfl, he.mono g4, g5, RpA.mono g4 _ _ r2, ?_⟩
          have hq := Post.from g4 g6
          have e2 : getV env i = (Pure.pure (.o j) : M Vl) := by unfold getV; rw [hen]
          rw [e2]
          exact hq
    · cases h
theorem setAts_len {c j : Nat} : ∀ (fs : List Str) (xs : List D) (s : Sto), setAts c j fs xs s ≠ .no → xs.length = fs.length
  | [], [], _, _ => rfl
  | [], _ :: _, _, h => absurd rfl h
  | _ :: _, [], _, h => absurd rfl h
  | f :: fs, x :: xs, s, h => by
    unfold setAts at h
    rw [M.bind_run] at h
    cases e : setAt c j f (.d x) s with
    | no => rw [e] at h; exact absurd rfl h
    | ok u s' => rw [e] at h; simp [setAts_len fs xs s' h]
    | ex cc s' =>
      exfalso
      unfold setAt at e
      rw [M.bind_run] at e
      unfold getO at e
      cases q : s[j]? with
      | none => rw [q] at e; cases e
      | some ob =>
        rw [q] at e
        cases ob with
        | ins c' gs =>
          dsimp only at e
          have no : ∀ b : Bool, ((okS b () >>= fun _ => setO j (.ins c (setAt.putF f (.d x) gs))) s) ≠ .ex cc s' := by
            intro b z
            cases b <;> cases z
          exact no _ e
        | _ => cases e
theorem tS_unpkAt {c i : Nat} {fs : List Str} {n : Nat} (hn : fs.length = n) (e : Env → M Vl) {D : Ends} {σ : L2.St} {H : Hp} (q : tS X.K cl xc E (fun env => do
    match ← e env with
    | .d (.tuple xs) => do
      let j ← getOb (← getV env i)
      setAts c j fs xs
      pure (.nx, env)
    | _ => M.no) D σ H) : tAsg (tE X.K cl xc E e) (gTup X.K n (tGf X.K cl xc E c i fs)) D σ H := by
  obtain ⟨env, W, rfl, he, w, p⟩ := q
  refine ⟨env, W, rfl, he, w, (Post.bind p).imp fun x W1 e1 w1 p1 v r => ?_⟩
  cases x with
  | o j => exact p1.elim
  | d x =>
    cases x with
    | tuple xs =>
      cases r with
      | tup h1 h2 =>
        have p1 : Post X.K cl xc E W1 ((getV env i >>= fun y => getOb y >>= fun j => setAts c j fs xs >>= fun _ => (Pure.pure (.nx, env) : M (Fl × Env))) W1.st) (fun p W' => ∀ σ', EnvR X.K W' σ' p.2 → FlR X.K D σ' W' p.1) := p1
        have hl : xs.length = n := by
          obtain ⟨y, u, g1, g2, p2, _⟩ := getV_ok (he.mono e1) p1
          obtain ⟨j, a, rfl, rfl, hm, p2⟩ := getOb_ok g2 p2
          rw [← hn]
          exact setAts_len fs xs W1.st (fun z => by rw [M.bind_run, z] at p2; exact p2)
        refine ⟨_, _, rfl, h1.sq, by rw [h2.len]; exact hl, env, W1, xs, rfl, he.mono e1, w1, h2, ?_⟩
        have p3 : Post X.K cl xc E W1 (((getV env i >>= getOb >>= fun j => setAts c j fs xs) >>= fun _ => (Pure.pure (.nx, env) : M (Fl × Env))) W1.st) (fun p W' => ∀ σ', EnvR X.K W' σ' p.2 → FlR X.K D σ' W' p.1) := by
          simp only [M.bind_assoc] at p1 ⊢
          exact p1
        exact (Post.bind p3).imp fun _ W2 e2 w2 p4 => Post.pure w2 p4 σ ((he.mono e1).mono e2)
    | _ => exact p1.elim
end
end Dw

namespace Dw
open PySem L2
section
variable {K : PySem.W.Frag} {cl xc : Nat → Addr} {E : XK}
/-! ### a run of a loop, turn by turn -/
/-- r is what is left of a comprehension behind i turns -/
def RunC (f : Vl → M (Option D)) : Wk → Nat → Nat → List D → M (List D) → Prop
  | .its xs, m, i, acc, r => i ≤ xs.length ∧ m = xs.length - i ∧ r = compL f (xs.drop i) acc
  | .ob j, m, i, acc, r => r = compO f j m i acc
def RunF (f : Vl → Env → M (Fl × Env)) : Wk → Nat → Nat → Env → M (Fl × Env) → Prop
  | .its xs, m, i, env, r => i ≤ xs.length ∧ m = xs.length - i ∧ r = forL f (xs.drop i) env
  | .ob j, m, i, env, r => r = forO f j m i env
/-- the next thing that a loop comes to -/
inductive Nxt (K : PySem.W.Frag) (cl : Nat → Addr) (W1 : Wd) (J : L2.It) (i : Nat) : Option Vl → Prop
  | stop : J.stop i W1.H → Nxt K cl W1 J i none
  | item {y : Vl} : J.go i W1.H → (∀ x H', J.yld i W1.H x H' → ∃ W2, W2.H = H' ∧ W2.st = W1.st ∧ W2.m = W1.m ∧ Ex W1 W2 ∧ Wf K cl W2 ∧ RpV K W2 x y) → Nxt K cl W1 J i (some y)
theorem runC_step {α : Type} {f : Vl → M (Option D)} {g : List D → M α} {wk : Wk} {m i : Nat} {acc : List D} {r : M (List D)} {W W0 W1 : Wd} {J : L2.It} {q : α → Wd → Prop} (R : RunC f wk m i acc r) (jk : JOk K cl W0 J wk) (e : Ex2 W0 W1) (w : Wf K cl W1)
    (h : Post K cl xc E W ((r >>= g) W1.st) q) :
    (Nxt K cl W1 J i none ∧ Post K cl xc E W (g acc W1.st) q) ∨ ∃ y m', m' < m ∧ Nxt K cl W1 J i (some y) ∧ ∃ r1 r2 : List D → M (List D), (∀ acc', RunC f wk m' (i + 1) acc' (r1 acc')) ∧
      Post K cl xc E W (((f y >>= fun o => match o with
        | some z => okS (decide (acc.length < szLine)) () >>= fun _ => r1 (acc ++ [z])
        | none => r1 acc) >>= g) W1.st) q := by
  cases wk with
  | its xs =>
    obtain ⟨hi, hm, rfl⟩ := R
    obtain ⟨j1, j2⟩ := jk W1 e w i
    cases hx : xs[i]? with
    | none =>
      have hl : xs.length = i := Nat.le_antisymm (List.getElem?_eq_none_iff.mp hx) hi
      refine .inl ⟨.stop (j2 hl), ?_⟩
      rw [show xs.drop i = [] from by rw [← hl]; simp] at h
      exact h
    | some y =>
      obtain ⟨hlt, hy⟩ := List.getElem?_eq_some_iff.mp hx
      obtain ⟨g1, g2⟩ := j1 y hx
      refine .inr ⟨y, xs.length - (i + 1), by omega, .item g1 g2, fun acc' => compL f (xs.drop (i + 1)) acc', fun _ => M.no, fun acc' => ⟨hlt, rfl, rfl⟩, ?_⟩
      rw [List.drop_eq_getElem_cons hlt, hy] at h
      exact h
  | ob j =>
    cases (show r = compO f j m i acc from R)
    cases m with
    | zero => exact h.elim
    | succ n =>
      unfold compO at h
      rw [M.bind_assoc] at h
      obtain ⟨ob, a, ho, hm, hr, h⟩ := Post.getO' w h
      cases ob with
      | lst ds =>
        obtain ⟨j1, j2⟩ := jk W1 e w i ds ho
        dsimp only at h
        cases hx : ds[i]? with
        | none =>
          rw [hx] at h
          exact .inl ⟨.stop (j2 (List.getElem?_eq_none_iff.mp hx)), h⟩
        | some y =>
          rw [hx] at h
          obtain ⟨g1, g2⟩ := j1 y hx
          refine .inr ⟨.d y, n, Nat.lt_succ_self _, .item g1 fun x H' y' => ?_, fun acc' => compO f j n (i + 1) acc', fun _ => M.no, fun acc' => rfl, h⟩
          obtain ⟨rfl, z⟩ := g2 x H' y'
          exact ⟨W1, rfl, rfl, rfl, Ex.refl _, w, z⟩
      | _ => exact h.elim
theorem runF_step {α : Type} {f : Vl → Env → M (Fl × Env)} {g : Fl × Env → M α} {wk : Wk} {m i : Nat} {env : Env} {r : M (Fl × Env)} {W W0 W1 : Wd} {J : L2.It} {q : α → Wd → Prop} (R : RunF f wk m i env r) (jk : JOk K cl W0 J wk) (e : Ex2 W0 W1) (w : Wf K cl W1)
    (h : Post K cl xc E W ((r >>= g) W1.st) q) :
    (Nxt K cl W1 J i none ∧ Post K cl xc E W (g (.nx, env) W1.st) q) ∨ ∃ y m', m' < m ∧ Nxt K cl W1 J i (some y) ∧ ∃ r1 : Env → M (Fl × Env), (∀ env', RunF f wk m' (i + 1) env' (r1 env')) ∧
      Post K cl xc E W (((f y env >>= fun p => match p with
        | (.nx, env') => r1 env'
        | (.ct, env') => r1 env'
        | (.bk, env') => pure (.nx, env')
        | (.rt v, env') => pure (.rt v, env')) >>= g) W1.st) q := by
  cases wk with
  | its xs =>
    obtain ⟨hi, hm, rfl⟩ := R
    obtain ⟨j1, j2⟩ := jk W1 e w i
    cases hx : xs[i]? with
    | none =>
      have hl : xs.length = i := Nat.le_antisymm (List.getElem?_eq_none_iff.mp hx) hi
      refine .inl ⟨.stop (j2 hl), ?_⟩
      rw [show xs.drop i = [] from by rw [← hl]; simp] at h
      exact h
    | some y =>
      obtain ⟨hlt, hy⟩ := List.getElem?_eq_some_iff.mp hx
      obtain ⟨g1, g2⟩ := j1 y hx
      refine .inr ⟨y, xs.length - (i + 1), by omega, .item g1 g2, fun env' => forL f (xs.drop (i + 1)) env', fun env' => ⟨hlt, rfl, rfl⟩, ?_⟩
      rw [List.drop_eq_getElem_cons hlt, hy] at h
      exact h
  | ob j =>
    cases (show r = forO f j m i env from R)
    cases m with
    | zero => exact h.elim
    | succ n =>
      unfold forO at h
      rw [M.bind_assoc] at h
      obtain ⟨ob, a, ho, hm, hr, h⟩ := Post.getO' w h
      cases ob with
      | lst ds =>
        obtain ⟨j1, j2⟩ := jk W1 e w i ds ho
        dsimp only at h
        cases hx : ds[i]? with
        | none =>
          rw [hx] at h
          exact .inl ⟨.stop (j2 (List.getElem?_eq_none_iff.mp hx)), h⟩
        | some y =>
          rw [hx] at h
          obtain ⟨g1, g2⟩ := j1 y hx
          refine .inr ⟨.d y, n, Nat.lt_succ_self _, .item g1 fun x H' y' => ?_, fun env' => forO f j n (i + 1) env', fun env' => rfl, h⟩
          obtain ⟨rfl, z⟩ := g2 x H' y'
          exact ⟨W1, rfl, rfl, rfl, Ex.refl _, w, z⟩
      | _ => exact h.elim
end
end Dw

namespace Dw
open PySem L2
section
variable {K : PySem.W.Frag} {cl xc : Nat → Addr} {E : XK}
/-- what is told of one world holds in another -/
structure Mp (W W' : Wd) : Prop where
  out : ∀ a o, W.H a = some o → Out W a → W'.H a = some o ∧ Out W' a
  m : W.m <+: W'.m
mutual
theorem Rp.mp {W W' : Wd} (e : Mp W W') : ∀ (d : D) (v : V), Rp K W v d → Rp K W' v d
  | .none, _, h => by cases h; exact .non
  | .bool b, _, h => by cases h; exact .bl b
  | .int i, _, h => by cases h; exact .int i
  | .str x, _, h => by cases h; exact .str x
  | .list ds, _, h => by
    cases h with
    | lst h1 h2 => exact .lst (e.out _ _ h1.1 h1.2) (RpA.mp e ds _ h2)
  | .tuple ds, _, h => by
    cases h with
    | tup h1 h2 => exact .tup (h1.imp (fun z => e.out _ _ z.1 z.2) id) (RpA.mp e ds _ h2)
  | .dict _, _, h => by cases h
theorem RpA.mp {W W' : Wd} (e : Mp W W') : ∀ (ds : List D) (vs : List V), RpA K W vs ds → RpA K W' vs ds
  | [], _, h => by cases h; exact .nil
  | d :: ds, _, h => by
    cases h with
    | cons h1 h2 => exact .cons (Rp.mp e d _ h1) (RpA.mp e ds _ h2)
end
theorem RpV.mp {W W' : Wd} (e : Mp W W') {v : V} {x : Vl} (h : RpV K W v x) : RpV K W' v x := by
  cases x with
  | d x => exact Rp.mp e x v h
  | o i =>
    obtain ⟨a, h1, h2⟩ := h
    obtain ⟨t, ht⟩ := e.m
    exact ⟨a, h1, by rw [← ht, List.getElem?_append_left (List.getElem?_eq_some_iff.mp h2).1]; exact h2⟩
theorem EnvR.mp {W W' : Wd} {σ : L2.St} {env : Env} (h : EnvR K W σ env) (e : Mp W W') : EnvR K W' σ env :=
  ⟨h.len, fun i x q => let ⟨v, h1, h2⟩ := h.at_ i x q; ⟨v, h1, h2.mp e⟩⟩
theorem ObR.mp {W W' : Wd} {a : Addr} (e : Mp W W') (hs : ∀ b ys, ScrAt K W.H b ys → ScrAt K W'.H b ys) (ha : ∀ o, W.H a = some o → W'.H a = some o) : ∀ {ob : Ob}, ObR K cl W a ob → ObR K cl W' a ob
  | .dead, _ => True.intro
  | .lst ds, ⟨xs, h1, h2⟩ => ⟨xs, ha _ h1, RpA.mp e ds xs h2⟩
  | .scr ds, ⟨xs, h1, h2⟩ => ⟨xs, hs _ _ h1, RpA.mp e ds xs h2⟩
  | .ins c fs, ⟨dx, gs, h1, h2⟩ => ⟨dx, gs, ha _ h1, Paired.imp (fun _ _ q => ⟨q.1, q.2.mp e⟩) h2⟩
  | .dct kvs, ⟨gs, h1, h2⟩ => ⟨gs, ha _ h1, Paired.imp (fun _ _ q => ⟨q.1, q.2.mp e⟩) h2⟩
theorem ObR.mp' {W W' : Wd} {a : Addr} (e : Mp W W') (hs : ∀ b ys, ScrAt K W.H b ys → ScrAt K W'.H b ys) {ob : Ob} (h : ObR K cl W a ob) (ha : isDead ob = false → ∀ o, W.H a = some o → W'.H a = some o) : ObR K cl W' a ob := by
  cases hd : isDead ob with
  | false => exact h.mp e hs (ha hd)
  | true =>
    cases ob with
    | dead => trivial
    | scr ds => obtain ⟨xs, h1, h2⟩ := h; exact ⟨xs, hs _ _ h1, RpA.mp e ds xs h2⟩
    | _ => cases hd
theorem M.ok_bind {α β : Type} {m : M α} {f : α → M β} {s s' : Sto} {b : β} (h : (m >>= f) s = .ok b s') : ∃ a s1, m s = .ok a s1 ∧ f a s1 = .ok b s' := by
  rw [M.bind_run] at h
  cases e : m s with
  | ok a s1 => rw [e] at h; exact ⟨a, s1, rfl, h⟩
  | ex c s1 => rw [e] at h; cases h
  | no => rw [e] at h; cases h
theorem noEx_post {α β : Type} {m : M α} {k : α → M β} {s : Sto} {W : Wd} {q : β → Wd → Prop} (h : Post K cl xc E W ((noEx m >>= k) s) q) : ∃ a s', m s = .ok a s' ∧ Post K cl xc E W (k a s') q := by
  rw [M.bind_run] at h
  unfold noEx at h
  cases e : m s with
  | ok a s' => rw [e] at h; exact ⟨a, s', rfl, h⟩
  | ex c s' => rw [e] at h; exact h.elim
  | no => rw [e] at h; exact h.elim
theorem wipe_wipe {σ : L2.St} (own : List Nat) : L2.wipe (L2.wipe σ own) own = L2.wipe σ own := by
  have : ∀ (vs : List Nat), (∀ i ∈ vs, i ∈ own) → ∀ σ : L2.St, L2.wipe (L2.wipe σ vs) own = L2.wipe σ own := by
    intro vs
    induction vs with
    | nil => intro _ _; rfl
    | cons v vs ih =>
      intro h σ
      show L2.wipe ((L2.wipe σ vs).set v none) own = _
      rw [wipe_set (h v List.mem_cons_self), ih (fun i hi => h i (List.mem_cons_of_mem _ hi))]
  exact this own (fun _ h => h) σ
abbrev F0 : XK := fun _ _ _ => False
/-- the world of a block: the new list at D is foreign -/
abbrev wD (W : Wd) (D : Addr) (H : Hp) (m : List Addr) (st : Sto) : Wd := ⟨H, fun a => W.F a ∨ a = D, m, st⟩
theorem scr_keep {H H' : Hp} (hk : ∀ b o ys, H b = some (.frz o (.lst ys)) → H' b = some (.frz o (.lst ys))) : ∀ b ys, ScrAt K H b ys → ScrAt K H' b ys := fun b ys h => by
  rcases h with ⟨o, h⟩ | h
  · exact .inl ⟨o, hk b o ys h⟩
  · exact .inr h
theorem upd_keep {H : Hp} {D a : Addr} {o u : HO} (h : H a = some u) (hne : a ≠ D) : upd H D o a = some u := by rw [upd_ne hne]; exact h
theorem mp_start {W : Wd} {D : Addr} {o : HO} (hD : W.H D = none) : Mp W (wD W D (upd W.H D o) W.m W.st) :=
  ⟨fun a u h z => ⟨upd_keep h (ne_of_none h hD), z.1, fun q => q.elim z.2 fun q => by rw [q, hD] at h; cases h⟩, List.prefix_refl _⟩
theorem ex_start {W : Wd} {D : Addr} {o : HO} (hD : W.H D = none) : Ex2 W (wD W D (upd W.H D o) W.m W.st) :=
  ⟨fun a z => z.imp id fun z => by rw [z]; exact hD, List.prefix_refl _, fun a u h l => ⟨upd_keep h (ne_of_none h hD), l⟩⟩
theorem wf_start {W : Wd} {D : Addr} {o : HO} (w : Wf K cl W) (hD : W.H D = none) : Wf K cl (wD W D (upd W.H D o) W.m W.st) := by
  have up : ∀ a u, W.H a = some u → upd W.H D o a = some u := fun a u h => by rw [upd_ne (ne_of_none h hD)]; exact h
  refine ⟨w.len, w.inj, fun i a u h1 h2 h3 z => z.elim (w.nf i a u h1 h2 h3) fun z => ?_, fun i a u h1 h2 => ?_, fun a z => z.elim (fun z => let ⟨u, h⟩ := w.ft a z; ⟨u, up a u h⟩) fun z => by rw [z]; exact ⟨o, upd_same⟩⟩
  · obtain ⟨u, e⟩ := (w.ob i a u h1 h2).there h3
    rw [z, hD] at e; cases e
  · exact (w.ob i a u h1 h2).mp (mp_start hD) (scr_keep fun b o ys h => up b _ h) (up a)
variable {W : Wd} {D : Addr} {H : Hp} {m : List Addr} {st : Sto}
theorem notLive (w : Wf K cl (wD W D H m st)) : ¬ Live (wD W D H m st) D := fun ⟨i, o, h1, h2, h3⟩ => w.nf i D o h1 h2 h3 (.inr rfl)
theorem mp_poke {o' : HO} : Mp (wD W D H m st) (wD W D (upd H D o') m st) :=
  ⟨fun a u h z => ⟨upd_keep h (fun q => z.2 (.inr q)), z⟩, List.prefix_refl _⟩
theorem wf_poke {o' : HO} {xs : List V} (w : Wf K cl (wD W D H m st)) (hD : H D = some (.lst xs)) : Wf K cl (wD W D (upd H D o') m st) := by
  refine ⟨w.len, w.inj, w.nf, fun i a u h1 h2 => ?_, fun a z => ?_⟩
  · refine (w.ob i a u h1 h2).mp' mp_poke (scr_keep fun b o ys h => ?_) fun q => ?_
    · exact upd_keep h (fun z => by rw [z] at h; have h : H D = _ := h; rw [hD] at h; cases h)
    · intro o e
      exact upd_keep e (fun z => notLive w (by rw [← z]; exact ⟨i, u, h1, h2, q⟩))
  · by_cases q : a = D
    · rw [q]; exact ⟨o', upd_same⟩
    · obtain ⟨u, h⟩ := w.ft a z
      exact ⟨u, upd_keep h q⟩
theorem mp_unF : Mp (wD W D H m st) ⟨H, W.F, m, st⟩ := ⟨fun a u h z => ⟨h, z.1, fun q => z.2 (.inl q)⟩, List.prefix_refl _⟩
theorem wf_unF (w : Wf K cl (wD W D H m st)) : Wf K cl ⟨H, W.F, m, st⟩ :=
  ⟨w.len, w.inj, fun i a o h1 h2 h3 q => w.nf i a o h1 h2 h3 (.inl q), fun i a o h1 h2 => (w.ob i a o h1 h2).mp mp_unF (fun _ _ h => h) (fun _ h => h), fun a q => w.ft a (.inl q)⟩
theorem mp_thaw {ob : Ob} (hl : m.length = st.length) : Mp (wD W D H m st) ⟨H, W.F, m ++ [D], st ++ [ob]⟩ := by
  refine ⟨fun a u h z => ⟨h, fun q => ?_, fun q => z.2 (.inl q)⟩, List.prefix_append _ _⟩
  rcases live_more (W := ⟨H, W.F, m, st⟩) hl q with q | ⟨q, _⟩
  · exact z.1 q
  · exact z.2 (.inr q)
theorem wf_thaw {xs : List V} {ds : List Dw.D} (w : Wf K cl (wD W D H m st)) (hD : H D = some (.lst xs)) (r : RpA K (wD W D H m st) xs ds) (hn : ¬ W.F D) : Wf K cl ⟨H, W.F, m ++ [D], st ++ [.lst ds]⟩ := by
  have hl : m.length = st.length := w.len
  have mp : Mp (wD W D H m st) ⟨H, W.F, m ++ [D], st ++ [.lst ds]⟩ := mp_thaw hl
  have sp : ∀ {i : Nat} {b : Addr} {o : Ob}, (m ++ [D])[i]? = some b → (st ++ [Ob.lst ds])[i]? = some o → (m[i]? = some b ∧ st[i]? = some o) ∨ (i = st.length ∧ b = D ∧ o = .lst ds) := by
    intro i b o h1 h2
    by_cases hi : i < st.length
    · rw [List.getElem?_append_left (by rw [hl]; exact hi)] at h1
      rw [List.getElem?_append_left hi] at h2
      exact .inl ⟨h1, h2⟩
    · rw [List.getElem?_append_right (by omega)] at h1 h2
      cases e : i - st.length with
      | zero =>
        rw [e] at h2
        rw [hl, e] at h1
        simp at h1 h2
        exact .inr ⟨by omega, h1.symm, h2.symm⟩
      | succ n =>
        rw [e] at h2
        simp at h2
  have nd : ∀ {i : Nat} {o : Ob}, m[i]? = some D → st[i]? = some o → isDead o = false → False := fun h1 h2 h3 => w.nf _ _ _ h1 h2 h3 (.inr rfl)
  refine ⟨by simp [hl], fun i j b o u h1 h2 h3 h4 d1 d2 => ?_, fun i b o h1 h2 d => ?_, fun i b o h1 h2 => ?_, fun a q => w.ft a (.inl q)⟩
  · rcases sp h1 h3 with ⟨x1, x2⟩ | ⟨x1, x2, x3⟩ <;> rcases sp h2 h4 with ⟨y1, y2⟩ | ⟨y1, y2, y3⟩
    · exact w.inj i j b o u x1 y1 x2 y2 d1 d2
    · subst y2; exact (nd x1 x2 d1).elim
    · subst x2; exact (nd y1 y2 d2).elim
    · rw [x1, y1]
  · rcases sp h1 h2 with ⟨x1, x2⟩ | ⟨x1, x2, x3⟩
    · exact fun q => w.nf i b o x1 x2 d (.inl q)
    · subst x2; exact hn
  · rcases sp h1 h2 with ⟨x1, x2⟩ | ⟨x1, x2, x3⟩
    · exact (w.ob i b o x1 x2).mp mp (fun _ _ h => h) (fun _ h => h)
    · subst x2 x3; exact ⟨xs, hD, RpA.mp mp ds xs r⟩
theorem tE_comp {mu : Bool} {tg : Tg} {own : List Nat} (hin : tgIn own tg = true) (itf : Env → M Wk) (cf : Env → M Bool) (ef : Env → M Vl) {σ : L2.St} {H : Hp} {Q : VK}
    (q : tE K cl xc E (fun env => do
      let w ← itf env
      let f : Vl → M (Option Dw.D) := fun x => noEx do
        let env1 ← ofO (bindT tg x (wipe env own))
        if ← cf env1 then
          let y ← asD (← ef env1)
          pure (some y)
        else pure none
      match w with
      | .its xs => do
        let ys ← compL f xs []
        newL mu ys
      | .ob i => do
        match ← getO i with
        | .lst xs => do
          let ys ← compO f i (xs.length + 1) 0 []
          newL mu ys
        | _ => M.no) σ H Q) : tLc (tI K cl xc E itf) (tG K cl tg) (tT K cl xc F0 cf) (tE K cl xc F0 ef) own σ H Q := by
  obtain ⟨env, W, rfl, he, w, p⟩ := q
  refine ⟨env, W, rfl, he, w, (Post.bind p).imp fun wk W0 e0 w0 p0 J hJ D hD => ?_⟩
  generalize hf : (fun x : Vl => noEx (do
        let env1 ← ofO (bindT tg x (wipe env own))
        if ← cf env1 then
          let y ← asD (← ef env1)
          pure (some y)
        else pure none)) = f at p0
  have h0 : ∃ mm r, RunC f wk mm 0 [] r ∧ Post K cl xc E W0 ((r >>= newL mu) W0.st) (QE K Q) := by
    cases wk with
    | its xs => exact ⟨xs.length, compL f xs [], ⟨Nat.zero_le _, rfl, rfl⟩, p0⟩
    | ob i =>
      obtain ⟨ob, a, ho, hm, hr, p0⟩ := Post.getO' w0 p0
      cases ob with
      | lst xs => exact ⟨xs.length + 1, compO f i (xs.length + 1) 0 [], rfl, p0⟩
      | _ => exact p0.elim
  obtain ⟨m0, r0, R0, p0⟩ := h0
  have hnF : ¬ W0.F D := fun z => by
    obtain ⟨u, e⟩ := w0.ft D z
    rw [hD] at e; cases e
  refine ⟨fun i n H => ∃ (mm : List Addr) (st : Sto) (accv : List V) (accd : List Dw.D) (r : M (List Dw.D)), Ex2 W0 (wD W0 D H mm st) ∧ Wf K cl (wD W0 D H mm st) ∧ H D = some (.lst accv) ∧ RpA K (wD W0 D H mm st) accv accd ∧
      EnvR K (wD W0 D H mm st) (L2.wipe σ own) (Dw.wipe env own) ∧ RunC f wk n i accd r ∧ Post K cl xc E W0 ((r >>= newL mu) st) (QE K Q), ⟨m0, W0.m, W0.st, [], [], r0, ex_start hD, wf_start w0 hD, upd_same, .nil, ((he.mono e0).mp (mp_start hD)).wipe own, R0, p0⟩, ?_⟩
  rintro i n H ⟨mm, st, accv, accd, r, ex, wf, hH, hr, hev, R, p⟩
  rcases runC_step (W1 := wD W0 D H mm st) R hJ ex wf p with ⟨nx, p⟩ | ⟨y, n', hn, nx, r1, _, R1, p⟩
  · refine .inl ⟨by cases nx with | stop h => exact h, ?_⟩
    have exF : Ex W0 ⟨H, W0.F, mm, st⟩ := ⟨rfl, ex.m, ex.keep⟩
    cases mu with
    | false =>
      exact p H mm exF (wf_unF wf) (.ref D) (.lst ⟨hH, fun z => notLive wf z, hnF⟩ (RpA.mp mp_unF accd accv hr))
    | true =>
      have hl : mm.length = st.length := wf.len
      have exT : Ex W0 ⟨H, W0.F, mm ++ [D], st ++ [.lst accd]⟩ := by
        refine ⟨rfl, ex.m.trans (List.prefix_append _ _), fun a o h l => ?_⟩
        obtain ⟨h1, l1⟩ := ex.keep a o h l
        refine ⟨h1, fun z => ?_⟩
        rcases live_more (W := ⟨H, W0.F, mm, st⟩) hl z with z | ⟨z, _⟩
        · exact l1 z
        · rw [z, hD] at h; cases h
      refine p H (mm ++ [D]) exT (wf_thaw wf hH hr hnF) (.ref D) ⟨D, rfl, ?_⟩
      show (mm ++ [D])[st.length]? = some D
      rw [← hl, List.getElem?_append_right (Nat.le_refl _)]
      simp
  · cases nx with
    | item go yld =>
      refine .inr ⟨go, fun H' => ∃ (mm : List Addr) (st : Sto) (accv : List V) (accd : List Dw.D) (r : M (List Dw.D)), Ex2 W0 (wD W0 D H' mm st) ∧ Wf K cl (wD W0 D H' mm st) ∧ H' D = some (.lst accv) ∧ RpA K (wD W0 D H' mm st) accv accd ∧
        EnvR K (wD W0 D H' mm st) (L2.wipe σ own) (Dw.wipe env own) ∧ RunC f wk n' (i + 1) accd r ∧ Post K cl xc E W0 ((r >>= newL mu) st) (QE K Q), fun H' h => ⟨n', hn, h⟩, fun x H' y' => ?_⟩
      obtain ⟨W2, rfl, hst, hm2, e2, w2, rv⟩ := yld x H' y'
      have hF2 : W2.F = fun a => W0.F a ∨ a = D := e2.f
      rw [M.bind_assoc, ← hf] at p
      obtain ⟨opt, st4, runZ, p⟩ := noEx_post p
      obtain ⟨env1, st1, hb0, run⟩ := M.ok_bind runZ
      clear runZ
      have hbb : bindT tg y (wipe env own) = some env1 ∧ st1 = st := by
        cases e : bindT tg y (wipe env own) with
        | none => rw [e] at hb0; cases hb0
        | some z => rw [e] at hb0; cases hb0; exact ⟨rfl, rfl⟩
      clear hb0
      obtain ⟨hb, hst1⟩ := hbb
      subst hst1
      obtain ⟨b, st3, run1, runB⟩ := M.ok_bind run
      refine ⟨wipe env own, W2, y, env1, rfl, hev.mono e2, w2, rv, hb, fun σ2 he2 hw => ⟨(hw own hin).trans (wipe_wipe own), env1, W2, rfl, he2, w2, ?_⟩⟩
      show Post K cl xc F0 W2 (cf env1 W2.st) _
      rw [show W2.st = st1 from hst, run1]
      intro H3 m3 ex3 wf3
      have ex23 : Ex (wD W0 D H mm st1) ⟨H3, W2.F, m3, st3⟩ := e2.trans ex3
      cases b with
      | false =>
        dsimp only
        rw [if_neg (by simp)] at runB ⊢
        cases runB
        have wk3 : (⟨H3, W2.F, m3, st4⟩ : Wd) = wD W0 D H3 m3 st4 := by rw [hF2]
        rw [wk3] at ex23 wf3
        exact ⟨m3, st4, accv, accd, r1 accd, ex.trans ex23, wf3, (ex23.keep D _ hH (notLive wf)).1, RpA.mono ex23 _ _ hr, hev.mono ex23, R1 accd, p⟩
      | true =>
        dsimp only
        rw [if_pos rfl] at runB ⊢
        obtain ⟨z, st5, run2, runC⟩ := M.ok_bind runB
        refine ⟨env1, ⟨H3, W2.F, m3, st3⟩, rfl, he2.mono ex3, wf3, ?_⟩
        show Post K cl xc F0 _ (ef env1 st3) _
        rw [run2]
        intro H4 m4 ex4 wf4 v rv4
        cases z with
        | o j => cases runC
        | d z =>
          cases runC
          have ex24 : Ex (wD W0 D H mm st1) ⟨H4, W2.F, m4, st4⟩ := ex23.trans ex4
          have wk4 : (⟨H4, W2.F, m4, st4⟩ : Wd) = wD W0 D H4 m4 st4 := by rw [hF2]
          rw [show (⟨H4, (⟨H3, W2.F, m3, st3⟩ : Wd).F, m4, st4⟩ : Wd) = wD W0 D H4 m4 st4 from wk4] at wf4 rv4
          rw [wk4] at ex24
          obtain ⟨hz, p⟩ : accd.length < szLine ∧ Post K cl xc E W0 ((r1 (accd ++ [z]) >>= newL mu) st4) (QE K Q) := by
            by_cases hz : accd.length < szLine
            · refine ⟨hz, ?_⟩
              rw [show decide (accd.length < szLine) = true from decide_eq_true hz] at p
              exact p
            · rw [show decide (accd.length < szLine) = false from decide_eq_false hz] at p
              exact p.elim
          have hH4 := (ex24.keep D _ hH (notLive wf)).1
          refine ⟨accv, hH4, by rw [hr.len, ← szE]; exact hz, m4, st4, accv ++ [v], accd ++ [z], r1 (accd ++ [z]), ?_, wf_poke wf4 hH4, upd_same, ?_, ?_, R1 _, p⟩
          · have e4 := ex.trans ex24
            refine ⟨e4.f, e4.m, fun a o h l => ?_⟩
            obtain ⟨h1, l1⟩ := e4.keep a o h l
            exact ⟨upd_keep h1 (ne_of_none h hD), l1⟩
          · exact RpA.append (RpA.mp mp_poke _ _ (RpA.mono ex24 _ _ hr)) (.cons (Rp.mp mp_poke _ _ rv4) .nil)
          · exact (hev.mono ex24).mp mp_poke
end
end Dw

namespace Dw
open PySem L2
section
variable {K : PySem.W.Frag} {cl xc : Nat → Addr} {E : XK}
theorem Post.bind' {α β : Type} {W : Wd} {s : Sto} {m : M α} {f : α → M β} {q : β → Wd → Prop} (h : Post K cl xc E W ((m >>= f) s) q) :
    Post K cl xc E W (m s) fun x W' => Post K cl xc E W' (f x W'.st) q := by
  rw [M.bind_run] at h
  cases e : m s with
  | ok x st =>
    rw [e] at h
    exact fun H m' ex w => Post.from ex h
  | ex c st =>
    rw [e] at h
    exact h
  | no =>
    rw [e] at h
    exact h
theorem M.bind_pure' {α : Type} (m : M α) : (m >>= fun a => (Pure.pure a : M α)) = m := by
  funext s
  rw [M.bind_run]
  cases m s <;> rfl
theorem tS_for {tg : Tg} (itf : Env → M Wk) (bf : Env → M (Fl × Env)) {D : Ends} {σ : L2.St} {H : Hp}
    (q : tS K cl xc E (fun env => do
      let w ← itf env
      let f : Vl → Env → M (Fl × Env) := fun x env => do
        let env1 ← ofO (bindT tg x env)
        bf env1
      match w with
      | .its xs => forL f xs env
      | .ob i => do
        match ← getO i with
        | .lst xs => forO f i (xs.length + 1) 0 env
        | _ => M.no) D σ H) : tFor (tI K cl xc E itf) (tG K cl tg) (tS K cl xc E bf) D σ H := by
  obtain ⟨env, W, rfl, he, w, p⟩ := q
  refine ⟨env, W, rfl, he, w, (Post.bind p).imp fun wk W0 e0 w0 p0 J hJ => ?_⟩
  generalize hf : (fun (x : Vl) (env : Env) => do
        let env1 ← ofO (bindT tg x env)
        bf env1) = f at p0
  have h0 : ∃ mm r, RunF f wk mm 0 env r ∧ Post K cl xc E W0 ((r >>= fun a => pure a) W0.st) fun p W' => ∀ σ', EnvR K W' σ' p.2 → FlR K D σ' W' p.1 := by
    cases wk with
    | its xs => exact ⟨xs.length, forL f xs env, ⟨Nat.zero_le _, rfl, rfl⟩, by rw [M.bind_pure']; exact p0⟩
    | ob i =>
      obtain ⟨ob, a, ho, hm, hr, p0⟩ := Post.getO' w0 p0
      cases ob with
      | lst xs => exact ⟨xs.length + 1, forO f i (xs.length + 1) 0 env, rfl, by rw [M.bind_pure']; exact p0⟩
      | _ => exact p0.elim
  obtain ⟨m0, r0, R0, p0⟩ := h0
  refine ⟨fun i n σ H => ∃ (mm : List Addr) (st : Sto) (env : Env) (r : M (Fl × Env)), Ex W0 ⟨H, W0.F, mm, st⟩ ∧ Wf K cl ⟨H, W0.F, mm, st⟩ ∧ EnvR K ⟨H, W0.F, mm, st⟩ σ env ∧ RunF f wk n i env r ∧
      Post K cl xc E ⟨H, W0.F, mm, st⟩ ((r >>= fun a => pure a) st) fun p W' => ∀ σ', EnvR K W' σ' p.2 → FlR K D σ' W' p.1, ⟨m0, W0.m, W0.st, env, r0, Ex.refl _, w0, he.mono e0, R0, p0⟩, ?_⟩
  rintro i n σ1 H ⟨mm, st, env1, r, ex, wf, hev, R, p⟩
  rcases runF_step (W1 := ⟨H, W0.F, mm, st⟩) R hJ ex.two wf p with ⟨nx, p⟩ | ⟨y, n', hn, nx, r1, R1, p⟩
  · refine .inl ⟨by cases nx with | stop h => exact h, ?_⟩
    exact Post.pure (W := ⟨H, W0.F, mm, st⟩) wf p σ1 hev
  · cases nx with
    | item go yld =>
      refine .inr ⟨go, fun σ H' => ∃ (mm : List Addr) (st : Sto) (env : Env) (r : M (Fl × Env)), Ex W0 ⟨H', W0.F, mm, st⟩ ∧ Wf K cl ⟨H', W0.F, mm, st⟩ ∧ EnvR K ⟨H', W0.F, mm, st⟩ σ env ∧ RunF f wk n' (i + 1) env r ∧
        Post K cl xc E ⟨H', W0.F, mm, st⟩ ((r >>= fun a => pure a) st) fun p W' => ∀ σ', EnvR K W' σ' p.2 → FlR K D σ' W' p.1, fun σ' H' h => ⟨n', hn, h⟩, fun x H' y' => ?_⟩
      obtain ⟨W2, rfl, hst, hm2, e2, w2, rv⟩ := yld x H' y'
      rw [M.bind_pure', ← hf] at p
      have p2 := Post.from e2 p
      rw [show (⟨H, W0.F, mm, st⟩ : Wd).st = W2.st from hst.symm] at p2
      dsimp only at p2
      rw [M.bind_assoc] at p2
      cases hb : bindT tg y env1 with
      | none => rw [hb] at p2; exact p2.elim
      | some env2 =>
        rw [hb] at p2
        have p2 : Post K cl xc E W2 ((bf env2 >>= fun p => match p with
          | (.nx, env') => r1 env'
          | (.ct, env') => r1 env'
          | (.bk, env') => pure (.nx, env')
          | (.rt v, env') => pure (.rt v, env')) W2.st) _ := p2
        refine ⟨env1, W2, y, env2, rfl, hev.mono e2, w2, rv, hb, fun σ2 he2 _ => ⟨env2, W2, rfl, he2, w2, (Post.bind' p2).imp fun pr W3 e3 w3 p3 σ3 he3 => ?_⟩⟩
        have hF3 : W3.F = W0.F := by rw [e3.f, e2.f]
        obtain ⟨fl, env3⟩ := pr
        have ex3 : Ex W0 W3 := (ex.trans e2).trans e3
        have hW : (⟨W3.H, W0.F, W3.m, W3.st⟩ : Wd) = W3 := by rw [← hF3]
        cases fl with
        | nx => exact ⟨W3.m, W3.st, env3, r1 env3, by rw [hW]; exact ex3, by rw [hW]; exact w3, by rw [hW]; exact he3, R1 env3, by rw [hW, M.bind_pure']; exact p3⟩
        | ct => exact ⟨W3.m, W3.st, env3, r1 env3, by rw [hW]; exact ex3, by rw [hW]; exact w3, by rw [hW]; exact he3, R1 env3, by rw [hW, M.bind_pure']; exact p3⟩
        | bk => exact Post.pure w3 p3 σ3 he3
        | rt v => exact Post.pure w3 p3 σ3 he3
theorem tS_while {n : Nat} (cf : Env → M Bool) (bf : Env → M (Fl × Env)) {D : Ends} {σ : L2.St} {H : Hp}
    (q : tS K cl xc E (fun env => whileL cf bf n env) D σ H) : tWhile (tT K cl xc E cf) (tS K cl xc E bf) D σ H := by
  refine ⟨fun m σ H => tS K cl xc E (fun env => whileL cf bf m env) D σ H, ⟨n, q⟩, ?_⟩
  rintro m σ H ⟨env, W, rfl, he, w, p⟩
  cases m with
  | zero => exact p.elim
  | succ m =>
    have p : Post K cl xc E W ((cf env >>= fun c => if c = true then (bf env >>= fun p => match p with
      | (.nx, env') => whileL cf bf m env'
      | (.ct, env') => whileL cf bf m env'
      | (.bk, env') => pure (.nx, env')
      | (.rt v, env') => pure (.rt v, env')) else pure (.nx, env)) W.st) _ := p
    refine ⟨env, W, rfl, he, w, (Post.bind p).imp fun c W1 e1 w1 p1 => ?_⟩
    cases c with
    | false =>
      rw [if_neg (by simp)] at p1 ⊢
      exact Post.pure w1 p1 σ (he.mono e1)
    | true =>
      rw [if_pos rfl] at p1 ⊢
      refine ⟨fun σ' H' => tS K cl xc E (fun env => whileL cf bf m env) D σ' H', fun σ' H' h => ⟨m, Nat.lt_succ_self _, h⟩, env, W1, rfl, he.mono e1, w1, (Post.bind' p1).imp fun pr W2 e2 w2 p2 σ2 he2 => ?_⟩
      obtain ⟨fl, env3⟩ := pr
      cases fl with
      | nx => exact ⟨env3, W2, rfl, he2, w2, p2⟩
      | ct => exact ⟨env3, W2, rfl, he2, w2, p2⟩
      | bk => exact Post.pure w2 p2 σ2 he2
      | rt v => exact Post.pure w2 p2 σ2 he2
theorem tS_set {i : Nat} (f : Env → M Vl) {D : Ends} {σ : L2.St} {H : Hp} (q : tS K cl xc E (fun env => do let v ← f env; pure (.nx, env.set i (some v))) D σ H) : tE K cl xc E f σ H fun x H1 => gName i x σ H1 D.nx := by
  obtain ⟨env, W, rfl, he, w, p⟩ := q
  refine ⟨env, W, rfl, he, w, (Post.bind p).imp fun x W1 e1 w1 p1 v r => ?_⟩
  exact Post.pure w1 p1 _ ((he.mono e1).set i r)
theorem tS_unpk {tg : Tg} (f : Env → M Vl) {D : Ends} {σ : L2.St} {H : Hp} (q : tS K cl xc E (fun env => do let v ← f env; let env ← ofO (bindT tg v env); pure (.nx, env)) D σ H) : tAsg (tE K cl xc E f) (tG K cl tg) D σ H := by
  obtain ⟨env, W, rfl, he, w, p⟩ := q
  refine ⟨env, W, rfl, he, w, (Post.bind p).imp fun x W1 e1 w1 p1 v r => ?_⟩
  cases hb : bindT tg x env with
  | none => rw [hb] at p1; exact p1.elim
  | some env1 =>
    rw [hb] at p1
    exact ⟨env, W1, x, env1, rfl, he.mono e1, w1, r, hb, fun σ' h' _ => Post.pure (a := ((.nx, env1) : Fl × Env)) w1 p1 σ' h'⟩
theorem tS_expr (f : Env → M Vl) {D : Ends} {σ : L2.St} {H : Hp} (q : tS K cl xc E (fun env => do let _ ← f env; pure (.nx, env)) D σ H) : tDrop (tE K cl xc E f) D σ H := by
  obtain ⟨env, W, rfl, he, w, p⟩ := q
  refine ⟨env, W, rfl, he, w, (Post.bind p).imp fun x W1 e1 w1 p1 v r => ?_⟩
  exact Post.pure w1 p1 σ (he.mono e1)
theorem tS_ret (f : Env → M Vl) {D : Ends} {σ : L2.St} {H : Hp} (q : tS K cl xc E (fun env => do let v ← f env; pure (.rt v, env)) D σ H) : tRet (tE K cl xc E f) D σ H := by
  obtain ⟨env, W, rfl, he, w, p⟩ := q
  refine ⟨env, W, rfl, he, w, (Post.bind p).imp fun x W1 e1 w1 p1 v r => ?_⟩
  exact Post.pure w1 p1 σ (he.mono e1) v r
theorem tS_retN {D : Ends} {σ : L2.St} {H : Hp} (q : tS K cl xc E (fun env => pure (.rt nonV, env)) D σ H) : tRetN D σ H := by
  obtain ⟨env, W, rfl, he, w, p⟩ := q
  exact Post.pure w p σ he .non .non
theorem tS_ite (c : Env → M Vl) (a b : Env → M (Fl × Env)) {D : Ends} {σ : L2.St} {H : Hp} (q : tS K cl xc E (fun env => do if ← asB (← c env) then a env else b env) D σ H) :
    tIfS (tT K cl xc E (fun env => c env >>= asB)) (tS K cl xc E a) (tS K cl xc E b) D σ H := by
  obtain ⟨env, W, rfl, he, w, p⟩ := q
  have p' : Post K cl xc E W (((c env >>= asB) >>= fun k => if k = true then a env else b env) W.st) fun p W' => ∀ σ', EnvR K W' σ' p.2 → FlR K D σ' W' p.1 := by
    rw [M.bind_assoc]; exact p
  refine ⟨env, W, rfl, he, w, (Post.bind p').imp fun k W1 e1 w1 p1 => ?_⟩
  cases k with
  | true => exact ⟨env, W1, rfl, he.mono e1, w1, p1⟩
  | false => exact ⟨env, W1, rfl, he.mono e1, w1, p1⟩
theorem tS_nil {D : Ends} {σ : L2.St} {H : Hp} (q : tS K cl xc E (fun env => pure (.nx, env)) D σ H) : tNext D σ H := by
  obtain ⟨env, W, rfl, he, w, p⟩ := q
  exact Post.pure w p σ he
theorem tS_cont {D : Ends} {σ : L2.St} {H : Hp} (q : tS K cl xc E (fun env => pure (.ct, env)) D σ H) : tCont D σ H := by
  obtain ⟨env, W, rfl, he, w, p⟩ := q
  exact Post.pure w p σ he
theorem tS_seq (a b : Env → M (Fl × Env)) {D : Ends} {σ : L2.St} {H : Hp} (q : tS K cl xc E (fun env => do
    match ← a env with
    | (.nx, env') => b env'
    | p => pure p) D σ H) : tSeq (tS K cl xc E a) (tS K cl xc E b) D σ H := by
  obtain ⟨env, W, rfl, he, w, p⟩ := q
  refine ⟨env, W, rfl, he, w, (Post.bind p).imp fun pr W1 e1 w1 p1 σ1 he1 => ?_⟩
  obtain ⟨fl, env1⟩ := pr
  cases fl with
  | nx => exact ⟨env1, W1, rfl, he1, w1, p1⟩
  | ct => exact Post.pure w1 p1 σ1 he1
  | bk => exact Post.pure w1 p1 σ1 he1
  | rt v => exact Post.pure w1 p1 σ1 he1
theorem tS_raise {c : Nat} {D : Ends} {σ : L2.St} {H : Hp} (q : tS K cl xc E (fun env => M.ex c) D σ H) : E (.ref (xc c)) none H := by
  obtain ⟨env, W, rfl, he, w, p⟩ := q
  exact p W.H W.m none (Ex.refl _) w
theorem tS_setAttr {c : Nat} {f : Str} (hc : Cls K (cl c)) (hf : NoAttr K (cl c) f) (o e : Env → M Vl) {D : Ends} {σ : L2.St} {H : Hp} (q : tS K cl xc E (fun env => do
    let v ← e env
    let i ← getOb (← o env)
    setAt c i f v
    pure (.nx, env)) D σ H) : sFld K (tE K cl xc E o) (tE K cl xc E e) f D σ H := by
  obtain ⟨env, W, rfl, he, w, p⟩ := q
  refine ⟨env, W, rfl, he, w, (Post.bind p).imp fun x W1 e1 w1 p1 v r => ?_⟩
  refine ⟨env, W1, rfl, he.mono e1, w1, (Post.bind p1).imp fun y W2 e2 w2 p2 u ru => ?_⟩
  obtain ⟨i, a, rfl, rfl, hm, p3⟩ := getOb_ok ru p2
  obtain ⟨dx, gs, fs, h1, h2, h3, h4, h5, h6⟩ := setAt_ok w2 (r.mono e2) hm p3
  exact ⟨a, cl c, dx, gs, rfl, h1, hc, hf, h2, h6 _ _ h4 h5 σ (((he.mono e1).mono e2).mono h4)⟩
end
end Dw

namespace Dw
open PySem L2
section
variable {X : Cx} {cl xc : Nat → Addr} {E : XK} {k : Nat} {N : List Str} {sc : Scope} {T : Tx}
theorem fItems_ok {K : PySem.W.Frag} {α : Type} {W : Wd} {v : V} {x : Vl} {f : List D → M α} {q : α → Wd → Prop} (r : RpV K W v x) (h : Post K cl xc E W ((fItems x >>= f) W.st) q) :
    ∃ t a xs ds, v = .ref a ∧ SqF K W t a xs ∧ RpA K W xs ds ∧ Post K cl xc E W (f ds W.st) q := by
  cases x with
  | o i => exact h.elim
  | d x =>
    cases x with
    | list ds =>
      cases r with
      | lst h1 h2 => exact ⟨false, _, _, ds, rfl, h1, h2, h⟩
    | tuple ds =>
      cases r with
      | tup h1 h2 => exact ⟨true, _, _, ds, rfl, h1, h2, h⟩
    | _ => exact h.elim
theorem tI_of (f : Env → M Vl) {σ : L2.St} {H : Hp} {R : L2.It → Hp → Prop} (q : tI X.K cl xc E (fun env => do wkOf (← f env)) σ H R) : iAny X.K (tE X.K cl xc E f) σ H R := by
  obtain ⟨env, W, rfl, he, w, p⟩ := q
  refine ⟨env, W, rfl, he, w, (Post.bind p).imp fun x W1 e1 w1 p1 v r => ?_⟩
  cases x with
  | o i =>
    obtain ⟨a, rfl, hm⟩ := r
    unfold wkOf at p1
    obtain ⟨ob, a', ho, hm', hr, p2⟩ := Post.getO w1 p1
    rw [hm] at hm'
    cases hm'
    cases ob with
    | lst ds =>
      obtain ⟨xs, h1, h2⟩ := hr
      exact .inl ⟨a, rfl, ⟨xs, .inl (.inl h1)⟩, Post.pure w1 p2 _ (jok_ob hm)⟩
    | _ => exact p2.elim
  | d x =>
    cases x with
    | list ds =>
      cases r with
      | lst h1 h2 => exact .inl ⟨_, rfl, ⟨_, h1.sq⟩, Post.pure w1 p1 _ (jok_lst h1 h2)⟩
    | tuple ds =>
      cases r with
      | tup h1 h2 => exact .inr (.inl ⟨_, rfl, ⟨_, h1.sq⟩, Post.pure w1 p1 _ (jok_tup h1 h2)⟩)
    | str z =>
      cases r
      exact .inr (.inr ⟨z, rfl, Post.pure w1 p1 _ jok_str⟩)
    | _ => exact p1.elim
theorem bnd_of {i : Int} (h : bnd62 i = true) : -(2 ^ 62) ≤ i ∧ i < 2 ^ 62 := by
  unfold bnd62 at h
  rw [Bool.and_eq_true] at h
  exact ⟨of_decide_eq_true h.1, of_decide_eq_true h.2⟩
theorem tI_range1 (g : Env → M (List Vl)) {σ : L2.St} {H : Hp} {R : L2.It → Hp → Prop} (hl : ∀ env s vs s', g env s = .ok vs s' → vs.length = 1) (q : tI X.K cl xc E (fun env => do wkRange (← g env)) σ H R) : iRng1 (tA X.K cl xc E g) σ H R := by
  obtain ⟨env, W, rfl, he, w, p⟩ := q
  refine ⟨env, W, rfl, he, w, ?_⟩
  have p' := Post.bind p
  cases e : g env W.st with
  | no => rw [e] at p'; exact p'.elim
  | ex c s => rw [e] at p'; exact p'
  | ok vs s =>
    have hv := hl _ _ _ _ e
    rw [e] at p'
    intro H1 m1 e1 w1 us rs
    have p1 := p' H1 m1 e1 w1
    match vs, hv, rs, p1 with
    | [x], _, rs, p1 =>
      obtain ⟨u, rfl, ru⟩ := one_of rs
      match x, ru, p1 with
      | .d (.int j), ru, p1 =>
        cases ru
        obtain ⟨hb, p2⟩ := Post.okP p1
        obtain ⟨b1, b2⟩ := bnd_of hb
        exact ⟨j, rfl, b1, b2, Post.pure (W := ⟨H1, W.F, m1, s⟩) w1 p2 _ jok_range⟩
      | .o _, _, p1 => exact p1.elim
      | .d .none, _, p1 => exact p1.elim
      | .d (.bool _), _, p1 => exact p1.elim
      | .d (.str _), _, p1 => exact p1.elim
      | .d (.tuple _), _, p1 => exact p1.elim
      | .d (.list _), _, p1 => exact p1.elim
      | .d (.dict _), _, p1 => exact p1.elim
theorem tI_range2 (g : Env → M (List Vl)) {σ : L2.St} {H : Hp} {R : L2.It → Hp → Prop} (hl : ∀ env s vs s', g env s = .ok vs s' → vs.length = 2) (q : tI X.K cl xc E (fun env => do wkRange (← g env)) σ H R) : iRng2 (tA X.K cl xc E g) σ H R := by
  obtain ⟨env, W, rfl, he, w, p⟩ := q
  refine ⟨env, W, rfl, he, w, ?_⟩
  have p' := Post.bind p
  cases e : g env W.st with
  | no => rw [e] at p'; exact p'.elim
  | ex c s => rw [e] at p'; exact p'
  | ok vs s =>
    have hv := hl _ _ _ _ e
    rw [e] at p'
    intro H1 m1 e1 w1 us rs
    have p1 := p' H1 m1 e1 w1
    match vs, hv, rs, p1 with
    | [x, y], _, rs, p1 =>
      obtain ⟨u, u2, rfl, ru, ru2⟩ := two_of rs
      cases x with
      | o i => exact p1.elim
      | d x =>
        cases x with
        | int i =>
          cases y with
          | o i => exact p1.elim
          | d y =>
            cases y with
            | int j =>
              cases ru; cases ru2
              obtain ⟨hb, p2⟩ := Post.okP p1
              rw [Bool.and_eq_true] at hb
              obtain ⟨b1, b2⟩ := bnd_of hb.1
              obtain ⟨b3, b4⟩ := bnd_of hb.2
              exact ⟨i, j, rfl, ⟨b1, b2, b3, b4⟩, Post.pure (W := ⟨H1, W.F, m1, s⟩) w1 p2 _ jok_range⟩
            | _ => exact p1.elim
        | _ => cases y <;> exact p1.elim
theorem tI_enum (f : Env → M Vl) {σ : L2.St} {H : Hp} {R : L2.It → Hp → Prop} (q : tI X.K cl xc E (fun env => do let xs ← fItems (← f env); pure (.its (enumD 0 xs))) σ H R) : iEnumK X.K (tCons (tE X.K cl xc E f) tNil) σ H R := by
  obtain ⟨env, W, rfl, he, w, p⟩ := q
  refine ⟨env, W, rfl, he, w, (Post.bind p).imp fun x W1 e1 w1 p1 v r => ?_⟩
  obtain ⟨t, a, xs, ds, rfl, h1, h2, p2⟩ := fItems_ok r p1
  exact ⟨t, a, xs, rfl, h1.sq, Post.pure w1 p2 _ (jok_enum h1 h2)⟩
theorem tI_zip (f g : Env → M Vl) {σ : L2.St} {H : Hp} {R : L2.It → Hp → Prop} (q : tI X.K cl xc E (fun env => do
    let x ← f env
    let y ← g env
    let xs ← fItems x
    let ys ← fItems y
    pure (.its (zipD xs ys))) σ H R) : iZipK X.K (tCons (tE X.K cl xc E f) (tCons (tE X.K cl xc E g) tNil)) σ H R := by
  obtain ⟨env, W, rfl, he, w, p⟩ := q
  refine ⟨env, W, rfl, he, w, (Post.bind p).imp fun x W1 e1 w1 p1 v r => ?_⟩
  refine ⟨env, W1, rfl, he.mono e1, w1, (Post.bind p1).imp fun y W2 e2 w2 p2 v2 r2 => ?_⟩
  obtain ⟨t, a, xs, ds, rfl, h1, h2, p3⟩ := fItems_ok (r.mono e2) p2
  obtain ⟨u, b, ys, es, rfl, h3, h4, p4⟩ := fItems_ok r2 p3
  exact ⟨t, u, a, b, xs, ys, rfl, h1.sq, h3.sq, Post.pure w2 p4 _ (jok_zip h1 h2 h3 h4)⟩
/-! ### forms -/
mutual
theorem chk_plain : ∀ (e : Dw.E) (sc : Scope) (x : Expr), chkE T N sc e x = true → plainX x = true
  | .frz a, sc, x, h => by unfold chkE at h; exact chk_plain a sc x h
  | .non, sc, x, h => by unfold chkE at h; cases x <;> first | rfl | cases h
  | .bl b, sc, x, h => by unfold chkE at h; cases x <;> first | rfl | cases h
  | .int b, sc, x, h => by unfold chkE at h; cases x <;> first | rfl | cases h
  | .str b, sc, x, h => by unfold chkE at h; cases x <;> first | rfl | cases h
  | .var b, sc, x, h => by unfold chkE at h; cases x <;> first | rfl | cases h
  | .glb b c, sc, x, h => by unfold chkE at h; cases x <;> first | rfl | cases h
  | .bin _ _ _, sc, x, h => by unfold chkE at h; cases x <;> first | rfl | cases h
  | .cmp _ _ _, sc, x, h => by unfold chkE at h; cases x <;> first | rfl | cases h
  | .chain _ _ _ _ _, sc, x, h => by unfold chkE at h; cases x <;> first | rfl | cases h
  | .andE _, sc, x, h => by unfold chkE at h; cases x <;> first | rfl | cases h
  | .orE _, sc, x, h => by unfold chkE at h; cases x <;> first | rfl | cases h
  | .notE _, sc, x, h => by unfold chkE at h; cases x <;> first | rfl | cases h
  | .neg _, sc, x, h => by unfold chkE at h; cases x <;> first | rfl | cases h
  | .call _ _ _, sc, x, h => by unfold chkE at h; cases x <;> first | rfl | cases h
  | .meth _ _ _ _ _, sc, x, h => by unfold chkE at h; cases x <;> first | rfl | cases h
  | .make _ _ _, sc, x, h => by unfold chkE at h; cases x <;> first | rfl | cases h
  | .bi _ _, sc, x, h => by unfold chkE at h; cases x <;> first | rfl | cases h
  | .isi _ _, sc, x, h => by unfold chkE at h; cases x <;> first | rfl | cases h
  | .mt _ _ _, sc, x, h => by unfold chkE at h; cases x <;> first | rfl | cases h
  | .tup _, sc, x, h => by unfold chkE at h; cases x <;> first | rfl | cases h
  | .lst _ _, sc, x, h => by unfold chkE at h; cases x <;> first | rfl | cases h
  | .ix _ _, sc, x, h => by unfold chkE at h; cases x <;> first | rfl | cases h
  | .sl _ _ _, sc, x, h => by unfold chkE at h; cases x <;> first | rfl | cases h
  | .addM _ _, sc, x, h => by unfold chkE at h; cases x <;> first | rfl | cases h
  | .stp _ _ _, sc, x, h => by unfold chkE at h; cases x <;> first | rfl | cases h
  | .comp _ _ _ _ _ _, sc, x, h => by unfold chkE at h; cases x <;> first | rfl | cases h
  | .attr _ _ _, sc, x, h => by unfold chkE at h; cases x <;> first | rfl | cases h
end
theorem chkIt_plain : ∀ (it : Dw.It) (sc : Scope) (x t : Expr), chkIt T N sc it x t = true → plainX x = true
  | .of a, sc, x, t, h => by unfold chkIt at h; exact chk_plain a sc x h
  | .range _, sc, x, t, h => by unfold chkIt at h; cases x <;> first | rfl | cases h
  | .enum _, sc, x, t, h => by
    unfold chkIt at h
    split at h
    · rfl
    · cases h
  | .zip _ _, sc, x, t, h => by
    unfold chkIt at h
    split at h
    · rfl
    · cases h
theorem tMeth_mono {C : Addr} {m : Str} {sp : Sp} {dvs : List V} {E : XK} {ta : TE} {t t' : TA} (h : ∀ σ H Q, t' σ H Q → t σ H Q) {σ : L2.St} {H : Hp} {Q : VK} (q : tMeth C m sp dvs E ta t' σ H Q) (hta : ∀ (σ : L2.St) (H : Hp) (Q Q' : VK), (∀ v H, Q v H → Q' v H) → ta σ H Q → ta σ H Q') : tMeth C m sp dvs E ta t σ H Q :=
  hta _ _ _ _ (fun x H1 ⟨a, dx, fs, e, i, l, q⟩ => ⟨a, dx, fs, e, i, l, h _ _ _ q⟩) q
theorem tE_monoQ {K : PySem.W.Frag} {f : Env → M Vl} (σ : L2.St) (H : Hp) (Q Q' : VK) (h : ∀ v H, Q v H → Q' v H) (q : tE K cl xc E f σ H Q) : tE K cl xc E f σ H Q' := by
  obtain ⟨env, W, e, he, w, p⟩ := q
  exact ⟨env, W, e, he, w, p.imp fun x W1 _ _ p v r => h _ _ (p v r)⟩
theorem chks_plain : ∀ (as : Es) (sc : Scope) (es : List Expr), chkEs T N sc as es = true → ∀ e ∈ es, plainX e = true
  | .nil, sc, es, h => by
    unfold chkEs at h
    cases es with
    | nil => exact fun e he => absurd he List.not_mem_nil
    | cons e es => cases h
  | .cons a r, sc, es, h => by
    unfold chkEs at h
    cases es with
    | nil => cases h
    | cons e es =>
      simp only [Bool.and_eq_true] at h
      intro x hx
      rcases List.mem_cons.mp hx with z | z
      · rw [z]; exact chk_plain a sc e h.1
      · exact chks_plain r sc es h.2 x z
theorem evEs_len {Φ : Nat → List Vl → M Vl} : ∀ (as : Es) (sc : Scope) (es : List Expr), chkEs T N sc as es = true → ∀ env s vs s', evEs Φ as env s = .ok vs s' → vs.length = es.length
  | .nil, sc, es, h, env, s, vs, s', e => by
    unfold chkEs at h
    cases es with
    | nil => rw [evEs] at e; cases e; rfl
    | cons _ _ => cases h
  | .cons a r, sc, es, h, env, s, vs, s', e => by
    unfold chkEs at h
    cases es with
    | nil => cases h
    | cons e1 es =>
      simp only [Bool.and_eq_true] at h
      rw [evEs] at e
      obtain ⟨x, s1, h1, e2⟩ := M.ok_bind e
      obtain ⟨xs, s2, h2, e3⟩ := M.ok_bind e2
      cases e3
      simp [evEs_len r sc es h.2 env s1 xs _ h2]
end
end Dw

namespace Dw
open PySem L2
section
variable {cl xc : Nat → Addr} {k : Nat} {N : List Str} {T : Tx}
theorem blt_of {X : Cx} (F : Fac T k X.prog X.w X.K X.mg X.base cl xc) {x : Str} (h : T.blt.contains x = true) : X.mg x = none := F.blt x (by simpa using h)
theorem lastM {op1 op2 : CmpOp} {b c : Expr} (hb : plainX b = true) (hc : plainX c = true) : lastMarks [op1, op2] [b, c] = false := by
  cases c <;> first
    | rfl
    | cases hc
theorem passes0 {X : Cx} {E : XK} {sc : Scope} (c : Cok k N sc X E) : Passes (L2.CX X.prog X.w) X E := passes_call c.tk fun _ _ _ _ h => h
theorem any_inf {T : Tx} {p : FI → Bool} (h : T.inf.any p = true) : ∃ I ∈ T.inf, p I = true := by simpa [List.any_eq_true] using h
theorem any_cls {T : Tx} {p : CI → Bool} (h : T.cls.any p = true) : ∃ I ∈ T.cls, p I = true := by simpa [List.any_eq_true] using h
theorem any_con {T : Tx} {p : Str × D → Bool} (h : T.con.any p = true) : ∃ I ∈ T.con, p I = true := by simpa [List.any_eq_true] using h
theorem room_of {X : Cx} {E : XK} {sc : Scope} (c : Cok k N sc X E) : Room (2 * k) X.A := c.room.mono (by omega)
/-- a call's names -/
theorem nmF {x : Str} (h : okNm x = true) : (x == ("__debug__" : Str)) = false := (okNm_of h).1
theorem takes0 {X : Cx} {s : Shared} {H : Hp} {scope : Scope} {cenv : PySem.Env} {fp : List Addr} : Takes (X.blk s H scope cenv fp) (fun cls d _ H => F0 cls d H) := fun u s' ⟨a, B, sI, pins, σ, H, cls, d, e, I, nb, up, sky, na, os, ag, w⟩ => w
/-- the context of a block -/
theorem Cok.blk {X : Cx} {E : XK} {sc : Scope} (c : Cok k N sc X E) (s : Shared) (H : Hp) (C : Addr) (clo : List (Str × Addr)) (fp : List Addr) (scope : Scope) :
    Cok k N (relS scope sc) (X.blk s H scope (compEnvC scope clo C X.env) fp) F0 :=
  ⟨c.hN, c.nd, by show relS scope X.env.scope = _; rw [c.hsc], c.calm, c.room, takes0⟩
theorem nms_blk {X : Cx} {E : XK} {sc : Scope} (c : Cok k N sc X E) (s : Shared) (H : Hp) (C : Addr) (clo : List (Str × Addr)) (fp : List Addr) (scope : Scope) :
    Nms N scope (relS scope sc) (X.blk s H scope (compEnvC scope clo C X.env) fp) := by
  refine ⟨c.hN, c.nd, by show relS scope X.env.scope = _; rw [c.hsc], c.calm, fun x h => ?_⟩
  unfold locB at h
  cases e : scope.names.lookup x with
  | none => rw [e] at h; cases h
  | some kd =>
    rw [e] at h
    cases kd <;> first
      | exact .inr (lookup_relS_keep (by simp) e)
      | (refine .inl ?_
         show (scope.names.lookup x == some NameKind.cell) = true
         rw [e]; rfl)
      | cases h
theorem frz_no (v : Vl) (s : Sto) : (frzV v >>= asB) s = .no := by
  cases v with
  | d x => rfl
  | o i =>
    unfold frzV
    simp only [M.bind_assoc]
    rw [M.bind_run]
    unfold getO
    cases s[i]? with
    | none => rfl
    | some o => cases o <;> rfl
theorem lo_ok {X : Cx} {lo : Option Int} {l : Option Expr} (h : loC lo l = true) : ∃ tl : TO, PO X l tl ∧ ∀ σ H Q, Q lo H → tl σ H Q := by
  unfold loC at h
  split at h
  · exact ⟨_, po_none, fun σ H Q q => q⟩
  · rename_i i j k p
    have : i = j := by simpa using h
    subst this
    exact ⟨_, po_some pe_int, fun σ H Q q => ⟨i, rfl, q⟩⟩
  · cases h
theorem st_ok {X : Cx} {st : Int} {z : Expr} (h : stC st z = true) : ∃ ts : TO, PO X (some z) ts ∧ ∀ σ H Q, Q (some st) H → ts σ H Q := by
  unfold stC at h
  split at h
  · rename_i j k p
    have : st = j := by simpa using h
    subst this
    exact ⟨_, po_some pe_int, fun σ H Q q => ⟨st, rfl, q⟩⟩
  · rename_i j k p p2
    have : st = -j := by simpa using h
    subst this
    exact ⟨_, po_some (pe_un un_neg pe_int), fun σ H Q q => ⟨j, rfl, -j, rfl, q⟩⟩
  · cases h
mutual
theorem sndE : ∀ (e : Dw.E) {X : Cx} {E : XK} {sc : Scope}, Cok k N sc X E → Fac T k X.prog X.w X.K X.mg X.base cl xc → ∀ x : Expr, chkE T N sc e x = true → PE X x (tE X.K cl xc E (evE (Phi T.fns k) e))
  | .non, X, E, sc, c, F, x, h => by
    unfold chkE at h
    split at h
    · exact PE.imp pe_non fun σ H Q q => tE_const (z := nonV) (v := .non) (fun _ => .non) (by simp only [evE] at q; exact q)
    · cases h
  | .bl b, X, E, sc, c, F, x, h => by
    unfold chkE at h
    split at h
    · simp only [beq_iff_eq] at h
      subst h
      exact PE.imp pe_bl fun σ H Q q => tE_const (z := blV b) (v := .bl b) (fun _ => .bl b) (by simp only [evE] at q; exact q)
    · cases h
  | .int b, X, E, sc, c, F, x, h => by
    unfold chkE at h
    split at h
    · simp only [beq_iff_eq] at h
      subst h
      exact PE.imp pe_int fun σ H Q q => tE_const (z := Dw.inV b) (v := .int b) (fun _ => .int b) (by simp only [evE] at q; exact q)
    · cases h
  | .str b, X, E, sc, c, F, x, h => by
    unfold chkE at h
    split at h
    · simp only [beq_iff_eq] at h
      subst h
      exact PE.imp pe_str fun σ H Q q => tE_const (z := stV b) (v := .str b) (fun _ => .str b) (by simp only [evE] at q; exact q)
    · cases h
  | .var i, X, E, sc, c, F, x, h => by
    unfold chkE at h
    split at h
    · simp only [Bool.and_eq_true, beq_iff_eq] at h
      obtain ⟨⟨h1, h2⟩, h3⟩ := h
      obtain ⟨n1, n2, n3⟩ := okNm_of h3
      exact PE.imp (pe_var (by rw [c.hN]; exact h1) (by rw [c.hsc]; exact vis_of h2) n1 n2) fun σ H Q q => tE_var (X := X) (cl := cl) (xc := xc) (E := E) i (by simp only [evE] at q; exact q)
    · cases h
  | .glb z d, X, E, sc, c, F, x, h => by
    unfold chkE at h
    split at h
    · simp only [Bool.and_eq_true, beq_iff_eq] at h
      obtain ⟨⟨⟨h1, h2⟩, h3⟩, h4⟩ := h
      obtain ⟨p, hp, hq⟩ := any_con h4
      simp only [Bool.and_eq_true, beq_iff_eq] at hq
      obtain ⟨v, u, f1, f2, f3⟩ := F.con p hp
      have hd := beqD_eq _ _ hq.2
      rw [hq.1] at f1
      exact PE.imp (pe_glob (glo_of c.hsc h2) f1 f2 (nmF h3)) fun σ H Q q => tE_const (z := .d d) (v := v) (fun W => by rw [← hd]; exact f3 W) (by simp only [evE] at q; exact q)
    · cases h
  | .bin op a b, X, E, sc, c, F, x, h => by
    unfold chkE at h
    split at h
    · simp only [Bool.and_eq_true, beq_iff_eq] at h
      obtain ⟨⟨rfl, ha⟩, hb⟩ := h
      obtain ⟨r, o1, o2⟩ := bin_ok (X := X) (cl := cl) (xc := xc) (E := E) op
      exact PE.imp (pe_op o1 (sndE a c F _ ha) (sndE b c F _ hb)) fun σ H Q q => tE_bin _ _ _ o2 (by simp only [evE] at q; exact q)
    · cases h
  | .cmp op a b, X, E, sc, c, F, x, h => by
    unfold chkE at h
    split at h
    · simp only [Bool.and_eq_true, beq_iff_eq] at h
      obtain ⟨⟨rfl, ha⟩, hb⟩ := h
      obtain ⟨r, o1, o2⟩ := cmp_ok (cl := cl) (xc := xc) (E := E) c.hu op
      exact PE.imp (pe_cmpR o1 (sndE a c F _ ha) (sndE b c F _ hb) (noMark (chk_plain b sc _ hb))) fun σ H Q q => tE_cmp _ _ _ o2 (by simp only [evE] at q; exact q)
    · cases h
  | .chain p1 p2 a b d, X, E, sc, c, F, x, h => by
    unfold chkE at h
    split at h
    · simp only [Bool.and_eq_true, beq_iff_eq] at h
      obtain ⟨⟨⟨⟨rfl, rfl⟩, ha⟩, hb⟩, hd⟩ := h
      obtain ⟨r1, o1, o2⟩ := cmp_ok (cl := cl) (xc := xc) (E := E) c.hu p1
      obtain ⟨r2, o3, o4⟩ := cmp_ok (cl := cl) (xc := xc) (E := E) c.hu p2
      exact PE.imp (pe_chain o1 o3 (sndE a c F _ ha) (sndE b c F _ hb) (sndE d c F _ hd) (lastM (chk_plain b sc _ hb) (chk_plain d sc _ hd))) fun σ H Q q => tE_chain _ _ _ _ _ o2 o4 (by simp only [evE] at q; exact q)
    · cases h
  | .andE as, X, E, sc, c, F, x, h => by
    unfold chkE at h
    split at h
    · exact PE.imp (sndAnd as c F _ h) fun σ H Q q => by simpa only [evE] using q
    · cases h
  | .orE as, X, E, sc, c, F, x, h => by
    unfold chkE at h
    split at h
    · exact PE.imp (sndOr as c F _ h) fun σ H Q q => by simpa only [evE] using q
    · cases h
  | .notE a, X, E, sc, c, F, x, h => by
    unfold chkE at h
    split at h
    · exact PE.imp (pe_not (sndE a c F _ h)) fun σ H Q q => tE_not (X := X) _ (by simp only [evE] at q; exact q)
    · cases h
  | .neg a, X, E, sc, c, F, x, h => by
    unfold chkE at h
    split at h
    · exact PE.imp (pe_un un_neg (sndE a c F _ h)) fun σ H Q q => tE_neg (X := X) _ (by simp only [evE] at q; exact q)
    · cases h
  | .call pu f as, X, E, sc, c, F, x, h => by
    unfold chkE at h
    split at h
    · simp only [Bool.and_eq_true] at h
      obtain ⟨⟨⟨h1, h2⟩, h3⟩, h4⟩ := h
      obtain ⟨I, hI, hq⟩ := any_inf h1
      simp only [Bool.and_eq_true, beq_iff_eq] at hq
      obtain ⟨⟨i1, i2⟩, i3⟩ := hq
      obtain ⟨a, fd, g1, g2, g3, g4⟩ := F.fn I hI
      rw [i3] at g4
      obtain ⟨g4, g5⟩ := g4
      have hp := chks_plain as sc _ h4
      rw [i1] at g1 g3
      refine PE.imp (pe_call g1 (room_of c) (glo_of c.hsc h2) (by rw [← i2]; exact g4) g5 g2 .nil (passes0 c) (sndA as c F _ h4) (nmF h3) (star_plain (hp _ List.mem_cons_self)) (star_none fun e he => hp e (List.mem_cons_of_mem _ he))) fun σ H Q q => ?_
      cases pu with
      | false => exact tE_call g3 _ (by simp only [evE, Bool.false_eq_true, if_false] at q; exact q)
      | true => exact tE_callP g3 _ (by simp only [evE, if_true] at q; exact q)
    · cases h
  | .meth ci m f o as, X, E, sc, c, F, x, h => by
    unfold chkE at h
    split at h
    · rename_i v n ap es p
      simp only [Bool.and_eq_true, beq_iff_eq, decide_eq_true_eq] at h
      obtain ⟨⟨⟨⟨⟨⟨⟨h1, h2⟩, h3⟩, h4⟩, h5⟩, h6⟩, h7⟩, h8⟩ := h
      subst h1
      obtain ⟨I, hI, hq⟩ := any_inf h2
      simp only [Bool.and_eq_true, beq_iff_eq] at hq
      obtain ⟨⟨i1, i2⟩, i3⟩ := hq
      obtain ⟨J, hJ, j1⟩ := any_cls h3
      have j1 : J.c = ci := by simpa using j1
      obtain ⟨a, fd, g1, g2, g3, g4⟩ := F.fn I hI
      rw [i3] at g4
      dsimp only at g4
      rw [i1] at g1 g3
      rw [i2] at g4
      have hcl := (F.cls J hJ).1
      rw [j1] at hcl
      have hp := chks_plain as sc _ h8
      cases es with
      | nil =>
        cases as with
        | nil =>
          refine PE.imp (pe_meth0 (sndE o c F _ h4) hcl g4 g1 (room_of c) g2 .nil (passes0 c) (meth_tree h5 (by simpa using h6) h7 hp)) fun σ H Q q => ?_
          have := tE_meth (X := X) g3 (evE (Phi T.fns k) o) (fun _ => (pure [] : M (List Vl))) (σ := σ) (H := H) (Q := Q) (c := ci) (m := n) (by simp only [evE, evEs] at q; exact q)
          exact tMeth_mono (fun σ H Q q => tA_nil (X := X) q) this tE_monoQ
        | cons _ _ => unfold chkEs at h8; cases h8
      | cons e es =>
        exact PE.imp (pe_meth (sndE o c F _ h4) hcl g4 g1 (room_of c) g2 .nil (passes0 c) (sndA as c F _ h8) (star_plain (hp _ List.mem_cons_self)) (star_none fun e he => hp e (List.mem_cons_of_mem _ he)) (meth_tree h5 (by simpa using h6) h7 hp)) fun σ H Q q =>
          tE_meth (X := X) g3 _ _ (by simp only [evE] at q; exact q)
    · cases h
  | .make ci f as, X, E, sc, c, F, x, h => by
    unfold chkE at h
    split at h
    · simp only [Bool.and_eq_true] at h
      obtain ⟨⟨⟨h1, h2⟩, h3⟩, h4⟩ := h
      obtain ⟨J, hJ, j1⟩ := any_cls h1
      simp only [Bool.and_eq_true, beq_iff_eq] at j1
      obtain ⟨⟨j1, j2⟩, j3⟩ := j1
      obtain ⟨g1, g2, g3, a, fd, ps, g4, g5, g6, g7⟩ := F.cls J hJ
      rw [j1] at g1 g2 g4
      rw [j2] at g2
      rw [j3] at g6 g7
      have hp := chks_plain as sc _ h4
      exact PE.imp (pe_make g4 g7 (c.room) (glo_of c.hsc h2) g2 g5 .nil (passes0 c) (sndA as c F _ h4) (nmF h3) (star_plain (hp _ List.mem_cons_self)) (star_none fun e he => hp e (List.mem_cons_of_mem _ he))) fun σ H Q q =>
        tE_make (X := X) g6 _ (by simp only [evE] at q; exact q)
    · cases h
  | .bi b as, X, E, sc, c, F, x, h => by
    unfold chkE at h
    split at h
    · simp only [Bool.and_eq_true, beq_iff_eq] at h
      obtain ⟨⟨⟨⟨⟨h1, h2⟩, h3⟩, h4⟩, h5⟩, h6⟩ := h
      have hp := chks_plain as sc _ h6
      have hs := star_plain (env := X.env) (es := ‹List Expr›) (hp _ List.mem_cons_self)
      have hn := star_none (env := X.env) (pos := ‹Pos›) fun e he => hp e (List.mem_cons_of_mem _ he)
      refine PE.imp (t := tCB (BiR X.K b) (tA X.K cl xc E (evEs (Phi T.fns k) as))) ?_ fun σ H Q q => tE_bi (X := X) b _ (by simp only [evE] at q; exact q)
      have hm := blt_of F h3
      have ha := sndA as c F _ h6
      have hg := glo_of c.hsc h4
      obtain ⟨n1, n2, n3⟩ := okNm_of h5
      subst h1
      cases b <;> first
        | exact pe_callB (bi_call c.calm c.hu6 .len) hg hm (by decide +kernel) ha n3 n1 hs hn
        | exact pe_callB (bi_call c.calm c.hu6 .all) hg hm (by decide +kernel) ha n3 n1 hs hn
        | exact pe_callB (bi_call c.calm c.hu6 .any) hg hm (by decide +kernel) ha n3 n1 hs hn
        | exact pe_callB (bi_call c.calm c.hu6 .min) hg hm (by decide +kernel) ha n3 n1 hs hn
        | exact pe_callB (bi_call c.calm c.hu6 .max) hg hm (by decide +kernel) ha n3 n1 hs hn
        | exact pe_callB (bi_call c.calm c.hu6 .sum) hg hm (by decide +kernel) ha n3 n1 hs hn
        | exact pe_callB (bi_call c.calm c.hu6 .sorted) hg hm (by decide +kernel) ha n3 n1 hs hn
        | exact pe_callTy (bi_call c.calm c.hu6 .tuple) hg hm (by decide +kernel) ha n3 n1 hs hn
        | exact pe_callTy (bi_call c.calm c.hu6 .list) hg hm (by decide +kernel) ha n3 n1 hs hn
        | exact pe_callTy (bi_call c.calm c.hu6 .int) hg hm (by decide +kernel) ha n3 n1 hs hn
        | exact pe_callTy (bi_call c.calm c.hu6 .str) hg hm (by decide +kernel) ha n3 n1 hs hn
        | cases h2
    · cases h
  | .isi a ty, X, E, sc, c, F, x, h => by
    unfold chkE at h
    split at h
    · rename_i p e t p2 pos
      simp only [Bool.and_eq_true, beq_iff_eq] at h
      obtain ⟨⟨⟨⟨⟨⟨⟨⟨h1, h2⟩, h3⟩, h4⟩, h5⟩, h6⟩, h7⟩, h8⟩, h9⟩ := h
      subst h1 h2
      obtain ⟨n1, n2, n3⟩ := okNm_of h8
      have hpe := chk_plain a sc _ h9
      have ht := blt_of F h5
      have hgt := glo_of c.hsc h7
      have key : ∀ n : String, tyVal t = some n → bootBuiltins t = some (.type n) → PE X (.Call (.Name "isinstance" p) [e, .Name t p2] [] pos) (tE X.K cl xc E (evE (Phi T.fns k) (.isi a t))) := fun n hv hb =>
        PE.imp (pe_callB call_isi (glo_of c.hsc h6) (blt_of F h4) PyProof.Rows.boot_isinstance (pa_cons (sndE a c F _ h9) (pa_cons (pe_bltn (v := .ty n) (u := .type n) hgt ht hb rfl n3 n1) pa_nil rfl) (star_plain hpe)) (by decide) (by decide) (star_plain hpe) (star_none (es := [.Name t p2]) (fun e he => by
            rcases List.mem_cons.mp he with z | z
            · rw [z]; rfl
            · cases z))) fun σ H Q q => tE_isi (X := X) hv _ (by simp only [evE] at q; exact q)
      have hmem : t = "int" ∨ t = "bool" ∨ t = "str" ∨ t = "tuple" ∨ t = "list" := by simpa [tyNames] using h3
      rcases hmem with rfl | rfl | rfl | rfl | rfl
      · exact key "int" rfl (by decide +kernel)
      · exact key "bool" rfl (by decide +kernel)
      · exact key "str" rfl (by decide +kernel)
      · exact key "tuple" rfl (by decide +kernel)
      · exact key "list" rfl (by decide +kernel)
    · cases h
  | .mt m o as, X, E, sc, c, F, x, h => by
    unfold chkE at h
    split at h
    · rename_i v n ap es p
      simp only [Bool.and_eq_true, beq_iff_eq, decide_eq_true_eq] at h
      obtain ⟨⟨⟨⟨⟨⟨h1, h2⟩, h4⟩, h5⟩, h6⟩, h7⟩, h8⟩ := h
      subst h1
      have hp := chks_plain as sc _ h8
      have hb := recv_base (env := X.env) (f := MtN m) h5
      have hl : (ap.endLine == p.line) = true := by simpa using h6
      have hf := few_args (pos := p) (env := X.env) h7 hp
      have ho := sndE o c F _ h4
      cases es with
      | nil =>
        cases as with
        | nil =>
          refine PE.imp (t := tBM0 X.K "list" (MtRd X.K m) (tE X.K cl xc E (evE (Phi T.fns k) o))) ?_ fun σ H Q q => tE_mt0 (X := X) m _ (by simp only [evE, evEs] at q; exact q)
          cases m <;> first
            | exact pe_bm0 PySem.F.plainAttrs_list PySem.F.slot_list_append PySem.F.type_list_append mt_append ho hb hl
            | exact pe_bm0 PySem.F.plainAttrs_list PySem.F.slot_list_extend PySem.F.type_list_extend mt_extend ho hb hl
            | exact pe_bm0 PySem.F.plainAttrs_list PySem.F.slot_list_pop PySem.F.type_list_pop mt_pop ho hb hl
            | exact pe_bm0 PySem.F.plainAttrs_list PySem.F.slot_list_index PySem.F.type_list_index (mt_indexD c.hu) ho hb hl
            | cases h2
        | cons _ _ => unfold chkEs at h8; cases h8
      | cons e es =>
        have ha := sndA as c F _ h8
        have hs := star_plain (env := X.env) (es := es) (hp _ List.mem_cons_self)
        have hn := star_none (env := X.env) (pos := p) fun e he => hp e (List.mem_cons_of_mem _ he)
        refine PE.imp (t := tBM X.K "list" (MtRd X.K m) (tE X.K cl xc E (evE (Phi T.fns k) o)) (tA X.K cl xc E (evEs (Phi T.fns k) as))) ?_ fun σ H Q q => tE_mt (X := X) m _ _ (by simp only [evE] at q; exact q)
        cases m <;> first
          | exact pe_bm PySem.F.plainAttrs_list PySem.F.slot_list_append PySem.F.type_list_append mt_append ho ha hb hf hl hs hn
          | exact pe_bm PySem.F.plainAttrs_list PySem.F.slot_list_extend PySem.F.type_list_extend mt_extend ho ha hb hf hl hs hn
          | exact pe_bm PySem.F.plainAttrs_list PySem.F.slot_list_pop PySem.F.type_list_pop mt_pop ho ha hb hf hl hs hn
          | exact pe_bm PySem.F.plainAttrs_list PySem.F.slot_list_index PySem.F.type_list_index (mt_indexD c.hu) ho ha hb hf hl hs hn
          | cases h2
    · cases h
  | .tup as, X, E, sc, c, F, x, h => by
    unfold chkE at h
    split at h
    · exact PE.imp (pe_tup (sndA as c F _ h)) fun σ H Q q => tE_tup (X := X) _ (by simp only [evE] at q; exact q)
    · cases h
  | .lst mu as, X, E, sc, c, F, x, h => by
    unfold chkE at h
    split at h
    · exact PE.imp (pe_lst (sndA as c F _ h)) fun σ H Q q => tE_lst (X := X) mu _ (by simp only [evE] at q; exact q)
    · cases h
  | .ix a i, X, E, sc, c, F, x, h => by
    unfold chkE at h
    split at h
    · simp only [Bool.and_eq_true] at h
      exact PE.imp (pe_ix ix_seq (sndE a c F _ h.1) (sndE i c F _ h.2) (plainIx (chk_plain i sc _ h.2))) fun σ H Q q => tE_bin (X := X) _ _ _ ok_ix (by simp only [evE] at q; exact q)
    · cases h
  | .sl a lo hi, X, E, sc, c, F, x, h => by
    unfold chkE at h
    split at h
    · simp only [Bool.and_eq_true] at h
      obtain ⟨⟨h1, h2⟩, h3⟩ := h
      exact PE.imp (pe_slice sl_any (sndE a c F _ h1) (sndO lo c F _ h2) (sndO hi c F _ h3)) fun σ H Q q => tE_sl (X := X) _ _ _ (by simp only [evE] at q; exact q)
    · cases h
  | .addM a b, X, E, sc, c, F, x, h => by
    unfold chkE at h
    split at h
    · simp only [Bool.and_eq_true] at h
      exact PE.imp (pe_op op_cat (sndE a c F _ h.1) (sndE b c F _ h.2)) fun σ H Q q => tE_bin (X := X) _ _ _ ok_addM (by simp only [evE] at q; exact q)
    · cases h
  | .stp a lo st, X, E, sc, c, F, x, h => by
    unfold chkE at h
    split at h
    · simp only [Bool.and_eq_true] at h
      obtain ⟨⟨h1, h2⟩, h3⟩ := h
      have he := sndE a c F _ h3
      have fin := fun (σ : L2.St) (H : Hp) (Q : VK) (q : tE X.K cl xc E (evE (Phi T.fns k) (.stp a lo st)) σ H Q) => tE_stp (X := X) (lo := lo) (st := st) (evE (Phi T.fns k) a) (σ := σ) (H := H) (Q := Q) (by simp only [evE] at q; exact q)
      obtain ⟨tl, hl, gl⟩ := lo_ok (X := X) h1
      obtain ⟨ts, hs, gs⟩ := st_ok (X := X) h2
      exact PE.imp (pe_stp he hl hs gl gs) fin
    · cases h
  | .comp mu elt tg it ifs own, X, E, sc, c, F, x, h => by
    unfold chkE at h
    split at h
    · simp only [Bool.and_eq_true, decide_eq_true_eq] at h
      obtain ⟨⟨⟨⟨⟨⟨⟨h1, h2⟩, h3⟩, h4⟩, h5⟩, h6⟩, h7⟩, h8⟩ := h
      have hit := chkIt_plain it sc _ _ h3
      refine PE.imp (pe_lc (wi := tI X.K cl xc E (evIt (Phi T.fns k) it)) (g := tG X.K cl tg) (tt := tT X.K cl xc F0 (evIf (Phi T.fns k) ifs)) (te := tE X.K cl xc F0 (evE (Phi T.fns k) elt)) c.calm (by rw [c.hN]; exact c.nd) (sndI it c F _ _ h3) (by rw [c.hN, c.hsc]; exact blkOk_by h1) (fun s H C clo fp => snd_tg (nms_blk c s H C clo fp _) tg _ h4 h5) (fun s H C clo fp => sndIf ifs (c.blk s H C clo fp _) F _ h7) (fun s H C clo fp => sndE elt (c.blk s H C clo fp _) F _ h8) (noFold hit)) fun σ H Q q => ?_
      rw [h2]
      exact tE_comp h6 _ _ _ (by simp only [evE] at q; exact q)
    · cases h
  | .attr ci o f, X, E, sc, c, F, x, h => by
    unfold chkE at h
    split at h
    · simp only [Bool.and_eq_true, beq_iff_eq] at h
      obtain ⟨⟨⟨h1, h2⟩, h3⟩, h4⟩ := h
      subst h1
      obtain ⟨J, hJ, j1⟩ := any_cls h4
      simp only [Bool.and_eq_true, beq_iff_eq] at j1
      obtain ⟨j1, j2⟩ := j1
      obtain ⟨g1, g2, g3, _⟩ := F.cls J hJ
      have g3 := g3 _ (by simpa using j2)
      rw [j1] at g1 g3
      exact PE.imp (pe_fld (sndE o c F _ h2) (recv_base h3)) fun σ H Q q => tE_attr (X := X) g1 g3 _ (by simp only [evE] at q; exact q)
    · cases h
  | .frz a, X, E, sc, c, F, x, h => by
    unfold chkE at h
    exact PE.imp (sndE a c F _ h) fun σ H Q q => tE_frz (X := X) _ (by simp only [evE] at q; exact q)
theorem sndA : ∀ (as : Es) {X : Cx} {E : XK} {sc : Scope}, Cok k N sc X E → Fac T k X.prog X.w X.K X.mg X.base cl xc → ∀ es : List Expr, chkEs T N sc as es = true → PA X es (tA X.K cl xc E (evEs (Phi T.fns k) as))
  | .nil, X, E, sc, c, F, es, h => by
    unfold chkEs at h
    split at h
    · exact PA.imp pa_nil fun σ H Q q => tA_nil (X := X) (by simp only [evEs] at q; exact q)
    · cases h
  | .cons a r, X, E, sc, c, F, es, h => by
    unfold chkEs at h
    split at h
    · simp only [Bool.and_eq_true] at h
      exact PA.imp (pa_cons (sndE a c F _ h.1) (sndA r c F _ h.2) (star_plain (chk_plain a sc _ h.1))) fun σ H Q q => tA_cons (X := X) _ _ (by simp only [evEs] at q; exact q)
    · cases h
theorem sndO : ∀ (o : Eo) {X : Cx} {E : XK} {sc : Scope}, Cok k N sc X E → Fac T k X.prog X.w X.K X.mg X.base cl xc → ∀ x : Option Expr, chkEo T N sc o x = true → PO X x (tO X.K cl xc E (evEo (Phi T.fns k) o))
  | .no, X, E, sc, c, F, x, h => by
    unfold chkEo at h
    split at h
    · exact PO.imp po_none fun σ H Q q => tO_no (X := X) (by simp only [evEo] at q; exact q)
    · cases h
  | .so a, X, E, sc, c, F, x, h => by
    unfold chkEo at h
    split at h
    · exact PO.imp (po_some (sndE a c F _ h)) fun σ H Q q => tO_so (X := X) _ (by simp only [evEo] at q; exact q)
    · cases h
theorem sndAnd : ∀ (as : Es) {X : Cx} {E : XK} {sc : Scope}, Cok k N sc X E → Fac T k X.prog X.w X.K X.mg X.base cl xc → ∀ (es : List Expr) {pos : Pos}, chkEs T N sc as es = true → PE X (.BoolOp .And es pos) (tE X.K cl xc E (evAnd (Phi T.fns k) as))
  | .nil, X, E, sc, c, F, es, pos, h => PE.imp PE.none fun σ H Q q => by
    obtain ⟨env, W, rfl, he, w, p⟩ := q
    simp only [evAnd] at p
    exact p.elim
  | .cons a .nil, X, E, sc, c, F, es, pos, h => by
    unfold chkEs at h
    split at h
    · rename_i e es
      simp only [Bool.and_eq_true] at h
      have h2 := h.2
      unfold chkEs at h2
      split at h2
      · exact PE.imp (pe_one (sndE a c F _ h.1)) fun σ H Q q => by simpa only [evAnd] using q
      · cases h2
    · cases h
  | .cons a (.cons b r), X, E, sc, c, F, es, pos, h => by
    unfold chkEs at h
    split at h
    · rename_i e es
      simp only [Bool.and_eq_true] at h
      cases es with
      | nil => have h2 := h.2; unfold chkEs at h2; cases h2
      | cons e2 es => exact PE.imp (pe_and (sndE a c F _ h.1) (sndAnd (.cons b r) c F _ h.2)) fun σ H Q q => tE_and (X := X) _ _ (by simp only [evAnd] at q; exact q)
    · cases h
theorem sndOr : ∀ (as : Es) {X : Cx} {E : XK} {sc : Scope}, Cok k N sc X E → Fac T k X.prog X.w X.K X.mg X.base cl xc → ∀ (es : List Expr) {pos : Pos}, chkEs T N sc as es = true → PE X (.BoolOp .Or es pos) (tE X.K cl xc E (evOr (Phi T.fns k) as))
  | .nil, X, E, sc, c, F, es, pos, h => PE.imp PE.none fun σ H Q q => by
    obtain ⟨env, W, rfl, he, w, p⟩ := q
    simp only [evOr] at p
    exact p.elim
  | .cons a .nil, X, E, sc, c, F, es, pos, h => by
    unfold chkEs at h
    split at h
    · rename_i e es
      simp only [Bool.and_eq_true] at h
      have h2 := h.2
      unfold chkEs at h2
      split at h2
      · exact PE.imp (pe_one (sndE a c F _ h.1)) fun σ H Q q => by simpa only [evOr] using q
      · cases h2
    · cases h
  | .cons a (.cons b r), X, E, sc, c, F, es, pos, h => by
    unfold chkEs at h
    split at h
    · rename_i e es
      simp only [Bool.and_eq_true] at h
      cases es with
      | nil => have h2 := h.2; unfold chkEs at h2; cases h2
      | cons e2 es => exact PE.imp (pe_or (sndE a c F _ h.1) (sndOr (.cons b r) c F _ h.2)) fun σ H Q q => tE_or (X := X) _ _ (by simp only [evOr] at q; exact q)
    · cases h
/-- as tests -/
theorem sndT : ∀ (e : Dw.E) {X : Cx} {E : XK} {sc : Scope}, Cok k N sc X E → Fac T k X.prog X.w X.K X.mg X.base cl xc → ∀ x : Expr, chkE T N sc e x = true → PT X x (tT X.K cl xc E (fun env => evE (Phi T.fns k) e env >>= asB))
  | .andE as, X, E, sc, c, F, x, h => by
    unfold chkE at h
    split at h
    · exact PT.imp (PW.pt (sndAndT as c F _ h)) fun σ H Q q => by simpa only [evE] using q
    · cases h
  | .orE as, X, E, sc, c, F, x, h => by
    unfold chkE at h
    split at h
    · exact PT.imp (PW.pt (sndOrT as c F _ h)) fun σ H Q q => by simpa only [evE] using q
    · cases h
  | .notE a, X, E, sc, c, F, x, h => by
    unfold chkE at h
    split at h
    · exact PT.imp (pt_not (sndT a c F _ h)) fun σ H Q q => tT_not (X := X) _ (by simp only [evE] at q; exact q)
    · cases h
  | .cmp op a b, X, E, sc, c, F, x, h => by
    unfold chkE at h
    split at h
    · simp only [Bool.and_eq_true, beq_iff_eq] at h
      obtain ⟨⟨rfl, ha⟩, hb⟩ := h
      obtain ⟨r, o1, o2⟩ := cmp_ok (cl := cl) (xc := xc) (E := E) c.hu op
      exact PT.imp (pt_cmpR o1 (sndE a c F _ ha) (sndE b c F _ hb) (noMark (chk_plain b sc _ hb))) fun σ H Q q => tT_cmp _ _ _ o2 (by simp only [evE] at q; exact q)
    · cases h
  | .chain p1 p2 a b d, X, E, sc, c, F, x, h => by
    unfold chkE at h
    split at h
    · simp only [Bool.and_eq_true, beq_iff_eq] at h
      obtain ⟨⟨⟨⟨rfl, rfl⟩, ha⟩, hb⟩, hd⟩ := h
      obtain ⟨r1, o1, o2⟩ := cmp_ok (cl := cl) (xc := xc) (E := E) c.hu p1
      obtain ⟨r2, o3, o4⟩ := cmp_ok (cl := cl) (xc := xc) (E := E) c.hu p2
      exact PT.imp (pt_chain o1 o3 (sndE a c F _ ha) (sndE b c F _ hb) (sndE d c F _ hd) (lastM (chk_plain b sc _ hb) (chk_plain d sc _ hd))) fun σ H Q q => tT_chain _ _ _ _ _ o2 o4 (by simp only [evE] at q; exact q)
    · cases h
  | .call pu f as, X, E, sc, c, F, x, h => by
    have hx := sndE (.call pu f as) c F x h
    unfold chkE at h
    split at h
    · exact PT.imp (pt_val hx) fun σ H Q q => tT_val (X := X) _ q
    · cases h
  | .meth ci m f o as, X, E, sc, c, F, x, h => by
    have hx := sndE (.meth ci m f o as) c F x h
    unfold chkE at h
    split at h
    · exact PT.imp (pt_val hx) fun σ H Q q => tT_val (X := X) _ q
    · cases h
  | .bi b as, X, E, sc, c, F, x, h => by
    have hx := sndE (.bi b as) c F x h
    unfold chkE at h
    split at h
    · exact PT.imp (pt_val hx) fun σ H Q q => tT_val (X := X) _ q
    · cases h
  | .isi b as, X, E, sc, c, F, x, h => by
    have hx := sndE (.isi b as) c F x h
    unfold chkE at h
    split at h
    · exact PT.imp (pt_val hx) fun σ H Q q => tT_val (X := X) _ q
    · cases h
  | .var i, X, E, sc, c, F, x, h => by
    have hx := sndE (.var i) c F x h
    unfold chkE at h
    split at h
    · exact PT.imp (pt_val hx) fun σ H Q q => tT_val (X := X) _ q
    · cases h
  | .ix a i, X, E, sc, c, F, x, h => by
    have hx := sndE (.ix a i) c F x h
    unfold chkE at h
    split at h
    · exact PT.imp (pt_val hx) fun σ H Q q => tT_val (X := X) _ q
    · cases h
  | .attr ci o f, X, E, sc, c, F, x, h => by
    have hx := sndE (.attr ci o f) c F x h
    unfold chkE at h
    split at h
    · exact PT.imp (pt_val hx) fun σ H Q q => tT_val (X := X) _ q
    · cases h
  | .bl b, X, E, sc, c, F, x, h => by
    have hx := sndE (.bl b) c F x h
    unfold chkE at h
    split at h
    · exact PT.imp (pt_val hx) fun σ H Q q => tT_val (X := X) _ q
    · cases h
  | .non, X, E, sc, c, F, x, h => by
    have hx := sndE (.non) c F x h
    unfold chkE at h
    split at h
    · exact PT.imp (pt_val hx) fun σ H Q q => tT_val (X := X) _ q
    · cases h
  | .int b, X, E, sc, c, F, x, h => by
    have hx := sndE (.int b) c F x h
    unfold chkE at h
    split at h
    · exact PT.imp (pt_val hx) fun σ H Q q => tT_val (X := X) _ q
    · cases h
  | .str b, X, E, sc, c, F, x, h => by
    have hx := sndE (.str b) c F x h
    unfold chkE at h
    split at h
    · exact PT.imp (pt_val hx) fun σ H Q q => tT_val (X := X) _ q
    · cases h
  | .glb z d, X, E, sc, c, F, x, h => by
    have hx := sndE (.glb z d) c F x h
    unfold chkE at h
    split at h
    · exact PT.imp (pt_val hx) fun σ H Q q => tT_val (X := X) _ q
    · cases h
  | .bin op a b, X, E, sc, c, F, x, h => by
    have hx := sndE (.bin op a b) c F x h
    unfold chkE at h
    split at h
    · exact PT.imp (pt_val hx) fun σ H Q q => tT_val (X := X) _ q
    · cases h
  | .neg a, X, E, sc, c, F, x, h => by
    have hx := sndE (.neg a) c F x h
    unfold chkE at h
    split at h
    · exact PT.imp (pt_val hx) fun σ H Q q => tT_val (X := X) _ q
    · cases h
  | .make ci f as, X, E, sc, c, F, x, h => by
    have hx := sndE (.make ci f as) c F x h
    unfold chkE at h
    split at h
    · exact PT.imp (pt_val hx) fun σ H Q q => tT_val (X := X) _ q
    · cases h
  | .mt m o as, X, E, sc, c, F, x, h => by
    have hx := sndE (.mt m o as) c F x h
    unfold chkE at h
    split at h
    · exact PT.imp (pt_val hx) fun σ H Q q => tT_val (X := X) _ q
    · cases h
  | .tup as, X, E, sc, c, F, x, h => by
    have hx := sndE (.tup as) c F x h
    unfold chkE at h
    split at h
    · exact PT.imp (pt_val hx) fun σ H Q q => tT_val (X := X) _ q
    · cases h
  | .lst mu as, X, E, sc, c, F, x, h => by
    have hx := sndE (.lst mu as) c F x h
    unfold chkE at h
    split at h
    · exact PT.imp (pt_val hx) fun σ H Q q => tT_val (X := X) _ q
    · cases h
  | .sl a lo hi, X, E, sc, c, F, x, h => by
    have hx := sndE (.sl a lo hi) c F x h
    unfold chkE at h
    split at h
    · exact PT.imp (pt_val hx) fun σ H Q q => tT_val (X := X) _ q
    · cases h
  | .addM a b, X, E, sc, c, F, x, h => by
    have hx := sndE (.addM a b) c F x h
    unfold chkE at h
    split at h
    · exact PT.imp (pt_val hx) fun σ H Q q => tT_val (X := X) _ q
    · cases h
  | .stp a b st, X, E, sc, c, F, x, h => by
    have hx := sndE (.stp a b st) c F x h
    unfold chkE at h
    split at h
    · exact PT.imp (pt_val hx) fun σ H Q q => tT_val (X := X) _ q
    · cases h
  | .comp mu elt tg it ifs own, X, E, sc, c, F, x, h => by
    have hx := sndE (.comp mu elt tg it ifs own) c F x h
    unfold chkE at h
    split at h
    · exact PT.imp (pt_val hx) fun σ H Q q => tT_val (X := X) _ q
    · cases h
  | .frz a, X, E, sc, c, F, x, h => by
    unfold chkE at h
    refine PT.imp (sndT a c F x h) fun σ H Q q => ?_
    obtain ⟨env, W, rfl, he, w, p⟩ := q
    refine ⟨env, W, rfl, he, w, ?_⟩
    simp only [evE, M.bind_assoc] at p
    show Post X.K cl xc E W ((evE (Phi T.fns k) a env >>= asB) W.st) _
    rw [M.bind_run] at p ⊢
    cases e : evE (Phi T.fns k) a env W.st with
    | no => rw [e] at p; exact p.elim
    | ex cc s => rw [e] at p; exact p
    | ok v s =>
      rw [e] at p
      have p : Post X.K cl xc E W ((frzV v >>= asB) s) _ := p
      rw [frz_no] at p
      exact p.elim
theorem sndAndT : ∀ (as : Es) {X : Cx} {E : XK} {sc : Scope}, Cok k N sc X E → Fac T k X.prog X.w X.K X.mg X.base cl xc → ∀ (es : List Expr) {pos : Pos}, chkEs T N sc as es = true → PW X (.BoolOp .And es pos) (tT X.K cl xc E (fun env => evAnd (Phi T.fns k) as env >>= asB))
  | .nil, X, E, sc, c, F, es, pos, h => PW.imp PW.none fun σ H Q q => by
    obtain ⟨env, W, rfl, he, w, p⟩ := q
    simp only [evAnd] at p
    exact p.elim
  | .cons a .nil, X, E, sc, c, F, es, pos, h => by
    unfold chkEs at h
    split at h
    · rename_i e es
      simp only [Bool.and_eq_true] at h
      have h2 := h.2
      unfold chkEs at h2
      split at h2
      · exact PW.imp (pw_and1 (sndT a c F _ h.1)) fun σ H Q q => by simpa only [evAnd] using q
      · cases h2
    · cases h
  | .cons a (.cons b r), X, E, sc, c, F, es, pos, h => by
    unfold chkEs at h
    split at h
    · rename_i e es
      simp only [Bool.and_eq_true] at h
      cases es with
      | nil => have h2 := h.2; unfold chkEs at h2; cases h2
      | cons e2 es => exact PW.imp (pw_and (sndT a c F _ h.1) (sndAndT (.cons b r) c F _ h.2)) fun σ H Q q => tT_and (X := X) _ _ (by simp only [evAnd] at q; exact q)
    · cases h
theorem sndOrT : ∀ (as : Es) {X : Cx} {E : XK} {sc : Scope}, Cok k N sc X E → Fac T k X.prog X.w X.K X.mg X.base cl xc → ∀ (es : List Expr) {pos : Pos}, chkEs T N sc as es = true → PW X (.BoolOp .Or es pos) (tT X.K cl xc E (fun env => evOr (Phi T.fns k) as env >>= asB))
  | .nil, X, E, sc, c, F, es, pos, h => PW.imp PW.none fun σ H Q q => by
    obtain ⟨env, W, rfl, he, w, p⟩ := q
    simp only [evOr] at p
    exact p.elim
  | .cons a .nil, X, E, sc, c, F, es, pos, h => by
    unfold chkEs at h
    split at h
    · rename_i e es
      simp only [Bool.and_eq_true] at h
      have h2 := h.2
      unfold chkEs at h2
      split at h2
      · exact PW.imp (pw_or1 (sndT a c F _ h.1)) fun σ H Q q => by simpa only [evOr] using q
      · cases h2
    · cases h
  | .cons a (.cons b r), X, E, sc, c, F, es, pos, h => by
    unfold chkEs at h
    split at h
    · rename_i e es
      simp only [Bool.and_eq_true] at h
      cases es with
      | nil => have h2 := h.2; unfold chkEs at h2; cases h2
      | cons e2 es => exact PW.imp (pw_or (sndT a c F _ h.1) (sndOrT (.cons b r) c F _ h.2)) fun σ H Q q => tT_or (X := X) _ _ (by simp only [evOr] at q; exact q)
    · cases h
theorem sndIf : ∀ (o : Eo) {X : Cx} {E : XK} {sc : Scope}, Cok k N sc X E → Fac T k X.prog X.w X.K X.mg X.base cl xc → ∀ x : List Expr, chkIf T N sc o x = true → PTs X x (tT X.K cl xc E (evIf (Phi T.fns k) o))
  | .no, X, E, sc, c, F, x, h => by
    unfold chkIf at h
    split at h
    · exact PTs.imp pts_nil fun σ H Q q => by
        obtain ⟨env, W, rfl, he, w, p⟩ := q
        rw [evIf] at p
        exact Post.pure w p
    · cases h
  | .so a, X, E, sc, c, F, x, h => by
    unfold chkIf at h
    split at h
    · exact PTs.imp (pts_one (sndT a c F _ h)) fun σ H Q q => by simpa only [evIf] using q
    · cases h
theorem sndI : ∀ (it : Dw.It) {X : Cx} {E : XK} {sc : Scope}, Cok k N sc X E → Fac T k X.prog X.w X.K X.mg X.base cl xc → ∀ x tg : Expr, chkIt T N sc it x tg = true → PI X tg x (tI X.K cl xc E (evIt (Phi T.fns k) it))
  | .of a, X, E, sc, c, F, x, tg, h => by
    unfold chkIt at h
    exact PI.imp (pi_any (sndE a c F _ h)) fun σ H R q => tI_of (X := X) _ (by simp only [evIt] at q; exact q)
  | .range as, X, E, sc, c, F, x, tg, h => by
    unfold chkIt at h
    split at h
    · rename_i z p1 es p2
      simp only [Bool.and_eq_true] at h
      obtain ⟨⟨⟨⟨h1, h2⟩, h3⟩, h4⟩, h5⟩ := h
      have h1 : z = "range" := by simpa using h1
      subst h1
      have hp := chks_plain as sc _ h4
      have hl := evEs_len (Φ := Phi T.fns k) as sc _ h4
      have hm := blt_of F h2
      have hg := glo_of c.hsc h3
      have ha := sndA as c F _ h4
      match es, h4, h5, hp, hl, ha with
      | [], _, h5, _, _, _ => cases h5
      | [e], h4, h5, hp, hl, ha =>
        exact PI.imp (pi_range1 hg hm ha (star_plain (hp _ List.mem_cons_self))) fun σ H R q => tI_range1 (X := X) _ (fun env s vs s' e => hl env s vs s' e) (by simp only [evIt] at q; exact q)
      | [e, e2], h4, h5, hp, hl, ha =>
        have q2 : starEach [e2] X.env = [(false, eval e2 X.env)] := star_plain (hp _ (List.mem_cons_of_mem _ List.mem_cons_self))
        exact PI.imp (pi_range2 hg hm ha (by rw [star_plain (hp _ List.mem_cons_self), q2]) q2) fun σ H R q => tI_range2 (X := X) _ (fun env s vs s' e => hl env s vs s' e) (by simp only [evIt] at q; exact q)
      | _ :: _ :: _ :: _, _, h5, _, _, _ => simp at h5
    · cases h
  | .enum a, X, E, sc, c, F, x, tg, h => by
    unfold chkIt at h
    split at h
    · simp only [Bool.and_eq_true, beq_iff_eq] at h
      obtain ⟨⟨⟨h1, h2⟩, h3⟩, h4⟩ := h
      subst h1
      exact PI.imp (pi_enumK (glo_of c.hsc h3) (blt_of F h2) (pa_cons (sndE a c F _ h4) pa_nil (star_plain (chk_plain a sc _ h4))) (star_plain (chk_plain a sc _ h4))) fun σ H R q => tI_enum (X := X) _ (by simp only [evIt] at q; exact q)
    · cases h
  | .zip a b, X, E, sc, c, F, x, tg, h => by
    unfold chkIt at h
    split at h
    · simp only [Bool.and_eq_true, beq_iff_eq] at h
      obtain ⟨⟨⟨⟨h1, h2⟩, h3⟩, h4⟩, h5⟩ := h
      subst h1
      have s2 := star_plain (env := X.env) (es := []) (chk_plain b sc _ h5)
      exact PI.imp (pi_zipK (glo_of c.hsc h3) (blt_of F h2) (pa_cons (sndE a c F _ h4) (pa_cons (sndE b c F _ h5) pa_nil s2) (star_plain (chk_plain a sc _ h4))) (star_plain (chk_plain a sc _ h4)) (star_none (es := [_]) fun e he => by
        rcases List.mem_cons.mp he with z | z
        · rw [z]; exact chk_plain b sc _ h5
        · cases z)) fun σ H R q => tI_zip (X := X) _ _ (by simp only [evIt] at q; exact q)
    · cases h
end
end
end Dw

namespace Dw
open PySem L2
section
variable {cl xc : Nat → Addr} {k : Nat} {N : List Str} {T : Tx}
theorem any_exc {T : Tx} {p : Nat × Str → Bool} (h : T.exc.any p = true) : ∃ I ∈ T.exc, p I = true := by simpa [List.any_eq_true] using h
theorem sole_of {X : Cx} {t v : Expr} {l : Nat} (h : notComp v = true) : swapsWithSole [t] v l X.env = pure false := by
  unfold swapsWithSole
  exact notComp_sw h
theorem sw_stores {t v : Expr} {env : PySem.Env} (h : (match v with | .Tuple _ _ _ => true | _ => false) = false) : swappedStores [t] v env = pure none := by
  cases v <;> first
    | rfl
    | (cases t <;> rfl)
    | cases h
mutual
theorem sndS : ∀ (s : S) {X : Cx} {E : XK} {sc : Scope}, Cos k N sc X E → Fac T k X.prog X.w X.K X.mg X.base cl xc → ∀ x : Stmt, chkS T N sc s x = true → PS X x (tS X.K cl xc E (exS (Phi T.fns k) s))
  | .set i e, X, E, sc, c, F, x, h => by
    unfold chkS at h
    split at h
    · rename_i y py v p
      simp only [Bool.and_eq_true, beq_iff_eq] at h
      obtain ⟨⟨⟨h1, h2⟩, h3⟩, h4⟩ := h
      have hi : X.N[i]? = some y := by rw [c.hN]; exact h1
      have hN : X.N.Nodup := by rw [c.hN]; exact c.nd
      cases hnc : notComp v with
      | true => exact PS.imp (ps_set hN hi (by rw [c.hsc]; exact loc_of h2) (sndE e c.toCok F v h3) (notComp_sw hnc) (by rw [c.hsc]; exact c.fn y h2)) fun D σ H q => tS_set _ (by simp only [exS] at q; exact q)
      | false =>
        rw [hnc] at h4
        have h4 : asgC sc y py e v = true := by simpa using h4
        unfold asgC at h4
        split at h4
        · rename_i mu elt tg it ifs own heq0
          try subst heq0
          split at h4
          · rename_i el gs scope pos
            simp only [Bool.and_eq_true, Bool.not_eq_true'] at h4
            obtain ⟨⟨h4, h5⟩, h6⟩ := h4
            have hl : sc.names.lookup y = some .local := by
              split at h4
              · assumption
              · cases h4
            unfold chkE at h3
            split at h3
            · rename_i e1 t1 i1 f1 sc1 p1 heq
              cases heq
              simp only [Bool.and_eq_true, decide_eq_true_eq] at h3
              obtain ⟨⟨⟨⟨⟨⟨⟨g1, g2⟩, g3⟩, g4⟩, g5⟩, g6⟩, g7⟩, g8⟩ := h3
              have hit := chkIt_plain it sc _ _ g3
              have cc := c.toCok
              refine PS.imp (ps_setLc (wi := tI X.K cl xc E (evIt (Phi T.fns k) it)) (g := tG X.K cl tg) (tt := tT X.K cl xc F0 (evIf (Phi T.fns k) ifs)) (te := tE X.K cl xc F0 (evE (Phi T.fns k) elt)) c.calm hN hi (by rw [c.hsc]; exact hl) (sw_true c.kd (by rw [c.hsc]; exact hl) h5 h6) (sndI it cc F _ _ g3) (by rw [c.hN, c.hsc]; exact blkOk_by g1) (fun s H C clo fp => snd_tg (nms_blk cc s H C clo fp _) tg _ g4 g5) (fun s H C clo fp => sndIf ifs (cc.blk s H C clo fp _) F _ g7) (fun s H C clo fp => sndE elt (cc.blk s H C clo fp _) F _ g8) (noFold hit)) fun D σ H q => ?_
              rw [g2]
              have q := tS_set (K := X.K) (cl := cl) (xc := xc) (E := E) (i := i) _ (by simp only [exS] at q; exact q)
              exact tE_comp g6 _ _ _ (by simp only [evE] at q; exact q)
            · cases h3
          · cases h4
        · cases h4
    · cases h
  | .unpk tg e, X, E, sc, c, F, x, h => by
    unfold chkS at h
    split at h
    · rename_i t v p
      simp only [Bool.and_eq_true] at h
      obtain ⟨⟨⟨⟨h1, h2⟩, h3⟩, h4⟩, h5⟩ := h
      exact PS.imp (ps_asg (sndE e c.toCok F v h3) (snd_tg c.nms tg t h2 h2) (sole_of h4) (sw_stores (by cases v <;> first | rfl | cases h5)) (by cases t <;> first | rfl | cases h1)) fun D σ H q => tS_unpk _ (by simp only [exS] at q; exact q)
    · cases h
  | .par i j a b, X, E, sc, c, F, x, h => by unfold chkS at h; cases h
  | .setAttr ci o f e, X, E, sc, c, F, x, h => by
    unfold chkS at h
    split at h
    · rename_i v n pa y p
      simp only [Bool.and_eq_true, beq_iff_eq] at h
      obtain ⟨⟨⟨⟨h1, h2⟩, h3⟩, h4⟩, h5⟩ := h
      subst h1
      obtain ⟨J, hJ, j1⟩ := any_cls h5
      simp only [Bool.and_eq_true, beq_iff_eq] at j1
      obtain ⟨j1, j2⟩ := j1
      obtain ⟨g1, g2, g3, _⟩ := F.cls J hJ
      have g3 := g3 _ (by simpa using j2)
      rw [j1] at g1 g3
      exact PS.imp (ps_fld (sndE o c.toCok F v h2) (sndE e c.toCok F y h3) (notComp_sw h4)) fun D σ H q => tS_setAttr g1 g3 _ _ (by simp only [exS] at q; exact q)
    · cases h
  | .setIx _ _ _, X, E, sc, c, F, x, h => by unfold chkS at h; cases h
  | .unpkAt ci i fs e, X, E, sc, c, F, x, h => by
    unfold chkS at h
    split at h
    · rename_i es kk pt v p
      simp only [Bool.and_eq_true] at h
      obtain ⟨⟨⟨⟨h1, h2⟩, h3⟩, h4⟩, h5⟩ := h
      cases hx : N[i]? with
      | none => rw [hx] at h1; cases h1
      | some z =>
        rw [hx] at h1
        simp only [Bool.and_eq_true] at h1
        obtain ⟨⟨h1, hv⟩, hk⟩ := h1
        obtain ⟨n1, n2, n3⟩ := okNm_of hk
        obtain ⟨J, hJ, j1⟩ := any_cls h5
        simp only [Bool.and_eq_true, beq_iff_eq, List.all_eq_true] at j1
        obtain ⟨j1, j2⟩ := j1
        obtain ⟨g1, g2, g3, _⟩ := F.cls J hJ
        rw [j1] at g1 g3
        exact PS.imp (ps_asg (sndE e c.toCok F v h2) (pg_tup (n := es.length) c.calm (snd_flds (xc := xc) (E := E) (by rw [c.hN]; exact hx) (by rw [c.hsc]; exact vis_of hv) n1 n2 g1 fs es h1 fun f hf => g3 f (by simpa using j2 f hf)) (each_len es) (each_find es (fld_star h1))) (sole_of h3) (sw_stores (by cases v <;> first | rfl | cases h4))) fun D σ H q => tS_unpkAt (fld_len h1) _ (by simp only [exS] at q; exact q)
    · cases h
  | .expr e, X, E, sc, c, F, x, h => by
    unfold chkS at h
    split at h
    · simp only [Bool.and_eq_true] at h
      exact PS.imp (ps_expr (sndE e c.toCok F _ h.1) (notComp_sw h.2)) fun D σ H q => tS_expr _ (by simp only [exS] at q; exact q)
    · cases h
  | .ite e a b, X, E, sc, c, F, x, h => by
    unfold chkS at h
    split at h
    · simp only [Bool.and_eq_true] at h
      exact PS.imp (ps_if (sndT e c.toCok F _ h.1.1) (sndB a c F _ h.1.2) (sndB b c F _ h.2)) fun D σ H q => tS_ite _ _ _ (by simp only [exS] at q; exact q)
    · cases h
  | .forS tg it b, X, E, sc, c, F, x, h => by
    unfold chkS at h
    split at h
    · simp only [Bool.and_eq_true] at h
      exact PS.imp (ps_for c.po c.calm (sndI it c.toCok F _ _ h.1.1) (snd_tg c.nms tg _ h.1.2 h.1.2) (sndB b c F _ h.2) (noFold (chkIt_plain it sc _ _ h.1.1))) fun D σ H q => tS_for _ _ (by simp only [exS] at q; exact q)
    · cases h
  | .whil n e b, X, E, sc, c, F, x, h => by
    unfold chkS at h
    split at h
    · simp only [Bool.and_eq_true] at h
      exact PS.imp (ps_while c.po (sndT e c.toCok F _ h.1) (sndB b c F _ h.2)) fun D σ H q => tS_while (n := n) _ _ (by simp only [exS] at q; exact q)
    · cases h
  | .ret e, X, E, sc, c, F, x, h => by
    unfold chkS at h
    split at h
    · exact PS.imp (ps_ret (sndE e c.toCok F _ h)) fun D σ H q => tS_ret _ (by simp only [exS] at q; exact q)
    · cases h
  | .retN, X, E, sc, c, F, x, h => by
    unfold chkS at h
    split at h
    · exact PS.imp ps_retN fun D σ H q => tS_retN (K := X.K) (cl := cl) (xc := xc) (E := E) (by simp only [exS] at q; exact q)
    · cases h
  | .raise ci m, X, E, sc, c, F, x, h => by
    unfold chkS at h
    split at h
    · simp only [Bool.and_eq_true, beq_iff_eq] at h
      obtain ⟨⟨⟨h1, h2⟩, h3⟩, h4⟩ := h
      obtain ⟨p, hp, hq⟩ := any_exc h2
      simp only [Bool.and_eq_true, beq_iff_eq] at hq
      obtain ⟨f1, f2, f3, f4, f5⟩ := F.exc p hp
      rw [hq.1] at f1 f2 f3 f4 f5
      rw [hq.2] at f1
      exact PS.imp (ps_raise c.calm c.tk (pmk_own PySem.F.excBase_ValueError f3 f1 f2 (raises_own f4 f5) (glo_of c.hsc h3) (nmF h4))) fun D σ H q => tS_raise (K := X.K) (cl := cl) (xc := xc) (E := E) (by simp only [exS] at q; exact q)
    · cases h
  | .cont, X, E, sc, c, F, x, h => by
    unfold chkS at h
    split at h
    · exact PS.imp ps_continue fun D σ H q => tS_cont (K := X.K) (cl := cl) (xc := xc) (E := E) (by simp only [exS] at q; exact q)
    · cases h
  | .pass, X, E, sc, c, F, x, h => by
    unfold chkS at h
    split at h
    · exact PS.imp ps_pass fun D σ H q => tS_nil (K := X.K) (cl := cl) (xc := xc) (E := E) (by simp only [exS] at q; exact q)
    · cases h
theorem sndB : ∀ (b : Ss) {X : Cx} {E : XK} {sc : Scope}, Cos k N sc X E → Fac T k X.prog X.w X.K X.mg X.base cl xc → ∀ l : List Stmt, chkB T N sc b l = true → PSs X l (tS X.K cl xc E (exB (Phi T.fns k) b))
  | .nil, X, E, sc, c, F, l, h => by
    unfold chkB at h
    split at h
    · exact PSs.imp pss_nil fun D σ H q => tS_nil (K := X.K) (cl := cl) (xc := xc) (E := E) (by simp only [exB] at q; exact q)
    · cases h
  | .cons s r, X, E, sc, c, F, l, h => by
    unfold chkB at h
    split at h
    · simp only [Bool.and_eq_true] at h
      exact PSs.imp (pss_cons (sndS s c F _ h.1) (sndB r c F _ h.2)) fun D σ H q => tS_seq _ _ (by simp only [exB] at q; exact q)
    · cases h
end
end
end Dw

namespace Dw
open PySem L2
section
variable {K : PySem.W.Frag} {cl xc : Nat → Addr} {E : XK}
/-! ### leaving a def: the store cut back -/
theorem live_take {H : Hp} {F : Addr → Prop} {m : List Addr} {st : Sto} {n : Nat} {a : Addr} (h : Live ⟨H, F, m.take n, st.take n⟩ a) : Live ⟨H, F, m, st⟩ a := by
  obtain ⟨i, o, h1, h2, h3⟩ := h
  have h1 : (m.take n)[i]? = some a := h1
  have h2 : (st.take n)[i]? = some o := h2
  rw [List.getElem?_take] at h1 h2
  by_cases hi : i < n
  · rw [if_pos hi] at h1 h2
    exact ⟨i, o, h1, h2, h3⟩
  · rw [if_neg hi] at h1; cases h1
theorem below_v {H : Hp} {F : Addr → Prop} {m : List Addr} {st : Sto} {n : Nat} {v : V} {x : Vl} (hb : vBelow n x = true) (h : RpV K ⟨H, F, m, st⟩ v x) (mpD : ∀ d v, Rp K ⟨H, F, m, st⟩ v d → Rp K ⟨H, F, m.take n, st.take n⟩ v d) : RpV K ⟨H, F, m.take n, st.take n⟩ v x := by
  cases x with
  | d x => exact mpD x v h
  | o i =>
    obtain ⟨a, h1, h2⟩ := h
    have hi : i < n := of_decide_eq_true hb
    exact ⟨a, h1, by show (m.take n)[i]? = _; rw [List.getElem?_take, if_pos hi]; exact h2⟩
mutual
theorem Rp.cut {H : Hp} {F : Addr → Prop} {m : List Addr} {st : Sto} {n : Nat} : ∀ (d : D) (v : V), Rp K ⟨H, F, m, st⟩ v d → Rp K ⟨H, F, m.take n, st.take n⟩ v d
  | .none, _, h => by cases h; exact .non
  | .bool b, _, h => by cases h; exact .bl b
  | .int i, _, h => by cases h; exact .int i
  | .str x, _, h => by cases h; exact .str x
  | .list ds, _, h => by
    cases h with
    | lst h1 h2 => exact .lst ⟨h1.1, fun z => h1.2.1 (live_take z), h1.2.2⟩ (RpA.cut2 ds _ h2)
  | .tuple ds, _, h => by
    cases h with
    | tup h1 h2 => exact .tup (h1.imp (fun z => ⟨z.1, fun q => z.2.1 (live_take q), z.2.2⟩) id) (RpA.cut2 ds _ h2)
  | .dict _, _, h => by cases h
theorem RpA.cut2 {H : Hp} {F : Addr → Prop} {m : List Addr} {st : Sto} {n : Nat} : ∀ (ds : List D) (vs : List V), RpA K ⟨H, F, m, st⟩ vs ds → RpA K ⟨H, F, m.take n, st.take n⟩ vs ds
  | [], _, h => by cases h; exact .nil
  | d :: ds, _, h => by
    cases h with
    | cons h1 h2 => exact .cons (Rp.cut d _ h1) (RpA.cut2 ds _ h2)
end
theorem Paired.imp2 {α β : Type} {F G : α → β → Prop} {p : α → Bool} (f : ∀ a b, p a = true → F a b → G a b) : ∀ {l₁ : List α} {l₂ : List β}, l₁.all p = true → Paired F l₁ l₂ → Paired G l₁ l₂
  | _, _, _, .nil => .nil
  | _, _, h, .cons r t => by
    simp only [List.all_cons, Bool.and_eq_true] at h
    exact .cons (f _ _ h.1 r) (Paired.imp2 f h.2 t)
theorem wf_take {H : Hp} {F : Addr → Prop} {m : List Addr} {st : Sto} {n : Nat} (w : Wf K cl ⟨H, F, m, st⟩) (hb : (st.take n).all (obBelow n) = true) : Wf K cl ⟨H, F, m.take n, st.take n⟩ := by
  have at1 : ∀ {i : Nat} {a : Addr}, (m.take n)[i]? = some a → i < n ∧ m[i]? = some a := fun {i a} h => by
    rw [List.getElem?_take] at h
    by_cases hi : i < n
    · rw [if_pos hi] at h; exact ⟨hi, h⟩
    · rw [if_neg hi] at h; cases h
  have at2 : ∀ {i : Nat} {a : Ob}, (st.take n)[i]? = some a → i < n ∧ st[i]? = some a := fun {i a} h => by
    rw [List.getElem?_take] at h
    by_cases hi : i < n
    · rw [if_pos hi] at h; exact ⟨hi, h⟩
    · rw [if_neg hi] at h; cases h
  have hl : m.length = st.length := w.len
  refine ⟨by simp [hl], fun i j a o u h1 h2 h3 h4 d1 d2 => w.inj i j a o u (at1 h1).2 (at1 h2).2 (at2 h3).2 (at2 h4).2 d1 d2, fun i a o h1 h2 d => w.nf i a o (at1 h1).2 (at2 h2).2 d, fun i a o h1 h2 => ?_, w.ft⟩
  have ho : obBelow n o = true := List.all_eq_true.mp hb o (List.mem_of_getElem? h2)
  have hr := w.ob i a o (at1 h1).2 (at2 h2).2
  have cutD : ∀ d v, Rp K ⟨H, F, m, st⟩ v d → Rp K ⟨H, F, m.take n, st.take n⟩ v d := fun d v => Rp.cut d v
  cases o with
  | dead => exact True.intro
  | lst ds => obtain ⟨xs, k1, k2⟩ := hr; exact ⟨xs, k1, RpA.cut2 ds xs k2⟩
  | scr ds => obtain ⟨xs, k1, k2⟩ := hr; exact ⟨xs, k1, RpA.cut2 ds xs k2⟩
  | ins c fs =>
    obtain ⟨dx, gs, k1, k2⟩ := hr
    exact ⟨dx, gs, k1, Paired.imp2 (p := fun (p : Str × Vl) => vBelow n p.2) (fun p q hp hq => ⟨hq.1, below_v hp hq.2 cutD⟩) ho k2⟩
  | dct kvs =>
    obtain ⟨gs, k1, k2⟩ := hr
    exact ⟨gs, k1, Paired.imp2 (p := fun (p : Key × Vl) => vBelow n p.2) (fun p q hp hq => ⟨hq.1, below_v hp hq.2 cutD⟩) ho k2⟩
theorem ex_take {W : Wd} {H : Hp} {m : List Addr} {st : Sto} (w : Wf K cl W) (e : Ex W ⟨H, W.F, m, st⟩) : Ex W ⟨H, W.F, m.take W.st.length, st.take W.st.length⟩ := by
  refine ⟨rfl, ?_, fun a o h l => ?_⟩
  · obtain ⟨t, ht⟩ := e.m
    have ht : W.m ++ t = m := ht
    show W.m <+: m.take W.st.length
    rw [← w.len, ← ht, List.take_left]
    exact List.prefix_refl _
  · obtain ⟨h1, l1⟩ := e.keep a o h l
    exact ⟨h1, fun z => l1 (live_take z)⟩
theorem leave_ok {drop : Bool} {m : M (Fl × Env)} {W : Wd} {Q : VK} (w : Wf K cl W) (h : Post K cl xc E W (leave drop m W.st) (QE K Q)) :
    Post K cl xc E W (m W.st) fun p W' => ∀ σ', EnvR K W' σ' p.2 → FlR K { nx := fun _ H' => Q .non H', rt := Q } σ' W' p.1 := by
  unfold leave at h
  have key : ∀ (v : Vl) (s' : Sto), Post K cl xc E W (leaveV drop W.st.length v s') (QE K Q) → ∀ H m, Ex W ⟨H, W.F, m, s'⟩ → Wf K cl ⟨H, W.F, m, s'⟩ → ∀ u, RpV K ⟨H, W.F, m, s'⟩ u v → Q u H := by
    intro v s' hp H mm ex wf u ru
    unfold leaveV at hp
    cases drop with
    | false => exact hp H mm ex wf u ru
    | true =>
      rw [if_pos rfl] at hp
      by_cases hc : (vBelow 0 v && (s'.take W.st.length).all (obBelow W.st.length)) = true
      · rw [if_pos hc] at hp
        rw [Bool.and_eq_true] at hc
        refine hp H (mm.take W.st.length) (ex_take w ex) (wf_take wf hc.2) u ?_
        cases v with
        | o i => exact absurd (show decide (i < 0) = true from hc.1) (by simp)
        | d x => exact Rp.cut x u ru
      · rw [if_neg hc] at hp; exact hp.elim
  cases e : m W.st with
  | no => rw [e] at h; exact h
  | ex c s' => rw [e] at h; exact h
  | ok p s' =>
    rw [e] at h
    obtain ⟨fl, env⟩ := p
    intro H mm ex wf σ' he
    cases fl with
    | rt v => exact fun u ru => key v s' h H mm ex wf u ru
    | nx => exact key nonV s' h H mm ex wf .non .non
    | bk => exact h.elim
    | ct => exact h.elim
theorem RpVs.get {W : Wd} : ∀ {vs : List V} {xs : List Vl} {i : Nat} {y : Vl}, RpVs K W vs xs → xs[i]? = some y → ∃ v, vs[i]? = some v ∧ RpV K W v y
  | _, _, i, y, .nil, h => by cases h
  | _, _, 0, y, .cons r t, h => by cases h; exact ⟨_, rfl, r⟩
  | _, _, i + 1, y, .cons r t, h => RpVs.get (i := i) t h
theorem start_env {N : List Str} {Fn : Fn} {W : Wd} {vs : List V} {xs : List Vl} (hN : Fn.nN = N.length) (r : RpVs K W vs xs) : EnvR K W (L2.start N vs) (enter Fn xs) := by
  have hl : vs.length = xs.length := (Paired.length r).symm ▸ rfl
  refine ⟨?_, fun i x h => ?_⟩
  · unfold L2.start enter
    simp [hl, hN]
  · unfold enter at h
    unfold L2.start
    by_cases hi : i < xs.length
    · rw [List.getElem?_append_left (by simpa using hi), List.getElem?_map] at h
      rw [List.getElem?_append_left (by simpa [hl] using hi), List.getElem?_map]
      cases hx : xs[i]? with
      | none => rw [hx] at h; cases h
      | some y =>
        rw [hx] at h
        cases h
        obtain ⟨v, h1, h2⟩ := RpVs.get r hx
        exact ⟨v, by rw [h1]; rfl, h2⟩
    · rw [List.getElem?_append_right (by simpa using hi)] at h
      rw [List.getElem?_replicate] at h
      split at h <;> cases h
end
/-- what stands in the text of a def -/
structure DefOk (T : Tx) (K : PySem.W.Frag) (f : Nat) (ps : List Str) (a : Addr) (fd : FuncData) : Prop where
  ex : ∃ (x qual : Str) (st : Stmt) (N : List Str) (Fn : Fn), FunD K x qual (defArgs st) (defBody st) (defScope st) [] [] a fd ∧ FnScope N ps (defScope st) ∧ T.fns f = some Fn ∧ Fn.np = ps.length ∧ Fn.nN = N.length ∧ chkB T N (defScope st) Fn.body (defBody st) = true
  bd : Binds K fd ps []
  bt : ∀ (s : Shared) (us : List Value), us.length = ps.length → BindsTo s fd ⟨us, []⟩ (ps.zip us)
structure Txt (T : Tx) (K : PySem.W.Frag) (mg : Str → Option Value) (cl xc : Nat → Addr) : Prop where
  fn : ∀ I ∈ T.inf, ∃ a fd, DefOk T K I.f I.ps a fd ∧ (match I.c with
    | none => mg I.nm = some (.ref a) ∧ PySem.W.keepIn K (.ref a) = true
    | some c => Meth K (cl c) I.nm a)
  cls : ∀ I ∈ T.cls, Cls K (cl I.c) ∧ mg I.nm = some (.ref (cl I.c)) ∧ (∀ f ∈ I.flds, NoAttr K (cl I.c) f) ∧ ∃ a fd ps, Mk K (cl I.c) a ∧ DefOk T K I.ini ps a fd
  con : ∀ p ∈ T.con, ∃ v u, mg p.1 = some u ∧ RelV v u ∧ KRp K v p.2
  blt : ∀ x ∈ T.blt, mg x = none
  exc : ∀ p ∈ T.exc, mg p.2 = some (.ref (xc p.1)) ∧ PySem.W.keepIn K (.ref (xc p.1)) = true ∧ PySem.W.excIn K (xc p.1) [.type "ValueError", .type "Exception", .type "BaseException", .type "object"] "ValueError.__new__" = true ∧
    PySem.W.subIn K (.ref (xc p.1)) (.type "BaseException") = some true ∧ PySem.W.typeIn K (.ref (xc p.1)) = some (.type "type")
theorem spF_len {K : PySem.W.Frag} {cl xc : Nat → Addr} {n : Nat} {φ : List Vl → M Vl} {ps : List Str} (hn : n = ps.length) : ∀ vs H Q E, spF K cl xc n φ vs H Q E → vs.length = ps.length := by
  rintro vs H Q E ⟨xs, W, _, r, h, _⟩
  rw [← hn, ← h]
  exact Paired.length r ▸ rfl
section
variable {T : Tx} {P : Program} {w : World} {K : PySem.W.Frag} {mg : Str → Option Value} {base : Heap} {cl xc : Nat → Addr}
theorem def_zero {f : Nat} {ps : List Str} {a : Addr} {fd : FuncData} : FnOk P w K mg base (L2.CX P w) (2 * 0) a fd ps (spF K cl xc ps.length (Phi T.fns 0 f)) :=
  ⟨spF_len rfl, fun A outer s H args us vs Q E hr he hb hv ⟨xs, W, _, _, _, _, p⟩ => p.elim⟩
theorem def_succ {k f : Nat} {ps : List Str} {a : Addr} {fd : FuncData} (F : Fac T k P w K mg base cl xc) (d : DefOk T K f ps a fd) : FnOk P w K mg base (L2.CX P w) (2 * (k + 1)) a fd ps (spF K cl xc ps.length (Phi T.fns (k + 1) f)) := by
  obtain ⟨x, qual, st, N, Fn, h1, S, h3, h4, h5, h6⟩ := d.ex
  refine (show 2 * (k + 1) = (2 * k + 1) + 1 by omega) ▸ h1.ok S (spF_len rfl) fun cdv A outer s H vs Q E hr ⟨xs, W, hW, r, hn, w', p⟩ => ?_
  subst hW
  have c : Cos k N (defScope st) (cxOf (L2.CX P w) P w K mg base N qual (defScope st) a cdv A outer s W.H E) E :=
    { hN := rfl, nd := S.nd, hsc := rfl, calm := rfl, room := hr, tk := takes_of rfl rfl rfl rfl, fn := fun _ _ => .inl rfl, po := passes_of rfl, kd := S.kind }
  refine ⟨_, sndB Fn.body c F _ h6, enter Fn xs, W, rfl, start_env h5 r, w', ?_⟩
  rw [Phi_succ h3] at p
  unfold Dw.Fn.run at p
  rw [if_pos (by rw [hn, h4])] at p
  exact leave_ok w' p
theorem np_of {f : Nat} {ps : List Str} {a : Addr} {fd : FuncData} (d : DefOk T K f ps a fd) : npOf T.fns f = some ps.length := by
  obtain ⟨x, qual, st, N, Fn, h1, S, h3, h4, h5, h6⟩ := d.ex
  unfold npOf
  rw [h3, ← h4]
  rfl
/-- all defs of the text keep their promises -/
theorem fac_all (t : Txt T K mg cl xc) : ∀ k, Fac T k P w K mg base cl xc
  | 0 => ⟨fun I hI => let ⟨a, fd, d, h⟩ := t.fn I hI; ⟨a, fd, def_zero, d.bd, np_of d, h⟩, fun I hI => let ⟨h1, h2, h3, a, fd, ps, h4, d⟩ := t.cls I hI; ⟨h1, h2, h3, a, fd, ps, h4, d.bd, np_of d, def_zero⟩, t.con, t.blt, t.exc⟩
  | k + 1 => by
    have ih := fac_all t k
    exact ⟨fun I hI => let ⟨a, fd, d, h⟩ := t.fn I hI; ⟨a, fd, def_succ ih d, d.bd, np_of d, h⟩, fun I hI => let ⟨h1, h2, h3, a, fd, ps, h4, d⟩ := t.cls I hI; ⟨h1, h2, h3, a, fd, ps, h4, d.bd, np_of d, def_succ ih d⟩, t.con, t.blt, t.exc⟩
theorem def_any (t : Txt T K mg cl xc) {f : Nat} {ps : List Str} {a : Addr} {fd : FuncData} (d : DefOk T K f ps a fd) : ∀ k, FnOk P w K mg base (L2.CX P w) (2 * k) a fd ps (spF K cl xc ps.length (Phi T.fns k f))
  | 0 => def_zero
  | k + 1 => def_succ (fac_all t k) d
end
end Dw

namespace Dw
open PySem L2
/-! ### constants of the module -/
mutual
def relD (K : PySem.W.Frag) : D → Value → Bool
  | .none, u => match u with | .none => true | _ => false
  | .bool b, u => match u with | .bool c => b == c | _ => false
  | .int i, u => match u with | .int j _ => decide (i = j) | _ => false
  | .str x, u => match u with | .str y _ => decide (x = y) | _ => false
  | .tuple ds, u => match u with
    | .ref a => match K.lookup a with
      | some ⟨.type c, _, .seq its _, _⟩ => decide (c = "tuple") && decide (its.size ≤ sizeLine) && relDs K ds its.toList
      | _ => false
    | _ => false
  | _, _ => false
def relDs (K : PySem.W.Frag) : List D → List Value → Bool
  | [], us => match us with | [] => true | _ => false
  | d :: ds, us => match us with | u :: us => relD K d u && relDs K ds us | _ => false
end
mutual
theorem relD_ok {K : PySem.W.Frag} : ∀ (d : D) (u : Value), relD K d u = true → ∃ v, RelV v u ∧ KRp K v d
  | .none, u, h => by
    unfold relD at h
    split at h
    · exact ⟨.non, rfl, fun _ => .non⟩
    · cases h
  | .bool b, u, h => by
    unfold relD at h
    split at h
    · have : b = _ := eq_of_beq h
      subst this
      exact ⟨.bl b, rfl, fun _ => .bl b⟩
    · cases h
  | .int i, u, h => by
    unfold relD at h
    split at h
    · have := of_decide_eq_true h
      subst this
      exact ⟨.int i, ⟨_, rfl⟩, fun _ => .int i⟩
    · cases h
  | .str x, u, h => by
    unfold relD at h
    split at h
    · have := of_decide_eq_true h
      subst this
      exact ⟨.str x, ⟨_, rfl⟩, fun _ => .str x⟩
    · cases h
  | .tuple ds, u, h => by
    unfold relD at h
    split at h
    · rename_i a
      split at h
      · rename_i c od its n sl hl
        simp only [Bool.and_eq_true, decide_eq_true_eq] at h
        obtain ⟨⟨h1, h2⟩, h3⟩ := h
        subst h1
        obtain ⟨vs, r, k⟩ := relDs_ok ds its.toList h3
        exact ⟨.ref a, rfl, fun W => .tup (.inr ⟨_, its, n, hl, rfl, rfl, h2, r⟩) (k W)⟩
      · cases h
    · cases h
  | .list _, u, h => by unfold relD at h; cases h
  | .dict _, u, h => by unfold relD at h; cases h
theorem relDs_ok {K : PySem.W.Frag} : ∀ (ds : List D) (us : List Value), relDs K ds us = true → ∃ vs, Vals vs us ∧ ∀ W, RpA K W vs ds
  | [], us, h => by
    unfold relDs at h
    split at h
    · exact ⟨[], .nil, fun _ => .nil⟩
    · cases h
  | d :: ds, us, h => by
    unfold relDs at h
    split at h
    · simp only [Bool.and_eq_true] at h
      obtain ⟨v, r1, k1⟩ := relD_ok d _ h.1
      obtain ⟨vs, r2, k2⟩ := relDs_ok ds _ h.2
      exact ⟨v :: vs, .cons r1 r2, fun W => .cons (k1 W) (k2 W)⟩
    · cases h
end
def conOk (K : PySem.W.Frag) (p : Str × D) : Bool := match PySem.W.nsIn K mainGlobals p.1 with
  | some (some u) => relD K p.2 u
  | _ => false
/-! ### the defs of a text -/
structure DefS where
  f : Nat
  c : Option Str := none
  nm : Str
  st : Stmt
  N : List Str
  ps : List Str
def DefS.dd (d : DefS) : He.DefD := match d.c with
  | none => ⟨(d.nm, none), d.nm, d.nm, defArgs d.st, defBody d.st, defScope d.st, [], []⟩
  | some C => ⟨(C, some d.nm), d.nm, C ++ "." ++ d.nm, defArgs d.st, defBody d.st, defScope d.st, [], []⟩
def scB (N P : List Str) (sc : Scope) : Bool := (match sc.kind with | .function => true | _ => false) && !sc.isCoroutine && !sc.isGenerator && decide N.Nodup && decide (N.take P.length = P) &&
  (P.all fun x => locB sc x) && sc.names.all fun y => match y.2 with | .free => false | _ => true
theorem scB_ok {N P : List Str} {sc : Scope} (h : scB N P sc = true) : FnScope N P sc := by
  unfold scB at h
  simp only [Bool.and_eq_true, decide_eq_true_eq, Bool.not_eq_true', List.all_eq_true] at h
  obtain ⟨⟨⟨⟨⟨⟨h1, h2⟩, h3⟩, h4⟩, h5⟩, h6⟩, h7⟩ := h
  refine ⟨?_, h2, h3, h4, h5, fun x hx => ?_, fun y hy e => ?_⟩
  · split at h1
    · assumption
    · cases h1
  · have := loc_of (h6 x hx)
    exact this
  · have q := h7 y hy
    rw [e] at q
    cases q
def chkD (T : Tx) (d : DefS) : Bool := (match T.fns d.f with
  | some F => F.np == d.ps.length && F.nN == d.N.length && chkB T d.N (defScope d.st) F.body (defBody d.st)
  | none => false) && scB d.N d.ps (defScope d.st)
/-- how a def's arguments bind -/
def BndS (d : DefS) : Prop := ∀ (q : Str) (kV doc pm : Value) (an : Option Addr) (cdv ct : Value) (us : List Value), us.length = d.ps.length → bindArgs (PySem.W.fnOf d.nm q (defArgs d.st) (defBody d.st) (defScope d.st) .none kV doc pm an cdv ct) ⟨us, []⟩ = pure (d.ps.zip us)
theorem defOk {T : Tx} {K : PySem.W.Frag} {d : DefS} {q : Str} {a : Addr} {fd : FuncData} (F : FunD K d.nm q (defArgs d.st) (defBody d.st) (defScope d.st) [] [] a fd) (h : chkD T d = true) (b : BndS d) : DefOk T K d.f d.ps a fd := by
  unfold chkD at h
  rw [Bool.and_eq_true] at h
  obtain ⟨h1, h2⟩ := h
  split at h1
  · rename_i Fn hf
    simp only [Bool.and_eq_true, beq_iff_eq] at h1
    exact ⟨⟨d.nm, q, d.st, d.N, Fn, F, scB_ok h2, hf, h1.1.1, h1.1.2, h1.2⟩, F.bindsN (b q), fun s us hl => F.bindsA (b q) s us hl⟩
  · cases h1
/-! ### the facts of a text -/
def clOf (T : Tx) (K : PySem.W.Frag) (c : Nat) : Addr := match T.cls.find? (fun J => J.c == c) with
  | some J => He.ga K J.nm
  | none => 0
def xcOf (T : Tx) (K : PySem.W.Frag) (c : Nat) : Addr := match T.exc.find? (fun J => J.1 == c) with
  | some J => He.ga K J.2
  | none => 0
def clNm (T : Tx) (c : Nat) : Option Str := (T.cls.find? (fun J => J.c == c)).map (·.nm)
def factsOf (T : Tx) : List He.Fa :=
  (T.inf.map fun I => match I.c with
    | none => He.Fa.glo I.nm
    | some c => He.Fa.meth ((clNm T c).getD Str.empty) I.nm) ++
  (T.cls.flatMap fun J => [He.Fa.glo J.nm, .cls J.nm, .mkr J.nm] ++ J.flds.map fun f => .noat J.nm f) ++
  (T.blt.map He.Fa.free) ++ (T.exc.flatMap fun p => [He.Fa.glo p.2, .exc p.2])
def wellT (T : Tx) (defs : List DefS) : Bool :=
  (T.inf.all fun I => defs.any fun d => d.f == I.f && d.ps == I.ps && d.nm == I.nm && (match I.c with
    | none => d.c == none
    | some c => d.c == clNm T c && (clNm T c).isSome)) &&
  (T.cls.all fun J => (clNm T J.c == some J.nm) && defs.any fun d => d.f == J.ini && d.nm == ("__init__" : Str) && d.c == some J.nm) &&
  (T.exc.all fun p => (T.exc.find? (fun J => J.1 == p.1)).map (·.2) == some p.2)
theorem clOf_nm {T : Tx} {K : PySem.W.Frag} {c : Nat} {x : Str} (h : clNm T c = some x) : clOf T K c = He.ga K x := by
  unfold clNm at h
  unfold clOf
  cases e : T.cls.find? (fun J => J.c == c) with
  | none => rw [e] at h; cases h
  | some J => rw [e] at h; cases h; rfl
theorem txt_of {T : Tx} {defs : List DefS} {K : PySem.W.Frag} {h : Heap} {mg : Str → Option Value} (X : K.In h) (G : h.Ns mainGlobals mg) (c : He.SaysD (factsOf T) (defs.map DefS.dd) K) (hc : (T.con.all (conOk K)) = true) (hw : wellT T defs = true)
    (hd : ∀ d ∈ defs, chkD T d = true) (hb : ∀ d ∈ defs, BndS d) : Txt T K mg (clOf T K) (xcOf T K) := by
  have fact : ∀ f ∈ factsOf T, f.ok K = true := fun f hf => c.facts hf
  have dok : ∀ d ∈ defs, ∃ fd, DefOk T K d.f d.ps (He.fAd K d.dd.at_) fd ∧ PySem.W.keepIn K (.ref (He.fAd K d.dd.at_)) = true := fun d hm => by
    obtain ⟨fd, F⟩ := c.defs (d := d.dd) (List.mem_map.mpr ⟨d, hm, rfl⟩)
    refine ⟨fd, ?_, F.kp⟩
    unfold DefS.dd at F ⊢
    cases hcc : d.c with
    | none => rw [hcc] at F; exact defOk F (hd d hm) (hb d hm)
    | some C => rw [hcc] at F; exact defOk F (hd d hm) (hb d hm)
  unfold wellT at hw
  simp only [Bool.and_eq_true, List.all_eq_true] at hw
  obtain ⟨⟨hw1, hw2⟩, hw3⟩ := hw
  refine ⟨fun I hI => ?_, fun J hJ => ?_, fun p hp => ?_, fun x hx => ?_, fun p hp => ?_⟩
  · have q := hw1 I hI
    rw [List.any_eq_true] at q
    obtain ⟨d, hm, q⟩ := q
    simp only [Bool.and_eq_true, beq_iff_eq] at q
    obtain ⟨⟨⟨q1, q2⟩, q3⟩, q4⟩ := q
    obtain ⟨fd, k1, k2⟩ := dok d hm
    rw [q1, q2] at k1
    refine ⟨_, fd, k1, ?_⟩
    have hf : (match I.c with
      | none => He.Fa.glo I.nm
      | some c => He.Fa.meth ((clNm T c).getD Str.empty) I.nm) ∈ factsOf T := by
      unfold factsOf
      simp only [List.mem_append, List.mem_map]
      exact .inl (.inl (.inl ⟨I, hI, rfl⟩))
    have hf := fact _ hf
    unfold DefS.dd at k2 ⊢
    cases hcc : I.c with
    | none =>
      rw [hcc] at q4 hf
      have q4 : d.c = none := by simpa using q4
      rw [q4] at k2 ⊢
      dsimp only at hf k2 ⊢
      have g := He.glo_ok X G hf
      rw [← q3] at g ⊢
      exact ⟨g, k2⟩
    | some cc =>
      rw [hcc] at q4 hf
      dsimp only at q4 hf ⊢
      simp only [Bool.and_eq_true, beq_iff_eq] at q4
      obtain ⟨q5, q6⟩ := q4
      cases hn : clNm T cc with
      | none => rw [hn] at q6; cases q6
      | some C =>
        rw [hn] at q5 hf
        rw [q5] at k2 ⊢
        rw [clOf_nm hn, ← q3]
        rw [← q3] at hf
        exact He.meth_ok hf
  · have q := hw2 J hJ
    simp only [Bool.and_eq_true, beq_iff_eq, List.any_eq_true] at q
    obtain ⟨q1, d, hm, ⟨q2, q3⟩, q4⟩ := q
    obtain ⟨fd, k1, k2⟩ := dok d hm
    have inF : ∀ f ∈ [He.Fa.glo J.nm, .cls J.nm, .mkr J.nm] ++ J.flds.map fun f => He.Fa.noat J.nm f, f.ok K = true := fun f hf => by
      refine fact f ?_
      unfold factsOf
      simp only [List.mem_append, List.mem_flatMap]
      exact .inl (.inl (.inr ⟨J, hJ, List.mem_append.mp hf⟩))
    rw [clOf_nm q1]
    refine ⟨He.cls_ok (inF (.cls J.nm) (by simp)), He.glo_ok X G (inF (.glo J.nm) (by simp)), fun f hf => He.noat_ok (inF _ (List.mem_append_right _ (List.mem_map.mpr ⟨f, hf, rfl⟩))), _, fd, d.ps, He.mkr_ok (inF (.mkr J.nm) (by simp)), ?_⟩
    rw [q2] at k1
    unfold DefS.dd at k1
    rw [q4, q3] at k1
    exact k1
  · have q := List.all_eq_true.mp hc p hp
    unfold conOk at q
    split at q
    · rename_i u e
      obtain ⟨v, r, kk⟩ := relD_ok p.2 u q
      exact ⟨v, u, PySem.W.mg_of X G e, r, kk⟩
    · cases q
  · refine He.free_ok X G (fact _ ?_)
    unfold factsOf
    simp only [List.mem_append, List.mem_map]
    exact .inl (.inr ⟨x, hx, rfl⟩)
  · have q := hw3 p hp
    simp only [beq_iff_eq] at q
    have inF : ∀ f ∈ [He.Fa.glo p.2, He.Fa.exc p.2], f.ok K = true := fun f hf => by
      refine fact f ?_
      unfold factsOf
      simp only [List.mem_append, List.mem_flatMap]
      exact .inr ⟨p, hp, hf⟩
    have ex : xcOf T K p.1 = He.ga K p.2 := by
      unfold xcOf
      cases e : T.exc.find? (fun J => J.1 == p.1) with
      | none => rw [e] at q; cases q
      | some J =>
        rw [e] at q
        have : J.2 = p.2 := by simpa using q
        dsimp only
        rw [this]
    rw [ex]
    obtain ⟨e1, e2, e3, e4⟩ := He.exc_ok (inF (.exc p.2) (by simp))
    exact ⟨He.glo_ok X G (inF (.glo p.2) (by simp)), e2, e1, e3, e4⟩
/-! ### a law's end -/
theorem rpa_ints {K : PySem.W.Frag} {W : Wd} : ∀ ns : List Int, RpA K W (ns.map V.int) (ns.map PyData.int)
  | [] => .nil
  | n :: ns => .cons (.int n) (rpa_ints ns)
/-- the law's promise at the script -/
theorem law_sp {K : PySem.W.Frag} {cl xc : Nat → Addr} {φ : List Vl → M Vl} {H : Hp} {a : Addr} {ns : List Int} (hO : Only H) (hS : SqL K H a (ns.map V.int)) (h : ∃ st, φ [.o 0] [.scr (ns.map .int)] = .ok (blV true) st) :
    spF K cl xc 1 φ [.ref a] H (fun v _ => v = .bl true) fun _ _ _ => False := by
  obtain ⟨st, h⟩ := h
  have hs : ScrAt K H a (ns.map V.int) := by
    rcases hS with (e | e) | e
    · rcases hO a with q | ⟨o, xs, q⟩ <;> rw [e] at q <;> cases q
    · exact .inl e
    · exact .inr e
  have dead : ∀ {i : Nat} {o : Ob}, [Ob.scr (ns.map PyData.int)][i]? = some o → isDead o = true := fun {i o} e => by
    cases i with
    | zero => cases e; rfl
    | succ i => simp at e
  refine ⟨[.o 0], ⟨H, fun _ => False, [a], [.scr (ns.map .int)]⟩, rfl, .cons ⟨a, rfl, rfl⟩ .nil, rfl, ⟨rfl, fun i j b o u h1 h2 h3 h4 d1 d2 => ?_, fun i b o h1 h2 d => fun z => z, fun i b o h1 h2 => ?_, fun b z => z.elim⟩, ?_⟩
  · rw [dead h3] at d1; cases d1
  · cases i with
    | zero =>
      cases h1
      cases h2
      exact ⟨_, hs, rpa_ints ns⟩
    | succ i =>
      have h1 : [a][i + 1]? = some b := h1
      simp at h1
  · show Post K cl xc _ _ (φ [.o 0] [.scr (ns.map .int)]) _
    rw [h]
    intro H1 m1 ex wf v rv
    cases rv
    rfl
theorem law_facts {T : Tx} {defs : List DefS} {P : Program} {w : World} {K : PySem.W.Frag} {h : Heap} {mg : Str → Option Value} {f : Addr} {x : Str} {d : DefS} (k : Nat) (X : K.In h) (G : h.Ns mainGlobals mg) (hfa : mg d.nm = some (.ref f)) (c : He.SaysD (factsOf T) (defs.map DefS.dd) K)
    (hc : (T.con.all (conOk K)) = true) (hw : wellT T defs = true) (hd : ∀ d ∈ defs, chkD T d = true) (hb : ∀ d ∈ defs, BndS d) (hI : (⟨d.f, d.nm, d.ps, none⟩ : FI) ∈ T.inf) (hps : d.ps = [x]) :
    ∃ fd : FuncData, (∀ (s : Shared) (v : Value), BindsTo s fd ⟨[v], []⟩ [(x, v)]) ∧ ∀ base : Heap, FnOk P w K mg base (L2.CX P w) (2 * k) f fd [x] (spF K (clOf T K) (xcOf T K) 1 (Phi T.fns k d.f)) := by
  have t := txt_of X G c hc hw hd hb
  obtain ⟨a, fd, dk, h1, _⟩ := t.fn _ hI
  have e := hfa.symm.trans h1
  cases e
  rw [hps] at dk
  exact ⟨fd, fun s v => dk.bt s [v] rfl, fun base => def_any t dk k⟩
/-- walk_ofE, what the law lets out told by the world -/
theorem walk_w {l : PySem.W.OpenLaw} {n k : Nat} {q : Program} {loose : List Str} {XP : (Str → Option Value) → Heap → Prop} {YP : World → Heap → Prop} {d : DefRec} {CX : World → CXT} {x : Str}
    (hn : l.most = some n) (hn2 : n ≤ sizeLine) (hdf : d.params.defaults = []) (hr : Room k callerA)
    (F : ∀ (w : World) (mg : Str → Option Value) (fa : Addr) (h : Heap), YP w h → h.Ns mainGlobals mg → mg d.name = some (.ref fa) →
      ∃ (K : PySem.W.Frag) (fd : FuncData) (sp : Sp), K.In h ∧ (∀ (s : Shared) (u : Value), BindsTo s fd ⟨[u], []⟩ [(x, u)]) ∧
        (∀ (H : Hp) (a : Addr) (ns : List Int), ns.length ≤ n → Only H → SqL K H a (ns.map V.int) → sp [.ref a] H (fun v _ => v = .bl true) fun _ _ _ => False) ∧
        ∀ base : Heap, K.In base → base.Ns mainGlobals mg → FnOk l.prog w K mg base (CX w) k fa fd [x] sp)
    (hCX : ∀ (w : World) (H : Hp) (s : Shared) (e : Value) (s' : Shared), CX w [] H s (fun _ _ _ => False) e s' → False) :
    PySem.W.WalkO q loose XP YP l.row.toRowW d [] (fun f vs => PySem.call f vs) := by
  refine Att.attach_call hn hdf fun w s₀ s₁ mg mb fa o pm cd doc a vs ns G Y ho hd hcd hmg hobj hints hlen hg => ?_
  obtain ⟨K, fd, sp, KX, hb, hsp, hF⟩ := F w mg fa _ Y G.T.g hmg
  exact law_call KX G.T.g G.T.b G.T.builtins G.T.nolimit hg hobj hints (Nat.le_trans hlen hn2) hr hF hb (fun H hO hS => hsp H a ns hlen hO hS) fun H e s' => hCX w H s₁ e s'
theorem cx_none {P : Program} {w : World} {H : Hp} {s : Shared} {e : Value} {s' : Shared} (h : L2.CX P w [] H s (fun _ _ _ => False) e s') : False := by
  obtain ⟨_, _, _, _, _, _, _, _, _, _, _, _, z⟩ := h
  exact z
/-- the end of a law -/
theorem law_walk {l : PySem.W.OpenLaw} {T : Tx} {defs : List DefS} {n k : Nat} {q : Program} {loose : List Str} {XP : (Str → Option Value) → Heap → Prop} {d : DefRec} {x : Str} {D : DefS} (hn : l.most = some n) (hn2 : n ≤ sizeLine) (hdf : d.params.defaults = []) (hr : Room (2 * k) callerA)
    (hnm : d.name = D.nm) (hw : wellT T defs = true) (hd : ∀ d ∈ defs, chkD T d = true) (hb : ∀ d ∈ defs, BndS d) (hI : (⟨D.f, D.nm, D.ps, none⟩ : FI) ∈ T.inf) (hps : D.ps = [x])
    (math : ∀ ns : List Int, ns.length ≤ n → ∃ st, Phi T.fns k D.f [.o 0] [.scr (ns.map .int)] = .ok (blV true) st) :
    PySem.W.WalkO q loose XP (fun w h => ∃ K : PySem.W.Frag, K.In h ∧ He.SaysX (factsOf T) (defs.map DefS.dd) [] [] (fun K => T.con.all (conOk K)) w h K) l.row.toRowW d [] (fun f vs => PySem.call f vs) := by
  refine walk_w (n := n) (k := 2 * k) (x := x) (CX := fun w => L2.CX l.prog w) hn hn2 hdf hr (fun w mg fa h Y G hmg0 => ?_) fun w H s e s' h => cx_none h
  obtain ⟨K, KX, c⟩ := Y
  obtain ⟨fd, h1, h2⟩ := law_facts (P := l.prog) (w := w) (x := x) (d := D) k KX G (by rw [← hnm]; exact hmg0) c.t.d c.more hw hd hb hI hps
  exact ⟨K, fd, _, KX, h1, fun H a ns hl hO hS => law_sp hO hS (math ns hl), fun base _ _ => h2 base⟩
end Dw

namespace Dw
open PySem
abbrev wh : Nat := 100000000
def b_law_cell_at : Ss :=
  .cons (.ite (.cmp .Lt (.var 1) (.bi .len (.cons (.var 0) .nil))) (.cons (.ret (.ix (.var 0) (.var 1))) .nil) (.nil))
  (.cons (.ret (.int 0)) .nil)
def f_law_cell_at : Fn := ⟨2, 2, b_law_cell_at, true⟩
def b_law_mixed : Ss :=
  .cons (.set 2 (.bin .Mod (.bin .Mult (.bin .Add (.bin .Add (.call false 13 (.cons (.var 0) (.cons (.var 1) .nil))) (.bin .Mult (.int 7919) (.var 1))) (.int 1)) (.int 48271)) (.int 2147483647)))
  (.cons (.ret (.bin .Mod (.bin .Add (.bin .Add (.bin .Mult (.var 2) (.var 2)) (.bin .Mult (.int 7) (.var 2))) (.var 1)) (.int 2147483629))) .nil)
def f_law_mixed : Fn := ⟨2, 3, b_law_mixed, true⟩
def b_law_drawn_v2 : Ss :=
  .cons (.set 2 (.bin .Mod (.bin .Mult (.bin .Add (.bin .Add (.var 0) (.bin .Mult (.int 104729) (.var 1))) (.int 17)) (.int 69621)) (.int 2147483647)))
  (.cons (.ret (.bin .Mod (.bin .Add (.bin .Add (.bin .Mult (.var 2) (.var 2)) (.bin .Mult (.int 3) (.var 2))) (.var 1)) (.int 2147483629))) .nil)
def f_law_drawn_v2 : Fn := ⟨2, 3, b_law_drawn_v2, false⟩
def b_beyond : Ss :=
  .cons (.ite (.cmp .Eq (.ix (.var 0) (.int 0)) (.var 1)) (.cons (.ret (.ix (.var 0) (.int 1))) .nil) (.nil))
  (.cons (.ite (.cmp .Eq (.ix (.var 0) (.int 1)) (.var 1)) (.cons (.ret (.ix (.var 0) (.int 0))) .nil) (.nil))
  (.cons (.ret (.non)) .nil))
def f_beyond : Fn := ⟨2, 2, b_beyond, false⟩
def l1_ways_from : Ss :=
  .cons (.set 6 (.call true 103 (.cons (.var 5) (.cons (.ix (.var 1) (.neg (.int 1))) .nil))))
  (.cons (.ite (.andE (.cons (.cmp .IsNot (.var 6) (.non)) (.cons (.cmp .NotIn (.var 6) (.var 1)) .nil))) (.cons (.expr (.mt .extend (.var 3) (.cons (.comp false (.bin .Add (.tup (.cons (.var 4) .nil)) (.var 7)) (.nm 7) (.of (.call true 106 (.cons (.var 0) (.cons (.bin .Add (.var 1) (.tup (.cons (.var 6) .nil))) (.cons (.var 2) .nil))))) .no [7]) .nil))) .nil) (.nil)) .nil)
def b_ways_from : Ss :=
  .cons (.ite (.cmp .Eq (.ix (.var 1) (.neg (.int 1))) (.var 2)) (.cons (.ret (.lst false (.cons (.tup (.nil)) .nil))) .nil) (.nil))
  (.cons (.set 3 (.lst true (.nil)))
  (.cons (.forS (.tp (.cons (.nm 4) (.cons (.nm 5) .nil))) (.enum (.ix (.var 0) (.int 1))) l1_ways_from)
  (.cons (.ret (.frz (.var 3))) .nil)))
def f_ways_from : Fn := ⟨3, 8, b_ways_from, false⟩
def b_ways : Ss :=
  .cons (.ret (.bi .tuple (.cons (.bi .sorted (.cons (.call true 106 (.cons (.var 0) (.cons (.tup (.cons (.glb "OUTSIDE" (.int 0)) .nil)) (.cons (.var 1) .nil)))) .nil)) .nil))) .nil
def f_ways : Fn := ⟨2, 2, b_ways, false⟩
def l1_law_house_v2 : Ss :=
  .cons (.set 4 (.bin .FloorDiv (.call true 51 (.cons (.var 0) (.cons (.bin .Add (.int 50) (.var 3)) .nil))) (.int 4)))
  (.cons (.set 5 (.bin .Mod (.var 4) (.bin .Add (.var 1) (.int 1))))
  (.cons (.set 6 (.bin .Mod (.bin .Add (.bin .Add (.var 5) (.int 1)) (.bin .Mod (.bin .FloorDiv (.var 4) (.int 8)) (.var 1))) (.bin .Add (.var 1) (.int 1))))
  (.cons (.set 7 (.ix (.tup (.cons (.non) (.cons (.non) (.cons (.str "a") (.cons (.str "b") (.cons (.str "back") (.cons (.str "hall") (.cons (.str "win") .nil)))))))) (.bin .Mod (.bin .FloorDiv (.var 4) (.int 64)) (.int 7))))
  (.cons (.set 2 (.bin .Add (.var 2) (.tup (.cons (.tup (.cons (.bi .min (.cons (.var 5) (.cons (.var 6) .nil))) (.cons (.bi .max (.cons (.var 5) (.cons (.var 6) .nil))) (.cons (.var 7) .nil)))) .nil)))) .nil))))
def b_law_house_v2 : Ss :=
  .cons (.set 1 (.bin .Add (.int 1) (.bin .Mod (.var 0) (.int 7))))
  (.cons (.set 2 (.tup (.nil)))
  (.cons (.forS (.nm 3) (.range (.cons (.bin .Mod (.bin .FloorDiv (.var 0) (.int 8)) (.int 11)) .nil)) l1_law_house_v2)
  (.cons (.ret (.tup (.cons (.var 1) (.cons (.var 2) .nil)))) .nil)))
def f_law_house_v2 : Fn := ⟨1, 8, b_law_house_v2, false⟩
def b_events_for : Ss :=
  .cons (.set 3 (.ix (.ix (.ix (.var 0) (.int 1)) (.var 1)) (.int 2)))
  (.cons (.ite (.cmp .Is (.var 3) (.non)) (.cons (.ret (.tup (.cons (.tup (.cons (.glb "TICKS" (.str "ticks")) (.cons (.int 1) .nil))) (.cons (.tup (.cons (.glb "TICKS" (.str "ticks")) (.cons (.var 2) .nil))) .nil)))) .nil) (.nil))
  (.cons (.ret (.tup (.cons (.tup (.cons (.glb "LINE" (.str "line")) (.cons (.var 3) (.cons (.glb "OPEN" (.str "open")) .nil)))) (.cons (.tup (.cons (.glb "TICKS" (.str "ticks")) (.cons (.int 1) .nil))) (.cons (.tup (.cons (.glb "LINE" (.str "line")) (.cons (.var 3) (.cons (.glb "SHUT" (.str "shut")) .nil)))) (.cons (.tup (.cons (.glb "TICKS" (.str "ticks")) (.cons (.var 2) .nil))) .nil)))))) .nil))
def f_events_for : Fn := ⟨3, 4, b_events_for, false⟩
def l1_walked : Ss :=
  .cons (.set 3 (.bin .Add (.var 3) (.call true 130 (.cons (.var 0) (.cons (.var 4) (.cons (.var 2) .nil)))))) .nil
def b_walked : Ss :=
  .cons (.set 3 (.tup (.nil)))
  (.cons (.forS (.nm 4) (.of (.var 1)) l1_walked)
  (.cons (.ret (.var 3)) .nil))
def f_walked : Fn := ⟨3, 5, b_walked, false⟩
def l1_law_k32 : Ss :=
  .cons (.set 6 (.bin .Add (.var 6) (.call true 131 (.cons (.var 1) (.cons (.tup (.cons (.var 7) .nil)) (.cons (.var 3) .nil)))))) .nil
def l2_law_k32 : Ss :=
  .cons (.set 5 (.call true 131 (.cons (.var 1) (.cons (.var 4) (.cons (.var 3) .nil)))))
  (.cons (.set 6 (.tup (.nil)))
  (.cons (.forS (.nm 7) (.of (.var 4)) l1_law_k32)
  (.cons (.ite (.orE (.cons (.cmp .NotEq (.var 5) (.var 6)) (.cons (.notE (.isi (.var 5) "tuple")) .nil))) (.cons (.ret (.bl false)) .nil) (.nil))
  (.cons (.ite (.cmp .NotEq (.bi .sum (.cons (.comp false (.ix (.var 10) (.int 1)) (.nm 10) (.of (.var 5)) (.so (.cmp .Eq (.ix (.var 10) (.int 0)) (.str "ticks"))) [10]) .nil)) (.bin .Mult (.bi .len (.cons (.var 4) .nil)) (.bin .Add (.int 1) (.var 3)))) (.cons (.ret (.bl false)) .nil) (.nil))
  (.cons (.set 8 (.comp false (.ix (.ix (.ix (.var 1) (.int 1)) (.var 7)) (.int 2)) (.nm 7) (.of (.var 4)) (.so (.cmp .IsNot (.ix (.ix (.ix (.var 1) (.int 1)) (.var 7)) (.int 2)) (.non))) [7]))
  (.cons (.set 9 (.comp false (.var 10) (.nm 10) (.of (.var 5)) (.so (.cmp .Eq (.ix (.var 10) (.int 0)) (.str "line"))) [10]))
  (.cons (.ite (.orE (.cons (.cmp .NotEq (.comp false (.ix (.var 10) (.int 1)) (.nm 10) (.of (.stp (.var 9) none (2))) .no [10]) (.var 8)) (.cons (.cmp .NotEq (.comp false (.ix (.var 10) (.int 1)) (.nm 10) (.of (.stp (.var 9) (some 1) (2))) .no [10]) (.var 8)) .nil))) (.cons (.ret (.bl false)) .nil) (.nil))
  (.cons (.ite (.cmp .NotEq (.comp false (.ix (.var 10) (.int 2)) (.nm 10) (.of (.var 9)) .no [10]) (.bin .Mult (.lst false (.cons (.str "open") (.cons (.str "shut") .nil))) (.bi .len (.cons (.var 8) .nil)))) (.cons (.ret (.bl false)) .nil) (.nil)) .nil))))))))
def b_law_k32 : Ss :=
  .cons (.set 1 (.call true 109 (.cons (.call false 14 (.cons (.var 0) (.cons (.int 0) .nil))) .nil)))
  (.cons (.set 2 (.call false 14 (.cons (.var 0) (.cons (.int 1) .nil))))
  (.cons (.set 3 (.bin .Add (.int 1) (.bin .Mod (.bin .FloorDiv (.var 2) (.int 8)) (.int 40))))
  (.cons (.forS (.nm 4) (.of (.sl (.call true 107 (.cons (.var 1) (.cons (.bin .Add (.int 1) (.bin .Mod (.var 2) (.ix (.var 1) (.int 0)))) .nil))) .no (.so (.int 12)))) l2_law_k32)
  (.cons (.ret (.cmp .Eq (.call true 131 (.cons (.var 1) (.cons (.tup (.nil)) (.cons (.var 3) .nil)))) (.tup (.nil)))) .nil))))
def f_law_k32 : Fn := ⟨1, 11, b_law_k32, true⟩
def fns : Nat → Option Fn
  | 13 => some f_law_cell_at
  | 14 => some f_law_mixed
  | 51 => some f_law_drawn_v2
  | 103 => some f_beyond
  | 106 => some f_ways_from
  | 107 => some f_ways
  | 109 => some f_law_house_v2
  | 130 => some f_events_for
  | 131 => some f_walked
  | 139 => some f_law_k32
  | _ => none
end Dw
namespace Dw
open PySem
section
variable {Φ : Nat → List Vl → M Vl} {env : Env}
theorem M.ite_run {α : Type} {c : Prop} [Decidable c] (a b : M α) (s : Sto) : (if c then a else b) s = if c then a s else b s := by split <;> rfl
theorem M.ite_bind {α β : Type} {c : Prop} [Decidable c] (a b : M α) (f : α → M β) : ((if c then a else b) >>= f) = if c then a >>= f else b >>= f := by split <;> rfl
@[simp] theorem ev_non : evE Φ .non env = pure nonV := by rw [evE]
@[simp] theorem ev_bl {b : Bool} : evE Φ (.bl b) env = pure (blV b) := by rw [evE]
@[simp] theorem ev_int {i : Int} : evE Φ (.int i) env = pure (inV i) := by rw [evE]
@[simp] theorem ev_str {x : Str} : evE Φ (.str x) env = pure (stV x) := by rw [evE]
@[simp] theorem ev_var {i : Nat} : evE Φ (.var i) env = getV env i := by rw [evE]
@[simp] theorem ev_glb {x : Str} {d : D} : evE Φ (.glb x d) env = pure (.d d) := by rw [evE]
@[simp] theorem ev_bin {op : Operator} {a b : E} : evE Φ (.bin op a b) env = (evE Φ a env >>= fun x => evE Φ b env >>= fun y => binop op x y) := by rw [evE]
@[simp] theorem ev_cmp {op : CmpOp} {a b : E} : evE Φ (.cmp op a b) env = (evE Φ a env >>= fun x => evE Φ b env >>= fun y => cmpop op x y >>= fun c => pure (blV c)) := by rw [evE]
@[simp] theorem ev_chain {o1 o2 : CmpOp} {a b c : E} : evE Φ (.chain o1 o2 a b c) env = (evE Φ a env >>= fun x => evE Φ b env >>= fun y => cmpop o1 x y >>= fun k => if k then evE Φ c env >>= fun z => cmpop o2 y z >>= fun r => pure (blV r) else pure (blV false)) := by rw [evE]
@[simp] theorem ev_and {as : Es} : evE Φ (.andE as) env = evAnd Φ as env := by rw [evE]
@[simp] theorem ev_or {as : Es} : evE Φ (.orE as) env = evOr Φ as env := by rw [evE]
@[simp] theorem ev_not {a : E} : evE Φ (.notE a) env = (evE Φ a env >>= fun x => asB x >>= fun c => pure (blV (!c))) := by rw [evE]
@[simp] theorem ev_neg {a : E} : evE Φ (.neg a) env = (evE Φ a env >>= fun x => asI x >>= fun c => pure (inV (-c))) := by rw [evE]
@[simp] theorem ev_callP {f : Nat} {as : Es} : evE Φ (.call true f as) env = (evEs Φ as env >>= fun vs => asDs vs >>= fun xs => pureRun (Φ f (xs.map .d))) := by first | (rw [evE]; done) | (rw [evE]; exact (rfl))
@[simp] theorem ev_call {f : Nat} {as : Es} : evE Φ (.call false f as) env = (evEs Φ as env >>= fun vs => Φ f vs) := by first | (rw [evE]; done) | (rw [evE]; exact (rfl))
@[simp] theorem ev_bi {b : Bi} {as : Es} : evE Φ (.bi b as) env = (evEs Φ as env >>= fun vs => bi b vs) := by rw [evE]
@[simp] theorem ev_isi {a : E} {ty : Str} : evE Φ (.isi a ty) env = (evE Φ a env >>= fun v => match v with | .d x => pure (blV (tyIs x ty)) | .o _ => M.no) := by first | (rw [evE]; done) | (rw [evE]; exact (rfl))
@[simp] theorem ev_mt {m : Mt} {o : E} {as : Es} : evE Φ (.mt m o as) env = (evE Φ o env >>= fun v => mtTy v >>= fun _ => evEs Φ as env >>= fun vs => mt m v vs) := by rw [evE]
@[simp] theorem ev_tup {as : Es} : evE Φ (.tup as) env = (evEs Φ as env >>= fun vs => asDs vs >>= fun xs => okS (decide (xs.length ≤ szLine)) (tuV xs)) := by rw [evE]
@[simp] theorem ev_lst {mu : Bool} {as : Es} : evE Φ (.lst mu as) env = (evEs Φ as env >>= fun vs => asDs vs >>= fun xs => okS (decide (xs.length ≤ szLine)) () >>= fun _ => newL mu xs) := by rw [evE]
@[simp] theorem ev_ix {a i : E} : evE Φ (.ix a i) env = (evE Φ a env >>= fun x => evE Φ i env >>= fun y => ixV x y) := by rw [evE]
@[simp] theorem ev_sl {a : E} {lo hi : Eo} : evE Φ (.sl a lo hi) env = (evE Φ a env >>= fun x => evEo Φ lo env >>= fun l => evEo Φ hi env >>= fun h => slV x l h) := by rw [evE]
@[simp] theorem ev_addM {a b : E} : evE Φ (.addM a b) env = (evE Φ a env >>= fun x => evE Φ b env >>= fun y => addMV x y) := by rw [evE]
@[simp] theorem ev_stp {a : E} {lo : Option Int} {st : Int} : evE Φ (.stp a lo st) env = (evE Φ a env >>= fun x => stpV x lo st) := by rw [evE]
@[simp] theorem ev_frz {a : E} : evE Φ (.frz a) env = (evE Φ a env >>= fun x => frzV x) := by rw [evE]
@[simp] theorem evs_nil : evEs Φ .nil env = pure [] := by rw [evEs]
@[simp] theorem evs_cons {a : E} {r : Es} : evEs Φ (.cons a r) env = (evE Φ a env >>= fun x => evEs Φ r env >>= fun xs => pure (x :: xs)) := by rw [evEs]
@[simp] theorem evo_no : evEo Φ .no env = pure none := by rw [evEo]
@[simp] theorem evo_so {a : E} : evEo Φ (.so a) env = (evE Φ a env >>= fun x => asI x >>= fun i => pure (some i)) := by rw [evEo]
@[simp] theorem evi_no : evIf Φ .no env = pure true := by rw [evIf]
@[simp] theorem evi_so {a : E} : evIf Φ (.so a) env = (evE Φ a env >>= fun x => asB x) := by rw [evIf]
@[simp] theorem evand_one {a : E} : evAnd Φ (.cons a .nil) env = evE Φ a env := by rw [evAnd]
@[simp] theorem evand_cons {a b : E} {r : Es} : evAnd Φ (.cons a (.cons b r)) env = (evE Φ a env >>= fun x => asB x >>= fun c => if c then evAnd Φ (.cons b r) env else pure (blV false)) := by rw [evAnd]
@[simp] theorem evor_one {a : E} : evOr Φ (.cons a .nil) env = evE Φ a env := by rw [evOr]
@[simp] theorem evor_cons {a b : E} {r : Es} : evOr Φ (.cons a (.cons b r)) env = (evE Φ a env >>= fun x => asB x >>= fun c => if c then pure (blV true) else evOr Φ (.cons b r) env) := by rw [evOr]
@[simp] theorem evit_of {a : E} : evIt Φ (.of a) env = (evE Φ a env >>= fun x => wkOf x) := by rw [evIt]
@[simp] theorem evit_range {as : Es} : evIt Φ (.range as) env = (evEs Φ as env >>= fun vs => wkRange vs) := by rw [evIt]
@[simp] theorem evit_enum {a : E} : evIt Φ (.enum a) env = (evE Φ a env >>= fun x => fItems x >>= fun xs => pure (.its (enumD 0 xs))) := by rw [evIt]
@[simp] theorem evit_zip {a b : E} : evIt Φ (.zip a b) env = (evE Φ a env >>= fun x => evE Φ b env >>= fun y => fItems x >>= fun xs => fItems y >>= fun ys => pure (.its (zipD xs ys))) := by rw [evIt]
/-! statements -/
@[simp] theorem ex_set {i : Nat} {e : E} : exS Φ (.set i e) env = (evE Φ e env >>= fun v => pure (.nx, env.set i (some v))) := by rw [exS]
@[simp] theorem ex_unpk {tg : Tg} {e : E} : exS Φ (.unpk tg e) env = (evE Φ e env >>= fun v => ofO (bindT tg v env) >>= fun env => pure (.nx, env)) := by rw [exS]
@[simp] theorem ex_expr {e : E} : exS Φ (.expr e) env = (evE Φ e env >>= fun _ => pure (.nx, env)) := by rw [exS]
@[simp] theorem ex_ite {c : E} {a b : Ss} : exS Φ (.ite c a b) env = (evE Φ c env >>= fun x => asB x >>= fun k => if k then exB Φ a env else exB Φ b env) := by rw [exS]
@[simp] theorem ex_ret {e : E} : exS Φ (.ret e) env = (evE Φ e env >>= fun v => pure (.rt v, env)) := by rw [exS]
@[simp] theorem ex_retN : exS Φ .retN env = pure (.rt nonV, env) := by rw [exS]
@[simp] theorem ex_raise {c : Nat} {x : Str} : exS Φ (.raise c x) env = M.ex c := by rw [exS]
@[simp] theorem ex_cont : exS Φ .cont env = pure (.ct, env) := by rw [exS]
@[simp] theorem ex_pass : exS Φ .pass env = pure (.nx, env) := by rw [exS]
/-- what comes behind a statement -/
def aft (k : Env → M (Fl × Env)) (p : Fl × Env) : M (Fl × Env) := match p with
  | (.nx, env') => k env'
  | p => pure p
@[simp] theorem aft_nx {k : Env → M (Fl × Env)} {e : Env} : aft k (.nx, e) = k e := (rfl)
@[simp] theorem aft_rt {k : Env → M (Fl × Env)} {v : Vl} {e : Env} : aft k (.rt v, e) = pure (.rt v, e) := (rfl)
@[simp] theorem aft_ct {k : Env → M (Fl × Env)} {e : Env} : aft k (.ct, e) = pure (.ct, e) := (rfl)
@[simp] theorem exb_nil : exB Φ .nil env = pure (.nx, env) := by rw [exB]
@[simp] theorem exb_cons {s : S} {r : Ss} : exB Φ (.cons s r) env = (exS Φ s env >>= aft fun env' => exB Φ r env') := by rw [exB]; rfl
end
/-! ### primitives -/
@[simp] theorem asB_bl (b : Bool) : asB (blV b) = pure b := (rfl)
@[simp] theorem asI_int (i : Int) : asI (inV i) = pure i := (rfl)
@[simp] theorem asD_d (x : D) : asD (.d x) = pure x := (rfl)
@[simp] theorem asDs_nil : asDs [] = pure [] := (rfl)
@[simp] theorem asDs_cons (v : Vl) (vs : List Vl) : asDs (v :: vs) = (asD v >>= fun x => asDs vs >>= fun xs => pure (x :: xs)) := (rfl)
@[simp] theorem okS_true {α : Type} (a : α) : okS true a = pure a := (rfl)
@[simp] theorem okS_false {α : Type} (a : α) : okS false a = M.no := (rfl)
@[simp] theorem ofO_some {α : Type} (a : α) : ofO (some a) = pure a := (rfl)
@[simp] theorem ofO_none {α : Type} : ofO (none : Option α) = M.no := (rfl)
@[simp] theorem getV_some {env : Env} {i : Nat} {v : Vl} (h : env[i]? = some (some v)) : getV env i = pure v := by unfold getV; rw [h]
@[simp] theorem asData_d (x : D) : asData (.d x) = pure x := (rfl)
@[simp] theorem add_int (i j : Int) : binop .Add (inV i) (inV j) = pure (inV (i + j)) := (rfl)
@[simp] theorem sub_int (i j : Int) : binop .Sub (inV i) (inV j) = pure (inV (i - j)) := (rfl)
@[simp] theorem mul_int (i j : Int) : binop .Mult (inV i) (inV j) = okS (cMul i j) (inV (i * j)) := (rfl)
@[simp] theorem div_int (i j : Int) : binop .FloorDiv (inV i) (inV j) = okS (decide (0 < j) && decide (j < 1073741824)) (inV (i / j)) := (rfl)
@[simp] theorem mod_int (i j : Int) : binop .Mod (inV i) (inV j) = okS (decide (0 < j)) (inV (i % j)) := (rfl)
@[simp] theorem add_tup (xs ys : List D) : binop .Add (tuV xs) (tuV ys) = okS (decide (xs.length + ys.length ≤ szLine)) (tuV (xs ++ ys)) := (rfl)
@[simp] theorem add_str (x y : Str) : binop .Add (stV x) (stV y) = okS (decide (x.length + y.length ≤ szLine)) (stV (x ++ y)) := (rfl)
@[simp] theorem add_lst (xs ys : List D) : binop .Add (liV xs) (liV ys) = okS (decide (xs.length + ys.length ≤ szLine)) (liV (xs ++ ys)) := (rfl)
@[simp] theorem cmp_eq (x y : D) : cmpop .Eq (.d x) (.d y) = okS (shp x && shp y) (PyData.eqv x y) := (rfl)
@[simp] theorem cmp_ne (x y : D) : cmpop .NotEq (.d x) (.d y) = (okS (shp x && shp y) (PyData.eqv x y) >>= fun c => pure (!c)) := (rfl)
@[simp] theorem cmp_lt (i j : Int) : cmpop .Lt (inV i) (inV j) = pure (decide (i < j)) := (rfl)
@[simp] theorem cmp_le (i j : Int) : cmpop .LtE (inV i) (inV j) = pure (decide (i ≤ j)) := (rfl)
@[simp] theorem cmp_gt (i j : Int) : cmpop .Gt (inV i) (inV j) = pure (decide (j < i)) := (rfl)
@[simp] theorem cmp_ge (i j : Int) : cmpop .GtE (inV i) (inV j) = pure (decide (j ≤ i)) := (rfl)
@[simp] theorem cmp_isN (x : D) : cmpop .Is (.d x) nonV = pure (match x with | .none => true | _ => false) := by cases x <;> exact (rfl)
@[simp] theorem cmp_isNotN (x : D) : cmpop .IsNot (.d x) nonV = pure (!(match x with | .none => true | _ => false)) := by cases x <;> exact (rfl)
@[simp] theorem cmp_in_tup (x : D) (xs : List D) : cmpop .In (.d x) (tuV xs) = okS (shp x && shp (.tuple xs)) (isIn x xs) := by cases x <;> exact (rfl)
@[simp] theorem cmp_notIn_tup (x : D) (xs : List D) : cmpop .NotIn (.d x) (tuV xs) = (okS (shp x && shp (.tuple xs)) (isIn x xs) >>= fun c => pure (!c)) := by cases x <;> exact (rfl)
@[simp] theorem cmp_in_lst (x : D) (xs : List D) : cmpop .In (.d x) (liV xs) = okS (shp x && shp (.list xs)) (isIn x xs) := by cases x <;> exact (rfl)
@[simp] theorem ix_tup (xs : List D) (i : Int) : ixV (tuV xs) (inV i) = (match L2.atI xs i with | some v => pure (.d v) | none => M.no) := (rfl)
@[simp] theorem ix_lst (xs : List D) (i : Int) : ixV (liV xs) (inV i) = (match L2.atI xs i with | some v => pure (.d v) | none => M.no) := (rfl)
@[simp] theorem sl_tup (xs : List D) (lo hi : Option Int) : slV (tuV xs) lo hi = pure (tuV (cutD xs lo hi)) := (rfl)
@[simp] theorem sl_lst (xs : List D) (lo hi : Option Int) : slV (liV xs) lo hi = pure (liV (cutD xs lo hi)) := (rfl)
@[simp] theorem newL_false (xs : List D) : newL false xs = pure (liV xs) := (rfl)
@[simp] theorem wkOf_tup (xs : List D) : wkOf (tuV xs) = pure (.its (xs.map .d)) := (rfl)
@[simp] theorem wkOf_lst (xs : List D) : wkOf (liV xs) = pure (.its (xs.map .d)) := (rfl)
@[simp] theorem fIt_tup (xs : List D) : fItems (tuV xs) = pure xs := (rfl)
@[simp] theorem fIt_lst (xs : List D) : fItems (liV xs) = pure xs := (rfl)
@[simp] theorem bi_len_tup (xs : List D) : bi .len [tuV xs] = pure (inV xs.length) := (rfl)
@[simp] theorem bi_len_lst (xs : List D) : bi .len [liV xs] = pure (inV xs.length) := (rfl)
@[simp] theorem bi_min2 (i j : Int) : bi .min [inV i, inV j] = pure (inV (if j < i then j else i)) := (rfl)
@[simp] theorem bi_max2 (i j : Int) : bi .max [inV i, inV j] = pure (inV (if j > i then j else i)) := (rfl)
@[simp] theorem bi_tup_lst (xs : List D) : bi .tuple [liV xs] = pure (tuV xs) := (rfl)
@[simp] theorem bi_tup_tup (xs : List D) : bi .tuple [tuV xs] = pure (tuV xs) := (rfl)
@[simp] theorem bi_sorted_lst (xs : List D) : bi .sorted [liV xs] = okS (ordd xs) (liV (sortD xs)) := (rfl)
@[simp] theorem bi_sorted_tup (xs : List D) : bi .sorted [tuV xs] = okS (ordd xs) (liV (sortD xs)) := (rfl)
@[simp] theorem range1 (j : Int) : wkRange [inV j] = okS (bnd62 j) (.its (rangeD 0 j.toNat)) := (rfl)
@[simp] theorem range2 (i j : Int) : wkRange [inV i, inV j] = okS (bnd62 i && bnd62 j) (.its (rangeD i (j - i).toNat)) := (rfl)
theorem pureRun_ok {m : M Vl} {x : D} {s' : Sto} {s : Sto} (h : m [] = .ok (.d x) s') : pureRun m s = .ok (.d x) s := by unfold pureRun; rw [h]
theorem pureRun_eq {m : M Vl} {x : D} {s' : Sto} (h : m [] = .ok (.d x) s') : pureRun m = pure (.d x) := by funext s; exact pureRun_ok h
/-- a def run at its body -/
theorem run_of {T : Nat → Option Fn} {k f : Nat} {vs : List Vl} {F : Fn} {s : Sto} (hf : T f = some F) (hl : vs.length = F.np) : Phi T (k + 1) f vs s = leave F.drop (exB (Phi T k) F.body (enter F vs)) s := by
  rw [Phi_succ hf]
  unfold Fn.run
  rw [if_pos hl]
/-! ### loops -/
def forW (f : Vl → Env → M (Fl × Env)) (w : Wk) (env : Env) : M (Fl × Env) := match w with
  | .its xs => forL f xs env
  | .ob i => getO i >>= fun o => match o with
    | .lst xs => forO f i (xs.length + 1) 0 env
    | _ => M.no
@[simp] theorem forW_its (f : Vl → Env → M (Fl × Env)) (xs : List Vl) (env : Env) : forW f (.its xs) env = forL f xs env := (rfl)
@[simp] theorem ex_for {Φ : Nat → List Vl → M Vl} {env : Env} {tg : Tg} {it : It} {b : Ss} : exS Φ (.forS tg it b) env = (evIt Φ it env >>= fun w => forW (fun x env => ofO (bindT tg x env) >>= fun e => exB Φ b e) w env) := by
  rw [exS]
  rfl
def compW (f : Vl → M (Option D)) (w : Wk) : M (List D) := match w with
  | .its xs => compL f xs []
  | .ob i => getO i >>= fun o => match o with
    | .lst xs => compO f i (xs.length + 1) 0 []
    | _ => M.no
@[simp] theorem compW_its (f : Vl → M (Option D)) (xs : List Vl) : compW f (.its xs) = compL f xs [] := (rfl)
/-- a comprehension's step -/
def compF (Φ : Nat → List Vl → M Vl) (tg : Tg) (ifs : Eo) (elt : E) (env : Env) (x : Vl) : M (Option D) := noEx (ofO (bindT tg x env) >>= fun e => evIf Φ ifs e >>= fun c => if c then evE Φ elt e >>= fun v => asD v >>= fun y => pure (some y) else pure none)
@[simp] theorem ev_comp {Φ : Nat → List Vl → M Vl} {env : Env} {mu : Bool} {elt : E} {tg : Tg} {it : It} {ifs : Eo} {own : List Nat} : evE Φ (.comp mu elt tg it ifs own) env = (evIt Φ it env >>= fun w => compW (compF Φ tg ifs elt (wipe env own)) w >>= fun ys => newL mu ys) := by
  rw [evE]
  congr 1
  funext w
  cases w with
  | its xs => rfl
  | ob i =>
    show (getO i >>= _) = ((getO i >>= _) >>= _)
    rw [M.bind_assoc]
    congr 1
    funext o
    cases o <;> rfl
/-- a loop over items that stay: P holds ahead of each turn, and behind the last -/
theorem forL_ok {f : Vl → Env → M (Fl × Env)} (P : Nat → Env → Sto → Prop) : ∀ (xs : List Vl) (i : Nat) (env : Env) (s : Sto), P i env s →
    (∀ j x env s, xs[j]? = some x → P (i + j) env s → ∃ env' s', (f x env s = .ok (.nx, env') s' ∨ f x env s = .ok (.ct, env') s') ∧ P (i + j + 1) env' s') → ∃ env' s', forL f xs env s = .ok (.nx, env') s' ∧ P (i + xs.length) env' s'
  | [], i, env, s, h, _ => ⟨env, s, rfl, h⟩
  | x :: xs, i, env, s, h, st => by
    obtain ⟨env1, s1, h1, h2⟩ := st 0 x env s rfl h
    obtain ⟨env2, s2, h3, h4⟩ := forL_ok P xs (i + 1) env1 s1 h2 fun j y e t hy hp => by
      have := st (j + 1) y e t hy (by rw [show i + (j + 1) = i + 1 + j by omega]; exact hp)
      rw [show i + (j + 1) + 1 = i + 1 + j + 1 by omega] at this
      exact this
    refine ⟨env2, s2, ?_, by rw [show i + (x :: xs).length = i + 1 + xs.length by simp; omega]; exact h4⟩
    unfold forL
    rw [M.bind_run]
    rcases h1 with h1 | h1 <;> rw [h1] <;> exact h3
/-- a comprehension whose steps are known -/
theorem compL_ok {f : Vl → M (Option D)} {s : Sto} (g : Nat → Vl → Option D) : ∀ (xs : List Vl) (acc : List D) (i : Nat), (∀ j x, xs[j]? = some x → f x s = .ok (g (i + j) x) s) → acc.length + xs.length ≤ szLine →
    compL f xs acc s = .ok (acc ++ (xs.zipIdx i).filterMap fun p => g p.2 p.1) s
  | [], acc, i, _, _ => by simp [compL]
  | x :: xs, acc, i, h, hz => by
    unfold compL
    have h0 := h 0 x rfl
    rw [M.bind_run, h0]
    simp only [Nat.add_zero]
    have hz' : acc.length + (xs.length + 1) ≤ szLine := by simpa using hz
    have ih := fun acc' (hl : acc'.length + xs.length ≤ szLine) => compL_ok g xs acc' (i + 1) (fun j y hy => by
      have := h (j + 1) y hy
      rw [show i + (j + 1) = i + 1 + j by omega] at this
      exact this) hl
    cases e : g i x with
    | none =>
      dsimp only
      rw [ih acc (by omega)]
      simp [List.zipIdx_cons, e]
    | some y =>
      dsimp only
      rw [show decide (acc.length < szLine) = true from decide_eq_true (by omega)]
      show compL f xs (acc ++ [y]) s = _
      rw [ih (acc ++ [y]) (by simp; omega)]
      simp [List.zipIdx_cons, e]
theorem noEx_ok {α : Type} {m : M α} {s s' : Sto} {a : α} (h : m s = .ok a s') : noEx m s = .ok a s' := by unfold noEx; rw [h]
/-- the items one by one, each giving one -/
theorem compL_map {f : Vl → M (Option D)} {s : Sto} {β : Type} (h : β → Vl) (g : β → D) (bs : List β) (hf : ∀ b ∈ bs, f (h b) s = .ok (some (g b)) s) (hz : bs.length ≤ szLine) : compL f (bs.map h) [] s = .ok (bs.map g) s := by
  have : ∀ (bs : List β) (acc : List D), (∀ b ∈ bs, f (h b) s = .ok (some (g b)) s) → acc.length + bs.length ≤ szLine → compL f (bs.map h) acc s = .ok (acc ++ bs.map g) s := by
    intro bs
    induction bs with
    | nil => intro acc _ _; simp [compL]
    | cons b bs ih =>
      intro acc hf hz
      have hz' : acc.length + (bs.length + 1) ≤ szLine := by simpa using hz
      show compL f (h b :: bs.map h) acc s = _
      unfold compL
      rw [M.bind_run, hf b List.mem_cons_self]
      dsimp only
      rw [show decide (acc.length < szLine) = true from decide_eq_true (by omega)]
      show compL f (bs.map h) (acc ++ [g b]) s = _
      rw [ih _ (fun c hc => hf c (List.mem_cons_of_mem _ hc)) (by simp; omega)]
      simp
  simpa using this bs [] hf (by simpa using hz)
/-- .. or none -/
theorem compL_fm {f : Vl → M (Option D)} {s : Sto} {β : Type} (h : β → Vl) (g : β → Option D) (bs : List β) (hf : ∀ b ∈ bs, f (h b) s = .ok (g b) s) (hz : bs.length ≤ szLine) : compL f (bs.map h) [] s = .ok (bs.filterMap g) s := by
  have : ∀ (bs : List β) (acc : List D), (∀ b ∈ bs, f (h b) s = .ok (g b) s) → acc.length + bs.length ≤ szLine → compL f (bs.map h) acc s = .ok (acc ++ bs.filterMap g) s := by
    intro bs
    induction bs with
    | nil => intro acc _ _; simp [compL]
    | cons b bs ih =>
      intro acc hf hz
      have hz' : acc.length + (bs.length + 1) ≤ szLine := by simpa using hz
      show compL f (h b :: bs.map h) acc s = _
      unfold compL
      rw [M.bind_run, hf b List.mem_cons_self]
      cases e : g b with
      | none =>
        dsimp only
        rw [ih _ (fun c hc => hf c (List.mem_cons_of_mem _ hc)) (by omega)]
        simp [e]
      | some y =>
        dsimp only
        rw [show decide (acc.length < szLine) = true from decide_eq_true (by omega)]
        show compL f (bs.map h) (acc ++ [y]) s = _
        rw [ih _ (fun c hc => hf c (List.mem_cons_of_mem _ hc)) (by simp; omega)]
        simp [e]
  simpa using this bs [] hf (by simpa using hz)
/-! ### places -/
@[simp] theorem atI_nat {α : Type} (xs : List α) (n : Nat) : L2.atI xs (n : Int) = xs[n]? := by
  unfold L2.atI L2.ixN
  rw [if_pos (by omega)]
  by_cases h : n < xs.length
  · rw [if_pos (by omega)]; simp
  · rw [if_neg (by omega)]
    simp only [Option.bind_none]
    rw [List.getElem?_eq_none (by omega)]
@[simp] theorem atI_ofNat {α : Type} (xs : List α) (n : Nat) : L2.atI xs (no_index (OfNat.ofNat n)) = xs[n]? := atI_nat xs n
@[simp] theorem atI_zero {α : Type} (xs : List α) : L2.atI xs 0 = xs[0]? := atI_nat xs 0
@[simp] theorem atI_one {α : Type} (xs : List α) : L2.atI xs 1 = xs[1]? := atI_nat xs 1
theorem atI_last {α : Type} (xs : List α) (h : xs ≠ []) : L2.atI xs (-1) = xs.getLast? := by
  unfold L2.atI L2.ixN
  have : 0 < xs.length := List.length_pos_iff.mpr h
  rw [if_neg (by omega), if_pos (by omega)]
  rw [show ((-1 : Int) + xs.length).toNat = xs.length - 1 by omega]
  simp [List.getLast?_eq_getElem?]
theorem atI_pos {α : Type} (xs : List α) {i : Int} (h : 0 ≤ i) : L2.atI xs i = xs[i.toNat]? := by
  have := atI_nat xs i.toNat
  rw [show ((i.toNat : Nat) : Int) = i by omega] at this
  exact this
theorem cMul_l {i j : Int} (h : (decide (-(2 ^ 64) < i) && decide (i < 2 ^ 64)) = true) : cMul i j = true := by unfold cMul; rw [h]; rfl
theorem cMul_r {i j : Int} (h : (decide (-(2 ^ 64) < j) && decide (j < 2 ^ 64)) = true) : cMul i j = true := by unfold cMul; rw [h]; simp
/-! ### equality -/
@[simp] theorem eqv_int (i j : Int) : PyData.eqv (.int i) (.int j) = (i == j) := by simp [PyData.eqv]
@[simp] theorem eqv_str (i j : Str) : PyData.eqv (.str i) (.str j) = (i == j) := by simp [PyData.eqv]
/-! ### data that may be compared -/
structure OkD (n : Nat) (d : D) : Prop where
  c : d.canLay0 = true
  p : d.depth ≤ n
theorem OkD.int {n : Nat} (i : Int) : OkD n (.int i) := ⟨rfl, Nat.zero_le _⟩
theorem OkD.non {n : Nat} : OkD n .none := ⟨rfl, Nat.zero_le _⟩
theorem OkD.bl {n : Nat} (b : Bool) : OkD n (.bool b) := ⟨rfl, Nat.zero_le _⟩
theorem OkD.str {n : Nat} {x : Str} (h : PyData.canLay0 (.str x) = true) : OkD n (.str x) := ⟨h, Nat.zero_le _⟩
theorem okAll : ∀ {xs : List D} {n : Nat}, (∀ x ∈ xs, OkD n x) → PyData.canLayAll0 xs = true ∧ PyData.depthAll xs ≤ n
  | [], n, _ => ⟨rfl, Nat.zero_le _⟩
  | x :: xs, n, h => by
    obtain ⟨h1, h2⟩ := okAll fun y hy => h y (List.mem_cons_of_mem _ hy)
    have h3 := h x List.mem_cons_self
    refine ⟨by simp [PyData.canLayAll0, h3.c, h1], ?_⟩
    simp only [PyData.depthAll]
    exact Nat.max_le.mpr ⟨h3.p, h2⟩
theorem OkD.tup {xs : List D} {n : Nat} (h : ∀ x ∈ xs, OkD n x) : OkD (n + 1) (.tuple xs) := by
  obtain ⟨h1, h2⟩ := okAll h
  exact ⟨by simpa [PyData.canLay0] using h1, by simp only [PyData.depth]; omega⟩
theorem OkD.lst {xs : List D} {n : Nat} (h : ∀ x ∈ xs, OkD n x) : OkD (n + 1) (.list xs) := by
  obtain ⟨h1, h2⟩ := okAll h
  exact ⟨by simpa [PyData.canLay0] using h1, by simp only [PyData.depth]; omega⟩
theorem OkD.shp {n : Nat} {d : D} (h : OkD n d) (hn : n ≤ 64) : shp d = true := by
  show SeqAt.shaped d = true
  unfold SeqAt.shaped
  rw [h.c, decide_eq_true (Nat.le_trans h.p hn)]
  rfl
theorem OkD.up {n m : Nat} {d : D} (h : OkD n d) (hn : n ≤ m) : OkD m d := ⟨h.c, Nat.le_trans h.p hn⟩
@[simp] theorem shp_int (i : Int) : shp (.int i) = true := (OkD.int (n := 0) i).shp (by omega)
@[simp] theorem shp_non : shp .none = true := (OkD.non (n := 0)).shp (by omega)
@[simp] theorem shp_bl (b : Bool) : shp (.bool b) = true := (OkD.bl (n := 0) b).shp (by omega)
/-- a block, statement by statement -/
theorem step_nx {Φ : Nat → List Vl → M Vl} {s : S} {r : Ss} {env env' : Env} {t t' : Sto} {x : Dw.R (Fl × Env)} (h : exS Φ s env t = .ok (.nx, env') t') (h2 : exB Φ r env' t' = x) : exB Φ (.cons s r) env t = x := by
  rw [exb_cons, M.bind_run, h]
  exact h2
theorem step_rt {Φ : Nat → List Vl → M Vl} {s : S} {r : Ss} {env env' : Env} {t t' : Sto} {v : Vl} (h : exS Φ s env t = .ok (.rt v, env') t') : exB Φ (.cons s r) env t = .ok (.rt v, env') t' := by
  rw [exb_cons, M.bind_run, h]
  rfl
end Dw

namespace Dw
open PySem
abbrev scr0 (ns : List Int) : Sto := [.scr (ns.map .int)]
theorem cell_ok {k : Nat} (ns : List Int) (i : Nat) : Phi fns (k + 1) 13 [.o 0, inV i] (scr0 ns) = .ok (inV (ns.getD i 0)) (scr0 ns) := by
  rw [run_of (F := f_law_cell_at) rfl rfl]
  have e : bi .len [.o 0] [.scr (ns.map PyData.int)] = .ok (inV ns.length) [.scr (ns.map .int)] := by
    show R.ok (inV (ns.map PyData.int).length) _ = _
    simp
  have e2 : i < ns.length → ixV (.o 0) (inV i) [.scr (ns.map PyData.int)] = .ok (inV (ns.getD i 0)) [.scr (ns.map .int)] := fun h => by
    show (match L2.atI (ns.map PyData.int) (i : Int) with | some v => (pure (.d v) : M Vl) | none => M.no) _ = _
    rw [atI_nat]
    simp [h]
  by_cases h : i < ns.length
  · simp [f_law_cell_at, b_law_cell_at, enter, leave, leaveV, M.bind_run, e, h, e2 h, vBelow, obBelow]
  · simp [f_law_cell_at, b_law_cell_at, enter, leave, leaveV, M.bind_run, e, h, vBelow, obBelow]
theorem mod_mul (x : Int) : cMul (x % 2147483647) (x % 2147483647) = true := by
  unfold cMul
  simp only [Bool.or_eq_true, Bool.and_eq_true, decide_eq_true_eq]
  omega
def mixed (c k : Int) : Int := ((c + 7919 * k + 1) * 48271 % 2147483647 * ((c + 7919 * k + 1) * 48271 % 2147483647) + 7 * ((c + 7919 * k + 1) * 48271 % 2147483647) + k) % 2147483629
theorem mixed_ok {k : Nat} (ns : List Int) (i : Nat) : Phi fns (k + 2) 14 [.o 0, inV i] (scr0 ns) = .ok (inV (mixed (ns.getD i 0) i)) (scr0 ns) := by
  rw [run_of (F := f_law_mixed) rfl rfl]
  have h := cell_ok (k := k) ns i
  have c1 : cMul 7919 (i : Int) = true := cMul_l (by decide)
  have c2 : ∀ x : Int, cMul x 48271 = true := fun x => cMul_r (by decide)
  have c3 : ∀ x : Int, cMul 7 x = true := fun x => cMul_l (by decide)
  simp [f_law_mixed, b_law_mixed, enter, leave, leaveV, M.bind_run, h, vBelow, obBelow, c1, c2, c3, mod_mul, mixed]
def drawn (n k : Int) : Int := ((n + 104729 * k + 17) * 69621 % 2147483647 * ((n + 104729 * k + 17) * 69621 % 2147483647) + 3 * ((n + 104729 * k + 17) * 69621 % 2147483647) + k) % 2147483629
theorem drawn_ok {k : Nat} {s : Sto} (n j : Int) : Phi fns (k + 1) 51 [inV n, inV j] s = .ok (inV (drawn n j)) s := by
  rw [run_of (F := f_law_drawn_v2) rfl rfl]
  have c1 : ∀ x : Int, cMul 104729 x = true := fun x => cMul_l (by decide)
  have c2 : ∀ x : Int, cMul x 69621 = true := fun x => cMul_r (by decide)
  have c3 : ∀ x : Int, cMul 3 x = true := fun x => cMul_l (by decide)
  simp [f_law_drawn_v2, b_law_drawn_v2, enter, leave, leaveV, c1, c2, c3, mod_mul, drawn]
end Dw

namespace Dw
open PySem
abbrev Op := Int × Int × Option Str
def encZ : Option Str → D
  | none => .none
  | some x => .str x
def encO (o : Op) : D := .tuple [.int o.1, .int o.2.1, encZ o.2.2]
def encH (R : Int) (os : List Op) : D := .tuple [.int R, .tuple (os.map encO)]
structure GoodO (R : Int) (o : Op) : Prop where
  a : 0 ≤ o.1
  b : o.1 < o.2.1
  c : o.2.1 ≤ R
  z : OkD 0 (encZ o.2.2)
theorem OkD.encO {R : Int} {o : Op} (h : GoodO R o) : OkD 1 (encO o) := OkD.tup fun x hx => by
  simp at hx
  rcases hx with rfl | rfl | rfl
  · exact OkD.int _
  · exact OkD.int _
  · exact h.z
theorem rangeD_get {lo : Int} {n j : Nat} {x : Vl} (h : (rangeD lo n)[j]? = some x) : j < n ∧ x = inV (lo + j) := by
  unfold rangeD at h
  rw [List.getElem?_map] at h
  cases e : (List.range n)[j]? with
  | none => rw [e] at h; cases h
  | some k =>
    rw [e] at h
    cases h
    obtain ⟨h1, h2⟩ := List.getElem?_eq_some_iff.mp e
    simp at h1 h2
    subst h2
    exact ⟨h1, rfl⟩
theorem rangeD_len {lo : Int} {n : Nat} : (rangeD lo n).length = n := by simp [rangeD]
def zones7 : List (Option Str) := [none, none, some "a", some "b", some "back", some "hall", some "win"]
theorem pure_at {f : Nat} {vs : List D} {x : D} {s' : Sto} {k : Nat} (h : Phi fns k f (vs.map .d) [] = .ok (.d x) s') : pureRun (Phi fns k f (vs.map .d)) = pure (.d x) := pureRun_eq h
theorem house_ok {k : Nat} {s : Sto} (n : Int) : ∃ os : List Op, os.length ≤ 10 ∧ (∀ o ∈ os, GoodO (1 + n % 7) o) ∧ Phi fns (k + 2) 109 [inV n] s = .ok (.d (encH (1 + n % 7) os)) s := by
  have hR : 1 ≤ 1 + n % 7 ∧ 1 + n % 7 ≤ 7 := by omega
  generalize hRR : 1 + n % 7 = R at hR ⊢
  have hm : 0 ≤ n / 8 % 11 ∧ n / 8 % 11 ≤ 10 := by omega
  generalize hmm : n / 8 % 11 = m at hm
  have loop := forL_ok (f := fun x env => ofO (bindT (.nm 3) x env) >>= fun e => exB (Phi fns (k + 1)) l1_law_house_v2 e)
    (fun i env t => t = s ∧ ∃ (os : List Op) (e3 e4 e5 e6 e7 : Option Vl), os.length = i ∧ (∀ o ∈ os, GoodO R o) ∧ env = [some (inV n), some (inV R), some (tuV (os.map encO)), e3, e4, e5, e6, e7])
    (rangeD 0 m.toNat) 0 [some (inV n), some (inV R), some (tuV []), none, none, none, none, none] s ⟨rfl, [], none, none, none, none, none, rfl, by simp, rfl⟩ (by
      rintro j x env t hx ⟨rfl, os, e3, e4, e5, e6, e7, hl, ho, rfl⟩
      obtain ⟨hj, rfl⟩ := rangeD_get hx
      have hd := pure_at (drawn_ok (k := k) (s := []) n (50 + (j : Int))) (vs := [.int n, .int (50 + (j : Int))])
      simp only [List.map_cons, List.map_nil] at hd
      generalize drawn n (50 + (j : Int)) = d at hd
      have h1 : 0 ≤ d / 4 % (R + 1) ∧ d / 4 % (R + 1) ≤ R := ⟨Int.emod_nonneg _ (by omega), by have := Int.emod_lt_of_pos (d / 4) (show 0 < R + 1 by omega); omega⟩
      have h0 : 0 ≤ d / 4 / 8 % R ∧ d / 4 / 8 % R < R := ⟨Int.emod_nonneg _ (by omega), Int.emod_lt_of_pos _ (by omega)⟩
      generalize ha : d / 4 % (R + 1) = a at h1
      generalize hq : d / 4 / 8 % R = q at h0
      have h2 : 0 ≤ (a + 1 + q) % (R + 1) ∧ (a + 1 + q) % (R + 1) ≤ R ∧ (a + 1 + q) % (R + 1) ≠ a := by
        have e : (a + 1 + q) % (R + 1) = if a + 1 + q < R + 1 then a + 1 + q else a + 1 + q - (R + 1) := by
          split
          · exact Int.emod_eq_of_lt (by omega) (by omega)
          · rw [← Int.sub_emod_right, Int.emod_eq_of_lt (by omega) (by omega)]
        rw [e]
        split <;> omega
      generalize hb : (a + 1 + q) % (R + 1) = b at h2
      have hz0 : 0 ≤ d / 4 / 64 % 7 ∧ d / 4 / 64 % 7 < 7 := by omega
      obtain ⟨z, hz1, hz2⟩ : ∃ z : Option Str, L2.atI [(.none : D), .none, .str "a", .str "b", .str "back", .str "hall", .str "win"] (d / 4 / 64 % 7) = some (encZ z) ∧ OkD 0 (encZ z) := by
        rw [atI_pos _ hz0.1]
        have : ∀ i : Nat, i < 7 → ∃ z : Option Str, [(.none : D), .none, .str "a", .str "b", .str "back", .str "hall", .str "win"][i]? = some (encZ z) ∧ OkD 0 (encZ z) := by
          intro i hi
          match i, hi with
          | 0, _ => exact ⟨none, rfl, .non⟩
          | 1, _ => exact ⟨none, rfl, .non⟩
          | 2, _ => exact ⟨some "a", rfl, .str (by decide +kernel)⟩
          | 3, _ => exact ⟨some "b", rfl, .str (by decide +kernel)⟩
          | 4, _ => exact ⟨some "back", rfl, .str (by decide +kernel)⟩
          | 5, _ => exact ⟨some "hall", rfl, .str (by decide +kernel)⟩
          | 6, _ => exact ⟨some "win", rfl, .str (by decide +kernel)⟩
        exact this _ (by omega)
      have hsz : os.length + 1 ≤ 16777216 := by omega
      have hr1 : 0 < R + 1 := by omega
      have hr2 : 0 < R := by omega
      refine ⟨[some (inV n), some (inV R), some (tuV ((os ++ [(if b < a then b else a, if b > a then b else a, z)]).map encO)), some (inV (0 + (j : Int))), some (inV (d / 4)), some (inV a), some (inV b), some (.d (encZ z))], t, .inl ?_, rfl, os ++ [(if b < a then b else a, if b > a then b else a, z)], some (inV (0 + (j : Int))), some (inV (d / 4)), some (inV a), some (inV b), some (.d (encZ z)), by simp; omega, ?_, rfl⟩
      · simp [l1_law_house_v2, bindT, hd, ha, hq, hb, hz1, hr1, hr2, szLine, hsz, encO]
      · intro o hm
        rcases List.mem_append.mp hm with h | h
        · exact ho o h
        · simp at h
          subst h
          refine ⟨?_, ?_, ?_, hz2⟩ <;> (dsimp only; split <;> (try split) <;> omega))
  obtain ⟨env', s', h1, rfl, os, e3, e4, e5, e6, e7, hl, ho, rfl⟩ := loop
  rw [rangeD_len] at hl
  refine ⟨os, by omega, ho, ?_⟩
  rw [run_of (F := f_law_house_v2) rfl rfl]
  have hb : bnd62 m = true := by
    unfold bnd62
    simp only [Bool.and_eq_true, decide_eq_true_eq]
    omega
  rw [show (fun (x : Vl) env => ofO (bindT (.nm 3) x env) >>= fun e => exB (Phi fns (k + 1)) l1_law_house_v2 e) = fun x env => exB (Phi fns (k + 1)) l1_law_house_v2 (env.set 3 (some x)) from rfl] at h1
  simp [f_law_house_v2, b_law_house_v2, enter, leave, leaveV, hRR, hmm, hb, szLine, bindT, M.bind_run, h1, encH]
end Dw

namespace Dw
open PySem
def encW (w : List Nat) : D := .tuple (w.map fun (i : Nat) => .int i)
def encR (rooms : List Int) : D := .tuple (rooms.map .int)
def beyL (o : Op) (r : Int) : Option Int := if o.1 = r then some o.2.1 else if o.2.1 = r then some o.1 else none
def encI : Option Int → D
  | some i => .int i
  | none => .none
theorem beyond_ok {k : Nat} {s : Sto} (o : Op) (r : Int) : Phi fns (k + 1) 103 [.d (encO o), inV r] s = .ok (.d (encI (beyL o r))) s := by
  rw [run_of (F := f_beyond) rfl rfl]
  unfold beyL
  by_cases h1 : o.1 = r
  · simp [f_beyond, b_beyond, enter, leave, leaveV, encO, h1, encI]
  · by_cases h2 : o.2.1 = r
    · simp [f_beyond, b_beyond, enter, leave, leaveV, h1, h2, encO, encI]
    · simp [f_beyond, b_beyond, enter, leave, leaveV, h1, h2, encO, encI]
def waysL : Nat → List Op → List Int → Int → List (List Nat)
  | 0, _, _, _ => []
  | d + 1, os, rooms, goal => if rooms.getLast? = some goal then [[]] else os.zipIdx.flatMap fun p =>
      match beyL p.1 (rooms.getLast?.getD 0) with
      | some r => if r ∈ rooms then [] else (waysL d os (rooms ++ [r]) goal).map (p.2 :: ·)
      | none => []
theorem isIn_ints (r : Int) (rooms : List Int) : isIn (.int r) (rooms.map .int) = decide (r ∈ rooms) := by
  unfold isIn
  rw [List.any_map]
  induction rooms with
  | nil => simp
  | cons a as ih =>
    rw [List.any_cons, ih]
    simp only [Function.comp, eqv_int, List.mem_cons]
    by_cases h : r = a
    · simp [h]
    · simp [h]
      intro e
      exact absurd e.symm h
theorem last_at {rooms : List Int} {l : Int} (h : rooms.getLast? = some l) : L2.atI (rooms.map PyData.int) (-1) = some (.int l) := by
  rw [atI_last _ (by intro e; simp at e; rw [e] at h; cases h), List.getLast?_map, h]
  rfl
theorem okR (rooms : List Int) : OkD 1 (encR rooms) := OkD.tup fun x hx => by
  obtain ⟨i, _, rfl⟩ := List.mem_map.mp hx
  exact OkD.int i
theorem flat_le {α β : Type} (g : α → List β) (b : Nat) : ∀ (l : List α), (∀ x ∈ l, (g x).length ≤ b) → (l.flatMap g).length ≤ l.length * b
  | [], _ => by simp
  | x :: l, h => by
    rw [List.flatMap_cons, List.length_append, List.length_cons, Nat.succ_mul]
    have h1 := h x List.mem_cons_self
    have h2 := flat_le g b l fun y hy => h y (List.mem_cons_of_mem _ hy)
    omega
theorem nodup_lt : ∀ (n : Nat) (l : List Nat), l.Nodup → (∀ x ∈ l, x < n) → l.length ≤ n
  | 0, l, _, h => by
    cases l with
    | nil => simp
    | cons x _ => exact absurd (h x List.mem_cons_self) (Nat.not_lt_zero _)
  | n + 1, l, nd, h => by
    by_cases q : n ∈ l
    · have h1 := nodup_lt n (l.erase n) (nd.erase n) fun x hx => by
        have h2 := (nd.mem_erase_iff).mp hx
        have := h x h2.2
        omega
      rw [List.length_erase_of_mem q] at h1
      omega
    · have := nodup_lt n l nd fun x hx => by
        have h2 := h x hx
        have : x ≠ n := fun e => q (e ▸ hx)
        omega
      omega
/-- how many more rooms there can be -/
structure Rms (R : Int) (rooms : List Int) : Prop where
  nd : rooms.Nodup
  lo : ∀ r ∈ rooms, 0 ≤ r ∧ r ≤ R
theorem Rms.len {R : Int} {rooms : List Int} (h : Rms R rooms) (hR : 0 ≤ R) : rooms.length ≤ R.toNat + 1 := by
  have : (rooms.map Int.toNat).Nodup := List.pairwise_map.mpr (h.nd.imp_of_mem fun {a b} ha hb hne e => hne (by have := h.lo a ha; have := h.lo b hb; omega))
  have h2 := nodup_lt (R.toNat + 1) _ this fun x hx => by
    obtain ⟨r, hr, rfl⟩ := List.mem_map.mp hx
    have := h.lo r hr
    omega
  simpa using h2
theorem beyL_good {R : Int} {o : Op} (h : GoodO R o) {r x : Int} (e : beyL o r = some x) : 0 ≤ x ∧ x ≤ R := by
  unfold beyL at e
  have h1 := h.a
  have h2 := h.b
  have h3 := h.c
  split at e
  · cases e; omega
  · split at e
    · cases e; omega
    · cases e
theorem Rms.more {R : Int} {rooms : List Int} (h : Rms R rooms) {r : Int} (hr : 0 ≤ r ∧ r ≤ R) (hn : r ∉ rooms) : Rms R (rooms ++ [r]) := by
  refine ⟨?_, fun x hx => ?_⟩
  · rw [List.nodup_append]
    exact ⟨h.nd, by simp, fun a ha b hb e => by simp at hb; subst hb; exact hn (e ▸ ha)⟩
  · rcases List.mem_append.mp hx with z | z
    · exact h.lo x z
    · simp at z; rw [z]; exact hr
/-- what is known of the ways -/
theorem ways_facts {R goal : Int} (hR : 0 ≤ R) : ∀ (d : Nat) (os : List Op) (rooms : List Int), os.length ≤ 10 → (∀ o ∈ os, GoodO R o) → Rms R rooms → R.toNat + 1 < rooms.length + d →
    (waysL d os rooms goal).length ≤ 10 ^ (R.toNat + 1 - rooms.length) ∧ ∀ w ∈ waysL d os rooms goal, (∀ i ∈ w, i < os.length) ∧ w.length ≤ R.toNat + 1 - rooms.length ∧ (w = [] → rooms.getLast? = some goal)
  | 0, os, rooms, ho, hg, hr, hd => absurd (hr.len hR) (by omega)
  | d + 1, os, rooms, ho, hg, hr, hd => by
    unfold waysL
    by_cases e : rooms.getLast? = some goal
    · rw [if_pos e]
      refine ⟨Nat.pos_of_ne_zero (by simp), fun w hw => ?_⟩
      simp at hw
      subst hw
      exact ⟨fun i hi => by simp at hi, by simp, fun _ => e⟩
    · rw [if_neg e]
      have key : ∀ p ∈ os.zipIdx, (match beyL p.1 (rooms.getLast?.getD 0) with
          | some r => if r ∈ rooms then [] else (waysL d os (rooms ++ [r]) goal).map (p.2 :: ·)
          | none => []).length ≤ 10 ^ (R.toNat + 1 - rooms.length - 1) ∧ ∀ w ∈ (match beyL p.1 (rooms.getLast?.getD 0) with
          | some r => if r ∈ rooms then [] else (waysL d os (rooms ++ [r]) goal).map (p.2 :: ·)
          | none => [] : List (List Nat)), (∀ i ∈ w, i < os.length) ∧ w.length ≤ R.toNat + 1 - rooms.length ∧ w ≠ [] := by
        intro p hp
        obtain ⟨o, i⟩ := p
        have hi := List.mem_zipIdx hp
        have hoi : i < os.length := by simpa using hi.2.1
        have hom : o ∈ os := by
          have := hi.2.2
          simp at this
          rw [this]
          exact List.getElem_mem _
        dsimp only
        cases hb : beyL o (rooms.getLast?.getD 0) with
        | none => exact ⟨by simp, fun w hw => by simp at hw⟩
        | some r =>
          dsimp only
          by_cases hm : r ∈ rooms
          · rw [if_pos hm]
            exact ⟨by simp, fun w hw => by simp at hw⟩
          · rw [if_neg hm]
            have hr' := hr.more (beyL_good (hg o hom) hb) hm
            have hl := hr'.len hR
            have ll : (rooms ++ [r]).length = rooms.length + 1 := by simp
            obtain ⟨i1, i2⟩ := ways_facts hR d os (rooms ++ [r]) ho hg hr' (by rw [ll]; omega)
            rw [ll] at i1 hl
            refine ⟨by rw [List.length_map]; exact Nat.le_trans i1 (by rw [Nat.sub_add_eq]; exact Nat.le_refl _), fun w hw => ?_⟩
            obtain ⟨w', hw', rfl⟩ := List.mem_map.mp hw
            obtain ⟨j1, j2, _⟩ := i2 w' hw'
            rw [ll] at j2
            refine ⟨fun x hx => ?_, by simp; omega, by simp⟩
            rcases List.mem_cons.mp hx with z | z
            · rw [z]; exact hoi
            · exact j1 x z
      refine ⟨?_, fun w hw => ?_⟩
      · by_cases hfull : R.toNat + 1 - rooms.length = 0
        · -- no room is left: nothing more
          have hnone : ∀ p ∈ os.zipIdx, (match beyL p.1 (rooms.getLast?.getD 0) with
            | some r => if r ∈ rooms then [] else (waysL d os (rooms ++ [r]) goal).map (p.2 :: ·)
            | none => [] : List (List Nat)) = [] := by
            intro p hp
            obtain ⟨o, i⟩ := p
            have hi := List.mem_zipIdx hp
            have hom : o ∈ os := by
              have := hi.2.2
              simp at this
              rw [this]
              exact List.getElem_mem _
            dsimp only
            cases hb : beyL o (rooms.getLast?.getD 0) with
            | none => rfl
            | some r =>
              dsimp only
              by_cases hm : r ∈ rooms
              · rw [if_pos hm]
              · have hr' := hr.more (beyL_good (hg o hom) hb) hm
                have hl := hr'.len hR
                simp at hl
                omega
          rw [List.flatMap_eq_nil_iff.mpr hnone]
          exact Nat.zero_le _
        · refine Nat.le_trans (flat_le _ (10 ^ (R.toNat + 1 - rooms.length - 1)) _ fun p hp => (key p hp).1) ?_
          rw [List.length_zipIdx]
          have h3 : 10 ^ (R.toNat + 1 - rooms.length) = 10 * 10 ^ (R.toNat + 1 - rooms.length - 1) := by
            rw [← Nat.pow_succ']
            congr 1
            omega
          rw [h3]
          exact Nat.mul_le_mul_right _ ho
      · obtain ⟨p, hp, hw⟩ := List.mem_flatMap.mp hw
        obtain ⟨k1, k2, k3⟩ := (key p hp).2 w hw
        exact ⟨k1, k2, fun z => absurd z k3⟩
/-! ### the run -/
theorem mtTy_run {t : Sto} {i : Nat} {xs : List D} (h : t[i]? = some (.lst xs)) : mtTy (.o i) t = .ok () t := by
  unfold mtTy
  dsimp only
  rw [M.bind_run]
  unfold getO
  rw [h]
  rfl
theorem ext_run {t : Sto} {i : Nat} {xs ys : List D} (h : t[i]? = some (.lst xs)) (hz : xs.length + ys.length ≤ szLine) : mt .extend (.o i) [liV ys] t = .ok nonV (t.set i (.lst (xs ++ ys))) := by
  show setLst (.o i) (fun xs => okS (decide (xs.length + ys.length ≤ szLine)) (nonV, xs ++ ys)) t = _
  unfold setLst
  dsimp only
  rw [M.bind_run]
  unfold getO
  rw [h]
  dsimp only
  rw [show decide (xs.length + ys.length ≤ szLine) = true from decide_eq_true hz]
  rfl
theorem app_run {t : Sto} {i : Nat} {xs : List D} {y : D} (h : t[i]? = some (.lst xs)) (hz : xs.length < szLine) : mt .append (.o i) [.d y] t = .ok nonV (t.set i (.lst (xs ++ [y]))) := by
  show setLst (.o i) (fun xs => okS (decide (xs.length < szLine)) (nonV, xs ++ [y])) t = _
  unfold setLst
  dsimp only
  rw [M.bind_run]
  unfold getO
  rw [h]
  dsimp only
  rw [show decide (xs.length < szLine) = true from decide_eq_true hz]
  rfl
theorem frz_run {t : Sto} {i : Nat} {xs : List D} (h : t[i]? = some (.lst xs)) : frzV (.o i) t = .ok (liV xs) (t.set i .dead) := by
  unfold frzV
  dsimp only
  rw [M.bind_run]
  unfold getO
  rw [h]
  rfl
theorem enumD_at {ds : List D} {n j : Nat} {x : Vl} (h : (enumD n ds)[j]? = some x) : ∃ d, ds[j]? = some d ∧ x = tuV [.int ((n + j : Nat) : Int), d] := by
  induction ds generalizing n j with
  | nil => simp [enumD] at h
  | cons a as ih =>
    cases j with
    | zero =>
      simp [enumD] at h
      exact ⟨a, rfl, by simp [← h]⟩
    | succ j =>
      simp only [enumD, List.getElem?_cons_succ] at h
      obtain ⟨d, h1, h2⟩ := ih h
      exact ⟨d, by simpa using h1, by rw [h2, show n + 1 + j = n + (j + 1) by omega]⟩
theorem enumD_length {ds : List D} {n : Nat} : (enumD n ds).length = ds.length := by
  induction ds generalizing n with
  | nil => rfl
  | cons a as ih => simp [enumD, ih]
/-- one turn's ways -/
def turnW (d : Nat) (os : List Op) (rooms : List Int) (goal : Int) (p : Op × Nat) : List (List Nat) :=
  match beyL p.1 (rooms.getLast?.getD 0) with
  | some r => if r ∈ rooms then [] else (waysL d os (rooms ++ [r]) goal).map (p.2 :: ·)
  | none => []
theorem ways_run {k : Nat} {R goal : Int} (hR : 0 ≤ R) (hR7 : R ≤ 7) : ∀ (d : Nat) (os : List Op) (rooms : List Int), rooms ≠ [] → os.length ≤ 10 → (∀ o ∈ os, GoodO R o) → Rms R rooms → R.toNat + 1 < rooms.length + d →
    ∃ t', Phi fns (k + d + 1) 106 [.d (encH R os), .d (encR rooms), inV goal] [] = .ok (liV ((waysL d os rooms goal).map encW)) t'
  | 0, os, rooms, _, ho, hg, hr, hd => absurd (hr.len hR) (by omega)
  | d + 1, os, rooms, hne, ho, hg, hr, hd => by
    obtain ⟨l, hl⟩ : ∃ l, rooms.getLast? = some l := by
      cases e : rooms.getLast? with
      | none => simp at e; exact absurd e hne
      | some l => exact ⟨l, rfl⟩
    have hla := last_at hl
    rw [show k + (d + 1) + 1 = (k + d + 1) + 1 by omega, run_of (F := f_ways_from) rfl rfl]
    by_cases hgl : l = goal
    · have hw : waysL (d + 1) os rooms goal = [[]] := by
        unfold waysL
        rw [if_pos (by rw [hl, hgl])]
      rw [hw]
      refine ⟨[], ?_⟩
      subst hgl
      simp [f_ways_from, b_ways_from, enter, leave, leaveV, encR, hla, szLine, encW]
    · have hw : waysL (d + 1) os rooms goal = os.zipIdx.flatMap (turnW d os rooms goal) := by
        conv => lhs; unfold waysL
        rw [if_neg (by rw [hl]; intro e; exact hgl (Option.some.inj e))]
        rfl
      have wf := ways_facts (goal := goal) hR (d + 1) os rooms ho hg hr hd
      rw [hw] at wf ⊢
      have hlen : 1 ≤ rooms.length := by cases rooms with | nil => exact absurd rfl hne | cons _ _ => simp
      have htot : (os.zipIdx.flatMap (turnW d os rooms goal)).length ≤ 10000000 := by
        refine Nat.le_trans wf.1 ?_
        have : 10 ^ (R.toNat + 1 - rooms.length) ≤ 10 ^ 7 := Nat.pow_le_pow_right (by omega) (by omega)
        exact this
      have hpart : ∀ i, ((os.zipIdx.take i).flatMap (turnW d os rooms goal)).length ≤ 10000000 := fun i => by
        refine Nat.le_trans ?_ htot
        have e : os.zipIdx = os.zipIdx.take i ++ os.zipIdx.drop i := (List.take_append_drop _ _).symm
        conv => rhs; rw [e]
        rw [List.flatMap_append, List.length_append]
        omega
      have loop := forL_ok (f := fun x env => ofO (bindT (.tp (.cons (.nm 4) (.cons (.nm 5) .nil))) x env) >>= fun e => exB (Phi fns (k + d + 1)) l1_ways_from e)
        (fun i env t => t = [.lst (((os.zipIdx.take i).flatMap (turnW d os rooms goal)).map encW)] ∧ ∃ e4 e5 e6 e7 : Option Vl, env = [some (.d (encH R os)), some (.d (encR rooms)), some (inV goal), some (.o 0), e4, e5, e6, e7])
        (enumD 0 (os.map encO)) 0 [some (.d (encH R os)), some (.d (encR rooms)), some (inV goal), some (.o 0), none, none, none, none] [.lst []] ⟨by simp, none, none, none, none, rfl⟩ (by
          rintro j x env t hx ⟨rfl, e4, e5, e6, e7, rfl⟩
          obtain ⟨dd, h1, rfl⟩ := enumD_at hx
          rw [List.getElem?_map] at h1
          obtain ⟨o, ho1, rfl⟩ : ∃ o, os[j]? = some o ∧ encO o = dd := by
            cases e : os[j]? with
            | none => rw [e] at h1; cases h1
            | some o => rw [e] at h1; exact ⟨o, rfl, Option.some.inj h1⟩
          have hom : o ∈ os := List.mem_of_getElem? ho1
          have hjl : j < os.length := (List.getElem?_eq_some_iff.mp ho1).1
          have htake : os.zipIdx.take (0 + j + 1) = os.zipIdx.take (0 + j) ++ [(o, j)] := by
            rw [Nat.zero_add, List.take_add_one, List.getElem?_zipIdx, ho1]
            simp
          have hstep : (os.zipIdx.take (0 + j + 1)).flatMap (turnW d os rooms goal) = (os.zipIdx.take (0 + j)).flatMap (turnW d os rooms goal) ++ turnW d os rooms goal (o, j) := by
            rw [htake, List.flatMap_append]
            simp
          have hsz := hpart (0 + j + 1)
          rw [hstep, List.length_append] at hsz
          rw [hstep]
          generalize hA : (os.zipIdx.take (0 + j)).flatMap (turnW d os rooms goal) = A at hsz ⊢
          have hb := pure_at (beyond_ok (k := k + d) (s := []) o l) (vs := [encO o, .int l])
          simp only [List.map_cons, List.map_nil] at hb
          have hld : rooms.getLast?.getD 0 = l := by rw [hl]; rfl
          have shR : shp (encR rooms) = true := (okR rooms).shp (by omega)
          unfold turnW at hsz ⊢
          dsimp only at hsz ⊢
          rw [hld] at hsz ⊢
          cases hbb : beyL o l with
          | none =>
            rw [hbb] at hb
            refine ⟨[some (.d (encH R os)), some (.d (encR rooms)), some (inV goal), some (.o 0), some (inV ((0 + j : Nat) : Int)), some (.d (encO o)), some nonV, e7], [.lst (A.map encW)], .inl ?_, by simp, _, _, _, _, rfl⟩
            simp [l1_ways_from, bindT, bindTs, encR, hla, hb, encI]
          | some r =>
            rw [hbb] at hb hsz
            dsimp only at hsz ⊢
            by_cases hm : r ∈ rooms
            · rw [if_pos hm]
              refine ⟨[some (.d (encH R os)), some (.d (encR rooms)), some (inV goal), some (.o 0), some (inV ((0 + j : Nat) : Int)), some (.d (encO o)), some (inV r), e7], [.lst (A.map encW)], .inl ?_, by simp, _, _, _, _, rfl⟩
              have shR' : shp (.tuple (rooms.map .int)) = true := shR
              simp [l1_ways_from, bindT, bindTs, encR, hla, hb, encI, shR', isIn_ints, hm]
            · rw [if_neg hm] at hsz ⊢
              have hr' := hr.more (beyL_good (hg o hom) hbb) hm
              obtain ⟨t', ih⟩ := ways_run (k := k) (goal := goal) hR hR7 d os (rooms ++ [r]) (by simp) ho hg hr' (by simp; omega)
              have hp := pure_at ih (vs := [encH R os, encR (rooms ++ [r]), .int goal])
              simp only [List.map_cons, List.map_nil] at hp
              have hL2 : ((waysL d os (rooms ++ [r]) goal).map (j :: ·)).length = (waysL d os (rooms ++ [r]) goal).length := List.length_map ..
              rw [hL2] at hsz
              have hwl : ∀ w ∈ waysL d os (rooms ++ [r]) goal, w.length ≤ 8 := fun w hw => by
                have := ((ways_facts (goal := goal) hR d os (rooms ++ [r]) ho hg hr' (by simp; omega)).2 w hw).2.1
                omega
              generalize waysL d os (rooms ++ [r]) goal = ws at hp hsz hwl ⊢
              have hwz : ∀ w ∈ ws, w.length ≤ 100 := fun w hw => by have := hwl w hw; omega
              have hc : compL (compF (Phi fns (k + d + 1)) (.nm 7) .no (.bin .Add (.tup (.cons (.var 4) .nil)) (.var 7)) [some (.d (encH R os)), some (.d (.tuple (rooms.map .int))), some (inV goal), some (.o 0), some (inV (j : Int)), some (.d (encO o)), some (inV r), none]) ((ws.map encW).map .d) [] [.lst (A.map encW)] = .ok (ws.map fun w => encW (j :: w)) [.lst (A.map encW)] := by
                rw [List.map_map]
                refine compL_map (h := Vl.d ∘ encW) (g := fun w => encW (j :: w)) ws (fun w hw => ?_) (by show _ ≤ 16777216; omega)
                unfold compF
                have hz := hwz w hw
                have hz2 : 1 + w.length ≤ 16777216 := by omega
                apply noEx_ok (s' := [.lst (A.map encW)])
                simp [bindT, encW, szLine, hz2]
              have shR' : shp (.tuple (rooms.map .int)) = true := (okR rooms).shp (by omega)
              have hext := ext_run (t := [.lst (A.map encW)]) (i := 0) (xs := A.map encW) (ys := ws.map fun w => encW (j :: w)) rfl (by show _ ≤ 16777216; simp only [List.length_map]; omega)
              have hmt := mtTy_run (t := [.lst (A.map encW)]) (i := 0) (xs := A.map encW) rfl
              have hRz : rooms.length + 1 ≤ 16777216 := by have := hr.len hR; omega
              have hRe : encR (rooms ++ [r]) = .tuple (rooms.map .int ++ [.int r]) := by simp [encR]
              rw [hRe] at hp
              generalize ws.map encW = L at hp hc
              refine ⟨[some (.d (encH R os)), some (.d (encR rooms)), some (inV goal), some (.o 0), some (inV ((0 + j : Nat) : Int)), some (.d (encO o)), some (inV r), e7], [.lst ((A ++ ws.map (j :: ·)).map encW)], .inl ?_, rfl, _, _, _, _, rfl⟩
              simp [l1_ways_from, bindT, bindTs, encR, hla, hb, encI, shR', isIn_ints, hm, M.bind_run, hmt, szLine, hRz, wipe, hp, hc, hext, Function.comp_def])
      obtain ⟨env', s', h1, rfl, e4, e5, e6, e7, rfl⟩ := loop
      rw [enumD_length, List.length_map, List.take_of_length_le (by simp)] at h1
      have hfz := frz_run (t := [.lst ((os.zipIdx.flatMap (turnW d os rooms goal)).map encW)]) (i := 0) (xs := (os.zipIdx.flatMap (turnW d os rooms goal)).map encW) rfl
      generalize (os.zipIdx.flatMap (turnW d os rooms goal)).map encW = Z at h1 hfz ⊢
      refine ⟨[.dead], ?_⟩
      have hnew : newL true [] [] = .ok (.o 0) [.lst []] := rfl
      simp only [encH, encR] at h1
      simp [f_ways_from, b_ways_from, enter, leave, leaveV, encR, hla, szLine, hgl, M.bind_run, hnew, encH, h1, hfz]
theorem okW (w : List Nat) : OkD 1 (encW w) := OkD.tup fun x hx => by
  obtain ⟨i, _, rfl⟩ := List.mem_map.mp hx
  exact OkD.int _
theorem alike_ints : ∀ (a b : List Nat), PySem.W.alikeAll (a.map fun (i : Nat) => PyData.int i) (b.map fun (i : Nat) => PyData.int i) = true
  | [], b => by simp [PySem.W.alikeAll]
  | x :: a, [] => by simp [PySem.W.alikeAll]
  | x :: a, y :: b => by simp [PySem.W.alikeAll, PySem.W.alike, alike_ints a b]
theorem ordd_ways {ws : List (List Nat)} (hl : ws.length ≤ 10000000) (hn : ∀ w ∈ ws, w ≠ []) : ordd (ws.map encW) = true := by
  unfold ordd
  simp only [Bool.and_eq_true, Bool.or_eq_true, decide_eq_true_eq, List.all_eq_true, List.length_map]
  refine ⟨⟨by show _ ≤ 16777216; omega, fun d hd => ?_⟩, .inl fun d hd => ?_⟩
  · obtain ⟨w, hw, rfl⟩ := List.mem_map.mp hd
    refine ⟨(okW w).shp (by omega), fun e he => ?_⟩
    obtain ⟨v, hv, rfl⟩ := List.mem_map.mp he
    unfold encW
    rw [PySem.W.alike]
    exact alike_ints w v
  · obtain ⟨w, hw, rfl⟩ := List.mem_map.mp hd
    have := hn w hw
    cases w with
    | nil => exact absurd rfl this
    | cons a w => rfl
theorem sort_map {ws : List (List Nat)} : ∃ us : List (List Nat), us.Perm ws ∧ sortD (ws.map encW) = us.map encW := by
  unfold sortD
  exact ⟨ws.mergeSort fun a b => PySem.W.dataLe false id (encW a) (encW b), List.mergeSort_perm _ _, (List.map_mergeSort (f := encW) (r := fun a b => PySem.W.dataLe false id (encW a) (encW b)) (s := PySem.W.dataLe false id) (fun a _ b _ => rfl)).symm⟩
/-- ways(house, room): some list of ways, each of openings that there are -/
theorem ways_ok {k : Nat} {R room : Int} (hR : 0 ≤ R) (hR7 : R ≤ 7) (hr : 1 ≤ room) {os : List Op} (ho : os.length ≤ 10) (hg : ∀ o ∈ os, GoodO R o) :
    ∃ us : List (List Nat), (∀ w ∈ us, (∀ i ∈ w, i < os.length) ∧ w.length ≤ 8) ∧ us.length ≤ 10000000 ∧ us.Perm (waysL 10 os [0] room) ∧ ∃ t', Phi fns (k + 13) 107 [.d (encH R os), inV room] [] = .ok (tuV (us.map encW)) t' := by
  have hrm : Rms R [0] := ⟨by simp, by simp; exact hR⟩
  obtain ⟨t1, h1⟩ := ways_run (k := k + 1) (goal := room) hR hR7 10 os [0] (by simp) ho hg hrm (by simp; omega)
  have wf := ways_facts (goal := room) hR 10 os [0] ho hg hrm (by simp; omega)
  generalize waysL 10 os [0] room = ws at h1 wf ⊢
  obtain ⟨us, hp, hs⟩ := sort_map (ws := ws)
  have hl : ws.length ≤ 10000000 := Nat.le_trans wf.1 (by
    have : 10 ^ (R.toNat + 1 - [(0 : Int)].length) ≤ 10 ^ 7 := Nat.pow_le_pow_right (by omega) (by simp; omega)
    exact this)
  refine ⟨us, fun w hw => ?_, by rw [hp.length_eq]; exact hl, hp, [], ?_⟩
  · obtain ⟨a, b, _⟩ := wf.2 w (hp.mem_iff.mp hw)
    exact ⟨a, by simp at b; omega⟩
  · have hq := pure_at h1 (vs := [encH R os, encR [0], .int room])
    simp only [List.map_cons, List.map_nil, encR] at hq
    have hord := ordd_ways hl fun w hw e => by
      have := (wf.2 w hw).2.2 e
      simp at this
      omega
    generalize ws.map encW = L at hq hs hord
    rw [run_of (F := f_ways) rfl rfl]
    simp [f_ways, b_ways, enter, leave, leaveV, szLine, hq, hord, hs]
end Dw

namespace Dw
open PySem
def tk (n : Int) : D := .tuple [.str "ticks", .int n]
def ln (x : Str) (w : Str) : D := .tuple [.str "line", .str x, .str w]
def evL (pace : Int) : Option Str → List D
  | none => [tk 1, tk pace]
  | some x => [ln x "open", tk 1, ln x "shut", tk pace]
def zn (os : List Op) (i : Nat) : Option Str := os[i]?.bind (·.2.2)
def rowL (os : List Op) (pace : Int) (w : List Nat) : List D := w.flatMap fun i => evL pace (zn os i)
theorem events_ok {k : Nat} {s : Sto} {R pace : Int} {os : List Op} {i : Nat} (hi : i < os.length) : Phi fns (k + 1) 130 [.d (encH R os), inV (i : Nat), inV pace] s = .ok (tuV (evL pace (zn os i))) s := by
  rw [run_of (F := f_events_for) rfl rfl]
  have h1 : os[i]? = some os[i] := List.getElem?_eq_getElem hi
  unfold zn
  rw [h1]
  generalize os[i] = o at h1
  obtain ⟨a, b, z⟩ := o
  cases z with
  | none => simp [f_events_for, b_events_for, enter, leave, leaveV, encH, h1, encO, encZ, szLine, evL, tk]
  | some x => simp [f_events_for, b_events_for, enter, leave, leaveV, encH, h1, encO, encZ, szLine, evL, tk, ln]
theorem evL_len (pace : Int) (z : Option Str) : (evL pace z).length ≤ 4 := by cases z <;> simp [evL]
theorem rowL_len (os : List Op) (pace : Int) (w : List Nat) : (rowL os pace w).length ≤ w.length * 4 := flat_le _ 4 w fun i _ => evL_len pace _
theorem walked_ok {k : Nat} {s : Sto} {R pace : Int} {os : List Op} {w : List Nat} (hw : ∀ i ∈ w, i < os.length) (hl : w.length ≤ 8) : Phi fns (k + 2) 131 [.d (encH R os), .d (encW w), inV pace] s = .ok (tuV (rowL os pace w)) s := by
  have loop := forL_ok (f := fun x env => ofO (bindT (.nm 4) x env) >>= fun e => exB (Phi fns (k + 1)) l1_walked e)
    (fun i env t => t = s ∧ ∃ e4 : Option Vl, env = [some (.d (encH R os)), some (.d (encW w)), some (inV pace), some (tuV (rowL os pace (w.take i))), e4])
    ((w.map fun (i : Nat) => PyData.int i).map .d) 0 [some (.d (encH R os)), some (.d (encW w)), some (inV pace), some (tuV []), none] s ⟨rfl, none, by simp [rowL]⟩ (by
      rintro j x env t hx ⟨rfl, e4, rfl⟩
      rw [List.map_map, List.getElem?_map] at hx
      obtain ⟨i, hi, rfl⟩ : ∃ i, w[j]? = some i ∧ inV (i : Nat) = x := by
        cases e : w[j]? with
        | none => rw [e] at hx; cases hx
        | some i => rw [e] at hx; exact ⟨i, rfl, Option.some.inj hx⟩
      have ev := pure_at (events_ok (k := k) (s := []) (R := R) (pace := pace) (hw i (List.mem_of_getElem? hi))) (vs := [encH R os, .int (i : Nat), .int pace])
      simp only [List.map_cons, List.map_nil] at ev
      have htake : w.take (0 + j + 1) = w.take (0 + j) ++ [i] := by
        rw [Nat.zero_add, List.take_add_one, hi]
        rfl
      have hrow : rowL os pace (w.take (0 + j + 1)) = rowL os pace (w.take (0 + j)) ++ evL pace (zn os i) := by
        rw [htake]
        simp [rowL]
      have h1 := rowL_len os pace (w.take (0 + j))
      have h2 := evL_len pace (zn os i)
      have h3 : (w.take (0 + j)).length ≤ 8 := by rw [List.length_take]; omega
      rw [hrow]
      generalize rowL os pace (w.take (0 + j)) = A at h1 ⊢
      generalize evL pace (zn os i) = B at ev h2 ⊢
      have hz : A.length + B.length ≤ 16777216 := by omega
      refine ⟨[some (.d (encH R os)), some (.d (encW w)), some (inV pace), some (tuV (A ++ B)), some (inV (i : Nat))], t, .inl ?_, rfl, _, rfl⟩
      simp [l1_walked, bindT, ev, szLine, hz])
  obtain ⟨env', s', h1, rfl, e4, rfl⟩ := loop
  rw [List.length_map, List.length_map, List.take_of_length_le (by simp)] at h1
  rw [run_of (F := f_walked) rfl rfl]
  generalize rowL os pace w = A at h1 ⊢
  simp only [encW] at h1 ⊢
  generalize (w.map fun (i : Nat) => PyData.int i) = L at h1 ⊢
  simp [f_walked, b_walked, enter, leave, leaveV, szLine, M.bind_run, h1]
/-! ### the law -/
theorem refl_of {n : Nat} {d : D} (h : OkD n d) : PyData.eqv d d = true := PySem.SeqAt.eqv_refl d h.c
structure GoodZ (os : List Op) : Prop where
  z : ∀ i x, zn os i = some x → OkD 0 (.str x)
theorem goodZ {R : Int} {os : List Op} (h : ∀ o ∈ os, GoodO R o) : GoodZ os := ⟨fun i x e => by
  unfold zn at e
  cases q : os[i]? with
  | none => rw [q] at e; cases e
  | some o =>
    rw [q] at e
    have e : o.2.2 = some x := e
    have := (h o (List.mem_of_getElem? q)).z
    rw [e] at this
    exact this⟩
theorem okTk (n : Int) : OkD 1 (tk n) := OkD.tup fun x hx => by
  simp at hx
  rcases hx with rfl | rfl
  · exact OkD.str (by decide +kernel)
  · exact OkD.int _
theorem okLn {x w : Str} (h : OkD 0 (.str x)) (hw : OkD 0 (.str w)) : OkD 1 (ln x w) := OkD.tup fun y hy => by
  simp at hy
  rcases hy with rfl | rfl | rfl
  · exact OkD.str (by decide +kernel)
  · exact h
  · exact hw
theorem okEv {os : List Op} (g : GoodZ os) {pace : Int} {i : Nat} {d : D} (h : d ∈ evL pace (zn os i)) : (∃ n, d = tk n) ∨ ∃ x w, zn os i = some x ∧ d = ln x w ∧ OkD 0 (.str w) := by
  cases e : zn os i with
  | none =>
    rw [e] at h
    simp [evL] at h
    rcases h with rfl | rfl
    · exact .inl ⟨_, rfl⟩
    · exact .inl ⟨_, rfl⟩
  | some x =>
    rw [e] at h
    simp [evL] at h
    rcases h with rfl | rfl | rfl | rfl
    · exact .inr ⟨x, "open", rfl, rfl, OkD.str (by decide +kernel)⟩
    · exact .inl ⟨_, rfl⟩
    · exact .inr ⟨x, "shut", rfl, rfl, OkD.str (by decide +kernel)⟩
    · exact .inl ⟨_, rfl⟩
theorem okRow {os : List Op} (g : GoodZ os) {pace : Int} {w : List Nat} : ∀ d ∈ rowL os pace w, OkD 1 d := fun d hd => by
  obtain ⟨i, _, h⟩ := List.mem_flatMap.mp hd
  rcases okEv g h with ⟨n, rfl⟩ | ⟨x, w, e, rfl, hw⟩
  · exact okTk n
  · exact okLn (g.z i x e) hw
def nmsL (os : List Op) (w : List Nat) : List Str := w.filterMap (zn os)
def linesL (ns : List Str) : List D := ns.flatMap fun x => [ln x "open", ln x "shut"]
def isTk : D → Option D
  | .tuple (.str t :: x :: _) => if t = "ticks" then some x else none
  | _ => none
def isLn : D → Option D
  | .tuple (.str t :: x :: y) => if t = "line" then some (.tuple (.str t :: x :: y)) else none
  | _ => none
theorem ne_lt : ¬ (Str.ofString "line" = Str.ofString "ticks") := by decide +kernel
theorem ne_tl : ¬ (Str.ofString "ticks" = Str.ofString "line") := by decide +kernel
theorem tks_row (os : List Op) (pace : Int) : ∀ w : List Nat, (rowL os pace w).filterMap isTk = w.flatMap fun _ => [.int 1, .int pace]
  | [] => rfl
  | i :: w => by
    have ih := tks_row os pace w
    unfold rowL at ih ⊢
    rw [List.flatMap_cons, List.filterMap_append, ih, List.flatMap_cons]
    congr 1
    cases zn os i with
    | none => simp [evL, tk, isTk]
    | some x => simp [evL, tk, ln, isTk, ne_lt, List.filterMap_cons]
theorem lns_row (os : List Op) (pace : Int) : ∀ w : List Nat, (rowL os pace w).filterMap isLn = linesL (nmsL os w)
  | [] => rfl
  | i :: w => by
    have ih := lns_row os pace w
    unfold rowL at ih ⊢
    rw [List.flatMap_cons, List.filterMap_append, ih]
    unfold nmsL linesL
    cases e : zn os i with
    | none => simp [evL, tk, isLn, e, ne_tl, List.filterMap_cons]
    | some x => simp [evL, tk, ln, isLn, e, ne_tl, List.filterMap_cons]
theorem intsM_map : ∀ (ns : List Int), intsM (ns.map .int) = pure ns
  | [] => rfl
  | n :: ns => by
    show (intsM (ns.map .int) >>= fun ns' => pure (n :: ns')) = _
    rw [intsM_map ns]
    rfl
theorem sum_rep (pace : Int) : ∀ w : List Nat, (w.flatMap fun _ => [1, pace]).sum = w.length * (1 + pace)
  | [] => by simp
  | i :: w => by
    rw [List.flatMap_cons, List.sum_append, sum_rep pace w]
    simp
    rw [Int.add_mul]
    omega
theorem pair_get {α : Type} (A B : Str → α) : ∀ (ns : List Str) (k : Nat), (ns.flatMap fun x => [A x, B x])[2 * k]? = ns[k]?.map A ∧ (ns.flatMap fun x => [A x, B x])[2 * k + 1]? = ns[k]?.map B
  | [], k => by simp
  | x :: ns, 0 => by simp
  | x :: ns, k + 1 => by
    obtain ⟨h1, h2⟩ := pair_get A B ns k
    rw [List.flatMap_cons, show 2 * (k + 1) = 2 * k + 2 by omega]
    exact ⟨by simpa using h1, by simpa using h2⟩
theorem pair_len {α : Type} (A B : Str → α) : ∀ (ns : List Str), (ns.flatMap fun x => [A x, B x]).length = 2 * ns.length
  | [] => rfl
  | x :: ns => by
    rw [List.flatMap_cons, List.length_append, pair_len A B ns]
    simp
    omega
theorem pick_map {α β : Type} (A : α → β) (ns : List α) : (List.range ns.length).filterMap (fun k => ns[k]?.map A) = ns.map A := by
  induction ns with
  | nil => rfl
  | cons x ns ih =>
    rw [List.length_cons, List.range_succ_eq_map, List.filterMap_cons]
    simp only [List.getElem?_cons_zero, Option.map_some, List.map_cons]
    rw [List.filterMap_map]
    congr 1
theorem fm_congr {α β : Type} {f g : α → Option β} : ∀ {l : List α}, (∀ a ∈ l, f a = g a) → l.filterMap f = l.filterMap g
  | [], _ => rfl
  | a :: l, h => by
    rw [List.filterMap_cons, List.filterMap_cons, h a List.mem_cons_self, fm_congr fun b hb => h b (List.mem_cons_of_mem _ hb)]
theorem stp_even (A B : Str → D) (ns : List Str) : stpD (ns.flatMap fun x => [A x, B x]) none 2 = ns.map A := by
  unfold stpD
  rw [pair_len]
  have e : sliceRange (sliceBounds none none (some 2) (2 * ns.length)).1 (sliceBounds none none (some 2) (2 * ns.length)).2.1 (sliceBounds none none (some 2) (2 * ns.length)).2.2 = (List.range ns.length).map fun k => 2 * k := by
    have h : sliceBounds none none (some 2) (2 * ns.length) = (0, ((2 * ns.length : Nat) : Int), 2) := by
      simp [sliceBounds]
    rw [h]
    unfold sliceRange
    dsimp only
    rw [if_pos (by decide)]
    have hc : (if (0 : Int) < ((2 * ns.length : Nat) : Int) then (((2 * ns.length : Nat) : Int) - 0 + 2 - 1) / 2 else 0).toNat = ns.length := by
      split <;> omega
    rw [hc]
    exact List.map_congr_left fun k _ => by omega
  rw [e, List.filterMap_map]
  refine Eq.trans (fm_congr fun k _ => ?_) (pick_map A ns)
  exact (pair_get A B ns k).1
theorem stp_odd (A B : Str → D) (ns : List Str) : stpD (ns.flatMap fun x => [A x, B x]) (some 1) 2 = ns.map B := by
  unfold stpD
  rw [pair_len]
  by_cases h0 : ns.length = 0
  · have : ns = [] := List.eq_nil_of_length_eq_zero h0
    subst this
    rfl
  have e : sliceRange (sliceBounds (some 1) none (some 2) (2 * ns.length)).1 (sliceBounds (some 1) none (some 2) (2 * ns.length)).2.1 (sliceBounds (some 1) none (some 2) (2 * ns.length)).2.2 = (List.range ns.length).map fun k => 2 * k + 1 := by
    have h : sliceBounds (some 1) none (some 2) (2 * ns.length) = (1, ((2 * ns.length : Nat) : Int), 2) := by
      simp [sliceBounds]
      omega
    rw [h]
    unfold sliceRange
    dsimp only
    rw [if_pos (by decide)]
    have hc : (if (1 : Int) < ((2 * ns.length : Nat) : Int) then (((2 * ns.length : Nat) : Int) - 1 + 2 - 1) / 2 else 0).toNat = ns.length := by
      split <;> omega
    rw [hc]
    exact List.map_congr_left fun k _ => by omega
  rw [e, List.filterMap_map]
  refine Eq.trans (fm_congr fun k _ => ?_) (pick_map B ns)
  exact (pair_get A B ns k).2
@[simp] theorem shp_ticks : shp (.str "ticks") = true := (OkD.str (n := 0) (by decide +kernel)).shp (by omega)
@[simp] theorem shp_line : shp (.str "line") = true := (OkD.str (n := 0) (by decide +kernel)).shp (by omega)
section
variable {Φ : Nat → List Vl → M Vl} {t : Sto} {a0 a1 a2 a3 a4 a5 a6 a7 a8 a9 a10 : Option Vl}
def EvD (C : List D) : Prop := ∀ d ∈ C, (∃ n, d = tk n) ∨ ∃ x w, d = ln x w
theorem comp_tk {C : List D} (hC : EvD C) (hz : C.length ≤ 16777216) : compL (compF Φ (.nm 10) (.so (.cmp .Eq (.ix (.var 10) (.int 0)) (.str "ticks"))) (.ix (.var 10) (.int 1)) [a0, a1, a2, a3, a4, a5, a6, a7, a8, a9, none]) (C.map .d) [] t = .ok (C.filterMap isTk) t := by
  refine compL_fm _ isTk C (fun d hd => ?_) (by show _ ≤ 16777216; exact hz)
  unfold compF
  apply noEx_ok (s' := t)
  rcases hC d hd with ⟨n, rfl⟩ | ⟨x, w, rfl⟩
  · simp [bindT, tk, isTk]
  · simp [bindT, ln, isTk, ne_lt]
theorem comp_ln {C : List D} (hC : EvD C) (hz : C.length ≤ 16777216) : compL (compF Φ (.nm 10) (.so (.cmp .Eq (.ix (.var 10) (.int 0)) (.str "line"))) (.var 10) [a0, a1, a2, a3, a4, a5, a6, a7, a8, a9, none]) (C.map .d) [] t = .ok (C.filterMap isLn) t := by
  refine compL_fm _ isLn C (fun d hd => ?_) (by show _ ≤ 16777216; exact hz)
  unfold compF
  apply noEx_ok (s' := t)
  rcases hC d hd with ⟨n, rfl⟩ | ⟨x, w, rfl⟩
  · simp [bindT, tk, isLn, ne_tl]
  · simp [bindT, ln, isLn]
theorem comp_nm {R : Int} {os : List Op} {w : List Nat} (hw : ∀ i ∈ w, i < os.length) (hz : w.length ≤ 8) : compL (compF Φ (.nm 7) (.so (.cmp .IsNot (.ix (.ix (.ix (.var 1) (.int 1)) (.var 7)) (.int 2)) (.non))) (.ix (.ix (.ix (.var 1) (.int 1)) (.var 7)) (.int 2)) [a0, some (.d (encH R os)), a2, a3, a4, a5, a6, none, a8, a9, a10]) ((w.map fun (i : Nat) => PyData.int i).map .d) [] t = .ok ((nmsL os w).map .str) t := by
  have e : (nmsL os w).map PyData.str = w.filterMap fun i => (zn os i).map PyData.str := by
    unfold nmsL
    rw [List.map_filterMap]
  rw [e, List.map_map]
  refine compL_fm (Vl.d ∘ fun (i : Nat) => PyData.int i) (fun i => (zn os i).map PyData.str) w (fun i hi => ?_) (by show _ ≤ 16777216; omega)
  unfold compF
  apply noEx_ok (s' := t)
  have h1 : os[i]? = some (os[i]'(hw i hi)) := List.getElem?_eq_getElem (hw i hi)
  unfold zn
  rw [h1]
  generalize os[i]'(hw i hi) = o at h1
  obtain ⟨a, b, z⟩ := o
  cases z with
  | none => simp [bindT, encH, h1, encO, encZ]
  | some x => simp [bindT, encH, h1, encO, encZ]
theorem comp_1 {ns : List Str} {v : Str} (hz : ns.length ≤ 8) : compL (compF Φ (.nm 10) .no (.ix (.var 10) (.int 1)) [a0, a1, a2, a3, a4, a5, a6, a7, a8, a9, none]) ((ns.map fun x => ln x v).map .d) [] t = .ok (ns.map .str) t := by
  rw [List.map_map]
  refine compL_map (Vl.d ∘ fun x => ln x v) PyData.str ns (fun i hi => ?_) (by show _ ≤ 16777216; omega)
  unfold compF
  apply noEx_ok (s' := t)
  simp [bindT, ln]
def third : D → Option D
  | .tuple [_, _, y] => some y
  | _ => none
theorem comp_2 {ns : List Str} (hz : ns.length ≤ 8) : compL (compF Φ (.nm 10) .no (.ix (.var 10) (.int 2)) [a0, a1, a2, a3, a4, a5, a6, a7, a8, a9, none]) ((linesL ns).map .d) [] t = .ok (rep [PyData.str "open", .str "shut"] ns.length) t := by
  have e : (linesL ns).filterMap third = rep [PyData.str "open", .str "shut"] ns.length := by
    induction ns with
    | nil => rfl
    | cons x ns ih =>
      have := ih (by simp at hz; omega)
      unfold linesL at this ⊢
      rw [List.flatMap_cons, List.filterMap_append, this]
      unfold rep
      rw [List.length_cons, List.replicate_succ, List.flatten_cons]
      rfl
  rw [← e]
  refine compL_fm Vl.d third (linesL ns) (fun d hd => ?_) (by
    show _ ≤ 16777216
    have := pair_len (fun x => ln x "open") (fun x => ln x "shut") ns
    unfold linesL
    rw [this]; omega)
  unfold compF
  apply noEx_ok (s' := t)
  obtain ⟨x, _, hx⟩ := List.mem_flatMap.mp hd
  simp at hx
  rcases hx with rfl | rfl
  · simp [bindT, ln, third]
  · simp [bindT, ln, third]
end
/-- one way of the law's loop -/
theorem turn_ok {k : Nat} {R pace : Int} {os : List Op} {w : List Nat} {t : Sto} (g : GoodZ os) (hp : 1 ≤ pace) (hp2 : pace ≤ 40) (hw : ∀ i ∈ w, i < os.length) (hl : w.length ≤ 8) (e0 e2 e5 e6 e7 e8 e9 e10 : Option Vl) :
    ∃ f5 f6 f7 f8 f9 f10 : Option Vl, exB (Phi fns (k + 3)) l2_law_k32 [e0, some (.d (encH R os)), e2, some (inV pace), some (.d (encW w)), e5, e6, e7, e8, e9, e10] t = .ok (.nx, [e0, some (.d (encH R os)), e2, some (inV pace), some (.d (encW w)), f5, f6, f7, f8, f9, f10]) t := by
  have hwk := pure_at (walked_ok (k := k + 1) (s := []) (R := R) (pace := pace) hw hl) (vs := [encH R os, encW w, .int pace])
  simp only [List.map_cons, List.map_nil] at hwk
  have hrl := rowL_len os pace w
  have loop := forL_ok (f := fun x env => ofO (bindT (.nm 7) x env) >>= fun e => exB (Phi fns (k + 3)) l1_law_k32 e)
    (fun i env t' => t' = t ∧ ∃ g7 : Option Vl, env = [e0, some (.d (encH R os)), e2, some (inV pace), some (.d (encW w)), some (tuV (rowL os pace w)), some (tuV (rowL os pace (w.take i))), g7, e8, e9, e10])
    ((w.map fun (i : Nat) => PyData.int i).map .d) 0 [e0, some (.d (encH R os)), e2, some (inV pace), some (.d (encW w)), some (tuV (rowL os pace w)), some (tuV []), e7, e8, e9, e10] t ⟨rfl, e7, by simp [rowL]⟩ (by
      rintro j x env t' hx ⟨rfl, g7, rfl⟩
      rw [List.map_map, List.getElem?_map] at hx
      obtain ⟨i, hi, rfl⟩ : ∃ i, w[j]? = some i ∧ inV (i : Nat) = x := by
        cases e : w[j]? with
        | none => rw [e] at hx; cases hx
        | some i => rw [e] at hx; exact ⟨i, rfl, Option.some.inj hx⟩
      have h1 := pure_at (walked_ok (k := k + 1) (s := []) (R := R) (pace := pace) (os := os) (w := [i]) (fun x hx => by simp at hx; rw [hx]; exact hw i (List.mem_of_getElem? hi)) (by simp)) (vs := [encH R os, .tuple [.int (i : Nat)], .int pace])
      simp only [List.map_cons, List.map_nil] at h1
      have htake : w.take (0 + j + 1) = w.take (0 + j) ++ [i] := by
        rw [Nat.zero_add, List.take_add_one, hi]
        rfl
      have hrow : rowL os pace (w.take (0 + j + 1)) = rowL os pace (w.take (0 + j)) ++ rowL os pace [i] := by
        rw [htake]
        simp [rowL]
      have z1 := rowL_len os pace (w.take (0 + j))
      have z2 := rowL_len os pace [i]
      have z3 : (w.take (0 + j)).length ≤ 8 := by rw [List.length_take]; omega
      have z4 : [i].length = 1 := rfl
      rw [hrow]
      generalize rowL os pace (w.take (0 + j)) = A at z1 ⊢
      generalize rowL os pace [i] = B at h1 z2 ⊢
      generalize rowL os pace w = C
      have hz : A.length + B.length ≤ 16777216 := by omega
      refine ⟨[e0, some (.d (encH R os)), e2, some (inV pace), some (.d (encW w)), some (tuV C), some (tuV (A ++ B)), some (inV (i : Nat)), e8, e9, e10], t', .inl ?_, rfl, _, rfl⟩
      simp [l1_law_k32, bindT, h1, szLine, hz])
  obtain ⟨env', s', h1, rfl, g7, rfl⟩ := loop
  rw [List.length_map, List.length_map, List.take_of_length_le (by simp)] at h1
  have hev : EvD (rowL os pace w) := fun d hd => by
    obtain ⟨i, _, h⟩ := List.mem_flatMap.mp hd
    rcases okEv g h with ⟨n, e⟩ | ⟨x, v, _, e, _⟩
    · exact .inl ⟨n, e⟩
    · exact .inr ⟨x, v, e⟩
  have hn8 : (nmsL os w).length ≤ 8 := Nat.le_trans (List.length_filterMap_le _ _) hl
  have okC : OkD 2 (.tuple (rowL os pace w)) := OkD.tup (okRow g)
  have okN : OkD 1 (.list ((nmsL os w).map .str)) := OkD.lst fun d hd => by
    obtain ⟨x, hx, rfl⟩ := List.mem_map.mp hd
    obtain ⟨i, _, e⟩ := List.mem_filterMap.mp hx
    exact g.z i x e
  have okO : OkD 1 (.list (rep [PyData.str "open", .str "shut"] (nmsL os w).length)) := OkD.lst fun d hd => by
    unfold rep at hd
    obtain ⟨l, h2, h3⟩ := List.mem_flatten.mp hd
    rw [(List.mem_replicate.mp h2).2] at h3
    simp at h3
    rcases h3 with rfl | rfl
    · exact OkD.str (by decide +kernel)
    · exact OkD.str (by decide +kernel)
  have c1 := fun (t : Sto) (a0 a1 a2 a3 a4 a5 a6 a7 a8 a9 : Option Vl) => comp_tk (Φ := Phi fns (k + 3)) (t := t) (a0 := a0) (a1 := a1) (a2 := a2) (a3 := a3) (a4 := a4) (a5 := a5) (a6 := a6) (a7 := a7) (a8 := a8) (a9 := a9) hev (by omega)
  have c2 := fun (t : Sto) (a0 a2 a3 a4 a5 a6 a8 a9 a10 : Option Vl) => comp_nm (Φ := Phi fns (k + 3)) (t := t) (a0 := a0) (a2 := a2) (a3 := a3) (a4 := a4) (a5 := a5) (a6 := a6) (a8 := a8) (a9 := a9) (a10 := a10) (R := R) hw hl
  have c3 := fun (t : Sto) (a0 a1 a2 a3 a4 a5 a6 a7 a8 a9 : Option Vl) => comp_ln (Φ := Phi fns (k + 3)) (t := t) (a0 := a0) (a1 := a1) (a2 := a2) (a3 := a3) (a4 := a4) (a5 := a5) (a6 := a6) (a7 := a7) (a8 := a8) (a9 := a9) hev (by omega)
  have c4 := fun (v : Str) (t : Sto) (a0 a1 a2 a3 a4 a5 a6 a7 a8 a9 : Option Vl) => comp_1 (Φ := Phi fns (k + 3)) (t := t) (a0 := a0) (a1 := a1) (a2 := a2) (a3 := a3) (a4 := a4) (a5 := a5) (a6 := a6) (a7 := a7) (a8 := a8) (a9 := a9) (ns := nmsL os w) (v := v) hn8
  have c5 := fun (t : Sto) (a0 a1 a2 a3 a4 a5 a6 a7 a8 a9 : Option Vl) => comp_2 (Φ := Phi fns (k + 3)) (t := t) (a0 := a0) (a1 := a1) (a2 := a2) (a3 := a3) (a4 := a4) (a5 := a5) (a6 := a6) (a7 := a7) (a8 := a8) (a9 := a9) (ns := nmsL os w) hn8
  have s1 := stp_even (fun x => ln x "open") (fun x => ln x "shut") (nmsL os w)
  have s2 := stp_odd (fun x => ln x "open") (fun x => ln x "shut") (nmsL os w)
  rw [show ((nmsL os w).flatMap fun x => [ln x "open", ln x "shut"]) = linesL (nmsL os w) from rfl] at s1 s2
  rw [tks_row] at c1
  rw [lns_row] at c3
  have hsum : bi .sum [liV (w.flatMap fun _ => [PyData.int 1, .int pace])] = pure (inV (w.length * (1 + pace))) := by
    have e : (w.flatMap fun _ => [PyData.int 1, .int pace]) = (w.flatMap fun _ => [1, pace]).map PyData.int := by
      rw [List.map_flatMap]
      rfl
    rw [e]
    show (intsM _ >>= fun ns => pure (inV ns.sum)) = _
    rw [intsM_map, M.pure_bind, sum_rep]
  have hmul : cMul (w.length : Int) (1 + pace) = true := by
    unfold cMul
    simp only [Bool.or_eq_true, Bool.and_eq_true, decide_eq_true_eq]
    omega
  generalize rowL os pace w = C at *
  have shC := okC.shp (by omega)
  have shN := okN.shp (by omega)
  have shO := okO.shp (by omega)
  have rfC := refl_of okC
  have rfN := refl_of okN
  have rfO := refl_of okO
  simp only [encW] at h1 ⊢
  have hLl : (w.map fun (i : Nat) => PyData.int i).length = w.length := List.length_map ..
  have hNl : ((nmsL os w).map PyData.str).length = (nmsL os w).length := List.length_map ..
  simp only [encW] at hwk
  generalize (w.map fun (i : Nat) => PyData.int i) = L at *
  have c4o := c4 "open"
  have c4s := c4 "shut"
  clear c4 hev okC okN okO
  generalize (w.flatMap fun _ => [PyData.int 1, .int pace]) = TK at *
  generalize ((nmsL os w).map fun x => ln x "open") = OP at *
  generalize ((nmsL os w).map fun x => ln x "shut") = SH at *
  generalize ((nmsL os w).map PyData.str) = NS at *
  generalize linesL (nmsL os w) = LL at *
  generalize (nmsL os w).length = n at *
  have hrep : binop .Mult (liV [PyData.str "open", .str "shut"]) (inV (n : Int)) = pure (liV (rep [PyData.str "open", .str "shut"] n)) := by
    show okS (decide (0 ≤ (n : Int)) && decide ((n : Int) < 2 ^ 63) && decide (2 * (n : Int).toNat ≤ 16777216)) (liV (rep _ (n : Int).toNat)) = _
    rw [decide_eq_true (by omega), decide_eq_true (by omega), decide_eq_true (by omega)]
    simp
  generalize rep [PyData.str "open", .str "shut"] n = RP at *
  have v1 : stpV (liV LL) none 2 = pure (liV OP) := by
    show okS (decide ((2 : Int) ≠ 0)) (liV (stpD LL none 2)) = _
    rw [s1]
    rfl
  have v2 : stpV (liV LL) (some 1) 2 = pure (liV SH) := by
    show okS (decide ((2 : Int) ≠ 0)) (liV (stpD LL (some 1) 2)) = _
    rw [s2]
    rfl
  refine ⟨some (tuV C), some (tuV C), g7, some (liV NS), some (liV LL), e10, ?_⟩
  unfold l2_law_k32
  refine step_nx (env' := [e0, some (.d (encH R os)), e2, some (inV pace), some (tuV L), some (tuV C), e6, e7, e8, e9, e10]) (t' := s') (by simp [hwk]) ?_
  refine step_nx (env' := [e0, some (.d (encH R os)), e2, some (inV pace), some (tuV L), some (tuV C), some (tuV []), e7, e8, e9, e10]) (t' := s') (by simp [szLine]) ?_
  refine step_nx (env' := [e0, some (.d (encH R os)), e2, some (inV pace), some (tuV L), some (tuV C), some (tuV C), g7, e8, e9, e10]) (t' := s') (by simp [M.bind_run, h1]) ?_
  refine step_nx (env' := [e0, some (.d (encH R os)), e2, some (inV pace), some (tuV L), some (tuV C), some (tuV C), g7, e8, e9, e10]) (t' := s') (by simp [shC, rfC, tyIs]) ?_
  refine step_nx (env' := [e0, some (.d (encH R os)), e2, some (inV pace), some (tuV L), some (tuV C), some (tuV C), g7, e8, e9, e10]) (t' := s') (by simp [M.bind_run, wipe, c1, hsum, hmul, hLl]) ?_
  refine step_nx (env' := [e0, some (.d (encH R os)), e2, some (inV pace), some (tuV L), some (tuV C), some (tuV C), g7, some (liV NS), e9, e10]) (t' := s') (by simp [M.bind_run, wipe, c2]) ?_
  refine step_nx (env' := [e0, some (.d (encH R os)), e2, some (inV pace), some (tuV L), some (tuV C), some (tuV C), g7, some (liV NS), some (liV LL), e10]) (t' := s') (by simp [M.bind_run, wipe, c3]) ?_
  refine step_nx (env' := [e0, some (.d (encH R os)), e2, some (inV pace), some (tuV L), some (tuV C), some (tuV C), g7, some (liV NS), some (liV LL), e10]) (t' := s') (by simp [M.bind_run, wipe, v1, v2, c4o, c4s, shN, rfN]) ?_
  refine step_nx (env' := [e0, some (.d (encH R os)), e2, some (inV pace), some (tuV L), some (tuV C), some (tuV C), g7, some (liV NS), some (liV LL), e10]) (t' := s') (by simp [M.bind_run, wipe, c5, hNl, hrep, shO, rfO, szLine]) ?_
  simp
end Dw
namespace Dw
open PySem
theorem cutD_mem {α : Type} {xs : List α} {lo hi : Option Int} {x : α} (h : x ∈ cutD xs lo hi) : x ∈ xs := List.mem_of_mem_drop (List.mem_of_mem_take h)
theorem law32 (ns : List Int) : ∃ st, Phi fns 60 139 [.o 0] (scr0 ns) = .ok (blV true) st := by
  have m0 : Phi fns 59 14 [.o 0, inV 0] (scr0 ns) = .ok (inV (mixed (ns.getD 0 0) 0)) (scr0 ns) := mixed_ok (k := 57) ns 0
  have m1 : Phi fns 59 14 [.o 0, inV 1] (scr0 ns) = .ok (inV (mixed (ns.getD 1 0) 1)) (scr0 ns) := mixed_ok (k := 57) ns 1
  generalize mixed (ns.getD 0 0) 0 = h at m0
  generalize mixed (ns.getD 1 0) 1 = n at m1
  obtain ⟨os, o1, o2, o3⟩ := house_ok (k := 57) (s := []) h
  have hR : 1 ≤ 1 + h % 7 ∧ 1 + h % 7 ≤ 7 := by omega
  generalize 1 + h % 7 = R at hR o2 o3
  have o4 := pure_at o3 (vs := [.int h])
  simp only [List.map_cons, List.map_nil] at o4
  have hpc : 1 ≤ 1 + n / 8 % 40 ∧ 1 + n / 8 % 40 ≤ 40 := by omega
  have hrm : 1 ≤ 1 + n % R := by have := Int.emod_nonneg n (show R ≠ 0 by omega); omega
  have hR0 : 0 < R := by omega
  obtain ⟨us, u1, _, _, t', u2⟩ := ways_ok (k := 46) (R := R) (room := 1 + n % R) (by omega) hR.2 hrm o1 o2
  have u3 := pure_at u2 (vs := [encH R os, .int (1 + n % R)])
  simp only [List.map_cons, List.map_nil] at u3
  have w0 := pure_at (walked_ok (k := 57) (s := []) (R := R) (pace := 1 + n / 8 % 40) (os := os) (w := []) (by simp) (by simp)) (vs := [encH R os, .tuple [], .int (1 + n / 8 % 40)])
  simp only [List.map_cons, List.map_nil] at w0
  generalize hpe : 1 + n / 8 % 40 = pace at hpc w0
  have gz := goodZ o2
  have hmem : ∀ x ∈ cutD (us.map encW) none (some 12), ∃ w ∈ us, encW w = x := fun x hx => List.mem_map.mp (cutD_mem hx)
  have hcut := sl_tup (us.map encW) none (some 12)
  generalize cutD (us.map encW) none (some 12) = CU at hmem hcut
  have loop := forL_ok (f := fun x env => ofO (bindT (.nm 4) x env) >>= fun e => exB (Phi fns 59) l2_law_k32 e)
    (fun i env t => t = scr0 ns ∧ ∃ e4 e5 e6 e7 e8 e9 e10 : Option Vl, env = [some (.o 0), some (.d (encH R os)), some (inV n), some (inV pace), e4, e5, e6, e7, e8, e9, e10])
    (CU.map .d) 0 [some (.o 0), some (.d (encH R os)), some (inV n), some (inV pace), none, none, none, none, none, none, none] (scr0 ns) ⟨rfl, _, _, _, _, _, _, _, rfl⟩ (by
      rintro j x env t hx ⟨rfl, e4, e5, e6, e7, e8, e9, e10, rfl⟩
      rw [List.getElem?_map] at hx
      obtain ⟨c, hc, rfl⟩ : ∃ c, CU[j]? = some c ∧ Vl.d c = x := by
        cases e : CU[j]? with
        | none => rw [e] at hx; cases hx
        | some c => rw [e] at hx; exact ⟨c, rfl, Option.some.inj hx⟩
      obtain ⟨w, hw, rfl⟩ := hmem c (List.mem_of_getElem? hc)
      obtain ⟨a, b⟩ := u1 w hw
      obtain ⟨f5, f6, f7, f8, f9, f10, hh⟩ := turn_ok (k := 56) (R := R) (pace := pace) (t := scr0 ns) gz hpc.1 hpc.2 a b (some (.o 0)) (some (inV n)) e5 e6 e7 e8 e9 e10
      exact ⟨_, scr0 ns, .inl hh, rfl, _, _, _, _, _, _, _, rfl⟩)
  obtain ⟨env', s', h1, rfl, e4, e5, e6, e7, e8, e9, e10, rfl⟩ := loop
  rw [run_of (F := f_law_k32) rfl rfl]
  have ix0 : ixV (.d (encH R os)) (inV 0) = pure (inV R) := by simp [encH]
  have sh0 : shp (.tuple []) = true := by decide +kernel
  have eq0 : PyData.eqv (.tuple []) (.tuple []) = true := by decide +kernel
  have rw0 : rowL os pace [] = [] := rfl
  rw [rw0] at w0
  have body : ∃ e, exB (Phi fns 59) b_law_k32 (enter f_law_k32 [.o 0]) (scr0 ns) = .ok (.rt (blV true), e) (scr0 ns) := by
    refine ⟨[some (.o 0), some (.d (encH R os)), some (inV n), some (inV pace), e4, e5, e6, e7, e8, e9, e10], ?_⟩
    unfold b_law_k32
    refine step_nx (env' := [some (.o 0), some (.d (encH R os)), none, none, none, none, none, none, none, none, none]) (t' := scr0 ns) (by simp [enter, f_law_k32, M.bind_run, m0, o4]) ?_
    refine step_nx (env' := [some (.o 0), some (.d (encH R os)), some (inV n), none, none, none, none, none, none, none, none]) (t' := scr0 ns) (by simp [M.bind_run, m1]) ?_
    refine step_nx (env' := [some (.o 0), some (.d (encH R os)), some (inV n), some (inV pace), none, none, none, none, none, none, none]) (t' := scr0 ns) (by simp [hpe]) ?_
    refine step_nx (env' := [some (.o 0), some (.d (encH R os)), some (inV n), some (inV pace), e4, e5, e6, e7, e8, e9, e10]) (t' := scr0 ns) (by simp [M.bind_run, ix0, hR0, u3, hcut, h1]) ?_
    exact step_rt (by simp [w0, rowL, szLine, sh0, eq0])
  obtain ⟨e, he⟩ := body
  refine ⟨scr0 ns, ?_⟩
  have he' : exB (Phi fns 59) f_law_k32.body (enter f_law_k32 [.o 0]) (scr0 ns) = .ok (.rt (blV true), e) (scr0 ns) := he
  unfold leave
  rw [he']
  simp [leaveV, f_law_k32, vBelow, obBelow]
end Dw

namespace K32
open PySem Dw
def top (i : Nat) : Stmt := PySem.Challenge.pw_doorwatch_k32_whole_walks_put_together.main.body.getD i (.Pass ⟨0, 0, 0, 0⟩)
def inC (s : Stmt) (i : Nat) : Stmt := match s with | .ClassDef (body := b) .. => b.getD i (.Pass ⟨0, 0, 0, 0⟩) | s => s
def d_beyond : DefS := ⟨103, none, "beyond", top 6, ["opening", "room"], ["opening", "room"]⟩
def d_ways_from : DefS := ⟨106, none, "ways_from", top 7, ["house", "rooms", "goal", "found", "number", "opening", "room", "rest"], ["house", "rooms", "goal"]⟩
def d_ways : DefS := ⟨107, none, "ways", top 8, ["house", "room"], ["house", "room"]⟩
def d_events_for : DefS := ⟨130, none, "events_for", top 10, ["house", "number", "pace", "zone"], ["house", "number", "pace"]⟩
def d_walked : DefS := ⟨131, none, "walked", top 11, ["house", "way", "pace", "found", "number"], ["house", "way", "pace"]⟩
def d_law_cell_at : DefS := ⟨13, none, "_law_cell_at", top 13, ["_law_script", "_law_k"], ["_law_script", "_law_k"]⟩
def d_law_mixed : DefS := ⟨14, none, "_law_mixed", top 14, ["_law_script", "_law_k", "_law_drawn_here"], ["_law_script", "_law_k"]⟩
def d_law_drawn_v2 : DefS := ⟨51, none, "_law_drawn", top 15, ["_law_number", "_law_k", "_law_drawn_here"], ["_law_number", "_law_k"]⟩
def d_law_house_v2 : DefS := ⟨109, none, "_law_house", top 16, ["_law_number", "_law_rooms", "_law_openings", "_law_k", "_law_drawn_here", "_law_one", "_law_other", "_law_zone"], ["_law_number"]⟩
def d_law_k32 : DefS := ⟨139, none, "law", top 17, ["_law_script", "_law_house_here", "_law_number", "_law_pace", "_law_way", "_law_row", "_law_parts", "_law_one", "_law_names", "_law_lines", "_law_event"], ["_law_script"]⟩
def T : Tx := {
  fns := fns,
  inf := [⟨103, "beyond", ["opening", "room"], none⟩,
  ⟨106, "ways_from", ["house", "rooms", "goal"], none⟩,
  ⟨107, "ways", ["house", "room"], none⟩,
  ⟨130, "events_for", ["house", "number", "pace"], none⟩,
  ⟨131, "walked", ["house", "way", "pace"], none⟩,
  ⟨13, "_law_cell_at", ["_law_script", "_law_k"], none⟩,
  ⟨14, "_law_mixed", ["_law_script", "_law_k"], none⟩,
  ⟨51, "_law_drawn", ["_law_number", "_law_k"], none⟩,
  ⟨109, "_law_house", ["_law_number"], none⟩,
  ⟨139, "law", ["_law_script"], none⟩],
  cls := [],
  con := [("LINE", .str "line"), ("OPEN", .str "open"), ("OUTSIDE", .int 0), ("SHUT", .str "shut"), ("TICKS", .str "ticks")],
  blt := ["enumerate", "isinstance", "len", "max", "min", "range", "sorted", "sum", "tuple"],
  exc := [] }
def defs : List DefS := [d_beyond, d_ways_from, d_ways, d_events_for, d_walked, d_law_cell_at, d_law_mixed, d_law_drawn_v2, d_law_house_v2, d_law_k32]
theorem c_beyond : chkD T d_beyond = true := by decide +kernel
theorem b_beyond : BndS d_beyond := fun _ _ _ _ _ _ _ us hl => match us, hl with | [_, _], _ => rfl
theorem c_ways_from : chkD T d_ways_from = true := by decide +kernel
theorem b_ways_from : BndS d_ways_from := fun _ _ _ _ _ _ _ us hl => match us, hl with | [_, _, _], _ => rfl
theorem c_ways : chkD T d_ways = true := by decide +kernel
theorem b_ways : BndS d_ways := fun _ _ _ _ _ _ _ us hl => match us, hl with | [_, _], _ => rfl
theorem c_events_for : chkD T d_events_for = true := by decide +kernel
theorem b_events_for : BndS d_events_for := fun _ _ _ _ _ _ _ us hl => match us, hl with | [_, _, _], _ => rfl
theorem c_walked : chkD T d_walked = true := by decide +kernel
theorem b_walked : BndS d_walked := fun _ _ _ _ _ _ _ us hl => match us, hl with | [_, _, _], _ => rfl
theorem c_law_cell_at : chkD T d_law_cell_at = true := by decide +kernel
theorem b_law_cell_at : BndS d_law_cell_at := fun _ _ _ _ _ _ _ us hl => match us, hl with | [_, _], _ => rfl
theorem c_law_mixed : chkD T d_law_mixed = true := by decide +kernel
theorem b_law_mixed : BndS d_law_mixed := fun _ _ _ _ _ _ _ us hl => match us, hl with | [_, _], _ => rfl
theorem c_law_drawn_v2 : chkD T d_law_drawn_v2 = true := by decide +kernel
theorem b_law_drawn_v2 : BndS d_law_drawn_v2 := fun _ _ _ _ _ _ _ us hl => match us, hl with | [_, _], _ => rfl
theorem c_law_house_v2 : chkD T d_law_house_v2 = true := by decide +kernel
theorem b_law_house_v2 : BndS d_law_house_v2 := fun _ _ _ _ _ _ _ us hl => match us, hl with | [_], _ => rfl
theorem c_law_k32 : chkD T d_law_k32 = true := by decide +kernel
theorem b_law_k32 : BndS d_law_k32 := fun _ _ _ _ _ _ _ us hl => match us, hl with | [_], _ => rfl
theorem chk : ∀ d ∈ defs, chkD T d = true := by
  intro d hd
  simp only [defs, List.mem_cons, List.not_mem_nil, or_false] at hd
  rcases hd with rfl | rfl | rfl | rfl | rfl | rfl | rfl | rfl | rfl | rfl
  · exact c_beyond
  · exact c_ways_from
  · exact c_ways
  · exact c_events_for
  · exact c_walked
  · exact c_law_cell_at
  · exact c_law_mixed
  · exact c_law_drawn_v2
  · exact c_law_house_v2
  · exact c_law_k32
theorem bnd : ∀ d ∈ defs, BndS d := by
  intro d hd
  simp only [defs, List.mem_cons, List.not_mem_nil, or_false] at hd
  rcases hd with rfl | rfl | rfl | rfl | rfl | rfl | rfl | rfl | rfl | rfl
  · exact b_beyond
  · exact b_ways_from
  · exact b_ways
  · exact b_events_for
  · exact b_walked
  · exact b_law_cell_at
  · exact b_law_mixed
  · exact b_law_drawn_v2
  · exact b_law_house_v2
  · exact b_law_k32
theorem well : wellT T defs = true := by decide +kernel
end K32
set_option maxHeartbeats 0
namespace K32
open PySem PySem.Spec PyProof.Rows L2 Dw
def names : List PySem.Str := (["SHUT", "OPEN", "LINE", "TICKS", "__name__", "OUTSIDE", "beyond", "ways_from", "ways", "events_for", "walked", "_law_cell_at", "_law_mixed", "_law_drawn", "_law_house"] : List PySem.Str)
abbrev R : PySem.W.OpenRow := PySem.W.OpenLaw.row PySem.Challenge.rw_doorwatch_k32_whole_walks_put_together
def fa : List He.Fa := factsOf T
def fn : List He.DefD := defs.map DefS.dd
def exc (K : PySem.W.Frag) : Bool := T.con.all (conOk K)
abbrev hk : PySem.W.Hook := He.hookX 6 fa fn [] [] exc
def ob (s : PySem.W.SharedT) : He.AlX := He.obsX 6 fa fn [] [] exc (HandSHeadRun.getT s)
theorem ob_eq (s : PySem.W.SharedT) : ob s = hk.obs s.abs := He.obsX_eq (HandSHeadRun.getT_eq s)
theorem run (w : World) : HandSHeadRun.RunEq R (PySem.W.view R.prog [17]) hk ob 3000 names w := by
  intro os
  kernel_rfl
theorem math : ∀ ns : List Int, ns.length ≤ 63 → ∃ st, Phi T.fns 60 139 [.o 0] [.scr (ns.map .int)] = .ok (blV true) st := fun ns _ => Dw.law32 ns
end K32
open PySem PySem.W PySem.Calls PyProof.Rows
theorem PySem.Challenge.cw_doorwatch_k32_whole_walks_put_together_holds : PySem.Challenge.rw_doorwatch_k32_whole_walks_put_together.Holds := by
  w_on; o_law
  refine HandSHeadRun.head_any (r := OpenLaw.row PySem.Challenge.rw_doorwatch_k32_whole_walks_put_together) (q := view (OpenLaw.row PySem.Challenge.rw_doorwatch_k32_whole_walks_put_together).prog [17]) (H := K32.hk) (ob := K32.ob) (M := 3000) (loose := K32.names) (d := HandSHeadRun.topDef (OpenLaw.row PySem.Challenge.rw_doorwatch_k32_whole_walks_put_together).prog 17) (kwd := []) K32.ob_eq
    (by kernel_rfl) (fun s => by kernel_rfl) K32.run (by kernel_rfl) (by kernel_rfl) (by kernel_rfl) (by rfl) (by first | assumption | decide +kernel) (by decide +kernel) ⟨rfl, rfl, rfl, rfl, rfl, by decide +kernel⟩ ?hw ?hc
  case hw => w_witness2
  case hc =>
    exact Dw.law_walk (l := PySem.Challenge.rw_doorwatch_k32_whole_walks_put_together) (T := K32.T) (defs := K32.defs) (n := 63) (k := 60) (x := "_law_script") (D := K32.d_law_k32) rfl (by decide) (by kernel_rfl) ⟨rfl, by decide, by decide⟩ (by kernel_rfl) K32.well K32.chk K32.bnd (by simp [K32.T, K32.d_law_k32]) rfl K32.math
