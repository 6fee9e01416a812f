import PyProof.Rows.All
import Wide.All
import OpenK.AllK
import Wide.FinOn
import HandS.ForMost
import HandS.Walk
import HandS.IsInst
import HandS.Wide
import HandS.ExcInit
import HandS.ExcValue
import HandS.ExcIs
import HandS.ExcField
import HandS.TupAny
import HandS.Zip
import KE.GoesEnum
import KE.KDictPairs
import HandS.More
import HandS.Small
import KE.KDictWalk
import KE.KDictKeyed
import KE.SortData
import HandS.TupLen
import HandS.Iter
import HandS.TupMul
import HandS.Lambda
import HandS.Deep
import HandS.Style
import HandS.RaiseMore
import PyProof.StrOps2
import PyProof.ReprRoads
import HandS.Exc
import HandS.ExcOwn
import HandS.WordsExc
import HandS.TryOnly
import HandS.HeadEnd
import HandS.Defaults
import HandS.Words
import HandS.Comp
import HandS.HeadHook1
import HandS.HeadHook2
import HandS.Set
import HandS.SetFor
import HandS.SetKeys
import KE.KRevSl
import PyProof.ReprLen
import KE.KExcIs
import HandS.Replace
import HandS.Dict
import PyProof.DictUpdate
import HandS.NoneIn
import HandS.DictTup
import KE.KDictZip
import HandS.Star
import HandS.HeadWalk
import HandS.EndOwn
import KE.KDictCopyH
import KE.KDictDisplayH
import HandS.Conv
import HandS.Flow
import HandS.Text
import KE.KNestM
import KE.KStateDown
import Lean
import HandS.Head0
import HandS.Head1
import HandS.Head2
import PySem.Challenge.RW_twainwork_k10_inputs_looked_at
set_option Elab.async false
set_option linter.all false
set_option maxRecDepth 100000
set_option maxHeartbeats 2000000
namespace PySem
open Sem (wp)
set_option maxHeartbeats 1000000 in
theorem pd_enum_new {v : Value} {o : Obj} {H : Heap → Prop} (B : Begins v o H) :
    Meets (Builtin.«enumerate.__new__» ⟨[.type "enumerate", v], []⟩) (fun _ R s => H s.heap ∧
      R (.ok (.ret (.ref (s.heap.push o).objs.size))) { s with heap := (s.heap.push o).push { cls := .type "enumerate", data := .fields #[.none, .bool false, .ref s.heap.objs.size, rawInt 0, .none, .none] } }) :=
  .of_wp fun prog w A R s h => by
    obtain ⟨hp, g, d, tk, os⟩ := s; obtain ⟨h1, h⟩ := h
    have hsub := sub_enumerate
    have q1 : ∀ {A' : Around} {E : Value → Shared → Prop} {Q : Value → Shared → Prop}, Q (.ref hp.objs.size) ⟨hp.push o, g, d, tk, os⟩ → wpAny (model prog w) A' (pyIter v) Q E ⟨hp, g, d, tk, os⟩ :=
      fun q => B.iter prog w _ _ ⟨hp, g, d, tk, os⟩ _ h1 q
    wp_walk using q1
    refine wpAny_stack_any fun st => wpAny_pure ?_
    split
    · rename_i c _ _ _ _ _
      cases (c == Value.type "enumerate") <;> (wp_walk using q1; exact ⟨_, rfl, h⟩)
    · wp_walk using q1
      exact ⟨_, rfl, h⟩
section
variable {prog : Program} {w : World} {A : Around} {E : Value → Shared → Prop} {s : Shared}
theorem pd_enum_call {v : Value} {o : Obj} {H : Heap → Prop} {Q : Value → Shared → Prop} (B : Begins v o H) (h1 : H s.heap)
    (h : ∀ h', IsEnum h' (s.heap.objs.size + 1) s.heap.objs.size 0 .none → h'.get? s.heap.objs.size = some o → h'.objs.size = s.heap.objs.size + 2 →
      (∀ b o, s.heap.get? b = some o → h'.get? b = some o) → Q (.ref (s.heap.objs.size + 1)) { s with heap := h' }) :
    wpAny (model prog w) A (call (.type "enumerate") [v]) Q E s := by
  refine callType_new F.called_enumerate (by decide) (F.typeCall_enumerate_1 _) (F.newCall_enumerate_1 _) (fun obj => F.args_object_init_2 obj _) F.entry_enumerate_new (pd_enum_new B) ⟨h1, ?_⟩
  have hz : (s.heap.push o).objs.size = s.heap.objs.size + 1 := Heap.size_push ..
  show _ ∧ _
  rw [hz]
  have he : IsEnum ((s.heap.push o).push { cls := .type "enumerate", data := .fields #[.none, .bool false, .ref s.heap.objs.size, rawInt 0, .none, .none] }) (s.heap.objs.size + 1) s.heap.objs.size 0 .none := by
    have := Heap.get?_push_size (s.heap.push o) (o := { cls := .type "enumerate", data := .fields #[.none, .bool false, .ref s.heap.objs.size, rawInt 0, .none, .none] }) rfl
    rw [hz] at this; exact this
  exact ⟨⟨_, he, rfl⟩, h _ he (Heap.get?_push_of_some _ (Heap.get?_push_size _ B.free)) (by rw [Heap.size_push, hz]) fun b o x => Heap.get?_push_of_some _ (Heap.get?_push_of_some _ x)⟩
end
end PySem
namespace Pd
open PySem PySem.Spec PySem.Calls PyProof.Rows L2 RZ
def SqN (K : PySem.W.Frag) (H : Hp) (a : Addr) (xs : List V) : Prop :=
  (∃ o, H a = some (.frz o (.tup xs)) ∧ o.dict = none) ∨
    ∃ (o : Obj) (its : Array Value) (n : Nat), K.lookup a = some o ∧ o.cls = .type "tuple" ∧ o.dict = none ∧ o.data = .seq its n ∧ its.size ≤ sizeLine ∧ Vals xs its.toList
theorem SqN.sq {K : PySem.W.Frag} {H : Hp} {a : Addr} {xs : List V} (h : SqN K H a xs) : SqT K H a xs := by
  rcases h with ⟨o, h, _⟩ | ⟨o, its, n, h1, h2, h3, h4, h5, h6⟩
  · exact .inl (.inr ⟨o, h⟩)
  · exact .inr ⟨o, its, n, h1, h2, h4, h5, h6⟩
theorem SqN.obj {X : Cx} {pins : List (Addr × Obj)} {σ : L2.St} {H : Hp} {s : Shared} {a : Addr} {xs : List V} (I : Inv X pins σ H s) (h : SqN X.K H a xs) : ∃ (o : Obj) (its : List Value) (n : Nat), s.heap.get? a = some o ∧ o.cls = .type "tuple" ∧ o.dict = none ∧ o.data = .seq its.toArray n ∧ Vals xs its ∧ xs.length ≤ sizeLine := by
  rcases h with ⟨o, h, hd⟩ | ⟨o, its, n, h1, h2, h3, h4, h5, h6⟩
  · obtain ⟨e, z, its, r, o2, e2, c, n, dt⟩ := I.hok a _ h
    rw [e] at e2
    cases e2
    exact ⟨o, its, n, e, c, hd, dt, r, z⟩
  · refine ⟨o, its.toList, n, I.kIn a o h1, h2, h3, by simpa using h4, h6, ?_⟩
    have e := h6.length
    simp only [Array.length_toList] at e
    omega
section
variable {X : Cx} {es : List Expr} {t : TA} {pos : Pos}
def tTupN (t : TA) : TE := fun σ H Q => t σ H fun xs H1 => xs.length ≤ sizeLine ∧ ∀ p o, H1 p = none → o.dict = none → Q (.ref p) (upd H1 p (.frz o (.tup xs)))
theorem pe_tupN {x1} (h : PA X es t) : PE X (.Tuple es x1 pos) (tTupN t) := by
  refine ⟨fun pins s σ H Q I hq => ?_⟩
  refine wpAny_Tuple_spliced (thn (h.run pos pins s σ H _ I hq) fun us s1 ⟨xs, H1, I1, r, z, q⟩ => ⟨by rw [← r.length]; exact z, ?_⟩)
  refine ⟨.ref s1.heap.objs.size, _, I1.laid (t' := s1.toks) (o := .frz { cls := .type "tuple", data := .seq us.toArray } (.tup xs)) (fun b u e => Heap.get?_push_of_some _ e) (Nat.le_refl _) ?_, rfl, q _ _ (I1.hok.fresh (Nat.le_refl _)) rfl⟩
  exact ⟨Heap.get?_push_size _ rfl, z, us, r, ⟨_, Heap.get?_push_size _ rfl, rfl, _, rfl⟩⟩
def rTupN (K : PySem.W.Frag) : List V → Hp → VK → Prop := fun xs H Q => ∃ p ys, xs = [.ref p] ∧ ((SqL K H p ys ∧ ∀ l o, H l = none → o.dict = none → Q (.ref l) (upd H l (.frz o (.tup ys)))) ∨ (SqT K H p ys ∧ Q (.ref p) H))
theorem call_tupN : CallR X (.type "tuple") (rTupN X.K) := by
  intro pins s σ H xs us Q I r h
  obtain ⟨p, ys, rfl, h⟩ := h
  obtain ⟨u, rfl, rx⟩ := vals1 r
  cases rx
  rcases h with ⟨hq, q⟩ | ⟨hq, q⟩
  · obtain ⟨its, r', pl, hz⟩ := I.list hq
    have hlen := r'.length
    refine call_tuple_list pl.isList (fun h' kp => ?_) (by simp only [List.size_toArray] <;> omega)
    have I1 : Inv X pins σ H { s with heap := h' } := I.kept (t' := s.toks) kp
    refine ⟨.ref h'.objs.size, _, I1.laid (t' := s.toks) (o := .frz { cls := .type "tuple", data := .seq its.toArray } (.tup ys)) (fun b o e => Heap.get?_push_of_some _ e) (Nat.le_refl _) ?_, rfl, q _ _ (I1.hok.fresh (Nat.le_refl _)) rfl⟩
    exact ⟨Heap.get?_push_size _ rfl, hz, its, r', IsTup.new _ _⟩
  · obtain ⟨its, r', pl, hz⟩ := I.tuple hq
    exact call_tuple_same pl ⟨.ref p, H, I, rfl, q⟩
def rCatN (K : PySem.W.Frag) : R2 := fun x y H Q => ∃ a b xs ys, x = .ref a ∧ y = .ref b ∧ SqT K H a xs ∧ SqT K H b ys ∧ xs.length + ys.length ≤ sizeLine ∧
  (xs = [] → Q (.ref b) H) ∧ (xs ≠ [] → ys = [] → Q (.ref a) H) ∧ (xs ≠ [] → ys ≠ [] → ∀ p o, H p = none → o.dict = none → Q (.ref p) (upd H p (.frz o (.tup (xs ++ ys)))))
theorem op_catN : OpR X (binaryOp .Add) (rCatN X.K) := by
  intro pins s σ H x y v u Q I rx ry h
  obtain ⟨a, b, xs, ys, rfl, rfl, ha, hb, hz, q0, q1, q2⟩ := h
  cases rx
  cases ry
  obtain ⟨its, r1, p1, _⟩ := I.tuple ha
  obtain ⟨its2, r2, p2, _⟩ := I.tuple hb
  by_cases hx : xs = []
  · subst hx
    cases r1
    exact cat_tup0 p1 p2 ⟨.ref b, H, I, rfl, q0 rfl⟩
  · refine HT.cat_tup p1 p2 (fun z => hx (r1.nil_iff.mp z)) (fun z => ⟨.ref a, H, I, rfl, q1 hx (r2.nil_iff.mp z)⟩) (fun z => ?_) (by rw [← r1.length, ← r2.length]; exact hz)
    refine ⟨.ref s.heap.objs.size, _, I.laid (t' := s.toks) (o := .frz { cls := .type "tuple", data := .seq (its ++ its2).toArray } (.tup (xs ++ ys))) (fun b ob q => Heap.get?_push_of_some _ q) (Nat.le_refl _) ?_, rfl, q2 hx (fun w => z (r2.nil_iff.mpr w)) _ _ (I.hok.fresh (Nat.le_refl _)) rfl⟩
    have e : its.toArray ++ its2.toArray = (its ++ its2).toArray := by simp
    first
      | exact ⟨Heap.get?_push_size _ rfl, by rw [List.length_append]; exact hz, _, r1.append r2, IsTup.new _ _⟩
      | (rw [← e]; exact ⟨Heap.get?_push_size _ rfl, by rw [List.length_append]; exact hz, _, r1.append r2, by rw [← e]; exact IsTup.new _ _⟩)
def rSlN (K : PySem.W.Frag) : V → Option Int → Option Int → Hp → VK → Prop := fun x lo hi H Q => ∃ a xs, x = .ref a ∧ SqT K H a xs ∧
  (HT.sIx xs.length 0 lo = 0 ∧ HT.sIx xs.length xs.length hi = xs.length → Q (.ref a) H) ∧ (¬ (HT.sIx xs.length 0 lo = 0 ∧ HT.sIx xs.length xs.length hi = xs.length) → ∀ p o, H p = none → o.dict = none → Q (.ref p) (upd H p (.frz o (.tup (cutV xs lo hi)))))
theorem sl_tupN : SlR X (rSlN X.K) := by
  intro pins s σ H x v vl vu lo hi sl Q I rx hs pl pu h
  obtain ⟨a, xs, rfl, hx, q1, q2⟩ := h
  cases rx
  obtain ⟨its, r, ht, hz⟩ := I.tuple hx
  have hlen : its.toArray.size = xs.length := by rw [List.size_toArray]; exact r.length.symm
  refine ⟨"tuple", _, PyProof.Rows.slot_tuple_getitem.lookup, ht.typeIs, ?_⟩
  by_cases hw : HT.sIx xs.length 0 lo = 0 ∧ HT.sIx xs.length xs.length hi = xs.length
  · exact getItem_tuple_whole ht hs pl pu (by rw [hlen]; exact hw) ⟨.ref a, H, I, rfl, q1 hw⟩
  · refine HT.getItem_tuple_cut ht hs pl pu (by rw [hlen]; exact hw) ?_ (by rw [hlen]; exact hz)
    rw [hlen]
    refine ⟨.ref s.heap.objs.size, _, I.laid (t' := s.toks) (o := .frz { cls := .type "tuple", data := .seq ((its.toArray.toList.drop (HT.sIx xs.length 0 lo)).take (HT.sIx xs.length xs.length hi - HT.sIx xs.length 0 lo)).toArray } (.tup (cutV xs lo hi))) (fun b ob q => Heap.get?_push_of_some _ q) (Nat.le_refl _) ?_, rfl, q2 hw _ _ (I.hok.fresh (Nat.le_refl _)) rfl⟩
    exact ⟨Heap.get?_push_size _ rfl, Nat.le_trans (cutV_length xs lo hi) hz, _, (r.drop (HT.sIx xs.length 0 lo)).take (HT.sIx xs.length xs.length hi - HT.sIx xs.length 0 lo), IsTup.new _ _⟩
end
def YPairN (xs ys : Nat → Option V) : Nat → Hp → V → Hp → Prop := fun i H v H' => ∃ T o x y, v = .ref T ∧ H T = none ∧ o.dict = none ∧ H' = upd H T (.frz o (.tup [x, y])) ∧ xs i = some x ∧ ys i = some y
def SqX (l : Bool) (K : PySem.W.Frag) (H : Hp) (a : Addr) (xs : List V) : Prop := if l = true then SqL K H a xs else SqT K H a xs
def IteN (l : Bool) (K : PySem.W.Frag) (a : Addr) : It :=
  ⟨fun i H => ∃ (xs : List V) (x : V), SqX l K H a xs ∧ xs[i]? = some x, fun i H v H' => ∃ T o x, v = .ref T ∧ H T = none ∧ o.dict = none ∧ H' = upd H T (.frz o (.tup [.int (i : Nat), x])) ∧ ∀ xs, SqX l K H a xs → xs[i]? = some x, fun i H => ∃ xs : List V, SqX l K H a xs ∧ xs.length ≤ i⟩
def IsIt (l : Bool) (h : Heap) (it a : Addr) (i : Nat) : Prop := if l = true then h.IsListIter it a i else h.IsTupleIter it a i
def IsSq (l : Bool) (h : Heap) (a : Addr) (items : Array Value) : Prop := if l = true then h.IsList a items else h.IsTuple a items
theorem sqx_at {l : Bool} {X : Cx} {pins : List (Addr × Obj)} {σ : L2.St} {H : Hp} {s : Shared} {a : Addr} {xs : List V} (I : Inv X pins σ H s) (h : SqX l X.K H a xs) : ∃ its : List Value, Vals xs its ∧ IsSq l s.heap a its.toArray ∧ a < s.heap.objs.size := by
  cases l with
  | true =>
    obtain ⟨its, r, p, _⟩ := I.list (show SqL X.K H a xs from h)
    exact ⟨its, r, p.isList, p.lt⟩
  | false =>
    obtain ⟨its, r, p, _⟩ := I.tuple (show SqT X.K H a xs from h)
    exact ⟨its, r, show s.heap.IsTuple a its.toArray from p, p.lt⟩
theorem sqx_inj {l : Bool} {X : Cx} {pins : List (Addr × Obj)} {σ : L2.St} {H : Hp} {s : Shared} {a : Addr} {xs ys : List V} (I : Inv X pins σ H s) (h : SqX l X.K H a xs) (g : SqX l X.K H a ys) : xs = ys := by
  cases l with
  | true => exact I.list_inj (show SqL X.K H a xs from h) (show SqL X.K H a ys from g)
  | false => exact I.tuple_inj (show SqT X.K H a xs from h) (show SqT X.K H a ys from g)
theorem isit_obj {l : Bool} {h : Heap} {it a : Addr} {i : Nat} (x : IsIt l h it a i) : ∃ o, h.get? it = some o ∧ ∀ v, o.data ≠ .cell v := by
  cases l with
  | true => obtain ⟨o, ho, hc, hd⟩ := (show h.IsListIter it a i from x); exact ⟨o, ho, fun v q => by rw [hd] at q; cases q⟩
  | false => obtain ⟨o, ho, hc, hd⟩ := (show h.IsTupleIter it a i from x); exact ⟨o, ho, fun v q => by rw [hd] at q; cases q⟩
theorem IsIt.at {l : Bool} {h h' : Heap} {it a : Addr} {i : Nat} (x : IsIt l h it a i) (k : ∀ o, h.get? it = some o → h'.get? it = some o) : IsIt l h' it a i := by
  cases l with
  | true => exact (show h.IsListIter it a i from x).at k
  | false => exact (show h.IsTupleIter it a i from x).at k
theorem isit_draws {l : Bool} {prog : Program} {w : World} {A : Around} (hh : A.handled = none) (it a : Addr) (hne : a ≠ it) (items : Array Value) :
    Draws prog w A it [it, a] items.size (fun i v => items[i]? = some v) (fun i h => IsIt l h it a i ∧ IsSq l h a items) := by
  cases l with
  | true => exact Draws.list hh it a hne items
  | false => exact Draws.tuple hh it a hne items
theorem turn_enumN {l : Bool} {P : Program} {w : World} {K : PySem.W.Frag} {elts : List Expr} {kk : Nat} {tpos : Pos} (a e it : Addr) :
    Turn P w K (.Tuple elts kk tpos) (IteN l K a) [e, it] e (fun i h => (∃ old, IsEnum h e it ((i : Nat) : Int) old) ∧ IsIt l h it a i ∧ e ≠ it ∧ a ≠ it ∧ a ≠ e) where
  mem := by simp
  obj := fun i h st b hb => by
    obtain ⟨⟨old, he⟩, hi, _⟩ := st
    have e' : b = e ∨ b = it := by simpa using hb
    rcases e' with z | z
    · rw [z]; exact ⟨_, he, fun v q => nomatch q⟩
    · rw [z]; exact isit_obj hi
  keep := fun i h h' st k => let ⟨⟨old, he⟩, hi, hne⟩ := st; ⟨⟨old, k e (by simp) _ he⟩, hi.at fun o q => k it (by simp) o q, hne⟩
  item := by
    intro X hP hw hK hc i pins s σ H E I hf st hg
    subst hP hw hK
    obtain ⟨⟨old, he⟩, hit, hne, hai, hae⟩ := st
    obtain ⟨xs, x, hq, hx⟩ := hg
    obtain ⟨its, rv, p, _⟩ := sqx_at I hq
    obtain ⟨u, hu, ru⟩ := rv.get hx
    have hel : e < s.heap.objs.size := Heap.lt_size he
    have hil : it < s.heap.objs.size := by obtain ⟨_, q, _⟩ := isit_obj hit; exact Heap.lt_size q
    have hlt : i < its.toArray.size := by
      have := (List.getElem?_eq_some_iff.mp hu).1
      simpa using this
    have hh : X.A.in1.handled = none := I.ok.hd hc
    refine wpAny_pyNext_enum_itemD (isit_draws (l := l) hh it a hai its.toArray) he ⟨hit, p⟩ hlt hne (by simp [hne, Ne.symm hae]) fun y h' tk hy ho st' hT hsz hk => ?_
    have ey : y = u := by
      have hu' : its.toArray[i]? = some u := by simpa using hu
      rw [hu'] at hy
      exact (Option.some.inj hy).symm
    subst ey
    refine ⟨_, rfl, wpAny_letOwnedTupleGo_enum (s := { s with heap := h', toks := tk + 1 }) ho fun h'' he' sb => ?_⟩
    have hT2 : h''.get? s.heap.objs.size = some { cls := .type "tuple", data := .seq #[.int i tk, y] } := (sb.2 _ (Nat.ne_of_gt hel)).trans hT
    have new : ObjOk X.prog X.w (upd H s.heap.objs.size (.frz { cls := .type "tuple", data := .seq #[.int i tk, y] } (.tup [.int (i : Nat), x]))) h'' s.heap.objs.size (.frz { cls := .type "tuple", data := .seq #[.int i tk, y] } (.tup [.int (i : Nat), x])) :=
      ⟨hT2, by show 2 ≤ sizeLine; decide, [.int i tk, y], .cons ⟨_, rfl⟩ (.cons ru .nil), ⟨_, hT2, rfl, _, rfl⟩⟩
    have I1 := I.turnedNew (ch := [e, it]) (t' := tk + 1) (h' := h'') (fun b ob hb q => (sb.2 b (fun z => hb (by simp [z]))).trans (hk b ob (fun z => hb (by simp [z])) (fun z => hb (by simp [z])) q)) hf (Nat.le_refl _) new
    refine ⟨.ref s.heap.objs.size, _, I1, rfl, ⟨_, _, x, rfl, I.hok.fresh (Nat.le_refl _), rfl, rfl, fun ys hy => by rw [sqx_inj I hy hq]; exact hx⟩, ⟨⟨y, ?_⟩, st'.1.at fun o q => (sb.2 it (Ne.symm hne)).trans q, hne, hai, hae⟩, fun b hb => ?_⟩
    · have e1 : ((i + 1 : Nat) : Int) = (i : Int) + 1 := by omega
      rw [e1]; exact he'
    · have hb' : b < s.heap.objs.size := by
        have e' : b = e ∨ b = it := by simpa using hb
        rcases e' with z | z
        · rw [z]; exact hel
        · rw [z]; exact hil
      rw [upd_ne (Nat.ne_of_lt hb')]
      exact (hf b hb).1
  done := by
    intro X hP hw hK hc i pins s σ H E I hf st hg
    subst hP hw hK
    obtain ⟨⟨old, he⟩, hit, hne, hai, hae⟩ := st
    obtain ⟨xs, hq, hx⟩ := hg
    obtain ⟨its, rv, p, _⟩ := sqx_at I hq
    obtain ⟨f0, f1, f2, f3, f4, f5⟩ := hf it (by simp)
    have hl := rv.length
    have hh : X.A.in1.handled = none := I.ok.hd hc
    have D : Draws X.prog X.w X.A.in1 it [it, a] i (fun _ _ => True) (fun j h => j = i ∧ IsIt l h it a i ∧ IsSq l h a its.toArray) := {
      live := fun _ _ st => by obtain ⟨o, ho, _⟩ := isit_obj st.2.1; exact ⟨o, ho⟩
      frame := fun _ _ _ st hk => ⟨st.1, st.2.1.at fun o e => hk it (by simp) o e, by
        cases l with
        | true => exact (show Heap.IsList _ a its.toArray from st.2.2).at fun o e => hk a (by simp) o e
        | false => exact (show Heap.IsTuple _ a its.toArray from st.2.2).at fun o e => hk a (by simp) o e⟩
      item := fun j s Q E hj st hQ => absurd st.1 (Nat.ne_of_lt hj)
      done := fun s Q E st hE => by
        cases l with
        | true => exact wpAny_nextOf_list_end hh st.2.1 st.2.2 (by simp; omega) hE
        | false => exact wpAny_nextOf_tuple_end hh st.2.1 st.2.2 (by simp; omega) hE }
    exact wpAny_pyNext_enum_endD D he ⟨rfl, hit, p⟩ fun h' eb => ⟨rfl, I.turned (t' := s.toks) (fun b o hb q => eb b o hb q) f0 f1 f3 f4 f5⟩
  self := fun A i s Q E st h => let ⟨⟨_, he⟩, _⟩ := st; wpAny_pyIter_enum he h
def iEnumN (K : PySem.W.Frag) (ta : TA) : TI := fun σ H R => ta σ H fun vs H1 => ∃ l a xs, vs = [.ref a] ∧ SqX l K H1 a xs ∧ R (IteN l K a) H1
theorem pi_enumN {X : Cx} {e : Expr} {ta : TA} {p pos tpos : Pos} {elts : List Expr} {kk : Nat} (hg : Gl X "enumerate") (hm : X.mg "enumerate" = none) (ha : PA X [e] ta) (hs : starEach [e] X.env = [(false, eval e X.env)] := by rfl) :
    PI X (.Tuple elts kk tpos) (.Call (.Name "enumerate" p) [e] [] pos) (iEnumN X.K ta) := by
  refine ⟨fun pins s σ H R I h => ?_⟩
  refine Call_ (ld_blt I hg hm boot_enumerate (PyProof.Rows.callWith_type1 (thn (ha.run pos pins s σ H _ I h) fun us s1 ⟨vs, H1, I1, r1, q1⟩ => ?_) hs rfl))
  obtain ⟨l, a, xs, ex, hq, q⟩ := q1
  subst ex
  cases r1 with
  | cons r rr =>
    cases rr
    cases r
    have fresh2 : ∀ b, b ∈ [s1.heap.objs.size + 1, s1.heap.objs.size] → FpOk X pins H1 b := fun b hb => by
      have e' : b = s1.heap.objs.size + 1 ∨ b = s1.heap.objs.size := by simpa using hb
      have hle : s1.heap.objs.size ≤ b := by
        rcases e' with z | z
        · rw [z]; exact Nat.le_add_right _ _
        · rw [z]; exact Nat.le_refl _
      exact I1.fpOk hle (I1.hok.fresh hle)
    obtain ⟨its, rv, p', hal⟩ := sqx_at I1 hq
    cases l with
    | true =>
      refine call_enumerate_list (show s1.heap.IsList a its.toArray from p') fun h' he hit hsz hk => wpAny_pyIter_enum he ?_
      exact ⟨s1.heap.objs.size + 1, [s1.heap.objs.size + 1, s1.heap.objs.size], _, _, H1, rfl, I1.kept (t' := s1.toks) hk, turn_enumN (l := true) a (s1.heap.objs.size + 1) s1.heap.objs.size, ⟨⟨.none, he⟩, hit, Nat.succ_ne_self _, Nat.ne_of_lt hal, Nat.ne_of_lt (Nat.lt_succ_of_lt hal)⟩, fresh2, q⟩
    | false =>
      refine pd_enum_call (begins_tuple a its.toArray) (show s1.heap.IsTuple a its.toArray from p') fun h' he hit hsz hk => wpAny_pyIter_enum he ?_
      exact ⟨s1.heap.objs.size + 1, [s1.heap.objs.size + 1, s1.heap.objs.size], _, _, H1, rfl, I1.kept (t' := s1.toks) hk, turn_enumN (l := false) a (s1.heap.objs.size + 1) s1.heap.objs.size, ⟨⟨.none, he⟩, ⟨_, hit, rfl, rfl⟩, Nat.succ_ne_self _, Nat.ne_of_lt hal, Nat.ne_of_lt (Nat.lt_succ_of_lt hal)⟩, fresh2, q⟩
theorem walk_enumN {l : Bool} {K : PySem.W.Frag} {a : Addr} {xs : List V} : Walk (IteN l K a) xs.length (fun H => SqX l K H a xs) (YPairN (fun i => some (.int (i : Nat))) (fun i => xs[i]?)) := by
  refine ⟨fun i _ hi q => ⟨xs, xs[i], q, by simp [hi]⟩, fun _ q => ⟨xs, q, Nat.le_refl _⟩, fun i H v H' _ q y => ?_⟩
  obtain ⟨T, o, x, h1, h2, h3, h4, h5⟩ := y
  exact ⟨T, o, .int (i : Nat), x, h1, h2, h3, h4, rfl, h5 xs q⟩
end Pd
set_option Elab.async false
set_option linter.all false
set_option maxRecDepth 100000
set_option maxHeartbeats 2000000
namespace Pd
open PySem PySem.Spec PyProof.Rows L2
def vOf : Value → V
  | .none => .non
  | .bool b => .bl b
  | .int i _ => .int i
  | .str x _ => .str x
  | .bytes b _ => .byt b
  | .float b _ => .flt b
  | .ref a => .ref a
  | .type n => .ty n
  | _ => .non
theorem rel_vOf : ∀ {v : V} {u : Value}, L2.RelV v u → v = vOf u
  | .non, _, h => by cases h; rfl
  | .bl b, _, h => by cases h; rfl
  | .int i, _, h => by obtain ⟨t, rfl⟩ := h; rfl
  | .str x, _, h => by obtain ⟨t, rfl⟩ := h; rfl
  | .byt b, _, h => by obtain ⟨t, rfl⟩ := h; rfl
  | .flt b, _, h => by obtain ⟨t, rfl⟩ := h; rfl
  | .ref a, _, h => by cases h; rfl
  | .ty n, _, h => by cases h; rfl
class HasW (K : PySem.W.Frag) where
  w : World
instance instHasWX (X : Cx) : HasW X.K := ⟨X.w⟩
def entW (w : World) (x : List Key × Addr × Value) : DictEntry := ⟨reduceHash (Builtin.Tuple.tupleHashOf (x.1.map (keyH w))), .ref x.2.1, x.2.2⟩
def PinX (a : Addr) (o : Obj) (h : Heap) : Prop := h.get? a = some o
def DTo (w : World) (o : Obj) (xs : List (List Key × Addr × V)) : Prop :=
  ∃ (ys : List (List Key × Addr × Value)) (es : Array DictEntry) (ep : Nat), Paired (fun x y => x.1 = y.1 ∧ x.2.1 = y.2.1 ∧ L2.RelV x.2.2 y.2.2) xs ys ∧
    o.ExactDict ∧ o.data = .dict es ep ∧ es.toList = ys.map (entW w) ∧ (xs.map (·.1)).Nodup ∧ xs.length ≤ sizeLine
def kidsX (xs : List (List Key × Addr × V)) : List V := xs.flatMap fun x => [.ref x.2.1, x.2.2]
def kidsO (o : Obj) : List V := match o.data with
  | .dict es _ => es.toList.flatMap fun e => [vOf e.key, vOf e.val]
  | _ => []
theorem kidsO_eq {w : World} {o : Obj} {xs : List (List Key × Addr × V)} (h : DTo w o xs) : kidsO o = kidsX xs := by
  obtain ⟨ys, es, ep, p, h1, e3, e4, h5⟩ := h
  clear h1 h5
  unfold kidsO kidsX
  rw [e3]
  simp only [e4]
  clear e4 e3
  induction p with
  | nil => rfl
  | @cons x y xs ys h t ih =>
    rw [List.map_cons, List.flatMap_cons, List.flatMap_cons, ih]
    have : x.2.2 = vOf y.2.2 := rel_vOf h.2.2
    rw [this, h.2.1]
    rfl
open Classical in
noncomputable def extV (φ : Heap → Prop) : List V := if h : ∃ o, ∃ a, φ = PinX a o ∧ ∃ h, φ h then kidsO (Classical.choose h) else []
def badO : Obj := { cls := .type "list", data := .seq #[] }
def badO2 : Obj := { cls := .type "list", data := .seq #[.none] }
theorem bad_ne : badO ≠ badO2 := fun e => by
  have := congrArg Obj.data e
  simp [badO, badO2] at this
theorem get_set {h : Heap} {a : Addr} {o b : Obj} (e : h.get? a = some o) (hb : ∀ c, b.data = c → c ≠ .freed) : ({ h with objs := h.objs.setIfInBounds a b } : Heap).get? a = some b := by
  have hlt : a < h.objs.size := Heap.lt_size e
  unfold Heap.get?
  have q : (h.objs.setIfInBounds a b)[a]? = some b := by rw [Array.getElem?_setIfInBounds_self_of_lt hlt]
  show (match (h.objs.setIfInBounds a b)[a]? with
    | some ⟨_, _, .freed, _⟩ => none
    | o => o) = _
  rw [q]
  obtain ⟨c, d, dat, sl⟩ := b
  cases dat <;> first | rfl | exact absurd rfl (hb _ rfl)
theorem get_set_ne {h : Heap} {a c : Addr} {b : Obj} (z : a ≠ c) : ({ h with objs := h.objs.setIfInBounds c b } : Heap).get? a = h.get? a := by
  unfold Heap.get?
  have q : (h.objs.setIfInBounds c b)[a]? = h.objs[a]? := Array.getElem?_setIfInBounds_ne (Ne.symm z)
  show (match (h.objs.setIfInBounds c b)[a]? with
    | some ⟨_, _, .freed, _⟩ => none
    | o => o) = _
  rw [q]
  rfl
theorem pin_one {a c : Addr} {o u : Obj} (e : PinX a o = PinX c u) {h : Heap} (hh : PinX a o h) : a = c ∧ o = u := by
  have h2 : PinX c u h := by rw [← e]; exact hh
  by_cases z : a = c
  · subst z
    have : some o = some u := by
      have h1 : h.get? a = some o := hh
      have h3 : h.get? a = some u := h2
      rw [← h1, ← h3]
    exact ⟨rfl, Option.some.inj this⟩
  · exfalso
    have g : ∀ b : Obj, (∀ c, b.data = c → c ≠ .freed) → b = u := fun b hb => by
      have k : PinX a o { h with objs := h.objs.setIfInBounds c b } := (get_set_ne z).trans hh
      rw [e] at k
      have k : ({ h with objs := h.objs.setIfInBounds c b } : Heap).get? c = some u := k
      rw [get_set h2 hb] at k
      exact Option.some.inj k
    exact bad_ne ((g badO fun c e => by subst e; exact fun z => nomatch z).trans (g badO2 fun c e => by subst e; exact fun z => nomatch z).symm)
theorem pin_sat {w : World} {a : Addr} {o : Obj} {xs : List (List Key × Addr × V)} (h : DTo w o xs) : ∃ h : Heap, PinX a o h := by
  obtain ⟨ys, es, ep, p, _, e3, e4, _⟩ := h
  refine ⟨{ objs := Array.replicate (a + 1) o }, ?_⟩
  show (match (Array.replicate (a + 1) o)[a]? with
    | some ⟨_, _, .freed, _⟩ => none
    | o => o) = _
  rw [Array.getElem?_replicate, if_pos (Nat.lt_succ_self a)]
  obtain ⟨c, d, dat, sl⟩ := o
  simp only at e3
  subst e3
  rfl
theorem extV_eq {w : World} {a : Addr} {o : Obj} {xs : List (List Key × Addr × V)} (hs : DTo w o xs) : extV (PinX a o) = kidsX xs := by
  obtain ⟨h, hh⟩ := pin_sat (a := a) hs
  have hx : ∃ u, ∃ c, PinX a o = PinX c u ∧ ∃ h, PinX a o h := ⟨o, a, rfl, h, hh⟩
  unfold extV
  rw [dif_pos hx]
  obtain ⟨c, e1, _⟩ := Classical.choose_spec hx
  rw [← (pin_one e1 hh).2]
  exact kidsO_eq hs
end Pd
set_option Elab.async false
set_option linter.all false
set_option maxRecDepth 100000
set_option maxHeartbeats 2000000
namespace Pd
open PySem PySem.Spec PyProof.Rows L2
abbrev XE := List Key × Addr × V
abbrev XP : List XE → List (List Key × Addr × Value) → Prop := Paired fun x y => x.1 = y.1 ∧ x.2.1 = y.2.1 ∧ L2.RelV x.2.2 y.2.2
def lookX (xs : List XE) (k : List Key) : Option V := (xs.find? fun x => decide (x.1 = k)).map (·.2.2)
def storeX (xs : List XE) (k : List Key) (p : Addr) (v : V) : List XE := if (lookX xs k).isSome then xs.map (fun x => if x.1 = k then (x.1, x.2.1, v) else x) else xs ++ [(k, p, v)]
theorem lookX_cons_pos {x : XE} {xs : List XE} {k : List Key} (e : x.1 = k) : lookX (x :: xs) k = some x.2.2 := by simp [lookX, List.find?_cons, e]
theorem lookX_cons_neg {x : XE} {xs : List XE} {k : List Key} (e : ¬ x.1 = k) : lookX (x :: xs) k = lookX xs k := by simp [lookX, List.find?_cons, e]
theorem XP.val {xs : List XE} {ys : List (List Key × Addr × Value)} (r : XP xs ys) (k : List Key) : RelO (lookX xs k) ((atKey ys k).map (·.2)) := by
  induction r with
  | nil => exact True.intro
  | @cons p q ps qs h t ih =>
    obtain ⟨h1, _, h2⟩ := h
    by_cases e : p.1 = k
    · have e' : q.1 = k := h1.symm.trans e
      have b : atKey (q :: qs) k = some q.2 := by simp [atKey, List.find?_cons, e']
      rw [lookX_cons_pos e, b]; exact h2
    · have e' : ¬ q.1 = k := fun z => e (h1.trans z)
      have b : atKey (q :: qs) k = atKey qs k := by simp [atKey, List.find?_cons, e']
      rw [lookX_cons_neg e, b]; exact ih
theorem XP.repl {xs : List XE} {ys : List (List Key × Addr × Value)} (r : XP xs ys) (k : List Key) {y : V} {u : Value} (ry : L2.RelV y u) :
    XP (xs.map fun x => if x.1 = k then (x.1, x.2.1, y) else x) (ys.map (putAt k u)) := by
  induction r with
  | nil => exact .nil
  | @cons p q ps qs h t ih =>
    rw [List.map_cons, List.map_cons]
    refine .cons ?_ ih
    obtain ⟨h1, h2, h3⟩ := h
    unfold putAt
    by_cases e : p.1 = k
    · rw [if_pos e, if_pos (h1.symm.trans e)]; exact ⟨h1, h2, ry⟩
    · rw [if_neg e, if_neg (fun z => e (h1.trans z))]; exact ⟨h1, h2, h3⟩
theorem XP.put {xs : List XE} {ys : List (List Key × Addr × Value)} (r : XP xs ys) (k : List Key) {p : Addr} {y : V} {u : Value} (ry : L2.RelV y u) : XP (storeX xs k p y) (storedH ys k p u) := by
  have e : (lookX xs k).isSome = (atKey ys k).isSome := by rw [(r.val k).isSome_eq, Option.isSome_map]
  unfold storeX storedH
  rw [e]
  by_cases q : (atKey ys k).isSome = true
  · rw [if_pos q, if_pos q]; exact r.repl k ry
  · rw [if_neg q, if_neg q]; exact Paired.snoc r ⟨rfl, rfl, ry⟩
theorem XP.keys {xs : List XE} {ys : List (List Key × Addr × Value)} (r : XP xs ys) : xs.map (·.1) = ys.map (·.1) := by
  induction r with
  | nil => rfl
  | cons h t ih => rw [List.map_cons, List.map_cons, ih, h.1]
def DTa (w : World) (K : PySem.W.Frag) (H : Hp) (a : Addr) (xs : List XE) : Prop :=
  ∃ o, (a == sysModules) = false ∧ H a = some (.ext (PinX a o)) ∧ DTo w o xs ∧ ∀ x ∈ xs, SqT K H x.2.1 (x.1.map kV)
section
variable {X : Cx} {pins : List (Addr × Obj)} {σ : L2.St} {H : Hp} {s : Shared} {a p : Addr} {k : List Key} {xs : List XE}
theorem key_sq (I : Inv X pins σ H s) (h : SqT X.K H p (k.map kV)) : (tupleKind (mixKind X.prog X.w)).is s.heap k p := by
  obtain ⟨its, r, ⟨o, h1, h2, n, h3⟩, _⟩ := I.tuple h
  exact ⟨o, its.toArray, n, h1, h2, h3, by simpa using items_are r⟩
theorem pin_of {o : Obj} (I : Inv X pins σ H s) (h : H a = some (.ext (PinX a o))) : s.heap.get? a = some o := (I.hok a _ h).1
theorem dta_of (I : Inv X pins σ H s) (h : DTa X.w X.K H a xs) : (a == sysModules) = false ∧ xs.length ≤ sizeLine ∧ ∃ ys, XP xs ys ∧ s.heap.DictOfH (tupleKind (mixKind X.prog X.w)) a ys := by
  obtain ⟨o, hd, hp, ⟨ys, es, ep, r, e1, e2, e3, e4, e5⟩, ks⟩ := h
  refine ⟨hd, e5, ys, r, o, es, ep, pin_of I hp, e1, e2, e3, fun y hy => ?_, by rw [← XP.keys r]; exact e4⟩
  have all : ∀ {l : List XE} {m : List (List Key × Addr × Value)}, XP l m → (∀ x ∈ l, SqT X.K H x.2.1 (x.1.map kV)) → ∀ y ∈ m, (tupleKind (mixKind X.prog X.w)).is s.heap y.1 y.2.1 := by
    intro l m q
    induction q with
    | nil => intro _ y hy; exact nomatch hy
    | @cons p q ps qs hq t ih =>
      intro hk y hy
      rcases List.mem_cons.mp hy with e | hy
      · subst e
        have := key_sq I (hk p (List.mem_cons_self ..))
        rw [hq.1, hq.2.1] at this
        exact this
      · exact ih (fun x hx => hk x (List.mem_cons_of_mem _ hx)) y hy
  exact all r ks y hy
theorem dta_type (I : Inv X pins σ H s) (h : DTa X.w X.K H a xs) : s.TypeIs (.ref a) "dict" := by
  obtain ⟨_, _, ys, _, dd⟩ := dta_of I h
  exact dd.typeIs
end
def rIxTd (w : World) (K : PySem.W.Frag) : R2 := fun x y H Q => ∃ a p k xs v, x = .ref a ∧ y = .ref p ∧ DTa w K H a xs ∧ SqT K H p (k.map kV) ∧ lookX xs k = some v ∧ Q v H
section
variable {X : Cx}
theorem dt_getItem {pins : List (Addr × Obj)} {σ : L2.St} {H : Hp} {s : Shared} {a p : Addr} {k : List Key} {xs : List XE} {v : V} {A : Around} {E : Value → Shared → Prop} {Q : Value → Shared → Prop} (hu : A.units + 1 < cLine) (I : Inv X pins σ H s) (g : DTa X.w X.K H a xs) (hk : SqT X.K H p (k.map kV)) (l : lookX xs k = some v) (h : ∀ w' s', Inv X pins σ H s' → L2.RelV v w' → Q w' s') :
    wpAny (model X.prog X.w) A (getItem (.ref a) (.ref p)) Q E s := by
  obtain ⟨hd, z, ys, rel, dd⟩ := dta_of I g
  obtain ⟨w', hw, rw'⟩ := RelO.some_of (v := v) (o := (atKey ys k).map (·.2)) (by rw [← l]; exact rel.val k)
  obtain ⟨q, hp, hp2⟩ := Option.map_eq_some_iff.mp hw
  refine wpAny_getItem_heap (tupleKind_room_in1 hu) (key_sq I hk) dd hp ?_
  rw [hp2]
  exact h w' _ (I.tok _) rw'
theorem ix_td (hu : X.A.units + 1 < cLine) : IxR X (rIxTd X.w X.K) := by
  intro value slice pins s σ H x y v u Q I rx ry ⟨a, p, k, xs, z, ex, ey, g, hk, l, q⟩ hs
  subst ex ey
  obtain rfl : v = Value.ref a := rx
  obtain rfl : u = Value.ref p := ry
  have hT := dta_type I g
  have fin : wpAny (model X.prog X.w) X.A (subscripted slice false (.ref a) (.ref p)) (fun r s₃ => wpAny (model X.prog X.w) X.A (letTemporaryGo value (.ref a) r >>= fun _ => pure r) (EP X pins σ Q) X.xe s₃) X.xe s :=
    hs ▸ wpAny_operating (wpAny_mono (dt_getItem hu I g hk l fun w' s' I' rw' => (⟨z, H, I', rw', q⟩ : EP X pins σ Q w' s')) (fun r s₃ h₃ => wpAny_bind (wpAny_letTemporaryGo (wpAny_pure h₃))) fun _ _ x => x)
  unfold subscriptTail
  refine wpAny_bind (?_ : wpAny _ _ _ _ _ _)
  rw [getitemInPython_of_ne hT.not_modules]; refine wpAny_bind (wpAny_specialOf hT PySem.F.slot_dict_getitem.lookup ?_)
  first
    | exact wpAny_bind fin
    | exact wpAny_pure (wpAny_bind fin)
    | exact wpAny_bind (wpAny_pure (wpAny_bind fin))
def rInTd (neg : Bool) (w : World) (K : PySem.W.Frag) : R2 := fun x y H Q => ∃ a p k xs, y = .ref a ∧ x = .ref p ∧ DTa w K H a xs ∧ SqT K H p (k.map kV) ∧ Q (.bl (if neg then !(lookX xs k).isSome else (lookX xs k).isSome)) H
theorem op_inTd (hu : X.A.units + 1 < cLine) : OpR X (compareOp .In) (rInTd false X.w X.K) := by
  intro pins s σ H x y v u Q I rx ry ⟨a, p, k, xs, ey, ex, g, hk, q⟩
  subst ey ex
  obtain rfl : u = Value.ref a := ry
  obtain rfl : v = Value.ref p := rx
  obtain ⟨hd, z, ys, rel, dd⟩ := dta_of I g
  have e := (rel.val k).isSome_eq
  rw [Option.isSome_map] at e
  have q : Q (.bl (lookX xs k).isSome) H := q
  rw [e] at q
  exact wpAny_in_heap (tupleKind_room_in1 hu) (key_sq I hk) hd dd ⟨.bl _, H, I.tok _, rfl, q⟩
theorem op_notInTd (hu : X.A.units + 1 < cLine) : OpR X (compareOp .NotIn) (rInTd true X.w X.K) := by
  intro pins s σ H x y v u Q I rx ry ⟨a, p, k, xs, ey, ex, g, hk, q⟩
  subst ey ex
  obtain rfl : u = Value.ref a := ry
  obtain rfl : v = Value.ref p := rx
  obtain ⟨hd, z, ys, rel, dd⟩ := dta_of I g
  have e := (rel.val k).isSome_eq
  rw [Option.isSome_map] at e
  have q : Q (.bl (!(lookX xs k).isSome)) H := q
  rw [e] at q
  exact wpAny_notIn_heap (tupleKind_room_in1 hu) (key_sq I hk) hd dd ⟨.bl _, H, I.tok _, rfl, q⟩
variable {o e f : Expr} {apos cpos : Pos} {td ty tx : TE}
end
end Pd
set_option Elab.async false
set_option linter.all false
set_option maxRecDepth 100000
set_option maxHeartbeats 2000000
namespace Pd
open PySem PySem.W PySem.Calls PySem.SeqAt PyProof.Rows
section
variable {prog : Program} {w : World} {A : Around} {s : Shared}
end
end Pd
set_option Elab.async false
set_option linter.all false
set_option maxRecDepth 100000
set_option maxHeartbeats 2000000
namespace Pd
open PySem PySem.Spec PyProof.Rows L2
section
variable {X : Cx} {o e f : Expr} {apos cpos : Pos} {td ty tx : TE}
end
def Itx (a : Addr) (o : Obj) (xs : List XE) : It := ⟨fun i H => H a = some (.ext (PinX a o)) ∧ i < xs.length, fun i H x H' => H' = H ∧ ∃ e, xs[i]? = some e ∧ x = .ref e.2.1, fun i H => H a = some (.ext (PinX a o)) ∧ xs.length ≤ i⟩
theorem xp_get {xs : List XE} {ys : List (List Key × Addr × Value)} (r : XP xs ys) {i : Nat} {x : XE} (h : xs[i]? = some x) : ∃ y, ys[i]? = some y ∧ x.1 = y.1 ∧ x.2.1 = y.2.1 ∧ L2.RelV x.2.2 y.2.2 := by
  induction r generalizing i with
  | nil => simp at h
  | @cons p q ps qs hq t ih =>
    cases i with
    | zero =>
      simp only [List.getElem?_cons_zero, Option.some.injEq] at h
      subst h
      exact ⟨q, rfl, hq⟩
    | succ i =>
      simp only [List.getElem?_cons_succ] at h
      obtain ⟨y, h1, h2⟩ := ih h
      exact ⟨y, by rw [List.getElem?_cons_succ]; exact h1, h2⟩
theorem turn_x {P : Program} {w w' : World} {K : PySem.W.Frag} {tg : Expr} {a : Addr} {o : Obj} {xs : List XE} {ys : List (List Key × Addr × Value)} {es : Array DictEntry} {ep : Nat} (it : Addr) (hx : o.ExactDict) (hod : o.data = .dict es ep) (he : es.toList = ys.map (entW w')) (r : XP xs ys) :
    Turn P w K tg (Itx a o xs) [it] it (fun i h => h.IsKeyIter it a i es.size ep) where
  mem := by simp
  obj := fun i h st b hb => by
    have e : b = it := by simpa using hb
    subst e
    obtain ⟨oi, e, c, dd⟩ := st
    exact ⟨oi, e, fun v z => by rw [dd] at z; cases z⟩
  keep := fun i h h' st k => st.at fun oi e => k it (by simp) oi e
  item := by
    intro X hP hw hK hc i pins s σ H E I hf st hg
    subst hP hw hK
    obtain ⟨hp, hi⟩ := hg
    obtain ⟨f0, f1, f2, f3, f4, f5⟩ := hf it (by simp)
    have hz : es.size = xs.length := by
      have := congrArg List.length he
      rw [List.length_map, Array.length_toList, ← Paired.length r] at this
      exact this
    have hi' : i < es.size := by omega
    obtain ⟨y, y1, y2, y3, y4⟩ := xp_get r (List.getElem?_eq_getElem hi)
    have hkey : es[i].key = .ref (xs[i]).2.1 := by
      have : es.toList[i]? = some es[i] := by rw [Array.getElem?_toList]; exact Array.getElem?_eq_getElem hi'
      rw [he, List.getElem?_map, y1] at this
      have e2 : entW w' y = es[i] := Option.some.inj this
      rw [← e2, y3]
      rfl
    refine wpAny_pyNext_keys_item_raw st ⟨o, pin_of I hp, hx, hod⟩ hi' fun h' st' sb => ?_
    have I1 : Inv X pins σ H { s with heap := h' } := I.turned (t' := s.toks) (fun b ob hb e => (sb.2 b hb).trans e) f0 f1 f3 f4 f5
    obtain ⟨oi, e, c, dd⟩ := id st'
    exact ⟨_, rfl, go_of (s := { s with heap := h' }) e c dd (by decide) ⟨.ref (xs[i]).2.1, H, I1, by rw [hkey]; exact rfl, ⟨rfl, xs[i], List.getElem?_eq_getElem hi, rfl⟩, st', fun b hb => (hf b hb).1⟩⟩
  done := by
    intro X hP hw hK hc i pins s σ H E I hf st hg
    subst hP hw hK
    obtain ⟨hp, hi⟩ := hg
    obtain ⟨f0, f1, f2, f3, f4, f5⟩ := hf it (by simp)
    have hz : es.size = xs.length := by
      have := congrArg List.length he
      rw [List.length_map, Array.length_toList, ← Paired.length r] at this
      exact this
    exact wpAny_pyNext_keys_end_raw (I.ok.hd hc) st ⟨o, pin_of I hp, hx, hod⟩ (by omega) fun h' eb => ⟨rfl, I.turned (t' := s.toks) (fun b ob hb e => eb b ob hb e) f0 f1 f3 f4 f5⟩
  self := fun A i s Q E st h => wpAny_pyIter_keyiter st h
theorem pi_x {X : Cx} {tg : Expr} {pins : List (Addr × Obj)} {σ : L2.St} {H : Hp} {s : Shared} {R : It → Hp → Prop} {a : Addr} {o : Obj} {xs : List XE} (I : Inv X pins σ H s) (lo : (a == sysModules) = false) (hp : H a = some (.ext (PinX a o))) (hd : DTo X.w o xs) (q : R (Itx a o xs) H) :
    wpAny (model X.prog X.w) X.A (pyIter (.ref a)) (PIE X pins σ tg R) X.xe s := by
  obtain ⟨ys, es, ep, r, e1, e2, e3, e4, e5⟩ := hd
  exact wpAny_pyIter_dict_raw lo ⟨o, pin_of I hp, e1, e2⟩ (pi_one (tk := s.toks) I _ (turn_x _ e1 e2 e3 r) ⟨_, Heap.get?_push_size _ rfl, rfl, rfl⟩ q)
theorem walk_x {a : Addr} {o : Obj} {xs : List XE} : Walk (Itx a o xs) xs.length (fun H => H a = some (.ext (PinX a o))) (fun i H x H' => H' = H ∧ ∃ e, xs[i]? = some e ∧ x = .ref e.2.1) :=
  ⟨fun i _ hi q => ⟨q, hi⟩, fun _ q => ⟨q, Nat.le_refl _⟩, fun _ _ _ _ _ q y => y⟩
end Pd
set_option Elab.async false
set_option linter.all false
set_option maxRecDepth 100000
set_option maxHeartbeats 4000000
namespace Pd
open PySem PySem.Spec PySem.Calls PyProof.Rows L2 RZ
theorem tuple_mul_same (l : Addr) (items : Array Value) (n : Nat) (dd : Option Addr) (sl : Array (Option Value)) (x : Int) (u : Tok) (c0 : (decide (x < -(2 ^ 63)) || decide (x ≥ 2 ^ 63)) = false) (c1 : (items.isEmpty || x == 1) = true) :
    Meets (Builtin.«tuple.__mul__» ⟨[.ref l, .int x u], []⟩) (fun _ R s => s.heap.get? l = some { cls := .type "tuple", dict := dd, data := .seq items n, slots := sl } ∧ R (.ok (.ret (Value.ref l))) s) :=
  .of_wp fun prog w A R s h => by
    obtain ⟨hp, g, d, tk, os⟩ := s
    obtain ⟨hl, h⟩ := h
    have f1 := AutoSeq1.idx_int
    wp_walk using wpAny_loadPart' hl
    repeat (first
      | (refine wpAny_ite_false (decide_eq_false (by rw [c0]; exact Bool.false_ne_true)) ?_; wp_walk using wpAny_loadPart' hl)
      | (refine wpAny_ite_true (decide_eq_true c1) ?_; wp_walk using wpAny_loadPart' hl))
    exact ⟨_, rfl, h⟩
theorem tuple_mul_none (l : Addr) (items : Array Value) (n : Nat) (dd : Option Addr) (sl : Array (Option Value)) (x : Int) (u : Tok) (c0 : (decide (x < -(2 ^ 63)) || decide (x ≥ 2 ^ 63)) = false) (c1 : (items.isEmpty || x == 1) = false) (c2 : (decide (x ≤ 0) || items.isEmpty) = true) :
    Meets (Builtin.«tuple.__mul__» ⟨[.ref l, .int x u], []⟩) (fun _ R s => s.heap.get? l = some { cls := .type "tuple", dict := dd, data := .seq items n, slots := sl } ∧
      R (.ok (.ret (Value.ref s.heap.objs.size))) { s with heap := s.heap.push { cls := Value.type "tuple", data := Data.seq #[] }, toks := s.toks }) :=
  .of_wp fun prog w A R s h => by
    obtain ⟨hp, g, d, tk, os⟩ := s
    obtain ⟨hl, h⟩ := h
    have f1 := AutoSeq1.idx_int
    have hsz : (#[] : Array Value).size ≤ sizeLine := Nat.zero_le _
    wp_walk using wpAny_loadPart' hl
    repeat (first
      | (refine wpAny_ite_false (decide_eq_false (by rw [c0]; exact Bool.false_ne_true)) ?_; wp_walk using wpAny_loadPart' hl)
      | (refine wpAny_ite_false (decide_eq_false (by rw [c1]; exact Bool.false_ne_true)) ?_; wp_walk using wpAny_loadPart' hl)
      | (refine wpAny_ite_true (decide_eq_true c2) ?_; wp_walk using wpAny_loadPart' hl)
      | (refine wpAny_ite_false (decide_eq_false (Nat.not_lt.mpr hsz)) ?_; wp_walk using wpAny_loadPart' hl))
    exact ⟨_, rfl, h⟩
def rRepN (K : PySem.W.Frag) : R2 := fun x y H Q => ∃ l k xs, x = .ref l ∧ y = .int k ∧ SqT K H l xs ∧ 0 ≤ k ∧ k ≤ 8000 ∧ xs.length ≤ 1000 ∧ (xs = [] ∨ k = 1 → Q (.ref l) H) ∧
  (xs ≠ [] → k ≠ 1 → ∀ p o, H p = none → o.dict = none → Q (.ref p) (upd H p (.frz o (.tup (List.replicate k.toNat xs).flatten))))
section
variable {X : Cx}
theorem op_repN : OpR X (binaryOp .Mult) (rRepN X.K) := by
  intro pins s σ H x y v u Q I rx ry h
  obtain ⟨l, k, xs, rfl, rfl, hT, h0, h2, hz, qa, qb⟩ := h
  cases rx
  obtain ⟨t, rfl⟩ := ry
  obtain ⟨its, r, ⟨⟨cls, dd, data, sl⟩, ho, hc, n, hd⟩, hs⟩ := I.tuple hT
  simp only at hc hd
  subst hc hd
  have hle : its.length = xs.length := r.length.symm
  have hsz0 : its.toArray.size = xs.length := by rw [List.size_toArray, hle]
  have c0 : (decide (k < -(2 ^ 63)) || decide (k ≥ 2 ^ 63)) = false := by
    rw [decide_eq_false (by omega), decide_eq_false (by omega)] <;> rfl
  have iE : its.toArray.isEmpty = true ↔ xs = [] := by
    rw [Array.isEmpty_iff_size_eq_zero, hsz0]
    exact List.length_eq_zero_iff
  by_cases hE : xs = [] ∨ k = 1
  · have c1 : (its.toArray.isEmpty || k == 1) = true := by
      rcases hE with e | e
      · rw [iE.mpr e]; rfl
      · subst e; simp
    refine wpAny_binaryOp_repeat_ref (T := "tuple") (U := "int") (by decide) ⟨_, ho, rfl⟩ (fun s' => typeIs_int s' k t) noFill_tuple_mul F.fills_int_mul F.slot_int_rmul repeat_tuple F.slot_int_index.lookup
      (call_meets F.slot_int_rmul (typeIs_int s k t) F.entry_int_rmul (F.args_int_rmul_2 _ _) (int_rmul_tuple k t l its.toArray n dd sl)
        ⟨ho, rfl, ⟨_, ho, rfl⟩, call_meets F.slot_tuple_mul ⟨_, ho, rfl⟩ F.entry_tuple_mul (F.args_tuple_mul_2 _ _) (tuple_mul_same l its.toArray n dd sl k t c0 c1) ⟨ho, ?_⟩⟩)
    exact ⟨.ref l, H, I, rfl, qa hE⟩
  · have hne : xs ≠ [] := fun e => hE (.inl e)
    have hk1 : k ≠ 1 := fun e => hE (.inr e)
    have hi : its.toArray.isEmpty = false := by
      cases q : its.toArray.isEmpty with
      | false => rfl
      | true => exact absurd (iE.mp q) hne
    have c1 : (its.toArray.isEmpty || k == 1) = false := by
      rw [hi, Bool.false_or]
      exact beq_eq_false_iff_ne.mpr hk1
    by_cases hk : k ≤ 0
    · have c2 : (decide (k ≤ 0) || its.toArray.isEmpty) = true := by rw [decide_eq_true hk]; rfl
      refine wpAny_binaryOp_repeat_ref (T := "tuple") (U := "int") (by decide) ⟨_, ho, rfl⟩ (fun s' => typeIs_int s' k t) noFill_tuple_mul F.fills_int_mul F.slot_int_rmul repeat_tuple F.slot_int_index.lookup
        (call_meets F.slot_int_rmul (typeIs_int s k t) F.entry_int_rmul (F.args_int_rmul_2 _ _) (int_rmul_tuple k t l its.toArray n dd sl)
          ⟨ho, rfl, ⟨_, ho, rfl⟩, call_meets F.slot_tuple_mul ⟨_, ho, rfl⟩ F.entry_tuple_mul (F.args_tuple_mul_2 _ _) (tuple_mul_none l its.toArray n dd sl k t c0 c1 c2) ⟨ho, ?_⟩⟩)
      have ek : (List.replicate k.toNat xs).flatten = [] := by
        have : k.toNat = 0 := by omega
        rw [this]; rfl
      have qb' := qb hne hk1
      rw [ek] at qb'
      refine ⟨.ref s.heap.objs.size, _, I.laid (t' := s.toks) (o := .frz { cls := .type "tuple", data := .seq #[] } (.tup [])) (fun b ob q => Heap.get?_push_of_some _ q) (Nat.le_refl _) ?_, rfl, qb' _ _ (I.hok.fresh (Nat.le_refl _)) rfl⟩
      exact ⟨Heap.get?_push_size _ rfl, Nat.zero_le _, [], .nil, IsTup.new _ _⟩
    · have h1 : 2 ≤ k := by omega
      have hm : ((its.toArray.size : Nat) : Int) * k ≤ 8000000 := by
        rw [hsz0]
        have a1 : ((xs.length : Nat) : Int) * k ≤ 1000 * k := Int.mul_le_mul_of_nonneg_right (by omega) (by omega)
        omega
      have flen : (List.replicate k.toNat its).flatten.length ≤ sizeLine := by
        rw [PyProof.Rows.lm_len_rep_flat, hle, sizeLine_eq]
        have a1 : k.toNat * xs.length ≤ 8000 * 1000 := Nat.mul_le_mul (by omega) hz
        omega
      have c2 : (decide (k ≤ 0) || its.toArray.isEmpty) = false := by
        rw [hi, Bool.or_false]
        exact decide_eq_false (by omega)
      have c4 : Builtin.Tuple.tupleTooMany (((its.toArray.size : Nat) : Int) * k) = false := by
        unfold Builtin.Tuple.tupleTooMany
        rw [sizeLine_eq]
        exact decide_eq_false (by omega)
      refine wpAny_binaryOp_repeat_ref (T := "tuple") (U := "int") (by decide) ⟨_, ho, rfl⟩ (fun s' => typeIs_int s' k t) noFill_tuple_mul F.fills_int_mul F.slot_int_rmul repeat_tuple F.slot_int_index.lookup
        (call_meets F.slot_int_rmul (typeIs_int s k t) F.entry_int_rmul (F.args_int_rmul_2 _ _) (int_rmul_tuple k t l its.toArray n dd sl)
          ⟨ho, rfl, ⟨_, ho, rfl⟩, call_meets F.slot_tuple_mul ⟨_, ho, rfl⟩ F.entry_tuple_mul (F.args_tuple_mul_2 _ _) (tuple_mulW l its.toArray n dd sl k t c0 c1 c2 (by omega) c4 (by rw [size_rep, List.size_toArray]; exact flen)) ⟨ho, ?_⟩⟩)
      rw [size_rep]
      refine ⟨.ref s.heap.objs.size, _, I.laid (t' := s.toks) (o := .frz { cls := .type "tuple", data := .seq (List.replicate k.toNat its).flatten.toArray } (.tup (List.replicate k.toNat xs).flatten)) (fun b ob q => Heap.get?_push_of_some _ q) (Nat.le_refl _) ?_, rfl, qb hne hk1 _ _ (I.hok.fresh (Nat.le_refl _)) rfl⟩
      exact ⟨Heap.get?_push_size _ rfl, by rw [PyProof.Rows.lm_len_rep_flat, sizeLine_eq]; have a1 : k.toNat * xs.length ≤ 8000 * 1000 := Nat.mul_le_mul (by omega) hz; omega, _, r.rep k.toNat, IsTup.new _ _⟩
end
end Pd
set_option Elab.async false
set_option linter.all false
set_option maxRecDepth 100000
set_option maxHeartbeats 2000000
namespace Pd
open PySem PySem.Spec PyProof.Rows L2
abbrev D := PyData
variable {K : PySem.W.Frag}
theorem sqn_mono {H H' : Hp} {a : Addr} {xs : List V} (e : Same H H') (h : SqN K H a xs) : SqN K H' a xs := by
  rcases h with ⟨o, h, hd⟩ | h
  · exact .inl ⟨o, e _ _ h, hd⟩
  · exact .inr h
theorem sqt_mono {H H' : Hp} {a : Addr} {xs : List V} (e : Same H H') (h : SqN K H a xs) : SqT K H' a xs := (sqn_mono e h).sq
theorem rd_mono {H H' : Hp} {a : Addr} {u : HO} (e : Same H H') (h : Rd H a u) : Rd H' a u := by
  rcases h with h | ⟨o, h⟩
  · exact .inl (e _ _ h)
  · exact .inr ⟨o, e _ _ h⟩
def kD : Key → D
  | .inl i => .int i
  | .inr x => .str x
def exg (a C : Addr) (dx : Option Addr) : HO := .ext fun h => ∃ (oe : Obj) (vs : Array Value), h.get? a = some oe ∧ Zc (.ref C) dx oe ∧ oe.data = .fields vs
def XAt (H : Hp) (a C : Addr) (fs : List (Str × V)) : Prop := ((∃ d, H a = some (exo a C (some d)) ∧ H d = some (exd d fs)) ∨ (fs = [] ∧ H a = some (ExO (.ref C) a))) ∨ ∃ dx, H a = some (exg a C dx) ∧ ((fs = [] ∧ dx = none) ∨ ∃ d, dx = some d ∧ H d = some (.xd fs))
theorem XAt.mono {H H' : Hp} {a C : Addr} {fs : List (Str × V)} (e : Same H H') (h : XAt H a C fs) : XAt H' a C fs := by
  rcases h with (⟨d, h1, h2⟩ | ⟨h1, h2⟩) | ⟨dx, h1, h2⟩
  · exact .inl (.inl ⟨d, e _ _ h1, e _ _ h2⟩)
  · exact .inl (.inr ⟨h1, e _ _ h2⟩)
  · refine .inr ⟨dx, e _ _ h1, ?_⟩
    rcases h2 with h2 | ⟨d, q1, q2⟩
    · exact .inl h2
    · exact .inr ⟨d, q1, e _ _ q2⟩
def clsNm (o : Obj) : Option Str := match o.data with
  | .cls cd => some cd.name
  | _ => none
def NmAt (K : PySem.W.Frag) (n : Str) (C : Addr) : Prop := (K.find? fun p => decide (clsNm p.2 = some n)).map (·.1) = some C
theorem NmAt.one {K : PySem.W.Frag} {n : Str} {C D : Addr} (h : NmAt K n C) (g : NmAt K n D) : C = D := Option.some.inj (h.symm.trans g)
variable [HasW K]
mutual
inductive Dr (K : PySem.W.Frag) [HasW K] (H : Hp) : V → D → Prop
  | non : Dr K H .non .none
  | bl (b : Bool) : Dr K H (.bl b) (.bool b)
  | int (i : Int) : Dr K H (.int i) (.int i)
  | str (x : Str) : Dr K H (.str x) (.str x)
  | lst {a : Addr} {xs : List V} {ds : List D} : Rd H a (.lst xs) → DrA K H xs ds → Dr K H (.ref a) (.list ds)
  | tup {a : Addr} {xs : List V} {ds : List D} : SqN K H a xs → DrA K H xs ds → Dr K H (.ref a) (.tuple ds)
  | dct {a : Addr} {ks : List (Key × V)} {kvs : List (D × D)} : Rd H a (.dK ks) → DrK K H ks kvs → Dr K H (.ref a) (.dict kvs)
  | exc {a C : Addr} {n : Str} {fs : List (Str × V)} {kvs : List (D × D)} : XAt H a C fs → NmAt K n C → DrX K H fs kvs → Dr K H (.ref a) (.dict ((.dict [], .str n) :: kvs))
  | dcT {a : Addr} {o : Obj} {xs : List (List Key × Addr × V)} {kvs : List (D × D)} : (a == sysModules) = false → H a = some (.ext (PinX a o)) → DTo (HasW.w K) o xs → DrT K H xs kvs → Dr K H (.ref a) (.dict ((.dict [], .none) :: kvs))
inductive DrT (K : PySem.W.Frag) [HasW K] (H : Hp) : List (List Key × Addr × V) → List (D × D) → Prop
  | nil : DrT K H [] []
  | cons {k : List Key} {p : Addr} {v : V} {xs : List (List Key × Addr × V)} {d : D} {kvs : List (D × D)} : SqN K H p (k.map kV) → Dr K H v d → DrT K H xs kvs → DrT K H ((k, p, v) :: xs) ((.tuple (k.map kD), d) :: kvs)
inductive DrX (K : PySem.W.Frag) [HasW K] (H : Hp) : List (Str × V) → List (D × D) → Prop
  | nil : DrX K H [] []
  | cons {f : Str} {v : V} {fs : List (Str × V)} {d : D} {kvs : List (D × D)} : Dr K H v d → DrX K H fs kvs → DrX K H ((f, v) :: fs) ((.str f, d) :: kvs)
inductive DrK (K : PySem.W.Frag) [HasW K] (H : Hp) : List (Key × V) → List (D × D) → Prop
  | nil : DrK K H [] []
  | cons {k : Key} {v : V} {ks : List (Key × V)} {d : D} {kvs : List (D × D)} : Dr K H v d → DrK K H ks kvs → DrK K H ((k, v) :: ks) ((kD k, d) :: kvs)
inductive DrA (K : PySem.W.Frag) [HasW K] (H : Hp) : List V → List D → Prop
  | nil : DrA K H [] []
  | cons {v : V} {vs : List V} {d : D} {ds : List D} : Dr K H v d → DrA K H vs ds → DrA K H (v :: vs) (d :: ds)
end
def notXL : List (D × D) → Bool
  | (.dict [], _) :: _ => false
  | _ => true
def notX : D → Bool
  | .dict kvs => notXL kvs
  | _ => true
theorem notXL_map (kvs : List (Key × D)) : notXL (kvs.map fun p => (kD p.1, p.2)) = true := by
  cases kvs with
  | nil => rfl
  | cons p r =>
    obtain ⟨k, d⟩ := p
    cases k <;> rfl
mutual
theorem Dr.dp {H : Hp} : ∀ (d : D) (v : V), d.canLay0 = true → Dr K H v d → L2.Dp K H v d
  | .none, _, _, h => by cases h; exact .non
  | .bool b, _, _, h => by cases h; exact .bl b
  | .int i, _, _, h => by cases h; exact .int i
  | .str x, _, _, h => by cases h; exact .str x
  | .list ds, _, c, h => by
    cases h with
    | lst h1 h2 => exact .lst (.inl h1) (DrA.dp ds _ (by rw [PyData.canLay0] at c; exact c) h2)
  | .tuple ds, _, c, h => by
    cases h with
    | tup h1 h2 => exact .tup h1.sq (DrA.dp ds _ (by rw [PyData.canLay0] at c; exact c) h2)
  | .dict _, _, c, h => by rw [PyData.canLay0] at c; cases c
theorem DrA.dp {H : Hp} : ∀ (ds : List D) (vs : List V), PyData.canLayAll0 ds = true → DrA K H vs ds → L2.DpAll K H vs ds
  | [], _, _, h => by cases h; exact .nil
  | d :: ds, _, c, h => by
    rw [PyData.canLayAll0, Bool.and_eq_true] at c
    cases h with
    | cons h1 h2 => exact .cons (Dr.dp d _ c.1 h1) (DrA.dp ds _ c.2 h2)
end
mutual
theorem dp_mono {H H' : Hp} (e : Same H H') : ∀ (d : D) (v : V), Dr K H v d → Dr K H' v d
  | .none, _, h => by cases h; exact .non
  | .bool b, _, h => by cases h; exact .bl b
  | .int i, _, h => by cases h; exact .int i
  | .str x, _, h => by cases h; exact .str x
  | .list ds, _, h => by
    cases h with
    | lst h1 h2 => exact .lst (rd_mono e h1) (dpa_mono e ds _ h2)
  | .tuple ds, _, h => by
    cases h with
    | tup h1 h2 => exact .tup (sqn_mono e h1) (dpa_mono e ds _ h2)
  | .dict kvs, _, h => by
    cases h with
    | dct h1 h2 => exact .dct (rd_mono e h1) (dpk_mono e kvs _ h2)
    | exc h1 h2 h3 => exact .exc (h1.mono e) h2 (dpx_mono e _ _ h3)
    | dcT h0 h1 h2 h3 => exact .dcT h0 (e _ _ h1) h2 (dpt_mono e _ _ h3)
theorem dpt_mono {H H' : Hp} (e : Same H H') : ∀ (kvs : List (D × D)) (xs : List (List Key × Addr × V)), DrT K H xs kvs → DrT K H' xs kvs
  | [], _, h => by cases h; exact .nil
  | (k, d) :: kvs, _, h => by
    cases h with
    | cons h0 h1 h2 => exact .cons (sqn_mono e h0) (dp_mono e d _ h1) (dpt_mono e kvs _ h2)
theorem dpx_mono {H H' : Hp} (e : Same H H') : ∀ (kvs : List (D × D)) (fs : List (Str × V)), DrX K H fs kvs → DrX K H' fs kvs
  | [], _, h => by cases h; exact .nil
  | (k, d) :: kvs, _, h => by
    cases h with
    | cons h1 h2 => exact .cons (dp_mono e d _ h1) (dpx_mono e kvs _ h2)
theorem dpk_mono {H H' : Hp} (e : Same H H') : ∀ (kvs : List (D × D)) (ks : List (Key × V)), DrK K H ks kvs → DrK K H' ks kvs
  | [], _, h => by cases h; exact .nil
  | (k, d) :: kvs, _, h => by
    cases h with
    | cons h1 h2 => exact .cons (dp_mono e d _ h1) (dpk_mono e kvs _ h2)
theorem dpa_mono {H H' : Hp} (e : Same H H') : ∀ (ds : List D) (vs : List V), DrA K H vs ds → DrA K H' vs ds
  | [], _, h => by cases h; exact .nil
  | d :: ds, _, h => by
    cases h with
    | cons h1 h2 => exact .cons (dp_mono e d _ h1) (dpa_mono e ds _ h2)
end
theorem Same.dp {H H' : Hp} (e : Same H H') {v : V} {d : D} (h : Dr K H v d) : Dr K H' v d := dp_mono e d v h
theorem Same.dpa {H H' : Hp} (e : Same H H') {vs : List V} {ds : List D} (h : DrA K H vs ds) : DrA K H' vs ds := dpa_mono e ds vs h
theorem dpa_len {H : Hp} : ∀ {vs : List V} {ds : List D}, DrA K H vs ds → vs.length = ds.length
  | _, _, .nil => rfl
  | _, _, .cons _ t => by rw [List.length_cons, List.length_cons, dpa_len t]
theorem dpa_get {H : Hp} : ∀ {vs : List V} {ds : List D} {i : Nat} {d : D}, DrA K H vs ds → ds[i]? = some d → ∃ v, vs[i]? = some v ∧ Dr K H v d
  | _, _, _, _, .nil, e => by simp at e
  | _, _, 0, _, .cons h _, e => by
    simp at e
    subst e
    exact ⟨_, rfl, h⟩
  | _, _, i + 1, d, .cons _ t, e => by
    obtain ⟨v, h1, h2⟩ := dpa_get (i := i) (d := d) t (by simpa using e)
    exact ⟨v, by simpa using h1, h2⟩
theorem dpa_getv {H : Hp} : ∀ {vs : List V} {ds : List D} {i : Nat} {v : V}, DrA K H vs ds → vs[i]? = some v → ∃ d, ds[i]? = some d ∧ Dr K H v d
  | _, _, _, _, .nil, e => by simp at e
  | _, _, 0, _, .cons h _, e => by
    simp at e
    subst e
    exact ⟨_, rfl, h⟩
  | _, _, i + 1, v, .cons _ t, e => by
    obtain ⟨d, h1, h2⟩ := dpa_getv (i := i) (v := v) t (by simpa using e)
    exact ⟨d, by simpa using h1, h2⟩
theorem dpa_append {H : Hp} : ∀ {vs ws : List V} {ds es : List D}, DrA K H vs ds → DrA K H ws es → DrA K H (vs ++ ws) (ds ++ es)
  | _, _, _, _, .nil, h => h
  | _, _, _, _, .cons a t, h => .cons a (dpa_append t h)
theorem dpa_drop {H : Hp} : ∀ {vs : List V} {ds : List D} (n : Nat), DrA K H vs ds → DrA K H (vs.drop n) (ds.drop n)
  | _, _, 0, h => h
  | _, _, _ + 1, .nil => .nil
  | _, _, n + 1, .cons _ t => dpa_drop n t
theorem dpa_take {H : Hp} : ∀ {vs : List V} {ds : List D} (n : Nat), DrA K H vs ds → DrA K H (vs.take n) (ds.take n)
  | _, _, 0, _ => .nil
  | _, _, _ + 1, .nil => .nil
  | _, _, n + 1, .cons a t => .cons a (dpa_take n t)
theorem dpa_rev {H : Hp} : ∀ {vs : List V} {ds : List D}, DrA K H vs ds → DrA K H vs.reverse ds.reverse
  | _, _, .nil => .nil
  | _, _, .cons a t => by
    rw [List.reverse_cons, List.reverse_cons]
    exact dpa_append (dpa_rev t) (.cons a .nil)
theorem dpa_ints {H : Hp} : ∀ (ns : List Int), DrA K H (ns.map V.int) (ns.map PyData.int)
  | [] => .nil
  | n :: r => .cons (.int n) (dpa_ints r)
theorem dpa_strs {H : Hp} : ∀ (ns : List Str), DrA K H (ns.map V.str) (ns.map PyData.str)
  | [] => .nil
  | n :: r => .cons (.str n) (dpa_strs r)
def flatD : D → Option V
  | .none => some .non
  | .bool b => some (.bl b)
  | .int i => some (.int i)
  | .str x => some (.str x)
  | _ => none
theorem dp_flat {H : Hp} {v w : V} : ∀ {d : D}, Dr K H v d → flatD d = some w → v = w
  | .none, .non, e => Option.some.inj e
  | .bool b, .bl _, e => Option.some.inj e
  | .int i, .int _, e => Option.some.inj e
  | .str x, .str _, e => Option.some.inj e
inductive NK where
  | lst
  | dK (ks : List Key)
  | dT (ks : List (List Key))
  | ins (n : Str) (fs : List Str)
inductive Tre where
  | dat (d : D)
  | nod (k : NK) (ts : List Tre)
inductive MO where
  | lst (xs : List D)
  | dK (kvs : List (Key × D))
  | dT (kvs : List (List Key × D))
  | tre (k : NK) (ts : List Tre)
inductive Sl where
  | un
  | dat (d : D)
  | own (o : MO)
  | io (o : MO)
  | bor (i : Nat)
  | fn (a : Addr)
abbrev En := List Sl
inductive Re where
  | dat (d : D)
  | new (o : MO)
  | slot (i : Nat)
def Re.sl : Re → Sl
  | .dat d => .dat d
  | .new o => .own o
  | .slot i => .bor i
def keyD : D → Option Key
  | .int i => some (.inl i)
  | .str x => some (.inr x)
  | _ => none
theorem keyD_kD {d : D} {k : Key} (h : keyD d = some k) : d = kD k := by
  cases d <;> cases h <;> rfl
def keysT : List D → Option (List Key)
  | [] => some []
  | d :: ds => match keyD d, keysT ds with
    | some k, some ks => some (k :: ks)
    | _, _ => none
def keyT : D → Option (List Key)
  | .tuple ds => keysT ds
  | _ => none
theorem keysT_eq : ∀ {ds : List D} {ks : List Key}, keysT ds = some ks → ds = ks.map kD
  | [], ks, h => by cases h; rfl
  | d :: ds, ks, h => by
    unfold keysT at h
    split at h
    · rename_i k ks' e1 e2
      cases h
      rw [List.map_cons, ← keysT_eq e2, keyD_kD e1]
    · cases h
theorem keyT_eq {d : D} {k : List Key} (h : keyT d = some k) : d = .tuple (k.map kD) := by
  unfold keyT at h
  split at h
  · rw [keysT_eq h]
  · cases h
def pairT : List (List Key) → List D → Option (List (D × D))
  | [], [] => some []
  | k :: ks, a :: b :: ds => if keyT a = some k then (pairT ks ds).map ((a, b) :: ·) else none
  | _, _ => none
def tdD (kvs : List (D × D)) : D := .dict ((.dict [], .none) :: kvs)
def datsT : List Tre → Option (List D)
  | [] => some []
  | .dat d :: ts => (datsT ts).map (d :: ·)
  | .nod _ _ :: _ => none
def flatT : Tre → Option D
  | .dat d => some d
  | .nod .lst ts => (datsT ts).map .list
  | .nod (.dK ks) ts => (datsT ts).map fun ds => .dict ((ks.zip ds).map fun p => (kD p.1, p.2))
  | .nod (.dT ks) ts => (datsT ts).bind fun ds => (pairT ks ds).map tdD
  | _ => none
def MO.frz : MO → Option D
  | .lst xs => some (.list xs)
  | .dK kvs => some (.dict (kvs.map fun p => (kD p.1, p.2)))
  | .dT _ => none
  | .tre k ts => flatT (.nod k ts)
def DpKV (K : PySem.W.Frag) [HasW K] (H : Hp) {κ : Type} : List (κ × V) → List (κ × D) → Prop := Paired fun p q => p.1 = q.1 ∧ Dr K H p.2 q.2
theorem dpkv_mono {κ : Type} {H H' : Hp} (e : Same H H') {ks : List (κ × V)} {kvs : List (κ × D)} (h : DpKV K H ks kvs) : DpKV K H' ks kvs :=
  Paired.mapP h fun _ _ z => ⟨z.1, Same.dp e z.2⟩
theorem dpkv_drk {H : Hp} : ∀ {ks : List (Key × V)} {kvs : List (Key × D)}, DpKV K H ks kvs → DrK K H ks (kvs.map fun p => (kD p.1, p.2))
  | _, _, .nil => .nil
  | (k, v) :: _, (j, d) :: _, .cons ⟨h1, h2⟩ t => by
    cases h1
    exact .cons h2 (dpkv_drk t)
noncomputable def valsO : Option HO → List V
  | some (.lst vs) => vs
  | some (.dK ks) => ks.map (·.2)
  | some (.ext φ) => extV φ
  | some (.ins _ _ fs) => fs.map (·.2)
  | _ => []
def extraO : Option HO → List Addr
  | some (.ins _ dx _) => [dx]
  | _ => []
def NodeOk (K : PySem.W.Frag) [HasW K] (H : Hp) (a : Addr) : NK → Prop
  | .lst => ∃ vs, H a = some (.lst vs)
  | .dK ks => ∃ kvs, H a = some (.dK kvs) ∧ kvs.map (·.1) = ks
  | .dT ks => ∃ o xs, H a = some (.ext (PinX a o)) ∧ (a == sysModules) = false ∧ DTo (HasW.w K) o xs ∧ xs.map (·.1) = ks
  | .ins n fs => ∃ C dx kvs, NmAt K n C ∧ H a = some (.ins C dx kvs) ∧ H dx = some (.own a) ∧ kvs.map (·.1) = fs
mutual
def TR (K : PySem.W.Frag) [HasW K] (Hf H : Hp) : Tre → V → Prop
  | .dat d, v => Dr K Hf v d
  | .nod k ts, v => ∃ a, v = .ref a ∧ NodeOk K H a k ∧ TRs K Hf H ts (valsO (H a))
def TRs (K : PySem.W.Frag) [HasW K] (Hf H : Hp) : List Tre → List V → Prop
  | [], vs => vs = []
  | t :: ts, vs => ∃ v ws, vs = v :: ws ∧ TR K Hf H t v ∧ TRs K Hf H ts ws
end
mutual
noncomputable def foot (H : Hp) : Tre → V → List Addr
  | .dat _, _ => []
  | .nod _ ts, v => match v with
    | .ref a => a :: (extraO (H a) ++ footL H ts (valsO (H a)))
    | _ => []
noncomputable def footL (H : Hp) : List Tre → List V → List Addr
  | [], _ => []
  | t :: ts, vs => match vs with
    | v :: ws => foot H t v ++ footL H ts ws
    | [] => []
end
theorem NodeOk.there {H : Hp} {a : Addr} {k : NK} (h : NodeOk K H a k) : ∃ u, H a = some u ∧ Mut (some u) := by
  cases k with
  | lst => obtain ⟨vs, h⟩ := h; exact ⟨_, h, trivial⟩
  | dK ks => obtain ⟨vs, h, _⟩ := h; exact ⟨_, h, trivial⟩
  | dT ks => obtain ⟨_, _, h, _⟩ := h; exact ⟨_, h, trivial⟩
  | ins n fs => obtain ⟨C, dx, vs, _, h, _⟩ := h; exact ⟨_, h, trivial⟩
theorem NodeOk.ext {H : Hp} {a : Addr} {k : NK} (h : NodeOk K H a k) : ∀ x ∈ extraO (H a), H x = some (.own a) := by
  intro x hx
  cases k with
  | lst => obtain ⟨vs, h⟩ := h; rw [h] at hx; simp [extraO] at hx
  | dK ks => obtain ⟨vs, h, _⟩ := h; rw [h] at hx; simp [extraO] at hx
  | dT ks => obtain ⟨_, _, h, _⟩ := h; rw [h] at hx; simp [extraO] at hx
  | ins n fs =>
    obtain ⟨C, dx, vs, _, h, h2, _⟩ := h
    rw [h] at hx
    simp [extraO] at hx
    subst hx
    exact h2
theorem NodeOk.congr {H H' : Hp} {a : Addr} {k : NK} (h : NodeOk K H a k) (e : H' a = H a) (e2 : ∀ x ∈ extraO (H a), H' x = H x) : NodeOk K H' a k := by
  cases k with
  | lst => obtain ⟨vs, h⟩ := h; exact ⟨vs, e.trans h⟩
  | dK ks => obtain ⟨vs, h, q⟩ := h; exact ⟨vs, e.trans h, q⟩
  | dT ks => obtain ⟨o, vs, h, q⟩ := h; exact ⟨o, vs, e.trans h, q⟩
  | ins n fs =>
    obtain ⟨C, dx, vs, q1, h, h2, q2⟩ := h
    exact ⟨C, dx, vs, q1, e.trans h, (e2 dx (by rw [h]; simp [extraO])).trans h2, q2⟩
mutual
theorem foot_all {Hf H : Hp} : ∀ (t : Tre) (v : V), TR K Hf H t v → ∀ x ∈ foot H t v, ∃ u, H x = some u
  | .dat _, _, _, x, hx => by simp [foot] at hx
  | .nod k ts, v, h, x, hx => by
    rw [TR] at h
    obtain ⟨a, rfl, h1, h2⟩ := h
    rw [foot] at hx
    rcases List.mem_cons.mp hx with e | e
    · subst e
      obtain ⟨u, q, _⟩ := h1.there
      exact ⟨u, q⟩
    · rcases List.mem_append.mp e with e | e
      · exact ⟨_, h1.ext x e⟩
      · exact footL_all ts _ h2 x e
theorem footL_all {Hf H : Hp} : ∀ (ts : List Tre) (vs : List V), TRs K Hf H ts vs → ∀ x ∈ footL H ts vs, ∃ u, H x = some u
  | [], _, _, x, hx => by simp [footL] at hx
  | t :: ts, vs, h, x, hx => by
    rw [TRs] at h
    obtain ⟨v, ws, rfl, h1, h2⟩ := h
    rw [footL] at hx
    rcases List.mem_append.mp hx with e | e
    · exact foot_all t v h1 x e
    · exact footL_all ts ws h2 x e
end
mutual
theorem tr_congr {Hf Hf' H H' : Hp} (e : Same Hf Hf') : ∀ (t : Tre) (v : V), TR K Hf H t v → (∀ x ∈ foot H t v, H' x = H x) → TR K Hf' H' t v ∧ foot H' t v = foot H t v
  | .dat d, v, h, _ => by
    rw [TR] at h
    exact ⟨by rw [TR]; exact Same.dp e h, by rw [foot, foot]⟩
  | .nod k ts, v, h, q => by
    rw [TR] at h
    obtain ⟨a, rfl, h1, h2⟩ := h
    rw [foot] at q
    have ea : H' a = H a := q a (by simp)
    have ee : ∀ x ∈ extraO (H a), H' x = H x := fun x hx => q x (by simp [hx])
    obtain ⟨z1, z2⟩ := trs_congr e ts _ h2 fun x hx => q x (by simp [hx])
    refine ⟨?_, ?_⟩
    · rw [TR]
      exact ⟨a, rfl, h1.congr ea ee, by rw [ea]; exact z1⟩
    · rw [foot, foot]
      rw [ea, z2]
theorem trs_congr {Hf Hf' H H' : Hp} (e : Same Hf Hf') : ∀ (ts : List Tre) (vs : List V), TRs K Hf H ts vs → (∀ x ∈ footL H ts vs, H' x = H x) → TRs K Hf' H' ts vs ∧ footL H' ts vs = footL H ts vs
  | [], vs, h, _ => by
    rw [TRs] at h
    exact ⟨by rw [TRs]; exact h, by rw [footL, footL]⟩
  | t :: ts, vs, h, q => by
    rw [TRs] at h
    obtain ⟨v, ws, rfl, h1, h2⟩ := h
    rw [footL] at q
    obtain ⟨y1, y2⟩ := tr_congr e t v h1 fun x hx => q x (by simp [hx])
    obtain ⟨z1, z2⟩ := trs_congr e ts ws h2 fun x hx => q x (by simp [hx])
    refine ⟨by rw [TRs]; exact ⟨v, ws, rfl, y1, z1⟩, ?_⟩
    rw [footL, footL]
    rw [y2, z2]
end
noncomputable def mf (H : Hp) (a : Addr) : MO → List Addr
  | .tre k ts => foot H (.nod k ts) (.ref a)
  | _ => [a]
def OR (K : PySem.W.Frag) [HasW K] (Hf H : Hp) (a : Addr) : MO → Prop
  | .lst xs => ∃ vs, H a = some (.lst vs) ∧ DrA K Hf vs xs
  | .dK kvs => ∃ ks, H a = some (.dK ks) ∧ DpKV K Hf ks kvs
  | .dT _ => False
  | .tre k ts => TR K Hf H (.nod k ts) (.ref a) ∧ (foot H (.nod k ts) (.ref a)).Nodup ∧ ∀ x ∈ foot H (.nod k ts) (.ref a), Hf x = none
theorem OR.there {Hf H : Hp} {a : Addr} {o : MO} (h : OR K Hf H a o) : ∃ u, H a = some u ∧ Mut (some u) := by
  cases o with
  | lst xs => obtain ⟨vs, h, _⟩ := h; exact ⟨_, h, trivial⟩
  | dK kvs => obtain ⟨vs, h, _⟩ := h; exact ⟨_, h, trivial⟩
  | dT kvs => exact h.elim
  | tre k ts =>
    have h1 := h.1
    rw [TR] at h1
    obtain ⟨b, e, h1, _⟩ := h1
    cases e
    exact h1.there
theorem mf_self {H : Hp} {a : Addr} {o : MO} : a ∈ mf H a o := by
  cases o with
  | tre k ts => show a ∈ foot H (.nod k ts) (.ref a); rw [foot]; simp
  | _ => exact List.mem_singleton.mpr rfl
theorem OR.all {Hf H : Hp} {a : Addr} {o : MO} (h : OR K Hf H a o) : ∀ x ∈ mf H a o, ∃ u, H x = some u := by
  cases o with
  | tre k ts => exact foot_all _ _ h.1
  | lst xs => intro x hx; obtain ⟨u, q, _⟩ := h.there; rw [List.mem_singleton.mp hx]; exact ⟨u, q⟩
  | dK xs => intro x hx; obtain ⟨u, q, _⟩ := h.there; rw [List.mem_singleton.mp hx]; exact ⟨u, q⟩
  | dT xs => intro x hx; obtain ⟨u, q, _⟩ := h.there; rw [List.mem_singleton.mp hx]; exact ⟨u, q⟩
theorem nt_of {H : Hp} {a : Addr} {u : HO} (q : H a = some u) (m : Mut (some u)) (ps : Array Value) : H a ≠ some (.tbl ps) := fun z => by
  rw [q] at z
  cases z
  exact m
mutual
theorem foot_nt {Hf H : Hp} : ∀ (t : Tre) (v : V), TR K Hf H t v → ∀ x ∈ foot H t v, ∀ ps, H x ≠ some (.tbl ps)
  | .dat _, _, _, x, hx => by simp [foot] at hx
  | .nod k ts, v, h, x, hx => by
    rw [TR] at h
    obtain ⟨a, rfl, h1, h2⟩ := h
    rw [foot] at hx
    rcases List.mem_cons.mp hx with e | e
    · subst e
      obtain ⟨u, q, m⟩ := h1.there
      exact nt_of q m
    · rcases List.mem_append.mp e with e | e
      · intro ps z
        rw [h1.ext x e] at z
        cases z
      · exact footL_nt ts _ h2 x e
theorem footL_nt {Hf H : Hp} : ∀ (ts : List Tre) (vs : List V), TRs K Hf H ts vs → ∀ x ∈ footL H ts vs, ∀ ps, H x ≠ some (.tbl ps)
  | [], _, _, x, hx => by simp [footL] at hx
  | t :: ts, vs, h, x, hx => by
    rw [TRs] at h
    obtain ⟨v, ws, rfl, h1, h2⟩ := h
    rw [footL] at hx
    rcases List.mem_append.mp hx with e | e
    · exact foot_nt t v h1 x e
    · exact footL_nt ts ws h2 x e
end
theorem OR.noTbl {Hf H : Hp} {a : Addr} {o : MO} (h : OR K Hf H a o) : ∀ x ∈ mf H a o, ∀ ps, H x ≠ some (.tbl ps) := by
  cases o with
  | tre k ts => exact foot_nt _ _ h.1
  | lst xs => intro x hx; obtain ⟨u, q, m⟩ := h.there; rw [List.mem_singleton.mp hx]; exact nt_of q m
  | dK xs => intro x hx; obtain ⟨u, q, m⟩ := h.there; rw [List.mem_singleton.mp hx]; exact nt_of q m
  | dT xs => intro x hx; obtain ⟨u, q, m⟩ := h.there; rw [List.mem_singleton.mp hx]; exact nt_of q m
theorem OR.free {Hf H : Hp} {a : Addr} {o : MO} (h : OR K Hf H a o) (ha : Hf a = none) : ∀ x ∈ mf H a o, Hf x = none := by
  cases o with
  | tre k ts => exact h.2.2
  | lst xs => intro x hx; rw [List.mem_singleton.mp hx]; exact ha
  | dK xs => intro x hx; rw [List.mem_singleton.mp hx]; exact ha
  | dT xs => intro x hx; rw [List.mem_singleton.mp hx]; exact ha
theorem OR.congr {Hf Hf' H H' : Hp} {a : Addr} {o : MO} (h : OR K Hf H a o) (e : Same Hf Hf') (k : ∀ x ∈ mf H a o, H' x = H x) (f : ∀ x ∈ mf H a o, Hf' x = none) : OR K Hf' H' a o ∧ mf H' a o = mf H a o := by
  cases o with
  | lst xs => obtain ⟨vs, h, q⟩ := h; exact ⟨⟨vs, (k a (List.mem_singleton.mpr rfl)).trans h, Same.dpa e q⟩, rfl⟩
  | dK kvs => obtain ⟨vs, h, q⟩ := h; exact ⟨⟨vs, (k a (List.mem_singleton.mpr rfl)).trans h, dpkv_mono e q⟩, rfl⟩
  | dT kvs => exact h.elim
  | tre kk ts =>
    obtain ⟨h1, h2, h3⟩ := h
    obtain ⟨z1, z2⟩ := tr_congr e _ _ h1 k
    refine ⟨⟨z1, by rw [z2]; exact h2, fun x hx => f x (by rw [z2] at hx; exact hx)⟩, z2⟩
theorem datsT_ok {Hf H : Hp} : ∀ {ts : List Tre} {vs : List V} {ds : List D}, TRs K Hf H ts vs → datsT ts = some ds → DrA K Hf vs ds
  | [], vs, ds, h, e => by
    rw [TRs] at h
    subst h
    cases e
    exact .nil
  | .dat d :: ts, vs, ds, h, e => by
    rw [TRs] at h
    obtain ⟨v, ws, rfl, h1, h2⟩ := h
    unfold datsT at e
    cases q : datsT ts with
    | none => rw [q] at e; cases e
    | some ds' =>
      rw [q] at e
      cases e
      rw [TR] at h1
      exact .cons h1 (datsT_ok h2 q)
  | .nod _ _ :: _, _, _, _, e => by cases e
theorem datsT_foot {H : Hp} : ∀ {ts : List Tre} {vs : List V} {ds : List D}, datsT ts = some ds → footL H ts vs = []
  | [], vs, ds, e => by rw [footL]
  | .dat d :: ts, [], ds, e => by rw [footL]
  | .dat d :: ts, v :: vs, ds, e => by
    unfold datsT at e
    cases q : datsT ts with
    | none => rw [q] at e; cases e
    | some ds' => rw [footL, foot, datsT_foot q]; rfl
  | .nod _ _ :: _, _, _, e => by cases e
theorem drk_zip {Hf : Hp} : ∀ {kvs : List (Key × V)} {ds : List D}, DrA K Hf (kvs.map (·.2)) ds → DrK K Hf kvs (((kvs.map (·.1)).zip ds).map fun p => (kD p.1, p.2))
  | [], _, h => by cases h; exact .nil
  | (k, v) :: r, _, h => by
    cases h with
    | cons h1 h2 => exact .cons h1 (drk_zip h2)
theorem dra_keyV {H : Hp} : ∀ {k : List Key} {vs : List V}, DrA K H vs (k.map kD) → vs = k.map kV
  | [], _, h => by cases h; rfl
  | k :: ks, _, h => by
    rw [List.map_cons] at h
    cases h with
    | cons h1 h2 =>
      rw [List.map_cons, ← dra_keyV h2]
      cases k <;> (cases h1; rfl)
theorem dra_keyD {H : Hp} : ∀ (k : List Key), DrA K H (k.map kV) (k.map kD)
  | [] => .nil
  | k :: ks => by
    rw [List.map_cons, List.map_cons]
    refine .cons ?_ (dra_keyD ks)
    cases k with
    | inl i => exact .int i
    | inr x => exact .str x
theorem key_dr {Hf : Hp} {p : Addr} {d : D} {k : List Key} (h : Dr K Hf (.ref p) d) (e : keyT d = some k) : SqN K Hf p (k.map kV) := by
  have := keyT_eq e
  subst this
  cases h with
  | tup h1 h2 => rw [dra_keyV h2] at h1; exact h1
theorem drt_of {Hf : Hp} : ∀ {xs : List (List Key × Addr × V)} {ds : List D} {kvs : List (D × D)}, DrA K Hf (kidsX xs) ds → pairT (xs.map (·.1)) ds = some kvs → DrT K Hf xs kvs
  | [], ds, kvs, h, e => by
    cases h
    cases e
    exact .nil
  | (k, p, v) :: xs, ds, kvs, h, e => by
    have h : DrA K Hf (V.ref p :: v :: kidsX xs) ds := h
    cases h with
    | @cons _ _ a _ h1 h2 =>
      cases h2 with
      | @cons _ _ b ds' h3 h4 =>
        rw [List.map_cons, pairT] at e
        split at e
        · rename_i ek
          cases q : pairT (xs.map (·.1)) ds' with
          | none => rw [q] at e; cases e
          | some r =>
            rw [q] at e
            cases e
            have := keyT_eq ek
            subst this
            exact .cons (key_dr h1 ek) h3 (drt_of h4 q)
        · cases e
theorem valsO_x {w : World} {a : Addr} {o : Obj} {xs : List (List Key × Addr × V)} (h : DTo w o xs) : valsO (some (.ext (PinX a o))) = kidsX xs := extV_eq h
theorem flat_dr {Hf H : Hp} {a : Addr} {kk : NK} {ts : List Tre} {d : D} (h : TR K Hf H (.nod kk ts) (.ref a)) (e : flatT (.nod kk ts) = some d) : foot H (.nod kk ts) (.ref a) = [a] ∧ ∃ u, H a = some u ∧ ∀ Hf', Same Hf Hf' → Hf' a = some u → Dr K Hf' (.ref a) d := by
  rw [TR] at h
  obtain ⟨b, eb, nk, h2⟩ := h
  cases eb
  cases kk with
  | lst =>
    obtain ⟨vs, q1⟩ := nk
    have ev : valsO (H a) = vs := by rw [q1]; rfl
    have e : (datsT ts).map PyData.list = some d := e
    cases q : datsT ts with
    | none => rw [q] at e; cases e
    | some ds =>
      rw [q] at e
      cases e
      refine ⟨by rw [foot, datsT_foot q, q1]; rfl, _, q1, fun Hf' g1 g2 => ?_⟩
      rw [ev] at h2
      exact .lst (.inl g2) (Same.dpa g1 (datsT_ok h2 q))
  | dK ks =>
    obtain ⟨kvs, q1, q2⟩ := nk
    have ev : valsO (H a) = kvs.map (·.2) := by rw [q1]; rfl
    have e : (datsT ts).map (fun ds => PyData.dict ((ks.zip ds).map fun p => (kD p.1, p.2))) = some d := e
    cases q : datsT ts with
    | none => rw [q] at e; cases e
    | some ds =>
      rw [q] at e
      cases e
      refine ⟨by rw [foot, datsT_foot q, q1]; rfl, _, q1, fun Hf' g1 g2 => ?_⟩
      rw [ev] at h2
      rw [← q2]
      exact .dct (.inl g2) (drk_zip (Same.dpa g1 (datsT_ok h2 q)))
  | dT ks =>
    obtain ⟨o, xs, q1, q2, q3, q4⟩ := nk
    have ev : valsO (H a) = kidsX xs := by rw [q1]; exact valsO_x q3
    have e : ((datsT ts).bind fun ds => (pairT ks ds).map tdD) = some d := e
    cases q : datsT ts with
    | none => rw [q] at e; cases e
    | some ds =>
      rw [q] at e
      have e : (pairT ks ds).map tdD = some d := e
      cases q5 : pairT ks ds with
      | none => rw [q5] at e; cases e
      | some kvs =>
        rw [q5] at e
        cases e
        refine ⟨by rw [foot, datsT_foot q, q1]; rfl, _, q1, fun Hf' g1 g2 => ?_⟩
        rw [ev] at h2
        rw [← q4] at q5
        exact .dcT q2 g2 q3 (drt_of (Same.dpa g1 (datsT_ok h2 q)) q5)
  | ins _ _ => cases e
def CR (K : PySem.W.Frag) [HasW K] (Hf H : Hp) (L : L2.St) (x : Option V) : Sl → Prop
  | .un => True
  | .dat d => ∃ v, x = some v ∧ Dr K Hf v d
  | .own o => ∃ a, x = some (.ref a) ∧ Hf a = none ∧ OR K Hf H a o
  | .io o => ∃ a, x = some (.ref a) ∧ Hf a = none ∧ OR K Hf H a o
  | .bor i => ∃ v, x = some v ∧ L[i]? = some (some v)
  | .fn a => x = some (.ref a)
def Sl.obj : Sl → Option MO
  | .own o => some o
  | .io o => some o
  | _ => none
def Sl.with_ : Sl → MO → Sl
  | .own _, o => .own o
  | .io _, o => .io o
  | s, _ => s
theorem CR.obj {Hf H : Hp} {L : L2.St} {x : Option V} {s : Sl} {o : MO} (h : CR K Hf H L x s) (e : s.obj = some o) : ∃ a, x = some (.ref a) ∧ Hf a = none ∧ OR K Hf H a o := by
  cases s <;> cases e <;> exact h
structure Bs where
  Hf : Hp
  H : Hp
  io : List (Nat × Addr × List Addr)
  n : Nat
  tb : List (Addr × Str)
def TabF (Hf H : Hp) (p : Addr × Str) : Prop := Hf p.1 = none ∧ ∃ ps : Array Value, H p.1 = some (.tbl ps) ∧ TriplesOk ps.toList ∧ ∀ (pos : Pos) (cv : Value), codeAmong pos ps.toList = some cv → ∃ c, cv = .ref c ∧ Hf c = some (LamX.CodeO c p.2)
theorem TabF.mono {Hf H Hf' H' : Hp} {p : Addr × Str} (t : TabF Hf H p) (ff : Same Hf Hf') (fn : ∀ u, Hf' p.1 = some u → Hf p.1 = some u ∨ H p.1 = none) (hh : ∀ ps, H p.1 = some (.tbl ps) → H' p.1 = some (.tbl ps)) : TabF Hf' H' p := by
  obtain ⟨h0, ps, h1, h2, h3⟩ := t
  refine ⟨?_, ps, hh _ h1, h2, fun pos cv hc => ?_⟩
  · cases e : Hf' p.1 with
    | none => rfl
    | some u =>
      rcases fn u e with q | q
      · rw [h0] at q; cases q
      · rw [h1] at q; cases q
  · obtain ⟨c, e1, e2⟩ := h3 pos cv hc
    exact ⟨c, e1, ff _ _ e2⟩
abbrev Bs.ad (B : Bs) : List Addr := (B.io.map (·.2.2)).flatten
theorem Bs.ad_mem {B : Bs} {i : Nat} {a : Addr} {F : List Addr} (h : (i, a, F) ∈ B.io) : ∀ x ∈ F, x ∈ B.ad := fun x hx => List.mem_flatten.mpr ⟨F, List.mem_map.mpr ⟨_, h, rfl⟩, hx⟩
structure Sta (B : Bs) (K : PySem.W.Frag) [HasW K] (Hf H : Hp) (L : L2.St) (M : En) : Prop where
  len : L.length = M.length
  nl : B.n ≤ L.length
  cell : ∀ (i : Nat) x s, L[i]? = some x → M[i]? = some s → CR K Hf H L x s
  dj : ∀ (i j : Nat) a b s t o u, i ≠ j → L[i]? = some (some (.ref a)) → L[j]? = some (some (.ref b)) → M[i]? = some s → M[j]? = some t → s.obj = some o → t.obj = some u → ∀ x ∈ mf H a o, x ∉ mf H b u
  ff : Same B.Hf Hf
  fh : Same Hf H
  fn : ∀ a o, Hf a = some o → B.Hf a = some o ∨ B.H a = none
  bk : ∀ a o, B.H a = some o → a ∉ B.ad → H a = some o
  ow : ∀ (i : Nat) a o, L[i]? = some (some (.ref a)) → M[i]? = some (.own o) → ∀ x ∈ mf H a o, B.H x = none
  iw : ∀ (i : Nat) a o, L[i]? = some (some (.ref a)) → M[i]? = some (.io o) → ∃ F, (i, a, F) ∈ B.io ∧ ∀ x ∈ mf H a o, x ∈ F ∨ B.H x = none
  ip : ∀ a, a ∈ B.ad → ∃ o, H a = some o
  bo : ∀ (k i : Nat), M[k]? = some (.bor i) → i < B.n ∧ B.n ≤ k ∧ M[i]? ≠ some .un
  tb : ∀ p ∈ B.tb, p.1 ∈ B.ad ∧ TabF Hf H p
section
variable {B : Bs} {Hf Hf' H H' : Hp} {L L' : L2.St} {M M' : En}
theorem CR.mono {x : Option V} {s : Sl} (h : CR K Hf H L x s) (e : Same Hf Hf') (k : ∀ a o, x = some (.ref a) → s.obj = some o → ∀ y ∈ mf H a o, H' y = H y) (f : ∀ a o, x = some (.ref a) → s.obj = some o → ∀ y ∈ mf H a o, Hf' y = none) : CR K Hf' H' L x s := by
  cases s with
  | un => trivial
  | dat d => obtain ⟨v, h1, h2⟩ := h; exact ⟨v, h1, Same.dp e h2⟩
  | own o => obtain ⟨a, h1, _, h3⟩ := h; exact ⟨a, h1, f a o h1 rfl a mf_self, (h3.congr e (k a o h1 rfl) (f a o h1 rfl)).1⟩
  | io o => obtain ⟨a, h1, _, h3⟩ := h; exact ⟨a, h1, f a o h1 rfl a mf_self, (h3.congr e (k a o h1 rfl) (f a o h1 rfl)).1⟩
  | bor i => exact h
  | fn _ => exact h
structure Gw (Hf H Hf' H' : Hp) : Prop where
  hh : Same H H'
  ff : Same Hf Hf'
  fh : Same Hf' H'
  fn : ∀ a o, Hf' a = some o → Hf a = some o ∨ H a = none
theorem Gw.refl (e : Same Hf H) : Gw Hf H Hf H := ⟨fun _ _ h => h, fun _ _ h => h, e, fun _ _ h => .inl h⟩
theorem Gw.trans {Hf2 H2 : Hp} (a : Gw Hf H Hf' H') (b : Gw Hf' H' Hf2 H2) : Gw Hf H Hf2 H2 :=
  ⟨a.hh.trans b.hh, a.ff.trans b.ff, b.fh, fun c o h => by
    rcases b.fn c o h with q | q
    · exact a.fn c o q
    · right
      cases e : H c with
      | none => rfl
      | some u => rw [a.hh c u e] at q; cases q⟩
theorem Gw.fresh (e : Same Hf H) {p : Addr} {o : HO} (h : H p = none) : Gw Hf H (upd Hf p o) (upd H p o) :=
  ⟨fun b u q => by rw [upd_ne (ne_of_none q h)]; exact q, fun b u q => by rw [upd_ne (ne_of_none (e b u q) h)]; exact q,
   fun b u q => by
    by_cases hb : b = p
    · subst hb; rw [upd_same] at q ⊢; exact q
    · rw [upd_ne hb] at q ⊢; exact e b u q,
   fun b u q => by
    by_cases hb : b = p
    · subst hb; exact .inr h
    · rw [upd_ne hb] at q; exact .inl q⟩
theorem Gw.made (e : Same Hf H) {p : Addr} {o : HO} (h : H p = none) : Gw Hf H Hf (upd H p o) :=
  ⟨fun b u q => by rw [upd_ne (ne_of_none q h)]; exact q, fun b u q => q, fun b u q => by rw [upd_ne (ne_of_none (e b u q) h)]; exact e b u q, fun b u q => .inl q⟩
theorem Sta.mf_grow (S : Sta B K Hf H L M) (g : Gw Hf H Hf' H') {i : Nat} {a : Addr} {s : Sl} {o : MO} (h1 : L[i]? = some (some (.ref a))) (h2 : M[i]? = some s) (h3 : s.obj = some o) : mf H' a o = mf H a o := by
  obtain ⟨b, e1, e2, e3⟩ := (S.cell i _ s h1 h2).obj h3
  cases e1
  refine (e3.congr (Same.refl Hf) (fun x hx => ?_) (e3.free e2)).2
  obtain ⟨u, e4⟩ := e3.all x hx
  rw [e4, g.hh x u e4]
theorem Sta.grow (S : Sta B K Hf H L M) (g : Gw Hf H Hf' H') : Sta B K Hf' H' L M where
  len := S.len
  nl := S.nl
  cell := fun i x s hx hs => by
    refine (S.cell i x s hx hs).mono g.ff (fun a o h1 h2 y hy => ?_) fun a o h1 h2 y hy => ?_
    · obtain ⟨b, e1, e2, e3⟩ := (S.cell i x s hx hs).obj h2
      rw [h1] at e1
      cases e1
      obtain ⟨u, e4⟩ := e3.all y hy
      rw [e4, g.hh y u e4]
    · obtain ⟨b, e1, e2, e3⟩ := (S.cell i x s hx hs).obj h2
      rw [h1] at e1
      cases e1
      obtain ⟨u, e4⟩ := e3.all y hy
      have e5 := e3.free e2 y hy
      cases q : Hf' y with
      | none => rfl
      | some w =>
        rcases g.fn y w q with z | z
        · rw [e5] at z; cases z
        · rw [e4] at z; cases z
  dj := fun i j a b s t o u hij h1 h2 h3 h4 h5 h6 x hx hy => by
    rw [S.mf_grow g h1 h3 h5] at hx
    rw [S.mf_grow g h2 h4 h6] at hy
    exact S.dj i j a b s t o u hij h1 h2 h3 h4 h5 h6 x hx hy
  ff := S.ff.trans g.ff
  fh := g.fh
  fn := fun a o h => by
    rcases g.fn a o h with q | q
    · exact S.fn a o q
    · by_cases ha : a ∈ B.ad
      · obtain ⟨u, e⟩ := S.ip a ha
        rw [e] at q; cases q
      · right
        cases e : B.H a with
        | none => rfl
        | some u => rw [S.bk a u e ha] at q; cases q
  bk := fun a o h1 h2 => g.hh a o (S.bk a o h1 h2)
  ow := fun i a o h1 h2 x hx => by
    rw [S.mf_grow g h1 h2 rfl] at hx
    exact S.ow i a o h1 h2 x hx
  iw := fun i a o h1 h2 => by
    rw [S.mf_grow g h1 h2 rfl]
    exact S.iw i a o h1 h2
  ip := fun a ha => let ⟨u, e⟩ := S.ip a ha; ⟨u, g.hh a u e⟩
  tb := fun p hp => ⟨(S.tb p hp).1, (S.tb p hp).2.mono g.ff (g.fn p.1) fun ps e => g.hh _ _ e⟩
  bo := S.bo
theorem Sta.sub (S : Sta B K Hf H L M) (φ : Nat → Nat) (len : L'.length = M'.length) (nl : B.n ≤ L'.length)
    (h : ∀ (i : Nat) x s, L'[i]? = some x → M'[i]? = some s → s = .un ∨ (∃ d v, s = .dat d ∧ x = some v ∧ Dr K Hf v d) ∨ (L[φ i]? = some x ∧ M[φ i]? = some s ∧ (∀ b, s = .bor b → L'[b]? = L[b]? ∧ B.n ≤ i ∧ M'[b]? ≠ some .un) ∧ (∀ o, s = .io o → φ i = i)))
    (inj : ∀ (i j : Nat) s t o u, M'[i]? = some s → M'[j]? = some t → s.obj = some o → t.obj = some u → φ i = φ j → i = j) : Sta B K Hf H L' M' where
  len := len
  nl := nl
  cell := fun i x s hx hs => by
    rcases h i x s hx hs with e | ⟨d, v, e1, e2, e3⟩ | ⟨e1, e2, e3⟩
    · subst e; trivial
    · subst e1; exact ⟨v, e2, e3⟩
    · have c := S.cell _ x s e1 e2
      cases s with
      | fn _ => exact c
      | bor b =>
        obtain ⟨v, c1, c2⟩ := c
        exact ⟨v, c1, by rw [(e3.1 b rfl).1]; exact c2⟩
      | un => trivial
      | dat d => exact c
      | own o => exact c
      | io o => exact c
  dj := fun i j a b s t o u hij h1 h2 h3 h4 h5 h6 => by
    have q1 : L[φ i]? = some (some (.ref a)) ∧ M[φ i]? = some s := by
      rcases h i _ s h1 h3 with e | ⟨d, v, e1, e2, e3⟩ | ⟨e1, e2, e3⟩
      · subst e; cases h5
      · subst e1; cases h5
      · exact ⟨e1, e2⟩
    have q2 : L[φ j]? = some (some (.ref b)) ∧ M[φ j]? = some t := by
      rcases h j _ t h2 h4 with e | ⟨d, v, e1, e2, e3⟩ | ⟨e1, e2, e3⟩
      · subst e; cases h6
      · subst e1; cases h6
      · exact ⟨e1, e2⟩
    exact S.dj _ _ a b s t o u (fun z => hij (inj i j s t o u h3 h4 h5 h6 z)) q1.1 q2.1 q1.2 q2.2 h5 h6
  ff := S.ff
  fh := S.fh
  fn := S.fn
  bk := S.bk
  ow := fun i a o h1 h2 => by
    rcases h i _ _ h1 h2 with e | ⟨d, v, e1, e2, e3⟩ | ⟨e1, e2, e3⟩
    · cases e
    · cases e1
    · exact S.ow _ a o e1 e2
  iw := fun i a o h1 h2 => by
    rcases h i _ _ h1 h2 with e | ⟨d, v, e1, e2, e3⟩ | ⟨e1, e2, e3⟩
    · cases e
    · cases e1
    · have q := S.iw _ a o e1 e2
      rw [e3.2 o rfl] at q
      exact q
  ip := S.ip
  tb := S.tb
  bo := fun k i e => by
    have hk : k < L'.length := by
      rw [len]
      exact (List.getElem?_eq_some_iff.mp e).1
    rcases h k _ _ (List.getElem?_eq_getElem hk) e with q | ⟨d, v, e1, e2, e3⟩ | ⟨e1, e2, e3⟩
    · cases q
    · cases e1
    · exact ⟨(S.bo _ _ e2).1, (e3.1 i rfl).2.1, (e3.1 i rfl).2.2⟩
theorem Sta.lt (S : Sta B K Hf H L M) {i : Nat} {s : Sl} (h : M[i]? = some s) : ∃ x, L[i]? = some x ∧ CR K Hf H L x s := by
  have hi : i < L.length := by
    rw [S.len]
    exact (List.getElem?_eq_some_iff.mp h).1
  exact ⟨_, List.getElem?_eq_getElem hi, S.cell i _ s (List.getElem?_eq_getElem hi) h⟩
theorem get_app {α : Type} {xs : List α} {x y : α} {i : Nat} (h : (xs ++ [x])[i]? = some y) : (xs[i]? = some y ∧ i < xs.length) ∨ (i = xs.length ∧ y = x) := by
  by_cases hi : i < xs.length
  · rw [List.getElem?_append_left hi] at h
    exact .inl ⟨h, hi⟩
  · rw [List.getElem?_append_right (by omega)] at h
    by_cases e : i = xs.length
    · subst e
      simp at h
      exact .inr ⟨rfl, h.symm⟩
    · have : i - xs.length ≠ 0 := by omega
      cases q : i - xs.length with
      | zero => exact absurd q this
      | succ m => rw [q] at h; simp at h
theorem Sta.pop (S : Sta B K Hf H (L ++ [x]) (M ++ [s])) (hl : L.length = M.length) (nl : B.n ≤ L.length) : Sta B K Hf H L M := by
  refine S.sub id hl nl (fun i y t h1 h2 => .inr (.inr ?_)) fun i j _ _ _ _ _ _ _ _ e => e
  have hi := (List.getElem?_eq_some_iff.mp h1).1
  have h2' : (M ++ [s])[i]? = some t := by rw [List.getElem?_append_left (by omega)]; exact h2
  refine ⟨by show (L ++ [x])[i]? = _; rw [List.getElem?_append_left hi]; exact h1, h2', fun b e => ?_, fun _ _ => rfl⟩
  subst e
  obtain ⟨b1, b2, b3⟩ := S.bo i b h2'
  refine ⟨by rw [List.getElem?_append_left (by omega)], b2, fun z => b3 ?_⟩
  rw [List.getElem?_append_left (by omega)]
  exact z
theorem Sta.pushD (S : Sta B K Hf H L M) {v : V} {d : D} (h : Dr K Hf v d) : Sta B K Hf H (L ++ [some v]) (M ++ [.dat d]) := by
  refine S.sub id (by rw [List.length_append, List.length_append, S.len]; rfl) (by rw [List.length_append]; have := S.nl; omega) (fun i y t h1 h2 => ?_) fun i j _ _ _ _ _ _ _ _ e => e
  rcases get_app h1 with ⟨e1, e2⟩ | ⟨e1, e2⟩
  · rw [List.getElem?_append_left (by rw [← S.len]; exact e2)] at h2
    refine .inr (.inr ⟨e1, h2, fun b e => ?_, fun _ _ => rfl⟩)
    subst e
    obtain ⟨b1, b2, b3⟩ := S.bo i b h2
    refine ⟨by rw [List.getElem?_append_left (by have := S.nl; omega)], b2, fun z => b3 ?_⟩
    rw [List.getElem?_append_left (by rw [← S.len]; have := S.nl; omega)] at z
    exact z
  · subst e1
    rw [S.len] at h2
    simp at h2
    exact .inr (.inl ⟨d, v, h2.symm, e2, h⟩)
theorem Sta.pushB (S : Sta B K Hf H L M) {v : V} {i : Nat} {s : Sl} (hi : i < B.n) (h : L[i]? = some (some v)) (hs : M[i]? = some s) (hn : s ≠ .un) : Sta B K Hf H (L ++ [some v]) (M ++ [.bor i]) := by
  have nl := S.nl
  have len := S.len
  have old : ∀ (k : Nat) x t, (L ++ [some v])[k]? = some x → (M ++ [Sl.bor i])[k]? = some t → (L[k]? = some x ∧ M[k]? = some t) ∨ (k = L.length ∧ x = some v ∧ t = .bor i) := fun k x t h1 h2 => by
    rcases get_app h1 with ⟨e1, e2⟩ | ⟨e1, e2⟩
    · rw [List.getElem?_append_left (by omega)] at h2
      exact .inl ⟨e1, h2⟩
    · subst e1
      rw [len] at h2
      simp at h2
      exact .inr ⟨rfl, e2, h2.symm⟩
  exact {
    len := by simp [len]
    nl := by simp; omega
    cell := fun k x t h1 h2 => by
      rcases old k x t h1 h2 with ⟨e1, e2⟩ | ⟨e1, e2, e3⟩
      · have c := S.cell k x t e1 e2
        cases t with
        | fn _ => exact c
        | bor b =>
          obtain ⟨w, c1, c2⟩ := c
          exact ⟨w, c1, by rw [List.getElem?_append_left (List.getElem?_eq_some_iff.mp c2).1]; exact c2⟩
        | un => trivial
        | dat d => exact c
        | own o => exact c
        | io o => exact c
      · subst e3
        exact ⟨v, e2, by rw [List.getElem?_append_left (by omega)]; exact h⟩
    dj := fun k j a b s t o u hij h1 h2 h3 h4 h5 h6 => by
      rcases old k _ s h1 h3 with ⟨e1, e2⟩ | ⟨e1, e2, e3⟩
      · rcases old j _ t h2 h4 with ⟨f1, f2⟩ | ⟨f1, f2, f3⟩
        · exact S.dj k j a b s t o u hij e1 f1 e2 f2 h5 h6
        · subst f3; cases h6
      · subst e3; cases h5
    ff := S.ff
    fh := S.fh
    fn := S.fn
    bk := S.bk
    ow := fun k a o h1 h2 => by
      rcases old k _ _ h1 h2 with ⟨e1, e2⟩ | ⟨e1, e2, e3⟩
      · exact S.ow k a o e1 e2
      · cases e3
    iw := fun k a o h1 h2 => by
      rcases old k _ _ h1 h2 with ⟨e1, e2⟩ | ⟨e1, e2, e3⟩
      · exact S.iw k a o e1 e2
      · cases e3
    ip := S.ip
    tb := S.tb
    bo := fun k b e => by
      rcases get_app e with ⟨e1, e2⟩ | ⟨e1, e2⟩
      · obtain ⟨b1, b2, b3⟩ := S.bo k b e1
        refine ⟨b1, b2, fun z => b3 ?_⟩
        rw [List.getElem?_append_left (by omega)] at z
        exact z
      · cases e2
        refine ⟨hi, by omega, fun z => hn ?_⟩
        rw [List.getElem?_append_left (by omega), hs] at z
        exact Option.some.inj z }
theorem Sta.pushO (S' : Sta B K Hf H L M) {p : Addr} {o : MO} (hf : Hf p = none) (ho : OR K Hf H p o) (far : ∀ (k : Nat) a s u, L[k]? = some (some (.ref a)) → M[k]? = some s → s.obj = some u → ∀ x ∈ mf H a u, x ∉ mf H p o) (hB : ∀ x ∈ mf H p o, B.H x = none) : Sta B K Hf H (L ++ [some (.ref p)]) (M ++ [.own o]) := by
  have nl := S'.nl
  have len := S'.len
  have old : ∀ (k : Nat) x t, (L ++ [some (V.ref p)])[k]? = some x → (M ++ [Sl.own o])[k]? = some t → (L[k]? = some x ∧ M[k]? = some t) ∨ (k = L.length ∧ x = some (.ref p) ∧ t = .own o) := fun k x t h1 h2 => by
    rcases get_app h1 with ⟨e1, e2⟩ | ⟨e1, e2⟩
    · rw [List.getElem?_append_left (by omega)] at h2
      exact .inl ⟨e1, h2⟩
    · subst e1
      rw [len] at h2
      simp at h2
      exact .inr ⟨rfl, e2, h2.symm⟩
  exact {
    len := by simp [len]
    nl := by simp; omega
    cell := fun k x t h1 h2 => by
      rcases old k x t h1 h2 with ⟨e1, e2⟩ | ⟨e1, e2, e3⟩
      · have c := S'.cell k x t e1 e2
        cases t with
        | fn _ => exact c
        | bor b =>
          obtain ⟨w, c1, c2⟩ := c
          exact ⟨w, c1, by rw [List.getElem?_append_left (List.getElem?_eq_some_iff.mp c2).1]; exact c2⟩
        | un => trivial
        | dat d => exact c
        | own o => exact c
        | io o => exact c
      · subst e3
        exact ⟨p, e2, hf, ho⟩
    dj := fun k j a b s t o2 u hij h1 h2 h3 h4 h5 h6 x hx hy => by
      rcases old k _ s h1 h3 with ⟨e1, e2⟩ | ⟨e1, e2, e3⟩
      · rcases old j _ t h2 h4 with ⟨f1, f2⟩ | ⟨f1, f2, f3⟩
        · exact S'.dj k j a b s t o2 u hij e1 f1 e2 f2 h5 h6 x hx hy
        · cases f2
          subst f3
          cases h6
          exact far k a s _ e1 e2 h5 x hx hy
      · rcases old j _ t h2 h4 with ⟨f1, f2⟩ | ⟨f1, f2, f3⟩
        · cases e2
          subst e3
          cases h5
          exact far j b t _ f1 f2 h6 x hy hx
        · exact hij (e1.trans f1.symm)
    ff := S'.ff
    fh := S'.fh
    fn := S'.fn
    bk := S'.bk
    ow := fun k a o h1 h2 => by
      rcases old k _ _ h1 h2 with ⟨e1, e2⟩ | ⟨e1, e2, e3⟩
      · exact S'.ow k a o e1 e2
      · cases e2
        cases e3
        exact hB
    iw := fun k a o h1 h2 => by
      rcases old k _ _ h1 h2 with ⟨e1, e2⟩ | ⟨e1, e2, e3⟩
      · exact S'.iw k a o e1 e2
      · cases e3
    ip := S'.ip
    tb := S'.tb
    bo := fun k b e => by
      rcases get_app e with ⟨e1, e2⟩ | ⟨e1, e2⟩
      · obtain ⟨b1, b2, b3⟩ := S'.bo k b e1
        refine ⟨b1, b2, fun z => b3 ?_⟩
        rw [List.getElem?_append_left (by omega)] at z
        exact z
      · cases e2 }
theorem Sta.fresh0 (S : Sta B K Hf H L M) {p : Addr} (hp : H p = none) : B.H p = none := by
  by_cases ha : p ∈ B.ad
  · obtain ⟨u, e⟩ := S.ip p ha
    rw [hp] at e; cases e
  · cases e : B.H p with
    | none => rfl
    | some u => rw [S.bk p u e ha] at hp; cases hp
theorem Sta.far0 (S : Sta B K Hf H L M) {x : Addr} (hx : H x = none) (k : Nat) (a : Addr) (s : Sl) (u : MO) (h1 : L[k]? = some (some (.ref a))) (h2 : M[k]? = some s) (h3 : s.obj = some u) : x ∉ mf H a u := fun z => by
  obtain ⟨b, e1, e2, e3⟩ := (S.cell k _ s h1 h2).obj h3
  cases e1
  obtain ⟨w, e4⟩ := e3.all x z
  rw [hx] at e4; cases e4
def NF (H H' : Hp) (p : Addr) : MO → Prop
  | .tre k ts => ∀ x ∈ foot H' (.nod k ts) (.ref p), H x = none
  | _ => H p = none
theorem NF.all {H H' : Hp} {p : Addr} {o : MO} (h : NF H H' p o) : ∀ x ∈ mf H' p o, H x = none := by
  cases o with
  | tre k ts => exact h
  | lst xs => intro x hx; rw [List.mem_singleton.mp hx]; exact h
  | dK xs => intro x hx; rw [List.mem_singleton.mp hx]; exact h
  | dT xs => intro x hx; rw [List.mem_singleton.mp hx]; exact h
theorem NF.of {H H' : Hp} {p : Addr} {o : MO} (h : ∀ x ∈ mf H' p o, H x = none) : NF H H' p o := by
  cases o with
  | tre k ts => exact h
  | lst xs => exact h p (List.mem_singleton.mpr rfl)
  | dK xs => exact h p (List.mem_singleton.mpr rfl)
  | dT xs => exact h p (List.mem_singleton.mpr rfl)
theorem Sta.pushN (S : Sta B K Hf H L M) (g : Gw Hf H Hf' H') {p : Addr} {o : MO} (hp : ∀ x ∈ mf H' p o, H x = none) (hf : Hf' p = none) (ho : OR K Hf' H' p o) : Sta B K Hf' H' (L ++ [some (.ref p)]) (M ++ [.own o]) :=
  (S.grow g).pushO hf ho (fun k a s u h1 h2 h3 x hx hy => by
    rw [S.mf_grow g h1 h2 h3] at hx
    exact S.far0 (hp x hy) k a s u h1 h2 h3 hx) fun x hx => S.fresh0 (hp x hx)
theorem Sta.mutG (S : Sta B K Hf H L M) {i : Nat} {a : Addr} {s : Sl} {o o' : MO} (hL : L[i]? = some (some (.ref a))) (hM : M[i]? = some s) (hs : s.obj = some o) (ff : Same Hf Hf') (fh : Same Hf' H') (fn : ∀ x u, Hf' x = some u → Hf x = some u ∨ H x = none)
    (out : ∀ x u, H x = some u → x ∉ mf H a o → H' x = some u) (al : ∀ x ∈ mf H a o, ∃ u, H' x = some u) (hf : Hf' a = none) (h : OR K Hf' H' a o') (nw : ∀ x ∈ mf H' a o', x ∈ mf H a o ∨ (B.H x = none ∧ ∀ (k : Nat) c t u, k ≠ i → L[k]? = some (some (.ref c)) → M[k]? = some t → t.obj = some u → x ∉ mf H c u)) :
    Sta B K Hf' H' L (M.set i (s.with_ o')) := by
  obtain ⟨b, e1, e2, e3⟩ := (S.cell i _ s hL hM).obj hs
  cases e1
  have hi : i < M.length := (List.getElem?_eq_some_iff.mp hM).1
  have at_ : ∀ (k : Nat) t, (M.set i (s.with_ o'))[k]? = some t → (k ≠ i ∧ M[k]? = some t) ∨ (k = i ∧ t = s.with_ o') := fun k t e => by
    by_cases hk : k = i
    · subst hk
      rw [List.getElem?_set_self hi] at e
      exact .inr ⟨rfl, (Option.some.inj e).symm⟩
    · rw [List.getElem?_set_ne (Ne.symm hk)] at e
      exact .inl ⟨hk, e⟩
  have wo : ∀ u, (s.with_ u).obj = some u := fun u => by
    cases s <;> first | rfl | cases hs
  have ha : ∀ x ∈ mf H a o, B.H x = none ∨ x ∈ B.ad := by
    cases s with
    | own u => cases hs; exact fun x hx => .inl (S.ow i a o hL hM x hx)
    | io u =>
      cases hs
      obtain ⟨F, f1, f2⟩ := S.iw i a o hL hM
      exact fun x hx => (f2 x hx).elim (fun z => .inr (Bs.ad_mem f1 x z)) .inl
    | un => cases hs
    | dat d => cases hs
    | bor b => cases hs
    | fn _ => cases hs
  have oth : ∀ (k : Nat) c t u, k ≠ i → L[k]? = some (some (.ref c)) → M[k]? = some t → t.obj = some u → (∀ x ∈ mf H c u, H' x = H x) ∧ mf H' c u = mf H c u ∧ ∀ x ∈ mf H c u, Hf' x = none := fun k c t u hk h1 h2 h3 => by
    obtain ⟨d, z1, z2, z3⟩ := (S.cell k _ t h1 h2).obj h3
    cases z1
    have q : ∀ x ∈ mf H c u, H' x = H x := fun x hx => by
      obtain ⟨w, e4⟩ := z3.all x hx
      rw [e4, out x w e4 (S.dj k i c a t s u o hk h1 hL h2 hM h3 hs x hx)]
    refine ⟨q, (z3.congr (Same.refl Hf) q (z3.free z2)).2, fun x hx => ?_⟩
    obtain ⟨w, e4⟩ := z3.all x hx
    have e5 := z3.free z2 x hx
    cases e6 : Hf' x with
    | none => rfl
    | some w2 =>
      rcases fn x w2 e6 with z | z
      · rw [e5] at z; cases z
      · rw [e4] at z; cases z
  have dis : ∀ (k : Nat) c t u, k ≠ i → L[k]? = some (some (.ref c)) → M[k]? = some t → t.obj = some u → ∀ x ∈ mf H' c u, x ∉ mf H' a o' := fun k c t u hk h1 h2 h3 x hx hy => by
    obtain ⟨_, q2, _⟩ := oth k c t u hk h1 h2 h3
    rw [q2] at hx
    rcases nw x hy with z | z
    · exact S.dj k i c a t s u o hk h1 hL h2 hM h3 hs x hx z
    · exact z.2 k c t u hk h1 h2 h3 hx
  exact {
    len := by rw [List.length_set]; exact S.len
    nl := S.nl
    cell := fun k x t h1 h2 => by
      rcases at_ k t h2 with ⟨hk, e⟩ | ⟨hk, e⟩
      · refine (S.cell k x t h1 e).mono ff (fun c u q1 q2 => ?_) fun c u q1 q2 => ?_
        · subst q1
          exact (oth k c t u hk h1 e q2).1
        · subst q1
          exact (oth k c t u hk h1 e q2).2.2
      · subst hk; subst e
        rw [hL] at h1
        cases h1
        cases s with
        | own u => exact ⟨a, rfl, hf, h⟩
        | io u => exact ⟨a, rfl, hf, h⟩
        | un => cases hs
        | dat d => cases hs
        | bor b => cases hs
        | fn _ => cases hs
    dj := fun k j c d t r u w hkj h1 h2 h3 h4 h5 h6 x hx hy => by
      rcases at_ k t h3 with ⟨hk, e⟩ | ⟨hk, e⟩
      · rcases at_ j r h4 with ⟨hj, f⟩ | ⟨hj, f⟩
        · rw [(oth k c t u hk h1 e h5).2.1] at hx
          rw [(oth j d r w hj h2 f h6).2.1] at hy
          exact S.dj k j c d t r u w hkj h1 h2 e f h5 h6 x hx hy
        · subst hj; subst f
          rw [hL] at h2
          cases h2
          rw [wo] at h6
          cases h6
          exact dis k c t u hk h1 e h5 x hx hy
      · rcases at_ j r h4 with ⟨hj, f⟩ | ⟨hj, f⟩
        · subst hk; subst e
          rw [hL] at h1
          cases h1
          rw [wo] at h5
          cases h5
          exact dis j d r w hj h2 f h6 x hy hx
        · exact hkj (hk.trans hj.symm)
    ff := S.ff.trans ff
    fh := fh
    fn := fun x u q => by
      rcases fn x u q with z | z
      · exact S.fn x u z
      · exact .inr (S.fresh0 z)
    bk := fun x u q1 q2 => by
      refine out x u (S.bk x u q1 q2) fun z => ?_
      rcases ha x z with y | y
      · rw [y] at q1; cases q1
      · exact q2 y
    ow := fun k c u h1 h2 => by
      rcases at_ k _ h2 with ⟨hk, e⟩ | ⟨hk, e⟩
      · rw [(oth k c _ u hk h1 e rfl).2.1]
        exact S.ow k c u h1 e
      · subst hk
        rw [hL] at h1
        cases h1
        cases s with
        | own w =>
          cases hs
          cases e
          intro x hx
          rcases nw x hx with z | z
          · exact S.ow k a o hL hM x z
          · exact z.1
        | io w => cases e
        | un => cases hs
        | dat d => cases hs
        | bor b => cases hs
        | fn _ => cases hs
    iw := fun k c u h1 h2 => by
      rcases at_ k _ h2 with ⟨hk, e⟩ | ⟨hk, e⟩
      · rw [(oth k c _ u hk h1 e rfl).2.1]
        exact S.iw k c u h1 e
      · subst hk
        rw [hL] at h1
        cases h1
        cases s with
        | own w => cases e
        | io w =>
          cases hs
          cases e
          obtain ⟨F, f1, f2⟩ := S.iw k a o hL hM
          refine ⟨F, f1, fun x hx => ?_⟩
          rcases nw x hx with z | z
          · exact f2 x z
          · exact .inr z.1
        | un => cases hs
        | dat d => cases hs
        | bor b => cases hs
        | fn _ => cases hs
    tb := fun p hp => ⟨(S.tb p hp).1, (S.tb p hp).2.mono ff (fn p.1) fun ps e => out _ _ e fun hx => e3.noTbl _ hx ps e⟩
    ip := fun x hx => by
      obtain ⟨u, e⟩ := S.ip x hx
      by_cases z : x ∈ mf H a o
      · exact al x z
      · exact ⟨u, out x u e z⟩
    bo := fun k b e => by
      rcases at_ k _ e with ⟨hk, e⟩ | ⟨hk, e⟩
      · obtain ⟨b1, b2, b3⟩ := S.bo k b e
        refine ⟨b1, b2, fun z => ?_⟩
        rcases at_ b _ z with ⟨_, q⟩ | ⟨_, q⟩
        · exact b3 q
        · cases s <;> first | (cases hs; done) | (cases q; done)
      · cases s <;> first | (cases hs; done) | (cases e; done) }
theorem Sta.mut (S : Sta B K Hf H L M) {i : Nat} {a : Addr} {s : Sl} {o o' : MO} (hL : L[i]? = some (some (.ref a))) (hM : M[i]? = some s) (hs : s.obj = some o) (ff : Same Hf Hf') (fh : Same Hf' H') (fn : ∀ x u, Hf' x = some u → Hf x = some u ∨ H x = none)
    (out : ∀ x u, H x = some u → x ∉ mf H a o → H' x = some u) (al : ∀ x ∈ mf H a o, ∃ u, H' x = some u) (hf : Hf' a = none) (h : OR K Hf' H' a o') (nw : ∀ x ∈ mf H' a o', x ∈ mf H a o ∨ H x = none) :
    Sta B K Hf' H' L (M.set i (s.with_ o')) :=
  S.mutG hL hM hs ff fh fn out al hf h fun x hx => (nw x hx).imp id fun z => ⟨S.fresh0 z, fun k c t u _ h1 h2 h3 => S.far0 z k c t u h1 h2 h3⟩
def flatO : MO → Bool
  | .tre _ _ => false
  | _ => true
theorem mf_flat {H : Hp} {a : Addr} {o : MO} (h : flatO o = true) : mf H a o = [a] := by
  cases o <;> first | rfl | cases h
theorem Sta.write (S : Sta B K Hf H L M) {i : Nat} {a : Addr} {s : Sl} {o o' : MO} {ho : HO} (hL : L[i]? = some (some (.ref a))) (hM : M[i]? = some s) (hs : s.obj = some o) (h : OR K Hf (upd H a ho) a o') (f : flatO o = true := by rfl) (f' : flatO o' = true := by rfl) :
    Sta B K Hf (upd H a ho) L (M.set i (s.with_ o')) := by
  obtain ⟨b, e1, e2, e3⟩ := (S.cell i _ s hL hM).obj hs
  cases e1
  refine S.mut hL hM hs (Same.refl _) (fun x u q => ?_) (fun x u q => .inl q) (fun x u q n => ?_) (fun x hx => ?_) e2 h (fun x hx => ?_)
  · have : x ≠ a := fun z => by subst z; rw [e2] at q; cases q
    rw [upd_ne this]
    exact S.fh x u q
  · rw [mf_flat f] at n
    rw [upd_ne (by simpa using n)]
    exact q
  · rw [mf_flat f] at hx
    rw [List.mem_singleton.mp hx]
    exact ⟨ho, upd_same⟩
  · rw [mf_flat f'] at hx
    rw [mf_flat f]
    exact .inl hx
theorem Sta.freeze (S : Sta B K Hf H L M) {i : Nat} {o : MO} {d : D} (hM : M[i]? = some (.own o)) (hz : o.frz = some d) : ∃ Hf', Same Hf Hf' ∧ Sta B K Hf' H L (M.set i (.dat d)) := by
  obtain ⟨x, hL, a, e1, e2, e34⟩ := S.lt hM
  obtain ⟨u, e3, e4⟩ : ∃ u, H a = some u ∧ ∀ Hf', Same Hf Hf' → Hf' a = some u → Dr K Hf' (.ref a) d := by
    cases o with
    | lst xs =>
      cases hz
      obtain ⟨vs, q1, q2⟩ := e34
      exact ⟨_, q1, fun Hf' q3 q4 => .lst (.inl q4) (Same.dpa q3 q2)⟩
    | dK kvs =>
      cases hz
      obtain ⟨vs, q1, q2⟩ := e34
      exact ⟨_, q1, fun Hf' q3 q4 => .dct (.inl q4) (dpkv_drk (dpkv_mono q3 q2))⟩
    | dT kvs => cases hz
    | tre k ts => exact (flat_dr e34.1 hz).2
  subst e1
  have fl : mf H a o = [a] := by
    cases o with
    | tre k ts => exact (flat_dr e34.1 hz).1
    | _ => rfl
  have hB : B.H a = none := S.ow i a _ hL hM a mf_self
  have oth : ∀ (k : Nat) c t u, k ≠ i → L[k]? = some (some (.ref c)) → M[k]? = some t → t.obj = some u → a ∉ mf H c u := fun k c t u hk h1 h2 h3 z =>
    S.dj k i c a t _ u o hk h1 hL h2 hM h3 rfl a z mf_self
  have hi : i < M.length := (List.getElem?_eq_some_iff.mp hM).1
  have ff : Same Hf (upd Hf a u) := fun b u q => by
    have : b ≠ a := fun z => by subst z; rw [e2] at q; cases q
    rw [upd_ne this]; exact q
  have at_ : ∀ (k : Nat) t, (M.set i (.dat d))[k]? = some t → (k ≠ i ∧ M[k]? = some t) ∨ (k = i ∧ t = .dat d) := fun k t e => by
    by_cases hk : k = i
    · subst hk
      rw [List.getElem?_set_self hi] at e
      exact .inr ⟨rfl, (Option.some.inj e).symm⟩
    · rw [List.getElem?_set_ne (Ne.symm hk)] at e
      exact .inl ⟨hk, e⟩
  refine ⟨upd Hf a u, ff, ?_⟩
  exact {
    len := by rw [List.length_set]; exact S.len
    nl := S.nl
    cell := fun k x t h1 h2 => by
      rcases at_ k t h2 with ⟨hk, e⟩ | ⟨hk, e⟩
      · refine (S.cell k x t h1 e).mono ff (fun c u _ _ y _ => rfl) fun c u q1 q2 y hy => ?_
        subst q1
        have hc : y ≠ a := fun z => by
          subst z
          exact oth k c t u hk h1 e q2 hy
        obtain ⟨d, z1, z2, z3⟩ := (S.cell k _ t h1 e).obj q2
        cases z1
        rw [upd_ne hc]; exact z3.free z2 y hy
      · subst hk; subst e
        rw [hL] at h1
        cases h1
        exact ⟨_, rfl, e4 _ ff upd_same⟩
    dj := fun k j c d' t r u w hkj h1 h2 h3 h4 h5 h6 => by
      rcases at_ k t h3 with ⟨hk, e⟩ | ⟨hk, e⟩
      · rcases at_ j r h4 with ⟨hj, f⟩ | ⟨hj, f⟩
        · exact S.dj k j c d' t r u w hkj h1 h2 e f h5 h6
        · subst f; cases h6
      · subst e; cases h5
    ff := S.ff.trans ff
    fh := fun b u q => by
      by_cases z : b = a
      · subst z; rw [upd_same] at q; cases q; exact e3
      · rw [upd_ne z] at q; exact S.fh b u q
    fn := fun b u q => by
      by_cases z : b = a
      · subst z; exact .inr hB
      · rw [upd_ne z] at q; exact S.fn b u q
    bk := S.bk
    ow := fun k c u h1 h2 => by
      rcases at_ k _ h2 with ⟨hk, e⟩ | ⟨hk, e⟩
      · exact S.ow k c u h1 e
      · cases e
    iw := fun k c u h1 h2 => by
      rcases at_ k _ h2 with ⟨hk, e⟩ | ⟨hk, e⟩
      · exact S.iw k c u h1 e
      · cases e
    ip := S.ip
    tb := fun p hp => ⟨(S.tb p hp).1, (S.tb p hp).2.mono ff (fun w q => by
      by_cases z : p.1 = a
      · obtain ⟨_, ps, z1, _⟩ := (S.tb p hp).2
        rw [z] at z1
        exact (e34.noTbl a mf_self ps z1).elim
      · rw [upd_ne z] at q; exact .inl q) fun ps e => e⟩
    bo := fun k b e => by
      rcases at_ k _ e with ⟨hk, e⟩ | ⟨hk, e⟩
      · obtain ⟨b1, b2, b3⟩ := S.bo k b e
        refine ⟨b1, b2, fun z => ?_⟩
        rcases at_ b _ z with ⟨_, q⟩ | ⟨_, q⟩
        · exact b3 q
        · cases q
      · cases e }
end
end Pd
set_option Elab.async false
set_option linter.all false
set_option maxRecDepth 100000
set_option maxHeartbeats 2000000
namespace Pd
open PySem PySem.Spec PyProof.Rows L2
variable {K : PySem.W.Frag} [HasW K] {B : Bs}
def RR (K : PySem.W.Frag) [HasW K] (H Hf' H' : Hp) : Re → V → Prop
  | .dat d, u => Dr K Hf' u d
  | .new o, u => ∃ p, u = .ref p ∧ NF H H' p o ∧ Hf' p = none ∧ OR K Hf' H' p o
  | .slot _, _ => False
theorem Sta.res {Hf Hf' H H' : Hp} {σ τ : L2.St} {δ θ : En} {r : Re} {u : V} (S : Sta B K Hf H (σ ++ τ) (δ ++ θ)) (g : Gw Hf H Hf' H') (h : RR K H Hf' H' r u) : Sta B K Hf' H' (σ ++ (τ ++ [some u])) (δ ++ (θ ++ [r.sl])) := by
  rw [← List.append_assoc, ← List.append_assoc]
  cases r with
  | dat d => exact (S.grow g).pushD h
  | new o =>
    obtain ⟨p, rfl, h1, h2, h3⟩ := h
    exact S.pushN g h1.all h2 h3
  | slot i => exact h.elim
def frzK (o : MO) (k : D → Prop) : Prop := match o.frz with
  | some d => k d
  | none => False
def vwS (s : Sl) (k : D → Prop) : Prop := match s with
  | .dat d => k d
  | .own o => frzK o k
  | .io o => frzK o k
  | _ => False
def vwR (r : Re) (δ : En) (k : D → Prop) : Prop := match r with
  | .dat d => k d
  | .new o => frzK o k
  | .slot i => match δ[i]? with
    | some s => vwS s k
    | none => False
def vwRs : List Re → En → (List D → Prop) → Prop
  | [], _, k => k []
  | r :: rs, δ, k => vwR r δ fun d => vwRs rs δ fun ds => k (d :: ds)
def Vw (K : PySem.W.Frag) [HasW K] (Hf H : Hp) (v : V) (d : D) : Prop := Dr K Hf v d ∨ (∃ a vs ds, v = .ref a ∧ d = .list ds ∧ Rd H a (.lst vs) ∧ DrA K Hf vs ds) ∨ (∃ a ks kvs, v = .ref a ∧ d = .dict kvs ∧ Rd H a (.dK ks) ∧ DrK K Hf ks kvs) ∨
  ∃ a o xs kvs, v = .ref a ∧ d = .dict ((.dict [], .none) :: kvs) ∧ (a == sysModules) = false ∧ H a = some (.ext (PinX a o)) ∧ DTo (HasW.w K) o xs ∧ DrT K Hf xs kvs
theorem Vw.dr {Hf H : Hp} {v : V} {d : D} (e : Same Hf H) (h : Vw K Hf H v d) : Dr K H v d := by
  rcases h with h | ⟨a, vs, ds, rfl, rfl, h1, h2⟩ | ⟨a, vs, ds, rfl, rfl, h1, h2⟩ | ⟨a, o, xs, kvs, rfl, rfl, h1, h2, h3, h4⟩
  · exact Same.dp e h
  · exact .lst h1 (Same.dpa e h2)
  · exact .dct h1 (dpk_mono e _ _ h2)
  · exact .dcT h1 h2 h3 (dpt_mono e _ _ h4)
theorem Vw.dp {Hf H : Hp} {v : V} {d : D} (e : Same Hf H) (h : Vw K Hf H v d) (c : d.canLay0 = true) : L2.Dp K H v d := Dr.dp _ _ c (h.dr e)
theorem Vw.list {Hf H : Hp} {v : V} {ds : List D} (e : Same Hf H) (h : Vw K Hf H v (.list ds)) : ∃ a vs, v = .ref a ∧ Rd H a (.lst vs) ∧ DrA K Hf vs ds := by
  rcases h with h | ⟨a, vs, es, h1, h2, h3, h4⟩ | ⟨a, vs, es, h1, h2, h3, h4⟩ | ⟨a, o, xs, kvs, h1, h2, h3, h4, h5, h6⟩
  · cases h with
    | lst h1 h2 => exact ⟨_, _, rfl, rd_mono e h1, h2⟩
  · cases h2
    exact ⟨a, vs, h1, h3, h4⟩
  · cases h2
  · cases h2
theorem Vw.dict {Hf H : Hp} {v : V} {kvs : List (D × D)} (e : Same Hf H) (h : Vw K Hf H v (.dict kvs)) (nx : notXL kvs = true) : ∃ a ks, v = .ref a ∧ Rd H a (.dK ks) ∧ DrK K Hf ks kvs := by
  rcases h with h | ⟨a, vs, es, h1, h2, h3, h4⟩ | ⟨a, vs, es, h1, h2, h3, h4⟩ | ⟨a, o, xs, kvs, h1, h2, h3, h4, h5, h6⟩
  · cases h with
    | dct h1 h2 => exact ⟨_, _, rfl, rd_mono e h1, h2⟩
    | exc _ _ _ => cases nx
    | dcT _ _ _ _ => cases nx
  · cases h2
  · cases h2
    exact ⟨a, vs, h1, h3, h4⟩
  · cases h2
    cases nx
theorem Vw.tuple {Hf H : Hp} {v : V} {ds : List D} (e : Same Hf H) (h : Vw K Hf H v (.tuple ds)) : ∃ a vs, v = .ref a ∧ SqT K H a vs ∧ DrA K Hf vs ds ∧ Dr K Hf v (.tuple ds) := by
  rcases h with h | ⟨a, vs, es, h1, h2, h3, h4⟩ | ⟨a, vs, es, h1, h2, h3, h4⟩ | ⟨a, o, xs, kvs, h1, h2, h3, h4, h5, h6⟩
  · cases h with
    | tup h1 h2 => exact ⟨_, _, rfl, sqt_mono e h1, h2, .tup h1 h2⟩
  · cases h2
  · cases h2
  · cases h2
theorem Vw.tupleN {Hf H : Hp} {v : V} {ds : List D} (e : Same Hf H) (h : Vw K Hf H v (.tuple ds)) : ∃ a vs, v = .ref a ∧ SqN K H a vs ∧ DrA K Hf vs ds := by
  rcases h with h | ⟨a, vs, es, h1, h2, h3, h4⟩ | ⟨a, vs, es, h1, h2, h3, h4⟩ | ⟨a, o, xs, kvs, h1, h2, h3, h4, h5, h6⟩
  · cases h with
    | tup h1 h2 => exact ⟨_, _, rfl, sqn_mono e h1, h2⟩
  · cases h2
  · cases h2
  · cases h2
theorem Vw.flat {Hf H : Hp} {v w : V} {d : D} (h : Vw K Hf H v d) (f : flatD d = some w) : v = w := by
  rcases h with h | ⟨a, vs, es, h1, h2, h3, h4⟩ | ⟨a, vs, es, h1, h2, h3, h4⟩ | ⟨a, o, xs, kvs, h1, h2, h3, h4, h5, h6⟩
  · exact dp_flat h f
  · subst h2; cases f
  · subst h2; cases f
  · subst h2; cases f
theorem Vw.int {Hf H : Hp} {v : V} {i : Int} (h : Vw K Hf H v (.int i)) : v = .int i := h.flat rfl
theorem Vw.str {Hf H : Hp} {v : V} {i : Str} (h : Vw K Hf H v (.str i)) : v = .str i := h.flat rfl
theorem Vw.bool {Hf H : Hp} {v : V} {i : Bool} (h : Vw K Hf H v (.bool i)) : v = .bl i := h.flat rfl
theorem Vw.non {Hf H : Hp} {v : V} (h : Vw K Hf H v .none) : v = .non := h.flat rfl
theorem flatT_ok {Hf H : Hp} {u : Tre} {w : V} {d : D} (h : TR K Hf H u w) (e : flatT u = some d) : Vw K Hf H w d := by
  cases u with
  | dat d' =>
    rw [TR] at h
    cases e
    exact .inl h
  | nod kk ts =>
    rw [TR] at h
    obtain ⟨b, rfl, nk, h2⟩ := h
    cases kk with
    | lst =>
      obtain ⟨vs, q1⟩ := nk
      have ev : valsO (H b) = vs := by rw [q1]; rfl
      have e : (datsT ts).map PyData.list = some d := e
      cases q : datsT ts with
      | none => rw [q] at e; cases e
      | some ds =>
        rw [q] at e
        cases e
        rw [ev] at h2
        exact .inr (.inl ⟨b, vs, ds, rfl, rfl, .inl q1, datsT_ok h2 q⟩)
    | dK ks =>
      obtain ⟨kvs, q1, q2⟩ := nk
      have ev : valsO (H b) = kvs.map (·.2) := by rw [q1]; rfl
      have e : (datsT ts).map (fun ds => PyData.dict ((ks.zip ds).map fun p => (kD p.1, p.2))) = some d := e
      cases q : datsT ts with
      | none => rw [q] at e; cases e
      | some ds =>
        rw [q] at e
        cases e
        rw [ev] at h2
        refine .inr (.inr (.inl ⟨b, kvs, _, rfl, rfl, .inl q1, ?_⟩))
        rw [← q2]
        exact drk_zip (datsT_ok h2 q)
    | dT ks =>
      obtain ⟨o, xs, q1, q2, q3, q4⟩ := nk
      have ev : valsO (H b) = kidsX xs := by rw [q1]; exact valsO_x q3
      have e : ((datsT ts).bind fun ds => (pairT ks ds).map tdD) = some d := e
      cases q : datsT ts with
      | none => rw [q] at e; cases e
      | some ds =>
        rw [q] at e
        have e : (pairT ks ds).map tdD = some d := e
        cases q5 : pairT ks ds with
        | none => rw [q5] at e; cases e
        | some kvs =>
          rw [q5] at e
          cases e
          rw [ev] at h2
          rw [← q4] at q5
          exact .inr (.inr (.inr ⟨b, o, xs, kvs, rfl, rfl, q2, q1, q3, drt_of (datsT_ok h2 q) q5⟩))
    | ins _ _ => cases e
theorem Vw.td {Hf H : Hp} {v : V} {kvs : List (D × D)} (e : Same Hf H) (h : Vw K Hf H v (tdD kvs)) : ∃ a o xs, v = .ref a ∧ (a == sysModules) = false ∧ H a = some (.ext (PinX a o)) ∧ DTo (HasW.w K) o xs ∧ DrT K Hf xs kvs := by
  unfold tdD at h
  rcases h with h | ⟨a, vs, es, h1, h2, h3, h4⟩ | ⟨a, ks, es, h1, h2, h3, h4⟩ | ⟨a, o, xs, kvs', h1, h2, h3, h4, h5, h6⟩
  · generalize ek : (PyData.dict [], PyData.none) :: kvs = z at h
    cases h with
    | dct h1 h2 =>
      cases h2 with
      | nil => cases ek
      | @cons k _ _ _ _ _ _ =>
        have := (List.cons.inj ek).1
        cases k <;> cases this
    | exc h1 h2 h3 =>
      have := (List.cons.inj ek).1
      cases this
    | dcT h1 h2 h3 h4 =>
      have := (List.cons.inj ek).2
      subst this
      exact ⟨_, _, _, rfl, h1, e _ _ h2, h3, h4⟩
  · cases h2
  · cases h2
    generalize ek : (PyData.dict [], PyData.none) :: kvs = z at h4
    cases h4 with
    | nil => cases ek
    | @cons k _ _ _ _ _ _ =>
      have := (List.cons.inj ek).1
      cases k <;> cases this
  · cases h2
    exact ⟨a, o, xs, h1, h3, h4, h5, h6⟩
theorem frzK_ok {Hf H : Hp} {a : Addr} {o : MO} {k : D → Prop} (c : OR K Hf H a o) (h : frzK o k) : ∃ d, Vw K Hf H (.ref a) d ∧ k d := by
  cases o with
  | lst xs =>
    obtain ⟨vs, h1, h2⟩ := c
    exact ⟨_, .inr (.inl ⟨a, vs, xs, rfl, rfl, .inl h1, h2⟩), h⟩
  | dK kvs =>
    obtain ⟨vs, h1, h2⟩ := c
    exact ⟨_, .inr (.inr (.inl ⟨a, vs, _, rfl, rfl, .inl h1, dpkv_drk h2⟩)), h⟩
  | dT _ => exact h.elim
  | tre kk ts =>
    have h : match flatT (.nod kk ts) with
      | some d => k d
      | none => False := h
    cases e : flatT (.nod kk ts) with
    | none => simp only [e] at h
    | some d =>
      simp only [e] at h
      exact ⟨d, flatT_ok c.1 e, h⟩
theorem vwS_ok {Hf H : Hp} {L : L2.St} {v : V} {s : Sl} {k : D → Prop} (c : CR K Hf H L (some v) s) (h : vwS s k) : ∃ d, Vw K Hf H v d ∧ k d := by
  cases s with
  | un => exact h.elim
  | dat d =>
    obtain ⟨w, e, q⟩ := c
    cases e
    exact ⟨d, .inl q, h⟩
  | own o =>
    obtain ⟨a, e, _, q⟩ := c
    cases e
    exact frzK_ok q h
  | io o =>
    obtain ⟨a, e, _, q⟩ := c
    cases e
    exact frzK_ok q h
  | bor i => exact h.elim
  | fn _ => exact h.elim
theorem vwR_ok {Hf H : Hp} {L : L2.St} {δ θ : En} {v : V} {r : Re} {i : Nat} {k : D → Prop} (S : Sta B K Hf H L (δ ++ θ)) (hl : δ.length = B.n) (h1 : L[i]? = some (some v)) (h2 : (δ ++ θ)[i]? = some r.sl) (h : vwR r δ k) : ∃ d, Vw K Hf H v d ∧ k d := by
  have c := S.cell i _ _ h1 h2
  cases r with
  | dat d => exact vwS_ok c h
  | new o => exact vwS_ok c h
  | slot j =>
    obtain ⟨w, e, q⟩ := c
    cases e
    have hj := (S.bo i j h2).1
    unfold vwR at h
    cases hs : δ[j]? with
    | none => simp only [hs] at h
    | some s =>
      simp only [hs] at h
      exact vwS_ok (S.cell j _ s q (by rw [List.getElem?_append_left (by omega)]; exact hs)) h
abbrev DE := En → (Re → En → Prop) → Prop
abbrev DA := En → (List Re → En → Prop) → Prop
abbrev DB := En → (Bool → En → Prop) → Prop
def DEok (B : Bs) (K : PySem.W.Frag) [HasW K] (te : TE) (de : DE) : Prop :=
  ∀ (Hf H : Hp) (σ τ : L2.St) (δ θ : En) (Kc : Re → En → Prop) (Q : VK), σ.length = B.n → δ.length = B.n → Sta B K Hf H (σ ++ τ) (δ ++ θ) → de δ Kc →
    (∀ r δ' v Hf' H', Kc r δ' → δ'.length = B.n → Same Hf Hf' → Sta B K Hf' H' (σ ++ (τ ++ [some v])) (δ' ++ (θ ++ [r.sl])) → Q v H') → te σ H Q
def DAok (B : Bs) (K : PySem.W.Frag) [HasW K] (ta : TA) (da : DA) : Prop :=
  ∀ (Hf H : Hp) (σ τ : L2.St) (δ θ : En) (Kc : List Re → En → Prop) (Q : List V → Hp → Prop), σ.length = B.n → δ.length = B.n → Sta B K Hf H (σ ++ τ) (δ ++ θ) → da δ Kc →
    (∀ rs δ' vs Hf' H', Kc rs δ' → δ'.length = B.n → vs.length = rs.length → Same Hf Hf' → Sta B K Hf' H' (σ ++ (τ ++ vs.map some)) (δ' ++ (θ ++ rs.map Re.sl)) → Q vs H') → ta σ H Q
def DBok (B : Bs) (K : PySem.W.Frag) [HasW K] (tt : TT) (db : DB) : Prop :=
  ∀ (Hf H : Hp) (σ τ : L2.St) (δ θ : En) (Kc : Bool → En → Prop) (Q : Bool → Hp → Prop), σ.length = B.n → δ.length = B.n → Sta B K Hf H (σ ++ τ) (δ ++ θ) → db δ Kc →
    (∀ b δ' Hf' H', Kc b δ' → δ'.length = B.n → Same Hf Hf' → Sta B K Hf' H' (σ ++ τ) (δ' ++ θ) → Q b H') → tt σ H Q
theorem Sta.pop1 {Hf H : Hp} {σ τ : L2.St} {δ θ : En} {x : Option V} {s : Sl} (S : Sta B K Hf H (σ ++ (τ ++ [x])) (δ ++ (θ ++ [s]))) (hs : σ.length = B.n) (hd : δ.length = B.n) : Sta B K Hf H (σ ++ τ) (δ ++ θ) := by
  have hl := S.len
  simp only [List.length_append, List.length_cons, List.length_nil] at hl
  rw [← List.append_assoc, ← List.append_assoc] at S
  exact S.pop (by simp only [List.length_append]; omega) (by simp only [List.length_append]; omega)
theorem top_get {α : Type} {xs ys : List α} {y : α} {n : Nat} (h : n = xs.length + ys.length) : (xs ++ (ys ++ [y]))[n]? = some y := by
  subst h
  rw [← List.append_assoc, List.getElem?_append_right (by simp)]
  simp
theorem Sta.lenT {Hf H : Hp} {σ τ : L2.St} {δ θ : En} (S : Sta B K Hf H (σ ++ τ) (δ ++ θ)) (hs : σ.length = B.n) (hd : δ.length = B.n) : τ.length = θ.length := by
  have hl := S.len
  simp only [List.length_append] at hl
  omega
def dVar (i : Nat) : DE := fun δ k => match δ[i]? with
  | some (.dat d) => k (.dat d) δ
  | some (.own _) => k (.slot i) δ
  | some (.io _) => k (.slot i) δ
  | _ => False
theorem de_var {i : Nat} : DEok B K (tVar i) (dVar i) := by
  intro Hf H σ τ δ θ Kc Q hs hd S h k
  unfold dVar at h
  cases e : δ[i]? with
  | none => simp only [e] at h
  | some s =>
    simp only [e] at h
    have hi : i < δ.length := (List.getElem?_eq_some_iff.mp e).1
    have eM : (δ ++ θ)[i]? = some s := by rw [List.getElem?_append_left hi]; exact e
    obtain ⟨x, hx, c⟩ := S.lt eM
    have ex : σ[i]? = some x := by rw [List.getElem?_append_left (by omega)] at hx; exact hx
    cases s with
    | un => exact h.elim
    | bor j => exact h.elim
    | fn _ => exact h.elim
    | dat d =>
      obtain ⟨v, rfl, q⟩ := c
      exact ⟨v, ex, k _ _ v Hf H h hd (Same.refl _) (S.res (r := .dat d) (Gw.refl S.fh) q)⟩
    | own o =>
      obtain ⟨a, rfl, q⟩ := c
      refine ⟨_, ex, k _ _ _ Hf H h hd (Same.refl _) ?_⟩
      rw [← List.append_assoc, ← List.append_assoc]
      exact S.pushB (by omega) hx eM (by intro z; cases z)
    | io o =>
      obtain ⟨a, rfl, q⟩ := c
      refine ⟨_, ex, k _ _ _ Hf H h hd (Same.refl _) ?_⟩
      rw [← List.append_assoc, ← List.append_assoc]
      exact S.pushB (by omega) hx eM (by intro z; cases z)
def dC (d : D) : DE := fun δ k => k (.dat d) δ
theorem de_c {v : V} {d : D} (h : ∀ Hf : Hp, Dr K Hf v d) : DEok B K (tC v) (dC d) := by
  intro Hf H σ τ δ θ Kc Q hs hd S q k
  exact k _ _ v Hf H q hd (Same.refl _) (S.res (r := .dat d) (Gw.refl S.fh) (h Hf))
theorem de_int {i : Int} : DEok B K (tC (.int i)) (dC (.int i)) := de_c fun _ => .int i
theorem de_bl {i : Bool} : DEok B K (tC (.bl i)) (dC (.bool i)) := de_c fun _ => .bl i
theorem de_str {i : Str} : DEok B K (tC (.str i)) (dC (.str i)) := de_c fun _ => .str i
theorem de_non : DEok B K (tC .non) (dC .none) := de_c fun _ => .non
def OpD (K : PySem.W.Frag) [HasW K] (r : R2) (g : D → D → (Re → Prop) → Prop) : Prop :=
  ∀ (Hf H : Hp) (v w : V) (x y : D) (Kc : Re → Prop) (Q : VK), Same Hf H → Vw K Hf H v x → Vw K Hf H w y → g x y Kc → (∀ res u Hf' H', Kc res → Gw Hf H Hf' H' → RR K H Hf' H' res u → Q u H') → r v w H Q
def dOp (g : D → D → (Re → Prop) → Prop) (a b : DE) : DE := fun δ k => a δ fun r1 δ1 => b δ1 fun r2 δ2 => vwR r1 δ2 fun x => vwR r2 δ2 fun y => g x y fun res => k res δ2
theorem de_op {r : R2} {g : D → D → (Re → Prop) → Prop} {ta tb : TE} {a b : DE} (hr : OpD K r g) (ha : DEok B K ta a) (hb : DEok B K tb b) : DEok B K (tOp r ta tb) (dOp g a b) := by
  intro Hf H σ τ δ θ Kc Q hs hd S h k
  refine ha Hf H σ τ δ θ _ _ hs hd S h fun r1 δ1 v1 Hf1 H1 h1 hd1 e1 S1 => ?_
  refine hb Hf1 H1 σ (τ ++ [some v1]) δ1 (θ ++ [r1.sl]) _ _ hs hd1 S1 h1 fun r2 δ2 v2 Hf2 H2 h2 hd2 e2 S2 => ?_
  have hlt := S.lenT hs hd
  have S1' := S2.pop1 hs hd2
  obtain ⟨x, x1, x2⟩ := vwR_ok (v := v1) (i := B.n + τ.length) S1' hd2 (top_get (by omega)) (top_get (by omega)) h2
  obtain ⟨y, y1, y2⟩ := vwR_ok (v := v2) (i := B.n + (τ.length + 1)) S2 hd2 (top_get (by simp; omega)) (top_get (by simp; omega)) x2
  refine hr Hf2 H2 v1 v2 x y _ _ S2.fh x1 y1 y2 fun res u Hf3 H3 q g q2 => ?_
  exact k res δ2 u Hf3 H3 q hd2 ((e1.trans e2).trans g.ff) ((S1'.pop1 hs hd2).res g q2)
def UnD (K : PySem.W.Frag) [HasW K] (r : V → Hp → VK → Prop) (g : D → (Re → Prop) → Prop) : Prop :=
  ∀ (Hf H : Hp) (v : V) (x : D) (Kc : Re → Prop) (Q : VK), Same Hf H → Vw K Hf H v x → g x Kc → (∀ res u Hf' H', Kc res → Gw Hf H Hf' H' → RR K H Hf' H' res u → Q u H') → r v H Q
def dUn (g : D → (Re → Prop) → Prop) (a : DE) : DE := fun δ k => a δ fun r1 δ1 => vwR r1 δ1 fun x => g x fun res => k res δ1
theorem de_un {r : V → Hp → VK → Prop} {g : D → (Re → Prop) → Prop} {ta : TE} {a : DE} (hr : UnD K r g) (ha : DEok B K ta a) : DEok B K (tUn r ta) (dUn g a) := by
  intro Hf H σ τ δ θ Kc Q hs hd S h k
  refine ha Hf H σ τ δ θ _ _ hs hd S h fun r1 δ1 v1 Hf1 H1 h1 hd1 e1 S1 => ?_
  have hlt := S.lenT hs hd
  obtain ⟨x, x1, x2⟩ := vwR_ok (v := v1) (i := B.n + τ.length) S1 hd1 (top_get (by omega)) (top_get (by omega)) h1
  refine hr Hf1 H1 v1 x _ _ S1.fh x1 x2 fun res u Hf3 H3 q g q2 => ?_
  exact k res δ1 u Hf3 H3 q hd1 (e1.trans g.ff) ((S1.pop1 hs hd1).res g q2)
def dNil : DA := fun δ k => k [] δ
def dCons (a : DE) (as : DA) : DA := fun δ k => a δ fun r δ1 => as δ1 fun rs δ2 => k (r :: rs) δ2
theorem da_nil : DAok B K tNil dNil := by
  intro Hf H σ τ δ θ Kc Q hs hd S h k
  exact k [] δ [] Hf H h hd rfl (Same.refl _) (by simpa using S)
theorem da_cons {ta : TE} {tr : TA} {a : DE} {as : DA} (ha : DEok B K ta a) (hr : DAok B K tr as) : DAok B K (tCons ta tr) (dCons a as) := by
  intro Hf H σ τ δ θ Kc Q hs hd S h k
  refine ha Hf H σ τ δ θ _ _ hs hd S h fun r1 δ1 v1 Hf1 H1 h1 hd1 e1 S1 => ?_
  refine hr Hf1 H1 σ (τ ++ [some v1]) δ1 (θ ++ [r1.sl]) _ _ hs hd1 S1 h1 fun rs δ2 vs Hf2 H2 h2 hd2 hl e2 S2 => ?_
  refine k (r1 :: rs) δ2 (v1 :: vs) Hf2 H2 h2 hd2 (by simp [hl]) (e1.trans e2) ?_
  simpa [List.append_assoc] using S2
theorem vwRs_ok {Hf H : Hp} {σ τ : L2.St} {δ : En} (hs : σ.length = B.n) (hd : δ.length = B.n) : ∀ {rs : List Re} {vs : List V} {τ : L2.St} {θ : En} {k : List D → Prop}, vs.length = rs.length → Sta B K Hf H (σ ++ (τ ++ vs.map some)) (δ ++ (θ ++ rs.map Re.sl)) → vwRs rs δ k →
    ∃ ds, Paired (Vw K Hf H) vs ds ∧ k ds
  | [], [], _, _, _, _, _, h => ⟨[], .nil, h⟩
  | r :: rs, v :: vs, τ, θ, k, hl, S, h => by
    have hlt : τ.length = θ.length := by
      have q := S.lenT hs hd
      simp only [List.length_append, List.length_map, List.length_cons] at q hl
      omega
    have S' : Sta B K Hf H (σ ++ ((τ ++ [some v]) ++ vs.map some)) (δ ++ ((θ ++ [r.sl]) ++ rs.map Re.sl)) := by simpa [List.append_assoc] using S
    obtain ⟨d, d1, d2⟩ := vwR_ok (v := v) (i := B.n + τ.length) S hd (by rw [List.getElem?_append_right (by omega)]; rw [List.getElem?_append_right (by omega)]; simp [hs]) (by rw [List.getElem?_append_right (by omega)]; rw [List.getElem?_append_right (by omega)]; simp [hd, hlt]) h
    obtain ⟨ds, e1, e2⟩ := vwRs_ok hs hd (rs := rs) (vs := vs) (τ := τ ++ [some v]) (θ := θ ++ [r.sl]) (by simpa using hl) S' d2
    exact ⟨d :: ds, .cons d1 e1, e2⟩
theorem Sta.popN {Hf H : Hp} {σ : L2.St} {δ : En} (hs : σ.length = B.n) (hd : δ.length = B.n) : ∀ {vs : L2.St} {ss : En} {τ : L2.St} {θ : En}, vs.length = ss.length → Sta B K Hf H (σ ++ (τ ++ vs)) (δ ++ (θ ++ ss)) → Sta B K Hf H (σ ++ τ) (δ ++ θ)
  | [], [], _, _, _, S => by simpa using S
  | v :: vs, s :: ss, τ, θ, hl, S => by
    have S' : Sta B K Hf H (σ ++ ((τ ++ [v]) ++ vs)) (δ ++ ((θ ++ [s]) ++ ss)) := by simpa [List.append_assoc] using S
    exact (Sta.popN hs hd (by simpa using hl) S').pop1 hs hd
def datR (r : Re) (δ : En) (k : D → En → Prop) : Prop := match r with
  | .dat d => k d δ
  | .new o => frzK o fun d => k d δ
  | .slot i => match δ[i]? with
    | some (.dat d) => k d δ
    | some (.own o) => frzK o fun d => k d (δ.set i (.dat d))
    | _ => False
def datRs : List Re → En → (List D → En → Prop) → Prop
  | [], δ, k => k [] δ
  | r :: rs, δ, k => datR r δ fun d δ1 => datRs rs δ1 fun ds δ2 => k (d :: ds) δ2
theorem set_mid {α : Type} {xs ys zs : List α} {y z : α} {n : Nat} (h : n = xs.length + ys.length) : (xs ++ (ys ++ y :: zs)).set n z = xs ++ (ys ++ z :: zs) := by
  subst h
  rw [List.set_append_right _ _ (by omega), List.set_append_right _ _ (by omega)]
  simp
theorem mid_get {α : Type} {xs ys zs : List α} {y : α} {n : Nat} (h : n = xs.length + ys.length) : (xs ++ (ys ++ y :: zs))[n]? = some y := by
  subst h
  rw [List.getElem?_append_right (by omega), List.getElem?_append_right (by omega)]
  simp
theorem frzK_some {o : MO} {k : D → Prop} (h : frzK o k) : ∃ d, o.frz = some d ∧ k d := by
  unfold frzK at h
  cases e : o.frz with
  | none => rw [e] at h; exact h.elim
  | some d => rw [e] at h; exact ⟨d, rfl, h⟩
theorem datR_ok {Hf H : Hp} {σ τ ws : L2.St} {δ θ ss : En} {v : V} {r : Re} {k : D → En → Prop} (hs : σ.length = B.n) (hd : δ.length = B.n) (hlt : τ.length = θ.length) (S : Sta B K Hf H (σ ++ (τ ++ some v :: ws)) (δ ++ (θ ++ r.sl :: ss))) (h : datR r δ k) :
    ∃ d δ' Hf' s, k d δ' ∧ δ'.length = B.n ∧ Same Hf Hf' ∧ Dr K Hf' v d ∧ Sta B K Hf' H (σ ++ (τ ++ some v :: ws)) (δ' ++ (θ ++ s :: ss)) := by
  have c := S.cell (B.n + τ.length) _ _ (mid_get (by omega)) (mid_get (by omega))
  cases r with
  | dat d =>
    obtain ⟨w, e, q⟩ := c
    cases e
    exact ⟨d, δ, Hf, _, h, hd, Same.refl _, q, S⟩
  | new o =>
    obtain ⟨d, hz, h⟩ := frzK_some h
    obtain ⟨Hf', e, S'⟩ := S.freeze (i := B.n + τ.length) (o := o) (d := d) (mid_get (by omega)) hz
    have c' := S'.cell (B.n + τ.length) (some v) (.dat d) (mid_get (by omega)) (by rw [List.getElem?_set_self (by simp; omega)])
    obtain ⟨w, e2, q⟩ := c'
    cases e2
    rw [set_mid (by omega)] at S'
    exact ⟨d, δ, Hf', _, h, hd, e, q, S'⟩
  | slot j =>
    obtain ⟨w, e, q⟩ := c
    cases e
    have hj := (S.bo (B.n + τ.length) j (mid_get (by omega))).1
    unfold datR at h
    cases hs' : δ[j]? with
    | none => simp only [hs'] at h
    | some s =>
      have hM : (δ ++ (θ ++ Sl.bor j :: ss))[j]? = some s := by rw [List.getElem?_append_left (by omega)]; exact hs'
      simp only [hs'] at h
      cases s with
      | un => exact h.elim
      | io o => exact h.elim
      | bor b => exact h.elim
      | fn _ => exact h.elim
      | dat d =>
        obtain ⟨w, e2, q2⟩ := S.cell j _ _ q hM
        cases e2
        exact ⟨d, δ, Hf, _, h, hd, Same.refl _, q2, S⟩
      | own o =>
        obtain ⟨d, hz, h⟩ := frzK_some h
        obtain ⟨Hf', e, S'⟩ := S.freeze (i := j) (o := o) (d := d) hM hz
        have c' := S'.cell j (some v) (.dat d) q (by rw [List.getElem?_set_self (by simp; omega)])
        obtain ⟨w, e2, q2⟩ := c'
        cases e2
        rw [List.set_append_left _ _ (by omega)] at S'
        exact ⟨d, δ.set j (.dat d), Hf', _, h, by rw [List.length_set]; exact hd, e, q2, S'⟩
theorem datRs_ok {H : Hp} {σ : L2.St} (hs : σ.length = B.n) : ∀ {rs : List Re} {δ : En} {vs : List V} {τ : L2.St} {θ : En} {Hf : Hp} {k : List D → En → Prop}, δ.length = B.n → vs.length = rs.length → Sta B K Hf H (σ ++ (τ ++ vs.map some)) (δ ++ (θ ++ rs.map Re.sl)) → datRs rs δ k →
    ∃ ds δ' Hf', k ds δ' ∧ δ'.length = B.n ∧ Same Hf Hf' ∧ DrA K Hf' vs ds ∧ Sta B K Hf' H (σ ++ τ) (δ' ++ θ)
  | [], δ, [], _, _, Hf, _, hd, _, S, h => ⟨[], δ, Hf, h, hd, Same.refl _, .nil, by simpa using S⟩
  | r :: rs, δ, v :: vs, τ, θ, Hf, k, hd, hl, S, h => by
    have hlt : τ.length = θ.length := by
      have q := S.lenT hs hd
      simp only [List.length_append, List.length_map, List.length_cons] at q hl
      omega
    obtain ⟨d, δ1, Hf1, s, k1, hd1, e1, q1, S1⟩ := datR_ok (v := v) (ws := vs.map some) (ss := rs.map Re.sl) hs hd hlt S h
    have S1' : Sta B K Hf1 H (σ ++ ((τ ++ [some v]) ++ vs.map some)) (δ1 ++ ((θ ++ [s]) ++ rs.map Re.sl)) := by simpa [List.append_assoc] using S1
    obtain ⟨ds, δ2, Hf2, k2, hd2, e2, q2, S2⟩ := datRs_ok hs (rs := rs) (vs := vs) (τ := τ ++ [some v]) (θ := θ ++ [s]) hd1 (by simpa using hl) S1' k1
    exact ⟨d :: ds, δ2, Hf2, k2, hd2, e1.trans e2, .cons (Same.dp e2 q1) q2, S2.pop1 hs hd2⟩
def dTup (a : DA) : DE := fun δ k => a δ fun rs δ1 => datRs rs δ1 fun ds δ2 => ds.length ≤ 1000 ∧ k (.dat (.tuple ds)) δ2
def dLst (a : DA) : DE := fun δ k => a δ fun rs δ1 => datRs rs δ1 fun ds δ2 => ds.length ≤ 1000 ∧ k (.new (.lst ds)) δ2
theorem sz1000 {n : Nat} (h : n ≤ 1000) : n ≤ sizeLine := Nat.le_trans h (by decide)
theorem de_tup {ta : TA} {a : DA} (ha : DAok B K ta a) : DEok B K (tTupN ta) (dTup a) := by
  intro Hf H σ τ δ θ Kc Q hs hd S h k
  refine ha Hf H σ τ δ θ _ _ hs hd S h fun rs δ1 vs Hf1 H1 h1 hd1 hl e1 S1 => ?_
  obtain ⟨ds, δ2, Hf2, ⟨k1, k2⟩, hd2, e2, q2, S2⟩ := datRs_ok hs hd1 hl S1 h1
  refine ⟨by rw [dpa_len q2]; exact sz1000 k1, fun p o hp ho => ?_⟩
  have g := Gw.fresh S2.fh (o := .frz o (.tup vs)) hp
  exact k (.dat (.tuple ds)) δ2 _ _ _ k2 hd2 ((e1.trans e2).trans g.ff) (S2.res g (.tup (.inl ⟨o, upd_same, ho⟩) (Same.dpa g.ff q2)))
theorem de_lst {ta : TA} {a : DA} (ha : DAok B K ta a) : DEok B K (tLst ta) (dLst a) := by
  intro Hf H σ τ δ θ Kc Q hs hd S h k
  refine ha Hf H σ τ δ θ _ _ hs hd S h fun rs δ1 vs Hf1 H1 h1 hd1 hl e1 S1 => ?_
  obtain ⟨ds, δ2, Hf2, ⟨k1, k2⟩, hd2, e2, q2, S2⟩ := datRs_ok hs hd1 hl S1 h1
  refine ⟨by rw [dpa_len q2]; exact sz1000 k1, fun p hp => ?_⟩
  have g := Gw.made S2.fh (o := .lst vs) hp
  have hf : Hf2 p = none := by
    cases e : Hf2 p with
    | none => rfl
    | some u => rw [S2.fh p u e] at hp; cases hp
  exact k (.new (.lst ds)) δ2 _ _ _ k2 hd2 (e1.trans e2) (S2.res g ⟨p, rfl, hp, hf, vs, upd_same, q2⟩)
def CbD (K : PySem.W.Frag) [HasW K] (r : List V → Hp → VK → Prop) (g : List D → (Re → Prop) → Prop) : Prop :=
  ∀ (Hf H : Hp) (vs : List V) (xs : List D) (Kc : Re → Prop) (Q : VK), Same Hf H → Paired (Vw K Hf H) vs xs → g xs Kc → (∀ res u Hf' H', Kc res → Gw Hf H Hf' H' → RR K H Hf' H' res u → Q u H') → r vs H Q
def dCB (g : List D → (Re → Prop) → Prop) (a : DA) : DE := fun δ k => a δ fun rs δ1 => vwRs rs δ1 fun ds => g ds fun res => k res δ1
theorem de_cb {r : List V → Hp → VK → Prop} {g : List D → (Re → Prop) → Prop} {ta : TA} {a : DA} (hr : CbD K r g) (ha : DAok B K ta a) : DEok B K (tCB r ta) (dCB g a) := by
  intro Hf H σ τ δ θ Kc Q hs hd S h k
  refine ha Hf H σ τ δ θ _ _ hs hd S h fun rs δ1 vs Hf1 H1 h1 hd1 hl e1 S1 => ?_
  obtain ⟨ds, q1, q2⟩ := vwRs_ok (τ := τ) hs hd1 hl S1 h1
  refine hr Hf1 H1 vs ds _ _ S1.fh q1 q2 fun res u Hf3 H3 q g q3 => ?_
  exact k res δ1 u Hf3 H3 q hd1 (e1.trans g.ff) ((Sta.popN hs hd1 (by simp [hl]) S1).res g q3)
def dIf (t : DB) (a b : DE) : DE := fun δ k => t δ fun c δ1 => if c = true then a δ1 k else b δ1 k
theorem de_if {t : TT} {ta tb : TE} {d : DB} {a b : DE} (ht : DBok B K t d) (ha : DEok B K ta a) (hb : DEok B K tb b) : DEok B K (tIf t ta tb) (dIf d a b) := by
  intro Hf H σ τ δ θ Kc Q hs hd S h k
  refine ht Hf H σ τ δ θ _ _ hs hd S h fun c δ1 Hf1 H1 h1 hd1 e1 S1 => ?_
  cases c with
  | true => exact ha Hf1 H1 σ τ δ1 θ _ _ hs hd1 S1 h1 fun r δ' v Hf' H' q1 q2 q3 q4 => k r δ' v Hf' H' q1 q2 (e1.trans q3) q4
  | false => exact hb Hf1 H1 σ τ δ1 θ _ _ hs hd1 S1 h1 fun r δ' v Hf' H' q1 q2 q3 q4 => k r δ' v Hf' H' q1 q2 (e1.trans q3) q4
def isB (r : Re) (δ : En) (k : Bool → Prop) : Prop := vwR r δ fun d => match d with
  | .bool b => k b
  | _ => False
def dAndV (a b : DE) : DE := fun δ k => a δ fun r δ1 => isB r δ1 fun c => if c = true then b δ1 k else k (.dat (.bool false)) δ1
def dNotV (a : DE) : DE := fun δ k => a δ fun r δ1 => isB r δ1 fun c => k (.dat (.bool (!c))) δ1
theorem isB_ok {Hf H : Hp} {σ τ : L2.St} {δ θ : En} {v : V} {r : Re} {k : Bool → Prop} (hs : σ.length = B.n) (hd : δ.length = B.n) (S : Sta B K Hf H (σ ++ (τ ++ [some v])) (δ ++ (θ ++ [r.sl]))) (h : isB r δ k) : ∃ c, v = .bl c ∧ k c := by
  have hlt := (S.pop1 hs hd).lenT hs hd
  obtain ⟨d, q1, q2⟩ := vwR_ok (v := v) (i := B.n + τ.length) S hd (top_get (by omega)) (top_get (by omega)) h
  cases d with
  | bool b => exact ⟨b, q1.bool, q2⟩
  | _ => exact q2.elim
theorem de_andV {ta tb : TE} {a b : DE} (ha : DEok B K ta a) (hb : DEok B K tb b) : DEok B K (tAndV ta tb) (dAndV a b) := by
  intro Hf H σ τ δ θ Kc Q hs hd S h k
  refine ha Hf H σ τ δ θ _ _ hs hd S h fun r1 δ1 v1 Hf1 H1 h1 hd1 e1 S1 => ?_
  obtain ⟨c, rfl, h2⟩ := isB_ok hs hd1 S1 h1
  refine ⟨c, rfl, ?_⟩
  have S1' := S1.pop1 hs hd1
  cases c with
  | true => exact hb Hf1 H1 σ τ δ1 θ _ _ hs hd1 S1' h2 fun r δ' v Hf' H' q1 q2 q3 q4 => k r δ' v Hf' H' q1 q2 (e1.trans q3) q4
  | false => exact k _ δ1 _ Hf1 H1 h2 hd1 e1 (S1'.res (r := .dat (.bool false)) (Gw.refl S1.fh) (.bl false))
theorem de_notV {ta : TE} {a : DE} (ha : DEok B K ta a) : DEok B K (tNotV ta) (dNotV a) := by
  intro Hf H σ τ δ θ Kc Q hs hd S h k
  refine ha Hf H σ τ δ θ _ _ hs hd S h fun r1 δ1 v1 Hf1 H1 h1 hd1 e1 S1 => ?_
  obtain ⟨c, rfl, h2⟩ := isB_ok hs hd1 S1 h1
  refine ⟨c, rfl, ?_⟩
  exact k _ δ1 _ Hf1 H1 h2 hd1 e1 ((S1.pop1 hs hd1).res (r := .dat (.bool (!c))) (Gw.refl S1.fh) (.bl (!c)))
def dTest (a : DE) : DB := fun δ k => a δ fun r δ1 => isB r δ1 fun c => k c δ1
theorem db_test {ta : TE} {a : DE} (ha : DEok B K ta a) : DBok B K (tTest ta) (dTest a) := by
  intro Hf H σ τ δ θ Kc Q hs hd S h k
  refine ha Hf H σ τ δ θ _ _ hs hd S h fun r1 δ1 v1 Hf1 H1 h1 hd1 e1 S1 => ?_
  obtain ⟨c, rfl, h2⟩ := isB_ok hs hd1 S1 h1
  exact ⟨c, rfl, k c δ1 Hf1 H1 h2 hd1 e1 (S1.pop1 hs hd1)⟩
theorem db_B {ta : TE} {a : DE} (ha : DEok B K ta a) : DBok B K (tB ta) (dTest a) := db_test ha
def dAnd (t u : DB) : DB := fun δ k => t δ fun c δ1 => if c = true then u δ1 k else k false δ1
def dOr (t u : DB) : DB := fun δ k => t δ fun c δ1 => if c = true then k true δ1 else u δ1 k
def dNot (t : DB) : DB := fun δ k => t δ fun c δ1 => k (!c) δ1
theorem db_and {t u : TT} {a b : DB} (ha : DBok B K t a) (hb : DBok B K u b) : DBok B K (tAnd t u) (dAnd a b) := by
  intro Hf H σ τ δ θ Kc Q hs hd S h k
  refine ha Hf H σ τ δ θ _ _ hs hd S h fun c δ1 Hf1 H1 h1 hd1 e1 S1 => ?_
  cases c with
  | true => exact hb Hf1 H1 σ τ δ1 θ _ _ hs hd1 S1 h1 fun c δ' Hf' H' q1 q2 q3 q4 => k c δ' Hf' H' q1 q2 (e1.trans q3) q4
  | false => exact k false δ1 Hf1 H1 h1 hd1 e1 S1
theorem db_or {t u : TT} {a b : DB} (ha : DBok B K t a) (hb : DBok B K u b) : DBok B K (tOr t u) (dOr a b) := by
  intro Hf H σ τ δ θ Kc Q hs hd S h k
  refine ha Hf H σ τ δ θ _ _ hs hd S h fun c δ1 Hf1 H1 h1 hd1 e1 S1 => ?_
  cases c with
  | false => exact hb Hf1 H1 σ τ δ1 θ _ _ hs hd1 S1 h1 fun c δ' Hf' H' q1 q2 q3 q4 => k c δ' Hf' H' q1 q2 (e1.trans q3) q4
  | true => exact k true δ1 Hf1 H1 h1 hd1 e1 S1
theorem db_not {t : TT} {a : DB} (ha : DBok B K t a) : DBok B K (tNot t) (dNot a) := by
  intro Hf H σ τ δ θ Kc Q hs hd S h k
  exact ha Hf H σ τ δ θ _ _ hs hd S h fun c δ1 Hf1 H1 h1 hd1 e1 S1 => k (!c) δ1 Hf1 H1 h1 hd1 e1 S1
def dChain (g g' : D → D → (Re → Prop) → Prop) (a b c : DE) : DE := fun δ k => a δ fun r1 δ1 => b δ1 fun r2 δ2 => vwR r1 δ2 fun x => vwR r2 δ2 fun y => g x y fun res => match res with
  | .dat (.bool true) => c δ2 fun r3 δ3 => vwR r2 δ3 fun y' => vwR r3 δ3 fun z => g' y' z fun res' => k res' δ3
  | .dat (.bool false) => k (.dat (.bool false)) δ2
  | _ => False
theorem de_chain {r r' : R2} {g g' : D → D → (Re → Prop) → Prop} {ta tb tc : TE} {a b c : DE} (hr : OpD K r g) (hr' : OpD K r' g') (ha : DEok B K ta a) (hb : DEok B K tb b) (hc : DEok B K tc c) : DEok B K (tChain r r' ta tb tc) (dChain g g' a b c) := by
  intro Hf H σ τ δ θ Kc Q hs hd S h k
  refine ha Hf H σ τ δ θ _ _ hs hd S h fun r1 δ1 v1 Hf1 H1 h1 hd1 e1 S1 => ?_
  refine hb Hf1 H1 σ (τ ++ [some v1]) δ1 (θ ++ [r1.sl]) _ _ hs hd1 S1 h1 fun r2 δ2 v2 Hf2 H2 h2 hd2 e2 S2 => ?_
  have hlt := S.lenT hs hd
  have S1' := S2.pop1 hs hd2
  obtain ⟨x, x1, x2⟩ := vwR_ok (v := v1) (i := B.n + τ.length) S1' hd2 (top_get (by omega)) (top_get (by omega)) h2
  obtain ⟨y, y1, y2⟩ := vwR_ok (v := v2) (i := B.n + (τ.length + 1)) S2 hd2 (top_get (by simp; omega)) (top_get (by simp; omega)) x2
  refine hr Hf2 H2 v1 v2 x y _ _ S2.fh x1 y1 y2 fun res u Hf3 H3 q g q2 => ?_
  have S3 : Sta B K Hf3 H3 (σ ++ ((τ ++ [some v1]) ++ [some v2])) (δ2 ++ ((θ ++ [r1.sl]) ++ [r2.sl])) := S2.grow g
  cases res with
  | new o => exact q.elim
  | slot i => exact q.elim
  | dat d =>
    cases d with
    | bool b =>
      have e : u = .bl b := dp_flat (H := Hf3) q2 rfl
      subst e
      refine ⟨b, rfl, ?_⟩
      cases b with
      | true =>
        show tc σ H3 _
        refine hc Hf3 H3 σ ((τ ++ [some v1]) ++ [some v2]) δ2 ((θ ++ [r1.sl]) ++ [r2.sl]) _ _ hs hd2 S3 q fun r3 δ3 v3 Hf4 H4 h4 hd4 e4 S4 => ?_
        have S4' := S4.pop1 hs hd4
        obtain ⟨y', y3, y4⟩ := vwR_ok (v := v2) (i := B.n + (τ.length + 1)) S4' hd4 (top_get (by simp; omega)) (top_get (by simp; omega)) h4
        obtain ⟨z, z1, z2⟩ := vwR_ok (v := v3) (i := B.n + (τ.length + 2)) S4 hd4 (top_get (by simp; omega)) (top_get (by simp; omega)) y4
        refine hr' Hf4 H4 v2 v3 y' z _ _ S4.fh y3 z1 z2 fun res u Hf5 H5 q5 g5 q6 => ?_
        exact k res δ3 u Hf5 H5 q5 hd4 ((((e1.trans e2).trans g.ff).trans e4).trans g5.ff) (((S4'.pop1 hs hd4).pop1 hs hd4).res g5 q6)
      | false =>
        show Q (.bl false) H3
        exact k _ δ2 _ Hf3 H3 q hd2 ((e1.trans e2).trans g.ff) (((S3.pop1 hs hd2).pop1 hs hd2).res (r := .dat (.bool false)) (Gw.refl S3.fh) (.bl false))
    | _ => exact q.elim
abbrev DO := En → (Option Int → En → Prop) → Prop
def DOok (B : Bs) (K : PySem.W.Frag) [HasW K] (to : TO) (d : DO) : Prop :=
  ∀ (Hf H : Hp) (σ τ : L2.St) (δ θ : En) (Kc : Option Int → En → Prop) (Q : Option Int → Hp → Prop), σ.length = B.n → δ.length = B.n → Sta B K Hf H (σ ++ τ) (δ ++ θ) → d δ Kc →
    (∀ b δ' Hf' H', Kc b δ' → δ'.length = B.n → Same Hf Hf' → Sta B K Hf' H' (σ ++ τ) (δ' ++ θ) → Q b H') → to σ H Q
def dNoPart : DO := fun δ k => k none δ
def dPart (a : DE) : DO := fun δ k => a δ fun r δ1 => vwR r δ1 fun d => match d with
  | .int i => k (some i) δ1
  | _ => False
theorem do_none : DOok B K tNoPart dNoPart := fun Hf H σ τ δ θ Kc Q hs hd S h k => k none δ Hf H h hd (Same.refl _) S
theorem do_some {ta : TE} {a : DE} (ha : DEok B K ta a) : DOok B K (tPart ta) (dPart a) := by
  intro Hf H σ τ δ θ Kc Q hs hd S h k
  refine ha Hf H σ τ δ θ _ _ hs hd S h fun r1 δ1 v1 Hf1 H1 h1 hd1 e1 S1 => ?_
  have hlt := S.lenT hs hd
  obtain ⟨d, q1, q2⟩ := vwR_ok (v := v1) (i := B.n + τ.length) S1 hd1 (top_get (by omega)) (top_get (by omega)) h1
  cases d with
  | int i => exact ⟨i, q1.int, k _ δ1 Hf1 H1 q2 hd1 e1 (S1.pop1 hs hd1)⟩
  | _ => exact q2.elim
def SlD (K : PySem.W.Frag) [HasW K] (r : V → Option Int → Option Int → Hp → VK → Prop) (g : D → Option Int → Option Int → (Re → Prop) → Prop) : Prop :=
  ∀ (Hf H : Hp) (v : V) (x : D) (lo hi : Option Int) (Kc : Re → Prop) (Q : VK), Same Hf H → Vw K Hf H v x → g x lo hi Kc → (∀ res u Hf' H', Kc res → Gw Hf H Hf' H' → RR K H Hf' H' res u → Q u H') → r v lo hi H Q
def dSl (g : D → Option Int → Option Int → (Re → Prop) → Prop) (a : DE) (l h : DO) : DE := fun δ k => a δ fun r δ1 => l δ1 fun lo δ2 => h δ2 fun hi δ3 => vwR r δ3 fun x => g x lo hi fun res => k res δ3
theorem de_sl {r : V → Option Int → Option Int → Hp → VK → Prop} {g : D → Option Int → Option Int → (Re → Prop) → Prop} {ta : TE} {tl th : TO} {a : DE} {l h : DO} (hr : SlD K r g) (ha : DEok B K ta a) (hl : DOok B K tl l) (hh : DOok B K th h) : DEok B K (tSl r ta tl th) (dSl g a l h) := by
  intro Hf H σ τ δ θ Kc Q hs hd S hq k
  refine ha Hf H σ τ δ θ _ _ hs hd S hq fun r1 δ1 v1 Hf1 H1 h1 hd1 e1 S1 => ?_
  refine hl Hf1 H1 σ (τ ++ [some v1]) δ1 (θ ++ [r1.sl]) _ _ hs hd1 S1 h1 fun lo δ2 Hf2 H2 h2 hd2 e2 S2 => ?_
  refine hh Hf2 H2 σ (τ ++ [some v1]) δ2 (θ ++ [r1.sl]) _ _ hs hd2 S2 h2 fun hi δ3 Hf3 H3 h3 hd3 e3 S3 => ?_
  have hlt := S.lenT hs hd
  obtain ⟨x, x1, x2⟩ := vwR_ok (v := v1) (i := B.n + τ.length) S3 hd3 (top_get (by omega)) (top_get (by omega)) h3
  refine hr Hf3 H3 v1 x lo hi _ _ S3.fh x1 x2 fun res u Hf4 H4 q g q2 => ?_
  exact k res δ3 u Hf4 H4 q hd3 (((e1.trans e2).trans e3).trans g.ff) ((S3.pop1 hs hd3).res g q2)
end Pd
set_option Elab.async false
set_option linter.all false
set_option maxRecDepth 100000
set_option maxHeartbeats 2000000
namespace Pd
open PySem PySem.Spec PyProof.Rows L2
variable {K : PySem.W.Frag} [HasW K] {B : Bs}
def unS (δ : En) : List Nat → En
  | [] => δ
  | v :: vs => (unS δ vs).set v .un
theorem unS_len (δ : En) : ∀ vs : List Nat, (unS δ vs).length = δ.length
  | [] => rfl
  | v :: vs => by unfold unS; rw [List.length_set, unS_len δ vs]
theorem unS_in {δ : En} : ∀ {vs : List Nat} {i : Nat}, i ∈ vs → i < δ.length → (unS δ vs)[i]? = some .un
  | v :: vs, i, h, hi => by
    unfold unS
    by_cases e : v = i
    · subst e
      rw [List.getElem?_set_self (by rw [unS_len]; exact hi)]
    · rw [List.getElem?_set_ne e]
      exact unS_in (by simpa [Ne.symm e] using h) hi
theorem unS_out {δ : En} {i : Nat} : ∀ {vs : List Nat}, i ∉ vs → (unS δ vs)[i]? = δ[i]?
  | [], _ => rfl
  | v :: vs, h => by
    unfold unS
    have h1 : v ≠ i := fun e => h (by simp [e])
    rw [List.getElem?_set_ne h1]
    exact unS_out fun q => h (List.mem_cons_of_mem _ q)
def NoB (θ : En) (vs : List Nat) : Prop := ∀ b, Sl.bor b ∈ θ → b ∉ vs
theorem bor_at {Hf H : Hp} {σ τ : L2.St} {δ θ : En} {k b : Nat} (S : Sta B K Hf H (σ ++ τ) (δ ++ θ)) (hd : δ.length = B.n) (h : (δ ++ θ)[k]? = some (.bor b)) : Sl.bor b ∈ θ := by
  have := (S.bo k b h).2.1
  rw [List.getElem?_append_right (by omega)] at h
  exact List.mem_of_getElem? h
theorem Sta.wiped {Hf H : Hp} {σ σ' τ : L2.St} {δ θ : En} {vs : List Nat} (S : Sta B K Hf H (σ ++ τ) (δ ++ θ)) (hs : σ.length = B.n) (hd : δ.length = B.n) (hl : σ'.length = σ.length) (hb : NoB θ vs) (h : ∀ i, i ∉ vs → σ'[i]? = σ[i]?) : Sta B K Hf H (σ' ++ τ) (unS δ vs ++ θ) := by
  have len := S.len
  have nl := S.nl
  simp only [List.length_append] at len nl
  have same : ∀ k, k ∉ vs ∨ B.n ≤ k → (σ' ++ τ)[k]? = (σ ++ τ)[k]? ∧ (unS δ vs ++ θ)[k]? = (δ ++ θ)[k]? := fun k hk => by
    by_cases hkn : k < B.n
    · have hkv : k ∉ vs := by
        rcases hk with hk | hk
        · exact hk
        · omega
      rw [List.getElem?_append_left (by omega), List.getElem?_append_left (by omega), List.getElem?_append_left (by rw [unS_len]; omega), List.getElem?_append_left (by omega)]
      exact ⟨h k hkv, unS_out hkv⟩
    · rw [List.getElem?_append_right (by omega), List.getElem?_append_right (by omega), List.getElem?_append_right (by rw [unS_len]; omega), List.getElem?_append_right (by omega), hl, unS_len]
      exact ⟨rfl, rfl⟩
  refine S.sub id (by simp only [List.length_append, unS_len]; omega) (by simp only [List.length_append]; omega) (fun i x s h1 h2 => ?_) fun i j _ _ _ _ _ _ _ _ e => e
  by_cases hi : i ∈ vs ∧ i < B.n
  · left
    rw [List.getElem?_append_left (by rw [unS_len]; omega), unS_in hi.1 (by omega)] at h2
    exact (Option.some.inj h2).symm
  · have hi' : i ∉ vs ∨ B.n ≤ i := by
      by_cases q : i ∈ vs
      · right
        have : ¬ i < B.n := fun z => hi ⟨q, z⟩
        omega
      · exact .inl q
    obtain ⟨e1, e2⟩ := same i hi'
    rw [e1] at h1
    rw [e2] at h2
    refine .inr (.inr ⟨h1, h2, fun b e => ?_, fun _ _ => rfl⟩)
    subst e
    have hbv := hb b (bor_at S hd h2)
    obtain ⟨b1, b2, b3⟩ := S.bo i b h2
    exact ⟨(same b (.inl hbv)).1, b2, by rw [(same b (.inl hbv)).2]; exact b3⟩
theorem Sta.putD {Hf H : Hp} {σ τ : L2.St} {δ θ : En} {i : Nat} {v : V} {d : D} (S : Sta B K Hf H (σ ++ τ) (δ ++ θ)) (hs : σ.length = B.n) (hd : δ.length = B.n) (hi : i < B.n) (hb : NoB θ [i]) (h : Dr K Hf v d) : Sta B K Hf H (σ.set i (some v) ++ τ) (δ.set i (.dat d) ++ θ) := by
  have len := S.len
  have nl := S.nl
  simp only [List.length_append] at len nl
  have same : ∀ k, k ≠ i → (σ.set i (some v) ++ τ)[k]? = (σ ++ τ)[k]? ∧ (δ.set i (.dat d) ++ θ)[k]? = (δ ++ θ)[k]? := fun k hk => by
    rw [← List.set_append_left _ _ (by omega), ← List.set_append_left _ _ (by omega), List.getElem?_set_ne (Ne.symm hk), List.getElem?_set_ne (Ne.symm hk)]
    exact ⟨rfl, rfl⟩
  refine S.sub id (by simp only [List.length_append, List.length_set]; omega) (by simp only [List.length_append, List.length_set]; omega) (fun k x s h1 h2 => ?_) fun i j _ _ _ _ _ _ _ _ e => e
  by_cases hk : k = i
  · subst hk
    rw [List.getElem?_append_left (by rw [List.length_set]; omega), List.getElem?_set_self (by omega)] at h1 h2
    exact .inr (.inl ⟨d, v, (Option.some.inj h2).symm, (Option.some.inj h1).symm, h⟩)
  · obtain ⟨e1, e2⟩ := same k hk
    rw [e1] at h1
    rw [e2] at h2
    refine .inr (.inr ⟨h1, h2, fun b e => ?_, fun _ _ => rfl⟩)
    subst e
    have hbi : b ≠ i := fun z => hb b (bor_at S hd h2) (by simp [z])
    obtain ⟨b1, b2, b3⟩ := S.bo k b h2
    exact ⟨(same b hbi).1, b2, by rw [(same b hbi).2]; exact b3⟩
def putR (r : Re) (i : Nat) (δ : En) (k : En → Prop) : Prop := match r with
  | .dat d => k (δ.set i (.dat d))
  | .new o => k (δ.set i (.own o))
  | .slot j => match δ[j]? with
    | some (.dat d) => k (δ.set i (.dat d))
    | some (.own (.lst xs)) => k ((δ.set j (.dat (.list xs))).set i (.dat (.list xs)))
    | some (.own o) => k ((δ.set j .un).set i (.own o))
    | _ => False
theorem nob_nil {vs : List Nat} : NoB [] vs := fun b h => by simp at h
theorem putR_ok {Hf H : Hp} {σ : L2.St} {δ : En} {i : Nat} {v : V} {r : Re} {k : En → Prop} (S : Sta B K Hf H (σ ++ [some v]) (δ ++ [r.sl])) (hs : σ.length = B.n) (hd : δ.length = B.n) (hi : i < B.n) (h : putR r i δ k) :
    ∃ δ' Hf', k δ' ∧ δ'.length = B.n ∧ Same Hf Hf' ∧ Sta B K Hf' H (σ.set i (some v)) δ' := by
  have top : (σ ++ [some v])[B.n]? = some (some v) := by rw [List.getElem?_append_right (by omega)]; simp [hs]
  have topM : (δ ++ [r.sl])[B.n]? = some r.sl := by rw [List.getElem?_append_right (by omega)]; simp [hd]
  have S0 : Sta B K Hf H σ δ := S.pop (by omega) (by omega)
  have c := S.cell B.n _ _ top topM
  have asD : ∀ (Hf : Hp) (δ : En) (d : D), δ.length = B.n → Sta B K Hf H σ δ → Dr K Hf v d → Sta B K Hf H (σ.set i (some v)) (δ.set i (.dat d)) := fun Hf δ d hd S h => by
    have := Sta.putD (τ := []) (θ := []) (i := i) (by simpa using S) hs hd hi nob_nil h
    simpa using this
  cases r with
  | dat d =>
    obtain ⟨w, e, q⟩ := c
    cases e
    exact ⟨_, Hf, h, by simp [hd], Same.refl _, asD Hf δ d hd S0 q⟩
  | new o =>
    refine ⟨_, Hf, h, by simp [hd], Same.refl _, ?_⟩
    refine S.sub (fun k => if k = i then B.n else k) (by simp [hs, hd]) (by simp [hs]) (fun k x s h1 h2 => ?_) fun k j s t o1 u h1 h2 h3 h4 e => ?_
    · by_cases hk : k = i
      · subst hk
        rw [List.getElem?_set_self (by omega)] at h1 h2
        cases h1; cases h2
        refine .inr (.inr ⟨by simp only [if_pos]; exact top, by simp only [if_pos]; exact topM, ⟨fun b e => (by cases e), fun _ e => (by cases e)⟩⟩)
      · rw [List.getElem?_set_ne (Ne.symm hk)] at h1 h2
        have hkl : k < δ.length := (List.getElem?_eq_some_iff.mp h2).1
        refine .inr (.inr ⟨by rw [if_neg hk, List.getElem?_append_left (by omega)]; exact h1, by rw [if_neg hk, List.getElem?_append_left (by omega)]; exact h2, fun b e => ?_, fun _ _ => if_neg hk⟩)
        subst e
        have := (S0.bo k b h2).2.1
        omega
    · have lt : ∀ (k : Nat) s, (δ.set i (Sl.own o))[k]? = some s → k < B.n := fun k s q => by
        have := (List.getElem?_eq_some_iff.mp q).1
        simp only [List.length_set] at this
        omega
      have hk := lt k _ h1
      have hj := lt j _ h2
      by_cases e1 : k = i <;> by_cases e2 : j = i <;> simp only [e1, e2, if_true, if_false] at e ⊢ <;> omega
  | slot j =>
    obtain ⟨w, e, q⟩ := c
    cases e
    have hj := (S.bo B.n j topM).1
    have qσ : σ[j]? = some (some v) := by rw [List.getElem?_append_left (by omega)] at q; exact q
    unfold putR at h
    cases hs' : δ[j]? with
    | none => simp only [hs'] at h
    | some s =>
      simp only [hs'] at h
      cases s with
      | un => exact h.elim
      | io o => exact h.elim
      | bor b => exact h.elim
      | fn _ => exact h.elim
      | dat d =>
        obtain ⟨w, e2, q2⟩ := S0.cell j _ _ qσ hs'
        cases e2
        exact ⟨_, Hf, h, by simp [hd], Same.refl _, asD Hf δ d hd S0 q2⟩
      | own o =>
        have move : k ((δ.set j .un).set i (.own o)) → ∃ δ' Hf', k δ' ∧ δ'.length = B.n ∧ Same Hf Hf' ∧ Sta B K Hf' H (σ.set i (some v)) δ' := fun h => by
          refine ⟨_, Hf, h, by simp [hd], Same.refl _, ?_⟩
          refine S0.sub (fun k => if k = i then j else k) (by simp [hs, hd]) (by simp [hs]) (fun k x s h1 h2 => ?_) fun k l s t o' u h1 h2 h3 h4 e => ?_
          · by_cases hk : k = i
            · subst hk
              rw [List.getElem?_set_self (by omega)] at h1
              rw [List.getElem?_set_self (by rw [List.length_set]; omega)] at h2
              cases h1; cases h2
              exact .inr (.inr ⟨by simp only [if_pos]; exact qσ, by simp only [if_pos]; exact hs', ⟨fun b e => (by cases e), fun _ e => (by cases e)⟩⟩)
            · rw [List.getElem?_set_ne (Ne.symm hk)] at h1 h2
              by_cases hkj : k = j
              · subst hkj
                rw [List.getElem?_set_self (by omega)] at h2
                exact .inl (Option.some.inj h2).symm
              · rw [List.getElem?_set_ne (Ne.symm hkj)] at h2
                refine .inr (.inr ⟨by rw [if_neg hk]; exact h1, by rw [if_neg hk]; exact h2, fun b e => ?_, fun _ _ => if_neg hk⟩)
                subst e
                have := (S0.bo k b h2).2.1
                have := (List.getElem?_eq_some_iff.mp h2).1
                omega
          · by_cases e1 : k = i
            · by_cases e2 : l = i
              · rw [e1, e2]
              · exfalso
                rw [if_pos e1, if_neg e2] at e
                subst e
                rw [List.getElem?_set_ne (Ne.symm e2), List.getElem?_set_self (by omega)] at h2
                cases h2
                cases h4
            · by_cases e2 : l = i
              · exfalso
                rw [if_neg e1, if_pos e2] at e
                subst e
                rw [List.getElem?_set_ne (Ne.symm e1), List.getElem?_set_self (by omega)] at h1
                cases h1
                cases h3
              · rw [if_neg e1, if_neg e2] at e
                exact e
        cases o with
        | dK _ => exact move h
        | dT _ => exact move h
        | tre _ _ => exact move h
        | lst xs =>
          obtain ⟨Hf', e, S'⟩ := S0.freeze (i := j) (o := .lst xs) (d := .list xs) hs' rfl
          obtain ⟨w, e2, q2⟩ := S'.cell j (some v) (.dat (.list xs)) qσ (by rw [List.getElem?_set_self (by omega)])
          cases e2
          exact ⟨_, Hf', h, by simp [hd], e, asD Hf' _ _ (by simp [hd]) S' q2⟩
structure DEnds where
  nx : En → Prop
  rt : Re → En → Prop
  bk : En → Prop := fun _ => False
  ct : En → Prop := fun _ => False
abbrev DT := DEnds → En → Prop
structure Sim (B : Bs) (K : PySem.W.Frag) [HasW K] (Hf0 : Hp) (D : Ends) (E : DEnds) : Prop where
  nx : ∀ Hf H σ δ, Same Hf0 Hf → σ.length = B.n → δ.length = B.n → Sta B K Hf H σ δ → E.nx δ → D.nx σ H
  rt : ∀ Hf H σ δ v r, Same Hf0 Hf → σ.length = B.n → δ.length = B.n → Sta B K Hf H (σ ++ [some v]) (δ ++ [r.sl]) → E.rt r δ → D.rt v H
  bk : ∀ Hf H σ δ, Same Hf0 Hf → σ.length = B.n → δ.length = B.n → Sta B K Hf H σ δ → E.bk δ → D.bk σ H
  ct : ∀ Hf H σ δ, Same Hf0 Hf → σ.length = B.n → δ.length = B.n → Sta B K Hf H σ δ → E.ct δ → D.ct σ H
theorem Sim.mono {Hf0 Hf1 : Hp} {D : Ends} {E : DEnds} (S : Sim B K Hf0 D E) (e : Same Hf0 Hf1) : Sim B K Hf1 D E :=
  ⟨fun Hf H σ δ q => S.nx Hf H σ δ (e.trans q), fun Hf H σ δ v r q => S.rt Hf H σ δ v r (e.trans q), fun Hf H σ δ q => S.bk Hf H σ δ (e.trans q), fun Hf H σ δ q => S.ct Hf H σ δ (e.trans q)⟩
def DSok (B : Bs) (K : PySem.W.Frag) [HasW K] (ts : TS) (dt : DT) : Prop :=
  ∀ (Hf H : Hp) (σ : L2.St) (δ : En) (D : Ends) (E : DEnds), σ.length = B.n → δ.length = B.n → Sta B K Hf H σ δ → Sim B K Hf D E → dt E δ → ts D σ H
theorem DEok.use {te : TE} {de : DE} (h : DEok B K te de) {Hf H : Hp} {σ : L2.St} {δ : En} {Kc : Re → En → Prop} {Q : VK} (hs : σ.length = B.n) (hd : δ.length = B.n) (S : Sta B K Hf H σ δ) (q : de δ Kc)
    (k : ∀ r δ' v Hf' H', Kc r δ' → δ'.length = B.n → Same Hf Hf' → Sta B K Hf' H' (σ ++ [some v]) (δ' ++ [r.sl]) → Q v H') : te σ H Q :=
  h Hf H σ [] δ [] Kc Q hs hd (by simpa using S) q fun r δ' v Hf' H' q1 q2 q3 q4 => k r δ' v Hf' H' q1 q2 q3 (by simpa using q4)
theorem DBok.use {tt : TT} {db : DB} (h : DBok B K tt db) {Hf H : Hp} {σ : L2.St} {δ : En} {Kc : Bool → En → Prop} {Q : Bool → Hp → Prop} (hs : σ.length = B.n) (hd : δ.length = B.n) (S : Sta B K Hf H σ δ) (q : db δ Kc)
    (k : ∀ b δ' Hf' H', Kc b δ' → δ'.length = B.n → Same Hf Hf' → Sta B K Hf' H' σ δ' → Q b H') : tt σ H Q :=
  h Hf H σ [] δ [] Kc Q hs hd (by simpa using S) q fun b δ' Hf' H' q1 q2 q3 q4 => k b δ' Hf' H' q1 q2 q3 (by simpa using q4)
theorem DAok.use {ta : TA} {da : DA} (h : DAok B K ta da) {Hf H : Hp} {σ : L2.St} {δ : En} {Kc : List Re → En → Prop} {Q : List V → Hp → Prop} (hs : σ.length = B.n) (hd : δ.length = B.n) (S : Sta B K Hf H σ δ) (q : da δ Kc)
    (k : ∀ rs δ' vs Hf' H', Kc rs δ' → δ'.length = B.n → vs.length = rs.length → Same Hf Hf' → Sta B K Hf' H' (σ ++ ([] ++ vs.map some)) (δ' ++ ([] ++ rs.map Re.sl)) → Q vs H') : ta σ H Q :=
  h Hf H σ [] δ [] Kc Q hs hd (by simpa using S) q k
def dNext : DT := fun E δ => E.nx δ
def dSeq (t u : DT) : DT := fun E δ => t { E with nx := u E } δ
def dDrop (e : DE) : DT := fun E δ => e δ fun _ δ1 => E.nx δ1
def dRet (e : DE) : DT := fun E δ => e δ fun r δ1 => E.rt r δ1
def dIfS (t : DB) (a b : DT) : DT := fun E δ => t δ fun c δ1 => if c = true then a E δ1 else b E δ1
def dAsg (i : Nat) (e : DE) : DT := fun E δ => e δ fun r δ1 => putR r i δ1 E.nx
theorem ds_next : DSok B K tNext dNext := fun Hf H σ δ D E hs hd S M h => M.nx Hf H σ δ (Same.refl _) hs hd S h
theorem ds_seq {t u : TS} {a b : DT} (ha : DSok B K t a) (hb : DSok B K u b) : DSok B K (tSeq t u) (dSeq a b) := fun Hf H σ δ D E hs hd S M h =>
  ha Hf H σ δ _ { E with nx := b E } hs hd S ⟨fun Hf' H' σ' δ' e hs' hd' S' q => hb Hf' H' σ' δ' D E hs' hd' S' (M.mono e) q, M.rt, M.bk, M.ct⟩ h
theorem ds_drop {te : TE} {e : DE} (he : DEok B K te e) : DSok B K (tDrop te) (dDrop e) := fun Hf H σ δ D E hs hd S M h =>
  he.use hs hd S h fun r δ' v Hf' H' q1 q2 q3 q4 => M.nx Hf' H' σ δ' q3 hs q2 (q4.pop (by omega) (by omega)) q1
theorem ds_ret {te : TE} {e : DE} (he : DEok B K te e) : DSok B K (tRet te) (dRet e) := fun Hf H σ δ D E hs hd S M h =>
  he.use hs hd S h fun r δ' v Hf' H' q1 q2 q3 q4 => M.rt Hf' H' σ δ' v r q3 hs q2 q4 q1
theorem ds_if {t : TT} {u w : TS} {c : DB} {a b : DT} (ht : DBok B K t c) (ha : DSok B K u a) (hb : DSok B K w b) : DSok B K (tIfS t u w) (dIfS c a b) := fun Hf H σ δ D E hs hd S M h =>
  ht.use hs hd S h fun b δ' Hf' H' q1 q2 q3 q4 => by
    cases b with
    | true => exact ha Hf' H' σ δ' D E hs q2 q4 (M.mono q3) q1
    | false => exact hb Hf' H' σ δ' D E hs q2 q4 (M.mono q3) q1
theorem ds_asg {te : TE} {e : DE} {i : Nat} (he : DEok B K te e) (hi : i < B.n) : DSok B K (tAsg te (gName i)) (dAsg i e) := fun Hf H σ δ D E hs hd S M h =>
  he.use hs hd S h fun r δ' v Hf' H' q1 q2 q3 q4 => by
    obtain ⟨δ2, Hf2, k1, k2, k3, k4⟩ := putR_ok q4 hs q2 hi q1
    exact M.nx Hf2 H' _ δ2 (q3.trans k3) (by rw [List.length_set]; exact hs) k2 k4 k1
theorem Sta.put0 {Hf H : Hp} {σ : L2.St} {δ : En} {i : Nat} {v : V} {d : D} (S : Sta B K Hf H σ δ) (hs : σ.length = B.n) (hd : δ.length = B.n) (hi : i < B.n) (h : Dr K Hf v d) : Sta B K Hf H (σ.set i (some v)) (δ.set i (.dat d)) := by
  have := Sta.putD (τ := []) (θ := []) (i := i) (by simpa using S) hs hd hi nob_nil h
  simpa using this
abbrev DG := D → En → (En → Prop) → Prop
def gN (i : Nat) : DG := fun d δ k => k (δ.set i (.dat d))
def setAll : List Nat → List D → En → (En → Prop) → Prop
  | [], [], δ, k => k δ
  | i :: is, d :: ds, δ, k => setAll is ds (δ.set i (.dat d)) k
  | _, _, _, _ => False
def gT (is : List Nat) : DG := fun d δ k => match d with
  | .tuple ds => setAll is ds δ k
  | _ => False
def gNames : List Nat → TGs
  | [] => gNil
  | i :: is => gCons (gName i) (gNames is)
def DGok (B : Bs) (K : PySem.W.Frag) [HasW K] (g : TG) (dg : DG) (is : List Nat) : Prop :=
  ∀ (Hf H : Hp) (σ τ : L2.St) (δ θ : En) (x : V) (d : D) (k : En → Prop) (Q : L2.St → Hp → Prop), σ.length = B.n → δ.length = B.n → NoB θ is → Sta B K Hf H (σ ++ τ) (δ ++ θ) → Dr K Hf x d → dg d δ k →
    (∀ σ' δ', k δ' → σ'.length = B.n → δ'.length = B.n → (∀ i, i ∉ is → σ'[i]? = σ[i]?) → Sta B K Hf H (σ' ++ τ) (δ' ++ θ) → Q σ' H) → g x σ H Q
theorem dg_name {i : Nat} (hi : i < B.n) : DGok B K (gName i) (gN i) [i] := fun Hf H σ τ δ θ x d k Q hs hd hb S h q kk =>
  kk _ _ q (by simp [hs]) (by simp [hd]) (fun j hj => List.getElem?_set_ne (by simpa using Ne.symm (by simpa using hj))) (S.putD hs hd hi hb h)
theorem gNames_ok {Hf H : Hp} {τ : L2.St} {θ : En} : ∀ (is : List Nat) (ds : List D) (vs : List V) (σ : L2.St) (δ : En) (k : En → Prop) (Q : L2.St → Hp → Prop), (∀ i ∈ is, i < B.n) → σ.length = B.n → δ.length = B.n → NoB θ is → Sta B K Hf H (σ ++ τ) (δ ++ θ) → DrA K Hf vs ds → setAll is ds δ k →
    (∀ σ' δ', k δ' → σ'.length = B.n → δ'.length = B.n → (∀ i, i ∉ is → σ'[i]? = σ[i]?) → Sta B K Hf H (σ' ++ τ) (δ' ++ θ) → Q σ' H) → gNames is vs σ H Q
  | [], [], _, σ, δ, k, Q, hi, hs, hd, hb, S, .nil, h, kk => ⟨rfl, kk σ δ h hs hd (fun _ _ => rfl) S⟩
  | i :: is, d :: ds, _, σ, δ, k, Q, hi, hs, hd, hb, S, .cons h1 h2, h, kk => by
    refine ⟨_, _, rfl, ?_⟩
    refine gNames_ok is ds _ (σ.set i (some _)) (δ.set i (.dat d)) k Q (fun j hj => hi j (List.mem_cons_of_mem _ hj)) (by simp [hs]) (by simp [hd]) (fun b hm z => hb b hm (List.mem_cons_of_mem _ z)) (S.putD hs hd (hi i List.mem_cons_self) (fun b hm z => hb b hm (by simp at z; simp [z])) h1) h2 h fun σ' δ' q1 q2 q3 q4 q5 => ?_
    refine kk σ' δ' q1 q2 q3 (fun j hj => ?_) q5
    rw [q4 j fun z => hj (List.mem_cons_of_mem _ z)]
    exact List.getElem?_set_ne fun z => hj (by simp [z])
  | [], _ :: _, _, _, _, _, _, _, _, _, _, _, _, h, _ => h.elim
  | _ :: _, [], _, _, _, _, _, _, _, _, _, _, _, h, _ => h.elim
theorem setAll_len {k : En → Prop} : ∀ (is : List Nat) (ds : List D) (δ : En), setAll is ds δ k → ds.length = is.length
  | [], [], _, _ => rfl
  | i :: is, d :: ds, δ, h => by
    have := setAll_len is ds (δ.set i (.dat d)) h
    simp [this]
  | [], _ :: _, _, h => h.elim
  | _ :: _, [], _, h => h.elim
theorem dg_tup {is : List Nat} {n : Nat} (hi : ∀ i ∈ is, i < B.n) (hn : is.length = n) : DGok B K (gTup K n (gNames is)) (gT is) is := fun Hf H σ τ δ θ x d k Q hs hd hb S h q kk => by
  cases d with
  | tuple ds =>
    cases h with
    | tup h1 h2 =>
      refine ⟨_, _, rfl, sqt_mono S.fh h1, ?_, gNames_ok is ds _ σ δ k Q hi hs hd hb S h2 q kk⟩
      rw [dpa_len h2, setAll_len is ds δ q, hn]
  | _ => exact q.elim
def dUnp (is : List Nat) (e : DE) : DT := fun E δ => e δ fun r δ1 => match r with
  | .dat d => gT is d δ1 E.nx
  | _ => False
theorem ds_unp {te : TE} {e : DE} {is : List Nat} {n : Nat} (he : DEok B K te e) (hi : ∀ i ∈ is, i < B.n) (hn : is.length = n) : DSok B K (tAsg te (gTup K n (gNames is))) (dUnp is e) := fun Hf H σ δ D E hs hd S M h =>
  he.use hs hd S h fun r δ' v Hf' H' q1 q2 q3 q4 => by
    have top : (σ ++ [some v])[B.n]? = some (some v) := by rw [List.getElem?_append_right (by omega)]; simp [hs]
    have topM : (δ' ++ [r.sl])[B.n]? = some r.sl := by rw [List.getElem?_append_right (by omega)]; simp [q2]
    cases r with
    | new o => exact q1.elim
    | slot j => exact q1.elim
    | dat d =>
      obtain ⟨w, e, q⟩ := q4.cell B.n _ _ top topM
      cases e
      exact dg_tup hi hn Hf' H' σ [] δ' [] v d E.nx D.nx hs q2 nob_nil (by simpa using q4.pop (by omega) (by omega)) q q1 fun σ' δ2 k1 k2 k3 _ k5 => M.nx Hf' H' σ' δ2 q3 k2 k3 (by simpa using k5) k1
structure Its' (K : PySem.W.Frag) [HasW K] (J : It) (items : List D) (Hf0 : Hp) : Prop where
  ex : ∃ G Y, Walk J items.length G Y ∧ (∀ Hf H, Same Hf0 Hf → Same Hf H → G H) ∧
    ∀ i Hf H x H', Same Hf0 Hf → Same Hf H → i < items.length → Y i H x H' → ∃ Hf' d, Gw Hf H Hf' H' ∧ items[i]? = some d ∧ Dr K Hf' x d
abbrev DI := En → (List D → En → Prop) → Prop
def DIok (B : Bs) (K : PySem.W.Frag) [HasW K] (wi : TI) (di : DI) : Prop :=
  ∀ (Hf H : Hp) (σ τ : L2.St) (δ θ : En) (Kc : List D → En → Prop) (R : It → Hp → Prop), σ.length = B.n → δ.length = B.n → Sta B K Hf H (σ ++ τ) (δ ++ θ) → di δ Kc →
    (∀ xs δ' J Hf' H', Kc xs δ' → δ'.length = B.n → Same Hf Hf' → Sta B K Hf' H' (σ ++ τ) (δ' ++ θ) → Its' K J xs Hf' → R J H') → wi σ H R
def forGo (dg : DG) (body : DT) (E : DEnds) : List D → En → Prop
  | [], δ => E.nx δ
  | x :: xs, δ => dg x δ fun δ1 => body { E with nx := forGo dg body E xs, ct := forGo dg body E xs, bk := E.nx } δ1
def dFor (di : DI) (dg : DG) (body : DT) : DT := fun E δ => di δ fun xs δ1 => forGo dg body E xs δ1
theorem drop_at {α : Type} {xs : List α} {i : Nat} {x : α} (h : xs[i]? = some x) : xs.drop i = x :: xs.drop (i + 1) := by
  obtain ⟨hi, e⟩ := List.getElem?_eq_some_iff.mp h
  rw [← e]
  exact List.drop_eq_getElem_cons hi
theorem ds_for {wi : TI} {g : TG} {tb : TS} {di : DI} {dg : DG} {body : DT} {is : List Nat} (hi : DIok B K wi di) (hg : DGok B K g dg is) (hb : DSok B K tb body) : DSok B K (tFor wi g tb) (dFor di dg body) := fun Hf H σ δ D E hs hd S M h => by
  refine hi Hf H σ [] δ [] _ _ hs hd (by simpa using S) h fun xs δ1 J Hf1 H1 q1 q2 q3 q4 q5 => ?_
  obtain ⟨G, Y, w, hG, hY⟩ := q5.ex
  refine for_it w (fun i σ H => ∃ Hf δ, Same Hf1 Hf ∧ σ.length = B.n ∧ δ.length = B.n ∧ Sta B K Hf H σ δ ∧ forGo dg body E (xs.drop i) δ) ⟨Hf1, δ1, Same.refl _, hs, q2, by simpa using q4, by simpa using q1⟩ (fun i σ H _ ⟨Hf, δ, e, _, _, S, _⟩ => hG Hf H e S.fh) (fun i x σ H H' hi ⟨Hf, δ, e, hs, hd, S, go⟩ y => ?_) fun σ H ⟨Hf, δ, e, hs, hd, S, go⟩ => ?_
  · obtain ⟨Hf', d, gw, ei, dx⟩ := hY i Hf H x H' e S.fh hi y
    rw [drop_at ei] at go
    refine hg Hf' H' σ [] δ [] x d _ _ hs hd nob_nil (by simpa using S.grow gw) dx go fun σ2 δ2 k1 k2 k3 _ k5 => ?_
    refine hb Hf' H' σ2 δ2 _ { E with nx := forGo dg body E (xs.drop (i + 1)), ct := forGo dg body E (xs.drop (i + 1)), bk := E.nx } k2 k3 (by simpa using k5) ⟨fun Hf2 H2 σ3 δ3 e3 l1 l2 S3 n3 => ⟨Hf2, δ3, (e.trans gw.ff).trans e3, l1, l2, S3, n3⟩, fun Hf2 H2 σ3 δ3 v r e3 => (M.mono ((q3.trans e).trans gw.ff)).rt Hf2 H2 σ3 δ3 v r e3, fun Hf2 H2 σ3 δ3 e3 => (M.mono ((q3.trans e).trans gw.ff)).nx Hf2 H2 σ3 δ3 e3, fun Hf2 H2 σ3 δ3 e3 l1 l2 S3 n3 => ⟨Hf2, δ3, (e.trans gw.ff).trans e3, l1, l2, S3, n3⟩⟩ k1
  · have e0 : xs.drop xs.length = [] := List.drop_length
    rw [e0] at go
    exact M.nx Hf H σ δ (q3.trans e) hs hd S go
end Pd
set_option Elab.async false
set_option linter.all false
set_option maxRecDepth 100000
set_option maxHeartbeats 2000000
namespace Pd
open PySem PySem.Spec PyProof.Rows L2
variable {K : PySem.W.Frag} [HasW K] {B : Bs}
def lcGo (dg : DG) (dt : DB) (de : DE) (vs : List Nat) (k : List D → En → Prop) : List D → List D → En → Prop
  | [], acc, δ => k acc δ
  | x :: xs, acc, δ => dg x δ fun δ1 => dt δ1 fun b δ2 => if b = true then de δ2 fun r δ3 => datR r δ3 fun d δ4 => acc.length < 100000 ∧ lcGo dg dt de vs k xs (acc ++ [d]) (unS δ4 vs) else lcGo dg dt de vs k xs acc (unS δ2 vs)
def dLc (di : DI) (dg : DG) (dt : DB) (de : DE) (vs : List Nat) : DE := fun δ k => di δ fun xs δ1 => unS δ1 vs = δ1 ∧ lcGo dg dt de vs (fun ys δ2 => k (.new (.lst ys)) δ2) xs [] δ1
theorem wipe_get {σ : L2.St} {vs : List Nat} {i : Nat} (h : i ∈ vs) (hi : i < σ.length) : (wipe σ vs)[i]? = some none := by
  induction vs with
  | nil => simp at h
  | cons v vs ih =>
    unfold wipe
    by_cases e : v = i
    · subst e
      rw [List.getElem?_set_self (by rw [wipe_length]; exact hi)]
    · rw [List.getElem?_set_ne e]
      exact ih (by simpa [Ne.symm e] using h)
theorem wipe_ext {σ σ' : L2.St} {vs : List Nat} (hl : σ'.length = σ.length) (h : ∀ i, i ∉ vs → σ'[i]? = σ[i]?) : wipe σ' vs = wipe σ vs := by
  apply List.ext_getElem?
  intro i
  by_cases hi : i ∈ vs
  · by_cases hl2 : i < σ.length
    · rw [wipe_get hi hl2, wipe_get hi (by omega)]
    · rw [List.getElem?_eq_none (by rw [wipe_length]; omega), List.getElem?_eq_none (by rw [wipe_length]; omega)]
  · rw [wipe_out hi, wipe_out hi, h i hi]
def dYes : DB := fun δ k => k true δ
theorem db_yes : DBok B K tYes dYes := fun Hf H σ τ δ θ Kc Q hs hd S h k => k true δ Hf H h hd (Same.refl _) S
theorem lt_of_unS {δ : En} {vs : List Nat} {i : Nat} (e : unS δ vs = δ) (hi : i ∈ vs) (hl : i < δ.length) : δ[i]? = some .un := by
  rw [← e]
  exact unS_in hi hl
theorem de_lc {wi : TI} {g : TG} {tt : TT} {te : TE} {vs is : List Nat} {di : DI} {dg : DG} {dt : DB} {de : DE} (hi : DIok B K wi di) (hg : DGok B K g dg is) (ht : DBok B K tt dt) (he : DEok B K te de) (hv : ∀ i ∈ is, i ∈ vs) (hn : ∀ i ∈ vs, i < B.n) :
    DEok B K (tLc wi g tt te vs) (dLc di dg dt de vs) := by
  intro Hf H σ τ δ θ Kc Q hs hd S h k
  refine hi Hf H σ τ δ θ _ _ hs hd S h fun xs δ1 J Hf1 H1 ⟨q0, q1⟩ hd1 e1 S1 q5 => ?_
  intro Dl hDl
  obtain ⟨G, Y, w, hG, hY⟩ := q5.ex
  have hlt := S.lenT hs hd
  have nb : NoB (θ ++ [Sl.own (.lst [])]) vs := fun b hb hv => by
    rcases List.mem_append.mp hb with hb | hb
    · obtain ⟨j, hj, ej⟩ := List.getElem_of_mem hb
      have := (S1.bo (B.n + j) b (by rw [List.getElem?_append_right (by omega), hd1, Nat.add_sub_cancel_left, List.getElem?_eq_getElem hj, ej])).2.2
      refine this ?_
      have hbl : b < δ1.length := by
        have := (S1.bo (B.n + j) b (by rw [List.getElem?_append_right (by omega), hd1, Nat.add_sub_cancel_left, List.getElem?_eq_getElem hj, ej])).1
        omega
      rw [List.getElem?_append_left hbl]
      exact lt_of_unS q0 hv hbl
    · simp at hb
  have nb2 : ∀ acc, NoB (θ ++ [Sl.own (.lst acc)]) vs := fun acc b hb hv => by
    rcases List.mem_append.mp hb with hb | hb
    · exact nb b (List.mem_append_left _ hb) hv
    · simp at hb
  have nb3 : ∀ acc, NoB (θ ++ [Sl.own (.lst acc)]) is := fun acc b hb hv' => nb2 acc b hb (hv b hv')
  have hfD : Hf1 Dl = none := by
    cases e : Hf1 Dl with
    | none => rfl
    | some u => rw [S1.fh Dl u e] at hDl; cases hDl
  have S2 : Sta B K Hf1 (upd H1 Dl (.lst [])) (σ ++ (τ ++ [some (.ref Dl)])) (δ1 ++ (θ ++ [Sl.own (.lst [])])) := by
    exact S1.res (r := .new (.lst [])) (Gw.made S1.fh hDl) ⟨Dl, rfl, hDl, hfD, [], upd_same, .nil⟩
  have S3 : Sta B K Hf1 (upd H1 Dl (.lst [])) (wipe σ vs ++ (τ ++ [some (.ref Dl)])) (δ1 ++ (θ ++ [Sl.own (.lst [])])) := by
    have := S2.wiped (σ' := wipe σ vs) (vs := vs) hs hd1 (wipe_length σ vs) nb (fun i hi => wipe_out hi)
    rw [q0] at this
    exact this
  refine lc_it w (fun i H => ∃ Hf δ acc, Same Hf1 Hf ∧ δ.length = B.n ∧ Sta B K Hf H (wipe σ vs ++ (τ ++ [some (.ref Dl)])) (δ ++ (θ ++ [Sl.own (.lst acc)])) ∧ unS δ vs = δ ∧ lcGo dg dt de vs (fun ys δ2 => Kc (.new (.lst ys)) δ2) (xs.drop i) acc δ) ⟨Hf1, δ1, [], Same.refl _, hd1, S3, q0, by simpa using q1⟩
    (fun i H _ ⟨Hf, δ, acc, e, _, S, _⟩ => hG Hf H e S.fh) (fun i x H H' hi ⟨Hf2, δ2, acc, e2, hd2, S4, u2, go⟩ y => ?_) fun H ⟨Hf2, δ2, acc, e2, hd2, S4, u2, go⟩ => ?_
  · obtain ⟨Hf3, d, gw, ei, dx⟩ := hY i Hf2 H x H' e2 S4.fh hi y
    rw [drop_at ei] at go
    have hws : (wipe σ vs).length = B.n := by rw [wipe_length]; exact hs
    refine hg Hf3 H' (wipe σ vs) (τ ++ [some (.ref Dl)]) δ2 (θ ++ [Sl.own (.lst acc)]) x d _ _ hws hd2 (nb3 acc) (S4.grow gw) dx go fun σ3 δ3 k1 k2 k3 k4 k5 => ?_
    have wext : wipe σ3 vs = wipe σ vs := by
      have e : wipe σ3 vs = wipe (wipe σ vs) vs := wipe_ext (by omega) fun j hj => k4 j fun z => hj (hv j z)
      rw [e]
      refine wipe_ext (by rw [wipe_length]) fun j hj => wipe_out hj
    have out3 : ∀ j, j ∉ vs → (wipe σ vs)[j]? = σ3[j]? := fun j hj => by rw [← wext, wipe_out hj]
    refine ⟨wext, ?_⟩
    refine ht Hf3 H' σ3 (τ ++ [some (.ref Dl)]) δ3 (θ ++ [Sl.own (.lst acc)]) _ _ k2 k3 k5 k1 fun b δ4 Hf4 H4 l1 l2 l3 l4 => ?_
    cases b with
    | false =>
      rw [if_neg Bool.false_ne_true] at l1 ⊢
      have S5 := l4.wiped (σ' := wipe σ vs) (vs := vs) k2 l2 (by omega) (nb2 acc) out3
      exact ⟨Hf4, unS δ4 vs, acc, (e2.trans gw.ff).trans l3, by rw [unS_len]; exact l2, S5, by
        apply List.ext_getElem?
        intro j
        by_cases hj : j ∈ vs
        · by_cases hjl : j < δ4.length
          · rw [unS_in hj (by rw [unS_len]; exact hjl), unS_in hj hjl]
          · rw [List.getElem?_eq_none (by rw [unS_len, unS_len]; omega), List.getElem?_eq_none (by rw [unS_len]; omega)]
        · rw [unS_out hj], l1⟩
    | true =>
      rw [if_pos rfl] at l1 ⊢
      refine he Hf4 H4 σ3 (τ ++ [some (.ref Dl)]) δ4 (θ ++ [Sl.own (.lst acc)]) _ _ k2 l2 l4 l1 fun r δ5 v Hf5 H5 m1 m2 m3 m4 => ?_
      obtain ⟨d', δ6, Hf6, s', ⟨n1, n1'⟩, n2, n3, n4, n5⟩ := datR_ok (ws := []) (ss := []) (τ := τ ++ [some (.ref Dl)]) (θ := θ ++ [Sl.own (.lst acc)]) k2 m2 (by simp; exact hlt) m4 m1
      have S6 : Sta B K Hf6 H5 (σ3 ++ (τ ++ [some (.ref Dl)])) (δ6 ++ (θ ++ [Sl.own (.lst acc)])) := n5.pop1 k2 n2
      have S7 := S6.wiped (σ' := wipe σ vs) (vs := vs) k2 n2 (by omega) (nb2 acc) out3
      have hL : (wipe σ vs ++ (τ ++ [some (V.ref Dl)]))[B.n + τ.length]? = some (some (.ref Dl)) := top_get (by omega)
      have hM : (unS δ6 vs ++ (θ ++ [Sl.own (.lst acc)]))[B.n + τ.length]? = some (.own (.lst acc)) := top_get (by rw [unS_len]; omega)
      obtain ⟨a, ea, f1, avs, f2, f3⟩ := S7.cell _ _ _ hL hM
      cases ea
      refine ⟨avs, f2, ?_, ?_⟩
      · rw [dpa_len f3]
        exact Nat.lt_of_lt_of_le n1 (by decide)
      · have S8 := S7.write (o' := .lst (acc ++ [d'])) (ho := .lst (avs ++ [v])) hL hM rfl ⟨avs ++ [v], upd_same, dpa_append f3 (.cons n4 .nil)⟩
        have e9 : (unS δ6 vs ++ (θ ++ [Sl.own (.lst acc)])).set (B.n + τ.length) ((Sl.own (.lst acc)).with_ (.lst (acc ++ [d']))) = unS δ6 vs ++ (θ ++ [Sl.own (.lst (acc ++ [d']))]) := set_mid (by rw [unS_len]; omega)
        rw [e9] at S8
        exact ⟨Hf6, unS δ6 vs, acc ++ [d'], (((e2.trans gw.ff).trans l3).trans m3).trans n3, by rw [unS_len]; exact n2, S8, by
          apply List.ext_getElem?
          intro j
          by_cases hj : j ∈ vs
          · by_cases hjl : j < δ6.length
            · rw [unS_in hj (by rw [unS_len]; exact hjl), unS_in hj hjl]
            · rw [List.getElem?_eq_none (by rw [unS_len, unS_len]; omega), List.getElem?_eq_none (by rw [unS_len]; omega)]
          · rw [unS_out hj], n1'⟩
  · have e0 : xs.drop xs.length = [] := List.drop_length
    rw [e0] at go
    refine k (.new (.lst acc)) δ2 (.ref Dl) Hf2 H go hd2 (e1.trans e2) ?_
    have := S4.wiped (σ' := σ) (vs := vs) (by rw [wipe_length]; exact hs) hd2 (by rw [wipe_length]) (nb2 acc) (fun i hi => (wipe_out hi).symm)
    rw [u2] at this
    exact this
end Pd
set_option Elab.async false
set_option linter.all false
set_option maxRecDepth 100000
set_option maxHeartbeats 2000000
namespace Pd
open PySem PySem.Spec PyProof.Rows L2
variable {K : PySem.W.Frag} [HasW K] {B : Bs}
inductive Ag where
  | dat (d : D)
  | io (o : MO)
def Ag.sl : Ag → Sl
  | .dat d => .dat d
  | .io o => .io o
abbrev XW := Str → List (Str × D) → List MO → Prop
abbrev FS := List Ag → (Re → List MO → Prop) → XW → Prop
def ArgsR (K : PySem.W.Frag) [HasW K] (Hf H : Hp) : List V → List Ag → List Addr → Prop
  | [], [], [] => True
  | v :: vs, .dat d :: as, io => Dr K Hf v d ∧ ArgsR K Hf H vs as io
  | v :: vs, .io o :: as, a :: io => v = .ref a ∧ Hf a = none ∧ OR K Hf H a o ∧ ArgsR K Hf H vs as io
  | _, _, _ => False
def iosOf : List Ag → List MO
  | [] => []
  | .dat _ :: as => iosOf as
  | .io o :: as => o :: iosOf as
noncomputable def feet (H : Hp) : List Addr → List MO → List Addr
  | a :: io, o :: os => mf H a o ++ feet H io os
  | _, _ => []
theorem OR.nd {Hf H : Hp} {a : Addr} {o : MO} (h : OR K Hf H a o) : (mf H a o).Nodup := by
  cases o with
  | tre k ts => exact h.2.1
  | _ => exact List.nodup_cons.mpr ⟨by simp, List.nodup_nil⟩
def NwR (H H' : Hp) : List Addr → List MO → List MO → Prop
  | a :: io, o0 :: os0, o :: os => (∀ x ∈ mf H' a o, x ∈ mf H a o0 ∨ H x = none) ∧ NwR H H' io os0 os
  | [], [], [] => True
  | _, _, _ => False
structure Po (K : PySem.W.Frag) [HasW K] (Hf H : Hp) (io : List Addr) (os0 : List MO) (Hf' H' : Hp) (os : List MO) : Prop where
  ff : Same Hf Hf'
  fh : Same Hf' H'
  fn : ∀ a o, Hf' a = some o → Hf a = some o ∨ H a = none
  kp : ∀ a o, H a = some o → a ∉ feet H io os0 → H' a = some o
  al : ∀ a ∈ feet H io os0, ∃ u, H' a = some u
  ob : Paired (fun a o => Hf' a = none ∧ OR K Hf' H' a o) io os
  nd : (feet H' io os).Nodup
  nw : NwR H H' io os0 os
def RD (H' : Hp) (io : List Addr) (os : List MO) : Re → V → Prop
  | .new o, .ref p => ∀ x ∈ mf H' p o, x ∉ feet H' io os
  | _, _ => True
def XR (K : PySem.W.Frag) [HasW K] (Hf H : Hp) (fs : List (Str × D)) (dx : Option Addr) : Prop :=
  (fs = [] ∧ dx = none) ∨ ∃ d ws, dx = some d ∧ Hf d = some (.xd ws) ∧ Paired (fun (p : Str × V) (q : Str × D) => p.1 = q.1 ∧ Dr K Hf p.2 q.2) ws fs
noncomputable def ioAt (H : Hp) : Nat → List Ag → List Addr → List (Nat × Addr × List Addr)
  | i, .dat _ :: as, io => ioAt H (i + 1) as io
  | i, .io o :: as, a :: io => (i, a, mf H a o) :: ioAt H (i + 1) as io
  | _, _, _ => []
def RX (K : PySem.W.Frag) [HasW K] (H Hf' H' : Hp) (as : List Ag) (io : List Addr) : Re → V → Prop
  | .slot i, v => ∃ a F, v = .ref a ∧ (i, a, F) ∈ ioAt H 0 as io
  | .dat d, v => RR K H Hf' H' (.dat d) v
  | .new o, v => RR K H Hf' H' (.new o) v
def spD (K : PySem.W.Frag) [HasW K] (fs : FS) : Sp := fun vs H Q E => ∃ (Hf : Hp) (as : List Ag) (io : List Addr) (P : Re → List MO → Prop) (X : XW), Same Hf H ∧ ArgsR K Hf H vs as io ∧ (feet H io (iosOf as)).Nodup ∧ fs as P X ∧
  (∀ r os v Hf' H', P r os → Po K Hf H io (iosOf as) Hf' H' os → RX K H Hf' H' as io r v → RD H' io os r v → Q v H') ∧
  (∀ n C xs os dx Hf' H', X n xs os → NmAt K n C → Po K Hf H io (iosOf as) Hf' H' os → XR K Hf' H' xs dx → E (.ref C) dx H')
theorem argsR_len {Hf H : Hp} : ∀ {vs : List V} {as : List Ag} {io : List Addr}, ArgsR K Hf H vs as io → vs.length = as.length
  | [], [], [], _ => rfl
  | v :: vs, .dat d :: as, io, h => by
    have := argsR_len h.2
    simp [this]
  | v :: vs, .io o :: as, a :: io, h => by
    have := argsR_len h.2.2.2
    simp [this]
  | [], _ :: _, _, h => by cases h
  | [], [], _ :: _, h => by cases h
  | _ :: _, [], _, h => by cases h
  | _ :: _, .io _ :: _, [], h => by cases h
theorem spD_len {fs : FS} {n : Nat} (h : ∀ as P X, fs as P X → as.length = n) : ∀ vs H Q E, spD K fs vs H Q E → vs.length = n := fun vs H Q E ⟨_, as, _, P, X, _, h1, _, h2, _⟩ => (argsR_len h1).trans (h as P X h2)
theorem ioAt_ad {H : Hp} : ∀ (as : List Ag) (io : List Addr) (i : Nat), ((ioAt H i as io).map (·.2.2)).flatten = feet H io (iosOf as)
  | [], io, i => by cases io <;> rfl
  | .dat d :: as, io, i => ioAt_ad as io (i + 1)
  | .io o :: as, [], i => rfl
  | .io o :: as, a :: io, i => by
    show (mf H a o :: (ioAt H (i + 1) as io).map (·.2.2)).flatten = mf H a o ++ feet H io (iosOf as)
    rw [List.flatten_cons, ioAt_ad as io (i + 1)]
theorem ioAt_le {H : Hp} : ∀ (as : List Ag) (io : List Addr) (i j : Nat) (a : Addr) (F : List Addr), (j, a, F) ∈ ioAt H i as io → i ≤ j
  | .dat _ :: as, io, i, j, a, F, h => by
    have := ioAt_le as io (i + 1) j a F h
    omega
  | .io _ :: as, b :: io, i, j, a, F, h => by
    rcases List.mem_cons.mp h with e | e
    · cases e; exact Nat.le_refl _
    · have := ioAt_le as io (i + 1) j a F e
      omega
  | [], _, _, _, _, _, h => by simp [ioAt] at h
  | .io _ :: _, [], _, _, _, _, h => by simp [ioAt] at h
theorem argsR_cell {Hf H : Hp} : ∀ {vs : List V} {as : List Ag} {io : List Addr} (n i : Nat) (v : V) (g : Ag), ArgsR K Hf H vs as io → vs[i]? = some v → as[i]? = some g →
    (∃ d, g = .dat d ∧ Dr K Hf v d) ∨ ∃ o a, g = .io o ∧ v = .ref a ∧ Hf a = none ∧ OR K Hf H a o ∧ (n + i, a, mf H a o) ∈ ioAt H n as io
  | v :: vs, .dat d :: as, io, n, 0, w, g, h, h1, h2 => by
    simp at h1 h2
    subst h1; subst h2
    exact .inl ⟨d, rfl, h.1⟩
  | v :: vs, .dat d :: as, io, n, i + 1, w, g, h, h1, h2 => by
    rcases argsR_cell (n + 1) i w g h.2 (by simpa using h1) (by simpa using h2) with q | ⟨o, a, q1, q2, q3, q4, q5⟩
    · exact .inl q
    · exact .inr ⟨o, a, q1, q2, q3, q4, by rw [show n + (i + 1) = n + 1 + i by omega]; exact q5⟩
  | v :: vs, .io o :: as, a :: io, n, 0, w, g, h, h1, h2 => by
    simp at h1 h2
    subst h1; subst h2
    exact .inr ⟨o, a, rfl, h.1, h.2.1, h.2.2.1, by simp [ioAt]⟩
  | v :: vs, .io o :: as, a :: io, n, i + 1, w, g, h, h1, h2 => by
    rcases argsR_cell (n + 1) i w g h.2.2.2 (by simpa using h1) (by simpa using h2) with q | ⟨o, b, q1, q2, q3, q4, q5⟩
    · exact .inl q
    · exact .inr ⟨o, b, q1, q2, q3, q4, by rw [show n + (i + 1) = n + 1 + i by omega]; exact List.mem_cons_of_mem _ q5⟩
  | [], [], [], _, _, _, _, _, h1, _ => by simp at h1
  | [], _ :: _, _, _, _, _, _, h, _, _ => by cases h
  | [], [], _ :: _, _, _, _, _, h, _, _ => by cases h
  | _ :: _, [], _, _, _, _, _, h, _, _ => by cases h
  | _ :: _, .io _ :: _, [], _, _, _, _, h, _, _ => by cases h
theorem feet_all {Hf H : Hp} : ∀ {vs : List V} {as : List Ag} {io : List Addr}, ArgsR K Hf H vs as io → ∀ x ∈ feet H io (iosOf as), ∃ u, H x = some u
  | [], [], [], _, x, hx => by simp [feet] at hx
  | v :: vs, .dat d :: as, io, h, x, hx => feet_all h.2 x hx
  | v :: vs, .io o :: as, a :: io, h, x, hx => by
    rcases List.mem_append.mp hx with e | e
    · exact h.2.2.1.all x e
    · exact feet_all h.2.2.2 x e
  | [], _ :: _, _, h, _, _ => by cases h
  | [], [], _ :: _, h, _, _ => by cases h
  | _ :: _, [], _, h, _, _ => by cases h
  | _ :: _, .io _ :: _, [], h, _, _ => by cases h
theorem feet_mem {Hf H : Hp} : ∀ {vs : List V} {as : List Ag} {io : List Addr} (i : Nat) (a : Addr) (o : MO), ArgsR K Hf H vs as io → vs[i]? = some (.ref a) → as[i]? = some (.io o) → ∀ x ∈ mf H a o, x ∈ feet H io (iosOf as)
  | v :: vs, .dat d :: as, io, 0, a, o, h, h1, h2, x, hx => by simp at h2
  | v :: vs, .dat d :: as, io, i + 1, a, o, h, h1, h2, x, hx => feet_mem i a o h.2 (by simpa using h1) (by simpa using h2) x hx
  | v :: vs, .io o :: as, b :: io, 0, a, u, h, h1, h2, x, hx => by
    simp at h1 h2
    subst h2
    have e := h.1
    rw [h1] at e
    cases e
    exact List.mem_append_left _ hx
  | v :: vs, .io o :: as, b :: io, i + 1, a, u, h, h1, h2, x, hx => List.mem_append_right _ (feet_mem i a u h.2.2.2 (by simpa using h1) (by simpa using h2) x hx)
  | [], [], [], _, _, _, _, h1, _, _, _ => by simp at h1
  | [], _ :: _, _, _, _, _, h, _, _, _, _ => by cases h
  | [], [], _ :: _, _, _, _, h, _, _, _, _ => by cases h
  | _ :: _, [], _, _, _, _, h, _, _, _, _ => by cases h
  | _ :: _, .io _ :: _, [], _, _, _, h, _, _, _, _ => by cases h
theorem feet_dj {Hf H : Hp} : ∀ {vs : List V} {as : List Ag} {io : List Addr} (i j : Nat) (a b : Addr) (o u : MO), ArgsR K Hf H vs as io → (feet H io (iosOf as)).Nodup → i < j → vs[i]? = some (.ref a) → as[i]? = some (.io o) → vs[j]? = some (.ref b) → as[j]? = some (.io u) → ∀ x ∈ mf H a o, x ∉ mf H b u
  | v :: vs, .dat d :: as, io, 0, j + 1, a, b, o, u, h, nd, lt, h1, h2, h3, h4, x, hx => by simp at h2
  | v :: vs, .dat d :: as, io, i + 1, j + 1, a, b, o, u, h, nd, lt, h1, h2, h3, h4, x, hx => feet_dj i j a b o u h.2 nd (by omega) (by simpa using h1) (by simpa using h2) (by simpa using h3) (by simpa using h4) x hx
  | v :: vs, .io w :: as, c :: io, 0, j + 1, a, b, o, u, h, nd, lt, h1, h2, h3, h4, x, hx => by
    simp at h1 h2
    subst h2
    have e := h.1
    rw [h1] at e
    cases e
    intro hy
    have := feet_mem j b u h.2.2.2 (by simpa using h3) (by simpa using h4) x hy
    exact (List.nodup_append.mp nd).2.2 x hx x this rfl
  | v :: vs, .io w :: as, c :: io, i + 1, j + 1, a, b, o, u, h, nd, lt, h1, h2, h3, h4, x, hx =>
    feet_dj i j a b o u h.2.2.2 (List.nodup_append.mp nd).2.1 (by omega) (by simpa using h1) (by simpa using h2) (by simpa using h3) (by simpa using h4) x hx
  | _, _, _, _, 0, _, _, _, _, _, _, lt, _, _, _, _, _, _ => absurd lt (Nat.not_lt_zero _)
  | [], [], [], _, _ + 1, _, _, _, _, _, _, _, h1, _, _, _, _, _ => by simp at h1
  | [], _ :: _, _, _, _ + 1, _, _, _, _, h, _, _, _, _, _, _, _, _ => by cases h
  | [], [], _ :: _, _, _ + 1, _, _, _, _, h, _, _, _, _, _, _, _, _ => by cases h
  | _ :: _, [], _, _, _ + 1, _, _, _, _, h, _, _, _, _, _, _, _, _ => by cases h
  | _ :: _, .io _ :: _, [], _, _ + 1, _, _, _, _, h, _, _, _, _, _, _, _, _ => by cases h
def begin_ (as : List Ag) (n : Nat) : En := as.map Ag.sl ++ List.replicate (n - as.length) .un
theorem sta_begin {Hf H : Hp} {vs : List V} {as : List Ag} {io : List Addr} {N : List Str} (e : Same Hf H) (h : ArgsR K Hf H vs as io) (nd : (feet H io (iosOf as)).Nodup) (hn : vs.length ≤ N.length) : Sta ⟨Hf, H, ioAt H 0 as io, N.length, []⟩ K Hf H (start N vs) (begin_ as N.length) := by
  have hl := argsR_len h
  have slen : (start N vs).length = N.length := by
    unfold L2.start
    simp
    omega
  have split : ∀ (i : Nat) x s, (start N vs)[i]? = some x → (begin_ as N.length)[i]? = some s → (∃ v g, x = some v ∧ s = g.sl ∧ vs[i]? = some v ∧ as[i]? = some g) ∨ s = .un := fun i x s h1 h2 => by
    unfold L2.start at h1
    unfold begin_ at h2
    by_cases hi : i < vs.length
    · rw [List.getElem?_append_left (by simpa using hi), List.getElem?_map] at h1
      rw [List.getElem?_append_left (by simpa using by omega), List.getElem?_map] at h2
      rw [List.getElem?_eq_getElem hi] at h1
      rw [List.getElem?_eq_getElem (show i < as.length by omega)] at h2
      simp at h1 h2
      exact .inl ⟨vs[i], as[i], h1.symm, h2.symm, List.getElem?_eq_getElem hi, List.getElem?_eq_getElem (by omega)⟩
    · right
      rw [List.getElem?_append_right (by simpa using by omega)] at h2
      exact (List.mem_replicate.mp (List.mem_of_getElem? h2)).2
  have cellO : ∀ (i : Nat) a s o, (start N vs)[i]? = some (some (.ref a)) → (begin_ as N.length)[i]? = some s → s.obj = some o → s = .io o ∧ Hf a = none ∧ OR K Hf H a o ∧ (i, a, mf H a o) ∈ ioAt H 0 as io ∧ vs[i]? = some (.ref a) ∧ as[i]? = some (.io o) := fun i a s o h1 h2 h3 => by
    rcases split i _ s h1 h2 with ⟨v, g, q1, q2, q3, q4⟩ | q
    · cases q1
      rcases argsR_cell 0 i _ g h q3 q4 with ⟨d, z1, z2⟩ | ⟨o', b, z1, z2, z3, z4, z5⟩
      · subst z1; subst q2; cases h3
      · subst z1; subst q2
        cases z2
        cases h3
        exact ⟨rfl, z3, z4, by rw [Nat.zero_add] at z5; exact z5, q3, q4⟩
    · subst q; cases h3
  exact {
    len := by rw [slen]; unfold begin_; simp; omega
    nl := by rw [slen]; exact Nat.le_refl _
    cell := fun i x s h1 h2 => by
      rcases split i x s h1 h2 with ⟨v, g, q1, q2, q3, q4⟩ | q
      · subst q1; subst q2
        rcases argsR_cell 0 i v g h q3 q4 with ⟨d, z1, z2⟩ | ⟨o', b, z1, z2, z3, z4, z5⟩
        · subst z1; exact ⟨v, rfl, z2⟩
        · subst z1; subst z2; exact ⟨b, rfl, z3, z4⟩
      · subst q; trivial
    dj := fun i j a b s t o u hij h1 h2 h3 h4 h5 h6 x hx hy => by
      obtain ⟨_, _, _, _, p1, p2⟩ := cellO i a s o h1 h3 h5
      obtain ⟨_, _, _, _, p3, p4⟩ := cellO j b t u h2 h4 h6
      rcases Nat.lt_or_gt_of_ne hij with z | z
      · exact feet_dj i j a b o u h nd z p1 p2 p3 p4 x hx hy
      · exact feet_dj j i b a u o h nd z p3 p4 p1 p2 x hy hx
    ff := Same.refl _
    fh := e
    fn := fun a o q => .inl q
    bk := fun a o q _ => q
    ow := fun i a o h1 h2 => by
      have := (cellO i a _ o h1 h2 rfl).1
      cases this
    iw := fun i a o h1 h2 => by
      obtain ⟨_, _, _, q, p1, p2⟩ := cellO i a _ o h1 h2 rfl
      exact ⟨_, q, fun x hx => .inl hx⟩
    ip := fun a ha => feet_all h a (by rw [← ioAt_ad as io 0]; exact ha)
    tb := fun p hp => absurd hp (by simp)
    bo := fun k i q => by
      have hk : k < (start N vs).length := by
        rw [slen]
        have := (List.getElem?_eq_some_iff.mp q).1
        unfold begin_ at this
        simp at this
        omega
      rcases split k _ _ (List.getElem?_eq_getElem hk) q with ⟨v, g, q1, q2, q3, q4⟩ | q
      · cases g <;> cases q2
      · cases q }
def iosR : List Ag → En → (List MO → Prop) → Prop
  | [], _, k => k []
  | .dat _ :: as, _ :: ss, k => iosR as ss k
  | .io _ :: as, .io o :: ss, k => iosR as ss fun os => k (o :: os)
  | _, _, _ => False
def retR (r : Re) (δ : En) (k : Re → Prop) : Prop := match r with
  | .dat d => k (.dat d)
  | .new o => k (.new o)
  | .slot i => match δ[i]? with
    | some (.own o) => k (.new o)
    | some (.dat d) => k (.dat d)
    | some (.io _) => k (.slot i)
    | _ => False
theorem iosR_ok {Hf0 H0 Hf H : Hp} {Bx : Bs} {L : L2.St} {M : En} (S : Sta Bx K Hf H L M) : ∀ {as : List Ag} {vs : List V} {io : List Addr} (n : Nat) {ss : En} {k : List MO → Prop}, ArgsR K Hf0 H0 vs as io → (∀ p ∈ ioAt Bx.H n as io, p ∈ Bx.io) → (∀ (i : Nat) a b F G, (i, a, F) ∈ Bx.io → (i, b, G) ∈ Bx.io → a = b ∧ F = G) → (∀ (i : Nat) s, ss[i]? = some s → M[n + i]? = some s) → iosR as ss k →
    ∃ os, Paired (fun a o => Hf a = none ∧ OR K Hf H a o) io os ∧ k os ∧ (feet H io os).Nodup ∧ NwR Bx.H H io (iosOf as) os ∧ ∀ x ∈ feet H io os, ∃ m a o, n ≤ m ∧ L[m]? = some (some (.ref a)) ∧ M[m]? = some (.io o) ∧ x ∈ mf H a o
  | [], [], [], _, _, _, _, _, _, _, h => ⟨[], .nil, h, List.nodup_nil, trivial, fun x hx => by simp [feet] at hx⟩
  | .dat d :: as, v :: vs, io, n, s :: ss, k, h0, h1, hu, h2, h => by
    obtain ⟨os, q1, q2, q3, q5, q4⟩ := iosR_ok S (n + 1) h0.2 h1 hu (fun i s q => by rw [show n + 1 + i = n + (i + 1) by omega]; exact h2 (i + 1) s (by simpa using q)) h
    exact ⟨os, q1, q2, q3, q5, fun x hx => by
      obtain ⟨m, a, o, z1, z2⟩ := q4 x hx
      exact ⟨m, a, o, by omega, z2⟩⟩
  | .io o0 :: as, v :: vs, a :: io, n, .io o :: ss, k, h0, h1, hu, h2, h => by
    obtain ⟨os, q1, q2, q3, q5, q4⟩ := iosR_ok S (n + 1) h0.2.2.2 (fun p hp => h1 p (List.mem_cons_of_mem _ hp)) hu (fun i s q => by rw [show n + 1 + i = n + (i + 1) by omega]; exact h2 (i + 1) s (by simpa using q)) h
    have hM := h2 0 _ rfl
    rw [Nat.add_zero] at hM
    obtain ⟨x, hL, b, e1, e2, e3⟩ := S.lt hM
    subst e1
    obtain ⟨F, f1, f2⟩ := S.iw n b o hL hM
    obtain ⟨e4, e5⟩ := hu n b a F _ f1 (h1 (n, a, mf Bx.H a o0) (by simp [ioAt]))
    subst e4
    subst e5
    refine ⟨o :: os, .cons ⟨e2, e3⟩ q1, q2, ?_, ⟨f2, q5⟩, fun x hx => ?_⟩
    · refine List.nodup_append.mpr ⟨e3.nd, q3, fun x hx y hy e => ?_⟩
      subst e
      obtain ⟨m, c, u, z1, z2, z3, z4⟩ := q4 x hy
      exact S.dj n m b c _ _ o u (by omega) hL z2 hM z3 rfl rfl x hx z4
    · rcases List.mem_append.mp hx with z | z
      · exact ⟨n, b, o, Nat.le_refl _, hL, hM, z⟩
      · obtain ⟨m, c, u, z1, z2⟩ := q4 x z
        exact ⟨m, c, u, by omega, z2⟩
  | .io _ :: _, _ :: _, _ :: _, _, [], _, _, _, _, _, h => h.elim
  | .io _ :: _, _ :: _, _ :: _, _, .un :: _, _, _, _, _, _, h => h.elim
  | .io _ :: _, _ :: _, _ :: _, _, .dat _ :: _, _, _, _, _, _, h => h.elim
  | .io _ :: _, _ :: _, _ :: _, _, .own _ :: _, _, _, _, _, _, h => h.elim
  | .io _ :: _, _ :: _, _ :: _, _, .bor _ :: _, _, _, _, _, _, h => h.elim
  | .dat _ :: _, _ :: _, _, _, [], _, _, _, _, _, h => h.elim
  | [], _ :: _, _, _, _, _, h, _, _, _, _ => by cases h
  | [], [], _ :: _, _, _, _, h, _, _, _, _ => by cases h
  | _ :: _, [], _, _, _, _, h, _, _, _, _ => by cases h
  | .io _ :: _, _ :: _, [], _, _, _, h, _, _, _, _ => by cases h
theorem ioAt_fn {H : Hp} : ∀ (as : List Ag) (io : List Addr) (n i : Nat) (a b : Addr) (F G : List Addr), (i, a, F) ∈ ioAt H n as io → (i, b, G) ∈ ioAt H n as io → a = b ∧ F = G
  | .dat _ :: as, io, n, i, a, b, F, G, h1, h2 => ioAt_fn as io (n + 1) i a b F G h1 h2
  | .io _ :: as, c :: io, n, i, a, b, F, G, h1, h2 => by
    rcases List.mem_cons.mp h1 with e1 | e1
    · rcases List.mem_cons.mp h2 with e2 | e2
      · cases e1; cases e2; exact ⟨rfl, rfl⟩
      · cases e1
        have := ioAt_le as io (n + 1) n b G e2
        omega
    · rcases List.mem_cons.mp h2 with e2 | e2
      · cases e2
        have := ioAt_le as io (n + 1) n a F e1
        omega
      · exact ioAt_fn as io (n + 1) i a b F G e1 e2
  | [], _, _, _, _, _, _, _, h, _ => by simp [ioAt] at h
  | .io _ :: _, [], _, _, _, _, _, _, h, _ => by simp [ioAt] at h
theorem Sta.po {Hf0 H0 Hf H : Hp} {as : List Ag} {vs : List V} {io : List Addr} {n : Nat} {L : L2.St} {M : En} {os : List MO} (S : Sta ⟨Hf0, H0, ioAt H0 0 as io, n, []⟩ K Hf H L M) (h : ArgsR K Hf0 H0 vs as io) (ob : Paired (fun a o => Hf a = none ∧ OR K Hf H a o) io os)
    (nd : (feet H io os).Nodup) (nw : NwR H0 H io (iosOf as) os) : Po K Hf0 H0 io (iosOf as) Hf H os :=
  ⟨S.ff, S.fh, S.fn, fun a o q1 q2 => S.bk a o q1 (by show a ∉ ((ioAt H0 0 as io).map (·.2.2)).flatten; rw [ioAt_ad]; exact q2), fun a ha => S.ip a (by show a ∈ ((ioAt H0 0 as io).map (·.2.2)).flatten; rw [ioAt_ad]; exact ha), ob, nd, nw⟩
theorem body_ok {fs : FS} {ts : TS} {dt : DT} {N : List Str} {n : Nat} (hlen : ∀ as P X, fs as P X → as.length = n) (hn : n ≤ N.length) {vs : List V} {H : Hp} {Q : VK} {E : XK} (h : spD K fs vs H Q E)
    (hd : ∀ (Bx : Bs) (EX : Str → List (Str × D) → En → Prop), Bx.n = N.length → (∀ Hf' H' σ δ n C xs dx, σ.length = Bx.n → δ.length = Bx.n → Sta Bx K Hf' H' σ δ → NmAt K n C → XR K Hf' H' xs dx → EX n xs δ → E (.ref C) dx H') → ∃ dt', DSok Bx K ts dt' ∧ ∀ as P X, fs as P X → EX = (fun n xs δ => iosR as δ fun os => X n xs os) → dt' { nx := fun δ => iosR as δ fun os => P (.dat .none) os, rt := fun r δ => retR r δ fun r' => iosR as δ fun os => P r' os } (begin_ as N.length)) :
    ts { nx := fun _ H' => Q .non H', rt := Q } (start N vs) H := by
  obtain ⟨Hf, as, io, P, X, e, hA, nd, hF, hQ, hE⟩ := h
  have hl : vs.length = n := (argsR_len hA).trans (hlen as P X hF)
  have S0 := sta_begin (N := N) e hA nd (by omega)
  have slen : (start N vs).length = N.length := by
    unfold L2.start
    simp
    omega
  have blen : (begin_ as N.length).length = N.length := by
    unfold begin_
    have := hlen as P X hF
    simp
    omega
  have fin : ∀ (Hf' H' : Hp) (σ : L2.St) (δ : En) (k : List MO → Prop), Sta ⟨Hf, H, ioAt H 0 as io, N.length, []⟩ K Hf' H' σ δ → iosR as δ k → ∃ os, Po K Hf H io (iosOf as) Hf' H' os ∧ k os ∧ ∀ x ∈ feet H' io os, ∃ m a o, 0 ≤ m ∧ σ[m]? = some (some (.ref a)) ∧ δ[m]? = some (.io o) ∧ x ∈ mf H' a o := fun Hf' H' σ δ k S q => by
    obtain ⟨os, q1, q2, q3, q5, q4⟩ := iosR_ok S 0 hA (fun p hp => hp) (fun i a b F G => ioAt_fn as io 0 i a b F G) (fun i s q => by rw [Nat.zero_add]; exact q) q
    exact ⟨os, S.po hA q1 q3 q5, q2, q4⟩
  obtain ⟨dt', d1, d2⟩ := hd ⟨Hf, H, ioAt H 0 as io, N.length, []⟩ (fun n xs δ => iosR as δ fun os => X n xs os) rfl (fun Hf' H' σ δ n C xs dx hs hdl S nm xr q => by
    obtain ⟨os, q1, q2, _⟩ := fin Hf' H' σ δ _ S q
    exact hE n C xs os dx Hf' H' q2 nm q1 xr)
  refine d1 Hf H _ _ _ { nx := fun δ => iosR as δ fun os => P (.dat .none) os, rt := fun r δ => retR r δ fun r' => iosR as δ fun os => P r' os } slen blen S0 ⟨fun Hf' H' σ δ _ _ _ S q => ?_, fun Hf' H' σ δ v r _ hs hdl S q => ?_, fun _ _ _ _ _ _ _ _ q => q.elim, fun _ _ _ _ _ _ _ _ q => q.elim⟩ (d2 as P X hF rfl)
  · obtain ⟨os, q1, q2, _⟩ := fin Hf' H' σ δ _ S q
    exact hQ _ os .non Hf' H' q2 q1 .non trivial
  · have hs' : σ.length = N.length := hs
    have hd' : δ.length = N.length := hdl
    have top : (σ ++ [some v])[N.length]? = some (some v) := by rw [List.getElem?_append_right (by omega)]; simp [hs']
    have topM : (δ ++ [r.sl])[N.length]? = some r.sl := by rw [List.getElem?_append_right (by omega)]; simp [hd']
    have S1 := S.pop (show σ.length = δ.length by omega) (show N.length ≤ σ.length by omega)
    have c := S.cell _ _ _ top topM
    have fresh : ∀ a o (i : Nat), (σ ++ [some v])[i]? = some (some (.ref a)) → (δ ++ [r.sl])[i]? = some (.own o) → NF H H' a o := fun a o i h1 h2 => NF.of (S.ow i a o h1 h2)
    have apart : ∀ a o (i : Nat) (os : List MO), (σ ++ [some v])[i]? = some (some (.ref a)) → (δ ++ [r.sl])[i]? = some (.own o) → (∀ x ∈ feet H' io os, ∃ m a o, 0 ≤ m ∧ σ[m]? = some (some (.ref a)) ∧ δ[m]? = some (.io o) ∧ x ∈ mf H' a o) → ∀ x ∈ mf H' a o, x ∉ feet H' io os := fun a o i os h1 h2 h3 x hx hy => by
      obtain ⟨m, b, u, _, z1, z2, z3⟩ := h3 x hy
      have z1' : (σ ++ [some v])[m]? = some (some (.ref b)) := by rw [List.getElem?_append_left (List.getElem?_eq_some_iff.mp z1).1]; exact z1
      have z2' : (δ ++ [r.sl])[m]? = some (.io u) := by rw [List.getElem?_append_left (List.getElem?_eq_some_iff.mp z2).1]; exact z2
      refine S.dj i m a b _ _ o u (fun e => ?_) h1 z1' h2 z2' rfl rfl x hx z3
      subst e
      rw [h2] at z2'
      cases z2'
    cases r with
    | dat d =>
      obtain ⟨w, e1, q1⟩ := c
      cases e1
      obtain ⟨os, q2, q3, _⟩ := fin Hf' H' σ δ _ S1 q
      exact hQ _ os v Hf' H' q3 q2 q1 trivial
    | new o =>
      obtain ⟨a, e1, f1, f2⟩ := c
      cases e1
      obtain ⟨os, q2, q3, q9⟩ := fin Hf' H' σ δ _ S1 q
      exact hQ _ os _ Hf' H' q3 q2 ⟨a, rfl, fresh a o _ top topM, f1, f2⟩ (apart a o _ os top topM q9)
    | slot j =>
      obtain ⟨w, e1, q1⟩ := c
      cases e1
      unfold retR at q
      cases hj : δ[j]? with
      | none => simp only [hj] at q
      | some s =>
        simp only [hj] at q
        have hjl := (List.getElem?_eq_some_iff.mp hj).1
        have hM : (δ ++ [Sl.bor j])[j]? = some s := by rw [List.getElem?_append_left hjl]; exact hj
        have cj := S.cell j _ s q1 hM
        cases s with
        | un => exact q.elim
        | io o =>
          obtain ⟨a, e1, f1, f2⟩ := cj
          cases e1
          obtain ⟨os, q2, q3, q9⟩ := fin Hf' H' σ δ _ S1 q
          obtain ⟨F, g1, _⟩ := S.iw j a o q1 hM
          exact hQ _ os _ Hf' H' q3 q2 ⟨a, F, rfl, g1⟩ trivial
        | bor b => exact q.elim
        | fn _ => exact q.elim
        | dat d =>
          obtain ⟨w, e1, q4⟩ := cj
          cases e1
          obtain ⟨os, q2, q3, _⟩ := fin Hf' H' σ δ _ S1 q
          exact hQ _ os v Hf' H' q3 q2 q4 trivial
        | own o =>
          obtain ⟨a, e1, f1, f2⟩ := cj
          cases e1
          obtain ⟨os, q2, q3, q9⟩ := fin Hf' H' σ δ _ S1 q
          exact hQ _ os _ Hf' H' q3 q2 ⟨a, rfl, fresh a o j q1 hM, f1, f2⟩ (apart a o j os q1 hM q9)
end Pd
set_option Elab.async false
set_option linter.all false
set_option maxRecDepth 100000
set_option maxHeartbeats 2000000
namespace Pd
open PySem PySem.Spec PyProof.Rows L2
variable {K : PySem.W.Frag} [HasW K] {B : Bs}
def objAt (δ : En) (i : Nat) (k : MO → Prop) : Prop := match δ[i]? with
  | some (.own o) => k o
  | some (.io o) => k o
  | _ => False
def passR : List Bool → List Re → En → (List Ag → En → Prop) → Prop
  | [], [], δ, k => k [] δ
  | true :: ms, .slot i :: rs, δ, k => passR ms rs δ fun as δ' => objAt δ' i fun o => k (.io o :: as) δ'
  | true :: ms, .new o :: rs, δ, k => passR ms rs δ fun as δ' => k (.io o :: as) δ'
  | false :: ms, r :: rs, δ, k => datR r δ fun d δ1 => passR ms rs δ1 fun as δ2 => k (.dat d :: as) δ2
  | _, _, _, _ => False
def ioSl : List Bool → List Re → List Nat
  | true :: ms, .slot i :: rs => i :: ioSl ms rs
  | _ :: ms, _ :: rs => ioSl ms rs
  | _, _ => []
def ixR : Nat → List Bool → List Re → List Nat
  | n, true :: ms, .slot i :: rs => i :: ixR (n + 1) ms rs
  | n, true :: ms, .new _ :: rs => n :: ixR (n + 1) ms rs
  | n, _ :: ms, _ :: rs => ixR (n + 1) ms rs
  | _, _, _ => []
theorem ixR_mem : ∀ (n : Nat) (ms : List Bool) (rs : List Re) (i : Nat), i ∈ ixR n ms rs → i ∈ ioSl ms rs ∨ n ≤ i
  | n, true :: ms, .slot j :: rs, i, h => by
    rcases List.mem_cons.mp h with e | e
    · left; subst e; exact List.mem_cons_self
    · rcases ixR_mem (n + 1) ms rs i e with q | q
      · left; exact List.mem_cons_of_mem _ q
      · right; omega
  | n, true :: ms, .new _ :: rs, i, h => by
    rcases List.mem_cons.mp h with e | e
    · right; omega
    · rcases ixR_mem (n + 1) ms rs i e with q | q
      · left; exact q
      · right; omega
  | n, true :: ms, .dat _ :: rs, i, h => by
    rcases ixR_mem (n + 1) ms rs i h with q | q
    · left; exact q
    · right; omega
  | n, false :: ms, r :: rs, i, h => by
    have h' : i ∈ ixR (n + 1) ms rs := by cases r <;> exact h
    have e : ioSl (false :: ms) (r :: rs) = ioSl ms rs := by cases r <;> rfl
    rw [e]
    rcases ixR_mem (n + 1) ms rs i h' with q | q
    · left; exact q
    · right; omega
  | _, [], _, _, h => by simp [ixR] at h
  | _, true :: _, [], _, h => by simp [ixR] at h
  | _, false :: _, [], _, h => by simp [ixR] at h
theorem ixR_nodup : ∀ (n : Nat) (ms : List Bool) (rs : List Re), (ioSl ms rs).Nodup → (∀ i ∈ ioSl ms rs, i < n) → (ixR n ms rs).Nodup
  | n, true :: ms, .slot j :: rs, h, hl => by
    have h' : (ioSl ms rs).Nodup := (List.nodup_cons.mp h).2
    have hl' : ∀ i ∈ ioSl ms rs, i < n := fun i hi => hl i (List.mem_cons_of_mem _ hi)
    refine List.nodup_cons.mpr ⟨fun hm => ?_, ixR_nodup (n + 1) ms rs h' fun i hi => Nat.lt_succ_of_lt (hl' i hi)⟩
    rcases ixR_mem (n + 1) ms rs j hm with q | q
    · exact (List.nodup_cons.mp h).1 q
    · have := hl j List.mem_cons_self
      omega
  | n, true :: ms, .new _ :: rs, h, hl => by
    refine List.nodup_cons.mpr ⟨fun hm => ?_, ixR_nodup (n + 1) ms rs h fun i hi => Nat.lt_succ_of_lt (hl i hi)⟩
    rcases ixR_mem (n + 1) ms rs n hm with q | q
    · have := hl n q
      omega
    · omega
  | n, true :: ms, .dat _ :: rs, h, hl => ixR_nodup (n + 1) ms rs h fun i hi => Nat.lt_succ_of_lt (hl i hi)
  | n, false :: ms, r :: rs, h, hl => by
    have e : ioSl (false :: ms) (r :: rs) = ioSl ms rs := by cases r <;> rfl
    have e2 : ixR n (false :: ms) (r :: rs) = ixR (n + 1) ms rs := by cases r <;> rfl
    rw [e] at h hl
    rw [e2]
    exact ixR_nodup (n + 1) ms rs h fun i hi => Nat.lt_succ_of_lt (hl i hi)
  | _, [], _, _, _ => by simp [ixR]
  | _, true :: _, [], _, _ => by simp [ixR]
  | _, false :: _, [], _, _ => by simp [ixR]
def MtR : List Bool → List Re → En → Prop
  | [], [], [] => True
  | true :: ms, r :: rs, s :: ss => s = r.sl ∧ MtR ms rs ss
  | false :: ms, _ :: rs, _ :: ss => MtR ms rs ss
  | _, _, _ => False
theorem mtR_len : ∀ {ms : List Bool} {rs : List Re} {ss : En}, MtR ms rs ss → ss.length = rs.length
  | [], [], [], _ => rfl
  | true :: ms, r :: rs, s :: ss, h => by simp [mtR_len h.2]
  | false :: ms, _ :: rs, _ :: ss, h => by simp [mtR_len (ms := ms) h]
  | [], _ :: _, _, h => by cases h
  | [], [], _ :: _, h => by cases h
  | true :: _, [], _, h => by cases h
  | true :: _, _ :: _, [], h => by cases h
  | false :: _, [], _, h => by cases h
  | false :: _, _ :: _, [], h => by cases h
def PaR : List Bool → List Re → List Ag → En → Prop
  | [], [], [], _ => True
  | true :: ms, .slot i :: rs, .io o :: as, δ => (∃ s, δ[i]? = some s ∧ s.obj = some o) ∧ PaR ms rs as δ
  | true :: ms, .new o0 :: rs, .io o :: as, δ => o0 = o ∧ PaR ms rs as δ
  | false :: ms, _ :: rs, .dat _ :: as, δ => PaR ms rs as δ
  | _, _, _, _ => False
theorem PaR.set {s : Sl} {i : Nat} : ∀ {ms : List Bool} {rs : List Re} {as : List Ag} {δ : En}, PaR ms rs as δ → i ∉ ioSl ms rs → PaR ms rs as (δ.set i s)
  | [], [], [], _, _, _ => trivial
  | true :: ms, .slot j :: rs, .io o :: as, δ, ⟨⟨t, h1, h2⟩, h3⟩, hi => by
    have hij : i ≠ j := fun e => hi (by subst e; exact List.mem_cons_self)
    exact ⟨⟨t, by rw [List.getElem?_set_ne hij]; exact h1, h2⟩, PaR.set h3 fun z => hi (List.mem_cons_of_mem _ z)⟩
  | true :: ms, .new o0 :: rs, .io o :: as, δ, ⟨h1, h2⟩, hi => ⟨h1, PaR.set h2 hi⟩
  | false :: ms, r :: rs, .dat d :: as, δ, h, hi => PaR.set (ms := ms) (rs := rs) (as := as) h fun z => hi (by cases r <;> exact z)
theorem feet_free {Hf H : Hp} : ∀ {vs : List V} {as : List Ag} {io : List Addr}, ArgsR K Hf H vs as io → ∀ x ∈ feet H io (iosOf as), Hf x = none
  | [], [], [], _, x, hx => by simp [feet] at hx
  | v :: vs, .dat d :: as, io, h, x, hx => feet_free h.2 x hx
  | v :: vs, .io o :: as, a :: io, h, x, hx => by
    rcases List.mem_append.mp hx with e | e
    · exact h.2.2.1.free h.2.1 x e
    · exact feet_free h.2.2.2 x e
  | [], _ :: _, _, h, _, _ => by cases h
  | [], [], _ :: _, h, _, _ => by cases h
  | _ :: _, [], _, h, _, _ => by cases h
  | _ :: _, .io _ :: _, [], h, _, _ => by cases h
def ATs (L : L2.St) (M : En) : List Addr → List MO → List Nat → Prop
  | a :: io, o :: os, i :: ix => (L[i]? = some (some (.ref a)) ∧ ∃ s, M[i]? = some s ∧ s.obj = some o) ∧ ATs L M io os ix
  | [], [], [] => True
  | _, _, _ => False
theorem ATs.mem {L : L2.St} {M : En} {H : Hp} : ∀ {io : List Addr} {os : List MO} {ix : List Nat}, ATs L M io os ix → ∀ x ∈ feet H io os, ∃ j ∈ ix, ∃ b u s, L[j]? = some (some (.ref b)) ∧ M[j]? = some s ∧ s.obj = some u ∧ x ∈ mf H b u
  | a :: io, o :: os, i :: ix, ⟨⟨h1, s, h2, h3⟩, h4⟩, x, hx => by
    rcases List.mem_append.mp hx with e | e
    · exact ⟨i, List.mem_cons_self, a, o, s, h1, h2, h3, e⟩
    · obtain ⟨j, hj, r⟩ := ATs.mem h4 x e
      exact ⟨j, List.mem_cons_of_mem _ hj, r⟩
  | [], [], [], _, x, hx => by simp [feet] at hx
  | [], _ :: _, _, h, _, _ => by cases h
  | [], [], _ :: _, h, _, _ => by cases h
  | _ :: _, [], _, h, _, _ => by cases h
  | _ :: _, _ :: _, [], h, _, _ => by cases h
theorem feet_nodup {L : L2.St} {M : En} {Hf H : Hp} (S : Sta B K Hf H L M) : ∀ {io : List Addr} {os : List MO} {ix : List Nat}, ATs L M io os ix → ix.Nodup → (feet H io os).Nodup
  | a :: io, o :: os, i :: ix, ⟨⟨h1, s, h2, h3⟩, h4⟩, nd => by
    have nd' := List.nodup_cons.mp nd
    obtain ⟨b, e1, e2, e3⟩ := (S.cell i _ s h1 h2).obj h3
    cases e1
    refine List.nodup_append.mpr ⟨e3.nd, feet_nodup S h4 nd'.2, fun x hx y hy e => ?_⟩
    subst e
    obtain ⟨j, hj, c, u, t, z1, z2, z3, z4⟩ := h4.mem x hy
    exact S.dj i j a c s t o u (fun e => nd'.1 (by rw [e]; exact hj)) h1 z1 h2 z2 h3 z3 x hx z4
  | [], [], [], _, _ => List.nodup_nil
  | [], _ :: _, _, h, _ => by cases h
  | [], [], _ :: _, h, _ => by cases h
  | _ :: _, [], _, h, _ => by cases h
  | _ :: _, _ :: _, [], h, _ => by cases h
theorem pass_ok {H : Hp} {σ : L2.St} (hs : σ.length = B.n) : ∀ {ms : List Bool} {rs : List Re} {δ : En} {vs : List V} {τ : L2.St} {θ : En} {Hf : Hp} {k : List Ag → En → Prop}, δ.length = B.n → vs.length = rs.length → Sta B K Hf H (σ ++ (τ ++ vs.map some)) (δ ++ (θ ++ rs.map Re.sl)) → passR ms rs δ k →
    ∃ as δ' Hf' ss io, k as δ' ∧ δ'.length = B.n ∧ Same Hf Hf' ∧ MtR ms rs ss ∧ Sta B K Hf' H (σ ++ (τ ++ vs.map some)) (δ' ++ (θ ++ ss)) ∧ ArgsR K Hf' H vs as io ∧
      ATs (σ ++ (τ ++ vs.map some)) (δ' ++ (θ ++ ss)) io (iosOf as) (ixR (B.n + τ.length) ms rs) ∧ (∀ i ∈ ioSl ms rs, i < B.n) ∧ PaR ms rs as δ'
  | [], [], δ, [], τ, θ, Hf, k, hd, hl, S, h => ⟨[], δ, Hf, [], [], h, hd, Same.refl _, trivial, by simpa using S, trivial, trivial, by simp [ioSl], trivial⟩
  | false :: ms, r :: rs, δ, v :: vs, τ, θ, Hf, k, hd, hl, S, h => by
    have hlt : τ.length = θ.length := by
      have q := S.lenT hs hd
      simp only [List.length_append, List.length_map, List.length_cons] at q hl
      omega
    have h' : datR r δ fun d δ1 => passR ms rs δ1 fun as δ2 => k (.dat d :: as) δ2 := by cases r <;> exact h
    obtain ⟨d, δ1, Hf1, s, k1, hd1, e1, q1, S1⟩ := datR_ok (v := v) (ws := vs.map some) (ss := rs.map Re.sl) hs hd hlt S h'
    have S1' : Sta B K Hf1 H (σ ++ ((τ ++ [some v]) ++ vs.map some)) (δ1 ++ ((θ ++ [s]) ++ rs.map Re.sl)) := by simpa [List.append_assoc] using S1
    obtain ⟨as, δ2, Hf2, ss, io, k2, hd2, e2, m2, S2, a2, p2, l2⟩ := pass_ok hs (ms := ms) (rs := rs) (vs := vs) (τ := τ ++ [some v]) (θ := θ ++ [s]) hd1 (by simpa using hl) S1' k1
    have eix : ixR (B.n + τ.length) (false :: ms) (r :: rs) = ixR (B.n + (τ ++ [some v]).length) ms rs := by cases r <;> simp [ixR] <;> rfl
    have esl : ioSl (false :: ms) (r :: rs) = ioSl ms rs := by cases r <;> rfl
    rw [eix, esl]
    exact ⟨.dat d :: as, δ2, Hf2, s :: ss, io, k2, hd2, e1.trans e2, m2, by simpa [List.append_assoc] using S2, ⟨Same.dp e2 q1, a2⟩, by simpa [List.append_assoc, Nat.add_assoc, iosOf] using p2, l2.1, l2.2⟩
  | true :: ms, .slot i :: rs, δ, v :: vs, τ, θ, Hf, k, hd, hl, S, h => by
    have hlt : τ.length = θ.length := by
      have q := S.lenT hs hd
      simp only [List.length_append, List.length_map, List.length_cons] at q hl
      omega
    have S1' : Sta B K Hf H (σ ++ ((τ ++ [some v]) ++ vs.map some)) (δ ++ ((θ ++ [Sl.bor i]) ++ rs.map Re.sl)) := by simpa [List.append_assoc, Re.sl] using S
    obtain ⟨as, δ2, Hf2, ss, io, k2, hd2, e2, m2, S2, a2, p2, l2⟩ := pass_ok hs (ms := ms) (rs := rs) (vs := vs) (τ := τ ++ [some v]) (θ := θ ++ [Sl.bor i]) hd (by simpa using hl) S1' h
    have S2' : Sta B K Hf2 H (σ ++ (τ ++ some v :: vs.map some)) (δ2 ++ (θ ++ Sl.bor i :: ss)) := by simpa [List.append_assoc] using S2
    have c := S2'.cell (B.n + τ.length) _ _ (mid_get (by omega)) (mid_get (by omega))
    obtain ⟨w, ew, qi⟩ := c
    cases ew
    have hi := (S2'.bo (B.n + τ.length) i (mid_get (by omega))).1
    unfold objAt at k2
    cases es : δ2[i]? with
    | none => simp only [es] at k2
    | some s =>
      have hM : (δ2 ++ (θ ++ Sl.bor i :: ss))[i]? = some s := by rw [List.getElem?_append_left (by omega)]; exact es
      have ci := S2'.cell i _ s qi hM
      simp only [es] at k2
      cases s with
      | un => exact k2.elim
      | dat d => exact k2.elim
      | bor b => exact k2.elim
      | fn _ => exact k2.elim
      | own o =>
        obtain ⟨a, ea, f1, f2⟩ := ci
        cases ea
        exact ⟨.io o :: as, δ2, Hf2, Sl.bor i :: ss, a :: io, k2, hd2, e2, ⟨rfl, m2⟩, S2', ⟨rfl, f1, f2, a2⟩, ⟨⟨qi, _, hM, rfl⟩, by simpa [List.append_assoc, Nat.add_assoc] using p2⟩, fun j hj => by
          rcases List.mem_cons.mp hj with e | e
          · subst e; exact hi
          · exact l2.1 j e, ⟨⟨_, es, rfl⟩, l2.2⟩⟩
      | io o =>
        obtain ⟨a, ea, f1, f2⟩ := ci
        cases ea
        exact ⟨.io o :: as, δ2, Hf2, Sl.bor i :: ss, a :: io, k2, hd2, e2, ⟨rfl, m2⟩, S2', ⟨rfl, f1, f2, a2⟩, ⟨⟨qi, _, hM, rfl⟩, by simpa [List.append_assoc, Nat.add_assoc] using p2⟩, fun j hj => by
          rcases List.mem_cons.mp hj with e | e
          · subst e; exact hi
          · exact l2.1 j e, ⟨⟨_, es, rfl⟩, l2.2⟩⟩
  | true :: ms, .new o :: rs, δ, v :: vs, τ, θ, Hf, k, hd, hl, S, h => by
    have hlt : τ.length = θ.length := by
      have q := S.lenT hs hd
      simp only [List.length_append, List.length_map, List.length_cons] at q hl
      omega
    have S1' : Sta B K Hf H (σ ++ ((τ ++ [some v]) ++ vs.map some)) (δ ++ ((θ ++ [Sl.own o]) ++ rs.map Re.sl)) := by simpa [List.append_assoc, Re.sl] using S
    obtain ⟨as, δ2, Hf2, ss, io, k2, hd2, e2, m2, S2, a2, p2, l2⟩ := pass_ok hs (ms := ms) (rs := rs) (vs := vs) (τ := τ ++ [some v]) (θ := θ ++ [Sl.own o]) hd (by simpa using hl) S1' h
    have S2' : Sta B K Hf2 H (σ ++ (τ ++ some v :: vs.map some)) (δ2 ++ (θ ++ Sl.own o :: ss)) := by simpa [List.append_assoc] using S2
    have hL : (σ ++ (τ ++ some v :: vs.map some))[B.n + τ.length]? = some (some v) := mid_get (by omega)
    have hM : (δ2 ++ (θ ++ Sl.own o :: ss))[B.n + τ.length]? = some (.own o) := mid_get (by omega)
    obtain ⟨a, ea, f1, f2⟩ := S2'.cell (B.n + τ.length) _ _ hL hM
    cases ea
    exact ⟨.io o :: as, δ2, Hf2, Sl.own o :: ss, a :: io, k2, hd2, e2, ⟨rfl, m2⟩, S2', ⟨rfl, f1, f2, a2⟩, ⟨⟨hL, _, hM, rfl⟩, by simpa [List.append_assoc, Nat.add_assoc] using p2⟩, fun j hj => l2.1 j hj, ⟨rfl, l2.2⟩⟩
  | true :: _, .dat _ :: _, _, _, _, _, _, _, _, _, _, h => h.elim
  | [], _ :: _, _, _, _, _, _, _, _, _, _, h => h.elim
  | true :: _, [], _, _, _, _, _, _, _, _, _, h => h.elim
  | false :: _, [], _, _, _, _, _, _, _, _, _, h => h.elim
  | [], [], _, _ :: _, _, _, _, _, _, hl, _, _ => by simp at hl
  | true :: _, _ :: _, _, [], _, _, _, _, _, hl, _, _ => by simp at hl
  | false :: _, _ :: _, _, [], _, _, _, _, _, hl, _, _ => by simp at hl
def backR : List Bool → List Re → List MO → En → (En → Prop) → Prop
  | [], [], [], δ, k => k δ
  | true :: ms, .slot i :: rs, o :: os, δ, k => match δ[i]? with
    | some (.own _) => backR ms rs os (δ.set i (.own o)) k
    | some (.io _) => backR ms rs os (δ.set i (.io o)) k
    | _ => False
  | true :: ms, .new _ :: rs, _ :: os, δ, k => backR ms rs os δ k
  | false :: ms, _ :: rs, os, δ, k => backR ms rs os δ k
  | _, _, _, _, _ => False
def over (H : Hp) (ad : List Addr) (H' : Hp) : Hp := fun a => if a ∈ ad then H' a else H a
theorem over_in {H H' : Hp} {ad : List Addr} {x : Addr} (h : x ∈ ad) : over H ad H' x = H' x := if_pos h
theorem over_out {H H' : Hp} {ad : List Addr} {x : Addr} (h : x ∉ ad) : over H ad H' x = H x := if_neg h
def KO (H' : Hp) (σ : L2.St) (sl : List Nat) (F : List Addr) (δ' δ : En) : Prop := ∀ (j : Nat) s u, δ'[j]? = some s → s.obj = some u → (j ∉ sl ∧ δ[j]? = some s) ∨ ∃ a, σ[j]? = some (some (.ref a)) ∧ ∀ x ∈ mf H' a u, x ∈ F
theorem back_step {H' Hf H0 Hc : Hp} {L : L2.St} {M : En} {i : Nat} {a : Addr} {s : Sl} {o1 o : MO} {io : List Addr} {os0 os : List MO} {Hf0 : Hp} (S : Sta B K Hf Hc L M) (hL : L[i]? = some (some (.ref a))) (hM : M[i]? = some s) (hs : s.obj = some o1) (h0 : OR K Hf0 H0 a o1)
    (nd : (mf H0 a o1 ++ feet H0 io os0).Nodup) (c1 : ∀ x ∈ mf H0 a o1 ++ feet H0 io os0, Hc x = H0 x) (c2 : ∀ x, H0 x = none → Hc x = H' x) (c3 : ∀ x ∈ mf H0 a o1 ++ feet H0 io os0, ∃ u, H' x = some u) (c4 : ∀ x ∈ mf H0 a o1 ++ feet H0 io os0, Hf x = none) (c5 : ∀ x u, Hf x = some u → H' x = some u)
    (c6 : ∀ x, H0 x = none → B.H x = none) (nd2 : (mf H' a o ++ feet H' io os).Nodup) (far : ∀ (k : Nat) c t u, L[k]? = some (some (.ref c)) → M[k]? = some t → t.obj = some u → ∀ x ∈ mf Hc c u, H0 x = none → x ∉ mf H' a o ++ feet H' io os)
    (p1 : Hf a = none ∧ OR K Hf H' a o) (nw : ∀ x ∈ mf H' a o, x ∈ mf H0 a o1 ∨ H0 x = none) :
    Sta B K Hf (over Hc (mf H0 a o1) H') L (M.set i (s.with_ o)) ∧ (∀ x ∈ feet H0 io os0, over Hc (mf H0 a o1) H' x = H0 x) ∧ (∀ x, H0 x = none → over Hc (mf H0 a o1) H' x = H' x) ∧ over (over Hc (mf H0 a o1) H') (feet H0 io os0) H' = over Hc (mf H0 a o1 ++ feet H0 io os0) H' ∧
      (∀ (k : Nat) c t u, L[k]? = some (some (.ref c)) → (M.set i (s.with_ o))[k]? = some t → t.obj = some u → ∀ x ∈ mf (over Hc (mf H0 a o1) H') c u, H0 x = none → x ∉ feet H' io os) := by
  have nd' := List.nodup_append.mp nd
  have em : mf Hc a o1 = mf H0 a o1 := by
    cases o1 with
    | tre k ts =>
      have := tr_congr (Same.refl Hf0) _ _ h0.1 (H' := Hc) (fun x hx => c1 x (List.mem_append_left _ hx))
      exact this.2
    | _ => rfl
  have ag : ∀ x ∈ mf H' a o, over Hc (mf H0 a o1) H' x = H' x := fun x hx => by
    by_cases z : x ∈ mf H0 a o1
    · rw [over_in z]
    · rw [over_out z]
      rcases nw x hx with y | y
      · exact absurd y z
      · exact c2 x y
  obtain ⟨g1, g2⟩ := p1.2.congr (Same.refl Hf) ag (p1.2.free p1.1)
  refine ⟨S.mutG hL hM hs (Same.refl _) (fun x u q => ?_) (fun x u q => .inl q) (fun x u q n => ?_) (fun x hx => ?_) p1.1 g1 (fun x hx => ?_), fun x hx => ?_, fun x hx => ?_, ?_, fun k c t u h1 h2 h3 x hx hn => ?_⟩
  · by_cases z : x ∈ mf H0 a o1
    · rw [over_in z]; exact c5 x u q
    · rw [over_out z]; exact S.fh x u q
  · rw [em] at n
    rw [over_out n]
    exact q
  · rw [em] at hx
    rw [over_in hx]
    exact c3 x (List.mem_append_left _ hx)
  · rw [g2] at hx
    rw [em]
    rcases nw x hx with y | y
    · exact .inl y
    · exact .inr ⟨c6 x y, fun k c t u _ h1 h2 h3 z => far k c t u h1 h2 h3 x z y (List.mem_append_left _ hx)⟩
  · rw [over_out fun z => nd'.2.2 x z x hx rfl]
    exact c1 x (List.mem_append_right _ hx)
  · by_cases z : x ∈ mf H0 a o1
    · rw [over_in z]
    · rw [over_out z]; exact c2 x hx
  · funext x
    by_cases z : x ∈ feet H0 io os0
    · rw [over_in z, over_in (List.mem_append_right _ z)]
    · rw [over_out z]
      by_cases y : x ∈ mf H0 a o1
      · rw [over_in y, over_in (List.mem_append_left _ y)]
      · rw [over_out y, over_out fun w => by
          rcases List.mem_append.mp w with w | w
          · exact y w
          · exact z w]
  · have hi : i < M.length := (List.getElem?_eq_some_iff.mp hM).1
    by_cases hk : k = i
    · subst hk
      rw [List.getElem?_set_self hi] at h2
      rw [hL] at h1
      cases h1
      cases h2
      have eu : u = o := by cases s <;> first | (cases hs; done) | (cases h3; rfl)
      subst eu
      rw [g2] at hx
      exact fun z => (List.nodup_append.mp nd2).2.2 x hx x z rfl
    · rw [List.getElem?_set_ne (Ne.symm hk)] at h2
      obtain ⟨d, z1, z2, z3⟩ := (S.cell k _ t h1 h2).obj h3
      cases z1
      have q : ∀ y ∈ mf Hc c u, over Hc (mf H0 a o1) H' y = Hc y := fun y hy => over_out fun w => by
        rw [← em] at w
        exact S.dj k i c a t s u o1 hk h1 hL h2 hM h3 hs y hy w
      rw [(z3.congr (Same.refl Hf) q (z3.free z2)).2] at hx
      exact fun w => far k c t u h1 h2 h3 x hx hn (List.mem_append_right _ w)
theorem back_ok {H' Hf H0 : Hp} {σ : L2.St} (hs : σ.length = B.n) : ∀ {ms : List Bool} {rs : List Re} {os : List MO} {δ : En} {vs : List V} {as : List Ag} {io : List Addr} {τ : L2.St} {θ ss : En} {Hc Hf0 : Hp} {k : En → Prop}, δ.length = B.n → vs.length = rs.length → MtR ms rs ss → ArgsR K Hf0 H0 vs as io → PaR ms rs as δ → (ioSl ms rs).Nodup →
    Sta B K Hf Hc (σ ++ (τ ++ vs.map some)) (δ ++ (θ ++ ss)) → (feet H0 io (iosOf as)).Nodup → (∀ x ∈ feet H0 io (iosOf as), Hc x = H0 x) → (∀ x, H0 x = none → Hc x = H' x) → (∀ x ∈ feet H0 io (iosOf as), ∃ u, H' x = some u) → (∀ x ∈ feet H0 io (iosOf as), Hf x = none) → (∀ x u, Hf x = some u → H' x = some u) → (∀ x, H0 x = none → B.H x = none) → (feet H' io os).Nodup → (∀ (k : Nat) c t u, (σ ++ (τ ++ vs.map some))[k]? = some (some (.ref c)) → (δ ++ (θ ++ ss))[k]? = some t → t.obj = some u → ∀ x ∈ mf Hc c u, H0 x = none → x ∉ feet H' io os) →
    Paired (fun a o => Hf a = none ∧ OR K Hf H' a o) io os → NwR H0 H' io (iosOf as) os → backR ms rs os δ k → ∃ δ', k δ' ∧ δ'.length = B.n ∧ Sta B K Hf (over Hc (feet H0 io (iosOf as)) H') (σ ++ τ) (δ' ++ θ) ∧ KO H' σ (ioSl ms rs) (feet H' io os) δ' δ
  | [], [], [], δ, [], [], [], τ, θ, [], Hc, Hf0, k, hd, hl, m, ha, hp, hn, S, nd, c1, c2, c3, c4, c5, c6, c7, c8, p, nw, h => ⟨δ, h, hd, by
      have e : over Hc (feet H0 [] (iosOf [])) H' = Hc := by funext a; simp [over, feet]
      rw [e]
      simpa using S, fun j s u h1 h2 => .inl ⟨by simp [ioSl], h1⟩⟩
  | false :: ms, r :: rs, os, δ, v :: vs, .dat d :: as, io, τ, θ, s :: ss, Hc, Hf0, k, hd, hl, m, ha, hp, hn, S, nd, c1, c2, c3, c4, c5, c6, c7, c8, p, nw, h => by
    have S1 : Sta B K Hf Hc (σ ++ ((τ ++ [some v]) ++ vs.map some)) (δ ++ ((θ ++ [s]) ++ ss)) := by simpa [List.append_assoc] using S
    have h' : backR ms rs os δ k := by cases r <;> cases os <;> exact h
    have hn' : (ioSl ms rs).Nodup := by cases r <;> exact hn
    have hp' : PaR ms rs as δ := by cases r <;> exact hp
    obtain ⟨δ', q1, q2, q3, q4⟩ := back_ok hs (ms := ms) hd (by simpa using hl) m ha.2 hp' hn' S1 nd c1 c2 c3 c4 c5 c6 c7 (by simpa [List.append_assoc] using c8) p nw h'
    have e : ioSl (false :: ms) (r :: rs) = ioSl ms rs := by cases r <;> rfl
    rw [e]
    exact ⟨δ', q1, q2, q3.pop1 hs q2, q4⟩
  | true :: ms, .new o0 :: rs, o :: os, δ, v :: vs, .io o1 :: as, a :: io, τ, θ, s :: ss, Hc, Hf0, k, hd, hl, m, ha, hp, hn, S, nd, c1, c2, c3, c4, c5, c6, c7, c8, .cons p1 p2, nw, h => by
    have hlt : τ.length = θ.length := by
      have q := S.lenT hs hd
      have := mtR_len m.2
      simp only [List.length_append, List.length_map, List.length_cons] at q hl
      omega
    have es : s = .own o0 := m.1
    subst es
    have eo : o0 = o1 := hp.1
    subst eo
    have ev : v = .ref a := ha.1
    subst ev
    obtain ⟨S1, c1', c2', eov, c8'⟩ := back_step (i := B.n + τ.length) (s := .own o0) S (mid_get (by omega)) (mid_get (by omega)) rfl ha.2.2.1 nd c1 c2 c3 c4 c5 c6 c7 c8 p1 nw.1
    rw [set_mid (by omega)] at S1 c8'
    have S2 : Sta B K Hf (over Hc (mf H0 a o0) H') (σ ++ ((τ ++ [some (V.ref a)]) ++ vs.map some)) (δ ++ ((θ ++ [Sl.own o]) ++ ss)) := by simpa [List.append_assoc, Sl.with_] using S1
    obtain ⟨δ', q1, q2, q3, q4⟩ := back_ok hs (ms := ms) hd (by simpa using hl) m.2 ha.2.2.2 hp.2 hn S2 (List.nodup_append.mp nd).2.1 c1' c2' (fun x hx => c3 x (List.mem_append_right _ hx)) (fun x hx => c4 x (List.mem_append_right _ hx)) c5 c6 (List.nodup_append.mp c7).2.1 (by simpa [List.append_assoc, Sl.with_] using c8') p2 nw.2 h
    rw [eov] at q3
    exact ⟨δ', q1, q2, q3.pop1 hs q2, fun j s u h1 h2 => by
      rcases q4 j s u h1 h2 with z | ⟨b, z1, z2⟩
      · exact .inl z
      · exact .inr ⟨b, z1, fun x hx => List.mem_append_right _ (z2 x hx)⟩⟩
  | true :: ms, .slot i :: rs, o :: os, δ, v :: vs, .io o1 :: as, a :: io, τ, θ, s :: ss, Hc, Hf0, k, hd, hl, m, ha, hp, hn, S, nd, c1, c2, c3, c4, c5, c6, c7, c8, .cons p1 p2, nw, h => by
    have hlt : τ.length = θ.length := by
      have q := S.lenT hs hd
      have := mtR_len m.2
      simp only [List.length_append, List.length_map, List.length_cons] at q hl
      omega
    have es : s = .bor i := m.1
    subst es
    have ev : v = .ref a := ha.1
    subst ev
    obtain ⟨w, ew, qi⟩ := S.cell (B.n + τ.length) (some (.ref a)) (.bor i) (mid_get (by omega)) (mid_get (by omega))
    cases ew
    have hi := (S.bo (B.n + τ.length) i (mid_get (by omega))).1
    obtain ⟨⟨t, et, ho2⟩, hp2⟩ := hp
    unfold backR at h
    simp only [et] at h
    have hM : (δ ++ (θ ++ Sl.bor i :: ss))[i]? = some t := by rw [List.getElem?_append_left (by omega)]; exact et
    have h : backR ms rs os (δ.set i (t.with_ o)) k := by
      cases t with
      | un => exact h.elim
      | own o2 => exact h
      | io o2 => exact h
      | dat d => exact h.elim
      | bor b => exact h.elim
      | fn _ => exact h.elim
    obtain ⟨S1, c1', c2', eov, c8'⟩ := back_step (i := i) (s := t) S qi hM ho2 ha.2.2.1 nd c1 c2 c3 c4 c5 c6 c7 c8 p1 nw.1
    rw [List.set_append_left _ _ (by omega)] at S1 c8'
    have S2 : Sta B K Hf (over Hc (mf H0 a o1) H') (σ ++ ((τ ++ [some (V.ref a)]) ++ vs.map some)) (δ.set i (t.with_ o) ++ ((θ ++ [Sl.bor i]) ++ ss)) := by simpa [List.append_assoc] using S1
    have hn2 := List.nodup_cons.mp (show (i :: ioSl ms rs).Nodup from hn)
    obtain ⟨δ', q1, q2, q3, q4⟩ := back_ok hs (ms := ms) (by rw [List.length_set]; exact hd) (by simpa using hl) m.2 ha.2.2.2 (hp2.set hn2.1) hn2.2 S2 (List.nodup_append.mp nd).2.1 c1' c2' (fun x hx => c3 x (List.mem_append_right _ hx)) (fun x hx => c4 x (List.mem_append_right _ hx)) c5 c6 (List.nodup_append.mp c7).2.1 (by simpa [List.append_assoc, Sl.with_] using c8') p2 nw.2 h
    rw [eov] at q3
    refine ⟨δ', q1, q2, q3.pop1 hs q2, fun j s u h1 h2 => ?_⟩
    rcases q4 j s u h1 h2 with ⟨z1, z2⟩ | ⟨b, z1, z2⟩
    · by_cases hj : j = i
      · subst hj
        rw [List.getElem?_set_self (by omega)] at z2
        cases z2
        have eu : u = o := by cases t <;> first | (cases ho2; done) | (cases h2; rfl)
        subst eu
        refine .inr ⟨a, by rw [List.getElem?_append_left (by omega)] at qi; exact qi, fun x hx => List.mem_append_left _ hx⟩
      · rw [List.getElem?_set_ne (Ne.symm hj)] at z2
        refine .inl ⟨fun z => ?_, z2⟩
        rcases List.mem_cons.mp (show j ∈ i :: ioSl ms rs from z) with y | y
        · exact hj y
        · exact z1 y
    · exact .inr ⟨b, z1, fun x hx => List.mem_append_right _ (z2 x hx)⟩
theorem over_mid {Hf H Hf' H' : Hp} {io : List Addr} {os0 os : List MO} (p : Po K Hf H io os0 Hf' H' os) (hio : ∀ x ∈ feet H io os0, Hf x = none ∧ ∃ o, H x = some o) : Gw Hf H Hf' (over H' (feet H io os0) H) ∧ over (over H' (feet H io os0) H) (feet H io os0) H' = H' ∧ ∀ x ∈ feet H io os0, Hf' x = none := by
  have off : ∀ a ∈ feet H io os0, Hf' a = none := fun a ha => by
    obtain ⟨h1, o, h2⟩ := hio a ha
    cases e : Hf' a with
    | none => rfl
    | some u =>
      rcases p.fn a u e with q | q
      · rw [h1] at q; cases q
      · rw [h2] at q; cases q
  refine ⟨⟨fun a o h => ?_, p.ff, fun a o h => ?_, p.fn⟩, ?_, off⟩
  · by_cases ha : a ∈ feet H io os0
    · rw [over_in ha]; exact h
    · rw [over_out ha]; exact p.kp a o h ha
  · by_cases ha : a ∈ feet H io os0
    · rw [off a ha] at h; cases h
    · rw [over_out ha]; exact p.fh a o h
  · funext a
    by_cases ha : a ∈ feet H io os0
    · rw [over_in ha]
    · rw [over_out ha, over_out ha]
def pickR (ms : List Bool) (rs : List Re) (os : List MO) (j : Nat) (δ : En) (k : Re → En → Prop) : Prop := match rs[j]? with
  | some (.slot i) => ms[j]? = some true ∧ (match δ[i]? with
    | some (.own _) => k (.slot i) δ
    | some (.io _) => k (.slot i) δ
    | _ => False)
  | some (.new _) => ms[j]? = some true ∧ ioSl ms rs = [] ∧ (match os with
    | [o] => k (.new o) δ
    | _ => False)
  | _ => False
theorem ioAt_arg {K : PySem.W.Frag} [HasW K] {Hf H : Hp} : ∀ {vs : List V} {as : List Ag} {io : List Addr} {n j : Nat} {a : Addr} {F : List Addr}, ArgsR K Hf H vs as io → (j, a, F) ∈ ioAt H n as io → ∃ i, j = n + i ∧ vs[i]? = some (.ref a) ∧ a ∈ io
  | v :: vs, .dat _ :: as, io, n, j, a, F, h, m => by
    obtain ⟨i, e, e2, e3⟩ := ioAt_arg (n := n + 1) h.2 m
    exact ⟨i + 1, by omega, by simpa using e2, e3⟩
  | v :: vs, .io o :: as, b :: io, n, j, a, F, h, m => by
    rcases List.mem_cons.mp m with e | e
    · cases e
      exact ⟨0, rfl, by simp [h.1], List.mem_cons_self⟩
    · obtain ⟨i, e, e2, e3⟩ := ioAt_arg (n := n + 1) h.2.2.2 e
      exact ⟨i + 1, by omega, by simpa using e2, List.mem_cons_of_mem _ e3⟩
  | [], [], [], _, _, _, _, _, m => by simp [ioAt] at m
  | [], _ :: _, _, _, _, _, _, h, _ => by cases h
  | [], [], _ :: _, _, _, _, _, h, _ => by cases h
  | _ :: _, [], _, _, _, _, _, h, _ => by cases h
  | _ :: _, .io _ :: _, [], _, _, _, _, h, _ => by cases h
theorem mtR_at : ∀ {ms : List Bool} {rs : List Re} {ss : En} {j : Nat} {r : Re}, MtR ms rs ss → ms[j]? = some true → rs[j]? = some r → ss[j]? = some r.sl
  | true :: ms, r :: rs, s :: ss, 0, r', h, e1, e2 => by
    simp at e2 ⊢
    rw [h.1, e2]
  | true :: ms, r :: rs, s :: ss, j + 1, r', h, e1, e2 => by
    have := mtR_at (j := j) h.2 (by simpa using e1) (by simpa using e2)
    simpa using this
  | false :: ms, r :: rs, s :: ss, 0, r', h, e1, e2 => by simp at e1
  | false :: ms, r :: rs, s :: ss, j + 1, r', h, e1, e2 => by
    have := mtR_at (ms := ms) (rs := rs) (ss := ss) (j := j) h (by simpa using e1) (by simpa using e2)
    simpa using this
  | [], _, _, _, _, _, e1, _ => by simp at e1
  | _ :: _, [], _, _, _, _, _, e2 => by simp at e2
  | true :: _, _ :: _, [], _, _, h, _, _ => by cases h
  | false :: _, _ :: _, [], _, _, h, _, _ => by cases h
theorem ixR_at : ∀ (n : Nat) (ms : List Bool) (rs : List Re) (i : Nat), i ∈ ixR n ms rs → i ∈ ioSl ms rs ∨ ∃ m o, i = n + m ∧ ms[m]? = some true ∧ rs[m]? = some (.new o)
  | n, true :: ms, .slot j :: rs, i, h => by
    rcases List.mem_cons.mp h with e | e
    · left; subst e; exact List.mem_cons_self
    · rcases ixR_at (n + 1) ms rs i e with q | ⟨m, o, q1, q2, q3⟩
      · left; exact List.mem_cons_of_mem _ q
      · exact .inr ⟨m + 1, o, by omega, by simpa using q2, by simpa using q3⟩
  | n, true :: ms, .new o0 :: rs, i, h => by
    rcases List.mem_cons.mp h with e | e
    · exact .inr ⟨0, o0, by omega, rfl, rfl⟩
    · rcases ixR_at (n + 1) ms rs i e with q | ⟨m, o, q1, q2, q3⟩
      · left; exact q
      · exact .inr ⟨m + 1, o, by omega, by simpa using q2, by simpa using q3⟩
  | n, true :: ms, .dat _ :: rs, i, h => by
    rcases ixR_at (n + 1) ms rs i h with q | ⟨m, o, q1, q2, q3⟩
    · left; exact q
    · exact .inr ⟨m + 1, o, by omega, by simpa using q2, by simpa using q3⟩
  | n, false :: ms, r :: rs, i, h => by
    have h' : i ∈ ixR (n + 1) ms rs := by cases r <;> exact h
    have e : ioSl (false :: ms) (r :: rs) = ioSl ms rs := by cases r <;> rfl
    rw [e]
    rcases ixR_at (n + 1) ms rs i h' with q | ⟨m, o, q1, q2, q3⟩
    · left; exact q
    · exact .inr ⟨m + 1, o, by omega, by simpa using q2, by simpa using q3⟩
  | _, [], _, _, h => by simp [ixR] at h
  | _, true :: _, [], _, h => by simp [ixR] at h
  | _, false :: _, [], _, h => by simp [ixR] at h
theorem back_same : ∀ {ms : List Bool} {rs : List Re} {os : List MO} {δ : En} {k : En → Prop}, ioSl ms rs = [] → backR ms rs os δ k → k δ ∧ backR ms rs os δ fun δ' => k δ' ∧ δ' = δ := by
  intro ms
  induction ms with
  | nil =>
    intro rs os δ k e h
    cases rs <;> cases os <;> first | exact ⟨h, h, rfl⟩ | exact h.elim
  | cons m ms ih =>
    intro rs os δ k e h
    cases rs with
    | nil => cases m <;> cases os <;> exact h.elim
    | cons r rs =>
      cases m with
      | false =>
        have e' : ioSl ms rs = [] := by cases r <;> exact e
        have h' : backR ms rs os δ k := by cases r <;> cases os <;> exact h
        obtain ⟨q1, q2⟩ := ih e' h'
        exact ⟨q1, by cases r <;> cases os <;> exact q2⟩
      | true =>
        cases r with
        | slot i => cases e
        | dat d => cases os <;> exact h.elim
        | new o0 =>
          cases os with
          | nil => exact h.elim
          | cons o os =>
            obtain ⟨q1, q2⟩ := ih (rs := rs) (os := os) e h
            exact ⟨q1, q2⟩
def dCall (fs : FS) (ms : List Bool) (a : DA) (EX : Str → List (Str × D) → En → Prop) : DE := fun δ k => a δ fun rs δ1 => (ioSl ms rs).Nodup ∧ passR ms rs δ1 fun as δ2 => fs as (fun r os => backR ms rs os δ2 fun δ3 => match r with
  | .slot j => pickR ms rs os j δ3 k
  | r => k r δ3) (fun C xs os => backR ms rs os δ2 fun δ3 => EX C xs δ3)
def NoX : Str → List (Str × D) → En → Prop := fun _ _ _ => False
def XOk (B : Bs) (K : PySem.W.Frag) [HasW K] (E : XK) (EX : Str → List (Str × D) → En → Prop) : Prop := ∀ Hf H σ δ n C xs dx, σ.length = B.n → δ.length = B.n → Sta B K Hf H σ δ → NmAt K n C → XR K Hf H xs dx → EX n xs δ → E (.ref C) dx H
theorem xok_no {E : XK} : XOk B K E NoX := fun _ _ _ _ _ _ _ _ _ _ _ _ _ h => h.elim
theorem Sta.down {Hf H : Hp} {σ : L2.St} {δ : En} : ∀ {τ : L2.St} {θ : En}, σ.length = B.n → δ.length = B.n → Sta B K Hf H (σ ++ τ) (δ ++ θ) → Sta B K Hf H σ δ := fun {τ θ} hs hd S => by
  have := Sta.popN (τ := []) (θ := []) hs hd (vs := τ) (ss := θ) (by have := S.lenT hs hd; omega) (by simpa using S)
  simpa using this
theorem call_coreQ {fs : FS} {ms : List Bool} {EX : Str → List (Str × D) → En → Prop} {W : Value → Option Addr → L2.St → Hp → Prop} {Hf H : Hp} {σ τ : L2.St} {δ θ : En} {rs : List Re} {vs : List V} {kk : Re → En → Prop} {Q : Hp → VK}
    (hE : ∀ Hf H δ n C xs dx, δ.length = B.n → Sta B K Hf H σ δ → NmAt K n C → XR K Hf H xs dx → EX n xs δ → W (.ref C) dx σ H)
    (hs : σ.length = B.n) (hd : δ.length = B.n) (hl : vs.length = rs.length) (S : Sta B K Hf H (σ ++ (τ ++ vs.map some)) (δ ++ (θ ++ rs.map Re.sl)))
    (h : (ioSl ms rs).Nodup ∧ passR ms rs δ fun as δ2 => fs as (fun r os => backR ms rs os δ2 fun δ3 => match r with
      | .slot j => pickR ms rs os j δ3 kk
      | r => kk r δ3) (fun C xs os => backR ms rs os δ2 fun δ3 => EX C xs δ3))
    (k : ∀ r δ' v Hf' H', kk r δ' → δ'.length = B.n → Same Hf Hf' → Sta B K Hf' H' (σ ++ (τ ++ [some v])) (δ' ++ (θ ++ [r.sl])) → Q Hf' v H') :
    ∃ (Hf2 : Hp) (as : List Ag) (io : List Addr) (P : Re → List MO → Prop) (X : XW), Same Hf Hf2 ∧ (∃ L M, Sta B K Hf2 H L M) ∧ Same Hf2 H ∧ ArgsR K Hf2 H vs as io ∧ (feet H io (iosOf as)).Nodup ∧ fs as P X ∧
      (∀ r os v Hf' H', P r os → Po K Hf2 H io (iosOf as) Hf' H' os → RX K H Hf' H' as io r v → RD H' io os r v → Q Hf' v H') ∧
      (∀ n C xs os dx Hf' H', X n xs os → NmAt K n C → Po K Hf2 H io (iosOf as) Hf' H' os → XR K Hf' H' xs dx → W (.ref C) dx σ H') := by
  obtain ⟨nd, h⟩ := h
  obtain ⟨as, δ2, Hf2, ss, io, h2, hd2, e2, m2, S2, a2, p2, l2, pa⟩ := pass_ok hs hd hl S h
  have nio := feet_nodup S2 p2 (ixR_nodup _ ms rs nd fun i hi => Nat.lt_of_lt_of_le (l2 i hi) (Nat.le_add_right _ _))
  have hio : ∀ x ∈ feet H io (iosOf as), Hf2 x = none ∧ ∃ o, H x = some o := fun x hx => ⟨feet_free a2 x hx, feet_all a2 x hx⟩
  have hlt : τ.length = θ.length := by
    have q := S2.lenT hs hd2
    have := mtR_len m2
    simp only [List.length_append, List.length_map] at q
    omega
  have behind : ∀ (os : List MO) (Hf' H' : Hp) (kb : En → Prop), Po K Hf2 H io (iosOf as) Hf' H' os → backR ms rs os δ2 kb → ∃ δ', kb δ' ∧ δ'.length = B.n ∧ Sta B K Hf' H' (σ ++ τ) (δ' ++ θ) ∧ KO H' σ (ioSl ms rs) (feet H' io os) δ' δ2 := fun os Hf' H' kb p hb => by
    obtain ⟨g, eo, off⟩ := over_mid p hio
    obtain ⟨δ', q1, q2, q3, q4⟩ := back_ok (H' := H') (H0 := H) hs hd2 hl m2 a2 pa nd (S2.grow g) nio (fun x hx => over_in hx) (fun x hx => over_out fun z => by
      obtain ⟨u, e⟩ := feet_all a2 x z
      rw [hx] at e; cases e) p.al off p.fh (fun x hx => S2.fresh0 hx) p.nd (fun k c t u h1 h2 h3 x hx hn => by
      rw [S2.mf_grow g h1 h2 h3] at hx
      exact absurd hx (S2.far0 hn k c t u h1 h2 h3)) p.ob p.nw hb
    rw [eo] at q3
    exact ⟨δ', q1, q2, q3, q4⟩
  refine ⟨Hf2, as, io, _, _, e2, ⟨_, _, S2⟩, S2.fh, a2, nio, h2, fun r os v Hf' H' hb p rr rd => ?_, fun n C xs os dx Hf' H' hb nm p xr => ?_⟩
  · cases r with
    | slot j =>
      obtain ⟨a, F, ev, hm⟩ := rr
      subst ev
      obtain ⟨j', ej, hv, hio2⟩ := ioAt_arg a2 hm
      have ej : j = j' := by omega
      subst ej
      have hb : backR ms rs os δ2 fun δ3 => pickR ms rs os j δ3 kk := hb
      cases er : rs[j]? with
      | none =>
        obtain ⟨δ', q1, _⟩ := behind os Hf' H' _ p hb
        unfold pickR at q1
        simp only [er] at q1
      | some r0 =>
        cases r0 with
        | dat d =>
          obtain ⟨δ', q1, _⟩ := behind os Hf' H' _ p hb
          unfold pickR at q1
          simp only [er] at q1
        | slot i =>
          obtain ⟨δ', q1, q2, q3, q4⟩ := behind os Hf' H' _ p hb
          unfold pickR at q1
          simp only [er] at q1
          obtain ⟨hms, q1⟩ := q1
          have hss := mtR_at m2 hms er
          have hjl : j < vs.length := (List.getElem?_eq_some_iff.mp hv).1
          have hL : (σ ++ (τ ++ vs.map some))[B.n + τ.length + j]? = some (some (.ref a)) := by
            rw [List.getElem?_append_right (by omega), List.getElem?_append_right (by omega), List.getElem?_map, show B.n + τ.length + j - σ.length - τ.length = j by omega, hv]; rfl
          have hM : (δ2 ++ (θ ++ ss))[B.n + τ.length + j]? = some (.bor i) := by
            rw [List.getElem?_append_right (by omega), List.getElem?_append_right (by omega), show B.n + τ.length + j - δ2.length - θ.length = j by omega, hss]; rfl
          obtain ⟨w, ew, qi⟩ := S2.cell _ _ _ hL hM
          cases ew
          have hi := (S2.bo _ i hM).1
          have qi' : (σ ++ τ)[i]? = some (some (.ref a)) := by
            rw [List.getElem?_append_left (by omega)] at qi ⊢
            exact qi
          have fin : ∀ s, δ'[i]? = some s → s ≠ .un → kk (.slot i) δ' → Q Hf' (.ref a) H' := fun s es ns hk => by
            have hd'' : i < δ'.length := by omega
            have := q3.pushB hi qi' (s := s) (by rw [List.getElem?_append_left hd'']; exact es) ns
            rw [List.append_assoc, List.append_assoc] at this
            exact k (.slot i) δ' _ Hf' H' hk q2 (e2.trans p.ff) this
          cases es : δ'[i]? with
          | none => simp only [es] at q1
          | some s =>
            cases s with
            | own u => simp only [es] at q1; exact fin _ es (fun z => nomatch z) q1
            | io u => simp only [es] at q1; exact fin _ es (fun z => nomatch z) q1
            | un => simp only [es] at q1
            | dat _ => simp only [es] at q1
            | bor _ => simp only [es] at q1
            | fn _ => simp only [es] at q1
        | new o0 =>
          by_cases hsl : ioSl ms rs = []
          · obtain ⟨_, hb2⟩ := back_same hsl hb
            obtain ⟨δ', ⟨q1, eδ⟩, q2, q3, q4⟩ := behind os Hf' H' _ p hb2
            subst eδ
            unfold pickR at q1
            simp only [er] at q1
            obtain ⟨hms, _, q1⟩ := q1
            cases os with
            | nil => exact q1.elim
            | cons o os =>
              cases os with
              | cons _ _ => exact q1.elim
              | nil =>
                have pob := p.ob
                cases pob with
                | @cons b _ io' _ p1 pt =>
                  cases pt
                  have eb : a = b := by simpa using hio2
                  subst eb
                  obtain ⟨o1, eo1⟩ : ∃ o1, iosOf as = [o1] := by
                    have := p.nw
                    cases ei : iosOf as with
                    | nil => rw [ei] at this; exact this.elim
                    | cons o1 r =>
                      cases r with
                      | nil => exact ⟨o1, rfl⟩
                      | cons _ _ => rw [ei] at this; exact this.2.elim
                  have nw := p.nw
                  rw [eo1] at nw
                  have inf : ∀ x ∈ mf H a o1, x ∈ feet H [a] (iosOf as) := fun x hx => by rw [eo1]; exact List.mem_append_left _ hx
                  have own : ∀ x ∈ mf H a o1, ∃ i c u', B.n + τ.length ≤ i ∧ (σ ++ (τ ++ vs.map some))[i]? = some (some (.ref c)) ∧ (δ' ++ (θ ++ ss))[i]? = some (.own u') ∧ x ∈ mf H c u' := fun x hx => by
                    obtain ⟨i, hi, c, u', s', r1, r2, r3, r4⟩ := p2.mem x (inf x hx)
                    rcases ixR_at _ ms rs i hi with z | ⟨m, o', z1, z2, z3⟩
                    · rw [hsl] at z; cases z
                    · have hss := mtR_at m2 z2 z3
                      have hM : (δ' ++ (θ ++ ss))[i]? = some (.own o') := by
                        rw [List.getElem?_append_right (by omega), List.getElem?_append_right (by omega), show i - δ'.length - θ.length = m by omega, hss]; rfl
                      rw [r2] at hM
                      cases hM
                      cases r3
                      exact ⟨i, c, _, by omega, r1, r2, r4⟩
                  have here : ∀ (kx : Nat) c s u, (σ ++ τ)[kx]? = some (some (.ref c)) → (δ' ++ θ)[kx]? = some s → s.obj = some u → kx < B.n + τ.length ∧ (σ ++ (τ ++ vs.map some))[kx]? = some (some (.ref c)) ∧ (δ' ++ (θ ++ ss))[kx]? = some s := fun kx c s u h1 h2 h3 => by
                    have l1 := (List.getElem?_eq_some_iff.mp h1).1
                    have l2' := (List.getElem?_eq_some_iff.mp h2).1
                    refine ⟨by simp only [List.length_append] at l1; omega, ?_, ?_⟩
                    · rw [← List.append_assoc, List.getElem?_append_left l1]; exact h1
                    · rw [← List.append_assoc, List.getElem?_append_left l2']; exact h2
                  have off : ∀ (kx : Nat) c s u, (σ ++ τ)[kx]? = some (some (.ref c)) → (δ' ++ θ)[kx]? = some s → s.obj = some u → ∀ x ∈ mf H c u, x ∉ mf H a o1 := fun kx c s u h1 h2 h3 x hx hy => by
                    obtain ⟨g1, g2, g3⟩ := here kx c s u h1 h2 h3
                    obtain ⟨i, c', u', r1, r2, r3, r4⟩ := own x hy
                    exact S2.dj kx i c c' s _ u u' (by omega) g2 r2 g3 r3 h3 rfl x hx r4
                  have S3 := q3.pushO (p := a) (o := o) p1.1 p1.2 (fun kx c s u h1 h2 h3 x hx hy => by
                    obtain ⟨g1, g2, g3⟩ := here kx c s u h1 h2 h3
                    obtain ⟨d, z1, z2, z3⟩ := (S2.cell kx _ s g2 g3).obj h3
                    cases z1
                    have q : ∀ y ∈ mf H c u, H' y = H y := fun y hy => by
                      obtain ⟨w, e4⟩ := z3.all y hy
                      rw [e4, p.kp y w e4 fun z => ?_]
                      rw [eo1] at z
                      rcases List.mem_append.mp z with z | z
                      · exact off kx c s u h1 h2 h3 y hy z
                      · cases z
                    have em : mf H' c u = mf H c u := (z3.congr (Same.refl Hf2) q (z3.free z2)).2
                    rw [em] at hx
                    obtain ⟨w, e4⟩ := z3.all x hx
                    rcases nw.1 x hy with y | y
                    · exact off kx c s u h1 h2 h3 x hx y
                    · rw [e4] at y; cases y) (fun x hx => by
                    rcases nw.1 x hx with y | y
                    · obtain ⟨i, c', u', r1, r2, r3, r4⟩ := own x y
                      exact S2.ow i c' u' r2 r3 x r4
                    · exact S2.fresh0 y)
                  rw [List.append_assoc, List.append_assoc] at S3
                  exact k (.new o) δ' _ Hf' H' q1 q2 (e2.trans p.ff) S3
          · obtain ⟨δ', q1, _⟩ := behind os Hf' H' _ p hb
            unfold pickR at q1
            simp only [er] at q1
            exact absurd q1.2.1 hsl
    | dat d =>
      obtain ⟨δ', q1, q2, q3, q4⟩ := behind os Hf' H' _ p hb
      exact k _ δ' v Hf' H' q1 q2 (e2.trans p.ff) (q3.res (r := .dat d) (Gw.refl q3.fh) rr)
    | new o =>
      obtain ⟨δ', q1, q2, q3, q4⟩ := behind os Hf' H' _ p hb
      obtain ⟨a, ea, f1, f2, f3⟩ := rr
      subst ea
      refine k _ δ' _ Hf' H' q1 q2 (e2.trans p.ff) ?_
      rw [← List.append_assoc, ← List.append_assoc]
      have old : ∀ (j : Nat) b s u, j ∉ ixR (B.n + τ.length) ms rs → (σ ++ (τ ++ vs.map some))[j]? = some (some (.ref b)) → (δ2 ++ (θ ++ ss))[j]? = some s → s.obj = some u → ∀ x ∈ mf H' b u, ∃ w, H x = some w := fun j b s u hj h1 h2 h3 x hx => by
        obtain ⟨c, z1, z2, z3⟩ := (S2.cell j _ s h1 h2).obj h3
        cases z1
        have q : ∀ y ∈ mf H b u, H' y = H y := fun y hy => by
          obtain ⟨w, e4⟩ := z3.all y hy
          rw [e4, p.kp y w e4 fun z => ?_]
          obtain ⟨i, hi, c, u', s', r1, r2, r3, r4⟩ := p2.mem y z
          exact S2.dj j i b c s s' u u' (fun e => hj (by rw [e]; exact hi)) h1 r1 h2 r2 h3 r3 y hy r4
        have em : mf H' b u = mf H b u := by
          cases u with
          | tre kk ts => exact (tr_congr (Same.refl Hf2) _ _ z3.1 q).2
          | _ => rfl
        rw [em] at hx
        exact z3.all x hx
      refine q3.pushO (o := o) f2 f3 (fun j b s u h1 h2 h3 x hx hy => ?_) fun x hx => S2.fresh0 (f1.all x hx)
      have hn := f1.all x hy
      have no : (∃ w, H x = some w) → False := fun ⟨w, e⟩ => by rw [hn] at e; cases e
      have hjl : j < B.n + τ.length := by
        have := (List.getElem?_eq_some_iff.mp h1).1
        simp only [List.length_append] at this
        omega
      by_cases hj : j < B.n
      · rw [List.getElem?_append_left (by omega)] at h2
        rw [List.getElem?_append_left (by omega)] at h1
        rcases q4 j s u h2 h3 with ⟨r1, r2⟩ | ⟨c, r1, r2⟩
        · refine no (old j b s u (fun z => ?_) (by rw [List.getElem?_append_left (by omega)]; exact h1) (by rw [List.getElem?_append_left (by omega)]; exact r2) h3 x hx)
          rcases ixR_mem _ ms rs j z with y | y
          · exact r1 y
          · omega
        · rw [h1] at r1
          cases r1
          exact rd x hy (r2 x hx)
      · rw [List.getElem?_append_right (by omega)] at h1 h2
        refine no (old j b s u (fun z => ?_) (by rw [List.getElem?_append_right (by omega), List.getElem?_append_left (by omega)]; exact h1) (by rw [List.getElem?_append_right (by omega), List.getElem?_append_left (by omega), hd2, ← q2]; exact h2) h3 x hx)
        rcases ixR_mem _ ms rs j z with y | y
        · have := l2 j y
          omega
        · omega
  · obtain ⟨δ', q1, q2, q3, q4⟩ := behind os Hf' H' _ p hb
    exact hE Hf' H' δ' n C xs dx q2 (q3.down hs q2) nm xr q1
theorem call_core {fs : FS} {ms : List Bool} {EX : Str → List (Str × D) → En → Prop} {W : Value → Option Addr → L2.St → Hp → Prop} {Hf H : Hp} {σ τ : L2.St} {δ θ : En} {rs : List Re} {vs : List V} {kk : Re → En → Prop} {Q : VK}
    (hE : ∀ Hf H δ n C xs dx, δ.length = B.n → Sta B K Hf H σ δ → NmAt K n C → XR K Hf H xs dx → EX n xs δ → W (.ref C) dx σ H)
    (hs : σ.length = B.n) (hd : δ.length = B.n) (hl : vs.length = rs.length) (S : Sta B K Hf H (σ ++ (τ ++ vs.map some)) (δ ++ (θ ++ rs.map Re.sl)))
    (h : (ioSl ms rs).Nodup ∧ passR ms rs δ fun as δ2 => fs as (fun r os => backR ms rs os δ2 fun δ3 => match r with
      | .slot j => pickR ms rs os j δ3 kk
      | r => kk r δ3) (fun C xs os => backR ms rs os δ2 fun δ3 => EX C xs δ3))
    (k : ∀ r δ' v Hf' H', kk r δ' → δ'.length = B.n → Same Hf Hf' → Sta B K Hf' H' (σ ++ (τ ++ [some v])) (δ' ++ (θ ++ [r.sl])) → Q v H') : spD K fs vs H Q (fun cls dx H' => W cls dx σ H') := by
  obtain ⟨Hf2, as, io, P, X, _, _, e2, a2, nio, h2, q1, q2⟩ := call_coreQ (W := W) (EX := EX) (Q := fun _ => Q) hE hs hd hl S h k
  exact ⟨Hf2, as, io, P, X, e2, a2, nio, h2, q1, q2⟩
end Pd
set_option Elab.async false
set_option linter.all false
set_option maxRecDepth 100000
set_option maxHeartbeats 2000000
namespace Pd
open PySem PySem.Spec PyProof.Rows L2
variable {K : PySem.W.Frag} [HasW K] {B : Bs} {X : Cx}
theorem of_sz {n : Nat} (h : n ≤ 1000000) : n ≤ sizeLine := Nat.le_trans h (by decide)
theorem scalar {Hf H : Hp} {v : V} {d : D} {Kc : Re → Prop} {Q : VK} (hk : Kc (.dat d)) (e : Same Hf H) (hd : ∀ Hf : Hp, Dr K Hf v d) (q : ∀ res u Hf' H', Kc res → Gw Hf H Hf' H' → RR K H Hf' H' res u → Q u H') : Q v H :=
  q _ v Hf H hk (Gw.refl e) (hd Hf)
theorem none_of {Hf H : Hp} {p : Addr} (e : Same Hf H) (h : H p = none) : Hf p = none := by
  cases q : Hf p with
  | none => rfl
  | some u => rw [e p u q] at h; cases h
theorem newL {Hf H : Hp} {p : Addr} {vs : List V} {ds : List D} {Kc : Re → Prop} {Q : VK} (hk : Kc (.new (.lst ds))) (e : Same Hf H) (hp : H p = none) (hd : DrA K Hf vs ds) (q : ∀ res u Hf' H', Kc res → Gw Hf H Hf' H' → RR K H Hf' H' res u → Q u H') : Q (.ref p) (upd H p (.lst vs)) :=
  q _ _ Hf _ hk (Gw.made e hp) ⟨p, rfl, hp, none_of e hp, vs, upd_same, hd⟩
theorem newT {o : Obj} {Hf H : Hp} {p : Addr} {vs : List V} {ds : List D} {Kc : Re → Prop} {Q : VK} (hk : Kc (.dat (.tuple ds))) (e : Same Hf H) (hp : H p = none) (ho : o.dict = none) (hd : DrA K Hf vs ds) (q : ∀ res u Hf' H', Kc res → Gw Hf H Hf' H' → RR K H Hf' H' res u → Q u H') : Q (.ref p) (upd H p (.frz o (.tup vs))) :=
  q _ _ (upd Hf p (.frz o (.tup vs))) _ hk (Gw.fresh e hp) (.tup (.inl ⟨o, upd_same, ho⟩) (Same.dpa (Gw.fresh e hp).ff hd))
def rStrAdd : R2 := fun x y H Q => ∃ i j, x = .str i ∧ y = .str j ∧ i.length + j.length ≤ sizeLine ∧ Q (.str (i ++ j)) H
def rCatR : R2 := fun x y H Q => ∃ l b xs zs, x = .ref l ∧ y = .ref b ∧ Rd H l (.lst xs) ∧ Rd H b (.lst zs) ∧ xs.length + zs.length ≤ sizeLine ∧ ∀ p, H p = none → Q (.ref p) (upd H p (.lst (xs ++ zs)))
theorem op_catR : OpR X (binaryOp .Add) rCatR := by
  intro pins s σ H x y v u Q I rx ry ⟨l, b, xs, zs, ex, ey, hA, hB, hz, q⟩
  subst ex ey
  cases rx
  cases ry
  obtain ⟨_, its, n, r, e⟩ := hA.ok I.hok
  obtain ⟨_, its2, n2, r2, e2⟩ := hB.ok I.hok
  refine PySem.P.add_list (items := its.toArray) (items2 := its2.toArray) e e2 ?_ (by rw [List.size_toArray, List.size_toArray, ← r.length, ← r2.length]; exact hz)
  have w : its.toArray ++ its2.toArray = (its ++ its2).toArray := by simp
  rw [w]
  exact ⟨.ref s.heap.objs.size, _, I.lnew (t' := s.toks) (r.append r2) (by rw [List.length_append]; exact hz), rfl, q _ I.fresh⟩
def rAddX (K : PySem.W.Frag) : R2 := fun x y H Q => rI0 (fun i j => .int (i + j)) x y H Q ∨ rStrAdd x y H Q ∨ rCatR x y H Q ∨ rCatN K x y H Q
theorem op_addX : OpR X (binaryOp .Add) (rAddX X.K) := OpR.or op_add (OpR.or op_add_str (OpR.or op_catR op_catN))
def gAdd : D → D → (Re → Prop) → Prop
  | .int i, .int j, k => k (.dat (.int (i + j)))
  | .str a, .str b, k => a.length + b.length ≤ 1000000 ∧ k (.dat (.str (a ++ b)))
  | .list xs, .list ys, k => xs.length + ys.length ≤ 1000000 ∧ k (.new (.lst (xs ++ ys)))
  | .tuple xs, .tuple ys, k => xs.length + ys.length ≤ 1000000 ∧ k (.dat (.tuple (xs ++ ys)))
  | _, _, _ => False
theorem tup_nil {H : Hp} {v : V} {xs : List D} (h : Dr K H v (.tuple xs)) : Dr K H v (.tuple (xs ++ [])) := by
  rw [List.append_nil]
  exact h
theorem log_lt {j : Int} (h0 : 0 < j) (h : j < 2 ^ 64) : j.natAbs.log2 < 9000 := by
  have h1 : j.natAbs < 2 ^ 64 := by omega
  have h2 : j.natAbs ≠ 0 := by omega
  exact Nat.lt_trans ((Nat.log2_lt h2).mpr h1) (by decide)
theorem opd_add : OpD K (rAddX K) gAdd := by
  intro Hf H v w x y Kc Q e hv hw g q
  unfold gAdd at g
  split at g
  · cases hv.int; cases hw.int
    exact .inl ⟨_, _, rfl, rfl, scalar g e (fun _ => .int _) q⟩
  · cases hv.str; cases hw.str
    exact .inr (.inl ⟨_, _, rfl, rfl, of_sz g.1, scalar g.2 e (fun _ => .str _) q⟩)
  · obtain ⟨a, vs, rfl, h1, h2⟩ := hv.list e
    obtain ⟨b, ws, rfl, h3, h4⟩ := hw.list e
    exact .inr (.inr (.inl ⟨a, b, vs, ws, rfl, rfl, h1, h3, by rw [dpa_len h2, dpa_len h4]; exact of_sz g.1, fun p hp => newL g.2 e hp (dpa_append h2 h4) q⟩))
  · obtain ⟨a, vs, rfl, h1, h2, h5⟩ := hv.tuple e
    obtain ⟨b, ws, rfl, h3, h4, h6⟩ := hw.tuple e
    refine .inr (.inr (.inr ⟨a, b, vs, ws, rfl, rfl, h1, h3, by rw [dpa_len h2, dpa_len h4]; exact of_sz g.1, fun z => ?_, fun _ z => ?_, fun _ _ p o hp ho => newT g.2 e hp ho (dpa_append h2 h4) q⟩))
    · subst z
      cases h2
      exact q _ _ Hf H g.2 (Gw.refl e) h6
    · subst z
      cases h4
      exact q _ _ Hf H g.2 (Gw.refl e) (tup_nil h5)
  · exact g.elim
def gSub : D → D → (Re → Prop) → Prop
  | .int i, .int j, k => k (.dat (.int (i - j)))
  | _, _, _ => False
abbrev rSubX : R2 := rI0 fun i j => .int (i - j)
theorem opd_sub : OpD K rSubX gSub := by
  intro Hf H v w x y Kc Q e hv hw g q
  unfold gSub at g
  split at g
  · cases hv.int; cases hw.int
    exact ⟨_, _, rfl, rfl, scalar g e (fun _ => .int _) q⟩
  · exact g.elim
abbrev rMulX : R2 := rI CMul fun i j => .int (i * j)
def gMod : D → D → (Re → Prop) → Prop
  | .int i, .int j, k => 0 < j ∧ k (.dat (.int (i % j)))
  | _, _, _ => False
abbrev rModX : R2 := rI (fun _ j => 0 < j) fun i j => .int (i % j)
theorem opd_mod : OpD K rModX gMod := by
  intro Hf H v w x y Kc Q e hv hw g q
  unfold gMod at g
  split at g
  · cases hv.int; cases hw.int
    exact ⟨_, _, rfl, rfl, g.1, scalar g.2 e (fun _ => .int _) q⟩
  · exact g.elim
def gFdiv : D → D → (Re → Prop) → Prop
  | .int i, .int j, k => (0 < j ∧ j < 2 ^ 64) ∧ k (.dat (.int (i / j)))
  | _, _, _ => False
abbrev rFdivX : R2 := rI CDivW fun i j => .int (i / j)
theorem opd_fdiv : OpD K rFdivX gFdiv := by
  intro Hf H v w x y Kc Q e hv hw g q
  unfold gFdiv at g
  split at g
  · cases hv.int; cases hw.int
    exact ⟨_, _, rfl, rfl, ⟨g.1.1, log_lt g.1.1 g.1.2⟩, scalar g.2 e (fun _ => .int _) q⟩
  · exact g.elim
def gPow : D → D → (Re → Prop) → Prop
  | .int i, .int j, k => (0 ≤ j ∧ j ≤ 1000 ∧ i.natAbs < 2 ^ 64) ∧ k (.dat (.int (i ^ j.toNat)))
  | _, _, _ => False
abbrev rPowX : R2 := rI CPow fun i j => .int (i ^ j.toNat)
theorem opd_pow : OpD K rPowX gPow := by
  intro Hf H v w x y Kc Q e hv hw g q
  unfold gPow at g
  split at g
  · cases hv.int; cases hw.int
    exact ⟨_, _, rfl, rfl, ⟨g.1.1, by have := g.1.2.1; omega, g.1.2.2⟩, scalar g.2 e (fun _ => .int _) q⟩
  · exact g.elim
def gNeg : D → (Re → Prop) → Prop
  | .int i, k => k (.dat (.int (-i)))
  | _, _ => False
abbrev rNegX : V → Hp → VK → Prop := rU fun i => .int (-i)
theorem und_neg : UnD K rNegX gNeg := by
  intro Hf H v x Kc Q e hv g q
  unfold gNeg at g
  split at g
  · cases hv.int
    exact ⟨_, rfl, scalar g e (fun _ => .int _) q⟩
  · exact g.elim
def rEqX (K : PySem.W.Frag) : R2 := fun x y H Q => rEq x y H Q ∨ rEqD K x y H Q
def rNeX (K : PySem.W.Frag) : R2 := fun x y H Q => rNe x y H Q ∨ rNeD K x y H Q
theorem op_eqX (hu : X.A.units + 64 < cLine) : OpR X (compareOp .Eq) (rEqX X.K) := OpR.or op_eq (op_eqD hu)
theorem op_neX (hu : X.A.units + 64 < cLine) : OpR X (compareOp .NotEq) (rNeX X.K) := OpR.or op_ne (op_neD hu)
def eqOk (x y : D) : Prop := SeqAt.shaped x = true ∧ SeqAt.shaped y = true
def gEq : D → D → (Re → Prop) → Prop
  | .int i, .int j, k => k (.dat (.bool (decide (i = j))))
  | .str i, .str j, k => k (.dat (.bool (decide (i = j))))
  | .bool i, .bool j, k => k (.dat (.bool (decide (i = j))))
  | .none, .none, k => k (.dat (.bool true))
  | .none, .int _, k => k (.dat (.bool false))
  | .none, .str _, k => k (.dat (.bool false))
  | .int _, .none, k => k (.dat (.bool false))
  | .str _, .none, k => k (.dat (.bool false))
  | .int _, .str _, k => k (.dat (.bool false))
  | .str _, .int _, k => k (.dat (.bool false))
  | x, y, k => eqOk x y ∧ k (.dat (.bool (PyData.eqv x y)))
def gNe : D → D → (Re → Prop) → Prop
  | .int i, .int j, k => k (.dat (.bool (!decide (i = j))))
  | .str i, .str j, k => k (.dat (.bool (!decide (i = j))))
  | .bool i, .bool j, k => k (.dat (.bool (!decide (i = j))))
  | .none, .none, k => k (.dat (.bool false))
  | .none, .int _, k => k (.dat (.bool true))
  | .none, .str _, k => k (.dat (.bool true))
  | .int _, .none, k => k (.dat (.bool true))
  | .str _, .none, k => k (.dat (.bool true))
  | .int _, .str _, k => k (.dat (.bool true))
  | .str _, .int _, k => k (.dat (.bool true))
  | x, y, k => eqOk x y ∧ k (.dat (.bool (!PyData.eqv x y)))
theorem shaped_lay {d : D} (h : SeqAt.shaped d = true) : d.canLay0 = true := SeqAt.canLay_of_shaped h
theorem opd_eq : OpD K (rEqX K) gEq := by
  intro Hf H v w x y Kc Q e hv hw g q
  unfold gEq at g
  split at g
  all_goals first
    | (obtain ⟨⟨h1, h2⟩, g⟩ := g
       exact .inr ⟨_, _, hv.dp e (shaped_lay h1), hw.dp e (shaped_lay h2), h1, h2, scalar g e (fun _ => .bl _) q⟩)
    | (have e1 := hv.flat rfl
       have e2 := hw.flat rfl
       subst e1
       subst e2
       refine .inl ⟨rfl, ?_⟩
       first
         | (have q2 := scalar (K := K) g e (fun _ => .bl _) q
            simpa using q2))
theorem opd_ne : OpD K (rNeX K) gNe := by
  intro Hf H v w x y Kc Q e hv hw g q
  unfold gNe at g
  split at g
  all_goals first
    | (obtain ⟨⟨h1, h2⟩, g⟩ := g
       exact .inr ⟨_, _, hv.dp e (shaped_lay h1), hw.dp e (shaped_lay h2), h1, h2, scalar g e (fun _ => .bl _) q⟩)
    | (have e1 := hv.flat rfl
       have e2 := hw.flat rfl
       subst e1
       subst e2
       refine .inl ⟨rfl, ?_⟩
       first
         | (have q2 := scalar (K := K) g e (fun _ => .bl _) q
            simpa using q2))
def rOrd (p : Int → Int → Bool) (t : Str → Str → Bool) : R2 := fun x y H Q => rI0 (fun i j => .bl (p i j)) x y H Q ∨ ∃ i j, x = .str i ∧ y = .str j ∧ Q (.bl (t i j)) H
abbrev rLtX : R2 := rOrd (fun i j => decide (i < j)) fun i j => decide (i.cps.toList < j.cps.toList)
abbrev rLeX : R2 := rOrd (fun i j => decide (i ≤ j)) fun i j => !decide (j.cps.toList < i.cps.toList)
abbrev rGtX : R2 := rOrd (fun i j => decide (j < i)) fun i j => decide (j.cps.toList < i.cps.toList)
abbrev rGeX : R2 := rOrd (fun i j => decide (j ≤ i)) fun i j => !decide (i.cps.toList < j.cps.toList)
theorem op_ltX : OpR X (compareOp .Lt) rLtX := OpR.or op_lt op_lt_str
theorem op_leX : OpR X (compareOp .LtE) rLeX := OpR.or op_le op_le_str
theorem op_gtX : OpR X (compareOp .Gt) rGtX := OpR.or op_gt op_gt_str
theorem op_geX : OpR X (compareOp .GtE) rGeX := OpR.or op_ge op_ge_str
def gOrd (p : Int → Int → Bool) (t : Str → Str → Bool) : D → D → (Re → Prop) → Prop
  | .int i, .int j, k => k (.dat (.bool (p i j)))
  | .str i, .str j, k => k (.dat (.bool (t i j)))
  | _, _, _ => False
abbrev gLt := gOrd (fun i j => decide (i < j)) fun i j => decide (i.cps.toList < j.cps.toList)
abbrev gLe := gOrd (fun i j => decide (i ≤ j)) fun i j => !decide (j.cps.toList < i.cps.toList)
abbrev gGt := gOrd (fun i j => decide (j < i)) fun i j => decide (j.cps.toList < i.cps.toList)
abbrev gGe := gOrd (fun i j => decide (j ≤ i)) fun i j => !decide (i.cps.toList < j.cps.toList)
theorem opd_ord {p : Int → Int → Bool} {t : Str → Str → Bool} : OpD K (rOrd p t) (gOrd p t) := by
  intro Hf H v w x y Kc Q e hv hw g q
  unfold gOrd at g
  split at g
  · cases hv.int; cases hw.int
    exact .inl ⟨_, _, rfl, rfl, scalar g e (fun _ => .bl _) q⟩
  · cases hv.str; cases hw.str
    exact .inr ⟨_, _, rfl, rfl, scalar g e (fun _ => .bl _) q⟩
  · exact g.elim
def rIsX : R2 := fun x y H Q => (y = .non ∧ Q (.bl (decide (x = .non))) H) ∨ rIsB x y H Q
def rIsntX : R2 := fun x y H Q => (y = .non ∧ Q (.bl (!decide (x = .non))) H) ∨ rNotB x y H Q
theorem op_isX : OpR X (compareOp .Is) rIsX := OpR.or op_isN op_isBl
theorem op_isntX : OpR X (compareOp .IsNot) rIsntX := OpR.or op_notN op_notBl
def isNone : D → Bool
  | .none => true
  | _ => false
def gIs : D → D → (Re → Prop) → Prop
  | x, .none, k => k (.dat (.bool (isNone x)))
  | .bool a, .bool b, k => k (.dat (.bool (decide (a = b))))
  | _, _, _ => False
def gIsnt : D → D → (Re → Prop) → Prop
  | x, .none, k => k (.dat (.bool (!isNone x)))
  | .bool a, .bool b, k => k (.dat (.bool (!decide (a = b))))
  | _, _, _ => False
theorem isNone_ok {Hf H : Hp} {v : V} {x : D} (hv : Vw K Hf H v x) : decide (v = .non) = isNone x := by
  cases x with
  | none => rw [hv.non]; rfl
  | bool b => rw [hv.bool]; rfl
  | int b => rw [hv.int]; rfl
  | str b => rw [hv.str]; rfl
  | list b =>
    rcases hv with h | ⟨a, vs, ds, h, _⟩ | ⟨a, vs, ds, h, _⟩ | ⟨a, vs, ds, es, h, _⟩
    · cases h; rfl
    · subst h; rfl
    · subst h; rfl
    · subst h; rfl
  | tuple b =>
    rcases hv with h | ⟨a, vs, ds, h, _⟩ | ⟨a, vs, ds, h, _⟩ | ⟨a, vs, ds, es, h, _⟩
    · cases h; rfl
    · subst h; rfl
    · subst h; rfl
    · subst h; rfl
  | dict b =>
    rcases hv with h | ⟨a, vs, ds, h, _⟩ | ⟨a, vs, ds, h, _⟩ | ⟨a, vs, ds, es, h, _⟩
    · cases h <;> rfl
    · subst h; rfl
    · subst h; rfl
    · subst h; rfl
theorem opd_is : OpD K rIsX gIs := by
  intro Hf H v w x y Kc Q e hv hw g q
  unfold gIs at g
  split at g
  · cases hw.non
    refine .inl ⟨rfl, ?_⟩
    rw [isNone_ok hv]
    exact scalar g e (fun _ => .bl _) q
  · cases hv.bool; cases hw.bool
    exact .inr ⟨_, _, rfl, rfl, scalar g e (fun _ => .bl _) q⟩
  · exact g.elim
theorem opd_isnt : OpD K rIsntX gIsnt := by
  intro Hf H v w x y Kc Q e hv hw g q
  unfold gIsnt at g
  split at g
  · cases hw.non
    refine .inl ⟨rfl, ?_⟩
    rw [isNone_ok hv]
    exact scalar g e (fun _ => .bl _) q
  · cases hv.bool; cases hw.bool
    exact .inr ⟨_, _, rfl, rfl, scalar g e (fun _ => .bl _) q⟩
  · exact g.elim
end Pd
set_option Elab.async false
set_option linter.all false
set_option maxRecDepth 100000
set_option maxHeartbeats 2000000
namespace Pd
open PySem PySem.Spec PyProof.Rows L2
variable {K : PySem.W.Frag} [HasW K] {B : Bs} {X : Cx}
def lookD : List (D × D) → D → Option D
  | [], _ => none
  | (k, d) :: r, x => if PyData.eqv k x = true then some d else lookD r x
theorem kD_eqv (j k : Key) : PyData.eqv (kD j) (kD k) = decide (j = k) := by
  cases j with
  | inl a =>
    cases k with
    | inl b => rw [key_ll]; rfl
    | inr b => rw [key_lr]; rfl
  | inr a =>
    cases k with
    | inl b => rw [key_rl]; rfl
    | inr b =>
      rw [key_rr]
      show (a == b) = _
      by_cases h : a = b
      · subst h; simp
      · rw [decide_eq_false h]; simpa using h
theorem look_ok {H : Hp} (k : Key) : ∀ {ks : List (Key × V)} {kvs : List (D × D)}, DrK K H ks kvs → (∀ d, lookD kvs (kD k) = some d → ∃ v, valV ks k = some v ∧ Dr K H v d) ∧ (lookD kvs (kD k) = none → valV ks k = none)
  | _, _, .nil => ⟨fun d h => by simp [lookD] at h, fun _ => rfl⟩
  | _, _, @DrK.cons _ _ _ j v ks d kvs h1 h2 => by
    have ih := look_ok k h2
    unfold lookD
    rw [kD_eqv]
    by_cases e : j = k
    · rw [decide_eq_true e, if_pos rfl, valV_pos (p := (j, v)) e]
      exact ⟨fun d' h => by cases h; exact ⟨v, rfl, h1⟩, fun h => by cases h⟩
    · rw [decide_eq_false e, if_neg Bool.false_ne_true, valV_neg (p := (j, v)) e]
      exact ih
theorem look_some {H : Hp} (k : Key) {ks : List (Key × V)} {kvs : List (D × D)} (h : DrK K H ks kvs) : (valV ks k).isSome = (lookD kvs (kD k)).isSome := by
  have q := look_ok k h
  cases e : lookD kvs (kD k) with
  | none => rw [q.2 e]; rfl
  | some d =>
    obtain ⟨v, h1, _⟩ := q.1 d e
    rw [h1]; rfl
def flatB (d : D) : Bool := (flatD d).isSome
def inOk (x : D) (ds : List D) : Bool := (flatB x && ds.all flatB) || (SeqAt.shaped x && SeqAt.shaped (.list ds))
def rInT (K : PySem.W.Frag) (neg : Bool) : R2 := fun x y H Q => ∃ d ds, L2.Dp K H x d ∧ (L2.Dp K H y (.list ds) ∨ L2.Dp K H y (.tuple ds)) ∧ SeqAt.shaped d = true ∧ SeqAt.shaped (.list ds) = true ∧ Q (.bl (if neg then !ds.any (fun z => PyData.eqv z d) else ds.any fun z => PyData.eqv z d)) H
theorem op_inT (hu : X.A.units + 65 < cLine) : OpR X (compareOp .In) (rInT X.K false) := by
  intro pins s σ H x y v u Q I rx ry ⟨d, ds, h1, h2, s1, s2, q⟩
  obtain ⟨as, r1⟩ := L2.Dp.reads I d x v h1 rx
  have room := room_in_shaped (A := X.A) (xs := ds) s1 hu
  rcases h2 with h2 | h2
  · obtain ⟨bs, r2⟩ := L2.Dp.reads I (.list ds) y u h2 ry
    exact SeqAt.in_list_reads r2 r1 (SeqAt.canLay_of_shaped s2) (SeqAt.canLay_of_shaped s1) room ⟨.bl _, H, I, rfl, q⟩
  · obtain ⟨bs, r2⟩ := L2.Dp.reads I (.tuple ds) y u h2 ry
    exact SeqAt.in_tuple_reads r2 r1 (by have := SeqAt.canLay_of_shaped s2; rw [PyData.canLay0] at this; exact this) (SeqAt.canLay_of_shaped s1) room ⟨.bl _, H, I, rfl, q⟩
theorem op_notInT (hu : X.A.units + 65 < cLine) : OpR X (compareOp .NotIn) (rInT X.K true) := by
  intro pins s σ H x y v u Q I rx ry ⟨d, ds, h1, h2, s1, s2, q⟩
  obtain ⟨as, r1⟩ := L2.Dp.reads I d x v h1 rx
  have room := room_in_shaped (A := X.A) (xs := ds) s1 hu
  rcases h2 with h2 | h2
  · obtain ⟨bs, r2⟩ := L2.Dp.reads I (.list ds) y u h2 ry
    exact SeqAt.notIn_list_reads r2 r1 (SeqAt.canLay_of_shaped s2) (SeqAt.canLay_of_shaped s1) room ⟨.bl _, H, I, rfl, q⟩
  · obtain ⟨bs, r2⟩ := L2.Dp.reads I (.tuple ds) y u h2 ry
    exact SeqAt.notIn_tuple_reads r2 r1 (by have := SeqAt.canLay_of_shaped s2; rw [PyData.canLay0] at this; exact this) (SeqAt.canLay_of_shaped s1) room ⟨.bl _, H, I, rfl, q⟩
def rInDk (neg : Bool) : R2 := fun x y H Q => ∃ a ks k, y = .ref a ∧ x = kV k ∧ Rd H a (.dK ks) ∧ Q (.bl (if neg then !(valV ks k).isSome else (valV ks k).isSome)) H
theorem op_inDk (hu : X.A.units + 1 < cLine) : OpR X (compareOp .In) (rInDk false) := by
  intro pins s σ H x y v u Q I rx ry ⟨a, ks, k, ey, ex, h, q⟩
  subst ey ex
  obtain rfl : u = Value.ref a := ry
  exact d_in (o := valV ks k) hu I (.inl ⟨ks, k, h, rfl, rfl⟩) rx fun s3 I3 => ⟨.bl _, H, I3, rfl, q⟩
theorem op_notInDk (hu : X.A.units + 1 < cLine) : OpR X (compareOp .NotIn) (rInDk true) := by
  intro pins s σ H x y v u Q I rx ry ⟨a, ks, k, ey, ex, h, q⟩
  subst ey ex
  obtain rfl : u = Value.ref a := ry
  exact d_notIn (o := valV ks k) hu I (.inl ⟨ks, k, h, rfl, rfl⟩) rx fun s3 I3 => ⟨.bl _, H, I3, rfl, q⟩
def rInSign (neg : Bool) : R2 := fun x y H Q => ∃ (c : Nat) (z : Str), x = .str ⟨#[c]⟩ ∧ y = .str z ∧ Q (.bl (if neg then !decide (c ∈ z.cps.toList) else decide (c ∈ z.cps.toList))) H
def rInX (K : PySem.W.Frag) [HasW K] (neg : Bool) : R2 := fun x y H Q => rIn K neg x y H Q ∨ rInT K neg x y H Q ∨ rInDk neg x y H Q ∨ rInSign neg x y H Q ∨ rInTd neg (HasW.w K) K x y H Q
theorem op_inX (hu : X.A.units + 65 < cLine) : OpR X (compareOp .In) (rInX X.K false) := OpR.or op_in_seq (OpR.or (op_inT hu) (OpR.or (op_inDk (by omega)) (OpR.or op_in_sign (op_inTd (by omega)))))
theorem op_notInX (hu : X.A.units + 65 < cLine) : OpR X (compareOp .NotIn) (rInX X.K true) := OpR.or op_notIn_seq (OpR.or (op_notInT hu) (OpR.or (op_notInDk (by omega)) (OpR.or op_notIn_sign (op_notInTd (by omega)))))
def lookT (kvs : List (D × D)) (k : List Key) : Option D := (kvs.find? fun p => decide (keyT p.1 = some k)).map (·.2)
def tkK (kvs : List (D × D)) (c : D) (k : List (D × D) → List Key → Prop) : Prop := match kvs with
  | (.dict [], .none) :: r => (match keyT c with
    | some kk => k r kk
    | none => False)
  | _ => False
theorem tkK_ok {kvs : List (D × D)} {c : D} {k : List (D × D) → List Key → Prop} (h : tkK kvs c k) : ∃ r kk, PyData.dict kvs = tdD r ∧ keyT c = some kk ∧ k r kk := by
  unfold tkK at h
  split at h
  · rename_i r
    cases e : keyT c with
    | none => simp only [e] at h
    | some kk =>
      simp only [e] at h
      exact ⟨r, kk, rfl, rfl, h⟩
  · exact h.elim
theorem keysT_kD : ∀ (k : List Key), keysT (k.map kD) = some k
  | [] => rfl
  | k :: ks => by
    rw [List.map_cons, keysT, keysT_kD ks]
    cases k <;> rfl
theorem keyT_kD (k : List Key) : keyT (.tuple (k.map kD)) = some k := keysT_kD k
theorem drt_sq {Hf H : Hp} (e : Same Hf H) : ∀ {xs : List XE} {kvs : List (D × D)}, DrT K Hf xs kvs → ∀ x ∈ xs, SqT K H x.2.1 (x.1.map kV)
  | _, _, .nil => fun x hx => nomatch hx
  | _, _, .cons h0 h1 h2 => fun x hx => by
    rcases List.mem_cons.mp hx with z | z
    · subst z; exact sqt_mono e h0
    · exact drt_sq e h2 x z
theorem drt_look {Hf : Hp} (k : List Key) : ∀ {xs : List XE} {kvs : List (D × D)}, DrT K Hf xs kvs → (∀ d, lookT kvs k = some d → ∃ v, lookX xs k = some v ∧ Dr K Hf v d) ∧ (lookT kvs k = none → lookX xs k = none)
  | _, _, .nil => ⟨fun d h => by simp [lookT] at h, fun _ => rfl⟩
  | _, _, @DrT.cons _ _ _ j p v xs d kvs h0 h1 h2 => by
    have ih := drt_look k h2
    by_cases e : j = k
    · subst e
      have e1 : lookT ((.tuple (j.map kD), d) :: kvs) j = some d := by simp [lookT, List.find?_cons, keyT_kD]
      rw [e1, lookX_cons_pos (x := (j, p, v)) rfl]
      exact ⟨fun d' h => by cases h; exact ⟨v, rfl, h1⟩, fun h => by cases h⟩
    · have e1 : lookT ((.tuple (j.map kD), d) :: kvs) k = lookT kvs k := by
        have : ¬ (some j = some k) := fun z => e (Option.some.inj z)
        simp [lookT, List.find?_cons, keyT_kD, this, e]
      rw [e1, lookX_cons_neg (x := (j, p, v)) e]
      exact ih
theorem drt_some {Hf : Hp} {k : List Key} {xs : List XE} {kvs : List (D × D)} (h : DrT K Hf xs kvs) : (lookX xs k).isSome = (lookT kvs k).isSome := by
  have q := drt_look k h
  cases e : lookT kvs k with
  | none => rw [q.2 e]; rfl
  | some d =>
    obtain ⟨v, h1, _⟩ := q.1 d e
    rw [h1]; rfl
theorem Vw.dta {Hf H : Hp} {v : V} {kvs : List (D × D)} (e : Same Hf H) (h : Vw K Hf H v (tdD kvs)) : ∃ a xs, v = .ref a ∧ DTa (HasW.w K) K H a xs ∧ DrT K Hf xs kvs := by
  obtain ⟨a, o, xs, rfl, h1, h2, h3, h4⟩ := h.td e
  exact ⟨a, xs, rfl, ⟨o, h1, h2, h3, drt_sq e h4⟩, h4⟩
theorem Vw.keyT {Hf H : Hp} {v : V} {d : D} {k : List Key} (e : Same Hf H) (h : Vw K Hf H v d) (ek : Pd.keyT d = some k) : ∃ p, v = .ref p ∧ SqT K H p (k.map kV) := by
  have := keyT_eq ek
  subst this
  obtain ⟨a, vs, rfl, h1, h2⟩ := h.tupleN e
  rw [dra_keyV h2] at h1
  exact ⟨a, rfl, h1.sq⟩
def gIn0 : D → D → (Bool → Prop) → Prop
  | x, .list ds, k => inOk x ds = true ∧ k (ds.any fun z => PyData.eqv z x)
  | x, .tuple ds, k => inOk x ds = true ∧ k (ds.any fun z => PyData.eqv z x)
  | .str c, .dict kvs, k => notXL kvs = true ∧ k (lookD kvs (.str c)).isSome
  | .int c, .dict kvs, k => notXL kvs = true ∧ k (lookD kvs (.int c)).isSome
  | .tuple c, .dict kvs, k => tkK kvs (.tuple c) fun r kk => k (lookT r kk).isSome
  | .str c, .str z, k => match c.cps.toList with
    | [a] => k (decide (a ∈ z.cps.toList))
    | _ => False
  | _, _, _ => False
def gIn : D → D → (Re → Prop) → Prop := fun x y k => gIn0 x y fun b => k (.dat (.bool b))
def gNotIn : D → D → (Re → Prop) → Prop := fun x y k => gIn0 x y fun b => k (.dat (.bool (!b)))
theorem eqV_flat {x y : D} {v w : V} (h1 : flatD x = some v) (h2 : flatD y = some w) : eqV v w = PyData.eqv x y := by
  cases x <;> cases h1 <;> cases y <;> cases h2 <;> rfl
theorem flats {H : Hp} : ∀ {vs : List V} {ds : List D}, DrA K H vs ds → ds.all flatB = true → vs.all flatV = true ∧ ∀ (x : D) (w : V), flatD x = some w → inV w vs = ds.any fun z => PyData.eqv z x
  | _, _, .nil, _ => ⟨rfl, fun _ _ _ => rfl⟩
  | _, _, @DrA.cons _ _ _ v vs d ds h t, c => by
    rw [List.all_cons, Bool.and_eq_true] at c
    obtain ⟨e1, e2⟩ := flats t c.2
    obtain ⟨u, hu⟩ := Option.isSome_iff_exists.mp c.1
    have ev := dp_flat h hu
    subst ev
    refine ⟨?_, fun x w hx => ?_⟩
    · rw [List.all_cons, e1, Bool.and_true]
      cases d <;> cases hu <;> rfl
    · show (eqV v w || inV w vs) = _
      rw [e2 x w hx, eqV_flat hu hx]
      rfl
theorem inSeq {Hf H : Hp} {v w : V} {x y : D} {ds : List D} {neg : Bool} {Q : VK} (e : Same Hf H) (hy : y = .list ds ∨ y = .tuple ds) (hv : Vw K Hf H v x) (hw : Vw K Hf H w y) (c : inOk x ds = true)
    (q : Q (.bl (if neg then !ds.any (fun z => PyData.eqv z x) else ds.any fun z => PyData.eqv z x)) H) : rInX K neg v w H Q := by
  unfold inOk at c
  rw [Bool.or_eq_true] at c
  rcases c with c | c
  · rw [Bool.and_eq_true] at c
    obtain ⟨u, hu⟩ := Option.isSome_iff_exists.mp c.1
    have ev := hv.flat hu
    subst ev
    have fin : ∀ a vs, w = .ref a → (SqL K H a vs ∨ SqT K H a vs) → DrA K Hf vs ds → rInX K neg v w H Q := fun a vs e1 e2 e3 => by
      obtain ⟨f1, f2⟩ := flats e3 c.2
      refine .inl ⟨a, vs, e1, e2, ?_, f1, ?_⟩
      · cases x <;> cases hu <;> rfl
      · rw [f2 x v hu]
        exact q
    rcases hy with rfl | rfl
    · obtain ⟨a, vs, e1, e2, e3⟩ := hw.list e
      exact fin a vs e1 (.inl (.inl e2)) e3
    · obtain ⟨a, vs, e1, e2, e3, _⟩ := hw.tuple e
      exact fin a vs e1 (.inr e2) e3
  · rw [Bool.and_eq_true] at c
    have lay : PyData.canLayAll0 ds = true := by have := shaped_lay c.2; rw [PyData.canLay0] at this; exact this
    refine .inr (.inl ⟨x, ds, hv.dp e (shaped_lay c.1), ?_, c.1, c.2, q⟩)
    rcases hy with rfl | rfl
    · exact .inl (hw.dp e (by rw [PyData.canLay0]; exact lay))
    · exact .inr (hw.dp e (by rw [PyData.canLay0]; exact lay))
theorem in0_ok {Hf H : Hp} {v w : V} {x y : D} {neg : Bool} {k : Bool → Prop} {Q : VK} (e : Same Hf H) (hv : Vw K Hf H v x) (hw : Vw K Hf H w y) (g : gIn0 x y k) (q : ∀ b, k b → Q (.bl (if neg then !b else b)) H) : rInX K neg v w H Q := by
  unfold gIn0 at g
  split at g
  · exact inSeq e (.inl rfl) hv hw g.1 (q _ g.2)
  · exact inSeq e (.inr rfl) hv hw g.1 (q _ g.2)
  · obtain ⟨a, ks, e1, e2, e3⟩ := hw.dict e g.1
    cases hv.str
    refine .inr (.inr (.inl ⟨a, ks, Sum.inr _, e1, rfl, e2, ?_⟩))
    rw [look_some (Sum.inr _) e3]
    exact q _ g.2
  · obtain ⟨a, ks, e1, e2, e3⟩ := hw.dict e g.1
    cases hv.int
    refine .inr (.inr (.inl ⟨a, ks, Sum.inl _, e1, rfl, e2, ?_⟩))
    rw [look_some (Sum.inl _) e3]
    exact q _ g.2
  · obtain ⟨r, kk, er, ek, g⟩ := tkK_ok g
    rw [er] at hw
    obtain ⟨a, xs, rfl, g1, g2⟩ := hw.dta e
    obtain ⟨p, rfl, g3⟩ := hv.keyT e ek
    refine .inr (.inr (.inr (.inr ⟨a, p, kk, xs, rfl, rfl, g1, g3, ?_⟩)))
    rw [drt_some g2]
    exact q _ g
  · cases hv.str; cases hw.str
    split at g
    · rename_i k2 c z l a ea
      have ec : c = ⟨#[a]⟩ := by
        cases c with
        | mk cps =>
          have : cps = #[a] := by
            apply Array.ext'
            simpa using ea
          rw [this]
      subst ec
      exact .inr (.inr (.inr (.inl ⟨a, _, rfl, rfl, q _ g⟩)))
    · exact g.elim
  · exact g.elim
theorem opd_in : OpD K (rInX K false) gIn := fun Hf H v w x y Kc Q e hv hw g q =>
  in0_ok (neg := false) e hv hw g fun b hb => scalar hb e (fun _ => .bl _) q
theorem opd_notIn : OpD K (rInX K true) gNotIn := fun Hf H v w x y Kc Q e hv hw g q =>
  in0_ok (neg := true) e hv hw g fun b hb => scalar hb e (fun _ => .bl _) q
def rIxDk : R2 := fun x y H Q => ∃ a ks k v, x = .ref a ∧ y = kV k ∧ Rd H a (.dK ks) ∧ valV ks k = some v ∧ Q v H
theorem ix_dict (hu : X.A.units + 1 < cLine) : IxR X rIxDk := by
  intro value slice pins s σ H x y v u Q I rx ry ⟨a, ks, k, z, ex, ey, h1, h2, q⟩ hs
  subst ex ey
  obtain rfl : v = Value.ref a := rx
  have g : DGet H a (kV k) (some z) := .inl ⟨ks, k, h1, rfl, h2.symm⟩
  have hT := dict_typeIs I g
  have fin : wpAny (model X.prog X.w) X.A (subscripted slice false (.ref a) u) (fun r s₃ => wpAny (model X.prog X.w) X.A (letTemporaryGo value (.ref a) r >>= fun _ => pure r) (EP X pins σ Q) X.xe s₃) X.xe s :=
    hs ▸ wpAny_operating (wpAny_mono (d_getItem hu I g ry fun w' s' I' rw' => (⟨z, H, I', rw', q⟩ : EP X pins σ Q w' s')) (fun r s₃ h₃ => wpAny_bind (wpAny_letTemporaryGo (wpAny_pure h₃))) fun _ _ x => x)
  unfold subscriptTail
  refine wpAny_bind (?_ : wpAny _ _ _ _ _ _)
  rw [getitemInPython_of_ne hT.not_modules]; refine wpAny_bind (wpAny_specialOf hT PySem.F.slot_dict_getitem.lookup ?_)
  first
    | exact wpAny_bind fin
    | exact wpAny_pure (wpAny_bind fin)
    | exact wpAny_bind (wpAny_pure (wpAny_bind fin))
def rIxX (K : PySem.W.Frag) [HasW K] : R2 := fun x y H Q => rIx K x y H Q ∨ rIxDk x y H Q ∨ rIxTd (HasW.w K) K x y H Q
theorem ix_any (hu : X.A.units + 1 < cLine) : IxR X (rIxX X.K) := ix_seq.or ((ix_dict hu).or (ix_td hu))
def atD (ds : List D) (i : Int) (k : D → Prop) : Prop := match atI ds i with
  | some d => k d
  | none => False
def gIx : D → D → (Re → Prop) → Prop
  | .list ds, .int i, k => atD ds i fun d => k (.dat d)
  | .tuple ds, .int i, k => atD ds i fun d => k (.dat d)
  | .str z, .int i, k => z.length ≤ 1000000 ∧ (match atI z.cps.toList i with
    | some c => k (.dat (.str ⟨#[c]⟩))
    | none => False)
  | .dict kvs, .str x, k => notXL kvs = true ∧ (match lookD kvs (.str x) with
    | some d => k (.dat d)
    | none => False)
  | .dict kvs, .int x, k => notXL kvs = true ∧ (match lookD kvs (.int x) with
    | some d => k (.dat d)
    | none => False)
  | .dict kvs, .tuple c, k => tkK kvs (.tuple c) fun r kk => (match lookT r kk with
    | some d => k (.dat d)
    | none => False)
  | _, _, _ => False
theorem atI_rel {H : Hp} {vs : List V} {ds : List D} {i : Int} {d : D} (h : DrA K H vs ds) (e : atI ds i = some d) : ∃ v, atI vs i = some v ∧ Dr K H v d := by
  unfold atI at e ⊢
  rw [dpa_len h]
  cases q : ixN ds.length i with
  | none => rw [q] at e; cases e
  | some j =>
    rw [q] at e
    exact dpa_get h e
theorem opd_ix : OpD K (rIxX K) gIx := by
  intro Hf H v w x y Kc Q e hv hw g q
  have dat : ∀ (u : V) (d : D), Kc (.dat d) → Dr K Hf u d → Q u H := fun u d hk hd => q _ u Hf H hk (Gw.refl e) hd
  unfold gIx at g
  split at g
  · cases hw.int
    obtain ⟨a, vs, rfl, h1, h2⟩ := hv.list e
    unfold atD at g
    split at g
    · rename_i d hd
      obtain ⟨u, h3, h4⟩ := atI_rel h2 hd
      exact .inl (.inl ⟨a, vs, _, u, rfl, rfl, .inl h1, h3, dat u d g h4⟩)
    · exact g.elim
  · cases hw.int
    obtain ⟨a, vs, rfl, h1, h2, _⟩ := hv.tuple e
    unfold atD at g
    split at g
    · rename_i d hd
      obtain ⟨u, h3, h4⟩ := atI_rel h2 hd
      exact .inl (.inr (.inl ⟨a, vs, _, u, rfl, rfl, h1, h3, dat u d g h4⟩))
    · exact g.elim
  · cases hw.int; cases hv.str
    obtain ⟨g1, g2⟩ := g
    split at g2
    · rename_i c hc
      exact .inl (.inr (.inr ⟨_, _, c, rfl, rfl, of_sz g1, hc, dat _ _ g2 (.str _)⟩))
    · exact g2.elim
  · cases hw.str
    obtain ⟨nx, g⟩ := g
    obtain ⟨a, ks, rfl, h1, h2⟩ := hv.dict e nx
    split at g
    · rename_i d hd
      obtain ⟨u, h3, h4⟩ := (look_ok (Sum.inr _) h2).1 d hd
      exact .inr (.inl ⟨a, ks, Sum.inr _, u, rfl, rfl, h1, h3, dat u d g h4⟩)
    · exact g.elim
  · cases hw.int
    obtain ⟨nx, g⟩ := g
    obtain ⟨a, ks, rfl, h1, h2⟩ := hv.dict e nx
    split at g
    · rename_i d hd
      obtain ⟨u, h3, h4⟩ := (look_ok (Sum.inl _) h2).1 d hd
      exact .inr (.inl ⟨a, ks, Sum.inl _, u, rfl, rfl, h1, h3, dat u d g h4⟩)
    · exact g.elim
  · obtain ⟨r, kk, er, ek, g⟩ := tkK_ok g
    rw [er] at hv
    obtain ⟨a, xs, rfl, g1, g2⟩ := hv.dta e
    obtain ⟨p, rfl, g3⟩ := hw.keyT e ek
    split at g
    · rename_i d hd
      obtain ⟨u, h3, h4⟩ := (drt_look kk g2).1 d hd
      exact .inr (.inr ⟨a, p, kk, xs, u, rfl, rfl, g1, g3, h3, dat u d g h4⟩)
    · exact g.elim
  · exact g.elim
def rSlX (K : PySem.W.Frag) : V → Option Int → Option Int → Hp → VK → Prop := fun x lo hi H Q => rSlL K x lo hi H Q ∨ rSlN K x lo hi H Q ∨ rSlS x lo hi H Q
theorem sl_or {r r' : V → Option Int → Option Int → Hp → VK → Prop} (h : SlR X r) (h' : SlR X r') : SlR X (fun x lo hi H Q => r x lo hi H Q ∨ r' x lo hi H Q) := by
  intro pins s σ H x v vl vu lo hi sl Q I rx i p1 p2 q
  rcases q with q | q
  · exact h pins s σ H x v vl vu lo hi sl Q I rx i p1 p2 q
  · exact h' pins s σ H x v vl vu lo hi sl Q I rx i p1 p2 q
theorem sl_any : SlR X (rSlX X.K) := sl_or sl_list (sl_or sl_tupN sl_str)
def cutD (ds : List D) (lo hi : Option Int) : List D := (ds.drop (HT.sIx ds.length 0 lo)).take (HT.sIx ds.length ds.length hi - HT.sIx ds.length 0 lo)
def gSl : D → Option Int → Option Int → (Re → Prop) → Prop
  | .list ds, lo, hi, k => k (.new (.lst (cutD ds lo hi)))
  | .tuple ds, lo, hi, k => k (.dat (.tuple (cutD ds lo hi)))
  | .str z, lo, hi, k => z.length ≤ 1000000 ∧ k (.dat (.str (cutS z lo hi)))
  | _, _, _, _ => False
theorem cut_ok {H : Hp} {vs : List V} {ds : List D} (lo hi : Option Int) (h : DrA K H vs ds) : DrA K H (cutV vs lo hi) (cutD ds lo hi) := by
  unfold cutV cutD
  rw [dpa_len h]
  exact dpa_take _ (dpa_drop _ h)
theorem sld_any : SlD K (rSlX K) gSl := by
  intro Hf H v x lo hi Kc Q e hv g q
  unfold gSl at g
  split at g
  · obtain ⟨a, vs, rfl, h1, h2⟩ := hv.list e
    exact .inl ⟨a, vs, rfl, .inl h1, fun p hp => newL g e hp (cut_ok _ _ h2) q⟩
  · obtain ⟨a, vs, rfl, h1, h2, h3⟩ := hv.tuple e
    refine .inr (.inl ⟨a, vs, rfl, h1, fun z => ?_, fun _ p o hp ho => newT g e hp ho (cut_ok _ _ h2) q⟩)
    refine q _ _ Hf H g (Gw.refl e) ?_
    rw [dpa_len h2] at z
    have : ∀ ds : List D, HT.sIx ds.length 0 lo = 0 ∧ HT.sIx ds.length ds.length hi = ds.length → cutD ds lo hi = ds := fun ds hz => by
      unfold cutD
      rw [hz.1, hz.2]
      simp
    show Dr K Hf (.ref a) (.tuple (cutD _ lo hi))
    rw [this _ z]
    exact h3
  · cases hv.str
    exact .inr (.inr ⟨_, rfl, of_sz g.1, scalar g.2 e (fun _ => .str _) q⟩)
  · exact g.elim
def dRev (a : DE) : DE := fun δ k => a δ fun r δ1 => vwR r δ1 fun d => match d with
  | .list ds => k (.new (.lst ds.reverse)) δ1
  | _ => False
theorem de_rev {ta : TE} {a : DE} (ha : DEok B K ta a) : DEok B K (tRevL K ta) (dRev a) := by
  intro Hf H σ τ δ θ Kc Q hs hd S h k
  refine ha Hf H σ τ δ θ _ _ hs hd S h fun r1 δ1 v1 Hf1 H1 h1 hd1 e1 S1 => ?_
  have hlt := S.lenT hs hd
  obtain ⟨x, x1, x2⟩ := vwR_ok (v := v1) (i := B.n + τ.length) S1 hd1 (top_get (by omega)) (top_get (by omega)) h1
  cases x with
  | list ds =>
    obtain ⟨a, vs, rfl, q1, q2⟩ := x1.list S1.fh
    refine ⟨a, vs, rfl, .inl q1, fun p hp => ?_⟩
    exact newL (Kc := fun r => Kc r δ1) x2 S1.fh hp (dpa_rev q2) fun res u Hf' H' hk g rr => k res δ1 u Hf' H' hk hd1 (e1.trans g.ff) ((S1.pop1 hs hd1).res g rr)
  | _ => exact x2.elim
end Pd
set_option Elab.async false
set_option linter.all false
set_option maxRecDepth 100000
set_option maxHeartbeats 2000000
namespace Pd
open PySem PySem.Spec PyProof.Rows L2
structure FnG (P : Program) (w : World) (K : PySem.W.Frag) (mg : Str → Option Value) (base : Heap) (CX : CXT) (k : Nat) (f : Addr) (fd : FuncData) (ps : List Str) (sp : Sp) : Prop where
  len : ∀ vs H Q E, sp vs H Q E → vs.length = ps.length
  run : ∀ (A : Around) (outer : List Env) (s : Shared) (H : Hp) (args : Args) (us : List Value) (vs : List V) (Q : VK) (E : XK), A.guards = some [] → Room k A → Env0 P w K mg base A outer s H → BindsTo s fd args (ps.zip us) → Vals vs us → sp vs H Q E →
    codeAny (model P w) A (.call (.ref f) args) (L2.CR CX outer P w H s Q E) s
section
variable {P : Program} {w : World} {K : PySem.W.Frag} {mg : Str → Option Value} {base : Heap} {CX : CXT} {k j : Nat} {f : Addr} {fd : FuncData} {ps : List Str} {sp sp' : Sp}
theorem FnG.mono (F : FnG P w K mg base CX j f fd ps sp) (h : j ≤ k) : FnG P w K mg base CX k f fd ps sp := ⟨F.len, fun A o s H a us vs Q E g hr => F.run A o s H a us vs Q E g (hr.mono h)⟩
theorem FnG.imp (F : FnG P w K mg base CX k f fd ps sp) (h : ∀ vs H Q E, sp' vs H Q E → sp vs H Q E) : FnG P w K mg base CX k f fd ps sp' :=
  ⟨fun vs H Q E q => F.len vs H Q E (h vs H Q E q), fun A o s H a us vs Q E g hr he hb hv hs => F.run A o s H a us vs Q E g hr he hb hv (h vs H Q E hs)⟩
theorem fun_okG {x qual : Str} {st : Stmt} {N : List Str} (F : Fun K x qual st f fd) (S : FnScope N ps (defScope st)) (len : ∀ vs H Q E, sp vs H Q E → vs.length = ps.length)
    (hbody : ∀ (cdv : Value) (A : Around) (outer : List Env) (s : Shared) (H : Hp) (vs : List V) (Q : VK) (E : XK), A.guards = some [] → Room k (A.deeper (envOfC qual (defScope st) s.heap.objs.size f cdv)) → sp vs H Q E →
      ∃ t, PSs (cxOf CX P w K mg base N qual (defScope st) f cdv A outer s H E) (defBody st) t ∧ t { nx := fun _ H' => Q .non H', rt := Q } (L2.start N vs) H) : FnG P w K mg base CX (k + 1) f fd ps sp := by
  obtain ⟨oc, od, kV, doc, pm, an, cdv, ct, osl, rfl, lk, hcd⟩ := F.ex
  refine ⟨len, fun A outer s H args us vs Q E hgd hr e0 hb r hsp => ?_⟩
  have KX : K.In s.heap := e0.mod.kin.keeps (fun b o e => (e0.bs b o e).1)
  have lim : s.heap.NoLimit := e0.mod.nolimit.keeps (fun b o e => (e0.bs b o e).1)
  have kinds : ∀ y ∈ ps.zip us, (defScope st).names.lookup y.1 = some .local ∨ ((defScope st).names.lookup y.1 = some .cell ∧ ((cellsFrom (s.heap.objs.size + 1) (defScope st).names []).lookup y.1).isSome = true) := by
    intro y hy
    have hn : y.1 ∈ ps := (List.of_mem_zip (show (y.1, y.2) ∈ ps.zip us from hy)).1
    exact (S.par y.1 hn).elim Or.inl fun q => .inr ⟨q, PySem.W.cellsFrom_some _ _ _ (.inl q)⟩
  refine codeAny_call_function (Room.depth hr) (KX _ _ lk) rfl S.co S.gen rfl (PySem.W.codeRec_of KX hcd) (hb _ _ _ _ ?_)
  refine wpAny_newFunctionEnv_cells S.kind kinds (fun env he s1 x => ?_)
  subst he
  refine ⟨lim.keeps x.toInCall.keep, codeAny_func (?_ : wpAny _ _ _ _ _ _)⟩
  obtain ⟨t, ht, hq⟩ := hbody cdv A outer s H vs Q E hgd (Room.deeper hr _) hsp
  have I : Inv (cxOf CX P w K mg base N qual (defScope st) f cdv A outer s H E) [] (L2.start N vs) H s1 := inv_start S hr.hd e0 (len vs H Q E hsp) r x
  refine wpAny_mono (ht.run [] s1 (L2.start N vs) H _ I hq) (fun fl s' hs => ?_) (fun e s' hs => hs)
  match fl, hs with
  | .ret u, ⟨v, σ', H', J, rv, q⟩ => exact ⟨v, H', J.os, J.bare, J.base, J.hok, rv, q⟩
  | .next, ⟨σ', H', J, q⟩ => exact ⟨V.non, H', J.os, J.bare, J.base, J.hok, rfl, q⟩
  | .brk, ⟨_, _, _, q⟩ => exact q.elim
  | .cont, ⟨_, _, _, q⟩ => exact q.elim
end
section
variable {X : Cx} {CX : CXT} {k : Nat} {f C : Addr} {fd : FuncData} {ps : List Str} {sp : Sp} {E : XK} {x : Str} {p pos : Pos} {e : Expr} {es : List Expr} {t : TA}
theorem run_fnSG {pins : List (Addr × Obj)} {σ : L2.St} {H : Hp} {s : Shared} {Q : VK} {us : List Value} {vs : List V} (F : FnG X.prog X.w X.K X.mg X.base CX k f fd ps sp) (hgd : X.A.guards = some []) (hr : Room k X.A) (hb : Binds X.K fd ps []) (hx : PassesAt CX X σ E)
    (I : Inv X pins σ H s) (r : Vals vs us) (h : sp vs H Q E) : wpAny (model X.prog X.w) X.A (call (.ref f) us) (EP X pins σ Q) X.xe s := by
  have hl : us.length = ps.length := r.length.symm.trans (F.len vs H Q E h)
  have b := hb s us I.kIn (by rw [List.append_nil, hl])
  rw [List.append_nil] at b
  refine wpAny_call (codeAny_mono (F.run X.A X.stack s H ⟨us, []⟩ us vs Q E hgd hr I.env0 b r h) (fun r s' hq => ?_))
  match r, hq with
  | .error e, hq => exact hx pins H s e s' I hq
  | .ok (.ret u), hq => exact I.after hq
  | .ok .next, hq => exact False.elim hq
  | .ok .brk, hq => exact False.elim hq
  | .ok .cont, hq => exact False.elim hq
theorem passes_at (h : Passes CX X E) (σ : L2.St) : PassesAt CX X σ E := fun pins H s e s' I q => h pins σ H s e s' I q
theorem pe_callG (F : FnG X.prog X.w X.K X.mg X.base CX k f fd ps sp) (hgd : X.A.guards = some []) (hr : Room k X.A) (hg : Gl X x) (hm : X.mg x = some (.ref f)) (hk : PySem.W.keepIn X.K (.ref f) = true) (hb : Binds X.K fd ps []) (hx : Passes CX X E)
    (ha : PA X (e :: es) t) (hdb : (x == ("__debug__" : Str)) = false := by decide) (he : starEach (e :: es) X.env = (false, eval e X.env) :: starEach es X.env := by rfl) (hpl : (backTo pos (starEach es X.env)).any (·.1) = false := by rfl) :
    PE X (.Call (.Name x p) (e :: es) [] pos) (tCall sp [] E t) := by
  constructor
  intro pins s σ H Q I h
  refine wpAny_Call_Name_kw (ld_glob I hg hm ?_ hdb)
  refine PySem.W.callWith_K (h₀ := X.base) I.ok.mod.kin hk (thn (ha.run pos pins s σ H _ I h) fun us s1 z => ?_) he hpl
  obtain ⟨vs, H1, I1, r, q⟩ := z
  rw [List.append_nil] at q
  exact ⟨I1.kIn, run_fnSG F hgd hr hb (passes_at hx σ) I1 r q⟩
theorem pe_call0G (F : FnG X.prog X.w X.K X.mg X.base CX k f fd ps sp) (hgd : X.A.guards = some []) (hr : Room k X.A) (hg : Gl X x) (hm : X.mg x = some (.ref f)) (hk : PySem.W.keepIn X.K (.ref f) = true) (hb : Binds X.K fd ps []) (hx : Passes CX X E)
    (hdb : (x == ("__debug__" : Str)) = false := by decide) : PE X (.Call (.Name x p) [] [] pos) (tCall sp [] E tNil) := by
  constructor
  intro pins s σ H Q I h
  refine wpAny_Call_Name_kw (ld_glob I hg hm ?_ hdb)
  have q : sp [] H Q E := h
  exact PySem.W.callWith_K0 I.kIn hk (run_fnSG (us := []) F hgd hr hb (passes_at hx σ) I .nil q)
theorem pe_callSG {E : L2.St → XK} (F : FnG X.prog X.w X.K X.mg X.base CX k f fd ps sp) (hgd : X.A.guards = some []) (hr : Room k X.A) (hg : Gl X x) (hm : X.mg x = some (.ref f)) (hk : PySem.W.keepIn X.K (.ref f) = true) (hb : Binds X.K fd ps []) (hx : ∀ σ, PassesAt CX X σ (E σ))
    (ha : PA X (e :: es) t) (hdb : (x == ("__debug__" : Str)) = false := by decide) (he : starEach (e :: es) X.env = (false, eval e X.env) :: starEach es X.env := by rfl) (hpl : (backTo pos (starEach es X.env)).any (·.1) = false := by rfl) :
    PE X (.Call (.Name x p) (e :: es) [] pos) (tCallS sp E t) := by
  constructor
  intro pins s σ H Q I h
  refine wpAny_Call_Name_kw (ld_glob I hg hm ?_ hdb)
  refine PySem.W.callWith_K (h₀ := X.base) I.ok.mod.kin hk (thn (ha.run pos pins s σ H _ I h) fun us s1 z => ?_) he hpl
  obtain ⟨vs, H1, I1, r, q⟩ := z
  exact ⟨I1.kIn, run_fnSG F hgd hr hb (hx σ) I1 r q⟩
end
end Pd
set_option Elab.async false
set_option linter.all false
set_option maxRecDepth 100000
set_option maxHeartbeats 2000000
namespace Pd
open PySem PySem.Spec PyProof.Rows L2
variable {K : PySem.W.Frag} [HasW K] {B : Bs} {X : Cx}
theorem call_or {f : Value} {r r' : List V → Hp → VK → Prop} (h : CallR X f r) (h' : CallR X f r') : CallR X f (fun xs H Q => r xs H Q ∨ r' xs H Q) := by
  intro pins s σ H xs us Q I rx q
  rcases q with q | q
  · exact h pins s σ H xs us Q I rx q
  · exact h' pins s σ H xs us Q I rx q
def rLenDk : List V → Hp → VK → Prop := fun xs H Q => ∃ a ks, xs = [V.ref a] ∧ Rd H a (.dK ks) ∧ Q (.int ks.length) H
theorem call_lenDk : CallR X (.builtin "len") rLenDk := by
  intro pins s σ H xs us Q I r ⟨a, ks, ex, h, q⟩
  subst ex
  obtain ⟨u, rfl, ru⟩ := vals1 r
  cases ru
  exact d_len I h fun t s' I' => ⟨.int ks.length, H, I', ⟨t, rfl⟩, q⟩
def rLenX (K : PySem.W.Frag) : List V → Hp → VK → Prop := fun xs H Q => (∃ x n, xs = [x] ∧ LenV K x H n ∧ Q (.int (n : Nat)) H) ∨ rLenDk xs H Q
theorem call_lenX : CallR X (.builtin "len") (rLenX X.K) := call_or call_len call_lenDk
def gLen : List D → (Re → Prop) → Prop
  | [.list ds], k => k (.dat (.int ds.length))
  | [.tuple ds], k => k (.dat (.int ds.length))
  | [.str z], k => z.length ≤ 1000000 ∧ k (.dat (.int z.length))
  | [.dict kvs], k => notXL kvs = true ∧ k (.dat (.int kvs.length))
  | _, _ => False
theorem drk_len {H : Hp} : ∀ {ks : List (Key × V)} {kvs : List (D × D)}, DrK K H ks kvs → ks.length = kvs.length
  | _, _, .nil => rfl
  | _, _, .cons _ t => by rw [List.length_cons, List.length_cons, drk_len t]
theorem one_of {Hf H : Hp} {vs : List V} {d : D} (h : Paired (Vw K Hf H) vs [d]) : ∃ v, vs = [v] ∧ Vw K Hf H v d := by
  cases h with
  | cons a b =>
    cases b
    exact ⟨_, rfl, a⟩
theorem two_of {Hf H : Hp} {vs : List V} {d e : D} (h : Paired (Vw K Hf H) vs [d, e]) : ∃ v w, vs = [v, w] ∧ Vw K Hf H v d ∧ Vw K Hf H w e := by
  cases h with
  | cons a b =>
    cases b with
    | cons c b =>
      cases b
      exact ⟨_, _, rfl, a, c⟩
theorem cbd_len : CbD K (rLenX K) gLen := by
  intro Hf H vs xs Kc Q e hv g q
  unfold gLen at g
  split at g
  · obtain ⟨v, rfl, hw⟩ := one_of hv
    obtain ⟨a, ws, rfl, h1, h2⟩ := hw.list e
    refine .inl ⟨_, _, rfl, .inl ⟨ws, .inl h1, rfl⟩, ?_⟩
    rw [dpa_len h2]
    exact scalar g e (fun _ => .int _) q
  · obtain ⟨v, rfl, hw⟩ := one_of hv
    obtain ⟨a, ws, rfl, h1, h2, _⟩ := hw.tuple e
    refine .inl ⟨_, _, rfl, .inr ⟨ws, h1, rfl⟩, ?_⟩
    rw [dpa_len h2]
    exact scalar g e (fun _ => .int _) q
  · obtain ⟨v, rfl, hw⟩ := one_of hv
    cases hw.str
    exact .inl ⟨_, _, rfl, ⟨of_sz g.1, rfl⟩, scalar g.2 e (fun _ => .int _) q⟩
  · obtain ⟨v, rfl, hw⟩ := one_of hv
    obtain ⟨a, ws, rfl, h1, h2⟩ := hw.dict e g.1
    refine .inr ⟨a, ws, rfl, h1, ?_⟩
    rw [drk_len h2]
    exact scalar g.2 e (fun _ => .int _) q
  · exact g.elim
def rIntX : List V → Hp → VK → Prop := fun xs H Q => ((∃ i, xs = [.int i] ∧ Q (.int i) H) ∨ ∃ k, xs = [.bl k] ∧ Q (.int (if k then 1 else 0)) H) ∨ ∃ a n, xs = [.str a] ∧ PySem.intText? a = some n ∧ a.length ≤ 640 ∧ Q (.int n) H
theorem call_intX : CallR X (.type "int") rIntX := call_or call_int1 call_int_str
def gInt : List D → (Re → Prop) → Prop
  | [.int i], k => k (.dat (.int i))
  | [.bool b], k => k (.dat (.int (if b then 1 else 0)))
  | [.str a], k => a.length ≤ 640 ∧ (match PySem.intText? a with
    | some n => k (.dat (.int n))
    | none => False)
  | _, _ => False
theorem cbd_int : CbD K rIntX gInt := by
  intro Hf H vs xs Kc Q e hv g q
  unfold gInt at g
  split at g
  · obtain ⟨v, rfl, hw⟩ := one_of hv
    cases hw.int
    exact .inl (.inl ⟨_, rfl, scalar g e (fun _ => .int _) q⟩)
  · obtain ⟨v, rfl, hw⟩ := one_of hv
    cases hw.bool
    exact .inl (.inr ⟨_, rfl, scalar g e (fun _ => .int _) q⟩)
  · obtain ⟨v, rfl, hw⟩ := one_of hv
    cases hw.str
    obtain ⟨g1, g2⟩ := g
    split at g2
    · rename_i n hn
      exact .inr ⟨_, n, rfl, hn, g1, scalar g2 e (fun _ => .int _) q⟩
    · exact g2.elim
  · exact g.elim
def tyN : D → String
  | .none => "NoneType"
  | .bool _ => "bool"
  | .int _ => "int"
  | .str _ => "str"
  | .list _ => "list"
  | .tuple _ => "tuple"
  | .dict _ => "dict"
def isTy (T n : String) : Bool := T == n || (T == "int" && n == "bool")
def isT (T : String) (d : D) : Bool := isTy T (tyN d)
theorem tyX_of {Hf H : Hp} {v : V} {d : D} (e : Same Hf H) (h : Vw K Hf H v d) (nx : notX d = true) : TyX K H v (.type (tyN d)) := by
  have tup : ∀ {a : Addr} {xs : List V}, SqT K H a xs → TyX K H (.ref a) (.type "tuple") := fun {a xs} q => by
    rcases q with (q | ⟨o, q⟩) | ⟨o, its, n, h1, h2, _⟩
    · exact .base (.tup q)
    · exact .fTuple q
    · exact .kTuple h1 h2
  cases d with
  | none => rw [h.non]; exact .base .non
  | bool b => rw [h.bool]; exact .base (.bl b)
  | int b => rw [h.int]; exact .base (.int b)
  | str b => rw [h.str]; exact .base (.str b)
  | list ds =>
    obtain ⟨a, vs, rfl, q | ⟨o, q⟩, _⟩ := h.list e
    · exact .base (.lst q)
    · exact .base (.frz q)
  | tuple ds =>
    obtain ⟨a, vs, rfl, q, _⟩ := h.tuple e
    exact tup q
  | dict kvs =>
    obtain ⟨a, vs, rfl, q | ⟨o, q⟩, _⟩ := h.dict e nx
    · exact .base (.dK q)
    · exact .fDict q
theorem kit_all : ∀ T ∈ ["int", "bool", "str", "tuple", "list", "dict"], ∀ n ∈ ["NoneType", "bool", "int", "str", "list", "tuple", "dict"], kitB n T = some (isTy T n) := by decide +kernel
theorem kit_isT {T : String} (hT : T ∈ ["int", "bool", "str", "tuple", "list", "dict"]) (d : D) : PySem.W.kitOne K (.type (tyN d)) (.type T) = some (isT T d) := by
  refine kit_ty (kit_all T hT (tyN d) ?_)
  cases d <;> simp [tyN]
def dIsi (T : String) (a : DE) : DE := fun δ k => a δ fun r δ1 => vwR r δ1 fun d => notX d = true ∧ k (.dat (.bool (isT T d))) δ1
theorem de_isi {T : String} {ta : TE} {a : DE} (hT : T ∈ ["int", "bool", "str", "tuple", "list", "dict"]) (ha : DEok B K ta a) : DEok B K (tCB (rIsi K) (tCons ta (tCons (tC (.ty T)) tNil))) (dIsi T a) := by
  intro Hf H σ τ δ θ Kc Q hs hd S h k
  refine ha Hf H σ τ δ θ _ _ hs hd S h fun r1 δ1 v1 Hf1 H1 h1 hd1 e1 S1 => ?_
  have hlt := S.lenT hs hd
  obtain ⟨x, x1, x2⟩ := vwR_ok (v := v1) (i := B.n + τ.length) S1 hd1 (top_get (by omega)) (top_get (by omega)) h1
  exact ⟨v1, .ty T, _, _, _, rfl, .ty T, tyX_of S1.fh x1 x2.1, kit_isT hT x, k _ δ1 _ Hf1 H1 x2.2 hd1 e1 ((S1.pop1 hs hd1).res (r := .dat (.bool (isT T x))) (Gw.refl S1.fh) (.bl _))⟩
mutual
theorem Dr.reads {pins : List (Addr × Obj)} {σ : L2.St} {H : Hp} {s : Shared} (I : Inv X pins σ H s) : ∀ (d : D) (v : V) (u : Value), d.hasDict = false → Dr X.K H v d → RelV v u → ∃ as, Reads s.heap u d as
  | .none, _, _, _, h, r => by
    cases h; cases r
    exact ⟨_, .none⟩
  | .bool b, _, _, _, h, r => by
    cases h; cases r
    exact ⟨_, .bool b⟩
  | .int i, _, _, _, h, r => by
    cases h
    obtain ⟨t, rfl⟩ := r
    exact ⟨_, .int i t⟩
  | .str x, _, _, _, h, r => by
    cases h
    obtain ⟨t, rfl⟩ := r
    exact ⟨_, .str x t⟩
  | .list ds, _, _, nd, h, r => by
    cases h with
    | lst h1 h2 =>
      cases r
      obtain ⟨z, its, n, rv, e⟩ := h1.ok I.hok
      obtain ⟨as, q⟩ := DrA.reads I ds _ its (by simpa only [PyData.hasDict] using nd) h2 rv
      exact ⟨_, .list e rfl rfl (by simpa using q)⟩
  | .tuple ds, _, _, nd, h, r => by
    cases h with
    | tup h1 h2 =>
      cases r
      obtain ⟨its, rv, ⟨o, e, hc, n, hd⟩, _⟩ := I.tuple h1.sq
      obtain ⟨as, q⟩ := DrA.reads I ds _ its (by simpa only [PyData.hasDict] using nd) h2 rv
      exact ⟨_, .tuple e hc hd (by simpa using q)⟩
  | .dict kvs, _, _, nd, h, r => by simp only [PyData.hasDict] at nd; cases nd
theorem DrA.reads {pins : List (Addr × Obj)} {σ : L2.St} {H : Hp} {s : Shared} (I : Inv X pins σ H s) : ∀ (ds : List D) (vs : List V) (us : List Value), PyData.hasDictAll ds = false → DrA X.K H vs ds → Vals vs us → ∃ as, ReadsAll s.heap us ds as
  | [], _, _, _, h, r => by
    cases h; cases r
    exact ⟨_, .nil⟩
  | d :: ds, _, _, nd, h, r => by
    simp only [PyData.hasDictAll, Bool.or_eq_false_iff] at nd
    cases h with
    | cons h1 h2 =>
      cases r with
      | cons r1 r2 =>
        obtain ⟨as, q1⟩ := Dr.reads I d _ _ nd.1 h1 r1
        obtain ⟨bs, q2⟩ := DrA.reads I ds _ _ nd.2 h2 r2
        exact ⟨_, .cons q1 q2⟩
end
def reprOk (d : D) : Prop := d.hasDict = false ∧ d.showable = true ∧ d.depth ≤ 100 ∧ d.shown.length ≤ 1000000
end Pd
set_option Elab.async false
set_option linter.all false
set_option maxRecDepth 100000
set_option maxHeartbeats 2000000
namespace Pd
open PySem PySem.Spec PyProof.Rows L2
variable {K : PySem.W.Frag} [HasW K] {B : Bs} {X : Cx}
theorem de_call {fs : FS} {ms : List Bool} {EX : Str → List (Str × D) → En → Prop} {E : XK} {ta : TA} {da : DA} (hx : XOk B K E EX) (ha : DAok B K ta da) : DEok B K (tCall (spD K fs) [] E ta) (dCall fs ms da EX) := by
  intro Hf H σ τ δ θ Kc Q hs hd S h k
  refine ha Hf H σ τ δ θ _ _ hs hd S h fun rs δ1 vs Hf1 H1 h1 hd1 hl e1 S1 => ?_
  rw [List.append_nil]
  have z := call_core (W := fun C dx σ' H' => σ'.length = B.n → E C dx H') (EX := EX) (Q := Q) (fun Hf2 H2 δ2 n C xs dx q1 q2 q0 q3 q4 q5 => hx Hf2 H2 σ δ2 n C xs dx q5 q1 q2 q0 q3 q4) hs hd1 hl S1 h1 (fun r δ' v Hf' H' q1 q2 q3 q4 => k r δ' v Hf' H' q1 q2 (e1.trans q3) q4)
  obtain ⟨Hf0, as, io, P, XX, w1, w2, w3, w4, w5, w6⟩ := z
  exact ⟨Hf0, as, io, P, XX, w1, w2, w3, w4, w5, fun n C xs os dx Hf' H' a b0 b c => w6 n C xs os dx Hf' H' a b0 b c hs⟩
def XOkS (B : Bs) (K : PySem.W.Frag) [HasW K] (E : L2.St → XK) (EX : Str → List (Str × D) → En → Prop) : Prop := ∀ Hf H σ δ n C xs dx, σ.length = B.n → δ.length = B.n → Sta B K Hf H σ δ → NmAt K n C → XR K Hf H xs dx → EX n xs δ → E σ (.ref C) dx H
theorem de_callS {fs : FS} {ms : List Bool} {EX : Str → List (Str × D) → En → Prop} {E : L2.St → XK} {ta : TA} {da : DA} (hx : XOkS B K E EX) (ha : DAok B K ta da) : DEok B K (tCallS (spD K fs) E ta) (dCall fs ms da EX) := by
  intro Hf H σ τ δ θ Kc Q hs hd S h k
  refine ha Hf H σ τ δ θ _ _ hs hd S h fun rs δ1 vs Hf1 H1 h1 hd1 hl e1 S1 => ?_
  exact call_core (W := fun C dx σ' H' => E σ' C dx H') (EX := EX) (Q := Q) (fun Hf2 H2 δ2 n C xs dx q1 q2 q0 q3 q4 => hx Hf2 H2 σ δ2 n C xs dx hs q1 q2 q0 q3 q4) hs hd1 hl S1 h1 (fun r δ' v Hf' H' q1 q2 q3 q4 => k r δ' v Hf' H' q1 q2 (e1.trans q3) q4)
theorem vw_top {Hf H : Hp} {σ : L2.St} {δ : En} {v : V} {r : Re} {k : D → Prop} (S : Sta B K Hf H (σ ++ [some v]) (δ ++ [r.sl])) (hs : σ.length = B.n) (hd : δ.length = B.n) (h : vwR r δ k) : ∃ d, Vw K Hf H v d ∧ k d :=
  vwR_ok (v := v) (i := B.n) S hd (by rw [List.getElem?_append_right (by omega)]; simp [hs]) (by rw [List.getElem?_append_right (by omega)]; simp [hd]) h
theorem dat_top {Hf H : Hp} {σ τ : L2.St} {δ θ : En} {v : V} {r : Re} {k : D → En → Prop} (S : Sta B K Hf H (σ ++ (τ ++ [some v])) (δ ++ (θ ++ [r.sl]))) (hs : σ.length = B.n) (hd : δ.length = B.n) (h : datR r δ k) :
    ∃ d δ' Hf', k d δ' ∧ δ'.length = B.n ∧ Same Hf Hf' ∧ Dr K Hf' v d ∧ Sta B K Hf' H (σ ++ τ) (δ' ++ θ) := by
  have hlt : τ.length = θ.length := (S.pop1 hs hd).lenT hs hd
  obtain ⟨d, δ2, Hf2, s2, h2, hd2, e2, q2, S2⟩ := datR_ok (v := v) (ws := []) (ss := []) hs hd hlt S h
  exact ⟨d, δ2, Hf2, h2, hd2, e2, q2, S2.pop1 hs hd2⟩
theorem dat_top0 {Hf H : Hp} {σ : L2.St} {δ : En} {v : V} {r : Re} {k : D → En → Prop} (S : Sta B K Hf H (σ ++ [some v]) (δ ++ [r.sl])) (hs : σ.length = B.n) (hd : δ.length = B.n) (h : datR r δ k) :
    ∃ d δ' Hf', k d δ' ∧ δ'.length = B.n ∧ Same Hf Hf' ∧ Dr K Hf' v d ∧ Sta B K Hf' H σ δ' := by
  obtain ⟨d, δ', Hf', a, b, c, e, f⟩ := dat_top (τ := []) (θ := []) (by simpa using S) hs hd h
  exact ⟨d, δ', Hf', a, b, c, e, by simpa using f⟩
def objS (i : Nat) (δ : En) (k : MO → (MO → En) → Prop) : Prop := match δ[i]? with
  | some (.own o) => k o fun o' => δ.set i (.own o')
  | some (.io o) => k o fun o' => δ.set i (.io o')
  | _ => False
theorem objS_ok {Hf H : Hp} {σ τ : L2.St} {δ θ : En} {i : Nat} {k : MO → (MO → En) → Prop} (S : Sta B K Hf H (σ ++ τ) (δ ++ θ)) (hd : δ.length = B.n) (hs : σ.length = B.n) (h : objS i δ k) :
    ∃ (a : Addr) (o : MO) (f : MO → En), σ[i]? = some (some (.ref a)) ∧ Hf a = none ∧ OR K Hf H a o ∧ k o f ∧ (∀ o', (f o').length = B.n) ∧ ∀ o' u, OR K Hf (upd H a u) a o' → flatO o = true → flatO o' = true → Sta B K Hf (upd H a u) (σ ++ τ) (f o' ++ θ) := by
  unfold objS at h
  cases e : δ[i]? with
  | none => simp only [e] at h
  | some s =>
    simp only [e] at h
    have hi : i < δ.length := (List.getElem?_eq_some_iff.mp e).1
    have eM : (δ ++ θ)[i]? = some s := by rw [List.getElem?_append_left hi]; exact e
    obtain ⟨x, hx, c⟩ := S.lt eM
    have ex : σ[i]? = some x := by rw [List.getElem?_append_left (by omega)] at hx; exact hx
    have go : ∀ o, s.obj = some o → ∀ o' u, (∃ a, x = some (V.ref a) ∧ OR K Hf (upd H a u) a o' ∧ Hf a = none) → ∀ a, x = some (V.ref a) → OR K Hf (upd H a u) a o' → flatO o = true → flatO o' = true → Sta B K Hf (upd H a u) (σ ++ τ) (δ.set i (s.with_ o') ++ θ) := by
      intro o ho o' u _ a hxa hor fo fo'
      subst hxa
      have S1 := S.write (i := i) (a := a) (s := s) (o := o) (o' := o') (ho := u) hx eM ho hor fo fo'
      rw [List.set_append_left _ _ hi] at S1
      exact S1
    cases s with
    | un => exact h.elim
    | dat d => exact h.elim
    | bor j => exact h.elim
    | fn _ => exact h.elim
    | own o =>
      obtain ⟨a, rfl, f1, f2⟩ := c
      exact ⟨a, o, _, ex, f1, f2, h, fun o' => by rw [List.length_set]; exact hd, fun o' u q fo fo' => go o rfl o' u ⟨a, rfl, q, f1⟩ a rfl q fo fo'⟩
    | io o =>
      obtain ⟨a, rfl, f1, f2⟩ := c
      exact ⟨a, o, _, ex, f1, f2, h, fun o' => by rw [List.length_set]; exact hd, fun o' u q fo fo' => go o rfl o' u ⟨a, rfl, q, f1⟩ a rfl q fo fo'⟩
def MuD (K : PySem.W.Frag) [HasW K] (r : V → List V → Hp → VK → Prop) (m : List D → List D → (D → List D → Prop) → Prop) : Prop :=
  ∀ (Hf H : Hp) (a : Addr) (xs ds : List D) (ws vs : List V) (Kc : D → List D → Prop) (Q : VK), H a = some (.lst ws) → DrA K Hf ws xs → DrA K Hf vs ds → m xs ds Kc →
    (∀ d xs' v ws', Kc d xs' → Dr K Hf v d → DrA K Hf ws' xs' → Q v (upd H a (.lst ws'))) → r (.ref a) vs H Q
def lstO (o : MO) (k : List D → Prop) : Prop := match o with
  | .lst xs => k xs
  | _ => False
def dMu (m : List D → List D → (D → List D → Prop) → Prop) (i : Nat) (a : DA) : DE := fun δ k => objS i δ (fun o _ => lstO o fun _ => True) ∧ a δ fun rs δ1 => datRs rs δ1 fun ds δ2 => objS i δ2 fun o f => lstO o fun xs => m xs ds fun d xs' => k (.dat d) (f (.lst xs'))
theorem lstO_ok {Hf H : Hp} {a : Addr} {o : MO} {k : List D → Prop} (h : OR K Hf H a o) (q : lstO o k) : ∃ xs vs, H a = some (.lst vs) ∧ DrA K Hf vs xs ∧ k xs ∧ o = .lst xs := by
  cases o with
  | lst xs =>
    obtain ⟨vs, h1, h2⟩ := h
    exact ⟨xs, vs, h1, h2, q, rfl⟩
  | dK _ => exact q.elim
  | dT _ => exact q.elim
  | tre _ _ => exact q.elim
theorem de_mu {r : V → List V → Hp → VK → Prop} {m : List D → List D → (D → List D → Prop) → Prop} {i : Nat} {ta : TA} {a : DA} (hr : MuD K r m) (ha : DAok B K ta a) : DEok B K (tBM K "list" r (tVar i) ta) (dMu m i a) := by
  intro Hf H σ τ δ θ Kc Q hs hd S ⟨h0, h⟩ k
  obtain ⟨p, o, f, z1, z2, z3, z4, z5, z6⟩ := objS_ok S hd hs h0
  obtain ⟨xs0, vs0, y1, _, _, _⟩ := lstO_ok z3 z4
  refine ⟨_, z1, .inl ⟨rfl, _, .inl (.inl y1)⟩, ?_⟩
  refine ha Hf H σ τ δ θ _ _ hs hd S h fun rs δ1 vs Hf1 H1 h1 hd1 hl e1 S1 => ?_
  obtain ⟨ds, δ2, Hf2, k1, hd2, e2, q2, S2⟩ := datRs_ok hs hd1 hl S1 h1
  obtain ⟨p', o', f', x1, x2, x3, x4, x5, x6⟩ := objS_ok S2 hd2 hs k1
  rw [z1] at x1
  cases x1
  obtain ⟨xs, ws, w1, w2, w3, w4⟩ := lstO_ok x3 x4
  refine hr Hf2 H1 p xs ds ws vs _ _ w1 w2 q2 w3 fun d xs' v ws' c1 c2 c3 => ?_
  have S3 := x6 (.lst xs') (.lst ws') ⟨ws', upd_same, c3⟩ (by rw [w4]; rfl) rfl
  exact k (.dat d) _ v Hf2 _ c1 (x5 _) (e1.trans e2) (S3.res (r := .dat d) (Gw.refl S3.fh) c2)
def mApp : List D → List D → (D → List D → Prop) → Prop
  | xs, [d], k => xs.length < 1000000 ∧ k .none (xs ++ [d])
  | _, _, _ => False
theorem lt_sz {n : Nat} (h : n < 1000000) : n < sizeLine := Nat.lt_of_lt_of_le h (by decide)
theorem mu_app : MuD K rAppend mApp := by
  intro Hf H a xs ds ws vs Kc Q hH hw hv h q
  unfold mApp at h
  split at h
  · cases hv with
    | cons h1 h2 =>
      cases h2
      exact ⟨a, ws, _, rfl, rfl, hH, by rw [dpa_len hw]; exact lt_sz h.1, q _ _ _ _ h.2 .non (dpa_append hw (.cons h1 .nil))⟩
  · exact h.elim
def putD : List (Key × D) → Key → D → List (Key × D)
  | [], k, d => [(k, d)]
  | p :: r, k, d => if p.1 = k then (p.1, d) :: r else p :: putD r k d
def ndK : List (Key × D) → Bool
  | [] => true
  | p :: r => (!r.any fun q => decide (q.1 = p.1)) && ndK r
def dkO (o : MO) (k : List (Key × D) → Prop) : Prop := match o with
  | .dK kvs => k kvs
  | _ => False
theorem dkO_ok {Hf H : Hp} {a : Addr} {o : MO} {k : List (Key × D) → Prop} (h : OR K Hf H a o) (q : dkO o k) : ∃ kvs ks, H a = some (.dK ks) ∧ DpKV K Hf ks kvs ∧ k kvs ∧ o = .dK kvs := by
  cases o with
  | dK xs =>
    obtain ⟨vs, h1, h2⟩ := h
    exact ⟨xs, vs, h1, h2, q, rfl⟩
  | lst _ => exact q.elim
  | dT _ => exact q.elim
  | tre _ _ => exact q.elim
theorem dpkv_len {Hf : Hp} : ∀ {ks : List (Key × V)} {kvs : List (Key × D)}, DpKV K Hf ks kvs → ks.length = kvs.length
  | _, _, .nil => rfl
  | _, _, .cons _ t => by rw [List.length_cons, List.length_cons, dpkv_len t]
theorem dpkv_any {Hf : Hp} {k : Key} : ∀ {ks : List (Key × V)} {kvs : List (Key × D)}, DpKV K Hf ks kvs → (ks.any fun q => decide (q.1 = k)) = kvs.any fun q => decide (q.1 = k)
  | _, _, .nil => rfl
  | _, _, .cons h t => by rw [List.any_cons, List.any_cons, dpkv_any t, h.1]
theorem putK_cons {κ : Type} [DecidableEq κ] {p : κ × V} {r : List (κ × V)} {k : κ} {v : V} : putK (p :: r) k v = if p.1 = k then (p.1, v) :: r.map (fun kv => if kv.1 = k then (kv.1, v) else kv) else p :: putK r k v := by
  unfold putK
  by_cases e : p.1 = k
  · simp [e]
  · simp only [List.any_cons, decide_eq_false e, Bool.false_or, List.map_cons, if_neg e]
    split <;> rfl
theorem map_off {κ : Type} [DecidableEq κ] {k : κ} {v : V} : ∀ {r : List (κ × V)}, (r.any fun q => decide (q.1 = k)) = false → r.map (fun kv => if kv.1 = k then (kv.1, v) else kv) = r
  | [], _ => rfl
  | p :: r, h => by
    rw [List.any_cons, Bool.or_eq_false_iff] at h
    rw [List.map_cons, if_neg (of_decide_eq_false h.1), map_off h.2]
theorem dpkv_put {Hf : Hp} {k : Key} {v : V} {d : D} (hv : Dr K Hf v d) : ∀ {ks : List (Key × V)} {kvs : List (Key × D)}, DpKV K Hf ks kvs → ndK kvs = true → DpKV K Hf (putK ks k v) (putD kvs k d)
  | _, _, .nil, _ => .cons ⟨rfl, hv⟩ .nil
  | p :: ks, q :: kvs, .cons h t, nd => by
    rw [ndK, Bool.and_eq_true, Bool.not_eq_true'] at nd
    rw [putK_cons, putD]
    by_cases e : p.1 = k
    · rw [if_pos e, if_pos (by rw [← h.1]; exact e)]
      rw [map_off (by rw [dpkv_any t, ← e, h.1]; exact nd.1)]
      exact .cons ⟨h.1, hv⟩ t
    · rw [if_neg e, if_neg (by rw [← h.1]; exact e)]
      exact .cons h (dpkv_put hv t nd.2)
def dDPut (s : Nat) (ek e : DE) : DT := fun E δ => e δ fun r δ1 => datR r δ1 fun d δ2 => objS s δ2 (fun _ _ => True) ∧ ek δ2 fun ri δ3 => vwR ri δ3 fun dj => match keyD dj with
  | some k => objS s δ3 fun o f => dkO o fun kvs => ndK kvs = true ∧ kvs.length < 1000000 ∧ E.nx (f (.dK (putD kvs k d)))
  | none => False
theorem keyD_ok {Hf H : Hp} {v : V} {d : D} {k : Key} (h : Vw K Hf H v d) (e : keyD d = some k) : v = kV k := by
  cases d <;> cases e
  · exact h.int
  · exact h.str
theorem ds_dput {s : Nat} {te ti : TE} {ek e : DE} (he : DEok B K te e) (hi : DEok B K ti ek) : DSok B K (sDPut (tVar s) ti te) (dDPut s ek e) := fun Hf H σ δ D E hs hd S M h =>
  he.use hs hd S h fun r δ1 v Hf1 H1 h1 hd1 e1 S1 => by
    obtain ⟨d, δ2, Hf2, ⟨h2, h3⟩, hd2, e2, q2, S2'⟩ := dat_top0 S1 hs hd1 h1
    obtain ⟨p, o, f, z1, z2, z3, z4, z5, z6⟩ := objS_ok (τ := []) (θ := []) (by simpa using S2') hd2 hs h2
    refine ⟨_, z1, ?_⟩
    refine hi.use hs hd2 S2' h3 fun ri δ3 vi Hf3 H3 h4 hd3 e3 S3 => ?_
    obtain ⟨dj, y1, y2⟩ := vw_top S3 hs hd3 h4
    have S4 : Sta B K Hf3 H3 σ δ3 := S3.pop (by omega) (by omega)
    cases ekd : keyD dj with
    | none => simp only [ekd] at y2
    | some kk =>
      simp only [ekd] at y2
      obtain ⟨p', o', f', x1, x2, x3, x4, x5, x6⟩ := objS_ok (τ := []) (θ := []) (by simpa using S4) hd3 hs y2
      rw [z1] at x1
      cases x1
      obtain ⟨kvs, ks, w1, w2, ⟨w5, w6, w3⟩, w4⟩ := dkO_ok x3 x4
      have S5 := x6 (.dK (putD kvs kk d)) (.dK (putK ks kk v)) ⟨putK ks kk v, upd_same, dpkv_put (Same.dp e3 q2) w2 w5⟩ (by rw [w4]; rfl) rfl
      exact ⟨p, _, rfl, .inl ⟨ks, kk, w1, keyD_ok y1 ekd, by rw [dpkv_len w2]; exact lt_sz w6, rfl⟩, M.nx Hf3 _ σ _ ((e1.trans e2).trans e3) hs (x5 _) (by simpa using S5) w3⟩
def mergeD (acc more : List (Key × D)) : List (Key × D) := more.foldl (fun acc kv => putD acc kv.1 kv.2) acc
def dPairs : List (Key × DE) → En → (List (Key × D) → En → Prop) → Prop
  | [], δ, k => k [] δ
  | (kk, e) :: r, δ, k => e δ fun r1 δ1 => datR r1 δ1 fun d δ2 => dPairs r δ2 fun kvs δ3 => k ((kk, d) :: kvs) δ3
def dDisp (ps : List (Key × DE)) : DE := fun δ k => dPairs ps δ fun kvs δ1 => kvs.length ≤ 15 ∧ k (.new (.dK (mergeD [] kvs))) δ1
def PairsOk (B : Bs) (K : PySem.W.Frag) [HasW K] : List (TE × TE) → List (Key × DE) → Prop
  | [], [] => True
  | (tk, tv) :: r, (k, e) :: s => tk = tC (kV k) ∧ DEok B K tv e ∧ PairsOk B K r s
  | _, _ => False
theorem pairs_ok {H0 : Hp} : ∀ {trs : List (TE × TE)} {ps : List (Key × DE)} {Hf H : Hp} {σ τ : L2.St} {δ θ : En} {Kc : List (Key × D) → En → Prop} {Q : List (V × V) → Hp → Prop}, PairsOk B K trs ps → σ.length = B.n → δ.length = B.n → Sta B K Hf H (σ ++ τ) (δ ++ θ) → dPairs ps δ Kc →
    (∀ kvs δ' ks Hf' H', Kc kvs δ' → δ'.length = B.n → Same Hf Hf' → Sta B K Hf' H' (σ ++ τ) (δ' ++ θ) → DpKV K Hf' ks kvs → Q (ks.map fun kv => (kV kv.1, kv.2)) H') → tPairs trs σ H Q
  | [], [], Hf, H, σ, τ, δ, θ, Kc, Q, _, hs, hd, S, h, k => k [] δ [] Hf H h hd (Same.refl _) S .nil
  | (tk, tv) :: r, (kk, e) :: s, Hf, H, σ, τ, δ, θ, Kc, Q, ⟨o1, o2, o3⟩, hs, hd, S, h, k => by
    subst o1
    show tv σ H _
    refine o2 Hf H σ τ δ θ _ _ hs hd S h fun r1 δ1 v Hf1 H1 h1 hd1 e1 S1 => ?_
    obtain ⟨d, δ2, Hf2, h2, hd2, e2, q2, S2⟩ := dat_top S1 hs hd1 h1
    refine pairs_ok (H0 := H0) o3 hs hd2 S2 h2 fun kvs δ' ks Hf' H' k1 k2 k3 k4 k5 => ?_
    exact k _ δ' ((kk, v) :: ks) Hf' H' k1 k2 ((e1.trans e2).trans k3) k4 (.cons ⟨rfl, Same.dp k3 q2⟩ k5)
  | [], _ :: _, _, _, _, _, _, _, _, _, h, _, _, _, _, _ => h.elim
  | _ :: _, [], _, _, _, _, _, _, _, _, h, _, _, _, _, _ => h.elim
theorem putD_any {j k : Key} {d : D} : ∀ {kvs : List (Key × D)}, ((putD kvs k d).any fun q => decide (q.1 = j)) = ((kvs.any fun q => decide (q.1 = j)) || decide (k = j))
  | [] => by simp [putD]
  | p :: r => by
    unfold putD
    by_cases e : p.1 = k
    · rw [if_pos e]
      simp only [List.any_cons, e]
      cases decide (k = j) <;> simp
    · rw [if_neg e]
      simp only [List.any_cons, putD_any (kvs := r), Bool.or_assoc]
theorem putD_nd {k : Key} {d : D} : ∀ {kvs : List (Key × D)}, ndK kvs = true → ndK (putD kvs k d) = true
  | [], _ => rfl
  | p :: r, h => by
    rw [ndK, Bool.and_eq_true, Bool.not_eq_true'] at h
    unfold putD
    by_cases e : p.1 = k
    · rw [if_pos e, ndK, Bool.and_eq_true, Bool.not_eq_true']
      exact h
    · rw [if_neg e, ndK, Bool.and_eq_true, Bool.not_eq_true', putD_any, h.1]
      exact ⟨by simpa using fun z => e z.symm, putD_nd h.2⟩
theorem dpkv_merge {Hf : Hp} : ∀ {more : List (Key × V)} {moreD : List (Key × D)} {acc : List (Key × V)} {accD : List (Key × D)}, DpKV K Hf more moreD → DpKV K Hf acc accD → ndK accD = true → DpKV K Hf (mergeK acc more) (mergeD accD moreD)
  | _, _, acc, accD, .nil, h, _ => h
  | p :: more, q :: moreD, acc, accD, .cons a t, h, nd => by
    show DpKV K Hf (mergeK (putK acc p.1 p.2) more) (mergeD (putD accD q.1 q.2) moreD)
    rw [a.1]
    exact dpkv_merge t (dpkv_put a.2 h nd) (putD_nd nd)
theorem de_disp {trs : List (TE × TE)} {ps : List (Key × DE)} (h : PairsOk B K trs ps) : DEok B K (tDisp trs) (dDisp ps) := by
  intro Hf H σ τ δ θ Kc Q hs hd S q k p hp
  have hf := none_of S.fh hp
  have S1 : Sta B K Hf (upd H p (.dK [])) (σ ++ (τ ++ [some (.ref p)])) (δ ++ (θ ++ [Sl.own (.dK [])])) := S.res (r := .new (.dK [])) (Gw.made S.fh hp) ⟨p, rfl, hp, hf, [], upd_same, .nil⟩
  refine pairs_ok (H0 := H) h hs hd S1 q fun kvs δ' ks Hf' H' ⟨k1, k1'⟩ k2 k3 k4 k5 => ?_
  have hlt := S.lenT hs hd
  have hL : (σ ++ (τ ++ [some (V.ref p)]))[B.n + τ.length]? = some (some (.ref p)) := top_get (by omega)
  have hM : (δ' ++ (θ ++ [Sl.own (.dK [])]))[B.n + τ.length]? = some (.own (.dK [])) := top_get (by omega)
  obtain ⟨a, ea, f1, vs, f2, f3⟩ := k4.cell _ _ _ hL hM
  cases ea
  cases f3
  refine ⟨f2, ks, rfl, by rw [dpkv_len k5]; exact k1, ?_⟩
  have S2 := k4.write (o' := .dK (mergeD [] kvs)) (ho := .dK (mergeK [] ks)) hL hM rfl ⟨_, upd_same, dpkv_merge k5 .nil rfl⟩
  rw [set_mid (by omega)] at S2
  exact k (.new (.dK (mergeD [] kvs))) δ' _ Hf' _ k1' k2 k3 S2
def dDNew : DE := fun δ k => k (.new (.dK [])) δ
theorem de_dnew : DEok B K tDNewK dDNew := by
  intro Hf H σ τ δ θ Kc Q hs hd S q k p hp
  exact k (.new (.dK [])) δ _ Hf _ q hd (Same.refl _) (S.res (r := .new (.dK [])) (Gw.made S.fh hp) ⟨p, rfl, hp, none_of S.fh hp, [], upd_same, .nil⟩)
end Pd
set_option Elab.async false
set_option linter.all false
set_option maxRecDepth 100000
set_option maxHeartbeats 2000000
namespace Pd
open PySem PySem.Spec PyProof.Rows L2
variable {K : PySem.W.Frag} [HasW K] {B : Bs} {X : Cx}
def iSeq (K : PySem.W.Frag) [HasW K] (te : TE) : TI := fun σ H R => te σ H fun v H1 => (∃ a, v = .ref a ∧ (((∃ xs, SqL K H1 a xs) ∧ R (Itl K a) H1) ∨ ((∃ xs, SqT K H1 a xs) ∧ R (Itt K a) H1))) ∨ (∃ z, v = .str z ∧ R (Its z) H1) ∨ ∃ a o xs, v = .ref a ∧ (a == sysModules) = false ∧ H1 a = some (.ext (PinX a o)) ∧ DTo (HasW.w K) o xs ∧ R (Itx a o xs) H1
theorem pi_seq {tg e : Expr} {te : TE} (he : PE X e te) : PI X tg e (iSeq X.K te) := by
  refine ⟨fun pins s σ H R I h => thn (he.run pins s σ H _ I h) fun w s1 ⟨y, H1, J, ry, hy⟩ => ?_⟩
  rcases hy with ⟨a, ea, ⟨⟨xs, hxs⟩, go⟩ | ⟨⟨xs, hxs⟩, go⟩⟩ | ⟨z, ez, go⟩ | ⟨a, o, xs, ea, lo, hp, hd, go⟩
  · subst ea
    obtain rfl : w = Value.ref a := ry
    obtain ⟨its, rel, lay, _⟩ := J.list hxs
    exact wpAny_pyIter_list lay.isList (pi_one (tk := s1.toks) J _ (turn_list a _) ⟨_, Heap.get?_push_size _ rfl, rfl, rfl⟩ go)
  · subst ea
    obtain rfl : w = Value.ref a := ry
    obtain ⟨its, rel, lay, _⟩ := J.tuple hxs
    exact wpAny_pyIter_tuple lay (pi_one (tk := s1.toks) J _ (turn_tuple a _) ⟨_, Heap.get?_push_size _ rfl, rfl, rfl⟩ go)
  · subst ez
    obtain ⟨t, rfl⟩ := ry
    by_cases ha : z.cps.all (· < 128) = true
    · exact wpAny_pyIter_ascii ha (pi_one (tk := s1.toks) J _ (turn_str _ z t "str_ascii_iterator" (.inl rfl)) ⟨_, Heap.get?_push_size _ rfl, rfl, rfl⟩ go)
    · exact wpAny_pyIter_wide (by simpa using ha) (pi_one (tk := s1.toks) J _ (turn_str _ z t "str_iterator" (.inr rfl)) ⟨_, Heap.get?_push_size _ rfl, rfl, rfl⟩ go)
  · subst ea
    obtain rfl : w = Value.ref a := ry
    exact pi_x J lo hp hd go
def charsD (z : Str) : List D := z.cps.toList.map fun c => .str ⟨#[c]⟩
def itemsD : D → Option (List D)
  | .list ds => some ds
  | .tuple ds => some ds
  | .str z => some (charsD z)
  | .dict ((.dict [], .none) :: r) => some (r.map (·.1))
  | _ => none
theorem drt_keys {Hf : Hp} : ∀ {xs : List XE} {kvs : List (D × D)}, DrT K Hf xs kvs → xs.length = kvs.length ∧ ∀ (i : Nat) x, xs[i]? = some x → ∃ d, (kvs.map (·.1))[i]? = some d ∧ Dr K Hf (.ref x.2.1) d
  | _, _, .nil => ⟨rfl, fun i x h => by simp at h⟩
  | _, _, .cons (k := k) (p := p) (d := d) h0 h1 h2 => by
    obtain ⟨q1, q2⟩ := drt_keys h2
    refine ⟨by rw [List.length_cons, List.length_cons, q1], fun i x h => ?_⟩
    cases i with
    | zero =>
      simp only [List.getElem?_cons_zero, Option.some.injEq] at h
      subst h
      exact ⟨_, rfl, .tup h0 (dra_keyD k)⟩
    | succ i =>
      simp only [List.getElem?_cons_succ] at h
      obtain ⟨d', z1, z2⟩ := q2 i x h
      exact ⟨d', by simpa using z1, z2⟩
theorem its_dt {Hf : Hp} {a : Addr} {o : Obj} {xs : List XE} {kvs : List (D × D)} (h : Hf a = some (.ext (PinX a o))) (hd : DrT K Hf xs kvs) : Its' K (Itx a o xs) (kvs.map (·.1)) Hf := by
  obtain ⟨q1, q2⟩ := drt_keys hd
  have hl : (kvs.map (·.1)).length = xs.length := by rw [List.length_map, q1]
  refine ⟨_, _, hl ▸ walk_x (a := a) (o := o) (xs := xs), fun Hf' H e1 e2 => (e1.trans e2) _ _ h, fun i Hf' H x H' e1 e2 hi y => ?_⟩
  obtain ⟨y1, e, y2, y3⟩ := y
  subst y1; subst y3
  obtain ⟨d, z1, z2⟩ := q2 i e y2
  exact ⟨Hf', d, Gw.refl e2, z1, Same.dp e1 z2⟩
theorem its_list {Hf : Hp} {a : Addr} {vs : List V} {ds : List D} (h : Rd Hf a (.lst vs)) (hd : DrA K Hf vs ds) : Its' K (Itl K a) ds Hf :=
  ⟨_, _, dpa_len hd ▸ walk_list (xs := vs), fun Hf' H e1 e2 => .inl (rd_mono (e1.trans e2) h), fun i Hf' H x H' e1 e2 hi y => by
    obtain ⟨y1, y2⟩ := y
    subst y1
    obtain ⟨d, q1, q2⟩ := dpa_getv (Same.dpa e1 hd) y2
    exact ⟨Hf', d, Gw.refl e2, q1, q2⟩⟩
theorem its_tup {Hf : Hp} {a : Addr} {vs : List V} {ds : List D} (h : SqN K Hf a vs) (hd : DrA K Hf vs ds) : Its' K (Itt K a) ds Hf :=
  ⟨_, _, dpa_len hd ▸ walk_tup (xs := vs), fun Hf' H e1 e2 => sqt_mono (e1.trans e2) h, fun i Hf' H x H' e1 e2 hi y => by
    obtain ⟨y1, y2⟩ := y
    subst y1
    obtain ⟨d, q1, q2⟩ := dpa_getv (Same.dpa e1 hd) y2
    exact ⟨Hf', d, Gw.refl e2, q1, q2⟩⟩
theorem its_str {Hf : Hp} {z : Str} : Its' K (Its z) (charsD z) Hf := by
  have hl : (charsD z).length = z.cps.size := by simp [charsD]
  refine ⟨_, _, hl ▸ walk_str, fun Hf' H e1 e2 => trivial, fun i Hf' H x H' e1 e2 hi y => ?_⟩
  obtain ⟨y1, c, y2, y3⟩ := y
  subst y1; subst y3
  exact ⟨Hf', .str ⟨#[c]⟩, Gw.refl e2, by simp [charsD, y2], .str _⟩
def diSeq (e : DE) : DI := fun δ k => e δ fun r δ1 => datR r δ1 fun d δ2 => match itemsD d with
  | some ds => k ds δ2
  | none => False
theorem di_seq {te : TE} {e : DE} (he : DEok B K te e) : DIok B K (iSeq K te) (diSeq e) := by
  intro Hf H σ τ δ θ Kc R hs hd S h k
  refine he Hf H σ τ δ θ _ _ hs hd S h fun r δ1 v Hf1 H1 h1 hd1 e1 S1 => ?_
  obtain ⟨d, δ2, Hf2, h2, hd2, e2, q2, S2⟩ := dat_top S1 hs hd1 h1
  have ee := e1.trans e2
  cases d with
  | list ds =>
    cases q2 with
    | lst a1 a2 => exact .inl ⟨_, rfl, .inl ⟨⟨_, .inl (rd_mono S2.fh a1)⟩, k ds δ2 _ Hf2 H1 h2 hd2 ee S2 (its_list a1 a2)⟩⟩
  | tuple ds =>
    cases q2 with
    | tup a1 a2 => exact .inl ⟨_, rfl, .inr ⟨⟨_, sqt_mono S2.fh a1⟩, k ds δ2 _ Hf2 H1 h2 hd2 ee S2 (its_tup a1 a2)⟩⟩
  | str z =>
    cases q2
    exact .inr (.inl ⟨z, rfl, k (charsD z) δ2 _ Hf2 H1 h2 hd2 ee S2 its_str⟩)
  | none => exact h2.elim
  | bool _ => exact h2.elim
  | int _ => exact h2.elim
  | dict kvs =>
    unfold itemsD at h2
    split at h2
    · rename_i ds hh
      split at hh
      · rename_i e; cases e
      · rename_i e; cases e
      · rename_i e; cases e
      · rename_i r e
        cases e
        cases hh
        obtain ⟨a, o, xs, rfl, z1, z2, z3, z4⟩ := Vw.td (kvs := r) (Same.refl Hf2) (.inl q2)
        exact .inr (.inr ⟨a, o, xs, rfl, z1, S2.fh _ _ z2, z3, k _ δ2 _ Hf2 H1 h2 hd2 ee S2 (its_dt z2 z4)⟩)
      · cases hh
    · exact h2.elim
def rangeD (lo c : Int) (n : Nat) : List D := (List.range n).map fun i => .int (lo + (i : Nat) * c)
theorem its_rng {Hf : Hp} {lo : Int} {n : Nat} : Its' K (Itr lo n) (rangeD lo 1 n) Hf := by
  have hl : (rangeD lo 1 n).length = n := by simp [rangeD]
  refine ⟨_, _, by rw [hl]; exact walk_range, fun Hf' H e1 e2 => trivial, fun i Hf' H x H' e1 e2 hi y => ?_⟩
  obtain ⟨y1, y2⟩ := y
  subst y1; subst y2
  exact ⟨Hf', .int (lo + i), Gw.refl e2, by simp [rangeD, (show i < n by omega)], .int _⟩
def fitR (i : Int) : Prop := -(2 ^ 62) ≤ i ∧ i < 2 ^ 62
def diRng1 (a : DA) : DI := fun δ k => a δ fun rs δ1 => vwRs rs δ1 fun ds => match ds with
  | [.int j] => fitR j ∧ k (rangeD 0 1 j.toNat) δ1
  | _ => False
theorem di_rng1 {ta : TA} {a : DA} (ha : DAok B K ta a) : DIok B K (iRng1 ta) (diRng1 a) := by
  intro Hf H σ τ δ θ Kc R hs hd S h k
  refine ha Hf H σ τ δ θ _ _ hs hd S h fun rs δ1 vs Hf1 H1 h1 hd1 hl e1 S1 => ?_
  obtain ⟨ds, q1, q2⟩ := vwRs_ok (τ := τ) hs hd1 hl S1 h1
  have S2 := Sta.popN hs hd1 (by simp [hl]) S1
  split at q2
  · obtain ⟨v, rfl, w⟩ := one_of q1
    cases w.int
    exact ⟨_, rfl, q2.1.1, q2.1.2, k _ δ1 _ Hf1 H1 q2.2 hd1 e1 S2 its_rng⟩
  · exact q2.elim
theorem sqxL {H : Hp} {a : Addr} {xs : List V} (h : SqL K H a xs) : SqX true K H a xs := h
theorem sqxT {H : Hp} {a : Addr} {xs : List V} (h : SqT K H a xs) : SqX false K H a xs := h
theorem pair_new {Hf H : Hp} {T : Addr} {x y : V} {d f : D} {o : Obj} (e : Same Hf H) (hT : H T = none) (ho : o.dict = none) (hx : Dr K Hf x d) (hy : Dr K Hf y f) : ∃ Hf', Gw Hf H Hf' (upd H T (.frz o (.tup [x, y]))) ∧ Dr K Hf' (.ref T) (.tuple [d, f]) := by
  have g := Gw.fresh e (o := .frz o (.tup [x, y])) hT
  exact ⟨_, g, .tup (.inl ⟨o, upd_same, ho⟩) (.cons (Same.dp g.ff hx) (.cons (Same.dp g.ff hy) .nil))⟩
def enumD (ds : List D) : List D := ds.zipIdx.map fun p => .tuple [.int (p.2 : Nat), p.1]
theorem its_enum {Hf : Hp} {a : Addr} {vs : List V} {ds : List D} (h : Rd Hf a (.lst vs)) (hd : DrA K Hf vs ds) : Its' K (IteN true K a) (enumD ds) Hf := by
  have hl : (enumD ds).length = vs.length := by simp [enumD, dpa_len hd]
  refine ⟨_, _, hl.symm ▸ walk_enumN (xs := vs), fun Hf' H e1 e2 => sqxL (.inl (rd_mono (e1.trans e2) h)), fun i Hf' H x H' e1 e2 hi y => ?_⟩
  obtain ⟨T, o, y1, y2, e3, hT, ho, e4, y3, y4⟩ := y
  subst e3; subst e4
  obtain ⟨d, q1, q2⟩ := dpa_getv (Same.dpa e1 hd) y4
  cases y3
  obtain ⟨Hf2, g, q⟩ := pair_new (d := .int (i : Nat)) (f := d) e2 hT ho (.int _) q2
  exact ⟨Hf2, _, g, by simp [enumD, q1], q⟩
def intsOf : List D → Option (List Int)
  | [] => some []
  | .int i :: r => (intsOf r).map (i :: ·)
  | _ :: _ => none
def boolsOf : List D → Option (List Bool)
  | [] => some []
  | .bool i :: r => (boolsOf r).map (i :: ·)
  | _ :: _ => none
def strsOf : List D → Option (List Str)
  | [] => some []
  | .str i :: r => (strsOf r).map (i :: ·)
  | _ :: _ => none
theorem ints_ok {H : Hp} : ∀ {vs : List V} {ds : List D} {ns : List Int}, DrA K H vs ds → intsOf ds = some ns → vs = ns.map V.int
  | _, [], _, .nil, h => by cases h; rfl
  | _, d :: ds, ns, .cons a t, h => by
    cases d with
    | int i =>
      cases e : intsOf ds with
      | none => simp [intsOf, e] at h
      | some ms =>
        simp [intsOf, e] at h
        subst h
        cases a
        rw [ints_ok t e]
        rfl
    | _ => simp [intsOf] at h
theorem bools_ok {H : Hp} : ∀ {vs : List V} {ds : List D} {ns : List Bool}, DrA K H vs ds → boolsOf ds = some ns → vs = ns.map V.bl
  | _, [], _, .nil, h => by cases h; rfl
  | _, d :: ds, ns, .cons a t, h => by
    cases d with
    | bool i =>
      cases e : boolsOf ds with
      | none => simp [boolsOf, e] at h
      | some ms =>
        simp [boolsOf, e] at h
        subst h
        cases a
        rw [bools_ok t e]
        rfl
    | _ => simp [boolsOf] at h
theorem strs_ok {H : Hp} : ∀ {vs : List V} {ds : List D} {ns : List Str}, DrA K H vs ds → strsOf ds = some ns → vs = ns.map V.str
  | _, [], _, .nil, h => by cases h; rfl
  | _, d :: ds, ns, .cons a t, h => by
    cases d with
    | str i =>
      cases e : strsOf ds with
      | none => simp [strsOf, e] at h
      | some ms =>
        simp [strsOf, e] at h
        subst h
        cases a
        rw [strs_ok t e]
        rfl
    | _ => simp [strsOf] at h
theorem strsOf_map (ns : List Str) : strsOf (ns.map PyData.str) = some ns := by
  induction ns with
  | nil => rfl
  | cons a t ih => simp [strsOf, ih]
def gAll : List D → (Re → Prop) → Prop
  | [.list ds], k => match boolsOf ds with
    | some ns => k (.dat (.bool (ns.all id)))
    | none => False
  | _, _ => False
theorem cbd_all : CbD K (rAll K) gAll := by
  intro Hf H vs xs Kc Q e hv g q
  unfold gAll at g
  split at g
  · split at g
    · rename_i ns hns
      obtain ⟨v, rfl, hw⟩ := one_of hv
      obtain ⟨a, ws, rfl, h1, h2⟩ := hw.list e
      exact ⟨a, ns, rfl, .inl (bools_ok h2 hns ▸ h1), scalar g e (fun _ => .bl _) q⟩
    · exact g.elim
  · exact g.elim
def rMax2 : List V → Hp → VK → Prop := fun xs H Q => ∃ i j, xs = [.int i, .int j] ∧ Q (.int (if j > i then j else i)) H
def rMin2 : List V → Hp → VK → Prop := fun xs H Q => ∃ i j, xs = [.int i, .int j] ∧ Q (.int (if j < i then j else i)) H
def rMaxX (K : PySem.W.Frag) : List V → Hp → VK → Prop := fun xs H Q => rMax2 xs H Q ∨ rMax K xs H Q
def rMinX (K : PySem.W.Frag) : List V → Hp → VK → Prop := fun xs H Q => rMin2 xs H Q ∨ rMin K xs H Q
theorem call_maxX (hc : X.calm = true) : CallR X (.builtin "max") (rMaxX X.K) := call_or (call_max2 hc) (cr_max hc)
theorem call_minX (hc : X.calm = true) : CallR X (.builtin "min") (rMinX X.K) := call_or (call_min2 hc) (cr_min hc)
def gMax : List D → (Re → Prop) → Prop
  | [.int i, .int j], k => k (.dat (.int (max i j)))
  | [.list ds], k => match intsOf ds with
    | some ns => ns ≠ [] ∧ ∀ m, m ∈ ns → (∀ y, y ∈ ns → y ≤ m) → k (.dat (.int m))
    | none => False
  | _, _ => False
def gMin : List D → (Re → Prop) → Prop
  | [.int i, .int j], k => k (.dat (.int (min i j)))
  | [.list ds], k => match intsOf ds with
    | some ns => ns ≠ [] ∧ ∀ m, m ∈ ns → (∀ y, y ∈ ns → m ≤ y) → k (.dat (.int m))
    | none => False
  | _, _ => False
theorem cbd_max : CbD K (rMaxX K) gMax := by
  intro Hf H vs xs Kc Q e hv g q
  unfold gMax at g
  split at g
  · obtain ⟨v, w, rfl, h1, h2⟩ := two_of hv
    cases h1.int; cases h2.int
    refine .inl ⟨_, _, rfl, ?_⟩
    rename_i i j
    have e0 : (if j > i then j else i) = max i j := by split <;> omega
    rw [e0]
    exact scalar g e (fun _ => .int _) q
  · split at g
    · rename_i ns hns
      obtain ⟨v, rfl, hw⟩ := one_of hv
      obtain ⟨a, ws, rfl, h1, h2⟩ := hw.list e
      exact .inr ⟨a, ns, rfl, .inl (ints_ok h2 hns ▸ h1), List.length_pos_iff.mpr g.1, fun m m1 m2 => scalar (g.2 m m1 m2) e (fun _ => .int _) q⟩
    · exact g.elim
  · exact g.elim
theorem cbd_min : CbD K (rMinX K) gMin := by
  intro Hf H vs xs Kc Q e hv g q
  unfold gMin at g
  split at g
  · obtain ⟨v, w, rfl, h1, h2⟩ := two_of hv
    cases h1.int; cases h2.int
    refine .inl ⟨_, _, rfl, ?_⟩
    rename_i i j
    have e0 : (if j < i then j else i) = min i j := by split <;> omega
    rw [e0]
    exact scalar g e (fun _ => .int _) q
  · split at g
    · rename_i ns hns
      obtain ⟨v, rfl, hw⟩ := one_of hv
      obtain ⟨a, ws, rfl, h1, h2⟩ := hw.list e
      exact .inr ⟨a, ns, rfl, .inl (ints_ok h2 hns ▸ h1), List.length_pos_iff.mpr g.1, fun m m1 m2 => scalar (g.2 m m1 m2) e (fun _ => .int _) q⟩
    · exact g.elim
  · exact g.elim
def rTupX (K : PySem.W.Frag) : List V → Hp → VK → Prop := fun xs H Q => ∃ p ys, xs = [.ref p] ∧ ((SqL K H p ys ∧ ∀ l o, H l = none → o.dict = none → Q (.ref l) (upd H l (.frz o (.tup ys)))) ∨ (SqT K H p ys ∧ Q (.ref p) H))
theorem call_tupX : CallR X (.type "tuple") (rTupX X.K) := call_tupN
def gTupl : List D → (Re → Prop) → Prop
  | [.list ds], k => k (.dat (.tuple ds))
  | [.tuple ds], k => k (.dat (.tuple ds))
  | _, _ => False
theorem cbd_tup : CbD K (rTupX K) gTupl := by
  intro Hf H vs xs Kc Q e hv g q
  unfold gTupl at g
  split at g
  · obtain ⟨v, rfl, hw⟩ := one_of hv
    obtain ⟨a, ws, rfl, h1, h2⟩ := hw.list e
    exact ⟨a, ws, rfl, .inl ⟨.inl h1, fun p o hp ho => newT g e hp ho h2 q⟩⟩
  · obtain ⟨v, rfl, hw⟩ := one_of hv
    obtain ⟨a, ws, rfl, h1, h2, h3⟩ := hw.tuple e
    exact ⟨a, ws, rfl, .inr ⟨h1, q _ _ Hf H g (Gw.refl e) h3⟩⟩
  · exact g.elim
end Pd
set_option Elab.async false
set_option linter.all false
set_option maxRecDepth 100000
set_option maxHeartbeats 2000000
namespace Pd
open PySem PySem.Spec PyProof.Rows L2
variable {K : PySem.W.Frag} [HasW K] {B : Bs} {X : Cx}
def MstD (K : PySem.W.Frag) [HasW K] (r : V → List V → Hp → VK → Prop) (g : Str → List D → (Re → Prop) → Prop) : Prop :=
  ∀ (Hf H : Hp) (z : Str) (vs : List V) (xs : List D) (Kc : Re → Prop) (Q : VK), Same Hf H → Paired (Vw K Hf H) vs xs → g z xs Kc → (∀ res u Hf' H', Kc res → Gw Hf H Hf' H' → RR K H Hf' H' res u → Q u H') → r (.str z) vs H Q
def strR (r : Re) (δ : En) (k : Str → Prop) : Prop := vwR r δ fun d => match d with
  | .str z => k z
  | _ => False
def dM1 (g : Str → List D → (Re → Prop) → Prop) (a b : DE) : DE := fun δ k => a δ fun r δ1 => strR r δ1 fun z => b δ1 fun r2 δ2 => vwR r2 δ2 fun y => g z [y] fun res => k res δ2
theorem str_top {Hf H : Hp} {σ τ : L2.St} {δ θ : En} {v : V} {r : Re} {k : Str → Prop} (hs : σ.length = B.n) (hd : δ.length = B.n) (S : Sta B K Hf H (σ ++ (τ ++ [some v])) (δ ++ (θ ++ [r.sl]))) (h : strR r δ k) : ∃ z, v = .str z ∧ k z := by
  have hlt := (S.pop1 hs hd).lenT hs hd
  obtain ⟨d, q1, q2⟩ := vwR_ok (v := v) (i := B.n + τ.length) S hd (top_get (by omega)) (top_get (by omega)) h
  cases d with
  | str b => exact ⟨b, q1.str, q2⟩
  | _ => exact q2.elim
theorem de_m1 {r : V → List V → Hp → VK → Prop} {g : Str → List D → (Re → Prop) → Prop} {ta tb : TE} {a b : DE} (hr : MstD K r g) (ha : DEok B K ta a) (hb : DEok B K tb b) : DEok B K (tM1 r ta tb) (dM1 g a b) := by
  intro Hf H σ τ δ θ Kc Q hs hd S h k
  refine ha Hf H σ τ δ θ _ _ hs hd S h fun r1 δ1 v1 Hf1 H1 h1 hd1 e1 S1 => ?_
  obtain ⟨z, rfl, h2⟩ := str_top hs hd1 S1 h1
  refine ⟨⟨z, rfl⟩, ?_⟩
  have S1' := S1.pop1 hs hd1
  refine hb Hf1 H1 σ τ δ1 θ _ _ hs hd1 S1' h2 fun r2 δ2 v2 Hf2 H2 h3 hd2 e2 S2 => ?_
  have hlt := (S2.pop1 hs hd2).lenT hs hd2
  obtain ⟨y, y1, y2⟩ := vwR_ok (v := v2) (i := B.n + τ.length) S2 hd2 (top_get (by omega)) (top_get (by omega)) h3
  refine hr Hf2 H2 z [v2] [y] _ _ S2.fh (.cons y1 .nil) y2 fun res u Hf3 H3 q g q2 => ?_
  exact k res δ2 u Hf3 H3 q hd2 ((e1.trans e2).trans g.ff) ((S2.pop1 hs hd2).res g q2)
abbrev rSplit : V → List V → Hp → VK → Prop := fun x xs H Q => ∃ a b, x = .str a ∧ xs = [.str b] ∧ (b.length == 0) = false ∧ a.length + 2 ≤ sizeLine ∧ rNewStrs (Txt.split a b) H Q
def gSplit : Str → List D → (Re → Prop) → Prop
  | a, [.str b], k => b.length ≠ 0 ∧ a.length ≤ 1000000 ∧ k (.new (.lst ((Txt.split a b).map PyData.str)))
  | _, _, _ => False
theorem ms_split : MstD K rSplit gSplit := by
  intro Hf H z vs xs Kc Q e hv g q
  unfold gSplit at g
  split at g
  · obtain ⟨v, rfl, hw⟩ := one_of hv
    cases hw.str
    exact ⟨_, _, rfl, rfl, by simpa using g.1, Nat.le_trans (Nat.add_le_add_right g.2.1 2) (by decide), fun p hp => newL g.2.2 e hp (dpa_strs _) q⟩
  · exact g.elim
abbrev rJoin (K : PySem.W.Frag) : V → List V → Hp → VK → Prop := fun x xs H Q => ∃ a p, ∃ ys : List Str, x = .str a ∧ xs = [.ref p] ∧ (SqL K H p (ys.map V.str) ∨ SqT K H p (ys.map V.str)) ∧
      (ys.map (·.length)).sum + ys.length * a.length ≤ 16777216 ∧ Q (.str (Txt.join a ys)) H
def joinG (a : Str) (ds : List D) (k : (Re → Prop)) : Prop := match strsOf ds with
  | some ys => (ys.map (·.length)).sum + ys.length * a.length ≤ 16777216 ∧ k (.dat (.str (Txt.join a ys)))
  | none => False
def gJoin : Str → List D → (Re → Prop) → Prop
  | a, [.list ds], k => joinG a ds k
  | a, [.tuple ds], k => joinG a ds k
  | _, _, _ => False
theorem ms_join : MstD K (rJoin K) gJoin := by
  intro Hf H z vs xs Kc Q e hv g q
  unfold gJoin at g
  split at g
  · obtain ⟨v, rfl, hw⟩ := one_of hv
    obtain ⟨a, ws, rfl, h1, h2⟩ := hw.list e
    unfold joinG at g
    split at g
    · rename_i ys hys
      exact ⟨z, a, ys, rfl, rfl, .inl (.inl (strs_ok h2 hys ▸ h1)), g.1, scalar g.2 e (fun _ => .str _) q⟩
    · exact g.elim
  · obtain ⟨v, rfl, hw⟩ := one_of hv
    obtain ⟨a, ws, rfl, h1, h2, _⟩ := hw.tuple e
    unfold joinG at g
    split at g
    · rename_i ys hys
      exact ⟨z, a, ys, rfl, rfl, .inr (strs_ok h2 hys ▸ h1), g.1, scalar g.2 e (fun _ => .str _) q⟩
    · exact g.elim
  · exact g.elim
def rRepR : R2 := fun x y H Q => ∃ l k xs, x = .ref l ∧ y = .int k ∧ Rd H l (.lst xs) ∧ -(2 ^ 63) ≤ k ∧ k < 2 ^ 63 ∧ xs.length * k.toNat ≤ sizeLine ∧
  ∀ p, H p = none → Q (.ref p) (upd H p (.lst (List.replicate k.toNat xs).flatten))
theorem op_repR : OpR X (binaryOp .Mult) rRepR := by
  intro pins s σ H x y v u Q I rx ry ⟨l, k, xs, ex, ey, hA, b1, b2, hz, q⟩
  subst ex ey
  cases rx
  obtain ⟨t, rfl⟩ := ry
  obtain ⟨z, its, n, r, e⟩ := hA.ok I.hok
  have len : its.toArray.size * k.toNat ≤ sizeLine := by rw [List.size_toArray, ← r.length]; exact hz
  have cap : ¬ (2 ^ 63 - 1) / 8 < its.toArray.size * k.toNat := by
    have big : (sizeLine : Nat) ≤ (2 ^ 63 - 1) / 8 := by decide
    omega
  have fit : ¬ (!Builtin.List.listFitsIndex k) = true := by simp [fitsIndex_both b1 b2]
  have few : ¬ Builtin.List.listTooLong (its.toArray.size * k.toNat) = true := by rw [notLongL len]; exact Bool.false_ne_true
  have flat : ∀ m : Nat, List.foldl (fun a b => a ++ b) #[] (List.replicate m its.toArray) = (List.replicate m its).flatten.toArray := fun m => by simpa using foldl_rep its m []
  have new : List.foldl (fun a b => a ++ b) #[] (List.replicate (if its.toArray.isEmpty = true then 0 else k.toNat) its.toArray) = (List.replicate k.toNat its).flatten.toArray := by
    rw [flat]
    cases its <;> simp
  refine wpAny_binaryOp_repeat_ref (T := "list") (U := "int") (by decide) ⟨_, e, rfl⟩ (fun s' => typeIs_int s' k t) noFill_list_mul F.fills_int_mul F.slot_int_rmul repeat_list F.slot_int_index.lookup
    (call_meets F.slot_int_rmul (typeIs_int s k t) F.entry_int_rmul (F.args_int_rmul_2 _ _) (int___rmul___int_list k t l its.toArray n) ⟨e, rfl, ⟨_, e, rfl⟩, ?_⟩)
  refine call_meets F.slot_list_mul ⟨_, e, rfl⟩ F.entry_list_mul (F.args_list_mul_2 _ _) (AutoListH.list___mul___list_int_3 l its.toArray n k t fit cap few) ⟨e, ?_⟩
  rw [new]
  exact ⟨.ref _, _, I.lnew (t' := s.toks) (r.rep k.toNat) (by rw [PyProof.Rows.lm_len_rep_flat, Nat.mul_comm]; exact hz), rfl, q _ I.fresh⟩
def repS (x : Str) (n : Nat) : Str := ⟨(List.replicate n x.cps).foldl (· ++ ·) #[]⟩
def rRepS : R2 := fun x y H Q => ∃ a k, x = .str a ∧ y = .int k ∧ 0 ≤ k ∧ k ≤ 1000000 ∧ a.length * k.toNat ≤ 1000000 ∧ Q (.str (repS a k.toNat)) H
theorem repS_empty {x : Str} (h : x.length = 0) : ∀ n, repS x n = x := fun n => by
  obtain ⟨c⟩ := x
  have hc : c = #[] := by simpa [Str.length] using h
  subst hc
  unfold repS
  congr 1
  have go : ∀ (m : Nat) (acc : Array Nat), (List.replicate m (#[] : Array Nat)).foldl (· ++ ·) acc = acc := by
    intro m
    induction m with
    | zero => intro acc; rfl
    | succ m ih => intro acc; rw [List.replicate_succ, List.foldl_cons, ih]; simp
  exact go n #[]
theorem repS_one (x : Str) : repS x 1 = x := by
  obtain ⟨c⟩ := x
  simp [repS]
theorem op_repS : OpR X (binaryOp .Mult) rRepS := by
  intro pins s σ H x y v u Q I rx ry ⟨a, k, ex, ey, h0, h1, h2, q⟩
  subst ex ey
  obtain ⟨t, rfl⟩ := rx
  obtain ⟨t2, rfl⟩ := ry
  have few : PySem.Builtin.Str.tooLong (a.length * k.toNat) = false := by
    unfold PySem.Builtin.Str.tooLong
    exact decide_eq_false (by have := of_sz h2; omega)
  refine PySem.P.mul_str (by
    have a1 : ¬ k < -(2 ^ 63) := by omega
    have a2 : ¬ k ≥ 2 ^ 63 := by omega
    simp only [decide_eq_false a1, decide_eq_false a2]; rfl) (fun g1 g2 => ?_) (fun g1 g2 => few) ?_
  · have g3 : (a.length : Int) ≤ 1000000 := by
      have : a.length * 1 ≤ a.length * k.toNat := Nat.mul_le_mul_left _ (by omega)
      omega
    have g4 : (1000000 : Int) ≤ (2 ^ 63 - 1) / k := by
      rw [Int.le_ediv_iff_mul_le (by omega)]
      omega
    omega
  · by_cases c1 : k < 1
    · rw [if_pos c1]
      have e : k.toNat = 0 := by omega
      rw [e] at q
      exact ⟨Nat.zero_le _, .str Str.empty, H, I.tok _, ⟨_, rfl⟩, q⟩
    · rw [if_neg c1]
      by_cases c2 : (k == 1 || a.length == 0) = true
      · rw [if_pos c2]
        have e : repS a k.toNat = a := by
          rcases (by simpa using c2 : k = 1 ∨ a.length = 0) with z | z
          · subst z; exact repS_one a
          · exact repS_empty z _
        rw [e] at q
        exact ⟨.str a, H, I, ⟨_, rfl⟩, q⟩
      · rw [if_neg c2]
        exact ⟨fits_reps few, .str (repS a k.toNat), H, I.tok _, ⟨_, rfl⟩, q⟩
def rMulZ (K : PySem.W.Frag) : R2 := fun x y H Q => rMulX x y H Q ∨ rRepR x y H Q ∨ rRepS x y H Q ∨ rI CMulW (fun i j => .int (i * j)) x y H Q ∨ rRepN K x y H Q
theorem op_mulZ : OpR X (binaryOp .Mult) (rMulZ X.K) := OpR.or op_mul (OpR.or op_repR (OpR.or op_repS (OpR.or op_mulW op_repN)))
def mulOk (i j : Int) : Prop := ((-(2 ^ 64) < i ∧ i < 2 ^ 64) ∨ (-(2 ^ 64) < j ∧ j < 2 ^ 64)) ∨ (i.natAbs < 2 ^ 1000 ∧ j.natAbs < 2 ^ 1000)
def gMulZ : D → D → (Re → Prop) → Prop
  | .int i, .int j, k => mulOk i j ∧ k (.dat (.int (i * j)))
  | .list xs, .int j, k => (-(2 ^ 63) ≤ j ∧ j < 2 ^ 63) ∧ xs.length * j.toNat ≤ 1000000 ∧ k (.new (.lst (List.replicate j.toNat xs).flatten))
  | .str a, .int j, k => (0 ≤ j ∧ j ≤ 1000000) ∧ a.length * j.toNat ≤ 1000000 ∧ k (.dat (.str (repS a j.toNat)))
  | .tuple xs, .int j, k => (0 ≤ j ∧ j ≤ 8000) ∧ xs.length ≤ 1000 ∧ k (.dat (.tuple (List.replicate j.toNat xs).flatten))
  | _, _, _ => False
theorem rep_nil {α : Type} : ∀ n : Nat, (List.replicate n ([] : List α)).flatten = []
  | 0 => rfl
  | n + 1 => by rw [List.replicate_succ, List.flatten_cons, rep_nil n]; rfl
theorem dpa_rep {H : Hp} {vs : List V} {ds : List D} (h : DrA K H vs ds) : ∀ n, DrA K H (List.replicate n vs).flatten (List.replicate n ds).flatten
  | 0 => .nil
  | n + 1 => by
    rw [List.replicate_succ, List.replicate_succ, List.flatten_cons, List.flatten_cons]
    exact dpa_append h (dpa_rep h n)
theorem opd_mulZ : OpD K (rMulZ K) gMulZ := by
  intro Hf H v w x y Kc Q e hv hw g q
  unfold gMulZ at g
  split at g
  · cases hv.int; cases hw.int
    rcases g.1 with g1 | g1
    · exact .inl ⟨_, _, rfl, rfl, g1, scalar g.2 e (fun _ => .int _) q⟩
    · exact .inr (.inr (.inr (.inl ⟨_, _, rfl, rfl, wide_mul g1.1 g1.2 (by decide) (by decide) (by decide), scalar g.2 e (fun _ => .int _) q⟩)))
  · obtain ⟨a, vs, rfl, h1, h2⟩ := hv.list e
    cases hw.int
    exact .inr (.inl ⟨a, _, vs, rfl, rfl, h1, g.1.1, g.1.2, by rw [dpa_len h2]; exact of_sz g.2.1, fun p hp => newL g.2.2 e hp (dpa_rep h2 _) q⟩)
  · cases hv.str; cases hw.int
    exact .inr (.inr (.inl ⟨_, _, rfl, rfl, g.1.1, g.1.2, g.2.1, scalar g.2.2 e (fun _ => .str _) q⟩))
  · rename_i xs j
    obtain ⟨a, vs, rfl, h1, h2, h3⟩ := hv.tuple e
    cases hw.int
    refine .inr (.inr (.inr (.inr ⟨a, _, vs, rfl, rfl, h1, g.1.1, g.1.2, by rw [dpa_len h2]; exact g.2.1, fun z => ?_, fun _ _ p o hp ho => newT g.2.2 e hp ho (dpa_rep h2 _) q⟩)))
    have eq : (List.replicate j.toNat xs).flatten = xs := by
      rcases z with z | z
      · subst z
        cases h2
        exact rep_nil _
      · subst z
        show (List.replicate 1 xs).flatten = xs
        simp
    refine q _ _ Hf H g.2.2 (Gw.refl e) ?_
    show Dr K Hf (.ref a) (.tuple _)
    rw [eq]
    exact h3
  · exact g.elim
end Pd
set_option Elab.async false
set_option linter.all false
set_option maxRecDepth 100000
set_option maxHeartbeats 2000000
namespace Pd
open PySem PySem.Spec PyProof.Rows L2
variable {K : PySem.W.Frag} [HasW K] {B : Bs} {X : Cx}
structure GK (P : Program) (w : World) (K : PySem.W.Frag) (mg : Str → Option Value) (base : Heap) (k : Nat) (x : Str) (ps : List Str) (sp : Sp) : Prop where
  ex : ∃ f fd, FnG P w K mg base CX0 k f fd ps sp ∧ mg x = some (.ref f) ∧ PySem.W.keepIn K (.ref f) = true ∧ Binds K fd ps []
section
variable {P : Program} {w : World} {mg : Str → Option Value} {base : Heap} {j k : Nat} {x : Str} {ps : List Str} {sp : Sp}
theorem GK.mono (G : GK P w K mg base j x ps sp) (h : j ≤ k) : GK P w K mg base k x ps sp := by
  obtain ⟨f, fd, a, b, c, d⟩ := G.ex
  exact ⟨f, fd, a.mono h, b, c, d⟩
end
theorem pe_callK {k : Nat} {x : Str} {ps : List Str} {sp : Sp} {e : Expr} {es : List Expr} {p pos : Pos} {t : TA} (G : GK X.prog X.w X.K X.mg X.base k x ps sp) (hgd : X.A.guards = some []) (hr : Room k X.A) (hg : Gl X x) (ha : PA X (e :: es) t)
    (hdb : (x == ("__debug__" : Str)) = false := by decide) (he : starEach (e :: es) X.env = (false, eval e X.env) :: starEach es X.env := by rfl) (hpl : (backTo pos (starEach es X.env)).any (·.1) = false := by rfl) :
    PE X (.Call (.Name x p) (e :: es) [] pos) (tCall sp [] E0 t) := by
  obtain ⟨f, fd, a, b, c, d⟩ := G.ex
  exact pe_callG a hgd hr hg b c d (fun _ _ _ _ _ _ _ h => h.elim) ha hdb he hpl
theorem pe_callK0 {k : Nat} {x : Str} {ps : List Str} {sp : Sp} {p pos : Pos} (G : GK X.prog X.w X.K X.mg X.base k x ps sp) (hgd : X.A.guards = some []) (hr : Room k X.A) (hg : Gl X x)
    (hdb : (x == ("__debug__" : Str)) = false := by decide) : PE X (.Call (.Name x p) [] [] pos) (tCall sp [] E0 tNil) := by
  obtain ⟨f, fd, a, b, c, d⟩ := G.ex
  exact pe_call0G a hgd hr hg b c d (fun _ _ _ _ _ _ _ h => h.elim) hdb
theorem de_callK {fs : FS} {ms : List Bool} {ta : TA} {da : DA} (ha : DAok B K ta da) : DEok B K (tCall (spD K fs) [] E0 ta) (dCall fs ms da NoX) := de_call xok_no ha
theorem hu1 {k : Nat} {A : Around} (h : Room k A) : A.units + 1 < cLine := by
  have := h.un
  omega
theorem hu64 {k : Nat} {A : Around} (h : Room k A) : A.units + 64 < cLine := by
  have := h.un
  omega
theorem hu65 {k : Nat} {A : Around} (h : Room k A) : A.units + 65 < cLine := by
  have := h.un
  omega
abbrev FnP (K : PySem.W.Frag) (x : Str) (st : Stmt) (f : Addr) (fd : FuncData) : Prop := FunD K x x (defArgs st) (defBody st) (defScope st) [] [] f fd
theorem fun_of {x : Str} {st : Stmt} {f : Addr} {fd : FuncData} (F : FnP K x st f fd) : Fun K x x st f fd := by
  obtain ⟨⟨oc, od, dV, kV, doc, pm, an, cdv, ct, osl, e, lk, hcd, hD, hK⟩, kp⟩ := F
  rcases hD with ⟨_, rfl⟩ | ⟨z, _⟩
  · exact ⟨⟨oc, od, kV, doc, pm, an, cdv, ct, osl, e, lk, hcd⟩, kp⟩
  · exact absurd rfl z
abbrev fin (as : List Ag) (P : Re → List MO → Prop) : DEnds := { nx := fun δ => iosR as δ fun os => P (.dat .none) os, rt := fun r δ => retR r δ fun r' => iosR as δ fun os => P r' os }
section
variable {P : Program} {w : World} {mg : Str → Option Value} {base : Heap} {k : Nat} {x : Str} {ps N : List Str} {st : Stmt} {f : Addr} {fd : FuncData} {fs : FS} {dt : DT}
theorem fng_of (F : FnP K x st f fd) (S : FnScope N ps (defScope st)) (hn : ps.length ≤ N.length)
    (walk : ∀ (cdv : Value) (A : Around) (outer : List Env) (s : Shared) (H : Hp) (E : XK), A.guards = some [] → Room k (A.deeper (envOfC x (defScope st) s.heap.objs.size f cdv)) →
      ∃ ts, PSs (cxOf CX0 P w K mg base N x (defScope st) f cdv A outer s H E).nox (defBody st) ts ∧ ∀ Bx : Bs, Bx.n = N.length → DSok Bx K ts dt)
    (law : ∀ as P X, fs as P X → as.length = ps.length ∧ dt (fin as P) (begin_ as N.length)) : FnG P w K mg base CX0 (k + 1) f fd ps (spD K fs) := by
  refine fun_okG (fun_of F) S (spD_len fun as P X h => (law as P X h).1) fun cdv A outer s H vs Q E hg hr h => ?_
  obtain ⟨ts, w1, w2⟩ := walk cdv A outer s H E hg hr
  exact ⟨ts, PSs.nox w1, body_ok (n := ps.length) (dt := dt) (fun as P X h => (law as P X h).1) hn h fun Bx EX hB hE => ⟨dt, w2 Bx hB, fun as P X q _ => (law as P X q).2⟩⟩
theorem gk_of (F : FnP K x st f fd) (hm : mg x = some (.ref f)) (S : FnScope N ps (defScope st)) (hn : ps.length ≤ N.length)
    (hb : ∀ (kV doc pm : Value) (an : Option Addr) (cdv ct : Value) (us : List Value), us.length = ps.length → bindArgs (PySem.W.fnOf x x (defArgs st) (defBody st) (defScope st) .none kV doc pm an cdv ct) ⟨us, []⟩ = pure (ps.zip us))
    (walk : ∀ (cdv : Value) (A : Around) (outer : List Env) (s : Shared) (H : Hp) (E : XK), A.guards = some [] → Room k (A.deeper (envOfC x (defScope st) s.heap.objs.size f cdv)) →
      ∃ ts, PSs (cxOf CX0 P w K mg base N x (defScope st) f cdv A outer s H E).nox (defBody st) ts ∧ ∀ Bx : Bs, Bx.n = N.length → DSok Bx K ts dt)
    (law : ∀ as P X, fs as P X → as.length = ps.length ∧ dt (fin as P) (begin_ as N.length)) : GK P w K mg base (k + 1) x ps (spD K fs) :=
  ⟨f, fd, fng_of F S hn walk law, hm, F.kp, F.bindsN hb⟩
end
def GD (mg : Str → Option Value) (K : PySem.W.Frag) [HasW K] (x : Str) (d : D) : Prop := ∃ u v, mg x = some u ∧ RelV v u ∧ ∀ H : Hp, Dr K H v d
mutual
def datB (K : PySem.W.Frag) : D → Value → Bool
  | .none, .none => true
  | .bool b, .bool c => b == c
  | .int i, .int j _ => decide (i = j)
  | .str x, .str y _ => decide (x = y)
  | .tuple ds, .ref a => (match K.lookup a with
    | some ⟨.type c, none, .seq its _, _⟩ => decide (c = "tuple") && (decide (its.size ≤ sizeLine) && datsB K ds its.toList)
    | _ => false)
  | _, _ => false
def datsB (K : PySem.W.Frag) : List D → List Value → Bool
  | [], [] => true
  | d :: ds, u :: us => datB K d u && datsB K ds us
  | _, _ => false
end
mutual
theorem datB_ok : ∀ (d : D) (u : Value), datB K d u = true → ∃ v, RelV v u ∧ ∀ H : Hp, Dr K H v d
  | .none, u, h => by
    cases u <;> first | exact ⟨.non, rfl, fun _ => .non⟩ | (simp [datB] at h)
  | .bool b, u, h => by
    cases u with
    | bool c =>
      have e : b = c := by simpa [datB] using h
      subst e
      exact ⟨.bl b, rfl, fun _ => .bl b⟩
    | _ => simp [datB] at h
  | .int i, u, h => by
    cases u with
    | int j t =>
      have e : i = j := by simpa [datB] using h
      subst e
      exact ⟨.int i, ⟨t, rfl⟩, fun _ => .int i⟩
    | _ => simp [datB] at h
  | .str x, u, h => by
    cases u with
    | str y t =>
      have e : x = y := by simpa [datB] using h
      subst e
      exact ⟨.str x, ⟨t, rfl⟩, fun _ => .str x⟩
    | _ => simp [datB] at h
  | .tuple ds, u, h => by
    cases u with
    | ref a =>
      unfold datB at h
      split at h
      · rename_i c its n x4 hl
        simp only [Bool.and_eq_true, decide_eq_true_eq] at h
        obtain ⟨h1, h2, h3⟩ := h
        obtain ⟨vs, q1, q2⟩ := datsB_ok ds its.toList h3
        exact ⟨.ref a, rfl, fun H => .tup (.inr ⟨_, its, n, hl, congrArg Value.type h1, rfl, rfl, h2, q1⟩) (q2 H)⟩
      · cases h
    | _ => simp [datB] at h
  | .list ds, u, h => by simp [datB] at h
  | .dict ds, u, h => by simp [datB] at h
theorem datsB_ok : ∀ (ds : List D) (us : List Value), datsB K ds us = true → ∃ vs, Vals vs us ∧ ∀ H : Hp, DrA K H vs ds
  | [], [], _ => ⟨[], .nil, fun _ => .nil⟩
  | d :: ds, u :: us, h => by
    simp only [datsB, Bool.and_eq_true] at h
    obtain ⟨v, q1, q2⟩ := datB_ok d u h.1
    obtain ⟨vs, q3, q4⟩ := datsB_ok ds us h.2
    exact ⟨v :: vs, .cons q1 q3, fun H => .cons (q2 H) (q4 H)⟩
  | [], _ :: _, h => by simp [datsB] at h
  | _ :: _, [], h => by simp [datsB] at h
end
def gdB (K : PySem.W.Frag) (p : Str × D) : Bool := match PySem.W.nsIn K mainGlobals p.1 with
  | some (some u) => datB K p.2 u
  | _ => false
theorem gdB_ok {h : Heap} {mg : Str → Option Value} (KX : K.In h) (G : h.Ns mainGlobals mg) {p : Str × D} (c : gdB K p = true) : GD mg K p.1 p.2 := by
  unfold gdB at c
  split at c
  · rename_i u hu
    obtain ⟨v, q1, q2⟩ := datB_ok _ _ c
    exact ⟨u, v, PySem.W.mg_of KX G hu, q1, q2⟩
  · cases c
def obsP (fa : List He.Fa) (gd : List (Str × D)) (fn : List He.DefD) (K : PySem.W.Frag) : He.AlD := ((He.obsD fa fn K).1 && gd.all (gdB K), (He.obsD fa fn K).2)
def SaysP (fa : List He.Fa) (gd : List (Str × D)) (fn : List He.DefD) (K : PySem.W.Frag) : Prop := obsP fa gd fn K = He.valD fn
theorem SaysP.says {fa : List He.Fa} {gd : List (Str × D)} {fn : List He.DefD} (c : SaysP fa gd fn K) : He.SaysD fa fn K := by
  unfold SaysP obsP at c
  have c1 : ((He.obsD fa fn K).1 && gd.all (gdB K)) = true := congrArg (fun z : He.AlD => z.1) c
  have c2 : ((He.obsD fa fn K).1 && gd.all (gdB K), (He.obsD fa fn K).2).2 = (He.valD fn).2 := congrArg Prod.snd c
  exact Prod.ext (Bool.and_eq_true_iff.mp c1).1 c2
theorem SaysP.gd {fa : List He.Fa} {gd : List (Str × D)} {fn : List He.DefD} (c : SaysP fa gd fn K) (i : Nat) {p : Str × D} (h : gd[i]? = some p := by rfl) : gdB K p = true := by
  have c1 : ((He.obsD fa fn K).1 && gd.all (gdB K)) = true := congrArg (fun z : He.AlD => z.1) c
  exact List.all_eq_true.mp (Bool.and_eq_true_iff.mp c1).2 p (List.mem_of_getElem? h)
end Pd
set_option Elab.async false
set_option linter.all false
set_option maxRecDepth 100000
set_option maxHeartbeats 2000000
namespace Pd
open PySem PySem.Spec PyProof.Rows L2
def kof (e : Int × Value) : Key := match e.2 with
  | .int i _ => .inl i
  | .str x _ => .inr x
  | _ => .inl 0
section
variable {P : Program} {w : World}
end
structure Inn (P : Program) (w : World) (S : Key → Bool) (es : Array (Int × Value)) (t : SetTable) : Prop where
  el : ElemsOf (mixKind P w) es.toList
  one : (es.toList.map kof).Nodup
  mem : ∀ k : Key, S k = true ↔ k ∈ es.toList.map kof
  few : es.size < scanBound
  fit : t.fits es.size = true
  ris : Ris t.place.toList
  led : w.params.followText "set-order" = true ∨ t.led = true
def Box (P : Program) (w : World) (h : Heap) (a : Addr) (S : Key → Bool) (n : Nat) : Prop :=
  ∃ (o : Obj) (es : Array (Int × Value)) (ep : Nat) (t : SetTable), h.get? a = some o ∧ o.ExactSet ∧ o.data = .set es ep t ∧ Inn P w S es t ∧ es.size = n
section
variable {P : Program} {w : World} {A : Around} {E : Value → Shared → Prop} {s : Shared} {a : Addr} {S : Key → Bool} {n : Nat}
theorem Box.keep {h h' : Heap} (B : Box P w h a S n) (k : ∀ o, h.get? a = some o → h'.get? a = some o) : Box P w h' a S n := by
  obtain ⟨o, es, ep, t, b, r⟩ := B
  exact ⟨o, es, ep, t, k o b, r⟩
theorem Box.same {h : Heap} {S' : Key → Bool} (B : Box P w h a S n) (e : ∀ k, S' k = S k) : Box P w h a S' n := by
  rw [show S' = S from funext e]; exact B
end
section
variable {P : Program} {w : World} {A : Around} {E : Value → Shared → Prop} {s : Shared}
end
end Pd
set_option Elab.async false
set_option linter.all false
set_option maxRecDepth 100000
set_option maxHeartbeats 2000000
namespace Pd
open PySem PySem.Spec PyProof.Rows L2
def ltS (a b : Str) : Prop := a.cps.toList < b.cps.toList
def leS (a b : Str) : Bool := decide (a.cps.toList ≤ b.cps.toList)
theorem str_ext {a b : Str} (h : a.cps.toList = b.cps.toList) : a = b := by
  cases a; cases b; simp at h; simp [h]
theorem ltS_irr (a : Str) : ¬ ltS a a := List.lt_irrefl _
theorem ltS_tr {a b c : Str} (h : ltS a b) (g : ltS b c) : ltS a c := List.lt_trans h g
theorem leS_iff {a b : Str} : leS a b = true ↔ ltS a b ∨ a = b := by
  unfold leS ltS
  rw [decide_eq_true_eq, List.le_iff_lt_or_eq]
  exact ⟨fun h => h.imp id str_ext, fun h => h.imp id fun e => by rw [e]⟩
theorem leS_tot (a b : Str) : (leS a b || leS b a) = true := by
  unfold leS
  rw [Bool.or_eq_true, decide_eq_true_eq, decide_eq_true_eq]
  exact List.le_total _ _
theorem leS_tr (a b c : Str) (h : leS a b = true) (g : leS b c = true) : leS a c = true := by
  rcases leS_iff.mp h with x | x
  · rcases leS_iff.mp g with y | y
    · exact leS_iff.mpr (.inl (ltS_tr x y))
    · subst y; exact h
  · subst x; exact g
def srt (xs : List Str) : List Str := xs.eraseDups.mergeSort leS
theorem rising_one : ∀ l m : List Str, l.Pairwise ltS → m.Pairwise ltS → (∀ x, x ∈ l ↔ x ∈ m) → l = m
  | [], [], _, _, _ => rfl
  | [], b :: m, _, _, h => absurd ((h b).mpr (.head _)) (by simp)
  | a :: l, [], _, _, h => absurd ((h a).mp (.head _)) (by simp)
  | a :: l, b :: m, h1, h2, h => by
    obtain ⟨a1, a2⟩ := List.pairwise_cons.mp h1
    obtain ⟨b1, b2⟩ := List.pairwise_cons.mp h2
    have e : a = b := by
      rcases List.mem_cons.mp ((h a).mp (.head _)) with x | x
      · exact x
      · rcases List.mem_cons.mp ((h b).mpr (.head _)) with y | y
        · exact y.symm
        · exact (ltS_irr _ (ltS_tr (a1 b y) (b1 a x))).elim
    subst e
    rw [rising_one l m a2 b2 fun x => ⟨fun q => ?_, fun q => ?_⟩]
    · rcases List.mem_cons.mp ((h x).mp (.tail _ q)) with y | y
      · exact (ltS_irr _ (y ▸ a1 x q)).elim
      · exact y
    · rcases List.mem_cons.mp ((h x).mpr (.tail _ q)) with y | y
      · exact (ltS_irr _ (y ▸ b1 x q)).elim
      · exact y
theorem rise_of {l : List Str} (h : l.Pairwise fun a b => leS a b = true) (d : l.Nodup) : l.Pairwise ltS := by
  induction l with
  | nil => exact .nil
  | cons a l ih =>
    obtain ⟨h1, h2⟩ := List.pairwise_cons.mp h
    obtain ⟨d1, d2⟩ := List.nodup_cons.mp d
    refine List.pairwise_cons.mpr ⟨fun b hb => ?_, ih h2 d2⟩
    rcases leS_iff.mp (h1 b hb) with x | x
    · exact x
    · exact (d1 (x ▸ hb)).elim
theorem nodup_eraseDups : ∀ (n : Nat) (xs : List Str), xs.length ≤ n → xs.eraseDups.Nodup
  | _, [], _ => by simp
  | 0, x :: xs, h => by simp at h
  | n + 1, x :: xs, h => by
    rw [List.eraseDups_cons]
    refine List.nodup_cons.mpr ⟨fun q => ?_, nodup_eraseDups n _ ?_⟩
    · have := (List.mem_eraseDups.mp q)
      simp at this
    · have := List.length_filter_le (fun b => !b == x) xs
      simp at h
      omega
theorem mem_srt {xs : List Str} {x : Str} : x ∈ srt xs ↔ x ∈ xs := by
  unfold srt
  rw [(List.mergeSort_perm _ _).mem_iff, List.mem_eraseDups]
theorem srt_rise (xs : List Str) : (srt xs).Pairwise ltS :=
  rise_of (List.pairwise_mergeSort leS_tr leS_tot _) ((List.mergeSort_perm _ _).nodup_iff.mpr (nodup_eraseDups _ xs (Nat.le_refl _)))
theorem srt_of {xs l : List Str} (h : l.Pairwise ltS) (m : ∀ x, x ∈ l ↔ x ∈ xs) : l = srt xs := rising_one _ _ h (srt_rise xs) fun x => (m x).trans mem_srt.symm
theorem eraseDups_len : ∀ (n : Nat) (xs : List Str), xs.length ≤ n → xs.eraseDups.length ≤ xs.length
  | _, [], _ => by simp
  | 0, x :: xs, h => by simp at h
  | n + 1, x :: xs, h => by
    rw [List.eraseDups_cons]
    have q := List.length_filter_le (fun b => !b == x) xs
    simp at h
    have := eraseDups_len n (xs.filter fun b => !b == x) (by omega)
    simp
    omega
theorem srt_len (xs : List Str) : (srt xs).length ≤ xs.length := by
  unfold srt
  rw [(List.mergeSort_perm _ _).length_eq]
  exact eraseDups_len _ xs (Nat.le_refl _)
section
variable {P : Program} {w : World} {A : Around} {E : Value → Shared → Prop} {s : Shared} {a : Addr}
end
end Pd
set_option Elab.async false
set_option linter.all false
set_option maxRecDepth 100000
set_option maxHeartbeats 2000000
namespace Pd
open PySem PySem.Spec PyProof.Rows L2
section
variable {X : Cx} {K : PySem.W.Frag} [HasW K]
variable {e : Expr} {es : List Expr} {t : TA} {p p2 q pos : Pos}
end
end Pd
set_option Elab.async false
set_option linter.all false
set_option maxRecDepth 100000
set_option maxHeartbeats 2000000
namespace Pd
open PySem PySem.Spec PyProof.Rows L2
variable {K : PySem.W.Frag} [HasW K] {B : Bs} {X : Cx}
end Pd
set_option Elab.async false
set_option linter.all false
set_option maxRecDepth 100000
set_option maxHeartbeats 2000000
namespace Pd
open PySem PySem.Spec PyProof.Rows L2
variable {K : PySem.W.Frag} [HasW K] {B : Bs} {X : Cx}
end Pd
set_option Elab.async false
set_option linter.all false
set_option maxRecDepth 100000
set_option maxHeartbeats 2000000
namespace Pd
open PySem PySem.Spec PyProof.Rows L2
variable {K : PySem.W.Frag} [HasW K] {B : Bs} {X : Cx}
end Pd
set_option Elab.async false
set_option linter.all false
set_option maxRecDepth 100000
set_option maxHeartbeats 2000000
namespace Pd
open PySem PySem.Spec PyProof.Rows L2
section
variable {s : Sl} {δ : En} {E : DEnds} {t u : DT} {i j : Nat}
def br (c : Bool) (p q : Prop) : Prop := if c = true then p else q
def unpR (is : List Nat) (r : Re) (δ1 : En) (k : En → Prop) : Prop := match r with
  | .dat d => gT is d δ1 k
  | _ => False
def chR (r : Re) (p q : Prop) : Prop := match r with
  | .dat (.bool b) => br b p q
  | _ => False
def intK (d : D) (k : Int → Prop) : Prop := match d with
  | .int i => k i
  | _ => False
def lstK (d : D) (k : List D → Prop) : Prop := match d with
  | .list xs => k xs
  | _ => False
def noSl (ms : List Bool) (rs : List Re) (os : List MO) (r : Re) (δ : En) (k : Re → En → Prop) : Prop := match r with
  | .slot j => pickR ms rs os j δ k
  | r => k r δ
def keyK (d : D) (k : Key → Prop) : Prop := match keyD d with
  | some q => k q
  | none => False
def itK (d : D) (k : List D → Prop) : Prop := match itemsD d with
  | some ds => k ds
  | none => False
def rngK (ds : List D) (k : Int → Prop) : Prop := match ds with
  | [.int j] => k j
  | _ => False
theorem eqv_ss (a b : Str) : PyData.eqv (.str a) (.str b) = decide (a = b) := by
  show (a == b) = _
  by_cases h : a = b
  · subst h; simp
  · rw [decide_eq_false h]; simpa using h
theorem any_strs (w : Str) : ∀ ws : List Str, ((ws.map PyData.str).any fun z => PyData.eqv z (.str w)) = ws.contains w
  | [] => rfl
  | z :: ws => by
    rw [List.map_cons, List.any_cons, any_strs w ws, eqv_ss, List.contains_cons]
    congr 1
    by_cases h : z = w
    · subst h; simp
    · rw [decide_eq_false h]
      simpa using Ne.symm h
theorem in_strs (w : Str) (ws : List Str) : inOk (.str w) (ws.map PyData.str) = true := by
  have h : (ws.map PyData.str).all flatB = true := by
    rw [List.all_eq_true]
    intro x hx
    obtain ⟨z, _, rfl⟩ := List.mem_map.mp hx
    rfl
  simp [inOk, h, flatB, flatD]
theorem depthAll_le {n : Nat} : ∀ {ds : List D}, (∀ d ∈ ds, d.depth ≤ n) → PyData.depthAll ds ≤ n
  | [], _ => by simp [PyData.depthAll]
  | d :: ds, h => by
    simp only [PyData.depthAll]
    exact Nat.max_le.mpr ⟨h d List.mem_cons_self, depthAll_le fun x hx => h x (List.mem_cons_of_mem _ hx)⟩
theorem canAll {ds : List D} (h : ∀ d ∈ ds, d.canLay0 = true) : PyData.canLayAll0 ds = true := by
  induction ds with
  | nil => simp [PyData.canLayAll0]
  | cons d ds ih => simp only [PyData.canLayAll0, Bool.and_eq_true]; exact ⟨h d List.mem_cons_self, ih fun x hx => h x (List.mem_cons_of_mem _ hx)⟩
theorem shaped_list {ds : List D} (h : ∀ d ∈ ds, d.canLay0 = true ∧ d.depth ≤ 62) : SeqAt.shaped (.list ds) = true := by
  have h1 := depthAll_le fun d hd => (h d hd).2
  have h2 : (PyData.list ds).canLay0 = true := by
    rw [PyData.canLay0]
    exact canAll fun d hd => (h d hd).1
  have h3 : (PyData.list ds).depth ≤ 64 := by
    rw [PyData.depth]
    omega
  exact Bool.and_eq_true_iff.mpr ⟨h2, decide_eq_true h3⟩
theorem shaped_tuple {ds : List D} (h : ∀ d ∈ ds, d.canLay0 = true ∧ d.depth ≤ 62) : SeqAt.shaped (.tuple ds) = true := by
  have h1 := depthAll_le fun d hd => (h d hd).2
  have h2 : (PyData.tuple ds).canLay0 = true := by
    rw [PyData.canLay0]
    exact canAll fun d hd => (h d hd).1
  have h3 : (PyData.tuple ds).depth ≤ 64 := by
    rw [PyData.depth]
    omega
  exact Bool.and_eq_true_iff.mpr ⟨h2, decide_eq_true h3⟩
theorem eqv_nil (ds : List D) : PyData.eqv (.list ds) (.list []) = ds.isEmpty := by cases ds <;> rfl
end
end Pd
set_option Elab.async false
set_option linter.all false
set_option maxRecDepth 100000
set_option maxHeartbeats 2000000
namespace Pd
open PySem PySem.Spec PyProof.Rows L2
variable {l s u x : Int}
end Pd
set_option Elab.async false
set_option linter.all false
set_option maxRecDepth 100000
set_option maxHeartbeats 2000000
namespace Pd
open PySem PySem.Spec PyProof.Rows L2
def cok (l : List Nat) : Prop := ∀ c ∈ l, c < 0x110000
theorem sok_iff (x : Str) : PyData.strOk x = true ↔ cok x.cps.toList := by
  unfold PyData.strOk cok
  rw [Array.all_eq_true_iff_forall_mem]
  constructor
  · intro h c hc
    simpa using h c (by simpa using hc)
  · intro h c hc
    simpa using h c (by simpa using hc)
structure Fine (d : D) (dp wt : Nat) : Prop where
  can : d.canLay0 = true
  ish : d.intsShort 13 = true
  sh : d.showable = true
  dep : d.depth ≤ dp
  wt : d.weight ≤ wt
theorem Fine.shaped {d : D} {dp wt : Nat} (f : Fine d dp wt) (h1 : dp ≤ 62) : SeqAt.shaped d = true := Bool.and_eq_true_iff.mpr ⟨f.can, decide_eq_true (by have := f.dep; omega)⟩
theorem Fine.mono {d : D} {a b c e : Nat} (f : Fine d a b) (h1 : a ≤ c) (h2 : b ≤ e) : Fine d c e := ⟨f.can, f.ish, f.sh, Nat.le_trans f.dep h1, Nat.le_trans f.wt h2⟩
end Pd
set_option Elab.async false
set_option linter.all false
set_option maxRecDepth 100000
set_option maxHeartbeats 2000000
namespace Pd
open PySem PySem.Spec PyProof.Rows L2
section
variable {s : Sl} {δ : En} {E : DEnds} {i : Nat}
end
end Pd
set_option Elab.async false
set_option linter.all false
set_option maxRecDepth 100000
set_option maxHeartbeats 2000000
namespace L2
open PySem PySem.Spec PyProof.Rows
section
variable {X : Cx} {o e : Expr} {es : List Expr} {to te : TE} {ta : TA} {f : Str} {p p' p1 p2 pos : Pos}
structure BaseC (K : PySem.W.Frag) (C : Addr) : Prop where
  ga : PySem.W.specialIn K (.ref C) "__getattribute__" = some (some (.builtin "type.__getattribute__"))
  mc : ∃ mc, PySem.W.readsIn K C mc = true ∧ PySem.W.findCls K (.ref C) mc "__init__" = some (.val (.builtin "ValueError.__init__"))
theorem pe_binit {pl : Sem Bool} {x : Str} {B : Addr} (hg : Gl X x) (hm : X.mg x = some (.ref B)) (T0 : BaseC X.K B) (ha : PA X (e :: es) ta)
    (hdb : (x == ("__debug__" : Str)) = false := by decide)
    (hc : eval (.Call (.Attribute (.Name x p1) "__init__" p2) (e :: es) [] pos) X.env = (do
      let ov ← eval (.Name x p1) X.env
      standAt p2.atName
      let (f, first) ← holding [ov] (getMethod ov "__init__" pl)
      callWith pos f first (backTo pos (starEach (e :: es) X.env)) (backToKw pos (keywordEach [] X.env))) := by rfl)
    (he : starEach (e :: es) X.env = (false, eval e X.env) :: starEach es X.env := by rfl) (hpl : (backTo pos (starEach es X.env)).any (·.1) = false := by rfl) :
    PE X (.Call (.Attribute (.Name x p1) "__init__" p2) (e :: es) [] pos) (tVeI X.K ta) := by
  refine ⟨fun pins s σ H Q I h => ?_⟩
  refine PySem.W.methodCall_KW (ld_glob I hg hm ?_ hdb) hc
  obtain ⟨mc, m1, m2⟩ := T0.mc
  refine PySem.W.method_cls I.kIn T0.ga (PySem.W.cls_value I.kIn m1 m2 (by decide +kernel) ?_)
  refine PyProof.Rows.callWith_method1 (thn (ha.run pos pins _ σ H _ (I.tok _) h) fun us s1 ⟨vs, H1, I1, r1, a, C, ws, ev, hl, T, ea, q⟩ => ?_) he hpl
  subst ev
  cases r1 with
  | @cons _ u0 _ ur ra rw' =>
    obtain rfl : u0 = Value.ref a := ra
    have hlen : ur.length ≤ sizeLine := by
      rw [← Paired.length rw', sizeLine_eq]
      omega
    exact oinit_ok T I1 ea hlen fun s' J => ⟨.non, H1, J, rfl, q⟩
end
end L2
namespace Pd
open PySem PySem.Spec PyProof.Rows L2
section
variable {X : Cx} {e : Expr} {es : List Expr} {ta : TA} {p pos : Pos}
end
end Pd
set_option Elab.async false
set_option linter.all false
set_option maxRecDepth 100000
set_option maxHeartbeats 2000000
namespace Pd
open PySem PySem.Spec PyProof.Rows L2
section
variable {X : Cx} {pins : List (Addr × Obj)} {σ : L2.St} {H : Hp} {s : Shared} {a C : Addr} {fs : List (Str × V)}
theorem xat_inst (I : Inv X pins σ H s) (h : XAt H a C fs) : ∃ (ox : Obj) (od : Option Obj), PySem.W.InstAt s.heap a ox C od ∧ ((od = none ∧ fs = []) ∨ ∃ o, od = some o ∧ ∀ f, ∃ m, PySem.W.lookIn f o = some m ∧ RelO (fs.lookup f) m) := by
  rcases h with (⟨d, h1, h2⟩ | ⟨h1, h2⟩) | ⟨dx, h1, h2⟩
  · obtain ⟨t1, hx⟩ := exo_at I.hok h1
    obtain ⟨mA, hns, rel⟩ := exd_at I.hok h2
    obtain ⟨o, ho, hl⟩ := lookIn_ns hns
    exact ⟨_, some o, ⟨hx, rfl, rfl, ho⟩, .inr ⟨o, rfl, fun f => ⟨mA f, hl f, rel f⟩⟩⟩
  · obtain ⟨⟨oe, vs, g1, g2, g3, _⟩, _⟩ := I.hok a _ h2
    obtain ⟨oc, od, oda, osl⟩ := oe
    obtain ⟨z1, z2⟩ := g2
    dsimp only at z1 z2 g3
    subst z1 z2 g3
    exact ⟨_, none, ⟨g1, rfl, rfl, trivial⟩, .inl ⟨rfl, h1⟩⟩
  · obtain ⟨⟨oe, vs, g1, g2, g3⟩, _⟩ := I.hok a _ h1
    obtain ⟨z1, z2⟩ := g2
    have nc : PySem.W.notCls oe = true := by
      unfold PySem.W.notCls
      rw [g3]
    rcases h2 with ⟨rfl, rfl⟩ | ⟨d, rfl, h2⟩
    · exact ⟨oe, none, ⟨g1, z1, nc, by rw [z2]; trivial⟩, .inl ⟨rfl, rfl⟩⟩
    · obtain ⟨mA, hns, rel⟩ := I.hok d _ h2
      obtain ⟨o, ho, hl⟩ := lookIn_ns hns
      exact ⟨oe, some o, ⟨g1, z1, nc, by rw [z2]; exact ho⟩, .inr ⟨o, rfl, fun f => ⟨mA f, hl f, rel f⟩⟩⟩
def rIsE2 (K : PySem.W.Frag) (T : Value) : List V → Hp → VK → Prop := fun xs H Q => ∃ (a C : Addr) (fs : List (Str × V)) (c : V) (b : Bool), xs = [.ref a, c] ∧ (∀ u, RelV c u → u = T) ∧ XAt H a C fs ∧ ExcC K C ∧ PySem.W.kitOne K (.ref C) T = some b ∧ Q (.bl b) H
theorem call_isX {T : Value} (hT : ∀ x, T ≠ x → True) : CallR X (.builtin "isinstance") (rIsE2 X.K T) := by
  intro pins s σ H xs us Q I r h
  obtain ⟨a, C, fs, c, b, rfl, hcv, hx, hC, e, q⟩ := h
  cases r with
  | cons rx rr =>
    cases rr with
    | cons rt rr =>
      cases rr
      cases rx
      have ec := hcv _ rt
      subst ec
      obtain ⟨ox, od, J, _⟩ := xat_inst I hx
      have cl : (PySem.W.clsIn X.K C).isSome = true := by
        obtain ⟨cd, hc, _⟩ := PySem.W.any_some hC.hd
        rw [hc]; rfl
      exact PySem.W.kia_one (PySem.W.kitx_exc cl hC.hg hC.hk hC.hs hC.ha hC.hn hC.ht hC.hm) I.kIn J e (fun z => nomatch z) fun tk => ⟨.bl b, H, I.kept (t' := tk) fun _ _ z => z, rfl, q⟩
def tXFld (K : PySem.W.Frag) (f : Str) (te : TE) : TE := fun σ H Q => te σ H fun x H1 => ∃ (a C : Addr) (fs : List (Str × V)) (v : V), x = .ref a ∧ XAt H1 a C fs ∧ XfC K C ∧ PySem.W.findIn K (.ref C) f = some none ∧ fs.lookup f = some v ∧ Q v H1
theorem pe_xfld {e : Expr} {te : TE} {f : Str} {pos : Pos} (he : PE X e te) (hb : attributeBase e f X.env (eval e X.env) = eval e X.env := by rfl) : PE X (.Attribute e f pos) (tXFld X.K f te) := by
  refine ⟨fun pins s σ H Q I h => ?_⟩
  refine attr_of hb (thn (he.run pins s σ H _ I h) fun u s1 ⟨x, H1, I1, rx, a, C, fs, v, ex, hx, T, hno, l, q⟩ => ?_)
  subst ex
  obtain rfl : u = Value.ref a := rx
  obtain ⟨ox, od, J, hj⟩ := xat_inst I1 hx
  rcases hj with ⟨rfl, rfl⟩ | ⟨o, rfl, hl⟩
  · cases l
  · obtain ⟨m, hm, rel⟩ := hl f
    obtain ⟨u, hu, ru⟩ := RelO.some_of (v := v) (o := m) (by rw [← l]; exact rel)
    exact HandSPX.exc_get I1.kIn J T.ga T.gg T.exC (PySem.W.findObj_own T.hdC hno rfl (by rw [hm, hu])) (handed_of ru) ⟨v, H1, I1.tok _, ru, q⟩
end
end Pd
set_option Elab.async false
set_option linter.all false
set_option maxRecDepth 100000
set_option maxHeartbeats 2000000
namespace Pd
open PySem PySem.Spec PyProof.Rows L2
variable {K : PySem.W.Frag} [HasW K] {B : Bs} {X : Cx}
abbrev excD (n : Str) (kvs : List (D × D)) : D := .dict ((.dict [], .str n) :: kvs)
theorem Vw.exc {Hf H : Hp} {v : V} {n : Str} {kvs : List (D × D)} (e : Same Hf H) (h : Vw K Hf H v (excD n kvs)) : ∃ a C fs, v = .ref a ∧ XAt H a C fs ∧ NmAt K n C ∧ DrX K Hf fs kvs := by
  rcases h with h | ⟨a, vs, es, h1, h2, h3, h4⟩ | ⟨a, vs, es, h1, h2, h3, h4⟩ | ⟨a, o, xs, kvs, h1, h2, h3, h4, h5, h6⟩
  · cases h with
    | dct h1 h2 =>
      generalize ek : (PyData.dict [], PyData.str n) :: kvs = z at h2
      cases h2 with
      | nil => cases ek
      | @cons k _ _ _ _ _ _ =>
        have := (List.cons.inj ek).1
        cases k <;> cases this
    | exc h1 h2 h3 => exact ⟨_, _, _, rfl, h1.mono e, h2, h3⟩
  · cases h2
  · cases h2
    generalize ek : (PyData.dict [], PyData.str n) :: kvs = z at h4
    cases h4 with
    | nil => cases ek
    | @cons k _ _ _ _ _ _ =>
      have := (List.cons.inj ek).1
      cases k <;> cases this
  · cases h2
def ClsT (K : PySem.W.Frag) (T : Value) (ns : List (Str × Bool)) : Prop := ∀ n b, ns.lookup n = some b → ∃ C, NmAt K n C ∧ ExcC K C ∧ PySem.W.kitOne K (.ref C) T = some b
def gIsC (ns : List (Str × Bool)) (d : D) (k : Bool → Prop) : Prop := match d with
  | .dict ((.dict [], .str n) :: _) => (match ns.lookup n with
    | some b => k b
    | none => False)
  | _ => False
def dIsC (ns : List (Str × Bool)) (a : DE) : DE := fun δ k => a δ fun r δ1 => vwR r δ1 fun d => gIsC ns d fun b => k (.dat (.bool b)) δ1
theorem de_isC {T : Value} {ns : List (Str × Bool)} {ta : TE} {a : DE} {c : V} (hc : ∀ u, RelV c u → u = T) (hT : ClsT K T ns) (ha : DEok B K ta a) : DEok B K (tCB (rIsE2 K T) (tCons ta (tCons (tC c) tNil))) (dIsC ns a) := by
  intro Hf H σ τ δ θ Kc Q hs hd S h k
  refine ha Hf H σ τ δ θ _ _ hs hd S h fun r1 δ1 v1 Hf1 H1 h1 hd1 e1 S1 => ?_
  have hlt := S.lenT hs hd
  obtain ⟨x, x1, x2⟩ := vwR_ok (v := v1) (i := B.n + τ.length) S1 hd1 (top_get (by omega)) (top_get (by omega)) h1
  unfold gIsC at x2
  split at x2
  · split at x2
    · rename_i n kvs o b hb
      obtain ⟨a, C, fs, rfl, q1, q2, q3⟩ := x1.exc S1.fh
      obtain ⟨C', w1, w2, w3⟩ := hT n b hb
      obtain rfl := q2.one w1
      exact ⟨a, C, fs, c, b, rfl, hc, q1, w2, w3, k (.dat (.bool b)) δ1 _ Hf1 H1 x2 hd1 e1 ((S1.pop1 hs hd1).res (r := .dat (.bool b)) (Gw.refl S1.fh) (.bl _))⟩
    · exact x2.elim
  · exact x2.elim
def FldT (K : PySem.W.Frag) (f : Str) (ns : List Str) : Prop := ∀ n ∈ ns, ∃ C, NmAt K n C ∧ XfC K C ∧ PySem.W.findIn K (.ref C) f = some none
def fldD : List (D × D) → Str → Option D
  | [], _ => none
  | (.str g, d) :: r, f => if f = g then some d else fldD r f
  | _ :: r, f => fldD r f
def gXFld (f : Str) (ns : List Str) (d : D) (k : D → Prop) : Prop := match d with
  | .dict ((.dict [], .str n) :: kvs) => n ∈ ns ∧ (match fldD kvs f with
    | some x => k x
    | none => False)
  | _ => False
def dXFld (f : Str) (ns : List Str) (a : DE) : DE := fun δ k => a δ fun r δ1 => vwR r δ1 fun d => gXFld f ns d fun x => k (.dat x) δ1
theorem fld_ok {H : Hp} {f : Str} {d : D} : ∀ {fs : List (Str × V)} {kvs : List (D × D)}, DrX K H fs kvs → fldD kvs f = some d → ∃ v, fs.lookup f = some v ∧ Dr K H v d
  | _, _, .nil, h => by cases h
  | (g, v) :: fs, _, .cons h1 h2, h => by
    unfold fldD at h
    rw [List.lookup_cons]
    by_cases e : f = g
    · rw [if_pos e] at h
      cases h
      subst e
      simp
      exact h1
    · rw [if_neg e] at h
      have : (f == g) = false := by simpa using e
      rw [this]
      exact fld_ok h2 h
theorem de_xfld {f : Str} {ns : List Str} {ta : TE} {a : DE} (hT : FldT K f ns) (ha : DEok B K ta a) : DEok B K (tXFld K f ta) (dXFld f ns a) := by
  intro Hf H σ τ δ θ Kc Q hs hd S h k
  refine ha Hf H σ τ δ θ _ _ hs hd S h fun r1 δ1 v1 Hf1 H1 h1 hd1 e1 S1 => ?_
  have hlt := S.lenT hs hd
  obtain ⟨x, x1, x2⟩ := vwR_ok (v := v1) (i := B.n + τ.length) S1 hd1 (top_get (by omega)) (top_get (by omega)) h1
  unfold gXFld at x2
  split at x2
  · obtain ⟨m, x2⟩ := x2
    split at x2
    · rename_i n kvs o d hd0
      obtain ⟨a, C, fs, rfl, q1, q2, q3⟩ := x1.exc S1.fh
      obtain ⟨C', w1, w2, w3⟩ := hT n m
      obtain rfl := q2.one w1
      obtain ⟨v, l1, l2⟩ := fld_ok q3 hd0
      exact ⟨a, C, fs, v, rfl, q1, w2, w3, l1, k (.dat d) δ1 _ Hf1 H1 x2 hd1 e1 ((S1.pop1 hs hd1).res (r := .dat d) (Gw.refl S1.fh) l2)⟩
    · exact x2.elim
  · exact x2.elim
end Pd
set_option Elab.async false
set_option linter.all false
set_option maxRecDepth 100000
set_option maxHeartbeats 2000000
namespace Pd
open PySem PySem.Spec PyProof.Rows L2
variable {K : PySem.W.Frag} [HasW K] {B : Bs} {X : Cx}
def fldsV : List Str → List V → List (Str × V) → List (Str × V)
  | f :: fs, v :: vs, acc => fldsV fs vs ((f, v) :: acc)
  | _, _, acc => acc
def spI (C : Addr) (fs : List Str) : Sp := fun vs H Q _ => ∃ (a : Addr) (xs : List V), vs = .ref a :: xs ∧ xs.length = fs.length ∧ H a = some (exo a C none) ∧ ∀ d, H d = none → Q .non (upd (upd H d (exd d (fldsV fs xs []))) a (exo a C (some d)))
theorem spI_len {C : Addr} {fs : List Str} {n : Nat} (hn : fs.length + 1 = n) : ∀ vs H Q E, spI C fs vs H Q E → vs.length = n := fun vs H Q E ⟨a, xs, e, l, _⟩ => by
  subst e
  rw [List.length_cons, l, hn]
end Pd
set_option Elab.async false
set_option linter.all false
set_option maxRecDepth 100000
set_option maxHeartbeats 2000000
namespace Pd
open PySem PySem.Spec PyProof.Rows L2
variable {K : PySem.W.Frag} [HasW K]
instance {n : Str} {C : Addr} : Decidable (NmAt K n C) := inferInstanceAs (Decidable ((K.find? fun p => decide (clsNm p.2 = some n)).map (·.1) = some C))
def nmB (K : PySem.W.Frag) (n : Str) (C : Addr) : Bool := decide ((K.find? fun p => decide (clsNm p.2 = some n)).map (·.1) = some C)
theorem nmB_ok {n : Str} {C : Addr} (h : nmB K n C = true) : NmAt K n C := of_decide_eq_true h
def oexB (K : PySem.W.Frag) (C : Addr) : Bool := (match K.lookup C with
  | some ⟨.type "type", _, .cls cd, sl⟩ => (match cd.mro, sl.toList with
    | .ref C' :: bm, [_, _, _, _, some (.builtin n), _] => C' == C && (n == "ValueError.__new__" && (!cd.hasDel && (cd.hasDict && PySem.HandSPX.refsVE bm)))
    | _, _ => false)
  | _ => false) && (decide (PySem.W.findIn K (.ref C) "__setattr__" = some (some (.builtin "object.__setattr__"))) && (decide (PySem.W.subIn K (.ref C) (.type "BaseException") = some true) && (decide (PySem.W.typeIn K (.ref C) = some (.type "type")) && PySem.W.keepIn K (.ref C))))
theorem oexB_ok {C : Addr} (h : oexB K C = true) : OexC K C := by
  unfold oexB at h
  obtain ⟨h1, h⟩ := Bool.and_eq_true_iff.mp h
  obtain ⟨h2, h⟩ := Bool.and_eq_true_iff.mp h
  obtain ⟨h3, h⟩ := Bool.and_eq_true_iff.mp h
  obtain ⟨h4, h5⟩ := Bool.and_eq_true_iff.mp h
  refine ⟨?_, of_decide_eq_true h2, of_decide_eq_true h3, of_decide_eq_true h4, h5⟩
  split at h1
  · rename_i dd cd sl ho
    split at h1
    · rename_i C' bm k0 k1 k2 k3 n k5 hm hs
      simp only [Bool.and_eq_true, beq_iff_eq, Bool.not_eq_true'] at h1
      obtain ⟨rfl, rfl, hdel, hdct, hbm⟩ := h1
      obtain ⟨nm, bs, mro, ns, qn, hd, sn, sub, ab, col, del⟩ := cd
      dsimp only at hm hdel hdct
      subst hm hdel hdct
      have hsl : sl = #[k0, k1, k2, k3, some (.builtin "ValueError.__new__"), k5] := by
        obtain ⟨l⟩ := sl
        simp only at hs
        rw [hs]
      subst hsl
      exact ⟨nm, qn, ns, bs, bm, sn, sub, ab, col, dd, k0, k1, k2, k3, k5, ho, hbm⟩
    · cases h1
  · cases h1
def excCB (K : PySem.W.Frag) (D : Addr) : Bool := decide (PySem.W.findIn K (.ref D) "__getattribute__" = some (some (.builtin "BaseException.__getattribute__"))) && (decide (PySem.W.findIn K (.ref D) "__getattr__" = some none) && (decide (PySem.W.subIn K (.ref D) (.type "BaseException") = some true) &&
  (PySem.W.hasDictIn K D && (decide (PySem.W.findIn K (.ref D) "__class__" = some (some (.builtin "object.__class__"))) && (decide (PySem.W.specialIn K (.builtin "object.__class__") "__get__" = some (some (.builtin "getset_descriptor.__get__"))) &&
  (decide (PySem.W.takesIn K (.builtin "object.__class__") = some true) && decide (PySem.W.mroIn K D (.type "object") = some true)))))))
theorem excCB_ok {D : Addr} (h : excCB K D = true) : ExcC K D := by
  unfold excCB at h
  simp only [Bool.and_eq_true, decide_eq_true_eq] at h
  obtain ⟨h1, h2, h3, h4, h5, h6, h7, h8⟩ := h
  exact ⟨h1, h2, h3, h4, h5, h6, h7, h8⟩
def baseB (K : PySem.W.Frag) (C : Addr) : Bool := decide (PySem.W.specialIn K (.ref C) "__getattribute__" = some (some (.builtin "type.__getattribute__"))) && (PySem.W.readsIn K C (.type "type") && (match PySem.W.findCls K (.ref C) (.type "type") "__init__" with
  | some (.val v) => decide (v = .builtin "ValueError.__init__")
  | _ => false))
theorem baseB_ok {C : Addr} (h : baseB K C = true) : BaseC K C := by
  unfold baseB at h
  obtain ⟨h1, h⟩ := Bool.and_eq_true_iff.mp h
  obtain ⟨h2, h3⟩ := Bool.and_eq_true_iff.mp h
  refine ⟨of_decide_eq_true h1, .type "type", h2, ?_⟩
  split at h3
  · rename_i v hv
    rw [hv, of_decide_eq_true h3]
  · cases h3
structure OwnX (K : PySem.W.Frag) (x : Str) : Prop where
  nm : NmAt K x (He.ga K x)
  oex : OexC K (He.ga K x)
  exc : ExcC K (He.ga K x)
  xf : XfC K (He.ga K x)
  kp : PySem.W.keepIn K (.ref (He.ga K x)) = true
def ownXB (x : Str) (K : PySem.W.Frag) : Bool := nmB K x (He.ga K x) && (oexB K (He.ga K x) && (excCB K (He.ga K x) && xfB K (He.ga K x)))
theorem ownXB_ok {x : Str} (h : ownXB x K = true) : OwnX K x := by
  unfold ownXB at h
  obtain ⟨h1, h⟩ := Bool.and_eq_true_iff.mp h
  obtain ⟨h2, h⟩ := Bool.and_eq_true_iff.mp h
  obtain ⟨h3, h4⟩ := Bool.and_eq_true_iff.mp h
  exact ⟨nmB_ok h1, oexB_ok h2, excCB_ok h3, xfB_ok h4, (oexB_ok h2).kC⟩
structure OwnI (K : PySem.W.Frag) (x : Str) : Prop where
  i : PySem.W.findIn K (.ref (He.ga K x)) "__init__" = some (some (.ref (He.ma K (He.ga K x) "__init__")))
  t : PySem.W.typeIn K (.ref (He.ma K (He.ga K x) "__init__")) = some (.type "function")
def ownIB (x : Str) (K : PySem.W.Frag) : Bool := decide (PySem.W.findIn K (.ref (He.ga K x)) "__init__" = some (some (.ref (He.ma K (He.ga K x) "__init__")))) && decide (PySem.W.typeIn K (.ref (He.ma K (He.ga K x) "__init__")) = some (.type "function"))
theorem ownIB_ok {x : Str} (h : ownIB x K = true) : OwnI K x := by
  obtain ⟨h1, h2⟩ := Bool.and_eq_true_iff.mp h
  exact ⟨of_decide_eq_true h1, of_decide_eq_true h2⟩
def clsTB (T : PySem.W.Frag → Value) (ns : List (Str × Bool)) (K : PySem.W.Frag) : Bool := ns.all fun p => nmB K p.1 (He.ga K p.1) && (excCB K (He.ga K p.1) && decide (PySem.W.kitOne K (.ref (He.ga K p.1)) (T K) = some p.2))
theorem lookup_mem {β : Type} {n : Str} {b : β} : ∀ {ns : List (Str × β)}, ns.lookup n = some b → (n, b) ∈ ns
  | [], h => by cases h
  | (m, c) :: r, h => by
    rw [List.lookup_cons] at h
    split at h
    · rename_i e
      have : n = m := by simpa using e
      cases h
      rw [this]
      exact List.mem_cons_self
    · exact List.mem_cons_of_mem _ (lookup_mem h)
theorem clsTB_ok {T : PySem.W.Frag → Value} {ns : List (Str × Bool)} (h : clsTB T ns K = true) : ClsT K (T K) ns := fun n b e => by
  have := List.all_eq_true.mp h _ (lookup_mem e)
  obtain ⟨h1, h2⟩ := Bool.and_eq_true_iff.mp this
  obtain ⟨h2, h3⟩ := Bool.and_eq_true_iff.mp h2
  exact ⟨_, nmB_ok h1, excCB_ok h2, of_decide_eq_true h3⟩
def fldTB (f : Str) (ns : List Str) (K : PySem.W.Frag) : Bool := ns.all fun x => nmB K x (He.ga K x) && (xfB K (He.ga K x) && decide (PySem.W.findIn K (.ref (He.ga K x)) f = some none))
theorem fldTB_ok {f : Str} {ns : List Str} (h : fldTB f ns K = true) : FldT K f ns := fun n m => by
  have := List.all_eq_true.mp h _ m
  obtain ⟨h1, h2⟩ := Bool.and_eq_true_iff.mp this
  obtain ⟨h2, h3⟩ := Bool.and_eq_true_iff.mp h2
  exact ⟨_, nmB_ok h1, xfB_ok h2, of_decide_eq_true h3⟩
end Pd
set_option Elab.async false
set_option linter.all false
set_option maxRecDepth 100000
set_option maxHeartbeats 2000000
namespace Pd
open PySem PySem.Spec PyProof.Rows L2
variable {K : PySem.W.Frag} [HasW K] {B : Bs} {X : Cx}
def clsAt (st : Stmt) (i : Nat) : Stmt := match st with
  | .ClassDef _ _ _ body _ _ _ _ _ _ _ => body.getD i (.Pass ⟨0, 0, 0, 0⟩)
  | _ => .Pass ⟨0, 0, 0, 0⟩
structure GI (P : Program) (w : World) (K : PySem.W.Frag) (mg : Str → Option Value) (base : Heap) (k : Nat) (x : Str) (fs : List Str) : Prop where
  ex : ∃ j fd, j + 1 ≤ k ∧ FnG P w K mg base CX0 j (He.ma K (He.ga K x) "__init__") fd ("self" :: fs) (spI (He.ga K x) fs) ∧ Binds K fd ("self" :: fs) []
  o : OwnX K x
  i : OwnI K x
  m : mg x = some (.ref (He.ga K x))
theorem GI.mono {P : Program} {w : World} {mg : Str → Option Value} {base : Heap} {j k : Nat} {x : Str} {fs : List Str} (G : GI P w K mg base j x fs) (h : j ≤ k) : GI P w K mg base k x fs := by
  obtain ⟨⟨i, fd, a, b, c⟩, o, t, m⟩ := G
  exact ⟨⟨i, fd, Nat.le_trans a h, b, c⟩, o, t, m⟩
structure G1 (K : PySem.W.Frag) (mg : Str → Option Value) (x : Str) : Prop where
  o : OwnX K x
  q : PySem.W.excIn K (He.ga K x) He.veBase "ValueError.__new__" = true
  m : mg x = some (.ref (He.ga K x))
theorem boot_ValueError : bootBuiltins "ValueError" = some (.type "ValueError") := PyProof.Rows.Boot.«ValueError»
theorem fun_ofQ {x q : Str} {st : Stmt} {f : Addr} {fd : FuncData} (F : FunD K x q (defArgs st) (defBody st) (defScope st) [] [] f fd) : Fun K x q st f fd := by
  obtain ⟨⟨oc, od, dV, kV, doc, pm, an, cdv, ct, osl, e, lk, hcd, hD, hK⟩, kp⟩ := F
  rcases hD with ⟨_, rfl⟩ | ⟨z, _⟩
  · exact ⟨⟨oc, od, kV, doc, pm, an, cdv, ct, osl, e, lk, hcd⟩, kp⟩
  · exact absurd rfl z
theorem init1 {H : Hp} {C a : Addr} {f1 : Str} {y1 : V} {to te : TE} {tb : TE} {D : Ends} {σ : L2.St} (T : OexC K C) (n1 : PySem.W.findIn K (.ref C) f1 = some none) (e : H a = some (exo a C none))
    (hb : ∀ Q : VK, Q .non H → tb σ H Q) (ht : ∀ H1 (Q : VK), Q y1 H1 → te σ H1 Q) (ho : ∀ H1 (Q : VK), Q (.ref a) H1 → to σ H1 Q)
    (q : ∀ d, H d = none → D.nx σ (upd (upd H d (exd d [(f1, y1)])) a (exo a C (some d)))) : tSeq (tDrop tb) (tOst K f1 to te) D σ H :=
  hb _ (ht _ _ (ho _ _ ⟨a, C, rfl, T, n1, .inl ⟨e, fun d hd _ => q d hd⟩⟩))
theorem veI_ok {H : Hp} {C a : Addr} {z : Str} {σ : L2.St} {ta : TA} (T : OexC K C) (e : H a = some (exo a C none)) (ha : ∀ Q : List V → Hp → Prop, Q [.ref a, .str z] H → ta σ H Q) : ∀ Q : VK, Q .non H → tVeI K ta σ H Q := fun Q q =>
  ha _ ⟨a, C, [.str z], rfl, by simp, T, e, q⟩
end Pd
set_option Elab.async false
set_option linter.all false
set_option maxRecDepth 100000
set_option maxHeartbeats 2000000
namespace Pd
open PySem PySem.Spec PyProof.Rows L2
variable {K : PySem.W.Frag} [HasW K] {B : Bs} {X : Cx}
end Pd
set_option Elab.async false
set_option linter.all false
set_option maxRecDepth 100000
set_option maxHeartbeats 2000000
namespace Pd
open PySem PySem.Spec PyProof.Rows L2
section
variable {s : Sl} {δ : En} {E : DEnds} {i : Nat}
end
end Pd
set_option Elab.async false
set_option linter.all false
set_option maxRecDepth 100000
set_option maxHeartbeats 2000000
namespace Pd
open PySem PySem.Spec PyProof.Rows L2
variable {K : PySem.W.Frag} [HasW K] {B : Bs}
end Pd
set_option Elab.async false
set_option linter.all false
set_option maxRecDepth 100000
set_option maxHeartbeats 2000000
namespace Pd
open PySem PySem.Spec PyProof.Rows L2
variable {K : PySem.W.Frag} [HasW K] {B : Bs} {X : Cx}
def isKey : D → Bool
  | .int _ => true
  | .str _ => true
  | _ => false
mutual
def noL : D → Bool
  | .list _ => false
  | .tuple ds => noLA ds
  | .dict kvs => noLK kvs
  | _ => true
def noLA : List D → Bool
  | [] => true
  | d :: ds => noL d && noLA ds
def noLK : List (D × D) → Bool
  | [] => true
  | (k, d) :: r => isKey k && (noL d && noLK r)
end
def reprDk (kvs : List (D × D)) : Prop := noLK kvs = true ∧ (PyData.dict kvs).showable = true ∧ (PyData.dict kvs).depth ≤ 100 ∧ (PyData.dict kvs).shown.length ≤ 1000000
end Pd
set_option Elab.async false
set_option linter.all false
set_option maxRecDepth 100000
set_option maxHeartbeats 2000000
namespace Pd
open PySem PySem.Spec PyProof.Rows L2
variable {K : PySem.W.Frag} [HasW K] {B : Bs} {Hf Hf' H H' : Hp}
def getP : Tre → List Nat → Option Tre
  | t, [] => some t
  | .nod _ ts, n :: p => match ts[n]? with
    | some t => getP t p
    | none => none
  | .dat _, _ :: _ => none
def setP : Tre → List Nat → Tre → Tre
  | _, [], u => u
  | .nod k ts, n :: p, u => match ts[n]? with
    | some t => .nod k (ts.set n (setP t p u))
    | none => .nod k ts
  | .dat d, _ :: _, _ => .dat d
noncomputable def valP (H : Hp) : V → List Nat → Option V
  | v, [] => some v
  | v, n :: p => match v with
    | .ref a => (match (valsO (H a))[n]? with
      | some w => valP H w p
      | none => none)
    | _ => none
theorem trs_get : ∀ {ts : List Tre} {vs : List V} {n : Nat} {t : Tre}, TRs K Hf H ts vs → ts[n]? = some t → ∃ v, vs[n]? = some v ∧ TR K Hf H t v ∧ ∀ x ∈ foot H t v, x ∈ footL H ts vs
  | [], _, _, _, _, e => by simp at e
  | t :: ts, vs, 0, u, h, e => by
    rw [TRs] at h
    obtain ⟨v, ws, rfl, h1, h2⟩ := h
    simp at e
    subst e
    exact ⟨v, rfl, h1, fun x hx => by rw [footL]; exact List.mem_append_left _ hx⟩
  | t :: ts, vs, n + 1, u, h, e => by
    rw [TRs] at h
    obtain ⟨v, ws, rfl, h1, h2⟩ := h
    obtain ⟨w, q1, q2, q3⟩ := trs_get (n := n) h2 (by simpa using e)
    exact ⟨w, by simpa using q1, q2, fun x hx => by rw [footL]; exact List.mem_append_right _ (q3 x hx)⟩
theorem getP_ok : ∀ (p : List Nat) {t u : Tre} {v : V}, TR K Hf H t v → getP t p = some u → ∃ w, valP H v p = some w ∧ TR K Hf H u w ∧ ∀ x ∈ foot H u w, x ∈ foot H t v
  | [], t, u, v, h, e => by
    simp [getP] at e
    subst e
    exact ⟨v, rfl, h, fun x hx => hx⟩
  | n :: p, .dat d, u, v, h, e => by simp [getP] at e
  | n :: p, .nod k ts, u, v, h, e => by
    rw [TR] at h
    obtain ⟨a, rfl, h1, h2⟩ := h
    unfold getP at e
    cases e1 : ts[n]? with
    | none => simp only [e1] at e; cases e
    | some t =>
      simp only [e1] at e
      obtain ⟨w, q1, q2, q3⟩ := trs_get h2 e1
      obtain ⟨z, r1, r2, r3⟩ := getP_ok p q2 e
      refine ⟨z, ?_, r2, fun x hx => ?_⟩
      · unfold valP
        simp only [q1]
        exact r1
      · rw [foot]
        exact List.mem_cons_of_mem _ (List.mem_append_right _ (q3 x (r3 x hx)))
end Pd
set_option Elab.async false
set_option linter.all false
set_option maxRecDepth 100000
set_option maxHeartbeats 2000000
namespace Pd
open PySem PySem.Spec PyProof.Rows L2
variable {K : PySem.W.Frag} [HasW K] {B : Bs}
end Pd
set_option Elab.async false
set_option linter.all false
set_option maxRecDepth 100000
set_option maxHeartbeats 2000000
namespace Pd
open PySem PySem.Spec PyProof.Rows L2
variable {K : PySem.W.Frag} [HasW K] {B : Bs}
def treAt (δ : En) (i : Nat) : Option Tre := match δ[i]? with
  | some (.own (.tre k ts)) => some (.nod k ts)
  | some (.io (.tre k ts)) => some (.nod k ts)
  | _ => none
theorem treAt_ok {Hf H : Hp} {σ τ : L2.St} {δ θ : En} {i : Nat} {t : Tre} (S : Sta B K Hf H (σ ++ τ) (δ ++ θ)) (hs : σ.length = B.n) (hd : δ.length = B.n) (h : treAt δ i = some t) :
    ∃ a k ts s, t = .nod k ts ∧ δ[i]? = some s ∧ s.obj = some (.tre k ts) ∧ i < δ.length ∧ σ[i]? = some (some (.ref a)) ∧ Hf a = none ∧ OR K Hf H a (.tre k ts) := by
  unfold treAt at h
  cases e : δ[i]? with
  | none => simp only [e] at h; cases h
  | some s =>
    have hi : i < δ.length := (List.getElem?_eq_some_iff.mp e).1
    have eM : (δ ++ θ)[i]? = some s := by rw [List.getElem?_append_left hi]; exact e
    obtain ⟨x, hx, c⟩ := S.lt eM
    have ex : σ[i]? = some x := by rw [List.getElem?_append_left (by omega)] at hx; exact hx
    simp only [e] at h
    split at h
    · rename_i k ts hh
      cases h
      cases hh
      obtain ⟨a, rfl, f1, f2⟩ := c
      exact ⟨a, k, ts, _, rfl, rfl, rfl, hi, ex, f1, f2⟩
    · rename_i k ts hh
      cases h
      cases hh
      obtain ⟨a, rfl, f1, f2⟩ := c
      exact ⟨a, k, ts, _, rfl, rfl, rfl, hi, ex, f1, f2⟩
    · cases h
abbrev DP := En → (Nat → List Nat → Tre → Prop) → Prop
def DPok (B : Bs) (K : PySem.W.Frag) [HasW K] (te : TE) (dp : DP) : Prop :=
  ∀ (Hf H : Hp) (σ τ : L2.St) (δ θ : En) (Kc : Nat → List Nat → Tre → Prop) (Q : VK), σ.length = B.n → δ.length = B.n → Sta B K Hf H (σ ++ τ) (δ ++ θ) → dp δ Kc →
    (∀ i p u t a w Hf' H', Kc i p u → Gw Hf H Hf' H' → treAt δ i = some t → getP t p = some u → σ[i]? = some (some (.ref a)) → TR K Hf' H' t (.ref a) → valP H' (.ref a) p = some w → TR K Hf' H' u w → Q w H') → te σ H Q
theorem valP_grow {H H' : Hp} (e : Same H H') : ∀ {p : List Nat} {v w : V}, valP H v p = some w → valP H' v p = some w
  | [], v, w, h => h
  | m :: p, v, w, h => by
    cases v with
    | ref a =>
      rw [valP] at h ⊢
      cases q : (valsO (H a))[m]? with
      | none => simp only [q] at h; cases h
      | some v' =>
        simp only [q] at h
        have ea : H' a = H a := by
          cases q2 : H a with
          | none => rw [q2] at q; simp [valsO] at q
          | some u => rw [e a u q2]
        rw [ea]
        simp only [q]
        exact valP_grow e h
    | _ => cases h
end Pd
set_option Elab.async false
set_option linter.all false
set_option maxRecDepth 100000
set_option maxHeartbeats 2000000
namespace Pd
open PySem PySem.Spec PyProof.Rows L2
variable {K : PySem.W.Frag} [HasW K] {B : Bs}
structure FrT (K : PySem.W.Frag) [HasW K] (Hf H Hf' H' : Hp) (t : Tre) (v : V) : Prop where
  g : Gw Hf H Hf' H'
  tr : TR K Hf' H' t v
  nd : (foot H' t v).Nodup
  fr : ∀ x ∈ foot H' t v, H x = none ∧ Hf' x = none
structure FrTs (K : PySem.W.Frag) [HasW K] (Hf H Hf' H' : Hp) (ts : List Tre) (vs : List V) : Prop where
  g : Gw Hf H Hf' H'
  tr : TRs K Hf' H' ts vs
  nd : (footL H' ts vs).Nodup
  fr : ∀ x ∈ footL H' ts vs, H x = none ∧ Hf' x = none
theorem tr_growF {Hf H Hf' H' : Hp} {t : Tre} {v : V} (g : Gw Hf H Hf' H') (h : TR K Hf H t v) : TR K Hf' H' t v ∧ foot H' t v = foot H t v :=
  tr_congr g.ff t v h fun x hx => by
    obtain ⟨u, e⟩ := foot_all t v h x hx
    rw [e, g.hh x u e]
theorem trs_growF {Hf H Hf' H' : Hp} {ts : List Tre} {vs : List V} (g : Gw Hf H Hf' H') (h : TRs K Hf H ts vs) : TRs K Hf' H' ts vs ∧ footL H' ts vs = footL H ts vs :=
  trs_congr g.ff ts vs h fun x hx => by
    obtain ⟨u, e⟩ := footL_all ts vs h x hx
    rw [e, g.hh x u e]
theorem Gw.free {Hf H Hf' H' : Hp} (g : Gw Hf H Hf' H') {x : Addr} {u : HO} (e : H x = some u) (f : Hf x = none) : Hf' x = none := by
  cases q : Hf' x with
  | none => rfl
  | some w =>
    rcases g.fn x w q with z | z
    · rw [f] at z; cases z
    · rw [e] at z; cases z
theorem FrT.grow {Hf H Hf1 H1 Hf2 H2 : Hp} {t : Tre} {v : V} (h : FrT K Hf H Hf1 H1 t v) (g : Gw Hf1 H1 Hf2 H2) : FrT K Hf H Hf2 H2 t v := by
  obtain ⟨z1, z2⟩ := tr_growF g h.tr
  refine ⟨h.g.trans g, z1, by rw [z2]; exact h.nd, fun x hx => ?_⟩
  rw [z2] at hx
  obtain ⟨u, e⟩ := foot_all t v h.tr x hx
  exact ⟨(h.fr x hx).1, g.free e (h.fr x hx).2⟩
theorem FrTs.grow {Hf H Hf1 H1 Hf2 H2 : Hp} {ts : List Tre} {vs : List V} (h : FrTs K Hf H Hf1 H1 ts vs) (g : Gw Hf1 H1 Hf2 H2) : FrTs K Hf H Hf2 H2 ts vs := by
  obtain ⟨z1, z2⟩ := trs_growF g h.tr
  refine ⟨h.g.trans g, z1, by rw [z2]; exact h.nd, fun x hx => ?_⟩
  rw [z2] at hx
  obtain ⟨u, e⟩ := footL_all ts vs h.tr x hx
  exact ⟨(h.fr x hx).1, g.free e (h.fr x hx).2⟩
theorem FrTs.cons {Hf H Hf1 H1 Hf2 H2 : Hp} {t : Tre} {v : V} {ts : List Tre} {vs : List V} (h : FrT K Hf H Hf1 H1 t v) (r : FrTs K Hf1 H1 Hf2 H2 ts vs) : FrTs K Hf H Hf2 H2 (t :: ts) (v :: vs) := by
  have h' := h.grow r.g
  have ef := (tr_growF r.g h.tr).2
  refine ⟨h'.g, by rw [TRs]; exact ⟨v, vs, rfl, h'.tr, r.tr⟩, ?_, fun x hx => ?_⟩
  · rw [footL]
    refine List.nodup_append.mpr ⟨h'.nd, r.nd, fun x hx y hy e => ?_⟩
    subst e
    rw [ef] at hx
    obtain ⟨u, eu⟩ := foot_all t v h.tr x hx
    have := (r.fr x hy).1
    rw [eu] at this
    cases this
  · rw [footL] at hx
    rcases List.mem_append.mp hx with q | q
    · exact h'.fr x q
    · refine ⟨?_, (r.fr x q).2⟩
      cases e : H x with
      | none => rfl
      | some u =>
        have := (r.fr x q).1
        rw [h.g.hh x u e] at this
        cases this
theorem FrTs.nod {Hf H Hf1 H1 : Hp} {ts : List Tre} {vs : List V} {k : NK} {p : Addr} {o : HO} (h : FrTs K Hf H Hf1 H1 ts vs) (hp : H1 p = none) (hv : valsO (some o) = vs) (hx : extraO (some o) = []) (hN : NodeOk K (upd H1 p o) p k) : FrT K Hf H Hf1 (upd H1 p o) (.nod k ts) (.ref p) := by
  have g2 := Gw.made h.g.fh (o := o) hp
  obtain ⟨z1, z2⟩ := trs_growF g2 h.tr
  have hf : Hf1 p = none := by
    cases q : Hf1 p with
    | none => rfl
    | some u => rw [h.g.fh p u q] at hp; cases hp
  have h0 : H p = none := by
    cases q : H p with
    | none => rfl
    | some u => rw [h.g.hh p u q] at hp; cases hp
  have ef : foot (upd H1 p o) (.nod k ts) (.ref p) = p :: footL H1 ts vs := by
    rw [foot, upd_same, hv, hx, z2]; rfl
  refine ⟨h.g.trans g2, ?_, ?_, fun x hx' => ?_⟩
  · rw [TR]
    exact ⟨p, rfl, hN, by rw [upd_same, hv]; exact z1⟩
  · rw [ef]
    refine List.nodup_cons.mpr ⟨fun z => ?_, h.nd⟩
    obtain ⟨u, e⟩ := footL_all ts vs h.tr p z
    rw [hp] at e; cases e
  · rw [ef] at hx'
    rcases List.mem_cons.mp hx' with q | q
    · subst q; exact ⟨h0, hf⟩
    · exact h.fr x q
def putT (δ : En) (i : Nat) (t : Tre) : En := match t, δ[i]? with
  | .nod k ts, some s => δ.set i (s.with_ (.tre k ts))
  | _, _ => δ
def putP (δ : En) (i : Nat) (p : List Nat) (u : Tre) : En := match treAt δ i with
  | some t => putT δ i (setP t p u)
  | none => δ
theorem putT_len {δ : En} {i : Nat} {t : Tre} : (putT δ i t).length = δ.length := by
  unfold putT
  split <;> simp
theorem putP_len {δ : En} {i : Nat} {p : List Nat} {u : Tre} : (putP δ i p u).length = δ.length := by
  unfold putP
  split
  · exact putT_len
  · rfl
theorem setP_nod {k k' : NK} {ts ts' : List Tre} : ∀ {p : List Nat}, ∃ k2 ts2, setP (.nod k ts) p (.nod k' ts') = .nod k2 ts2
  | [] => ⟨k', ts', by simp [setP]⟩
  | n :: p => by
    rw [setP]
    cases ts[n]? with
    | none => exact ⟨_, _, rfl⟩
    | some t => exact ⟨_, _, rfl⟩
end Pd
set_option Elab.async false
set_option linter.all false
set_option maxRecDepth 100000
set_option maxHeartbeats 2000000
namespace Pd
open PySem PySem.Spec PyProof.Rows L2
variable {K : PySem.W.Frag} [HasW K] {B : Bs}
theorem footL_one {H : Hp} {t : Tre} {v : V} : ∀ {ts : List Tre} {vs : List V} {n : Nat}, (footL H ts vs).Nodup → ts[n]? = some t → vs[n]? = some v → (foot H t v).Nodup
  | [], _, _, _, e, _ => by simp at e
  | _ :: _, [], _, _, _, e => by simp at e
  | y :: ys, z :: zs, n, nd, e, e' => by
    rw [footL] at nd
    cases n with
    | zero => simp at e e'; subst e; subst e'; exact (List.nodup_append.mp nd).1
    | succ n => exact footL_one (n := n) (List.nodup_append.mp nd).2.1 (by simpa using e) (by simpa using e')
theorem getP_nd {Hf H : Hp} : ∀ (p : List Nat) {t u : Tre} {v w : V}, TR K Hf H t v → (foot H t v).Nodup → getP t p = some u → valP H v p = some w → (foot H u w).Nodup
  | [], t, u, v, w, h, nd, e, e' => by
    simp [getP] at e
    simp [valP] at e'
    subst e; subst e'
    exact nd
  | n :: p, .dat d, u, v, w, h, nd, e, e' => by simp [getP] at e
  | n :: p, .nod k ts, u, v, w, h, nd, e, e' => by
    rw [TR] at h
    obtain ⟨a, rfl, h1, h2⟩ := h
    unfold getP at e
    cases e1 : ts[n]? with
    | none => simp only [e1] at e; cases e
    | some t =>
      simp only [e1] at e
      obtain ⟨v1, q1, q2, q3⟩ := trs_get h2 e1
      unfold valP at e'
      simp only [q1] at e'
      rw [foot] at nd
      have := (List.nodup_append.mp (List.nodup_cons.mp nd).2).2.1
      exact getP_nd p q2 (footL_one this e1 q1) e e'
theorem foot_nd {H : Hp} {k : NK} {ts : List Tre} {b : Addr} (h : (foot H (.nod k ts) (.ref b)).Nodup) : (footL H ts (valsO (H b))).Nodup := by
  rw [foot] at h
  exact (List.nodup_append.mp (List.nodup_cons.mp h).2).2.1
structure At (B : Bs) (K : PySem.W.Frag) [HasW K] (Hf0 H0 Hf H : Hp) (σ : L2.St) (δ : En) (i : Nat) (p : List Nat) (k : NK) (ts : List Tre) (t : Tre) (a b : Addr) : Prop where
  h : treAt δ i = some t
  e : σ[i]? = some (some (.ref a))
  hp : getP t p = some (.nod k ts)
  hv : valP H (.ref a) p = some (.ref b)
  hu : TR K Hf H (.nod k ts) (.ref b)
  tr : TR K Hf H t (.ref a)
theorem At.grow {Hf0 H0 Hf H Hf' H' : Hp} {σ : L2.St} {δ : En} {i : Nat} {p : List Nat} {k : NK} {ts : List Tre} {t : Tre} {a b : Addr} (A : At B K Hf0 H0 Hf H σ δ i p k ts t a b) (g : Gw Hf H Hf' H') : At B K Hf0 H0 Hf' H' σ δ i p k ts t a b :=
  ⟨A.h, A.e, A.hp, valP_grow g.hh A.hv, (tr_growF g A.hu).1, (tr_growF g A.tr).1⟩
theorem DPok.at {te : TE} {dp : DP} (ha : DPok B K te dp) {Hf H : Hp} {σ τ : L2.St} {δ θ : En} {Kc : Nat → List Nat → Tre → Prop} {Q : VK} (hs : σ.length = B.n) (hd : δ.length = B.n) (S : Sta B K Hf H (σ ++ τ) (δ ++ θ)) (q : dp δ Kc)
    (nn : ∀ i p d, ¬ Kc i p (.dat d))
    (k : ∀ i p kk ts t a b Hf' H', Kc i p (.nod kk ts) → Gw Hf H Hf' H' → At B K Hf H Hf' H' σ δ i p kk ts t a b → Q (.ref b) H') : te σ H Q := by
  refine ha Hf H σ τ δ θ _ _ hs hd S q fun i p u t a w Hf1 H1 h1 g1 e1 e2 e3 e4 e5 e6 => ?_
  cases u with
  | dat d => exact (nn i p d h1).elim
  | nod kk ts =>
    have e6' := e6
    rw [TR] at e6'
    obtain ⟨b, rfl, nk, h2⟩ := e6'
    exact k i p kk ts t a b Hf1 H1 h1 g1 ⟨e1, e3, e2, e5, e6, e4⟩
theorem At.node {Hf0 H0 Hf H : Hp} {σ : L2.St} {δ : En} {i : Nat} {p : List Nat} {k : NK} {ts : List Tre} {t : Tre} {a b : Addr} (A : At B K Hf0 H0 Hf H σ δ i p k ts t a b) : NodeOk K H b k ∧ TRs K Hf H ts (valsO (H b)) := by
  have := A.hu
  rw [TR] at this
  obtain ⟨b', e, n1, n2⟩ := this
  cases e
  exact ⟨n1, n2⟩
theorem At.nd {Hf0 H0 Hf H : Hp} {σ τ : L2.St} {δ θ : En} {i : Nat} {p : List Nat} {k : NK} {ts : List Tre} {t : Tre} {a b : Addr} (A : At B K Hf0 H0 Hf H σ δ i p k ts t a b) (S0 : Sta B K Hf H (σ ++ τ) (δ ++ θ)) (hs : σ.length = B.n) (hd : δ.length = B.n) :
    (footL H ts (valsO (H b))).Nodup ∧ ∀ x ∈ footL H ts (valsO (H b)), Hf x = none := by
  obtain ⟨a', k2, ts2, s, et, e1, e2, e3, e4, e5, e6⟩ := treAt_ok S0 hs hd A.h
  have := A.e
  rw [e4] at this
  cases this
  subst et
  obtain ⟨w', q1, q2, q3⟩ := getP_ok p e6.1 A.hp
  rw [A.hv] at q1
  cases q1
  refine ⟨foot_nd (getP_nd p e6.1 e6.2.1 A.hp A.hv), fun x hx => e6.2.2 x (q3 x ?_)⟩
  rw [foot]
  exact List.mem_cons_of_mem _ (List.mem_append_right _ hx)
end Pd
set_option Elab.async false
set_option linter.all false
set_option maxRecDepth 100000
set_option maxHeartbeats 2000000
namespace Pd
open PySem PySem.Spec PyProof.Rows L2
variable {K : PySem.W.Frag} [HasW K] {B : Bs}
end Pd
set_option Elab.async false
set_option linter.all false
set_option maxRecDepth 100000
set_option maxHeartbeats 2000000
namespace Pd
open PySem PySem.Spec PyProof.Rows L2
variable {K : PySem.W.Frag} [HasW K] {B : Bs}
def Lo (B : Bs) (Hf H : Hp) (L : L2.St) (M : En) (x : Addr) : Prop := Hf x = none ∧ B.H x = none ∧ (∃ u, H x = some u) ∧ ∀ (k : Nat) c t u, L[k]? = some (some (.ref c)) → M[k]? = some t → t.obj = some u → x ∉ mf H c u
theorem Lo.grow {Hf H Hf' H' : Hp} {L : L2.St} {M : En} {x : Addr} (h : Lo B Hf H L M x) (S : Sta B K Hf H L M) (g : Gw Hf H Hf' H') : Lo B Hf' H' L M x := by
  obtain ⟨h1, h2, ⟨u, h3⟩, h4⟩ := h
  refine ⟨g.free h3 h1, h2, ⟨u, g.hh x u h3⟩, fun k c t u q1 q2 q3 z => ?_⟩
  rw [S.mf_grow g q1 q2 q3] at z
  exact h4 k c t u q1 q2 q3 z
structure LT (B : Bs) (K : PySem.W.Frag) [HasW K] (Hf H : Hp) (L : L2.St) (M : En) (t : Tre) (v : V) : Prop where
  tr : TR K Hf H t v
  nd : (foot H t v).Nodup
  lo : ∀ x ∈ foot H t v, Lo B Hf H L M x
structure LTs (B : Bs) (K : PySem.W.Frag) [HasW K] (Hf H : Hp) (L : L2.St) (M : En) (ts : List Tre) (vs : List V) : Prop where
  tr : TRs K Hf H ts vs
  nd : (footL H ts vs).Nodup
  lo : ∀ x ∈ footL H ts vs, Lo B Hf H L M x
theorem LT.grow {Hf H Hf' H' : Hp} {L : L2.St} {M : En} {t : Tre} {v : V} (h : LT B K Hf H L M t v) (S : Sta B K Hf H L M) (g : Gw Hf H Hf' H') : LT B K Hf' H' L M t v := by
  obtain ⟨z1, z2⟩ := tr_growF g h.tr
  exact ⟨z1, by rw [z2]; exact h.nd, fun x hx => (h.lo x (by rw [z2] at hx; exact hx)).grow S g⟩
theorem LTs.grow {Hf H Hf' H' : Hp} {L : L2.St} {M : En} {t : List Tre} {v : List V} (h : LTs B K Hf H L M t v) (S : Sta B K Hf H L M) (g : Gw Hf H Hf' H') : LTs B K Hf' H' L M t v := by
  obtain ⟨z1, z2⟩ := trs_growF g h.tr
  exact ⟨z1, by rw [z2]; exact h.nd, fun x hx => (h.lo x (by rw [z2] at hx; exact hx)).grow S g⟩
end Pd
set_option Elab.async false
set_option linter.all false
set_option maxRecDepth 100000
set_option maxHeartbeats 2000000
namespace Pd
open PySem PySem.Spec PyProof.Rows L2
variable {K : PySem.W.Frag} [HasW K] {B : Bs}
end Pd
set_option Elab.async false
set_option linter.all false
set_option maxRecDepth 100000
set_option maxHeartbeats 2000000
namespace Pd
open PySem PySem.Spec PyProof.Rows L2
variable {K : PySem.W.Frag} [HasW K] {B : Bs}
theorem LTs.made {Hf H : Hp} {σ τ : L2.St} {δ θ : En} {ts : List Tre} {vs : List V} {k : NK} {p : Addr} {o : HO} (S : Sta B K Hf H (σ ++ τ) (δ ++ θ)) (l : LTs B K Hf H (σ ++ τ) (δ ++ θ) ts vs) (hp : H p = none) (hv : valsO (some o) = vs) (hx : extraO (some o) = []) (hN : NodeOk K (upd H p o) p k) :
    Sta B K Hf (upd H p o) (σ ++ (τ ++ [some (.ref p)])) (δ ++ (θ ++ [Sl.own (.tre k ts)])) := by
  have g := Gw.made S.fh (o := o) hp
  obtain ⟨z1, z2⟩ := trs_growF g l.tr
  have hf := none_of S.fh hp
  have ef : foot (upd H p o) (.nod k ts) (.ref p) = p :: footL H ts vs := by
    rw [foot, upd_same, hv, hx, z2]; rfl
  have np : p ∉ footL H ts vs := fun z => by
    obtain ⟨u, e⟩ := footL_all ts vs l.tr p z
    rw [hp] at e; cases e
  rw [← List.append_assoc, ← List.append_assoc]
  refine (S.grow g).pushO (o := .tre k ts) hf ⟨?_, ?_, fun x hx' => ?_⟩ (fun kk a s u h1 h2 h3 x hx' hy => ?_) fun x hx' => ?_
  · rw [TR]; exact ⟨p, rfl, hN, by rw [upd_same, hv]; exact z1⟩
  · rw [ef]; exact List.nodup_cons.mpr ⟨np, l.nd⟩
  · rw [ef] at hx'
    rcases List.mem_cons.mp hx' with q | q
    · rw [q]; exact hf
    · exact (l.lo x q).1
  · rw [S.mf_grow g h1 h2 h3] at hx'
    have hy : x ∈ foot (upd H p o) (.nod k ts) (.ref p) := hy
    rw [ef] at hy
    rcases List.mem_cons.mp hy with q | q
    · subst q; exact S.far0 hp kk a s u h1 h2 h3 hx'
    · exact (l.lo x q).2.2.2 kk a s u h1 h2 h3 hx'
  · have hx' : x ∈ foot (upd H p o) (.nod k ts) (.ref p) := hx'
    rw [ef] at hx'
    rcases List.mem_cons.mp hx' with q | q
    · rw [q]; exact S.fresh0 hp
    · exact (l.lo x q).2.1
end Pd
set_option Elab.async false
set_option linter.all false
set_option maxRecDepth 100000
set_option maxHeartbeats 2000000
namespace Pd
open PySem PySem.Spec PyProof.Rows L2
variable {K : PySem.W.Frag} [HasW K] {B : Bs} {X : Cx}
structure GM (P : Program) (w : World) (K : PySem.W.Frag) (mg : Str → Option Value) (base : Heap) (k : Nat) (n m : Str) (ps : List Str) (sp : Sp) : Prop where
  ex : ∃ fd, FnG P w K mg base CX0 k (He.ma K (He.ga K n) m) fd ps sp ∧ Binds K fd ps []
  c : Cls K (He.ga K n)
  nm : NmAt K n (He.ga K n)
  me : Meth K (He.ga K n) m (He.ma K (He.ga K n) m)
structure GN (P : Program) (w : World) (K : PySem.W.Frag) (mg : Str → Option Value) (base : Heap) (k : Nat) (n : Str) (ps : List Str) (sp : Sp) : Prop where
  ex : ∃ j fd, j + 1 ≤ k ∧ FnG P w K mg base CX0 j (He.ma K (He.ga K n) "__init__") fd ps sp ∧ Binds K fd ps []
  mak : Mk K (He.ga K n) (He.ma K (He.ga K n) "__init__")
  nm : NmAt K n (He.ga K n)
  m : mg n = some (.ref (He.ga K n))
section
variable {P : Program} {w : World} {mg : Str → Option Value} {base : Heap} {j k : Nat} {n m : Str} {ps : List Str} {sp : Sp}
theorem GM.mono (G : GM P w K mg base j n m ps sp) (h : j ≤ k) : GM P w K mg base k n m ps sp := by
  obtain ⟨⟨fd, a, b⟩, c, d, e⟩ := G
  exact ⟨⟨fd, a.mono h, b⟩, c, d, e⟩
theorem GN.mono (G : GN P w K mg base j n ps sp) (h : j ≤ k) : GN P w K mg base k n ps sp := by
  obtain ⟨⟨i, fd, q, a, b⟩, c, d, e⟩ := G
  exact ⟨⟨i, fd, Nat.le_trans q h, a, b⟩, c, d, e⟩
end
section
variable {k : Nat} {n m : Str} {ps : List Str} {sp : Sp} {o e : Expr} {es : List Expr} {apos pos p : Pos} {ta : TE} {t : TA}
end
end Pd
set_option Elab.async false
set_option linter.all false
set_option maxRecDepth 100000
set_option maxHeartbeats 2000000
namespace Pd
open PySem PySem.Spec PyProof.Rows L2
variable {K : PySem.W.Frag} [HasW K] {B : Bs}
end Pd
set_option Elab.async false
set_option linter.all false
set_option maxRecDepth 100000
set_option maxHeartbeats 2000000
namespace Pd
open PySem PySem.Spec PyProof.Rows L2
variable {K : PySem.W.Frag} [HasW K] {B : Bs}
end Pd
set_option Elab.async false
set_option linter.all false
set_option maxRecDepth 100000
set_option maxHeartbeats 2000000
namespace Pd
open PySem PySem.Spec PyProof.Rows L2 RZ
section
variable {X : Cx}
end
variable {K : PySem.W.Frag} [HasW K] {B : Bs}
def dFz (e : DE) : DE := fun δ k => e δ fun r δ1 => datR r δ1 fun d δ2 => k (.dat d) δ2
theorem de_fz {te : TE} {e : DE} (he : DEok B K te e) : DEok B K te (dFz e) := by
  intro Hf H σ τ δ θ Kc Q hs hd S h k
  refine he Hf H σ τ δ θ _ _ hs hd S h fun r δ1 v Hf1 H1 h1 hd1 e1 S1 => ?_
  obtain ⟨d, δ2, Hf2, h2, hd2, e2, q2, S2⟩ := dat_top S1 hs hd1 h1
  exact k (.dat d) δ2 v Hf2 H1 h2 hd2 (e1.trans e2) (S2.res (r := .dat d) (Gw.refl S2.fh) q2)
theorem rise_sorted : ∀ {l : List Str} {p : Str}, risingS p l = true → (p :: l).Pairwise fun a b => leS a b = true
  | [], p, _ => List.pairwise_singleton _ _
  | x :: r, p, h => by
    unfold risingS at h
    obtain ⟨h1, h2⟩ := Bool.and_eq_true_iff.mp h
    have e : leS p x = true := by
      unfold leS
      rw [PyProof.Rows.ltCps_eq] at h1
      simpa using h1
    have ih := rise_sorted h2
    refine List.pairwise_cons.mpr ⟨fun y hy => ?_, ih⟩
    rcases List.mem_cons.mp hy with q | q
    · rw [q]; exact e
    · exact leS_tr p x y e (List.rel_of_pairwise_cons ih q)
theorem srt_perm {xs ys : List Str} (p : ys.Perm xs) (nd : xs.Nodup) (h : sortedS ys = true) : ys = srt xs := by
  refine srt_of (rise_of ?_ (p.nodup_iff.mpr nd)) fun x => p.mem_iff
  cases ys with
  | nil => exact List.Pairwise.nil
  | cons x r => exact rise_sorted h
section
variable {X : Cx}
def rSrtD (K : PySem.W.Frag) : List V → Hp → VK → Prop := fun xs H Q => ∃ (a : Addr) (kvs : List (Key × V)) (ks : List Str), xs = [.ref a] ∧ Rd H a (.dK kvs) ∧ kvs.map (·.1) = ks.map Sum.inr ∧ ks.length < 64 ∧
    ∀ ys p, ys.Perm ks → sortedS ys = true → H p = none → Q (.ref p) (upd H p (.lst (ys.map V.str)))
def rSrtX (K : PySem.W.Frag) : List V → Hp → VK → Prop := fun xs H Q => rSortedS K xs H Q ∨ rSrtD K xs H Q
theorem call_srtX (hc : X.calm = true) : CallR X (.builtin "sorted") (rSrtX X.K) := call_or cr_sortedS (call_sortedD hc)
end
def gSrt : List D → (Re → Prop) → Prop
  | [.list ds], k => match strsOf ds with
    | some xs => xs.Nodup ∧ xs.length < 64 ∧ k (.new (.lst ((srt xs).map PyData.str)))
    | none => False
  | [.dict kvs], k => notXL kvs = true ∧ (match strsOf (kvs.map (·.1)) with
    | some xs => xs.Nodup ∧ xs.length < 64 ∧ k (.new (.lst ((srt xs).map PyData.str)))
    | none => False)
  | _, _ => False
theorem drk_keys {Hf : Hp} : ∀ {ks : List (Key × V)} {kvs : List (D × D)} {xs : List Str}, DrK K Hf ks kvs → strsOf (kvs.map (·.1)) = some xs → ks.map (·.1) = xs.map Sum.inr
  | _, _, xs, .nil, e => by
    cases e
    rfl
  | (k, v) :: r, _, xs, .cons h t, e => by
    cases k with
    | inl i => cases e
    | inr z =>
      rename_i kvs
      have e : (strsOf (kvs.map (·.1))).map (z :: ·) = some xs := e
      cases q : strsOf (kvs.map (·.1)) with
      | none => rw [q] at e; cases e
      | some ys =>
        rw [q] at e
        cases e
        rw [List.map_cons, List.map_cons, drk_keys t q]
theorem cbd_srt : CbD K (rSrtX K) gSrt := by
  intro Hf H vs xs Kc Q e hv g q
  unfold gSrt at g
  split at g
  · split at g
    · rename_i ds ys hy
      obtain ⟨v, rfl, hw⟩ := one_of hv
      obtain ⟨a, ws, rfl, h1, h2⟩ := hw.list e
      refine .inl ⟨a, ys, rfl, .inl (strs_ok h2 hy ▸ h1), g.2.1, fun zs p hp hs hn => ?_⟩
      rw [srt_perm hp g.1 hs]
      exact newL (K := K) g.2.2 e hn (dpa_strs _) q
    · exact g.elim
  · obtain ⟨nx, g⟩ := g
    split at g
    · rename_i kvs ys hy
      obtain ⟨v, rfl, hw⟩ := one_of hv
      obtain ⟨a, ws, rfl, h1, h2⟩ := hw.dict e nx
      refine .inr ⟨a, ws, ys, rfl, h1, drk_keys h2 hy, g.2.1, fun zs p hp hs hn => ?_⟩
      rw [srt_perm hp g.1 hs]
      exact newL (K := K) g.2.2 e hn (dpa_strs _) q
    · exact g.elim
  · exact g.elim
end Pd
set_option Elab.async false
set_option linter.all false
set_option maxRecDepth 100000
set_option maxHeartbeats 2000000
namespace Pd
open PySem PySem.Spec PyProof.Rows L2 L2.DX
section
variable {X : Cx}
end
variable {K : PySem.W.Frag} [HasW K] {B : Bs}
end Pd
set_option Elab.async false
set_option linter.all false
set_option maxRecDepth 100000
set_option maxHeartbeats 2000000
namespace Pd
open PySem PySem.Spec PyProof.Rows L2
variable {K : PySem.W.Frag} [HasW K] {B : Bs}
def rAbs : List V → Hp → VK → Prop := fun xs H Q => ∃ i, xs = [.int i] ∧ Q (.int (if i < 0 then -i else i)) H
theorem call_absX {X : Cx} : CallR X (.builtin "abs") rAbs := call_abs
def gAbs : List D → (Re → Prop) → Prop
  | [.int i], k => k (.dat (.int (if i < 0 then -i else i)))
  | _, _ => False
theorem cbd_abs : CbD K rAbs gAbs := by
  intro Hf H vs xs Kc Q e hv g q
  unfold gAbs at g
  split at g
  · obtain ⟨v, rfl, hw⟩ := one_of hv
    cases hw.int
    exact ⟨_, rfl, scalar g e (fun _ => .int _) q⟩
  · exact g.elim
theorem Vw.grow {Hf H Hf' H' : Hp} {v : V} {d : D} (h : Vw K Hf H v d) (g : Gw Hf H Hf' H') : Vw K Hf' H' v d := by
  rcases h with h | ⟨a, vs, ds, rfl, rfl, h1, h2⟩ | ⟨a, vs, ds, rfl, rfl, h1, h2⟩ | ⟨a, o, xs, kvs, rfl, rfl, h1, h2, h3, h4⟩
  · exact .inl (Same.dp g.ff h)
  · exact .inr (.inl ⟨a, vs, ds, rfl, rfl, rd_mono g.hh h1, Same.dpa g.ff h2⟩)
  · exact .inr (.inr (.inl ⟨a, vs, ds, rfl, rfl, rd_mono g.hh h1, dpk_mono g.ff _ _ h2⟩))
  · exact .inr (.inr (.inr ⟨a, o, xs, kvs, rfl, rfl, h1, g.hh _ _ h2, h3, dpt_mono g.ff _ _ h4⟩))
end Pd
set_option Elab.async false
set_option linter.all false
set_option maxRecDepth 100000
set_option maxHeartbeats 2000000
namespace Pd
open PySem PySem.Spec PyProof.Rows L2
variable {K : PySem.W.Frag} [HasW K] {B : Bs}
structure Dcl (Hf1 H1 Hf H : Hp) (Dl : Addr) (acc : List (Str × Addr × Addr)) : Prop where
  ff : Same Hf1 Hf
  fh : Same Hf H
  hh : Same H1 H
  fn : ∀ a o, Hf a = some o → Hf1 a = some o ∨ H1 a = none
  fD : Hf Dl = none
  hD : H Dl = some (.lst (acc.map fun t => V.ref t.2.1))
  tp : ∀ t ∈ acc, H t.2.1 = some (.tup [.str t.1, .ref t.2.2])
  ls : ∀ t ∈ acc, H t.2.2 = some (.lst []) ∧ H1 t.2.2 = none ∧ Hf t.2.2 = none ∧ t.2.2 ≠ Dl
  nd : (acc.map (·.2.2)).Nodup
end Pd
set_option Elab.async false
set_option linter.all false
set_option maxRecDepth 100000
set_option maxHeartbeats 2000000
namespace Pd
open PySem PySem.Spec PyProof.Rows L2
variable {K : PySem.W.Frag} [HasW K] {B : Bs}
section
variable {P : Program} {w : World} {mg : Str → Option Value} {base : Heap} {k : Nat} {m q n : Str} {ps N : List Str} {st : Stmt} {f : Addr} {fd : FuncData} {fs : FS} {dt : DT}
structure Own1 (K : PySem.W.Frag) (n : Str) : Prop where
  c : Cls K (He.ga K n)
  nm : NmAt K n (He.ga K n)
end
end Pd
set_option Elab.async false
set_option linter.all false
set_option maxRecDepth 100000
set_option maxHeartbeats 2000000
namespace Pd
open PySem PySem.Spec PyProof.Rows L2
variable {K : PySem.W.Frag} [HasW K] {B : Bs}
end Pd
set_option Elab.async false
set_option linter.all false
set_option maxRecDepth 100000
set_option maxHeartbeats 2000000
namespace Pd
open PySem PySem.Spec PyProof.Rows L2
variable {K : PySem.W.Frag} [HasW K] {B : Bs}
theorem or_flat {Hf H : Hp} {a : Addr} {ts : List Tre} {ds : List D} (h : OR K Hf H a (.tre .lst ts)) (e : datsT ts = some ds) : OR K Hf H a (.lst ds) := by
  have h1 := h.1
  rw [TR] at h1
  obtain ⟨b, e1, ⟨vs, q⟩, h2⟩ := h1
  cases e1
  rw [q] at h2
  exact ⟨vs, q, datsT_ok h2 e⟩
theorem Sta.flat {Hf H : Hp} {L : L2.St} {M : En} {x : Option V} {ts : List Tre} {ds : List D} (S : Sta B K Hf H (L ++ [x]) (M ++ [.own (.tre .lst ts)])) (e : datsT ts = some ds) : Sta B K Hf H (L ++ [x]) (M ++ [.own (.lst ds)]) := by
  have hl : L.length = M.length := by
    have := S.len
    simp at this
    exact this
  have g1 : (L ++ [x])[M.length]? = some x := by rw [← hl]; simp
  have g2 : (M ++ [Sl.own (.tre .lst ts)])[M.length]? = some (.own (.tre .lst ts)) := by simp
  obtain ⟨a, ha, hf, ho⟩ := S.cell _ x _ g1 g2
  subst ha
  have q := S.mutG (o' := .lst ds) g1 g2 rfl (Same.refl Hf) S.fh (fun _ _ h => .inl h) (fun _ _ h _ => h) ho.all hf (or_flat ho e) (fun y hy => by
    left
    rw [List.mem_singleton.mp hy]
    exact mf_self)
  have e2 : (M ++ [Sl.own (.tre .lst ts)]).set M.length (Sl.with_ (.own (.tre .lst ts)) (.lst ds)) = M ++ [.own (.lst ds)] := by
    rw [List.set_append_right _ _ (Nat.le_refl _)]
    simp [Sl.with_]
  rw [e2] at q
  exact q
end Pd
set_option Elab.async false
set_option linter.all false
set_option maxRecDepth 100000
set_option maxHeartbeats 2000000
namespace Pd
open PySem PySem.Spec PyProof.Rows L2
variable {K : PySem.W.Frag} [HasW K] {B : Bs}
def keysOk : List (List Key) → List Tre → Bool
  | [], [] => true
  | k :: ks, .dat a :: _ :: ts => decide (keyT a = some k) && keysOk ks ts
  | _, _ => false
theorem keysOk_sq {Hf H : Hp} : ∀ {xs : List XE} {ts : List Tre}, TRs K Hf H ts (kidsX xs) → keysOk (xs.map (·.1)) ts = true → ∀ x ∈ xs, SqN K Hf x.2.1 (x.1.map kV)
  | [], _, _, _ => fun x hx => nomatch hx
  | (k, p, v) :: xs, ts, h, e => by
    have h : TRs K Hf H ts (V.ref p :: v :: kidsX xs) := h
    rw [List.map_cons] at e
    unfold keysOk at e
    split at e
    · rename_i e1 e2; cases e1
    · rename_i k' ks' a t ts' e1 e2
      cases e1
      rw [Bool.and_eq_true] at e
      rw [TRs] at h
      obtain ⟨v1, ws1, e3, h1, h2⟩ := h
      rw [TRs] at h2
      obtain ⟨v2, ws2, e4, h3, h4⟩ := h2
      cases e3
      cases e4
      rw [TR] at h1
      intro x hx
      rcases List.mem_cons.mp hx with z | z
      · subst z; exact key_dr h1 (of_decide_eq_true e.1)
      · exact keysOk_sq h4 e.2 x z
    · cases e
theorem At.dta {Hf0 H0 Hf H : Hp} {σ : L2.St} {δ : En} {i : Nat} {p : List Nat} {ks : List (List Key)} {ts : List Tre} {t : Tre} {a b : Addr} (A : At B K Hf0 H0 Hf H σ δ i p (.dT ks) ts t a b) (fh : Same Hf H) (ek : keysOk ks ts = true) :
    ∃ o xs, H b = some (.ext (PinX b o)) ∧ (b == sysModules) = false ∧ DTo (HasW.w K) o xs ∧ xs.map (·.1) = ks ∧ TRs K Hf H ts (kidsX xs) ∧ valsO (H b) = kidsX xs ∧ DTa (HasW.w K) K H b xs := by
  obtain ⟨⟨o, xs, q1, q2, q3, q4⟩, q5⟩ := A.node
  have ev : valsO (H b) = kidsX xs := by rw [q1]; exact valsO_x q3
  rw [ev] at q5
  refine ⟨o, xs, q1, q2, q3, q4, q5, ev, o, q2, q1, q3, fun x hx => ?_⟩
  rw [← q4] at ek
  exact sqt_mono fh (keysOk_sq q5 ek x hx)
end Pd
set_option Elab.async false
set_option linter.all false
set_option maxRecDepth 100000
set_option maxHeartbeats 2000000
namespace Pd
open PySem PySem.Spec PyProof.Rows L2
section
variable {α β γ : Type} {r : γ}
theorem bnd {m : Option α} {K : α → Option γ} {p : Prop} (h : m.bind K = some r) (k : ∀ v, m = some v → K v = some r → p) : p := by
  cases m with
  | none => cases h
  | some v => exact k v rfl h
theorem ite_h {b : Bool} {A B : Option γ} {p q : Prop} (h : (if b = true then A else B) = some r) (ht : b = true → A = some r → p) (hf : b = false → B = some r → q) : if b = true then p else q := by
  cases b with
  | true => simp only [if_true] at h ⊢; exact ht rfl h
  | false => simp at h ⊢; exact hf rfl h
end
def dK (m : List (Key × D)) : D := .dict (m.map fun p => (kD p.1, p.2))
section
variable {δ : En} {k : Re → En → Prop} {i : Nat}
theorem c_varD {d : D} (e : δ[i]? = some (.dat d)) (h : k (.dat d) δ) : dVar i δ k := by simp only [dVar, e]; exact h
theorem c_varO {o : MO} (e : δ[i]? = some (.own o)) (h : k (.slot i) δ) : dVar i δ k := by simp only [dVar, e]; exact h
theorem c_varI {o : MO} (e : δ[i]? = some (.io o)) (h : k (.slot i) δ) : dVar i δ k := by simp only [dVar, e]; exact h
theorem c_c {d : D} (h : k (.dat d) δ) : dC d δ k := h
theorem c_op {g : D → D → (Re → Prop) → Prop} {a b : DE} (h : a δ fun r1 δ1 => b δ1 fun r2 δ2 => vwR r1 δ2 fun x => vwR r2 δ2 fun y => g x y fun res => k res δ2) : dOp g a b δ k := h
theorem c_un {g : D → (Re → Prop) → Prop} {a : DE} (h : a δ fun r1 δ1 => vwR r1 δ1 fun x => g x fun res => k res δ1) : dUn g a δ k := h
theorem c_tup {a : DA} (h : a δ fun rs δ1 => datRs rs δ1 fun ds δ2 => ds.length ≤ 1000 ∧ k (.dat (.tuple ds)) δ2) : dTup a δ k := h
theorem c_lst {a : DA} (h : a δ fun rs δ1 => datRs rs δ1 fun ds δ2 => ds.length ≤ 1000 ∧ k (.new (.lst ds)) δ2) : dLst a δ k := h
theorem c_cb {g : List D → (Re → Prop) → Prop} {a : DA} (h : a δ fun rs δ1 => vwRs rs δ1 fun ds => g ds fun res => k res δ1) : dCB g a δ k := h
theorem c_nil {k : List Re → En → Prop} (h : k [] δ) : dNil δ k := h
theorem c_cons {k : List Re → En → Prop} {a : DE} {as : DA} (h : a δ fun r δ1 => as δ1 fun rs δ2 => k (r :: rs) δ2) : dCons a as δ k := h
theorem v_d {d : D} {k : D → Prop} (h : k d) : vwR (.dat d) δ k := h
theorem v_n {xs : List D} {k : D → Prop} (h : k (.list xs)) : vwR (.new (.lst xs)) δ k := h
theorem v_sL {xs : List D} {k : D → Prop} (e : δ[i]? = some (.own (.lst xs))) (h : k (.list xs)) : vwR (.slot i) δ k := by simp only [vwR, e]; exact h
theorem v_iK {m : List (Key × D)} {k : D → Prop} (e : δ[i]? = some (.io (.dK m))) (h : k (dK m)) : vwR (.slot i) δ k := by simp only [vwR, e]; exact h
theorem v_nil {k : List D → Prop} (h : k []) : vwRs [] δ k := h
theorem v_cons {r : Re} {rs : List Re} {k : List D → Prop} (h : vwR r δ fun d => vwRs rs δ fun ds => k (d :: ds)) : vwRs (r :: rs) δ k := h
theorem t_d {d : D} {k : D → En → Prop} (h : k d δ) : datR (.dat d) δ k := h
theorem t_n {xs : List D} {k : D → En → Prop} (h : k (.list xs) δ) : datR (.new (.lst xs)) δ k := h
theorem t_nK {m : List (Key × D)} {k : D → En → Prop} (h : k (dK m) δ) : datR (.new (.dK m)) δ k := h
theorem t_sL {xs : List D} {k : D → En → Prop} (e : δ[i]? = some (.own (.lst xs))) (h : k (.list xs) (δ.set i (.dat (.list xs)))) : datR (.slot i) δ k := by simp only [datR, e]; exact h
theorem t_nil {k : List D → En → Prop} (h : k [] δ) : datRs [] δ k := h
theorem t_cons {r : Re} {rs : List Re} {k : List D → En → Prop} (h : datR r δ fun d δ1 => datRs rs δ1 fun ds δ2 => k (d :: ds) δ2) : datRs (r :: rs) δ k := h
theorem b_b {b : Bool} {k : Bool → Prop} (h : k b) : isB (.dat (.bool b)) δ k := h
def oB : D → Option Bool
  | .bool b => some b
  | _ => none
theorem b_d {d : D} {b : Bool} {k : Bool → Prop} (e : oB d = some b) (h : k b) : isB (.dat d) δ k := by
  cases d <;> cases e
  exact h
theorem c_test {a : DE} {k : Bool → En → Prop} (h : a δ fun r δ1 => isB r δ1 fun c => k c δ1) : dTest a δ k := h
theorem c_not {t : DB} {k : Bool → En → Prop} (h : t δ fun c δ1 => k (!c) δ1) : dNot t δ k := h
theorem c_and {t u : DB} {k : Bool → En → Prop} {c : Bool} {δ' : En} (hk : k c δ') (h : k c δ' → t δ fun c δ1 => if c = true then u δ1 k else k false δ1) : dAnd t u δ k := h hk
theorem c_or {t u : DB} {k : Bool → En → Prop} {c : Bool} {δ' : En} (hk : k c δ') (h : k c δ' → t δ fun c δ1 => if c = true then k true δ1 else u δ1 k) : dOr t u δ k := h hk
theorem c_yes {k : Bool → En → Prop} (h : k true δ) : dYes δ k := h
theorem c_notV {a : DE} (h : a δ fun r δ1 => isB r δ1 fun c => k (.dat (.bool (!c))) δ1) : dNotV a δ k := h
theorem c_andV {a b : DE} {r : Re} {δ' : En} (hk : k r δ') (h : k r δ' → a δ fun r δ1 => isB r δ1 fun c => if c = true then b δ1 k else k (.dat (.bool false)) δ1) : dAndV a b δ k := h hk
theorem c_ifx {t : DB} {a b : DE} {r : Re} {δ' : En} (hk : k r δ') (h : k r δ' → t δ fun c δ1 => if c = true then a δ1 k else b δ1 k) : dIf t a b δ k := h hk
theorem chain_eq {g g' : D → D → (Re → Prop) → Prop} {a b c : DE} : dChain g g' a b c δ k = a δ fun r1 δ1 => b δ1 fun r2 δ2 => vwR r1 δ2 fun x => vwR r2 δ2 fun y => g x y fun res =>
    chR res (c δ2 fun r3 δ3 => vwR r2 δ3 fun y' => vwR r3 δ3 fun z => g' y' z fun res' => k res' δ3) (k (.dat (.bool false)) δ2) := by
  unfold dChain
  congr 1
  funext r1 δ1
  congr 1
  funext r2 δ2
  congr 1
  funext x
  congr 1
  funext y
  congr 1
  funext res
  cases res with
  | dat d =>
    cases d with
    | bool b => cases b <;> simp [chR, br]
    | _ => rfl
  | _ => rfl
theorem c_chain {g g' : D → D → (Re → Prop) → Prop} {a b c : DE} {r : Re} {δ' : En} (hk : k r δ') (h : k r δ' → a δ fun r1 δ1 => b δ1 fun r2 δ2 => vwR r1 δ2 fun x => vwR r2 δ2 fun y => g x y fun res =>
    chR res (c δ2 fun r3 δ3 => vwR r2 δ3 fun y' => vwR r3 δ3 fun z => g' y' z fun res' => k res' δ3) (k (.dat (.bool false)) δ2)) : dChain g g' a b c δ k := by
  rw [chain_eq]; exact h hk
theorem ch_h {α : Type} {r : α} {b : Bool} {A B : Option α} {p q : Prop} (h : (if b = true then A else B) = some r) (ht : b = true → A = some r → p) (hf : b = false → B = some r → q) : chR (.dat (.bool b)) p q := by
  cases b with
  | true => simp only [if_true] at h; simp only [chR, br, if_true]; exact ht rfl h
  | false => simp at h; simp [chR, br]; exact hf rfl h
theorem c_no {k : Option Int → En → Prop} (h : k none δ) : dNoPart δ k := h
def oI : D → Option Int
  | .int i => some i
  | _ => none
theorem c_part {a : DE} {k : Option Int → En → Prop} (h : a δ fun r δ1 => vwR r δ1 fun d => intK d fun i => k (some i) δ1) : dPart a δ k := by
  have e : dPart a δ k = a δ fun r δ1 => vwR r δ1 fun d => intK d fun i => k (some i) δ1 := by
    unfold dPart
    congr 1
  rw [e]; exact h
theorem i_d {d : D} {i : Int} {k : Int → Prop} (e : oI d = some i) (h : k i) : intK d k := by cases d <;> cases e; exact h
theorem i_i {i : Int} {k : Int → Prop} (h : k i) : intK (.int i) k := h
theorem c_sl {g : D → Option Int → Option Int → (Re → Prop) → Prop} {a : DE} {l h : DO} (q : a δ fun r δ1 => l δ1 fun lo δ2 => h δ2 fun hi δ3 => vwR r δ3 fun x => g x lo hi fun res => k res δ3) : dSl g a l h δ k := q
theorem c_rev {a : DE} (h : a δ fun r δ1 => vwR r δ1 fun d => lstK d fun xs => k (.new (.lst xs.reverse)) δ1) : dRev a δ k := by
  have e : dRev a δ k = a δ fun r δ1 => vwR r δ1 fun d => lstK d fun xs => k (.new (.lst xs.reverse)) δ1 := by
    unfold dRev
    congr 1
  rw [e]; exact h
def oL : D → Option (List D)
  | .list xs => some xs
  | _ => none
theorem lk_d {d : D} {xs : List D} {k : List D → Prop} (e : oL d = some xs) (h : k xs) : lstK d k := by cases d <;> cases e; exact h
def oS : D → Option Str
  | .str z => some z
  | _ => none
end
end Pd
set_option Elab.async false
set_option linter.all false
set_option maxRecDepth 100000
set_option maxHeartbeats 2000000
namespace Pd
open PySem PySem.Spec PyProof.Rows L2
section
variable {x y z d : D} {k : Re → Prop} {b : Bool} {i : Int} {s : Str} {xs : List D}
def gd {α : Type} (c : Bool) (x : α) : Option α := if c = true then some x else none
theorem gd_some {α : Type} {c : Bool} {x v : α} (h : gd c x = some v) : c = true ∧ v = x := by
  unfold gd at h
  split at h
  · rename_i q; exact ⟨q, (Option.some.inj h).symm⟩
  · cases h
theorem gd_t {α : Type} {c : Bool} {x : α} (h : c = true) : gd c x = some x := by unfold gd; rw [if_pos h]
def oAdd : D → D → Option D
  | .int i, .int j => some (.int (i + j))
  | .str a, .str b => gd (decide (a.length + b.length ≤ 1000000)) (.str (a ++ b))
  | .tuple xs, .tuple ys => gd (decide (xs.length + ys.length ≤ 1000000)) (.tuple (xs ++ ys))
  | _, _ => none
theorem l_add (e : oAdd x y = some d) (h : k (.dat d)) : gAdd x y k := by
  unfold oAdd at e
  split at e
  · cases e; exact h
  · obtain ⟨q, rfl⟩ := gd_some e; exact ⟨of_decide_eq_true q, h⟩
  · obtain ⟨q, rfl⟩ := gd_some e; exact ⟨of_decide_eq_true q, h⟩
  · cases e
def oAddL : D → D → Option (List D)
  | .list xs, .list ys => gd (decide (xs.length + ys.length ≤ 1000000)) (xs ++ ys)
  | _, _ => none
theorem l_addL (e : oAddL x y = some xs) (h : k (.new (.lst xs))) : gAdd x y k := by
  unfold oAddL at e
  split at e
  · obtain ⟨q, rfl⟩ := gd_some e; exact ⟨of_decide_eq_true q, h⟩
  · cases e
def oSub : D → D → Option D
  | .int i, .int j => some (.int (i - j))
  | _, _ => none
theorem l_sub (e : oSub x y = some d) (h : k (.dat d)) : Pd.gSub x y k := by
  unfold oSub at e
  split at e <;> cases e
  exact h
def fit64 (i : Int) : Bool := decide (-(2 ^ 64) < i) && decide (i < 2 ^ 64)
def mulB (i j : Int) : Bool := (fit64 i || fit64 j) || (decide (i.natAbs < 2 ^ 1000) && decide (j.natAbs < 2 ^ 1000))
theorem mulB_ok {i j : Int} (q : mulB i j = true) : mulOk i j := by
  rcases Bool.or_eq_true _ _ ▸ q with q | q
  · rcases Bool.or_eq_true _ _ ▸ q with q | q <;> simp only [fit64, Bool.and_eq_true, decide_eq_true_eq] at q
    · exact .inl (.inl q)
    · exact .inl (.inr q)
  · simp only [Bool.and_eq_true, decide_eq_true_eq] at q
    exact .inr q
def oMul : D → D → Option D
  | .int i, .int j => gd (mulB i j) (.int (i * j))
  | .tuple xs, .int j => gd (decide (0 ≤ j) && (decide (j ≤ 8000) && decide (xs.length ≤ 1000))) (.tuple (List.replicate j.toNat xs).flatten)
  | .str a, .int j => gd (decide (0 ≤ j) && (decide (j ≤ 1000000) && decide (a.length * j.toNat ≤ 1000000))) (.str (repS a j.toNat))
  | _, _ => none
theorem l_mul (e : oMul x y = some d) (h : k (.dat d)) : gMulZ x y k := by
  unfold oMul at e
  split at e
  · obtain ⟨q, rfl⟩ := gd_some e
    exact ⟨mulB_ok q, h⟩
  · obtain ⟨q, rfl⟩ := gd_some e
    simp only [Bool.and_eq_true, decide_eq_true_eq] at q
    exact ⟨⟨q.1, q.2.1⟩, q.2.2, h⟩
  · obtain ⟨q, rfl⟩ := gd_some e
    simp only [Bool.and_eq_true, decide_eq_true_eq] at q
    exact ⟨⟨q.1, q.2.1⟩, q.2.2, h⟩
  · cases e
def oMod : D → D → Option D
  | .int i, .int j => gd (decide (0 < j)) (.int (i % j))
  | _, _ => none
theorem l_mod (e : oMod x y = some d) (h : k (.dat d)) : gMod x y k := by
  unfold oMod at e
  split at e
  · obtain ⟨q, rfl⟩ := gd_some e; exact ⟨of_decide_eq_true q, h⟩
  · cases e
def oFdiv : D → D → Option D
  | .int i, .int j => gd (decide (0 < j) && decide (j < 2 ^ 64)) (.int (i / j))
  | _, _ => none
theorem l_fdiv (e : oFdiv x y = some d) (h : k (.dat d)) : gFdiv x y k := by
  unfold oFdiv at e
  split at e
  · obtain ⟨q, rfl⟩ := gd_some e
    simp only [Bool.and_eq_true, decide_eq_true_eq] at q
    exact ⟨q, h⟩
  · cases e
def oAbs : D → Option D
  | .int i => some (.int (if i < 0 then -i else i))
  | _ => none
theorem l_abs (e : oAbs x = some d) (h : k (.dat d)) : gAbs [x] k := by
  unfold oAbs at e
  split at e <;> cases e
  exact h
section
variable {i j v : Int} {a c : Str}
theorem l_addI (h : k (.dat (.int (i + j)))) : gAdd (.int i) (.int j) k := h
theorem l_subI (h : k (.dat (.int (i - j)))) : Pd.gSub (.int i) (.int j) k := h
theorem l_negI (h : k (.dat (.int (-i)))) : gNeg (.int i) k := h
def oMulI (i j : Int) : Option Int := gd (mulB i j) (i * j)
theorem l_mulI (e : oMulI i j = some v) (h : k (.dat (.int v))) : gMulZ (.int i) (.int j) k := by
  obtain ⟨q, rfl⟩ := gd_some e
  exact l_mul (d := .int (i * j)) (by simp only [oMul]; exact gd_t q) h
def oPowI (i j : Int) : Option Int := gd (decide (0 ≤ j) && (decide (j ≤ 1000) && decide (i.natAbs < 2 ^ 64))) (i ^ j.toNat)
theorem l_powI (e : oPowI i j = some v) (h : k (.dat (.int v))) : gPow (.int i) (.int j) k := by
  obtain ⟨q, rfl⟩ := gd_some e
  simp only [Bool.and_eq_true, decide_eq_true_eq] at q
  exact ⟨q, h⟩
theorem l_neI (h : k (.dat (.bool (!decide (i = j))))) : gNe (.int i) (.int j) k := h
theorem l_leI (h : k (.dat (.bool (decide (i ≤ j))))) : gLe (.int i) (.int j) k := h
theorem l_gtI (h : k (.dat (.bool (decide (j < i))))) : gGt (.int i) (.int j) k := h
theorem l_isN {d : D} (h : k (.dat (.bool (isNone d)))) : gIs d .none k := by cases d <;> exact h
theorem l_isntN {d : D} (h : k (.dat (.bool (!isNone d)))) : gIsnt d .none k := by cases d <;> exact h
theorem l_tuplL {xs : List D} (h : k (.dat (.tuple xs))) : gTupl [.list xs] k := h
theorem l_maxI (h : k (.dat (.int (max i j)))) : gMax [.int i, .int j] k := h
theorem l_minI (h : k (.dat (.int (min i j)))) : gMin [.int i, .int j] k := h
end
def shp (x y : D) : Bool := SeqAt.shaped x && SeqAt.shaped y
theorem shp_ok (h : shp x y = true) : eqOk x y := by
  simp only [shp, Bool.and_eq_true] at h
  exact h
def oEq : D → D → Option Bool
  | .int i, .int j => some (decide (i = j))
  | .str i, .str j => some (decide (i = j))
  | .bool i, .bool j => some (decide (i = j))
  | .none, .none => some true
  | .none, .int _ => some false
  | .none, .str _ => some false
  | .int _, .none => some false
  | .str _, .none => some false
  | .int _, .str _ => some false
  | .str _, .int _ => some false
  | x, y => gd (shp x y) (PyData.eqv x y)
theorem l_eq (e : oEq x y = some b) (h : k (.dat (.bool b))) : gEq x y k := by
  cases x <;> cases y <;> simp only [oEq, gEq] at e ⊢ <;> first | (cases e; exact h) | (obtain ⟨q, rfl⟩ := gd_some e; exact ⟨shp_ok q, h⟩)
theorem l_ne (e : oEq x y = some b) (h : k (.dat (.bool (!b)))) : gNe x y k := by
  cases x <;> cases y <;> simp only [oEq, gNe] at e ⊢ <;> first | (cases e; exact h) | (obtain ⟨q, rfl⟩ := gd_some e; exact ⟨shp_ok q, h⟩)
def oOrd (p : Int → Int → Bool) (t : Str → Str → Bool) : D → D → Option Bool
  | .int i, .int j => some (p i j)
  | .str i, .str j => some (t i j)
  | _, _ => none
theorem l_ord {p : Int → Int → Bool} {t : Str → Str → Bool} (e : oOrd p t x y = some b) (h : k (.dat (.bool b))) : gOrd p t x y k := by
  unfold oOrd at e
  split at e <;> cases e <;> exact h
def oLt : D → D → Option Bool := oOrd (fun i j => decide (i < j)) fun i j => decide (i.cps.toList < j.cps.toList)
def oLe : D → D → Option Bool := oOrd (fun i j => decide (i ≤ j)) fun i j => !decide (j.cps.toList < i.cps.toList)
def oGt : D → D → Option Bool := oOrd (fun i j => decide (j < i)) fun i j => decide (j.cps.toList < i.cps.toList)
def oGe : D → D → Option Bool := oOrd (fun i j => decide (j ≤ i)) fun i j => !decide (i.cps.toList < j.cps.toList)
theorem l_lt (e : oLt x y = some b) (h : k (.dat (.bool b))) : gLt x y k := l_ord e h
theorem l_le (e : oLe x y = some b) (h : k (.dat (.bool b))) : gLe x y k := l_ord e h
theorem l_gt (e : oGt x y = some b) (h : k (.dat (.bool b))) : gGt x y k := l_ord e h
theorem l_ge (e : oGe x y = some b) (h : k (.dat (.bool b))) : gGe x y k := l_ord e h
def oTk {α : Type} (kvs : List (D × D)) (c : D) (f : List (D × D) → List Key → Option α) : Option α := match kvs with
  | (.dict [], .none) :: r => (match keyT c with
    | some kk => f r kk
    | none => none)
  | _ => none
theorem tkK_of {α : Type} {kvs : List (D × D)} {c : D} {f : List (D × D) → List Key → Option α} {v : α} {k : List (D × D) → List Key → Prop} (e : oTk kvs c f = some v) (h : ∀ r kk, f r kk = some v → k r kk) : tkK kvs c k := by
  unfold oTk at e
  split at e
  · rename_i r
    cases q : keyT c with
    | none => rw [q] at e; cases e
    | some kk =>
      rw [q] at e
      have e2 : f r kk = some v := e
      have g : tkK ((.dict [], .none) :: r) c k = (match keyT c with
        | some kk => k r kk
        | none => False) := rfl
      rw [g, q]
      exact h r kk e2
  · cases e
def oIn : D → D → Option Bool
  | x, .list ds => gd (inOk x ds) (ds.any fun z => PyData.eqv z x)
  | x, .tuple ds => gd (inOk x ds) (ds.any fun z => PyData.eqv z x)
  | .str c, .dict kvs => gd (notXL kvs) (lookD kvs (.str c)).isSome
  | .int c, .dict kvs => gd (notXL kvs) (lookD kvs (.int c)).isSome
  | .tuple c, .dict kvs => oTk kvs (.tuple c) fun r kk => some (lookT r kk).isSome
  | .str c, .str z => match c.cps.toList with
    | [a] => some (decide (a ∈ z.cps.toList))
    | _ => none
  | _, _ => none
theorem in0 {k : Bool → Prop} (e : oIn x y = some b) (h : k b) : gIn0 x y k := by
  unfold oIn at e
  split at e
  · obtain ⟨q, rfl⟩ := gd_some e; cases x <;> exact ⟨q, h⟩
  · obtain ⟨q, rfl⟩ := gd_some e; cases x <;> exact ⟨q, h⟩
  · obtain ⟨q, rfl⟩ := gd_some e; exact ⟨q, h⟩
  · obtain ⟨q, rfl⟩ := gd_some e; exact ⟨q, h⟩
  · exact tkK_of (k := fun r kk => k (lookT r kk).isSome) e fun r kk q => by cases q; exact h
  · unfold gIn0
    split at e
    · rename_i a q; cases e; simp only [q]; exact h
    · cases e
  · cases e
theorem l_in (e : oIn x y = some b) (h : k (.dat (.bool b))) : gIn x y k := in0 (k := fun b => k (.dat (.bool b))) e h
theorem l_notIn (e : oIn x y = some b) (h : k (.dat (.bool (!b)))) : gNotIn x y k := in0 (k := fun b => k (.dat (.bool (!b)))) e h
def oIx : D → D → Option D
  | .list ds, .int i => atI ds i
  | .tuple ds, .int i => atI ds i
  | .str z, .int i => (gd (decide (z.length ≤ 1000000)) ()).bind fun _ => (atI z.cps.toList i).map fun c => .str ⟨#[c]⟩
  | .dict kvs, .str x => (gd (notXL kvs) ()).bind fun _ => lookD kvs (.str x)
  | .dict kvs, .int x => (gd (notXL kvs) ()).bind fun _ => lookD kvs (.int x)
  | .dict kvs, .tuple c => oTk kvs (.tuple c) fun r kk => lookT r kk
  | _, _ => none
theorem l_ix (e : oIx x y = some d) (h : k (.dat d)) : gIx x y k := by
  unfold oIx at e
  split at e
  · simp only [gIx, atD, e]; exact h
  · simp only [gIx, atD, e]; exact h
  · rename_i z i
    refine bnd e fun _ q e => ?_
    obtain ⟨q, _⟩ := gd_some q
    refine ⟨of_decide_eq_true q, ?_⟩
    cases g : atI z.cps.toList i with
    | none => rw [g] at e; cases e
    | some c => rw [g] at e; cases e; exact h
  · rename_i kvs z
    refine bnd e fun _ q e => ?_
    obtain ⟨q, _⟩ := gd_some q
    refine ⟨q, ?_⟩
    simp only [e]; exact h
  · rename_i kvs z
    refine bnd e fun _ q e => ?_
    obtain ⟨q, _⟩ := gd_some q
    refine ⟨q, ?_⟩
    simp only [e]; exact h
  · refine tkK_of (k := fun r kk => match lookT r kk with
      | some d => k (.dat d)
      | none => False) e fun r kk q => ?_
    simp only [q]; exact h
  · cases e
def oSl : D → Option Int → Option Int → Option D
  | .tuple ds, lo, hi => some (.tuple (cutD ds lo hi))
  | .str z, lo, hi => gd (decide (z.length ≤ 1000000)) (.str (cutS z lo hi))
  | _, _, _ => none
theorem l_sl {lo hi : Option Int} (e : oSl x lo hi = some d) (h : k (.dat d)) : gSl x lo hi k := by
  unfold oSl at e
  split at e
  · cases e; exact h
  · obtain ⟨q, rfl⟩ := gd_some e; exact ⟨of_decide_eq_true q, h⟩
  · cases e
def oSlL : D → Option Int → Option Int → Option (List D)
  | .list ds, lo, hi => some (cutD ds lo hi)
  | _, _, _ => none
theorem l_slL {lo hi : Option Int} (e : oSlL x lo hi = some xs) (h : k (.new (.lst xs))) : gSl x lo hi k := by
  unfold oSlL at e
  split at e
  · cases e; exact h
  · cases e
def oLen : D → Option Int
  | .list ds => some ds.length
  | .tuple ds => some ds.length
  | .str z => gd (decide (z.length ≤ 1000000)) z.length
  | .dict kvs => gd (notXL kvs) kvs.length
  | _ => none
theorem l_len (e : oLen x = some i) (h : k (.dat (.int i))) : gLen [x] k := by
  unfold oLen at e
  split at e
  · cases e; exact h
  · cases e; exact h
  · obtain ⟨q, rfl⟩ := gd_some e; exact ⟨of_decide_eq_true q, h⟩
  · obtain ⟨q, rfl⟩ := gd_some e; exact ⟨q, h⟩
  · cases e
def oInt : D → Option Int
  | .int i => some i
  | .bool b => some (if b then 1 else 0)
  | .str a => (gd (decide (a.length ≤ 640)) ()).bind fun _ => PySem.intText? a
  | _ => none
theorem l_int (e : oInt x = some i) (h : k (.dat (.int i))) : gInt [x] k := by
  unfold oInt at e
  split at e
  · cases e; exact h
  · cases e; exact h
  · refine bnd e fun _ q e => ?_
    obtain ⟨q, _⟩ := gd_some q
    refine ⟨of_decide_eq_true q, ?_⟩
    simp only [e]; exact h
  · cases e
instance (d : D) : Decidable (reprOk d) := by unfold reprOk; infer_instance
instance (d : List (D × D)) : Decidable (reprDk d) := by unfold reprDk; infer_instance
def oAll : D → Option Bool
  | .list ds => (boolsOf ds).map fun ns => ns.all id
  | _ => none
theorem l_all (e : oAll x = some b) (h : k (.dat (.bool b))) : gAll [x] k := by
  unfold oAll at e
  split at e
  · rename_i ds
    cases g : boolsOf ds with
    | none => rw [g] at e; cases e
    | some ns => rw [g] at e; cases e; simp only [gAll, g]; exact h
  · cases e
def oMin : D → D → Option Int
  | .int i, .int j => some (min i j)
  | _, _ => none
theorem l_min (e : oMin x y = some i) (h : k (.dat (.int i))) : gMin [x, y] k := by
  unfold oMin at e
  split at e <;> cases e
  exact h
def oList : D → Option (List D)
  | .list ds => some ds
  | .tuple ds => some ds
  | _ => none
theorem l_tupl (e : oList x = some xs) (h : k (.dat (.tuple xs))) : gTupl [x] k := by
  unfold oList at e
  split at e <;> cases e <;> exact h
def oSrt : D → Option (List D)
  | .list ds => (strsOf ds).bind fun xs => gd (decide xs.Nodup && decide (xs.length < 64)) ((srt xs).map PyData.str)
  | .dict kvs => (gd (notXL kvs) ()).bind fun _ => (strsOf (kvs.map (·.1))).bind fun xs => gd (decide xs.Nodup && decide (xs.length < 64)) ((srt xs).map PyData.str)
  | _ => none
theorem l_srt (e : oSrt x = some xs) (h : k (.new (.lst xs))) : gSrt [x] k := by
  unfold oSrt at e
  split at e
  · refine bnd e fun ns g e => ?_
    obtain ⟨q, rfl⟩ := gd_some e
    simp only [Bool.and_eq_true, decide_eq_true_eq] at q
    simp only [gSrt, g]
    exact ⟨q.1, q.2, h⟩
  · refine bnd e fun _ q e => ?_
    obtain ⟨q, _⟩ := gd_some q
    refine bnd e fun ns g e => ?_
    obtain ⟨q2, rfl⟩ := gd_some e
    simp only [Bool.and_eq_true, decide_eq_true_eq] at q2
    simp only [gSrt, g]
    exact ⟨q, q2.1, q2.2, h⟩
  · cases e
def oSplit (a : Str) : D → Option (List D)
  | .str b => gd (!decide (b.length = 0) && decide (a.length ≤ 1000000)) ((Txt.split a b).map PyData.str)
  | _ => none
theorem l_split (e : oSplit s y = some xs) (h : k (.new (.lst xs))) : gSplit s [y] k := by
  unfold oSplit at e
  split at e
  · obtain ⟨q, rfl⟩ := gd_some e
    simp at q
    exact ⟨q.1, q.2, h⟩
  · cases e
def joinO (a : Str) (ds : List D) : Option Str := (strsOf ds).bind fun ys => gd (decide ((ys.map (·.length)).sum + ys.length * a.length ≤ 16777216)) (Txt.join a ys)
def oJoin (a : Str) : D → Option Str
  | .list ds => joinO a ds
  | .tuple ds => joinO a ds
  | _ => none
theorem l_join {a : Str} (e : oJoin a y = some s) (h : k (.dat (.str s))) : gJoin a [y] k := by
  unfold oJoin joinO at e
  split at e
  · refine bnd e fun ns g e => ?_
    obtain ⟨q, rfl⟩ := gd_some e
    simp only [gJoin, joinG, g]
    exact ⟨of_decide_eq_true q, h⟩
  · refine bnd e fun ns g e => ?_
    obtain ⟨q, rfl⟩ := gd_some e
    simp only [gJoin, joinG, g]
    exact ⟨of_decide_eq_true q, h⟩
  · cases e
end
end Pd
set_option Elab.async false
set_option linter.all false
set_option maxRecDepth 100000
set_option maxHeartbeats 2000000
namespace Pd
open PySem PySem.Spec PyProof.Rows L2
section
variable {δ : En} {k : Re → En → Prop} {i j : Nat} {E : DEnds} {t u : DT} {d x y : D}
def wNx (E : DEnds) (f : En → Prop) : DEnds := { E with nx := f }
theorem s_seq (h : t (wNx E (u E)) δ) : dSeq t u E δ := h
theorem s_seqJ (P : En → Prop) (hJ : ∀ δ, P δ → u E δ) (h : (∀ δ, P δ → u E δ) → t (wNx E (u E)) δ) : dSeq t u E δ := h hJ
theorem e_nx {f : En → Prop} (h : f δ) : (wNx E f).nx δ := h
def lpE (E : DEnds) (N : En → Prop) : DEnds := { E with nx := N, ct := N, bk := E.nx }
theorem s_next (h : E.nx δ) : dNext E δ := h
theorem s_drop {e : DE} (h : e δ fun _ δ1 => E.nx δ1) : dDrop e E δ := h
theorem s_ret {e : DE} (h : e δ fun r δ1 => E.rt r δ1) : dRet e E δ := h
theorem s_if {c : DB} {a b : DT} (h : c δ fun c δ1 => if c = true then a E δ1 else b E δ1) : dIfS c a b E δ := h
theorem s_asg {e : DE} (h : e δ fun r δ1 => putR r i δ1 E.nx) : dAsg i e E δ := h
theorem p_d {k : En → Prop} (h : k (δ.set i (.dat d))) : putR (.dat d) i δ k := h
theorem p_n {o : MO} {k : En → Prop} (h : k (δ.set i (.own o))) : putR (.new o) i δ k := h
theorem s_unp {is : List Nat} {e : DE} (h : e δ fun r δ1 => unpR is r δ1 E.nx) : dUnp is e E δ := by
  have q : dUnp is e E δ = e δ fun r δ1 => unpR is r δ1 E.nx := by
    unfold dUnp
    congr 1
  rw [q]; exact h
theorem u_g {is : List Nat} {k : En → Prop} (h : gT is d δ k) : unpR is (.dat d) δ k := h
def oT2 : D → Option (D × D)
  | .tuple [a, b] => some (a, b)
  | _ => none
theorem l_t2 {i1 i2 : Nat} {v : D × D} {k : En → Prop} (e : oT2 d = some v) (h : k ((δ.set i1 (.dat v.1)).set i2 (.dat v.2))) : gT [i1, i2] d δ k := by
  unfold oT2 at e
  split at e <;> cases e
  exact h
theorem l_gN {k : En → Prop} (h : k (δ.set i (.dat d))) : gN i d δ k := h
theorem q_own {o : MO} {k : MO → (MO → En) → Prop} (e : δ[i]? = some (.own o)) (h : k o fun o' => δ.set i (.own o')) : objS i δ k := by simp only [objS, e]; exact h
theorem q_io {o : MO} {k : MO → (MO → En) → Prop} (e : δ[i]? = some (.io o)) (h : k o fun o' => δ.set i (.io o')) : objS i δ k := by simp only [objS, e]; exact h
theorem c_mu {m : List D → List D → (D → List D → Prop) → Prop} {a : DA} (h0 : objS i δ (fun o _ => lstO o fun _ => True)) (h : a δ fun rs δ1 => datRs rs δ1 fun ds δ2 => objS i δ2 fun o f => lstO o fun xs => m xs ds fun d xs' => k (.dat d) (f (.lst xs'))) : dMu m i a δ k := ⟨h0, h⟩
theorem lo_l {xs : List D} {k : List D → Prop} (h : k xs) : lstO (.lst xs) k := h
def oApp (xs : List D) (d : D) : Option (List D) := gd (decide (xs.length < 1000000)) (xs ++ [d])
theorem l_app {xs ys : List D} {k : D → List D → Prop} (e : oApp xs d = some ys) (h : k .none ys) : mApp xs [d] k := by
  obtain ⟨q, rfl⟩ := gd_some e; exact ⟨of_decide_eq_true q, h⟩
theorem s_put {ek e : DE} (h : e δ fun r δ1 => datR r δ1 fun d δ2 => objS i δ2 (fun _ _ => True) ∧ ek δ2 fun ri δ3 => vwR ri δ3 fun dj => keyK dj fun q => objS i δ3 fun o f => dkO o fun kvs => ndK kvs = true ∧ kvs.length < 1000000 ∧ E.nx (f (.dK (putD kvs q d)))) : dDPut i ek e E δ := by
  have q : dDPut i ek e E δ = (e δ fun r δ1 => datR r δ1 fun d δ2 => objS i δ2 (fun _ _ => True) ∧ ek δ2 fun ri δ3 => vwR ri δ3 fun dj => keyK dj fun q => objS i δ3 fun o f => dkO o fun kvs => ndK kvs = true ∧ kvs.length < 1000000 ∧ E.nx (f (.dK (putD kvs q d)))) := by
    unfold dDPut
    congr 1
  rw [q]; exact h
def oPut (m : List (Key × D)) (kd d : D) : Option (List (Key × D)) := (keyD kd).bind fun q => gd (ndK m && decide (m.length < 1000000)) (putD m q d)
theorem l_put0 {kd : D} {m m' : List (Key × D)} (e : oPut m kd d = some m') : ∃ q, keyD kd = some q ∧ ndK m = true ∧ m.length < 1000000 ∧ m' = putD m q d := by
  unfold oPut at e
  refine bnd e fun q g e => ?_
  obtain ⟨q2, rfl⟩ := gd_some e
  simp only [Bool.and_eq_true, decide_eq_true_eq] at q2
  exact ⟨q, g, q2.1, q2.2, rfl⟩
theorem l_puti {kd : D} {m m' : List (Key × D)} {k : En → Prop} (e : oPut m kd d = some m') (q : δ[i]? = some (.io (.dK m))) (h : k (δ.set i (.io (.dK m')))) : keyK kd fun q => objS i δ fun o f => dkO o fun kvs => ndK kvs = true ∧ kvs.length < 1000000 ∧ k (f (.dK (putD kvs q d))) := by
  obtain ⟨z, g, g2, g3, rfl⟩ := l_put0 e
  simp only [keyK, g, objS, q, dkO]; exact ⟨g2, g3, h⟩
theorem c_disp {ps : List (Key × DE)} (h : dPairs ps δ fun kvs δ1 => kvs.length ≤ 15 ∧ k (.new (.dK (mergeD [] kvs))) δ1) : dDisp ps δ k := h
theorem ps_0 {k : List (Key × D) → En → Prop} (h : k [] δ) : dPairs [] δ k := h
theorem ps_1 {kk : Key} {e : DE} {r : List (Key × DE)} {k : List (Key × D) → En → Prop} (h : e δ fun r1 δ1 => datR r1 δ1 fun d δ2 => dPairs r δ2 fun kvs δ3 => k ((kk, d) :: kvs) δ3) : dPairs ((kk, e) :: r) δ k := h
theorem c_dnew (h : k (.new (.dK [])) δ) : dDNew δ k := h
theorem c_fz {e : DE} (h : e δ fun r δ1 => datR r δ1 fun d δ2 => k (.dat d) δ2) : dFz e δ k := h
def oIsi (T : String) (d : D) : Option Bool := gd (notX d) (isT T d)
def isiK (T : String) (d : D) (k : Bool → Prop) : Prop := notX d = true ∧ k (isT T d)
theorem c_isi {T : String} {a : DE} (h : a δ fun r δ1 => vwR r δ1 fun d => isiK T d fun b => k (.dat (.bool b)) δ1) : dIsi T a δ k := h
theorem l_isi {T : String} {b : Bool} {k : Bool → Prop} (e : oIsi T d = some b) (h : k b) : isiK T d k := by
  obtain ⟨q, rfl⟩ := gd_some e; exact ⟨q, h⟩
theorem c_m1 {g : Str → List D → (Re → Prop) → Prop} {a b : DE} (h : a δ fun r δ1 => strR r δ1 fun z => b δ1 fun r2 δ2 => vwR r2 δ2 fun y => g z [y] fun res => k res δ2) : dM1 g a b δ k := h
theorem sr_s {z : Str} {k : Str → Prop} (h : k z) : strR (.dat (.str z)) δ k := h
theorem sr_d {z : Str} {k : Str → Prop} (e : oS d = some z) (h : k z) : strR (.dat d) δ k := by cases d <;> cases e; exact h
theorem i_seq {e : DE} {k : List D → En → Prop} (h : e δ fun r δ1 => datR r δ1 fun d δ2 => itK d fun ds => k ds δ2) : diSeq e δ k := by
  have q : diSeq e δ k = e δ fun r δ1 => datR r δ1 fun d δ2 => itK d fun ds => k ds δ2 := by
    unfold diSeq
    congr 1
  rw [q]; exact h
theorem it_d {xs : List D} {k : List D → Prop} (e : itemsD d = some xs) (h : k xs) : itK d k := by simp only [itK, e]; exact h
theorem it_l {xs : List D} {k : List D → Prop} (h : k xs) : itK (.list xs) k := h
def fitB (i : Int) : Bool := decide (-(2 ^ 62) ≤ i) && decide (i < 2 ^ 62)
theorem fitB_ok {i : Int} (h : fitB i = true) : fitR i := by
  simp only [fitB, Bool.and_eq_true, decide_eq_true_eq] at h
  exact h
def oRng1 : D → Option (List D)
  | .int j => gd (fitB j) (rangeD 0 1 j.toNat)
  | _ => none
def rg1K (ds : List D) (k : List D → Prop) : Prop := rngK ds fun j => fitR j ∧ k (rangeD 0 1 j.toNat)
theorem i_rng1 {a : DA} {k : List D → En → Prop} (h : a δ fun rs δ1 => vwRs rs δ1 fun ds => rg1K ds fun xs => k xs δ1) : diRng1 a δ k := by
  have q : diRng1 a δ k = a δ fun rs δ1 => vwRs rs δ1 fun ds => rngK ds fun j => fitR j ∧ k (rangeD 0 1 j.toNat) δ1 := by
    unfold diRng1
    congr 1
  rw [q]; exact h
theorem rg1 {xs : List D} {k : List D → Prop} (e : oRng1 x = some xs) (h : k xs) : rg1K [x] k := by
  unfold oRng1 at e
  split at e
  · obtain ⟨q, rfl⟩ := gd_some e; exact ⟨fitB_ok q, h⟩
  · cases e
theorem lk_l {xs : List D} {k : List D → Prop} (h : k xs) : lstK (.list xs) k := h
end
end Pd
set_option Elab.async false
set_option linter.all false
set_option maxRecDepth 100000
set_option maxHeartbeats 2000000
namespace Pd
open PySem PySem.Spec PyProof.Rows L2
section
variable {α β γ σ ρ : Type}
def oMap (f : D → Option D) : List D → Option (List D)
  | [] => some []
  | x :: xs => (f x).bind fun y => (oMap f xs).bind fun ys => some (y :: ys)
def oFil (f : D → Option (Option D)) : List D → Option (List D)
  | [] => some []
  | x :: xs => (f x).bind fun o => (oFil f xs).bind fun ys => some (match o with
    | some y => y :: ys
    | none => ys)
def oMapS (f : D → σ → Option (D × σ)) : List D → σ → Option (List D × σ)
  | [], s => some ([], s)
  | x :: xs, s => (f x s).bind fun v => (oMapS f xs v.2).bind fun w => some (v.1 :: w.1, w.2)
def oFold (f : D → σ → Option σ) : List D → σ → Option σ
  | [], s => some s
  | x :: xs, s => (f x s).bind fun s' => oFold f xs s'
inductive Ctl (σ ρ : Type) where
  | nx (s : σ)
  | bk (s : σ)
  | rt (r : ρ)
def oFor (f : D → σ → Option (Ctl σ ρ)) : List D → σ → Option (Ctl σ ρ)
  | [], s => some (.nx s)
  | x :: xs, s => (f x s).bind fun c => match c with
    | .nx s' => oFor f xs s'
    | .bk s' => some (.bk s')
    | .rt r => some (.rt r)
def Ctl.go (c : Ctl σ ρ) (K : σ → Option γ) (R : ρ → Option γ) : Option γ := match c with
  | .nx s => K s
  | .bk s => K s
  | .rt r => R r
end
section
variable {γ σ ρ : Type} {r : γ} {δ : En}
theorem c_lc {di : DI} {dg : DG} {dt : DB} {de : DE} {vs : List Nat} {k : Re → En → Prop} (h : di δ fun xs δ1 => unS δ1 vs = δ1 ∧ lcGo dg dt de vs (fun ys δ2 => k (.new (.lst ys)) δ2) xs [] δ1) : dLc di dg dt de vs δ k := h
theorem lc_map0 {f : D → Option D} {dg : DG} {dt : DB} {de : DE} {vs : List Nat} {k : List D → En → Prop}
    (hB : ∀ x y, f x = some y → ∀ (p : D → En → Prop) (p' : En → Prop), (∀ δ', unS δ' vs = δ → p y δ') → dg x δ fun δ1 => dt δ1 fun b δ2 => if b = true then de δ2 fun r δ3 => datR r δ3 fun d δ4 => p d δ4 else p' δ2) :
    ∀ (xs acc ys : List D), acc.length + xs.length ≤ 100000 → oMap f xs = some ys → k (acc ++ ys) δ → lcGo dg dt de vs k xs acc δ
  | [], acc, _, _, h, hk => by cases h; rw [List.append_nil] at hk; exact hk
  | x :: xs, acc, ys, hl, h, hk => bnd h fun y e h => bnd h fun zs e2 h => by
    cases h
    rw [List.length_cons] at hl
    refine hB x y e (fun d δ4 => acc.length < 100000 ∧ lcGo dg dt de vs k xs (acc ++ [d]) (unS δ4 vs)) (fun δ2 => lcGo dg dt de vs k xs acc (unS δ2 vs)) fun δ' hd => ?_
    refine ⟨by omega, ?_⟩
    rw [hd]
    exact lc_map0 hB xs (acc ++ [y]) zs (by simp; omega) e2 (by simpa using hk)
def few (xs : List D) : Option Unit := gd (decide (xs.length ≤ 100000)) ()
theorem few_ok {xs : List D} {u : Unit} (h : few xs = some u) : xs.length ≤ 100000 := of_decide_eq_true (gd_some h).1
theorem lc_map {f : D → Option D} {dg : DG} {dt : DB} {de : DE} {vs : List Nat} {k : List D → En → Prop} {xs ys : List D} {u : Unit} (hl : few xs = some u) (h : oMap f xs = some ys) (hk : k ys δ)
    (hB : ∀ x y, f x = some y → ∀ (p : D → En → Prop) (p' : En → Prop), (∀ δ', unS δ' vs = δ → p y δ') → dg x δ fun δ1 => dt δ1 fun b δ2 => if b = true then de δ2 fun r δ3 => datR r δ3 fun d δ4 => p d δ4 else p' δ2) : lcGo dg dt de vs k xs [] δ :=
  lc_map0 hB xs [] ys (by simpa using few_ok hl) h hk
theorem lc_fil0 {f : D → Option (Option D)} {dg : DG} {dt : DB} {de : DE} {vs : List Nat} {k : List D → En → Prop}
    (hB : ∀ x o, f x = some o → ∀ (p : D → En → Prop) (p' : En → Prop), (∀ y, o = some y → ∀ δ', unS δ' vs = δ → p y δ') → (o = none → ∀ δ', unS δ' vs = δ → p' δ') → dg x δ fun δ1 => dt δ1 fun b δ2 => if b = true then de δ2 fun r δ3 => datR r δ3 fun d δ4 => p d δ4 else p' δ2) :
    ∀ (xs acc ys : List D), acc.length + xs.length ≤ 100000 → oFil f xs = some ys → k (acc ++ ys) δ → lcGo dg dt de vs k xs acc δ
  | [], acc, _, _, h, hk => by cases h; rw [List.append_nil] at hk; exact hk
  | x :: xs, acc, ys, hl, h, hk => bnd h fun o e h => bnd h fun zs e2 h => by
    cases h
    rw [List.length_cons] at hl
    refine hB x o e (fun d δ4 => acc.length < 100000 ∧ lcGo dg dt de vs k xs (acc ++ [d]) (unS δ4 vs)) (fun δ2 => lcGo dg dt de vs k xs acc (unS δ2 vs)) (fun y ho δ' hd => ?_) fun ho δ' hd => ?_
    · subst ho
      refine ⟨by omega, ?_⟩
      rw [hd]
      exact lc_fil0 hB xs (acc ++ [y]) zs (by simp; omega) e2 (by simpa using hk)
    · subst ho
      rw [hd]
      exact lc_fil0 hB xs acc zs (by omega) e2 hk
theorem lc_fil {f : D → Option (Option D)} {dg : DG} {dt : DB} {de : DE} {vs : List Nat} {k : List D → En → Prop} {xs ys : List D} {u : Unit} (hl : few xs = some u) (h : oFil f xs = some ys) (hk : k ys δ)
    (hB : ∀ x o, f x = some o → ∀ (p : D → En → Prop) (p' : En → Prop), (∀ y, o = some y → ∀ δ', unS δ' vs = δ → p y δ') → (o = none → ∀ δ', unS δ' vs = δ → p' δ') → dg x δ fun δ1 => dt δ1 fun b δ2 => if b = true then de δ2 fun r δ3 => datR r δ3 fun d δ4 => p d δ4 else p' δ2) : lcGo dg dt de vs k xs [] δ :=
  lc_fil0 hB xs [] ys (by simpa using few_ok hl) h hk
theorem lc_mapS0 {f : D → σ → Option (D × σ)} {ε : σ → En → Prop} {dg : DG} {dt : DB} {de : DE} {vs : List Nat} {k : List D → En → Prop}
    (hB : ∀ x s v δ, ε s δ → f x s = some v → ∀ (p : D → En → Prop) (p' : En → Prop), (∀ δ', ε v.2 (unS δ' vs) → p v.1 δ') → dg x δ fun δ1 => dt δ1 fun b δ2 => if b = true then de δ2 fun r δ3 => datR r δ3 fun d δ4 => p d δ4 else p' δ2) :
    ∀ (xs acc : List D) (s : σ) (δ : En) (w : List D × σ), acc.length + xs.length ≤ 100000 → ε s δ → oMapS f xs s = some w → (∀ δ', ε w.2 δ' → k (acc ++ w.1) δ') → lcGo dg dt de vs k xs acc δ
  | [], acc, s, δ, w, _, hs, h, hk => by cases h; have := hk δ hs; rw [List.append_nil] at this; exact this
  | x :: xs, acc, s, δ, w, hl, hs, h, hk => bnd h fun v e h => bnd h fun u e2 h => by
    cases h
    rw [List.length_cons] at hl
    refine hB x s v δ hs e (fun d δ4 => acc.length < 100000 ∧ lcGo dg dt de vs k xs (acc ++ [d]) (unS δ4 vs)) (fun δ2 => lcGo dg dt de vs k xs acc (unS δ2 vs)) fun δ' hd => ?_
    exact ⟨by omega, lc_mapS0 hB xs (acc ++ [v.1]) v.2 _ u (by simp; omega) hd e2 (by simpa using hk)⟩
theorem lc_mapS {f : D → σ → Option (D × σ)} (ε : σ → En → Prop) {dg : DG} {dt : DB} {de : DE} {vs : List Nat} {k : List D → En → Prop} {xs : List D} {s : σ} {w : List D × σ} {u : Unit} (hl : few xs = some u) (h : oMapS f xs s = some w) (hs : ε s δ) (hk : ∀ δ', ε w.2 δ' → k w.1 δ')
    (hB : ∀ x s v δ, ε s δ → f x s = some v → ∀ (p : D → En → Prop) (p' : En → Prop), (∀ δ', ε v.2 (unS δ' vs) → p v.1 δ') → dg x δ fun δ1 => dt δ1 fun b δ2 => if b = true then de δ2 fun r δ3 => datR r δ3 fun d δ4 => p d δ4 else p' δ2) : lcGo dg dt de vs k xs [] δ :=
  lc_mapS0 hB xs [] s δ w (by simpa using few_ok hl) hs h fun δ' hd => hk δ' hd
theorem s_for {di : DI} {dg : DG} {b : DT} {E : DEnds} (h : di δ fun xs δ1 => forGo dg b E xs δ1) : dFor di dg b E δ := h
theorem f_fold {f : D → σ → Option σ} (ε : σ → En → Prop) {dg : DG} {body : DT} {E : DEnds}
    (hB : ∀ x s s' δ, ε s δ → f x s = some s' → ∀ (N : En → Prop), (∀ δ', ε s' δ' → N δ') → dg x δ fun δ1 => body (lpE E N) δ1) :
    ∀ (xs : List D) (s : σ) (δ : En) (s' : σ), oFold f xs s = some s' → ε s δ → (∀ δ', ε s' δ' → E.nx δ') → forGo dg body E xs δ
  | [], s, δ, s', h, hs, hk => by cases h; exact hk δ hs
  | x :: xs, s, δ, s', h, hs, hk => bnd h fun s1 e h => hB x s s1 δ hs e _ fun δ' hd => f_fold ε hB xs s1 δ' s' h hd hk
theorem f_for {f : D → σ → Option (Ctl σ ρ)} (ε : σ → En → Prop) {dg : DG} {body : DT} {E : DEnds} {R : ρ → Prop}
    (hB : ∀ x s c δ, ε s δ → f x s = some c → ∀ (N : En → Prop), (∀ s' δ', c = .nx s' → ε s' δ' → N δ') → (∀ s' δ', c = .bk s' → ε s' δ' → E.nx δ') → (∀ v, c = .rt v → R v) → dg x δ fun δ1 => body (lpE E N) δ1) :
    ∀ (xs : List D) (s : σ) (δ : En) (c : Ctl σ ρ), oFor f xs s = some c → ε s δ → (∀ s' δ', (c = .nx s' ∨ c = .bk s') → ε s' δ' → E.nx δ') → (∀ v, c = .rt v → R v) → forGo dg body E xs δ
  | [], s, δ, c, h, hs, hk, hr => by cases h; exact hk s δ (.inl rfl) hs
  | x :: xs, s, δ, c, h, hs, hk, hr => bnd h fun c1 e h => by
    refine hB x s c1 δ hs e _ (fun s' δ' q hd => ?_) (fun s' δ' q hd => ?_) fun v q => ?_
    · subst q
      exact f_for ε hB xs s' δ' c h hd hk hr
    · subst q
      cases h
      exact hk s' δ' (.inr rfl) hd
    · subst q
      cases h
      exact hr v rfl
theorem go_k {c : Ctl σ ρ} {K : σ → Option γ} {R : ρ → Option γ} {s : σ} (h : c.go K R = some r) (q : c = .nx s ∨ c = .bk s) : K s = some r := by
  rcases q with rfl | rfl <;> exact h
theorem go_r {c : Ctl σ ρ} {K : σ → Option γ} {R : ρ → Option γ} {v : ρ} (h : c.go K R = some r) (q : c = .rt v) : R v = some r := by
  subst q; exact h
theorem c_and1 {t u : DB} {k : Bool → En → Prop} (h : t δ fun c δ1 => if c = true then u δ1 k else k false δ1) : dAnd t u δ k := h
theorem c_or1 {t u : DB} {k : Bool → En → Prop} (h : t δ fun c δ1 => if c = true then k true δ1 else u δ1 k) : dOr t u δ k := h
theorem c_andV1 {a b : DE} {k : Re → En → Prop} (h : a δ fun r δ1 => isB r δ1 fun c => if c = true then b δ1 k else k (.dat (.bool false)) δ1) : dAndV a b δ k := h
theorem c_ifx1 {t : DB} {a b : DE} {k : Re → En → Prop} (h : t δ fun c δ1 => if c = true then a δ1 k else b δ1 k) : dIf t a b δ k := h
theorem c_chain1 {g g' : D → D → (Re → Prop) → Prop} {a b c : DE} {k : Re → En → Prop} (h : a δ fun r1 δ1 => b δ1 fun r2 δ2 => vwR r1 δ2 fun x => vwR r2 δ2 fun y => g x y fun res =>
    chR res (c δ2 fun r3 δ3 => vwR r2 δ3 fun y' => vwR r3 δ3 fun z => g' y' z fun res' => k res' δ3) (k (.dat (.bool false)) δ2)) : dChain g g' a b c δ k := by
  rw [chain_eq]; exact h
theorem c_call {fs : FS} {ms : List Bool} {a : DA} {EX : Str → List (Str × D) → En → Prop} {k : Re → En → Prop} (h : a δ fun rs δ1 => (ioSl ms rs).Nodup ∧ passR ms rs δ1 fun as δ2 => fs as (fun r os => backR ms rs os δ2 fun δ3 => noSl ms rs os r δ3 k) fun C xs os => backR ms rs os δ2 fun δ3 => EX C xs δ3) : dCall fs ms a EX δ k := h
theorem a_0 {k : List Ag → En → Prop} (h : k [] δ) : passR [] [] δ k := h
theorem a_F {x : Re} {ms : List Bool} {rs : List Re} {k : List Ag → En → Prop} (h : datR x δ fun d δ1 => passR ms rs δ1 fun as δ2 => k (.dat d :: as) δ2) : passR (false :: ms) (x :: rs) δ k := h
theorem a_S {i : Nat} {ms : List Bool} {rs : List Re} {k : List Ag → En → Prop} (h : passR ms rs δ fun as δ' => objAt δ' i fun o => k (.io o :: as) δ') : passR (true :: ms) (.slot i :: rs) δ k := h
theorem o_own {i : Nat} {o : MO} {k : MO → Prop} (e : δ[i]? = some (.own o)) (h : k o) : objAt δ i k := by simp only [objAt, e]; exact h
theorem o_io {i : Nat} {o : MO} {k : MO → Prop} (e : δ[i]? = some (.io o)) (h : k o) : objAt δ i k := by simp only [objAt, e]; exact h
theorem k_0 {k : En → Prop} (h : k δ) : backR [] [] [] δ k := h
theorem k_F {x : Re} {ms : List Bool} {rs : List Re} {os : List MO} {k : En → Prop} (h : backR ms rs os δ k) : backR (false :: ms) (x :: rs) os δ k := by
  cases x <;> cases os <;> exact h
theorem k_So {i : Nat} {o o' : MO} {ms : List Bool} {rs : List Re} {os : List MO} {k : En → Prop} (e : δ[i]? = some (.own o)) (h : backR ms rs os (δ.set i (.own o')) k) : backR (true :: ms) (.slot i :: rs) (o' :: os) δ k := by
  simp only [backR, e]; exact h
theorem k_Si {i : Nat} {o o' : MO} {ms : List Bool} {rs : List Re} {os : List MO} {k : En → Prop} (e : δ[i]? = some (.io o)) (h : backR ms rs os (δ.set i (.io o')) k) : backR (true :: ms) (.slot i :: rs) (o' :: os) δ k := by
  simp only [backR, e]; exact h
section
variable {ms : List Bool} {rs : List Re} {os : List MO}
theorem n_d {d : D} {k : Re → En → Prop} (h : k (.dat d) δ) : noSl ms rs os (.dat d) δ k := h
theorem n_n {o : MO} {k : Re → En → Prop} (h : k (.new o) δ) : noSl ms rs os (.new o) δ k := h
end
theorem if_t {p q : Prop} (h : p) : if true = true then p else q := by simpa using h
theorem nd1 {α : Type} {x : α} : [x].Nodup := by simp
theorem nd2 {α : Type} {x y : α} (h : x ≠ y) : [x, y].Nodup := by simp [h]
end
end Pd
set_option Elab.async false
set_option linter.all false
set_option maxRecDepth 100000
set_option maxHeartbeats 2000000
namespace Pd
open PySem PySem.Spec PyProof.Rows L2
abbrev Ob := NK × List Tre
def rt (x : Ob) : Tre := .nod x.1 x.2
section
variable {δ : En} {k : Re → En → Prop} {i j : Nat} {E : DEnds} {d y : D} {u t : Tre} {p : List Nat} {x x' : Ob}
def putK (δ : En) (i : Nat) (p : List Nat) (u : Tre) (k : En → Prop) : Prop := k (putP δ i p u)
end
end Pd
set_option Elab.async false
set_option linter.all false
set_option maxRecDepth 100000
set_option maxHeartbeats 2000000
namespace Pd
open PySem PySem.Spec PySem.Calls PyProof.Rows L2
section
variable {prog : Program} {w : World} {A : Around} {E : Value → Shared → Prop} {s : Shared}
end
variable {K : PySem.W.Frag} [HasW K] {B : Bs} {X : Cx}
section
variable {δ : En} {k : Re → En → Prop} {d : D}
end
end Pd
set_option Elab.async false
set_option linter.all false
set_option maxRecDepth 100000
set_option maxHeartbeats 2000000
namespace Pd
open PySem PySem.Spec PyProof.Rows L2
variable {K : PySem.W.Frag} [HasW K] {B : Bs}
theorem its_enumT {Hf : Hp} {a : Addr} {vs : List V} {ds : List D} (h : SqN K Hf a vs) (hd : DrA K Hf vs ds) : Its' K (IteN false K a) (enumD ds) Hf := by
  have hl : (enumD ds).length = vs.length := by simp [enumD, dpa_len hd]
  refine ⟨_, _, hl.symm ▸ walk_enumN (xs := vs), fun Hf' H e1 e2 => sqxT (sqt_mono (e1.trans e2) h), fun i Hf' H x H' e1 e2 hi y => ?_⟩
  obtain ⟨T, o, y1, y2, e3, hT, ho, e4, y3, y4⟩ := y
  subst e3; subst e4
  obtain ⟨d, q1, q2⟩ := dpa_getv (Same.dpa e1 hd) y4
  cases y3
  obtain ⟨Hf2, g, q⟩ := pair_new (d := .int (i : Nat)) (f := d) e2 hT ho (.int _) q2
  exact ⟨Hf2, _, g, by simp [enumD, q1], q⟩
def enK (d : D) (k : List D → Prop) : Prop := match d with
  | .list xs => k xs
  | .tuple xs => k xs
  | _ => False
def diEnumA (e : DE) : DI := fun δ k => e δ fun r δ1 => datR r δ1 fun d δ2 => enK d fun ds => k (enumD ds) δ2
theorem di_enumA {te : TE} {e : DE} (he : DEok B K te e) : DIok B K (iEnumN K (tCons te tNil)) (diEnumA e) := by
  intro Hf H σ τ δ θ Kc R hs hd S h k
  refine he Hf H σ τ δ θ _ _ hs hd S h fun r δ1 v Hf1 H1 h1 hd1 e1 S1 => ?_
  obtain ⟨d, δ2, Hf2, h2, hd2, e2, q2, S2⟩ := dat_top S1 hs hd1 h1
  have ee := e1.trans e2
  cases d with
  | list ds =>
    cases q2 with
    | lst a1 a2 => exact ⟨true, _, _, rfl, sqxL (.inl (rd_mono S2.fh a1)), k (enumD ds) δ2 _ Hf2 H1 h2 hd2 ee S2 (its_enum a1 a2)⟩
  | tuple ds =>
    cases q2 with
    | tup a1 a2 => exact ⟨false, _, _, rfl, sqxT (sqt_mono S2.fh a1), k (enumD ds) δ2 _ Hf2 H1 h2 hd2 ee S2 (its_enumT a1 a2)⟩
  | _ => exact h2.elim
section
variable {δ : En} {d : D}
theorem i_enumA {e : DE} {k : List D → En → Prop} (h : e δ fun r δ1 => datR r δ1 fun d δ2 => enK d fun ds => k (enumD ds) δ2) : diEnumA e δ k := h
theorem en_l {xs : List D} {k : List D → Prop} (h : k xs) : enK (.list xs) k := h
theorem en_d {xs : List D} {k : List D → Prop} (e : oList d = some xs) (h : k xs) : enK d k := by
  cases d <;> cases e <;> exact h
end
end Pd
set_option Elab.async false
set_option linter.all false
set_option maxRecDepth 100000
set_option maxHeartbeats 2000000
namespace Pd
open PySem PySem.Spec PyProof.Rows L2
variable {K : PySem.W.Frag} [HasW K] {B : Bs}
def hidS : Sl → Sl
  | .dat d => .dat d
  | .fn a => .fn a
  | _ => .un
def hid (δ : En) : En := δ.map hidS
theorem hid_len {δ : En} : (hid δ).length = δ.length := List.length_map ..
theorem hid_get {δ : En} {i : Nat} {s : Sl} (h : (hid δ)[i]? = some s) : s = .un ∨ (∃ d, s = .dat d ∧ δ[i]? = some (.dat d)) ∨ ∃ a, s = .fn a ∧ δ[i]? = some (.fn a) := by
  unfold hid at h
  rw [List.getElem?_map] at h
  cases e : δ[i]? with
  | none => rw [e] at h; cases h
  | some t =>
    rw [e] at h
    have h : some (hidS t) = some s := h
    cases t <;> cases h <;> first | exact .inl rfl | exact .inr (.inl ⟨_, rfl, rfl⟩) | exact .inr (.inr ⟨_, rfl, rfl⟩)
def Bq (Hf H : Hp) (n : Nat) : Bs := ⟨Hf, H, [], n, []⟩
theorem Sta.hid {Hf H : Hp} {σ τ : L2.St} {δ θ : En} (S : Sta B K Hf H (σ ++ τ) (δ ++ θ)) (hs : σ.length = B.n) (hd : δ.length = B.n) : Sta (Bq Hf H B.n) K Hf H (σ ++ []) (Pd.hid δ ++ []) := by
  rw [List.append_nil, List.append_nil]
  have no : ∀ {i : Nat} {s : Sl} {o : MO}, (Pd.hid δ)[i]? = some s → s.obj = some o → False := fun {i s o} h1 h2 => by
    rcases hid_get h1 with rfl | ⟨d, rfl, _⟩ | ⟨d, rfl, _⟩ <;> cases h2
  exact {
    len := by rw [hid_len, hs, hd]
    nl := by show B.n ≤ _; omega
    cell := fun i x s h1 h2 => by
      rcases hid_get h2 with rfl | ⟨d, rfl, e⟩ | ⟨d, rfl, e⟩
      · trivial
      · have hi : i < σ.length := (List.getElem?_eq_some_iff.mp h1).1
        exact S.cell i x (.dat d) (by rw [List.getElem?_append_left hi]; exact h1) (by rw [List.getElem?_append_left (by omega)]; exact e)
      · have hi : i < σ.length := (List.getElem?_eq_some_iff.mp h1).1
        exact S.cell i x (.fn d) (by rw [List.getElem?_append_left hi]; exact h1) (by rw [List.getElem?_append_left (by omega)]; exact e)
    dj := fun i j a b s t o u _ _ _ h3 _ h5 _ => (no h3 h5).elim
    ff := Same.refl _
    fh := S.fh
    fn := fun a o h => .inl h
    bk := fun a o h _ => h
    ow := fun i a o _ h => (no h rfl).elim
    iw := fun i a o _ h => (no h rfl).elim
    ip := fun a h => by simp [Bs.ad, Bq] at h
    tb := fun p hp => absurd hp (by simp [Bq])
    bo := fun k i h => by rcases hid_get h with z | ⟨d, z, _⟩ | ⟨d, z, _⟩ <;> cases z }
theorem gw_of {Hf H Hf' H' : Hp} {n : Nat} {L : L2.St} {M : En} (S : Sta (Bq Hf H n) K Hf' H' L M) : Gw Hf H Hf' H' :=
  ⟨fun a o h => S.bk a o h (by simp [Bs.ad, Bq]), S.ff, S.fh, S.fn⟩
end Pd
set_option Elab.async false
set_option linter.all false
set_option maxRecDepth 100000
set_option maxHeartbeats 2000000
namespace Pd
open PySem PySem.Spec PyProof.Rows L2
section
variable {K : PySem.W.Frag} [HasW K] {B : Bs}
end
section
variable {δ δh : En} {k : Re → En → Prop} {i : Nat} {d : D} {u t : Tre} {p : List Nat} {x x' : Ob}
end
end Pd
set_option Elab.async false
set_option linter.all false
set_option maxRecDepth 100000
set_option maxHeartbeats 2000000
namespace Pd
open PySem PySem.Spec PyProof.Rows L2
section
variable {prog : Program} {w : World} {A : Around} {E : Value → Shared → Prop} {s : Shared}
end
section
variable {X : Cx}
end
variable {K : PySem.W.Frag} [HasW K]
end Pd
set_option Elab.async false
set_option linter.all false
set_option maxRecDepth 100000
set_option maxHeartbeats 2000000
namespace Pd
open PySem PySem.Spec PyProof.Rows L2 L2.DX
section
variable {X : Cx}
variable {x y : Str} {p p2 pos pos2 : Pos} {e : Expr} {es : List Expr} {t : TA}
end
end Pd
set_option Elab.async false
set_option linter.all false
set_option maxRecDepth 100000
set_option maxHeartbeats 2000000
namespace Pd
open PySem PySem.Spec PyProof.Rows L2
variable {K : PySem.W.Frag} [HasW K] {B : Bs}
structure NewL (K : PySem.W.Frag) [HasW K] (H1 Hf H : Hp) (Dl a : Addr) (ds : List D) : Prop where
  at_ : ∃ us, H a = some (.lst us) ∧ DrA K Hf us ds
  h1 : H1 a = none
  hf : Hf a = none
  ne : a ≠ Dl
structure Cpl (K : PySem.W.Frag) [HasW K] (Hf1 H1 Hf H : Hp) (Dl : Addr) (acc : List Addr) (dss : List (List D)) : Prop where
  ff : Same Hf1 Hf
  fh : Same Hf H
  hh : Same H1 H
  fn : ∀ a o, Hf a = some o → Hf1 a = some o ∨ H1 a = none
  fD : Hf Dl = none
  hD : H Dl = some (.lst (acc.map V.ref))
  ls : Paired (NewL K H1 Hf H Dl) acc dss
  nd : acc.Nodup
section
variable {X : Cx} {e : Expr} {td : TE} {apos cpos : Pos}
end
structure Cpk (K : PySem.W.Frag) [HasW K] (Hf1 HL Hf H : Hp) (Dl : Addr) (acc : List (Key × Addr × Addr)) (dss : List (List D)) : Prop where
  ff : Same Hf1 Hf
  fh : Same Hf H
  hh : Same HL H
  fn : ∀ a o, Hf a = some o → Hf1 a = some o ∨ HL a = none
  fD : Hf Dl = none
  hD : H Dl = some (.lst (acc.map fun t => V.ref t.2.1))
  tp : ∀ t ∈ acc, H t.2.1 = some (.tup [kV t.1, .ref t.2.2]) ∧ t.2.1 ≠ Dl ∧ HL t.2.1 = none
  ls : Paired (NewL K HL Hf H Dl) (acc.map (·.2.2)) dss
  nd : (acc.map (·.2.2)).Nodup
end Pd
set_option Elab.async false
set_option linter.all false
set_option maxRecDepth 100000
set_option maxHeartbeats 2000000
namespace Pd
open PySem PySem.Spec PyProof.Rows L2
section
variable {K : PySem.W.Frag} [HasW K] {B : Bs}
theorem valP_keep {Hf H H' : Hp} {u : Tre} : ∀ (p : List Nat) {t : Tre} {v w : V}, TR K Hf H t v → (foot H t v).Nodup → getP t p = some u → valP H v p = some w → (∀ x ∈ foot H t v, x ∉ foot H u w → H' x = H x) → valP H' v p = some w
  | [], t, v, w, h, nd, e1, e2, kp => by simpa [valP] using e2
  | n :: p, .dat d, v, w, h, nd, e1, e2, kp => by simp [getP] at e1
  | n :: p, .nod k ts, v, w, h, nd, e1, e2, kp => by
    rw [TR] at h
    obtain ⟨a, rfl, h1, h2⟩ := h
    unfold getP at e1
    cases q0 : ts[n]? with
    | none => simp only [q0] at e1; cases e1
    | some t =>
      simp only [q0] at e1
      obtain ⟨v1, q1, q2, q3⟩ := trs_get h2 q0
      unfold valP at e2 ⊢
      simp only [q1] at e2
      dsimp only
      obtain ⟨w', r1, r2, r3⟩ := getP_ok p q2 e1
      rw [e2] at r1
      cases r1
      rw [foot] at nd kp
      have ndc := List.nodup_cons.mp nd
      have nda := List.nodup_append.mp ndc.2
      have inL : ∀ x ∈ foot H u w, x ∈ footL H ts (valsO (H a)) := fun x hx => q3 x (r3 x hx)
      have ea : H' a = H a := kp a List.mem_cons_self fun z => ndc.1 (List.mem_append_right _ (inL a z))
      rw [ea]
      simp only [q1]
      exact valP_keep p q2 (footL_one nda.2.1 q0 q1) e1 e2 fun x hx hn => kp x (List.mem_cons_of_mem _ (List.mem_append_right _ (q3 x hx))) hn
theorem getP_setP {u u' : Tre} : ∀ (p : List Nat) {t : Tre}, getP t p = some u → getP (setP t p u') p = some u'
  | [], t, e => by simp [getP, setP]
  | n :: p, .dat d, e => by simp [getP] at e
  | n :: p, .nod k ts, e => by
    unfold getP at e
    cases q0 : ts[n]? with
    | none => simp only [q0] at e; cases e
    | some t =>
      simp only [q0] at e
      rw [setP]
      simp only [q0]
      have hn := (List.getElem?_eq_some_iff.mp q0).1
      have : (ts.set n (setP t p u'))[n]? = some (setP t p u') := List.getElem?_set_self hn
      rw [getP]
      simp only [this]
      exact getP_setP p e
theorem treAt_putP {δ : En} {i : Nat} {p : List Nat} {t : Tre} {k : NK} {ts : List Tre} (h : treAt δ i = some t) : treAt (putP δ i p (.nod k ts)) i = some (setP t p (.nod k ts)) := by
  unfold putP
  rw [h]
  show treAt (putT δ i (setP t p (.nod k ts))) i = _
  unfold treAt at h
  cases e : δ[i]? with
  | none => simp only [e] at h; cases h
  | some s =>
    have hi : i < δ.length := (List.getElem?_eq_some_iff.mp e).1
    simp only [e] at h
    split at h
    · rename_i k0 ts0 hh
      cases h
      cases hh
      obtain ⟨k2, ts2, e2⟩ := setP_nod (k := k0) (ts := ts0) (k' := k) (ts' := ts) (p := p)
      rw [e2]
      unfold putT
      simp only [e]
      unfold treAt
      rw [List.getElem?_set_self hi]
      rfl
    · rename_i k0 ts0 hh
      cases h
      cases hh
      obtain ⟨k2, ts2, e2⟩ := setP_nod (k := k0) (ts := ts0) (k' := k) (ts' := ts) (p := p)
      rw [e2]
      unfold putT
      simp only [e]
      unfold treAt
      rw [List.getElem?_set_self hi]
      rfl
    · cases h
theorem At.after {Hf0 H0 Hf H : Hp} {σ τ : L2.St} {δ θ : En} {i : Nat} {p : List Nat} {kk k' : NK} {ts ts' : List Tre} {t : Tre} {a b : Addr} {ho : HO} (A : At B K Hf0 H0 Hf H σ δ i p kk ts t a b) (S : Sta B K Hf H (σ ++ τ) (δ ++ θ)) (hs : σ.length = B.n) (hd : δ.length = B.n)
    (S' : Sta B K Hf (upd H b ho) (σ ++ τ) (putP δ i p (.nod k' ts') ++ θ)) : At B K Hf (upd H b ho) Hf (upd H b ho) σ (putP δ i p (.nod k' ts')) i p k' ts' (setP t p (.nod k' ts')) a b := by
  have h2 := treAt_putP (p := p) (k := k') (ts := ts') A.h
  have hp2 := getP_setP (u' := .nod k' ts') p A.hp
  obtain ⟨a0, k0, ts0, s0, et0, _, _, _, e40, e50, e60⟩ := treAt_ok S hs hd A.h
  have := A.e
  rw [e40] at this
  cases this
  subst et0
  have hv2 : valP (upd H b ho) (.ref a) p = some (.ref b) := valP_keep p e60.1 e60.2.1 A.hp A.hv fun x hx hn => upd_ne fun z => hn (by rw [z, foot]; exact List.mem_cons_self)
  obtain ⟨a1, k1, ts1, s1, et1, _, _, _, e41, e51, e61⟩ := treAt_ok S' hs (putP_len.trans hd) h2
  have := A.e
  rw [e41] at this
  cases this
  have tr2 := e61.1
  rw [← et1] at tr2
  obtain ⟨w', q1, q2, q3⟩ := getP_ok p tr2 hp2
  rw [hv2] at q1
  cases q1
  exact ⟨h2, A.e, hp2, hv2, q2, tr2⟩
end
end Pd
set_option Elab.async false
set_option linter.all false
set_option maxRecDepth 100000
set_option maxHeartbeats 2000000
namespace Pd
open PySem PySem.Spec PyProof.Rows L2 L2.DX
section
variable {K : PySem.W.Frag} [HasW K]
end
end Pd
set_option Elab.async false
set_option linter.all false
set_option maxRecDepth 100000
set_option maxHeartbeats 2000000
namespace Pd
open PySem PySem.Spec PyProof.Rows L2
section
variable {K : PySem.W.Frag} [HasW K] {B : Bs}
end
end Pd
set_option Elab.async false
set_option linter.all false
set_option maxRecDepth 100000
set_option maxHeartbeats 2000000
namespace Pd
open PySem PySem.Spec PyProof.Rows L2
section
variable {δ : En} {k : Re → En → Prop} {E : DEnds} {i : Nat} {d : D} {u t : Tre} {p : List Nat} {x x' : Ob}
end
end Pd
set_option Elab.async false
set_option linter.all false
set_option maxRecDepth 100000
set_option maxHeartbeats 2000000
namespace Pd
open PySem PySem.Spec PyProof.Rows L2
def LETTERSs : Str := "abcdefghijklmnopqrstuvwxyz"
def allIn (w z : Str) : Bool := w.cps.toList.all fun c => decide (c ∈ z.cps.toList)
def KEYWs : List Str := ["let", "open", "ask", "say", "if", "else", "while", "east", "west", "kept", "mark", "plus", "less", "times", "under", "same", "send", "take", "tell", "hear", "none"]
def PAIRSs : List Str := ["plus", "less", "times", "under", "same"]
def isNm (w : Str) : Bool := decide (1 ≤ w.length ∧ w.length ≤ 6) && (!KEYWs.contains w && allIn w LETTERSs)
theorem map_nil {α β : Type} (f : α → β) (l : List α) : (l.map f).isEmpty = l.isEmpty := by cases l <;> rfl
theorem atI_nat {α : Type} {xs : List α} {i : Nat} (h : i < xs.length) : atI xs (i : Nat) = xs[i]? := by
  unfold atI ixN
  rw [if_pos (by omega), if_pos (by omega)]
  rfl
theorem let_cok : ∀ c ∈ LETTERSs.cps.toList, c < 0xD800 := by decide +kernel
theorem nm_sok {w : Str} (h : isNm w = true) : PyData.strOk w = true := by
  unfold isNm at h
  simp only [Bool.and_eq_true] at h
  refine (sok_iff w).mpr fun c hc => ?_
  have h2 := h.2.2
  unfold allIn at h2
  have := let_cok c (of_decide_eq_true (List.all_eq_true.mp h2 c hc))
  omega
theorem len_of (w : Str) : w.length = w.cps.toList.length := by simp [Str.length]
theorem atI_0 {α : Type} {x : α} {xs : List α} : atI (x :: xs) 0 = some x := by
  unfold atI ixN
  rw [if_pos (by decide), if_pos (by simp)]
  rfl
theorem atI_1 {α : Type} {x y : α} {xs : List α} : atI (x :: y :: xs) 1 = some y := by
  unfold atI ixN
  rw [if_pos (by decide), if_pos (by simp; omega)]
  rfl
inductive Ex where
  | num (n : Nat)
  | nam (w : Str)
  | bin (w : Str) (a b : Ex)
def Ex.dep : Ex → Nat
  | .num _ => 0
  | .nam _ => 0
  | .bin _ a b => max a.dep b.dep + 1
def Ex.size : Ex → Nat
  | .num _ => 1
  | .nam _ => 1
  | .bin _ a b => 1 + a.size + b.size
def Ex.ok : Ex → Prop
  | .num n => n ≤ 996
  | .nam w => isNm w = true
  | .bin w a b => PAIRSs.contains w = true ∧ a.ok ∧ b.ok
def binV (w : Str) (x y : Int) : Int := if w = "plus" then (x + y) % 997 else if w = "less" then (x - y) % 997 else if w = "times" then x * y % 997 else if w = "under" then (if x < y then 1 else 0) else if x = y then 1 else 0
def Ex.val (env : Str → Int) : Ex → Int
  | .num n => n
  | .nam w => env w
  | .bin w a b => binV w (a.val env) (b.val env)
inductive Rw where
  | lt (op : Bool) (n : Str) (e : Ex)
  | ask (n h : Str) (kept : Bool)
  | say (h : Str) (e : Ex)
  | ifr (e : Ex) (a b : List Rw)
  | whl (e : Ex) (a : List Rw)
def Rw.told : Rw → Option Str
  | .lt _ n _ => some n
  | .ask n _ _ => some n
  | _ => none
def Rw.expr : Rw → Option Ex
  | .lt _ _ e => some e
  | .say _ e => some e
  | .ifr e _ _ => some e
  | .whl e _ => some e
  | .ask .. => none
end Pd
set_option Elab.async false
set_option linter.all false
set_option maxRecDepth 100000
set_option maxHeartbeats 2000000
namespace Pd
open PySem PySem.Spec PyProof.Rows L2
section
variable {α β γ σ ρ : Type} {x y z w : D} {r xs ys : List D} {a b : Str} {i j : Int} {n : Nat}
theorem oIx0 : oIx (.tuple (x :: r)) (.int 0) = some x := atI_0
theorem oIx1 : oIx (.tuple (x :: y :: r)) (.int 1) = some y := atI_1
theorem oIxN (h : n < xs.length) : oIx (.list xs) (.int (n : Nat)) = xs[n]? := atI_nat h
theorem oEq_i : oEq (.int i) (.int j) = some (decide (i = j)) := rfl
theorem oLt_i : oLt (.int i) (.int j) = some (decide (i < j)) := rfl
theorem oLe_i : oLe (.int i) (.int j) = some (decide (i ≤ j)) := rfl
theorem oGt_i : oGt (.int i) (.int j) = some (decide (j < i)) := rfl
theorem oGe_i : oGe (.int i) (.int j) = some (decide (j ≤ i)) := rfl
theorem oGe_s : oGe (.str a) (.str b) = some (!decide (a.cps.toList < b.cps.toList)) := rfl
theorem oAdd_i : oAdd (.int i) (.int j) = some (.int (i + j)) := rfl
theorem oSub_i : oSub (.int i) (.int j) = some (.int (i - j)) := rfl
theorem oMod_i (h : 0 < j) : oMod (.int i) (.int j) = some (.int (i % j)) := by
  show gd _ _ = _
  rw [decide_eq_true h]; rfl
theorem oLen_t : oLen (.tuple xs) = some (xs.length : Int) := rfl
theorem oLen_l : oLen (.list xs) = some (xs.length : Int) := rfl
theorem oLen_s (h : a.length ≤ 1000000) : oLen (.str a) = some (a.length : Int) := by
  show gd _ _ = _
  rw [decide_eq_true h]; rfl
theorem oIn_strs {ws : List Str} : oIn (.str a) (.tuple (ws.map PyData.str)) = some (ws.contains a) := by
  show gd _ _ = _
  rw [in_strs, any_strs]; rfl
theorem isi_s : oIsi "str" (.str a) = some true := by simp [oIsi, isT, isTy, tyN, notX, gd]
theorem isi_t : oIsi "tuple" (.tuple xs) = some true := by simp [oIsi, isT, isTy, tyN, notX, gd]
theorem isi_i : oIsi "int" (.int i) = some true := by simp [oIsi, isT, isTy, tyN, notX, gd]
theorem isi_ib : oIsi "bool" (.int i) = some false := by simp [oIsi, isT, isTy, tyN, notX, gd]
theorem few_of (h : xs.length ≤ 100000) : few xs = some () := by
  show gd _ _ = _
  rw [decide_eq_true h]; rfl
theorem oMap_map {τ : Type} {f : D → Option D} {g h : τ → D} : ∀ {l : List τ}, (∀ x ∈ l, f (g x) = some (h x)) → oMap f (l.map g) = some (l.map h)
  | [], _ => rfl
  | x :: l, q => by
    rw [List.map_cons, oMap, q x List.mem_cons_self, Option.bind_some, oMap_map fun y hy => q y (List.mem_cons_of_mem _ hy)]
    rfl
theorem oFor_on {f : D → Unit → Option (Ctl Unit ρ)} : ∀ {l : List D}, (∀ x ∈ l, f x () = some (.nx ())) → oFor f l () = some (.nx ())
  | [], _ => rfl
  | x :: l, q => by
    rw [oFor, q x List.mem_cons_self, Option.bind_some]
    exact oFor_on fun y hy => q y (List.mem_cons_of_mem _ hy)
theorem oAll_t {l : List D} (h : ∀ d ∈ l, d = .bool true) : oAll (.list l) = some true := by
  have e : boolsOf l = some (l.map fun _ => true) := by
    induction l with
    | nil => rfl
    | cons d l ih =>
      rw [h d List.mem_cons_self]
      show (boolsOf l).map (true :: ·) = _
      rw [ih fun y hy => h y (List.mem_cons_of_mem _ hy)]
      rfl
  show (boolsOf l).map _ = _
  rw [e]
  simp
theorem oAll_bs {ws : List Bool} : oAll (.list (ws.map PyData.bool)) = some (ws.all id) := by
  have e : boolsOf (ws.map PyData.bool) = some ws := by
    induction ws with
    | nil => rfl
    | cons d l ih =>
      show (boolsOf (l.map PyData.bool)).map (d :: ·) = _
      rw [ih]; rfl
  show (boolsOf _).map _ = _
  rw [e]
  rfl
end
end Pd
set_option Elab.async false
set_option linter.all false
set_option maxRecDepth 100000
set_option maxHeartbeats 2000000
namespace Pd
open PySem PySem.Spec PyProof.Rows L2
mutual
def Rw.dp : Rw → Nat
  | .lt _ _ _ => 1
  | .ask _ _ _ => 1
  | .say _ _ => 1
  | .ifr _ a b => 1 + max (dpL a) (dpL b)
  | .whl _ a => 1 + dpL a
def dpL : List Rw → Nat
  | [] => 0
  | r :: rs => max r.dp (dpL rs)
end
def Lay (d : D) (n : Nat) : Prop := d.canLay0 = true ∧ d.depth ≤ n
theorem lay_str {w : Str} {n : Nat} (h : PyData.strOk w = true) : Lay (.str w) n := ⟨by simpa [PyData.canLay0] using h, by simp [PyData.depth]⟩
theorem lay_int {i : Int} {n : Nat} : Lay (.int i) n := ⟨by simp [PyData.canLay0], by simp [PyData.depth]⟩
theorem Lay.mono {d : D} {n m : Nat} (h : Lay d n) (q : n ≤ m) : Lay d m := ⟨h.1, Nat.le_trans h.2 q⟩
theorem lay_tuple {ds : List D} {n : Nat} (h : ∀ d ∈ ds, Lay d n) : Lay (.tuple ds) (n + 1) := by
  have h1 := depthAll_le fun d hd => (h d hd).2
  refine ⟨?_, ?_⟩
  · rw [PyData.canLay0]
    exact canAll fun d hd => (h d hd).1
  · rw [PyData.depth]
    omega
theorem oEq_empty {ds : List D} (h : ∀ d ∈ ds, Lay d 62) : oEq (.list ds) (.list []) = some ds.isEmpty := by
  show gd (shp _ _) _ = _
  have h1 : SeqAt.shaped (.list ds) = true := shaped_list h
  have h2 : SeqAt.shaped (.list []) = true := shaped_list (by simp)
  rw [shp, h1, h2, eqv_nil]
  rfl
def asK (l : List (Str × D)) : List (Key × D) := l.map fun p => (.inr p.1, p.2)
theorem asK_nx (l : List (Str × D)) : notXL ((asK l).map fun p => (kD p.1, p.2)) = true := notXL_map _
def assoc (l : List (Str × D)) (w : Str) : Option D := (l.find? fun p => decide (p.1 = w)).map (·.2)
theorem look_as {w : Str} : ∀ {l : List (Str × D)}, lookD ((asK l).map fun p => (kD p.1, p.2)) (.str w) = assoc l w
  | [] => rfl
  | (k, d) :: l => by
    have e : PyData.eqv (kD (.inr k)) (kD (.inr w)) = decide ((Sum.inr k : Key) = Sum.inr w) := kD_eqv _ _
    have e2 : decide ((Sum.inr k : Key) = Sum.inr w) = decide (k = w) := by
      by_cases h : k = w
      · subst h; simp
      · rw [decide_eq_false h, decide_eq_false (fun z => h (Sum.inr.inj z))]
    show (if PyData.eqv (kD (.inr k)) (.str w) = true then some d else lookD ((asK l).map fun p => (kD p.1, p.2)) (.str w)) = _
    rw [show PyData.eqv (kD (.inr k)) (.str w) = decide (k = w) from e.trans e2, look_as (l := l)]
    unfold assoc
    rw [List.find?_cons]
    by_cases h : k = w
    · simp [h]
    · simp [h]
theorem oIx_as {l : List (Str × D)} {w : Str} : oIx (dK (asK l)) (.str w) = assoc l w := by
  show (gd (notXL _) ()).bind _ = _
  rw [asK_nx]
  exact look_as
def putS : List (Str × D) → Str → D → List (Str × D)
  | [], k, d => [(k, d)]
  | p :: r, k, d => if p.1 = k then (p.1, d) :: r else p :: putS r k d
theorem put_as {k : Str} {d : D} : ∀ {l : List (Str × D)}, putD (asK l) (.inr k) d = asK (putS l k d)
  | [] => rfl
  | p :: r => by
    show putD ((Sum.inr p.1, p.2) :: asK r) (.inr k) d = _
    unfold putD putS
    by_cases h : p.1 = k
    · rw [if_pos h, if_pos (by simp [h])]; rfl
    · rw [if_neg h, if_neg (fun z => h (Sum.inr.inj z)), put_as]; rfl
theorem ndK_as : ∀ {l : List (Str × D)}, (l.map (·.1)).Nodup → ndK (asK l) = true
  | [], _ => rfl
  | p :: r, h => by
    rw [List.map_cons, List.nodup_cons] at h
    show ((!(asK r).any fun q => decide (q.1 = Sum.inr p.1)) && ndK (asK r)) = true
    rw [ndK_as h.2, Bool.and_true, Bool.not_eq_true', List.any_eq_false]
    intro q hq
    obtain ⟨z, hz, rfl⟩ := List.mem_map.mp hq
    simp only [decide_eq_true_eq]
    intro e
    exact h.1 (List.mem_map.mpr ⟨z, hz, Sum.inr.inj e⟩)
theorem oPut_as {l : List (Str × D)} {k : Str} {d : D} (h : (l.map (·.1)).Nodup) (hl : l.length < 1000000) : oPut (asK l) (.str k) d = some (asK (putS l k d)) := by
  show (some (Sum.inr k : Key)).bind _ = _
  rw [Option.bind_some, ndK_as h, show (asK l).length = l.length from List.length_map .., decide_eq_true hl, ← put_as]
  rfl
theorem merge_as : ∀ (l acc : List (Str × D)), ((acc ++ l).map (·.1)).Nodup → mergeD (asK acc) (asK l) = asK (acc ++ l)
  | [], acc, _ => by rw [List.append_nil]; rfl
  | p :: r, acc, h => by
    have e : putS acc p.1 p.2 = acc ++ [p] := by
      have nin : p.1 ∉ acc.map (·.1) := fun z => by
        rw [List.map_append, List.map_cons] at h
        have := (List.nodup_append.mp h).2.2 _ z _ List.mem_cons_self
        exact this rfl
      clear h
      induction acc with
      | nil => rfl
      | cons q acc ih =>
        unfold putS
        rw [if_neg (fun z => nin (by simp [z])), ih fun z => nin (by simp at z ⊢; exact .inr z)]
        rfl
    show mergeD (putD (asK acc) (.inr p.1) p.2) (asK r) = _
    rw [put_as, e, merge_as r (acc ++ [p]) (by simpa using h)]
    simp
theorem merge_as0 {l : List (Str × D)} (h : (l.map (·.1)).Nodup) : mergeD [] (asK l) = asK l := merge_as l [] h
end Pd
set_option Elab.async false
set_option linter.all false
set_option maxRecDepth 100000
set_option maxHeartbeats 2000000
namespace Pd
open PySem PySem.Spec PyProof.Rows L2
section
variable {α : Type}
abbrev TDk (α : Type) := List (List Key × α)
def thD (k : List Key) : D := .tuple (k.map kD)
theorem thD_key (k : List Key) : keyT (thD k) = some k := keyT_kD k
def kidT (g : α → Tre) (T : TDk α) : List Tre := T.flatMap fun p => [.dat (thD p.1), g p.2]
variable {g : α → Tre}
end
end Pd
set_option Elab.async false
set_option linter.all false
set_option maxRecDepth 100000
set_option maxHeartbeats 2000000
namespace Pd
open PySem PySem.Spec PyProof.Rows L2
abbrev Th := Str × Key
end Pd
set_option Elab.async false
set_option linter.all false
set_option maxRecDepth 100000
set_option maxHeartbeats 2000000
namespace Pd
open PySem PySem.Spec PyProof.Rows L2
def storeAllX (xs ps : List XE) : List XE := ps.foldl (fun acc p => storeX acc p.1 p.2.1 p.2.2) xs
theorem XP.all {ps : List XE} {qs : List (List Key × Addr × Value)} (r : XP ps qs) : ∀ {xs : List XE} {ys : List (List Key × Addr × Value)}, XP xs ys → XP (storeAllX xs ps) (storedAllH ys qs) := by
  induction r with
  | nil => intro xs ys h; exact h
  | @cons p q ps qs h t ih =>
    intro xs ys h2
    obtain ⟨k, b, v⟩ := p
    obtain ⟨k', b', v'⟩ := q
    obtain ⟨h3, h4, h5⟩ := h
    simp only at h3 h4 h5
    subst h3 h4
    exact ih (h2.put k h5)
section
variable {K : PySem.W.Frag} [HasW K]
end
end Pd
set_option Elab.async false
set_option linter.all false
set_option maxRecDepth 100000
set_option maxHeartbeats 2000000
namespace Pd
open PySem PySem.Spec PyProof.Rows L2
section
variable {K : PySem.W.Frag} [HasW K]
abbrev PT (K : PySem.W.Frag) [HasW K] (Hf : Hp) : List XE → TDk D → Prop := Paired fun x p => x.1 = p.1 ∧ Dr K Hf (.ref x.2.1) (thD x.1) ∧ Dr K Hf x.2.2 p.2
theorem PT.snoc {Hf : Hp} {xs : List XE} {T : TDk D} (h : PT K Hf xs T) {x : XE} {p : List Key × D} (g : x.1 = p.1 ∧ Dr K Hf (.ref x.2.1) (thD x.1) ∧ Dr K Hf x.2.2 p.2) : PT K Hf (xs ++ [x]) (T ++ [p]) := by
  induction h with
  | nil => exact .cons g .nil
  | cons h t ih => exact .cons h ih
theorem PT.repl {Hf : Hp} {xs : List XE} {T : TDk D} (h : PT K Hf xs T) {k : List Key} {v : V} {d : D} (g : Dr K Hf v d) : PT K Hf (xs.map fun x => if x.1 = k then (x.1, x.2.1, v) else x) (T.map fun p => if p.1 = k then (p.1, d) else p) := by
  induction h with
  | nil => exact .nil
  | @cons x p xs T h t ih =>
    rw [List.map_cons, List.map_cons]
    refine .cons ?_ ih
    by_cases e : x.1 = k
    · rw [if_pos e, if_pos (h.1.symm.trans e)]; exact ⟨h.1, h.2.1, g⟩
    · rw [if_neg e, if_neg (fun z => e (h.1.trans z))]; exact h
theorem PT.keys {Hf : Hp} {xs : List XE} {T : TDk D} (h : PT K Hf xs T) : xs.map (·.1) = T.map (·.1) := by
  induction h with
  | nil => rfl
  | cons h t ih => rw [List.map_cons, List.map_cons, ih, h.1]
end
end Pd
set_option Elab.async false
set_option linter.all false
set_option maxRecDepth 100000
set_option maxHeartbeats 4000000
namespace Pd
open PySem PySem.Spec PyProof.Rows L2
section
variable {X : Cx}
theorem exg_ok {P : Program} {w : World} {H : Hp} {h : Heap} {a C : Addr} {dx : Option Addr} {o : Obj} {vs : Array Value} (g : h.get? a = some o) (z : Zc (.ref C) dx o) (hd : o.data = .fields vs) : ObjOk P w H h a (exg a C dx) :=
  ⟨⟨o, vs, g, z, hd⟩, ⟨o, g⟩, fun _ _ ⟨o', v', q, r⟩ kp => ⟨o', v', kp o' q, r⟩⟩
theorem caught_inv {pl : List (Addr × Obj)} {σ : L2.St} {H : Hp} {s0 s1 : Shared} {G : Heap} {a C : Addr} {dx : Option Addr} {o : Obj} {vs : Array Value} (J : Inv X pl σ H s0)
    (toG : ∀ c u, s0.heap.get? c = some u → c ∉ frs X.stack → G.get? c = some u) (stay : G.StaysIn s1.heap) (slots : s0.heap.UpToSlots s1.heap) (hos : s1.os = s0.os) (hag : AllBare s1.gens)
    (gone : G.get? a = none) (off : a ∉ frs X.stack) (free : H a = none) (here : s1.heap.get? a = some o) (z : Zc (.ref C) dx o) (hd : o.data = .fields vs) : Inv X pl σ (upd H a (exg a C dx)) s1 := by
  have fresh : s0.heap.get? a = none := by
    cases q : s0.heap.get? a with
    | none => rfl
    | some u => rw [toG a u q off] at gone; cases gone
  have J1 : Inv X pl σ H s1 := J.landed toG stay slots hos hag
  have apart : ∀ {c : Addr} {u : Obj}, s0.heap.get? c = some u → c ≠ a := fun {c u} q e => by rw [e, fresh] at q; cases q
  have tr : ∀ {c : Addr} {u : HO}, H c = some u → upd H a (exg a C dx) c = some u := fun {c u} q => by rw [upd_ne (ne_of_none q free)]; exact q
  have sl : ∀ {c : Addr} {u : Obj}, s0.heap.get? c = some u → c ∈ frs X.stack → ∃ l, s1.heap.get? c = some { u with slots := l } := fun {c u} q hc => by
    obtain ⟨_, u', q', hn⟩ := J.stack.mem hc
    rw [q] at q'
    cases q'
    exact slots c u q hn
  refine J.call' (ch := []) hos ⟨fun c u q _ hc _ => stay c u (toG c u q hc), fun c u q _ hc _ => sl q hc, fun c u q n _ => by rw [upd_ne (apart q)]; exact n, fun c u q _ => ?_, fun c xs q => tr q, fun c u' x q => tr q, fun c ps q => ⟨#[], by rw [tr q]; simp⟩⟩ (J1.hok.laidN (fun _ _ q => q) free (exg_ok here z hd)) hag (fun c z => absurd z (by simp))
  by_cases hc : c ∈ frs X.stack
  · obtain ⟨l, q'⟩ := sl q hc
    exact ⟨_, q'⟩
  · exact ⟨u, stay c u (toG c u q hc)⟩
def wKeep (K : PySem.W.Frag) (c : Value) (i : Nat) (ts : TS) (W0 : WX) (D : Ends) : WX := fun cls d σ H =>
  ∃ b, PySem.W.exmOne K cls c = some b ∧ (b = true → ∃ C, cls = .ref C ∧ ∀ a, H a = none →
      ts { nx := fun σ' H' => D.nx (σ'.set i none) H', rt := D.rt, bk := fun σ' H' => D.bk (σ'.set i none) H', ct := fun σ' H' => D.ct (σ'.set i none) H' } (σ.set i (some (.ref a))) (upd H a (exg a C d))) ∧
    (b = false → W0 cls d σ H)
theorem suite_inv {pl : List (Addr × Obj)} {σ : L2.St} {H : Hp} {s : Shared} {a : Addr} (J : Inv X pl σ H s) : Inv (X.suite a (X.pn ++ pl)) [] σ H s :=
  ⟨J.ok.suite a _, J.os, J.bare, J.base, J.loc, J.cell, J.free, J.freeC, fun p hp => J.pin p (by simpa using hp), J.hok, J.len⟩
theorem unsuite_inv {pl q : List (Addr × Obj)} {σ : L2.St} {H : Hp} {s : Shared} {a : Addr} (J : Inv (X.suite a (X.pn ++ pl)) q σ H s) (ok : X.Ok) : Inv X pl σ H s :=
  ⟨ok, J.os, J.bare, J.base, J.loc, J.cell, J.free, J.freeC, fun p hp => J.pin p (List.mem_append_left _ hp), J.hok, J.len⟩
theorem ps_try_keep {x n : Str} {c : Value} {i : Nat} {body suite : List Stmt} {b₀ : Stmt} {np pos pos' : Pos} {tb : WX → TS} {ts : TS} {W0 : WX} (hs : X.stack = X.env :: X.outer) (hf : X.env.frame = some X.env.locals) (hN : X.N.Nodup) (hi : X.N[i]? = some n) (hln : X.env.kindOf n = some .local)
    (hc : Names X x c) (tk : Takes X W0)
    (hb : ∀ (W : WX) (pn : List (Addr × Obj)) (xe : Value → Shared → Prop), Takes (X.tr pn xe) W → PassesOwn (model X.prog X.w) X.A X.env xe → PSs (X.tr pn xe) body (tb W))
    (hsu : ∀ (a : Addr) (pn : List (Addr × Obj)), PSs (X.suite a pn) (b₀ :: suite) ts) :
    PS X (.Try body [.ExceptHandler (some (.Name x np)) (some n) (b₀ :: suite) pos'] [] [] pos) (fun D σ H => tb (wKeep X.K c i ts W0 D) D σ H) := by
  refine ⟨fun pl s σ H D I h => wpAny_Try_except ?_⟩
  have ok := I.ok
  have fr2 : X.A.frames = some (X.env :: X.outer) := I.ok.frames.trans (congrArg some hs)
  have tk2 : Takes (X.tr (X.pn ++ pl) fun e s₁ => wpAny (model X.prog X.w) X.A (noteFrame e X.env) (fun _ s₂ => wpAny (model X.prog X.w) X.A (setFlight e none) (fun _ s₃ =>
      wpAny (model X.prog X.w) X.A (handleBy e X.env [.ExceptHandler (some (.Name x np)) (some n) (b₀ :: suite) pos']) (SP X pl D) X.xe s₃) X.xe s₂) X.xe s₁) (wKeep X.K c i ts W0 D) := by
    rintro u s' ⟨a, G, s0, pl', σ1, H1, cls, d, rfl, I1, toG, slots, sky, free, hos, hag, b, hb1, yes, no⟩
    have J : Inv X pl σ1 H1 s0 := I1.ofTry ok
    have sky' : Sky G (X.env :: X.outer) a (Zc cls d) X.env.locals s'.heap := hs ▸ sky
    refine Sky.land Zc.steady fr2 hf sky' fun g3 fly3 up3 => ?_
    have J3 : Inv X pl σ1 H1 { s' with heap := g3 } := J.landed toG fly3.1 (slots.trans up3) hos hag
    obtain ⟨o3, v3, at3, z3, dat3⟩ := fly3.there
    have off : a ∉ frs X.stack := fun hm => by
      obtain ⟨_, o', q', hn⟩ := fly3.2.2.1.mem (hs ▸ hm)
      rw [at3] at q'
      cases q'
      exact hn _ dat3
    have S3 := suite_inv (a := a) J3
    refine wpAny_handleBy_cons (codeAny_handlers_test ?_) fun q => nomatch q
    have ty : PySem.W.Looks (model X.prog X.w) g3 (typeOf (.ref a)) cls := fun _ _ _ _ kp q => wpAny_typeOf_ref (kp _ _ at3) (z3.1.symm ▸ q)
    have found : ∀ {Q : Value → Shared → Prop} {E : Value → Shared → Prop}, Q c { s' with heap := g3 } → wpAny (model X.prog X.w) (X.A.mark (some (.ref a))) (eval (.Name x np) X.env) Q E { s' with heap := g3 } := fun {Q E} q => by
      obtain ⟨hg, hdbg, hm | ⟨hm, hv, hnn⟩⟩ := hc
      · exact ld_glob S3 hg hm q hdbg
      · exact ld_blt S3 hg hm hv q hnn hdbg
    refine found ((PySem.W.exm_one (M := model X.prog X.w) J3.kIn ty hb1).here ?_)
    cases b with
    | false =>
      refine wpAny_handleBy_nil ?_
      obtain ⟨_, _, _, o, vs, T, oT, ts', at1, _, dat1, one, _⟩ := id fly3
      unfold PySem.passOn
      refine wpAny_bind (wpAny_field at1 dat1 one ?_)
      rw [if_neg (by simp)]
      have out : wpAny (model X.prog X.w) X.A (setFlight (.ref a) X.env.frame) (fun _ s4 => wpAny (model X.prog X.w) X.A (throw (.ref a) : Sem Flow) (SP X pl D) X.xe s4) X.xe { s' with heap := g3 } := by
        rw [hf]
        exact HandSPX.setFlight_upZ fly3 fun g4 held4 up4 => wpAny_throw (tk _ _ ⟨a, G, s0, pl, σ1, H1, cls, d, rfl, J, toG, (slots.trans up3).trans up4, .inr (.inr (hs.symm ▸ held4)), free, hos, hag, no rfl⟩)
      first
        | exact wpAny_bind (wpAny_pure (wpAny_bind out))
        | exact wpAny_bind out
    | true =>
      obtain ⟨C, rfl, go⟩ := yes rfl
      refine codeAny_handlers_suite_as (HandSPX.lands_againZ fly3 fun g4 fly4 up4 => ?_)
      obtain ⟨o4, v4, at4, z4, dat4⟩ := fly4.there
      have J4 : Inv X pl σ1 (upd H1 a (exg a C d)) { s' with heap := g4 } := caught_inv J toG fly4.1 ((slots.trans up3).trans up4) hos hag fly4.2.1 off free at4 z4 dat4
      refine store_ok (X := X.suite a (X.pn ++ pl)) (v := .ref a) (suite_inv (a := a) J4) hN hi (.inl hln) rfl (fun s5 S5 => ?_) (.inr hln)
      refine wpAny_mono ((hsu a (X.pn ++ pl)).run [] s5 _ _ _ S5 (go a free)) (fun f s6 hsp => ?_) fun _ _ z => z.elim
      have bye : ∀ {σ6 : L2.St} {H6 : Hp} {Q : Shared → Prop}, Inv (X.suite a (X.pn ++ pl)) [] σ6 H6 s6 → (∀ s7, Inv X pl (σ6.set i none) H6 s7 → Q s7) →
          wpAny (model X.prog X.w) X.A (do bindName X.env n .none; unbindBehindTheSuite X.env n pos') (fun _ s7 => Q s7) X.xe s6 := fun {σ6 H6 Q} S6 kk => gone_ok (unsuite_inv S6 ok) hN hi hln kk
      cases f with
      | next =>
        obtain ⟨σ6, H6, S6, q⟩ := hsp
        exact bye S6 fun s7 J7 => ⟨_, _, J7, q⟩
      | brk =>
        obtain ⟨σ6, H6, S6, q⟩ := hsp
        exact bye S6 fun s7 J7 => ⟨_, _, J7, q⟩
      | cont =>
        obtain ⟨σ6, H6, S6, q⟩ := hsp
        exact bye S6 fun s7 J7 => ⟨_, _, J7, q⟩
      | ret u =>
        obtain ⟨v6, σ6, H6, S6, r6, q⟩ := hsp
        exact bye S6 fun s7 J7 => ⟨_, _, _, J7, r6, q⟩
  refine wpAny_mono ((hb _ (X.pn ++ pl) _ tk2 PassesOwn.looking).run [] s σ H D (I.toTry _) h) (fun f s1 hsp => ?_) fun e s1 he => he
  cases f with
  | next =>
    obtain ⟨σ', H', J', q⟩ := hsp
    exact wpAny_execs_nil ⟨σ', H', J'.ofTry ok, q⟩
  | brk =>
    obtain ⟨σ', H', J', q⟩ := hsp
    exact ⟨σ', H', J'.ofTry ok, q⟩
  | cont =>
    obtain ⟨σ', H', J', q⟩ := hsp
    exact ⟨σ', H', J'.ofTry ok, q⟩
  | ret u =>
    obtain ⟨v, σ', H', J', r, q⟩ := hsp
    exact ⟨v, σ', H', J'.ofTry ok, r, q⟩
end
end Pd
set_option Elab.async false
set_option linter.all false
set_option maxRecDepth 100000
set_option maxHeartbeats 4000000
namespace Pd
open PySem PySem.Spec PyProof.Rows L2
variable {K : PySem.W.Frag} [HasW K] {B : Bs} {X : Cx}
structure GKX (P : Program) (w : World) (K : PySem.W.Frag) (mg : Str → Option Value) (base : Heap) (k : Nat) (x : Str) (ps : List Str) (sp : Sp) : Prop where
  ex : ∃ f fd, FnG P w K mg base (L2.CX P w) k f fd ps sp ∧ mg x = some (.ref f) ∧ PySem.W.keepIn K (.ref f) = true ∧ Binds K fd ps []
structure GMX (P : Program) (w : World) (K : PySem.W.Frag) (mg : Str → Option Value) (base : Heap) (k : Nat) (n m : Str) (ps : List Str) (sp : Sp) : Prop where
  ex : ∃ fd, FnG P w K mg base (L2.CX P w) k (He.ma K (He.ga K n) m) fd ps sp ∧ Binds K fd ps []
  c : Cls K (He.ga K n)
  nm : NmAt K n (He.ga K n)
  me : Meth K (He.ga K n) m (He.ma K (He.ga K n) m)
structure GNX (P : Program) (w : World) (K : PySem.W.Frag) (mg : Str → Option Value) (base : Heap) (k : Nat) (n : Str) (ps : List Str) (sp : Sp) : Prop where
  ex : ∃ j fd, j + 1 ≤ k ∧ FnG P w K mg base (L2.CX P w) j (He.ma K (He.ga K n) "__init__") fd ps sp ∧ Binds K fd ps []
  mak : Mk K (He.ga K n) (He.ma K (He.ga K n) "__init__")
  nm : NmAt K n (He.ga K n)
  m : mg n = some (.ref (He.ga K n))
section
variable {P : Program} {w : World} {mg : Str → Option Value} {base : Heap} {j k : Nat} {n m x : Str} {ps : List Str} {sp : Sp}
theorem GKX.mono (G : GKX P w K mg base j x ps sp) (h : j ≤ k) : GKX P w K mg base k x ps sp := by
  obtain ⟨f, fd, a, b, c, d⟩ := G.ex
  exact ⟨f, fd, a.mono h, b, c, d⟩
theorem GMX.mono (G : GMX P w K mg base j n m ps sp) (h : j ≤ k) : GMX P w K mg base k n m ps sp := by
  obtain ⟨⟨fd, a, b⟩, c, d, e⟩ := G
  exact ⟨⟨fd, a.mono h, b⟩, c, d, e⟩
theorem GNX.mono (G : GNX P w K mg base j n ps sp) (h : j ≤ k) : GNX P w K mg base k n ps sp := by
  obtain ⟨⟨i, fd, q, a, b⟩, c, d, e⟩ := G
  exact ⟨⟨i, fd, Nat.le_trans q h, a, b⟩, c, d, e⟩
end
section
variable {k : Nat} {x n m : Str} {ps fs : List Str} {sp : Sp} {o e : Expr} {es : List Expr} {p apos pos : Pos} {ta : TE} {t : TA} {W : WX}
theorem pe_callX (G : GKX X.prog X.w X.K X.mg X.base k x ps sp) (tk : Takes X W) (hgd : X.A.guards = some []) (hr : Room k X.A) (hg : Gl X x) (ha : PA X (e :: es) t)
    (hdb : (x == ("__debug__" : Str)) = false := by decide) (he : starEach (e :: es) X.env = (false, eval e X.env) :: starEach es X.env := by rfl) (hpl : (backTo pos (starEach es X.env)).any (·.1) = false := by rfl) :
    PE X (.Call (.Name x p) (e :: es) [] pos) (tCallS sp (WE W) t) := by
  obtain ⟨f, fd, a, b, c, d⟩ := G.ex
  exact pe_callSG a hgd hr hg b c d (fun σ => passAt tk σ) ha hdb he hpl
theorem pmk_X (G : GI X.prog X.w X.K X.mg X.base k x fs) (hgd : X.A.guards = some []) (hr : Room k X.A) (hg : Gl X x) (ha : PA X (e :: es) t)
    (hdb : (x == ("__debug__" : Str)) = false := by decide) (he : starEach (e :: es) X.env = (false, eval e X.env) :: starEach es X.env := by rfl) (hpl : (backTo pos (starEach es X.env)).any (·.1) = false := by rfl) :
    PMk X (.Call (.Name x p) (e :: es) [] pos) (tMkO (He.ga X.K x) (spI (He.ga X.K x) fs) [] t) := by
  obtain ⟨⟨j, fd, hj, F1, hb⟩, OX, OI, hm⟩ := G
  have T := OX.oex
  obtain ⟨nm, qn, N, bs, bm, sn, sub, ab, col, dd, k0, k1, k2, k3, k5, hC, hbm⟩ := T.cls
  intro pins s σ H Q I h
  refine wpAny_Call_Name_kw (ld_glob I hg hm ?_ hdb)
  refine PySem.W.callWith_K (h₀ := X.base) I.ok.mod.kin T.kC (thn (ha.run pos pins s σ H _ I h) fun us s1 ⟨vs, H1, I1, r1, few, q1⟩ => ⟨I1.kIn, ?_⟩) he hpl
  obtain ⟨hp, g, dr, tok, os⟩ := s1
  have above : hp.objs.size ≤ hp.objs.size + 1 := Nat.le_succ _
  have none1 : H1 (hp.objs.size + 1) = none := I1.hok.fresh above
  have q := q1 _ none1
  rw [List.append_nil] at q
  have kept : ∀ b o, hp.get? b = some o → ((hp.push (PySem.W.kdv_tup us)).push (PySem.HandSPX.excO (He.ga X.K x) hp.objs.size)).get? b = some o := fun b o eo => Heap.get?_push_of_some _ (Heap.get?_push_of_some _ eo)
  have here : ((hp.push (PySem.W.kdv_tup us)).push (PySem.HandSPX.excO (He.ga X.K x) hp.objs.size)).get? (hp.objs.size + 1) = some (PySem.HandSPX.excO (He.ga X.K x) hp.objs.size) := by heap_get
  have I2 := I1.laid (t' := tok) (a := hp.objs.size + 1) (o := exo (hp.objs.size + 1) (He.ga X.K x) none) kept above (exo_ok here)
  have vals : Vals (V.ref (hp.objs.size + 1) :: vs) (Value.ref (hp.objs.size + 1) :: us) := .cons rfl r1
  have len := vals.length.symm.trans (F1.len _ _ _ _ q)
  have small : us.length ≤ sizeLine := by
    rw [← r1.length, sizeLine_eq]
    omega
  have b := hb _ _ I2.kIn (show (Value.ref (hp.objs.size + 1) :: us ++ []).length = _ by rw [List.append_nil]; exact len)
  rw [List.append_nil] at b
  have hr1 : Room (j + 1) X.A := hr.mono hj
  show wpAny _ _ (call (.ref (He.ga X.K x)) us) _ _ _
  refine wpAny_call (PySem.HandSPX.call_own F.excBase_ValueError (fun Y => PySem.HandSPX.refsVE_contains Y bm hbm) (I1.kIn _ _ hC) (PySem.W.looks_findIn I1.kIn OI.i) (fun self => PySem.W.bind_fn I1.kIn self OI.t) small
    (codeAny_mono (F1.run _ X.stack _ _ ⟨_, []⟩ _ _ _ (fun _ _ _ => False) hgd (hr1.make (He.ga X.K x) us []) (I2.env0.make (He.ga X.K x) us []) b vals q) fun rr s' hq' => ?_))
  match rr, hq' with
  | .error er, hq' => exact pass0 pins σ _ _ er s' I2 hq'
  | .ok (.ret u), ⟨v, H2, os2, bare2, un2, hok2, rv, ev, d, fl, ea, ed, hd1, q2⟩ =>
    subst ev
    obtain ⟨h2, g2, d2, t2, os'⟩ := s'
    exact ⟨rv, mk_end (raises_own T.exC T.tyC) I1 above kept un2 hok2 os2 bare2 ea ed hd1 q2⟩
  | .ok .next, hq' => exact hq'.elim
  | .ok .brk, hq' => exact hq'.elim
  | .ok .cont, hq' => exact hq'.elim
theorem pmk_X1 {m : Str} {i : Nat} {p2 : Pos} (G : G1 X.K X.mg x) (hg : Gl X x) (hdb : (x == ("__debug__" : Str)) = false := by decide) :
    PMk X (.Call (.Name x p) [.Constant (.str m) i p2] [] pos) (fun _ H Q => Q (.ref (He.ga X.K x)) none H) :=
  pmk_own PySem.F.excBase_ValueError G.q G.m G.o.kp (raises_own G.o.oex.exC G.o.oex.tyC) hg hdb
end
end Pd
set_option Elab.async false
set_option linter.all false
set_option maxRecDepth 100000
set_option maxHeartbeats 4000000
namespace Pd
open PySem PySem.Spec PyProof.Rows L2
variable {K : PySem.W.Frag} [HasW K] {B : Bs} {X : Cx}
abbrev EX := Str → List (Str × D) → En → Prop
def XOkW (B : Bs) (K : PySem.W.Frag) [HasW K] (W : WX) (E : EX) : Prop := ∀ Hf H σ δ n C xs dx, σ.length = B.n → δ.length = B.n → Sta B K Hf H σ δ → NmAt K n C → XR K Hf H xs dx → E n xs δ → W (.ref C) dx σ H
theorem xokw_no {W : WX} : XOkW B K W NoX := fun _ _ _ _ _ _ _ _ _ _ _ _ _ h => h.elim
theorem de_callX {fs : FS} {ms : List Bool} {E : EX} {W : WX} {ta : TA} {da : DA} (hx : XOkW B K W E) (ha : DAok B K ta da) : DEok B K (tCallS (spD K fs) (WE W) ta) (dCall fs ms da E) :=
  de_callS (E := WE W) hx ha
def fldsX : List Str → List D → List (Str × D) → List (Str × D)
  | f :: fs, d :: ds, acc => fldsX fs ds ((f, d) :: acc)
  | _, _, acc => acc
theorem fldsX_ok {H : Hp} : ∀ {fs : List Str} {vs : List V} {ds : List D} {a : List (Str × V)} {c : List (Str × D)}, DrA K H vs ds → Paired (fun (p : Str × V) (q : Str × D) => p.1 = q.1 ∧ Dr K H p.2 q.2) a c → Paired (fun (p : Str × V) (q : Str × D) => p.1 = q.1 ∧ Dr K H p.2 q.2) (fldsV fs vs a) (fldsX fs ds c)
  | [], _, _, _, _, _, h => by simpa [fldsV, fldsX] using h
  | f :: fs, _, _, _, _, .nil, h => h
  | f :: fs, _, _, _, _, .cons h1 h2, h => fldsX_ok (fs := fs) h2 (.cons ⟨rfl, h1⟩ h)
theorem prd_mono {H H' : Hp} (e : Same H H') {a : List (Str × V)} {c : List (Str × D)} (h : Paired (fun (p : Str × V) (q : Str × D) => p.1 = q.1 ∧ Dr K H p.2 q.2) a c) : Paired (fun (p : Str × V) (q : Str × D) => p.1 = q.1 ∧ Dr K H' p.2 q.2) a c := by
  induction h with
  | nil => exact .nil
  | cons h1 _ ih => exact .cons ⟨h1.1, Same.dp e h1.2⟩ ih
def dRaise (n : Str) (fs : List Str) (a : DA) (X : EX) : DT := fun _ δ => a δ fun rs δ1 => datRs rs δ1 fun ds δ2 => ds.length = fs.length ∧ X n (fldsX fs ds []) δ2
theorem ds_raise {C : Addr} {n : Str} {fs : List Str} {ta : TA} {a : DA} {W : WX} {E : EX} (nm : NmAt K n C) (hl : fs.length ≤ 1000) (hx : XOkW B K W E) (ha : DAok B K ta a) : DSok B K (fun _ σ H => tMkO C (spI C fs) [] ta σ H fun cls d H' => W cls d σ H') (dRaise n fs a E) := by
  intro Hf H σ δ D E' hs hd S M h
  refine ha.use hs hd S h fun rs δ1 vs Hf1 H1 h1 hd1 hlv e1 S1 => ?_
  obtain ⟨ds, δ2, Hf2, ⟨k1, k2⟩, hd2, e2, q2, S2⟩ := datRs_ok hs hd1 hlv S1 h1
  have S2 : Sta B K Hf2 H1 σ δ2 := by simpa using S2
  have lv : vs.length = fs.length := (dpa_len q2).trans k1
  refine ⟨by omega, fun x hx1 => ?_⟩
  rw [List.append_nil]
  refine ⟨x, vs, rfl, lv, upd_same, fun d hdn => ⟨rfl, d, fldsV fs vs [], upd_same, ?_, ?_, ?_⟩⟩
  · have ne : d ≠ x := fun z => by
      rw [z, upd_same] at hdn
      cases hdn
    rw [upd_ne ne]
    exact upd_same
  · have ne : d ≠ x := fun z => by
      rw [z, upd_same] at hdn
      cases hdn
    rwa [upd_ne ne] at hdn
  · have ne : d ≠ x := fun z => by
      rw [z, upd_same] at hdn
      cases hdn
    have hdn' : H1 d = none := by rwa [upd_ne ne] at hdn
    have eu : upd (del (upd (upd (upd H1 x (exo x C none)) d (exd d (fldsV fs vs []))) x (exo x C (some d))) x) d (.xd (fldsV fs vs [])) = upd H1 d (.xd (fldsV fs vs [])) := by
      funext b
      by_cases hb : b = d
      · subst hb
        rw [upd_same, upd_same]
      · rw [upd_ne hb, upd_ne hb]
        by_cases hb2 : b = x
        · subst hb2
          rw [del_same, hx1]
        · rw [del_ne hb2, upd_ne hb2, upd_ne hb, upd_ne hb2]
    rw [eu]
    have g := Gw.fresh S2.fh (o := .xd (fldsV fs vs [])) hdn'
    exact hx _ _ σ δ2 n C _ _ hs hd2 (S2.grow g) nm (.inr ⟨d, _, rfl, upd_same, fldsX_ok (dpa_mono g.ff ds vs q2) .nil⟩) k2
def dRaise1 (n : Str) (X : EX) : DT := fun _ δ => X n [] δ
theorem ds_raise1 {C : Addr} {n : Str} {W : WX} {E : EX} (nm : NmAt K n C) (hx : XOkW B K W E) : DSok B K (fun _ σ H => W (.ref C) none σ H) (dRaise1 n E) := fun Hf H σ δ _ _ hs hd S _ h =>
  hx Hf H σ δ n C [] none hs hd S nm (.inl ⟨rfl, rfl⟩) h
def excX (n : Str) (xs : List (Str × D)) : D := excD n (xs.map fun p => (.str p.1, p.2))
theorem drx_of {H : Hp} : ∀ {a : List (Str × V)} {c : List (Str × D)}, Paired (fun (p : Str × V) (q : Str × D) => p.1 = q.1 ∧ Dr K H p.2 q.2) a c → DrX K H a (c.map fun p => (.str p.1, p.2))
  | _, _, .nil => .nil
  | (f, v) :: a, (g, d) :: c, .cons ⟨h1, h2⟩ h => by
    have h1 : f = g := h1
    subst h1
    exact .cons h2 (drx_of h)
def ExmT (K : PySem.W.Frag) (T : Value) (tb : List (Str × Bool)) : Prop := ∀ n b, tb.lookup n = some b → ∀ C, NmAt K n C → PySem.W.exmOne K (.ref C) T = some b
def exmB (T : PySem.W.Frag → Value) (tb : List (Str × Bool)) (K : PySem.W.Frag) : Bool := tb.all fun p => nmB K p.1 (He.ga K p.1) && decide (PySem.W.exmOne K (.ref (He.ga K p.1)) (T K) = some p.2)
theorem exmB_ok {T : PySem.W.Frag → Value} {tb : List (Str × Bool)} (h : exmB T tb K = true) : ExmT K (T K) tb := fun n b e C hC => by
  have := List.all_eq_true.mp h _ (lookup_mem e)
  obtain ⟨h1, h2⟩ := Bool.and_eq_true_iff.mp this
  obtain rfl := hC.one (nmB_ok h1)
  exact of_decide_eq_true h2
theorem sta_base {Hf H : Hp} {L : L2.St} {M : En} (S : Sta B K Hf H L M) : Sta ⟨Hf, B.H, B.io, B.n, B.tb⟩ K Hf H L M :=
  ⟨S.len, S.nl, S.cell, S.dj, Same.refl _, S.fh, fun a o h => .inl h, S.bk, S.ow, S.iw, S.ip, S.bo, S.tb⟩
theorem sta_unbase {Hf0 H0 Hf H : Hp} {L0 L : L2.St} {M0 M : En} (S0 : Sta B K Hf0 H0 L0 M0) (S : Sta ⟨Hf0, B.H, B.io, B.n, B.tb⟩ K Hf H L M) : Sta B K Hf H L M :=
  ⟨S.len, S.nl, S.cell, S.dj, S0.ff.trans S.ff, S.fh, fun a o h => (S.fn a o h).elim (S0.fn a o) .inr, S.bk, S.ow, S.iw, S.ip, S.bo, S.tb⟩
theorem sim_base {Hf0 H0 : Hp} {L0 : L2.St} {M0 : En} {D : Ends} {E : DEnds} (S0 : Sta B K Hf0 H0 L0 M0) (M : Sim B K Hf0 D E) : Sim ⟨Hf0, B.H, B.io, B.n, B.tb⟩ K Hf0 D E :=
  ⟨fun Hf H σ δ e hs hd S q => M.nx Hf H σ δ e hs hd (sta_unbase S0 S) q, fun Hf H σ δ v r e hs hd S q => M.rt Hf H σ δ v r e hs hd (sta_unbase S0 S) q,
   fun Hf H σ δ e hs hd S q => M.bk Hf H σ δ e hs hd (sta_unbase S0 S) q, fun Hf H σ δ e hs hd S q => M.ct Hf H σ δ e hs hd (sta_unbase S0 S) q⟩
def dTryK (i : Nat) (tb : List (Str × Bool)) (db : EX → DT) (ds : DT) (X : EX) : DT := fun E δ => db (fun n xs δ1 => ∃ b, tb.lookup n = some b ∧
  (b = true → ds { nx := fun δ' => E.nx (unS δ' [i]), rt := E.rt, bk := fun δ' => E.bk (unS δ' [i]), ct := fun δ' => E.ct (unS δ' [i]) } (δ1.set i (.dat (excX n xs)))) ∧ (b = false → X n xs δ1)) E δ
theorem unset_ok {Hf H : Hp} {σ : L2.St} {δ : En} {i : Nat} (S : Sta B K Hf H σ δ) (hs : σ.length = B.n) (hd : δ.length = B.n) : Sta B K Hf H (σ.set i none) (unS δ [i]) := by
  have := Sta.wiped (τ := []) (θ := []) (σ' := σ.set i none) (vs := [i]) (by simpa using S) hs hd (by simp) nob_nil fun j hj => List.getElem?_set_ne (by simpa using Ne.symm (by simpa using hj))
  simpa using this
abbrev finX (as : List Ag) (X : XW) : EX := fun n xs δ => iosR as δ fun os => X n xs os
section
variable {P : Program} {w : World} {mg : Str → Option Value} {base : Heap} {k : Nat} {x m q n : Str} {ps N : List Str} {st : Stmt} {f : Addr} {fd : FuncData} {fs : FS} {dt : EX → DT}
abbrev WalkX (P : Program) (w : World) (K : PySem.W.Frag) [HasW K] (mg : Str → Option Value) (base : Heap) (k : Nat) (q : Str) (N : List Str) (st : Stmt) (f : Addr) (dt : EX → DT) : Prop :=
  ∀ (cdv : Value) (A : Around) (outer : List Env) (s : Shared) (H : Hp) (E : XK), A.guards = some [] → Room k (A.deeper (envOfC q (defScope st) s.heap.objs.size f cdv)) →
      ∃ ts, PSs (cxOf (L2.CX P w) P w K mg base N q (defScope st) f cdv A outer s H E) (defBody st) ts ∧ ∀ (Bx : Bs) (Y : EX), Bx.n = N.length → XOkW Bx K (fun cls d _ H => E cls d H) Y → DSok Bx K ts (dt Y)
theorem fngX_of (F : Fun K x q st f fd) (S : FnScope N ps (defScope st)) (hn : ps.length ≤ N.length) (walk : WalkX P w K mg base k q N st f dt)
    (law : ∀ as P X, fs as P X → as.length = ps.length ∧ dt (finX as X) (fin as P) (begin_ as N.length)) : FnG P w K mg base (L2.CX P w) (k + 1) f fd ps (spD K fs) := by
  refine fun_okG F S (spD_len fun as P X h => (law as P X h).1) fun cdv A outer s H vs Q E hg hr h => ?_
  obtain ⟨ts, w1, w2⟩ := walk cdv A outer s H E hg hr
  exact ⟨ts, w1, body_ok (n := ps.length) (dt := dt NoX) (fun as P X h => (law as P X h).1) hn h fun Bx Y hB hE => ⟨dt Y, w2 Bx Y hB hE, fun as P X q e => by rw [e]; exact (law as P X q).2⟩⟩
theorem gkX_of (F : FnP K x st f fd) (hm : mg x = some (.ref f)) (S : FnScope N ps (defScope st)) (hn : ps.length ≤ N.length)
    (hb : ∀ (kV doc pm : Value) (an : Option Addr) (cdv ct : Value) (us : List Value), us.length = ps.length → bindArgs (PySem.W.fnOf x x (defArgs st) (defBody st) (defScope st) .none kV doc pm an cdv ct) ⟨us, []⟩ = pure (ps.zip us))
    (walk : WalkX P w K mg base k x N st f dt) (law : ∀ as P X, fs as P X → as.length = ps.length ∧ dt (finX as X) (fin as P) (begin_ as N.length)) : GKX P w K mg base (k + 1) x ps (spD K fs) :=
  ⟨f, fd, fngX_of (fun_of F) S hn walk law, hm, F.kp, F.bindsN hb⟩
end
end Pd
set_option Elab.async false
set_option linter.all false
set_option maxRecDepth 100000
set_option maxHeartbeats 2000000
namespace Pd
open PySem PySem.Spec PyProof.Rows L2
theorem tkN {X : Cx} : Takes X (fun _ _ _ _ => False) := fun _ _ ⟨_, _, _, _, _, _, _, _, _, _, _, _, _, _, _, _, w⟩ => w.elim
inductive Rz (α β : Type) where
  | ok (a : α)
  | er (n : Str) (xs : List (Str × D)) (b : β)
section
variable {α β γ : Type}
def Rz.go (r : Rz α β) (k : α → Option γ) (e : Str → List (Str × D) → β → Option γ) : Option γ := match r with
  | .ok a => k a
  | .er n xs b => e n xs b
def Rz.on (r : Rz α β) (P : α → Prop) (X : Str → List (Str × D) → β → Prop) : Prop := match r with
  | .ok a => P a
  | .er n xs b => X n xs b
theorem rz_go {v : Rz α β} {k : α → Option γ} {e : Str → List (Str × D) → β → Option γ} {r : γ} {P : α → Prop} {X : Str → List (Str × D) → β → Prop} (h : v.go k e = some r) (A : ∀ a, k a = some r → P a) (B : ∀ n xs b, e n xs b = some r → X n xs b) : v.on P X := by
  cases v with
  | ok a => exact A a h
  | er n xs b => exact B n xs b h
def oCatch (tb : List (Str × Bool)) (n : Str) : Option Bool := tb.lookup n
theorem catch_h {tb : List (Str × Bool)} {n : Str} {A B : Option γ} {r : γ} {p q : Prop} (h : ((oCatch tb n).bind fun c => if c = true then A else B) = some r) (hA : A = some r → p) (hB : B = some r → q) : ∃ b, tb.lookup n = some b ∧ (b = true → p) ∧ (b = false → q) := by
  unfold oCatch at h
  cases e : tb.lookup n with
  | none => rw [e] at h; cases h
  | some c =>
    rw [e] at h
    cases c with
    | true => exact ⟨true, rfl, fun _ => hA h, fun z => nomatch z⟩
    | false => exact ⟨false, rfl, (fun z => nomatch z), fun _ => hB h⟩
end
section
variable {δ : En} {E : DEnds} {i : Nat}
theorem s_raise {n : Str} {fs : List Str} {a : DA} {X : EX} (h : a δ fun rs δ1 => datRs rs δ1 fun ds δ2 => ds.length = fs.length ∧ X n (fldsX fs ds []) δ2) : dRaise n fs a X E δ := h
theorem s_raise1 {n : Str} {X : EX} (h : X n [] δ) : dRaise1 n X E δ := h
theorem s_tryK {tb : List (Str × Bool)} {db : EX → DT} {ds : DT} {X : EX} (h : db (fun n xs δ1 => ∃ b, tb.lookup n = some b ∧
  (b = true → ds { nx := fun δ' => E.nx (unS δ' [i]), rt := E.rt, bk := fun δ' => E.bk (unS δ' [i]), ct := fun δ' => E.ct (unS δ' [i]) } (δ1.set i (.dat (excX n xs)))) ∧ (b = false → X n xs δ1)) E δ) : dTryK i tb db ds X E δ := h
theorem s_suite {ds : DT} {δ' : En} (e : δ = δ') (h : ds E δ') : ds E δ := by rw [e]; exact h
def oIsC (ns : List (Str × Bool)) : D → Option Bool
  | .dict ((.dict [], .str n) :: _) => ns.lookup n
  | _ => none
theorem c_isC {ns : List (Str × Bool)} {a : DE} {k : Re → En → Prop} (h : a δ fun r δ1 => vwR r δ1 fun d => gIsC ns d fun b => k (.dat (.bool b)) δ1) : dIsC ns a δ k := h
theorem l_isC {ns : List (Str × Bool)} {d : D} {b : Bool} {k : Bool → Prop} (e : oIsC ns d = some b) (h : k b) : gIsC ns d k := by
  unfold oIsC at e
  split at e
  · unfold gIsC
    simp only [e]
    exact h
  · cases e
def oXFld (f : Str) (ns : List Str) : D → Option D
  | .dict ((.dict [], .str n) :: kvs) => if n ∈ ns then fldD kvs f else none
  | _ => none
theorem c_xfld {f : Str} {ns : List Str} {a : DE} {k : Re → En → Prop} (h : a δ fun r δ1 => vwR r δ1 fun d => gXFld f ns d fun x => k (.dat x) δ1) : dXFld f ns a δ k := h
theorem l_xfld {f : Str} {ns : List Str} {d x : D} {k : D → Prop} (e : oXFld f ns d = some x) (h : k x) : gXFld f ns d k := by
  unfold oXFld at e
  split at e
  · split at e
    · rename_i m
      unfold gXFld
      refine ⟨m, ?_⟩
      simp only [e]
      exact h
    · cases e
  · cases e
end
end Pd
set_option Elab.async false
set_option linter.all false
set_option maxRecDepth 100000
set_option maxHeartbeats 2000000
namespace Pd
open PySem PySem.Spec PyProof.Rows L2
variable {K : PySem.W.Frag} [HasW K] {B : Bs} {X : Cx}
section
variable {k : Nat} {x1 x2 : Str} {ps1 ps2 : List Str} {sp1 sp2 : Sp} {ew e : Expr} {es : List Expr} {p1 p2 p3 p4 pos : Pos} {tw : TE} {t : TA} {W : WX}
end
end Pd
set_option Elab.async false
set_option linter.all false
set_option maxRecDepth 100000
set_option maxHeartbeats 2000000
namespace L2
open PySem PySem.Spec PyProof.Rows
def rCountD (K : PySem.W.Frag) : V → List V → Hp → VK → Prop := fun x xs H Q => ∃ (a : Addr) (y : V) (d : PyData) (ds : List PyData), x = V.ref a ∧ xs = [y] ∧ Dp K H (V.ref a) (.list ds) ∧ Dp K H y d ∧
  SeqAt.shaped (.list ds) = true ∧ SeqAt.shaped d = true ∧ Q (.int ((ds.countP fun z => PyData.eqv z d : Nat) : Int)) H
theorem mt_countD {X : Cx} (hu : X.A.units + 65 < cLine) : MtR X "list.count" (rCountD X.K) := by
  intro pl s σ H x xs v us Q I rx rxs ⟨a, y, d, ds, ex, exs, hl, hy, sl, sd, q⟩
  subst ex exs
  cases rx
  obtain ⟨uy, rfl, ry⟩ := rxs.one
  obtain ⟨bs, rd⟩ := Dp.reads I d y uy hy ry
  have lay : PyData.canLayAll0 ds = true := SeqAt.canLay_of_shaped sl
  have room : X.A.units + 1 + min (PyData.depthAll ds) d.depth < cLine := room_in_shaped sd hu
  cases hl with
  | lst hs ha =>
    obtain ⟨its, rv, ⟨⟨cls, dd, data, sls⟩, n, ho, hc, hdn, hdt⟩, _⟩ := I.list hs
    simp only at hc hdt
    subst hc hdt
    obtain ⟨as, rds⟩ := Dp.readsAll I ds _ its ha rv
    have same : its.map (SeqAt.readOf s.heap) = ds := SeqAt.readsAll_map ds its as lay rds
    have num : its.countP (fun u => PyData.eqv (SeqAt.readOf s.heap u) d) = ds.countP fun z => PyData.eqv z d := by
      rw [← same, List.countP_map]
      rfl
    refine call_meets PySem.F.slot_list_count ⟨_, ho, rfl⟩ PySem.F.entry_list_count (PySem.F.args_list_count_2 _ _) (SeqAt.list_countAt a its.toArray n dd sls uy fun u => PyData.eqv (SeqAt.readOf s.heap u) d)
      ⟨ho, SeqAt.items_eqAt (vs := its.toArray) (show ReadsAll s.heap its.toArray.toList ds as from rds) rd lay (SeqAt.canLay_of_shaped sd) room, ⟨.int ((ds.countP fun z => PyData.eqv z d : Nat) : Int), H, I.tok _, ⟨s.toks, ?_⟩, q⟩⟩
    show Value.int ((its.toArray.toList.countP fun u => PyData.eqv (SeqAt.readOf s.heap u) d : Nat) : Int) s.toks = Value.int ((ds.countP fun z => PyData.eqv z d : Nat) : Int) s.toks
    rw [show its.toArray.toList = its from rfl, num]
end L2
namespace Pd
open PySem PySem.Spec PyProof.Rows L2
variable {K : PySem.W.Frag} [HasW K] {B : Bs}
def LmD (K : PySem.W.Frag) [HasW K] (r : V → List V → Hp → VK → Prop) (g : List D → D → (Int → Prop) → Prop) : Prop :=
  ∀ (Hf H : Hp) (v w : V) (ds : List D) (y : D) (Kc : Int → Prop) (Q : VK), Same Hf H → Vw K Hf H v (.list ds) → Vw K Hf H w y → g ds y Kc → (∀ i, Kc i → Q (.int i) H) → r v [w] H Q
def dLm1 (g : List D → D → (Int → Prop) → Prop) (a b : DE) : DE := fun δ k => a δ fun r1 δ1 => vwR r1 δ1 fun x0 => lstK x0 fun _ => b δ1 fun r2 δ2 => vwR r1 δ2 fun x => vwR r2 δ2 fun y => lstK x fun ds => g ds y fun i => k (.dat (.int i)) δ2
theorem de_lm1 {r : V → List V → Hp → VK → Prop} {g : List D → D → (Int → Prop) → Prop} {ta tb : TE} {a b : DE} (hr : LmD K r g) (ha : DEok B K ta a) (hb : DEok B K tb b) : DEok B K (tBM K "list" r ta (tCons tb tNil)) (dLm1 g a b) := by
  intro Hf H σ τ δ θ Kc Q hs hd S h k
  refine ha Hf H σ τ δ θ _ _ hs hd S h fun r1 δ1 v1 Hf1 H1 h1 hd1 e1 S1 => ?_
  have hlt := S.lenT hs hd
  obtain ⟨x0, z1, z2⟩ := vwR_ok (v := v1) (i := B.n + τ.length) S1 hd1 (top_get (by omega)) (top_get (by omega)) h1
  cases x0 with
  | list ds0 =>
    obtain ⟨p, vs, rfl, rd, _⟩ := z1.list S1.fh
    refine ⟨.inl ⟨rfl, vs, .inl rd⟩, hb Hf1 H1 σ (τ ++ [some (.ref p)]) δ1 (θ ++ [r1.sl]) _ _ hs hd1 S1 z2 fun r2 δ2 v2 Hf2 H2 h2 hd2 e2 S2 => ?_⟩
    have S1' := S2.pop1 hs hd2
    obtain ⟨x, x1, x2⟩ := vwR_ok (v := .ref p) (i := B.n + τ.length) S1' hd2 (top_get (by omega)) (top_get (by omega)) h2
    obtain ⟨y, y1, y2⟩ := vwR_ok (v := v2) (i := B.n + (τ.length + 1)) S2 hd2 (top_get (by simp; omega)) (top_get (by simp; omega)) x2
    cases x with
    | list ds => exact hr Hf2 H2 (.ref p) v2 ds y _ _ S2.fh x1 y1 y2 fun i q => k (.dat (.int i)) δ2 _ Hf2 H2 q hd2 (e1.trans e2) ((S1'.pop1 hs hd2).res (r := .dat (.int i)) (Gw.refl S1'.fh) (.int _))
    | _ => exact y2.elim
  | _ => exact z2.elim
def gLidx (ds : List D) (d : D) (k : Int → Prop) : Prop := SeqAt.shaped (.list ds) = true ∧ SeqAt.shaped d = true ∧ ∃ (j : Nat) (z : D), ds[j]? = some z ∧ PyData.eqv z d = true ∧ (∀ (m : Nat) (z' : D), m < j → ds[m]? = some z' → PyData.eqv z' d = false) ∧ k j
theorem lm_idx : LmD K (rIndexD K) gLidx := fun Hf H v w ds y Kc Q e hv hw ⟨s1, s2, j, z, h1, h2, h3, h4⟩ q => by
  obtain ⟨p, vs, rfl, _, _⟩ := hv.list e
  exact ⟨p, w, y, ds, j, z, rfl, rfl, hv.dp e (SeqAt.canLay_of_shaped s1), hw.dp e (SeqAt.canLay_of_shaped s2), s1, s2, h1, h2, h3, q _ h4⟩
def gLcnt (ds : List D) (d : D) (k : Int → Prop) : Prop := SeqAt.shaped (.list ds) = true ∧ SeqAt.shaped d = true ∧ k ((ds.countP fun z => PyData.eqv z d : Nat) : Int)
theorem lm_cnt : LmD K (rCountD K) gLcnt := fun Hf H v w ds y Kc Q e hv hw ⟨s1, s2, h⟩ q => by
  obtain ⟨p, vs, rfl, _, _⟩ := hv.list e
  exact ⟨p, w, y, ds, rfl, rfl, hv.dp e (SeqAt.canLay_of_shaped s1), hw.dp e (SeqAt.canLay_of_shaped s2), s1, s2, q _ h⟩
section
variable {δ : En}
theorem c_lm1 {g : List D → D → (Int → Prop) → Prop} {a b : DE} {k : Re → En → Prop} (h : a δ fun r1 δ1 => vwR r1 δ1 fun x0 => lstK x0 fun _ => b δ1 fun r2 δ2 => vwR r1 δ2 fun x => vwR r2 δ2 fun y => lstK x fun ds => g ds y fun i => k (.dat (.int i)) δ2) : dLm1 g a b δ k := h
def oLidx (ds : List D) (d : D) : Option Int := gd (SeqAt.shaped (.list ds) && SeqAt.shaped d) () |>.bind fun _ => (ds.findIdx? fun z => PyData.eqv z d).map fun j => (j : Int)
def oLcnt (ds : List D) (d : D) : Option Int := gd (SeqAt.shaped (.list ds) && SeqAt.shaped d) ((ds.countP fun z => PyData.eqv z d : Nat) : Int)
theorem l_lcnt {ds : List D} {d : D} {i : Int} {k : Int → Prop} (e : oLcnt ds d = some i) (h : k i) : gLcnt ds d k := by
  obtain ⟨q, rfl⟩ := gd_some e
  rw [Bool.and_eq_true] at q
  exact ⟨q.1, q.2, h⟩
theorem l_lidx {ds : List D} {d : D} {i : Int} {k : Int → Prop} (e : oLidx ds d = some i) (h : k i) : gLidx ds d k := by
  unfold oLidx at e
  cases q : gd (SeqAt.shaped (.list ds) && SeqAt.shaped d) () with
  | none => rw [q] at e; cases e
  | some u =>
    rw [q] at e
    have c := (gd_some q).1
    rw [Bool.and_eq_true] at c
    cases f : ds.findIdx? (fun z => PyData.eqv z d) with
    | none => rw [f] at e; cases e
    | some j =>
      rw [f] at e
      cases e
      obtain ⟨h1, h2, h3⟩ := List.findIdx?_eq_some_iff_getElem.mp f
      refine ⟨c.1, c.2, j, ds[j], List.getElem?_eq_getElem h1, h2, fun m z' hm hz => ?_, h⟩
      obtain ⟨hml, rfl⟩ := List.getElem?_eq_some_iff.mp hz
      simpa using h3 m hm
end
end Pd
set_option Elab.async false
set_option linter.all false
set_option maxRecDepth 100000
set_option maxHeartbeats 2000000
namespace Pd
open PySem PySem.Spec PyProof.Rows L2 LamX
abbrev tabPs (ps : Array Value) (pos : Pos) (c : Addr) : Array Value := ps ++ #[rawInt pos.line, rawInt pos.col, .ref c]
inductive Mk1 (H : Hp) (P : Addr) (q : Str) (ps : Array Value) (pos : Pos) : Addr → Hp → Prop where
  | hit (c : Addr) (h : codeAmong pos ps.toList = some (.ref c)) : Mk1 H P q ps pos c H
  | new (c : Addr) (h : H c = none) : Mk1 H P q ps pos c (upd (upd H P (.tbl (tabPs ps pos c))) c (CodeO c q))
section
variable {X : Cx} {pins : List (Addr × Obj)} {σ : L2.St} {H : Hp} {s : Shared}
theorem lam_made {c P : Addr} {ps : Array Value} {params : Arguments} {body : Expr} {scope : Scope} {pos : Pos} {E : Value → Shared → Prop} {Q : Value → Shared → Prop} (I : Inv X pins σ H s) (TB : TabB X.base X.mg c P) (hcode : X.env.code = .ref c)
    (hP : H P = some (.tbl ps)) (ht : TriplesOk ps.toList) (ha : ∀ (p : Pos) (v : Value), codeAmong p ps.toList = some v → ∃ c, v = .ref c ∧ H c = some (CodeO c (X.env.qual ++ "<lambda>")))
    (hdef : defaultsOf params X.env = ([], [])) (hfree : ∀ y ∈ scope.names, y.2 = .free → ∃ c, X.env.cells.lookup y.1 = some c)
    (h : ∀ (f c' : Addr) (pm ctv : Value) (H1 : Hp) (s' : Shared), Mk1 H P (X.env.qual ++ "<lambda>") ps pos c' H1 → Inv X pins σ H1 s' →
      s'.heap.get? f = some (PySem.W.kla_obj "<lambda>" (X.env.qual ++ "<lambda>") params body scope (cloFrom X.env.cells scope.names []) pm c' ctv) → H1 f = none → f ∉ frs X.stack → H1 c' = some (CodeO c' (X.env.qual ++ "<lambda>")) → Q (.ref f) s') :
    wpAny (model X.prog X.w) X.A (eval (.Lambda params body scope pos) X.env) Q E s := by
  have hP' : s.heap.get? P = some { cls := .none, data := .fields ps } := I.hok P _ hP
  have nofr : ∀ f, s.heap.objs.size ≤ f → f ∉ frs X.stack := fun f hf z => by
    rcases List.mem_cons.mp (I.stkSub _ z) with e | e
    · have h1 := I.lt
      rw [← e] at h1
      exact absurd (Nat.lt_of_lt_of_le h1 hf) (Nat.lt_irrefl _)
    · exact I.nofs hf e
  refine PySem.W.kla_eval hdef ?_
  cases hc : codeAmong pos ps.toList with
  | some cv =>
    obtain ⟨c', rfl, hco⟩ := ha pos cv hc
    refine PySem.W.kla_makeFunctionHit (mg := X.mg) (c := c) (P := P) (ps := ps) (closure_ok hfree) I.ok.glob (I.mod.glob.keeps I.bk) hcode (TB.code.keeps I.bk) hP' ht hc (TB.bm.keeps I.bk) fun ctv h' tk hx hsz => ?_
    exact h h'.objs.size c' ((X.mg "__name__").getD .none) ctv H _ (.hit c' hc) (I.kept fun b o e => Heap.get?_push_of_some _ (hx b o e)) (Heap.get?_push_size _ rfl) (I.hok.fresh hsz) (nofr _ hsz) hco
  | none =>
    refine PySem.W.kla_makeFunction (mg := X.mg) (c := c) (P := P) (ps := ps) (closure_ok hfree) I.ok.glob (I.mod.glob.keeps I.bk) hcode (TB.code.keeps I.bk) hP' ht hc TB.gP (TB.bm.keeps I.bk) fun c' ctv h' tk hx hge hlt hrec htb => ?_
    obtain ⟨c2, oc, vs, t, e2, hoc, hd, hv⟩ := hrec
    cases e2
    have hsz : s.heap.objs.size ≤ h'.objs.size := by omega
    have nC : H c' = none := I.hok.fresh hge
    have I1 := inv_table (q := X.env.qual ++ "<lambda>") (t' := tk) (more := #[rawInt pos.line, rawInt pos.col, .ref c']) (h' := h'.push (PySem.W.kla_obj "<lambda>" (X.env.qual ++ "<lambda>") params body scope (cloFrom X.env.cells scope.names []) ((X.mg "__name__").getD .none) c' ctv)) I hP
      (fun b o hb e => Heap.get?_push_of_some _ (hx b o hb e)) (Heap.get?_push_of_some _ htb) hge ⟨oc, vs, t, Heap.get?_push_of_some _ hoc, hd, hv⟩
    have n1 : h'.objs.size ≠ c' := by omega
    have n2 : h'.objs.size ≠ P := Nat.ne_of_gt (Nat.lt_of_lt_of_le (Heap.lt_size hP') hsz)
    refine h h'.objs.size c' ((X.mg "__name__").getD .none) ctv _ _ (.new c' nC) I1 (Heap.get?_push_size _ rfl) ?_ (nofr _ hsz) upd_same
    rw [upd_ne n1, upd_ne n2]
    exact I.hok.fresh hsz
end
end Pd
set_option Elab.async false
set_option linter.all false
set_option maxRecDepth 100000
set_option maxHeartbeats 2000000
namespace Pd
open PySem PySem.Spec PyProof.Rows L2 LamX
section
variable {X : Cx} {pins : List (Addr × Obj)} {σ : L2.St} {H : Hp} {s : Shared}
theorem pe_act2 {CXg : CXT} {Eg : XK} {Ng : List Str} {qg : Str} {sg : Scope} {g f c' : Addr} {cdg pm ctv : Value} {params : Arguments} {body : Expr} {scope : Scope} {k i : Nat} {a : Str} {pn : List (Addr × Obj)} {xe : Value → Shared → Prop} {W : WX} {tl : XK → TE} {p1 p2 : Pos}
    (I : Inv X pins σ H s) (L : LamS X.env.scope scope) (hf : s.heap.get? f = some (PySem.W.kla_obj "<lambda>" (X.env.qual ++ "<lambda>") params body scope (cloFrom X.env.cells scope.names []) pm c' ctv)) (hfn : H f = none) (hfr : f ∉ frs X.stack)
    (hbind : bindArgs (PySem.W.kla_fn "<lambda>" (X.env.qual ++ "<lambda>") params body scope (cloFrom X.env.cells scope.names []) pm (.ref c') ctv) ⟨[], []⟩ = pure [])
    (tk : Takes ((cxOf CXg X.prog X.w X.K X.mg X.base Ng qg sg g cdg X.A X.stack s H Eg).tr pn xe) W) (hr : Room (k + 1) (X.A.deeper (envOfC qg sg s.heap.objs.size g cdg))) (hgd : X.A.guards = some [])
    (hbody : ∀ (A : Around) (outer : List Env) (s : Shared) (H : Hp) (E : XK), A.guards = some [] → Room k (A.deeper (lamEnv X scope s.heap.objs.size f c')) → PE (lamCx X A outer s H E scope f c') body (tl E))
    (hN : Ng[i]? = some a) (hv : Vis sg a) (hd : (a == ("__debug__" : Str)) = false) (hcd : (a == ("__classdict__" : Str)) = false) :
    PE ((cxOf CXg X.prog X.w X.K X.mg X.base Ng qg sg g cdg X.A X.stack s H Eg).tr pn xe) (.Call (.Name a p1) [] [] p2)
      (fun σZ HZ Q => σZ[i]? = some (some (.ref f)) ∧ HZ c' = some (CodeO c' (X.env.qual ++ "<lambda>")) ∧ tl (WE W σZ) σ HZ Q) := by
  refine ⟨fun pinsZ sZ σZ HZ Q IZ ⟨hs, hc, ht⟩ => ?_⟩
  refine wpAny_Call_Name_kw (thn ((pe_var (pos := p1) (i := i) hN hv hd hcd).run pinsZ sZ σZ HZ (fun v H1 => v = .ref f ∧ H1 = HZ) IZ ⟨.ref f, hs, rfl, rfl⟩) fun u s1 ⟨v, H1, I1, r1, ev, eH⟩ => ?_)
  subst ev
  rw [eH] at I1
  obtain rfl : u = Value.ref f := r1
  have of1 : s1.heap.get? f = some (PySem.W.kla_obj "<lambda>" (X.env.qual ++ "<lambda>") params body scope (cloFrom X.env.cells scope.names []) pm c' ctv) := I1.base.keep f _ hf hfn hfr (fun z => nomatch (show f ∈ ([] : List Addr) from z))
  refine PySem.W.callWith_F0 ⟨_, _, _, _, of1⟩ (wpAny_call ?_)
  obtain ⟨⟨oc, vs, t, hoc, hdc, hvc⟩, _, _⟩ := I1.hok c' _ hc
  have rc : codeAny (model X.prog X.w) (X.A.deeper (envOfC qg sg s.heap.objs.size g cdg)) (.call (.ref f) ⟨[], []⟩) (L2.CR (L2.CX X.prog X.w) (envOfC qg sg s.heap.objs.size g cdg :: X.stack) X.prog X.w HZ s1 Q (WE W σZ)) s1 := by
    refine PySem.W.kla_callFunE hr.depth of1 rfl L.co L.gen rfl ⟨c', oc, vs, t, rfl, hoc, hdc, hvc⟩ ?_
    rw [hbind]
    refine wpAny_pure (wpAny_newFunctionEnv (fun y hy => (L.own y hy).2) (fun y hy => absurd hy (by simp)) (fun h₁ hns hsb => ⟨I1.nolimit.fresh _ hsb, ?_⟩) L.kind)
    show codeAny _ _ (.expr body (lamEnv X scope s1.heap.objs.size f c')) _ _
    have kp : ∀ b o, s1.heap.get? b = some o → h₁.get? b = some o := fun b o e => hsb.extBut b o (Nat.ne_of_lt (Heap.lt_size e)) (Heap.get?_push_of_some _ e)
    have J : Inv (lamCx X (X.A.deeper (envOfC qg sg s.heap.objs.size g cdg)) (envOfC qg sg s.heap.objs.size g cdg :: X.stack) s1 HZ (WE W σZ) scope f c') [] σ HZ { s1 with heap := h₁, toks := s1.toks + ([] : List (Str × Value)).length } :=
      lam_start2 I L I1.env0 hr.hd I1.base hns kp
    exact PySem.W.kla_codeExpr (wpAny_mono ((hbody (X.A.deeper (envOfC qg sg s.heap.objs.size g cdg)) _ s1 HZ (WE W σZ) hgd (hr.deeper _)).run [] _ _ HZ Q J ht) (fun v s' ⟨w', H', J', rv, q⟩ => ⟨w', H', J'.os, J'.bare, J'.base, J'.hok, rv, q⟩) fun e s' hq => hq)
  refine codeAny_mono rc fun r s' hq => ?_
  cases r with
  | error e => exact passAt tk σZ pinsZ HZ s1 e s' I1 hq
  | ok fl =>
    cases fl with
    | ret u => exact I1.after hq
    | next => exact hq.elim
    | brk => exact hq.elim
    | cont => exact hq.elim
end
def GivesTo2 (k : Nat) (X : Cx) (Ng : List Str) (x : Str) (sg : Scope) (g : Addr) (cdg : Value) (bg : List Stmt) (a : Str) (q : Str) (TT : Addr → Addr → (XK → Hp → VK → Prop) → Hp → VK → Prop) : Prop :=
  ∀ (f c' : Addr) (s : Shared) (H : Hp) (Q : VK) (tl : XK → Hp → VK → Prop), Room (k + 1) (X.A.deeper (envOfC x sg s.heap.objs.size g cdg)) →
    (∀ (W : WX) (pn : List (Addr × Obj)) (xe : Value → Shared → Prop) (p1 p2 : Pos), Takes ((cxOf C8.CX0 X.prog X.w X.K X.mg X.base Ng x sg g cdg X.A X.stack s H C8.E0).tr pn xe) W →
      PE ((cxOf C8.CX0 X.prog X.w X.K X.mg X.base Ng x sg g cdg X.A X.stack s H C8.E0).tr pn xe) (.Call (.Name a p1) [] [] p2) (fun σZ HZ Q => σZ[0]? = some (some (.ref f)) ∧ HZ c' = some (CodeO c' q) ∧ tl (WE W σZ) HZ Q)) →
    H c' = some (CodeO c' q) → TT f c' tl H Q →
    ∃ t, PSs (cxOf C8.CX0 X.prog X.w X.K X.mg X.base Ng x sg g cdg X.A X.stack s H C8.E0).nox bg t ∧ t { nx := fun _ H' => Q .non H', rt := Q } (L2.start Ng [.ref f]) H
def tLamX (P : Addr) (q : Str) (pos : Pos) (TT : Addr → Addr → (XK → Hp → VK → Prop) → Hp → VK → Prop) (t : XK → TE) : TE := fun σ H Q => ∃ ps : Array Value, H P = some (.tbl ps) ∧ TriplesOk ps.toList ∧
  (∀ (p : Pos) (v : Value), codeAmong p ps.toList = some v → ∃ c, v = .ref c ∧ H c = some (CodeO c q)) ∧ ∀ (f c' : Addr) (H1 : Hp), Mk1 H P q ps pos c' H1 → H1 f = none → TT f c' (fun E H' Q' => t E σ H' Q') H1 Q
section
variable {X : Cx}
theorem pe_lam {TT : Addr → Addr → (XK → Hp → VK → Prop) → Hp → VK → Prop} {x a : Str} {g c P : Addr} {k : Nat} {pg : Arguments} {bg : List Stmt} {sg : Scope} {dV kV doc pm cdv ct oc : Value} {an od : Option Addr} {osl : Array (Option Value)} {Ng : List Str}
    {params : Arguments} {body : Expr} {scope : Scope} {t : Around → List Env → Shared → Hp → Addr → Addr → XK → TE} {p lpos pos : Pos} (hg : Gl X x) (hm : X.mg x = some (.ref g)) (hk : PySem.W.keepIn X.K (.ref g) = true)
    (lk : X.K.lookup g = some ⟨oc, od, .func (PySem.W.fnOf x x pg bg sg dV kV doc pm an cdv ct), osl⟩) (hcg : PySem.W.codeIn X.K cdv x = true) (hb : L2.Binds X.K (PySem.W.fnOf x x pg bg sg dV kV doc pm an cdv ct) [a] []) (Sg : FnScope Ng [a] sg) (hNg : Ng[0]? = some a) (hva : Vis sg a)
    (hG : GivesTo2 k X Ng x sg g cdv bg a (X.env.qual ++ "<lambda>") TT)
    (TB : TabB X.base X.mg c P) (hcode : X.env.code = .ref c) (hr : Room (k + 2) X.A) (hgd : X.A.guards = some []) (L : LamS X.env.scope scope) (hdef : defaultsOf params X.env = ([], []))
    (hbind : ∀ (q : Str) (cl : List (Str × Addr)) (pm cv ctv : Value), bindArgs (PySem.W.kla_fn "<lambda>" q params body scope cl pm cv ctv) ⟨[], []⟩ = pure [])
    (hbody : ∀ (A : Around) (outer : List Env) (s : Shared) (H : Hp) (E : XK) (f c' : Addr), A.guards = some [] → Room k (A.deeper (lamEnv X scope s.heap.objs.size f c')) → PE (lamCx X A outer s H E scope f c') body (t A outer s H f c' E))
    (hdb : (x == ("__debug__" : Str)) = false := by decide) (hd : (a == ("__debug__" : Str)) = false := by decide) (hcd : (a == ("__classdict__" : Str)) = false := by decide) :
    PE X (.Call (.Name x p) [.Lambda params body scope lpos] [] pos) (tLamX P (X.env.qual ++ "<lambda>") lpos TT fun E σ H Q => ∀ A outer s H0 f c', t A outer s H0 f c' E σ H Q) := by
  refine ⟨fun pins s σ H Q I ⟨ps, hP, hT, ha, h⟩ => ?_⟩
  refine wpAny_Call_Name_kw (ld_glob I hg hm ?_ hdb)
  refine PySem.W.callWith_K (h₀ := X.base) I.ok.mod.kin hk ?_ (by rfl) (by rfl)
  show wpAny _ _ (spliced ((false, eval (.Lambda params body scope lpos) X.env) :: backTo pos (starEach [] X.env))) _ _ s
  refine Calls.spliced_cons (lam_made I TB hcode hP hT ha hdef (L.has I.ok) fun f c' pm' ctv H1 s' mk I1 hf hfn hfr hco => ?_)
  refine Calls.spliced_nil ⟨I1.kIn, wpAny_call ?_⟩
  have rc : codeAny (model X.prog X.w) X.A (.call (.ref g) ⟨[.ref f], []⟩) (L2.CR C8.CX0 X.stack X.prog X.w H1 s' Q C8.E0) s' := by
    refine run_ofS (N := Ng) (ps := [a]) (us := [.ref f]) (vs := [.ref f]) lk hcg Sg hr I1.env0 (hb s' [.ref f] I1.kIn rfl) (.cons rfl .nil) rfl fun hr' => ?_
    obtain ⟨t', ht', hq'⟩ := hG f c' s' H1 Q (fun E H' Q' => ∀ A outer s H0 f c', t A outer s H0 f c' E σ H' Q') hr' (fun W pn xe p1 p2 tk => pe_act2 (i := 0) I1 L hf hfn hfr (hbind _ _ _ _ _) tk hr' hgd (tl := fun E σ H Q => ∀ A outer s H0 f c', t A outer s H0 f c' E σ H Q) (fun A outer s H E hg2 hr2 => ⟨fun pins s' σ H' Q I h => (hbody A outer s H E f c' hg2 hr2).run pins s' σ H' Q I (h A outer s H f c')⟩) hNg hva hd hcd) hco (h f c' H1 mk hfn)
    exact ⟨t', ht'.nox, hq'⟩
  refine codeAny_mono rc fun r s2 hq => ?_
  cases r with
  | error e => exact (show False from hq).elim
  | ok fl =>
    cases fl with
    | ret u => exact I1.after hq
    | next => exact hq.elim
    | brk => exact hq.elim
    | cont => exact hq.elim
end
end Pd
set_option Elab.async false
set_option linter.all false
set_option maxRecDepth 100000
set_option maxHeartbeats 2000000
namespace Pd
open PySem PySem.Spec PyProof.Rows L2 LamX
variable {K : PySem.W.Frag} [HasW K] {B : Bs}
abbrev AP := (D → Prop) → (Str → List (Str × D) → Prop) → Prop
def ActOk (K : PySem.W.Frag) [HasW K] (Hf1 H1 : Hp) (A : AP) (tl : XK → Hp → VK → Prop) : Prop := ∀ Hf HZ, Gw Hf1 H1 Hf HZ → ∀ (Q : VK) (E : XK) (P : D → Prop) (X : Str → List (Str × D) → Prop), A P X →
  (∀ d v Hf' H', P d → Gw Hf HZ Hf' H' → Dr K Hf' v d → Q v H') → (∀ n C xs dx Hf' H', X n xs → NmAt K n C → Gw Hf HZ Hf' H' → XR K Hf' H' xs dx → E (.ref C) dx H') → tl E HZ Q
def actA (de : EX → DE) (δ : En) : AP := fun P X => de (fun n xs _ => X n xs) (hid δ) fun r δ' => datR r δ' fun d _ => P d
theorem act_ok {Hf1 H1 : Hp} {σ : L2.St} {δ : En} {tl : XK → TE} {de : EX → DE} (S : Sta B K Hf1 H1 σ δ) (hs : σ.length = B.n) (hd : δ.length = B.n)
    (hb : ∀ (E : XK) (B' : Bs) (Y : EX), B'.n = B.n → XOkW B' K (fun cls d _ H => E cls d H) Y → DEok B' K (tl E) (de Y)) : ActOk K Hf1 H1 (actA de δ) (fun E H Q => tl E σ H Q) := by
  intro Hf HZ g Q E P X h hQ hE
  have S1 := (Sta.hid (τ := []) (θ := []) (by simpa using S.grow g) hs hd : Sta (Bq Hf HZ B.n) K Hf HZ (σ ++ []) (Pd.hid δ ++ []))
  refine hb E (Bq Hf HZ B.n) _ rfl (fun Hf' H' σ' δ' n C xs dx _ _ S2 nm xr q => hE n C xs dx Hf' H' q nm (gw_of S2) xr) Hf HZ σ [] (hid δ) [] _ _ hs (hid_len.trans hd) S1 h fun r δ' v Hf' H' h1 hd1 e1 S2 => ?_
  obtain ⟨d, δ2, Hf2, h2, hd2, e2, q2, S3⟩ := dat_top S2 hs hd1 h1
  exact hQ d v Hf2 H' h2 (gw_of S3) q2
def dAct (f : Addr) (A : AP) (EX : Str → List (Str × D) → En → Prop) : DE := fun δ k => δ[0]? = some (.fn f) ∧ A (fun d => k (.dat d) δ) (fun n xs => EX n xs δ)
theorem de_act {f c' : Addr} {q : Str} {A : AP} {tl : XK → Hp → VK → Prop} {W : WX} {E : EX} (hA : ActOk K B.Hf B.H A tl) (hio : B.io = []) (hc : B.Hf c' = some (CodeO c' q)) (hx : XOkW B K W E) :
    DEok B K (fun σ H Q => σ[0]? = some (some (.ref f)) ∧ H c' = some (CodeO c' q) ∧ tl (WE W σ) H Q) (dAct f A E) := by
  intro Hf H σ τ δ θ Kc Q hs hd S ⟨h0, h⟩ k
  have hi : 0 < δ.length := (List.getElem?_eq_some_iff.mp h0).1
  obtain ⟨x, q1, c1⟩ := S.lt (i := 0) (s := .fn f) (by rw [List.getElem?_append_left hi]; exact h0)
  have g0 : Gw B.Hf B.H Hf H := ⟨fun a o z => S.bk a o z (by simp [Bs.ad, hio]), S.ff, S.fh, S.fn⟩
  refine ⟨?_, S.fh _ _ (S.ff _ _ hc), ?_⟩
  · have c1 : x = some (.ref f) := c1
    rw [c1, List.getElem?_append_left (by omega)] at q1
    exact q1
  · refine hA Hf H g0 Q (WE W σ) _ _ h (fun d v Hf' H' hk g dr => ?_) (fun n C xs dx Hf' H' hk nm g xr => ?_)
    · refine k (.dat d) δ v Hf' H' hk hd g.ff ?_
      have S2 := (S.grow g).pushD dr
      rw [List.append_assoc, List.append_assoc] at S2
      exact S2
    · exact hx Hf' H' σ δ n C xs dx hs hd (Sta.down hs hd (S.grow g)) nm xr hk
end Pd
set_option Elab.async false
set_option linter.all false
set_option maxRecDepth 100000
set_option maxHeartbeats 2000000
namespace Pd
open PySem PySem.Spec PyProof.Rows L2 LamX
variable {K : PySem.W.Frag} [HasW K] {B : Bs}
theorem Sta.tab {Hf H : Hp} {L : L2.St} {M : En} {P : Addr} {q : Str} {ps : Array Value} (S : Sta B K Hf H L M) (hm : (P, q) ∈ B.tb) (hu : ∀ p ∈ B.tb, p.1 = P → p.2 = q) (ht : TriplesOk ps.toList)
    (ha : ∀ (pos : Pos) (cv : Value), codeAmong pos ps.toList = some cv → ∃ c, cv = .ref c ∧ Hf c = some (CodeO c q)) : Sta B K Hf (upd H P (.tbl ps)) L M := by
  obtain ⟨hP, h0, ps0, h1, _, _⟩ := S.tb _ hm
  have ne : ∀ {i : Nat} {a : Addr} {s : Sl} {o : MO}, L[i]? = some (some (.ref a)) → M[i]? = some s → s.obj = some o → (∀ x ∈ mf H a o, upd H P (.tbl ps) x = H x) ∧ OR K Hf H a o ∧ ∀ x ∈ mf H a o, Hf x = none := fun {i a s o} e1 e2 e3 => by
    obtain ⟨b, f1, f2, f3⟩ := (S.cell i _ s e1 e2).obj e3
    cases f1
    exact ⟨fun x hx => upd_ne (fun z => f3.noTbl x hx ps0 (by rw [z]; exact h1)), f3, f3.free f2⟩
  have mfe : ∀ {i : Nat} {a : Addr} {s : Sl} {o : MO}, L[i]? = some (some (.ref a)) → M[i]? = some s → s.obj = some o → mf (upd H P (.tbl ps)) a o = mf H a o := fun {i a s o} e1 e2 e3 => by
    obtain ⟨f1, f2, f3⟩ := ne e1 e2 e3
    exact (f2.congr (Same.refl Hf) f1 f3).2
  exact {
    len := S.len
    nl := S.nl
    cell := fun i x s hx hs => (S.cell i x s hx hs).mono (Same.refl _) (fun a o z1 z2 y hy => by subst z1; exact (ne hx hs z2).1 y hy) fun a o z1 z2 y hy => by subst z1; exact (ne hx hs z2).2.2 y hy
    dj := fun i j a b s t o u hij h1 h2 h3 h4 h5 h6 => by
      rw [mfe h1 h3 h5, mfe h2 h4 h6]
      exact S.dj i j a b s t o u hij h1 h2 h3 h4 h5 h6
    ff := S.ff
    fh := fun a o z => by
      have : a ≠ P := fun e => by rw [e] at z; rw [show Hf P = none from h0] at z; cases z
      rw [upd_ne this]
      exact S.fh a o z
    fn := S.fn
    bk := fun a o z1 z2 => by
      have : a ≠ P := fun e => z2 (by rw [e]; exact hP)
      rw [upd_ne this]
      exact S.bk a o z1 z2
    ow := fun i a o h1 h2 => by
      rw [mfe h1 h2 rfl]
      exact S.ow i a o h1 h2
    iw := fun i a o h1 h2 => by
      rw [mfe h1 h2 rfl]
      exact S.iw i a o h1 h2
    ip := fun a z => by
      by_cases e : a = P
      · exact ⟨_, by rw [e, upd_same]⟩
      · rw [upd_ne e]; exact S.ip a z
    bo := S.bo
    tb := fun p hp => by
      obtain ⟨t1, t2⟩ := S.tb p hp
      refine ⟨t1, ?_⟩
      by_cases e : p.1 = P
      · refine ⟨t2.1, ps, by rw [e, upd_same], ht, fun pos cv hc => ?_⟩
        rw [hu p hp e]
        exact ha pos cv hc
      · exact t2.mono (Same.refl _) (fun u z => .inl z) fun qs z => by rw [upd_ne e]; exact z }
theorem Sta.made1 {Hf H H1 : Hp} {L : L2.St} {M : En} {P c' : Addr} {q : Str} {ps : Array Value} {pos : Pos} (S : Sta B K Hf H L M) (hm : (P, q) ∈ B.tb) (hu : ∀ p ∈ B.tb, p.1 = P → p.2 = q) (hP : H P = some (.tbl ps)) (mk : Mk1 H P q ps pos c' H1) :
    ∃ Hf1, Same Hf Hf1 ∧ Hf1 c' = some (CodeO c' q) ∧ Sta B K Hf1 H1 L M := by
  obtain ⟨_, h0, ps0, h1, h2, h3⟩ := S.tb _ hm
  have e : ps0 = ps := by
    have : H P = some (.tbl ps0) := h1
    rw [hP] at this
    cases this
    rfl
  subst e
  cases mk with
  | hit hc =>
    obtain ⟨c, e1, e2⟩ := h3 pos _ hc
    cases e1
    exact ⟨Hf, Same.refl _, e2, S⟩
  | new hn =>
    have g : Gw Hf H (upd Hf c' (CodeO c' q)) (upd H c' (CodeO c' q)) := Gw.fresh S.fh hn
    have nP : P ≠ c' := ne_of_none hP hn
    have S1 := (S.grow g).tab (P := P) (q := q) (ps := tabPs ps0 pos c') hm hu (by
      have : (tabPs ps0 pos c').toList = ps0.toList ++ [rawInt pos.line, rawInt pos.col, .ref c'] := by simp [tabPs]
      rw [this]
      exact PySem.TriplesOk_snoc _ _ _ _ h2) (fun p' cv hc => by
      have : (tabPs ps0 pos c').toList = ps0.toList ++ [rawInt pos.line, rawInt pos.col, .ref c'] := by simp [tabPs]
      rw [this] at hc
      rcases among_app _ h2 hc with z | z
      · obtain ⟨c, e1, e2⟩ := h3 p' cv z
        exact ⟨c, e1, g.ff _ _ e2⟩
      · exact ⟨c', z, upd_same⟩)
    have eH : upd (upd H c' (CodeO c' q)) P (.tbl (tabPs ps0 pos c')) = upd (upd H P (.tbl (tabPs ps0 pos c'))) c' (CodeO c' q) := funext fun x => by
      by_cases x1 : x = P
      · subst x1
        rw [upd_same, upd_ne nP, upd_same]
      · by_cases x2 : x = c'
        · subst x2
          rw [upd_ne x1, upd_same, upd_same]
        · rw [upd_ne x1, upd_ne x2, upd_ne x2, upd_ne x1]
    rw [eH] at S1
    exact ⟨_, g.ff, upd_same, S1⟩
end Pd
set_option Elab.async false
set_option linter.all false
set_option maxRecDepth 100000
set_option maxHeartbeats 2000000
namespace Pd
open PySem PySem.Spec PyProof.Rows L2 LamX
def lamStart (f : Addr) (n : Nat) : En := .fn f :: List.replicate (n - 1) .un
def lamEnds (P : D → Prop) : DEnds := { nx := fun _ => P .none, rt := fun r δ => datR r δ fun d _ => P d }
def lamTT (K : PySem.W.Frag) [HasW K] (q : Str) (n : Nat) (d : Addr → AP → DT) : Addr → Addr → (XK → Hp → VK → Prop) → Hp → VK → Prop := fun f c' tl H Q => ∃ (Hf : Hp) (A : AP) (P : D → Prop), Same Hf H ∧ Hf c' = some (CodeO c' q) ∧ ActOk K Hf H A tl ∧
  d f A (lamEnds P) (lamStart f n) ∧ ∀ dd v Hf' H', P dd → Gw Hf H Hf' H' → Dr K Hf' v dd → Q v H'
section
variable {K : PySem.W.Frag} [HasW K]
theorem sta_lam {Hf H : Hp} {f : Addr} {N : List Str} (e : Same Hf H) (hN : 0 < N.length) : Sta (Bq Hf H N.length) K Hf H (L2.start N [.ref f]) (lamStart f N.length) := by
  have at_ : ∀ {i : Nat} {s : Sl}, (lamStart f N.length)[i]? = some s → (i = 0 ∧ s = .fn f) ∨ s = .un := fun {i s} h => by
    cases i with
    | zero => exact .inl ⟨rfl, (Option.some.inj h).symm⟩
    | succ i =>
      right
      have h : (List.replicate (N.length - 1) Sl.un)[i]? = some s := h
      exact List.eq_of_mem_replicate (List.mem_of_getElem? h)
  have no : ∀ {i : Nat} {s : Sl} {o : MO}, (lamStart f N.length)[i]? = some s → s.obj = some o → False := fun {i s o} h1 h2 => by
    rcases at_ h1 with ⟨_, rfl⟩ | rfl <;> cases h2
  have ll : (L2.start N [V.ref f]).length = N.length := by
    unfold L2.start
    simp
    omega
  exact {
    len := by rw [ll]; unfold lamStart; simp; omega
    nl := by rw [ll]; exact Nat.le_refl _
    cell := fun i x s h1 h2 => by
      rcases at_ h2 with ⟨rfl, rfl⟩ | rfl
      · exact (Option.some.inj h1).symm
      · trivial
    dj := fun i j a b s t o u _ _ _ h3 _ h5 _ => (no h3 h5).elim
    ff := Same.refl _
    fh := e
    fn := fun a o h => .inl h
    bk := fun a o h _ => h
    ow := fun i a o _ h => (no h rfl).elim
    iw := fun i a o _ h => (no h rfl).elim
    ip := fun a h => by simp [Bs.ad, Bq] at h
    tb := fun p hp => absurd hp (by simp [Bq])
    bo := fun k i h => by rcases at_ h with ⟨_, z⟩ | z <;> cases z }
end
section
variable {X : Cx} [HasW X.K]
theorem gives2_of {k : Nat} {Ng : List Str} {x a q : Str} {sg : Scope} {g : Addr} {cdg : Value} {bg : List Stmt} {d : Addr → AP → DT} (hN : 0 < Ng.length)
    (w : ∀ (f c' : Addr) (s : Shared) (H : Hp) (tl : XK → Hp → VK → Prop), Room (k + 1) (X.A.deeper (envOfC x sg s.heap.objs.size g cdg)) →
      (∀ (W : WX) (pn : List (Addr × Obj)) (xe : Value → Shared → Prop) (p1 p2 : Pos), Takes ((cxOf C8.CX0 X.prog X.w X.K X.mg X.base Ng x sg g cdg X.A X.stack s H C8.E0).tr pn xe) W →
        PE ((cxOf C8.CX0 X.prog X.w X.K X.mg X.base Ng x sg g cdg X.A X.stack s H C8.E0).tr pn xe) (.Call (.Name a p1) [] [] p2) (fun σZ HZ Q => σZ[0]? = some (some (.ref f)) ∧ HZ c' = some (CodeO c' q) ∧ tl (WE W σZ) HZ Q)) →
      ∃ ts, PSs (cxOf C8.CX0 X.prog X.w X.K X.mg X.base Ng x sg g cdg X.A X.stack s H C8.E0).nox bg ts ∧
        ∀ (A : AP) (B : Bs), B.n = Ng.length → B.io = [] → B.Hf c' = some (CodeO c' q) → ActOk X.K B.Hf B.H A tl → DSok B X.K ts (d f A)) :
    GivesTo2 k X Ng x sg g cdg bg a q (lamTT X.K q Ng.length d) := by
  intro f c' s H Q tl hr act hc ⟨Hf, A, P, e, hcf, hA, hd, hQ⟩
  obtain ⟨ts, p, m⟩ := w f c' s H tl hr act
  have S0 := sta_lam (K := X.K) (f := f) (N := Ng) e hN
  have sl : (L2.start Ng [V.ref f]).length = Ng.length := by
    unfold L2.start
    simp
    omega
  have dl : (lamStart f Ng.length).length = Ng.length := by
    unfold lamStart
    simp
    omega
  refine ⟨ts, p, m A (Bq Hf H Ng.length) rfl rfl hcf hA Hf H _ _ _ (lamEnds P) sl dl S0 ⟨fun Hf' H' σ δ _ _ _ S h => hQ .none .non Hf' H' h (gw_of S) .non, fun Hf' H' σ δ v r _ hs hd2 S h => ?_, fun _ _ _ _ _ _ _ _ h => h.elim, fun _ _ _ _ _ _ _ _ h => h.elim⟩ hd⟩
  have h' : datR r δ fun d _ => P d := h
  obtain ⟨dd, δ2, Hf2, h2, hd3, e2, q2, S3⟩ := dat_top (τ := []) (θ := []) (by simpa using S) hs hd2 h'
  exact hQ dd v Hf2 H' h2 (gw_of S3) q2
end
section
variable {K : PySem.W.Frag} [HasW K] {B : Bs}
def dLam (n : Nat) (d : Addr → AP → DT) (de : EX → DE) : DE := fun δ k => ∀ f, d f (actA de δ) (lamEnds fun dd => k (.dat dd) δ) (lamStart f n)
theorem de_lam {P : Addr} {q : Str} {lpos : Pos} {n : Nat} {d : Addr → AP → DT} {t : Around → List Env → Shared → Hp → Addr → Addr → XK → TE} {de : EX → DE} (hm : (P, q) ∈ B.tb) (hu : ∀ p ∈ B.tb, p.1 = P → p.2 = q)
    (hb : ∀ (A : Around) (outer : List Env) (s : Shared) (H0 : Hp) (f c' : Addr) (E : XK) (B' : Bs) (Y : EX), B'.n = B.n → XOkW B' K (fun cls d _ H => E cls d H) Y → DEok B' K (t A outer s H0 f c' E) (de Y)) : DEok B K (tLamX P q lpos (lamTT K q n d) fun E σ H Q => ∀ A outer s H0 f c', t A outer s H0 f c' E σ H Q) (dLam n d de) := by
  intro Hf H σ τ δ θ Kc Q hs hd S h k
  obtain ⟨hP, h0, ps, h1, h2, h3⟩ := S.tb _ hm
  refine ⟨ps, h1, h2, fun p v e => let ⟨c, a, b⟩ := h3 p v e; ⟨c, a, S.fh _ _ b⟩, fun f c' H1 mk hf => ?_⟩
  obtain ⟨Hf1, ff, hc, S1⟩ := S.made1 hm hu h1 mk
  refine ⟨Hf1, actA de δ, fun dd => Kc (.dat dd) δ, S1.fh, hc, act_ok (tl := fun E σ H Q => ∀ A outer s H0 f c', t A outer s H0 f c' E σ H Q) (Sta.down hs hd S1) hs hd (fun E B' Y hn hx Hf H σ τ δ θ Kc Q hs hd S h k A outer s H0 f c' => hb A outer s H0 f c' E B' Y hn hx Hf H σ τ δ θ Kc Q hs hd S h k), h f, fun dd v Hf' H' hk g dr => ?_⟩
  refine k (.dat dd) δ v Hf' H' hk hd (ff.trans g.ff) ?_
  have S2 := (S1.grow g).pushD dr
  rw [List.append_assoc, List.append_assoc] at S2
  exact S2
end
end Pd
set_option Elab.async false
set_option linter.all false
set_option maxRecDepth 100000
set_option maxHeartbeats 2000000
namespace Pd
open PySem PySem.Spec PyProof.Rows L2 LamX
variable {K : PySem.W.Frag} [HasW K]
section
variable {P : Program} {w : World} {mg : Str → Option Value} {base : Heap} {k : Nat} {x y : Str} {N : List Str} {st : Stmt} {f : Addr} {fd : FuncData} {dt : DT}
end
end Pd
set_option Elab.async false
set_option linter.all false
set_option maxRecDepth 100000
set_option maxHeartbeats 2000000
namespace Pd
open PySem PySem.Spec PyProof.Rows L2 LamX
end Pd
set_option Elab.async false
set_option linter.all false
set_option maxRecDepth 100000
set_option maxHeartbeats 2000000
namespace Pd
open PySem PySem.Spec PyProof.Rows L2 LamX
end Pd
set_option Elab.async false
set_option linter.all false
set_option maxRecDepth 100000
set_option maxHeartbeats 2000000
namespace Pd
open PySem PySem.Spec PyProof.Rows L2 LamX
section
variable {P : Program} {w : World} {K : PySem.W.Frag} {mg : Str → Option Value} {base : Heap} {CX : CXT} {k j : Nat} {f : Addr} {fd : FuncData} {ps : List Str} {sp sp' : Sp}
theorem fun_okC {x qual : Str} {st : Stmt} {N : List Str} (F : Fun K x qual st f fd) (S : FnScope N ps (defScope st)) (len : ∀ vs H Q E, sp vs H Q E → vs.length = ps.length)
    (hbody : ∀ (A : Around) (outer : List Env) (s : Shared) (H : Hp) (vs : List V) (Q : VK) (E : XK), A.guards = some [] → Room k (A.deeper (envOfC qual (defScope st) s.heap.objs.size f fd.code)) → sp vs H Q E →
      ∃ t, PSs (cxOf CX P w K mg base N qual (defScope st) f fd.code A outer s H E) (defBody st) t ∧ t { nx := fun _ H' => Q .non H', rt := Q } (L2.start N vs) H) : FnG P w K mg base CX (k + 1) f fd ps sp := by
  obtain ⟨oc, od, kV, doc, pm, an, cdv, ct, osl, rfl, lk, hcd⟩ := F.ex
  refine ⟨len, fun A outer s H args us vs Q E hgd hr e0 hb r hsp => ?_⟩
  have KX : K.In s.heap := e0.mod.kin.keeps (fun b o e => (e0.bs b o e).1)
  have lim : s.heap.NoLimit := e0.mod.nolimit.keeps (fun b o e => (e0.bs b o e).1)
  have kinds : ∀ y ∈ ps.zip us, (defScope st).names.lookup y.1 = some .local ∨ ((defScope st).names.lookup y.1 = some .cell ∧ ((cellsFrom (s.heap.objs.size + 1) (defScope st).names []).lookup y.1).isSome = true) := by
    intro y hy
    have hn : y.1 ∈ ps := (List.of_mem_zip (show (y.1, y.2) ∈ ps.zip us from hy)).1
    exact (S.par y.1 hn).elim Or.inl fun q => .inr ⟨q, PySem.W.cellsFrom_some _ _ _ (.inl q)⟩
  refine codeAny_call_function (Room.depth hr) (KX _ _ lk) rfl S.co S.gen rfl (PySem.W.codeRec_of KX hcd) (hb _ _ _ _ ?_)
  refine wpAny_newFunctionEnv_cells S.kind kinds (fun env he s1 x => ?_)
  subst he
  refine ⟨lim.keeps x.toInCall.keep, codeAny_func (?_ : wpAny _ _ _ _ _ _)⟩
  obtain ⟨t, ht, hq⟩ := hbody A outer s H vs Q E hgd (Room.deeper hr _) hsp
  have I : Inv (cxOf CX P w K mg base N qual (defScope st) f cdv A outer s H E) [] (L2.start N vs) H s1 := inv_start S hr.hd e0 (len vs H Q E hsp) r x
  refine wpAny_mono (ht.run [] s1 (L2.start N vs) H _ I hq) (fun fl s' hs => ?_) (fun e s' hs => hs)
  match fl, hs with
  | .ret u, ⟨v, σ', H', J, rv, q⟩ => exact ⟨v, H', J.os, J.bare, J.base, J.hok, rv, q⟩
  | .next, ⟨σ', H', J, q⟩ => exact ⟨V.non, H', J.os, J.bare, J.base, J.hok, rfl, q⟩
  | .brk, ⟨_, _, _, q⟩ => exact q.elim
  | .cont, ⟨_, _, _, q⟩ => exact q.elim
end
section
variable {K : PySem.W.Frag} [HasW K]
variable {P : Program} {w : World} {mg : Str → Option Value} {base : Heap} {k : Nat} {x y : Str} {N : List Str} {st : Stmt} {f : Addr} {fd : FuncData} {dt : DT}
end
end Pd
set_option Elab.async false
set_option linter.all false
set_option maxRecDepth 100000
set_option maxHeartbeats 2000000
namespace Pd
open PySem PySem.Spec PyProof.Rows L2 LamX
section
variable {X : Cx} {CX : CXT} {k i : Nat} {a : Str} {f : Addr} {fd : FuncData} {ps : List Str} {sp : Sp} {e : Expr} {es : List Expr} {p pos : Pos} {t : TA}
end
section
variable {K : PySem.W.Frag} [HasW K] {B : Bs}
end
end Pd
set_option Elab.async false
set_option linter.all false
set_option maxRecDepth 100000
set_option maxHeartbeats 2000000
namespace Pd
open PySem PySem.Spec PyProof.Rows L2
instance decMemTh (p : Th) (L : List Th) : Decidable (p ∈ L) := decidable_of_iff (∃ q ∈ L, q = p) ⟨fun ⟨q, h, e⟩ => e ▸ h, fun h => ⟨p, h, rfl⟩⟩
end Pd
set_option Elab.async false
set_option linter.all false
set_option maxRecDepth 100000
set_option maxHeartbeats 2000000
namespace Pd
open PySem PySem.Spec PyProof.Rows L2
section
variable {X : Cx} {o e : Expr} {apos cpos : Pos} {td ty : TE}
end
section
variable {K : PySem.W.Frag} [HasW K] {B : Bs}
theorem PT.of {Hf H : Hp} : ∀ {xs : List XE} {T : TDk D}, TRs K Hf H (kidT .dat T) (kidsX xs) → xs.map (·.1) = T.map (·.1) → PT K Hf xs T
  | [], [], _, _ => .nil
  | [], p :: T, _, e => by simp at e
  | x :: xs, [], _, e => by simp at e
  | x :: xs, p :: T, h, e => by
    rw [List.map_cons, List.map_cons, List.cons.injEq] at e
    have h : TRs K Hf H (.dat (thD p.1) :: .dat p.2 :: kidT .dat T) (V.ref x.2.1 :: x.2.2 :: kidsX xs) := h
    rw [TRs] at h
    obtain ⟨v1, ws1, e3, h1, h2⟩ := h
    rw [TRs] at h2
    obtain ⟨v2, ws2, e4, h3, h4⟩ := h2
    cases e3
    cases e4
    rw [TR] at h1 h3
    exact .cons ⟨e.1, by rw [e.1]; exact h1, h3⟩ (PT.of h4 e.2)
theorem PT.sq {Hf H : Hp} (e : Same Hf H) {xs : List XE} {T : TDk D} (h : PT K Hf xs T) : ∀ x ∈ xs, SqT K H x.2.1 (x.1.map kV) := by
  induction h with
  | nil => exact fun x hx => nomatch hx
  | @cons x p xs T h t ih =>
    intro y hy
    rcases List.mem_cons.mp hy with z | z
    · subst z
      exact sqt_mono e (key_dr h.2.1 (thD_key _))
    · exact ih y z
end
end Pd
set_option Elab.async false
set_option linter.all false
set_option maxRecDepth 100000
set_option maxHeartbeats 2000000
namespace Pd
open PySem PySem.Spec PyProof.Rows L2
section
variable {X : Cx}
end
section
variable {K : PySem.W.Frag} [HasW K] {B : Bs}
end
end Pd
set_option Elab.async false
set_option linter.all false
set_option maxRecDepth 100000
set_option maxHeartbeats 2000000
namespace Pd
open PySem PySem.Spec PyProof.Rows L2
section
variable {K : PySem.W.Frag} [HasW K] {B : Bs}
end
end Pd
set_option Elab.async false
set_option linter.all false
set_option maxRecDepth 100000
set_option maxHeartbeats 2000000
namespace Pd
open PySem PySem.Spec PyProof.Rows L2
section
variable {K : PySem.W.Frag} [HasW K] {B : Bs}
structure CE where
  k : List Key
  c : Addr
  p : Addr
  l : Addr
def CE.x (t : CE) : XE := (t.k, t.c, V.ref t.l)
structure Dct (K : PySem.W.Frag) [HasW K] (Hf1 H1 Hf H : Hp) (Dl : Addr) (acc : List CE) : Prop where
  ff : Same Hf1 Hf
  fh : Same Hf H
  hh : Same H1 H
  fn : ∀ a o, Hf a = some o → Hf1 a = some o ∨ H1 a = none
  fD : Hf Dl = none
  hD : H Dl = some (.lst (acc.map fun t => V.ref t.p))
  tp : ∀ t ∈ acc, H t.p = some (.tup [.ref t.c, .ref t.l])
  ky : ∀ t ∈ acc, Dr K Hf (.ref t.c) (thD t.k)
  ls : ∀ t ∈ acc, (∃ o, H t.l = some (.ext (PinX t.l o)) ∧ DTo (HasW.w K) o [(t.k, t.c, .bl true)]) ∧ (t.l == sysModules) = false ∧ H1 t.l = none ∧ Hf t.l = none ∧ t.l ≠ Dl
  nd : (acc.map (·.l)).Nodup
theorem Dct.gw {Hf1 H1 Hf H : Hp} {Dl : Addr} {acc : List CE} (c : Dct K Hf1 H1 Hf H Dl acc) : Gw Hf1 H1 Hf H := ⟨c.hh, c.ff, c.fh, c.fn⟩
theorem Dct.grow {Hf1 H1 Hf H Hf' H' : Hp} {Dl : Addr} {acc : List CE} (c : Dct K Hf1 H1 Hf H Dl acc) (g : Gw Hf H Hf' H') : Dct K Hf1 H1 Hf' H' Dl acc := by
  have g2 := c.gw.trans g
  refine ⟨g2.ff, g2.fh, g2.hh, g2.fn, g.free c.hD c.fD, g.hh _ _ c.hD, fun t ht => g.hh _ _ (c.tp t ht), fun t ht => Same.dp g.ff (c.ky t ht), fun t ht => ?_, c.nd⟩
  obtain ⟨⟨o, a1, a2⟩, a3, a4, a5, a6⟩ := c.ls t ht
  exact ⟨⟨o, g.hh _ _ a1, a2⟩, a3, a4, g.free a1 a5, a6⟩
end
end Pd
set_option Elab.async false
set_option linter.all false
set_option maxRecDepth 100000
set_option maxHeartbeats 2000000
namespace Pd
open PySem PySem.Spec PyProof.Rows L2
section
variable {X : Cx} {a b c e : Expr} {ta : TA}
end
section
variable {K : PySem.W.Frag} [HasW K] {B : Bs}
end
section
variable {δ : En} {k : Re → En → Prop} {E : DEnds} {i : Nat} {d : D} {u t : Tre} {p : List Nat} {x x' y : Ob}
end
end Pd
set_option Elab.async false
set_option linter.all false
set_option maxRecDepth 100000
set_option maxHeartbeats 4000000
namespace Pd
open PySem PySem.Spec PyProof.Rows L2
variable {α : Type}
end Pd
set_option Elab.async false
set_option linter.all false
set_option maxRecDepth 100000
set_option maxHeartbeats 2000000
namespace Pd
open PySem PySem.Spec PyProof.Rows L2
section
variable {K : PySem.W.Frag} [HasW K] {B : Bs}
end
section
variable {K : PySem.W.Frag} [HasW K] {B : Bs}
end
section
variable {δ : En} {k : Re → En → Prop}
end
end Pd
set_option Elab.async false
set_option linter.all false
set_option maxRecDepth 100000
set_option maxHeartbeats 2000000
namespace Pd
open PySem PySem.Spec PyProof.Rows L2
section
variable {K : PySem.W.Frag} [HasW K]
end
end Pd
set_option Elab.async false
set_option linter.all false
set_option maxRecDepth 100000
set_option maxHeartbeats 2000000
namespace Pd
open PySem PySem.Spec PyProof.Rows L2 L2.DX
section
variable {X : Cx}
end
variable {K : PySem.W.Frag} [HasW K] {B : Bs}
section
variable {δ : En} {k : Re → En → Prop} {i : Nat}
end
end Pd
set_option Elab.async false
set_option linter.all false
set_option maxRecDepth 100000
set_option maxHeartbeats 2000000
namespace Pd
open PySem PySem.Spec PyProof.Rows L2
end Pd
set_option Elab.async false
set_option linter.all false
set_option maxRecDepth 100000
set_option maxHeartbeats 2000000
namespace Pd
open PySem PySem.Spec PyProof.Rows L2
end Pd
set_option Elab.async false
set_option linter.all false
set_option maxRecDepth 100000
set_option maxHeartbeats 4000000
namespace Pd
open PySem PySem.Spec PyProof.Rows L2
end Pd
set_option Elab.async false
set_option linter.all false
set_option maxRecDepth 100000
set_option maxHeartbeats 2000000
namespace Pd
open PySem PySem.Spec PyProof.Rows L2
section
variable {K : PySem.W.Frag} [HasW K] {B : Bs} {X : Cx}
end
end Pd
set_option Elab.async false
set_option linter.all false
set_option maxRecDepth 100000
set_option maxHeartbeats 2000000
namespace Pd
open PySem PySem.Spec PyProof.Rows L2
section
variable {X : Cx} {e : Expr} {td : TE} {apos cpos : Pos}
end
section
variable {K : PySem.W.Frag} [HasW K] {B : Bs}
end
end Pd
set_option Elab.async false
set_option linter.all false
set_option maxRecDepth 100000
set_option maxHeartbeats 2000000
namespace Pd
open PySem PySem.Spec PyProof.Rows L2
variable {K : PySem.W.Frag} [HasW K] {B : Bs}
end Pd
set_option Elab.async false
set_option linter.all false
set_option maxRecDepth 100000
set_option maxHeartbeats 2000000
namespace Pd
open PySem PySem.Spec PyProof.Rows L2
section
variable {δ : En} {k : Re → En → Prop}
end
end Pd
set_option Elab.async false
set_option linter.all false
set_option maxRecDepth 100000
set_option maxHeartbeats 2000000
namespace Pd
open PySem PySem.Spec PyProof.Rows L2
section
variable {K : PySem.W.Frag} [HasW K] {B : Bs}
end
section
variable {δ : En} {k : Re → En → Prop}
end
end Pd
set_option Elab.async false
set_option linter.all false
set_option maxRecDepth 100000
set_option maxHeartbeats 2000000
namespace Pd
open PySem PySem.Spec PyProof.Rows L2 LamX
section
variable {K : PySem.W.Frag} [HasW K] {B : Bs}
theorem ActOk.base {Hf H Hf1 H1 : Hp} {A : AP} {tl : XK → Hp → VK → Prop} (hA : ActOk K Hf H A tl) (g : ∀ Hf' H', Gw Hf1 H1 Hf' H' → Gw Hf H Hf' H') : ActOk K Hf1 H1 A tl :=
  fun Hf' HZ q => hA Hf' HZ (g _ _ q)
theorem ds_tryKL {T : Value} {i N : Nat} {tb : List (Str × Bool)} {tbo : WX → TS} {ts : TS} {db : EX → DT} {ds : DT} {W : WX} {E : EX} (hB : B.n = N) (hi : i < N) (hT : ExmT K T tb) (hx : XOkW B K W E)
    (hb : ∀ (B' : Bs) (W : WX) (E : EX), B'.n = N → B'.io = B.io → Same B.Hf B'.Hf → (∀ Hf H, Gw B'.Hf B'.H Hf H → Gw B.Hf B.H Hf H) → XOkW B' K W E → DSok B' K (tbo W) (db E)) (hs : DSok B K ts ds) :
    DSok B K (fun D σ H => tbo (wKeep K T i ts W D) D σ H) (dTryK i tb db ds E) := by
  intro Hf H σ δ D E' hs1 hd1 S M h
  have hb' : ∀ (B' : Bs) (W : WX) (E : EX), B'.n = N → B' = ⟨Hf, B.H, B.io, B.n, B.tb⟩ → XOkW B' K W E → DSok B' K (tbo W) (db E) := fun B' W E hn e hX => by
    subst e
    exact hb _ W E hn rfl S.ff (fun Hf' H' g => ⟨g.hh, S.ff.trans g.ff, g.fh, fun a o z => (g.fn a o z).elim (S.fn a o) .inr⟩) hX
  refine hb' ⟨Hf, B.H, B.io, B.n, B.tb⟩ (wKeep K T i ts W D) _ hB rfl (fun Hf' H' σ' δ' n C xs dx ls ld S' nm xr ⟨b, b1, yes, no⟩ => ?_) Hf H σ δ D E' hs1 hd1 (sta_base S) (sim_base S M) h
  have S1 := sta_unbase S S'
  refine ⟨b, hT n b b1 C nm, fun e => ⟨C, rfl, fun a ha => ?_⟩, fun e => hx Hf' H' σ' δ' n C xs dx ls ld S1 nm xr (no e)⟩
  have g := Gw.fresh S1.fh (o := exg a C dx) ha
  have S2 := S1.grow g
  obtain ⟨ws, w1, w2⟩ : ∃ ws : List (Str × V), Paired (fun (p : Str × V) (q : Str × Pd.D) => p.1 = q.1 ∧ Dr K Hf' p.2 q.2) ws xs ∧ ((ws = [] ∧ dx = none) ∨ ∃ d, dx = some d ∧ Hf' d = some (.xd ws)) := by
    rcases xr with ⟨rfl, h2⟩ | ⟨d, ws, h1, h2, h3⟩
    · exact ⟨[], .nil, .inl ⟨rfl, h2⟩⟩
    · exact ⟨ws, h3, .inr ⟨d, h1, h2⟩⟩
  have dr : Dr K (upd Hf' a (exg a C dx)) (.ref a) (excX n xs) := by
    refine .exc (.inr ⟨dx, upd_same, ?_⟩) nm (drx_of (prd_mono g.ff w1))
    rcases w2 with ⟨rfl, h2⟩ | ⟨d, h1, h2⟩
    · exact .inl ⟨rfl, h2⟩
    · exact .inr ⟨d, h1, g.ff _ _ h2⟩
  have S3 := Sta.put0 S2 ls ld (show i < B.n by omega) dr
  have fin : ∀ {Hf2 H2 : Hp} {σ2 : L2.St} {δ2 : En}, σ2.length = B.n → δ2.length = B.n → Sta B K Hf2 H2 σ2 δ2 → (σ2.set i none).length = B.n ∧ (unS δ2 [i]).length = B.n ∧ Sta B K Hf2 H2 (σ2.set i none) (unS δ2 [i]) := fun l1 l2 S => ⟨by simp [l1], by rw [unS_len]; exact l2, unset_ok S l1 l2⟩
  have far : Same Hf (upd Hf' a (exg a C dx)) := S'.ff.trans g.ff
  refine hs _ _ _ _ _ { nx := fun δ' => E'.nx (unS δ' [i]), rt := E'.rt, bk := fun δ' => E'.bk (unS δ' [i]), ct := fun δ' => E'.ct (unS δ' [i]) } (by simp [ls]) (by simp [ld]) S3 ⟨fun Hf2 H2 σ2 δ2 e2 l1 l2 q2 q => ?_, fun Hf2 H2 σ2 δ2 v r e2 l1 l2 q2 q => M.rt Hf2 H2 σ2 δ2 v r (far.trans e2) l1 l2 q2 q, fun Hf2 H2 σ2 δ2 e2 l1 l2 q2 q => ?_, fun Hf2 H2 σ2 δ2 e2 l1 l2 q2 q => ?_⟩ (yes e)
  · obtain ⟨f1, f2, f3⟩ := fin l1 l2 q2
    exact M.nx _ _ _ _ (far.trans e2) f1 f2 f3 q
  · obtain ⟨f1, f2, f3⟩ := fin l1 l2 q2
    exact M.bk _ _ _ _ (far.trans e2) f1 f2 f3 q
  · obtain ⟨f1, f2, f3⟩ := fin l1 l2 q2
    exact M.ct _ _ _ _ (far.trans e2) f1 f2 f3 q
end
section
variable {X : Cx} [HasW X.K]
end
structure LamD (K : PySem.W.Frag) (mg : Str → Option Value) (x a : Str) (Ng : List Str) (st : Stmt) (g : Addr) (cdv : Value) : Prop where
  hm : mg x = some (.ref g)
  hk : PySem.W.keepIn K (.ref g) = true
  ex : ∃ (oc : Value) (od : Option Addr) (kV doc pm : Value) (an : Option Addr) (ct : Value) (osl : Array (Option Value)), K.lookup g = some ⟨oc, od, .func (PySem.W.fnOf x x (defArgs st) (defBody st) (defScope st) .none kV doc pm an cdv ct), osl⟩ ∧ PySem.W.codeIn K cdv x = true ∧ L2.Binds K (PySem.W.fnOf x x (defArgs st) (defBody st) (defScope st) .none kV doc pm an cdv ct) [a] []
  sc : FnScope Ng [a] (defScope st)
  n0 : Ng[0]? = some a
  vis : Vis (defScope st) a
theorem lamD_of {K : PySem.W.Frag} [HasW K] {mg : Str → Option Value} {x a : Str} {Ng : List Str} {st : Stmt} {g : Addr} {fd : FuncData} (F : FnP K x st g fd) (hm : mg x = some (.ref g)) (sc : FnScope Ng [a] (defScope st)) (n0 : Ng[0]? = some a) (vis : Vis (defScope st) a)
    (hb : ∀ (kV doc pm : Value) (an : Option Addr) (cdv ct : Value) (us : List Value), us.length = [a].length → bindArgs (PySem.W.fnOf x x (defArgs st) (defBody st) (defScope st) .none kV doc pm an cdv ct) ⟨us, []⟩ = pure ([a].zip us)) : LamD K mg x a Ng st g fd.code := by
  have B := F.bindsN (ps := [a]) hb
  obtain ⟨⟨oc, od, kV, doc, pm, an, cdv, ct, osl, rfl, lk, hcd⟩, kp⟩ := fun_of F
  exact ⟨hm, kp, ⟨oc, od, kV, doc, pm, an, ct, osl, lk, hcd, B⟩, sc, n0, vis⟩
section
variable {X : Cx}
theorem pe_tk {e : Expr} {t : TE} {W : WX} (tk : Takes X W) (h : Takes X W → PE X e t) : PE X e t := h tk
theorem pe_lamK {TT : Addr → Addr → (XK → Hp → VK → Prop) → Hp → VK → Prop} {x a : Str} {g c P : Addr} {k : Nat} {st : Stmt} {cdv : Value} {Ng : List Str} {params : Arguments} {body : Expr} {scope : Scope} {t : Around → List Env → Shared → Hp → Addr → Addr → XK → TE} {p lpos pos : Pos} (D : LamD X.K X.mg x a Ng st g cdv)
    (hG : GivesTo2 k X Ng x (defScope st) g cdv (defBody st) a (X.env.qual ++ "<lambda>") TT) (hg : Gl X x) (TB : TabB X.base X.mg c P) (hcode : X.env.code = .ref c) (hr : Room (k + 2) X.A) (hgd : X.A.guards = some []) (L : LamS X.env.scope scope) (hdef : defaultsOf params X.env = ([], []))
    (hbind : ∀ (q : Str) (cl : List (Str × Addr)) (pm cv ctv : Value), bindArgs (PySem.W.kla_fn "<lambda>" q params body scope cl pm cv ctv) ⟨[], []⟩ = pure [])
    (hbody : ∀ (A : Around) (outer : List Env) (s : Shared) (H : Hp) (E : XK) (f c' : Addr), A.guards = some [] → Room k (A.deeper (lamEnv X scope s.heap.objs.size f c')) → PE (lamCx X A outer s H E scope f c') body (t A outer s H f c' E))
    (hdb : (x == ("__debug__" : Str)) = false := by decide) (hd : (a == ("__debug__" : Str)) = false := by decide) (hcd : (a == ("__classdict__" : Str)) = false := by decide) :
    PE X (.Call (.Name x p) [.Lambda params body scope lpos] [] pos) (tLamX P (X.env.qual ++ "<lambda>") lpos TT fun E σ H Q => ∀ A outer s H0 f c', t A outer s H0 f c' E σ H Q) := by
  obtain ⟨oc, od, kV, doc, pm, an, ct, osl, lk, hcg, hb⟩ := D.ex
  exact pe_lam hg D.hm D.hk lk hcg hb D.sc D.n0 D.vis hG TB hcode hr hgd L hdef hbind hbody hdb hd hcd
end
end Pd
set_option Elab.async false
set_option linter.all false
set_option maxRecDepth 100000
set_option maxHeartbeats 2000000
namespace Pd
open PySem PySem.Spec PyProof.Rows L2 LamX
def apOf (r : Rz D Unit) : AP := fun P X => r.on P fun n xs _ => X n xs
theorem c_act {f : Addr} {A : AP} {E : EX} {δ : En} {k : Re → En → Prop} {r : Rz D Unit} (h0 : δ[0]? = some (.fn f)) (hA : ∀ P X, apOf r P X → A P X) (h : r.on (fun d => k (.dat d) δ) fun n xs _ => E n xs δ) : dAct f A E δ k := ⟨h0, hA _ _ h⟩
theorem c_lam {n : Nat} {d : Addr → AP → DT} {de : EX → DE} {δ : En} {k : Re → En → Prop} {r : Rz D Unit} {v : D} (hb : ∀ (P : D → Prop) (X : Str → List (Str × D) → Prop), apOf r P X → de (fun n xs _ => X n xs) (hid δ) fun r δ' => datR r δ' fun d _ => P d)
    (hw : ∀ A : AP, (∀ P X, apOf r P X → A P X) → ∀ P : D → Prop, P v → ∀ f, d f A (lamEnds P) (lamStart f n)) (hk : k (.dat v) δ) : dLam n d de δ k := fun f => hw _ hb _ hk f
theorem c_hid {de : DE} {δ δh : En} {k : Re → En → Prop} (e : hid δ = δh) (h : de δh k) : de (hid δ) k := by rw [e]; exact h
def osl : Option D → Sl
  | some d => .dat d
  | none => .un
end Pd
set_option Elab.async false
set_option linter.all false
set_option maxRecDepth 100000
set_option maxHeartbeats 2000000
namespace Pd
open PySem PySem.Spec PyProof.Rows L2 LamX
end Pd
set_option Elab.async false
set_option linter.all false
set_option maxRecDepth 100000
set_option maxHeartbeats 2000000
namespace Pd
open PySem PySem.Spec PyProof.Rows L2 LamX
variable {K : PySem.W.Frag} [HasW K] {B : Bs}
def RowOk (Hf : Hp) (ps : Array Value) (q : Str) : Prop := TriplesOk ps.toList ∧ ∀ (pos : Pos) (cv : Value), codeAmong pos ps.toList = some cv → ∃ c, cv = .ref c ∧ Hf c = some (CodeO c q)
def spT (K : PySem.W.Frag) [HasW K] (P : Addr) (q : Str) (fs : FS) : Sp := fun vs H Q _ => ∃ (Hf : Hp) (as : List Ag) (io : List Addr) (Pk : Re → List MO → Prop) (Xk : XW), TabF Hf H (P, q) ∧ Same Hf H ∧ ArgsR K Hf H vs as io ∧ (feet H io (iosOf as)).Nodup ∧ fs as Pk Xk ∧
  ∀ r os v Hf' H' ps, Pk r os → Po K Hf H io (iosOf as) Hf' H' os → H' P = H P → RowOk Hf' ps q → RX K H Hf' H' as io r v → RD H' io os r v → Q v (upd H' P (.tbl ps))
theorem de_callT {P : Addr} {q : Str} {fs : FS} {ms : List Bool} {ta : TA} {da : DA} (hm : (P, q) ∈ B.tb) (hu : ∀ p ∈ B.tb, p.1 = P → p.2 = q) (ha : DAok B K ta da) : DEok B K (tCall (spT K P q fs) [] E0 ta) (dCall fs ms da NoX) := by
  intro Hf H σ τ δ θ Kc Q hs hd S h k
  refine ha Hf H σ τ δ θ _ _ hs hd S h fun rs δ1 vs Hf1 H1 h1 hd1 hl e1 S1 => ?_
  rw [List.append_nil]
  obtain ⟨Hf2, as, io, Pk, Xk, e2, ⟨L, M, S2⟩, f2, a2, nio, h2, q1, _⟩ := call_coreQ (W := fun _ _ _ _ => False) (EX := NoX) (Q := fun Hf' v H' => ∃ r δ', Kc r δ' ∧ δ'.length = B.n ∧ Same Hf1 Hf' ∧ Sta B K Hf' H' (σ ++ (τ ++ [some v])) (δ' ++ (θ ++ [r.sl]))) (fun _ _ _ _ _ _ _ _ _ _ _ h => h.elim) hs hd1 hl S1 h1 (fun r δ' v Hf' H' q1 q2 q3 q4 => ⟨r, δ', q1, q2, q3, q4⟩)
  refine ⟨Hf2, as, io, Pk, Xk, (S2.tb _ hm).2, f2, a2, nio, h2, fun r os v Hf' H' ps hp po hP row rx rd => ?_⟩
  obtain ⟨r', δ', kr, l', ff, S'⟩ := q1 r os v Hf' H' hp po rx rd
  exact k r' δ' v Hf' _ kr l' (e1.trans ff) (S'.tab hm hu row.1 row.2)
theorem Sta.ghost {Hf H : Hp} {io : List (Nat × Addr × List Addr)} {n : Nat} {L : L2.St} {M : En} {P : Addr} {q : Str} (S : Sta ⟨Hf, H, io, n, []⟩ K Hf H L M) (t : TabF Hf H (P, q)) : Sta ⟨Hf, H, (n, P, [P]) :: io, n, [(P, q)]⟩ K Hf H L M where
  len := S.len
  nl := S.nl
  cell := S.cell
  dj := S.dj
  ff := S.ff
  fh := S.fh
  fn := S.fn
  bk := fun a o h1 h2 => S.bk a o h1 fun z => h2 (List.mem_cons_of_mem P z)
  ow := S.ow
  iw := fun i a o h1 h2 => by
    obtain ⟨F, m, z⟩ := S.iw i a o h1 h2
    exact ⟨F, List.mem_cons_of_mem _ m, z⟩
  ip := fun a h => by
    rcases List.mem_cons.mp (show a ∈ P :: Bs.ad ⟨Hf, H, io, n, []⟩ from h) with e | e
    · obtain ⟨_, ps, z, _⟩ := t
      rw [e]
      exact ⟨_, z⟩
    · exact S.ip a e
  bo := S.bo
  tb := fun p hp => by
    rw [List.mem_singleton.mp hp]
    exact ⟨List.mem_cons_self, t⟩
theorem Sta.unghost {Hf H Hf' H' : Hp} {io : List (Nat × Addr × List Addr)} {n : Nat} {L : L2.St} {M : En} {P : Addr} {q : Str} {ps0 : Array Value} (S : Sta ⟨Hf, H, (n, P, [P]) :: io, n, [(P, q)]⟩ K Hf' H' L M) (t : TabF Hf H (P, q)) (h0 : H P = some (.tbl ps0)) :
    ∃ ps, H' P = some (.tbl ps) ∧ RowOk Hf' ps q ∧ Sta ⟨Hf, H, io, n, []⟩ K Hf' (upd H' P (.tbl ps0)) L M := by
  obtain ⟨_, n0, ps, h1, h2, h3⟩ := S.tb (P, q) List.mem_cons_self
  obtain ⟨_, ps1, t1, t2, t3⟩ := t
  have e : ps1 = ps0 := by
    have t1 : H P = some (.tbl ps1) := t1
    rw [h0] at t1
    cases t1
    rfl
  subst e
  have S1 := S.tab (P := P) (q := q) (ps := ps1) List.mem_cons_self (fun p hp _ => by rw [List.mem_singleton.mp hp]) t2 (fun pos cv hc => by
    obtain ⟨c, a, b⟩ := t3 pos cv hc
    exact ⟨c, a, S.ff _ _ b⟩)
  exact ⟨ps, h1, ⟨h2, h3⟩, {
    len := S1.len
    nl := S1.nl
    cell := S1.cell
    dj := S1.dj
    ff := S1.ff
    fh := S1.fh
    fn := S1.fn
    bk := fun a o e1 e2 => by
      by_cases c : a = P
      · subst c
        have e1 : H a = some o := e1
        rw [upd_same, ← e1, h0]
      · exact S1.bk a o e1 fun z => by
          rcases List.mem_cons.mp (show a ∈ P :: Bs.ad ⟨Hf, H, io, n, []⟩ from z) with y | y
          · exact c y
          · exact e2 y
    ow := S1.ow
    iw := fun i a o e1 e2 => by
      obtain ⟨F, m, z⟩ := S1.iw i a o e1 e2
      rcases List.mem_cons.mp m with y | y
      · have ea : a = P := congrArg (fun p : Nat × Addr × List Addr => p.2.1) y
        obtain ⟨b, b1, _, b2⟩ := (S1.cell i _ _ e1 e2).obj rfl
        cases b1
        subst ea
        exact absurd upd_same (b2.noTbl a mf_self ps1)
      · exact ⟨F, y, z⟩
    ip := fun a h => S1.ip a (List.mem_cons_of_mem P h)
    bo := S1.bo
    tb := fun p hp => absurd hp (by simp) }⟩
theorem ends_fin {as : List Ag} {vs : List V} {io : List Addr} {n : Nat} {Hf H : Hp} (hA : ArgsR K Hf H vs as io) (Hf' H' : Hp) (σ : L2.St) (δ : En) (k : List MO → Prop) (S : Sta ⟨Hf, H, ioAt H 0 as io, n, []⟩ K Hf' H' σ δ) (q : iosR as δ k) :
    ∃ os, Po K Hf H io (iosOf as) Hf' H' os ∧ k os ∧ ∀ x ∈ feet H' io os, ∃ m a o, 0 ≤ m ∧ σ[m]? = some (some (.ref a)) ∧ δ[m]? = some (.io o) ∧ x ∈ mf H' a o := by
  obtain ⟨os, q1, q2, q3, q5, q4⟩ := iosR_ok S 0 hA (fun p hp => hp) (fun i a b F G => ioAt_fn as io 0 i a b F G) (fun i s q => by rw [Nat.zero_add]; exact q) q
  exact ⟨os, S.po hA q1 q3 q5, q2, q4⟩
theorem ends_rt {as : List Ag} {vs : List V} {io : List Addr} {N : List Str} {Hf H : Hp} {P : Re → List MO → Prop} (hA : ArgsR K Hf H vs as io) {Hf' H' : Hp} {σ : L2.St} {δ : En} {v : V} {r : Re} (hs : σ.length = N.length) (hdl : δ.length = N.length) (S : Sta ⟨Hf, H, ioAt H 0 as io, N.length, []⟩ K Hf' H' (σ ++ [some v]) (δ ++ [r.sl]))
    (q : retR r δ fun r' => iosR as δ fun os => P r' os) : ∃ r' os, P r' os ∧ Po K Hf H io (iosOf as) Hf' H' os ∧ RX K H Hf' H' as io r' v ∧ RD H' io os r' v := by
  have fin := fun (Hf' H' : Hp) (σ : L2.St) (δ : En) (k : List MO → Prop) (S : Sta ⟨Hf, H, ioAt H 0 as io, N.length, []⟩ K Hf' H' σ δ) (q : iosR as δ k) => ends_fin hA Hf' H' σ δ k S q
  have hs' : σ.length = N.length := hs
  have hd' : δ.length = N.length := hdl
  have top : (σ ++ [some v])[N.length]? = some (some v) := by rw [List.getElem?_append_right (by omega)]; simp [hs']
  have topM : (δ ++ [r.sl])[N.length]? = some r.sl := by rw [List.getElem?_append_right (by omega)]; simp [hd']
  have S1 := S.pop (show σ.length = δ.length by omega) (show N.length ≤ σ.length by omega)
  have c := S.cell _ _ _ top topM
  have fresh : ∀ a o (i : Nat), (σ ++ [some v])[i]? = some (some (.ref a)) → (δ ++ [r.sl])[i]? = some (.own o) → NF H H' a o := fun a o i h1 h2 => NF.of (S.ow i a o h1 h2)
  have apart : ∀ a o (i : Nat) (os : List MO), (σ ++ [some v])[i]? = some (some (.ref a)) → (δ ++ [r.sl])[i]? = some (.own o) → (∀ x ∈ feet H' io os, ∃ m a o, 0 ≤ m ∧ σ[m]? = some (some (.ref a)) ∧ δ[m]? = some (.io o) ∧ x ∈ mf H' a o) → ∀ x ∈ mf H' a o, x ∉ feet H' io os := fun a o i os h1 h2 h3 x hx hy => by
    obtain ⟨m, b, u, _, z1, z2, z3⟩ := h3 x hy
    have z1' : (σ ++ [some v])[m]? = some (some (.ref b)) := by rw [List.getElem?_append_left (List.getElem?_eq_some_iff.mp z1).1]; exact z1
    have z2' : (δ ++ [r.sl])[m]? = some (.io u) := by rw [List.getElem?_append_left (List.getElem?_eq_some_iff.mp z2).1]; exact z2
    refine S.dj i m a b _ _ o u (fun e => ?_) h1 z1' h2 z2' rfl rfl x hx z3
    subst e
    rw [h2] at z2'
    cases z2'
  cases r with
  | dat d =>
    obtain ⟨w, e1, q1⟩ := c
    cases e1
    obtain ⟨os, q2, q3, _⟩ := fin Hf' H' σ δ _ S1 q
    exact ⟨_, os, q3, q2, q1, trivial⟩
  | new o =>
    obtain ⟨a, e1, f1, f2⟩ := c
    cases e1
    obtain ⟨os, q2, q3, q9⟩ := fin Hf' H' σ δ _ S1 q
    exact ⟨_, os, q3, q2, ⟨a, rfl, fresh a o _ top topM, f1, f2⟩, (apart a o _ os top topM q9)⟩
  | slot j =>
    obtain ⟨w, e1, q1⟩ := c
    cases e1
    unfold retR at q
    cases hj : δ[j]? with
    | none => simp only [hj] at q
    | some s =>
      simp only [hj] at q
      have hjl := (List.getElem?_eq_some_iff.mp hj).1
      have hM : (δ ++ [Sl.bor j])[j]? = some s := by rw [List.getElem?_append_left hjl]; exact hj
      have cj := S.cell j _ s q1 hM
      cases s with
      | un => exact q.elim
      | io o =>
        obtain ⟨a, e1, f1, f2⟩ := cj
        cases e1
        obtain ⟨os, q2, q3, q9⟩ := fin Hf' H' σ δ _ S1 q
        obtain ⟨F, g1, _⟩ := S.iw j a o q1 hM
        exact ⟨_, os, q3, q2, ⟨a, F, rfl, g1⟩, trivial⟩
      | bor b => exact q.elim
      | fn _ => exact q.elim
      | dat d =>
        obtain ⟨w, e1, q4⟩ := cj
        cases e1
        obtain ⟨os, q2, q3, _⟩ := fin Hf' H' σ δ _ S1 q
        exact ⟨_, os, q3, q2, q4, trivial⟩
      | own o =>
        obtain ⟨a, e1, f1, f2⟩ := cj
        cases e1
        obtain ⟨os, q2, q3, q9⟩ := fin Hf' H' σ δ _ S1 q
        exact ⟨_, os, q3, q2, ⟨a, rfl, fresh a o j q1 hM, f1, f2⟩, (apart a o j os q1 hM q9)⟩
theorem body_okT {fs : FS} {ts : TS} {dt : DT} {N : List Str} {n : Nat} {Pt : Addr} {q : Str} (hlen : ∀ as P X, fs as P X → as.length = n) (hn : n ≤ N.length) {vs : List V} {H : Hp} {Q : VK} {E : XK} (h : spT K Pt q fs vs H Q E)
    (hd : ∀ Bx : Bs, Bx.n = N.length → Bx.tb = [(Pt, q)] → DSok Bx K ts dt) (hp : ∀ as P X, fs as P X → dt (Pd.fin as P) (begin_ as N.length)) :
    ts { nx := fun _ H' => Q .non H', rt := Q } (start N vs) H := by
  obtain ⟨Hf, as, io, P, X, t, e, hA, nd, hF, hQ⟩ := h
  have hl : vs.length = n := (argsR_len hA).trans (hlen as P X hF)
  have S0 := (sta_begin (N := N) e hA nd (by omega)).ghost t
  obtain ⟨ps0, h0⟩ : ∃ ps0, H Pt = some (.tbl ps0) := by
    obtain ⟨_, ps, z, _⟩ := t
    exact ⟨ps, z⟩
  have slen : (start N vs).length = N.length := by
    unfold L2.start
    simp
    omega
  have blen : (begin_ as N.length).length = N.length := by
    unfold begin_
    have := hlen as P X hF
    simp
    omega
  have back : ∀ (Hz : Hp) (ps : Array Value), Hz Pt = some (.tbl ps) → upd (upd Hz Pt (.tbl ps0)) Pt (.tbl ps) = Hz := fun Hz ps hz => funext fun x => by
    by_cases c : x = Pt
    · subst c
      rw [upd_same, hz]
    · rw [upd_ne c, upd_ne c]
  refine hd _ rfl rfl Hf H _ _ _ (Pd.fin as P) slen blen S0 ⟨fun Hf' H' σ δ _ _ _ S q => ?_, fun Hf' H' σ δ v r _ hs hdl S q => ?_, fun _ _ _ _ _ _ _ _ q => q.elim, fun _ _ _ _ _ _ _ _ q => q.elim⟩ (hp as P X hF)
  · obtain ⟨ps, z1, z2, S2⟩ := S.unghost t h0
    obtain ⟨os, q1, q2, _⟩ := ends_fin hA _ _ σ δ _ S2 q
    have := hQ _ os .non Hf' _ ps q2 q1 (upd_same.trans h0.symm) z2 .non trivial
    rw [back H' ps z1] at this
    exact this
  · obtain ⟨ps, z1, z2, S2⟩ := S.unghost t h0
    obtain ⟨r', os, k1, k2, k3, k4⟩ := ends_rt (N := N) hA hs hdl S2 q
    have := hQ r' os v Hf' _ ps k1 k2 (upd_same.trans h0.symm) z2 k3 k4
    rw [back H' ps z1] at this
    exact this
section
variable {P : Program} {w : World} {mg : Str → Option Value} {base : Heap} {k : Nat} {x : Str} {ps N : List Str} {st : Stmt} {f : Addr} {fd : FuncData} {fs : FS} {dt : DT} {Pt : Addr} {q : Str}
theorem gkT_of (F : FnP K x st f fd) (hm : mg x = some (.ref f)) (S : FnScope N ps (defScope st)) (hn : ps.length ≤ N.length)
    (hb : ∀ (kV doc pm : Value) (an : Option Addr) (cdv ct : Value) (us : List Value), us.length = ps.length → bindArgs (PySem.W.fnOf x x (defArgs st) (defBody st) (defScope st) .none kV doc pm an cdv ct) ⟨us, []⟩ = pure (ps.zip us))
    (walk : ∀ (A : Around) (outer : List Env) (s : Shared) (H : Hp) (E : XK), A.guards = some [] → Room k (A.deeper (envOfC x (defScope st) s.heap.objs.size f fd.code)) →
      ∃ ts, PSs (cxOf CX0 P w K mg base N x (defScope st) f fd.code A outer s H E).nox (defBody st) ts ∧ ∀ Bx : Bs, Bx.n = N.length → Bx.tb = [(Pt, q)] → DSok Bx K ts dt)
    (law : ∀ as P X, fs as P X → as.length = ps.length ∧ dt (Pd.fin as P) (begin_ as N.length)) : GK P w K mg base (k + 1) x ps (spT K Pt q fs) := by
  refine ⟨f, fd, ?_, hm, F.kp, F.bindsN hb⟩
  refine fun_okC (fun_of F) S (fun vs H Q E h => by
    obtain ⟨_, as, io, _, _, _, _, hA, _, hF, _⟩ := h
    exact (argsR_len hA).trans (law as _ _ hF).1) fun A outer s H vs Q E hg hr h => ?_
  obtain ⟨ts, w1, w2⟩ := walk A outer s H E hg hr
  exact ⟨ts, PSs.nox w1, body_okT (n := ps.length) (fun as P X h => (law as P X h).1) hn h w2 fun as P X h => (law as P X h).2⟩
end
end Pd
set_option Elab.async false
set_option linter.all false
set_option maxRecDepth 100000
set_option maxHeartbeats 2000000
namespace Pd
open PySem PySem.Spec PyProof.Rows L2 LamX
variable {K : PySem.W.Frag} [HasW K]
def spLawN (K : PySem.W.Frag) [HasW K] (Ts : List Addr) : Sp := fun vs H Q _ => (∀ P ∈ Ts, H P = some (.tbl #[])) ∧ ∃ (a : Addr) (ns : List Int), vs = [.ref a] ∧ ns.length ≤ 63 ∧ Rd H a (.lst (ns.map V.int)) ∧ ∀ H', Q (.bl true) H'
def noTabs (H : Hp) (Ts : List Addr) : Hp := fun b => if b ∈ Ts then none else H b
def bLawN (H : Hp) (T : List (Addr × Str)) (n : Nat) : Bs := ⟨noTabs H (T.map (·.1)), H, T.map fun p => (n, p.1, [p.1]), n, T⟩
theorem noTabs_same {H : Hp} {Ts : List Addr} : Same (noTabs H Ts) H := fun b o e => by
  unfold noTabs at e
  split at e
  · cases e
  · exact e
theorem bLawN_ad {H : Hp} {T : List (Addr × Str)} {n : Nat} : (bLawN H T n).ad = T.map (·.1) := by
  show ((T.map fun p => (n, p.1, [p.1])).map (·.2.2)).flatten = _
  rw [List.map_map]
  induction T with
  | nil => rfl
  | cons p T ih => rw [List.map_cons, List.flatten_cons, ih]; rfl
theorem sta_lawN {H : Hp} {T : List (Addr × Str)} {a : Addr} {N : List Str} {d : D} (hP : ∀ p ∈ T, H p.1 = some (.tbl #[])) (hd : Dr K (noTabs H (T.map (·.1))) (.ref a) d) (hN : 0 < N.length) :
    Sta (bLawN H T N.length) K (noTabs H (T.map (·.1))) H (L2.start N [.ref a]) (begin_ [.dat d] N.length) := by
  have at_ : ∀ {i : Nat} {s : Sl}, (begin_ [.dat d] N.length)[i]? = some s → (i = 0 ∧ s = .dat d) ∨ s = .un := fun {i s} h => by
    cases i with
    | zero => exact .inl ⟨rfl, (Option.some.inj h).symm⟩
    | succ i =>
      right
      have h : (List.replicate (N.length - 1) Sl.un)[i]? = some s := h
      exact List.eq_of_mem_replicate (List.mem_of_getElem? h)
  have no : ∀ {i : Nat} {s : Sl} {o : MO}, (begin_ [.dat d] N.length)[i]? = some s → s.obj = some o → False := fun {i s o} h1 h2 => by
    rcases at_ h1 with ⟨_, rfl⟩ | rfl <;> cases h2
  have ll : (L2.start N [V.ref a]).length = N.length := by
    unfold L2.start
    simp
    omega
  exact {
    len := by rw [ll]; unfold begin_; simp; omega
    nl := by rw [ll]; exact Nat.le_refl _
    cell := fun i x s h1 h2 => by
      rcases at_ h2 with ⟨rfl, rfl⟩ | rfl
      · exact ⟨_, (Option.some.inj h1).symm, hd⟩
      · trivial
    dj := fun i j a b s t o u _ _ _ h3 _ h5 _ => (no h3 h5).elim
    ff := Same.refl _
    fh := noTabs_same
    fn := fun a o h => .inl h
    bk := fun a o h _ => h
    ow := fun i a o _ h => (no h rfl).elim
    iw := fun i a o _ h => (no h rfl).elim
    ip := fun b h => by
      rw [bLawN_ad] at h
      obtain ⟨p, hp, e⟩ := List.mem_map.mp h
      exact ⟨_, by rw [← e]; exact hP p hp⟩
    tb := fun p hp => by
      have hp : p ∈ T := hp
      refine ⟨by rw [bLawN_ad]; exact List.mem_map_of_mem hp, if_pos (List.mem_map_of_mem hp), #[], hP p hp, trivial, fun pos cv hc => ?_⟩
      have z : codeAmong pos [] = some cv := hc
      simp [codeAmong] at z
    bo := fun k i h => by rcases at_ h with ⟨_, z⟩ | z <;> cases z }
section
variable {P : Program} {w : World} {mg : Str → Option Value} {base : Heap} {k : Nat} {x y : Str} {N : List Str} {st : Stmt} {f : Addr} {fd : FuncData} {dt : DT}
theorem fngN_of {T : List (Addr × Str)} (F : FnP K x st f fd) (S : FnScope N [y] (defScope st)) (hN : 0 < N.length)
    (walk : ∀ (A : Around) (outer : List Env) (s : Shared) (H : Hp) (E : XK), A.guards = some [] → Room k (A.deeper (envOfC x (defScope st) s.heap.objs.size f fd.code)) →
      ∃ ts, PSs (cxOf CX0 P w K mg base N x (defScope st) f fd.code A outer s H E).nox (defBody st) ts ∧ ∀ Bx : Bs, Bx.n = N.length → Bx.tb = T → DSok Bx K ts dt)
    (law : ∀ ns : List Int, ns.length ≤ 63 → dt { nx := fun _ => False, rt := fun r _ => r = .dat (.bool true) } (begin_ [.dat (.list (ns.map PyData.int))] N.length)) : FnG P w K mg base CX0 (k + 1) f fd [y] (spLawN K (T.map (·.1))) := by
  refine fun_okC (fun_of F) S (fun vs H Q E h => by obtain ⟨_, a, ns, rfl, _⟩ := h; rfl) fun A outer s H vs Q E hg hr h => ?_
  obtain ⟨hP, a, ns, rfl, hl, hS, hQ⟩ := h
  obtain ⟨ts, w1, w2⟩ := walk A outer s H E hg hr
  have na : a ∉ T.map (·.1) := fun z => by
    have := hP a z
    rcases hS with z | ⟨o, z⟩ <;> rw [this] at z <;> cases z
  have hS' : Rd (noTabs H (T.map (·.1))) a (.lst (ns.map V.int)) := by
    have e : noTabs H (T.map (·.1)) a = H a := if_neg na
    rcases hS with z | ⟨o, z⟩
    · exact .inl (e.trans z)
    · exact .inr ⟨o, e.trans z⟩
  have S0 := sta_lawN (K := K) (T := T) (N := N) (fun p hp => hP _ (List.mem_map_of_mem hp)) (.lst hS' (dpa_ints ns)) hN
  have sl : (L2.start N [V.ref a]).length = N.length := by
    unfold L2.start
    simp
    omega
  have dl : (begin_ [.dat (.list (ns.map PyData.int))] N.length).length = N.length := by
    unfold begin_
    simp
    omega
  refine ⟨ts, PSs.nox w1, w2 (bLawN H T N.length) rfl rfl (noTabs H (T.map (·.1))) H _ _ _ { nx := fun _ => False, rt := fun r _ => r = .dat (.bool true) } sl dl S0 ⟨fun _ _ _ _ _ _ _ _ h => h.elim, fun Hf' H' σ δ v r _ hs hd2 S h => ?_, fun _ _ _ _ _ _ _ _ h => h.elim, fun _ _ _ _ _ _ _ _ h => h.elim⟩ (law ns hl)⟩
  have h : r = .dat (.bool true) := h
  subst h
  have hs' : σ.length = N.length := hs
  have hd' : δ.length = N.length := hd2
  have c := S.cell N.length (some v) (.dat (.bool true)) (by rw [List.getElem?_append_right (by omega)]; simp [hs']) (by rw [List.getElem?_append_right (by omega)]; simp [hd']; rfl)
  obtain ⟨u, e1, e2⟩ := c
  cases e1
  cases e2
  exact hQ H'
end
theorem tb_one : ∀ {T : List (Addr × Str)}, (T.map (·.1)).Nodup → ∀ {P : Addr} {q : Str}, (P, q) ∈ T → ∀ p ∈ T, p.1 = P → p.2 = q
  | [], _, _, _, h => by cases h
  | r :: T, nd, P, q, h => fun p hp e => by
    rw [List.map_cons] at nd
    have n1 := (List.nodup_cons.mp nd).1
    rcases List.mem_cons.mp h with z | z <;> rcases List.mem_cons.mp hp with y | y
    · rw [y, ← z]
    · exact absurd (List.mem_map.mpr ⟨p, y, by show p.1 = r.1; rw [e, ← z]⟩) n1
    · exact absurd (List.mem_map.mpr ⟨(P, q), z, by show P = r.1; rw [← y, e]⟩) n1
    · exact tb_one (List.nodup_cons.mp nd).2 z p y e
end Pd
set_option Elab.async false
set_option linter.all false
set_option maxRecDepth 100000
set_option maxHeartbeats 2000000
namespace Pd
open PySem PySem.Spec PyProof.Rows L2 LamX
theorem law_callN {P : Program} {w : World} {K : PySem.W.Frag} {mg mb : Str → Option Value} {CX : CXT} {k : Nat} {fa a : Addr} {cs : List (Addr × Addr)} {fd : FuncData} {x : Str} {sp : Sp} {s₁ : Shared} {vs : List Value} {ns : List Int}
    (KX : K.In s₁.heap) (hns : s₁.heap.Ns mainGlobals mg) (hb : s₁.heap.Ns builtinsNs mb) (hbb : ∀ x : Str, x ≠ "__name__" → mb x = bootBuiltins x) (hlim : s₁.heap.NoLimit) (hg : s₁.gens = #[])
    (hT : ∀ p ∈ cs, s₁.heap.get? p.2 = some { cls := .none, data := .fields #[] } ∧ K.lookup p.2 = none ∧ PySem.W.CodeHd s₁.heap p.1 p.2)
    (hbm : ∃ (bm : Addr) (ob : Obj), mg "__builtins__" = some (.ref bm) ∧ bm ≠ builtinsNs ∧ s₁.heap.get? bm = some ob ∧ ob.cls = .type "module" ∧ ob.dict = some builtinsNs ∧ ob.data = .plain)
    (ha : s₁.heap.get? a = some { cls := .type "list", data := .seq vs.toArray }) (hi : IntsAre vs ns) (hl : ns.length ≤ sizeLine) (hr : Room k callerA)
    (F : ∀ base : Heap, K.In base → base.Ns mainGlobals mg → (∀ p ∈ cs, TabB base mg p.1 p.2) → FnG P w K mg base CX k fa fd [x] sp) (hbind : ∀ (s : Shared) (u : Value), BindsTo s fd ⟨[u], []⟩ [(x, u)])
    (hka : K.lookup a = none) (hsp : ∀ H : Hp, (∀ p ∈ cs, H p.2 = some (.tbl #[])) → Rd H a (.lst (ns.map V.int)) → sp [.ref a] H (fun v _ => v = .bl true) fun _ _ _ => False)
    (hCX : ∀ H e s', CX [] H s₁ (fun _ _ _ => False) e s' → False) :
    codeAny (model P w) callerA (.call (.ref fa) ⟨[.ref a], []⟩) (fun r s' => r = .ok (.ret (.bool true)) ∧ OldK s₁.heap s'.heap ∧ s'.os = s₁.os ∧ AllBare s'.gens) s₁ := by
  have rv := vals_ints hi
  have tab : ∀ b, b ∈ cs.map (·.2) → s₁.heap.get? b = some { cls := .none, data := .fields #[] } := fun b hb => by
    obtain ⟨p, hp, e⟩ := List.mem_map.mp hb
    rw [← e]
    exact (hT p hp).1
  have aP : a ∉ cs.map (·.2) := fun z => by
    rw [tab a z] at ha
    have z' := congrArg Obj.data (Option.some.inj ha)
    cases z'
  let H : Hp := fun b => if b = a then some (.frz { cls := .type "list", data := .seq vs.toArray } (.lst (ns.map V.int))) else if b ∈ cs.map (·.2) then some (.tbl #[]) else none
  have Ha : H a = some (.frz { cls := .type "list", data := .seq vs.toArray } (.lst (ns.map V.int))) := if_pos rfl
  have HP : ∀ b, b ∈ cs.map (·.2) → H b = some (.tbl #[]) := fun b hb => (if_neg (fun e => aP (by rw [← e]; exact hb))).trans (if_pos hb)
  have Hn : ∀ b, b ≠ a → b ∉ cs.map (·.2) → H b = none := fun b h1 h2 => (if_neg h1).trans (if_neg h2)
  have hok : HOk P w H s₁.heap := fun b u z => by
    by_cases e : b = a
    · subst e
      rw [Ha] at z
      cases z
      exact ⟨ha, by rw [List.length_map]; exact hl, vs, _, rv, ha⟩
    · by_cases e2 : b ∈ cs.map (·.2)
      · rw [HP b e2] at z
        cases z
        exact tab b e2
      · rw [Hn b e e2] at z; cases z
  have far : ∀ {b : Addr} {o : Obj}, s₁.heap.get? b = some o → (∀ vs n, o.data ≠ .seq vs n) → o.data ≠ .fields #[] → H b = none := fun {b o} e h1 h2 => Hn b (fun z => by
    subst z
    rw [ha] at e
    cases e
    exact (h1 _ _ rfl).elim) fun z => by
    rw [tab b z] at e
    cases e
    exact (h2 rfl).elim
  have nsK : ∀ {b : Addr} {m : Str → Option Value}, s₁.heap.Ns b m → (hidT s₁.heap H).Ns b m := fun {b m} ⟨o, es, ep, e, d, r⟩ =>
    ⟨o, es, ep, hidT_get e (far e (fun vs n z => by rw [d] at z; cases z) fun z => by rw [d] at z; cases z), d, r⟩
  have hKb : K.In (hidT s₁.heap H) := fun b o e => hidT_get (KX b o e) (Hn b (fun z => by subst z; rw [hka] at e; cases e) fun z => by
    obtain ⟨p, hp, ep⟩ := List.mem_map.mp z
    rw [← ep, (hT p hp).2.1] at e
    cases e)
  obtain ⟨mc, l1, l2⟩ := hlim
  have hM : L2.Mod K mg (hidT s₁.heap H) := ⟨hKb, nsK hns, ⟨mb, nsK hb, hbb⟩, ⟨mc, nsK l1, l2⟩⟩
  have TB : ∀ p ∈ cs, TabB (hidT s₁.heap H) mg p.1 p.2 := fun p hp => by
    obtain ⟨hT1, _, C⟩ := hT p hp
    refine ⟨?_, ?_, fun z => ?_⟩
    · obtain ⟨o, us, file, tf, flags, tg, inF, text, tt, e1, r1, r2, r3, r4⟩ := C
      refine ⟨o, us, file, tf, flags, tg, inF, text, tt, hidT_get e1 (far e1 (fun vs n z => by rw [r2] at z; cases z) fun z => ?_), r1, r2, r3, r4⟩
      rw [r2] at z
      cases z
      simp at r3
    · obtain ⟨bm, ob, b1, b2, b3, b4, b5, b6⟩ := hbm
      refine ⟨bm, ob, b1, b2, fun q => ?_, fun q => ?_, hidT_get b3 (far b3 (fun vs n z => by rw [b6] at z; cases z) fun z => by rw [b6] at z; cases z), b4, b5, b6⟩
      · obtain ⟨o, es, ep, e, hd, _⟩ := hns
        rw [q, e] at b3
        cases b3
        rw [hd] at b6
        cases b6
      · rw [q, hT1] at b3
        cases b3
        cases b6
    · obtain ⟨o, es, ep, e, hd, _⟩ := hns
      rw [z, hT1] at e
      cases e
      cases hd
  have e0 : Env0 P w K mg (hidT s₁.heap H) callerA [] s₁ H := ⟨rfl, hM, fun b o e => of_hidT e, Nat.le_of_eq (hidT_size s₁.heap H), trivial, fun b hb => (by cases (show b ∈ ([] : List Addr) from hb)), hok, .of_eq hg⟩
  have called := (F (hidT s₁.heap H) hKb (nsK hns) TB).run callerA [] s₁ H ⟨[.ref a], []⟩ [.ref a] [.ref a] (fun v _ => v = .bl true) (fun _ _ _ => False) rfl hr e0 (hbind s₁ (.ref a)) (.cons rfl .nil) (hsp H (fun p hp => HP _ (List.mem_map_of_mem hp)) (.inr ⟨_, Ha⟩))
  refine codeAny_mono called fun r s' h => ?_
  match r, h with
  | .error e, h => exact (hCX H e s' h).elim
  | .ok .next, h => exact False.elim h
  | .ok .brk, h => exact False.elim h
  | .ok .cont, h => exact False.elim h
  | .ok (.ret u), ⟨v, H', os, bare, un, hok', r', q⟩ =>
    subst q
    obtain rfl : u = Value.bool true := r'
    have key : ∀ b o, b ∉ cs.map (·.2) → s₁.heap.get? b = some o → s'.heap.get? b = some o := fun b o nb e => by
      by_cases z : b = a
      · subst z
        obtain ⟨e2, _⟩ := hok' b _ (un.frzs b _ _ Ha)
        rw [ha] at e
        cases e
        exact e2
      · exact un.keep b o e (Hn b z nb) (fun y => by cases (show b ∈ ([] : List Addr) from y)) (by simp)
    have grown : ∀ b, b ∈ cs.map (·.2) → ∃ more : Array Value, s'.heap.get? b = some { cls := .none, data := .fields more } := fun b hb => by
      obtain ⟨more, z⟩ := un.tbls b #[] (HP b hb)
      exact ⟨_, hok' b _ z⟩
    refine ⟨rfl, ⟨fun b o e => ?_, fun b o e => ?_⟩, os, bare⟩
    · by_cases hb : b ∈ cs.map (·.2)
      · obtain ⟨p, hp, ep⟩ := List.mem_map.mp hb
        obtain ⟨more, hm⟩ := grown b hb
        rw [tab b hb] at e
        cases e
        subst ep
        exact .inr (.inl ⟨((hT p hp).2.2.tab (hT p hp).1).isCodeTable, rfl, #[], more, rfl, by rw [Array.empty_append]; exact hm⟩)
      · exact .inl (key b o hb e)
    · by_cases hb : b ∈ cs.map (·.2)
      · obtain ⟨more, hm⟩ := grown b hb
        exact ⟨_, hm⟩
      · exact ⟨o, key b o hb e⟩
theorem walk_ofN {l : PySem.W.OpenLaw} {n k : Nat} {q : Program} {loose : List Str} {XP : (Str → Option Value) → Heap → Prop} {YP : World → Heap → Prop} {d : DefRec} {CX : CXT} {x : Str}
    (hn : l.most = some n) (hn2 : n ≤ sizeLine) (hdf : d.params.defaults = []) (hr : Room k callerA)
    (F : ∀ (w : World) (mg : Str → Option Value) (fa : Addr) (h : Heap), YP w h → h.Ns mainGlobals mg → mg d.name = some (.ref fa) →
      ∃ (K : PySem.W.Frag) (fd : FuncData) (sp : Sp) (cs : List (Addr × Addr)), K.In h ∧ (∀ a o, K.lookup a = some o → o.cls ≠ .type "list") ∧ (∀ p ∈ cs, h.get? p.2 = some { cls := .none, data := .fields #[] } ∧ K.lookup p.2 = none ∧ PySem.W.CodeHd h p.1 p.2) ∧ (∀ (s : Shared) (u : Value), BindsTo s fd ⟨[u], []⟩ [(x, u)]) ∧
        (∀ (H : Hp) (a : Addr) (ns : List Int), ns.length ≤ n → (∀ p ∈ cs, H p.2 = some (.tbl #[])) → Rd H a (.lst (ns.map V.int)) → sp [.ref a] H (fun v _ => v = .bl true) fun _ _ _ => False) ∧
        ∀ base : Heap, K.In base → base.Ns mainGlobals mg → (∀ p ∈ cs, TabB base mg p.1 p.2) → FnG l.prog w K mg base CX k fa fd [x] sp)
    (hCX : ∀ (H : Hp) (s : Shared) (e : Value) (s' : Shared), CX [] H s (fun _ _ _ => False) e s' → False) :
    PySem.W.WalkO q loose XP YP l.row.toRowW d [] (fun f vs => PySem.call f vs) := by
  refine Att.attach_call hn hdf (fun w s₀ s₁ mg mb fa o pm cd doc a vs ns G Y ho hd hcd hmg hobj hints hlen hg => ?_)
  obtain ⟨K, fd, sp, cs, KX, hnl, hT, hb, hsp, hF⟩ := F w mg fa _ Y G.T.g hmg
  have hka : K.lookup a = none := by
    cases e : K.lookup a with
    | none => rfl
    | some ob =>
      have e2 := KX a ob e
      rw [hobj] at e2
      cases e2
      exact absurd rfl (hnl a _ e)
  exact law_callN KX G.T.g G.T.b G.T.builtins G.T.nolimit hg hT G.T.bmain hobj hints (Nat.le_trans hlen hn2) hr hF hb hka (fun H hP hS => hsp H a ns hlen hP hS) (fun H e s' => hCX H s₁ e s')
def tabA (K : PySem.W.Frag) (f : Addr) : Addr × Addr := match K.lookup f with
  | some ⟨_, _, .func fd, _⟩ => (match fd.code with
    | .ref c => (match K.lookup c with
      | some ⟨_, _, .fields vs, _⟩ => (match (vs[11]? : Option Value) with
        | some (.ref P) => (c, P)
        | _ => (0, 0))
      | _ => (0, 0))
    | _ => (0, 0))
  | _ => (0, 0)
def codeB (K : PySem.W.Frag) (f : Addr) : Bool := match K.lookup f with
  | some ⟨_, _, .func fd, _⟩ => (match fd.code with
    | .ref c => c == (tabA K f).1 && PySem.W.codeHdIn K c (tabA K f).2
    | _ => false)
  | _ => false
theorem codeB_hd {K : PySem.W.Frag} {h : Heap} {f : Addr} (X : K.In h) (e : codeB K f = true) : PySem.W.CodeHd h (tabA K f).1 (tabA K f).2 := by
  unfold codeB at e
  split at e
  · split at e
    · obtain ⟨e1, e2⟩ := Bool.and_eq_true_iff.mp e
      have e1 := beq_iff_eq.mp e1
      rw [← e1]
      exact PySem.W.codeHd_of_K X e2
    · cases e
  · cases e
theorem codeB_ok {K : PySem.W.Frag} [HasW K] {h : Heap} {x : Str} {st : Stmt} {f : Addr} {fd : FuncData} (F : FnP K x st f fd) (X : K.In h) (e : codeB K f = true) : fd.code = .ref (tabA K f).1 ∧ PySem.W.CodeHd h (tabA K f).1 (tabA K f).2 := by
  refine ⟨?_, codeB_hd X e⟩
  obtain ⟨oc, od, kV, doc, pm, an, cdv, ct, osl, rfl, lk, hcd⟩ := (fun_of F).ex
  show cdv = _
  unfold codeB at e
  rw [lk] at e
  clear hcd F lk
  cases cdv with
  | ref c =>
    obtain ⟨e1, _⟩ := Bool.and_eq_true_iff.mp e
    rw [← beq_iff_eq.mp e1]
  | _ => exact absurd e (by simp [PySem.W.fnOf])
def tabB : Option Obj → Bool
  | some ⟨.none, none, .fields ps, sl⟩ => ps.isEmpty && sl.isEmpty
  | _ => false
theorem tabB_ok {o : Option Obj} (e : tabB o = true) : o = some { cls := .none, data := .fields #[] } := by
  unfold tabB at e
  split at e
  · rename_i ps sl
    obtain ⟨e1, e2⟩ := Bool.and_eq_true_iff.mp e
    rw [Array.isEmpty_iff] at e1 e2
    subst e1
    subst e2
    rfl
  · cases e
end Pd
namespace Gk10
open PySem PySem.Spec PyProof.Rows L2 Pd
def top (i : Nat) : Stmt := PySem.Challenge.pw_twainwork_k10_inputs_looked_at.main.body.getD i (.Pass ⟨0, 0, 0, 0⟩)
abbrev c_MOST_LETTERS : D := .int 6
abbrev c_KEYS : D := .tuple [.str "let", .str "open", .str "ask", .str "say", .str "if", .str "else", .str "while", .str "east", .str "west", .str "kept", .str "mark", .str "plus", .str "less", .str "times", .str "under", .str "same", .str "send", .str "take", .str "tell", .str "hear", .str "none"]
abbrev c_LETTERS : D := .str "abcdefghijklmnopqrstuvwxyz"
abbrev c_MOST_INPUTS : D := .int 300
abbrev c_MOST : D := .int 996
abbrev c_MOST_STEPS : D := .int 3000
abbrev tb_BadInputs : List (Str × Bool) := [("TwainError", false), ("BadRow", false), ("BadProgram", false), ("BadInputs", true), ("BadPlacing", false), ("BadOrder", false), ("BadPaper", false), ("Leaking", false), ("OutOfPlace", false), ("TooGreat", false)]
abbrev tb_BadOrder : List (Str × Bool) := [("TwainError", false), ("BadRow", false), ("BadProgram", false), ("BadInputs", false), ("BadPlacing", false), ("BadOrder", true), ("BadPaper", false), ("Leaking", false), ("OutOfPlace", false), ("TooGreat", false)]
abbrev tb_BadPaper : List (Str × Bool) := [("TwainError", false), ("BadRow", false), ("BadProgram", false), ("BadInputs", false), ("BadPlacing", false), ("BadOrder", false), ("BadPaper", true), ("Leaking", false), ("OutOfPlace", false), ("TooGreat", false)]
abbrev tb_BadPlacing : List (Str × Bool) := [("TwainError", false), ("BadRow", false), ("BadProgram", false), ("BadInputs", false), ("BadPlacing", true), ("BadOrder", false), ("BadPaper", false), ("Leaking", false), ("OutOfPlace", false), ("TooGreat", false)]
abbrev tb_BadProgram : List (Str × Bool) := [("TwainError", false), ("BadRow", false), ("BadProgram", true), ("BadInputs", false), ("BadPlacing", false), ("BadOrder", false), ("BadPaper", false), ("Leaking", false), ("OutOfPlace", false), ("TooGreat", false)]
abbrev tb_BadRow : List (Str × Bool) := [("TwainError", false), ("BadRow", true), ("BadProgram", false), ("BadInputs", false), ("BadPlacing", false), ("BadOrder", false), ("BadPaper", false), ("Leaking", false), ("OutOfPlace", false), ("TooGreat", false)]
abbrev tb_Leaking : List (Str × Bool) := [("TwainError", false), ("BadRow", false), ("BadProgram", false), ("BadInputs", false), ("BadPlacing", false), ("BadOrder", false), ("BadPaper", false), ("Leaking", true), ("OutOfPlace", false), ("TooGreat", false)]
abbrev tb_OutOfPlace : List (Str × Bool) := [("TwainError", false), ("BadRow", false), ("BadProgram", false), ("BadInputs", false), ("BadPlacing", false), ("BadOrder", false), ("BadPaper", false), ("Leaking", false), ("OutOfPlace", true), ("TooGreat", false)]
abbrev tb_TooGreat : List (Str × Bool) := [("TwainError", false), ("BadRow", false), ("BadProgram", false), ("BadInputs", false), ("BadPlacing", false), ("BadOrder", false), ("BadPaper", false), ("Leaking", false), ("OutOfPlace", false), ("TooGreat", true)]
abbrev tb_TwainError : List (Str × Bool) := [("TwainError", true), ("BadRow", true), ("BadProgram", true), ("BadInputs", true), ("BadPlacing", true), ("BadOrder", true), ("BadPaper", true), ("Leaking", true), ("OutOfPlace", true), ("TooGreat", true)]
abbrev tb_ValueError : List (Str × Bool) := [("TwainError", true), ("BadRow", true), ("BadProgram", true), ("BadInputs", true), ("BadPlacing", true), ("BadOrder", true), ("BadPaper", true), ("Leaking", true), ("OutOfPlace", true), ("TooGreat", true)]
abbrev ns_place : List Str := ["BadInputs", "BadOrder", "BadPaper"]
abbrev ns_row : List Str := ["BadRow", "BadProgram"]
abbrev s_BadInputs : Stmt := clsAt (top 4) 0
abbrev s_is_whole : Stmt := top 16
abbrev s_is_among : Stmt := top 17
abbrev s_is_name : Stmt := top 18
abbrev s_is_input : Stmt := top 22
abbrev s_need_inputs : Stmt := top 23
abbrev s_need_limit : Stmt := top 24
abbrev s__law_begun : Stmt := top 26
abbrev s__law_pick : Stmt := top 27
abbrev s__law_names : Stmt := top 28
abbrev s__law_kind : Stmt := top 29
abbrev s__law_word : Stmt := top 30
abbrev s__law_good : Stmt := top 31
abbrev s__law_odd : Stmt := top 32
abbrev s__law_any_name : Stmt := top 33
abbrev s__law_many_right : Stmt := top 34
abbrev s_law : Stmt := top 35
def dd (x : Str) (st : Stmt) : He.DefD := ⟨(x, none), x, x, defArgs st, defBody st, defScope st, [], []⟩
def ddM (c m q : Str) (st : Stmt) : He.DefD := ⟨(c, some m), m, q, defArgs st, defBody st, defScope st, [], []⟩
def fn : List He.DefD := [dd "is_whole" s_is_whole, dd "is_among" s_is_among, dd "is_name" s_is_name, dd "is_input" s_is_input, dd "need_inputs" s_need_inputs, dd "need_limit" s_need_limit, dd "_law_begun" s__law_begun, dd "_law_pick" s__law_pick, dd "_law_names" s__law_names, dd "_law_kind" s__law_kind, dd "_law_word" s__law_word, dd "_law_good" s__law_good, dd "_law_odd" s__law_odd, dd "_law_any_name" s__law_any_name, dd "_law_many_right" s__law_many_right, dd "law" s_law, ddM "BadInputs" "__init__" "BadInputs.__init__" s_BadInputs]
def fa : List He.Fa := ([.glo "is_whole", .glo "is_among", .glo "is_name", .glo "is_input", .glo "need_inputs", .glo "need_limit", .glo "_law_begun", .glo "_law_pick", .glo "_law_names", .glo "_law_kind", .glo "_law_word", .glo "_law_good", .glo "_law_odd", .glo "_law_any_name", .glo "_law_many_right", .glo "law", .free "isinstance", .free "int", .free "bool", .free "str", .free "len", .free "all", .free "tuple", .free "enumerate", .free "abs", .free "range", .free "ValueError", .free "sorted", .free "min", .free "max"] : List He.Fa) ++ ([.glo "BadInputs", .glo "TwainError", .glo "BadOrder", .glo "BadPaper", .glo "BadPlacing", .glo "BadProgram", .glo "BadRow", .glo "Leaking", .glo "OutOfPlace", .glo "TooGreat"] : List He.Fa)
def xc : List (PySem.W.Frag → Bool) := [ownXB "BadInputs", ownXB "OutOfPlace", ownIB "BadInputs", fun K => decide (PySem.W.findIn K (.ref (He.ga K "BadInputs")) "place" = some none), fun K => baseB K (He.ga K "TwainError"), clsTB (fun K => .ref (He.ga K "BadInputs")) tb_BadInputs, clsTB (fun K => .ref (He.ga K "BadOrder")) tb_BadOrder, clsTB (fun K => .ref (He.ga K "BadPaper")) tb_BadPaper, clsTB (fun K => .ref (He.ga K "BadPlacing")) tb_BadPlacing, clsTB (fun K => .ref (He.ga K "BadProgram")) tb_BadProgram, clsTB (fun K => .ref (He.ga K "BadRow")) tb_BadRow, clsTB (fun K => .ref (He.ga K "Leaking")) tb_Leaking, clsTB (fun K => .ref (He.ga K "OutOfPlace")) tb_OutOfPlace, clsTB (fun K => .ref (He.ga K "TooGreat")) tb_TooGreat, clsTB (fun _ => .type "ValueError") tb_ValueError, fldTB "place" ns_place, fldTB "row" ns_row, exmB (fun K => .ref (He.ga K "TwainError")) tb_TwainError, fun K => PySem.W.excIn K (He.ga K "OutOfPlace") He.veBase "ValueError.__new__", fun K => codeB K (He.ga K "law"), fun K => codeB K (He.ga K "_law_many_right"), fun K => decide ([(tabA K (He.ga K "law")).2, (tabA K (He.ga K "_law_many_right")).2].Nodup)]
def gdH : List (Str × D) := [("MOST_LETTERS", c_MOST_LETTERS), ("KEYS", c_KEYS), ("LETTERS", c_LETTERS), ("MOST_INPUTS", c_MOST_INPUTS), ("MOST", c_MOST), ("MOST_STEPS", c_MOST_STEPS)]
abbrev R : PySem.W.OpenRow := PySem.W.OpenLaw.row PySem.Challenge.rw_twainwork_k10_inputs_looked_at
def noT (p : Addr × Obj) : Bool := match p.2.data with
  | .fields ps => !ps.isEmpty
  | _ => true
def noL (p : Addr × Obj) : Bool := (match p.2.cls with
  | .type c => !decide (c = "list")
  | _ => true) && noT p
def obsQ (fa : List He.Fa) (gdH : List (Str × D)) (fn : List He.DefD) (K : PySem.W.Frag) : He.AlD := ((obsP fa gdH fn K).1 && (K.all noL && xc.all fun f => f K), (obsP fa gdH fn K).2)
def SaysQ (fa : List He.Fa) (gdH : List (Str × D)) (fn : List He.DefD) (K : PySem.W.Frag) : Prop := obsQ fa gdH fn K = He.valD fn
def csK (K : PySem.W.Frag) : List (Addr × Addr) := [tabA K (He.ga K "law"), tabA K (He.ga K "_law_many_right")]
def gTab (g : Addr → Option Obj) (a : Addr) : Option Obj := match g a with
  | some o => (if noT (a, o) = true then some o else none)
  | none => none
theorem frT_in {as : List Addr} {h : Heap} : (He.frG (gTab h.get?) as).In h := fun a o e => by
  have e := He.frG_at as e
  unfold gTab at e
  cases q : h.get? a with
  | none => rw [q] at e; cases e
  | some o2 =>
    rw [q] at e
    dsimp only at e
    split at e
    · exact e
    · cases e
def tabsOk (g : Addr → Option Obj) (K : PySem.W.Frag) : Bool := (csK K).all fun p => tabB (g p.2)
def obsT (fa : List He.Fa) (gdH : List (Str × D)) (fn : List He.DefD) (g : Addr → Option Obj) (K : PySem.W.Frag) : He.AlD := ((obsQ fa gdH fn K).1 && tabsOk g K, (obsQ fa gdH fn K).2)
def obsQG (n : Nat) (fa : List He.Fa) (gdH : List (Str × D)) (fn : List He.DefD) (g : Addr → Option Obj) : He.AlD := obsT fa gdH fn g (He.frG (gTab g) (PySem.cStatics :: He.asD g n))
theorem obsT_says {fa : List He.Fa} {gdH : List (Str × D)} {fn : List He.DefD} {g : Addr → Option Obj} {K : PySem.W.Frag} (e : obsT fa gdH fn g K = He.valD fn) : SaysQ fa gdH fn K ∧ tabsOk g K = true := by
  have e1 : ((obsQ fa gdH fn K).1 && tabsOk g K) = true := congrArg (fun z : He.AlD => z.1) e
  have e2 : (obsT fa gdH fn g K).2 = (He.valD fn).2 := congrArg (fun z : He.AlD => z.2) e
  obtain ⟨a, b⟩ := Bool.and_eq_true_iff.mp e1
  exact ⟨Prod.ext a e2, b⟩
theorem tabs_keep {h h' : Heap} {K : PySem.W.Frag} (e : tabsOk h.get? K = true) (k : ∀ b o, h.get? b = some o → h'.get? b = some o) : tabsOk h'.get? K = true := by
  unfold tabsOk at e ⊢
  refine List.all_eq_true.mpr fun p hp => ?_
  have := tabB_ok (List.all_eq_true.mp e p hp)
  rw [k _ _ this]
  rfl
def hookQ (n : Nat) (fa : List He.Fa) (gdH : List (Str × D)) (fn : List He.DefD) : PySem.W.Hook where
  α := He.AlD
  obs := fun s => obsQG n fa gdH fn s.heap.get?
  val := fun _ => He.valD fn
  says := fun _ h => ∃ K : PySem.W.Frag, K.In h ∧ SaysQ fa gdH fn K ∧ tabsOk h.get? K = true
  of := fun _ _ e => ⟨_, frT_in, obsT_says e⟩
  keeps := fun _ _ _ ⟨K, hK, c, t⟩ k => ⟨K, PySem.W.Frag.In.keeps hK k, c, tabs_keep t k⟩
theorem obsQG_eq {n : Nat} {fa : List He.Fa} {gdH : List (Str × D)} {fn : List He.DefD} {g : Addr → Option Obj} {s : Shared} (h : ∀ a, g a = s.heap.get? a) : obsQG n fa gdH fn g = (hookQ n fa gdH fn).obs s := by
  have e : g = s.heap.get? := funext h
  subst e
  rfl
theorem look_memH {K : PySem.W.Frag} {a : Addr} {o : Obj} (h : K.lookup a = some o) : ∃ b, (b, o) ∈ K := by
  induction K with
  | nil => cases h
  | cons p r ih =>
    obtain ⟨b, q⟩ := p
    rw [List.lookup_cons] at h
    split at h
    · cases h
      exact ⟨b, List.mem_cons_self⟩
    · obtain ⟨c, hc⟩ := ih h
      exact ⟨c, List.mem_cons_of_mem _ hc⟩
theorem says_nol {fa : List He.Fa} {gdH : List (Str × D)} {fn : List He.DefD} {K : PySem.W.Frag} (c : SaysQ fa gdH fn K) : ∀ a o, K.lookup a = some o → o.cls ≠ .type "list" := fun a o h e => by
  have c1 : ((obsP fa gdH fn K).1 && (K.all noL && xc.all fun f => f K)) = true := congrArg (fun z : He.AlD => z.1) c
  obtain ⟨b, hb⟩ := look_memH h
  have := List.all_eq_true.mp (Bool.and_eq_true_iff.mp (Bool.and_eq_true_iff.mp c1).2).1 _ hb
  unfold noL at this
  replace this := (Bool.and_eq_true_iff.mp this).1
  dsimp only at this
  rw [e] at this
  simp at this
theorem says_x {fa : List He.Fa} {gdH : List (Str × D)} {fn : List He.DefD} {K : PySem.W.Frag} (c : SaysQ fa gdH fn K) {i : Nat} {f : PySem.W.Frag → Bool} (h : xc[i]? = some f) : f K = true := by
  have c1 : ((obsP fa gdH fn K).1 && (K.all noL && xc.all fun f => f K)) = true := congrArg (fun z : He.AlD => z.1) c
  exact List.all_eq_true.mp (Bool.and_eq_true_iff.mp (Bool.and_eq_true_iff.mp c1).2).2 _ (List.mem_of_getElem? h)
theorem says_p {fa : List He.Fa} {gdH : List (Str × D)} {fn : List He.DefD} {K : PySem.W.Frag} (c : SaysQ fa gdH fn K) : SaysP fa gdH fn K := by
  have c1 : ((obsP fa gdH fn K).1 && (K.all noL && xc.all fun f => f K)) = true := congrArg (fun z : He.AlD => z.1) c
  have c2 : ((obsP fa gdH fn K).1 && (K.all noL && xc.all fun f => f K), (obsP fa gdH fn K).2).2 = (He.valD fn).2 := congrArg Prod.snd c
  exact Prod.ext (Bool.and_eq_true_iff.mp c1).1 c2
theorem says_not {fa : List He.Fa} {gdH : List (Str × D)} {fn : List He.DefD} {K : PySem.W.Frag} {h : Heap} {P0 : Addr} (c : SaysQ fa gdH fn K) (X : K.In h) (hT : h.get? P0 = some { cls := .none, data := .fields #[] }) : K.lookup P0 = none := by
  cases e : K.lookup P0 with
  | none => rfl
  | some o =>
    have c1 : ((obsP fa gdH fn K).1 && (K.all noL && xc.all fun f => f K)) = true := congrArg (fun z : He.AlD => z.1) c
    obtain ⟨b, hb⟩ := look_memH e
    have := List.all_eq_true.mp (Bool.and_eq_true_iff.mp (Bool.and_eq_true_iff.mp c1).2).1 _ hb
    unfold noL at this
    replace this := (Bool.and_eq_true_iff.mp this).2
    have e2 := X _ _ e
    rw [hT] at e2
    have e3 := Option.some.inj e2
    subst e3
    cases this
theorem says_tabs {K : PySem.W.Frag} {h : Heap} (c : SaysQ fa gdH fn K) (X : K.In h) (t : tabsOk h.get? K = true) : ∀ p ∈ csK K, h.get? p.2 = some { cls := .none, data := .fields #[] } ∧ K.lookup p.2 = none ∧ PySem.W.CodeHd h p.1 p.2 := by
  intro p hp
  have h1 := tabB_ok (List.all_eq_true.mp t p hp)
  refine ⟨h1, says_not c X h1, ?_⟩
  simp only [csK, List.mem_cons, List.not_mem_nil, or_false] at hp
  rcases hp with rfl | rfl
  · exact codeB_hd X (says_x c (i := 19) (f := fun K => codeB K (He.ga K "law")) rfl)
  · exact codeB_hd X (says_x c (i := 20) (f := fun K => codeB K (He.ga K "_law_many_right")) rfl)
abbrev hk : PySem.W.Hook := hookQ 4 fa gdH fn
def ob (s : PySem.W.SharedT) : He.AlD := obsQG 4 fa gdH fn (HandSHeadRun.getT s)
theorem ob_eq (s : PySem.W.SharedT) : ob s = hk.obs s.abs := obsQG_eq (HandSHeadRun.getT_eq s)
def loose : List Str := (["TwainError", "BadRow", "BadProgram", "BadInputs", "BadPlacing", "BadOrder", "BadPaper", "Leaking", "OutOfPlace", "TooGreat", "LETTERS", "KEYS", "MOST_LETTERS", "MOST", "is_whole", "is_among", "is_name", "MOST_INPUTS", "MOST_STEPS", "is_input", "need_inputs", "need_limit", "_law_begun", "_law_pick", "_law_names", "_law_kind", "_law_word", "_law_good", "_law_odd", "_law_any_name"] : List Str) ++ (["_law_many_right"] : List Str)
theorem run (w : World) : HandSHeadRun.RunEq R (PySem.W.view R.prog [35]) hk ob 3400 loose w := by
  intro os
  kernel_rfl
end Gk10
set_option Elab.async false
set_option linter.all false
set_option maxRecDepth 100000
set_option maxHeartbeats 2000000
namespace Pd
open PySem PySem.Spec PyProof.Rows L2
section
variable {X : Cx}
end
section
variable {K : PySem.W.Frag} [HasW K] {B : Bs}
inductive ClsTs (K : PySem.W.Frag) : List Addr → List (List (Str × Bool)) → Prop
  | nil : ClsTs K [] []
  | cons {a as ns nss} (h : ClsT K (.ref a) ns) (r : ClsTs K as nss) : ClsTs K (a :: as) (ns :: nss)
end
end Pd
set_option Elab.async false
set_option linter.all false
set_option maxRecDepth 100000
set_option maxHeartbeats 0
namespace Gk10
open PySem PySem.Spec PyProof.Rows L2 Pd RZ
structure FX (mg : Str → Option Value) (K : PySem.W.Frag) [HasW K] : Prop where
  b_isinstance : mg "isinstance" = none
  b_int : mg "int" = none
  b_bool : mg "bool" = none
  b_str : mg "str" = none
  b_len : mg "len" = none
  b_all : mg "all" = none
  b_tuple : mg "tuple" = none
  b_enumerate : mg "enumerate" = none
  b_abs : mg "abs" = none
  b_range : mg "range" = none
  b_ValueError : mg "ValueError" = none
  b_sorted : mg "sorted" = none
  b_min : mg "min" = none
  b_max : mg "max" = none
  g_MOST_LETTERS : GD mg K "MOST_LETTERS" c_MOST_LETTERS
  g_KEYS : GD mg K "KEYS" c_KEYS
  g_LETTERS : GD mg K "LETTERS" c_LETTERS
  g_MOST_INPUTS : GD mg K "MOST_INPUTS" c_MOST_INPUTS
  g_MOST : GD mg K "MOST" c_MOST
  g_MOST_STEPS : GD mg K "MOST_STEPS" c_MOST_STEPS
  m_BadInputs : mg "BadInputs" = some (.ref (He.ga K "BadInputs"))
  t_BadInputs : ClsT K (.ref (He.ga K "BadInputs")) tb_BadInputs
  m_BadOrder : mg "BadOrder" = some (.ref (He.ga K "BadOrder"))
  t_BadOrder : ClsT K (.ref (He.ga K "BadOrder")) tb_BadOrder
  m_BadPaper : mg "BadPaper" = some (.ref (He.ga K "BadPaper"))
  t_BadPaper : ClsT K (.ref (He.ga K "BadPaper")) tb_BadPaper
  m_BadPlacing : mg "BadPlacing" = some (.ref (He.ga K "BadPlacing"))
  t_BadPlacing : ClsT K (.ref (He.ga K "BadPlacing")) tb_BadPlacing
  m_BadProgram : mg "BadProgram" = some (.ref (He.ga K "BadProgram"))
  t_BadProgram : ClsT K (.ref (He.ga K "BadProgram")) tb_BadProgram
  m_BadRow : mg "BadRow" = some (.ref (He.ga K "BadRow"))
  t_BadRow : ClsT K (.ref (He.ga K "BadRow")) tb_BadRow
  m_Leaking : mg "Leaking" = some (.ref (He.ga K "Leaking"))
  t_Leaking : ClsT K (.ref (He.ga K "Leaking")) tb_Leaking
  m_OutOfPlace : mg "OutOfPlace" = some (.ref (He.ga K "OutOfPlace"))
  t_OutOfPlace : ClsT K (.ref (He.ga K "OutOfPlace")) tb_OutOfPlace
  m_TooGreat : mg "TooGreat" = some (.ref (He.ga K "TooGreat"))
  t_TooGreat : ClsT K (.ref (He.ga K "TooGreat")) tb_TooGreat
  t_ValueError : ClsT K (.type "ValueError") tb_ValueError
  f_place : FldT K "place" ns_place
  f_row : FldT K "row" ns_row
  m_TwainError : mg "TwainError" = some (.ref (He.ga K "TwainError"))
  e_TwainError : ExmT K (.ref (He.ga K "TwainError")) tb_TwainError
  x_OutOfPlace : G1 K mg "OutOfPlace"
theorem sc_BadInputs : FnScope ["self", "place"] ["self", "place"] (defScope s_BadInputs) := ⟨rfl, rfl, rfl, by decide +kernel, rfl, by decide +kernel, by decide +kernel⟩
theorem i_BadInputs {P : Program} {mg : Str → Option Value} {K : PySem.W.Frag} [HasW K] {base : Heap} {fd : FuncData} (o : OwnX K "BadInputs") (i : OwnI K "BadInputs") (m : mg "BadInputs" = some (.ref (He.ga K "BadInputs"))) (hbm : mg "TwainError" = some (.ref (He.ga K "TwainError"))) (hB : BaseC K (He.ga K "TwainError")) (n0 : PySem.W.findIn K (.ref (He.ga K "BadInputs")) "place" = some none)
    (F : FunD K "__init__" "BadInputs.__init__" (defArgs s_BadInputs) (defBody s_BadInputs) (defScope s_BadInputs) [] [] (He.ma K (He.ga K "BadInputs") "__init__") fd) : GI P (HasW.w K) K mg base 2 "BadInputs" ["place"] := by
  refine ⟨⟨1, fd, Nat.le_refl _, fun_okG (N := ["self", "place"]) (fun_ofQ F) sc_BadInputs (spI_len rfl) fun cdv A outer s H vs Q E hgd hr h => ?_, F.bindsN fun _ _ _ _ _ _ us hl => match us, hl with | [_, _], _ => rfl⟩, o, i, m⟩
  obtain ⟨a, xs, rfl, hl, e, q⟩ := h
  match xs, hl with
  | [y0], _ =>
    refine ⟨_, PSs.nox (X := cxOf CX0 P (HasW.w K) K mg base ["self", "place"] "BadInputs.__init__" (defScope s_BadInputs) (He.ma K (He.ga K "BadInputs") "__init__") cdv A outer s H E) (pss_cons (ps_expr (pe_binit rfl hbm hB (pa_cons (pv 0) (pa_cons pe_str pa_nil)))) (pss_one (ps_ost (pv 0) (pv 1)))), ?_⟩
    exact init1 o.oex n0 e (veI_ok o.oex e fun _ z => ⟨_, rfl, z⟩) (fun _ _ z => ⟨_, rfl, z⟩) (fun _ _ z => ⟨_, rfl, z⟩) fun d hd => q d hd
abbrev N_is_whole : List Str := ["thing"]
abbrev P_is_whole : List Str := ["thing"]
abbrev N_is_among : List Str := ["thing", "least", "most"]
abbrev P_is_among : List Str := ["thing", "least", "most"]
abbrev N_is_name : List Str := ["thing", "sign"]
abbrev P_is_name : List Str := ["thing"]
abbrev N_is_input : List Str := ["thing", "number"]
abbrev P_is_input : List Str := ["thing"]
abbrev N_need_inputs : List Str := ["thing", "place", "pair"]
abbrev P_need_inputs : List Str := ["thing"]
abbrev N_need_limit : List Str := ["thing"]
abbrev P_need_limit : List Str := ["thing"]
abbrev N__law_begun : List Str := ["_law_script", "_law_k", "_law_cell", "_law_mixed"]
abbrev P__law_begun : List Str := ["_law_script", "_law_k"]
abbrev N__law_pick : List Str := ["_law_state", "_law_many", "_law_digits", "_law_number"]
abbrev P__law_pick : List Str := ["_law_state", "_law_many"]
abbrev N__law_names : List Str := ["_law_state", "_law_many", "_law_letters", "_law_size", "_law_word_here", "_law_k", "_law_at", "_law_start", "_law_by", "_law_signs", "_law_way", "_law_sign"]
abbrev P__law_names : List Str := ["_law_state", "_law_many"]
abbrev N__law_kind : List Str := ["_law_error", "_law_kinds", "_law_told"]
abbrev P__law_kind : List Str := ["_law_error"]
abbrev N__law_word : List Str := ["_law_deed", "_law_error", "_law_found", "caught"]
abbrev P__law_word : List Str := ["_law_deed"]
abbrev N__law_good : List Str := ["_law_state", "_law_names_here", "_law_found", "_law_name", "_law_many", "_law_number"]
abbrev P__law_good : List Str := ["_law_state", "_law_names_here"]
abbrev N__law_odd : List Str := ["_law_state", "_law_name", "_law_some"]
abbrev P__law_odd : List Str := ["_law_state", "_law_name"]
abbrev N__law_any_name : List Str := ["_law_state", "_law_letters", "_law_name", "_law_k", "_law_words", "_law_at", "_law_signs", "_law_plain", "_law_sign"]
abbrev P__law_any_name : List Str := ["_law_state"]
abbrev N__law_many_right : List Str := ["_law_letters", "_law_words", "_law_letter", "_law_pairs", "_law_k", "_law_word_here"]
abbrev P__law_many_right : List Str := []
abbrev N_law : List Str := ["_law_script", "_law_k", "_law_state", "_law_names_here", "_law_good_here", "_law_at", "_law_odd_here", "_law_twice", "_law_name", "_law_is_good", "_law_none", "_law_limit"]
abbrev P_law : List Str := ["_law_script"]
theorem sc_is_whole : FnScope N_is_whole P_is_whole (defScope s_is_whole) := ⟨rfl, rfl, rfl, by decide +kernel, rfl, by decide +kernel, by decide +kernel⟩
def T_is_whole_1 : DT := (dRet (dAndV (dIsi "int" (dVar 0)) (dNotV (dIsi "bool" (dVar 0)))))
def d_is_whole : DT := T_is_whole_1
theorem w_is_whole {P : Program} {mg : Str → Option Value} {K : PySem.W.Frag} [HasW K] {base : Heap} {k : Nat} (fx : FX mg K) {f : Addr} (cdv : Value) (A : Around) (outer : List Env) (s : Shared) (H : Hp) (E : XK) (hgd : A.guards = some []) (hr : Room k (A.deeper (envOfC "is_whole" (defScope s_is_whole) s.heap.objs.size f cdv))) :
    ∃ ts, PSs (cxOf CX0 P (HasW.w K) K mg base N_is_whole "is_whole" (defScope s_is_whole) f cdv A outer s H E).nox (defBody s_is_whole) ts ∧ ∀ B : Bs, B.n = N_is_whole.length → DSok B K ts (d_is_whole) := by
  exact ⟨_, (pss_one (ps_ret (pe_and (pe_callB call_isi rfl fx.b_isinstance boot_isinstance (pa_cons (pv 0) (pa_cons (pe_bltn (v := .ty "int") rfl fx.b_int boot_int rfl) pa_nil))) (pe_one (pe_not (pe_callB call_isi rfl fx.b_isinstance boot_isinstance (pa_cons (pv 0) (pa_cons (pe_bltn (v := .ty "bool") rfl fx.b_bool boot_bool rfl) pa_nil)))))))), fun B hB => (ds_ret (de_andV (de_isi (T := "int") (by decide) de_var) (de_notV (de_isi (T := "bool") (by decide) de_var))))⟩
theorem k_is_whole {P : Program} {mg : Str → Option Value} {K : PySem.W.Frag} [HasW K] {base : Heap} {k : Nat} (fx : FX mg K) {f : Addr} {fd : FuncData} {fs : FS} (F : FnP K "is_whole" s_is_whole f fd) (hm : mg "is_whole" = some (.ref f))
    (law : ∀ as Pk Xk, fs as Pk Xk → as.length = 1 ∧ d_is_whole (fin as Pk) (begin_ as 1)) : GK P (HasW.w K) K mg base (k + 1) "is_whole" P_is_whole (spD K fs) :=
  gk_of F hm sc_is_whole (by decide) (fun _ _ _ _ _ _ us hl => match us, hl with | [_], _ => rfl) (w_is_whole fx) law
theorem sc_is_among : FnScope N_is_among P_is_among (defScope s_is_among) := ⟨rfl, rfl, rfl, by decide +kernel, rfl, by decide +kernel, by decide +kernel⟩
def T_is_among_1 (fs_is_whole : FS) : DT := (dRet (dAndV (dCall fs_is_whole [false] (dCons (dVar 0) dNil) NoX) (dChain gLe gLe (dVar 1) (dVar 0) (dVar 2))))
def d_is_among (fs_is_whole : FS) : DT := (T_is_among_1 fs_is_whole)
theorem w_is_among {P : Program} {mg : Str → Option Value} {K : PySem.W.Frag} [HasW K] {base : Heap} {k : Nat} (fx : FX mg K) {fs_is_whole : FS} (G_is_whole : GK P (HasW.w K) K mg base k "is_whole" P_is_whole (spD K fs_is_whole)) {f : Addr} (cdv : Value) (A : Around) (outer : List Env) (s : Shared) (H : Hp) (E : XK) (hgd : A.guards = some []) (hr : Room k (A.deeper (envOfC "is_among" (defScope s_is_among) s.heap.objs.size f cdv))) :
    ∃ ts, PSs (cxOf CX0 P (HasW.w K) K mg base N_is_among "is_among" (defScope s_is_among) f cdv A outer s H E).nox (defBody s_is_among) ts ∧ ∀ B : Bs, B.n = N_is_among.length → DSok B K ts (d_is_among fs_is_whole) := by
  exact ⟨_, (pss_one (ps_ret (pe_and (Pd.pe_callK G_is_whole hgd hr rfl (pa_cons (pv 0) pa_nil)) (pe_one (pe_chain op_leX op_leX (pv 1) (pv 0) (pv 2)))))), fun B hB => (ds_ret (de_andV (de_callK (da_cons de_var da_nil)) (de_chain opd_ord opd_ord de_var de_var de_var)))⟩
theorem k_is_among {P : Program} {mg : Str → Option Value} {K : PySem.W.Frag} [HasW K] {base : Heap} {k : Nat} (fx : FX mg K) {fs_is_whole : FS} (G_is_whole : GK P (HasW.w K) K mg base k "is_whole" P_is_whole (spD K fs_is_whole)) {f : Addr} {fd : FuncData} {fs : FS} (F : FnP K "is_among" s_is_among f fd) (hm : mg "is_among" = some (.ref f))
    (law : ∀ as Pk Xk, fs as Pk Xk → as.length = 3 ∧ d_is_among fs_is_whole (fin as Pk) (begin_ as 3)) : GK P (HasW.w K) K mg base (k + 1) "is_among" P_is_among (spD K fs) :=
  gk_of F hm sc_is_among (by decide) (fun _ _ _ _ _ _ us hl => match us, hl with | [_, _, _], _ => rfl) (w_is_among fx G_is_whole) law
theorem sc_is_name : FnScope N_is_name P_is_name (defScope s_is_name) := ⟨rfl, rfl, rfl, by decide +kernel, rfl, by decide +kernel, by decide +kernel⟩
def T_is_name_1 : DT := (dIfS (dOr (dNot (dTest (dIsi "str" (dVar 0)))) (dOr (dNot (dTest (dChain gLe gLe (dC (.int 1)) (dCB gLen (dCons (dVar 0) dNil)) (dC c_MOST_LETTERS)))) (dTest (dOp gIn (dVar 0) (dC c_KEYS))))) (dRet (dC (.bool false))) dNext)
def T_is_name_2 : DT := (dRet (dCB gAll (dCons (dLc (diSeq (dVar 0)) (gN 1) dYes (dOp gIn (dVar 1) (dC c_LETTERS)) [1]) dNil)))
def d_is_name : DT := (dSeq T_is_name_1
  T_is_name_2)
theorem w_is_name {P : Program} {mg : Str → Option Value} {K : PySem.W.Frag} [HasW K] {base : Heap} {k : Nat} (fx : FX mg K) {f : Addr} (cdv : Value) (A : Around) (outer : List Env) (s : Shared) (H : Hp) (E : XK) (hgd : A.guards = some []) (hr : Room k (A.deeper (envOfC "is_name" (defScope s_is_name) s.heap.objs.size f cdv))) :
    ∃ ts, PSs (cxOf CX0 P (HasW.w K) K mg base N_is_name "is_name" (defScope s_is_name) f cdv A outer s H E).nox (defBody s_is_name) ts ∧ ∀ B : Bs, B.n = N_is_name.length → DSok B K ts (d_is_name) := by
  obtain ⟨u_MOST_LETTERS, v_MOST_LETTERS, g_MOST_LETTERS, r_MOST_LETTERS, d_MOST_LETTERS⟩ := fx.g_MOST_LETTERS
  obtain ⟨u_KEYS, v_KEYS, g_KEYS, r_KEYS, d_KEYS⟩ := fx.g_KEYS
  obtain ⟨u_LETTERS, v_LETTERS, g_LETTERS, r_LETTERS, d_LETTERS⟩ := fx.g_LETTERS
  exact ⟨_, (pss_cons (ps_if (PW.pt (pw_or (pt_not (pt_val (pe_callB call_isi rfl fx.b_isinstance boot_isinstance (pa_cons (pv 0) (pa_cons (pe_bltn (v := .ty "str") rfl fx.b_str boot_str rfl) pa_nil))))) (pw_or (pt_not (pt_chain op_leX op_leX pe_int (pe_callB call_lenX rfl fx.b_len boot_len (pa_cons (pv 0) pa_nil)) (pe_glob rfl g_MOST_LETTERS r_MOST_LETTERS))) (pw_or1 (pt_cmpR (op_inX (hu65 hr)) (pv 0) (pe_glob rfl g_KEYS r_KEYS) (by with_unfolding_all rfl)))))) (pss_one (ps_ret pe_bl)) pss_nil)
  (pss_one (ps_ret (pe_callB (cr_all rfl) rfl fx.b_all boot_all (pa_cons (pe_lc (own := [("sign", 1)]) rfl sc_is_name.nd (pi_seq (pv 0)) (blkOk_by (own := [("sign", 1)]) (N := N_is_name) (sc := defScope s_is_name) (by decide +kernel)) (fun _ _ _ _ _ => (pg_name (i := 1) sc_is_name.nd rfl (Or.inl rfl))) (fun _ _ _ _ _ => pts_nil) (fun _ _ _ _ _ => (pe_cmpR (op_inX (hu65 hr)) (pv 1) (pe_glob rfl g_LETTERS r_LETTERS) (by with_unfolding_all rfl)))) pa_nil))))), fun B hB => (ds_seq (ds_if (db_or (db_not (db_B (de_isi (T := "str") (by decide) de_var))) (db_or (db_not (db_test (de_chain opd_ord opd_ord de_int (de_cb cbd_len (da_cons de_var da_nil)) (de_c d_MOST_LETTERS)))) (db_test (de_op opd_in de_var (de_c d_KEYS))))) (ds_ret de_bl) ds_next)
  (ds_ret (de_cb cbd_all (da_cons (de_lc (vs := [1]) (is := [1]) (di_seq de_var) (dg_name (i := 1) (by rw [hB]; decide)) db_yes (de_op opd_in de_var (de_c d_LETTERS)) (by decide) (by rw [hB]; decide)) da_nil))))⟩
theorem k_is_name {P : Program} {mg : Str → Option Value} {K : PySem.W.Frag} [HasW K] {base : Heap} {k : Nat} (fx : FX mg K) {f : Addr} {fd : FuncData} {fs : FS} (F : FnP K "is_name" s_is_name f fd) (hm : mg "is_name" = some (.ref f))
    (law : ∀ as Pk Xk, fs as Pk Xk → as.length = 1 ∧ d_is_name (fin as Pk) (begin_ as 2)) : GK P (HasW.w K) K mg base (k + 1) "is_name" P_is_name (spD K fs) :=
  gk_of F hm sc_is_name (by decide) (fun _ _ _ _ _ _ us hl => match us, hl with | [_], _ => rfl) (w_is_name fx) law
theorem sc_is_input : FnScope N_is_input P_is_input (defScope s_is_input) := ⟨rfl, rfl, rfl, by decide +kernel, rfl, by decide +kernel, by decide +kernel⟩
def T_is_input_1 (fs_is_name : FS) : DT := (dIfS (dOr (dNot (dTest (dIsi "tuple" (dVar 0)))) (dOr (dTest (dOp gNe (dCB gLen (dCons (dVar 0) dNil)) (dC (.int 2)))) (dNot (dTest (dCall fs_is_name [false] (dCons (dOp gIx (dVar 0) (dC (.int 0))) dNil) NoX))))) (dRet (dC (.bool false))) dNext)
def T_is_input_2 : DT := (dIfS (dOr (dNot (dTest (dIsi "tuple" (dOp gIx (dVar 0) (dC (.int 1)))))) (dTest (dOp gGt (dCB gLen (dCons (dOp gIx (dVar 0) (dC (.int 1))) dNil)) (dC c_MOST_INPUTS)))) (dRet (dC (.bool false))) dNext)
def T_is_input_3 (fs_is_among : FS) : DT := (dRet (dCB gAll (dCons (dLc (diSeq (dOp gIx (dVar 0) (dC (.int 1)))) (gN 1) dYes (dCall fs_is_among [false, false, false] (dCons (dVar 1) (dCons (dC (.int 0)) (dCons (dC c_MOST) dNil))) NoX) [1]) dNil)))
def d_is_input (fs_is_name : FS) (fs_is_among : FS) : DT := (dSeq (T_is_input_1 fs_is_name)
  (dSeq T_is_input_2
  (T_is_input_3 fs_is_among)))
theorem w_is_input {P : Program} {mg : Str → Option Value} {K : PySem.W.Frag} [HasW K] {base : Heap} {k : Nat} (fx : FX mg K) {fs_is_name : FS} (G_is_name : GK P (HasW.w K) K mg base k "is_name" P_is_name (spD K fs_is_name)) {fs_is_among : FS} (G_is_among : GK P (HasW.w K) K mg base k "is_among" P_is_among (spD K fs_is_among)) {f : Addr} (cdv : Value) (A : Around) (outer : List Env) (s : Shared) (H : Hp) (E : XK) (hgd : A.guards = some []) (hr : Room k (A.deeper (envOfC "is_input" (defScope s_is_input) s.heap.objs.size f cdv))) :
    ∃ ts, PSs (cxOf CX0 P (HasW.w K) K mg base N_is_input "is_input" (defScope s_is_input) f cdv A outer s H E).nox (defBody s_is_input) ts ∧ ∀ B : Bs, B.n = N_is_input.length → DSok B K ts (d_is_input fs_is_name fs_is_among) := by
  obtain ⟨u_MOST_INPUTS, v_MOST_INPUTS, g_MOST_INPUTS, r_MOST_INPUTS, d_MOST_INPUTS⟩ := fx.g_MOST_INPUTS
  obtain ⟨u_MOST, v_MOST, g_MOST, r_MOST, d_MOST⟩ := fx.g_MOST
  exact ⟨_, (pss_cons (ps_if (PW.pt (pw_or (pt_not (pt_val (pe_callB call_isi rfl fx.b_isinstance boot_isinstance (pa_cons (pv 0) (pa_cons (pe_bltn (v := .ty "tuple") rfl fx.b_tuple boot_tuple rfl) pa_nil))))) (pw_or (pt_cmpR (op_neX (hu64 hr)) (pe_callB call_lenX rfl fx.b_len boot_len (pa_cons (pv 0) pa_nil)) pe_int (nomark _)) (pw_or1 (pt_not (pt_val (Pd.pe_callK G_is_name hgd hr rfl (pa_cons (pe_ix (ix_any (hu1 hr)) (pv 0) pe_int (fun _ _ => rfl)) pa_nil)))))))) (pss_one (ps_ret pe_bl)) pss_nil)
  (pss_cons (ps_if (PW.pt (pw_or (pt_not (pt_val (pe_callB call_isi rfl fx.b_isinstance boot_isinstance (pa_cons (pe_ix (ix_any (hu1 hr)) (pv 0) pe_int (fun _ _ => rfl)) (pa_cons (pe_bltn (v := .ty "tuple") rfl fx.b_tuple boot_tuple rfl) pa_nil))))) (pw_or1 (pt_cmpR op_gtX (pe_callB call_lenX rfl fx.b_len boot_len (pa_cons (pe_ix (ix_any (hu1 hr)) (pv 0) pe_int (fun _ _ => rfl)) pa_nil)) (pe_glob rfl g_MOST_INPUTS r_MOST_INPUTS) (nomark _))))) (pss_one (ps_ret pe_bl)) pss_nil)
  (pss_one (ps_ret (pe_callB (cr_all rfl) rfl fx.b_all boot_all (pa_cons (pe_lc (own := [("number", 1)]) rfl sc_is_input.nd (pi_seq (pe_ix (ix_any (hu1 hr)) (pv 0) pe_int (fun _ _ => rfl))) (blkOk_by (own := [("number", 1)]) (N := N_is_input) (sc := defScope s_is_input) (by decide +kernel)) (fun _ _ _ _ _ => (pg_name (i := 1) sc_is_input.nd rfl (Or.inl rfl))) (fun _ _ _ _ _ => pts_nil) (fun _ _ _ _ _ => (Pd.pe_callK G_is_among hgd hr rfl (pa_cons (pv 1) (pa_cons pe_int (pa_cons (pe_glob rfl g_MOST r_MOST) pa_nil)))))) pa_nil)))))), fun B hB => (ds_seq (ds_if (db_or (db_not (db_B (de_isi (T := "tuple") (by decide) de_var))) (db_or (db_test (de_op opd_ne (de_cb cbd_len (da_cons de_var da_nil)) de_int)) (db_not (db_B (de_callK (da_cons (de_op opd_ix de_var de_int) da_nil)))))) (ds_ret de_bl) ds_next)
  (ds_seq (ds_if (db_or (db_not (db_B (de_isi (T := "tuple") (by decide) (de_op opd_ix de_var de_int)))) (db_test (de_op opd_ord (de_cb cbd_len (da_cons (de_op opd_ix de_var de_int) da_nil)) (de_c d_MOST_INPUTS)))) (ds_ret de_bl) ds_next)
  (ds_ret (de_cb cbd_all (da_cons (de_lc (vs := [1]) (is := [1]) (di_seq (de_op opd_ix de_var de_int)) (dg_name (i := 1) (by rw [hB]; decide)) db_yes (de_callK (da_cons de_var (da_cons de_int (da_cons (de_c d_MOST) da_nil)))) (by decide) (by rw [hB]; decide)) da_nil)))))⟩
theorem k_is_input {P : Program} {mg : Str → Option Value} {K : PySem.W.Frag} [HasW K] {base : Heap} {k : Nat} (fx : FX mg K) {fs_is_name : FS} (G_is_name : GK P (HasW.w K) K mg base k "is_name" P_is_name (spD K fs_is_name)) {fs_is_among : FS} (G_is_among : GK P (HasW.w K) K mg base k "is_among" P_is_among (spD K fs_is_among)) {f : Addr} {fd : FuncData} {fs : FS} (F : FnP K "is_input" s_is_input f fd) (hm : mg "is_input" = some (.ref f))
    (law : ∀ as Pk Xk, fs as Pk Xk → as.length = 1 ∧ d_is_input fs_is_name fs_is_among (fin as Pk) (begin_ as 2)) : GK P (HasW.w K) K mg base (k + 1) "is_input" P_is_input (spD K fs) :=
  gk_of F hm sc_is_input (by decide) (fun _ _ _ _ _ _ us hl => match us, hl with | [_], _ => rfl) (w_is_input fx G_is_name G_is_among) law
theorem sc_need_inputs : FnScope N_need_inputs P_need_inputs (defScope s_need_inputs) := ⟨rfl, rfl, rfl, by decide +kernel, rfl, by decide +kernel, by decide +kernel⟩
def T_need_inputs_1 (Y : EX) : DT := (dRaise "BadInputs" ["place"] (dCons (dC .none) dNil) Y)
def T_need_inputs_2 (Y : EX) : DT := (dIfS (dNot (dTest (dIsi "tuple" (dVar 0)))) (T_need_inputs_1 Y) dNext)
def T_need_inputs_3 (Y : EX) : DT := (dRaise "BadInputs" ["place"] (dCons (dVar 1) dNil) Y)
def T_need_inputs_4 (fs_is_input : FS) (Y : EX) : DT := (dIfS (dOr (dNot (dTest (dCall fs_is_input [false] (dCons (dVar 2) dNil) NoX))) (dAnd (dTest (dOp gGt (dVar 1) (dC (.int 0)))) (dTest (dOp gGe (dOp gIx (dOp gIx (dVar 0) (dOp gSub (dVar 1) (dC (.int 1)))) (dC (.int 0))) (dOp gIx (dVar 2) (dC (.int 0))))))) (T_need_inputs_3 Y) dNext)
def T_need_inputs_5 (fs_is_input : FS) (Y : EX) : DT := (dFor (diEnumA (dVar 0)) (gT [1, 2]) (T_need_inputs_4 fs_is_input Y))
def d_need_inputs (fs_is_input : FS) (Y : EX) : DT := (dSeq (T_need_inputs_2 Y)
  (T_need_inputs_5 fs_is_input Y))
theorem w_need_inputs {P : Program} {mg : Str → Option Value} {K : PySem.W.Frag} [HasW K] {base : Heap} {k : Nat} (fx : FX mg K) {fs_is_input : FS} (G_is_input : GK P (HasW.w K) K mg base k "is_input" P_is_input (spD K fs_is_input)) (GI_BadInputs : GI P (HasW.w K) K mg base k "BadInputs" ["place"]) {f : Addr} (cdv : Value) (A : Around) (outer : List Env) (s : Shared) (H : Hp) (E : XK) (hgd : A.guards = some []) (hr : Room k (A.deeper (envOfC "need_inputs" (defScope s_need_inputs) s.heap.objs.size f cdv))) :
    ∃ ts, PSs (cxOf (L2.CX P (HasW.w K)) P (HasW.w K) K mg base N_need_inputs "need_inputs" (defScope s_need_inputs) f cdv A outer s H E) (defBody s_need_inputs) ts ∧ ∀ (B : Bs) (Y : EX), B.n = N_need_inputs.length → XOkW B K (fun cls d _ H => E cls d H) Y → DSok B K ts (d_need_inputs fs_is_input Y) := by
  have tk0 : Takes (cxOf (L2.CX P (HasW.w K)) P (HasW.w K) K mg base N_need_inputs "need_inputs" (defScope s_need_inputs) f cdv A outer s H E) (fun cls d _ H => E cls d H) := takes_of rfl rfl rfl rfl
  have po0 : PassesOwn (model (cxOf (L2.CX P (HasW.w K)) P (HasW.w K) K mg base N_need_inputs "need_inputs" (defScope s_need_inputs) f cdv A outer s H E).prog (cxOf (L2.CX P (HasW.w K)) P (HasW.w K) K mg base N_need_inputs "need_inputs" (defScope s_need_inputs) f cdv A outer s H E).w) (cxOf (L2.CX P (HasW.w K)) P (HasW.w K) K mg base N_need_inputs "need_inputs" (defScope s_need_inputs) f cdv A outer s H E).A (cxOf (L2.CX P (HasW.w K)) P (HasW.w K) K mg base N_need_inputs "need_inputs" (defScope s_need_inputs) f cdv A outer s H E).env (cxOf (L2.CX P (HasW.w K)) P (HasW.w K) K mg base N_need_inputs "need_inputs" (defScope s_need_inputs) f cdv A outer s H E).xe := passes_of rfl
  exact ⟨_, (pss_cons (ps_if (pt_not (pt_val (pe_callB call_isi rfl fx.b_isinstance boot_isinstance (pa_cons (pv 0) (pa_cons (pe_bltn (v := .ty "tuple") rfl fx.b_tuple boot_tuple rfl) pa_nil))))) (pss_one (ps_raise rfl tk0 (pmk_X GI_BadInputs hgd hr rfl (pa_cons pe_non pa_nil)))) pss_nil)
  (pss_one (ps_for po0 rfl (pi_enumN rfl fx.b_enumerate (pa_cons (pv 0) pa_nil)) (pg_tup rfl (pgs_cons (pg_name (i := 1) sc_need_inputs.nd rfl (Or.inl rfl)) (pgs_cons (pg_name (i := 2) sc_need_inputs.nd rfl (Or.inl rfl)) pgs_nil))) (pss_one (ps_if (PW.pt (pw_or (pt_not (pt_val (Pd.pe_callK G_is_input hgd hr rfl (pa_cons (pv 2) pa_nil)))) (pw_or1 (PW.pt (pw_and (pt_cmpR op_gtX (pv 1) pe_int (nomark _)) (pw_and1 (pt_cmpR op_geX (pe_ix (ix_any (hu1 hr)) (pe_ix (ix_any (hu1 hr)) (pv 0) (pe_op op_sub (pv 1) pe_int) (fun _ _ => rfl)) pe_int (fun _ _ => rfl)) (pe_ix (ix_any (hu1 hr)) (pv 2) pe_int (fun _ _ => rfl)) (nomark _)))))))) (pss_one (ps_raise rfl tk0 (pmk_X GI_BadInputs hgd hr rfl (pa_cons (pv 1) pa_nil)))) pss_nil))))), fun B Y hB hE => (ds_seq (ds_if (db_not (db_B (de_isi (T := "tuple") (by decide) de_var))) (ds_raise GI_BadInputs.o.nm (by decide) hE (da_cons de_non da_nil)) ds_next)
  (ds_for (di_enumA de_var) (dg_tup (is := [1, 2]) (by rw [hB]; decide) rfl) (ds_if (db_or (db_not (db_B (de_callK (da_cons de_var da_nil)))) (db_and (db_test (de_op opd_ord de_var de_int)) (db_test (de_op opd_ord (de_op opd_ix (de_op opd_ix de_var (de_op opd_sub de_var de_int)) de_int) (de_op opd_ix de_var de_int))))) (ds_raise GI_BadInputs.o.nm (by decide) hE (da_cons de_var da_nil)) ds_next)))⟩
theorem k_need_inputs {P : Program} {mg : Str → Option Value} {K : PySem.W.Frag} [HasW K] {base : Heap} {k : Nat} (fx : FX mg K) {fs_is_input : FS} (G_is_input : GK P (HasW.w K) K mg base k "is_input" P_is_input (spD K fs_is_input)) (GI_BadInputs : GI P (HasW.w K) K mg base k "BadInputs" ["place"]) {f : Addr} {fd : FuncData} {fs : FS} (F : FnP K "need_inputs" s_need_inputs f fd) (hm : mg "need_inputs" = some (.ref f))
    (law : ∀ as Pk Xk, fs as Pk Xk → as.length = 1 ∧ d_need_inputs fs_is_input (finX as Xk) (fin as Pk) (begin_ as 3)) : GKX P (HasW.w K) K mg base (k + 1) "need_inputs" P_need_inputs (spD K fs) :=
  gkX_of F hm sc_need_inputs (by decide) (fun _ _ _ _ _ _ us hl => match us, hl with | [_], _ => rfl) (w_need_inputs fx G_is_input GI_BadInputs) law
theorem sc_need_limit : FnScope N_need_limit P_need_limit (defScope s_need_limit) := ⟨rfl, rfl, rfl, by decide +kernel, rfl, by decide +kernel, by decide +kernel⟩
def T_need_limit_1 (fs_is_among : FS) (Y : EX) : DT := (dIfS (dNot (dTest (dCall fs_is_among [false, false, false] (dCons (dVar 0) (dCons (dC (.int 0)) (dCons (dC c_MOST_STEPS) dNil))) NoX))) (dRaise1 "OutOfPlace" Y) dNext)
def d_need_limit (fs_is_among : FS) (Y : EX) : DT := (T_need_limit_1 fs_is_among Y)
theorem w_need_limit {P : Program} {mg : Str → Option Value} {K : PySem.W.Frag} [HasW K] {base : Heap} {k : Nat} (fx : FX mg K) {fs_is_among : FS} (G_is_among : GK P (HasW.w K) K mg base k "is_among" P_is_among (spD K fs_is_among)) {f : Addr} (cdv : Value) (A : Around) (outer : List Env) (s : Shared) (H : Hp) (E : XK) (hgd : A.guards = some []) (hr : Room k (A.deeper (envOfC "need_limit" (defScope s_need_limit) s.heap.objs.size f cdv))) :
    ∃ ts, PSs (cxOf (L2.CX P (HasW.w K)) P (HasW.w K) K mg base N_need_limit "need_limit" (defScope s_need_limit) f cdv A outer s H E) (defBody s_need_limit) ts ∧ ∀ (B : Bs) (Y : EX), B.n = N_need_limit.length → XOkW B K (fun cls d _ H => E cls d H) Y → DSok B K ts (d_need_limit fs_is_among Y) := by
  obtain ⟨u_MOST_STEPS, v_MOST_STEPS, g_MOST_STEPS, r_MOST_STEPS, d_MOST_STEPS⟩ := fx.g_MOST_STEPS
  have tk0 : Takes (cxOf (L2.CX P (HasW.w K)) P (HasW.w K) K mg base N_need_limit "need_limit" (defScope s_need_limit) f cdv A outer s H E) (fun cls d _ H => E cls d H) := takes_of rfl rfl rfl rfl
  have po0 : PassesOwn (model (cxOf (L2.CX P (HasW.w K)) P (HasW.w K) K mg base N_need_limit "need_limit" (defScope s_need_limit) f cdv A outer s H E).prog (cxOf (L2.CX P (HasW.w K)) P (HasW.w K) K mg base N_need_limit "need_limit" (defScope s_need_limit) f cdv A outer s H E).w) (cxOf (L2.CX P (HasW.w K)) P (HasW.w K) K mg base N_need_limit "need_limit" (defScope s_need_limit) f cdv A outer s H E).A (cxOf (L2.CX P (HasW.w K)) P (HasW.w K) K mg base N_need_limit "need_limit" (defScope s_need_limit) f cdv A outer s H E).env (cxOf (L2.CX P (HasW.w K)) P (HasW.w K) K mg base N_need_limit "need_limit" (defScope s_need_limit) f cdv A outer s H E).xe := passes_of rfl
  exact ⟨_, (pss_one (ps_if (pt_not (pt_val (Pd.pe_callK G_is_among hgd hr rfl (pa_cons (pv 0) (pa_cons pe_int (pa_cons (pe_glob rfl g_MOST_STEPS r_MOST_STEPS) pa_nil)))))) (pss_one (ps_raise rfl tk0 (pmk_X1 fx.x_OutOfPlace rfl))) pss_nil)), fun B Y hB hE => (ds_if (db_not (db_B (de_callK (da_cons de_var (da_cons de_int (da_cons (de_c d_MOST_STEPS) da_nil)))))) (ds_raise1 fx.x_OutOfPlace.o.nm hE) ds_next)⟩
theorem k_need_limit {P : Program} {mg : Str → Option Value} {K : PySem.W.Frag} [HasW K] {base : Heap} {k : Nat} (fx : FX mg K) {fs_is_among : FS} (G_is_among : GK P (HasW.w K) K mg base k "is_among" P_is_among (spD K fs_is_among)) {f : Addr} {fd : FuncData} {fs : FS} (F : FnP K "need_limit" s_need_limit f fd) (hm : mg "need_limit" = some (.ref f))
    (law : ∀ as Pk Xk, fs as Pk Xk → as.length = 1 ∧ d_need_limit fs_is_among (finX as Xk) (fin as Pk) (begin_ as 1)) : GKX P (HasW.w K) K mg base (k + 1) "need_limit" P_need_limit (spD K fs) :=
  gkX_of F hm sc_need_limit (by decide) (fun _ _ _ _ _ _ us hl => match us, hl with | [_], _ => rfl) (w_need_limit fx G_is_among) law
theorem sc__law_begun : FnScope N__law_begun P__law_begun (defScope s__law_begun) := ⟨rfl, rfl, rfl, by decide +kernel, rfl, by decide +kernel, by decide +kernel⟩
def T__law_begun_1 : DT := (dAsg 2 (dIf (dTest (dChain gLe gLt (dC (.int 0)) (dVar 1) (dCB gLen (dCons (dVar 0) dNil)))) (dOp gIx (dVar 0) (dVar 1)) (dC (.int 5))))
def T__law_begun_2 : DT := (dAsg 3 (dOp gAdd (dOp gAdd (dOp gMod (dVar 2) (dC (.int 1000000007))) (dOp gMulZ (dC (.int 7919)) (dVar 1))) (dC (.int 13))))
def T__law_begun_3 : DT := (dRet (dDisp ((.inr "digits", (dOp gMod (dCB gAbs (dCons (dVar 2) dNil)) (dOp gMulZ (dOp gPow (dC (.int 10)) (dC (.int 60))) (dOp gPow (dC (.int 10)) (dC (.int 60)))))) :: ((.inr "number", (dVar 3)) :: []))))
def T__law_begun_4 : DT := (dIfS (dTest (dOp gGe (dCB gAbs (dCons (dVar 2) dNil)) (dOp gPow (dC (.int 10)) (dC (.int 18))))) T__law_begun_3 dNext)
def T__law_begun_5 : DT := (dRet (dDisp ((.inr "digits", (dC (.int 0))) :: ((.inr "number", (dVar 3)) :: []))))
def d__law_begun : DT := (dSeq T__law_begun_1
  (dSeq T__law_begun_2
  (dSeq T__law_begun_4
  T__law_begun_5)))
theorem w__law_begun {P : Program} {mg : Str → Option Value} {K : PySem.W.Frag} [HasW K] {base : Heap} {k : Nat} (fx : FX mg K) {f : Addr} (cdv : Value) (A : Around) (outer : List Env) (s : Shared) (H : Hp) (E : XK) (hgd : A.guards = some []) (hr : Room k (A.deeper (envOfC "_law_begun" (defScope s__law_begun) s.heap.objs.size f cdv))) :
    ∃ ts, PSs (cxOf CX0 P (HasW.w K) K mg base N__law_begun "_law_begun" (defScope s__law_begun) f cdv A outer s H E).nox (defBody s__law_begun) ts ∧ ∀ B : Bs, B.n = N__law_begun.length → DSok B K ts (d__law_begun) := by
  exact ⟨_, (pss_cons (ps_set (i := 2) sc__law_begun.nd rfl (Or.inl rfl) (pe_ifExp (pt_chain op_leX op_ltX pe_int (pv 1) (pe_callB call_lenX rfl fx.b_len boot_len (pa_cons (pv 0) pa_nil))) (pe_ix (ix_any (hu1 hr)) (pv 0) (pv 1) (fun _ _ => rfl)) pe_int))
  (pss_cons (ps_set (i := 3) sc__law_begun.nd rfl (Or.inl rfl) (pe_op op_addX (pe_op op_addX (pe_op op_mod (pv 2) pe_int) (pe_op op_mulZ pe_int (pv 1))) pe_int))
  (pss_cons (ps_if (pt_cmpR op_geX (pe_callB call_absX rfl fx.b_abs boot_abs (pa_cons (pv 2) pa_nil)) (pe_op op_pow pe_int pe_int) (nomark _)) (pss_one (ps_ret (pe_disp (pps_cons pe_str (pe_op op_mod (pe_callB call_absX rfl fx.b_abs boot_abs (pa_cons (pv 2) pa_nil)) (pe_op op_mulZ (pe_op op_pow pe_int pe_int) (pe_op op_pow pe_int pe_int))) (pps_cons pe_str (pv 3) pps_nil)) rfl rfl (by simp) (by decide)))) pss_nil)
  (pss_one (ps_ret (pe_disp (pps_cons pe_str pe_int (pps_cons pe_str (pv 3) pps_nil)) rfl rfl (by simp) (by decide))))))), fun B hB => (ds_seq (ds_asg (de_if (db_test (de_chain opd_ord opd_ord de_int de_var (de_cb cbd_len (da_cons de_var da_nil)))) (de_op opd_ix de_var de_var) de_int) (by rw [hB]; decide))
  (ds_seq (ds_asg (de_op opd_add (de_op opd_add (de_op opd_mod de_var de_int) (de_op opd_mulZ de_int de_var)) de_int) (by rw [hB]; decide))
  (ds_seq (ds_if (db_test (de_op opd_ord (de_cb cbd_abs (da_cons de_var da_nil)) (de_op opd_pow de_int de_int))) (ds_ret (de_disp ⟨rfl, (de_op opd_mod (de_cb cbd_abs (da_cons de_var da_nil)) (de_op opd_mulZ (de_op opd_pow de_int de_int) (de_op opd_pow de_int de_int))), ⟨rfl, de_var, trivial⟩⟩)) ds_next)
  (ds_ret (de_disp ⟨rfl, de_int, ⟨rfl, de_var, trivial⟩⟩)))))⟩
theorem k__law_begun {P : Program} {mg : Str → Option Value} {K : PySem.W.Frag} [HasW K] {base : Heap} {k : Nat} (fx : FX mg K) {f : Addr} {fd : FuncData} {fs : FS} (F : FnP K "_law_begun" s__law_begun f fd) (hm : mg "_law_begun" = some (.ref f))
    (law : ∀ as Pk Xk, fs as Pk Xk → as.length = 2 ∧ d__law_begun (fin as Pk) (begin_ as 4)) : GK P (HasW.w K) K mg base (k + 1) "_law_begun" P__law_begun (spD K fs) :=
  gk_of F hm sc__law_begun (by decide) (fun _ _ _ _ _ _ us hl => match us, hl with | [_, _], _ => rfl) (w__law_begun fx) law
theorem sc__law_pick : FnScope N__law_pick P__law_pick (defScope s__law_pick) := ⟨rfl, rfl, rfl, by decide +kernel, rfl, by decide +kernel, by decide +kernel⟩
def T__law_pick_1 : DT := (dAsg 2 (dOp gIx (dVar 0) (dC (.str "digits"))))
def T__law_pick_2 : DT := (dDPut 0 (dC (.str "digits")) (dOp gFdiv (dVar 2) (dVar 1)))
def T__law_pick_3 : DT := (dRet (dOp gMod (dVar 2) (dVar 1)))
def T__law_pick_4 : DT := (dIfS (dTest (dOp gGt (dVar 2) (dC (.int 0)))) (dSeq T__law_pick_2
  T__law_pick_3) dNext)
def T__law_pick_5 : DT := (dAsg 3 (dOp gMod (dOp gAdd (dOp gMulZ (dOp gIx (dVar 0) (dC (.str "number"))) (dC (.int 48271))) (dC (.int 11))) (dC (.int 2147483647))))
def T__law_pick_6 : DT := (dDPut 0 (dC (.str "number")) (dVar 3))
def T__law_pick_7 : DT := (dRet (dOp gMod (dOp gFdiv (dOp gMod (dOp gMulZ (dVar 3) (dOp gAdd (dVar 3) (dC (.int 7919)))) (dC (.int 2147483629))) (dC (.int 7))) (dVar 1)))
def d__law_pick : DT := (dSeq T__law_pick_1
  (dSeq T__law_pick_4
  (dSeq T__law_pick_5
  (dSeq T__law_pick_6
  T__law_pick_7))))
theorem w__law_pick {P : Program} {mg : Str → Option Value} {K : PySem.W.Frag} [HasW K] {base : Heap} {k : Nat} (fx : FX mg K) {f : Addr} (cdv : Value) (A : Around) (outer : List Env) (s : Shared) (H : Hp) (E : XK) (hgd : A.guards = some []) (hr : Room k (A.deeper (envOfC "_law_pick" (defScope s__law_pick) s.heap.objs.size f cdv))) :
    ∃ ts, PSs (cxOf CX0 P (HasW.w K) K mg base N__law_pick "_law_pick" (defScope s__law_pick) f cdv A outer s H E).nox (defBody s__law_pick) ts ∧ ∀ B : Bs, B.n = N__law_pick.length → DSok B K ts (d__law_pick) := by
  exact ⟨_, (pss_cons (ps_set (i := 2) sc__law_pick.nd rfl (Or.inl rfl) (pe_ix (ix_any (hu1 hr)) (pv 0) pe_str (fun _ _ => rfl)))
  (pss_cons (ps_if (pt_cmpR op_gtX (pv 2) pe_int (nomark _)) (pss_cons (ps_dput (hu1 hr) (pv 0) pe_str (pe_op op_fdivW (pv 2) (pv 1)) rfl)
  (pss_one (ps_ret (pe_op op_mod (pv 2) (pv 1))))) pss_nil)
  (pss_cons (ps_set (i := 3) sc__law_pick.nd rfl (Or.inl rfl) (pe_op op_mod (pe_op op_addX (pe_op op_mulZ (pe_ix (ix_any (hu1 hr)) (pv 0) pe_str (fun _ _ => rfl)) pe_int) pe_int) pe_int))
  (pss_cons (ps_dput (hu1 hr) (pv 0) pe_str (pv 3) rfl)
  (pss_one (ps_ret (pe_op op_mod (pe_op op_fdivW (pe_op op_mod (pe_op op_mulZ (pv 3) (pe_op op_addX (pv 3) pe_int)) pe_int) pe_int) (pv 1)))))))), fun B hB => (ds_seq (ds_asg (de_op opd_ix de_var de_str) (by rw [hB]; decide))
  (ds_seq (ds_if (db_test (de_op opd_ord de_var de_int)) (ds_seq (ds_dput (de_op opd_fdiv de_var de_var) de_str)
  (ds_ret (de_op opd_mod de_var de_var))) ds_next)
  (ds_seq (ds_asg (de_op opd_mod (de_op opd_add (de_op opd_mulZ (de_op opd_ix de_var de_str) de_int) de_int) de_int) (by rw [hB]; decide))
  (ds_seq (ds_dput de_var de_str)
  (ds_ret (de_op opd_mod (de_op opd_fdiv (de_op opd_mod (de_op opd_mulZ de_var (de_op opd_add de_var de_int)) de_int) de_int) de_var))))))⟩
theorem k__law_pick {P : Program} {mg : Str → Option Value} {K : PySem.W.Frag} [HasW K] {base : Heap} {k : Nat} (fx : FX mg K) {f : Addr} {fd : FuncData} {fs : FS} (F : FnP K "_law_pick" s__law_pick f fd) (hm : mg "_law_pick" = some (.ref f))
    (law : ∀ as Pk Xk, fs as Pk Xk → as.length = 2 ∧ d__law_pick (fin as Pk) (begin_ as 4)) : GK P (HasW.w K) K mg base (k + 1) "_law_pick" P__law_pick (spD K fs) :=
  gk_of F hm sc__law_pick (by decide) (fun _ _ _ _ _ _ us hl => match us, hl with | [_, _], _ => rfl) (w__law_pick fx) law
theorem sc__law_names : FnScope N__law_names P__law_names (defScope s__law_names) := ⟨rfl, rfl, rfl, by decide +kernel, rfl, by decide +kernel, by decide +kernel⟩
def T__law_names_1 : DT := (dAsg 2 (dC (.str "qzbxvjcgy")))
def T__law_names_2 (fs__law_pick : FS) : DT := (dAsg 3 (dCall fs__law_pick [true, false] (dCons (dVar 0) (dCons (dC (.int 4)) dNil)) NoX))
def T__law_names_3 (fs__law_pick : FS) : DT := (dAsg 4 (dM1 gJoin (dC (.str "")) (dLc (diRng1 (dCons (dVar 3) dNil)) (gN 5) dYes (dOp gIx (dVar 2) (dCall fs__law_pick [true, false] (dCons (dVar 0) (dCons (dC (.int 9)) dNil)) NoX)) [5])))
def T__law_names_4 (fs__law_pick : FS) : DT := (dAsg 6 (dCall fs__law_pick [true, false] (dCons (dVar 0) (dCons (dOp gAdd (dVar 3) (dC (.int 1))) dNil)) NoX))
def T__law_names_5 (fs__law_pick : FS) : DT := (dUnp [7, 8] (dTup (dCons (dCall fs__law_pick [true, false] (dCons (dVar 0) (dCons (dC (.int 9)) dNil)) NoX) (dCons (dOp gIx (dLst (dCons (dC (.int 1)) (dCons (dC (.int 2)) (dCons (dC (.int 4)) (dCons (dC (.int 5)) (dCons (dC (.int 7)) (dCons (dC (.int 8)) dNil))))))) (dCall fs__law_pick [true, false] (dCons (dVar 0) (dCons (dC (.int 6)) dNil)) NoX)) dNil))))
def T__law_names_6 : DT := (dAsg 9 (dLc (diRng1 (dCons (dVar 1) dNil)) (gN 5) dYes (dOp gIx (dVar 2) (dOp gMod (dOp gAdd (dVar 7) (dOp gMulZ (dVar 8) (dVar 5))) (dC (.int 9)))) [5]))
def T__law_names_7 (fs__law_pick : FS) : DT := (dAsg 10 (dCall fs__law_pick [true, false] (dCons (dVar 0) (dCons (dC (.int 4)) dNil)) NoX))
def T__law_names_8 : DT := (dRet (dLc (diRng1 (dCons (dVar 1) dNil)) (gN 5) dYes (dOp gMulZ (dOp gIx (dVar 9) (dC (.int 0))) (dOp gSub (dVar 1) (dVar 5))) [5]))
def T__law_names_9 : DT := (dIfS (dTest (dOp gEq (dVar 10) (dC (.int 0)))) T__law_names_8 dNext)
def T__law_names_10 : DT := (dRet (dSl gSl (dSl gSl (dM1 gSplit (dC (.str "cond name number order over row said step steps trace")) (dC (.str " "))) (dPart (dOp gMod (dVar 7) (dC (.int 5)))) dNoPart) dNoPart (dPart (dVar 1))))
def T__law_names_11 : DT := (dIfS (dTest (dOp gEq (dVar 10) (dC (.int 1)))) T__law_names_10 dNext)
def T__law_names_12 : DT := (dRet (dLc (diSeq (dVar 9)) (gN 11) dYes (dOp gAdd (dOp gAdd (dSl gSl (dVar 4) dNoPart (dPart (dVar 6))) (dVar 11)) (dSl gSl (dVar 4) (dPart (dVar 6)) dNoPart)) [11]))
def d__law_names (fs__law_pick : FS) : DT := (dSeq T__law_names_1
  (dSeq (T__law_names_2 fs__law_pick)
  (dSeq (T__law_names_3 fs__law_pick)
  (dSeq (T__law_names_4 fs__law_pick)
  (dSeq (T__law_names_5 fs__law_pick)
  (dSeq T__law_names_6
  (dSeq (T__law_names_7 fs__law_pick)
  (dSeq T__law_names_9
  (dSeq T__law_names_11
  T__law_names_12)))))))))
theorem w__law_names {P : Program} {mg : Str → Option Value} {K : PySem.W.Frag} [HasW K] {base : Heap} {k : Nat} (fx : FX mg K) {fs__law_pick : FS} (G__law_pick : GK P (HasW.w K) K mg base k "_law_pick" P__law_pick (spD K fs__law_pick)) {f : Addr} (cdv : Value) (A : Around) (outer : List Env) (s : Shared) (H : Hp) (E : XK) (hgd : A.guards = some []) (hr : Room k (A.deeper (envOfC "_law_names" (defScope s__law_names) s.heap.objs.size f cdv))) :
    ∃ ts, PSs (cxOf CX0 P (HasW.w K) K mg base N__law_names "_law_names" (defScope s__law_names) f cdv A outer s H E).nox (defBody s__law_names) ts ∧ ∀ B : Bs, B.n = N__law_names.length → DSok B K ts (d__law_names fs__law_pick) := by
  exact ⟨_, (pss_cons (ps_set (i := 2) sc__law_names.nd rfl (Or.inr rfl) pe_str)
  (pss_cons (ps_set (i := 3) sc__law_names.nd rfl (Or.inl rfl) (Pd.pe_callK G__law_pick hgd hr rfl (pa_cons (pv 0) (pa_cons pe_int pa_nil))))
  (pss_cons (ps_set (i := 4) sc__law_names.nd rfl (Or.inr rfl) (pe_join pe_str (pe_lc (own := [("_law_k", 5)]) rfl sc__law_names.nd (pi_range1 rfl fx.b_range (pa_cons (pv 3) pa_nil)) (blkOk_by (own := [("_law_k", 5)]) (N := N__law_names) (sc := defScope s__law_names) (by decide +kernel)) (fun _ _ _ _ _ => (pg_name (i := 5) sc__law_names.nd rfl (Or.inl rfl))) (fun _ _ _ _ _ => pts_nil) (fun _ _ _ _ _ => (pe_ix (ix_any (hu1 hr)) (pv 2) (Pd.pe_callK G__law_pick hgd hr rfl (pa_cons (pv 0) (pa_cons pe_int pa_nil))) (fun _ _ => rfl))))))
  (pss_cons (ps_set (i := 6) sc__law_names.nd rfl (Or.inr rfl) (Pd.pe_callK G__law_pick hgd hr rfl (pa_cons (pv 0) (pa_cons (pe_op op_addX (pv 3) pe_int) pa_nil))))
  (pss_cons (ps_asg (pe_tupN (pa_cons (Pd.pe_callK G__law_pick hgd hr rfl (pa_cons (pv 0) (pa_cons pe_int pa_nil))) (pa_cons (pe_ix (ix_any (hu1 hr)) (pe_lst (pa_cons pe_int (pa_cons pe_int (pa_cons pe_int (pa_cons pe_int (pa_cons pe_int (pa_cons pe_int pa_nil))))))) (Pd.pe_callK G__law_pick hgd hr rfl (pa_cons (pv 0) (pa_cons pe_int pa_nil))) (fun _ _ => rfl)) pa_nil))) (pg_tup rfl (pgs_cons (pg_name (i := 7) sc__law_names.nd rfl (Or.inr rfl)) (pgs_cons (pg_name (i := 8) sc__law_names.nd rfl (Or.inr rfl)) pgs_nil))))
  (pss_cons (ps_set (i := 9) sc__law_names.nd rfl (Or.inr rfl) (pe_lc (own := [("_law_k", 5)]) rfl sc__law_names.nd (pi_range1 rfl fx.b_range (pa_cons (pv 1) pa_nil)) (blkOk_by (own := [("_law_k", 5)]) (N := N__law_names) (sc := defScope s__law_names) (by decide +kernel)) (fun _ _ _ _ _ => (pg_name (i := 5) sc__law_names.nd rfl (Or.inl rfl))) (fun _ _ _ _ _ => pts_nil) (fun _ _ _ _ _ => (pe_ix (ix_any (hu1 hr)) (pv 2) (pe_op op_mod (pe_op op_addX (pv 7) (pe_op op_mulZ (pv 8) (pv 5))) pe_int) (fun _ _ => rfl)))))
  (pss_cons (ps_set (i := 10) sc__law_names.nd rfl (Or.inl rfl) (Pd.pe_callK G__law_pick hgd hr rfl (pa_cons (pv 0) (pa_cons pe_int pa_nil))))
  (pss_cons (ps_if (pt_cmpR (op_eqX (hu64 hr)) (pv 10) pe_int (nomark _)) (pss_one (ps_ret (pe_lc (own := [("_law_k", 5)]) rfl sc__law_names.nd (pi_range1 rfl fx.b_range (pa_cons (pv 1) pa_nil)) (blkOk_by (own := [("_law_k", 5)]) (N := N__law_names) (sc := defScope s__law_names) (by decide +kernel)) (fun _ _ _ _ _ => (pg_name (i := 5) sc__law_names.nd rfl (Or.inl rfl))) (fun _ _ _ _ _ => pts_nil) (fun _ _ _ _ _ => (pe_op op_mulZ (pe_ix (ix_any (hu1 hr)) (pv 9) pe_int (fun _ _ => rfl)) (pe_op op_sub (pv 1) (pv 5))))))) pss_nil)
  (pss_cons (ps_if (pt_cmpR (op_eqX (hu64 hr)) (pv 10) pe_int (nomark _)) (pss_one (ps_ret (pe_slice sl_any (pe_slice sl_any (pe_split pe_str pe_str) (po_some (pe_op op_mod (pv 7) pe_int)) po_none) po_none (po_some (pv 1))))) pss_nil)
  (pss_one (ps_ret (pe_lc (own := [("_law_sign", 11)]) rfl sc__law_names.nd (pi_seq (pv 9)) (blkOk_by (own := [("_law_sign", 11)]) (N := N__law_names) (sc := defScope s__law_names) (by decide +kernel)) (fun _ _ _ _ _ => (pg_name (i := 11) sc__law_names.nd rfl (Or.inl rfl))) (fun _ _ _ _ _ => pts_nil) (fun _ _ _ _ _ => (pe_op op_addX (pe_op op_addX (pe_slice sl_any (pv 4) po_none (po_some (pv 6))) (pv 11)) (pe_slice sl_any (pv 4) (po_some (pv 6)) po_none))))))))))))))), fun B hB => (ds_seq (ds_asg de_str (by rw [hB]; decide))
  (ds_seq (ds_asg (de_callK (da_cons de_var (da_cons de_int da_nil))) (by rw [hB]; decide))
  (ds_seq (ds_asg (de_m1 ms_join de_str (de_lc (vs := [5]) (is := [5]) (di_rng1 (da_cons de_var da_nil)) (dg_name (i := 5) (by rw [hB]; decide)) db_yes (de_op opd_ix de_var (de_callK (da_cons de_var (da_cons de_int da_nil)))) (by decide) (by rw [hB]; decide))) (by rw [hB]; decide))
  (ds_seq (ds_asg (de_callK (da_cons de_var (da_cons (de_op opd_add de_var de_int) da_nil))) (by rw [hB]; decide))
  (ds_seq (ds_unp (is := [7, 8]) (de_tup (da_cons (de_callK (da_cons de_var (da_cons de_int da_nil))) (da_cons (de_op opd_ix (de_lst (da_cons de_int (da_cons de_int (da_cons de_int (da_cons de_int (da_cons de_int (da_cons de_int da_nil))))))) (de_callK (da_cons de_var (da_cons de_int da_nil)))) da_nil))) (by rw [hB]; decide) rfl)
  (ds_seq (ds_asg (de_lc (vs := [5]) (is := [5]) (di_rng1 (da_cons de_var da_nil)) (dg_name (i := 5) (by rw [hB]; decide)) db_yes (de_op opd_ix de_var (de_op opd_mod (de_op opd_add de_var (de_op opd_mulZ de_var de_var)) de_int)) (by decide) (by rw [hB]; decide)) (by rw [hB]; decide))
  (ds_seq (ds_asg (de_callK (da_cons de_var (da_cons de_int da_nil))) (by rw [hB]; decide))
  (ds_seq (ds_if (db_test (de_op opd_eq de_var de_int)) (ds_ret (de_lc (vs := [5]) (is := [5]) (di_rng1 (da_cons de_var da_nil)) (dg_name (i := 5) (by rw [hB]; decide)) db_yes (de_op opd_mulZ (de_op opd_ix de_var de_int) (de_op opd_sub de_var de_var)) (by decide) (by rw [hB]; decide))) ds_next)
  (ds_seq (ds_if (db_test (de_op opd_eq de_var de_int)) (ds_ret (de_sl sld_any (de_sl sld_any (de_m1 ms_split de_str de_str) (do_some (de_op opd_mod de_var de_int)) do_none) do_none (do_some de_var))) ds_next)
  (ds_ret (de_lc (vs := [11]) (is := [11]) (di_seq de_var) (dg_name (i := 11) (by rw [hB]; decide)) db_yes (de_op opd_add (de_op opd_add (de_sl sld_any de_var do_none (do_some de_var)) de_var) (de_sl sld_any de_var (do_some de_var) do_none)) (by decide) (by rw [hB]; decide))))))))))))⟩
theorem k__law_names {P : Program} {mg : Str → Option Value} {K : PySem.W.Frag} [HasW K] {base : Heap} {k : Nat} (fx : FX mg K) {fs__law_pick : FS} (G__law_pick : GK P (HasW.w K) K mg base k "_law_pick" P__law_pick (spD K fs__law_pick)) {f : Addr} {fd : FuncData} {fs : FS} (F : FnP K "_law_names" s__law_names f fd) (hm : mg "_law_names" = some (.ref f))
    (law : ∀ as Pk Xk, fs as Pk Xk → as.length = 2 ∧ d__law_names fs__law_pick (fin as Pk) (begin_ as 12)) : GK P (HasW.w K) K mg base (k + 1) "_law_names" P__law_names (spD K fs) :=
  gk_of F hm sc__law_names (by decide) (fun _ _ _ _ _ _ us hl => match us, hl with | [_, _], _ => rfl) (w__law_names fx G__law_pick) law
theorem sc__law_kind : FnScope N__law_kind P__law_kind (defScope s__law_kind) := ⟨rfl, rfl, rfl, by decide +kernel, rfl, by decide +kernel, by decide +kernel⟩
def T__law_kind_1 : DT := (dAsg 1 (dLst (dCons (dIsC tb_BadProgram (dVar 0)) (dCons (dIsC tb_BadInputs (dVar 0)) (dCons (dIsC tb_OutOfPlace (dVar 0)) dNil)))))
def T__law_kind_2 : DT := (dAsg 1 (dOp gAdd (dVar 1) (dLst (dCons (dIsC tb_BadRow (dVar 0)) (dCons (dIsC tb_BadPlacing (dVar 0)) (dCons (dIsC tb_BadOrder (dVar 0)) dNil))))))
def T__law_kind_3 : DT := (dAsg 1 (dOp gAdd (dVar 1) (dLst (dCons (dIsC tb_BadPaper (dVar 0)) (dCons (dIsC tb_Leaking (dVar 0)) (dCons (dIsC tb_TooGreat (dVar 0)) dNil))))))
def T__law_kind_4 : DT := (dIfS (dOr (dTest (dOp gNe (dLm1 gLcnt (dVar 1) (dC (.bool true))) (dC (.int 1)))) (dNot (dTest (dIsC tb_ValueError (dVar 0))))) (dRet (dC (.str "other"))) dNext)
def T__law_kind_5 : DT := (dAsg 2 (dIf (dTest (dOp gIx (dVar 1) (dC (.int 0)))) (dXFld "row" ns_row (dVar 0)) (dXFld "place" ns_place (dVar 0))))
def T__law_kind_6 : DT := (dRet (dIf (dTest (dIsi "bool" (dVar 2))) (dC (.str "other")) (dTup (dCons (dOp gIx (dLst (dCons (dC (.str "inputs")) (dCons (dC (.str "program")) dNil))) (dCB gInt (dCons (dOp gIx (dVar 1) (dC (.int 0))) dNil))) (dCons (dVar 2) dNil)))))
def T__law_kind_7 : DT := (dIfS (dOr (dTest (dOp gIx (dVar 1) (dC (.int 0)))) (dTest (dOp gIx (dVar 1) (dC (.int 1))))) (dSeq T__law_kind_5
  T__law_kind_6) dNext)
def T__law_kind_8 : DT := (dRet (dOp gIx (dLst (dCons (dC (.str "place")) (dCons (dC (.str "row")) (dCons (dC (.str "placing")) (dCons (dC (.str "order")) (dCons (dC (.str "paper")) (dCons (dC (.str "leaking")) (dCons (dC (.str "great")) dNil)))))))) (dOp gSub (dLm1 gLidx (dVar 1) (dC (.bool true))) (dC (.int 2)))))
def d__law_kind : DT := (dSeq T__law_kind_1
  (dSeq T__law_kind_2
  (dSeq T__law_kind_3
  (dSeq T__law_kind_4
  (dSeq T__law_kind_7
  T__law_kind_8)))))
theorem w__law_kind {P : Program} {mg : Str → Option Value} {K : PySem.W.Frag} [HasW K] {base : Heap} {k : Nat} (fx : FX mg K) {f : Addr} (cdv : Value) (A : Around) (outer : List Env) (s : Shared) (H : Hp) (E : XK) (hgd : A.guards = some []) (hr : Room k (A.deeper (envOfC "_law_kind" (defScope s__law_kind) s.heap.objs.size f cdv))) :
    ∃ ts, PSs (cxOf CX0 P (HasW.w K) K mg base N__law_kind "_law_kind" (defScope s__law_kind) f cdv A outer s H E).nox (defBody s__law_kind) ts ∧ ∀ B : Bs, B.n = N__law_kind.length → DSok B K ts (d__law_kind) := by
  exact ⟨_, (pss_cons (ps_set (i := 1) sc__law_kind.nd rfl (Or.inl rfl) (pe_lst (pa_cons (pe_callB (call_isX (fun _ _ => trivial)) rfl fx.b_isinstance boot_isinstance (pa_cons (pv 0) (pa_cons (pe_glob (v := .ref _) rfl fx.m_BadProgram rfl) pa_nil))) (pa_cons (pe_callB (call_isX (fun _ _ => trivial)) rfl fx.b_isinstance boot_isinstance (pa_cons (pv 0) (pa_cons (pe_glob (v := .ref _) rfl fx.m_BadInputs rfl) pa_nil))) (pa_cons (pe_callB (call_isX (fun _ _ => trivial)) rfl fx.b_isinstance boot_isinstance (pa_cons (pv 0) (pa_cons (pe_glob (v := .ref _) rfl fx.m_OutOfPlace rfl) pa_nil))) pa_nil)))))
  (pss_cons (ps_set (i := 1) sc__law_kind.nd rfl (Or.inl rfl) (pe_op op_addX (pv 1) (pe_lst (pa_cons (pe_callB (call_isX (fun _ _ => trivial)) rfl fx.b_isinstance boot_isinstance (pa_cons (pv 0) (pa_cons (pe_glob (v := .ref _) rfl fx.m_BadRow rfl) pa_nil))) (pa_cons (pe_callB (call_isX (fun _ _ => trivial)) rfl fx.b_isinstance boot_isinstance (pa_cons (pv 0) (pa_cons (pe_glob (v := .ref _) rfl fx.m_BadPlacing rfl) pa_nil))) (pa_cons (pe_callB (call_isX (fun _ _ => trivial)) rfl fx.b_isinstance boot_isinstance (pa_cons (pv 0) (pa_cons (pe_glob (v := .ref _) rfl fx.m_BadOrder rfl) pa_nil))) pa_nil))))))
  (pss_cons (ps_set (i := 1) sc__law_kind.nd rfl (Or.inl rfl) (pe_op op_addX (pv 1) (pe_lst (pa_cons (pe_callB (call_isX (fun _ _ => trivial)) rfl fx.b_isinstance boot_isinstance (pa_cons (pv 0) (pa_cons (pe_glob (v := .ref _) rfl fx.m_BadPaper rfl) pa_nil))) (pa_cons (pe_callB (call_isX (fun _ _ => trivial)) rfl fx.b_isinstance boot_isinstance (pa_cons (pv 0) (pa_cons (pe_glob (v := .ref _) rfl fx.m_Leaking rfl) pa_nil))) (pa_cons (pe_callB (call_isX (fun _ _ => trivial)) rfl fx.b_isinstance boot_isinstance (pa_cons (pv 0) (pa_cons (pe_glob (v := .ref _) rfl fx.m_TooGreat rfl) pa_nil))) pa_nil))))))
  (pss_cons (ps_if (PW.pt (pw_or (pt_cmpR (op_neX (hu64 hr)) (pe_bm PySem.F.plainAttrs_list PySem.F.slot_list_count PySem.F.type_list_count (mt_countD (hu65 hr)) (pv 1) (pa_cons pe_bl pa_nil)) pe_int (nomark _)) (pw_or1 (pt_not (pt_val (pe_callB (call_isX (fun _ _ => trivial)) rfl fx.b_isinstance boot_isinstance (pa_cons (pv 0) (pa_cons (pe_bltn (v := .ty "ValueError") rfl fx.b_ValueError boot_ValueError rfl) pa_nil)))))))) (pss_one (ps_ret pe_str)) pss_nil)
  (pss_cons (ps_if (PW.pt (pw_or (pt_val (pe_ix (ix_any (hu1 hr)) (pv 1) pe_int (fun _ _ => rfl))) (pw_or1 (pt_val (pe_ix (ix_any (hu1 hr)) (pv 1) pe_int (fun _ _ => rfl)))))) (pss_cons (ps_set (i := 2) sc__law_kind.nd rfl (Or.inl rfl) (pe_ifExp (pt_val (pe_ix (ix_any (hu1 hr)) (pv 1) pe_int (fun _ _ => rfl))) (pe_xfld (pv 0)) (pe_xfld (pv 0))))
  (pss_one (ps_ret (pe_ifExp (pt_val (pe_callB call_isi rfl fx.b_isinstance boot_isinstance (pa_cons (pv 2) (pa_cons (pe_bltn (v := .ty "bool") rfl fx.b_bool boot_bool rfl) pa_nil)))) pe_str (pe_tupN (pa_cons (pe_ix (ix_any (hu1 hr)) (pe_lst (pa_cons pe_str (pa_cons pe_str pa_nil))) (pe_callTy call_intX rfl fx.b_int boot_int (pa_cons (pe_ix (ix_any (hu1 hr)) (pv 1) pe_int (fun _ _ => rfl)) pa_nil)) (fun _ _ => rfl)) (pa_cons (pv 2) pa_nil))))))) pss_nil)
  (pss_one (ps_ret (pe_ix (ix_any (hu1 hr)) (pe_lst (pa_cons pe_str (pa_cons pe_str (pa_cons pe_str (pa_cons pe_str (pa_cons pe_str (pa_cons pe_str (pa_cons pe_str pa_nil)))))))) (pe_op op_sub (pe_bm PySem.F.plainAttrs_list PySem.F.slot_list_index PySem.F.type_list_index (mt_indexD (hu65 hr)) (pv 1) (pa_cons pe_bl pa_nil)) pe_int) (fun _ _ => rfl))))))))), fun B hB => (ds_seq (ds_asg (de_lst (da_cons (de_isC (fun _ h => h) fx.t_BadProgram de_var) (da_cons (de_isC (fun _ h => h) fx.t_BadInputs de_var) (da_cons (de_isC (fun _ h => h) fx.t_OutOfPlace de_var) da_nil)))) (by rw [hB]; decide))
  (ds_seq (ds_asg (de_op opd_add de_var (de_lst (da_cons (de_isC (fun _ h => h) fx.t_BadRow de_var) (da_cons (de_isC (fun _ h => h) fx.t_BadPlacing de_var) (da_cons (de_isC (fun _ h => h) fx.t_BadOrder de_var) da_nil))))) (by rw [hB]; decide))
  (ds_seq (ds_asg (de_op opd_add de_var (de_lst (da_cons (de_isC (fun _ h => h) fx.t_BadPaper de_var) (da_cons (de_isC (fun _ h => h) fx.t_Leaking de_var) (da_cons (de_isC (fun _ h => h) fx.t_TooGreat de_var) da_nil))))) (by rw [hB]; decide))
  (ds_seq (ds_if (db_or (db_test (de_op opd_ne (de_lm1 lm_cnt de_var de_bl) de_int)) (db_not (db_B (de_isC (fun _ h => h) fx.t_ValueError de_var)))) (ds_ret de_str) ds_next)
  (ds_seq (ds_if (db_or (db_B (de_op opd_ix de_var de_int)) (db_B (de_op opd_ix de_var de_int))) (ds_seq (ds_asg (de_if (db_B (de_op opd_ix de_var de_int)) (de_xfld fx.f_row de_var) (de_xfld fx.f_place de_var)) (by rw [hB]; decide))
  (ds_ret (de_if (db_B (de_isi (T := "bool") (by decide) de_var)) de_str (de_tup (da_cons (de_op opd_ix (de_lst (da_cons de_str (da_cons de_str da_nil))) (de_cb cbd_int (da_cons (de_op opd_ix de_var de_int) da_nil))) (da_cons de_var da_nil)))))) ds_next)
  (ds_ret (de_op opd_ix (de_lst (da_cons de_str (da_cons de_str (da_cons de_str (da_cons de_str (da_cons de_str (da_cons de_str (da_cons de_str da_nil)))))))) (de_op opd_sub (de_lm1 lm_idx de_var de_bl) de_int))))))))⟩
theorem k__law_kind {P : Program} {mg : Str → Option Value} {K : PySem.W.Frag} [HasW K] {base : Heap} {k : Nat} (fx : FX mg K) {f : Addr} {fd : FuncData} {fs : FS} (F : FnP K "_law_kind" s__law_kind f fd) (hm : mg "_law_kind" = some (.ref f))
    (law : ∀ as Pk Xk, fs as Pk Xk → as.length = 1 ∧ d__law_kind (fin as Pk) (begin_ as 3)) : GK P (HasW.w K) K mg base (k + 1) "_law_kind" P__law_kind (spD K fs) :=
  gk_of F hm sc__law_kind (by decide) (fun _ _ _ _ _ _ us hl => match us, hl with | [_], _ => rfl) (w__law_kind fx) law
theorem sc__law_word : FnScope N__law_word P__law_word (defScope s__law_word) := ⟨rfl, rfl, rfl, by decide +kernel, rfl, by decide +kernel, by decide +kernel⟩
def T__law_word_1 (lf : Addr) (lA : AP) : DT := (dTryK 3 tb_TwainError (fun Y1 => (dAsg 2 (dAct lf lA Y1))) (dAsg 1 (dVar 3)) NoX)
def T__law_word_2 (fs__law_kind : FS) : DT := (dRet (dIf (dTest (dOp gIs (dVar 1) (dC .none))) (dVar 2) (dCall fs__law_kind [false] (dCons (dVar 1) dNil) NoX)))
def d__law_word (fs__law_kind : FS) (lf : Addr) (lA : AP) : DT := (dSeq (dAsg 1 (dC .none))
  (dSeq (dAsg 2 (dC (.str "told")))
  (dSeq (T__law_word_1 lf lA)
  (T__law_word_2 fs__law_kind))))
theorem L__law_word {P : Program} {mg : Str → Option Value} {K : PySem.W.Frag} [HasW K] {base : Heap} {k : Nat} (fx : FX mg K) {fs__law_kind : FS} (G__law_kind : GK P (HasW.w K) K mg base k "_law_kind" P__law_kind (spD K fs__law_kind)) {g : Addr} {CXg : CXT} {N0 : List Str} {q0 : Str} {sc0 : Scope} {f0 : Addr} {cdv0 : Value} {A0 : Around} {outer0 : List Env} {s0 : Shared} {H0 : Hp} {E0 : XK} (cdg : Value) (q : Str) (hgd : A0.guards = some []) : GivesTo2 k ((cxOf CXg P (HasW.w K) K mg base N0 q0 sc0 f0 cdv0 A0 outer0 s0 H0 E0).nox) N__law_word "_law_word" (defScope s__law_word) g cdg (defBody s__law_word) "_law_deed" q (lamTT K q N__law_word.length (d__law_word fs__law_kind)) := by
  refine gives2_of (X := (cxOf CXg P (HasW.w K) K mg base N0 q0 sc0 f0 cdv0 A0 outer0 s0 H0 E0).nox) (by decide) fun f c' s H tl hr act => ?_
  replace hr := hr.mono (Nat.le_succ k)
  exact ⟨_, (pss_cons (ps_set (i := 1) sc__law_word.nd rfl (Or.inl rfl) pe_non)
  (pss_cons (ps_set (i := 2) sc__law_word.nd rfl (Or.inl rfl) pe_str)
  (pss_cons (ps_try_keep (i := 3) rfl rfl sc__law_word.nd rfl rfl ⟨rfl, by decide, .inl fx.m_TwainError⟩ tkN (fun W pn xe tk1 po1 => (by exact (pss_one (ps_set (i := 2) sc__law_word.nd rfl (Or.inl rfl) (act _ _ _ _ _ tk1))))) (fun a pn => (by exact (pss_one (ps_set (i := 1) sc__law_word.nd rfl (Or.inl rfl) (pv 3))))))
  (pss_one (ps_ret (pe_ifExp (pt_cmpR op_isX (pv 1) pe_non (nomark _)) (pv 2) (Pd.pe_callK G__law_kind hgd hr rfl (pa_cons (pv 1) pa_nil)))))))), fun lA B hB hio hc hA => (ds_seq (ds_asg de_non (by rw [hB]; decide))
  (ds_seq (ds_asg de_str (by rw [hB]; decide))
  (ds_seq (ds_tryKL hB (by decide) fx.e_TwainError xokw_no (fun B W Y1 hB hi0 hH hG hE1 => (by rw [hio] at hi0; have hio := hi0; exact (ds_asg (de_act (hA.base hG) hio (hH _ _ hc) hE1) (by rw [hB]; decide)))) (ds_asg de_var (by rw [hB]; decide)))
  (ds_ret (de_if (db_test (de_op opd_is de_var de_non)) de_var (de_callK (da_cons de_var da_nil)))))))⟩
theorem sc__law_good : FnScope N__law_good P__law_good (defScope s__law_good) := ⟨rfl, rfl, rfl, by decide +kernel, rfl, by decide +kernel, by decide +kernel⟩
def T__law_good_1 (fs__law_pick : FS) : DT := (dAsg 4 (dOp gIx (dLst (dCons (dCall fs__law_pick [true, false] (dCons (dVar 0) (dCons (dC (.int 4)) dNil)) NoX) (dCons (dCall fs__law_pick [true, false] (dCons (dVar 0) (dCons (dC (.int 301)) dNil)) NoX) (dCons (dC (.int 300)) dNil)))) (dCB gMin (dCons (dC (.int 2)) (dCons (dOp gFdiv (dCall fs__law_pick [true, false] (dCons (dVar 0) (dCons (dC (.int 9)) dNil)) NoX) (dC (.int 3))) dNil)))))
def T__law_good_2 (fs__law_pick : FS) : DT := (dAsg 5 (dOp gIx (dLst (dCons (dC (.int 0)) (dCons (dC (.int 996)) (dCons (dCall fs__law_pick [true, false] (dCons (dVar 0) (dCons (dC (.int 997)) dNil)) NoX) dNil)))) (dCall fs__law_pick [true, false] (dCons (dVar 0) (dCons (dC (.int 3)) dNil)) NoX)))
def T__law_good_3 : DT := (dDrop (dMu mApp 2 (dCons (dTup (dCons (dVar 3) (dCons (dOp gMulZ (dTup (dCons (dVar 5) dNil)) (dVar 4)) dNil))) dNil)))
def T__law_good_4 (fs__law_pick : FS) : DT := (dFor (diSeq (dCB gSrt (dCons (dVar 1) dNil))) (gN 3) (dSeq (T__law_good_1 fs__law_pick)
  (dSeq (T__law_good_2 fs__law_pick)
  T__law_good_3)))
def d__law_good (fs__law_pick : FS) : DT := (dSeq (dAsg 2 (dLst dNil))
  (dSeq (T__law_good_4 fs__law_pick)
  (dRet (dVar 2))))
theorem w__law_good {P : Program} {mg : Str → Option Value} {K : PySem.W.Frag} [HasW K] {base : Heap} {k : Nat} (fx : FX mg K) {fs__law_pick : FS} (G__law_pick : GK P (HasW.w K) K mg base k "_law_pick" P__law_pick (spD K fs__law_pick)) {f : Addr} (cdv : Value) (A : Around) (outer : List Env) (s : Shared) (H : Hp) (E : XK) (hgd : A.guards = some []) (hr : Room k (A.deeper (envOfC "_law_good" (defScope s__law_good) s.heap.objs.size f cdv))) :
    ∃ ts, PSs (cxOf CX0 P (HasW.w K) K mg base N__law_good "_law_good" (defScope s__law_good) f cdv A outer s H E).nox (defBody s__law_good) ts ∧ ∀ B : Bs, B.n = N__law_good.length → DSok B K ts (d__law_good fs__law_pick) := by
  exact ⟨_, (pss_cons (ps_set (i := 2) sc__law_good.nd rfl (Or.inl rfl) (pe_lst pa_nil))
  (pss_cons (ps_for PassesOwn.never rfl (pi_seq (pe_callB (call_srtX rfl) rfl fx.b_sorted boot_sorted (pa_cons (pv 1) pa_nil))) (pg_name (i := 3) sc__law_good.nd rfl (Or.inl rfl)) (pss_cons (ps_set (i := 4) sc__law_good.nd rfl (Or.inl rfl) (pe_ix (ix_any (hu1 hr)) (pe_lst (pa_cons (Pd.pe_callK G__law_pick hgd hr rfl (pa_cons (pv 0) (pa_cons pe_int pa_nil))) (pa_cons (Pd.pe_callK G__law_pick hgd hr rfl (pa_cons (pv 0) (pa_cons pe_int pa_nil))) (pa_cons pe_int pa_nil)))) (pe_callB (call_minX rfl) rfl fx.b_min boot_min (pa_cons pe_int (pa_cons (pe_op op_fdivW (Pd.pe_callK G__law_pick hgd hr rfl (pa_cons (pv 0) (pa_cons pe_int pa_nil))) pe_int) pa_nil))) (fun _ _ => rfl)))
  (pss_cons (ps_set (i := 5) sc__law_good.nd rfl (Or.inl rfl) (pe_ix (ix_any (hu1 hr)) (pe_lst (pa_cons pe_int (pa_cons pe_int (pa_cons (Pd.pe_callK G__law_pick hgd hr rfl (pa_cons (pv 0) (pa_cons pe_int pa_nil))) pa_nil)))) (Pd.pe_callK G__law_pick hgd hr rfl (pa_cons (pv 0) (pa_cons pe_int pa_nil))) (fun _ _ => rfl)))
  (pss_one (ps_expr (pe_bm PySem.F.plainAttrs_list PySem.F.slot_list_append PySem.F.type_list_append mt_append (pv 2) (pa_cons (pe_tupN (pa_cons (pv 3) (pa_cons (pe_op op_mulZ (pe_tupN (pa_cons (pv 5) pa_nil)) (pv 4)) pa_nil))) pa_nil)))))))
  (pss_one (ps_ret (pv 2))))), fun B hB => (ds_seq (ds_asg (de_lst da_nil) (by rw [hB]; decide))
  (ds_seq (ds_for (di_seq (de_cb cbd_srt (da_cons de_var da_nil))) (dg_name (i := 3) (by rw [hB]; decide)) (ds_seq (ds_asg (de_op opd_ix (de_lst (da_cons (de_callK (da_cons de_var (da_cons de_int da_nil))) (da_cons (de_callK (da_cons de_var (da_cons de_int da_nil))) (da_cons de_int da_nil)))) (de_cb cbd_min (da_cons de_int (da_cons (de_op opd_fdiv (de_callK (da_cons de_var (da_cons de_int da_nil))) de_int) da_nil)))) (by rw [hB]; decide))
  (ds_seq (ds_asg (de_op opd_ix (de_lst (da_cons de_int (da_cons de_int (da_cons (de_callK (da_cons de_var (da_cons de_int da_nil))) da_nil)))) (de_callK (da_cons de_var (da_cons de_int da_nil)))) (by rw [hB]; decide))
  (ds_drop (de_mu mu_app (da_cons (de_tup (da_cons de_var (da_cons (de_op opd_mulZ (de_tup (da_cons de_var da_nil)) de_var) da_nil))) da_nil))))))
  (ds_ret de_var)))⟩
theorem k__law_good {P : Program} {mg : Str → Option Value} {K : PySem.W.Frag} [HasW K] {base : Heap} {k : Nat} (fx : FX mg K) {fs__law_pick : FS} (G__law_pick : GK P (HasW.w K) K mg base k "_law_pick" P__law_pick (spD K fs__law_pick)) {f : Addr} {fd : FuncData} {fs : FS} (F : FnP K "_law_good" s__law_good f fd) (hm : mg "_law_good" = some (.ref f))
    (law : ∀ as Pk Xk, fs as Pk Xk → as.length = 2 ∧ d__law_good fs__law_pick (fin as Pk) (begin_ as 6)) : GK P (HasW.w K) K mg base (k + 1) "_law_good" P__law_good (spD K fs) :=
  gk_of F hm sc__law_good (by decide) (fun _ _ _ _ _ _ us hl => match us, hl with | [_, _], _ => rfl) (w__law_good fx G__law_pick) law
theorem sc__law_odd : FnScope N__law_odd P__law_odd (defScope s__law_odd) := ⟨rfl, rfl, rfl, by decide +kernel, rfl, by decide +kernel, by decide +kernel⟩
def T__law_odd_1 : DT := (dAsg 2 (dLst (dCons (dC .none) (dCons (dTup (dCons (dVar 1) dNil)) (dCons (dLst (dCons (dVar 1) (dCons (dTup dNil) dNil))) (dCons (dTup (dCons (dVar 1) (dCons (dTup dNil) (dCons (dTup dNil) dNil)))) (dCons (dTup (dCons (dVar 1) (dCons (dLst (dCons (dC (.int 1)) dNil)) dNil))) (dCons (dTup (dCons (dVar 1) (dCons (dC .none) dNil))) (dCons (dTup (dCons (dC (.str "")) (dCons (dTup dNil) dNil))) (dCons (dTup (dCons (dOp gAdd (dC (.str "A")) (dSl gSl (dVar 1) dNoPart (dPart (dC (.int 5))))) (dCons (dTup dNil) dNil))) dNil))))))))))
def T__law_odd_2 : DT := (dAsg 2 (dOp gAdd (dVar 2) (dLst (dCons (dTup (dCons (dOp gAdd (dVar 1) (dC (.str "abcdefg"))) (dCons (dTup dNil) dNil))) (dCons (dTup (dCons (dC (.str "say")) (dCons (dTup dNil) dNil))) (dCons (dTup (dCons (dC (.str "east")) (dCons (dTup dNil) dNil))) (dCons (dTup (dCons (dC (.int 5)) (dCons (dTup dNil) dNil))) (dCons (dTup (dCons (dC .none) (dCons (dTup dNil) dNil))) dNil))))))))
def T__law_odd_3 : DT := (dAsg 2 (dOp gAdd (dVar 2) (dLst (dCons (dTup (dCons (dVar 1) (dCons (dTup (dCons (dC (.int 997)) dNil)) dNil))) (dCons (dTup (dCons (dVar 1) (dCons (dTup (dCons (dUn gNeg (dC (.int 1))) dNil)) dNil))) dNil)))))
def T__law_odd_4 : DT := (dAsg 2 (dOp gAdd (dVar 2) (dLst (dCons (dTup (dCons (dVar 1) (dCons (dTup (dCons (dC (.bool true)) dNil)) dNil))) (dCons (dTup (dCons (dVar 1) (dCons (dTup (dCons (dC (.str "1")) dNil)) dNil))) (dCons (dTup (dCons (dVar 1) (dCons (dTup (dCons (dC .none) dNil)) dNil))) (dCons (dTup (dCons (dVar 1) (dCons (dTup (dCons (dTup (dCons (dC (.int 1)) dNil)) dNil)) dNil))) (dCons (dTup (dCons (dVar 1) (dCons (dOp gMulZ (dTup (dCons (dC (.int 0)) dNil)) (dC (.int 301))) dNil))) (dCons (dTup (dCons (dVar 1) (dCons dDNew dNil))) dNil)))))))))
def T__law_odd_5 (fs__law_pick : FS) : DT := (dRet (dOp gIx (dOp gAdd (dVar 2) (dLst (dCons (dTup (dCons (dTup dNil) (dCons (dVar 1) dNil))) (dCons (dTup (dCons (dVar 1) (dCons (dC (.int 1)) dNil))) (dCons (dTup (dCons (dVar 1) (dCons (dTup (dCons (dC (.int 1)) (dCons (dOp gPow (dC (.int 10)) (dC (.int 30))) dNil))) dNil))) (dCons (dC (.str "a")) (dCons dDNew (dCons (dC (.int 7)) dNil)))))))) (dCall fs__law_pick [true, false] (dCons (dVar 0) (dCons (dC (.int 27)) dNil)) NoX)))
def d__law_odd (fs__law_pick : FS) : DT := (dSeq T__law_odd_1
  (dSeq T__law_odd_2
  (dSeq T__law_odd_3
  (dSeq T__law_odd_4
  (T__law_odd_5 fs__law_pick)))))
theorem w__law_odd {P : Program} {mg : Str → Option Value} {K : PySem.W.Frag} [HasW K] {base : Heap} {k : Nat} (fx : FX mg K) {fs__law_pick : FS} (G__law_pick : GK P (HasW.w K) K mg base k "_law_pick" P__law_pick (spD K fs__law_pick)) {f : Addr} (cdv : Value) (A : Around) (outer : List Env) (s : Shared) (H : Hp) (E : XK) (hgd : A.guards = some []) (hr : Room k (A.deeper (envOfC "_law_odd" (defScope s__law_odd) s.heap.objs.size f cdv))) :
    ∃ ts, PSs (cxOf CX0 P (HasW.w K) K mg base N__law_odd "_law_odd" (defScope s__law_odd) f cdv A outer s H E).nox (defBody s__law_odd) ts ∧ ∀ B : Bs, B.n = N__law_odd.length → DSok B K ts (d__law_odd fs__law_pick) := by
  exact ⟨_, (pss_cons (ps_set (i := 2) sc__law_odd.nd rfl (Or.inl rfl) (pe_lst (pa_cons pe_non (pa_cons (pe_tupN (pa_cons (pv 1) pa_nil)) (pa_cons (pe_lst (pa_cons (pv 1) (pa_cons (pe_tupN pa_nil) pa_nil))) (pa_cons (pe_tupN (pa_cons (pv 1) (pa_cons (pe_tupN pa_nil) (pa_cons (pe_tupN pa_nil) pa_nil)))) (pa_cons (pe_tupN (pa_cons (pv 1) (pa_cons (pe_lst (pa_cons pe_int pa_nil)) pa_nil))) (pa_cons (pe_tupN (pa_cons (pv 1) (pa_cons pe_non pa_nil))) (pa_cons (pe_tupN (pa_cons pe_str (pa_cons (pe_tupN pa_nil) pa_nil))) (pa_cons (pe_tupN (pa_cons (pe_op op_addX pe_str (pe_slice sl_any (pv 1) po_none (po_some pe_int))) (pa_cons (pe_tupN pa_nil) pa_nil))) pa_nil))))))))))
  (pss_cons (ps_set (i := 2) sc__law_odd.nd rfl (Or.inl rfl) (pe_op op_addX (pv 2) (pe_lst (pa_cons (pe_tupN (pa_cons (pe_op op_addX (pv 1) pe_str) (pa_cons (pe_tupN pa_nil) pa_nil))) (pa_cons (pe_tupN (pa_cons pe_str (pa_cons (pe_tupN pa_nil) pa_nil))) (pa_cons (pe_tupN (pa_cons pe_str (pa_cons (pe_tupN pa_nil) pa_nil))) (pa_cons (pe_tupN (pa_cons pe_int (pa_cons (pe_tupN pa_nil) pa_nil))) (pa_cons (pe_tupN (pa_cons pe_non (pa_cons (pe_tupN pa_nil) pa_nil))) pa_nil))))))))
  (pss_cons (ps_set (i := 2) sc__law_odd.nd rfl (Or.inl rfl) (pe_op op_addX (pv 2) (pe_lst (pa_cons (pe_tupN (pa_cons (pv 1) (pa_cons (pe_tupN (pa_cons pe_int pa_nil)) pa_nil))) (pa_cons (pe_tupN (pa_cons (pv 1) (pa_cons (pe_tupN (pa_cons (pe_un un_neg pe_int) pa_nil)) pa_nil))) pa_nil)))))
  (pss_cons (ps_set (i := 2) sc__law_odd.nd rfl (Or.inl rfl) (pe_op op_addX (pv 2) (pe_lst (pa_cons (pe_tupN (pa_cons (pv 1) (pa_cons (pe_tupN (pa_cons pe_bl pa_nil)) pa_nil))) (pa_cons (pe_tupN (pa_cons (pv 1) (pa_cons (pe_tupN (pa_cons pe_str pa_nil)) pa_nil))) (pa_cons (pe_tupN (pa_cons (pv 1) (pa_cons (pe_tupN (pa_cons pe_non pa_nil)) pa_nil))) (pa_cons (pe_tupN (pa_cons (pv 1) (pa_cons (pe_tupN (pa_cons (pe_tupN (pa_cons pe_int pa_nil)) pa_nil)) pa_nil))) (pa_cons (pe_tupN (pa_cons (pv 1) (pa_cons (pe_op op_mulZ (pe_tupN (pa_cons pe_int pa_nil)) pe_int) pa_nil))) (pa_cons (pe_tupN (pa_cons (pv 1) (pa_cons pe_dnewK pa_nil))) pa_nil)))))))))
  (pss_one (ps_ret (pe_ix (ix_any (hu1 hr)) (pe_op op_addX (pv 2) (pe_lst (pa_cons (pe_tupN (pa_cons (pe_tupN pa_nil) (pa_cons (pv 1) pa_nil))) (pa_cons (pe_tupN (pa_cons (pv 1) (pa_cons pe_int pa_nil))) (pa_cons (pe_tupN (pa_cons (pv 1) (pa_cons (pe_tupN (pa_cons pe_int (pa_cons (pe_op op_pow pe_int pe_int) pa_nil))) pa_nil))) (pa_cons pe_str (pa_cons pe_dnewK (pa_cons pe_int pa_nil)))))))) (Pd.pe_callK G__law_pick hgd hr rfl (pa_cons (pv 0) (pa_cons pe_int pa_nil))) (fun _ _ => rfl)))))))), fun B hB => (ds_seq (ds_asg (de_lst (da_cons de_non (da_cons (de_tup (da_cons de_var da_nil)) (da_cons (de_lst (da_cons de_var (da_cons (de_tup da_nil) da_nil))) (da_cons (de_tup (da_cons de_var (da_cons (de_tup da_nil) (da_cons (de_tup da_nil) da_nil)))) (da_cons (de_tup (da_cons de_var (da_cons (de_lst (da_cons de_int da_nil)) da_nil))) (da_cons (de_tup (da_cons de_var (da_cons de_non da_nil))) (da_cons (de_tup (da_cons de_str (da_cons (de_tup da_nil) da_nil))) (da_cons (de_tup (da_cons (de_op opd_add de_str (de_sl sld_any de_var do_none (do_some de_int))) (da_cons (de_tup da_nil) da_nil))) da_nil))))))))) (by rw [hB]; decide))
  (ds_seq (ds_asg (de_op opd_add de_var (de_lst (da_cons (de_tup (da_cons (de_op opd_add de_var de_str) (da_cons (de_tup da_nil) da_nil))) (da_cons (de_tup (da_cons de_str (da_cons (de_tup da_nil) da_nil))) (da_cons (de_tup (da_cons de_str (da_cons (de_tup da_nil) da_nil))) (da_cons (de_tup (da_cons de_int (da_cons (de_tup da_nil) da_nil))) (da_cons (de_tup (da_cons de_non (da_cons (de_tup da_nil) da_nil))) da_nil))))))) (by rw [hB]; decide))
  (ds_seq (ds_asg (de_op opd_add de_var (de_lst (da_cons (de_tup (da_cons de_var (da_cons (de_tup (da_cons de_int da_nil)) da_nil))) (da_cons (de_tup (da_cons de_var (da_cons (de_tup (da_cons (de_un und_neg de_int) da_nil)) da_nil))) da_nil)))) (by rw [hB]; decide))
  (ds_seq (ds_asg (de_op opd_add de_var (de_lst (da_cons (de_tup (da_cons de_var (da_cons (de_tup (da_cons de_bl da_nil)) da_nil))) (da_cons (de_tup (da_cons de_var (da_cons (de_tup (da_cons de_str da_nil)) da_nil))) (da_cons (de_tup (da_cons de_var (da_cons (de_tup (da_cons de_non da_nil)) da_nil))) (da_cons (de_tup (da_cons de_var (da_cons (de_tup (da_cons (de_tup (da_cons de_int da_nil)) da_nil)) da_nil))) (da_cons (de_tup (da_cons de_var (da_cons (de_op opd_mulZ (de_tup (da_cons de_int da_nil)) de_int) da_nil))) (da_cons (de_tup (da_cons de_var (da_cons de_dnew da_nil))) da_nil)))))))) (by rw [hB]; decide))
  (ds_ret (de_op opd_ix (de_op opd_add de_var (de_lst (da_cons (de_tup (da_cons (de_tup da_nil) (da_cons de_var da_nil))) (da_cons (de_tup (da_cons de_var (da_cons de_int da_nil))) (da_cons (de_tup (da_cons de_var (da_cons (de_tup (da_cons de_int (da_cons (de_op opd_pow de_int de_int) da_nil))) da_nil))) (da_cons de_str (da_cons de_dnew (da_cons de_int da_nil)))))))) (de_callK (da_cons de_var (da_cons de_int da_nil)))))))))⟩
theorem k__law_odd {P : Program} {mg : Str → Option Value} {K : PySem.W.Frag} [HasW K] {base : Heap} {k : Nat} (fx : FX mg K) {fs__law_pick : FS} (G__law_pick : GK P (HasW.w K) K mg base k "_law_pick" P__law_pick (spD K fs__law_pick)) {f : Addr} {fd : FuncData} {fs : FS} (F : FnP K "_law_odd" s__law_odd f fd) (hm : mg "_law_odd" = some (.ref f))
    (law : ∀ as Pk Xk, fs as Pk Xk → as.length = 2 ∧ d__law_odd fs__law_pick (fin as Pk) (begin_ as 3)) : GK P (HasW.w K) K mg base (k + 1) "_law_odd" P__law_odd (spD K fs) :=
  gk_of F hm sc__law_odd (by decide) (fun _ _ _ _ _ _ us hl => match us, hl with | [_, _], _ => rfl) (w__law_odd fx G__law_pick) law
theorem sc__law_any_name : FnScope N__law_any_name P__law_any_name (defScope s__law_any_name) := ⟨rfl, rfl, rfl, by decide +kernel, rfl, by decide +kernel, by decide +kernel⟩
def T__law_any_name_1 : DT := (dAsg 1 (dC (.str "abcdefghijklmnopqrstuvwxyz")))
def T__law_any_name_2 (fs__law_pick : FS) : DT := (dAsg 2 (dM1 gJoin (dC (.str "")) (dLc (diRng1 (dCons (dOp gAdd (dC (.int 1)) (dCall fs__law_pick [true, false] (dCons (dVar 0) (dCons (dC (.int 6)) dNil)) NoX)) dNil)) (gN 3) dYes (dOp gIx (dVar 1) (dCall fs__law_pick [true, false] (dCons (dVar 0) (dCons (dC (.int 26)) dNil)) NoX)) [3])))
def T__law_any_name_3 : DT := (dAsg 4 (dC (.str "let open ask say if else while east west kept mark plus less times")))
def T__law_any_name_4 : DT := (dAsg 4 (dOp gAdd (dVar 4) (dC (.str " under same send take tell hear none"))))
def T__law_any_name_5 (fs__law_pick : FS) : DT := (dAsg 2 (dOp gIx (dM1 gSplit (dVar 4) (dC (.str " "))) (dCall fs__law_pick [true, false] (dCons (dVar 0) (dCons (dC (.int 21)) dNil)) NoX)))
def T__law_any_name_6 (fs__law_pick : FS) : DT := (dIfS (dTest (dOp gEq (dCall fs__law_pick [true, false] (dCons (dVar 0) (dCons (dC (.int 4)) dNil)) NoX) (dC (.int 0)))) (T__law_any_name_5 fs__law_pick) dNext)
def T__law_any_name_7 (fs__law_pick : FS) : DT := (dAsg 5 (dCall fs__law_pick [true, false] (dCons (dVar 0) (dCons (dCB gLen (dCons (dVar 2) dNil)) dNil)) NoX))
def T__law_any_name_8 : DT := (dAsg 6 (dC (.str "AZ09_- \u000a.~!\"#$&'()*+,/12345678:;<=>?@BCDEFGHIJKLMNOPQRSTUVWXY[\\]^`{|}")))
def T__law_any_name_9 (fs__law_pick : FS) : DT := (dAsg 2 (dOp gAdd (dOp gAdd (dSl gSl (dVar 2) dNoPart (dPart (dVar 5))) (dOp gIx (dVar 6) (dCall fs__law_pick [true, false] (dCons (dVar 0) (dCons (dCB gLen (dCons (dVar 6) dNil)) dNil)) NoX))) (dSl gSl (dVar 2) (dPart (dOp gAdd (dVar 5) (dC (.int 1)))) dNoPart)))
def T__law_any_name_10 (fs__law_pick : FS) : DT := (dIfS (dTest (dOp gEq (dCall fs__law_pick [true, false] (dCons (dVar 0) (dCons (dC (.int 4)) dNil)) NoX) (dC (.int 0)))) (dSeq (T__law_any_name_7 fs__law_pick)
  (dSeq T__law_any_name_8
  (T__law_any_name_9 fs__law_pick))) dNext)
def T__law_any_name_11 : DT := (dAsg 7 (dOp gEq (dLc (diSeq (dVar 2)) (gN 8) (dTest (dOp gNotIn (dVar 8) (dVar 1))) (dVar 8) [8]) (dLst dNil)))
def T__law_any_name_12 : DT := (dRet (dTup (dCons (dVar 2) (dCons (dAndV (dVar 7) (dOp gNotIn (dVar 2) (dM1 gSplit (dVar 4) (dC (.str " "))))) dNil))))
def d__law_any_name (fs__law_pick : FS) : DT := (dSeq T__law_any_name_1
  (dSeq (T__law_any_name_2 fs__law_pick)
  (dSeq T__law_any_name_3
  (dSeq T__law_any_name_4
  (dSeq (T__law_any_name_6 fs__law_pick)
  (dSeq (T__law_any_name_10 fs__law_pick)
  (dSeq T__law_any_name_11
  T__law_any_name_12)))))))
theorem w__law_any_name {P : Program} {mg : Str → Option Value} {K : PySem.W.Frag} [HasW K] {base : Heap} {k : Nat} (fx : FX mg K) {fs__law_pick : FS} (G__law_pick : GK P (HasW.w K) K mg base k "_law_pick" P__law_pick (spD K fs__law_pick)) {f : Addr} (cdv : Value) (A : Around) (outer : List Env) (s : Shared) (H : Hp) (E : XK) (hgd : A.guards = some []) (hr : Room k (A.deeper (envOfC "_law_any_name" (defScope s__law_any_name) s.heap.objs.size f cdv))) :
    ∃ ts, PSs (cxOf CX0 P (HasW.w K) K mg base N__law_any_name "_law_any_name" (defScope s__law_any_name) f cdv A outer s H E).nox (defBody s__law_any_name) ts ∧ ∀ B : Bs, B.n = N__law_any_name.length → DSok B K ts (d__law_any_name fs__law_pick) := by
  exact ⟨_, (pss_cons (ps_set (i := 1) sc__law_any_name.nd rfl (Or.inr rfl) pe_str)
  (pss_cons (ps_set (i := 2) sc__law_any_name.nd rfl (Or.inl rfl) (pe_join pe_str (pe_lc (own := [("_law_k", 3)]) rfl sc__law_any_name.nd (pi_range1 rfl fx.b_range (pa_cons (pe_op op_addX pe_int (Pd.pe_callK G__law_pick hgd hr rfl (pa_cons (pv 0) (pa_cons pe_int pa_nil)))) pa_nil)) (blkOk_by (own := [("_law_k", 3)]) (N := N__law_any_name) (sc := defScope s__law_any_name) (by decide +kernel)) (fun _ _ _ _ _ => (pg_name (i := 3) sc__law_any_name.nd rfl (Or.inl rfl))) (fun _ _ _ _ _ => pts_nil) (fun _ _ _ _ _ => (pe_ix (ix_any (hu1 hr)) (pv 1) (Pd.pe_callK G__law_pick hgd hr rfl (pa_cons (pv 0) (pa_cons pe_int pa_nil))) (fun _ _ => rfl))))))
  (pss_cons (ps_set (i := 4) sc__law_any_name.nd rfl (Or.inl rfl) pe_str)
  (pss_cons (ps_set (i := 4) sc__law_any_name.nd rfl (Or.inl rfl) (pe_op op_addX (pv 4) pe_str))
  (pss_cons (ps_if (pt_cmpR (op_eqX (hu64 hr)) (Pd.pe_callK G__law_pick hgd hr rfl (pa_cons (pv 0) (pa_cons pe_int pa_nil))) pe_int (nomark _)) (pss_one (ps_set (i := 2) sc__law_any_name.nd rfl (Or.inl rfl) (pe_ix (ix_any (hu1 hr)) (pe_split (pv 4) pe_str) (Pd.pe_callK G__law_pick hgd hr rfl (pa_cons (pv 0) (pa_cons pe_int pa_nil))) (fun _ _ => rfl)))) pss_nil)
  (pss_cons (ps_if (pt_cmpR (op_eqX (hu64 hr)) (Pd.pe_callK G__law_pick hgd hr rfl (pa_cons (pv 0) (pa_cons pe_int pa_nil))) pe_int (nomark _)) (pss_cons (ps_set (i := 5) sc__law_any_name.nd rfl (Or.inl rfl) (Pd.pe_callK G__law_pick hgd hr rfl (pa_cons (pv 0) (pa_cons (pe_callB call_lenX rfl fx.b_len boot_len (pa_cons (pv 2) pa_nil)) pa_nil))))
  (pss_cons (ps_set (i := 6) sc__law_any_name.nd rfl (Or.inl rfl) pe_str)
  (pss_one (ps_set (i := 2) sc__law_any_name.nd rfl (Or.inl rfl) (pe_op op_addX (pe_op op_addX (pe_slice sl_any (pv 2) po_none (po_some (pv 5))) (pe_ix (ix_any (hu1 hr)) (pv 6) (Pd.pe_callK G__law_pick hgd hr rfl (pa_cons (pv 0) (pa_cons (pe_callB call_lenX rfl fx.b_len boot_len (pa_cons (pv 6) pa_nil)) pa_nil))) (fun _ _ => rfl))) (pe_slice sl_any (pv 2) (po_some (pe_op op_addX (pv 5) pe_int)) po_none)))))) pss_nil)
  (pss_cons (ps_set (i := 7) sc__law_any_name.nd rfl (Or.inl rfl) (pe_cmpR (op_eqX (hu64 hr)) (pe_lc (own := [("_law_sign", 8)]) rfl sc__law_any_name.nd (pi_seq (pv 2)) (blkOk_by (own := [("_law_sign", 8)]) (N := N__law_any_name) (sc := defScope s__law_any_name) (by decide +kernel)) (fun _ _ _ _ _ => (pg_name (i := 8) sc__law_any_name.nd rfl (Or.inl rfl))) (fun _ _ _ _ _ => (pts_one (pt_cmpR (op_notInX (hu65 hr)) (pv 8) (pv 1) (by with_unfolding_all rfl)))) (fun _ _ _ _ _ => (pv 8))) (pe_lst pa_nil) (nomark _)))
  (pss_one (ps_ret (pe_tupN (pa_cons (pv 2) (pa_cons (pe_and (pv 7) (pe_one (pe_cmpR (op_notInX (hu65 hr)) (pv 2) (pe_split (pv 4) pe_str) (by with_unfolding_all rfl)))) pa_nil)))))))))))), fun B hB => (ds_seq (ds_asg de_str (by rw [hB]; decide))
  (ds_seq (ds_asg (de_m1 ms_join de_str (de_lc (vs := [3]) (is := [3]) (di_rng1 (da_cons (de_op opd_add de_int (de_callK (da_cons de_var (da_cons de_int da_nil)))) da_nil)) (dg_name (i := 3) (by rw [hB]; decide)) db_yes (de_op opd_ix de_var (de_callK (da_cons de_var (da_cons de_int da_nil)))) (by decide) (by rw [hB]; decide))) (by rw [hB]; decide))
  (ds_seq (ds_asg de_str (by rw [hB]; decide))
  (ds_seq (ds_asg (de_op opd_add de_var de_str) (by rw [hB]; decide))
  (ds_seq (ds_if (db_test (de_op opd_eq (de_callK (da_cons de_var (da_cons de_int da_nil))) de_int)) (ds_asg (de_op opd_ix (de_m1 ms_split de_var de_str) (de_callK (da_cons de_var (da_cons de_int da_nil)))) (by rw [hB]; decide)) ds_next)
  (ds_seq (ds_if (db_test (de_op opd_eq (de_callK (da_cons de_var (da_cons de_int da_nil))) de_int)) (ds_seq (ds_asg (de_callK (da_cons de_var (da_cons (de_cb cbd_len (da_cons de_var da_nil)) da_nil))) (by rw [hB]; decide))
  (ds_seq (ds_asg de_str (by rw [hB]; decide))
  (ds_asg (de_op opd_add (de_op opd_add (de_sl sld_any de_var do_none (do_some de_var)) (de_op opd_ix de_var (de_callK (da_cons de_var (da_cons (de_cb cbd_len (da_cons de_var da_nil)) da_nil))))) (de_sl sld_any de_var (do_some (de_op opd_add de_var de_int)) do_none)) (by rw [hB]; decide)))) ds_next)
  (ds_seq (ds_asg (de_op opd_eq (de_lc (vs := [8]) (is := [8]) (di_seq de_var) (dg_name (i := 8) (by rw [hB]; decide)) (db_test (de_op opd_notIn de_var de_var)) de_var (by decide) (by rw [hB]; decide)) (de_lst da_nil)) (by rw [hB]; decide))
  (ds_ret (de_tup (da_cons de_var (da_cons (de_andV de_var (de_op opd_notIn de_var (de_m1 ms_split de_var de_str))) da_nil)))))))))))⟩
theorem k__law_any_name {P : Program} {mg : Str → Option Value} {K : PySem.W.Frag} [HasW K] {base : Heap} {k : Nat} (fx : FX mg K) {fs__law_pick : FS} (G__law_pick : GK P (HasW.w K) K mg base k "_law_pick" P__law_pick (spD K fs__law_pick)) {f : Addr} {fd : FuncData} {fs : FS} (F : FnP K "_law_any_name" s__law_any_name f fd) (hm : mg "_law_any_name" = some (.ref f))
    (law : ∀ as Pk Xk, fs as Pk Xk → as.length = 1 ∧ d__law_any_name fs__law_pick (fin as Pk) (begin_ as 9)) : GK P (HasW.w K) K mg base (k + 1) "_law_any_name" P__law_any_name (spD K fs) :=
  gk_of F hm sc__law_any_name (by decide) (fun _ _ _ _ _ _ us hl => match us, hl with | [_], _ => rfl) (w__law_any_name fx G__law_pick) law
theorem sc__law_many_right : FnScope N__law_many_right P__law_many_right (defScope s__law_many_right) := ⟨rfl, rfl, rfl, by decide +kernel, rfl, by decide +kernel, by decide +kernel⟩
def T__law_many_right_1 : DT := (dAsg 0 (dC (.str "abcdefghijklmnopqrstuvwxyz")))
def T__law_many_right_2 : DT := (dAsg 1 (dOp gAdd (dLc (diSeq (dVar 0)) (gN 2) dYes (dOp gAdd (dC (.str "q")) (dVar 2)) [2]) (dLc (diSeq (dVar 0)) (gN 2) dYes (dOp gAdd (dC (.str "x")) (dVar 2)) [2])))
def T__law_many_right_3 : DT := (dAsg 1 (dOp gAdd (dVar 1) (dLc (diSeq (dVar 0)) (gN 2) dYes (dOp gAdd (dC (.str "z")) (dVar 2)) [2])))
def T__law_many_right_4 : DT := (dAsg 3 (dCB gTupl (dCons (dLc (diEnumA (dVar 1)) (gT [4, 5]) dYes (dTup (dCons (dVar 5) (dCons (dTup (dCons (dVar 4) dNil)) dNil))) [4, 5]) dNil)))
def T__law_many_right_5 (fs__law_kind : FS) (fs_need_inputs : FS) : DT := (dIfS (dTest (dOp gIsnt (dLam 4 (d__law_word fs__law_kind) (fun Y1 => (dCall fs_need_inputs [false] (dCons (dVar 3) dNil) Y1))) (dC .none))) (dRet (dC (.bool false))) dNext)
def T__law_many_right_6 (fs__law_kind : FS) (fs_need_inputs : FS) : DT := (dRet (dOp gEq (dLam 4 (d__law_word fs__law_kind) (fun Y1 => (dCall fs_need_inputs [false] (dCons (dOp gAdd (dVar 3) (dSl gSl (dVar 3) (dPart (dUn gNeg (dC (.int 1)))) dNoPart)) dNil) Y1))) (dTup (dCons (dC (.str "inputs")) (dCons (dC (.int 78)) dNil)))))
def d__law_many_right (fs__law_kind : FS) (fs_need_inputs : FS) : DT := (dSeq T__law_many_right_1
  (dSeq T__law_many_right_2
  (dSeq T__law_many_right_3
  (dSeq T__law_many_right_4
  (dSeq (T__law_many_right_5 fs__law_kind fs_need_inputs)
  (T__law_many_right_6 fs__law_kind fs_need_inputs))))))
abbrev q__law_many_right : Str := (envOfC "_law_many_right" (defScope s__law_many_right) 0 0 .none).qual ++ "<lambda>"
theorem w__law_many_right {P : Program} {mg : Str → Option Value} {K : PySem.W.Frag} [HasW K] {base : Heap} {k : Nat} (fx : FX mg K) {fs__law_kind : FS} (G__law_kind : GK P (HasW.w K) K mg base k "_law_kind" P__law_kind (spD K fs__law_kind)) {fs_need_inputs : FS} (G_need_inputs : GKX P (HasW.w K) K mg base k "need_inputs" P_need_inputs (spD K fs_need_inputs)) {gl__law_word : Addr} {cdl__law_word : Value} (LD__law_word : LamD K mg "_law_word" "_law_deed" N__law_word s__law_word gl__law_word cdl__law_word) {c0 P0 : Addr} (TB : LamX.TabB base mg c0 P0) {f : Addr} (A : Around) (outer : List Env) (s : Shared) (H : Hp) (E : XK) (hgd : A.guards = some []) (hr2 : Room (k + 2) (A.deeper (envOfC "_law_many_right" (defScope s__law_many_right) s.heap.objs.size f (.ref c0)))) :
    ∃ ts, PSs (cxOf CX0 P (HasW.w K) K mg base N__law_many_right "_law_many_right" (defScope s__law_many_right) f (.ref c0) A outer s H E).nox (defBody s__law_many_right) ts ∧ ∀ B : Bs, B.n = N__law_many_right.length → B.tb = [(P0, q__law_many_right)] → DSok B K ts (d__law_many_right fs__law_kind fs_need_inputs) := by
  have hr := hr2.mono (show k ≤ k + 2 by omega)
  exact ⟨_, (pss_cons (ps_set (i := 0) sc__law_many_right.nd rfl (Or.inl rfl) pe_str)
  (pss_cons (ps_set (i := 1) sc__law_many_right.nd rfl (Or.inl rfl) (pe_op op_addX (pe_lc (own := [("_law_letter", 2)]) rfl sc__law_many_right.nd (pi_seq (pv 0)) (blkOk_by (own := [("_law_letter", 2)]) (N := N__law_many_right) (sc := defScope s__law_many_right) (by decide +kernel)) (fun _ _ _ _ _ => (pg_name (i := 2) sc__law_many_right.nd rfl (Or.inl rfl))) (fun _ _ _ _ _ => pts_nil) (fun _ _ _ _ _ => (pe_op op_addX pe_str (pv 2)))) (pe_lc (own := [("_law_letter", 2)]) rfl sc__law_many_right.nd (pi_seq (pv 0)) (blkOk_by (own := [("_law_letter", 2)]) (N := N__law_many_right) (sc := defScope s__law_many_right) (by decide +kernel)) (fun _ _ _ _ _ => (pg_name (i := 2) sc__law_many_right.nd rfl (Or.inl rfl))) (fun _ _ _ _ _ => pts_nil) (fun _ _ _ _ _ => (pe_op op_addX pe_str (pv 2))))))
  (pss_cons (ps_set (i := 1) sc__law_many_right.nd rfl (Or.inl rfl) (pe_op op_addX (pv 1) (pe_lc (own := [("_law_letter", 2)]) rfl sc__law_many_right.nd (pi_seq (pv 0)) (blkOk_by (own := [("_law_letter", 2)]) (N := N__law_many_right) (sc := defScope s__law_many_right) (by decide +kernel)) (fun _ _ _ _ _ => (pg_name (i := 2) sc__law_many_right.nd rfl (Or.inl rfl))) (fun _ _ _ _ _ => pts_nil) (fun _ _ _ _ _ => (pe_op op_addX pe_str (pv 2))))))
  (pss_cons (ps_set (i := 3) sc__law_many_right.nd rfl (Or.inr rfl) (pe_callTy call_tupX rfl fx.b_tuple boot_tuple (pa_cons (pe_lc (g := gTup K 2 (gCons (gName 4) (gCons (gName 5) gNil))) (own := [("_law_k", 4), ("_law_word_here", 5)]) rfl sc__law_many_right.nd (pi_enumN rfl fx.b_enumerate (pa_cons (pv 1) pa_nil)) (blkOk_by (own := [("_law_k", 4), ("_law_word_here", 5)]) (N := N__law_many_right) (sc := defScope s__law_many_right) (by decide +kernel)) (fun _ _ _ _ _ => (pg_tup rfl (pgs_cons (pg_name (i := 4) sc__law_many_right.nd rfl (Or.inl rfl)) (pgs_cons (pg_name (i := 5) sc__law_many_right.nd rfl (Or.inl rfl)) pgs_nil)))) (fun _ _ _ _ _ => pts_nil) (fun _ _ _ _ _ => (pe_tupN (pa_cons (pv 5) (pa_cons (pe_tupN (pa_cons (pv 4) pa_nil)) pa_nil))))) pa_nil)))
  (pss_cons (ps_if (pt_cmpR op_isntX (pe_lamK LD__law_word (L__law_word fx G__law_kind _ _ hgd) rfl TB rfl hr2 hgd (LamX.lamS_by (sc := defScope s__law_many_right) (by decide +kernel)) rfl (fun _ _ _ _ _ => rfl) (fun A outer s H E f c' hgd hr => (by exact pe_tk (W := fun cls d _ H => E cls d H) (takes_of rfl rfl rfl rfl) fun tk1 => (Pd.pe_callX G_need_inputs tk1 hgd hr rfl (pa_cons (pv 3) pa_nil))))) pe_non (nomark _)) (pss_one (ps_ret pe_bl)) pss_nil)
  (pss_one (ps_ret (pe_cmpR (op_eqX (hu64 hr)) (pe_lamK LD__law_word (L__law_word fx G__law_kind _ _ hgd) rfl TB rfl hr2 hgd (LamX.lamS_by (sc := defScope s__law_many_right) (by decide +kernel)) rfl (fun _ _ _ _ _ => rfl) (fun A outer s H E f c' hgd hr => (by exact pe_tk (W := fun cls d _ H => E cls d H) (takes_of rfl rfl rfl rfl) fun tk1 => (Pd.pe_callX G_need_inputs tk1 hgd hr rfl (pa_cons (pe_op op_addX (pv 3) (pe_slice sl_any (pv 3) (po_some (pe_un un_neg pe_int)) po_none)) pa_nil))))) (pe_tupN (pa_cons pe_str (pa_cons pe_int pa_nil))) (nomark _))))))))), fun B hB htb => by
    have hm : (P0, q__law_many_right) ∈ B.tb := by rw [htb]; simp
    have hu : ∀ p ∈ B.tb, p.1 = P0 → p.2 = q__law_many_right := tb_one (by rw [htb]; simp) hm
    exact (ds_seq (ds_asg de_str (by rw [hB]; decide))
  (ds_seq (ds_asg (de_op opd_add (de_lc (vs := [2]) (is := [2]) (di_seq de_var) (dg_name (i := 2) (by rw [hB]; decide)) db_yes (de_op opd_add de_str de_var) (by decide) (by rw [hB]; decide)) (de_lc (vs := [2]) (is := [2]) (di_seq de_var) (dg_name (i := 2) (by rw [hB]; decide)) db_yes (de_op opd_add de_str de_var) (by decide) (by rw [hB]; decide))) (by rw [hB]; decide))
  (ds_seq (ds_asg (de_op opd_add de_var (de_lc (vs := [2]) (is := [2]) (di_seq de_var) (dg_name (i := 2) (by rw [hB]; decide)) db_yes (de_op opd_add de_str de_var) (by decide) (by rw [hB]; decide))) (by rw [hB]; decide))
  (ds_seq (ds_asg (de_cb cbd_tup (da_cons (de_lc (vs := [4, 5]) (is := [4, 5]) (di_enumA de_var) (dg_tup (is := [4, 5]) (by rw [hB]; decide) rfl) db_yes (de_tup (da_cons de_var (da_cons (de_tup (da_cons de_var da_nil)) da_nil))) (by decide) (by rw [hB]; decide)) da_nil)) (by rw [hB]; decide))
  (ds_seq (ds_if (db_test (de_op opd_isnt (de_lam hm hu (fun A outer s H0 f c' E B Y1 hB hE1 => (de_callX (ms := [false]) hE1 (da_cons de_var da_nil)))) de_non)) (ds_ret de_bl) ds_next)
  (ds_ret (de_op opd_eq (de_lam hm hu (fun A outer s H0 f c' E B Y1 hB hE1 => (de_callX (ms := [false]) hE1 (da_cons (de_op opd_add de_var (de_sl sld_any de_var (do_some (de_un und_neg de_int)) do_none)) da_nil)))) (de_tup (da_cons de_str (da_cons de_int da_nil))))))))))⟩
theorem k__law_many_right {P : Program} {mg : Str → Option Value} {K : PySem.W.Frag} [HasW K] {base : Heap} {k : Nat} (fx : FX mg K) {fs__law_kind : FS} (G__law_kind : GK P (HasW.w K) K mg base k "_law_kind" P__law_kind (spD K fs__law_kind)) {fs_need_inputs : FS} (G_need_inputs : GKX P (HasW.w K) K mg base k "need_inputs" P_need_inputs (spD K fs_need_inputs)) {gl__law_word : Addr} {cdl__law_word : Value} (LD__law_word : LamD K mg "_law_word" "_law_deed" N__law_word s__law_word gl__law_word cdl__law_word) {c0 P0 : Addr} (TB : LamX.TabB base mg c0 P0) {f : Addr} {fd : FuncData} {fs : FS} (F : FnP K "_law_many_right" s__law_many_right f fd) (hm : mg "_law_many_right" = some (.ref f)) (hcd : fd.code = .ref c0)
    (law : ∀ as Pk Xk, fs as Pk Xk → as.length = 0 ∧ d__law_many_right fs__law_kind fs_need_inputs (fin as Pk) (begin_ as 6)) : GK P (HasW.w K) K mg base (k + 2 + 1) "_law_many_right" P__law_many_right (spT K P0 q__law_many_right fs) :=
  gkT_of F hm sc__law_many_right (by decide) (fun _ _ _ _ _ _ us hl => match us, hl with | [], _ => rfl) (fun A outer s H E hg hr => by rw [hcd] at hr ⊢; exact w__law_many_right fx G__law_kind G_need_inputs LD__law_word TB A outer s H E hg hr) law
theorem sc_law : FnScope N_law P_law (defScope s_law) := ⟨rfl, rfl, rfl, by decide +kernel, rfl, by decide +kernel, by decide +kernel⟩
def T_law_1 (fs__law_many_right : FS) : DT := (dIfS (dNot (dTest (dCall fs__law_many_right [] dNil NoX))) (dRet (dC (.bool false))) dNext)
def T_law_2 (fs__law_begun : FS) : DT := (dAsg 2 (dCall fs__law_begun [false, false] (dCons (dVar 0) (dCons (dVar 1) dNil)) NoX))
def T_law_3 (fs__law_names : FS) (fs__law_pick : FS) : DT := (dAsg 3 (dCall fs__law_names [true, false] (dCons (dVar 2) (dCons (dCall fs__law_pick [true, false] (dCons (dVar 2) (dCons (dC (.int 7)) dNil)) NoX) dNil)) NoX))
def T_law_4 (fs__law_good : FS) : DT := (dAsg 4 (dFz (dCall fs__law_good [true, false] (dCons (dVar 2) (dCons (dVar 3) dNil)) NoX)))
def T_law_5 (fs__law_kind : FS) (fs_need_inputs : FS) : DT := (dIfS (dTest (dOp gIsnt (dLam 4 (d__law_word fs__law_kind) (fun Y1 => (dCall fs_need_inputs [false] (dCons (dCB gTupl (dCons (dVar 4) dNil)) dNil) Y1))) (dC .none))) (dRet (dC (.bool false))) dNext)
def T_law_6 (fs__law_pick : FS) : DT := (dAsg 5 (dCall fs__law_pick [true, false] (dCons (dVar 2) (dCons (dOp gAdd (dCB gLen (dCons (dVar 4) dNil)) (dC (.int 1))) dNil)) NoX))
def T_law_7 (fs__law_odd : FS) : DT := (dAsg 6 (dCB gTupl (dCons (dOp gAdd (dOp gAdd (dSl gSl (dVar 4) dNoPart (dPart (dVar 5))) (dLst (dCons (dCall fs__law_odd [true, false] (dCons (dVar 2) (dCons (dC (.str "h")) dNil)) NoX) dNil))) (dSl gSl (dVar 4) (dPart (dVar 5)) dNoPart)) dNil)))
def T_law_8 (fs__law_kind : FS) (fs_need_inputs : FS) : DT := (dIfS (dTest (dOp gNe (dLam 4 (d__law_word fs__law_kind) (fun Y1 => (dCall fs_need_inputs [false] (dCons (dVar 6) dNil) Y1))) (dTup (dCons (dC (.str "inputs")) (dCons (dVar 5) dNil))))) (dRet (dC (.bool false))) dNext)
def T_law_9 (fs__law_pick : FS) : DT := (dAsg 5 (dCall fs__law_pick [true, false] (dCons (dVar 2) (dCons (dCB gLen (dCons (dVar 4) dNil)) dNil)) NoX))
def T_law_10 : DT := (dAsg 7 (dCB gTupl (dCons (dOp gAdd (dSl gSl (dVar 4) dNoPart (dPart (dOp gAdd (dVar 5) (dC (.int 1))))) (dSl gSl (dVar 4) (dPart (dVar 5)) dNoPart)) dNil)))
def T_law_11 (fs__law_kind : FS) (fs_need_inputs : FS) : DT := (dIfS (dTest (dOp gNe (dLam 4 (d__law_word fs__law_kind) (fun Y1 => (dCall fs_need_inputs [false] (dCons (dVar 7) dNil) Y1))) (dTup (dCons (dC (.str "inputs")) (dCons (dOp gAdd (dVar 5) (dC (.int 1))) dNil))))) (dRet (dC (.bool false))) dNext)
def T_law_12 (fs__law_kind : FS) (fs_need_inputs : FS) : DT := (dIfS (dAnd (dTest (dOp gGt (dCB gLen (dCons (dVar 4) dNil)) (dC (.int 1)))) (dTest (dOp gNe (dLam 4 (d__law_word fs__law_kind) (fun Y1 => (dCall fs_need_inputs [false] (dCons (dCB gTupl (dCons (dRev (dVar 4)) dNil)) dNil) Y1))) (dTup (dCons (dC (.str "inputs")) (dCons (dC (.int 1)) dNil)))))) (dRet (dC (.bool false))) dNext)
def T_law_13 (fs__law_pick : FS) (fs__law_kind : FS) (fs_need_inputs : FS) : DT := (dIfS (dTest (dOp gNe (dVar 4) (dLst dNil))) (dSeq (T_law_9 fs__law_pick)
  (dSeq T_law_10
  (dSeq (T_law_11 fs__law_kind fs_need_inputs)
  (T_law_12 fs__law_kind fs_need_inputs)))) dNext)
def T_law_14 (fs__law_any_name : FS) : DT := (dUnp [8, 9] (dCall fs__law_any_name [true] (dCons (dVar 2) dNil) NoX))
def T_law_15 (fs__law_kind : FS) (fs_need_inputs : FS) : DT := (dIfS (dTest (dOp gNe (dLam 4 (d__law_word fs__law_kind) (fun Y1 => (dCall fs_need_inputs [false] (dCons (dTup (dCons (dTup (dCons (dVar 8) (dCons (dTup (dCons (dC (.int 5)) dNil)) dNil))) dNil)) dNil) Y1))) (dIf (dTest (dVar 9)) (dC .none) (dTup (dCons (dC (.str "inputs")) (dCons (dC (.int 0)) dNil)))))) (dRet (dC (.bool false))) dNext)
def T_law_16 (fs__law_pick : FS) : DT := (dAsg 10 (dOp gIx (dLst (dCons (dC .none) (dCons (dVar 4) (dCons dDNew (dCons (dC (.str "a")) (dCons (dC (.int 5)) (dCons (dC (.bool true)) dNil))))))) (dCall fs__law_pick [true, false] (dCons (dVar 2) (dCons (dC (.int 6)) dNil)) NoX)))
def T_law_17 (fs__law_kind : FS) (fs_need_inputs : FS) : DT := (dIfS (dTest (dOp gNe (dLam 4 (d__law_word fs__law_kind) (fun Y1 => (dCall fs_need_inputs [false] (dCons (dVar 10) dNil) Y1))) (dTup (dCons (dC (.str "inputs")) (dCons (dC .none) dNil))))) (dRet (dC (.bool false))) dNext)
def T_law_18 (fs__law_pick : FS) : DT := (dAsg 11 (dOp gIx (dLst (dCons (dC (.int 0)) (dCons (dC (.int 3000)) (dCons (dCall fs__law_pick [true, false] (dCons (dVar 2) (dCons (dC (.int 3001)) dNil)) NoX) dNil)))) (dCall fs__law_pick [true, false] (dCons (dVar 2) (dCons (dC (.int 3)) dNil)) NoX)))
def T_law_19 (fs__law_kind : FS) (fs_need_limit : FS) : DT := (dIfS (dTest (dOp gIsnt (dLam 4 (d__law_word fs__law_kind) (fun Y1 => (dCall fs_need_limit [false] (dCons (dVar 11) dNil) Y1))) (dC .none))) (dRet (dC (.bool false))) dNext)
def T_law_20 (fs__law_pick : FS) : DT := (dAsg 11 (dOp gIx (dLst (dCons (dUn gNeg (dC (.int 1))) (dCons (dC (.int 3001)) (dCons (dC (.bool true)) (dCons (dC .none) (dCons (dC (.str "5")) (dCons (dLst (dCons (dC (.int 5)) dNil)) (dCons (dTup (dCons (dC (.int 5)) dNil)) (dCons (dOp gPow (dC (.int 10)) (dC (.int 30))) dNil))))))))) (dCall fs__law_pick [true, false] (dCons (dVar 2) (dCons (dC (.int 8)) dNil)) NoX)))
def T_law_21 (fs__law_kind : FS) (fs_need_limit : FS) : DT := (dIfS (dTest (dOp gNe (dLam 4 (d__law_word fs__law_kind) (fun Y1 => (dCall fs_need_limit [false] (dCons (dVar 11) dNil) Y1))) (dC (.str "place")))) (dRet (dC (.bool false))) dNext)
def T_law_22 (fs__law_begun : FS) (fs__law_names : FS) (fs__law_pick : FS) (fs__law_good : FS) (fs__law_kind : FS) (fs_need_inputs : FS) (fs__law_odd : FS) (fs__law_any_name : FS) (fs_need_limit : FS) : DT := (dFor (diRng1 (dCons (dCB gMax (dCons (dC (.int 3)) (dCons (dCB gMin (dCons (dC (.int 40)) (dCons (dCB gLen (dCons (dVar 0) dNil)) dNil))) dNil))) dNil)) (gN 1) (dSeq (T_law_2 fs__law_begun)
  (dSeq (T_law_3 fs__law_names fs__law_pick)
  (dSeq (T_law_4 fs__law_good)
  (dSeq (T_law_5 fs__law_kind fs_need_inputs)
  (dSeq (T_law_6 fs__law_pick)
  (dSeq (T_law_7 fs__law_odd)
  (dSeq (T_law_8 fs__law_kind fs_need_inputs)
  (dSeq (T_law_13 fs__law_pick fs__law_kind fs_need_inputs)
  (dSeq (T_law_14 fs__law_any_name)
  (dSeq (T_law_15 fs__law_kind fs_need_inputs)
  (dSeq (T_law_16 fs__law_pick)
  (dSeq (T_law_17 fs__law_kind fs_need_inputs)
  (dSeq (T_law_18 fs__law_pick)
  (dSeq (T_law_19 fs__law_kind fs_need_limit)
  (dSeq (T_law_20 fs__law_pick)
  (T_law_21 fs__law_kind fs_need_limit)))))))))))))))))
def d_law (fs__law_many_right : FS) (fs__law_begun : FS) (fs__law_names : FS) (fs__law_pick : FS) (fs__law_good : FS) (fs__law_kind : FS) (fs_need_inputs : FS) (fs__law_odd : FS) (fs__law_any_name : FS) (fs_need_limit : FS) : DT := (dSeq (T_law_1 fs__law_many_right)
  (dSeq (T_law_22 fs__law_begun fs__law_names fs__law_pick fs__law_good fs__law_kind fs_need_inputs fs__law_odd fs__law_any_name fs_need_limit)
  (dRet (dC (.bool true)))))
abbrev q_law : Str := (envOfC "law" (defScope s_law) 0 0 .none).qual ++ "<lambda>"
theorem w_law {P : Program} {mg : Str → Option Value} {K : PySem.W.Frag} [HasW K] {base : Heap} {k : Nat} (fx : FX mg K) {Pt__law_many_right : Addr} {fs__law_many_right : FS} (G__law_many_right : GK P (HasW.w K) K mg base k "_law_many_right" P__law_many_right (spT K Pt__law_many_right q__law_many_right fs__law_many_right)) {fs__law_begun : FS} (G__law_begun : GK P (HasW.w K) K mg base k "_law_begun" P__law_begun (spD K fs__law_begun)) {fs__law_names : FS} (G__law_names : GK P (HasW.w K) K mg base k "_law_names" P__law_names (spD K fs__law_names)) {fs__law_pick : FS} (G__law_pick : GK P (HasW.w K) K mg base k "_law_pick" P__law_pick (spD K fs__law_pick)) {fs__law_good : FS} (G__law_good : GK P (HasW.w K) K mg base k "_law_good" P__law_good (spD K fs__law_good)) {fs__law_kind : FS} (G__law_kind : GK P (HasW.w K) K mg base k "_law_kind" P__law_kind (spD K fs__law_kind)) {fs_need_inputs : FS} (G_need_inputs : GKX P (HasW.w K) K mg base k "need_inputs" P_need_inputs (spD K fs_need_inputs)) {fs__law_odd : FS} (G__law_odd : GK P (HasW.w K) K mg base k "_law_odd" P__law_odd (spD K fs__law_odd)) {fs__law_any_name : FS} (G__law_any_name : GK P (HasW.w K) K mg base k "_law_any_name" P__law_any_name (spD K fs__law_any_name)) {fs_need_limit : FS} (G_need_limit : GKX P (HasW.w K) K mg base k "need_limit" P_need_limit (spD K fs_need_limit)) {gl__law_word : Addr} {cdl__law_word : Value} (LD__law_word : LamD K mg "_law_word" "_law_deed" N__law_word s__law_word gl__law_word cdl__law_word) {c0 P0 : Addr} (TB : LamX.TabB base mg c0 P0) (dj : [P0, Pt__law_many_right].Nodup) {f : Addr} (A : Around) (outer : List Env) (s : Shared) (H : Hp) (E : XK) (hgd : A.guards = some []) (hr2 : Room (k + 2) (A.deeper (envOfC "law" (defScope s_law) s.heap.objs.size f (.ref c0)))) :
    ∃ ts, PSs (cxOf CX0 P (HasW.w K) K mg base N_law "law" (defScope s_law) f (.ref c0) A outer s H E).nox (defBody s_law) ts ∧ ∀ B : Bs, B.n = N_law.length → B.tb = [(P0, q_law), (Pt__law_many_right, q__law_many_right)] → DSok B K ts (d_law fs__law_many_right fs__law_begun fs__law_names fs__law_pick fs__law_good fs__law_kind fs_need_inputs fs__law_odd fs__law_any_name fs_need_limit) := by
  have hr := hr2.mono (show k ≤ k + 2 by omega)
  exact ⟨_, (pss_cons (ps_if (pt_not (pt_val (pe_callK0 G__law_many_right hgd hr rfl))) (pss_one (ps_ret pe_bl)) pss_nil)
  (pss_cons (ps_for PassesOwn.never rfl (pi_range1 rfl fx.b_range (pa_cons (pe_callB (call_maxX rfl) rfl fx.b_max boot_max (pa_cons pe_int (pa_cons (pe_callB (call_minX rfl) rfl fx.b_min boot_min (pa_cons pe_int (pa_cons (pe_callB call_lenX rfl fx.b_len boot_len (pa_cons (pv 0) pa_nil)) pa_nil))) pa_nil))) pa_nil)) (pg_name (i := 1) sc_law.nd rfl (Or.inl rfl)) (pss_cons (ps_set (i := 2) sc_law.nd rfl (Or.inl rfl) (Pd.pe_callK G__law_begun hgd hr rfl (pa_cons (pv 0) (pa_cons (pv 1) pa_nil))))
  (pss_cons (ps_set (i := 3) sc_law.nd rfl (Or.inl rfl) (Pd.pe_callK G__law_names hgd hr rfl (pa_cons (pv 2) (pa_cons (Pd.pe_callK G__law_pick hgd hr rfl (pa_cons (pv 2) (pa_cons pe_int pa_nil))) pa_nil))))
  (pss_cons (ps_set (i := 4) sc_law.nd rfl (Or.inr rfl) (Pd.pe_callK G__law_good hgd hr rfl (pa_cons (pv 2) (pa_cons (pv 3) pa_nil))))
  (pss_cons (ps_if (pt_cmpR op_isntX (pe_lamK LD__law_word (L__law_word fx G__law_kind _ _ hgd) rfl TB rfl hr2 hgd (LamX.lamS_by (sc := defScope s_law) (by decide +kernel)) rfl (fun _ _ _ _ _ => rfl) (fun A outer s H E f c' hgd hr => (by exact pe_tk (W := fun cls d _ H => E cls d H) (takes_of rfl rfl rfl rfl) fun tk1 => (Pd.pe_callX G_need_inputs tk1 hgd hr rfl (pa_cons (pe_callTy call_tupX rfl fx.b_tuple boot_tuple (pa_cons (pv 4) pa_nil)) pa_nil))))) pe_non (nomark _)) (pss_one (ps_ret pe_bl)) pss_nil)
  (pss_cons (ps_set (i := 5) sc_law.nd rfl (Or.inl rfl) (Pd.pe_callK G__law_pick hgd hr rfl (pa_cons (pv 2) (pa_cons (pe_op op_addX (pe_callB call_lenX rfl fx.b_len boot_len (pa_cons (pv 4) pa_nil)) pe_int) pa_nil))))
  (pss_cons (ps_set (i := 6) sc_law.nd rfl (Or.inr rfl) (pe_callTy call_tupX rfl fx.b_tuple boot_tuple (pa_cons (pe_op op_addX (pe_op op_addX (pe_slice sl_any (pv 4) po_none (po_some (pv 5))) (pe_lst (pa_cons (Pd.pe_callK G__law_odd hgd hr rfl (pa_cons (pv 2) (pa_cons pe_str pa_nil))) pa_nil))) (pe_slice sl_any (pv 4) (po_some (pv 5)) po_none)) pa_nil)))
  (pss_cons (ps_if (pt_cmpR (op_neX (hu64 hr)) (pe_lamK LD__law_word (L__law_word fx G__law_kind _ _ hgd) rfl TB rfl hr2 hgd (LamX.lamS_by (sc := defScope s_law) (by decide +kernel)) rfl (fun _ _ _ _ _ => rfl) (fun A outer s H E f c' hgd hr => (by exact pe_tk (W := fun cls d _ H => E cls d H) (takes_of rfl rfl rfl rfl) fun tk1 => (Pd.pe_callX G_need_inputs tk1 hgd hr rfl (pa_cons (pv 6) pa_nil))))) (pe_tupN (pa_cons pe_str (pa_cons (pv 5) pa_nil))) (nomark _)) (pss_one (ps_ret pe_bl)) pss_nil)
  (pss_cons (ps_if (pt_cmpR (op_neX (hu64 hr)) (pv 4) (pe_lst pa_nil) (nomark _)) (pss_cons (ps_set (i := 5) sc_law.nd rfl (Or.inl rfl) (Pd.pe_callK G__law_pick hgd hr rfl (pa_cons (pv 2) (pa_cons (pe_callB call_lenX rfl fx.b_len boot_len (pa_cons (pv 4) pa_nil)) pa_nil))))
  (pss_cons (ps_set (i := 7) sc_law.nd rfl (Or.inr rfl) (pe_callTy call_tupX rfl fx.b_tuple boot_tuple (pa_cons (pe_op op_addX (pe_slice sl_any (pv 4) po_none (po_some (pe_op op_addX (pv 5) pe_int))) (pe_slice sl_any (pv 4) (po_some (pv 5)) po_none)) pa_nil)))
  (pss_cons (ps_if (pt_cmpR (op_neX (hu64 hr)) (pe_lamK LD__law_word (L__law_word fx G__law_kind _ _ hgd) rfl TB rfl hr2 hgd (LamX.lamS_by (sc := defScope s_law) (by decide +kernel)) rfl (fun _ _ _ _ _ => rfl) (fun A outer s H E f c' hgd hr => (by exact pe_tk (W := fun cls d _ H => E cls d H) (takes_of rfl rfl rfl rfl) fun tk1 => (Pd.pe_callX G_need_inputs tk1 hgd hr rfl (pa_cons (pv 7) pa_nil))))) (pe_tupN (pa_cons pe_str (pa_cons (pe_op op_addX (pv 5) pe_int) pa_nil))) (nomark _)) (pss_one (ps_ret pe_bl)) pss_nil)
  (pss_one (ps_if (PW.pt (pw_and (pt_cmpR op_gtX (pe_callB call_lenX rfl fx.b_len boot_len (pa_cons (pv 4) pa_nil)) pe_int (nomark _)) (pw_and1 (pt_cmpR (op_neX (hu64 hr)) (pe_lamK LD__law_word (L__law_word fx G__law_kind _ _ hgd) rfl TB rfl hr2 hgd (LamX.lamS_by (sc := defScope s_law) (by decide +kernel)) rfl (fun _ _ _ _ _ => rfl) (fun A outer s H E f c' hgd hr => (by exact pe_tk (W := fun cls d _ H => E cls d H) (takes_of rfl rfl rfl rfl) fun tk1 => (Pd.pe_callX G_need_inputs tk1 hgd hr rfl (pa_cons (pe_callTy call_tupX rfl fx.b_tuple boot_tuple (pa_cons (pe_revL (pv 4)) pa_nil)) pa_nil))))) (pe_tupN (pa_cons pe_str (pa_cons pe_int pa_nil))) (nomark _))))) (pss_one (ps_ret pe_bl)) pss_nil))))) pss_nil)
  (pss_cons (ps_asg (Pd.pe_callK G__law_any_name hgd hr rfl (pa_cons (pv 2) pa_nil)) (pg_tup rfl (pgs_cons (pg_name (i := 8) sc_law.nd rfl (Or.inr rfl)) (pgs_cons (pg_name (i := 9) sc_law.nd rfl (Or.inl rfl)) pgs_nil))))
  (pss_cons (ps_if (pt_cmpR (op_neX (hu64 hr)) (pe_lamK LD__law_word (L__law_word fx G__law_kind _ _ hgd) rfl TB rfl hr2 hgd (LamX.lamS_by (sc := defScope s_law) (by decide +kernel)) rfl (fun _ _ _ _ _ => rfl) (fun A outer s H E f c' hgd hr => (by exact pe_tk (W := fun cls d _ H => E cls d H) (takes_of rfl rfl rfl rfl) fun tk1 => (Pd.pe_callX G_need_inputs tk1 hgd hr rfl (pa_cons (pe_tupN (pa_cons (pe_tupN (pa_cons (pv 8) (pa_cons (pe_tupN (pa_cons pe_int pa_nil)) pa_nil))) pa_nil)) pa_nil))))) (pe_ifExp (pt_val (pv 9)) pe_non (pe_tupN (pa_cons pe_str (pa_cons pe_int pa_nil)))) (nomark _)) (pss_one (ps_ret pe_bl)) pss_nil)
  (pss_cons (ps_set (i := 10) sc_law.nd rfl (Or.inr rfl) (pe_ix (ix_any (hu1 hr)) (pe_lst (pa_cons pe_non (pa_cons (pv 4) (pa_cons pe_dnewK (pa_cons pe_str (pa_cons pe_int (pa_cons pe_bl pa_nil))))))) (Pd.pe_callK G__law_pick hgd hr rfl (pa_cons (pv 2) (pa_cons pe_int pa_nil))) (fun _ _ => rfl)))
  (pss_cons (ps_if (pt_cmpR (op_neX (hu64 hr)) (pe_lamK LD__law_word (L__law_word fx G__law_kind _ _ hgd) rfl TB rfl hr2 hgd (LamX.lamS_by (sc := defScope s_law) (by decide +kernel)) rfl (fun _ _ _ _ _ => rfl) (fun A outer s H E f c' hgd hr => (by exact pe_tk (W := fun cls d _ H => E cls d H) (takes_of rfl rfl rfl rfl) fun tk1 => (Pd.pe_callX G_need_inputs tk1 hgd hr rfl (pa_cons (pv 10) pa_nil))))) (pe_tupN (pa_cons pe_str (pa_cons pe_non pa_nil))) (nomark _)) (pss_one (ps_ret pe_bl)) pss_nil)
  (pss_cons (ps_set (i := 11) sc_law.nd rfl (Or.inr rfl) (pe_ix (ix_any (hu1 hr)) (pe_lst (pa_cons pe_int (pa_cons pe_int (pa_cons (Pd.pe_callK G__law_pick hgd hr rfl (pa_cons (pv 2) (pa_cons pe_int pa_nil))) pa_nil)))) (Pd.pe_callK G__law_pick hgd hr rfl (pa_cons (pv 2) (pa_cons pe_int pa_nil))) (fun _ _ => rfl)))
  (pss_cons (ps_if (pt_cmpR op_isntX (pe_lamK LD__law_word (L__law_word fx G__law_kind _ _ hgd) rfl TB rfl hr2 hgd (LamX.lamS_by (sc := defScope s_law) (by decide +kernel)) rfl (fun _ _ _ _ _ => rfl) (fun A outer s H E f c' hgd hr => (by exact pe_tk (W := fun cls d _ H => E cls d H) (takes_of rfl rfl rfl rfl) fun tk1 => (Pd.pe_callX G_need_limit tk1 hgd hr rfl (pa_cons (pv 11) pa_nil))))) pe_non (nomark _)) (pss_one (ps_ret pe_bl)) pss_nil)
  (pss_cons (ps_set (i := 11) sc_law.nd rfl (Or.inr rfl) (pe_ix (ix_any (hu1 hr)) (pe_lst (pa_cons (pe_un un_neg pe_int) (pa_cons pe_int (pa_cons pe_bl (pa_cons pe_non (pa_cons pe_str (pa_cons (pe_lst (pa_cons pe_int pa_nil)) (pa_cons (pe_tupN (pa_cons pe_int pa_nil)) (pa_cons (pe_op op_pow pe_int pe_int) pa_nil))))))))) (Pd.pe_callK G__law_pick hgd hr rfl (pa_cons (pv 2) (pa_cons pe_int pa_nil))) (fun _ _ => rfl)))
  (pss_one (ps_if (pt_cmpR (op_neX (hu64 hr)) (pe_lamK LD__law_word (L__law_word fx G__law_kind _ _ hgd) rfl TB rfl hr2 hgd (LamX.lamS_by (sc := defScope s_law) (by decide +kernel)) rfl (fun _ _ _ _ _ => rfl) (fun A outer s H E f c' hgd hr => (by exact pe_tk (W := fun cls d _ H => E cls d H) (takes_of rfl rfl rfl rfl) fun tk1 => (Pd.pe_callX G_need_limit tk1 hgd hr rfl (pa_cons (pv 11) pa_nil))))) pe_str (nomark _)) (pss_one (ps_ret pe_bl)) pss_nil))))))))))))))))))
  (pss_one (ps_ret pe_bl)))), fun B hB htb => by
    have hm : (P0, q_law) ∈ B.tb := by rw [htb]; simp
    have hu : ∀ p ∈ B.tb, p.1 = P0 → p.2 = q_law := tb_one (by rw [htb]; exact dj) hm
    have hm__law_many_right : (Pt__law_many_right, q__law_many_right) ∈ B.tb := by rw [htb]; simp
    have hu__law_many_right : ∀ p ∈ B.tb, p.1 = Pt__law_many_right → p.2 = q__law_many_right := tb_one (by rw [htb]; exact dj) hm__law_many_right
    exact (ds_seq (ds_if (db_not (db_B (de_callT hm__law_many_right hu__law_many_right (ms := []) da_nil))) (ds_ret de_bl) ds_next)
  (ds_seq (ds_for (di_rng1 (da_cons (de_cb cbd_max (da_cons de_int (da_cons (de_cb cbd_min (da_cons de_int (da_cons (de_cb cbd_len (da_cons de_var da_nil)) da_nil))) da_nil))) da_nil)) (dg_name (i := 1) (by rw [hB]; decide)) (ds_seq (ds_asg (de_callK (da_cons de_var (da_cons de_var da_nil))) (by rw [hB]; decide))
  (ds_seq (ds_asg (de_callK (da_cons de_var (da_cons (de_callK (da_cons de_var (da_cons de_int da_nil))) da_nil))) (by rw [hB]; decide))
  (ds_seq (ds_asg (de_fz (de_callK (da_cons de_var (da_cons de_var da_nil)))) (by rw [hB]; decide))
  (ds_seq (ds_if (db_test (de_op opd_isnt (de_lam hm hu (fun A outer s H0 f c' E B Y1 hB hE1 => (de_callX (ms := [false]) hE1 (da_cons (de_cb cbd_tup (da_cons de_var da_nil)) da_nil)))) de_non)) (ds_ret de_bl) ds_next)
  (ds_seq (ds_asg (de_callK (da_cons de_var (da_cons (de_op opd_add (de_cb cbd_len (da_cons de_var da_nil)) de_int) da_nil))) (by rw [hB]; decide))
  (ds_seq (ds_asg (de_cb cbd_tup (da_cons (de_op opd_add (de_op opd_add (de_sl sld_any de_var do_none (do_some de_var)) (de_lst (da_cons (de_callK (da_cons de_var (da_cons de_str da_nil))) da_nil))) (de_sl sld_any de_var (do_some de_var) do_none)) da_nil)) (by rw [hB]; decide))
  (ds_seq (ds_if (db_test (de_op opd_ne (de_lam hm hu (fun A outer s H0 f c' E B Y1 hB hE1 => (de_callX (ms := [false]) hE1 (da_cons de_var da_nil)))) (de_tup (da_cons de_str (da_cons de_var da_nil))))) (ds_ret de_bl) ds_next)
  (ds_seq (ds_if (db_test (de_op opd_ne de_var (de_lst da_nil))) (ds_seq (ds_asg (de_callK (da_cons de_var (da_cons (de_cb cbd_len (da_cons de_var da_nil)) da_nil))) (by rw [hB]; decide))
  (ds_seq (ds_asg (de_cb cbd_tup (da_cons (de_op opd_add (de_sl sld_any de_var do_none (do_some (de_op opd_add de_var de_int))) (de_sl sld_any de_var (do_some de_var) do_none)) da_nil)) (by rw [hB]; decide))
  (ds_seq (ds_if (db_test (de_op opd_ne (de_lam hm hu (fun A outer s H0 f c' E B Y1 hB hE1 => (de_callX (ms := [false]) hE1 (da_cons de_var da_nil)))) (de_tup (da_cons de_str (da_cons (de_op opd_add de_var de_int) da_nil))))) (ds_ret de_bl) ds_next)
  (ds_if (db_and (db_test (de_op opd_ord (de_cb cbd_len (da_cons de_var da_nil)) de_int)) (db_test (de_op opd_ne (de_lam hm hu (fun A outer s H0 f c' E B Y1 hB hE1 => (de_callX (ms := [false]) hE1 (da_cons (de_cb cbd_tup (da_cons (de_rev de_var) da_nil)) da_nil)))) (de_tup (da_cons de_str (da_cons de_int da_nil)))))) (ds_ret de_bl) ds_next)))) ds_next)
  (ds_seq (ds_unp (is := [8, 9]) (de_callK (da_cons de_var da_nil)) (by rw [hB]; decide) rfl)
  (ds_seq (ds_if (db_test (de_op opd_ne (de_lam hm hu (fun A outer s H0 f c' E B Y1 hB hE1 => (de_callX (ms := [false]) hE1 (da_cons (de_tup (da_cons (de_tup (da_cons de_var (da_cons (de_tup (da_cons de_int da_nil)) da_nil))) da_nil)) da_nil)))) (de_if (db_B de_var) de_non (de_tup (da_cons de_str (da_cons de_int da_nil)))))) (ds_ret de_bl) ds_next)
  (ds_seq (ds_asg (de_op opd_ix (de_lst (da_cons de_non (da_cons de_var (da_cons de_dnew (da_cons de_str (da_cons de_int (da_cons de_bl da_nil))))))) (de_callK (da_cons de_var (da_cons de_int da_nil)))) (by rw [hB]; decide))
  (ds_seq (ds_if (db_test (de_op opd_ne (de_lam hm hu (fun A outer s H0 f c' E B Y1 hB hE1 => (de_callX (ms := [false]) hE1 (da_cons de_var da_nil)))) (de_tup (da_cons de_str (da_cons de_non da_nil))))) (ds_ret de_bl) ds_next)
  (ds_seq (ds_asg (de_op opd_ix (de_lst (da_cons de_int (da_cons de_int (da_cons (de_callK (da_cons de_var (da_cons de_int da_nil))) da_nil)))) (de_callK (da_cons de_var (da_cons de_int da_nil)))) (by rw [hB]; decide))
  (ds_seq (ds_if (db_test (de_op opd_isnt (de_lam hm hu (fun A outer s H0 f c' E B Y1 hB hE1 => (de_callX (ms := [false]) hE1 (da_cons de_var da_nil)))) de_non)) (ds_ret de_bl) ds_next)
  (ds_seq (ds_asg (de_op opd_ix (de_lst (da_cons (de_un und_neg de_int) (da_cons de_int (da_cons de_bl (da_cons de_non (da_cons de_str (da_cons (de_lst (da_cons de_int da_nil)) (da_cons (de_tup (da_cons de_int da_nil)) (da_cons (de_op opd_pow de_int de_int) da_nil))))))))) (de_callK (da_cons de_var (da_cons de_int da_nil)))) (by rw [hB]; decide))
  (ds_if (db_test (de_op opd_ne (de_lam hm hu (fun A outer s H0 f c' E B Y1 hB hE1 => (de_callX (ms := [false]) hE1 (da_cons de_var da_nil)))) de_str)) (ds_ret de_bl) ds_next)))))))))))))))))
  (ds_ret de_bl)))⟩
theorem k_law {P : Program} {mg : Str → Option Value} {K : PySem.W.Frag} [HasW K] {base : Heap} {k : Nat} (fx : FX mg K) {Pt__law_many_right : Addr} {fs__law_many_right : FS} (G__law_many_right : GK P (HasW.w K) K mg base k "_law_many_right" P__law_many_right (spT K Pt__law_many_right q__law_many_right fs__law_many_right)) {fs__law_begun : FS} (G__law_begun : GK P (HasW.w K) K mg base k "_law_begun" P__law_begun (spD K fs__law_begun)) {fs__law_names : FS} (G__law_names : GK P (HasW.w K) K mg base k "_law_names" P__law_names (spD K fs__law_names)) {fs__law_pick : FS} (G__law_pick : GK P (HasW.w K) K mg base k "_law_pick" P__law_pick (spD K fs__law_pick)) {fs__law_good : FS} (G__law_good : GK P (HasW.w K) K mg base k "_law_good" P__law_good (spD K fs__law_good)) {fs__law_kind : FS} (G__law_kind : GK P (HasW.w K) K mg base k "_law_kind" P__law_kind (spD K fs__law_kind)) {fs_need_inputs : FS} (G_need_inputs : GKX P (HasW.w K) K mg base k "need_inputs" P_need_inputs (spD K fs_need_inputs)) {fs__law_odd : FS} (G__law_odd : GK P (HasW.w K) K mg base k "_law_odd" P__law_odd (spD K fs__law_odd)) {fs__law_any_name : FS} (G__law_any_name : GK P (HasW.w K) K mg base k "_law_any_name" P__law_any_name (spD K fs__law_any_name)) {fs_need_limit : FS} (G_need_limit : GKX P (HasW.w K) K mg base k "need_limit" P_need_limit (spD K fs_need_limit)) {gl__law_word : Addr} {cdl__law_word : Value} (LD__law_word : LamD K mg "_law_word" "_law_deed" N__law_word s__law_word gl__law_word cdl__law_word) {c0 P0 : Addr} (TB : LamX.TabB base mg c0 P0) (dj : [P0, Pt__law_many_right].Nodup) {f : Addr} {fd : FuncData} (F : FnP K "law" s_law f fd) (hcd : fd.code = .ref c0)
    (law : ∀ ns : List Int, ns.length ≤ 63 → d_law fs__law_many_right fs__law_begun fs__law_names fs__law_pick fs__law_good fs__law_kind fs_need_inputs fs__law_odd fs__law_any_name fs_need_limit { nx := fun _ => False, rt := fun r _ => r = .dat (.bool true) } (begin_ [.dat (.list (ns.map PyData.int))] N_law.length)) : FnG P (HasW.w K) K mg base CX0 (k + 2 + 1) f fd P_law (spLawN K [P0, Pt__law_many_right]) :=
  fngN_of (T := [(P0, q_law), (Pt__law_many_right, q__law_many_right)]) F sc_law (by decide) (fun A outer s H E hg hr => by rw [hcd] at hr ⊢; exact w_law fx G__law_many_right G__law_begun G__law_names G__law_pick G__law_good G__law_kind G_need_inputs G__law_odd G__law_any_name G_need_limit LD__law_word TB dj A outer s H E hg hr) law
end Gk10
set_option Elab.async false
set_option linter.all false
set_option maxRecDepth 100000
set_option maxHeartbeats 4000000
namespace Gk10
open PySem PySem.Spec PyProof.Rows L2 Pd
local macro_rules | `(tactic| simp_arith [id_eq]) => `(tactic| try dsimp only [unS, List.set_cons_zero, List.set_cons_succ])
def F_is_whole (a_thing : D) : Option (Bool) :=
  (oIsi "int" a_thing).bind fun v1 =>
  if v1 = true then
  (oIsi "bool" a_thing).bind fun v2 =>
  some (!v2)
  else
  some false
def fs_is_whole : FS := fun as P X => ∃ (a_thing : D) (r : Bool), as = [.dat a_thing] ∧ F_is_whole a_thing = some r ∧ P (.dat (.bool r)) []
theorem sp_is_whole {a_thing : D} {r : Bool} {P : Re → List MO → Prop} {X : XW} (e : F_is_whole a_thing = some r) (h : P (.dat (.bool r)) []) : fs_is_whole [.dat a_thing] P X := ⟨a_thing, r, rfl, e, h⟩
theorem law_is_whole : ∀ as Pk Xk, fs_is_whole as Pk Xk → as.length = 1 ∧ d_is_whole (fin as Pk) (begin_ as 1) := by
  rintro as P X ⟨a_thing, r, rfl, h, hP⟩
  refine ⟨rfl, ?_⟩
  delta F_is_whole at h
  delta d_is_whole T_is_whole_1
  rw [show begin_ [.dat a_thing] 1 = [.dat a_thing] from rfl]
  refine s_ret ?_
  refine c_andV1 ?_
  refine c_isi ?_
  refine c_varD rfl ?_
  refine v_d ?_
  refine bnd h fun v1 e h => l_isi e ?_
  refine b_b ?_
  refine ite_h h (fun hb h => ?_) fun hb h => ?_
  · refine c_notV ?_
    refine c_isi ?_
    refine c_varD rfl ?_
    refine v_d ?_
    refine bnd h fun v2 e h => l_isi e ?_
    refine b_b ?_
    cases h
    exact hP
  · cases h
    exact hP
def F_is_among (a_thing : D) (a_least : D) (a_most : D) : Option (Bool) :=
  (F_is_whole a_thing).bind fun v1 =>
  if v1 = true then
  (oLe a_least a_thing).bind fun v2 =>
  if v2 = true then
  (oLe a_thing a_most).bind fun v3 =>
  some v3
  else
  some false
  else
  some false
def fs_is_among : FS := fun as P X => ∃ (a_thing : D) (a_least : D) (a_most : D) (r : Bool), as = [.dat a_thing, .dat a_least, .dat a_most] ∧ F_is_among a_thing a_least a_most = some r ∧ P (.dat (.bool r)) []
theorem sp_is_among {a_thing : D} {a_least : D} {a_most : D} {r : Bool} {P : Re → List MO → Prop} {X : XW} (e : F_is_among a_thing a_least a_most = some r) (h : P (.dat (.bool r)) []) : fs_is_among [.dat a_thing, .dat a_least, .dat a_most] P X := ⟨a_thing, a_least, a_most, r, rfl, e, h⟩
theorem law_is_among : ∀ as Pk Xk, fs_is_among as Pk Xk → as.length = 3 ∧ d_is_among fs_is_whole (fin as Pk) (begin_ as 3) := by
  rintro as P X ⟨a_thing, a_least, a_most, r, rfl, h, hP⟩
  refine ⟨rfl, ?_⟩
  delta F_is_among at h
  delta d_is_among T_is_among_1
  rw [show begin_ [.dat a_thing, .dat a_least, .dat a_most] 3 = [.dat a_thing, .dat a_least, .dat a_most] from rfl]
  refine s_ret ?_
  refine c_andV1 ?_
  refine c_call ?_
  refine c_cons ?_
  refine c_varD rfl ?_
  refine c_nil ?_
  refine And.intro List.nodup_nil ?_
  refine a_F ?_
  refine t_d ?_
  refine a_0 ?_
  refine bnd h fun v1 e h => sp_is_whole e ?_
  refine k_F ?_
  refine k_0 ?_
  refine n_d ?_
  refine b_b ?_
  refine ite_h h (fun hb h => ?_) fun hb h => ?_
  · refine c_chain1 ?_
    refine c_varD rfl ?_
    refine c_varD rfl ?_
    refine v_d ?_
    refine v_d ?_
    refine bnd h fun v2 e h => l_le e ?_
    refine ch_h h (fun hb h => ?_) fun hb h => ?_
    · refine c_varD rfl ?_
      refine v_d ?_
      refine v_d ?_
      refine bnd h fun v3 e h => l_le e ?_
      cases h
      exact hP
    · cases h
      exact hP
  · cases h
    exact hP
def F_is_name (a_thing : D) : Option (Bool) :=
  ((oIsi "str" a_thing).bind fun v2 =>
  if (!v2) = true then
  some true
  else
  ((oLen a_thing).bind fun v4 =>
  if (decide (1 ≤ v4)) = true then
  (oLe (.int v4) c_MOST_LETTERS).bind fun v5 =>
  some v5
  else
  some false).bind fun c3 =>
  if (!c3) = true then
  some true
  else
  (oIn a_thing c_KEYS).bind fun v6 =>
  some v6).bind fun c1 =>
  if c1 = true then
  some false
  else
  (itemsD a_thing).bind fun v7 =>
  (few v7).bind fun u10 =>
  (oMap (fun x8 =>
  (oIn x8 c_LETTERS).bind fun v12 =>
  some (.bool v12)) v7).bind fun w11 =>
  (oAll (.list w11)).bind fun v13 =>
  some v13
def fs_is_name : FS := fun as P X => ∃ (a_thing : D) (r : Bool), as = [.dat a_thing] ∧ F_is_name a_thing = some r ∧ P (.dat (.bool r)) []
theorem sp_is_name {a_thing : D} {r : Bool} {P : Re → List MO → Prop} {X : XW} (e : F_is_name a_thing = some r) (h : P (.dat (.bool r)) []) : fs_is_name [.dat a_thing] P X := ⟨a_thing, r, rfl, e, h⟩
theorem law_is_name : ∀ as Pk Xk, fs_is_name as Pk Xk → as.length = 1 ∧ d_is_name (fin as Pk) (begin_ as 2) := by
  rintro as P X ⟨a_thing, r, rfl, h, hP⟩
  refine ⟨rfl, ?_⟩
  delta F_is_name at h
  delta d_is_name T_is_name_1 T_is_name_2
  rw [show begin_ [.dat a_thing] 2 = [.dat a_thing, .un] from rfl]
  refine s_seq ?_
  refine s_if ?_
  refine bnd h fun c1 hc h => ?_
  refine c_or (c := c1) (δ' := [.dat a_thing, .un]) ?rest1 fun hk => ?inner1
  case inner1 =>
    have h := hc
    refine c_not ?_
    refine c_test ?_
    refine c_isi ?_
    refine c_varD rfl ?_
    refine v_d ?_
    refine bnd h fun v2 e h => l_isi e ?_
    refine b_b ?_
    refine ite_h h (fun hb h => ?_) fun hb h => ?_
    · cases h
      exact hk
    · refine c_or1 ?_
      refine c_not ?_
      refine c_test ?_
      refine bnd h fun c3 hc h => ?_
      refine c_chain (r := .dat (.bool c3)) (δ' := [.dat a_thing, .un]) ?rest2 fun hk => ?inner2
      case inner2 =>
        have h := hc
        refine c_c ?_
        refine c_cb ?_
        refine c_cons ?_
        refine c_varD rfl ?_
        refine c_nil ?_
        refine v_cons ?_
        refine v_d ?_
        refine v_nil ?_
        refine bnd h fun v4 e h => l_len e ?_
        refine v_d ?_
        refine v_d ?_
        refine l_leI ?_
        refine ch_h h (fun hb h => ?_) fun hb h => ?_
        · refine c_c ?_
          refine v_d ?_
          refine v_d ?_
          refine bnd h fun v5 e h => l_le e ?_
          cases h
          exact hk
        · cases h
          exact hk
      refine b_b ?_
      refine ite_h h (fun hb h => ?_) fun hb h => ?_
      · cases h
        exact hk
      · refine c_test ?_
        refine c_op ?_
        refine c_varD rfl ?_
        refine c_c ?_
        refine v_d ?_
        refine v_d ?_
        refine bnd h fun v6 e h => l_in e ?_
        refine b_b ?_
        cases h
        exact hk
  refine ite_h h (fun hb h => ?_) fun hb h => ?_
  · refine s_ret ?_
    refine c_c ?_
    cases h
    exact hP
  · refine s_next ?_
    refine e_nx ?_
    refine s_ret ?_
    refine c_cb ?_
    refine c_cons ?_
    refine c_lc ?_
    refine i_seq ?_
    refine c_varD rfl ?_
    refine t_d ?_
    refine bnd h fun v7 e h => it_d e ?_
    refine And.intro rfl ?_
    refine bnd h fun u10 eu h => ?_
    refine bnd h fun w11 ev h => lc_map eu ev ?rest3 fun x8 y9 h p p' hp => ?body3
    case body3 =>
      refine l_gN ?_
      simp_arith [id_eq]
      refine c_yes ?_
      refine if_t ?_
      refine c_op ?_
      refine c_varD rfl ?_
      refine c_c ?_
      refine v_d ?_
      refine v_d ?_
      refine bnd h fun v12 e h => l_in e ?_
      refine t_d ?_
      cases h
      exact hp _ rfl
    refine c_nil ?_
    refine v_cons ?_
    refine v_n ?_
    refine v_nil ?_
    refine bnd h fun v13 e h => l_all e ?_
    cases h
    exact hP
def F_is_input (a_thing : D) : Option (Bool) :=
  ((oIsi "tuple" a_thing).bind fun v2 =>
  if (!v2) = true then
  some true
  else
  (oLen a_thing).bind fun v3 =>
  if (!(decide (v3 = 2))) = true then
  some true
  else
  (oIx a_thing (.int 0)).bind fun v4 =>
  (F_is_name v4).bind fun v5 =>
  some (!v5)).bind fun c1 =>
  if c1 = true then
  some false
  else
  ((oIx a_thing (.int 1)).bind fun v7 =>
  (oIsi "tuple" v7).bind fun v8 =>
  if (!v8) = true then
  some true
  else
  (oIx a_thing (.int 1)).bind fun v9 =>
  (oLen v9).bind fun v10 =>
  (oGt (.int v10) c_MOST_INPUTS).bind fun v11 =>
  some v11).bind fun c6 =>
  if c6 = true then
  some false
  else
  (oIx a_thing (.int 1)).bind fun v12 =>
  (itemsD v12).bind fun v13 =>
  (few v13).bind fun u16 =>
  (oMap (fun x14 =>
  (F_is_among x14 (.int 0) c_MOST).bind fun v18 =>
  some (.bool v18)) v13).bind fun w17 =>
  (oAll (.list w17)).bind fun v19 =>
  some v19
def fs_is_input : FS := fun as P X => ∃ (a_thing : D) (r : Bool), as = [.dat a_thing] ∧ F_is_input a_thing = some r ∧ P (.dat (.bool r)) []
theorem sp_is_input {a_thing : D} {r : Bool} {P : Re → List MO → Prop} {X : XW} (e : F_is_input a_thing = some r) (h : P (.dat (.bool r)) []) : fs_is_input [.dat a_thing] P X := ⟨a_thing, r, rfl, e, h⟩
theorem law_is_input : ∀ as Pk Xk, fs_is_input as Pk Xk → as.length = 1 ∧ d_is_input fs_is_name fs_is_among (fin as Pk) (begin_ as 2) := by
  rintro as P X ⟨a_thing, r, rfl, h, hP⟩
  refine ⟨rfl, ?_⟩
  delta F_is_input at h
  delta d_is_input T_is_input_1 T_is_input_2 T_is_input_3
  rw [show begin_ [.dat a_thing] 2 = [.dat a_thing, .un] from rfl]
  refine s_seq ?_
  refine s_if ?_
  refine bnd h fun c1 hc h => ?_
  refine c_or (c := c1) (δ' := [.dat a_thing, .un]) ?rest1 fun hk => ?inner1
  case inner1 =>
    have h := hc
    refine c_not ?_
    refine c_test ?_
    refine c_isi ?_
    refine c_varD rfl ?_
    refine v_d ?_
    refine bnd h fun v2 e h => l_isi e ?_
    refine b_b ?_
    refine ite_h h (fun hb h => ?_) fun hb h => ?_
    · cases h
      exact hk
    · refine c_or1 ?_
      refine c_test ?_
      refine c_op ?_
      refine c_cb ?_
      refine c_cons ?_
      refine c_varD rfl ?_
      refine c_nil ?_
      refine v_cons ?_
      refine v_d ?_
      refine v_nil ?_
      refine bnd h fun v3 e h => l_len e ?_
      refine c_c ?_
      refine v_d ?_
      refine v_d ?_
      refine l_neI ?_
      refine b_b ?_
      refine ite_h h (fun hb h => ?_) fun hb h => ?_
      · cases h
        exact hk
      · refine c_not ?_
        refine c_test ?_
        refine c_call ?_
        refine c_cons ?_
        refine c_op ?_
        refine c_varD rfl ?_
        refine c_c ?_
        refine v_d ?_
        refine v_d ?_
        refine bnd h fun v4 e h => l_ix e ?_
        refine c_nil ?_
        refine And.intro List.nodup_nil ?_
        refine a_F ?_
        refine t_d ?_
        refine a_0 ?_
        refine bnd h fun v5 e h => sp_is_name e ?_
        refine k_F ?_
        refine k_0 ?_
        refine n_d ?_
        refine b_b ?_
        cases h
        exact hk
  refine ite_h h (fun hb h => ?_) fun hb h => ?_
  · refine s_ret ?_
    refine c_c ?_
    cases h
    exact hP
  · refine s_next ?_
    refine e_nx ?_
    refine s_seq ?_
    refine s_if ?_
    refine bnd h fun c6 hc h => ?_
    refine c_or (c := c6) (δ' := [.dat a_thing, .un]) ?rest2 fun hk => ?inner2
    case inner2 =>
      have h := hc
      refine c_not ?_
      refine c_test ?_
      refine c_isi ?_
      refine c_op ?_
      refine c_varD rfl ?_
      refine c_c ?_
      refine v_d ?_
      refine v_d ?_
      refine bnd h fun v7 e h => l_ix e ?_
      refine v_d ?_
      refine bnd h fun v8 e h => l_isi e ?_
      refine b_b ?_
      refine ite_h h (fun hb h => ?_) fun hb h => ?_
      · cases h
        exact hk
      · refine c_test ?_
        refine c_op ?_
        refine c_cb ?_
        refine c_cons ?_
        refine c_op ?_
        refine c_varD rfl ?_
        refine c_c ?_
        refine v_d ?_
        refine v_d ?_
        refine bnd h fun v9 e h => l_ix e ?_
        refine c_nil ?_
        refine v_cons ?_
        refine v_d ?_
        refine v_nil ?_
        refine bnd h fun v10 e h => l_len e ?_
        refine c_c ?_
        refine v_d ?_
        refine v_d ?_
        refine bnd h fun v11 e h => l_gt e ?_
        refine b_b ?_
        cases h
        exact hk
    refine ite_h h (fun hb h => ?_) fun hb h => ?_
    · refine s_ret ?_
      refine c_c ?_
      cases h
      exact hP
    · refine s_next ?_
      refine e_nx ?_
      refine s_ret ?_
      refine c_cb ?_
      refine c_cons ?_
      refine c_lc ?_
      refine i_seq ?_
      refine c_op ?_
      refine c_varD rfl ?_
      refine c_c ?_
      refine v_d ?_
      refine v_d ?_
      refine bnd h fun v12 e h => l_ix e ?_
      refine t_d ?_
      refine bnd h fun v13 e h => it_d e ?_
      refine And.intro rfl ?_
      refine bnd h fun u16 eu h => ?_
      refine bnd h fun w17 ev h => lc_map eu ev ?rest3 fun x14 y15 h p p' hp => ?body3
      case body3 =>
        refine l_gN ?_
        simp_arith [id_eq]
        refine c_yes ?_
        refine if_t ?_
        refine c_call ?_
        refine c_cons ?_
        refine c_varD rfl ?_
        refine c_cons ?_
        refine c_c ?_
        refine c_cons ?_
        refine c_c ?_
        refine c_nil ?_
        refine And.intro List.nodup_nil ?_
        refine a_F ?_
        refine t_d ?_
        refine a_F ?_
        refine t_d ?_
        refine a_F ?_
        refine t_d ?_
        refine a_0 ?_
        refine bnd h fun v18 e h => sp_is_among e ?_
        refine k_F ?_
        refine k_F ?_
        refine k_F ?_
        refine k_0 ?_
        refine n_d ?_
        refine t_d ?_
        cases h
        exact hp _ rfl
      refine c_nil ?_
      refine v_cons ?_
      refine v_n ?_
      refine v_nil ?_
      refine bnd h fun v19 e h => l_all e ?_
      cases h
      exact hP
def B_need_inputs_1 (c0 : D) (x5 : D) : Option (Ctl (Unit) (Rz Unit Unit)) :=
  (oT2 x5).bind fun v8 =>
  ((F_is_input v8.2).bind fun v10 =>
  if (!v10) = true then
  some true
  else
  (oGt v8.1 (.int 0)).bind fun v11 =>
  if v11 = true then
  (oSub v8.1 (.int 1)).bind fun v12 =>
  (oIx c0 v12).bind fun v13 =>
  (oIx v13 (.int 0)).bind fun v14 =>
  (oIx v8.2 (.int 0)).bind fun v15 =>
  (oGe v14 v15).bind fun v16 =>
  some v16
  else
  some false).bind fun c9 =>
  if c9 = true then
  some (.rt (.er "BadInputs" [("place", v8.1)] ()))
  else
  some (.nx ())
def F_need_inputs (a_thing : D) : Option (Rz Unit Unit) :=
  (oIsi "tuple" a_thing).bind fun v1 =>
  if (!v1) = true then
  some (.er "BadInputs" [("place", .none)] ())
  else
  (oList a_thing).bind fun v2 =>
  (oFor (fun x5 _ => B_need_inputs_1 a_thing x5 ) (enumD v2) ()).bind fun c21 => c21.go (fun st18 =>
  some (.ok ())) (fun v => some v)
def fs_need_inputs : FS := fun as P X => ∃ (a_thing : D) (r : Rz Unit Unit), as = [.dat a_thing] ∧ F_need_inputs a_thing = some r ∧ r.on (fun r => P (.dat .none) []) fun n xs b => X n xs []
theorem sp_need_inputs {a_thing : D} {r : Rz Unit Unit} {P : Re → List MO → Prop} {X : XW} (e : F_need_inputs a_thing = some r) (h : r.on (fun r => P (.dat .none) []) fun n xs b => X n xs []) : fs_need_inputs [.dat a_thing] P X := ⟨a_thing, r, rfl, e, h⟩
theorem law_need_inputs : ∀ as Pk Xk, fs_need_inputs as Pk Xk → as.length = 1 ∧ d_need_inputs fs_is_input (finX as Xk) (fin as Pk) (begin_ as 3) := by
  rintro as P X ⟨a_thing, r, rfl, h, hP⟩
  refine ⟨rfl, ?_⟩
  delta F_need_inputs at h
  delta d_need_inputs T_need_inputs_1 T_need_inputs_2 T_need_inputs_3 T_need_inputs_4 T_need_inputs_5
  rw [show begin_ [.dat a_thing] 3 = [.dat a_thing, .un, .un] from rfl]
  refine s_seq ?_
  refine s_if ?_
  refine c_not ?_
  refine c_test ?_
  refine c_isi ?_
  refine c_varD rfl ?_
  refine v_d ?_
  refine bnd h fun v1 e h => l_isi e ?_
  refine b_b ?_
  refine ite_h h (fun hb h => ?_) fun hb h => ?_
  · refine s_raise ?_
    refine c_cons ?_
    refine c_c ?_
    refine c_nil ?_
    refine t_cons ?_
    refine t_d ?_
    refine t_nil ?_
    refine And.intro rfl ?_
    cases h
    exact hP
  · refine s_next ?_
    refine e_nx ?_
    refine s_for ?_
    refine i_enumA ?_
    refine c_varD rfl ?_
    refine t_d ?_
    refine bnd h fun v2 e h => en_d e ?_
    refine bnd h fun c21 e h => f_for (fun (st17 : Unit) δ => ∃ (q3 : Sl) (q4 : Sl), δ = [.dat a_thing, q3, q4]) (R := (fun (v : Rz Unit Unit) => some v = some r)) ?body1 _ _ _ _ e ⟨_, _, rfl⟩ (fun st18 δ19 q hd => ?rest1) fun v q => go_r (R := fun v => some v) (v := v) h q
    case body1 =>
      rintro x5 _ k7 _ ⟨q3, q4, rfl⟩ h N6 hN6 hbk7 hrk7
      delta B_need_inputs_1 at h
      refine bnd h fun v8 e h => l_t2 e ?_
      simp_arith [id_eq]
      refine s_if ?_
      refine bnd h fun c9 hc h => ?_
      refine c_or (c := c9) (δ' := [.dat a_thing, .dat v8.1, .dat v8.2]) ?rest2 fun hk => ?inner2
      case inner2 =>
        have h := hc
        refine c_not ?_
        refine c_test ?_
        refine c_call ?_
        refine c_cons ?_
        refine c_varD rfl ?_
        refine c_nil ?_
        refine And.intro List.nodup_nil ?_
        refine a_F ?_
        refine t_d ?_
        refine a_0 ?_
        refine bnd h fun v10 e h => sp_is_input e ?_
        refine k_F ?_
        refine k_0 ?_
        refine n_d ?_
        refine b_b ?_
        refine ite_h h (fun hb h => ?_) fun hb h => ?_
        · cases h
          exact hk
        · refine c_and1 ?_
          refine c_test ?_
          refine c_op ?_
          refine c_varD rfl ?_
          refine c_c ?_
          refine v_d ?_
          refine v_d ?_
          refine bnd h fun v11 e h => l_gt e ?_
          refine b_b ?_
          refine ite_h h (fun hb h => ?_) fun hb h => ?_
          · refine c_test ?_
            refine c_op ?_
            refine c_op ?_
            refine c_op ?_
            refine c_varD rfl ?_
            refine c_op ?_
            refine c_varD rfl ?_
            refine c_c ?_
            refine v_d ?_
            refine v_d ?_
            refine bnd h fun v12 e h => l_sub e ?_
            refine v_d ?_
            refine v_d ?_
            refine bnd h fun v13 e h => l_ix e ?_
            refine c_c ?_
            refine v_d ?_
            refine v_d ?_
            refine bnd h fun v14 e h => l_ix e ?_
            refine c_op ?_
            refine c_varD rfl ?_
            refine c_c ?_
            refine v_d ?_
            refine v_d ?_
            refine bnd h fun v15 e h => l_ix e ?_
            refine v_d ?_
            refine v_d ?_
            refine bnd h fun v16 e h => l_ge e ?_
            refine b_b ?_
            cases h
            exact hk
          · cases h
            exact hk
      refine ite_h h (fun hb h => ?_) fun hb h => ?_
      · refine s_raise ?_
        refine c_cons ?_
        refine c_varD rfl ?_
        refine c_nil ?_
        refine t_cons ?_
        refine t_d ?_
        refine t_nil ?_
        refine And.intro rfl ?_
        have h := hrk7 _ (Option.some.inj h).symm
        cases h
        exact hP
      · refine s_next ?_
        cases h
        exact hN6 _ _ rfl ⟨_, _, rfl⟩
    obtain ⟨q3, q4, rfl⟩ := hd
    replace h := go_k h q
    cases h
    exact hP
def F_need_limit (a_thing : D) : Option (Rz Unit Unit) :=
  (F_is_among a_thing (.int 0) c_MOST_STEPS).bind fun v1 =>
  if (!v1) = true then
  some (.er "OutOfPlace" [] ())
  else
  some (.ok ())
def fs_need_limit : FS := fun as P X => ∃ (a_thing : D) (r : Rz Unit Unit), as = [.dat a_thing] ∧ F_need_limit a_thing = some r ∧ r.on (fun r => P (.dat .none) []) fun n xs b => X n xs []
theorem sp_need_limit {a_thing : D} {r : Rz Unit Unit} {P : Re → List MO → Prop} {X : XW} (e : F_need_limit a_thing = some r) (h : r.on (fun r => P (.dat .none) []) fun n xs b => X n xs []) : fs_need_limit [.dat a_thing] P X := ⟨a_thing, r, rfl, e, h⟩
theorem law_need_limit : ∀ as Pk Xk, fs_need_limit as Pk Xk → as.length = 1 ∧ d_need_limit fs_is_among (finX as Xk) (fin as Pk) (begin_ as 1) := by
  rintro as P X ⟨a_thing, r, rfl, h, hP⟩
  refine ⟨rfl, ?_⟩
  delta F_need_limit at h
  delta d_need_limit T_need_limit_1
  rw [show begin_ [.dat a_thing] 1 = [.dat a_thing] from rfl]
  refine s_if ?_
  refine c_not ?_
  refine c_test ?_
  refine c_call ?_
  refine c_cons ?_
  refine c_varD rfl ?_
  refine c_cons ?_
  refine c_c ?_
  refine c_cons ?_
  refine c_c ?_
  refine c_nil ?_
  refine And.intro List.nodup_nil ?_
  refine a_F ?_
  refine t_d ?_
  refine a_F ?_
  refine t_d ?_
  refine a_F ?_
  refine t_d ?_
  refine a_0 ?_
  refine bnd h fun v1 e h => sp_is_among e ?_
  refine k_F ?_
  refine k_F ?_
  refine k_F ?_
  refine k_0 ?_
  refine n_d ?_
  refine b_b ?_
  refine ite_h h (fun hb h => ?_) fun hb h => ?_
  · refine s_raise1 ?_
    cases h
    exact hP
  · refine s_next ?_
    cases h
    exact hP
def F__law_begun (a_script : D) (a_k : D) : Option ((List (Key × D))) :=
  (((oLe (.int 0) a_k).bind fun v3 =>
  if v3 = true then
  (oLen a_script).bind fun v4 =>
  (oLt a_k (.int v4)).bind fun v5 =>
  some v5
  else
  some false).bind fun c2 =>
  if c2 = true then
  (oIx a_script a_k).bind fun v6 =>
  some v6
  else
  some (.int 5)).bind fun c1 =>
  (oMod c1 (.int 1000000007)).bind fun v7 =>
  (oMul (.int 7919) a_k).bind fun v8 =>
  (oAdd v7 v8).bind fun v9 =>
  (oAdd v9 (.int 13)).bind fun v10 =>
  (oAbs c1).bind fun v11 =>
  (oPowI 10 18).bind fun v12 =>
  (oGe v11 (.int v12)).bind fun v13 =>
  if v13 = true then
  (oAbs c1).bind fun v14 =>
  (oPowI 10 60).bind fun v15 =>
  (oPowI 10 60).bind fun v16 =>
  (oMulI v15 v16).bind fun v17 =>
  (oMod v14 (.int v17)).bind fun v18 =>
  some (mergeD [] [(.inr "digits", v18), (.inr "number", v10)])
  else
  some (mergeD [] [(.inr "digits", (.int 0)), (.inr "number", v10)])
def fs__law_begun : FS := fun as P X => ∃ (a_script : D) (a_k : D) (r : (List (Key × D))), as = [.dat a_script, .dat a_k] ∧ F__law_begun a_script a_k = some r ∧ P (.new (.dK r)) []
theorem sp__law_begun {a_script : D} {a_k : D} {r : (List (Key × D))} {P : Re → List MO → Prop} {X : XW} (e : F__law_begun a_script a_k = some r) (h : P (.new (.dK r)) []) : fs__law_begun [.dat a_script, .dat a_k] P X := ⟨a_script, a_k, r, rfl, e, h⟩
theorem law__law_begun : ∀ as Pk Xk, fs__law_begun as Pk Xk → as.length = 2 ∧ d__law_begun (fin as Pk) (begin_ as 4) := by
  rintro as P X ⟨a_script, a_k, r, rfl, h, hP⟩
  refine ⟨rfl, ?_⟩
  delta F__law_begun at h
  delta d__law_begun T__law_begun_1 T__law_begun_2 T__law_begun_3 T__law_begun_4 T__law_begun_5
  rw [show begin_ [.dat a_script, .dat a_k] 4 = [.dat a_script, .dat a_k, .un, .un] from rfl]
  refine s_seq ?_
  refine s_asg ?_
  refine bnd h fun c1 hc h => ?_
  refine c_ifx (r := .dat c1) (δ' := [.dat a_script, .dat a_k, .un, .un]) ?rest1 fun hk => ?inner1
  case inner1 =>
    have h := hc
    refine c_test ?_
    refine bnd h fun c2 hc h => ?_
    refine c_chain (r := .dat (.bool c2)) (δ' := [.dat a_script, .dat a_k, .un, .un]) ?rest2 fun hk => ?inner2
    case inner2 =>
      have h := hc
      refine c_c ?_
      refine c_varD rfl ?_
      refine v_d ?_
      refine v_d ?_
      refine bnd h fun v3 e h => l_le e ?_
      refine ch_h h (fun hb h => ?_) fun hb h => ?_
      · refine c_cb ?_
        refine c_cons ?_
        refine c_varD rfl ?_
        refine c_nil ?_
        refine v_cons ?_
        refine v_d ?_
        refine v_nil ?_
        refine bnd h fun v4 e h => l_len e ?_
        refine v_d ?_
        refine v_d ?_
        refine bnd h fun v5 e h => l_lt e ?_
        cases h
        exact hk
      · cases h
        exact hk
    refine b_b ?_
    refine ite_h h (fun hb h => ?_) fun hb h => ?_
    · refine c_op ?_
      refine c_varD rfl ?_
      refine c_varD rfl ?_
      refine v_d ?_
      refine v_d ?_
      refine bnd h fun v6 e h => l_ix e ?_
      cases h
      exact hk
    · refine c_c ?_
      cases h
      exact hk
  refine p_d ?_
  simp_arith [id_eq]
  refine e_nx ?_
  refine s_seq ?_
  refine s_asg ?_
  refine c_op ?_
  refine c_op ?_
  refine c_op ?_
  refine c_varD rfl ?_
  refine c_c ?_
  refine v_d ?_
  refine v_d ?_
  refine bnd h fun v7 e h => l_mod e ?_
  refine c_op ?_
  refine c_c ?_
  refine c_varD rfl ?_
  refine v_d ?_
  refine v_d ?_
  refine bnd h fun v8 e h => l_mul e ?_
  refine v_d ?_
  refine v_d ?_
  refine bnd h fun v9 e h => l_add e ?_
  refine c_c ?_
  refine v_d ?_
  refine v_d ?_
  refine bnd h fun v10 e h => l_add e ?_
  refine p_d ?_
  simp_arith [id_eq]
  refine e_nx ?_
  refine s_seq ?_
  refine s_if ?_
  refine c_test ?_
  refine c_op ?_
  refine c_cb ?_
  refine c_cons ?_
  refine c_varD rfl ?_
  refine c_nil ?_
  refine v_cons ?_
  refine v_d ?_
  refine v_nil ?_
  refine bnd h fun v11 e h => l_abs e ?_
  refine c_op ?_
  refine c_c ?_
  refine c_c ?_
  refine v_d ?_
  refine v_d ?_
  refine bnd h fun v12 e h => l_powI e ?_
  refine v_d ?_
  refine v_d ?_
  refine bnd h fun v13 e h => l_ge e ?_
  refine b_b ?_
  refine ite_h h (fun hb h => ?_) fun hb h => ?_
  · refine s_ret ?_
    refine c_disp ?_
    refine ps_1 ?_
    refine c_op ?_
    refine c_cb ?_
    refine c_cons ?_
    refine c_varD rfl ?_
    refine c_nil ?_
    refine v_cons ?_
    refine v_d ?_
    refine v_nil ?_
    refine bnd h fun v14 e h => l_abs e ?_
    refine c_op ?_
    refine c_op ?_
    refine c_c ?_
    refine c_c ?_
    refine v_d ?_
    refine v_d ?_
    refine bnd h fun v15 e h => l_powI e ?_
    refine c_op ?_
    refine c_c ?_
    refine c_c ?_
    refine v_d ?_
    refine v_d ?_
    refine bnd h fun v16 e h => l_powI e ?_
    refine v_d ?_
    refine v_d ?_
    refine bnd h fun v17 e h => l_mulI e ?_
    refine v_d ?_
    refine v_d ?_
    refine bnd h fun v18 e h => l_mod e ?_
    refine t_d ?_
    refine ps_1 ?_
    refine c_varD rfl ?_
    refine t_d ?_
    refine ps_0 ?_
    refine And.intro (Nat.le_of_ble_eq_true rfl) ?_
    cases h
    exact hP
  · refine s_next ?_
    refine e_nx ?_
    refine s_ret ?_
    refine c_disp ?_
    refine ps_1 ?_
    refine c_c ?_
    refine t_d ?_
    refine ps_1 ?_
    refine c_varD rfl ?_
    refine t_d ?_
    refine ps_0 ?_
    refine And.intro (Nat.le_of_ble_eq_true rfl) ?_
    cases h
    exact hP
def F__law_pick (a_state : List (Key × D)) (a_many : D) : Option (D × (List (Key × D))) :=
  (oIx (dK a_state) (.str "digits")).bind fun v1 =>
  (oGt v1 (.int 0)).bind fun v2 =>
  if v2 = true then
  (oFdiv v1 a_many).bind fun v3 =>
  (oPut a_state (.str "digits") v3).bind fun v4 =>
  (oMod v1 a_many).bind fun v5 =>
  some (v5, v4)
  else
  (oIx (dK a_state) (.str "number")).bind fun v6 =>
  (oMul v6 (.int 48271)).bind fun v7 =>
  (oAdd v7 (.int 11)).bind fun v8 =>
  (oMod v8 (.int 2147483647)).bind fun v9 =>
  (oPut a_state (.str "number") v9).bind fun v10 =>
  (oAdd v9 (.int 7919)).bind fun v11 =>
  (oMul v9 v11).bind fun v12 =>
  (oMod v12 (.int 2147483629)).bind fun v13 =>
  (oFdiv v13 (.int 7)).bind fun v14 =>
  (oMod v14 a_many).bind fun v15 =>
  some (v15, v10)
def fs__law_pick : FS := fun as P X => ∃ (a_state : List (Key × D)) (a_many : D) (r : D × (List (Key × D))), as = [.io (.dK a_state), .dat a_many] ∧ F__law_pick a_state a_many = some r ∧ P (.dat r.1) [.dK r.2]
theorem sp__law_pick {a_state : List (Key × D)} {a_many : D} {r : D × (List (Key × D))} {P : Re → List MO → Prop} {X : XW} (e : F__law_pick a_state a_many = some r) (h : P (.dat r.1) [.dK r.2]) : fs__law_pick [.io (.dK a_state), .dat a_many] P X := ⟨a_state, a_many, r, rfl, e, h⟩
theorem law__law_pick : ∀ as Pk Xk, fs__law_pick as Pk Xk → as.length = 2 ∧ d__law_pick (fin as Pk) (begin_ as 4) := by
  rintro as P X ⟨a_state, a_many, r, rfl, h, hP⟩
  refine ⟨rfl, ?_⟩
  delta F__law_pick at h
  delta d__law_pick T__law_pick_1 T__law_pick_2 T__law_pick_3 T__law_pick_4 T__law_pick_5 T__law_pick_6 T__law_pick_7
  rw [show begin_ [.io (.dK a_state), .dat a_many] 4 = [.io (.dK a_state), .dat a_many, .un, .un] from rfl]
  refine s_seq ?_
  refine s_asg ?_
  refine c_op ?_
  refine c_varI rfl ?_
  refine c_c ?_
  refine v_iK rfl ?_
  refine v_d ?_
  refine bnd h fun v1 e h => l_ix e ?_
  refine p_d ?_
  simp_arith [id_eq]
  refine e_nx ?_
  refine s_seq ?_
  refine s_if ?_
  refine c_test ?_
  refine c_op ?_
  refine c_varD rfl ?_
  refine c_c ?_
  refine v_d ?_
  refine v_d ?_
  refine bnd h fun v2 e h => l_gt e ?_
  refine b_b ?_
  refine ite_h h (fun hb h => ?_) fun hb h => ?_
  · refine s_seq ?_
    refine s_put ?_
    refine c_op ?_
    refine c_varD rfl ?_
    refine c_varD rfl ?_
    refine v_d ?_
    refine v_d ?_
    refine bnd h fun v3 e h => l_fdiv e ?_
    refine t_d ?_
    refine And.intro (q_io rfl True.intro) ?_
    refine c_c ?_
    refine v_d ?_
    refine bnd h fun v4 e h => l_puti e rfl ?_
    simp_arith [id_eq]
    refine e_nx ?_
    refine s_ret ?_
    refine c_op ?_
    refine c_varD rfl ?_
    refine c_varD rfl ?_
    refine v_d ?_
    refine v_d ?_
    refine bnd h fun v5 e h => l_mod e ?_
    cases h
    exact hP
  · refine s_next ?_
    refine e_nx ?_
    refine s_seq ?_
    refine s_asg ?_
    refine c_op ?_
    refine c_op ?_
    refine c_op ?_
    refine c_op ?_
    refine c_varI rfl ?_
    refine c_c ?_
    refine v_iK rfl ?_
    refine v_d ?_
    refine bnd h fun v6 e h => l_ix e ?_
    refine c_c ?_
    refine v_d ?_
    refine v_d ?_
    refine bnd h fun v7 e h => l_mul e ?_
    refine c_c ?_
    refine v_d ?_
    refine v_d ?_
    refine bnd h fun v8 e h => l_add e ?_
    refine c_c ?_
    refine v_d ?_
    refine v_d ?_
    refine bnd h fun v9 e h => l_mod e ?_
    refine p_d ?_
    simp_arith [id_eq]
    refine e_nx ?_
    refine s_seq ?_
    refine s_put ?_
    refine c_varD rfl ?_
    refine t_d ?_
    refine And.intro (q_io rfl True.intro) ?_
    refine c_c ?_
    refine v_d ?_
    refine bnd h fun v10 e h => l_puti e rfl ?_
    simp_arith [id_eq]
    refine e_nx ?_
    refine s_ret ?_
    refine c_op ?_
    refine c_op ?_
    refine c_op ?_
    refine c_op ?_
    refine c_varD rfl ?_
    refine c_op ?_
    refine c_varD rfl ?_
    refine c_c ?_
    refine v_d ?_
    refine v_d ?_
    refine bnd h fun v11 e h => l_add e ?_
    refine v_d ?_
    refine v_d ?_
    refine bnd h fun v12 e h => l_mul e ?_
    refine c_c ?_
    refine v_d ?_
    refine v_d ?_
    refine bnd h fun v13 e h => l_mod e ?_
    refine c_c ?_
    refine v_d ?_
    refine v_d ?_
    refine bnd h fun v14 e h => l_fdiv e ?_
    refine c_varD rfl ?_
    refine v_d ?_
    refine v_d ?_
    refine bnd h fun v15 e h => l_mod e ?_
    cases h
    exact hP
def F__law_names (a_state : List (Key × D)) (a_many : D) : Option ((List D) × (List (Key × D))) :=
  (F__law_pick a_state (.int 4)).bind fun v1 =>
  (oRng1 v1.1 ).bind fun v2 =>
  (few v2).bind fun u5 =>
  (oMapS (fun x3 s7 =>
  (F__law_pick s7 (.int 9)).bind fun v8 =>
  (oIx (.str "qzbxvjcgy") v8.1).bind fun v9 =>
  some (v9, v8.2)) v2 v1.2).bind fun w6 =>
  (oJoin "" (.list w6.1)).bind fun v10 =>
  (oAdd v1.1 (.int 1)).bind fun v11 =>
  (F__law_pick w6.2 v11).bind fun v12 =>
  (F__law_pick v12.2 (.int 9)).bind fun v13 =>
  (F__law_pick v13.2 (.int 6)).bind fun v14 =>
  (oIx (.list [(.int 1), (.int 2), (.int 4), (.int 5), (.int 7), (.int 8)]) v14.1).bind fun v15 =>
  (oT2 (.tuple [v13.1, v15])).bind fun v16 =>
  (oRng1 a_many ).bind fun v17 =>
  (few v17).bind fun u20 =>
  (oMap (fun x18 =>
  (oMul v16.2 x18).bind fun v22 =>
  (oAdd v16.1 v22).bind fun v23 =>
  (oMod v23 (.int 9)).bind fun v24 =>
  (oIx (.str "qzbxvjcgy") v24).bind fun v25 =>
  some v25) v17).bind fun w21 =>
  (F__law_pick v14.2 (.int 4)).bind fun v26 =>
  (oEq v26.1 (.int 0)).bind fun v27 =>
  if v27 = true then
  (oRng1 a_many ).bind fun v28 =>
  (few v28).bind fun u31 =>
  (oMap (fun x29 =>
  (oIx (.list w21) (.int 0)).bind fun v33 =>
  (oSub a_many x29).bind fun v34 =>
  (oMul v33 v34).bind fun v35 =>
  some v35) v28).bind fun w32 =>
  some (w32, v26.2)
  else
  (oEq v26.1 (.int 1)).bind fun v36 =>
  if v36 = true then
  (oSplit "cond name number order over row said step steps trace" (.str " ")).bind fun v37 =>
  (oMod v16.1 (.int 5)).bind fun v38 =>
  (oI v38).bind fun v39 =>
  (oSlL (.list v37) (some v39) none).bind fun v40 =>
  (oI a_many).bind fun v41 =>
  (oSlL (.list v40) none (some v41)).bind fun v42 =>
  some (v42, v26.2)
  else
  (few w21).bind fun u45 =>
  (oMap (fun x43 =>
  (oI v12.1).bind fun v47 =>
  (oSl (.str v10) none (some v47)).bind fun v48 =>
  (oAdd v48 x43).bind fun v49 =>
  (oI v12.1).bind fun v50 =>
  (oSl (.str v10) (some v50) none).bind fun v51 =>
  (oAdd v49 v51).bind fun v52 =>
  some v52) w21).bind fun w46 =>
  some (w46, v26.2)
def fs__law_names : FS := fun as P X => ∃ (a_state : List (Key × D)) (a_many : D) (r : (List D) × (List (Key × D))), as = [.io (.dK a_state), .dat a_many] ∧ F__law_names a_state a_many = some r ∧ P (.new (.lst r.1)) [.dK r.2]
theorem sp__law_names {a_state : List (Key × D)} {a_many : D} {r : (List D) × (List (Key × D))} {P : Re → List MO → Prop} {X : XW} (e : F__law_names a_state a_many = some r) (h : P (.new (.lst r.1)) [.dK r.2]) : fs__law_names [.io (.dK a_state), .dat a_many] P X := ⟨a_state, a_many, r, rfl, e, h⟩
theorem law__law_names : ∀ as Pk Xk, fs__law_names as Pk Xk → as.length = 2 ∧ d__law_names fs__law_pick (fin as Pk) (begin_ as 12) := by
  rintro as P X ⟨a_state, a_many, r, rfl, h, hP⟩
  refine ⟨rfl, ?_⟩
  delta F__law_names at h
  delta d__law_names T__law_names_1 T__law_names_2 T__law_names_3 T__law_names_4 T__law_names_5 T__law_names_6 T__law_names_7 T__law_names_8 T__law_names_9 T__law_names_10 T__law_names_11 T__law_names_12
  rw [show begin_ [.io (.dK a_state), .dat a_many] 12 = [.io (.dK a_state), .dat a_many, .un, .un, .un, .un, .un, .un, .un, .un, .un, .un] from rfl]
  refine s_seq ?_
  refine s_asg ?_
  refine c_c ?_
  refine p_d ?_
  simp_arith [id_eq]
  refine e_nx ?_
  refine s_seq ?_
  refine s_asg ?_
  refine c_call ?_
  refine c_cons ?_
  refine c_varI rfl ?_
  refine c_cons ?_
  refine c_c ?_
  refine c_nil ?_
  refine And.intro nd1 ?_
  refine a_S ?_
  refine a_F ?_
  refine t_d ?_
  refine a_0 ?_
  refine o_io rfl ?_
  refine bnd h fun v1 e h => sp__law_pick e ?_
  refine k_Si rfl ?_
  simp_arith [id_eq]
  refine k_F ?_
  refine k_0 ?_
  refine n_d ?_
  refine p_d ?_
  simp_arith [id_eq]
  refine e_nx ?_
  refine s_seq ?_
  refine s_asg ?_
  refine c_m1 ?_
  refine c_c ?_
  refine sr_s ?_
  refine c_lc ?_
  refine i_rng1 ?_
  refine c_cons ?_
  refine c_varD rfl ?_
  refine c_nil ?_
  refine v_cons ?_
  refine v_d ?_
  refine v_nil ?_
  refine bnd h fun v2 e h => rg1 e ?_
  refine And.intro rfl ?_
  refine bnd h fun u5 eu h => ?_
  refine bnd h fun w6 ev h => lc_mapS (fun s7 δ => δ = [.io (.dK s7), .dat a_many, .dat (.str "qzbxvjcgy"), .dat v1.1, .un, .un, .un, .un, .un, .un, .un, .un]) eu ev rfl (fun δ53 hd => ?rest1) fun x3 s7 y4 δ53 hd h p p' hp => ?body1
  case body1 =>
    subst hd
    refine l_gN ?_
    simp_arith [id_eq]
    refine c_yes ?_
    refine if_t ?_
    refine c_op ?_
    refine c_varD rfl ?_
    refine c_call ?_
    refine c_cons ?_
    refine c_varI rfl ?_
    refine c_cons ?_
    refine c_c ?_
    refine c_nil ?_
    refine And.intro nd1 ?_
    refine a_S ?_
    refine a_F ?_
    refine t_d ?_
    refine a_0 ?_
    refine o_io rfl ?_
    refine bnd h fun v8 e h => sp__law_pick e ?_
    refine k_Si rfl ?_
    simp_arith [id_eq]
    refine k_F ?_
    refine k_0 ?_
    refine n_d ?_
    refine v_d ?_
    refine v_d ?_
    refine bnd h fun v9 e h => l_ix e ?_
    refine t_d ?_
    cases h
    exact hp _ rfl
  subst hd
  refine v_n ?_
  refine bnd h fun v10 e h => l_join e ?_
  refine p_d ?_
  simp_arith [id_eq]
  refine e_nx ?_
  refine s_seq ?_
  refine s_asg ?_
  refine c_call ?_
  refine c_cons ?_
  refine c_varI rfl ?_
  refine c_cons ?_
  refine c_op ?_
  refine c_varD rfl ?_
  refine c_c ?_
  refine v_d ?_
  refine v_d ?_
  refine bnd h fun v11 e h => l_add e ?_
  refine c_nil ?_
  refine And.intro nd1 ?_
  refine a_S ?_
  refine a_F ?_
  refine t_d ?_
  refine a_0 ?_
  refine o_io rfl ?_
  refine bnd h fun v12 e h => sp__law_pick e ?_
  refine k_Si rfl ?_
  simp_arith [id_eq]
  refine k_F ?_
  refine k_0 ?_
  refine n_d ?_
  refine p_d ?_
  simp_arith [id_eq]
  refine e_nx ?_
  refine s_seq ?_
  refine s_unp ?_
  refine c_tup ?_
  refine c_cons ?_
  refine c_call ?_
  refine c_cons ?_
  refine c_varI rfl ?_
  refine c_cons ?_
  refine c_c ?_
  refine c_nil ?_
  refine And.intro nd1 ?_
  refine a_S ?_
  refine a_F ?_
  refine t_d ?_
  refine a_0 ?_
  refine o_io rfl ?_
  refine bnd h fun v13 e h => sp__law_pick e ?_
  refine k_Si rfl ?_
  simp_arith [id_eq]
  refine k_F ?_
  refine k_0 ?_
  refine n_d ?_
  refine c_cons ?_
  refine c_op ?_
  refine c_lst ?_
  refine c_cons ?_
  refine c_c ?_
  refine c_cons ?_
  refine c_c ?_
  refine c_cons ?_
  refine c_c ?_
  refine c_cons ?_
  refine c_c ?_
  refine c_cons ?_
  refine c_c ?_
  refine c_cons ?_
  refine c_c ?_
  refine c_nil ?_
  refine t_cons ?_
  refine t_d ?_
  refine t_cons ?_
  refine t_d ?_
  refine t_cons ?_
  refine t_d ?_
  refine t_cons ?_
  refine t_d ?_
  refine t_cons ?_
  refine t_d ?_
  refine t_cons ?_
  refine t_d ?_
  refine t_nil ?_
  refine And.intro (Nat.le_of_ble_eq_true rfl) ?_
  refine c_call ?_
  refine c_cons ?_
  refine c_varI rfl ?_
  refine c_cons ?_
  refine c_c ?_
  refine c_nil ?_
  refine And.intro nd1 ?_
  refine a_S ?_
  refine a_F ?_
  refine t_d ?_
  refine a_0 ?_
  refine o_io rfl ?_
  refine bnd h fun v14 e h => sp__law_pick e ?_
  refine k_Si rfl ?_
  simp_arith [id_eq]
  refine k_F ?_
  refine k_0 ?_
  refine n_d ?_
  refine v_n ?_
  refine v_d ?_
  refine bnd h fun v15 e h => l_ix e ?_
  refine c_nil ?_
  refine t_cons ?_
  refine t_d ?_
  refine t_cons ?_
  refine t_d ?_
  refine t_nil ?_
  refine And.intro (Nat.le_of_ble_eq_true rfl) ?_
  refine u_g ?_
  refine bnd h fun v16 e h => l_t2 e ?_
  simp_arith [id_eq]
  refine e_nx ?_
  refine s_seq ?_
  refine s_asg ?_
  refine c_lc ?_
  refine i_rng1 ?_
  refine c_cons ?_
  refine c_varD rfl ?_
  refine c_nil ?_
  refine v_cons ?_
  refine v_d ?_
  refine v_nil ?_
  refine bnd h fun v17 e h => rg1 e ?_
  refine And.intro rfl ?_
  refine bnd h fun u20 eu h => ?_
  refine bnd h fun w21 ev h => lc_map eu ev ?rest2 fun x18 y19 h p p' hp => ?body2
  case body2 =>
    refine l_gN ?_
    simp_arith [id_eq]
    refine c_yes ?_
    refine if_t ?_
    refine c_op ?_
    refine c_varD rfl ?_
    refine c_op ?_
    refine c_op ?_
    refine c_varD rfl ?_
    refine c_op ?_
    refine c_varD rfl ?_
    refine c_varD rfl ?_
    refine v_d ?_
    refine v_d ?_
    refine bnd h fun v22 e h => l_mul e ?_
    refine v_d ?_
    refine v_d ?_
    refine bnd h fun v23 e h => l_add e ?_
    refine c_c ?_
    refine v_d ?_
    refine v_d ?_
    refine bnd h fun v24 e h => l_mod e ?_
    refine v_d ?_
    refine v_d ?_
    refine bnd h fun v25 e h => l_ix e ?_
    refine t_d ?_
    cases h
    exact hp _ rfl
  refine p_n ?_
  simp_arith [id_eq]
  refine e_nx ?_
  refine s_seq ?_
  refine s_asg ?_
  refine c_call ?_
  refine c_cons ?_
  refine c_varI rfl ?_
  refine c_cons ?_
  refine c_c ?_
  refine c_nil ?_
  refine And.intro nd1 ?_
  refine a_S ?_
  refine a_F ?_
  refine t_d ?_
  refine a_0 ?_
  refine o_io rfl ?_
  refine bnd h fun v26 e h => sp__law_pick e ?_
  refine k_Si rfl ?_
  simp_arith [id_eq]
  refine k_F ?_
  refine k_0 ?_
  refine n_d ?_
  refine p_d ?_
  simp_arith [id_eq]
  refine e_nx ?_
  refine s_seq ?_
  refine s_if ?_
  refine c_test ?_
  refine c_op ?_
  refine c_varD rfl ?_
  refine c_c ?_
  refine v_d ?_
  refine v_d ?_
  refine bnd h fun v27 e h => l_eq e ?_
  refine b_b ?_
  refine ite_h h (fun hb h => ?_) fun hb h => ?_
  · refine s_ret ?_
    refine c_lc ?_
    refine i_rng1 ?_
    refine c_cons ?_
    refine c_varD rfl ?_
    refine c_nil ?_
    refine v_cons ?_
    refine v_d ?_
    refine v_nil ?_
    refine bnd h fun v28 e h => rg1 e ?_
    refine And.intro rfl ?_
    refine bnd h fun u31 eu h => ?_
    refine bnd h fun w32 ev h => lc_map eu ev ?rest3 fun x29 y30 h p p' hp => ?body3
    case body3 =>
      refine l_gN ?_
      simp_arith [id_eq]
      refine c_yes ?_
      refine if_t ?_
      refine c_op ?_
      refine c_op ?_
      refine c_varO rfl ?_
      refine c_c ?_
      refine v_sL rfl ?_
      refine v_d ?_
      refine bnd h fun v33 e h => l_ix e ?_
      refine c_op ?_
      refine c_varD rfl ?_
      refine c_varD rfl ?_
      refine v_d ?_
      refine v_d ?_
      refine bnd h fun v34 e h => l_sub e ?_
      refine v_d ?_
      refine v_d ?_
      refine bnd h fun v35 e h => l_mul e ?_
      refine t_d ?_
      cases h
      exact hp _ rfl
    cases h
    exact hP
  · refine s_next ?_
    refine e_nx ?_
    refine s_seq ?_
    refine s_if ?_
    refine c_test ?_
    refine c_op ?_
    refine c_varD rfl ?_
    refine c_c ?_
    refine v_d ?_
    refine v_d ?_
    refine bnd h fun v36 e h => l_eq e ?_
    refine b_b ?_
    refine ite_h h (fun hb h => ?_) fun hb h => ?_
    · refine s_ret ?_
      refine c_sl ?_
      refine c_sl ?_
      refine c_m1 ?_
      refine c_c ?_
      refine sr_s ?_
      refine c_c ?_
      refine v_d ?_
      refine bnd h fun v37 e h => l_split e ?_
      refine c_part ?_
      refine c_op ?_
      refine c_varD rfl ?_
      refine c_c ?_
      refine v_d ?_
      refine v_d ?_
      refine bnd h fun v38 e h => l_mod e ?_
      refine v_d ?_
      refine bnd h fun v39 e h => i_d e ?_
      refine c_no ?_
      refine v_n ?_
      refine bnd h fun v40 e h => l_slL e ?_
      refine c_no ?_
      refine c_part ?_
      refine c_varD rfl ?_
      refine v_d ?_
      refine bnd h fun v41 e h => i_d e ?_
      refine v_n ?_
      refine bnd h fun v42 e h => l_slL e ?_
      cases h
      exact hP
    · refine s_next ?_
      refine e_nx ?_
      refine s_ret ?_
      refine c_lc ?_
      refine i_seq ?_
      refine c_varO rfl ?_
      refine t_sL rfl ?_
      simp_arith [id_eq]
      refine it_l ?_
      refine And.intro rfl ?_
      refine bnd h fun u45 eu h => ?_
      refine bnd h fun w46 ev h => lc_map eu ev ?rest4 fun x43 y44 h p p' hp => ?body4
      case body4 =>
        refine l_gN ?_
        simp_arith [id_eq]
        refine c_yes ?_
        refine if_t ?_
        refine c_op ?_
        refine c_op ?_
        refine c_sl ?_
        refine c_varD rfl ?_
        refine c_no ?_
        refine c_part ?_
        refine c_varD rfl ?_
        refine v_d ?_
        refine bnd h fun v47 e h => i_d e ?_
        refine v_d ?_
        refine bnd h fun v48 e h => l_sl e ?_
        refine c_varD rfl ?_
        refine v_d ?_
        refine v_d ?_
        refine bnd h fun v49 e h => l_add e ?_
        refine c_sl ?_
        refine c_varD rfl ?_
        refine c_part ?_
        refine c_varD rfl ?_
        refine v_d ?_
        refine bnd h fun v50 e h => i_d e ?_
        refine c_no ?_
        refine v_d ?_
        refine bnd h fun v51 e h => l_sl e ?_
        refine v_d ?_
        refine v_d ?_
        refine bnd h fun v52 e h => l_add e ?_
        refine t_d ?_
        cases h
        exact hp _ rfl
      cases h
      exact hP
def F__law_kind (a_error : D) : Option (D) :=
  (oIsC tb_BadProgram a_error).bind fun v1 =>
  (oIsC tb_BadInputs a_error).bind fun v2 =>
  (oIsC tb_OutOfPlace a_error).bind fun v3 =>
  (some [(.bool v1), (.bool v2), (.bool v3)]).bind fun a4 =>
  (oIsC tb_BadRow a_error).bind fun v5 =>
  (oIsC tb_BadPlacing a_error).bind fun v6 =>
  (oIsC tb_BadOrder a_error).bind fun v7 =>
  (oAddL (.list a4) (.list [(.bool v5), (.bool v6), (.bool v7)])).bind fun v8 =>
  (oIsC tb_BadPaper a_error).bind fun v9 =>
  (oIsC tb_Leaking a_error).bind fun v10 =>
  (oIsC tb_TooGreat a_error).bind fun v11 =>
  (oAddL (.list v8) (.list [(.bool v9), (.bool v10), (.bool v11)])).bind fun v12 =>
  ((oLcnt v12 (.bool true)).bind fun v14 =>
  if (!(decide (v14 = 1))) = true then
  some true
  else
  (oIsC tb_ValueError a_error).bind fun v15 =>
  some (!v15)).bind fun c13 =>
  if c13 = true then
  some (.str "other")
  else
  ((oIx (.list v12) (.int 0)).bind fun v17 =>
  (oB v17).bind fun v18 =>
  if v18 = true then
  some true
  else
  (oIx (.list v12) (.int 1)).bind fun v19 =>
  (oB v19).bind fun v20 =>
  some v20).bind fun c16 =>
  if c16 = true then
  ((oIx (.list v12) (.int 0)).bind fun v22 =>
  (oB v22).bind fun v23 =>
  if v23 = true then
  (oXFld "row" ns_row a_error).bind fun v24 =>
  some v24
  else
  (oXFld "place" ns_place a_error).bind fun v25 =>
  some v25).bind fun c21 =>
  (oIsi "bool" c21).bind fun v26 =>
  if v26 = true then
  some (.str "other")
  else
  (oIx (.list v12) (.int 0)).bind fun v27 =>
  (oInt v27).bind fun v28 =>
  (oIx (.list [(.str "inputs"), (.str "program")]) (.int v28)).bind fun v29 =>
  some (.tuple [v29, c21])
  else
  (oLidx v12 (.bool true)).bind fun v30 =>
  (oIx (.list [(.str "place"), (.str "row"), (.str "placing"), (.str "order"), (.str "paper"), (.str "leaking"), (.str "great")]) (.int (v30 - 2))).bind fun v31 =>
  some v31
def fs__law_kind : FS := fun as P X => ∃ (a_error : D) (r : D), as = [.dat a_error] ∧ F__law_kind a_error = some r ∧ P (.dat r) []
theorem sp__law_kind {a_error : D} {r : D} {P : Re → List MO → Prop} {X : XW} (e : F__law_kind a_error = some r) (h : P (.dat r) []) : fs__law_kind [.dat a_error] P X := ⟨a_error, r, rfl, e, h⟩
theorem law__law_kind : ∀ as Pk Xk, fs__law_kind as Pk Xk → as.length = 1 ∧ d__law_kind (fin as Pk) (begin_ as 3) := by
  rintro as P X ⟨a_error, r, rfl, h, hP⟩
  refine ⟨rfl, ?_⟩
  delta F__law_kind at h
  delta d__law_kind T__law_kind_1 T__law_kind_2 T__law_kind_3 T__law_kind_4 T__law_kind_5 T__law_kind_6 T__law_kind_7 T__law_kind_8
  rw [show begin_ [.dat a_error] 3 = [.dat a_error, .un, .un] from rfl]
  refine s_seq ?_
  refine s_asg ?_
  refine c_lst ?_
  refine c_cons ?_
  refine c_isC ?_
  refine c_varD rfl ?_
  refine v_d ?_
  refine bnd h fun v1 e h => l_isC e ?_
  refine c_cons ?_
  refine c_isC ?_
  refine c_varD rfl ?_
  refine v_d ?_
  refine bnd h fun v2 e h => l_isC e ?_
  refine c_cons ?_
  refine c_isC ?_
  refine c_varD rfl ?_
  refine v_d ?_
  refine bnd h fun v3 e h => l_isC e ?_
  refine c_nil ?_
  refine t_cons ?_
  refine t_d ?_
  refine t_cons ?_
  refine t_d ?_
  refine t_cons ?_
  refine t_d ?_
  refine t_nil ?_
  refine And.intro (Nat.le_of_ble_eq_true rfl) ?_
  refine p_n ?_
  simp_arith [id_eq]
  refine bnd h fun a4 e h => ?_
  cases e
  refine e_nx ?_
  refine s_seq ?_
  refine s_asg ?_
  refine c_op ?_
  refine c_varO rfl ?_
  refine c_lst ?_
  refine c_cons ?_
  refine c_isC ?_
  refine c_varD rfl ?_
  refine v_d ?_
  refine bnd h fun v5 e h => l_isC e ?_
  refine c_cons ?_
  refine c_isC ?_
  refine c_varD rfl ?_
  refine v_d ?_
  refine bnd h fun v6 e h => l_isC e ?_
  refine c_cons ?_
  refine c_isC ?_
  refine c_varD rfl ?_
  refine v_d ?_
  refine bnd h fun v7 e h => l_isC e ?_
  refine c_nil ?_
  refine t_cons ?_
  refine t_d ?_
  refine t_cons ?_
  refine t_d ?_
  refine t_cons ?_
  refine t_d ?_
  refine t_nil ?_
  refine And.intro (Nat.le_of_ble_eq_true rfl) ?_
  refine v_sL rfl ?_
  refine v_n ?_
  refine bnd h fun v8 e h => l_addL e ?_
  refine p_n ?_
  simp_arith [id_eq]
  refine e_nx ?_
  refine s_seq ?_
  refine s_asg ?_
  refine c_op ?_
  refine c_varO rfl ?_
  refine c_lst ?_
  refine c_cons ?_
  refine c_isC ?_
  refine c_varD rfl ?_
  refine v_d ?_
  refine bnd h fun v9 e h => l_isC e ?_
  refine c_cons ?_
  refine c_isC ?_
  refine c_varD rfl ?_
  refine v_d ?_
  refine bnd h fun v10 e h => l_isC e ?_
  refine c_cons ?_
  refine c_isC ?_
  refine c_varD rfl ?_
  refine v_d ?_
  refine bnd h fun v11 e h => l_isC e ?_
  refine c_nil ?_
  refine t_cons ?_
  refine t_d ?_
  refine t_cons ?_
  refine t_d ?_
  refine t_cons ?_
  refine t_d ?_
  refine t_nil ?_
  refine And.intro (Nat.le_of_ble_eq_true rfl) ?_
  refine v_sL rfl ?_
  refine v_n ?_
  refine bnd h fun v12 e h => l_addL e ?_
  refine p_n ?_
  simp_arith [id_eq]
  refine e_nx ?_
  refine s_seq ?_
  refine s_if ?_
  refine bnd h fun c13 hc h => ?_
  refine c_or (c := c13) (δ' := [.dat a_error, .own (.lst v12), .un]) ?rest1 fun hk => ?inner1
  case inner1 =>
    have h := hc
    refine c_test ?_
    refine c_op ?_
    refine c_lm1 ?_
    refine c_varO rfl ?_
    refine v_sL rfl ?_
    refine lk_l ?_
    refine c_c ?_
    refine v_sL rfl ?_
    refine v_d ?_
    refine lk_l ?_
    refine bnd h fun v14 e h => l_lcnt e ?_
    refine c_c ?_
    refine v_d ?_
    refine v_d ?_
    refine l_neI ?_
    refine b_b ?_
    refine ite_h h (fun hb h => ?_) fun hb h => ?_
    · cases h
      exact hk
    · refine c_not ?_
      refine c_test ?_
      refine c_isC ?_
      refine c_varD rfl ?_
      refine v_d ?_
      refine bnd h fun v15 e h => l_isC e ?_
      refine b_b ?_
      cases h
      exact hk
  refine ite_h h (fun hb h => ?_) fun hb h => ?_
  · refine s_ret ?_
    refine c_c ?_
    cases h
    exact hP
  · refine s_next ?_
    refine e_nx ?_
    refine s_seq ?_
    refine s_if ?_
    refine bnd h fun c16 hc h => ?_
    refine c_or (c := c16) (δ' := [.dat a_error, .own (.lst v12), .un]) ?rest2 fun hk => ?inner2
    case inner2 =>
      have h := hc
      refine c_test ?_
      refine c_op ?_
      refine c_varO rfl ?_
      refine c_c ?_
      refine v_sL rfl ?_
      refine v_d ?_
      refine bnd h fun v17 e h => l_ix e ?_
      refine bnd h fun v18 e h => b_d e ?_
      refine ite_h h (fun hb h => ?_) fun hb h => ?_
      · cases h
        exact hk
      · refine c_test ?_
        refine c_op ?_
        refine c_varO rfl ?_
        refine c_c ?_
        refine v_sL rfl ?_
        refine v_d ?_
        refine bnd h fun v19 e h => l_ix e ?_
        refine bnd h fun v20 e h => b_d e ?_
        cases h
        exact hk
    refine ite_h h (fun hb h => ?_) fun hb h => ?_
    · refine s_seq ?_
      refine s_asg ?_
      refine bnd h fun c21 hc h => ?_
      refine c_ifx (r := .dat c21) (δ' := [.dat a_error, .own (.lst v12), .un]) ?rest3 fun hk => ?inner3
      case inner3 =>
        have h := hc
        refine c_test ?_
        refine c_op ?_
        refine c_varO rfl ?_
        refine c_c ?_
        refine v_sL rfl ?_
        refine v_d ?_
        refine bnd h fun v22 e h => l_ix e ?_
        refine bnd h fun v23 e h => b_d e ?_
        refine ite_h h (fun hb h => ?_) fun hb h => ?_
        · refine c_xfld ?_
          refine c_varD rfl ?_
          refine v_d ?_
          refine bnd h fun v24 e h => l_xfld e ?_
          cases h
          exact hk
        · refine c_xfld ?_
          refine c_varD rfl ?_
          refine v_d ?_
          refine bnd h fun v25 e h => l_xfld e ?_
          cases h
          exact hk
      refine p_d ?_
      simp_arith [id_eq]
      refine e_nx ?_
      refine s_ret ?_
      refine c_ifx1 ?_
      refine c_test ?_
      refine c_isi ?_
      refine c_varD rfl ?_
      refine v_d ?_
      refine bnd h fun v26 e h => l_isi e ?_
      refine b_b ?_
      refine ite_h h (fun hb h => ?_) fun hb h => ?_
      · refine c_c ?_
        cases h
        exact hP
      · refine c_tup ?_
        refine c_cons ?_
        refine c_op ?_
        refine c_lst ?_
        refine c_cons ?_
        refine c_c ?_
        refine c_cons ?_
        refine c_c ?_
        refine c_nil ?_
        refine t_cons ?_
        refine t_d ?_
        refine t_cons ?_
        refine t_d ?_
        refine t_nil ?_
        refine And.intro (Nat.le_of_ble_eq_true rfl) ?_
        refine c_cb ?_
        refine c_cons ?_
        refine c_op ?_
        refine c_varO rfl ?_
        refine c_c ?_
        refine v_sL rfl ?_
        refine v_d ?_
        refine bnd h fun v27 e h => l_ix e ?_
        refine c_nil ?_
        refine v_cons ?_
        refine v_d ?_
        refine v_nil ?_
        refine bnd h fun v28 e h => l_int e ?_
        refine v_n ?_
        refine v_d ?_
        refine bnd h fun v29 e h => l_ix e ?_
        refine c_cons ?_
        refine c_varD rfl ?_
        refine c_nil ?_
        refine t_cons ?_
        refine t_d ?_
        refine t_cons ?_
        refine t_d ?_
        refine t_nil ?_
        refine And.intro (Nat.le_of_ble_eq_true rfl) ?_
        cases h
        exact hP
    · refine s_next ?_
      refine e_nx ?_
      refine s_ret ?_
      refine c_op ?_
      refine c_lst ?_
      refine c_cons ?_
      refine c_c ?_
      refine c_cons ?_
      refine c_c ?_
      refine c_cons ?_
      refine c_c ?_
      refine c_cons ?_
      refine c_c ?_
      refine c_cons ?_
      refine c_c ?_
      refine c_cons ?_
      refine c_c ?_
      refine c_cons ?_
      refine c_c ?_
      refine c_nil ?_
      refine t_cons ?_
      refine t_d ?_
      refine t_cons ?_
      refine t_d ?_
      refine t_cons ?_
      refine t_d ?_
      refine t_cons ?_
      refine t_d ?_
      refine t_cons ?_
      refine t_d ?_
      refine t_cons ?_
      refine t_d ?_
      refine t_cons ?_
      refine t_d ?_
      refine t_nil ?_
      refine And.intro (Nat.le_of_ble_eq_true rfl) ?_
      refine c_op ?_
      refine c_lm1 ?_
      refine c_varO rfl ?_
      refine v_sL rfl ?_
      refine lk_l ?_
      refine c_c ?_
      refine v_sL rfl ?_
      refine v_d ?_
      refine lk_l ?_
      refine bnd h fun v30 e h => l_lidx e ?_
      refine c_c ?_
      refine v_d ?_
      refine v_d ?_
      refine l_subI ?_
      refine v_n ?_
      refine v_d ?_
      refine bnd h fun v31 e h => l_ix e ?_
      cases h
      exact hP
def J__law_word_1 (p2 : D) (p3 : D) : Option (D) :=
  if (isNone p2) = true then
  some p3
  else
  (F__law_kind p2).bind fun v4 =>
  some v4
def F__law_word (rz0 : Rz D Unit) : Option (D) :=
  rz0.go (fun v5 =>
  J__law_word_1 (.none) v5) fun n6 xs7 b8 =>
  (oCatch tb_TwainError n6).bind fun c9 => if c9 = true then
  J__law_word_1 (excX n6 xs7) (.str "told")
  else
  none
theorem law__law_word {A : AP} {P : D → Prop} {rz0 : Rz D Unit} {r : D} (h : F__law_word rz0 = some r) (hA : ∀ P X, apOf rz0 P X → A P X) (hP : P (r)) (lf : Addr) : d__law_word fs__law_kind lf A (lamEnds P) (lamStart lf 4) := by
  delta F__law_word at h
  delta d__law_word T__law_word_1 T__law_word_2
  rw [show lamStart lf 4 = [.fn lf, .un, .un, .un] from rfl]
  refine s_seq ?_
  refine s_asg ?_
  refine c_c ?_
  refine p_d ?_
  simp_arith [id_eq]
  refine e_nx ?_
  refine s_seq ?_
  refine s_asg ?_
  refine c_c ?_
  refine p_d ?_
  simp_arith [id_eq]
  refine e_nx ?_
  refine s_seqJ (fun δ => ∃ (p2 : D) (p3 : D), ∃ (q1 : Sl), δ = [q1, .dat p2, .dat p3, .un] ∧ J__law_word_1 p2 p3 = some r) ?rest1 fun hJ => ?inner1
  case inner1 =>
    refine s_tryK ?_
    refine s_asg ?_
    refine c_act rfl hA ?_
    refine rz_go h (fun v5 h => ?_) fun n6 xs7 b8 h => ?_
    · refine p_d ?_
      simp_arith [id_eq]
      refine e_nx ?_
      exact hJ _ ⟨_, _, _, rfl, h⟩
    · refine catch_h h (fun h => ?_) fun h => ?_
      · refine s_suite (δ' := [.fn lf, .dat .none, .dat (.str "told"), .dat (excX n6 xs7)]) rfl ?_
        refine s_asg ?_
        refine c_varD rfl ?_
        refine p_d ?_
        simp_arith [id_eq]
        simp_arith [id_eq]
        refine e_nx ?_
        exact hJ _ ⟨_, _, _, rfl, h⟩
      · cases h
  rintro _ ⟨p2, p3, q1, rfl, h⟩
  delta J__law_word_1 at h
  refine s_ret ?_
  refine c_ifx1 ?_
  refine c_test ?_
  refine c_op ?_
  refine c_varD rfl ?_
  refine c_c ?_
  refine v_d ?_
  refine v_d ?_
  refine l_isN ?_
  refine b_b ?_
  refine ite_h h (fun hb h => ?_) fun hb h => ?_
  · refine c_varD rfl ?_
    cases h
    exact hP
  · refine c_call ?_
    refine c_cons ?_
    refine c_varD rfl ?_
    refine c_nil ?_
    refine And.intro List.nodup_nil ?_
    refine a_F ?_
    refine t_d ?_
    refine a_0 ?_
    refine bnd h fun v4 e h => sp__law_kind e ?_
    refine k_F ?_
    refine k_0 ?_
    refine n_d ?_
    cases h
    exact hP
def B__law_good_1 (x5 : D) (s0 : List (Key × D)) (s2 : List D) : Option ((List (Key × D)) × (List D)) :=
  (F__law_pick s0 (.int 4)).bind fun v8 =>
  (F__law_pick v8.2 (.int 301)).bind fun v9 =>
  (F__law_pick v9.2 (.int 9)).bind fun v10 =>
  (oFdiv v10.1 (.int 3)).bind fun v11 =>
  (oMin (.int 2) v11).bind fun v12 =>
  (oIx (.list [v8.1, v9.1, (.int 300)]) (.int v12)).bind fun v13 =>
  (F__law_pick v10.2 (.int 997)).bind fun v14 =>
  (F__law_pick v14.2 (.int 3)).bind fun v15 =>
  (oIx (.list [(.int 0), (.int 996), v14.1]) v15.1).bind fun v16 =>
  (oMul (.tuple [v16]) v13).bind fun v17 =>
  (oApp s2 (.tuple [x5, v17])).bind fun v18 =>
  some (v15.2, v18)
def F__law_good (a_state : List (Key × D)) (a_names_here : D) : Option ((List D) × (List (Key × D))) :=
  (oSrt a_names_here).bind fun v1 =>
  (oFold (fun x5 st19 => B__law_good_1  x5 st19.1 st19.2) v1 (a_state, [])).bind fun st20 =>
  some (st20.2, st20.1)
def fs__law_good : FS := fun as P X => ∃ (a_state : List (Key × D)) (a_names_here : D) (r : (List D) × (List (Key × D))), as = [.io (.dK a_state), .dat a_names_here] ∧ F__law_good a_state a_names_here = some r ∧ P (.new (.lst r.1)) [.dK r.2]
theorem sp__law_good {a_state : List (Key × D)} {a_names_here : D} {r : (List D) × (List (Key × D))} {P : Re → List MO → Prop} {X : XW} (e : F__law_good a_state a_names_here = some r) (h : P (.new (.lst r.1)) [.dK r.2]) : fs__law_good [.io (.dK a_state), .dat a_names_here] P X := ⟨a_state, a_names_here, r, rfl, e, h⟩
theorem law__law_good : ∀ as Pk Xk, fs__law_good as Pk Xk → as.length = 2 ∧ d__law_good fs__law_pick (fin as Pk) (begin_ as 6) := by
  rintro as P X ⟨a_state, a_names_here, r, rfl, h, hP⟩
  refine ⟨rfl, ?_⟩
  delta F__law_good at h
  delta d__law_good T__law_good_1 T__law_good_2 T__law_good_3 T__law_good_4
  rw [show begin_ [.io (.dK a_state), .dat a_names_here] 6 = [.io (.dK a_state), .dat a_names_here, .un, .un, .un, .un] from rfl]
  refine s_seq ?_
  refine s_asg ?_
  refine c_lst ?_
  refine c_nil ?_
  refine t_nil ?_
  refine And.intro (Nat.le_of_ble_eq_true rfl) ?_
  refine p_n ?_
  simp_arith [id_eq]
  refine e_nx ?_
  refine s_seq ?_
  refine s_for ?_
  refine i_seq ?_
  refine c_cb ?_
  refine c_cons ?_
  refine c_varD rfl ?_
  refine c_nil ?_
  refine v_cons ?_
  refine v_d ?_
  refine v_nil ?_
  refine bnd h fun v1 e h => l_srt e ?_
  refine t_n ?_
  refine it_l ?_
  refine bnd h fun st20 e h => f_fold (fun (st19 : (List (Key × D)) × (List D)) δ => ∃ (q2 : Sl) (q3 : Sl) (q4 : Sl), δ = [.io (.dK st19.1), .dat a_names_here, .own (.lst st19.2), q2, q3, q4]) ?body1 _ _ _ _ e ⟨_, _, _, rfl⟩ fun δ21 hd => ?rest1
  case body1 =>
    rintro x5 ⟨s0, s2⟩ k7 _ ⟨q2, q3, q4, rfl⟩ h N6 hN6
    delta B__law_good_1 at h
    refine l_gN ?_
    simp_arith [id_eq]
    refine s_seq ?_
    refine s_asg ?_
    refine c_op ?_
    refine c_lst ?_
    refine c_cons ?_
    refine c_call ?_
    refine c_cons ?_
    refine c_varI rfl ?_
    refine c_cons ?_
    refine c_c ?_
    refine c_nil ?_
    refine And.intro nd1 ?_
    refine a_S ?_
    refine a_F ?_
    refine t_d ?_
    refine a_0 ?_
    refine o_io rfl ?_
    refine bnd h fun v8 e h => sp__law_pick e ?_
    refine k_Si rfl ?_
    simp_arith [id_eq]
    refine k_F ?_
    refine k_0 ?_
    refine n_d ?_
    refine c_cons ?_
    refine c_call ?_
    refine c_cons ?_
    refine c_varI rfl ?_
    refine c_cons ?_
    refine c_c ?_
    refine c_nil ?_
    refine And.intro nd1 ?_
    refine a_S ?_
    refine a_F ?_
    refine t_d ?_
    refine a_0 ?_
    refine o_io rfl ?_
    refine bnd h fun v9 e h => sp__law_pick e ?_
    refine k_Si rfl ?_
    simp_arith [id_eq]
    refine k_F ?_
    refine k_0 ?_
    refine n_d ?_
    refine c_cons ?_
    refine c_c ?_
    refine c_nil ?_
    refine t_cons ?_
    refine t_d ?_
    refine t_cons ?_
    refine t_d ?_
    refine t_cons ?_
    refine t_d ?_
    refine t_nil ?_
    refine And.intro (Nat.le_of_ble_eq_true rfl) ?_
    refine c_cb ?_
    refine c_cons ?_
    refine c_c ?_
    refine c_cons ?_
    refine c_op ?_
    refine c_call ?_
    refine c_cons ?_
    refine c_varI rfl ?_
    refine c_cons ?_
    refine c_c ?_
    refine c_nil ?_
    refine And.intro nd1 ?_
    refine a_S ?_
    refine a_F ?_
    refine t_d ?_
    refine a_0 ?_
    refine o_io rfl ?_
    refine bnd h fun v10 e h => sp__law_pick e ?_
    refine k_Si rfl ?_
    simp_arith [id_eq]
    refine k_F ?_
    refine k_0 ?_
    refine n_d ?_
    refine c_c ?_
    refine v_d ?_
    refine v_d ?_
    refine bnd h fun v11 e h => l_fdiv e ?_
    refine c_nil ?_
    refine v_cons ?_
    refine v_d ?_
    refine v_cons ?_
    refine v_d ?_
    refine v_nil ?_
    refine bnd h fun v12 e h => l_min e ?_
    refine v_n ?_
    refine v_d ?_
    refine bnd h fun v13 e h => l_ix e ?_
    refine p_d ?_
    simp_arith [id_eq]
    refine e_nx ?_
    refine s_seq ?_
    refine s_asg ?_
    refine c_op ?_
    refine c_lst ?_
    refine c_cons ?_
    refine c_c ?_
    refine c_cons ?_
    refine c_c ?_
    refine c_cons ?_
    refine c_call ?_
    refine c_cons ?_
    refine c_varI rfl ?_
    refine c_cons ?_
    refine c_c ?_
    refine c_nil ?_
    refine And.intro nd1 ?_
    refine a_S ?_
    refine a_F ?_
    refine t_d ?_
    refine a_0 ?_
    refine o_io rfl ?_
    refine bnd h fun v14 e h => sp__law_pick e ?_
    refine k_Si rfl ?_
    simp_arith [id_eq]
    refine k_F ?_
    refine k_0 ?_
    refine n_d ?_
    refine c_nil ?_
    refine t_cons ?_
    refine t_d ?_
    refine t_cons ?_
    refine t_d ?_
    refine t_cons ?_
    refine t_d ?_
    refine t_nil ?_
    refine And.intro (Nat.le_of_ble_eq_true rfl) ?_
    refine c_call ?_
    refine c_cons ?_
    refine c_varI rfl ?_
    refine c_cons ?_
    refine c_c ?_
    refine c_nil ?_
    refine And.intro nd1 ?_
    refine a_S ?_
    refine a_F ?_
    refine t_d ?_
    refine a_0 ?_
    refine o_io rfl ?_
    refine bnd h fun v15 e h => sp__law_pick e ?_
    refine k_Si rfl ?_
    simp_arith [id_eq]
    refine k_F ?_
    refine k_0 ?_
    refine n_d ?_
    refine v_n ?_
    refine v_d ?_
    refine bnd h fun v16 e h => l_ix e ?_
    refine p_d ?_
    simp_arith [id_eq]
    refine e_nx ?_
    refine s_drop ?_
    refine c_mu (q_own rfl True.intro) ?_
    refine c_cons ?_
    refine c_tup ?_
    refine c_cons ?_
    refine c_varD rfl ?_
    refine c_cons ?_
    refine c_op ?_
    refine c_tup ?_
    refine c_cons ?_
    refine c_varD rfl ?_
    refine c_nil ?_
    refine t_cons ?_
    refine t_d ?_
    refine t_nil ?_
    refine And.intro (Nat.le_of_ble_eq_true rfl) ?_
    refine c_varD rfl ?_
    refine v_d ?_
    refine v_d ?_
    refine bnd h fun v17 e h => l_mul e ?_
    refine c_nil ?_
    refine t_cons ?_
    refine t_d ?_
    refine t_cons ?_
    refine t_d ?_
    refine t_nil ?_
    refine And.intro (Nat.le_of_ble_eq_true rfl) ?_
    refine c_nil ?_
    refine t_cons ?_
    refine t_d ?_
    refine t_nil ?_
    refine q_own rfl ?_
    refine lo_l ?_
    refine bnd h fun v18 e h => l_app e ?_
    simp_arith [id_eq]
    cases h
    exact hN6 _ ⟨_, _, _, rfl⟩
  obtain ⟨q2, q3, q4, rfl⟩ := hd
  refine e_nx ?_
  refine s_ret ?_
  refine c_varO rfl ?_
  cases h
  exact hP
def F__law_odd (a_state : List (Key × D)) (a_name : D) : Option (D × (List (Key × D))) :=
  (oSl a_name none (some 5)).bind fun v1 =>
  (oAdd (.str "A") v1).bind fun v2 =>
  (some [.none, (.tuple [a_name]), (.list [a_name, (.tuple [])]), (.tuple [a_name, (.tuple []), (.tuple [])]), (.tuple [a_name, (.list [(.int 1)])]), (.tuple [a_name, .none]), (.tuple [(.str ""), (.tuple [])]), (.tuple [v2, (.tuple [])])]).bind fun a3 =>
  (oAdd a_name (.str "abcdefg")).bind fun v4 =>
  (oAddL (.list a3) (.list [(.tuple [v4, (.tuple [])]), (.tuple [(.str "say"), (.tuple [])]), (.tuple [(.str "east"), (.tuple [])]), (.tuple [(.int 5), (.tuple [])]), (.tuple [.none, (.tuple [])])])).bind fun v5 =>
  (oAddL (.list v5) (.list [(.tuple [a_name, (.tuple [(.int 997)])]), (.tuple [a_name, (.tuple [(.int (-1))])])])).bind fun v6 =>
  (oMul (.tuple [(.int 0)]) (.int 301)).bind fun v7 =>
  (oAddL (.list v6) (.list [(.tuple [a_name, (.tuple [(.bool true)])]), (.tuple [a_name, (.tuple [(.str "1")])]), (.tuple [a_name, (.tuple [.none])]), (.tuple [a_name, (.tuple [(.tuple [(.int 1)])])]), (.tuple [a_name, v7]), (.tuple [a_name, (dK [])])])).bind fun v8 =>
  (oPowI 10 30).bind fun v9 =>
  (oAddL (.list v8) (.list [(.tuple [(.tuple []), a_name]), (.tuple [a_name, (.int 1)]), (.tuple [a_name, (.tuple [(.int 1), (.int v9)])]), (.str "a"), (dK []), (.int 7)])).bind fun v10 =>
  (F__law_pick a_state (.int 27)).bind fun v11 =>
  (oIx (.list v10) v11.1).bind fun v12 =>
  some (v12, v11.2)
def fs__law_odd : FS := fun as P X => ∃ (a_state : List (Key × D)) (a_name : D) (r : D × (List (Key × D))), as = [.io (.dK a_state), .dat a_name] ∧ F__law_odd a_state a_name = some r ∧ P (.dat r.1) [.dK r.2]
theorem sp__law_odd {a_state : List (Key × D)} {a_name : D} {r : D × (List (Key × D))} {P : Re → List MO → Prop} {X : XW} (e : F__law_odd a_state a_name = some r) (h : P (.dat r.1) [.dK r.2]) : fs__law_odd [.io (.dK a_state), .dat a_name] P X := ⟨a_state, a_name, r, rfl, e, h⟩
theorem law__law_odd : ∀ as Pk Xk, fs__law_odd as Pk Xk → as.length = 2 ∧ d__law_odd fs__law_pick (fin as Pk) (begin_ as 3) := by
  rintro as P X ⟨a_state, a_name, r, rfl, h, hP⟩
  refine ⟨rfl, ?_⟩
  delta F__law_odd at h
  delta d__law_odd T__law_odd_1 T__law_odd_2 T__law_odd_3 T__law_odd_4 T__law_odd_5
  rw [show begin_ [.io (.dK a_state), .dat a_name] 3 = [.io (.dK a_state), .dat a_name, .un] from rfl]
  refine s_seq ?_
  refine s_asg ?_
  refine c_lst ?_
  refine c_cons ?_
  refine c_c ?_
  refine c_cons ?_
  refine c_tup ?_
  refine c_cons ?_
  refine c_varD rfl ?_
  refine c_nil ?_
  refine t_cons ?_
  refine t_d ?_
  refine t_nil ?_
  refine And.intro (Nat.le_of_ble_eq_true rfl) ?_
  refine c_cons ?_
  refine c_lst ?_
  refine c_cons ?_
  refine c_varD rfl ?_
  refine c_cons ?_
  refine c_tup ?_
  refine c_nil ?_
  refine t_nil ?_
  refine And.intro (Nat.le_of_ble_eq_true rfl) ?_
  refine c_nil ?_
  refine t_cons ?_
  refine t_d ?_
  refine t_cons ?_
  refine t_d ?_
  refine t_nil ?_
  refine And.intro (Nat.le_of_ble_eq_true rfl) ?_
  refine c_cons ?_
  refine c_tup ?_
  refine c_cons ?_
  refine c_varD rfl ?_
  refine c_cons ?_
  refine c_tup ?_
  refine c_nil ?_
  refine t_nil ?_
  refine And.intro (Nat.le_of_ble_eq_true rfl) ?_
  refine c_cons ?_
  refine c_tup ?_
  refine c_nil ?_
  refine t_nil ?_
  refine And.intro (Nat.le_of_ble_eq_true rfl) ?_
  refine c_nil ?_
  refine t_cons ?_
  refine t_d ?_
  refine t_cons ?_
  refine t_d ?_
  refine t_cons ?_
  refine t_d ?_
  refine t_nil ?_
  refine And.intro (Nat.le_of_ble_eq_true rfl) ?_
  refine c_cons ?_
  refine c_tup ?_
  refine c_cons ?_
  refine c_varD rfl ?_
  refine c_cons ?_
  refine c_lst ?_
  refine c_cons ?_
  refine c_c ?_
  refine c_nil ?_
  refine t_cons ?_
  refine t_d ?_
  refine t_nil ?_
  refine And.intro (Nat.le_of_ble_eq_true rfl) ?_
  refine c_nil ?_
  refine t_cons ?_
  refine t_d ?_
  refine t_cons ?_
  refine t_n ?_
  refine t_nil ?_
  refine And.intro (Nat.le_of_ble_eq_true rfl) ?_
  refine c_cons ?_
  refine c_tup ?_
  refine c_cons ?_
  refine c_varD rfl ?_
  refine c_cons ?_
  refine c_c ?_
  refine c_nil ?_
  refine t_cons ?_
  refine t_d ?_
  refine t_cons ?_
  refine t_d ?_
  refine t_nil ?_
  refine And.intro (Nat.le_of_ble_eq_true rfl) ?_
  refine c_cons ?_
  refine c_tup ?_
  refine c_cons ?_
  refine c_c ?_
  refine c_cons ?_
  refine c_tup ?_
  refine c_nil ?_
  refine t_nil ?_
  refine And.intro (Nat.le_of_ble_eq_true rfl) ?_
  refine c_nil ?_
  refine t_cons ?_
  refine t_d ?_
  refine t_cons ?_
  refine t_d ?_
  refine t_nil ?_
  refine And.intro (Nat.le_of_ble_eq_true rfl) ?_
  refine c_cons ?_
  refine c_tup ?_
  refine c_cons ?_
  refine c_op ?_
  refine c_c ?_
  refine c_sl ?_
  refine c_varD rfl ?_
  refine c_no ?_
  refine c_part ?_
  refine c_c ?_
  refine v_d ?_
  refine i_i ?_
  refine v_d ?_
  refine bnd h fun v1 e h => l_sl e ?_
  refine v_d ?_
  refine v_d ?_
  refine bnd h fun v2 e h => l_add e ?_
  refine c_cons ?_
  refine c_tup ?_
  refine c_nil ?_
  refine t_nil ?_
  refine And.intro (Nat.le_of_ble_eq_true rfl) ?_
  refine c_nil ?_
  refine t_cons ?_
  refine t_d ?_
  refine t_cons ?_
  refine t_d ?_
  refine t_nil ?_
  refine And.intro (Nat.le_of_ble_eq_true rfl) ?_
  refine c_nil ?_
  refine t_cons ?_
  refine t_d ?_
  refine t_cons ?_
  refine t_d ?_
  refine t_cons ?_
  refine t_n ?_
  refine t_cons ?_
  refine t_d ?_
  refine t_cons ?_
  refine t_d ?_
  refine t_cons ?_
  refine t_d ?_
  refine t_cons ?_
  refine t_d ?_
  refine t_cons ?_
  refine t_d ?_
  refine t_nil ?_
  refine And.intro (Nat.le_of_ble_eq_true rfl) ?_
  refine p_n ?_
  simp_arith [id_eq]
  refine bnd h fun a3 e h => ?_
  cases e
  refine e_nx ?_
  refine s_seq ?_
  refine s_asg ?_
  refine c_op ?_
  refine c_varO rfl ?_
  refine c_lst ?_
  refine c_cons ?_
  refine c_tup ?_
  refine c_cons ?_
  refine c_op ?_
  refine c_varD rfl ?_
  refine c_c ?_
  refine v_d ?_
  refine v_d ?_
  refine bnd h fun v4 e h => l_add e ?_
  refine c_cons ?_
  refine c_tup ?_
  refine c_nil ?_
  refine t_nil ?_
  refine And.intro (Nat.le_of_ble_eq_true rfl) ?_
  refine c_nil ?_
  refine t_cons ?_
  refine t_d ?_
  refine t_cons ?_
  refine t_d ?_
  refine t_nil ?_
  refine And.intro (Nat.le_of_ble_eq_true rfl) ?_
  refine c_cons ?_
  refine c_tup ?_
  refine c_cons ?_
  refine c_c ?_
  refine c_cons ?_
  refine c_tup ?_
  refine c_nil ?_
  refine t_nil ?_
  refine And.intro (Nat.le_of_ble_eq_true rfl) ?_
  refine c_nil ?_
  refine t_cons ?_
  refine t_d ?_
  refine t_cons ?_
  refine t_d ?_
  refine t_nil ?_
  refine And.intro (Nat.le_of_ble_eq_true rfl) ?_
  refine c_cons ?_
  refine c_tup ?_
  refine c_cons ?_
  refine c_c ?_
  refine c_cons ?_
  refine c_tup ?_
  refine c_nil ?_
  refine t_nil ?_
  refine And.intro (Nat.le_of_ble_eq_true rfl) ?_
  refine c_nil ?_
  refine t_cons ?_
  refine t_d ?_
  refine t_cons ?_
  refine t_d ?_
  refine t_nil ?_
  refine And.intro (Nat.le_of_ble_eq_true rfl) ?_
  refine c_cons ?_
  refine c_tup ?_
  refine c_cons ?_
  refine c_c ?_
  refine c_cons ?_
  refine c_tup ?_
  refine c_nil ?_
  refine t_nil ?_
  refine And.intro (Nat.le_of_ble_eq_true rfl) ?_
  refine c_nil ?_
  refine t_cons ?_
  refine t_d ?_
  refine t_cons ?_
  refine t_d ?_
  refine t_nil ?_
  refine And.intro (Nat.le_of_ble_eq_true rfl) ?_
  refine c_cons ?_
  refine c_tup ?_
  refine c_cons ?_
  refine c_c ?_
  refine c_cons ?_
  refine c_tup ?_
  refine c_nil ?_
  refine t_nil ?_
  refine And.intro (Nat.le_of_ble_eq_true rfl) ?_
  refine c_nil ?_
  refine t_cons ?_
  refine t_d ?_
  refine t_cons ?_
  refine t_d ?_
  refine t_nil ?_
  refine And.intro (Nat.le_of_ble_eq_true rfl) ?_
  refine c_nil ?_
  refine t_cons ?_
  refine t_d ?_
  refine t_cons ?_
  refine t_d ?_
  refine t_cons ?_
  refine t_d ?_
  refine t_cons ?_
  refine t_d ?_
  refine t_cons ?_
  refine t_d ?_
  refine t_nil ?_
  refine And.intro (Nat.le_of_ble_eq_true rfl) ?_
  refine v_sL rfl ?_
  refine v_n ?_
  refine bnd h fun v5 e h => l_addL e ?_
  refine p_n ?_
  simp_arith [id_eq]
  refine e_nx ?_
  refine s_seq ?_
  refine s_asg ?_
  refine c_op ?_
  refine c_varO rfl ?_
  refine c_lst ?_
  refine c_cons ?_
  refine c_tup ?_
  refine c_cons ?_
  refine c_varD rfl ?_
  refine c_cons ?_
  refine c_tup ?_
  refine c_cons ?_
  refine c_c ?_
  refine c_nil ?_
  refine t_cons ?_
  refine t_d ?_
  refine t_nil ?_
  refine And.intro (Nat.le_of_ble_eq_true rfl) ?_
  refine c_nil ?_
  refine t_cons ?_
  refine t_d ?_
  refine t_cons ?_
  refine t_d ?_
  refine t_nil ?_
  refine And.intro (Nat.le_of_ble_eq_true rfl) ?_
  refine c_cons ?_
  refine c_tup ?_
  refine c_cons ?_
  refine c_varD rfl ?_
  refine c_cons ?_
  refine c_tup ?_
  refine c_cons ?_
  refine c_un ?_
  refine c_c ?_
  refine v_d ?_
  refine l_negI ?_
  refine c_nil ?_
  refine t_cons ?_
  refine t_d ?_
  refine t_nil ?_
  refine And.intro (Nat.le_of_ble_eq_true rfl) ?_
  refine c_nil ?_
  refine t_cons ?_
  refine t_d ?_
  refine t_cons ?_
  refine t_d ?_
  refine t_nil ?_
  refine And.intro (Nat.le_of_ble_eq_true rfl) ?_
  refine c_nil ?_
  refine t_cons ?_
  refine t_d ?_
  refine t_cons ?_
  refine t_d ?_
  refine t_nil ?_
  refine And.intro (Nat.le_of_ble_eq_true rfl) ?_
  refine v_sL rfl ?_
  refine v_n ?_
  refine bnd h fun v6 e h => l_addL e ?_
  refine p_n ?_
  simp_arith [id_eq]
  refine e_nx ?_
  refine s_seq ?_
  refine s_asg ?_
  refine c_op ?_
  refine c_varO rfl ?_
  refine c_lst ?_
  refine c_cons ?_
  refine c_tup ?_
  refine c_cons ?_
  refine c_varD rfl ?_
  refine c_cons ?_
  refine c_tup ?_
  refine c_cons ?_
  refine c_c ?_
  refine c_nil ?_
  refine t_cons ?_
  refine t_d ?_
  refine t_nil ?_
  refine And.intro (Nat.le_of_ble_eq_true rfl) ?_
  refine c_nil ?_
  refine t_cons ?_
  refine t_d ?_
  refine t_cons ?_
  refine t_d ?_
  refine t_nil ?_
  refine And.intro (Nat.le_of_ble_eq_true rfl) ?_
  refine c_cons ?_
  refine c_tup ?_
  refine c_cons ?_
  refine c_varD rfl ?_
  refine c_cons ?_
  refine c_tup ?_
  refine c_cons ?_
  refine c_c ?_
  refine c_nil ?_
  refine t_cons ?_
  refine t_d ?_
  refine t_nil ?_
  refine And.intro (Nat.le_of_ble_eq_true rfl) ?_
  refine c_nil ?_
  refine t_cons ?_
  refine t_d ?_
  refine t_cons ?_
  refine t_d ?_
  refine t_nil ?_
  refine And.intro (Nat.le_of_ble_eq_true rfl) ?_
  refine c_cons ?_
  refine c_tup ?_
  refine c_cons ?_
  refine c_varD rfl ?_
  refine c_cons ?_
  refine c_tup ?_
  refine c_cons ?_
  refine c_c ?_
  refine c_nil ?_
  refine t_cons ?_
  refine t_d ?_
  refine t_nil ?_
  refine And.intro (Nat.le_of_ble_eq_true rfl) ?_
  refine c_nil ?_
  refine t_cons ?_
  refine t_d ?_
  refine t_cons ?_
  refine t_d ?_
  refine t_nil ?_
  refine And.intro (Nat.le_of_ble_eq_true rfl) ?_
  refine c_cons ?_
  refine c_tup ?_
  refine c_cons ?_
  refine c_varD rfl ?_
  refine c_cons ?_
  refine c_tup ?_
  refine c_cons ?_
  refine c_tup ?_
  refine c_cons ?_
  refine c_c ?_
  refine c_nil ?_
  refine t_cons ?_
  refine t_d ?_
  refine t_nil ?_
  refine And.intro (Nat.le_of_ble_eq_true rfl) ?_
  refine c_nil ?_
  refine t_cons ?_
  refine t_d ?_
  refine t_nil ?_
  refine And.intro (Nat.le_of_ble_eq_true rfl) ?_
  refine c_nil ?_
  refine t_cons ?_
  refine t_d ?_
  refine t_cons ?_
  refine t_d ?_
  refine t_nil ?_
  refine And.intro (Nat.le_of_ble_eq_true rfl) ?_
  refine c_cons ?_
  refine c_tup ?_
  refine c_cons ?_
  refine c_varD rfl ?_
  refine c_cons ?_
  refine c_op ?_
  refine c_tup ?_
  refine c_cons ?_
  refine c_c ?_
  refine c_nil ?_
  refine t_cons ?_
  refine t_d ?_
  refine t_nil ?_
  refine And.intro (Nat.le_of_ble_eq_true rfl) ?_
  refine c_c ?_
  refine v_d ?_
  refine v_d ?_
  refine bnd h fun v7 e h => l_mul e ?_
  refine c_nil ?_
  refine t_cons ?_
  refine t_d ?_
  refine t_cons ?_
  refine t_d ?_
  refine t_nil ?_
  refine And.intro (Nat.le_of_ble_eq_true rfl) ?_
  refine c_cons ?_
  refine c_tup ?_
  refine c_cons ?_
  refine c_varD rfl ?_
  refine c_cons ?_
  refine c_dnew ?_
  refine c_nil ?_
  refine t_cons ?_
  refine t_d ?_
  refine t_cons ?_
  refine t_nK ?_
  refine t_nil ?_
  refine And.intro (Nat.le_of_ble_eq_true rfl) ?_
  refine c_nil ?_
  refine t_cons ?_
  refine t_d ?_
  refine t_cons ?_
  refine t_d ?_
  refine t_cons ?_
  refine t_d ?_
  refine t_cons ?_
  refine t_d ?_
  refine t_cons ?_
  refine t_d ?_
  refine t_cons ?_
  refine t_d ?_
  refine t_nil ?_
  refine And.intro (Nat.le_of_ble_eq_true rfl) ?_
  refine v_sL rfl ?_
  refine v_n ?_
  refine bnd h fun v8 e h => l_addL e ?_
  refine p_n ?_
  simp_arith [id_eq]
  refine e_nx ?_
  refine s_ret ?_
  refine c_op ?_
  refine c_op ?_
  refine c_varO rfl ?_
  refine c_lst ?_
  refine c_cons ?_
  refine c_tup ?_
  refine c_cons ?_
  refine c_tup ?_
  refine c_nil ?_
  refine t_nil ?_
  refine And.intro (Nat.le_of_ble_eq_true rfl) ?_
  refine c_cons ?_
  refine c_varD rfl ?_
  refine c_nil ?_
  refine t_cons ?_
  refine t_d ?_
  refine t_cons ?_
  refine t_d ?_
  refine t_nil ?_
  refine And.intro (Nat.le_of_ble_eq_true rfl) ?_
  refine c_cons ?_
  refine c_tup ?_
  refine c_cons ?_
  refine c_varD rfl ?_
  refine c_cons ?_
  refine c_c ?_
  refine c_nil ?_
  refine t_cons ?_
  refine t_d ?_
  refine t_cons ?_
  refine t_d ?_
  refine t_nil ?_
  refine And.intro (Nat.le_of_ble_eq_true rfl) ?_
  refine c_cons ?_
  refine c_tup ?_
  refine c_cons ?_
  refine c_varD rfl ?_
  refine c_cons ?_
  refine c_tup ?_
  refine c_cons ?_
  refine c_c ?_
  refine c_cons ?_
  refine c_op ?_
  refine c_c ?_
  refine c_c ?_
  refine v_d ?_
  refine v_d ?_
  refine bnd h fun v9 e h => l_powI e ?_
  refine c_nil ?_
  refine t_cons ?_
  refine t_d ?_
  refine t_cons ?_
  refine t_d ?_
  refine t_nil ?_
  refine And.intro (Nat.le_of_ble_eq_true rfl) ?_
  refine c_nil ?_
  refine t_cons ?_
  refine t_d ?_
  refine t_cons ?_
  refine t_d ?_
  refine t_nil ?_
  refine And.intro (Nat.le_of_ble_eq_true rfl) ?_
  refine c_cons ?_
  refine c_c ?_
  refine c_cons ?_
  refine c_dnew ?_
  refine c_cons ?_
  refine c_c ?_
  refine c_nil ?_
  refine t_cons ?_
  refine t_d ?_
  refine t_cons ?_
  refine t_d ?_
  refine t_cons ?_
  refine t_d ?_
  refine t_cons ?_
  refine t_d ?_
  refine t_cons ?_
  refine t_nK ?_
  refine t_cons ?_
  refine t_d ?_
  refine t_nil ?_
  refine And.intro (Nat.le_of_ble_eq_true rfl) ?_
  refine v_sL rfl ?_
  refine v_n ?_
  refine bnd h fun v10 e h => l_addL e ?_
  refine c_call ?_
  refine c_cons ?_
  refine c_varI rfl ?_
  refine c_cons ?_
  refine c_c ?_
  refine c_nil ?_
  refine And.intro nd1 ?_
  refine a_S ?_
  refine a_F ?_
  refine t_d ?_
  refine a_0 ?_
  refine o_io rfl ?_
  refine bnd h fun v11 e h => sp__law_pick e ?_
  refine k_Si rfl ?_
  simp_arith [id_eq]
  refine k_F ?_
  refine k_0 ?_
  refine n_d ?_
  refine v_n ?_
  refine v_d ?_
  refine bnd h fun v12 e h => l_ix e ?_
  cases h
  exact hP
def J__law_any_name_2 (p19 : List (Key × D)) (p20 : Str) (p21 : D) (p22 : D) : Option (D × (List (Key × D))) :=
  (itemsD p21).bind fun v25 =>
  (few v25).bind fun u28 =>
  (oFil (fun x26 =>
  (oIn x26 (.str p20)).bind fun v30 =>
  if (!v30) = true then
  some (some x26)
  else
  some none) v25).bind fun w29 =>
  (oEq (.list w29) (.list [])).bind fun v31 =>
  (if v31 = true then
  (oS p22).bind fun v33 =>
  (oSplit v33 (.str " ")).bind fun v34 =>
  (oIn p21 (.list v34)).bind fun v35 =>
  some (!v35)
  else
  some false).bind fun c32 =>
  some ((.tuple [p21, (.bool c32)]), p19)
def J__law_any_name_1 (p15 : List (Key × D)) (p16 : Str) (p17 : D) (p18 : D) : Option (D × (List (Key × D))) :=
  (F__law_pick p15 (.int 4)).bind fun v36 =>
  (oEq v36.1 (.int 0)).bind fun v37 =>
  if v37 = true then
  (oLen p17).bind fun v38 =>
  (F__law_pick v36.2 (.int v38)).bind fun v39 =>
  (some ("AZ09_- \u000a.~!\"#$&'()*+,/12345678:;<=>?@BCDEFGHIJKLMNOPQRSTUVWXY[\\]^`{|}")).bind fun a40 =>
  (oI v39.1).bind fun v41 =>
  (oSl p17 none (some v41)).bind fun v42 =>
  (oLen (.str a40)).bind fun v43 =>
  (F__law_pick v39.2 (.int v43)).bind fun v44 =>
  (oIx (.str a40) v44.1).bind fun v45 =>
  (oAdd v42 v45).bind fun v46 =>
  (oAdd v39.1 (.int 1)).bind fun v47 =>
  (oI v47).bind fun v48 =>
  (oSl p17 (some v48) none).bind fun v49 =>
  (oAdd v46 v49).bind fun v50 =>
  J__law_any_name_2 v44.2 p16 v50 p18
  else
  J__law_any_name_2 v36.2 p16 p17 p18
def F__law_any_name (a_state : List (Key × D)) : Option (D × (List (Key × D))) :=
  (some "abcdefghijklmnopqrstuvwxyz").bind fun a1 =>
  (F__law_pick a_state (.int 6)).bind fun v2 =>
  (oAdd (.int 1) v2.1).bind fun v3 =>
  (oRng1 v3 ).bind fun v4 =>
  (few v4).bind fun u7 =>
  (oMapS (fun x5 s9 =>
  (F__law_pick s9 (.int 26)).bind fun v10 =>
  (oIx (.str a1) v10.1).bind fun v11 =>
  some (v11, v10.2)) v4 v2.2).bind fun w8 =>
  (oJoin "" (.list w8.1)).bind fun v12 =>
  (some "let open ask say if else while east west kept mark plus less times").bind fun a13 =>
  (oAdd (.str a13) (.str " under same send take tell hear none")).bind fun v14 =>
  (F__law_pick w8.2 (.int 4)).bind fun v51 =>
  (oEq v51.1 (.int 0)).bind fun v52 =>
  if v52 = true then
  (oS v14).bind fun v53 =>
  (oSplit v53 (.str " ")).bind fun v54 =>
  (F__law_pick v51.2 (.int 21)).bind fun v55 =>
  (oIx (.list v54) v55.1).bind fun v56 =>
  J__law_any_name_1 v55.2 a1 v56 v14
  else
  J__law_any_name_1 v51.2 a1 (.str v12) v14
def fs__law_any_name : FS := fun as P X => ∃ (a_state : List (Key × D)) (r : D × (List (Key × D))), as = [.io (.dK a_state)] ∧ F__law_any_name a_state = some r ∧ P (.dat r.1) [.dK r.2]
theorem sp__law_any_name {a_state : List (Key × D)} {r : D × (List (Key × D))} {P : Re → List MO → Prop} {X : XW} (e : F__law_any_name a_state = some r) (h : P (.dat r.1) [.dK r.2]) : fs__law_any_name [.io (.dK a_state)] P X := ⟨a_state, r, rfl, e, h⟩
theorem law__law_any_name : ∀ as Pk Xk, fs__law_any_name as Pk Xk → as.length = 1 ∧ d__law_any_name fs__law_pick (fin as Pk) (begin_ as 9) := by
  rintro as P X ⟨a_state, r, rfl, h, hP⟩
  refine ⟨rfl, ?_⟩
  delta F__law_any_name at h
  delta d__law_any_name T__law_any_name_1 T__law_any_name_2 T__law_any_name_3 T__law_any_name_4 T__law_any_name_5 T__law_any_name_6 T__law_any_name_7 T__law_any_name_8 T__law_any_name_9 T__law_any_name_10 T__law_any_name_11 T__law_any_name_12
  rw [show begin_ [.io (.dK a_state)] 9 = [.io (.dK a_state), .un, .un, .un, .un, .un, .un, .un, .un] from rfl]
  refine s_seq ?_
  refine s_asg ?_
  refine c_c ?_
  refine p_d ?_
  simp_arith [id_eq]
  refine bnd h fun a1 e h => ?_
  cases e
  refine e_nx ?_
  refine s_seq ?_
  refine s_asg ?_
  refine c_m1 ?_
  refine c_c ?_
  refine sr_s ?_
  refine c_lc ?_
  refine i_rng1 ?_
  refine c_cons ?_
  refine c_op ?_
  refine c_c ?_
  refine c_call ?_
  refine c_cons ?_
  refine c_varI rfl ?_
  refine c_cons ?_
  refine c_c ?_
  refine c_nil ?_
  refine And.intro nd1 ?_
  refine a_S ?_
  refine a_F ?_
  refine t_d ?_
  refine a_0 ?_
  refine o_io rfl ?_
  refine bnd h fun v2 e h => sp__law_pick e ?_
  refine k_Si rfl ?_
  simp_arith [id_eq]
  refine k_F ?_
  refine k_0 ?_
  refine n_d ?_
  refine v_d ?_
  refine v_d ?_
  refine bnd h fun v3 e h => l_add e ?_
  refine c_nil ?_
  refine v_cons ?_
  refine v_d ?_
  refine v_nil ?_
  refine bnd h fun v4 e h => rg1 e ?_
  refine And.intro rfl ?_
  refine bnd h fun u7 eu h => ?_
  refine bnd h fun w8 ev h => lc_mapS (fun s9 δ => δ = [.io (.dK s9), .dat (.str "abcdefghijklmnopqrstuvwxyz"), .un, .un, .un, .un, .un, .un, .un]) eu ev rfl (fun δ57 hd => ?rest1) fun x5 s9 y6 δ57 hd h p p' hp => ?body1
  case body1 =>
    subst hd
    refine l_gN ?_
    simp_arith [id_eq]
    refine c_yes ?_
    refine if_t ?_
    refine c_op ?_
    refine c_varD rfl ?_
    refine c_call ?_
    refine c_cons ?_
    refine c_varI rfl ?_
    refine c_cons ?_
    refine c_c ?_
    refine c_nil ?_
    refine And.intro nd1 ?_
    refine a_S ?_
    refine a_F ?_
    refine t_d ?_
    refine a_0 ?_
    refine o_io rfl ?_
    refine bnd h fun v10 e h => sp__law_pick e ?_
    refine k_Si rfl ?_
    simp_arith [id_eq]
    refine k_F ?_
    refine k_0 ?_
    refine n_d ?_
    refine v_d ?_
    refine v_d ?_
    refine bnd h fun v11 e h => l_ix e ?_
    refine t_d ?_
    cases h
    exact hp _ rfl
  subst hd
  refine v_n ?_
  refine bnd h fun v12 e h => l_join e ?_
  refine p_d ?_
  simp_arith [id_eq]
  refine e_nx ?_
  refine s_seq ?_
  refine s_asg ?_
  refine c_c ?_
  refine p_d ?_
  simp_arith [id_eq]
  refine bnd h fun a13 e h => ?_
  cases e
  refine e_nx ?_
  refine s_seq ?_
  refine s_asg ?_
  refine c_op ?_
  refine c_varD rfl ?_
  refine c_c ?_
  refine v_d ?_
  refine v_d ?_
  refine bnd h fun v14 e h => l_add e ?_
  refine p_d ?_
  simp_arith [id_eq]
  refine e_nx ?_
  refine s_seqJ (fun δ => ∃ (p15 : List (Key × D)) (p16 : Str) (p17 : D) (p18 : D), δ = [.io (.dK p15), .dat (.str p16), .dat p17, .un, .dat p18, .un, .un, .un, .un] ∧ J__law_any_name_1 p15 p16 p17 p18 = some r) ?rest2 fun hJ => ?inner2
  case inner2 =>
    refine s_if ?_
    refine c_test ?_
    refine c_op ?_
    refine c_call ?_
    refine c_cons ?_
    refine c_varI rfl ?_
    refine c_cons ?_
    refine c_c ?_
    refine c_nil ?_
    refine And.intro nd1 ?_
    refine a_S ?_
    refine a_F ?_
    refine t_d ?_
    refine a_0 ?_
    refine o_io rfl ?_
    refine bnd h fun v51 e h => sp__law_pick e ?_
    refine k_Si rfl ?_
    simp_arith [id_eq]
    refine k_F ?_
    refine k_0 ?_
    refine n_d ?_
    refine c_c ?_
    refine v_d ?_
    refine v_d ?_
    refine bnd h fun v52 e h => l_eq e ?_
    refine b_b ?_
    refine ite_h h (fun hb h => ?_) fun hb h => ?_
    · refine s_asg ?_
      refine c_op ?_
      refine c_m1 ?_
      refine c_varD rfl ?_
      refine bnd h fun v53 e h => sr_d e ?_
      refine c_c ?_
      refine v_d ?_
      refine bnd h fun v54 e h => l_split e ?_
      refine c_call ?_
      refine c_cons ?_
      refine c_varI rfl ?_
      refine c_cons ?_
      refine c_c ?_
      refine c_nil ?_
      refine And.intro nd1 ?_
      refine a_S ?_
      refine a_F ?_
      refine t_d ?_
      refine a_0 ?_
      refine o_io rfl ?_
      refine bnd h fun v55 e h => sp__law_pick e ?_
      refine k_Si rfl ?_
      simp_arith [id_eq]
      refine k_F ?_
      refine k_0 ?_
      refine n_d ?_
      refine v_n ?_
      refine v_d ?_
      refine bnd h fun v56 e h => l_ix e ?_
      refine p_d ?_
      simp_arith [id_eq]
      refine e_nx ?_
      exact hJ _ ⟨_, _, _, _, rfl, h⟩
    · refine s_next ?_
      refine e_nx ?_
      exact hJ _ ⟨_, _, _, _, rfl, h⟩
  rintro _ ⟨p15, p16, p17, p18, rfl, h⟩
  delta J__law_any_name_1 at h
  refine s_seqJ (fun δ => ∃ (p19 : List (Key × D)) (p20 : Str) (p21 : D) (p22 : D), ∃ (q23 : Sl) (q24 : Sl), δ = [.io (.dK p19), .dat (.str p20), .dat p21, .un, .dat p22, q23, q24, .un, .un] ∧ J__law_any_name_2 p19 p20 p21 p22 = some r) ?rest3 fun hJ => ?inner3
  case inner3 =>
    refine s_if ?_
    refine c_test ?_
    refine c_op ?_
    refine c_call ?_
    refine c_cons ?_
    refine c_varI rfl ?_
    refine c_cons ?_
    refine c_c ?_
    refine c_nil ?_
    refine And.intro nd1 ?_
    refine a_S ?_
    refine a_F ?_
    refine t_d ?_
    refine a_0 ?_
    refine o_io rfl ?_
    refine bnd h fun v36 e h => sp__law_pick e ?_
    refine k_Si rfl ?_
    simp_arith [id_eq]
    refine k_F ?_
    refine k_0 ?_
    refine n_d ?_
    refine c_c ?_
    refine v_d ?_
    refine v_d ?_
    refine bnd h fun v37 e h => l_eq e ?_
    refine b_b ?_
    refine ite_h h (fun hb h => ?_) fun hb h => ?_
    · refine s_seq ?_
      refine s_asg ?_
      refine c_call ?_
      refine c_cons ?_
      refine c_varI rfl ?_
      refine c_cons ?_
      refine c_cb ?_
      refine c_cons ?_
      refine c_varD rfl ?_
      refine c_nil ?_
      refine v_cons ?_
      refine v_d ?_
      refine v_nil ?_
      refine bnd h fun v38 e h => l_len e ?_
      refine c_nil ?_
      refine And.intro nd1 ?_
      refine a_S ?_
      refine a_F ?_
      refine t_d ?_
      refine a_0 ?_
      refine o_io rfl ?_
      refine bnd h fun v39 e h => sp__law_pick e ?_
      refine k_Si rfl ?_
      simp_arith [id_eq]
      refine k_F ?_
      refine k_0 ?_
      refine n_d ?_
      refine p_d ?_
      simp_arith [id_eq]
      refine e_nx ?_
      refine s_seq ?_
      refine s_asg ?_
      refine c_c ?_
      refine p_d ?_
      simp_arith [id_eq]
      refine bnd h fun a40 e h => ?_
      cases e
      refine e_nx ?_
      refine s_asg ?_
      refine c_op ?_
      refine c_op ?_
      refine c_sl ?_
      refine c_varD rfl ?_
      refine c_no ?_
      refine c_part ?_
      refine c_varD rfl ?_
      refine v_d ?_
      refine bnd h fun v41 e h => i_d e ?_
      refine v_d ?_
      refine bnd h fun v42 e h => l_sl e ?_
      refine c_op ?_
      refine c_varD rfl ?_
      refine c_call ?_
      refine c_cons ?_
      refine c_varI rfl ?_
      refine c_cons ?_
      refine c_cb ?_
      refine c_cons ?_
      refine c_varD rfl ?_
      refine c_nil ?_
      refine v_cons ?_
      refine v_d ?_
      refine v_nil ?_
      refine bnd h fun v43 e h => l_len e ?_
      refine c_nil ?_
      refine And.intro nd1 ?_
      refine a_S ?_
      refine a_F ?_
      refine t_d ?_
      refine a_0 ?_
      refine o_io rfl ?_
      refine bnd h fun v44 e h => sp__law_pick e ?_
      refine k_Si rfl ?_
      simp_arith [id_eq]
      refine k_F ?_
      refine k_0 ?_
      refine n_d ?_
      refine v_d ?_
      refine v_d ?_
      refine bnd h fun v45 e h => l_ix e ?_
      refine v_d ?_
      refine v_d ?_
      refine bnd h fun v46 e h => l_add e ?_
      refine c_sl ?_
      refine c_varD rfl ?_
      refine c_part ?_
      refine c_op ?_
      refine c_varD rfl ?_
      refine c_c ?_
      refine v_d ?_
      refine v_d ?_
      refine bnd h fun v47 e h => l_add e ?_
      refine v_d ?_
      refine bnd h fun v48 e h => i_d e ?_
      refine c_no ?_
      refine v_d ?_
      refine bnd h fun v49 e h => l_sl e ?_
      refine v_d ?_
      refine v_d ?_
      refine bnd h fun v50 e h => l_add e ?_
      refine p_d ?_
      simp_arith [id_eq]
      refine e_nx ?_
      exact hJ _ ⟨_, _, _, _, _, _, rfl, h⟩
    · refine s_next ?_
      refine e_nx ?_
      exact hJ _ ⟨_, _, _, _, _, _, rfl, h⟩
  rintro _ ⟨p19, p20, p21, p22, q23, q24, rfl, h⟩
  delta J__law_any_name_2 at h
  refine s_seq ?_
  refine s_asg ?_
  refine c_op ?_
  refine c_lc ?_
  refine i_seq ?_
  refine c_varD rfl ?_
  refine t_d ?_
  refine bnd h fun v25 e h => it_d e ?_
  refine And.intro rfl ?_
  refine bnd h fun u28 eu h => ?_
  refine bnd h fun w29 ev h => lc_fil eu ev ?rest4 fun x26 y27 h p p' hp hp' => ?body4
  case body4 =>
    refine l_gN ?_
    simp_arith [id_eq]
    refine c_test ?_
    refine c_op ?_
    refine c_varD rfl ?_
    refine c_varD rfl ?_
    refine v_d ?_
    refine v_d ?_
    refine bnd h fun v30 e h => l_notIn e ?_
    refine b_b ?_
    refine ite_h h (fun hb h => ?_) fun hb h => ?_
    · refine c_varD rfl ?_
      refine t_d ?_
      cases h
      exact hp _ rfl _ rfl
    · cases h
      exact hp' rfl _ rfl
  refine c_lst ?_
  refine c_nil ?_
  refine t_nil ?_
  refine And.intro (Nat.le_of_ble_eq_true rfl) ?_
  refine v_n ?_
  refine v_n ?_
  refine bnd h fun v31 e h => l_eq e ?_
  refine p_d ?_
  simp_arith [id_eq]
  refine e_nx ?_
  refine s_ret ?_
  refine c_tup ?_
  refine c_cons ?_
  refine c_varD rfl ?_
  refine c_cons ?_
  refine bnd h fun c32 hc h => ?_
  refine c_andV (r := .dat (.bool c32)) (δ' := [.io (.dK p19), .dat (.str p20), .dat p21, .un, .dat p22, q23, q24, .dat (.bool v31), .un]) ?rest5 fun hk => ?inner5
  case inner5 =>
    have h := hc
    refine c_varD rfl ?_
    refine b_b ?_
    refine ite_h h (fun hb h => ?_) fun hb h => ?_
    · refine c_op ?_
      refine c_varD rfl ?_
      refine c_m1 ?_
      refine c_varD rfl ?_
      refine bnd h fun v33 e h => sr_d e ?_
      refine c_c ?_
      refine v_d ?_
      refine bnd h fun v34 e h => l_split e ?_
      refine v_d ?_
      refine v_n ?_
      refine bnd h fun v35 e h => l_notIn e ?_
      cases h
      exact hk
    · cases h
      exact hk
  refine c_nil ?_
  refine t_cons ?_
  refine t_d ?_
  refine t_cons ?_
  refine t_d ?_
  refine t_nil ?_
  refine And.intro (Nat.le_of_ble_eq_true rfl) ?_
  cases h
  exact hP
def F__law_many_right : Option (Bool) :=
  (some "abcdefghijklmnopqrstuvwxyz").bind fun a1 =>
  (itemsD (.str a1)).bind fun v2 =>
  (few v2).bind fun u5 =>
  (oMap (fun x3 =>
  (oAdd (.str "q") x3).bind fun v7 =>
  some v7) v2).bind fun w6 =>
  (itemsD (.str a1)).bind fun v8 =>
  (few v8).bind fun u11 =>
  (oMap (fun x9 =>
  (oAdd (.str "x") x9).bind fun v13 =>
  some v13) v8).bind fun w12 =>
  (oAddL (.list w6) (.list w12)).bind fun v14 =>
  (itemsD (.str a1)).bind fun v15 =>
  (few v15).bind fun u18 =>
  (oMap (fun x16 =>
  (oAdd (.str "z") x16).bind fun v20 =>
  some v20) v15).bind fun w19 =>
  (oAddL (.list v14) (.list w19)).bind fun v21 =>
  (few (enumD v21)).bind fun u24 =>
  (oMap (fun x22 =>
  (oT2 x22).bind fun v26 =>
  some (.tuple [v26.2, (.tuple [v26.1])])) (enumD v21)).bind fun w25 =>
  ((F_need_inputs (.tuple w25)).bind fun z29 => z29.go (fun v28 =>
  some (.ok (.none))) fun n30 xs31 b32 =>
  some (.er n30 xs31 ()) : Option (Rz D Unit)).bind fun z33 =>
  (F__law_word z33).bind fun v34 =>
  if (!(isNone v34)) = true then
  some false
  else
  ((oSl (.tuple w25) (some (-1)) none).bind fun v35 =>
  (oAdd (.tuple w25) v35).bind fun v36 =>
  (F_need_inputs v36).bind fun z39 => z39.go (fun v38 =>
  some (.ok (.none))) fun n40 xs41 b42 =>
  some (.er n40 xs41 ()) : Option (Rz D Unit)).bind fun z43 =>
  (F__law_word z43).bind fun v44 =>
  (oEq v44 (.tuple [(.str "inputs"), (.int 78)])).bind fun v45 =>
  some v45
def fs__law_many_right : FS := fun as P X => ∃ (r : Bool), as = [] ∧ F__law_many_right  = some r ∧ P (.dat (.bool r)) []
theorem sp__law_many_right {r : Bool} {P : Re → List MO → Prop} {X : XW} (e : F__law_many_right  = some r) (h : P (.dat (.bool r)) []) : fs__law_many_right [] P X := ⟨r, rfl, e, h⟩
theorem law__law_many_right : ∀ as Pk Xk, fs__law_many_right as Pk Xk → as.length = 0 ∧ d__law_many_right fs__law_kind fs_need_inputs (fin as Pk) (begin_ as 6) := by
  rintro as P X ⟨r, rfl, h, hP⟩
  refine ⟨rfl, ?_⟩
  delta F__law_many_right at h
  delta d__law_many_right T__law_many_right_1 T__law_many_right_2 T__law_many_right_3 T__law_many_right_4 T__law_many_right_5 T__law_many_right_6
  rw [show begin_ [] 6 = [.un, .un, .un, .un, .un, .un] from rfl]
  refine s_seq ?_
  refine s_asg ?_
  refine c_c ?_
  refine p_d ?_
  simp_arith [id_eq]
  refine bnd h fun a1 e h => ?_
  cases e
  refine e_nx ?_
  refine s_seq ?_
  refine s_asg ?_
  refine c_op ?_
  refine c_lc ?_
  refine i_seq ?_
  refine c_varD rfl ?_
  refine t_d ?_
  refine bnd h fun v2 e h => it_d e ?_
  refine And.intro rfl ?_
  refine bnd h fun u5 eu h => ?_
  refine bnd h fun w6 ev h => lc_map eu ev ?rest1 fun x3 y4 h p p' hp => ?body1
  case body1 =>
    refine l_gN ?_
    simp_arith [id_eq]
    refine c_yes ?_
    refine if_t ?_
    refine c_op ?_
    refine c_c ?_
    refine c_varD rfl ?_
    refine v_d ?_
    refine v_d ?_
    refine bnd h fun v7 e h => l_add e ?_
    refine t_d ?_
    cases h
    exact hp _ rfl
  refine c_lc ?_
  refine i_seq ?_
  refine c_varD rfl ?_
  refine t_d ?_
  refine bnd h fun v8 e h => it_d e ?_
  refine And.intro rfl ?_
  refine bnd h fun u11 eu h => ?_
  refine bnd h fun w12 ev h => lc_map eu ev ?rest2 fun x9 y10 h p p' hp => ?body2
  case body2 =>
    refine l_gN ?_
    simp_arith [id_eq]
    refine c_yes ?_
    refine if_t ?_
    refine c_op ?_
    refine c_c ?_
    refine c_varD rfl ?_
    refine v_d ?_
    refine v_d ?_
    refine bnd h fun v13 e h => l_add e ?_
    refine t_d ?_
    cases h
    exact hp _ rfl
  refine v_n ?_
  refine v_n ?_
  refine bnd h fun v14 e h => l_addL e ?_
  refine p_n ?_
  simp_arith [id_eq]
  refine e_nx ?_
  refine s_seq ?_
  refine s_asg ?_
  refine c_op ?_
  refine c_varO rfl ?_
  refine c_lc ?_
  refine i_seq ?_
  refine c_varD rfl ?_
  refine t_d ?_
  refine bnd h fun v15 e h => it_d e ?_
  refine And.intro rfl ?_
  refine bnd h fun u18 eu h => ?_
  refine bnd h fun w19 ev h => lc_map eu ev ?rest3 fun x16 y17 h p p' hp => ?body3
  case body3 =>
    refine l_gN ?_
    simp_arith [id_eq]
    refine c_yes ?_
    refine if_t ?_
    refine c_op ?_
    refine c_c ?_
    refine c_varD rfl ?_
    refine v_d ?_
    refine v_d ?_
    refine bnd h fun v20 e h => l_add e ?_
    refine t_d ?_
    cases h
    exact hp _ rfl
  refine v_sL rfl ?_
  refine v_n ?_
  refine bnd h fun v21 e h => l_addL e ?_
  refine p_n ?_
  simp_arith [id_eq]
  refine e_nx ?_
  refine s_seq ?_
  refine s_asg ?_
  refine c_cb ?_
  refine c_cons ?_
  refine c_lc ?_
  refine i_enumA ?_
  refine c_varO rfl ?_
  refine t_sL rfl ?_
  simp_arith [id_eq]
  refine en_l ?_
  refine And.intro rfl ?_
  refine bnd h fun u24 eu h => ?_
  refine bnd h fun w25 ev h => lc_map eu ev ?rest4 fun x22 y23 h p p' hp => ?body4
  case body4 =>
    refine bnd h fun v26 e h => l_t2 e ?_
    simp_arith [id_eq]
    refine c_yes ?_
    refine if_t ?_
    refine c_tup ?_
    refine c_cons ?_
    refine c_varD rfl ?_
    refine c_cons ?_
    refine c_tup ?_
    refine c_cons ?_
    refine c_varD rfl ?_
    refine c_nil ?_
    refine t_cons ?_
    refine t_d ?_
    refine t_nil ?_
    refine And.intro (Nat.le_of_ble_eq_true rfl) ?_
    refine c_nil ?_
    refine t_cons ?_
    refine t_d ?_
    refine t_cons ?_
    refine t_d ?_
    refine t_nil ?_
    refine And.intro (Nat.le_of_ble_eq_true rfl) ?_
    refine t_d ?_
    cases h
    exact hp _ rfl
  refine c_nil ?_
  refine v_cons ?_
  refine v_n ?_
  refine v_nil ?_
  refine l_tuplL ?_
  refine p_d ?_
  simp_arith [id_eq]
  refine e_nx ?_
  refine s_seq ?_
  refine s_if ?_
  refine c_test ?_
  refine c_op ?_
  refine bnd h fun z33 hb h => bnd h fun v34 hw h => c_lam (r := z33) (v := v34) (fun Pl Xl hPX => ?inner5) (fun A hA P hP f => law__law_word hw hA hP f) ?rest5
  case inner5 =>
    refine c_hid (δh := [.dat (.str "abcdefghijklmnopqrstuvwxyz"), .dat (.list v21), .un, .dat (.tuple w25), .un, .un]) rfl ?_
    have h := hb
    refine c_call ?_
    refine c_cons ?_
    refine c_varD rfl ?_
    refine c_nil ?_
    refine And.intro List.nodup_nil ?_
    refine a_F ?_
    refine t_d ?_
    refine a_0 ?_
    refine bnd h fun z29 e h => sp_need_inputs e ?_
    refine rz_go h (fun v28 h => ?_) fun n30 xs31 b32 h => ?_
    · refine k_F ?_
      refine k_0 ?_
      refine n_d ?_
      refine t_d ?_
      cases h
      exact hPX
    · refine k_F ?_
      refine k_0 ?_
      cases h
      exact hPX
  refine c_c ?_
  refine v_d ?_
  refine v_d ?_
  refine l_isntN ?_
  refine b_b ?_
  refine ite_h h (fun hb h => ?_) fun hb h => ?_
  · refine s_ret ?_
    refine c_c ?_
    cases h
    exact hP
  · refine s_next ?_
    refine e_nx ?_
    refine s_ret ?_
    refine c_op ?_
    refine bnd h fun z43 hb h => bnd h fun v44 hw h => c_lam (r := z43) (v := v44) (fun Pl Xl hPX => ?inner6) (fun A hA P hP f => law__law_word hw hA hP f) ?rest6
    case inner6 =>
      refine c_hid (δh := [.dat (.str "abcdefghijklmnopqrstuvwxyz"), .dat (.list v21), .un, .dat (.tuple w25), .un, .un]) rfl ?_
      have h := hb
      refine c_call ?_
      refine c_cons ?_
      refine c_op ?_
      refine c_varD rfl ?_
      refine c_sl ?_
      refine c_varD rfl ?_
      refine c_part ?_
      refine c_un ?_
      refine c_c ?_
      refine v_d ?_
      refine l_negI ?_
      refine v_d ?_
      refine i_i ?_
      refine c_no ?_
      refine v_d ?_
      refine bnd h fun v35 e h => l_sl e ?_
      refine v_d ?_
      refine v_d ?_
      refine bnd h fun v36 e h => l_add e ?_
      refine c_nil ?_
      refine And.intro List.nodup_nil ?_
      refine a_F ?_
      refine t_d ?_
      refine a_0 ?_
      refine bnd h fun z39 e h => sp_need_inputs e ?_
      refine rz_go h (fun v38 h => ?_) fun n40 xs41 b42 h => ?_
      · refine k_F ?_
        refine k_0 ?_
        refine n_d ?_
        refine t_d ?_
        cases h
        exact hPX
      · refine k_F ?_
        refine k_0 ?_
        cases h
        exact hPX
    refine c_tup ?_
    refine c_cons ?_
    refine c_c ?_
    refine c_cons ?_
    refine c_c ?_
    refine c_nil ?_
    refine t_cons ?_
    refine t_d ?_
    refine t_cons ?_
    refine t_d ?_
    refine t_nil ?_
    refine And.intro (Nat.le_of_ble_eq_true rfl) ?_
    refine v_d ?_
    refine v_d ?_
    refine bnd h fun v45 e h => l_eq e ?_
    cases h
    exact hP
def J_law_2 (p49 : D) (p51 : List (Key × D)) (p53 : D) : Option (Ctl (D) (Bool)) :=
  (F__law_any_name p51).bind fun v61 =>
  (oT2 v61.1).bind fun v62 =>
  ((F_need_inputs (.tuple [(.tuple [v62.1, (.tuple [(.int 5)])])])).bind fun z65 => z65.go (fun v64 =>
  some (.ok (.none))) fun n66 xs67 b68 =>
  some (.er n66 xs67 ()) : Option (Rz D Unit)).bind fun z69 =>
  (F__law_word z69).bind fun v70 =>
  ((oB v62.2).bind fun v72 =>
  if v72 = true then
  some (.none)
  else
  some (.tuple [(.str "inputs"), (.int 0)])).bind fun c71 =>
  (oEq v70 c71).bind fun v73 =>
  if (!v73) = true then
  some (.rt false)
  else
  (F__law_pick v61.2 (.int 6)).bind fun v74 =>
  (oIx (.list [.none, p53, (dK []), (.str "a"), (.int 5), (.bool true)]) v74.1).bind fun v75 =>
  ((F_need_inputs v75).bind fun z78 => z78.go (fun v77 =>
  some (.ok (.none))) fun n79 xs80 b81 =>
  some (.er n79 xs80 ()) : Option (Rz D Unit)).bind fun z82 =>
  (F__law_word z82).bind fun v83 =>
  (oEq v83 (.tuple [(.str "inputs"), .none])).bind fun v84 =>
  if (!v84) = true then
  some (.rt false)
  else
  (F__law_pick v74.2 (.int 3001)).bind fun v85 =>
  (F__law_pick v85.2 (.int 3)).bind fun v86 =>
  (oIx (.list [(.int 0), (.int 3000), v85.1]) v86.1).bind fun v87 =>
  ((F_need_limit v87).bind fun z90 => z90.go (fun v89 =>
  some (.ok (.none))) fun n91 xs92 b93 =>
  some (.er n91 xs92 ()) : Option (Rz D Unit)).bind fun z94 =>
  (F__law_word z94).bind fun v95 =>
  if (!(isNone v95)) = true then
  some (.rt false)
  else
  (oPowI 10 30).bind fun v96 =>
  (F__law_pick v86.2 (.int 8)).bind fun v97 =>
  (oIx (.list [(.int (-1)), (.int 3001), (.bool true), .none, (.str "5"), (.list [(.int 5)]), (.tuple [(.int 5)]), (.int v96)]) v97.1).bind fun v98 =>
  ((F_need_limit v98).bind fun z101 => z101.go (fun v100 =>
  some (.ok (.none))) fun n102 xs103 b104 =>
  some (.er n102 xs103 ()) : Option (Rz D Unit)).bind fun z105 =>
  (F__law_word z105).bind fun v106 =>
  (oEq v106 (.str "place")).bind fun v107 =>
  if (!v107) = true then
  some (.rt false)
  else
  some (.nx p49)
def B_law_1 (x15 : D) (s0 : D) : Option (Ctl (D) (Bool)) :=
  (F__law_begun s0 x15).bind fun v18 =>
  (F__law_pick v18 (.int 7)).bind fun v19 =>
  (F__law_names v19.2 v19.1).bind fun v20 =>
  (F__law_good v20.2 (.list v20.1)).bind fun v21 =>
  ((oList (.list v21.1)).bind fun v22 =>
  (F_need_inputs (.tuple v22)).bind fun z25 => z25.go (fun v24 =>
  some (.ok (.none))) fun n26 xs27 b28 =>
  some (.er n26 xs27 ()) : Option (Rz D Unit)).bind fun z29 =>
  (F__law_word z29).bind fun v30 =>
  if (!(isNone v30)) = true then
  some (.rt false)
  else
  (oLen (.list v21.1)).bind fun v31 =>
  (F__law_pick v21.2 (.int (v31 + 1))).bind fun v32 =>
  (oI v32.1).bind fun v33 =>
  (oSlL (.list v21.1) none (some v33)).bind fun v34 =>
  (F__law_odd v32.2 (.str "h")).bind fun v35 =>
  (oAddL (.list v34) (.list [v35.1])).bind fun v36 =>
  (oI v32.1).bind fun v37 =>
  (oSlL (.list v21.1) (some v37) none).bind fun v38 =>
  (oAddL (.list v36) (.list v38)).bind fun v39 =>
  ((F_need_inputs (.tuple v39)).bind fun z42 => z42.go (fun v41 =>
  some (.ok (.none))) fun n43 xs44 b45 =>
  some (.er n43 xs44 ()) : Option (Rz D Unit)).bind fun z46 =>
  (F__law_word z46).bind fun v47 =>
  (oEq v47 (.tuple [(.str "inputs"), v32.1])).bind fun v48 =>
  if (!v48) = true then
  some (.rt false)
  else
  (oEq (.list v21.1) (.list [])).bind fun v108 =>
  if (!v108) = true then
  (oLen (.list v21.1)).bind fun v109 =>
  (F__law_pick v35.2 (.int v109)).bind fun v110 =>
  (oAdd v110.1 (.int 1)).bind fun v111 =>
  (oI v111).bind fun v112 =>
  (oSlL (.list v21.1) none (some v112)).bind fun v113 =>
  (oI v110.1).bind fun v114 =>
  (oSlL (.list v21.1) (some v114) none).bind fun v115 =>
  (oAddL (.list v113) (.list v115)).bind fun v116 =>
  ((F_need_inputs (.tuple v116)).bind fun z119 => z119.go (fun v118 =>
  some (.ok (.none))) fun n120 xs121 b122 =>
  some (.er n120 xs121 ()) : Option (Rz D Unit)).bind fun z123 =>
  (F__law_word z123).bind fun v124 =>
  (oAdd v110.1 (.int 1)).bind fun v125 =>
  (oEq v124 (.tuple [(.str "inputs"), v125])).bind fun v126 =>
  if (!v126) = true then
  some (.rt false)
  else
  ((oLen (.list v21.1)).bind fun v128 =>
  if (decide (1 < v128)) = true then
  ((oL (.list v21.1)).bind fun v129 =>
  (F_need_inputs (.tuple v129.reverse)).bind fun z132 => z132.go (fun v131 =>
  some (.ok (.none))) fun n133 xs134 b135 =>
  some (.er n133 xs134 ()) : Option (Rz D Unit)).bind fun z136 =>
  (F__law_word z136).bind fun v137 =>
  (oEq v137 (.tuple [(.str "inputs"), (.int 1)])).bind fun v138 =>
  some (!v138)
  else
  some false).bind fun c127 =>
  if c127 = true then
  some (.rt false)
  else
  J_law_2 s0 v110.2 (.list v21.1)
  else
  J_law_2 s0 v35.2 (.list v21.1)
def F_law (a_script : D) : Option (Bool) :=
  (F__law_many_right).bind fun v1 =>
  if (!v1) = true then
  some false
  else
  (oLen a_script).bind fun v2 =>
  (oRng1 (.int (max 3 (min 40 v2))) ).bind fun v3 =>
  (oFor (fun x15 st139 => B_law_1  x15 st139) v3 a_script).bind fun c143 => c143.go (fun st140 =>
  some true) (fun v => some v)
theorem law_law (a_script : D) (r : Bool) (h : F_law a_script = some r) (hP : Re.dat (.bool r) = .dat (.bool true)) : d_law fs__law_many_right fs__law_begun fs__law_names fs__law_pick fs__law_good fs__law_kind fs_need_inputs fs__law_odd fs__law_any_name fs_need_limit { nx := fun _ => False, rt := fun r _ => r = .dat (.bool true) } (begin_ [.dat a_script] 12) := by
  delta F_law at h
  delta d_law T_law_1 T_law_2 T_law_3 T_law_4 T_law_5 T_law_6 T_law_7 T_law_8 T_law_9 T_law_10 T_law_11 T_law_12 T_law_13 T_law_14 T_law_15 T_law_16 T_law_17 T_law_18 T_law_19 T_law_20 T_law_21 T_law_22
  rw [show begin_ [.dat a_script] 12 = [.dat a_script, .un, .un, .un, .un, .un, .un, .un, .un, .un, .un, .un] from rfl]
  refine s_seq ?_
  refine s_if ?_
  refine c_not ?_
  refine c_test ?_
  refine c_call ?_
  refine c_nil ?_
  refine And.intro List.nodup_nil ?_
  refine a_0 ?_
  refine bnd h fun v1 e h => sp__law_many_right e ?_
  refine k_0 ?_
  refine n_d ?_
  refine b_b ?_
  refine ite_h h (fun hb h => ?_) fun hb h => ?_
  · refine s_ret ?_
    refine c_c ?_
    cases h
    exact hP
  · refine s_next ?_
    refine e_nx ?_
    refine s_seq ?_
    refine s_for ?_
    refine i_rng1 ?_
    refine c_cons ?_
    refine c_cb ?_
    refine c_cons ?_
    refine c_c ?_
    refine c_cons ?_
    refine c_cb ?_
    refine c_cons ?_
    refine c_c ?_
    refine c_cons ?_
    refine c_cb ?_
    refine c_cons ?_
    refine c_varD rfl ?_
    refine c_nil ?_
    refine v_cons ?_
    refine v_d ?_
    refine v_nil ?_
    refine bnd h fun v2 e h => l_len e ?_
    refine c_nil ?_
    refine v_cons ?_
    refine v_d ?_
    refine v_cons ?_
    refine v_d ?_
    refine v_nil ?_
    refine l_minI ?_
    refine c_nil ?_
    refine v_cons ?_
    refine v_d ?_
    refine v_cons ?_
    refine v_d ?_
    refine v_nil ?_
    refine l_maxI ?_
    refine c_nil ?_
    refine v_cons ?_
    refine v_d ?_
    refine v_nil ?_
    refine bnd h fun v3 e h => rg1 e ?_
    refine bnd h fun c143 e h => f_for (fun (st139 : D) δ => ∃ (q4 : Sl) (q5 : Sl) (q6 : Sl) (q7 : Sl) (q8 : Sl) (q9 : Sl) (q10 : Sl) (q11 : Sl) (q12 : Sl) (q13 : Sl) (q14 : Sl), δ = [.dat st139, q4, q5, q6, q7, q8, q9, q10, q11, q12, q13, q14]) (R := (fun (v : Bool) => some v = some r)) ?body1 _ _ _ _ e ⟨_, _, _, _, _, _, _, _, _, _, _, rfl⟩ (fun st140 δ141 q hd => ?rest1) fun v q => go_r (R := fun v => some v) (v := v) h q
    case body1 =>
      rintro x15 s0 k17 _ ⟨q4, q5, q6, q7, q8, q9, q10, q11, q12, q13, q14, rfl⟩ h N16 hN16 hbk17 hrk17
      delta B_law_1 at h
      refine l_gN ?_
      simp_arith [id_eq]
      refine s_seq ?_
      refine s_asg ?_
      refine c_call ?_
      refine c_cons ?_
      refine c_varD rfl ?_
      refine c_cons ?_
      refine c_varD rfl ?_
      refine c_nil ?_
      refine And.intro List.nodup_nil ?_
      refine a_F ?_
      refine t_d ?_
      refine a_F ?_
      refine t_d ?_
      refine a_0 ?_
      refine bnd h fun v18 e h => sp__law_begun e ?_
      refine k_F ?_
      refine k_F ?_
      refine k_0 ?_
      refine n_n ?_
      refine p_n ?_
      simp_arith [id_eq]
      refine e_nx ?_
      refine s_seq ?_
      refine s_asg ?_
      refine c_call ?_
      refine c_cons ?_
      refine c_varO rfl ?_
      refine c_cons ?_
      refine c_call ?_
      refine c_cons ?_
      refine c_varO rfl ?_
      refine c_cons ?_
      refine c_c ?_
      refine c_nil ?_
      refine And.intro nd1 ?_
      refine a_S ?_
      refine a_F ?_
      refine t_d ?_
      refine a_0 ?_
      refine o_own rfl ?_
      refine bnd h fun v19 e h => sp__law_pick e ?_
      refine k_So rfl ?_
      simp_arith [id_eq]
      refine k_F ?_
      refine k_0 ?_
      refine n_d ?_
      refine c_nil ?_
      refine And.intro nd1 ?_
      refine a_S ?_
      refine a_F ?_
      refine t_d ?_
      refine a_0 ?_
      refine o_own rfl ?_
      refine bnd h fun v20 e h => sp__law_names e ?_
      refine k_So rfl ?_
      simp_arith [id_eq]
      refine k_F ?_
      refine k_0 ?_
      refine n_n ?_
      refine p_n ?_
      simp_arith [id_eq]
      refine e_nx ?_
      refine s_seq ?_
      refine s_asg ?_
      refine c_fz ?_
      refine c_call ?_
      refine c_cons ?_
      refine c_varO rfl ?_
      refine c_cons ?_
      refine c_varO rfl ?_
      refine c_nil ?_
      refine And.intro nd1 ?_
      refine a_S ?_
      refine a_F ?_
      refine t_sL rfl ?_
      simp_arith [id_eq]
      refine a_0 ?_
      refine o_own rfl ?_
      refine bnd h fun v21 e h => sp__law_good e ?_
      refine k_So rfl ?_
      simp_arith [id_eq]
      refine k_F ?_
      refine k_0 ?_
      refine n_n ?_
      refine t_n ?_
      refine p_d ?_
      simp_arith [id_eq]
      refine e_nx ?_
      refine s_seq ?_
      refine s_if ?_
      refine c_test ?_
      refine c_op ?_
      refine bnd h fun z29 hb h => bnd h fun v30 hw h => c_lam (r := z29) (v := v30) (fun Pl Xl hPX => ?inner2) (fun A hA P hP f => law__law_word hw hA hP f) ?rest2
      case inner2 =>
        refine c_hid (δh := [.dat s0, .dat x15, .un, .dat (.list v20.1), .dat (.list v21.1), hidS q8, hidS q9, hidS q10, hidS q11, hidS q12, hidS q13, hidS q14]) rfl ?_
        have h := hb
        refine c_call ?_
        refine c_cons ?_
        refine c_cb ?_
        refine c_cons ?_
        refine c_varD rfl ?_
        refine c_nil ?_
        refine v_cons ?_
        refine v_d ?_
        refine v_nil ?_
        refine bnd h fun v22 e h => l_tupl e ?_
        refine c_nil ?_
        refine And.intro List.nodup_nil ?_
        refine a_F ?_
        refine t_d ?_
        refine a_0 ?_
        refine bnd h fun z25 e h => sp_need_inputs e ?_
        refine rz_go h (fun v24 h => ?_) fun n26 xs27 b28 h => ?_
        · refine k_F ?_
          refine k_0 ?_
          refine n_d ?_
          refine t_d ?_
          cases h
          exact hPX
        · refine k_F ?_
          refine k_0 ?_
          cases h
          exact hPX
      refine c_c ?_
      refine v_d ?_
      refine v_d ?_
      refine l_isntN ?_
      refine b_b ?_
      refine ite_h h (fun hb h => ?_) fun hb h => ?_
      · refine s_ret ?_
        refine c_c ?_
        have h := hrk17 _ (Option.some.inj h).symm
        cases h
        exact hP
      · refine s_next ?_
        refine e_nx ?_
        refine s_seq ?_
        refine s_asg ?_
        refine c_call ?_
        refine c_cons ?_
        refine c_varO rfl ?_
        refine c_cons ?_
        refine c_op ?_
        refine c_cb ?_
        refine c_cons ?_
        refine c_varD rfl ?_
        refine c_nil ?_
        refine v_cons ?_
        refine v_d ?_
        refine v_nil ?_
        refine bnd h fun v31 e h => l_len e ?_
        refine c_c ?_
        refine v_d ?_
        refine v_d ?_
        refine l_addI ?_
        refine c_nil ?_
        refine And.intro nd1 ?_
        refine a_S ?_
        refine a_F ?_
        refine t_d ?_
        refine a_0 ?_
        refine o_own rfl ?_
        refine bnd h fun v32 e h => sp__law_pick e ?_
        refine k_So rfl ?_
        simp_arith [id_eq]
        refine k_F ?_
        refine k_0 ?_
        refine n_d ?_
        refine p_d ?_
        simp_arith [id_eq]
        refine e_nx ?_
        refine s_seq ?_
        refine s_asg ?_
        refine c_cb ?_
        refine c_cons ?_
        refine c_op ?_
        refine c_op ?_
        refine c_sl ?_
        refine c_varD rfl ?_
        refine c_no ?_
        refine c_part ?_
        refine c_varD rfl ?_
        refine v_d ?_
        refine bnd h fun v33 e h => i_d e ?_
        refine v_d ?_
        refine bnd h fun v34 e h => l_slL e ?_
        refine c_lst ?_
        refine c_cons ?_
        refine c_call ?_
        refine c_cons ?_
        refine c_varO rfl ?_
        refine c_cons ?_
        refine c_c ?_
        refine c_nil ?_
        refine And.intro nd1 ?_
        refine a_S ?_
        refine a_F ?_
        refine t_d ?_
        refine a_0 ?_
        refine o_own rfl ?_
        refine bnd h fun v35 e h => sp__law_odd e ?_
        refine k_So rfl ?_
        simp_arith [id_eq]
        refine k_F ?_
        refine k_0 ?_
        refine n_d ?_
        refine c_nil ?_
        refine t_cons ?_
        refine t_d ?_
        refine t_nil ?_
        refine And.intro (Nat.le_of_ble_eq_true rfl) ?_
        refine v_n ?_
        refine v_n ?_
        refine bnd h fun v36 e h => l_addL e ?_
        refine c_sl ?_
        refine c_varD rfl ?_
        refine c_part ?_
        refine c_varD rfl ?_
        refine v_d ?_
        refine bnd h fun v37 e h => i_d e ?_
        refine c_no ?_
        refine v_d ?_
        refine bnd h fun v38 e h => l_slL e ?_
        refine v_n ?_
        refine v_n ?_
        refine bnd h fun v39 e h => l_addL e ?_
        refine c_nil ?_
        refine v_cons ?_
        refine v_n ?_
        refine v_nil ?_
        refine l_tuplL ?_
        refine p_d ?_
        simp_arith [id_eq]
        refine e_nx ?_
        refine s_seq ?_
        refine s_if ?_
        refine c_test ?_
        refine c_op ?_
        refine bnd h fun z46 hb h => bnd h fun v47 hw h => c_lam (r := z46) (v := v47) (fun Pl Xl hPX => ?inner3) (fun A hA P hP f => law__law_word hw hA hP f) ?rest3
        case inner3 =>
          refine c_hid (δh := [.dat s0, .dat x15, .un, .dat (.list v20.1), .dat (.list v21.1), .dat v32.1, .dat (.tuple v39), hidS q10, hidS q11, hidS q12, hidS q13, hidS q14]) rfl ?_
          have h := hb
          refine c_call ?_
          refine c_cons ?_
          refine c_varD rfl ?_
          refine c_nil ?_
          refine And.intro List.nodup_nil ?_
          refine a_F ?_
          refine t_d ?_
          refine a_0 ?_
          refine bnd h fun z42 e h => sp_need_inputs e ?_
          refine rz_go h (fun v41 h => ?_) fun n43 xs44 b45 h => ?_
          · refine k_F ?_
            refine k_0 ?_
            refine n_d ?_
            refine t_d ?_
            cases h
            exact hPX
          · refine k_F ?_
            refine k_0 ?_
            cases h
            exact hPX
        refine c_tup ?_
        refine c_cons ?_
        refine c_c ?_
        refine c_cons ?_
        refine c_varD rfl ?_
        refine c_nil ?_
        refine t_cons ?_
        refine t_d ?_
        refine t_cons ?_
        refine t_d ?_
        refine t_nil ?_
        refine And.intro (Nat.le_of_ble_eq_true rfl) ?_
        refine v_d ?_
        refine v_d ?_
        refine bnd h fun v48 e h => l_ne e ?_
        refine b_b ?_
        refine ite_h h (fun hb h => ?_) fun hb h => ?_
        · refine s_ret ?_
          refine c_c ?_
          have h := hrk17 _ (Option.some.inj h).symm
          cases h
          exact hP
        · refine s_next ?_
          refine e_nx ?_
          refine s_seqJ (fun δ => ∃ (p49 : D) (p51 : List (Key × D)) (p53 : D), ∃ (q50 : Sl) (q52 : Sl) (q54 : Sl) (q55 : Sl) (q56 : Sl) (q57 : Sl) (q58 : Sl) (q59 : Sl) (q60 : Sl), δ = [.dat p49, q50, .own (.dK p51), q52, .dat p53, q54, q55, q56, q57, q58, q59, q60] ∧ J_law_2 p49 p51 p53 = some k17) ?rest4 fun hJ => ?inner4
          case inner4 =>
            refine s_if ?_
            refine c_test ?_
            refine c_op ?_
            refine c_varD rfl ?_
            refine c_lst ?_
            refine c_nil ?_
            refine t_nil ?_
            refine And.intro (Nat.le_of_ble_eq_true rfl) ?_
            refine v_d ?_
            refine v_n ?_
            refine bnd h fun v108 e h => l_ne e ?_
            refine b_b ?_
            refine ite_h h (fun hb h => ?_) fun hb h => ?_
            · refine s_seq ?_
              refine s_asg ?_
              refine c_call ?_
              refine c_cons ?_
              refine c_varO rfl ?_
              refine c_cons ?_
              refine c_cb ?_
              refine c_cons ?_
              refine c_varD rfl ?_
              refine c_nil ?_
              refine v_cons ?_
              refine v_d ?_
              refine v_nil ?_
              refine bnd h fun v109 e h => l_len e ?_
              refine c_nil ?_
              refine And.intro nd1 ?_
              refine a_S ?_
              refine a_F ?_
              refine t_d ?_
              refine a_0 ?_
              refine o_own rfl ?_
              refine bnd h fun v110 e h => sp__law_pick e ?_
              refine k_So rfl ?_
              simp_arith [id_eq]
              refine k_F ?_
              refine k_0 ?_
              refine n_d ?_
              refine p_d ?_
              simp_arith [id_eq]
              refine e_nx ?_
              refine s_seq ?_
              refine s_asg ?_
              refine c_cb ?_
              refine c_cons ?_
              refine c_op ?_
              refine c_sl ?_
              refine c_varD rfl ?_
              refine c_no ?_
              refine c_part ?_
              refine c_op ?_
              refine c_varD rfl ?_
              refine c_c ?_
              refine v_d ?_
              refine v_d ?_
              refine bnd h fun v111 e h => l_add e ?_
              refine v_d ?_
              refine bnd h fun v112 e h => i_d e ?_
              refine v_d ?_
              refine bnd h fun v113 e h => l_slL e ?_
              refine c_sl ?_
              refine c_varD rfl ?_
              refine c_part ?_
              refine c_varD rfl ?_
              refine v_d ?_
              refine bnd h fun v114 e h => i_d e ?_
              refine c_no ?_
              refine v_d ?_
              refine bnd h fun v115 e h => l_slL e ?_
              refine v_n ?_
              refine v_n ?_
              refine bnd h fun v116 e h => l_addL e ?_
              refine c_nil ?_
              refine v_cons ?_
              refine v_n ?_
              refine v_nil ?_
              refine l_tuplL ?_
              refine p_d ?_
              simp_arith [id_eq]
              refine e_nx ?_
              refine s_seq ?_
              refine s_if ?_
              refine c_test ?_
              refine c_op ?_
              refine bnd h fun z123 hb h => bnd h fun v124 hw h => c_lam (r := z123) (v := v124) (fun Pl Xl hPX => ?inner5) (fun A hA P hP f => law__law_word hw hA hP f) ?rest5
              case inner5 =>
                refine c_hid (δh := [.dat s0, .dat x15, .un, .dat (.list v20.1), .dat (.list v21.1), .dat v110.1, .dat (.tuple v39), .dat (.tuple v116), hidS q11, hidS q12, hidS q13, hidS q14]) rfl ?_
                have h := hb
                refine c_call ?_
                refine c_cons ?_
                refine c_varD rfl ?_
                refine c_nil ?_
                refine And.intro List.nodup_nil ?_
                refine a_F ?_
                refine t_d ?_
                refine a_0 ?_
                refine bnd h fun z119 e h => sp_need_inputs e ?_
                refine rz_go h (fun v118 h => ?_) fun n120 xs121 b122 h => ?_
                · refine k_F ?_
                  refine k_0 ?_
                  refine n_d ?_
                  refine t_d ?_
                  cases h
                  exact hPX
                · refine k_F ?_
                  refine k_0 ?_
                  cases h
                  exact hPX
              refine c_tup ?_
              refine c_cons ?_
              refine c_c ?_
              refine c_cons ?_
              refine c_op ?_
              refine c_varD rfl ?_
              refine c_c ?_
              refine v_d ?_
              refine v_d ?_
              refine bnd h fun v125 e h => l_add e ?_
              refine c_nil ?_
              refine t_cons ?_
              refine t_d ?_
              refine t_cons ?_
              refine t_d ?_
              refine t_nil ?_
              refine And.intro (Nat.le_of_ble_eq_true rfl) ?_
              refine v_d ?_
              refine v_d ?_
              refine bnd h fun v126 e h => l_ne e ?_
              refine b_b ?_
              refine ite_h h (fun hb h => ?_) fun hb h => ?_
              · refine s_ret ?_
                refine c_c ?_
                have h := hrk17 _ (Option.some.inj h).symm
                cases h
                exact hP
              · refine s_next ?_
                refine e_nx ?_
                refine s_if ?_
                refine bnd h fun c127 hc h => ?_
                refine c_and (c := c127) (δ' := [.dat s0, .dat x15, .own (.dK v110.2), .dat (.list v20.1), .dat (.list v21.1), .dat v110.1, .dat (.tuple v39), .dat (.tuple v116), q11, q12, q13, q14]) ?rest6 fun hk => ?inner6
                case inner6 =>
                  have h := hc
                  refine c_test ?_
                  refine c_op ?_
                  refine c_cb ?_
                  refine c_cons ?_
                  refine c_varD rfl ?_
                  refine c_nil ?_
                  refine v_cons ?_
                  refine v_d ?_
                  refine v_nil ?_
                  refine bnd h fun v128 e h => l_len e ?_
                  refine c_c ?_
                  refine v_d ?_
                  refine v_d ?_
                  refine l_gtI ?_
                  refine b_b ?_
                  refine ite_h h (fun hb h => ?_) fun hb h => ?_
                  · refine c_test ?_
                    refine c_op ?_
                    refine bnd h fun z136 hb h => bnd h fun v137 hw h => c_lam (r := z136) (v := v137) (fun Pl Xl hPX => ?inner7) (fun A hA P hP f => law__law_word hw hA hP f) ?rest7
                    case inner7 =>
                      refine c_hid (δh := [.dat s0, .dat x15, .un, .dat (.list v20.1), .dat (.list v21.1), .dat v110.1, .dat (.tuple v39), .dat (.tuple v116), hidS q11, hidS q12, hidS q13, hidS q14]) rfl ?_
                      have h := hb
                      refine c_call ?_
                      refine c_cons ?_
                      refine c_cb ?_
                      refine c_cons ?_
                      refine c_rev ?_
                      refine c_varD rfl ?_
                      refine v_d ?_
                      refine bnd h fun v129 e h => lk_d e ?_
                      refine c_nil ?_
                      refine v_cons ?_
                      refine v_n ?_
                      refine v_nil ?_
                      refine l_tuplL ?_
                      refine c_nil ?_
                      refine And.intro List.nodup_nil ?_
                      refine a_F ?_
                      refine t_d ?_
                      refine a_0 ?_
                      refine bnd h fun z132 e h => sp_need_inputs e ?_
                      refine rz_go h (fun v131 h => ?_) fun n133 xs134 b135 h => ?_
                      · refine k_F ?_
                        refine k_0 ?_
                        refine n_d ?_
                        refine t_d ?_
                        cases h
                        exact hPX
                      · refine k_F ?_
                        refine k_0 ?_
                        cases h
                        exact hPX
                    refine c_tup ?_
                    refine c_cons ?_
                    refine c_c ?_
                    refine c_cons ?_
                    refine c_c ?_
                    refine c_nil ?_
                    refine t_cons ?_
                    refine t_d ?_
                    refine t_cons ?_
                    refine t_d ?_
                    refine t_nil ?_
                    refine And.intro (Nat.le_of_ble_eq_true rfl) ?_
                    refine v_d ?_
                    refine v_d ?_
                    refine bnd h fun v138 e h => l_ne e ?_
                    refine b_b ?_
                    cases h
                    exact hk
                  · cases h
                    exact hk
                refine ite_h h (fun hb h => ?_) fun hb h => ?_
                · refine s_ret ?_
                  refine c_c ?_
                  have h := hrk17 _ (Option.some.inj h).symm
                  cases h
                  exact hP
                · refine s_next ?_
                  refine e_nx ?_
                  exact hJ _ ⟨_, _, _, _, _, _, _, _, _, _, _, _, rfl, h⟩
            · refine s_next ?_
              refine e_nx ?_
              exact hJ _ ⟨_, _, _, _, _, _, _, _, _, _, _, _, rfl, h⟩
          rintro _ ⟨p49, p51, p53, q50, q52, q54, q55, q56, q57, q58, q59, q60, rfl, h⟩
          delta J_law_2 at h
          refine s_seq ?_
          refine s_unp ?_
          refine c_call ?_
          refine c_cons ?_
          refine c_varO rfl ?_
          refine c_nil ?_
          refine And.intro nd1 ?_
          refine a_S ?_
          refine a_0 ?_
          refine o_own rfl ?_
          refine bnd h fun v61 e h => sp__law_any_name e ?_
          refine k_So rfl ?_
          simp_arith [id_eq]
          refine k_0 ?_
          refine n_d ?_
          refine u_g ?_
          refine bnd h fun v62 e h => l_t2 e ?_
          simp_arith [id_eq]
          refine e_nx ?_
          refine s_seq ?_
          refine s_if ?_
          refine c_test ?_
          refine c_op ?_
          refine bnd h fun z69 hb h => bnd h fun v70 hw h => c_lam (r := z69) (v := v70) (fun Pl Xl hPX => ?inner8) (fun A hA P hP f => law__law_word hw hA hP f) ?rest8
          case inner8 =>
            refine c_hid (δh := [.dat p49, hidS q50, .un, hidS q52, .dat p53, hidS q54, hidS q55, hidS q56, .dat v62.1, .dat v62.2, hidS q59, hidS q60]) rfl ?_
            have h := hb
            refine c_call ?_
            refine c_cons ?_
            refine c_tup ?_
            refine c_cons ?_
            refine c_tup ?_
            refine c_cons ?_
            refine c_varD rfl ?_
            refine c_cons ?_
            refine c_tup ?_
            refine c_cons ?_
            refine c_c ?_
            refine c_nil ?_
            refine t_cons ?_
            refine t_d ?_
            refine t_nil ?_
            refine And.intro (Nat.le_of_ble_eq_true rfl) ?_
            refine c_nil ?_
            refine t_cons ?_
            refine t_d ?_
            refine t_cons ?_
            refine t_d ?_
            refine t_nil ?_
            refine And.intro (Nat.le_of_ble_eq_true rfl) ?_
            refine c_nil ?_
            refine t_cons ?_
            refine t_d ?_
            refine t_nil ?_
            refine And.intro (Nat.le_of_ble_eq_true rfl) ?_
            refine c_nil ?_
            refine And.intro List.nodup_nil ?_
            refine a_F ?_
            refine t_d ?_
            refine a_0 ?_
            refine bnd h fun z65 e h => sp_need_inputs e ?_
            refine rz_go h (fun v64 h => ?_) fun n66 xs67 b68 h => ?_
            · refine k_F ?_
              refine k_0 ?_
              refine n_d ?_
              refine t_d ?_
              cases h
              exact hPX
            · refine k_F ?_
              refine k_0 ?_
              cases h
              exact hPX
          refine bnd h fun c71 hc h => ?_
          refine c_ifx (r := .dat c71) (δ' := [.dat p49, q50, .own (.dK v61.2), q52, .dat p53, q54, q55, q56, .dat v62.1, .dat v62.2, q59, q60]) ?rest9 fun hk => ?inner9
          case inner9 =>
            have h := hc
            refine c_test ?_
            refine c_varD rfl ?_
            refine bnd h fun v72 e h => b_d e ?_
            refine ite_h h (fun hb h => ?_) fun hb h => ?_
            · refine c_c ?_
              cases h
              exact hk
            · refine c_tup ?_
              refine c_cons ?_
              refine c_c ?_
              refine c_cons ?_
              refine c_c ?_
              refine c_nil ?_
              refine t_cons ?_
              refine t_d ?_
              refine t_cons ?_
              refine t_d ?_
              refine t_nil ?_
              refine And.intro (Nat.le_of_ble_eq_true rfl) ?_
              cases h
              exact hk
          refine v_d ?_
          refine v_d ?_
          refine bnd h fun v73 e h => l_ne e ?_
          refine b_b ?_
          refine ite_h h (fun hb h => ?_) fun hb h => ?_
          · refine s_ret ?_
            refine c_c ?_
            have h := hrk17 _ (Option.some.inj h).symm
            cases h
            exact hP
          · refine s_next ?_
            refine e_nx ?_
            refine s_seq ?_
            refine s_asg ?_
            refine c_op ?_
            refine c_lst ?_
            refine c_cons ?_
            refine c_c ?_
            refine c_cons ?_
            refine c_varD rfl ?_
            refine c_cons ?_
            refine c_dnew ?_
            refine c_cons ?_
            refine c_c ?_
            refine c_cons ?_
            refine c_c ?_
            refine c_cons ?_
            refine c_c ?_
            refine c_nil ?_
            refine t_cons ?_
            refine t_d ?_
            refine t_cons ?_
            refine t_d ?_
            refine t_cons ?_
            refine t_nK ?_
            refine t_cons ?_
            refine t_d ?_
            refine t_cons ?_
            refine t_d ?_
            refine t_cons ?_
            refine t_d ?_
            refine t_nil ?_
            refine And.intro (Nat.le_of_ble_eq_true rfl) ?_
            refine c_call ?_
            refine c_cons ?_
            refine c_varO rfl ?_
            refine c_cons ?_
            refine c_c ?_
            refine c_nil ?_
            refine And.intro nd1 ?_
            refine a_S ?_
            refine a_F ?_
            refine t_d ?_
            refine a_0 ?_
            refine o_own rfl ?_
            refine bnd h fun v74 e h => sp__law_pick e ?_
            refine k_So rfl ?_
            simp_arith [id_eq]
            refine k_F ?_
            refine k_0 ?_
            refine n_d ?_
            refine v_n ?_
            refine v_d ?_
            refine bnd h fun v75 e h => l_ix e ?_
            refine p_d ?_
            simp_arith [id_eq]
            refine e_nx ?_
            refine s_seq ?_
            refine s_if ?_
            refine c_test ?_
            refine c_op ?_
            refine bnd h fun z82 hb h => bnd h fun v83 hw h => c_lam (r := z82) (v := v83) (fun Pl Xl hPX => ?inner10) (fun A hA P hP f => law__law_word hw hA hP f) ?rest10
            case inner10 =>
              refine c_hid (δh := [.dat p49, hidS q50, .un, hidS q52, .dat p53, hidS q54, hidS q55, hidS q56, .dat v62.1, .dat v62.2, .dat v75, hidS q60]) rfl ?_
              have h := hb
              refine c_call ?_
              refine c_cons ?_
              refine c_varD rfl ?_
              refine c_nil ?_
              refine And.intro List.nodup_nil ?_
              refine a_F ?_
              refine t_d ?_
              refine a_0 ?_
              refine bnd h fun z78 e h => sp_need_inputs e ?_
              refine rz_go h (fun v77 h => ?_) fun n79 xs80 b81 h => ?_
              · refine k_F ?_
                refine k_0 ?_
                refine n_d ?_
                refine t_d ?_
                cases h
                exact hPX
              · refine k_F ?_
                refine k_0 ?_
                cases h
                exact hPX
            refine c_tup ?_
            refine c_cons ?_
            refine c_c ?_
            refine c_cons ?_
            refine c_c ?_
            refine c_nil ?_
            refine t_cons ?_
            refine t_d ?_
            refine t_cons ?_
            refine t_d ?_
            refine t_nil ?_
            refine And.intro (Nat.le_of_ble_eq_true rfl) ?_
            refine v_d ?_
            refine v_d ?_
            refine bnd h fun v84 e h => l_ne e ?_
            refine b_b ?_
            refine ite_h h (fun hb h => ?_) fun hb h => ?_
            · refine s_ret ?_
              refine c_c ?_
              have h := hrk17 _ (Option.some.inj h).symm
              cases h
              exact hP
            · refine s_next ?_
              refine e_nx ?_
              refine s_seq ?_
              refine s_asg ?_
              refine c_op ?_
              refine c_lst ?_
              refine c_cons ?_
              refine c_c ?_
              refine c_cons ?_
              refine c_c ?_
              refine c_cons ?_
              refine c_call ?_
              refine c_cons ?_
              refine c_varO rfl ?_
              refine c_cons ?_
              refine c_c ?_
              refine c_nil ?_
              refine And.intro nd1 ?_
              refine a_S ?_
              refine a_F ?_
              refine t_d ?_
              refine a_0 ?_
              refine o_own rfl ?_
              refine bnd h fun v85 e h => sp__law_pick e ?_
              refine k_So rfl ?_
              simp_arith [id_eq]
              refine k_F ?_
              refine k_0 ?_
              refine n_d ?_
              refine c_nil ?_
              refine t_cons ?_
              refine t_d ?_
              refine t_cons ?_
              refine t_d ?_
              refine t_cons ?_
              refine t_d ?_
              refine t_nil ?_
              refine And.intro (Nat.le_of_ble_eq_true rfl) ?_
              refine c_call ?_
              refine c_cons ?_
              refine c_varO rfl ?_
              refine c_cons ?_
              refine c_c ?_
              refine c_nil ?_
              refine And.intro nd1 ?_
              refine a_S ?_
              refine a_F ?_
              refine t_d ?_
              refine a_0 ?_
              refine o_own rfl ?_
              refine bnd h fun v86 e h => sp__law_pick e ?_
              refine k_So rfl ?_
              simp_arith [id_eq]
              refine k_F ?_
              refine k_0 ?_
              refine n_d ?_
              refine v_n ?_
              refine v_d ?_
              refine bnd h fun v87 e h => l_ix e ?_
              refine p_d ?_
              simp_arith [id_eq]
              refine e_nx ?_
              refine s_seq ?_
              refine s_if ?_
              refine c_test ?_
              refine c_op ?_
              refine bnd h fun z94 hb h => bnd h fun v95 hw h => c_lam (r := z94) (v := v95) (fun Pl Xl hPX => ?inner11) (fun A hA P hP f => law__law_word hw hA hP f) ?rest11
              case inner11 =>
                refine c_hid (δh := [.dat p49, hidS q50, .un, hidS q52, .dat p53, hidS q54, hidS q55, hidS q56, .dat v62.1, .dat v62.2, .dat v75, .dat v87]) rfl ?_
                have h := hb
                refine c_call ?_
                refine c_cons ?_
                refine c_varD rfl ?_
                refine c_nil ?_
                refine And.intro List.nodup_nil ?_
                refine a_F ?_
                refine t_d ?_
                refine a_0 ?_
                refine bnd h fun z90 e h => sp_need_limit e ?_
                refine rz_go h (fun v89 h => ?_) fun n91 xs92 b93 h => ?_
                · refine k_F ?_
                  refine k_0 ?_
                  refine n_d ?_
                  refine t_d ?_
                  cases h
                  exact hPX
                · refine k_F ?_
                  refine k_0 ?_
                  cases h
                  exact hPX
              refine c_c ?_
              refine v_d ?_
              refine v_d ?_
              refine l_isntN ?_
              refine b_b ?_
              refine ite_h h (fun hb h => ?_) fun hb h => ?_
              · refine s_ret ?_
                refine c_c ?_
                have h := hrk17 _ (Option.some.inj h).symm
                cases h
                exact hP
              · refine s_next ?_
                refine e_nx ?_
                refine s_seq ?_
                refine s_asg ?_
                refine c_op ?_
                refine c_lst ?_
                refine c_cons ?_
                refine c_un ?_
                refine c_c ?_
                refine v_d ?_
                refine l_negI ?_
                refine c_cons ?_
                refine c_c ?_
                refine c_cons ?_
                refine c_c ?_
                refine c_cons ?_
                refine c_c ?_
                refine c_cons ?_
                refine c_c ?_
                refine c_cons ?_
                refine c_lst ?_
                refine c_cons ?_
                refine c_c ?_
                refine c_nil ?_
                refine t_cons ?_
                refine t_d ?_
                refine t_nil ?_
                refine And.intro (Nat.le_of_ble_eq_true rfl) ?_
                refine c_cons ?_
                refine c_tup ?_
                refine c_cons ?_
                refine c_c ?_
                refine c_nil ?_
                refine t_cons ?_
                refine t_d ?_
                refine t_nil ?_
                refine And.intro (Nat.le_of_ble_eq_true rfl) ?_
                refine c_cons ?_
                refine c_op ?_
                refine c_c ?_
                refine c_c ?_
                refine v_d ?_
                refine v_d ?_
                refine bnd h fun v96 e h => l_powI e ?_
                refine c_nil ?_
                refine t_cons ?_
                refine t_d ?_
                refine t_cons ?_
                refine t_d ?_
                refine t_cons ?_
                refine t_d ?_
                refine t_cons ?_
                refine t_d ?_
                refine t_cons ?_
                refine t_d ?_
                refine t_cons ?_
                refine t_n ?_
                refine t_cons ?_
                refine t_d ?_
                refine t_cons ?_
                refine t_d ?_
                refine t_nil ?_
                refine And.intro (Nat.le_of_ble_eq_true rfl) ?_
                refine c_call ?_
                refine c_cons ?_
                refine c_varO rfl ?_
                refine c_cons ?_
                refine c_c ?_
                refine c_nil ?_
                refine And.intro nd1 ?_
                refine a_S ?_
                refine a_F ?_
                refine t_d ?_
                refine a_0 ?_
                refine o_own rfl ?_
                refine bnd h fun v97 e h => sp__law_pick e ?_
                refine k_So rfl ?_
                simp_arith [id_eq]
                refine k_F ?_
                refine k_0 ?_
                refine n_d ?_
                refine v_n ?_
                refine v_d ?_
                refine bnd h fun v98 e h => l_ix e ?_
                refine p_d ?_
                simp_arith [id_eq]
                refine e_nx ?_
                refine s_if ?_
                refine c_test ?_
                refine c_op ?_
                refine bnd h fun z105 hb h => bnd h fun v106 hw h => c_lam (r := z105) (v := v106) (fun Pl Xl hPX => ?inner12) (fun A hA P hP f => law__law_word hw hA hP f) ?rest12
                case inner12 =>
                  refine c_hid (δh := [.dat p49, hidS q50, .un, hidS q52, .dat p53, hidS q54, hidS q55, hidS q56, .dat v62.1, .dat v62.2, .dat v75, .dat v98]) rfl ?_
                  have h := hb
                  refine c_call ?_
                  refine c_cons ?_
                  refine c_varD rfl ?_
                  refine c_nil ?_
                  refine And.intro List.nodup_nil ?_
                  refine a_F ?_
                  refine t_d ?_
                  refine a_0 ?_
                  refine bnd h fun z101 e h => sp_need_limit e ?_
                  refine rz_go h (fun v100 h => ?_) fun n102 xs103 b104 h => ?_
                  · refine k_F ?_
                    refine k_0 ?_
                    refine n_d ?_
                    refine t_d ?_
                    cases h
                    exact hPX
                  · refine k_F ?_
                    refine k_0 ?_
                    cases h
                    exact hPX
                refine c_c ?_
                refine v_d ?_
                refine v_d ?_
                refine bnd h fun v107 e h => l_ne e ?_
                refine b_b ?_
                refine ite_h h (fun hb h => ?_) fun hb h => ?_
                · refine s_ret ?_
                  refine c_c ?_
                  have h := hrk17 _ (Option.some.inj h).symm
                  cases h
                  exact hP
                · refine s_next ?_
                  cases h
                  exact hN16 _ _ rfl ⟨_, _, _, _, _, _, _, _, _, _, _, rfl⟩
    obtain ⟨q4, q5, q6, q7, q8, q9, q10, q11, q12, q13, q14, rfl⟩ := hd
    replace h := go_k h q
    refine e_nx ?_
    refine s_ret ?_
    refine c_c ?_
    cases h
    exact hP
end Gk10
set_option Elab.async false
set_option linter.all false
set_option maxRecDepth 100000
set_option maxHeartbeats 2000000
namespace Gk10
open PySem PySem.Spec PyProof.Rows L2 Pd
theorem keys_eq : c_KEYS = .tuple (KEYWs.map PyData.str) := rfl
theorem whole_i {i : Int} : F_is_whole (.int i) = some true := by
  simp only [F_is_whole, isi_i, isi_ib, Option.bind_some, if_true, Bool.not_false]
theorem among_i {i a b : Int} : F_is_among (.int i) (.int a) (.int b) = some (decide (a ≤ i) && decide (i ≤ b)) := by
  simp only [F_is_among, whole_i, Option.bind_some, if_true, oLe_i]
  by_cases h : a ≤ i
  · simp [h]
  · simp [h]
theorem sign_in {c : Nat} {z : Str} : oIn (.str ⟨#[c]⟩) (.str z) = some (decide (c ∈ z.cps.toList)) := rfl
theorem name_s {w : Str} (h : isNm w = true) : F_is_name (.str w) = some true := by
  have h0 := h
  unfold isNm at h
  simp only [Bool.and_eq_true, decide_eq_true_eq] at h
  obtain ⟨⟨h1, h2⟩, h3, h4⟩ := h
  have e1 : c_MOST_LETTERS = .int 6 := rfl
  have e2 : oMap (fun x8 => (oIn x8 c_LETTERS).bind fun v12 => some (.bool v12)) (charsD w) = some ((w.cps.toList.map fun c => decide (c ∈ LETTERSs.cps.toList)).map PyData.bool) := by
    unfold charsD
    rw [List.map_map]
    refine oMap_map fun c _ => ?_
    show (oIn (.str ⟨#[c]⟩) (.str LETTERSs)).bind _ = _
    rw [sign_in]; rfl
  have e3 : few (charsD w) = some () := few_of (by simp [charsD]; have := len_of w; rw [Array.length_toList] at this; omega)
  simp only [F_is_name, isi_s, Option.bind_some, Bool.not_true, Bool.false_eq_true, if_false, oLen_s (show w.length ≤ 1000000 by omega), e1, oLe_i, keys_eq, oIn_strs, itemsD, e2, e3, oAll_bs]
  have i1 : (1 : Int) ≤ (w.length : Int) := by omega
  have i2 : (w.length : Int) ≤ 6 := by omega
  have i3 : KEYWs.contains w = false := by simpa using h3
  simp only [decide_eq_true i1, decide_eq_true i2, if_true, Option.bind_some, Bool.not_true, Bool.false_eq_true, if_false, i3]
  rw [List.all_map]
  exact congrArg some h4
end Gk10
set_option Elab.async false
set_option linter.all false
set_option maxRecDepth 100000
set_option maxHeartbeats 4000000
namespace Gk10
open PySem PySem.Spec PyProof.Rows L2 Pd
def stt (d n : Int) : List (Key × D) := asK [("digits", .int d), ("number", .int n)]
theorem stt_new (d n : Int) : mergeD [] [(.inr "digits", .int d), (.inr "number", .int n)] = stt d n := merge_as0 (l := [("digits", .int d), ("number", .int n)]) (show (["digits", "number"] : List Str).Nodup by decide +kernel)
theorem nd_dn : ¬ ("digits" : Str) = "number" := by decide +kernel
theorem stt_d {d n : Int} : oIx (dK (stt d n)) (.str "digits") = some (.int d) := by
  unfold stt
  rw [oIx_as]
  simp [assoc]
theorem stt_n {d n : Int} : oIx (dK (stt d n)) (.str "number") = some (.int n) := by
  unfold stt
  rw [oIx_as]
  simp [assoc, nd_dn]
theorem put_d {d n x : Int} : oPut (stt d n) (.str "digits") (.int x) = some (stt x n) := by
  unfold stt
  rw [oPut_as (l := [("digits", .int d), ("number", .int n)]) (show (["digits", "number"] : List Str).Nodup by decide +kernel) (show 2 < 1000000 by decide)]
  simp [putS]
theorem put_n {d n x : Int} : oPut (stt d n) (.str "number") (.int x) = some (stt d x) := by
  unfold stt
  rw [oPut_as (l := [("digits", .int d), ("number", .int n)]) (show (["digits", "number"] : List Str).Nodup by decide +kernel) (show 2 < 1000000 by decide)]
  simp [putS, nd_dn]
def Stt (st : List (Key × D)) : Prop := ∃ d n : Int, st = stt d n ∧ 0 ≤ n ∧ n < 2 ^ 40
theorem oFdiv_i {i j : Int} (h : 0 < j) (h2 : j < 2 ^ 64) : oFdiv (.int i) (.int j) = some (.int (i / j)) := by
  show gd _ _ = _
  rw [decide_eq_true h, decide_eq_true h2]; rfl
theorem oMul_fit {i j : Int} (h : fit64 j = true) : oMul (.int i) (.int j) = some (.int (i * j)) := by
  show gd (mulB i j) _ = _
  have : mulB i j = true := by simp [mulB, h]
  rw [this]; rfl
theorem fit_of {j : Int} (h0 : 0 ≤ j) (h : j < 2 ^ 63) : fit64 j = true := by
  simp only [fit64, Bool.and_eq_true, decide_eq_true_eq]; omega
theorem pick_ok {st : List (Key × D)} (h : Stt st) {m : Int} (h0 : 0 < m) (h1 : m < 2 ^ 40) : ∃ v st', F__law_pick st (.int m) = some (.int v, st') ∧ 0 ≤ v ∧ v < m ∧ Stt st' := by
  obtain ⟨d, n, rfl, hn0, hn1⟩ := h
  by_cases hd : 0 < d
  · refine ⟨d % m, stt (d / m) n, ?_, Int.emod_nonneg _ (by omega), Int.emod_lt_of_pos _ h0, d / m, n, rfl, hn0, hn1⟩
    simp only [F__law_pick, stt_d, oGt_i, decide_eq_true hd, Option.bind_some, if_true, oFdiv_i h0 (by omega), put_d, oMod_i h0]
  · have q0 : (0 : Int) ≤ (n * 48271 + 11) % 2147483647 := Int.emod_nonneg _ (by decide)
    have q1 : (n * 48271 + 11) % 2147483647 < 2147483647 := Int.emod_lt_of_pos _ (by decide)
    refine ⟨((n * 48271 + 11) % 2147483647 * ((n * 48271 + 11) % 2147483647 + 7919) % 2147483629 / 7) % m, stt d ((n * 48271 + 11) % 2147483647), ?_, Int.emod_nonneg _ (by omega), Int.emod_lt_of_pos _ h0, d, _, rfl, q0, by omega⟩
    have f1 : fit64 48271 = true := by decide
    have f2 : fit64 ((n * 48271 + 11) % 2147483647 + 7919) = true := fit_of (by omega) (by omega)
    simp only [F__law_pick, stt_d, oGt_i, decide_eq_false hd, Option.bind_some, Bool.false_eq_true, if_false, stt_n, oMul_fit f1, oAdd_i, oMod_i (show (0 : Int) < 2147483647 by decide), put_n, oMul_fit f2, oMod_i (show (0 : Int) < 2147483629 by decide), oFdiv_i (show (0 : Int) < 7 by decide) (by decide), oMod_i h0]
def P18 : Int := 10 ^ 18
def P60 : Int := 10 ^ 60
def P120 : Int := P60 * P60
theorem p18 : oPowI 10 18 = some P18 := by
  show gd _ _ = _
  rw [show (decide ((0 : Int) ≤ 18) && (decide ((18 : Int) ≤ 1000) && decide ((10 : Int).natAbs < 2 ^ 64))) = true from by decide +kernel]
  rfl
theorem p60 : oPowI 10 60 = some P60 := by
  show gd _ _ = _
  rw [show (decide ((0 : Int) ≤ 60) && (decide ((60 : Int) ≤ 1000) && decide ((10 : Int).natAbs < 2 ^ 64))) = true from by decide +kernel]
  rfl
theorem p120 : oMulI P60 P60 = some P120 := by
  show gd (mulB P60 P60) _ = _
  rw [show mulB P60 P60 = true from by decide +kernel]
  rfl
theorem p120_pos : (0 : Int) < P120 := by decide +kernel
end Gk10
set_option Elab.async false
set_option linter.all false
set_option maxRecDepth 100000
set_option maxHeartbeats 400000
namespace Gk10
open PySem PySem.Spec PyProof.Rows L2 Pd
theorem begun_cell (ns : List Int) (k : Nat) : ∃ c : Int, (((oLe (.int 0) (.int (k : Nat))).bind fun v3 => if v3 = true then (oLen (.list (ns.map PyData.int))).bind fun v4 => (oLt (.int (k : Nat)) (.int v4)).bind fun v5 => some v5 else some false).bind fun c2 => if c2 = true then (oIx (.list (ns.map PyData.int)) (.int (k : Nat))).bind fun v6 => some v6 else some (.int 5)) = some (.int c) := by
  have z : (0 : Int) ≤ (k : Int) := by omega
  simp only [oLe_i, decide_eq_true z, Option.bind_some, if_true, oLen_l, List.length_map, oLt_i]
  by_cases h : k < ns.length
  · have h' : (k : Int) < (ns.length : Int) := by omega
    refine ⟨ns[k], ?_⟩
    simp only [decide_eq_true h', if_true]
    rw [oIxN (by rw [List.length_map]; exact h), List.getElem?_map, List.getElem?_eq_getElem h]
    rfl
  · have h' : ¬ (k : Int) < (ns.length : Int) := by omega
    exact ⟨5, by simp only [decide_eq_false h', Bool.false_eq_true, if_false]⟩
theorem num_rng {c k : Int} (h0 : 0 ≤ k) (h1 : k < 100) : 0 ≤ c % 1000000007 + 7919 * k + 13 ∧ c % 1000000007 + 7919 * k + 13 < 2 ^ 40 := by
  have q0 : (0 : Int) ≤ c % 1000000007 := Int.emod_nonneg _ (by decide)
  have q1 : c % 1000000007 < 1000000007 := Int.emod_lt_of_pos _ (by decide)
  have e : (2 : Int) ^ 40 = 1099511627776 := by decide
  rw [e]
  omega
theorem oAbs_i {c : Int} : oAbs (.int c) = some (.int (if c < 0 then -c else c)) := rfl
theorem begun_ok (ns : List Int) {k : Nat} (hk : k < 100) : ∃ st, F__law_begun (.list (ns.map PyData.int)) (.int (k : Nat)) = some st ∧ Stt st := by
  obtain ⟨c, hc⟩ := begun_cell ns k
  have hr := num_rng (c := c) (k := (k : Nat)) (by omega) (by omega)
  have m1 := oMod_i (i := c) (j := 1000000007) (by decide)
  have m2 := oMul_fit (i := 7919) (j := (k : Nat)) (fit_of (by omega) (by omega))
  have mp := fun i => oMod_i (i := i) p120_pos
  unfold F__law_begun
  rw [hc, Option.bind_some, m1, Option.bind_some, m2, Option.bind_some, oAdd_i, Option.bind_some, oAdd_i, Option.bind_some, oAbs_i, Option.bind_some, p18, Option.bind_some, oGe_i, Option.bind_some]
  by_cases hb : P18 ≤ (if c < 0 then -c else c)
  · rw [if_pos (decide_eq_true hb), Option.bind_some, p60, Option.bind_some, Option.bind_some, p120, Option.bind_some, mp, Option.bind_some, stt_new]
    exact ⟨_, rfl, _, _, rfl, hr.1, hr.2⟩
  · rw [if_neg (fun z => hb (of_decide_eq_true z)), stt_new]
    exact ⟨_, rfl, _, _, rfl, hr.1, hr.2⟩
end Gk10
set_option Elab.async false
set_option linter.all false
set_option maxRecDepth 100000
set_option maxHeartbeats 1000000
namespace Gk10
open PySem PySem.Spec PyProof.Rows L2 Pd
theorem lt40 : ∀ m ∈ ([9, 997, 5, 3, 7, 4, 6, 2, 30] : List Int), 0 < m ∧ m < 2 ^ 40 := by decide
theorem pick_c (m : Int) (hm : m ∈ ([9, 997, 5, 3, 7, 4, 6, 2, 30] : List Int)) {st : List (Key × D)} (h : Stt st) : ∃ v st', F__law_pick st (.int m) = some (.int v, st') ∧ 0 ≤ v ∧ v < m ∧ Stt st' := pick_ok h (lt40 m hm).1 (lt40 m hm).2
theorem ix_mem {xs : List D} {v : Int} (h0 : 0 ≤ v) (h1 : v < xs.length) : ∃ x, oIx (.list xs) (.int v) = some x ∧ x ∈ xs := by
  obtain ⟨n, rfl⟩ : ∃ n : Nat, v = n := ⟨v.toNat, by omega⟩
  have hn : n < xs.length := by omega
  exact ⟨xs[n], by rw [oIxN hn, List.getElem?_eq_getElem hn], List.getElem_mem hn⟩
theorem pk3 (m : Int) (hm : m ∈ ([9, 997, 5, 3, 7, 4, 6, 2, 30] : List Int)) {st : List (Key × D)} (h : Stt st) : ∃ (v : Nat) (st' : List (Key × D)), F__law_pick st (.int m) = some (.int (v : Nat), st') ∧ (v : Int) < m ∧ Stt st' := by
  obtain ⟨v, s, p, a, b, hs⟩ := pick_c m hm h
  exact ⟨v.toNat, s, by rw [p, Int.toNat_of_nonneg a], by omega, hs⟩
def L9 : List Nat := [113, 122, 98, 120, 118, 106, 99, 103, 121]
def l9 (k : Nat) : Nat := L9.getD k 0
def sgn (k : Nat) : Str := ⟨#[l9 k]⟩
def W10 : List Str := ["cond", "name", "number", "order", "over", "row", "said", "step", "steps", "trace"]
def drn (w : Str) : Bool := (decide (1 ≤ w.length ∧ w.length ≤ 6) && w.cps.toList.all fun c => L9.contains c) || W10.contains w
theorem W10_ok : ∀ w ∈ W10, isNm w = true := by decide +kernel
theorem W10_nd : W10.Nodup := by decide +kernel
theorem kw_out : ∀ w ∈ KEYWs, (w.cps.toList.all fun c => L9.contains c) = false := by decide +kernel
theorem L9_in : ∀ c ∈ L9, c ∈ LETTERSs.cps.toList := by decide +kernel
theorem drn_nm {w : Str} (h : drn w = true) : isNm w = true := by
  unfold drn at h
  rcases Bool.or_eq_true _ _ ▸ h with q | q
  · simp only [Bool.and_eq_true] at q
    unfold isNm
    simp only [Bool.and_eq_true]
    refine ⟨q.1, ?_, ?_⟩
    · simp only [Bool.not_eq_true']
      cases z : KEYWs.contains w with
      | false => rfl
      | true => rw [kw_out w ((List.contains_iff_mem).mp z)] at q; exact absurd q.2 (by simp)
    · unfold allIn
      rw [List.all_eq_true]
      intro c hc
      have := List.all_eq_true.mp q.2 c hc
      exact decide_eq_true (L9_in c ((List.contains_iff_mem).mp this))
  · exact W10_ok w ((List.contains_iff_mem).mp q)
theorem l9_mem : ∀ k, k < 9 → l9 k ∈ L9 := by decide
theorem l9_inj : ∀ i, i < 9 → ∀ j, j < 9 → l9 i = l9 j → i = j := by decide
def QZ : Str := "qzbxvjcgy"
theorem qz_l : QZ.cps.toList = L9 := by decide +kernel
theorem ix_qz {k : Nat} (h : k < 9) : oIx (.str "qzbxvjcgy") (.int (k : Nat)) = some (.str (sgn k)) := by
  show (gd (decide (QZ.length ≤ 1000000)) ()).bind (fun _ => (atI QZ.cps.toList (k : Nat)).map fun c => PyData.str ⟨#[c]⟩) = _
  rw [show decide (QZ.length ≤ 1000000) = true from by decide +kernel, qz_l, Pd.atI_nat (by show k < 9; exact h)]
  have : L9[k]? = some (l9 k) := by
    unfold l9
    rw [List.getD_eq_getElem?_getD, List.getElem?_eq_getElem (show k < L9.length from h)]
    rfl
  rw [this]
  rfl
theorem sgn_l (k : Nat) : (sgn k).cps.toList = [l9 k] := rfl
theorem letters_draw : ∀ (l : List D) (st : List (Key × D)), Stt st → ∃ (cs : List Nat) (st' : List (Key × D)), oMapS (fun x3 s7 => (F__law_pick s7 (.int 9)).bind fun v8 => (oIx (.str "qzbxvjcgy") v8.1).bind fun v9 => some (v9, v8.2)) l st = some ((cs.map sgn).map PyData.str, st') ∧ Stt st' ∧ cs.length = l.length ∧ ∀ c ∈ cs, c < 9
  | [], st, hs => ⟨[], st, rfl, hs, rfl, by simp⟩
  | x :: l, st, hs => by
    obtain ⟨v, s1, p1, b1, hs1⟩ := pk3 9 (by decide) hs
    obtain ⟨cs, s2, p2, hs2, l2, r2⟩ := letters_draw l s1 hs1
    refine ⟨v :: cs, s2, ?_, hs2, by simp [l2], fun c hc => ?_⟩
    · rw [oMapS, p1, Option.bind_some, ix_qz (by omega), Option.bind_some, Option.bind_some, p2, Option.bind_some]
      rfl
    · rcases List.mem_cons.mp hc with rfl | hc
      · omega
      · exact r2 c hc
theorem joined (cs : List Nat) (h : cs.length ≤ 3) : Txt.join "" (cs.map sgn) = ⟨(cs.map l9).toArray⟩ := by
  have e0 : ("" : Str).cps = #[] := by decide +kernel
  rcases cs with _ | ⟨a, _ | ⟨b, _ | ⟨c, _ | ⟨d, r⟩⟩⟩⟩
  · show (⟨_⟩ : Str) = _; decide +kernel
  · rfl
  · show (⟨#[l9 a] ++ ("" : Str).cps ++ #[l9 b]⟩ : Str) = _
    rw [e0]; simp
  · show (⟨#[l9 a] ++ ("" : Str).cps ++ #[l9 b] ++ ("" : Str).cps ++ #[l9 c]⟩ : Str) = _
    rw [e0]; simp
  · simp at h
theorem rep_l (c : Nat) : ∀ n, (repS ⟨#[c]⟩ n).cps.toList = List.replicate n c := by
  have g : ∀ n (acc : Array Nat), ((List.replicate n (#[c] : Array Nat)).foldl (· ++ ·) acc).toList = acc.toList ++ List.replicate n c := by
    intro n
    induction n with
    | zero => intro acc; simp
    | succ n ih => intro acc; rw [List.replicate_succ, List.foldl_cons, ih]; simp [List.replicate_succ]
  intro n
  show ((List.replicate n (#[c] : Array Nat)).foldl (· ++ ·) #[]).toList = _
  rw [g]; rfl
theorem drn_l {w : Str} (h1 : 1 ≤ w.cps.toList.length) (h2 : w.cps.toList.length ≤ 6) (h : ∀ c ∈ w.cps.toList, c ∈ L9) : drn w = true := by
  unfold drn
  rw [Bool.or_eq_true, Bool.and_eq_true]
  left
  refine ⟨decide_eq_true ?_, ?_⟩
  · rw [len_of]; exact ⟨h1, h2⟩
  · rw [List.all_eq_true]; intro c hc; exact (List.contains_iff_mem).mpr (h c hc)
theorem signs9 : ∀ s, s < 9 → ∀ b ∈ ([1, 2, 4, 5, 7, 8] : List Nat), ∀ i, i < 6 → ∀ j, j < 6 → (s + b * i) % 9 = (s + b * j) % 9 → i = j := by decide +kernel
theorem split_w : (Txt.split "cond name number order over row said step steps trace" " ") = W10 := by decide +kernel
theorem range_map {n : Nat} : rangeD 0 1 n = (List.range n).map fun i => .int (i : Nat) := by
  unfold rangeD
  refine List.map_congr_left fun i _ => ?_
  congr 1; omega
theorem nodup_range {f : Nat → Str} {n : Nat} (h : ∀ i, i < n → ∀ j, j < n → f i = f j → i = j) : ((List.range n).map f).Nodup := by
  rw [List.Nodup, List.pairwise_map, List.pairwise_iff_getElem]
  intro i j hi hj hij e
  simp only [List.length_range] at hi hj
  simp only [List.getElem_range] at e
  have := h i hi j hj e
  omega
structure Ndr (N : List Str) (many : Nat) : Prop where
  drn : ∀ w ∈ N, drn w = true
  nd : N.Nodup
  len : N.length = many
theorem ndr_rep {s : Nat} (hs : s < 9) {many : Nat} (h : many ≤ 6) : Ndr ((List.range many).map fun i => repS (sgn s) (many - i)) many := by
  refine ⟨fun w hw => ?_, nodup_range fun i hi j hj e => ?_, by simp⟩
  · obtain ⟨i, hi, rfl⟩ := List.mem_map.mp hw
    have hi := List.mem_range.mp hi
    have e := rep_l (l9 s) (many - i)
    refine drn_l (w := repS ⟨#[l9 s]⟩ (many - i)) (by rw [e]; simp; omega) (by rw [e]; simp; omega) fun c hc => ?_
    rw [e] at hc
    rw [(List.mem_replicate.mp hc).2]
    exact l9_mem s hs
  · have e1 := rep_l (l9 s) (many - i)
    have e2 := rep_l (l9 s) (many - j)
    have e' : repS ⟨#[l9 s]⟩ (many - i) = repS ⟨#[l9 s]⟩ (many - j) := e
    rw [e'] at e1
    have := congrArg List.length (e1.symm.trans e2)
    simp at this
    omega
theorem ndr_10 {a many : Nat} (ha : a ≤ 4) (h : many ≤ 6) : Ndr ((W10.drop a).take many) many := by
  have sb : ((W10.drop a).take many).Sublist W10 := (List.take_sublist _ _).trans (List.drop_sublist _ _)
  refine ⟨fun w hw => ?_, W10_nd.sublist sb, ?_⟩
  · unfold Gk10.drn
    rw [Bool.or_eq_true]
    exact .inr ((List.contains_iff_mem).mpr (sb.subset hw))
  · rw [List.length_take, List.length_drop, show W10.length = 10 from rfl]; omega
theorem cut_to_l {z : Str} {k : Nat} (h : k ≤ z.length) : (cutS z none (some (k : Nat))).cps.toList = z.cps.toList.take k := by
  show ((z.cps.toList.drop (HT.sIx z.length 0 none)).take (HT.sIx z.length z.length (some (k : Int)) - HT.sIx z.length 0 none)).toArray.toList = _
  rw [HT.sIx_none, HT.sIx_nat, Nat.min_eq_left h]
  simp
theorem cut_fr_l {z : Str} {k : Nat} (h : k ≤ z.length) : (cutS z (some (k : Nat)) none).cps.toList = z.cps.toList.drop k := by
  show ((z.cps.toList.drop (HT.sIx z.length 0 (some (k : Int)))).take (HT.sIx z.length z.length none - HT.sIx z.length 0 (some (k : Int)))).toArray.toList = _
  rw [HT.sIx_none, HT.sIx_nat, Nat.min_eq_left h, len_of]
  simp only [List.toList_toArray]
  rw [← List.length_drop, List.take_length]
theorem app_l (a b : Str) : (a ++ b).cps.toList = a.cps.toList ++ b.cps.toList := by
  show (a.cps ++ b.cps).toList = _
  simp
theorem ndr_in {s b : Nat} (hs : s < 9) (hb : b ∈ ([1, 2, 4, 5, 7, 8] : List Nat)) {z : Str} {at' : Nat} (hz : z.length ≤ 3) (hat : at' ≤ z.length) (hc : ∀ c ∈ z.cps.toList, c ∈ L9) {many : Nat} (h : many ≤ 6) :
    Ndr ((List.range many).map fun i => cutS z none (some (at' : Nat)) ++ sgn ((s + b * i) % 9) ++ cutS z (some (at' : Nat)) none) many := by
  have el : ∀ i, (cutS z none (some (at' : Nat)) ++ sgn ((s + b * i) % 9) ++ cutS z (some (at' : Nat)) none).cps.toList = z.cps.toList.take at' ++ [l9 ((s + b * i) % 9)] ++ z.cps.toList.drop at' := fun i => by
    rw [app_l, app_l, cut_to_l hat, cut_fr_l hat, sgn_l]
  have hz' := hz
  rw [len_of] at hz'
  refine ⟨fun w hw => ?_, nodup_range fun i hi j hj e => ?_, by simp⟩
  · obtain ⟨i, hi, rfl⟩ := List.mem_map.mp hw
    refine drn_l (by rw [el]; simp only [List.length_append, List.length_take, List.length_drop, List.length_cons, List.length_nil]; omega) (by rw [el]; simp only [List.length_append, List.length_take, List.length_drop, List.length_cons, List.length_nil]; omega) fun c hcc => ?_
    rw [el] at hcc
    rcases List.mem_append.mp hcc with q | q
    · rcases List.mem_append.mp q with q | q
      · exact hc c (List.mem_of_mem_take q)
      · rw [List.mem_singleton.mp q]; exact l9_mem _ (Nat.mod_lt _ (by decide))
    · exact hc c (List.mem_of_mem_drop q)
  · have e2 := congrArg (fun w : Str => w.cps.toList) e
    simp only [el] at e2
    have e3 := List.append_cancel_right e2
    have e4 := List.append_cancel_left e3
    have e5 := List.head_eq_of_cons_eq e4
    exact signs9 s hs b hb i (by omega) j (by omega) (l9_inj _ (Nat.mod_lt _ (by decide)) _ (Nat.mod_lt _ (by decide)) e5)
end Gk10
set_option Elab.async false
set_option linter.all false
set_option maxRecDepth 100000
set_option maxHeartbeats 1000000
namespace Gk10
open PySem PySem.Spec PyProof.Rows L2 Pd
theorem cut_from {ds : List D} {k : Nat} (h : k ≤ ds.length) : Pd.cutD ds (some (k : Int)) none = ds.drop k := by
  unfold Pd.cutD
  rw [HT.sIx_none, HT.sIx_nat, Nat.min_eq_left h]
  rw [← List.length_drop, List.take_length]
theorem cut_to {ds : List D} {k : Nat} : Pd.cutD ds none (some (k : Int)) = ds.take k := by
  unfold Pd.cutD
  rw [HT.sIx_none, HT.sIx_nat]
  simp [List.take_eq_take_iff]
theorem oRng_n {n : Nat} (h : n ≤ 100000) : oRng1 (.int (n : Nat)) = some ((List.range n).map fun i => .int (i : Nat)) := by
  show gd (fitB (n : Nat)) (rangeD 0 1 ((n : Nat) : Int).toNat) = _
  have : fitB (n : Nat) = true := by simp only [fitB, Bool.and_eq_true, decide_eq_true_eq]; omega
  rw [this, Int.toNat_natCast, range_map]
  rfl
theorem names_draw {many : Nat} (h6 : many ≤ 6) {st : List (Key × D)} (hs : Stt st) : ∃ (N : List Str) (st' : List (Key × D)), F__law_names st (.int (many : Nat)) = some (N.map PyData.str, st') ∧ Stt st' ∧ Ndr N many := by
  obtain ⟨v1, s1, p1, b1, hs1⟩ := pk3 4 (by decide) hs
  obtain ⟨cs, s6, p6, hs6, l6, r6⟩ := letters_draw ((List.range v1).map fun i => .int (i : Nat)) s1 hs1
  rw [List.length_map, List.length_range] at l6
  have f1 : few ((List.range v1).map fun i => PyData.int (i : Nat)) = some () := few_of (by simp; omega)
  have jn : oJoin "" (.list ((cs.map sgn).map PyData.str)) = some ⟨(cs.map l9).toArray⟩ := by
    show (strsOf _).bind _ = _
    rw [strsOf_map, Option.bind_some, joined cs (by omega)]
    have e0 : ("" : Str).length = 0 := by decide +kernel
    have es : ((cs.map sgn).map (·.length)).sum ≤ 3 := by
      rcases cs with _ | ⟨a, _ | ⟨b, _ | ⟨c, _ | ⟨d, r⟩⟩⟩⟩
      · decide
      · exact (by decide : 1 ≤ 3)
      · exact (by decide : 2 ≤ 3)
      · exact (by decide : 3 ≤ 3)
      · simp at l6; omega
    show gd (decide (((cs.map sgn).map (·.length)).sum + (cs.map sgn).length * ("" : Str).length ≤ 16777216)) _ = _
    rw [e0, decide_eq_true (by omega)]
    rfl
  obtain ⟨z, hz⟩ : ∃ z : Str, z = ⟨(cs.map l9).toArray⟩ := ⟨_, rfl⟩
  rw [← hz] at jn
  have zl : z.cps.toList = cs.map l9 := by rw [hz]
  have zn : z.length = v1 := by rw [len_of, zl, List.length_map, l6]
  have zc : ∀ c ∈ z.cps.toList, c ∈ L9 := fun c hc => by
    rw [zl] at hc
    obtain ⟨k, hk, rfl⟩ := List.mem_map.mp hc
    exact l9_mem k (r6 k hk)
  have ev : (v1 : Int) + 1 = ((v1 + 1 : Nat) : Int) := by omega
  have e40 : (2 : Int) ^ 40 = 1099511627776 := by decide
  obtain ⟨v12, s12, p12, a12, b12, hs12⟩ := pick_ok hs6 (m := ((v1 + 1 : Nat) : Int)) (by omega) (by rw [e40]; omega)
  obtain ⟨at', rfl⟩ : ∃ n : Nat, v12 = n := ⟨v12.toNat, by omega⟩
  obtain ⟨s, s13, p13, b13, hs13⟩ := pk3 9 (by decide) hs12
  obtain ⟨v14, s14, p14, b14, hs14⟩ := pk3 6 (by decide) hs13
  obtain ⟨x15, q15, m15⟩ := ix_mem (xs := [(.int 1), (.int 2), (.int 4), (.int 5), (.int 7), (.int 8)]) (v := (v14 : Int)) (by omega) (by show (v14 : Int) < 6; omega)
  obtain ⟨b, rfl, hb⟩ : ∃ b : Nat, x15 = .int (b : Nat) ∧ b ∈ ([1, 2, 4, 5, 7, 8] : List Nat) := by
    rcases (by simpa using m15 : x15 = .int 1 ∨ x15 = .int 2 ∨ x15 = .int 4 ∨ x15 = .int 5 ∨ x15 = .int 7 ∨ x15 = .int 8) with rfl | rfl | rfl | rfl | rfl | rfl
    · exact ⟨1, rfl, by decide⟩
    · exact ⟨2, rfl, by decide⟩
    · exact ⟨4, rfl, by decide⟩
    · exact ⟨5, rfl, by decide⟩
    · exact ⟨7, rfl, by decide⟩
    · exact ⟨8, rfl, by decide⟩
  have f2 : few ((List.range many).map fun i => PyData.int (i : Nat)) = some () := few_of (by simp; omega)
  have hb8 : b ≤ 8 := by
    have : ∀ b ∈ ([1, 2, 4, 5, 7, 8] : List Nat), b ≤ 8 := by decide
    exact this b hb
  have m21 : oMap (fun x18 => (oMul (.int (b : Nat)) x18).bind fun v22 => (oAdd (.int (s : Nat)) v22).bind fun v23 => (oMod v23 (.int 9)).bind fun v24 => (oIx (.str "qzbxvjcgy") v24).bind fun v25 => some v25) ((List.range many).map fun i => PyData.int (i : Nat)) = some ((List.range many).map fun i => .str (sgn ((s + b * i) % 9))) := by
    refine oMap_map fun i hi => ?_
    have hi := List.mem_range.mp hi
    have e1 : (b : Int) * (i : Int) = ((b * i : Nat) : Int) := by simp
    have e2 : ((s : Int) + ((b * i : Nat) : Int)) = ((s + b * i : Nat) : Int) := by omega
    have e3 : ((s + b * i : Nat) : Int) % 9 = (((s + b * i) % 9 : Nat) : Int) := by omega
    rw [oMul_fit (fit_of (by omega) (by omega)), Option.bind_some, e1, oAdd_i, Option.bind_some, e2, oMod_i (by decide), Option.bind_some, e3, ix_qz (Nat.mod_lt _ (by decide)), Option.bind_some]
  obtain ⟨v26, s26, p26, b26, hs26⟩ := pk3 4 (by decide) hs14
  unfold F__law_names
  rw [p1, Option.bind_some, oRng_n (by omega), Option.bind_some, f1, Option.bind_some, p6, Option.bind_some, jn, Option.bind_some, oAdd_i, Option.bind_some, ev, p12, Option.bind_some, p13, Option.bind_some, p14, Option.bind_some, q15, Option.bind_some]
  rw [show oT2 (.tuple [.int (s : Nat), .int (b : Nat)]) = some (.int (s : Nat), .int (b : Nat)) from rfl, Option.bind_some, oRng_n (by omega), Option.bind_some, f2, Option.bind_some, m21, Option.bind_some, p26, Option.bind_some, oEq_i, Option.bind_some]
  by_cases z0 : (v26 : Int) = 0
  · rw [if_pos (decide_eq_true z0), Option.bind_some, f2, Option.bind_some]
    have m32 : oMap (fun x29 => (oIx (.list ((List.range many).map fun i => PyData.str (sgn ((s + b * i) % 9)))) (.int 0)).bind fun v33 => (oSub (.int (many : Nat)) x29).bind fun v34 => (oMul v33 v34).bind fun v35 => some v35) ((List.range many).map fun i => PyData.int (i : Nat)) = some (((List.range many).map fun i => repS (sgn s) (many - i)).map PyData.str) := by
      rw [List.map_map]
      refine oMap_map fun i hi => ?_
      have hi := List.mem_range.mp hi
      have e1 : oIx (.list ((List.range many).map fun i => PyData.str (sgn ((s + b * i) % 9)))) (.int 0) = some (.str (sgn s)) := by
        have := oIxN (xs := (List.range many).map fun i => PyData.str (sgn ((s + b * i) % 9))) (n := 0) (by simp; omega)
        have e0 : (s + b * 0) % 9 = s := by omega
        rw [List.getElem?_map, List.getElem?_range (by omega)] at this
        rw [show (.int 0 : D) = .int ((0 : Nat) : Int) from rfl, this]
        show some (PyData.str (sgn ((s + b * 0) % 9))) = _
        rw [e0]
      have e2 : (many : Int) - (i : Int) = ((many - i : Nat) : Int) := by omega
      have e3 : oMul (.str (sgn s)) (.int ((many - i : Nat) : Int)) = some (.str (repS (sgn s) (many - i))) := by
        show gd (decide ((0 : Int) ≤ ((many - i : Nat) : Int)) && (decide (((many - i : Nat) : Int) ≤ 1000000) && decide ((sgn s).length * ((many - i : Nat) : Int).toNat ≤ 1000000))) _ = _
        rw [decide_eq_true (by omega), decide_eq_true (by omega), decide_eq_true (by rw [show (sgn s).length = 1 from rfl]; omega), Int.toNat_natCast]
        rfl
      rw [e1, Option.bind_some, oSub_i, Option.bind_some, e2, e3, Option.bind_some]
      rfl
    rw [m32, Option.bind_some]
    exact ⟨_, s26, rfl, hs26, ndr_rep (by omega) h6⟩
  · rw [if_neg (fun q => z0 (of_decide_eq_true q)), oEq_i, Option.bind_some]
    by_cases z1 : (v26 : Int) = 1
    · rw [if_pos (decide_eq_true z1)]
      have e1 : oSplit "cond name number order over row said step steps trace" (.str " ") = some (W10.map PyData.str) := by
        show gd _ _ = _
        rw [split_w, show (!decide ((" " : Str).length = 0) && decide (("cond name number order over row said step steps trace" : Str).length ≤ 1000000)) = true from by decide +kernel]
        rfl
      have e2 : (s : Int) % 5 = ((s % 5 : Nat) : Int) := by omega
      have e3 : oSlL (.list (W10.map PyData.str)) (some ((s % 5 : Nat) : Int)) none = some ((W10.drop (s % 5)).map PyData.str) := by
        show some (Pd.cutD _ (some ((s % 5 : Nat) : Int)) none) = _
        rw [cut_from (by rw [List.length_map, show W10.length = 10 from rfl]; omega), List.map_drop]
      have e4 : oSlL (.list ((W10.drop (s % 5)).map PyData.str)) none (some (many : Int)) = some (((W10.drop (s % 5)).take many).map PyData.str) := by
        show some (Pd.cutD _ none (some (many : Int))) = _
        rw [cut_to, List.map_take]
      have ei : ∀ i : Int, oI (.int i) = some i := fun _ => rfl
      rw [e1, Option.bind_some, oMod_i (by decide), Option.bind_some, ei, Option.bind_some, e2, e3, Option.bind_some, ei, Option.bind_some, e4, Option.bind_some]
      exact ⟨_, s26, rfl, hs26, ndr_10 (by omega) h6⟩
    · rw [if_neg (fun q => z1 (of_decide_eq_true q))]
      have f3 : few ((List.range many).map fun i => PyData.str (sgn ((s + b * i) % 9))) = some () := few_of (by simp; omega)
      have hat : at' ≤ z.length := by omega
      have ei : ∀ i : Int, oI (.int i) = some i := fun _ => rfl
      have sl : ∀ lo hi : Option Int, oSl (.str z) lo hi = some (.str (cutS z lo hi)) := fun lo hi => by
        show gd _ _ = _
        rw [decide_eq_true (by omega : z.length ≤ 1000000)]
        rfl
      have ad : ∀ x y : Str, x.cps.toList.length + y.cps.toList.length ≤ 1000 → oAdd (.str x) (.str y) = some (.str (x ++ y)) := fun x y h => by
        show gd _ _ = _
        rw [decide_eq_true (by rw [len_of, len_of]; omega)]
        rfl
      have c1 : (cutS z none (some (at' : Int))).cps.toList.length ≤ 3 := by rw [cut_to_l hat, List.length_take, zl, List.length_map]; omega
      have c2 : (cutS z (some (at' : Int)) none).cps.toList.length ≤ 3 := by rw [cut_fr_l hat, List.length_drop, zl, List.length_map]; omega
      have m46 : oMap (fun x43 => (oI (.int (at' : Nat))).bind fun v47 => (oSl (.str z) none (some v47)).bind fun v48 => (oAdd v48 x43).bind fun v49 => (oI (.int (at' : Nat))).bind fun v50 => (oSl (.str z) (some v50) none).bind fun v51 => (oAdd v49 v51).bind fun v52 => some v52) ((List.range many).map fun i => PyData.str (sgn ((s + b * i) % 9))) = some (((List.range many).map fun i => cutS z none (some (at' : Nat)) ++ sgn ((s + b * i) % 9) ++ cutS z (some (at' : Nat)) none).map PyData.str) := by
        rw [List.map_map]
        refine oMap_map fun i hi => ?_
        rw [ei, Option.bind_some, sl, Option.bind_some, ad _ _ (by rw [sgn_l]; simp only [List.length_cons, List.length_nil]; omega), Option.bind_some, Option.bind_some, sl, Option.bind_some, ad _ _ (by rw [app_l, sgn_l]; simp only [List.length_append, List.length_cons, List.length_nil]; omega), Option.bind_some]
        rfl
      rw [f3, Option.bind_some, m46, Option.bind_some]
      exact ⟨_, s26, rfl, hs26, ndr_in (by omega) hb (by omega) hat zc h6⟩
end Gk10
set_option Elab.async false
set_option linter.all false
set_option maxRecDepth 100000
set_option maxHeartbeats 4000000
namespace Gk10
open PySem PySem.Spec PyProof.Rows L2 Pd
theorem lets_b {w : Str} (h : w.length ≤ 1000) : ((itemsD (.str w)).bind fun v7 => (few v7).bind fun u10 => (oMap (fun x8 => (oIn x8 c_LETTERS).bind fun v12 => some (.bool v12)) v7).bind fun w11 => (oAll (.list w11)).bind fun v13 => some v13) = some (allIn w LETTERSs) := by
  have e2 : oMap (fun x8 => (oIn x8 c_LETTERS).bind fun v12 => some (.bool v12)) (charsD w) = some ((w.cps.toList.map fun c => decide (c ∈ LETTERSs.cps.toList)).map PyData.bool) := by
    unfold charsD
    rw [List.map_map]
    refine oMap_map fun c _ => ?_
    show (oIn (.str ⟨#[c]⟩) (.str LETTERSs)).bind _ = _
    rw [sign_in]; rfl
  have e3 : few (charsD w) = some () := few_of (by simp [charsD]; have := len_of w; rw [Array.length_toList] at this; omega)
  rw [show itemsD (.str w) = some (charsD w) from rfl, Option.bind_some, e3, Option.bind_some, e2, Option.bind_some, oAll_bs, Option.bind_some]
  rw [List.all_map]
  rfl
theorem name_b {w : Str} (h : w.length ≤ 1000) : F_is_name (.str w) = some (isNm w) := by
  have e1 : c_MOST_LETTERS = .int 6 := rfl
  have lt := lets_b h
  unfold isNm
  rw [F_is_name, isi_s, Option.bind_some, if_neg (by decide), oLen_s (by omega), Option.bind_some, e1, oLe_i]
  by_cases h1 : 1 ≤ w.length
  · have i1 : (1 : Int) ≤ (w.length : Int) := by omega
    rw [if_pos (decide_eq_true i1), Option.bind_some, Option.bind_some]
    by_cases h2 : w.length ≤ 6
    · have i2 : (w.length : Int) ≤ 6 := by omega
      rw [decide_eq_true i2, if_neg (by decide), keys_eq, oIn_strs, Option.bind_some, Option.bind_some, decide_eq_true (⟨h1, h2⟩ : 1 ≤ w.length ∧ w.length ≤ 6)]
      cases KEYWs.contains w with
      | true => rfl
      | false =>
        rw [if_neg (by decide)]
        exact lt
    · have i2 : ¬ (w.length : Int) ≤ 6 := by omega
      rw [decide_eq_false i2, decide_eq_false (fun q => h2 q.2 : ¬ (1 ≤ w.length ∧ w.length ≤ 6))]
      rfl
  · have i1 : ¬ (1 : Int) ≤ (w.length : Int) := by omega
    rw [if_neg (fun q => i1 (of_decide_eq_true q)), decide_eq_false (fun q => h1 q.1 : ¬ (1 ≤ w.length ∧ w.length ≤ 6))]
    rfl
abbrev Ins := List (Str × List Int)
def inP (p : Str × List Int) : D := .tuple [.str p.1, .tuple (p.2.map PyData.int)]
def inOk (p : Str × List Int) : Prop := isNm p.1 = true ∧ p.2.length ≤ 300 ∧ ∀ i ∈ p.2, 0 ≤ i ∧ i ≤ 996
structure Iok (ins : Ins) : Prop where
  nm : ∀ p ∈ ins, inOk p
  rise : ins.Pairwise fun a b => ltS a.1 b.1
theorem input_ok {p : Str × List Int} (h : inOk p) : F_is_input (inP p) = some true := by
  have e1 : c_MOST_INPUTS = .int 300 := rfl
  have e2 : c_MOST = .int 996 := rfl
  have n1 : ¬ (300 : Int) < (p.2.length : Int) := by have := h.2.1; omega
  have e3 : few (p.2.map PyData.int) = some () := few_of (by rw [List.length_map]; have := h.2.1; omega)
  have e4 : oMap (fun x14 => (F_is_among x14 (.int 0) (.int 996)).bind fun v18 => some (.bool v18)) (p.2.map PyData.int) = some (p.2.map fun _ => .bool true) := oMap_map fun i hi => by
    have := h.2.2 i hi
    rw [among_i, decide_eq_true this.1, decide_eq_true this.2]
    rfl
  have e5 : oAll (.list (p.2.map fun _ => PyData.bool true)) = some true := oAll_t fun d hd => by
    obtain ⟨_, _, rfl⟩ := List.mem_map.mp hd
    rfl
  simp only [F_is_input, inP, isi_t, oLen_t, oIx0, oIx1, Option.bind_some, Bool.not_true, Bool.false_eq_true, if_false, name_s h.1, e1, oGt_i, List.length_map, decide_eq_false n1, itemsD, e2, e3, e4, e5, List.length_cons, List.length_nil, show decide (((0 + 1 + 1 : Nat) : Int) = 2) = true from rfl]
theorem turn_ok {xs : List D} {p : Str × List Int} (h : inOk p) {i : Nat} (hp : ∀ j, i = j + 1 → ∃ q : Str × List Int, xs[j]? = some (inP q) ∧ ltS q.1 p.1) : B_need_inputs_1 (.tuple xs) (.tuple [.int (i : Nat), inP p]) = some (.nx ()) := by
  rw [B_need_inputs_1, show oT2 (.tuple [.int ((i : Nat) : Int), inP p]) = some (.int ((i : Nat) : Int), inP p) from rfl, Option.bind_some]
  dsimp only
  rw [input_ok h, Option.bind_some, if_neg (by decide), oGt_i, Option.bind_some]
  cases i with
  | zero => rfl
  | succ j =>
    obtain ⟨q, hq, lt⟩ := hp j rfl
    have hz : (0 : Int) < ((j + 1 : Nat) : Int) := by omega
    have ei : ((j + 1 : Nat) : Int) - 1 = (j : Nat) := by omega
    have e2 : oIx (.tuple xs) (.int (j : Nat)) = some (inP q) := by
      show atI _ _ = _
      rw [atI_nat (List.getElem?_eq_some_iff.mp hq).1, hq]
    have e3 : oIx (inP q) (.int 0) = some (.str q.1) := oIx0
    have e4 : oIx (inP p) (.int 0) = some (.str p.1) := oIx0
    have lt : q.1.cps.toList < p.1.cps.toList := lt
    rw [if_pos (decide_eq_true hz), oSub_i, Option.bind_some, ei, e2, Option.bind_some, e3, Option.bind_some, e4, Option.bind_some, oGe_s, Option.bind_some, Option.bind_some, decide_eq_true lt]
    rfl
inductive BadAt (xs : List D) (i : Nat) (x : D) : Prop where
  | no (h : F_is_input x = some false) : BadAt xs i x
  | low (j : Nat) (hj : i = j + 1) (p q : Str × List Int) (hx : x = inP p) (hp : inOk p) (hq : xs[j]? = some (inP q)) (h : ¬ ltS q.1 p.1) : BadAt xs i x
theorem turn_bad {xs : List D} {i : Nat} {x : D} (h : BadAt xs i x) : B_need_inputs_1 (.tuple xs) (.tuple [.int (i : Nat), x]) = some (.rt (.er "BadInputs" [("place", .int (i : Nat))] ())) := by
  rw [B_need_inputs_1, show oT2 (.tuple [.int ((i : Nat) : Int), x]) = some (.int ((i : Nat) : Int), x) from rfl, Option.bind_some]
  dsimp only
  cases h with
  | no h =>
    rw [h, Option.bind_some, if_pos (by decide), Option.bind_some, if_pos rfl]
  | low j hj p q hx hp hq lt =>
    subst hj
    subst hx
    have hz : (0 : Int) < ((j + 1 : Nat) : Int) := by omega
    have ei : ((j + 1 : Nat) : Int) - 1 = (j : Nat) := by omega
    have e2 : oIx (.tuple xs) (.int (j : Nat)) = some (inP q) := by
      show atI _ _ = _
      rw [atI_nat (List.getElem?_eq_some_iff.mp hq).1, hq]
    have e3 : oIx (inP q) (.int 0) = some (.str q.1) := oIx0
    have e4 : oIx (inP p) (.int 0) = some (.str p.1) := oIx0
    have lt : ¬ q.1.cps.toList < p.1.cps.toList := lt
    rw [input_ok hp, Option.bind_some, if_neg (by decide), oGt_i, Option.bind_some, if_pos (decide_eq_true hz), oSub_i, Option.bind_some, ei, e2, Option.bind_some, e3, Option.bind_some, e4, Option.bind_some, oGe_s, Option.bind_some, Option.bind_some, decide_eq_false lt]
    rfl
theorem oFor_app {ρ : Type} {f : D → Unit → Option (Ctl Unit ρ)} : ∀ {l m : List D}, (∀ x ∈ l, f x () = some (.nx ())) → oFor f (l ++ m) () = oFor f m ()
  | [], _, _ => rfl
  | x :: l, m, q => by
    rw [List.cons_append, oFor, q x List.mem_cons_self, Option.bind_some]
    exact oFor_app fun y hy => q y (List.mem_cons_of_mem _ hy)
theorem head_turns {ins : Ins} (I : Iok ins) {xs : List D} (hx : ∀ (i : Nat) (hi : i < ins.length), xs[i]? = some (inP ins[i])) : ∀ x ∈ (((ins.map inP).zipIdx).map fun q => PyData.tuple [.int (q.2 : Nat), q.1]), B_need_inputs_1 (.tuple xs) x = some (.nx ()) := fun x hm => by
  obtain ⟨⟨d, i⟩, hp, rfl⟩ := List.mem_map.mp hm
  have hg : (ins.map inP)[i]? = some d := List.mk_mem_zipIdx_iff_getElem?.mp hp
  rw [List.getElem?_map] at hg
  cases hq : ins[i]? with
  | none => rw [hq] at hg; cases hg
  | some p =>
    rw [hq] at hg
    have hd : inP p = d := Option.some.inj hg
    subst hd
    obtain ⟨hi, ep⟩ := List.getElem?_eq_some_iff.mp hq
    refine turn_ok (I.nm p (List.mem_of_getElem? hq)) fun j hj => ?_
    subst hj
    refine ⟨ins[j], hx j (by omega), ?_⟩
    rw [← ep]
    exact (List.pairwise_iff_getElem.mp I.rise) j (j + 1) (by omega) hi (by omega)
theorem need_good {ins : Ins} (I : Iok ins) : F_need_inputs (.tuple (ins.map inP)) = some (.ok ()) := by
  have e1 : oFor (fun x5 _ => B_need_inputs_1 (.tuple (ins.map inP)) x5) (enumD (ins.map inP)) () = some (.nx ()) := oFor_on (head_turns I fun i hi => by rw [List.getElem?_map, List.getElem?_eq_getElem hi]; rfl)
  rw [F_need_inputs, isi_t, Option.bind_some, if_neg (by decide), show oList (.tuple (ins.map inP)) = some (ins.map inP) from rfl, Option.bind_some, e1, Option.bind_some]
  rfl
theorem need_bad {ins : Ins} (I : Iok ins) {x : D} {rest : List D} (h : BadAt (ins.map inP ++ x :: rest) ins.length x) : F_need_inputs (.tuple (ins.map inP ++ x :: rest)) = some (.er "BadInputs" [("place", .int (ins.length : Nat))] ()) := by
  have e1 : oFor (fun x5 _ => B_need_inputs_1 (.tuple (ins.map inP ++ x :: rest)) x5) (enumD (ins.map inP ++ x :: rest)) () = some (.rt (.er "BadInputs" [("place", .int (ins.length : Nat))] ())) := by
    unfold enumD
    rw [List.zipIdx_append, List.map_append, oFor_app (head_turns I fun i hi => by rw [List.getElem?_append_left (by rw [List.length_map]; exact hi), List.getElem?_map, List.getElem?_eq_getElem hi]; rfl), List.zipIdx_cons, List.map_cons, oFor, List.length_map, Nat.zero_add]
    dsimp only
    rw [turn_bad h, Option.bind_some]
  rw [F_need_inputs, isi_t, Option.bind_some, if_neg (by decide), show oList (.tuple (ins.map inP ++ x :: rest)) = some (ins.map inP ++ x :: rest) from rfl, Option.bind_some, e1, Option.bind_some]
  rfl
theorem need_no {x : D} (h : oIsi "tuple" x = some false) : F_need_inputs x = some (.er "BadInputs" [("place", .none)] ()) := by
  rw [F_need_inputs, h, Option.bind_some, if_pos (by decide)]
theorem limit_ok {k : Int} (h0 : 0 ≤ k) (h1 : k ≤ 3000) : F_need_limit (.int k) = some (.ok ()) := by
  have e1 : c_MOST_STEPS = .int 3000 := rfl
  rw [F_need_limit, e1, among_i, decide_eq_true h0, decide_eq_true h1]
  rfl
theorem limit_no {x : D} (h : F_is_among x (.int 0) (.int 3000) = some false) : F_need_limit x = some (.er "OutOfPlace" [] ()) := by
  have e1 : c_MOST_STEPS = .int 3000 := rfl
  rw [F_need_limit, e1, h]
  rfl
theorem go_ok {α β γ : Type} {a : α} {k : α → Option γ} {e : Str → List (Str × D) → β → Option γ} : (Rz.ok a : Rz α β).go k e = k a := rfl
theorem go_er {α β γ : Type} {n : Str} {xs : List (Str × D)} {b : β} {k : α → Option γ} {e : Str → List (Str × D) → β → Option γ} : (Rz.er n xs b : Rz α β).go k e = e n xs b := rfl
theorem word_ok {d : D} : F__law_word (.ok d) = some d := rfl
theorem word_er {n : Str} {xs : List (Str × D)} {b : Unit} (h : oCatch tb_TwainError n = some true) : F__law_word (.er n xs b) = J__law_word_1 (excX n xs) (.str "told") := by
  rw [F__law_word, go_er, h, Option.bind_some, if_pos rfl]
theorem word_at {i : Int} : F__law_word (.er "BadInputs" [("place", .int i)] ()) = some (.tuple [.str "inputs", .int i]) := by
  rw [word_er rfl]
  rfl
theorem word_non : F__law_word (.er "BadInputs" [("place", .none)] ()) = some (.tuple [.str "inputs", .none]) := by
  rw [word_er rfl]
  rfl
theorem word_pl : F__law_word (.er "OutOfPlace" [] ()) = some (.str "place") := by
  rw [word_er rfl]
  rfl
theorem many_ok : F__law_many_right = some true := by decide +kernel
end Gk10
set_option Elab.async false
set_option linter.all false
set_option maxRecDepth 100000
set_option maxHeartbeats 4000000
namespace Gk10
open PySem PySem.Spec PyProof.Rows L2 Pd
def OD : List D := [.none, .tuple [.str "h"], .list [.str "h", .tuple []], .tuple [.str "h", .tuple [], .tuple []], .tuple [.str "h", .list [.int 1]], .tuple [.str "h", .none], .tuple [.str "", .tuple []], .tuple [.str "Ah", .tuple []],
  .tuple [.str "habcdefg", .tuple []], .tuple [.str "say", .tuple []], .tuple [.str "east", .tuple []], .tuple [.int 5, .tuple []], .tuple [.none, .tuple []], .tuple [.str "h", .tuple [.int 997]], .tuple [.str "h", .tuple [.int (-1)]],
  .tuple [.str "h", .tuple [.bool true]], .tuple [.str "h", .tuple [.str "1"]], .tuple [.str "h", .tuple [.none]], .tuple [.str "h", .tuple [.tuple [.int 1]]], .tuple [.str "h", .tuple (List.replicate 301 (.int 0))], .tuple [.str "h", dK []],
  .tuple [.tuple [], .str "h"], .tuple [.str "h", .int 1], .tuple [.str "h", .tuple [.int 1, .int 1000000000000000000000000000000]], .str "a", dK [], .int 7]
theorem odd_bad : ∀ d ∈ OD, F_is_input d = some false := by decide +kernel
theorem odd_eq (st : List (Key × D)) : F__law_odd st (.str "h") = (F__law_pick st (.int 27)).bind fun v11 => (oIx (.list OD) v11.1).bind fun v12 => some (v12, v11.2) := by
  unfold F__law_odd
  rfl
theorem odd_draw {st : List (Key × D)} (hs : Stt st) : ∃ (x : D) (st' : List (Key × D)), F__law_odd st (.str "h") = some (x, st') ∧ Stt st' ∧ F_is_input x = some false := by
  obtain ⟨v, s1, p1, a1, b1, hs1⟩ := pick_ok hs (m := 27) (by decide) (by decide)
  obtain ⟨x, q, m⟩ := ix_mem (xs := OD) (v := v) a1 (by show v < 27; exact b1)
  exact ⟨x, s1, by rw [odd_eq, p1, Option.bind_some, q, Option.bind_some], hs1, odd_bad x m⟩
theorem mul_one {d : D} {v : Nat} (h : v ≤ 8000) : oMul (.tuple [d]) (.int (v : Nat)) = some (.tuple (List.replicate v d)) := by
  show gd (decide ((0 : Int) ≤ (v : Int)) && (decide ((v : Int) ≤ 8000) && decide ([d].length ≤ 1000))) (PyData.tuple (List.replicate ((v : Int).toNat) [d]).flatten) = _
  rw [decide_eq_true (by omega : (0 : Int) ≤ (v : Int)), decide_eq_true (by simp : [d].length ≤ 1000), Int.toNat_natCast, decide_eq_true (by omega : (v : Int) ≤ 8000)]
  have : (List.replicate v [d]).flatten = List.replicate v d := by
    induction v with
    | zero => rfl
    | succ n ih => rw [List.replicate_succ, List.flatten_cons, ih (by omega), List.replicate_succ]; rfl
  rw [this]
  rfl
theorem good1 {st : List (Key × D)} (hs : Stt st) {w : Str} {acc : List D} (hl : acc.length ≤ 1000) : ∃ (is : List Int) (st' : List (Key × D)), B__law_good_1 (.str w) st acc = some (st', acc ++ [inP (w, is)]) ∧ Stt st' ∧ is.length ≤ 300 ∧ ∀ i ∈ is, 0 ≤ i ∧ i ≤ 996 := by
  obtain ⟨v8, s8, p8, a8, b8, hs8⟩ := pick_ok hs (m := 4) (by decide) (by decide)
  obtain ⟨v9, s9, p9, a9, b9, hs9⟩ := pick_ok hs8 (m := 301) (by decide) (by decide)
  obtain ⟨v10, s10, p10, a10, b10, hs10⟩ := pick_ok hs9 (m := 9) (by decide) (by decide)
  obtain ⟨v14, s14, p14, a14, b14, hs14⟩ := pick_ok hs10 (m := 997) (by decide) (by decide)
  obtain ⟨v15, s15, p15, a15, b15, hs15⟩ := pick_ok hs14 (m := 3) (by decide) (by decide)
  obtain ⟨x13, q13, m13⟩ := ix_mem (xs := [.int v8, .int v9, .int 300]) (v := min 2 (v10 / 3)) (by omega) (by show min 2 (v10 / 3) < 3; omega)
  obtain ⟨m, rfl, hm⟩ : ∃ m : Nat, x13 = .int (m : Nat) ∧ m ≤ 300 := by
    rcases (by simpa using m13 : x13 = .int v8 ∨ x13 = .int v9 ∨ x13 = .int 300) with rfl | rfl | rfl
    · exact ⟨v8.toNat, by rw [Int.toNat_of_nonneg a8], by omega⟩
    · exact ⟨v9.toNat, by rw [Int.toNat_of_nonneg a9], by omega⟩
    · exact ⟨300, rfl, Nat.le_refl _⟩
  obtain ⟨x16, q16, m16⟩ := ix_mem (xs := [.int 0, .int 996, .int v14]) (v := v15) a15 (by show v15 < 3; exact b15)
  obtain ⟨n, rfl, hn⟩ : ∃ n : Int, x16 = .int n ∧ 0 ≤ n ∧ n ≤ 996 := by
    rcases (by simpa using m16 : x16 = .int 0 ∨ x16 = .int 996 ∨ x16 = .int v14) with rfl | rfl | rfl
    · exact ⟨0, rfl, by omega⟩
    · exact ⟨996, rfl, by omega⟩
    · exact ⟨v14, rfl, by omega⟩
  have app : oApp acc (.tuple [.str w, .tuple (List.replicate m (.int n))]) = some (acc ++ [.tuple [.str w, .tuple (List.replicate m (.int n))]]) := by
    unfold oApp
    rw [decide_eq_true (by omega)]
    rfl
  refine ⟨List.replicate m n, s15, ?_, hs15, by rw [List.length_replicate]; exact hm, fun i hi => by rw [List.eq_of_mem_replicate hi]; exact hn⟩
  rw [B__law_good_1, p8, Option.bind_some, p9, Option.bind_some, p10, Option.bind_some, oFdiv_i (by decide) (by decide), Option.bind_some, show oMin (.int 2) (.int (v10 / 3)) = some (min 2 (v10 / 3)) from rfl, Option.bind_some, q13, Option.bind_some, p14, Option.bind_some, p15, Option.bind_some, q16, Option.bind_some, mul_one (by omega), Option.bind_some, app, Option.bind_some]
  unfold inP
  rw [List.map_replicate]
theorem good_fold : ∀ (ws : List Str) (st : List (Key × D)) (acc : List D), Stt st → acc.length + ws.length ≤ 1000 → ∃ (ins : Ins) (st' : List (Key × D)), oFold (fun x5 st19 => B__law_good_1 x5 st19.1 st19.2) (ws.map PyData.str) (st, acc) = some (st', acc ++ ins.map inP) ∧ Stt st' ∧ ins.map (·.1) = ws ∧ ∀ p ∈ ins, p.2.length ≤ 300 ∧ ∀ i ∈ p.2, 0 ≤ i ∧ i ≤ 996
  | [], st, acc, hs, _ => ⟨[], st, by rw [List.map_nil, List.map_nil, List.append_nil]; rfl, hs, rfl, by simp⟩
  | w :: ws, st, acc, hs, hl => by
    rw [List.length_cons] at hl
    obtain ⟨is, s1, p1, hs1, l1, r1⟩ := good1 hs (w := w) (acc := acc) (by omega)
    obtain ⟨ins, s2, p2, hs2, e2, r2⟩ := good_fold ws s1 (acc ++ [inP (w, is)]) hs1 (by rw [List.length_append, List.length_singleton]; omega)
    refine ⟨(w, is) :: ins, s2, ?_, hs2, by rw [List.map_cons, e2], fun p hp => ?_⟩
    · rw [List.map_cons, oFold]
      dsimp only
      rw [p1, Option.bind_some, p2, List.append_assoc]
      rfl
    · rcases List.mem_cons.mp hp with rfl | hp
      · exact ⟨l1, r1⟩
      · exact r2 p hp
theorem good_draw {N : List Str} (nd : N.Nodup) (hl : N.length ≤ 6) (hn : ∀ w ∈ N, isNm w = true) {st : List (Key × D)} (hs : Stt st) : ∃ (ins : Ins) (st' : List (Key × D)), F__law_good st (.list (N.map PyData.str)) = some (ins.map inP, st') ∧ Stt st' ∧ Iok ins ∧ ins.length ≤ 6 := by
  have so : oSrt (.list (N.map PyData.str)) = some ((srt N).map PyData.str) := by
    show (strsOf (N.map PyData.str)).bind _ = _
    rw [strsOf_map, Option.bind_some, decide_eq_true nd, decide_eq_true (by omega : N.length < 64)]
    rfl
  have sl := srt_len N
  obtain ⟨ins, s1, p1, hs1, e1, r1⟩ := good_fold (srt N) st [] hs (by rw [List.length_nil]; omega)
  refine ⟨ins, s1, ?_, hs1, ⟨fun p hp => ⟨hn _ (mem_srt.mp (by rw [← e1]; exact List.mem_map_of_mem hp)), r1 p hp⟩, ?_⟩, by have := congrArg List.length e1; rw [List.length_map] at this; omega⟩
  · rw [F__law_good, so, Option.bind_some, p1, Option.bind_some]
    rfl
  · have := srt_rise N
    rw [← e1, List.pairwise_map] at this
    exact this
end Gk10
set_option Elab.async false
set_option linter.all false
set_option maxRecDepth 100000
set_option maxHeartbeats 4000000
namespace Gk10
open PySem PySem.Spec PyProof.Rows L2 Pd
def sg (c : Nat) : Str := ⟨#[c]⟩
def W1 : Str := "let open ask say if else while east west kept mark plus less times"
def W2 : Str := " under same send take tell hear none"
def WORDS : Str := W1 ++ W2
def SIGNS : Str := "AZ09_- \u000a.~!\"#$&'()*+,/12345678:;<=>?@BCDEFGHIJKLMNOPQRSTUVWXY[\\]^`{|}"
theorem split_words : Txt.split WORDS " " = KEYWs := by decide +kernel
theorem words_eq : oAdd (.str W1) (.str W2) = some (.str WORDS) := by
  show gd _ _ = _
  rw [decide_eq_true (by decide +kernel)]
  rfl
theorem oSplit_w : oSplit WORDS (.str " ") = some (KEYWs.map PyData.str) := by
  show gd _ _ = _
  rw [split_words, show (!decide ((" " : Str).length = 0) && decide (WORDS.length ≤ 1000000)) = true from by decide +kernel]
  rfl
theorem signs_ok : ∀ c ∈ SIGNS.cps.toList, c < 128 := by decide +kernel
theorem letters_ok : ∀ c ∈ LETTERSs.cps.toList, c < 128 := by decide +kernel
theorem keyw_ok : ∀ w ∈ KEYWs, (1 ≤ w.length ∧ w.length ≤ 6) ∧ ∀ c ∈ w.cps.toList, c < 128 := by decide +kernel
theorem ix_sign {z : Str} {v : Int} (h0 : 0 ≤ v) (h1 : v < z.length) (hl : z.length ≤ 1000000) : ∃ c ∈ z.cps.toList, oIx (.str z) (.int v) = some (.str (sg c)) := by
  obtain ⟨n, rfl⟩ : ∃ n : Nat, v = n := ⟨v.toNat, by omega⟩
  have hn : n < z.cps.toList.length := by rw [← len_of]; omega
  refine ⟨z.cps.toList[n], List.getElem_mem hn, ?_⟩
  show (gd (decide (z.length ≤ 1000000)) ()).bind _ = _
  rw [decide_eq_true hl]
  show (atI z.cps.toList (n : Int)).map _ = _
  rw [atI_nat hn, List.getElem?_eq_getElem hn]
  rfl
theorem oFil_map {τ : Type} {f : D → Option (Option D)} {g : τ → D} {b : τ → Bool} : ∀ {l : List τ}, (∀ x ∈ l, f (g x) = some (if b x = true then some (g x) else none)) → oFil f (l.map g) = some ((l.filter b).map g)
  | [], _ => rfl
  | x :: l, h => by
    rw [List.map_cons, oFil, h x List.mem_cons_self, Option.bind_some, oFil_map fun y hy => h y (List.mem_cons_of_mem _ hy), Option.bind_some, List.filter_cons]
    cases b x <;> rfl
theorem sg_ok {c : Nat} (h : c < 128) : PyData.strOk (sg c) = true := by
  have : ∀ c, c < 128 → PyData.strOk (sg c) = true := by decide +kernel
  exact this c h
theorem oIn_l {ws : List Str} {a : Str} : oIn (.str a) (.list (ws.map PyData.str)) = some (ws.contains a) := by
  show gd _ _ = _
  rw [in_strs, any_strs]; rfl
theorem flag_ok {st : List (Key × D)} {w : Str} (h1 : 1 ≤ w.length) (h6 : w.length ≤ 6) (hc : ∀ c ∈ w.cps.toList, c < 128) : J__law_any_name_2 st LETTERSs (.str w) (.str WORDS) = some (.tuple [.str w, .bool (isNm w)], st) := by
  have f1 : few (charsD w) = some () := few_of (by simp [charsD]; have := len_of w; rw [Array.length_toList] at this; omega)
  have fl : oFil (fun x26 => (oIn x26 (.str LETTERSs)).bind fun v30 => if (!v30) = true then some (some x26) else some none) (charsD w) = some ((w.cps.toList.filter fun c => !decide (c ∈ LETTERSs.cps.toList)).map fun c => .str (sg c)) := by
    unfold charsD
    refine oFil_map (g := fun c => PyData.str (sg c)) (b := fun c => !decide (c ∈ LETTERSs.cps.toList)) fun c _ => ?_
    show (oIn (.str ⟨#[c]⟩) (.str LETTERSs)).bind _ = _
    rw [sign_in, Option.bind_some]
    by_cases h : c ∈ LETTERSs.cps.toList
    · rw [decide_eq_true h]; rfl
    · rw [decide_eq_false h]; rfl
  have em : oEq (.list ((w.cps.toList.filter fun c => !decide (c ∈ LETTERSs.cps.toList)).map fun c => PyData.str (sg c))) (.list []) = some (allIn w LETTERSs) := by
    rw [oEq_empty fun d hd => by
      obtain ⟨c, hm, rfl⟩ := List.mem_map.mp hd
      exact lay_str (sg_ok (hc c (List.mem_filter.mp hm).1))]
    congr 1
    unfold allIn
    induction w.cps.toList with
    | nil => rfl
    | cons c l ih =>
      rw [List.filter_cons, List.all_cons]
      by_cases h : c ∈ LETTERSs.cps.toList
      · rw [decide_eq_true h]
        exact ih
      · rw [decide_eq_false h]
        rfl
  rw [J__law_any_name_2, show itemsD (.str w) = some (charsD w) from rfl, Option.bind_some, f1, Option.bind_some, fl, Option.bind_some, em, Option.bind_some]
  unfold isNm
  rw [decide_eq_true (⟨h1, h6⟩ : 1 ≤ w.length ∧ w.length ≤ 6)]
  cases allIn w LETTERSs with
  | true =>
    rw [if_pos rfl, show oS (.str WORDS) = some WORDS from rfl, Option.bind_some, oSplit_w, Option.bind_some, oIn_l, Option.bind_some, Option.bind_some]
    simp
  | false =>
    rw [if_neg (by decide), Option.bind_some]
    simp
theorem any2 {st : List (Key × D)} (hs : Stt st) {w : Str} (h1 : 1 ≤ w.length) (h6 : w.length ≤ 6) (hc : ∀ c ∈ w.cps.toList, c < 128) : ∃ (w' : Str) (st' : List (Key × D)), J__law_any_name_1 st LETTERSs (.str w) (.str WORDS) = some (.tuple [.str w', .bool (isNm w')], st') ∧ Stt st' ∧ w'.length ≤ 6 := by
  obtain ⟨v, s1, p1, b1, hs1⟩ := pk3 4 (by decide) hs
  rw [J__law_any_name_1, p1, Option.bind_some, oEq_i, Option.bind_some]
  by_cases z : (v : Int) = 0
  · rw [if_pos (decide_eq_true z), oLen_s (by omega), Option.bind_some]
    have e40 : (2 : Int) ^ 40 = 1099511627776 := by decide
    obtain ⟨a, s2, p2, a2, b2, hs2⟩ := pick_ok hs1 (m := (w.length : Int)) (by omega) (by rw [e40]; omega)
    obtain ⟨k, rfl⟩ : ∃ k : Nat, a = k := ⟨a.toNat, by omega⟩
    obtain ⟨sg1, sg2⟩ : 0 < SIGNS.length ∧ SIGNS.length ≤ 1000 := by decide +kernel
    obtain ⟨g, s3, p3, a3, b3, hs3⟩ := pick_ok hs2 (m := (SIGNS.length : Int)) (by omega) (by rw [e40]; omega)
    obtain ⟨c, hcm, q3⟩ := ix_sign (z := SIGNS) a3 b3 (by omega)
    have ei : ∀ i : Int, oI (.int i) = some i := fun _ => rfl
    have sl : ∀ lo hi : Option Int, oSl (.str w) lo hi = some (.str (cutS w lo hi)) := fun lo hi => by
      show gd _ _ = _
      rw [decide_eq_true (by omega : w.length ≤ 1000000)]
      rfl
    have ad : ∀ x y : Str, x.cps.toList.length + y.cps.toList.length ≤ 1000 → oAdd (.str x) (.str y) = some (.str (x ++ y)) := fun x y h => by
      show gd _ _ = _
      rw [decide_eq_true (by rw [len_of, len_of]; omega)]
      rfl
    have hk : k < w.length := by omega
    have wl := len_of w
    have c1 : (cutS w none (some (k : Int))).cps.toList = w.cps.toList.take k := cut_to_l (by omega)
    have c2 : (cutS w (some ((k + 1 : Nat) : Int)) none).cps.toList = w.cps.toList.drop (k + 1) := cut_fr_l (by omega)
    have ek : ((k : Nat) : Int) + 1 = ((k + 1 : Nat) : Int) := by omega
    have sgc : (sg c).cps.toList = [c] := rfl
    have l1 : (cutS w none (some (k : Int))).cps.toList.length = k := by rw [c1, List.length_take]; omega
    have l2 : (cutS w (some ((k + 1 : Nat) : Int)) none).cps.toList.length = w.length - (k + 1) := by rw [c2, List.length_drop]; omega
    have nw : (cutS w none (some (k : Int)) ++ sg c ++ cutS w (some ((k + 1 : Nat) : Int)) none).cps.toList = w.cps.toList.take k ++ [c] ++ w.cps.toList.drop (k + 1) := by rw [app_l, app_l, c1, c2, sgc]
    have nl : (cutS w none (some (k : Int)) ++ sg c ++ cutS w (some ((k + 1 : Nat) : Int)) none).length = w.length := by
      rw [len_of, app_l, app_l, List.length_append, List.length_append, l1, l2, sgc, List.length_singleton]
      omega
    refine ⟨_, s3, ?_, hs3, (by rw [nl]; exact h6)⟩
    rw [p2, Option.bind_some]
    rw [Option.bind_some, show (Str.ofString "AZ09_- \u000a.~!\"#$&'()*+,/12345678:;<=>?@BCDEFGHIJKLMNOPQRSTUVWXY[\\]^`{|}") = SIGNS from rfl]
    dsimp only
    rw [ei, Option.bind_some, sl, Option.bind_some, oLen_s (show SIGNS.length ≤ 1000000 by omega), Option.bind_some, p3, Option.bind_some, q3, Option.bind_some, ad _ _ (by rw [l1, sgc, List.length_singleton]; omega), Option.bind_some, oAdd_i, Option.bind_some, ek, ei, Option.bind_some, sl, Option.bind_some, ad _ _ (by rw [app_l, List.length_append, l1, l2, sgc, List.length_singleton]; omega), Option.bind_some]
    exact flag_ok (by rw [nl]; exact h1) (by rw [nl]; exact h6) fun x hx => by
      rw [nw] at hx
      rcases List.mem_append.mp hx with q | q
      · rcases List.mem_append.mp q with q | q
        · exact hc x (List.mem_of_mem_take q)
        · rw [List.mem_singleton.mp q]; exact signs_ok c hcm
      · exact hc x (List.mem_of_mem_drop q)
  · rw [if_neg (fun q => z (of_decide_eq_true q))]
    exact ⟨w, s1, flag_ok h1 h6 hc, hs1, h6⟩
theorem chars_draw : ∀ (l : List D) (st : List (Key × D)), Stt st → ∃ (cs : List Nat) (st' : List (Key × D)), oMapS (fun x5 s9 => (F__law_pick s9 (.int 26)).bind fun v10 => (oIx (.str LETTERSs) v10.1).bind fun v11 => some (v11, v10.2)) l st = some ((cs.map sg).map PyData.str, st') ∧ Stt st' ∧ cs.length = l.length ∧ ∀ c ∈ cs, c ∈ LETTERSs.cps.toList
  | [], st, hs => ⟨[], st, rfl, hs, rfl, by simp⟩
  | x :: l, st, hs => by
    obtain ⟨v, s1, p1, a1, b1, hs1⟩ := pick_ok hs (m := 26) (by decide) (by decide)
    obtain ⟨c, hc, q1⟩ := ix_sign (z := LETTERSs) a1 (by rw [show LETTERSs.length = 26 from by decide +kernel]; exact b1) (by decide +kernel)
    obtain ⟨cs, s2, p2, hs2, l2, r2⟩ := chars_draw l s1 hs1
    refine ⟨c :: cs, s2, ?_, hs2, by simp [l2], fun y hy => ?_⟩
    · rw [oMapS, p1, Option.bind_some, q1, Option.bind_some, Option.bind_some, p2, Option.bind_some]
      rfl
    · rcases List.mem_cons.mp hy with rfl | hy
      · exact hc
      · exact r2 y hy
theorem join_sg (cs : List Nat) (h : cs.length ≤ 6) : Txt.join "" (cs.map sg) = ⟨cs.toArray⟩ := by
  have e0 : ("" : Str).cps = #[] := by decide +kernel
  rcases cs with _ | ⟨a, _ | ⟨b, _ | ⟨c, _ | ⟨d, _ | ⟨e, _ | ⟨f, _ | ⟨g, r⟩⟩⟩⟩⟩⟩⟩
  · show (⟨_⟩ : Str) = _; decide +kernel
  · rfl
  · show (⟨#[a] ++ ("" : Str).cps ++ #[b]⟩ : Str) = _
    rw [e0]; simp
  · show (⟨#[a] ++ ("" : Str).cps ++ #[b] ++ ("" : Str).cps ++ #[c]⟩ : Str) = _
    rw [e0]; simp
  · show (⟨#[a] ++ ("" : Str).cps ++ #[b] ++ ("" : Str).cps ++ #[c] ++ ("" : Str).cps ++ #[d]⟩ : Str) = _
    rw [e0]; simp
  · show (⟨#[a] ++ ("" : Str).cps ++ #[b] ++ ("" : Str).cps ++ #[c] ++ ("" : Str).cps ++ #[d] ++ ("" : Str).cps ++ #[e]⟩ : Str) = _
    rw [e0]; simp
  · show (⟨#[a] ++ ("" : Str).cps ++ #[b] ++ ("" : Str).cps ++ #[c] ++ ("" : Str).cps ++ #[d] ++ ("" : Str).cps ++ #[e] ++ ("" : Str).cps ++ #[f]⟩ : Str) = _
    rw [e0]; simp
  · simp at h
theorem sum_sg : ∀ cs : List Nat, ((cs.map sg).map (·.length)).sum = cs.length
  | [] => rfl
  | c :: cs => by
    rw [List.map_cons, List.map_cons, List.sum_cons, sum_sg cs, List.length_cons, show (sg c).length = 1 from rfl]
    omega
theorem any_draw {st : List (Key × D)} (hs : Stt st) : ∃ (w : Str) (st' : List (Key × D)), F__law_any_name st = some (.tuple [.str w, .bool (isNm w)], st') ∧ Stt st' ∧ w.length ≤ 6 := by
  obtain ⟨v, s1, p1, b1, hs1⟩ := pk3 6 (by decide) hs
  have ev : (1 : Int) + (v : Int) = ((1 + v : Nat) : Int) := by omega
  obtain ⟨cs, s2, p2, hs2, l2, r2⟩ := chars_draw ((List.range (1 + v)).map fun i => .int (i : Nat)) s1 hs1
  rw [List.length_map, List.length_range] at l2
  have f1 : few ((List.range (1 + v)).map fun i => PyData.int (i : Nat)) = some () := few_of (by simp; omega)
  have jn : oJoin "" (.list ((cs.map sg).map PyData.str)) = some ⟨cs.toArray⟩ := by
    show (strsOf _).bind _ = _
    rw [strsOf_map, Option.bind_some, join_sg cs (by omega), sum_sg]
    have e0 : ("" : Str).length = 0 := by decide +kernel
    show gd (decide (cs.length + (cs.map sg).length * ("" : Str).length ≤ 16777216)) _ = _
    rw [e0, decide_eq_true (by omega)]
    rfl
  obtain ⟨z, hz⟩ : ∃ z : Str, z = ⟨cs.toArray⟩ := ⟨_, rfl⟩
  rw [← hz] at jn
  have zl : z.cps.toList = cs := by rw [hz]
  have zn : z.length = 1 + v := by rw [len_of, zl, l2]
  have zc : ∀ c ∈ z.cps.toList, c < 128 := fun c hc => by
    rw [zl] at hc
    exact letters_ok c (r2 c hc)
  obtain ⟨u, s3, p3, b3, hs3⟩ := pk3 4 (by decide) hs2
  have start : F__law_any_name st = ((F__law_pick s2 (.int 4)).bind fun v51 => (oEq v51.1 (.int 0)).bind fun v52 => if v52 = true then (oS (.str WORDS)).bind fun v53 => (oSplit v53 (.str " ")).bind fun v54 => (F__law_pick v51.2 (.int 21)).bind fun v55 => (oIx (.list v54) v55.1).bind fun v56 => J__law_any_name_1 v55.2 LETTERSs v56 (.str WORDS) else J__law_any_name_1 v51.2 LETTERSs (.str z) (.str WORDS)) := by
    rw [F__law_any_name, Option.bind_some, p1, Option.bind_some, oAdd_i, Option.bind_some, ev, oRng_n (by omega), Option.bind_some, f1, Option.bind_some]
    show ((oMapS (fun x5 s9 => (F__law_pick s9 (.int 26)).bind fun v10 => (oIx (.str LETTERSs) v10.1).bind fun v11 => some (v11, v10.2)) ((List.range (1 + v)).map fun i => PyData.int (i : Nat)) s1).bind _) = _
    rw [p2, Option.bind_some, jn, Option.bind_some, Option.bind_some]
    show ((oAdd (.str W1) (.str W2)).bind _) = _
    rw [words_eq, Option.bind_some]
    rfl
  rw [start, p3, Option.bind_some, oEq_i, Option.bind_some]
  by_cases hu : (u : Int) = 0
  · rw [if_pos (decide_eq_true hu), show oS (.str WORDS) = some WORDS from rfl, Option.bind_some, oSplit_w, Option.bind_some]
    obtain ⟨k, s4, p4, a4, b4, hs4⟩ := pick_ok hs3 (m := 21) (by decide) (by decide)
    obtain ⟨x, q4, m4⟩ := ix_mem (xs := KEYWs.map PyData.str) (v := k) a4 (by rw [List.length_map, show KEYWs.length = 21 from rfl]; exact b4)
    obtain ⟨w, hw, rfl⟩ := List.mem_map.mp m4
    rw [p4, Option.bind_some, q4, Option.bind_some]
    obtain ⟨⟨k1, k2⟩, k3⟩ := keyw_ok w hw
    exact any2 hs4 k1 k2 k3
  · rw [if_neg (fun q => hu (of_decide_eq_true q))]
    exact any2 hs3 (by omega) (by omega) zc
end Gk10
set_option Elab.async false
set_option linter.all false
set_option maxRecDepth 100000
set_option maxHeartbeats 4000000
namespace Gk10
open PySem PySem.Spec PyProof.Rows L2 Pd
theorem Iok.take {ins : Ins} (I : Iok ins) (a : Nat) : Iok (ins.take a) := ⟨fun p hp => I.nm p (List.mem_of_mem_take hp), I.rise.sublist (List.take_sublist a ins)⟩
theorem eq_same2 {d : D} (h : Lay d 62) : oEq (.tuple [.str "inputs", d]) (.tuple [.str "inputs", d]) = some true := by
  have l : ∀ x ∈ [PyData.str "inputs", d], Lay x 62 := fun x hx => by
    rcases (by simpa using hx : x = PyData.str "inputs" ∨ x = d) with rfl | rfl
    · exact lay_str (by decide +kernel)
    · exact h
  have h1 : SeqAt.shaped (.tuple [PyData.str "inputs", d]) = true := shaped_tuple l
  have h2 : (PyData.tuple [PyData.str "inputs", d]).canLay0 = true := (lay_tuple l).1
  show gd (shp _ _) _ = _
  rw [shp, h1, PySem.SeqAt.eqv_refl _ h2]
  rfl
theorem eq_at {i : Int} : oEq (.tuple [.str "inputs", .int i]) (.tuple [(.str "inputs"), .int i]) = some true := eq_same2 lay_int
theorem eq_non : oEq (.tuple [.str "inputs", .none]) (.tuple [(.str "inputs"), .none]) = some true := eq_same2 ⟨by decide +kernel, by decide +kernel⟩
theorem input_nm {w : Str} {x : D} (hl : w.length ≤ 1000) (h : isNm w = false) : F_is_input (.tuple [.str w, x]) = some false := by
  rw [F_is_input, isi_t, Option.bind_some, if_neg (by decide), oLen_t, Option.bind_some, if_neg (by simp), show oIx (.tuple [.str w, x]) (.int 0) = some (.str w) from oIx0, Option.bind_some, name_b hl, h, Option.bind_some, Option.bind_some, if_pos (by decide)]
theorem p30 : oPowI 10 30 = some (10 ^ 30) := by
  show gd _ _ = _
  rw [show (decide ((0 : Int) ≤ 30) && (decide ((30 : Int) ≤ 1000) && decide ((10 : Int).natAbs < 2 ^ 64))) = true from by decide +kernel]
  rfl
def LD_ : List D := [(.int (-1)), (.int 3001), (.bool true), .none, (.str "5"), (.list [(.int 5)]), (.tuple [(.int 5)]), (.int (10 ^ 30))]
theorem lim_bad : ∀ d ∈ LD_, F_is_among d (.int 0) (.int 3000) = some false := by decide +kernel
theorem rest_ok {st : List (Key × D)} (hs : Stt st) {s g : D} (hg : oIsi "tuple" g = some false) : J_law_2 s st g = some (.nx s) := by
  obtain ⟨w, s1, p1, hs1, wl⟩ := any_draw hs
  obtain ⟨v2, s2, p2, a2, b2, hs2⟩ := pick_ok hs1 (m := 6) (by decide) (by decide)
  obtain ⟨x, q2, m2⟩ := ix_mem (xs := [.none, g, dK [], .str "a", .int 5, .bool true]) (v := v2) a2 (by show v2 < 6; exact b2)
  have nt : oIsi "tuple" x = some false := by
    rcases (by simpa using m2 : x = .none ∨ x = g ∨ x = dK [] ∨ x = .str "a" ∨ x = .int 5 ∨ x = .bool true) with rfl | rfl | rfl | rfl | rfl | rfl
    · rfl
    · exact hg
    · rfl
    · rfl
    · rfl
    · rfl
  obtain ⟨v3, s3, p3, a3, b3, hs3⟩ := pick_ok hs2 (m := 3001) (by decide) (by decide)
  obtain ⟨v4, s4, p4, a4, b4, hs4⟩ := pick_ok hs3 (m := 3) (by decide) (by decide)
  obtain ⟨y, q4, m4⟩ := ix_mem (xs := [.int 0, .int 3000, .int v3]) (v := v4) a4 (by show v4 < 3; exact b4)
  have lo : F_need_limit y = some (.ok ()) := by
    rcases (by simpa using m4 : y = .int 0 ∨ y = .int 3000 ∨ y = .int v3) with rfl | rfl | rfl
    · exact limit_ok (by decide) (by decide)
    · exact limit_ok (by decide) (by decide)
    · exact limit_ok a3 (by omega)
  obtain ⟨v5, s5, p5, a5, b5, hs5⟩ := pick_ok hs4 (m := 8) (by decide) (by decide)
  obtain ⟨z, q5, m5⟩ := ix_mem (xs := LD_) (v := v5) a5 (by show v5 < 8; exact b5)
  have ln := limit_no (lim_bad z m5)
  have ep : oEq (.str "place") (.str "place") = some true := by decide +kernel
  have tail : ((F__law_pick s1 (.int 6)).bind fun v74 => (oIx (.list [.none, g, (dK []), (.str "a"), (.int 5), (.bool true)]) v74.1).bind fun v75 => ((F_need_inputs v75).bind fun z78 => z78.go (fun v77 => some (.ok (.none))) fun n79 xs80 b81 => some (.er n79 xs80 ()) : Option (Rz D Unit)).bind fun z82 => (F__law_word z82).bind fun v83 => (oEq v83 (.tuple [(.str "inputs"), .none])).bind fun v84 => if (!v84) = true then some (Ctl.rt false) else (F__law_pick v74.2 (.int 3001)).bind fun v85 => (F__law_pick v85.2 (.int 3)).bind fun v86 => (oIx (.list [(.int 0), (.int 3000), v85.1]) v86.1).bind fun v87 => ((F_need_limit v87).bind fun z90 => z90.go (fun v89 => some (.ok (.none))) fun n91 xs92 b93 => some (.er n91 xs92 ()) : Option (Rz D Unit)).bind fun z94 => (F__law_word z94).bind fun v95 => if (!(isNone v95)) = true then some (.rt false) else (oPowI 10 30).bind fun v96 => (F__law_pick v86.2 (.int 8)).bind fun v97 => (oIx (.list [(.int (-1)), (.int 3001), (.bool true), .none, (.str "5"), (.list [(.int 5)]), (.tuple [(.int 5)]), (.int v96)]) v97.1).bind fun v98 => ((F_need_limit v98).bind fun z101 => z101.go (fun v100 => some (.ok (.none))) fun n102 xs103 b104 => some (.er n102 xs103 ()) : Option (Rz D Unit)).bind fun z105 => (F__law_word z105).bind fun v106 => (oEq v106 (.str "place")).bind fun v107 => if (!v107) = true then some (.rt false) else some (.nx s)) = some (.nx s) := by
    rw [p2, Option.bind_some]
    dsimp only
    rw [q2, Option.bind_some, need_no nt, Option.bind_some, go_er, Option.bind_some, word_non, Option.bind_some, eq_non, Option.bind_some, if_neg (by decide), p3, Option.bind_some]
    dsimp only
    rw [p4, Option.bind_some]
    dsimp only
    rw [q4, Option.bind_some, lo, Option.bind_some, go_ok, Option.bind_some, word_ok, Option.bind_some, if_neg (by decide), p30, Option.bind_some, p5, Option.bind_some]
    show ((oIx (.list LD_) (.int v5)).bind _) = _
    rw [q5, Option.bind_some, ln, Option.bind_some, go_er, Option.bind_some, word_pl, Option.bind_some, ep, Option.bind_some, if_neg (by decide)]
  rw [J_law_2, p1, Option.bind_some, show oT2 (.tuple [.str w, .bool (isNm w)]) = some (.str w, .bool (isNm w)) from rfl, Option.bind_some]
  dsimp only
  cases hw : isNm w with
  | true =>
    have I : Iok [(w, [(5 : Int)])] := ⟨fun p hp => by rw [List.mem_singleton.mp hp]; exact ⟨hw, by simp, by simp⟩, List.pairwise_singleton _ _⟩
    have ng : F_need_inputs (.tuple [.tuple [.str w, .tuple [.int 5]]]) = some (.ok ()) := need_good I
    rw [ng, Option.bind_some, go_ok, Option.bind_some, word_ok, Option.bind_some, show oB (.bool true) = some true from rfl, Option.bind_some, if_pos rfl, Option.bind_some, show oEq .none .none = some true from rfl, Option.bind_some, if_neg (by decide)]
    exact tail
  | false =>
    have nb : F_need_inputs (.tuple [.tuple [.str w, .tuple [.int 5]]]) = some (.er "BadInputs" [("place", .int 0)] ()) := need_bad (ins := []) ⟨by simp, List.Pairwise.nil⟩ (rest := []) (.no (input_nm (by omega) hw))
    rw [nb, Option.bind_some, go_er, Option.bind_some, word_at, Option.bind_some, show oB (.bool false) = some false from rfl, Option.bind_some, if_neg (by decide), Option.bind_some, eq_at, Option.bind_some, if_neg (by decide)]
    exact tail
theorem lay_inP {p : Str × List Int} (h : inOk p) : Lay (inP p) 62 := by
  refine (lay_tuple (n := 61) fun d hd => ?_)
  rcases (by simpa using hd : d = PyData.str p.1 ∨ d = .tuple (p.2.map PyData.int)) with rfl | rfl
  · exact lay_str (nm_sok h.1)
  · exact (lay_tuple (n := 60) fun x hx => by
      obtain ⟨i, _, rfl⟩ := List.mem_map.mp hx
      exact lay_int)
theorem oAddL_ok {xs ys : List D} (h : xs.length + ys.length ≤ 1000) : oAddL (.list xs) (.list ys) = some (xs ++ ys) := by
  show gd _ _ = _
  rw [decide_eq_true (by omega)]
  rfl
theorem cell_turn {ns : List Int} {k : Nat} (hk : k < 100) : B_law_1 (.int (k : Nat)) (.list (ns.map PyData.int)) = some (.nx (.list (ns.map PyData.int))) := by
  have e40 : (2 : Int) ^ 40 = 1099511627776 := by decide
  obtain ⟨s0, p0, hs0⟩ := begun_ok ns hk
  obtain ⟨v1, s1, p1, b1, hs1⟩ := pk3 7 (by decide) hs0
  obtain ⟨N, s2, p2, hs2, nd⟩ := names_draw (many := v1) (by omega) hs1
  obtain ⟨ins, s3, p3, hs3, I, il⟩ := good_draw nd.nd (by have := nd.len; omega) (fun w hw => drn_nm (nd.drn w hw)) hs2
  have ei : ∀ i : Int, oI (.int i) = some i := fun _ => rfl
  have ll : oLen (.list (ins.map inP)) = some (ins.length : Int) := by rw [oLen_l, List.length_map]
  obtain ⟨v4, s4, p4, a4, b4, hs4⟩ := pick_ok hs3 (m := (ins.length : Int) + 1) (by omega) (by rw [e40]; omega)
  obtain ⟨a, rfl⟩ : ∃ a : Nat, v4 = a := ⟨v4.toNat, by omega⟩
  obtain ⟨x, s5, p5, hs5, xb⟩ := odd_draw hs4
  have ha : a ≤ ins.length := by omega
  have sl1 : oSlL (.list (ins.map inP)) none (some (a : Int)) = some ((ins.take a).map inP) := by
    show some (Pd.cutD _ none (some (a : Int))) = _
    rw [cut_to, List.map_take]
  have sl2 : oSlL (.list (ins.map inP)) (some (a : Int)) none = some ((ins.drop a).map inP) := by
    show some (Pd.cutD _ (some (a : Int)) none) = _
    rw [cut_from (by rw [List.length_map]; exact ha), List.map_drop]
  have la : (ins.take a).length = a := by rw [List.length_take]; omega
  have ad1 : oAddL (.list ((ins.take a).map inP)) (.list [x]) = some ((ins.take a).map inP ++ [x]) := oAddL_ok (by rw [List.length_map, la, List.length_singleton]; omega)
  have ad2 : oAddL (.list ((ins.take a).map inP ++ [x])) (.list ((ins.drop a).map inP)) = some ((ins.take a).map inP ++ x :: (ins.drop a).map inP) := by
    rw [oAddL_ok (by rw [List.length_append, List.length_map, la, List.length_singleton, List.length_map, List.length_drop]; omega), List.append_assoc]
    rfl
  have bad1 : F_need_inputs (.tuple ((ins.take a).map inP ++ x :: (ins.drop a).map inP)) = some (.er "BadInputs" [("place", .int (a : Nat))] ()) := by
    have := need_bad (I.take a) (x := x) (rest := (ins.drop a).map inP) (.no xb)
    rw [la] at this
    exact this
  rw [B_law_1, p0, Option.bind_some, p1, Option.bind_some]
  dsimp only
  rw [p2, Option.bind_some]
  dsimp only
  rw [p3, Option.bind_some]
  dsimp only
  rw [show oList (.list (ins.map inP)) = some (ins.map inP) from rfl, Option.bind_some, need_good I, Option.bind_some, go_ok, Option.bind_some, word_ok, Option.bind_some, if_neg (by decide), ll, Option.bind_some, p4, Option.bind_some]
  dsimp only
  rw [ei, Option.bind_some, sl1, Option.bind_some, p5, Option.bind_some]
  dsimp only
  rw [ad1, Option.bind_some, Option.bind_some, sl2, Option.bind_some, ad2, Option.bind_some, bad1, Option.bind_some, go_er, Option.bind_some, word_at, Option.bind_some, eq_at, Option.bind_some, if_neg (by decide), oEq_empty (fun d hd => by
    obtain ⟨p, hp, rfl⟩ := List.mem_map.mp hd
    exact lay_inP (I.nm p hp)), Option.bind_some]
  have nl : ∀ L : List D, oIsi "tuple" (.list L) = some false := fun L => by simp [oIsi, isT, isTy, tyN, notX, gd]
  by_cases hz : ins = []
  · subst hz
    exact rest_ok hs5 (nl _)
  · have hz1 : 0 < ins.length := List.length_pos_iff.mpr hz
    have hne : (!(ins.map inP).isEmpty) = true := by
      cases ins with
      | nil => exact absurd rfl hz
      | cons p l => rfl
    obtain ⟨v6, s6, p6, a6, b6, hs6⟩ := pick_ok hs5 (m := (ins.length : Int)) (by omega) (by rw [e40]; omega)
    obtain ⟨b, rfl⟩ : ∃ b : Nat, v6 = b := ⟨v6.toNat, by omega⟩
    have hb : b < ins.length := by omega
    have eb : ((b : Nat) : Int) + 1 = ((b + 1 : Nat) : Int) := by omega
    have sl3 : oSlL (.list (ins.map inP)) none (some ((b + 1 : Nat) : Int)) = some ((ins.take (b + 1)).map inP) := by
      show some (Pd.cutD _ none (some ((b + 1 : Nat) : Int))) = _
      rw [cut_to, List.map_take]
    have sl4 : oSlL (.list (ins.map inP)) (some (b : Int)) none = some (inP ins[b] :: (ins.drop (b + 1)).map inP) := by
      show some (Pd.cutD _ (some (b : Int)) none) = _
      rw [cut_from (by rw [List.length_map]; omega), ← List.map_drop, List.drop_eq_getElem_cons hb, List.map_cons]
    have lb : (ins.take (b + 1)).length = b + 1 := by rw [List.length_take]; omega
    have ad3 : oAddL (.list ((ins.take (b + 1)).map inP)) (.list (inP ins[b] :: (ins.drop (b + 1)).map inP)) = some ((ins.take (b + 1)).map inP ++ inP ins[b] :: (ins.drop (b + 1)).map inP) := oAddL_ok (by rw [List.length_map, lb, List.length_cons, List.length_map, List.length_drop]; omega)
    have bad2 : F_need_inputs (.tuple ((ins.take (b + 1)).map inP ++ inP ins[b] :: (ins.drop (b + 1)).map inP)) = some (.er "BadInputs" [("place", .int ((b + 1 : Nat) : Int))] ()) := by
      have := need_bad (I.take (b + 1)) (x := inP ins[b]) (rest := (ins.drop (b + 1)).map inP) (.low b lb ins[b] ins[b] rfl (I.nm _ (List.getElem_mem hb)) (by
        rw [List.getElem?_append_left (by rw [List.length_map, lb]; omega), List.getElem?_map, List.getElem?_take_of_lt (by omega), List.getElem?_eq_getElem hb]
        rfl) (fun h => List.lt_irrefl _ h))
      rw [lb] at this
      exact this
    have two : ((some (ins.length : Int)).bind fun v128 => if (decide (1 < v128)) = true then ((oL (.list (ins.map inP))).bind fun v129 => (F_need_inputs (.tuple v129.reverse)).bind fun z132 => z132.go (fun v131 => some (.ok (.none))) fun n133 xs134 b135 => some (.er n133 xs134 ()) : Option (Rz D Unit)).bind fun z136 => (F__law_word z136).bind fun v137 => (oEq v137 (.tuple [(.str "inputs"), (.int 1)])).bind fun v138 => some (!v138) else some false) = some false := by
      rw [Option.bind_some]
      by_cases h2 : (1 : Int) < (ins.length : Int)
      · rw [if_pos (decide_eq_true h2), show oL (.list (ins.map inP)) = some (ins.map inP) from rfl, Option.bind_some]
        have rv : ins.reverse.Pairwise fun a b => ltS b.1 a.1 := List.pairwise_reverse.mpr I.rise
        have mem : ∀ p ∈ ins.reverse, inOk p := fun p hp => I.nm p (List.mem_reverse.mp hp)
        have lr : ins.reverse.length = ins.length := List.length_reverse
        rw [← List.map_reverse]
        match er : ins.reverse, rv, mem, lr with
        | [], _, _, lr => exact absurd lr (by simp only [List.length_nil]; omega)
        | [p], _, _, lr => exact absurd lr (by simp only [List.length_cons, List.length_nil]; omega)
        | p :: q :: r, rv, mem, _ =>
          have lt : ltS q.1 p.1 := (List.pairwise_cons.mp rv).1 q List.mem_cons_self
          have bad3 : F_need_inputs (.tuple ((p :: q :: r).map inP)) = some (.er "BadInputs" [("place", .int 1)] ()) := need_bad (ins := [p]) ⟨fun y hy => by rw [List.mem_singleton.mp hy]; exact mem p List.mem_cons_self, List.pairwise_singleton _ _⟩ (x := inP q) (rest := r.map inP) (.low 0 rfl q p rfl (mem q (List.mem_cons_of_mem _ List.mem_cons_self)) rfl (fun h => List.lt_irrefl _ (List.lt_trans h lt)))
          rw [bad3, Option.bind_some, go_er, Option.bind_some, word_at, Option.bind_some, eq_at, Option.bind_some]
          rfl
      · rw [if_neg (fun q => h2 (of_decide_eq_true q))]
    rw [if_pos hne, Option.bind_some, p6, Option.bind_some]
    dsimp only
    rw [oAdd_i, Option.bind_some, eb, ei, Option.bind_some, sl3, Option.bind_some, ei, Option.bind_some, sl4, Option.bind_some, ad3, Option.bind_some, bad2, Option.bind_some, go_er, Option.bind_some, word_at, Option.bind_some, Option.bind_some, eq_at, Option.bind_some, if_neg (by decide), two, Option.bind_some, if_neg (by decide)]
    exact rest_ok hs6 (nl _)
theorem for_same {σ ρ : Type} {f : D → σ → Option (Ctl σ ρ)} {s : σ} : ∀ {l : List D}, (∀ x ∈ l, f x s = some (.nx s)) → oFor f l s = some (.nx s)
  | [], _ => rfl
  | x :: l, h => by
    rw [oFor, h x List.mem_cons_self, Option.bind_some]
    exact for_same fun y hy => h y (List.mem_cons_of_mem _ hy)
theorem law_main : ∀ ns : List Int, ns.length ≤ 63 → F_law (.list (ns.map PyData.int)) = some true := by
  intro ns hl
  obtain ⟨m, hm, hm2⟩ : ∃ m : Nat, max 3 (min 40 ((ns.length : Nat) : Int)) = (m : Nat) ∧ m ≤ 40 := ⟨max 3 (min 40 ns.length), by omega, by omega⟩
  have lp : oFor (fun x15 st139 => B_law_1 x15 st139) ((List.range m).map fun i => PyData.int (i : Nat)) (.list (ns.map PyData.int)) = some (.nx (.list (ns.map PyData.int))) := for_same fun x hx => by
    obtain ⟨i, hi, rfl⟩ := List.mem_map.mp hx
    have := List.mem_range.mp hi
    exact cell_turn (by omega)
  rw [F_law, many_ok, Option.bind_some, if_neg (by decide), oLen_l, List.length_map, Option.bind_some, hm, oRng_n (by omega), Option.bind_some, lp, Option.bind_some]
  rfl
end Gk10
set_option Elab.async false
set_option linter.all false
set_option maxRecDepth 100000
set_option maxHeartbeats 0
namespace Gk10
open PySem PySem.Spec PyProof.Rows L2 Pd
theorem facts {P : Program} {K : PySem.W.Frag} [HasW K] {h : Heap} {mg : Str → Option Value} {f : Addr} (X : K.In h) (G : h.Ns mainGlobals mg) (hfa : mg ("law" : Str) = some (.ref f)) (cq : SaysQ fa gdH fn K) :
    ∃ fd : FuncData, (∀ (s : Shared) (v : Value), BindsTo s fd ⟨[v], []⟩ [("_law_script", v)]) ∧ ∀ base : Heap, K.In base → base.Ns mainGlobals mg → (∀ p ∈ csK K, LamX.TabB base mg p.1 p.2) → FnG P (HasW.w K) K mg base CX0 10 f fd ["_law_script"] (spLawN K ((csK K).map (·.2))) := by
  have cc := says_p cq
  have c := cc.says
  obtain ⟨fd_is_whole, F_is_whole⟩ := c.def_ 0 (d := dd "is_whole" s_is_whole) rfl
  have m_is_whole := He.glo_ok X G (c.fact 0 (f := .glo "is_whole") rfl)
  obtain ⟨fd_is_among, F_is_among⟩ := c.def_ 1 (d := dd "is_among" s_is_among) rfl
  have m_is_among := He.glo_ok X G (c.fact 1 (f := .glo "is_among") rfl)
  obtain ⟨fd_is_name, F_is_name⟩ := c.def_ 2 (d := dd "is_name" s_is_name) rfl
  have m_is_name := He.glo_ok X G (c.fact 2 (f := .glo "is_name") rfl)
  obtain ⟨fd_is_input, F_is_input⟩ := c.def_ 3 (d := dd "is_input" s_is_input) rfl
  have m_is_input := He.glo_ok X G (c.fact 3 (f := .glo "is_input") rfl)
  obtain ⟨fd_need_inputs, F_need_inputs⟩ := c.def_ 4 (d := dd "need_inputs" s_need_inputs) rfl
  have m_need_inputs := He.glo_ok X G (c.fact 4 (f := .glo "need_inputs") rfl)
  obtain ⟨fd_need_limit, F_need_limit⟩ := c.def_ 5 (d := dd "need_limit" s_need_limit) rfl
  have m_need_limit := He.glo_ok X G (c.fact 5 (f := .glo "need_limit") rfl)
  obtain ⟨fd__law_begun, F__law_begun⟩ := c.def_ 6 (d := dd "_law_begun" s__law_begun) rfl
  have m__law_begun := He.glo_ok X G (c.fact 6 (f := .glo "_law_begun") rfl)
  obtain ⟨fd__law_pick, F__law_pick⟩ := c.def_ 7 (d := dd "_law_pick" s__law_pick) rfl
  have m__law_pick := He.glo_ok X G (c.fact 7 (f := .glo "_law_pick") rfl)
  obtain ⟨fd__law_names, F__law_names⟩ := c.def_ 8 (d := dd "_law_names" s__law_names) rfl
  have m__law_names := He.glo_ok X G (c.fact 8 (f := .glo "_law_names") rfl)
  obtain ⟨fd__law_kind, F__law_kind⟩ := c.def_ 9 (d := dd "_law_kind" s__law_kind) rfl
  have m__law_kind := He.glo_ok X G (c.fact 9 (f := .glo "_law_kind") rfl)
  obtain ⟨fd__law_word, F__law_word⟩ := c.def_ 10 (d := dd "_law_word" s__law_word) rfl
  have m__law_word := He.glo_ok X G (c.fact 10 (f := .glo "_law_word") rfl)
  obtain ⟨fd__law_good, F__law_good⟩ := c.def_ 11 (d := dd "_law_good" s__law_good) rfl
  have m__law_good := He.glo_ok X G (c.fact 11 (f := .glo "_law_good") rfl)
  obtain ⟨fd__law_odd, F__law_odd⟩ := c.def_ 12 (d := dd "_law_odd" s__law_odd) rfl
  have m__law_odd := He.glo_ok X G (c.fact 12 (f := .glo "_law_odd") rfl)
  obtain ⟨fd__law_any_name, F__law_any_name⟩ := c.def_ 13 (d := dd "_law_any_name" s__law_any_name) rfl
  have m__law_any_name := He.glo_ok X G (c.fact 13 (f := .glo "_law_any_name") rfl)
  obtain ⟨fd__law_many_right, F__law_many_right⟩ := c.def_ 14 (d := dd "_law_many_right" s__law_many_right) rfl
  have m__law_many_right := He.glo_ok X G (c.fact 14 (f := .glo "_law_many_right") rfl)
  obtain ⟨fd_law, F_law⟩ := c.def_ 15 (d := dd "law" s_law) rfl
  have m_law := He.glo_ok X G (c.fact 15 (f := .glo "law") rfl)
  obtain ⟨fd_BadInputs, F_BadInputs⟩ := c.def_ 16 (d := ddM "BadInputs" "__init__" "BadInputs.__init__" s_BadInputs) rfl
  have o_BadInputs := ownXB_ok (says_x cq (i := 0) (f := ownXB "BadInputs") rfl)
  have o_OutOfPlace := ownXB_ok (says_x cq (i := 1) (f := ownXB "OutOfPlace") rfl)
  have ow_BadInputs := ownIB_ok (says_x cq (i := 2) (f := ownIB "BadInputs") rfl)
  have n_BadInputs_0 := (of_decide_eq_true (says_x cq (i := 3) (f := fun K => decide (PySem.W.findIn K (.ref (He.ga K "BadInputs")) "place" = some none)) rfl))
  have bs_TwainError := baseB_ok (says_x cq (i := 4) (f := fun K => baseB K (He.ga K "TwainError")) rfl)
  have t_BadInputs := clsTB_ok (T := (fun K => .ref (He.ga K "BadInputs"))) (says_x cq (i := 5) (f := clsTB (fun K => .ref (He.ga K "BadInputs")) tb_BadInputs) rfl)
  have t_BadOrder := clsTB_ok (T := (fun K => .ref (He.ga K "BadOrder"))) (says_x cq (i := 6) (f := clsTB (fun K => .ref (He.ga K "BadOrder")) tb_BadOrder) rfl)
  have t_BadPaper := clsTB_ok (T := (fun K => .ref (He.ga K "BadPaper"))) (says_x cq (i := 7) (f := clsTB (fun K => .ref (He.ga K "BadPaper")) tb_BadPaper) rfl)
  have t_BadPlacing := clsTB_ok (T := (fun K => .ref (He.ga K "BadPlacing"))) (says_x cq (i := 8) (f := clsTB (fun K => .ref (He.ga K "BadPlacing")) tb_BadPlacing) rfl)
  have t_BadProgram := clsTB_ok (T := (fun K => .ref (He.ga K "BadProgram"))) (says_x cq (i := 9) (f := clsTB (fun K => .ref (He.ga K "BadProgram")) tb_BadProgram) rfl)
  have t_BadRow := clsTB_ok (T := (fun K => .ref (He.ga K "BadRow"))) (says_x cq (i := 10) (f := clsTB (fun K => .ref (He.ga K "BadRow")) tb_BadRow) rfl)
  have t_Leaking := clsTB_ok (T := (fun K => .ref (He.ga K "Leaking"))) (says_x cq (i := 11) (f := clsTB (fun K => .ref (He.ga K "Leaking")) tb_Leaking) rfl)
  have t_OutOfPlace := clsTB_ok (T := (fun K => .ref (He.ga K "OutOfPlace"))) (says_x cq (i := 12) (f := clsTB (fun K => .ref (He.ga K "OutOfPlace")) tb_OutOfPlace) rfl)
  have t_TooGreat := clsTB_ok (T := (fun K => .ref (He.ga K "TooGreat"))) (says_x cq (i := 13) (f := clsTB (fun K => .ref (He.ga K "TooGreat")) tb_TooGreat) rfl)
  have t_ValueError := clsTB_ok (T := (fun _ => .type "ValueError")) (says_x cq (i := 14) (f := clsTB (fun _ => .type "ValueError") tb_ValueError) rfl)
  have f_place := fldTB_ok (says_x cq (i := 15) (f := fldTB "place" ns_place) rfl)
  have f_row := fldTB_ok (says_x cq (i := 16) (f := fldTB "row" ns_row) rfl)
  have ex_TwainError := exmB_ok (T := (fun K => .ref (He.ga K "TwainError"))) (says_x cq (i := 17) (f := exmB (fun K => .ref (He.ga K "TwainError")) tb_TwainError) rfl)
  have e_OutOfPlace := (says_x cq (i := 18) (f := fun K => PySem.W.excIn K (He.ga K "OutOfPlace") He.veBase "ValueError.__new__") rfl)
  have cb_law := (says_x cq (i := 19) (f := fun K => codeB K (He.ga K "law")) rfl)
  have cb__law_many_right := (says_x cq (i := 20) (f := fun K => codeB K (He.ga K "_law_many_right")) rfl)
  have dj := of_decide_eq_true (says_x cq (i := 21) (f := fun K => decide ([(tabA K (He.ga K "law")).2, (tabA K (He.ga K "_law_many_right")).2].Nodup)) rfl)
  have m_BadInputs := He.glo_ok X G (c.fact 30 (f := .glo "BadInputs") rfl)
  have m_TwainError := He.glo_ok X G (c.fact 31 (f := .glo "TwainError") rfl)
  have m_BadOrder := He.glo_ok X G (c.fact 32 (f := .glo "BadOrder") rfl)
  have m_BadPaper := He.glo_ok X G (c.fact 33 (f := .glo "BadPaper") rfl)
  have m_BadPlacing := He.glo_ok X G (c.fact 34 (f := .glo "BadPlacing") rfl)
  have m_BadProgram := He.glo_ok X G (c.fact 35 (f := .glo "BadProgram") rfl)
  have m_BadRow := He.glo_ok X G (c.fact 36 (f := .glo "BadRow") rfl)
  have m_Leaking := He.glo_ok X G (c.fact 37 (f := .glo "Leaking") rfl)
  have m_OutOfPlace := He.glo_ok X G (c.fact 38 (f := .glo "OutOfPlace") rfl)
  have m_TooGreat := He.glo_ok X G (c.fact 39 (f := .glo "TooGreat") rfl)
  have fx : FX mg K := ⟨He.free_ok X G (c.fact 16 (f := .free "isinstance") rfl), He.free_ok X G (c.fact 17 (f := .free "int") rfl), He.free_ok X G (c.fact 18 (f := .free "bool") rfl), He.free_ok X G (c.fact 19 (f := .free "str") rfl), He.free_ok X G (c.fact 20 (f := .free "len") rfl), He.free_ok X G (c.fact 21 (f := .free "all") rfl), He.free_ok X G (c.fact 22 (f := .free "tuple") rfl), He.free_ok X G (c.fact 23 (f := .free "enumerate") rfl), He.free_ok X G (c.fact 24 (f := .free "abs") rfl), He.free_ok X G (c.fact 25 (f := .free "range") rfl), He.free_ok X G (c.fact 26 (f := .free "ValueError") rfl), He.free_ok X G (c.fact 27 (f := .free "sorted") rfl), He.free_ok X G (c.fact 28 (f := .free "min") rfl), He.free_ok X G (c.fact 29 (f := .free "max") rfl), gdB_ok X G (p := ("MOST_LETTERS", c_MOST_LETTERS)) (cc.gd 0 rfl), gdB_ok X G (p := ("KEYS", c_KEYS)) (cc.gd 1 rfl), gdB_ok X G (p := ("LETTERS", c_LETTERS)) (cc.gd 2 rfl), gdB_ok X G (p := ("MOST_INPUTS", c_MOST_INPUTS)) (cc.gd 3 rfl), gdB_ok X G (p := ("MOST", c_MOST)) (cc.gd 4 rfl), gdB_ok X G (p := ("MOST_STEPS", c_MOST_STEPS)) (cc.gd 5 rfl), m_BadInputs, t_BadInputs, m_BadOrder, t_BadOrder, m_BadPaper, t_BadPaper, m_BadPlacing, t_BadPlacing, m_BadProgram, t_BadProgram, m_BadRow, t_BadRow, m_Leaking, t_Leaking, m_OutOfPlace, t_OutOfPlace, m_TooGreat, t_TooGreat, t_ValueError, f_place, f_row, m_TwainError, ex_TwainError, ⟨o_OutOfPlace, e_OutOfPlace, m_OutOfPlace⟩⟩
  have e := hfa.symm.trans m_law
  cases e
  have b := FunD.bindsA (ps := ["_law_script"]) F_law fun _ _ _ _ _ _ us hl => match us, hl with | [_], _ => rfl
  refine ⟨fd_law, fun s v => b s [v] rfl, fun base _ _ TB => ?_⟩
  have GI_BadInputs : GI P (HasW.w K) K mg base 2 "BadInputs" ["place"] := i_BadInputs o_BadInputs ow_BadInputs m_BadInputs m_TwainError bs_TwainError n_BadInputs_0 F_BadInputs
  have LD__law_word : LamD K mg "_law_word" "_law_deed" N__law_word s__law_word _ fd__law_word.code := lamD_of F__law_word m__law_word sc__law_word rfl (.inl rfl) (fun _ _ _ _ _ _ us hl => match us, hl with | [_], _ => rfl)
  have cd_law := (codeB_ok (x := "law") (st := s_law) F_law X cb_law).1
  have TB_law := TB (tabA K (He.ga K "law")) (List.mem_of_getElem? (i := 0) rfl)
  have cd__law_many_right := (codeB_ok (x := "_law_many_right") (st := s__law_many_right) F__law_many_right X cb__law_many_right).1
  have TB__law_many_right := TB (tabA K (He.ga K "_law_many_right")) (List.mem_of_getElem? (i := 1) rfl)
  have g_is_whole : GK P (HasW.w K) K mg base 1 "is_whole" P_is_whole (spD K fs_is_whole) := k_is_whole (k := 0) fx  F_is_whole m_is_whole law_is_whole
  have g_is_among : GK P (HasW.w K) K mg base 2 "is_among" P_is_among (spD K fs_is_among) := k_is_among (k := 1) fx (g_is_whole.mono (Nat.le_of_ble_eq_true rfl)) F_is_among m_is_among law_is_among
  have g_is_name : GK P (HasW.w K) K mg base 1 "is_name" P_is_name (spD K fs_is_name) := k_is_name (k := 0) fx  F_is_name m_is_name law_is_name
  have g_is_input : GK P (HasW.w K) K mg base 3 "is_input" P_is_input (spD K fs_is_input) := k_is_input (k := 2) fx (g_is_name.mono (Nat.le_of_ble_eq_true rfl)) (g_is_among.mono (Nat.le_of_ble_eq_true rfl)) F_is_input m_is_input law_is_input
  have g_need_inputs : GKX P (HasW.w K) K mg base 4 "need_inputs" P_need_inputs (spD K fs_need_inputs) := k_need_inputs (k := 3) fx (g_is_input.mono (Nat.le_of_ble_eq_true rfl)) (GI_BadInputs.mono (Nat.le_of_ble_eq_true rfl)) F_need_inputs m_need_inputs law_need_inputs
  have g_need_limit : GKX P (HasW.w K) K mg base 3 "need_limit" P_need_limit (spD K fs_need_limit) := k_need_limit (k := 2) fx (g_is_among.mono (Nat.le_of_ble_eq_true rfl)) F_need_limit m_need_limit law_need_limit
  have g__law_begun : GK P (HasW.w K) K mg base 1 "_law_begun" P__law_begun (spD K fs__law_begun) := k__law_begun (k := 0) fx  F__law_begun m__law_begun law__law_begun
  have g__law_pick : GK P (HasW.w K) K mg base 1 "_law_pick" P__law_pick (spD K fs__law_pick) := k__law_pick (k := 0) fx  F__law_pick m__law_pick law__law_pick
  have g__law_names : GK P (HasW.w K) K mg base 2 "_law_names" P__law_names (spD K fs__law_names) := k__law_names (k := 1) fx (g__law_pick.mono (Nat.le_of_ble_eq_true rfl)) F__law_names m__law_names law__law_names
  have g__law_kind : GK P (HasW.w K) K mg base 1 "_law_kind" P__law_kind (spD K fs__law_kind) := k__law_kind (k := 0) fx  F__law_kind m__law_kind law__law_kind
  have g__law_good : GK P (HasW.w K) K mg base 2 "_law_good" P__law_good (spD K fs__law_good) := k__law_good (k := 1) fx (g__law_pick.mono (Nat.le_of_ble_eq_true rfl)) F__law_good m__law_good law__law_good
  have g__law_odd : GK P (HasW.w K) K mg base 2 "_law_odd" P__law_odd (spD K fs__law_odd) := k__law_odd (k := 1) fx (g__law_pick.mono (Nat.le_of_ble_eq_true rfl)) F__law_odd m__law_odd law__law_odd
  have g__law_any_name : GK P (HasW.w K) K mg base 2 "_law_any_name" P__law_any_name (spD K fs__law_any_name) := k__law_any_name (k := 1) fx (g__law_pick.mono (Nat.le_of_ble_eq_true rfl)) F__law_any_name m__law_any_name law__law_any_name
  have g__law_many_right : GK P (HasW.w K) K mg base 7 "_law_many_right" P__law_many_right (spT K (tabA K (He.ga K "_law_many_right")).2 q__law_many_right fs__law_many_right) := k__law_many_right (k := 4) fx (g__law_kind.mono (Nat.le_of_ble_eq_true rfl)) (g_need_inputs.mono (Nat.le_of_ble_eq_true rfl)) LD__law_word TB__law_many_right F__law_many_right m__law_many_right cd__law_many_right law__law_many_right
  exact k_law (k := 7) fx (g__law_many_right.mono (Nat.le_of_ble_eq_true rfl)) (g__law_begun.mono (Nat.le_of_ble_eq_true rfl)) (g__law_names.mono (Nat.le_of_ble_eq_true rfl)) (g__law_pick.mono (Nat.le_of_ble_eq_true rfl)) (g__law_good.mono (Nat.le_of_ble_eq_true rfl)) (g__law_kind.mono (Nat.le_of_ble_eq_true rfl)) (g_need_inputs.mono (Nat.le_of_ble_eq_true rfl)) (g__law_odd.mono (Nat.le_of_ble_eq_true rfl)) (g__law_any_name.mono (Nat.le_of_ble_eq_true rfl)) (g_need_limit.mono (Nat.le_of_ble_eq_true rfl)) LD__law_word TB_law dj F_law cd_law fun ns hl => law_law _ true (law_main ns hl) rfl
end Gk10
open PySem PySem.W PySem.Calls PyProof.Rows
theorem PySem.Challenge.cw_twainwork_k10_inputs_looked_at_holds : PySem.Challenge.rw_twainwork_k10_inputs_looked_at.Holds := by
  w_on; o_law
  refine HandSHeadRun.head_any (r := OpenLaw.row PySem.Challenge.rw_twainwork_k10_inputs_looked_at) (q := view (OpenLaw.row PySem.Challenge.rw_twainwork_k10_inputs_looked_at).prog [35]) (H := Gk10.hk) (ob := Gk10.ob) (M := 3400) (loose := Gk10.loose) (d := HandSHeadRun.topDef (OpenLaw.row PySem.Challenge.rw_twainwork_k10_inputs_looked_at).prog 35) (kwd := []) Gk10.ob_eq
    (by kernel_rfl) (fun s => by kernel_rfl) Gk10.run (by kernel_rfl) (by kernel_rfl) (by kernel_rfl) (by rfl) (by first | assumption | decide +kernel) (by decide +kernel) ⟨rfl, rfl, rfl, rfl, rfl, by decide +kernel⟩ ?hw ?hc
  case hw => w_witness2
  case hc =>
    refine Pd.walk_ofN (l := PySem.Challenge.rw_twainwork_k10_inputs_looked_at) (n := 63) (k := 10) (x := "_law_script") (CX := L2.CX0) rfl (by decide) (by kernel_rfl) ⟨rfl, by decide, by decide⟩ ?F (fun _ _ _ _ z => z)
    intro w mg fa h Y G hmg0
    obtain ⟨K, KX, c, tt⟩ := Y
    have hmg : mg ("law" : PySem.Str) = some (.ref fa) := by
      have e : (HandSHeadRun.topDef (OpenLaw.row PySem.Challenge.rw_twainwork_k10_inputs_looked_at).prog 35).name = ("law" : PySem.Str) := by kernel_rfl
      rw [← e]
      exact hmg0
    letI : Pd.HasW K := ⟨w⟩
    obtain ⟨fd, hb, hF⟩ := Gk10.facts (P := (PySem.Challenge.rw_twainwork_k10_inputs_looked_at).prog) (K := K) KX G hmg c
    exact ⟨K, fd, Pd.spLawN K ((Gk10.csK K).map (·.2)), Gk10.csK K, KX, Gk10.says_nol c, Gk10.says_tabs c KX tt, hb, fun H a ns hl hP hS => ⟨fun P hp => by
      obtain ⟨p, hp2, e⟩ := List.mem_map.mp hp
      rw [← e]
      exact hP p hp2, a, ns, rfl, hl, hS, fun _ => rfl⟩, hF⟩
